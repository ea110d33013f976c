import PyProof.Rows.All
import Wide.All
import OpenK.AllK
import Wide.FinOn
import HandS.EndBits
import HandS.ForMost
import HandS.Walk
import HandS.Wide
import HandS.ForExc
import HandS.ExcValue
import HandS.SortInts
import HandS.Deep
import HandS.WideBits
import HandS.TupAny
import HandS.IsInst
import HandS.Iter
import HandS.Rev
import HandS.RevTup
import HandS.Conv
import PyProof.ListRange
import HandS.Dict
import HandS.Style
import HandS.TupSets
import HandS.SetFor
import HandS.Defaults
import HandS.ExcIs
import HandS.SortKw
import KE.SortKeyHeap
import HandS.ExcInit
import HandS.ClsMeth
import HandS.ExcField
import KE.KExcIs
import PySem.Challenge.RW_sinceply_k02_records_refused
import KE.BitLaws
section T_SimA
set_option Elab.async false
set_option linter.all false
set_option maxRecDepth 100000
namespace Sim
open PySem PySem.Spec L2
open PyProof.Rows hiding St
abbrev Dt := PyData
def Fz (K : PySem.W.Frag) (H : Hp) (a : Addr) (xs : List V) : Prop :=
  (∃ o, H a = some (.frz o (.lst xs))) ∨
    ∃ (o : Obj) (its : Array Value) (n : Nat), K.lookup a = some o ∧ o.cls = .type "list" ∧ o.dict = none ∧ o.data = .seq its n ∧ its.size ≤ sizeLine ∧ Vals xs its.toList
def keyD : Key → Dt
  | .inl i => .int i
  | .inr x => .str x
abbrev exnM : Option Int → Dt
  | none => .none
  | some i => .int i
abbrev exnD (cls : Str) (m : Option Int) : Dt := .dict [(.none, .str cls), (.none, exnM m)]
abbrev frzD (ds : List Dt) : Dt := .dict [(.bool true, .list ds)]
def exnL : List (Dt × Dt) → Bool
  | (.none, _) :: _ => true
  | (.bool _, _) :: _ => true
  | _ => false
def ExH (C : Value) (d : Option Addr) (a : Addr) : HO := .ext fun h => ∃ (oe : Obj) (vs : Array Value), h.get? a = some oe ∧ Zc C d oe ∧ oe.data = .fields vs
def XdAt (H : Hp) (d : Option Addr) (m : Option Int) : Prop := match m with
  | none => d = none
  | some i => ∃ dd, d = some dd ∧ H dd = some (.xd [("moment", .int i)])
mutual
inductive Rp (K : PySem.W.Frag) (F : Addr → Prop) (H : Hp) : V → Dt → Prop
  | non : Rp K F H .non .none
  | bl (b : Bool) : Rp K F H (.bl b) (.bool b)
  | int (i : Int) : Rp K F H (.int i) (.int i)
  | str (x : Str) : Rp K F H (.str x) (.str x)
  | lst {a : Addr} {xs : List V} {ds : List Dt} : H a = some (.lst xs) → F a → RpA K F H xs ds → Rp K F H (.ref a) (.list ds)
  | fz {a : Addr} {xs : List V} {ds : List Dt} : Fz K H a xs → RpA K F H xs ds → Rp K F H (.ref a) (.dict [(.bool true, .list ds)])
  | tup {a : Addr} {xs : List V} {ds : List Dt} : SqT K H a xs → RpA K F H xs ds → Rp K F H (.ref a) (.tuple ds)
  | dic {a : Addr} {kvs : List (Key × V)} {es : List (Dt × Dt)} : H a = some (.dK kvs) → F a → kvs.map (fun kv => keyD kv.1) = es.map (fun e => e.1) → RpA K F H (kvs.map fun kv => kv.2) (es.map fun e => e.2) → Rp K F H (.ref a) (.dict es)
  | exn {a C : Addr} {cls : Str} {d : Option Addr} {m : Option Int} : PySem.W.nsIn K mainGlobals cls = some (some (.ref C)) → H a = some (ExH (.ref C) d a) → XdAt H d m → Rp K F H (.ref a) (.dict [(.none, .str cls), (.none, exnM m)])
inductive RpA (K : PySem.W.Frag) (F : Addr → Prop) (H : Hp) : List V → List Dt → Prop
  | nil : RpA K F H [] []
  | cons {v : V} {vs : List V} {d : Dt} {ds : List Dt} : Rp K F H v d → RpA K F H vs ds → RpA K F H (v :: vs) (d :: ds)
end
section
variable {K : PySem.W.Frag} {F F' : Addr → Prop} {H H' : Hp} {v : V} {d : Dt} {vs : List V} {ds : List Dt} {a p : Addr} {xs : List V}
theorem Fz.same (e : Same H H') (h : Fz K H a xs) : Fz K H' a xs := by
  rcases h with ⟨o, h⟩ | h
  · exact .inl ⟨o, e _ _ h⟩
  · exact .inr h
theorem Fz.sql (h : Fz K H a xs) : SqL K H a xs := by
  rcases h with ⟨o, h⟩ | h
  · exact .inl (.inr ⟨o, h⟩)
  · exact .inr h
theorem sqt_same (e : Same H H') (h : SqT K H a xs) : SqT K H' a xs := by
  rcases h with (h | ⟨o, h⟩) | h
  · exact .inl (.inl (e _ _ h))
  · exact .inl (.inr ⟨o, e _ _ h⟩)
  · exact .inr h
theorem XdAt.same {d : Option Addr} {m : Option Int} (e : Same H H') (x : XdAt H d m) : XdAt H' d m := by
  cases m with
  | none => exact x
  | some i =>
    obtain ⟨dd, h1, h2⟩ := x
    exact ⟨dd, h1, e _ _ h2⟩
mutual
theorem Rp.mono (e : Same H H') (f : ∀ a, F a → H a ≠ none → F' a) : ∀ {v : V} {d : Dt}, Rp K F H v d → Rp K F' H' v d
  | _, _, .non => .non
  | _, _, .bl b => .bl b
  | _, _, .int i => .int i
  | _, _, .str x => .str x
  | _, _, .lst h fa r => .lst (e _ _ h) (f _ fa (by rw [h]; exact fun z => nomatch z)) (RpA.mono e f r)
  | _, _, .fz h r => .fz (h.same e) (RpA.mono e f r)
  | _, _, .tup h r => .tup (sqt_same e h) (RpA.mono e f r)
  | _, _, .dic h fa hk r => .dic (e _ _ h) (f _ fa (by rw [h]; exact fun z => nomatch z)) hk (RpA.mono e f r)
  | _, _, .exn n h x => .exn n (e _ _ h) (x.same e)
theorem RpA.mono (e : Same H H') (f : ∀ a, F a → H a ≠ none → F' a) : ∀ {vs : List V} {ds : List Dt}, RpA K F H vs ds → RpA K F' H' vs ds
  | _, _, .nil => .nil
  | _, _, .cons h r => .cons (Rp.mono e f h) (RpA.mono e f r)
end
def Mutb (o : HO) : Prop := match o with
  | .lst _ => True
  | .dK _ => True
  | .dT _ => True
  | _ => False
theorem exH_ne {o : HO} {C : Value} {d : Option Addr} (hp : H p = some o) (m : Mutb o) (h : H a = some (ExH C d a)) : a ≠ p := fun z => by
  subst z
  rw [hp] at h
  cases h
  exact m
theorem XdAt.updM {o o' : HO} {d : Option Addr} {m : Option Int} (hp : H p = some o) (mu : Mutb o) (x : XdAt H d m) : XdAt (upd H p o') d m := by
  cases m with
  | none => exact x
  | some i =>
    obtain ⟨dd, h1, h2⟩ := x
    refine ⟨dd, h1, ?_⟩
    rw [upd_ne ?_]
    · exact h2
    · intro z
      subst z
      rw [hp] at h2
      cases h2
      exact mu
theorem Fz.updM {o o' : HO} (hp : H p = some o) (m : Mutb o) (h : Fz K H a xs) : Fz K (upd H p o') a xs := by
  rcases h with ⟨q, h⟩ | h
  · refine .inl ⟨q, ?_⟩
    rw [upd_ne ?_]
    · exact h
    · intro z
      subst z
      rw [hp] at h
      cases h
      exact m
  · exact .inr h
theorem sqt_updM {o o' : HO} (hp : H p = some o) (m : Mutb o) (h : SqT K H a xs) : SqT K (upd H p o') a xs := by
  rcases h with (h | ⟨q, h⟩) | h
  · refine .inl (.inl ?_)
    rw [upd_ne ?_]
    · exact h
    · intro z
      subst z
      rw [hp] at h
      cases h
      exact m
  · refine .inl (.inr ⟨q, ?_⟩)
    rw [upd_ne ?_]
    · exact h
    · intro z
      subst z
      rw [hp] at h
      cases h
      exact m
  · exact .inr h
mutual
theorem Rp.updM {o o' : HO} (hp : H p = some o) (m : Mutb o) (nf : ∀ a, F a → a ≠ p) : ∀ {v : V} {d : Dt}, Rp K F H v d → Rp K F (upd H p o') v d
  | _, _, .non => .non
  | _, _, .bl b => .bl b
  | _, _, .int i => .int i
  | _, _, .str x => .str x
  | _, _, .lst h fa r => .lst (by rw [upd_ne (nf _ fa)]; exact h) fa (RpA.updM hp m nf r)
  | _, _, .fz h r => .fz (h.updM hp m) (RpA.updM hp m nf r)
  | _, _, .tup h r => .tup (sqt_updM hp m h) (RpA.updM hp m nf r)
  | _, _, .dic h fa hk r => .dic (by rw [upd_ne (nf _ fa)]; exact h) fa hk (RpA.updM hp m nf r)
  | _, _, .exn n h x => .exn n (by rw [upd_ne (exH_ne hp m h)]; exact h) (x.updM hp m)
theorem RpA.updM {o o' : HO} (hp : H p = some o) (m : Mutb o) (nf : ∀ a, F a → a ≠ p) : ∀ {vs : List V} {ds : List Dt}, RpA K F H vs ds → RpA K F (upd H p o') vs ds
  | _, _, .nil => .nil
  | _, _, .cons h r => .cons (Rp.updM hp m nf h) (RpA.updM hp m nf r)
end
mutual
theorem Rp.dp : ∀ {v : V} {d : Dt}, Rp K F H v d → PyData.canLay0 d = true → Dp K H v d
  | _, _, .non, _ => .non
  | _, _, .bl b, _ => .bl b
  | _, _, .int i, _ => .int i
  | _, _, .str x, _ => .str x
  | _, _, .lst h _ r, c => .lst (.inl (.inl h)) (RpA.dp r (by simpa [PyData.canLay0] using c))
  | _, _, .fz _ _, c => by simp [PyData.canLay0] at c
  | _, _, .tup h r, c => .tup h (RpA.dp r (by simpa [PyData.canLay0] using c))
  | _, _, .dic _ _ _ _, c => by simp [PyData.canLay0] at c
  | _, _, .exn _ _ _, c => by simp [PyData.canLay0] at c
theorem RpA.dp : ∀ {vs : List V} {ds : List Dt}, RpA K F H vs ds → PyData.canLayAll0 ds = true → DpAll K H vs ds
  | _, _, .nil, _ => .nil
  | _, _, .cons h r, c => by
    unfold PyData.canLayAll0 at c
    rw [Bool.and_eq_true] at c
    exact .cons (Rp.dp h c.1) (RpA.dp r c.2)
end
theorem shaped_lay {d : Dt} (h : SeqAt.shaped d = true) : PyData.canLay0 d = true := by
  unfold SeqAt.shaped at h
  rw [Bool.and_eq_true] at h
  exact h.1
theorem RpA.length : ∀ {vs : List V} {ds : List Dt}, RpA K F H vs ds → vs.length = ds.length
  | _, _, .nil => rfl
  | _, _, .cons _ r => by rw [List.length_cons, List.length_cons, r.length]
theorem RpA.get : ∀ {vs : List V} {ds : List Dt} {i : Nat} {v : V}, RpA K F H vs ds → vs[i]? = some v → ∃ d, ds[i]? = some d ∧ Rp K F H v d
  | _, _, _, _, .nil, e => by simp at e
  | _, _, 0, _, .cons h _, e => by simp at e; subst e; exact ⟨_, rfl, h⟩
  | _, _, i + 1, v, .cons _ r, e => by
    obtain ⟨d, h1, h2⟩ := RpA.get (i := i) (v := v) r (by simpa using e)
    exact ⟨d, by simpa using h1, h2⟩
theorem RpA.get' : ∀ {vs : List V} {ds : List Dt} {i : Nat} {d : Dt}, RpA K F H vs ds → ds[i]? = some d → ∃ v, vs[i]? = some v ∧ Rp K F H v d
  | _, _, _, _, .nil, e => by simp at e
  | _, _, 0, _, .cons h _, e => by simp at e; subst e; exact ⟨_, rfl, h⟩
  | _, _, i + 1, d, .cons _ r, e => by
    obtain ⟨v, h1, h2⟩ := RpA.get' (i := i) (d := d) r (by simpa using e)
    exact ⟨v, by simpa using h1, h2⟩
theorem RpA.append : ∀ {xs ys : List V} {ds es : List Dt}, RpA K F H xs ds → RpA K F H ys es → RpA K F H (xs ++ ys) (ds ++ es)
  | _, _, _, _, .nil, s => s
  | _, _, _, _, .cons h r, s => .cons h (RpA.append r s)
theorem RpA.take : ∀ {xs : List V} {ds : List Dt} (n : Nat), RpA K F H xs ds → RpA K F H (xs.take n) (ds.take n)
  | _, _, 0, _ => .nil
  | _, _, _ + 1, .nil => .nil
  | _, _, n + 1, .cons h r => .cons h (RpA.take n r)
theorem RpA.drop : ∀ {xs : List V} {ds : List Dt} (n : Nat), RpA K F H xs ds → RpA K F H (xs.drop n) (ds.drop n)
  | _, _, 0, r => r
  | _, _, _ + 1, .nil => .nil
  | _, _, n + 1, .cons _ r => RpA.drop n r
theorem RpA.set {x : V} {d : Dt} (h : Rp K F H x d) : ∀ {xs : List V} {ds : List Dt} (i : Nat), RpA K F H xs ds → RpA K F H (xs.set i x) (ds.set i d)
  | _, _, _, .nil => .nil
  | _, _, 0, .cons _ r => .cons h r
  | _, _, i + 1, .cons q r => .cons q (RpA.set h i r)
theorem RpA.reverse {xs : List V} {ds : List Dt} (h : RpA K F H xs ds) : RpA K F H xs.reverse ds.reverse := by
  induction xs generalizing ds with
  | nil => cases h; exact .nil
  | cons x xs ih =>
    cases h with
    | cons q r =>
      rw [List.reverse_cons, List.reverse_cons]
      exact (ih r).append (.cons q .nil)
mutual
def pure1 : Dt → Bool
  | .list _ => false
  | .dict _ => false
  | .tuple xs => pureA xs
  | _ => true
def pureA : List Dt → Bool
  | [] => true
  | x :: xs => pure1 x && pureA xs
end
mutual
theorem Rp.pure : ∀ {v : V} {d : Dt}, Rp K F H v d → pure1 d = true → Rp K F' H v d
  | _, _, .non, _ => .non
  | _, _, .bl b, _ => .bl b
  | _, _, .int i, _ => .int i
  | _, _, .str x, _ => .str x
  | _, _, .lst h _ r, e => by rw [pure1] at e; cases e
  | _, _, .fz h r, e => by rw [pure1] at e; cases e
  | _, _, .tup h r, e => .tup h (RpA.pure r (by rw [pure1] at e; exact e))
  | _, _, .dic h _ _ r, e => by rw [pure1] at e; cases e
  | _, _, .exn n h x, _ => .exn n h x
theorem RpA.pure : ∀ {vs : List V} {ds : List Dt}, RpA K F H vs ds → pureA ds = true → RpA K F' H vs ds
  | _, _, .nil, _ => .nil
  | _, _, .cons h r, e => by
    rw [pureA, Bool.and_eq_true] at e
    exact .cons (Rp.pure h e.1) (RpA.pure r e.2)
end
theorem Rp.weak (f : ∀ a, F a → F' a) (h : Rp K F H v d) : Rp K F' H v d := h.mono (Same.refl H) fun a fa _ => f a fa
theorem RpA.weak (f : ∀ a, F a → F' a) (h : RpA K F H vs ds) : RpA K F' H vs ds := h.mono (Same.refl H) fun a fa _ => f a fa
theorem Rp.same (e : Same H H') (h : Rp K F H v d) : Rp K F H' v d := h.mono e fun a fa _ => fa
theorem RpA.same (e : Same H H') (h : RpA K F H vs ds) : RpA K F H' vs ds := h.mono e fun a fa _ => fa
end
mutual
inductive Tr (K : PySem.W.Frag) (S : Addr → Prop) (H : Hp) : V → Dt → List Addr → Prop
  | leaf {v : V} {d : Dt} : Rp K (fun _ => False) H v d → Tr K S H v d []
  | lst {a : Addr} {xs : List V} {ds : List Dt} {L : List Addr} : H a = some (.lst xs) → S a → a ∉ L → TrA K S H xs ds L → Tr K S H (.ref a) (.list ds) (a :: L)
  | tup {a : Addr} {xs : List V} {ds : List Dt} {L : List Addr} : SqT K H a xs → TrA K S H xs ds L → Tr K S H (.ref a) (.tuple ds) L
inductive TrA (K : PySem.W.Frag) (S : Addr → Prop) (H : Hp) : List V → List Dt → List Addr → Prop
  | nil : TrA K S H [] [] []
  | cons {v : V} {vs : List V} {d : Dt} {ds : List Dt} {L M : List Addr} : Tr K S H v d L → TrA K S H vs ds M → (∀ a ∈ L, a ∉ M) → TrA K S H (v :: vs) (d :: ds) (L ++ M)
end
section
variable {K : PySem.W.Frag} {S S' : Addr → Prop} {H H' : Hp} {p : Addr}
mutual
theorem Tr.mono (e : Same H H') (f : ∀ a, S a → H a ≠ none → S' a) : ∀ {v : V} {d : Dt} {L : List Addr}, Tr K S H v d L → Tr K S' H' v d L
  | _, _, _, .leaf h => .leaf (h.mono e fun _ z _ => z)
  | _, _, _, .lst h sa n r => .lst (e _ _ h) (f _ sa (by rw [h]; exact fun z => nomatch z)) n (TrA.mono e f r)
  | _, _, _, .tup h r => .tup (sqt_same e h) (TrA.mono e f r)
theorem TrA.mono (e : Same H H') (f : ∀ a, S a → H a ≠ none → S' a) : ∀ {vs : List V} {ds : List Dt} {L : List Addr}, TrA K S H vs ds L → TrA K S' H' vs ds L
  | _, _, _, .nil => .nil
  | _, _, _, .cons h r n => .cons (Tr.mono e f h) (TrA.mono e f r) n
end
mutual
/-- an update elsewhere -/
theorem Tr.updN {o o' : HO} (hp : H p = some o) (m : Mutb o) : ∀ {v : V} {d : Dt} {L : List Addr}, Tr K S H v d L → p ∉ L → Tr K S (upd H p o') v d L
  | _, _, _, .leaf h, _ => .leaf (h.updM hp m fun _ z => z.elim)
  | _, _, _, .lst (a := a) h sa n r, np => .lst (by rw [upd_ne (fun z : a = p => np (by rw [z]; exact List.mem_cons_self))]; exact h) sa n (TrA.updN hp m r fun z => np (List.mem_cons_of_mem _ z))
  | _, _, _, .tup h r, np => .tup (sqt_updM hp m h) (TrA.updN hp m r np)
theorem TrA.updN {o o' : HO} (hp : H p = some o) (m : Mutb o) : ∀ {vs : List V} {ds : List Dt} {L : List Addr}, TrA K S H vs ds L → p ∉ L → TrA K S (upd H p o') vs ds L
  | _, _, _, .nil, _ => .nil
  | _, _, _, .cons h r n, np => .cons (Tr.updN hp m h fun z => np (List.mem_append_left _ z)) (TrA.updN hp m r fun z => np (List.mem_append_right _ z)) n
end
mutual
theorem Tr.mem : ∀ {v : V} {d : Dt} {L : List Addr}, Tr K S H v d L → ∀ a ∈ L, S a ∧ ∃ xs, H a = some (.lst xs)
  | _, _, _, .leaf _ => fun _ z => nomatch z
  | _, _, _, .lst h sa _ r => fun b hb => by
    rcases List.mem_cons.mp hb with z | z
    · subst z; exact ⟨sa, _, h⟩
    · exact TrA.mem r b z
  | _, _, _, .tup _ r => TrA.mem r
theorem TrA.mem : ∀ {vs : List V} {ds : List Dt} {L : List Addr}, TrA K S H vs ds L → ∀ a ∈ L, S a ∧ ∃ xs, H a = some (.lst xs)
  | _, _, _, .nil => fun _ z => nomatch z
  | _, _, _, .cons h r _ => fun b hb => by
    rcases List.mem_append.mp hb with z | z
    · exact Tr.mem h b z
    · exact TrA.mem r b z
end
theorem Tr.same (e : Same H H') {v : V} {d : Dt} {L : List Addr} (h : Tr K S H v d L) : Tr K S H' v d L := h.mono e fun _ z _ => z
theorem Tr.updM {o o' : HO} (hp : H p = some o) (m : Mutb o) (nf : ∀ a, S a → a ≠ p) {v : V} {d : Dt} {L : List Addr} (h : Tr K S H v d L) : Tr K S (upd H p o') v d L := h.updN hp m fun z => nf p (h.mem p z).1 rfl
end
structure Exn where
  cls : Str
  arg : Option Int
inductive O (α : Type) where
  | bad | ok (a : α) | ex (e : Exn)
def bnd {α β : Type} (x : O α) (f : α → O β) : O β := match x with
  | .bad => .bad
  | .ok a => f a
  | .ex e => .ex e
@[simp] theorem bnd_ok {α β : Type} (a : α) (f : α → O β) : bnd (.ok a) f = f a := rfl
@[simp] theorem bnd_bad {α β : Type} (f : α → O β) : bnd .bad f = .bad := rfl
@[simp] theorem bnd_ex {α β : Type} (e : Exn) (f : α → O β) : bnd (.ex e) f = .ex e := rfl
inductive Ct where
  | l | dk | dt | la | ka
def isArg : Ct → Bool
  | .la => true
  | .ka => true
  | _ => false
inductive Kd where
  | no | im (fr : Bool) | own (c : Ct) (fr : Bool) | sl (t : Bool := false)
structure Fm where
  H0 : Hp
  G : Addr → Prop
  Γ : List (List V × List Dt × Bool)
  P : List Addr
  A : Option Addr := none
  /-- the lists of what is sealed -/
  S : List Addr := []
  hS : ∀ a ∈ S, a ∈ P := by exact fun a h => nomatch h
def SlC (K : PySem.W.Frag) (f : Fm) (t : Bool) (H : Hp) (v : V) (d : Dt) : Prop := Rp K (fun a => a ∈ f.S) H v d ∧ (t = true → ∃ L, Tr K (fun a => a ∈ f.S) H v d L)
theorem SlC.same {K : PySem.W.Frag} {f : Fm} {t : Bool} {H H' : Hp} {v : V} {d : Dt} (h : SlC K f t H v d) (e : Same H H') : SlC K f t H' v d := ⟨h.1.same e, fun t => let ⟨L, x⟩ := h.2 t; ⟨L, x.same e⟩⟩
theorem SlC.updM {K : PySem.W.Frag} {f : Fm} {t : Bool} {H : Hp} {p : Addr} {o o' : HO} {v : V} {d : Dt} (h : SlC K f t H v d) (hp : H p = some o) (m : Mutb o) (nf : ∀ a, a ∈ f.S → a ≠ p) : SlC K f t (upd H p o') v d := ⟨h.1.updM hp m nf, fun t => let ⟨L, x⟩ := h.2 t; ⟨L, x.updM hp m nf⟩⟩
def Ow (Δ : List Kd) (σ : St) (a : Addr) : Prop := ∃ (i : Nat) (c : Ct) (fr : Bool), Δ[i]? = some (Kd.own c fr) ∧ σ[i]? = some (some (V.ref a))
def FM (f : Fm) (Δ : List Kd) (σ : St) (av fr : Bool) (a : Addr) : Prop := (av = true → ¬ Ow Δ σ a ∧ a ∉ f.P) ∧ (fr = true → f.G a)
inductive KvA (K : PySem.W.Frag) (F : Addr → Prop) (H : Hp) : List (Key × V) → List (Dt × Dt) → Prop
  | nil : KvA K F H [] []
  | cons {k : Key} {v : V} {d : Dt} {kvs : List (Key × V)} {es : List (Dt × Dt)} : Rp K F H v d → KvA K F H kvs es → KvA K F H ((k, v) :: kvs) ((keyD k, d) :: es)
inductive KtA (K : PySem.W.Frag) (F : Addr → Prop) (H : Hp) : List (List Key × V) → List (Dt × Dt) → Prop
  | nil : KtA K F H [] []
  | cons {k : List Key} {v : V} {d : Dt} {kvs : List (List Key × V)} {es : List (Dt × Dt)} : Rp K F H v d → KtA K F H kvs es → KtA K F H ((k, v) :: kvs) ((.tuple (k.map keyD), d) :: es)
def OwC (K : PySem.W.Frag) (c : Ct) (F : Addr → Prop) (H : Hp) (p : Addr) (d : Dt) : Prop := match c with
  | .l => ∃ vs ds, d = .list ds ∧ H p = some (.lst vs) ∧ RpA K F H vs ds
  | .dk => ∃ kvs es, d = .dict es ∧ H p = some (.dK kvs) ∧ KvA K F H kvs es
  | .dt => ∃ kvs es, d = .dict es ∧ H p = some (.dT kvs) ∧ KtA K F H kvs es
  | .la => ∃ vs ds, d = .list ds ∧ H p = some (.lst vs) ∧ RpA K F H vs ds
  | .ka => ∃ kvs es, d = .dict es ∧ H p = some (.dK kvs) ∧ KvA K F H kvs es
section
variable {K : PySem.W.Frag} {F F' : Addr → Prop} {H H' : Hp} {p q : Addr} {d : Dt} {c : Ct}
theorem KvA.map {kvs es} (f : ∀ v d, Rp K F H v d → Rp K F' H' v d) : KvA K F H kvs es → KvA K F' H' kvs es
  | .nil => .nil
  | .cons h r => .cons (f _ _ h) (KvA.map f r)
theorem KtA.map {kvs es} (f : ∀ v d, Rp K F H v d → Rp K F' H' v d) : KtA K F H kvs es → KtA K F' H' kvs es
  | .nil => .nil
  | .cons h r => .cons (f _ _ h) (KtA.map f r)
theorem RpA.map {vs ds} (f : ∀ v d, Rp K F H v d → Rp K F' H' v d) : RpA K F H vs ds → RpA K F' H' vs ds
  | .nil => .nil
  | .cons h r => .cons (f _ _ h) (RpA.map f r)
theorem OwC.map (hp : ∀ o, H p = some o → H' p = some o) (f : ∀ v d, Rp K F H v d → Rp K F' H' v d) (h : OwC K c F H p d) : OwC K c F' H' p d := by
  cases c with
  | l => obtain ⟨vs, ds, e, h1, h2⟩ := h; exact ⟨vs, ds, e, hp _ h1, h2.map f⟩
  | dk => obtain ⟨vs, ds, e, h1, h2⟩ := h; exact ⟨vs, ds, e, hp _ h1, h2.map f⟩
  | dt => obtain ⟨vs, ds, e, h1, h2⟩ := h; exact ⟨vs, ds, e, hp _ h1, h2.map f⟩
  | la => obtain ⟨vs, ds, e, h1, h2⟩ := h; exact ⟨vs, ds, e, hp _ h1, h2.map f⟩
  | ka => obtain ⟨vs, ds, e, h1, h2⟩ := h; exact ⟨vs, ds, e, hp _ h1, h2.map f⟩
theorem OwC.mutb (h : OwC K c F H p d) : ∃ o, H p = some o ∧ Mutb o := by
  cases c with
  | l => obtain ⟨vs, ds, e, h1, h2⟩ := h; exact ⟨_, h1, trivial⟩
  | dk => obtain ⟨vs, ds, e, h1, h2⟩ := h; exact ⟨_, h1, trivial⟩
  | dt => obtain ⟨vs, ds, e, h1, h2⟩ := h; exact ⟨_, h1, trivial⟩
  | la => obtain ⟨vs, ds, e, h1, h2⟩ := h; exact ⟨_, h1, trivial⟩
  | ka => obtain ⟨vs, ds, e, h1, h2⟩ := h; exact ⟨_, h1, trivial⟩
theorem OwC.there (h : OwC K c F H p d) : H p ≠ none := by
  obtain ⟨o, e, _⟩ := h.mutb
  rw [e]
  exact fun z => nomatch z
end
structure R (K : PySem.W.Frag) (f : Fm) (Δ : List Kd) (ρ : List Dt) (σ : St) (H : Hp) : Prop where
  ext : Same f.H0 H
  g0 : ∀ a, f.H0 a = none → f.G a
  lσ : σ.length = Δ.length
  lρ : ρ.length = Δ.length
  inj : ∀ (i j : Nat) (ci : Ct) (fi : Bool) (cj : Ct) (fj : Bool) (p : Addr), Δ[i]? = some (Kd.own ci fi) → Δ[j]? = some (Kd.own cj fj) → σ[i]? = some (some (V.ref p)) → σ[j]? = some (some (V.ref p)) → i = j
  pin : ∀ a ∈ f.P, (∃ o, H a = some o ∧ Mutb o) ∧ ¬ Ow Δ σ a
  gh : ∀ g ∈ f.Γ, RpA K (FM f Δ σ true g.2.2) H g.1 g.2.1
  im : ∀ (i : Nat) (fr : Bool), Δ[i]? = some (Kd.im fr) → ∃ v d, σ[i]? = some (some v) ∧ ρ[i]? = some d ∧ Rp K (FM f Δ σ true fr) H v d
  ow : ∀ (i : Nat) (c : Ct) (fr : Bool), Δ[i]? = some (Kd.own c fr) → ∃ p d, σ[i]? = some (some (V.ref p)) ∧ ρ[i]? = some d ∧ f.H0 p = none ∧ OwC K c (FM f Δ σ true fr) H p d
  ar : ∀ (i : Nat) (c : Ct) (fr : Bool), Δ[i]? = some (Kd.own c fr) → isArg c = true → ∃ p, f.A = some p ∧ σ[i]? = some (some (V.ref p))
  sp : ∀ a ∈ f.S, f.H0 a = none ∧ f.G a
  sl : ∀ (i : Nat) (t : Bool), Δ[i]? = some (Kd.sl t) → ∃ v d, σ[i]? = some (some v) ∧ ρ[i]? = some d ∧ SlC K f t H v d
section
variable {K : PySem.W.Frag} {f : Fm} {Δ : List Kd} {ρ : List Dt} {σ : St} {H H' : Hp} {v : V} {d : Dt} {i : Nat} {p : Addr}
theorem FM.weak {av fr av' fr' : Bool} (h1 : av' = true → av = true) (h2 : fr' = true → fr = true) {a : Addr} (h : FM f Δ σ av fr a) : FM f Δ σ av' fr' a := ⟨fun e => h.1 (h1 e), fun e => h.2 (h2 e)⟩
theorem R.mono (r : R K f Δ ρ σ H) (e : Same H H') : R K f Δ ρ σ H' where
  ext := r.ext.trans e
  g0 := r.g0
  lσ := r.lσ
  lρ := r.lρ
  inj := r.inj
  pin := fun a ha => let ⟨⟨o, h1, h2⟩, h3⟩ := r.pin a ha; ⟨⟨o, e _ _ h1, h2⟩, h3⟩
  gh := fun g hg => (r.gh g hg).same e
  im := fun i fr h => let ⟨v, d, h1, h2, h3⟩ := r.im i fr h; ⟨v, d, h1, h2, h3.same e⟩
  ow := fun i c fr h => let ⟨p, d, h1, h2, h3, h4⟩ := r.ow i c fr h; ⟨p, d, h1, h2, h3, h4.map (fun o => e p o) fun _ _ q => q.same e⟩
  ar := r.ar
  sp := r.sp
  sl := fun i t h => let ⟨v, d, h1, h2, h3⟩ := r.sl i t h; ⟨v, d, h1, h2, h3.same e⟩
theorem R.owOf (r : R K f Δ ρ σ H) {a : Addr} (h : Ow Δ σ a) : (∃ o, H a = some o ∧ Mutb o) ∧ f.H0 a = none := by
  obtain ⟨i, c, fr, h1, h2⟩ := h
  obtain ⟨p, d, e1, _, e3, e4⟩ := r.ow i c fr h1
  rw [h2] at e1
  cases e1
  exact ⟨e4.mutb, e3⟩
theorem R.fresh (r : R K f Δ ρ σ H) (h : H p = none) : ¬ Ow Δ σ p ∧ p ∉ f.P ∧ f.H0 p = none := by
  refine ⟨fun z => ?_, fun z => ?_, ?_⟩
  · obtain ⟨⟨o, e, _⟩, _⟩ := r.owOf z
    rw [h] at e; cases e
  · obtain ⟨⟨o, e, _⟩, _⟩ := r.pin p z
    rw [h] at e; cases e
  · cases q : f.H0 p with
    | none => rfl
    | some o => rw [r.ext p o q] at h; cases h
theorem R.updAt {o o' : HO} (r : R K f Δ ρ σ H) (hp : H p = some o) (m : Mutb o) (m' : Mutb o') (h0 : f.H0 p = none) (no : ¬ Ow Δ σ p) (hP : p ∈ f.P) (hs : ∀ (i : Nat) (t : Bool), Δ[i]? = some (Kd.sl t) → p ∉ f.S) : R K f Δ ρ σ (upd H p o') := by
  have key : ∀ {fr : Bool} {v : V} {d : Dt}, Rp K (FM f Δ σ true fr) H v d → Rp K (FM f Δ σ true fr) (upd H p o') v d := fun h =>
    h.updM hp m fun a fa z => (fa.1 rfl).2 (z ▸ hP)
  refine ⟨fun b u e => ?_, r.g0, r.lσ, r.lρ, r.inj, fun a ha => ⟨?_, (r.pin a ha).2⟩, fun g hg => (r.gh g hg).map fun _ _ x => key x, fun i fr h => ?_, fun i c fr h => ?_, r.ar, r.sp, fun i t h => let ⟨v, d, h1, h2, h3⟩ := r.sl i t h; ⟨v, d, h1, h2, h3.updM hp m fun a fa z => hs i t h (z ▸ fa)⟩⟩
  · have : b ≠ p := fun z => by subst z; rw [h0] at e; cases e
    rw [upd_ne this]
    exact r.ext b u e
  · by_cases z : a = p
    · subst z
      exact ⟨o', upd_same, m'⟩
    · rw [upd_ne z]
      exact (r.pin a ha).1
  · obtain ⟨v, d, h1, h2, h3⟩ := r.im i fr h
    exact ⟨v, d, h1, h2, key h3⟩
  · obtain ⟨q, d, h1, h2, h3, h4⟩ := r.ow i c fr h
    have nq : q ≠ p := fun z => no ⟨i, c, fr, h, z ▸ h1⟩
    exact ⟨q, d, h1, h2, h3, h4.map (fun u e => by rw [upd_ne nq]; exact e) fun _ _ x => key x⟩
theorem R.updOwn {o' : HO} {c : Ct} {fr : Bool} (r : R K f Δ ρ σ H) (hk : Δ[i]? = some (Kd.own c fr)) (hs : σ[i]? = some (some (V.ref p)))
    {fr' : Bool} (m' : Mutb o') {c' : Ct} (new : OwC K c' (FM f Δ σ true fr') (upd H p o') p d) (hc : isArg c' = true → isArg c = true := by intro h; first | exact h | cases h) : R K f (Δ.set i (.own c' fr')) (ρ.set i d) σ (upd H p o') := by
  obtain ⟨p', d', e1, e2, e3, e4⟩ := r.ow i c fr hk
  rw [hs] at e1
  cases e1
  obtain ⟨o, ho, mo⟩ := e4.mutb
  have hi : i < Δ.length := (List.getElem?_eq_some_iff.mp hk).1
  have owp : Ow Δ σ p := ⟨i, c, fr, hk, hs⟩
  have ow' : ∀ a, Ow (Δ.set i (.own c' fr')) σ a ↔ Ow Δ σ a := fun a => by
    constructor
    · rintro ⟨j, cj, fj, h1, h2⟩
      by_cases z : i = j
      · subst z
        rw [hs] at h2
        cases h2
        exact owp
      · rw [List.getElem?_set_ne z] at h1
        exact ⟨j, cj, fj, h1, h2⟩
    · rintro ⟨j, cj, fj, h1, h2⟩
      by_cases z : i = j
      · subst z
        exact ⟨i, c', fr', by rw [List.getElem?_set_self hi], h2⟩
      · exact ⟨j, cj, fj, by rw [List.getElem?_set_ne z]; exact h1, h2⟩
  have key : ∀ {fr : Bool} {v : V} {d : Dt}, Rp K (FM f Δ σ true fr) H v d → Rp K (FM f (Δ.set i (.own c' fr')) σ true fr) (upd H p o') v d := fun h =>
    (h.updM ho mo fun a fa z => (fa.1 rfl).1 (z ▸ owp)).weak fun a fa => ⟨fun _ => ⟨fun z => (fa.1 rfl).1 ((ow' a).mp z), (fa.1 rfl).2⟩, fa.2⟩
  have key2 : ∀ {fr : Bool} {v : V} {d : Dt}, Rp K (FM f Δ σ true fr) (upd H p o') v d → Rp K (FM f (Δ.set i (.own c' fr')) σ true fr) (upd H p o') v d := fun h =>
    h.weak fun a fa => ⟨fun _ => ⟨fun z => (fa.1 rfl).1 ((ow' a).mp z), (fa.1 rfl).2⟩, fa.2⟩
  refine ⟨fun b u e => ?_, r.g0, by rw [List.length_set]; exact r.lσ, by rw [List.length_set, List.length_set]; exact r.lρ, ?_, fun a ha => ?_, fun g hg => (r.gh g hg).map fun _ _ x => key x, fun j fj h => ?_, fun j cj fj h => ?_, fun j cj fj h ha => ?_, r.sp, fun j t h => by
    by_cases z : i = j
    · subst z
      rw [List.getElem?_set_self hi] at h
      cases h
    · rw [List.getElem?_set_ne z] at h
      obtain ⟨v, d, h1, h2, h3⟩ := r.sl j t h
      exact ⟨v, d, h1, by rw [List.getElem?_set_ne z]; exact h2, h3.updM ho mo fun a fa y => (r.pin a (f.hS a fa)).2 (y ▸ owp)⟩⟩
  · have : b ≠ p := fun z => by subst z; rw [e3] at e; cases e
    rw [upd_ne this]
    exact r.ext b u e
  · intro j k cj fj ck fk q h1 h2 h3 h4
    have g : ∀ {j : Nat} {cj : Ct} {fj : Bool}, (Δ.set i (Kd.own c' fr'))[j]? = some (Kd.own cj fj) → ∃ (cj : Ct) (fj : Bool), Δ[j]? = some (Kd.own cj fj) := fun {j cj fj} h => by
      by_cases z : i = j
      · subst z; exact ⟨_, _, hk⟩
      · rw [List.getElem?_set_ne z] at h; exact ⟨_, _, h⟩
    obtain ⟨_, _, g1⟩ := g h1
    obtain ⟨_, _, g2⟩ := g h2
    exact r.inj j k _ _ _ _ q g1 g2 h3 h4
  · obtain ⟨⟨u, hu, mu⟩, no⟩ := r.pin a ha
    have na : a ≠ p := fun z => no (z ▸ owp)
    exact ⟨⟨u, by rw [upd_ne na]; exact hu, mu⟩, fun z => no ((ow' a).mp z)⟩
  · by_cases z : i = j
    · subst z
      rw [List.getElem?_set_self hi] at h
      cases h
    · rw [List.getElem?_set_ne z] at h
      obtain ⟨v, d, h1, h2, h3⟩ := r.im j fj h
      exact ⟨v, d, h1, by rw [List.getElem?_set_ne z]; exact h2, key h3⟩
  · by_cases z : i = j
    · subst z
      rw [List.getElem?_set_self hi] at h
      cases h
      exact ⟨p, d, hs, by rw [List.getElem?_set_self (by rw [r.lρ]; exact hi)], e3, new.map (fun o e => e) fun _ _ x => key2 x⟩
    · rw [List.getElem?_set_ne z] at h
      obtain ⟨q, d, h1, h2, h3, h4⟩ := r.ow j cj fj h
      have nq : q ≠ p := fun y => z (r.inj i j _ _ _ _ p hk h hs (y ▸ h1))
      exact ⟨q, d, h1, by rw [List.getElem?_set_ne z]; exact h2, h3, h4.map (fun u e => by rw [upd_ne nq]; exact e) fun _ _ x => key x⟩
  · by_cases z : i = j
    · subst z
      rw [List.getElem?_set_self hi] at h
      cases h
      exact r.ar i c fr hk (hc ha)
    · rw [List.getElem?_set_ne z] at h
      exact r.ar j cj fj h ha
theorem R.setIm {fr : Bool} (r : R K f Δ ρ σ H) (hi : i < Δ.length) (h : Rp K (FM f Δ σ true fr) H v d) : R K f (Δ.set i (.im fr)) (ρ.set i d) (σ.set i (some v)) H := by
  have ow' : ∀ a, Ow (Δ.set i (.im fr)) (σ.set i (some v)) a → Ow Δ σ a := fun a => by
    rintro ⟨j, cj, fj, h1, h2⟩
    by_cases z : i = j
    · subst z
      rw [List.getElem?_set_self hi] at h1
      cases h1
    · rw [List.getElem?_set_ne z] at h1 h2
      exact ⟨j, cj, fj, h1, h2⟩
  have key : ∀ {fr' : Bool} {v' : V} {d' : Dt}, Rp K (FM f Δ σ true fr') H v' d' → Rp K (FM f (Δ.set i (.im fr)) (σ.set i (some v)) true fr') H v' d' := fun h =>
    h.weak fun a fa => ⟨fun _ => ⟨fun z => (fa.1 rfl).1 (ow' a z), (fa.1 rfl).2⟩, fa.2⟩
  refine ⟨r.ext, r.g0, by rw [List.length_set, List.length_set]; exact r.lσ, by rw [List.length_set, List.length_set]; exact r.lρ, ?_, fun a ha => ⟨(r.pin a ha).1, fun z => (r.pin a ha).2 (ow' a z)⟩, fun g hg => (r.gh g hg).map fun _ _ x => key x, fun j fj h' => ?_, fun j cj fj h' => ?_, fun j cj fj h' ha => ?_, r.sp, fun j t h' => by
    by_cases z : i = j
    · subst z
      rw [List.getElem?_set_self hi] at h'
      cases h'
    · rw [List.getElem?_set_ne z] at h'
      obtain ⟨v, d, h1, h2, h3⟩ := r.sl j t h'
      exact ⟨v, d, by rw [List.getElem?_set_ne z]; exact h1, by rw [List.getElem?_set_ne z]; exact h2, h3⟩⟩
  · intro j k cj fj ck fk q h1 h2 h3 h4
    have g : ∀ {j : Nat} {cj : Ct} {fj : Bool}, (Δ.set i (Kd.im fr))[j]? = some (Kd.own cj fj) → i ≠ j ∧ Δ[j]? = some (Kd.own cj fj) := fun {j cj fj} h => by
      by_cases z : i = j
      · subst z; rw [List.getElem?_set_self hi] at h; cases h
      · rw [List.getElem?_set_ne z] at h; exact ⟨z, h⟩
    obtain ⟨z1, g1⟩ := g h1
    obtain ⟨z2, g2⟩ := g h2
    rw [List.getElem?_set_ne z1] at h3
    rw [List.getElem?_set_ne z2] at h4
    exact r.inj j k _ _ _ _ q g1 g2 h3 h4
  · by_cases z : i = j
    · subst z
      rw [List.getElem?_set_self hi] at h'
      cases h'
      exact ⟨v, d, by rw [List.getElem?_set_self (by rw [r.lσ]; exact hi)], by rw [List.getElem?_set_self (by rw [r.lρ]; exact hi)], key h⟩
    · rw [List.getElem?_set_ne z] at h'
      obtain ⟨v', d', h1, h2, h3⟩ := r.im j fj h'
      exact ⟨v', d', by rw [List.getElem?_set_ne z]; exact h1, by rw [List.getElem?_set_ne z]; exact h2, key h3⟩
  · by_cases z : i = j
    · subst z
      rw [List.getElem?_set_self hi] at h'
      cases h'
    · rw [List.getElem?_set_ne z] at h'
      obtain ⟨q, d', h1, h2, h3, h4⟩ := r.ow j cj fj h'
      exact ⟨q, d', by rw [List.getElem?_set_ne z]; exact h1, by rw [List.getElem?_set_ne z]; exact h2, h3, h4.map (fun u e => e) fun _ _ x => key x⟩
  · by_cases z : i = j
    · subst z
      rw [List.getElem?_set_self hi] at h'
      cases h'
    · rw [List.getElem?_set_ne z] at h'
      obtain ⟨p, h1, h2⟩ := r.ar j cj fj h' ha
      exact ⟨p, h1, by rw [List.getElem?_set_ne z]; exact h2⟩
theorem R.setOwn {c : Ct} {fr : Bool} (r0 : R K f Δ ρ σ H) (hi : i < Δ.length) (hp : H p = none) (e : Same H H') (h : OwC K c (fun a => FM f Δ σ true fr a ∧ a ≠ p) H' p d) (hc : isArg c = false := by rfl) :
    R K f (Δ.set i (.own c fr)) (ρ.set i d) (σ.set i (some (.ref p))) H' := by
  have r := r0.mono e
  obtain ⟨f1, f2, f3⟩ := r0.fresh hp
  have ow' : ∀ a, Ow (Δ.set i (.own c fr)) (σ.set i (some (.ref p))) a → Ow Δ σ a ∨ a = p := fun a => by
    rintro ⟨j, cj, fj, h1, h2⟩
    by_cases z : i = j
    · subst z
      rw [List.getElem?_set_self (by rw [r.lσ]; exact hi)] at h2
      cases h2
      exact .inr rfl
    · rw [List.getElem?_set_ne z] at h1 h2
      exact .inl ⟨j, cj, fj, h1, h2⟩
  have key : ∀ {fr' : Bool} {v' : V} {d' : Dt}, Rp K (FM f Δ σ true fr') H v' d' → Rp K (FM f (Δ.set i (.own c fr)) (σ.set i (some (.ref p))) true fr') H' v' d' := fun h =>
    h.mono e fun a fa na => ⟨fun _ => ⟨fun z => by
      rcases ow' a z with z | z
      · exact (fa.1 rfl).1 z
      · exact na (z ▸ hp), (fa.1 rfl).2⟩, fa.2⟩
  have keyN : ∀ {fr' : Bool} {v' : V} {d' : Dt}, Rp K (fun a => FM f Δ σ true fr' a ∧ a ≠ p) H' v' d' → Rp K (FM f (Δ.set i (.own c fr)) (σ.set i (some (.ref p))) true fr') H' v' d' := fun h =>
    h.weak fun a fa => ⟨fun _ => ⟨fun z => by
      rcases ow' a z with z | z
      · exact (fa.1.1 rfl).1 z
      · exact fa.2 z, (fa.1.1 rfl).2⟩, fa.1.2⟩
  refine ⟨r.ext, r.g0, by rw [List.length_set, List.length_set]; exact r.lσ, by rw [List.length_set, List.length_set]; exact r.lρ, ?_, fun a ha => ⟨(r.pin a ha).1, fun z => ?_⟩, fun g hg => (r0.gh g hg).map fun _ _ x => key x, fun j fj h' => ?_, fun j cj fj h' => ?_, fun j cj fj h' ha => ?_, r.sp, fun j t h' => by
    by_cases z : i = j
    · subst z
      rw [List.getElem?_set_self hi] at h'
      cases h'
    · rw [List.getElem?_set_ne z] at h'
      obtain ⟨v, d, h1, h2, h3⟩ := r.sl j t h'
      exact ⟨v, d, by rw [List.getElem?_set_ne z]; exact h1, by rw [List.getElem?_set_ne z]; exact h2, h3⟩⟩
  · have g : ∀ {j : Nat} {cj : Ct} {fj : Bool} {q : Addr}, (Δ.set i (Kd.own c fr))[j]? = some (Kd.own cj fj) → (σ.set i (some (V.ref p)))[j]? = some (some (V.ref q)) → (i = j ∧ q = p) ∨ (i ≠ j ∧ Δ[j]? = some (Kd.own cj fj) ∧ σ[j]? = some (some (V.ref q)) ∧ q ≠ p) := fun {j cj fj q} h h2 => by
      by_cases z : i = j
      · subst z
        rw [List.getElem?_set_self (by rw [r.lσ]; exact hi)] at h2
        cases h2
        exact .inl ⟨rfl, rfl⟩
      · rw [List.getElem?_set_ne z] at h h2
        exact .inr ⟨z, h, h2, fun y => f1 ⟨j, cj, fj, h, y ▸ h2⟩⟩
    intro j k cj fj ck fk q h1 h2 h3 h4
    rcases g h1 h3 with ⟨a1, b1⟩ | ⟨a1, b1, c1, d1⟩
    · rcases g h2 h4 with ⟨a2, b2⟩ | ⟨a2, b2, c2, d2⟩
      · exact a1 ▸ a2
      · exact (d2 b1).elim
    · rcases g h2 h4 with ⟨a2, b2⟩ | ⟨a2, b2, c2, d2⟩
      · exact (d1 b2).elim
      · exact r.inj j k _ _ _ _ q b1 b2 c1 c2
  · rcases ow' a z with z | z
    · exact (r0.pin a ha).2 z
    · exact f2 (z ▸ ha)
  · by_cases z : i = j
    · subst z
      rw [List.getElem?_set_self hi] at h'
      cases h'
    · rw [List.getElem?_set_ne z] at h'
      obtain ⟨v', d', h1, h2, h3⟩ := r0.im j fj h'
      exact ⟨v', d', by rw [List.getElem?_set_ne z]; exact h1, by rw [List.getElem?_set_ne z]; exact h2, key h3⟩
  · by_cases z : i = j
    · subst z
      rw [List.getElem?_set_self hi] at h'
      cases h'
      exact ⟨p, d, by rw [List.getElem?_set_self (by rw [r.lσ]; exact hi)], by rw [List.getElem?_set_self (by rw [r.lρ]; exact hi)], f3, h.map (fun o e => e) fun _ _ x => keyN x⟩
    · rw [List.getElem?_set_ne z] at h'
      obtain ⟨q, d', h1, h2, h3, h4⟩ := r0.ow j cj fj h'
      exact ⟨q, d', by rw [List.getElem?_set_ne z]; exact h1, by rw [List.getElem?_set_ne z]; exact h2, h3, h4.map (fun u x => e _ _ x) fun _ _ x => key x⟩
  · by_cases z : i = j
    · subst z
      rw [List.getElem?_set_self hi] at h'
      cases h'
      rw [hc] at ha
      cases ha
    · rw [List.getElem?_set_ne z] at h'
      obtain ⟨p, h1, h2⟩ := r0.ar j cj fj h' ha
      exact ⟨p, h1, by rw [List.getElem?_set_ne z]; exact h2⟩
end
end Sim
end T_SimA
section T_SimB
set_option Elab.async false
set_option linter.all false
set_option maxRecDepth 100000
namespace Sim
open PySem PySem.Spec L2
open PyProof.Rows hiding St
abbrev Wt := Exn → L2.St → Hp → Prop
abbrev Gd := List Dt → O Dt
inductive Rk where
  | v (av fr : Bool) | o (fr : Bool) | new (c : Ct) (fr : Bool)
def PoE (K : PySem.W.Frag) (W : Wt) (f : Fm) (Δ : List Kd) (σ : L2.St) (H : Hp) (k : Rk) (o : O Dt) (Q : VK) : Prop := match o with
  | .bad => False
  | .ex e => ∀ H', Same H H' → W e σ H'
  | .ok d => match k with
    | .v av fr => ∀ v H', Same H H' → Rp K (FM f Δ σ av fr) H' v d → Q v H'
    | .o fr => ∀ p H' vs ds, d = .list ds → Same H H' → H' p = some (.lst vs) → f.G p → RpA K (FM f Δ σ true fr) H' vs ds → Q (.ref p) H'
    | .new c fr => ∀ p H', H p = none → Same H H' → OwC K c (fun a => FM f Δ σ true fr a ∧ a ≠ p) H' p d → Q (.ref p) H'
def SE (K : PySem.W.Frag) (W : Wt) (Δ : List Kd) (te : TE) (k : Rk) (g : Gd) : Prop := ∀ f ρ σ H Q, R K f Δ ρ σ H → PoE K W f Δ σ H k (g ρ) Q → te σ H Q
def PoT (W : Wt) (σ : L2.St) (H : Hp) (o : O Bool) (Q : Bool → Hp → Prop) : Prop := match o with
  | .bad => False
  | .ex e => ∀ H', Same H H' → W e σ H'
  | .ok b => ∀ H', Same H H' → Q b H'
def ST (K : PySem.W.Frag) (W : Wt) (Δ : List Kd) (tt : TT) (g : List Dt → O Bool) : Prop := ∀ f ρ σ H Q, R K f Δ ρ σ H → PoT W σ H (g ρ) Q → tt σ H Q
def PoA (K : PySem.W.Frag) (W : Wt) (f : Fm) (Δ : List Kd) (σ : L2.St) (H : Hp) (av fr : Bool) (o : O (List Dt)) (Q : List V → Hp → Prop) : Prop := match o with
  | .bad => False
  | .ex e => ∀ H', Same H H' → W e σ H'
  | .ok ds => ∀ vs H', Same H H' → RpA K (FM f Δ σ av fr) H' vs ds → Q vs H'
def SA (K : PySem.W.Frag) (W : Wt) (Δ : List Kd) (ta : TA) (av fr : Bool) (g : List Dt → O (List Dt)) : Prop := ∀ f ρ σ H Q, R K f Δ ρ σ H → PoA K W f Δ σ H av fr (g ρ) Q → ta σ H Q
def gVar (i : Nat) : Gd := fun ρ => match ρ[i]? with
  | some d => .ok d
  | none => .bad
def gC (d : Dt) : Gd := fun _ => .ok d
def gOp (h : Dt → Dt → O Dt) (a b : Gd) : Gd := fun ρ => bnd (a ρ) fun x => bnd (b ρ) fun y => h x y
def gUn (h : Dt → O Dt) (a : Gd) : Gd := fun ρ => bnd (a ρ) h
def gNil : List Dt → O (List Dt) := fun _ => .ok []
def gCons (a : Gd) (b : List Dt → O (List Dt)) : List Dt → O (List Dt) := fun ρ => bnd (a ρ) fun x => bnd (b ρ) fun xs => .ok (x :: xs)
def gTup (a : List Dt → O (List Dt)) : Gd := fun ρ => bnd (a ρ) fun xs => if xs.length ≤ 100000 then .ok (.tuple xs) else .bad
def gLst (a : List Dt → O (List Dt)) : Gd := fun ρ => bnd (a ρ) fun xs => if xs.length ≤ 100000 then .ok (.list xs) else .bad
def gPur (a : Gd) : Gd := fun ρ => bnd (a ρ) fun d => if pure1 d then .ok d else .bad
def gIf (t : List Dt → O Bool) (a b : Gd) : Gd := fun ρ => bnd (t ρ) fun c => if c then a ρ else b ρ
def asB : Dt → O Bool
  | .bool b => .ok b
  | _ => .bad
def gTest (a : Gd) : List Dt → O Bool := fun ρ => bnd (a ρ) asB
def gNot (t : List Dt → O Bool) : List Dt → O Bool := fun ρ => bnd (t ρ) fun b => .ok (!b)
def gAnd (t u : List Dt → O Bool) : List Dt → O Bool := fun ρ => bnd (t ρ) fun b => if b then u ρ else .ok false
def gOr (t u : List Dt → O Bool) : List Dt → O Bool := fun ρ => bnd (t ρ) fun b => if b then .ok true else u ρ
def gAndV (a b : Gd) : Gd := fun ρ => bnd (a ρ) fun x => bnd (asB x) fun c => if c then b ρ else .ok (.bool false)
def gOrV (a b : Gd) : Gd := fun ρ => bnd (a ρ) fun x => bnd (asB x) fun c => if c then .ok (.bool true) else b ρ
def gNotV (a : Gd) : Gd := fun ρ => bnd (a ρ) fun x => bnd (asB x) fun c => .ok (.bool (!c))
def gCB (h : List Dt → O Dt) (a : List Dt → O (List Dt)) : Gd := fun ρ => bnd (a ρ) h
def scl : Dt → Bool
  | .none => true
  | .bool _ => true
  | .int _ => true
  | .str _ => true
  | _ => false
section
variable {K : PySem.W.Frag} {W : Wt} {Δ : List Kd} {ta tb te : TE} {tt tu : TT} {tA tB' : TA} {ga gb g : Gd} {gt gu : List Dt → O Bool} {gA : List Dt → O (List Dt)} {k k1 k2 : Rk} {av fr av' fr' : Bool}
theorem Rp.scl_any {F F' : Addr → Prop} {H H' : Hp} {v : V} {d : Dt} (h : Rp K F H v d) (s : scl d = true) : Rp K F' H' v d := by
  cases h with
  | non => exact .non
  | bl b => exact .bl b
  | int i => exact .int i
  | str x => exact .str x
  | lst => cases s
  | fz => cases s
  | tup => cases s
  | dic => cases s
  | exn => cases s
theorem se_var {i : Nat} (hk : Δ[i]? = some (.im fr)) : SE K W Δ (tVar i) (.v true fr) (gVar i) := fun f ρ σ H Q r q => by
  obtain ⟨v, d, h1, h2, h3⟩ := r.im i fr hk
  unfold gVar at q
  rw [h2] at q
  exact ⟨v, h1, q v H (Same.refl H) h3⟩
theorem se_own {i : Nat} (hk : Δ[i]? = some (.own .l fr)) : SE K W Δ (tVar i) (.o fr) (gVar i) := fun f ρ σ H Q r q => by
  obtain ⟨p, d, h1, h2, h3, vs, ds, e, h4, h5⟩ := r.ow i .l fr hk
  subst e
  unfold gVar at q
  rw [h2] at q
  exact ⟨_, h1, q p H vs ds rfl (Same.refl H) h4 (r.g0 p h3) h5⟩
theorem se_c {v : V} {d : Dt} (h : Rp K (fun _ => False) (fun _ => none) v d) (s : scl d = true) : SE K W Δ (tC v) (.v true true) (gC d) := fun f ρ σ H Q r q =>
  q v H (Same.refl H) (h.scl_any s)
theorem se_int {i : Int} : SE K W Δ (tC (.int i)) (.v true true) (gC (.int i)) := se_c (.int i) rfl
theorem se_str {x : Str} : SE K W Δ (tC (.str x)) (.v true true) (gC (.str x)) := se_c (.str x) rfl
theorem se_bl {b : Bool} : SE K W Δ (tC (.bl b)) (.v true true) (gC (.bool b)) := se_c (.bl b) rfl
theorem se_non : SE K W Δ (tC .non) (.v true true) (gC .none) := se_c .non rfl
theorem Rp.fm {f : Fm} {σ : L2.St} {H : Hp} {v : V} {d : Dt} (h1 : av' = true → av = true) (h2 : fr' = true → fr = true) (h : Rp K (FM f Δ σ av fr) H v d) : Rp K (FM f Δ σ av' fr') H v d := h.weak fun _ x => x.weak h1 h2
theorem SE.wk (h : SE K W Δ te (.v av fr) g) (h1 : av' = true → av = true := by decide) (h2 : fr' = true → fr = true := by decide) : SE K W Δ te (.v av' fr') g := fun f ρ σ H Q r q =>
  h f ρ σ H Q r <| by
    cases e : g ρ with
    | bad => rw [e] at q; exact q
    | ex z => rw [e] at q; exact q
    | ok d => rw [e] at q; exact fun v H' s x => q v H' s (x.fm h1 h2)
theorem SE.ov (h : SE K W Δ te (.o fr) g) : SE K W Δ te (.v false fr) g := fun f ρ σ H Q r q =>
  h f ρ σ H Q r <| by
    cases e : g ρ with
    | bad => rw [e] at q; exact q
    | ex z => rw [e] at q; exact q
    | ok d =>
      rw [e] at q
      intro p H' vs ds ed s hp gp x
      subst ed
      exact q _ H' s (.lst hp ⟨(nomatch ·), fun _ => gp⟩ (x.weak fun _ y => y.weak (fun _ => rfl) id))
theorem SE.nv (h : SE K W Δ te (.new .l fr) g) : SE K W Δ te (.v true fr) g := fun f ρ σ H Q r q =>
  h f ρ σ H Q r <| by
    cases e : g ρ with
    | bad => rw [e] at q; exact q
    | ex z => rw [e] at q; exact q
    | ok d =>
      rw [e] at q
      intro p H' np s x
      obtain ⟨vs, ds, ed, hp, x⟩ := x
      subst ed
      obtain ⟨f1, f2, f3⟩ := r.fresh np
      exact q _ H' s (.lst hp ⟨fun _ => ⟨f1, f2⟩, fun _ => r.g0 p f3⟩ (x.weak fun _ y => y.1))
theorem SE.no (h : SE K W Δ te (.new .l fr) g) : SE K W Δ te (.o fr) g := fun f ρ σ H Q r q =>
  h f ρ σ H Q r <| by
    cases e : g ρ with
    | bad => rw [e] at q; exact q
    | ex z => rw [e] at q; exact q
    | ok d =>
      rw [e] at q
      intro p H' np s x
      obtain ⟨vs, ds, ed, hp, x⟩ := x
      subst ed
      obtain ⟨f1, f2, f3⟩ := r.fresh np
      exact q _ H' vs ds rfl s hp (r.g0 p f3) (x.weak fun _ y => y.1)
theorem SE.pur (h : SE K W Δ te (.v av fr) g) : SE K W Δ te (.v true true) (gPur g) := fun f ρ σ H Q r q =>
  h f ρ σ H Q r <| by
    unfold gPur at q
    cases e : g ρ with
    | bad => rw [e] at q; exact q
    | ex z => rw [e] at q; exact q
    | ok d =>
      rw [e, bnd_ok] at q
      intro v H' s x
      by_cases p : pure1 d = true
      · rw [if_pos p] at q
        exact q v H' s (x.pure p)
      · rw [if_neg p] at q
        exact q.elim
def OSc (K : PySem.W.Frag) (r : R2) (h : Dt → Dt → O Dt) : Prop := ∀ H x y d e Q, Rp K (fun _ => True) H x d → Rp K (fun _ => True) H y e →
  (match h d e with | .ok z => scl z = true ∧ (∀ v, Rp K (fun _ => False) (fun _ => none) v z → Q v H) | _ => False) → r x y H Q
def USc (K : PySem.W.Frag) (r : V → Hp → VK → Prop) (h : Dt → O Dt) : Prop := ∀ H x d Q, Rp K (fun _ => True) H x d →
  (match h d with | .ok z => scl z = true ∧ (∀ v, Rp K (fun _ => False) (fun _ => none) v z → Q v H) | _ => False) → r x H Q
def CSc (K : PySem.W.Frag) (r : List V → Hp → VK → Prop) (h : List Dt → O Dt) : Prop := ∀ H xs ds Q, RpA K (fun _ => True) H xs ds →
  (match h ds with | .ok z => scl z = true ∧ (∀ v, Rp K (fun _ => False) (fun _ => none) v z → Q v H) | _ => False) → r xs H Q
def Scl2 (h : Dt → Dt → O Dt) : Prop := ∀ d e, (∃ z, h d e = .ok z ∧ scl z = true) ∨ h d e = .bad
def Scl1 (h : Dt → O Dt) : Prop := ∀ d, (∃ z, h d = .ok z ∧ scl z = true) ∨ h d = .bad
def SclA (h : List Dt → O Dt) : Prop := ∀ d, (∃ z, h d = .ok z ∧ scl z = true) ∨ h d = .bad
theorem se_op {r : R2} {h : Dt → Dt → O Dt} (hs : Scl2 h) (ho : OSc K r h) (ha : SE K W Δ ta (.v av fr) ga) (hb : SE K W Δ tb (.v av' fr') gb) : SE K W Δ (tOp r ta tb) (.v true true) (gOp h ga gb) := fun f ρ σ H Q R q => by
  refine ha f ρ σ H _ R ?_
  unfold gOp at q
  cases e1 : ga ρ with
  | bad => rw [e1] at q; exact q
  | ex z => rw [e1] at q; exact q
  | ok d =>
    rw [e1, bnd_ok] at q
    intro v H1 s1 x1
    refine hb f ρ σ H1 _ (R.mono s1) ?_
    cases e2 : gb ρ with
    | bad => rw [e2] at q; exact q
    | ex z => rw [e2] at q; exact fun H' s => q H' (s1.trans s)
    | ok d2 =>
      rw [e2, bnd_ok] at q
      intro v2 H2 s2 x2
      refine ho H2 v v2 d d2 Q ((x1.same s2).weak fun _ _ => trivial) (x2.weak fun _ _ => trivial) ?_
      rcases hs d d2 with ⟨z, ez, sz⟩ | ez
      · rw [ez] at q ⊢
        exact ⟨sz, fun w x => q w H2 (s1.trans s2) (x.scl_any sz)⟩
      · rw [ez] at q
        exact q.elim
theorem se_un {r : V → Hp → VK → Prop} {h : Dt → O Dt} (hs : Scl1 h) (ho : USc K r h) (ha : SE K W Δ ta (.v av fr) ga) : SE K W Δ (tUn r ta) (.v true true) (gUn h ga) := fun f ρ σ H Q R q => by
  refine ha f ρ σ H _ R ?_
  unfold gUn at q
  cases e1 : ga ρ with
  | bad => rw [e1] at q; exact q
  | ex z => rw [e1] at q; exact q
  | ok d =>
    rw [e1, bnd_ok] at q
    intro v H1 s1 x1
    refine ho H1 v d Q (x1.weak fun _ _ => trivial) ?_
    rcases hs d with ⟨z, ez, sz⟩ | ez
    · rw [ez] at q ⊢
      exact ⟨sz, fun w x => q w H1 s1 (x.scl_any sz)⟩
    · rw [ez] at q
      exact q.elim
theorem se_cb {r : List V → Hp → VK → Prop} {h : List Dt → O Dt} (hs : SclA h) (ho : CSc K r h) (ha : SA K W Δ tA av fr gA) : SE K W Δ (tCB r tA) (.v true true) (gCB h gA) := fun f ρ σ H Q R q => by
  refine ha f ρ σ H _ R ?_
  unfold gCB at q
  cases e1 : gA ρ with
  | bad => rw [e1] at q; exact q
  | ex z => rw [e1] at q; exact q
  | ok d =>
    rw [e1, bnd_ok] at q
    intro v H1 s1 x1
    refine ho H1 v d Q (x1.weak fun _ _ => trivial) ?_
    rcases hs d with ⟨z, ez, sz⟩ | ez
    · rw [ez] at q ⊢
      exact ⟨sz, fun w x => q w H1 s1 (x.scl_any sz)⟩
    · rw [ez] at q
      exact q.elim
theorem sa_nil : SA K W Δ tNil true true gNil := fun f ρ σ H Q R q => q [] H (Same.refl H) .nil
theorem sa_cons (ha : SE K W Δ ta (.v av fr) ga) (hr : SA K W Δ tA av' fr' gA) : SA K W Δ (tCons ta tA) (av && av') (fr && fr') (gCons ga gA) := fun f ρ σ H Q R q => by
  refine ha f ρ σ H _ R ?_
  unfold gCons at q
  cases e1 : ga ρ with
  | bad => rw [e1] at q; exact q
  | ex z => rw [e1] at q; exact q
  | ok d =>
    rw [e1, bnd_ok] at q
    intro v H1 s1 x1
    refine hr f ρ σ H1 _ (R.mono s1) ?_
    cases e2 : gA ρ with
    | bad => rw [e2] at q; exact q
    | ex z => rw [e2] at q; exact fun H' s => q H' (s1.trans s)
    | ok ds =>
      rw [e2, bnd_ok] at q
      intro vs H2 s2 x2
      exact q (v :: vs) H2 (s1.trans s2) (.cons ((x1.same s2).fm (fun h => (Bool.and_eq_true_iff.mp h).1) fun h => (Bool.and_eq_true_iff.mp h).1)
        (x2.weak fun _ y => y.weak (fun h => (Bool.and_eq_true_iff.mp h).2) fun h => (Bool.and_eq_true_iff.mp h).2))
theorem SA.wk (h : SA K W Δ tA av fr gA) (h1 : av' = true → av = true := by decide) (h2 : fr' = true → fr = true := by decide) : SA K W Δ tA av' fr' gA := fun f ρ σ H Q R q =>
  h f ρ σ H Q R <| by
    cases e : gA ρ with
    | bad => rw [e] at q; exact q
    | ex z => rw [e] at q; exact q
    | ok d => rw [e] at q; exact fun v H' s x => q v H' s (x.weak fun _ y => y.weak h1 h2)
theorem sz_le {n : Nat} (h : n ≤ 100000) : n ≤ sizeLine := Nat.le_trans h (by decide)
theorem same_upd {H : Hp} {p : Addr} {o : HO} (h : H p = none) : Same H (upd H p o) := fun b x e => by
  rw [upd_ne (ne_of_none e h)]
  exact e
theorem se_tup (ha : SA K W Δ tA av fr gA) : SE K W Δ (tTup tA) (.v av fr) (gTup gA) := fun f ρ σ H Q R q => by
  refine ha f ρ σ H _ R ?_
  unfold gTup at q
  cases e1 : gA ρ with
  | bad => rw [e1] at q; exact q
  | ex z => rw [e1] at q; exact q
  | ok ds =>
    rw [e1, bnd_ok] at q
    intro vs H1 s1 x1
    by_cases l : ds.length ≤ 100000
    · rw [if_pos l] at q
      refine ⟨by rw [x1.length]; exact sz_le l, fun p np => ?_⟩
      exact q _ _ (s1.trans (same_upd np)) (.tup (.inl (.inl upd_same)) (x1.same (same_upd np)))
    · rw [if_neg l] at q
      exact q.elim
theorem se_lst (ha : SA K W Δ tA true fr gA) : SE K W Δ (tLst tA) (.new .l fr) (gLst gA) := fun f ρ σ H Q R q => by
  refine ha f ρ σ H _ R ?_
  unfold gLst at q
  cases e1 : gA ρ with
  | bad => rw [e1] at q; exact q
  | ex z => rw [e1] at q; exact q
  | ok ds =>
    rw [e1, bnd_ok] at q
    intro vs H1 s1 x1
    by_cases l : ds.length ≤ 100000
    · rw [if_pos l] at q
      refine ⟨by rw [x1.length]; exact sz_le l, fun p np => ?_⟩
      refine q p _ (s1.free np) (s1.trans (same_upd np)) ⟨vs, ds, rfl, upd_same, x1.mono (same_upd np) fun a y z => ⟨y, fun e => z (e ▸ np)⟩⟩
    · rw [if_neg l] at q
      exact q.elim
theorem st_test (ha : SE K W Δ te (.v av fr) g) : ST K W Δ (tTest te) (gTest g) := fun f ρ σ H Q R q => by
  refine ha f ρ σ H _ R ?_
  unfold gTest at q
  cases e1 : g ρ with
  | bad => rw [e1] at q; exact q
  | ex z => rw [e1] at q; exact q
  | ok d =>
    rw [e1, bnd_ok] at q
    intro v H1 s1 x1
    cases x1 with
    | bl b => exact ⟨b, rfl, q H1 s1⟩
    | non => exact q.elim
    | int => exact q.elim
    | str => exact q.elim
    | lst => exact q.elim
    | fz => exact q.elim
    | tup => exact q.elim
    | dic => exact q.elim
    | exn => exact q.elim
theorem st_B (ha : SE K W Δ te (.v av fr) g) : ST K W Δ (tB te) (gTest g) := st_test ha
theorem st_not (h : ST K W Δ tt gt) : ST K W Δ (tNot tt) (gNot gt) := fun f ρ σ H Q R q => by
  refine h f ρ σ H _ R ?_
  unfold gNot at q
  cases e1 : gt ρ with
  | bad => rw [e1] at q; exact q
  | ex z => rw [e1] at q; exact q
  | ok d => rw [e1, bnd_ok] at q; exact q
theorem st_and (h : ST K W Δ tt gt) (h2 : ST K W Δ tu gu) : ST K W Δ (tAnd tt tu) (gAnd gt gu) := fun f ρ σ H Q R q => by
  refine h f ρ σ H _ R ?_
  unfold gAnd at q
  cases e1 : gt ρ with
  | bad => rw [e1] at q; exact q
  | ex z => rw [e1] at q; exact q
  | ok b =>
    rw [e1, bnd_ok] at q
    intro H1 s1
    cases b with
    | false => exact q H1 s1
    | true =>
      refine h2 f ρ σ H1 _ (R.mono s1) ?_
      have q : PoT W σ H (gu ρ) Q := q
      cases e2 : gu ρ with
      | bad => rw [e2] at q; exact q
      | ex z => rw [e2] at q; exact fun H' s => q H' (s1.trans s)
      | ok b => rw [e2] at q; exact fun H' s => q H' (s1.trans s)
theorem st_or (h : ST K W Δ tt gt) (h2 : ST K W Δ tu gu) : ST K W Δ (tOr tt tu) (gOr gt gu) := fun f ρ σ H Q R q => by
  refine h f ρ σ H _ R ?_
  unfold gOr at q
  cases e1 : gt ρ with
  | bad => rw [e1] at q; exact q
  | ex z => rw [e1] at q; exact q
  | ok b =>
    rw [e1, bnd_ok] at q
    intro H1 s1
    cases b with
    | true => exact q H1 s1
    | false =>
      refine h2 f ρ σ H1 _ (R.mono s1) ?_
      have q : PoT W σ H (gu ρ) Q := q
      cases e2 : gu ρ with
      | bad => rw [e2] at q; exact q
      | ex z => rw [e2] at q; exact fun H' s => q H' (s1.trans s)
      | ok b => rw [e2] at q; exact fun H' s => q H' (s1.trans s)
theorem PoE.mono {f : Fm} {σ : L2.St} {H H' : Hp} {o : O Dt} {Q : VK} (s : Same H H') (h : PoE K W f Δ σ H k o Q) : PoE K W f Δ σ H' k o Q := by
  cases o with
  | bad => exact h
  | ex z => exact fun H2 s2 => h H2 (s.trans s2)
  | ok d =>
    cases k with
    | v av fr => exact fun v H2 s2 => h v H2 (s.trans s2)
    | o fr => exact fun p H2 vs ds e s2 => h p H2 vs ds e (s.trans s2)
    | new c fr => exact fun p H2 np s2 => h p H2 (s.free np) (s.trans s2)
theorem se_andV (ha : SE K W Δ ta (.v av fr) ga) (hb : SE K W Δ tb (.v true true) gb) : SE K W Δ (tAndV ta tb) (.v true true) (gAndV ga gb) := fun f ρ σ H Q R q => by
  refine ha f ρ σ H _ R ?_
  unfold gAndV at q
  cases e1 : ga ρ with
  | bad => rw [e1] at q; exact q
  | ex z => rw [e1] at q; exact q
  | ok d =>
    rw [e1, bnd_ok] at q
    intro v H1 s1 x1
    cases x1 with
    | bl b =>
      refine ⟨b, rfl, ?_⟩
      cases b with
      | true => exact hb f ρ σ H1 Q (R.mono s1) (PoE.mono s1 q)
      | false => exact q _ H1 s1 (.bl false)
    | non => exact q.elim
    | int => exact q.elim
    | str => exact q.elim
    | lst => exact q.elim
    | fz => exact q.elim
    | tup => exact q.elim
    | dic => exact q.elim
    | exn => exact q.elim
theorem se_orV (ha : SE K W Δ ta (.v av fr) ga) (hb : SE K W Δ tb (.v true true) gb) : SE K W Δ (tOrV ta tb) (.v true true) (gOrV ga gb) := fun f ρ σ H Q R q => by
  refine ha f ρ σ H _ R ?_
  unfold gOrV at q
  cases e1 : ga ρ with
  | bad => rw [e1] at q; exact q
  | ex z => rw [e1] at q; exact q
  | ok d =>
    rw [e1, bnd_ok] at q
    intro v H1 s1 x1
    cases x1 with
    | bl b =>
      refine ⟨b, rfl, ?_⟩
      cases b with
      | true => exact q _ H1 s1 (.bl true)
      | false => exact hb f ρ σ H1 Q (R.mono s1) (PoE.mono s1 q)
    | non => exact q.elim
    | int => exact q.elim
    | str => exact q.elim
    | lst => exact q.elim
    | fz => exact q.elim
    | tup => exact q.elim
    | dic => exact q.elim
    | exn => exact q.elim
theorem se_notV (ha : SE K W Δ ta (.v av fr) ga) : SE K W Δ (tNotV ta) (.v true true) (gNotV ga) := fun f ρ σ H Q R q => by
  refine ha f ρ σ H _ R ?_
  unfold gNotV at q
  cases e1 : ga ρ with
  | bad => rw [e1] at q; exact q
  | ex z => rw [e1] at q; exact q
  | ok d =>
    rw [e1, bnd_ok] at q
    intro v H1 s1 x1
    cases x1 with
    | bl b => exact ⟨b, rfl, q _ H1 s1 (.bl _)⟩
    | non => exact q.elim
    | int => exact q.elim
    | str => exact q.elim
    | lst => exact q.elim
    | fz => exact q.elim
    | tup => exact q.elim
    | dic => exact q.elim
    | exn => exact q.elim
end
end Sim
end T_SimB
section T_SimC
set_option Elab.async false
set_option linter.all false
set_option maxRecDepth 100000
namespace Sim
open PySem PySem.Spec L2
open PyProof.Rows hiding St
structure PD (X : Cx) (K : PySem.W.Frag) (W : Wt) (Δ : List Kd) (e : Expr) (te : TE) (k : Rk) (g : Gd) : Prop where
  pe : PE X e te
  hK : X.K = K
  se : SE K W Δ te k g
structure TD (X : Cx) (K : PySem.W.Frag) (W : Wt) (Δ : List Kd) (e : Expr) (tt : TT) (g : List Dt → O Bool) : Prop where
  pt : PT X e tt
  hK : X.K = K
  st : ST K W Δ tt g
structure WD (X : Cx) (K : PySem.W.Frag) (W : Wt) (Δ : List Kd) (e : Expr) (tt : TT) (g : List Dt → O Bool) : Prop where
  pw : PW X e tt
  hK : X.K = K
  st : ST K W Δ tt g
structure AD (X : Cx) (K : PySem.W.Frag) (W : Wt) (Δ : List Kd) (es : List Expr) (ta : TA) (av fr : Bool) (g : List Dt → O (List Dt)) : Prop where
  pa : PA X es ta
  hK : X.K = K
  sa : SA K W Δ ta av fr g
def hI0 (g : Int → Int → Int) : Dt → Dt → O Dt := fun d e => match d, e with
  | .int i, .int j => .ok (.int (g i j))
  | _, _ => .bad
def hI (C : Int → Int → Bool) (g : Int → Int → Int) : Dt → Dt → O Dt := fun d e => match d, e with
  | .int i, .int j => if C i j then .ok (.int (g i j)) else .bad
  | _, _ => .bad
def hB0 (p : Int → Int → Bool) : Dt → Dt → O Dt := fun d e => match d, e with
  | .int i, .int j => .ok (.bool (p i j))
  | _, _ => .bad
def hU (g : Int → Int) : Dt → O Dt := fun d => match d with
  | .int i => .ok (.int (g i))
  | _ => .bad
def hAdd := hI0 fun i j => i + j
def hSub := hI0 fun i j => i - j
def cMul (i j : Int) : Bool := decide (i.natAbs < 2 ^ 64) || decide (j.natAbs < 2 ^ 64)
def hMul := hI cMul fun i j => i * j
def cDiv (_ j : Int) : Bool := decide (0 < j) && decide (j.natAbs < 2 ^ 400)
def hDiv := hI cDiv fun i j => i / j
def cMod (_ j : Int) : Bool := decide (0 < j)
def hMod := hI cMod fun i j => i % j
def cPow (i j : Int) : Bool := decide (0 ≤ j) && decide (j ≤ 1000000) && decide (i.natAbs < 2 ^ 64)
def hPow := hI cPow fun i j => i ^ j.toNat
def cShr (_ j : Int) : Bool := decide (0 ≤ j)
def hShr := hI cShr fun i j => i / 2 ^ j.toNat
def hBand := hI0 fun i j => Builtin.bitAnd i j
def hLt := hB0 fun i j => decide (i < j)
def hLe := hB0 fun i j => decide (i ≤ j)
def hGt := hB0 fun i j => decide (j < i)
def hGe := hB0 fun i j => decide (j ≤ i)
def hEq : Dt → Dt → O Dt := fun d e => if SeqAt.shaped d && SeqAt.shaped e then .ok (.bool (PyData.eqv d e)) else .bad
def hNe : Dt → Dt → O Dt := fun d e => if SeqAt.shaped d && SeqAt.shaped e then .ok (.bool (!PyData.eqv d e)) else .bad
def hIs : Dt → Dt → O Dt := fun d e => match e with
  | .none => .ok (.bool (match d with | .none => true | _ => false))
  | _ => .bad
def hNotIn : Dt → Dt → O Dt := fun d e => match e with
  | .list ds => if SeqAt.shaped d && SeqAt.shaped e then .ok (.bool (!ds.any fun z => PyData.eqv z d)) else .bad
  | .tuple ds => if SeqAt.shaped d && SeqAt.shaped e then .ok (.bool (!ds.any fun z => PyData.eqv z d)) else .bad
  | _ => .bad
def hLen : List Dt → O Dt := fun ds => match ds with
  | [.list xs] => .ok (.int xs.length)
  | [.tuple xs] => .ok (.int xs.length)
  | [.str x] => if x.length ≤ 100000 then .ok (.int x.length) else .bad
  | _ => .bad
def hMin2 : List Dt → O Dt := fun ds => match ds with
  | [.int i, .int j] => .ok (.int (if j < i then j else i))
  | _ => .bad
def hMax2 : List Dt → O Dt := fun ds => match ds with
  | [.int i, .int j] => .ok (.int (if j > i then j else i))
  | _ => .bad
def hMin3 : List Dt → O Dt := fun ds => match ds with
  | [.int i, .int j, .int k] => .ok (.int (if j < i then (if k < j then k else j) else (if k < i then k else i)))
  | _ => .bad
def hBits : Dt → O Dt := fun d => match d with
  | .int i => .ok (.int (Builtin.Int.intBits i : Nat))
  | _ => .bad
def hInt1 : List Dt → O Dt := fun ds => match ds with
  | [.int i] => .ok (.int i)
  | [.bool k] => .ok (.int (if k then 1 else 0))
  | _ => .bad
def allB : List Dt → Option (List Bool)
  | [] => some []
  | .bool b :: r => (allB r).map (b :: ·)
  | _ => none
def allI : List Dt → Option (List Int)
  | [] => some []
  | .int b :: r => (allI r).map (b :: ·)
  | _ => none
def hAll : List Dt → O Dt := fun ds => match ds with
  | [.list xs] => match allB xs with
    | some bs => .ok (.bool (bs.all id))
    | none => .bad
  | _ => .bad
def hAny : List Dt → O Dt := fun ds => match ds with
  | [.list xs] => match allB xs with
    | some bs => .ok (.bool (bs.any id))
    | none => .bad
  | _ => .bad
section
variable {K : PySem.W.Frag}
theorem scl_I0 {g} : Scl2 (hI0 g) := fun d e => by cases d <;> cases e <;> first | exact .inr rfl | exact .inl ⟨_, rfl, rfl⟩
theorem scl_B0 {g} : Scl2 (hB0 g) := fun d e => by cases d <;> cases e <;> first | exact .inr rfl | exact .inl ⟨_, rfl, rfl⟩
theorem scl_I {C g} : Scl2 (hI C g) := fun d e => by
  cases d <;> cases e <;> first | exact .inr rfl | skip
  unfold hI
  simp only
  split
  · exact .inl ⟨_, rfl, rfl⟩
  · exact .inr rfl
theorem osc_I0 {g : Int → Int → Int} : OSc K (rI0 fun i j => .int (g i j)) (hI0 g) := fun H x y d e Q hx hy h => by
  cases hx <;> first | exact h.elim | skip
  cases hy <;> first | exact h.elim | skip
  exact ⟨_, _, rfl, rfl, h.2 _ (.int _)⟩
theorem osc_B0 {g : Int → Int → Bool} : OSc K (rI0 fun i j => .bl (g i j)) (hB0 g) := fun H x y d e Q hx hy h => by
  cases hx <;> first | exact h.elim | skip
  cases hy <;> first | exact h.elim | skip
  exact ⟨_, _, rfl, rfl, h.2 _ (.bl _)⟩
theorem osc_I {C : Int → Int → Bool} {C' : Int → Int → Prop} {g : Int → Int → Int} (hc : ∀ i j, C i j = true → C' i j) : OSc K (rI C' fun i j => .int (g i j)) (hI C g) := fun H x y d e Q hx hy h => by
  cases hx <;> first | exact h.elim | skip
  cases hy <;> first | exact h.elim | skip
  rename_i i j
  unfold hI at h
  simp only at h
  by_cases c : C i j = true
  · rw [if_pos c] at h
    exact ⟨_, _, rfl, rfl, hc _ _ c, h.2 _ (.int _)⟩
  · rw [if_neg c] at h
    exact h.elim
theorem usc_U {g : Int → Int} : USc K (rU fun i => .int (g i)) (hU g) := fun H x d Q hx h => by
  cases hx <;> first | exact h.elim | skip
  exact ⟨_, rfl, h.2 _ (.int _)⟩
theorem scl_U {g} : Scl1 (hU g) := fun d => by cases d <;> first | exact .inr rfl | exact .inl ⟨_, rfl, rfl⟩
theorem cMul_ok {i j : Int} (h : cMul i j = true) : CMul i j := by
  unfold cMul at h
  rw [Bool.or_eq_true, decide_eq_true_eq, decide_eq_true_eq] at h
  rcases h with h | h
  · exact .inl (by omega)
  · exact .inr (by omega)
theorem cDiv_ok {i j : Int} (h : cDiv i j = true) : CDivW i j := by
  unfold cDiv at h
  rw [Bool.and_eq_true, decide_eq_true_eq, decide_eq_true_eq] at h
  exact wide_div h.1 h.2 (by decide) (by decide)
theorem cMod_ok {i j : Int} (h : cMod i j = true) : 0 < j := by
  unfold cMod at h
  rw [decide_eq_true_eq] at h
  exact h
theorem cPow_ok {i j : Int} (h : cPow i j = true) : CPow i j := by
  unfold cPow at h
  rw [Bool.and_eq_true, Bool.and_eq_true, decide_eq_true_eq, decide_eq_true_eq, decide_eq_true_eq] at h
  exact ⟨h.1.1, h.1.2, h.2⟩
theorem scl_eq : Scl2 hEq := fun d e => by
  unfold hEq
  split
  · exact .inl ⟨_, rfl, rfl⟩
  · exact .inr rfl
theorem scl_ne : Scl2 hNe := fun d e => by
  unfold hNe
  split
  · exact .inl ⟨_, rfl, rfl⟩
  · exact .inr rfl
theorem osc_eq : OSc K (rEqD K) hEq := fun H x y d e Q hx hy h => by
  unfold hEq at h
  by_cases c : (SeqAt.shaped d && SeqAt.shaped e) = true
  · rw [if_pos c] at h
    rw [Bool.and_eq_true] at c
    exact ⟨d, e, hx.dp (shaped_lay c.1), hy.dp (shaped_lay c.2), c.1, c.2, h.2 _ (.bl _)⟩
  · rw [if_neg c] at h
    exact h.elim
theorem osc_ne : OSc K (rNeD K) hNe := fun H x y d e Q hx hy h => by
  unfold hNe at h
  by_cases c : (SeqAt.shaped d && SeqAt.shaped e) = true
  · rw [if_pos c] at h
    rw [Bool.and_eq_true] at c
    exact ⟨d, e, hx.dp (shaped_lay c.1), hy.dp (shaped_lay c.2), c.1, c.2, h.2 _ (.bl _)⟩
  · rw [if_neg c] at h
    exact h.elim
theorem scl_is : Scl2 hIs := fun d e => by cases e <;> first | exact .inr rfl | exact .inl ⟨_, rfl, rfl⟩
theorem osc_is : OSc K (fun x y H Q => y = .non ∧ Q (.bl (decide (x = .non))) H) hIs := fun H x y d e Q hx hy h => by
  cases hy <;> first | exact h.elim | skip
  refine ⟨rfl, h.2 _ ?_⟩
  cases hx <;> exact .bl _
def rInDT (K : PySem.W.Frag) (neg : Bool) : R2 := fun x y H Q => ∃ d e ds, Dp K H x d ∧ Dp K H y e ∧ (e = .list ds ∨ e = .tuple ds) ∧ SeqAt.shaped d = true ∧ SeqAt.shaped e = true ∧ Q (.bl (if neg then !ds.any fun z => PyData.eqv z d else ds.any fun z => PyData.eqv z d)) H
theorem room_in_any {A : Around} {d e : PyData} {ds : List PyData} (sd : SeqAt.shaped d = true) (hu : A.units + 65 < cLine) : A.units + 1 + min (PyData.depthAll ds) d.depth < cLine := by
  have h1 := SeqAt.depth_of_shaped sd
  have h2 : min (PyData.depthAll ds) d.depth ≤ d.depth := Nat.min_le_right _ _
  omega
theorem op_notInDT {X : Cx} (hu : X.A.units + 65 < cLine) : OpR X (compareOp .NotIn) (rInDT X.K true) := by
  intro pins s σ H x y v u Q I rx ry h
  obtain ⟨d, e, ds, hd, he, ee, sd, se, q⟩ := h
  obtain ⟨as, r1⟩ := Dp.reads I d x v hd rx
  obtain ⟨bs, r2⟩ := Dp.reads I e y u he ry
  rcases ee with rfl | rfl
  · exact SeqAt.notIn_list_reads r2 r1 (SeqAt.canLay_of_shaped se) (SeqAt.canLay_of_shaped sd) (room_in_any (e := d) sd hu) ⟨.bl _, H, I, rfl, q⟩
  · exact SeqAt.notIn_tuple_reads r2 r1 (SeqAt.canLay_of_shaped se) (SeqAt.canLay_of_shaped sd) (room_in_any (e := d) sd hu) ⟨.bl _, H, I, rfl, q⟩
theorem scl_notIn : Scl2 hNotIn := fun d e => by
  unfold hNotIn
  cases e <;> first | exact .inr rfl | (simp only; split <;> first | exact .inl ⟨_, rfl, rfl⟩ | exact .inr rfl)
theorem osc_notIn : OSc K (rInDT K true) hNotIn := fun H x y d e Q hx hy h => by
  unfold hNotIn at h
  cases e <;> first | exact h.elim | skip
  all_goals rename_i ds
  · simp only at h
    generalize he : (PyData.list ds : PyData) = e at h hy
    by_cases c : (SeqAt.shaped d && SeqAt.shaped e) = true
    · rw [if_pos c] at h
      rw [Bool.and_eq_true] at c
      exact ⟨d, e, ds, hx.dp (shaped_lay c.1), hy.dp (shaped_lay c.2), .inl he.symm, c.1, c.2, h.2 _ (.bl _)⟩
    · rw [if_neg c] at h
      exact h.elim
  · simp only at h
    generalize he : (PyData.tuple ds : PyData) = e at h hy
    by_cases c : (SeqAt.shaped d && SeqAt.shaped e) = true
    · rw [if_pos c] at h
      rw [Bool.and_eq_true] at c
      exact ⟨d, e, ds, hx.dp (shaped_lay c.1), hy.dp (shaped_lay c.2), .inr he.symm, c.1, c.2, h.2 _ (.bl _)⟩
    · rw [if_neg c] at h
      exact h.elim
theorem Rp.lenV {F : Addr → Prop} {H : Hp} {v : V} {xs : List Dt} (h : Rp K F H v (.list xs)) : LenV K v H xs.length := by
  cases h with
  | lst h _ r => exact .inl ⟨_, .inl (.inl h), by first | exact r.length | exact r.length.symm⟩
theorem Rp.lenVt {F : Addr → Prop} {H : Hp} {v : V} {xs : List Dt} (h : Rp K F H v (.tuple xs)) : LenV K v H xs.length := by
  cases h with
  | tup h r => exact .inr ⟨_, h, by first | exact r.length | exact r.length.symm⟩
theorem csc_len : CSc K (fun xs H Q => ∃ x n, xs = [x] ∧ LenV K x H n ∧ Q (.int n) H) hLen := fun H xs ds Q hx h => by
  unfold hLen at h
  split at h
  · rename_i e
    split at e
    · cases hx with
      | cons h1 h2 =>
        cases h2
        cases e
        exact ⟨_, _, rfl, h1.lenV, h.2 _ (.int _)⟩
    · cases hx with
      | cons h1 h2 =>
        cases h2
        cases e
        exact ⟨_, _, rfl, h1.lenVt, h.2 _ (.int _)⟩
    · split at e
      · rename_i c
        cases e
        cases hx with
        | cons h1 h2 =>
          cases h2
          cases h1
          exact ⟨_, _, rfl, ⟨sz_le c, rfl⟩, h.2 _ (.int _)⟩
      · cases e
    · cases e
  · exact h.elim
theorem scl_len : SclA hLen := fun ds => by
  unfold hLen
  split
  · exact .inl ⟨_, rfl, rfl⟩
  · exact .inl ⟨_, rfl, rfl⟩
  · split
    · exact .inl ⟨_, rfl, rfl⟩
    · exact .inr rfl
  · exact .inr rfl
theorem rpInt {F : Addr → Prop} {H : Hp} {v : V} {i : Int} (h : Rp K F H v (.int i)) : v = .int i := by cases h; rfl
theorem csc_min2 : CSc K (fun xs H Q => ∃ i j, xs = [.int i, .int j] ∧ Q (.int (if j < i then j else i)) H) hMin2 := fun H xs ds Q hx h => by
  unfold hMin2 at h
  split at h
  · rename_i e
    split at e
    · cases hx with
      | cons h1 h2 =>
        cases h2 with
        | cons h2 h3 =>
          cases h3
          cases e
          rw [rpInt h1, rpInt h2]
          exact ⟨_, _, rfl, h.2 _ (.int _)⟩
    · cases e
  · exact h.elim
theorem scl_min2 : SclA hMin2 := fun ds => by
  unfold hMin2
  split
  · exact .inl ⟨_, rfl, rfl⟩
  · exact .inr rfl
theorem csc_max2 : CSc K (fun xs H Q => ∃ i j, xs = [.int i, .int j] ∧ Q (.int (if j > i then j else i)) H) hMax2 := fun H xs ds Q hx h => by
  unfold hMax2 at h
  split at h
  · rename_i e
    split at e
    · cases hx with
      | cons h1 h2 =>
        cases h2 with
        | cons h2 h3 =>
          cases h3
          cases e
          rw [rpInt h1, rpInt h2]
          exact ⟨_, _, rfl, h.2 _ (.int _)⟩
    · cases e
  · exact h.elim
theorem scl_max2 : SclA hMax2 := fun ds => by
  unfold hMax2
  split
  · exact .inl ⟨_, rfl, rfl⟩
  · exact .inr rfl
def rMin3 : List V → Hp → VK → Prop := fun xs H Q => ∃ i j k, xs = [.int i, .int j, .int k] ∧ Q (.int (if j < i then (if k < j then k else j) else (if k < i then k else i))) H
theorem call_min3 {X : Cx} (hc : X.calm = true) : CallR X (.builtin "min") rMin3 := by
  intro pins s σ H xs us Q I r h
  obtain ⟨i, j, k, rfl, q⟩ := h
  cases r with
  | cons r1 r =>
    cases r with
    | cons r2 r =>
      cases r with
      | cons r3 r =>
        cases r
        obtain ⟨t1, rfl⟩ := r1
        obtain ⟨t2, rfl⟩ := r2
        obtain ⟨t3, rfl⟩ := r3
        refine min_three_ints (I.ok.hd hc) fun h' tk k => ⟨_, H, I.kept k, ?_, q⟩
        split
        · split <;> exact ⟨_, rfl⟩
        · split <;> exact ⟨_, rfl⟩
theorem csc_min3 : CSc K rMin3 hMin3 := fun H xs ds Q hx h => by
  unfold hMin3 at h
  split at h
  · rename_i e
    split at e
    · cases hx with
      | cons h1 h2 =>
        cases h2 with
        | cons h2 h3 =>
          cases h3 with
          | cons h3 h4 =>
            cases h4
            cases e
            rw [rpInt h1, rpInt h2, rpInt h3]
            exact ⟨_, _, _, rfl, h.2 _ (.int _)⟩
    · cases e
  · exact h.elim
theorem scl_min3 : SclA hMin3 := fun ds => by
  unfold hMin3
  split
  · exact .inl ⟨_, rfl, rfl⟩
  · exact .inr rfl
theorem rp_bools {F : Addr → Prop} {H : Hp} : ∀ {xs : List V} {ds : List Dt} {bs : List Bool}, RpA K F H xs ds → allB ds = some bs → xs = bs.map V.bl
  | _, _, _, .nil, e => by cases e; rfl
  | _, _, bs, .cons (d := d) h r, e => by
    cases h <;> first | (cases e; done) | skip
    rename_i b _ _
    unfold allB at e
    cases q : allB _ with
    | none => rw [q] at e; cases e
    | some cs =>
      rw [q] at e
      cases e
      rw [rp_bools r q]
      rfl
theorem rp_ints {F : Addr → Prop} {H : Hp} : ∀ {xs : List V} {ds : List Dt} {bs : List Int}, RpA K F H xs ds → allI ds = some bs → xs = bs.map V.int
  | _, _, _, .nil, e => by cases e; rfl
  | _, _, bs, .cons (d := d) h r, e => by
    cases h <;> first | (cases e; done) | skip
    rename_i b _ _
    unfold allI at e
    cases q : allI _ with
    | none => rw [q] at e; cases e
    | some cs =>
      rw [q] at e
      cases e
      rw [rp_ints r q]
      rfl
theorem Rp.sql {F : Addr → Prop} {H : Hp} {v : V} {ds : List Dt} (h : Rp K F H v (.list ds)) : ∃ a xs, v = .ref a ∧ SqL K H a xs ∧ RpA K F H xs ds := by
  cases h with
  | lst h _ r => exact ⟨_, _, rfl, .inl (.inl h), r⟩
theorem csc_all : CSc K (rAll K) hAll := fun H xs ds Q hx h => by
  unfold hAll at h
  split at h
  · rename_i e
    split at e
    · split at e
      · rename_i bs eb
        cases e
        cases hx with
        | cons h1 h2 =>
          cases h2
          obtain ⟨a, ys, rfl, hs, r⟩ := h1.sql
          rw [rp_bools r eb] at hs
          exact ⟨a, bs, rfl, hs, h.2 _ (.bl _)⟩
      · cases e
    · cases e
  · exact h.elim
theorem scl_all : SclA hAll := fun ds => by
  unfold hAll
  split
  · split
    · exact .inl ⟨_, rfl, rfl⟩
    · exact .inr rfl
  · exact .inr rfl
theorem scl_any : SclA hAny := fun ds => by
  unfold hAny
  split
  · split
    · exact .inl ⟨_, rfl, rfl⟩
    · exact .inr rfl
  · exact .inr rfl
theorem usc_bits : USc K (fun x H Q => ∃ i, x = .int i ∧ Q (.int (Builtin.Int.intBits i : Nat)) H) hBits := fun H x d Q hx h => by
  cases hx <;> first | exact h.elim | skip
  exact ⟨_, rfl, h.2 _ (.int _)⟩
theorem scl_bits : Scl1 hBits := fun d => by cases d <;> first | exact .inr rfl | exact .inl ⟨_, rfl, rfl⟩
end
section
variable {X : Cx} {K : PySem.W.Frag} {W : Wt} {Δ : List Kd} {a b c e : Expr} {es : List Expr} {ta tb tc te : TE} {tt tu : TT} {tA : TA} {ga gb gc g : Gd} {gt gu : List Dt → O Bool} {gA : List Dt → O (List Dt)} {k k1 k2 : Rk} {av fr av' fr' : Bool} {pos : Pos}
theorem x_var (i : Nat) {x : Str} (hk : Δ[i]? = some (.im fr) := by rfl) (hN : X.N[i]? = some x := by rfl) (hv : Vis X.env.scope x := by first | exact Or.inl rfl | exact Or.inr (Or.inl rfl) | exact Or.inr (Or.inr rfl)) (hd : (x == ("__debug__" : Str)) = false := by decide)
    (hcd : (x == ("__classdict__" : Str)) = false := by decide) (hK : X.K = K := by rfl) : PD X K W Δ (.Name x pos) (tVar i) (.v true fr) (gVar i) := ⟨pe_var hN hv hd hcd, hK, se_var hk⟩
theorem x_own (i : Nat) {x : Str} (hk : Δ[i]? = some (.own .l fr) := by rfl) (hN : X.N[i]? = some x := by rfl) (hv : Vis X.env.scope x := by first | exact Or.inl rfl | exact Or.inr (Or.inl rfl) | exact Or.inr (Or.inr rfl)) (hd : (x == ("__debug__" : Str)) = false := by decide)
    (hcd : (x == ("__classdict__" : Str)) = false := by decide) (hK : X.K = K := by rfl) : PD X K W Δ (.Name x pos) (tVar i) (.o fr) (gVar i) := ⟨pe_var hN hv hd hcd, hK, se_own hk⟩
theorem x_int {i : Int} {j} (hK : X.K = K := by rfl) : PD X K W Δ (.Constant (.int i) j pos) (tC (.int i)) (.v true true) (gC (.int i)) := ⟨pe_int, hK, se_int⟩
theorem x_bl {i : Bool} {j} (hK : X.K = K := by rfl) : PD X K W Δ (.Constant (.bool i) j pos) (tC (.bl i)) (.v true true) (gC (.bool i)) := ⟨pe_bl, hK, se_bl⟩
theorem x_non {j} (hK : X.K = K := by rfl) : PD X K W Δ (.Constant .none j pos) (tC .non) (.v true true) (gC .none) := ⟨pe_non, hK, se_non⟩
theorem x_str {x : Str} {j} (hK : X.K = K := by rfl) : PD X K W Δ (.Constant (.str x) j pos) (tC (.str x)) (.v true true) (gC (.str x)) := ⟨pe_str, hK, se_str⟩
theorem x_glob {x : Str} {v : V} {u : Value} {d : Dt} (hm : X.mg x = some u) (r : RelV v u) (hr : Rp K (fun _ => False) (fun _ => none) v d) (s : scl d = true := by rfl) (hg : Gl X x := by rfl) (hd : (x == ("__debug__" : Str)) = false := by decide) (hK : X.K = K := by rfl) :
    PD X K W Δ (.Name x pos) (tC v) (.v true true) (gC d) := ⟨pe_glob hg hm r hd, hK, se_c hr s⟩
theorem PD.wk (h : PD X K W Δ e te (.v av fr) g) (h1 : av' = true → av = true := by decide) (h2 : fr' = true → fr = true := by decide) : PD X K W Δ e te (.v av' fr') g := ⟨h.pe, h.hK, h.se.wk h1 h2⟩
theorem PD.ov (h : PD X K W Δ e te (.o fr) g) : PD X K W Δ e te (.v false fr) g := ⟨h.pe, h.hK, h.se.ov⟩
theorem PD.nv (h : PD X K W Δ e te (.new .l fr) g) : PD X K W Δ e te (.v true fr) g := ⟨h.pe, h.hK, h.se.nv⟩
theorem PD.no (h : PD X K W Δ e te (.new .l fr) g) : PD X K W Δ e te (.o fr) g := ⟨h.pe, h.hK, h.se.no⟩
theorem PD.pur (h : PD X K W Δ e te (.v av fr) g) : PD X K W Δ e te (.v true true) (gPur g) := ⟨h.pe, h.hK, h.se.pur⟩
theorem x_add (ha : PD X K W Δ a ta (.v av fr) ga) (hb : PD X K W Δ b tb (.v av' fr') gb) : PD X K W Δ (.BinOp a .Add b pos) (tOp (rI0 fun i j => .int (i + j)) ta tb) (.v true true) (gOp hAdd ga gb) := ⟨pe_op op_add ha.pe hb.pe, ha.hK, se_op scl_I0 osc_I0 ha.se hb.se⟩
theorem x_sub (ha : PD X K W Δ a ta (.v av fr) ga) (hb : PD X K W Δ b tb (.v av' fr') gb) : PD X K W Δ (.BinOp a .Sub b pos) (tOp (rI0 fun i j => .int (i - j)) ta tb) (.v true true) (gOp hSub ga gb) := ⟨pe_op op_sub ha.pe hb.pe, ha.hK, se_op scl_I0 osc_I0 ha.se hb.se⟩
theorem x_mul (ha : PD X K W Δ a ta (.v av fr) ga) (hb : PD X K W Δ b tb (.v av' fr') gb) : PD X K W Δ (.BinOp a .Mult b pos) (tOp (rI CMul fun i j => .int (i * j)) ta tb) (.v true true) (gOp hMul ga gb) := ⟨pe_op op_mul ha.pe hb.pe, ha.hK, se_op scl_I (osc_I fun _ _ => cMul_ok) ha.se hb.se⟩
theorem x_div (ha : PD X K W Δ a ta (.v av fr) ga) (hb : PD X K W Δ b tb (.v av' fr') gb) : PD X K W Δ (.BinOp a .FloorDiv b pos) (tOp (rI CDivW fun i j => .int (i / j)) ta tb) (.v true true) (gOp hDiv ga gb) := ⟨pe_op op_fdivW ha.pe hb.pe, ha.hK, se_op scl_I (osc_I fun _ _ => cDiv_ok) ha.se hb.se⟩
theorem x_mod (ha : PD X K W Δ a ta (.v av fr) ga) (hb : PD X K W Δ b tb (.v av' fr') gb) : PD X K W Δ (.BinOp a .Mod b pos) (tOp (rI (fun _ j => 0 < j) fun i j => .int (i % j)) ta tb) (.v true true) (gOp hMod ga gb) := ⟨pe_op op_mod ha.pe hb.pe, ha.hK, se_op scl_I (osc_I fun _ _ => cMod_ok) ha.se hb.se⟩
theorem x_pow (ha : PD X K W Δ a ta (.v av fr) ga) (hb : PD X K W Δ b tb (.v av' fr') gb) : PD X K W Δ (.BinOp a .Pow b pos) (tOp (rI CPow fun i j => .int (i ^ j.toNat)) ta tb) (.v true true) (gOp hPow ga gb) := ⟨pe_op op_pow ha.pe hb.pe, ha.hK, se_op scl_I (osc_I fun _ _ => cPow_ok) ha.se hb.se⟩
theorem x_neg (ha : PD X K W Δ a ta (.v av fr) ga) : PD X K W Δ (.UnaryOp .USub a pos) (tUn (rU fun i => .int (-i)) ta) (.v true true) (gUn (hU fun i => -i) ga) := ⟨pe_un un_neg ha.pe, ha.hK, se_un scl_U usc_U ha.se⟩
theorem x_bits {apos : Pos} (ha : PD X K W Δ a ta (.v av fr) ga) (hbase : attributeBase a "bit_length" X.env (eval a X.env) = eval a X.env := by rfl) (hline : (apos.endLine == pos.line) = true := by rfl) :
    PD X K W Δ (.Call (.Attribute a "bit_length" apos) [] [] pos) (tBits ta) (.v true true) (gUn hBits ga) := ⟨pe_bits ha.pe hbase hline, ha.hK, se_un scl_bits usc_bits ha.se⟩
theorem c_val (h : PD X K W Δ e te (.v av fr) g) (he : ∀ whole, isTrue e X.env whole = (do let v ← whole; standAt e.pos; holding [v] (truthy v)) := by intro _; rfl) : TD X K W Δ e (tB te) (gTest g) := ⟨pt_val h.pe he, h.hK, st_B h.se⟩
theorem c_not (h : TD X K W Δ a tt gt) : TD X K W Δ (.UnaryOp .Not a pos) (tNot tt) (gNot gt) := ⟨pt_not h.pt, h.hK, st_not h.st⟩
theorem w_and1 (h : TD X K W Δ a tt gt) : WD X K W Δ (.BoolOp .And [a] pos) tt gt := ⟨pw_and1 h.pt, h.hK, h.st⟩
theorem w_or1 (h : TD X K W Δ a tt gt) : WD X K W Δ (.BoolOp .Or [a] pos) tt gt := ⟨pw_or1 h.pt, h.hK, h.st⟩
theorem w_and (h : TD X K W Δ a tt gt) (h2 : WD X K W Δ (.BoolOp .And (b :: es) pos) tu gu) : WD X K W Δ (.BoolOp .And (a :: b :: es) pos) (tAnd tt tu) (gAnd gt gu) := ⟨pw_and h.pt h2.pw, h.hK, st_and h.st h2.st⟩
theorem w_or (h : TD X K W Δ a tt gt) (h2 : WD X K W Δ (.BoolOp .Or (b :: es) pos) tu gu) : WD X K W Δ (.BoolOp .Or (a :: b :: es) pos) (tOr tt tu) (gOr gt gu) := ⟨pw_or h.pt h2.pw, h.hK, st_or h.st h2.st⟩
theorem c_w (h : WD X K W Δ e tt gt) : TD X K W Δ e tt gt := ⟨h.pw.pt, h.hK, h.st⟩
theorem x_one {op} (h : PD X K W Δ a ta k ga) : PD X K W Δ (.BoolOp op [a] pos) ta k ga := ⟨pe_one h.pe, h.hK, h.se⟩
theorem x_and (ha : PD X K W Δ a ta (.v av fr) ga) (hb : PD X K W Δ (.BoolOp .And (b :: es) pos) tb (.v true true) gb) : PD X K W Δ (.BoolOp .And (a :: b :: es) pos) (tAndV ta tb) (.v true true) (gAndV ga gb) := ⟨pe_and ha.pe hb.pe, ha.hK, se_andV ha.se hb.se⟩
theorem x_or (ha : PD X K W Δ a ta (.v av fr) ga) (hb : PD X K W Δ (.BoolOp .Or (b :: es) pos) tb (.v true true) gb) : PD X K W Δ (.BoolOp .Or (a :: b :: es) pos) (tOrV ta tb) (.v true true) (gOrV ga gb) := ⟨pe_or ha.pe hb.pe, ha.hK, se_orV ha.se hb.se⟩
theorem x_not (ha : PD X K W Δ a ta (.v av fr) ga) : PD X K W Δ (.UnaryOp .Not a pos) (tNotV ta) (.v true true) (gNotV ga) := ⟨pe_not ha.pe, ha.hK, se_notV ha.se⟩
theorem a_nil (hK : X.K = K := by rfl) : AD X K W Δ [] tNil true true gNil := ⟨pa_nil, hK, sa_nil⟩
theorem a_cons (ha : PD X K W Δ a ta (.v av fr) ga) (hr : AD X K W Δ es tA av' fr' gA) (hs : starEach (a :: es) X.env = (false, eval a X.env) :: starEach es X.env := by rfl) : AD X K W Δ (a :: es) (tCons ta tA) (av && av') (fr && fr') (gCons ga gA) := ⟨pa_cons ha.pe hr.pa hs, ha.hK, sa_cons ha.se hr.sa⟩
theorem AD.wk (h : AD X K W Δ es tA av fr gA) (h1 : av' = true → av = true := by decide) (h2 : fr' = true → fr = true := by decide) : AD X K W Δ es tA av' fr' gA := ⟨h.pa, h.hK, h.sa.wk h1 h2⟩
theorem x_tup {x1} (h : AD X K W Δ es tA av fr gA) : PD X K W Δ (.Tuple es x1 pos) (tTup tA) (.v av fr) (gTup gA) := ⟨pe_tup h.pa, h.hK, se_tup h.sa⟩
theorem x_lst (h : AD X K W Δ es tA true fr gA) : PD X K W Δ (.List es pos) (tLst tA) (.new .l fr) (gLst gA) := ⟨pe_lst h.pa, h.hK, se_lst h.sa⟩
theorem x_len {x : Str} {p : Pos} (hm : X.mg x = none) (h : AD X K W Δ (e :: es) tA av fr gA) (hv : bootBuiltins x = some (.builtin "len") := by decide +kernel) (hg : Gl X x := by rfl) (hn : x ≠ "__name__" := by decide) (hdb : (x == ("__debug__" : Str)) = false := by decide)
    (he : starEach (e :: es) X.env = (false, eval e X.env) :: starEach es X.env := by rfl) (hpl : (backTo pos (starEach es X.env)).any (·.1) = false := by rfl) :
    PD X K W Δ (.Call (.Name x p) (e :: es) [] pos) (tCB (fun xs H Q => ∃ x n, xs = [x] ∧ LenV K x H n ∧ Q (.int n) H) tA) (.v true true) (gCB hLen gA) :=
  ⟨pe_callB (by have q := call_len (X := X); rw [h.hK] at q; exact q) hg hm hv h.pa hn hdb he hpl, h.hK, se_cb scl_len csc_len h.sa⟩
theorem x_min2 {x : Str} {p : Pos} (hm : X.mg x = none) (h : AD X K W Δ (e :: es) tA av fr gA) (hc : X.calm = true := by rfl) (hv : bootBuiltins x = some (.builtin "min") := by decide +kernel) (hg : Gl X x := by rfl) (hn : x ≠ "__name__" := by decide) (hdb : (x == ("__debug__" : Str)) = false := by decide)
    (he : starEach (e :: es) X.env = (false, eval e X.env) :: starEach es X.env := by rfl) (hpl : (backTo pos (starEach es X.env)).any (·.1) = false := by rfl) :
    PD X K W Δ (.Call (.Name x p) (e :: es) [] pos) (tCB (fun xs H Q => ∃ i j, xs = [.int i, .int j] ∧ Q (.int (if j < i then j else i)) H) tA) (.v true true) (gCB hMin2 gA) := ⟨pe_callB (call_min2 hc) hg hm hv h.pa hn hdb he hpl, h.hK, se_cb scl_min2 csc_min2 h.sa⟩
theorem x_max2 {x : Str} {p : Pos} (hm : X.mg x = none) (h : AD X K W Δ (e :: es) tA av fr gA) (hc : X.calm = true := by rfl) (hv : bootBuiltins x = some (.builtin "max") := by decide +kernel) (hg : Gl X x := by rfl) (hn : x ≠ "__name__" := by decide) (hdb : (x == ("__debug__" : Str)) = false := by decide)
    (he : starEach (e :: es) X.env = (false, eval e X.env) :: starEach es X.env := by rfl) (hpl : (backTo pos (starEach es X.env)).any (·.1) = false := by rfl) :
    PD X K W Δ (.Call (.Name x p) (e :: es) [] pos) (tCB (fun xs H Q => ∃ i j, xs = [.int i, .int j] ∧ Q (.int (if j > i then j else i)) H) tA) (.v true true) (gCB hMax2 gA) := ⟨pe_callB (call_max2 hc) hg hm hv h.pa hn hdb he hpl, h.hK, se_cb scl_max2 csc_max2 h.sa⟩
theorem x_min3 {x : Str} {p : Pos} (hm : X.mg x = none) (h : AD X K W Δ (e :: es) tA av fr gA) (hc : X.calm = true := by rfl) (hv : bootBuiltins x = some (.builtin "min") := by decide +kernel) (hg : Gl X x := by rfl) (hn : x ≠ "__name__" := by decide) (hdb : (x == ("__debug__" : Str)) = false := by decide)
    (he : starEach (e :: es) X.env = (false, eval e X.env) :: starEach es X.env := by rfl) (hpl : (backTo pos (starEach es X.env)).any (·.1) = false := by rfl) :
    PD X K W Δ (.Call (.Name x p) (e :: es) [] pos) (tCB rMin3 tA) (.v true true) (gCB hMin3 gA) := ⟨pe_callB (call_min3 hc) hg hm hv h.pa hn hdb he hpl, h.hK, se_cb scl_min3 csc_min3 h.sa⟩
theorem x_all {x : Str} {p : Pos} (hm : X.mg x = none) (h : AD X K W Δ (e :: es) tA av fr gA) (hc : X.calm = true := by rfl) (hv : bootBuiltins x = some (.builtin "all") := by decide +kernel) (hg : Gl X x := by rfl) (hn : x ≠ "__name__" := by decide) (hdb : (x == ("__debug__" : Str)) = false := by decide)
    (he : starEach (e :: es) X.env = (false, eval e X.env) :: starEach es X.env := by rfl) (hpl : (backTo pos (starEach es X.env)).any (·.1) = false := by rfl) :
    PD X K W Δ (.Call (.Name x p) (e :: es) [] pos) (tCB (rAll K) tA) (.v true true) (gCB hAll gA) := ⟨pe_callB (by have q := cr_all (X := X) hc; rw [h.hK] at q; exact q) hg hm hv h.pa hn hdb he hpl, h.hK, se_cb scl_all csc_all h.sa⟩
end
end Sim
end T_SimC
section T_SimD
set_option Elab.async false
set_option linter.all false
set_option maxRecDepth 100000
namespace Sim
open PySem PySem.Spec L2
open PyProof.Rows hiding St
def cutD (xs : List Dt) (lo hi : Option Int) : List Dt := (xs.drop (HT.sIx xs.length 0 lo)).take (HT.sIx xs.length xs.length hi - HT.sIx xs.length 0 lo)
def hIx : Dt → Dt → O Dt := fun d e => match d, e with
  | .list ds, .int i => match atI ds i with
    | some z => .ok z
    | none => .bad
  | .tuple ds, .int i => match atI ds i with
    | some z => .ok z
    | none => .bad
  | .str z, .int i => if z.length ≤ 100000 then (match atI z.cps.toList i with
    | some c => .ok (.str ⟨#[c]⟩)
    | none => .bad) else .bad
  | _, _ => .bad
def hSl : Dt → Option Int → Option Int → O Dt := fun d lo hi => match d with
  | .list ds => .ok (.list (cutD ds lo hi))
  | _ => .bad
def gSl (h : Dt → Option Int → Option Int → O Dt) (g : Gd) (gl gh : List Dt → O (Option Int)) : Gd := fun ρ => bnd (g ρ) fun d => bnd (gl ρ) fun lo => bnd (gh ρ) fun hi => h d lo hi
def gNoPart : List Dt → O (Option Int) := fun _ => .ok none
def gPart (g : Gd) : List Dt → O (Option Int) := fun ρ => bnd (g ρ) fun d => match d with
  | .int i => .ok (some i)
  | _ => .bad
def hCat : Dt → Dt → O Dt := fun d e => match d, e with
  | .list xs, .list ys => if xs.length + ys.length ≤ 100000 then .ok (.list (xs ++ ys)) else .bad
  | _, _ => .bad
def hListOf : Dt → O Dt := fun d => match d with
  | .list xs => .ok (.list xs)
  | .tuple xs => .ok (.list xs)
  | _ => .bad
def hTupOf : Dt → O Dt := fun d => match d with
  | .list xs => .ok (.tuple xs)
  | .tuple xs => .ok (.tuple xs)
  | _ => .bad
def one (h : Dt → O Dt) : List Dt → O Dt := fun ds => match ds with
  | [d] => h d
  | _ => .bad
section
variable {K : PySem.W.Frag} {W : Wt} {Δ : List Kd} {F : Addr → Prop} {H : Hp}
theorem RpA.ixN {vs : List V} {ds : List Dt} {i : Int} {z : Dt} (r : RpA K F H vs ds) (h : atI ds i = some z) : ∃ v, atI vs i = some v ∧ Rp K F H v z := by
  unfold atI at h ⊢
  rw [r.length]
  cases e : L2.ixN ds.length i with
  | none => rw [e] at h; cases h
  | some j =>
    rw [e] at h
    exact r.get' h
theorem Rp.sqt {v : V} {ds : List Dt} (h : Rp K F H v (.tuple ds)) : ∃ a xs, v = .ref a ∧ SqT K H a xs ∧ RpA K F H xs ds := by
  cases h with
  | tup h r => exact ⟨_, _, rfl, h, r⟩
theorem RpA.cut {vs : List V} {ds : List Dt} {lo hi : Option Int} (r : RpA K F H vs ds) : RpA K F H (cutV vs lo hi) (cutD ds lo hi) := by
  unfold cutV cutD
  rw [r.length]
  exact (r.drop _).take _
theorem se_ix {ta tb : TE} {ga gb : Gd} {av fr av' fr' : Bool} (ha : SE K W Δ ta (.v av fr) ga) (hb : SE K W Δ tb (.v av' fr') gb) : SE K W Δ (tOp (rIx K) ta tb) (.v av fr) (gOp hIx ga gb) := fun f ρ σ H Q R q => by
  refine ha f ρ σ H _ R ?_
  unfold gOp at q
  cases e1 : ga ρ with
  | bad => rw [e1] at q; exact q
  | ex z => rw [e1] at q; exact q
  | ok d =>
    rw [e1, bnd_ok] at q
    intro v H1 s1 x1
    refine hb f ρ σ H1 _ (R.mono s1) ?_
    cases e2 : gb ρ with
    | bad => rw [e2] at q; exact q
    | ex z => rw [e2] at q; exact fun H' s => q H' (s1.trans s)
    | ok d2 =>
      rw [e2, bnd_ok] at q
      intro v2 H2 s2 x2
      unfold hIx at q
      split at q
      · split at q
        · rename_i z hz
          obtain ⟨a, xs, rfl, hs, r⟩ := (x1.same s2).sql
          obtain ⟨w, hw, rw'⟩ := r.ixN hz
          rw [rpInt x2]
          exact .inl ⟨a, xs, _, w, rfl, rfl, hs, hw, q w H2 (s1.trans s2) rw'⟩
        · exact q.elim
      · split at q
        · rename_i z hz
          obtain ⟨a, xs, rfl, hs, r⟩ := (x1.same s2).sqt
          obtain ⟨w, hw, rw'⟩ := r.ixN hz
          rw [rpInt x2]
          exact .inr (.inl ⟨a, xs, _, w, rfl, rfl, hs, hw, q w H2 (s1.trans s2) rw'⟩)
        · exact q.elim
      · split at q
        · rename_i hl
          split at q
          · rename_i c hc
            rw [rpInt x2]
            cases x1
            exact .inr (.inr ⟨_, _, c, rfl, rfl, sz_le hl, hc, q _ H2 (s1.trans s2) (.str _)⟩)
          · exact q.elim
        · exact q.elim
      · exact q.elim
theorem se_ixO {ta tb : TE} {ga gb : Gd} {fr av' fr' : Bool} (ha : SE K W Δ ta (.o fr) ga) (hb : SE K W Δ tb (.v av' fr') gb) : SE K W Δ (tOp (rIx K) ta tb) (.v true fr) (gOp hIx ga gb) := fun f ρ σ H Q R q => by
  refine ha f ρ σ H _ R ?_
  unfold gOp at q
  cases e1 : ga ρ with
  | bad => rw [e1] at q; exact q
  | ex z => rw [e1] at q; exact q
  | ok d =>
    rw [e1, bnd_ok] at q
    intro p H1 vs ds ed s1 hp gp x1
    subst ed
    refine hb f ρ σ H1 _ (R.mono s1) ?_
    cases e2 : gb ρ with
    | bad => rw [e2] at q; exact q
    | ex z => rw [e2] at q; exact fun H' s => q H' (s1.trans s)
    | ok d2 =>
      rw [e2, bnd_ok] at q
      intro v2 H2 s2 x2
      unfold hIx at q
      cases d2 with
      | int i =>
        simp only at q
        cases hz : atI ds i with
        | some z =>
          rw [hz] at q
          obtain ⟨w, hw, rw'⟩ := (x1.same s2).ixN hz
          rw [rpInt x2]
          exact .inl ⟨p, vs, _, w, rfl, rfl, .inl (.inl (s2 _ _ hp)), hw, q w H2 (s1.trans s2) rw'⟩
        | none => rw [hz] at q; exact q.elim
      | _ => exact q.elim
abbrev TOp := L2.St → Hp → (Option Int → Hp → Prop) → Prop
def SO (K : PySem.W.Frag) (W : Wt) (Δ : List Kd) (to : TOp) (g : List Dt → O (Option Int)) : Prop := ∀ f ρ σ H Q, R K f Δ ρ σ H →
  (match g ρ with | .bad => False | .ex e => ∀ H', Same H H' → W e σ H' | .ok o => ∀ H', Same H H' → Q o H') → to σ H Q
theorem so_none : SO K W Δ tNoPart gNoPart := fun f ρ σ H Q R q => q H (Same.refl H)
theorem so_some {te : TE} {g : Gd} {av fr : Bool} (h : SE K W Δ te (.v av fr) g) : SO K W Δ (tPart te) (gPart g) := fun f ρ σ H Q R q => by
  refine h f ρ σ H _ R ?_
  unfold gPart at q
  cases e1 : g ρ with
  | bad => rw [e1] at q; exact q
  | ex z => rw [e1] at q; exact q
  | ok d =>
    rw [e1, bnd_ok] at q
    intro v H1 s1 x1
    cases d with
    | int i => rw [rpInt x1]; exact ⟨i, rfl, q H1 s1⟩
    | _ => exact q.elim
theorem se_sl {te : TE} {tl th : TOp} {g : Gd} {gl gh : List Dt → O (Option Int)} {fr : Bool} (h : SE K W Δ te (.v true fr) g) (h1 : SO K W Δ tl gl) (h2 : SO K W Δ th gh) : SE K W Δ (tSl (rSlL K) te tl th) (.new .l fr) (gSl hSl g gl gh) := fun f ρ σ H Q R q => by
  refine h f ρ σ H _ R ?_
  unfold gSl at q
  cases e1 : g ρ with
  | bad => rw [e1] at q; exact q
  | ex z => rw [e1] at q; exact q
  | ok d =>
    rw [e1, bnd_ok] at q
    intro v H1 s1 x1
    refine h1 f ρ σ H1 _ (R.mono s1) ?_
    cases e2 : gl ρ with
    | bad => rw [e2] at q; exact q
    | ex z => rw [e2] at q; exact fun H' s => q H' (s1.trans s)
    | ok lo =>
      rw [e2, bnd_ok] at q
      intro H2 s2
      refine h2 f ρ σ H2 _ ((R.mono s1).mono s2) ?_
      cases e3 : gh ρ with
      | bad => rw [e3] at q; exact q
      | ex z => rw [e3] at q; exact fun H' s => q H' ((s1.trans s2).trans s)
      | ok hi =>
        rw [e3, bnd_ok] at q
        intro H3 s3
        cases d with
        | list ds =>
          obtain ⟨a, xs, rfl, hs, r⟩ := (x1.same (s2.trans s3)).sql
          refine ⟨a, xs, rfl, hs, fun p np => ?_⟩
          have s123 := (s1.trans s2).trans s3
          exact q p _ (s123.free np) (s123.trans (same_upd np)) ⟨_, _, rfl, upd_same, (r.mono (same_upd np) fun a y z => ⟨y, fun e => z (e ▸ np)⟩).cut⟩
        | _ => exact q.elim
def rCatS (K : PySem.W.Frag) : R2 := fun x y H Q => ∃ l b xs zs, x = .ref l ∧ y = .ref b ∧ SqL K H l xs ∧ SqL K H b zs ∧ xs.length + zs.length ≤ sizeLine ∧ ∀ p, H p = none → Q (.ref p) (upd H p (.lst (xs ++ zs)))
theorem op_catS {X : Cx} : OpR X (binaryOp .Add) (rCatS X.K) := by
  intro pins s σ H x y v u Q I rx ry h
  obtain ⟨l, b, xs, zs, rfl, rfl, hH, hB, hz, q⟩ := h
  cases rx
  cases ry
  obtain ⟨its, r, ⟨⟨cls, dd, data, sl⟩, n, ho, hc, hd, hdt⟩, hl⟩ := I.list hH
  obtain ⟨its2, r2, ⟨⟨cls2, dd2, data2, sl2⟩, n2, ho2, hc2, hd2, hdt2⟩, hl2⟩ := I.list hB
  simp only at hc hdt hc2 hdt2
  subst hc hdt hc2 hdt2
  have ea : its.toArray ++ its2.toArray = (its ++ its2).toArray := by simp
  have e1 := r.length
  have e2 := r2.length
  refine concat_meets ⟨_, ho, rfl⟩ ⟨_, ho2, rfl⟩ noFill_list_add seq_list_add PySem.F.slot_list_add PySem.F.entry_list_add (PySem.F.args_list_add_2 _ _) (PyProof.Rows.list_addW l b its.toArray its2.toArray n n2 dd dd2 sl sl2 (by rw [List.size_toArray, List.size_toArray]; omega)) ⟨ho, ho2, ?_⟩
  rw [ea]
  exact ⟨.ref _, _, I.lnew (t' := s.toks) (r.append r2) (by rw [List.length_append]; omega), rfl, q _ I.fresh⟩
theorem se_cat {ta tb : TE} {ga gb : Gd} {fr fr' : Bool} (ha : SE K W Δ ta (.v true fr) ga) (hb : SE K W Δ tb (.v true fr') gb) : SE K W Δ (tOp (rCatS K) ta tb) (.new .l (fr && fr')) (gOp hCat ga gb) := fun f ρ σ H Q R q => by
  refine ha f ρ σ H _ R ?_
  unfold gOp at q
  cases e1 : ga ρ with
  | bad => rw [e1] at q; exact q
  | ex z => rw [e1] at q; exact q
  | ok d =>
    rw [e1, bnd_ok] at q
    intro v H1 s1 x1
    refine hb f ρ σ H1 _ (R.mono s1) ?_
    cases e2 : gb ρ with
    | bad => rw [e2] at q; exact q
    | ex z => rw [e2] at q; exact fun H' s => q H' (s1.trans s)
    | ok d2 =>
      rw [e2, bnd_ok] at q
      intro v2 H2 s2 x2
      unfold hCat at q
      split at q
      · split at q
        · rename_i hz
          obtain ⟨a, xs, rfl, hs, r⟩ := (x1.same s2).sql
          obtain ⟨b, ys, rfl, hs2, r2⟩ := x2.sql
          refine ⟨a, b, xs, ys, rfl, rfl, hs, hs2, sz_le (by rw [r.length, r2.length]; exact hz), fun p np => ?_⟩
          have s12 := s1.trans s2
          refine q p _ (s12.free np) (s12.trans (same_upd np)) ⟨_, _, rfl, upd_same, ?_⟩
          exact (r.mono (same_upd np) fun a y z => ⟨y.weak id (fun h => (Bool.and_eq_true_iff.mp h).1), fun e => z (e ▸ np)⟩).append
            (r2.mono (same_upd np) fun a y z => ⟨y.weak id (fun h => (Bool.and_eq_true_iff.mp h).2), fun e => z (e ▸ np)⟩)
        · exact q.elim
      · exact q.elim
theorem one_eq {h : Dt → O Dt} {ds : List Dt} : (∃ d, ds = [d] ∧ one h ds = h d) ∨ one h ds = .bad := by
  match ds with
  | [] => exact .inr rfl
  | [d] => exact .inl ⟨d, rfl, rfl⟩
  | _ :: _ :: _ => exact .inr rfl
def rListOf (K : PySem.W.Frag) : List V → Hp → VK → Prop := fun xs H Q => ∃ p ys, xs = [.ref p] ∧ (SqL K H p ys ∨ SqT K H p ys) ∧ ∀ l, H l = none → Q (.ref l) (upd H l (.lst ys))
theorem se_listOf {tA : TA} {gA : List Dt → O (List Dt)} {fr : Bool} (ha : SA K W Δ tA true fr gA) : SE K W Δ (tCB (rListOf K) tA) (.new .l fr) (gCB (one hListOf) gA) := fun f ρ σ H Q R q => by
  refine ha f ρ σ H _ R ?_
  unfold gCB at q
  cases e1 : gA ρ with
  | bad => rw [e1] at q; exact q
  | ex z => rw [e1] at q; exact q
  | ok ds =>
    rw [e1, bnd_ok] at q
    intro vs H1 s1 x1
    rcases one_eq (h := hListOf) (ds := ds) with ⟨d, rfl, e⟩ | e
    · rw [e] at q
      cases x1 with
      | cons x1 xr =>
        cases xr
        cases d with
        | list es =>
          obtain ⟨a, xs, rfl, hs, r⟩ := x1.sql
          exact ⟨a, xs, rfl, .inl hs, fun l nl => q l _ (s1.free nl) (s1.trans (same_upd nl)) ⟨_, _, rfl, upd_same, r.mono (same_upd nl) fun a y z => ⟨y, fun e => z (e ▸ nl)⟩⟩⟩
        | tuple es =>
          obtain ⟨a, xs, rfl, hs, r⟩ := x1.sqt
          exact ⟨a, xs, rfl, .inr hs, fun l nl => q l _ (s1.free nl) (s1.trans (same_upd nl)) ⟨_, _, rfl, upd_same, r.mono (same_upd nl) fun a y z => ⟨y, fun e => z (e ▸ nl)⟩⟩⟩
        | _ => exact q.elim
    · rw [e] at q
      exact q.elim
theorem se_tupOf {tA : TA} {gA : List Dt → O (List Dt)} {av fr : Bool} (ha : SA K W Δ tA av fr gA) : SE K W Δ (tCB (fun xs H Q => ∃ p ys, xs = [.ref p] ∧ ((SqL K H p ys ∧ ∀ l, H l = none → Q (.ref l) (upd H l (.tup ys))) ∨ (SqT K H p ys ∧ Q (.ref p) H))) tA) (.v av fr) (gCB (one hTupOf) gA) := fun f ρ σ H Q R q => by
  refine ha f ρ σ H _ R ?_
  unfold gCB at q
  cases e1 : gA ρ with
  | bad => rw [e1] at q; exact q
  | ex z => rw [e1] at q; exact q
  | ok ds =>
    rw [e1, bnd_ok] at q
    intro vs H1 s1 x1
    rcases one_eq (h := hTupOf) (ds := ds) with ⟨d, rfl, e⟩ | e
    · rw [e] at q
      cases x1 with
      | cons x1 xr =>
        cases xr
        cases d with
        | list es =>
          obtain ⟨a, xs, rfl, hs, r⟩ := x1.sql
          exact ⟨a, xs, rfl, .inl ⟨hs, fun l nl => q _ _ (s1.trans (same_upd nl)) (.tup (.inl (.inl upd_same)) (r.same (same_upd nl)))⟩⟩
        | tuple es =>
          obtain ⟨a, xs, rfl, hs, r⟩ := x1.sqt
          exact ⟨a, xs, rfl, .inr ⟨hs, q _ _ s1 (.tup hs r)⟩⟩
        | _ => exact q.elim
    · rw [e] at q
      exact q.elim
theorem rpA_ints {F : Addr → Prop} {H : Hp} : ∀ ns : List Int, RpA K F H (ns.map V.int) (ns.map PyData.int)
  | [] => .nil
  | n :: ns => .cons (.int n) (rpA_ints ns)
end
def Sc (K : PySem.W.Frag) (J : It) (pf : Option (Addr × HO)) (vs : List V) (es ds : List Dt) : Prop :=
  Walk J ds.length (fun H => (∀ q, pf = some q → H q.1 = some q.2) ∧ ∃ F, RpA K F H vs es) (fun i H x H' => Same H H' ∧ ∀ F, RpA K F H vs es → ∃ e, ds[i]? = some e ∧ Rp K F H' x e)
def SI (K : PySem.W.Frag) (W : Wt) (Δ : List Kd) (wi : TI) (b fr : Bool) (g : List Dt → O (List Dt)) : Prop := ∀ f ρ σ H Rk, R K f Δ ρ σ H →
  (match g ρ with
    | .bad => False
    | .ex e => ∀ H', Same H H' → W e σ H'
    | .ok ds => ∀ J H' pf vs es, Same H H' → (b = false → pf = none) → (∀ q, pf = some q → H' q.1 = some q.2) → RpA K (FM f Δ σ true fr) H' vs es → Sc K J pf vs es ds → Rk J H') → wi σ H Rk
structure ID (X : Cx) (K : PySem.W.Frag) (W : Wt) (Δ : List Kd) (tg iter : Expr) (wi : TI) (b fr : Bool) (g : List Dt → O (List Dt)) : Prop where
  pi : PI X tg iter wi
  hK : X.K = K
  si : SI K W Δ wi b fr g
def gSeq (g : Gd) : List Dt → O (List Dt) := fun ρ => bnd (g ρ) fun d => match d with
  | .list ds => .ok ds
  | .tuple ds => .ok ds
  | _ => .bad
def rangeD (lo hi : Int) : List Dt := (List.range (hi - lo).toNat).map fun (i : Nat) => .int (lo + (i : Int))
def rng1 : List Dt → Option (Int × Int)
  | [.int j] => if -(2 ^ 62) ≤ j ∧ j < 2 ^ 62 then some (0, j) else none
  | _ => none
def rng2 : List Dt → Option (Int × Int)
  | [.int i, .int j] => if -(2 ^ 62) ≤ i ∧ i < 2 ^ 62 ∧ -(2 ^ 62) ≤ j ∧ j < 2 ^ 62 then some (i, j) else none
  | _ => none
def gRng1 (g : List Dt → O (List Dt)) : List Dt → O (List Dt) := fun ρ => bnd (g ρ) fun ds => match rng1 ds with
  | some p => .ok (rangeD p.1 p.2)
  | none => .bad
def gRng2 (g : List Dt → O (List Dt)) : List Dt → O (List Dt) := fun ρ => bnd (g ρ) fun ds => match rng2 ds with
  | some p => .ok (rangeD p.1 p.2)
  | none => .bad
def iSeq (K : PySem.W.Frag) (tl : TE) : TI := fun σ H R => tl σ H fun x H1 => ∃ a, x = .ref a ∧ (((∃ xs, SqL K H1 a xs) ∧ R (Itl K a) H1) ∨ ((∃ xs, SqT K H1 a xs) ∧ R (Itt K a) H1))
theorem pi_seq {X : Cx} {tg l : Expr} {tl : TE} (hl : PE X l tl) : PI X tg l (iSeq X.K tl) := by
  refine ⟨fun pins s σ H R I h => ?_⟩
  refine thn (hl.run pins s σ H _ I h) fun v s1 ⟨x, H1, I1, r1, q1⟩ => ?_
  obtain ⟨a, e, q⟩ := q1
  subst e
  cases r1
  rcases q with ⟨⟨xs, hq⟩, q⟩ | ⟨⟨xs, hq⟩, q⟩
  · obtain ⟨its, rv, p, hz⟩ := I1.list hq
    refine wpAny_pyIter_list p.isList ?_
    refine ⟨s1.heap.objs.size, [s1.heap.objs.size], _, _, H1, rfl, I1.kept (t' := s1.toks) fun b o e => Heap.get?_push_of_some _ e, turn_list a _, ⟨_, Heap.get?_push_size _ rfl, rfl, rfl⟩, fun b hb => ?_, q⟩
    have e : b = s1.heap.objs.size := by simpa using hb
    subst e
    exact I1.fpOk (Nat.le_refl _) (I1.hok.fresh (Nat.le_refl _))
  · obtain ⟨its, rv, p, hz⟩ := I1.tuple hq
    refine wpAny_pyIter_tuple (show s1.heap.IsTuple a its.toArray from p) ?_
    refine ⟨s1.heap.objs.size, [s1.heap.objs.size], _, _, H1, rfl, I1.kept (t' := s1.toks) fun b o e => Heap.get?_push_of_some _ e, turn_tuple a _, ⟨_, Heap.get?_push_size _ rfl, rfl, rfl⟩, fun b hb => ?_, q⟩
    have e : b = s1.heap.objs.size := by simpa using hb
    subst e
    exact I1.fpOk (Nat.le_refl _) (I1.hok.fresh (Nat.le_refl _))
section
variable {K : PySem.W.Frag} {W : Wt} {Δ : List Kd}
theorem sc_list {a : Addr} {ds : List Dt} : Sc K (Itl K a) none [.ref a] [.list ds] ds where
  goes := fun i H hi ⟨_, F, r⟩ => by
    cases r with
    | cons h _ =>
      obtain ⟨b, xs, e, hs, r⟩ := h.sql
      cases e
      have hx : i < xs.length := by rw [r.length]; exact hi
      exact ⟨xs, xs[i], hs, List.getElem?_eq_getElem hx⟩
  stops := fun H ⟨_, F, r⟩ => by
    cases r with
    | cons h _ =>
      obtain ⟨b, xs, e, hs, r⟩ := h.sql
      cases e
      exact ⟨xs, hs, Nat.le_of_eq r.length⟩
  yields := fun i H x H' hi _ y => by
    obtain ⟨e, y⟩ := y
    subst e
    refine ⟨Same.refl _, fun F r => ?_⟩
    cases r with
    | cons h _ =>
      obtain ⟨b, xs, e, hs, r⟩ := h.sql
      cases e
      exact r.get (y xs hs)
theorem sc_tup {a : Addr} {ds : List Dt} : Sc K (Itt K a) none [.ref a] [.tuple ds] ds where
  goes := fun i H hi ⟨_, F, r⟩ => by
    cases r with
    | cons h _ =>
      obtain ⟨b, xs, e, hs, r⟩ := h.sqt
      cases e
      have hx : i < xs.length := by rw [r.length]; exact hi
      exact ⟨xs, xs[i], hs, List.getElem?_eq_getElem hx⟩
  stops := fun H ⟨_, F, r⟩ => by
    cases r with
    | cons h _ =>
      obtain ⟨b, xs, e, hs, r⟩ := h.sqt
      cases e
      exact ⟨xs, hs, Nat.le_of_eq r.length⟩
  yields := fun i H x H' hi _ y => by
    obtain ⟨e, y⟩ := y
    subst e
    refine ⟨Same.refl _, fun F r => ?_⟩
    cases r with
    | cons h _ =>
      obtain ⟨b, xs, e, hs, r⟩ := h.sqt
      cases e
      exact r.get (y xs hs)
theorem rangeD_len (lo hi : Int) : (rangeD lo hi).length = (hi - lo).toNat := by unfold rangeD; simp
theorem sc_range {lo hi : Int} : Sc K (Itr lo (hi - lo).toNat) none [] [] (rangeD lo hi) where
  goes := fun i H hi' _ => by rw [rangeD_len] at hi'; exact hi'
  stops := fun H _ => by rw [rangeD_len]; exact Nat.le_refl _
  yields := fun i H x H' hi' _ y => by
    obtain ⟨e, y⟩ := y
    subst e y
    refine ⟨Same.refl _, fun F r => ⟨_, ?_, .int _⟩⟩
    rw [rangeD_len] at hi'
    unfold rangeD
    rw [List.getElem?_map, List.getElem?_range hi']
    rfl
theorem si_seq {te : TE} {g : Gd} {fr : Bool} (h : SE K W Δ te (.v true fr) g) : SI K W Δ (iSeq K te) false fr (gSeq g) := fun f ρ σ H Rk R q => by
  refine h f ρ σ H _ R ?_
  unfold gSeq at q
  cases e1 : g ρ with
  | bad => rw [e1] at q; exact q
  | ex z => rw [e1] at q; exact q
  | ok d =>
    rw [e1, bnd_ok] at q
    intro v H1 s1 x1
    cases d with
    | list ds =>
      obtain ⟨a, xs, rfl, hs, r⟩ := x1.sql
      exact ⟨a, rfl, .inl ⟨⟨xs, hs⟩, q _ H1 none [.ref a] [.list ds] s1 (fun _ => rfl) (fun _ e => nomatch e) (.cons x1 .nil) sc_list⟩⟩
    | tuple ds =>
      obtain ⟨a, xs, rfl, hs, r⟩ := x1.sqt
      exact ⟨a, rfl, .inr ⟨⟨xs, hs⟩, q _ H1 none [.ref a] [.tuple ds] s1 (fun _ => rfl) (fun _ e => nomatch e) (.cons x1 .nil) sc_tup⟩⟩
    | _ => exact q.elim
theorem si_rng1 {tA : TA} {gA : List Dt → O (List Dt)} {av fr : Bool} (h : SA K W Δ tA av fr gA) : SI K W Δ (iRng1 tA) false true (gRng1 gA) := fun f ρ σ H Rk R q => by
  refine h f ρ σ H _ R ?_
  unfold gRng1 at q
  cases e1 : gA ρ with
  | bad => rw [e1] at q; exact q
  | ex z => rw [e1] at q; exact q
  | ok ds =>
    rw [e1, bnd_ok] at q
    intro vs H1 s1 x1
    cases er : rng1 ds with
    | none => rw [er] at q; exact q.elim
    | some p =>
      rw [er] at q
      unfold rng1 at er
      split at er
      · split at er
        · rename_i j c
          cases er
          cases x1 with
          | cons x1 xr =>
            cases xr
            rw [rpInt x1]
            refine ⟨j, rfl, c.1, c.2, ?_⟩
            have w := q (Itr 0 (j - 0).toNat) H1 none [] [] s1 (fun _ => rfl) (fun _ e => nomatch e) .nil sc_range
            rw [Int.sub_zero] at w
            exact w
        · cases er
      · cases er
theorem si_rng2 {tA : TA} {gA : List Dt → O (List Dt)} {av fr : Bool} (h : SA K W Δ tA av fr gA) : SI K W Δ (iRng2 tA) false true (gRng2 gA) := fun f ρ σ H Rk R q => by
  refine h f ρ σ H _ R ?_
  unfold gRng2 at q
  cases e1 : gA ρ with
  | bad => rw [e1] at q; exact q
  | ex z => rw [e1] at q; exact q
  | ok ds =>
    rw [e1, bnd_ok] at q
    intro vs H1 s1 x1
    cases er : rng2 ds with
    | none => rw [er] at q; exact q.elim
    | some p =>
      rw [er] at q
      unfold rng2 at er
      split at er
      · split at er
        · rename_i i j c
          cases er
          cases x1 with
          | cons x1 xr =>
            cases xr with
            | cons x2 xr =>
              cases xr
              rw [rpInt x1, rpInt x2]
              exact ⟨i, j, rfl, c, q (Itr i (j - i).toNat) H1 none [] [] s1 (fun _ => rfl) (fun _ e => nomatch e) .nil sc_range⟩
        · cases er
      · cases er
end
end Sim
end T_SimD
section T_SimE
set_option Elab.async false
set_option linter.all false
set_option maxRecDepth 100000
namespace Sim
open PySem PySem.Spec L2
open PyProof.Rows hiding St
def bLe (a b : Bool) : Bool := !b || a
def kLe : Kd → Kd → Bool
  | _, .no => true
  | .im a, .im b => bLe a b
  | .own .l a, .im b => bLe a b
  | .own .l a, .own .l b => bLe a b
  | .own .dk a, .own .dk b => bLe a b
  | .own .dt a, .own .dt b => bLe a b
  | .own .la a, .own .la b => bLe a b
  | .own .ka a, .own .ka b => bLe a b
  | .sl a, .sl b => a == b
  | _, _ => false
def leA : List Kd → List Kd → Bool
  | [], [] => true
  | k :: ks, l :: ls => kLe k l && leA ks ls
  | _, _ => false
theorem bLe_imp {a b : Bool} (h : bLe a b = true) : b = true → a = true := fun e => by subst e; cases a; cases h; rfl
theorem leA_len : ∀ {Δ Δ' : List Kd}, leA Δ Δ' = true → Δ.length = Δ'.length
  | [], [], _ => rfl
  | [], _ :: _, h => by cases h
  | _ :: _, [], h => by cases h
  | k :: ks, l :: ls, h => by
    unfold leA at h
    rw [Bool.and_eq_true] at h
    rw [List.length_cons, List.length_cons, leA_len h.2]
theorem leA_get : ∀ {Δ Δ' : List Kd}, leA Δ Δ' = true → ∀ {i : Nat} {k' : Kd}, Δ'[i]? = some k' → ∃ k, Δ[i]? = some k ∧ kLe k k' = true
  | [], [], _, i, k', h => by simp at h
  | [], _ :: _, h, _, _, _ => by cases h
  | _ :: _, [], h, _, _, _ => by cases h
  | k :: ks, l :: ls, h, 0, k', e => by
    unfold leA at h
    rw [Bool.and_eq_true] at h
    simp at e; subst e
    exact ⟨k, rfl, h.1⟩
  | k :: ks, l :: ls, h, i + 1, k', e => by
    unfold leA at h
    rw [Bool.and_eq_true] at h
    obtain ⟨q, h1, h2⟩ := leA_get h.2 (i := i) (k' := k') (by simpa using e)
    exact ⟨q, by simpa using h1, h2⟩
theorem kLe_own {k : Kd} {c : Ct} {fr : Bool} (h : kLe k (.own c fr) = true) : ∃ fr', k = .own c fr' ∧ (fr = true → fr' = true) := by
  cases k with
  | no => cases c <;> cases h
  | im a => cases c <;> cases h
  | sl => cases c <;> cases h
  | own c' a => cases c' <;> cases c <;> first | (cases h; done) | exact ⟨a, rfl, bLe_imp h⟩
theorem kLe_sl {k : Kd} {t : Bool} (h : kLe k (.sl t) = true) : k = .sl t := by
  cases k with
  | no => cases h
  | im a => cases h
  | sl a => simp [kLe] at h; rw [h]
  | own c' a => cases c' <;> cases h
theorem kLe_im {k : Kd} {fr : Bool} (h : kLe k (.im fr) = true) : (∃ fr', k = .im fr' ∧ (fr = true → fr' = true)) ∨ ∃ fr', k = .own .l fr' ∧ (fr = true → fr' = true) := by
  cases k with
  | no => cases h
  | im a => exact .inl ⟨a, rfl, bLe_imp h⟩
  | sl => cases h
  | own c' a => cases c' <;> first | (cases h; done) | exact .inr ⟨a, rfl, bLe_imp h⟩
section
variable {K : PySem.W.Frag} {f : Fm} {Δ Δ' : List Kd} {ρ : List Dt} {σ σ' : L2.St} {H : Hp}
theorem R.weak (r : R K f Δ ρ σ H) (h : leA Δ Δ' = true) : R K f Δ' ρ σ H := by
  have ow' : ∀ a, Ow Δ' σ a → Ow Δ σ a := fun a ⟨i, c, fr, h1, h2⟩ => by
    obtain ⟨k, e, hk⟩ := leA_get h h1
    obtain ⟨fr', rfl, _⟩ := kLe_own hk
    exact ⟨i, c, fr', e, h2⟩
  have key : ∀ {fr fr' : Bool} {v : V} {d : Dt}, (fr' = true → fr = true) → Rp K (FM f Δ σ true fr) H v d → Rp K (FM f Δ' σ true fr') H v d := fun hf h =>
    h.weak fun a fa => ⟨fun _ => ⟨fun z => (fa.1 rfl).1 (ow' a z), (fa.1 rfl).2⟩, fun e => fa.2 (hf e)⟩
  refine ⟨r.ext, r.g0, by rw [r.lσ, leA_len h], by rw [r.lρ, leA_len h], ?_, fun a ha => ⟨(r.pin a ha).1, fun z => (r.pin a ha).2 (ow' a z)⟩, fun g hg => (r.gh g hg).map fun _ _ x => key id x, fun i fr h' => ?_, fun i c fr h' => ?_, fun i c fr h' ha => ?_, r.sp, fun i t h' => by
    obtain ⟨k, e, hk⟩ := leA_get h h'
    rw [kLe_sl hk] at e
    exact r.sl i t e⟩
  · intro i j ci fi cj fj p h1 h2 h3 h4
    obtain ⟨k, e, hk⟩ := leA_get h h1
    obtain ⟨fr', rfl, _⟩ := kLe_own hk
    obtain ⟨k2, e2, hk2⟩ := leA_get h h2
    obtain ⟨fr2, rfl, _⟩ := kLe_own hk2
    exact r.inj i j _ _ _ _ p e e2 h3 h4
  · obtain ⟨k, e, hk⟩ := leA_get h h'
    rcases kLe_im hk with ⟨fr', rfl, hf⟩ | ⟨fr', rfl, hf⟩
    · obtain ⟨v, d, h1, h2, h3⟩ := r.im i fr' e
      exact ⟨v, d, h1, h2, key hf h3⟩
    · obtain ⟨p, d, h1, h2, h3, vs, ds, ed, hp, h4⟩ := r.ow i .l fr' e
      subst ed
      refine ⟨.ref p, _, h1, h2, .lst hp ⟨fun _ => ⟨fun z => ?_, fun z => ?_⟩, fun _ => r.g0 p h3⟩ (h4.map fun _ _ x => key hf x)⟩
      · obtain ⟨j, c, frj, g1, g2⟩ := z
        obtain ⟨k2, e2, hk2⟩ := leA_get h g1
        obtain ⟨fr2, rfl, _⟩ := kLe_own hk2
        have ij := r.inj i j _ _ _ _ p e e2 h1 g2
        subst ij
        rw [h'] at g1
        cases g1
      · exact (r.pin p z).2 ⟨i, .l, fr', e, h1⟩
  · obtain ⟨k, e, hk⟩ := leA_get h h'
    obtain ⟨fr', rfl, hf⟩ := kLe_own hk
    obtain ⟨p, d, h1, h2, h3, h4⟩ := r.ow i c fr' e
    exact ⟨p, d, h1, h2, h3, h4.map (fun o e => e) fun _ _ x => key hf x⟩
  · obtain ⟨k, e, hk⟩ := leA_get h h'
    obtain ⟨fr', rfl, hf⟩ := kLe_own hk
    exact r.ar i c fr' e ha
structure TgOk (K : PySem.W.Frag) (f : Fm) (Δ Δ' : List Kd) (ρ' : List Dt) (σ σ' : L2.St) (H : Hp) (sl : List Nat) : Prop where
  r : R K f Δ' ρ' σ' H
  keep : ∀ i, i ∉ sl → Δ'[i]? = Δ[i]? ∧ σ'[i]? = σ[i]?
  im : ∀ i, i ∈ sl → ∃ fr, Δ'[i]? = some (.im fr)
  len : Δ'.length = Δ.length
theorem TgOk.ow {ρ' : List Dt} {sl : List Nat} (t : TgOk K f Δ Δ' ρ' σ σ' H sl) {a : Addr} (h : Ow Δ' σ' a) : Ow Δ σ a := by
  obtain ⟨i, c, fr, h1, h2⟩ := h
  by_cases z : i ∈ sl
  · obtain ⟨fr', e⟩ := t.im i z
    rw [e] at h1; cases h1
  · obtain ⟨e1, e2⟩ := t.keep i z
    exact ⟨i, c, fr, e1 ▸ h1, e2 ▸ h2⟩
theorem TgOk.ow' {ρ' : List Dt} {sl : List Nat} (t : TgOk K f Δ Δ' ρ' σ σ' H sl) (no : ∀ i ∈ sl, ∀ c fr, Δ[i]? ≠ some (.own c fr)) {a : Addr} (h : Ow Δ σ a) : Ow Δ' σ' a := by
  obtain ⟨i, c, fr, h1, h2⟩ := h
  by_cases z : i ∈ sl
  · exact absurd h1 (no i z c fr)
  · obtain ⟨e1, e2⟩ := t.keep i z
    exact ⟨i, c, fr, e1 ▸ h1, e2 ▸ h2⟩
theorem TgOk.fm {ρ' : List Dt} {sl : List Nat} (t : TgOk K f Δ Δ' ρ' σ σ' H sl) {av fr : Bool} {a : Addr} (h : FM f Δ σ av fr a) : FM f Δ' σ' av fr a := ⟨fun e => ⟨fun z => (h.1 e).1 (t.ow z), (h.1 e).2⟩, h.2⟩
theorem TgOk.fm' {ρ' : List Dt} {sl : List Nat} (t : TgOk K f Δ Δ' ρ' σ σ' H sl) (no : ∀ i ∈ sl, ∀ c fr, Δ[i]? ≠ some (.own c fr)) {av fr : Bool} {a : Addr} (h : FM f Δ' σ' av fr a) : FM f Δ σ av fr a := ⟨fun e => ⟨fun z => (h.1 e).1 (t.ow' no z), (h.1 e).2⟩, h.2⟩
theorem TgOk.refl (r : R K f Δ ρ σ H) : TgOk K f Δ Δ ρ σ σ H [] := ⟨r, fun _ _ => ⟨rfl, rfl⟩, fun _ h => absurd h (by simp), rfl⟩
theorem TgOk.trans {Δ1 Δ2 : List Kd} {ρ1 ρ2 : List Dt} {σ1 σ2 : L2.St} {s1 s2 : List Nat} (t : TgOk K f Δ Δ1 ρ1 σ σ1 H s1) (u : TgOk K f Δ1 Δ2 ρ2 σ1 σ2 H s2) : TgOk K f Δ Δ2 ρ2 σ σ2 H (s1 ++ s2) := by
  refine ⟨u.r, fun i h => ?_, fun i h => ?_, u.len.trans t.len⟩
  · rw [List.mem_append, not_or] at h
    obtain ⟨a1, a2⟩ := t.keep i h.1
    obtain ⟨b1, b2⟩ := u.keep i h.2
    exact ⟨b1.trans a1, b2.trans a2⟩
  · by_cases z : i ∈ s2
    · exact u.im i z
    · rcases List.mem_append.mp h with h | h
      · obtain ⟨fr, e⟩ := t.im i h
        exact ⟨fr, (u.keep i z).1.trans e⟩
      · exact absurd h z
end
def GJ (K : PySem.W.Frag) (n : Nat) (g : TG) (sl : List Nat) (h : Dt → List Dt → O (List Dt)) (TK : Bool → List Kd → List Kd) : Prop := ∀ f Δ ρ σ H v d fr Q, Δ.length = n → R K f Δ ρ σ H → Rp K (FM f Δ σ true fr) H v d →
  (match h d ρ with | .ok ρ' => ∀ σ', TgOk K f Δ (TK fr Δ) ρ' σ σ' H sl → Q σ' H | _ => False) → g v σ H Q
def GJs (K : PySem.W.Frag) (n : Nat) (g : TGs) (sl : List Nat) (h : List Dt → List Dt → O (List Dt)) (TK : Bool → List Kd → List Kd) : Prop := ∀ f Δ ρ σ H vs ds fr Q, Δ.length = n → R K f Δ ρ σ H → RpA K (FM f Δ σ true fr) H vs ds →
  (match h ds ρ with | .ok ρ' => ∀ σ', TgOk K f Δ (TK fr Δ) ρ' σ σ' H sl → Q σ' H | _ => False) → g vs σ H Q
structure GD (X : Cx) (K : PySem.W.Frag) (n : Nat) (tg : Expr) (g : TG) (sl : List Nat) (h : Dt → List Dt → O (List Dt)) (TK : Bool → List Kd → List Kd) : Prop where
  pg : PG X tg g
  hK : X.K = K
  gj : GJ K n g sl h TK
structure GDs (X : Cx) (K : PySem.W.Frag) (n : Nat) (tg : List Expr) (g : TGs) (sl : List Nat) (h : List Dt → List Dt → O (List Dt)) (TK : Bool → List Kd → List Kd) : Prop where
  pg : PGs X tg g
  hK : X.K = K
  gj : GJs K n g sl h TK
def tgN (i : Nat) : Dt → List Dt → O (List Dt) := fun d ρ => .ok (ρ.set i d)
def tgT (h : List Dt → List Dt → O (List Dt)) : Dt → List Dt → O (List Dt) := fun d ρ => match d with
  | .tuple ds => h ds ρ
  | _ => .bad
def tgNil : List Dt → List Dt → O (List Dt) := fun ds ρ => match ds with
  | [] => .ok ρ
  | _ => .bad
def tgCons (h : Dt → List Dt → O (List Dt)) (u : List Dt → List Dt → O (List Dt)) : List Dt → List Dt → O (List Dt) := fun ds ρ => match ds with
  | d :: r => (match h d ρ with
    | .ok ρ' => u r ρ'
    | _ => .bad)
  | [] => .bad
def TKN (i : Nat) : Bool → List Kd → List Kd := fun fr Δ => Δ.set i (.im fr)
def TK0 : Bool → List Kd → List Kd := fun _ Δ => Δ
def TKC (a b : Bool → List Kd → List Kd) : Bool → List Kd → List Kd := fun fr Δ => b fr (a fr Δ)
section
variable {K : PySem.W.Frag} {n : Nat}
theorem gj_name {i : Nat} (hi : i < n) : GJ K n (gName i) [i] (tgN i) (TKN i) := fun f Δ ρ σ H v d fr Q hl R x q => by
  have hi' : i < Δ.length := by rw [hl]; exact hi
  refine q (σ.set i (some v)) ⟨R.setIm hi' x, fun j h => ?_, fun j h => ?_, by unfold TKN; rw [List.length_set]⟩
  · have : i ≠ j := fun e => h (by rw [e]; exact List.mem_singleton.mpr rfl)
    unfold TKN
    exact ⟨List.getElem?_set_ne this, List.getElem?_set_ne this⟩
  · have : j = i := List.mem_singleton.mp h
    subst this
    unfold TKN
    exact ⟨fr, List.getElem?_set_self hi'⟩
theorem gj_nil : GJs K n L2.gNil [] tgNil TK0 := fun f Δ ρ σ H vs ds fr Q hl R x q => by
  cases x with
  | nil => exact ⟨rfl, q σ (.refl R)⟩
  | cons => exact q.elim
theorem gj_cons {g : TG} {gs : TGs} {s1 s2 : List Nat} {h : Dt → List Dt → O (List Dt)} {u : List Dt → List Dt → O (List Dt)} {T1 T2 : Bool → List Kd → List Kd} (a : GJ K n g s1 h T1) (b : GJs K n gs s2 u T2) :
    GJs K n (L2.gCons g gs) (s1 ++ s2) (tgCons h u) (TKC T1 T2) := fun f Δ ρ σ H vs ds fr Q hl R x q => by
  cases x with
  | nil => exact q.elim
  | cons x r =>
    refine ⟨_, _, rfl, ?_⟩
    unfold tgCons at q
    refine a f Δ ρ σ H _ _ fr _ hl R x ?_
    simp only at q
    revert q
    cases e : h _ ρ with
    | bad => exact fun q => q.elim
    | ex z => exact fun q => q.elim
    | ok ρ1 =>
      intro q σ1 t1
      refine b f _ ρ1 σ1 H _ _ fr _ (t1.len.trans hl) t1.r (r.weak fun _ y => t1.fm y) ?_
      simp only at q
      revert q
      cases e2 : u _ ρ1 with
      | bad => exact fun q => q.elim
      | ex z => exact fun q => q.elim
      | ok ρ2 => exact fun q σ2 t2 => q σ2 (t1.trans t2)
theorem gj_tup {m : Nat} {gs : TGs} {sl : List Nat} {u : List Dt → List Dt → O (List Dt)} {T : Bool → List Kd → List Kd} (b : GJs K n gs sl u T) (hm : ∀ ds ρ, ds.length ≠ m → ∀ z, u ds ρ ≠ .ok z) :
    GJ K n (L2.gTup K m gs) sl (tgT u) T := fun f Δ ρ σ H v d fr Q hl R x q => by
  cases d with
  | tuple ds =>
    obtain ⟨a, xs, rfl, hs, r⟩ := x.sqt
    have q : (match u ds ρ with | .ok ρ' => ∀ σ', TgOk K f Δ (T fr Δ) ρ' σ σ' H sl → Q σ' H | _ => False) := q
    refine ⟨a, xs, rfl, hs, ?_, b f Δ ρ σ H xs ds fr Q hl R r q⟩
    by_cases e : ds.length = m
    · rw [r.length]; exact e
    · cases eu : u ds ρ with
      | ok z => exact absurd eu (hm ds ρ e z)
      | bad => rw [eu] at q; exact q.elim
      | ex z => rw [eu] at q; exact q.elim
  | _ => exact q.elim
theorem tgNil_len : ∀ ds ρ, ds.length ≠ 0 → ∀ z, tgNil ds ρ ≠ .ok z
  | [], _, h, _ => absurd rfl h
  | _ :: _, _, _, _ => fun e => by cases e
theorem tgCons_len {m : Nat} {h : Dt → List Dt → O (List Dt)} {u : List Dt → List Dt → O (List Dt)} (hu : ∀ ds ρ, ds.length ≠ m → ∀ z, u ds ρ ≠ .ok z) : ∀ ds ρ, ds.length ≠ m + 1 → ∀ z, tgCons h u ds ρ ≠ .ok z
  | [], _, _, _ => fun e => by cases e
  | d :: r, ρ, hl, z => fun e => by
    unfold tgCons at e
    simp only at e
    cases eh : h d ρ with
    | bad => rw [eh] at e; cases e
    | ex y => rw [eh] at e; cases e
    | ok ρ' =>
      rw [eh] at e
      exact hu r ρ' (fun q => hl (by rw [List.length_cons, q])) z e
end
section
variable {X : Cx} {K : PySem.W.Frag} {n : Nat} {pos : Pos}
theorem g_name (i : Nat) {x : Str} (hN : X.N.Nodup) (hn : i < n := by decide) (hi : X.N[i]? = some x := by rfl) (hx : Loc X.env.scope x := by first | exact .inl rfl | exact .inr rfl) (hf : X.fn x = true ∨ X.env.scope.names.lookup x = some .local := by first | exact .inl rfl | exact .inr rfl) (hK : X.K = K := by rfl) :
    GD X K n (.Name x pos) (gName i) [i] (tgN i) (TKN i) := ⟨pg_name hN hi hx hf, hK, gj_name hn⟩
theorem g_nil (hK : X.K = K := by rfl) : GDs X K n [] L2.gNil [] tgNil TK0 := ⟨pgs_nil, hK, gj_nil⟩
theorem g_cons {e : Expr} {es : List Expr} {g : TG} {gs : TGs} {s1 s2 : List Nat} {h : Dt → List Dt → O (List Dt)} {u : List Dt → List Dt → O (List Dt)} {T1 T2 : Bool → List Kd → List Kd} (a : GD X K n e g s1 h T1) (b : GDs X K n es gs s2 u T2)
    (hs : (assignEach (e :: es) X.env).map (·.2) = assign e X.env :: (assignEach es X.env).map (·.2) := by rfl) : GDs X K n (e :: es) (L2.gCons g gs) (s1 ++ s2) (tgCons h u) (TKC T1 T2) := ⟨pgs_cons a.pg b.pg hs, a.hK, gj_cons a.gj b.gj⟩
end
abbrev W0 : Wt := fun _ _ _ => False
def wipeK (Δ : List Kd) : List Nat → List Kd
  | [] => Δ
  | v :: vs => (wipeK Δ vs).set v .no
def noOwn (Δ : List Kd) (vs : List Nat) : Bool := vs.all fun i => match Δ[i]? with
  | some (.own _ _) => false
  | _ => true
theorem wipeK_len (Δ : List Kd) : ∀ vs, (wipeK Δ vs).length = Δ.length
  | [] => rfl
  | v :: vs => by unfold wipeK; rw [List.length_set, wipeK_len Δ vs]
theorem wipeK_out {Δ : List Kd} {i : Nat} : ∀ {vs : List Nat}, i ∉ vs → (wipeK Δ vs)[i]? = Δ[i]?
  | [], _ => rfl
  | v :: vs, h => by
    unfold wipeK
    rw [List.getElem?_set_ne (fun e => h (by rw [e]; exact List.mem_cons_self)), wipeK_out fun z => h (List.mem_cons_of_mem _ z)]
theorem wipeK_in {Δ : List Kd} {i : Nat} : ∀ {vs : List Nat}, i ∈ vs → ∀ k, (wipeK Δ vs)[i]? = some k → k = .no
  | [], h, _, _ => absurd h (by simp)
  | v :: vs, h, k, e => by
    unfold wipeK at e
    by_cases z : v = i
    · subst z
      by_cases hv : v < (wipeK Δ vs).length
      · rw [List.getElem?_set_self hv] at e
        exact (Option.some.inj e).symm
      · rw [List.getElem?_eq_none (by rw [List.length_set]; omega)] at e
        cases e
    · rw [List.getElem?_set_ne z] at e
      rcases List.mem_cons.mp h with q | q
      · exact absurd q.symm z
      · exact wipeK_in q k e
theorem wipe_out {σ : L2.St} {i : Nat} : ∀ {vs : List Nat}, i ∉ vs → (wipe σ vs)[i]? = σ[i]?
  | [], _ => rfl
  | v :: vs, h => by
    unfold wipe
    rw [List.getElem?_set_ne (fun e => h (by rw [e]; exact List.mem_cons_self)), wipe_out fun z => h (List.mem_cons_of_mem _ z)]
theorem wipe_in {σ : L2.St} {i : Nat} : ∀ {vs : List Nat}, i ∈ vs → i < σ.length → (wipe σ vs)[i]? = some none
  | [], h, _ => absurd h (by simp)
  | v :: vs, h, hl => by
    unfold wipe
    by_cases z : v = i
    · subst z
      rw [List.getElem?_set_self (by rw [wipe_length]; exact hl)]
    · rw [List.getElem?_set_ne z]
      rcases List.mem_cons.mp h with q | q
      · exact absurd q.symm z
      · exact wipe_in q hl
theorem wipe_eq {σ σ' : L2.St} {vs : List Nat} (hl : σ'.length = σ.length) (h : ∀ i, i ∉ vs → σ'[i]? = σ[i]?) : wipe σ' vs = wipe σ vs := by
  apply List.ext_getElem?
  intro i
  by_cases z : i ∈ vs
  · by_cases q : i < σ.length
    · rw [wipe_in z (by rw [hl]; exact q), wipe_in z q]
    · rw [List.getElem?_eq_none (by rw [wipe_length, hl]; omega), List.getElem?_eq_none (by rw [wipe_length]; omega)]
  · rw [wipe_out z, wipe_out z]
    exact h i z
theorem noOwn_get {Δ : List Kd} {vs : List Nat} (h : noOwn Δ vs = true) {i : Nat} (hi : i ∈ vs) {c : Ct} {fr : Bool} : Δ[i]? ≠ some (.own c fr) := fun e => by
  have q := List.all_eq_true.mp h i hi
  rw [e] at q
  cases q
section
variable {K : PySem.W.Frag} {f : Fm} {Δ : List Kd} {ρ : List Dt} {σ : L2.St} {H : Hp}
theorem ow_wipe {vs : List Nat} (h : noOwn Δ vs = true) {a : Addr} : Ow (wipeK Δ vs) (wipe σ vs) a ↔ Ow Δ σ a := by
  constructor
  · rintro ⟨i, c, fr, h1, h2⟩
    have z : i ∉ vs := fun z => by cases wipeK_in z _ h1
    exact ⟨i, c, fr, by rw [← wipeK_out z]; exact h1, by rw [← wipe_out z]; exact h2⟩
  · rintro ⟨i, c, fr, h1, h2⟩
    have z : i ∉ vs := fun z => noOwn_get h z h1
    exact ⟨i, c, fr, by rw [wipeK_out z]; exact h1, by rw [wipe_out z]; exact h2⟩
theorem fm_wipe {vs : List Nat} (h : noOwn Δ vs = true) {av fr : Bool} {a : Addr} : FM f (wipeK Δ vs) (wipe σ vs) av fr a ↔ FM f Δ σ av fr a := by
  unfold FM
  rw [ow_wipe h]
theorem R.wipe {vs : List Nat} (h : noOwn Δ vs = true) (r : R K f Δ ρ σ H) : R K f (wipeK Δ vs) ρ (L2.wipe σ vs) H := by
  refine ⟨r.ext, r.g0, by rw [wipe_length, wipeK_len]; exact r.lσ, by rw [wipeK_len]; exact r.lρ, ?_, fun a ha => ⟨(r.pin a ha).1, fun z => (r.pin a ha).2 ((ow_wipe h).mp z)⟩, fun g hg => (r.gh g hg).weak fun a y => (fm_wipe h).mpr y, fun i fr h' => ?_, fun i c fr h' => ?_, fun i c fr h' ha => ?_, r.sp, fun i t h' => by
    have z1 : i ∉ vs := fun z => by cases wipeK_in z _ h'
    rw [wipeK_out z1] at h'
    obtain ⟨v, d, h1, h2, h3⟩ := r.sl i t h'
    exact ⟨v, d, by rw [wipe_out z1]; exact h1, h2, h3⟩⟩
  · intro i j ci fi cj fj p h1 h2 h3 h4
    have z1 : i ∉ vs := fun z => by cases wipeK_in z _ h1
    have z2 : j ∉ vs := fun z => by cases wipeK_in z _ h2
    rw [wipeK_out z1] at h1
    rw [wipeK_out z2] at h2
    rw [wipe_out z1] at h3
    rw [wipe_out z2] at h4
    exact r.inj i j _ _ _ _ p h1 h2 h3 h4
  · have z1 : i ∉ vs := fun z => by cases wipeK_in z _ h'
    rw [wipeK_out z1] at h'
    obtain ⟨v, d, h1, h2, h3⟩ := r.im i fr h'
    exact ⟨v, d, by rw [wipe_out z1]; exact h1, h2, h3.weak fun a y => (fm_wipe h).mpr y⟩
  · have z1 : i ∉ vs := fun z => by cases wipeK_in z _ h'
    rw [wipeK_out z1] at h'
    obtain ⟨v, d, h1, h2, h3, h4⟩ := r.ow i c fr h'
    exact ⟨v, d, by rw [wipe_out z1]; exact h1, h2, h3, h4.map (fun o e => e) fun _ _ x => x.weak fun a y => (fm_wipe h).mpr y⟩
  · have z1 : i ∉ vs := fun z => by cases wipeK_in z _ h'
    rw [wipeK_out z1] at h'
    obtain ⟨p, h1, h2⟩ := r.ar i c fr h' ha
    exact ⟨p, h1, by rw [wipe_out z1]; exact h2⟩
def Fm.with (f : Fm) (P : List Addr) (g : List (List V × List Dt × Bool)) : Fm := { f with P := P ++ f.P, Γ := g ++ f.Γ, hS := fun a h => List.mem_append_right _ (f.hS a h) }
theorem R.addG {vs : List V} {es : List Dt} {fr : Bool} (r : R K f Δ ρ σ H) (x : RpA K (FM f Δ σ true fr) H vs es) : R K { f with Γ := (vs, es, fr) :: f.Γ } Δ ρ σ H := by
  refine ⟨r.ext, r.g0, r.lσ, r.lρ, r.inj, r.pin, fun g hg => ?_, r.im, r.ow, r.ar, r.sp, r.sl⟩
  rcases List.mem_cons.mp hg with e | h
  · subst e; exact x
  · exact r.gh g h
theorem R.dropG {g : List V × List Dt × Bool} {Γ : List (List V × List Dt × Bool)} (r : R K { f with Γ := g :: Γ } Δ ρ σ H) : R K { f with Γ := Γ } Δ ρ σ H :=
  ⟨r.ext, r.g0, r.lσ, r.lρ, r.inj, r.pin, fun g hg => r.gh g (List.mem_cons_of_mem _ hg), r.im, r.ow, r.ar, r.sp, r.sl⟩
abbrev Fm.pn (f : Fm) (p : Addr) : Fm := { f with P := p :: f.P, hS := fun a h => List.mem_cons_of_mem _ (f.hS a h) }
theorem R.addP {p : Addr} {o : HO} (r : R K f Δ ρ σ H) (np : H p = none) (m : Mutb o) : R K (f.pn p) Δ ρ σ (upd H p o) := by
  obtain ⟨f1, f2, f3⟩ := r.fresh np
  have key : ∀ {fr : Bool} {v : V} {d : Dt}, Rp K (FM f Δ σ true fr) H v d → Rp K (FM (f.pn p) Δ σ true fr) (upd H p o) v d := fun h =>
    h.mono (same_upd np) fun a fa na => ⟨fun _ => ⟨(fa.1 rfl).1, fun z => by
      rcases List.mem_cons.mp z with e | h
      · exact na (e ▸ np)
      · exact (fa.1 rfl).2 h⟩, fa.2⟩
  refine ⟨r.ext.trans (same_upd np), r.g0, r.lσ, r.lρ, r.inj, fun a ha => ?_, fun g hg => (r.gh g hg).map fun _ _ x => key x, fun i fr h => ?_, fun i c fr h => ?_, r.ar, r.sp, fun i t h => let ⟨v, d, h1, h2, h3⟩ := r.sl i t h; ⟨v, d, h1, h2, h3.same (same_upd np)⟩⟩
  · rcases List.mem_cons.mp ha with e | h
    · subst e
      exact ⟨⟨o, upd_same, m⟩, f1⟩
    · obtain ⟨⟨u, hu, mu⟩, no⟩ := r.pin a h
      exact ⟨⟨u, same_upd np _ _ hu, mu⟩, no⟩
  · obtain ⟨v, d, h1, h2, h3⟩ := r.im i fr h
    exact ⟨v, d, h1, h2, key h3⟩
  · obtain ⟨v, d, h1, h2, h3, h4⟩ := r.ow i c fr h
    exact ⟨v, d, h1, h2, h3, h4.map (fun o e => same_upd np _ _ e) fun _ _ x => key x⟩
end
def lcE (h : Dt → List Dt → O (List Dt)) (gt : List Dt → O Bool) (ge : Gd) (ρ : List Dt) : List Dt → O (List Dt)
  | [] => .ok []
  | d :: ds => bnd (h d ρ) fun ρ' => bnd (gt ρ') fun b => if b then bnd (ge ρ') fun e => bnd (lcE h gt ge ρ ds) fun es => .ok (e :: es) else lcE h gt ge ρ ds
def gLc (gi : List Dt → O (List Dt)) (h : Dt → List Dt → O (List Dt)) (gt : List Dt → O Bool) (ge : Gd) : Gd := fun ρ => bnd (gi ρ) fun ds => if ds.length ≤ 100000 then (match lcE h gt ge ρ ds with
  | .ok es => .ok (.list es)
  | _ => .bad) else .bad
def gYes : List Dt → O Bool := fun _ => .ok true
theorem bnd_inv {α β : Type} {x : O α} {k : α → O β} {z : β} (h : bnd x k = .ok z) : ∃ a, x = .ok a ∧ k a = .ok z := by
  cases x with
  | bad => cases h
  | ex e => cases h
  | ok a => exact ⟨a, rfl, h⟩
theorem se_lc {K : PySem.W.Frag} {W : Wt} {Δ : List Kd} {wi : TI} {g : TG} {tt : TT} {te : TE} {vs sl : List Nat} {b fr fr' : Bool} {gi : List Dt → O (List Dt)} {h : Dt → List Dt → O (List Dt)} {TK : Bool → List Kd → List Kd} {gt : List Dt → O Bool} {ge : Gd} {n : Nat}
    (hi : SI K W Δ wi b fr gi) (hg : GJ K n g sl h TK) (hn : Δ.length = n) (hsl : ∀ i ∈ sl, i ∈ vs) (no : noOwn Δ vs = true) (ht : ST K W0 (TK fr (wipeK Δ vs)) tt gt) (he : SE K W0 (TK fr (wipeK Δ vs)) te (.v true fr') ge) :
    SE K W Δ (tLc wi g tt te vs) (.new .l fr') (gLc gi h gt ge) := fun f ρ σ H Q r q => by
  refine hi f ρ σ H _ r ?_
  unfold gLc at q
  cases e1 : gi ρ with
  | bad => rw [e1] at q; exact q
  | ex z => rw [e1] at q; exact q
  | ok ds =>
    rw [e1, bnd_ok] at q
    by_cases hl : ds.length ≤ 100000
    · rw [if_pos hl] at q
      cases ea : lcE h gt ge ρ ds with
      | bad => rw [ea] at q; exact q.elim
      | ex z => rw [ea] at q; exact q.elim
      | ok all =>
        rw [ea] at q
        intro J H1 pf gv ge0 s1 hb hpf x1 sc D nD
        -- the frame within
        have r1 := (((r.mono s1).addP (o := .lst []) nD trivial).addG (fr := fr) (x1.mono (same_upd nD) fun a fa na => ⟨fun _ => ⟨(fa.1 rfl).1, fun z => by
          rcases List.mem_cons.mp z with e | h
          · exact na (e ▸ nD)
          · exact (fa.1 rfl).2 h⟩, fa.2⟩))
        generalize hf1 : ({ f.pn D with Γ := (gv, ge0, fr) :: f.Γ } : Fm) = f1 at r1
        have r1 : R K f1 Δ ρ σ (upd H1 D (.lst [])) := by rw [← hf1]; rw [← hf1] at r1; exact r1
        have dP : D ∈ f1.P := by rw [← hf1]; exact List.mem_cons_self
        have gG : (gv, ge0, fr) ∈ f1.Γ := by rw [← hf1]; exact List.mem_cons_self
        have h0 : f1.H0 D = none := by rw [← hf1]; exact ((r.mono s1).fresh nD).2.2
        have fmf : ∀ {fr : Bool} {a : Addr}, FM f1 Δ σ true fr a → FM f Δ σ true fr a ∧ a ≠ D := fun {fr a} y => by
          rw [← hf1] at y
          exact ⟨⟨fun e => ⟨(y.1 e).1, fun z => (y.1 e).2 (List.mem_cons_of_mem _ z)⟩, y.2⟩, fun z => (y.1 rfl).2 (z ▸ List.mem_cons_self)⟩
        have hDS : D ∉ f1.S := by
          rw [← hf1]
          exact fun z => ((r.mono s1).fresh nD).2.1 (f.hS D z)
        have noSl : ∀ i ∈ sl, ∀ c fr, (wipeK Δ vs)[i]? ≠ some (.own c fr) := fun i hi c fr e => by cases wipeK_in (hsl i hi) _ e
        refine ⟨fun i m H' => m = ds.length - i ∧ i ≤ ds.length ∧ ∃ acc es rest, H' D = some (.lst acc) ∧ R K f1 Δ ρ σ H' ∧ RpA K (FM f1 Δ σ true fr') H' acc es ∧ acc.length ≤ i ∧ lcE h gt ge ρ (ds.drop i) = .ok rest ∧ all = es ++ rest ∧ Same H H' ∧ (∀ q, pf = some q → H' q.1 = some q.2),
          ⟨ds.length, by simp, Nat.zero_le _, [], [], all, upd_same, r1, .nil, Nat.le_refl _, ea, rfl, s1.trans (same_upd nD), fun q eq => same_upd nD _ _ (hpf q eq)⟩, ?_⟩
        rintro i m H2 ⟨rfl, hi2, acc, es, rest, hD, r2, x2, la, er, eall, sHH, hpf2⟩
        have stand : (∀ q, pf = some q → H2 q.1 = some q.2) ∧ ∃ F, RpA K F H2 gv ge0 := ⟨hpf2, _, r2.gh _ gG⟩
        by_cases hlt : i < ds.length
        · refine .inr ⟨sc.goes i H2 hlt stand, fun H' => i + 1 ≤ ds.length ∧ ∃ acc es rest, H' D = some (.lst acc) ∧ R K f1 Δ ρ σ H' ∧ RpA K (FM f1 Δ σ true fr') H' acc es ∧ acc.length ≤ i + 1 ∧ lcE h gt ge ρ (ds.drop (i + 1)) = .ok rest ∧ all = es ++ rest ∧ Same H H' ∧ (∀ q, pf = some q → H' q.1 = some q.2),
            fun H' w => ⟨ds.length - (i + 1), by omega, rfl, w⟩, fun x H3 hy => ?_⟩
          obtain ⟨s3, hx⟩ := sc.yields i H2 x H3 hlt stand hy
          obtain ⟨d, hd, x3⟩ := hx _ (r2.gh _ gG)
          have edrop : ds.drop i = d :: ds.drop (i + 1) := by
            have hd' := (List.getElem?_eq_some_iff.mp hd).2
            rw [List.drop_eq_getElem_cons hlt, hd']
          rw [edrop] at er
          unfold lcE at er
          obtain ⟨ρ', eh, er⟩ := bnd_inv er
          obtain ⟨c, ec, er⟩ := bnd_inv er
          have r3 := r2.mono s3
          refine hg f1 (wipeK Δ vs) ρ (wipe σ vs) H3 x d fr _ (by rw [wipeK_len]; exact hn) (r3.wipe no) (x3.weak fun a y => (fm_wipe no).mpr y) ?_
          rw [eh]
          intro σ4 t4
          refine ⟨?_, ?_⟩
          · rw [wipe_eq (σ' := σ4) (σ := wipe σ vs) (by rw [t4.r.lσ, t4.len, wipeK_len, wipe_length, r.lσ]) fun i hi => (t4.keep i fun z => hi (hsl i z)).2]
            exact wipe_eq (wipe_length σ vs) fun i hi => wipe_out hi
          · refine ht f1 ρ' σ4 H3 _ t4.r ?_
            rw [ec]
            intro H4 s4
            cases c with
            | false =>
              show (if false = true then _ else _)
              rw [if_neg Bool.false_ne_true]
              have er : lcE h gt ge ρ (ds.drop (i + 1)) = .ok rest := er
              have s24 := s3.trans s4
              exact ⟨hlt, acc, es, rest, s24 _ _ hD, r2.mono s24, x2.same s24, by omega, er, eall, sHH.trans s24, fun q eq => s24 _ _ (hpf2 q eq)⟩
            | true =>
              show (if true = true then _ else _)
              rw [if_pos rfl]
              have er : bnd (ge ρ') (fun e => bnd (lcE h gt ge ρ (ds.drop (i + 1))) fun es => .ok (e :: es)) = .ok rest := er
              obtain ⟨e, ee, er⟩ := bnd_inv er
              obtain ⟨es', ees, er⟩ := bnd_inv er
              cases er
              refine he f1 ρ' σ4 H4 _ (t4.r.mono s4) ?_
              rw [ee]
              intro y H5 s5 x5
              have s25 := (s3.trans s4).trans s5
              have hD5 := s25 _ _ hD
              refine ⟨acc, hD5, Nat.lt_of_lt_of_le (show acc.length < 100001 by omega) (by decide), hlt, acc ++ [y], es ++ [e], es', upd_same, (r2.mono s25).updAt hD5 trivial trivial h0 (fun z => ((r2.pin D dP).2 z)) dP (fun _ _ _ => hDS), ?_, by rw [List.length_append, List.length_singleton]; omega, ees, by rw [eall]; simp, ?_, fun q eq => ?_⟩
              · refine ((x2.same s25).updM hD5 trivial fun a y z => (y.1 rfl).2 (z ▸ dP)).append (.cons ?_ .nil)
                refine Rp.updM hD5 trivial (fun a y z => (y.1 rfl).2 (z ▸ dP)) (x5.weak fun a y => (fm_wipe no).mp (t4.fm' noSl y))
              · intro a o ha
                have na : a ≠ D := fun z => by
                  have z1 := s1 _ _ ha
                  rw [z, nD] at z1
                  cases z1
                rw [upd_ne na]
                exact s25 _ _ (sHH _ _ ha)
              · have nq : q.1 ≠ D := fun z => by
                  have z1 := hpf q eq
                  rw [z, nD] at z1
                  cases z1
                rw [upd_ne nq]
                exact s25 _ _ (hpf2 q eq)
        · have ei : i = ds.length := by omega
          subst ei
          refine .inl ⟨sc.stops H2 stand, ?_⟩
          rw [List.drop_length] at er
          cases er
          rw [List.append_nil] at eall
          subst eall
          refine q D H2 (s1.free nD) sHH ⟨acc, _, rfl, hD, x2.weak fun a y => fmf y⟩
    · rw [if_neg hl] at q
      exact q.elim
end Sim
end T_SimE
section T_SimF
set_option Elab.async false
set_option linter.all false
set_option maxRecDepth 100000
namespace Sim
open PySem PySem.Spec L2
open PyProof.Rows hiding St
inductive Fl where
  | nx (ρ : List Dt) | rt (d : Dt) | bk (ρ : List Dt) | ct (ρ : List Dt)
abbrev Gs := List Dt → O Fl
inductive Lk where
  | n | l | m | ml | t
def sclA : List Dt → Bool
  | [] => true
  | d :: ds => scl d && sclA ds
def sclV : List (Dt × Dt) → Bool
  | [] => true
  | d :: ds => scl d.2 && sclV ds
def ArgAt (K : PySem.W.Frag) (H : Hp) (a : Addr) (d : Dt) : Prop := match d with
  | .list es => sclA es = true ∧ ∃ ws, H a = some (.lst ws) ∧ RpA K (fun _ => False) H ws es
  | .dict es => sclV es = true ∧ ∃ kvs, H a = some (.dK kvs) ∧ KvA K (fun _ => False) H kvs es
  | _ => False
def PoS (K : PySem.W.Frag) (W : Wt) (L : Lk) (f : Fm) (Δn Δb Δc : List Kd) (o : O Fl) (E : Ends) : Prop := match o with
  | .bad => False
  | .ex e => ∀ σ' H', Same f.H0 H' → W e σ' H'
  | .ok (.nx ρ) => ∀ σ' H', R K f Δn ρ σ' H' → E.nx σ' H'
  | .ok (.rt d) => (match L with
    | .l => ∀ p H', f.H0 p = none → Same f.H0 H' → OwC K .l (fun a => f.G a ∧ a ≠ p) H' p d → E.rt (.ref p) H'
    | .n => ∀ v H', Same f.H0 H' → Rp K f.G H' v d → E.rt v H'
    | .t => ∀ v H' L, Same f.H0 H' → Tr K f.G H' v d L → E.rt v H'
    | .m => (match f.A, d with
      | some a, .tuple [r, e] => ∀ v H', Same f.H0 H' → ArgAt K H' a e → Rp K (fun b => f.G b ∧ b ≠ a) H' v r → E.rt v H'
      | _, _ => False)
    | .ml => (match f.A, d with
      | some a, .tuple [r, e] => ∀ p H', p ≠ a → f.H0 p = none → Same f.H0 H' → ArgAt K H' a e → OwC K .l (fun b => (f.G b ∧ b ≠ a) ∧ b ≠ p) H' p r → E.rt (.ref p) H'
      | _, _ => False))
  | .ok (.bk ρ) => ∀ σ' H', R K f Δb ρ σ' H' → E.bk σ' H'
  | .ok (.ct ρ) => ∀ σ' H', R K f Δc ρ σ' H' → E.ct σ' H'
def SS (K : PySem.W.Frag) (W : Wt) (L : Lk) (Δ Δn Δb Δc : List Kd) (ts : TS) (g : Gs) : Prop := ∀ f ρ σ H E, R K f Δ ρ σ H → PoS K W L f Δn Δb Δc (g ρ) E → ts E σ H
def gNext : Gs := fun ρ => .ok (.nx ρ)
def gSeqS (a b : Gs) : Gs := fun ρ => match a ρ with
  | .ok (.nx ρ') => b ρ'
  | o => o
def gRet (g : Gd) : Gs := fun ρ => bnd (g ρ) fun d => .ok (.rt d)
def gAsg (g : Gd) (h : Dt → List Dt → O (List Dt)) : Gs := fun ρ => bnd (g ρ) fun d => match h d ρ with
  | .ok ρ' => .ok (.nx ρ')
  | _ => .bad
def gSet (i : Nat) (g : Gd) : Gs := fun ρ => bnd (g ρ) fun d => .ok (.nx (ρ.set i d))
def gDrop (g : Gd) : Gs := fun ρ => bnd (g ρ) fun _ => .ok (.nx ρ)
def gApp (i : Nat) (g : Gd) : Gs := fun ρ => match ρ[i]? with
  | some (.list ds) => bnd (g ρ) fun d => if ds.length < 100000 then .ok (.nx (ρ.set i (.list (ds ++ [d])))) else .bad
  | _ => .bad
def gIfS (t : List Dt → O Bool) (a b : Gs) : Gs := fun ρ => bnd (t ρ) fun c => if c then a ρ else b ρ
def gWhile (t : List Dt → O Bool) (b : Gs) : Nat → Gs
  | 0 => fun _ => .bad
  | n + 1 => fun ρ => bnd (t ρ) fun c => if c then (bnd (b ρ) fun fl => match fl with
    | .nx ρ' => gWhile t b n ρ'
    | .ct ρ' => gWhile t b n ρ'
    | .bk ρ' => .ok (.nx ρ')
    | .rt d => .ok (.rt d)) else .ok (.nx ρ)
def forE (h : Dt → List Dt → O (List Dt)) (b : Gs) : List Dt → Gs
  | [] => fun ρ => .ok (.nx ρ)
  | d :: ds => fun ρ => match h d ρ with
    | .ok ρ1 => bnd (b ρ1) fun fl => (match fl with
      | .nx ρ' => forE h b ds ρ'
      | .ct ρ' => forE h b ds ρ'
      | .bk ρ' => .ok (.nx ρ')
      | .rt d => .ok (.rt d))
    | _ => .bad
def gFor (gi : List Dt → O (List Dt)) (h : Dt → List Dt → O (List Dt)) (b : Gs) : Gs := fun ρ => bnd (gi ρ) fun ds => forE h b ds ρ
section
variable {K : PySem.W.Frag} {W : Wt} {Δ Δ1 Δ2 Δn Δb Δc : List Kd} {te ti : TE} {tt : TT} {t u : TS} {ta : TA} {g ge gi : Gd} {gt : List Dt → O Bool} {gA : List Dt → O (List Dt)} {ga gb : Gs} {fr fr' av av' : Bool} {L : Lk} {i j : Nat}
theorem SS.pre (h : SS K W L Δ1 Δn Δb Δc t ga) (l : leA Δ Δ1 = true) : SS K W L Δ Δn Δb Δc t ga := fun f ρ σ H E r q => h f ρ σ H E (r.weak l) q
theorem SS.post {Δn' Δb' Δc' : List Kd} (h : SS K W L Δ Δn Δb Δc t ga) (ln : leA Δn Δn' = true) (lb : leA Δb Δb' = true) (lc : leA Δc Δc' = true) : SS K W L Δ Δn' Δb' Δc' t ga := fun f ρ σ H E r q => h f ρ σ H E r <| by
  cases e : ga ρ with
  | bad => rw [e] at q; exact q
  | ex z => rw [e] at q; exact q
  | ok fl =>
    rw [e] at q
    cases fl with
    | nx ρ' => exact fun σ' H' r => q σ' H' (r.weak ln)
    | rt d => exact q
    | bk ρ' => exact fun σ' H' r => q σ' H' (r.weak lb)
    | ct ρ' => exact fun σ' H' r => q σ' H' (r.weak lc)
theorem s_next : SS K W L Δ Δ Δb Δc tNext gNext := fun f ρ σ H E r q => q σ H r
theorem s_seq (h1 : SS K W L Δ Δ1 Δb Δc t ga) (h2 : SS K W L Δ1 Δn Δb Δc u gb) : SS K W L Δ Δn Δb Δc (tSeq t u) (gSeqS ga gb) := fun f ρ σ H E r q => h1 f ρ σ H _ r <| by
  unfold gSeqS at q
  cases e : ga ρ with
  | bad => rw [e] at q; exact q
  | ex z => rw [e] at q; exact q
  | ok fl =>
    rw [e] at q
    cases fl with
    | nx ρ' => exact fun σ' H' r' => h2 f ρ' σ' H' E r' q
    | rt d => exact q
    | bk ρ' => exact q
    | ct ρ' => exact q
theorem s_ret (h : SE K W Δ te (.v av true) g) : SS K W .n Δ Δn Δb Δc (tRet te) (gRet g) := fun f ρ σ H E r q => h f ρ σ H _ r <| by
  unfold gRet at q
  cases e : g ρ with
  | bad => rw [e] at q; exact q
  | ex z => rw [e] at q; exact fun H' s => q σ H' (r.ext.trans s)
  | ok d =>
    rw [e] at q
    exact fun v H' s x => q v H' (r.ext.trans s) (x.weak fun a fa => fa.2 rfl)
theorem s_retL (h : SE K W Δ te (.new .l true) g) : SS K W .l Δ Δn Δb Δc (tRet te) (gRet g) := fun f ρ σ H E r q => h f ρ σ H _ r <| by
  unfold gRet at q
  cases e : g ρ with
  | bad => rw [e] at q; exact q
  | ex z => rw [e] at q; exact fun H' s => q σ H' (r.ext.trans s)
  | ok d =>
    rw [e] at q
    exact fun p H' np s x => q p H' (r.fresh np).2.2 (r.ext.trans s) (x.map (fun _ e => e) fun _ _ y => y.weak fun a fa => ⟨fa.1.2 rfl, fa.2⟩)
theorem s_retO (hk : Δ[i]? = some (.own .l true)) : SS K W .l Δ Δn Δb Δc (tRet (tVar i)) (gRet (gVar i)) := fun f ρ σ H E r q => by
  obtain ⟨p, d, h1, h2, h3, h4⟩ := r.ow i .l true hk
  unfold gRet gVar at q
  rw [h2, bnd_ok] at q
  exact ⟨_, h1, q p H h3 r.ext (h4.map (fun _ e => e) fun _ _ y => y.weak fun a fa => ⟨fa.2 rfl, fun z => (fa.1 rfl).1 (z ▸ ⟨i, .l, true, hk, h1⟩)⟩)⟩
theorem s_set (hi : i < Δ.length) (h : SE K W Δ te (.v true fr) g) : SS K W L Δ (Δ.set i (.im fr)) Δb Δc (tAsg te (gName i)) (gSet i g) := fun f ρ σ H E r q => h f ρ σ H _ r <| by
  unfold gSet at q
  cases e : g ρ with
  | bad => rw [e] at q; exact q
  | ex z => rw [e] at q; exact fun H' s => q σ H' (r.ext.trans s)
  | ok d =>
    rw [e] at q
    exact fun v H' s x => q _ H' ((r.mono s).setIm hi x)
theorem s_setO {c : Ct} (hi : i < Δ.length) (h : SE K W Δ te (.new c fr) g) (hc : isArg c = false := by rfl) : SS K W L Δ (Δ.set i (.own c fr)) Δb Δc (tAsg te (gName i)) (gSet i g) := fun f ρ σ H E r q => h f ρ σ H _ r <| by
  unfold gSet at q
  cases e : g ρ with
  | bad => rw [e] at q; exact q
  | ex z => rw [e] at q; exact fun H' s => q σ H' (r.ext.trans s)
  | ok d =>
    rw [e] at q
    exact fun p H' np s x => q _ H' (r.setOwn hi np s x hc)
theorem s_asg {gg : TG} {sl : List Nat} {n : Nat} {hh : Dt → List Dt → O (List Dt)} {TK : Bool → List Kd → List Kd} (hn : Δ.length = n) (h : SE K W Δ te (.v true fr) g) (hg : GJ K n gg sl hh TK) : SS K W L Δ (TK fr Δ) Δb Δc (tAsg te gg) (gAsg g hh) := fun f ρ σ H E r q => h f ρ σ H _ r <| by
  unfold gAsg at q
  cases e : g ρ with
  | bad => rw [e] at q; exact q
  | ex z => rw [e] at q; exact fun H' s => q σ H' (r.ext.trans s)
  | ok d =>
    rw [e, bnd_ok] at q
    intro v H' s x
    refine hg f Δ ρ σ H' v d fr _ hn (r.mono s) x ?_
    cases e2 : hh d ρ with
    | bad => rw [e2] at q; exact q.elim
    | ex z => rw [e2] at q; exact q.elim
    | ok ρ' =>
      rw [e2] at q
      exact fun σ' t => q σ' H' t.r
theorem s_app (hk : Δ[i]? = some (.own .l fr)) (h : SE K W Δ te (.v true fr') g) : SS K W L Δ (Δ.set i (.own .l (fr && fr'))) Δb Δc (tDrop (tBM K "list" rAppend (tVar i) (tCons te tNil))) (gApp i g) := fun f ρ σ H E r q => by
  obtain ⟨p, d, h1, h2, h3, vs, ds, ed, h4, h5⟩ := r.ow i .l fr hk
  subst ed
  unfold gApp at q
  rw [h2] at q
  simp only at q
  refine ⟨_, h1, .inl ⟨rfl, _, .inl (.inl h4)⟩, h f ρ σ H _ r ?_⟩
  cases e : g ρ with
  | bad => rw [e] at q; exact q
  | ex z => rw [e] at q; exact fun H' s => q σ H' (r.ext.trans s)
  | ok d =>
    rw [e, bnd_ok] at q
    intro v H1 s x
    by_cases hl : ds.length < 100000
    · rw [if_pos hl] at q
      have hp := s _ _ h4
      have hl2 : vs.length < sizeLine := by rw [h5.length]; exact Nat.lt_of_lt_of_le hl (by decide)
      refine ⟨p, vs, v, rfl, rfl, hp, hl2, q σ _ ?_⟩
      refine (r.mono s).updOwn hk h1 (c' := .l) (show Mutb (.lst _) from trivial) ⟨_, _, rfl, upd_same, ?_⟩
      have nf : ∀ {fr : Bool} (a : Addr), FM f Δ σ true fr a → a ≠ p := fun a fa z => (fa.1 rfl).1 (z ▸ ⟨i, .l, _, hk, h1⟩)
      exact (((h5.same s).updM hp trivial fun a fa => nf a fa).weak fun a y => y.weak id fun h => (Bool.and_eq_true_iff.mp h).1).append
        (.cons ((Rp.updM hp trivial (fun a fa => nf a fa) x).weak fun a y => y.weak id fun h => (Bool.and_eq_true_iff.mp h).2) .nil)
    · rw [if_neg hl] at q
      exact q.elim
theorem s_if (h : ST K W Δ tt gt) (h1 : SS K W L Δ Δn Δb Δc t ga) (h2 : SS K W L Δ Δn Δb Δc u gb) : SS K W L Δ Δn Δb Δc (tIfS tt t u) (gIfS gt ga gb) := fun f ρ σ H E r q => h f ρ σ H _ r <| by
  unfold gIfS at q
  cases e : gt ρ with
  | bad => rw [e] at q; exact q
  | ex z => rw [e] at q; exact fun H' s => q σ H' (r.ext.trans s)
  | ok c =>
    rw [e, bnd_ok] at q
    intro H1 s
    cases c with
    | true => exact h1 f ρ σ H1 E (r.mono s) q
    | false => exact h2 f ρ σ H1 E (r.mono s) q
theorem s_while (n : Nat) (h : ST K W Δ tt gt) (hb : SS K W L Δ Δ Δ Δ t gb) : SS K W L Δ Δ Δb Δc (tWhile tt t) (gWhile gt gb n) := fun f ρ σ H E r q => by
  refine ⟨fun m σ H => ∃ ρ, R K f Δ ρ σ H ∧ PoS K W L f Δ Δb Δc (gWhile gt gb m ρ) E, ⟨n, ρ, r, q⟩, ?_⟩
  rintro m σ1 H1 ⟨ρ1, r1, q1⟩
  cases m with
  | zero => exact q1.elim
  | succ m =>
    refine h f ρ1 σ1 H1 _ r1 ?_
    unfold gWhile at q1
    cases e : gt ρ1 with
    | bad => rw [e] at q1; exact q1
    | ex z => rw [e] at q1; exact fun H' s => q1 σ1 H' (r1.ext.trans s)
    | ok c =>
      rw [e, bnd_ok] at q1
      intro H2 s2
      cases c with
      | false => exact q1 σ1 H2 (r1.mono s2)
      | true =>
        show (if true = true then _ else _)
        rw [if_pos rfl]
        refine ⟨fun σ' H' => ∃ ρ', R K f Δ ρ' σ' H' ∧ PoS K W L f Δ Δb Δc (gWhile gt gb m ρ') E, fun σ' H' w => ⟨m, Nat.lt_succ_self m, w⟩, hb f ρ1 σ1 H2 _ (r1.mono s2) ?_⟩
        have q1 : PoS K W L f Δ Δb Δc (bnd (gb ρ1) fun fl => match fl with | .nx ρ' => gWhile gt gb m ρ' | .ct ρ' => gWhile gt gb m ρ' | .bk ρ' => .ok (.nx ρ') | .rt d => .ok (.rt d)) E := q1
        cases e2 : gb ρ1 with
        | bad => rw [e2] at q1; exact q1
        | ex z => rw [e2] at q1; exact q1
        | ok fl =>
          rw [e2, bnd_ok] at q1
          cases fl with
          | nx ρ' => exact fun σ' H' r' => ⟨ρ', r', q1⟩
          | ct ρ' => exact fun σ' H' r' => ⟨ρ', r', q1⟩
          | bk ρ' => exact q1
          | rt d => exact q1
theorem PoS.toG {f : Fm} {gg : List V × List Dt × Bool} {o : O Fl} {E : Ends} (q : PoS K W L f Δn Δb Δc o E) : PoS K W L { f with Γ := gg :: f.Γ } Δn Δb Δc o E := by
  cases o with
  | bad => exact q
  | ex z => exact q
  | ok fl =>
    cases fl with
    | nx ρ => exact fun σ' H' r => q σ' H' r.dropG
    | rt d => exact q
    | bk ρ => exact fun σ' H' r => q σ' H' r.dropG
    | ct ρ => exact fun σ' H' r => q σ' H' r.dropG
theorem s_for {wi : TI} {gg : TG} {sl : List Nat} {n : Nat} {hh : Dt → List Dt → O (List Dt)} {TK : Bool → List Kd → List Kd} {gI : List Dt → O (List Dt)} (hn : Δ.length = n) (h : SI K W Δ wi false fr gI) (hg : GJ K n gg sl hh TK) (hb : SS K W L (TK fr Δ) Δ Δ Δ t gb) :
    SS K W L Δ Δ Δb Δc (tFor wi gg t) (gFor gI hh gb) := fun f ρ σ H E r q => h f ρ σ H _ r <| by
  unfold gFor at q
  cases e : gI ρ with
  | bad => rw [e] at q; exact q
  | ex z => rw [e] at q; exact fun H' s => q σ H' (r.ext.trans s)
  | ok ds =>
    rw [e, bnd_ok] at q
    intro J H1 pf vs es s1 hpf _ x sc
    have hpf := hpf rfl
    subst hpf
    have r1 := (r.mono s1).addG (fr := fr) x
    have q1 := q.toG (gg := (vs, es, fr))
    generalize hf1 : ({ f with Γ := (vs, es, fr) :: f.Γ } : Fm) = f1 at r1 q1
    have gG : (vs, es, fr) ∈ f1.Γ := by rw [← hf1]; exact List.mem_cons_self
    refine ⟨fun i m σ H => m = ds.length - i ∧ i ≤ ds.length ∧ ∃ ρ, R K f1 Δ ρ σ H ∧ PoS K W L f1 Δ Δb Δc (forE hh gb (ds.drop i) ρ) E, ⟨ds.length, by simp, Nat.zero_le _, ρ, r1, q1⟩, ?_⟩
    rintro i m σ2 H2 ⟨rfl, hi, ρ2, r2, q2⟩
    have stand : (∀ q, (none : Option (Addr × HO)) = some q → H2 q.1 = some q.2) ∧ ∃ F, RpA K F H2 vs es := ⟨fun _ e => (nomatch e), _, r2.gh _ gG⟩
    by_cases hlt : i < ds.length
    · refine .inr ⟨sc.goes i H2 hlt stand, fun σ' H' => i + 1 ≤ ds.length ∧ ∃ ρ, R K f1 Δ ρ σ' H' ∧ PoS K W L f1 Δ Δb Δc (forE hh gb (ds.drop (i + 1)) ρ) E, fun σ' H' w => ⟨ds.length - (i + 1), by omega, rfl, w⟩, fun x H3 hy => ?_⟩
      obtain ⟨s3, hx⟩ := sc.yields i H2 x H3 hlt stand hy
      obtain ⟨d, hd, x3⟩ := hx _ (r2.gh _ gG)
      have edrop : ds.drop i = d :: ds.drop (i + 1) := by
        have hd' := (List.getElem?_eq_some_iff.mp hd).2
        rw [List.drop_eq_getElem_cons hlt, hd']
      rw [edrop] at q2
      unfold forE at q2
      refine hg f1 Δ ρ2 σ2 H3 x d fr _ hn (r2.mono s3) x3 ?_
      cases eh : hh d ρ2 with
      | bad => rw [eh] at q2; exact q2.elim
      | ex z => rw [eh] at q2; exact q2.elim
      | ok ρ3 =>
        rw [eh] at q2
        simp only at q2
        intro σ4 t4
        refine hb f1 ρ3 σ4 H3 _ t4.r ?_
        cases e2 : gb ρ3 with
        | bad => rw [e2] at q2; exact q2
        | ex z => rw [e2] at q2; exact q2
        | ok fl =>
          rw [e2, bnd_ok] at q2
          cases fl with
          | nx ρ' => exact fun σ' H' r' => ⟨hlt, ρ', r', q2⟩
          | ct ρ' => exact fun σ' H' r' => ⟨hlt, ρ', r', q2⟩
          | bk ρ' => exact q2
          | rt d => exact q2
    · have ei : i = ds.length := by omega
      subst ei
      rw [List.drop_length] at q2
      exact .inl ⟨sc.stops H2 stand, q2 σ2 H2 r2⟩
end
def Wcls (mg : Str → Option Value) (e : Exn) (E : XK) (H' : Hp) : Prop := ∀ C, mg e.cls = some (.ref C) → match e.arg with
  | none => E (.ref C) none H'
  | some m => ∀ d, H' d = some (.xd [("moment", .int m)]) → E (.ref C) (some d) H'
def spG (K : PySem.W.Frag) (mg : Str → Option Value) (n : Nat) (g : List Dt → O Dt) : Sp := fun vs H Q E => ∃ ds, vs.length = n ∧ RpA K (fun _ => True) H vs ds ∧ (match g ds with
  | .bad => False
  | .ex e => ∀ H', Same H H' → Wcls mg e E H'
  | .ok d => ∀ v H', Same H H' → Rp K (fun a => H a = none) H' v d → Q v H')
def spA (K : PySem.W.Frag) (mg : Str → Option Value) (n : Nat) (g : List Dt → O Dt) : Sp := fun vs H Q E => ∃ ds F, vs.length = n ∧ RpA K F H vs ds ∧ (match g ds with
  | .bad => False
  | .ex e => ∀ H', Same H H' → Wcls mg e E H'
  | .ok d => ∀ v H', Same H H' → Rp K (fun a => F a ∨ H a = none) H' v d → Q v H')
def spL (K : PySem.W.Frag) (mg : Str → Option Value) (n : Nat) (g : List Dt → O Dt) : Sp := fun vs H Q E => ∃ ds, vs.length = n ∧ RpA K (fun _ => True) H vs ds ∧ (match g ds with
  | .bad => False
  | .ex e => ∀ H', Same H H' → Wcls mg e E H'
  | .ok d => ∀ p H', H p = none → Same H H' → OwC K .l (fun a => H a = none ∧ a ≠ p) H' p d → Q (.ref p) H')
def gCallN (n : Nat) (g : List Dt → O Dt) (gA : List Dt → O (List Dt)) : Gd := fun ρ => bnd (gA ρ) fun ds => if ds.length = n then (match g ds with
  | .ok d => .ok d
  | _ => .bad) else .bad
section
variable {K : PySem.W.Frag} {W : Wt} {Δ : List Kd} {ta : TA} {gA : List Dt → O (List Dt)} {av fr : Bool} {mg : Str → Option Value} {n : Nat} {g : List Dt → O Dt}
theorem se_callN (h : SA K W Δ ta av fr gA) : SE K W Δ (tCall (spG K mg n g) [] E0 ta) (.v true true) (gCallN n g gA) := fun f ρ σ H Q r q => h f ρ σ H _ r <| by
  unfold gCallN at q
  cases e : gA ρ with
  | bad => rw [e] at q; exact q
  | ex z => rw [e] at q; exact q
  | ok ds =>
    rw [e, bnd_ok] at q
    intro vs H1 s1 x1
    by_cases hn : ds.length = n
    · rw [if_pos hn] at q
      rw [List.append_nil]
      refine ⟨ds, by rw [x1.length]; exact hn, x1.weak fun _ _ => trivial, ?_⟩
      cases e2 : g ds with
      | bad => rw [e2] at q; exact q.elim
      | ex z => rw [e2] at q; exact q.elim
      | ok d =>
        rw [e2] at q
        intro v H2 s2 x2
        refine q v H2 (s1.trans s2) (x2.weak fun a na => ?_)
        obtain ⟨f1, f2, f3⟩ := (r.mono s1).fresh na
        exact ⟨fun _ => ⟨f1, f2⟩, fun _ => r.g0 a f3⟩
    · rw [if_neg hn] at q
      exact q.elim
theorem se_callL (h : SA K W Δ ta av fr gA) : SE K W Δ (tCall (spL K mg n g) [] E0 ta) (.new .l true) (gCallN n g gA) := fun f ρ σ H Q r q => h f ρ σ H _ r <| by
  unfold gCallN at q
  cases e : gA ρ with
  | bad => rw [e] at q; exact q
  | ex z => rw [e] at q; exact q
  | ok ds =>
    rw [e, bnd_ok] at q
    intro vs H1 s1 x1
    by_cases hn : ds.length = n
    · rw [if_pos hn] at q
      rw [List.append_nil]
      refine ⟨ds, by rw [x1.length]; exact hn, x1.weak fun _ _ => trivial, ?_⟩
      cases e2 : g ds with
      | bad => rw [e2] at q; exact q.elim
      | ex z => rw [e2] at q; exact q.elim
      | ok d =>
        rw [e2] at q
        intro p H2 np s2 x2
        refine q p H2 (s1.free np) (s1.trans s2) (x2.map (fun _ e => e) fun _ _ y => y.weak fun a na => ?_)
        obtain ⟨f1, f2, f3⟩ := (r.mono s1).fresh na.1
        exact ⟨⟨fun _ => ⟨f1, f2⟩, fun _ => r.g0 a f3⟩, na.2⟩
    · rw [if_neg hn] at q
      exact q.elim
theorem se_callA (h : SA K W Δ ta av fr gA) : SE K W Δ (tCall (spA K mg n g) [] E0 ta) (.v av fr) (gCallN n g gA) := fun f ρ σ H Q r q => h f ρ σ H _ r <| by
  unfold gCallN at q
  cases e : gA ρ with
  | bad => rw [e] at q; exact q
  | ex z => rw [e] at q; exact q
  | ok ds =>
    rw [e, bnd_ok] at q
    intro vs H1 s1 x1
    by_cases hn : ds.length = n
    · rw [if_pos hn] at q
      rw [List.append_nil]
      refine ⟨ds, _, by rw [x1.length]; exact hn, x1, ?_⟩
      cases e2 : g ds with
      | bad => rw [e2] at q; exact q.elim
      | ex z => rw [e2] at q; exact q.elim
      | ok d =>
        rw [e2] at q
        intro v H2 s2 x2
        refine q v H2 (s1.trans s2) (x2.weak fun a na => ?_)
        rcases na with na | na
        · exact na
        · obtain ⟨f1, f2, f3⟩ := (r.mono s1).fresh na
          exact ⟨fun _ => ⟨f1, f2⟩, fun _ => r.g0 a f3⟩
    · rw [if_neg hn] at q
      exact q.elim
end
end Sim
end T_SimF
section T_SimG
set_option Elab.async false
set_option linter.all false
set_option maxRecDepth 100000
namespace Sim
open PySem PySem.Spec L2
open PyProof.Rows hiding St
section
variable {X : Cx} {K : PySem.W.Frag} {W : Wt} {Δ Δ1 Δn Δb Δc : List Kd} {a b c e elt tg iter : Expr} {es ifs : List Expr} {ta tb tc te : TE} {tt tu : TT} {tA : TA} {ga gb gc g ge gi : Gd} {gt gu : List Dt → O Bool} {gA gI : List Dt → O (List Dt)} {k k1 k2 : Rk} {av fr av' fr' : Bool} {L : Lk} {pos : Pos} {t u : TS} {g1 g2 : Gs}
theorem x_ix (ha : PD X K W Δ a ta (.v av fr) ga) (hb : PD X K W Δ b tb (.v av' fr') gb) (hs : PlainIx b := by exact fun _ _ => rfl) : PD X K W Δ (.Subscript a b pos) (tOp (rIx K) ta tb) (.v av fr) (gOp hIx ga gb) :=
  ⟨pe_ix (by have q := ix_seq (X := X); rw [ha.hK] at q; exact q) ha.pe hb.pe hs, ha.hK, se_ix ha.se hb.se⟩
theorem x_ixO (ha : PD X K W Δ a ta (.o fr) ga) (hb : PD X K W Δ b tb (.v av' fr') gb) (hs : PlainIx b := by exact fun _ _ => rfl) : PD X K W Δ (.Subscript a b pos) (tOp (rIx K) ta tb) (.v true fr) (gOp hIx ga gb) :=
  ⟨pe_ix (by have q := ix_seq (X := X); rw [ha.hK] at q; exact q) ha.pe hb.pe hs, ha.hK, se_ixO ha.se hb.se⟩
structure OD (X : Cx) (K : PySem.W.Frag) (W : Wt) (Δ : List Kd) (e : Option Expr) (to : TOp) (g : List Dt → O (Option Int)) : Prop where
  po : PO X e to
  so : SO K W Δ to g
theorem o_none : OD X K W Δ none tNoPart gNoPart := ⟨po_none, so_none⟩
theorem o_some (h : PD X K W Δ e te (.v av fr) g) : OD X K W Δ (some e) (tPart te) (gPart g) := ⟨po_some h.pe, so_some h.se⟩
theorem x_sl {lo hi : Option Expr} {tl th : TOp} {gl gh : List Dt → O (Option Int)} {p2 : Pos} (h : PD X K W Δ e te (.v true fr) g) (h1 : OD X K W Δ lo tl gl) (h2 : OD X K W Δ hi th gh) : PD X K W Δ (.Subscript e (.Slice lo hi none p2) pos) (tSl (rSlL K) te tl th) (.new .l fr) (gSl hSl g gl gh) :=
  ⟨pe_slice (by have q := sl_list (X := X); rw [h.hK] at q; exact q) h.pe h1.po h2.po, h.hK, se_sl h.se h1.so h2.so⟩
theorem x_cat (ha : PD X K W Δ a ta (.v true fr) ga) (hb : PD X K W Δ b tb (.v true fr') gb) : PD X K W Δ (.BinOp a .Add b pos) (tOp (rCatS K) ta tb) (.new .l (fr && fr')) (gOp hCat ga gb) :=
  ⟨pe_op (by have q := op_catS (X := X); rw [ha.hK] at q; exact q) ha.pe hb.pe, ha.hK, se_cat ha.se hb.se⟩
theorem x_list {x : Str} {p : Pos} (hm : X.mg x = none) (h : AD X K W Δ (e :: es) tA true fr gA) (hv : bootBuiltins x = some (.type "list") := by decide +kernel) (hg : Gl X x := by rfl) (hn : x ≠ "__name__" := by decide) (hdb : (x == ("__debug__" : Str)) = false := by decide)
    (he : starEach (e :: es) X.env = (false, eval e X.env) :: starEach es X.env := by rfl) (hpl : (backTo pos (starEach es X.env)).any (·.1) = false := by rfl) :
    PD X K W Δ (.Call (.Name x p) (e :: es) [] pos) (tCB (rListOf K) tA) (.new .l fr) (gCB (one hListOf) gA) :=
  ⟨pe_callTy (by have q := call_list_of (X := X); rw [h.hK] at q; exact q) hg hm hv h.pa hn hdb he hpl, h.hK, se_listOf h.sa⟩
theorem x_tuple {x : Str} {p : Pos} (hm : X.mg x = none) (h : AD X K W Δ (e :: es) tA av fr gA) (hv : bootBuiltins x = some (.type "tuple") := by decide +kernel) (hg : Gl X x := by rfl) (hn : x ≠ "__name__" := by decide) (hdb : (x == ("__debug__" : Str)) = false := by decide)
    (he : starEach (e :: es) X.env = (false, eval e X.env) :: starEach es X.env := by rfl) (hpl : (backTo pos (starEach es X.env)).any (·.1) = false := by rfl) :
    PD X K W Δ (.Call (.Name x p) (e :: es) [] pos) (tCB (fun xs H Q => ∃ p ys, xs = [.ref p] ∧ ((SqL K H p ys ∧ ∀ l, H l = none → Q (.ref l) (upd H l (.tup ys))) ∨ (SqT K H p ys ∧ Q (.ref p) H))) tA) (.v av fr) (gCB (one hTupOf) gA) :=
  ⟨pe_callTy (by have q := call_tuple_of (X := X); rw [h.hK] at q; exact q) hg hm hv h.pa hn hdb he hpl, h.hK, se_tupOf h.sa⟩
theorem i_seq (h : PD X K W Δ e te (.v true fr) g) : ID X K W Δ tg e (iSeq K te) false fr (gSeq g) := ⟨by have q := pi_seq (tg := tg) h.pe; rw [h.hK] at q; exact q, h.hK, si_seq h.se⟩
theorem i_rng1 {p : Pos} (hm : X.mg "range" = none) (h : AD X K W Δ [a] tA av fr gA) (hg : Gl X "range" := by rfl) (hs : starEach [a] X.env = [(false, eval a X.env)] := by rfl) : ID X K W Δ tg (.Call (.Name "range" p) [a] [] pos) (iRng1 tA) false true (gRng1 gA) := ⟨pi_range1 hg hm h.pa hs, h.hK, si_rng1 h.sa⟩
theorem i_rng2 {p : Pos} (hm : X.mg "range" = none) (h : AD X K W Δ [a, b] tA av fr gA) (hg : Gl X "range" := by rfl) (hs : starEach [a, b] X.env = [(false, eval a X.env), (false, eval b X.env)] := by rfl) (hs2 : starEach [b] X.env = [(false, eval b X.env)] := by rfl) :
    ID X K W Δ tg (.Call (.Name "range" p) [a, b] [] pos) (iRng2 tA) false true (gRng2 gA) := ⟨pi_range2 hg hm h.pa hs hs2, h.hK, si_rng2 h.sa⟩
theorem g_tup {n m kk : Nat} {gs : TGs} {sl : List Nat} {u : List Dt → List Dt → O (List Dt)} {T : Bool → List Kd → List Kd} (hc : X.calm = true) (h : GDs X K n es gs sl u T) (hm : ∀ ds ρ, ds.length ≠ m → ∀ z, u ds ρ ≠ .ok z) (hl : (assignEach es X.env).length = m := by rfl) (hst : List.findIdx? (fun x => x.fst) (assignEach es X.env) = none := by rfl) :
    GD X K n (.Tuple es kk pos) (L2.gTup K m gs) sl (tgT u) T := ⟨by have q := pg_tup (X := X) (k := kk) (n := m) (pos := pos) hc h.pg hl hst; rw [h.hK] at q; exact q, h.hK, gj_tup h.gj hm⟩
structure TsD (X : Cx) (K : PySem.W.Frag) (Δ : List Kd) (ifs : List Expr) (tt : TT) (g : List Dt → O Bool) : Prop where
  pts : PTs X ifs tt
  st : ST K W0 Δ tt g
theorem t_nil : TsD X K Δ [] tYes gYes := ⟨pts_nil, fun f ρ σ H Q r q => q H (Same.refl H)⟩
theorem x_lc {n : Nat} {scope : Scope} (own : List (Str × Nat)) {wi : TI} {gg : TG} {sl : List Nat} {hh : Dt → List Dt → O (List Dt)} {TK : Bool → List Kd → List Kd} {bb : Bool} (hN : X.N.Nodup) (hi : ID X K W Δ tg iter wi bb fr gI) (ok : blkC X.N X.env.scope scope own = true)
    (hg : ∀ (s : Shared) (H : Hp) (C : Addr) (cl : List (Str × Addr)) (fp : List Addr), GD (X.blk s H scope (compEnvC scope cl C X.env) fp) K n tg gg sl hh TK)
    (ht : ∀ (s : Shared) (H : Hp) (C : Addr) (cl : List (Str × Addr)) (fp : List Addr), TsD (X.blk s H scope (compEnvC scope cl C X.env) fp) K (TK fr (wipeK Δ (own.map (·.2)))) ifs tt gt)
    (he : ∀ (s : Shared) (H : Hp) (C : Addr) (cl : List (Str × Addr)) (fp : List Addr), PD (X.blk s H scope (compEnvC scope cl C X.env) fp) K W0 (TK fr (wipeK Δ (own.map (·.2)))) elt te (.v true fr') ge)
    (hn : Δ.length = n := by rfl) (hsl : ∀ i ∈ sl, i ∈ own.map (·.2) := by decide) (no : noOwn Δ (own.map (·.2)) = true := by rfl) (hc : X.calm = true := by rfl) (hs : ∀ x, foldedSetIterable iter X.env x = pure x := by intro _; rfl) :
    PD X K W Δ (.ListComp elt [⟨tg, iter, ifs, 0⟩] scope pos) (tLc wi gg tt te (own.map (·.2))) (.new .l fr') (gLc gI hh gt ge) :=
  ⟨pe_lc hc hN hi.pi (blkOk_by ok) (fun s H C cl fp => (hg s H C cl fp).pg) (fun s H C cl fp => (ht s H C cl fp).pts) (fun s H C cl fp => (he s H C cl fp).pe) hs, hi.hK,
    se_lc hi.si (hg X.s_0 X.H_0 0 [] []).gj hn hsl no (ht X.s_0 X.H_0 0 [] []).st (he X.s_0 X.H_0 0 [] []).se⟩
theorem x_callN {x : Str} {p : Pos} {CXT' : CXT} {kk nn : Nat} {fa : Addr} {fd : FuncData} {ps : List Str} {gg : List Dt → O Dt} {mg : Str → Option Value} (F : FnOk X.prog X.w X.K X.mg X.base CXT' kk fa fd ps (spG K mg nn gg)) (hr : Room kk X.A) (hm : X.mg x = some (.ref fa)) (hk : PySem.W.keepIn X.K (.ref fa) = true) (hb : Binds X.K fd ps [])
    (hx : Passes CXT' X E0) (h : AD X K W Δ (e :: es) tA av fr gA) (hg : Gl X x := by rfl) (hdb : (x == ("__debug__" : Str)) = false := by decide) (he : starEach (e :: es) X.env = (false, eval e X.env) :: starEach es X.env := by rfl) (hpl : (backTo pos (starEach es X.env)).any (·.1) = false := by rfl) :
    PD X K W Δ (.Call (.Name x p) (e :: es) [] pos) (tCall (spG K mg nn gg) [] E0 tA) (.v true true) (gCallN nn gg gA) := ⟨pe_call F hr hg hm hk hb .nil hx h.pa hdb he hpl, h.hK, se_callN h.sa⟩
theorem x_callL {x : Str} {p : Pos} {CXT' : CXT} {kk nn : Nat} {fa : Addr} {fd : FuncData} {ps : List Str} {gg : List Dt → O Dt} {mg : Str → Option Value} (F : FnOk X.prog X.w X.K X.mg X.base CXT' kk fa fd ps (spL K mg nn gg)) (hr : Room kk X.A) (hm : X.mg x = some (.ref fa)) (hk : PySem.W.keepIn X.K (.ref fa) = true) (hb : Binds X.K fd ps [])
    (hx : Passes CXT' X E0) (h : AD X K W Δ (e :: es) tA av fr gA) (hg : Gl X x := by rfl) (hdb : (x == ("__debug__" : Str)) = false := by decide) (he : starEach (e :: es) X.env = (false, eval e X.env) :: starEach es X.env := by rfl) (hpl : (backTo pos (starEach es X.env)).any (·.1) = false := by rfl) :
    PD X K W Δ (.Call (.Name x p) (e :: es) [] pos) (tCall (spL K mg nn gg) [] E0 tA) (.new .l true) (gCallN nn gg gA) := ⟨pe_call F hr hg hm hk hb .nil hx h.pa hdb he hpl, h.hK, se_callL h.sa⟩
theorem x_callA {x : Str} {p : Pos} {CXT' : CXT} {kk nn : Nat} {fa : Addr} {fd : FuncData} {ps : List Str} {gg : List Dt → O Dt} {mg : Str → Option Value} (F : FnOk X.prog X.w X.K X.mg X.base CXT' kk fa fd ps (spA K mg nn gg)) (hr : Room kk X.A) (hm : X.mg x = some (.ref fa)) (hk : PySem.W.keepIn X.K (.ref fa) = true) (hb : Binds X.K fd ps [])
    (hx : Passes CXT' X E0) (h : AD X K W Δ (e :: es) tA av fr gA) (hg : Gl X x := by rfl) (hdb : (x == ("__debug__" : Str)) = false := by decide) (he : starEach (e :: es) X.env = (false, eval e X.env) :: starEach es X.env := by rfl) (hpl : (backTo pos (starEach es X.env)).any (·.1) = false := by rfl) :
    PD X K W Δ (.Call (.Name x p) (e :: es) [] pos) (tCall (spA K mg nn gg) [] E0 tA) (.v av fr) (gCallN nn gg gA) := ⟨pe_call F hr hg hm hk hb .nil hx h.pa hdb he hpl, h.hK, se_callA h.sa⟩
end
structure SD (X : Cx) (K : PySem.W.Frag) (W : Wt) (L : Lk) (Δ Δn Δb Δc : List Kd) (st : Stmt) (ts : TS) (g : Gs) : Prop where
  ps : PS X st ts
  hK : X.K = K
  ss : SS K W L Δ Δn Δb Δc ts g
structure BD (X : Cx) (K : PySem.W.Frag) (W : Wt) (L : Lk) (Δ Δn Δb Δc : List Kd) (sts : List Stmt) (ts : TS) (g : Gs) : Prop where
  ps : PSs X sts ts
  hK : X.K = K
  ss : SS K W L Δ Δn Δb Δc ts g
section
variable {X : Cx} {K : PySem.W.Frag} {W : Wt} {Δ Δ1 Δ2 Δn Δb Δc : List Kd} {a b c e elt tg iter : Expr} {es ifs : List Expr} {ta tb tc te ti : TE} {tt tu : TT} {tA : TA} {ga gb gc g ge gi : Gd} {gt gu : List Dt → O Bool} {gA gI : List Dt → O (List Dt)} {k k1 k2 : Rk} {av fr av' fr' : Bool} {L : Lk} {pos pos' : Pos} {t u : TS} {g1 g2 : Gs} {st : Stmt} {sts sts2 : List Stmt}
theorem SD.pre (h : SD X K W L Δ1 Δn Δb Δc st t g1) (l : leA Δ Δ1 = true := by rfl) : SD X K W L Δ Δn Δb Δc st t g1 := ⟨h.ps, h.hK, h.ss.pre l⟩
theorem BD.post {Δn' Δb' Δc' : List Kd} (h : BD X K W L Δ Δn Δb Δc sts t g1) (ln : leA Δn Δn' = true := by rfl) (lb : leA Δb Δb' = true := by rfl) (lc : leA Δc Δc' = true := by rfl) : BD X K W L Δ Δn' Δb' Δc' sts t g1 := ⟨h.ps, h.hK, h.ss.post ln lb lc⟩
theorem b_nil (hK : X.K = K := by rfl) : BD X K W L Δ Δ Δb Δc [] tNext gNext := ⟨pss_nil, hK, s_next⟩
theorem b_one (h : SD X K W L Δ Δn Δb Δc st t g1) : BD X K W L Δ Δn Δb Δc [st] t g1 := ⟨pss_one h.ps, h.hK, h.ss⟩
theorem b_cons (h : SD X K W L Δ Δ1 Δb Δc st t g1) (h2 : BD X K W L Δ1 Δn Δb Δc sts u g2) : BD X K W L Δ Δn Δb Δc (st :: sts) (tSeq t u) (gSeqS g1 g2) := ⟨pss_cons h.ps h2.ps, h.hK, s_seq h.ss h2.ss⟩
theorem z_ret (h : PD X K W Δ e te (.v av true) g) : SD X K W .n Δ Δn Δb Δc (.Return (some e) pos) (tRet te) (gRet g) := ⟨ps_ret h.pe, h.hK, s_ret h.se⟩
theorem z_retL (h : PD X K W Δ e te (.new .l true) g) : SD X K W .l Δ Δn Δb Δc (.Return (some e) pos) (tRet te) (gRet g) := ⟨ps_ret h.pe, h.hK, s_retL h.se⟩
theorem z_retO (i : Nat) {x : Str} {p : Pos} (hk : Δ[i]? = some (.own .l true) := by rfl) (hN : X.N[i]? = some x := by rfl) (hv : Vis X.env.scope x := by first | exact Or.inl rfl | exact Or.inr (Or.inl rfl) | exact Or.inr (Or.inr rfl)) (hd : (x == ("__debug__" : Str)) = false := by decide)
    (hcd : (x == ("__classdict__" : Str)) = false := by decide) (hK : X.K = K := by rfl) : SD X K W .l Δ Δn Δb Δc (.Return (some (.Name x p)) pos) (tRet (tVar i)) (gRet (gVar i)) := ⟨ps_ret (pe_var hN hv hd hcd), hK, s_retO hk⟩
theorem z_set (i : Nat) {x : Str} (hN : X.N.Nodup) (h : PD X K W Δ e te (.v true fr) g) (hn : i < Δ.length := by decide) (hi : X.N[i]? = some x := by rfl) (hx : Loc X.env.scope x := by first | exact .inl rfl | exact .inr rfl) (hs : swapsWith e (some (.Name x pos')) pos.line X.env = pure false := by rfl) (hf : X.fn x = true ∨ X.env.scope.names.lookup x = some .local := by first | exact .inl rfl | exact .inr rfl) :
    SD X K W L Δ (Δ.set i (.im fr)) Δb Δc (.Assign [.Name x pos'] e pos) (tAsg te (gName i)) (gSet i g) := ⟨ps_set hN hi hx h.pe hs hf, h.hK, s_set hn h.se⟩
theorem z_setO (i : Nat) {x : Str} {ct : Ct} (hN : X.N.Nodup) (h : PD X K W Δ e te (.new ct fr) g) (hn : i < Δ.length := by decide) (hct : isArg ct = false := by rfl) (hi : X.N[i]? = some x := by rfl) (hx : Loc X.env.scope x := by first | exact .inl rfl | exact .inr rfl) (hs : swapsWith e (some (.Name x pos')) pos.line X.env = pure false := by rfl) (hf : X.fn x = true ∨ X.env.scope.names.lookup x = some .local := by first | exact .inl rfl | exact .inr rfl) :
    SD X K W L Δ (Δ.set i (.own ct fr)) Δb Δc (.Assign [.Name x pos'] e pos) (tAsg te (gName i)) (gSet i g) := ⟨ps_set hN hi hx h.pe hs hf, h.hK, s_setO hn h.se hct⟩
theorem z_asg {n : Nat} {gg : TG} {sl : List Nat} {hh : Dt → List Dt → O (List Dt)} {TK : Bool → List Kd → List Kd} (h : PD X K W Δ e te (.v true fr) g) (hg : GD X K n tg gg sl hh TK) (hn : Δ.length = n := by rfl) (hs : swapsWithSole [tg] e pos.line X.env = pure false := by rfl) (hw : swappedStores [tg] e X.env = pure none := by rfl)
    (h1 : (assignEach [tg] X.env).map (·.2) = [assign tg X.env] := by rfl) : SD X K W L Δ (TK fr Δ) Δb Δc (.Assign [tg] e pos) (tAsg te gg) (gAsg g hh) := ⟨ps_asg h.pe hg.pg hs hw h1, h.hK, s_asg hn h.se hg.gj⟩
theorem z_app (i : Nat) {x : Str} {p p1 p2 : Pos} (h : PD X K W Δ e te (.v true fr') g) (hk : Δ[i]? = some (.own .l fr) := by rfl) (hv : Vis X.env.scope x := by first | exact Or.inl rfl | exact Or.inr (Or.inl rfl) | exact Or.inr (Or.inr rfl)) (hN : X.N[i]? = some x := by rfl) (hd : (x == ("__debug__" : Str)) = false := by decide) (hcd : (x == ("__classdict__" : Str)) = false := by decide)
    (hbase : attributeBase (.Name x p) "append" X.env (eval (.Name x p) X.env) = eval (.Name x p) X.env := by rfl)
    (hfew : ((backTo p2 (starEach [e] X.env)).all (fun x => !x.1) && (backToKw p2 (keywordEach [] X.env)).all (fun x => x.1.isSome)
      && decide ([e].length + ([] : List Keyword).length + (if ([] : List Keyword).isEmpty then 0 else 1) < 30)) = true := by rfl)
    (hline : (p1.endLine == p2.line) = true := by rfl) (hst : starEach [e] X.env = (false, eval e X.env) :: starEach [] X.env := by rfl) (hplain : (backTo p2 (starEach [] X.env)).any (·.1) = false := by rfl)
    (hs : swapsWith (.Call (.Attribute (.Name x p) "append" p1) [e] [] p2) none pos.line X.env = pure false := by rfl) :
    SD X K W L Δ (Δ.set i (.own .l (fr && fr'))) Δb Δc (.Expr (.Call (.Attribute (.Name x p) "append" p1) [e] [] p2) pos) (tDrop (tBM K "list" rAppend (tVar i) (tCons te tNil))) (gApp i g) :=
  ⟨by have q := ps_expr (pos := pos) (pe_bm PySem.F.plainAttrs_list PySem.F.slot_list_append PySem.F.type_list_append mt_append (pe_var hN hv hd hcd) (pa_cons h.pe pa_nil hst) hbase hfew hline hst hplain) hs; rw [h.hK] at q; exact q, h.hK, s_app hk h.se⟩
theorem z_if (h : TD X K W Δ c tt gt) (h1 : BD X K W L Δ Δn Δb Δc sts t g1) (h2 : BD X K W L Δ Δn Δb Δc sts2 u g2) : SD X K W L Δ Δn Δb Δc (.If c sts sts2 pos) (tIfS tt t u) (gIfS gt g1 g2) := ⟨ps_if h.pt h1.ps h2.ps, h.hK, s_if h.st h1.ss h2.ss⟩
theorem z_while (n : Nat) (hp : PassesOwn (model X.prog X.w) X.A X.env X.xe) (h : TD X K W Δ c tt gt) (hb : BD X K W L Δ Δ Δ Δ sts t g1) : SD X K W L Δ Δ Δb Δc (.While c sts [] pos) (tWhile tt t) (gWhile gt g1 n) := ⟨ps_while hp h.pt hb.ps, h.hK, s_while n h.st hb.ss⟩
theorem z_for {n : Nat} {wi : TI} {gg : TG} {sl : List Nat} {hh : Dt → List Dt → O (List Dt)} {TK : Bool → List Kd → List Kd} (hp : PassesOwn (model X.prog X.w) X.A X.env X.xe) (hi : ID X K W Δ tg iter wi false fr gI) (hg : GD X K n tg gg sl hh TK) (hb : BD X K W L (TK fr Δ) Δ Δ Δ sts t g1) (hn : Δ.length = n := by rfl) (hc : X.calm = true := by rfl)
    (hs : ∀ x, foldedSetIterable iter X.env x = pure x := by intro _; rfl) : SD X K W L Δ Δ Δb Δc (.For tg iter sts [] pos) (tFor wi gg t) (gFor gI hh g1) := ⟨ps_for hp hc hi.pi hg.pg hb.ps hs, hi.hK, s_for hn hi.si hg.gj hb.ss⟩
end
def fnN (m : Nat) (g : Gs) : List Dt → O Dt := fun ds => match g (ds ++ List.replicate (m - ds.length) .none) with
  | .ok (.rt d) => .ok d
  | .ok (.nx _) => .ok .none
  | _ => .bad
def fnL (m : Nat) (g : Gs) : List Dt → O Dt := fun ds => match g (ds ++ List.replicate (m - ds.length) .none) with
  | .ok (.rt d) => .ok d
  | _ => .bad
def kd0 (n m : Nat) (fr : Bool) : List Kd := List.replicate n (.im fr) ++ List.replicate (m - n) .no
theorem r_start {K : PySem.W.Frag} {H : Hp} {F G : Addr → Prop} {vs : List V} {ds : List Dt} {n m : Nat} {fr : Bool} {N : List Str} (hv : vs.length = n) (hN : N.length = m) (hm : n ≤ m) (x : RpA K F H vs ds) (hg : ∀ a, H a = none → G a) (hF : fr = true → ∀ a, F a → G a) :
    R K ⟨H, G, [], [], none, [], fun _ h => nomatch h⟩ (kd0 n m fr) (ds ++ List.replicate (m - ds.length) .none) (L2.start N vs) H := by
  have hd : ds.length = n := by rw [← x.length]; exact hv
  have noOw : ∀ (i : Nat) (c : Ct) (fr' : Bool), (kd0 n m fr)[i]? ≠ some (.own c fr') := fun i c fr' e => by
    unfold kd0 at e
    have := List.mem_of_getElem? e
    rcases List.mem_append.mp this with h | h
    · cases List.eq_of_mem_replicate h
    · cases List.eq_of_mem_replicate h
  have noSl0 : ∀ (i : Nat) (t : Bool), (kd0 n m fr)[i]? ≠ some (.sl t) := fun i t e => by
    unfold kd0 at e
    have := List.mem_of_getElem? e
    rcases List.mem_append.mp this with h | h
    · cases List.eq_of_mem_replicate h
    · cases List.eq_of_mem_replicate h
  refine ⟨Same.refl H, hg, ?_, ?_, fun i j ci fi cj fj p h1 => absurd h1 (noOw i ci fi), fun a ha => absurd ha (by simp), fun g hg => absurd hg (by simp), fun i fr' h => ?_, fun i c fr' h => absurd h (noOw i c fr'), fun i c fr' h => absurd h (noOw i c fr'), fun a ha => (nomatch ha), fun i t h => absurd h (noSl0 i t)⟩
  · unfold L2.start kd0
    rw [List.length_append, List.length_append, List.length_map, List.length_replicate, List.length_replicate, List.length_replicate, hv, hN]
  · unfold kd0
    rw [List.length_append, List.length_append, List.length_replicate, List.length_replicate, List.length_replicate, hd]
  · unfold kd0 at h
    by_cases hi : i < n
    · rw [List.getElem?_append_left (by rw [List.length_replicate]; exact hi)] at h
      have efr : fr' = fr := by
        have := List.eq_of_mem_replicate (List.mem_of_getElem? h)
        cases this; rfl
      subst efr
      have hi' : i < vs.length := by rw [hv]; exact hi
      obtain ⟨d, h1, h2⟩ := x.get (List.getElem?_eq_getElem hi')
      refine ⟨vs[i], d, ?_, ?_, h2.weak fun a fa => ⟨fun _ => ⟨fun z => ?_, by simp⟩, fun e => hF e a fa⟩⟩
      · unfold L2.start
        rw [List.getElem?_append_left (by rw [List.length_map]; exact hi'), List.getElem?_map, List.getElem?_eq_getElem hi']
        rfl
      · rw [List.getElem?_append_left (by rw [hd]; exact hi)]
        exact h1
      · obtain ⟨j, c, frj, g1, _⟩ := z
        exact noOw j c frj g1
    · rw [List.getElem?_append_right (by rw [List.length_replicate]; omega)] at h
      cases List.eq_of_mem_replicate (List.mem_of_getElem? h)
section
variable {P : Program} {w : World} {K : PySem.W.Frag} {mg : Str → Option Value} {base : Heap} {x qual : Str} {st : Stmt} {fa : Addr} {fd : FuncData} {N ps : List Str} {k n m : Nat} {Δn : List Kd} {g : Gs}
theorem fn_okN (F : L2.Fun K x qual st fa fd) (S : FnScope N ps (defScope st)) (hn : ps.length = n) (hm : N.length = m) (hnm : n ≤ m)
    (hb : ∀ (cdv : Value) (A : Around) (outer : List Env) (s : Shared) (H : Hp) (E : XK), Room k (A.deeper (envOfC qual (defScope st) s.heap.objs.size fa cdv)) → ∃ ts, BD (cxOf CX0 P w K mg base N qual (defScope st) fa cdv A outer s H E).nox K W0 .n (kd0 n m false) Δn (kd0 n m false) (kd0 n m false) (defBody st) ts g) :
    FnOk P w K mg base CX0 (k + 1) fa fd ps (spG K mg n (fnN m g)) := by
  refine F.ok S (fun vs H Q E h => ?_) (fun cdv A outer s H vs Q E hr h => ?_)
  · obtain ⟨ds, h1, _⟩ := h
    rw [h1, hn]
  · obtain ⟨ds, h1, h2, h3⟩ := h
    obtain ⟨ts, B⟩ := hb cdv A outer s H E hr
    refine ⟨ts, B.ps, B.ss ⟨H, fun a => H a = none, [], [], none, [], fun _ h => nomatch h⟩ _ _ H _ (r_start h1 hm hnm h2 (fun _ h => h) (fun e => nomatch e)) ?_⟩
    unfold fnN at h3
    cases e : g (ds ++ List.replicate (m - ds.length) .none) with
    | bad => rw [e] at h3; exact h3.elim
    | ex z => rw [e] at h3; exact h3.elim
    | ok fl =>
      rw [e] at h3
      cases fl with
      | nx ρ => exact fun σ' H' r => h3 .non H' r.ext .non
      | rt d => exact fun v H' s x => h3 v H' s x
      | bk ρ => exact h3.elim
      | ct ρ => exact h3.elim
theorem fn_okL (F : L2.Fun K x qual st fa fd) (S : FnScope N ps (defScope st)) (hn : ps.length = n) (hm : N.length = m) (hnm : n ≤ m)
    (hb : ∀ (cdv : Value) (A : Around) (outer : List Env) (s : Shared) (H : Hp) (E : XK), Room k (A.deeper (envOfC qual (defScope st) s.heap.objs.size fa cdv)) → ∃ ts, BD (cxOf CX0 P w K mg base N qual (defScope st) fa cdv A outer s H E).nox K W0 .l (kd0 n m false) Δn (kd0 n m false) (kd0 n m false) (defBody st) ts g) :
    FnOk P w K mg base CX0 (k + 1) fa fd ps (spL K mg n (fnL m g)) := by
  refine F.ok S (fun vs H Q E h => ?_) (fun cdv A outer s H vs Q E hr h => ?_)
  · obtain ⟨ds, h1, _⟩ := h
    rw [h1, hn]
  · obtain ⟨ds, h1, h2, h3⟩ := h
    obtain ⟨ts, B⟩ := hb cdv A outer s H E hr
    refine ⟨ts, B.ps, B.ss ⟨H, fun a => H a = none, [], [], none, [], fun _ h => nomatch h⟩ _ _ H _ (r_start h1 hm hnm h2 (fun _ h => h) (fun e => nomatch e)) ?_⟩
    unfold fnL at h3
    cases e : g (ds ++ List.replicate (m - ds.length) .none) with
    | bad => rw [e] at h3; exact h3.elim
    | ex z => rw [e] at h3; exact h3.elim
    | ok fl =>
      rw [e] at h3
      cases fl with
      | nx ρ => exact h3.elim
      | rt d => exact fun p H' np s x => h3 p H' np s x
      | bk ρ => exact h3.elim
      | ct ρ => exact h3.elim
theorem fn_okA (F : L2.Fun K x qual st fa fd) (S : FnScope N ps (defScope st)) (hn : ps.length = n) (hm : N.length = m) (hnm : n ≤ m)
    (hb : ∀ (cdv : Value) (A : Around) (outer : List Env) (s : Shared) (H : Hp) (E : XK), Room k (A.deeper (envOfC qual (defScope st) s.heap.objs.size fa cdv)) → ∃ ts, BD (cxOf CX0 P w K mg base N qual (defScope st) fa cdv A outer s H E).nox K W0 .n (kd0 n m true) Δn (kd0 n m true) (kd0 n m true) (defBody st) ts g) :
    FnOk P w K mg base CX0 (k + 1) fa fd ps (spA K mg n (fnN m g)) := by
  refine F.ok S (fun vs H Q E h => ?_) (fun cdv A outer s H vs Q E hr h => ?_)
  · obtain ⟨ds, F, h1, _⟩ := h
    rw [h1, hn]
  · obtain ⟨ds, F, h1, h2, h3⟩ := h
    obtain ⟨ts, B⟩ := hb cdv A outer s H E hr
    refine ⟨ts, B.ps, B.ss ⟨H, fun a => F a ∨ H a = none, [], [], none, [], fun _ h => nomatch h⟩ _ _ H _ (r_start h1 hm hnm h2 (fun _ h => .inr h) (fun _ a h => .inl h)) ?_⟩
    unfold fnN at h3
    cases e : g (ds ++ List.replicate (m - ds.length) .none) with
    | bad => rw [e] at h3; exact h3.elim
    | ex z => rw [e] at h3; exact h3.elim
    | ok fl =>
      rw [e] at h3
      cases fl with
      | nx ρ => exact fun σ' H' r => h3 .non H' r.ext .non
      | rt d => exact fun v H' s x => h3 v H' s x
      | bk ρ => exact h3.elim
      | ct ρ => exact h3.elim
end
end Sim
end T_SimG
section T_SimH
set_option Elab.async false
set_option linter.all false
set_option maxRecDepth 100000
namespace Sim
open PySem PySem.Spec L2
open PyProof.Rows hiding St
structure OR (X : Cx) (K : PySem.W.Frag) (op : CmpOp) (r : R2) (h : Dt → Dt → O Dt) : Prop where
  ho : OpR X (compareOp op) r
  scl : Scl2 h
  osc : OSc K r h
section
variable {X : Cx} {K : PySem.W.Frag} {W : Wt} {n : Nat}
theorem or_lt : OR X K .Lt (rI0 fun i j => .bl (decide (i < j))) hLt := ⟨op_lt, scl_B0, osc_B0⟩
theorem or_le : OR X K .LtE (rI0 fun i j => .bl (decide (i ≤ j))) hLe := ⟨op_le, scl_B0, osc_B0⟩
theorem or_gt : OR X K .Gt (rI0 fun i j => .bl (decide (j < i))) hGt := ⟨op_gt, scl_B0, osc_B0⟩
theorem or_eq (hr : Room n X.A) (hK : X.K = K := by rfl) : OR X K .Eq (rEqD K) hEq := ⟨by have q := op_eqD (X := X) (by have := hr.un; omega); rw [hK] at q; exact q, scl_eq, osc_eq⟩
theorem or_ne (hr : Room n X.A) (hK : X.K = K := by rfl) : OR X K .NotEq (rNeD K) hNe := ⟨by have q := op_neD (X := X) (by have := hr.un; omega); rw [hK] at q; exact q, scl_ne, osc_ne⟩
theorem or_notIn (hr : Room n X.A) (hK : X.K = K := by rfl) : OR X K .NotIn (rInDT K true) hNotIn := ⟨by have q := op_notInDT (X := X) (by have := hr.un; omega); rw [hK] at q; exact q, scl_notIn, osc_notIn⟩
theorem or_isN : OR X K .Is (fun x y H Q => y = .non ∧ Q (.bl (decide (x = .non))) H) hIs := ⟨op_isN, scl_is, osc_is⟩
end
def gChain (h h' : Dt → Dt → O Dt) (ga gb gc : Gd) : Gd := fun ρ => bnd (ga ρ) fun x => bnd (gb ρ) fun y => bnd (h x y) fun z => bnd (asB z) fun c => if c then bnd (gc ρ) fun w => h' y w else .ok (.bool false)
section
variable {K : PySem.W.Frag} {W : Wt} {Δ : List Kd} {ta tb tc : TE} {ga gb gc : Gd} {av fr av' fr' av2 fr2 : Bool}
theorem se_chain {r r' : R2} {h h' : Dt → Dt → O Dt} (hs : Scl2 h) (ho : OSc K r h) (hs' : Scl2 h') (ho' : OSc K r' h') (ha : SE K W Δ ta (.v av fr) ga) (hb : SE K W Δ tb (.v av' fr') gb) (hc : SE K W Δ tc (.v av2 fr2) gc) :
    SE K W Δ (tChain r r' ta tb tc) (.v true true) (gChain h h' ga gb gc) := fun f ρ σ H Q R q => by
  refine ha f ρ σ H _ R ?_
  unfold gChain at q
  cases e1 : ga ρ with
  | bad => rw [e1] at q; exact q
  | ex z => rw [e1] at q; exact q
  | ok d =>
    rw [e1, bnd_ok] at q
    intro v H1 s1 x1
    refine hb f ρ σ H1 _ (R.mono s1) ?_
    cases e2 : gb ρ with
    | bad => rw [e2] at q; exact q
    | ex z => rw [e2] at q; exact fun H' s => q H' (s1.trans s)
    | ok d2 =>
      rw [e2, bnd_ok] at q
      intro v2 H2 s2 x2
      refine ho H2 v v2 d d2 _ ((x1.same s2).weak fun _ _ => trivial) (x2.weak fun _ _ => trivial) ?_
      rcases hs d d2 with ⟨z, ez, sz⟩ | ez
      · rw [ez] at q ⊢
        rw [bnd_ok] at q
        refine ⟨sz, fun w x => ?_⟩
        cases x with
        | bl c =>
          refine ⟨c, rfl, ?_⟩
          cases c with
          | false =>
            show (if false = true then _ else _)
            rw [if_neg Bool.false_ne_true]
            exact q _ H2 (s1.trans s2) (.bl false)
          | true =>
            show (if true = true then _ else _)
            rw [if_pos rfl]
            have q : PoE K W f Δ σ H (.v true true) (bnd (gc ρ) fun w => h' d2 w) Q := q
            refine hc f ρ σ H2 _ ((R.mono s1).mono s2) ?_
            cases e3 : gc ρ with
            | bad => rw [e3] at q; exact q
            | ex z => rw [e3] at q; exact fun H' s => q H' ((s1.trans s2).trans s)
            | ok d3 =>
              rw [e3, bnd_ok] at q
              intro v3 H3 s3 x3
              refine ho' H3 v2 v3 d2 d3 Q ((x2.same s3).weak fun _ _ => trivial) (x3.weak fun _ _ => trivial) ?_
              rcases hs' d2 d3 with ⟨z, ez, sz⟩ | ez
              · rw [ez] at q ⊢
                exact ⟨sz, fun w x => q w H3 ((s1.trans s2).trans s3) (x.scl_any sz)⟩
              · rw [ez] at q
                exact q.elim
        | non => exact q.elim
        | int => exact q.elim
        | str => exact q.elim
        | lst => cases sz
        | fz => cases sz
        | tup => cases sz
        | dic => cases sz
        | exn => cases sz
      · rw [ez] at q
        exact q.elim
end
section
variable {X : Cx} {K : PySem.W.Frag} {W : Wt} {Δ Δ1 Δn Δb Δc : List Kd} {a b c e : Expr} {es : List Expr} {ta tb tc te : TE} {tA : TA} {ga gb gc g : Gd} {av fr av' fr' av2 fr2 : Bool} {L : Lk} {pos : Pos} {op op' : CmpOp} {r r' : R2} {h h' : Dt → Dt → O Dt} {t : TS} {g1 : Gs} {st : Stmt} {sts : List Stmt}
theorem x_cmp (o : OR X K op r h) (ha : PD X K W Δ a ta (.v av fr) ga) (hb : PD X K W Δ b tb (.v av' fr') gb) (hm : behindInMarks op b = false := by first | exact nobehind _ (by decide) (by decide) | rfl) : PD X K W Δ (.Compare a [op] [b] pos) (tOp r ta tb) (.v true true) (gOp h ga gb) := ⟨pe_cmpR o.ho ha.pe hb.pe hm, ha.hK, se_op o.scl o.osc ha.se hb.se⟩
theorem c_cmp (o : OR X K op r h) (ha : PD X K W Δ a ta (.v av fr) ga) (hb : PD X K W Δ b tb (.v av' fr') gb) (hm : behindInMarks op b = false := by first | exact nobehind _ (by decide) (by decide) | rfl) : TD X K W Δ (.Compare a [op] [b] pos) (tTest (tOp r ta tb)) (gTest (gOp h ga gb)) := ⟨pt_cmpR o.ho ha.pe hb.pe hm, ha.hK, st_test (se_op o.scl o.osc ha.se hb.se)⟩
theorem x_chain (o : OR X K op r h) (o' : OR X K op' r' h') (ha : PD X K W Δ a ta (.v av fr) ga) (hb : PD X K W Δ b tb (.v av' fr') gb) (hc : PD X K W Δ c tc (.v av2 fr2) gc) (hm : lastMarks [op, op'] [b, c] = false := by with_unfolding_all rfl) : PD X K W Δ (.Compare a [op, op'] [b, c] pos) (tChain r r' ta tb tc) (.v true true) (gChain h h' ga gb gc) :=
  ⟨pe_chain o.ho o'.ho ha.pe hb.pe hc.pe hm, ha.hK, se_chain o.scl o.osc o'.scl o'.osc ha.se hb.se hc.se⟩
theorem SD.to (Δn' : List Kd) (h : SD X K W L Δ Δn Δb Δc st t g1) (l : leA Δn Δn' = true := by rfl) : SD X K W L Δ Δn' Δb Δc st t g1 := ⟨h.ps, h.hK, fun f ρ σ H E r q => h.ss f ρ σ H E r <| by
  cases e : g1 ρ with
  | bad => rw [e] at q; exact q
  | ex z => rw [e] at q; exact q
  | ok fl =>
    rw [e] at q
    cases fl with
    | nx ρ' => exact fun σ' H' r => q σ' H' (r.weak l)
    | rt d => exact q
    | bk ρ' => exact q
    | ct ρ' => exact q⟩
theorem SD.frm (Δ0 : List Kd) (h : SD X K W L Δ0 Δn Δb Δc st t g1) (l : leA Δ Δ0 = true := by rfl) : SD X K W L Δ Δn Δb Δc st t g1 := ⟨h.ps, h.hK, h.ss.pre l⟩
theorem BD.to (Δn' : List Kd) (h : BD X K W L Δ Δn Δb Δc sts t g1) (l : leA Δn Δn' = true := by rfl) : BD X K W L Δ Δn' Δb Δc sts t g1 := ⟨h.ps, h.hK, fun f ρ σ H E r q => h.ss f ρ σ H E r <| by
  cases e : g1 ρ with
  | bad => rw [e] at q; exact q
  | ex z => rw [e] at q; exact q
  | ok fl =>
    rw [e] at q
    cases fl with
    | nx ρ' => exact fun σ' H' r => q σ' H' (r.weak l)
    | rt d => exact q
    | bk ρ' => exact q
    | ct ρ' => exact q⟩
theorem BD.frm (Δ0 : List Kd) (h : BD X K W L Δ0 Δn Δb Δc sts t g1) (l : leA Δ Δ0 = true := by rfl) : BD X K W L Δ Δn Δb Δc sts t g1 := ⟨h.ps, h.hK, h.ss.pre l⟩
end
section
variable {X : Cx} {K : PySem.W.Frag} {W : Wt} {Δ : List Kd} {e : Expr} {te : TE} {g : Gd} {c : Ct} {fr fr' : Bool}
theorem SE.wkN (h : SE K W Δ te (.new c fr) g) (h2 : fr' = true → fr = true) : SE K W Δ te (.new c fr') g := fun f ρ σ H Q r q =>
  h f ρ σ H Q r <| by
    cases e : g ρ with
    | bad => rw [e] at q; exact q
    | ex z => rw [e] at q; exact q
    | ok d => rw [e] at q; exact fun p H' np s x => q p H' np s (x.map (fun _ e => e) fun _ _ y => y.weak fun a fa => ⟨fa.1.weak id h2, fa.2⟩)
theorem PD.wkN (fr' : Bool) (h : PD X K W Δ e te (.new c fr) g) (h2 : fr' = true → fr = true := by decide) : PD X K W Δ e te (.new c fr') g := ⟨h.pe, h.hK, SE.wkN h.se h2⟩
theorem AD.to {es : List Expr} {tA : TA} {av fr : Bool} {gA : List Dt → O (List Dt)} (av' fr' : Bool) (h : AD X K W Δ es tA av fr gA) (h1 : av' = true → av = true := by decide) (h2 : fr' = true → fr = true := by decide) : AD X K W Δ es tA av' fr' gA := h.wk h1 h2
theorem blk_fx {N : List Str} {sc scope : Scope} {own : List (Str × Nat)} (h : blkC N sc scope own = true) (e1 : X.N = N := by rfl) (e2 : X.env.scope = sc := by rfl) : blkC X.N X.env.scope scope own = true := by
  rw [e1, e2]
  exact h
end
def spLaw (K : PySem.W.Frag) (g : List Dt → O Dt) : Sp := fun vs H Q _ => ∃ ds, vs.length = 1 ∧ RpA K (fun _ => True) H vs ds ∧ g ds = .ok (.bool true) ∧ ∀ H', Q (.bl true) H'
theorem spLaw_of {K : PySem.W.Frag} {H : Hp} {a : Addr} {ns : List Int} {g : List Dt → O Dt} (hO : L2.Only H) (hS : SqL K H a (ns.map V.int)) (h : g [frzD (ns.map .int)] = .ok (.bool true)) : spLaw K g [.ref a] H (fun v _ => v = .bl true) fun _ _ _ => False := by
  refine ⟨_, rfl, .cons ?_ .nil, h, fun _ => rfl⟩
  rcases hS with (h | ⟨o, h⟩) | h
  · rcases hO a with e | ⟨o, xs, e⟩
    · rw [h] at e; cases e
    · rw [h] at e; cases e
  · exact .fz (.inl ⟨o, h⟩) (rpA_ints ns)
  · exact .fz (.inr h) (rpA_ints ns)
theorem okLaw_of {P : Program} {w : World} {K : PySem.W.Frag} {mg : Str → Option Value} {CX : CXT} {k : Nat} {fa : Addr} {g : List Dt → O Dt}
    (h : ∃ fd : FuncData, (∀ (s : Shared) (v : Value), BindsTo s fd ⟨[v], []⟩ [("script", v)]) ∧ ∀ base : Heap, K.In base → base.Ns mainGlobals mg → FnOk P w K mg base CX k fa fd ["script"] (spG K mg 1 g)) :
    ∃ fd : FuncData, (∀ (s : Shared) (v : Value), BindsTo s fd ⟨[v], []⟩ [("script", v)]) ∧ ∀ base : Heap, K.In base → base.Ns mainGlobals mg → FnOk P w K mg base CX k fa fd ["script"] (spLaw K g) := by
  obtain ⟨fd, h1, h2⟩ := h
  have key : ∀ vs H Q E, spLaw K g vs H Q E → spG K mg 1 g vs H Q E := fun vs H Q E ⟨ds, a, b, c, d⟩ => ⟨ds, a, b, by
    rw [c]
    intro v H' s x
    cases x
    exact d H'⟩
  refine ⟨fd, h1, fun base a b => ?_⟩
  obtain ⟨len, run⟩ := h2 base a b
  exact ⟨fun vs H Q E x => len vs H Q E (key vs H Q E x), fun A outer s H args us vs Q E hr e0 hb r x => run A outer s H args us vs Q E hr e0 hb r (key vs H Q E x)⟩
end Sim
end T_SimH
section T_SimP
set_option Elab.async false
set_option linter.all false
set_option maxRecDepth 100000
namespace Sim
open PySem
theorem gVar_def (i : Nat) (ρ : List Dt) : gVar i ρ = match ρ[i]? with | some d => .ok d | none => .bad := rfl
theorem gC_def (d : Dt) (ρ : List Dt) : gC d ρ = .ok d := rfl
theorem gOp_def (h : Dt → Dt → O Dt) (a b : Gd) (ρ : List Dt) : gOp h a b ρ = bnd (a ρ) fun x => bnd (b ρ) fun y => h x y := rfl
theorem gUn_def (h : Dt → O Dt) (a : Gd) (ρ : List Dt) : gUn h a ρ = bnd (a ρ) h := rfl
theorem gNil_def (ρ : List Dt) : gNil ρ = .ok [] := rfl
theorem gCons_def (a : Gd) (b : List Dt → O (List Dt)) (ρ : List Dt) : gCons a b ρ = bnd (a ρ) fun x => bnd (b ρ) fun xs => .ok (x :: xs) := rfl
theorem gTup_def (a : List Dt → O (List Dt)) (ρ : List Dt) : gTup a ρ = bnd (a ρ) fun xs => if xs.length ≤ 100000 then .ok (.tuple xs) else .bad := rfl
theorem gLst_def (a : List Dt → O (List Dt)) (ρ : List Dt) : gLst a ρ = bnd (a ρ) fun xs => if xs.length ≤ 100000 then .ok (.list xs) else .bad := rfl
theorem gIf_def (t : List Dt → O Bool) (a b : Gd) (ρ : List Dt) : gIf t a b ρ = bnd (t ρ) fun c => if c then a ρ else b ρ := rfl
theorem gTest_def (a : Gd) (ρ : List Dt) : gTest a ρ = bnd (a ρ) asB := rfl
theorem gNot_def (t : List Dt → O Bool) (ρ : List Dt) : gNot t ρ = bnd (t ρ) fun b => .ok (!b) := rfl
theorem gAnd_def (t u : List Dt → O Bool) (ρ : List Dt) : gAnd t u ρ = bnd (t ρ) fun b => if b then u ρ else .ok false := rfl
theorem gOr_def (t u : List Dt → O Bool) (ρ : List Dt) : gOr t u ρ = bnd (t ρ) fun b => if b then .ok true else u ρ := rfl
theorem gAndV_def (a b : Gd) (ρ : List Dt) : gAndV a b ρ = bnd (a ρ) fun x => bnd (asB x) fun c => if c then b ρ else .ok (.bool false) := rfl
theorem gOrV_def (a b : Gd) (ρ : List Dt) : gOrV a b ρ = bnd (a ρ) fun x => bnd (asB x) fun c => if c then .ok (.bool true) else b ρ := rfl
theorem gNotV_def (a : Gd) (ρ : List Dt) : gNotV a ρ = bnd (a ρ) fun x => bnd (asB x) fun c => .ok (.bool (!c)) := rfl
theorem gCB_def (h : List Dt → O Dt) (a : List Dt → O (List Dt)) (ρ : List Dt) : gCB h a ρ = bnd (a ρ) h := rfl
theorem asB_b (b : Bool) : asB (.bool b) = .ok b := rfl
theorem hAdd_i (i j : Int) : hAdd (.int i) (.int j) = .ok (.int (i + j)) := rfl
theorem hSub_i (i j : Int) : hSub (.int i) (.int j) = .ok (.int (i - j)) := rfl
theorem hLt_i (i j : Int) : hLt (.int i) (.int j) = .ok (.bool (decide (i < j))) := rfl
theorem hLe_i (i j : Int) : hLe (.int i) (.int j) = .ok (.bool (decide (i ≤ j))) := rfl
theorem hGt_i (i j : Int) : hGt (.int i) (.int j) = .ok (.bool (decide (j < i))) := rfl
theorem hGe_i (i j : Int) : hGe (.int i) (.int j) = .ok (.bool (decide (j ≤ i))) := rfl
theorem hBand_i (i j : Int) : hBand (.int i) (.int j) = .ok (.int (Builtin.bitAnd i j)) := rfl
theorem hMul_r {i j : Int} (h1 : -18446744073709551616 < j) (h2 : j < 18446744073709551616) : hMul (.int i) (.int j) = .ok (.int (i * j)) := by
  show (if cMul i j then O.ok (PyData.int (i * j)) else .bad) = _
  rw [if_pos]
  unfold cMul
  rw [Bool.or_eq_true, decide_eq_true_eq, decide_eq_true_eq]
  right; omega
theorem hMul_l {i j : Int} (h1 : -18446744073709551616 < i) (h2 : i < 18446744073709551616) : hMul (.int i) (.int j) = .ok (.int (i * j)) := by
  show (if cMul i j then O.ok (PyData.int (i * j)) else .bad) = _
  rw [if_pos]
  unfold cMul
  rw [Bool.or_eq_true, decide_eq_true_eq, decide_eq_true_eq]
  left; omega
theorem hMod_i {i j : Int} (h : 0 < j) : hMod (.int i) (.int j) = .ok (.int (i % j)) := by
  show (if cMod i j then O.ok (PyData.int (i % j)) else .bad) = _
  rw [if_pos]
  unfold cMod
  exact decide_eq_true h
theorem hDiv_i {i j : Int} (h : 0 < j) (h2 : j.natAbs < 2 ^ 400) : hDiv (.int i) (.int j) = .ok (.int (i / j)) := by
  show (if cDiv i j then O.ok (PyData.int (i / j)) else .bad) = _
  rw [if_pos]
  unfold cDiv
  rw [Bool.and_eq_true]
  exact ⟨decide_eq_true h, decide_eq_true h2⟩
theorem hDiv_s {i j : Int} (h : 0 < j) (h2 : j < 1000000000000000000000000000000000) : hDiv (.int i) (.int j) = .ok (.int (i / j)) := hDiv_i h (by omega)
theorem hShr_i {i j : Int} (h : 0 ≤ j) : hShr (.int i) (.int j) = .ok (.int (i / 2 ^ j.toNat)) := by
  show (if cShr i j then O.ok (PyData.int (i / 2 ^ j.toNat)) else .bad) = _
  rw [if_pos]
  exact decide_eq_true h
theorem hPow_10_18 : hPow (.int 10) (.int 18) = .ok (.int 1000000000000000000) := by
  show (if cPow 10 18 then O.ok (PyData.int ((10 : Int) ^ (18 : Int).toNat)) else .bad) = _
  rw [if_pos (by decide)]
  rfl
theorem hPow_10_27 : hPow (.int 10) (.int 27) = .ok (.int 1000000000000000000000000000) := by
  show (if cPow 10 27 then O.ok (PyData.int ((10 : Int) ^ (27 : Int).toNat)) else .bad) = _
  rw [if_pos (by decide)]
  rfl
theorem hPow_10_28 : hPow (.int 10) (.int 28) = .ok (.int 10000000000000000000000000000) := by
  show (if cPow 10 28 then O.ok (PyData.int ((10 : Int) ^ (28 : Int).toNat)) else .bad) = _
  rw [if_pos (by decide)]
  rfl
theorem hPow_10_29 : hPow (.int 10) (.int 29) = .ok (.int 100000000000000000000000000000) := by
  show (if cPow 10 29 then O.ok (PyData.int ((10 : Int) ^ (29 : Int).toNat)) else .bad) = _
  rw [if_pos (by decide)]
  rfl
theorem hPow_10_30 : hPow (.int 10) (.int 30) = .ok (.int 1000000000000000000000000000000) := by
  show (if cPow 10 30 then O.ok (PyData.int ((10 : Int) ^ (30 : Int).toNat)) else .bad) = _
  rw [if_pos (by decide)]
  rfl
theorem shaped_int (i : Int) : SeqAt.shaped (.int i) = true := by simp [SeqAt.shaped, PyData.canLay0, PyData.depth]
theorem hEq_i (i j : Int) : hEq (.int i) (.int j) = .ok (.bool (i == j)) := by unfold hEq; rw [shaped_int, shaped_int]; simp [PyData.eqv]
theorem hNe_i (i j : Int) : hNe (.int i) (.int j) = .ok (.bool (!(i == j))) := by unfold hNe; rw [shaped_int, shaped_int]; simp [PyData.eqv]
theorem hLen_l (xs : List Dt) : hLen [.list xs] = .ok (.int xs.length) := rfl
theorem hLen_t (xs : List Dt) : hLen [.tuple xs] = .ok (.int xs.length) := rfl
theorem hMin2_i (i j : Int) : hMin2 [.int i, .int j] = .ok (.int (if j < i then j else i)) := rfl
theorem hMax2_i (i j : Int) : hMax2 [.int i, .int j] = .ok (.int (if j > i then j else i)) := rfl
theorem hMin3_i (i j k : Int) : hMin3 [.int i, .int j, .int k] = .ok (.int (if j < i then (if k < j then k else j) else (if k < i then k else i))) := rfl
theorem hInt1_b (k : Bool) : hInt1 [.bool k] = .ok (.int (if k then 1 else 0)) := rfl
theorem hInt1_i (k : Int) : hInt1 [.int k] = .ok (.int k) := rfl
theorem hBits_i (i : Int) : hBits (.int i) = .ok (.int (Builtin.Int.intBits i : Nat)) := rfl
theorem hListOf_l (xs : List Dt) : one hListOf [.list xs] = .ok (.list xs) := rfl
theorem hListOf_t (xs : List Dt) : one hListOf [.tuple xs] = .ok (.list xs) := rfl
theorem hTupOf_l (xs : List Dt) : one hTupOf [.list xs] = .ok (.tuple xs) := rfl
theorem hTupOf_t (xs : List Dt) : one hTupOf [.tuple xs] = .ok (.tuple xs) := rfl
theorem seq_nx {a b : Gs} {ρ ρ' : List Dt} (h : a ρ = .ok (.nx ρ')) : gSeqS a b ρ = b ρ' := by unfold gSeqS; rw [h]
theorem seq_rt {a b : Gs} {ρ : List Dt} {d : Dt} (h : a ρ = .ok (.rt d)) : gSeqS a b ρ = .ok (.rt d) := by unfold gSeqS; rw [h]
theorem set_ok {i : Nat} {g : Gd} {ρ : List Dt} {d : Dt} (h : g ρ = .ok d) : gSet i g ρ = .ok (.nx (ρ.set i d)) := by unfold gSet; rw [h]; rfl
theorem ret_ok {g : Gd} {ρ : List Dt} {d : Dt} (h : g ρ = .ok d) : gRet g ρ = .ok (.rt d) := by unfold gRet; rw [h]; rfl
theorem if_t {t : List Dt → O Bool} {a b : Gs} {ρ : List Dt} (h : t ρ = .ok true) : gIfS t a b ρ = a ρ := by unfold gIfS; rw [h]; rfl
theorem if_f {t : List Dt → O Bool} {a b : Gs} {ρ : List Dt} (h : t ρ = .ok false) : gIfS t a b ρ = b ρ := by unfold gIfS; rw [h]; rfl
theorem gSeqS_def (a b : Gs) (ρ : List Dt) : gSeqS a b ρ = match a ρ with | .ok (.nx ρ') => b ρ' | o => o := rfl
theorem gSet_def (i : Nat) (g : Gd) (ρ : List Dt) : gSet i g ρ = bnd (g ρ) fun d => .ok (.nx (ρ.set i d)) := rfl
theorem gRet_def (g : Gd) (ρ : List Dt) : gRet g ρ = bnd (g ρ) fun d => .ok (.rt d) := rfl
theorem gIfS_def (t : List Dt → O Bool) (a b : Gs) (ρ : List Dt) : gIfS t a b ρ = bnd (t ρ) fun c => if c then a ρ else b ρ := rfl
theorem gNext_def (ρ : List Dt) : gNext ρ = .ok (.nx ρ) := rfl
theorem gApp_l {i : Nat} {g : Gd} {ρ : List Dt} {ds : List Dt} {d : Dt} (h1 : ρ[i]? = some (.list ds)) (h2 : g ρ = .ok d) (h3 : ds.length < 100000) : gApp i g ρ = .ok (.nx (ρ.set i (.list (ds ++ [d])))) := by
  unfold gApp
  rw [h1]
  simp only [h2, bnd_ok]
  rw [if_pos h3]
theorem callN_ok {n : Nat} {g : List Dt → O Dt} {gA : List Dt → O (List Dt)} {ρ ds : List Dt} {d : Dt} (h1 : gA ρ = .ok ds) (h2 : ds.length = n) (h3 : g ds = .ok d) : gCallN n g gA ρ = .ok d := by
  unfold gCallN
  rw [h1, bnd_ok, if_pos h2, h3]
theorem asg_ok {g : Gd} {h : Dt → List Dt → O (List Dt)} {ρ ρ' : List Dt} {d : Dt} (h1 : g ρ = .ok d) (h2 : h d ρ = .ok ρ') : gAsg g h ρ = .ok (.nx ρ') := by
  unfold gAsg
  rw [h1, bnd_ok, h2]
theorem fnN_rt {m : Nat} {g : Gs} {ds : List Dt} {d : Dt} (h : g (ds ++ List.replicate (m - ds.length) .none) = .ok (.rt d)) : fnN m g ds = .ok d := by unfold fnN; rw [h]
theorem fnL_rt {m : Nat} {g : Gs} {ds : List Dt} {d : Dt} (h : g (ds ++ List.replicate (m - ds.length) .none) = .ok (.rt d)) : fnL m g ds = .ok d := by unfold fnL; rw [h]
theorem lcE_map {α : Type} (enc : α → Dt) (p : α → Bool) (q : α → Dt) {h : Dt → List Dt → O (List Dt)} {gt : List Dt → O Bool} {ge : Gd} {ρ : List Dt} : ∀ (xs : List α), (∀ x ∈ xs, ∃ ρ', h (enc x) ρ = .ok ρ' ∧ gt ρ' = .ok (p x) ∧ (p x = true → ge ρ' = .ok (q x))) →
    lcE h gt ge ρ (xs.map enc) = .ok ((xs.filter p).map q)
  | [], _ => rfl
  | x :: xs, H => by
    obtain ⟨ρ', h1, h2, h3⟩ := H x List.mem_cons_self
    have ih := lcE_map enc p q xs fun y hy => H y (List.mem_cons_of_mem _ hy)
    rw [List.map_cons]
    unfold lcE
    rw [h1, bnd_ok, h2, bnd_ok]
    cases hp : p x with
    | true => rw [if_pos rfl, h3 hp, bnd_ok, ih, bnd_ok, List.filter_cons_of_pos hp, List.map_cons]
    | false => rw [if_neg Bool.false_ne_true, ih, List.filter_cons_of_neg (by rw [hp]; exact Bool.false_ne_true)]
theorem gLc_map {α : Type} (enc : α → Dt) (p : α → Bool) (q : α → Dt) {gi : List Dt → O (List Dt)} {h : Dt → List Dt → O (List Dt)} {gt : List Dt → O Bool} {ge : Gd} {ρ : List Dt} {xs : List α} (h1 : gi ρ = .ok (xs.map enc)) (h2 : xs.length ≤ 100000)
    (H : ∀ x ∈ xs, ∃ ρ', h (enc x) ρ = .ok ρ' ∧ gt ρ' = .ok (p x) ∧ (p x = true → ge ρ' = .ok (q x))) : gLc gi h gt ge ρ = .ok (.list ((xs.filter p).map q)) := by
  unfold gLc
  rw [h1, bnd_ok, if_pos (by rw [List.length_map]; exact h2), lcE_map enc p q xs H]
theorem forE_ix {α : Type} (enc : α → Dt) {h : Dt → List Dt → O (List Dt)} {b : Gs} (xs : List α) (I : Nat → List Dt → Prop) {ρ : List Dt} (h0 : I 0 ρ)
    (H : ∀ i ρ (hi : i < xs.length), I i ρ → ∃ ρ1 ρ2, h (enc xs[i]) ρ = .ok ρ1 ∧ (b ρ1 = .ok (.nx ρ2) ∨ b ρ1 = .ok (.ct ρ2)) ∧ I (i + 1) ρ2) :
    ∃ ρ', forE h b (xs.map enc) ρ = .ok (.nx ρ') ∧ I xs.length ρ' := by
  have key : ∀ n i ρ, i + n = xs.length → I i ρ → ∃ ρ', forE h b ((xs.drop i).map enc) ρ = .ok (.nx ρ') ∧ I xs.length ρ' := by
    intro n
    induction n with
    | zero =>
      intro i ρ e hi
      have e : i = xs.length := by omega
      subst e
      rw [List.drop_length]
      exact ⟨ρ, rfl, hi⟩
    | succ n ih =>
      intro i ρ e hi
      have hlt : i < xs.length := by omega
      obtain ⟨ρ1, ρ2, h1, h2, h3⟩ := H i ρ hlt hi
      obtain ⟨ρ', q1, q2⟩ := ih (i + 1) ρ2 (by omega) h3
      refine ⟨ρ', ?_, q2⟩
      rw [List.drop_eq_getElem_cons hlt, List.map_cons]
      unfold forE
      rw [h1]
      simp only
      rcases h2 with h2 | h2
      · rw [h2, bnd_ok]; exact q1
      · rw [h2, bnd_ok]; exact q1
  have := key xs.length 0 ρ (by omega) h0
  rwa [List.drop_zero] at this
theorem for_ok {gi : List Dt → O (List Dt)} {h : Dt → List Dt → O (List Dt)} {b : Gs} {ρ : List Dt} {ds : List Dt} {z : O Fl} (h1 : gi ρ = .ok ds) (h2 : forE h b ds ρ = z) : gFor gi h b ρ = z := by unfold gFor; rw [h1, bnd_ok, h2]
theorem while_f {t : List Dt → O Bool} {b : Gs} {n : Nat} {ρ : List Dt} (h : t ρ = .ok false) (hn : n ≠ 0 := by decide) : gWhile t b n ρ = .ok (.nx ρ) := by
  cases n with
  | zero => exact absurd rfl hn
  | succ n => unfold gWhile; rw [h]; rfl
theorem while_t {t : List Dt → O Bool} {b : Gs} {n : Nat} {ρ ρ' : List Dt} (h : t ρ = .ok true) (h2 : b ρ = .ok (.nx ρ')) : gWhile t b (n + 1) ρ = gWhile t b n ρ' := by
  conv => lhs; unfold gWhile
  simp only [h, bnd_ok, if_true, h2]
theorem rng1_ok {g : List Dt → O (List Dt)} {ρ : List Dt} {j : Int} (h : g ρ = .ok [.int j]) (h1 : -4611686018427387904 ≤ j) (h2 : j < 4611686018427387904) : gRng1 g ρ = .ok (rangeD 0 j) := by
  unfold gRng1
  rw [h, bnd_ok]
  unfold rng1
  simp only
  rw [if_pos (by constructor <;> omega)]
theorem rng2_ok {g : List Dt → O (List Dt)} {ρ : List Dt} {i j : Int} (h : g ρ = .ok [.int i, .int j]) (h1 : -4611686018427387904 ≤ j) (h2 : j < 4611686018427387904) (h3 : -4611686018427387904 ≤ i) (h4 : i < 4611686018427387904) : gRng2 g ρ = .ok (rangeD i j) := by
  unfold gRng2
  rw [h, bnd_ok]
  unfold rng2
  simp only
  rw [if_pos (by refine ⟨?_, ?_, ?_, ?_⟩ <;> omega)]
theorem rangeD_nat (n : Nat) : rangeD 0 (n : Int) = (List.range n).map fun (i : Nat) => PyData.int (i : Int) := by
  unfold rangeD
  rw [Int.sub_zero, Int.toNat_natCast]
  apply List.map_congr_left
  intro i _
  rw [Int.zero_add]
theorem seqG_l {g : Gd} {ρ : List Dt} {ds : List Dt} (h : g ρ = .ok (.list ds)) : gSeq g ρ = .ok ds := by unfold gSeq; rw [h]; rfl
theorem allI_map : ∀ xs : List Int, allI (xs.map .int) = some xs
  | [] => rfl
  | x :: xs => by rw [List.map_cons]; unfold allI; rw [allI_map xs]; rfl
theorem allB_map : ∀ xs : List Bool, allB (xs.map .bool) = some xs
  | [] => rfl
  | x :: xs => by rw [List.map_cons]; unfold allB; rw [allB_map xs]; rfl
theorem canLay_ints : ∀ xs : List Int, PyData.canLayAll0 (xs.map .int) = true
  | [] => by simp [PyData.canLayAll0]
  | x :: xs => by simp [PyData.canLayAll0, PyData.canLay0, canLay_ints xs]
theorem depth_ints : ∀ xs : List Int, PyData.depthAll (xs.map .int) = 0
  | [] => by simp [PyData.depthAll]
  | x :: xs => by simp [PyData.depthAll, PyData.depth, depth_ints xs]
theorem shaped_ints (xs : List Int) : SeqAt.shaped (.list (xs.map .int)) = true := by simp [SeqAt.shaped, PyData.canLay0, PyData.depth, canLay_ints, depth_ints]
theorem any_ints (i : Int) : ∀ xs : List Int, ((xs.map PyData.int).any fun z => PyData.eqv z (.int i)) = decide (i ∈ xs)
  | [] => by simp
  | x :: xs => by
    rw [List.map_cons, List.any_cons, any_ints i xs]
    simp only [PyData.eqv, List.mem_cons]
    by_cases h : x = i
    · subst h; simp
    · have h' : ¬ i = x := fun e => h e.symm
      simp [h, h']
theorem hNotIn_ints (i : Int) (xs : List Int) : hNotIn (.int i) (.list (xs.map .int)) = .ok (.bool (!decide (i ∈ xs))) := by
  unfold hNotIn; simp only [shaped_int, shaped_ints, Bool.and_self, if_true, any_ints]
theorem atI_map {α β : Type} (f : α → β) {xs : List α} {i : Int} (h0 : 0 ≤ i) (h1 : i < xs.length) : L2.atI (xs.map f) i = some (f (xs[i.toNat]'(by omega))) := by
  obtain ⟨j, rfl⟩ : ∃ j : Nat, i = j := ⟨i.toNat, by omega⟩
  have hj : j < xs.length := by omega
  refine L2.atI_nat ?_
  rw [List.getElem?_map, List.getElem?_eq_getElem hj]
  rfl
theorem hIx_l {ds : List Dt} {i : Int} {z : Dt} (h : L2.atI ds i = some z) : hIx (.list ds) (.int i) = .ok z := by unfold hIx; simp only [h]
theorem hIx_ints {xs : List Int} {i : Int} (h0 : 0 ≤ i) (h1 : i < xs.length) : hIx (.list (xs.map .int)) (.int i) = .ok (.int (xs[i.toNat]'(by omega))) := hIx_l (atI_map _ h0 h1)
theorem sIx_none (n d : Nat) : HT.sIx n d none = d := rfl
theorem cutD_from {α : Type} (f : α → Dt) (xs : List α) (k : Nat) : cutD (xs.map f) (some (k : Int)) none = (xs.drop k).map f := by
  unfold cutD
  rw [HT.sIx_nat, sIx_none, List.length_map]
  rcases Nat.lt_or_ge k xs.length with h | h
  · rw [Nat.min_eq_left (Nat.le_of_lt h), ← List.map_drop, List.take_of_length_le (by rw [List.length_map, List.length_drop]; omega)]
  · rw [Nat.min_eq_right h, List.drop_of_length_le (by rw [List.length_map]; omega), List.drop_of_length_le h]
    simp
theorem cutD_to {α : Type} (f : α → Dt) (xs : List α) (k : Nat) : cutD (xs.map f) none (some (k : Int)) = (xs.take k).map f := by
  unfold cutD
  rw [HT.sIx_nat, sIx_none, List.length_map, List.drop_zero, Nat.sub_zero, ← List.map_take]
  rcases Nat.lt_or_ge k xs.length with h | h
  · rw [Nat.min_eq_left (Nat.le_of_lt h)]
  · rw [Nat.min_eq_right h, List.take_of_length_le (Nat.le_refl _), List.take_of_length_le h]
theorem hSl_from {α : Type} (f : α → Dt) (xs : List α) (k : Nat) : hSl (.list (xs.map f)) (some (k : Int)) none = .ok (.list ((xs.drop k).map f)) := by unfold hSl; rw [← cutD_from]
theorem hSl_to {α : Type} (f : α → Dt) (xs : List α) (k : Nat) : hSl (.list (xs.map f)) none (some (k : Int)) = .ok (.list ((xs.take k).map f)) := by unfold hSl; rw [← cutD_to]
theorem hCat_l {xs ys : List Dt} (h : xs.length + ys.length ≤ 100000) : hCat (.list xs) (.list ys) = .ok (.list (xs ++ ys)) := by unfold hCat; simp only [h, if_true]
theorem hCat_map {α : Type} (f : α → Dt) (xs ys : List α) (h : xs.length + ys.length ≤ 100000) : hCat (.list (xs.map f)) (.list (ys.map f)) = .ok (.list ((xs ++ ys).map f)) := by
  rw [hCat_l (by rw [List.length_map, List.length_map]; exact h), List.map_append]
theorem seq_step {a b : Gs} {ρ ρ' : List Dt} {z : O Fl} (h : a ρ = .ok (.nx ρ')) (k : b ρ' = z) : gSeqS a b ρ = z := by rw [seq_nx h]; exact k
theorem gSl_def (h : Dt → Option Int → Option Int → O Dt) (g : Gd) (gl gh : List Dt → O (Option Int)) (ρ : List Dt) : gSl h g gl gh ρ = bnd (g ρ) fun d => bnd (gl ρ) fun lo => bnd (gh ρ) fun hi => h d lo hi := rfl
theorem gNoPart_def (ρ : List Dt) : gNoPart ρ = .ok none := rfl
theorem gPart_def (g : Gd) (ρ : List Dt) : gPart g ρ = bnd (g ρ) fun d => match d with | .int i => .ok (some i) | _ => .bad := rfl
theorem hSl_from' {α : Type} (f : α → Dt) (xs : List α) {k : Int} (h : 0 ≤ k) : hSl (.list (xs.map f)) (some k) none = .ok (.list ((xs.drop k.toNat).map f)) := by
  have := hSl_from f xs k.toNat
  rwa [show ((k.toNat : Nat) : Int) = k by omega] at this
theorem hSl_to' {α : Type} (f : α → Dt) (xs : List α) {k : Int} (h : 0 ≤ k) : hSl (.list (xs.map f)) none (some k) = .ok (.list ((xs.take k.toNat).map f)) := by
  have := hSl_to f xs k.toNat
  rwa [show ((k.toNat : Nat) : Int) = k by omega] at this
def pl (n : Int) : List Int := (List.range n.toNat).map fun (i : Nat) => (i : Int)
theorem pl_len (n : Int) : (pl n).length = n.toNat := by unfold pl; rw [List.length_map, List.length_range]
theorem map_snoc (xs : List Int) (z : Int) : xs.map PyData.int ++ [PyData.int z] = (xs ++ [z]).map PyData.int := by rw [List.map_append]; rfl
end Sim
end T_SimP
section T_SimI
set_option Elab.async false
set_option linter.all false
set_option maxRecDepth 100000
namespace Sim
open PySem PySem.Spec L2
open PyProof.Rows hiding St
section
variable {prog : Program} {w : World} {A : Around} {E : Value → Shared → Prop} {s : Shared}
end
section
variable {X : Cx}
end
inductive Ty5 where
  | int | bool | str | list | tuple
def Ty5.nm : Ty5 → String
  | .int => "int"
  | .bool => "bool"
  | .str => "str"
  | .list => "list"
  | .tuple => "tuple"
def isaB (T : Ty5) : Dt → Option Bool
  | .none => some false
  | .bool _ => some (match T with | .bool => true | .int => true | _ => false)
  | .int _ => some (match T with | .int => true | _ => false)
  | .str _ => some (match T with | .str => true | _ => false)
  | .list _ => some (match T with | .list => true | _ => false)
  | .tuple _ => some (match T with | .tuple => true | _ => false)
  | .dict es => if exnL es then none else some false
def hIsa (T : Ty5) : Dt → O Dt := fun d => match isaB T d with
  | some b => .ok (.bool b)
  | none => .bad
section
variable {K : PySem.W.Frag} {W : Wt} {Δ : List Kd} {te : TE} {g : Gd} {av fr : Bool} {T : Ty5}
theorem kit_non : PySem.W.kitOne K (.type "NoneType") (.type T.nm) = some false := by cases T <;> exact kit_ty (by decide +kernel)
theorem kit_bl : PySem.W.kitOne K (.type "bool") (.type T.nm) = some (match T with | .bool => true | .int => true | _ => false) := by cases T <;> exact kit_ty (by decide +kernel)
theorem kit_int : PySem.W.kitOne K (.type "int") (.type T.nm) = some (match T with | .int => true | _ => false) := by cases T <;> exact kit_ty (by decide +kernel)
theorem kit_str : PySem.W.kitOne K (.type "str") (.type T.nm) = some (match T with | .str => true | _ => false) := by cases T <;> exact kit_ty (by decide +kernel)
theorem kit_list : PySem.W.kitOne K (.type "list") (.type T.nm) = some (match T with | .list => true | _ => false) := by cases T <;> exact kit_ty (by decide +kernel)
theorem kit_dict : PySem.W.kitOne K (.type "dict") (.type T.nm) = some false := by cases T <;> exact kit_ty (by decide +kernel)
theorem kit_tuple : PySem.W.kitOne K (.type "tuple") (.type T.nm) = some (match T with | .tuple => true | _ => false) := by cases T <;> exact kit_ty (by decide +kernel)
theorem rp_isa {F : Addr → Prop} {H : Hp} {v : V} {d : Dt} {b : Bool} (h : Rp K F H v d) (e : isaB T d = some b) : ∃ t, TyX K H v t ∧ PySem.W.kitOne K t (.type T.nm) = some b := by
  cases h with
  | non => cases e; exact ⟨_, .base .non, kit_non⟩
  | bl x => cases e; exact ⟨_, .base (.bl x), kit_bl⟩
  | int x => cases e; exact ⟨_, .base (.int x), kit_int⟩
  | str x => cases e; exact ⟨_, .base (.str x), kit_str⟩
  | lst hp _ _ => cases e; exact ⟨_, .base (.lst hp), kit_list⟩
  | fz hp _ => cases e
  | tup hp _ =>
    cases e
    rcases hp with (hp | ⟨o, hp⟩) | ⟨o, its, n, hp, hc, _⟩
    · exact ⟨_, .base (.tup hp), kit_tuple⟩
    · exact ⟨_, .fTuple hp, kit_tuple⟩
    · exact ⟨_, .kTuple hp hc, kit_tuple⟩
  | @dic _ _ es hp _ _ _ =>
    have e : (if exnL es = true then none else some false) = some b := e
    cases hx : exnL es with
    | true => rw [hx] at e; cases e
    | false => rw [hx] at e; cases e; exact ⟨_, .base (.dK hp), kit_dict⟩
  | exn _ _ _ => cases e
theorem se_isa (ha : SE K W Δ te (.v av fr) g) : SE K W Δ (tCB (rIsi K) (tCons te (tCons (tC (.ty T.nm)) tNil))) (.v true true) (gUn (hIsa T) g) := fun f ρ σ H Q R q => by
  refine ha f ρ σ H _ R ?_
  unfold gUn at q
  cases e1 : g ρ with
  | bad => rw [e1] at q; exact q
  | ex z => rw [e1] at q; exact q
  | ok d =>
    rw [e1, bnd_ok] at q
    intro v H1 s1 x1
    unfold hIsa at q
    cases e2 : isaB T d with
    | none => rw [e2] at q; exact q.elim
    | some b =>
      rw [e2] at q
      obtain ⟨t, h1, h2⟩ := rp_isa x1 e2
      exact ⟨v, .ty T.nm, t, .type T.nm, b, rfl, .ty _, h1, h2, q _ H1 s1 (.bl b)⟩
end
section
variable {X : Cx} {K : PySem.W.Frag} {W : Wt} {Δ Δn Δb Δc : List Kd} {a b e : Expr} {es : List Expr} {ta tb te : TE} {tA : TA} {g ga : Gd} {gA : List Dt → O (List Dt)} {av fr : Bool} {L : Lk} {pos : Pos} {st : Stmt}
theorem x_isa (T : Ty5) {x : Str} {p p2 : Pos} (hm : X.mg "isinstance" = none) (hm2 : X.mg x = none) (h : PD X K W Δ e te (.v av fr) g) (hv : bootBuiltins x = some (.type T.nm) := by decide +kernel) (hg2 : Gl X x := by rfl) (hn : x ≠ "__name__" := by decide) (hdb : (x == ("__debug__" : Str)) = false := by decide)
    (hg : Gl X "isinstance" := by rfl)
    (he : starEach [e, .Name x p2] X.env = (false, eval e X.env) :: starEach [.Name x p2] X.env := by rfl) (he2 : starEach [.Name x p2] X.env = (false, eval (.Name x p2) X.env) :: starEach [] X.env := by rfl) (hpl : (backTo pos (starEach [.Name x p2] X.env)).any (·.1) = false := by rfl) :
    PD X K W Δ (.Call (.Name "isinstance" p) [e, .Name x p2] [] pos) (tCB (rIsi K) (tCons te (tCons (tC (.ty T.nm)) tNil))) (.v true true) (gUn (hIsa T) g) :=
  ⟨pe_callB (by have q := call_isi (X := X); rw [h.hK] at q; exact q) hg hm (by decide +kernel) (pa_cons h.pe (pa_cons (pe_bltn hg2 hm2 hv rfl hn hdb) pa_nil he2) he) (by decide) (by decide) he hpl, h.hK, se_isa h.se⟩
end
section
variable {K : PySem.W.Frag} {W : Wt} {Δ : List Kd}
end
theorem gChain_def (h h' : Dt → Dt → O Dt) (ga gb gc : Gd) (ρ : List Dt) : gChain h h' ga gb gc ρ = bnd (ga ρ) fun x => bnd (gb ρ) fun y => bnd (h x y) fun z => bnd (asB z) fun c => if c then bnd (gc ρ) fun w => h' y w else .ok (.bool false) := rfl
theorem hIsa_int (i : Int) : hIsa .int (.int i) = .ok (.bool true) := rfl
theorem hIsa_intb (i : Int) : hIsa .bool (.int i) = .ok (.bool false) := rfl
theorem hIsa_list (x : List Dt) : hIsa .list (.list x) = .ok (.bool true) := rfl
theorem hIsa_tuple (x : List Dt) : hIsa .tuple (.tuple x) = .ok (.bool true) := rfl
theorem gDrop_def (g : Gd) (ρ : List Dt) : gDrop g ρ = bnd (g ρ) fun _ => .ok (.nx ρ) := rfl
theorem hAll_b (xs : List Bool) : hAll [.list (xs.map .bool)] = .ok (.bool (xs.all id)) := by
  unfold hAll
  simp only [allB_map]
end Sim
end T_SimI
section T_SimJ
set_option Elab.async false
set_option linter.all false
set_option maxRecDepth 100000
namespace Sim
open PySem PySem.Spec L2
open PyProof.Rows hiding St
def isK : Key → Dt → Bool
  | .inl i, .int j => decide (j = i)
  | .inr x, .str y => decide (y = x)
  | _, _ => false
def dGet (es : List (Dt × Dt)) (k : Key) : Option Dt := (es.find? fun e => isK k e.1).map (·.2)
def dPut (es : List (Dt × Dt)) (k : Key) (v : Dt) : List (Dt × Dt) := if (es.any fun e => isK k e.1) = true then es.map (fun e => if isK k e.1 = true then (e.1, v) else e) else es ++ [(keyD k, v)]
def dDrop (es : List (Dt × Dt)) (k : Key) : List (Dt × Dt) := es.filter fun e => !isK k e.1
section
variable {K : PySem.W.Frag} {F F' : Addr → Prop} {H H' : Hp}
theorem isK_keyD (k k' : Key) : isK k (keyD k') = decide (k' = k) := by
  cases k <;> cases k' <;> simp [isK, keyD]
theorem KvA.length : ∀ {kvs : List (Key × V)} {es : List (Dt × Dt)}, KvA K F H kvs es → kvs.length = es.length
  | _, _, .nil => rfl
  | _, _, .cons _ r => by rw [List.length_cons, List.length_cons, r.length]
theorem KvA.get (k : Key) : ∀ {kvs : List (Key × V)} {es : List (Dt × Dt)}, KvA K F H kvs es → (valV kvs k = none ∧ dGet es k = none) ∨ ∃ v d, valV kvs k = some v ∧ dGet es k = some d ∧ Rp K F H v d
  | _, _, .nil => .inl ⟨rfl, rfl⟩
  | _, _, .cons (k := k') (v := v) (d := d) (kvs := kvs) (es := es) h r => by
    by_cases c : k' = k
    · refine .inr ⟨v, d, valV_pos c, ?_, h⟩
      unfold dGet
      rw [List.find?_cons_of_pos (by rw [isK_keyD]; simpa using c)]
      rfl
    · rw [valV_neg c]
      have e : dGet ((keyD k', d) :: es) k = dGet es k := by
        unfold dGet
        rw [List.find?_cons_of_neg (by rw [isK_keyD]; simpa using c)]
      rw [e]
      exact r.get k
theorem KvA.any (k : Key) : ∀ {kvs : List (Key × V)} {es : List (Dt × Dt)}, KvA K F H kvs es → (kvs.any fun kv => decide (kv.1 = k)) = es.any fun e => isK k e.1
  | _, _, .nil => rfl
  | _, _, .cons h r => by rw [List.any_cons, List.any_cons, r.any k, isK_keyD]
theorem KvA.snoc {k : Key} {v : V} {d : Dt} (x : Rp K F H v d) : ∀ {kvs : List (Key × V)} {es : List (Dt × Dt)}, KvA K F H kvs es → KvA K F H (kvs ++ [(k, v)]) (es ++ [(keyD k, d)])
  | _, _, .nil => .cons x .nil
  | _, _, .cons h r => .cons h (r.snoc x)
theorem KvA.over {k : Key} {v : V} {d : Dt} (x : Rp K F H v d) : ∀ {kvs : List (Key × V)} {es : List (Dt × Dt)}, KvA K F H kvs es → KvA K F H (kvs.map fun kv => if kv.1 = k then (kv.1, v) else kv) (es.map fun e => if isK k e.1 = true then (e.1, d) else e)
  | _, _, .nil => .nil
  | _, _, .cons (k := k') h r => by
    rw [List.map_cons, List.map_cons, isK_keyD]
    by_cases c : k' = k
    · rw [if_pos c, if_pos (by simpa using c)]
      exact .cons x (r.over x)
    · rw [if_neg c, if_neg (by simpa using c)]
      exact .cons h (r.over x)
theorem KvA.put {k : Key} {v : V} {d : Dt} (x : Rp K F H v d) {kvs : List (Key × V)} {es : List (Dt × Dt)} (h : KvA K F H kvs es) : KvA K F H (putK kvs k v) (dPut es k d) := by
  unfold putK dPut
  rw [h.any k]
  split
  · exact h.over x
  · exact h.snoc x
theorem KvA.drop (k : Key) : ∀ {kvs : List (Key × V)} {es : List (Dt × Dt)}, KvA K F H kvs es → KvA K F H (dropK kvs k) (dDrop es k)
  | _, _, .nil => .nil
  | _, _, .cons (k := k') h r => by
    unfold dropK dDrop
    rw [List.filter_cons, List.filter_cons, isK_keyD]
    by_cases c : k' = k
    · rw [if_neg (by simpa using c), if_neg (by simpa using c)]
      exact r.drop k
    · rw [if_pos (by simpa using c), if_pos (by simpa using c)]
      exact .cons h (r.drop k)
end
def gDNew : Gd := fun _ => .ok (.dict [])
def dAt (ρ : List Dt) (i : Nat) : Option (List (Dt × Dt)) := match ρ[i]? with
  | some (.dict es) => some es
  | _ => none
theorem dAt_inv {ρ : List Dt} {i : Nat} {es : List (Dt × Dt)} (h : dAt ρ i = some es) : ρ[i]? = some (.dict es) := by
  unfold dAt at h
  split at h
  · cases h; assumption
  · cases h
section
variable {K : PySem.W.Frag} {W : Wt} {Δ Δb Δc : List Kd} {te ti : TE} {g ge gk : Gd} {fr fr' av : Bool} {L : Lk} {i : Nat}
theorem se_dnew : SE K W Δ tDNewK (.new .dk true) gDNew := fun f ρ σ H Q r q => fun p np => q p _ np (same_upd np) ⟨[], [], rfl, upd_same, .nil⟩
end
section
variable {X : Cx} {K : PySem.W.Frag} {W : Wt} {Δ Δb Δc : List Kd} {a b e tg : Expr} {te ti : TE} {g ge gk : Gd} {fr fr' av av' : Bool} {L : Lk} {pos p pos' : Pos} {x : Str} {m : Nat}
theorem x_dnew (hK : X.K = K := by rfl) : PD X K W Δ (.Dict [] [] pos) tDNewK (.new .dk true) gDNew := ⟨pe_dnewK, hK, se_dnew⟩
def hRevL : Dt → O Dt := fun d => match d with
  | .list ds => .ok (.list ds.reverse)
  | _ => .bad
theorem se_revL (ha : SE K W Δ te (.v true fr) g) : SE K W Δ (tRevL K te) (.new .l fr) (gUn hRevL g) := fun f ρ σ H Q R q => by
  refine ha f ρ σ H _ R ?_
  unfold gUn at q
  cases e1 : g ρ with
  | bad => rw [e1] at q; exact q
  | ex z => rw [e1] at q; exact q
  | ok d =>
    rw [e1, bnd_ok] at q
    intro v H1 s1 x1
    cases d with
    | list es =>
      obtain ⟨c, xs, rfl, hs, r⟩ := x1.sql
      exact ⟨c, xs, rfl, hs, fun p np => q p _ (s1.free np) (s1.trans (same_upd np)) ⟨_, _, rfl, upd_same, r.reverse.mono (same_upd np) fun a y z => ⟨y, fun e => z (e ▸ np)⟩⟩⟩
    | _ => exact q.elim
theorem x_revL {k : Nat} {p1 p2 p3 : Pos} (h : PD X K W Δ e te (.v true fr) g) : PD X K W Δ (.Subscript e (.Slice none none (some (.UnaryOp .USub (.Constant (.int 1) k p1) p2)) p3) pos) (tRevL K te) (.new .l fr) (gUn hRevL g) := ⟨by have q := pe_revL (X := X) (k := k) (p1 := p1) (p2 := p2) (p3 := p3) (pos := pos) h.pe; rw [h.hK] at q; exact q, h.hK, se_revL h.se⟩
end
section
variable {X : Cx} {K : PySem.W.Frag} {W : Wt} {Δ : List Kd} {a : Expr} {ta te : TE} {g : Gd} {av fr : Bool} {p p2 q pos : Pos}
end
end Sim
end T_SimJ
section T_SimS
set_option Elab.async false
set_option linter.all false
set_option maxRecDepth 100000
namespace Sim
end Sim
namespace TS
open PySem PyProof.Rows Sim
section
variable {prog : Program} {w : World} {A : Around} {E : Value → Shared → Prop} {s : Shared} {Q : Bool → Shared → Prop}
end
section
variable {prog : Program} {w : World} {A : Around} {E : Value → Shared → Prop} {s : Shared}
end
end TS
end T_SimS
section T_SimT
set_option Elab.async false
set_option linter.all false
set_option maxRecDepth 100000
namespace L2
open PySem PySem.Spec PyProof.Rows Sim
section
variable {P : Program} {w : World} {A : Around} {E : Value → Shared → Prop} {s : Shared}
set_option maxHeartbeats 3200000 in
end
end L2
namespace Sim
open PySem PySem.Spec L2
open PyProof.Rows hiding St
section
variable {X : Cx}
variable {a : Expr} {ta te : TE} {p p2 q pos : Pos}
end
end Sim
end T_SimT
section T_SimU
set_option Elab.async false
set_option linter.all false
set_option maxRecDepth 100000
namespace Sim
open PySem PySem.Spec L2
open PyProof.Rows hiding St
def encL (ns : List Int) : Dt := .tuple (ns.map .int)
def dd {α : Type} [DecidableEq α] : List α → List α
  | [] => []
  | x :: xs => if x ∈ xs then dd xs else x :: dd xs
section
variable {K : PySem.W.Frag} {W : Wt} {Δ : List Kd}
variable {X : Cx} {a e : Expr} {es : List Expr} {te : TE} {tA : TA} {g : Gd} {gA : List Dt → O (List Dt)} {av fr : Bool} {p p2 q pos : Pos}
end
end Sim
end T_SimU
section T_SimV
set_option Elab.async false
set_option linter.all false
set_option maxRecDepth 100000
namespace Sim
open PySem PySem.Spec L2
open PyProof.Rows hiding St
section
variable {K : PySem.W.Frag} {W : Wt} {Δ : List Kd} {tk tv ti ta tb : TE} {gk gv ga gb g : Gd} {fr fr' av : Bool} {i : Nat}
end
section
variable {X : Cx} {a : Expr} {ta te : TE} {p p2 q pos : Pos}
end
section
variable {X : Cx} {K : PySem.W.Frag} {W : Wt} {Δ : List Kd} {a b e : Expr} {te ti tk tv ta tb : TE} {g gk gv ga gb : Gd} {fr fr' av : Bool} {pos p p2 q apos cpos : Pos} {x : Str} {m : Nat}
end
end Sim
end T_SimV
section T_SimW
set_option Elab.async false
set_option linter.all false
set_option maxRecDepth 100000
namespace L2
open PySem PySem.Spec PyProof.Rows
section
variable {X : Cx} {e : Expr} {te : TE} {k k' : Nat} {p1 p2 p3 pos : Pos}
end
end L2
namespace Sim
open PySem PySem.Spec L2
open PyProof.Rows hiding St
section
variable {K : PySem.W.Frag} {F : Addr → Prop} {H : Hp}
end
def isT (ns : List Int) (d : Dt) : Bool := match d with
  | .tuple xs => decide (allI xs = some ns)
  | _ => false
def tPut (es : List (Dt × Dt)) (ns : List Int) (v : Dt) : List (Dt × Dt) := if (es.any fun e => isT ns e.1) = true then es.map (fun e => if isT ns e.1 = true then (e.1, v) else e) else es ++ [(encL ns, v)]
theorem allI_int (i : Int) (ds : List Dt) : allI (.int i :: ds) = (allI ds).map fun ns => i :: ns := by
  conv => lhs; unfold allI
  first
  | done
  | (cases allI ds <;> rfl)
theorem allI_str (x : Str) (ds : List Dt) : allI (.str x :: ds) = none := rfl
theorem allI_keyD : ∀ {k : List Key} {ns : List Int}, allI (k.map keyD) = some ns ↔ k = ns.map Sum.inl
  | [], [] => by simp [allI]
  | [], _ :: _ => by simp [allI]
  | .inl i :: k, [] => by
    rw [List.map_cons]
    show allI (.int i :: k.map keyD) = some [] ↔ _
    rw [allI_int]
    cases allI (k.map keyD) <;> simp
  | .inl i :: k, n :: ns => by
    have ih := @allI_keyD k ns
    rw [List.map_cons]
    show allI (.int i :: k.map keyD) = some (n :: ns) ↔ _
    rw [allI_int, List.map_cons]
    constructor
    · intro z
      cases e : allI (k.map keyD) with
      | none => rw [e] at z; cases z
      | some ms =>
        rw [e] at z
        injection z with z
        injection z with z1 z2
        rw [z2] at e
        rw [ih.mp e, z1]
    · intro z
      injection z with z1 z2
      injection z1 with z1
      rw [ih.mpr z2, z1]
      rfl
  | .inr x :: k, ns => by
    rw [List.map_cons]
    show allI (.str x :: k.map keyD) = some ns ↔ _
    rw [allI_str]
    constructor
    · intro z; cases z
    · intro z
      cases ns with
      | nil => cases z
      | cons n ns => injection z with z1 z2; cases z1
theorem isT_keyD (ns : List Int) (k : List Key) : isT ns (.tuple (k.map keyD)) = decide (k = ns.map Sum.inl) := by
  show decide (allI (k.map keyD) = some ns) = _
  exact decide_eq_decide.mpr allI_keyD
section
variable {K : PySem.W.Frag} {F : Addr → Prop} {H : Hp}
theorem KtA.length : ∀ {kvs : List (List Key × V)} {es : List (Dt × Dt)}, KtA K F H kvs es → kvs.length = es.length
  | _, _, .nil => rfl
  | _, _, .cons _ r => by rw [List.length_cons, List.length_cons, r.length]
theorem KtA.any (ns : List Int) : ∀ {kvs : List (List Key × V)} {es : List (Dt × Dt)}, KtA K F H kvs es → (kvs.any fun kv => decide (kv.1 = ns.map Sum.inl)) = es.any fun e => isT ns e.1
  | _, _, .nil => rfl
  | _, _, .cons h r => by rw [List.any_cons, List.any_cons, r.any ns, isT_keyD]
theorem keyD_ints (ns : List Int) : (ns.map Sum.inl : List Key).map keyD = ns.map PyData.int := by rw [List.map_map]; rfl
theorem kV_ints (ns : List Int) : (ns.map Sum.inl : List Key).map kV = ns.map V.int := by rw [List.map_map]; rfl
theorem KtA.snoc {ns : List Int} {v : V} {d : Dt} (x : Rp K F H v d) : ∀ {kvs : List (List Key × V)} {es : List (Dt × Dt)}, KtA K F H kvs es → KtA K F H (kvs ++ [(ns.map Sum.inl, v)]) (es ++ [(encL ns, d)])
  | _, _, .nil => by
    have := KtA.cons (k := ns.map Sum.inl) x (KtA.nil (K := K) (F := F) (H := H))
    rw [keyD_ints] at this
    exact this
  | _, _, .cons h r => .cons h (r.snoc x)
theorem KtA.over {ns : List Int} {v : V} {d : Dt} (x : Rp K F H v d) : ∀ {kvs : List (List Key × V)} {es : List (Dt × Dt)}, KtA K F H kvs es → KtA K F H (kvs.map fun kv => if kv.1 = ns.map Sum.inl then (kv.1, v) else kv) (es.map fun e => if isT ns e.1 = true then (e.1, d) else e)
  | _, _, .nil => .nil
  | _, _, .cons (k := k') h r => by
    rw [List.map_cons, List.map_cons, isT_keyD]
    by_cases c : k' = ns.map Sum.inl
    · rw [if_pos c, if_pos (by simpa using c)]
      exact .cons x (r.over x)
    · rw [if_neg c, if_neg (by simpa using c)]
      exact .cons h (r.over x)
theorem KtA.put {ns : List Int} {v : V} {d : Dt} (x : Rp K F H v d) {kvs : List (List Key × V)} {es : List (Dt × Dt)} (h : KtA K F H kvs es) : KtA K F H (putK kvs (ns.map Sum.inl) v) (tPut es ns d) := by
  unfold putK tPut
  rw [h.any ns]
  split
  · exact h.over x
  · exact h.snoc x
theorem KtA.keys : ∀ {kvs : List (List Key × V)} {es : List (Dt × Dt)} {bs : List Addr}, KtA K F H kvs es → IsKeys H kvs bs → RpA K F H (bs.map V.ref) (es.map (·.1))
  | _, _, _, .nil, e => by cases e; exact .nil
  | _, _, _, .cons (k := k) h r, e => by
    cases e with
    | cons h1 h2 => exact .cons (.tup (.inl (.inl h1)) (rpA_keys k)) (r.keys h2)
where
  rpA_keys : ∀ k : List Key, RpA K F H (k.map kV) (k.map keyD)
    | [] => .nil
    | .inl i :: k => .cons (.int i) (rpA_keys k)
    | .inr x :: k => .cons (.str x) (rpA_keys k)
end
def gTPut (i : Nat) (gv : Gd) (gA : List Dt → O (List Dt)) : Gs := fun ρ => bnd (gv ρ) fun v => match dAt ρ i with
  | some es => bnd (gA ρ) fun ks => (match allI ks with
    | some ns => if es.length < 100000 ∧ ns.length ≤ 1000 then .ok (.nx (ρ.set i (.dict (tPut es ns v)))) else .bad
    | none => .bad)
  | none => .bad
def gTKeys (i : Nat) : Gd := fun ρ => match dAt ρ i with
  | some es => .ok (.list (es.map (·.1)))
  | none => .bad
section
variable {K : PySem.W.Frag} {W : Wt} {Δ Δb Δc : List Kd} {te : TE} {tA : TA} {ge g : Gd} {gA : List Dt → O (List Dt)} {fr fr' av fr2 : Bool} {L : Lk} {i : Nat}
theorem dt_own {f : Fm} {ρ : List Dt} {σ : L2.St} {H : Hp} {es : List (Dt × Dt)} (r : R K f Δ ρ σ H) (hk : Δ[i]? = some (.own .dt fr)) (h : dAt ρ i = some es) :
    ∃ p kvs, σ[i]? = some (some (V.ref p)) ∧ f.H0 p = none ∧ H p = some (.dT kvs) ∧ KtA K (FM f Δ σ true fr) H kvs es := by
  obtain ⟨p, d, g1, g2, g3, kvs, es', ed, g4, g5⟩ := r.ow i .dt fr hk
  rw [dAt_inv h] at g2
  cases g2
  cases ed
  exact ⟨p, kvs, g1, g3, g4, g5⟩
theorem se_dnewT : SE K W Δ tDNewT (.new .dt true) gDNew := fun f ρ σ H Q r q => fun p np => q p _ np (same_upd np) ⟨[], [], rfl, upd_same, .nil⟩
theorem s_tput (hk : Δ[i]? = some (.own .dt fr)) (h : SE K W Δ te (.v true fr') ge) (h2 : SA K W Δ tA av fr2 gA) : SS K W L Δ (Δ.set i (.own .dt (fr && fr'))) Δb Δc (sDPut (tVar i) (tTup tA) te) (gTPut i ge gA) := fun f ρ σ H E r q => h f ρ σ H _ r <| by
  unfold gTPut at q
  cases e : ge ρ with
  | bad => rw [e] at q; exact q
  | ex z => rw [e] at q; exact fun H' s => q σ H' (r.ext.trans s)
  | ok d =>
    rw [e, bnd_ok] at q
    cases ed : dAt ρ i with
    | none => rw [ed] at q; exact q.elim
    | some es =>
      rw [ed] at q
      simp only at q
      obtain ⟨p, kvs, g1, g3, g4, g5⟩ := dt_own r hk ed
      intro v H1 s x
      refine ⟨_, g1, h2 f ρ σ H1 _ (r.mono s) ?_⟩
      cases e2 : gA ρ with
      | bad => rw [e2] at q; exact q
      | ex z => rw [e2] at q; exact fun H' s2 => q σ H' ((r.ext.trans s).trans s2)
      | ok ks =>
        rw [e2, bnd_ok] at q
        intro vs H2 s2 xk
        cases ek : allI ks with
        | none => rw [ek] at q; exact q.elim
        | some ns =>
          rw [ek] at q
          simp only at q
          by_cases hl : es.length < 100000 ∧ ns.length ≤ 1000
          · rw [if_pos hl] at q
            rw [rp_ints xk ek]
            refine ⟨by rw [List.length_map]; exact Nat.le_trans hl.2 (by decide), fun b nb => ?_⟩
            have s3 : Same H2 (upd H2 b (.tup (ns.map V.int))) := same_upd nb
            have s13 := (s.trans s2).trans s3
            have hp := s13 _ _ g4
            have eb : (upd H2 b (.tup (ns.map V.int))) b = some (.tup ((ns.map Sum.inl : List Key).map kV)) := by rw [kV_ints]; exact upd_same
            refine ⟨p, _, rfl, DPut.t hp eb (by rw [g5.length]; exact Nat.lt_of_lt_of_le hl.1 (by decide)), q σ _ ?_⟩
            refine (r.mono s13).updOwn hk g1 (c' := .dt) (show Mutb (.dT _) from trivial) ⟨_, _, rfl, upd_same, ?_⟩
            have nf : ∀ {fr : Bool} (a : Addr), FM f Δ σ true fr a → a ≠ p := fun a fa z => (fa.1 rfl).1 (z ▸ ⟨i, .dt, _, hk, g1⟩)
            refine KtA.put ((Rp.updM hp trivial (fun a fa => nf a fa) ((x.same s2).same s3)).weak fun a y => y.weak id fun h => (Bool.and_eq_true_iff.mp h).2) ?_
            exact g5.map fun v d z => (Rp.updM hp trivial (fun a fa => nf a fa) (z.same s13)).weak fun a y => y.weak id fun h => (Bool.and_eq_true_iff.mp h).1
          · rw [if_neg hl] at q
            exact q.elim
theorem se_tkeys (hk : Δ[i]? = some (.own .dt fr)) : SE K W Δ (tCB (fun xs H Q => ∃ d kvs, xs = [V.ref d] ∧ Rd H d (.dT kvs) ∧ ∀ p bs, H p = none → IsKeys H kvs bs → Q (.ref p) (upd H p (.lst (bs.map V.ref)))) (tCons (tVar i) tNil)) (.new .l fr) (gTKeys i) := fun f ρ σ H Q r q => by
  unfold gTKeys at q
  cases ed : dAt ρ i with
  | none => rw [ed] at q; exact q.elim
  | some es =>
    rw [ed] at q
    obtain ⟨p, kvs, g1, g3, g4, g5⟩ := dt_own r hk ed
    refine ⟨_, g1, p, kvs, rfl, .inl g4, fun l bs nl hb => ?_⟩
    refine q l _ nl (same_upd nl) ⟨_, _, rfl, upd_same, ?_⟩
    exact (g5.keys hb).mono (same_upd nl) fun a y z => ⟨y, fun e => z (e ▸ nl)⟩
end
section
variable {X : Cx} {K : PySem.W.Frag} {W : Wt} {Δ Δb Δc : List Kd} {a b e : Expr} {es : List Expr} {te : TE} {tA : TA} {g ge : Gd} {gA : List Dt → O (List Dt)} {fr fr' fr2 av : Bool} {L : Lk} {pos pos' p p1 p2 p3 pT : Pos} {x : Str} {k k' m : Nat}
theorem x_dnewT (hK : X.K = K := by rfl) : PD X K W Δ (.Dict [] [] pos) tDNewT (.new .dt true) gDNew := ⟨pe_dnewT, hK, se_dnewT⟩
theorem z_tput (i : Nat) {x1} (hr : Room m X.A) (h : PD X K W Δ e te (.v true fr') ge) (h2 : AD X K W Δ es tA av fr2 gA) (hk : Δ[i]? = some (.own .dt fr) := by rfl) (hv : Vis X.env.scope x := by first | exact Or.inl rfl | exact Or.inr (Or.inl rfl) | exact Or.inr (Or.inr rfl)) (hN : X.N[i]? = some x := by rfl) (hd : (x == ("__debug__" : Str)) = false := by decide) (hcd : (x == ("__classdict__" : Str)) = false := by decide) (hs : swapsWith e (some (.Subscript (.Name x p) (.Tuple es x1 pT) pos')) pos.line X.env = pure false := by rfl) :
    SD X K W L Δ (Δ.set i (.own .dt (fr && fr'))) Δb Δc (.Assign [.Subscript (.Name x p) (.Tuple es x1 pT) pos'] e pos) (sDPut (tVar i) (tTup tA) te) (gTPut i ge gA) := ⟨ps_dput (by have := hr.un; omega) (pe_var hN hv hd hcd) (pe_tup h2.pa) h.pe hs, h.hK, s_tput hk h.se h2.sa⟩
theorem x_tkeys (i : Nat) (hm : X.mg "list" = none) (hk : Δ[i]? = some (.own .dt fr) := by rfl) (hc : X.calm = true := by rfl) (hK : X.K = K := by rfl) (hv : Vis X.env.scope x := by first | exact Or.inl rfl | exact Or.inr (Or.inl rfl) | exact Or.inr (Or.inr rfl)) (hN : X.N[i]? = some x := by rfl) (hd : (x == ("__debug__" : Str)) = false := by decide) (hcd : (x == ("__classdict__" : Str)) = false := by decide) (hg : Gl X "list" := by rfl)
    (he : starEach [.Name x p] X.env = (false, eval (.Name x p) X.env) :: starEach [] X.env := by rfl) (hpl : (backTo pos (starEach [] X.env)).any (·.1) = false := by rfl) :
    PD X K W Δ (.Call (.Name "list" p1) [.Name x p] [] pos) (tCB (fun xs H Q => ∃ d kvs, xs = [V.ref d] ∧ Rd H d (.dT kvs) ∧ ∀ p bs, H p = none → IsKeys H kvs bs → Q (.ref p) (upd H p (.lst (bs.map V.ref)))) (tCons (tVar i) tNil)) (.new .l fr) (gTKeys i) :=
  ⟨pe_callTy (call_list_dT hc) hg hm (by decide +kernel) (pa_cons (pe_var hN hv hd hcd) pa_nil he) (by decide) (by decide) he hpl, hK, se_tkeys hk⟩
end
end Sim
end T_SimW
section T_FamA
set_option linter.all false
namespace FamA
open PySem Sim
def g_l_mixed : Gs := gSeqS (gSet 2 (gOp hMod (gOp hMul (gOp hAdd (gOp hAdd (gOp hMod (gVar 0) (gC (.int (2147483629)))) (gOp hMul (gC (.int (7919))) (gVar 1))) (gC (.int (11)))) (gC (.int (48271)))) (gC (.int (2147483647))))) (gSeqS (gSet 2 (gOp hMod (gOp hAdd (gOp hMod (gOp hMul (gVar 2) (gVar 2)) (gC (.int (2147483629)))) (gOp hMul (gC (.int (104729))) (gVar 1))) (gC (.int (2147483629))))) (gRet (gOp hMod (gOp hMul (gVar 2) (gC (.int (39373)))) (gC (.int (2147483647))))))
def f_l_mixed : List Dt → O Dt := fnN 3 g_l_mixed
def g_l_numbers_L1 : Gs := gSeqS (gSet 6 (gOp hAdd (gOp hMul (gVar 6) (gC (.int (2147483647)))) (gCallN 2 f_l_mixed (gCons (gVar 0) (gCons (gOp hAdd (gOp hMul (gC (.int (8))) (gVar 5)) (gVar 7)) (gNil)))))) (gSet 7 (gOp hAdd (gVar 7) (gC (.int (1)))))
def g_l_numbers_T1 : List Dt → O Bool := gTest (gOp hLt (gOp hMul (gVar 7) (gC (.int (30)))) (gOp hAdd (gUn hBits (gVar 2)) (gC (.int (8)))))
def g_l_numbers_L2 : Gs := gSeqS (gSet 6 (gVar 4)) (gSeqS (gIfS (gTest (gOp hGt (gVar 4) (gC (.int (0))))) (gSet 4 (gOp hDiv (gVar 4) (gVar 2))) (gSeqS (gSet 6 (gC (.int (0)))) (gSeqS (gSet 7 (gC (.int (0)))) (gWhile g_l_numbers_T1 g_l_numbers_L1 100)))) (gApp 3 (gOp hMod (gVar 6) (gVar 2))))
def g_l_numbers : Gs := gSeqS (gSet 3 (gLst (gNil))) (gSeqS (gSet 4 (gOp hSub (gVar 0) (gOp hPow (gC (.int (10))) (gC (.int (18)))))) (gSeqS (gFor (gRng1 (gCons (gVar 1) (gNil))) (tgN 5) g_l_numbers_L2) (gRet (gVar 3))))
def f_l_numbers : List Dt → O Dt := fnL 8 g_l_numbers
def g_l_ends : Gs := gSeqS (gSet 4 (gOp hMod (gVar 2) (gVar 0))) (gSeqS (gIfS (gTest (gOp hEq (gVar 1) (gC (.int (0))))) (gRet (gTup (gCons (gVar 4) (gCons (gOp hMod (gVar 3) (gVar 0)) (gNil))))) (gNext)) (gSeqS (gIfS (gTest (gOp hEq (gVar 1) (gC (.int (1))))) (gRet (gTup (gCons (gOp hMod (gVar 2) (gCB hMin2 (gCons (gVar 0) (gCons (gC (.int (3))) (gNil))))) (gCons (gOp hMod (gVar 3) (gCB hMin2 (gCons (gVar 0) (gCons (gC (.int (2))) (gNil))))) (gNil))))) (gNext)) (gSeqS (gIfS (gTest (gOp hEq (gVar 1) (gC (.int (2))))) (gRet (gTup (gCons (gVar 4) (gCons (gOp hMod (gOp hAdd (gOp hAdd (gVar 4) (gC (.int (1)))) (gOp hDiv (gOp hMod (gVar 3) (gC (.int (5)))) (gC (.int (4))))) (gVar 0)) (gNil))))) (gNext)) (gRet (gTup (gCons (gVar 4) (gCons (gOp hMod (gOp hAdd (gVar 4) (gOp hMul (gC (.int (2))) (gOp hMod (gVar 3) (gVar 0)))) (gVar 0)) (gNil))))))))
def f_l_ends : List Dt → O Dt := fnN 5 g_l_ends
def g_l_record_L1 : Gs := gSeqS (gAsg (gCallN 4 f_l_ends (gCons (gVar 2) (gCons (gOp hMod (gOp hIx (gVar 0) (gC (.int (3)))) (gC (.int (4)))) (gCons (gOp hIx (gVar 0) (gOp hAdd (gC (.int (4))) (gOp hMul (gC (.int (3))) (gVar 7)))) (gCons (gOp hIx (gVar 0) (gOp hAdd (gC (.int (5))) (gOp hMul (gC (.int (3))) (gVar 7)))) (gNil)))))) (tgT (tgCons (tgN 8) (tgCons (tgN 9) (tgNil))))) (gSeqS (gApp 6 (gTup (gCons (gVar 5) (gCons (gCB hMin2 (gCons (gVar 8) (gCons (gVar 9) (gNil)))) (gCons (gCB hMax2 (gCons (gVar 8) (gCons (gVar 9) (gNil)))) (gNil)))))) (gSet 5 (gOp hAdd (gOp hAdd (gVar 5) (gC (.int (1)))) (gOp hMod (gOp hIx (gVar 0) (gOp hAdd (gC (.int (6))) (gOp hMul (gC (.int (3))) (gVar 7)))) (gVar 4)))))
def g_l_record : Gs := gSeqS (gSet 2 (gOp hAdd (gC (.int (1))) (gOp hMod (gOp hIx (gVar 0) (gC (.int (0)))) (gC (.int (6)))))) (gSeqS (gIfS (gTest (gOp hEq (gOp hMod (gOp hDiv (gOp hIx (gVar 0) (gC (.int (0)))) (gC (.int (6)))) (gC (.int (8)))) (gC (.int (1))))) (gSet 2 (gOp hAdd (gC (.int (7))) (gOp hMod (gOp hDiv (gOp hIx (gVar 0) (gC (.int (0)))) (gC (.int (48)))) (gC (.int (4)))))) (gNext)) (gSeqS (gSet 3 (gOp hMod (gOp hIx (gVar 0) (gC (.int (1)))) (gC (.int (13))))) (gSeqS (gIfS (gTest (gOp hEq (gOp hMod (gOp hDiv (gOp hIx (gVar 0) (gC (.int (1)))) (gC (.int (13)))) (gC (.int (8)))) (gC (.int (1))))) (gSet 3 (gOp hAdd (gC (.int (13))) (gOp hMod (gOp hDiv (gOp hIx (gVar 0) (gC (.int (1)))) (gC (.int (104)))) (gC (.int (48)))))) (gNext)) (gSeqS (gSet 4 (gOp hIx (gLst (gCons (gC (.int (1))) (gCons (gC (.int (4))) (gCons (gOp hPow (gC (.int (10))) (gC (.int (28)))) (gNil))))) (gOp hMod (gOp hIx (gVar 0) (gC (.int (2)))) (gC (.int (3)))))) (gSeqS (gSet 5 (gOp hIx (gLst (gCons (gC (.int (0))) (gCons (gOp hMod (gOp hDiv (gOp hIx (gVar 0) (gC (.int (2)))) (gC (.int (12)))) (gC (.int (100)))) (gCons (gOp hMod (gOp hIx (gVar 0) (gC (.int (3)))) (gOp hPow (gC (.int (10))) (gC (.int (29))))) (gNil))))) (gOp hMod (gOp hDiv (gOp hIx (gVar 0) (gC (.int (2)))) (gC (.int (3)))) (gC (.int (3)))))) (gSeqS (gSet 6 (gLst (gNil))) (gSeqS (gFor (gRng1 (gCons (gCB hMin3 (gCons (gVar 3) (gCons (gVar 1) (gCons (gOp hDiv (gOp hSub (gCB hLen (gCons (gVar 0) (gNil))) (gC (.int (4)))) (gC (.int (3)))) (gNil))))) (gNil))) (tgN 7) g_l_record_L1) (gRet (gTup (gCons (gVar 2) (gCons (gVar 6) (gNil))))))))))))
def f_l_record : List Dt → O Dt := fnN 10 g_l_record
end FamA
end T_FamA
section T_SimM
set_option Elab.async false
set_option linter.all false
set_option maxRecDepth 100000
namespace Sim
open PySem PySem.Spec L2
open PyProof.Rows hiding St
abbrev Gx := List Dt → O (Dt × List Dt)
def PoX (K : PySem.W.Frag) (f : Fm) (Δ : List Kd) (σ : L2.St) (k : Rk) (o : O (Dt × List Dt)) (Q : VK) : Prop := match o with
  | .ok (d, ρ') => (match k with
    | .v av fr => ∀ v H', R K f Δ ρ' σ H' → Rp K (FM f Δ σ av fr) H' v d → Q v H'
    | .new c fr => ∀ p H', R K (f.pn p) Δ ρ' σ H' → p ∉ f.P → f.H0 p = none → OwC K c (FM (f.pn p) Δ σ true fr) H' p d → Q (.ref p) H'
    | .o _ => False)
  | _ => False
def SX (K : PySem.W.Frag) (Δ : List Kd) (te : TE) (k : Rk) (g : Gx) : Prop := ∀ f ρ σ H Q, R K f Δ ρ σ H → PoX K f Δ σ k (g ρ) Q → te σ H Q
def PoXA (K : PySem.W.Frag) (f : Fm) (Δ : List Kd) (σ : L2.St) (av fr : Bool) (o : O (List Dt × List Dt)) (Q : List V → Hp → Prop) : Prop := match o with
  | .ok (ds, ρ') => ∀ vs H', R K f Δ ρ' σ H' → RpA K (FM f Δ σ av fr) H' vs ds → Q vs H'
  | _ => False
def SXA (K : PySem.W.Frag) (Δ : List Kd) (ta : TA) (av fr : Bool) (g : List Dt → O (List Dt × List Dt)) : Prop := ∀ f ρ σ H Q, R K f Δ ρ σ H → PoXA K f Δ σ av fr (g ρ) Q → ta σ H Q
def PoXT (K : PySem.W.Frag) (f : Fm) (Δ : List Kd) (σ : L2.St) (o : O (Bool × List Dt)) (Q : Bool → Hp → Prop) : Prop := match o with
  | .ok (b, ρ') => ∀ H', R K f Δ ρ' σ H' → Q b H'
  | _ => False
def SXT (K : PySem.W.Frag) (Δ : List Kd) (tt : TT) (g : List Dt → O (Bool × List Dt)) : Prop := ∀ f ρ σ H Q, R K f Δ ρ σ H → PoXT K f Δ σ (g ρ) Q → tt σ H Q
def xP (g : Gd) : Gx := fun ρ => bnd (g ρ) fun d => .ok (d, ρ)
def xPA (g : List Dt → O (List Dt)) : List Dt → O (List Dt × List Dt) := fun ρ => bnd (g ρ) fun d => .ok (d, ρ)
def xPT (g : List Dt → O Bool) : List Dt → O (Bool × List Dt) := fun ρ => bnd (g ρ) fun d => .ok (d, ρ)
def bx {α β : Type} (x : O α) (f : α → O β) : O β := match x with
  | .ok a => f a
  | _ => .bad
section
variable {K : PySem.W.Frag} {f : Fm} {Δ : List Kd} {ρ : List Dt} {σ : L2.St} {H H' : Hp} {p : Addr} {d : Dt} {i : Nat}
theorem R.dropP (r : R K (f.pn p) Δ ρ σ H) : R K f Δ ρ σ H := by
  have key : ∀ {fr : Bool} {v : V} {d : Dt}, Rp K (FM (f.pn p) Δ σ true fr) H v d → Rp K (FM f Δ σ true fr) H v d := fun h =>
    h.weak fun a fa => ⟨fun _ => ⟨(fa.1 rfl).1, fun z => (fa.1 rfl).2 (List.mem_cons_of_mem _ z)⟩, fa.2⟩
  refine ⟨r.ext, r.g0, r.lσ, r.lρ, r.inj, fun a ha => r.pin a (List.mem_cons_of_mem _ ha), fun g hg => (r.gh g hg).map fun _ _ x => key x, fun i fr h => ?_, fun i c fr h => ?_, r.ar, r.sp, r.sl⟩
  · obtain ⟨v, d, h1, h2, h3⟩ := r.im i fr h
    exact ⟨v, d, h1, h2, key h3⟩
  · obtain ⟨v, d, h1, h2, h3, h4⟩ := r.ow i c fr h
    exact ⟨v, d, h1, h2, h3, h4.map (fun o q => q) fun _ _ x => key x⟩
end
section
variable {K : PySem.W.Frag} {W : Wt} {Δ Δn Δb Δc : List Kd} {ta tb te : TE} {tt tu : TT} {tA : TA} {g : Gd} {ga gb gx : Gx} {gt gu : List Dt → O (Bool × List Dt)} {gA : List Dt → O (List Dt × List Dt)} {k : Rk} {av fr av' fr' : Bool} {L : Lk} {i : Nat} {t u : TS} {g1 g2 : Gs}
theorem SX.of (h : SE K W0 Δ te (.v av fr) g) : SX K Δ te (.v av fr) (xP g) := fun f ρ σ H Q r q => h f ρ σ H Q r <| by
  unfold xP at q
  cases e : g ρ with
  | bad => rw [e] at q; exact q.elim
  | ex z => rw [e] at q; exact q.elim
  | ok d => rw [e] at q; exact fun v H' s x => q v H' (r.mono s) x
theorem SXA.of {gA : List Dt → O (List Dt)} (h : SA K W0 Δ tA av fr gA) : SXA K Δ tA av fr (xPA gA) := fun f ρ σ H Q r q => h f ρ σ H Q r <| by
  unfold xPA at q
  cases e : gA ρ with
  | bad => rw [e] at q; exact q.elim
  | ex z => rw [e] at q; exact q.elim
  | ok d => rw [e] at q; exact fun v H' s x => q v H' (r.mono s) x
theorem SXT.of {gt : List Dt → O Bool} (h : ST K W0 Δ tt gt) : SXT K Δ tt (xPT gt) := fun f ρ σ H Q r q => h f ρ σ H Q r <| by
  unfold xPT at q
  cases e : gt ρ with
  | bad => rw [e] at q; exact q.elim
  | ex z => rw [e] at q; exact q.elim
  | ok d => rw [e] at q; exact fun H' s => q H' (r.mono s)
theorem SX.wk (h : SX K Δ te (.v av fr) gx) (h1 : av' = true → av = true := by decide) (h2 : fr' = true → fr = true := by decide) : SX K Δ te (.v av' fr') gx := fun f ρ σ H Q r q => h f ρ σ H Q r <| by
  cases e : gx ρ with
  | bad => rw [e] at q; exact q.elim
  | ex z => rw [e] at q; exact q.elim
  | ok d => rw [e] at q; exact fun v H' s x => q v H' s (x.fm h1 h2)
theorem SX.nv (h : SX K Δ te (.new .l fr) gx) : SX K Δ te (.v true fr) gx := fun f ρ σ H Q r q => h f ρ σ H Q r <| by
  cases e : gx ρ with
  | bad => rw [e] at q; exact q.elim
  | ex z => rw [e] at q; exact q.elim
  | ok d =>
    rw [e] at q
    intro p H' r' hP h0 x
    obtain ⟨vs, ds, ed, hp, x⟩ := x
    have no := (r'.pin p List.mem_cons_self).2
    have q : ∀ v H', R K f Δ d.2 σ H' → Rp K (FM f Δ σ true fr) H' v d.1 → Q v H' := q
    rw [ed] at q
    exact q _ H' r'.dropP (.lst hp ⟨fun _ => ⟨no, hP⟩, fun _ => r'.g0 p h0⟩ (x.weak fun a fa => ⟨fun _ => ⟨(fa.1 rfl).1, fun z => (fa.1 rfl).2 (List.mem_cons_of_mem _ z)⟩, fa.2⟩))
theorem SXA.wk (h : SXA K Δ tA av fr gA) (h1 : av' = true → av = true := by decide) (h2 : fr' = true → fr = true := by decide) : SXA K Δ tA av' fr' gA := fun f ρ σ H Q r q => h f ρ σ H Q r <| by
  cases e : gA ρ with
  | bad => rw [e] at q; exact q.elim
  | ex z => rw [e] at q; exact q.elim
  | ok d => rw [e] at q; exact fun v H' s x => q v H' s (x.weak fun _ y => y.weak h1 h2)
theorem bx_inv {α β : Type} {x : O α} {k : α → O β} {P : O β → Prop} (hb : ¬ P .bad) (h : P (bx x k)) : ∃ a, x = .ok a ∧ P (k a) := by
  cases x with
  | bad => exact (hb h).elim
  | ex e => exact (hb h).elim
  | ok a => exact ⟨a, rfl, h⟩
end
end Sim
end T_SimM
section T_SimN
set_option Elab.async false
set_option linter.all false
set_option maxRecDepth 100000
namespace Sim
open PySem PySem.Spec L2
open PyProof.Rows hiding St
section
variable {K : PySem.W.Frag} {f : Fm} {Δ : List Kd} {ρ ρ' : List Dt} {σ σ' : L2.St} {H H' : Hp} {p : Addr} {d : Dt} {i : Nat}
end
section
variable {K : PySem.W.Frag} {W : Wt} {Δ Δn Δb Δc : List Kd} {ta tb te ti : TE} {tt tu : TT} {tA : TA} {g : Gd} {ga gb gx : Gx} {gA : List Dt → O (List Dt × List Dt)} {k : Rk} {av fr av' fr' : Bool} {L : Lk} {i : Nat} {t u : TS} {g1 g2 : Gs}
end
section
variable {P : Program} {w : World} {K : PySem.W.Frag} {mg : Str → Option Value} {base : Heap} {x qual : Str} {st : Stmt} {fa : Addr} {fd : FuncData} {N ps : List Str} {k n m : Nat} {Δn : List Kd} {g : Gs} {c : Ct}
end
end Sim
end T_SimN
section T_SimO
set_option Elab.async false
set_option linter.all false
set_option maxRecDepth 100000
namespace Sim
open PySem PySem.Spec L2
open PyProof.Rows hiding St
section
variable {K : PySem.W.Frag} {W : Wt} {Δ : List Kd} {ti tx : TE} {gk gx : Gd} {fr fr' fr2 av av2 : Bool} {i : Nat}
end
def xPur (g : Gx) : Gx := fun ρ => bx (g ρ) fun x => if pure1 x.1 then .ok x else .bad
theorem SX.pur {K : PySem.W.Frag} {Δ : List Kd} {te : TE} {gx : Gx} {av fr : Bool} (h : SX K Δ te (.v av fr) gx) : SX K Δ te (.v true true) (xPur gx) := fun f ρ σ H Q r q => h f ρ σ H Q r <| by
  obtain ⟨⟨d, ρ1⟩, e1, q⟩ := bx_inv (P := fun o => PoX K f Δ σ (.v true true) o Q) id q
  rw [e1]
  intro v H' r' x
  by_cases p : pure1 d = true
  · simp only [p, if_true] at q
    exact q v H' r' (x.pure p)
  · simp only [p, if_false] at q
    exact q.elim
structure XD (X : Cx) (K : PySem.W.Frag) (Δ : List Kd) (e : Expr) (te : TE) (k : Rk) (g : Gx) : Prop where
  pe : PE X e te
  hK : X.K = K
  sx : SX K Δ te k g
structure XAD (X : Cx) (K : PySem.W.Frag) (Δ : List Kd) (es : List Expr) (ta : TA) (av fr : Bool) (g : List Dt → O (List Dt × List Dt)) : Prop where
  pa : PA X es ta
  hK : X.K = K
  sa : SXA K Δ ta av fr g
section
variable {X : Cx} {K : PySem.W.Frag} {W : Wt} {Δ Δ1 Δn Δb Δc : List Kd} {a b c e f elt tg iter : Expr} {es ifs : List Expr} {ta tb tc te ti tx : TE} {tt tu : TT} {tA : TA} {g gk gx0 ge gi : Gd} {ga gb gx : Gx} {gt0 : List Dt → O Bool} {gt gu : List Dt → O (Bool × List Dt)} {gA : List Dt → O (List Dt × List Dt)} {gA0 gI : List Dt → O (List Dt)} {k : Rk} {av fr av' fr' av2 fr2 : Bool} {L : Lk} {pos pos' : Pos} {t u : TS} {g1 g2 : Gs} {sts sts2 : List Stmt} {i : Nat}
theorem XD.wk (h : XD X K Δ e te (.v av fr) gx) (h1 : av' = true → av = true := by decide) (h2 : fr' = true → fr = true := by decide) : XD X K Δ e te (.v av' fr') gx := ⟨h.pe, h.hK, h.sx.wk h1 h2⟩
theorem XD.pur (h : XD X K Δ e te (.v av fr) gx) : XD X K Δ e te (.v true true) (xPur gx) := ⟨h.pe, h.hK, h.sx.pur⟩
theorem XD.nv (h : XD X K Δ e te (.new .l fr) gx) : XD X K Δ e te (.v true fr) gx := ⟨h.pe, h.hK, h.sx.nv⟩
theorem XAD.to (av' fr' : Bool) (h : XAD X K Δ es tA av fr gA) (h1 : av' = true → av = true := by decide) (h2 : fr' = true → fr = true := by decide) : XAD X K Δ es tA av' fr' gA := ⟨h.pa, h.hK, h.sa.wk h1 h2⟩
end
end Sim
end T_SimO
section T_SimQ
set_option Elab.async false
set_option linter.all false
set_option maxRecDepth 100000
namespace Sim
open PySem PySem.Spec L2
open PyProof.Rows hiding St
section
variable {K : PySem.W.Frag} {W : Wt} {Δ : List Kd}
end
section
variable {K : PySem.W.Frag} {W : Wt} {Δ : List Kd} {ta : TE} {tA : TA} {ga : Gd} {gA : List Dt → O (List Dt)} {fr fr' : Bool} {n : Nat} {g : List Dt → O Dt}
end
section
variable {X : Cx} {K : PySem.W.Frag} {W : Wt} {Δ : List Kd} {e : Expr} {es : List Expr} {ta : TE} {tA : TA} {ga : Gd} {gA : List Dt → O (List Dt)} {fr fr' : Bool} {pos : Pos}
end
end Sim
end T_SimQ
section T_SimR
set_option Elab.async false
set_option linter.all false
set_option maxRecDepth 100000
namespace Sim
open PySem PySem.Spec L2
open PyProof.Rows hiding St
section
variable {K : PySem.W.Frag} {W : Wt} {L : Lk} {Δ Δb Δc : List Kd} {te : TE} {g : Gd} {fr av fr' : Bool} {i : Nat}
end
section
variable {X : Cx} {K : PySem.W.Frag} {W : Wt} {Δ Δb Δc : List Kd} {e : Expr} {te : TE} {g : Gd} {av fr fr' : Bool} {L : Lk} {pos : Pos}
end
section
variable {K : PySem.W.Frag} {W : Wt} {Δ : List Kd} {ta tb tc td : TE} {ga gb gc gd : Gd} {av fr av' fr' av2 fr2 av3 fr3 : Bool}
end
section
variable {X : Cx} {K : PySem.W.Frag} {W : Wt} {Δ : List Kd} {a b c d : Expr} {ta tb tc td : TE} {ga gb gc gd : Gd} {av fr av' fr' av2 fr2 av3 fr3 : Bool} {pos : Pos} {op op' op'' : CmpOp} {r r' r'' : R2} {h h' h'' : Dt → Dt → O Dt}
end
section
variable {K : PySem.W.Frag} {W : Wt} {L : Lk} {Δ Δb Δc : List Kd} {te ti : TE} {ge gi : Gd} {fr av fr' av2 fr2 : Bool} {i : Nat}
end
section
variable {X : Cx} {K : PySem.W.Frag} {W : Wt} {Δ Δb Δc : List Kd} {e ix : Expr} {te ti : TE} {ge gi : Gd} {av fr av2 fr2 fr' : Bool} {L : Lk} {pos : Pos}
end
section
variable {K : PySem.W.Frag} {W : Wt} {L : Lk} {Δ Δb Δc : List Kd} {te : TE} {gx : Gx} {gg : TG} {sl : List Nat} {n : Nat} {hh : Dt → List Dt → O (List Dt)} {TK : Bool → List Kd → List Kd} {t : TS} {gb : Gs} {fr av : Bool}
end
section
variable {X : Cx} {K : PySem.W.Frag} {W : Wt} {Δ Δb Δc : List Kd} {e tg : Expr} {te : TE} {gx : Gx} {g1 : Gs} {t : TS} {sts : List Stmt} {fr : Bool} {L : Lk} {pos : Pos}
end
section
variable {P : Program} {w : World} {K : PySem.W.Frag} {mg : Str → Option Value} {base : Heap} {x qual : Str} {st : Stmt} {fa : Addr} {fd : FuncData} {N ps : List Str} {k n m : Nat} {Δn : List Kd} {g : Gs} {dvs : List V} {kws : List (Str × V)}
end
end Sim
end T_SimR
section T_SimY
set_option Elab.async false
set_option linter.all false
set_option maxRecDepth 100000
namespace Sim
open PySem PySem.Spec L2
open PyProof.Rows hiding St
section
variable {K : PySem.W.Frag} {W : Wt} {L : Lk} {Δ Δb Δc : List Kd} {to te : TE} {ga gb g : Gd} {fr av fr' av' : Bool} {i : Nat}
end
section
variable {K : PySem.W.Frag} {W : Wt} {Δ : List Kd} {ta tk : TA} {gA gK : List Dt → O (List Dt)} {av fr av' fr' : Bool} {mg : Str → Option Value} {m n : Nat} {g : List Dt → O Dt}
end
section
variable {X : Cx} {K : PySem.W.Frag} {W : Wt} {Δ Δb Δc : List Kd} {o e : Expr} {es : List Expr} {to te : TE} {tA tK : TA} {ga gb g : Gd} {gA gK : List Dt → O (List Dt)} {av fr av' fr' : Bool} {L : Lk} {pos : Pos}
end
section
variable {X : Cx} {K : PySem.W.Frag} {W : Wt} {Δ : List Kd} {e e2 : Expr} {es : List Expr} {te2 : TE} {tA : TA} {gk : Gd} {gA : List Dt → O (List Dt)} {av fr av' fr' : Bool} {pos : Pos}
end
end Sim
end T_SimY
section T_SimZ
set_option Elab.async false
set_option linter.all false
set_option maxRecDepth 100000
namespace Sim
open PySem PySem.Spec L2
open PyProof.Rows hiding St
section
variable {K : PySem.W.Frag} {F : Addr → Prop} {H : Hp} {p : Addr} {d : Dt} {c : Ct} {v : V}
theorem kvA_of : ∀ {kvs : List (Key × V)} {es : List (Dt × Dt)}, kvs.map (fun kv => keyD kv.1) = es.map (fun e => e.1) → RpA K F H (kvs.map fun kv => kv.2) (es.map fun e => e.2) → KvA K F H kvs es
  | [], [], _, _ => .nil
  | [], _ :: _, h, _ => by simp at h
  | _ :: _, [], h, _ => by simp at h
  | (k, v) :: kvs, (e1, e2) :: es, h, r => by
    rw [List.map_cons, List.map_cons] at h
    injection h with h1 h2
    have h1 : keyD k = e1 := h1
    subst h1
    cases r with
    | cons x r => exact .cons x (kvA_of h2 r)
theorem KvA.keys : ∀ {kvs : List (Key × V)} {es : List (Dt × Dt)}, KvA K F H kvs es → kvs.map (fun kv => keyD kv.1) = es.map (fun e => e.1)
  | _, _, .nil => rfl
  | _, _, .cons h r => by rw [List.map_cons, List.map_cons, r.keys]
theorem Rp.dict {es : List (Dt × Dt)} (h : Rp K F H v (.dict es)) (n : exnL es = false) : ∃ p kvs, v = .ref p ∧ H p = some (.dK kvs) ∧ KvA K F H kvs es := by
  cases h with
  | dic h fa hk r => exact ⟨_, _, rfl, h, kvA_of hk r⟩
  | exn => cases n
  | fz => cases n
end
section
variable {K : PySem.W.Frag} {W : Wt} {Δ Δb Δc : List Kd} {te ti ta : TE} {g ge gk ga : Gd} {fr fr' av av' : Bool} {L : Lk} {i : Nat} {c : Ct}
end
section
variable {P : Program} {w : World} {K : PySem.W.Frag} {mg : Str → Option Value} {base : Heap} {x qual : Str} {st : Stmt} {fa : Addr} {fd : FuncData} {N ps : List Str} {k n m : Nat} {Δn : List Kd} {g : Gs} {c : Ct} {fr0 : Bool}
end
section
variable {X : Cx} {K : PySem.W.Frag} {W : Wt} {Δ Δb Δc : List Kd} {a b e o : Expr} {es : List Expr} {te ti ta : TE} {tA : TA} {g ge gk ga : Gd} {gA : List Dt → O (List Dt)} {fr fr' av av' : Bool} {L : Lk} {pos p pos' : Pos} {x : Str} {m : Nat} {c : Ct}
end
section
variable {K : PySem.W.Frag} {W : Wt} {Δ : List Kd} {ta : TA} {gA : List Dt → O (List Dt)} {av fr : Bool} {mg : Str → Option Value} {n : Nat} {g : List Dt → O Dt}
end
section
variable {X : Cx} {K : PySem.W.Frag} {W : Wt} {Δ : List Kd} {e : Expr} {es : List Expr} {tA : TA} {gA : List Dt → O (List Dt)} {fr av : Bool} {pos : Pos}
end
end Sim
end T_SimZ
section T_SimZB
set_option Elab.async false
set_option linter.all false
set_option maxRecDepth 100000
namespace Sim
open PySem PySem.Spec L2
open PyProof.Rows hiding St
def minL : Int → List Int → Int
  | a, [] => a
  | a, b :: bs => minL (if b < a then b else a) bs
theorem minL_ok : ∀ (bs : List Int) (a : Int), minL a bs ∈ a :: bs ∧ ∀ y ∈ a :: bs, minL a bs ≤ y
  | [], a => ⟨List.mem_cons_self, fun y hy => by rw [List.mem_singleton.mp hy]; exact Int.le_refl _⟩
  | b :: bs, a => by
    unfold minL
    obtain ⟨h1, h2⟩ := minL_ok bs (if b < a then b else a)
    generalize minL (if b < a then b else a) bs = z at *
    refine ⟨?_, fun y hy => ?_⟩
    · rcases List.mem_cons.mp h1 with h | h
      · rw [h]
        split
        · exact List.mem_cons_of_mem _ List.mem_cons_self
        · exact List.mem_cons_self
      · exact List.mem_cons_of_mem _ (List.mem_cons_of_mem _ h)
    · have h0 := h2 _ List.mem_cons_self
      rcases List.mem_cons.mp hy with h | h
      · subst h
        split at h0 <;> omega
      · rcases List.mem_cons.mp h with h | h
        · subst h
          split at h0 <;> omega
        · exact h2 y (List.mem_cons_of_mem _ h)
def hMin1 : List Dt → O Dt := fun ds => match ds with
  | [.list xs] => match allI xs with
    | some (b :: bs) => .ok (.int (minL b bs))
    | _ => .bad
  | _ => .bad
section
variable {K : PySem.W.Frag}
theorem csc_min1 : CSc K (rMin K) hMin1 := fun H xs ds Q hx h => by
  unfold hMin1 at h
  split at h
  · rename_i e
    split at e
    · split at e
      · rename_i b bs eb
        cases e
        cases hx with
        | cons h1 h2 =>
          cases h2
          obtain ⟨a, ys, rfl, hs, r⟩ := h1.sql
          rw [rp_ints r eb] at hs
          refine ⟨a, b :: bs, rfl, hs, by simp, fun m hm hl => ?_⟩
          obtain ⟨g1, g2⟩ := minL_ok bs b
          have : m = minL b bs := Int.le_antisymm (hl _ g1) (g2 _ hm)
          rw [this]
          exact h.2 _ (.int _)
      · cases e
    · cases e
  · exact h.elim
theorem scl_min1 : SclA hMin1 := fun ds => by
  unfold hMin1
  split
  · split
    · exact .inl ⟨_, rfl, rfl⟩
    · exact .inr rfl
  · exact .inr rfl
end
section
variable {X : Cx} {K : PySem.W.Frag} {W : Wt} {Δ : List Kd} {e : Expr} {es : List Expr} {tA : TA} {gA : List Dt → O (List Dt)} {av fr : Bool} {pos : Pos}
theorem x_min1 {x : Str} {p : Pos} (hm : X.mg x = none) (h : AD X K W Δ (e :: es) tA av fr gA) (hc : X.calm = true := by rfl) (hv : bootBuiltins x = some (.builtin "min") := by decide +kernel) (hg : Gl X x := by rfl) (hn : x ≠ "__name__" := by decide) (hdb : (x == ("__debug__" : Str)) = false := by decide)
    (he : starEach (e :: es) X.env = (false, eval e X.env) :: starEach es X.env := by rfl) (hpl : (backTo pos (starEach es X.env)).any (·.1) = false := by rfl) :
    PD X K W Δ (.Call (.Name x p) (e :: es) [] pos) (tCB (rMin K) tA) (.v true true) (gCB hMin1 gA) := ⟨pe_callB (by have q := cr_min (X := X) hc; rw [h.hK] at q; exact q) hg hm hv h.pa hn hdb he hpl, h.hK, se_cb scl_min1 csc_min1 h.sa⟩
end
theorem hMin1_ok {b : Int} {bs : List Int} : hMin1 [.list ((b :: bs).map .int)] = .ok (.int (minL b bs)) := by
  unfold hMin1
  simp only [allI_map]
end Sim
end T_SimZB
section T_SimX
set_option Elab.async false
set_option linter.all false
set_option maxRecDepth 100000
namespace Sim
open PySem PySem.Spec L2
open PyProof.Rows hiding St
theorem exH_ok {P : Program} {w : World} {H : Hp} {h : Heap} {a : Addr} {cls : Value} {d : Option Addr} {oe : Obj} {vs : Array Value} (e : h.get? a = some oe) (z : Zc cls d oe) (dd : oe.data = .fields vs) : ObjOk P w H h a (ExH cls d a) :=
  ⟨⟨oe, vs, e, z, dd⟩, ⟨oe, e⟩, fun _ _ ⟨o, v, q, r⟩ k => ⟨o, v, k o q, r⟩⟩
section
variable {X : Cx} {pins : List (Addr × Obj)} {σ : L2.St} {H : Hp} {s : Shared}
theorem inv_note {a : Addr} {oe : Obj} {vs : Array Value} {cls : Value} {d : Option Addr} (I : Inv X pins σ H s) (he : s.heap.get? a = some oe) (hz : Zc cls d oe) (hd : oe.data = .fields vs) (na : H a = none)
    (n0 : X.s_0.heap.get? a = none) (nL : a ≠ X.env.locals) (np : ∀ p ∈ X.pn ++ pins, p.1 ≠ a) : Inv X pins σ (upd H a (ExH cls d a)) s := by
  refine ⟨I.ok, I.os, I.bare, ⟨I.base.keep, I.base.slot, fun b o e n hx => ?_, I.base.there, fun b xs e => ?_, fun b o u e => ?_, fun b ps e => ?_⟩, I.loc, I.cell, ?_, fun x c e => ?_, fun p hp => ?_, I.hok.laidN (fun _ _ q => q) na (exH_ok he hz hd), I.len⟩
  · rw [upd_ne (fun z => by rw [z, n0] at e; cases e)]
    exact I.base.free b o e n hx
  · have q := I.base.tups b xs e
    rw [upd_ne (ne_of_none q na)]
    exact q
  · have q := I.base.frzs b o u e
    rw [upd_ne (ne_of_none q na)]
    exact q
  · obtain ⟨m, q⟩ := I.base.tbls b ps e
    exact ⟨m, by rw [upd_ne (ne_of_none q na)]; exact q⟩
  · rw [upd_ne (Ne.symm nL)]
    exact I.free
  · rw [upd_ne ?_]
    · exact I.freeC x c e
    · intro z
      obtain ⟨v, o, ho, hdd⟩ := I.cell x c e
      rw [z, he] at ho
      cases ho
      rw [hd] at hdd
      cases hdd
  · obtain ⟨e, n, ne, nf, d⟩ := I.pin p hp
    exact ⟨e, by rw [upd_ne (np p hp)]; exact n, ne, nf, d⟩
theorem inv_suite (I : Inv X pins σ H s) (a : Addr) : Inv (X.suite a (X.pn ++ pins)) [] σ H s :=
  ⟨I.ok.suite _ _, I.os, I.bare, I.base, I.loc, I.cell, I.free, I.freeC, fun p hp => I.pin p (by rw [List.append_nil] at hp; exact hp), I.hok, I.len⟩
theorem inv_unsuite {a : Addr} {pn' : List (Addr × Obj)} (I : Inv (X.suite a (X.pn ++ pins)) pn' σ H s) (ok : X.Ok) : Inv X pins σ H s :=
  ⟨ok, I.os, I.bare, I.base, I.loc, I.cell, I.free, I.freeC, fun p hp => I.pin p (List.mem_append_left _ hp), I.hok, I.len⟩
end
def goneE (i : Nat) (D : Ends) : Ends := { nx := fun σ H => D.nx (σ.set i none) H, rt := D.rt, bk := fun σ H => D.bk (σ.set i none) H, ct := fun σ H => D.ct (σ.set i none) H }
def wX (K : PySem.W.Frag) (c : Value) (i : Nat) (ts : TS) (Wout : WX) (D : Ends) : WX := fun cls d σ H =>
  ∃ b, PySem.W.exmOne K cls c = some b ∧ (b = true → ∀ a, H a = none → ts (goneE i D) (σ.set i (some (.ref a))) (upd H a (ExH cls d a))) ∧ (b = false → Wout cls d σ H)
section
variable {X : Cx} {x n : Str} {c : Value} {i : Nat} {body suite : List Stmt} {b₀ : Stmt} {np pos pos' : Pos} {tb : WX → TS} {ts : TS} {Wout : WX}
theorem ps_tryX (hs : X.stack = X.env :: X.outer) (hf : X.env.frame = some X.env.locals) (hex : X.ex = []) (hN : X.N.Nodup) (hi : X.N[i]? = some n) (hln : X.env.kindOf n = some .local) (hc : Names X x c) (tk : Takes X Wout)
    (hb : ∀ (W : WX) (pn : List (Addr × Obj)) (xe : Value → Shared → Prop), Takes (X.tr pn xe) W → PSs (X.tr pn xe) body (tb W))
    (hsu : ∀ (a : Addr) (pn : List (Addr × Obj)), PSs (X.suite a pn) (b₀ :: suite) ts) :
    PS X (.Try body [.ExceptHandler (some (.Name x np)) (some n) (b₀ :: suite) pos'] [] [] pos) (fun D σ H => tb (wX X.K c i ts Wout D) D σ H) := by
  refine ⟨fun pins s σ H D I h => wpAny_Try_except ?_⟩
  have ok := I.ok
  have hfr : X.A.frames = some (X.env :: X.outer) := by rw [ok.frames, hs]
  have caught : Takes (X.tr (X.pn ++ pins) (fun e s₁ => wpAny (model X.prog X.w) X.A (noteFrame e X.env) (fun _ s₂ => wpAny (model X.prog X.w) X.A (setFlight e none) (fun _ s₃ =>
      wpAny (model X.prog X.w) X.A (handleBy e X.env [.ExceptHandler (some (.Name x np)) (some n) (b₀ :: suite) pos']) (SP X pins D) X.xe s₃) X.xe s₂) X.xe s₁)) (wX X.K c i ts Wout D) := by
    rintro u s' ⟨a, B, sI, pins', σ', H', cls, d, rfl, J', nb, up, sky, na, os, ag, b, hb1, hyes, hno⟩
    have J : Inv X pins σ' H' sI := J'.ofTry ok
    have sky' : Sky B (X.env :: X.outer) a (Zc cls d) X.env.locals s'.heap := by rw [← hs]; exact sky
    show wpAny _ X.A (noteFrame (.ref a) X.env) _ _ _
    refine Sky.land Zc.steady hfr hf sky' fun h3 fl3 up3 => ?_
    have J3 : Inv X pins σ' H' { s' with heap := h3 } := J.landed nb fl3.1 (up.trans up3) os ag
    obtain ⟨oe3, vs3, he3, hz3, hd3⟩ := fl3.there
    have nfr : a ∉ frs (X.env :: X.outer) := fun hm => by
      obtain ⟨_, o', e', hnf⟩ := fl3.2.2.1.mem hm
      rw [he3] at e'; cases e'
      exact hnf _ hd3
    have nL : a ≠ X.env.locals := fun z => nfr (List.mem_filterMap.mpr ⟨X.env, List.mem_cons_self, by rw [hf, z]⟩)
    have nB : B.get? a = none := fl3.2.1
    have inB : ∀ {y : Addr} {o : Obj}, sI.heap.get? y = some o → y = a → False := fun {y o} e z => by
      subst z
      have := nb y o e (by rw [hs]; exact nfr)
      rw [nB] at this; cases this
    have n0 : X.s_0.heap.get? a = none := by
      cases e : X.s_0.heap.get? a with
      | none => rfl
      | some o =>
        obtain ⟨o', q⟩ := J.base.there a o e (by rw [hex]; simp)
        exact (inB q rfl).elim
    have npin : ∀ p ∈ X.pn ++ pins, p.1 ≠ a := fun p hp z => inB (J.pin p hp).1 z
    have test : ∀ {Q : Value → Shared → Prop} {E : Value → Shared → Prop}, Q c { s' with heap := h3 } → wpAny (model X.prog X.w) (X.A.mark (some (.ref a))) (eval (.Name x np) X.env) Q E { s' with heap := h3 } := fun {Q E} q => by
      obtain ⟨hg, hdbg, hm | ⟨hm, hv, hnn⟩⟩ := hc
      · exact ld_glob (X := X.suite a (X.pn ++ pins)) (inv_suite J3 a) hg hm q hdbg
      · exact ld_blt (X := X.suite a (X.pn ++ pins)) (inv_suite J3 a) hg hm hv q hnn hdbg
    have LT : PySem.W.Looks (model X.prog X.w) h3 (typeOf (.ref a)) cls := fun A Q E s k q => wpAny_typeOf_ref (k _ _ he3) (by rw [hz3.1]; exact q)
    refine wpAny_handleBy_cons (codeAny_handlers_test (test ((PySem.W.exm_one (M := model X.prog X.w) J3.kIn LT hb1).here ?_))) (by intro q; cases q)
    cases b with
    | true =>
      refine codeAny_handlers_suite_as (HandSPX.lands_againZ fl3 fun h4 fl4 up4 => ?_)
      have J4 : Inv X pins σ' H' { s' with heap := h4 } := J.landed nb fl4.1 ((up.trans up3).trans up4) os ag
      obtain ⟨oe4, vs4, he4, hz4, hd4⟩ := fl4.there
      have J5 := inv_suite (inv_note J4 he4 hz4 hd4 na n0 nL npin) a
      refine store_ok (X := X.suite a (X.pn ++ pins)) (v := .ref a) J5 hN hi (.inl hln) rfl (fun s5 S5 => ?_) (.inr hln)
      refine wpAny_mono ((hsu a (X.pn ++ pins)).run [] s5 _ _ _ S5 (hyes rfl a na)) (fun f s6 hsp => ?_) (fun _ _ z => False.elim z)
      have fin : ∀ {σ6 : L2.St} {H6 : Hp} {Q : Shared → Prop}, Inv (X.suite a (X.pn ++ pins)) [] σ6 H6 s6 → (∀ s7, Inv X pins (σ6.set i none) H6 s7 → Q s7) →
          wpAny (model X.prog X.w) X.A (do bindName X.env n .none; unbindBehindTheSuite X.env n pos') (fun _ s7 => Q s7) X.xe s6 := fun {σ6 H6 Q} S6 hq => gone_ok (inv_unsuite S6 ok) hN hi hln hq
      cases f with
      | next =>
        obtain ⟨σ6, H6, S6, q6⟩ := hsp
        exact fin S6 fun s7 J7 => ⟨_, _, J7, q6⟩
      | brk =>
        obtain ⟨σ6, H6, S6, q6⟩ := hsp
        exact fin S6 fun s7 J7 => ⟨_, _, J7, q6⟩
      | cont =>
        obtain ⟨σ6, H6, S6, q6⟩ := hsp
        exact fin S6 fun s7 J7 => ⟨_, _, J7, q6⟩
      | ret u =>
        obtain ⟨v6, σ6, H6, S6, r6, q6⟩ := hsp
        exact fin S6 fun s7 J7 => ⟨_, _, _, J7, r6, q6⟩
    | false =>
      show wpAny _ X.A (handleBy (.ref a) X.env []) _ _ _
      refine wpAny_handleBy_nil ?_
      obtain ⟨k1, k2, k3, oe, vs, T, oT, ts', he, hz, hd, h1, hr⟩ := id fl3
      unfold PySem.passOn
      refine wpAny_bind (wpAny_field he hd h1 ?_)
      rw [if_neg (show ¬ ((Value.ref T == Value.none) = true) from by simp)]
      have on : wpAny (model X.prog X.w) X.A (setFlight (.ref a) X.env.frame) (fun _ s4 => wpAny (model X.prog X.w) X.A (throw (.ref a) : Sem Flow) (SP X pins D) X.xe s4) X.xe { s' with heap := h3 } := by
        rw [hf]
        refine HandSPX.setFlight_upZ fl3 fun h4 hh4 up4 => wpAny_throw (tk _ _ ?_)
        exact ⟨a, B, sI, pins, σ', H', cls, d, rfl, J, nb, (up.trans up3).trans up4, .inr (.inr (by rw [hs]; exact hh4)), na, os, ag, hno rfl⟩
      first
        | exact wpAny_bind (wpAny_pure (wpAny_bind on))
        | exact wpAny_bind on
  refine wpAny_mono ((hb _ (X.pn ++ pins) _ caught).run [] s σ H D (I.toTry _) h) (fun f s1 hsp => ?_) (fun e s1 he => he)
  cases f with
  | next =>
    obtain ⟨σ', H', J', q⟩ := hsp
    exact wpAny_execs_nil ⟨σ', H', J'.ofTry ok, q⟩
  | brk =>
    obtain ⟨σ', H', J', q⟩ := hsp
    exact ⟨σ', H', J'.ofTry ok, q⟩
  | cont =>
    obtain ⟨σ', H', J', q⟩ := hsp
    exact ⟨σ', H', J'.ofTry ok, q⟩
  | ret u =>
    obtain ⟨v, σ', H', J', r, q⟩ := hsp
    exact ⟨v, σ', H', J'.ofTry ok, r, q⟩
end
theorem pmk_own0 {X : Cx} {C : Addr} {bmB : List Value} {B newId initId : String} {x : Str} {p pos : Pos} (F : ExcBaseFacts B newId initId bmB) (q : PySem.W.excIn X.K C bmB newId = true) (gC : X.mg x = some (.ref C)) (kC : PySem.W.keepIn X.K (.ref C) = true)
    (r : Raises X (.ref C)) (hg : Gl X x) (hdb : (x == ("__debug__" : Str)) = false := by decide) : PMk X (.Call (.Name x p) [] [] pos) (fun _ H Q => Q (.ref C) none H) := by
  intro pins s σ H Q I h
  refine wpAny_Call_Name_kw (ld_glob I hg gC ?_ hdb)
  refine PySem.W.callWith_K0 I.kIn kC ?_
  show wpAny _ _ (call (.ref C) []) _ _ _
  obtain ⟨bm, N, nm, qn, bs, hdct, sn, sub, ab, col, dd, k0, k1, k2, k3, k5, mN, hC, hN, hni, T⟩ := exc_obj I.kIn q
  refine wpAny_call_exc_subT F T hC hN hni (fun h' e hm => ?_) (Nat.zero_le _)
  exact mk_of I hm r h (I.hok.gone hm.new)
end Sim
end T_SimX
section T_SimXB
set_option Elab.async false
set_option linter.all false
set_option maxRecDepth 100000
namespace Sim
open PySem PySem.Spec L2
open PyProof.Rows hiding St
abbrev wtOf (mg : Str → Option Value) (Wx : WX) : Wt := fun e σ H => Wcls mg e (WE Wx σ) H
abbrev veB : List Value := [.type "ValueError", .type "Exception", .type "BaseException", .type "object"]
structure ExT (K : PySem.W.Frag) (mg : Str → Option Value) (c : Str) (C : Addr) : Prop where
  g : mg c = some (.ref C)
  n : PySem.W.nsIn K mainGlobals c = some (some (.ref C))
  k : PySem.W.keepIn K (.ref C) = true
  t : PySem.W.typeIn K (.ref C) = some (.type "type")
  x : ExcC K C
def gRaise (c : Str) : Gs := fun _ => .ex ⟨c, none⟩
theorem z_raise0 {X : Cx} {K : PySem.W.Frag} {L : Lk} {Δ Δn Δb Δc : List Kd} {Wx : WX} {mg : Str → Option Value} {c : Str} {C : Addr} {p pos pos' : Pos} (tk : Takes X Wx) (T : ExT K mg c C) (q : PySem.W.excIn K C veB "ValueError.__new__" = true)
    (hmg : X.mg = mg := by rfl) (hK : X.K = K := by rfl) (hc : X.calm = true := by rfl) (hg : Gl X c := by rfl) (hdb : (c == ("__debug__" : Str)) = false := by decide) :
    SD X K (wtOf mg Wx) L Δ Δn Δb Δc (.Raise (some (.Call (.Name c p) [] [] pos)) none pos') (fun _ σ H => Wx (.ref C) none σ H) (gRaise c) := by
  subst hK hmg
  exact ⟨ps_raise hc tk (pmk_own0 PySem.F.excBase_ValueError q T.g T.k (raises_own T.x.hs T.t) hg hdb), rfl, fun f ρ σ H E r q => q σ H r.ext C T.g⟩
def gCallX (n : Nat) (g : List Dt → O Dt) (gA : List Dt → O (List Dt)) : Gd := fun ρ => bnd (gA ρ) fun ds => if ds.length = n then g ds else .bad
section
variable {K : PySem.W.Frag} {Δ : List Kd} {ta : TA} {gA : List Dt → O (List Dt)} {av fr : Bool} {mg : Str → Option Value} {n : Nat} {g : List Dt → O Dt} {Wx : WX}
theorem se_callXL (h : SA K (wtOf mg Wx) Δ ta av fr gA) : SE K (wtOf mg Wx) Δ (tCallS (spL K mg n g) (WE Wx) ta) (.new .l true) (gCallX n g gA) := fun f ρ σ H Q r q => h f ρ σ H _ r <| by
  unfold gCallX at q
  cases e : gA ρ with
  | bad => rw [e] at q; exact q
  | ex z => rw [e] at q; exact q
  | ok ds =>
    rw [e, bnd_ok] at q
    intro vs H1 s1 x1
    by_cases hn : ds.length = n
    · rw [if_pos hn] at q
      refine ⟨ds, by rw [x1.length]; exact hn, x1.weak fun _ _ => trivial, ?_⟩
      cases e2 : g ds with
      | bad => rw [e2] at q; exact q.elim
      | ex z => rw [e2] at q; exact fun H2 s2 => q H2 (s1.trans s2)
      | ok d =>
        rw [e2] at q
        intro p H2 np s2 x2
        refine q p H2 (s1.free np) (s1.trans s2) (x2.map (fun _ e => e) fun _ _ y => y.weak fun a na => ?_)
        obtain ⟨f1, f2, f3⟩ := (r.mono s1).fresh na.1
        exact ⟨⟨fun _ => ⟨f1, f2⟩, fun _ => r.g0 a f3⟩, na.2⟩
    · rw [if_neg hn] at q
      exact q.elim
end
section
variable {X : Cx} {K : PySem.W.Frag} {Δ : List Kd} {e : Expr} {es : List Expr} {tA : TA} {gA : List Dt → O (List Dt)} {av fr : Bool} {pos p : Pos} {mg : Str → Option Value} {Wx : WX} {x : Str} {kk nn : Nat} {fa : Addr} {fd : FuncData} {ps : List Str} {gg : List Dt → O Dt}
theorem x_callXL (tk : Takes X Wx) (F : FnOk X.prog X.w X.K X.mg X.base (L2.CX X.prog X.w) kk fa fd ps (spL K mg nn gg)) (hr : Room kk X.A) (hm : X.mg x = some (.ref fa)) (hk : PySem.W.keepIn X.K (.ref fa) = true) (hb : Binds X.K fd ps [])
    (h : AD X K (wtOf mg Wx) Δ (e :: es) tA av fr gA) (hg : Gl X x := by rfl) (hdb : (x == ("__debug__" : Str)) = false := by decide) (he : starEach (e :: es) X.env = (false, eval e X.env) :: starEach es X.env := by rfl) (hpl : (backTo pos (starEach es X.env)).any (·.1) = false := by rfl) :
    PD X K (wtOf mg Wx) Δ (.Call (.Name x p) (e :: es) [] pos) (tCallS (spL K mg nn gg) (WE Wx) tA) (.new .l true) (gCallX nn gg gA) := ⟨pe_callS F hr hg hm hk hb (fun σ => passAt tk σ) h.pa hdb he hpl, h.hK, se_callXL h.sa⟩
end
def fnLX (m : Nat) (g : Gs) : List Dt → O Dt := fun ds => match g (ds ++ List.replicate (m - ds.length) .none) with
  | .ok (.rt d) => .ok d
  | .ex e => .ex e
  | _ => .bad
abbrev wE (E : XK) : WX := fun cls d _ H => E cls d H
section
variable {P : Program} {w : World} {K : PySem.W.Frag} {mg : Str → Option Value} {base : Heap} {x qual : Str} {st : Stmt} {fa : Addr} {fd : FuncData} {N ps : List Str} {k n m : Nat} {Δn : List Kd} {g : Gs}
theorem fn_okLX (F : L2.Fun K x qual st fa fd) (S : FnScope N ps (defScope st)) (hn : ps.length = n) (hm : N.length = m) (hnm : n ≤ m)
    (hb : ∀ (cdv : Value) (A : Around) (outer : List Env) (s : Shared) (H : Hp) (E : XK), Room k (A.deeper (envOfC qual (defScope st) s.heap.objs.size fa cdv)) →
      Takes (cxOf (L2.CX P w) P w K mg base N qual (defScope st) fa cdv A outer s H E) (wE E) → PassesOwn (model P w) (cxOf (L2.CX P w) P w K mg base N qual (defScope st) fa cdv A outer s H E).A (cxOf (L2.CX P w) P w K mg base N qual (defScope st) fa cdv A outer s H E).env (cxOf (L2.CX P w) P w K mg base N qual (defScope st) fa cdv A outer s H E).xe →
      ∃ ts, BD (cxOf (L2.CX P w) P w K mg base N qual (defScope st) fa cdv A outer s H E) K (wtOf mg (wE E)) .l (kd0 n m false) Δn (kd0 n m false) (kd0 n m false) (defBody st) ts g) :
    FnOk P w K mg base (L2.CX P w) (k + 1) fa fd ps (spL K mg n (fnLX m g)) := by
  refine F.okX S (fun vs H Q E h => ?_) (fun cdv A outer s H vs Q E hr h => ?_)
  · obtain ⟨ds, h1, _⟩ := h
    rw [h1, hn]
  · obtain ⟨ds, h1, h2, h3⟩ := h
    obtain ⟨ts, B⟩ := hb cdv A outer s H E hr (takes_of rfl rfl rfl rfl) (passes_of (X := cxOf (L2.CX P w) P w K mg base N qual (defScope st) fa cdv A outer s H E) rfl)
    refine ⟨ts, B.ps, B.ss ⟨H, fun a => H a = none, [], [], none, [], fun _ h => nomatch h⟩ _ _ H _ (r_start h1 hm hnm h2 (fun _ h => h) (fun e => nomatch e)) ?_⟩
    unfold fnLX at h3
    cases e : g (ds ++ List.replicate (m - ds.length) .none) with
    | bad => rw [e] at h3; exact h3.elim
    | ex z => rw [e] at h3; exact fun σ' H' s => h3 H' s
    | ok fl =>
      rw [e] at h3
      cases fl with
      | nx ρ => exact h3.elim
      | rt d => exact fun p H' np s x => h3 p H' np s x
      | bk ρ => exact h3.elim
      | ct ρ => exact h3.elim
end
def noX (o : O Fl) : O Fl := match o with
  | .ex _ => .bad
  | .ok a => .ok a
  | .bad => .bad
def gTry (gb : Gs) (yes no : List Str) (i : Nat) (gh : Gs) : Gs := fun ρ => match gb ρ with
  | .ex e => if yes.contains e.cls then noX (gh (ρ.set i (exnD e.cls e.arg))) else if no.contains e.cls then .ex e else .bad
  | .ok a => .ok a
  | .bad => .bad
def PoSx (K : PySem.W.Frag) (W : Wt) (L : Lk) (f : Fm) (Δn Δb Δc : List Kd) (σ : L2.St) (H : Hp) (o : O Fl) (E : Ends) : Prop := match o with
  | .ex e => ∀ H', Same H H' → W e σ H'
  | .ok a => PoS K W L f Δn Δb Δc (.ok a) E
  | .bad => False
def SSx (K : PySem.W.Frag) (W : Wt) (L : Lk) (Δ Δn Δb Δc : List Kd) (ts : TS) (g : Gs) : Prop := ∀ f ρ σ H E, R K f Δ ρ σ H → PoSx K W L f Δn Δb Δc σ H (g ρ) E → ts E σ H
structure SDx (X : Cx) (K : PySem.W.Frag) (W : Wt) (L : Lk) (Δ Δn Δb Δc : List Kd) (st : Stmt) (ts : TS) (g : Gs) : Prop where
  ps : PS X st ts
  hK : X.K = K
  ss : SSx K W L Δ Δn Δb Δc ts g
structure BDx (X : Cx) (K : PySem.W.Frag) (W : Wt) (L : Lk) (Δ Δn Δb Δc : List Kd) (sts : List Stmt) (ts : TS) (g : Gs) : Prop where
  ps : PSs X sts ts
  hK : X.K = K
  ss : SSx K W L Δ Δn Δb Δc ts g
section
variable {K : PySem.W.Frag} {f : Fm} {Δ : List Kd} {ρ : List Dt} {σ : L2.St} {H : Hp} {i : Nat}
theorem R.gone (r : R K f Δ ρ σ H) (h : Δ[i]? = some .no) : R K f Δ ρ (σ.set i none) H := by
  have ne : ∀ {j : Nat} {k : Kd}, Δ[j]? = some k → k ≠ .no → i ≠ j := fun {j k} e n z => by
    subst z
    rw [h] at e
    cases e
    exact n rfl
  have ow' : ∀ a, Ow Δ (σ.set i none) a → Ow Δ σ a := fun a ⟨j, c, fr, h1, h2⟩ => by
    rw [List.getElem?_set_ne (ne h1 (fun z => nomatch z))] at h2
    exact ⟨j, c, fr, h1, h2⟩
  have key : ∀ {fr : Bool} {v : V} {d : Dt}, Rp K (FM f Δ σ true fr) H v d → Rp K (FM f Δ (σ.set i none) true fr) H v d := fun h =>
    h.weak fun a fa => ⟨fun _ => ⟨fun z => (fa.1 rfl).1 (ow' a z), (fa.1 rfl).2⟩, fa.2⟩
  refine ⟨r.ext, r.g0, by rw [List.length_set]; exact r.lσ, r.lρ, fun j l cj fj cl fl p h1 h2 h3 h4 => ?_, fun a ha => ⟨(r.pin a ha).1, fun z => (r.pin a ha).2 (ow' a z)⟩, fun g hg => (r.gh g hg).map fun _ _ x => key x, fun j fr h' => ?_, fun j c fr h' => ?_, fun j c fr h' ha => ?_, r.sp, fun j t h' => by
    obtain ⟨v, d, h1, h2, h3⟩ := r.sl j t h'
    exact ⟨v, d, by rw [List.getElem?_set_ne (ne h' (fun z => nomatch z))]; exact h1, h2, h3⟩⟩
  · rw [List.getElem?_set_ne (ne h1 (fun z => nomatch z))] at h3
    rw [List.getElem?_set_ne (ne h2 (fun z => nomatch z))] at h4
    exact r.inj j l cj fj cl fl p h1 h2 h3 h4
  · obtain ⟨v, d, h1, h2, h3⟩ := r.im j fr h'
    exact ⟨v, d, by rw [List.getElem?_set_ne (ne h' (fun z => nomatch z))]; exact h1, h2, key h3⟩
  · obtain ⟨p, d, h1, h2, h3, h4⟩ := r.ow j c fr h'
    exact ⟨p, d, by rw [List.getElem?_set_ne (ne h' (fun z => nomatch z))]; exact h1, h2, h3, h4.map (fun o e => e) fun _ _ x => key x⟩
  · obtain ⟨p, h1, h2⟩ := r.ar j c fr h' ha
    exact ⟨p, h1, by rw [List.getElem?_set_ne (ne h' (fun z => nomatch z))]; exact h2⟩
end
section
variable {K : PySem.W.Frag} {W : Wt} {L : Lk} {Δ Δ1 Δn Δb Δc : List Kd} {te : TE} {tt : TT} {t u ts : TS} {g : Gd} {gt : List Dt → O Bool} {ga gb gh : Gs} {fr av : Bool} {k : Rk} {i : Nat} {mg : Str → Option Value}
theorem sx_drop (h : SE K W Δ te k g) : SSx K W L Δ Δ Δb Δc (tDrop te) (gDrop g) := fun f ρ σ H E r q => h f ρ σ H _ r <| by
  unfold gDrop at q
  cases e : g ρ with
  | bad => rw [e] at q; exact q
  | ex z => rw [e] at q; exact q
  | ok d =>
    rw [e] at q
    cases k with
    | v av fr => exact fun v H' s x => q σ H' (r.mono s)
    | o fr => exact fun p H' vs ds e s _ _ _ => q σ H' (r.mono s)
    | new c fr => exact fun p H' np s x => q σ H' (r.mono s)
theorem SSx.post {Δn' : List Kd} (h : SSx K W L Δ Δn Δb Δc t ga) (ln : leA Δn Δn' = true) : SSx K W L Δ Δn' Δb Δc t ga := fun f ρ σ H E r q => h f ρ σ H E r <| by
  cases e : ga ρ with
  | bad => rw [e] at q; exact q
  | ex z => rw [e] at q; exact q
  | ok fl =>
    rw [e] at q
    cases fl with
    | nx ρ' => exact fun σ' H' r => q σ' H' (r.weak ln)
    | rt d => exact q
    | bk ρ' => exact q
    | ct ρ' => exact q
theorem s_tryX {C : Addr} {c : Str} {yes no : List Str} {tb : WX → TS} {Wout : WX} (T : ExT K mg c C)
    (hyes : ∀ y ∈ yes, ∃ D, PySem.W.nsIn K mainGlobals y = some (some (.ref D)) ∧ mg y = some (.ref D) ∧ PySem.W.subIn K (.ref D) (.ref C) = some true)
    (hno : ∀ y ∈ no, ∃ D, PySem.W.nsIn K mainGlobals y = some (some (.ref D)) ∧ mg y = some (.ref D) ∧ PySem.W.subIn K (.ref D) (.ref C) = some false)
    (hW : ∀ e σ H, W e σ H → wtOf mg Wout e σ H) (hi : i < Δ.length) (en : Δn[i]? = some .no) (eb : Δb[i]? = some .no) (ec : Δc[i]? = some .no)
    (hb : ∀ Wx : WX, SSx K (wtOf mg Wx) L Δ Δn Δb Δc (tb Wx) gb) (hsu : SS K W0 L (Δ.set i (.im true)) Δn Δb Δc ts gh) :
    SS K W L Δ Δn Δb Δc (fun D σ H => tb (wX K (.ref C) i ts Wout D) D σ H) (gTry gb yes no i gh) := fun f ρ σ H E r q => hb _ f ρ σ H E r <| by
  unfold gTry at q
  cases e : gb ρ with
  | bad => rw [e] at q; exact q
  | ok a =>
    rw [e] at q
    cases a with
    | nx ρ' => exact q
    | rt d => exact q
    | bk ρ' => exact q
    | ct ρ' => exact q
  | ex z =>
    rw [e] at q
    have q : PoS K W L f Δn Δb Δc (if yes.contains z.cls then noX (gh (ρ.set i (exnD z.cls z.arg))) else if no.contains z.cls then .ex z else .bad) E := q
    intro H' s C' hC'
    by_cases hy : yes.contains z.cls = true
    · rw [if_pos hy] at q
      obtain ⟨D, h1, h2, h3⟩ := hyes z.cls (by simpa using hy)
      rw [h2] at hC'
      cases hC'
      have key : ∀ d, XdAt H' d z.arg → wX K (.ref C) i ts Wout E (.ref C') d σ H' := fun d hd => by
        refine ⟨true, PySem.W.exm_ref T.x.hs T.x.hd T.t h3, fun _ a na => ?_, (fun z => nomatch z)⟩
        refine hsu f (ρ.set i (exnD z.cls z.arg)) _ _ (goneE i E) ((r.mono (s.trans (same_upd na))).setIm hi (.exn h1 upd_same (hd.same (same_upd na)))) ?_
        cases e2 : gh (ρ.set i (exnD z.cls z.arg)) with
        | bad => rw [e2] at q; exact q
        | ex y => rw [e2] at q; exact q.elim
        | ok fl =>
          rw [e2] at q
          cases fl with
          | nx ρ' => exact fun σ' H2 r' => q _ H2 (r'.gone en)
          | rt d => exact q
          | bk ρ' => exact fun σ' H2 r' => q _ H2 (r'.gone eb)
          | ct ρ' => exact fun σ' H2 r' => q _ H2 (r'.gone ec)
      cases ea : z.arg with
      | none => exact key none (by rw [ea]; exact rfl)
      | some m => exact fun d hd => key (some d) (by rw [ea]; exact ⟨d, rfl, hd⟩)
    · rw [if_neg hy] at q
      by_cases hn : no.contains z.cls = true
      · rw [if_pos hn] at q
        obtain ⟨D, h1, h2, h3⟩ := hno z.cls (by simpa using hn)
        have w := hW z σ H' (q σ H' (r.ext.trans s)) C' hC'
        rw [h2] at hC'
        cases hC'
        have key : ∀ d, Wout (.ref C') d σ H' → wX K (.ref C) i ts Wout E (.ref C') d σ H' := fun d w => ⟨false, PySem.W.exm_ref T.x.hs T.x.hd T.t h3, (fun z => nomatch z), fun _ => w⟩
        cases ea : z.arg with
        | none => rw [ea] at w; exact key none w
        | some m => rw [ea] at w; exact fun d hd => key (some d) (w d hd)
      · rw [if_neg hn] at q
        exact q.elim
end
section
variable {X : Cx} {K : PySem.W.Frag} {W : Wt} {L : Lk} {Δ Δ1 Δn Δb Δc : List Kd} {e c : Expr} {te : TE} {tt : TT} {t u ts : TS} {g : Gd} {gt : List Dt → O Bool} {ga gb gh g1 g2 : Gs} {fr av : Bool} {k : Rk} {mg : Str → Option Value} {st : Stmt} {sts sts2 : List Stmt} {pos pos' : Pos}
theorem y_drop (h : PD X K W Δ e te k g) (hs : swapsWith e none pos.line X.env = pure false := by rfl) : SDx X K W L Δ Δ Δb Δc (.Expr e pos) (tDrop te) (gDrop g) := ⟨ps_expr h.pe hs, h.hK, sx_drop h.se⟩
theorem y_one (h : SDx X K W L Δ Δn Δb Δc st t g1) : BDx X K W L Δ Δn Δb Δc [st] t g1 := ⟨pss_one h.ps, h.hK, h.ss⟩
theorem BDx.to (Δn' : List Kd) (h : BDx X K W L Δ Δn Δb Δc sts t g1) (l : leA Δn Δn' = true := by rfl) : BDx X K W L Δ Δn' Δb Δc sts t g1 := ⟨h.ps, h.hK, h.ss.post l⟩
theorem z_tryX {C : Addr} {x n : Str} {yes no : List Str} {tb : WX → TS} {Wout : WX} {b₀ : Stmt} {np ph : Pos} {body suite : List Stmt} (i : Nat) (T : ExT K mg x C) (tk : Takes X Wout)
    (hyes : ∀ y ∈ yes, ∃ D, PySem.W.nsIn K mainGlobals y = some (some (.ref D)) ∧ mg y = some (.ref D) ∧ PySem.W.subIn K (.ref D) (.ref C) = some true)
    (hno : ∀ y ∈ no, ∃ D, PySem.W.nsIn K mainGlobals y = some (some (.ref D)) ∧ mg y = some (.ref D) ∧ PySem.W.subIn K (.ref D) (.ref C) = some false)
    (hW : ∀ e σ H, W e σ H → wtOf mg Wout e σ H) (hN : X.N.Nodup)
    (hb : ∀ (Wx : WX) (pn : List (Addr × Obj)) (xe : Value → Shared → Prop), Takes (X.tr pn xe) Wx → BDx (X.tr pn xe) K (wtOf mg Wx) L Δ Δn Δb Δc body (tb Wx) gb)
    (hsu : ∀ (a : Addr) (pn : List (Addr × Obj)), BD (X.suite a pn) K W0 L (Δ.set i (.im true)) Δn Δb Δc (b₀ :: suite) ts gh)
    (hi : i < Δ.length := by decide) (en : Δn[i]? = some .no := by rfl) (eb : Δb[i]? = some .no := by rfl) (ec : Δc[i]? = some .no := by rfl)
    (hn : X.N[i]? = some n := by rfl) (hln : X.env.kindOf n = some .local := by rfl) (hmg : X.mg = mg := by rfl) (hK : X.K = K := by rfl) (hs : X.stack = X.env :: X.outer := by rfl) (hf : X.env.frame = some X.env.locals := by rfl) (hex : X.ex = [] := by rfl)
    (hg : Gl X x := by rfl) (hdb : (x == ("__debug__" : Str)) = false := by decide) :
    SD X K W L Δ Δn Δb Δc (.Try body [.ExceptHandler (some (.Name x np)) (some n) (b₀ :: suite) ph] [] [] pos) (fun D σ H => tb (wX K (.ref C) i ts Wout D) D σ H) (gTry gb yes no i gh) := by
  subst hK hmg
  exact ⟨ps_tryX hs hf hex hN hn hln ⟨hg, hdb, .inl T.g⟩ tk (fun W pn xe tk => (hb W pn xe tk).ps) (fun a pn => (hsu a pn).ps), rfl, s_tryX T hyes hno hW hi en eb ec (fun Wx => (hb Wx [] (fun _ _ => True) (fun _ _ _ => trivial)).ss) (hsu 0 []).ss⟩
end
theorem co_nil {K : PySem.W.Frag} {mg : Str → Option Value} {C : Addr} {b : Bool} : ∀ y ∈ ([] : List Str), ∃ D, PySem.W.nsIn K mainGlobals y = some (some (.ref D)) ∧ mg y = some (.ref D) ∧ PySem.W.subIn K (.ref D) (.ref C) = some b := fun y h => nomatch h
theorem co_cons {K : PySem.W.Frag} {mg : Str → Option Value} {C D : Addr} {b : Bool} {y : Str} {ys : List Str} (T : ExT K mg y D) (e : PySem.W.subIn K (.ref D) (.ref C) = some b) (h : ∀ y ∈ ys, ∃ D, PySem.W.nsIn K mainGlobals y = some (some (.ref D)) ∧ mg y = some (.ref D) ∧ PySem.W.subIn K (.ref D) (.ref C) = some b) :
    ∀ z ∈ y :: ys, ∃ D, PySem.W.nsIn K mainGlobals z = some (some (.ref D)) ∧ mg z = some (.ref D) ∧ PySem.W.subIn K (.ref D) (.ref C) = some b := fun z hz => by
  rcases List.mem_cons.mp hz with rfl | hz
  · exact ⟨D, T.n, T.g, e⟩
  · exact h z hz
def isxTab (tab : List (Str × Bool)) (c : Str) : Option Bool := (tab.find? fun p => p.1 == c).map (·.2)
def TabOk (K : PySem.W.Frag) (tab : List (Str × Bool)) (ans : Addr → Option Bool) : Prop := ∀ p ∈ tab, ∃ D, PySem.W.nsIn K mainGlobals p.1 = some (some (.ref D)) ∧ ExcC K D ∧ ans D = some p.2
theorem tab_nil {K : PySem.W.Frag} {ans : Addr → Option Bool} : TabOk K [] ans := fun p h => nomatch h
theorem tab_cons {K : PySem.W.Frag} {mg : Str → Option Value} {ans : Addr → Option Bool} {c : Str} {b : Bool} {D : Addr} {tab : List (Str × Bool)} (T : ExT K mg c D) (e : ans D = some b) (h : TabOk K tab ans) : TabOk K ((c, b) :: tab) ans := fun p hp => by
  rcases List.mem_cons.mp hp with rfl | hp
  · exact ⟨D, T.n, T.x, e⟩
  · exact h p hp
theorem kit_ref {K : PySem.W.Frag} {mg : Str → Option Value} {c : Str} {C D : Addr} {b : Bool} (T : ExT K mg c C) (e : PySem.W.subIn K (.ref D) (.ref C) = some b) (ed : D = C → b = true) : PySem.W.kitOne K (.ref D) (.ref C) = some b := by
  unfold PySem.W.kitOne PySem.W.kitCls
  by_cases h : (Value.ref D == Value.ref C) = true
  · rw [if_pos h, ed (Value.ref.inj (beq_iff_eq.mp h))]
  · rw [if_neg h]
    have e1 : ((PySem.W.clsIn K C).isSome && PySem.W.typeIn K (.ref C) == some (.type "type")) = true := by
      obtain ⟨cd, hc, _⟩ := PySem.W.any_some T.x.hd
      rw [hc, T.t]
      rfl
    show (if ((PySem.W.clsIn K C).isSome && PySem.W.typeIn K (.ref C) == some (.type "type")) = true then PySem.W.subIn K (.ref D) (.ref C) else none) = some b
    rw [if_pos e1]
    exact e
theorem kit_bi {K : PySem.W.Frag} {D : Addr} {n : String} {b : Bool} (e : PySem.W.subIn K (.ref D) (.type n) = some b) (hm : PySem.W.kitMeta n = true := by decide +kernel) : PySem.W.kitOne K (.ref D) (.type n) = some b := by
  unfold PySem.W.kitOne PySem.W.kitCls
  rw [if_neg (show ¬ (Value.ref D == Value.type n) = true from by simp)]
  show (if PySem.W.kitMeta n = true then PySem.W.subIn K (.ref D) (.type n) else none) = some b
  rw [if_pos hm]
  exact e
theorem pe_cls {X : Cx} {x : Str} {C : Addr} {p : Pos} (hm : X.mg x = some (.ref C)) (hg : Gl X x) (hdb : (x == ("__debug__" : Str)) = false) : PE X (.Name x p) (tC (.ref C)) := ⟨fun pins s σ H Q I h => ld_glob I hg hm ⟨.ref C, H, I, rfl, h⟩ hdb⟩
section
variable {X : Cx} {K : PySem.W.Frag} {W : Wt} {Δ : List Kd} {e : Expr} {te : TE} {g : Gd} {av fr : Bool} {pos p p2 : Pos} {mg : Str → Option Value} {tab : List (Str × Bool)}
end
theorem kit_yes {K : PySem.W.Frag} {mg : Str → Option Value} {c : Str} {C D : Addr} (T : ExT K mg c C) (e : PySem.W.subIn K (.ref D) (.ref C) = some true) : PySem.W.kitOne K (.ref D) (.ref C) = some true := kit_ref T e fun _ => rfl
theorem kit_no {K : PySem.W.Frag} {mg : Str → Option Value} {c : Str} {C D : Addr} (T : ExT K mg c C) (e : PySem.W.subIn K (.ref D) (.ref C) = some false) (s : PySem.W.subIn K (.ref D) (.ref D) = some true) : PySem.W.kitOne K (.ref D) (.ref C) = some false := kit_ref T e fun ed => by
  subst ed
  rw [s] at e
  cases e
theorem SE.nvD {K : PySem.W.Frag} {W : Wt} {Δ : List Kd} {te : TE} {g : Gd} {fr : Bool} (h : SE K W Δ te (.new .dk fr) g) : SE K W Δ te (.v true fr) g := fun f ρ σ H Q r q =>
  h f ρ σ H Q r <| by
    cases e : g ρ with
    | bad => rw [e] at q; exact q
    | ex z => rw [e] at q; exact q
    | ok d =>
      rw [e] at q
      intro p H' np s x
      obtain ⟨kvs, es, ed, hp, x⟩ := x
      subst ed
      obtain ⟨f1, f2, f3⟩ := r.fresh np
      have ks : ∀ {kvs : List (Key × V)} {es : List (Dt × Dt)}, KvA K (fun a => FM f Δ σ true fr a ∧ a ≠ p) H' kvs es → kvs.map (fun kv => keyD kv.1) = es.map (fun e => e.1) := fun {kvs es} x => by
        induction x with
        | nil => rfl
        | cons h r ih => rw [List.map_cons, List.map_cons, ih]
      have vs : ∀ {kvs : List (Key × V)} {es : List (Dt × Dt)}, KvA K (fun a => FM f Δ σ true fr a ∧ a ≠ p) H' kvs es → RpA K (FM f Δ σ true fr) H' (kvs.map fun kv => kv.2) (es.map fun e => e.2) := fun {kvs es} x => by
        induction x with
        | nil => exact .nil
        | cons h r ih => exact .cons (h.weak fun _ y => y.1) ih
      exact q _ H' s (.dic hp ⟨fun _ => ⟨f1, f2⟩, fun _ => r.g0 p f3⟩ (ks x) (vs x))
theorem PD.nvD {X : Cx} {K : PySem.W.Frag} {W : Wt} {Δ : List Kd} {e : Expr} {te : TE} {g : Gd} {fr : Bool} (h : PD X K W Δ e te (.new .dk fr) g) : PD X K W Δ e te (.v true fr) g := ⟨h.pe, h.hK, h.se.nvD⟩
end Sim
end T_SimXB
section T_SimXD
set_option Elab.async false
set_option linter.all false
set_option maxRecDepth 100000
namespace Sim
open PySem PySem.Spec L2
open PyProof.Rows hiding St
section
variable {P : Program} {w : World} {K : PySem.W.Frag} {mg : Str → Option Value} {base : Heap} {x qual : Str} {st : Stmt} {fa : Addr} {fd : FuncData} {N ps : List Str} {k n m : Nat} {Δn : List Kd} {g : Gs} {dvs : List V} {kws : List (Str × V)}
end
end Sim
end T_SimXD
section T_SimSk
set_option Elab.async false
set_option linter.all false
set_option maxRecDepth 100000
namespace Sim
open PySem PySem.Spec L2
open PyProof.Rows hiding St
open PySem.W (alike alikeAll dataLe AllAlike Sortable EachIs keyH_end KeepsBut KeyedOut keyedOut_each SortsAt dataKind copyHeap copyHeap_at copyHeap_old sorted_of_sort)
def isTc : Dt → Bool
  | .tuple (_ :: _) => true
  | _ => false
def notTN : Dt → Bool
  | .tuple _ => false
  | .none => false
  | _ => true
def sortK {α : Type} (xs : List α) (ks : List Dt) : List α := ((xs.zip ks).mergeSort (dataLe false Prod.snd)).map Prod.fst
section
variable {K : PySem.W.Frag} {F F' : Addr → Prop} {H H' : Hp} {q : Addr}
theorem canA_iff : ∀ {ds : List Dt}, (∀ d ∈ ds, PyData.canLay0 d = true) → PyData.canLayAll0 ds = true
  | [], _ => by simp [PyData.canLayAll0]
  | d :: ds, h => by
    have q := canA_iff fun e he => h e (List.mem_cons_of_mem _ he)
    simp [PyData.canLayAll0, h d List.mem_cons_self, q]
end
section
variable {X : Cx} {pins : List (Addr × Obj)} {σ : L2.St} {H : Hp} {s : Shared}
theorem vals_each : ∀ {vs : List V} {us : List Value}, Vals vs us → ∀ {ks : List Dt}, ks.length = vs.length → EachIs (fun u (p : V × Dt) => RelV p.1 u) us (vs.zip ks)
  | [], _, r, ks, _ => by cases r; exact .nil
  | v :: vs, _, r, [], h => by simp at h
  | v :: vs, _, r, k :: ks, h => by
    cases r with
    | cons h1 h2 => exact .cons h1 (vals_each h2 (by simpa using h))
theorem each_vals : ∀ {us : List Value} {ps : List (V × Dt)}, EachIs (fun u (p : V × Dt) => RelV p.1 u) us ps → Vals (ps.map (·.1)) us
  | _, _, .nil => .nil
  | _, _, .cons h t => .cons h (each_vals t)
theorem zip_snd : ∀ {xs : List V} {ks : List Dt}, ks.length = xs.length → (xs.zip ks).map Prod.snd = ks
  | [], [], _ => rfl
  | [], _ :: _, h => by simp at h
  | _ :: _, [], h => by simp at h
  | x :: xs, k :: ks, h => by rw [List.zip_cons_cons, List.map_cons, zip_snd (by simpa using h)]
end
theorem sortK_rp {K : PySem.W.Frag} {F : Addr → Prop} {H : Hp} {xs : List V} {ds ks : List Dt} (h : RpA K F H xs ds) (hl : ks.length = ds.length) : RpA K F H (sortK xs ks) (sortK ds ks) := by
  let L : List (V × Dt × Dt) := xs.zip (ds.zip ks)
  have hx := h.length
  have e1 : xs.zip ks = L.map fun t => (t.1, t.2.2) := by
    apply List.ext_getElem?
    intro i
    simp only [L, List.getElem?_map, List.getElem?_zip_eq_some, List.zip_eq_zipWith, List.getElem?_zipWith]
    cases a : xs[i]? <;> cases b : ds[i]? <;> cases c : ks[i]? <;> simp
    · have := List.getElem?_eq_none_iff.mp b
      have := (List.getElem?_eq_some_iff.mp a).1
      omega
  have e2 : ds.zip ks = L.map fun t => (t.2.1, t.2.2) := by
    apply List.ext_getElem?
    intro i
    simp only [L, List.getElem?_map, List.zip_eq_zipWith, List.getElem?_zipWith]
    cases a : xs[i]? <;> cases b : ds[i]? <;> cases c : ks[i]? <;> simp
    · have := List.getElem?_eq_none_iff.mp a
      have := (List.getElem?_eq_some_iff.mp b).1
      omega
  have m : ∀ t ∈ L, Rp K F H t.1 t.2.1 := fun t ht => by
    obtain ⟨i, hi, e⟩ := List.getElem_of_mem ht
    have h0 : L[i]? = some t := by rw [List.getElem?_eq_getElem hi, e]
    simp only [L, List.zip_eq_zipWith, List.getElem?_zipWith] at h0
    cases a : xs[i]? with
    | none => rw [a] at h0; simp at h0
    | some x =>
      obtain ⟨d, hd, hr⟩ := h.get a
      rw [a, hd] at h0
      cases c : ks[i]? with
      | none => rw [c] at h0; simp at h0
      | some k =>
        rw [c] at h0
        simp at h0
        rw [← h0]
        exact hr
  have q : ∀ T : List (V × Dt × Dt), (∀ t ∈ T, Rp K F H t.1 t.2.1) → RpA K F H (T.map (·.1)) (T.map fun t => t.2.1) := fun T => by
    induction T with
    | nil => exact fun _ => .nil
    | cons t T ih => exact fun hT => .cons (hT t List.mem_cons_self) (ih fun t ht => hT t (List.mem_cons_of_mem _ ht))
  have s1 : sortK xs ks = (L.mergeSort fun a b => PySem.W.dataLe false (fun t : V × Dt × Dt => t.2.2) a b).map (·.1) := by
    unfold sortK
    rw [e1, ← List.map_mergeSort (f := fun t : V × Dt × Dt => (t.1, t.2.2)) (r := fun a b => PySem.W.dataLe false (fun t : V × Dt × Dt => t.2.2) a b) (s := PySem.W.dataLe false Prod.snd) (fun a _ b _ => rfl), List.map_map]
    rfl
  have s2 : sortK ds ks = (L.mergeSort fun a b => PySem.W.dataLe false (fun t : V × Dt × Dt => t.2.2) a b).map fun t => t.2.1 := by
    unfold sortK
    rw [e2, ← List.map_mergeSort (f := fun t : V × Dt × Dt => (t.2.1, t.2.2)) (r := fun a b => PySem.W.dataLe false (fun t : V × Dt × Dt => t.2.2) a b) (s := PySem.W.dataLe false Prod.snd) (fun a _ b _ => rfl), List.map_map]
    rfl
  rw [s1, s2]
  exact q _ fun t ht => m t (List.mem_mergeSort.mp ht)
section
variable {X : Cx} {K : PySem.W.Frag} {W : Wt} {Δ : List Kd} {e : Expr} {tA : TA} {gA : List Dt → O (List Dt)} {fr : Bool} {pos : Pos}
end
def okData (ks : List Dt) : Bool := (ks.all fun d => ks.all fun e => alike d e) && (ks.all isTc || ks.all notTN) && ks.all fun d => PyData.canLay0 d && decide (d.depth ≤ 50)
theorem okData_al {ks : List Dt} (h : okData ks = true) : AllAlike ks := by
  unfold okData at h
  rw [Bool.and_eq_true, Bool.and_eq_true] at h
  intro d hd e he
  exact List.all_eq_true.mp (List.all_eq_true.mp h.1.1 d hd) e he
theorem okData_so {ks : List Dt} (h : okData ks = true) : Sortable ks := by
  unfold okData at h
  rw [Bool.and_eq_true, Bool.and_eq_true, Bool.or_eq_true] at h
  rcases h.1.2 with h | h
  · refine .inl fun d hd => ?_
    have q := List.all_eq_true.mp h d hd
    unfold isTc at q
    split at q
    · exact ⟨_, _, rfl⟩
    · cases q
  · refine .inr fun d hd => ?_
    have q := List.all_eq_true.mp h d hd
    refine ⟨fun e => ?_, fun xs e => ?_⟩
    · subst e; cases q
    · subst e; cases q
theorem okData_of {ks : List Dt} (h : okData ks = true) : ∀ d ∈ ks, PyData.canLay0 d = true ∧ d.depth ≤ 50 := by
  unfold okData at h
  rw [Bool.and_eq_true, Bool.and_eq_true] at h
  intro d hd
  have q := List.all_eq_true.mp h.2 d hd
  rw [Bool.and_eq_true, decide_eq_true_eq] at q
  exact q
def rSortD (K : PySem.W.Frag) : List V → Hp → VK → Prop := fun vs H Q => ∃ (a : Addr) (xs : List V) (ds : List Dt), vs = [V.ref a] ∧ SqL K H a xs ∧ DpAll K H xs ds ∧ ds.length = xs.length ∧ okData ds = true ∧ ∀ p, H p = none → Q (.ref p) (upd H p (.lst (sortK xs ds)))
def hSortD : Dt → O Dt := fun d => match d with
  | .list ds => if okData ds then .ok (.list (sortK ds ds)) else .bad
  | _ => .bad
section
variable {X : Cx} {K : PySem.W.Frag} {W : Wt} {Δ : List Kd} {e : Expr} {es : List Expr} {tA : TA} {gA : List Dt → O (List Dt)} {fr : Bool} {pos : Pos}
theorem cr_sortD {k : Nat} (hr : Room k X.A) : CallR X (.builtin "sorted") (rSortD X.K) := by
  intro pins s σ H vs us Q I r h
  obtain ⟨a, xs, ds, rfl, hs, hdp, hl, hk, q⟩ := h
  rw [Vals.ref1 r]
  obtain ⟨its, rv, hpl, hz⟩ := I.list hs
  obtain ⟨as, hrd⟩ := Dp.readsAll I _ _ _ hdp rv
  have hvl := rv.length
  have hbs : (xs.zip ds).map Prod.snd = ds := zip_snd hl
  have hlz : (xs.zip ds).length = its.length := by
    rw [List.length_zip]
    omega
  refine PySem.W.sorted_data (enc := Prod.snd) (bs := xs.zip ds) hpl.isList (vals_each rv hl) (PySem.W.readsAll_each Prod.snd (by rw [hbs]; exact hrd)) (by rw [hbs]; exact okData_al hk) (by rw [hbs]; exact okData_so hk) (by rw [hlz, ← hvl]; exact hz) (fun b hb => ?_) fun out lo eo => ?_
  · have := (okData_of hk b.2 (by rw [← hbs]; exact List.mem_map.mpr ⟨b, hb, rfl⟩)).2
    have := hr.un
    omega
  · obtain ⟨ep, he'⟩ := PyProof.Rows.sortedAll_at s.heap its out.toArray
    have ls : (sortK xs ds).length = its.length := by
      unfold sortK
      rw [List.length_map, List.length_mergeSort, hlz]
    exact ⟨.ref _, upd H (s.heap.objs.size + 1) (.lst (sortK xs ds)), I.laid (t' := s.toks) (fun _ _ => PyProof.Rows.sortedAll_old) (Nat.le_succ _) ⟨by rw [ls, ← hvl]; exact hz, out, ep, each_vals eo, he'⟩, rfl, q _ (I.hok.fresh (Nat.le_succ _))⟩
theorem se_sortD (ha : SA K W Δ tA true fr gA) : SE K W Δ (tCB (rSortD K) tA) (.new .l fr) (gCB (one hSortD) gA) := fun f ρ σ H Q R q => by
  refine ha f ρ σ H _ R ?_
  unfold gCB at q
  cases e1 : gA ρ with
  | bad => rw [e1] at q; exact q
  | ex z => rw [e1] at q; exact q
  | ok ds =>
    rw [e1, bnd_ok] at q
    intro vs H1 s1 x1
    rcases one_eq (h := hSortD) (ds := ds) with ⟨d, rfl, e⟩ | e
    · rw [e] at q
      cases x1 with
      | cons x1 xr =>
        cases xr
        cases d with
        | list es =>
          obtain ⟨a, xs, rfl, hs, r⟩ := x1.sql
          unfold hSortD at q
          simp only at q
          by_cases hk : okData es = true
          · rw [if_pos hk] at q
            refine ⟨a, xs, es, rfl, hs, r.dp (canA_iff fun d hd => (okData_of hk d hd).1), r.length.symm, hk, fun p n1 => ?_⟩
            exact q p _ (s1.free n1) (s1.trans (same_upd n1)) ⟨_, _, rfl, upd_same, (sortK_rp r rfl).mono (same_upd n1) fun a y z => ⟨y, fun e => z (e ▸ n1)⟩⟩
          · rw [if_neg hk] at q
            exact q.elim
        | _ => exact q.elim
    · rw [e] at q
      exact q.elim
theorem x_sortD {k : Nat} {x : Str} {p : Pos} (hr : Room k X.A) (hm : X.mg x = none) (h : AD X K W Δ (e :: es) tA true fr gA) (hv : bootBuiltins x = some (.builtin "sorted") := by decide +kernel) (hg : Gl X x := by rfl) (hn : x ≠ "__name__" := by decide) (hdb : (x == ("__debug__" : Str)) = false := by decide)
    (he : starEach (e :: es) X.env = (false, eval e X.env) :: starEach es X.env := by rfl) (hpl : (backTo pos (starEach es X.env)).any (·.1) = false := by rfl) :
    PD X K W Δ (.Call (.Name x p) (e :: es) [] pos) (tCB (rSortD K) tA) (.new .l fr) (gCB (one hSortD) gA) :=
  ⟨pe_callB (by have q := cr_sortD (X := X) hr; rw [h.hK] at q; exact q) hg hm hv h.pa hn hdb he hpl, h.hK, se_sortD h.sa⟩
end
end Sim
end T_SimSk
section T_SimCl
set_option Elab.async false
set_option linter.all false
set_option maxRecDepth 100000
namespace Sim
open PySem PySem.Spec L2
open PyProof.Rows hiding St
section
variable {X : Cx} {e : Expr} {es : List Expr} {ta : TA} {p p1 p2 pos : Pos}
theorem pe_clsinit {pl : Sem Bool} {x : Str} {P : Addr} (hm : X.mg x = some (.ref P)) (R : ClX.CRead X.K P (.type "type")) (vV : PySem.W.findCls X.K (.ref P) (.type "type") "__init__" = some (.val (.builtin "ValueError.__init__"))) (ha : PA X (e :: es) ta)
    (hg : Gl X x := by rfl) (hdb : (x == ("__debug__" : Str)) = false := by decide)
    (hc : eval (.Call (.Attribute (.Name x p1) "__init__" p2) (e :: es) [] pos) X.env = (do
      let ov ← eval (.Name x p1) X.env
      standAt p2.atName
      let (f, first) ← holding [ov] (getMethod ov "__init__" pl)
      callWith pos f first (backTo pos (starEach (e :: es) X.env)) (backToKw pos (keywordEach [] X.env))) := by rfl)
    (he : starEach (e :: es) X.env = (false, eval e X.env) :: starEach es X.env := by rfl) (hpl : (backTo pos (starEach es X.env)).any (·.1) = false := by rfl) :
    PE X (.Call (.Attribute (.Name x p1) "__init__" p2) (e :: es) [] pos) (tVeI X.K ta) := by
  refine ⟨fun pins s σ H Q I h => ?_⟩
  refine PySem.W.methodCall_KW (ld_glob I hg hm ?_ hdb) hc
  refine PySem.W.method_cls I.kIn R.ga (PySem.W.cls_value I.kIn R.rd vV (by decide +kernel) ?_)
  show wpAny _ _ (callWith pos (Value.builtin "ValueError.__init__") [] (backTo pos (starEach (e :: es) X.env)) []) _ _ _
  refine PyProof.Rows.callWith_method1 (thn (ha.run pos pins _ σ H _ (I.tok _) h) fun us s1 ⟨vs, H1, I1, r1, a, C, ws, ev, hl, T, ea, q⟩ => ?_) he hpl
  subst ev
  cases r1 with
  | @cons _ u0 _ ur ra rw' =>
    obtain rfl : u0 = Value.ref a := ra
    have hlen : ur.length ≤ sizeLine := by
      rw [← Paired.length rw', sizeLine_eq]
      omega
    exact oinit_ok T I1 ea hlen fun s' J => ⟨.non, H1, J, rfl, q⟩
end
def spMomK (K : PySem.W.Frag) : Sp := fun vs H Q _ => ∃ (a C : Addr) (v : V), vs = [.ref a, v] ∧ OexC K C ∧ PySem.W.findIn K (.ref C) "moment" = some none ∧ H a = some (exo a C none) ∧ ∀ dx, H dx = none → dx ≠ a → Q .non (upd (upd H dx (exd dx [("moment", v)])) a (exo a C (some dx)))
structure ExI (P : Program) (w : World) (K : PySem.W.Frag) (mg : Str → Option Value) (base : Heap) (c : Str) (C : Addr) : Prop where
  T : ExT K mg c C
  O : OexC K C
  hno : PySem.W.findIn K (.ref C) "moment" = some none
  f : ∃ fI fd, PySem.W.findIn K (.ref C) "__init__" = some (some (.ref fI)) ∧ PySem.W.typeIn K (.ref fI) = some (.type "function") ∧ FnOk P w K mg base CX0 1 fI fd ["self", "moment"] (spMomK K) ∧ Binds K fd ["self", "moment"] []
def gRaise1 (c : Str) (g : Gd) : Gs := fun ρ => match g ρ with
  | .ok (.int i) => .ex ⟨c, some i⟩
  | _ => .bad
theorem z_raise1 {X : Cx} {K : PySem.W.Frag} {L : Lk} {Δ Δn Δb Δc : List Kd} {Wx : WX} {mg : Str → Option Value} {c : Str} {C : Addr} {e : Expr} {te : TE} {g : Gd} {av fr : Bool} {p pos pos' : Pos} (tk : Takes X Wx) (T : ExI X.prog X.w X.K X.mg X.base c C) (hr : Room 2 X.A)
    (h : PD X K (wtOf mg Wx) Δ e te (.v av fr) g)
    (hmg : X.mg = mg := by rfl) (hc : X.calm = true := by rfl) (hg : Gl X c := by rfl) (hdb : (c == ("__debug__" : Str)) = false := by decide)
    (he : starEach [e] X.env = (false, eval e X.env) :: starEach [] X.env := by rfl) (hpl : (backTo pos (starEach [] X.env)).any (·.1) = false := by rfl) :
    SD X K (wtOf mg Wx) L Δ Δn Δb Δc (.Raise (some (.Call (.Name c p) [e] [] pos)) none pos') (fun _ σ H => tMkO C (spMomK K) [] (tCons te tNil) σ H fun cls d H' => Wx cls d σ H') (gRaise1 c g) := by
  have hK := h.hK
  subst hK hmg
  obtain ⟨fI, fd, iC, tI, F, B⟩ := T.f
  refine ⟨ps_raise hc tk (pmk_oex (CX := CX0) T.O iC tI F hr B .nil pass0 hg T.T.g (pa_cons h.pe pa_nil he) hdb he hpl), rfl, fun f ρ σ H E r q => ?_⟩
  refine h.se f ρ σ H _ r ?_
  unfold gRaise1 at q
  cases e1 : g ρ with
  | bad => rw [e1] at q; exact q.elim
  | ex z => rw [e1] at q; exact q.elim
  | ok d =>
    rw [e1] at q
    intro v H1 s1 x1
    cases d with
    | int i =>
      have ev : v = .int i := by cases x1; rfl
      subst ev
      refine ⟨by simp, fun a na => ⟨a, C, .int i, rfl, T.O, T.hno, upd_same, fun dx ndx ne => ?_⟩⟩
      have ndx1 : H1 dx = none := by rw [upd_ne ne] at ndx; exact ndx
      refine ⟨rfl, dx, _, upd_same, by rw [upd_ne ne, upd_same], ndx1, ?_⟩
      refine q σ (upd (del _ a) dx (.xd [("moment", .int i)])) (r.ext.trans fun b o hb => ?_) C T.T.g dx upd_same
      have h1 := s1 b o hb
      have n1 : b ≠ a := fun z => by rw [z, na] at h1; cases h1
      have n2 : b ≠ dx := fun z => by rw [z, ndx1] at h1; cases h1
      rw [upd_ne n2, del_ne n1, upd_ne n1, upd_ne n2, upd_ne n1]
      exact h1
    | _ => exact q.elim
theorem rp_exnM {K : PySem.W.Frag} {F : Addr → Prop} {H : Hp} {v : V} {c : Str} {z : Dt} (x : Rp K F H v (.dict [(.none, .str c), (.none, z)])) : ∃ a C d m, v = .ref a ∧ z = exnM m ∧ PySem.W.nsIn K mainGlobals c = some (some (.ref C)) ∧ H a = some (ExH (.ref C) d a) ∧ XdAt H d m := by
  generalize ed : PyData.dict [(.none, .str c), (.none, z)] = d at x
  cases x with
  | dic h fa hk r =>
    rename_i a kvs es
    injection ed with ed
    subst ed
    cases kvs with
    | nil => cases hk
    | cons kv kvs =>
      rw [List.map_cons, List.map_cons] at hk
      injection hk with h1 h2
      obtain ⟨k, w⟩ := kv
      cases k <;> cases h1
  | exn n h hx =>
    rename_i a C cls d m
    injection ed with ed
    injection ed with e1 e2
    injection e1 with _ e1
    injection e1 with e1
    injection e2 with e2 _
    injection e2 with _ e2
    subst e1
    exact ⟨a, C, d, m, rfl, e2, n, h, hx⟩
  | _ => cases ed
def rIsY (K : PySem.W.Frag) : List V → Hp → VK → Prop := fun xs H Q => ∃ (a D : Addr) (d : Option Addr) (m : Option Int) (c : V) (cv : Value) (b : Bool), xs = [.ref a, c] ∧ H a = some (ExH (.ref D) d a) ∧ XdAt H d m ∧ ExcC K D ∧ (∀ u, RelV c u → u = cv) ∧ PySem.W.kitOne K (.ref D) cv = some b ∧ Q (.bl b) H
theorem inst_at {X : Cx} {pins : List (Addr × Obj)} {σ : L2.St} {H : Hp} {s : Shared} {a D : Addr} {d : Option Addr} {m : Option Int} (I : Inv X pins σ H s) (ha : H a = some (ExH (.ref D) d a)) (hx : XdAt H d m) : ∃ (oe : Obj) (od : Option Obj), PySem.W.InstAt s.heap a oe D od := by
  obtain ⟨⟨oe, vs, ho, hz, hv⟩, _, _⟩ := I.hok a _ ha
  cases m with
  | none =>
    have hx : d = none := hx
    subst hx
    refine ⟨oe, none, ?_⟩
    obtain ⟨oc, od, oda, osl⟩ := oe
    obtain ⟨h1, h2⟩ := hz
    dsimp only at h1 h2 hv
    subst h1 h2 hv
    exact ⟨ho, rfl, rfl, trivial⟩
  | some i =>
    obtain ⟨dd, rfl, hd⟩ := hx
    have hx : ObjOk X.prog X.w H s.heap dd (.xd [("moment", .int i)]) := I.hok dd _ hd
    obtain ⟨mA, hns, hr⟩ := hx
    obtain ⟨od, ho2, hl⟩ := lookIn_ns hns
    exact ⟨oe, some od, ho, hz.1, by unfold PySem.W.notCls; rw [hv] <;> rfl, by rw [hz.2]; exact ho2⟩
theorem call_isY {X : Cx} : CallR X (.builtin "isinstance") (rIsY X.K) := by
  intro pins s σ H xs us Q I r h
  obtain ⟨a, D, d, m, c, cv, b, rfl, ha, hx, C, hcv, e, q⟩ := h
  cases r with
  | cons rx rr =>
    cases rr with
    | cons rt rr =>
      cases rr
      cases rx
      have ec := hcv _ rt
      subst ec
      obtain ⟨oe, od, J⟩ := inst_at I ha hx
      have hcl : (PySem.W.clsIn X.K D).isSome = true := by
        obtain ⟨cd, hc, _⟩ := PySem.W.any_some C.hd
        rw [hc]; rfl
      exact PySem.W.kia_one (PySem.W.kitx_exc hcl C.hg C.hk C.hs C.ha C.hn C.ht C.hm) I.kIn J e (fun z => nomatch z) fun tk => ⟨.bl b, H, I.kept (t' := tk) fun _ _ z => z, rfl, q⟩
def hIsY (tab : List (Str × Bool)) : Dt → O Dt := fun d => match d with
  | .dict [(.none, .str c), (.none, _)] => (match isxTab tab c with
    | some b => .ok (.bool b)
    | none => .bad)
  | _ => .bad
theorem tab_at {K : PySem.W.Frag} {tab : List (Str × Bool)} {ans : Addr → Option Bool} {cn : Str} {b : Bool} {C : Addr} (ht : TabOk K tab ans) (et : isxTab tab cn = some b) (hn : PySem.W.nsIn K mainGlobals cn = some (some (.ref C))) : ExcC K C ∧ ans C = some b := by
  unfold isxTab at et
  obtain ⟨p, ep, eb⟩ := Option.map_eq_some_iff.mp et
  have h1 := List.mem_of_find?_eq_some ep
  have h2 := List.find?_some ep
  have h2 : p.1 = cn := by simpa using h2
  obtain ⟨D, k1, k2, k3⟩ := ht p h1
  rw [h2, hn] at k1
  cases k1
  subst eb
  exact ⟨k2, k3⟩
theorem se_isY {K : PySem.W.Frag} {W : Wt} {Δ : List Kd} {te : TE} {g : Gd} {av fr : Bool} {c : V} {cv : Value} {tab : List (Str × Bool)} (hcv : ∀ u, RelV c u → u = cv) (ht : TabOk K tab fun D => PySem.W.kitOne K (.ref D) cv) (ha : SE K W Δ te (.v av fr) g) :
    SE K W Δ (tCB (rIsY K) (tCons te (tCons (tC c) tNil))) (.v true true) (gUn (hIsY tab) g) := fun f ρ σ H Q R q => by
  refine ha f ρ σ H _ R ?_
  unfold gUn at q
  cases e1 : g ρ with
  | bad => rw [e1] at q; exact q
  | ex z => rw [e1] at q; exact q
  | ok d =>
    rw [e1, bnd_ok] at q
    intro v H1 s1 x1
    unfold hIsY at q
    split at q
    · rename_i cn z
      obtain ⟨a, C, d, m, rfl, _, hn, hp, hx⟩ := rp_exnM x1
      cases et : isxTab tab cn with
      | none => rw [et] at q; exact q.elim
      | some b =>
        rw [et] at q
        obtain ⟨k2, k3⟩ := tab_at ht et hn
        exact ⟨a, C, d, m, c, cv, b, rfl, hp, hx, k2, hcv, k3, q _ H1 s1 (.bl _)⟩
    · exact q.elim
section
variable {X : Cx} {K : PySem.W.Frag} {W : Wt} {Δ : List Kd} {e : Expr} {te : TE} {g : Gd} {av fr : Bool} {pos p p2 : Pos} {mg : Str → Option Value} {tab : List (Str × Bool)}
theorem x_isY {x : Str} {C : Addr} (hm : X.mg "isinstance" = none) (hx : X.mg x = some (.ref C)) (ht : TabOk K tab fun D => PySem.W.kitOne K (.ref D) (.ref C)) (h : PD X K W Δ e te (.v av fr) g) (hg2 : Gl X x := by rfl) (hdb : (x == ("__debug__" : Str)) = false := by decide)
    (hg : Gl X "isinstance" := by rfl)
    (he : starEach [e, .Name x p2] X.env = (false, eval e X.env) :: starEach [.Name x p2] X.env := by rfl) (he2 : starEach [.Name x p2] X.env = (false, eval (.Name x p2) X.env) :: starEach [] X.env := by rfl) (hpl : (backTo pos (starEach [.Name x p2] X.env)).any (·.1) = false := by rfl) :
    PD X K W Δ (.Call (.Name "isinstance" p) [e, .Name x p2] [] pos) (tCB (rIsY K) (tCons te (tCons (tC (.ref C)) tNil))) (.v true true) (gUn (hIsY tab) g) :=
  ⟨pe_callB (by have q := call_isY (X := X); rw [h.hK] at q; exact q) hg hm (by decide +kernel) (pa_cons h.pe (pa_cons (pe_cls hx hg2 hdb) pa_nil he2) he) (by decide) (by decide) he hpl, h.hK, se_isY (fun u r => by cases r; rfl) ht h.se⟩
end
section
variable {X : Cx} {K : PySem.W.Frag} {W : Wt} {Δ : List Kd} {e : Expr} {es : List Expr} {te : TE} {tA : TA} {g : Gd} {av fr : Bool} {pos p p2 : Pos} {k2 : Nat} {vs : List V} {cvs : List Value} {tab : List (Str × Bool)}
theorem x_isYB {x : Str} {T : String} (hm : X.mg "isinstance" = none) (hm2 : X.mg x = none) (ht : TabOk K tab fun D => PySem.W.kitOne K (.ref D) (.type T)) (h : PD X K W Δ e te (.v av fr) g) (hv : bootBuiltins x = some (.type T) := by decide +kernel) (hg2 : Gl X x := by rfl) (hn : x ≠ "__name__" := by decide) (hdb : (x == ("__debug__" : Str)) = false := by decide)
    (hg : Gl X "isinstance" := by rfl)
    (he : starEach [e, .Name x p2] X.env = (false, eval e X.env) :: starEach [.Name x p2] X.env := by rfl) (he2 : starEach [.Name x p2] X.env = (false, eval (.Name x p2) X.env) :: starEach [] X.env := by rfl) (hpl : (backTo pos (starEach [.Name x p2] X.env)).any (·.1) = false := by rfl) :
    PD X K W Δ (.Call (.Name "isinstance" p) [e, .Name x p2] [] pos) (tCB (rIsY K) (tCons te (tCons (tC (.ty T)) tNil))) (.v true true) (gUn (hIsY tab) g) :=
  ⟨pe_callB (by have q := call_isY (X := X); rw [h.hK] at q; exact q) hg hm (by decide +kernel) (pa_cons h.pe (pa_cons (pe_bltn hg2 hm2 hv rfl hn hdb) pa_nil he2) he) (by decide) (by decide) he hpl, h.hK, se_isY (fun u r => r) ht h.se⟩
end
def tXm (K : PySem.W.Frag) (te : TE) : TE := fun σ H Q => te σ H fun x H1 => ∃ (a C dd : Addr) (i : Int), x = .ref a ∧ XfC K C ∧ PySem.W.findIn K (.ref C) "moment" = some none ∧ H1 a = some (ExH (.ref C) (some dd) a) ∧ H1 dd = some (.xd [("moment", .int i)]) ∧ Q (.int i) H1
theorem pe_xm {X : Cx} {e : Expr} {te : TE} {pos : Pos} (he : PE X e te) (hb : attributeBase e "moment" X.env (eval e X.env) = eval e X.env := by rfl) : PE X (.Attribute e "moment" pos) (tXm X.K te) := by
  refine ⟨fun pins s σ H Q I h => ?_⟩
  refine attr_of hb (thn (he.run pins s σ H _ I h) fun u s1 hh => ?_)
  obtain ⟨x, H1, I1, rx, a, C, dd, i, ex, T, hno, ha, ea, q⟩ := hh
  subst ex
  obtain rfl : u = Value.ref a := rx
  obtain ⟨⟨oe, vs, ho, hz, hv⟩, _, _⟩ := I1.hok a _ ha
  have hx : ObjOk X.prog X.w H1 s1.heap dd (.xd [("moment", .int i)]) := I1.hok dd _ ea
  obtain ⟨mA, hns, hr⟩ := hx
  obtain ⟨od, ho2, hl⟩ := lookIn_ns hns
  obtain ⟨u, hu, ru⟩ := RelO.some_of (v := V.int i) (o := mA "moment") (hr "moment")
  have J : PySem.W.InstAt s1.heap a oe C (some od) := ⟨ho, hz.1, by unfold PySem.W.notCls; rw [hv] <;> rfl, by rw [hz.2]; exact ho2⟩
  exact HandSPX.exc_get I1.kIn J T.ga T.gg T.exC (PySem.W.findObj_own T.hdC hno rfl (by rw [hl, hu])) (handed_of ru) ⟨_, H1, I1.tok _, ru, q⟩
def hMom (c : Str) : Dt → O Dt := fun d => match d with
  | .dict [(.none, .str c'), (.none, .int i)] => if c' = c then .ok (.int i) else .bad
  | _ => .bad
theorem se_xm {K : PySem.W.Frag} {W : Wt} {Δ : List Kd} {te : TE} {g : Gd} {av fr : Bool} {mg : Str → Option Value} {c : Str} {C : Addr} (T : ExT K mg c C) (hno : PySem.W.findIn K (.ref C) "moment" = some none) (ha : SE K W Δ te (.v av fr) g) :
    SE K W Δ (tXm K te) (.v true true) (gUn (hMom c) g) := fun f ρ σ H Q R q => by
  refine ha f ρ σ H _ R ?_
  unfold gUn at q
  cases e1 : g ρ with
  | bad => rw [e1] at q; exact q
  | ex z => rw [e1] at q; exact q
  | ok d =>
    rw [e1, bnd_ok] at q
    intro v H1 s1 x1
    unfold hMom at q
    split at q
    · rename_i cn i
      by_cases ec : cn = c
      · subst ec
        rw [if_pos rfl] at q
        obtain ⟨a, C', d, m, rfl, em, hn, hp, hx⟩ := rp_exnM x1
        rw [T.n] at hn
        cases hn
        cases m with
        | none => cases em
        | some j =>
          cases em
          obtain ⟨dd, rfl, hd⟩ := hx
          exact ⟨a, C, dd, i, rfl, ⟨T.x.hg, T.x.hk, T.x.hs, T.x.hd⟩, hno, hp, hd, q _ H1 s1 (.int _)⟩
      · rw [if_neg ec] at q
        exact q.elim
    · exact q.elim
theorem x_mom {X : Cx} {K : PySem.W.Frag} {W : Wt} {Δ : List Kd} {e : Expr} {te : TE} {g : Gd} {av fr : Bool} {pos : Pos} {mg : Str → Option Value} {c : Str} {C : Addr} (T : ExT K mg c C) (hno : PySem.W.findIn K (.ref C) "moment" = some none) (h : PD X K W Δ e te (.v av fr) g)
    (hb : attributeBase e "moment" X.env (eval e X.env) = eval e X.env := by rfl) : PD X K W Δ (.Attribute e "moment" pos) (tXm K te) (.v true true) (gUn (hMom c) g) := by
  have hK := h.hK
  subst hK
  exact ⟨pe_xm h.pe hb, rfl, se_xm T hno h.se⟩
theorem pe_new {X : Cx} {e : Expr} {t : L2.St → Hp → XK → Prop} (h : PMk X e t) : PE X e (fun σ H Q => t σ H fun cls d H1 => ∀ a, H1 a = none → Q (.ref a) (upd H1 a (ExH cls d a))) := by
  refine ⟨fun pins s σ H Q I q => wpAny_mono (h pins s σ H _ I q) (fun u s1 hu => ?_) fun _ _ z => z⟩
  obtain ⟨a, oe, vs, sI, H', cls, d, rfl, J, k, hne, ha, hz, hd, h1, na, os, ag, r, q⟩ := hu
  have J2 := J.laidN (t' := s1.toks) k hne na (exH_ok (cls := cls) (d := d) ha hz hd)
  exact ⟨.ref a, _, ⟨J2.ok, os.trans J2.os, ag, J2.base, J2.loc, J2.cell, J2.free, J2.freeC, J2.pin, J2.hok, J2.len⟩, rfl, q a na⟩
theorem x_new0 {X : Cx} {K : PySem.W.Frag} {W : Wt} {Δ : List Kd} {mg : Str → Option Value} {c : Str} {C : Addr} {p pos : Pos} (T : ExT K mg c C) (q : PySem.W.excIn K C veB "ValueError.__new__" = true)
    (hmg : X.mg = mg := by rfl) (hK : X.K = K := by rfl) (hg : Gl X c := by rfl) (hdb : (c == ("__debug__" : Str)) = false := by decide) :
    PD X K W Δ (.Call (.Name c p) [] [] pos) (fun σ H Q => ∀ a, H a = none → Q (.ref a) (upd H a (ExH (.ref C) none a))) (.v true true) (gC (exnD c none)) := by
  subst hK hmg
  refine ⟨pe_new (pmk_own0 PySem.F.excBase_ValueError q T.g T.k (raises_own T.x.hs T.t) hg hdb), rfl, fun f ρ σ H Q R q a na => ?_⟩
  exact q _ _ (same_upd na) (.exn T.n upd_same rfl)
def gNew1 (c : Str) (g : Gd) : Gd := fun ρ => match g ρ with
  | .ok (.int i) => .ok (exnD c (some i))
  | _ => .bad
theorem x_new1 {X : Cx} {K : PySem.W.Frag} {W : Wt} {Δ : List Kd} {c : Str} {C : Addr} {e : Expr} {te : TE} {g : Gd} {av fr : Bool} {p pos : Pos} (T : ExI X.prog X.w X.K X.mg X.base c C) (hr : Room 2 X.A) (h : PD X K W Δ e te (.v av fr) g)
    (hg : Gl X c := by rfl) (hdb : (c == ("__debug__" : Str)) = false := by decide)
    (he : starEach [e] X.env = (false, eval e X.env) :: starEach [] X.env := by rfl) (hpl : (backTo pos (starEach [] X.env)).any (·.1) = false := by rfl) :
    PD X K W Δ (.Call (.Name c p) [e] [] pos) (fun σ H Q => tMkO C (spMomK K) [] (tCons te tNil) σ H fun cls d H1 => ∀ a, H1 a = none → Q (.ref a) (upd H1 a (ExH cls d a))) (.v true true) (gNew1 c g) := by
  have hK := h.hK
  subst hK
  obtain ⟨fI, fd, iC, tI, F, B⟩ := T.f
  refine ⟨pe_new (pmk_oex (CX := CX0) T.O iC tI F hr B .nil pass0 hg T.T.g (pa_cons h.pe pa_nil he) hdb he hpl), rfl, fun f ρ σ H Q r q => ?_⟩
  refine h.se f ρ σ H _ r ?_
  unfold gNew1 at q
  cases e1 : g ρ with
  | bad => rw [e1] at q; exact q.elim
  | ex z => rw [e1] at q; exact q.elim
  | ok d =>
    rw [e1] at q
    intro v H1 s1 x1
    cases d with
    | int i =>
      have ev : v = .int i := by cases x1; rfl
      subst ev
      refine ⟨by simp, fun a na => ⟨a, C, .int i, rfl, T.O, T.hno, upd_same, fun dx ndx ne => ?_⟩⟩
      have ndx1 : H1 dx = none := by rw [upd_ne ne] at ndx; exact ndx
      refine ⟨rfl, dx, _, upd_same, by rw [upd_ne ne, upd_same], ndx1, fun b nb => ?_⟩
      have s2 : Same H1 (upd (del (upd (upd (upd H1 a (exo a C none)) dx (exd dx [("moment", .int i)])) a (exo a C (some dx))) a) dx (.xd [("moment", .int i)])) := fun b o h1 => by
        have n1 : b ≠ a := fun z => by rw [z, na] at h1; cases h1
        have n2 : b ≠ dx := fun z => by rw [z, ndx1] at h1; cases h1
        rw [upd_ne n2, del_ne n1, upd_ne n1, upd_ne n2, upd_ne n1]
        exact h1
      have hbx : b ≠ dx := fun z => by rw [z, upd_same] at nb; cases nb
      exact q _ _ ((s1.trans s2).trans (same_upd nb)) (.exn T.T.n upd_same ⟨dx, rfl, by rw [upd_ne (Ne.symm hbx)]; exact upd_same⟩)
    | _ => exact q.elim
theorem init_pure {K : PySem.W.Frag} {vs : List V} {H : Hp} {Q : VK} {E : XK} {z : Str} (h : spMomK K vs H Q E) :
    tSeq (tDrop (tVeI K (tCons (tVar 0) (tCons (tC (.str z)) tNil)))) (tOst K "moment" (tVar 0) (tVar 1)) { nx := fun _ H' => Q .non H', rt := Q } (start ["self", "moment"] vs) H := by
  obtain ⟨a, C, v, rfl, T, hno, ha, q⟩ := h
  exact ⟨.ref a, rfl, a, C, [.str z], rfl, Nat.le_of_ble_eq_true rfl, T, ha, ⟨v, rfl, .ref a, rfl, a, C, rfl, T, hno, .inl ⟨ha, q⟩⟩⟩
section
variable {X : Cx} {K : PySem.W.Frag} {W : Wt} {Δ : List Kd} {pos p : Pos}
theorem x_callN0 {x : Str} {CXT' : CXT} {kk nn : Nat} {fa : Addr} {fd : FuncData} {ps : List Str} {gg : List Dt → O Dt} {mg : Str → Option Value} (F : FnOk X.prog X.w X.K X.mg X.base CXT' kk fa fd ps (spG K mg nn gg)) (hr : Room kk X.A) (hm : X.mg x = some (.ref fa)) (hk : PySem.W.keepIn X.K (.ref fa) = true) (hb : Binds X.K fd ps [])
    (hx : Passes CXT' X E0) (hK : X.K = K := by rfl) (hg : Gl X x := by rfl) (hdb : (x == ("__debug__" : Str)) = false := by decide) :
    PD X K W Δ (.Call (.Name x p) [] [] pos) (tCall (spG K mg nn gg) [] E0 tNil) (.v true true) (gCallN nn gg gNil) := ⟨pe_call0 F hr hg hm hk hb .nil hx hdb, hK, se_callN sa_nil⟩
end
def clsS (s : Stmt) (i : Nat) : Stmt := (match s with
  | .ClassDef (body := b) .. => b
  | _ => []).getD i (.Pass ⟨0, 0, 0, 0⟩)
end Sim
end T_SimCl
section T_SimFz
set_option Elab.async false
set_option linter.all false
set_option maxRecDepth 100000
namespace Sim
open PySem PySem.Spec L2
open PyProof.Rows hiding St
def unfz : Dt → Option (List Dt)
  | .dict [(.bool true, .list xs)] => some xs
  | _ => none
theorem unfz_eq {d : Dt} {xs : List Dt} (h : unfz d = some xs) : d = frzD xs := by
  unfold unfz at h
  split at h
  · cases h; rfl
  · cases h
section
variable {K : PySem.W.Frag} {W : Wt} {Δ : List Kd} {F : Addr → Prop} {H : Hp} {te ta tb : TE} {g ga gb : Gd} {av fr av' fr' : Bool} {tl th : TOp} {gl gh : List Dt → O (Option Int)}
theorem Rp.sqF {v : V} {d : Dt} {xs : List Dt} (x : Rp K F H v d) (h : unfz d = some xs) : ∃ a ys, v = .ref a ∧ SqL K H a ys ∧ RpA K F H ys xs := by
  rw [unfz_eq h] at x
  cases x with
  | fz h r => exact ⟨_, _, rfl, h.sql, r⟩
  | @dic a kvs es h fa hk r =>
    cases kvs with
    | nil => cases hk
    | cons kv kvs =>
      obtain ⟨k, w⟩ := kv
      rw [List.map_cons, List.map_cons] at hk
      injection hk with h1 h2
      cases k <;> cases h1
def hLenF : List Dt → O Dt := fun ds => match ds with
  | [d] => match unfz d with
    | some xs => .ok (.int xs.length)
    | none => .bad
  | _ => .bad
theorem csc_lenF : CSc K (fun xs H Q => ∃ x n, xs = [x] ∧ LenV K x H n ∧ Q (.int n) H) hLenF := fun H xs ds Q hx h => by
  unfold hLenF at h
  split at h
  · rename_i e
    split at e
    · split at e
      · rename_i u
        cases e
        cases hx with
        | cons h1 h2 =>
          cases h2
          obtain ⟨a, ys, rfl, hs, r⟩ := h1.sqF u
          exact ⟨_, _, rfl, .inl ⟨_, hs, by first | exact r.length | exact r.length.symm⟩, h.2 _ (.int _)⟩
      · cases e
    · cases e
  · exact h.elim
theorem scl_lenF : SclA hLenF := fun ds => by
  unfold hLenF
  split
  · split
    · exact .inl ⟨_, rfl, rfl⟩
    · exact .inr rfl
  · exact .inr rfl
def hSlF : Dt → Option Int → Option Int → O Dt := fun d lo hi => match unfz d with
  | some ds => .ok (.list (cutD ds lo hi))
  | none => .bad
theorem se_slF (h : SE K W Δ te (.v true fr) g) (h1 : SO K W Δ tl gl) (h2 : SO K W Δ th gh) : SE K W Δ (tSl (rSlL K) te tl th) (.new .l fr) (gSl hSlF g gl gh) := fun f ρ σ H Q R q => by
  refine h f ρ σ H _ R ?_
  unfold gSl at q
  cases e1 : g ρ with
  | bad => rw [e1] at q; exact q
  | ex z => rw [e1] at q; exact q
  | ok d =>
    rw [e1, bnd_ok] at q
    intro v H1 s1 x1
    refine h1 f ρ σ H1 _ (R.mono s1) ?_
    cases e2 : gl ρ with
    | bad => rw [e2] at q; exact q
    | ex z => rw [e2] at q; exact fun H' s => q H' (s1.trans s)
    | ok lo =>
      rw [e2, bnd_ok] at q
      intro H2 s2
      refine h2 f ρ σ H2 _ ((R.mono s1).mono s2) ?_
      cases e3 : gh ρ with
      | bad => rw [e3] at q; exact q
      | ex z => rw [e3] at q; exact fun H' s => q H' ((s1.trans s2).trans s)
      | ok hi =>
        rw [e3, bnd_ok] at q
        intro H3 s3
        unfold hSlF at q
        split at q
        · rename_i u
          obtain ⟨a, xs, rfl, hs, r⟩ := (x1.same (s2.trans s3)).sqF u
          refine ⟨a, xs, rfl, hs, fun p np => ?_⟩
          have s123 := (s1.trans s2).trans s3
          exact q p _ (s123.free np) (s123.trans (same_upd np)) ⟨_, _, rfl, upd_same, (r.mono (same_upd np) fun a y z => ⟨y, fun e => z (e ▸ np)⟩).cut⟩
        · exact q.elim
end
section
variable {X : Cx} {K : PySem.W.Frag} {W : Wt} {Δ : List Kd} {a b e tg : Expr} {es : List Expr} {te ta tb : TE} {tA : TA} {g ga gb : Gd} {gA : List Dt → O (List Dt)} {av fr av' fr' : Bool} {pos : Pos}
theorem x_lenF {x : Str} {p : Pos} (hm : X.mg x = none) (h : AD X K W Δ (e :: es) tA av fr gA) (hv : bootBuiltins x = some (.builtin "len") := by decide +kernel) (hg : Gl X x := by rfl) (hn : x ≠ "__name__" := by decide) (hdb : (x == ("__debug__" : Str)) = false := by decide)
    (he : starEach (e :: es) X.env = (false, eval e X.env) :: starEach es X.env := by rfl) (hpl : (backTo pos (starEach es X.env)).any (·.1) = false := by rfl) :
    PD X K W Δ (.Call (.Name x p) (e :: es) [] pos) (tCB (fun xs H Q => ∃ x n, xs = [x] ∧ LenV K x H n ∧ Q (.int n) H) tA) (.v true true) (gCB hLenF gA) := ⟨pe_callB (by have q := call_len (X := X); rw [h.hK] at q; exact q) hg hm hv h.pa hn hdb he hpl, h.hK, se_cb scl_lenF csc_lenF h.sa⟩
theorem x_slF {lo hi : Option Expr} {tl th : TOp} {gl gh : List Dt → O (Option Int)} {p2 : Pos} (h : PD X K W Δ e te (.v true fr) g) (h1 : OD X K W Δ lo tl gl) (h2 : OD X K W Δ hi th gh) : PD X K W Δ (.Subscript e (.Slice lo hi none p2) pos) (tSl (rSlL K) te tl th) (.new .l fr) (gSl hSlF g gl gh) :=
  ⟨pe_slice (by have q := sl_list (X := X); rw [h.hK] at q; exact q) h.pe h1.po h2.po, h.hK, se_slF h.se h1.so h2.so⟩
end
end Sim
end T_SimFz
section T_K02
set_option Elab.async false
set_option linter.all false
set_option maxRecDepth 100000
set_option maxHeartbeats 4000000
namespace K02
open PySem PySem.Spec L2 Sim
open PyProof.Rows hiding St
def topS (i : Nat) : Stmt := PySem.Challenge.pw_sinceply_k02_records_refused.main.body.getD i (.Pass ⟨0, 0, 0, 0⟩)
abbrev st_is_whole : Stmt := topS 17
theorem sc_is_whole : FnScope ["thing"] ["thing"] (defScope st_is_whole) := ⟨rfl, rfl, rfl, by decide +kernel, rfl, by decide +kernel, by decide +kernel⟩
abbrev st_is_many : Stmt := topS 18
theorem sc_is_many : FnScope ["thing"] ["thing"] (defScope st_is_many) := ⟨rfl, rfl, rfl, by decide +kernel, rfl, by decide +kernel, by decide +kernel⟩
abbrev st_is_place : Stmt := topS 19
theorem sc_is_place : FnScope ["n", "thing"] ["n", "thing"] (defScope st_is_place) := ⟨rfl, rfl, rfl, by decide +kernel, rfl, by decide +kernel, by decide +kernel⟩
abbrev st_is_moment : Stmt := topS 20
theorem sc_is_moment : FnScope ["thing"] ["thing"] (defScope st_is_moment) := ⟨rfl, rfl, rfl, by decide +kernel, rfl, by decide +kernel, by decide +kernel⟩
abbrev st_is_meeting : Stmt := topS 21
theorem sc_is_meeting : FnScope ["n", "thing"] ["n", "thing"] (defScope st_is_meeting) := ⟨rfl, rfl, rfl, by decide +kernel, rfl, by decide +kernel, by decide +kernel⟩
abbrev st_record_of : Stmt := topS 22
theorem sc_record_of : FnScope ["n", "things", "thing", "found", "moment", "a", "b", "ties", "at"] ["n", "things"] (defScope st_record_of) := ⟨rfl, rfl, rfl, by decide +kernel, rfl, by decide +kernel, by decide +kernel⟩
abbrev st_l_mixed : Stmt := topS 24
theorem sc_l_mixed : FnScope ["cell", "k", "number"] ["cell", "k"] (defScope st_l_mixed) := ⟨rfl, rfl, rfl, by decide +kernel, rfl, by decide +kernel, by decide +kernel⟩
abbrev st_l_numbers : Stmt := topS 25
theorem sc_l_numbers : FnScope ["cell", "many", "base", "found", "left", "k", "number", "turns"] ["cell", "many", "base"] (defScope st_l_numbers) := ⟨rfl, rfl, rfl, by decide +kernel, rfl, by decide +kernel, by decide +kernel⟩
abbrev st_l_ends : Stmt := topS 26
theorem sc_l_ends : FnScope ["n", "kind", "one", "other", "a"] ["n", "kind", "one", "other"] (defScope st_l_ends) := ⟨rfl, rfl, rfl, by decide +kernel, rfl, by decide +kernel, by decide +kernel⟩
abbrev st_l_record : Stmt := topS 27
theorem sc_l_record : FnScope ["numbers", "most", "n", "many", "wide", "moment", "record", "k", "a", "b"] ["numbers", "most"] (defScope st_l_record) := ⟨rfl, rfl, rfl, by decide +kernel, rfl, by decide +kernel, by decide +kernel⟩
abbrev st_l_marks : Stmt := topS 28
theorem sc_l_marks : FnScope ["caught", "some"] ["caught"] (defScope st_l_marks) := ⟨rfl, rfl, rfl, by decide +kernel, rfl, by decide +kernel, by decide +kernel⟩
abbrev st_l_apart : Stmt := topS 29
theorem sc_l_apart : FnScope ["made", "k", "j"] [] (defScope st_l_apart) := ⟨rfl, rfl, rfl, by decide +kernel, rfl, by decide +kernel, by decide +kernel⟩
abbrev st_l_refused : Stmt := topS 30
theorem sc_l_refused : FnScope ["n", "things", "kind", "moment", "caught", "e", "j"] ["n", "things", "kind", "moment"] (defScope st_l_refused) := ⟨rfl, rfl, rfl, by decide +kernel, rfl, by decide +kernel, by decide +kernel⟩
abbrev st_l_no_places : Stmt := topS 31
theorem sc_l_no_places : FnScope ["far", "number"] ["far", "number"] (defScope st_l_no_places) := ⟨rfl, rfl, rfl, by decide +kernel, rfl, by decide +kernel, by decide +kernel⟩
abbrev st_l_no_tie : Stmt := topS 32
theorem sc_l_no_tie : FnScope ["n", "far", "number", "some"] ["n", "far", "number"] (defScope st_l_no_tie) := ⟨rfl, rfl, rfl, by decide +kernel, rfl, by decide +kernel, by decide +kernel⟩
abbrev st_l_many : Stmt := topS 33
theorem sc_l_many : FnScope ["n", "number", "k"] ["n", "number"] (defScope st_l_many) := ⟨rfl, rfl, rfl, by decide +kernel, rfl, by decide +kernel, by decide +kernel⟩
abbrev st_l_clashed : Stmt := topS 34
theorem sc_l_clashed : FnScope ["n", "record", "numbers", "things", "moments", "number", "moment", "a", "b"] ["n", "record", "numbers"] (defScope st_l_clashed) := ⟨rfl, rfl, rfl, by decide +kernel, rfl, by decide +kernel, by decide +kernel⟩
abbrev st_law : Stmt := topS 35
theorem sc_law : FnScope ["script", "cell", "numbers", "n", "record", "thing", "at", "spoilt", "places", "other", "things", "moments", "least"] ["script"] (defScope st_law) := ⟨rfl, rfl, rfl, by decide +kernel, rfl, by decide +kernel, by decide +kernel⟩
abbrev si_Clash : Stmt := clsS (topS 12) 0
theorem sci_Clash : FnScope ["self", "moment"] ["self", "moment"] (defScope si_Clash) := ⟨rfl, rfl, rfl, by decide +kernel, rfl, by decide +kernel, by decide +kernel⟩
structure Tx (K : PySem.W.Frag) (mg : Str → Option Value) where
  a_is_whole : Addr
  d_is_whole : FuncData
  F_is_whole : L2.Fun K "is_whole" "is_whole" st_is_whole a_is_whole d_is_whole
  m_is_whole : mg "is_whole" = some (.ref a_is_whole)
  b_is_whole : Binds K d_is_whole ["thing"] []
  a_is_many : Addr
  d_is_many : FuncData
  F_is_many : L2.Fun K "is_many" "is_many" st_is_many a_is_many d_is_many
  m_is_many : mg "is_many" = some (.ref a_is_many)
  b_is_many : Binds K d_is_many ["thing"] []
  a_is_place : Addr
  d_is_place : FuncData
  F_is_place : L2.Fun K "is_place" "is_place" st_is_place a_is_place d_is_place
  m_is_place : mg "is_place" = some (.ref a_is_place)
  b_is_place : Binds K d_is_place ["n", "thing"] []
  a_is_moment : Addr
  d_is_moment : FuncData
  F_is_moment : L2.Fun K "is_moment" "is_moment" st_is_moment a_is_moment d_is_moment
  m_is_moment : mg "is_moment" = some (.ref a_is_moment)
  b_is_moment : Binds K d_is_moment ["thing"] []
  a_is_meeting : Addr
  d_is_meeting : FuncData
  F_is_meeting : L2.Fun K "is_meeting" "is_meeting" st_is_meeting a_is_meeting d_is_meeting
  m_is_meeting : mg "is_meeting" = some (.ref a_is_meeting)
  b_is_meeting : Binds K d_is_meeting ["n", "thing"] []
  a_record_of : Addr
  d_record_of : FuncData
  F_record_of : L2.Fun K "record_of" "record_of" st_record_of a_record_of d_record_of
  m_record_of : mg "record_of" = some (.ref a_record_of)
  b_record_of : Binds K d_record_of ["n", "things"] []
  a_l_mixed : Addr
  d_l_mixed : FuncData
  F_l_mixed : L2.Fun K "_law_mixed" "_law_mixed" st_l_mixed a_l_mixed d_l_mixed
  m_l_mixed : mg "_law_mixed" = some (.ref a_l_mixed)
  b_l_mixed : Binds K d_l_mixed ["cell", "k"] []
  a_l_numbers : Addr
  d_l_numbers : FuncData
  F_l_numbers : L2.Fun K "_law_numbers" "_law_numbers" st_l_numbers a_l_numbers d_l_numbers
  m_l_numbers : mg "_law_numbers" = some (.ref a_l_numbers)
  b_l_numbers : Binds K d_l_numbers ["cell", "many", "base"] []
  a_l_ends : Addr
  d_l_ends : FuncData
  F_l_ends : L2.Fun K "_law_ends" "_law_ends" st_l_ends a_l_ends d_l_ends
  m_l_ends : mg "_law_ends" = some (.ref a_l_ends)
  b_l_ends : Binds K d_l_ends ["n", "kind", "one", "other"] []
  a_l_record : Addr
  d_l_record : FuncData
  F_l_record : L2.Fun K "_law_record" "_law_record" st_l_record a_l_record d_l_record
  m_l_record : mg "_law_record" = some (.ref a_l_record)
  b_l_record : Binds K d_l_record ["numbers", "most"] []
  a_l_marks : Addr
  d_l_marks : FuncData
  F_l_marks : L2.Fun K "_law_marks" "_law_marks" st_l_marks a_l_marks d_l_marks
  m_l_marks : mg "_law_marks" = some (.ref a_l_marks)
  b_l_marks : Binds K d_l_marks ["caught"] []
  a_l_apart : Addr
  d_l_apart : FuncData
  F_l_apart : L2.Fun K "_law_apart" "_law_apart" st_l_apart a_l_apart d_l_apart
  m_l_apart : mg "_law_apart" = some (.ref a_l_apart)
  b_l_apart : Binds K d_l_apart [] []
  a_l_refused : Addr
  d_l_refused : FuncData
  F_l_refused : L2.Fun K "_law_refused" "_law_refused" st_l_refused a_l_refused d_l_refused
  m_l_refused : mg "_law_refused" = some (.ref a_l_refused)
  b_l_refused : Binds K d_l_refused ["n", "things", "kind", "moment"] []
  a_l_no_places : Addr
  d_l_no_places : FuncData
  F_l_no_places : L2.Fun K "_law_no_places" "_law_no_places" st_l_no_places a_l_no_places d_l_no_places
  m_l_no_places : mg "_law_no_places" = some (.ref a_l_no_places)
  b_l_no_places : Binds K d_l_no_places ["far", "number"] []
  a_l_no_tie : Addr
  d_l_no_tie : FuncData
  F_l_no_tie : L2.Fun K "_law_no_tie" "_law_no_tie" st_l_no_tie a_l_no_tie d_l_no_tie
  m_l_no_tie : mg "_law_no_tie" = some (.ref a_l_no_tie)
  b_l_no_tie : Binds K d_l_no_tie ["n", "far", "number"] []
  a_l_many : Addr
  d_l_many : FuncData
  F_l_many : L2.Fun K "_law_many" "_law_many" st_l_many a_l_many d_l_many
  m_l_many : mg "_law_many" = some (.ref a_l_many)
  b_l_many : Binds K d_l_many ["n", "number"] []
  a_l_clashed : Addr
  d_l_clashed : FuncData
  F_l_clashed : L2.Fun K "_law_clashed" "_law_clashed" st_l_clashed a_l_clashed d_l_clashed
  m_l_clashed : mg "_law_clashed" = some (.ref a_l_clashed)
  b_l_clashed : Binds K d_l_clashed ["n", "record", "numbers"] []
  a_law : Addr
  d_law : FuncData
  F_law : L2.Fun K "law" "law" st_law a_law d_law
  m_law : mg "law" = some (.ref a_law)
  b_law : Binds K d_law ["script"] []
  n_isinstance : mg "isinstance" = none
  n_int : mg "int" = none
  n_bool : mg "bool" = none
  n_tuple : mg "tuple" = none
  n_len : mg "len" = none
  n_list : mg "list" = none
  n_all : mg "all" = none
  n_min : mg "min" = none
  n_max : mg "max" = none
  n_sorted : mg "sorted" = none
  n_range : mg "range" = none
  n_ValueError : mg "ValueError" = none
  C_NoPlaces : Addr
  E_NoPlaces : ExT K mg "NoPlaces" C_NoPlaces
  Q_NoPlaces : PySem.W.excIn K C_NoPlaces veB "ValueError.__new__" = true
  C_NoTies : Addr
  E_NoTies : ExT K mg "NoTies" C_NoTies
  Q_NoTies : PySem.W.excIn K C_NoTies veB "ValueError.__new__" = true
  C_Clash : Addr
  E_Clash : ExT K mg "Clash" C_Clash
  C_NoLayers : Addr
  E_NoLayers : ExT K mg "NoLayers" C_NoLayers
  Q_NoLayers : PySem.W.excIn K C_NoLayers veB "ValueError.__new__" = true
  C_NoPair : Addr
  E_NoPair : ExT K mg "NoPair" C_NoPair
  Q_NoPair : PySem.W.excIn K C_NoPair veB "ValueError.__new__" = true
  C_NoNet : Addr
  E_NoNet : ExT K mg "NoNet" C_NoNet
  Q_NoNet : PySem.W.excIn K C_NoNet veB "ValueError.__new__" = true
  C_Unlike : Addr
  E_Unlike : ExT K mg "Unlike" C_Unlike
  Q_Unlike : PySem.W.excIn K C_Unlike veB "ValueError.__new__" = true
  C_NoText : Addr
  E_NoText : ExT K mg "NoText" C_NoText
  Q_NoText : PySem.W.excIn K C_NoText veB "ValueError.__new__" = true
  C_NoPaper : Addr
  E_NoPaper : ExT K mg "NoPaper" C_NoPaper
  Q_NoPaper : PySem.W.excIn K C_NoPaper veB "ValueError.__new__" = true
  C_NoRow : Addr
  E_NoRow : ExT K mg "NoRow" C_NoRow
  Q_NoRow : PySem.W.excIn K C_NoRow veB "ValueError.__new__" = true
  C_NoDeed : Addr
  E_NoDeed : ExT K mg "NoDeed" C_NoDeed
  Q_NoDeed : PySem.W.excIn K C_NoDeed veB "ValueError.__new__" = true
  C_PlyError : Addr
  E_PlyError : ExT K mg "PlyError" C_PlyError
  iA_Clash : Addr
  iD_Clash : FuncData
  iF_Clash : L2.Fun K "__init__" "Clash.__init__" si_Clash iA_Clash iD_Clash
  ib_Clash : Binds K iD_Clash ["self", "moment"] []
  ii_Clash : PySem.W.findIn K (.ref C_Clash) "__init__" = some (some (.ref iA_Clash))
  it_Clash : PySem.W.typeIn K (.ref iA_Clash) = some (.type "function")
  ih_Clash : PySem.W.findIn K (.ref C_Clash) "moment" = some none
  is_Clash : PySem.W.findIn K (.ref C_Clash) "__setattr__" = some (some (.builtin "object.__setattr__"))
  io_Clash : ∃ nm q N bs bm sn sub ab col dd k0 k1 k2 k3 k5, K.lookup C_Clash = some (excClassObj nm q C_Clash N bs bm true sn sub ab col dd k0 k1 k2 k3 k5 "ValueError.__new__") ∧ PySem.HandSPX.refsVE bm = true
  ip_Clash : PySem.W.readsIn K C_PlyError (.type "type") = true
  iq_Clash : PySem.W.specialIn K (.ref C_PlyError) "__getattribute__" = some (some (.builtin "type.__getattribute__"))
  ir_Clash : PySem.W.findCls K (.ref C_PlyError) (.type "type") "__init__" = some (.val (.builtin "ValueError.__init__"))
  S_NoDeed_NoPlaces : PySem.W.subIn K (.ref C_NoDeed) (.ref C_NoPlaces) = some false
  S_NoDeed_NoDeed : PySem.W.subIn K (.ref C_NoDeed) (.ref C_NoDeed) = some true
  S_NoRow_NoPlaces : PySem.W.subIn K (.ref C_NoRow) (.ref C_NoPlaces) = some false
  S_NoRow_NoRow : PySem.W.subIn K (.ref C_NoRow) (.ref C_NoRow) = some true
  S_NoPaper_NoPlaces : PySem.W.subIn K (.ref C_NoPaper) (.ref C_NoPlaces) = some false
  S_NoPaper_NoPaper : PySem.W.subIn K (.ref C_NoPaper) (.ref C_NoPaper) = some true
  S_NoText_NoPlaces : PySem.W.subIn K (.ref C_NoText) (.ref C_NoPlaces) = some false
  S_NoText_NoText : PySem.W.subIn K (.ref C_NoText) (.ref C_NoText) = some true
  S_Unlike_NoPlaces : PySem.W.subIn K (.ref C_Unlike) (.ref C_NoPlaces) = some false
  S_Unlike_Unlike : PySem.W.subIn K (.ref C_Unlike) (.ref C_Unlike) = some true
  S_NoNet_NoPlaces : PySem.W.subIn K (.ref C_NoNet) (.ref C_NoPlaces) = some false
  S_NoNet_NoNet : PySem.W.subIn K (.ref C_NoNet) (.ref C_NoNet) = some true
  S_NoPair_NoPlaces : PySem.W.subIn K (.ref C_NoPair) (.ref C_NoPlaces) = some false
  S_NoPair_NoPair : PySem.W.subIn K (.ref C_NoPair) (.ref C_NoPair) = some true
  S_NoLayers_NoPlaces : PySem.W.subIn K (.ref C_NoLayers) (.ref C_NoPlaces) = some false
  S_NoLayers_NoLayers : PySem.W.subIn K (.ref C_NoLayers) (.ref C_NoLayers) = some true
  S_Clash_NoPlaces : PySem.W.subIn K (.ref C_Clash) (.ref C_NoPlaces) = some false
  S_Clash_Clash : PySem.W.subIn K (.ref C_Clash) (.ref C_Clash) = some true
  S_NoTies_NoPlaces : PySem.W.subIn K (.ref C_NoTies) (.ref C_NoPlaces) = some false
  S_NoTies_NoTies : PySem.W.subIn K (.ref C_NoTies) (.ref C_NoTies) = some true
  S_NoPlaces_NoPlaces : PySem.W.subIn K (.ref C_NoPlaces) (.ref C_NoPlaces) = some true
  S_NoDeed_NoTies : PySem.W.subIn K (.ref C_NoDeed) (.ref C_NoTies) = some false
  S_NoRow_NoTies : PySem.W.subIn K (.ref C_NoRow) (.ref C_NoTies) = some false
  S_NoPaper_NoTies : PySem.W.subIn K (.ref C_NoPaper) (.ref C_NoTies) = some false
  S_NoText_NoTies : PySem.W.subIn K (.ref C_NoText) (.ref C_NoTies) = some false
  S_Unlike_NoTies : PySem.W.subIn K (.ref C_Unlike) (.ref C_NoTies) = some false
  S_NoNet_NoTies : PySem.W.subIn K (.ref C_NoNet) (.ref C_NoTies) = some false
  S_NoPair_NoTies : PySem.W.subIn K (.ref C_NoPair) (.ref C_NoTies) = some false
  S_NoLayers_NoTies : PySem.W.subIn K (.ref C_NoLayers) (.ref C_NoTies) = some false
  S_Clash_NoTies : PySem.W.subIn K (.ref C_Clash) (.ref C_NoTies) = some false
  S_NoPlaces_NoTies : PySem.W.subIn K (.ref C_NoPlaces) (.ref C_NoTies) = some false
  S_NoDeed_Clash : PySem.W.subIn K (.ref C_NoDeed) (.ref C_Clash) = some false
  S_NoRow_Clash : PySem.W.subIn K (.ref C_NoRow) (.ref C_Clash) = some false
  S_NoPaper_Clash : PySem.W.subIn K (.ref C_NoPaper) (.ref C_Clash) = some false
  S_NoText_Clash : PySem.W.subIn K (.ref C_NoText) (.ref C_Clash) = some false
  S_Unlike_Clash : PySem.W.subIn K (.ref C_Unlike) (.ref C_Clash) = some false
  S_NoNet_Clash : PySem.W.subIn K (.ref C_NoNet) (.ref C_Clash) = some false
  S_NoPair_Clash : PySem.W.subIn K (.ref C_NoPair) (.ref C_Clash) = some false
  S_NoLayers_Clash : PySem.W.subIn K (.ref C_NoLayers) (.ref C_Clash) = some false
  S_NoTies_Clash : PySem.W.subIn K (.ref C_NoTies) (.ref C_Clash) = some false
  S_NoPlaces_Clash : PySem.W.subIn K (.ref C_NoPlaces) (.ref C_Clash) = some false
  S_NoDeed_NoLayers : PySem.W.subIn K (.ref C_NoDeed) (.ref C_NoLayers) = some false
  S_NoRow_NoLayers : PySem.W.subIn K (.ref C_NoRow) (.ref C_NoLayers) = some false
  S_NoPaper_NoLayers : PySem.W.subIn K (.ref C_NoPaper) (.ref C_NoLayers) = some false
  S_NoText_NoLayers : PySem.W.subIn K (.ref C_NoText) (.ref C_NoLayers) = some false
  S_Unlike_NoLayers : PySem.W.subIn K (.ref C_Unlike) (.ref C_NoLayers) = some false
  S_NoNet_NoLayers : PySem.W.subIn K (.ref C_NoNet) (.ref C_NoLayers) = some false
  S_NoPair_NoLayers : PySem.W.subIn K (.ref C_NoPair) (.ref C_NoLayers) = some false
  S_Clash_NoLayers : PySem.W.subIn K (.ref C_Clash) (.ref C_NoLayers) = some false
  S_NoTies_NoLayers : PySem.W.subIn K (.ref C_NoTies) (.ref C_NoLayers) = some false
  S_NoPlaces_NoLayers : PySem.W.subIn K (.ref C_NoPlaces) (.ref C_NoLayers) = some false
  S_NoDeed_NoPair : PySem.W.subIn K (.ref C_NoDeed) (.ref C_NoPair) = some false
  S_NoRow_NoPair : PySem.W.subIn K (.ref C_NoRow) (.ref C_NoPair) = some false
  S_NoPaper_NoPair : PySem.W.subIn K (.ref C_NoPaper) (.ref C_NoPair) = some false
  S_NoText_NoPair : PySem.W.subIn K (.ref C_NoText) (.ref C_NoPair) = some false
  S_Unlike_NoPair : PySem.W.subIn K (.ref C_Unlike) (.ref C_NoPair) = some false
  S_NoNet_NoPair : PySem.W.subIn K (.ref C_NoNet) (.ref C_NoPair) = some false
  S_NoLayers_NoPair : PySem.W.subIn K (.ref C_NoLayers) (.ref C_NoPair) = some false
  S_Clash_NoPair : PySem.W.subIn K (.ref C_Clash) (.ref C_NoPair) = some false
  S_NoTies_NoPair : PySem.W.subIn K (.ref C_NoTies) (.ref C_NoPair) = some false
  S_NoPlaces_NoPair : PySem.W.subIn K (.ref C_NoPlaces) (.ref C_NoPair) = some false
  S_NoDeed_NoNet : PySem.W.subIn K (.ref C_NoDeed) (.ref C_NoNet) = some false
  S_NoRow_NoNet : PySem.W.subIn K (.ref C_NoRow) (.ref C_NoNet) = some false
  S_NoPaper_NoNet : PySem.W.subIn K (.ref C_NoPaper) (.ref C_NoNet) = some false
  S_NoText_NoNet : PySem.W.subIn K (.ref C_NoText) (.ref C_NoNet) = some false
  S_Unlike_NoNet : PySem.W.subIn K (.ref C_Unlike) (.ref C_NoNet) = some false
  S_NoPair_NoNet : PySem.W.subIn K (.ref C_NoPair) (.ref C_NoNet) = some false
  S_NoLayers_NoNet : PySem.W.subIn K (.ref C_NoLayers) (.ref C_NoNet) = some false
  S_Clash_NoNet : PySem.W.subIn K (.ref C_Clash) (.ref C_NoNet) = some false
  S_NoTies_NoNet : PySem.W.subIn K (.ref C_NoTies) (.ref C_NoNet) = some false
  S_NoPlaces_NoNet : PySem.W.subIn K (.ref C_NoPlaces) (.ref C_NoNet) = some false
  S_NoDeed_Unlike : PySem.W.subIn K (.ref C_NoDeed) (.ref C_Unlike) = some false
  S_NoRow_Unlike : PySem.W.subIn K (.ref C_NoRow) (.ref C_Unlike) = some false
  S_NoPaper_Unlike : PySem.W.subIn K (.ref C_NoPaper) (.ref C_Unlike) = some false
  S_NoText_Unlike : PySem.W.subIn K (.ref C_NoText) (.ref C_Unlike) = some false
  S_NoNet_Unlike : PySem.W.subIn K (.ref C_NoNet) (.ref C_Unlike) = some false
  S_NoPair_Unlike : PySem.W.subIn K (.ref C_NoPair) (.ref C_Unlike) = some false
  S_NoLayers_Unlike : PySem.W.subIn K (.ref C_NoLayers) (.ref C_Unlike) = some false
  S_Clash_Unlike : PySem.W.subIn K (.ref C_Clash) (.ref C_Unlike) = some false
  S_NoTies_Unlike : PySem.W.subIn K (.ref C_NoTies) (.ref C_Unlike) = some false
  S_NoPlaces_Unlike : PySem.W.subIn K (.ref C_NoPlaces) (.ref C_Unlike) = some false
  S_NoDeed_NoText : PySem.W.subIn K (.ref C_NoDeed) (.ref C_NoText) = some false
  S_NoRow_NoText : PySem.W.subIn K (.ref C_NoRow) (.ref C_NoText) = some false
  S_NoPaper_NoText : PySem.W.subIn K (.ref C_NoPaper) (.ref C_NoText) = some false
  S_Unlike_NoText : PySem.W.subIn K (.ref C_Unlike) (.ref C_NoText) = some false
  S_NoNet_NoText : PySem.W.subIn K (.ref C_NoNet) (.ref C_NoText) = some false
  S_NoPair_NoText : PySem.W.subIn K (.ref C_NoPair) (.ref C_NoText) = some false
  S_NoLayers_NoText : PySem.W.subIn K (.ref C_NoLayers) (.ref C_NoText) = some false
  S_Clash_NoText : PySem.W.subIn K (.ref C_Clash) (.ref C_NoText) = some false
  S_NoTies_NoText : PySem.W.subIn K (.ref C_NoTies) (.ref C_NoText) = some false
  S_NoPlaces_NoText : PySem.W.subIn K (.ref C_NoPlaces) (.ref C_NoText) = some false
  S_NoDeed_NoPaper : PySem.W.subIn K (.ref C_NoDeed) (.ref C_NoPaper) = some false
  S_NoRow_NoPaper : PySem.W.subIn K (.ref C_NoRow) (.ref C_NoPaper) = some false
  S_NoText_NoPaper : PySem.W.subIn K (.ref C_NoText) (.ref C_NoPaper) = some false
  S_Unlike_NoPaper : PySem.W.subIn K (.ref C_Unlike) (.ref C_NoPaper) = some false
  S_NoNet_NoPaper : PySem.W.subIn K (.ref C_NoNet) (.ref C_NoPaper) = some false
  S_NoPair_NoPaper : PySem.W.subIn K (.ref C_NoPair) (.ref C_NoPaper) = some false
  S_NoLayers_NoPaper : PySem.W.subIn K (.ref C_NoLayers) (.ref C_NoPaper) = some false
  S_Clash_NoPaper : PySem.W.subIn K (.ref C_Clash) (.ref C_NoPaper) = some false
  S_NoTies_NoPaper : PySem.W.subIn K (.ref C_NoTies) (.ref C_NoPaper) = some false
  S_NoPlaces_NoPaper : PySem.W.subIn K (.ref C_NoPlaces) (.ref C_NoPaper) = some false
  S_NoDeed_NoRow : PySem.W.subIn K (.ref C_NoDeed) (.ref C_NoRow) = some false
  S_NoPaper_NoRow : PySem.W.subIn K (.ref C_NoPaper) (.ref C_NoRow) = some false
  S_NoText_NoRow : PySem.W.subIn K (.ref C_NoText) (.ref C_NoRow) = some false
  S_Unlike_NoRow : PySem.W.subIn K (.ref C_Unlike) (.ref C_NoRow) = some false
  S_NoNet_NoRow : PySem.W.subIn K (.ref C_NoNet) (.ref C_NoRow) = some false
  S_NoPair_NoRow : PySem.W.subIn K (.ref C_NoPair) (.ref C_NoRow) = some false
  S_NoLayers_NoRow : PySem.W.subIn K (.ref C_NoLayers) (.ref C_NoRow) = some false
  S_Clash_NoRow : PySem.W.subIn K (.ref C_Clash) (.ref C_NoRow) = some false
  S_NoTies_NoRow : PySem.W.subIn K (.ref C_NoTies) (.ref C_NoRow) = some false
  S_NoPlaces_NoRow : PySem.W.subIn K (.ref C_NoPlaces) (.ref C_NoRow) = some false
  S_NoRow_NoDeed : PySem.W.subIn K (.ref C_NoRow) (.ref C_NoDeed) = some false
  S_NoPaper_NoDeed : PySem.W.subIn K (.ref C_NoPaper) (.ref C_NoDeed) = some false
  S_NoText_NoDeed : PySem.W.subIn K (.ref C_NoText) (.ref C_NoDeed) = some false
  S_Unlike_NoDeed : PySem.W.subIn K (.ref C_Unlike) (.ref C_NoDeed) = some false
  S_NoNet_NoDeed : PySem.W.subIn K (.ref C_NoNet) (.ref C_NoDeed) = some false
  S_NoPair_NoDeed : PySem.W.subIn K (.ref C_NoPair) (.ref C_NoDeed) = some false
  S_NoLayers_NoDeed : PySem.W.subIn K (.ref C_NoLayers) (.ref C_NoDeed) = some false
  S_Clash_NoDeed : PySem.W.subIn K (.ref C_Clash) (.ref C_NoDeed) = some false
  S_NoTies_NoDeed : PySem.W.subIn K (.ref C_NoTies) (.ref C_NoDeed) = some false
  S_NoPlaces_NoDeed : PySem.W.subIn K (.ref C_NoPlaces) (.ref C_NoDeed) = some false
  S_NoDeed_PlyError : PySem.W.subIn K (.ref C_NoDeed) (.ref C_PlyError) = some true
  S_NoRow_PlyError : PySem.W.subIn K (.ref C_NoRow) (.ref C_PlyError) = some true
  S_NoPaper_PlyError : PySem.W.subIn K (.ref C_NoPaper) (.ref C_PlyError) = some true
  S_NoText_PlyError : PySem.W.subIn K (.ref C_NoText) (.ref C_PlyError) = some true
  S_Unlike_PlyError : PySem.W.subIn K (.ref C_Unlike) (.ref C_PlyError) = some true
  S_NoNet_PlyError : PySem.W.subIn K (.ref C_NoNet) (.ref C_PlyError) = some true
  S_NoPair_PlyError : PySem.W.subIn K (.ref C_NoPair) (.ref C_PlyError) = some true
  S_NoLayers_PlyError : PySem.W.subIn K (.ref C_NoLayers) (.ref C_PlyError) = some true
  S_Clash_PlyError : PySem.W.subIn K (.ref C_Clash) (.ref C_PlyError) = some true
  S_NoTies_PlyError : PySem.W.subIn K (.ref C_NoTies) (.ref C_PlyError) = some true
  S_NoPlaces_PlyError : PySem.W.subIn K (.ref C_NoPlaces) (.ref C_PlyError) = some true
  S_NoDeed_ValueError : PySem.W.subIn K (.ref C_NoDeed) (.type "ValueError") = some true
  S_NoRow_ValueError : PySem.W.subIn K (.ref C_NoRow) (.type "ValueError") = some true
  S_NoPaper_ValueError : PySem.W.subIn K (.ref C_NoPaper) (.type "ValueError") = some true
  S_NoText_ValueError : PySem.W.subIn K (.ref C_NoText) (.type "ValueError") = some true
  S_Unlike_ValueError : PySem.W.subIn K (.ref C_Unlike) (.type "ValueError") = some true
  S_NoNet_ValueError : PySem.W.subIn K (.ref C_NoNet) (.type "ValueError") = some true
  S_NoPair_ValueError : PySem.W.subIn K (.ref C_NoPair) (.type "ValueError") = some true
  S_NoLayers_ValueError : PySem.W.subIn K (.ref C_NoLayers) (.type "ValueError") = some true
  S_Clash_ValueError : PySem.W.subIn K (.ref C_Clash) (.type "ValueError") = some true
  S_NoTies_ValueError : PySem.W.subIn K (.ref C_NoTies) (.type "ValueError") = some true
  S_NoPlaces_ValueError : PySem.W.subIn K (.ref C_NoPlaces) (.type "ValueError") = some true
  c_MOST_PLACES : ∃ tk, mg "MOST_PLACES" = some (.int (10) tk)
  c_LAST_MOMENT : ∃ tk, mg "LAST_MOMENT" = some (.int (1000000000000000000000000000000) tk)
  c_MOST_TIES : ∃ tk, mg "MOST_TIES" = some (.int (60) tk)
section
variable {P : Program} {w : World} {K : PySem.W.Frag} {mg : Str → Option Value} {base : Heap}
theorem iok_Clash (t : Tx K mg) : FnOk P w K mg base CX0 1 t.iA_Clash t.iD_Clash ["self", "moment"] (spMomK K) := by
  refine t.iF_Clash.ok sci_Clash (fun vs H Q E h => by obtain ⟨a, C, v, rfl, _⟩ := h; rfl) (fun cdv A outer s H vs Q E hr h => ⟨_, pss_cons (ps_expr (pe_clsinit t.E_PlyError.g ⟨t.ip_Clash, t.iq_Clash⟩ t.ir_Clash (pa_cons (pv 0) (pa_cons pe_str pa_nil)))) (pss_one (ps_ost (pv 0) (pv 1))), init_pure h⟩)
theorem xi_Clash (t : Tx K mg) : ExI P w K mg base "Clash" t.C_Clash := ⟨t.E_Clash, ⟨t.io_Clash, t.is_Clash, t.E_Clash.x.hs, t.E_Clash.t, t.E_Clash.k⟩, t.ih_Clash, t.iA_Clash, t.iD_Clash, t.ii_Clash, t.it_Clash, iok_Clash t, t.ib_Clash⟩
def g_is_whole : Gs := gRet (gAndV (gUn (hIsa .int) (gVar 0)) (gNotV (gUn (hIsa .bool) (gVar 0))))
def f_is_whole : List Dt → O Dt := fnN 1 g_is_whole
theorem ok_is_whole (t : Tx K mg) : FnOk P w K mg base CX0 1 t.a_is_whole t.d_is_whole ["thing"] (spG K mg 1 f_is_whole) := by
  have nd : (["thing"] : List Str).Nodup := by decide +kernel
  exact fn_okN t.F_is_whole (Δn := [.im false]) sc_is_whole rfl rfl (by decide) fun cdv A outer s H E hr => ⟨_, BD.frm [.im false] (Δb := kd0 1 1 false) (Δc := kd0 1 1 false)
    (b_one (z_ret (x_and (x_isa .int t.n_isinstance t.n_int (x_var 0)) (x_one (x_not (x_isa .bool t.n_isinstance t.n_bool (x_var 0))))))) rfl⟩
def g_is_many : Gs := gRet (gAndV (gCallN 1 f_is_whole (gCons (gVar 0) (gNil))) (gChain hLe hLe (gC (.int (1))) (gVar 0) (gC (.int (10)))))
def f_is_many : List Dt → O Dt := fnN 1 g_is_many
theorem ok_is_many (t : Tx K mg) : FnOk P w K mg base CX0 2 t.a_is_many t.d_is_many ["thing"] (spG K mg 1 f_is_many) := by
  obtain ⟨_, h_MOST_PLACES⟩ := t.c_MOST_PLACES
  have G_is_whole := ok_is_whole (P := P) (w := w) (base := base) t
  have nd : (["thing"] : List Str).Nodup := by decide +kernel
  exact fn_okN t.F_is_many (Δn := [.im false]) sc_is_many rfl rfl (by decide) fun cdv A outer s H E hr => ⟨_, BD.frm [.im false] (Δb := kd0 1 1 false) (Δc := kd0 1 1 false)
    (b_one (z_ret (x_and (x_callN G_is_whole (hr.mono (by decide)) t.m_is_whole t.F_is_whole.kp t.b_is_whole pass0 (AD.to true false (a_cons (x_var 0) (a_nil)))) (x_one (x_chain or_le or_le (x_int) (x_var 0) (x_glob (v := .int (10)) h_MOST_PLACES ⟨_, rfl⟩ (.int _))))))) rfl⟩
def g_is_place : Gs := gRet (gAndV (gCallN 1 f_is_whole (gCons (gVar 1) (gNil))) (gChain hLe hLt (gC (.int (0))) (gVar 1) (gVar 0)))
def f_is_place : List Dt → O Dt := fnN 2 g_is_place
theorem ok_is_place (t : Tx K mg) : FnOk P w K mg base CX0 2 t.a_is_place t.d_is_place ["n", "thing"] (spG K mg 2 f_is_place) := by
  have G_is_whole := ok_is_whole (P := P) (w := w) (base := base) t
  have nd : (["n", "thing"] : List Str).Nodup := by decide +kernel
  exact fn_okN t.F_is_place (Δn := [.im false, .im false]) sc_is_place rfl rfl (by decide) fun cdv A outer s H E hr => ⟨_, BD.frm [.im false, .im false] (Δb := kd0 2 2 false) (Δc := kd0 2 2 false)
    (b_one (z_ret (x_and (x_callN G_is_whole (hr.mono (by decide)) t.m_is_whole t.F_is_whole.kp t.b_is_whole pass0 (AD.to true false (a_cons (x_var 1) (a_nil)))) (x_one (x_chain or_le or_lt (x_int) (x_var 1) (x_var 0)))))) rfl⟩
def g_is_moment : Gs := gRet (gAndV (gCallN 1 f_is_whole (gCons (gVar 0) (gNil))) (gChain hLe hLe (gC (.int (0))) (gVar 0) (gC (.int (1000000000000000000000000000000)))))
def f_is_moment : List Dt → O Dt := fnN 1 g_is_moment
theorem ok_is_moment (t : Tx K mg) : FnOk P w K mg base CX0 2 t.a_is_moment t.d_is_moment ["thing"] (spG K mg 1 f_is_moment) := by
  obtain ⟨_, h_LAST_MOMENT⟩ := t.c_LAST_MOMENT
  have G_is_whole := ok_is_whole (P := P) (w := w) (base := base) t
  have nd : (["thing"] : List Str).Nodup := by decide +kernel
  exact fn_okN t.F_is_moment (Δn := [.im false]) sc_is_moment rfl rfl (by decide) fun cdv A outer s H E hr => ⟨_, BD.frm [.im false] (Δb := kd0 1 1 false) (Δc := kd0 1 1 false)
    (b_one (z_ret (x_and (x_callN G_is_whole (hr.mono (by decide)) t.m_is_whole t.F_is_whole.kp t.b_is_whole pass0 (AD.to true false (a_cons (x_var 0) (a_nil)))) (x_one (x_chain or_le or_le (x_int) (x_var 0) (x_glob (v := .int (1000000000000000000000000000000)) h_LAST_MOMENT ⟨_, rfl⟩ (.int _))))))) rfl⟩
def g_is_meeting : Gs := gSeqS (gIfS (gOr (gNot (gTest (gUn (hIsa .tuple) (gVar 1)))) (gOr (gTest (gOp hNe (gCB hLen (gCons (gVar 1) (gNil))) (gC (.int (3))))) (gNot (gTest (gCallN 1 f_is_moment (gCons (gOp hIx (gVar 1) (gC (.int (0)))) (gNil))))))) (gRet (gC (.bool false))) (gNext)) (gRet (gAndV (gCallN 2 f_is_place (gCons (gVar 0) (gCons (gOp hIx (gVar 1) (gC (.int (1)))) (gNil)))) (gCallN 2 f_is_place (gCons (gVar 0) (gCons (gOp hIx (gVar 1) (gC (.int (2)))) (gNil))))))
def f_is_meeting : List Dt → O Dt := fnN 2 g_is_meeting
theorem ok_is_meeting (t : Tx K mg) : FnOk P w K mg base CX0 3 t.a_is_meeting t.d_is_meeting ["n", "thing"] (spG K mg 2 f_is_meeting) := by
  have G_is_moment := ok_is_moment (P := P) (w := w) (base := base) t
  have G_is_place := ok_is_place (P := P) (w := w) (base := base) t
  have nd : (["n", "thing"] : List Str).Nodup := by decide +kernel
  exact fn_okN t.F_is_meeting (Δn := [.im false, .im false]) sc_is_meeting rfl rfl (by decide) fun cdv A outer s H E hr => ⟨_, BD.frm [.im false, .im false] (Δb := kd0 2 2 false) (Δc := kd0 2 2 false)
    (b_cons (z_if (Δn := [.im false, .im false]) (c_w (w_or (c_not (c_val (x_isa .tuple t.n_isinstance t.n_tuple (x_var 1)))) (w_or (c_cmp (or_ne hr) (x_len t.n_len (AD.to true false (a_cons (x_var 1) (a_nil)))) (x_int)) (w_or1 (c_not (c_val (x_callN G_is_moment (hr.mono (by decide)) t.m_is_moment t.F_is_moment.kp t.b_is_moment pass0 (AD.to true false (a_cons (x_ix (x_var 1) (x_int)) (a_nil))))))))))
    (b_one (z_ret (x_bl)))
    ((b_nil).to [.im false, .im false]))
    (b_one (z_ret (x_and (x_callN G_is_place (hr.mono (by decide)) t.m_is_place t.F_is_place.kp t.b_is_place pass0 (AD.to true false (a_cons (x_var 0) (a_cons (x_ix (x_var 1) (x_int)) (a_nil))))) (x_one (x_callN G_is_place (hr.mono (by decide)) t.m_is_place t.F_is_place.kp t.b_is_place pass0 (AD.to true false (a_cons (x_var 0) (a_cons (x_ix (x_var 1) (x_int)) (a_nil)))))))))) rfl⟩
def g_record_of_L1 : Gs := gTPut 3 (gC (.bool true)) (gCons (gVar 4) (gCons (gCB hMin2 (gCons (gVar 5) (gCons (gVar 6) (gNil)))) (gCons (gCB hMax2 (gCons (gVar 5) (gCons (gVar 6) (gNil)))) (gNil))))
def g_record_of_L2 : Gs := gIfS (gTest (gOp hEq (gOp hIx (gOp hIx (gVar 7) (gOp hSub (gVar 8) (gC (.int (1))))) (gC (.int (0)))) (gOp hIx (gOp hIx (gVar 7) (gVar 8)) (gC (.int (0)))))) (gRaise1 "Clash" (gOp hIx (gOp hIx (gVar 7) (gVar 8)) (gC (.int (0))))) (gNext)
def g_record_of : Gs := gSeqS (gIfS (gNot (gTest (gCallN 1 f_is_many (gCons (gVar 0) (gNil))))) (gRaise "NoPlaces") (gNext)) (gSeqS (gIfS (gOr (gNot (gTest (gUn (hIsa .list) (gVar 1)))) (gNot (gTest (gCB hAll (gCons (gLc (gSeq (gVar 1)) (tgN 2) (gYes) (gCallN 2 f_is_meeting (gCons (gVar 0) (gCons (gVar 2) (gNil))))) (gNil)))))) (gRaise "NoTies") (gNext)) (gSeqS (gSet 3 (gDNew)) (gSeqS (gFor (gSeq (gVar 1)) (tgT (tgCons (tgN 4) (tgCons (tgN 5) (tgCons (tgN 6) (tgNil))))) g_record_of_L1) (gSeqS (gSet 7 (gCB (one hSortD) (gCons (gTKeys 3) (gNil)))) (gSeqS (gIfS (gTest (gOp hGt (gCB hLen (gCons (gVar 7) (gNil))) (gC (.int (60))))) (gRaise "NoTies") (gNext)) (gSeqS (gFor (gRng2 (gCons (gC (.int (1))) (gCons (gCB hLen (gCons (gVar 7) (gNil))) (gNil)))) (tgN 8) g_record_of_L2) (gRet (gVar 7))))))))
def f_record_of : List Dt → O Dt := fnLX 9 g_record_of
theorem ok_record_of (t : Tx K mg) : FnOk P w K mg base (L2.CX P w) 4 t.a_record_of t.d_record_of ["n", "things"] (spL K mg 2 f_record_of) := by
  obtain ⟨_, h_MOST_TIES⟩ := t.c_MOST_TIES
  have G_is_many := ok_is_many (P := P) (w := w) (base := base) t
  have G_is_meeting := ok_is_meeting (P := P) (w := w) (base := base) t
  have nd : (["n", "things", "thing", "found", "moment", "a", "b", "ties", "at"] : List Str).Nodup := by decide +kernel
  exact fn_okLX t.F_record_of (Δn := [.im false, .im false, .no, .no, .no, .no, .no, .no, .no]) sc_record_of rfl rfl (by decide) fun cdv A outer s H E hr tk hp => ⟨_, BD.frm [.im false, .im false, .no, .no, .no, .no, .no, .no, .no] (Δb := kd0 2 9 false) (Δc := kd0 2 9 false)
    (b_cons (z_if (Δn := [.im false, .im false, .no, .no, .no, .no, .no, .no, .no]) (c_not (c_val (x_callN G_is_many (hr.mono (by decide)) t.m_is_many t.F_is_many.kp t.b_is_many pass0 (AD.to true false (a_cons (x_var 0) (a_nil))))))
    (b_one (z_raise0 tk t.E_NoPlaces t.Q_NoPlaces))
    ((b_nil).to [.im false, .im false, .no, .no, .no, .no, .no, .no, .no]))
    (b_cons (z_if (Δn := [.im false, .im false, .no, .no, .no, .no, .no, .no, .no]) (c_w (w_or (c_not (c_val (x_isa .list t.n_isinstance t.n_list (x_var 1)))) (w_or1 (c_not (c_val (x_all t.n_all (AD.to true true (a_cons ((x_lc (n := 9) [("thing", 2)] nd (i_seq (x_var 1)) (blk_fx (N := ["n", "things", "thing", "found", "moment", "a", "b", "ties", "at"]) (sc := defScope st_record_of) (by decide +kernel)) (fun _ _ _ _ _ => g_name 2 nd) (fun _ _ _ _ _ => t_nil) (fun _ _ _ _ _ => x_callN G_is_meeting (hr.mono (by decide)) t.m_is_meeting t.F_is_meeting.kp t.b_is_meeting pass0 (AD.to true false (a_cons (x_var 0) (a_cons (x_var 2) (a_nil)))))).nv) (a_nil)))))))))
    (b_one (z_raise0 tk t.E_NoTies t.Q_NoTies))
    ((b_nil).to [.im false, .im false, .no, .no, .no, .no, .no, .no, .no]))
    (b_cons ((z_setO 3 nd (x_dnewT)).to [.im false, .im false, .no, .own .dt true, .no, .no, .no, .no, .no])
    (b_cons (z_for (n := 9) hp (i_seq (x_var 1)) (g_tup (m := 3) rfl (g_cons (g_name 4 nd) (g_cons (g_name 5 nd) (g_cons (g_name 6 nd) (g_nil)))) (tgCons_len (tgCons_len (tgCons_len tgNil_len))))
    ((b_one ((z_tput 3 hr (x_bl) (AD.to true false (a_cons (x_var 4) (a_cons (x_min2 t.n_min (AD.to true false (a_cons (x_var 5) (a_cons (x_var 6) (a_nil))))) (a_cons (x_max2 t.n_max (AD.to true false (a_cons (x_var 5) (a_cons (x_var 6) (a_nil))))) (a_nil)))))).to [.im false, .im false, .no, .own .dt true, .im false, .im false, .im false, .no, .no])).to [.im false, .im false, .no, .own .dt true, .no, .no, .no, .no, .no]))
    (b_cons ((z_setO 7 nd (x_sortD hr t.n_sorted (AD.to true true (a_cons ((x_tkeys 3 t.n_list).nv) (a_nil))))).to [.im false, .im false, .no, .own .dt true, .no, .no, .no, .own .l true, .no])
    (b_cons (z_if (Δn := [.im false, .im false, .no, .own .dt true, .no, .no, .no, .own .l true, .no]) (c_cmp or_gt (x_len t.n_len (AD.to false true (a_cons ((x_own 7).ov) (a_nil)))) (x_glob (v := .int (60)) h_MOST_TIES ⟨_, rfl⟩ (.int _)))
    (b_one (z_raise0 tk t.E_NoTies t.Q_NoTies))
    ((b_nil).to [.im false, .im false, .no, .own .dt true, .no, .no, .no, .own .l true, .no]))
    (b_cons (z_for (n := 9) hp (i_rng2 t.n_range (AD.to true true (a_cons (x_int) (a_cons (x_len t.n_len (AD.to false true (a_cons ((x_own 7).ov) (a_nil)))) (a_nil))))) (g_name 8 nd)
    ((b_one (z_if (Δn := [.im false, .im false, .no, .own .dt true, .no, .no, .no, .own .l true, .im true]) (c_cmp (or_eq hr) (x_ix (x_ixO (x_own 7) (x_sub (x_var 8) (x_int))) (x_int)) (x_ix (x_ixO (x_own 7) (x_var 8)) (x_int)))
    (b_one (z_raise1 tk (xi_Clash (P := P) (w := w) (base := base) t) (hr.mono (by decide)) (x_ix (x_ixO (x_own 7) (x_var 8)) (x_int))))
    ((b_nil).to [.im false, .im false, .no, .own .dt true, .no, .no, .no, .own .l true, .im true]))).to [.im false, .im false, .no, .own .dt true, .no, .no, .no, .own .l true, .no]))
    (b_one (z_retO 7))))))))) rfl⟩
abbrev g_l_mixed : Gs := FamA.g_l_mixed
abbrev f_l_mixed : List Dt → O Dt := FamA.f_l_mixed
theorem ok_l_mixed (t : Tx K mg) : FnOk P w K mg base CX0 1 t.a_l_mixed t.d_l_mixed ["cell", "k"] (spG K mg 2 f_l_mixed) := by
  have nd : (["cell", "k", "number"] : List Str).Nodup := by decide +kernel
  exact fn_okN t.F_l_mixed (Δn := [.im false, .im false, .no]) sc_l_mixed rfl rfl (by decide) fun cdv A outer s H E hr => ⟨_, BD.frm [.im false, .im false, .no] (Δb := kd0 2 3 false) (Δc := kd0 2 3 false)
    (b_cons ((z_set 2 nd (x_mod (x_mul (x_add (x_add (x_mod (x_var 0) (x_int)) (x_mul (x_int) (x_var 1))) (x_int)) (x_int)) (x_int))).to [.im false, .im false, .im true])
    (b_cons ((z_set 2 nd (x_mod (x_add (x_mod (x_mul (x_var 2) (x_var 2)) (x_int)) (x_mul (x_int) (x_var 1))) (x_int))).to [.im false, .im false, .im true])
    (b_one (z_ret (x_mod (x_mul (x_var 2) (x_int)) (x_int)))))) rfl⟩
abbrev g_l_numbers : Gs := FamA.g_l_numbers
abbrev f_l_numbers : List Dt → O Dt := FamA.f_l_numbers
theorem ok_l_numbers (t : Tx K mg) : FnOk P w K mg base CX0 2 t.a_l_numbers t.d_l_numbers ["cell", "many", "base"] (spL K mg 3 f_l_numbers) := by
  have G_l_mixed := ok_l_mixed (P := P) (w := w) (base := base) t
  have nd : (["cell", "many", "base", "found", "left", "k", "number", "turns"] : List Str).Nodup := by decide +kernel
  exact fn_okL t.F_l_numbers (Δn := [.im false, .im false, .im false, .no, .no, .no, .no, .no]) sc_l_numbers rfl rfl (by decide) fun cdv A outer s H E hr => ⟨_, BD.frm [.im false, .im false, .im false, .no, .no, .no, .no, .no] (Δb := kd0 3 8 false) (Δc := kd0 3 8 false)
    (b_cons ((z_setO 3 nd (x_lst (a_nil))).to [.im false, .im false, .im false, .own .l true, .no, .no, .no, .no])
    (b_cons ((z_set 4 nd (x_sub (x_var 0) (x_pow (x_int) (x_int)))).to [.im false, .im false, .im false, .own .l true, .im true, .no, .no, .no])
    (b_cons (z_for (n := 8) .never (i_rng1 t.n_range (AD.to true false (a_cons (x_var 1) (a_nil)))) (g_name 5 nd)
    ((b_cons ((z_set 6 nd (x_var 4)).to [.im false, .im false, .im false, .own .l true, .im true, .im true, .im true, .no])
    (b_cons (z_if (Δn := [.im false, .im false, .im false, .own .l true, .im true, .im true, .im true, .no]) (c_cmp or_gt (x_var 4) (x_int))
    ((b_one ((z_set 4 nd (x_div (x_var 4) (x_var 2))).to [.im false, .im false, .im false, .own .l true, .im true, .im true, .im true, .no])).to [.im false, .im false, .im false, .own .l true, .im true, .im true, .im true, .no])
    ((b_cons ((z_set 6 nd (x_int)).to [.im false, .im false, .im false, .own .l true, .im true, .im true, .im true, .no])
    (b_cons ((z_set 7 nd (x_int)).to [.im false, .im false, .im false, .own .l true, .im true, .im true, .im true, .im true])
    (b_one (z_while 100 .never (c_cmp or_lt (x_mul (x_var 7) (x_int)) (x_add (x_bits (x_var 2)) (x_int)))
    ((b_cons ((z_set 6 nd (x_add (x_mul (x_var 6) (x_int)) (x_callN G_l_mixed (hr.mono (by decide)) t.m_l_mixed t.F_l_mixed.kp t.b_l_mixed pass0 (AD.to true false (a_cons (x_var 0) (a_cons (x_add (x_mul (x_int) (x_var 5)) (x_var 7)) (a_nil))))))).to [.im false, .im false, .im false, .own .l true, .im true, .im true, .im true, .im true])
    (b_one ((z_set 7 nd (x_add (x_var 7) (x_int))).to [.im false, .im false, .im false, .own .l true, .im true, .im true, .im true, .im true]))).to [.im false, .im false, .im false, .own .l true, .im true, .im true, .im true, .im true]))))).to [.im false, .im false, .im false, .own .l true, .im true, .im true, .im true, .no]))
    (b_one ((z_app 3 (x_mod (x_var 6) (x_var 2))).to [.im false, .im false, .im false, .own .l true, .im true, .im true, .im true, .no])))).to [.im false, .im false, .im false, .own .l true, .im true, .no, .no, .no]))
    (b_one (z_retO 3))))) rfl⟩
abbrev g_l_ends : Gs := FamA.g_l_ends
abbrev f_l_ends : List Dt → O Dt := FamA.f_l_ends
theorem ok_l_ends (t : Tx K mg) : FnOk P w K mg base CX0 1 t.a_l_ends t.d_l_ends ["n", "kind", "one", "other"] (spG K mg 4 f_l_ends) := by
  have nd : (["n", "kind", "one", "other", "a"] : List Str).Nodup := by decide +kernel
  exact fn_okN t.F_l_ends (Δn := [.im false, .im false, .im false, .im false, .no]) sc_l_ends rfl rfl (by decide) fun cdv A outer s H E hr => ⟨_, BD.frm [.im false, .im false, .im false, .im false, .no] (Δb := kd0 4 5 false) (Δc := kd0 4 5 false)
    (b_cons ((z_set 4 nd (x_mod (x_var 2) (x_var 0))).to [.im false, .im false, .im false, .im false, .im true])
    (b_cons (z_if (Δn := [.im false, .im false, .im false, .im false, .im true]) (c_cmp (or_eq hr) (x_var 1) (x_int))
    (b_one (z_ret (x_tup (AD.to true true (a_cons (x_var 4) (a_cons (x_mod (x_var 3) (x_var 0)) (a_nil)))))))
    ((b_nil).to [.im false, .im false, .im false, .im false, .im true]))
    (b_cons (z_if (Δn := [.im false, .im false, .im false, .im false, .im true]) (c_cmp (or_eq hr) (x_var 1) (x_int))
    (b_one (z_ret (x_tup (AD.to true true (a_cons (x_mod (x_var 2) (x_min2 t.n_min (AD.to true false (a_cons (x_var 0) (a_cons (x_int) (a_nil)))))) (a_cons (x_mod (x_var 3) (x_min2 t.n_min (AD.to true false (a_cons (x_var 0) (a_cons (x_int) (a_nil)))))) (a_nil)))))))
    ((b_nil).to [.im false, .im false, .im false, .im false, .im true]))
    (b_cons (z_if (Δn := [.im false, .im false, .im false, .im false, .im true]) (c_cmp (or_eq hr) (x_var 1) (x_int))
    (b_one (z_ret (x_tup (AD.to true true (a_cons (x_var 4) (a_cons (x_mod (x_add (x_add (x_var 4) (x_int)) (x_div (x_mod (x_var 3) (x_int)) (x_int))) (x_var 0)) (a_nil)))))))
    ((b_nil).to [.im false, .im false, .im false, .im false, .im true]))
    (b_one (z_ret (x_tup (AD.to true true (a_cons (x_var 4) (a_cons (x_mod (x_add (x_var 4) (x_mul (x_int) (x_mod (x_var 3) (x_var 0)))) (x_var 0)) (a_nil))))))))))) rfl⟩
abbrev g_l_record : Gs := FamA.g_l_record
abbrev f_l_record : List Dt → O Dt := FamA.f_l_record
theorem ok_l_record (t : Tx K mg) : FnOk P w K mg base CX0 2 t.a_l_record t.d_l_record ["numbers", "most"] (spG K mg 2 f_l_record) := by
  have G_l_ends := ok_l_ends (P := P) (w := w) (base := base) t
  have nd : (["numbers", "most", "n", "many", "wide", "moment", "record", "k", "a", "b"] : List Str).Nodup := by decide +kernel
  exact fn_okN t.F_l_record (Δn := [.im false, .im false, .no, .no, .no, .no, .no, .no, .no, .no]) sc_l_record rfl rfl (by decide) fun cdv A outer s H E hr => ⟨_, BD.frm [.im false, .im false, .no, .no, .no, .no, .no, .no, .no, .no] (Δb := kd0 2 10 false) (Δc := kd0 2 10 false)
    (b_cons ((z_set 2 nd (x_add (x_int) (x_mod (x_ix (x_var 0) (x_int)) (x_int)))).to [.im false, .im false, .im true, .no, .no, .no, .no, .no, .no, .no])
    (b_cons (z_if (Δn := [.im false, .im false, .im true, .no, .no, .no, .no, .no, .no, .no]) (c_cmp (or_eq hr) (x_mod (x_div (x_ix (x_var 0) (x_int)) (x_int)) (x_int)) (x_int))
    ((b_one ((z_set 2 nd (x_add (x_int) (x_mod (x_div (x_ix (x_var 0) (x_int)) (x_int)) (x_int)))).to [.im false, .im false, .im true, .no, .no, .no, .no, .no, .no, .no])).to [.im false, .im false, .im true, .no, .no, .no, .no, .no, .no, .no])
    ((b_nil).to [.im false, .im false, .im true, .no, .no, .no, .no, .no, .no, .no]))
    (b_cons ((z_set 3 nd (x_mod (x_ix (x_var 0) (x_int)) (x_int))).to [.im false, .im false, .im true, .im true, .no, .no, .no, .no, .no, .no])
    (b_cons (z_if (Δn := [.im false, .im false, .im true, .im true, .no, .no, .no, .no, .no, .no]) (c_cmp (or_eq hr) (x_mod (x_div (x_ix (x_var 0) (x_int)) (x_int)) (x_int)) (x_int))
    ((b_one ((z_set 3 nd (x_add (x_int) (x_mod (x_div (x_ix (x_var 0) (x_int)) (x_int)) (x_int)))).to [.im false, .im false, .im true, .im true, .no, .no, .no, .no, .no, .no])).to [.im false, .im false, .im true, .im true, .no, .no, .no, .no, .no, .no])
    ((b_nil).to [.im false, .im false, .im true, .im true, .no, .no, .no, .no, .no, .no]))
    (b_cons ((z_set 4 nd (x_ix ((x_lst (AD.to true true (a_cons (x_int) (a_cons (x_int) (a_cons (x_pow (x_int) (x_int)) (a_nil)))))).nv) (x_mod (x_ix (x_var 0) (x_int)) (x_int)))).to [.im false, .im false, .im true, .im true, .im true, .no, .no, .no, .no, .no])
    (b_cons ((z_set 5 nd (x_ix ((x_lst (AD.to true true (a_cons (x_int) (a_cons (x_mod (x_div (x_ix (x_var 0) (x_int)) (x_int)) (x_int)) (a_cons (x_mod (x_ix (x_var 0) (x_int)) (x_pow (x_int) (x_int))) (a_nil)))))).nv) (x_mod (x_div (x_ix (x_var 0) (x_int)) (x_int)) (x_int)))).to [.im false, .im false, .im true, .im true, .im true, .im true, .no, .no, .no, .no])
    (b_cons ((z_setO 6 nd (x_lst (a_nil))).to [.im false, .im false, .im true, .im true, .im true, .im true, .own .l true, .no, .no, .no])
    (b_cons (z_for (n := 10) .never (i_rng1 t.n_range (AD.to true true (a_cons (x_min3 t.n_min (AD.to true false (a_cons (x_var 3) (a_cons (x_var 1) (a_cons (x_div (x_sub (x_len t.n_len (AD.to true false (a_cons (x_var 0) (a_nil)))) (x_int)) (x_int)) (a_nil)))))) (a_nil)))) (g_name 7 nd)
    ((b_cons ((z_asg (n := 10) (x_callN G_l_ends (hr.mono (by decide)) t.m_l_ends t.F_l_ends.kp t.b_l_ends pass0 (AD.to true false (a_cons (x_var 2) (a_cons (x_mod (x_ix (x_var 0) (x_int)) (x_int)) (a_cons (x_ix (x_var 0) (x_add (x_int) (x_mul (x_int) (x_var 7)))) (a_cons (x_ix (x_var 0) (x_add (x_int) (x_mul (x_int) (x_var 7)))) (a_nil))))))) (g_tup (m := 2) rfl (g_cons (g_name 8 nd) (g_cons (g_name 9 nd) (g_nil))) (tgCons_len (tgCons_len tgNil_len)))).to [.im false, .im false, .im true, .im true, .im true, .im true, .own .l true, .im true, .im true, .im true])
    (b_cons ((z_app 6 (x_tup (AD.to true true (a_cons (x_var 5) (a_cons (x_min2 t.n_min (AD.to true true (a_cons (x_var 8) (a_cons (x_var 9) (a_nil))))) (a_cons (x_max2 t.n_max (AD.to true true (a_cons (x_var 8) (a_cons (x_var 9) (a_nil))))) (a_nil))))))).to [.im false, .im false, .im true, .im true, .im true, .im true, .own .l true, .im true, .im true, .im true])
    (b_one ((z_set 5 nd (x_add (x_add (x_var 5) (x_int)) (x_mod (x_ix (x_var 0) (x_add (x_int) (x_mul (x_int) (x_var 7)))) (x_var 4)))).to [.im false, .im false, .im true, .im true, .im true, .im true, .own .l true, .im true, .im true, .im true])))).to [.im false, .im false, .im true, .im true, .im true, .im true, .own .l true, .no, .no, .no]))
    (b_one (z_ret (x_tup (AD.to false true (a_cons (x_var 2) (a_cons ((x_own 6).ov) (a_nil))))))))))))))) rfl⟩
def g_l_marks : Gs := gSeqS (gSet 1 (gLst (gCons (gUn (hIsY [("NoPlaces", true), ("NoTies", false), ("Clash", false), ("NoLayers", false), ("NoPair", false), ("NoNet", false), ("Unlike", false), ("NoText", false), ("NoPaper", false), ("NoRow", false), ("NoDeed", false)]) (gVar 0)) (gCons (gUn (hIsY [("NoPlaces", false), ("NoTies", true), ("Clash", false), ("NoLayers", false), ("NoPair", false), ("NoNet", false), ("Unlike", false), ("NoText", false), ("NoPaper", false), ("NoRow", false), ("NoDeed", false)]) (gVar 0)) (gCons (gUn (hIsY [("NoPlaces", false), ("NoTies", false), ("Clash", true), ("NoLayers", false), ("NoPair", false), ("NoNet", false), ("Unlike", false), ("NoText", false), ("NoPaper", false), ("NoRow", false), ("NoDeed", false)]) (gVar 0)) (gNil)))))) (gSeqS (gSet 1 (gOp hCat (gVar 1) (gLst (gCons (gUn (hIsY [("NoPlaces", false), ("NoTies", false), ("Clash", false), ("NoLayers", true), ("NoPair", false), ("NoNet", false), ("Unlike", false), ("NoText", false), ("NoPaper", false), ("NoRow", false), ("NoDeed", false)]) (gVar 0)) (gCons (gUn (hIsY [("NoPlaces", false), ("NoTies", false), ("Clash", false), ("NoLayers", false), ("NoPair", true), ("NoNet", false), ("Unlike", false), ("NoText", false), ("NoPaper", false), ("NoRow", false), ("NoDeed", false)]) (gVar 0)) (gCons (gUn (hIsY [("NoPlaces", false), ("NoTies", false), ("Clash", false), ("NoLayers", false), ("NoPair", false), ("NoNet", true), ("Unlike", false), ("NoText", false), ("NoPaper", false), ("NoRow", false), ("NoDeed", false)]) (gVar 0)) (gNil))))))) (gSeqS (gSet 1 (gOp hCat (gVar 1) (gLst (gCons (gUn (hIsY [("NoPlaces", false), ("NoTies", false), ("Clash", false), ("NoLayers", false), ("NoPair", false), ("NoNet", false), ("Unlike", true), ("NoText", false), ("NoPaper", false), ("NoRow", false), ("NoDeed", false)]) (gVar 0)) (gCons (gUn (hIsY [("NoPlaces", false), ("NoTies", false), ("Clash", false), ("NoLayers", false), ("NoPair", false), ("NoNet", false), ("Unlike", false), ("NoText", true), ("NoPaper", false), ("NoRow", false), ("NoDeed", false)]) (gVar 0)) (gCons (gUn (hIsY [("NoPlaces", false), ("NoTies", false), ("Clash", false), ("NoLayers", false), ("NoPair", false), ("NoNet", false), ("Unlike", false), ("NoText", false), ("NoPaper", true), ("NoRow", false), ("NoDeed", false)]) (gVar 0)) (gNil))))))) (gRet (gOp hCat (gVar 1) (gLst (gCons (gUn (hIsY [("NoPlaces", false), ("NoTies", false), ("Clash", false), ("NoLayers", false), ("NoPair", false), ("NoNet", false), ("Unlike", false), ("NoText", false), ("NoPaper", false), ("NoRow", true), ("NoDeed", false)]) (gVar 0)) (gCons (gUn (hIsY [("NoPlaces", false), ("NoTies", false), ("Clash", false), ("NoLayers", false), ("NoPair", false), ("NoNet", false), ("Unlike", false), ("NoText", false), ("NoPaper", false), ("NoRow", false), ("NoDeed", true)]) (gVar 0)) (gNil))))))))
def f_l_marks : List Dt → O Dt := fnL 2 g_l_marks
theorem ok_l_marks (t : Tx K mg) : FnOk P w K mg base CX0 1 t.a_l_marks t.d_l_marks ["caught"] (spL K mg 1 f_l_marks) := by
  have nd : (["caught", "some"] : List Str).Nodup := by decide +kernel
  exact fn_okL t.F_l_marks (Δn := [.im false, .no]) sc_l_marks rfl rfl (by decide) fun cdv A outer s H E hr => ⟨_, BD.frm [.im false, .no] (Δb := kd0 1 2 false) (Δc := kd0 1 2 false)
    (b_cons ((z_set 1 nd ((x_lst (AD.to true true (a_cons (x_isY t.n_isinstance t.E_NoPlaces.g (tab_cons t.E_NoPlaces (kit_yes t.E_NoPlaces t.S_NoPlaces_NoPlaces) (tab_cons t.E_NoTies (kit_no t.E_NoPlaces t.S_NoTies_NoPlaces t.S_NoTies_NoTies) (tab_cons t.E_Clash (kit_no t.E_NoPlaces t.S_Clash_NoPlaces t.S_Clash_Clash) (tab_cons t.E_NoLayers (kit_no t.E_NoPlaces t.S_NoLayers_NoPlaces t.S_NoLayers_NoLayers) (tab_cons t.E_NoPair (kit_no t.E_NoPlaces t.S_NoPair_NoPlaces t.S_NoPair_NoPair) (tab_cons t.E_NoNet (kit_no t.E_NoPlaces t.S_NoNet_NoPlaces t.S_NoNet_NoNet) (tab_cons t.E_Unlike (kit_no t.E_NoPlaces t.S_Unlike_NoPlaces t.S_Unlike_Unlike) (tab_cons t.E_NoText (kit_no t.E_NoPlaces t.S_NoText_NoPlaces t.S_NoText_NoText) (tab_cons t.E_NoPaper (kit_no t.E_NoPlaces t.S_NoPaper_NoPlaces t.S_NoPaper_NoPaper) (tab_cons t.E_NoRow (kit_no t.E_NoPlaces t.S_NoRow_NoPlaces t.S_NoRow_NoRow) (tab_cons t.E_NoDeed (kit_no t.E_NoPlaces t.S_NoDeed_NoPlaces t.S_NoDeed_NoDeed) (tab_nil)))))))))))) (x_var 0)) (a_cons (x_isY t.n_isinstance t.E_NoTies.g (tab_cons t.E_NoPlaces (kit_no t.E_NoTies t.S_NoPlaces_NoTies t.S_NoPlaces_NoPlaces) (tab_cons t.E_NoTies (kit_yes t.E_NoTies t.S_NoTies_NoTies) (tab_cons t.E_Clash (kit_no t.E_NoTies t.S_Clash_NoTies t.S_Clash_Clash) (tab_cons t.E_NoLayers (kit_no t.E_NoTies t.S_NoLayers_NoTies t.S_NoLayers_NoLayers) (tab_cons t.E_NoPair (kit_no t.E_NoTies t.S_NoPair_NoTies t.S_NoPair_NoPair) (tab_cons t.E_NoNet (kit_no t.E_NoTies t.S_NoNet_NoTies t.S_NoNet_NoNet) (tab_cons t.E_Unlike (kit_no t.E_NoTies t.S_Unlike_NoTies t.S_Unlike_Unlike) (tab_cons t.E_NoText (kit_no t.E_NoTies t.S_NoText_NoTies t.S_NoText_NoText) (tab_cons t.E_NoPaper (kit_no t.E_NoTies t.S_NoPaper_NoTies t.S_NoPaper_NoPaper) (tab_cons t.E_NoRow (kit_no t.E_NoTies t.S_NoRow_NoTies t.S_NoRow_NoRow) (tab_cons t.E_NoDeed (kit_no t.E_NoTies t.S_NoDeed_NoTies t.S_NoDeed_NoDeed) (tab_nil)))))))))))) (x_var 0)) (a_cons (x_isY t.n_isinstance t.E_Clash.g (tab_cons t.E_NoPlaces (kit_no t.E_Clash t.S_NoPlaces_Clash t.S_NoPlaces_NoPlaces) (tab_cons t.E_NoTies (kit_no t.E_Clash t.S_NoTies_Clash t.S_NoTies_NoTies) (tab_cons t.E_Clash (kit_yes t.E_Clash t.S_Clash_Clash) (tab_cons t.E_NoLayers (kit_no t.E_Clash t.S_NoLayers_Clash t.S_NoLayers_NoLayers) (tab_cons t.E_NoPair (kit_no t.E_Clash t.S_NoPair_Clash t.S_NoPair_NoPair) (tab_cons t.E_NoNet (kit_no t.E_Clash t.S_NoNet_Clash t.S_NoNet_NoNet) (tab_cons t.E_Unlike (kit_no t.E_Clash t.S_Unlike_Clash t.S_Unlike_Unlike) (tab_cons t.E_NoText (kit_no t.E_Clash t.S_NoText_Clash t.S_NoText_NoText) (tab_cons t.E_NoPaper (kit_no t.E_Clash t.S_NoPaper_Clash t.S_NoPaper_NoPaper) (tab_cons t.E_NoRow (kit_no t.E_Clash t.S_NoRow_Clash t.S_NoRow_NoRow) (tab_cons t.E_NoDeed (kit_no t.E_Clash t.S_NoDeed_Clash t.S_NoDeed_NoDeed) (tab_nil)))))))))))) (x_var 0)) (a_nil)))))).nv)).to [.im false, .im true])
    (b_cons ((z_set 1 nd ((PD.wkN true (x_cat (x_var 1) ((x_lst (AD.to true true (a_cons (x_isY t.n_isinstance t.E_NoLayers.g (tab_cons t.E_NoPlaces (kit_no t.E_NoLayers t.S_NoPlaces_NoLayers t.S_NoPlaces_NoPlaces) (tab_cons t.E_NoTies (kit_no t.E_NoLayers t.S_NoTies_NoLayers t.S_NoTies_NoTies) (tab_cons t.E_Clash (kit_no t.E_NoLayers t.S_Clash_NoLayers t.S_Clash_Clash) (tab_cons t.E_NoLayers (kit_yes t.E_NoLayers t.S_NoLayers_NoLayers) (tab_cons t.E_NoPair (kit_no t.E_NoLayers t.S_NoPair_NoLayers t.S_NoPair_NoPair) (tab_cons t.E_NoNet (kit_no t.E_NoLayers t.S_NoNet_NoLayers t.S_NoNet_NoNet) (tab_cons t.E_Unlike (kit_no t.E_NoLayers t.S_Unlike_NoLayers t.S_Unlike_Unlike) (tab_cons t.E_NoText (kit_no t.E_NoLayers t.S_NoText_NoLayers t.S_NoText_NoText) (tab_cons t.E_NoPaper (kit_no t.E_NoLayers t.S_NoPaper_NoLayers t.S_NoPaper_NoPaper) (tab_cons t.E_NoRow (kit_no t.E_NoLayers t.S_NoRow_NoLayers t.S_NoRow_NoRow) (tab_cons t.E_NoDeed (kit_no t.E_NoLayers t.S_NoDeed_NoLayers t.S_NoDeed_NoDeed) (tab_nil)))))))))))) (x_var 0)) (a_cons (x_isY t.n_isinstance t.E_NoPair.g (tab_cons t.E_NoPlaces (kit_no t.E_NoPair t.S_NoPlaces_NoPair t.S_NoPlaces_NoPlaces) (tab_cons t.E_NoTies (kit_no t.E_NoPair t.S_NoTies_NoPair t.S_NoTies_NoTies) (tab_cons t.E_Clash (kit_no t.E_NoPair t.S_Clash_NoPair t.S_Clash_Clash) (tab_cons t.E_NoLayers (kit_no t.E_NoPair t.S_NoLayers_NoPair t.S_NoLayers_NoLayers) (tab_cons t.E_NoPair (kit_yes t.E_NoPair t.S_NoPair_NoPair) (tab_cons t.E_NoNet (kit_no t.E_NoPair t.S_NoNet_NoPair t.S_NoNet_NoNet) (tab_cons t.E_Unlike (kit_no t.E_NoPair t.S_Unlike_NoPair t.S_Unlike_Unlike) (tab_cons t.E_NoText (kit_no t.E_NoPair t.S_NoText_NoPair t.S_NoText_NoText) (tab_cons t.E_NoPaper (kit_no t.E_NoPair t.S_NoPaper_NoPair t.S_NoPaper_NoPaper) (tab_cons t.E_NoRow (kit_no t.E_NoPair t.S_NoRow_NoPair t.S_NoRow_NoRow) (tab_cons t.E_NoDeed (kit_no t.E_NoPair t.S_NoDeed_NoPair t.S_NoDeed_NoDeed) (tab_nil)))))))))))) (x_var 0)) (a_cons (x_isY t.n_isinstance t.E_NoNet.g (tab_cons t.E_NoPlaces (kit_no t.E_NoNet t.S_NoPlaces_NoNet t.S_NoPlaces_NoPlaces) (tab_cons t.E_NoTies (kit_no t.E_NoNet t.S_NoTies_NoNet t.S_NoTies_NoTies) (tab_cons t.E_Clash (kit_no t.E_NoNet t.S_Clash_NoNet t.S_Clash_Clash) (tab_cons t.E_NoLayers (kit_no t.E_NoNet t.S_NoLayers_NoNet t.S_NoLayers_NoLayers) (tab_cons t.E_NoPair (kit_no t.E_NoNet t.S_NoPair_NoNet t.S_NoPair_NoPair) (tab_cons t.E_NoNet (kit_yes t.E_NoNet t.S_NoNet_NoNet) (tab_cons t.E_Unlike (kit_no t.E_NoNet t.S_Unlike_NoNet t.S_Unlike_Unlike) (tab_cons t.E_NoText (kit_no t.E_NoNet t.S_NoText_NoNet t.S_NoText_NoText) (tab_cons t.E_NoPaper (kit_no t.E_NoNet t.S_NoPaper_NoNet t.S_NoPaper_NoPaper) (tab_cons t.E_NoRow (kit_no t.E_NoNet t.S_NoRow_NoNet t.S_NoRow_NoRow) (tab_cons t.E_NoDeed (kit_no t.E_NoNet t.S_NoDeed_NoNet t.S_NoDeed_NoDeed) (tab_nil)))))))))))) (x_var 0)) (a_nil)))))).nv))).nv)).to [.im false, .im true])
    (b_cons ((z_set 1 nd ((PD.wkN true (x_cat (x_var 1) ((x_lst (AD.to true true (a_cons (x_isY t.n_isinstance t.E_Unlike.g (tab_cons t.E_NoPlaces (kit_no t.E_Unlike t.S_NoPlaces_Unlike t.S_NoPlaces_NoPlaces) (tab_cons t.E_NoTies (kit_no t.E_Unlike t.S_NoTies_Unlike t.S_NoTies_NoTies) (tab_cons t.E_Clash (kit_no t.E_Unlike t.S_Clash_Unlike t.S_Clash_Clash) (tab_cons t.E_NoLayers (kit_no t.E_Unlike t.S_NoLayers_Unlike t.S_NoLayers_NoLayers) (tab_cons t.E_NoPair (kit_no t.E_Unlike t.S_NoPair_Unlike t.S_NoPair_NoPair) (tab_cons t.E_NoNet (kit_no t.E_Unlike t.S_NoNet_Unlike t.S_NoNet_NoNet) (tab_cons t.E_Unlike (kit_yes t.E_Unlike t.S_Unlike_Unlike) (tab_cons t.E_NoText (kit_no t.E_Unlike t.S_NoText_Unlike t.S_NoText_NoText) (tab_cons t.E_NoPaper (kit_no t.E_Unlike t.S_NoPaper_Unlike t.S_NoPaper_NoPaper) (tab_cons t.E_NoRow (kit_no t.E_Unlike t.S_NoRow_Unlike t.S_NoRow_NoRow) (tab_cons t.E_NoDeed (kit_no t.E_Unlike t.S_NoDeed_Unlike t.S_NoDeed_NoDeed) (tab_nil)))))))))))) (x_var 0)) (a_cons (x_isY t.n_isinstance t.E_NoText.g (tab_cons t.E_NoPlaces (kit_no t.E_NoText t.S_NoPlaces_NoText t.S_NoPlaces_NoPlaces) (tab_cons t.E_NoTies (kit_no t.E_NoText t.S_NoTies_NoText t.S_NoTies_NoTies) (tab_cons t.E_Clash (kit_no t.E_NoText t.S_Clash_NoText t.S_Clash_Clash) (tab_cons t.E_NoLayers (kit_no t.E_NoText t.S_NoLayers_NoText t.S_NoLayers_NoLayers) (tab_cons t.E_NoPair (kit_no t.E_NoText t.S_NoPair_NoText t.S_NoPair_NoPair) (tab_cons t.E_NoNet (kit_no t.E_NoText t.S_NoNet_NoText t.S_NoNet_NoNet) (tab_cons t.E_Unlike (kit_no t.E_NoText t.S_Unlike_NoText t.S_Unlike_Unlike) (tab_cons t.E_NoText (kit_yes t.E_NoText t.S_NoText_NoText) (tab_cons t.E_NoPaper (kit_no t.E_NoText t.S_NoPaper_NoText t.S_NoPaper_NoPaper) (tab_cons t.E_NoRow (kit_no t.E_NoText t.S_NoRow_NoText t.S_NoRow_NoRow) (tab_cons t.E_NoDeed (kit_no t.E_NoText t.S_NoDeed_NoText t.S_NoDeed_NoDeed) (tab_nil)))))))))))) (x_var 0)) (a_cons (x_isY t.n_isinstance t.E_NoPaper.g (tab_cons t.E_NoPlaces (kit_no t.E_NoPaper t.S_NoPlaces_NoPaper t.S_NoPlaces_NoPlaces) (tab_cons t.E_NoTies (kit_no t.E_NoPaper t.S_NoTies_NoPaper t.S_NoTies_NoTies) (tab_cons t.E_Clash (kit_no t.E_NoPaper t.S_Clash_NoPaper t.S_Clash_Clash) (tab_cons t.E_NoLayers (kit_no t.E_NoPaper t.S_NoLayers_NoPaper t.S_NoLayers_NoLayers) (tab_cons t.E_NoPair (kit_no t.E_NoPaper t.S_NoPair_NoPaper t.S_NoPair_NoPair) (tab_cons t.E_NoNet (kit_no t.E_NoPaper t.S_NoNet_NoPaper t.S_NoNet_NoNet) (tab_cons t.E_Unlike (kit_no t.E_NoPaper t.S_Unlike_NoPaper t.S_Unlike_Unlike) (tab_cons t.E_NoText (kit_no t.E_NoPaper t.S_NoText_NoPaper t.S_NoText_NoText) (tab_cons t.E_NoPaper (kit_yes t.E_NoPaper t.S_NoPaper_NoPaper) (tab_cons t.E_NoRow (kit_no t.E_NoPaper t.S_NoRow_NoPaper t.S_NoRow_NoRow) (tab_cons t.E_NoDeed (kit_no t.E_NoPaper t.S_NoDeed_NoPaper t.S_NoDeed_NoDeed) (tab_nil)))))))))))) (x_var 0)) (a_nil)))))).nv))).nv)).to [.im false, .im true])
    (b_one (z_retL (PD.wkN true (x_cat (x_var 1) ((x_lst (AD.to true true (a_cons (x_isY t.n_isinstance t.E_NoRow.g (tab_cons t.E_NoPlaces (kit_no t.E_NoRow t.S_NoPlaces_NoRow t.S_NoPlaces_NoPlaces) (tab_cons t.E_NoTies (kit_no t.E_NoRow t.S_NoTies_NoRow t.S_NoTies_NoTies) (tab_cons t.E_Clash (kit_no t.E_NoRow t.S_Clash_NoRow t.S_Clash_Clash) (tab_cons t.E_NoLayers (kit_no t.E_NoRow t.S_NoLayers_NoRow t.S_NoLayers_NoLayers) (tab_cons t.E_NoPair (kit_no t.E_NoRow t.S_NoPair_NoRow t.S_NoPair_NoPair) (tab_cons t.E_NoNet (kit_no t.E_NoRow t.S_NoNet_NoRow t.S_NoNet_NoNet) (tab_cons t.E_Unlike (kit_no t.E_NoRow t.S_Unlike_NoRow t.S_Unlike_Unlike) (tab_cons t.E_NoText (kit_no t.E_NoRow t.S_NoText_NoRow t.S_NoText_NoText) (tab_cons t.E_NoPaper (kit_no t.E_NoRow t.S_NoPaper_NoRow t.S_NoPaper_NoPaper) (tab_cons t.E_NoRow (kit_yes t.E_NoRow t.S_NoRow_NoRow) (tab_cons t.E_NoDeed (kit_no t.E_NoRow t.S_NoDeed_NoRow t.S_NoDeed_NoDeed) (tab_nil)))))))))))) (x_var 0)) (a_cons (x_isY t.n_isinstance t.E_NoDeed.g (tab_cons t.E_NoPlaces (kit_no t.E_NoDeed t.S_NoPlaces_NoDeed t.S_NoPlaces_NoPlaces) (tab_cons t.E_NoTies (kit_no t.E_NoDeed t.S_NoTies_NoDeed t.S_NoTies_NoTies) (tab_cons t.E_Clash (kit_no t.E_NoDeed t.S_Clash_NoDeed t.S_Clash_Clash) (tab_cons t.E_NoLayers (kit_no t.E_NoDeed t.S_NoLayers_NoDeed t.S_NoLayers_NoLayers) (tab_cons t.E_NoPair (kit_no t.E_NoDeed t.S_NoPair_NoDeed t.S_NoPair_NoPair) (tab_cons t.E_NoNet (kit_no t.E_NoDeed t.S_NoNet_NoDeed t.S_NoNet_NoNet) (tab_cons t.E_Unlike (kit_no t.E_NoDeed t.S_Unlike_NoDeed t.S_Unlike_Unlike) (tab_cons t.E_NoText (kit_no t.E_NoDeed t.S_NoText_NoDeed t.S_NoText_NoText) (tab_cons t.E_NoPaper (kit_no t.E_NoDeed t.S_NoPaper_NoDeed t.S_NoPaper_NoPaper) (tab_cons t.E_NoRow (kit_no t.E_NoDeed t.S_NoRow_NoDeed t.S_NoRow_NoRow) (tab_cons t.E_NoDeed (kit_yes t.E_NoDeed t.S_NoDeed_NoDeed) (tab_nil)))))))))))) (x_var 0)) (a_nil))))).nv)))))))) rfl⟩
def g_l_apart_L1 : Gs := gSeqS (gIfS (gOr (gNot (gTest (gUn (hIsY [("NoPlaces", true), ("NoTies", true), ("Clash", true), ("NoLayers", true), ("NoPair", true), ("NoNet", true), ("Unlike", true), ("NoText", true), ("NoPaper", true), ("NoRow", true), ("NoDeed", true)]) (gOp hIx (gVar 0) (gVar 1))))) (gNot (gTest (gUn (hIsY [("NoPlaces", true), ("NoTies", true), ("Clash", true), ("NoLayers", true), ("NoPair", true), ("NoNet", true), ("Unlike", true), ("NoText", true), ("NoPaper", true), ("NoRow", true), ("NoDeed", true)]) (gOp hIx (gVar 0) (gVar 1)))))) (gRet (gC (.bool false))) (gNext)) (gIfS (gTest (gOp hNe (gCallN 1 f_l_marks (gCons (gOp hIx (gVar 0) (gVar 1)) (gNil))) (gLc (gRng1 (gCons (gCB hLen (gCons (gVar 0) (gNil))) (gNil))) (tgN 2) (gYes) (gOp hEq (gVar 2) (gVar 1))))) (gRet (gC (.bool false))) (gNext))
def g_l_apart : Gs := gSeqS (gSet 0 (gLst (gCons (gC (exnD "NoPlaces" none)) (gCons (gC (exnD "NoTies" none)) (gCons (gNew1 "Clash" (gC (.int (7)))) (gCons (gC (exnD "NoLayers" none)) (gCons (gC (exnD "NoPair" none)) (gCons (gC (exnD "NoNet" none)) (gCons (gC (exnD "Unlike" none)) (gCons (gC (exnD "NoText" none)) (gCons (gC (exnD "NoPaper" none)) (gCons (gC (exnD "NoRow" none)) (gNil))))))))))))) (gSeqS (gApp 0 (gC (exnD "NoDeed" none))) (gSeqS (gFor (gRng1 (gCons (gCB hLen (gCons (gVar 0) (gNil))) (gNil))) (tgN 1) g_l_apart_L1) (gRet (gOp hEq (gUn (hMom "Clash") (gOp hIx (gVar 0) (gC (.int (2))))) (gC (.int (7)))))))
def f_l_apart : List Dt → O Dt := fnN 3 g_l_apart
theorem ok_l_apart (t : Tx K mg) : FnOk P w K mg base CX0 3 t.a_l_apart t.d_l_apart [] (spG K mg 0 f_l_apart) := by
  have G_l_marks := ok_l_marks (P := P) (w := w) (base := base) t
  have nd : (["made", "k", "j"] : List Str).Nodup := by decide +kernel
  exact fn_okN t.F_l_apart (Δn := [.no, .no, .no]) sc_l_apart rfl rfl (by decide) fun cdv A outer s H E hr => ⟨_, BD.frm [.no, .no, .no] (Δb := kd0 0 3 false) (Δc := kd0 0 3 false)
    (b_cons ((z_setO 0 nd (x_lst (AD.to true true (a_cons (x_new0 t.E_NoPlaces t.Q_NoPlaces) (a_cons (x_new0 t.E_NoTies t.Q_NoTies) (a_cons (x_new1 (xi_Clash (P := P) (w := w) (base := base) t) (hr.mono (by decide)) (x_int)) (a_cons (x_new0 t.E_NoLayers t.Q_NoLayers) (a_cons (x_new0 t.E_NoPair t.Q_NoPair) (a_cons (x_new0 t.E_NoNet t.Q_NoNet) (a_cons (x_new0 t.E_Unlike t.Q_Unlike) (a_cons (x_new0 t.E_NoText t.Q_NoText) (a_cons (x_new0 t.E_NoPaper t.Q_NoPaper) (a_cons (x_new0 t.E_NoRow t.Q_NoRow) (a_nil)))))))))))))).to [.own .l true, .no, .no])
    (b_cons ((z_app 0 (x_new0 t.E_NoDeed t.Q_NoDeed)).to [.own .l true, .no, .no])
    (b_cons (z_for (n := 3) .never (i_rng1 t.n_range (AD.to true true (a_cons (x_len t.n_len (AD.to false true (a_cons ((x_own 0).ov) (a_nil)))) (a_nil)))) (g_name 1 nd)
    ((b_cons (z_if (Δn := [.own .l true, .im true, .no]) (c_w (w_or (c_not (c_val (x_isY t.n_isinstance t.E_PlyError.g (tab_cons t.E_NoPlaces (kit_yes t.E_PlyError t.S_NoPlaces_PlyError) (tab_cons t.E_NoTies (kit_yes t.E_PlyError t.S_NoTies_PlyError) (tab_cons t.E_Clash (kit_yes t.E_PlyError t.S_Clash_PlyError) (tab_cons t.E_NoLayers (kit_yes t.E_PlyError t.S_NoLayers_PlyError) (tab_cons t.E_NoPair (kit_yes t.E_PlyError t.S_NoPair_PlyError) (tab_cons t.E_NoNet (kit_yes t.E_PlyError t.S_NoNet_PlyError) (tab_cons t.E_Unlike (kit_yes t.E_PlyError t.S_Unlike_PlyError) (tab_cons t.E_NoText (kit_yes t.E_PlyError t.S_NoText_PlyError) (tab_cons t.E_NoPaper (kit_yes t.E_PlyError t.S_NoPaper_PlyError) (tab_cons t.E_NoRow (kit_yes t.E_PlyError t.S_NoRow_PlyError) (tab_cons t.E_NoDeed (kit_yes t.E_PlyError t.S_NoDeed_PlyError) (tab_nil)))))))))))) (x_ixO (x_own 0) (x_var 1))))) (w_or1 (c_not (c_val (x_isYB t.n_isinstance t.n_ValueError (tab_cons t.E_NoPlaces (kit_bi t.S_NoPlaces_ValueError) (tab_cons t.E_NoTies (kit_bi t.S_NoTies_ValueError) (tab_cons t.E_Clash (kit_bi t.S_Clash_ValueError) (tab_cons t.E_NoLayers (kit_bi t.S_NoLayers_ValueError) (tab_cons t.E_NoPair (kit_bi t.S_NoPair_ValueError) (tab_cons t.E_NoNet (kit_bi t.S_NoNet_ValueError) (tab_cons t.E_Unlike (kit_bi t.S_Unlike_ValueError) (tab_cons t.E_NoText (kit_bi t.S_NoText_ValueError) (tab_cons t.E_NoPaper (kit_bi t.S_NoPaper_ValueError) (tab_cons t.E_NoRow (kit_bi t.S_NoRow_ValueError) (tab_cons t.E_NoDeed (kit_bi t.S_NoDeed_ValueError) (tab_nil)))))))))))) (x_ixO (x_own 0) (x_var 1))))))))
    (b_one (z_ret (x_bl)))
    ((b_nil).to [.own .l true, .im true, .no]))
    (b_one (z_if (Δn := [.own .l true, .im true, .no]) (c_cmp (or_ne hr) ((x_callL G_l_marks (hr.mono (by decide)) t.m_l_marks t.F_l_marks.kp t.b_l_marks pass0 (AD.to true true (a_cons (x_ixO (x_own 0) (x_var 1)) (a_nil)))).nv) ((x_lc (n := 3) [("j", 2)] nd (i_rng1 t.n_range (AD.to true true (a_cons (x_len t.n_len (AD.to false true (a_cons ((x_own 0).ov) (a_nil)))) (a_nil)))) (blk_fx (N := ["made", "k", "j"]) (sc := defScope st_l_apart) (by decide +kernel)) (fun _ _ _ _ _ => g_name 2 nd) (fun _ _ _ _ _ => t_nil) (fun _ _ _ _ _ => x_cmp (or_eq hr) (x_var 2) (x_var 1))).nv))
    (b_one (z_ret (x_bl)))
    ((b_nil).to [.own .l true, .im true, .no])))).to [.own .l true, .no, .no]))
    (b_one (z_ret (x_cmp (or_eq hr) (x_mom t.E_Clash t.ih_Clash (x_ixO (x_own 0) (x_int))) (x_int))))))) rfl⟩
def g_l_refused : Gs := gSeqS (gSet 4 (gC .none)) (gSeqS (gTry (gDrop (gCallX 2 f_record_of (gCons (gVar 0) (gCons (gVar 1) (gNil))))) ["NoPlaces", "NoTies", "Clash", "NoLayers", "NoPair", "NoNet", "Unlike", "NoText", "NoPaper", "NoRow", "NoDeed"] [] 5 (gSet 4 (gVar 5))) (gSeqS (gIfS (gOr (gTest (gOp hIs (gVar 4) (gC .none))) (gTest (gOp hNe (gCallN 1 f_l_marks (gCons (gVar 4) (gNil))) (gLc (gRng1 (gCons (gC (.int (11))) (gNil))) (tgN 6) (gYes) (gOp hEq (gVar 6) (gVar 2)))))) (gRet (gC (.bool false))) (gNext)) (gRet (gOrV (gOp hNe (gVar 2) (gC (.int (2)))) (gOp hEq (gUn (hMom "Clash") (gVar 4)) (gVar 3))))))
def f_l_refused : List Dt → O Dt := fnN 7 g_l_refused
theorem ok_l_refused (t : Tx K mg) : FnOk P w K mg base CX0 5 t.a_l_refused t.d_l_refused ["n", "things", "kind", "moment"] (spG K mg 4 f_l_refused) := by
  have G_record_of := ok_record_of (P := P) (w := w) (base := base) t
  have G_l_marks := ok_l_marks (P := P) (w := w) (base := base) t
  have nd : (["n", "things", "kind", "moment", "caught", "e", "j"] : List Str).Nodup := by decide +kernel
  exact fn_okN t.F_l_refused (Δn := [.im false, .im false, .im false, .im false, .no, .no, .no]) sc_l_refused rfl rfl (by decide) fun cdv A outer s H E hr => ⟨_, BD.frm [.im false, .im false, .im false, .im false, .no, .no, .no] (Δb := kd0 4 7 false) (Δc := kd0 4 7 false)
    (b_cons ((z_set 4 nd (x_non)).to [.im false, .im false, .im false, .im false, .im true, .no, .no])
    (b_cons (z_tryX (Δn := [.im false, .im false, .im false, .im false, .im true, .no, .no]) (yes := ["NoPlaces", "NoTies", "Clash", "NoLayers", "NoPair", "NoNet", "Unlike", "NoText", "NoPaper", "NoRow", "NoDeed"]) (no := []) 5 t.E_PlyError takes0 (co_cons t.E_NoPlaces t.S_NoPlaces_PlyError (co_cons t.E_NoTies t.S_NoTies_PlyError (co_cons t.E_Clash t.S_Clash_PlyError (co_cons t.E_NoLayers t.S_NoLayers_PlyError (co_cons t.E_NoPair t.S_NoPair_PlyError (co_cons t.E_NoNet t.S_NoNet_PlyError (co_cons t.E_Unlike t.S_Unlike_PlyError (co_cons t.E_NoText t.S_NoText_PlyError (co_cons t.E_NoPaper t.S_NoPaper_PlyError (co_cons t.E_NoRow t.S_NoRow_PlyError (co_cons t.E_NoDeed t.S_NoDeed_PlyError (co_nil)))))))))))) (co_nil) (fun _ _ _ z => z.elim) nd (fun Wx pn xe tkk => BDx.to [.im false, .im false, .im false, .im false, .im true, .no, .no] (y_one (y_drop (x_callXL tkk G_record_of (hr.mono (by decide)) t.m_record_of t.F_record_of.kp t.b_record_of (AD.to true false (a_cons (x_var 0) (a_cons (x_var 1) (a_nil)))))))) (fun a pn => (b_one ((z_set 4 nd (x_var 5)).to [.im false, .im false, .im false, .im false, .im true, .im true, .no])).to [.im false, .im false, .im false, .im false, .im true, .no, .no]))
    (b_cons (z_if (Δn := [.im false, .im false, .im false, .im false, .im true, .no, .no]) (c_w (w_or (c_cmp or_isN (x_var 4) (x_non)) (w_or1 (c_cmp (or_ne hr) ((x_callL G_l_marks (hr.mono (by decide)) t.m_l_marks t.F_l_marks.kp t.b_l_marks pass0 (AD.to true true (a_cons (x_var 4) (a_nil)))).nv) ((x_lc (n := 7) [("j", 6)] nd (i_rng1 t.n_range (AD.to true true (a_cons (x_int) (a_nil)))) (blk_fx (N := ["n", "things", "kind", "moment", "caught", "e", "j"]) (sc := defScope st_l_refused) (by decide +kernel)) (fun _ _ _ _ _ => g_name 6 nd) (fun _ _ _ _ _ => t_nil) (fun _ _ _ _ _ => x_cmp (or_eq hr) (x_var 6) (x_var 2))).nv)))))
    (b_one (z_ret (x_bl)))
    ((b_nil).to [.im false, .im false, .im false, .im false, .im true, .no, .no]))
    (b_one (z_ret (x_or (x_cmp (or_ne hr) (x_var 2) (x_int)) (x_one (x_cmp (or_eq hr) (x_mom t.E_Clash t.ih_Clash (x_var 4)) (x_var 3))))))))) rfl⟩
def g_l_no_places : Gs := gRet (gOp hIx (gLst (gCons (gC (.int (0))) (gCons (gC (.int (11))) (gCons (gUn (hU fun i => -i) (gC (.int (1)))) (gCons (gC (.bool true)) (gCons (gC (.bool false)) (gCons (gC .none) (gCons (gC (.str "3")) (gCons (gC (.str "")) (gCons (gLst (gCons (gC (.int (3))) (gNil))) (gCons (gTup (gCons (gC (.int (3))) (gNil))) (gCons (gOp hAdd (gC (.int (11))) (gPur (gVar 0))) (gCons (gDNew) (gNil)))))))))))))) (gOp hMod (gVar 1) (gC (.int (12)))))
def f_l_no_places : List Dt → O Dt := fnN 2 g_l_no_places
theorem ok_l_no_places (t : Tx K mg) : FnOk P w K mg base CX0 1 t.a_l_no_places t.d_l_no_places ["far", "number"] (spG K mg 2 f_l_no_places) := by
  have nd : (["far", "number"] : List Str).Nodup := by decide +kernel
  exact fn_okN t.F_l_no_places (Δn := [.im false, .im false]) sc_l_no_places rfl rfl (by decide) fun cdv A outer s H E hr => ⟨_, BD.frm [.im false, .im false] (Δb := kd0 2 2 false) (Δc := kd0 2 2 false)
    (b_one (z_ret (x_ix ((x_lst (AD.to true true (a_cons (x_int) (a_cons (x_int) (a_cons (x_neg (x_int)) (a_cons (x_bl) (a_cons (x_bl) (a_cons (x_non) (a_cons (x_str) (a_cons (x_str) (a_cons ((x_lst (AD.to true true (a_cons (x_int) (a_nil)))).nv) (a_cons (x_tup (AD.to true true (a_cons (x_int) (a_nil)))) (a_cons (x_add (x_int) (PD.pur (x_var 0))) (a_cons ((x_dnew).nvD) (a_nil))))))))))))))).nv) (x_mod (x_var 1) (x_int))))) rfl⟩
def g_l_no_tie : Gs := gSeqS (gSet 3 (gLst (gCons (gTup (gCons (gC (.int (0))) (gCons (gC (.int (0))) (gNil)))) (gCons (gTup (gCons (gC (.int (0))) (gCons (gC (.int (0))) (gCons (gC (.int (0))) (gCons (gC (.int (0))) (gNil)))))) (gCons (gLst (gCons (gC (.int (0))) (gCons (gC (.int (0))) (gCons (gC (.int (0))) (gNil))))) (gCons (gC .none) (gCons (gC (.int (5))) (gCons (gC (.str "0:0-0")) (gCons (gTup (gNil)) (gCons (gTup (gCons (gC (.bool true)) (gCons (gC (.int (0))) (gCons (gC (.int (0))) (gNil))))) (gCons (gTup (gCons (gC (.int (0))) (gCons (gC (.bool true)) (gCons (gC (.int (0))) (gNil))))) (gCons (gTup (gCons (gC (.int (0))) (gCons (gC (.int (0))) (gCons (gC (.bool false)) (gNil))))) (gNil))))))))))))) (gSeqS (gSet 3 (gOp hCat (gVar 3) (gLst (gCons (gTup (gCons (gUn (hU fun i => -i) (gC (.int (1)))) (gCons (gC (.int (0))) (gCons (gC (.int (0))) (gNil))))) (gCons (gTup (gCons (gOp hSub (gUn (hU fun i => -i) (gC (.int (1)))) (gPur (gVar 1))) (gCons (gC (.int (0))) (gCons (gC (.int (0))) (gNil))))) (gCons (gTup (gCons (gOp hAdd (gOp hAdd (gOp hPow (gC (.int (10))) (gC (.int (30)))) (gC (.int (1)))) (gPur (gVar 1))) (gCons (gC (.int (0))) (gCons (gC (.int (0))) (gNil))))) (gCons (gTup (gCons (gC (.int (0))) (gCons (gPur (gVar 0)) (gCons (gC (.int (0))) (gNil))))) (gCons (gTup (gCons (gC (.int (0))) (gCons (gC (.int (0))) (gCons (gOp hAdd (gPur (gVar 0)) (gPur (gVar 1))) (gNil))))) (gCons (gTup (gCons (gC (.int (0))) (gCons (gUn (hU fun i => -i) (gC (.int (1)))) (gCons (gC (.int (0))) (gNil))))) (gNil)))))))))) (gSeqS (gSet 3 (gOp hCat (gVar 3) (gLst (gCons (gTup (gCons (gC (.int (0))) (gCons (gC (.int (0))) (gCons (gUn (hU fun i => -i) (gC (.int (1)))) (gNil))))) (gCons (gTup (gCons (gC (.str "0")) (gCons (gC (.int (0))) (gCons (gC (.int (0))) (gNil))))) (gCons (gTup (gCons (gC (.int (0))) (gCons (gC .none) (gCons (gC (.int (0))) (gNil))))) (gCons (gTup (gCons (gC (.int (0))) (gCons (gC (.int (0))) (gCons (gC (.str "0")) (gNil))))) (gCons (gTup (gCons (gC (.int (0))) (gCons (gTup (gCons (gC (.int (0))) (gNil))) (gCons (gC (.int (0))) (gNil))))) (gCons (gTup (gCons (gC (.int (0))) (gCons (gC (.int (0))) (gCons (gLst (gCons (gC (.int (0))) (gNil))) (gNil))))) (gCons (gC (.bool true)) (gCons (gDNew) (gNil)))))))))))) (gRet (gOp hIx (gVar 3) (gOp hMod (gVar 2) (gC (.int (24))))))))
def f_l_no_tie : List Dt → O Dt := fnN 4 g_l_no_tie
theorem ok_l_no_tie (t : Tx K mg) : FnOk P w K mg base CX0 1 t.a_l_no_tie t.d_l_no_tie ["n", "far", "number"] (spG K mg 3 f_l_no_tie) := by
  have nd : (["n", "far", "number", "some"] : List Str).Nodup := by decide +kernel
  exact fn_okN t.F_l_no_tie (Δn := [.im false, .im false, .im false, .no]) sc_l_no_tie rfl rfl (by decide) fun cdv A outer s H E hr => ⟨_, BD.frm [.im false, .im false, .im false, .no] (Δb := kd0 3 4 false) (Δc := kd0 3 4 false)
    (b_cons ((z_set 3 nd ((x_lst (AD.to true true (a_cons (x_tup (AD.to true true (a_cons (x_int) (a_cons (x_int) (a_nil))))) (a_cons (x_tup (AD.to true true (a_cons (x_int) (a_cons (x_int) (a_cons (x_int) (a_cons (x_int) (a_nil))))))) (a_cons ((x_lst (AD.to true true (a_cons (x_int) (a_cons (x_int) (a_cons (x_int) (a_nil)))))).nv) (a_cons (x_non) (a_cons (x_int) (a_cons (x_str) (a_cons (x_tup (a_nil)) (a_cons (x_tup (AD.to true true (a_cons (x_bl) (a_cons (x_int) (a_cons (x_int) (a_nil)))))) (a_cons (x_tup (AD.to true true (a_cons (x_int) (a_cons (x_bl) (a_cons (x_int) (a_nil)))))) (a_cons (x_tup (AD.to true true (a_cons (x_int) (a_cons (x_int) (a_cons (x_bl) (a_nil)))))) (a_nil))))))))))))).nv)).to [.im false, .im false, .im false, .im true])
    (b_cons ((z_set 3 nd ((PD.wkN true (x_cat (x_var 3) ((x_lst (AD.to true true (a_cons (x_tup (AD.to true true (a_cons (x_neg (x_int)) (a_cons (x_int) (a_cons (x_int) (a_nil)))))) (a_cons (x_tup (AD.to true true (a_cons (x_sub (x_neg (x_int)) (PD.pur (x_var 1))) (a_cons (x_int) (a_cons (x_int) (a_nil)))))) (a_cons (x_tup (AD.to true true (a_cons (x_add (x_add (x_pow (x_int) (x_int)) (x_int)) (PD.pur (x_var 1))) (a_cons (x_int) (a_cons (x_int) (a_nil)))))) (a_cons (x_tup (AD.to true true (a_cons (x_int) (a_cons (PD.pur (x_var 0)) (a_cons (x_int) (a_nil)))))) (a_cons (x_tup (AD.to true true (a_cons (x_int) (a_cons (x_int) (a_cons (x_add (PD.pur (x_var 0)) (PD.pur (x_var 1))) (a_nil)))))) (a_cons (x_tup (AD.to true true (a_cons (x_int) (a_cons (x_neg (x_int)) (a_cons (x_int) (a_nil)))))) (a_nil))))))))).nv))).nv)).to [.im false, .im false, .im false, .im true])
    (b_cons ((z_set 3 nd ((PD.wkN true (x_cat (x_var 3) ((x_lst (AD.to true true (a_cons (x_tup (AD.to true true (a_cons (x_int) (a_cons (x_int) (a_cons (x_neg (x_int)) (a_nil)))))) (a_cons (x_tup (AD.to true true (a_cons (x_str) (a_cons (x_int) (a_cons (x_int) (a_nil)))))) (a_cons (x_tup (AD.to true true (a_cons (x_int) (a_cons (x_non) (a_cons (x_int) (a_nil)))))) (a_cons (x_tup (AD.to true true (a_cons (x_int) (a_cons (x_int) (a_cons (x_str) (a_nil)))))) (a_cons (x_tup (AD.to true true (a_cons (x_int) (a_cons (x_tup (AD.to true true (a_cons (x_int) (a_nil)))) (a_cons (x_int) (a_nil)))))) (a_cons (x_tup (AD.to true true (a_cons (x_int) (a_cons (x_int) (a_cons ((x_lst (AD.to true true (a_cons (x_int) (a_nil)))).nv) (a_nil)))))) (a_cons (x_bl) (a_cons ((x_dnew).nvD) (a_nil))))))))))).nv))).nv)).to [.im false, .im false, .im false, .im true])
    (b_one (z_ret (x_ix (x_var 3) (x_mod (x_var 2) (x_int)))))))) rfl⟩
def g_l_many : Gs := gRet (gLc (gRng1 (gCons (gOp hAdd (gC (.int (61))) (gOp hMod (gVar 1) (gC (.int (10))))) (gNil))) (tgN 2) (gYes) (gTup (gCons (gVar 2) (gCons (gC (.int (0))) (gCons (gC (.int (0))) (gNil))))))
def f_l_many : List Dt → O Dt := fnL 3 g_l_many
theorem ok_l_many (t : Tx K mg) : FnOk P w K mg base CX0 1 t.a_l_many t.d_l_many ["n", "number"] (spL K mg 2 f_l_many) := by
  have nd : (["n", "number", "k"] : List Str).Nodup := by decide +kernel
  exact fn_okL t.F_l_many (Δn := [.im false, .im false, .no]) sc_l_many rfl rfl (by decide) fun cdv A outer s H E hr => ⟨_, BD.frm [.im false, .im false, .no] (Δb := kd0 2 3 false) (Δc := kd0 2 3 false)
    (b_one (z_retL (x_lc (n := 3) [("k", 2)] nd (i_rng1 t.n_range (AD.to true true (a_cons (x_add (x_int) (x_mod (x_var 1) (x_int))) (a_nil)))) (blk_fx (N := ["n", "number", "k"]) (sc := defScope st_l_many) (by decide +kernel)) (fun _ _ _ _ _ => g_name 2 nd) (fun _ _ _ _ _ => t_nil) (fun _ _ _ _ _ => x_tup (AD.to true true (a_cons (x_var 2) (a_cons (x_int) (a_cons (x_int) (a_nil))))))))) rfl⟩
def g_l_clashed_L1 : Gs := gSeqS (gAsg (gOp hIx (gVar 1) (gOp hMod (gVar 5) (gCB hLen (gCons (gVar 1) (gNil))))) (tgT (tgCons (tgN 6) (tgCons (tgN 7) (tgCons (tgN 8) (tgNil)))))) (gIfS (gAnd (gTest (gOp hGt (gVar 0) (gC (.int (1))))) (gTest (gOp hNotIn (gVar 6) (gVar 4)))) (gSeqS (gApp 4 (gVar 6)) (gIfS (gTest (gOp hEq (gVar 7) (gVar 8))) (gApp 3 (gTup (gCons (gVar 6) (gCons (gVar 7) (gCons (gOp hMod (gOp hAdd (gVar 7) (gC (.int (1)))) (gVar 0)) (gNil)))))) (gApp 3 (gTup (gCons (gVar 6) (gCons (gVar 7) (gCons (gVar 7) (gNil)))))))) (gNext))
def g_l_clashed : Gs := gSeqS (gSet 3 (gCB (one hListOf) (gCons (gVar 1) gNil))) (gSeqS (gSet 4 (gLst (gNil))) (gSeqS (gFor (gSeq (gVar 2)) (tgN 5) g_l_clashed_L1) (gRet (gTup (gCons (gVar 3) (gCons (gVar 4) (gNil)))))))
def f_l_clashed : List Dt → O Dt := fnN 9 g_l_clashed
theorem ok_l_clashed (t : Tx K mg) : FnOk P w K mg base CX0 1 t.a_l_clashed t.d_l_clashed ["n", "record", "numbers"] (spA K mg 3 f_l_clashed) := by
  have nd : (["n", "record", "numbers", "things", "moments", "number", "moment", "a", "b"] : List Str).Nodup := by decide +kernel
  exact fn_okA t.F_l_clashed (Δn := [.im true, .im true, .im true, .no, .no, .no, .no, .no, .no]) sc_l_clashed rfl rfl (by decide) fun cdv A outer s H E hr => ⟨_, BD.frm [.im true, .im true, .im true, .no, .no, .no, .no, .no, .no] (Δb := kd0 3 9 true) (Δc := kd0 3 9 true)
    (b_cons ((z_setO 3 nd (x_list t.n_list (a_cons (x_var 1) a_nil))).to [.im true, .im true, .im true, .own .l true, .no, .no, .no, .no, .no])
    (b_cons ((z_setO 4 nd (x_lst (a_nil))).to [.im true, .im true, .im true, .own .l true, .own .l true, .no, .no, .no, .no])
    (b_cons (z_for (n := 9) .never (i_seq (x_var 2)) (g_name 5 nd)
    ((b_cons ((z_asg (n := 9) (x_ix (x_var 1) (x_mod (x_var 5) (x_len t.n_len (AD.to true true (a_cons (x_var 1) (a_nil)))))) (g_tup (m := 3) rfl (g_cons (g_name 6 nd) (g_cons (g_name 7 nd) (g_cons (g_name 8 nd) (g_nil)))) (tgCons_len (tgCons_len (tgCons_len tgNil_len))))).to [.im true, .im true, .im true, .own .l true, .own .l true, .im true, .im true, .im true, .im true])
    (b_one (z_if (Δn := [.im true, .im true, .im true, .own .l true, .own .l true, .im true, .im true, .im true, .im true]) (c_w (w_and (c_cmp or_gt (x_var 0) (x_int)) (w_and1 (c_cmp (or_notIn hr) (x_var 6) ((x_own 4).ov)))))
    ((b_cons ((z_app 4 (x_var 6)).to [.im true, .im true, .im true, .own .l true, .own .l true, .im true, .im true, .im true, .im true])
    (b_one (z_if (Δn := [.im true, .im true, .im true, .own .l true, .own .l true, .im true, .im true, .im true, .im true]) (c_cmp (or_eq hr) (x_var 7) (x_var 8))
    ((b_one ((z_app 3 (x_tup (AD.to true true (a_cons (x_var 6) (a_cons (x_var 7) (a_cons (x_mod (x_add (x_var 7) (x_int)) (x_var 0)) (a_nil))))))).to [.im true, .im true, .im true, .own .l true, .own .l true, .im true, .im true, .im true, .im true])).to [.im true, .im true, .im true, .own .l true, .own .l true, .im true, .im true, .im true, .im true])
    ((b_one ((z_app 3 (x_tup (AD.to true true (a_cons (x_var 6) (a_cons (x_var 7) (a_cons (x_var 7) (a_nil))))))).to [.im true, .im true, .im true, .own .l true, .own .l true, .im true, .im true, .im true, .im true])).to [.im true, .im true, .im true, .own .l true, .own .l true, .im true, .im true, .im true, .im true])))).to [.im true, .im true, .im true, .own .l true, .own .l true, .im true, .im true, .im true, .im true])
    ((b_nil).to [.im true, .im true, .im true, .own .l true, .own .l true, .im true, .im true, .im true, .im true])))).to [.im true, .im true, .im true, .own .l true, .own .l true, .no, .no, .no, .no]))
    (b_one (z_ret (x_tup (AD.to false true (a_cons ((x_own 3).ov) (a_cons ((x_own 4).ov) (a_nil)))))))))) rfl⟩
def g_law_L1 : Gs := gSeqS (gSet 2 (gCallN 3 f_l_numbers (gCons (gVar 1) (gCons (gC (.int (48))) (gCons (gOp hPow (gC (.int (10))) (gC (.int (30)))) (gNil)))))) (gSeqS (gAsg (gCallN 2 f_l_record (gCons (gSl hSl (gVar 2) (gPart (gC (.int (6)))) (gNoPart)) (gCons (gC (.int (12))) (gNil)))) (tgT (tgCons (tgN 3) (tgCons (tgN 4) (tgNil))))) (gSeqS (gSet 5 (gCallN 3 f_l_no_tie (gCons (gVar 3) (gCons (gOp hMod (gOp hIx (gVar 2) (gC (.int (0)))) (gOp hPow (gC (.int (10))) (gC (.int (29))))) (gCons (gOp hIx (gVar 2) (gC (.int (1)))) (gNil)))))) (gSeqS (gSet 6 (gOp hMod (gOp hIx (gVar 2) (gC (.int (2)))) (gOp hAdd (gCB hLen (gCons (gVar 4) (gNil))) (gC (.int (1)))))) (gSeqS (gSet 7 (gOp hCat (gOp hCat (gSl hSl (gVar 4) (gNoPart) (gPart (gVar 6))) (gLst (gCons (gVar 5) (gNil)))) (gSl hSl (gVar 4) (gPart (gVar 6)) (gNoPart)))) (gSeqS (gSet 8 (gCallN 2 f_l_no_places (gCons (gOp hIx (gVar 2) (gC (.int (0)))) (gCons (gOp hIx (gVar 2) (gC (.int (3)))) (gNil))))) (gSeqS (gIfS (gOr (gNot (gTest (gCallN 4 f_l_refused (gCons (gVar 8) (gCons (gVar 7) (gCons (gC (.int (0))) (gCons (gC (.int (0))) (gNil)))))))) (gNot (gTest (gCallN 4 f_l_refused (gCons (gVar 8) (gCons (gVar 4) (gCons (gC (.int (0))) (gCons (gC (.int (0))) (gNil))))))))) (gRet (gC (.bool false))) (gNext)) (gSeqS (gSet 9 (gOp hIx (gLst (gCons (gCB (one hTupOf) (gCons (gVar 4) (gNil))) (gCons (gC .none) (gCons (gC (.str "none")) (gCons (gC (.int (0))) (gNil)))))) (gOp hMod (gOp hIx (gVar 2) (gC (.int (4)))) (gC (.int (4)))))) (gSeqS (gIfS (gOr (gNot (gTest (gCallN 4 f_l_refused (gCons (gVar 3) (gCons (gVar 7) (gCons (gC (.int (1))) (gCons (gC (.int (0))) (gNil)))))))) (gNot (gTest (gCallN 4 f_l_refused (gCons (gVar 3) (gCons (gVar 9) (gCons (gC (.int (1))) (gCons (gC (.int (0))) (gNil))))))))) (gRet (gC (.bool false))) (gNext)) (gSeqS (gIfS (gNot (gTest (gCallN 4 f_l_refused (gCons (gVar 3) (gCons (gCallN 2 f_l_many (gCons (gVar 3) (gCons (gOp hIx (gVar 2) (gC (.int (4)))) (gNil)))) (gCons (gC (.int (1))) (gCons (gC (.int (0))) (gNil)))))))) (gRet (gC (.bool false))) (gNext)) (gIfS (gAnd (gTest (gOp hNe (gVar 4) (gLst (gNil)))) (gTest (gOp hGt (gVar 3) (gC (.int (1)))))) (gSeqS (gAsg (gCallN 3 f_l_clashed (gCons (gVar 3) (gCons (gVar 4) (gCons (gSl hSl (gVar 2) (gPart (gC (.int (4)))) (gPart (gC (.int (6))))) (gNil))))) (tgT (tgCons (tgN 10) (tgCons (tgN 11) (tgNil))))) (gSeqS (gSet 12 (gCB hMin1 (gCons (gVar 11) (gNil)))) (gSeqS (gIfS (gOr (gNot (gTest (gCallN 4 f_l_refused (gCons (gVar 3) (gCons (gVar 10) (gCons (gC (.int (2))) (gCons (gVar 12) (gNil)))))))) (gNot (gTest (gCallN 4 f_l_refused (gCons (gVar 3) (gCons (gUn hRevL (gVar 10)) (gCons (gC (.int (2))) (gCons (gVar 12) (gNil))))))))) (gRet (gC (.bool false))) (gNext)) (gIfS (gOr (gNot (gTest (gCallN 4 f_l_refused (gCons (gVar 3) (gCons (gOp hCat (gVar 10) (gLst (gCons (gVar 5) (gNil)))) (gCons (gC (.int (1))) (gCons (gC (.int (0))) (gNil)))))))) (gNot (gTest (gCallN 4 f_l_refused (gCons (gVar 8) (gCons (gVar 10) (gCons (gC (.int (0))) (gCons (gC (.int (0))) (gNil))))))))) (gRet (gC (.bool false))) (gNext))))) (gNext)))))))))))
def g_law : Gs := gSeqS (gFor (gSeq (gOp hCat (gSl hSlF (gVar 0) (gNoPart) (gPart (gC (.int (20))))) (gLst (gCons (gCB hLenF (gCons (gVar 0) (gNil))) (gNil))))) (tgN 1) g_law_L1) (gRet (gCallN 0 f_l_apart gNil))
def f_law : List Dt → O Dt := fnN 13 g_law
theorem ok_law (t : Tx K mg) : FnOk P w K mg base CX0 6 t.a_law t.d_law ["script"] (spG K mg 1 f_law) := by
  have G_l_numbers := ok_l_numbers (P := P) (w := w) (base := base) t
  have G_l_record := ok_l_record (P := P) (w := w) (base := base) t
  have G_l_no_tie := ok_l_no_tie (P := P) (w := w) (base := base) t
  have G_l_no_places := ok_l_no_places (P := P) (w := w) (base := base) t
  have G_l_refused := ok_l_refused (P := P) (w := w) (base := base) t
  have G_l_many := ok_l_many (P := P) (w := w) (base := base) t
  have G_l_clashed := ok_l_clashed (P := P) (w := w) (base := base) t
  have G_l_apart := ok_l_apart (P := P) (w := w) (base := base) t
  have nd : (["script", "cell", "numbers", "n", "record", "thing", "at", "spoilt", "places", "other", "things", "moments", "least"] : List Str).Nodup := by decide +kernel
  exact fn_okN t.F_law (Δn := [.im false, .no, .no, .no, .no, .no, .no, .no, .no, .no, .no, .no, .no]) sc_law rfl rfl (by decide) fun cdv A outer s H E hr => ⟨_, BD.frm [.im false, .no, .no, .no, .no, .no, .no, .no, .no, .no, .no, .no, .no] (Δb := kd0 1 13 false) (Δc := kd0 1 13 false)
    (b_cons (z_for (n := 13) .never (i_seq ((PD.wkN false (x_cat ((x_slF (x_var 0) (o_none) (o_some (x_int))).nv) ((x_lst (AD.to true true (a_cons (x_lenF t.n_len (AD.to true false (a_cons (x_var 0) (a_nil)))) (a_nil)))).nv))).nv)) (g_name 1 nd)
    ((b_cons ((z_set 2 nd ((x_callL G_l_numbers (hr.mono (by decide)) t.m_l_numbers t.F_l_numbers.kp t.b_l_numbers pass0 (AD.to true false (a_cons (x_var 1) (a_cons (x_int) (a_cons (x_pow (x_int) (x_int)) (a_nil)))))).nv)).to [.im false, .im false, .im true, .no, .no, .no, .no, .no, .no, .no, .no, .no, .no])
    (b_cons ((z_asg (n := 13) (x_callN G_l_record (hr.mono (by decide)) t.m_l_record t.F_l_record.kp t.b_l_record pass0 (AD.to true true (a_cons ((x_sl (x_var 2) (o_some (x_int)) (o_none)).nv) (a_cons (x_int) (a_nil))))) (g_tup (m := 2) rfl (g_cons (g_name 3 nd) (g_cons (g_name 4 nd) (g_nil))) (tgCons_len (tgCons_len tgNil_len)))).to [.im false, .im false, .im true, .im true, .im true, .no, .no, .no, .no, .no, .no, .no, .no])
    (b_cons ((z_set 5 nd (x_callN G_l_no_tie (hr.mono (by decide)) t.m_l_no_tie t.F_l_no_tie.kp t.b_l_no_tie pass0 (AD.to true true (a_cons (x_var 3) (a_cons (x_mod (x_ix (x_var 2) (x_int)) (x_pow (x_int) (x_int))) (a_cons (x_ix (x_var 2) (x_int)) (a_nil))))))).to [.im false, .im false, .im true, .im true, .im true, .im true, .no, .no, .no, .no, .no, .no, .no])
    (b_cons ((z_set 6 nd (x_mod (x_ix (x_var 2) (x_int)) (x_add (x_len t.n_len (AD.to true true (a_cons (x_var 4) (a_nil)))) (x_int)))).to [.im false, .im false, .im true, .im true, .im true, .im true, .im true, .no, .no, .no, .no, .no, .no])
    (b_cons ((z_set 7 nd ((PD.wkN true (x_cat ((PD.wkN true (x_cat ((x_sl (x_var 4) (o_none) (o_some (x_var 6))).nv) ((x_lst (AD.to true true (a_cons (x_var 5) (a_nil)))).nv))).nv) ((x_sl (x_var 4) (o_some (x_var 6)) (o_none)).nv))).nv)).to [.im false, .im false, .im true, .im true, .im true, .im true, .im true, .im true, .no, .no, .no, .no, .no])
    (b_cons ((z_set 8 nd (x_callN G_l_no_places (hr.mono (by decide)) t.m_l_no_places t.F_l_no_places.kp t.b_l_no_places pass0 (AD.to true true (a_cons (x_ix (x_var 2) (x_int)) (a_cons (x_ix (x_var 2) (x_int)) (a_nil)))))).to [.im false, .im false, .im true, .im true, .im true, .im true, .im true, .im true, .im true, .no, .no, .no, .no])
    (b_cons (z_if (Δn := [.im false, .im false, .im true, .im true, .im true, .im true, .im true, .im true, .im true, .no, .no, .no, .no]) (c_w (w_or (c_not (c_val (x_callN G_l_refused (hr.mono (by decide)) t.m_l_refused t.F_l_refused.kp t.b_l_refused pass0 (AD.to true true (a_cons (x_var 8) (a_cons (x_var 7) (a_cons (x_int) (a_cons (x_int) (a_nil))))))))) (w_or1 (c_not (c_val (x_callN G_l_refused (hr.mono (by decide)) t.m_l_refused t.F_l_refused.kp t.b_l_refused pass0 (AD.to true true (a_cons (x_var 8) (a_cons (x_var 4) (a_cons (x_int) (a_cons (x_int) (a_nil))))))))))))
    (b_one (z_ret (x_bl)))
    ((b_nil).to [.im false, .im false, .im true, .im true, .im true, .im true, .im true, .im true, .im true, .no, .no, .no, .no]))
    (b_cons ((z_set 9 nd (x_ix ((x_lst (AD.to true true (a_cons (x_tuple t.n_tuple (AD.to true true (a_cons (x_var 4) (a_nil)))) (a_cons (x_non) (a_cons (x_str) (a_cons (x_int) (a_nil))))))).nv) (x_mod (x_ix (x_var 2) (x_int)) (x_int)))).to [.im false, .im false, .im true, .im true, .im true, .im true, .im true, .im true, .im true, .im true, .no, .no, .no])
    (b_cons (z_if (Δn := [.im false, .im false, .im true, .im true, .im true, .im true, .im true, .im true, .im true, .im true, .no, .no, .no]) (c_w (w_or (c_not (c_val (x_callN G_l_refused (hr.mono (by decide)) t.m_l_refused t.F_l_refused.kp t.b_l_refused pass0 (AD.to true true (a_cons (x_var 3) (a_cons (x_var 7) (a_cons (x_int) (a_cons (x_int) (a_nil))))))))) (w_or1 (c_not (c_val (x_callN G_l_refused (hr.mono (by decide)) t.m_l_refused t.F_l_refused.kp t.b_l_refused pass0 (AD.to true true (a_cons (x_var 3) (a_cons (x_var 9) (a_cons (x_int) (a_cons (x_int) (a_nil))))))))))))
    (b_one (z_ret (x_bl)))
    ((b_nil).to [.im false, .im false, .im true, .im true, .im true, .im true, .im true, .im true, .im true, .im true, .no, .no, .no]))
    (b_cons (z_if (Δn := [.im false, .im false, .im true, .im true, .im true, .im true, .im true, .im true, .im true, .im true, .no, .no, .no]) (c_not (c_val (x_callN G_l_refused (hr.mono (by decide)) t.m_l_refused t.F_l_refused.kp t.b_l_refused pass0 (AD.to true true (a_cons (x_var 3) (a_cons ((x_callL G_l_many (hr.mono (by decide)) t.m_l_many t.F_l_many.kp t.b_l_many pass0 (AD.to true true (a_cons (x_var 3) (a_cons (x_ix (x_var 2) (x_int)) (a_nil))))).nv) (a_cons (x_int) (a_cons (x_int) (a_nil)))))))))
    (b_one (z_ret (x_bl)))
    ((b_nil).to [.im false, .im false, .im true, .im true, .im true, .im true, .im true, .im true, .im true, .im true, .no, .no, .no]))
    (b_one (z_if (Δn := [.im false, .im false, .im true, .im true, .im true, .im true, .im true, .im true, .im true, .im true, .no, .no, .no]) (c_w (w_and (c_cmp (or_ne hr) (x_var 4) ((x_lst (a_nil)).nv)) (w_and1 (c_cmp or_gt (x_var 3) (x_int)))))
    ((b_cons ((z_asg (n := 13) (x_callA G_l_clashed (hr.mono (by decide)) t.m_l_clashed t.F_l_clashed.kp t.b_l_clashed pass0 (AD.to true true (a_cons (x_var 3) (a_cons (x_var 4) (a_cons ((x_sl (x_var 2) (o_some (x_int)) (o_some (x_int))).nv) (a_nil)))))) (g_tup (m := 2) rfl (g_cons (g_name 10 nd) (g_cons (g_name 11 nd) (g_nil))) (tgCons_len (tgCons_len tgNil_len)))).to [.im false, .im false, .im true, .im true, .im true, .im true, .im true, .im true, .im true, .im true, .im true, .im true, .no])
    (b_cons ((z_set 12 nd (x_min1 t.n_min (AD.to true true (a_cons (x_var 11) (a_nil))))).to [.im false, .im false, .im true, .im true, .im true, .im true, .im true, .im true, .im true, .im true, .im true, .im true, .im true])
    (b_cons (z_if (Δn := [.im false, .im false, .im true, .im true, .im true, .im true, .im true, .im true, .im true, .im true, .im true, .im true, .im true]) (c_w (w_or (c_not (c_val (x_callN G_l_refused (hr.mono (by decide)) t.m_l_refused t.F_l_refused.kp t.b_l_refused pass0 (AD.to true true (a_cons (x_var 3) (a_cons (x_var 10) (a_cons (x_int) (a_cons (x_var 12) (a_nil))))))))) (w_or1 (c_not (c_val (x_callN G_l_refused (hr.mono (by decide)) t.m_l_refused t.F_l_refused.kp t.b_l_refused pass0 (AD.to true true (a_cons (x_var 3) (a_cons ((x_revL (x_var 10)).nv) (a_cons (x_int) (a_cons (x_var 12) (a_nil))))))))))))
    (b_one (z_ret (x_bl)))
    ((b_nil).to [.im false, .im false, .im true, .im true, .im true, .im true, .im true, .im true, .im true, .im true, .im true, .im true, .im true]))
    (b_one (z_if (Δn := [.im false, .im false, .im true, .im true, .im true, .im true, .im true, .im true, .im true, .im true, .im true, .im true, .im true]) (c_w (w_or (c_not (c_val (x_callN G_l_refused (hr.mono (by decide)) t.m_l_refused t.F_l_refused.kp t.b_l_refused pass0 (AD.to true true (a_cons (x_var 3) (a_cons ((PD.wkN true (x_cat (x_var 10) ((x_lst (AD.to true true (a_cons (x_var 5) (a_nil)))).nv))).nv) (a_cons (x_int) (a_cons (x_int) (a_nil))))))))) (w_or1 (c_not (c_val (x_callN G_l_refused (hr.mono (by decide)) t.m_l_refused t.F_l_refused.kp t.b_l_refused pass0 (AD.to true true (a_cons (x_var 8) (a_cons (x_var 10) (a_cons (x_int) (a_cons (x_int) (a_nil))))))))))))
    (b_one (z_ret (x_bl)))
    ((b_nil).to [.im false, .im false, .im true, .im true, .im true, .im true, .im true, .im true, .im true, .im true, .im true, .im true, .im true])))))).to [.im false, .im false, .im true, .im true, .im true, .im true, .im true, .im true, .im true, .im true, .no, .no, .no])
    ((b_nil).to [.im false, .im false, .im true, .im true, .im true, .im true, .im true, .im true, .im true, .im true, .no, .no, .no]))))))))))))).to [.im false, .no, .no, .no, .no, .no, .no, .no, .no, .no, .no, .no, .no]))
    (b_one (z_ret (x_callN0 G_l_apart (hr.mono (by decide)) t.m_l_apart t.F_l_apart.kp t.b_l_apart pass0)))) rfl⟩
end
section
variable {w : World} {K : PySem.W.Frag} {h : Heap} {mg : Str → Option Value}
def mkTx (X : K.In h) (G : h.Ns mainGlobals mg)
    {f0 : Addr} {od0 an0 : Option Addr} {sl0 : Array (Option Value)} {oc0 kV0 dc0 pm0 cd0 ct0 : Value}
        (a0 : PySem.W.nsIn K mainGlobals "is_whole" = some (some (.ref f0))) (l0 : K.lookup f0 = some ⟨oc0, od0, .func (PySem.W.fnOf "is_whole" "is_whole" (defArgs st_is_whole) (defBody st_is_whole) (defScope st_is_whole) .none kV0 dc0 pm0 an0 cd0 ct0), sl0⟩) (c0 : PySem.W.codeIn K cd0 "is_whole" = true) (k0 : PySem.W.keepIn K (.ref f0) = true)
    {f1 : Addr} {od1 an1 : Option Addr} {sl1 : Array (Option Value)} {oc1 kV1 dc1 pm1 cd1 ct1 : Value}
        (a1 : PySem.W.nsIn K mainGlobals "is_many" = some (some (.ref f1))) (l1 : K.lookup f1 = some ⟨oc1, od1, .func (PySem.W.fnOf "is_many" "is_many" (defArgs st_is_many) (defBody st_is_many) (defScope st_is_many) .none kV1 dc1 pm1 an1 cd1 ct1), sl1⟩) (c1 : PySem.W.codeIn K cd1 "is_many" = true) (k1 : PySem.W.keepIn K (.ref f1) = true)
    {f2 : Addr} {od2 an2 : Option Addr} {sl2 : Array (Option Value)} {oc2 kV2 dc2 pm2 cd2 ct2 : Value}
        (a2 : PySem.W.nsIn K mainGlobals "is_place" = some (some (.ref f2))) (l2 : K.lookup f2 = some ⟨oc2, od2, .func (PySem.W.fnOf "is_place" "is_place" (defArgs st_is_place) (defBody st_is_place) (defScope st_is_place) .none kV2 dc2 pm2 an2 cd2 ct2), sl2⟩) (c2 : PySem.W.codeIn K cd2 "is_place" = true) (k2 : PySem.W.keepIn K (.ref f2) = true)
    {f3 : Addr} {od3 an3 : Option Addr} {sl3 : Array (Option Value)} {oc3 kV3 dc3 pm3 cd3 ct3 : Value}
        (a3 : PySem.W.nsIn K mainGlobals "is_moment" = some (some (.ref f3))) (l3 : K.lookup f3 = some ⟨oc3, od3, .func (PySem.W.fnOf "is_moment" "is_moment" (defArgs st_is_moment) (defBody st_is_moment) (defScope st_is_moment) .none kV3 dc3 pm3 an3 cd3 ct3), sl3⟩) (c3 : PySem.W.codeIn K cd3 "is_moment" = true) (k3 : PySem.W.keepIn K (.ref f3) = true)
    {f4 : Addr} {od4 an4 : Option Addr} {sl4 : Array (Option Value)} {oc4 kV4 dc4 pm4 cd4 ct4 : Value}
        (a4 : PySem.W.nsIn K mainGlobals "is_meeting" = some (some (.ref f4))) (l4 : K.lookup f4 = some ⟨oc4, od4, .func (PySem.W.fnOf "is_meeting" "is_meeting" (defArgs st_is_meeting) (defBody st_is_meeting) (defScope st_is_meeting) .none kV4 dc4 pm4 an4 cd4 ct4), sl4⟩) (c4 : PySem.W.codeIn K cd4 "is_meeting" = true) (k4 : PySem.W.keepIn K (.ref f4) = true)
    {f5 : Addr} {od5 an5 : Option Addr} {sl5 : Array (Option Value)} {oc5 kV5 dc5 pm5 cd5 ct5 : Value}
        (a5 : PySem.W.nsIn K mainGlobals "record_of" = some (some (.ref f5))) (l5 : K.lookup f5 = some ⟨oc5, od5, .func (PySem.W.fnOf "record_of" "record_of" (defArgs st_record_of) (defBody st_record_of) (defScope st_record_of) .none kV5 dc5 pm5 an5 cd5 ct5), sl5⟩) (c5 : PySem.W.codeIn K cd5 "record_of" = true) (k5 : PySem.W.keepIn K (.ref f5) = true)
    {f6 : Addr} {od6 an6 : Option Addr} {sl6 : Array (Option Value)} {oc6 kV6 dc6 pm6 cd6 ct6 : Value}
        (a6 : PySem.W.nsIn K mainGlobals "_law_mixed" = some (some (.ref f6))) (l6 : K.lookup f6 = some ⟨oc6, od6, .func (PySem.W.fnOf "_law_mixed" "_law_mixed" (defArgs st_l_mixed) (defBody st_l_mixed) (defScope st_l_mixed) .none kV6 dc6 pm6 an6 cd6 ct6), sl6⟩) (c6 : PySem.W.codeIn K cd6 "_law_mixed" = true) (k6 : PySem.W.keepIn K (.ref f6) = true)
    {f7 : Addr} {od7 an7 : Option Addr} {sl7 : Array (Option Value)} {oc7 kV7 dc7 pm7 cd7 ct7 : Value}
        (a7 : PySem.W.nsIn K mainGlobals "_law_numbers" = some (some (.ref f7))) (l7 : K.lookup f7 = some ⟨oc7, od7, .func (PySem.W.fnOf "_law_numbers" "_law_numbers" (defArgs st_l_numbers) (defBody st_l_numbers) (defScope st_l_numbers) .none kV7 dc7 pm7 an7 cd7 ct7), sl7⟩) (c7 : PySem.W.codeIn K cd7 "_law_numbers" = true) (k7 : PySem.W.keepIn K (.ref f7) = true)
    {f8 : Addr} {od8 an8 : Option Addr} {sl8 : Array (Option Value)} {oc8 kV8 dc8 pm8 cd8 ct8 : Value}
        (a8 : PySem.W.nsIn K mainGlobals "_law_ends" = some (some (.ref f8))) (l8 : K.lookup f8 = some ⟨oc8, od8, .func (PySem.W.fnOf "_law_ends" "_law_ends" (defArgs st_l_ends) (defBody st_l_ends) (defScope st_l_ends) .none kV8 dc8 pm8 an8 cd8 ct8), sl8⟩) (c8 : PySem.W.codeIn K cd8 "_law_ends" = true) (k8 : PySem.W.keepIn K (.ref f8) = true)
    {f9 : Addr} {od9 an9 : Option Addr} {sl9 : Array (Option Value)} {oc9 kV9 dc9 pm9 cd9 ct9 : Value}
        (a9 : PySem.W.nsIn K mainGlobals "_law_record" = some (some (.ref f9))) (l9 : K.lookup f9 = some ⟨oc9, od9, .func (PySem.W.fnOf "_law_record" "_law_record" (defArgs st_l_record) (defBody st_l_record) (defScope st_l_record) .none kV9 dc9 pm9 an9 cd9 ct9), sl9⟩) (c9 : PySem.W.codeIn K cd9 "_law_record" = true) (k9 : PySem.W.keepIn K (.ref f9) = true)
    {f10 : Addr} {od10 an10 : Option Addr} {sl10 : Array (Option Value)} {oc10 kV10 dc10 pm10 cd10 ct10 : Value}
        (a10 : PySem.W.nsIn K mainGlobals "_law_marks" = some (some (.ref f10))) (l10 : K.lookup f10 = some ⟨oc10, od10, .func (PySem.W.fnOf "_law_marks" "_law_marks" (defArgs st_l_marks) (defBody st_l_marks) (defScope st_l_marks) .none kV10 dc10 pm10 an10 cd10 ct10), sl10⟩) (c10 : PySem.W.codeIn K cd10 "_law_marks" = true) (k10 : PySem.W.keepIn K (.ref f10) = true)
    {f11 : Addr} {od11 an11 : Option Addr} {sl11 : Array (Option Value)} {oc11 kV11 dc11 pm11 cd11 ct11 : Value}
        (a11 : PySem.W.nsIn K mainGlobals "_law_apart" = some (some (.ref f11))) (l11 : K.lookup f11 = some ⟨oc11, od11, .func (PySem.W.fnOf "_law_apart" "_law_apart" (defArgs st_l_apart) (defBody st_l_apart) (defScope st_l_apart) .none kV11 dc11 pm11 an11 cd11 ct11), sl11⟩) (c11 : PySem.W.codeIn K cd11 "_law_apart" = true) (k11 : PySem.W.keepIn K (.ref f11) = true)
    {f12 : Addr} {od12 an12 : Option Addr} {sl12 : Array (Option Value)} {oc12 kV12 dc12 pm12 cd12 ct12 : Value}
        (a12 : PySem.W.nsIn K mainGlobals "_law_refused" = some (some (.ref f12))) (l12 : K.lookup f12 = some ⟨oc12, od12, .func (PySem.W.fnOf "_law_refused" "_law_refused" (defArgs st_l_refused) (defBody st_l_refused) (defScope st_l_refused) .none kV12 dc12 pm12 an12 cd12 ct12), sl12⟩) (c12 : PySem.W.codeIn K cd12 "_law_refused" = true) (k12 : PySem.W.keepIn K (.ref f12) = true)
    {f13 : Addr} {od13 an13 : Option Addr} {sl13 : Array (Option Value)} {oc13 kV13 dc13 pm13 cd13 ct13 : Value}
        (a13 : PySem.W.nsIn K mainGlobals "_law_no_places" = some (some (.ref f13))) (l13 : K.lookup f13 = some ⟨oc13, od13, .func (PySem.W.fnOf "_law_no_places" "_law_no_places" (defArgs st_l_no_places) (defBody st_l_no_places) (defScope st_l_no_places) .none kV13 dc13 pm13 an13 cd13 ct13), sl13⟩) (c13 : PySem.W.codeIn K cd13 "_law_no_places" = true) (k13 : PySem.W.keepIn K (.ref f13) = true)
    {f14 : Addr} {od14 an14 : Option Addr} {sl14 : Array (Option Value)} {oc14 kV14 dc14 pm14 cd14 ct14 : Value}
        (a14 : PySem.W.nsIn K mainGlobals "_law_no_tie" = some (some (.ref f14))) (l14 : K.lookup f14 = some ⟨oc14, od14, .func (PySem.W.fnOf "_law_no_tie" "_law_no_tie" (defArgs st_l_no_tie) (defBody st_l_no_tie) (defScope st_l_no_tie) .none kV14 dc14 pm14 an14 cd14 ct14), sl14⟩) (c14 : PySem.W.codeIn K cd14 "_law_no_tie" = true) (k14 : PySem.W.keepIn K (.ref f14) = true)
    {f15 : Addr} {od15 an15 : Option Addr} {sl15 : Array (Option Value)} {oc15 kV15 dc15 pm15 cd15 ct15 : Value}
        (a15 : PySem.W.nsIn K mainGlobals "_law_many" = some (some (.ref f15))) (l15 : K.lookup f15 = some ⟨oc15, od15, .func (PySem.W.fnOf "_law_many" "_law_many" (defArgs st_l_many) (defBody st_l_many) (defScope st_l_many) .none kV15 dc15 pm15 an15 cd15 ct15), sl15⟩) (c15 : PySem.W.codeIn K cd15 "_law_many" = true) (k15 : PySem.W.keepIn K (.ref f15) = true)
    {f16 : Addr} {od16 an16 : Option Addr} {sl16 : Array (Option Value)} {oc16 kV16 dc16 pm16 cd16 ct16 : Value}
        (a16 : PySem.W.nsIn K mainGlobals "_law_clashed" = some (some (.ref f16))) (l16 : K.lookup f16 = some ⟨oc16, od16, .func (PySem.W.fnOf "_law_clashed" "_law_clashed" (defArgs st_l_clashed) (defBody st_l_clashed) (defScope st_l_clashed) .none kV16 dc16 pm16 an16 cd16 ct16), sl16⟩) (c16 : PySem.W.codeIn K cd16 "_law_clashed" = true) (k16 : PySem.W.keepIn K (.ref f16) = true)
    {f17 : Addr} {od17 an17 : Option Addr} {sl17 : Array (Option Value)} {oc17 kV17 dc17 pm17 cd17 ct17 : Value}
        (a17 : PySem.W.nsIn K mainGlobals "law" = some (some (.ref f17))) (l17 : K.lookup f17 = some ⟨oc17, od17, .func (PySem.W.fnOf "law" "law" (defArgs st_law) (defBody st_law) (defScope st_law) .none kV17 dc17 pm17 an17 cd17 ct17), sl17⟩) (c17 : PySem.W.codeIn K cd17 "law" = true) (k17 : PySem.W.keepIn K (.ref f17) = true)
        (z_isinstance : PySem.W.nsIn K mainGlobals "isinstance" = some none)
        (z_int : PySem.W.nsIn K mainGlobals "int" = some none)
        (z_bool : PySem.W.nsIn K mainGlobals "bool" = some none)
        (z_tuple : PySem.W.nsIn K mainGlobals "tuple" = some none)
        (z_len : PySem.W.nsIn K mainGlobals "len" = some none)
        (z_list : PySem.W.nsIn K mainGlobals "list" = some none)
        (z_all : PySem.W.nsIn K mainGlobals "all" = some none)
        (z_min : PySem.W.nsIn K mainGlobals "min" = some none)
        (z_max : PySem.W.nsIn K mainGlobals "max" = some none)
        (z_sorted : PySem.W.nsIn K mainGlobals "sorted" = some none)
        (z_range : PySem.W.nsIn K mainGlobals "range" = some none)
        (z_ValueError : PySem.W.nsIn K mainGlobals "ValueError" = some none)
        {tk_MOST_PLACES : Tok} (y_MOST_PLACES : PySem.W.nsIn K mainGlobals "MOST_PLACES" = some (some (.int (10) tk_MOST_PLACES)))
        {tk_LAST_MOMENT : Tok} (y_LAST_MOMENT : PySem.W.nsIn K mainGlobals "LAST_MOMENT" = some (some (.int (1000000000000000000000000000000) tk_LAST_MOMENT)))
        {tk_MOST_TIES : Tok} (y_MOST_TIES : PySem.W.nsIn K mainGlobals "MOST_TIES" = some (some (.int (60) tk_MOST_TIES)))
        {C_NoPlaces : Addr} (u1_NoPlaces : PySem.W.nsIn K mainGlobals "NoPlaces" = some (some (.ref C_NoPlaces))) (u2_NoPlaces : PySem.W.keepIn K (.ref C_NoPlaces) = true) (u3_NoPlaces : PySem.W.typeIn K (.ref C_NoPlaces) = some (.type "type"))
        (u4_NoPlaces : PySem.W.findIn K (.ref C_NoPlaces) "__getattribute__" = some (some (.builtin "BaseException.__getattribute__"))) (u5_NoPlaces : PySem.W.findIn K (.ref C_NoPlaces) "__getattr__" = some none) (u6_NoPlaces : PySem.W.subIn K (.ref C_NoPlaces) (.type "BaseException") = some true) (u7_NoPlaces : PySem.W.hasDictIn K C_NoPlaces = true) (u8_NoPlaces : PySem.W.findIn K (.ref C_NoPlaces) "__class__" = some (some (.builtin "object.__class__"))) (u9_NoPlaces : PySem.W.mroIn K C_NoPlaces (.type "object") = some true)
        (uQ_NoPlaces : PySem.W.excIn K C_NoPlaces veB "ValueError.__new__" = true)
        {C_NoTies : Addr} (u1_NoTies : PySem.W.nsIn K mainGlobals "NoTies" = some (some (.ref C_NoTies))) (u2_NoTies : PySem.W.keepIn K (.ref C_NoTies) = true) (u3_NoTies : PySem.W.typeIn K (.ref C_NoTies) = some (.type "type"))
        (u4_NoTies : PySem.W.findIn K (.ref C_NoTies) "__getattribute__" = some (some (.builtin "BaseException.__getattribute__"))) (u5_NoTies : PySem.W.findIn K (.ref C_NoTies) "__getattr__" = some none) (u6_NoTies : PySem.W.subIn K (.ref C_NoTies) (.type "BaseException") = some true) (u7_NoTies : PySem.W.hasDictIn K C_NoTies = true) (u8_NoTies : PySem.W.findIn K (.ref C_NoTies) "__class__" = some (some (.builtin "object.__class__"))) (u9_NoTies : PySem.W.mroIn K C_NoTies (.type "object") = some true)
        (uQ_NoTies : PySem.W.excIn K C_NoTies veB "ValueError.__new__" = true)
        {C_Clash : Addr} (u1_Clash : PySem.W.nsIn K mainGlobals "Clash" = some (some (.ref C_Clash))) (u2_Clash : PySem.W.keepIn K (.ref C_Clash) = true) (u3_Clash : PySem.W.typeIn K (.ref C_Clash) = some (.type "type"))
        (u4_Clash : PySem.W.findIn K (.ref C_Clash) "__getattribute__" = some (some (.builtin "BaseException.__getattribute__"))) (u5_Clash : PySem.W.findIn K (.ref C_Clash) "__getattr__" = some none) (u6_Clash : PySem.W.subIn K (.ref C_Clash) (.type "BaseException") = some true) (u7_Clash : PySem.W.hasDictIn K C_Clash = true) (u8_Clash : PySem.W.findIn K (.ref C_Clash) "__class__" = some (some (.builtin "object.__class__"))) (u9_Clash : PySem.W.mroIn K C_Clash (.type "object") = some true)
        {C_NoLayers : Addr} (u1_NoLayers : PySem.W.nsIn K mainGlobals "NoLayers" = some (some (.ref C_NoLayers))) (u2_NoLayers : PySem.W.keepIn K (.ref C_NoLayers) = true) (u3_NoLayers : PySem.W.typeIn K (.ref C_NoLayers) = some (.type "type"))
        (u4_NoLayers : PySem.W.findIn K (.ref C_NoLayers) "__getattribute__" = some (some (.builtin "BaseException.__getattribute__"))) (u5_NoLayers : PySem.W.findIn K (.ref C_NoLayers) "__getattr__" = some none) (u6_NoLayers : PySem.W.subIn K (.ref C_NoLayers) (.type "BaseException") = some true) (u7_NoLayers : PySem.W.hasDictIn K C_NoLayers = true) (u8_NoLayers : PySem.W.findIn K (.ref C_NoLayers) "__class__" = some (some (.builtin "object.__class__"))) (u9_NoLayers : PySem.W.mroIn K C_NoLayers (.type "object") = some true)
        (uQ_NoLayers : PySem.W.excIn K C_NoLayers veB "ValueError.__new__" = true)
        {C_NoPair : Addr} (u1_NoPair : PySem.W.nsIn K mainGlobals "NoPair" = some (some (.ref C_NoPair))) (u2_NoPair : PySem.W.keepIn K (.ref C_NoPair) = true) (u3_NoPair : PySem.W.typeIn K (.ref C_NoPair) = some (.type "type"))
        (u4_NoPair : PySem.W.findIn K (.ref C_NoPair) "__getattribute__" = some (some (.builtin "BaseException.__getattribute__"))) (u5_NoPair : PySem.W.findIn K (.ref C_NoPair) "__getattr__" = some none) (u6_NoPair : PySem.W.subIn K (.ref C_NoPair) (.type "BaseException") = some true) (u7_NoPair : PySem.W.hasDictIn K C_NoPair = true) (u8_NoPair : PySem.W.findIn K (.ref C_NoPair) "__class__" = some (some (.builtin "object.__class__"))) (u9_NoPair : PySem.W.mroIn K C_NoPair (.type "object") = some true)
        (uQ_NoPair : PySem.W.excIn K C_NoPair veB "ValueError.__new__" = true)
        {C_NoNet : Addr} (u1_NoNet : PySem.W.nsIn K mainGlobals "NoNet" = some (some (.ref C_NoNet))) (u2_NoNet : PySem.W.keepIn K (.ref C_NoNet) = true) (u3_NoNet : PySem.W.typeIn K (.ref C_NoNet) = some (.type "type"))
        (u4_NoNet : PySem.W.findIn K (.ref C_NoNet) "__getattribute__" = some (some (.builtin "BaseException.__getattribute__"))) (u5_NoNet : PySem.W.findIn K (.ref C_NoNet) "__getattr__" = some none) (u6_NoNet : PySem.W.subIn K (.ref C_NoNet) (.type "BaseException") = some true) (u7_NoNet : PySem.W.hasDictIn K C_NoNet = true) (u8_NoNet : PySem.W.findIn K (.ref C_NoNet) "__class__" = some (some (.builtin "object.__class__"))) (u9_NoNet : PySem.W.mroIn K C_NoNet (.type "object") = some true)
        (uQ_NoNet : PySem.W.excIn K C_NoNet veB "ValueError.__new__" = true)
        {C_Unlike : Addr} (u1_Unlike : PySem.W.nsIn K mainGlobals "Unlike" = some (some (.ref C_Unlike))) (u2_Unlike : PySem.W.keepIn K (.ref C_Unlike) = true) (u3_Unlike : PySem.W.typeIn K (.ref C_Unlike) = some (.type "type"))
        (u4_Unlike : PySem.W.findIn K (.ref C_Unlike) "__getattribute__" = some (some (.builtin "BaseException.__getattribute__"))) (u5_Unlike : PySem.W.findIn K (.ref C_Unlike) "__getattr__" = some none) (u6_Unlike : PySem.W.subIn K (.ref C_Unlike) (.type "BaseException") = some true) (u7_Unlike : PySem.W.hasDictIn K C_Unlike = true) (u8_Unlike : PySem.W.findIn K (.ref C_Unlike) "__class__" = some (some (.builtin "object.__class__"))) (u9_Unlike : PySem.W.mroIn K C_Unlike (.type "object") = some true)
        (uQ_Unlike : PySem.W.excIn K C_Unlike veB "ValueError.__new__" = true)
        {C_NoText : Addr} (u1_NoText : PySem.W.nsIn K mainGlobals "NoText" = some (some (.ref C_NoText))) (u2_NoText : PySem.W.keepIn K (.ref C_NoText) = true) (u3_NoText : PySem.W.typeIn K (.ref C_NoText) = some (.type "type"))
        (u4_NoText : PySem.W.findIn K (.ref C_NoText) "__getattribute__" = some (some (.builtin "BaseException.__getattribute__"))) (u5_NoText : PySem.W.findIn K (.ref C_NoText) "__getattr__" = some none) (u6_NoText : PySem.W.subIn K (.ref C_NoText) (.type "BaseException") = some true) (u7_NoText : PySem.W.hasDictIn K C_NoText = true) (u8_NoText : PySem.W.findIn K (.ref C_NoText) "__class__" = some (some (.builtin "object.__class__"))) (u9_NoText : PySem.W.mroIn K C_NoText (.type "object") = some true)
        (uQ_NoText : PySem.W.excIn K C_NoText veB "ValueError.__new__" = true)
        {C_NoPaper : Addr} (u1_NoPaper : PySem.W.nsIn K mainGlobals "NoPaper" = some (some (.ref C_NoPaper))) (u2_NoPaper : PySem.W.keepIn K (.ref C_NoPaper) = true) (u3_NoPaper : PySem.W.typeIn K (.ref C_NoPaper) = some (.type "type"))
        (u4_NoPaper : PySem.W.findIn K (.ref C_NoPaper) "__getattribute__" = some (some (.builtin "BaseException.__getattribute__"))) (u5_NoPaper : PySem.W.findIn K (.ref C_NoPaper) "__getattr__" = some none) (u6_NoPaper : PySem.W.subIn K (.ref C_NoPaper) (.type "BaseException") = some true) (u7_NoPaper : PySem.W.hasDictIn K C_NoPaper = true) (u8_NoPaper : PySem.W.findIn K (.ref C_NoPaper) "__class__" = some (some (.builtin "object.__class__"))) (u9_NoPaper : PySem.W.mroIn K C_NoPaper (.type "object") = some true)
        (uQ_NoPaper : PySem.W.excIn K C_NoPaper veB "ValueError.__new__" = true)
        {C_NoRow : Addr} (u1_NoRow : PySem.W.nsIn K mainGlobals "NoRow" = some (some (.ref C_NoRow))) (u2_NoRow : PySem.W.keepIn K (.ref C_NoRow) = true) (u3_NoRow : PySem.W.typeIn K (.ref C_NoRow) = some (.type "type"))
        (u4_NoRow : PySem.W.findIn K (.ref C_NoRow) "__getattribute__" = some (some (.builtin "BaseException.__getattribute__"))) (u5_NoRow : PySem.W.findIn K (.ref C_NoRow) "__getattr__" = some none) (u6_NoRow : PySem.W.subIn K (.ref C_NoRow) (.type "BaseException") = some true) (u7_NoRow : PySem.W.hasDictIn K C_NoRow = true) (u8_NoRow : PySem.W.findIn K (.ref C_NoRow) "__class__" = some (some (.builtin "object.__class__"))) (u9_NoRow : PySem.W.mroIn K C_NoRow (.type "object") = some true)
        (uQ_NoRow : PySem.W.excIn K C_NoRow veB "ValueError.__new__" = true)
        {C_NoDeed : Addr} (u1_NoDeed : PySem.W.nsIn K mainGlobals "NoDeed" = some (some (.ref C_NoDeed))) (u2_NoDeed : PySem.W.keepIn K (.ref C_NoDeed) = true) (u3_NoDeed : PySem.W.typeIn K (.ref C_NoDeed) = some (.type "type"))
        (u4_NoDeed : PySem.W.findIn K (.ref C_NoDeed) "__getattribute__" = some (some (.builtin "BaseException.__getattribute__"))) (u5_NoDeed : PySem.W.findIn K (.ref C_NoDeed) "__getattr__" = some none) (u6_NoDeed : PySem.W.subIn K (.ref C_NoDeed) (.type "BaseException") = some true) (u7_NoDeed : PySem.W.hasDictIn K C_NoDeed = true) (u8_NoDeed : PySem.W.findIn K (.ref C_NoDeed) "__class__" = some (some (.builtin "object.__class__"))) (u9_NoDeed : PySem.W.mroIn K C_NoDeed (.type "object") = some true)
        (uQ_NoDeed : PySem.W.excIn K C_NoDeed veB "ValueError.__new__" = true)
        {C_PlyError : Addr} (u1_PlyError : PySem.W.nsIn K mainGlobals "PlyError" = some (some (.ref C_PlyError))) (u2_PlyError : PySem.W.keepIn K (.ref C_PlyError) = true) (u3_PlyError : PySem.W.typeIn K (.ref C_PlyError) = some (.type "type"))
        (u4_PlyError : PySem.W.findIn K (.ref C_PlyError) "__getattribute__" = some (some (.builtin "BaseException.__getattribute__"))) (u5_PlyError : PySem.W.findIn K (.ref C_PlyError) "__getattr__" = some none) (u6_PlyError : PySem.W.subIn K (.ref C_PlyError) (.type "BaseException") = some true) (u7_PlyError : PySem.W.hasDictIn K C_PlyError = true) (u8_PlyError : PySem.W.findIn K (.ref C_PlyError) "__class__" = some (some (.builtin "object.__class__"))) (u9_PlyError : PySem.W.mroIn K C_PlyError (.type "object") = some true)
        {iA_Clash : Addr} {iod_Clash ian_Clash : Option Addr} {isl_Clash : Array (Option Value)} {ioc_Clash ikV_Clash idc_Clash ipm_Clash icd_Clash ict_Clash : Value}
        (w1_Clash : PySem.W.findIn K (.ref C_Clash) "__init__" = some (some (.ref iA_Clash))) (w2_Clash : K.lookup iA_Clash = some ⟨ioc_Clash, iod_Clash, .func (PySem.W.fnOf "__init__" "Clash.__init__" (defArgs si_Clash) (defBody si_Clash) (defScope si_Clash) .none ikV_Clash idc_Clash ipm_Clash ian_Clash icd_Clash ict_Clash), isl_Clash⟩) (w3_Clash : PySem.W.codeIn K icd_Clash "Clash.__init__" = true) (w4_Clash : PySem.W.keepIn K (.ref iA_Clash) = true)
        (w5_Clash : PySem.W.typeIn K (.ref iA_Clash) = some (.type "function")) (w6_Clash : PySem.W.findIn K (.ref C_Clash) "moment" = some none) (w7_Clash : PySem.W.findIn K (.ref C_Clash) "__setattr__" = some (some (.builtin "object.__setattr__"))) {iq1_Clash iq2_Clash : Str} {iN_Clash : Addr} {ibs_Clash isb_Clash : List Value} {isn_Clash : List Str} {iab_Clash : Bool} {icol_Clash : Option Bool} {idd_Clash : Option Addr} {im0_Clash im1_Clash im2_Clash im3_Clash im5_Clash : Option Value} (w8_Clash : K.lookup C_Clash = some (excClassObj iq1_Clash iq2_Clash C_Clash iN_Clash ibs_Clash [.ref C_PlyError, .type "ValueError", .type "Exception", .type "BaseException", .type "object"] true isn_Clash isb_Clash iab_Clash icol_Clash idd_Clash im0_Clash im1_Clash im2_Clash im3_Clash im5_Clash "ValueError.__new__"))
        (w9_Clash : PySem.W.readsIn K C_PlyError (.type "type") = true) (wA_Clash : PySem.W.specialIn K (.ref C_PlyError) "__getattribute__" = some (some (.builtin "type.__getattribute__"))) (wB_Clash : PySem.W.findCls K (.ref C_PlyError) (.type "type") "__init__" = some (.val (.builtin "ValueError.__init__")))
        (un : PySem.W.specialIn K (.builtin "object.__class__") "__get__" = some (some (.builtin "getset_descriptor.__get__"))) (ut : PySem.W.takesIn K (.builtin "object.__class__") = some true)
        (uS_NoDeed_NoPlaces : PySem.W.subIn K (.ref C_NoDeed) (.ref C_NoPlaces) = some false)
        (uS_NoDeed_NoDeed : PySem.W.subIn K (.ref C_NoDeed) (.ref C_NoDeed) = some true)
        (uS_NoRow_NoPlaces : PySem.W.subIn K (.ref C_NoRow) (.ref C_NoPlaces) = some false)
        (uS_NoRow_NoRow : PySem.W.subIn K (.ref C_NoRow) (.ref C_NoRow) = some true)
        (uS_NoPaper_NoPlaces : PySem.W.subIn K (.ref C_NoPaper) (.ref C_NoPlaces) = some false)
        (uS_NoPaper_NoPaper : PySem.W.subIn K (.ref C_NoPaper) (.ref C_NoPaper) = some true)
        (uS_NoText_NoPlaces : PySem.W.subIn K (.ref C_NoText) (.ref C_NoPlaces) = some false)
        (uS_NoText_NoText : PySem.W.subIn K (.ref C_NoText) (.ref C_NoText) = some true)
        (uS_Unlike_NoPlaces : PySem.W.subIn K (.ref C_Unlike) (.ref C_NoPlaces) = some false)
        (uS_Unlike_Unlike : PySem.W.subIn K (.ref C_Unlike) (.ref C_Unlike) = some true)
        (uS_NoNet_NoPlaces : PySem.W.subIn K (.ref C_NoNet) (.ref C_NoPlaces) = some false)
        (uS_NoNet_NoNet : PySem.W.subIn K (.ref C_NoNet) (.ref C_NoNet) = some true)
        (uS_NoPair_NoPlaces : PySem.W.subIn K (.ref C_NoPair) (.ref C_NoPlaces) = some false)
        (uS_NoPair_NoPair : PySem.W.subIn K (.ref C_NoPair) (.ref C_NoPair) = some true)
        (uS_NoLayers_NoPlaces : PySem.W.subIn K (.ref C_NoLayers) (.ref C_NoPlaces) = some false)
        (uS_NoLayers_NoLayers : PySem.W.subIn K (.ref C_NoLayers) (.ref C_NoLayers) = some true)
        (uS_Clash_NoPlaces : PySem.W.subIn K (.ref C_Clash) (.ref C_NoPlaces) = some false)
        (uS_Clash_Clash : PySem.W.subIn K (.ref C_Clash) (.ref C_Clash) = some true)
        (uS_NoTies_NoPlaces : PySem.W.subIn K (.ref C_NoTies) (.ref C_NoPlaces) = some false)
        (uS_NoTies_NoTies : PySem.W.subIn K (.ref C_NoTies) (.ref C_NoTies) = some true)
        (uS_NoPlaces_NoPlaces : PySem.W.subIn K (.ref C_NoPlaces) (.ref C_NoPlaces) = some true)
        (uS_NoDeed_NoTies : PySem.W.subIn K (.ref C_NoDeed) (.ref C_NoTies) = some false)
        (uS_NoRow_NoTies : PySem.W.subIn K (.ref C_NoRow) (.ref C_NoTies) = some false)
        (uS_NoPaper_NoTies : PySem.W.subIn K (.ref C_NoPaper) (.ref C_NoTies) = some false)
        (uS_NoText_NoTies : PySem.W.subIn K (.ref C_NoText) (.ref C_NoTies) = some false)
        (uS_Unlike_NoTies : PySem.W.subIn K (.ref C_Unlike) (.ref C_NoTies) = some false)
        (uS_NoNet_NoTies : PySem.W.subIn K (.ref C_NoNet) (.ref C_NoTies) = some false)
        (uS_NoPair_NoTies : PySem.W.subIn K (.ref C_NoPair) (.ref C_NoTies) = some false)
        (uS_NoLayers_NoTies : PySem.W.subIn K (.ref C_NoLayers) (.ref C_NoTies) = some false)
        (uS_Clash_NoTies : PySem.W.subIn K (.ref C_Clash) (.ref C_NoTies) = some false)
        (uS_NoPlaces_NoTies : PySem.W.subIn K (.ref C_NoPlaces) (.ref C_NoTies) = some false)
        (uS_NoDeed_Clash : PySem.W.subIn K (.ref C_NoDeed) (.ref C_Clash) = some false)
        (uS_NoRow_Clash : PySem.W.subIn K (.ref C_NoRow) (.ref C_Clash) = some false)
        (uS_NoPaper_Clash : PySem.W.subIn K (.ref C_NoPaper) (.ref C_Clash) = some false)
        (uS_NoText_Clash : PySem.W.subIn K (.ref C_NoText) (.ref C_Clash) = some false)
        (uS_Unlike_Clash : PySem.W.subIn K (.ref C_Unlike) (.ref C_Clash) = some false)
        (uS_NoNet_Clash : PySem.W.subIn K (.ref C_NoNet) (.ref C_Clash) = some false)
        (uS_NoPair_Clash : PySem.W.subIn K (.ref C_NoPair) (.ref C_Clash) = some false)
        (uS_NoLayers_Clash : PySem.W.subIn K (.ref C_NoLayers) (.ref C_Clash) = some false)
        (uS_NoTies_Clash : PySem.W.subIn K (.ref C_NoTies) (.ref C_Clash) = some false)
        (uS_NoPlaces_Clash : PySem.W.subIn K (.ref C_NoPlaces) (.ref C_Clash) = some false)
        (uS_NoDeed_NoLayers : PySem.W.subIn K (.ref C_NoDeed) (.ref C_NoLayers) = some false)
        (uS_NoRow_NoLayers : PySem.W.subIn K (.ref C_NoRow) (.ref C_NoLayers) = some false)
        (uS_NoPaper_NoLayers : PySem.W.subIn K (.ref C_NoPaper) (.ref C_NoLayers) = some false)
        (uS_NoText_NoLayers : PySem.W.subIn K (.ref C_NoText) (.ref C_NoLayers) = some false)
        (uS_Unlike_NoLayers : PySem.W.subIn K (.ref C_Unlike) (.ref C_NoLayers) = some false)
        (uS_NoNet_NoLayers : PySem.W.subIn K (.ref C_NoNet) (.ref C_NoLayers) = some false)
        (uS_NoPair_NoLayers : PySem.W.subIn K (.ref C_NoPair) (.ref C_NoLayers) = some false)
        (uS_Clash_NoLayers : PySem.W.subIn K (.ref C_Clash) (.ref C_NoLayers) = some false)
        (uS_NoTies_NoLayers : PySem.W.subIn K (.ref C_NoTies) (.ref C_NoLayers) = some false)
        (uS_NoPlaces_NoLayers : PySem.W.subIn K (.ref C_NoPlaces) (.ref C_NoLayers) = some false)
        (uS_NoDeed_NoPair : PySem.W.subIn K (.ref C_NoDeed) (.ref C_NoPair) = some false)
        (uS_NoRow_NoPair : PySem.W.subIn K (.ref C_NoRow) (.ref C_NoPair) = some false)
        (uS_NoPaper_NoPair : PySem.W.subIn K (.ref C_NoPaper) (.ref C_NoPair) = some false)
        (uS_NoText_NoPair : PySem.W.subIn K (.ref C_NoText) (.ref C_NoPair) = some false)
        (uS_Unlike_NoPair : PySem.W.subIn K (.ref C_Unlike) (.ref C_NoPair) = some false)
        (uS_NoNet_NoPair : PySem.W.subIn K (.ref C_NoNet) (.ref C_NoPair) = some false)
        (uS_NoLayers_NoPair : PySem.W.subIn K (.ref C_NoLayers) (.ref C_NoPair) = some false)
        (uS_Clash_NoPair : PySem.W.subIn K (.ref C_Clash) (.ref C_NoPair) = some false)
        (uS_NoTies_NoPair : PySem.W.subIn K (.ref C_NoTies) (.ref C_NoPair) = some false)
        (uS_NoPlaces_NoPair : PySem.W.subIn K (.ref C_NoPlaces) (.ref C_NoPair) = some false)
        (uS_NoDeed_NoNet : PySem.W.subIn K (.ref C_NoDeed) (.ref C_NoNet) = some false)
        (uS_NoRow_NoNet : PySem.W.subIn K (.ref C_NoRow) (.ref C_NoNet) = some false)
        (uS_NoPaper_NoNet : PySem.W.subIn K (.ref C_NoPaper) (.ref C_NoNet) = some false)
        (uS_NoText_NoNet : PySem.W.subIn K (.ref C_NoText) (.ref C_NoNet) = some false)
        (uS_Unlike_NoNet : PySem.W.subIn K (.ref C_Unlike) (.ref C_NoNet) = some false)
        (uS_NoPair_NoNet : PySem.W.subIn K (.ref C_NoPair) (.ref C_NoNet) = some false)
        (uS_NoLayers_NoNet : PySem.W.subIn K (.ref C_NoLayers) (.ref C_NoNet) = some false)
        (uS_Clash_NoNet : PySem.W.subIn K (.ref C_Clash) (.ref C_NoNet) = some false)
        (uS_NoTies_NoNet : PySem.W.subIn K (.ref C_NoTies) (.ref C_NoNet) = some false)
        (uS_NoPlaces_NoNet : PySem.W.subIn K (.ref C_NoPlaces) (.ref C_NoNet) = some false)
        (uS_NoDeed_Unlike : PySem.W.subIn K (.ref C_NoDeed) (.ref C_Unlike) = some false)
        (uS_NoRow_Unlike : PySem.W.subIn K (.ref C_NoRow) (.ref C_Unlike) = some false)
        (uS_NoPaper_Unlike : PySem.W.subIn K (.ref C_NoPaper) (.ref C_Unlike) = some false)
        (uS_NoText_Unlike : PySem.W.subIn K (.ref C_NoText) (.ref C_Unlike) = some false)
        (uS_NoNet_Unlike : PySem.W.subIn K (.ref C_NoNet) (.ref C_Unlike) = some false)
        (uS_NoPair_Unlike : PySem.W.subIn K (.ref C_NoPair) (.ref C_Unlike) = some false)
        (uS_NoLayers_Unlike : PySem.W.subIn K (.ref C_NoLayers) (.ref C_Unlike) = some false)
        (uS_Clash_Unlike : PySem.W.subIn K (.ref C_Clash) (.ref C_Unlike) = some false)
        (uS_NoTies_Unlike : PySem.W.subIn K (.ref C_NoTies) (.ref C_Unlike) = some false)
        (uS_NoPlaces_Unlike : PySem.W.subIn K (.ref C_NoPlaces) (.ref C_Unlike) = some false)
        (uS_NoDeed_NoText : PySem.W.subIn K (.ref C_NoDeed) (.ref C_NoText) = some false)
        (uS_NoRow_NoText : PySem.W.subIn K (.ref C_NoRow) (.ref C_NoText) = some false)
        (uS_NoPaper_NoText : PySem.W.subIn K (.ref C_NoPaper) (.ref C_NoText) = some false)
        (uS_Unlike_NoText : PySem.W.subIn K (.ref C_Unlike) (.ref C_NoText) = some false)
        (uS_NoNet_NoText : PySem.W.subIn K (.ref C_NoNet) (.ref C_NoText) = some false)
        (uS_NoPair_NoText : PySem.W.subIn K (.ref C_NoPair) (.ref C_NoText) = some false)
        (uS_NoLayers_NoText : PySem.W.subIn K (.ref C_NoLayers) (.ref C_NoText) = some false)
        (uS_Clash_NoText : PySem.W.subIn K (.ref C_Clash) (.ref C_NoText) = some false)
        (uS_NoTies_NoText : PySem.W.subIn K (.ref C_NoTies) (.ref C_NoText) = some false)
        (uS_NoPlaces_NoText : PySem.W.subIn K (.ref C_NoPlaces) (.ref C_NoText) = some false)
        (uS_NoDeed_NoPaper : PySem.W.subIn K (.ref C_NoDeed) (.ref C_NoPaper) = some false)
        (uS_NoRow_NoPaper : PySem.W.subIn K (.ref C_NoRow) (.ref C_NoPaper) = some false)
        (uS_NoText_NoPaper : PySem.W.subIn K (.ref C_NoText) (.ref C_NoPaper) = some false)
        (uS_Unlike_NoPaper : PySem.W.subIn K (.ref C_Unlike) (.ref C_NoPaper) = some false)
        (uS_NoNet_NoPaper : PySem.W.subIn K (.ref C_NoNet) (.ref C_NoPaper) = some false)
        (uS_NoPair_NoPaper : PySem.W.subIn K (.ref C_NoPair) (.ref C_NoPaper) = some false)
        (uS_NoLayers_NoPaper : PySem.W.subIn K (.ref C_NoLayers) (.ref C_NoPaper) = some false)
        (uS_Clash_NoPaper : PySem.W.subIn K (.ref C_Clash) (.ref C_NoPaper) = some false)
        (uS_NoTies_NoPaper : PySem.W.subIn K (.ref C_NoTies) (.ref C_NoPaper) = some false)
        (uS_NoPlaces_NoPaper : PySem.W.subIn K (.ref C_NoPlaces) (.ref C_NoPaper) = some false)
        (uS_NoDeed_NoRow : PySem.W.subIn K (.ref C_NoDeed) (.ref C_NoRow) = some false)
        (uS_NoPaper_NoRow : PySem.W.subIn K (.ref C_NoPaper) (.ref C_NoRow) = some false)
        (uS_NoText_NoRow : PySem.W.subIn K (.ref C_NoText) (.ref C_NoRow) = some false)
        (uS_Unlike_NoRow : PySem.W.subIn K (.ref C_Unlike) (.ref C_NoRow) = some false)
        (uS_NoNet_NoRow : PySem.W.subIn K (.ref C_NoNet) (.ref C_NoRow) = some false)
        (uS_NoPair_NoRow : PySem.W.subIn K (.ref C_NoPair) (.ref C_NoRow) = some false)
        (uS_NoLayers_NoRow : PySem.W.subIn K (.ref C_NoLayers) (.ref C_NoRow) = some false)
        (uS_Clash_NoRow : PySem.W.subIn K (.ref C_Clash) (.ref C_NoRow) = some false)
        (uS_NoTies_NoRow : PySem.W.subIn K (.ref C_NoTies) (.ref C_NoRow) = some false)
        (uS_NoPlaces_NoRow : PySem.W.subIn K (.ref C_NoPlaces) (.ref C_NoRow) = some false)
        (uS_NoRow_NoDeed : PySem.W.subIn K (.ref C_NoRow) (.ref C_NoDeed) = some false)
        (uS_NoPaper_NoDeed : PySem.W.subIn K (.ref C_NoPaper) (.ref C_NoDeed) = some false)
        (uS_NoText_NoDeed : PySem.W.subIn K (.ref C_NoText) (.ref C_NoDeed) = some false)
        (uS_Unlike_NoDeed : PySem.W.subIn K (.ref C_Unlike) (.ref C_NoDeed) = some false)
        (uS_NoNet_NoDeed : PySem.W.subIn K (.ref C_NoNet) (.ref C_NoDeed) = some false)
        (uS_NoPair_NoDeed : PySem.W.subIn K (.ref C_NoPair) (.ref C_NoDeed) = some false)
        (uS_NoLayers_NoDeed : PySem.W.subIn K (.ref C_NoLayers) (.ref C_NoDeed) = some false)
        (uS_Clash_NoDeed : PySem.W.subIn K (.ref C_Clash) (.ref C_NoDeed) = some false)
        (uS_NoTies_NoDeed : PySem.W.subIn K (.ref C_NoTies) (.ref C_NoDeed) = some false)
        (uS_NoPlaces_NoDeed : PySem.W.subIn K (.ref C_NoPlaces) (.ref C_NoDeed) = some false)
        (uS_NoDeed_PlyError : PySem.W.subIn K (.ref C_NoDeed) (.ref C_PlyError) = some true)
        (uS_NoRow_PlyError : PySem.W.subIn K (.ref C_NoRow) (.ref C_PlyError) = some true)
        (uS_NoPaper_PlyError : PySem.W.subIn K (.ref C_NoPaper) (.ref C_PlyError) = some true)
        (uS_NoText_PlyError : PySem.W.subIn K (.ref C_NoText) (.ref C_PlyError) = some true)
        (uS_Unlike_PlyError : PySem.W.subIn K (.ref C_Unlike) (.ref C_PlyError) = some true)
        (uS_NoNet_PlyError : PySem.W.subIn K (.ref C_NoNet) (.ref C_PlyError) = some true)
        (uS_NoPair_PlyError : PySem.W.subIn K (.ref C_NoPair) (.ref C_PlyError) = some true)
        (uS_NoLayers_PlyError : PySem.W.subIn K (.ref C_NoLayers) (.ref C_PlyError) = some true)
        (uS_Clash_PlyError : PySem.W.subIn K (.ref C_Clash) (.ref C_PlyError) = some true)
        (uS_NoTies_PlyError : PySem.W.subIn K (.ref C_NoTies) (.ref C_PlyError) = some true)
        (uS_NoPlaces_PlyError : PySem.W.subIn K (.ref C_NoPlaces) (.ref C_PlyError) = some true)
        (uS_NoDeed_ValueError : PySem.W.subIn K (.ref C_NoDeed) (.type "ValueError") = some true)
        (uS_NoRow_ValueError : PySem.W.subIn K (.ref C_NoRow) (.type "ValueError") = some true)
        (uS_NoPaper_ValueError : PySem.W.subIn K (.ref C_NoPaper) (.type "ValueError") = some true)
        (uS_NoText_ValueError : PySem.W.subIn K (.ref C_NoText) (.type "ValueError") = some true)
        (uS_Unlike_ValueError : PySem.W.subIn K (.ref C_Unlike) (.type "ValueError") = some true)
        (uS_NoNet_ValueError : PySem.W.subIn K (.ref C_NoNet) (.type "ValueError") = some true)
        (uS_NoPair_ValueError : PySem.W.subIn K (.ref C_NoPair) (.type "ValueError") = some true)
        (uS_NoLayers_ValueError : PySem.W.subIn K (.ref C_NoLayers) (.type "ValueError") = some true)
        (uS_Clash_ValueError : PySem.W.subIn K (.ref C_Clash) (.type "ValueError") = some true)
        (uS_NoTies_ValueError : PySem.W.subIn K (.ref C_NoTies) (.type "ValueError") = some true)
        (uS_NoPlaces_ValueError : PySem.W.subIn K (.ref C_NoPlaces) (.type "ValueError") = some true) : Tx K mg where
  a_is_whole := f0
  d_is_whole := _
  F_is_whole := fun_mk (st := st_is_whole) l0 c0 k0
  m_is_whole := PySem.W.mg_of X G a0
  b_is_whole := (fun_mk (st := st_is_whole) l0 c0 k0).binds fun _ _ _ _ _ _ us hl => match us, hl with | [_], _ => rfl
  a_is_many := f1
  d_is_many := _
  F_is_many := fun_mk (st := st_is_many) l1 c1 k1
  m_is_many := PySem.W.mg_of X G a1
  b_is_many := (fun_mk (st := st_is_many) l1 c1 k1).binds fun _ _ _ _ _ _ us hl => match us, hl with | [_], _ => rfl
  a_is_place := f2
  d_is_place := _
  F_is_place := fun_mk (st := st_is_place) l2 c2 k2
  m_is_place := PySem.W.mg_of X G a2
  b_is_place := (fun_mk (st := st_is_place) l2 c2 k2).binds fun _ _ _ _ _ _ us hl => match us, hl with | [_, _], _ => rfl
  a_is_moment := f3
  d_is_moment := _
  F_is_moment := fun_mk (st := st_is_moment) l3 c3 k3
  m_is_moment := PySem.W.mg_of X G a3
  b_is_moment := (fun_mk (st := st_is_moment) l3 c3 k3).binds fun _ _ _ _ _ _ us hl => match us, hl with | [_], _ => rfl
  a_is_meeting := f4
  d_is_meeting := _
  F_is_meeting := fun_mk (st := st_is_meeting) l4 c4 k4
  m_is_meeting := PySem.W.mg_of X G a4
  b_is_meeting := (fun_mk (st := st_is_meeting) l4 c4 k4).binds fun _ _ _ _ _ _ us hl => match us, hl with | [_, _], _ => rfl
  a_record_of := f5
  d_record_of := _
  F_record_of := fun_mk (st := st_record_of) l5 c5 k5
  m_record_of := PySem.W.mg_of X G a5
  b_record_of := (fun_mk (st := st_record_of) l5 c5 k5).binds fun _ _ _ _ _ _ us hl => match us, hl with | [_, _], _ => rfl
  a_l_mixed := f6
  d_l_mixed := _
  F_l_mixed := fun_mk (st := st_l_mixed) l6 c6 k6
  m_l_mixed := PySem.W.mg_of X G a6
  b_l_mixed := (fun_mk (st := st_l_mixed) l6 c6 k6).binds fun _ _ _ _ _ _ us hl => match us, hl with | [_, _], _ => rfl
  a_l_numbers := f7
  d_l_numbers := _
  F_l_numbers := fun_mk (st := st_l_numbers) l7 c7 k7
  m_l_numbers := PySem.W.mg_of X G a7
  b_l_numbers := (fun_mk (st := st_l_numbers) l7 c7 k7).binds fun _ _ _ _ _ _ us hl => match us, hl with | [_, _, _], _ => rfl
  a_l_ends := f8
  d_l_ends := _
  F_l_ends := fun_mk (st := st_l_ends) l8 c8 k8
  m_l_ends := PySem.W.mg_of X G a8
  b_l_ends := (fun_mk (st := st_l_ends) l8 c8 k8).binds fun _ _ _ _ _ _ us hl => match us, hl with | [_, _, _, _], _ => rfl
  a_l_record := f9
  d_l_record := _
  F_l_record := fun_mk (st := st_l_record) l9 c9 k9
  m_l_record := PySem.W.mg_of X G a9
  b_l_record := (fun_mk (st := st_l_record) l9 c9 k9).binds fun _ _ _ _ _ _ us hl => match us, hl with | [_, _], _ => rfl
  a_l_marks := f10
  d_l_marks := _
  F_l_marks := fun_mk (st := st_l_marks) l10 c10 k10
  m_l_marks := PySem.W.mg_of X G a10
  b_l_marks := (fun_mk (st := st_l_marks) l10 c10 k10).binds fun _ _ _ _ _ _ us hl => match us, hl with | [_], _ => rfl
  a_l_apart := f11
  d_l_apart := _
  F_l_apart := fun_mk (st := st_l_apart) l11 c11 k11
  m_l_apart := PySem.W.mg_of X G a11
  b_l_apart := (fun_mk (st := st_l_apart) l11 c11 k11).binds fun _ _ _ _ _ _ us hl => match us, hl with | [], _ => rfl
  a_l_refused := f12
  d_l_refused := _
  F_l_refused := fun_mk (st := st_l_refused) l12 c12 k12
  m_l_refused := PySem.W.mg_of X G a12
  b_l_refused := (fun_mk (st := st_l_refused) l12 c12 k12).binds fun _ _ _ _ _ _ us hl => match us, hl with | [_, _, _, _], _ => rfl
  a_l_no_places := f13
  d_l_no_places := _
  F_l_no_places := fun_mk (st := st_l_no_places) l13 c13 k13
  m_l_no_places := PySem.W.mg_of X G a13
  b_l_no_places := (fun_mk (st := st_l_no_places) l13 c13 k13).binds fun _ _ _ _ _ _ us hl => match us, hl with | [_, _], _ => rfl
  a_l_no_tie := f14
  d_l_no_tie := _
  F_l_no_tie := fun_mk (st := st_l_no_tie) l14 c14 k14
  m_l_no_tie := PySem.W.mg_of X G a14
  b_l_no_tie := (fun_mk (st := st_l_no_tie) l14 c14 k14).binds fun _ _ _ _ _ _ us hl => match us, hl with | [_, _, _], _ => rfl
  a_l_many := f15
  d_l_many := _
  F_l_many := fun_mk (st := st_l_many) l15 c15 k15
  m_l_many := PySem.W.mg_of X G a15
  b_l_many := (fun_mk (st := st_l_many) l15 c15 k15).binds fun _ _ _ _ _ _ us hl => match us, hl with | [_, _], _ => rfl
  a_l_clashed := f16
  d_l_clashed := _
  F_l_clashed := fun_mk (st := st_l_clashed) l16 c16 k16
  m_l_clashed := PySem.W.mg_of X G a16
  b_l_clashed := (fun_mk (st := st_l_clashed) l16 c16 k16).binds fun _ _ _ _ _ _ us hl => match us, hl with | [_, _, _], _ => rfl
  a_law := f17
  d_law := _
  F_law := fun_mk (st := st_law) l17 c17 k17
  m_law := PySem.W.mg_of X G a17
  b_law := (fun_mk (st := st_law) l17 c17 k17).binds fun _ _ _ _ _ _ us hl => match us, hl with | [_], _ => rfl
  n_isinstance := PySem.W.mg_none_of X G z_isinstance
  n_int := PySem.W.mg_none_of X G z_int
  n_bool := PySem.W.mg_none_of X G z_bool
  n_tuple := PySem.W.mg_none_of X G z_tuple
  n_len := PySem.W.mg_none_of X G z_len
  n_list := PySem.W.mg_none_of X G z_list
  n_all := PySem.W.mg_none_of X G z_all
  n_min := PySem.W.mg_none_of X G z_min
  n_max := PySem.W.mg_none_of X G z_max
  n_sorted := PySem.W.mg_none_of X G z_sorted
  n_range := PySem.W.mg_none_of X G z_range
  n_ValueError := PySem.W.mg_none_of X G z_ValueError
  c_MOST_PLACES := ⟨tk_MOST_PLACES, PySem.W.mg_of X G y_MOST_PLACES⟩
  c_LAST_MOMENT := ⟨tk_LAST_MOMENT, PySem.W.mg_of X G y_LAST_MOMENT⟩
  c_MOST_TIES := ⟨tk_MOST_TIES, PySem.W.mg_of X G y_MOST_TIES⟩
  C_NoPlaces := C_NoPlaces
  E_NoPlaces := ⟨PySem.W.mg_of X G u1_NoPlaces, u1_NoPlaces, u2_NoPlaces, u3_NoPlaces, ⟨u4_NoPlaces, u5_NoPlaces, u6_NoPlaces, u7_NoPlaces, u8_NoPlaces, un, ut, u9_NoPlaces⟩⟩
  Q_NoPlaces := uQ_NoPlaces
  C_NoTies := C_NoTies
  E_NoTies := ⟨PySem.W.mg_of X G u1_NoTies, u1_NoTies, u2_NoTies, u3_NoTies, ⟨u4_NoTies, u5_NoTies, u6_NoTies, u7_NoTies, u8_NoTies, un, ut, u9_NoTies⟩⟩
  Q_NoTies := uQ_NoTies
  C_Clash := C_Clash
  E_Clash := ⟨PySem.W.mg_of X G u1_Clash, u1_Clash, u2_Clash, u3_Clash, ⟨u4_Clash, u5_Clash, u6_Clash, u7_Clash, u8_Clash, un, ut, u9_Clash⟩⟩
  C_NoLayers := C_NoLayers
  E_NoLayers := ⟨PySem.W.mg_of X G u1_NoLayers, u1_NoLayers, u2_NoLayers, u3_NoLayers, ⟨u4_NoLayers, u5_NoLayers, u6_NoLayers, u7_NoLayers, u8_NoLayers, un, ut, u9_NoLayers⟩⟩
  Q_NoLayers := uQ_NoLayers
  C_NoPair := C_NoPair
  E_NoPair := ⟨PySem.W.mg_of X G u1_NoPair, u1_NoPair, u2_NoPair, u3_NoPair, ⟨u4_NoPair, u5_NoPair, u6_NoPair, u7_NoPair, u8_NoPair, un, ut, u9_NoPair⟩⟩
  Q_NoPair := uQ_NoPair
  C_NoNet := C_NoNet
  E_NoNet := ⟨PySem.W.mg_of X G u1_NoNet, u1_NoNet, u2_NoNet, u3_NoNet, ⟨u4_NoNet, u5_NoNet, u6_NoNet, u7_NoNet, u8_NoNet, un, ut, u9_NoNet⟩⟩
  Q_NoNet := uQ_NoNet
  C_Unlike := C_Unlike
  E_Unlike := ⟨PySem.W.mg_of X G u1_Unlike, u1_Unlike, u2_Unlike, u3_Unlike, ⟨u4_Unlike, u5_Unlike, u6_Unlike, u7_Unlike, u8_Unlike, un, ut, u9_Unlike⟩⟩
  Q_Unlike := uQ_Unlike
  C_NoText := C_NoText
  E_NoText := ⟨PySem.W.mg_of X G u1_NoText, u1_NoText, u2_NoText, u3_NoText, ⟨u4_NoText, u5_NoText, u6_NoText, u7_NoText, u8_NoText, un, ut, u9_NoText⟩⟩
  Q_NoText := uQ_NoText
  C_NoPaper := C_NoPaper
  E_NoPaper := ⟨PySem.W.mg_of X G u1_NoPaper, u1_NoPaper, u2_NoPaper, u3_NoPaper, ⟨u4_NoPaper, u5_NoPaper, u6_NoPaper, u7_NoPaper, u8_NoPaper, un, ut, u9_NoPaper⟩⟩
  Q_NoPaper := uQ_NoPaper
  C_NoRow := C_NoRow
  E_NoRow := ⟨PySem.W.mg_of X G u1_NoRow, u1_NoRow, u2_NoRow, u3_NoRow, ⟨u4_NoRow, u5_NoRow, u6_NoRow, u7_NoRow, u8_NoRow, un, ut, u9_NoRow⟩⟩
  Q_NoRow := uQ_NoRow
  C_NoDeed := C_NoDeed
  E_NoDeed := ⟨PySem.W.mg_of X G u1_NoDeed, u1_NoDeed, u2_NoDeed, u3_NoDeed, ⟨u4_NoDeed, u5_NoDeed, u6_NoDeed, u7_NoDeed, u8_NoDeed, un, ut, u9_NoDeed⟩⟩
  Q_NoDeed := uQ_NoDeed
  C_PlyError := C_PlyError
  E_PlyError := ⟨PySem.W.mg_of X G u1_PlyError, u1_PlyError, u2_PlyError, u3_PlyError, ⟨u4_PlyError, u5_PlyError, u6_PlyError, u7_PlyError, u8_PlyError, un, ut, u9_PlyError⟩⟩
  iA_Clash := iA_Clash
  iD_Clash := _
  iF_Clash := fun_mk (st := si_Clash) w2_Clash w3_Clash w4_Clash
  ib_Clash := (fun_mk (st := si_Clash) w2_Clash w3_Clash w4_Clash).binds fun _ _ _ _ _ _ us hl => match us, hl with | [_, _], _ => rfl
  ii_Clash := w1_Clash
  it_Clash := w5_Clash
  ih_Clash := w6_Clash
  is_Clash := w7_Clash
  io_Clash := ⟨_, _, _, _, _, _, _, _, _, _, _, _, _, _, _, w8_Clash, rfl⟩
  ip_Clash := w9_Clash
  iq_Clash := wA_Clash
  ir_Clash := wB_Clash
  S_NoDeed_NoPlaces := uS_NoDeed_NoPlaces
  S_NoDeed_NoDeed := uS_NoDeed_NoDeed
  S_NoRow_NoPlaces := uS_NoRow_NoPlaces
  S_NoRow_NoRow := uS_NoRow_NoRow
  S_NoPaper_NoPlaces := uS_NoPaper_NoPlaces
  S_NoPaper_NoPaper := uS_NoPaper_NoPaper
  S_NoText_NoPlaces := uS_NoText_NoPlaces
  S_NoText_NoText := uS_NoText_NoText
  S_Unlike_NoPlaces := uS_Unlike_NoPlaces
  S_Unlike_Unlike := uS_Unlike_Unlike
  S_NoNet_NoPlaces := uS_NoNet_NoPlaces
  S_NoNet_NoNet := uS_NoNet_NoNet
  S_NoPair_NoPlaces := uS_NoPair_NoPlaces
  S_NoPair_NoPair := uS_NoPair_NoPair
  S_NoLayers_NoPlaces := uS_NoLayers_NoPlaces
  S_NoLayers_NoLayers := uS_NoLayers_NoLayers
  S_Clash_NoPlaces := uS_Clash_NoPlaces
  S_Clash_Clash := uS_Clash_Clash
  S_NoTies_NoPlaces := uS_NoTies_NoPlaces
  S_NoTies_NoTies := uS_NoTies_NoTies
  S_NoPlaces_NoPlaces := uS_NoPlaces_NoPlaces
  S_NoDeed_NoTies := uS_NoDeed_NoTies
  S_NoRow_NoTies := uS_NoRow_NoTies
  S_NoPaper_NoTies := uS_NoPaper_NoTies
  S_NoText_NoTies := uS_NoText_NoTies
  S_Unlike_NoTies := uS_Unlike_NoTies
  S_NoNet_NoTies := uS_NoNet_NoTies
  S_NoPair_NoTies := uS_NoPair_NoTies
  S_NoLayers_NoTies := uS_NoLayers_NoTies
  S_Clash_NoTies := uS_Clash_NoTies
  S_NoPlaces_NoTies := uS_NoPlaces_NoTies
  S_NoDeed_Clash := uS_NoDeed_Clash
  S_NoRow_Clash := uS_NoRow_Clash
  S_NoPaper_Clash := uS_NoPaper_Clash
  S_NoText_Clash := uS_NoText_Clash
  S_Unlike_Clash := uS_Unlike_Clash
  S_NoNet_Clash := uS_NoNet_Clash
  S_NoPair_Clash := uS_NoPair_Clash
  S_NoLayers_Clash := uS_NoLayers_Clash
  S_NoTies_Clash := uS_NoTies_Clash
  S_NoPlaces_Clash := uS_NoPlaces_Clash
  S_NoDeed_NoLayers := uS_NoDeed_NoLayers
  S_NoRow_NoLayers := uS_NoRow_NoLayers
  S_NoPaper_NoLayers := uS_NoPaper_NoLayers
  S_NoText_NoLayers := uS_NoText_NoLayers
  S_Unlike_NoLayers := uS_Unlike_NoLayers
  S_NoNet_NoLayers := uS_NoNet_NoLayers
  S_NoPair_NoLayers := uS_NoPair_NoLayers
  S_Clash_NoLayers := uS_Clash_NoLayers
  S_NoTies_NoLayers := uS_NoTies_NoLayers
  S_NoPlaces_NoLayers := uS_NoPlaces_NoLayers
  S_NoDeed_NoPair := uS_NoDeed_NoPair
  S_NoRow_NoPair := uS_NoRow_NoPair
  S_NoPaper_NoPair := uS_NoPaper_NoPair
  S_NoText_NoPair := uS_NoText_NoPair
  S_Unlike_NoPair := uS_Unlike_NoPair
  S_NoNet_NoPair := uS_NoNet_NoPair
  S_NoLayers_NoPair := uS_NoLayers_NoPair
  S_Clash_NoPair := uS_Clash_NoPair
  S_NoTies_NoPair := uS_NoTies_NoPair
  S_NoPlaces_NoPair := uS_NoPlaces_NoPair
  S_NoDeed_NoNet := uS_NoDeed_NoNet
  S_NoRow_NoNet := uS_NoRow_NoNet
  S_NoPaper_NoNet := uS_NoPaper_NoNet
  S_NoText_NoNet := uS_NoText_NoNet
  S_Unlike_NoNet := uS_Unlike_NoNet
  S_NoPair_NoNet := uS_NoPair_NoNet
  S_NoLayers_NoNet := uS_NoLayers_NoNet
  S_Clash_NoNet := uS_Clash_NoNet
  S_NoTies_NoNet := uS_NoTies_NoNet
  S_NoPlaces_NoNet := uS_NoPlaces_NoNet
  S_NoDeed_Unlike := uS_NoDeed_Unlike
  S_NoRow_Unlike := uS_NoRow_Unlike
  S_NoPaper_Unlike := uS_NoPaper_Unlike
  S_NoText_Unlike := uS_NoText_Unlike
  S_NoNet_Unlike := uS_NoNet_Unlike
  S_NoPair_Unlike := uS_NoPair_Unlike
  S_NoLayers_Unlike := uS_NoLayers_Unlike
  S_Clash_Unlike := uS_Clash_Unlike
  S_NoTies_Unlike := uS_NoTies_Unlike
  S_NoPlaces_Unlike := uS_NoPlaces_Unlike
  S_NoDeed_NoText := uS_NoDeed_NoText
  S_NoRow_NoText := uS_NoRow_NoText
  S_NoPaper_NoText := uS_NoPaper_NoText
  S_Unlike_NoText := uS_Unlike_NoText
  S_NoNet_NoText := uS_NoNet_NoText
  S_NoPair_NoText := uS_NoPair_NoText
  S_NoLayers_NoText := uS_NoLayers_NoText
  S_Clash_NoText := uS_Clash_NoText
  S_NoTies_NoText := uS_NoTies_NoText
  S_NoPlaces_NoText := uS_NoPlaces_NoText
  S_NoDeed_NoPaper := uS_NoDeed_NoPaper
  S_NoRow_NoPaper := uS_NoRow_NoPaper
  S_NoText_NoPaper := uS_NoText_NoPaper
  S_Unlike_NoPaper := uS_Unlike_NoPaper
  S_NoNet_NoPaper := uS_NoNet_NoPaper
  S_NoPair_NoPaper := uS_NoPair_NoPaper
  S_NoLayers_NoPaper := uS_NoLayers_NoPaper
  S_Clash_NoPaper := uS_Clash_NoPaper
  S_NoTies_NoPaper := uS_NoTies_NoPaper
  S_NoPlaces_NoPaper := uS_NoPlaces_NoPaper
  S_NoDeed_NoRow := uS_NoDeed_NoRow
  S_NoPaper_NoRow := uS_NoPaper_NoRow
  S_NoText_NoRow := uS_NoText_NoRow
  S_Unlike_NoRow := uS_Unlike_NoRow
  S_NoNet_NoRow := uS_NoNet_NoRow
  S_NoPair_NoRow := uS_NoPair_NoRow
  S_NoLayers_NoRow := uS_NoLayers_NoRow
  S_Clash_NoRow := uS_Clash_NoRow
  S_NoTies_NoRow := uS_NoTies_NoRow
  S_NoPlaces_NoRow := uS_NoPlaces_NoRow
  S_NoRow_NoDeed := uS_NoRow_NoDeed
  S_NoPaper_NoDeed := uS_NoPaper_NoDeed
  S_NoText_NoDeed := uS_NoText_NoDeed
  S_Unlike_NoDeed := uS_Unlike_NoDeed
  S_NoNet_NoDeed := uS_NoNet_NoDeed
  S_NoPair_NoDeed := uS_NoPair_NoDeed
  S_NoLayers_NoDeed := uS_NoLayers_NoDeed
  S_Clash_NoDeed := uS_Clash_NoDeed
  S_NoTies_NoDeed := uS_NoTies_NoDeed
  S_NoPlaces_NoDeed := uS_NoPlaces_NoDeed
  S_NoDeed_PlyError := uS_NoDeed_PlyError
  S_NoRow_PlyError := uS_NoRow_PlyError
  S_NoPaper_PlyError := uS_NoPaper_PlyError
  S_NoText_PlyError := uS_NoText_PlyError
  S_Unlike_PlyError := uS_Unlike_PlyError
  S_NoNet_PlyError := uS_NoNet_PlyError
  S_NoPair_PlyError := uS_NoPair_PlyError
  S_NoLayers_PlyError := uS_NoLayers_PlyError
  S_Clash_PlyError := uS_Clash_PlyError
  S_NoTies_PlyError := uS_NoTies_PlyError
  S_NoPlaces_PlyError := uS_NoPlaces_PlyError
  S_NoDeed_ValueError := uS_NoDeed_ValueError
  S_NoRow_ValueError := uS_NoRow_ValueError
  S_NoPaper_ValueError := uS_NoPaper_ValueError
  S_NoText_ValueError := uS_NoText_ValueError
  S_Unlike_ValueError := uS_Unlike_ValueError
  S_NoNet_ValueError := uS_NoNet_ValueError
  S_NoPair_ValueError := uS_NoPair_ValueError
  S_NoLayers_ValueError := uS_NoLayers_ValueError
  S_Clash_ValueError := uS_Clash_ValueError
  S_NoTies_ValueError := uS_NoTies_ValueError
  S_NoPlaces_ValueError := uS_NoPlaces_ValueError
theorem all_mk {l : PySem.W.OpenLaw} {fa : Addr} (X : K.In h) (G : h.Ns mainGlobals mg) (hfa : mg "law" = some (.ref fa))
    {f0 : Addr} {od0 an0 : Option Addr} {sl0 : Array (Option Value)} {oc0 kV0 dc0 pm0 cd0 ct0 : Value}
        (a0 : PySem.W.nsIn K mainGlobals "is_whole" = some (some (.ref f0))) (l0 : K.lookup f0 = some ⟨oc0, od0, .func (PySem.W.fnOf "is_whole" "is_whole" (defArgs st_is_whole) (defBody st_is_whole) (defScope st_is_whole) .none kV0 dc0 pm0 an0 cd0 ct0), sl0⟩) (c0 : PySem.W.codeIn K cd0 "is_whole" = true) (k0 : PySem.W.keepIn K (.ref f0) = true)
    {f1 : Addr} {od1 an1 : Option Addr} {sl1 : Array (Option Value)} {oc1 kV1 dc1 pm1 cd1 ct1 : Value}
        (a1 : PySem.W.nsIn K mainGlobals "is_many" = some (some (.ref f1))) (l1 : K.lookup f1 = some ⟨oc1, od1, .func (PySem.W.fnOf "is_many" "is_many" (defArgs st_is_many) (defBody st_is_many) (defScope st_is_many) .none kV1 dc1 pm1 an1 cd1 ct1), sl1⟩) (c1 : PySem.W.codeIn K cd1 "is_many" = true) (k1 : PySem.W.keepIn K (.ref f1) = true)
    {f2 : Addr} {od2 an2 : Option Addr} {sl2 : Array (Option Value)} {oc2 kV2 dc2 pm2 cd2 ct2 : Value}
        (a2 : PySem.W.nsIn K mainGlobals "is_place" = some (some (.ref f2))) (l2 : K.lookup f2 = some ⟨oc2, od2, .func (PySem.W.fnOf "is_place" "is_place" (defArgs st_is_place) (defBody st_is_place) (defScope st_is_place) .none kV2 dc2 pm2 an2 cd2 ct2), sl2⟩) (c2 : PySem.W.codeIn K cd2 "is_place" = true) (k2 : PySem.W.keepIn K (.ref f2) = true)
    {f3 : Addr} {od3 an3 : Option Addr} {sl3 : Array (Option Value)} {oc3 kV3 dc3 pm3 cd3 ct3 : Value}
        (a3 : PySem.W.nsIn K mainGlobals "is_moment" = some (some (.ref f3))) (l3 : K.lookup f3 = some ⟨oc3, od3, .func (PySem.W.fnOf "is_moment" "is_moment" (defArgs st_is_moment) (defBody st_is_moment) (defScope st_is_moment) .none kV3 dc3 pm3 an3 cd3 ct3), sl3⟩) (c3 : PySem.W.codeIn K cd3 "is_moment" = true) (k3 : PySem.W.keepIn K (.ref f3) = true)
    {f4 : Addr} {od4 an4 : Option Addr} {sl4 : Array (Option Value)} {oc4 kV4 dc4 pm4 cd4 ct4 : Value}
        (a4 : PySem.W.nsIn K mainGlobals "is_meeting" = some (some (.ref f4))) (l4 : K.lookup f4 = some ⟨oc4, od4, .func (PySem.W.fnOf "is_meeting" "is_meeting" (defArgs st_is_meeting) (defBody st_is_meeting) (defScope st_is_meeting) .none kV4 dc4 pm4 an4 cd4 ct4), sl4⟩) (c4 : PySem.W.codeIn K cd4 "is_meeting" = true) (k4 : PySem.W.keepIn K (.ref f4) = true)
    {f5 : Addr} {od5 an5 : Option Addr} {sl5 : Array (Option Value)} {oc5 kV5 dc5 pm5 cd5 ct5 : Value}
        (a5 : PySem.W.nsIn K mainGlobals "record_of" = some (some (.ref f5))) (l5 : K.lookup f5 = some ⟨oc5, od5, .func (PySem.W.fnOf "record_of" "record_of" (defArgs st_record_of) (defBody st_record_of) (defScope st_record_of) .none kV5 dc5 pm5 an5 cd5 ct5), sl5⟩) (c5 : PySem.W.codeIn K cd5 "record_of" = true) (k5 : PySem.W.keepIn K (.ref f5) = true)
    {f6 : Addr} {od6 an6 : Option Addr} {sl6 : Array (Option Value)} {oc6 kV6 dc6 pm6 cd6 ct6 : Value}
        (a6 : PySem.W.nsIn K mainGlobals "_law_mixed" = some (some (.ref f6))) (l6 : K.lookup f6 = some ⟨oc6, od6, .func (PySem.W.fnOf "_law_mixed" "_law_mixed" (defArgs st_l_mixed) (defBody st_l_mixed) (defScope st_l_mixed) .none kV6 dc6 pm6 an6 cd6 ct6), sl6⟩) (c6 : PySem.W.codeIn K cd6 "_law_mixed" = true) (k6 : PySem.W.keepIn K (.ref f6) = true)
    {f7 : Addr} {od7 an7 : Option Addr} {sl7 : Array (Option Value)} {oc7 kV7 dc7 pm7 cd7 ct7 : Value}
        (a7 : PySem.W.nsIn K mainGlobals "_law_numbers" = some (some (.ref f7))) (l7 : K.lookup f7 = some ⟨oc7, od7, .func (PySem.W.fnOf "_law_numbers" "_law_numbers" (defArgs st_l_numbers) (defBody st_l_numbers) (defScope st_l_numbers) .none kV7 dc7 pm7 an7 cd7 ct7), sl7⟩) (c7 : PySem.W.codeIn K cd7 "_law_numbers" = true) (k7 : PySem.W.keepIn K (.ref f7) = true)
    {f8 : Addr} {od8 an8 : Option Addr} {sl8 : Array (Option Value)} {oc8 kV8 dc8 pm8 cd8 ct8 : Value}
        (a8 : PySem.W.nsIn K mainGlobals "_law_ends" = some (some (.ref f8))) (l8 : K.lookup f8 = some ⟨oc8, od8, .func (PySem.W.fnOf "_law_ends" "_law_ends" (defArgs st_l_ends) (defBody st_l_ends) (defScope st_l_ends) .none kV8 dc8 pm8 an8 cd8 ct8), sl8⟩) (c8 : PySem.W.codeIn K cd8 "_law_ends" = true) (k8 : PySem.W.keepIn K (.ref f8) = true)
    {f9 : Addr} {od9 an9 : Option Addr} {sl9 : Array (Option Value)} {oc9 kV9 dc9 pm9 cd9 ct9 : Value}
        (a9 : PySem.W.nsIn K mainGlobals "_law_record" = some (some (.ref f9))) (l9 : K.lookup f9 = some ⟨oc9, od9, .func (PySem.W.fnOf "_law_record" "_law_record" (defArgs st_l_record) (defBody st_l_record) (defScope st_l_record) .none kV9 dc9 pm9 an9 cd9 ct9), sl9⟩) (c9 : PySem.W.codeIn K cd9 "_law_record" = true) (k9 : PySem.W.keepIn K (.ref f9) = true)
    {f10 : Addr} {od10 an10 : Option Addr} {sl10 : Array (Option Value)} {oc10 kV10 dc10 pm10 cd10 ct10 : Value}
        (a10 : PySem.W.nsIn K mainGlobals "_law_marks" = some (some (.ref f10))) (l10 : K.lookup f10 = some ⟨oc10, od10, .func (PySem.W.fnOf "_law_marks" "_law_marks" (defArgs st_l_marks) (defBody st_l_marks) (defScope st_l_marks) .none kV10 dc10 pm10 an10 cd10 ct10), sl10⟩) (c10 : PySem.W.codeIn K cd10 "_law_marks" = true) (k10 : PySem.W.keepIn K (.ref f10) = true)
    {f11 : Addr} {od11 an11 : Option Addr} {sl11 : Array (Option Value)} {oc11 kV11 dc11 pm11 cd11 ct11 : Value}
        (a11 : PySem.W.nsIn K mainGlobals "_law_apart" = some (some (.ref f11))) (l11 : K.lookup f11 = some ⟨oc11, od11, .func (PySem.W.fnOf "_law_apart" "_law_apart" (defArgs st_l_apart) (defBody st_l_apart) (defScope st_l_apart) .none kV11 dc11 pm11 an11 cd11 ct11), sl11⟩) (c11 : PySem.W.codeIn K cd11 "_law_apart" = true) (k11 : PySem.W.keepIn K (.ref f11) = true)
    {f12 : Addr} {od12 an12 : Option Addr} {sl12 : Array (Option Value)} {oc12 kV12 dc12 pm12 cd12 ct12 : Value}
        (a12 : PySem.W.nsIn K mainGlobals "_law_refused" = some (some (.ref f12))) (l12 : K.lookup f12 = some ⟨oc12, od12, .func (PySem.W.fnOf "_law_refused" "_law_refused" (defArgs st_l_refused) (defBody st_l_refused) (defScope st_l_refused) .none kV12 dc12 pm12 an12 cd12 ct12), sl12⟩) (c12 : PySem.W.codeIn K cd12 "_law_refused" = true) (k12 : PySem.W.keepIn K (.ref f12) = true)
    {f13 : Addr} {od13 an13 : Option Addr} {sl13 : Array (Option Value)} {oc13 kV13 dc13 pm13 cd13 ct13 : Value}
        (a13 : PySem.W.nsIn K mainGlobals "_law_no_places" = some (some (.ref f13))) (l13 : K.lookup f13 = some ⟨oc13, od13, .func (PySem.W.fnOf "_law_no_places" "_law_no_places" (defArgs st_l_no_places) (defBody st_l_no_places) (defScope st_l_no_places) .none kV13 dc13 pm13 an13 cd13 ct13), sl13⟩) (c13 : PySem.W.codeIn K cd13 "_law_no_places" = true) (k13 : PySem.W.keepIn K (.ref f13) = true)
    {f14 : Addr} {od14 an14 : Option Addr} {sl14 : Array (Option Value)} {oc14 kV14 dc14 pm14 cd14 ct14 : Value}
        (a14 : PySem.W.nsIn K mainGlobals "_law_no_tie" = some (some (.ref f14))) (l14 : K.lookup f14 = some ⟨oc14, od14, .func (PySem.W.fnOf "_law_no_tie" "_law_no_tie" (defArgs st_l_no_tie) (defBody st_l_no_tie) (defScope st_l_no_tie) .none kV14 dc14 pm14 an14 cd14 ct14), sl14⟩) (c14 : PySem.W.codeIn K cd14 "_law_no_tie" = true) (k14 : PySem.W.keepIn K (.ref f14) = true)
    {f15 : Addr} {od15 an15 : Option Addr} {sl15 : Array (Option Value)} {oc15 kV15 dc15 pm15 cd15 ct15 : Value}
        (a15 : PySem.W.nsIn K mainGlobals "_law_many" = some (some (.ref f15))) (l15 : K.lookup f15 = some ⟨oc15, od15, .func (PySem.W.fnOf "_law_many" "_law_many" (defArgs st_l_many) (defBody st_l_many) (defScope st_l_many) .none kV15 dc15 pm15 an15 cd15 ct15), sl15⟩) (c15 : PySem.W.codeIn K cd15 "_law_many" = true) (k15 : PySem.W.keepIn K (.ref f15) = true)
    {f16 : Addr} {od16 an16 : Option Addr} {sl16 : Array (Option Value)} {oc16 kV16 dc16 pm16 cd16 ct16 : Value}
        (a16 : PySem.W.nsIn K mainGlobals "_law_clashed" = some (some (.ref f16))) (l16 : K.lookup f16 = some ⟨oc16, od16, .func (PySem.W.fnOf "_law_clashed" "_law_clashed" (defArgs st_l_clashed) (defBody st_l_clashed) (defScope st_l_clashed) .none kV16 dc16 pm16 an16 cd16 ct16), sl16⟩) (c16 : PySem.W.codeIn K cd16 "_law_clashed" = true) (k16 : PySem.W.keepIn K (.ref f16) = true)
    {f17 : Addr} {od17 an17 : Option Addr} {sl17 : Array (Option Value)} {oc17 kV17 dc17 pm17 cd17 ct17 : Value}
        (a17 : PySem.W.nsIn K mainGlobals "law" = some (some (.ref f17))) (l17 : K.lookup f17 = some ⟨oc17, od17, .func (PySem.W.fnOf "law" "law" (defArgs st_law) (defBody st_law) (defScope st_law) .none kV17 dc17 pm17 an17 cd17 ct17), sl17⟩) (c17 : PySem.W.codeIn K cd17 "law" = true) (k17 : PySem.W.keepIn K (.ref f17) = true)
        (z_isinstance : PySem.W.nsIn K mainGlobals "isinstance" = some none)
        (z_int : PySem.W.nsIn K mainGlobals "int" = some none)
        (z_bool : PySem.W.nsIn K mainGlobals "bool" = some none)
        (z_tuple : PySem.W.nsIn K mainGlobals "tuple" = some none)
        (z_len : PySem.W.nsIn K mainGlobals "len" = some none)
        (z_list : PySem.W.nsIn K mainGlobals "list" = some none)
        (z_all : PySem.W.nsIn K mainGlobals "all" = some none)
        (z_min : PySem.W.nsIn K mainGlobals "min" = some none)
        (z_max : PySem.W.nsIn K mainGlobals "max" = some none)
        (z_sorted : PySem.W.nsIn K mainGlobals "sorted" = some none)
        (z_range : PySem.W.nsIn K mainGlobals "range" = some none)
        (z_ValueError : PySem.W.nsIn K mainGlobals "ValueError" = some none)
        {tk_MOST_PLACES : Tok} (y_MOST_PLACES : PySem.W.nsIn K mainGlobals "MOST_PLACES" = some (some (.int (10) tk_MOST_PLACES)))
        {tk_LAST_MOMENT : Tok} (y_LAST_MOMENT : PySem.W.nsIn K mainGlobals "LAST_MOMENT" = some (some (.int (1000000000000000000000000000000) tk_LAST_MOMENT)))
        {tk_MOST_TIES : Tok} (y_MOST_TIES : PySem.W.nsIn K mainGlobals "MOST_TIES" = some (some (.int (60) tk_MOST_TIES)))
        {C_NoPlaces : Addr} (u1_NoPlaces : PySem.W.nsIn K mainGlobals "NoPlaces" = some (some (.ref C_NoPlaces))) (u2_NoPlaces : PySem.W.keepIn K (.ref C_NoPlaces) = true) (u3_NoPlaces : PySem.W.typeIn K (.ref C_NoPlaces) = some (.type "type"))
        (u4_NoPlaces : PySem.W.findIn K (.ref C_NoPlaces) "__getattribute__" = some (some (.builtin "BaseException.__getattribute__"))) (u5_NoPlaces : PySem.W.findIn K (.ref C_NoPlaces) "__getattr__" = some none) (u6_NoPlaces : PySem.W.subIn K (.ref C_NoPlaces) (.type "BaseException") = some true) (u7_NoPlaces : PySem.W.hasDictIn K C_NoPlaces = true) (u8_NoPlaces : PySem.W.findIn K (.ref C_NoPlaces) "__class__" = some (some (.builtin "object.__class__"))) (u9_NoPlaces : PySem.W.mroIn K C_NoPlaces (.type "object") = some true)
        (uQ_NoPlaces : PySem.W.excIn K C_NoPlaces veB "ValueError.__new__" = true)
        {C_NoTies : Addr} (u1_NoTies : PySem.W.nsIn K mainGlobals "NoTies" = some (some (.ref C_NoTies))) (u2_NoTies : PySem.W.keepIn K (.ref C_NoTies) = true) (u3_NoTies : PySem.W.typeIn K (.ref C_NoTies) = some (.type "type"))
        (u4_NoTies : PySem.W.findIn K (.ref C_NoTies) "__getattribute__" = some (some (.builtin "BaseException.__getattribute__"))) (u5_NoTies : PySem.W.findIn K (.ref C_NoTies) "__getattr__" = some none) (u6_NoTies : PySem.W.subIn K (.ref C_NoTies) (.type "BaseException") = some true) (u7_NoTies : PySem.W.hasDictIn K C_NoTies = true) (u8_NoTies : PySem.W.findIn K (.ref C_NoTies) "__class__" = some (some (.builtin "object.__class__"))) (u9_NoTies : PySem.W.mroIn K C_NoTies (.type "object") = some true)
        (uQ_NoTies : PySem.W.excIn K C_NoTies veB "ValueError.__new__" = true)
        {C_Clash : Addr} (u1_Clash : PySem.W.nsIn K mainGlobals "Clash" = some (some (.ref C_Clash))) (u2_Clash : PySem.W.keepIn K (.ref C_Clash) = true) (u3_Clash : PySem.W.typeIn K (.ref C_Clash) = some (.type "type"))
        (u4_Clash : PySem.W.findIn K (.ref C_Clash) "__getattribute__" = some (some (.builtin "BaseException.__getattribute__"))) (u5_Clash : PySem.W.findIn K (.ref C_Clash) "__getattr__" = some none) (u6_Clash : PySem.W.subIn K (.ref C_Clash) (.type "BaseException") = some true) (u7_Clash : PySem.W.hasDictIn K C_Clash = true) (u8_Clash : PySem.W.findIn K (.ref C_Clash) "__class__" = some (some (.builtin "object.__class__"))) (u9_Clash : PySem.W.mroIn K C_Clash (.type "object") = some true)
        {C_NoLayers : Addr} (u1_NoLayers : PySem.W.nsIn K mainGlobals "NoLayers" = some (some (.ref C_NoLayers))) (u2_NoLayers : PySem.W.keepIn K (.ref C_NoLayers) = true) (u3_NoLayers : PySem.W.typeIn K (.ref C_NoLayers) = some (.type "type"))
        (u4_NoLayers : PySem.W.findIn K (.ref C_NoLayers) "__getattribute__" = some (some (.builtin "BaseException.__getattribute__"))) (u5_NoLayers : PySem.W.findIn K (.ref C_NoLayers) "__getattr__" = some none) (u6_NoLayers : PySem.W.subIn K (.ref C_NoLayers) (.type "BaseException") = some true) (u7_NoLayers : PySem.W.hasDictIn K C_NoLayers = true) (u8_NoLayers : PySem.W.findIn K (.ref C_NoLayers) "__class__" = some (some (.builtin "object.__class__"))) (u9_NoLayers : PySem.W.mroIn K C_NoLayers (.type "object") = some true)
        (uQ_NoLayers : PySem.W.excIn K C_NoLayers veB "ValueError.__new__" = true)
        {C_NoPair : Addr} (u1_NoPair : PySem.W.nsIn K mainGlobals "NoPair" = some (some (.ref C_NoPair))) (u2_NoPair : PySem.W.keepIn K (.ref C_NoPair) = true) (u3_NoPair : PySem.W.typeIn K (.ref C_NoPair) = some (.type "type"))
        (u4_NoPair : PySem.W.findIn K (.ref C_NoPair) "__getattribute__" = some (some (.builtin "BaseException.__getattribute__"))) (u5_NoPair : PySem.W.findIn K (.ref C_NoPair) "__getattr__" = some none) (u6_NoPair : PySem.W.subIn K (.ref C_NoPair) (.type "BaseException") = some true) (u7_NoPair : PySem.W.hasDictIn K C_NoPair = true) (u8_NoPair : PySem.W.findIn K (.ref C_NoPair) "__class__" = some (some (.builtin "object.__class__"))) (u9_NoPair : PySem.W.mroIn K C_NoPair (.type "object") = some true)
        (uQ_NoPair : PySem.W.excIn K C_NoPair veB "ValueError.__new__" = true)
        {C_NoNet : Addr} (u1_NoNet : PySem.W.nsIn K mainGlobals "NoNet" = some (some (.ref C_NoNet))) (u2_NoNet : PySem.W.keepIn K (.ref C_NoNet) = true) (u3_NoNet : PySem.W.typeIn K (.ref C_NoNet) = some (.type "type"))
        (u4_NoNet : PySem.W.findIn K (.ref C_NoNet) "__getattribute__" = some (some (.builtin "BaseException.__getattribute__"))) (u5_NoNet : PySem.W.findIn K (.ref C_NoNet) "__getattr__" = some none) (u6_NoNet : PySem.W.subIn K (.ref C_NoNet) (.type "BaseException") = some true) (u7_NoNet : PySem.W.hasDictIn K C_NoNet = true) (u8_NoNet : PySem.W.findIn K (.ref C_NoNet) "__class__" = some (some (.builtin "object.__class__"))) (u9_NoNet : PySem.W.mroIn K C_NoNet (.type "object") = some true)
        (uQ_NoNet : PySem.W.excIn K C_NoNet veB "ValueError.__new__" = true)
        {C_Unlike : Addr} (u1_Unlike : PySem.W.nsIn K mainGlobals "Unlike" = some (some (.ref C_Unlike))) (u2_Unlike : PySem.W.keepIn K (.ref C_Unlike) = true) (u3_Unlike : PySem.W.typeIn K (.ref C_Unlike) = some (.type "type"))
        (u4_Unlike : PySem.W.findIn K (.ref C_Unlike) "__getattribute__" = some (some (.builtin "BaseException.__getattribute__"))) (u5_Unlike : PySem.W.findIn K (.ref C_Unlike) "__getattr__" = some none) (u6_Unlike : PySem.W.subIn K (.ref C_Unlike) (.type "BaseException") = some true) (u7_Unlike : PySem.W.hasDictIn K C_Unlike = true) (u8_Unlike : PySem.W.findIn K (.ref C_Unlike) "__class__" = some (some (.builtin "object.__class__"))) (u9_Unlike : PySem.W.mroIn K C_Unlike (.type "object") = some true)
        (uQ_Unlike : PySem.W.excIn K C_Unlike veB "ValueError.__new__" = true)
        {C_NoText : Addr} (u1_NoText : PySem.W.nsIn K mainGlobals "NoText" = some (some (.ref C_NoText))) (u2_NoText : PySem.W.keepIn K (.ref C_NoText) = true) (u3_NoText : PySem.W.typeIn K (.ref C_NoText) = some (.type "type"))
        (u4_NoText : PySem.W.findIn K (.ref C_NoText) "__getattribute__" = some (some (.builtin "BaseException.__getattribute__"))) (u5_NoText : PySem.W.findIn K (.ref C_NoText) "__getattr__" = some none) (u6_NoText : PySem.W.subIn K (.ref C_NoText) (.type "BaseException") = some true) (u7_NoText : PySem.W.hasDictIn K C_NoText = true) (u8_NoText : PySem.W.findIn K (.ref C_NoText) "__class__" = some (some (.builtin "object.__class__"))) (u9_NoText : PySem.W.mroIn K C_NoText (.type "object") = some true)
        (uQ_NoText : PySem.W.excIn K C_NoText veB "ValueError.__new__" = true)
        {C_NoPaper : Addr} (u1_NoPaper : PySem.W.nsIn K mainGlobals "NoPaper" = some (some (.ref C_NoPaper))) (u2_NoPaper : PySem.W.keepIn K (.ref C_NoPaper) = true) (u3_NoPaper : PySem.W.typeIn K (.ref C_NoPaper) = some (.type "type"))
        (u4_NoPaper : PySem.W.findIn K (.ref C_NoPaper) "__getattribute__" = some (some (.builtin "BaseException.__getattribute__"))) (u5_NoPaper : PySem.W.findIn K (.ref C_NoPaper) "__getattr__" = some none) (u6_NoPaper : PySem.W.subIn K (.ref C_NoPaper) (.type "BaseException") = some true) (u7_NoPaper : PySem.W.hasDictIn K C_NoPaper = true) (u8_NoPaper : PySem.W.findIn K (.ref C_NoPaper) "__class__" = some (some (.builtin "object.__class__"))) (u9_NoPaper : PySem.W.mroIn K C_NoPaper (.type "object") = some true)
        (uQ_NoPaper : PySem.W.excIn K C_NoPaper veB "ValueError.__new__" = true)
        {C_NoRow : Addr} (u1_NoRow : PySem.W.nsIn K mainGlobals "NoRow" = some (some (.ref C_NoRow))) (u2_NoRow : PySem.W.keepIn K (.ref C_NoRow) = true) (u3_NoRow : PySem.W.typeIn K (.ref C_NoRow) = some (.type "type"))
        (u4_NoRow : PySem.W.findIn K (.ref C_NoRow) "__getattribute__" = some (some (.builtin "BaseException.__getattribute__"))) (u5_NoRow : PySem.W.findIn K (.ref C_NoRow) "__getattr__" = some none) (u6_NoRow : PySem.W.subIn K (.ref C_NoRow) (.type "BaseException") = some true) (u7_NoRow : PySem.W.hasDictIn K C_NoRow = true) (u8_NoRow : PySem.W.findIn K (.ref C_NoRow) "__class__" = some (some (.builtin "object.__class__"))) (u9_NoRow : PySem.W.mroIn K C_NoRow (.type "object") = some true)
        (uQ_NoRow : PySem.W.excIn K C_NoRow veB "ValueError.__new__" = true)
        {C_NoDeed : Addr} (u1_NoDeed : PySem.W.nsIn K mainGlobals "NoDeed" = some (some (.ref C_NoDeed))) (u2_NoDeed : PySem.W.keepIn K (.ref C_NoDeed) = true) (u3_NoDeed : PySem.W.typeIn K (.ref C_NoDeed) = some (.type "type"))
        (u4_NoDeed : PySem.W.findIn K (.ref C_NoDeed) "__getattribute__" = some (some (.builtin "BaseException.__getattribute__"))) (u5_NoDeed : PySem.W.findIn K (.ref C_NoDeed) "__getattr__" = some none) (u6_NoDeed : PySem.W.subIn K (.ref C_NoDeed) (.type "BaseException") = some true) (u7_NoDeed : PySem.W.hasDictIn K C_NoDeed = true) (u8_NoDeed : PySem.W.findIn K (.ref C_NoDeed) "__class__" = some (some (.builtin "object.__class__"))) (u9_NoDeed : PySem.W.mroIn K C_NoDeed (.type "object") = some true)
        (uQ_NoDeed : PySem.W.excIn K C_NoDeed veB "ValueError.__new__" = true)
        {C_PlyError : Addr} (u1_PlyError : PySem.W.nsIn K mainGlobals "PlyError" = some (some (.ref C_PlyError))) (u2_PlyError : PySem.W.keepIn K (.ref C_PlyError) = true) (u3_PlyError : PySem.W.typeIn K (.ref C_PlyError) = some (.type "type"))
        (u4_PlyError : PySem.W.findIn K (.ref C_PlyError) "__getattribute__" = some (some (.builtin "BaseException.__getattribute__"))) (u5_PlyError : PySem.W.findIn K (.ref C_PlyError) "__getattr__" = some none) (u6_PlyError : PySem.W.subIn K (.ref C_PlyError) (.type "BaseException") = some true) (u7_PlyError : PySem.W.hasDictIn K C_PlyError = true) (u8_PlyError : PySem.W.findIn K (.ref C_PlyError) "__class__" = some (some (.builtin "object.__class__"))) (u9_PlyError : PySem.W.mroIn K C_PlyError (.type "object") = some true)
        {iA_Clash : Addr} {iod_Clash ian_Clash : Option Addr} {isl_Clash : Array (Option Value)} {ioc_Clash ikV_Clash idc_Clash ipm_Clash icd_Clash ict_Clash : Value}
        (w1_Clash : PySem.W.findIn K (.ref C_Clash) "__init__" = some (some (.ref iA_Clash))) (w2_Clash : K.lookup iA_Clash = some ⟨ioc_Clash, iod_Clash, .func (PySem.W.fnOf "__init__" "Clash.__init__" (defArgs si_Clash) (defBody si_Clash) (defScope si_Clash) .none ikV_Clash idc_Clash ipm_Clash ian_Clash icd_Clash ict_Clash), isl_Clash⟩) (w3_Clash : PySem.W.codeIn K icd_Clash "Clash.__init__" = true) (w4_Clash : PySem.W.keepIn K (.ref iA_Clash) = true)
        (w5_Clash : PySem.W.typeIn K (.ref iA_Clash) = some (.type "function")) (w6_Clash : PySem.W.findIn K (.ref C_Clash) "moment" = some none) (w7_Clash : PySem.W.findIn K (.ref C_Clash) "__setattr__" = some (some (.builtin "object.__setattr__"))) {iq1_Clash iq2_Clash : Str} {iN_Clash : Addr} {ibs_Clash isb_Clash : List Value} {isn_Clash : List Str} {iab_Clash : Bool} {icol_Clash : Option Bool} {idd_Clash : Option Addr} {im0_Clash im1_Clash im2_Clash im3_Clash im5_Clash : Option Value} (w8_Clash : K.lookup C_Clash = some (excClassObj iq1_Clash iq2_Clash C_Clash iN_Clash ibs_Clash [.ref C_PlyError, .type "ValueError", .type "Exception", .type "BaseException", .type "object"] true isn_Clash isb_Clash iab_Clash icol_Clash idd_Clash im0_Clash im1_Clash im2_Clash im3_Clash im5_Clash "ValueError.__new__"))
        (w9_Clash : PySem.W.readsIn K C_PlyError (.type "type") = true) (wA_Clash : PySem.W.specialIn K (.ref C_PlyError) "__getattribute__" = some (some (.builtin "type.__getattribute__"))) (wB_Clash : PySem.W.findCls K (.ref C_PlyError) (.type "type") "__init__" = some (.val (.builtin "ValueError.__init__")))
        (un : PySem.W.specialIn K (.builtin "object.__class__") "__get__" = some (some (.builtin "getset_descriptor.__get__"))) (ut : PySem.W.takesIn K (.builtin "object.__class__") = some true)
        (uS_NoDeed_NoPlaces : PySem.W.subIn K (.ref C_NoDeed) (.ref C_NoPlaces) = some false)
        (uS_NoDeed_NoDeed : PySem.W.subIn K (.ref C_NoDeed) (.ref C_NoDeed) = some true)
        (uS_NoRow_NoPlaces : PySem.W.subIn K (.ref C_NoRow) (.ref C_NoPlaces) = some false)
        (uS_NoRow_NoRow : PySem.W.subIn K (.ref C_NoRow) (.ref C_NoRow) = some true)
        (uS_NoPaper_NoPlaces : PySem.W.subIn K (.ref C_NoPaper) (.ref C_NoPlaces) = some false)
        (uS_NoPaper_NoPaper : PySem.W.subIn K (.ref C_NoPaper) (.ref C_NoPaper) = some true)
        (uS_NoText_NoPlaces : PySem.W.subIn K (.ref C_NoText) (.ref C_NoPlaces) = some false)
        (uS_NoText_NoText : PySem.W.subIn K (.ref C_NoText) (.ref C_NoText) = some true)
        (uS_Unlike_NoPlaces : PySem.W.subIn K (.ref C_Unlike) (.ref C_NoPlaces) = some false)
        (uS_Unlike_Unlike : PySem.W.subIn K (.ref C_Unlike) (.ref C_Unlike) = some true)
        (uS_NoNet_NoPlaces : PySem.W.subIn K (.ref C_NoNet) (.ref C_NoPlaces) = some false)
        (uS_NoNet_NoNet : PySem.W.subIn K (.ref C_NoNet) (.ref C_NoNet) = some true)
        (uS_NoPair_NoPlaces : PySem.W.subIn K (.ref C_NoPair) (.ref C_NoPlaces) = some false)
        (uS_NoPair_NoPair : PySem.W.subIn K (.ref C_NoPair) (.ref C_NoPair) = some true)
        (uS_NoLayers_NoPlaces : PySem.W.subIn K (.ref C_NoLayers) (.ref C_NoPlaces) = some false)
        (uS_NoLayers_NoLayers : PySem.W.subIn K (.ref C_NoLayers) (.ref C_NoLayers) = some true)
        (uS_Clash_NoPlaces : PySem.W.subIn K (.ref C_Clash) (.ref C_NoPlaces) = some false)
        (uS_Clash_Clash : PySem.W.subIn K (.ref C_Clash) (.ref C_Clash) = some true)
        (uS_NoTies_NoPlaces : PySem.W.subIn K (.ref C_NoTies) (.ref C_NoPlaces) = some false)
        (uS_NoTies_NoTies : PySem.W.subIn K (.ref C_NoTies) (.ref C_NoTies) = some true)
        (uS_NoPlaces_NoPlaces : PySem.W.subIn K (.ref C_NoPlaces) (.ref C_NoPlaces) = some true)
        (uS_NoDeed_NoTies : PySem.W.subIn K (.ref C_NoDeed) (.ref C_NoTies) = some false)
        (uS_NoRow_NoTies : PySem.W.subIn K (.ref C_NoRow) (.ref C_NoTies) = some false)
        (uS_NoPaper_NoTies : PySem.W.subIn K (.ref C_NoPaper) (.ref C_NoTies) = some false)
        (uS_NoText_NoTies : PySem.W.subIn K (.ref C_NoText) (.ref C_NoTies) = some false)
        (uS_Unlike_NoTies : PySem.W.subIn K (.ref C_Unlike) (.ref C_NoTies) = some false)
        (uS_NoNet_NoTies : PySem.W.subIn K (.ref C_NoNet) (.ref C_NoTies) = some false)
        (uS_NoPair_NoTies : PySem.W.subIn K (.ref C_NoPair) (.ref C_NoTies) = some false)
        (uS_NoLayers_NoTies : PySem.W.subIn K (.ref C_NoLayers) (.ref C_NoTies) = some false)
        (uS_Clash_NoTies : PySem.W.subIn K (.ref C_Clash) (.ref C_NoTies) = some false)
        (uS_NoPlaces_NoTies : PySem.W.subIn K (.ref C_NoPlaces) (.ref C_NoTies) = some false)
        (uS_NoDeed_Clash : PySem.W.subIn K (.ref C_NoDeed) (.ref C_Clash) = some false)
        (uS_NoRow_Clash : PySem.W.subIn K (.ref C_NoRow) (.ref C_Clash) = some false)
        (uS_NoPaper_Clash : PySem.W.subIn K (.ref C_NoPaper) (.ref C_Clash) = some false)
        (uS_NoText_Clash : PySem.W.subIn K (.ref C_NoText) (.ref C_Clash) = some false)
        (uS_Unlike_Clash : PySem.W.subIn K (.ref C_Unlike) (.ref C_Clash) = some false)
        (uS_NoNet_Clash : PySem.W.subIn K (.ref C_NoNet) (.ref C_Clash) = some false)
        (uS_NoPair_Clash : PySem.W.subIn K (.ref C_NoPair) (.ref C_Clash) = some false)
        (uS_NoLayers_Clash : PySem.W.subIn K (.ref C_NoLayers) (.ref C_Clash) = some false)
        (uS_NoTies_Clash : PySem.W.subIn K (.ref C_NoTies) (.ref C_Clash) = some false)
        (uS_NoPlaces_Clash : PySem.W.subIn K (.ref C_NoPlaces) (.ref C_Clash) = some false)
        (uS_NoDeed_NoLayers : PySem.W.subIn K (.ref C_NoDeed) (.ref C_NoLayers) = some false)
        (uS_NoRow_NoLayers : PySem.W.subIn K (.ref C_NoRow) (.ref C_NoLayers) = some false)
        (uS_NoPaper_NoLayers : PySem.W.subIn K (.ref C_NoPaper) (.ref C_NoLayers) = some false)
        (uS_NoText_NoLayers : PySem.W.subIn K (.ref C_NoText) (.ref C_NoLayers) = some false)
        (uS_Unlike_NoLayers : PySem.W.subIn K (.ref C_Unlike) (.ref C_NoLayers) = some false)
        (uS_NoNet_NoLayers : PySem.W.subIn K (.ref C_NoNet) (.ref C_NoLayers) = some false)
        (uS_NoPair_NoLayers : PySem.W.subIn K (.ref C_NoPair) (.ref C_NoLayers) = some false)
        (uS_Clash_NoLayers : PySem.W.subIn K (.ref C_Clash) (.ref C_NoLayers) = some false)
        (uS_NoTies_NoLayers : PySem.W.subIn K (.ref C_NoTies) (.ref C_NoLayers) = some false)
        (uS_NoPlaces_NoLayers : PySem.W.subIn K (.ref C_NoPlaces) (.ref C_NoLayers) = some false)
        (uS_NoDeed_NoPair : PySem.W.subIn K (.ref C_NoDeed) (.ref C_NoPair) = some false)
        (uS_NoRow_NoPair : PySem.W.subIn K (.ref C_NoRow) (.ref C_NoPair) = some false)
        (uS_NoPaper_NoPair : PySem.W.subIn K (.ref C_NoPaper) (.ref C_NoPair) = some false)
        (uS_NoText_NoPair : PySem.W.subIn K (.ref C_NoText) (.ref C_NoPair) = some false)
        (uS_Unlike_NoPair : PySem.W.subIn K (.ref C_Unlike) (.ref C_NoPair) = some false)
        (uS_NoNet_NoPair : PySem.W.subIn K (.ref C_NoNet) (.ref C_NoPair) = some false)
        (uS_NoLayers_NoPair : PySem.W.subIn K (.ref C_NoLayers) (.ref C_NoPair) = some false)
        (uS_Clash_NoPair : PySem.W.subIn K (.ref C_Clash) (.ref C_NoPair) = some false)
        (uS_NoTies_NoPair : PySem.W.subIn K (.ref C_NoTies) (.ref C_NoPair) = some false)
        (uS_NoPlaces_NoPair : PySem.W.subIn K (.ref C_NoPlaces) (.ref C_NoPair) = some false)
        (uS_NoDeed_NoNet : PySem.W.subIn K (.ref C_NoDeed) (.ref C_NoNet) = some false)
        (uS_NoRow_NoNet : PySem.W.subIn K (.ref C_NoRow) (.ref C_NoNet) = some false)
        (uS_NoPaper_NoNet : PySem.W.subIn K (.ref C_NoPaper) (.ref C_NoNet) = some false)
        (uS_NoText_NoNet : PySem.W.subIn K (.ref C_NoText) (.ref C_NoNet) = some false)
        (uS_Unlike_NoNet : PySem.W.subIn K (.ref C_Unlike) (.ref C_NoNet) = some false)
        (uS_NoPair_NoNet : PySem.W.subIn K (.ref C_NoPair) (.ref C_NoNet) = some false)
        (uS_NoLayers_NoNet : PySem.W.subIn K (.ref C_NoLayers) (.ref C_NoNet) = some false)
        (uS_Clash_NoNet : PySem.W.subIn K (.ref C_Clash) (.ref C_NoNet) = some false)
        (uS_NoTies_NoNet : PySem.W.subIn K (.ref C_NoTies) (.ref C_NoNet) = some false)
        (uS_NoPlaces_NoNet : PySem.W.subIn K (.ref C_NoPlaces) (.ref C_NoNet) = some false)
        (uS_NoDeed_Unlike : PySem.W.subIn K (.ref C_NoDeed) (.ref C_Unlike) = some false)
        (uS_NoRow_Unlike : PySem.W.subIn K (.ref C_NoRow) (.ref C_Unlike) = some false)
        (uS_NoPaper_Unlike : PySem.W.subIn K (.ref C_NoPaper) (.ref C_Unlike) = some false)
        (uS_NoText_Unlike : PySem.W.subIn K (.ref C_NoText) (.ref C_Unlike) = some false)
        (uS_NoNet_Unlike : PySem.W.subIn K (.ref C_NoNet) (.ref C_Unlike) = some false)
        (uS_NoPair_Unlike : PySem.W.subIn K (.ref C_NoPair) (.ref C_Unlike) = some false)
        (uS_NoLayers_Unlike : PySem.W.subIn K (.ref C_NoLayers) (.ref C_Unlike) = some false)
        (uS_Clash_Unlike : PySem.W.subIn K (.ref C_Clash) (.ref C_Unlike) = some false)
        (uS_NoTies_Unlike : PySem.W.subIn K (.ref C_NoTies) (.ref C_Unlike) = some false)
        (uS_NoPlaces_Unlike : PySem.W.subIn K (.ref C_NoPlaces) (.ref C_Unlike) = some false)
        (uS_NoDeed_NoText : PySem.W.subIn K (.ref C_NoDeed) (.ref C_NoText) = some false)
        (uS_NoRow_NoText : PySem.W.subIn K (.ref C_NoRow) (.ref C_NoText) = some false)
        (uS_NoPaper_NoText : PySem.W.subIn K (.ref C_NoPaper) (.ref C_NoText) = some false)
        (uS_Unlike_NoText : PySem.W.subIn K (.ref C_Unlike) (.ref C_NoText) = some false)
        (uS_NoNet_NoText : PySem.W.subIn K (.ref C_NoNet) (.ref C_NoText) = some false)
        (uS_NoPair_NoText : PySem.W.subIn K (.ref C_NoPair) (.ref C_NoText) = some false)
        (uS_NoLayers_NoText : PySem.W.subIn K (.ref C_NoLayers) (.ref C_NoText) = some false)
        (uS_Clash_NoText : PySem.W.subIn K (.ref C_Clash) (.ref C_NoText) = some false)
        (uS_NoTies_NoText : PySem.W.subIn K (.ref C_NoTies) (.ref C_NoText) = some false)
        (uS_NoPlaces_NoText : PySem.W.subIn K (.ref C_NoPlaces) (.ref C_NoText) = some false)
        (uS_NoDeed_NoPaper : PySem.W.subIn K (.ref C_NoDeed) (.ref C_NoPaper) = some false)
        (uS_NoRow_NoPaper : PySem.W.subIn K (.ref C_NoRow) (.ref C_NoPaper) = some false)
        (uS_NoText_NoPaper : PySem.W.subIn K (.ref C_NoText) (.ref C_NoPaper) = some false)
        (uS_Unlike_NoPaper : PySem.W.subIn K (.ref C_Unlike) (.ref C_NoPaper) = some false)
        (uS_NoNet_NoPaper : PySem.W.subIn K (.ref C_NoNet) (.ref C_NoPaper) = some false)
        (uS_NoPair_NoPaper : PySem.W.subIn K (.ref C_NoPair) (.ref C_NoPaper) = some false)
        (uS_NoLayers_NoPaper : PySem.W.subIn K (.ref C_NoLayers) (.ref C_NoPaper) = some false)
        (uS_Clash_NoPaper : PySem.W.subIn K (.ref C_Clash) (.ref C_NoPaper) = some false)
        (uS_NoTies_NoPaper : PySem.W.subIn K (.ref C_NoTies) (.ref C_NoPaper) = some false)
        (uS_NoPlaces_NoPaper : PySem.W.subIn K (.ref C_NoPlaces) (.ref C_NoPaper) = some false)
        (uS_NoDeed_NoRow : PySem.W.subIn K (.ref C_NoDeed) (.ref C_NoRow) = some false)
        (uS_NoPaper_NoRow : PySem.W.subIn K (.ref C_NoPaper) (.ref C_NoRow) = some false)
        (uS_NoText_NoRow : PySem.W.subIn K (.ref C_NoText) (.ref C_NoRow) = some false)
        (uS_Unlike_NoRow : PySem.W.subIn K (.ref C_Unlike) (.ref C_NoRow) = some false)
        (uS_NoNet_NoRow : PySem.W.subIn K (.ref C_NoNet) (.ref C_NoRow) = some false)
        (uS_NoPair_NoRow : PySem.W.subIn K (.ref C_NoPair) (.ref C_NoRow) = some false)
        (uS_NoLayers_NoRow : PySem.W.subIn K (.ref C_NoLayers) (.ref C_NoRow) = some false)
        (uS_Clash_NoRow : PySem.W.subIn K (.ref C_Clash) (.ref C_NoRow) = some false)
        (uS_NoTies_NoRow : PySem.W.subIn K (.ref C_NoTies) (.ref C_NoRow) = some false)
        (uS_NoPlaces_NoRow : PySem.W.subIn K (.ref C_NoPlaces) (.ref C_NoRow) = some false)
        (uS_NoRow_NoDeed : PySem.W.subIn K (.ref C_NoRow) (.ref C_NoDeed) = some false)
        (uS_NoPaper_NoDeed : PySem.W.subIn K (.ref C_NoPaper) (.ref C_NoDeed) = some false)
        (uS_NoText_NoDeed : PySem.W.subIn K (.ref C_NoText) (.ref C_NoDeed) = some false)
        (uS_Unlike_NoDeed : PySem.W.subIn K (.ref C_Unlike) (.ref C_NoDeed) = some false)
        (uS_NoNet_NoDeed : PySem.W.subIn K (.ref C_NoNet) (.ref C_NoDeed) = some false)
        (uS_NoPair_NoDeed : PySem.W.subIn K (.ref C_NoPair) (.ref C_NoDeed) = some false)
        (uS_NoLayers_NoDeed : PySem.W.subIn K (.ref C_NoLayers) (.ref C_NoDeed) = some false)
        (uS_Clash_NoDeed : PySem.W.subIn K (.ref C_Clash) (.ref C_NoDeed) = some false)
        (uS_NoTies_NoDeed : PySem.W.subIn K (.ref C_NoTies) (.ref C_NoDeed) = some false)
        (uS_NoPlaces_NoDeed : PySem.W.subIn K (.ref C_NoPlaces) (.ref C_NoDeed) = some false)
        (uS_NoDeed_PlyError : PySem.W.subIn K (.ref C_NoDeed) (.ref C_PlyError) = some true)
        (uS_NoRow_PlyError : PySem.W.subIn K (.ref C_NoRow) (.ref C_PlyError) = some true)
        (uS_NoPaper_PlyError : PySem.W.subIn K (.ref C_NoPaper) (.ref C_PlyError) = some true)
        (uS_NoText_PlyError : PySem.W.subIn K (.ref C_NoText) (.ref C_PlyError) = some true)
        (uS_Unlike_PlyError : PySem.W.subIn K (.ref C_Unlike) (.ref C_PlyError) = some true)
        (uS_NoNet_PlyError : PySem.W.subIn K (.ref C_NoNet) (.ref C_PlyError) = some true)
        (uS_NoPair_PlyError : PySem.W.subIn K (.ref C_NoPair) (.ref C_PlyError) = some true)
        (uS_NoLayers_PlyError : PySem.W.subIn K (.ref C_NoLayers) (.ref C_PlyError) = some true)
        (uS_Clash_PlyError : PySem.W.subIn K (.ref C_Clash) (.ref C_PlyError) = some true)
        (uS_NoTies_PlyError : PySem.W.subIn K (.ref C_NoTies) (.ref C_PlyError) = some true)
        (uS_NoPlaces_PlyError : PySem.W.subIn K (.ref C_NoPlaces) (.ref C_PlyError) = some true)
        (uS_NoDeed_ValueError : PySem.W.subIn K (.ref C_NoDeed) (.type "ValueError") = some true)
        (uS_NoRow_ValueError : PySem.W.subIn K (.ref C_NoRow) (.type "ValueError") = some true)
        (uS_NoPaper_ValueError : PySem.W.subIn K (.ref C_NoPaper) (.type "ValueError") = some true)
        (uS_NoText_ValueError : PySem.W.subIn K (.ref C_NoText) (.type "ValueError") = some true)
        (uS_Unlike_ValueError : PySem.W.subIn K (.ref C_Unlike) (.type "ValueError") = some true)
        (uS_NoNet_ValueError : PySem.W.subIn K (.ref C_NoNet) (.type "ValueError") = some true)
        (uS_NoPair_ValueError : PySem.W.subIn K (.ref C_NoPair) (.type "ValueError") = some true)
        (uS_NoLayers_ValueError : PySem.W.subIn K (.ref C_NoLayers) (.type "ValueError") = some true)
        (uS_Clash_ValueError : PySem.W.subIn K (.ref C_Clash) (.type "ValueError") = some true)
        (uS_NoTies_ValueError : PySem.W.subIn K (.ref C_NoTies) (.type "ValueError") = some true)
        (uS_NoPlaces_ValueError : PySem.W.subIn K (.ref C_NoPlaces) (.type "ValueError") = some true) :
    ∃ fd : FuncData, (∀ (s : Shared) (v : Value), BindsTo s fd ⟨[v], []⟩ [("script", v)]) ∧ ∀ base : Heap, K.In base → base.Ns mainGlobals mg → FnOk l.prog w K mg base CX0 6 fa fd ["script"] (spG K mg 1 f_law) := by
  have e := hfa.symm.trans (PySem.W.mg_of X G a17)
  cases e
  exact ⟨_, fun s v => .of_eq rfl, fun base _ _ => ok_law (mkTx X G a0 l0 c0 k0 a1 l1 c1 k1 a2 l2 c2 k2 a3 l3 c3 k3 a4 l4 c4 k4 a5 l5 c5 k5 a6 l6 c6 k6 a7 l7 c7 k7 a8 l8 c8 k8 a9 l9 c9 k9 a10 l10 c10 k10 a11 l11 c11 k11 a12 l12 c12 k12 a13 l13 c13 k13 a14 l14 c14 k14 a15 l15 c15 k15 a16 l16 c16 k16 a17 l17 c17 k17 z_isinstance z_int z_bool z_tuple z_len z_list z_all z_min z_max z_sorted z_range z_ValueError y_MOST_PLACES y_LAST_MOMENT y_MOST_TIES u1_NoPlaces u2_NoPlaces u3_NoPlaces u4_NoPlaces u5_NoPlaces u6_NoPlaces u7_NoPlaces u8_NoPlaces u9_NoPlaces uQ_NoPlaces u1_NoTies u2_NoTies u3_NoTies u4_NoTies u5_NoTies u6_NoTies u7_NoTies u8_NoTies u9_NoTies uQ_NoTies u1_Clash u2_Clash u3_Clash u4_Clash u5_Clash u6_Clash u7_Clash u8_Clash u9_Clash u1_NoLayers u2_NoLayers u3_NoLayers u4_NoLayers u5_NoLayers u6_NoLayers u7_NoLayers u8_NoLayers u9_NoLayers uQ_NoLayers u1_NoPair u2_NoPair u3_NoPair u4_NoPair u5_NoPair u6_NoPair u7_NoPair u8_NoPair u9_NoPair uQ_NoPair u1_NoNet u2_NoNet u3_NoNet u4_NoNet u5_NoNet u6_NoNet u7_NoNet u8_NoNet u9_NoNet uQ_NoNet u1_Unlike u2_Unlike u3_Unlike u4_Unlike u5_Unlike u6_Unlike u7_Unlike u8_Unlike u9_Unlike uQ_Unlike u1_NoText u2_NoText u3_NoText u4_NoText u5_NoText u6_NoText u7_NoText u8_NoText u9_NoText uQ_NoText u1_NoPaper u2_NoPaper u3_NoPaper u4_NoPaper u5_NoPaper u6_NoPaper u7_NoPaper u8_NoPaper u9_NoPaper uQ_NoPaper u1_NoRow u2_NoRow u3_NoRow u4_NoRow u5_NoRow u6_NoRow u7_NoRow u8_NoRow u9_NoRow uQ_NoRow u1_NoDeed u2_NoDeed u3_NoDeed u4_NoDeed u5_NoDeed u6_NoDeed u7_NoDeed u8_NoDeed u9_NoDeed uQ_NoDeed u1_PlyError u2_PlyError u3_PlyError u4_PlyError u5_PlyError u6_PlyError u7_PlyError u8_PlyError u9_PlyError w1_Clash w2_Clash w3_Clash w4_Clash w5_Clash w6_Clash w7_Clash w8_Clash w9_Clash wA_Clash wB_Clash un ut uS_NoDeed_NoPlaces uS_NoDeed_NoDeed uS_NoRow_NoPlaces uS_NoRow_NoRow uS_NoPaper_NoPlaces uS_NoPaper_NoPaper uS_NoText_NoPlaces uS_NoText_NoText uS_Unlike_NoPlaces uS_Unlike_Unlike uS_NoNet_NoPlaces uS_NoNet_NoNet uS_NoPair_NoPlaces uS_NoPair_NoPair uS_NoLayers_NoPlaces uS_NoLayers_NoLayers uS_Clash_NoPlaces uS_Clash_Clash uS_NoTies_NoPlaces uS_NoTies_NoTies uS_NoPlaces_NoPlaces uS_NoDeed_NoTies uS_NoRow_NoTies uS_NoPaper_NoTies uS_NoText_NoTies uS_Unlike_NoTies uS_NoNet_NoTies uS_NoPair_NoTies uS_NoLayers_NoTies uS_Clash_NoTies uS_NoPlaces_NoTies uS_NoDeed_Clash uS_NoRow_Clash uS_NoPaper_Clash uS_NoText_Clash uS_Unlike_Clash uS_NoNet_Clash uS_NoPair_Clash uS_NoLayers_Clash uS_NoTies_Clash uS_NoPlaces_Clash uS_NoDeed_NoLayers uS_NoRow_NoLayers uS_NoPaper_NoLayers uS_NoText_NoLayers uS_Unlike_NoLayers uS_NoNet_NoLayers uS_NoPair_NoLayers uS_Clash_NoLayers uS_NoTies_NoLayers uS_NoPlaces_NoLayers uS_NoDeed_NoPair uS_NoRow_NoPair uS_NoPaper_NoPair uS_NoText_NoPair uS_Unlike_NoPair uS_NoNet_NoPair uS_NoLayers_NoPair uS_Clash_NoPair uS_NoTies_NoPair uS_NoPlaces_NoPair uS_NoDeed_NoNet uS_NoRow_NoNet uS_NoPaper_NoNet uS_NoText_NoNet uS_Unlike_NoNet uS_NoPair_NoNet uS_NoLayers_NoNet uS_Clash_NoNet uS_NoTies_NoNet uS_NoPlaces_NoNet uS_NoDeed_Unlike uS_NoRow_Unlike uS_NoPaper_Unlike uS_NoText_Unlike uS_NoNet_Unlike uS_NoPair_Unlike uS_NoLayers_Unlike uS_Clash_Unlike uS_NoTies_Unlike uS_NoPlaces_Unlike uS_NoDeed_NoText uS_NoRow_NoText uS_NoPaper_NoText uS_Unlike_NoText uS_NoNet_NoText uS_NoPair_NoText uS_NoLayers_NoText uS_Clash_NoText uS_NoTies_NoText uS_NoPlaces_NoText uS_NoDeed_NoPaper uS_NoRow_NoPaper uS_NoText_NoPaper uS_Unlike_NoPaper uS_NoNet_NoPaper uS_NoPair_NoPaper uS_NoLayers_NoPaper uS_Clash_NoPaper uS_NoTies_NoPaper uS_NoPlaces_NoPaper uS_NoDeed_NoRow uS_NoPaper_NoRow uS_NoText_NoRow uS_Unlike_NoRow uS_NoNet_NoRow uS_NoPair_NoRow uS_NoLayers_NoRow uS_Clash_NoRow uS_NoTies_NoRow uS_NoPlaces_NoRow uS_NoRow_NoDeed uS_NoPaper_NoDeed uS_NoText_NoDeed uS_Unlike_NoDeed uS_NoNet_NoDeed uS_NoPair_NoDeed uS_NoLayers_NoDeed uS_Clash_NoDeed uS_NoTies_NoDeed uS_NoPlaces_NoDeed uS_NoDeed_PlyError uS_NoRow_PlyError uS_NoPaper_PlyError uS_NoText_PlyError uS_Unlike_PlyError uS_NoNet_PlyError uS_NoPair_PlyError uS_NoLayers_PlyError uS_Clash_PlyError uS_NoTies_PlyError uS_NoPlaces_PlyError uS_NoDeed_ValueError uS_NoRow_ValueError uS_NoPaper_ValueError uS_NoText_ValueError uS_Unlike_ValueError uS_NoNet_ValueError uS_NoPair_ValueError uS_NoLayers_ValueError uS_Clash_ValueError uS_NoTies_ValueError uS_NoPlaces_ValueError)⟩
end
end K02
end T_K02
section T_FamAP
set_option linter.all false
set_option maxRecDepth 100000
namespace FamA
open PySem Sim
abbrev B30 : Int := 1000000000000000000000000000000
theorem mixed_ok (cell k : Int) : ∃ z, f_l_mixed [.int cell, .int k] = .ok (.int z) ∧ 0 ≤ z ∧ z < 2147483647 := by
  unfold f_l_mixed fnN g_l_mixed
  simp (disch := omega) only [bnd_ok, gVar_def, gC_def, gOp_def, gUn_def, gNil_def, gCons_def, gIf_def, gTest_def, gNot_def, gAnd_def, gOr_def, gAndV_def, gOrV_def, gNotV_def, gCB_def, asB_b, hAdd_i, hSub_i, hLt_i, hLe_i, hGt_i, hGe_i, hMul_r, hMul_l, hMod_i, hDiv_s, hBand_i, hShr_i, hPow_10_18, hPow_10_27, hPow_10_28, hPow_10_29, hPow_10_30, hEq_i, hNe_i, hLen_l, hLen_t, hMin2_i, hMax2_i, hMin3_i, hInt1_b, hInt1_i, hBits_i, hListOf_l, hListOf_t, hTupOf_l, hTupOf_t, gSeqS_def, gSet_def, gRet_def, gIfS_def, gNext_def, gTup_def, gLst_def, List.getElem?_cons_zero, List.getElem?_cons_succ, List.set_cons_zero, List.set_cons_succ, List.length_cons, List.length_nil, Nat.zero_add, Nat.reduceAdd, Nat.reduceLeDiff, Nat.reduceSub, Nat.reduceMul, if_true, if_false, Bool.false_eq_true, List.replicate_succ, List.replicate_zero, List.cons_append, List.nil_append, tgN, tgT, tgCons, tgNil, Int.reducePow, Int.reduceAdd, Int.reduceSub, Int.reduceMul, decide_true, decide_false, Bool.not_true, Bool.not_false, gChain_def, hIsa_int, hIsa_intb, hIsa_list, hIsa_tuple, gDrop_def]
  exact ⟨_, rfl, by omega, by omega⟩
theorem ends_ok (n kind one other : Int) (hn : 1 ≤ n) : ∃ a b, f_l_ends [.int n, .int kind, .int one, .int other] = .ok (.tuple [.int a, .int b]) ∧ 0 ≤ a ∧ a < n ∧ 0 ≤ b ∧ b < n := by
  unfold f_l_ends fnN g_l_ends
  have m0 := fun x : Int => Int.emod_nonneg x (show n ≠ 0 by omega)
  have m1 := fun x : Int => Int.emod_lt_of_pos x (show 0 < n by omega)
  by_cases h0 : kind = 0
  · subst h0
    simp (disch := omega) only [bnd_ok, gVar_def, gC_def, gOp_def, gUn_def, gNil_def, gCons_def, gIf_def, gTest_def, gNot_def, gAnd_def, gOr_def, gAndV_def, gOrV_def, gNotV_def, gCB_def, asB_b, hAdd_i, hSub_i, hLt_i, hLe_i, hGt_i, hGe_i, hMul_r, hMul_l, hMod_i, hDiv_s, hBand_i, hShr_i, hPow_10_18, hPow_10_27, hPow_10_28, hPow_10_29, hPow_10_30, hEq_i, hNe_i, hLen_l, hLen_t, hMin2_i, hMax2_i, hMin3_i, hInt1_b, hInt1_i, hBits_i, hListOf_l, hListOf_t, hTupOf_l, hTupOf_t, gSeqS_def, gSet_def, gRet_def, gIfS_def, gNext_def, gTup_def, gLst_def, List.getElem?_cons_zero, List.getElem?_cons_succ, List.set_cons_zero, List.set_cons_succ, List.length_cons, List.length_nil, Nat.zero_add, Nat.reduceAdd, Nat.reduceLeDiff, Nat.reduceSub, Nat.reduceMul, if_true, if_false, Bool.false_eq_true, List.replicate_succ, List.replicate_zero, List.cons_append, List.nil_append, tgN, tgT, tgCons, tgNil, Int.reducePow, Int.reduceAdd, Int.reduceSub, Int.reduceMul, decide_true, decide_false, Bool.not_true, Bool.not_false, gChain_def, hIsa_int, hIsa_intb, hIsa_list, hIsa_tuple, gDrop_def, beq_self_eq_true]
    exact ⟨_, _, rfl, m0 _, m1 _, m0 _, m1 _⟩
  · have e0 : (kind == 0) = false := beq_eq_false_iff_ne.mpr h0
    by_cases h1 : kind = 1
    · subst h1
      have q3 : 0 < (if (3 : Int) < n then 3 else n) := by split <;> omega
      have q2 : 0 < (if (2 : Int) < n then 2 else n) := by split <;> omega
      have q3' : (if (3 : Int) < n then 3 else n) ≤ n := by split <;> omega
      have q2' : (if (2 : Int) < n then 2 else n) ≤ n := by split <;> omega
      have p0 := Int.emod_nonneg one (show (if (3 : Int) < n then 3 else n) ≠ 0 by omega)
      have p1 := Int.emod_lt_of_pos one q3
      have p2 := Int.emod_nonneg other (show (if (2 : Int) < n then 2 else n) ≠ 0 by omega)
      have p3 := Int.emod_lt_of_pos other q2
      simp (disch := first | assumption | omega) only [bnd_ok, gVar_def, gC_def, gOp_def, gUn_def, gNil_def, gCons_def, gIf_def, gTest_def, gNot_def, gAnd_def, gOr_def, gAndV_def, gOrV_def, gNotV_def, gCB_def, asB_b, hAdd_i, hSub_i, hLt_i, hLe_i, hGt_i, hGe_i, hMul_r, hMul_l, hMod_i, hDiv_s, hBand_i, hShr_i, hPow_10_18, hPow_10_27, hPow_10_28, hPow_10_29, hPow_10_30, hEq_i, hNe_i, hLen_l, hLen_t, hMin2_i, hMax2_i, hMin3_i, hInt1_b, hInt1_i, hBits_i, hListOf_l, hListOf_t, hTupOf_l, hTupOf_t, gSeqS_def, gSet_def, gRet_def, gIfS_def, gNext_def, gTup_def, gLst_def, List.getElem?_cons_zero, List.getElem?_cons_succ, List.set_cons_zero, List.set_cons_succ, List.length_cons, List.length_nil, Nat.zero_add, Nat.reduceAdd, Nat.reduceLeDiff, Nat.reduceSub, Nat.reduceMul, if_true, if_false, Bool.false_eq_true, List.replicate_succ, List.replicate_zero, List.cons_append, List.nil_append, tgN, tgT, tgCons, tgNil, Int.reducePow, Int.reduceAdd, Int.reduceSub, Int.reduceMul, decide_true, decide_false, Bool.not_true, Bool.not_false, gChain_def, hIsa_int, hIsa_intb, hIsa_list, hIsa_tuple, gDrop_def, beq_self_eq_true, e0]
      exact ⟨_, _, rfl, p0, Int.lt_of_lt_of_le p1 q3', p2, Int.lt_of_lt_of_le p3 q2'⟩
    · have e1 : (kind == 1) = false := beq_eq_false_iff_ne.mpr h1
      by_cases h2 : kind = 2
      · subst h2
        simp (disch := omega) only [bnd_ok, gVar_def, gC_def, gOp_def, gUn_def, gNil_def, gCons_def, gIf_def, gTest_def, gNot_def, gAnd_def, gOr_def, gAndV_def, gOrV_def, gNotV_def, gCB_def, asB_b, hAdd_i, hSub_i, hLt_i, hLe_i, hGt_i, hGe_i, hMul_r, hMul_l, hMod_i, hDiv_s, hBand_i, hShr_i, hPow_10_18, hPow_10_27, hPow_10_28, hPow_10_29, hPow_10_30, hEq_i, hNe_i, hLen_l, hLen_t, hMin2_i, hMax2_i, hMin3_i, hInt1_b, hInt1_i, hBits_i, hListOf_l, hListOf_t, hTupOf_l, hTupOf_t, gSeqS_def, gSet_def, gRet_def, gIfS_def, gNext_def, gTup_def, gLst_def, List.getElem?_cons_zero, List.getElem?_cons_succ, List.set_cons_zero, List.set_cons_succ, List.length_cons, List.length_nil, Nat.zero_add, Nat.reduceAdd, Nat.reduceLeDiff, Nat.reduceSub, Nat.reduceMul, if_true, if_false, Bool.false_eq_true, List.replicate_succ, List.replicate_zero, List.cons_append, List.nil_append, tgN, tgT, tgCons, tgNil, Int.reducePow, Int.reduceAdd, Int.reduceSub, Int.reduceMul, decide_true, decide_false, Bool.not_true, Bool.not_false, gChain_def, hIsa_int, hIsa_intb, hIsa_list, hIsa_tuple, gDrop_def, beq_self_eq_true, e0, e1]
        exact ⟨_, _, rfl, m0 _, m1 _, m0 _, m1 _⟩
      · have e2 : (kind == 2) = false := beq_eq_false_iff_ne.mpr h2
        simp (disch := omega) only [bnd_ok, gVar_def, gC_def, gOp_def, gUn_def, gNil_def, gCons_def, gIf_def, gTest_def, gNot_def, gAnd_def, gOr_def, gAndV_def, gOrV_def, gNotV_def, gCB_def, asB_b, hAdd_i, hSub_i, hLt_i, hLe_i, hGt_i, hGe_i, hMul_r, hMul_l, hMod_i, hDiv_s, hBand_i, hShr_i, hPow_10_18, hPow_10_27, hPow_10_28, hPow_10_29, hPow_10_30, hEq_i, hNe_i, hLen_l, hLen_t, hMin2_i, hMax2_i, hMin3_i, hInt1_b, hInt1_i, hBits_i, hListOf_l, hListOf_t, hTupOf_l, hTupOf_t, gSeqS_def, gSet_def, gRet_def, gIfS_def, gNext_def, gTup_def, gLst_def, List.getElem?_cons_zero, List.getElem?_cons_succ, List.set_cons_zero, List.set_cons_succ, List.length_cons, List.length_nil, Nat.zero_add, Nat.reduceAdd, Nat.reduceLeDiff, Nat.reduceSub, Nat.reduceMul, if_true, if_false, Bool.false_eq_true, List.replicate_succ, List.replicate_zero, List.cons_append, List.nil_append, tgN, tgT, tgCons, tgNil, Int.reducePow, Int.reduceAdd, Int.reduceSub, Int.reduceMul, decide_true, decide_false, Bool.not_true, Bool.not_false, gChain_def, hIsa_int, hIsa_intb, hIsa_list, hIsa_tuple, gDrop_def, e0, e1, e2]
        exact ⟨_, _, rfl, m0 _, m1 _, m0 _, m1 _⟩
theorem bits30 : Builtin.Int.intBits 1000000000000000000000000000000 = 100 := by decide +kernel
def wB : Gs := gSeqS (gSet 6 (gOp hAdd (gOp hMul (gVar 6) (gC (.int (2147483647)))) (gCallN 2 f_l_mixed (gCons (gVar 0) (gCons (gOp hAdd (gOp hMul (gC (.int (8))) (gVar 5)) (gVar 7)) (gNil)))))) (gSet 7 (gOp hAdd (gVar 7) (gC (.int (1)))))
def wT : List Dt → O Bool := gTest (gOp hLt (gOp hMul (gVar 7) (gC (.int (30)))) (gOp hAdd (gUn hBits (gVar 2)) (gC (.int (8)))))
theorem wB_ok (c k x t : Int) (a f l : Dt) : ∃ y, wB [.int c, a, .int B30, f, l, .int k, .int x, .int t] = .ok (.nx [.int c, a, .int B30, f, l, .int k, .int y, .int (t + 1)]) := by
  obtain ⟨z, hz, _, _⟩ := mixed_ok c (8 * k + t)
  unfold wB
  have h1 : gCallN 2 f_l_mixed (gCons (gVar 0) (gCons (gOp hAdd (gOp hMul (gC (.int (8))) (gVar 5)) (gVar 7)) (gNil))) [.int c, a, .int B30, f, l, .int k, .int x, .int t] = .ok (.int z) := by
    refine callN_ok (ds := [.int c, .int (8 * k + t)]) ?_ rfl hz
    simp (disch := omega) only [bnd_ok, gVar_def, gC_def, gOp_def, gUn_def, gNil_def, gCons_def, gIf_def, gTest_def, gNot_def, gAnd_def, gOr_def, gAndV_def, gOrV_def, gNotV_def, gCB_def, asB_b, hAdd_i, hSub_i, hLt_i, hLe_i, hGt_i, hGe_i, hMul_r, hMul_l, hMod_i, hDiv_s, hBand_i, hShr_i, hPow_10_18, hPow_10_27, hPow_10_28, hPow_10_29, hPow_10_30, hEq_i, hNe_i, hLen_l, hLen_t, hMin2_i, hMax2_i, hMin3_i, hInt1_b, hInt1_i, hBits_i, hListOf_l, hListOf_t, hTupOf_l, hTupOf_t, gSeqS_def, gSet_def, gRet_def, gIfS_def, gNext_def, gTup_def, gLst_def, List.getElem?_cons_zero, List.getElem?_cons_succ, List.set_cons_zero, List.set_cons_succ, List.length_cons, List.length_nil, Nat.zero_add, Nat.reduceAdd, Nat.reduceLeDiff, Nat.reduceSub, Nat.reduceMul, if_true, if_false, Bool.false_eq_true, List.replicate_succ, List.replicate_zero, List.cons_append, List.nil_append, tgN, tgT, tgCons, tgNil, Int.reducePow, Int.reduceAdd, Int.reduceSub, Int.reduceMul, decide_true, decide_false, Bool.not_true, Bool.not_false, gChain_def, hIsa_int, hIsa_intb, hIsa_list, hIsa_tuple, gDrop_def]
  simp (disch := omega) only [bnd_ok, gVar_def, gC_def, gOp_def, gUn_def, gNil_def, gCons_def, gIf_def, gTest_def, gNot_def, gAnd_def, gOr_def, gAndV_def, gOrV_def, gNotV_def, gCB_def, asB_b, hAdd_i, hSub_i, hLt_i, hLe_i, hGt_i, hGe_i, hMul_r, hMul_l, hMod_i, hDiv_s, hBand_i, hShr_i, hPow_10_18, hPow_10_27, hPow_10_28, hPow_10_29, hPow_10_30, hEq_i, hNe_i, hLen_l, hLen_t, hMin2_i, hMax2_i, hMin3_i, hInt1_b, hInt1_i, hBits_i, hListOf_l, hListOf_t, hTupOf_l, hTupOf_t, gSeqS_def, gSet_def, gRet_def, gIfS_def, gNext_def, gTup_def, gLst_def, List.getElem?_cons_zero, List.getElem?_cons_succ, List.set_cons_zero, List.set_cons_succ, List.length_cons, List.length_nil, Nat.zero_add, Nat.reduceAdd, Nat.reduceLeDiff, Nat.reduceSub, Nat.reduceMul, if_true, if_false, Bool.false_eq_true, List.replicate_succ, List.replicate_zero, List.cons_append, List.nil_append, tgN, tgT, tgCons, tgNil, Int.reducePow, Int.reduceAdd, Int.reduceSub, Int.reduceMul, decide_true, decide_false, Bool.not_true, Bool.not_false, gChain_def, hIsa_int, hIsa_intb, hIsa_list, hIsa_tuple, gDrop_def, h1]
  exact ⟨_, rfl⟩
theorem wT_ok (c k x t : Int) (a f l : Dt) : wT [.int c, a, .int B30, f, l, .int k, .int x, .int t] = .ok (decide (t * 30 < 108)) := by
  unfold wT
  simp (disch := omega) only [bnd_ok, gVar_def, gC_def, gOp_def, gUn_def, gNil_def, gCons_def, gIf_def, gTest_def, gNot_def, gAnd_def, gOr_def, gAndV_def, gOrV_def, gNotV_def, gCB_def, asB_b, hAdd_i, hSub_i, hLt_i, hLe_i, hGt_i, hGe_i, hMul_r, hMul_l, hMod_i, hDiv_s, hBand_i, hShr_i, hPow_10_18, hPow_10_27, hPow_10_28, hPow_10_29, hPow_10_30, hEq_i, hNe_i, hLen_l, hLen_t, hMin2_i, hMax2_i, hMin3_i, hInt1_b, hInt1_i, hBits_i, hListOf_l, hListOf_t, hTupOf_l, hTupOf_t, gSeqS_def, gSet_def, gRet_def, gIfS_def, gNext_def, gTup_def, gLst_def, List.getElem?_cons_zero, List.getElem?_cons_succ, List.set_cons_zero, List.set_cons_succ, List.length_cons, List.length_nil, Nat.zero_add, Nat.reduceAdd, Nat.reduceLeDiff, Nat.reduceSub, Nat.reduceMul, if_true, if_false, Bool.false_eq_true, List.replicate_succ, List.replicate_zero, List.cons_append, List.nil_append, tgN, tgT, tgCons, tgNil, Int.reducePow, Int.reduceAdd, Int.reduceSub, Int.reduceMul, decide_true, decide_false, Bool.not_true, Bool.not_false, gChain_def, hIsa_int, hIsa_intb, hIsa_list, hIsa_tuple, gDrop_def, bits30]
  rfl
theorem wh_ok (c k : Int) (a f l : Dt) : ∃ y, gWhile wT wB 100 [.int c, a, .int B30, f, l, .int k, .int 0, .int 0] = .ok (.nx [.int c, a, .int B30, f, l, .int k, .int y, .int 4]) := by
  obtain ⟨y1, h1⟩ := wB_ok c k 0 0 a f l
  obtain ⟨y2, h2⟩ := wB_ok c k y1 1 a f l
  obtain ⟨y3, h3⟩ := wB_ok c k y2 2 a f l
  obtain ⟨y4, h4⟩ := wB_ok c k y3 3 a f l
  refine ⟨y4, ?_⟩
  rw [while_t (n := 99) (wT_ok c k 0 0 a f l) h1]
  show gWhile wT wB 99 [.int c, a, .int B30, f, l, .int k, .int y1, .int 1] = _
  rw [while_t (n := 98) (wT_ok c k y1 1 a f l) h2]
  show gWhile wT wB 98 [.int c, a, .int B30, f, l, .int k, .int y2, .int 2] = _
  rw [while_t (n := 97) (wT_ok c k y2 2 a f l) h3]
  show gWhile wT wB 97 [.int c, a, .int B30, f, l, .int k, .int y3, .int 3] = _
  rw [while_t (n := 96) (wT_ok c k y3 3 a f l) h4]
  exact while_f (wT_ok c k y4 4 a f l)
theorem numbers_ok (cell many : Int) (h0 : 0 ≤ many) (h1 : many ≤ 1000) : ∃ xs : List Int, f_l_numbers [.int cell, .int many, .int B30] = .ok (.list (xs.map .int)) ∧ xs.length = many.toNat ∧ ∀ x ∈ xs, 0 ≤ x ∧ x < B30 := by
  obtain ⟨n, rfl⟩ : ∃ n : Nat, many = n := ⟨many.toNat, by omega⟩
  obtain ⟨ρ', hf, xs, l, d5, d6, d7, rfl, hl, hx⟩ := forE_ix (fun (k : Nat) => PyData.int (k : Int)) (h := tgN 5)
    (b := gSeqS (gSet 6 (gVar 4)) (gSeqS (gIfS (gTest (gOp hGt (gVar 4) (gC (.int (0))))) (gSet 4 (gOp hDiv (gVar 4) (gVar 2))) (gSeqS (gSet 6 (gC (.int (0)))) (gSeqS (gSet 7 (gC (.int (0)))) (gWhile wT wB 100)))) (gApp 3 (gOp hMod (gVar 6) (gVar 2)))))
    (List.range n) (fun i ρ => ∃ (xs : List Int) (l : Int) (d5 d6 d7 : Dt), ρ = [.int cell, .int n, .int B30, .list (xs.map .int), .int l, d5, d6, d7] ∧ xs.length = i ∧ ∀ x ∈ xs, 0 ≤ x ∧ x < B30)
    (ρ := [.int cell, .int n, .int B30, .list [], .int (cell - 1000000000000000000), .none, .none, .none]) ⟨[], _, _, _, _, rfl, rfl, by simp⟩ (by
      rintro i ρ hi ⟨xs, l, d5, d6, d7, rfl, hl, hx⟩
      rw [List.getElem_range]
      rw [List.length_range] at hi
      have app : ∀ (l x : Int) (d7 : Dt), gApp 3 (gOp hMod (gVar 6) (gVar 2)) [.int cell, .int n, .int B30, .list (xs.map .int), .int l, .int i, .int x, d7] = .ok (.nx [.int cell, .int n, .int B30, .list ((xs ++ [x % B30]).map .int), .int l, .int i, .int x, d7]) := fun l x d7 => by
        refine (gApp_l (ds := xs.map .int) (d := .int (x % B30)) rfl ?_ (by rw [List.length_map]; omega)).trans ?_
        · simp (disch := first | omega | decide) only [bnd_ok, gVar_def, gC_def, gOp_def, gUn_def, gNil_def, gCons_def, gIf_def, gTest_def, gNot_def, gAnd_def, gOr_def, gAndV_def, gOrV_def, gNotV_def, gCB_def, asB_b, hAdd_i, hSub_i, hLt_i, hLe_i, hGt_i, hGe_i, hMul_r, hMul_l, hMod_i, hDiv_s, hBand_i, hShr_i, hPow_10_18, hPow_10_27, hPow_10_28, hPow_10_29, hPow_10_30, hEq_i, hNe_i, hLen_l, hLen_t, hMin2_i, hMax2_i, hMin3_i, hInt1_b, hInt1_i, hBits_i, hListOf_l, hListOf_t, hTupOf_l, hTupOf_t, gSeqS_def, gSet_def, gRet_def, gIfS_def, gNext_def, gTup_def, gLst_def, List.getElem?_cons_zero, List.getElem?_cons_succ, List.set_cons_zero, List.set_cons_succ, List.length_cons, List.length_nil, Nat.zero_add, Nat.reduceAdd, Nat.reduceLeDiff, Nat.reduceSub, Nat.reduceMul, if_true, if_false, Bool.false_eq_true, List.replicate_succ, List.replicate_zero, List.cons_append, List.nil_append, tgN, tgT, tgCons, tgNil, Int.reducePow, Int.reduceAdd, Int.reduceSub, Int.reduceMul, decide_true, decide_false, Bool.not_true, Bool.not_false, gChain_def, hIsa_int, hIsa_intb, hIsa_list, hIsa_tuple, gDrop_def]
        · rw [map_snoc]; rfl
      have fin : ∀ (x : Int), ∀ y ∈ xs ++ [x % B30], 0 ≤ y ∧ y < B30 := fun x y hy => by
        rcases List.mem_append.mp hy with h | h
        · exact hx y h
        · have := List.mem_singleton.mp h
          subst this
          unfold B30
          constructor <;> omega
      by_cases hp : 0 < l
      · refine ⟨_, _, rfl, .inl ?_, xs ++ [l % B30], l / B30, .int i, .int l, d7, rfl, by rw [List.length_append, hl]; rfl, fin l⟩
        have e : decide (0 < l) = true := decide_eq_true hp
        simp (disch := first | omega | decide) only [bnd_ok, gVar_def, gC_def, gOp_def, gUn_def, gNil_def, gCons_def, gIf_def, gTest_def, gNot_def, gAnd_def, gOr_def, gAndV_def, gOrV_def, gNotV_def, gCB_def, asB_b, hAdd_i, hSub_i, hLt_i, hLe_i, hGt_i, hGe_i, hMul_r, hMul_l, hMod_i, hDiv_s, hBand_i, hShr_i, hPow_10_18, hPow_10_27, hPow_10_28, hPow_10_29, hPow_10_30, hEq_i, hNe_i, hLen_l, hLen_t, hMin2_i, hMax2_i, hMin3_i, hInt1_b, hInt1_i, hBits_i, hListOf_l, hListOf_t, hTupOf_l, hTupOf_t, gSeqS_def, gSet_def, gRet_def, gIfS_def, gNext_def, gTup_def, gLst_def, List.getElem?_cons_zero, List.getElem?_cons_succ, List.set_cons_zero, List.set_cons_succ, List.length_cons, List.length_nil, Nat.zero_add, Nat.reduceAdd, Nat.reduceLeDiff, Nat.reduceSub, Nat.reduceMul, if_true, if_false, Bool.false_eq_true, List.replicate_succ, List.replicate_zero, List.cons_append, List.nil_append, tgN, tgT, tgCons, tgNil, Int.reducePow, Int.reduceAdd, Int.reduceSub, Int.reduceMul, decide_true, decide_false, Bool.not_true, Bool.not_false, gChain_def, hIsa_int, hIsa_intb, hIsa_list, hIsa_tuple, gDrop_def, e, app]
      · obtain ⟨y, hy⟩ := wh_ok cell i (.int n) (.list (xs.map .int)) (.int l)
        refine ⟨_, _, rfl, .inl ?_, xs ++ [y % B30], l, .int i, .int y, .int 4, rfl, by rw [List.length_append, hl]; rfl, fin y⟩
        have e : decide (0 < l) = false := decide_eq_false hp
        simp (disch := first | omega | decide) only [bnd_ok, gVar_def, gC_def, gOp_def, gUn_def, gNil_def, gCons_def, gIf_def, gTest_def, gNot_def, gAnd_def, gOr_def, gAndV_def, gOrV_def, gNotV_def, gCB_def, asB_b, hAdd_i, hSub_i, hLt_i, hLe_i, hGt_i, hGe_i, hMul_r, hMul_l, hMod_i, hDiv_s, hBand_i, hShr_i, hPow_10_18, hPow_10_27, hPow_10_28, hPow_10_29, hPow_10_30, hEq_i, hNe_i, hLen_l, hLen_t, hMin2_i, hMax2_i, hMin3_i, hInt1_b, hInt1_i, hBits_i, hListOf_l, hListOf_t, hTupOf_l, hTupOf_t, gSeqS_def, gSet_def, gRet_def, gIfS_def, gNext_def, gTup_def, gLst_def, List.getElem?_cons_zero, List.getElem?_cons_succ, List.set_cons_zero, List.set_cons_succ, List.length_cons, List.length_nil, Nat.zero_add, Nat.reduceAdd, Nat.reduceLeDiff, Nat.reduceSub, Nat.reduceMul, if_true, if_false, Bool.false_eq_true, List.replicate_succ, List.replicate_zero, List.cons_append, List.nil_append, tgN, tgT, tgCons, tgNil, Int.reducePow, Int.reduceAdd, Int.reduceSub, Int.reduceMul, decide_true, decide_false, Bool.not_true, Bool.not_false, gChain_def, hIsa_int, hIsa_intb, hIsa_list, hIsa_tuple, gDrop_def, e, hy, app])
  refine ⟨xs, ?_, by rw [hl, List.length_range]; omega, hx⟩
  refine fnL_rt ?_
  show g_l_numbers [.int cell, .int n, .int B30, .none, .none, .none, .none, .none] = _
  unfold g_l_numbers
  have e1 : gSet 3 (gLst gNil) [.int cell, .int n, .int B30, .none, .none, .none, .none, .none] = .ok (.nx [.int cell, .int n, .int B30, .list [], .none, .none, .none, .none]) := by
    simp (disch := first | omega | decide) only [bnd_ok, gVar_def, gC_def, gOp_def, gUn_def, gNil_def, gCons_def, gIf_def, gTest_def, gNot_def, gAnd_def, gOr_def, gAndV_def, gOrV_def, gNotV_def, gCB_def, asB_b, hAdd_i, hSub_i, hLt_i, hLe_i, hGt_i, hGe_i, hMul_r, hMul_l, hMod_i, hDiv_s, hBand_i, hShr_i, hPow_10_18, hPow_10_27, hPow_10_28, hPow_10_29, hPow_10_30, hEq_i, hNe_i, hLen_l, hLen_t, hMin2_i, hMax2_i, hMin3_i, hInt1_b, hInt1_i, hBits_i, hListOf_l, hListOf_t, hTupOf_l, hTupOf_t, gSeqS_def, gSet_def, gRet_def, gIfS_def, gNext_def, gTup_def, gLst_def, List.getElem?_cons_zero, List.getElem?_cons_succ, List.set_cons_zero, List.set_cons_succ, List.length_cons, List.length_nil, Nat.zero_add, Nat.reduceAdd, Nat.reduceLeDiff, Nat.reduceSub, Nat.reduceMul, if_true, if_false, Bool.false_eq_true, List.replicate_succ, List.replicate_zero, List.cons_append, List.nil_append, tgN, tgT, tgCons, tgNil, Int.reducePow, Int.reduceAdd, Int.reduceSub, Int.reduceMul, decide_true, decide_false, Bool.not_true, Bool.not_false, gChain_def, hIsa_int, hIsa_intb, hIsa_list, hIsa_tuple, gDrop_def, Nat.zero_le]
  rw [seq_nx e1]
  have e2 : gSet 4 (gOp hSub (gVar 0) (gOp hPow (gC (.int 10)) (gC (.int 18)))) [.int cell, .int n, .int B30, .list [], .none, .none, .none, .none] = .ok (.nx [.int cell, .int n, .int B30, .list [], .int (cell - 1000000000000000000), .none, .none, .none]) := by
    simp (disch := first | omega | decide) only [bnd_ok, gVar_def, gC_def, gOp_def, gUn_def, gNil_def, gCons_def, gIf_def, gTest_def, gNot_def, gAnd_def, gOr_def, gAndV_def, gOrV_def, gNotV_def, gCB_def, asB_b, hAdd_i, hSub_i, hLt_i, hLe_i, hGt_i, hGe_i, hMul_r, hMul_l, hMod_i, hDiv_s, hBand_i, hShr_i, hPow_10_18, hPow_10_27, hPow_10_28, hPow_10_29, hPow_10_30, hEq_i, hNe_i, hLen_l, hLen_t, hMin2_i, hMax2_i, hMin3_i, hInt1_b, hInt1_i, hBits_i, hListOf_l, hListOf_t, hTupOf_l, hTupOf_t, gSeqS_def, gSet_def, gRet_def, gIfS_def, gNext_def, gTup_def, gLst_def, List.getElem?_cons_zero, List.getElem?_cons_succ, List.set_cons_zero, List.set_cons_succ, List.length_cons, List.length_nil, Nat.zero_add, Nat.reduceAdd, Nat.reduceLeDiff, Nat.reduceSub, Nat.reduceMul, if_true, if_false, Bool.false_eq_true, List.replicate_succ, List.replicate_zero, List.cons_append, List.nil_append, tgN, tgT, tgCons, tgNil, Int.reducePow, Int.reduceAdd, Int.reduceSub, Int.reduceMul, decide_true, decide_false, Bool.not_true, Bool.not_false, gChain_def, hIsa_int, hIsa_intb, hIsa_list, hIsa_tuple, gDrop_def]
  rw [seq_nx e2]
  have e3 : gRng1 (gCons (gVar 1) gNil) [.int cell, .int n, .int B30, .list [], .int (cell - 1000000000000000000), .none, .none, .none] = .ok ((List.range n).map fun (k : Nat) => PyData.int (k : Int)) := by
    rw [← rangeD_nat]
    refine rng1_ok ?_ (by omega) (by omega)
    simp (disch := first | omega | decide) only [bnd_ok, gVar_def, gC_def, gOp_def, gUn_def, gNil_def, gCons_def, gIf_def, gTest_def, gNot_def, gAnd_def, gOr_def, gAndV_def, gOrV_def, gNotV_def, gCB_def, asB_b, hAdd_i, hSub_i, hLt_i, hLe_i, hGt_i, hGe_i, hMul_r, hMul_l, hMod_i, hDiv_s, hBand_i, hShr_i, hPow_10_18, hPow_10_27, hPow_10_28, hPow_10_29, hPow_10_30, hEq_i, hNe_i, hLen_l, hLen_t, hMin2_i, hMax2_i, hMin3_i, hInt1_b, hInt1_i, hBits_i, hListOf_l, hListOf_t, hTupOf_l, hTupOf_t, gSeqS_def, gSet_def, gRet_def, gIfS_def, gNext_def, gTup_def, gLst_def, List.getElem?_cons_zero, List.getElem?_cons_succ, List.set_cons_zero, List.set_cons_succ, List.length_cons, List.length_nil, Nat.zero_add, Nat.reduceAdd, Nat.reduceLeDiff, Nat.reduceSub, Nat.reduceMul, if_true, if_false, Bool.false_eq_true, List.replicate_succ, List.replicate_zero, List.cons_append, List.nil_append, tgN, tgT, tgCons, tgNil, Int.reducePow, Int.reduceAdd, Int.reduceSub, Int.reduceMul, decide_true, decide_false, Bool.not_true, Bool.not_false, gChain_def, hIsa_int, hIsa_intb, hIsa_list, hIsa_tuple, gDrop_def]
  exact (seq_nx (b := gRet (gVar 3)) (for_ok e3 hf)).trans rfl
abbrev T3 := Int × Int × Int
def enc3 (t : T3) : Dt := .tuple [.int t.1, .int t.2.1, .int t.2.2]
structure TieOk (n : Int) (t : T3) : Prop where
  m0 : 0 ≤ t.1
  m1 : t.1 < B30
  a0 : 0 ≤ t.2.1
  ab : t.2.1 ≤ t.2.2
  bn : t.2.2 < n
structure RecOk (n : Int) (r : List T3) : Prop where
  len : r.length ≤ 60
  ties : ∀ t ∈ r, TieOk n t
  ord : r.Pairwise fun s t => s.1 < t.1
theorem ix_ok {ns : List Int} (hns : ∀ x ∈ ns, 0 ≤ x ∧ x < B30) {i : Int} (h0 : 0 ≤ i) (h1 : i < ns.length) : ∃ x, hIx (.list (ns.map .int)) (.int i) = .ok (.int x) ∧ 0 ≤ x ∧ x < B30 :=
  ⟨_, hIx_ints h0 h1, hns _ (List.getElem_mem _)⟩
theorem ix3 (a b c i : Int) (h0 : 0 ≤ i) (h1 : i < 3) : hIx (.list [.int a, .int b, .int c]) (.int i) = .ok (.int (if i = 0 then a else if i = 1 then b else c)) := by
  have : i = 0 ∨ i = 1 ∨ i = 2 := by omega
  rcases this with rfl | rfl | rfl <;> rfl
theorem map3_snoc (r : List T3) (t : T3) : r.map enc3 ++ [enc3 t] = (r ++ [t]).map enc3 := by rw [List.map_append]; rfl
def rB : Gs := (gSeqS (gAsg (gCallN 4 f_l_ends (gCons (gVar 2) (gCons (gOp hMod (gOp hIx (gVar 0) (gC (.int (3)))) (gC (.int (4)))) (gCons (gOp hIx (gVar 0) (gOp hAdd (gC (.int (4))) (gOp hMul (gC (.int (3))) (gVar 7)))) (gCons (gOp hIx (gVar 0) (gOp hAdd (gC (.int (5))) (gOp hMul (gC (.int (3))) (gVar 7)))) (gNil)))))) (tgT (tgCons (tgN 8) (tgCons (tgN 9) (tgNil))))) (gSeqS (gApp 6 (gTup (gCons (gVar 5) (gCons (gCB hMin2 (gCons (gVar 8) (gCons (gVar 9) (gNil)))) (gCons (gCB hMax2 (gCons (gVar 8) (gCons (gVar 9) (gNil)))) (gNil)))))) (gSet 5 (gOp hAdd (gOp hAdd (gVar 5) (gC (.int (1)))) (gOp hMod (gOp hIx (gVar 0) (gOp hAdd (gC (.int (6))) (gOp hMul (gC (.int (3))) (gVar 7)))) (gVar 4))))))
theorem rB_ok {ns : List Int} (hns : ∀ x ∈ ns, 0 ≤ x ∧ x < B30) (hl : 4 ≤ ns.length) {k : Nat} (hk : 3 * k + 6 < ns.length) {n : Int} (hn : 1 ≤ n) {wd m : Int} (hw : 0 < wd) (hm : 0 ≤ m) {r : List T3} (hr : r.length < 100) (mo : Dt) (c d8 d9 : Dt) :
    ∃ t m' q8 q9, rB [.list (ns.map .int), mo, .int n, c, .int wd, .int m, .list (r.map enc3), .int k, d8, d9] = .ok (.nx [.list (ns.map .int), mo, .int n, c, .int wd, .int m', .list ((r ++ [t]).map enc3), .int k, q8, q9])
      ∧ t.1 = m ∧ 0 ≤ t.2.1 ∧ t.2.1 ≤ t.2.2 ∧ t.2.2 < n ∧ m < m' ∧ m' ≤ m + wd := by
  obtain ⟨x3, e3, _⟩ := ix_ok hns (i := 3) (by omega) (by omega)
  obtain ⟨x4, e4, _⟩ := ix_ok hns (i := 4 + 3 * (k : Int)) (by omega) (by omega)
  obtain ⟨x5, e5, _⟩ := ix_ok hns (i := 5 + 3 * (k : Int)) (by omega) (by omega)
  obtain ⟨x6, e6, _⟩ := ix_ok hns (i := 6 + 3 * (k : Int)) (by omega) (by omega)
  obtain ⟨a, b, he, ha0, ha, hb0, hb⟩ := ends_ok n (x3 % 4) x4 x5 hn
  have w0 := Int.emod_nonneg x6 (show wd ≠ 0 by omega)
  have w1 := Int.emod_lt_of_pos x6 hw
  have c1 : gAsg (gCallN 4 f_l_ends (gCons (gVar 2) (gCons (gOp hMod (gOp hIx (gVar 0) (gC (.int (3)))) (gC (.int (4)))) (gCons (gOp hIx (gVar 0) (gOp hAdd (gC (.int (4))) (gOp hMul (gC (.int (3))) (gVar 7)))) (gCons (gOp hIx (gVar 0) (gOp hAdd (gC (.int (5))) (gOp hMul (gC (.int (3))) (gVar 7)))) (gNil)))))) (tgT (tgCons (tgN 8) (tgCons (tgN 9) (tgNil))))
      [.list (ns.map .int), mo, .int n, c, .int wd, .int m, .list (r.map enc3), .int k, d8, d9] = .ok (.nx [.list (ns.map .int), mo, .int n, c, .int wd, .int m, .list (r.map enc3), .int k, .int a, .int b]) := by
    refine asg_ok (callN_ok (ds := [.int n, .int (x3 % 4), .int x4, .int x5]) ?_ rfl he) ?_
    · simp (disch := omega) only [bnd_ok, gVar_def, gC_def, gOp_def, gUn_def, gNil_def, gCons_def, gIf_def, gTest_def, gNot_def, gAnd_def, gOr_def, gAndV_def, gOrV_def, gNotV_def, gCB_def, asB_b, hAdd_i, hSub_i, hLt_i, hLe_i, hGt_i, hGe_i, hMul_r, hMul_l, hMod_i, hDiv_s, hBand_i, hShr_i, hPow_10_18, hPow_10_27, hPow_10_28, hPow_10_29, hPow_10_30, hEq_i, hNe_i, hLen_l, hLen_t, hMin2_i, hMax2_i, hMin3_i, hInt1_b, hInt1_i, hBits_i, hListOf_l, hListOf_t, hTupOf_l, hTupOf_t, gSeqS_def, gSet_def, gRet_def, gIfS_def, gNext_def, gTup_def, gLst_def, List.getElem?_cons_zero, List.getElem?_cons_succ, List.set_cons_zero, List.set_cons_succ, List.length_cons, List.length_nil, Nat.zero_add, Nat.reduceAdd, Nat.reduceLeDiff, Nat.reduceSub, Nat.reduceMul, if_true, if_false, Bool.false_eq_true, List.replicate_succ, List.replicate_zero, List.cons_append, List.nil_append, tgN, tgT, tgCons, tgNil, Int.reducePow, Int.reduceAdd, Int.reduceSub, Int.reduceMul, decide_true, decide_false, Bool.not_true, Bool.not_false, gChain_def, hIsa_int, hIsa_intb, hIsa_list, hIsa_tuple, gDrop_def, e3, e4, e5]
    · simp only [bnd_ok, gVar_def, gC_def, gOp_def, gUn_def, gNil_def, gCons_def, gIf_def, gTest_def, gNot_def, gAnd_def, gOr_def, gAndV_def, gOrV_def, gNotV_def, gCB_def, asB_b, hAdd_i, hSub_i, hLt_i, hLe_i, hGt_i, hGe_i, hMul_r, hMul_l, hMod_i, hDiv_s, hBand_i, hShr_i, hPow_10_18, hPow_10_27, hPow_10_28, hPow_10_29, hPow_10_30, hEq_i, hNe_i, hLen_l, hLen_t, hMin2_i, hMax2_i, hMin3_i, hInt1_b, hInt1_i, hBits_i, hListOf_l, hListOf_t, hTupOf_l, hTupOf_t, gSeqS_def, gSet_def, gRet_def, gIfS_def, gNext_def, gTup_def, gLst_def, List.getElem?_cons_zero, List.getElem?_cons_succ, List.set_cons_zero, List.set_cons_succ, List.length_cons, List.length_nil, Nat.zero_add, Nat.reduceAdd, Nat.reduceLeDiff, Nat.reduceSub, Nat.reduceMul, if_true, if_false, Bool.false_eq_true, List.replicate_succ, List.replicate_zero, List.cons_append, List.nil_append, tgN, tgT, tgCons, tgNil, Int.reducePow, Int.reduceAdd, Int.reduceSub, Int.reduceMul, decide_true, decide_false, Bool.not_true, Bool.not_false, gChain_def, hIsa_int, hIsa_intb, hIsa_list, hIsa_tuple, gDrop_def]
  have c2 : gApp 6 (gTup (gCons (gVar 5) (gCons (gCB hMin2 (gCons (gVar 8) (gCons (gVar 9) (gNil)))) (gCons (gCB hMax2 (gCons (gVar 8) (gCons (gVar 9) (gNil)))) (gNil)))))
      [.list (ns.map .int), mo, .int n, c, .int wd, .int m, .list (r.map enc3), .int k, .int a, .int b] = .ok (.nx [.list (ns.map .int), mo, .int n, c, .int wd, .int m, .list ((r ++ [(m, (if b < a then b else a), (if b > a then b else a))]).map enc3), .int k, .int a, .int b]) := by
    refine (gApp_l (ds := r.map enc3) (d := enc3 (m, (if b < a then b else a), (if b > a then b else a))) rfl ?_ (by rw [List.length_map]; omega)).trans ?_
    · simp (disch := omega) only [bnd_ok, gVar_def, gC_def, gOp_def, gUn_def, gNil_def, gCons_def, gIf_def, gTest_def, gNot_def, gAnd_def, gOr_def, gAndV_def, gOrV_def, gNotV_def, gCB_def, asB_b, hAdd_i, hSub_i, hLt_i, hLe_i, hGt_i, hGe_i, hMul_r, hMul_l, hMod_i, hDiv_s, hBand_i, hShr_i, hPow_10_18, hPow_10_27, hPow_10_28, hPow_10_29, hPow_10_30, hEq_i, hNe_i, hLen_l, hLen_t, hMin2_i, hMax2_i, hMin3_i, hInt1_b, hInt1_i, hBits_i, hListOf_l, hListOf_t, hTupOf_l, hTupOf_t, gSeqS_def, gSet_def, gRet_def, gIfS_def, gNext_def, gTup_def, gLst_def, List.getElem?_cons_zero, List.getElem?_cons_succ, List.set_cons_zero, List.set_cons_succ, List.length_cons, List.length_nil, Nat.zero_add, Nat.reduceAdd, Nat.reduceLeDiff, Nat.reduceSub, Nat.reduceMul, if_true, if_false, Bool.false_eq_true, List.replicate_succ, List.replicate_zero, List.cons_append, List.nil_append, tgN, tgT, tgCons, tgNil, Int.reducePow, Int.reduceAdd, Int.reduceSub, Int.reduceMul, decide_true, decide_false, Bool.not_true, Bool.not_false, gChain_def, hIsa_int, hIsa_intb, hIsa_list, hIsa_tuple, gDrop_def]
      rfl
    · rw [map3_snoc]; rfl
  unfold rB
  rw [seq_nx c1, seq_nx c2]
  refine ⟨(m, (if b < a then b else a), (if b > a then b else a)), m + 1 + x6 % wd, .int a, .int b, ?_, rfl, ?_, ?_, ?_, by omega, by omega⟩
  · simp (disch := omega) only [bnd_ok, gVar_def, gC_def, gOp_def, gUn_def, gNil_def, gCons_def, gIf_def, gTest_def, gNot_def, gAnd_def, gOr_def, gAndV_def, gOrV_def, gNotV_def, gCB_def, asB_b, hAdd_i, hSub_i, hLt_i, hLe_i, hGt_i, hGe_i, hMul_r, hMul_l, hMod_i, hDiv_s, hBand_i, hShr_i, hPow_10_18, hPow_10_27, hPow_10_28, hPow_10_29, hPow_10_30, hEq_i, hNe_i, hLen_l, hLen_t, hMin2_i, hMax2_i, hMin3_i, hInt1_b, hInt1_i, hBits_i, hListOf_l, hListOf_t, hTupOf_l, hTupOf_t, gSeqS_def, gSet_def, gRet_def, gIfS_def, gNext_def, gTup_def, gLst_def, List.getElem?_cons_zero, List.getElem?_cons_succ, List.set_cons_zero, List.set_cons_succ, List.length_cons, List.length_nil, Nat.zero_add, Nat.reduceAdd, Nat.reduceLeDiff, Nat.reduceSub, Nat.reduceMul, if_true, if_false, Bool.false_eq_true, List.replicate_succ, List.replicate_zero, List.cons_append, List.nil_append, tgN, tgT, tgCons, tgNil, Int.reducePow, Int.reduceAdd, Int.reduceSub, Int.reduceMul, decide_true, decide_false, Bool.not_true, Bool.not_false, gChain_def, hIsa_int, hIsa_intb, hIsa_list, hIsa_tuple, gDrop_def, e6]
  · show 0 ≤ (if b < a then b else a)
    split <;> omega
  · show (if b < a then b else a) ≤ (if b > a then b else a)
    split <;> split <;> omega
  · show (if b > a then b else a) < n
    split <;> omega
theorem rec_snoc {n : Int} {r : List T3} {t : T3} (h : ∀ t ∈ r, TieOk n t) (o : r.Pairwise fun s t => s.1 < t.1) (ht : TieOk n t) (hlt : ∀ s ∈ r, s.1 < t.1) : (∀ s ∈ r ++ [t], TieOk n s) ∧ (r ++ [t]).Pairwise fun s t => s.1 < t.1 := by
  refine ⟨fun s hs => ?_, List.pairwise_append.mpr ⟨o, List.pairwise_singleton _ _, fun a ha b hb => ?_⟩⟩
  · rcases List.mem_append.mp hs with h' | h'
    · exact h s h'
    · rw [List.mem_singleton.mp h']; exact ht
  · rw [List.mem_singleton.mp hb]
    exact hlt a ha
theorem record_ok {ns : List Int} {most : Int} (hns : ∀ x ∈ ns, 0 ≤ x ∧ x < B30) (hl : 4 ≤ ns.length) (hl2 : ns.length ≤ 1000) (h0 : 0 ≤ most) (h1 : most ≤ 60) :
    ∃ n r, f_l_record [.list (ns.map .int), .int most] = .ok (.tuple [.int n, .list (r.map enc3)]) ∧ 1 ≤ n ∧ n ≤ 10 ∧ RecOk n r ∧ (r.length : Int) ≤ most := by
  obtain ⟨x0, e0, b0⟩ := ix_ok hns (i := 0) (by omega) (by omega)
  obtain ⟨x1, e1, b1⟩ := ix_ok hns (i := 1) (by omega) (by omega)
  obtain ⟨x2, e2, b2⟩ := ix_ok hns (i := 2) (by omega) (by omega)
  obtain ⟨x3, e3, b3⟩ := ix_ok hns (i := 3) (by omega) (by omega)
  suffices h : ∃ n r, g_l_record [.list (ns.map .int), .int most, .none, .none, .none, .none, .none, .none, .none, .none] = .ok (.rt (.tuple [.int n, .list (r.map enc3)])) ∧ 1 ≤ n ∧ n ≤ 10 ∧ RecOk n r ∧ (r.length : Int) ≤ most by
    obtain ⟨n, r, h, q⟩ := h
    exact ⟨n, r, fnN_rt h, q⟩
  unfold g_l_record
  -- n
  rw [seq_nx (ρ' := [.list (ns.map .int), .int most, .int (1 + x0 % 6), .none, .none, .none, .none, .none, .none, .none]) (by simp (disch := omega) only [bnd_ok, gVar_def, gC_def, gOp_def, gUn_def, gNil_def, gCons_def, gIf_def, gTest_def, gNot_def, gAnd_def, gOr_def, gAndV_def, gOrV_def, gNotV_def, gCB_def, asB_b, hAdd_i, hSub_i, hLt_i, hLe_i, hGt_i, hGe_i, hMul_r, hMul_l, hMod_i, hDiv_s, hBand_i, hShr_i, hPow_10_18, hPow_10_27, hPow_10_28, hPow_10_29, hPow_10_30, hEq_i, hNe_i, hLen_l, hLen_t, hMin2_i, hMax2_i, hMin3_i, hInt1_b, hInt1_i, hBits_i, hListOf_l, hListOf_t, hTupOf_l, hTupOf_t, gSeqS_def, gSet_def, gRet_def, gIfS_def, gNext_def, gTup_def, gLst_def, List.getElem?_cons_zero, List.getElem?_cons_succ, List.set_cons_zero, List.set_cons_succ, List.length_cons, List.length_nil, Nat.zero_add, Nat.reduceAdd, Nat.reduceLeDiff, Nat.reduceSub, Nat.reduceMul, if_true, if_false, Bool.false_eq_true, List.replicate_succ, List.replicate_zero, List.cons_append, List.nil_append, tgN, tgT, tgCons, tgNil, Int.reducePow, Int.reduceAdd, Int.reduceSub, Int.reduceMul, decide_true, decide_false, Bool.not_true, Bool.not_false, gChain_def, hIsa_int, hIsa_intb, hIsa_list, hIsa_tuple, gDrop_def, e0])]
  obtain ⟨n, hn, n1, n10⟩ : ∃ n, gIfS (gTest (gOp hEq (gOp hMod (gOp hDiv (gOp hIx (gVar 0) (gC (.int (0)))) (gC (.int (6)))) (gC (.int (8)))) (gC (.int (1))))) (gSet 2 (gOp hAdd (gC (.int (7))) (gOp hMod (gOp hDiv (gOp hIx (gVar 0) (gC (.int (0)))) (gC (.int (48)))) (gC (.int (4)))))) gNext
      [.list (ns.map .int), .int most, .int (1 + x0 % 6), .none, .none, .none, .none, .none, .none, .none] = .ok (.nx [.list (ns.map .int), .int most, .int n, .none, .none, .none, .none, .none, .none, .none]) ∧ 1 ≤ n ∧ n ≤ 10 := by
    by_cases c : x0 / 6 % 8 = 1
    · exact ⟨7 + x0 / 48 % 4, by simp (disch := omega) only [bnd_ok, gVar_def, gC_def, gOp_def, gUn_def, gNil_def, gCons_def, gIf_def, gTest_def, gNot_def, gAnd_def, gOr_def, gAndV_def, gOrV_def, gNotV_def, gCB_def, asB_b, hAdd_i, hSub_i, hLt_i, hLe_i, hGt_i, hGe_i, hMul_r, hMul_l, hMod_i, hDiv_s, hBand_i, hShr_i, hPow_10_18, hPow_10_27, hPow_10_28, hPow_10_29, hPow_10_30, hEq_i, hNe_i, hLen_l, hLen_t, hMin2_i, hMax2_i, hMin3_i, hInt1_b, hInt1_i, hBits_i, hListOf_l, hListOf_t, hTupOf_l, hTupOf_t, gSeqS_def, gSet_def, gRet_def, gIfS_def, gNext_def, gTup_def, gLst_def, List.getElem?_cons_zero, List.getElem?_cons_succ, List.set_cons_zero, List.set_cons_succ, List.length_cons, List.length_nil, Nat.zero_add, Nat.reduceAdd, Nat.reduceLeDiff, Nat.reduceSub, Nat.reduceMul, if_true, if_false, Bool.false_eq_true, List.replicate_succ, List.replicate_zero, List.cons_append, List.nil_append, tgN, tgT, tgCons, tgNil, Int.reducePow, Int.reduceAdd, Int.reduceSub, Int.reduceMul, decide_true, decide_false, Bool.not_true, Bool.not_false, gChain_def, hIsa_int, hIsa_intb, hIsa_list, hIsa_tuple, gDrop_def, e0, c, beq_self_eq_true], by omega, by omega⟩
    · have c' : (x0 / 6 % 8 == 1) = false := beq_eq_false_iff_ne.mpr c
      exact ⟨1 + x0 % 6, by simp (disch := omega) only [bnd_ok, gVar_def, gC_def, gOp_def, gUn_def, gNil_def, gCons_def, gIf_def, gTest_def, gNot_def, gAnd_def, gOr_def, gAndV_def, gOrV_def, gNotV_def, gCB_def, asB_b, hAdd_i, hSub_i, hLt_i, hLe_i, hGt_i, hGe_i, hMul_r, hMul_l, hMod_i, hDiv_s, hBand_i, hShr_i, hPow_10_18, hPow_10_27, hPow_10_28, hPow_10_29, hPow_10_30, hEq_i, hNe_i, hLen_l, hLen_t, hMin2_i, hMax2_i, hMin3_i, hInt1_b, hInt1_i, hBits_i, hListOf_l, hListOf_t, hTupOf_l, hTupOf_t, gSeqS_def, gSet_def, gRet_def, gIfS_def, gNext_def, gTup_def, gLst_def, List.getElem?_cons_zero, List.getElem?_cons_succ, List.set_cons_zero, List.set_cons_succ, List.length_cons, List.length_nil, Nat.zero_add, Nat.reduceAdd, Nat.reduceLeDiff, Nat.reduceSub, Nat.reduceMul, if_true, if_false, Bool.false_eq_true, List.replicate_succ, List.replicate_zero, List.cons_append, List.nil_append, tgN, tgT, tgCons, tgNil, Int.reducePow, Int.reduceAdd, Int.reduceSub, Int.reduceMul, decide_true, decide_false, Bool.not_true, Bool.not_false, gChain_def, hIsa_int, hIsa_intb, hIsa_list, hIsa_tuple, gDrop_def, e0, c'], by omega, by omega⟩
  rw [seq_nx hn]
  -- many
  rw [seq_nx (ρ' := [.list (ns.map .int), .int most, .int n, .int (x1 % 13), .none, .none, .none, .none, .none, .none]) (by simp (disch := omega) only [bnd_ok, gVar_def, gC_def, gOp_def, gUn_def, gNil_def, gCons_def, gIf_def, gTest_def, gNot_def, gAnd_def, gOr_def, gAndV_def, gOrV_def, gNotV_def, gCB_def, asB_b, hAdd_i, hSub_i, hLt_i, hLe_i, hGt_i, hGe_i, hMul_r, hMul_l, hMod_i, hDiv_s, hBand_i, hShr_i, hPow_10_18, hPow_10_27, hPow_10_28, hPow_10_29, hPow_10_30, hEq_i, hNe_i, hLen_l, hLen_t, hMin2_i, hMax2_i, hMin3_i, hInt1_b, hInt1_i, hBits_i, hListOf_l, hListOf_t, hTupOf_l, hTupOf_t, gSeqS_def, gSet_def, gRet_def, gIfS_def, gNext_def, gTup_def, gLst_def, List.getElem?_cons_zero, List.getElem?_cons_succ, List.set_cons_zero, List.set_cons_succ, List.length_cons, List.length_nil, Nat.zero_add, Nat.reduceAdd, Nat.reduceLeDiff, Nat.reduceSub, Nat.reduceMul, if_true, if_false, Bool.false_eq_true, List.replicate_succ, List.replicate_zero, List.cons_append, List.nil_append, tgN, tgT, tgCons, tgNil, Int.reducePow, Int.reduceAdd, Int.reduceSub, Int.reduceMul, decide_true, decide_false, Bool.not_true, Bool.not_false, gChain_def, hIsa_int, hIsa_intb, hIsa_list, hIsa_tuple, gDrop_def, e1])]
  obtain ⟨many, hm, m0, m60⟩ : ∃ n', gIfS (gTest (gOp hEq (gOp hMod (gOp hDiv (gOp hIx (gVar 0) (gC (.int (1)))) (gC (.int (13)))) (gC (.int (8)))) (gC (.int (1))))) (gSet 3 (gOp hAdd (gC (.int (13))) (gOp hMod (gOp hDiv (gOp hIx (gVar 0) (gC (.int (1)))) (gC (.int (104)))) (gC (.int (48)))))) gNext
      [.list (ns.map .int), .int most, .int n, .int (x1 % 13), .none, .none, .none, .none, .none, .none] = .ok (.nx [.list (ns.map .int), .int most, .int n, .int n', .none, .none, .none, .none, .none, .none]) ∧ 0 ≤ n' ∧ n' ≤ 60 := by
    by_cases c : x1 / 13 % 8 = 1
    · exact ⟨13 + x1 / 104 % 48, by simp (disch := omega) only [bnd_ok, gVar_def, gC_def, gOp_def, gUn_def, gNil_def, gCons_def, gIf_def, gTest_def, gNot_def, gAnd_def, gOr_def, gAndV_def, gOrV_def, gNotV_def, gCB_def, asB_b, hAdd_i, hSub_i, hLt_i, hLe_i, hGt_i, hGe_i, hMul_r, hMul_l, hMod_i, hDiv_s, hBand_i, hShr_i, hPow_10_18, hPow_10_27, hPow_10_28, hPow_10_29, hPow_10_30, hEq_i, hNe_i, hLen_l, hLen_t, hMin2_i, hMax2_i, hMin3_i, hInt1_b, hInt1_i, hBits_i, hListOf_l, hListOf_t, hTupOf_l, hTupOf_t, gSeqS_def, gSet_def, gRet_def, gIfS_def, gNext_def, gTup_def, gLst_def, List.getElem?_cons_zero, List.getElem?_cons_succ, List.set_cons_zero, List.set_cons_succ, List.length_cons, List.length_nil, Nat.zero_add, Nat.reduceAdd, Nat.reduceLeDiff, Nat.reduceSub, Nat.reduceMul, if_true, if_false, Bool.false_eq_true, List.replicate_succ, List.replicate_zero, List.cons_append, List.nil_append, tgN, tgT, tgCons, tgNil, Int.reducePow, Int.reduceAdd, Int.reduceSub, Int.reduceMul, decide_true, decide_false, Bool.not_true, Bool.not_false, gChain_def, hIsa_int, hIsa_intb, hIsa_list, hIsa_tuple, gDrop_def, e1, c, beq_self_eq_true], by omega, by omega⟩
    · have c' : (x1 / 13 % 8 == 1) = false := beq_eq_false_iff_ne.mpr c
      exact ⟨x1 % 13, by simp (disch := omega) only [bnd_ok, gVar_def, gC_def, gOp_def, gUn_def, gNil_def, gCons_def, gIf_def, gTest_def, gNot_def, gAnd_def, gOr_def, gAndV_def, gOrV_def, gNotV_def, gCB_def, asB_b, hAdd_i, hSub_i, hLt_i, hLe_i, hGt_i, hGe_i, hMul_r, hMul_l, hMod_i, hDiv_s, hBand_i, hShr_i, hPow_10_18, hPow_10_27, hPow_10_28, hPow_10_29, hPow_10_30, hEq_i, hNe_i, hLen_l, hLen_t, hMin2_i, hMax2_i, hMin3_i, hInt1_b, hInt1_i, hBits_i, hListOf_l, hListOf_t, hTupOf_l, hTupOf_t, gSeqS_def, gSet_def, gRet_def, gIfS_def, gNext_def, gTup_def, gLst_def, List.getElem?_cons_zero, List.getElem?_cons_succ, List.set_cons_zero, List.set_cons_succ, List.length_cons, List.length_nil, Nat.zero_add, Nat.reduceAdd, Nat.reduceLeDiff, Nat.reduceSub, Nat.reduceMul, if_true, if_false, Bool.false_eq_true, List.replicate_succ, List.replicate_zero, List.cons_append, List.nil_append, tgN, tgT, tgCons, tgNil, Int.reducePow, Int.reduceAdd, Int.reduceSub, Int.reduceMul, decide_true, decide_false, Bool.not_true, Bool.not_false, gChain_def, hIsa_int, hIsa_intb, hIsa_list, hIsa_tuple, gDrop_def, e1, c'], by omega, by omega⟩
  rw [seq_nx hm]
  -- wide, moment
  obtain ⟨wd, hw, w0, w1⟩ : ∃ wd, gSet 4 (gOp hIx (gLst (gCons (gC (.int (1))) (gCons (gC (.int (4))) (gCons (gOp hPow (gC (.int (10))) (gC (.int (28)))) (gNil))))) (gOp hMod (gOp hIx (gVar 0) (gC (.int (2)))) (gC (.int (3)))))
      [.list (ns.map .int), .int most, .int n, .int many, .none, .none, .none, .none, .none, .none] = .ok (.nx [.list (ns.map .int), .int most, .int n, .int many, .int wd, .none, .none, .none, .none, .none]) ∧ 0 < wd ∧ wd ≤ 10000000000000000000000000000 := by
    refine ⟨if x2 % 3 = 0 then 1 else if x2 % 3 = 1 then 4 else 10000000000000000000000000000, by simp (disch := omega) only [bnd_ok, gVar_def, gC_def, gOp_def, gUn_def, gNil_def, gCons_def, gIf_def, gTest_def, gNot_def, gAnd_def, gOr_def, gAndV_def, gOrV_def, gNotV_def, gCB_def, asB_b, hAdd_i, hSub_i, hLt_i, hLe_i, hGt_i, hGe_i, hMul_r, hMul_l, hMod_i, hDiv_s, hBand_i, hShr_i, hPow_10_18, hPow_10_27, hPow_10_28, hPow_10_29, hPow_10_30, hEq_i, hNe_i, hLen_l, hLen_t, hMin2_i, hMax2_i, hMin3_i, hInt1_b, hInt1_i, hBits_i, hListOf_l, hListOf_t, hTupOf_l, hTupOf_t, gSeqS_def, gSet_def, gRet_def, gIfS_def, gNext_def, gTup_def, gLst_def, List.getElem?_cons_zero, List.getElem?_cons_succ, List.set_cons_zero, List.set_cons_succ, List.length_cons, List.length_nil, Nat.zero_add, Nat.reduceAdd, Nat.reduceLeDiff, Nat.reduceSub, Nat.reduceMul, if_true, if_false, Bool.false_eq_true, List.replicate_succ, List.replicate_zero, List.cons_append, List.nil_append, tgN, tgT, tgCons, tgNil, Int.reducePow, Int.reduceAdd, Int.reduceSub, Int.reduceMul, decide_true, decide_false, Bool.not_true, Bool.not_false, gChain_def, hIsa_int, hIsa_intb, hIsa_list, hIsa_tuple, gDrop_def, e2, ix3], ?_, ?_⟩
    · split <;> (try split) <;> omega
    · split <;> (try split) <;> omega
  rw [seq_nx hw]
  obtain ⟨mo, hmo, mo0, mo1⟩ : ∃ mo, gSet 5 (gOp hIx (gLst (gCons (gC (.int (0))) (gCons (gOp hMod (gOp hDiv (gOp hIx (gVar 0) (gC (.int (2)))) (gC (.int (12)))) (gC (.int (100)))) (gCons (gOp hMod (gOp hIx (gVar 0) (gC (.int (3)))) (gOp hPow (gC (.int (10))) (gC (.int (29))))) (gNil))))) (gOp hMod (gOp hDiv (gOp hIx (gVar 0) (gC (.int (2)))) (gC (.int (3)))) (gC (.int (3)))))
      [.list (ns.map .int), .int most, .int n, .int many, .int wd, .none, .none, .none, .none, .none] = .ok (.nx [.list (ns.map .int), .int most, .int n, .int many, .int wd, .int mo, .none, .none, .none, .none]) ∧ 0 ≤ mo ∧ mo ≤ 100000000000000000000000000000 := by
    refine ⟨if x2 / 3 % 3 = 0 then 0 else if x2 / 3 % 3 = 1 then x2 / 12 % 100 else x3 % 100000000000000000000000000000, by simp (disch := omega) only [bnd_ok, gVar_def, gC_def, gOp_def, gUn_def, gNil_def, gCons_def, gIf_def, gTest_def, gNot_def, gAnd_def, gOr_def, gAndV_def, gOrV_def, gNotV_def, gCB_def, asB_b, hAdd_i, hSub_i, hLt_i, hLe_i, hGt_i, hGe_i, hMul_r, hMul_l, hMod_i, hDiv_s, hBand_i, hShr_i, hPow_10_18, hPow_10_27, hPow_10_28, hPow_10_29, hPow_10_30, hEq_i, hNe_i, hLen_l, hLen_t, hMin2_i, hMax2_i, hMin3_i, hInt1_b, hInt1_i, hBits_i, hListOf_l, hListOf_t, hTupOf_l, hTupOf_t, gSeqS_def, gSet_def, gRet_def, gIfS_def, gNext_def, gTup_def, gLst_def, List.getElem?_cons_zero, List.getElem?_cons_succ, List.set_cons_zero, List.set_cons_succ, List.length_cons, List.length_nil, Nat.zero_add, Nat.reduceAdd, Nat.reduceLeDiff, Nat.reduceSub, Nat.reduceMul, if_true, if_false, Bool.false_eq_true, List.replicate_succ, List.replicate_zero, List.cons_append, List.nil_append, tgN, tgT, tgCons, tgNil, Int.reducePow, Int.reduceAdd, Int.reduceSub, Int.reduceMul, decide_true, decide_false, Bool.not_true, Bool.not_false, gChain_def, hIsa_int, hIsa_intb, hIsa_list, hIsa_tuple, gDrop_def, e2, e3, ix3], ?_, ?_⟩
    · split <;> (try split) <;> omega
    · split <;> (try split) <;> omega
  rw [seq_nx hmo]
  rw [seq_nx (ρ' := [.list (ns.map .int), .int most, .int n, .int many, .int wd, .int mo, .list [], .none, .none, .none]) (by simp (disch := omega) only [bnd_ok, gVar_def, gC_def, gOp_def, gUn_def, gNil_def, gCons_def, gIf_def, gTest_def, gNot_def, gAnd_def, gOr_def, gAndV_def, gOrV_def, gNotV_def, gCB_def, asB_b, hAdd_i, hSub_i, hLt_i, hLe_i, hGt_i, hGe_i, hMul_r, hMul_l, hMod_i, hDiv_s, hBand_i, hShr_i, hPow_10_18, hPow_10_27, hPow_10_28, hPow_10_29, hPow_10_30, hEq_i, hNe_i, hLen_l, hLen_t, hMin2_i, hMax2_i, hMin3_i, hInt1_b, hInt1_i, hBits_i, hListOf_l, hListOf_t, hTupOf_l, hTupOf_t, gSeqS_def, gSet_def, gRet_def, gIfS_def, gNext_def, gTup_def, gLst_def, List.getElem?_cons_zero, List.getElem?_cons_succ, List.set_cons_zero, List.set_cons_succ, List.length_cons, List.length_nil, Nat.zero_add, Nat.reduceAdd, Nat.reduceLeDiff, Nat.reduceSub, Nat.reduceMul, if_true, if_false, Bool.false_eq_true, List.replicate_succ, List.replicate_zero, List.cons_append, List.nil_append, tgN, tgT, tgCons, tgNil, Int.reducePow, Int.reduceAdd, Int.reduceSub, Int.reduceMul, decide_true, decide_false, Bool.not_true, Bool.not_false, gChain_def, hIsa_int, hIsa_intb, hIsa_list, hIsa_tuple, gDrop_def, Nat.zero_le])]
  -- the loop
  obtain ⟨cnt, hc, c0, c1, c2⟩ : ∃ cnt : Nat, gRng1 (gCons (gCB hMin3 (gCons (gVar 3) (gCons (gVar 1) (gCons (gOp hDiv (gOp hSub (gCB hLen (gCons (gVar 0) (gNil))) (gC (.int (4)))) (gC (.int (3)))) (gNil))))) (gNil))
      [.list (ns.map .int), .int most, .int n, .int many, .int wd, .int mo, .list [], .none, .none, .none] = .ok ((List.range cnt).map fun (k : Nat) => PyData.int (k : Int)) ∧ (cnt : Int) ≤ most ∧ cnt ≤ 60 ∧ 3 * cnt + 4 ≤ ns.length := by
    generalize hq : (if most < many then (if ((ns.length : Int) - 4) / 3 < most then ((ns.length : Int) - 4) / 3 else most) else (if ((ns.length : Int) - 4) / 3 < many then ((ns.length : Int) - 4) / 3 else many)) = q
    have q0 : 0 ≤ q ∧ q ≤ most ∧ q ≤ 60 ∧ 3 * q + 4 ≤ ns.length := by
      split at hq <;> split at hq <;> omega
    refine ⟨q.toNat, ?_, by omega, by omega, by omega⟩
    rw [← rangeD_nat, show ((q.toNat : Nat) : Int) = q by omega]
    refine rng1_ok ?_ (by omega) (by omega)
    simp (disch := omega) only [bnd_ok, gVar_def, gC_def, gOp_def, gUn_def, gNil_def, gCons_def, gIf_def, gTest_def, gNot_def, gAnd_def, gOr_def, gAndV_def, gOrV_def, gNotV_def, gCB_def, asB_b, hAdd_i, hSub_i, hLt_i, hLe_i, hGt_i, hGe_i, hMul_r, hMul_l, hMod_i, hDiv_s, hBand_i, hShr_i, hPow_10_18, hPow_10_27, hPow_10_28, hPow_10_29, hPow_10_30, hEq_i, hNe_i, hLen_l, hLen_t, hMin2_i, hMax2_i, hMin3_i, hInt1_b, hInt1_i, hBits_i, hListOf_l, hListOf_t, hTupOf_l, hTupOf_t, gSeqS_def, gSet_def, gRet_def, gIfS_def, gNext_def, gTup_def, gLst_def, List.getElem?_cons_zero, List.getElem?_cons_succ, List.set_cons_zero, List.set_cons_succ, List.length_cons, List.length_nil, Nat.zero_add, Nat.reduceAdd, Nat.reduceLeDiff, Nat.reduceSub, Nat.reduceMul, if_true, if_false, Bool.false_eq_true, List.replicate_succ, List.replicate_zero, List.cons_append, List.nil_append, tgN, tgT, tgCons, tgNil, Int.reducePow, Int.reduceAdd, Int.reduceSub, Int.reduceMul, decide_true, decide_false, Bool.not_true, Bool.not_false, gChain_def, hIsa_int, hIsa_intb, hIsa_list, hIsa_tuple, gDrop_def, List.length_map, hq]
  obtain ⟨ρ', hf, r, m', d7, d8, d9, rfl, hl', hm', hm2, ht, ho, hlt⟩ := forE_ix (fun (k : Nat) => PyData.int (k : Int)) (h := tgN 7) (b := rB) (List.range cnt)
    (fun i ρ => ∃ (r : List T3) (m : Int) (d7 d8 d9 : Dt), ρ = [.list (ns.map .int), .int most, .int n, .int many, .int wd, .int m, .list (r.map enc3), d7, d8, d9] ∧ r.length = i ∧ 0 ≤ m ∧ m ≤ 100000000000000000000000000000 + i * 10000000000000000000000000000 ∧ (∀ t ∈ r, TieOk n t) ∧ (r.Pairwise fun s t => s.1 < t.1) ∧ ∀ t ∈ r, t.1 < m)
    (ρ := [.list (ns.map .int), .int most, .int n, .int many, .int wd, .int mo, .list [], .none, .none, .none]) ⟨[], mo, _, _, _, rfl, rfl, mo0, by omega, by simp, .nil, by simp⟩ (by
      rintro i ρ hi ⟨r, m, d7, d8, d9, rfl, hl', hm', hm2, ht, ho, hlt⟩
      rw [List.getElem_range]
      rw [List.length_range] at hi
      obtain ⟨t, m2, e8, e9, hB, t1, t2, t3, t4, t5, t6⟩ := rB_ok hns hl (k := i) (by omega) n1 w0 hm' (r := r) (by omega) (.int most) (.int many) d8 d9
      have tok : TieOk n t := ⟨by omega, by unfold B30; omega, t2, t3, t4⟩
      obtain ⟨s1, s2⟩ := rec_snoc ht ho tok (fun s hs => by rw [t1]; exact hlt s hs)
      refine ⟨_, _, rfl, .inl hB, r ++ [t], m2, _, _, _, rfl, by rw [List.length_append, hl']; rfl, by omega, by omega, s1, s2, fun s hs => ?_⟩
      rcases List.mem_append.mp hs with h | h
      · have := hlt s h; omega
      · rw [List.mem_singleton.mp h]; omega)
  rw [List.length_range] at hl'
  refine ⟨n, r, (seq_nx (b := gRet (gTup (gCons (gVar 2) (gCons (gVar 6) gNil)))) (for_ok hc hf)).trans ?_, n1, n10, ⟨by omega, ht, ho⟩, by omega⟩
  simp only [bnd_ok, gVar_def, gC_def, gOp_def, gUn_def, gNil_def, gCons_def, gIf_def, gTest_def, gNot_def, gAnd_def, gOr_def, gAndV_def, gOrV_def, gNotV_def, gCB_def, asB_b, hAdd_i, hSub_i, hLt_i, hLe_i, hGt_i, hGe_i, hMul_r, hMul_l, hMod_i, hDiv_s, hBand_i, hShr_i, hPow_10_18, hPow_10_27, hPow_10_28, hPow_10_29, hPow_10_30, hEq_i, hNe_i, hLen_l, hLen_t, hMin2_i, hMax2_i, hMin3_i, hInt1_b, hInt1_i, hBits_i, hListOf_l, hListOf_t, hTupOf_l, hTupOf_t, gSeqS_def, gSet_def, gRet_def, gIfS_def, gNext_def, gTup_def, gLst_def, List.getElem?_cons_zero, List.getElem?_cons_succ, List.set_cons_zero, List.set_cons_succ, List.length_cons, List.length_nil, Nat.zero_add, Nat.reduceAdd, Nat.reduceLeDiff, Nat.reduceSub, Nat.reduceMul, if_true, if_false, Bool.false_eq_true, List.replicate_succ, List.replicate_zero, List.cons_append, List.nil_append, tgN, tgT, tgCons, tgNil, Int.reducePow, Int.reduceAdd, Int.reduceSub, Int.reduceMul, decide_true, decide_false, Bool.not_true, Bool.not_false, gChain_def, hIsa_int, hIsa_intb, hIsa_list, hIsa_tuple, gDrop_def]
end FamA
end T_FamAP
section T_K02P
set_option linter.all false
set_option maxRecDepth 100000
set_option maxHeartbeats 4000000
namespace K02
open PySem Sim FamA
theorem whole_int (z : Int) : f_is_whole [.int z] = .ok (.bool true) := rfl
theorem whole_bool (z : Bool) : f_is_whole [.bool z] = .ok (.bool false) := rfl
theorem place_ok (n z : Int) : f_is_place [.int n, .int z] = .ok (.bool (decide (0 ≤ z) && decide (z < n))) := by
  refine fnN_rt ?_
  show g_is_place [.int n, .int z] = _
  unfold g_is_place
  have e : gCallN 1 f_is_whole (gCons (gVar 1) (gNil)) [.int n, .int z] = .ok (.bool true) := callN_ok (ds := [.int z]) rfl rfl (whole_int z)
  simp only [bnd_ok, gVar_def, gC_def, gOp_def, gUn_def, gNil_def, gCons_def, gIf_def, gTest_def, gNot_def, gAnd_def, gOr_def, gAndV_def, gOrV_def, gNotV_def, gCB_def, asB_b, hAdd_i, hSub_i, hLt_i, hLe_i, hGt_i, hGe_i, hMul_r, hMul_l, hMod_i, hDiv_s, hBand_i, hShr_i, hPow_10_18, hPow_10_27, hPow_10_28, hPow_10_29, hPow_10_30, hEq_i, hNe_i, hLen_l, hLen_t, hMin2_i, hMax2_i, hMin3_i, hInt1_b, hInt1_i, hBits_i, hListOf_l, hListOf_t, hTupOf_l, hTupOf_t, gSeqS_def, gSet_def, gRet_def, gIfS_def, gNext_def, gTup_def, gLst_def, List.getElem?_cons_zero, List.getElem?_cons_succ, List.set_cons_zero, List.set_cons_succ, List.length_cons, List.length_nil, Nat.zero_add, Nat.reduceAdd, Nat.reduceLeDiff, Nat.reduceSub, Nat.reduceMul, if_true, if_false, Bool.false_eq_true, List.replicate_succ, List.replicate_zero, List.cons_append, List.nil_append, tgN, tgT, tgCons, tgNil, Int.reducePow, Int.reduceAdd, Int.reduceSub, Int.reduceMul, decide_true, decide_false, Bool.not_true, Bool.not_false, gChain_def, hIsa_int, hIsa_intb, hIsa_list, hIsa_tuple, gDrop_def, e]
  cases decide (0 ≤ z) <;> rfl
theorem moment_int (z : Int) : f_is_moment [.int z] = .ok (.bool (decide (0 ≤ z) && decide (z ≤ 1000000000000000000000000000000))) := by
  refine fnN_rt ?_
  show g_is_moment [.int z] = _
  unfold g_is_moment
  have e : gCallN 1 f_is_whole (gCons (gVar 0) (gNil)) [.int z] = .ok (.bool true) := callN_ok (ds := [.int z]) rfl rfl (whole_int z)
  simp only [bnd_ok, gVar_def, gC_def, gOp_def, gUn_def, gNil_def, gCons_def, gIf_def, gTest_def, gNot_def, gAnd_def, gOr_def, gAndV_def, gOrV_def, gNotV_def, gCB_def, asB_b, hAdd_i, hSub_i, hLt_i, hLe_i, hGt_i, hGe_i, hMul_r, hMul_l, hMod_i, hDiv_s, hBand_i, hShr_i, hPow_10_18, hPow_10_27, hPow_10_28, hPow_10_29, hPow_10_30, hEq_i, hNe_i, hLen_l, hLen_t, hMin2_i, hMax2_i, hMin3_i, hInt1_b, hInt1_i, hBits_i, hListOf_l, hListOf_t, hTupOf_l, hTupOf_t, gSeqS_def, gSet_def, gRet_def, gIfS_def, gNext_def, gTup_def, gLst_def, List.getElem?_cons_zero, List.getElem?_cons_succ, List.set_cons_zero, List.set_cons_succ, List.length_cons, List.length_nil, Nat.zero_add, Nat.reduceAdd, Nat.reduceLeDiff, Nat.reduceSub, Nat.reduceMul, if_true, if_false, Bool.false_eq_true, List.replicate_succ, List.replicate_zero, List.cons_append, List.nil_append, tgN, tgT, tgCons, tgNil, Int.reducePow, Int.reduceAdd, Int.reduceSub, Int.reduceMul, decide_true, decide_false, Bool.not_true, Bool.not_false, gChain_def, hIsa_int, hIsa_intb, hIsa_list, hIsa_tuple, gDrop_def, e]
  cases decide (0 ≤ z) <;> rfl
theorem moment_bool (z : Bool) : f_is_moment [.bool z] = .ok (.bool false) := by
  refine fnN_rt ?_
  show g_is_moment [.bool z] = _
  unfold g_is_moment
  have e : gCallN 1 f_is_whole (gCons (gVar 0) (gNil)) [.bool z] = .ok (.bool false) := callN_ok (ds := [.bool z]) rfl rfl (whole_bool z)
  simp only [bnd_ok, gVar_def, gC_def, gOp_def, gUn_def, gNil_def, gCons_def, gIf_def, gTest_def, gNot_def, gAnd_def, gOr_def, gAndV_def, gOrV_def, gNotV_def, gCB_def, asB_b, hAdd_i, hSub_i, hLt_i, hLe_i, hGt_i, hGe_i, hMul_r, hMul_l, hMod_i, hDiv_s, hBand_i, hShr_i, hPow_10_18, hPow_10_27, hPow_10_28, hPow_10_29, hPow_10_30, hEq_i, hNe_i, hLen_l, hLen_t, hMin2_i, hMax2_i, hMin3_i, hInt1_b, hInt1_i, hBits_i, hListOf_l, hListOf_t, hTupOf_l, hTupOf_t, gSeqS_def, gSet_def, gRet_def, gIfS_def, gNext_def, gTup_def, gLst_def, List.getElem?_cons_zero, List.getElem?_cons_succ, List.set_cons_zero, List.set_cons_succ, List.length_cons, List.length_nil, Nat.zero_add, Nat.reduceAdd, Nat.reduceLeDiff, Nat.reduceSub, Nat.reduceMul, if_true, if_false, Bool.false_eq_true, List.replicate_succ, List.replicate_zero, List.cons_append, List.nil_append, tgN, tgT, tgCons, tgNil, Int.reducePow, Int.reduceAdd, Int.reduceSub, Int.reduceMul, decide_true, decide_false, Bool.not_true, Bool.not_false, gChain_def, hIsa_int, hIsa_intb, hIsa_list, hIsa_tuple, gDrop_def, e]
theorem meeting_int (n a b c : Int) : f_is_meeting [.int n, .tuple [.int a, .int b, .int c]] = .ok (.bool ((decide (0 ≤ a) && decide (a ≤ 1000000000000000000000000000000)) && ((decide (0 ≤ b) && decide (b < n)) && (decide (0 ≤ c) && decide (c < n))))) := by
  refine fnN_rt ?_
  show g_is_meeting [.int n, .tuple [.int a, .int b, .int c]] = _
  unfold g_is_meeting
  have e0 : gCallN 1 f_is_moment (gCons (gOp hIx (gVar 1) (gC (.int (0)))) (gNil)) [.int n, .tuple [.int a, .int b, .int c]] = _ := callN_ok (ds := [.int a]) rfl rfl (moment_int a)
  have e1 : gCallN 2 f_is_place (gCons (gVar 0) (gCons (gOp hIx (gVar 1) (gC (.int (1)))) (gNil))) [.int n, .tuple [.int a, .int b, .int c]] = _ := callN_ok (ds := [.int n, .int b]) rfl rfl (place_ok n b)
  have e2 : gCallN 2 f_is_place (gCons (gVar 0) (gCons (gOp hIx (gVar 1) (gC (.int (2)))) (gNil))) [.int n, .tuple [.int a, .int b, .int c]] = _ := callN_ok (ds := [.int n, .int c]) rfl rfl (place_ok n c)
  have e3 : gTest (gUn (hIsa .tuple) (gVar 1)) [.int n, .tuple [.int a, .int b, .int c]] = .ok true := rfl
  have e4 : gTest (gOp hNe (gCB hLen (gCons (gVar 1) (gNil))) (gC (.int (3)))) [.int n, .tuple [.int a, .int b, .int c]] = .ok false := by
    rw [gTest_def, gOp_def]
    show bnd (hNe (.int 3) (.int 3)) asB = _
    rw [hNe_i]
    rfl
  cases hm : (decide (0 ≤ a) && decide (a ≤ 1000000000000000000000000000000)) with
  | false =>
    rw [hm] at e0
    refine seq_rt (Eq.trans (if_t ?_) rfl)
    simp only [gOr_def, gNot_def, e3, e4, gTest_def, e0, bnd_ok, asB_b, Bool.not_true, Bool.not_false, Bool.false_eq_true, if_false, if_true]
  | true =>
    rw [hm] at e0
    refine seq_step (Eq.trans (if_f ?_) rfl) ?_
    · simp only [gOr_def, gNot_def, e3, e4, gTest_def, e0, bnd_ok, asB_b, Bool.not_true, Bool.not_false, Bool.false_eq_true, if_false, if_true]
    · refine ret_ok ?_
      rw [gAndV_def, e1, bnd_ok, asB_b, bnd_ok, e2]
      cases (decide (0 ≤ b) && decide (b < n)) <;> rfl
theorem enc_canLay : ∀ r : List T3, PyData.canLayAll0 (r.map enc3) = true
  | [] => rfl
  | t :: r => by
    rw [List.map_cons]
    unfold PyData.canLayAll0
    rw [enc_canLay r]
    rfl
theorem enc_depth : ∀ r : List T3, PyData.depthAll (r.map enc3) ≤ 1
  | [] => by simp [PyData.depthAll]
  | t :: r => by
    rw [List.map_cons]
    unfold PyData.depthAll
    have := enc_depth r
    have e : (enc3 t).depth = 1 := rfl
    rw [e]
    omega
theorem enc_shaped (r : List T3) : SeqAt.shaped (.list (r.map enc3)) = true := by
  have := enc_depth r
  simp [SeqAt.shaped, PyData.canLay0, PyData.depth, enc_canLay]
  omega
theorem hNe_nil (r : List T3) : hNe (.list (r.map enc3)) (.list []) = .ok (.bool (!r.isEmpty)) := by
  have e := enc_shaped []
  rw [List.map_nil] at e
  unfold hNe
  rw [enc_shaped, e]
  cases r with
  | nil => simp [PyData.eqv, PyData.eqvAll]
  | cons t r => simp [PyData.eqv, PyData.eqvAll]
theorem gLst_nil (ρ : List Dt) : gLst gNil ρ = .ok (.list []) := by rw [gLst_def, gNil_def, bnd_ok, if_pos (by simp)]
theorem many_ok {n : Int} (n1 : 1 ≤ n) (n10 : n ≤ 10) : f_is_many [.int n] = .ok (.bool true) := by
  refine fnN_rt ?_
  show g_is_many [.int n] = _
  unfold g_is_many
  have e : gCallN 1 f_is_whole (gCons (gVar 0) (gNil)) [.int n] = .ok (.bool true) := callN_ok (ds := [.int n]) rfl rfl (whole_int n)
  have e1 : decide ((1 : Int) ≤ n) = true := by rw [decide_eq_true_eq]; exact n1
  have e2 : decide (n ≤ (10 : Int)) = true := by rw [decide_eq_true_eq]; exact n10
  simp only [bnd_ok, gVar_def, gC_def, gOp_def, gUn_def, gNil_def, gCons_def, gIf_def, gTest_def, gNot_def, gAnd_def, gOr_def, gAndV_def, gOrV_def, gNotV_def, gCB_def, asB_b, hAdd_i, hSub_i, hLt_i, hLe_i, hGt_i, hGe_i, hMul_r, hMul_l, hMod_i, hDiv_s, hBand_i, hShr_i, hPow_10_18, hPow_10_27, hPow_10_28, hPow_10_29, hPow_10_30, hEq_i, hNe_i, hLen_l, hLen_t, hMin2_i, hMax2_i, hMin3_i, hInt1_b, hInt1_i, hBits_i, hListOf_l, hListOf_t, hTupOf_l, hTupOf_t, gSeqS_def, gSet_def, gRet_def, gIfS_def, gNext_def, gTup_def, gLst_def, List.getElem?_cons_zero, List.getElem?_cons_succ, List.set_cons_zero, List.set_cons_succ, List.length_cons, List.length_nil, Nat.zero_add, Nat.reduceAdd, Nat.reduceLeDiff, Nat.reduceSub, Nat.reduceMul, if_true, if_false, Bool.false_eq_true, List.replicate_succ, List.replicate_zero, List.cons_append, List.nil_append, tgN, tgT, tgCons, tgNil, Int.reducePow, Int.reduceAdd, Int.reduceSub, Int.reduceMul, decide_true, decide_false, Bool.not_true, Bool.not_false, gChain_def, hIsa_int, hIsa_intb, hIsa_list, hIsa_tuple, gDrop_def, e, e1, e2]
def turn (t : T3) : T3 := (t.1, t.2.2, t.2.1)
def norm (t : T3) : T3 := (t.1, (if t.2.2 < t.2.1 then t.2.2 else t.2.1), (if t.2.2 > t.2.1 then t.2.2 else t.2.1))
def toL (t : T3) : List Int := [t.1, t.2.1, t.2.2]
theorem toL_inj {s t : T3} (h : toL s = toL t) : s = t := by
  unfold toL at h
  injection h with h1 h
  injection h with h2 h
  injection h with h3 h
  exact Prod.ext h1 (Prod.ext h2 h3)
structure Good (n : Int) (r : List T3) : Prop where
  len : r.length ≤ 60
  ok : ∀ t ∈ r, (0 ≤ t.1 ∧ t.1 ≤ 1000000000000000000000000000000) ∧ 0 ≤ t.2.1 ∧ t.2.1 ≤ t.2.2 ∧ t.2.2 < n
  ord : r.Pairwise fun s t => s.1 < t.1
theorem Good.take {n : Int} {r : List T3} (h : Good n r) (k : Nat) : Good n (r.take k) := ⟨by rw [List.length_take]; have := h.len; omega, fun t ht => h.ok t (List.mem_of_mem_take ht), List.Pairwise.sublist (List.take_sublist _ _) h.ord⟩
theorem Good.filter {n : Int} {r : List T3} (h : Good n r) (p : T3 → Bool) : Good n (r.filter p) := ⟨Nat.le_trans (List.length_filter_le _ _) h.len, fun t ht => h.ok t (List.mem_filter.mp ht).1, h.ord.filter _⟩
theorem norm_of {n : Int} {r : List T3} (hg : Good n r) {x t : T3} (ht : t ∈ r) (h : x = t ∨ x = turn t) : norm x = t := by
  obtain ⟨_, _, hab, _⟩ := hg.ok t ht
  unfold norm turn at *
  rcases h with rfl | rfl
  · refine Prod.ext rfl (Prod.ext ?_ ?_)
    · show (if x.2.2 < x.2.1 then x.2.2 else x.2.1) = x.2.1
      rw [if_neg (by omega)]
    · show (if x.2.2 > x.2.1 then x.2.2 else x.2.1) = x.2.2
      split <;> omega
  · refine Prod.ext rfl (Prod.ext ?_ ?_)
    · show (if t.2.1 < t.2.2 then t.2.1 else t.2.2) = t.2.1
      split <;> omega
    · show (if t.2.1 > t.2.2 then t.2.1 else t.2.2) = t.2.2
      rw [if_neg (by omega)]
def stp (D : List T3) (x : T3) : List T3 := if norm x ∈ D then D else D ++ [norm x]
def kE (t : T3) : Dt × Dt := (enc3 t, .bool true)
theorem isT_enc (t s : T3) : isT (toL t) (enc3 s) = decide (s = t) := by
  show decide (allI ((toL s).map PyData.int) = some (toL t)) = _
  rw [allI_map]
  refine decide_eq_decide.mpr ⟨fun h => toL_inj (Option.some.inj h), fun h => by rw [h]⟩
theorem put_enc (D : List T3) (t : T3) : tPut (D.map kE) (toL t) (.bool true) = (if t ∈ D then D else D ++ [t]).map kE := by
  unfold tPut
  have e : ((D.map kE).any fun e => isT (toL t) e.1) = decide (t ∈ D) := by
    rw [List.any_map, Bool.eq_iff_iff, List.any_eq_true, decide_eq_true_eq]
    constructor
    · rintro ⟨s, hs, h⟩
      have h : isT (toL t) (enc3 s) = true := h
      rw [isT_enc, decide_eq_true_eq] at h
      rw [← h]
      exact hs
    · intro h
      refine ⟨t, h, ?_⟩
      show isT (toL t) (enc3 t) = true
      rw [isT_enc]
      simp
  rw [e]
  by_cases c : t ∈ D
  · rw [if_pos c, if_pos (by simpa using c)]
    rw [List.map_map]
    refine List.map_congr_left fun s _ => ?_
    show (if isT (toL t) (enc3 s) = true then (enc3 s, PyData.bool true) else kE s) = kE s
    split <;> rfl
  · rw [if_neg c, if_neg (by simpa using c), List.map_append]
    rfl
end K02
end T_K02P
section T_LeP
set_option linter.all false
set_option maxRecDepth 100000
namespace Sim
open PySem
def OLe {α : Type} (a b : O α) : Prop := ∀ r, a = .ok r → b = .ok r
theorem OLe.refl {α : Type} (a : O α) : OLe a a := fun _ h => h
theorem callX_ex {n : Nat} {g : List Dt → O Dt} {gA : List Dt → O (List Dt)} {ρ ds : List Dt} {e : Exn} (h1 : gA ρ = .ok ds) (h2 : ds.length = n) (h3 : g ds = .ex e) : gCallX n g gA ρ = .ex e := by
  unfold gCallX
  rw [h1, bnd_ok, if_pos h2, h3]
theorem drop_ex {g : Gd} {ρ : List Dt} {e : Exn} (h : g ρ = .ex e) : gDrop g ρ = .ex e := by unfold gDrop; rw [h]; rfl
theorem seq_ex {a b : Gs} {ρ : List Dt} {e : Exn} (h : a ρ = .ex e) : gSeqS a b ρ = .ex e := by unfold gSeqS; rw [h]
theorem fnLX_ex {m : Nat} {g : Gs} {ds : List Dt} {e : Exn} (h : g (ds ++ List.replicate (m - ds.length) .none) = .ex e) : fnLX m g ds = .ex e := by unfold fnLX; rw [h]
theorem try_ex {gb gh : Gs} {yes no : List Str} {i : Nat} {ρ : List Dt} {c : Str} {m : Option Int} {a : Fl} (h : gb ρ = .ex ⟨c, m⟩) (hc : yes.contains c = true) (k : gh (ρ.set i (exnD c m)) = .ok a) : gTry gb yes no i gh ρ = .ok a := by
  unfold gTry
  rw [h]
  show (if yes.contains c then noX (gh (ρ.set i (exnD c m))) else _) = _
  rw [if_pos hc, k]
  rfl
theorem hIx_ds {ds : List Dt} {i : Nat} (h : i < ds.length) : hIx (.list ds) (.int (i : Nat)) = .ok ds[i] := by
  have q := hIx_l (atI_map id (xs := ds) (i := (i : Int)) (by omega) (by omega))
  rw [List.map_id] at q
  exact q
end Sim
end T_LeP
section T_EqP
set_option linter.all false
set_option maxRecDepth 100000
namespace Sim
open PySem
theorem layA_of {ds : List PyData} (h : ∀ d ∈ ds, PyData.canLay0 d = true) : PyData.canLayAll0 ds = true := by
  induction ds with
  | nil => rfl
  | cons d ds ih =>
    unfold PyData.canLayAll0
    rw [h d List.mem_cons_self, ih fun e he => h e (List.mem_cons_of_mem _ he)]
    rfl
theorem depA_of {ds : List PyData} {m : Nat} (h : ∀ d ∈ ds, PyData.depth d ≤ m) : PyData.depthAll ds ≤ m := by
  induction ds with
  | nil => unfold PyData.depthAll; omega
  | cons d ds ih =>
    unfold PyData.depthAll
    have h1 := h d List.mem_cons_self
    have h2 := ih fun e he => h e (List.mem_cons_of_mem _ he)
    omega
def Shp (m : Nat) (d : PyData) : Prop := PyData.canLay0 d = true ∧ PyData.depth d ≤ m
theorem Shp.shaped {m : Nat} {d : PyData} (h : Shp m d) (hm : m ≤ 64) : SeqAt.shaped d = true := by
  unfold SeqAt.shaped
  rw [h.1, decide_eq_true (by have := h.2; omega)]
  rfl
theorem shp_int (i : Int) (m : Nat) : Shp m (.int i) := ⟨rfl, by unfold PyData.depth; omega⟩
theorem shp_tup {ds : List PyData} {m : Nat} (h : ∀ d ∈ ds, Shp m d) : Shp (m + 1) (.tuple ds) := ⟨by unfold PyData.canLay0; exact layA_of fun d hd => (h d hd).1, by
  unfold PyData.depth
  have := depA_of fun d hd => (h d hd).2
  omega⟩
theorem Shp.mono {m k : Nat} {d : PyData} (h : Shp m d) (hm : m ≤ k) : Shp k d := ⟨h.1, Nat.le_trans h.2 hm⟩
theorem shp_intsT (xs : List Int) (m : Nat) : Shp (m + 1) (.tuple (xs.map .int)) := shp_tup fun d hd => by
  obtain ⟨x, _, rfl⟩ := List.mem_map.mp hd
  exact shp_int x m
end Sim
end T_EqP
section T_FlowM
set_option linter.all false
set_option maxRecDepth 100000
namespace Flow
open PySem Sim FamA
def upd (φ : Int → Int) (m z : Int) : Int → Int := fun x => if x = m then z else φ x
theorem upd_ne {φ : Int → Int} {m z x : Int} (h : x ≠ m) : upd φ m z x = φ x := if_neg h
def rimB (S : Int → Bool) (t : T3) : Bool := S t.2.1 != S t.2.2
def rimN (ts : List T3) (S : Int → Bool) : Nat := (ts.filter (rimB S)).length
def goT (φ : Int → Int) (t : T3) (h : Int) : Option Int :=
  if t.2.1 = t.2.2 then none else if h = t.2.1 ∧ φ t.1 < 1 then some t.2.2 else if h = t.2.2 ∧ -1 < φ t.1 then some t.2.1 else none
abbrev CL := List (Int × Option (Int × T3))
def kys (cs : CL) : List Int := cs.map (·.1)
inductive Came (φ : Int → Int) (ts : List T3) (s : Int) : CL → Prop
  | one : Came φ ts s [(s, none)]
  | snoc {cs : CL} {h p : Int} {t : T3} : Came φ ts s cs → h ∈ kys cs → t ∈ ts → goT φ t h = some p → p ∉ kys cs → Came φ ts s (cs ++ [(p, some (h, t))])
theorem kys_snoc (cs : CL) (x : Int × Option (Int × T3)) : kys (cs ++ [x]) = kys cs ++ [x.1] := by unfold kys; rw [List.map_append]; rfl
theorem Came.first {φ : Int → Int} {ts : List T3} {s : Int} {cs : CL} (h : Came φ ts s cs) : s ∈ kys cs := by
  induction h with
  | one => exact List.mem_singleton.mpr rfl
  | snoc _ _ _ _ _ ih => rw [kys_snoc]; exact List.mem_append_left _ ih
end Flow
end T_FlowM
section T_FlowN
set_option linter.all false
set_option maxRecDepth 100000
namespace Flow
open PySem Sim FamA
structure Good (n : Int) (r : List T3) : Prop where
  len : r.length ≤ 60
  ok : ∀ t ∈ r, (0 ≤ t.1 ∧ t.1 ≤ 1000000000000000000000000000000) ∧ 0 ≤ t.2.1 ∧ t.2.1 ≤ t.2.2 ∧ t.2.2 < n
  ord : r.Pairwise fun s t => s.1 < t.1
theorem Good.sub {n : Int} {q r : List T3} (h : Good n r) (s : q.Sublist r) : Good n q := ⟨Nat.le_trans s.length_le h.len, fun t ht => h.ok t (s.subset ht), h.ord.sublist s⟩
theorem Good.filter {n : Int} {r : List T3} (h : Good n r) (p : T3 → Bool) : Good n (r.filter p) := h.sub List.filter_sublist
theorem rimN_sub {q r : List T3} (s : q.Sublist r) (S : Int → Bool) : rimN q S ≤ rimN r S := (s.filter _).length_le
def oth (r : List T3) (t : T3) : List T3 := r.filter fun s => !(s.1 == t.1)
theorem oth_mono {q r : List T3} (s : q.Sublist r) (t : T3) : (oth q t).Sublist (oth r t) := s.filter _
def Strong (ts : List T3) (a b : Int) (k : Nat) : Prop := ∀ S : Int → Bool, S a ≠ S b → k ≤ rimN ts S
def Need (k : Nat) (K : List T3) (t : T3) : Prop := t.2.1 ≠ t.2.2 ∧ ¬ Strong (oth K t) t.2.1 t.2.2 k
theorem Need.mono {k : Nat} {q r : List T3} {t : T3} (s : q.Sublist r) (h : Need k r t) : Need k q t := ⟨h.1, fun z => h.2 fun S hS => Nat.le_trans (z S hS) (rimN_sub (oth_mono s t) S)⟩
end Flow
end T_FlowN
section T_FlowS
set_option linter.all false
set_option maxRecDepth 100000
namespace Flow
open PySem Sim FamA
end Flow
end T_FlowS
section T_FamL
set_option linter.all false
namespace FamL
open PySem Sim
def g_is_whole : Gs := gRet (gAndV (gUn (hIsa .int) (gVar 0)) (gNotV (gUn (hIsa .bool) (gVar 0))))
def f_is_whole : List Dt → O Dt := fnN 1 g_is_whole
end FamL
end T_FamL
section T_ConnP
set_option linter.all false
set_option maxRecDepth 100000
namespace Lay
open PySem Sim FamA
def E2 (ts : List T3) (b c : Int) : Prop := ∃ t ∈ ts, (t.2.1 = b ∧ t.2.2 = c) ∨ (t.2.1 = c ∧ t.2.2 = b)
inductive Conn (ts : List T3) : Int → Int → Prop
  | refl (a : Int) : Conn ts a a
  | step {a b c : Int} : Conn ts a b → E2 ts b c → Conn ts a c
section
variable {ts ts' : List T3} {a b c p q n : Int} {t : T3} {ms : List Int}
theorem E2.symm (h : E2 ts b c) : E2 ts c b := by
  obtain ⟨t, h1, h2⟩ := h
  exact ⟨t, h1, h2.symm⟩
theorem Conn.one (h : E2 ts a b) : Conn ts a b := .step (.refl a) h
theorem Conn.trans (h : Conn ts a b) (k : Conn ts b c) : Conn ts a c := by
  induction k with
  | refl => exact h
  | step _ e ih => exact .step ih e
theorem Conn.symm (h : Conn ts a b) : Conn ts b a := by
  induction h with
  | refl => exact .refl _
  | step _ e ih => exact (Conn.one e.symm).trans ih
theorem Conn.mono (h : ∀ b c, E2 ts b c → Conn ts' b c) (k : Conn ts a b) : Conn ts' a b := by
  induction k with
  | refl => exact .refl _
  | step _ e ih => exact ih.trans (h _ _ e)
theorem Conn.sub (h : ∀ t ∈ ts, t ∈ ts') (k : Conn ts a b) : Conn ts' a b := k.mono fun b c ⟨t, h1, h2⟩ => .one ⟨t, h t h1, h2⟩
theorem conn_mem (h : ∀ t, t ∈ ts ↔ t ∈ ts') : Conn ts a b ↔ Conn ts' a b := ⟨fun k => k.sub fun t => (h t).mp, fun k => k.sub fun t => (h t).mpr⟩
theorem conn_nil : Conn [] a b ↔ a = b := by
  constructor
  · intro h
    cases h with
    | refl => rfl
    | step _ e => obtain ⟨t, h1, _⟩ := e; cases h1
  · rintro rfl; exact .refl _
theorem conn_cons : Conn (t :: ts) p q ↔ Conn ts p q ∨ (Conn ts p t.2.1 ∧ Conn ts t.2.2 q) ∨ (Conn ts p t.2.2 ∧ Conn ts t.2.1 q) := by
  constructor
  · intro h
    induction h with
    | refl => exact .inl (.refl _)
    | step _ e ih =>
      obtain ⟨s, hs, e⟩ := e
      rcases List.mem_cons.mp hs with rfl | hs
      · rcases e with ⟨rfl, rfl⟩ | ⟨rfl, rfl⟩
        · rcases ih with h | ⟨h, _⟩ | ⟨h, _⟩
          · exact .inr (.inl ⟨h, .refl _⟩)
          · exact .inr (.inl ⟨h, .refl _⟩)
          · exact .inl h
        · rcases ih with h | ⟨h, _⟩ | ⟨h, _⟩
          · exact .inr (.inr ⟨h, .refl _⟩)
          · exact .inl h
          · exact .inr (.inr ⟨h, .refl _⟩)
      · have e := Conn.one (ts := ts) ⟨s, hs, e⟩
        rcases ih with h | ⟨h, k⟩ | ⟨h, k⟩
        · exact .inl (h.trans e)
        · exact .inr (.inl ⟨h, k.trans e⟩)
        · exact .inr (.inr ⟨h, k.trans e⟩)
  · have up : ∀ {x y}, Conn ts x y → Conn (t :: ts) x y := fun h => h.sub fun _ => List.mem_cons_of_mem _
    have e : Conn (t :: ts) t.2.1 t.2.2 := .one ⟨t, List.mem_cons_self, .inl ⟨rfl, rfl⟩⟩
    rintro (h | ⟨h, k⟩ | ⟨h, k⟩)
    · exact up h
    · exact (up h).trans (e.trans (up k))
    · exact (up h).trans (e.symm.trans (up k))
def gx (ms : List Int) (a : Int) : Int := ms.getD a.toNat 0
structure MK (n : Int) (ms : List Int) (ts : List T3) : Prop where
  len : ms.length = n.toNat
  ker : ∀ a b, 0 ≤ a → a < n → 0 ≤ b → b < n → (gx ms a = gx ms b ↔ Conn ts a b)
theorem gx_map (f : Int → Int) (h0 : 0 ≤ a) (h1 : a.toNat < ms.length) : gx (ms.map f) a = f (gx ms a) := by
  unfold gx
  rw [List.getD_eq_getElem?_getD, List.getD_eq_getElem?_getD, List.getElem?_map, List.getElem?_eq_getElem h1]
  rfl
theorem gx_pl (h0 : 0 ≤ a) (h1 : a < n) : gx (pl n) a = a := by
  unfold gx pl
  rw [List.getD_eq_getElem?_getD, List.getElem?_map, List.getElem?_range (by omega)]
  show ((a.toNat : Nat) : Int) = a
  omega
theorem MK.zero : MK n (pl n) [] := ⟨pl_len n, fun a b a0 an b0 bn => by rw [gx_pl a0 an, gx_pl b0 bn, conn_nil]⟩
theorem MK.step (h : MK n ms ts) (a0 : 0 ≤ t.2.1) (a1 : t.2.1 < n) (b0 : 0 ≤ t.2.2) (b1 : t.2.2 < n) {x y : Int}
    (hxy : (x = gx ms t.2.1 ∧ y = gx ms t.2.2) ∨ (x = gx ms t.2.2 ∧ y = gx ms t.2.1)) : MK n (ms.map fun m => if m = x then y else m) (t :: ts) := by
  refine ⟨by rw [List.length_map]; exact h.len, fun p q p0 pn q0 qn => ?_⟩
  rw [gx_map _ p0 (by rw [h.len]; omega), gx_map _ q0 (by rw [h.len]; omega), conn_cons, ← h.ker p q p0 pn q0 qn, ← h.ker p _ p0 pn a0 a1, ← h.ker _ q b0 b1 q0 qn, ← h.ker p _ p0 pn b0 b1, ← h.ker _ q a0 a1 q0 qn]
  generalize gx ms p = u at *
  generalize gx ms q = v at *
  generalize gx ms t.2.1 = A at *
  generalize gx ms t.2.2 = B at *
  rcases hxy with ⟨rfl, rfl⟩ | ⟨rfl, rfl⟩
  · split <;> split <;> constructor <;> intro h <;> omega
  · split <;> split <;> constructor <;> intro h <;> omega
theorem MK.mem (h : MK n ms ts) (e : ∀ t, t ∈ ts ↔ t ∈ ts') : MK n ms ts' := ⟨h.len, fun a b a0 an b0 bn => (h.ker a b a0 an b0 bn).trans (conn_mem e)⟩
def layer (j : Int) (s : List T3) (ns : List Int) : List T3 := ((s.zip ns).filter fun p => p.2 == j).map (·.1)
open Classical in
noncomputable def fj (p : Nat → Prop) (lo : Nat) : Nat → Int
  | 0 => 0
  | m + 1 => if p lo then (lo : Int) + 1 else fj p (lo + 1) m
noncomputable def num (k : Nat) (s : List T3) (ns : List Int) (a b : Int) : Int := fj (fun j => ¬ Conn (layer ((j : Int) + 1) s ns) a b) 0 k
noncomputable def lay (k : Nat) : List T3 → List Int
  | [] => []
  | t :: s => num k s (lay k s) t.2.1 t.2.2 :: lay k s
theorem lay_cons (k : Nat) (t : T3) (s : List T3) : lay k (t :: s) = num k s (lay k s) t.2.1 t.2.2 :: lay k s := rfl
theorem layer_cons (j x : Int) (t : T3) (s : List T3) (ns : List Int) : layer j (t :: s) (x :: ns) = if x = j then t :: layer j s ns else layer j s ns := by
  unfold layer
  rw [List.zip_cons_cons, List.filter_cons]
  by_cases h : x = j
  · simp [h]
  · simp [h]
theorem fj_t {p : Nat → Prop} {lo : Nat} (m : Nat) (h : p lo) : fj p lo (m + 1) = (lo : Int) + 1 := by unfold fj; rw [if_pos h]
theorem fj_f {p : Nat → Prop} {lo : Nat} (m : Nat) (h : ¬ p lo) : fj p lo (m + 1) = fj p (lo + 1) m := by
  conv => lhs; unfold fj
  exact if_neg h
def lfr (a b : Int) : List (List Int) → Nat → Int
  | [], _ => 0
  | ms :: rows, lo => if gx ms a = gx ms b then lfr a b rows (lo + 1) else (lo : Int) + 1
theorem lfr_fj (p : Nat → Prop) : ∀ (rows : List (List Int)) (lo : Nat), (∀ i (h : i < rows.length), gx rows[i] a = gx rows[i] b ↔ ¬ p (lo + i)) → lfr a b rows lo = fj p lo rows.length
  | [], _, _ => rfl
  | ms :: rows, lo, h => by
    have h0 := h 0 (by rw [List.length_cons]; omega)
    have e := lfr_fj p rows (lo + 1) fun i hi => by
      have := h (i + 1) (by rw [List.length_cons]; omega)
      rw [List.getElem_cons_succ] at this
      rw [this, show lo + 1 + i = lo + (i + 1) by omega]
    rw [List.getElem_cons_zero, Nat.add_zero] at h0
    unfold lfr
    rw [List.length_cons]
    by_cases c : gx ms a = gx ms b
    · rw [if_pos c, fj_f _ (h0.mp c), e]
    · rw [if_neg c, fj_t _ (Classical.byContradiction fun z => c (h0.mpr z))]
structure RowsOk (n : Int) (k : Nat) (rows : List (List Int)) (s : List T3) : Prop where
  len : rows.length = k
  mkr : ∀ j (h : j < rows.length), MK n rows[j] (layer ((j : Int) + 1) s (lay k s))
theorem RowsOk.zero {k : Nat} : RowsOk n k (List.replicate k (pl n)) [] := ⟨List.length_replicate .., fun j h => by
  rw [List.getElem_replicate]
  exact MK.zero⟩
theorem RowsOk.num {k : Nat} {rows : List (List Int)} {s : List T3} (h : RowsOk n k rows s) (a0 : 0 ≤ a) (an : a < n) (b0 : 0 ≤ b) (bn : b < n) : lfr a b rows 0 = num k s (lay k s) a b := by
  rw [lfr_fj (fun j => ¬ Conn (layer ((j : Int) + 1) s (lay k s)) a b) rows 0 fun i hi => ?_, h.len]
  · rfl
  · rw [Nat.zero_add, Classical.not_not]
    exact (h.mkr i hi).ker a b a0 an b0 bn
theorem RowsOk.put {k : Nat} {rows : List (List Int)} {s : List T3} (h : RowsOk n k rows s) (a0 : 0 ≤ t.2.1) (a1 : t.2.1 < n) (b0 : 0 ≤ t.2.2) (b1 : t.2.2 < n) {j : Nat} (hj : j < rows.length) (e : Lay.num k s (lay k s) t.2.1 t.2.2 = (j : Int) + 1) {x y : Int}
    (hxy : (x = gx rows[j] t.2.1 ∧ y = gx rows[j] t.2.2) ∨ (x = gx rows[j] t.2.2 ∧ y = gx rows[j] t.2.1)) : RowsOk n k (rows.set j (rows[j].map fun m => if m = x then y else m)) (t :: s) := ⟨by rw [List.length_set]; exact h.len, fun i hi => by
  rw [List.length_set] at hi
  rw [lay_cons, layer_cons, e]
  by_cases c : j = i
  · subst c
    rw [List.getElem_set_self, if_pos rfl]
    exact (h.mkr j hj).step a0 a1 b0 b1 hxy
  · rw [List.getElem_set_ne c, if_neg (by omega)]
    exact h.mkr i hi⟩
end
end Lay
end T_ConnP
section T_FamLP
set_option linter.all false
set_option maxRecDepth 100000
set_option maxHeartbeats 1000000
namespace FamL
open PySem Sim FamA Lay
end FamL
end T_FamLP
section T_K10M
set_option linter.all false
set_option maxRecDepth 100000
namespace K10
open PySem Sim FamA FamL Lay
def kp (r : List T3) (ns : List Int) : List T3 := ((r.zip ns).filter fun q => decide (0 < q.2)).map (·.1)
theorem cut {P : Int → Int} {ts : List T3} {a b : Int} (h : Conn ts a b) (hab : P a ≠ P b) : ∃ w ∈ ts, P w.2.1 ≠ P w.2.2 := by
  induction h with
  | refl => exact absurd rfl hab
  | step h e ih =>
    rename_i u v
    by_cases c : P a = P u
    · obtain ⟨w, hw, e⟩ := e
      refine ⟨w, hw, ?_⟩
      rw [c] at hab
      rcases e with ⟨e1, e2⟩ | ⟨e1, e2⟩
      · rw [e1, e2]; exact hab
      · rw [e1, e2]; exact fun z => hab z.symm
    · exact ih c
def ovP (P : Int → Int) (t : Int) (w : T3) : Bool := decide (t ≤ w.1) && !(P w.2.1 == P w.2.2)
def over (P : Int → Int) (t : Int) (ts : List T3) : List Int := (ts.filter (ovP P t)).map (·.1)
end K10
end T_K10M
section T_K12M
set_option linter.all false
set_option maxRecDepth 100000
namespace K12
open PySem Sim FamA FamL Lay
def Rot (f : Int → Int) : List T3 → List T3 → Prop
  | [], [] => True
  | t' :: s', t :: s => ((t'.2.1 = f t.2.1 ∧ t'.2.2 = f t.2.2) ∨ (t'.2.1 = f t.2.2 ∧ t'.2.2 = f t.2.1)) ∧ Rot f s' s
  | _, _ => False
theorem Rot.len {f : Int → Int} : ∀ {s' s : List T3}, Rot f s' s → s'.length = s.length
  | [], [], _ => rfl
  | _ :: _, _ :: _, h => by rw [List.length_cons, List.length_cons, Rot.len h.2]
  | [], _ :: _, h => h.elim
  | _ :: _, [], h => h.elim
theorem Rot.snoc {f : Int → Int} {t' t : T3} (ht : (t'.2.1 = f t.2.1 ∧ t'.2.2 = f t.2.2) ∨ (t'.2.1 = f t.2.2 ∧ t'.2.2 = f t.2.1)) : ∀ {s' s : List T3}, Rot f s' s → Rot f (s' ++ [t']) (s ++ [t])
  | [], [], _ => ⟨ht, trivial⟩
  | _ :: _, _ :: _, h => ⟨h.1, Rot.snoc ht h.2⟩
  | [], _ :: _, h => h.elim
  | _ :: _, [], h => h.elim
theorem Rot.layer {f : Int → Int} (j : Int) : ∀ {s' s : List T3} (ns : List Int), Rot f s' s → Rot f (layer j s' ns) (Lay.layer j s ns)
  | [], [], _, _ => trivial
  | _ :: _, _ :: _, [], _ => trivial
  | t' :: s', t :: s, x :: ns, h => by
    rw [layer_cons, layer_cons]
    have ih := Rot.layer j ns h.2
    split
    · exact ⟨h.1, ih⟩
    · exact ih
  | [], _ :: _, _, h => h.elim
  | _ :: _, [], _, h => h.elim
end K12
end T_K12M
section T_K24M
set_option linter.all false
set_option maxRecDepth 100000
namespace K24
open PySem Sim FamA FamL Lay
end K24
end T_K24M
section T_FlowT
set_option linter.all false
set_option maxRecDepth 100000
namespace Flow
open PySem Sim FamA
end Flow
end T_FlowT
section T_K70M
set_option linter.all false
set_option maxRecDepth 100000
namespace Flow
open PySem Sim FamA Lay K24
end Flow
end T_K70M
section T_CutsP
set_option linter.all false
set_option maxRecDepth 100000
namespace Cuts
open PySem Sim Flow FamA Lay K24
open PySem.W (alike alikeAll dataLe dataLt AllAlike)
def cutD (s : List Int) (m : List Int) : Dt := .tuple [encL s, .list (m.map .int)]
theorem alk : ∀ xs ys : List Int, alikeAll (xs.map PyData.int) (ys.map PyData.int) = true := PySem.W.alike_ints
theorem alk_L (s t : List Int) : alike (encL s) (encL t) = true := by
  unfold encL
  rw [alike]
  exact alk s t
theorem shp_L (s : List Int) : Shp 1 (encL s) := shp_intsT s 0
end Cuts
end T_CutsP
section T_K02R
set_option linter.all false
set_option maxRecDepth 100000
set_option maxHeartbeats 4000000
namespace K02
open PySem Sim FamA L2
open PySem.W (dataLe)
theorem forE_exAt {α : Type} (enc : α → Dt) {h : Dt → List Dt → O (List Dt)} {b : Gs} {e : Exn} : ∀ (xs : List α) (I : Nat → List Dt → Prop) {ρ : List Dt} (h0 : I 0 ρ) (j : Nat) (hj : j < xs.length)
    (step : ∀ (i : Nat) (ρ : List Dt) (hi : i < j), I i ρ → ∃ ρ1 ρ2, h (enc (xs[i]'(by omega))) ρ = .ok ρ1 ∧ b ρ1 = .ok (.nx ρ2) ∧ I (i + 1) ρ2)
    (last : ∀ ρ, I j ρ → ∃ ρ1, h (enc xs[j]) ρ = .ok ρ1 ∧ b ρ1 = .ex e), forE h b (xs.map enc) ρ = .ex e := by
  intro xs
  induction xs with
  | nil => intro I ρ h0 j hj; exact absurd hj (Nat.not_lt_zero _)
  | cons x xs ih =>
    intro I ρ h0 j hj step last
    rw [List.map_cons, forE]
    cases j with
    | zero =>
      obtain ⟨ρ1, e1, e2⟩ := last ρ h0
      have e1 : h (enc x) ρ = .ok ρ1 := e1
      simp only [e1, e2]
      rfl
    | succ j =>
      obtain ⟨ρ1, ρ2, e1, e2, e3⟩ := step 0 ρ (by omega) h0
      have e1 : h (enc x) ρ = .ok ρ1 := e1
      simp only [e1, e2, bnd_ok]
      exact ih (fun i => I (i + 1)) e3 j (by simpa using hj) (fun i ρ hi hI => by
        have := step (i + 1) ρ (by omega) hI
        simpa using this) (fun ρ hI => by
        have := last ρ hI
        simpa using this)
theorem for_exA {gi : List Dt → O (List Dt)} {h : Dt → List Dt → O (List Dt)} {b : Gs} {ρ ds : List Dt} {e : Exn} (h1 : gi ρ = .ok ds) (h2 : forE h b ds ρ = .ex e) : gFor gi h b ρ = .ex e := by
  unfold gFor
  rw [h1, bnd_ok, h2]
theorem le_headT {x y : Int} {xs ys : List Int} (h : x :: xs ≤ y :: ys) : x ≤ y := by
  rcases List.cons_le_cons_iff.mp h with h | h
  · omega
  · omega
theorem toL_le : dataLe false enc3 = fun p q => decide (toL p ≤ toL q) := by
  have e := PySem.W.dataLe_rows toL
  rw [PySem.W.dataLe_eq] at e ⊢
  rw [← e]
  rfl
theorem okD3 (L : List T3) : okData (L.map enc3) = true := by
  unfold okData
  rw [Bool.and_eq_true, Bool.and_eq_true, Bool.or_eq_true]
  refine ⟨⟨List.all_eq_true.mpr fun d hd => List.all_eq_true.mpr fun e he => ?_, .inl (List.all_eq_true.mpr fun d hd => ?_)⟩, List.all_eq_true.mpr fun d hd => ?_⟩
  · obtain ⟨s, _, rfl⟩ := List.mem_map.mp hd
    obtain ⟨t, _, rfl⟩ := List.mem_map.mp he
    exact Cuts.alk_L (toL s) (toL t)
  · obtain ⟨s, _, rfl⟩ := List.mem_map.mp hd
    rfl
  · obtain ⟨s, _, rfl⟩ := List.mem_map.mp hd
    rw [Bool.and_eq_true, decide_eq_true_eq]
    have q := Cuts.shp_L (toL s)
    exact ⟨q.1, Nat.le_trans q.2 (by omega)⟩
theorem sortK_enc (L : List T3) : sortK (L.map enc3) (L.map enc3) = (L.mergeSort (dataLe false enc3)).map enc3 := by
  unfold sortK
  have e : (L.map enc3).zip (L.map enc3) = L.map fun s => (enc3 s, enc3 s) := by
    induction L with
    | nil => rfl
    | cons x L ih => rw [List.map_cons, List.zip_cons_cons, ih, List.map_cons]
  rw [e, ← List.map_mergeSort (f := fun s => (enc3 s, enc3 s)) (r := dataLe false enc3) (s := dataLe false Prod.snd) (fun a _ b _ => rfl), List.map_map]
  rfl
theorem sortD_ok (D : List T3) : ∃ G : List T3, one hSortD [.list (D.map enc3)] = .ok (.list (G.map enc3)) ∧ G.Perm D ∧ G.Pairwise fun s t => s.1 ≤ t.1 := by
  refine ⟨D.mergeSort (dataLe false enc3), ?_, List.mergeSort_perm _ _, ?_⟩
  · unfold one hSortD
    simp only
    rw [if_pos (okD3 D), sortK_enc]
  · have := List.pairwise_mergeSort (le := dataLe false enc3) (fun a b c h1 h2 => by
      rw [toL_le] at h1 h2 ⊢
      simp only [decide_eq_true_eq] at h1 h2 ⊢
      exact List.le_trans h1 h2) (fun a b => by
      rw [toL_le]
      simp only [Bool.or_eq_true, decide_eq_true_eq]
      exact List.le_total _ _) D
    refine this.imp fun {s t} h => ?_
    rw [toL_le] at h
    have h : toL s ≤ toL t := by simpa using h
    exact le_headT h
theorem stp_nodup {D : List T3} {x : T3} (h : D.Nodup) : (stp D x).Nodup := by
  unfold stp
  split
  · exact h
  · rename_i c
    rw [List.nodup_append]
    exact ⟨h, List.nodup_cons.mpr ⟨by simp, List.nodup_nil⟩, fun a ha b hb e => c (by rw [List.mem_singleton.mp hb] at e; exact e ▸ ha)⟩
theorem stp_mem {D : List T3} {x t : T3} : t ∈ stp D x ↔ t ∈ D ∨ t = norm x := by
  unfold stp
  split
  · rename_i c
    exact ⟨.inl, fun h => h.elim id fun e => e ▸ c⟩
  · rw [List.mem_append, List.mem_singleton]
theorem tput_ok {i : Nat} {gv : Gd} {gA : List Dt → O (List Dt)} {ρ : List Dt} {es : List (Dt × Dt)} {ns : List Int} {v : Dt} (h1 : gv ρ = .ok v) (h2 : dAt ρ i = some es) (h3 : gA ρ = .ok (ns.map .int)) (h4 : es.length < 100000) (h5 : ns.length ≤ 1000) : gTPut i gv gA ρ = .ok (.nx (ρ.set i (.dict (tPut es ns v)))) := by
  unfold gTPut
  rw [h1, bnd_ok, h2]
  simp only [h3, bnd_ok, allI_map]
  rw [if_pos ⟨h4, h5⟩]
def Meet (n : Int) (t : T3) : Prop := (0 ≤ t.1 ∧ t.1 ≤ 1000000000000000000000000000000) ∧ (0 ≤ t.2.1 ∧ t.2.1 < n) ∧ 0 ≤ t.2.2 ∧ t.2.2 < n
theorem meet_ok {n : Int} {x : T3} (h : Meet n x) : f_is_meeting [.int n, enc3 x] = .ok (.bool true) := by
  have q := meeting_int n x.1 x.2.1 x.2.2
  obtain ⟨⟨h1, h2⟩, ⟨h3, h4⟩, h5, h6⟩ := h
  rw [decide_eq_true h1, decide_eq_true h2, decide_eq_true h3, decide_eq_true h4, decide_eq_true h5, decide_eq_true h6] at q
  exact q
theorem fill_ok {n : Int} {Th : List T3} (hl : Th.length ≤ 1000) : ∃ (x4 x5 x6 : Dt) (D : List T3), D.Nodup ∧ (∀ t, t ∈ D ↔ ∃ x ∈ Th, norm x = t) ∧ D.length ≤ Th.length ∧
    gFor (gSeq (gVar 1)) (tgT (tgCons (tgN 4) (tgCons (tgN 5) (tgCons (tgN 6) (tgNil))))) g_record_of_L1 [.int n, .list (Th.map enc3), .none, .dict [], .none, .none, .none, .none, .none] = .ok (.nx [.int n, .list (Th.map enc3), .none, .dict (D.map kE), x4, x5, x6, .none, .none]) := by
  obtain ⟨ρ', hf, x4, x5, x6, D, rfl, hnd, hmem, hDl⟩ := forE_ix enc3 (h := tgT (tgCons (tgN 4) (tgCons (tgN 5) (tgCons (tgN 6) (tgNil))))) (b := g_record_of_L1) Th
    (fun i ρ => ∃ (x4 x5 x6 : Dt) (D : List T3), ρ = [.int n, .list (Th.map enc3), .none, .dict (D.map kE), x4, x5, x6, .none, .none] ∧ D.Nodup ∧ (∀ t, t ∈ D ↔ ∃ x ∈ Th.take i, norm x = t) ∧ D.length ≤ i)
    (ρ := [.int n, .list (Th.map enc3), .none, .dict (([] : List T3).map kE), .none, .none, .none, .none, .none]) ⟨.none, .none, .none, [], rfl, List.nodup_nil, (fun t => by simp), Nat.le_refl _⟩ (by
      rintro i ρ hi ⟨x4, x5, x6, D, rfl, hnd, hmem, hDl⟩
      have es : Th.take (i + 1) = Th.take i ++ [Th[i]] := by
        rw [List.take_add_one, List.getElem?_eq_getElem hi]
        rfl
      rw [es]
      generalize Th.take i = Q at *
      generalize Th[i] = t at *
      have hput := put_enc D (norm t)
      refine ⟨_, _, rfl, .inl ?_, .int t.1, .int t.2.1, .int t.2.2, stp D t, rfl, stp_nodup hnd, fun s => ?_, ?_⟩
      · unfold g_record_of_L1
        have ea : gCons (gVar 4) (gCons (gCB hMin2 (gCons (gVar 5) (gCons (gVar 6) (gNil)))) (gCons (gCB hMax2 (gCons (gVar 5) (gCons (gVar 6) (gNil)))) (gNil))) [.int n, .list (Th.map enc3), .none, .dict (D.map kE), .int t.1, .int t.2.1, .int t.2.2, .none, .none] = .ok ((toL (norm t)).map .int) := by
          simp only [bnd_ok, gVar_def, gC_def, gOp_def, gUn_def, gNil_def, gCons_def, gIf_def, gTest_def, gNot_def, gAnd_def, gOr_def, gAndV_def, gOrV_def, gNotV_def, gCB_def, asB_b, hAdd_i, hSub_i, hLt_i, hLe_i, hGt_i, hGe_i, hMul_r, hMul_l, hMod_i, hDiv_s, hBand_i, hShr_i, hPow_10_18, hPow_10_27, hPow_10_28, hPow_10_29, hPow_10_30, hEq_i, hNe_i, hLen_l, hLen_t, hMin2_i, hMax2_i, hMin3_i, hInt1_b, hInt1_i, hBits_i, hListOf_l, hListOf_t, hTupOf_l, hTupOf_t, gSeqS_def, gSet_def, gRet_def, gIfS_def, gNext_def, gTup_def, gLst_def, List.getElem?_cons_zero, List.getElem?_cons_succ, List.set_cons_zero, List.set_cons_succ, List.length_cons, List.length_nil, Nat.zero_add, Nat.reduceAdd, Nat.reduceLeDiff, Nat.reduceSub, Nat.reduceMul, if_true, if_false, Bool.false_eq_true, List.replicate_succ, List.replicate_zero, List.cons_append, List.nil_append, tgN, tgT, tgCons, tgNil, Int.reducePow, Int.reduceAdd, Int.reduceSub, Int.reduceMul, decide_true, decide_false, Bool.not_true, Bool.not_false, gChain_def, hIsa_int, hIsa_intb, hIsa_list, hIsa_tuple, gDrop_def]
          rfl
        have ed : dAt [.int n, .list (Th.map enc3), .none, .dict (D.map kE), .int t.1, .int t.2.1, .int t.2.2, .none, .none] 3 = some (D.map kE) := rfl
        refine (tput_ok (ρ := [.int n, .list (Th.map enc3), .none, .dict (D.map kE), .int t.1, .int t.2.1, .int t.2.2, .none, .none]) (v := .bool true) rfl ed ea (by rw [List.length_map]; omega) (by show 3 ≤ 1000; omega)).trans ?_
        rw [hput]
        rfl
      · rw [stp_mem, hmem]
        constructor
        · rintro (⟨x, hx, e⟩ | e)
          · exact ⟨x, List.mem_append_left _ hx, e⟩
          · exact ⟨t, List.mem_append_right _ (List.mem_singleton.mpr rfl), e.symm⟩
        · rintro ⟨x, hx, e⟩
          rcases List.mem_append.mp hx with hx | hx
          · exact .inl ⟨x, hx, e⟩
          · rw [List.mem_singleton.mp hx] at e
            exact .inr e.symm
      · unfold stp
        split
        · omega
        · rw [List.length_append, List.length_singleton]; omega)
  rw [List.take_length] at hmem
  exact ⟨x4, x5, x6, D, hnd, hmem, hDl, for_ok rfl hf⟩
theorem sort_ok {n : Int} {Th D : List T3} {x4 x5 x6 : Dt} : ∃ G : List T3, gCB (one hSortD) (gCons (gTKeys 3) (gNil)) [.int n, .list (Th.map enc3), .none, .dict (D.map kE), x4, x5, x6, .none, .none] = .ok (.list (G.map enc3)) ∧ G.Perm D ∧ G.Pairwise fun s t => s.1 ≤ t.1 := by
  obtain ⟨G, h1, h2, h3⟩ := sortD_ok D
  refine ⟨G, ?_, h2, h3⟩
  have hkeys : gTKeys 3 [.int n, .list (Th.map enc3), .none, .dict (D.map kE), x4, x5, x6, .none, .none] = .ok (.list (D.map enc3)) := by
    unfold gTKeys
    have ed : dAt [.int n, .list (Th.map enc3), .none, .dict (D.map kE), x4, x5, x6, .none, .none] 3 = some (D.map kE) := rfl
    simp only [ed]
    rw [List.map_map]
    rfl
  rw [gCB_def, gCons_def, hkeys, bnd_ok, gNil_def, bnd_ok, bnd_ok, h1]
theorem no_places {d : Dt} {x : Dt} (h : f_is_many [d] = .ok (.bool false)) : f_record_of [d, x] = .ex ⟨"NoPlaces", none⟩ := by
  refine fnLX_ex ?_
  show g_record_of [d, x, .none, .none, .none, .none, .none, .none, .none] = _
  unfold g_record_of
  have e : gCallN 1 f_is_many (gCons (gVar 0) (gNil)) [d, x, .none, .none, .none, .none, .none, .none, .none] = .ok (.bool false) := callN_ok (ds := [d]) rfl rfl h
  refine seq_ex ((if_t ?_).trans rfl)
  rw [gNot_def, gTest_def, e]
  rfl
theorem guard1 {n : Int} {x : Dt} (n1 : 1 ≤ n) (n10 : n ≤ 10) : gIfS (gNot (gTest (gCallN 1 f_is_many (gCons (gVar 0) (gNil))))) (gRaise "NoPlaces") (gNext) [.int n, x, .none, .none, .none, .none, .none, .none, .none] = .ok (.nx [.int n, x, .none, .none, .none, .none, .none, .none, .none]) := by
  have e : gCallN 1 f_is_many (gCons (gVar 0) (gNil)) [.int n, x, .none, .none, .none, .none, .none, .none, .none] = .ok (.bool true) := callN_ok (ds := [.int n]) rfl rfl (many_ok n1 n10)
  refine (if_f ?_).trans rfl
  rw [gNot_def, gTest_def, e]
  rfl
theorem no_list {n : Int} {x : Dt} (n1 : 1 ≤ n) (n10 : n ≤ 10) (h : hIsa .list x = .ok (.bool false)) : f_record_of [.int n, x] = .ex ⟨"NoTies", none⟩ := by
  refine fnLX_ex ?_
  show g_record_of [.int n, x, .none, .none, .none, .none, .none, .none, .none] = _
  unfold g_record_of
  refine seq_step (guard1 n1 n10) ?_
  refine seq_ex ((if_t ?_).trans rfl)
  have e : gTest (gUn (hIsa .list) (gVar 1)) [.int n, x, .none, .none, .none, .none, .none, .none, .none] = .ok false := by
    rw [gTest_def, gUn_def, gVar_def]
    show bnd (hIsa .list x) asB = _
    rw [h]
    rfl
  rw [gOr_def, gNot_def, e]
  rfl
theorem all_meet {n : Int} {ds : List Dt} {p : Dt → Bool} (hl : ds.length ≤ 1000) (h : ∀ d ∈ ds, f_is_meeting [.int n, d] = .ok (.bool (p d))) :
    gOr (gNot (gTest (gUn (hIsa .list) (gVar 1)))) (gNot (gTest (gCB hAll (gCons (gLc (gSeq (gVar 1)) (tgN 2) (gYes) (gCallN 2 f_is_meeting (gCons (gVar 0) (gCons (gVar 2) (gNil))))) (gNil))))) [.int n, .list ds, .none, .none, .none, .none, .none, .none, .none] = .ok (!ds.all p) := by
  have hq := gLc_map (fun d : Dt => d) (fun _ => true) (fun d => PyData.bool (p d)) (gi := gSeq (gVar 1)) (h := tgN 2) (gt := gYes) (ge := gCallN 2 f_is_meeting (gCons (gVar 0) (gCons (gVar 2) (gNil)))) (ρ := [.int n, .list ds, .none, .none, .none, .none, .none, .none, .none]) (xs := ds) (by rw [List.map_id']; rfl) (by omega) fun d hd => ⟨_, rfl, rfl, fun _ => callN_ok (ds := [.int n, d]) rfl rfl (h d hd)⟩
  rw [List.filter_eq_self.mpr (fun _ _ => rfl)] at hq
  have hq2 : ds.map (fun d => PyData.bool (p d)) = (ds.map p).map .bool := by rw [List.map_map]; rfl
  rw [hq2] at hq
  have hab := hAll_b (ds.map p)
  have hi : gTest (gUn (hIsa .list) (gVar 1)) [.int n, .list ds, .none, .none, .none, .none, .none, .none, .none] = .ok true := rfl
  have e3 : (ds.map p).all id = ds.all p := by rw [List.all_map]; rfl
  rw [e3] at hab
  rw [gOr_def, gNot_def, hi, bnd_ok, gNot_def, gTest_def, gCB_def, gCons_def, hq, bnd_ok, gNil_def, bnd_ok, bnd_ok, bnd_ok, hab]
  rfl
theorem no_ties {n : Int} {ds : List Dt} {p : Dt → Bool} (n1 : 1 ≤ n) (n10 : n ≤ 10) (hl : ds.length ≤ 1000) (h : ∀ d ∈ ds, f_is_meeting [.int n, d] = .ok (.bool (p d))) {d : Dt} (hd : d ∈ ds) (hp : p d = false) : f_record_of [.int n, .list ds] = .ex ⟨"NoTies", none⟩ := by
  refine fnLX_ex ?_
  show g_record_of [.int n, .list ds, .none, .none, .none, .none, .none, .none, .none] = _
  unfold g_record_of
  refine seq_step (guard1 n1 n10) ?_
  refine seq_ex ((if_t ?_).trans rfl)
  rw [all_meet hl h]
  have : ds.all p = false := List.all_eq_false.mpr ⟨d, hd, by rw [hp]; exact Bool.false_ne_true⟩
  rw [this]
  rfl
theorem to_ties {n : Int} {Th : List T3} (n1 : 1 ≤ n) (n10 : n ≤ 10) (hl : Th.length ≤ 1000) (hm : ∀ x ∈ Th, Meet n x) : ∃ (x4 x5 x6 : Dt) (D G : List T3), D.Nodup ∧ (∀ t, t ∈ D ↔ ∃ x ∈ Th, norm x = t) ∧ G.Perm D ∧ (G.Pairwise fun s t => s.1 ≤ t.1) ∧ D.length ≤ Th.length ∧
    ∀ r, (gSeqS (gIfS (gTest (gOp hGt (gCB hLen (gCons (gVar 7) (gNil))) (gC (.int (60))))) (gRaise "NoTies") (gNext)) (gSeqS (gFor (gRng2 (gCons (gC (.int (1))) (gCons (gCB hLen (gCons (gVar 7) (gNil))) (gNil)))) (tgN 8) g_record_of_L2) (gRet (gVar 7)))) [.int n, .list (Th.map enc3), .none, .dict (D.map kE), x4, x5, x6, .list (G.map enc3), .none] = r →
      g_record_of [.int n, .list (Th.map enc3), .none, .none, .none, .none, .none, .none, .none] = r := by
  obtain ⟨x4, x5, x6, D, hnd, hmem, hDl, hf⟩ := fill_ok (n := n) hl
  obtain ⟨G, hs, hp, hso⟩ := sort_ok (n := n) (Th := Th) (D := D) (x4 := x4) (x5 := x5) (x6 := x6)
  refine ⟨x4, x5, x6, D, G, hnd, hmem, hp, hso, hDl, fun r hr => ?_⟩
  unfold g_record_of
  refine seq_step (guard1 n1 n10) ?_
  refine seq_step ((if_f ?_).trans rfl) ?_
  · have q := all_meet (n := n) (ds := Th.map enc3) (p := fun _ => true) (by rw [List.length_map]; exact hl) (fun d hd => by
      obtain ⟨x, hx, rfl⟩ := List.mem_map.mp hd
      exact meet_ok (hm x hx))
    rw [q, show (Th.map enc3).all (fun _ => true) = true by simp]
    rfl
  refine seq_step (set_ok (d := .dict []) rfl) ?_
  dsimp only [List.set]
  refine seq_step hf ?_
  refine seq_step (set_ok hs) ?_
  dsimp only [List.set]
  exact hr
theorem many_ties {n : Int} {Th : List T3} (n1 : 1 ≤ n) (n10 : n ≤ 10) (hl : Th.length ≤ 1000) (hm : ∀ x ∈ Th, Meet n x) (hid : ∀ x ∈ Th, norm x = x) (hnd : Th.Nodup) (h60 : 60 < Th.length) : f_record_of [.int n, .list (Th.map enc3)] = .ex ⟨"NoTies", none⟩ := by
  refine fnLX_ex ?_
  obtain ⟨x4, x5, x6, D, G, hD, hmem, hp, hso, _, hr⟩ := to_ties n1 n10 hl hm
  refine hr _ ?_
  have hP : D.Perm Th := (List.perm_ext_iff_of_nodup hD hnd).mpr fun t => by
    rw [hmem]
    exact ⟨fun ⟨x, hx, e⟩ => by rw [hid x hx] at e; exact e ▸ hx, fun h => ⟨t, h, hid t h⟩⟩
  have hgl : G.length = Th.length := by rw [hp.length_eq, hP.length_eq]
  have e : decide ((60 : Int) < (G.length : Int)) = true := by rw [decide_eq_true_eq]; omega
  refine seq_ex ((if_t ?_).trans rfl)
  simp only [bnd_ok, gVar_def, gC_def, gOp_def, gUn_def, gNil_def, gCons_def, gIf_def, gTest_def, gNot_def, gAnd_def, gOr_def, gAndV_def, gOrV_def, gNotV_def, gCB_def, asB_b, hAdd_i, hSub_i, hLt_i, hLe_i, hGt_i, hGe_i, hMul_r, hMul_l, hMod_i, hDiv_s, hBand_i, hShr_i, hPow_10_18, hPow_10_27, hPow_10_28, hPow_10_29, hPow_10_30, hEq_i, hNe_i, hLen_l, hLen_t, hMin2_i, hMax2_i, hMin3_i, hInt1_b, hInt1_i, hBits_i, hListOf_l, hListOf_t, hTupOf_l, hTupOf_t, gSeqS_def, gSet_def, gRet_def, gIfS_def, gNext_def, gTup_def, gLst_def, List.getElem?_cons_zero, List.getElem?_cons_succ, List.set_cons_zero, List.set_cons_succ, List.length_cons, List.length_nil, Nat.zero_add, Nat.reduceAdd, Nat.reduceLeDiff, Nat.reduceSub, Nat.reduceMul, if_true, if_false, Bool.false_eq_true, List.replicate_succ, List.replicate_zero, List.cons_append, List.nil_append, tgN, tgT, tgCons, tgNil, Int.reducePow, Int.reduceAdd, Int.reduceSub, Int.reduceMul, decide_true, decide_false, Bool.not_true, Bool.not_false, gChain_def, hIsa_int, hIsa_intb, hIsa_list, hIsa_tuple, gDrop_def, List.length_map, e]
theorem first_dup {G : List T3} (hn : G.Nodup) (ho : G.Pairwise fun s t => s.1 ≤ t.1) {m : Int} (hm : ∃ s ∈ G, ∃ t ∈ G, s ≠ t ∧ s.1 = m ∧ t.1 = m) (hl : ∀ s ∈ G, ∀ t ∈ G, s ≠ t → s.1 = t.1 → m ≤ s.1) :
    ∃ j, ∃ h : j + 1 < G.length, (G[j]'(by omega)).1 = G[j + 1].1 ∧ G[j + 1].1 = m ∧ ∀ i, ∀ hi : i < j, (G[i]'(by omega)).1 ≠ (G[i + 1]'(by omega)).1 := by
  have key : ∃ j, ∃ h : j + 1 < G.length, (G[j]'(by omega)).1 = G[j + 1].1 ∧ G[j + 1].1 = m := by
    obtain ⟨s, hs, t, ht, hst, es, et⟩ := hm
    obtain ⟨i, hi, rfl⟩ := List.getElem_of_mem hs
    obtain ⟨k, hk, rfl⟩ := List.getElem_of_mem ht
    have mono : ∀ a b, ∀ (ha : a < G.length) (hb : b < G.length), a ≤ b → (G[a]).1 ≤ (G[b]).1 := fun a b ha hb hab => by
      rcases Nat.lt_or_eq_of_le hab with h | h
      · exact List.pairwise_iff_getElem.mp ho a b ha hb h
      · subst h; exact Int.le_refl _
    rcases Nat.lt_trichotomy i k with h | h | h
    · refine ⟨i, by omega, ?_, ?_⟩
      · have h1 := mono i (i + 1) (by omega) (by omega) (by omega)
        have h2 := mono (i + 1) k (by omega) (by omega) (by omega)
        omega
      · have h1 := mono i (i + 1) (by omega) (by omega) (by omega)
        have h2 := mono (i + 1) k (by omega) (by omega) (by omega)
        omega
    · subst h; exact absurd rfl hst
    · refine ⟨k, by omega, ?_, ?_⟩
      · have h1 := mono k (k + 1) (by omega) (by omega) (by omega)
        have h2 := mono (k + 1) i (by omega) (by omega) (by omega)
        omega
      · have h1 := mono k (k + 1) (by omega) (by omega) (by omega)
        have h2 := mono (k + 1) i (by omega) (by omega) (by omega)
        omega
  obtain ⟨j0, h0, e0, em⟩ := key
  -- the first one
  have ex : ∀ d j, ∀ h : j + 1 < G.length, j ≤ d → (G[j]'(by omega)).1 = G[j + 1].1 → ∃ j', ∃ h : j' + 1 < G.length, j' ≤ j ∧ (G[j']'(by omega)).1 = G[j' + 1].1 ∧ ∀ i, ∀ hi : i < j', (G[i]'(by omega)).1 ≠ (G[i + 1]'(by omega)).1 := by
    intro d
    induction d with
    | zero =>
      intro j h hj e
      exact ⟨j, h, Nat.le_refl _, e, fun i hi => by omega⟩
    | succ d ih =>
      intro j h hj e
      by_cases c : ∃ i, ∃ hi : i < j, (G[i]'(by omega)).1 = (G[i + 1]'(by omega)).1
      · obtain ⟨i, hi, ei⟩ := c
        obtain ⟨j', h', l', a, b⟩ := ih i (by omega) (by omega) ei
        exact ⟨j', h', by omega, a, b⟩
      · exact ⟨j, h, Nat.le_refl _, e, fun i hi ei => c ⟨i, hi, ei⟩⟩
  obtain ⟨j, h, l, e, hf⟩ := ex j0 j0 h0 (Nat.le_refl _) e0
  refine ⟨j, h, e, ?_, hf⟩
  have hne : G[j] ≠ G[j + 1] := fun z => by
    have := (List.getElem_inj hn).mp z
    omega
  have h1 := hl _ (List.getElem_mem (by omega)) _ (List.getElem_mem h) hne e
  have h2 : G[j + 1].1 ≤ m := by
    rw [← em]
    rcases Nat.lt_or_eq_of_le l with q | q
    · exact List.pairwise_iff_getElem.mp ho (j + 1) (j0 + 1) h h0 (by omega)
    · subst q; exact Int.le_refl _
  omega
theorem clash_ok {n : Int} {Th : List T3} (n1 : 1 ≤ n) (n10 : n ≤ 10) (hl : Th.length ≤ 60) (hm : ∀ x ∈ Th, Meet n x) {m : Int} (hx : ∃ s ∈ Th, ∃ t ∈ Th, norm s ≠ norm t ∧ s.1 = m ∧ t.1 = m) (hle : ∀ s ∈ Th, ∀ t ∈ Th, norm s ≠ norm t → s.1 = t.1 → m ≤ s.1) :
    f_record_of [.int n, .list (Th.map enc3)] = .ex ⟨"Clash", some m⟩ := by
  refine fnLX_ex ?_
  obtain ⟨x4, x5, x6, D, G, hD, hmem, hp, hso, hDl, hr⟩ := to_ties n1 n10 (by omega) hm
  refine hr _ ?_
  have hG : ∀ t, t ∈ G ↔ ∃ x ∈ Th, norm x = t := fun t => by rw [hp.mem_iff, hmem]
  have hGn : G.Nodup := hp.nodup_iff.mpr hD
  have n1' : ∀ x : T3, (norm x).1 = x.1 := fun _ => rfl
  have hlen : G.length ≤ 60 := by
    rw [hp.length_eq]
    omega
  obtain ⟨j, hj, ej, em, hf⟩ := first_dup (m := m) hGn hso (by
    obtain ⟨s, hs, t, ht, hne, es, et⟩ := hx
    exact ⟨norm s, (hG _).mpr ⟨s, hs, rfl⟩, norm t, (hG _).mpr ⟨t, ht, rfl⟩, hne, es, et⟩) (by
    intro s hs t ht hne e
    obtain ⟨x, hx, rfl⟩ := (hG s).mp hs
    obtain ⟨y, hy, rfl⟩ := (hG t).mp ht
    exact hle x hx y hy hne e)
  have e60 : decide ((60 : Int) < (G.length : Int)) = false := by rw [decide_eq_false_iff_not]; omega
  refine seq_step ((if_f ?_).trans rfl) ?_
  · simp only [bnd_ok, gVar_def, gC_def, gOp_def, gUn_def, gNil_def, gCons_def, gIf_def, gTest_def, gNot_def, gAnd_def, gOr_def, gAndV_def, gOrV_def, gNotV_def, gCB_def, asB_b, hAdd_i, hSub_i, hLt_i, hLe_i, hGt_i, hGe_i, hMul_r, hMul_l, hMod_i, hDiv_s, hBand_i, hShr_i, hPow_10_18, hPow_10_27, hPow_10_28, hPow_10_29, hPow_10_30, hEq_i, hNe_i, hLen_l, hLen_t, hMin2_i, hMax2_i, hMin3_i, hInt1_b, hInt1_i, hBits_i, hListOf_l, hListOf_t, hTupOf_l, hTupOf_t, gSeqS_def, gSet_def, gRet_def, gIfS_def, gNext_def, gTup_def, gLst_def, List.getElem?_cons_zero, List.getElem?_cons_succ, List.set_cons_zero, List.set_cons_succ, List.length_cons, List.length_nil, Nat.zero_add, Nat.reduceAdd, Nat.reduceLeDiff, Nat.reduceSub, Nat.reduceMul, if_true, if_false, Bool.false_eq_true, List.replicate_succ, List.replicate_zero, List.cons_append, List.nil_append, tgN, tgT, tgCons, tgNil, Int.reducePow, Int.reduceAdd, Int.reduceSub, Int.reduceMul, decide_true, decide_false, Bool.not_true, Bool.not_false, gChain_def, hIsa_int, hIsa_intb, hIsa_list, hIsa_tuple, gDrop_def, List.length_map, e60]
  have at_r : ∀ {j : Nat} (h : j < G.length), hIx (.list (G.map enc3)) (.int j) = .ok (enc3 G[j]) := fun {j} h => by
    refine hIx_l ?_
    have hlt : ((j : Nat) : Int) < (G.length : Int) := by omega
    rw [atI_map enc3 (by omega) hlt]
    simp only [Int.toNat_natCast]
  have ix0 : ∀ t : T3, hIx (enc3 t) (.int 0) = .ok (.int t.1) := fun _ => rfl
  have tst : ∀ i, ∀ hi : i + 1 < G.length, gTest (gOp hEq (gOp hIx (gOp hIx (gVar 7) (gOp hSub (gVar 8) (gC (.int (1))))) (gC (.int (0)))) (gOp hIx (gOp hIx (gVar 7) (gVar 8)) (gC (.int (0))))) [.int n, .list (Th.map enc3), .none, .dict (D.map kE), x4, x5, x6, .list (G.map enc3), .int (1 + (i : Int))] = .ok ((G[i]'(by omega)).1 == G[i + 1].1) := fun i hi => by
    have h1 := at_r (j := i) (by omega)
    have h2 := at_r (j := i + 1) (by omega)
    have e1 : (1 + (i : Int)) - 1 = (i : Int) := by omega
    have e2 : (1 + (i : Int)) = ((i + 1 : Nat) : Int) := by omega
    have q1 : gOp hIx (gOp hIx (gVar 7) (gOp hSub (gVar 8) (gC (.int (1))))) (gC (.int (0))) [.int n, .list (Th.map enc3), .none, .dict (D.map kE), x4, x5, x6, .list (G.map enc3), .int (1 + (i : Int))] = .ok (.int (G[i]'(by omega)).1) := by
      simp only [bnd_ok, gVar_def, gC_def, gOp_def, gUn_def, gNil_def, gCons_def, gIf_def, gTest_def, gNot_def, gAnd_def, gOr_def, gAndV_def, gOrV_def, gNotV_def, gCB_def, asB_b, hAdd_i, hSub_i, hLt_i, hLe_i, hGt_i, hGe_i, hMul_r, hMul_l, hMod_i, hDiv_s, hBand_i, hShr_i, hPow_10_18, hPow_10_27, hPow_10_28, hPow_10_29, hPow_10_30, hEq_i, hNe_i, hLen_l, hLen_t, hMin2_i, hMax2_i, hMin3_i, hInt1_b, hInt1_i, hBits_i, hListOf_l, hListOf_t, hTupOf_l, hTupOf_t, gSeqS_def, gSet_def, gRet_def, gIfS_def, gNext_def, gTup_def, gLst_def, List.getElem?_cons_zero, List.getElem?_cons_succ, List.set_cons_zero, List.set_cons_succ, List.length_cons, List.length_nil, Nat.zero_add, Nat.reduceAdd, Nat.reduceLeDiff, Nat.reduceSub, Nat.reduceMul, if_true, if_false, Bool.false_eq_true, List.replicate_succ, List.replicate_zero, List.cons_append, List.nil_append, tgN, tgT, tgCons, tgNil, Int.reducePow, Int.reduceAdd, Int.reduceSub, Int.reduceMul, decide_true, decide_false, Bool.not_true, Bool.not_false, gChain_def, hIsa_int, hIsa_intb, hIsa_list, hIsa_tuple, gDrop_def, e1, h1, ix0]
    have q2 : gOp hIx (gOp hIx (gVar 7) (gVar 8)) (gC (.int (0))) [.int n, .list (Th.map enc3), .none, .dict (D.map kE), x4, x5, x6, .list (G.map enc3), .int (1 + (i : Int))] = .ok (.int G[i + 1].1) := by
      rw [e2]
      simp only [bnd_ok, gVar_def, gC_def, gOp_def, gUn_def, gNil_def, gCons_def, gIf_def, gTest_def, gNot_def, gAnd_def, gOr_def, gAndV_def, gOrV_def, gNotV_def, gCB_def, asB_b, hAdd_i, hSub_i, hLt_i, hLe_i, hGt_i, hGe_i, hMul_r, hMul_l, hMod_i, hDiv_s, hBand_i, hShr_i, hPow_10_18, hPow_10_27, hPow_10_28, hPow_10_29, hPow_10_30, hEq_i, hNe_i, hLen_l, hLen_t, hMin2_i, hMax2_i, hMin3_i, hInt1_b, hInt1_i, hBits_i, hListOf_l, hListOf_t, hTupOf_l, hTupOf_t, gSeqS_def, gSet_def, gRet_def, gIfS_def, gNext_def, gTup_def, gLst_def, List.getElem?_cons_zero, List.getElem?_cons_succ, List.set_cons_zero, List.set_cons_succ, List.length_cons, List.length_nil, Nat.zero_add, Nat.reduceAdd, Nat.reduceLeDiff, Nat.reduceSub, Nat.reduceMul, if_true, if_false, Bool.false_eq_true, List.replicate_succ, List.replicate_zero, List.cons_append, List.nil_append, tgN, tgT, tgCons, tgNil, Int.reducePow, Int.reduceAdd, Int.reduceSub, Int.reduceMul, decide_true, decide_false, Bool.not_true, Bool.not_false, gChain_def, hIsa_int, hIsa_intb, hIsa_list, hIsa_tuple, gDrop_def, h2, ix0]
    rw [gTest_def, gOp_def]
    show bnd (bnd (gOp hIx (gOp hIx (gVar 7) (gOp hSub (gVar 8) (gC (.int (1))))) (gC (.int (0))) [.int n, .list (Th.map enc3), .none, .dict (D.map kE), x4, x5, x6, .list (G.map enc3), .int (1 + (i : Int))]) fun x => bnd (gOp hIx (gOp hIx (gVar 7) (gVar 8)) (gC (.int (0))) [.int n, .list (Th.map enc3), .none, .dict (D.map kE), x4, x5, x6, .list (G.map enc3), .int (1 + (i : Int))]) fun y => hEq x y) asB = _
    rw [q1, q2, bnd_ok, bnd_ok, hEq_i]
    rfl
  refine seq_ex (for_exA (ds := (List.range (G.length - 1)).map fun (i : Nat) => PyData.int (1 + (i : Int))) ?_ ?_)
  · rw [rng2_ok (i := 1) (j := (G.length : Int)) (by simp only [bnd_ok, gVar_def, gC_def, gOp_def, gUn_def, gNil_def, gCons_def, gIf_def, gTest_def, gNot_def, gAnd_def, gOr_def, gAndV_def, gOrV_def, gNotV_def, gCB_def, asB_b, hAdd_i, hSub_i, hLt_i, hLe_i, hGt_i, hGe_i, hMul_r, hMul_l, hMod_i, hDiv_s, hBand_i, hShr_i, hPow_10_18, hPow_10_27, hPow_10_28, hPow_10_29, hPow_10_30, hEq_i, hNe_i, hLen_l, hLen_t, hMin2_i, hMax2_i, hMin3_i, hInt1_b, hInt1_i, hBits_i, hListOf_l, hListOf_t, hTupOf_l, hTupOf_t, gSeqS_def, gSet_def, gRet_def, gIfS_def, gNext_def, gTup_def, gLst_def, List.getElem?_cons_zero, List.getElem?_cons_succ, List.set_cons_zero, List.set_cons_succ, List.length_cons, List.length_nil, Nat.zero_add, Nat.reduceAdd, Nat.reduceLeDiff, Nat.reduceSub, Nat.reduceMul, if_true, if_false, Bool.false_eq_true, List.replicate_succ, List.replicate_zero, List.cons_append, List.nil_append, tgN, tgT, tgCons, tgNil, Int.reducePow, Int.reduceAdd, Int.reduceSub, Int.reduceMul, decide_true, decide_false, Bool.not_true, Bool.not_false, gChain_def, hIsa_int, hIsa_intb, hIsa_list, hIsa_tuple, gDrop_def, List.length_map]) (by omega) (by omega) (by omega) (by omega)]
    unfold rangeD
    have e2 : ((G.length : Int) - 1).toNat = G.length - 1 := by omega
    rw [e2]
  · refine forE_exAt (fun (i : Nat) => PyData.int (1 + (i : Int))) (List.range (G.length - 1)) (fun i ρ => ∃ x8 : Dt, ρ = [.int n, .list (Th.map enc3), .none, .dict (D.map kE), x4, x5, x6, .list (G.map enc3), x8]) ⟨.none, rfl⟩ j (by rw [List.length_range]; omega) ?_ ?_
    · rintro i ρ hi ⟨x8, rfl⟩
      rw [List.getElem_range]
      refine ⟨_, _, rfl, ?_, .int (1 + (i : Int)), rfl⟩
      unfold g_record_of_L2
      refine (if_f ((tst i (by omega)).trans ?_)).trans rfl
      rw [beq_eq_false_iff_ne.mpr (hf i hi)]
    · rintro ρ ⟨x8, rfl⟩
      rw [List.getElem_range]
      refine ⟨_, rfl, ?_⟩
      unfold g_record_of_L2
      refine (if_t ((tst j hj).trans (by rw [beq_iff_eq.mpr ej]))).trans ?_
      have h2 := at_r (j := j + 1) hj
      have e2 : (1 + (j : Int)) = ((j + 1 : Nat) : Int) := by omega
      have q2 : gOp hIx (gOp hIx (gVar 7) (gVar 8)) (gC (.int (0))) [.int n, .list (Th.map enc3), .none, .dict (D.map kE), x4, x5, x6, .list (G.map enc3), .int (1 + (j : Int))] = .ok (.int m) := by
        rw [e2]
        simp only [bnd_ok, gVar_def, gC_def, gOp_def, gUn_def, gNil_def, gCons_def, gIf_def, gTest_def, gNot_def, gAnd_def, gOr_def, gAndV_def, gOrV_def, gNotV_def, gCB_def, asB_b, hAdd_i, hSub_i, hLt_i, hLe_i, hGt_i, hGe_i, hMul_r, hMul_l, hMod_i, hDiv_s, hBand_i, hShr_i, hPow_10_18, hPow_10_27, hPow_10_28, hPow_10_29, hPow_10_30, hEq_i, hNe_i, hLen_l, hLen_t, hMin2_i, hMax2_i, hMin3_i, hInt1_b, hInt1_i, hBits_i, hListOf_l, hListOf_t, hTupOf_l, hTupOf_t, gSeqS_def, gSet_def, gRet_def, gIfS_def, gNext_def, gTup_def, gLst_def, List.getElem?_cons_zero, List.getElem?_cons_succ, List.set_cons_zero, List.set_cons_succ, List.length_cons, List.length_nil, Nat.zero_add, Nat.reduceAdd, Nat.reduceLeDiff, Nat.reduceSub, Nat.reduceMul, if_true, if_false, Bool.false_eq_true, List.replicate_succ, List.replicate_zero, List.cons_append, List.nil_append, tgN, tgT, tgCons, tgNil, Int.reducePow, Int.reduceAdd, Int.reduceSub, Int.reduceMul, decide_true, decide_false, Bool.not_true, Bool.not_false, gChain_def, hIsa_int, hIsa_intb, hIsa_list, hIsa_tuple, gDrop_def, h2, ix0, em]
      show gRaise1 "Clash" _ [.int n, .list (Th.map enc3), .none, .dict (D.map kE), x4, x5, x6, .list (G.map enc3), .int (1 + (j : Int))] = _
      unfold gRaise1
      rw [q2]
end K02
end T_K02R
section T_K02C
set_option linter.all false
set_option maxRecDepth 100000
set_option maxHeartbeats 4000000
namespace K02
open PySem Sim FamA L2
def bl (k : Int) : List Dt := [0, 1, 2, 3, 4, 5, 6, 7, 8, 9, 10].map fun j : Int => .bool (j == k)
theorem marks0 : f_l_marks [exnD "NoPlaces" none] = .ok (.list (bl 0)) := by kernel_rfl
theorem marks1 : f_l_marks [exnD "NoTies" none] = .ok (.list (bl 1)) := by kernel_rfl
theorem marks2 (m : Int) : f_l_marks [exnD "Clash" (some m)] = .ok (.list (bl 2)) := by kernel_rfl
theorem kinds (x y mo c e j : Dt) (k : Int) : gLc (gRng1 (gCons (gC (.int (11))) (gNil))) (tgN 6) (gYes) (gOp hEq (gVar 6) (gVar 2)) [x, y, .int k, mo, c, e, j] = .ok (.list (bl k)) := by
  have h := gLc_map PyData.int (fun _ => true) (fun j : Int => PyData.bool (j == k)) (gi := gRng1 (gCons (gC (.int (11))) (gNil))) (h := tgN 6) (gt := gYes) (ge := gOp hEq (gVar 6) (gVar 2)) (ρ := [x, y, .int k, mo, c, e, j]) (xs := [0, 1, 2, 3, 4, 5, 6, 7, 8, 9, 10])
    ((rng1_ok (j := 11) (by rfl) (by omega) (by omega)).trans rfl) (by decide) fun j _ => ⟨[x, y, .int k, mo, c, e, .int j], rfl, rfl, fun _ => by simp only [bnd_ok, gVar_def, gC_def, gOp_def, gUn_def, gNil_def, gCons_def, gIf_def, gTest_def, gNot_def, gAnd_def, gOr_def, gAndV_def, gOrV_def, gNotV_def, gCB_def, asB_b, hAdd_i, hSub_i, hLt_i, hLe_i, hGt_i, hGe_i, hMul_r, hMul_l, hMod_i, hDiv_s, hBand_i, hShr_i, hPow_10_18, hPow_10_27, hPow_10_28, hPow_10_29, hPow_10_30, hEq_i, hNe_i, hLen_l, hLen_t, hMin2_i, hMax2_i, hMin3_i, hInt1_b, hInt1_i, hBits_i, hListOf_l, hListOf_t, hTupOf_l, hTupOf_t, gSeqS_def, gSet_def, gRet_def, gIfS_def, gNext_def, gTup_def, gLst_def, List.getElem?_cons_zero, List.getElem?_cons_succ, List.set_cons_zero, List.set_cons_succ, List.length_cons, List.length_nil, Nat.zero_add, Nat.reduceAdd, Nat.reduceLeDiff, Nat.reduceSub, Nat.reduceMul, if_true, if_false, Bool.false_eq_true, List.replicate_succ, List.replicate_zero, List.cons_append, List.nil_append, tgN, tgT, tgCons, tgNil, Int.reducePow, Int.reduceAdd, Int.reduceSub, Int.reduceMul, decide_true, decide_false, Bool.not_true, Bool.not_false, gChain_def, hIsa_int, hIsa_intb, hIsa_list, hIsa_tuple, gDrop_def]⟩
  rw [h]
  rfl
theorem ne0 : hNe (.list (bl 0)) (.list (bl 0)) = .ok (.bool false) := by kernel_rfl
theorem ne1 : hNe (.list (bl 1)) (.list (bl 1)) = .ok (.bool false) := by kernel_rfl
theorem ne2 : hNe (.list (bl 2)) (.list (bl 2)) = .ok (.bool false) := by kernel_rfl
theorem refused_go {x y : Dt} {k mo : Int} {c : Str} {m : Option Int} (h : f_record_of [x, y] = .ex ⟨c, m⟩) (hy : (["NoPlaces", "NoTies", "Clash", "NoLayers", "NoPair", "NoNet", "Unlike", "NoText", "NoPaper", "NoRow", "NoDeed"] : List Str).contains c = true)
    (hm : f_l_marks [exnD c m] = .ok (.list (bl k))) (hn : hNe (.list (bl k)) (.list (bl k)) = .ok (.bool false)) (hi : hIs (exnD c m) .none = .ok (.bool false))
    (hr : gOrV (gOp hNe (gVar 2) (gC (.int (2)))) (gOp hEq (gUn (hMom "Clash") (gVar 4)) (gVar 3)) [x, y, .int k, .int mo, exnD c m, exnD c m, .none] = .ok (.bool true)) : f_l_refused [x, y, .int k, .int mo] = .ok (.bool true) := by
  refine fnN_rt ?_
  show g_l_refused [x, y, .int k, .int mo, .none, .none, .none] = _
  unfold g_l_refused
  refine seq_step (set_ok (d := .none) rfl) ?_
  dsimp only [List.set]
  refine seq_step (try_ex (drop_ex (callX_ex (ds := [x, y]) rfl rfl h)) hy (set_ok (d := exnD c m) rfl)) ?_
  dsimp only [List.set]
  refine seq_step ((if_f ?_).trans rfl) (ret_ok hr)
  have c1 : gCallN 1 f_l_marks (gCons (gVar 4) (gNil)) [x, y, .int k, .int mo, exnD c m, exnD c m, .none] = .ok (.list (bl k)) := callN_ok (ds := [exnD c m]) rfl rfl hm
  rw [gOr_def, gTest_def, gOp_def]
  show bnd (bnd (hIs (exnD c m) .none) asB) _ = _
  rw [hi, bnd_ok, asB_b, bnd_ok]
  show gTest _ _ = _
  rw [gTest_def, gOp_def, c1, bnd_ok, kinds, bnd_ok, hn]
  rfl
theorem refused0 {x y : Dt} (h : f_record_of [x, y] = .ex ⟨"NoPlaces", none⟩) (mo : Int) : f_l_refused [x, y, .int 0, .int mo] = .ok (.bool true) := refused_go h rfl marks0 ne0 rfl (by simp only [bnd_ok, gVar_def, gC_def, gOp_def, gUn_def, gNil_def, gCons_def, gIf_def, gTest_def, gNot_def, gAnd_def, gOr_def, gAndV_def, gOrV_def, gNotV_def, gCB_def, asB_b, hAdd_i, hSub_i, hLt_i, hLe_i, hGt_i, hGe_i, hMul_r, hMul_l, hMod_i, hDiv_s, hBand_i, hShr_i, hPow_10_18, hPow_10_27, hPow_10_28, hPow_10_29, hPow_10_30, hEq_i, hNe_i, hLen_l, hLen_t, hMin2_i, hMax2_i, hMin3_i, hInt1_b, hInt1_i, hBits_i, hListOf_l, hListOf_t, hTupOf_l, hTupOf_t, gSeqS_def, gSet_def, gRet_def, gIfS_def, gNext_def, gTup_def, gLst_def, List.getElem?_cons_zero, List.getElem?_cons_succ, List.set_cons_zero, List.set_cons_succ, List.length_cons, List.length_nil, Nat.zero_add, Nat.reduceAdd, Nat.reduceLeDiff, Nat.reduceSub, Nat.reduceMul, if_true, if_false, Bool.false_eq_true, List.replicate_succ, List.replicate_zero, List.cons_append, List.nil_append, tgN, tgT, tgCons, tgNil, Int.reducePow, Int.reduceAdd, Int.reduceSub, Int.reduceMul, decide_true, decide_false, Bool.not_true, Bool.not_false, gChain_def, hIsa_int, hIsa_intb, hIsa_list, hIsa_tuple, gDrop_def]; rfl)
theorem refused1 {x y : Dt} (h : f_record_of [x, y] = .ex ⟨"NoTies", none⟩) (mo : Int) : f_l_refused [x, y, .int 1, .int mo] = .ok (.bool true) := refused_go h rfl marks1 ne1 rfl (by simp only [bnd_ok, gVar_def, gC_def, gOp_def, gUn_def, gNil_def, gCons_def, gIf_def, gTest_def, gNot_def, gAnd_def, gOr_def, gAndV_def, gOrV_def, gNotV_def, gCB_def, asB_b, hAdd_i, hSub_i, hLt_i, hLe_i, hGt_i, hGe_i, hMul_r, hMul_l, hMod_i, hDiv_s, hBand_i, hShr_i, hPow_10_18, hPow_10_27, hPow_10_28, hPow_10_29, hPow_10_30, hEq_i, hNe_i, hLen_l, hLen_t, hMin2_i, hMax2_i, hMin3_i, hInt1_b, hInt1_i, hBits_i, hListOf_l, hListOf_t, hTupOf_l, hTupOf_t, gSeqS_def, gSet_def, gRet_def, gIfS_def, gNext_def, gTup_def, gLst_def, List.getElem?_cons_zero, List.getElem?_cons_succ, List.set_cons_zero, List.set_cons_succ, List.length_cons, List.length_nil, Nat.zero_add, Nat.reduceAdd, Nat.reduceLeDiff, Nat.reduceSub, Nat.reduceMul, if_true, if_false, Bool.false_eq_true, List.replicate_succ, List.replicate_zero, List.cons_append, List.nil_append, tgN, tgT, tgCons, tgNil, Int.reducePow, Int.reduceAdd, Int.reduceSub, Int.reduceMul, decide_true, decide_false, Bool.not_true, Bool.not_false, gChain_def, hIsa_int, hIsa_intb, hIsa_list, hIsa_tuple, gDrop_def]; rfl)
theorem refused2 {x y : Dt} {m : Int} (h : f_record_of [x, y] = .ex ⟨"Clash", some m⟩) : f_l_refused [x, y, .int 2, .int m] = .ok (.bool true) := refused_go h rfl (marks2 m) ne2 rfl (by
  have e : gOp hEq (gUn (hMom "Clash") (gVar 4)) (gVar 3) [x, y, .int 2, .int m, exnD "Clash" (some m), exnD "Clash" (some m), .none] = .ok (.bool true) := by
    rw [gOp_def]
    show hEq (.int m) (.int m) = _
    rw [hEq_i, beq_self_eq_true]
  rw [gOrV_def, e]
  simp only [bnd_ok, gVar_def, gC_def, gOp_def, gUn_def, gNil_def, gCons_def, gIf_def, gTest_def, gNot_def, gAnd_def, gOr_def, gAndV_def, gOrV_def, gNotV_def, gCB_def, asB_b, hAdd_i, hSub_i, hLt_i, hLe_i, hGt_i, hGe_i, hMul_r, hMul_l, hMod_i, hDiv_s, hBand_i, hShr_i, hPow_10_18, hPow_10_27, hPow_10_28, hPow_10_29, hPow_10_30, hEq_i, hNe_i, hLen_l, hLen_t, hMin2_i, hMax2_i, hMin3_i, hInt1_b, hInt1_i, hBits_i, hListOf_l, hListOf_t, hTupOf_l, hTupOf_t, gSeqS_def, gSet_def, gRet_def, gIfS_def, gNext_def, gTup_def, gLst_def, List.getElem?_cons_zero, List.getElem?_cons_succ, List.set_cons_zero, List.set_cons_succ, List.length_cons, List.length_nil, Nat.zero_add, Nat.reduceAdd, Nat.reduceLeDiff, Nat.reduceSub, Nat.reduceMul, if_true, if_false, Bool.false_eq_true, List.replicate_succ, List.replicate_zero, List.cons_append, List.nil_append, tgN, tgT, tgCons, tgNil, Int.reducePow, Int.reduceAdd, Int.reduceSub, Int.reduceMul, decide_true, decide_false, Bool.not_true, Bool.not_false, gChain_def, hIsa_int, hIsa_intb, hIsa_list, hIsa_tuple, gDrop_def]
  rfl)
theorem apart_ok : f_l_apart [] = .ok (.bool true) := by kernel_rfl
theorem whole_not {d : Dt} (h : hIsa .int d = .ok (.bool false)) : f_is_whole [d] = .ok (.bool false) := by
  refine fnN_rt ?_
  show g_is_whole [d] = _
  unfold g_is_whole
  refine ret_ok ?_
  rw [gAndV_def, gUn_def, gVar_def]
  show bnd (hIsa .int d) _ = _
  rw [h]
  rfl
theorem many_not {d : Dt} (h : f_is_whole [d] = .ok (.bool false)) : f_is_many [d] = .ok (.bool false) := by
  refine fnN_rt ?_
  show g_is_many [d] = _
  unfold g_is_many
  have e : gCallN 1 f_is_whole (gCons (gVar 0) (gNil)) [d] = .ok (.bool false) := callN_ok (ds := [d]) rfl rfl h
  refine ret_ok ?_
  rw [gAndV_def, e]
  rfl
theorem many_int {z : Int} (h : z < 1 ∨ 10 < z) : f_is_many [.int z] = .ok (.bool false) := by
  refine fnN_rt ?_
  show g_is_many [.int z] = _
  unfold g_is_many
  have e : gCallN 1 f_is_whole (gCons (gVar 0) (gNil)) [.int z] = .ok (.bool true) := callN_ok (ds := [.int z]) rfl rfl (whole_int z)
  rcases h with h | h
  · have e1 : decide ((1 : Int) ≤ z) = false := by rw [decide_eq_false_iff_not]; omega
    simp only [bnd_ok, gVar_def, gC_def, gOp_def, gUn_def, gNil_def, gCons_def, gIf_def, gTest_def, gNot_def, gAnd_def, gOr_def, gAndV_def, gOrV_def, gNotV_def, gCB_def, asB_b, hAdd_i, hSub_i, hLt_i, hLe_i, hGt_i, hGe_i, hMul_r, hMul_l, hMod_i, hDiv_s, hBand_i, hShr_i, hPow_10_18, hPow_10_27, hPow_10_28, hPow_10_29, hPow_10_30, hEq_i, hNe_i, hLen_l, hLen_t, hMin2_i, hMax2_i, hMin3_i, hInt1_b, hInt1_i, hBits_i, hListOf_l, hListOf_t, hTupOf_l, hTupOf_t, gSeqS_def, gSet_def, gRet_def, gIfS_def, gNext_def, gTup_def, gLst_def, List.getElem?_cons_zero, List.getElem?_cons_succ, List.set_cons_zero, List.set_cons_succ, List.length_cons, List.length_nil, Nat.zero_add, Nat.reduceAdd, Nat.reduceLeDiff, Nat.reduceSub, Nat.reduceMul, if_true, if_false, Bool.false_eq_true, List.replicate_succ, List.replicate_zero, List.cons_append, List.nil_append, tgN, tgT, tgCons, tgNil, Int.reducePow, Int.reduceAdd, Int.reduceSub, Int.reduceMul, decide_true, decide_false, Bool.not_true, Bool.not_false, gChain_def, hIsa_int, hIsa_intb, hIsa_list, hIsa_tuple, gDrop_def, e, e1]
  · have e1 : decide ((1 : Int) ≤ z) = true := by rw [decide_eq_true_eq]; omega
    have e2 : decide (z ≤ (10 : Int)) = false := by rw [decide_eq_false_iff_not]; omega
    simp only [bnd_ok, gVar_def, gC_def, gOp_def, gUn_def, gNil_def, gCons_def, gIf_def, gTest_def, gNot_def, gAnd_def, gOr_def, gAndV_def, gOrV_def, gNotV_def, gCB_def, asB_b, hAdd_i, hSub_i, hLt_i, hLe_i, hGt_i, hGe_i, hMul_r, hMul_l, hMod_i, hDiv_s, hBand_i, hShr_i, hPow_10_18, hPow_10_27, hPow_10_28, hPow_10_29, hPow_10_30, hEq_i, hNe_i, hLen_l, hLen_t, hMin2_i, hMax2_i, hMin3_i, hInt1_b, hInt1_i, hBits_i, hListOf_l, hListOf_t, hTupOf_l, hTupOf_t, gSeqS_def, gSet_def, gRet_def, gIfS_def, gNext_def, gTup_def, gLst_def, List.getElem?_cons_zero, List.getElem?_cons_succ, List.set_cons_zero, List.set_cons_succ, List.length_cons, List.length_nil, Nat.zero_add, Nat.reduceAdd, Nat.reduceLeDiff, Nat.reduceSub, Nat.reduceMul, if_true, if_false, Bool.false_eq_true, List.replicate_succ, List.replicate_zero, List.cons_append, List.nil_append, tgN, tgT, tgCons, tgNil, Int.reducePow, Int.reduceAdd, Int.reduceSub, Int.reduceMul, decide_true, decide_false, Bool.not_true, Bool.not_false, gChain_def, hIsa_int, hIsa_intb, hIsa_list, hIsa_tuple, gDrop_def, e, e1, e2]
theorem hIx_k {ds : List Dt} (k : Nat) {d : Dt} (h : ds[k]? = some d) : hIx (.list ds) (.int (k : Nat)) = .ok d := by
  obtain ⟨h1, h2⟩ := List.getElem?_eq_some_iff.mp h
  rw [hIx_ds h1, h2]
theorem places_ok (far number : Int) (hf : 0 ≤ far) : ∃ d, f_l_no_places [.int far, .int number] = .ok d ∧ f_is_many [d] = .ok (.bool false) := by
  have hm := hMod_i (i := number) (show (0 : Int) < 12 by omega)
  have q0 := Int.emod_nonneg number (show (12 : Int) ≠ 0 by omega)
  have q1 := Int.emod_lt_of_pos number (show (0 : Int) < 12 by omega)
  have hL : gLst (gCons (gC (.int (0))) (gCons (gC (.int (11))) (gCons (gUn (hU fun i => -i) (gC (.int (1)))) (gCons (gC (.bool true)) (gCons (gC (.bool false)) (gCons (gC .none) (gCons (gC (.str "3")) (gCons (gC (.str "")) (gCons (gLst (gCons (gC (.int (3))) (gNil))) (gCons (gTup (gCons (gC (.int (3))) (gNil))) (gCons (gOp hAdd (gC (.int (11))) (gPur (gVar 0))) (gCons (gDNew) (gNil))))))))))))) [.int far, .int number]
      = .ok (.list [.int 0, .int 11, .int (-1), .bool true, .bool false, .none, .str "3", .str "", .list [.int 3], .tuple [.int 3], .int (11 + far), .dict []]) := by kernel_rfl
  have go : ∀ d, hIx (.list [.int 0, .int 11, .int (-1), .bool true, .bool false, .none, .str "3", .str "", .list [.int 3], .tuple [.int 3], .int (11 + far), .dict []]) (.int (number % 12)) = .ok d → f_l_no_places [.int far, .int number] = .ok d := fun d h => by
    refine fnN_rt (ret_ok ?_)
    show gOp hIx _ _ [.int far, .int number] = _
    rw [gOp_def, hL, bnd_ok]
    have e : gOp hMod (gVar 1) (gC (.int (12))) [.int far, .int number] = .ok (.int (number % 12)) := by simp only [bnd_ok, gVar_def, gC_def, gOp_def, gUn_def, gNil_def, gCons_def, gIf_def, gTest_def, gNot_def, gAnd_def, gOr_def, gAndV_def, gOrV_def, gNotV_def, gCB_def, asB_b, hAdd_i, hSub_i, hLt_i, hLe_i, hGt_i, hGe_i, hMul_r, hMul_l, hMod_i, hDiv_s, hBand_i, hShr_i, hPow_10_18, hPow_10_27, hPow_10_28, hPow_10_29, hPow_10_30, hEq_i, hNe_i, hLen_l, hLen_t, hMin2_i, hMax2_i, hMin3_i, hInt1_b, hInt1_i, hBits_i, hListOf_l, hListOf_t, hTupOf_l, hTupOf_t, gSeqS_def, gSet_def, gRet_def, gIfS_def, gNext_def, gTup_def, gLst_def, List.getElem?_cons_zero, List.getElem?_cons_succ, List.set_cons_zero, List.set_cons_succ, List.length_cons, List.length_nil, Nat.zero_add, Nat.reduceAdd, Nat.reduceLeDiff, Nat.reduceSub, Nat.reduceMul, if_true, if_false, Bool.false_eq_true, List.replicate_succ, List.replicate_zero, List.cons_append, List.nil_append, tgN, tgT, tgCons, tgNil, Int.reducePow, Int.reduceAdd, Int.reduceSub, Int.reduceMul, decide_true, decide_false, Bool.not_true, Bool.not_false, gChain_def, hIsa_int, hIsa_intb, hIsa_list, hIsa_tuple, gDrop_def, hm]
    rw [e, bnd_ok, h]
  obtain ⟨k, hk⟩ : ∃ k : Nat, number % 12 = (k : Int) := ⟨(number % 12).toNat, by omega⟩
  rw [hk] at go
  have hk12 : k < 12 := by omega
  have cases12 : k = 0 ∨ k = 1 ∨ k = 2 ∨ k = 3 ∨ k = 4 ∨ k = 5 ∨ k = 6 ∨ k = 7 ∨ k = 8 ∨ k = 9 ∨ k = 10 ∨ k = 11 := by omega
  rcases cases12 with rfl | rfl | rfl | rfl | rfl | rfl | rfl | rfl | rfl | rfl | rfl | rfl
  · exact ⟨_, go _ (hIx_k _ rfl), many_int (by omega)⟩
  · exact ⟨_, go _ (hIx_k _ rfl), many_int (by omega)⟩
  · exact ⟨_, go _ (hIx_k _ rfl), many_int (by omega)⟩
  · exact ⟨_, go _ (hIx_k _ rfl), many_not (whole_bool _)⟩
  · exact ⟨_, go _ (hIx_k _ rfl), many_not (whole_bool _)⟩
  · exact ⟨_, go _ (hIx_k _ rfl), many_not (whole_not rfl)⟩
  · exact ⟨_, go _ (hIx_k _ rfl), many_not (whole_not rfl)⟩
  · exact ⟨_, go _ (hIx_k _ rfl), many_not (whole_not rfl)⟩
  · exact ⟨_, go _ (hIx_k _ rfl), many_not (whole_not rfl)⟩
  · exact ⟨_, go _ (hIx_k _ rfl), many_not (whole_not rfl)⟩
  · exact ⟨_, go _ (hIx_k _ rfl), many_int (by omega)⟩
  · exact ⟨_, go _ (hIx_k _ rfl), many_not (whole_not rfl)⟩
theorem meet_not {n : Int} {d : Dt} (h : hIsa .tuple d = .ok (.bool false)) : f_is_meeting [.int n, d] = .ok (.bool false) := by
  refine fnN_rt ?_
  show g_is_meeting [.int n, d] = _
  unfold g_is_meeting
  refine seq_rt ((if_t ?_).trans rfl)
  have e : gTest (gUn (hIsa .tuple) (gVar 1)) [.int n, d] = .ok false := by
    rw [gTest_def, gUn_def]
    show bnd (hIsa .tuple d) asB = _
    rw [h]
    rfl
  simp only [gOr_def, gNot_def, e, bnd_ok, Bool.not_false, if_true]
theorem meet_len {n : Int} {ds : List Dt} (h : ds.length ≠ 3) : f_is_meeting [.int n, .tuple ds] = .ok (.bool false) := by
  refine fnN_rt ?_
  show g_is_meeting [.int n, .tuple ds] = _
  unfold g_is_meeting
  refine seq_rt ((if_t ?_).trans rfl)
  have e3 : gTest (gUn (hIsa .tuple) (gVar 1)) [.int n, .tuple ds] = .ok true := rfl
  have e4 : gTest (gOp hNe (gCB hLen (gCons (gVar 1) (gNil))) (gC (.int (3)))) [.int n, .tuple ds] = .ok true := by
    have : (((ds.length : Nat) : Int) == 3) = false := by
      rw [beq_eq_false_iff_ne]
      omega
    simp only [bnd_ok, gVar_def, gC_def, gOp_def, gUn_def, gNil_def, gCons_def, gIf_def, gTest_def, gNot_def, gAnd_def, gOr_def, gAndV_def, gOrV_def, gNotV_def, gCB_def, asB_b, hAdd_i, hSub_i, hLt_i, hLe_i, hGt_i, hGe_i, hMul_r, hMul_l, hMod_i, hDiv_s, hBand_i, hShr_i, hPow_10_18, hPow_10_27, hPow_10_28, hPow_10_29, hPow_10_30, hEq_i, hNe_i, hLen_l, hLen_t, hMin2_i, hMax2_i, hMin3_i, hInt1_b, hInt1_i, hBits_i, hListOf_l, hListOf_t, hTupOf_l, hTupOf_t, gSeqS_def, gSet_def, gRet_def, gIfS_def, gNext_def, gTup_def, gLst_def, List.getElem?_cons_zero, List.getElem?_cons_succ, List.set_cons_zero, List.set_cons_succ, List.length_cons, List.length_nil, Nat.zero_add, Nat.reduceAdd, Nat.reduceLeDiff, Nat.reduceSub, Nat.reduceMul, if_true, if_false, Bool.false_eq_true, List.replicate_succ, List.replicate_zero, List.cons_append, List.nil_append, tgN, tgT, tgCons, tgNil, Int.reducePow, Int.reduceAdd, Int.reduceSub, Int.reduceMul, decide_true, decide_false, Bool.not_true, Bool.not_false, gChain_def, hIsa_int, hIsa_intb, hIsa_list, hIsa_tuple, gDrop_def, this]
  simp only [gOr_def, gNot_def, e3, e4, bnd_ok, Bool.not_true, Bool.false_eq_true, if_false, if_true]
theorem meet3 {n : Int} {a b c : Dt} {pa pb pc : Bool} (ha : f_is_moment [a] = .ok (.bool pa)) (hb : f_is_place [.int n, b] = .ok (.bool pb)) (hc : f_is_place [.int n, c] = .ok (.bool pc)) : f_is_meeting [.int n, .tuple [a, b, c]] = .ok (.bool (pa && (pb && pc))) := by
  refine fnN_rt ?_
  show g_is_meeting [.int n, .tuple [a, b, c]] = _
  unfold g_is_meeting
  have e0 : gCallN 1 f_is_moment (gCons (gOp hIx (gVar 1) (gC (.int (0)))) (gNil)) [.int n, .tuple [a, b, c]] = _ := callN_ok (ds := [a]) rfl rfl ha
  have e1 : gCallN 2 f_is_place (gCons (gVar 0) (gCons (gOp hIx (gVar 1) (gC (.int (1)))) (gNil))) [.int n, .tuple [a, b, c]] = _ := callN_ok (ds := [.int n, b]) rfl rfl hb
  have e2 : gCallN 2 f_is_place (gCons (gVar 0) (gCons (gOp hIx (gVar 1) (gC (.int (2)))) (gNil))) [.int n, .tuple [a, b, c]] = _ := callN_ok (ds := [.int n, c]) rfl rfl hc
  have e3 : gTest (gUn (hIsa .tuple) (gVar 1)) [.int n, .tuple [a, b, c]] = .ok true := rfl
  have e4 : gTest (gOp hNe (gCB hLen (gCons (gVar 1) (gNil))) (gC (.int (3)))) [.int n, .tuple [a, b, c]] = .ok false := by
    rw [gTest_def, gOp_def]
    show bnd (hNe (.int 3) (.int 3)) asB = _
    rw [hNe_i]
    rfl
  cases pa with
  | false =>
    refine seq_rt (Eq.trans (if_t ?_) rfl)
    simp only [gOr_def, gNot_def, e3, e4, gTest_def, e0, bnd_ok, asB_b, Bool.not_true, Bool.not_false, Bool.false_eq_true, if_false, if_true]
  | true =>
    refine seq_step (Eq.trans (if_f ?_) rfl) ?_
    · simp only [gOr_def, gNot_def, e3, e4, gTest_def, e0, bnd_ok, asB_b, Bool.not_true, Bool.not_false, Bool.false_eq_true, if_false, if_true]
    · refine ret_ok ?_
      rw [gAndV_def, e1, bnd_ok, asB_b, bnd_ok, e2]
      cases pb <;> rfl
theorem place_not (n : Int) {d : Dt} (h : f_is_whole [d] = .ok (.bool false)) : f_is_place [.int n, d] = .ok (.bool false) := by
  refine fnN_rt ?_
  show g_is_place [.int n, d] = _
  unfold g_is_place
  have e : gCallN 1 f_is_whole (gCons (gVar 1) (gNil)) [.int n, d] = .ok (.bool false) := callN_ok (ds := [d]) rfl rfl h
  refine ret_ok ?_
  rw [gAndV_def, e]
  rfl
theorem moment_not {d : Dt} (h : f_is_whole [d] = .ok (.bool false)) : f_is_moment [d] = .ok (.bool false) := by
  refine fnN_rt ?_
  show g_is_moment [d] = _
  unfold g_is_moment
  have e : gCallN 1 f_is_whole (gCons (gVar 0) (gNil)) [d] = .ok (.bool false) := callN_ok (ds := [d]) rfl rfl h
  refine ret_ok ?_
  rw [gAndV_def, e]
  rfl
theorem meetI {n a b c : Int} (h : ¬ Meet n (a, b, c)) : f_is_meeting [.int n, .tuple [.int a, .int b, .int c]] = .ok (.bool false) := by
  rw [meeting_int]
  have : ((decide (0 ≤ a) && decide (a ≤ 1000000000000000000000000000000)) && ((decide (0 ≤ b) && decide (b < n)) && (decide (0 ≤ c) && decide (c < n)))) = false := by
    rw [Bool.eq_false_iff]
    intro e
    simp only [Bool.and_eq_true, decide_eq_true_eq] at e
    exact h e
  rw [this]
def oddT (n far : Int) : List Dt := [.tuple [.int 0, .int 0], .tuple [.int 0, .int 0, .int 0, .int 0], .list [.int 0, .int 0, .int 0], .none, .int 5, .str "0:0-0", .tuple [], .tuple [.bool true, .int 0, .int 0], .tuple [.int 0, .bool true, .int 0], .tuple [.int 0, .int 0, .bool false],
  .tuple [.int (-1), .int 0, .int 0], .tuple [.int (-1 - far), .int 0, .int 0], .tuple [.int (1000000000000000000000000000000 + 1 + far), .int 0, .int 0], .tuple [.int 0, .int n, .int 0], .tuple [.int 0, .int 0, .int (n + far)], .tuple [.int 0, .int (-1), .int 0],
  .tuple [.int 0, .int 0, .int (-1)], .tuple [.str "0", .int 0, .int 0], .tuple [.int 0, .none, .int 0], .tuple [.int 0, .int 0, .str "0"], .tuple [.int 0, .tuple [.int 0], .int 0], .tuple [.int 0, .int 0, .list [.int 0]], .bool true, .dict []]
theorem tie_odd (n far number : Int) (hn : 1 ≤ n) (hf : 0 ≤ far) : ∃ d, f_l_no_tie [.int n, .int far, .int number] = .ok d ∧ f_is_meeting [.int n, d] = .ok (.bool false) := by
  have hm := hMod_i (i := number) (show (0 : Int) < 24 by omega)
  have q0 := Int.emod_nonneg number (show (24 : Int) ≠ 0 by omega)
  have q1 := Int.emod_lt_of_pos number (show (0 : Int) < 24 by omega)
  have go : ∀ d, hIx (.list (oddT n far)) (.int (number % 24)) = .ok d → f_l_no_tie [.int n, .int far, .int number] = .ok d := fun d h => by
    refine fnN_rt ?_
    show g_l_no_tie [.int n, .int far, .int number, .none] = _
    unfold g_l_no_tie
    refine seq_step (set_ok (d := .list ((oddT n far).take 10)) (by kernel_rfl)) ?_
    dsimp only [List.set]
    refine seq_step (set_ok (d := .list ((oddT n far).take 16)) ?_) ?_
    · simp (disch := omega) only [bnd_ok, gVar_def, gC_def, gOp_def, gUn_def, gNil_def, gCons_def, gIf_def, gTest_def, gNot_def, gAnd_def, gOr_def, gAndV_def, gOrV_def, gNotV_def, gCB_def, asB_b, hAdd_i, hSub_i, hLt_i, hLe_i, hGt_i, hGe_i, hMul_r, hMul_l, hMod_i, hDiv_s, hBand_i, hShr_i, hPow_10_18, hPow_10_27, hPow_10_28, hPow_10_29, hPow_10_30, hEq_i, hNe_i, hLen_l, hLen_t, hMin2_i, hMax2_i, hMin3_i, hInt1_b, hInt1_i, hBits_i, hListOf_l, hListOf_t, hTupOf_l, hTupOf_t, gSeqS_def, gSet_def, gRet_def, gIfS_def, gNext_def, gTup_def, gLst_def, List.getElem?_cons_zero, List.getElem?_cons_succ, List.set_cons_zero, List.set_cons_succ, List.length_cons, List.length_nil, Nat.zero_add, Nat.reduceAdd, Nat.reduceLeDiff, Nat.reduceSub, Nat.reduceMul, if_true, if_false, Bool.false_eq_true, List.replicate_succ, List.replicate_zero, List.cons_append, List.nil_append, tgN, tgT, tgCons, tgNil, Int.reducePow, Int.reduceAdd, Int.reduceSub, Int.reduceMul, decide_true, decide_false, Bool.not_true, Bool.not_false, gChain_def, hIsa_int, hIsa_intb, hIsa_list, hIsa_tuple, gDrop_def]
      kernel_rfl
    dsimp only [List.set]
    refine seq_step (set_ok (d := .list (oddT n far)) (by kernel_rfl)) ?_
    dsimp only [List.set]
    refine ret_ok ?_
    have e : gOp hMod (gVar 2) (gC (.int (24))) [.int n, .int far, .int number, .list (oddT n far)] = .ok (.int (number % 24)) := by simp only [bnd_ok, gVar_def, gC_def, gOp_def, gUn_def, gNil_def, gCons_def, gIf_def, gTest_def, gNot_def, gAnd_def, gOr_def, gAndV_def, gOrV_def, gNotV_def, gCB_def, asB_b, hAdd_i, hSub_i, hLt_i, hLe_i, hGt_i, hGe_i, hMul_r, hMul_l, hMod_i, hDiv_s, hBand_i, hShr_i, hPow_10_18, hPow_10_27, hPow_10_28, hPow_10_29, hPow_10_30, hEq_i, hNe_i, hLen_l, hLen_t, hMin2_i, hMax2_i, hMin3_i, hInt1_b, hInt1_i, hBits_i, hListOf_l, hListOf_t, hTupOf_l, hTupOf_t, gSeqS_def, gSet_def, gRet_def, gIfS_def, gNext_def, gTup_def, gLst_def, List.getElem?_cons_zero, List.getElem?_cons_succ, List.set_cons_zero, List.set_cons_succ, List.length_cons, List.length_nil, Nat.zero_add, Nat.reduceAdd, Nat.reduceLeDiff, Nat.reduceSub, Nat.reduceMul, if_true, if_false, Bool.false_eq_true, List.replicate_succ, List.replicate_zero, List.cons_append, List.nil_append, tgN, tgT, tgCons, tgNil, Int.reducePow, Int.reduceAdd, Int.reduceSub, Int.reduceMul, decide_true, decide_false, Bool.not_true, Bool.not_false, gChain_def, hIsa_int, hIsa_intb, hIsa_list, hIsa_tuple, gDrop_def, hm]
    rw [gOp_def, e]
    exact h
  obtain ⟨k, hk⟩ : ∃ k : Nat, number % 24 = (k : Int) := ⟨(number % 24).toNat, by omega⟩
  rw [hk] at go
  have hk24 : k < 24 := by omega
  have c24 : k = 0 ∨ k = 1 ∨ k = 2 ∨ k = 3 ∨ k = 4 ∨ k = 5 ∨ k = 6 ∨ k = 7 ∨ k = 8 ∨ k = 9 ∨ k = 10 ∨ k = 11 ∨ k = 12 ∨ k = 13 ∨ k = 14 ∨ k = 15 ∨ k = 16 ∨ k = 17 ∨ k = 18 ∨ k = 19 ∨ k = 20 ∨ k = 21 ∨ k = 22 ∨ k = 23 := by omega
  have p0 := place_ok n 0
  have m0 := moment_int 0
  have wF : ∀ {d : Dt}, hIsa .int d = .ok (.bool false) → f_is_whole [d] = .ok (.bool false) := fun h => whole_not h
  rcases c24 with rfl | rfl | rfl | rfl | rfl | rfl | rfl | rfl | rfl | rfl | rfl | rfl | rfl | rfl | rfl | rfl | rfl | rfl | rfl | rfl | rfl | rfl | rfl | rfl
  · exact ⟨_, go _ (hIx_k _ rfl), meet_len (by decide)⟩
  · exact ⟨_, go _ (hIx_k _ rfl), meet_len (by decide)⟩
  · exact ⟨_, go _ (hIx_k _ rfl), meet_not rfl⟩
  · exact ⟨_, go _ (hIx_k _ rfl), meet_not rfl⟩
  · exact ⟨_, go _ (hIx_k _ rfl), meet_not rfl⟩
  · exact ⟨_, go _ (hIx_k _ rfl), meet_not rfl⟩
  · exact ⟨_, go _ (hIx_k _ rfl), meet_len (by decide)⟩
  · exact ⟨_, go _ (hIx_k _ rfl), (meet3 (moment_bool _) p0 p0).trans (by rw [Bool.false_and])⟩
  · exact ⟨_, go _ (hIx_k _ rfl), (meet3 m0 (place_not n (whole_bool _)) p0).trans (by rw [Bool.false_and, Bool.and_false])⟩
  · exact ⟨_, go _ (hIx_k _ rfl), (meet3 m0 p0 (place_not n (whole_bool _))).trans (by rw [Bool.and_false, Bool.and_false])⟩
  · exact ⟨_, go _ (hIx_k _ rfl), meetI (fun h => by have := h.1.1; simp only at this; omega)⟩
  · exact ⟨_, go _ (hIx_k _ rfl), meetI (fun h => by have := h.1.1; simp only at this; omega)⟩
  · exact ⟨_, go _ (hIx_k _ rfl), meetI (fun h => by have := h.1.2; simp only at this; omega)⟩
  · exact ⟨_, go _ (hIx_k _ rfl), meetI (fun h => by have := h.2.1.2; simp only at this; omega)⟩
  · exact ⟨_, go _ (hIx_k _ rfl), meetI (fun h => by have := h.2.2.2; simp only at this; omega)⟩
  · exact ⟨_, go _ (hIx_k _ rfl), meetI (fun h => by have := h.2.1.1; simp only at this; omega)⟩
  · exact ⟨_, go _ (hIx_k _ rfl), meetI (fun h => by have := h.2.2.1; simp only at this; omega)⟩
  · exact ⟨_, go _ (hIx_k _ rfl), (meet3 (moment_not (wF rfl)) p0 p0).trans (by rw [Bool.false_and])⟩
  · exact ⟨_, go _ (hIx_k _ rfl), (meet3 m0 (place_not n (wF rfl)) p0).trans (by rw [Bool.false_and, Bool.and_false])⟩
  · exact ⟨_, go _ (hIx_k _ rfl), (meet3 m0 p0 (place_not n (wF rfl))).trans (by rw [Bool.and_false, Bool.and_false])⟩
  · exact ⟨_, go _ (hIx_k _ rfl), (meet3 m0 (place_not n (wF rfl)) p0).trans (by rw [Bool.false_and, Bool.and_false])⟩
  · exact ⟨_, go _ (hIx_k _ rfl), (meet3 m0 p0 (place_not n (wF rfl))).trans (by rw [Bool.and_false, Bool.and_false])⟩
  · exact ⟨_, go _ (hIx_k _ rfl), meet_not rfl⟩
  · exact ⟨_, go _ (hIx_k _ rfl), meet_not rfl⟩
end K02
end T_K02C
section T_K02Q
set_option linter.all false
set_option maxRecDepth 100000
set_option maxHeartbeats 4000000
namespace K02
open PySem Sim FamA L2
theorem mom_uniq {r : List T3} (ho : r.Pairwise fun s t => s.1 < t.1) {s t : T3} (hs : s ∈ r) (ht : t ∈ r) (e : s.1 = t.1) : s = t := by
  induction r with
  | nil => cases hs
  | cons u r ih =>
    obtain ⟨h1, h2⟩ := List.pairwise_cons.mp ho
    rcases List.mem_cons.mp hs with e1 | hs' <;> rcases List.mem_cons.mp ht with e2 | ht'
    · rw [e1, e2]
    · have := h1 t ht'; rw [e1] at e; omega
    · have := h1 s hs'; rw [e2] at e; omega
    · exact ih h2 hs' ht'
theorem good_of {n : Int} {r : List T3} (h : RecOk n r) : Good n r := by
  refine ⟨h.len, fun t ht => ?_, h.ord⟩
  have ⟨m0, m1, a0, ab, bn⟩ := h.ties t ht
  unfold B30 at m1
  omega
theorem cut46 {N : List Int} (h : 6 ≤ N.length) : ∃ M : List Int, M.length = 2 ∧ hSl (.list (N.map .int)) (some 4) (some 6) = .ok (.list (M.map .int)) := by
  refine ⟨(N.drop 4).take 2, by rw [List.length_take, List.length_drop]; omega, ?_⟩
  show O.ok (PyData.list (Sim.cutD (N.map .int) (some ((4 : Nat) : Int)) (some ((6 : Nat) : Int)))) = _
  unfold Sim.cutD
  rw [HT.sIx_nat, HT.sIx_nat, List.length_map, Nat.min_eq_left (by omega), Nat.min_eq_left (by omega), ← List.map_drop, ← List.map_take]
structure Cla (n : Int) (r ex : List T3) (M : List Int) : Prop where
  mem : ∀ m, m ∈ M ↔ ∃ x ∈ ex, x.1 = m
  meet : ∀ x ∈ ex, Meet n x
  un : ∀ x ∈ ex, ∃ t ∈ r, t.1 = x.1 ∧ norm x ≠ t
theorem clash1_ok {n : Int} {r : List T3} (hn : 1 < n) (hg : Good n r) (hr0 : 0 < r.length) (N : Dt) {ex : List T3} {M : List Int} (hC : Cla n r ex M) (hl : ex.length ≤ 10) (hl2 : M.length ≤ 10) (z : Int) (d6 d7 d8 : Dt) :
    ∃ ex' M' e6 e7 e8, Cla n r ex' M' ∧ M' ≠ [] ∧ ex'.length ≤ ex.length + 1 ∧ M'.length ≤ M.length + 1 ∧ g_l_clashed_L1 [.int n, .list (r.map enc3), N, .list ((r ++ ex).map enc3), .list (M.map .int), .int z, d6, d7, d8] = .ok (.nx [.int n, .list (r.map enc3), N, .list ((r ++ ex').map enc3), .list (M'.map .int), .int z, e6, e7, e8]) := by
  have hrl := hg.len
  have hmd := hMod_i (i := z) (show (0 : Int) < (r.length : Int) by omega)
  have q0 := Int.emod_nonneg z (show (r.length : Int) ≠ 0 by omega)
  have q1 := Int.emod_lt_of_pos z (show (0 : Int) < (r.length : Int) by omega)
  generalize z % (r.length : Int) = k at *
  have hix : hIx (.list (r.map enc3)) (.int k) = .ok (enc3 (r[k.toNat]'(by omega))) := hIx_l (atI_map enc3 q0 q1)
  have htm : (r[k.toNat]'(by omega)) ∈ r := List.getElem_mem _
  generalize r[k.toNat]'(by omega) = t at *
  obtain ⟨⟨m0, m1⟩, a0, ab, bn⟩ := hg.ok t htm
  have s1 : ∀ g : Gs, gSeqS (gAsg (gOp hIx (gVar 1) (gOp hMod (gVar 5) (gCB hLen (gCons (gVar 1) (gNil))))) (tgT (tgCons (tgN 6) (tgCons (tgN 7) (tgCons (tgN 8) (tgNil)))))) g [.int n, .list (r.map enc3), N, .list ((r ++ ex).map enc3), .list (M.map .int), .int z, d6, d7, d8]
      = g [.int n, .list (r.map enc3), N, .list ((r ++ ex).map enc3), .list (M.map .int), .int z, .int t.1, .int t.2.1, .int t.2.2] := fun g =>
    seq_step (asg_ok (d := enc3 t) (ρ' := [.int n, .list (r.map enc3), N, .list ((r ++ ex).map enc3), .list (M.map .int), .int z, .int t.1, .int t.2.1, .int t.2.2]) (by simp only [bnd_ok, gVar_def, gC_def, gOp_def, gUn_def, gNil_def, gCons_def, gIf_def, gTest_def, gNot_def, gAnd_def, gOr_def, gAndV_def, gOrV_def, gNotV_def, gCB_def, asB_b, hAdd_i, hSub_i, hLt_i, hLe_i, hGt_i, hGe_i, hMul_r, hMul_l, hMod_i, hDiv_s, hBand_i, hShr_i, hPow_10_18, hPow_10_27, hPow_10_28, hPow_10_29, hPow_10_30, hEq_i, hNe_i, hLen_l, hLen_t, hMin2_i, hMax2_i, hMin3_i, hInt1_b, hInt1_i, hBits_i, hListOf_l, hListOf_t, hTupOf_l, hTupOf_t, gSeqS_def, gSet_def, gRet_def, gIfS_def, gNext_def, gTup_def, gLst_def, List.getElem?_cons_zero, List.getElem?_cons_succ, List.set_cons_zero, List.set_cons_succ, List.length_cons, List.length_nil, Nat.zero_add, Nat.reduceAdd, Nat.reduceLeDiff, Nat.reduceSub, Nat.reduceMul, if_true, if_false, Bool.false_eq_true, List.replicate_succ, List.replicate_zero, List.cons_append, List.nil_append, tgN, tgT, tgCons, tgNil, Int.reducePow, Int.reduceAdd, Int.reduceSub, Int.reduceMul, decide_true, decide_false, Bool.not_true, Bool.not_false, gChain_def, hIsa_int, hIsa_intb, hIsa_list, hIsa_tuple, gDrop_def, List.length_map, hmd, hix]) rfl) rfl
  have hni := hNotIn_ints t.1 M
  have e1 : decide ((1 : Int) < n) = true := by rw [decide_eq_true_eq]; omega
  unfold g_l_clashed_L1
  rw [s1]
  by_cases c : t.1 ∈ M
  · refine ⟨ex, M, _, _, _, hC, (fun z => by rw [z] at c; cases c), by omega, by omega, (if_f ?_).trans rfl⟩
    rw [decide_eq_true c] at hni
    simp only [bnd_ok, gVar_def, gC_def, gOp_def, gUn_def, gNil_def, gCons_def, gIf_def, gTest_def, gNot_def, gAnd_def, gOr_def, gAndV_def, gOrV_def, gNotV_def, gCB_def, asB_b, hAdd_i, hSub_i, hLt_i, hLe_i, hGt_i, hGe_i, hMul_r, hMul_l, hMod_i, hDiv_s, hBand_i, hShr_i, hPow_10_18, hPow_10_27, hPow_10_28, hPow_10_29, hPow_10_30, hEq_i, hNe_i, hLen_l, hLen_t, hMin2_i, hMax2_i, hMin3_i, hInt1_b, hInt1_i, hBits_i, hListOf_l, hListOf_t, hTupOf_l, hTupOf_t, gSeqS_def, gSet_def, gRet_def, gIfS_def, gNext_def, gTup_def, gLst_def, List.getElem?_cons_zero, List.getElem?_cons_succ, List.set_cons_zero, List.set_cons_succ, List.length_cons, List.length_nil, Nat.zero_add, Nat.reduceAdd, Nat.reduceLeDiff, Nat.reduceSub, Nat.reduceMul, if_true, if_false, Bool.false_eq_true, List.replicate_succ, List.replicate_zero, List.cons_append, List.nil_append, tgN, tgT, tgCons, tgNil, Int.reducePow, Int.reduceAdd, Int.reduceSub, Int.reduceMul, decide_true, decide_false, Bool.not_true, Bool.not_false, gChain_def, hIsa_int, hIsa_intb, hIsa_list, hIsa_tuple, gDrop_def, e1, hni]
  · rw [decide_eq_false c] at hni
    have hmd2 := hMod_i (i := t.2.1 + 1) (show (0 : Int) < n by omega)
    have p0 := Int.emod_nonneg (t.2.1 + 1) (show n ≠ 0 by omega)
    have p1 := Int.emod_lt_of_pos (t.2.1 + 1) (show 0 < n by omega)
    have p2 : (t.2.1 + 1) % n ≠ t.2.1 := by
      by_cases e : t.2.1 + 1 = n
      · rw [e, Int.emod_self]; omega
      · rw [Int.emod_eq_of_lt (by omega) (by omega)]; omega
    suffices h : ∃ u : T3, Meet n u ∧ u.1 = t.1 ∧ norm u ≠ t ∧ gIfS (gTest (gOp hEq (gVar 7) (gVar 8))) (gApp 3 (gTup (gCons (gVar 6) (gCons (gVar 7) (gCons (gOp hMod (gOp hAdd (gVar 7) (gC (.int (1)))) (gVar 0)) (gNil)))))) (gApp 3 (gTup (gCons (gVar 6) (gCons (gVar 7) (gCons (gVar 7) (gNil))))))
        [.int n, .list (r.map enc3), N, .list ((r ++ ex).map enc3), .list (M.map .int ++ [.int t.1]), .int z, .int t.1, .int t.2.1, .int t.2.2] = .ok (.nx [.int n, .list (r.map enc3), N, .list ((r ++ ex).map enc3 ++ [enc3 u]), .list (M.map .int ++ [.int t.1]), .int z, .int t.1, .int t.2.1, .int t.2.2]) by
      obtain ⟨u, hu, hu1, hu2, hg⟩ := h
      refine ⟨ex ++ [u], M ++ [t.1], .int t.1, .int t.2.1, .int t.2.2, ⟨fun m => ?_, fun x hx => ?_, fun x hx => ?_⟩, by simp, by simp, by simp, (if_t ?_).trans ?_⟩
      · rw [List.mem_append, hC.mem, List.mem_singleton]
        constructor
        · rintro (⟨x, hx, e⟩ | e)
          · exact ⟨x, List.mem_append_left _ hx, e⟩
          · exact ⟨u, List.mem_append_right _ (List.mem_singleton.mpr rfl), by rw [hu1, e]⟩
        · rintro ⟨x, hx, e⟩
          rcases List.mem_append.mp hx with hx | hx
          · exact .inl ⟨x, hx, e⟩
          · rw [List.mem_singleton.mp hx, hu1] at e
            exact .inr e.symm
      · rcases List.mem_append.mp hx with hx | hx
        · exact hC.meet x hx
        · rw [List.mem_singleton.mp hx]; exact hu
      · rcases List.mem_append.mp hx with hx | hx
        · exact hC.un x hx
        · rw [List.mem_singleton.mp hx]; exact ⟨t, htm, hu1.symm, hu2⟩
      · simp only [bnd_ok, gVar_def, gC_def, gOp_def, gUn_def, gNil_def, gCons_def, gIf_def, gTest_def, gNot_def, gAnd_def, gOr_def, gAndV_def, gOrV_def, gNotV_def, gCB_def, asB_b, hAdd_i, hSub_i, hLt_i, hLe_i, hGt_i, hGe_i, hMul_r, hMul_l, hMod_i, hDiv_s, hBand_i, hShr_i, hPow_10_18, hPow_10_27, hPow_10_28, hPow_10_29, hPow_10_30, hEq_i, hNe_i, hLen_l, hLen_t, hMin2_i, hMax2_i, hMin3_i, hInt1_b, hInt1_i, hBits_i, hListOf_l, hListOf_t, hTupOf_l, hTupOf_t, gSeqS_def, gSet_def, gRet_def, gIfS_def, gNext_def, gTup_def, gLst_def, List.getElem?_cons_zero, List.getElem?_cons_succ, List.set_cons_zero, List.set_cons_succ, List.length_cons, List.length_nil, Nat.zero_add, Nat.reduceAdd, Nat.reduceLeDiff, Nat.reduceSub, Nat.reduceMul, if_true, if_false, Bool.false_eq_true, List.replicate_succ, List.replicate_zero, List.cons_append, List.nil_append, tgN, tgT, tgCons, tgNil, Int.reducePow, Int.reduceAdd, Int.reduceSub, Int.reduceMul, decide_true, decide_false, Bool.not_true, Bool.not_false, gChain_def, hIsa_int, hIsa_intb, hIsa_list, hIsa_tuple, gDrop_def, e1, hni]
      · refine seq_step (gApp_l (ds := M.map .int) (d := .int t.1) rfl rfl (by rw [List.length_map]; omega)) ?_
        dsimp only [List.set]
        have ea : (r ++ (ex ++ [u])).map enc3 = (r ++ ex).map enc3 ++ [enc3 u] := by rw [← List.append_assoc, List.map_append]; rfl
        have eb : (M ++ [t.1]).map PyData.int = M.map .int ++ [.int t.1] := by rw [List.map_append]; rfl
        rw [hg, ea, eb]
    have hlen : ((r ++ ex).map enc3).length < 100000 := by rw [List.length_map, List.length_append]; omega
    by_cases c2 : t.2.1 = t.2.2
    · have eq : (t.2.1 == t.2.2) = true := by rw [c2, beq_self_eq_true]
      refine ⟨(t.1, t.2.1, (t.2.1 + 1) % n), ⟨⟨m0, m1⟩, ⟨a0, by show t.2.1 < n; omega⟩, p0, p1⟩, rfl, fun z => ?_, (if_t (by simp only [bnd_ok, gVar_def, gC_def, gOp_def, gUn_def, gNil_def, gCons_def, gIf_def, gTest_def, gNot_def, gAnd_def, gOr_def, gAndV_def, gOrV_def, gNotV_def, gCB_def, asB_b, hAdd_i, hSub_i, hLt_i, hLe_i, hGt_i, hGe_i, hMul_r, hMul_l, hMod_i, hDiv_s, hBand_i, hShr_i, hPow_10_18, hPow_10_27, hPow_10_28, hPow_10_29, hPow_10_30, hEq_i, hNe_i, hLen_l, hLen_t, hMin2_i, hMax2_i, hMin3_i, hInt1_b, hInt1_i, hBits_i, hListOf_l, hListOf_t, hTupOf_l, hTupOf_t, gSeqS_def, gSet_def, gRet_def, gIfS_def, gNext_def, gTup_def, gLst_def, List.getElem?_cons_zero, List.getElem?_cons_succ, List.set_cons_zero, List.set_cons_succ, List.length_cons, List.length_nil, Nat.zero_add, Nat.reduceAdd, Nat.reduceLeDiff, Nat.reduceSub, Nat.reduceMul, if_true, if_false, Bool.false_eq_true, List.replicate_succ, List.replicate_zero, List.cons_append, List.nil_append, tgN, tgT, tgCons, tgNil, Int.reducePow, Int.reduceAdd, Int.reduceSub, Int.reduceMul, decide_true, decide_false, Bool.not_true, Bool.not_false, gChain_def, hIsa_int, hIsa_intb, hIsa_list, hIsa_tuple, gDrop_def, eq])).trans (gApp_l (ds := (r ++ ex).map enc3) (d := enc3 (t.1, t.2.1, (t.2.1 + 1) % n)) rfl (by simp only [bnd_ok, gVar_def, gC_def, gOp_def, gUn_def, gNil_def, gCons_def, gIf_def, gTest_def, gNot_def, gAnd_def, gOr_def, gAndV_def, gOrV_def, gNotV_def, gCB_def, asB_b, hAdd_i, hSub_i, hLt_i, hLe_i, hGt_i, hGe_i, hMul_r, hMul_l, hMod_i, hDiv_s, hBand_i, hShr_i, hPow_10_18, hPow_10_27, hPow_10_28, hPow_10_29, hPow_10_30, hEq_i, hNe_i, hLen_l, hLen_t, hMin2_i, hMax2_i, hMin3_i, hInt1_b, hInt1_i, hBits_i, hListOf_l, hListOf_t, hTupOf_l, hTupOf_t, gSeqS_def, gSet_def, gRet_def, gIfS_def, gNext_def, gTup_def, gLst_def, List.getElem?_cons_zero, List.getElem?_cons_succ, List.set_cons_zero, List.set_cons_succ, List.length_cons, List.length_nil, Nat.zero_add, Nat.reduceAdd, Nat.reduceLeDiff, Nat.reduceSub, Nat.reduceMul, if_true, if_false, Bool.false_eq_true, List.replicate_succ, List.replicate_zero, List.cons_append, List.nil_append, tgN, tgT, tgCons, tgNil, Int.reducePow, Int.reduceAdd, Int.reduceSub, Int.reduceMul, decide_true, decide_false, Bool.not_true, Bool.not_false, gChain_def, hIsa_int, hIsa_intb, hIsa_list, hIsa_tuple, gDrop_def, hmd2]; rfl) hlen)⟩
      have z1 : (if (t.2.1 + 1) % n < t.2.1 then (t.2.1 + 1) % n else t.2.1) = t.2.1 := congrArg (fun u : T3 => u.2.1) z
      have z2 : (if (t.2.1 + 1) % n > t.2.1 then (t.2.1 + 1) % n else t.2.1) = t.2.2 := congrArg (fun u : T3 => u.2.2) z
      split at z1 <;> split at z2 <;> omega
    · have eq : (t.2.1 == t.2.2) = false := beq_eq_false_iff_ne.mpr c2
      refine ⟨(t.1, t.2.1, t.2.1), ⟨⟨m0, m1⟩, ⟨a0, by show t.2.1 < n; omega⟩, a0, by show t.2.1 < n; omega⟩, rfl, fun z => ?_, (if_f (by simp only [bnd_ok, gVar_def, gC_def, gOp_def, gUn_def, gNil_def, gCons_def, gIf_def, gTest_def, gNot_def, gAnd_def, gOr_def, gAndV_def, gOrV_def, gNotV_def, gCB_def, asB_b, hAdd_i, hSub_i, hLt_i, hLe_i, hGt_i, hGe_i, hMul_r, hMul_l, hMod_i, hDiv_s, hBand_i, hShr_i, hPow_10_18, hPow_10_27, hPow_10_28, hPow_10_29, hPow_10_30, hEq_i, hNe_i, hLen_l, hLen_t, hMin2_i, hMax2_i, hMin3_i, hInt1_b, hInt1_i, hBits_i, hListOf_l, hListOf_t, hTupOf_l, hTupOf_t, gSeqS_def, gSet_def, gRet_def, gIfS_def, gNext_def, gTup_def, gLst_def, List.getElem?_cons_zero, List.getElem?_cons_succ, List.set_cons_zero, List.set_cons_succ, List.length_cons, List.length_nil, Nat.zero_add, Nat.reduceAdd, Nat.reduceLeDiff, Nat.reduceSub, Nat.reduceMul, if_true, if_false, Bool.false_eq_true, List.replicate_succ, List.replicate_zero, List.cons_append, List.nil_append, tgN, tgT, tgCons, tgNil, Int.reducePow, Int.reduceAdd, Int.reduceSub, Int.reduceMul, decide_true, decide_false, Bool.not_true, Bool.not_false, gChain_def, hIsa_int, hIsa_intb, hIsa_list, hIsa_tuple, gDrop_def, eq])).trans (gApp_l (ds := (r ++ ex).map enc3) (d := enc3 (t.1, t.2.1, t.2.1)) rfl (by simp only [bnd_ok, gVar_def, gC_def, gOp_def, gUn_def, gNil_def, gCons_def, gIf_def, gTest_def, gNot_def, gAnd_def, gOr_def, gAndV_def, gOrV_def, gNotV_def, gCB_def, asB_b, hAdd_i, hSub_i, hLt_i, hLe_i, hGt_i, hGe_i, hMul_r, hMul_l, hMod_i, hDiv_s, hBand_i, hShr_i, hPow_10_18, hPow_10_27, hPow_10_28, hPow_10_29, hPow_10_30, hEq_i, hNe_i, hLen_l, hLen_t, hMin2_i, hMax2_i, hMin3_i, hInt1_b, hInt1_i, hBits_i, hListOf_l, hListOf_t, hTupOf_l, hTupOf_t, gSeqS_def, gSet_def, gRet_def, gIfS_def, gNext_def, gTup_def, gLst_def, List.getElem?_cons_zero, List.getElem?_cons_succ, List.set_cons_zero, List.set_cons_succ, List.length_cons, List.length_nil, Nat.zero_add, Nat.reduceAdd, Nat.reduceLeDiff, Nat.reduceSub, Nat.reduceMul, if_true, if_false, Bool.false_eq_true, List.replicate_succ, List.replicate_zero, List.cons_append, List.nil_append, tgN, tgT, tgCons, tgNil, Int.reducePow, Int.reduceAdd, Int.reduceSub, Int.reduceMul, decide_true, decide_false, Bool.not_true, Bool.not_false, gChain_def, hIsa_int, hIsa_intb, hIsa_list, hIsa_tuple, gDrop_def]; rfl) hlen)⟩
      have z2 : (if t.2.1 > t.2.1 then t.2.1 else t.2.1) = t.2.2 := congrArg (fun u : T3 => u.2.2) z
      split at z2 <;> omega
theorem clashed_ok {n : Int} {r : List T3} (hn : 1 < n) (hg : Good n r) (hne : r ≠ []) {N : List Int} (hN : N.length = 2) : ∃ ex M, Cla n r ex M ∧ M ≠ [] ∧ ex.length ≤ 2 ∧ f_l_clashed [.int n, .list (r.map enc3), .list (N.map .int)] = .ok (.tuple [.list ((r ++ ex).map enc3), .list (M.map .int)]) := by
  have hr0 : 0 < r.length := List.length_pos_iff.mpr hne
  have hrl := hg.len
  obtain ⟨ρ', hf, d5, d6, d7, d8, ex, M, rfl, hC, hM, hl, hl2⟩ := forE_ix PyData.int (h := tgN 5) (b := g_l_clashed_L1) N
    (fun i ρ => ∃ (d5 d6 d7 d8 : Dt) (ex : List T3) (M : List Int), ρ = [.int n, .list (r.map enc3), .list (N.map .int), .list ((r ++ ex).map enc3), .list (M.map .int), d5, d6, d7, d8] ∧ Cla n r ex M ∧ (0 < i → M ≠ []) ∧ ex.length ≤ i ∧ M.length ≤ i)
    (ρ := [.int n, .list (r.map enc3), .list (N.map .int), .list ((r ++ []).map enc3), .list (([] : List Int).map .int), .none, .none, .none, .none]) ⟨.none, .none, .none, .none, [], [], rfl, ⟨fun m => by simp, fun x hx => (by cases hx), fun x hx => (by cases hx)⟩, fun h => absurd h (Nat.lt_irrefl _), Nat.le_refl _, Nat.le_refl _⟩ (by
      rintro i ρ hi ⟨d5, d6, d7, d8, ex, M, rfl, hC, hM, hl, hl2⟩
      obtain ⟨ex', M', e6, e7, e8, h1, h2, h3, h4, h5⟩ := clash1_ok hn hg hr0 (.list (N.map .int)) hC (by omega) (by omega) N[i] d6 d7 d8
      exact ⟨_, _, rfl, .inl h5, _, e6, e7, e8, ex', M', rfl, h1, fun _ => h2, by omega, by omega⟩)
  refine ⟨ex, M, hC, hM (by omega), by omega, fnN_rt ?_⟩
  show g_l_clashed [.int n, .list (r.map enc3), .list (N.map .int), .none, .none, .none, .none, .none, .none] = _
  unfold g_l_clashed
  refine seq_step (set_ok (d := .list (r.map enc3)) rfl) ?_
  dsimp only [List.set]
  refine seq_step (set_ok (d := .list []) (gLst_nil _)) ?_
  dsimp only [List.set]
  rw [List.append_nil] at hf
  refine seq_step (for_ok (ds := N.map .int) rfl hf) ?_
  exact ret_ok rfl
theorem Cla.clash {n : Int} {r ex : List T3} {M : List Int} (hC : Cla n r ex M) (hg : Good n r) {m : Int} (hm : m ∈ M) (hl : ∀ y ∈ M, m ≤ y) {Th : List T3} (hT : ∀ x, x ∈ Th ↔ x ∈ r ++ ex) :
    (∃ s ∈ Th, ∃ t ∈ Th, norm s ≠ norm t ∧ s.1 = m ∧ t.1 = m) ∧ ∀ s ∈ Th, ∀ t ∈ Th, norm s ≠ norm t → s.1 = t.1 → m ≤ s.1 := by
  have hn : ∀ t ∈ r, norm t = t := fun t ht => norm_of hg ht (.inl rfl)
  constructor
  · obtain ⟨x, hx, e⟩ := (hC.mem m).mp hm
    obtain ⟨t, ht, e1, e2⟩ := hC.un x hx
    exact ⟨x, (hT x).mpr (List.mem_append_right _ hx), t, (hT t).mpr (List.mem_append_left _ ht), by rw [hn t ht]; exact e2, e, e1.trans e⟩
  · intro s hs t ht hne e
    have hs := (hT s).mp hs
    have ht := (hT t).mp ht
    rcases List.mem_append.mp hs with hs | hs
    · rcases List.mem_append.mp ht with ht | ht
      · exact absurd (congrArg norm (mom_uniq hg.ord hs ht e)) hne
      · rw [e]; exact hl _ ((hC.mem _).mpr ⟨t, ht, rfl⟩)
    · exact hl _ ((hC.mem _).mpr ⟨s, hs, rfl⟩)
theorem many_things {n : Int} (n1 : 1 ≤ n) (n10 : n ≤ 10) (number : Int) : ∃ ds, f_l_many [.int n, .int number] = .ok (.list ds) ∧ f_record_of [.int n, .list ds] = .ex ⟨"NoTies", none⟩ := by
  have hm := hMod_i (i := number) (show (0 : Int) < 10 by omega)
  have q0 := Int.emod_nonneg number (show (10 : Int) ≠ 0 by omega)
  have q1 := Int.emod_lt_of_pos number (show (0 : Int) < 10 by omega)
  generalize number % 10 = k at *
  let T : Nat → T3 := fun i => ((i : Int), 0, 0)
  have hlc := gLc_map (fun i : Nat => PyData.int (0 + (i : Int))) (fun _ => true) (fun i : Nat => enc3 (T i)) (gi := gRng1 (gCons (gOp hAdd (gC (.int (61))) (gOp hMod (gVar 1) (gC (.int (10))))) (gNil))) (h := tgN 2) (gt := gYes) (ge := gTup (gCons (gVar 2) (gCons (gC (.int (0))) (gCons (gC (.int (0))) (gNil))))) (ρ := [.int n, .int number, .none]) (xs := List.range (61 + k).toNat)
    (by
      rw [rng1_ok (j := 61 + k) (by simp only [bnd_ok, gVar_def, gC_def, gOp_def, gUn_def, gNil_def, gCons_def, gIf_def, gTest_def, gNot_def, gAnd_def, gOr_def, gAndV_def, gOrV_def, gNotV_def, gCB_def, asB_b, hAdd_i, hSub_i, hLt_i, hLe_i, hGt_i, hGe_i, hMul_r, hMul_l, hMod_i, hDiv_s, hBand_i, hShr_i, hPow_10_18, hPow_10_27, hPow_10_28, hPow_10_29, hPow_10_30, hEq_i, hNe_i, hLen_l, hLen_t, hMin2_i, hMax2_i, hMin3_i, hInt1_b, hInt1_i, hBits_i, hListOf_l, hListOf_t, hTupOf_l, hTupOf_t, gSeqS_def, gSet_def, gRet_def, gIfS_def, gNext_def, gTup_def, gLst_def, List.getElem?_cons_zero, List.getElem?_cons_succ, List.set_cons_zero, List.set_cons_succ, List.length_cons, List.length_nil, Nat.zero_add, Nat.reduceAdd, Nat.reduceLeDiff, Nat.reduceSub, Nat.reduceMul, if_true, if_false, Bool.false_eq_true, List.replicate_succ, List.replicate_zero, List.cons_append, List.nil_append, tgN, tgT, tgCons, tgNil, Int.reducePow, Int.reduceAdd, Int.reduceSub, Int.reduceMul, decide_true, decide_false, Bool.not_true, Bool.not_false, gChain_def, hIsa_int, hIsa_intb, hIsa_list, hIsa_tuple, gDrop_def, hm]) (by omega) (by omega)]
      unfold rangeD
      rw [Int.sub_zero]) (by rw [List.length_range]; omega) fun i _ => ⟨[.int n, .int number, .int (0 + (i : Int))], rfl, rfl, fun _ => by
        have : (0 : Int) + (i : Int) = (i : Int) := by omega
        rw [this]
        simp only [bnd_ok, gVar_def, gC_def, gOp_def, gUn_def, gNil_def, gCons_def, gIf_def, gTest_def, gNot_def, gAnd_def, gOr_def, gAndV_def, gOrV_def, gNotV_def, gCB_def, asB_b, hAdd_i, hSub_i, hLt_i, hLe_i, hGt_i, hGe_i, hMul_r, hMul_l, hMod_i, hDiv_s, hBand_i, hShr_i, hPow_10_18, hPow_10_27, hPow_10_28, hPow_10_29, hPow_10_30, hEq_i, hNe_i, hLen_l, hLen_t, hMin2_i, hMax2_i, hMin3_i, hInt1_b, hInt1_i, hBits_i, hListOf_l, hListOf_t, hTupOf_l, hTupOf_t, gSeqS_def, gSet_def, gRet_def, gIfS_def, gNext_def, gTup_def, gLst_def, List.getElem?_cons_zero, List.getElem?_cons_succ, List.set_cons_zero, List.set_cons_succ, List.length_cons, List.length_nil, Nat.zero_add, Nat.reduceAdd, Nat.reduceLeDiff, Nat.reduceSub, Nat.reduceMul, if_true, if_false, Bool.false_eq_true, List.replicate_succ, List.replicate_zero, List.cons_append, List.nil_append, tgN, tgT, tgCons, tgNil, Int.reducePow, Int.reduceAdd, Int.reduceSub, Int.reduceMul, decide_true, decide_false, Bool.not_true, Bool.not_false, gChain_def, hIsa_int, hIsa_intb, hIsa_list, hIsa_tuple, gDrop_def]
        rfl⟩
  rw [List.filter_eq_self.mpr (fun _ _ => rfl)] at hlc
  have e : (List.range (61 + k).toNat).map (fun i : Nat => enc3 (T i)) = ((List.range (61 + k).toNat).map T).map enc3 := by rw [List.map_map]; rfl
  rw [e] at hlc
  have hlen : ((List.range (61 + k).toNat).map T).length = (61 + k).toNat := by rw [List.length_map, List.length_range]
  refine ⟨_, fnL_rt (ret_ok hlc), many_ties n1 n10 (by omega) (fun x hx => ?_) (fun x hx => ?_) ?_ (by omega)⟩
  · obtain ⟨i, hi, rfl⟩ := List.mem_map.mp hx
    rw [List.mem_range] at hi
    refine ⟨⟨?_, ?_⟩, ⟨Int.le_refl _, ?_⟩, Int.le_refl _, ?_⟩
    · show (0 : Int) ≤ (i : Int); omega
    · show (i : Int) ≤ 1000000000000000000000000000000; omega
    · show (0 : Int) < n; omega
    · show (0 : Int) < n; omega
  · obtain ⟨i, hi, rfl⟩ := List.mem_map.mp hx
    rfl
  · refine List.Pairwise.map _ (fun a b h => ?_) List.nodup_range
    intro z
    have : (a : Int) = (b : Int) := congrArg (fun u : T3 => u.1) z
    omega
end K02
end T_K02Q
section T_K02S
set_option linter.all false
set_option maxRecDepth 100000
set_option maxHeartbeats 4000000
namespace K02
open PySem Sim FamA L2
theorem no_tiesE {n : Int} {ds : List Dt} (n1 : 1 ≤ n) (n10 : n ≤ 10) (hl : ds.length ≤ 1000) (h : ∀ e ∈ ds, ∃ b, f_is_meeting [.int n, e] = .ok (.bool b)) {d : Dt} (hd : d ∈ ds) (hp : f_is_meeting [.int n, d] = .ok (.bool false)) : f_record_of [.int n, .list ds] = .ex ⟨"NoTies", none⟩ := by
  refine no_ties (p := fun e => match f_is_meeting [.int n, e] with | .ok (.bool b) => b | _ => false) n1 n10 hl (fun e he => ?_) hd (by simp only [hp])
  obtain ⟨b, hb⟩ := h e he
  simp only [hb]
theorem meet_of {n : Int} {r : List T3} (hg : Good n r) {t : T3} (ht : t ∈ r) : Meet n t := by
  obtain ⟨⟨m0, m1⟩, a0, ab, bn⟩ := hg.ok t ht
  exact ⟨⟨m0, m1⟩, ⟨a0, by omega⟩, by omega, bn⟩
theorem other_ok (r : List T3) (hr : r.length ≤ 60) (z : Int) : ∃ o, hIx (.list [.tuple (r.map enc3), .none, .str "none", .int 0]) (.int (z % 4)) = .ok o ∧ hIsa .list o = .ok (.bool false) := by
  have q0 := Int.emod_nonneg z (show (4 : Int) ≠ 0 by omega)
  have q1 := Int.emod_lt_of_pos z (show (0 : Int) < 4 by omega)
  obtain ⟨k, hk⟩ : ∃ k : Nat, z % 4 = (k : Int) := ⟨(z % 4).toNat, by omega⟩
  rw [hk]
  have c : k = 0 ∨ k = 1 ∨ k = 2 ∨ k = 3 := by omega
  rcases c with rfl | rfl | rfl | rfl
  · exact ⟨_, hIx_k _ rfl, rfl⟩
  · exact ⟨_, hIx_k _ rfl, rfl⟩
  · exact ⟨_, hIx_k _ rfl, rfl⟩
  · exact ⟨_, hIx_k _ rfl, rfl⟩
theorem two_t {ga gb : Gd} {ρ : List Dt} (h1 : ga ρ = .ok (.bool true)) (h2 : gb ρ = .ok (.bool true)) : gIfS (gOr (gNot (gTest ga)) (gNot (gTest gb))) (gRet (gC (.bool false))) (gNext) ρ = .ok (.nx ρ) := by
  refine (if_f ?_).trans rfl
  rw [gOr_def, gNot_def, gTest_def, h1, gNot_def, gTest_def, h2]
  rfl
theorem one_t {ga : Gd} {ρ : List Dt} (h1 : ga ρ = .ok (.bool true)) : gIfS (gNot (gTest ga)) (gRet (gC (.bool false))) (gNext) ρ = .ok (.nx ρ) := by
  refine (if_f ?_).trans rfl
  rw [gNot_def, gTest_def, h1]
  rfl
theorem body_ok (sc : Dt) (cell : Int) (d2 d3 d4 d5 d6 d7 d8 d9 d10 d11 d12 : Dt) :
    ∃ e2 e3 e4 e5 e6 e7 e8 e9 e10 e11 e12, g_law_L1 [sc, .int cell, d2, d3, d4, d5, d6, d7, d8, d9, d10, d11, d12] = .ok (.nx [sc, .int cell, e2, e3, e4, e5, e6, e7, e8, e9, e10, e11, e12]) := by
  obtain ⟨N, hN, lN, bN⟩ := numbers_ok cell 48 (by omega) (by omega)
  have hN : f_l_numbers [.int cell, .int 48, .int 1000000000000000000000000000000] = .ok (.list (N.map .int)) := hN
  have lN : N.length = 48 := lN
  obtain ⟨x0, i0, b0⟩ := ix_ok bN (i := 0) (by omega) (by omega)
  obtain ⟨x1, i1, b1⟩ := ix_ok bN (i := 1) (by omega) (by omega)
  obtain ⟨x2, i2, b2⟩ := ix_ok bN (i := 2) (by omega) (by omega)
  obtain ⟨x3, i3, b3⟩ := ix_ok bN (i := 3) (by omega) (by omega)
  obtain ⟨x4, i4, b4⟩ := ix_ok bN (i := 4) (by omega) (by omega)
  have bD : ∀ y ∈ N.drop 6, 0 ≤ y ∧ y < B30 := fun x hx => bN x (List.mem_of_mem_drop hx)
  obtain ⟨n, r, hR, n1, n10, hrec, hr12⟩ := record_ok (ns := N.drop 6) (most := 12) bD (by rw [List.length_drop]; omega) (by rw [List.length_drop]; omega) (by omega) (by omega)
  have hr12 : r.length ≤ 12 := by omega
  have hG := good_of hrec
  have hf0 := Int.emod_nonneg x0 (show (100000000000000000000000000000 : Int) ≠ 0 by omega)
  have hfm := hMod_i (i := x0) (show (0 : Int) < 100000000000000000000000000000 by omega)
  obtain ⟨d, hd, hdm⟩ := tie_odd n (x0 % 100000000000000000000000000000) x1 n1 hf0
  generalize x0 % 100000000000000000000000000000 = far at *
  have ham := hMod_i (i := x2) (show (0 : Int) < (r.length : Int) + 1 by omega)
  have a0 := Int.emod_nonneg x2 (show (r.length : Int) + 1 ≠ 0 by omega)
  generalize x2 % ((r.length : Int) + 1) = at0 at *
  obtain ⟨pd, hp, hpm⟩ := places_ok x0 x3 b0.1
  obtain ⟨o, ho, hom⟩ := other_ok r (by omega) x4
  have hom4 := hMod_i (i := x4) (show (0 : Int) < 4 by omega)
  obtain ⟨mt, hmt, hmtr⟩ := many_things n1 n10 x4
  -- the spoilt record
  have hS1 : hCat (.list ((r.take at0.toNat).map enc3)) (.list [d]) = .ok (.list ((r.take at0.toNat).map enc3 ++ [d])) := hCat_l (by rw [List.length_map, List.length_take]; simp; omega)
  have hS2 : hCat (.list ((r.take at0.toNat).map enc3 ++ [d])) (.list ((r.drop at0.toNat).map enc3)) = .ok (.list ((r.take at0.toNat).map enc3 ++ [d] ++ (r.drop at0.toNat).map enc3)) := hCat_l (by rw [List.length_append, List.length_map, List.length_map, List.length_take, List.length_drop]; simp; omega)
  have hSr : f_record_of [.int n, .list ((r.take at0.toNat).map enc3 ++ [d] ++ (r.drop at0.toNat).map enc3)] = .ex ⟨"NoTies", none⟩ := by
    refine no_tiesE n1 n10 (by rw [List.length_append, List.length_append, List.length_map, List.length_map, List.length_take, List.length_drop]; simp; omega) (fun e he => ?_) (d := d) (by simp) hdm
    rcases List.mem_append.mp he with he | he
    · rcases List.mem_append.mp he with he | he
      · obtain ⟨t, ht, rfl⟩ := List.mem_map.mp he
        exact ⟨true, meet_ok (meet_of hG (List.mem_of_mem_take ht))⟩
      · rw [List.mem_singleton.mp he]; exact ⟨false, hdm⟩
    · obtain ⟨t, ht, rfl⟩ := List.mem_map.mp he
      exact ⟨true, meet_ok (meet_of hG (List.mem_of_mem_drop ht))⟩
  have hsl1 : hSl (.list (r.map enc3)) none (some at0) = .ok (.list ((r.take at0.toNat).map enc3)) := hSl_to' enc3 r a0
  have hsl2 : hSl (.list (r.map enc3)) (some at0) none = .ok (.list ((r.drop at0.toNat).map enc3)) := hSl_from' enc3 r a0
  generalize hSS : (r.take at0.toNat).map enc3 ++ [d] ++ (r.drop at0.toNat).map enc3 = S at *
  -- the clash
  have hlast : ∃ e10 e11 e12, gIfS (gAnd (gTest (gOp hNe (gVar 4) (gLst (gNil)))) (gTest (gOp hGt (gVar 3) (gC (.int (1)))))) (gSeqS (gAsg (gCallN 3 f_l_clashed (gCons (gVar 3) (gCons (gVar 4) (gCons (gSl hSl (gVar 2) (gPart (gC (.int (4)))) (gPart (gC (.int (6))))) (gNil))))) (tgT (tgCons (tgN 10) (tgCons (tgN 11) (tgNil))))) (gSeqS (gSet 12 (gCB hMin1 (gCons (gVar 11) (gNil)))) (gSeqS (gIfS (gOr (gNot (gTest (gCallN 4 f_l_refused (gCons (gVar 3) (gCons (gVar 10) (gCons (gC (.int (2))) (gCons (gVar 12) (gNil)))))))) (gNot (gTest (gCallN 4 f_l_refused (gCons (gVar 3) (gCons (gUn hRevL (gVar 10)) (gCons (gC (.int (2))) (gCons (gVar 12) (gNil))))))))) (gRet (gC (.bool false))) (gNext)) (gIfS (gOr (gNot (gTest (gCallN 4 f_l_refused (gCons (gVar 3) (gCons (gOp hCat (gVar 10) (gLst (gCons (gVar 5) (gNil)))) (gCons (gC (.int (1))) (gCons (gC (.int (0))) (gNil)))))))) (gNot (gTest (gCallN 4 f_l_refused (gCons (gVar 8) (gCons (gVar 10) (gCons (gC (.int (0))) (gCons (gC (.int (0))) (gNil))))))))) (gRet (gC (.bool false))) (gNext))))) (gNext)
      [sc, .int cell, .list (N.map .int), .int n, .list (r.map enc3), d, .int at0, .list S, pd, o, d10, d11, d12] = .ok (.nx [sc, .int cell, .list (N.map .int), .int n, .list (r.map enc3), d, .int at0, .list S, pd, o, e10, e11, e12]) := by
    have hnn := hNe_nil r
    by_cases c : r ≠ [] ∧ 1 < n
    · obtain ⟨hne, hn2⟩ := c
      have he : r.isEmpty = false := by cases r with | nil => exact absurd rfl hne | cons => rfl
      rw [he] at hnn
      have e1 : decide ((1 : Int) < n) = true := decide_eq_true hn2
      obtain ⟨M2, hM2, hcut⟩ := cut46 (N := N) (by omega)
      obtain ⟨ex, M, hC, hM, hexl, hcl⟩ := clashed_ok hn2 hG hne hM2
      obtain ⟨b, bs, rfl⟩ : ∃ b bs, M = b :: bs := by
        cases M with
        | nil => exact absurd rfl hM
        | cons b bs => exact ⟨b, bs, rfl⟩
      obtain ⟨g1, g2⟩ := minL_ok bs b
      have hmin := hMin1_ok (b := b) (bs := bs)
      generalize minL b bs = m at *
      have hTm : ∀ x ∈ r ++ ex, Meet n x := fun x hx => (List.mem_append.mp hx).elim (meet_of hG) (hC.meet x)
      have hTl : (r ++ ex).length ≤ 14 := by rw [List.length_append]; omega
      obtain ⟨k1, k2⟩ := hC.clash hG g1 g2 (Th := r ++ ex) (fun x => Iff.rfl)
      have r1 := refused2 (clash_ok n1 n10 (by omega) hTm k1 k2)
      obtain ⟨k3, k4⟩ := hC.clash hG g1 g2 (Th := (r ++ ex).reverse) (fun x => List.mem_reverse)
      have r2 := refused2 (clash_ok n1 n10 (by rw [List.length_reverse]; omega) (fun x hx => hTm x (List.mem_reverse.mp hx)) k3 k4)
      generalize r ++ ex = Th at *
      have hrev : hRevL (.list (Th.map enc3)) = .ok (.list (Th.reverse.map enc3)) := by rw [List.map_reverse]; rfl
      have hcat : hCat (.list (Th.map enc3)) (.list [d]) = .ok (.list (Th.map enc3 ++ [d])) := hCat_l (by rw [List.length_map]; simp; omega)
      have r3 := refused1 (no_tiesE n1 n10 (ds := Th.map enc3 ++ [d]) (by rw [List.length_append, List.length_map]; simp; omega) (fun e he => by
        rcases List.mem_append.mp he with he | he
        · obtain ⟨t, ht, rfl⟩ := List.mem_map.mp he
          exact ⟨true, meet_ok (hTm t ht)⟩
        · rw [List.mem_singleton.mp he]; exact ⟨false, hdm⟩) (d := d) (by simp) hdm) 0
      have r4 := refused0 (no_places (x := .list (Th.map enc3)) hpm) 0
      refine ⟨.list (Th.map enc3), .list ((b :: bs).map .int), .int m, (if_t ?_).trans ?_⟩
      · rw [gAnd_def, gTest_def, gOp_def]
        show bnd (bnd (hNe (.list (r.map enc3)) (.list [])) asB) _ = _
        rw [hnn]
        simp only [bnd_ok, gVar_def, gC_def, gOp_def, gUn_def, gNil_def, gCons_def, gIf_def, gTest_def, gNot_def, gAnd_def, gOr_def, gAndV_def, gOrV_def, gNotV_def, gCB_def, asB_b, hAdd_i, hSub_i, hLt_i, hLe_i, hGt_i, hGe_i, hMul_r, hMul_l, hMod_i, hDiv_s, hBand_i, hShr_i, hPow_10_18, hPow_10_27, hPow_10_28, hPow_10_29, hPow_10_30, hEq_i, hNe_i, hLen_l, hLen_t, hMin2_i, hMax2_i, hMin3_i, hInt1_b, hInt1_i, hBits_i, hListOf_l, hListOf_t, hTupOf_l, hTupOf_t, gSeqS_def, gSet_def, gRet_def, gIfS_def, gNext_def, gTup_def, gLst_def, List.getElem?_cons_zero, List.getElem?_cons_succ, List.set_cons_zero, List.set_cons_succ, List.length_cons, List.length_nil, Nat.zero_add, Nat.reduceAdd, Nat.reduceLeDiff, Nat.reduceSub, Nat.reduceMul, if_true, if_false, Bool.false_eq_true, List.replicate_succ, List.replicate_zero, List.cons_append, List.nil_append, tgN, tgT, tgCons, tgNil, Int.reducePow, Int.reduceAdd, Int.reduceSub, Int.reduceMul, decide_true, decide_false, Bool.not_true, Bool.not_false, gChain_def, hIsa_int, hIsa_intb, hIsa_list, hIsa_tuple, gDrop_def, e1]
      refine seq_step (asg_ok (d := .tuple [.list (Th.map enc3), .list ((b :: bs).map .int)]) (ρ' := [sc, .int cell, .list (N.map .int), .int n, .list (r.map enc3), d, .int at0, .list S, pd, o, .list (Th.map enc3), .list ((b :: bs).map .int), d12]) (callN_ok (ds := [.int n, .list (r.map enc3), .list (M2.map .int)]) (by simp only [bnd_ok, gVar_def, gC_def, gOp_def, gUn_def, gNil_def, gCons_def, gIf_def, gTest_def, gNot_def, gAnd_def, gOr_def, gAndV_def, gOrV_def, gNotV_def, gCB_def, asB_b, hAdd_i, hSub_i, hLt_i, hLe_i, hGt_i, hGe_i, hMul_r, hMul_l, hMod_i, hDiv_s, hBand_i, hShr_i, hPow_10_18, hPow_10_27, hPow_10_28, hPow_10_29, hPow_10_30, hEq_i, hNe_i, hLen_l, hLen_t, hMin2_i, hMax2_i, hMin3_i, hInt1_b, hInt1_i, hBits_i, hListOf_l, hListOf_t, hTupOf_l, hTupOf_t, gSeqS_def, gSet_def, gRet_def, gIfS_def, gNext_def, gTup_def, gLst_def, List.getElem?_cons_zero, List.getElem?_cons_succ, List.set_cons_zero, List.set_cons_succ, List.length_cons, List.length_nil, Nat.zero_add, Nat.reduceAdd, Nat.reduceLeDiff, Nat.reduceSub, Nat.reduceMul, if_true, if_false, Bool.false_eq_true, List.replicate_succ, List.replicate_zero, List.cons_append, List.nil_append, tgN, tgT, tgCons, tgNil, Int.reducePow, Int.reduceAdd, Int.reduceSub, Int.reduceMul, decide_true, decide_false, Bool.not_true, Bool.not_false, gChain_def, hIsa_int, hIsa_intb, hIsa_list, hIsa_tuple, gDrop_def, gSl_def, gPart_def, hcut]) rfl hcl) rfl) ?_
      refine seq_step (set_ok (d := .int m) (by rw [gCB_def, gCons_def, gVar_def]; exact hmin)) ?_
      dsimp only [List.set]
      refine seq_step (two_t (callN_ok (ds := [.int n, .list (Th.map enc3), .int 2, .int m]) rfl rfl r1) (callN_ok (ds := [.int n, .list (Th.reverse.map enc3), .int 2, .int m]) (by simp only [bnd_ok, gVar_def, gC_def, gOp_def, gUn_def, gNil_def, gCons_def, gIf_def, gTest_def, gNot_def, gAnd_def, gOr_def, gAndV_def, gOrV_def, gNotV_def, gCB_def, asB_b, hAdd_i, hSub_i, hLt_i, hLe_i, hGt_i, hGe_i, hMul_r, hMul_l, hMod_i, hDiv_s, hBand_i, hShr_i, hPow_10_18, hPow_10_27, hPow_10_28, hPow_10_29, hPow_10_30, hEq_i, hNe_i, hLen_l, hLen_t, hMin2_i, hMax2_i, hMin3_i, hInt1_b, hInt1_i, hBits_i, hListOf_l, hListOf_t, hTupOf_l, hTupOf_t, gSeqS_def, gSet_def, gRet_def, gIfS_def, gNext_def, gTup_def, gLst_def, List.getElem?_cons_zero, List.getElem?_cons_succ, List.set_cons_zero, List.set_cons_succ, List.length_cons, List.length_nil, Nat.zero_add, Nat.reduceAdd, Nat.reduceLeDiff, Nat.reduceSub, Nat.reduceMul, if_true, if_false, Bool.false_eq_true, List.replicate_succ, List.replicate_zero, List.cons_append, List.nil_append, tgN, tgT, tgCons, tgNil, Int.reducePow, Int.reduceAdd, Int.reduceSub, Int.reduceMul, decide_true, decide_false, Bool.not_true, Bool.not_false, gChain_def, hIsa_int, hIsa_intb, hIsa_list, hIsa_tuple, gDrop_def, hrev]) rfl r2)) ?_
      exact two_t (callN_ok (ds := [.int n, .list (Th.map enc3 ++ [d]), .int 1, .int 0]) (by simp only [bnd_ok, gVar_def, gC_def, gOp_def, gUn_def, gNil_def, gCons_def, gIf_def, gTest_def, gNot_def, gAnd_def, gOr_def, gAndV_def, gOrV_def, gNotV_def, gCB_def, asB_b, hAdd_i, hSub_i, hLt_i, hLe_i, hGt_i, hGe_i, hMul_r, hMul_l, hMod_i, hDiv_s, hBand_i, hShr_i, hPow_10_18, hPow_10_27, hPow_10_28, hPow_10_29, hPow_10_30, hEq_i, hNe_i, hLen_l, hLen_t, hMin2_i, hMax2_i, hMin3_i, hInt1_b, hInt1_i, hBits_i, hListOf_l, hListOf_t, hTupOf_l, hTupOf_t, gSeqS_def, gSet_def, gRet_def, gIfS_def, gNext_def, gTup_def, gLst_def, List.getElem?_cons_zero, List.getElem?_cons_succ, List.set_cons_zero, List.set_cons_succ, List.length_cons, List.length_nil, Nat.zero_add, Nat.reduceAdd, Nat.reduceLeDiff, Nat.reduceSub, Nat.reduceMul, if_true, if_false, Bool.false_eq_true, List.replicate_succ, List.replicate_zero, List.cons_append, List.nil_append, tgN, tgT, tgCons, tgNil, Int.reducePow, Int.reduceAdd, Int.reduceSub, Int.reduceMul, decide_true, decide_false, Bool.not_true, Bool.not_false, gChain_def, hIsa_int, hIsa_intb, hIsa_list, hIsa_tuple, gDrop_def, hcat]) rfl r3) (callN_ok (ds := [pd, .list (Th.map enc3), .int 0, .int 0]) rfl rfl r4)
    · refine ⟨d10, d11, d12, (if_f ?_).trans rfl⟩
      rw [gAnd_def, gTest_def, gOp_def]
      show bnd (bnd (hNe (.list (r.map enc3)) (.list [])) asB) _ = _
      rw [hnn]
      cases he : r.isEmpty with
      | true => rfl
      | false =>
        have e1 : decide ((1 : Int) < n) = false := decide_eq_false fun h => c ⟨(fun z => by rw [z] at he; cases he), h⟩
        simp only [bnd_ok, gVar_def, gC_def, gOp_def, gUn_def, gNil_def, gCons_def, gIf_def, gTest_def, gNot_def, gAnd_def, gOr_def, gAndV_def, gOrV_def, gNotV_def, gCB_def, asB_b, hAdd_i, hSub_i, hLt_i, hLe_i, hGt_i, hGe_i, hMul_r, hMul_l, hMod_i, hDiv_s, hBand_i, hShr_i, hPow_10_18, hPow_10_27, hPow_10_28, hPow_10_29, hPow_10_30, hEq_i, hNe_i, hLen_l, hLen_t, hMin2_i, hMax2_i, hMin3_i, hInt1_b, hInt1_i, hBits_i, hListOf_l, hListOf_t, hTupOf_l, hTupOf_t, gSeqS_def, gSet_def, gRet_def, gIfS_def, gNext_def, gTup_def, gLst_def, List.getElem?_cons_zero, List.getElem?_cons_succ, List.set_cons_zero, List.set_cons_succ, List.length_cons, List.length_nil, Nat.zero_add, Nat.reduceAdd, Nat.reduceLeDiff, Nat.reduceSub, Nat.reduceMul, if_true, if_false, Bool.false_eq_true, List.replicate_succ, List.replicate_zero, List.cons_append, List.nil_append, tgN, tgT, tgCons, tgNil, Int.reducePow, Int.reduceAdd, Int.reduceSub, Int.reduceMul, decide_true, decide_false, Bool.not_true, Bool.not_false, gChain_def, hIsa_int, hIsa_intb, hIsa_list, hIsa_tuple, gDrop_def, e1]
  obtain ⟨e10, e11, e12, hlast⟩ := hlast
  refine ⟨.list (N.map .int), .int n, .list (r.map enc3), d, .int at0, .list S, pd, o, e10, e11, e12, ?_⟩
  unfold g_law_L1
  refine seq_step (set_ok (callN_ok (ds := [.int cell, .int 48, .int 1000000000000000000000000000000]) (by simp only [bnd_ok, gVar_def, gC_def, gOp_def, gUn_def, gNil_def, gCons_def, gIf_def, gTest_def, gNot_def, gAnd_def, gOr_def, gAndV_def, gOrV_def, gNotV_def, gCB_def, asB_b, hAdd_i, hSub_i, hLt_i, hLe_i, hGt_i, hGe_i, hMul_r, hMul_l, hMod_i, hDiv_s, hBand_i, hShr_i, hPow_10_18, hPow_10_27, hPow_10_28, hPow_10_29, hPow_10_30, hEq_i, hNe_i, hLen_l, hLen_t, hMin2_i, hMax2_i, hMin3_i, hInt1_b, hInt1_i, hBits_i, hListOf_l, hListOf_t, hTupOf_l, hTupOf_t, gSeqS_def, gSet_def, gRet_def, gIfS_def, gNext_def, gTup_def, gLst_def, List.getElem?_cons_zero, List.getElem?_cons_succ, List.set_cons_zero, List.set_cons_succ, List.length_cons, List.length_nil, Nat.zero_add, Nat.reduceAdd, Nat.reduceLeDiff, Nat.reduceSub, Nat.reduceMul, if_true, if_false, Bool.false_eq_true, List.replicate_succ, List.replicate_zero, List.cons_append, List.nil_append, tgN, tgT, tgCons, tgNil, Int.reducePow, Int.reduceAdd, Int.reduceSub, Int.reduceMul, decide_true, decide_false, Bool.not_true, Bool.not_false, gChain_def, hIsa_int, hIsa_intb, hIsa_list, hIsa_tuple, gDrop_def]) rfl hN)) ?_
  dsimp only [List.set]
  refine seq_step (asg_ok (d := .tuple [.int n, .list (r.map enc3)]) (ρ' := [sc, .int cell, .list (N.map .int), .int n, .list (r.map enc3), d5, d6, d7, d8, d9, d10, d11, d12]) (callN_ok (ds := [.list ((N.drop 6).map .int), .int 12]) (by
    have s1 : hSl (.list (N.map .int)) (some (6 : Int)) none = .ok (.list ((N.drop 6).map .int)) := hSl_from PyData.int N 6
    simp only [bnd_ok, gVar_def, gC_def, gOp_def, gUn_def, gNil_def, gCons_def, gIf_def, gTest_def, gNot_def, gAnd_def, gOr_def, gAndV_def, gOrV_def, gNotV_def, gCB_def, asB_b, hAdd_i, hSub_i, hLt_i, hLe_i, hGt_i, hGe_i, hMul_r, hMul_l, hMod_i, hDiv_s, hBand_i, hShr_i, hPow_10_18, hPow_10_27, hPow_10_28, hPow_10_29, hPow_10_30, hEq_i, hNe_i, hLen_l, hLen_t, hMin2_i, hMax2_i, hMin3_i, hInt1_b, hInt1_i, hBits_i, hListOf_l, hListOf_t, hTupOf_l, hTupOf_t, gSeqS_def, gSet_def, gRet_def, gIfS_def, gNext_def, gTup_def, gLst_def, List.getElem?_cons_zero, List.getElem?_cons_succ, List.set_cons_zero, List.set_cons_succ, List.length_cons, List.length_nil, Nat.zero_add, Nat.reduceAdd, Nat.reduceLeDiff, Nat.reduceSub, Nat.reduceMul, if_true, if_false, Bool.false_eq_true, List.replicate_succ, List.replicate_zero, List.cons_append, List.nil_append, tgN, tgT, tgCons, tgNil, Int.reducePow, Int.reduceAdd, Int.reduceSub, Int.reduceMul, decide_true, decide_false, Bool.not_true, Bool.not_false, gChain_def, hIsa_int, hIsa_intb, hIsa_list, hIsa_tuple, gDrop_def, gSl_def, gNoPart_def, gPart_def, s1]) rfl hR) rfl) ?_
  refine seq_step (set_ok (callN_ok (ds := [.int n, .int far, .int x1]) (by simp only [bnd_ok, gVar_def, gC_def, gOp_def, gUn_def, gNil_def, gCons_def, gIf_def, gTest_def, gNot_def, gAnd_def, gOr_def, gAndV_def, gOrV_def, gNotV_def, gCB_def, asB_b, hAdd_i, hSub_i, hLt_i, hLe_i, hGt_i, hGe_i, hMul_r, hMul_l, hMod_i, hDiv_s, hBand_i, hShr_i, hPow_10_18, hPow_10_27, hPow_10_28, hPow_10_29, hPow_10_30, hEq_i, hNe_i, hLen_l, hLen_t, hMin2_i, hMax2_i, hMin3_i, hInt1_b, hInt1_i, hBits_i, hListOf_l, hListOf_t, hTupOf_l, hTupOf_t, gSeqS_def, gSet_def, gRet_def, gIfS_def, gNext_def, gTup_def, gLst_def, List.getElem?_cons_zero, List.getElem?_cons_succ, List.set_cons_zero, List.set_cons_succ, List.length_cons, List.length_nil, Nat.zero_add, Nat.reduceAdd, Nat.reduceLeDiff, Nat.reduceSub, Nat.reduceMul, if_true, if_false, Bool.false_eq_true, List.replicate_succ, List.replicate_zero, List.cons_append, List.nil_append, tgN, tgT, tgCons, tgNil, Int.reducePow, Int.reduceAdd, Int.reduceSub, Int.reduceMul, decide_true, decide_false, Bool.not_true, Bool.not_false, gChain_def, hIsa_int, hIsa_intb, hIsa_list, hIsa_tuple, gDrop_def, i0, i1, hfm]) rfl hd)) ?_
  dsimp only [List.set]
  refine seq_step (set_ok (d := .int at0) (by simp only [bnd_ok, gVar_def, gC_def, gOp_def, gUn_def, gNil_def, gCons_def, gIf_def, gTest_def, gNot_def, gAnd_def, gOr_def, gAndV_def, gOrV_def, gNotV_def, gCB_def, asB_b, hAdd_i, hSub_i, hLt_i, hLe_i, hGt_i, hGe_i, hMul_r, hMul_l, hMod_i, hDiv_s, hBand_i, hShr_i, hPow_10_18, hPow_10_27, hPow_10_28, hPow_10_29, hPow_10_30, hEq_i, hNe_i, hLen_l, hLen_t, hMin2_i, hMax2_i, hMin3_i, hInt1_b, hInt1_i, hBits_i, hListOf_l, hListOf_t, hTupOf_l, hTupOf_t, gSeqS_def, gSet_def, gRet_def, gIfS_def, gNext_def, gTup_def, gLst_def, List.getElem?_cons_zero, List.getElem?_cons_succ, List.set_cons_zero, List.set_cons_succ, List.length_cons, List.length_nil, Nat.zero_add, Nat.reduceAdd, Nat.reduceLeDiff, Nat.reduceSub, Nat.reduceMul, if_true, if_false, Bool.false_eq_true, List.replicate_succ, List.replicate_zero, List.cons_append, List.nil_append, tgN, tgT, tgCons, tgNil, Int.reducePow, Int.reduceAdd, Int.reduceSub, Int.reduceMul, decide_true, decide_false, Bool.not_true, Bool.not_false, gChain_def, hIsa_int, hIsa_intb, hIsa_list, hIsa_tuple, gDrop_def, i2, List.length_map, ham])) ?_
  dsimp only [List.set]
  refine seq_step (set_ok (d := .list S) (by simp only [bnd_ok, gVar_def, gC_def, gOp_def, gUn_def, gNil_def, gCons_def, gIf_def, gTest_def, gNot_def, gAnd_def, gOr_def, gAndV_def, gOrV_def, gNotV_def, gCB_def, asB_b, hAdd_i, hSub_i, hLt_i, hLe_i, hGt_i, hGe_i, hMul_r, hMul_l, hMod_i, hDiv_s, hBand_i, hShr_i, hPow_10_18, hPow_10_27, hPow_10_28, hPow_10_29, hPow_10_30, hEq_i, hNe_i, hLen_l, hLen_t, hMin2_i, hMax2_i, hMin3_i, hInt1_b, hInt1_i, hBits_i, hListOf_l, hListOf_t, hTupOf_l, hTupOf_t, gSeqS_def, gSet_def, gRet_def, gIfS_def, gNext_def, gTup_def, gLst_def, List.getElem?_cons_zero, List.getElem?_cons_succ, List.set_cons_zero, List.set_cons_succ, List.length_cons, List.length_nil, Nat.zero_add, Nat.reduceAdd, Nat.reduceLeDiff, Nat.reduceSub, Nat.reduceMul, if_true, if_false, Bool.false_eq_true, List.replicate_succ, List.replicate_zero, List.cons_append, List.nil_append, tgN, tgT, tgCons, tgNil, Int.reducePow, Int.reduceAdd, Int.reduceSub, Int.reduceMul, decide_true, decide_false, Bool.not_true, Bool.not_false, gChain_def, hIsa_int, hIsa_intb, hIsa_list, hIsa_tuple, gDrop_def, gSl_def, gNoPart_def, gPart_def, hsl1, hsl2, hS1, hS2])) ?_
  dsimp only [List.set]
  refine seq_step (set_ok (callN_ok (ds := [.int x0, .int x3]) (by simp only [bnd_ok, gVar_def, gC_def, gOp_def, gUn_def, gNil_def, gCons_def, gIf_def, gTest_def, gNot_def, gAnd_def, gOr_def, gAndV_def, gOrV_def, gNotV_def, gCB_def, asB_b, hAdd_i, hSub_i, hLt_i, hLe_i, hGt_i, hGe_i, hMul_r, hMul_l, hMod_i, hDiv_s, hBand_i, hShr_i, hPow_10_18, hPow_10_27, hPow_10_28, hPow_10_29, hPow_10_30, hEq_i, hNe_i, hLen_l, hLen_t, hMin2_i, hMax2_i, hMin3_i, hInt1_b, hInt1_i, hBits_i, hListOf_l, hListOf_t, hTupOf_l, hTupOf_t, gSeqS_def, gSet_def, gRet_def, gIfS_def, gNext_def, gTup_def, gLst_def, List.getElem?_cons_zero, List.getElem?_cons_succ, List.set_cons_zero, List.set_cons_succ, List.length_cons, List.length_nil, Nat.zero_add, Nat.reduceAdd, Nat.reduceLeDiff, Nat.reduceSub, Nat.reduceMul, if_true, if_false, Bool.false_eq_true, List.replicate_succ, List.replicate_zero, List.cons_append, List.nil_append, tgN, tgT, tgCons, tgNil, Int.reducePow, Int.reduceAdd, Int.reduceSub, Int.reduceMul, decide_true, decide_false, Bool.not_true, Bool.not_false, gChain_def, hIsa_int, hIsa_intb, hIsa_list, hIsa_tuple, gDrop_def, i0, i3]) rfl hp)) ?_
  dsimp only [List.set]
  refine seq_step (two_t (callN_ok (ds := [pd, .list S, .int 0, .int 0]) rfl rfl (refused0 (no_places hpm) 0)) (callN_ok (ds := [pd, .list (r.map enc3), .int 0, .int 0]) rfl rfl (refused0 (no_places hpm) 0))) ?_
  refine seq_step (set_ok (d := o) ?_) ?_
  · have e1 : gOp hMod (gOp hIx (gVar 2) (gC (.int (4)))) (gC (.int (4))) [sc, .int cell, .list (N.map .int), .int n, .list (r.map enc3), d, .int at0, .list S, pd, d9, d10, d11, d12] = .ok (.int (x4 % 4)) := by simp only [bnd_ok, gVar_def, gC_def, gOp_def, gUn_def, gNil_def, gCons_def, gIf_def, gTest_def, gNot_def, gAnd_def, gOr_def, gAndV_def, gOrV_def, gNotV_def, gCB_def, asB_b, hAdd_i, hSub_i, hLt_i, hLe_i, hGt_i, hGe_i, hMul_r, hMul_l, hMod_i, hDiv_s, hBand_i, hShr_i, hPow_10_18, hPow_10_27, hPow_10_28, hPow_10_29, hPow_10_30, hEq_i, hNe_i, hLen_l, hLen_t, hMin2_i, hMax2_i, hMin3_i, hInt1_b, hInt1_i, hBits_i, hListOf_l, hListOf_t, hTupOf_l, hTupOf_t, gSeqS_def, gSet_def, gRet_def, gIfS_def, gNext_def, gTup_def, gLst_def, List.getElem?_cons_zero, List.getElem?_cons_succ, List.set_cons_zero, List.set_cons_succ, List.length_cons, List.length_nil, Nat.zero_add, Nat.reduceAdd, Nat.reduceLeDiff, Nat.reduceSub, Nat.reduceMul, if_true, if_false, Bool.false_eq_true, List.replicate_succ, List.replicate_zero, List.cons_append, List.nil_append, tgN, tgT, tgCons, tgNil, Int.reducePow, Int.reduceAdd, Int.reduceSub, Int.reduceMul, decide_true, decide_false, Bool.not_true, Bool.not_false, gChain_def, hIsa_int, hIsa_intb, hIsa_list, hIsa_tuple, gDrop_def, i4, hom4]
    rw [gOp_def, e1]
    exact ho
  dsimp only [List.set]
  refine seq_step (two_t (callN_ok (ds := [.int n, .list S, .int 1, .int 0]) rfl rfl (refused1 hSr 0)) (callN_ok (ds := [.int n, o, .int 1, .int 0]) rfl rfl (refused1 (no_list n1 n10 hom) 0))) ?_
  refine seq_step (one_t (callN_ok (ds := [.int n, .list mt, .int 1, .int 0]) ?_ rfl (refused1 hmtr 0))) hlast
  have cm : gCallN 2 f_l_many (gCons (gVar 3) (gCons (gOp hIx (gVar 2) (gC (.int (4)))) (gNil))) [sc, .int cell, .list (N.map .int), .int n, .list (r.map enc3), d, .int at0, .list S, pd, o, d10, d11, d12] = .ok (.list mt) := callN_ok (ds := [.int n, .int x4]) (by simp only [bnd_ok, gVar_def, gC_def, gOp_def, gUn_def, gNil_def, gCons_def, gIf_def, gTest_def, gNot_def, gAnd_def, gOr_def, gAndV_def, gOrV_def, gNotV_def, gCB_def, asB_b, hAdd_i, hSub_i, hLt_i, hLe_i, hGt_i, hGe_i, hMul_r, hMul_l, hMod_i, hDiv_s, hBand_i, hShr_i, hPow_10_18, hPow_10_27, hPow_10_28, hPow_10_29, hPow_10_30, hEq_i, hNe_i, hLen_l, hLen_t, hMin2_i, hMax2_i, hMin3_i, hInt1_b, hInt1_i, hBits_i, hListOf_l, hListOf_t, hTupOf_l, hTupOf_t, gSeqS_def, gSet_def, gRet_def, gIfS_def, gNext_def, gTup_def, gLst_def, List.getElem?_cons_zero, List.getElem?_cons_succ, List.set_cons_zero, List.set_cons_succ, List.length_cons, List.length_nil, Nat.zero_add, Nat.reduceAdd, Nat.reduceLeDiff, Nat.reduceSub, Nat.reduceMul, if_true, if_false, Bool.false_eq_true, List.replicate_succ, List.replicate_zero, List.cons_append, List.nil_append, tgN, tgT, tgCons, tgNil, Int.reducePow, Int.reduceAdd, Int.reduceSub, Int.reduceMul, decide_true, decide_false, Bool.not_true, Bool.not_false, gChain_def, hIsa_int, hIsa_intb, hIsa_list, hIsa_tuple, gDrop_def, i4]) rfl hmt
  simp only [bnd_ok, gVar_def, gC_def, gOp_def, gUn_def, gNil_def, gCons_def, gIf_def, gTest_def, gNot_def, gAnd_def, gOr_def, gAndV_def, gOrV_def, gNotV_def, gCB_def, asB_b, hAdd_i, hSub_i, hLt_i, hLe_i, hGt_i, hGe_i, hMul_r, hMul_l, hMod_i, hDiv_s, hBand_i, hShr_i, hPow_10_18, hPow_10_27, hPow_10_28, hPow_10_29, hPow_10_30, hEq_i, hNe_i, hLen_l, hLen_t, hMin2_i, hMax2_i, hMin3_i, hInt1_b, hInt1_i, hBits_i, hListOf_l, hListOf_t, hTupOf_l, hTupOf_t, gSeqS_def, gSet_def, gRet_def, gIfS_def, gNext_def, gTup_def, gLst_def, List.getElem?_cons_zero, List.getElem?_cons_succ, List.set_cons_zero, List.set_cons_succ, List.length_cons, List.length_nil, Nat.zero_add, Nat.reduceAdd, Nat.reduceLeDiff, Nat.reduceSub, Nat.reduceMul, if_true, if_false, Bool.false_eq_true, List.replicate_succ, List.replicate_zero, List.cons_append, List.nil_append, tgN, tgT, tgCons, tgNil, Int.reducePow, Int.reduceAdd, Int.reduceSub, Int.reduceMul, decide_true, decide_false, Bool.not_true, Bool.not_false, gChain_def, hIsa_int, hIsa_intb, hIsa_list, hIsa_tuple, gDrop_def, cm]
theorem hLenF_f (xs : List Dt) : hLenF [frzD xs] = .ok (.int xs.length) := rfl
theorem law_true (ns : List Int) (hl : ns.length ≤ 63) (_ : ∀ z ∈ ns, Builtin.Int.intBits z ≤ 1048576) : f_law [frzD (ns.map .int)] = .ok (.bool true) := by
  refine fnN_rt ?_
  obtain ⟨ρ', hf, e1, e2, e3, e4, e5, e6, e7, e8, e9, e10, e11, e12, rfl⟩ := forE_ix PyData.int (h := tgN 1) (b := g_law_L1) (ns.take 20 ++ [(ns.length : Int)])
    (fun _ ρ => ∃ e1 e2 e3 e4 e5 e6 e7 e8 e9 e10 e11 e12, ρ = [frzD (ns.map .int), e1, e2, e3, e4, e5, e6, e7, e8, e9, e10, e11, e12])
    (ρ := [frzD (ns.map .int), .none, .none, .none, .none, .none, .none, .none, .none, .none, .none, .none, .none]) ⟨_, _, _, _, _, _, _, _, _, _, _, _, rfl⟩ (by
      rintro i ρ hi ⟨e1, e2, e3, e4, e5, e6, e7, e8, e9, e10, e11, e12, rfl⟩
      obtain ⟨f2, f3, f4, f5, f6, f7, f8, f9, f10, f11, f12, h1⟩ := body_ok (frzD (ns.map .int)) (ns.take 20 ++ [(ns.length : Int)])[i] e2 e3 e4 e5 e6 e7 e8 e9 e10 e11 e12
      exact ⟨_, _, rfl, .inl h1, _, f2, f3, f4, f5, f6, f7, f8, f9, f10, f11, f12, rfl⟩)
  show g_law [frzD (ns.map .int), .none, .none, .none, .none, .none, .none, .none, .none, .none, .none, .none, .none] = _
  unfold g_law
  have hc : hCat (.list ((ns.take 20).map .int)) (.list [.int ns.length]) = .ok (.list ((ns.take 20 ++ [(ns.length : Int)]).map .int)) := hCat_map PyData.int (ns.take 20) [(ns.length : Int)] (by rw [List.length_take, List.length_singleton]; omega)
  have hs : hSlF (frzD (ns.map .int)) none (some 20) = .ok (.list ((ns.take 20).map .int)) := hSl_to PyData.int ns 20
  refine seq_step (for_ok (ds := (ns.take 20 ++ [(ns.length : Int)]).map .int) (seqG_l ?_) hf) ?_
  · simp only [bnd_ok, gVar_def, gC_def, gOp_def, gUn_def, gNil_def, gCons_def, gIf_def, gTest_def, gNot_def, gAnd_def, gOr_def, gAndV_def, gOrV_def, gNotV_def, gCB_def, asB_b, hAdd_i, hSub_i, hLt_i, hLe_i, hGt_i, hGe_i, hMul_r, hMul_l, hMod_i, hDiv_s, hBand_i, hShr_i, hPow_10_18, hPow_10_27, hPow_10_28, hPow_10_29, hPow_10_30, hEq_i, hNe_i, hLen_l, hLen_t, hMin2_i, hMax2_i, hMin3_i, hInt1_b, hInt1_i, hBits_i, hListOf_l, hListOf_t, hTupOf_l, hTupOf_t, gSeqS_def, gSet_def, gRet_def, gIfS_def, gNext_def, gTup_def, gLst_def, List.getElem?_cons_zero, List.getElem?_cons_succ, List.set_cons_zero, List.set_cons_succ, List.length_cons, List.length_nil, Nat.zero_add, Nat.reduceAdd, Nat.reduceLeDiff, Nat.reduceSub, Nat.reduceMul, if_true, if_false, Bool.false_eq_true, List.replicate_succ, List.replicate_zero, List.cons_append, List.nil_append, tgN, tgT, tgCons, tgNil, Int.reducePow, Int.reduceAdd, Int.reduceSub, Int.reduceMul, decide_true, decide_false, Bool.not_true, Bool.not_false, gChain_def, hIsa_int, hIsa_intb, hIsa_list, hIsa_tuple, gDrop_def, gSl_def, gNoPart_def, gPart_def, hs, hLenF_f, List.length_map, hc]
  · exact ret_ok (callN_ok (ds := []) rfl rfl apart_ok)
end K02
end T_K02S
open PySem PySem.W PyProof.Rows
set_option maxRecDepth 100000 in
set_option maxHeartbeats 0 in
theorem PySem.Challenge.cw_sinceply_k02_records_refused_holds : PySem.Challenge.rw_sinceply_k02_records_refused.Holds := by
  w_on; o_law; k_head; (case hw => w_witness2)
  k_fill
  refine L2.walk_ofB (l := PySem.Challenge.rw_sinceply_k02_records_refused) (n := 63) (k := 6) (x := "script") (CX := fun _ => L2.CX0) (sp := fun w => Sim.spLaw _ K02.f_law) rfl (by decide) rfl ⟨rfl, by decide, by decide⟩ (fun w h Y => PySem.W.kIn_of Y) ?F (fun _ _ a ns hl hb hO hS => Sim.spLaw_of hO hS (K02.law_true ns hl hb)) (fun _ _ _ _ _ h => h)
  case F =>
    intro w mg fa h KX G hmg
    refine' Sim.okLaw_of (K02.all_mk KX G hmg ?a0 ?l0 ?c0 ?k0 ?a1 ?l1 ?c1 ?k1 ?a2 ?l2 ?c2 ?k2 ?a3 ?l3 ?c3 ?k3 ?a4 ?l4 ?c4 ?k4 ?a5 ?l5 ?c5 ?k5 ?a6 ?l6 ?c6 ?k6 ?a7 ?l7 ?c7 ?k7 ?a8 ?l8 ?c8 ?k8 ?a9 ?l9 ?c9 ?k9 ?a10 ?l10 ?c10 ?k10 ?a11 ?l11 ?c11 ?k11 ?a12 ?l12 ?c12 ?k12 ?a13 ?l13 ?c13 ?k13 ?a14 ?l14 ?c14 ?k14 ?a15 ?l15 ?c15 ?k15 ?a16 ?l16 ?c16 ?k16 ?a17 ?l17 ?c17 ?k17 ?z_isinstance ?z_int ?z_bool ?z_tuple ?z_len ?z_list ?z_all ?z_min ?z_max ?z_sorted ?z_range ?z_ValueError ?y_MOST_PLACES ?y_LAST_MOMENT ?y_MOST_TIES ?u1_NoPlaces ?u2_NoPlaces ?u3_NoPlaces ?u4_NoPlaces ?u5_NoPlaces ?u6_NoPlaces ?u7_NoPlaces ?u8_NoPlaces ?u9_NoPlaces ?uQ_NoPlaces ?u1_NoTies ?u2_NoTies ?u3_NoTies ?u4_NoTies ?u5_NoTies ?u6_NoTies ?u7_NoTies ?u8_NoTies ?u9_NoTies ?uQ_NoTies ?u1_Clash ?u2_Clash ?u3_Clash ?u4_Clash ?u5_Clash ?u6_Clash ?u7_Clash ?u8_Clash ?u9_Clash ?u1_NoLayers ?u2_NoLayers ?u3_NoLayers ?u4_NoLayers ?u5_NoLayers ?u6_NoLayers ?u7_NoLayers ?u8_NoLayers ?u9_NoLayers ?uQ_NoLayers ?u1_NoPair ?u2_NoPair ?u3_NoPair ?u4_NoPair ?u5_NoPair ?u6_NoPair ?u7_NoPair ?u8_NoPair ?u9_NoPair ?uQ_NoPair ?u1_NoNet ?u2_NoNet ?u3_NoNet ?u4_NoNet ?u5_NoNet ?u6_NoNet ?u7_NoNet ?u8_NoNet ?u9_NoNet ?uQ_NoNet ?u1_Unlike ?u2_Unlike ?u3_Unlike ?u4_Unlike ?u5_Unlike ?u6_Unlike ?u7_Unlike ?u8_Unlike ?u9_Unlike ?uQ_Unlike ?u1_NoText ?u2_NoText ?u3_NoText ?u4_NoText ?u5_NoText ?u6_NoText ?u7_NoText ?u8_NoText ?u9_NoText ?uQ_NoText ?u1_NoPaper ?u2_NoPaper ?u3_NoPaper ?u4_NoPaper ?u5_NoPaper ?u6_NoPaper ?u7_NoPaper ?u8_NoPaper ?u9_NoPaper ?uQ_NoPaper ?u1_NoRow ?u2_NoRow ?u3_NoRow ?u4_NoRow ?u5_NoRow ?u6_NoRow ?u7_NoRow ?u8_NoRow ?u9_NoRow ?uQ_NoRow ?u1_NoDeed ?u2_NoDeed ?u3_NoDeed ?u4_NoDeed ?u5_NoDeed ?u6_NoDeed ?u7_NoDeed ?u8_NoDeed ?u9_NoDeed ?uQ_NoDeed ?u1_PlyError ?u2_PlyError ?u3_PlyError ?u4_PlyError ?u5_PlyError ?u6_PlyError ?u7_PlyError ?u8_PlyError ?u9_PlyError ?w1_Clash ?w2_Clash ?w3_Clash ?w4_Clash ?w5_Clash ?w6_Clash ?w7_Clash ?w8_Clash ?w9_Clash ?wA_Clash ?wB_Clash ?un ?ut ?uS_NoDeed_NoPlaces ?uS_NoDeed_NoDeed ?uS_NoRow_NoPlaces ?uS_NoRow_NoRow ?uS_NoPaper_NoPlaces ?uS_NoPaper_NoPaper ?uS_NoText_NoPlaces ?uS_NoText_NoText ?uS_Unlike_NoPlaces ?uS_Unlike_Unlike ?uS_NoNet_NoPlaces ?uS_NoNet_NoNet ?uS_NoPair_NoPlaces ?uS_NoPair_NoPair ?uS_NoLayers_NoPlaces ?uS_NoLayers_NoLayers ?uS_Clash_NoPlaces ?uS_Clash_Clash ?uS_NoTies_NoPlaces ?uS_NoTies_NoTies ?uS_NoPlaces_NoPlaces ?uS_NoDeed_NoTies ?uS_NoRow_NoTies ?uS_NoPaper_NoTies ?uS_NoText_NoTies ?uS_Unlike_NoTies ?uS_NoNet_NoTies ?uS_NoPair_NoTies ?uS_NoLayers_NoTies ?uS_Clash_NoTies ?uS_NoPlaces_NoTies ?uS_NoDeed_Clash ?uS_NoRow_Clash ?uS_NoPaper_Clash ?uS_NoText_Clash ?uS_Unlike_Clash ?uS_NoNet_Clash ?uS_NoPair_Clash ?uS_NoLayers_Clash ?uS_NoTies_Clash ?uS_NoPlaces_Clash ?uS_NoDeed_NoLayers ?uS_NoRow_NoLayers ?uS_NoPaper_NoLayers ?uS_NoText_NoLayers ?uS_Unlike_NoLayers ?uS_NoNet_NoLayers ?uS_NoPair_NoLayers ?uS_Clash_NoLayers ?uS_NoTies_NoLayers ?uS_NoPlaces_NoLayers ?uS_NoDeed_NoPair ?uS_NoRow_NoPair ?uS_NoPaper_NoPair ?uS_NoText_NoPair ?uS_Unlike_NoPair ?uS_NoNet_NoPair ?uS_NoLayers_NoPair ?uS_Clash_NoPair ?uS_NoTies_NoPair ?uS_NoPlaces_NoPair ?uS_NoDeed_NoNet ?uS_NoRow_NoNet ?uS_NoPaper_NoNet ?uS_NoText_NoNet ?uS_Unlike_NoNet ?uS_NoPair_NoNet ?uS_NoLayers_NoNet ?uS_Clash_NoNet ?uS_NoTies_NoNet ?uS_NoPlaces_NoNet ?uS_NoDeed_Unlike ?uS_NoRow_Unlike ?uS_NoPaper_Unlike ?uS_NoText_Unlike ?uS_NoNet_Unlike ?uS_NoPair_Unlike ?uS_NoLayers_Unlike ?uS_Clash_Unlike ?uS_NoTies_Unlike ?uS_NoPlaces_Unlike ?uS_NoDeed_NoText ?uS_NoRow_NoText ?uS_NoPaper_NoText ?uS_Unlike_NoText ?uS_NoNet_NoText ?uS_NoPair_NoText ?uS_NoLayers_NoText ?uS_Clash_NoText ?uS_NoTies_NoText ?uS_NoPlaces_NoText ?uS_NoDeed_NoPaper ?uS_NoRow_NoPaper ?uS_NoText_NoPaper ?uS_Unlike_NoPaper ?uS_NoNet_NoPaper ?uS_NoPair_NoPaper ?uS_NoLayers_NoPaper ?uS_Clash_NoPaper ?uS_NoTies_NoPaper ?uS_NoPlaces_NoPaper ?uS_NoDeed_NoRow ?uS_NoPaper_NoRow ?uS_NoText_NoRow ?uS_Unlike_NoRow ?uS_NoNet_NoRow ?uS_NoPair_NoRow ?uS_NoLayers_NoRow ?uS_Clash_NoRow ?uS_NoTies_NoRow ?uS_NoPlaces_NoRow ?uS_NoRow_NoDeed ?uS_NoPaper_NoDeed ?uS_NoText_NoDeed ?uS_Unlike_NoDeed ?uS_NoNet_NoDeed ?uS_NoPair_NoDeed ?uS_NoLayers_NoDeed ?uS_Clash_NoDeed ?uS_NoTies_NoDeed ?uS_NoPlaces_NoDeed ?uS_NoDeed_PlyError ?uS_NoRow_PlyError ?uS_NoPaper_PlyError ?uS_NoText_PlyError ?uS_Unlike_PlyError ?uS_NoNet_PlyError ?uS_NoPair_PlyError ?uS_NoLayers_PlyError ?uS_Clash_PlyError ?uS_NoTies_PlyError ?uS_NoPlaces_PlyError ?uS_NoDeed_ValueError ?uS_NoRow_ValueError ?uS_NoPaper_ValueError ?uS_NoText_ValueError ?uS_Unlike_ValueError ?uS_NoNet_ValueError ?uS_NoPair_ValueError ?uS_NoLayers_ValueError ?uS_Clash_ValueError ?uS_NoTies_ValueError ?uS_NoPlaces_ValueError)
    (case a0 => k_is); (case l0 => k_is); (case c0 => k_is); (case k0 => k_is); (case a1 => k_is); (case l1 => k_is); (case c1 => k_is); (case k1 => k_is); (case a2 => k_is); (case l2 => k_is); (case c2 => k_is); (case k2 => k_is); (case a3 => k_is); (case l3 => k_is); (case c3 => k_is); (case k3 => k_is); (case a4 => k_is); (case l4 => k_is); (case c4 => k_is); (case k4 => k_is); (case a5 => k_is); (case l5 => k_is); (case c5 => k_is); (case k5 => k_is); (case a6 => k_is); (case l6 => k_is); (case c6 => k_is); (case k6 => k_is); (case a7 => k_is); (case l7 => k_is); (case c7 => k_is); (case k7 => k_is); (case a8 => k_is); (case l8 => k_is); (case c8 => k_is); (case k8 => k_is); (case a9 => k_is); (case l9 => k_is); (case c9 => k_is); (case k9 => k_is); (case a10 => k_is); (case l10 => k_is); (case c10 => k_is); (case k10 => k_is); (case a11 => k_is); (case l11 => k_is); (case c11 => k_is); (case k11 => k_is); (case a12 => k_is); (case l12 => k_is); (case c12 => k_is); (case k12 => k_is); (case a13 => k_is); (case l13 => k_is); (case c13 => k_is); (case k13 => k_is); (case a14 => k_is); (case l14 => k_is); (case c14 => k_is); (case k14 => k_is); (case a15 => k_is); (case l15 => k_is); (case c15 => k_is); (case k15 => k_is); (case a16 => k_is); (case l16 => k_is); (case c16 => k_is); (case k16 => k_is); (case a17 => k_is); (case l17 => k_is); (case c17 => k_is); (case k17 => k_is); (case z_isinstance => k_is); (case z_int => k_is); (case z_bool => k_is); (case z_tuple => k_is); (case z_len => k_is); (case z_list => k_is); (case z_all => k_is); (case z_min => k_is); (case z_max => k_is); (case z_sorted => k_is); (case z_range => k_is); (case z_ValueError => k_is); (case y_MOST_PLACES => k_is); (case y_LAST_MOMENT => k_is); (case y_MOST_TIES => k_is); (case u1_NoPlaces => k_is); (case u2_NoPlaces => k_is); (case u3_NoPlaces => k_is); (case u4_NoPlaces => k_is); (case u5_NoPlaces => k_is); (case u6_NoPlaces => k_is); (case u7_NoPlaces => k_is); (case u8_NoPlaces => k_is); (case u9_NoPlaces => k_is); (case uQ_NoPlaces => k_exc); (case u1_NoTies => k_is); (case u2_NoTies => k_is); (case u3_NoTies => k_is); (case u4_NoTies => k_is); (case u5_NoTies => k_is); (case u6_NoTies => k_is); (case u7_NoTies => k_is); (case u8_NoTies => k_is); (case u9_NoTies => k_is); (case uQ_NoTies => k_exc); (case u1_Clash => k_is); (case u2_Clash => k_is); (case u3_Clash => k_is); (case u4_Clash => k_is); (case u5_Clash => k_is); (case u6_Clash => k_is); (case u7_Clash => k_is); (case u8_Clash => k_is); (case u9_Clash => k_is); (case u1_NoLayers => k_is); (case u2_NoLayers => k_is); (case u3_NoLayers => k_is); (case u4_NoLayers => k_is); (case u5_NoLayers => k_is); (case u6_NoLayers => k_is); (case u7_NoLayers => k_is); (case u8_NoLayers => k_is); (case u9_NoLayers => k_is); (case uQ_NoLayers => k_exc); (case u1_NoPair => k_is); (case u2_NoPair => k_is); (case u3_NoPair => k_is); (case u4_NoPair => k_is); (case u5_NoPair => k_is); (case u6_NoPair => k_is); (case u7_NoPair => k_is); (case u8_NoPair => k_is); (case u9_NoPair => k_is); (case uQ_NoPair => k_exc); (case u1_NoNet => k_is); (case u2_NoNet => k_is); (case u3_NoNet => k_is); (case u4_NoNet => k_is); (case u5_NoNet => k_is); (case u6_NoNet => k_is); (case u7_NoNet => k_is); (case u8_NoNet => k_is); (case u9_NoNet => k_is); (case uQ_NoNet => k_exc); (case u1_Unlike => k_is); (case u2_Unlike => k_is); (case u3_Unlike => k_is); (case u4_Unlike => k_is); (case u5_Unlike => k_is); (case u6_Unlike => k_is); (case u7_Unlike => k_is); (case u8_Unlike => k_is); (case u9_Unlike => k_is); (case uQ_Unlike => k_exc); (case u1_NoText => k_is); (case u2_NoText => k_is); (case u3_NoText => k_is); (case u4_NoText => k_is); (case u5_NoText => k_is); (case u6_NoText => k_is); (case u7_NoText => k_is); (case u8_NoText => k_is); (case u9_NoText => k_is); (case uQ_NoText => k_exc); (case u1_NoPaper => k_is); (case u2_NoPaper => k_is); (case u3_NoPaper => k_is); (case u4_NoPaper => k_is); (case u5_NoPaper => k_is); (case u6_NoPaper => k_is); (case u7_NoPaper => k_is); (case u8_NoPaper => k_is); (case u9_NoPaper => k_is); (case uQ_NoPaper => k_exc); (case u1_NoRow => k_is); (case u2_NoRow => k_is); (case u3_NoRow => k_is); (case u4_NoRow => k_is); (case u5_NoRow => k_is); (case u6_NoRow => k_is); (case u7_NoRow => k_is); (case u8_NoRow => k_is); (case u9_NoRow => k_is); (case uQ_NoRow => k_exc); (case u1_NoDeed => k_is); (case u2_NoDeed => k_is); (case u3_NoDeed => k_is); (case u4_NoDeed => k_is); (case u5_NoDeed => k_is); (case u6_NoDeed => k_is); (case u7_NoDeed => k_is); (case u8_NoDeed => k_is); (case u9_NoDeed => k_is); (case uQ_NoDeed => k_exc); (case u1_PlyError => k_is); (case u2_PlyError => k_is); (case u3_PlyError => k_is); (case u4_PlyError => k_is); (case u5_PlyError => k_is); (case u6_PlyError => k_is); (case u7_PlyError => k_is); (case u8_PlyError => k_is); (case u9_PlyError => k_is); (case w1_Clash => k_is); (case w2_Clash => k_is); (case w3_Clash => k_is); (case w4_Clash => k_is); (case w5_Clash => k_is); (case w6_Clash => k_is); (case w7_Clash => k_is); (case w8_Clash => k_is); (case w9_Clash => k_is); (case wA_Clash => k_is); (case wB_Clash => k_is); (case un => k_is); (case ut => k_is); (case uS_NoDeed_NoPlaces => k_is); (case uS_NoDeed_NoDeed => k_is); (case uS_NoRow_NoPlaces => k_is); (case uS_NoRow_NoRow => k_is); (case uS_NoPaper_NoPlaces => k_is); (case uS_NoPaper_NoPaper => k_is); (case uS_NoText_NoPlaces => k_is); (case uS_NoText_NoText => k_is); (case uS_Unlike_NoPlaces => k_is); (case uS_Unlike_Unlike => k_is); (case uS_NoNet_NoPlaces => k_is); (case uS_NoNet_NoNet => k_is); (case uS_NoPair_NoPlaces => k_is); (case uS_NoPair_NoPair => k_is); (case uS_NoLayers_NoPlaces => k_is); (case uS_NoLayers_NoLayers => k_is); (case uS_Clash_NoPlaces => k_is); (case uS_Clash_Clash => k_is); (case uS_NoTies_NoPlaces => k_is); (case uS_NoTies_NoTies => k_is); (case uS_NoPlaces_NoPlaces => k_is); (case uS_NoDeed_NoTies => k_is); (case uS_NoRow_NoTies => k_is); (case uS_NoPaper_NoTies => k_is); (case uS_NoText_NoTies => k_is); (case uS_Unlike_NoTies => k_is); (case uS_NoNet_NoTies => k_is); (case uS_NoPair_NoTies => k_is); (case uS_NoLayers_NoTies => k_is); (case uS_Clash_NoTies => k_is); (case uS_NoPlaces_NoTies => k_is); (case uS_NoDeed_Clash => k_is); (case uS_NoRow_Clash => k_is); (case uS_NoPaper_Clash => k_is); (case uS_NoText_Clash => k_is); (case uS_Unlike_Clash => k_is); (case uS_NoNet_Clash => k_is); (case uS_NoPair_Clash => k_is); (case uS_NoLayers_Clash => k_is); (case uS_NoTies_Clash => k_is); (case uS_NoPlaces_Clash => k_is); (case uS_NoDeed_NoLayers => k_is); (case uS_NoRow_NoLayers => k_is); (case uS_NoPaper_NoLayers => k_is); (case uS_NoText_NoLayers => k_is); (case uS_Unlike_NoLayers => k_is); (case uS_NoNet_NoLayers => k_is); (case uS_NoPair_NoLayers => k_is); (case uS_Clash_NoLayers => k_is); (case uS_NoTies_NoLayers => k_is); (case uS_NoPlaces_NoLayers => k_is); (case uS_NoDeed_NoPair => k_is); (case uS_NoRow_NoPair => k_is); (case uS_NoPaper_NoPair => k_is); (case uS_NoText_NoPair => k_is); (case uS_Unlike_NoPair => k_is); (case uS_NoNet_NoPair => k_is); (case uS_NoLayers_NoPair => k_is); (case uS_Clash_NoPair => k_is); (case uS_NoTies_NoPair => k_is); (case uS_NoPlaces_NoPair => k_is); (case uS_NoDeed_NoNet => k_is); (case uS_NoRow_NoNet => k_is); (case uS_NoPaper_NoNet => k_is); (case uS_NoText_NoNet => k_is); (case uS_Unlike_NoNet => k_is); (case uS_NoPair_NoNet => k_is); (case uS_NoLayers_NoNet => k_is); (case uS_Clash_NoNet => k_is); (case uS_NoTies_NoNet => k_is); (case uS_NoPlaces_NoNet => k_is); (case uS_NoDeed_Unlike => k_is); (case uS_NoRow_Unlike => k_is); (case uS_NoPaper_Unlike => k_is); (case uS_NoText_Unlike => k_is); (case uS_NoNet_Unlike => k_is); (case uS_NoPair_Unlike => k_is); (case uS_NoLayers_Unlike => k_is); (case uS_Clash_Unlike => k_is); (case uS_NoTies_Unlike => k_is); (case uS_NoPlaces_Unlike => k_is); (case uS_NoDeed_NoText => k_is); (case uS_NoRow_NoText => k_is); (case uS_NoPaper_NoText => k_is); (case uS_Unlike_NoText => k_is); (case uS_NoNet_NoText => k_is); (case uS_NoPair_NoText => k_is); (case uS_NoLayers_NoText => k_is); (case uS_Clash_NoText => k_is); (case uS_NoTies_NoText => k_is); (case uS_NoPlaces_NoText => k_is); (case uS_NoDeed_NoPaper => k_is); (case uS_NoRow_NoPaper => k_is); (case uS_NoText_NoPaper => k_is); (case uS_Unlike_NoPaper => k_is); (case uS_NoNet_NoPaper => k_is); (case uS_NoPair_NoPaper => k_is); (case uS_NoLayers_NoPaper => k_is); (case uS_Clash_NoPaper => k_is); (case uS_NoTies_NoPaper => k_is); (case uS_NoPlaces_NoPaper => k_is); (case uS_NoDeed_NoRow => k_is); (case uS_NoPaper_NoRow => k_is); (case uS_NoText_NoRow => k_is); (case uS_Unlike_NoRow => k_is); (case uS_NoNet_NoRow => k_is); (case uS_NoPair_NoRow => k_is); (case uS_NoLayers_NoRow => k_is); (case uS_Clash_NoRow => k_is); (case uS_NoTies_NoRow => k_is); (case uS_NoPlaces_NoRow => k_is); (case uS_NoRow_NoDeed => k_is); (case uS_NoPaper_NoDeed => k_is); (case uS_NoText_NoDeed => k_is); (case uS_Unlike_NoDeed => k_is); (case uS_NoNet_NoDeed => k_is); (case uS_NoPair_NoDeed => k_is); (case uS_NoLayers_NoDeed => k_is); (case uS_Clash_NoDeed => k_is); (case uS_NoTies_NoDeed => k_is); (case uS_NoPlaces_NoDeed => k_is); (case uS_NoDeed_PlyError => k_is); (case uS_NoRow_PlyError => k_is); (case uS_NoPaper_PlyError => k_is); (case uS_NoText_PlyError => k_is); (case uS_Unlike_PlyError => k_is); (case uS_NoNet_PlyError => k_is); (case uS_NoPair_PlyError => k_is); (case uS_NoLayers_PlyError => k_is); (case uS_Clash_PlyError => k_is); (case uS_NoTies_PlyError => k_is); (case uS_NoPlaces_PlyError => k_is); (case uS_NoDeed_ValueError => k_is); (case uS_NoRow_ValueError => k_is); (case uS_NoPaper_ValueError => k_is); (case uS_NoText_ValueError => k_is); (case uS_Unlike_ValueError => k_is); (case uS_NoNet_ValueError => k_is); (case uS_NoPair_ValueError => k_is); (case uS_NoLayers_ValueError => k_is); (case uS_Clash_ValueError => k_is); (case uS_NoTies_ValueError => k_is); (case uS_NoPlaces_ValueError => k_is)
