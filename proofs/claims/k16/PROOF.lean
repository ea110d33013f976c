import PyProof.Rows.All
import Wide.All
import OpenK.AllK
import Wide.FinOn
import HandS.EndBits
import HandS.ForMost
import HandS.Walk
import HandS.Wide
import HandS.ForExc
import HandS.ExcValue
import HandS.ExcCtx
import HandS.SortInts
import HandS.Deep
import HandS.WideBits
import HandS.TupAny
import HandS.IsInst
import HandS.Iter
import HandS.Rev
import HandS.RevTup
import HandS.Conv
import PyProof.ListRange
import HandS.Dict
import HandS.Style
import HandS.TupSets
import HandS.SetFor
import HandS.Defaults
import HandS.ExcIs
import HandS.ExcInit
import HandS.ClsMeth
import HandS.ExcField
import KE.KExcIs
import HandS.HotCalls
import HandS.SortKw
import KE.SortKeyHeap
import KE.KTupSum
import PyProof.ReprRoads
import KE.DataMinMax
import KE.DatumOrd
import PySem.Challenge.RW_sinceply_k16_moves_refused
import PyProof.ReprLen
section T_SimA
set_option Elab.async false
set_option linter.all false
set_option maxRecDepth 100000
namespace Sim
open PySem PySem.Spec L2
open PyProof.Rows hiding St
abbrev Dt := PyData
def Fz (K : PySem.W.Frag) (H : Hp) (a : Addr) (xs : List V) : Prop :=
  (∃ o, H a = some (.frz o (.lst xs))) ∨
    ∃ (o : Obj) (its : Array Value) (n : Nat), K.lookup a = some o ∧ o.cls = .type "list" ∧ o.dict = none ∧ o.data = .seq its n ∧ its.size ≤ sizeLine ∧ Vals xs its.toList
def keyD : Key → Dt
  | .inl i => .int i
  | .inr x => .str x
abbrev exnM : Option Int → Dt
  | none => .none
  | some i => .int i
abbrev exnD (cls : Str) (m : Option Int) : Dt := .dict [(.none, .str cls), (.none, exnM m)]
abbrev frzD (ds : List Dt) : Dt := .dict [(.bool true, .list ds)]
def exnL : List (Dt × Dt) → Bool
  | (.none, _) :: _ => true
  | (.bool _, _) :: _ => true
  | _ => false
def ExH (C : Value) (d : Option Addr) (a : Addr) : HO := .ext fun h => ∃ (oe : Obj) (vs : Array Value), h.get? a = some oe ∧ L2N.Zn C d oe ∧ oe.data = .fields vs
def XdAt (H : Hp) (d : Option Addr) (m : Option Int) : Prop := match m with
  | none => d = none
  | some i => ∃ dd, d = some dd ∧ H dd = some (.xd [("moment", .int i)])
mutual
inductive Rp (K : PySem.W.Frag) (F : Addr → Prop) (H : Hp) : V → Dt → Prop
  | non : Rp K F H .non .none
  | bl (b : Bool) : Rp K F H (.bl b) (.bool b)
  | int (i : Int) : Rp K F H (.int i) (.int i)
  | str (x : Str) : Rp K F H (.str x) (.str x)
  | lst {a : Addr} {xs : List V} {ds : List Dt} : H a = some (.lst xs) → F a → RpA K F H xs ds → Rp K F H (.ref a) (.list ds)
  | fz {a : Addr} {xs : List V} {ds : List Dt} : Fz K H a xs → RpA K F H xs ds → Rp K F H (.ref a) (.dict [(.bool true, .list ds)])
  | tup {a : Addr} {xs : List V} {ds : List Dt} : SqT K H a xs → RpA K F H xs ds → Rp K F H (.ref a) (.tuple ds)
  | dic {a : Addr} {kvs : List (Key × V)} {es : List (Dt × Dt)} : H a = some (.dK kvs) → F a → kvs.map (fun kv => keyD kv.1) = es.map (fun e => e.1) → RpA K F H (kvs.map fun kv => kv.2) (es.map fun e => e.2) → Rp K F H (.ref a) (.dict es)
  | exn {a C : Addr} {cls : Str} {d : Option Addr} {m : Option Int} : PySem.W.nsIn K mainGlobals cls = some (some (.ref C)) → H a = some (ExH (.ref C) d a) → XdAt H d m → Rp K F H (.ref a) (.dict [(.none, .str cls), (.none, exnM m)])
inductive RpA (K : PySem.W.Frag) (F : Addr → Prop) (H : Hp) : List V → List Dt → Prop
  | nil : RpA K F H [] []
  | cons {v : V} {vs : List V} {d : Dt} {ds : List Dt} : Rp K F H v d → RpA K F H vs ds → RpA K F H (v :: vs) (d :: ds)
end
section
variable {K : PySem.W.Frag} {F F' : Addr → Prop} {H H' : Hp} {v : V} {d : Dt} {vs : List V} {ds : List Dt} {a p : Addr} {xs : List V}
theorem Fz.same (e : Same H H') (h : Fz K H a xs) : Fz K H' a xs := by
  rcases h with ⟨o, h⟩ | h
  · exact .inl ⟨o, e _ _ h⟩
  · exact .inr h
theorem Fz.sql (h : Fz K H a xs) : SqL K H a xs := by
  rcases h with ⟨o, h⟩ | h
  · exact .inl (.inr ⟨o, h⟩)
  · exact .inr h
theorem sqt_same (e : Same H H') (h : SqT K H a xs) : SqT K H' a xs := by
  rcases h with (h | ⟨o, h⟩) | h
  · exact .inl (.inl (e _ _ h))
  · exact .inl (.inr ⟨o, e _ _ h⟩)
  · exact .inr h
theorem XdAt.same {d : Option Addr} {m : Option Int} (e : Same H H') (x : XdAt H d m) : XdAt H' d m := by
  cases m with
  | none => exact x
  | some i =>
    obtain ⟨dd, h1, h2⟩ := x
    exact ⟨dd, h1, e _ _ h2⟩
mutual
theorem Rp.mono (e : Same H H') (f : ∀ a, F a → H a ≠ none → F' a) : ∀ {v : V} {d : Dt}, Rp K F H v d → Rp K F' H' v d
  | _, _, .non => .non
  | _, _, .bl b => .bl b
  | _, _, .int i => .int i
  | _, _, .str x => .str x
  | _, _, .lst h fa r => .lst (e _ _ h) (f _ fa (by rw [h]; exact fun z => nomatch z)) (RpA.mono e f r)
  | _, _, .fz h r => .fz (h.same e) (RpA.mono e f r)
  | _, _, .tup h r => .tup (sqt_same e h) (RpA.mono e f r)
  | _, _, .dic h fa hk r => .dic (e _ _ h) (f _ fa (by rw [h]; exact fun z => nomatch z)) hk (RpA.mono e f r)
  | _, _, .exn n h x => .exn n (e _ _ h) (x.same e)
theorem RpA.mono (e : Same H H') (f : ∀ a, F a → H a ≠ none → F' a) : ∀ {vs : List V} {ds : List Dt}, RpA K F H vs ds → RpA K F' H' vs ds
  | _, _, .nil => .nil
  | _, _, .cons h r => .cons (Rp.mono e f h) (RpA.mono e f r)
end
def Mutb (o : HO) : Prop := match o with
  | .lst _ => True
  | .dK _ => True
  | .dT _ => True
  | _ => False
theorem exH_ne {o : HO} {C : Value} {d : Option Addr} (hp : H p = some o) (m : Mutb o) (h : H a = some (ExH C d a)) : a ≠ p := fun z => by
  subst z
  rw [hp] at h
  cases h
  exact m
theorem XdAt.updM {o o' : HO} {d : Option Addr} {m : Option Int} (hp : H p = some o) (mu : Mutb o) (x : XdAt H d m) : XdAt (upd H p o') d m := by
  cases m with
  | none => exact x
  | some i =>
    obtain ⟨dd, h1, h2⟩ := x
    refine ⟨dd, h1, ?_⟩
    rw [upd_ne ?_]
    · exact h2
    · intro z
      subst z
      rw [hp] at h2
      cases h2
      exact mu
theorem Fz.updM {o o' : HO} (hp : H p = some o) (m : Mutb o) (h : Fz K H a xs) : Fz K (upd H p o') a xs := by
  rcases h with ⟨q, h⟩ | h
  · refine .inl ⟨q, ?_⟩
    rw [upd_ne ?_]
    · exact h
    · intro z
      subst z
      rw [hp] at h
      cases h
      exact m
  · exact .inr h
theorem sqt_updM {o o' : HO} (hp : H p = some o) (m : Mutb o) (h : SqT K H a xs) : SqT K (upd H p o') a xs := by
  rcases h with (h | ⟨q, h⟩) | h
  · refine .inl (.inl ?_)
    rw [upd_ne ?_]
    · exact h
    · intro z
      subst z
      rw [hp] at h
      cases h
      exact m
  · refine .inl (.inr ⟨q, ?_⟩)
    rw [upd_ne ?_]
    · exact h
    · intro z
      subst z
      rw [hp] at h
      cases h
      exact m
  · exact .inr h
mutual
theorem Rp.updM {o o' : HO} (hp : H p = some o) (m : Mutb o) (nf : ∀ a, F a → a ≠ p) : ∀ {v : V} {d : Dt}, Rp K F H v d → Rp K F (upd H p o') v d
  | _, _, .non => .non
  | _, _, .bl b => .bl b
  | _, _, .int i => .int i
  | _, _, .str x => .str x
  | _, _, .lst h fa r => .lst (by rw [upd_ne (nf _ fa)]; exact h) fa (RpA.updM hp m nf r)
  | _, _, .fz h r => .fz (h.updM hp m) (RpA.updM hp m nf r)
  | _, _, .tup h r => .tup (sqt_updM hp m h) (RpA.updM hp m nf r)
  | _, _, .dic h fa hk r => .dic (by rw [upd_ne (nf _ fa)]; exact h) fa hk (RpA.updM hp m nf r)
  | _, _, .exn n h x => .exn n (by rw [upd_ne (exH_ne hp m h)]; exact h) (x.updM hp m)
theorem RpA.updM {o o' : HO} (hp : H p = some o) (m : Mutb o) (nf : ∀ a, F a → a ≠ p) : ∀ {vs : List V} {ds : List Dt}, RpA K F H vs ds → RpA K F (upd H p o') vs ds
  | _, _, .nil => .nil
  | _, _, .cons h r => .cons (Rp.updM hp m nf h) (RpA.updM hp m nf r)
end
mutual
theorem Rp.dp : ∀ {v : V} {d : Dt}, Rp K F H v d → PyData.canLay0 d = true → Dp K H v d
  | _, _, .non, _ => .non
  | _, _, .bl b, _ => .bl b
  | _, _, .int i, _ => .int i
  | _, _, .str x, _ => .str x
  | _, _, .lst h _ r, c => .lst (.inl (.inl h)) (RpA.dp r (by simpa [PyData.canLay0] using c))
  | _, _, .fz _ _, c => by simp [PyData.canLay0] at c
  | _, _, .tup h r, c => .tup h (RpA.dp r (by simpa [PyData.canLay0] using c))
  | _, _, .dic _ _ _ _, c => by simp [PyData.canLay0] at c
  | _, _, .exn _ _ _, c => by simp [PyData.canLay0] at c
theorem RpA.dp : ∀ {vs : List V} {ds : List Dt}, RpA K F H vs ds → PyData.canLayAll0 ds = true → DpAll K H vs ds
  | _, _, .nil, _ => .nil
  | _, _, .cons h r, c => by
    unfold PyData.canLayAll0 at c
    rw [Bool.and_eq_true] at c
    exact .cons (Rp.dp h c.1) (RpA.dp r c.2)
end
theorem shaped_lay {d : Dt} (h : SeqAt.shaped d = true) : PyData.canLay0 d = true := by
  unfold SeqAt.shaped at h
  rw [Bool.and_eq_true] at h
  exact h.1
theorem RpA.length : ∀ {vs : List V} {ds : List Dt}, RpA K F H vs ds → vs.length = ds.length
  | _, _, .nil => rfl
  | _, _, .cons _ r => by rw [List.length_cons, List.length_cons, r.length]
theorem RpA.get : ∀ {vs : List V} {ds : List Dt} {i : Nat} {v : V}, RpA K F H vs ds → vs[i]? = some v → ∃ d, ds[i]? = some d ∧ Rp K F H v d
  | _, _, _, _, .nil, e => by simp at e
  | _, _, 0, _, .cons h _, e => by simp at e; subst e; exact ⟨_, rfl, h⟩
  | _, _, i + 1, v, .cons _ r, e => by
    obtain ⟨d, h1, h2⟩ := RpA.get (i := i) (v := v) r (by simpa using e)
    exact ⟨d, by simpa using h1, h2⟩
theorem RpA.get' : ∀ {vs : List V} {ds : List Dt} {i : Nat} {d : Dt}, RpA K F H vs ds → ds[i]? = some d → ∃ v, vs[i]? = some v ∧ Rp K F H v d
  | _, _, _, _, .nil, e => by simp at e
  | _, _, 0, _, .cons h _, e => by simp at e; subst e; exact ⟨_, rfl, h⟩
  | _, _, i + 1, d, .cons _ r, e => by
    obtain ⟨v, h1, h2⟩ := RpA.get' (i := i) (d := d) r (by simpa using e)
    exact ⟨v, by simpa using h1, h2⟩
theorem RpA.append : ∀ {xs ys : List V} {ds es : List Dt}, RpA K F H xs ds → RpA K F H ys es → RpA K F H (xs ++ ys) (ds ++ es)
  | _, _, _, _, .nil, s => s
  | _, _, _, _, .cons h r, s => .cons h (RpA.append r s)
theorem RpA.take : ∀ {xs : List V} {ds : List Dt} (n : Nat), RpA K F H xs ds → RpA K F H (xs.take n) (ds.take n)
  | _, _, 0, _ => .nil
  | _, _, _ + 1, .nil => .nil
  | _, _, n + 1, .cons h r => .cons h (RpA.take n r)
theorem RpA.drop : ∀ {xs : List V} {ds : List Dt} (n : Nat), RpA K F H xs ds → RpA K F H (xs.drop n) (ds.drop n)
  | _, _, 0, r => r
  | _, _, _ + 1, .nil => .nil
  | _, _, n + 1, .cons _ r => RpA.drop n r
theorem RpA.set {x : V} {d : Dt} (h : Rp K F H x d) : ∀ {xs : List V} {ds : List Dt} (i : Nat), RpA K F H xs ds → RpA K F H (xs.set i x) (ds.set i d)
  | _, _, _, .nil => .nil
  | _, _, 0, .cons _ r => .cons h r
  | _, _, i + 1, .cons q r => .cons q (RpA.set h i r)
theorem RpA.reverse {xs : List V} {ds : List Dt} (h : RpA K F H xs ds) : RpA K F H xs.reverse ds.reverse := by
  induction xs generalizing ds with
  | nil => cases h; exact .nil
  | cons x xs ih =>
    cases h with
    | cons q r =>
      rw [List.reverse_cons, List.reverse_cons]
      exact (ih r).append (.cons q .nil)
mutual
def pure1 : Dt → Bool
  | .list _ => false
  | .dict _ => false
  | .tuple xs => pureA xs
  | _ => true
def pureA : List Dt → Bool
  | [] => true
  | x :: xs => pure1 x && pureA xs
end
mutual
theorem Rp.pure : ∀ {v : V} {d : Dt}, Rp K F H v d → pure1 d = true → Rp K F' H v d
  | _, _, .non, _ => .non
  | _, _, .bl b, _ => .bl b
  | _, _, .int i, _ => .int i
  | _, _, .str x, _ => .str x
  | _, _, .lst h _ r, e => by rw [pure1] at e; cases e
  | _, _, .fz h r, e => by rw [pure1] at e; cases e
  | _, _, .tup h r, e => .tup h (RpA.pure r (by rw [pure1] at e; exact e))
  | _, _, .dic h _ _ r, e => by rw [pure1] at e; cases e
  | _, _, .exn n h x, _ => .exn n h x
theorem RpA.pure : ∀ {vs : List V} {ds : List Dt}, RpA K F H vs ds → pureA ds = true → RpA K F' H vs ds
  | _, _, .nil, _ => .nil
  | _, _, .cons h r, e => by
    rw [pureA, Bool.and_eq_true] at e
    exact .cons (Rp.pure h e.1) (RpA.pure r e.2)
end
theorem Rp.weak (f : ∀ a, F a → F' a) (h : Rp K F H v d) : Rp K F' H v d := h.mono (Same.refl H) fun a fa _ => f a fa
theorem RpA.weak (f : ∀ a, F a → F' a) (h : RpA K F H vs ds) : RpA K F' H vs ds := h.mono (Same.refl H) fun a fa _ => f a fa
theorem Rp.same (e : Same H H') (h : Rp K F H v d) : Rp K F H' v d := h.mono e fun a fa _ => fa
theorem RpA.same (e : Same H H') (h : RpA K F H vs ds) : RpA K F H' vs ds := h.mono e fun a fa _ => fa
end
mutual
inductive Tr (K : PySem.W.Frag) (S : Addr → Prop) (H : Hp) : V → Dt → List Addr → Prop
  | leaf {v : V} {d : Dt} : Rp K (fun _ => False) H v d → Tr K S H v d []
  | lst {a : Addr} {xs : List V} {ds : List Dt} {L : List Addr} : H a = some (.lst xs) → S a → a ∉ L → TrA K S H xs ds L → Tr K S H (.ref a) (.list ds) (a :: L)
  | tup {a : Addr} {xs : List V} {ds : List Dt} {L : List Addr} : SqT K H a xs → TrA K S H xs ds L → Tr K S H (.ref a) (.tuple ds) L
inductive TrA (K : PySem.W.Frag) (S : Addr → Prop) (H : Hp) : List V → List Dt → List Addr → Prop
  | nil : TrA K S H [] [] []
  | cons {v : V} {vs : List V} {d : Dt} {ds : List Dt} {L M : List Addr} : Tr K S H v d L → TrA K S H vs ds M → (∀ a ∈ L, a ∉ M) → TrA K S H (v :: vs) (d :: ds) (L ++ M)
end
section
variable {K : PySem.W.Frag} {S S' : Addr → Prop} {H H' : Hp} {p : Addr}
mutual
theorem Tr.mono (e : Same H H') (f : ∀ a, S a → H a ≠ none → S' a) : ∀ {v : V} {d : Dt} {L : List Addr}, Tr K S H v d L → Tr K S' H' v d L
  | _, _, _, .leaf h => .leaf (h.mono e fun _ z _ => z)
  | _, _, _, .lst h sa n r => .lst (e _ _ h) (f _ sa (by rw [h]; exact fun z => nomatch z)) n (TrA.mono e f r)
  | _, _, _, .tup h r => .tup (sqt_same e h) (TrA.mono e f r)
theorem TrA.mono (e : Same H H') (f : ∀ a, S a → H a ≠ none → S' a) : ∀ {vs : List V} {ds : List Dt} {L : List Addr}, TrA K S H vs ds L → TrA K S' H' vs ds L
  | _, _, _, .nil => .nil
  | _, _, _, .cons h r n => .cons (Tr.mono e f h) (TrA.mono e f r) n
end
mutual
/-- an update elsewhere -/
theorem Tr.updN {o o' : HO} (hp : H p = some o) (m : Mutb o) : ∀ {v : V} {d : Dt} {L : List Addr}, Tr K S H v d L → p ∉ L → Tr K S (upd H p o') v d L
  | _, _, _, .leaf h, _ => .leaf (h.updM hp m fun _ z => z.elim)
  | _, _, _, .lst (a := a) h sa n r, np => .lst (by rw [upd_ne (fun z : a = p => np (by rw [z]; exact List.mem_cons_self))]; exact h) sa n (TrA.updN hp m r fun z => np (List.mem_cons_of_mem _ z))
  | _, _, _, .tup h r, np => .tup (sqt_updM hp m h) (TrA.updN hp m r np)
theorem TrA.updN {o o' : HO} (hp : H p = some o) (m : Mutb o) : ∀ {vs : List V} {ds : List Dt} {L : List Addr}, TrA K S H vs ds L → p ∉ L → TrA K S (upd H p o') vs ds L
  | _, _, _, .nil, _ => .nil
  | _, _, _, .cons h r n, np => .cons (Tr.updN hp m h fun z => np (List.mem_append_left _ z)) (TrA.updN hp m r fun z => np (List.mem_append_right _ z)) n
end
mutual
theorem Tr.rp : ∀ {v : V} {d : Dt} {L : List Addr}, Tr K S H v d L → Rp K S H v d
  | _, _, _, .leaf h => h.weak fun _ z => z.elim
  | _, _, _, .lst h sa _ r => .lst h sa (TrA.rp r)
  | _, _, _, .tup h r => .tup h (TrA.rp r)
theorem TrA.rp : ∀ {vs : List V} {ds : List Dt} {L : List Addr}, TrA K S H vs ds L → RpA K S H vs ds
  | _, _, _, .nil => .nil
  | _, _, _, .cons h r _ => .cons (Tr.rp h) (TrA.rp r)
end
mutual
theorem Tr.mem : ∀ {v : V} {d : Dt} {L : List Addr}, Tr K S H v d L → ∀ a ∈ L, S a ∧ ∃ xs, H a = some (.lst xs)
  | _, _, _, .leaf _ => fun _ z => nomatch z
  | _, _, _, .lst h sa _ r => fun b hb => by
    rcases List.mem_cons.mp hb with z | z
    · subst z; exact ⟨sa, _, h⟩
    · exact TrA.mem r b z
  | _, _, _, .tup _ r => TrA.mem r
theorem TrA.mem : ∀ {vs : List V} {ds : List Dt} {L : List Addr}, TrA K S H vs ds L → ∀ a ∈ L, S a ∧ ∃ xs, H a = some (.lst xs)
  | _, _, _, .nil => fun _ z => nomatch z
  | _, _, _, .cons h r _ => fun b hb => by
    rcases List.mem_append.mp hb with z | z
    · exact Tr.mem h b z
    · exact TrA.mem r b z
end
theorem Tr.same (e : Same H H') {v : V} {d : Dt} {L : List Addr} (h : Tr K S H v d L) : Tr K S H' v d L := h.mono e fun _ z _ => z
theorem Tr.updM {o o' : HO} (hp : H p = some o) (m : Mutb o) (nf : ∀ a, S a → a ≠ p) {v : V} {d : Dt} {L : List Addr} (h : Tr K S H v d L) : Tr K S (upd H p o') v d L := h.updN hp m fun z => nf p (h.mem p z).1 rfl
end
structure Exn where
  cls : Str
  arg : Option Int
inductive O (α : Type) where
  | bad | ok (a : α) | ex (e : Exn)
def bnd {α β : Type} (x : O α) (f : α → O β) : O β := match x with
  | .bad => .bad
  | .ok a => f a
  | .ex e => .ex e
@[simp] theorem bnd_ok {α β : Type} (a : α) (f : α → O β) : bnd (.ok a) f = f a := rfl
@[simp] theorem bnd_bad {α β : Type} (f : α → O β) : bnd .bad f = .bad := rfl
@[simp] theorem bnd_ex {α β : Type} (e : Exn) (f : α → O β) : bnd (.ex e) f = .ex e := rfl
inductive Ct where
  | l | dk | dt | la | ka
def isArg : Ct → Bool
  | .la => true
  | .ka => true
  | _ => false
inductive Kd where
  | no | im (fr : Bool) | own (c : Ct) (fr : Bool) | sl (t : Bool := false)
structure Fm where
  H0 : Hp
  G : Addr → Prop
  Γ : List (List V × List Dt × Bool)
  P : List Addr
  A : Option Addr := none
  /-- the lists of what is sealed -/
  S : List Addr := []
  hS : ∀ a ∈ S, a ∈ P := by exact fun a h => nomatch h
def SlC (K : PySem.W.Frag) (f : Fm) (t : Bool) (H : Hp) (v : V) (d : Dt) : Prop := Rp K (fun a => a ∈ f.S) H v d ∧ (t = true → ∃ L, Tr K (fun a => a ∈ f.S) H v d L)
theorem SlC.same {K : PySem.W.Frag} {f : Fm} {t : Bool} {H H' : Hp} {v : V} {d : Dt} (h : SlC K f t H v d) (e : Same H H') : SlC K f t H' v d := ⟨h.1.same e, fun t => let ⟨L, x⟩ := h.2 t; ⟨L, x.same e⟩⟩
theorem SlC.updM {K : PySem.W.Frag} {f : Fm} {t : Bool} {H : Hp} {p : Addr} {o o' : HO} {v : V} {d : Dt} (h : SlC K f t H v d) (hp : H p = some o) (m : Mutb o) (nf : ∀ a, a ∈ f.S → a ≠ p) : SlC K f t (upd H p o') v d := ⟨h.1.updM hp m nf, fun t => let ⟨L, x⟩ := h.2 t; ⟨L, x.updM hp m nf⟩⟩
def Ow (Δ : List Kd) (σ : St) (a : Addr) : Prop := ∃ (i : Nat) (c : Ct) (fr : Bool), Δ[i]? = some (Kd.own c fr) ∧ σ[i]? = some (some (V.ref a))
def FM (f : Fm) (Δ : List Kd) (σ : St) (av fr : Bool) (a : Addr) : Prop := (av = true → ¬ Ow Δ σ a ∧ a ∉ f.P) ∧ (fr = true → f.G a)
inductive KvA (K : PySem.W.Frag) (F : Addr → Prop) (H : Hp) : List (Key × V) → List (Dt × Dt) → Prop
  | nil : KvA K F H [] []
  | cons {k : Key} {v : V} {d : Dt} {kvs : List (Key × V)} {es : List (Dt × Dt)} : Rp K F H v d → KvA K F H kvs es → KvA K F H ((k, v) :: kvs) ((keyD k, d) :: es)
inductive KtA (K : PySem.W.Frag) (F : Addr → Prop) (H : Hp) : List (List Key × V) → List (Dt × Dt) → Prop
  | nil : KtA K F H [] []
  | cons {k : List Key} {v : V} {d : Dt} {kvs : List (List Key × V)} {es : List (Dt × Dt)} : Rp K F H v d → KtA K F H kvs es → KtA K F H ((k, v) :: kvs) ((.tuple (k.map keyD), d) :: es)
def OwC (K : PySem.W.Frag) (c : Ct) (F : Addr → Prop) (H : Hp) (p : Addr) (d : Dt) : Prop := match c with
  | .l => ∃ vs ds, d = .list ds ∧ H p = some (.lst vs) ∧ RpA K F H vs ds
  | .dk => ∃ kvs es, d = .dict es ∧ H p = some (.dK kvs) ∧ KvA K F H kvs es
  | .dt => ∃ kvs es, d = .dict es ∧ H p = some (.dT kvs) ∧ KtA K F H kvs es
  | .la => ∃ vs ds, d = .list ds ∧ H p = some (.lst vs) ∧ RpA K F H vs ds
  | .ka => ∃ kvs es, d = .dict es ∧ H p = some (.dK kvs) ∧ KvA K F H kvs es
section
variable {K : PySem.W.Frag} {F F' : Addr → Prop} {H H' : Hp} {p q : Addr} {d : Dt} {c : Ct}
theorem KvA.map {kvs es} (f : ∀ v d, Rp K F H v d → Rp K F' H' v d) : KvA K F H kvs es → KvA K F' H' kvs es
  | .nil => .nil
  | .cons h r => .cons (f _ _ h) (KvA.map f r)
theorem KtA.map {kvs es} (f : ∀ v d, Rp K F H v d → Rp K F' H' v d) : KtA K F H kvs es → KtA K F' H' kvs es
  | .nil => .nil
  | .cons h r => .cons (f _ _ h) (KtA.map f r)
theorem RpA.map {vs ds} (f : ∀ v d, Rp K F H v d → Rp K F' H' v d) : RpA K F H vs ds → RpA K F' H' vs ds
  | .nil => .nil
  | .cons h r => .cons (f _ _ h) (RpA.map f r)
theorem OwC.map (hp : ∀ o, H p = some o → H' p = some o) (f : ∀ v d, Rp K F H v d → Rp K F' H' v d) (h : OwC K c F H p d) : OwC K c F' H' p d := by
  cases c with
  | l => obtain ⟨vs, ds, e, h1, h2⟩ := h; exact ⟨vs, ds, e, hp _ h1, h2.map f⟩
  | dk => obtain ⟨vs, ds, e, h1, h2⟩ := h; exact ⟨vs, ds, e, hp _ h1, h2.map f⟩
  | dt => obtain ⟨vs, ds, e, h1, h2⟩ := h; exact ⟨vs, ds, e, hp _ h1, h2.map f⟩
  | la => obtain ⟨vs, ds, e, h1, h2⟩ := h; exact ⟨vs, ds, e, hp _ h1, h2.map f⟩
  | ka => obtain ⟨vs, ds, e, h1, h2⟩ := h; exact ⟨vs, ds, e, hp _ h1, h2.map f⟩
theorem OwC.mutb (h : OwC K c F H p d) : ∃ o, H p = some o ∧ Mutb o := by
  cases c with
  | l => obtain ⟨vs, ds, e, h1, h2⟩ := h; exact ⟨_, h1, trivial⟩
  | dk => obtain ⟨vs, ds, e, h1, h2⟩ := h; exact ⟨_, h1, trivial⟩
  | dt => obtain ⟨vs, ds, e, h1, h2⟩ := h; exact ⟨_, h1, trivial⟩
  | la => obtain ⟨vs, ds, e, h1, h2⟩ := h; exact ⟨_, h1, trivial⟩
  | ka => obtain ⟨vs, ds, e, h1, h2⟩ := h; exact ⟨_, h1, trivial⟩
theorem OwC.there (h : OwC K c F H p d) : H p ≠ none := by
  obtain ⟨o, e, _⟩ := h.mutb
  rw [e]
  exact fun z => nomatch z
end
structure R (K : PySem.W.Frag) (f : Fm) (Δ : List Kd) (ρ : List Dt) (σ : St) (H : Hp) : Prop where
  ext : Same f.H0 H
  g0 : ∀ a, f.H0 a = none → f.G a
  lσ : σ.length = Δ.length
  lρ : ρ.length = Δ.length
  inj : ∀ (i j : Nat) (ci : Ct) (fi : Bool) (cj : Ct) (fj : Bool) (p : Addr), Δ[i]? = some (Kd.own ci fi) → Δ[j]? = some (Kd.own cj fj) → σ[i]? = some (some (V.ref p)) → σ[j]? = some (some (V.ref p)) → i = j
  pin : ∀ a ∈ f.P, (∃ o, H a = some o ∧ Mutb o) ∧ ¬ Ow Δ σ a
  gh : ∀ g ∈ f.Γ, RpA K (FM f Δ σ true g.2.2) H g.1 g.2.1
  im : ∀ (i : Nat) (fr : Bool), Δ[i]? = some (Kd.im fr) → ∃ v d, σ[i]? = some (some v) ∧ ρ[i]? = some d ∧ Rp K (FM f Δ σ true fr) H v d
  ow : ∀ (i : Nat) (c : Ct) (fr : Bool), Δ[i]? = some (Kd.own c fr) → ∃ p d, σ[i]? = some (some (V.ref p)) ∧ ρ[i]? = some d ∧ f.H0 p = none ∧ OwC K c (FM f Δ σ true fr) H p d
  ar : ∀ (i : Nat) (c : Ct) (fr : Bool), Δ[i]? = some (Kd.own c fr) → isArg c = true → ∃ p, f.A = some p ∧ σ[i]? = some (some (V.ref p))
  sp : ∀ a ∈ f.S, f.H0 a = none ∧ f.G a
  sl : ∀ (i : Nat) (t : Bool), Δ[i]? = some (Kd.sl t) → ∃ v d, σ[i]? = some (some v) ∧ ρ[i]? = some d ∧ SlC K f t H v d
section
variable {K : PySem.W.Frag} {f : Fm} {Δ : List Kd} {ρ : List Dt} {σ : St} {H H' : Hp} {v : V} {d : Dt} {i : Nat} {p : Addr}
theorem FM.weak {av fr av' fr' : Bool} (h1 : av' = true → av = true) (h2 : fr' = true → fr = true) {a : Addr} (h : FM f Δ σ av fr a) : FM f Δ σ av' fr' a := ⟨fun e => h.1 (h1 e), fun e => h.2 (h2 e)⟩
theorem R.mono (r : R K f Δ ρ σ H) (e : Same H H') : R K f Δ ρ σ H' where
  ext := r.ext.trans e
  g0 := r.g0
  lσ := r.lσ
  lρ := r.lρ
  inj := r.inj
  pin := fun a ha => let ⟨⟨o, h1, h2⟩, h3⟩ := r.pin a ha; ⟨⟨o, e _ _ h1, h2⟩, h3⟩
  gh := fun g hg => (r.gh g hg).same e
  im := fun i fr h => let ⟨v, d, h1, h2, h3⟩ := r.im i fr h; ⟨v, d, h1, h2, h3.same e⟩
  ow := fun i c fr h => let ⟨p, d, h1, h2, h3, h4⟩ := r.ow i c fr h; ⟨p, d, h1, h2, h3, h4.map (fun o => e p o) fun _ _ q => q.same e⟩
  ar := r.ar
  sp := r.sp
  sl := fun i t h => let ⟨v, d, h1, h2, h3⟩ := r.sl i t h; ⟨v, d, h1, h2, h3.same e⟩
theorem R.owOf (r : R K f Δ ρ σ H) {a : Addr} (h : Ow Δ σ a) : (∃ o, H a = some o ∧ Mutb o) ∧ f.H0 a = none := by
  obtain ⟨i, c, fr, h1, h2⟩ := h
  obtain ⟨p, d, e1, _, e3, e4⟩ := r.ow i c fr h1
  rw [h2] at e1
  cases e1
  exact ⟨e4.mutb, e3⟩
theorem R.fresh (r : R K f Δ ρ σ H) (h : H p = none) : ¬ Ow Δ σ p ∧ p ∉ f.P ∧ f.H0 p = none := by
  refine ⟨fun z => ?_, fun z => ?_, ?_⟩
  · obtain ⟨⟨o, e, _⟩, _⟩ := r.owOf z
    rw [h] at e; cases e
  · obtain ⟨⟨o, e, _⟩, _⟩ := r.pin p z
    rw [h] at e; cases e
  · cases q : f.H0 p with
    | none => rfl
    | some o => rw [r.ext p o q] at h; cases h
theorem R.updAt {o o' : HO} (r : R K f Δ ρ σ H) (hp : H p = some o) (m : Mutb o) (m' : Mutb o') (h0 : f.H0 p = none) (no : ¬ Ow Δ σ p) (hP : p ∈ f.P) (hs : ∀ (i : Nat) (t : Bool), Δ[i]? = some (Kd.sl t) → p ∉ f.S) : R K f Δ ρ σ (upd H p o') := by
  have key : ∀ {fr : Bool} {v : V} {d : Dt}, Rp K (FM f Δ σ true fr) H v d → Rp K (FM f Δ σ true fr) (upd H p o') v d := fun h =>
    h.updM hp m fun a fa z => (fa.1 rfl).2 (z ▸ hP)
  refine ⟨fun b u e => ?_, r.g0, r.lσ, r.lρ, r.inj, fun a ha => ⟨?_, (r.pin a ha).2⟩, fun g hg => (r.gh g hg).map fun _ _ x => key x, fun i fr h => ?_, fun i c fr h => ?_, r.ar, r.sp, fun i t h => let ⟨v, d, h1, h2, h3⟩ := r.sl i t h; ⟨v, d, h1, h2, h3.updM hp m fun a fa z => hs i t h (z ▸ fa)⟩⟩
  · have : b ≠ p := fun z => by subst z; rw [h0] at e; cases e
    rw [upd_ne this]
    exact r.ext b u e
  · by_cases z : a = p
    · subst z
      exact ⟨o', upd_same, m'⟩
    · rw [upd_ne z]
      exact (r.pin a ha).1
  · obtain ⟨v, d, h1, h2, h3⟩ := r.im i fr h
    exact ⟨v, d, h1, h2, key h3⟩
  · obtain ⟨q, d, h1, h2, h3, h4⟩ := r.ow i c fr h
    have nq : q ≠ p := fun z => no ⟨i, c, fr, h, z ▸ h1⟩
    exact ⟨q, d, h1, h2, h3, h4.map (fun u e => by rw [upd_ne nq]; exact e) fun _ _ x => key x⟩
theorem R.updOwn {o' : HO} {c : Ct} {fr : Bool} (r : R K f Δ ρ σ H) (hk : Δ[i]? = some (Kd.own c fr)) (hs : σ[i]? = some (some (V.ref p)))
    {fr' : Bool} (m' : Mutb o') {c' : Ct} (new : OwC K c' (FM f Δ σ true fr') (upd H p o') p d) (hc : isArg c' = true → isArg c = true := by intro h; first | exact h | cases h) : R K f (Δ.set i (.own c' fr')) (ρ.set i d) σ (upd H p o') := by
  obtain ⟨p', d', e1, e2, e3, e4⟩ := r.ow i c fr hk
  rw [hs] at e1
  cases e1
  obtain ⟨o, ho, mo⟩ := e4.mutb
  have hi : i < Δ.length := (List.getElem?_eq_some_iff.mp hk).1
  have owp : Ow Δ σ p := ⟨i, c, fr, hk, hs⟩
  have ow' : ∀ a, Ow (Δ.set i (.own c' fr')) σ a ↔ Ow Δ σ a := fun a => by
    constructor
    · rintro ⟨j, cj, fj, h1, h2⟩
      by_cases z : i = j
      · subst z
        rw [hs] at h2
        cases h2
        exact owp
      · rw [List.getElem?_set_ne z] at h1
        exact ⟨j, cj, fj, h1, h2⟩
    · rintro ⟨j, cj, fj, h1, h2⟩
      by_cases z : i = j
      · subst z
        exact ⟨i, c', fr', by rw [List.getElem?_set_self hi], h2⟩
      · exact ⟨j, cj, fj, by rw [List.getElem?_set_ne z]; exact h1, h2⟩
  have key : ∀ {fr : Bool} {v : V} {d : Dt}, Rp K (FM f Δ σ true fr) H v d → Rp K (FM f (Δ.set i (.own c' fr')) σ true fr) (upd H p o') v d := fun h =>
    (h.updM ho mo fun a fa z => (fa.1 rfl).1 (z ▸ owp)).weak fun a fa => ⟨fun _ => ⟨fun z => (fa.1 rfl).1 ((ow' a).mp z), (fa.1 rfl).2⟩, fa.2⟩
  have key2 : ∀ {fr : Bool} {v : V} {d : Dt}, Rp K (FM f Δ σ true fr) (upd H p o') v d → Rp K (FM f (Δ.set i (.own c' fr')) σ true fr) (upd H p o') v d := fun h =>
    h.weak fun a fa => ⟨fun _ => ⟨fun z => (fa.1 rfl).1 ((ow' a).mp z), (fa.1 rfl).2⟩, fa.2⟩
  refine ⟨fun b u e => ?_, r.g0, by rw [List.length_set]; exact r.lσ, by rw [List.length_set, List.length_set]; exact r.lρ, ?_, fun a ha => ?_, fun g hg => (r.gh g hg).map fun _ _ x => key x, fun j fj h => ?_, fun j cj fj h => ?_, fun j cj fj h ha => ?_, r.sp, fun j t h => by
    by_cases z : i = j
    · subst z
      rw [List.getElem?_set_self hi] at h
      cases h
    · rw [List.getElem?_set_ne z] at h
      obtain ⟨v, d, h1, h2, h3⟩ := r.sl j t h
      exact ⟨v, d, h1, by rw [List.getElem?_set_ne z]; exact h2, h3.updM ho mo fun a fa y => (r.pin a (f.hS a fa)).2 (y ▸ owp)⟩⟩
  · have : b ≠ p := fun z => by subst z; rw [e3] at e; cases e
    rw [upd_ne this]
    exact r.ext b u e
  · intro j k cj fj ck fk q h1 h2 h3 h4
    have g : ∀ {j : Nat} {cj : Ct} {fj : Bool}, (Δ.set i (Kd.own c' fr'))[j]? = some (Kd.own cj fj) → ∃ (cj : Ct) (fj : Bool), Δ[j]? = some (Kd.own cj fj) := fun {j cj fj} h => by
      by_cases z : i = j
      · subst z; exact ⟨_, _, hk⟩
      · rw [List.getElem?_set_ne z] at h; exact ⟨_, _, h⟩
    obtain ⟨_, _, g1⟩ := g h1
    obtain ⟨_, _, g2⟩ := g h2
    exact r.inj j k _ _ _ _ q g1 g2 h3 h4
  · obtain ⟨⟨u, hu, mu⟩, no⟩ := r.pin a ha
    have na : a ≠ p := fun z => no (z ▸ owp)
    exact ⟨⟨u, by rw [upd_ne na]; exact hu, mu⟩, fun z => no ((ow' a).mp z)⟩
  · by_cases z : i = j
    · subst z
      rw [List.getElem?_set_self hi] at h
      cases h
    · rw [List.getElem?_set_ne z] at h
      obtain ⟨v, d, h1, h2, h3⟩ := r.im j fj h
      exact ⟨v, d, h1, by rw [List.getElem?_set_ne z]; exact h2, key h3⟩
  · by_cases z : i = j
    · subst z
      rw [List.getElem?_set_self hi] at h
      cases h
      exact ⟨p, d, hs, by rw [List.getElem?_set_self (by rw [r.lρ]; exact hi)], e3, new.map (fun o e => e) fun _ _ x => key2 x⟩
    · rw [List.getElem?_set_ne z] at h
      obtain ⟨q, d, h1, h2, h3, h4⟩ := r.ow j cj fj h
      have nq : q ≠ p := fun y => z (r.inj i j _ _ _ _ p hk h hs (y ▸ h1))
      exact ⟨q, d, h1, by rw [List.getElem?_set_ne z]; exact h2, h3, h4.map (fun u e => by rw [upd_ne nq]; exact e) fun _ _ x => key x⟩
  · by_cases z : i = j
    · subst z
      rw [List.getElem?_set_self hi] at h
      cases h
      exact r.ar i c fr hk (hc ha)
    · rw [List.getElem?_set_ne z] at h
      exact r.ar j cj fj h ha
theorem R.setIm {fr : Bool} (r : R K f Δ ρ σ H) (hi : i < Δ.length) (h : Rp K (FM f Δ σ true fr) H v d) : R K f (Δ.set i (.im fr)) (ρ.set i d) (σ.set i (some v)) H := by
  have ow' : ∀ a, Ow (Δ.set i (.im fr)) (σ.set i (some v)) a → Ow Δ σ a := fun a => by
    rintro ⟨j, cj, fj, h1, h2⟩
    by_cases z : i = j
    · subst z
      rw [List.getElem?_set_self hi] at h1
      cases h1
    · rw [List.getElem?_set_ne z] at h1 h2
      exact ⟨j, cj, fj, h1, h2⟩
  have key : ∀ {fr' : Bool} {v' : V} {d' : Dt}, Rp K (FM f Δ σ true fr') H v' d' → Rp K (FM f (Δ.set i (.im fr)) (σ.set i (some v)) true fr') H v' d' := fun h =>
    h.weak fun a fa => ⟨fun _ => ⟨fun z => (fa.1 rfl).1 (ow' a z), (fa.1 rfl).2⟩, fa.2⟩
  refine ⟨r.ext, r.g0, by rw [List.length_set, List.length_set]; exact r.lσ, by rw [List.length_set, List.length_set]; exact r.lρ, ?_, fun a ha => ⟨(r.pin a ha).1, fun z => (r.pin a ha).2 (ow' a z)⟩, fun g hg => (r.gh g hg).map fun _ _ x => key x, fun j fj h' => ?_, fun j cj fj h' => ?_, fun j cj fj h' ha => ?_, r.sp, fun j t h' => by
    by_cases z : i = j
    · subst z
      rw [List.getElem?_set_self hi] at h'
      cases h'
    · rw [List.getElem?_set_ne z] at h'
      obtain ⟨v, d, h1, h2, h3⟩ := r.sl j t h'
      exact ⟨v, d, by rw [List.getElem?_set_ne z]; exact h1, by rw [List.getElem?_set_ne z]; exact h2, h3⟩⟩
  · intro j k cj fj ck fk q h1 h2 h3 h4
    have g : ∀ {j : Nat} {cj : Ct} {fj : Bool}, (Δ.set i (Kd.im fr))[j]? = some (Kd.own cj fj) → i ≠ j ∧ Δ[j]? = some (Kd.own cj fj) := fun {j cj fj} h => by
      by_cases z : i = j
      · subst z; rw [List.getElem?_set_self hi] at h; cases h
      · rw [List.getElem?_set_ne z] at h; exact ⟨z, h⟩
    obtain ⟨z1, g1⟩ := g h1
    obtain ⟨z2, g2⟩ := g h2
    rw [List.getElem?_set_ne z1] at h3
    rw [List.getElem?_set_ne z2] at h4
    exact r.inj j k _ _ _ _ q g1 g2 h3 h4
  · by_cases z : i = j
    · subst z
      rw [List.getElem?_set_self hi] at h'
      cases h'
      exact ⟨v, d, by rw [List.getElem?_set_self (by rw [r.lσ]; exact hi)], by rw [List.getElem?_set_self (by rw [r.lρ]; exact hi)], key h⟩
    · rw [List.getElem?_set_ne z] at h'
      obtain ⟨v', d', h1, h2, h3⟩ := r.im j fj h'
      exact ⟨v', d', by rw [List.getElem?_set_ne z]; exact h1, by rw [List.getElem?_set_ne z]; exact h2, key h3⟩
  · by_cases z : i = j
    · subst z
      rw [List.getElem?_set_self hi] at h'
      cases h'
    · rw [List.getElem?_set_ne z] at h'
      obtain ⟨q, d', h1, h2, h3, h4⟩ := r.ow j cj fj h'
      exact ⟨q, d', by rw [List.getElem?_set_ne z]; exact h1, by rw [List.getElem?_set_ne z]; exact h2, h3, h4.map (fun u e => e) fun _ _ x => key x⟩
  · by_cases z : i = j
    · subst z
      rw [List.getElem?_set_self hi] at h'
      cases h'
    · rw [List.getElem?_set_ne z] at h'
      obtain ⟨p, h1, h2⟩ := r.ar j cj fj h' ha
      exact ⟨p, h1, by rw [List.getElem?_set_ne z]; exact h2⟩
theorem R.setOwn {c : Ct} {fr : Bool} (r0 : R K f Δ ρ σ H) (hi : i < Δ.length) (hp : H p = none) (e : Same H H') (h : OwC K c (fun a => FM f Δ σ true fr a ∧ a ≠ p) H' p d) (hc : isArg c = false := by rfl) :
    R K f (Δ.set i (.own c fr)) (ρ.set i d) (σ.set i (some (.ref p))) H' := by
  have r := r0.mono e
  obtain ⟨f1, f2, f3⟩ := r0.fresh hp
  have ow' : ∀ a, Ow (Δ.set i (.own c fr)) (σ.set i (some (.ref p))) a → Ow Δ σ a ∨ a = p := fun a => by
    rintro ⟨j, cj, fj, h1, h2⟩
    by_cases z : i = j
    · subst z
      rw [List.getElem?_set_self (by rw [r.lσ]; exact hi)] at h2
      cases h2
      exact .inr rfl
    · rw [List.getElem?_set_ne z] at h1 h2
      exact .inl ⟨j, cj, fj, h1, h2⟩
  have key : ∀ {fr' : Bool} {v' : V} {d' : Dt}, Rp K (FM f Δ σ true fr') H v' d' → Rp K (FM f (Δ.set i (.own c fr)) (σ.set i (some (.ref p))) true fr') H' v' d' := fun h =>
    h.mono e fun a fa na => ⟨fun _ => ⟨fun z => by
      rcases ow' a z with z | z
      · exact (fa.1 rfl).1 z
      · exact na (z ▸ hp), (fa.1 rfl).2⟩, fa.2⟩
  have keyN : ∀ {fr' : Bool} {v' : V} {d' : Dt}, Rp K (fun a => FM f Δ σ true fr' a ∧ a ≠ p) H' v' d' → Rp K (FM f (Δ.set i (.own c fr)) (σ.set i (some (.ref p))) true fr') H' v' d' := fun h =>
    h.weak fun a fa => ⟨fun _ => ⟨fun z => by
      rcases ow' a z with z | z
      · exact (fa.1.1 rfl).1 z
      · exact fa.2 z, (fa.1.1 rfl).2⟩, fa.1.2⟩
  refine ⟨r.ext, r.g0, by rw [List.length_set, List.length_set]; exact r.lσ, by rw [List.length_set, List.length_set]; exact r.lρ, ?_, fun a ha => ⟨(r.pin a ha).1, fun z => ?_⟩, fun g hg => (r0.gh g hg).map fun _ _ x => key x, fun j fj h' => ?_, fun j cj fj h' => ?_, fun j cj fj h' ha => ?_, r.sp, fun j t h' => by
    by_cases z : i = j
    · subst z
      rw [List.getElem?_set_self hi] at h'
      cases h'
    · rw [List.getElem?_set_ne z] at h'
      obtain ⟨v, d, h1, h2, h3⟩ := r.sl j t h'
      exact ⟨v, d, by rw [List.getElem?_set_ne z]; exact h1, by rw [List.getElem?_set_ne z]; exact h2, h3⟩⟩
  · have g : ∀ {j : Nat} {cj : Ct} {fj : Bool} {q : Addr}, (Δ.set i (Kd.own c fr))[j]? = some (Kd.own cj fj) → (σ.set i (some (V.ref p)))[j]? = some (some (V.ref q)) → (i = j ∧ q = p) ∨ (i ≠ j ∧ Δ[j]? = some (Kd.own cj fj) ∧ σ[j]? = some (some (V.ref q)) ∧ q ≠ p) := fun {j cj fj q} h h2 => by
      by_cases z : i = j
      · subst z
        rw [List.getElem?_set_self (by rw [r.lσ]; exact hi)] at h2
        cases h2
        exact .inl ⟨rfl, rfl⟩
      · rw [List.getElem?_set_ne z] at h h2
        exact .inr ⟨z, h, h2, fun y => f1 ⟨j, cj, fj, h, y ▸ h2⟩⟩
    intro j k cj fj ck fk q h1 h2 h3 h4
    rcases g h1 h3 with ⟨a1, b1⟩ | ⟨a1, b1, c1, d1⟩
    · rcases g h2 h4 with ⟨a2, b2⟩ | ⟨a2, b2, c2, d2⟩
      · exact a1 ▸ a2
      · exact (d2 b1).elim
    · rcases g h2 h4 with ⟨a2, b2⟩ | ⟨a2, b2, c2, d2⟩
      · exact (d1 b2).elim
      · exact r.inj j k _ _ _ _ q b1 b2 c1 c2
  · rcases ow' a z with z | z
    · exact (r0.pin a ha).2 z
    · exact f2 (z ▸ ha)
  · by_cases z : i = j
    · subst z
      rw [List.getElem?_set_self hi] at h'
      cases h'
    · rw [List.getElem?_set_ne z] at h'
      obtain ⟨v', d', h1, h2, h3⟩ := r0.im j fj h'
      exact ⟨v', d', by rw [List.getElem?_set_ne z]; exact h1, by rw [List.getElem?_set_ne z]; exact h2, key h3⟩
  · by_cases z : i = j
    · subst z
      rw [List.getElem?_set_self hi] at h'
      cases h'
      exact ⟨p, d, by rw [List.getElem?_set_self (by rw [r.lσ]; exact hi)], by rw [List.getElem?_set_self (by rw [r.lρ]; exact hi)], f3, h.map (fun o e => e) fun _ _ x => keyN x⟩
    · rw [List.getElem?_set_ne z] at h'
      obtain ⟨q, d', h1, h2, h3, h4⟩ := r0.ow j cj fj h'
      exact ⟨q, d', by rw [List.getElem?_set_ne z]; exact h1, by rw [List.getElem?_set_ne z]; exact h2, h3, h4.map (fun u x => e _ _ x) fun _ _ x => key x⟩
  · by_cases z : i = j
    · subst z
      rw [List.getElem?_set_self hi] at h'
      cases h'
      rw [hc] at ha
      cases ha
    · rw [List.getElem?_set_ne z] at h'
      obtain ⟨p, h1, h2⟩ := r0.ar j cj fj h' ha
      exact ⟨p, h1, by rw [List.getElem?_set_ne z]; exact h2⟩
end
end Sim
end T_SimA
section T_SimB
set_option Elab.async false
set_option linter.all false
set_option maxRecDepth 100000
namespace Sim
open PySem PySem.Spec L2
open PyProof.Rows hiding St
abbrev Wt := Exn → L2.St → Hp → Prop
abbrev Gd := List Dt → O Dt
inductive Rk where
  | v (av fr : Bool) | o (fr : Bool) | new (c : Ct) (fr : Bool)
def PoE (K : PySem.W.Frag) (W : Wt) (f : Fm) (Δ : List Kd) (σ : L2.St) (H : Hp) (k : Rk) (o : O Dt) (Q : VK) : Prop := match o with
  | .bad => False
  | .ex e => ∀ H', Same H H' → W e σ H'
  | .ok d => match k with
    | .v av fr => ∀ v H', Same H H' → Rp K (FM f Δ σ av fr) H' v d → Q v H'
    | .o fr => ∀ p H' vs ds, d = .list ds → Same H H' → H' p = some (.lst vs) → f.G p → RpA K (FM f Δ σ true fr) H' vs ds → Q (.ref p) H'
    | .new c fr => ∀ p H', H p = none → Same H H' → OwC K c (fun a => FM f Δ σ true fr a ∧ a ≠ p) H' p d → Q (.ref p) H'
def SE (K : PySem.W.Frag) (W : Wt) (Δ : List Kd) (te : TE) (k : Rk) (g : Gd) : Prop := ∀ f ρ σ H Q, R K f Δ ρ σ H → PoE K W f Δ σ H k (g ρ) Q → te σ H Q
def PoT (W : Wt) (σ : L2.St) (H : Hp) (o : O Bool) (Q : Bool → Hp → Prop) : Prop := match o with
  | .bad => False
  | .ex e => ∀ H', Same H H' → W e σ H'
  | .ok b => ∀ H', Same H H' → Q b H'
def ST (K : PySem.W.Frag) (W : Wt) (Δ : List Kd) (tt : TT) (g : List Dt → O Bool) : Prop := ∀ f ρ σ H Q, R K f Δ ρ σ H → PoT W σ H (g ρ) Q → tt σ H Q
def PoA (K : PySem.W.Frag) (W : Wt) (f : Fm) (Δ : List Kd) (σ : L2.St) (H : Hp) (av fr : Bool) (o : O (List Dt)) (Q : List V → Hp → Prop) : Prop := match o with
  | .bad => False
  | .ex e => ∀ H', Same H H' → W e σ H'
  | .ok ds => ∀ vs H', Same H H' → RpA K (FM f Δ σ av fr) H' vs ds → Q vs H'
def SA (K : PySem.W.Frag) (W : Wt) (Δ : List Kd) (ta : TA) (av fr : Bool) (g : List Dt → O (List Dt)) : Prop := ∀ f ρ σ H Q, R K f Δ ρ σ H → PoA K W f Δ σ H av fr (g ρ) Q → ta σ H Q
def gVar (i : Nat) : Gd := fun ρ => match ρ[i]? with
  | some d => .ok d
  | none => .bad
def gC (d : Dt) : Gd := fun _ => .ok d
def gOp (h : Dt → Dt → O Dt) (a b : Gd) : Gd := fun ρ => bnd (a ρ) fun x => bnd (b ρ) fun y => h x y
def gUn (h : Dt → O Dt) (a : Gd) : Gd := fun ρ => bnd (a ρ) h
def gNil : List Dt → O (List Dt) := fun _ => .ok []
def gCons (a : Gd) (b : List Dt → O (List Dt)) : List Dt → O (List Dt) := fun ρ => bnd (a ρ) fun x => bnd (b ρ) fun xs => .ok (x :: xs)
def gTup (a : List Dt → O (List Dt)) : Gd := fun ρ => bnd (a ρ) fun xs => if xs.length ≤ 100000 then .ok (.tuple xs) else .bad
def gLst (a : List Dt → O (List Dt)) : Gd := fun ρ => bnd (a ρ) fun xs => if xs.length ≤ 100000 then .ok (.list xs) else .bad
def gPur (a : Gd) : Gd := fun ρ => bnd (a ρ) fun d => if pure1 d then .ok d else .bad
def pureIn : Dt → Bool
  | .list xs => pureA xs
  | d => pure1 d
def gPurN (a : Gd) : Gd := fun ρ => bnd (a ρ) fun d => if pureIn d then .ok d else .bad
def gIf (t : List Dt → O Bool) (a b : Gd) : Gd := fun ρ => bnd (t ρ) fun c => if c then a ρ else b ρ
def asB : Dt → O Bool
  | .bool b => .ok b
  | _ => .bad
def gTest (a : Gd) : List Dt → O Bool := fun ρ => bnd (a ρ) asB
def gNot (t : List Dt → O Bool) : List Dt → O Bool := fun ρ => bnd (t ρ) fun b => .ok (!b)
def gAnd (t u : List Dt → O Bool) : List Dt → O Bool := fun ρ => bnd (t ρ) fun b => if b then u ρ else .ok false
def gOr (t u : List Dt → O Bool) : List Dt → O Bool := fun ρ => bnd (t ρ) fun b => if b then .ok true else u ρ
def gAndV (a b : Gd) : Gd := fun ρ => bnd (a ρ) fun x => bnd (asB x) fun c => if c then b ρ else .ok (.bool false)
def gOrV (a b : Gd) : Gd := fun ρ => bnd (a ρ) fun x => bnd (asB x) fun c => if c then .ok (.bool true) else b ρ
def gNotV (a : Gd) : Gd := fun ρ => bnd (a ρ) fun x => bnd (asB x) fun c => .ok (.bool (!c))
def gCB (h : List Dt → O Dt) (a : List Dt → O (List Dt)) : Gd := fun ρ => bnd (a ρ) h
def scl : Dt → Bool
  | .none => true
  | .bool _ => true
  | .int _ => true
  | .str _ => true
  | _ => false
section
variable {K : PySem.W.Frag} {W : Wt} {Δ : List Kd} {ta tb te : TE} {tt tu : TT} {tA tB' : TA} {ga gb g : Gd} {gt gu : List Dt → O Bool} {gA : List Dt → O (List Dt)} {k k1 k2 : Rk} {av fr av' fr' : Bool}
theorem Rp.scl_any {F F' : Addr → Prop} {H H' : Hp} {v : V} {d : Dt} (h : Rp K F H v d) (s : scl d = true) : Rp K F' H' v d := by
  cases h with
  | non => exact .non
  | bl b => exact .bl b
  | int i => exact .int i
  | str x => exact .str x
  | lst => cases s
  | fz => cases s
  | tup => cases s
  | dic => cases s
  | exn => cases s
theorem se_var {i : Nat} (hk : Δ[i]? = some (.im fr)) : SE K W Δ (tVar i) (.v true fr) (gVar i) := fun f ρ σ H Q r q => by
  obtain ⟨v, d, h1, h2, h3⟩ := r.im i fr hk
  unfold gVar at q
  rw [h2] at q
  exact ⟨v, h1, q v H (Same.refl H) h3⟩
theorem se_own {i : Nat} (hk : Δ[i]? = some (.own .l fr)) : SE K W Δ (tVar i) (.o fr) (gVar i) := fun f ρ σ H Q r q => by
  obtain ⟨p, d, h1, h2, h3, vs, ds, e, h4, h5⟩ := r.ow i .l fr hk
  subst e
  unfold gVar at q
  rw [h2] at q
  exact ⟨_, h1, q p H vs ds rfl (Same.refl H) h4 (r.g0 p h3) h5⟩
theorem se_c {v : V} {d : Dt} (h : Rp K (fun _ => False) (fun _ => none) v d) (s : scl d = true) : SE K W Δ (tC v) (.v true true) (gC d) := fun f ρ σ H Q r q =>
  q v H (Same.refl H) (h.scl_any s)
theorem se_int {i : Int} : SE K W Δ (tC (.int i)) (.v true true) (gC (.int i)) := se_c (.int i) rfl
theorem se_str {x : Str} : SE K W Δ (tC (.str x)) (.v true true) (gC (.str x)) := se_c (.str x) rfl
theorem se_bl {b : Bool} : SE K W Δ (tC (.bl b)) (.v true true) (gC (.bool b)) := se_c (.bl b) rfl
theorem se_non : SE K W Δ (tC .non) (.v true true) (gC .none) := se_c .non rfl
theorem Rp.fm {f : Fm} {σ : L2.St} {H : Hp} {v : V} {d : Dt} (h1 : av' = true → av = true) (h2 : fr' = true → fr = true) (h : Rp K (FM f Δ σ av fr) H v d) : Rp K (FM f Δ σ av' fr') H v d := h.weak fun _ x => x.weak h1 h2
theorem SE.wk (h : SE K W Δ te (.v av fr) g) (h1 : av' = true → av = true := by decide) (h2 : fr' = true → fr = true := by decide) : SE K W Δ te (.v av' fr') g := fun f ρ σ H Q r q =>
  h f ρ σ H Q r <| by
    cases e : g ρ with
    | bad => rw [e] at q; exact q
    | ex z => rw [e] at q; exact q
    | ok d => rw [e] at q; exact fun v H' s x => q v H' s (x.fm h1 h2)
theorem SE.ov (h : SE K W Δ te (.o fr) g) : SE K W Δ te (.v false fr) g := fun f ρ σ H Q r q =>
  h f ρ σ H Q r <| by
    cases e : g ρ with
    | bad => rw [e] at q; exact q
    | ex z => rw [e] at q; exact q
    | ok d =>
      rw [e] at q
      intro p H' vs ds ed s hp gp x
      subst ed
      exact q _ H' s (.lst hp ⟨(nomatch ·), fun _ => gp⟩ (x.weak fun _ y => y.weak (fun _ => rfl) id))
theorem SE.nv (h : SE K W Δ te (.new .l fr) g) : SE K W Δ te (.v true fr) g := fun f ρ σ H Q r q =>
  h f ρ σ H Q r <| by
    cases e : g ρ with
    | bad => rw [e] at q; exact q
    | ex z => rw [e] at q; exact q
    | ok d =>
      rw [e] at q
      intro p H' np s x
      obtain ⟨vs, ds, ed, hp, x⟩ := x
      subst ed
      obtain ⟨f1, f2, f3⟩ := r.fresh np
      exact q _ H' s (.lst hp ⟨fun _ => ⟨f1, f2⟩, fun _ => r.g0 p f3⟩ (x.weak fun _ y => y.1))
theorem SE.no (h : SE K W Δ te (.new .l fr) g) : SE K W Δ te (.o fr) g := fun f ρ σ H Q r q =>
  h f ρ σ H Q r <| by
    cases e : g ρ with
    | bad => rw [e] at q; exact q
    | ex z => rw [e] at q; exact q
    | ok d =>
      rw [e] at q
      intro p H' np s x
      obtain ⟨vs, ds, ed, hp, x⟩ := x
      subst ed
      obtain ⟨f1, f2, f3⟩ := r.fresh np
      exact q _ H' vs ds rfl s hp (r.g0 p f3) (x.weak fun _ y => y.1)
theorem SE.pur (h : SE K W Δ te (.v av fr) g) : SE K W Δ te (.v true true) (gPur g) := fun f ρ σ H Q r q =>
  h f ρ σ H Q r <| by
    unfold gPur at q
    cases e : g ρ with
    | bad => rw [e] at q; exact q
    | ex z => rw [e] at q; exact q
    | ok d =>
      rw [e, bnd_ok] at q
      intro v H' s x
      by_cases p : pure1 d = true
      · rw [if_pos p] at q
        exact q v H' s (x.pure p)
      · rw [if_neg p] at q
        exact q.elim
theorem pureIn_list {ds : List Dt} : pureIn (.list ds) = pureA ds := rfl
theorem SE.purN (h : SE K W Δ te (.new .l fr) g) : SE K W Δ te (.new .l true) (gPurN g) := fun f ρ σ H Q r q =>
  h f ρ σ H Q r <| by
    unfold gPurN at q
    cases e : g ρ with
    | bad => rw [e] at q; exact q
    | ex z => rw [e] at q; exact q
    | ok d =>
      rw [e, bnd_ok] at q
      intro p H' np s x
      obtain ⟨vs, ds, ed, hp, x⟩ := x
      subst ed
      rw [pureIn_list] at q
      by_cases pp : pureA ds = true
      · rw [if_pos pp] at q
        exact q p H' np s ⟨vs, ds, rfl, hp, x.pure pp⟩
      · rw [if_neg pp] at q
        exact q.elim
def OSc (K : PySem.W.Frag) (r : R2) (h : Dt → Dt → O Dt) : Prop := ∀ H x y d e Q, Rp K (fun _ => True) H x d → Rp K (fun _ => True) H y e →
  (match h d e with | .ok z => scl z = true ∧ (∀ v, Rp K (fun _ => False) (fun _ => none) v z → Q v H) | _ => False) → r x y H Q
def USc (K : PySem.W.Frag) (r : V → Hp → VK → Prop) (h : Dt → O Dt) : Prop := ∀ H x d Q, Rp K (fun _ => True) H x d →
  (match h d with | .ok z => scl z = true ∧ (∀ v, Rp K (fun _ => False) (fun _ => none) v z → Q v H) | _ => False) → r x H Q
def CSc (K : PySem.W.Frag) (r : List V → Hp → VK → Prop) (h : List Dt → O Dt) : Prop := ∀ H xs ds Q, RpA K (fun _ => True) H xs ds →
  (match h ds with | .ok z => scl z = true ∧ (∀ v, Rp K (fun _ => False) (fun _ => none) v z → Q v H) | _ => False) → r xs H Q
def Scl2 (h : Dt → Dt → O Dt) : Prop := ∀ d e, (∃ z, h d e = .ok z ∧ scl z = true) ∨ h d e = .bad
def Scl1 (h : Dt → O Dt) : Prop := ∀ d, (∃ z, h d = .ok z ∧ scl z = true) ∨ h d = .bad
def SclA (h : List Dt → O Dt) : Prop := ∀ d, (∃ z, h d = .ok z ∧ scl z = true) ∨ h d = .bad
theorem se_op {r : R2} {h : Dt → Dt → O Dt} (hs : Scl2 h) (ho : OSc K r h) (ha : SE K W Δ ta (.v av fr) ga) (hb : SE K W Δ tb (.v av' fr') gb) : SE K W Δ (tOp r ta tb) (.v true true) (gOp h ga gb) := fun f ρ σ H Q R q => by
  refine ha f ρ σ H _ R ?_
  unfold gOp at q
  cases e1 : ga ρ with
  | bad => rw [e1] at q; exact q
  | ex z => rw [e1] at q; exact q
  | ok d =>
    rw [e1, bnd_ok] at q
    intro v H1 s1 x1
    refine hb f ρ σ H1 _ (R.mono s1) ?_
    cases e2 : gb ρ with
    | bad => rw [e2] at q; exact q
    | ex z => rw [e2] at q; exact fun H' s => q H' (s1.trans s)
    | ok d2 =>
      rw [e2, bnd_ok] at q
      intro v2 H2 s2 x2
      refine ho H2 v v2 d d2 Q ((x1.same s2).weak fun _ _ => trivial) (x2.weak fun _ _ => trivial) ?_
      rcases hs d d2 with ⟨z, ez, sz⟩ | ez
      · rw [ez] at q ⊢
        exact ⟨sz, fun w x => q w H2 (s1.trans s2) (x.scl_any sz)⟩
      · rw [ez] at q
        exact q.elim
theorem se_un {r : V → Hp → VK → Prop} {h : Dt → O Dt} (hs : Scl1 h) (ho : USc K r h) (ha : SE K W Δ ta (.v av fr) ga) : SE K W Δ (tUn r ta) (.v true true) (gUn h ga) := fun f ρ σ H Q R q => by
  refine ha f ρ σ H _ R ?_
  unfold gUn at q
  cases e1 : ga ρ with
  | bad => rw [e1] at q; exact q
  | ex z => rw [e1] at q; exact q
  | ok d =>
    rw [e1, bnd_ok] at q
    intro v H1 s1 x1
    refine ho H1 v d Q (x1.weak fun _ _ => trivial) ?_
    rcases hs d with ⟨z, ez, sz⟩ | ez
    · rw [ez] at q ⊢
      exact ⟨sz, fun w x => q w H1 s1 (x.scl_any sz)⟩
    · rw [ez] at q
      exact q.elim
theorem se_cb {r : List V → Hp → VK → Prop} {h : List Dt → O Dt} (hs : SclA h) (ho : CSc K r h) (ha : SA K W Δ tA av fr gA) : SE K W Δ (tCB r tA) (.v true true) (gCB h gA) := fun f ρ σ H Q R q => by
  refine ha f ρ σ H _ R ?_
  unfold gCB at q
  cases e1 : gA ρ with
  | bad => rw [e1] at q; exact q
  | ex z => rw [e1] at q; exact q
  | ok d =>
    rw [e1, bnd_ok] at q
    intro v H1 s1 x1
    refine ho H1 v d Q (x1.weak fun _ _ => trivial) ?_
    rcases hs d with ⟨z, ez, sz⟩ | ez
    · rw [ez] at q ⊢
      exact ⟨sz, fun w x => q w H1 s1 (x.scl_any sz)⟩
    · rw [ez] at q
      exact q.elim
theorem sa_nil : SA K W Δ tNil true true gNil := fun f ρ σ H Q R q => q [] H (Same.refl H) .nil
theorem sa_cons (ha : SE K W Δ ta (.v av fr) ga) (hr : SA K W Δ tA av' fr' gA) : SA K W Δ (tCons ta tA) (av && av') (fr && fr') (gCons ga gA) := fun f ρ σ H Q R q => by
  refine ha f ρ σ H _ R ?_
  unfold gCons at q
  cases e1 : ga ρ with
  | bad => rw [e1] at q; exact q
  | ex z => rw [e1] at q; exact q
  | ok d =>
    rw [e1, bnd_ok] at q
    intro v H1 s1 x1
    refine hr f ρ σ H1 _ (R.mono s1) ?_
    cases e2 : gA ρ with
    | bad => rw [e2] at q; exact q
    | ex z => rw [e2] at q; exact fun H' s => q H' (s1.trans s)
    | ok ds =>
      rw [e2, bnd_ok] at q
      intro vs H2 s2 x2
      exact q (v :: vs) H2 (s1.trans s2) (.cons ((x1.same s2).fm (fun h => (Bool.and_eq_true_iff.mp h).1) fun h => (Bool.and_eq_true_iff.mp h).1)
        (x2.weak fun _ y => y.weak (fun h => (Bool.and_eq_true_iff.mp h).2) fun h => (Bool.and_eq_true_iff.mp h).2))
theorem SA.wk (h : SA K W Δ tA av fr gA) (h1 : av' = true → av = true := by decide) (h2 : fr' = true → fr = true := by decide) : SA K W Δ tA av' fr' gA := fun f ρ σ H Q R q =>
  h f ρ σ H Q R <| by
    cases e : gA ρ with
    | bad => rw [e] at q; exact q
    | ex z => rw [e] at q; exact q
    | ok d => rw [e] at q; exact fun v H' s x => q v H' s (x.weak fun _ y => y.weak h1 h2)
theorem sz_le {n : Nat} (h : n ≤ 100000) : n ≤ sizeLine := Nat.le_trans h (by decide)
theorem same_upd {H : Hp} {p : Addr} {o : HO} (h : H p = none) : Same H (upd H p o) := fun b x e => by
  rw [upd_ne (ne_of_none e h)]
  exact e
theorem se_tup (ha : SA K W Δ tA av fr gA) : SE K W Δ (tTup tA) (.v av fr) (gTup gA) := fun f ρ σ H Q R q => by
  refine ha f ρ σ H _ R ?_
  unfold gTup at q
  cases e1 : gA ρ with
  | bad => rw [e1] at q; exact q
  | ex z => rw [e1] at q; exact q
  | ok ds =>
    rw [e1, bnd_ok] at q
    intro vs H1 s1 x1
    by_cases l : ds.length ≤ 100000
    · rw [if_pos l] at q
      refine ⟨by rw [x1.length]; exact sz_le l, fun p np => ?_⟩
      exact q _ _ (s1.trans (same_upd np)) (.tup (.inl (.inl upd_same)) (x1.same (same_upd np)))
    · rw [if_neg l] at q
      exact q.elim
theorem se_lst (ha : SA K W Δ tA true fr gA) : SE K W Δ (tLst tA) (.new .l fr) (gLst gA) := fun f ρ σ H Q R q => by
  refine ha f ρ σ H _ R ?_
  unfold gLst at q
  cases e1 : gA ρ with
  | bad => rw [e1] at q; exact q
  | ex z => rw [e1] at q; exact q
  | ok ds =>
    rw [e1, bnd_ok] at q
    intro vs H1 s1 x1
    by_cases l : ds.length ≤ 100000
    · rw [if_pos l] at q
      refine ⟨by rw [x1.length]; exact sz_le l, fun p np => ?_⟩
      refine q p _ (s1.free np) (s1.trans (same_upd np)) ⟨vs, ds, rfl, upd_same, x1.mono (same_upd np) fun a y z => ⟨y, fun e => z (e ▸ np)⟩⟩
    · rw [if_neg l] at q
      exact q.elim
theorem st_test (ha : SE K W Δ te (.v av fr) g) : ST K W Δ (tTest te) (gTest g) := fun f ρ σ H Q R q => by
  refine ha f ρ σ H _ R ?_
  unfold gTest at q
  cases e1 : g ρ with
  | bad => rw [e1] at q; exact q
  | ex z => rw [e1] at q; exact q
  | ok d =>
    rw [e1, bnd_ok] at q
    intro v H1 s1 x1
    cases x1 with
    | bl b => exact ⟨b, rfl, q H1 s1⟩
    | non => exact q.elim
    | int => exact q.elim
    | str => exact q.elim
    | lst => exact q.elim
    | fz => exact q.elim
    | tup => exact q.elim
    | dic => exact q.elim
    | exn => exact q.elim
theorem st_B (ha : SE K W Δ te (.v av fr) g) : ST K W Δ (tB te) (gTest g) := st_test ha
theorem st_not (h : ST K W Δ tt gt) : ST K W Δ (tNot tt) (gNot gt) := fun f ρ σ H Q R q => by
  refine h f ρ σ H _ R ?_
  unfold gNot at q
  cases e1 : gt ρ with
  | bad => rw [e1] at q; exact q
  | ex z => rw [e1] at q; exact q
  | ok d => rw [e1, bnd_ok] at q; exact q
theorem st_and (h : ST K W Δ tt gt) (h2 : ST K W Δ tu gu) : ST K W Δ (tAnd tt tu) (gAnd gt gu) := fun f ρ σ H Q R q => by
  refine h f ρ σ H _ R ?_
  unfold gAnd at q
  cases e1 : gt ρ with
  | bad => rw [e1] at q; exact q
  | ex z => rw [e1] at q; exact q
  | ok b =>
    rw [e1, bnd_ok] at q
    intro H1 s1
    cases b with
    | false => exact q H1 s1
    | true =>
      refine h2 f ρ σ H1 _ (R.mono s1) ?_
      have q : PoT W σ H (gu ρ) Q := q
      cases e2 : gu ρ with
      | bad => rw [e2] at q; exact q
      | ex z => rw [e2] at q; exact fun H' s => q H' (s1.trans s)
      | ok b => rw [e2] at q; exact fun H' s => q H' (s1.trans s)
theorem st_or (h : ST K W Δ tt gt) (h2 : ST K W Δ tu gu) : ST K W Δ (tOr tt tu) (gOr gt gu) := fun f ρ σ H Q R q => by
  refine h f ρ σ H _ R ?_
  unfold gOr at q
  cases e1 : gt ρ with
  | bad => rw [e1] at q; exact q
  | ex z => rw [e1] at q; exact q
  | ok b =>
    rw [e1, bnd_ok] at q
    intro H1 s1
    cases b with
    | true => exact q H1 s1
    | false =>
      refine h2 f ρ σ H1 _ (R.mono s1) ?_
      have q : PoT W σ H (gu ρ) Q := q
      cases e2 : gu ρ with
      | bad => rw [e2] at q; exact q
      | ex z => rw [e2] at q; exact fun H' s => q H' (s1.trans s)
      | ok b => rw [e2] at q; exact fun H' s => q H' (s1.trans s)
theorem PoE.mono {f : Fm} {σ : L2.St} {H H' : Hp} {o : O Dt} {Q : VK} (s : Same H H') (h : PoE K W f Δ σ H k o Q) : PoE K W f Δ σ H' k o Q := by
  cases o with
  | bad => exact h
  | ex z => exact fun H2 s2 => h H2 (s.trans s2)
  | ok d =>
    cases k with
    | v av fr => exact fun v H2 s2 => h v H2 (s.trans s2)
    | o fr => exact fun p H2 vs ds e s2 => h p H2 vs ds e (s.trans s2)
    | new c fr => exact fun p H2 np s2 => h p H2 (s.free np) (s.trans s2)
theorem se_if (h : ST K W Δ tt gt) (ha : SE K W Δ ta k ga) (hb : SE K W Δ tb k gb) : SE K W Δ (tIf tt ta tb) k (gIf gt ga gb) := fun f ρ σ H Q R q => by
  refine h f ρ σ H _ R ?_
  unfold gIf at q
  cases e1 : gt ρ with
  | bad => rw [e1] at q; exact q
  | ex z => rw [e1] at q; exact q
  | ok b =>
    rw [e1, bnd_ok] at q
    intro H1 s1
    cases b with
    | true => exact ha f ρ σ H1 Q (R.mono s1) (PoE.mono s1 q)
    | false => exact hb f ρ σ H1 Q (R.mono s1) (PoE.mono s1 q)
theorem se_andV (ha : SE K W Δ ta (.v av fr) ga) (hb : SE K W Δ tb (.v true true) gb) : SE K W Δ (tAndV ta tb) (.v true true) (gAndV ga gb) := fun f ρ σ H Q R q => by
  refine ha f ρ σ H _ R ?_
  unfold gAndV at q
  cases e1 : ga ρ with
  | bad => rw [e1] at q; exact q
  | ex z => rw [e1] at q; exact q
  | ok d =>
    rw [e1, bnd_ok] at q
    intro v H1 s1 x1
    cases x1 with
    | bl b =>
      refine ⟨b, rfl, ?_⟩
      cases b with
      | true => exact hb f ρ σ H1 Q (R.mono s1) (PoE.mono s1 q)
      | false => exact q _ H1 s1 (.bl false)
    | non => exact q.elim
    | int => exact q.elim
    | str => exact q.elim
    | lst => exact q.elim
    | fz => exact q.elim
    | tup => exact q.elim
    | dic => exact q.elim
    | exn => exact q.elim
theorem se_orV (ha : SE K W Δ ta (.v av fr) ga) (hb : SE K W Δ tb (.v true true) gb) : SE K W Δ (tOrV ta tb) (.v true true) (gOrV ga gb) := fun f ρ σ H Q R q => by
  refine ha f ρ σ H _ R ?_
  unfold gOrV at q
  cases e1 : ga ρ with
  | bad => rw [e1] at q; exact q
  | ex z => rw [e1] at q; exact q
  | ok d =>
    rw [e1, bnd_ok] at q
    intro v H1 s1 x1
    cases x1 with
    | bl b =>
      refine ⟨b, rfl, ?_⟩
      cases b with
      | true => exact q _ H1 s1 (.bl true)
      | false => exact hb f ρ σ H1 Q (R.mono s1) (PoE.mono s1 q)
    | non => exact q.elim
    | int => exact q.elim
    | str => exact q.elim
    | lst => exact q.elim
    | fz => exact q.elim
    | tup => exact q.elim
    | dic => exact q.elim
    | exn => exact q.elim
theorem se_notV (ha : SE K W Δ ta (.v av fr) ga) : SE K W Δ (tNotV ta) (.v true true) (gNotV ga) := fun f ρ σ H Q R q => by
  refine ha f ρ σ H _ R ?_
  unfold gNotV at q
  cases e1 : ga ρ with
  | bad => rw [e1] at q; exact q
  | ex z => rw [e1] at q; exact q
  | ok d =>
    rw [e1, bnd_ok] at q
    intro v H1 s1 x1
    cases x1 with
    | bl b => exact ⟨b, rfl, q _ H1 s1 (.bl _)⟩
    | non => exact q.elim
    | int => exact q.elim
    | str => exact q.elim
    | lst => exact q.elim
    | fz => exact q.elim
    | tup => exact q.elim
    | dic => exact q.elim
    | exn => exact q.elim
end
end Sim
end T_SimB
section T_SimC
set_option Elab.async false
set_option linter.all false
set_option maxRecDepth 100000
namespace Sim
open PySem PySem.Spec L2
open PyProof.Rows hiding St
structure PD (X : Cx) (K : PySem.W.Frag) (W : Wt) (Δ : List Kd) (e : Expr) (te : TE) (k : Rk) (g : Gd) : Prop where
  pe : PE X e te
  hK : X.K = K
  se : SE K W Δ te k g
structure TD (X : Cx) (K : PySem.W.Frag) (W : Wt) (Δ : List Kd) (e : Expr) (tt : TT) (g : List Dt → O Bool) : Prop where
  pt : PT X e tt
  hK : X.K = K
  st : ST K W Δ tt g
structure WD (X : Cx) (K : PySem.W.Frag) (W : Wt) (Δ : List Kd) (e : Expr) (tt : TT) (g : List Dt → O Bool) : Prop where
  pw : PW X e tt
  hK : X.K = K
  st : ST K W Δ tt g
structure AD (X : Cx) (K : PySem.W.Frag) (W : Wt) (Δ : List Kd) (es : List Expr) (ta : TA) (av fr : Bool) (g : List Dt → O (List Dt)) : Prop where
  pa : PA X es ta
  hK : X.K = K
  sa : SA K W Δ ta av fr g
def hI0 (g : Int → Int → Int) : Dt → Dt → O Dt := fun d e => match d, e with
  | .int i, .int j => .ok (.int (g i j))
  | _, _ => .bad
def hI (C : Int → Int → Bool) (g : Int → Int → Int) : Dt → Dt → O Dt := fun d e => match d, e with
  | .int i, .int j => if C i j then .ok (.int (g i j)) else .bad
  | _, _ => .bad
def hB0 (p : Int → Int → Bool) : Dt → Dt → O Dt := fun d e => match d, e with
  | .int i, .int j => .ok (.bool (p i j))
  | _, _ => .bad
def hU (g : Int → Int) : Dt → O Dt := fun d => match d with
  | .int i => .ok (.int (g i))
  | _ => .bad
def hAdd := hI0 fun i j => i + j
def hSub := hI0 fun i j => i - j
def cMul (i j : Int) : Bool := decide (i.natAbs < 2 ^ 64) || decide (j.natAbs < 2 ^ 64)
def hMul := hI cMul fun i j => i * j
def cDiv (_ j : Int) : Bool := decide (0 < j) && decide (j.natAbs < 2 ^ 400)
def hDiv := hI cDiv fun i j => i / j
def cMod (_ j : Int) : Bool := decide (0 < j)
def hMod := hI cMod fun i j => i % j
def cPow (i j : Int) : Bool := decide (0 ≤ j) && decide (j ≤ 1000000) && decide (i.natAbs < 2 ^ 64)
def hPow := hI cPow fun i j => i ^ j.toNat
def cShr (_ j : Int) : Bool := decide (0 ≤ j)
def hShr := hI cShr fun i j => i / 2 ^ j.toNat
def hBand := hI0 fun i j => Builtin.bitAnd i j
def hLt := hB0 fun i j => decide (i < j)
def hLe := hB0 fun i j => decide (i ≤ j)
def hGt := hB0 fun i j => decide (j < i)
def hGe := hB0 fun i j => decide (j ≤ i)
def hEq : Dt → Dt → O Dt := fun d e => if SeqAt.shaped d && SeqAt.shaped e then .ok (.bool (PyData.eqv d e)) else .bad
def hNe : Dt → Dt → O Dt := fun d e => if SeqAt.shaped d && SeqAt.shaped e then .ok (.bool (!PyData.eqv d e)) else .bad
def hIsNot : Dt → Dt → O Dt := fun d e => match e with
  | .none => .ok (.bool (match d with | .none => false | _ => true))
  | _ => .bad
def hIn : Dt → Dt → O Dt := fun d e => match e with
  | .list ds => if SeqAt.shaped d && SeqAt.shaped e then .ok (.bool (ds.any fun z => PyData.eqv z d)) else .bad
  | .tuple ds => if SeqAt.shaped d && SeqAt.shaped e then .ok (.bool (ds.any fun z => PyData.eqv z d)) else .bad
  | _ => .bad
def hLen : List Dt → O Dt := fun ds => match ds with
  | [.list xs] => .ok (.int xs.length)
  | [.tuple xs] => .ok (.int xs.length)
  | [.str x] => if x.length ≤ 100000 then .ok (.int x.length) else .bad
  | _ => .bad
def hMin2 : List Dt → O Dt := fun ds => match ds with
  | [.int i, .int j] => .ok (.int (if j < i then j else i))
  | _ => .bad
def hMax2 : List Dt → O Dt := fun ds => match ds with
  | [.int i, .int j] => .ok (.int (if j > i then j else i))
  | _ => .bad
def hMin3 : List Dt → O Dt := fun ds => match ds with
  | [.int i, .int j, .int k] => .ok (.int (if j < i then (if k < j then k else j) else (if k < i then k else i)))
  | _ => .bad
def hBits : Dt → O Dt := fun d => match d with
  | .int i => .ok (.int (Builtin.Int.intBits i : Nat))
  | _ => .bad
def hInt1 : List Dt → O Dt := fun ds => match ds with
  | [.int i] => .ok (.int i)
  | [.bool k] => .ok (.int (if k then 1 else 0))
  | _ => .bad
def allB : List Dt → Option (List Bool)
  | [] => some []
  | .bool b :: r => (allB r).map (b :: ·)
  | _ => none
def allI : List Dt → Option (List Int)
  | [] => some []
  | .int b :: r => (allI r).map (b :: ·)
  | _ => none
def hAll : List Dt → O Dt := fun ds => match ds with
  | [.list xs] => match allB xs with
    | some bs => .ok (.bool (bs.all id))
    | none => .bad
  | _ => .bad
def hAny : List Dt → O Dt := fun ds => match ds with
  | [.list xs] => match allB xs with
    | some bs => .ok (.bool (bs.any id))
    | none => .bad
  | _ => .bad
section
variable {K : PySem.W.Frag}
theorem scl_I0 {g} : Scl2 (hI0 g) := fun d e => by cases d <;> cases e <;> first | exact .inr rfl | exact .inl ⟨_, rfl, rfl⟩
theorem scl_B0 {g} : Scl2 (hB0 g) := fun d e => by cases d <;> cases e <;> first | exact .inr rfl | exact .inl ⟨_, rfl, rfl⟩
theorem scl_I {C g} : Scl2 (hI C g) := fun d e => by
  cases d <;> cases e <;> first | exact .inr rfl | skip
  unfold hI
  simp only
  split
  · exact .inl ⟨_, rfl, rfl⟩
  · exact .inr rfl
theorem osc_I0 {g : Int → Int → Int} : OSc K (rI0 fun i j => .int (g i j)) (hI0 g) := fun H x y d e Q hx hy h => by
  cases hx <;> first | exact h.elim | skip
  cases hy <;> first | exact h.elim | skip
  exact ⟨_, _, rfl, rfl, h.2 _ (.int _)⟩
theorem osc_B0 {g : Int → Int → Bool} : OSc K (rI0 fun i j => .bl (g i j)) (hB0 g) := fun H x y d e Q hx hy h => by
  cases hx <;> first | exact h.elim | skip
  cases hy <;> first | exact h.elim | skip
  exact ⟨_, _, rfl, rfl, h.2 _ (.bl _)⟩
theorem osc_I {C : Int → Int → Bool} {C' : Int → Int → Prop} {g : Int → Int → Int} (hc : ∀ i j, C i j = true → C' i j) : OSc K (rI C' fun i j => .int (g i j)) (hI C g) := fun H x y d e Q hx hy h => by
  cases hx <;> first | exact h.elim | skip
  cases hy <;> first | exact h.elim | skip
  rename_i i j
  unfold hI at h
  simp only at h
  by_cases c : C i j = true
  · rw [if_pos c] at h
    exact ⟨_, _, rfl, rfl, hc _ _ c, h.2 _ (.int _)⟩
  · rw [if_neg c] at h
    exact h.elim
theorem usc_U {g : Int → Int} : USc K (rU fun i => .int (g i)) (hU g) := fun H x d Q hx h => by
  cases hx <;> first | exact h.elim | skip
  exact ⟨_, rfl, h.2 _ (.int _)⟩
theorem scl_U {g} : Scl1 (hU g) := fun d => by cases d <;> first | exact .inr rfl | exact .inl ⟨_, rfl, rfl⟩
theorem cMul_ok {i j : Int} (h : cMul i j = true) : CMul i j := by
  unfold cMul at h
  rw [Bool.or_eq_true, decide_eq_true_eq, decide_eq_true_eq] at h
  rcases h with h | h
  · exact .inl (by omega)
  · exact .inr (by omega)
theorem cDiv_ok {i j : Int} (h : cDiv i j = true) : CDivW i j := by
  unfold cDiv at h
  rw [Bool.and_eq_true, decide_eq_true_eq, decide_eq_true_eq] at h
  exact wide_div h.1 h.2 (by decide) (by decide)
theorem cMod_ok {i j : Int} (h : cMod i j = true) : 0 < j := by
  unfold cMod at h
  rw [decide_eq_true_eq] at h
  exact h
theorem cPow_ok {i j : Int} (h : cPow i j = true) : CPow i j := by
  unfold cPow at h
  rw [Bool.and_eq_true, Bool.and_eq_true, decide_eq_true_eq, decide_eq_true_eq, decide_eq_true_eq] at h
  exact ⟨h.1.1, h.1.2, h.2⟩
theorem scl_eq : Scl2 hEq := fun d e => by
  unfold hEq
  split
  · exact .inl ⟨_, rfl, rfl⟩
  · exact .inr rfl
theorem scl_ne : Scl2 hNe := fun d e => by
  unfold hNe
  split
  · exact .inl ⟨_, rfl, rfl⟩
  · exact .inr rfl
theorem osc_eq : OSc K (rEqD K) hEq := fun H x y d e Q hx hy h => by
  unfold hEq at h
  by_cases c : (SeqAt.shaped d && SeqAt.shaped e) = true
  · rw [if_pos c] at h
    rw [Bool.and_eq_true] at c
    exact ⟨d, e, hx.dp (shaped_lay c.1), hy.dp (shaped_lay c.2), c.1, c.2, h.2 _ (.bl _)⟩
  · rw [if_neg c] at h
    exact h.elim
theorem osc_ne : OSc K (rNeD K) hNe := fun H x y d e Q hx hy h => by
  unfold hNe at h
  by_cases c : (SeqAt.shaped d && SeqAt.shaped e) = true
  · rw [if_pos c] at h
    rw [Bool.and_eq_true] at c
    exact ⟨d, e, hx.dp (shaped_lay c.1), hy.dp (shaped_lay c.2), c.1, c.2, h.2 _ (.bl _)⟩
  · rw [if_neg c] at h
    exact h.elim
theorem scl_isNot : Scl2 hIsNot := fun d e => by cases e <;> first | exact .inr rfl | exact .inl ⟨_, rfl, rfl⟩
theorem osc_isNot : OSc K (fun x y H Q => y = .non ∧ Q (.bl (!decide (x = .non))) H) hIsNot := fun H x y d e Q hx hy h => by
  cases hy <;> first | exact h.elim | skip
  refine ⟨rfl, h.2 _ ?_⟩
  cases hx <;> exact .bl _
def rInDT (K : PySem.W.Frag) (neg : Bool) : R2 := fun x y H Q => ∃ d e ds, Dp K H x d ∧ Dp K H y e ∧ (e = .list ds ∨ e = .tuple ds) ∧ SeqAt.shaped d = true ∧ SeqAt.shaped e = true ∧ Q (.bl (if neg then !ds.any fun z => PyData.eqv z d else ds.any fun z => PyData.eqv z d)) H
theorem room_in_any {A : Around} {d e : PyData} {ds : List PyData} (sd : SeqAt.shaped d = true) (hu : A.units + 65 < cLine) : A.units + 1 + min (PyData.depthAll ds) d.depth < cLine := by
  have h1 := SeqAt.depth_of_shaped sd
  have h2 : min (PyData.depthAll ds) d.depth ≤ d.depth := Nat.min_le_right _ _
  omega
theorem op_inDT {X : Cx} (hu : X.A.units + 65 < cLine) : OpR X (compareOp .In) (rInDT X.K false) := by
  intro pins s σ H x y v u Q I rx ry h
  obtain ⟨d, e, ds, hd, he, ee, sd, se, q⟩ := h
  obtain ⟨as, r1⟩ := Dp.reads I d x v hd rx
  obtain ⟨bs, r2⟩ := Dp.reads I e y u he ry
  rcases ee with rfl | rfl
  · exact SeqAt.in_list_reads r2 r1 (SeqAt.canLay_of_shaped se) (SeqAt.canLay_of_shaped sd) (room_in_any (e := d) sd hu) ⟨.bl _, H, I, rfl, q⟩
  · exact SeqAt.in_tuple_reads r2 r1 (SeqAt.canLay_of_shaped se) (SeqAt.canLay_of_shaped sd) (room_in_any (e := d) sd hu) ⟨.bl _, H, I, rfl, q⟩
theorem scl_in : Scl2 hIn := fun d e => by
  unfold hIn
  cases e <;> first | exact .inr rfl | (simp only; split <;> first | exact .inl ⟨_, rfl, rfl⟩ | exact .inr rfl)
theorem osc_in : OSc K (rInDT K false) hIn := fun H x y d e Q hx hy h => by
  unfold hIn at h
  cases e <;> first | exact h.elim | skip
  all_goals rename_i ds
  · simp only at h
    generalize he : (PyData.list ds : PyData) = e at h hy
    by_cases c : (SeqAt.shaped d && SeqAt.shaped e) = true
    · rw [if_pos c] at h
      rw [Bool.and_eq_true] at c
      exact ⟨d, e, ds, hx.dp (shaped_lay c.1), hy.dp (shaped_lay c.2), .inl he.symm, c.1, c.2, h.2 _ (.bl _)⟩
    · rw [if_neg c] at h
      exact h.elim
  · simp only at h
    generalize he : (PyData.tuple ds : PyData) = e at h hy
    by_cases c : (SeqAt.shaped d && SeqAt.shaped e) = true
    · rw [if_pos c] at h
      rw [Bool.and_eq_true] at c
      exact ⟨d, e, ds, hx.dp (shaped_lay c.1), hy.dp (shaped_lay c.2), .inr he.symm, c.1, c.2, h.2 _ (.bl _)⟩
    · rw [if_neg c] at h
      exact h.elim
theorem Rp.lenV {F : Addr → Prop} {H : Hp} {v : V} {xs : List Dt} (h : Rp K F H v (.list xs)) : LenV K v H xs.length := by
  cases h with
  | lst h _ r => exact .inl ⟨_, .inl (.inl h), by first | exact r.length | exact r.length.symm⟩
theorem Rp.lenVt {F : Addr → Prop} {H : Hp} {v : V} {xs : List Dt} (h : Rp K F H v (.tuple xs)) : LenV K v H xs.length := by
  cases h with
  | tup h r => exact .inr ⟨_, h, by first | exact r.length | exact r.length.symm⟩
theorem csc_len : CSc K (fun xs H Q => ∃ x n, xs = [x] ∧ LenV K x H n ∧ Q (.int n) H) hLen := fun H xs ds Q hx h => by
  unfold hLen at h
  split at h
  · rename_i e
    split at e
    · cases hx with
      | cons h1 h2 =>
        cases h2
        cases e
        exact ⟨_, _, rfl, h1.lenV, h.2 _ (.int _)⟩
    · cases hx with
      | cons h1 h2 =>
        cases h2
        cases e
        exact ⟨_, _, rfl, h1.lenVt, h.2 _ (.int _)⟩
    · split at e
      · rename_i c
        cases e
        cases hx with
        | cons h1 h2 =>
          cases h2
          cases h1
          exact ⟨_, _, rfl, ⟨sz_le c, rfl⟩, h.2 _ (.int _)⟩
      · cases e
    · cases e
  · exact h.elim
theorem scl_len : SclA hLen := fun ds => by
  unfold hLen
  split
  · exact .inl ⟨_, rfl, rfl⟩
  · exact .inl ⟨_, rfl, rfl⟩
  · split
    · exact .inl ⟨_, rfl, rfl⟩
    · exact .inr rfl
  · exact .inr rfl
theorem rpInt {F : Addr → Prop} {H : Hp} {v : V} {i : Int} (h : Rp K F H v (.int i)) : v = .int i := by cases h; rfl
theorem rpBl {F : Addr → Prop} {H : Hp} {v : V} {i : Bool} (h : Rp K F H v (.bool i)) : v = .bl i := by cases h; rfl
theorem csc_min2 : CSc K (fun xs H Q => ∃ i j, xs = [.int i, .int j] ∧ Q (.int (if j < i then j else i)) H) hMin2 := fun H xs ds Q hx h => by
  unfold hMin2 at h
  split at h
  · rename_i e
    split at e
    · cases hx with
      | cons h1 h2 =>
        cases h2 with
        | cons h2 h3 =>
          cases h3
          cases e
          rw [rpInt h1, rpInt h2]
          exact ⟨_, _, rfl, h.2 _ (.int _)⟩
    · cases e
  · exact h.elim
theorem scl_min2 : SclA hMin2 := fun ds => by
  unfold hMin2
  split
  · exact .inl ⟨_, rfl, rfl⟩
  · exact .inr rfl
theorem csc_max2 : CSc K (fun xs H Q => ∃ i j, xs = [.int i, .int j] ∧ Q (.int (if j > i then j else i)) H) hMax2 := fun H xs ds Q hx h => by
  unfold hMax2 at h
  split at h
  · rename_i e
    split at e
    · cases hx with
      | cons h1 h2 =>
        cases h2 with
        | cons h2 h3 =>
          cases h3
          cases e
          rw [rpInt h1, rpInt h2]
          exact ⟨_, _, rfl, h.2 _ (.int _)⟩
    · cases e
  · exact h.elim
theorem scl_max2 : SclA hMax2 := fun ds => by
  unfold hMax2
  split
  · exact .inl ⟨_, rfl, rfl⟩
  · exact .inr rfl
theorem csc_int1 : CSc K (fun xs H Q => (∃ i, xs = [.int i] ∧ Q (.int i) H) ∨ ∃ k, xs = [.bl k] ∧ Q (.int (if k then 1 else 0)) H) hInt1 := fun H xs ds Q hx h => by
  unfold hInt1 at h
  split at h
  · rename_i e
    split at e
    · cases hx with
      | cons h1 h2 =>
        cases h2
        cases e
        rw [rpInt h1]
        exact .inl ⟨_, rfl, h.2 _ (.int _)⟩
    · cases hx with
      | cons h1 h2 =>
        cases h2
        cases e
        rw [rpBl h1]
        exact .inr ⟨_, rfl, h.2 _ (.int _)⟩
    · cases e
  · exact h.elim
theorem scl_int1 : SclA hInt1 := fun ds => by
  unfold hInt1
  split
  · exact .inl ⟨_, rfl, rfl⟩
  · exact .inl ⟨_, rfl, rfl⟩
  · exact .inr rfl
theorem rp_bools {F : Addr → Prop} {H : Hp} : ∀ {xs : List V} {ds : List Dt} {bs : List Bool}, RpA K F H xs ds → allB ds = some bs → xs = bs.map V.bl
  | _, _, _, .nil, e => by cases e; rfl
  | _, _, bs, .cons (d := d) h r, e => by
    cases h <;> first | (cases e; done) | skip
    rename_i b _ _
    unfold allB at e
    cases q : allB _ with
    | none => rw [q] at e; cases e
    | some cs =>
      rw [q] at e
      cases e
      rw [rp_bools r q]
      rfl
theorem rp_ints {F : Addr → Prop} {H : Hp} : ∀ {xs : List V} {ds : List Dt} {bs : List Int}, RpA K F H xs ds → allI ds = some bs → xs = bs.map V.int
  | _, _, _, .nil, e => by cases e; rfl
  | _, _, bs, .cons (d := d) h r, e => by
    cases h <;> first | (cases e; done) | skip
    rename_i b _ _
    unfold allI at e
    cases q : allI _ with
    | none => rw [q] at e; cases e
    | some cs =>
      rw [q] at e
      cases e
      rw [rp_ints r q]
      rfl
theorem Rp.sql {F : Addr → Prop} {H : Hp} {v : V} {ds : List Dt} (h : Rp K F H v (.list ds)) : ∃ a xs, v = .ref a ∧ SqL K H a xs ∧ RpA K F H xs ds := by
  cases h with
  | lst h _ r => exact ⟨_, _, rfl, .inl (.inl h), r⟩
theorem csc_all : CSc K (rAll K) hAll := fun H xs ds Q hx h => by
  unfold hAll at h
  split at h
  · rename_i e
    split at e
    · split at e
      · rename_i bs eb
        cases e
        cases hx with
        | cons h1 h2 =>
          cases h2
          obtain ⟨a, ys, rfl, hs, r⟩ := h1.sql
          rw [rp_bools r eb] at hs
          exact ⟨a, bs, rfl, hs, h.2 _ (.bl _)⟩
      · cases e
    · cases e
  · exact h.elim
theorem scl_all : SclA hAll := fun ds => by
  unfold hAll
  split
  · split
    · exact .inl ⟨_, rfl, rfl⟩
    · exact .inr rfl
  · exact .inr rfl
theorem scl_any : SclA hAny := fun ds => by
  unfold hAny
  split
  · split
    · exact .inl ⟨_, rfl, rfl⟩
    · exact .inr rfl
  · exact .inr rfl
end
section
variable {X : Cx} {K : PySem.W.Frag} {W : Wt} {Δ : List Kd} {a b c e : Expr} {es : List Expr} {ta tb tc te : TE} {tt tu : TT} {tA : TA} {ga gb gc g : Gd} {gt gu : List Dt → O Bool} {gA : List Dt → O (List Dt)} {k k1 k2 : Rk} {av fr av' fr' : Bool} {pos : Pos}
theorem x_var (i : Nat) {x : Str} (hk : Δ[i]? = some (.im fr) := by rfl) (hN : X.N[i]? = some x := by rfl) (hv : Vis X.env.scope x := by first | exact Or.inl rfl | exact Or.inr (Or.inl rfl) | exact Or.inr (Or.inr rfl)) (hd : (x == ("__debug__" : Str)) = false := by decide)
    (hcd : (x == ("__classdict__" : Str)) = false := by decide) (hK : X.K = K := by rfl) : PD X K W Δ (.Name x pos) (tVar i) (.v true fr) (gVar i) := ⟨pe_var hN hv hd hcd, hK, se_var hk⟩
theorem x_own (i : Nat) {x : Str} (hk : Δ[i]? = some (.own .l fr) := by rfl) (hN : X.N[i]? = some x := by rfl) (hv : Vis X.env.scope x := by first | exact Or.inl rfl | exact Or.inr (Or.inl rfl) | exact Or.inr (Or.inr rfl)) (hd : (x == ("__debug__" : Str)) = false := by decide)
    (hcd : (x == ("__classdict__" : Str)) = false := by decide) (hK : X.K = K := by rfl) : PD X K W Δ (.Name x pos) (tVar i) (.o fr) (gVar i) := ⟨pe_var hN hv hd hcd, hK, se_own hk⟩
theorem x_int {i : Int} {j} (hK : X.K = K := by rfl) : PD X K W Δ (.Constant (.int i) j pos) (tC (.int i)) (.v true true) (gC (.int i)) := ⟨pe_int, hK, se_int⟩
theorem x_bl {i : Bool} {j} (hK : X.K = K := by rfl) : PD X K W Δ (.Constant (.bool i) j pos) (tC (.bl i)) (.v true true) (gC (.bool i)) := ⟨pe_bl, hK, se_bl⟩
theorem x_non {j} (hK : X.K = K := by rfl) : PD X K W Δ (.Constant .none j pos) (tC .non) (.v true true) (gC .none) := ⟨pe_non, hK, se_non⟩
theorem x_str {x : Str} {j} (hK : X.K = K := by rfl) : PD X K W Δ (.Constant (.str x) j pos) (tC (.str x)) (.v true true) (gC (.str x)) := ⟨pe_str, hK, se_str⟩
theorem x_glob {x : Str} {v : V} {u : Value} {d : Dt} (hm : X.mg x = some u) (r : RelV v u) (hr : Rp K (fun _ => False) (fun _ => none) v d) (s : scl d = true := by rfl) (hg : Gl X x := by rfl) (hd : (x == ("__debug__" : Str)) = false := by decide) (hK : X.K = K := by rfl) :
    PD X K W Δ (.Name x pos) (tC v) (.v true true) (gC d) := ⟨pe_glob hg hm r hd, hK, se_c hr s⟩
theorem PD.wk (h : PD X K W Δ e te (.v av fr) g) (h1 : av' = true → av = true := by decide) (h2 : fr' = true → fr = true := by decide) : PD X K W Δ e te (.v av' fr') g := ⟨h.pe, h.hK, h.se.wk h1 h2⟩
theorem PD.ov (h : PD X K W Δ e te (.o fr) g) : PD X K W Δ e te (.v false fr) g := ⟨h.pe, h.hK, h.se.ov⟩
theorem PD.nv (h : PD X K W Δ e te (.new .l fr) g) : PD X K W Δ e te (.v true fr) g := ⟨h.pe, h.hK, h.se.nv⟩
theorem PD.no (h : PD X K W Δ e te (.new .l fr) g) : PD X K W Δ e te (.o fr) g := ⟨h.pe, h.hK, h.se.no⟩
theorem PD.pur (h : PD X K W Δ e te (.v av fr) g) : PD X K W Δ e te (.v true true) (gPur g) := ⟨h.pe, h.hK, h.se.pur⟩
theorem PD.purN (h : PD X K W Δ e te (.new .l fr) g) : PD X K W Δ e te (.new .l true) (gPurN g) := ⟨h.pe, h.hK, h.se.purN⟩
theorem x_add (ha : PD X K W Δ a ta (.v av fr) ga) (hb : PD X K W Δ b tb (.v av' fr') gb) : PD X K W Δ (.BinOp a .Add b pos) (tOp (rI0 fun i j => .int (i + j)) ta tb) (.v true true) (gOp hAdd ga gb) := ⟨pe_op op_add ha.pe hb.pe, ha.hK, se_op scl_I0 osc_I0 ha.se hb.se⟩
theorem x_sub (ha : PD X K W Δ a ta (.v av fr) ga) (hb : PD X K W Δ b tb (.v av' fr') gb) : PD X K W Δ (.BinOp a .Sub b pos) (tOp (rI0 fun i j => .int (i - j)) ta tb) (.v true true) (gOp hSub ga gb) := ⟨pe_op op_sub ha.pe hb.pe, ha.hK, se_op scl_I0 osc_I0 ha.se hb.se⟩
theorem x_mul (ha : PD X K W Δ a ta (.v av fr) ga) (hb : PD X K W Δ b tb (.v av' fr') gb) : PD X K W Δ (.BinOp a .Mult b pos) (tOp (rI CMul fun i j => .int (i * j)) ta tb) (.v true true) (gOp hMul ga gb) := ⟨pe_op op_mul ha.pe hb.pe, ha.hK, se_op scl_I (osc_I fun _ _ => cMul_ok) ha.se hb.se⟩
theorem x_div (ha : PD X K W Δ a ta (.v av fr) ga) (hb : PD X K W Δ b tb (.v av' fr') gb) : PD X K W Δ (.BinOp a .FloorDiv b pos) (tOp (rI CDivW fun i j => .int (i / j)) ta tb) (.v true true) (gOp hDiv ga gb) := ⟨pe_op op_fdivW ha.pe hb.pe, ha.hK, se_op scl_I (osc_I fun _ _ => cDiv_ok) ha.se hb.se⟩
theorem x_mod (ha : PD X K W Δ a ta (.v av fr) ga) (hb : PD X K W Δ b tb (.v av' fr') gb) : PD X K W Δ (.BinOp a .Mod b pos) (tOp (rI (fun _ j => 0 < j) fun i j => .int (i % j)) ta tb) (.v true true) (gOp hMod ga gb) := ⟨pe_op op_mod ha.pe hb.pe, ha.hK, se_op scl_I (osc_I fun _ _ => cMod_ok) ha.se hb.se⟩
theorem x_pow (ha : PD X K W Δ a ta (.v av fr) ga) (hb : PD X K W Δ b tb (.v av' fr') gb) : PD X K W Δ (.BinOp a .Pow b pos) (tOp (rI CPow fun i j => .int (i ^ j.toNat)) ta tb) (.v true true) (gOp hPow ga gb) := ⟨pe_op op_pow ha.pe hb.pe, ha.hK, se_op scl_I (osc_I fun _ _ => cPow_ok) ha.se hb.se⟩
theorem x_neg (ha : PD X K W Δ a ta (.v av fr) ga) : PD X K W Δ (.UnaryOp .USub a pos) (tUn (rU fun i => .int (-i)) ta) (.v true true) (gUn (hU fun i => -i) ga) := ⟨pe_un un_neg ha.pe, ha.hK, se_un scl_U usc_U ha.se⟩
theorem c_val (h : PD X K W Δ e te (.v av fr) g) (he : ∀ whole, isTrue e X.env whole = (do let v ← whole; standAt e.pos; holding [v] (truthy v)) := by intro _; rfl) : TD X K W Δ e (tB te) (gTest g) := ⟨pt_val h.pe he, h.hK, st_B h.se⟩
theorem c_not (h : TD X K W Δ a tt gt) : TD X K W Δ (.UnaryOp .Not a pos) (tNot tt) (gNot gt) := ⟨pt_not h.pt, h.hK, st_not h.st⟩
theorem w_and1 (h : TD X K W Δ a tt gt) : WD X K W Δ (.BoolOp .And [a] pos) tt gt := ⟨pw_and1 h.pt, h.hK, h.st⟩
theorem w_or1 (h : TD X K W Δ a tt gt) : WD X K W Δ (.BoolOp .Or [a] pos) tt gt := ⟨pw_or1 h.pt, h.hK, h.st⟩
theorem w_and (h : TD X K W Δ a tt gt) (h2 : WD X K W Δ (.BoolOp .And (b :: es) pos) tu gu) : WD X K W Δ (.BoolOp .And (a :: b :: es) pos) (tAnd tt tu) (gAnd gt gu) := ⟨pw_and h.pt h2.pw, h.hK, st_and h.st h2.st⟩
theorem w_or (h : TD X K W Δ a tt gt) (h2 : WD X K W Δ (.BoolOp .Or (b :: es) pos) tu gu) : WD X K W Δ (.BoolOp .Or (a :: b :: es) pos) (tOr tt tu) (gOr gt gu) := ⟨pw_or h.pt h2.pw, h.hK, st_or h.st h2.st⟩
theorem c_w (h : WD X K W Δ e tt gt) : TD X K W Δ e tt gt := ⟨h.pw.pt, h.hK, h.st⟩
theorem x_ifE (h : TD X K W Δ c tt gt) (ha : PD X K W Δ a ta k ga) (hb : PD X K W Δ b tb k gb) : PD X K W Δ (.IfExp c a b pos) (tIf tt ta tb) k (gIf gt ga gb) := ⟨pe_ifExp h.pt ha.pe hb.pe, h.hK, se_if h.st ha.se hb.se⟩
theorem x_one {op} (h : PD X K W Δ a ta k ga) : PD X K W Δ (.BoolOp op [a] pos) ta k ga := ⟨pe_one h.pe, h.hK, h.se⟩
theorem x_and (ha : PD X K W Δ a ta (.v av fr) ga) (hb : PD X K W Δ (.BoolOp .And (b :: es) pos) tb (.v true true) gb) : PD X K W Δ (.BoolOp .And (a :: b :: es) pos) (tAndV ta tb) (.v true true) (gAndV ga gb) := ⟨pe_and ha.pe hb.pe, ha.hK, se_andV ha.se hb.se⟩
theorem x_or (ha : PD X K W Δ a ta (.v av fr) ga) (hb : PD X K W Δ (.BoolOp .Or (b :: es) pos) tb (.v true true) gb) : PD X K W Δ (.BoolOp .Or (a :: b :: es) pos) (tOrV ta tb) (.v true true) (gOrV ga gb) := ⟨pe_or ha.pe hb.pe, ha.hK, se_orV ha.se hb.se⟩
theorem x_not (ha : PD X K W Δ a ta (.v av fr) ga) : PD X K W Δ (.UnaryOp .Not a pos) (tNotV ta) (.v true true) (gNotV ga) := ⟨pe_not ha.pe, ha.hK, se_notV ha.se⟩
theorem a_nil (hK : X.K = K := by rfl) : AD X K W Δ [] tNil true true gNil := ⟨pa_nil, hK, sa_nil⟩
theorem a_cons (ha : PD X K W Δ a ta (.v av fr) ga) (hr : AD X K W Δ es tA av' fr' gA) (hs : starEach (a :: es) X.env = (false, eval a X.env) :: starEach es X.env := by rfl) : AD X K W Δ (a :: es) (tCons ta tA) (av && av') (fr && fr') (gCons ga gA) := ⟨pa_cons ha.pe hr.pa hs, ha.hK, sa_cons ha.se hr.sa⟩
theorem AD.wk (h : AD X K W Δ es tA av fr gA) (h1 : av' = true → av = true := by decide) (h2 : fr' = true → fr = true := by decide) : AD X K W Δ es tA av' fr' gA := ⟨h.pa, h.hK, h.sa.wk h1 h2⟩
theorem x_tup {x1} (h : AD X K W Δ es tA av fr gA) : PD X K W Δ (.Tuple es x1 pos) (tTup tA) (.v av fr) (gTup gA) := ⟨pe_tup h.pa, h.hK, se_tup h.sa⟩
theorem x_lst (h : AD X K W Δ es tA true fr gA) : PD X K W Δ (.List es pos) (tLst tA) (.new .l fr) (gLst gA) := ⟨pe_lst h.pa, h.hK, se_lst h.sa⟩
theorem x_len {x : Str} {p : Pos} (hm : X.mg x = none) (h : AD X K W Δ (e :: es) tA av fr gA) (hv : bootBuiltins x = some (.builtin "len") := by decide +kernel) (hg : Gl X x := by rfl) (hn : x ≠ "__name__" := by decide) (hdb : (x == ("__debug__" : Str)) = false := by decide)
    (he : starEach (e :: es) X.env = (false, eval e X.env) :: starEach es X.env := by rfl) (hpl : (backTo pos (starEach es X.env)).any (·.1) = false := by rfl) :
    PD X K W Δ (.Call (.Name x p) (e :: es) [] pos) (tCB (fun xs H Q => ∃ x n, xs = [x] ∧ LenV K x H n ∧ Q (.int n) H) tA) (.v true true) (gCB hLen gA) :=
  ⟨pe_callB (by have q := call_len (X := X); rw [h.hK] at q; exact q) hg hm hv h.pa hn hdb he hpl, h.hK, se_cb scl_len csc_len h.sa⟩
theorem x_min2 {x : Str} {p : Pos} (hm : X.mg x = none) (h : AD X K W Δ (e :: es) tA av fr gA) (hc : X.calm = true := by rfl) (hv : bootBuiltins x = some (.builtin "min") := by decide +kernel) (hg : Gl X x := by rfl) (hn : x ≠ "__name__" := by decide) (hdb : (x == ("__debug__" : Str)) = false := by decide)
    (he : starEach (e :: es) X.env = (false, eval e X.env) :: starEach es X.env := by rfl) (hpl : (backTo pos (starEach es X.env)).any (·.1) = false := by rfl) :
    PD X K W Δ (.Call (.Name x p) (e :: es) [] pos) (tCB (fun xs H Q => ∃ i j, xs = [.int i, .int j] ∧ Q (.int (if j < i then j else i)) H) tA) (.v true true) (gCB hMin2 gA) := ⟨pe_callB (call_min2 hc) hg hm hv h.pa hn hdb he hpl, h.hK, se_cb scl_min2 csc_min2 h.sa⟩
theorem x_max2 {x : Str} {p : Pos} (hm : X.mg x = none) (h : AD X K W Δ (e :: es) tA av fr gA) (hc : X.calm = true := by rfl) (hv : bootBuiltins x = some (.builtin "max") := by decide +kernel) (hg : Gl X x := by rfl) (hn : x ≠ "__name__" := by decide) (hdb : (x == ("__debug__" : Str)) = false := by decide)
    (he : starEach (e :: es) X.env = (false, eval e X.env) :: starEach es X.env := by rfl) (hpl : (backTo pos (starEach es X.env)).any (·.1) = false := by rfl) :
    PD X K W Δ (.Call (.Name x p) (e :: es) [] pos) (tCB (fun xs H Q => ∃ i j, xs = [.int i, .int j] ∧ Q (.int (if j > i then j else i)) H) tA) (.v true true) (gCB hMax2 gA) := ⟨pe_callB (call_max2 hc) hg hm hv h.pa hn hdb he hpl, h.hK, se_cb scl_max2 csc_max2 h.sa⟩
theorem x_int1 {x : Str} {p : Pos} (hm : X.mg x = none) (h : AD X K W Δ (e :: es) tA av fr gA) (hv : bootBuiltins x = some (.type "int") := by decide +kernel) (hg : Gl X x := by rfl) (hn : x ≠ "__name__" := by decide) (hdb : (x == ("__debug__" : Str)) = false := by decide)
    (he : starEach (e :: es) X.env = (false, eval e X.env) :: starEach es X.env := by rfl) (hpl : (backTo pos (starEach es X.env)).any (·.1) = false := by rfl) :
    PD X K W Δ (.Call (.Name x p) (e :: es) [] pos) (tCB (fun xs H Q => (∃ i, xs = [.int i] ∧ Q (.int i) H) ∨ ∃ k, xs = [.bl k] ∧ Q (.int (if k then 1 else 0)) H) tA) (.v true true) (gCB hInt1 gA) := ⟨pe_callTy call_int1 hg hm hv h.pa hn hdb he hpl, h.hK, se_cb scl_int1 csc_int1 h.sa⟩
theorem x_all {x : Str} {p : Pos} (hm : X.mg x = none) (h : AD X K W Δ (e :: es) tA av fr gA) (hc : X.calm = true := by rfl) (hv : bootBuiltins x = some (.builtin "all") := by decide +kernel) (hg : Gl X x := by rfl) (hn : x ≠ "__name__" := by decide) (hdb : (x == ("__debug__" : Str)) = false := by decide)
    (he : starEach (e :: es) X.env = (false, eval e X.env) :: starEach es X.env := by rfl) (hpl : (backTo pos (starEach es X.env)).any (·.1) = false := by rfl) :
    PD X K W Δ (.Call (.Name x p) (e :: es) [] pos) (tCB (rAll K) tA) (.v true true) (gCB hAll gA) := ⟨pe_callB (by have q := cr_all (X := X) hc; rw [h.hK] at q; exact q) hg hm hv h.pa hn hdb he hpl, h.hK, se_cb scl_all csc_all h.sa⟩
end
end Sim
end T_SimC
section T_SimD
set_option Elab.async false
set_option linter.all false
set_option maxRecDepth 100000
namespace Sim
open PySem PySem.Spec L2
open PyProof.Rows hiding St
def cutD (xs : List Dt) (lo hi : Option Int) : List Dt := (xs.drop (HT.sIx xs.length 0 lo)).take (HT.sIx xs.length xs.length hi - HT.sIx xs.length 0 lo)
def hIx : Dt → Dt → O Dt := fun d e => match d, e with
  | .list ds, .int i => match atI ds i with
    | some z => .ok z
    | none => .bad
  | .tuple ds, .int i => match atI ds i with
    | some z => .ok z
    | none => .bad
  | .str z, .int i => if z.length ≤ 100000 then (match atI z.cps.toList i with
    | some c => .ok (.str ⟨#[c]⟩)
    | none => .bad) else .bad
  | _, _ => .bad
def hSl : Dt → Option Int → Option Int → O Dt := fun d lo hi => match d with
  | .list ds => .ok (.list (cutD ds lo hi))
  | _ => .bad
def hSlT : Dt → Option Int → Option Int → O Dt := fun d lo hi => match d with
  | .tuple ds => .ok (.tuple (cutD ds lo hi))
  | _ => .bad
def gSl (h : Dt → Option Int → Option Int → O Dt) (g : Gd) (gl gh : List Dt → O (Option Int)) : Gd := fun ρ => bnd (g ρ) fun d => bnd (gl ρ) fun lo => bnd (gh ρ) fun hi => h d lo hi
def gNoPart : List Dt → O (Option Int) := fun _ => .ok none
def gPart (g : Gd) : List Dt → O (Option Int) := fun ρ => bnd (g ρ) fun d => match d with
  | .int i => .ok (some i)
  | _ => .bad
def hCat : Dt → Dt → O Dt := fun d e => match d, e with
  | .list xs, .list ys => if xs.length + ys.length ≤ 100000 then .ok (.list (xs ++ ys)) else .bad
  | _, _ => .bad
def hListOf : Dt → O Dt := fun d => match d with
  | .list xs => .ok (.list xs)
  | .tuple xs => .ok (.list xs)
  | _ => .bad
def hTupOf : Dt → O Dt := fun d => match d with
  | .list xs => .ok (.tuple xs)
  | .tuple xs => .ok (.tuple xs)
  | _ => .bad
def one (h : Dt → O Dt) : List Dt → O Dt := fun ds => match ds with
  | [d] => h d
  | _ => .bad
section
variable {K : PySem.W.Frag} {W : Wt} {Δ : List Kd} {F : Addr → Prop} {H : Hp}
theorem RpA.ixN {vs : List V} {ds : List Dt} {i : Int} {z : Dt} (r : RpA K F H vs ds) (h : atI ds i = some z) : ∃ v, atI vs i = some v ∧ Rp K F H v z := by
  unfold atI at h ⊢
  rw [r.length]
  cases e : L2.ixN ds.length i with
  | none => rw [e] at h; cases h
  | some j =>
    rw [e] at h
    exact r.get' h
theorem Rp.sqt {v : V} {ds : List Dt} (h : Rp K F H v (.tuple ds)) : ∃ a xs, v = .ref a ∧ SqT K H a xs ∧ RpA K F H xs ds := by
  cases h with
  | tup h r => exact ⟨_, _, rfl, h, r⟩
theorem RpA.cut {vs : List V} {ds : List Dt} {lo hi : Option Int} (r : RpA K F H vs ds) : RpA K F H (cutV vs lo hi) (cutD ds lo hi) := by
  unfold cutV cutD
  rw [r.length]
  exact (r.drop _).take _
theorem se_ix {ta tb : TE} {ga gb : Gd} {av fr av' fr' : Bool} (ha : SE K W Δ ta (.v av fr) ga) (hb : SE K W Δ tb (.v av' fr') gb) : SE K W Δ (tOp (rIx K) ta tb) (.v av fr) (gOp hIx ga gb) := fun f ρ σ H Q R q => by
  refine ha f ρ σ H _ R ?_
  unfold gOp at q
  cases e1 : ga ρ with
  | bad => rw [e1] at q; exact q
  | ex z => rw [e1] at q; exact q
  | ok d =>
    rw [e1, bnd_ok] at q
    intro v H1 s1 x1
    refine hb f ρ σ H1 _ (R.mono s1) ?_
    cases e2 : gb ρ with
    | bad => rw [e2] at q; exact q
    | ex z => rw [e2] at q; exact fun H' s => q H' (s1.trans s)
    | ok d2 =>
      rw [e2, bnd_ok] at q
      intro v2 H2 s2 x2
      unfold hIx at q
      split at q
      · split at q
        · rename_i z hz
          obtain ⟨a, xs, rfl, hs, r⟩ := (x1.same s2).sql
          obtain ⟨w, hw, rw'⟩ := r.ixN hz
          rw [rpInt x2]
          exact .inl ⟨a, xs, _, w, rfl, rfl, hs, hw, q w H2 (s1.trans s2) rw'⟩
        · exact q.elim
      · split at q
        · rename_i z hz
          obtain ⟨a, xs, rfl, hs, r⟩ := (x1.same s2).sqt
          obtain ⟨w, hw, rw'⟩ := r.ixN hz
          rw [rpInt x2]
          exact .inr (.inl ⟨a, xs, _, w, rfl, rfl, hs, hw, q w H2 (s1.trans s2) rw'⟩)
        · exact q.elim
      · split at q
        · rename_i hl
          split at q
          · rename_i c hc
            rw [rpInt x2]
            cases x1
            exact .inr (.inr ⟨_, _, c, rfl, rfl, sz_le hl, hc, q _ H2 (s1.trans s2) (.str _)⟩)
          · exact q.elim
        · exact q.elim
      · exact q.elim
theorem se_ixO {ta tb : TE} {ga gb : Gd} {fr av' fr' : Bool} (ha : SE K W Δ ta (.o fr) ga) (hb : SE K W Δ tb (.v av' fr') gb) : SE K W Δ (tOp (rIx K) ta tb) (.v true fr) (gOp hIx ga gb) := fun f ρ σ H Q R q => by
  refine ha f ρ σ H _ R ?_
  unfold gOp at q
  cases e1 : ga ρ with
  | bad => rw [e1] at q; exact q
  | ex z => rw [e1] at q; exact q
  | ok d =>
    rw [e1, bnd_ok] at q
    intro p H1 vs ds ed s1 hp gp x1
    subst ed
    refine hb f ρ σ H1 _ (R.mono s1) ?_
    cases e2 : gb ρ with
    | bad => rw [e2] at q; exact q
    | ex z => rw [e2] at q; exact fun H' s => q H' (s1.trans s)
    | ok d2 =>
      rw [e2, bnd_ok] at q
      intro v2 H2 s2 x2
      unfold hIx at q
      cases d2 with
      | int i =>
        simp only at q
        cases hz : atI ds i with
        | some z =>
          rw [hz] at q
          obtain ⟨w, hw, rw'⟩ := (x1.same s2).ixN hz
          rw [rpInt x2]
          exact .inl ⟨p, vs, _, w, rfl, rfl, .inl (.inl (s2 _ _ hp)), hw, q w H2 (s1.trans s2) rw'⟩
        | none => rw [hz] at q; exact q.elim
      | _ => exact q.elim
abbrev TOp := L2.St → Hp → (Option Int → Hp → Prop) → Prop
def SO (K : PySem.W.Frag) (W : Wt) (Δ : List Kd) (to : TOp) (g : List Dt → O (Option Int)) : Prop := ∀ f ρ σ H Q, R K f Δ ρ σ H →
  (match g ρ with | .bad => False | .ex e => ∀ H', Same H H' → W e σ H' | .ok o => ∀ H', Same H H' → Q o H') → to σ H Q
theorem so_none : SO K W Δ tNoPart gNoPart := fun f ρ σ H Q R q => q H (Same.refl H)
theorem so_some {te : TE} {g : Gd} {av fr : Bool} (h : SE K W Δ te (.v av fr) g) : SO K W Δ (tPart te) (gPart g) := fun f ρ σ H Q R q => by
  refine h f ρ σ H _ R ?_
  unfold gPart at q
  cases e1 : g ρ with
  | bad => rw [e1] at q; exact q
  | ex z => rw [e1] at q; exact q
  | ok d =>
    rw [e1, bnd_ok] at q
    intro v H1 s1 x1
    cases d with
    | int i => rw [rpInt x1]; exact ⟨i, rfl, q H1 s1⟩
    | _ => exact q.elim
theorem cut_whole {α : Type} {n : Nat} {xs : List α} (hn : xs.length = n) {lo hi : Option Int} (h : HT.sIx n 0 lo = 0 ∧ HT.sIx n n hi = n) : (xs.drop (HT.sIx n 0 lo)).take (HT.sIx n n hi - HT.sIx n 0 lo) = xs := by
  rw [h.1, h.2, List.drop_zero, Nat.sub_zero]
  exact List.take_of_length_le (Nat.le_of_eq hn)
theorem se_slT {te : TE} {tl th : TOp} {g : Gd} {gl gh : List Dt → O (Option Int)} {av fr : Bool} (h : SE K W Δ te (.v av fr) g) (h1 : SO K W Δ tl gl) (h2 : SO K W Δ th gh) : SE K W Δ (tSl (rSlA K) te tl th) (.v av fr) (gSl hSlT g gl gh) := fun f ρ σ H Q R q => by
  refine h f ρ σ H _ R ?_
  unfold gSl at q
  cases e1 : g ρ with
  | bad => rw [e1] at q; exact q
  | ex z => rw [e1] at q; exact q
  | ok d =>
    rw [e1, bnd_ok] at q
    intro v H1 s1 x1
    refine h1 f ρ σ H1 _ (R.mono s1) ?_
    cases e2 : gl ρ with
    | bad => rw [e2] at q; exact q
    | ex z => rw [e2] at q; exact fun H' s => q H' (s1.trans s)
    | ok lo =>
      rw [e2, bnd_ok] at q
      intro H2 s2
      refine h2 f ρ σ H2 _ ((R.mono s1).mono s2) ?_
      cases e3 : gh ρ with
      | bad => rw [e3] at q; exact q
      | ex z => rw [e3] at q; exact fun H' s => q H' ((s1.trans s2).trans s)
      | ok hi =>
        rw [e3, bnd_ok] at q
        intro H3 s3
        cases d with
        | tuple ds =>
          obtain ⟨a, xs, rfl, hs, r⟩ := (x1.same (s2.trans s3)).sqt
          have s123 := (s1.trans s2).trans s3
          refine ⟨a, xs, rfl, hs, fun w => ?_, fun w p np => ?_⟩
          · refine q _ H3 s123 ?_
            have e : cutD ds lo hi = ds := by
              unfold cutD
              rw [← r.length]
              exact cut_whole (by rw [r.length]) w
            rw [e]
            exact .tup hs r
          · exact q _ _ (s123.trans (same_upd np)) (.tup (.inl (.inl upd_same)) (r.same (same_upd np)).cut)
        | _ => exact q.elim
def rCatS (K : PySem.W.Frag) : R2 := fun x y H Q => ∃ l b xs zs, x = .ref l ∧ y = .ref b ∧ SqL K H l xs ∧ SqL K H b zs ∧ xs.length + zs.length ≤ sizeLine ∧ ∀ p, H p = none → Q (.ref p) (upd H p (.lst (xs ++ zs)))
theorem op_catS {X : Cx} : OpR X (binaryOp .Add) (rCatS X.K) := by
  intro pins s σ H x y v u Q I rx ry h
  obtain ⟨l, b, xs, zs, rfl, rfl, hH, hB, hz, q⟩ := h
  cases rx
  cases ry
  obtain ⟨its, r, ⟨⟨cls, dd, data, sl⟩, n, ho, hc, hd, hdt⟩, hl⟩ := I.list hH
  obtain ⟨its2, r2, ⟨⟨cls2, dd2, data2, sl2⟩, n2, ho2, hc2, hd2, hdt2⟩, hl2⟩ := I.list hB
  simp only at hc hdt hc2 hdt2
  subst hc hdt hc2 hdt2
  have ea : its.toArray ++ its2.toArray = (its ++ its2).toArray := by simp
  have e1 := r.length
  have e2 := r2.length
  refine concat_meets ⟨_, ho, rfl⟩ ⟨_, ho2, rfl⟩ noFill_list_add seq_list_add PySem.F.slot_list_add PySem.F.entry_list_add (PySem.F.args_list_add_2 _ _) (PyProof.Rows.list_addW l b its.toArray its2.toArray n n2 dd dd2 sl sl2 (by rw [List.size_toArray, List.size_toArray]; omega)) ⟨ho, ho2, ?_⟩
  rw [ea]
  exact ⟨.ref _, _, I.lnew (t' := s.toks) (r.append r2) (by rw [List.length_append]; omega), rfl, q _ I.fresh⟩
theorem se_cat {ta tb : TE} {ga gb : Gd} {fr fr' : Bool} (ha : SE K W Δ ta (.v true fr) ga) (hb : SE K W Δ tb (.v true fr') gb) : SE K W Δ (tOp (rCatS K) ta tb) (.new .l (fr && fr')) (gOp hCat ga gb) := fun f ρ σ H Q R q => by
  refine ha f ρ σ H _ R ?_
  unfold gOp at q
  cases e1 : ga ρ with
  | bad => rw [e1] at q; exact q
  | ex z => rw [e1] at q; exact q
  | ok d =>
    rw [e1, bnd_ok] at q
    intro v H1 s1 x1
    refine hb f ρ σ H1 _ (R.mono s1) ?_
    cases e2 : gb ρ with
    | bad => rw [e2] at q; exact q
    | ex z => rw [e2] at q; exact fun H' s => q H' (s1.trans s)
    | ok d2 =>
      rw [e2, bnd_ok] at q
      intro v2 H2 s2 x2
      unfold hCat at q
      split at q
      · split at q
        · rename_i hz
          obtain ⟨a, xs, rfl, hs, r⟩ := (x1.same s2).sql
          obtain ⟨b, ys, rfl, hs2, r2⟩ := x2.sql
          refine ⟨a, b, xs, ys, rfl, rfl, hs, hs2, sz_le (by rw [r.length, r2.length]; exact hz), fun p np => ?_⟩
          have s12 := s1.trans s2
          refine q p _ (s12.free np) (s12.trans (same_upd np)) ⟨_, _, rfl, upd_same, ?_⟩
          exact (r.mono (same_upd np) fun a y z => ⟨y.weak id (fun h => (Bool.and_eq_true_iff.mp h).1), fun e => z (e ▸ np)⟩).append
            (r2.mono (same_upd np) fun a y z => ⟨y.weak id (fun h => (Bool.and_eq_true_iff.mp h).2), fun e => z (e ▸ np)⟩)
        · exact q.elim
      · exact q.elim
theorem one_eq {h : Dt → O Dt} {ds : List Dt} : (∃ d, ds = [d] ∧ one h ds = h d) ∨ one h ds = .bad := by
  match ds with
  | [] => exact .inr rfl
  | [d] => exact .inl ⟨d, rfl, rfl⟩
  | _ :: _ :: _ => exact .inr rfl
def rListOf (K : PySem.W.Frag) : List V → Hp → VK → Prop := fun xs H Q => ∃ p ys, xs = [.ref p] ∧ (SqL K H p ys ∨ SqT K H p ys) ∧ ∀ l, H l = none → Q (.ref l) (upd H l (.lst ys))
theorem se_listOf {tA : TA} {gA : List Dt → O (List Dt)} {fr : Bool} (ha : SA K W Δ tA true fr gA) : SE K W Δ (tCB (rListOf K) tA) (.new .l fr) (gCB (one hListOf) gA) := fun f ρ σ H Q R q => by
  refine ha f ρ σ H _ R ?_
  unfold gCB at q
  cases e1 : gA ρ with
  | bad => rw [e1] at q; exact q
  | ex z => rw [e1] at q; exact q
  | ok ds =>
    rw [e1, bnd_ok] at q
    intro vs H1 s1 x1
    rcases one_eq (h := hListOf) (ds := ds) with ⟨d, rfl, e⟩ | e
    · rw [e] at q
      cases x1 with
      | cons x1 xr =>
        cases xr
        cases d with
        | list es =>
          obtain ⟨a, xs, rfl, hs, r⟩ := x1.sql
          exact ⟨a, xs, rfl, .inl hs, fun l nl => q l _ (s1.free nl) (s1.trans (same_upd nl)) ⟨_, _, rfl, upd_same, r.mono (same_upd nl) fun a y z => ⟨y, fun e => z (e ▸ nl)⟩⟩⟩
        | tuple es =>
          obtain ⟨a, xs, rfl, hs, r⟩ := x1.sqt
          exact ⟨a, xs, rfl, .inr hs, fun l nl => q l _ (s1.free nl) (s1.trans (same_upd nl)) ⟨_, _, rfl, upd_same, r.mono (same_upd nl) fun a y z => ⟨y, fun e => z (e ▸ nl)⟩⟩⟩
        | _ => exact q.elim
    · rw [e] at q
      exact q.elim
theorem rpA_ints {F : Addr → Prop} {H : Hp} : ∀ ns : List Int, RpA K F H (ns.map V.int) (ns.map PyData.int)
  | [] => .nil
  | n :: ns => .cons (.int n) (rpA_ints ns)
end
def Sc (K : PySem.W.Frag) (J : It) (pf : Option (Addr × HO)) (vs : List V) (es ds : List Dt) : Prop :=
  Walk J ds.length (fun H => (∀ q, pf = some q → H q.1 = some q.2) ∧ ∃ F, RpA K F H vs es) (fun i H x H' => Same H H' ∧ ∀ F, RpA K F H vs es → ∃ e, ds[i]? = some e ∧ Rp K F H' x e)
def SI (K : PySem.W.Frag) (W : Wt) (Δ : List Kd) (wi : TI) (b fr : Bool) (g : List Dt → O (List Dt)) : Prop := ∀ f ρ σ H Rk, R K f Δ ρ σ H →
  (match g ρ with
    | .bad => False
    | .ex e => ∀ H', Same H H' → W e σ H'
    | .ok ds => ∀ J H' pf vs es, Same H H' → (b = false → pf = none) → (∀ q, pf = some q → H' q.1 = some q.2) → RpA K (FM f Δ σ true fr) H' vs es → Sc K J pf vs es ds → Rk J H') → wi σ H Rk
structure ID (X : Cx) (K : PySem.W.Frag) (W : Wt) (Δ : List Kd) (tg iter : Expr) (wi : TI) (b fr : Bool) (g : List Dt → O (List Dt)) : Prop where
  pi : PI X tg iter wi
  hK : X.K = K
  si : SI K W Δ wi b fr g
def gSeq (g : Gd) : List Dt → O (List Dt) := fun ρ => bnd (g ρ) fun d => match d with
  | .list ds => .ok ds
  | .tuple ds => .ok ds
  | _ => .bad
def rangeD (lo hi : Int) : List Dt := (List.range (hi - lo).toNat).map fun (i : Nat) => .int (lo + (i : Int))
def rng1 : List Dt → Option (Int × Int)
  | [.int j] => if -(2 ^ 62) ≤ j ∧ j < 2 ^ 62 then some (0, j) else none
  | _ => none
def rng2 : List Dt → Option (Int × Int)
  | [.int i, .int j] => if -(2 ^ 62) ≤ i ∧ i < 2 ^ 62 ∧ -(2 ^ 62) ≤ j ∧ j < 2 ^ 62 then some (i, j) else none
  | _ => none
def gRng1 (g : List Dt → O (List Dt)) : List Dt → O (List Dt) := fun ρ => bnd (g ρ) fun ds => match rng1 ds with
  | some p => .ok (rangeD p.1 p.2)
  | none => .bad
def gRng2 (g : List Dt → O (List Dt)) : List Dt → O (List Dt) := fun ρ => bnd (g ρ) fun ds => match rng2 ds with
  | some p => .ok (rangeD p.1 p.2)
  | none => .bad
def iSeq (K : PySem.W.Frag) (tl : TE) : TI := fun σ H R => tl σ H fun x H1 => ∃ a, x = .ref a ∧ (((∃ xs, SqL K H1 a xs) ∧ R (Itl K a) H1) ∨ ((∃ xs, SqT K H1 a xs) ∧ R (Itt K a) H1))
theorem pi_seq {X : Cx} {tg l : Expr} {tl : TE} (hl : PE X l tl) : PI X tg l (iSeq X.K tl) := by
  refine ⟨fun pins s σ H R I h => ?_⟩
  refine thn (hl.run pins s σ H _ I h) fun v s1 ⟨x, H1, I1, r1, q1⟩ => ?_
  obtain ⟨a, e, q⟩ := q1
  subst e
  cases r1
  rcases q with ⟨⟨xs, hq⟩, q⟩ | ⟨⟨xs, hq⟩, q⟩
  · obtain ⟨its, rv, p, hz⟩ := I1.list hq
    refine wpAny_pyIter_list p.isList ?_
    refine ⟨s1.heap.objs.size, [s1.heap.objs.size], _, _, H1, rfl, I1.kept (t' := s1.toks) fun b o e => Heap.get?_push_of_some _ e, turn_list a _, ⟨_, Heap.get?_push_size _ rfl, rfl, rfl⟩, fun b hb => ?_, q⟩
    have e : b = s1.heap.objs.size := by simpa using hb
    subst e
    exact I1.fpOk (Nat.le_refl _) (I1.hok.fresh (Nat.le_refl _))
  · obtain ⟨its, rv, p, hz⟩ := I1.tuple hq
    refine wpAny_pyIter_tuple (show s1.heap.IsTuple a its.toArray from p) ?_
    refine ⟨s1.heap.objs.size, [s1.heap.objs.size], _, _, H1, rfl, I1.kept (t' := s1.toks) fun b o e => Heap.get?_push_of_some _ e, turn_tuple a _, ⟨_, Heap.get?_push_size _ rfl, rfl, rfl⟩, fun b hb => ?_, q⟩
    have e : b = s1.heap.objs.size := by simpa using hb
    subst e
    exact I1.fpOk (Nat.le_refl _) (I1.hok.fresh (Nat.le_refl _))
section
variable {K : PySem.W.Frag} {W : Wt} {Δ : List Kd}
theorem sc_list {a : Addr} {ds : List Dt} : Sc K (Itl K a) none [.ref a] [.list ds] ds where
  goes := fun i H hi ⟨_, F, r⟩ => by
    cases r with
    | cons h _ =>
      obtain ⟨b, xs, e, hs, r⟩ := h.sql
      cases e
      have hx : i < xs.length := by rw [r.length]; exact hi
      exact ⟨xs, xs[i], hs, List.getElem?_eq_getElem hx⟩
  stops := fun H ⟨_, F, r⟩ => by
    cases r with
    | cons h _ =>
      obtain ⟨b, xs, e, hs, r⟩ := h.sql
      cases e
      exact ⟨xs, hs, Nat.le_of_eq r.length⟩
  yields := fun i H x H' hi _ y => by
    obtain ⟨e, y⟩ := y
    subst e
    refine ⟨Same.refl _, fun F r => ?_⟩
    cases r with
    | cons h _ =>
      obtain ⟨b, xs, e, hs, r⟩ := h.sql
      cases e
      exact r.get (y xs hs)
theorem sc_tup {a : Addr} {ds : List Dt} : Sc K (Itt K a) none [.ref a] [.tuple ds] ds where
  goes := fun i H hi ⟨_, F, r⟩ => by
    cases r with
    | cons h _ =>
      obtain ⟨b, xs, e, hs, r⟩ := h.sqt
      cases e
      have hx : i < xs.length := by rw [r.length]; exact hi
      exact ⟨xs, xs[i], hs, List.getElem?_eq_getElem hx⟩
  stops := fun H ⟨_, F, r⟩ => by
    cases r with
    | cons h _ =>
      obtain ⟨b, xs, e, hs, r⟩ := h.sqt
      cases e
      exact ⟨xs, hs, Nat.le_of_eq r.length⟩
  yields := fun i H x H' hi _ y => by
    obtain ⟨e, y⟩ := y
    subst e
    refine ⟨Same.refl _, fun F r => ?_⟩
    cases r with
    | cons h _ =>
      obtain ⟨b, xs, e, hs, r⟩ := h.sqt
      cases e
      exact r.get (y xs hs)
theorem rangeD_len (lo hi : Int) : (rangeD lo hi).length = (hi - lo).toNat := by unfold rangeD; simp
theorem sc_range {lo hi : Int} : Sc K (Itr lo (hi - lo).toNat) none [] [] (rangeD lo hi) where
  goes := fun i H hi' _ => by rw [rangeD_len] at hi'; exact hi'
  stops := fun H _ => by rw [rangeD_len]; exact Nat.le_refl _
  yields := fun i H x H' hi' _ y => by
    obtain ⟨e, y⟩ := y
    subst e y
    refine ⟨Same.refl _, fun F r => ⟨_, ?_, .int _⟩⟩
    rw [rangeD_len] at hi'
    unfold rangeD
    rw [List.getElem?_map, List.getElem?_range hi']
    rfl
theorem si_seq {te : TE} {g : Gd} {fr : Bool} (h : SE K W Δ te (.v true fr) g) : SI K W Δ (iSeq K te) false fr (gSeq g) := fun f ρ σ H Rk R q => by
  refine h f ρ σ H _ R ?_
  unfold gSeq at q
  cases e1 : g ρ with
  | bad => rw [e1] at q; exact q
  | ex z => rw [e1] at q; exact q
  | ok d =>
    rw [e1, bnd_ok] at q
    intro v H1 s1 x1
    cases d with
    | list ds =>
      obtain ⟨a, xs, rfl, hs, r⟩ := x1.sql
      exact ⟨a, rfl, .inl ⟨⟨xs, hs⟩, q _ H1 none [.ref a] [.list ds] s1 (fun _ => rfl) (fun _ e => nomatch e) (.cons x1 .nil) sc_list⟩⟩
    | tuple ds =>
      obtain ⟨a, xs, rfl, hs, r⟩ := x1.sqt
      exact ⟨a, rfl, .inr ⟨⟨xs, hs⟩, q _ H1 none [.ref a] [.tuple ds] s1 (fun _ => rfl) (fun _ e => nomatch e) (.cons x1 .nil) sc_tup⟩⟩
    | _ => exact q.elim
theorem si_rng1 {tA : TA} {gA : List Dt → O (List Dt)} {av fr : Bool} (h : SA K W Δ tA av fr gA) : SI K W Δ (iRng1 tA) false true (gRng1 gA) := fun f ρ σ H Rk R q => by
  refine h f ρ σ H _ R ?_
  unfold gRng1 at q
  cases e1 : gA ρ with
  | bad => rw [e1] at q; exact q
  | ex z => rw [e1] at q; exact q
  | ok ds =>
    rw [e1, bnd_ok] at q
    intro vs H1 s1 x1
    cases er : rng1 ds with
    | none => rw [er] at q; exact q.elim
    | some p =>
      rw [er] at q
      unfold rng1 at er
      split at er
      · split at er
        · rename_i j c
          cases er
          cases x1 with
          | cons x1 xr =>
            cases xr
            rw [rpInt x1]
            refine ⟨j, rfl, c.1, c.2, ?_⟩
            have w := q (Itr 0 (j - 0).toNat) H1 none [] [] s1 (fun _ => rfl) (fun _ e => nomatch e) .nil sc_range
            rw [Int.sub_zero] at w
            exact w
        · cases er
      · cases er
theorem si_rng2 {tA : TA} {gA : List Dt → O (List Dt)} {av fr : Bool} (h : SA K W Δ tA av fr gA) : SI K W Δ (iRng2 tA) false true (gRng2 gA) := fun f ρ σ H Rk R q => by
  refine h f ρ σ H _ R ?_
  unfold gRng2 at q
  cases e1 : gA ρ with
  | bad => rw [e1] at q; exact q
  | ex z => rw [e1] at q; exact q
  | ok ds =>
    rw [e1, bnd_ok] at q
    intro vs H1 s1 x1
    cases er : rng2 ds with
    | none => rw [er] at q; exact q.elim
    | some p =>
      rw [er] at q
      unfold rng2 at er
      split at er
      · split at er
        · rename_i i j c
          cases er
          cases x1 with
          | cons x1 xr =>
            cases xr with
            | cons x2 xr =>
              cases xr
              rw [rpInt x1, rpInt x2]
              exact ⟨i, j, rfl, c, q (Itr i (j - i).toNat) H1 none [] [] s1 (fun _ => rfl) (fun _ e => nomatch e) .nil sc_range⟩
        · cases er
      · cases er
end
end Sim
end T_SimD
section T_SimE
set_option Elab.async false
set_option linter.all false
set_option maxRecDepth 100000
namespace Sim
open PySem PySem.Spec L2
open PyProof.Rows hiding St
def bLe (a b : Bool) : Bool := !b || a
def kLe : Kd → Kd → Bool
  | _, .no => true
  | .im a, .im b => bLe a b
  | .own .l a, .im b => bLe a b
  | .own .l a, .own .l b => bLe a b
  | .own .dk a, .own .dk b => bLe a b
  | .own .dt a, .own .dt b => bLe a b
  | .own .la a, .own .la b => bLe a b
  | .own .ka a, .own .ka b => bLe a b
  | .sl a, .sl b => a == b
  | _, _ => false
def leA : List Kd → List Kd → Bool
  | [], [] => true
  | k :: ks, l :: ls => kLe k l && leA ks ls
  | _, _ => false
theorem bLe_imp {a b : Bool} (h : bLe a b = true) : b = true → a = true := fun e => by subst e; cases a; cases h; rfl
theorem leA_len : ∀ {Δ Δ' : List Kd}, leA Δ Δ' = true → Δ.length = Δ'.length
  | [], [], _ => rfl
  | [], _ :: _, h => by cases h
  | _ :: _, [], h => by cases h
  | k :: ks, l :: ls, h => by
    unfold leA at h
    rw [Bool.and_eq_true] at h
    rw [List.length_cons, List.length_cons, leA_len h.2]
theorem leA_get : ∀ {Δ Δ' : List Kd}, leA Δ Δ' = true → ∀ {i : Nat} {k' : Kd}, Δ'[i]? = some k' → ∃ k, Δ[i]? = some k ∧ kLe k k' = true
  | [], [], _, i, k', h => by simp at h
  | [], _ :: _, h, _, _, _ => by cases h
  | _ :: _, [], h, _, _, _ => by cases h
  | k :: ks, l :: ls, h, 0, k', e => by
    unfold leA at h
    rw [Bool.and_eq_true] at h
    simp at e; subst e
    exact ⟨k, rfl, h.1⟩
  | k :: ks, l :: ls, h, i + 1, k', e => by
    unfold leA at h
    rw [Bool.and_eq_true] at h
    obtain ⟨q, h1, h2⟩ := leA_get h.2 (i := i) (k' := k') (by simpa using e)
    exact ⟨q, by simpa using h1, h2⟩
theorem kLe_own {k : Kd} {c : Ct} {fr : Bool} (h : kLe k (.own c fr) = true) : ∃ fr', k = .own c fr' ∧ (fr = true → fr' = true) := by
  cases k with
  | no => cases c <;> cases h
  | im a => cases c <;> cases h
  | sl => cases c <;> cases h
  | own c' a => cases c' <;> cases c <;> first | (cases h; done) | exact ⟨a, rfl, bLe_imp h⟩
theorem kLe_sl {k : Kd} {t : Bool} (h : kLe k (.sl t) = true) : k = .sl t := by
  cases k with
  | no => cases h
  | im a => cases h
  | sl a => simp [kLe] at h; rw [h]
  | own c' a => cases c' <;> cases h
theorem kLe_im {k : Kd} {fr : Bool} (h : kLe k (.im fr) = true) : (∃ fr', k = .im fr' ∧ (fr = true → fr' = true)) ∨ ∃ fr', k = .own .l fr' ∧ (fr = true → fr' = true) := by
  cases k with
  | no => cases h
  | im a => exact .inl ⟨a, rfl, bLe_imp h⟩
  | sl => cases h
  | own c' a => cases c' <;> first | (cases h; done) | exact .inr ⟨a, rfl, bLe_imp h⟩
section
variable {K : PySem.W.Frag} {f : Fm} {Δ Δ' : List Kd} {ρ : List Dt} {σ σ' : L2.St} {H : Hp}
theorem R.weak (r : R K f Δ ρ σ H) (h : leA Δ Δ' = true) : R K f Δ' ρ σ H := by
  have ow' : ∀ a, Ow Δ' σ a → Ow Δ σ a := fun a ⟨i, c, fr, h1, h2⟩ => by
    obtain ⟨k, e, hk⟩ := leA_get h h1
    obtain ⟨fr', rfl, _⟩ := kLe_own hk
    exact ⟨i, c, fr', e, h2⟩
  have key : ∀ {fr fr' : Bool} {v : V} {d : Dt}, (fr' = true → fr = true) → Rp K (FM f Δ σ true fr) H v d → Rp K (FM f Δ' σ true fr') H v d := fun hf h =>
    h.weak fun a fa => ⟨fun _ => ⟨fun z => (fa.1 rfl).1 (ow' a z), (fa.1 rfl).2⟩, fun e => fa.2 (hf e)⟩
  refine ⟨r.ext, r.g0, by rw [r.lσ, leA_len h], by rw [r.lρ, leA_len h], ?_, fun a ha => ⟨(r.pin a ha).1, fun z => (r.pin a ha).2 (ow' a z)⟩, fun g hg => (r.gh g hg).map fun _ _ x => key id x, fun i fr h' => ?_, fun i c fr h' => ?_, fun i c fr h' ha => ?_, r.sp, fun i t h' => by
    obtain ⟨k, e, hk⟩ := leA_get h h'
    rw [kLe_sl hk] at e
    exact r.sl i t e⟩
  · intro i j ci fi cj fj p h1 h2 h3 h4
    obtain ⟨k, e, hk⟩ := leA_get h h1
    obtain ⟨fr', rfl, _⟩ := kLe_own hk
    obtain ⟨k2, e2, hk2⟩ := leA_get h h2
    obtain ⟨fr2, rfl, _⟩ := kLe_own hk2
    exact r.inj i j _ _ _ _ p e e2 h3 h4
  · obtain ⟨k, e, hk⟩ := leA_get h h'
    rcases kLe_im hk with ⟨fr', rfl, hf⟩ | ⟨fr', rfl, hf⟩
    · obtain ⟨v, d, h1, h2, h3⟩ := r.im i fr' e
      exact ⟨v, d, h1, h2, key hf h3⟩
    · obtain ⟨p, d, h1, h2, h3, vs, ds, ed, hp, h4⟩ := r.ow i .l fr' e
      subst ed
      refine ⟨.ref p, _, h1, h2, .lst hp ⟨fun _ => ⟨fun z => ?_, fun z => ?_⟩, fun _ => r.g0 p h3⟩ (h4.map fun _ _ x => key hf x)⟩
      · obtain ⟨j, c, frj, g1, g2⟩ := z
        obtain ⟨k2, e2, hk2⟩ := leA_get h g1
        obtain ⟨fr2, rfl, _⟩ := kLe_own hk2
        have ij := r.inj i j _ _ _ _ p e e2 h1 g2
        subst ij
        rw [h'] at g1
        cases g1
      · exact (r.pin p z).2 ⟨i, .l, fr', e, h1⟩
  · obtain ⟨k, e, hk⟩ := leA_get h h'
    obtain ⟨fr', rfl, hf⟩ := kLe_own hk
    obtain ⟨p, d, h1, h2, h3, h4⟩ := r.ow i c fr' e
    exact ⟨p, d, h1, h2, h3, h4.map (fun o e => e) fun _ _ x => key hf x⟩
  · obtain ⟨k, e, hk⟩ := leA_get h h'
    obtain ⟨fr', rfl, hf⟩ := kLe_own hk
    exact r.ar i c fr' e ha
structure TgOk (K : PySem.W.Frag) (f : Fm) (Δ Δ' : List Kd) (ρ' : List Dt) (σ σ' : L2.St) (H : Hp) (sl : List Nat) : Prop where
  r : R K f Δ' ρ' σ' H
  keep : ∀ i, i ∉ sl → Δ'[i]? = Δ[i]? ∧ σ'[i]? = σ[i]?
  im : ∀ i, i ∈ sl → ∃ fr, Δ'[i]? = some (.im fr)
  len : Δ'.length = Δ.length
theorem TgOk.ow {ρ' : List Dt} {sl : List Nat} (t : TgOk K f Δ Δ' ρ' σ σ' H sl) {a : Addr} (h : Ow Δ' σ' a) : Ow Δ σ a := by
  obtain ⟨i, c, fr, h1, h2⟩ := h
  by_cases z : i ∈ sl
  · obtain ⟨fr', e⟩ := t.im i z
    rw [e] at h1; cases h1
  · obtain ⟨e1, e2⟩ := t.keep i z
    exact ⟨i, c, fr, e1 ▸ h1, e2 ▸ h2⟩
theorem TgOk.ow' {ρ' : List Dt} {sl : List Nat} (t : TgOk K f Δ Δ' ρ' σ σ' H sl) (no : ∀ i ∈ sl, ∀ c fr, Δ[i]? ≠ some (.own c fr)) {a : Addr} (h : Ow Δ σ a) : Ow Δ' σ' a := by
  obtain ⟨i, c, fr, h1, h2⟩ := h
  by_cases z : i ∈ sl
  · exact absurd h1 (no i z c fr)
  · obtain ⟨e1, e2⟩ := t.keep i z
    exact ⟨i, c, fr, e1 ▸ h1, e2 ▸ h2⟩
theorem TgOk.fm {ρ' : List Dt} {sl : List Nat} (t : TgOk K f Δ Δ' ρ' σ σ' H sl) {av fr : Bool} {a : Addr} (h : FM f Δ σ av fr a) : FM f Δ' σ' av fr a := ⟨fun e => ⟨fun z => (h.1 e).1 (t.ow z), (h.1 e).2⟩, h.2⟩
theorem TgOk.fm' {ρ' : List Dt} {sl : List Nat} (t : TgOk K f Δ Δ' ρ' σ σ' H sl) (no : ∀ i ∈ sl, ∀ c fr, Δ[i]? ≠ some (.own c fr)) {av fr : Bool} {a : Addr} (h : FM f Δ' σ' av fr a) : FM f Δ σ av fr a := ⟨fun e => ⟨fun z => (h.1 e).1 (t.ow' no z), (h.1 e).2⟩, h.2⟩
theorem TgOk.refl (r : R K f Δ ρ σ H) : TgOk K f Δ Δ ρ σ σ H [] := ⟨r, fun _ _ => ⟨rfl, rfl⟩, fun _ h => absurd h (by simp), rfl⟩
theorem TgOk.trans {Δ1 Δ2 : List Kd} {ρ1 ρ2 : List Dt} {σ1 σ2 : L2.St} {s1 s2 : List Nat} (t : TgOk K f Δ Δ1 ρ1 σ σ1 H s1) (u : TgOk K f Δ1 Δ2 ρ2 σ1 σ2 H s2) : TgOk K f Δ Δ2 ρ2 σ σ2 H (s1 ++ s2) := by
  refine ⟨u.r, fun i h => ?_, fun i h => ?_, u.len.trans t.len⟩
  · rw [List.mem_append, not_or] at h
    obtain ⟨a1, a2⟩ := t.keep i h.1
    obtain ⟨b1, b2⟩ := u.keep i h.2
    exact ⟨b1.trans a1, b2.trans a2⟩
  · by_cases z : i ∈ s2
    · exact u.im i z
    · rcases List.mem_append.mp h with h | h
      · obtain ⟨fr, e⟩ := t.im i h
        exact ⟨fr, (u.keep i z).1.trans e⟩
      · exact absurd h z
end
def GJ (K : PySem.W.Frag) (n : Nat) (g : TG) (sl : List Nat) (h : Dt → List Dt → O (List Dt)) (TK : Bool → List Kd → List Kd) : Prop := ∀ f Δ ρ σ H v d fr Q, Δ.length = n → R K f Δ ρ σ H → Rp K (FM f Δ σ true fr) H v d →
  (match h d ρ with | .ok ρ' => ∀ σ', TgOk K f Δ (TK fr Δ) ρ' σ σ' H sl → Q σ' H | _ => False) → g v σ H Q
def GJs (K : PySem.W.Frag) (n : Nat) (g : TGs) (sl : List Nat) (h : List Dt → List Dt → O (List Dt)) (TK : Bool → List Kd → List Kd) : Prop := ∀ f Δ ρ σ H vs ds fr Q, Δ.length = n → R K f Δ ρ σ H → RpA K (FM f Δ σ true fr) H vs ds →
  (match h ds ρ with | .ok ρ' => ∀ σ', TgOk K f Δ (TK fr Δ) ρ' σ σ' H sl → Q σ' H | _ => False) → g vs σ H Q
structure GD (X : Cx) (K : PySem.W.Frag) (n : Nat) (tg : Expr) (g : TG) (sl : List Nat) (h : Dt → List Dt → O (List Dt)) (TK : Bool → List Kd → List Kd) : Prop where
  pg : PG X tg g
  hK : X.K = K
  gj : GJ K n g sl h TK
structure GDs (X : Cx) (K : PySem.W.Frag) (n : Nat) (tg : List Expr) (g : TGs) (sl : List Nat) (h : List Dt → List Dt → O (List Dt)) (TK : Bool → List Kd → List Kd) : Prop where
  pg : PGs X tg g
  hK : X.K = K
  gj : GJs K n g sl h TK
def tgN (i : Nat) : Dt → List Dt → O (List Dt) := fun d ρ => .ok (ρ.set i d)
def tgT (h : List Dt → List Dt → O (List Dt)) : Dt → List Dt → O (List Dt) := fun d ρ => match d with
  | .tuple ds => h ds ρ
  | _ => .bad
def tgNil : List Dt → List Dt → O (List Dt) := fun ds ρ => match ds with
  | [] => .ok ρ
  | _ => .bad
def tgCons (h : Dt → List Dt → O (List Dt)) (u : List Dt → List Dt → O (List Dt)) : List Dt → List Dt → O (List Dt) := fun ds ρ => match ds with
  | d :: r => (match h d ρ with
    | .ok ρ' => u r ρ'
    | _ => .bad)
  | [] => .bad
def TKN (i : Nat) : Bool → List Kd → List Kd := fun fr Δ => Δ.set i (.im fr)
def TK0 : Bool → List Kd → List Kd := fun _ Δ => Δ
def TKC (a b : Bool → List Kd → List Kd) : Bool → List Kd → List Kd := fun fr Δ => b fr (a fr Δ)
section
variable {K : PySem.W.Frag} {n : Nat}
theorem gj_name {i : Nat} (hi : i < n) : GJ K n (gName i) [i] (tgN i) (TKN i) := fun f Δ ρ σ H v d fr Q hl R x q => by
  have hi' : i < Δ.length := by rw [hl]; exact hi
  refine q (σ.set i (some v)) ⟨R.setIm hi' x, fun j h => ?_, fun j h => ?_, by unfold TKN; rw [List.length_set]⟩
  · have : i ≠ j := fun e => h (by rw [e]; exact List.mem_singleton.mpr rfl)
    unfold TKN
    exact ⟨List.getElem?_set_ne this, List.getElem?_set_ne this⟩
  · have : j = i := List.mem_singleton.mp h
    subst this
    unfold TKN
    exact ⟨fr, List.getElem?_set_self hi'⟩
theorem gj_nil : GJs K n L2.gNil [] tgNil TK0 := fun f Δ ρ σ H vs ds fr Q hl R x q => by
  cases x with
  | nil => exact ⟨rfl, q σ (.refl R)⟩
  | cons => exact q.elim
theorem gj_cons {g : TG} {gs : TGs} {s1 s2 : List Nat} {h : Dt → List Dt → O (List Dt)} {u : List Dt → List Dt → O (List Dt)} {T1 T2 : Bool → List Kd → List Kd} (a : GJ K n g s1 h T1) (b : GJs K n gs s2 u T2) :
    GJs K n (L2.gCons g gs) (s1 ++ s2) (tgCons h u) (TKC T1 T2) := fun f Δ ρ σ H vs ds fr Q hl R x q => by
  cases x with
  | nil => exact q.elim
  | cons x r =>
    refine ⟨_, _, rfl, ?_⟩
    unfold tgCons at q
    refine a f Δ ρ σ H _ _ fr _ hl R x ?_
    simp only at q
    revert q
    cases e : h _ ρ with
    | bad => exact fun q => q.elim
    | ex z => exact fun q => q.elim
    | ok ρ1 =>
      intro q σ1 t1
      refine b f _ ρ1 σ1 H _ _ fr _ (t1.len.trans hl) t1.r (r.weak fun _ y => t1.fm y) ?_
      simp only at q
      revert q
      cases e2 : u _ ρ1 with
      | bad => exact fun q => q.elim
      | ex z => exact fun q => q.elim
      | ok ρ2 => exact fun q σ2 t2 => q σ2 (t1.trans t2)
theorem gj_tup {m : Nat} {gs : TGs} {sl : List Nat} {u : List Dt → List Dt → O (List Dt)} {T : Bool → List Kd → List Kd} (b : GJs K n gs sl u T) (hm : ∀ ds ρ, ds.length ≠ m → ∀ z, u ds ρ ≠ .ok z) :
    GJ K n (L2.gTup K m gs) sl (tgT u) T := fun f Δ ρ σ H v d fr Q hl R x q => by
  cases d with
  | tuple ds =>
    obtain ⟨a, xs, rfl, hs, r⟩ := x.sqt
    have q : (match u ds ρ with | .ok ρ' => ∀ σ', TgOk K f Δ (T fr Δ) ρ' σ σ' H sl → Q σ' H | _ => False) := q
    refine ⟨a, xs, rfl, hs, ?_, b f Δ ρ σ H xs ds fr Q hl R r q⟩
    by_cases e : ds.length = m
    · rw [r.length]; exact e
    · cases eu : u ds ρ with
      | ok z => exact absurd eu (hm ds ρ e z)
      | bad => rw [eu] at q; exact q.elim
      | ex z => rw [eu] at q; exact q.elim
  | _ => exact q.elim
theorem tgNil_len : ∀ ds ρ, ds.length ≠ 0 → ∀ z, tgNil ds ρ ≠ .ok z
  | [], _, h, _ => absurd rfl h
  | _ :: _, _, _, _ => fun e => by cases e
theorem tgCons_len {m : Nat} {h : Dt → List Dt → O (List Dt)} {u : List Dt → List Dt → O (List Dt)} (hu : ∀ ds ρ, ds.length ≠ m → ∀ z, u ds ρ ≠ .ok z) : ∀ ds ρ, ds.length ≠ m + 1 → ∀ z, tgCons h u ds ρ ≠ .ok z
  | [], _, _, _ => fun e => by cases e
  | d :: r, ρ, hl, z => fun e => by
    unfold tgCons at e
    simp only at e
    cases eh : h d ρ with
    | bad => rw [eh] at e; cases e
    | ex y => rw [eh] at e; cases e
    | ok ρ' =>
      rw [eh] at e
      exact hu r ρ' (fun q => hl (by rw [List.length_cons, q])) z e
end
section
variable {X : Cx} {K : PySem.W.Frag} {n : Nat} {pos : Pos}
theorem g_name (i : Nat) {x : Str} (hN : X.N.Nodup) (hn : i < n := by decide) (hi : X.N[i]? = some x := by rfl) (hx : Loc X.env.scope x := by first | exact .inl rfl | exact .inr rfl) (hf : X.fn x = true ∨ X.env.scope.names.lookup x = some .local := by first | exact .inl rfl | exact .inr rfl) (hK : X.K = K := by rfl) :
    GD X K n (.Name x pos) (gName i) [i] (tgN i) (TKN i) := ⟨pg_name hN hi hx hf, hK, gj_name hn⟩
theorem g_nil (hK : X.K = K := by rfl) : GDs X K n [] L2.gNil [] tgNil TK0 := ⟨pgs_nil, hK, gj_nil⟩
theorem g_cons {e : Expr} {es : List Expr} {g : TG} {gs : TGs} {s1 s2 : List Nat} {h : Dt → List Dt → O (List Dt)} {u : List Dt → List Dt → O (List Dt)} {T1 T2 : Bool → List Kd → List Kd} (a : GD X K n e g s1 h T1) (b : GDs X K n es gs s2 u T2)
    (hs : (assignEach (e :: es) X.env).map (·.2) = assign e X.env :: (assignEach es X.env).map (·.2) := by rfl) : GDs X K n (e :: es) (L2.gCons g gs) (s1 ++ s2) (tgCons h u) (TKC T1 T2) := ⟨pgs_cons a.pg b.pg hs, a.hK, gj_cons a.gj b.gj⟩
end
abbrev W0 : Wt := fun _ _ _ => False
def wipeK (Δ : List Kd) : List Nat → List Kd
  | [] => Δ
  | v :: vs => (wipeK Δ vs).set v .no
def noOwn (Δ : List Kd) (vs : List Nat) : Bool := vs.all fun i => match Δ[i]? with
  | some (.own _ _) => false
  | _ => true
theorem wipeK_len (Δ : List Kd) : ∀ vs, (wipeK Δ vs).length = Δ.length
  | [] => rfl
  | v :: vs => by unfold wipeK; rw [List.length_set, wipeK_len Δ vs]
theorem wipeK_out {Δ : List Kd} {i : Nat} : ∀ {vs : List Nat}, i ∉ vs → (wipeK Δ vs)[i]? = Δ[i]?
  | [], _ => rfl
  | v :: vs, h => by
    unfold wipeK
    rw [List.getElem?_set_ne (fun e => h (by rw [e]; exact List.mem_cons_self)), wipeK_out fun z => h (List.mem_cons_of_mem _ z)]
theorem wipeK_in {Δ : List Kd} {i : Nat} : ∀ {vs : List Nat}, i ∈ vs → ∀ k, (wipeK Δ vs)[i]? = some k → k = .no
  | [], h, _, _ => absurd h (by simp)
  | v :: vs, h, k, e => by
    unfold wipeK at e
    by_cases z : v = i
    · subst z
      by_cases hv : v < (wipeK Δ vs).length
      · rw [List.getElem?_set_self hv] at e
        exact (Option.some.inj e).symm
      · rw [List.getElem?_eq_none (by rw [List.length_set]; omega)] at e
        cases e
    · rw [List.getElem?_set_ne z] at e
      rcases List.mem_cons.mp h with q | q
      · exact absurd q.symm z
      · exact wipeK_in q k e
theorem wipe_out {σ : L2.St} {i : Nat} : ∀ {vs : List Nat}, i ∉ vs → (wipe σ vs)[i]? = σ[i]?
  | [], _ => rfl
  | v :: vs, h => by
    unfold wipe
    rw [List.getElem?_set_ne (fun e => h (by rw [e]; exact List.mem_cons_self)), wipe_out fun z => h (List.mem_cons_of_mem _ z)]
theorem wipe_in {σ : L2.St} {i : Nat} : ∀ {vs : List Nat}, i ∈ vs → i < σ.length → (wipe σ vs)[i]? = some none
  | [], h, _ => absurd h (by simp)
  | v :: vs, h, hl => by
    unfold wipe
    by_cases z : v = i
    · subst z
      rw [List.getElem?_set_self (by rw [wipe_length]; exact hl)]
    · rw [List.getElem?_set_ne z]
      rcases List.mem_cons.mp h with q | q
      · exact absurd q.symm z
      · exact wipe_in q hl
theorem wipe_eq {σ σ' : L2.St} {vs : List Nat} (hl : σ'.length = σ.length) (h : ∀ i, i ∉ vs → σ'[i]? = σ[i]?) : wipe σ' vs = wipe σ vs := by
  apply List.ext_getElem?
  intro i
  by_cases z : i ∈ vs
  · by_cases q : i < σ.length
    · rw [wipe_in z (by rw [hl]; exact q), wipe_in z q]
    · rw [List.getElem?_eq_none (by rw [wipe_length, hl]; omega), List.getElem?_eq_none (by rw [wipe_length]; omega)]
  · rw [wipe_out z, wipe_out z]
    exact h i z
theorem noOwn_get {Δ : List Kd} {vs : List Nat} (h : noOwn Δ vs = true) {i : Nat} (hi : i ∈ vs) {c : Ct} {fr : Bool} : Δ[i]? ≠ some (.own c fr) := fun e => by
  have q := List.all_eq_true.mp h i hi
  rw [e] at q
  cases q
section
variable {K : PySem.W.Frag} {f : Fm} {Δ : List Kd} {ρ : List Dt} {σ : L2.St} {H : Hp}
theorem ow_wipe {vs : List Nat} (h : noOwn Δ vs = true) {a : Addr} : Ow (wipeK Δ vs) (wipe σ vs) a ↔ Ow Δ σ a := by
  constructor
  · rintro ⟨i, c, fr, h1, h2⟩
    have z : i ∉ vs := fun z => by cases wipeK_in z _ h1
    exact ⟨i, c, fr, by rw [← wipeK_out z]; exact h1, by rw [← wipe_out z]; exact h2⟩
  · rintro ⟨i, c, fr, h1, h2⟩
    have z : i ∉ vs := fun z => noOwn_get h z h1
    exact ⟨i, c, fr, by rw [wipeK_out z]; exact h1, by rw [wipe_out z]; exact h2⟩
theorem fm_wipe {vs : List Nat} (h : noOwn Δ vs = true) {av fr : Bool} {a : Addr} : FM f (wipeK Δ vs) (wipe σ vs) av fr a ↔ FM f Δ σ av fr a := by
  unfold FM
  rw [ow_wipe h]
theorem R.wipe {vs : List Nat} (h : noOwn Δ vs = true) (r : R K f Δ ρ σ H) : R K f (wipeK Δ vs) ρ (L2.wipe σ vs) H := by
  refine ⟨r.ext, r.g0, by rw [wipe_length, wipeK_len]; exact r.lσ, by rw [wipeK_len]; exact r.lρ, ?_, fun a ha => ⟨(r.pin a ha).1, fun z => (r.pin a ha).2 ((ow_wipe h).mp z)⟩, fun g hg => (r.gh g hg).weak fun a y => (fm_wipe h).mpr y, fun i fr h' => ?_, fun i c fr h' => ?_, fun i c fr h' ha => ?_, r.sp, fun i t h' => by
    have z1 : i ∉ vs := fun z => by cases wipeK_in z _ h'
    rw [wipeK_out z1] at h'
    obtain ⟨v, d, h1, h2, h3⟩ := r.sl i t h'
    exact ⟨v, d, by rw [wipe_out z1]; exact h1, h2, h3⟩⟩
  · intro i j ci fi cj fj p h1 h2 h3 h4
    have z1 : i ∉ vs := fun z => by cases wipeK_in z _ h1
    have z2 : j ∉ vs := fun z => by cases wipeK_in z _ h2
    rw [wipeK_out z1] at h1
    rw [wipeK_out z2] at h2
    rw [wipe_out z1] at h3
    rw [wipe_out z2] at h4
    exact r.inj i j _ _ _ _ p h1 h2 h3 h4
  · have z1 : i ∉ vs := fun z => by cases wipeK_in z _ h'
    rw [wipeK_out z1] at h'
    obtain ⟨v, d, h1, h2, h3⟩ := r.im i fr h'
    exact ⟨v, d, by rw [wipe_out z1]; exact h1, h2, h3.weak fun a y => (fm_wipe h).mpr y⟩
  · have z1 : i ∉ vs := fun z => by cases wipeK_in z _ h'
    rw [wipeK_out z1] at h'
    obtain ⟨v, d, h1, h2, h3, h4⟩ := r.ow i c fr h'
    exact ⟨v, d, by rw [wipe_out z1]; exact h1, h2, h3, h4.map (fun o e => e) fun _ _ x => x.weak fun a y => (fm_wipe h).mpr y⟩
  · have z1 : i ∉ vs := fun z => by cases wipeK_in z _ h'
    rw [wipeK_out z1] at h'
    obtain ⟨p, h1, h2⟩ := r.ar i c fr h' ha
    exact ⟨p, h1, by rw [wipe_out z1]; exact h2⟩
def Fm.with (f : Fm) (P : List Addr) (g : List (List V × List Dt × Bool)) : Fm := { f with P := P ++ f.P, Γ := g ++ f.Γ, hS := fun a h => List.mem_append_right _ (f.hS a h) }
theorem R.addG {vs : List V} {es : List Dt} {fr : Bool} (r : R K f Δ ρ σ H) (x : RpA K (FM f Δ σ true fr) H vs es) : R K { f with Γ := (vs, es, fr) :: f.Γ } Δ ρ σ H := by
  refine ⟨r.ext, r.g0, r.lσ, r.lρ, r.inj, r.pin, fun g hg => ?_, r.im, r.ow, r.ar, r.sp, r.sl⟩
  rcases List.mem_cons.mp hg with e | h
  · subst e; exact x
  · exact r.gh g h
theorem R.dropG {g : List V × List Dt × Bool} {Γ : List (List V × List Dt × Bool)} (r : R K { f with Γ := g :: Γ } Δ ρ σ H) : R K { f with Γ := Γ } Δ ρ σ H :=
  ⟨r.ext, r.g0, r.lσ, r.lρ, r.inj, r.pin, fun g hg => r.gh g (List.mem_cons_of_mem _ hg), r.im, r.ow, r.ar, r.sp, r.sl⟩
abbrev Fm.pn (f : Fm) (p : Addr) : Fm := { f with P := p :: f.P, hS := fun a h => List.mem_cons_of_mem _ (f.hS a h) }
theorem R.addP {p : Addr} {o : HO} (r : R K f Δ ρ σ H) (np : H p = none) (m : Mutb o) : R K (f.pn p) Δ ρ σ (upd H p o) := by
  obtain ⟨f1, f2, f3⟩ := r.fresh np
  have key : ∀ {fr : Bool} {v : V} {d : Dt}, Rp K (FM f Δ σ true fr) H v d → Rp K (FM (f.pn p) Δ σ true fr) (upd H p o) v d := fun h =>
    h.mono (same_upd np) fun a fa na => ⟨fun _ => ⟨(fa.1 rfl).1, fun z => by
      rcases List.mem_cons.mp z with e | h
      · exact na (e ▸ np)
      · exact (fa.1 rfl).2 h⟩, fa.2⟩
  refine ⟨r.ext.trans (same_upd np), r.g0, r.lσ, r.lρ, r.inj, fun a ha => ?_, fun g hg => (r.gh g hg).map fun _ _ x => key x, fun i fr h => ?_, fun i c fr h => ?_, r.ar, r.sp, fun i t h => let ⟨v, d, h1, h2, h3⟩ := r.sl i t h; ⟨v, d, h1, h2, h3.same (same_upd np)⟩⟩
  · rcases List.mem_cons.mp ha with e | h
    · subst e
      exact ⟨⟨o, upd_same, m⟩, f1⟩
    · obtain ⟨⟨u, hu, mu⟩, no⟩ := r.pin a h
      exact ⟨⟨u, same_upd np _ _ hu, mu⟩, no⟩
  · obtain ⟨v, d, h1, h2, h3⟩ := r.im i fr h
    exact ⟨v, d, h1, h2, key h3⟩
  · obtain ⟨v, d, h1, h2, h3, h4⟩ := r.ow i c fr h
    exact ⟨v, d, h1, h2, h3, h4.map (fun o e => same_upd np _ _ e) fun _ _ x => key x⟩
end
def lcE (h : Dt → List Dt → O (List Dt)) (gt : List Dt → O Bool) (ge : Gd) (ρ : List Dt) : List Dt → O (List Dt)
  | [] => .ok []
  | d :: ds => bnd (h d ρ) fun ρ' => bnd (gt ρ') fun b => if b then bnd (ge ρ') fun e => bnd (lcE h gt ge ρ ds) fun es => .ok (e :: es) else lcE h gt ge ρ ds
def gLc (gi : List Dt → O (List Dt)) (h : Dt → List Dt → O (List Dt)) (gt : List Dt → O Bool) (ge : Gd) : Gd := fun ρ => bnd (gi ρ) fun ds => if ds.length ≤ 100000 then (match lcE h gt ge ρ ds with
  | .ok es => .ok (.list es)
  | _ => .bad) else .bad
def gYes : List Dt → O Bool := fun _ => .ok true
theorem bnd_inv {α β : Type} {x : O α} {k : α → O β} {z : β} (h : bnd x k = .ok z) : ∃ a, x = .ok a ∧ k a = .ok z := by
  cases x with
  | bad => cases h
  | ex e => cases h
  | ok a => exact ⟨a, rfl, h⟩
theorem se_lc {K : PySem.W.Frag} {W : Wt} {Δ : List Kd} {wi : TI} {g : TG} {tt : TT} {te : TE} {vs sl : List Nat} {b fr fr' : Bool} {gi : List Dt → O (List Dt)} {h : Dt → List Dt → O (List Dt)} {TK : Bool → List Kd → List Kd} {gt : List Dt → O Bool} {ge : Gd} {n : Nat}
    (hi : SI K W Δ wi b fr gi) (hg : GJ K n g sl h TK) (hn : Δ.length = n) (hsl : ∀ i ∈ sl, i ∈ vs) (no : noOwn Δ vs = true) (ht : ST K W0 (TK fr (wipeK Δ vs)) tt gt) (he : SE K W0 (TK fr (wipeK Δ vs)) te (.v true fr') ge) :
    SE K W Δ (tLc wi g tt te vs) (.new .l fr') (gLc gi h gt ge) := fun f ρ σ H Q r q => by
  refine hi f ρ σ H _ r ?_
  unfold gLc at q
  cases e1 : gi ρ with
  | bad => rw [e1] at q; exact q
  | ex z => rw [e1] at q; exact q
  | ok ds =>
    rw [e1, bnd_ok] at q
    by_cases hl : ds.length ≤ 100000
    · rw [if_pos hl] at q
      cases ea : lcE h gt ge ρ ds with
      | bad => rw [ea] at q; exact q.elim
      | ex z => rw [ea] at q; exact q.elim
      | ok all =>
        rw [ea] at q
        intro J H1 pf gv ge0 s1 hb hpf x1 sc D nD
        -- the frame within
        have r1 := (((r.mono s1).addP (o := .lst []) nD trivial).addG (fr := fr) (x1.mono (same_upd nD) fun a fa na => ⟨fun _ => ⟨(fa.1 rfl).1, fun z => by
          rcases List.mem_cons.mp z with e | h
          · exact na (e ▸ nD)
          · exact (fa.1 rfl).2 h⟩, fa.2⟩))
        generalize hf1 : ({ f.pn D with Γ := (gv, ge0, fr) :: f.Γ } : Fm) = f1 at r1
        have r1 : R K f1 Δ ρ σ (upd H1 D (.lst [])) := by rw [← hf1]; rw [← hf1] at r1; exact r1
        have dP : D ∈ f1.P := by rw [← hf1]; exact List.mem_cons_self
        have gG : (gv, ge0, fr) ∈ f1.Γ := by rw [← hf1]; exact List.mem_cons_self
        have h0 : f1.H0 D = none := by rw [← hf1]; exact ((r.mono s1).fresh nD).2.2
        have fmf : ∀ {fr : Bool} {a : Addr}, FM f1 Δ σ true fr a → FM f Δ σ true fr a ∧ a ≠ D := fun {fr a} y => by
          rw [← hf1] at y
          exact ⟨⟨fun e => ⟨(y.1 e).1, fun z => (y.1 e).2 (List.mem_cons_of_mem _ z)⟩, y.2⟩, fun z => (y.1 rfl).2 (z ▸ List.mem_cons_self)⟩
        have hDS : D ∉ f1.S := by
          rw [← hf1]
          exact fun z => ((r.mono s1).fresh nD).2.1 (f.hS D z)
        have noSl : ∀ i ∈ sl, ∀ c fr, (wipeK Δ vs)[i]? ≠ some (.own c fr) := fun i hi c fr e => by cases wipeK_in (hsl i hi) _ e
        refine ⟨fun i m H' => m = ds.length - i ∧ i ≤ ds.length ∧ ∃ acc es rest, H' D = some (.lst acc) ∧ R K f1 Δ ρ σ H' ∧ RpA K (FM f1 Δ σ true fr') H' acc es ∧ acc.length ≤ i ∧ lcE h gt ge ρ (ds.drop i) = .ok rest ∧ all = es ++ rest ∧ Same H H' ∧ (∀ q, pf = some q → H' q.1 = some q.2),
          ⟨ds.length, by simp, Nat.zero_le _, [], [], all, upd_same, r1, .nil, Nat.le_refl _, ea, rfl, s1.trans (same_upd nD), fun q eq => same_upd nD _ _ (hpf q eq)⟩, ?_⟩
        rintro i m H2 ⟨rfl, hi2, acc, es, rest, hD, r2, x2, la, er, eall, sHH, hpf2⟩
        have stand : (∀ q, pf = some q → H2 q.1 = some q.2) ∧ ∃ F, RpA K F H2 gv ge0 := ⟨hpf2, _, r2.gh _ gG⟩
        by_cases hlt : i < ds.length
        · refine .inr ⟨sc.goes i H2 hlt stand, fun H' => i + 1 ≤ ds.length ∧ ∃ acc es rest, H' D = some (.lst acc) ∧ R K f1 Δ ρ σ H' ∧ RpA K (FM f1 Δ σ true fr') H' acc es ∧ acc.length ≤ i + 1 ∧ lcE h gt ge ρ (ds.drop (i + 1)) = .ok rest ∧ all = es ++ rest ∧ Same H H' ∧ (∀ q, pf = some q → H' q.1 = some q.2),
            fun H' w => ⟨ds.length - (i + 1), by omega, rfl, w⟩, fun x H3 hy => ?_⟩
          obtain ⟨s3, hx⟩ := sc.yields i H2 x H3 hlt stand hy
          obtain ⟨d, hd, x3⟩ := hx _ (r2.gh _ gG)
          have edrop : ds.drop i = d :: ds.drop (i + 1) := by
            have hd' := (List.getElem?_eq_some_iff.mp hd).2
            rw [List.drop_eq_getElem_cons hlt, hd']
          rw [edrop] at er
          unfold lcE at er
          obtain ⟨ρ', eh, er⟩ := bnd_inv er
          obtain ⟨c, ec, er⟩ := bnd_inv er
          have r3 := r2.mono s3
          refine hg f1 (wipeK Δ vs) ρ (wipe σ vs) H3 x d fr _ (by rw [wipeK_len]; exact hn) (r3.wipe no) (x3.weak fun a y => (fm_wipe no).mpr y) ?_
          rw [eh]
          intro σ4 t4
          refine ⟨?_, ?_⟩
          · rw [wipe_eq (σ' := σ4) (σ := wipe σ vs) (by rw [t4.r.lσ, t4.len, wipeK_len, wipe_length, r.lσ]) fun i hi => (t4.keep i fun z => hi (hsl i z)).2]
            exact wipe_eq (wipe_length σ vs) fun i hi => wipe_out hi
          · refine ht f1 ρ' σ4 H3 _ t4.r ?_
            rw [ec]
            intro H4 s4
            cases c with
            | false =>
              show (if false = true then _ else _)
              rw [if_neg Bool.false_ne_true]
              have er : lcE h gt ge ρ (ds.drop (i + 1)) = .ok rest := er
              have s24 := s3.trans s4
              exact ⟨hlt, acc, es, rest, s24 _ _ hD, r2.mono s24, x2.same s24, by omega, er, eall, sHH.trans s24, fun q eq => s24 _ _ (hpf2 q eq)⟩
            | true =>
              show (if true = true then _ else _)
              rw [if_pos rfl]
              have er : bnd (ge ρ') (fun e => bnd (lcE h gt ge ρ (ds.drop (i + 1))) fun es => .ok (e :: es)) = .ok rest := er
              obtain ⟨e, ee, er⟩ := bnd_inv er
              obtain ⟨es', ees, er⟩ := bnd_inv er
              cases er
              refine he f1 ρ' σ4 H4 _ (t4.r.mono s4) ?_
              rw [ee]
              intro y H5 s5 x5
              have s25 := (s3.trans s4).trans s5
              have hD5 := s25 _ _ hD
              refine ⟨acc, hD5, Nat.lt_of_lt_of_le (show acc.length < 100001 by omega) (by decide), hlt, acc ++ [y], es ++ [e], es', upd_same, (r2.mono s25).updAt hD5 trivial trivial h0 (fun z => ((r2.pin D dP).2 z)) dP (fun _ _ _ => hDS), ?_, by rw [List.length_append, List.length_singleton]; omega, ees, by rw [eall]; simp, ?_, fun q eq => ?_⟩
              · refine ((x2.same s25).updM hD5 trivial fun a y z => (y.1 rfl).2 (z ▸ dP)).append (.cons ?_ .nil)
                refine Rp.updM hD5 trivial (fun a y z => (y.1 rfl).2 (z ▸ dP)) (x5.weak fun a y => (fm_wipe no).mp (t4.fm' noSl y))
              · intro a o ha
                have na : a ≠ D := fun z => by
                  have z1 := s1 _ _ ha
                  rw [z, nD] at z1
                  cases z1
                rw [upd_ne na]
                exact s25 _ _ (sHH _ _ ha)
              · have nq : q.1 ≠ D := fun z => by
                  have z1 := hpf q eq
                  rw [z, nD] at z1
                  cases z1
                rw [upd_ne nq]
                exact s25 _ _ (hpf2 q eq)
        · have ei : i = ds.length := by omega
          subst ei
          refine .inl ⟨sc.stops H2 stand, ?_⟩
          rw [List.drop_length] at er
          cases er
          rw [List.append_nil] at eall
          subst eall
          refine q D H2 (s1.free nD) sHH ⟨acc, _, rfl, hD, x2.weak fun a y => fmf y⟩
    · rw [if_neg hl] at q
      exact q.elim
end Sim
end T_SimE
section T_SimF
set_option Elab.async false
set_option linter.all false
set_option maxRecDepth 100000
namespace Sim
open PySem PySem.Spec L2
open PyProof.Rows hiding St
inductive Fl where
  | nx (ρ : List Dt) | rt (d : Dt) | bk (ρ : List Dt) | ct (ρ : List Dt)
abbrev Gs := List Dt → O Fl
inductive Lk where
  | n | l | m | ml | t
def sclA : List Dt → Bool
  | [] => true
  | d :: ds => scl d && sclA ds
def sclV : List (Dt × Dt) → Bool
  | [] => true
  | d :: ds => scl d.2 && sclV ds
def ArgAt (K : PySem.W.Frag) (H : Hp) (a : Addr) (d : Dt) : Prop := match d with
  | .list es => sclA es = true ∧ ∃ ws, H a = some (.lst ws) ∧ RpA K (fun _ => False) H ws es
  | .dict es => sclV es = true ∧ ∃ kvs, H a = some (.dK kvs) ∧ KvA K (fun _ => False) H kvs es
  | _ => False
def PoS (K : PySem.W.Frag) (W : Wt) (L : Lk) (f : Fm) (Δn Δb Δc : List Kd) (o : O Fl) (E : Ends) : Prop := match o with
  | .bad => False
  | .ex e => ∀ σ' H', Same f.H0 H' → W e σ' H'
  | .ok (.nx ρ) => ∀ σ' H', R K f Δn ρ σ' H' → E.nx σ' H'
  | .ok (.rt d) => (match L with
    | .l => ∀ p H', f.H0 p = none → Same f.H0 H' → OwC K .l (fun a => f.G a ∧ a ≠ p) H' p d → E.rt (.ref p) H'
    | .n => ∀ v H', Same f.H0 H' → Rp K f.G H' v d → E.rt v H'
    | .t => ∀ v H' L, Same f.H0 H' → Tr K f.G H' v d L → E.rt v H'
    | .m => (match f.A, d with
      | some a, .tuple [r, e] => ∀ v H', Same f.H0 H' → ArgAt K H' a e → Rp K (fun b => f.G b ∧ b ≠ a) H' v r → E.rt v H'
      | _, _ => False)
    | .ml => (match f.A, d with
      | some a, .tuple [r, e] => ∀ p H', p ≠ a → f.H0 p = none → Same f.H0 H' → ArgAt K H' a e → OwC K .l (fun b => (f.G b ∧ b ≠ a) ∧ b ≠ p) H' p r → E.rt (.ref p) H'
      | _, _ => False))
  | .ok (.bk ρ) => ∀ σ' H', R K f Δb ρ σ' H' → E.bk σ' H'
  | .ok (.ct ρ) => ∀ σ' H', R K f Δc ρ σ' H' → E.ct σ' H'
def SS (K : PySem.W.Frag) (W : Wt) (L : Lk) (Δ Δn Δb Δc : List Kd) (ts : TS) (g : Gs) : Prop := ∀ f ρ σ H E, R K f Δ ρ σ H → PoS K W L f Δn Δb Δc (g ρ) E → ts E σ H
def gNext : Gs := fun ρ => .ok (.nx ρ)
def gSeqS (a b : Gs) : Gs := fun ρ => match a ρ with
  | .ok (.nx ρ') => b ρ'
  | o => o
def gRet (g : Gd) : Gs := fun ρ => bnd (g ρ) fun d => .ok (.rt d)
def gAsg (g : Gd) (h : Dt → List Dt → O (List Dt)) : Gs := fun ρ => bnd (g ρ) fun d => match h d ρ with
  | .ok ρ' => .ok (.nx ρ')
  | _ => .bad
def gSet (i : Nat) (g : Gd) : Gs := fun ρ => bnd (g ρ) fun d => .ok (.nx (ρ.set i d))
def gAug (h : Int → Int → Int) (i : Nat) (g : Gd) : Gs := fun ρ => match ρ[i]? with
  | some (.int a) => bnd (g ρ) fun d => (match d with
    | .int b => .ok (.nx (ρ.set i (.int (h a b))))
    | _ => .bad)
  | _ => .bad
def gDrop (g : Gd) : Gs := fun ρ => bnd (g ρ) fun _ => .ok (.nx ρ)
def gApp (i : Nat) (g : Gd) : Gs := fun ρ => match ρ[i]? with
  | some (.list ds) => bnd (g ρ) fun d => if ds.length < 100000 then .ok (.nx (ρ.set i (.list (ds ++ [d])))) else .bad
  | _ => .bad
def gSetI (i : Nat) (ge gi : Gd) : Gs := fun ρ => bnd (ge ρ) fun d => match ρ[i]? with
  | some (.list ds) => bnd (gi ρ) fun k => (match k with
    | .int k => (match ixN ds.length k with
      | some j => .ok (.nx (ρ.set i (.list (ds.set j d))))
      | none => .bad)
    | _ => .bad)
  | _ => .bad
def gIfS (t : List Dt → O Bool) (a b : Gs) : Gs := fun ρ => bnd (t ρ) fun c => if c then a ρ else b ρ
def gWhile (t : List Dt → O Bool) (b : Gs) : Nat → Gs
  | 0 => fun _ => .bad
  | n + 1 => fun ρ => bnd (t ρ) fun c => if c then (bnd (b ρ) fun fl => match fl with
    | .nx ρ' => gWhile t b n ρ'
    | .ct ρ' => gWhile t b n ρ'
    | .bk ρ' => .ok (.nx ρ')
    | .rt d => .ok (.rt d)) else .ok (.nx ρ)
def forE (h : Dt → List Dt → O (List Dt)) (b : Gs) : List Dt → Gs
  | [] => fun ρ => .ok (.nx ρ)
  | d :: ds => fun ρ => match h d ρ with
    | .ok ρ1 => bnd (b ρ1) fun fl => (match fl with
      | .nx ρ' => forE h b ds ρ'
      | .ct ρ' => forE h b ds ρ'
      | .bk ρ' => .ok (.nx ρ')
      | .rt d => .ok (.rt d))
    | _ => .bad
def gFor (gi : List Dt → O (List Dt)) (h : Dt → List Dt → O (List Dt)) (b : Gs) : Gs := fun ρ => bnd (gi ρ) fun ds => forE h b ds ρ
section
variable {K : PySem.W.Frag} {W : Wt} {Δ Δ1 Δ2 Δn Δb Δc : List Kd} {te ti : TE} {tt : TT} {t u : TS} {ta : TA} {g ge gi : Gd} {gt : List Dt → O Bool} {gA : List Dt → O (List Dt)} {ga gb : Gs} {fr fr' av av' : Bool} {L : Lk} {i j : Nat}
theorem SS.pre (h : SS K W L Δ1 Δn Δb Δc t ga) (l : leA Δ Δ1 = true) : SS K W L Δ Δn Δb Δc t ga := fun f ρ σ H E r q => h f ρ σ H E (r.weak l) q
theorem SS.post {Δn' Δb' Δc' : List Kd} (h : SS K W L Δ Δn Δb Δc t ga) (ln : leA Δn Δn' = true) (lb : leA Δb Δb' = true) (lc : leA Δc Δc' = true) : SS K W L Δ Δn' Δb' Δc' t ga := fun f ρ σ H E r q => h f ρ σ H E r <| by
  cases e : ga ρ with
  | bad => rw [e] at q; exact q
  | ex z => rw [e] at q; exact q
  | ok fl =>
    rw [e] at q
    cases fl with
    | nx ρ' => exact fun σ' H' r => q σ' H' (r.weak ln)
    | rt d => exact q
    | bk ρ' => exact fun σ' H' r => q σ' H' (r.weak lb)
    | ct ρ' => exact fun σ' H' r => q σ' H' (r.weak lc)
theorem s_next : SS K W L Δ Δ Δb Δc tNext gNext := fun f ρ σ H E r q => q σ H r
theorem s_seq (h1 : SS K W L Δ Δ1 Δb Δc t ga) (h2 : SS K W L Δ1 Δn Δb Δc u gb) : SS K W L Δ Δn Δb Δc (tSeq t u) (gSeqS ga gb) := fun f ρ σ H E r q => h1 f ρ σ H _ r <| by
  unfold gSeqS at q
  cases e : ga ρ with
  | bad => rw [e] at q; exact q
  | ex z => rw [e] at q; exact q
  | ok fl =>
    rw [e] at q
    cases fl with
    | nx ρ' => exact fun σ' H' r' => h2 f ρ' σ' H' E r' q
    | rt d => exact q
    | bk ρ' => exact q
    | ct ρ' => exact q
theorem s_ret (h : SE K W Δ te (.v av true) g) : SS K W .n Δ Δn Δb Δc (tRet te) (gRet g) := fun f ρ σ H E r q => h f ρ σ H _ r <| by
  unfold gRet at q
  cases e : g ρ with
  | bad => rw [e] at q; exact q
  | ex z => rw [e] at q; exact fun H' s => q σ H' (r.ext.trans s)
  | ok d =>
    rw [e] at q
    exact fun v H' s x => q v H' (r.ext.trans s) (x.weak fun a fa => fa.2 rfl)
theorem s_retL (h : SE K W Δ te (.new .l true) g) : SS K W .l Δ Δn Δb Δc (tRet te) (gRet g) := fun f ρ σ H E r q => h f ρ σ H _ r <| by
  unfold gRet at q
  cases e : g ρ with
  | bad => rw [e] at q; exact q
  | ex z => rw [e] at q; exact fun H' s => q σ H' (r.ext.trans s)
  | ok d =>
    rw [e] at q
    exact fun p H' np s x => q p H' (r.fresh np).2.2 (r.ext.trans s) (x.map (fun _ e => e) fun _ _ y => y.weak fun a fa => ⟨fa.1.2 rfl, fa.2⟩)
theorem s_retO (hk : Δ[i]? = some (.own .l true)) : SS K W .l Δ Δn Δb Δc (tRet (tVar i)) (gRet (gVar i)) := fun f ρ σ H E r q => by
  obtain ⟨p, d, h1, h2, h3, h4⟩ := r.ow i .l true hk
  unfold gRet gVar at q
  rw [h2, bnd_ok] at q
  exact ⟨_, h1, q p H h3 r.ext (h4.map (fun _ e => e) fun _ _ y => y.weak fun a fa => ⟨fa.2 rfl, fun z => (fa.1 rfl).1 (z ▸ ⟨i, .l, true, hk, h1⟩)⟩)⟩
theorem s_drop {k : Rk} (h : SE K W Δ te k g) : SS K W L Δ Δ Δb Δc (tDrop te) (gDrop g) := fun f ρ σ H E r q => h f ρ σ H _ r <| by
  unfold gDrop at q
  cases e : g ρ with
  | bad => rw [e] at q; exact q
  | ex z => rw [e] at q; exact fun H' s => q σ H' (r.ext.trans s)
  | ok d =>
    rw [e] at q
    cases k with
    | v av fr => exact fun v H' s x => q σ H' (r.mono s)
    | o fr => exact fun p H' vs ds e s _ _ _ => q σ H' (r.mono s)
    | new c fr => exact fun p H' np s x => q σ H' (r.mono s)
theorem s_set (hi : i < Δ.length) (h : SE K W Δ te (.v true fr) g) : SS K W L Δ (Δ.set i (.im fr)) Δb Δc (tAsg te (gName i)) (gSet i g) := fun f ρ σ H E r q => h f ρ σ H _ r <| by
  unfold gSet at q
  cases e : g ρ with
  | bad => rw [e] at q; exact q
  | ex z => rw [e] at q; exact fun H' s => q σ H' (r.ext.trans s)
  | ok d =>
    rw [e] at q
    exact fun v H' s x => q _ H' ((r.mono s).setIm hi x)
theorem s_setO {c : Ct} (hi : i < Δ.length) (h : SE K W Δ te (.new c fr) g) (hc : isArg c = false := by rfl) : SS K W L Δ (Δ.set i (.own c fr)) Δb Δc (tAsg te (gName i)) (gSet i g) := fun f ρ σ H E r q => h f ρ σ H _ r <| by
  unfold gSet at q
  cases e : g ρ with
  | bad => rw [e] at q; exact q
  | ex z => rw [e] at q; exact fun H' s => q σ H' (r.ext.trans s)
  | ok d =>
    rw [e] at q
    exact fun p H' np s x => q _ H' (r.setOwn hi np s x hc)
theorem s_aug {hf : Int → Int → Int} (hk : Δ[i]? = some (.im fr)) (h : SE K W Δ te (.v av' fr') g) : SS K W L Δ (Δ.set i (.im true)) Δb Δc (tAug i te (ipI hf)) (gAug hf i g) := fun f ρ σ H E r q => by
  obtain ⟨v, d, h1, h2, h3⟩ := r.im i fr hk
  have hi : i < Δ.length := (List.getElem?_eq_some_iff.mp hk).1
  unfold gAug at q
  rw [h2] at q
  cases h3 with
  | int a =>
    refine ⟨_, h1, h f ρ σ H _ r ?_⟩
    simp only at q
    cases e : g ρ with
    | bad => rw [e] at q; exact q
    | ex z => rw [e] at q; exact fun H' s => q σ H' (r.ext.trans s)
    | ok d =>
      rw [e, bnd_ok] at q
      intro v H' s x
      cases d with
      | int b =>
        rw [rpInt x]
        exact ⟨a, b, rfl, rfl, q _ H' ((r.mono s).setIm hi (.int _))⟩
      | _ => exact q.elim
  | non => exact q.elim
  | bl => exact q.elim
  | str => exact q.elim
  | lst => exact q.elim
  | fz => exact q.elim
  | tup => exact q.elim
  | dic => exact q.elim
  | exn => exact q.elim
theorem s_app (hk : Δ[i]? = some (.own .l fr)) (h : SE K W Δ te (.v true fr') g) : SS K W L Δ (Δ.set i (.own .l (fr && fr'))) Δb Δc (tDrop (tBM K "list" rAppend (tVar i) (tCons te tNil))) (gApp i g) := fun f ρ σ H E r q => by
  obtain ⟨p, d, h1, h2, h3, vs, ds, ed, h4, h5⟩ := r.ow i .l fr hk
  subst ed
  unfold gApp at q
  rw [h2] at q
  simp only at q
  refine ⟨_, h1, .inl ⟨rfl, _, .inl (.inl h4)⟩, h f ρ σ H _ r ?_⟩
  cases e : g ρ with
  | bad => rw [e] at q; exact q
  | ex z => rw [e] at q; exact fun H' s => q σ H' (r.ext.trans s)
  | ok d =>
    rw [e, bnd_ok] at q
    intro v H1 s x
    by_cases hl : ds.length < 100000
    · rw [if_pos hl] at q
      have hp := s _ _ h4
      have hl2 : vs.length < sizeLine := by rw [h5.length]; exact Nat.lt_of_lt_of_le hl (by decide)
      refine ⟨p, vs, v, rfl, rfl, hp, hl2, q σ _ ?_⟩
      refine (r.mono s).updOwn hk h1 (c' := .l) (show Mutb (.lst _) from trivial) ⟨_, _, rfl, upd_same, ?_⟩
      have nf : ∀ {fr : Bool} (a : Addr), FM f Δ σ true fr a → a ≠ p := fun a fa z => (fa.1 rfl).1 (z ▸ ⟨i, .l, _, hk, h1⟩)
      exact (((h5.same s).updM hp trivial fun a fa => nf a fa).weak fun a y => y.weak id fun h => (Bool.and_eq_true_iff.mp h).1).append
        (.cons ((Rp.updM hp trivial (fun a fa => nf a fa) x).weak fun a y => y.weak id fun h => (Bool.and_eq_true_iff.mp h).2) .nil)
    · rw [if_neg hl] at q
      exact q.elim
theorem s_setI (hk : Δ[i]? = some (.own .l fr)) (h : SE K W Δ te (.v true fr') ge) (h2 : SE K W Δ ti (.v av av') gi) : SS K W L Δ (Δ.set i (.own .l (fr && fr'))) Δb Δc (tAsg te (gSub (tVar i) ti rSetL)) (gSetI i ge gi) := fun f ρ σ H E r q => h f ρ σ H _ r <| by
  obtain ⟨p, d, g1, g2, g3, vs, ds, ed, g4, g5⟩ := r.ow i .l fr hk
  subst ed
  unfold gSetI at q
  cases e : ge ρ with
  | bad => rw [e] at q; exact q
  | ex z => rw [e] at q; exact fun H' s => q σ H' (r.ext.trans s)
  | ok d =>
    rw [e, bnd_ok, g2] at q
    simp only at q
    intro v H1 s x
    refine ⟨_, g1, h2 f ρ σ H1 _ (r.mono s) ?_⟩
    cases e2 : gi ρ with
    | bad => rw [e2] at q; exact q
    | ex z => rw [e2] at q; exact fun H' s2 => q σ H' ((r.ext.trans s).trans s2)
    | ok k =>
      rw [e2, bnd_ok] at q
      intro kv H2 s2 xk
      cases k with
      | int k =>
        simp only at q
        cases ej : ixN ds.length k with
        | none => rw [ej] at q; exact q.elim
        | some j =>
          rw [ej] at q
          rw [rpInt xk]
          have s12 := s.trans s2
          have hp := s12 _ _ g4
          refine ⟨p, vs, k, j, rfl, rfl, hp, by rw [g5.length]; exact ej, q σ _ ?_⟩
          refine (r.mono s12).updOwn hk g1 (c' := .l) (show Mutb (.lst _) from trivial) ⟨_, _, rfl, upd_same, ?_⟩
          have nf : ∀ {fr : Bool} (a : Addr), FM f Δ σ true fr a → a ≠ p := fun a fa z => (fa.1 rfl).1 (z ▸ ⟨i, .l, _, hk, g1⟩)
          exact RpA.set ((Rp.updM hp trivial (fun a fa => nf a fa) (x.same s2)).weak fun a y => y.weak id fun h => (Bool.and_eq_true_iff.mp h).2) j
            (((g5.same s12).updM hp trivial fun a fa => nf a fa).weak fun a y => y.weak id fun h => (Bool.and_eq_true_iff.mp h).1)
      | _ => exact q.elim
theorem s_if (h : ST K W Δ tt gt) (h1 : SS K W L Δ Δn Δb Δc t ga) (h2 : SS K W L Δ Δn Δb Δc u gb) : SS K W L Δ Δn Δb Δc (tIfS tt t u) (gIfS gt ga gb) := fun f ρ σ H E r q => h f ρ σ H _ r <| by
  unfold gIfS at q
  cases e : gt ρ with
  | bad => rw [e] at q; exact q
  | ex z => rw [e] at q; exact fun H' s => q σ H' (r.ext.trans s)
  | ok c =>
    rw [e, bnd_ok] at q
    intro H1 s
    cases c with
    | true => exact h1 f ρ σ H1 E (r.mono s) q
    | false => exact h2 f ρ σ H1 E (r.mono s) q
theorem s_while (n : Nat) (h : ST K W Δ tt gt) (hb : SS K W L Δ Δ Δ Δ t gb) : SS K W L Δ Δ Δb Δc (tWhile tt t) (gWhile gt gb n) := fun f ρ σ H E r q => by
  refine ⟨fun m σ H => ∃ ρ, R K f Δ ρ σ H ∧ PoS K W L f Δ Δb Δc (gWhile gt gb m ρ) E, ⟨n, ρ, r, q⟩, ?_⟩
  rintro m σ1 H1 ⟨ρ1, r1, q1⟩
  cases m with
  | zero => exact q1.elim
  | succ m =>
    refine h f ρ1 σ1 H1 _ r1 ?_
    unfold gWhile at q1
    cases e : gt ρ1 with
    | bad => rw [e] at q1; exact q1
    | ex z => rw [e] at q1; exact fun H' s => q1 σ1 H' (r1.ext.trans s)
    | ok c =>
      rw [e, bnd_ok] at q1
      intro H2 s2
      cases c with
      | false => exact q1 σ1 H2 (r1.mono s2)
      | true =>
        show (if true = true then _ else _)
        rw [if_pos rfl]
        refine ⟨fun σ' H' => ∃ ρ', R K f Δ ρ' σ' H' ∧ PoS K W L f Δ Δb Δc (gWhile gt gb m ρ') E, fun σ' H' w => ⟨m, Nat.lt_succ_self m, w⟩, hb f ρ1 σ1 H2 _ (r1.mono s2) ?_⟩
        have q1 : PoS K W L f Δ Δb Δc (bnd (gb ρ1) fun fl => match fl with | .nx ρ' => gWhile gt gb m ρ' | .ct ρ' => gWhile gt gb m ρ' | .bk ρ' => .ok (.nx ρ') | .rt d => .ok (.rt d)) E := q1
        cases e2 : gb ρ1 with
        | bad => rw [e2] at q1; exact q1
        | ex z => rw [e2] at q1; exact q1
        | ok fl =>
          rw [e2, bnd_ok] at q1
          cases fl with
          | nx ρ' => exact fun σ' H' r' => ⟨ρ', r', q1⟩
          | ct ρ' => exact fun σ' H' r' => ⟨ρ', r', q1⟩
          | bk ρ' => exact q1
          | rt d => exact q1
theorem PoS.toG {f : Fm} {gg : List V × List Dt × Bool} {o : O Fl} {E : Ends} (q : PoS K W L f Δn Δb Δc o E) : PoS K W L { f with Γ := gg :: f.Γ } Δn Δb Δc o E := by
  cases o with
  | bad => exact q
  | ex z => exact q
  | ok fl =>
    cases fl with
    | nx ρ => exact fun σ' H' r => q σ' H' r.dropG
    | rt d => exact q
    | bk ρ => exact fun σ' H' r => q σ' H' r.dropG
    | ct ρ => exact fun σ' H' r => q σ' H' r.dropG
theorem s_for {wi : TI} {gg : TG} {sl : List Nat} {n : Nat} {hh : Dt → List Dt → O (List Dt)} {TK : Bool → List Kd → List Kd} {gI : List Dt → O (List Dt)} (hn : Δ.length = n) (h : SI K W Δ wi false fr gI) (hg : GJ K n gg sl hh TK) (hb : SS K W L (TK fr Δ) Δ Δ Δ t gb) :
    SS K W L Δ Δ Δb Δc (tFor wi gg t) (gFor gI hh gb) := fun f ρ σ H E r q => h f ρ σ H _ r <| by
  unfold gFor at q
  cases e : gI ρ with
  | bad => rw [e] at q; exact q
  | ex z => rw [e] at q; exact fun H' s => q σ H' (r.ext.trans s)
  | ok ds =>
    rw [e, bnd_ok] at q
    intro J H1 pf vs es s1 hpf _ x sc
    have hpf := hpf rfl
    subst hpf
    have r1 := (r.mono s1).addG (fr := fr) x
    have q1 := q.toG (gg := (vs, es, fr))
    generalize hf1 : ({ f with Γ := (vs, es, fr) :: f.Γ } : Fm) = f1 at r1 q1
    have gG : (vs, es, fr) ∈ f1.Γ := by rw [← hf1]; exact List.mem_cons_self
    refine ⟨fun i m σ H => m = ds.length - i ∧ i ≤ ds.length ∧ ∃ ρ, R K f1 Δ ρ σ H ∧ PoS K W L f1 Δ Δb Δc (forE hh gb (ds.drop i) ρ) E, ⟨ds.length, by simp, Nat.zero_le _, ρ, r1, q1⟩, ?_⟩
    rintro i m σ2 H2 ⟨rfl, hi, ρ2, r2, q2⟩
    have stand : (∀ q, (none : Option (Addr × HO)) = some q → H2 q.1 = some q.2) ∧ ∃ F, RpA K F H2 vs es := ⟨fun _ e => (nomatch e), _, r2.gh _ gG⟩
    by_cases hlt : i < ds.length
    · refine .inr ⟨sc.goes i H2 hlt stand, fun σ' H' => i + 1 ≤ ds.length ∧ ∃ ρ, R K f1 Δ ρ σ' H' ∧ PoS K W L f1 Δ Δb Δc (forE hh gb (ds.drop (i + 1)) ρ) E, fun σ' H' w => ⟨ds.length - (i + 1), by omega, rfl, w⟩, fun x H3 hy => ?_⟩
      obtain ⟨s3, hx⟩ := sc.yields i H2 x H3 hlt stand hy
      obtain ⟨d, hd, x3⟩ := hx _ (r2.gh _ gG)
      have edrop : ds.drop i = d :: ds.drop (i + 1) := by
        have hd' := (List.getElem?_eq_some_iff.mp hd).2
        rw [List.drop_eq_getElem_cons hlt, hd']
      rw [edrop] at q2
      unfold forE at q2
      refine hg f1 Δ ρ2 σ2 H3 x d fr _ hn (r2.mono s3) x3 ?_
      cases eh : hh d ρ2 with
      | bad => rw [eh] at q2; exact q2.elim
      | ex z => rw [eh] at q2; exact q2.elim
      | ok ρ3 =>
        rw [eh] at q2
        simp only at q2
        intro σ4 t4
        refine hb f1 ρ3 σ4 H3 _ t4.r ?_
        cases e2 : gb ρ3 with
        | bad => rw [e2] at q2; exact q2
        | ex z => rw [e2] at q2; exact q2
        | ok fl =>
          rw [e2, bnd_ok] at q2
          cases fl with
          | nx ρ' => exact fun σ' H' r' => ⟨hlt, ρ', r', q2⟩
          | ct ρ' => exact fun σ' H' r' => ⟨hlt, ρ', r', q2⟩
          | bk ρ' => exact q2
          | rt d => exact q2
    · have ei : i = ds.length := by omega
      subst ei
      rw [List.drop_length] at q2
      exact .inl ⟨sc.stops H2 stand, q2 σ2 H2 r2⟩
end
def Wcls (mg : Str → Option Value) (e : Exn) (E : XK) (H' : Hp) : Prop := ∀ C, mg e.cls = some (.ref C) → match e.arg with
  | none => E (.ref C) none H'
  | some m => ∀ d, H' d = some (.xd [("moment", .int m)]) → E (.ref C) (some d) H'
def spG (K : PySem.W.Frag) (mg : Str → Option Value) (n : Nat) (g : List Dt → O Dt) : Sp := fun vs H Q E => ∃ ds, vs.length = n ∧ RpA K (fun _ => True) H vs ds ∧ (match g ds with
  | .bad => False
  | .ex e => ∀ H', Same H H' → Wcls mg e E H'
  | .ok d => ∀ v H', Same H H' → Rp K (fun a => H a = none) H' v d → Q v H')
def spL (K : PySem.W.Frag) (mg : Str → Option Value) (n : Nat) (g : List Dt → O Dt) : Sp := fun vs H Q E => ∃ ds, vs.length = n ∧ RpA K (fun _ => True) H vs ds ∧ (match g ds with
  | .bad => False
  | .ex e => ∀ H', Same H H' → Wcls mg e E H'
  | .ok d => ∀ p H', H p = none → Same H H' → OwC K .l (fun a => H a = none ∧ a ≠ p) H' p d → Q (.ref p) H')
def gCallN (n : Nat) (g : List Dt → O Dt) (gA : List Dt → O (List Dt)) : Gd := fun ρ => bnd (gA ρ) fun ds => if ds.length = n then (match g ds with
  | .ok d => .ok d
  | _ => .bad) else .bad
section
variable {K : PySem.W.Frag} {W : Wt} {Δ : List Kd} {ta : TA} {gA : List Dt → O (List Dt)} {av fr : Bool} {mg : Str → Option Value} {n : Nat} {g : List Dt → O Dt}
theorem se_callN (h : SA K W Δ ta av fr gA) : SE K W Δ (tCall (spG K mg n g) [] E0 ta) (.v true true) (gCallN n g gA) := fun f ρ σ H Q r q => h f ρ σ H _ r <| by
  unfold gCallN at q
  cases e : gA ρ with
  | bad => rw [e] at q; exact q
  | ex z => rw [e] at q; exact q
  | ok ds =>
    rw [e, bnd_ok] at q
    intro vs H1 s1 x1
    by_cases hn : ds.length = n
    · rw [if_pos hn] at q
      rw [List.append_nil]
      refine ⟨ds, by rw [x1.length]; exact hn, x1.weak fun _ _ => trivial, ?_⟩
      cases e2 : g ds with
      | bad => rw [e2] at q; exact q.elim
      | ex z => rw [e2] at q; exact q.elim
      | ok d =>
        rw [e2] at q
        intro v H2 s2 x2
        refine q v H2 (s1.trans s2) (x2.weak fun a na => ?_)
        obtain ⟨f1, f2, f3⟩ := (r.mono s1).fresh na
        exact ⟨fun _ => ⟨f1, f2⟩, fun _ => r.g0 a f3⟩
    · rw [if_neg hn] at q
      exact q.elim
theorem se_callL (h : SA K W Δ ta av fr gA) : SE K W Δ (tCall (spL K mg n g) [] E0 ta) (.new .l true) (gCallN n g gA) := fun f ρ σ H Q r q => h f ρ σ H _ r <| by
  unfold gCallN at q
  cases e : gA ρ with
  | bad => rw [e] at q; exact q
  | ex z => rw [e] at q; exact q
  | ok ds =>
    rw [e, bnd_ok] at q
    intro vs H1 s1 x1
    by_cases hn : ds.length = n
    · rw [if_pos hn] at q
      rw [List.append_nil]
      refine ⟨ds, by rw [x1.length]; exact hn, x1.weak fun _ _ => trivial, ?_⟩
      cases e2 : g ds with
      | bad => rw [e2] at q; exact q.elim
      | ex z => rw [e2] at q; exact q.elim
      | ok d =>
        rw [e2] at q
        intro p H2 np s2 x2
        refine q p H2 (s1.free np) (s1.trans s2) (x2.map (fun _ e => e) fun _ _ y => y.weak fun a na => ?_)
        obtain ⟨f1, f2, f3⟩ := (r.mono s1).fresh na.1
        exact ⟨⟨fun _ => ⟨f1, f2⟩, fun _ => r.g0 a f3⟩, na.2⟩
    · rw [if_neg hn] at q
      exact q.elim
end
end Sim
end T_SimF
section T_SimG
set_option Elab.async false
set_option linter.all false
set_option maxRecDepth 100000
namespace Sim
open PySem PySem.Spec L2
open PyProof.Rows hiding St
section
variable {X : Cx} {K : PySem.W.Frag} {W : Wt} {Δ Δ1 Δn Δb Δc : List Kd} {a b c e elt tg iter : Expr} {es ifs : List Expr} {ta tb tc te : TE} {tt tu : TT} {tA : TA} {ga gb gc g ge gi : Gd} {gt gu : List Dt → O Bool} {gA gI : List Dt → O (List Dt)} {k k1 k2 : Rk} {av fr av' fr' : Bool} {L : Lk} {pos : Pos} {t u : TS} {g1 g2 : Gs}
theorem x_ix (ha : PD X K W Δ a ta (.v av fr) ga) (hb : PD X K W Δ b tb (.v av' fr') gb) (hs : PlainIx b := by exact fun _ _ => rfl) : PD X K W Δ (.Subscript a b pos) (tOp (rIx K) ta tb) (.v av fr) (gOp hIx ga gb) :=
  ⟨pe_ix (by have q := ix_seq (X := X); rw [ha.hK] at q; exact q) ha.pe hb.pe hs, ha.hK, se_ix ha.se hb.se⟩
theorem x_ixO (ha : PD X K W Δ a ta (.o fr) ga) (hb : PD X K W Δ b tb (.v av' fr') gb) (hs : PlainIx b := by exact fun _ _ => rfl) : PD X K W Δ (.Subscript a b pos) (tOp (rIx K) ta tb) (.v true fr) (gOp hIx ga gb) :=
  ⟨pe_ix (by have q := ix_seq (X := X); rw [ha.hK] at q; exact q) ha.pe hb.pe hs, ha.hK, se_ixO ha.se hb.se⟩
structure OD (X : Cx) (K : PySem.W.Frag) (W : Wt) (Δ : List Kd) (e : Option Expr) (to : TOp) (g : List Dt → O (Option Int)) : Prop where
  po : PO X e to
  so : SO K W Δ to g
theorem o_none : OD X K W Δ none tNoPart gNoPart := ⟨po_none, so_none⟩
theorem o_some (h : PD X K W Δ e te (.v av fr) g) : OD X K W Δ (some e) (tPart te) (gPart g) := ⟨po_some h.pe, so_some h.se⟩
theorem x_slT {lo hi : Option Expr} {tl th : TOp} {gl gh : List Dt → O (Option Int)} {p2 : Pos} (h : PD X K W Δ e te (.v av fr) g) (h1 : OD X K W Δ lo tl gl) (h2 : OD X K W Δ hi th gh) : PD X K W Δ (.Subscript e (.Slice lo hi none p2) pos) (tSl (rSlA K) te tl th) (.v av fr) (gSl hSlT g gl gh) :=
  ⟨pe_slice (by have q := sl_tupA (X := X); rw [h.hK] at q; exact q) h.pe h1.po h2.po, h.hK, se_slT h.se h1.so h2.so⟩
theorem x_cat (ha : PD X K W Δ a ta (.v true fr) ga) (hb : PD X K W Δ b tb (.v true fr') gb) : PD X K W Δ (.BinOp a .Add b pos) (tOp (rCatS K) ta tb) (.new .l (fr && fr')) (gOp hCat ga gb) :=
  ⟨pe_op (by have q := op_catS (X := X); rw [ha.hK] at q; exact q) ha.pe hb.pe, ha.hK, se_cat ha.se hb.se⟩
theorem x_list {x : Str} {p : Pos} (hm : X.mg x = none) (h : AD X K W Δ (e :: es) tA true fr gA) (hv : bootBuiltins x = some (.type "list") := by decide +kernel) (hg : Gl X x := by rfl) (hn : x ≠ "__name__" := by decide) (hdb : (x == ("__debug__" : Str)) = false := by decide)
    (he : starEach (e :: es) X.env = (false, eval e X.env) :: starEach es X.env := by rfl) (hpl : (backTo pos (starEach es X.env)).any (·.1) = false := by rfl) :
    PD X K W Δ (.Call (.Name x p) (e :: es) [] pos) (tCB (rListOf K) tA) (.new .l fr) (gCB (one hListOf) gA) :=
  ⟨pe_callTy (by have q := call_list_of (X := X); rw [h.hK] at q; exact q) hg hm hv h.pa hn hdb he hpl, h.hK, se_listOf h.sa⟩
theorem i_seq (h : PD X K W Δ e te (.v true fr) g) : ID X K W Δ tg e (iSeq K te) false fr (gSeq g) := ⟨by have q := pi_seq (tg := tg) h.pe; rw [h.hK] at q; exact q, h.hK, si_seq h.se⟩
theorem i_rng1 {p : Pos} (hm : X.mg "range" = none) (h : AD X K W Δ [a] tA av fr gA) (hg : Gl X "range" := by rfl) (hs : starEach [a] X.env = [(false, eval a X.env)] := by rfl) : ID X K W Δ tg (.Call (.Name "range" p) [a] [] pos) (iRng1 tA) false true (gRng1 gA) := ⟨pi_range1 hg hm h.pa hs, h.hK, si_rng1 h.sa⟩
theorem i_rng2 {p : Pos} (hm : X.mg "range" = none) (h : AD X K W Δ [a, b] tA av fr gA) (hg : Gl X "range" := by rfl) (hs : starEach [a, b] X.env = [(false, eval a X.env), (false, eval b X.env)] := by rfl) (hs2 : starEach [b] X.env = [(false, eval b X.env)] := by rfl) :
    ID X K W Δ tg (.Call (.Name "range" p) [a, b] [] pos) (iRng2 tA) false true (gRng2 gA) := ⟨pi_range2 hg hm h.pa hs hs2, h.hK, si_rng2 h.sa⟩
theorem g_tup {n m kk : Nat} {gs : TGs} {sl : List Nat} {u : List Dt → List Dt → O (List Dt)} {T : Bool → List Kd → List Kd} (hc : X.calm = true) (h : GDs X K n es gs sl u T) (hm : ∀ ds ρ, ds.length ≠ m → ∀ z, u ds ρ ≠ .ok z) (hl : (assignEach es X.env).length = m := by rfl) (hst : List.findIdx? (fun x => x.fst) (assignEach es X.env) = none := by rfl) :
    GD X K n (.Tuple es kk pos) (L2.gTup K m gs) sl (tgT u) T := ⟨by have q := pg_tup (X := X) (k := kk) (n := m) (pos := pos) hc h.pg hl hst; rw [h.hK] at q; exact q, h.hK, gj_tup h.gj hm⟩
structure TsD (X : Cx) (K : PySem.W.Frag) (Δ : List Kd) (ifs : List Expr) (tt : TT) (g : List Dt → O Bool) : Prop where
  pts : PTs X ifs tt
  st : ST K W0 Δ tt g
theorem t_nil : TsD X K Δ [] tYes gYes := ⟨pts_nil, fun f ρ σ H Q r q => q H (Same.refl H)⟩
theorem t_one (h : TD X K W0 Δ c tt gt) : TsD X K Δ [c] tt gt := ⟨pts_one h.pt, h.st⟩
theorem x_lc {n : Nat} {scope : Scope} (own : List (Str × Nat)) {wi : TI} {gg : TG} {sl : List Nat} {hh : Dt → List Dt → O (List Dt)} {TK : Bool → List Kd → List Kd} {bb : Bool} (hN : X.N.Nodup) (hi : ID X K W Δ tg iter wi bb fr gI) (ok : blkC X.N X.env.scope scope own = true)
    (hg : ∀ (s : Shared) (H : Hp) (C : Addr) (cl : List (Str × Addr)) (fp : List Addr), GD (X.blk s H scope (compEnvC scope cl C X.env) fp) K n tg gg sl hh TK)
    (ht : ∀ (s : Shared) (H : Hp) (C : Addr) (cl : List (Str × Addr)) (fp : List Addr), TsD (X.blk s H scope (compEnvC scope cl C X.env) fp) K (TK fr (wipeK Δ (own.map (·.2)))) ifs tt gt)
    (he : ∀ (s : Shared) (H : Hp) (C : Addr) (cl : List (Str × Addr)) (fp : List Addr), PD (X.blk s H scope (compEnvC scope cl C X.env) fp) K W0 (TK fr (wipeK Δ (own.map (·.2)))) elt te (.v true fr') ge)
    (hn : Δ.length = n := by rfl) (hsl : ∀ i ∈ sl, i ∈ own.map (·.2) := by decide) (no : noOwn Δ (own.map (·.2)) = true := by rfl) (hc : X.calm = true := by rfl) (hs : ∀ x, foldedSetIterable iter X.env x = pure x := by intro _; rfl) :
    PD X K W Δ (.ListComp elt [⟨tg, iter, ifs, 0⟩] scope pos) (tLc wi gg tt te (own.map (·.2))) (.new .l fr') (gLc gI hh gt ge) :=
  ⟨pe_lc hc hN hi.pi (blkOk_by ok) (fun s H C cl fp => (hg s H C cl fp).pg) (fun s H C cl fp => (ht s H C cl fp).pts) (fun s H C cl fp => (he s H C cl fp).pe) hs, hi.hK,
    se_lc hi.si (hg X.s_0 X.H_0 0 [] []).gj hn hsl no (ht X.s_0 X.H_0 0 [] []).st (he X.s_0 X.H_0 0 [] []).se⟩
theorem x_callN {x : Str} {p : Pos} {CXT' : CXT} {kk nn : Nat} {fa : Addr} {fd : FuncData} {ps : List Str} {gg : List Dt → O Dt} {mg : Str → Option Value} (F : FnOk X.prog X.w X.K X.mg X.base CXT' kk fa fd ps (spG K mg nn gg)) (hr : Room kk X.A) (hm : X.mg x = some (.ref fa)) (hk : PySem.W.keepIn X.K (.ref fa) = true) (hb : Binds X.K fd ps [])
    (hx : Passes CXT' X E0) (h : AD X K W Δ (e :: es) tA av fr gA) (hg : Gl X x := by rfl) (hdb : (x == ("__debug__" : Str)) = false := by decide) (he : starEach (e :: es) X.env = (false, eval e X.env) :: starEach es X.env := by rfl) (hpl : (backTo pos (starEach es X.env)).any (·.1) = false := by rfl) :
    PD X K W Δ (.Call (.Name x p) (e :: es) [] pos) (tCall (spG K mg nn gg) [] E0 tA) (.v true true) (gCallN nn gg gA) := ⟨pe_call F hr hg hm hk hb .nil hx h.pa hdb he hpl, h.hK, se_callN h.sa⟩
theorem x_callL {x : Str} {p : Pos} {CXT' : CXT} {kk nn : Nat} {fa : Addr} {fd : FuncData} {ps : List Str} {gg : List Dt → O Dt} {mg : Str → Option Value} (F : FnOk X.prog X.w X.K X.mg X.base CXT' kk fa fd ps (spL K mg nn gg)) (hr : Room kk X.A) (hm : X.mg x = some (.ref fa)) (hk : PySem.W.keepIn X.K (.ref fa) = true) (hb : Binds X.K fd ps [])
    (hx : Passes CXT' X E0) (h : AD X K W Δ (e :: es) tA av fr gA) (hg : Gl X x := by rfl) (hdb : (x == ("__debug__" : Str)) = false := by decide) (he : starEach (e :: es) X.env = (false, eval e X.env) :: starEach es X.env := by rfl) (hpl : (backTo pos (starEach es X.env)).any (·.1) = false := by rfl) :
    PD X K W Δ (.Call (.Name x p) (e :: es) [] pos) (tCall (spL K mg nn gg) [] E0 tA) (.new .l true) (gCallN nn gg gA) := ⟨pe_call F hr hg hm hk hb .nil hx h.pa hdb he hpl, h.hK, se_callL h.sa⟩
end
structure SD (X : Cx) (K : PySem.W.Frag) (W : Wt) (L : Lk) (Δ Δn Δb Δc : List Kd) (st : Stmt) (ts : TS) (g : Gs) : Prop where
  ps : PS X st ts
  hK : X.K = K
  ss : SS K W L Δ Δn Δb Δc ts g
structure BD (X : Cx) (K : PySem.W.Frag) (W : Wt) (L : Lk) (Δ Δn Δb Δc : List Kd) (sts : List Stmt) (ts : TS) (g : Gs) : Prop where
  ps : PSs X sts ts
  hK : X.K = K
  ss : SS K W L Δ Δn Δb Δc ts g
section
variable {X : Cx} {K : PySem.W.Frag} {W : Wt} {Δ Δ1 Δ2 Δn Δb Δc : List Kd} {a b c e elt tg iter : Expr} {es ifs : List Expr} {ta tb tc te ti : TE} {tt tu : TT} {tA : TA} {ga gb gc g ge gi : Gd} {gt gu : List Dt → O Bool} {gA gI : List Dt → O (List Dt)} {k k1 k2 : Rk} {av fr av' fr' : Bool} {L : Lk} {pos pos' : Pos} {t u : TS} {g1 g2 : Gs} {st : Stmt} {sts sts2 : List Stmt}
theorem SD.pre (h : SD X K W L Δ1 Δn Δb Δc st t g1) (l : leA Δ Δ1 = true := by rfl) : SD X K W L Δ Δn Δb Δc st t g1 := ⟨h.ps, h.hK, h.ss.pre l⟩
theorem BD.post {Δn' Δb' Δc' : List Kd} (h : BD X K W L Δ Δn Δb Δc sts t g1) (ln : leA Δn Δn' = true := by rfl) (lb : leA Δb Δb' = true := by rfl) (lc : leA Δc Δc' = true := by rfl) : BD X K W L Δ Δn' Δb' Δc' sts t g1 := ⟨h.ps, h.hK, h.ss.post ln lb lc⟩
theorem b_nil (hK : X.K = K := by rfl) : BD X K W L Δ Δ Δb Δc [] tNext gNext := ⟨pss_nil, hK, s_next⟩
theorem b_one (h : SD X K W L Δ Δn Δb Δc st t g1) : BD X K W L Δ Δn Δb Δc [st] t g1 := ⟨pss_one h.ps, h.hK, h.ss⟩
theorem b_cons (h : SD X K W L Δ Δ1 Δb Δc st t g1) (h2 : BD X K W L Δ1 Δn Δb Δc sts u g2) : BD X K W L Δ Δn Δb Δc (st :: sts) (tSeq t u) (gSeqS g1 g2) := ⟨pss_cons h.ps h2.ps, h.hK, s_seq h.ss h2.ss⟩
theorem z_ret (h : PD X K W Δ e te (.v av true) g) : SD X K W .n Δ Δn Δb Δc (.Return (some e) pos) (tRet te) (gRet g) := ⟨ps_ret h.pe, h.hK, s_ret h.se⟩
theorem z_retL (h : PD X K W Δ e te (.new .l true) g) : SD X K W .l Δ Δn Δb Δc (.Return (some e) pos) (tRet te) (gRet g) := ⟨ps_ret h.pe, h.hK, s_retL h.se⟩
theorem z_retO (i : Nat) {x : Str} {p : Pos} (hk : Δ[i]? = some (.own .l true) := by rfl) (hN : X.N[i]? = some x := by rfl) (hv : Vis X.env.scope x := by first | exact Or.inl rfl | exact Or.inr (Or.inl rfl) | exact Or.inr (Or.inr rfl)) (hd : (x == ("__debug__" : Str)) = false := by decide)
    (hcd : (x == ("__classdict__" : Str)) = false := by decide) (hK : X.K = K := by rfl) : SD X K W .l Δ Δn Δb Δc (.Return (some (.Name x p)) pos) (tRet (tVar i)) (gRet (gVar i)) := ⟨ps_ret (pe_var hN hv hd hcd), hK, s_retO hk⟩
theorem z_expr (h : PD X K W Δ e te k g) (hs : swapsWith e none pos.line X.env = pure false := by rfl) : SD X K W L Δ Δ Δb Δc (.Expr e pos) (tDrop te) (gDrop g) := ⟨ps_expr h.pe hs, h.hK, s_drop h.se⟩
theorem z_set (i : Nat) {x : Str} (hN : X.N.Nodup) (h : PD X K W Δ e te (.v true fr) g) (hn : i < Δ.length := by decide) (hi : X.N[i]? = some x := by rfl) (hx : Loc X.env.scope x := by first | exact .inl rfl | exact .inr rfl) (hs : swapsWith e (some (.Name x pos')) pos.line X.env = pure false := by rfl) (hf : X.fn x = true ∨ X.env.scope.names.lookup x = some .local := by first | exact .inl rfl | exact .inr rfl) :
    SD X K W L Δ (Δ.set i (.im fr)) Δb Δc (.Assign [.Name x pos'] e pos) (tAsg te (gName i)) (gSet i g) := ⟨ps_set hN hi hx h.pe hs hf, h.hK, s_set hn h.se⟩
theorem z_setO (i : Nat) {x : Str} {ct : Ct} (hN : X.N.Nodup) (h : PD X K W Δ e te (.new ct fr) g) (hn : i < Δ.length := by decide) (hct : isArg ct = false := by rfl) (hi : X.N[i]? = some x := by rfl) (hx : Loc X.env.scope x := by first | exact .inl rfl | exact .inr rfl) (hs : swapsWith e (some (.Name x pos')) pos.line X.env = pure false := by rfl) (hf : X.fn x = true ∨ X.env.scope.names.lookup x = some .local := by first | exact .inl rfl | exact .inr rfl) :
    SD X K W L Δ (Δ.set i (.own ct fr)) Δb Δc (.Assign [.Name x pos'] e pos) (tAsg te (gName i)) (gSet i g) := ⟨ps_set hN hi hx h.pe hs hf, h.hK, s_setO hn h.se hct⟩
theorem z_setLc (i : Nat) {y : Str} {py : Pos} {n : Nat} {scope : Scope} (own : List (Str × Nat)) {wi : TI} {gg : TG} {sl : List Nat} {hh : Dt → List Dt → O (List Dt)} {TK : Bool → List Kd → List Kd} {bb : Bool} (hN : X.N.Nodup) (hi : ID X K W Δ tg iter wi bb fr gI) (ok : blkC X.N X.env.scope scope own = true)
    (hg : ∀ (s : Shared) (H : Hp) (C : Addr) (cl : List (Str × Addr)) (fp : List Addr), GD (X.blk s H scope (compEnvC scope cl C X.env) fp) K n tg gg sl hh TK)
    (ht : ∀ (s : Shared) (H : Hp) (C : Addr) (cl : List (Str × Addr)) (fp : List Addr), TsD (X.blk s H scope (compEnvC scope cl C X.env) fp) K (TK fr (wipeK Δ (own.map (·.2)))) ifs tt gt)
    (he : ∀ (s : Shared) (H : Hp) (C : Addr) (cl : List (Str × Addr)) (fp : List Addr), PD (X.blk s H scope (compEnvC scope cl C X.env) fp) K W0 (TK fr (wipeK Δ (own.map (·.2)))) elt te (.v true fr') ge)
    (hsw : swapsWith (.ListComp elt [⟨tg, iter, ifs, 0⟩] scope pos) (some (.Name y py)) pos'.line X.env = pure true) (hin : i < Δ.length := by decide) (hy : X.N[i]? = some y := by rfl) (hyl : X.env.scope.names.lookup y = some .local := by rfl)
    (hn : Δ.length = n := by rfl) (hsl : ∀ i ∈ sl, i ∈ own.map (·.2) := by decide) (no : noOwn Δ (own.map (·.2)) = true := by rfl) (hc : X.calm = true := by rfl) (hs : ∀ x, foldedSetIterable iter X.env x = pure x := by intro _; rfl) :
    SD X K W L Δ (Δ.set i (.own .l fr')) Δb Δc (.Assign [.Name y py] (.ListComp elt [⟨tg, iter, ifs, 0⟩] scope pos) pos') (tAsg (tLc wi gg tt te (own.map (·.2))) (gName i)) (gSet i (gLc gI hh gt ge)) :=
  ⟨ps_setLc hc hN hy hyl hsw hi.pi (blkOk_by ok) (fun s H C cl fp => (hg s H C cl fp).pg) (fun s H C cl fp => (ht s H C cl fp).pts) (fun s H C cl fp => (he s H C cl fp).pe) hs, hi.hK,
    s_setO hin (se_lc hi.si (hg X.s_0 X.H_0 0 [] []).gj hn hsl no (ht X.s_0 X.H_0 0 [] []).st (he X.s_0 X.H_0 0 [] []).se)⟩
theorem z_augA (i : Nat) {x : Str} (hN : X.N.Nodup) (h : PD X K W Δ e te (.v av' fr') g) (hk : Δ[i]? = some (.im fr) := by rfl) (hi : X.N[i]? = some x := by rfl) (hx : Loc X.env.scope x := by first | exact .inl rfl | exact .inr rfl) (hf : X.fn x = true ∨ X.env.scope.names.lookup x = some .local := by first | exact .inl rfl | exact .inr rfl) :
    SD X K W L Δ (Δ.set i (.im true)) Δb Δc (.AugAssign (.Name x pos') .Add e pos) (tAug i te (ipI fun i j => i + j)) (gAug (fun i j => i + j) i g) := ⟨ps_aug hN hi hx h.pe ip_add hf, h.hK, s_aug hk h.se⟩
theorem z_app (i : Nat) {x : Str} {p p1 p2 : Pos} (h : PD X K W Δ e te (.v true fr') g) (hk : Δ[i]? = some (.own .l fr) := by rfl) (hv : Vis X.env.scope x := by first | exact Or.inl rfl | exact Or.inr (Or.inl rfl) | exact Or.inr (Or.inr rfl)) (hN : X.N[i]? = some x := by rfl) (hd : (x == ("__debug__" : Str)) = false := by decide) (hcd : (x == ("__classdict__" : Str)) = false := by decide)
    (hbase : attributeBase (.Name x p) "append" X.env (eval (.Name x p) X.env) = eval (.Name x p) X.env := by rfl)
    (hfew : ((backTo p2 (starEach [e] X.env)).all (fun x => !x.1) && (backToKw p2 (keywordEach [] X.env)).all (fun x => x.1.isSome)
      && decide ([e].length + ([] : List Keyword).length + (if ([] : List Keyword).isEmpty then 0 else 1) < 30)) = true := by rfl)
    (hline : (p1.endLine == p2.line) = true := by rfl) (hst : starEach [e] X.env = (false, eval e X.env) :: starEach [] X.env := by rfl) (hplain : (backTo p2 (starEach [] X.env)).any (·.1) = false := by rfl)
    (hs : swapsWith (.Call (.Attribute (.Name x p) "append" p1) [e] [] p2) none pos.line X.env = pure false := by rfl) :
    SD X K W L Δ (Δ.set i (.own .l (fr && fr'))) Δb Δc (.Expr (.Call (.Attribute (.Name x p) "append" p1) [e] [] p2) pos) (tDrop (tBM K "list" rAppend (tVar i) (tCons te tNil))) (gApp i g) :=
  ⟨by have q := ps_expr (pos := pos) (pe_bm PySem.F.plainAttrs_list PySem.F.slot_list_append PySem.F.type_list_append mt_append (pe_var hN hv hd hcd) (pa_cons h.pe pa_nil hst) hbase hfew hline hst hplain) hs; rw [h.hK] at q; exact q, h.hK, s_app hk h.se⟩
theorem z_setI (i : Nat) {x : Str} {p : Pos} {ix : Expr} {sp : Pos} (h : PD X K W Δ e te (.v true fr') ge) (h2 : PD X K W Δ ix ti (.v av av') gi) (hk : Δ[i]? = some (.own .l fr) := by rfl) (hv : Vis X.env.scope x := by first | exact Or.inl rfl | exact Or.inr (Or.inl rfl) | exact Or.inr (Or.inr rfl)) (hN : X.N[i]? = some x := by rfl) (hd : (x == ("__debug__" : Str)) = false := by decide) (hcd : (x == ("__classdict__" : Str)) = false := by decide)
    (ha : ∀ v, assign (.Subscript (.Name x p) ix sp) X.env v = (do
      let ov ← holding [v] (eval (.Name x p) X.env)
      let iv ← holding [v, ov] (eval ix X.env)
      standAt sp
      holding [v, ov, iv] (setItem ov iv v)
      release [v, ov, iv] []) := by intro _; rfl) (hs : swapsWithSole [.Subscript (.Name x p) ix sp] e pos.line X.env = pure false := by rfl) (hw : swappedStores [.Subscript (.Name x p) ix sp] e X.env = pure none := by rfl)
    (h1 : (assignEach [.Subscript (.Name x p) ix sp] X.env).map (·.2) = [assign (.Subscript (.Name x p) ix sp) X.env] := by rfl) :
    SD X K W L Δ (Δ.set i (.own .l (fr && fr'))) Δb Δc (.Assign [.Subscript (.Name x p) ix sp] e pos) (tAsg te (gSub (tVar i) ti rSetL)) (gSetI i ge gi) := ⟨ps_asg h.pe (pg_sub (pe_var hN hv hd hcd) h2.pe set_list ha) hs hw h1, h.hK, s_setI hk h.se h2.se⟩
theorem z_if (h : TD X K W Δ c tt gt) (h1 : BD X K W L Δ Δn Δb Δc sts t g1) (h2 : BD X K W L Δ Δn Δb Δc sts2 u g2) : SD X K W L Δ Δn Δb Δc (.If c sts sts2 pos) (tIfS tt t u) (gIfS gt g1 g2) := ⟨ps_if h.pt h1.ps h2.ps, h.hK, s_if h.st h1.ss h2.ss⟩
theorem z_while (n : Nat) (hp : PassesOwn (model X.prog X.w) X.A X.env X.xe) (h : TD X K W Δ c tt gt) (hb : BD X K W L Δ Δ Δ Δ sts t g1) : SD X K W L Δ Δ Δb Δc (.While c sts [] pos) (tWhile tt t) (gWhile gt g1 n) := ⟨ps_while hp h.pt hb.ps, h.hK, s_while n h.st hb.ss⟩
theorem z_for {n : Nat} {wi : TI} {gg : TG} {sl : List Nat} {hh : Dt → List Dt → O (List Dt)} {TK : Bool → List Kd → List Kd} (hp : PassesOwn (model X.prog X.w) X.A X.env X.xe) (hi : ID X K W Δ tg iter wi false fr gI) (hg : GD X K n tg gg sl hh TK) (hb : BD X K W L (TK fr Δ) Δ Δ Δ sts t g1) (hn : Δ.length = n := by rfl) (hc : X.calm = true := by rfl)
    (hs : ∀ x, foldedSetIterable iter X.env x = pure x := by intro _; rfl) : SD X K W L Δ Δ Δb Δc (.For tg iter sts [] pos) (tFor wi gg t) (gFor gI hh g1) := ⟨ps_for hp hc hi.pi hg.pg hb.ps hs, hi.hK, s_for hn hi.si hg.gj hb.ss⟩
end
def fnN (m : Nat) (g : Gs) : List Dt → O Dt := fun ds => match g (ds ++ List.replicate (m - ds.length) .none) with
  | .ok (.rt d) => .ok d
  | .ok (.nx _) => .ok .none
  | _ => .bad
def fnL (m : Nat) (g : Gs) : List Dt → O Dt := fun ds => match g (ds ++ List.replicate (m - ds.length) .none) with
  | .ok (.rt d) => .ok d
  | _ => .bad
def kd0 (n m : Nat) (fr : Bool) : List Kd := List.replicate n (.im fr) ++ List.replicate (m - n) .no
theorem r_start {K : PySem.W.Frag} {H : Hp} {F G : Addr → Prop} {vs : List V} {ds : List Dt} {n m : Nat} {fr : Bool} {N : List Str} (hv : vs.length = n) (hN : N.length = m) (hm : n ≤ m) (x : RpA K F H vs ds) (hg : ∀ a, H a = none → G a) (hF : fr = true → ∀ a, F a → G a) :
    R K ⟨H, G, [], [], none, [], fun _ h => nomatch h⟩ (kd0 n m fr) (ds ++ List.replicate (m - ds.length) .none) (L2.start N vs) H := by
  have hd : ds.length = n := by rw [← x.length]; exact hv
  have noOw : ∀ (i : Nat) (c : Ct) (fr' : Bool), (kd0 n m fr)[i]? ≠ some (.own c fr') := fun i c fr' e => by
    unfold kd0 at e
    have := List.mem_of_getElem? e
    rcases List.mem_append.mp this with h | h
    · cases List.eq_of_mem_replicate h
    · cases List.eq_of_mem_replicate h
  have noSl0 : ∀ (i : Nat) (t : Bool), (kd0 n m fr)[i]? ≠ some (.sl t) := fun i t e => by
    unfold kd0 at e
    have := List.mem_of_getElem? e
    rcases List.mem_append.mp this with h | h
    · cases List.eq_of_mem_replicate h
    · cases List.eq_of_mem_replicate h
  refine ⟨Same.refl H, hg, ?_, ?_, fun i j ci fi cj fj p h1 => absurd h1 (noOw i ci fi), fun a ha => absurd ha (by simp), fun g hg => absurd hg (by simp), fun i fr' h => ?_, fun i c fr' h => absurd h (noOw i c fr'), fun i c fr' h => absurd h (noOw i c fr'), fun a ha => (nomatch ha), fun i t h => absurd h (noSl0 i t)⟩
  · unfold L2.start kd0
    rw [List.length_append, List.length_append, List.length_map, List.length_replicate, List.length_replicate, List.length_replicate, hv, hN]
  · unfold kd0
    rw [List.length_append, List.length_append, List.length_replicate, List.length_replicate, List.length_replicate, hd]
  · unfold kd0 at h
    by_cases hi : i < n
    · rw [List.getElem?_append_left (by rw [List.length_replicate]; exact hi)] at h
      have efr : fr' = fr := by
        have := List.eq_of_mem_replicate (List.mem_of_getElem? h)
        cases this; rfl
      subst efr
      have hi' : i < vs.length := by rw [hv]; exact hi
      obtain ⟨d, h1, h2⟩ := x.get (List.getElem?_eq_getElem hi')
      refine ⟨vs[i], d, ?_, ?_, h2.weak fun a fa => ⟨fun _ => ⟨fun z => ?_, by simp⟩, fun e => hF e a fa⟩⟩
      · unfold L2.start
        rw [List.getElem?_append_left (by rw [List.length_map]; exact hi'), List.getElem?_map, List.getElem?_eq_getElem hi']
        rfl
      · rw [List.getElem?_append_left (by rw [hd]; exact hi)]
        exact h1
      · obtain ⟨j, c, frj, g1, _⟩ := z
        exact noOw j c frj g1
    · rw [List.getElem?_append_right (by rw [List.length_replicate]; omega)] at h
      cases List.eq_of_mem_replicate (List.mem_of_getElem? h)
section
variable {P : Program} {w : World} {K : PySem.W.Frag} {mg : Str → Option Value} {base : Heap} {x qual : Str} {st : Stmt} {fa : Addr} {fd : FuncData} {N ps : List Str} {k n m : Nat} {Δn : List Kd} {g : Gs}
theorem fn_okN (F : L2.Fun K x qual st fa fd) (S : FnScope N ps (defScope st)) (hn : ps.length = n) (hm : N.length = m) (hnm : n ≤ m)
    (hb : ∀ (cdv : Value) (A : Around) (outer : List Env) (s : Shared) (H : Hp) (E : XK), Room k (A.deeper (envOfC qual (defScope st) s.heap.objs.size fa cdv)) → ∃ ts, BD (cxOf CX0 P w K mg base N qual (defScope st) fa cdv A outer s H E).nox K W0 .n (kd0 n m false) Δn (kd0 n m false) (kd0 n m false) (defBody st) ts g) :
    FnOk P w K mg base CX0 (k + 1) fa fd ps (spG K mg n (fnN m g)) := by
  refine F.ok S (fun vs H Q E h => ?_) (fun cdv A outer s H vs Q E hr h => ?_)
  · obtain ⟨ds, h1, _⟩ := h
    rw [h1, hn]
  · obtain ⟨ds, h1, h2, h3⟩ := h
    obtain ⟨ts, B⟩ := hb cdv A outer s H E hr
    refine ⟨ts, B.ps, B.ss ⟨H, fun a => H a = none, [], [], none, [], fun _ h => nomatch h⟩ _ _ H _ (r_start h1 hm hnm h2 (fun _ h => h) (fun e => nomatch e)) ?_⟩
    unfold fnN at h3
    cases e : g (ds ++ List.replicate (m - ds.length) .none) with
    | bad => rw [e] at h3; exact h3.elim
    | ex z => rw [e] at h3; exact h3.elim
    | ok fl =>
      rw [e] at h3
      cases fl with
      | nx ρ => exact fun σ' H' r => h3 .non H' r.ext .non
      | rt d => exact fun v H' s x => h3 v H' s x
      | bk ρ => exact h3.elim
      | ct ρ => exact h3.elim
theorem fn_okL (F : L2.Fun K x qual st fa fd) (S : FnScope N ps (defScope st)) (hn : ps.length = n) (hm : N.length = m) (hnm : n ≤ m)
    (hb : ∀ (cdv : Value) (A : Around) (outer : List Env) (s : Shared) (H : Hp) (E : XK), Room k (A.deeper (envOfC qual (defScope st) s.heap.objs.size fa cdv)) → ∃ ts, BD (cxOf CX0 P w K mg base N qual (defScope st) fa cdv A outer s H E).nox K W0 .l (kd0 n m false) Δn (kd0 n m false) (kd0 n m false) (defBody st) ts g) :
    FnOk P w K mg base CX0 (k + 1) fa fd ps (spL K mg n (fnL m g)) := by
  refine F.ok S (fun vs H Q E h => ?_) (fun cdv A outer s H vs Q E hr h => ?_)
  · obtain ⟨ds, h1, _⟩ := h
    rw [h1, hn]
  · obtain ⟨ds, h1, h2, h3⟩ := h
    obtain ⟨ts, B⟩ := hb cdv A outer s H E hr
    refine ⟨ts, B.ps, B.ss ⟨H, fun a => H a = none, [], [], none, [], fun _ h => nomatch h⟩ _ _ H _ (r_start h1 hm hnm h2 (fun _ h => h) (fun e => nomatch e)) ?_⟩
    unfold fnL at h3
    cases e : g (ds ++ List.replicate (m - ds.length) .none) with
    | bad => rw [e] at h3; exact h3.elim
    | ex z => rw [e] at h3; exact h3.elim
    | ok fl =>
      rw [e] at h3
      cases fl with
      | nx ρ => exact h3.elim
      | rt d => exact fun p H' np s x => h3 p H' np s x
      | bk ρ => exact h3.elim
      | ct ρ => exact h3.elim
end
end Sim
end T_SimG
section T_SimH
set_option Elab.async false
set_option linter.all false
set_option maxRecDepth 100000
namespace Sim
open PySem PySem.Spec L2
open PyProof.Rows hiding St
structure OR (X : Cx) (K : PySem.W.Frag) (op : CmpOp) (r : R2) (h : Dt → Dt → O Dt) : Prop where
  ho : OpR X (compareOp op) r
  scl : Scl2 h
  osc : OSc K r h
section
variable {X : Cx} {K : PySem.W.Frag} {W : Wt} {n : Nat}
theorem or_lt : OR X K .Lt (rI0 fun i j => .bl (decide (i < j))) hLt := ⟨op_lt, scl_B0, osc_B0⟩
theorem or_le : OR X K .LtE (rI0 fun i j => .bl (decide (i ≤ j))) hLe := ⟨op_le, scl_B0, osc_B0⟩
theorem or_gt : OR X K .Gt (rI0 fun i j => .bl (decide (j < i))) hGt := ⟨op_gt, scl_B0, osc_B0⟩
theorem or_ge : OR X K .GtE (rI0 fun i j => .bl (decide (j ≤ i))) hGe := ⟨op_ge, scl_B0, osc_B0⟩
theorem or_eq (hr : Room n X.A) (hK : X.K = K := by rfl) : OR X K .Eq (rEqD K) hEq := ⟨by have q := op_eqD (X := X) (by have := hr.un; omega); rw [hK] at q; exact q, scl_eq, osc_eq⟩
theorem or_ne (hr : Room n X.A) (hK : X.K = K := by rfl) : OR X K .NotEq (rNeD K) hNe := ⟨by have q := op_neD (X := X) (by have := hr.un; omega); rw [hK] at q; exact q, scl_ne, osc_ne⟩
theorem or_in (hr : Room n X.A) (hK : X.K = K := by rfl) : OR X K .In (rInDT K false) hIn := ⟨by have q := op_inDT (X := X) (by have := hr.un; omega); rw [hK] at q; exact q, scl_in, osc_in⟩
theorem or_notN : OR X K .IsNot (fun x y H Q => y = .non ∧ Q (.bl (!decide (x = .non))) H) hIsNot := ⟨op_notN, scl_isNot, osc_isNot⟩
end
def gChain (h h' : Dt → Dt → O Dt) (ga gb gc : Gd) : Gd := fun ρ => bnd (ga ρ) fun x => bnd (gb ρ) fun y => bnd (h x y) fun z => bnd (asB z) fun c => if c then bnd (gc ρ) fun w => h' y w else .ok (.bool false)
section
variable {K : PySem.W.Frag} {W : Wt} {Δ : List Kd} {ta tb tc : TE} {ga gb gc : Gd} {av fr av' fr' av2 fr2 : Bool}
theorem se_chain {r r' : R2} {h h' : Dt → Dt → O Dt} (hs : Scl2 h) (ho : OSc K r h) (hs' : Scl2 h') (ho' : OSc K r' h') (ha : SE K W Δ ta (.v av fr) ga) (hb : SE K W Δ tb (.v av' fr') gb) (hc : SE K W Δ tc (.v av2 fr2) gc) :
    SE K W Δ (tChain r r' ta tb tc) (.v true true) (gChain h h' ga gb gc) := fun f ρ σ H Q R q => by
  refine ha f ρ σ H _ R ?_
  unfold gChain at q
  cases e1 : ga ρ with
  | bad => rw [e1] at q; exact q
  | ex z => rw [e1] at q; exact q
  | ok d =>
    rw [e1, bnd_ok] at q
    intro v H1 s1 x1
    refine hb f ρ σ H1 _ (R.mono s1) ?_
    cases e2 : gb ρ with
    | bad => rw [e2] at q; exact q
    | ex z => rw [e2] at q; exact fun H' s => q H' (s1.trans s)
    | ok d2 =>
      rw [e2, bnd_ok] at q
      intro v2 H2 s2 x2
      refine ho H2 v v2 d d2 _ ((x1.same s2).weak fun _ _ => trivial) (x2.weak fun _ _ => trivial) ?_
      rcases hs d d2 with ⟨z, ez, sz⟩ | ez
      · rw [ez] at q ⊢
        rw [bnd_ok] at q
        refine ⟨sz, fun w x => ?_⟩
        cases x with
        | bl c =>
          refine ⟨c, rfl, ?_⟩
          cases c with
          | false =>
            show (if false = true then _ else _)
            rw [if_neg Bool.false_ne_true]
            exact q _ H2 (s1.trans s2) (.bl false)
          | true =>
            show (if true = true then _ else _)
            rw [if_pos rfl]
            have q : PoE K W f Δ σ H (.v true true) (bnd (gc ρ) fun w => h' d2 w) Q := q
            refine hc f ρ σ H2 _ ((R.mono s1).mono s2) ?_
            cases e3 : gc ρ with
            | bad => rw [e3] at q; exact q
            | ex z => rw [e3] at q; exact fun H' s => q H' ((s1.trans s2).trans s)
            | ok d3 =>
              rw [e3, bnd_ok] at q
              intro v3 H3 s3 x3
              refine ho' H3 v2 v3 d2 d3 Q ((x2.same s3).weak fun _ _ => trivial) (x3.weak fun _ _ => trivial) ?_
              rcases hs' d2 d3 with ⟨z, ez, sz⟩ | ez
              · rw [ez] at q ⊢
                exact ⟨sz, fun w x => q w H3 ((s1.trans s2).trans s3) (x.scl_any sz)⟩
              · rw [ez] at q
                exact q.elim
        | non => exact q.elim
        | int => exact q.elim
        | str => exact q.elim
        | lst => cases sz
        | fz => cases sz
        | tup => cases sz
        | dic => cases sz
        | exn => cases sz
      · rw [ez] at q
        exact q.elim
end
section
variable {X : Cx} {K : PySem.W.Frag} {W : Wt} {Δ Δ1 Δn Δb Δc : List Kd} {a b c e : Expr} {es : List Expr} {ta tb tc te : TE} {tA : TA} {ga gb gc g : Gd} {av fr av' fr' av2 fr2 : Bool} {L : Lk} {pos : Pos} {op op' : CmpOp} {r r' : R2} {h h' : Dt → Dt → O Dt} {t : TS} {g1 : Gs} {st : Stmt} {sts : List Stmt}
theorem x_cmp (o : OR X K op r h) (ha : PD X K W Δ a ta (.v av fr) ga) (hb : PD X K W Δ b tb (.v av' fr') gb) (hm : behindInMarks op b = false := by first | exact nobehind _ (by decide) (by decide) | rfl) : PD X K W Δ (.Compare a [op] [b] pos) (tOp r ta tb) (.v true true) (gOp h ga gb) := ⟨pe_cmpR o.ho ha.pe hb.pe hm, ha.hK, se_op o.scl o.osc ha.se hb.se⟩
theorem c_cmp (o : OR X K op r h) (ha : PD X K W Δ a ta (.v av fr) ga) (hb : PD X K W Δ b tb (.v av' fr') gb) (hm : behindInMarks op b = false := by first | exact nobehind _ (by decide) (by decide) | rfl) : TD X K W Δ (.Compare a [op] [b] pos) (tTest (tOp r ta tb)) (gTest (gOp h ga gb)) := ⟨pt_cmpR o.ho ha.pe hb.pe hm, ha.hK, st_test (se_op o.scl o.osc ha.se hb.se)⟩
theorem x_chain (o : OR X K op r h) (o' : OR X K op' r' h') (ha : PD X K W Δ a ta (.v av fr) ga) (hb : PD X K W Δ b tb (.v av' fr') gb) (hc : PD X K W Δ c tc (.v av2 fr2) gc) (hm : lastMarks [op, op'] [b, c] = false := by with_unfolding_all rfl) : PD X K W Δ (.Compare a [op, op'] [b, c] pos) (tChain r r' ta tb tc) (.v true true) (gChain h h' ga gb gc) :=
  ⟨pe_chain o.ho o'.ho ha.pe hb.pe hc.pe hm, ha.hK, se_chain o.scl o.osc o'.scl o'.osc ha.se hb.se hc.se⟩
theorem SD.to (Δn' : List Kd) (h : SD X K W L Δ Δn Δb Δc st t g1) (l : leA Δn Δn' = true := by rfl) : SD X K W L Δ Δn' Δb Δc st t g1 := ⟨h.ps, h.hK, fun f ρ σ H E r q => h.ss f ρ σ H E r <| by
  cases e : g1 ρ with
  | bad => rw [e] at q; exact q
  | ex z => rw [e] at q; exact q
  | ok fl =>
    rw [e] at q
    cases fl with
    | nx ρ' => exact fun σ' H' r => q σ' H' (r.weak l)
    | rt d => exact q
    | bk ρ' => exact q
    | ct ρ' => exact q⟩
theorem SD.frm (Δ0 : List Kd) (h : SD X K W L Δ0 Δn Δb Δc st t g1) (l : leA Δ Δ0 = true := by rfl) : SD X K W L Δ Δn Δb Δc st t g1 := ⟨h.ps, h.hK, h.ss.pre l⟩
theorem BD.to (Δn' : List Kd) (h : BD X K W L Δ Δn Δb Δc sts t g1) (l : leA Δn Δn' = true := by rfl) : BD X K W L Δ Δn' Δb Δc sts t g1 := ⟨h.ps, h.hK, fun f ρ σ H E r q => h.ss f ρ σ H E r <| by
  cases e : g1 ρ with
  | bad => rw [e] at q; exact q
  | ex z => rw [e] at q; exact q
  | ok fl =>
    rw [e] at q
    cases fl with
    | nx ρ' => exact fun σ' H' r => q σ' H' (r.weak l)
    | rt d => exact q
    | bk ρ' => exact q
    | ct ρ' => exact q⟩
theorem BD.frm (Δ0 : List Kd) (h : BD X K W L Δ0 Δn Δb Δc sts t g1) (l : leA Δ Δ0 = true := by rfl) : BD X K W L Δ Δn Δb Δc sts t g1 := ⟨h.ps, h.hK, h.ss.pre l⟩
end
section
variable {X : Cx} {K : PySem.W.Frag} {W : Wt} {Δ : List Kd} {e : Expr} {te : TE} {g : Gd} {c : Ct} {fr fr' : Bool}
theorem SE.wkN (h : SE K W Δ te (.new c fr) g) (h2 : fr' = true → fr = true) : SE K W Δ te (.new c fr') g := fun f ρ σ H Q r q =>
  h f ρ σ H Q r <| by
    cases e : g ρ with
    | bad => rw [e] at q; exact q
    | ex z => rw [e] at q; exact q
    | ok d => rw [e] at q; exact fun p H' np s x => q p H' np s (x.map (fun _ e => e) fun _ _ y => y.weak fun a fa => ⟨fa.1.weak id h2, fa.2⟩)
theorem PD.wkN (fr' : Bool) (h : PD X K W Δ e te (.new c fr) g) (h2 : fr' = true → fr = true := by decide) : PD X K W Δ e te (.new c fr') g := ⟨h.pe, h.hK, SE.wkN h.se h2⟩
theorem AD.to {es : List Expr} {tA : TA} {av fr : Bool} {gA : List Dt → O (List Dt)} (av' fr' : Bool) (h : AD X K W Δ es tA av fr gA) (h1 : av' = true → av = true := by decide) (h2 : fr' = true → fr = true := by decide) : AD X K W Δ es tA av' fr' gA := h.wk h1 h2
theorem blk_fx {N : List Str} {sc scope : Scope} {own : List (Str × Nat)} (h : blkC N sc scope own = true) (e1 : X.N = N := by rfl) (e2 : X.env.scope = sc := by rfl) : blkC X.N X.env.scope scope own = true := by
  rw [e1, e2]
  exact h
end
end Sim
end T_SimH
section T_SimP
set_option Elab.async false
set_option linter.all false
set_option maxRecDepth 100000
namespace Sim
open PySem
theorem gVar_def (i : Nat) (ρ : List Dt) : gVar i ρ = match ρ[i]? with | some d => .ok d | none => .bad := rfl
theorem gC_def (d : Dt) (ρ : List Dt) : gC d ρ = .ok d := rfl
theorem gOp_def (h : Dt → Dt → O Dt) (a b : Gd) (ρ : List Dt) : gOp h a b ρ = bnd (a ρ) fun x => bnd (b ρ) fun y => h x y := rfl
theorem gUn_def (h : Dt → O Dt) (a : Gd) (ρ : List Dt) : gUn h a ρ = bnd (a ρ) h := rfl
theorem gNil_def (ρ : List Dt) : gNil ρ = .ok [] := rfl
theorem gCons_def (a : Gd) (b : List Dt → O (List Dt)) (ρ : List Dt) : gCons a b ρ = bnd (a ρ) fun x => bnd (b ρ) fun xs => .ok (x :: xs) := rfl
theorem gTup_ok {a : List Dt → O (List Dt)} {ρ : List Dt} {xs : List Dt} (h : a ρ = .ok xs) (hl : xs.length ≤ 100000) : gTup a ρ = .ok (.tuple xs) := by unfold gTup; rw [h, bnd_ok, if_pos hl]
theorem gTup_def (a : List Dt → O (List Dt)) (ρ : List Dt) : gTup a ρ = bnd (a ρ) fun xs => if xs.length ≤ 100000 then .ok (.tuple xs) else .bad := rfl
theorem gLst_def (a : List Dt → O (List Dt)) (ρ : List Dt) : gLst a ρ = bnd (a ρ) fun xs => if xs.length ≤ 100000 then .ok (.list xs) else .bad := rfl
theorem gIf_def (t : List Dt → O Bool) (a b : Gd) (ρ : List Dt) : gIf t a b ρ = bnd (t ρ) fun c => if c then a ρ else b ρ := rfl
theorem gTest_def (a : Gd) (ρ : List Dt) : gTest a ρ = bnd (a ρ) asB := rfl
theorem gNot_def (t : List Dt → O Bool) (ρ : List Dt) : gNot t ρ = bnd (t ρ) fun b => .ok (!b) := rfl
theorem gAnd_def (t u : List Dt → O Bool) (ρ : List Dt) : gAnd t u ρ = bnd (t ρ) fun b => if b then u ρ else .ok false := rfl
theorem gOr_def (t u : List Dt → O Bool) (ρ : List Dt) : gOr t u ρ = bnd (t ρ) fun b => if b then .ok true else u ρ := rfl
theorem gAndV_def (a b : Gd) (ρ : List Dt) : gAndV a b ρ = bnd (a ρ) fun x => bnd (asB x) fun c => if c then b ρ else .ok (.bool false) := rfl
theorem gOrV_def (a b : Gd) (ρ : List Dt) : gOrV a b ρ = bnd (a ρ) fun x => bnd (asB x) fun c => if c then .ok (.bool true) else b ρ := rfl
theorem gNotV_def (a : Gd) (ρ : List Dt) : gNotV a ρ = bnd (a ρ) fun x => bnd (asB x) fun c => .ok (.bool (!c)) := rfl
theorem gCB_def (h : List Dt → O Dt) (a : List Dt → O (List Dt)) (ρ : List Dt) : gCB h a ρ = bnd (a ρ) h := rfl
theorem gPurN_def (a : Gd) (ρ : List Dt) : gPurN a ρ = bnd (a ρ) fun d => if pureIn d then .ok d else .bad := rfl
theorem asB_b (b : Bool) : asB (.bool b) = .ok b := rfl
theorem hAdd_i (i j : Int) : hAdd (.int i) (.int j) = .ok (.int (i + j)) := rfl
theorem hSub_i (i j : Int) : hSub (.int i) (.int j) = .ok (.int (i - j)) := rfl
theorem hLt_i (i j : Int) : hLt (.int i) (.int j) = .ok (.bool (decide (i < j))) := rfl
theorem hLe_i (i j : Int) : hLe (.int i) (.int j) = .ok (.bool (decide (i ≤ j))) := rfl
theorem hGt_i (i j : Int) : hGt (.int i) (.int j) = .ok (.bool (decide (j < i))) := rfl
theorem hGe_i (i j : Int) : hGe (.int i) (.int j) = .ok (.bool (decide (j ≤ i))) := rfl
theorem hBand_i (i j : Int) : hBand (.int i) (.int j) = .ok (.int (Builtin.bitAnd i j)) := rfl
theorem hMul_r {i j : Int} (h1 : -18446744073709551616 < j) (h2 : j < 18446744073709551616) : hMul (.int i) (.int j) = .ok (.int (i * j)) := by
  show (if cMul i j then O.ok (PyData.int (i * j)) else .bad) = _
  rw [if_pos]
  unfold cMul
  rw [Bool.or_eq_true, decide_eq_true_eq, decide_eq_true_eq]
  right; omega
theorem hMul_l {i j : Int} (h1 : -18446744073709551616 < i) (h2 : i < 18446744073709551616) : hMul (.int i) (.int j) = .ok (.int (i * j)) := by
  show (if cMul i j then O.ok (PyData.int (i * j)) else .bad) = _
  rw [if_pos]
  unfold cMul
  rw [Bool.or_eq_true, decide_eq_true_eq, decide_eq_true_eq]
  left; omega
theorem hMod_i {i j : Int} (h : 0 < j) : hMod (.int i) (.int j) = .ok (.int (i % j)) := by
  show (if cMod i j then O.ok (PyData.int (i % j)) else .bad) = _
  rw [if_pos]
  unfold cMod
  exact decide_eq_true h
theorem hDiv_i {i j : Int} (h : 0 < j) (h2 : j.natAbs < 2 ^ 400) : hDiv (.int i) (.int j) = .ok (.int (i / j)) := by
  show (if cDiv i j then O.ok (PyData.int (i / j)) else .bad) = _
  rw [if_pos]
  unfold cDiv
  rw [Bool.and_eq_true]
  exact ⟨decide_eq_true h, decide_eq_true h2⟩
theorem hDiv_s {i j : Int} (h : 0 < j) (h2 : j < 1000000000000000000000000000000000) : hDiv (.int i) (.int j) = .ok (.int (i / j)) := hDiv_i h (by omega)
theorem hShr_i {i j : Int} (h : 0 ≤ j) : hShr (.int i) (.int j) = .ok (.int (i / 2 ^ j.toNat)) := by
  show (if cShr i j then O.ok (PyData.int (i / 2 ^ j.toNat)) else .bad) = _
  rw [if_pos]
  exact decide_eq_true h
theorem hPow_10_18 : hPow (.int 10) (.int 18) = .ok (.int 1000000000000000000) := by
  show (if cPow 10 18 then O.ok (PyData.int ((10 : Int) ^ (18 : Int).toNat)) else .bad) = _
  rw [if_pos (by decide)]
  rfl
theorem hPow_10_27 : hPow (.int 10) (.int 27) = .ok (.int 1000000000000000000000000000) := by
  show (if cPow 10 27 then O.ok (PyData.int ((10 : Int) ^ (27 : Int).toNat)) else .bad) = _
  rw [if_pos (by decide)]
  rfl
theorem hPow_10_28 : hPow (.int 10) (.int 28) = .ok (.int 10000000000000000000000000000) := by
  show (if cPow 10 28 then O.ok (PyData.int ((10 : Int) ^ (28 : Int).toNat)) else .bad) = _
  rw [if_pos (by decide)]
  rfl
theorem hPow_10_29 : hPow (.int 10) (.int 29) = .ok (.int 100000000000000000000000000000) := by
  show (if cPow 10 29 then O.ok (PyData.int ((10 : Int) ^ (29 : Int).toNat)) else .bad) = _
  rw [if_pos (by decide)]
  rfl
theorem hPow_10_30 : hPow (.int 10) (.int 30) = .ok (.int 1000000000000000000000000000000) := by
  show (if cPow 10 30 then O.ok (PyData.int ((10 : Int) ^ (30 : Int).toNat)) else .bad) = _
  rw [if_pos (by decide)]
  rfl
theorem shaped_int (i : Int) : SeqAt.shaped (.int i) = true := by simp [SeqAt.shaped, PyData.canLay0, PyData.depth]
theorem hEq_i (i j : Int) : hEq (.int i) (.int j) = .ok (.bool (i == j)) := by unfold hEq; rw [shaped_int, shaped_int]; simp [PyData.eqv]
theorem hNe_i (i j : Int) : hNe (.int i) (.int j) = .ok (.bool (!(i == j))) := by unfold hNe; rw [shaped_int, shaped_int]; simp [PyData.eqv]
theorem hLen_l (xs : List Dt) : hLen [.list xs] = .ok (.int xs.length) := rfl
theorem hLen_t (xs : List Dt) : hLen [.tuple xs] = .ok (.int xs.length) := rfl
theorem hMin2_i (i j : Int) : hMin2 [.int i, .int j] = .ok (.int (if j < i then j else i)) := rfl
theorem hMax2_i (i j : Int) : hMax2 [.int i, .int j] = .ok (.int (if j > i then j else i)) := rfl
theorem hMin3_i (i j k : Int) : hMin3 [.int i, .int j, .int k] = .ok (.int (if j < i then (if k < j then k else j) else (if k < i then k else i))) := rfl
theorem hInt1_b (k : Bool) : hInt1 [.bool k] = .ok (.int (if k then 1 else 0)) := rfl
theorem hInt1_i (k : Int) : hInt1 [.int k] = .ok (.int k) := rfl
theorem hBits_i (i : Int) : hBits (.int i) = .ok (.int (Builtin.Int.intBits i : Nat)) := rfl
theorem hListOf_l (xs : List Dt) : one hListOf [.list xs] = .ok (.list xs) := rfl
theorem hListOf_t (xs : List Dt) : one hListOf [.tuple xs] = .ok (.list xs) := rfl
theorem hTupOf_l (xs : List Dt) : one hTupOf [.list xs] = .ok (.tuple xs) := rfl
theorem hTupOf_t (xs : List Dt) : one hTupOf [.tuple xs] = .ok (.tuple xs) := rfl
theorem seq_nx {a b : Gs} {ρ ρ' : List Dt} (h : a ρ = .ok (.nx ρ')) : gSeqS a b ρ = b ρ' := by unfold gSeqS; rw [h]
theorem seq_rt {a b : Gs} {ρ : List Dt} {d : Dt} (h : a ρ = .ok (.rt d)) : gSeqS a b ρ = .ok (.rt d) := by unfold gSeqS; rw [h]
theorem set_ok {i : Nat} {g : Gd} {ρ : List Dt} {d : Dt} (h : g ρ = .ok d) : gSet i g ρ = .ok (.nx (ρ.set i d)) := by unfold gSet; rw [h]; rfl
theorem ret_ok {g : Gd} {ρ : List Dt} {d : Dt} (h : g ρ = .ok d) : gRet g ρ = .ok (.rt d) := by unfold gRet; rw [h]; rfl
theorem if_t {t : List Dt → O Bool} {a b : Gs} {ρ : List Dt} (h : t ρ = .ok true) : gIfS t a b ρ = a ρ := by unfold gIfS; rw [h]; rfl
theorem if_f {t : List Dt → O Bool} {a b : Gs} {ρ : List Dt} (h : t ρ = .ok false) : gIfS t a b ρ = b ρ := by unfold gIfS; rw [h]; rfl
theorem gSeqS_def (a b : Gs) (ρ : List Dt) : gSeqS a b ρ = match a ρ with | .ok (.nx ρ') => b ρ' | o => o := rfl
theorem gSet_def (i : Nat) (g : Gd) (ρ : List Dt) : gSet i g ρ = bnd (g ρ) fun d => .ok (.nx (ρ.set i d)) := rfl
theorem gRet_def (g : Gd) (ρ : List Dt) : gRet g ρ = bnd (g ρ) fun d => .ok (.rt d) := rfl
theorem gIfS_def (t : List Dt → O Bool) (a b : Gs) (ρ : List Dt) : gIfS t a b ρ = bnd (t ρ) fun c => if c then a ρ else b ρ := rfl
theorem gNext_def (ρ : List Dt) : gNext ρ = .ok (.nx ρ) := rfl
theorem gApp_l {i : Nat} {g : Gd} {ρ : List Dt} {ds : List Dt} {d : Dt} (h1 : ρ[i]? = some (.list ds)) (h2 : g ρ = .ok d) (h3 : ds.length < 100000) : gApp i g ρ = .ok (.nx (ρ.set i (.list (ds ++ [d])))) := by
  unfold gApp
  rw [h1]
  simp only [h2, bnd_ok]
  rw [if_pos h3]
theorem callN_ok {n : Nat} {g : List Dt → O Dt} {gA : List Dt → O (List Dt)} {ρ ds : List Dt} {d : Dt} (h1 : gA ρ = .ok ds) (h2 : ds.length = n) (h3 : g ds = .ok d) : gCallN n g gA ρ = .ok d := by
  unfold gCallN
  rw [h1, bnd_ok, if_pos h2, h3]
theorem fnN_rt {m : Nat} {g : Gs} {ds : List Dt} {d : Dt} (h : g (ds ++ List.replicate (m - ds.length) .none) = .ok (.rt d)) : fnN m g ds = .ok d := by unfold fnN; rw [h]
theorem fnL_rt {m : Nat} {g : Gs} {ds : List Dt} {d : Dt} (h : g (ds ++ List.replicate (m - ds.length) .none) = .ok (.rt d)) : fnL m g ds = .ok d := by unfold fnL; rw [h]
theorem lcE_map {α : Type} (enc : α → Dt) (p : α → Bool) (q : α → Dt) {h : Dt → List Dt → O (List Dt)} {gt : List Dt → O Bool} {ge : Gd} {ρ : List Dt} : ∀ (xs : List α), (∀ x ∈ xs, ∃ ρ', h (enc x) ρ = .ok ρ' ∧ gt ρ' = .ok (p x) ∧ (p x = true → ge ρ' = .ok (q x))) →
    lcE h gt ge ρ (xs.map enc) = .ok ((xs.filter p).map q)
  | [], _ => rfl
  | x :: xs, H => by
    obtain ⟨ρ', h1, h2, h3⟩ := H x List.mem_cons_self
    have ih := lcE_map enc p q xs fun y hy => H y (List.mem_cons_of_mem _ hy)
    rw [List.map_cons]
    unfold lcE
    rw [h1, bnd_ok, h2, bnd_ok]
    cases hp : p x with
    | true => rw [if_pos rfl, h3 hp, bnd_ok, ih, bnd_ok, List.filter_cons_of_pos hp, List.map_cons]
    | false => rw [if_neg Bool.false_ne_true, ih, List.filter_cons_of_neg (by rw [hp]; exact Bool.false_ne_true)]
theorem gLc_map {α : Type} (enc : α → Dt) (p : α → Bool) (q : α → Dt) {gi : List Dt → O (List Dt)} {h : Dt → List Dt → O (List Dt)} {gt : List Dt → O Bool} {ge : Gd} {ρ : List Dt} {xs : List α} (h1 : gi ρ = .ok (xs.map enc)) (h2 : xs.length ≤ 100000)
    (H : ∀ x ∈ xs, ∃ ρ', h (enc x) ρ = .ok ρ' ∧ gt ρ' = .ok (p x) ∧ (p x = true → ge ρ' = .ok (q x))) : gLc gi h gt ge ρ = .ok (.list ((xs.filter p).map q)) := by
  unfold gLc
  rw [h1, bnd_ok, if_pos (by rw [List.length_map]; exact h2), lcE_map enc p q xs H]
theorem forE_ix {α : Type} (enc : α → Dt) {h : Dt → List Dt → O (List Dt)} {b : Gs} (xs : List α) (I : Nat → List Dt → Prop) {ρ : List Dt} (h0 : I 0 ρ)
    (H : ∀ i ρ (hi : i < xs.length), I i ρ → ∃ ρ1 ρ2, h (enc xs[i]) ρ = .ok ρ1 ∧ (b ρ1 = .ok (.nx ρ2) ∨ b ρ1 = .ok (.ct ρ2)) ∧ I (i + 1) ρ2) :
    ∃ ρ', forE h b (xs.map enc) ρ = .ok (.nx ρ') ∧ I xs.length ρ' := by
  have key : ∀ n i ρ, i + n = xs.length → I i ρ → ∃ ρ', forE h b ((xs.drop i).map enc) ρ = .ok (.nx ρ') ∧ I xs.length ρ' := by
    intro n
    induction n with
    | zero =>
      intro i ρ e hi
      have e : i = xs.length := by omega
      subst e
      rw [List.drop_length]
      exact ⟨ρ, rfl, hi⟩
    | succ n ih =>
      intro i ρ e hi
      have hlt : i < xs.length := by omega
      obtain ⟨ρ1, ρ2, h1, h2, h3⟩ := H i ρ hlt hi
      obtain ⟨ρ', q1, q2⟩ := ih (i + 1) ρ2 (by omega) h3
      refine ⟨ρ', ?_, q2⟩
      rw [List.drop_eq_getElem_cons hlt, List.map_cons]
      unfold forE
      rw [h1]
      simp only
      rcases h2 with h2 | h2
      · rw [h2, bnd_ok]; exact q1
      · rw [h2, bnd_ok]; exact q1
  have := key xs.length 0 ρ (by omega) h0
  rwa [List.drop_zero] at this
theorem for_ok {gi : List Dt → O (List Dt)} {h : Dt → List Dt → O (List Dt)} {b : Gs} {ρ : List Dt} {ds : List Dt} {z : O Fl} (h1 : gi ρ = .ok ds) (h2 : forE h b ds ρ = z) : gFor gi h b ρ = z := by unfold gFor; rw [h1, bnd_ok, h2]
theorem while_f {t : List Dt → O Bool} {b : Gs} {n : Nat} {ρ : List Dt} (h : t ρ = .ok false) (hn : n ≠ 0 := by decide) : gWhile t b n ρ = .ok (.nx ρ) := by
  cases n with
  | zero => exact absurd rfl hn
  | succ n => unfold gWhile; rw [h]; rfl
theorem while_t {t : List Dt → O Bool} {b : Gs} {n : Nat} {ρ ρ' : List Dt} (h : t ρ = .ok true) (h2 : b ρ = .ok (.nx ρ')) : gWhile t b (n + 1) ρ = gWhile t b n ρ' := by
  conv => lhs; unfold gWhile
  simp only [h, bnd_ok, if_true, h2]
theorem rng1_ok {g : List Dt → O (List Dt)} {ρ : List Dt} {j : Int} (h : g ρ = .ok [.int j]) (h1 : -4611686018427387904 ≤ j) (h2 : j < 4611686018427387904) : gRng1 g ρ = .ok (rangeD 0 j) := by
  unfold gRng1
  rw [h, bnd_ok]
  unfold rng1
  simp only
  rw [if_pos (by constructor <;> omega)]
theorem rng2_ok {g : List Dt → O (List Dt)} {ρ : List Dt} {i j : Int} (h : g ρ = .ok [.int i, .int j]) (h1 : -4611686018427387904 ≤ j) (h2 : j < 4611686018427387904) (h3 : -4611686018427387904 ≤ i) (h4 : i < 4611686018427387904) : gRng2 g ρ = .ok (rangeD i j) := by
  unfold gRng2
  rw [h, bnd_ok]
  unfold rng2
  simp only
  rw [if_pos (by refine ⟨?_, ?_, ?_, ?_⟩ <;> omega)]
theorem seqG_l {g : Gd} {ρ : List Dt} {ds : List Dt} (h : g ρ = .ok (.list ds)) : gSeq g ρ = .ok ds := by unfold gSeq; rw [h]; rfl
theorem allI_map : ∀ xs : List Int, allI (xs.map .int) = some xs
  | [] => rfl
  | x :: xs => by rw [List.map_cons]; unfold allI; rw [allI_map xs]; rfl
theorem allB_map : ∀ xs : List Bool, allB (xs.map .bool) = some xs
  | [] => rfl
  | x :: xs => by rw [List.map_cons]; unfold allB; rw [allB_map xs]; rfl
theorem canLay_ints : ∀ xs : List Int, PyData.canLayAll0 (xs.map .int) = true
  | [] => by simp [PyData.canLayAll0]
  | x :: xs => by simp [PyData.canLayAll0, PyData.canLay0, canLay_ints xs]
theorem depth_ints : ∀ xs : List Int, PyData.depthAll (xs.map .int) = 0
  | [] => by simp [PyData.depthAll]
  | x :: xs => by simp [PyData.depthAll, PyData.depth, depth_ints xs]
theorem shaped_ints (xs : List Int) : SeqAt.shaped (.list (xs.map .int)) = true := by simp [SeqAt.shaped, PyData.canLay0, PyData.depth, canLay_ints, depth_ints]
theorem shaped_intsT (xs : List Int) : SeqAt.shaped (.tuple (xs.map .int)) = true := by simp [SeqAt.shaped, PyData.canLay0, PyData.depth, canLay_ints, depth_ints]
theorem eqvAll_ints : ∀ xs ys : List Int, PyData.eqvAll (xs.map .int) (ys.map .int) = decide (xs = ys)
  | [], [] => by simp [PyData.eqvAll]
  | [], _ :: _ => by simp [PyData.eqvAll]
  | _ :: _, [] => by simp [PyData.eqvAll]
  | x :: xs, y :: ys => by
    simp only [List.map_cons, PyData.eqvAll, PyData.eqv, eqvAll_ints xs ys]
    by_cases h1 : x = y <;> by_cases h2 : xs = ys <;> simp [h1, h2]
theorem hNe_ints (xs ys : List Int) : hNe (.list (xs.map .int)) (.list (ys.map .int)) = .ok (.bool (!decide (xs = ys))) := by
  unfold hNe; rw [shaped_ints, shaped_ints]; simp only [PyData.eqv, eqvAll_ints, Bool.and_self, if_true]
theorem any_ints (i : Int) : ∀ xs : List Int, ((xs.map PyData.int).any fun z => PyData.eqv z (.int i)) = decide (i ∈ xs)
  | [] => by simp
  | x :: xs => by
    rw [List.map_cons, List.any_cons, any_ints i xs]
    simp only [PyData.eqv, List.mem_cons]
    by_cases h : x = i
    · subst h; simp
    · have h' : ¬ i = x := fun e => h e.symm
      simp [h, h']
theorem hIn_ints (i : Int) (xs : List Int) : hIn (.int i) (.list (xs.map .int)) = .ok (.bool (decide (i ∈ xs))) := by
  unfold hIn; simp only [shaped_int, shaped_ints, Bool.and_self, if_true, any_ints]
theorem hIn_intsT (i : Int) (xs : List Int) : hIn (.int i) (.tuple (xs.map .int)) = .ok (.bool (decide (i ∈ xs))) := by
  unfold hIn; simp only [shaped_int, shaped_intsT, Bool.and_self, if_true, any_ints]
theorem pureA_ints : ∀ xs : List Int, pureA (xs.map .int) = true
  | [] => rfl
  | x :: xs => by rw [List.map_cons]; unfold pureA; rw [pureA_ints xs]; rfl
theorem atI_map {α β : Type} (f : α → β) {xs : List α} {i : Int} (h0 : 0 ≤ i) (h1 : i < xs.length) : L2.atI (xs.map f) i = some (f (xs[i.toNat]'(by omega))) := by
  obtain ⟨j, rfl⟩ : ∃ j : Nat, i = j := ⟨i.toNat, by omega⟩
  have hj : j < xs.length := by omega
  refine L2.atI_nat ?_
  rw [List.getElem?_map, List.getElem?_eq_getElem hj]
  rfl
theorem hIx_l {ds : List Dt} {i : Int} {z : Dt} (h : L2.atI ds i = some z) : hIx (.list ds) (.int i) = .ok z := by unfold hIx; simp only [h]
theorem hIx_ints {xs : List Int} {i : Int} (h0 : 0 ≤ i) (h1 : i < xs.length) : hIx (.list (xs.map .int)) (.int i) = .ok (.int (xs[i.toNat]'(by omega))) := hIx_l (atI_map _ h0 h1)
theorem sIx_none (n d : Nat) : HT.sIx n d none = d := rfl
theorem cutD_from {α : Type} (f : α → Dt) (xs : List α) (k : Nat) : cutD (xs.map f) (some (k : Int)) none = (xs.drop k).map f := by
  unfold cutD
  rw [HT.sIx_nat, sIx_none, List.length_map]
  rcases Nat.lt_or_ge k xs.length with h | h
  · rw [Nat.min_eq_left (Nat.le_of_lt h), ← List.map_drop, List.take_of_length_le (by rw [List.length_map, List.length_drop]; omega)]
  · rw [Nat.min_eq_right h, List.drop_of_length_le (by rw [List.length_map]; omega), List.drop_of_length_le h]
    simp
theorem cutD_to {α : Type} (f : α → Dt) (xs : List α) (k : Nat) : cutD (xs.map f) none (some (k : Int)) = (xs.take k).map f := by
  unfold cutD
  rw [HT.sIx_nat, sIx_none, List.length_map, List.drop_zero, Nat.sub_zero, ← List.map_take]
  rcases Nat.lt_or_ge k xs.length with h | h
  · rw [Nat.min_eq_left (Nat.le_of_lt h)]
  · rw [Nat.min_eq_right h, List.take_of_length_le (Nat.le_refl _), List.take_of_length_le h]
theorem hSl_from {α : Type} (f : α → Dt) (xs : List α) (k : Nat) : hSl (.list (xs.map f)) (some (k : Int)) none = .ok (.list ((xs.drop k).map f)) := by unfold hSl; rw [← cutD_from]
theorem hSl_to {α : Type} (f : α → Dt) (xs : List α) (k : Nat) : hSl (.list (xs.map f)) none (some (k : Int)) = .ok (.list ((xs.take k).map f)) := by unfold hSl; rw [← cutD_to]
theorem seq_step {a b : Gs} {ρ ρ' : List Dt} {z : O Fl} (h : a ρ = .ok (.nx ρ')) (k : b ρ' = z) : gSeqS a b ρ = z := by rw [seq_nx h]; exact k
theorem gCallN_def (n : Nat) (g : List Dt → O Dt) (gA : List Dt → O (List Dt)) (ρ : List Dt) : gCallN n g gA ρ = bnd (gA ρ) fun ds => if ds.length = n then (match g ds with | .ok d => .ok d | _ => .bad) else .bad := rfl
theorem gAsg_def (g : Gd) (h : Dt → List Dt → O (List Dt)) (ρ : List Dt) : gAsg g h ρ = bnd (g ρ) fun d => match h d ρ with | .ok ρ' => .ok (.nx ρ') | _ => .bad := rfl
theorem gSl_def (h : Dt → Option Int → Option Int → O Dt) (g : Gd) (gl gh : List Dt → O (Option Int)) (ρ : List Dt) : gSl h g gl gh ρ = bnd (g ρ) fun d => bnd (gl ρ) fun lo => bnd (gh ρ) fun hi => h d lo hi := rfl
theorem gNoPart_def (ρ : List Dt) : gNoPart ρ = .ok none := rfl
theorem gPart_def (g : Gd) (ρ : List Dt) : gPart g ρ = bnd (g ρ) fun d => match d with | .int i => .ok (some i) | _ => .bad := rfl
theorem hSl_from' {α : Type} (f : α → Dt) (xs : List α) {k : Int} (h : 0 ≤ k) : hSl (.list (xs.map f)) (some k) none = .ok (.list ((xs.drop k.toNat).map f)) := by
  have := hSl_from f xs k.toNat
  rwa [show ((k.toNat : Nat) : Int) = k by omega] at this
theorem hSl_to' {α : Type} (f : α → Dt) (xs : List α) {k : Int} (h : 0 ≤ k) : hSl (.list (xs.map f)) none (some k) = .ok (.list ((xs.take k.toNat).map f)) := by
  have := hSl_to f xs k.toNat
  rwa [show ((k.toNat : Nat) : Int) = k by omega] at this
def pl (n : Int) : List Int := (List.range n.toNat).map fun (i : Nat) => (i : Int)
theorem rangeD_pl (n : Int) : rangeD 0 n = (pl n).map .int := by
  unfold rangeD pl
  rw [List.map_map, Int.sub_zero]
  apply List.map_congr_left
  intro i _
  show PyData.int (0 + (i : Int)) = PyData.int (i : Int)
  rw [Int.zero_add]
theorem mem_pl {n p : Int} : p ∈ pl n ↔ 0 ≤ p ∧ p < n := by
  unfold pl
  rw [List.mem_map]
  constructor
  · rintro ⟨i, h, rfl⟩
    rw [List.mem_range] at h
    omega
  · rintro ⟨h1, h2⟩
    exact ⟨p.toNat, List.mem_range.mpr (by omega), by omega⟩
theorem pl_len (n : Int) : (pl n).length = n.toNat := by unfold pl; rw [List.length_map, List.length_range]
end Sim
end T_SimP
section T_SimI
set_option Elab.async false
set_option linter.all false
set_option maxRecDepth 100000
namespace Sim
open PySem PySem.Spec L2
open PyProof.Rows hiding St
section
variable {prog : Program} {w : World} {A : Around} {E : Value → Shared → Prop} {s : Shared}
theorem extend_rev {R : Result → Shared → Prop} {it l : Addr} {items : Array Value} (hh : A.handled = none) (hit : s.heap.IsRevIter it l ((items.size : Int) - 1)) (hl : s.heap.IsList l items) (hne : l ≠ it) (hn : items.size ≤ sizeLine)
    (S : Addr) (res : Value) {c₀ : Nat} (hS : s.heap.get? S = some { cls := .type "list", data := .seq #[] c₀ })
    (hSi : S ≠ it) (hSl : S ≠ l)
    (hR : ∀ h' tk acc' c', (∀ b o, b ≠ S → b ≠ it → s.heap.get? b = some o → h'.get? b = some o) → h'.get? S = some { cls := .type "list", dict := none, data := .seq acc' c', slots := #[] } →
      ItemsOf (fun i v => items[items.size - 1 - i]? = some v) acc' items.size → R (.ok (.ret res)) { s with heap := h', toks := tk }) :
    wpAny (model prog w) A.in1 (Builtin.List.listExtendWith (.ref S) (.ref it) res)
      (fun fin s' => match fin with | .done f => R (.ok f) s' | .again c' => c'.quiet = true ∧ codeAny (model prog w) A c' R s') (fun e s' => R (.error e) s') s := by
  have W := (Walks.listRev (prog := prog) (w := w) (A := A.in1) hh it l hne items).toS
  have hSf : S ∉ [it, l] := by simp only [List.mem_cons, List.not_mem_nil, or_false, not_or]; exact ⟨hSi, hSl⟩
  have hT : s.TypeIs (.ref it) "list_reverseiterator" := hit.typeIs
  have h1 : Builtin.List.listSameRef (.ref S) (.ref it) = false := by simp [Builtin.List.listSameRef, hSi]
  unfold Builtin.List.listExtendWith
  refine wpAny_bind (wpAny_typeOf hT ?_)
  rw [if_neg (by rw [h1]; decide)]
  refine wpAny_bind (wpAny_pyIter_revIter hit ?_)
  refine wpAny_bind (wpAny_holding ?_)
  unfold Builtin.List.listLengthHint
  refine wpAny_bind (wpAny_specialOf hT RT.nolen_lri ?_)
  show wpAny _ A.in1 (specialOf (Value.ref it) (Str.ofString "__length_hint__") >>= _) _ _ _
  refine wpAny_bind (wpAny_specialOf hT RT.hint_lri ?_)
  generalize hid : ("list_reverseiterator.__length_hint__" : String) = id0
  wp_delta
  rw [show splitId id0 = some ("list_reverseiterator", "__length_hint__") from by subst hid; decide +kernel]
  subst hid
  refine wpAny_bind (wpAny_isInstance (b := true) hT (by rw [isSubtype_type]; kernel_rfl) ?_)
  refine wpAny_pure ?_
  rw [if_neg (by decide)]
  have e0 : ((items.size : Nat) : Int) - 1 - ((0 : Nat) : Int) = (items.size : Int) - 1 := by omega
  refine wpAny_pure ⟨plainId_quiet F.plain_extend_loop _, codeAny_extend_loopS W hn _ hSf _ items.size 0 _ _ _ rfl (Nat.zero_le _) ⟨Nat.zero_le _, by rw [e0]; exact hit, hl⟩ hS (ItemsOf.nil _) fun s' acc' c' hm hS' hacc => ?_⟩
  rw [Moved.eq_with hm]
  refine hR s'.heap s'.toks acc' c' (fun b o hb hb2 e => hm.heap b o (fun hmem => ?_) e) hS' hacc
  rcases List.mem_cons.mp hmem with e' | hmem
  · exact hb e'
  · exact hb2 (List.mem_singleton.mp hmem)
theorem list_init_rev {R : Result → Shared → Prop} {it l : Addr} {items : Array Value} (hh : A.handled = none) (hit : s.heap.IsRevIter it l ((items.size : Int) - 1)) (hl : s.heap.IsList l items) (hne : l ≠ it) (hn : items.size ≤ sizeLine)
    (S : Addr) (hS : s.heap.get? S = some { cls := .type "list", data := .seq #[] }) (hSi : S ≠ it) (hSl : S ≠ l)
    (hR : ∀ h' tk acc' c', (∀ b o, b ≠ S → b ≠ it → s.heap.get? b = some o → h'.get? b = some o) → h'.get? S = some { cls := .type "list", dict := none, data := .seq acc' c', slots := #[] } →
      ItemsOf (fun i v => items[items.size - 1 - i]? = some v) acc' items.size → R (.ok (.ret .none)) { s with heap := h', toks := tk }) :
    wpAny (model prog w) A.in1 (Builtin.«list.__init__» ⟨[.ref S, .ref it], []⟩)
      (fun fin s' => match fin with | .done f => R (.ok f) s' | .again c' => c'.quiet = true ∧ codeAny (model prog w) A c' R s') (fun e s' => R (.error e) s') s := by
  show wpAny _ _ (do let old ← Builtin.List.listItems (.ref S); Builtin.List.listUpdate (.ref S) (fun _ => #[]); letGo old.toList.reverse; Builtin.List.listExtendWith (.ref S) (.ref it) .none) _ _ s
  refine wpAny_bind ?_
  unfold Builtin.List.listItems
  refine wpAny_bind (wpAny_seqItems hS rfl (wpAny_pure ?_))
  show wpAny _ _ (updateSeq S (fun _ => #[]) >>= fun _ => letGo (#[] : Array Value).toList.reverse >>= fun _ => Builtin.List.listExtendWith (.ref S) (.ref it) .none) _ _ s
  refine wpAny_bind (wpAny_updateSeq hS rfl ?_)
  have hS₂ := Heap.get?_update_self (Obj.mapSeq (fun _ => (#[] : Array Value))) hS rfl
  have oth : ∀ b o, b ≠ S → s.heap.get? b = some o → (s.heap.update S (Obj.mapSeq (fun _ => (#[] : Array Value)))).get? b = some o :=
    fun b o hb e => (Heap.get?_update_other _ _ (Ne.symm hb)).trans e
  refine wpAny_bind (wpAny_letGo ?_)
  exact extend_rev (s := { s with heap := s.heap.update S (Obj.mapSeq (fun _ => (#[] : Array Value))) }) hh (hit.at fun o e => oth it o (Ne.symm hSi) e) (hl.at fun o e => oth l o (Ne.symm hSl) e) hne hn S .none hS₂ hSi hSl fun h' tk acc' c' hk hS' hacc =>
    hR h' tk acc' c' (fun b o hb hb2 e => hk b o hb hb2 (oth b o hb e)) hS' hacc
theorem call_list_rev {it l : Addr} {items : Array Value} {Q : Value → Shared → Prop} (hh : A.handled = none) (hit : s.heap.IsRevIter it l ((items.size : Int) - 1)) (hl : s.heap.IsList l items) (hne : l ≠ it) (hn : items.size ≤ sizeLine)
    (hQ : ∀ h' tk acc' c', (∀ b o, b ≠ it → s.heap.get? b = some o → h'.get? b = some o) →
      h'.get? s.heap.objs.size = some { cls := .type "list", dict := none, data := .seq acc' c', slots := #[] } → ItemsOf (fun i v => items[items.size - 1 - i]? = some v) acc' items.size → Q (.ref s.heap.objs.size) { s with heap := h', toks := tk }) :
    wpAny (model prog w) A (call (.type "list") [.ref it]) Q E s := by
  refine callType_codes (Q₁ := fun obj s₁ => obj = .ref s.heap.objs.size ∧ s₁ = { s with heap := s.heap.push { cls := .type "list", data := .seq #[] } }) F.called_list (F.typeCall_list_1 _) F.entry_list_init
    (code_list_new _ ⟨rfl, rfl⟩) fun obj s₁ h₁ => ?_
  obtain ⟨rfl, rfl⟩ := h₁
  have hS : (s.heap.push { cls := .type "list", data := .seq #[] }).get? s.heap.objs.size = some { cls := .type "list", data := .seq #[] } := Heap.get?_push_size _ rfl
  obtain ⟨oi, hoi, _⟩ := id hit
  obtain ⟨ol, hol, _⟩ := id hl
  refine ⟨⟨_, hS, rfl⟩, F.args_list_init_2 _ _, list_init_rev (A := A.in1) (s := { s with heap := s.heap.push { cls := .type "list", data := .seq #[] } }) hh (hit.at fun o e => Heap.get?_push_of_some _ e) (hl.push _) hne hn _ hS (Nat.ne_of_gt (Heap.lt_size hoi)) (Nat.ne_of_gt (Heap.lt_size hol)) fun h' tk acc' c' hk hS' hacc => ?_⟩
  exact ⟨rfl, hQ h' tk acc' c' (fun b o hb e => hk b o (Nat.ne_of_lt (Heap.lt_size e)) hb (Heap.get?_push_of_some _ e)) hS' hacc⟩
end
def tLstRev (K : PySem.W.Frag) (te : TE) : TE := fun σ H Q => te σ H fun v H1 => ∃ (a : Addr) (xs : List V), v = .ref a ∧ SqL K H1 a xs ∧ ∀ q, H1 q = none → Q (.ref q) (upd H1 q (.lst xs.reverse))
section
variable {X : Cx}
theorem pe_lstRev {e : Expr} {te : TE} {p p2 pos pos2 : Pos} (hc : X.calm = true) (hg : Gl X "list") (hm : X.mg "list" = none) (hg2 : Gl X "reversed") (hm2 : X.mg "reversed" = none) (he : PE X e te)
    (hs : starEach [e] X.env = (false, eval e X.env) :: starEach [] X.env := by rfl)
    (hs2 : starEach [.Call (.Name "reversed" p2) [e] [] pos2] X.env = (false, eval (.Call (.Name "reversed" p2) [e] [] pos2) X.env) :: starEach [] X.env := by rfl) :
    PE X (.Call (.Name "list" p) [.Call (.Name "reversed" p2) [e] [] pos2] [] pos) (tLstRev X.K te) := by
  refine ⟨fun pins s σ H Q I h => ?_⟩
  refine Call_ (ld_blt I hg hm boot_list (PyProof.Rows.callWith_type1 (args_cons (Call_ (ld_blt I hg2 hm2 PyProof.Rows.boot_reversed (PyProof.Rows.callWith_type1 (args_cons (thn (he.run pins s σ H _ I h) fun u s1 ⟨v, H1, I1, r1, q1⟩ => args_nil ?_) hs) hs rfl))) hs2) hs2 rfl))
  obtain ⟨a, xs, ev, hq, q⟩ := q1
  subst ev
  obtain rfl : u = Value.ref a := r1
  obtain ⟨its, rv, p', hz⟩ := I1.list hq
  refine call_reversed_list p'.isList (args_nil ?_)
  have k0 : ∀ b o, s1.heap.get? b = some o → (s1.heap.push (revObj a ((its.toArray.size : Int) - 1))).get? b = some o := fun b o e => Heap.get?_push_of_some _ e
  have I2 : Inv X pins σ H1 { s1 with heap := s1.heap.push (revObj a ((its.toArray.size : Int) - 1)) } := I1.kept (t' := s1.toks) k0
  obtain ⟨f0, f1, f2, f3, f4, f5⟩ := I1.fpOk (H' := H1) (b := s1.heap.objs.size) (Nat.le_refl _) (I1.hok.fresh (Nat.le_refl _))
  have hl := p'.isList
  obtain ⟨ol, hol, _⟩ := id hl
  have hne : a ≠ s1.heap.objs.size := Nat.ne_of_lt (Heap.lt_size hol)
  have hn : its.toArray.size ≤ sizeLine := by rw [List.size_toArray, ← rv.length]; exact hz
  refine call_list_rev (s := { s1 with heap := s1.heap.push (revObj a ((its.toArray.size : Int) - 1)) }) (I1.ok.hd hc) ⟨_, Heap.get?_push_size _ rfl, rfl, rfl⟩ (hl.push _) hne hn fun h' tk acc c' hk he' hi => ?_
  have I3 : Inv X pins σ H1 { s1 with heap := h', toks := tk } := I2.turned (t' := tk) (fun b o hb e => hk b o hb e) f0 f1 f3 f4 f5
  refine ⟨.ref (s1.heap.push (revObj a ((its.toArray.size : Int) - 1))).objs.size, upd H1 (s1.heap.push (revObj a ((its.toArray.size : Int) - 1))).objs.size (.lst xs.reverse), ?_, rfl, q _ (I2.hok.fresh (Nat.le_refl _))⟩
  refine I2.turnedNew (t' := tk) (ch := [s1.heap.objs.size]) (fun b o hb e => hk b o (fun z => hb (by simp [z])) e) (fun b hb => ?_) (Nat.le_refl _) (show ObjOk X.prog X.w _ _ _ (.lst xs.reverse) from ⟨by rw [List.length_reverse]; exact hz, acc.toList, c', RT.vals_rev rv hi, ?_⟩)
  · have e : b = s1.heap.objs.size := by simpa using hb
    subst e
    exact ⟨f0, f1, f2, f3, f4, f5⟩
  · rw [Array.toArray_toList]; exact he'
end
inductive Ty5 where
  | int | bool | str | list | tuple
def Ty5.nm : Ty5 → String
  | .int => "int"
  | .bool => "bool"
  | .str => "str"
  | .list => "list"
  | .tuple => "tuple"
def isaB (T : Ty5) : Dt → Option Bool
  | .none => some false
  | .bool _ => some (match T with | .bool => true | .int => true | _ => false)
  | .int _ => some (match T with | .int => true | _ => false)
  | .str _ => some (match T with | .str => true | _ => false)
  | .list _ => some (match T with | .list => true | _ => false)
  | .tuple _ => some (match T with | .tuple => true | _ => false)
  | .dict es => if exnL es then none else some false
def hIsa (T : Ty5) : Dt → O Dt := fun d => match isaB T d with
  | some b => .ok (.bool b)
  | none => .bad
section
variable {K : PySem.W.Frag} {W : Wt} {Δ : List Kd} {te : TE} {g : Gd} {av fr : Bool} {T : Ty5}
theorem kit_non : PySem.W.kitOne K (.type "NoneType") (.type T.nm) = some false := by cases T <;> exact kit_ty (by decide +kernel)
theorem kit_bl : PySem.W.kitOne K (.type "bool") (.type T.nm) = some (match T with | .bool => true | .int => true | _ => false) := by cases T <;> exact kit_ty (by decide +kernel)
theorem kit_int : PySem.W.kitOne K (.type "int") (.type T.nm) = some (match T with | .int => true | _ => false) := by cases T <;> exact kit_ty (by decide +kernel)
theorem kit_str : PySem.W.kitOne K (.type "str") (.type T.nm) = some (match T with | .str => true | _ => false) := by cases T <;> exact kit_ty (by decide +kernel)
theorem kit_list : PySem.W.kitOne K (.type "list") (.type T.nm) = some (match T with | .list => true | _ => false) := by cases T <;> exact kit_ty (by decide +kernel)
theorem kit_dict : PySem.W.kitOne K (.type "dict") (.type T.nm) = some false := by cases T <;> exact kit_ty (by decide +kernel)
theorem kit_tuple : PySem.W.kitOne K (.type "tuple") (.type T.nm) = some (match T with | .tuple => true | _ => false) := by cases T <;> exact kit_ty (by decide +kernel)
theorem rp_isa {F : Addr → Prop} {H : Hp} {v : V} {d : Dt} {b : Bool} (h : Rp K F H v d) (e : isaB T d = some b) : ∃ t, TyX K H v t ∧ PySem.W.kitOne K t (.type T.nm) = some b := by
  cases h with
  | non => cases e; exact ⟨_, .base .non, kit_non⟩
  | bl x => cases e; exact ⟨_, .base (.bl x), kit_bl⟩
  | int x => cases e; exact ⟨_, .base (.int x), kit_int⟩
  | str x => cases e; exact ⟨_, .base (.str x), kit_str⟩
  | lst hp _ _ => cases e; exact ⟨_, .base (.lst hp), kit_list⟩
  | fz hp _ => cases e
  | tup hp _ =>
    cases e
    rcases hp with (hp | ⟨o, hp⟩) | ⟨o, its, n, hp, hc, _⟩
    · exact ⟨_, .base (.tup hp), kit_tuple⟩
    · exact ⟨_, .fTuple hp, kit_tuple⟩
    · exact ⟨_, .kTuple hp hc, kit_tuple⟩
  | @dic _ _ es hp _ _ _ =>
    have e : (if exnL es = true then none else some false) = some b := e
    cases hx : exnL es with
    | true => rw [hx] at e; cases e
    | false => rw [hx] at e; cases e; exact ⟨_, .base (.dK hp), kit_dict⟩
  | exn _ _ _ => cases e
theorem se_isa (ha : SE K W Δ te (.v av fr) g) : SE K W Δ (tCB (rIsi K) (tCons te (tCons (tC (.ty T.nm)) tNil))) (.v true true) (gUn (hIsa T) g) := fun f ρ σ H Q R q => by
  refine ha f ρ σ H _ R ?_
  unfold gUn at q
  cases e1 : g ρ with
  | bad => rw [e1] at q; exact q
  | ex z => rw [e1] at q; exact q
  | ok d =>
    rw [e1, bnd_ok] at q
    intro v H1 s1 x1
    unfold hIsa at q
    cases e2 : isaB T d with
    | none => rw [e2] at q; exact q.elim
    | some b =>
      rw [e2] at q
      obtain ⟨t, h1, h2⟩ := rp_isa x1 e2
      exact ⟨v, .ty T.nm, t, .type T.nm, b, rfl, .ty _, h1, h2, q _ H1 s1 (.bl b)⟩
end
section
variable {X : Cx} {K : PySem.W.Frag} {W : Wt} {Δ Δn Δb Δc : List Kd} {a b e : Expr} {es : List Expr} {ta tb te : TE} {tA : TA} {g ga : Gd} {gA : List Dt → O (List Dt)} {av fr : Bool} {L : Lk} {pos : Pos} {st : Stmt}
theorem x_isa (T : Ty5) {x : Str} {p p2 : Pos} (hm : X.mg "isinstance" = none) (hm2 : X.mg x = none) (h : PD X K W Δ e te (.v av fr) g) (hv : bootBuiltins x = some (.type T.nm) := by decide +kernel) (hg2 : Gl X x := by rfl) (hn : x ≠ "__name__" := by decide) (hdb : (x == ("__debug__" : Str)) = false := by decide)
    (hg : Gl X "isinstance" := by rfl)
    (he : starEach [e, .Name x p2] X.env = (false, eval e X.env) :: starEach [.Name x p2] X.env := by rfl) (he2 : starEach [.Name x p2] X.env = (false, eval (.Name x p2) X.env) :: starEach [] X.env := by rfl) (hpl : (backTo pos (starEach [.Name x p2] X.env)).any (·.1) = false := by rfl) :
    PD X K W Δ (.Call (.Name "isinstance" p) [e, .Name x p2] [] pos) (tCB (rIsi K) (tCons te (tCons (tC (.ty T.nm)) tNil))) (.v true true) (gUn (hIsa T) g) :=
  ⟨pe_callB (by have q := call_isi (X := X); rw [h.hK] at q; exact q) hg hm (by decide +kernel) (pa_cons h.pe (pa_cons (pe_bltn hg2 hm2 hv rfl hn hdb) pa_nil he2) he) (by decide) (by decide) he hpl, h.hK, se_isa h.se⟩
def gBad : Gs := fun _ => .bad
def lst1 : List Dt → Option (List Dt)
  | [.list es] => some es
  | _ => none
def lst2 : List Dt → Option (List Dt × List Dt)
  | [.list es, .list es2] => some (es, es2)
  | _ => none
theorem lst1_inv {ds es : List Dt} (h : lst1 ds = some es) : ds = [.list es] := by
  unfold lst1 at h
  split at h
  · cases h; rfl
  · cases h
theorem lst2_inv {ds : List Dt} {p : List Dt × List Dt} (h : lst2 ds = some p) : ds = [.list p.1, .list p.2] := by
  unfold lst2 at h
  split at h
  · cases h; rfl
  · cases h
def enumD (es : List Dt) : List Dt := es.zipIdx.map fun p => .tuple [.int (p.2 : Nat), p.1]
def zipD (es es2 : List Dt) : List Dt := (es.zip es2).map fun p => .tuple [p.1, p.2]
def gEnum (gA : List Dt → O (List Dt)) : List Dt → O (List Dt) := fun ρ => bnd (gA ρ) fun ds => match lst1 ds with
  | some es => .ok (enumD es)
  | none => .bad
def gRev (gA : List Dt → O (List Dt)) : List Dt → O (List Dt) := fun ρ => bnd (gA ρ) fun ds => match lst1 ds with
  | some es => .ok es.reverse
  | none => .bad
def gZip (gA : List Dt → O (List Dt)) : List Dt → O (List Dt) := fun ρ => bnd (gA ρ) fun ds => match lst2 ds with
  | some p => .ok (zipD p.1 p.2)
  | none => .bad
theorem sc_enum {c : Addr} {es : List Dt} : Sc K (Ite K c) none [.ref c] [.list es] (enumD es) where
  goes := fun i H hi ⟨_, F, r⟩ => by
    cases r with
    | cons h _ =>
      obtain ⟨b, xs, e, hs, r⟩ := h.sql
      cases e
      have hx : i < xs.length := by rw [r.length]; unfold enumD at hi; simpa using hi
      exact ⟨xs, xs[i], hs, List.getElem?_eq_getElem hx⟩
  stops := fun H ⟨_, F, r⟩ => by
    cases r with
    | cons h _ =>
      obtain ⟨b, xs, e, hs, r⟩ := h.sql
      cases e
      exact ⟨xs, hs, by rw [r.length]; unfold enumD; simp⟩
  yields := fun i H x H' hi _ y => by
    obtain ⟨T, z, e, nT, eH, y⟩ := y
    subst e eH
    refine ⟨same_upd nT, fun F r => ?_⟩
    cases r with
    | cons h _ =>
      obtain ⟨b, xs, e, hs, r⟩ := h.sql
      cases e
      obtain ⟨d, h1, h2⟩ := r.get (y xs hs)
      refine ⟨.tuple [.int (i : Nat), d], ?_, .tup (.inl (.inl upd_same)) (.cons (.int _) (.cons (h2.same (same_upd nT)) .nil))⟩
      unfold enumD
      rw [List.getElem?_map, List.getElem?_zipIdx, h1]
      simp
theorem sc_rev {c : Addr} {es : List Dt} {n : Nat} (hn : n = es.length) : Sc K (Itv K c n) none [.ref c] [.list es] es.reverse where
  goes := fun i H hi ⟨_, F, r⟩ => by
    cases r with
    | cons h _ =>
      obtain ⟨b, xs, e, hs, r⟩ := h.sql
      cases e
      rw [List.length_reverse] at hi
      have hx : n - 1 - i < xs.length := by rw [r.length]; omega
      exact ⟨by omega, xs, _, hs, List.getElem?_eq_getElem hx⟩
  stops := fun H _ => by rw [List.length_reverse]; exact Nat.le_of_eq hn
  yields := fun i H x H' hi _ y => by
    obtain ⟨e, y⟩ := y
    subst e
    refine ⟨Same.refl _, fun F r => ?_⟩
    cases r with
    | cons h _ =>
      obtain ⟨b, xs, e, hs, r⟩ := h.sql
      cases e
      obtain ⟨d, h1, h2⟩ := r.get (y xs hs)
      rw [List.length_reverse] at hi
      exact ⟨d, by rw [List.getElem?_reverse hi, ← hn]; exact h1, h2⟩
theorem sc_zip {c c2 : Addr} {es es2 : List Dt} : Sc K (Itz K c c2) none [.ref c, .ref c2] [.list es, .list es2] (zipD es es2) where
  goes := fun i H hi ⟨_, F, r⟩ => by
    cases r with
    | cons h r2 =>
      cases r2 with
      | cons h2 _ =>
        obtain ⟨b, xs, e, hs, r⟩ := h.sql
        cases e
        obtain ⟨b, xs2, e, hs2, r2⟩ := h2.sql
        cases e
        have hl : i < es.length ∧ i < es2.length := by unfold zipD at hi; rw [List.length_map, List.length_zip] at hi; omega
        exact ⟨xs, xs2, _, _, hs, hs2, List.getElem?_eq_getElem (by rw [r.length]; exact hl.1), List.getElem?_eq_getElem (by rw [r2.length]; exact hl.2)⟩
  stops := fun H ⟨_, F, r⟩ => by
    cases r with
    | cons h r2 =>
      cases r2 with
      | cons h2 _ =>
        obtain ⟨b, xs, e, hs, r⟩ := h.sql
        cases e
        obtain ⟨b, xs2, e, hs2, r2⟩ := h2.sql
        cases e
        refine ⟨xs, xs2, hs, hs2, ?_⟩
        unfold zipD
        rw [List.length_map, List.length_zip, r.length, r2.length]
        omega
  yields := fun i H x H' hi _ y => by
    obtain ⟨T, z, z2, e, nT, eH, y, y2⟩ := y
    subst e eH
    refine ⟨same_upd nT, fun F r => ?_⟩
    cases r with
    | cons h r2 =>
      cases r2 with
      | cons h2 _ =>
        obtain ⟨b, xs, e, hs, r⟩ := h.sql
        cases e
        obtain ⟨b, xs2, e, hs2, r2⟩ := h2.sql
        cases e
        obtain ⟨d, h1, h1'⟩ := r.get (y xs hs)
        obtain ⟨d2, h2, h2'⟩ := r2.get (y2 xs2 hs2)
        refine ⟨.tuple [d, d2], ?_, .tup (.inl (.inl upd_same)) (.cons (h1'.same (same_upd nT)) (.cons (h2'.same (same_upd nT)) .nil))⟩
        unfold zipD
        rw [List.getElem?_map, List.getElem?_zip_eq_some (z := (d, d2)) |>.mpr ⟨h1, h2⟩]
        rfl
theorem si_enum (h : SA K W Δ tA true fr gA) : SI K W Δ (iEnum K tA) false fr (gEnum gA) := fun f ρ σ H Rk R q => by
  refine h f ρ σ H _ R ?_
  unfold gEnum at q
  cases e1 : gA ρ with
  | bad => rw [e1] at q; exact q
  | ex z => rw [e1] at q; exact q
  | ok ds =>
    rw [e1, bnd_ok] at q
    intro vs H1 s1 x1
    cases er : lst1 ds with
    | none => rw [er] at q; exact q.elim
    | some es =>
      rw [er] at q
      have e := lst1_inv er
      subst e
      have x0 := x1
      cases x1 with
      | cons x1 xr =>
        cases xr
        obtain ⟨c, xs, rfl, hs, r⟩ := x1.sql
        exact ⟨c, xs, rfl, hs, q _ H1 none [.ref c] [.list es] s1 (fun _ => rfl) (fun _ e => nomatch e) x0 sc_enum⟩
theorem si_rev (h : SA K W Δ tA true fr gA) : SI K W Δ (iRev K tA) false fr (gRev gA) := fun f ρ σ H Rk R q => by
  refine h f ρ σ H _ R ?_
  unfold gRev at q
  cases e1 : gA ρ with
  | bad => rw [e1] at q; exact q
  | ex z => rw [e1] at q; exact q
  | ok ds =>
    rw [e1, bnd_ok] at q
    intro vs H1 s1 x1
    cases er : lst1 ds with
    | none => rw [er] at q; exact q.elim
    | some es =>
      rw [er] at q
      have e := lst1_inv er
      subst e
      have x0 := x1
      cases x1 with
      | cons x1 xr =>
        cases xr
        obtain ⟨c, xs, rfl, hs, r⟩ := x1.sql
        exact ⟨c, xs, rfl, hs, q _ H1 none [.ref c] [.list es] s1 (fun _ => rfl) (fun _ e => nomatch e) x0 (sc_rev r.length)⟩
theorem si_zip (h : SA K W Δ tA true fr gA) : SI K W Δ (iZip K tA) false fr (gZip gA) := fun f ρ σ H Rk R q => by
  refine h f ρ σ H _ R ?_
  unfold gZip at q
  cases e1 : gA ρ with
  | bad => rw [e1] at q; exact q
  | ex z => rw [e1] at q; exact q
  | ok ds =>
    rw [e1, bnd_ok] at q
    intro vs H1 s1 x1
    cases er : lst2 ds with
    | none => rw [er] at q; exact q.elim
    | some p =>
      rw [er] at q
      have e := lst2_inv er
      subst e
      have x0 := x1
      cases x1 with
      | cons x1 xr =>
        cases xr with
        | cons x2 xr =>
          cases xr
          obtain ⟨c, xs, rfl, hs, r⟩ := x1.sql
          obtain ⟨c2, xs2, rfl, hs2, r2⟩ := x2.sql
          exact ⟨c, c2, xs, xs2, rfl, hs, hs2, q _ H1 none [.ref c, .ref c2] [.list p.1, .list p.2] s1 (fun _ => rfl) (fun _ e => nomatch e) x0 sc_zip⟩
theorem i_enum {p tpos : Pos} {elts : List Expr} {kk : Nat} (hm : X.mg "enumerate" = none) (h : AD X K W Δ [a] tA true fr gA) (hg : Gl X "enumerate" := by rfl) (hs : starEach [a] X.env = [(false, eval a X.env)] := by rfl) : ID X K W Δ (.Tuple elts kk tpos) (.Call (.Name "enumerate" p) [a] [] pos) (iEnum K tA) false fr (gEnum gA) :=
  ⟨by have q := pi_enum (X := X) (tpos := tpos) (elts := elts) (kk := kk) (p := p) (pos := pos) hg hm h.pa hs; rw [h.hK] at q; exact q, h.hK, si_enum h.sa⟩
theorem i_rev {tg : Expr} {p : Pos} (hm : X.mg "reversed" = none) (h : AD X K W Δ [a] tA true fr gA) (hg : Gl X "reversed" := by rfl) (hs : starEach [a] X.env = [(false, eval a X.env)] := by rfl) : ID X K W Δ tg (.Call (.Name "reversed" p) [a] [] pos) (iRev K tA) false fr (gRev gA) :=
  ⟨by have q := pi_reversed (X := X) (tg := tg) (p := p) (pos := pos) hg hm h.pa hs; rw [h.hK] at q; exact q, h.hK, si_rev h.sa⟩
theorem i_zip {p tpos : Pos} {elts : List Expr} {kk : Nat} (hm : X.mg "zip" = none) (h : AD X K W Δ [a, b] tA true fr gA) (hg : Gl X "zip" := by rfl) (hs : starEach [a, b] X.env = (false, eval a X.env) :: starEach [b] X.env := by rfl) (hpl : (backTo pos (starEach [b] X.env)).any (·.1) = false := by rfl) : ID X K W Δ (.Tuple elts kk tpos) (.Call (.Name "zip" p) [a, b] [] pos) (iZip K tA) false fr (gZip gA) :=
  ⟨by have q := pi_zip (X := X) (tpos := tpos) (elts := elts) (kk := kk) (p := p) (pos := pos) hg hm h.pa hs hpl; rw [h.hK] at q; exact q, h.hK, si_zip h.sa⟩
def gLsI (gI : List Dt → O (List Dt)) : Gd := fun ρ => bnd (gI ρ) fun ds => if ds.length ≤ 100000 then .ok (.list ds) else .bad
theorem rpA_mapInt {F : Addr → Prop} {H : Hp} {α : Type} (f : α → Int) : ∀ l : List α, RpA K F H (l.map fun i => V.int (f i)) (l.map fun i => PyData.int (f i))
  | [] => .nil
  | x :: l => .cons (.int _) (rpA_mapInt f l)
theorem se_lrng1 (ha : SE K W Δ te (.v av fr) g) : SE K W Δ (tLstRg (tRg1 te)) (.new .l true) (gLsI (gRng1 (gCons g gNil))) := fun f ρ σ H Q R q => by
  refine ha f ρ σ H _ R ?_
  unfold gLsI gRng1 gCons gNil at q
  cases e1 : g ρ with
  | bad => rw [e1] at q; exact q
  | ex z => rw [e1] at q; exact q
  | ok d =>
    rw [e1, bnd_ok, bnd_ok, bnd_ok] at q
    intro v H1 s1 x1
    cases er : rng1 [d] with
    | none => rw [er] at q; exact q.elim
    | some p =>
      rw [er] at q
      unfold rng1 at er
      split at er
      · split at er
        · rename_i hj
          obtain ⟨e, e'⟩ := List.cons.inj ‹[d] = _›
          rename_i j h2
          cases er
          subst e
          rw [rpInt x1]
          simp only [bnd_ok] at q
          by_cases l : (rangeD 0 j).length ≤ 100000
          · rw [if_pos l] at q
            rw [rangeD_len] at l
            refine ⟨j, rfl, ⟨by omega, by omega, hj.1, hj.2, by omega⟩, fun p np => q p _ (s1.free np) (s1.trans (same_upd np)) ⟨_, _, rfl, upd_same, ?_⟩⟩
            exact rpA_mapInt _ _
          · rw [if_neg l] at q
            exact q.elim
        · cases er
      · cases er
theorem se_lrevO (ha : SE K W Δ te (.o fr) g) : SE K W Δ (tLstRev K te) (.new .l fr) (gLsI (gRev (gCons g gNil))) := fun f ρ σ H Q R q => by
  refine ha f ρ σ H _ R ?_
  unfold gLsI gRev gCons gNil at q
  cases e1 : g ρ with
  | bad => rw [e1] at q; exact q
  | ex z => rw [e1] at q; exact q
  | ok d =>
    rw [e1, bnd_ok, bnd_ok, bnd_ok] at q
    intro p H1 vs ds ed s1 hp gp x1
    subst ed
    simp only [bnd_ok, lst1] at q
    by_cases l : ds.reverse.length ≤ 100000
    · rw [if_pos l] at q
      exact ⟨p, vs, rfl, .inl (.inl hp), fun p np => q p _ (s1.free np) (s1.trans (same_upd np)) ⟨_, _, rfl, upd_same, x1.reverse.mono (same_upd np) fun a y z => ⟨y, fun e => z (e ▸ np)⟩⟩⟩
    · rw [if_neg l] at q
      exact q.elim
theorem x_lrng1 {p p2 pos2 : Pos} (hm : X.mg "list" = none) (hm2 : X.mg "range" = none) (h : PD X K W Δ a ta (.v av fr) ga) (hc : X.calm = true := by rfl) (hg : Gl X "list" := by rfl) (hg2 : Gl X "range" := by rfl)
    (na : starEach [a] X.env = (false, eval a X.env) :: starEach [] X.env := by rfl) (na2 : starEach [.Call (.Name "range" p2) [a] [] pos2] X.env = (false, eval (.Call (.Name "range" p2) [a] [] pos2) X.env) :: starEach [] X.env := by rfl) :
    PD X K W Δ (.Call (.Name "list" p) [.Call (.Name "range" p2) [a] [] pos2] [] pos) (tLstRg (tRg1 ta)) (.new .l true) (gLsI (gRng1 (gCons ga gNil))) := ⟨pe_listRg hc hg hm (prg_1 hg2 hm2 h.pe na) na2, h.hK, se_lrng1 h.se⟩
theorem x_lrevO {p p2 pos2 : Pos} (hm : X.mg "list" = none) (hm2 : X.mg "reversed" = none) (h : PD X K W Δ a ta (.o fr) ga) (hc : X.calm = true := by rfl) (hg : Gl X "list" := by rfl) (hg2 : Gl X "reversed" := by rfl)
    (na : starEach [a] X.env = (false, eval a X.env) :: starEach [] X.env := by rfl) (na2 : starEach [.Call (.Name "reversed" p2) [a] [] pos2] X.env = (false, eval (.Call (.Name "reversed" p2) [a] [] pos2) X.env) :: starEach [] X.env := by rfl) :
    PD X K W Δ (.Call (.Name "list" p) [.Call (.Name "reversed" p2) [a] [] pos2] [] pos) (tLstRev K ta) (.new .l fr) (gLsI (gRev (gCons ga gNil))) := ⟨by have q := pe_lstRev (X := X) (p := p) (p2 := p2) (pos := pos) (pos2 := pos2) hc hg hm hg2 hm2 h.pe na na2; rw [h.hK] at q; exact q, h.hK, se_lrevO h.se⟩
end
section
variable {K : PySem.W.Frag} {W : Wt} {Δ : List Kd}
end
theorem gChain_def (h h' : Dt → Dt → O Dt) (ga gb gc : Gd) (ρ : List Dt) : gChain h h' ga gb gc ρ = bnd (ga ρ) fun x => bnd (gb ρ) fun y => bnd (h x y) fun z => bnd (asB z) fun c => if c then bnd (gc ρ) fun w => h' y w else .ok (.bool false) := rfl
theorem hIsa_int (i : Int) : hIsa .int (.int i) = .ok (.bool true) := rfl
theorem hIsa_intb (i : Int) : hIsa .bool (.int i) = .ok (.bool false) := rfl
theorem hIsa_list (x : List Dt) : hIsa .list (.list x) = .ok (.bool true) := rfl
theorem hIsa_tuple (x : List Dt) : hIsa .tuple (.tuple x) = .ok (.bool true) := rfl
theorem gDrop_def (g : Gd) (ρ : List Dt) : gDrop g ρ = bnd (g ρ) fun _ => .ok (.nx ρ) := rfl
theorem fnN_nx {m : Nat} {g : Gs} {ds ρ : List Dt} (h : g (ds ++ List.replicate (m - ds.length) .none) = .ok (.nx ρ)) : fnN m g ds = .ok .none := by unfold fnN; rw [h]
theorem lsI_ok {gI : List Dt → O (List Dt)} {ρ ds : List Dt} (h : gI ρ = .ok ds) (hl : ds.length ≤ 100000) : gLsI gI ρ = .ok (.list ds) := by unfold gLsI; rw [h, bnd_ok, if_pos hl]
theorem rev_ok {gA : List Dt → O (List Dt)} {ρ es : List Dt} (h : gA ρ = .ok [.list es]) : gRev gA ρ = .ok es.reverse := by unfold gRev; rw [h]; rfl
theorem enum_ok {gA : List Dt → O (List Dt)} {ρ es : List Dt} (h : gA ρ = .ok [.list es]) : gEnum gA ρ = .ok (enumD es) := by unfold gEnum; rw [h]; rfl
theorem zip_ok {gA : List Dt → O (List Dt)} {ρ es fs : List Dt} (h : gA ρ = .ok [.list es, .list fs]) : gZip gA ρ = .ok (zipD es fs) := by unfold gZip; rw [h]; rfl
theorem hAll_b (xs : List Bool) : hAll [.list (xs.map .bool)] = .ok (.bool (xs.all id)) := by
  unfold hAll
  simp only [allB_map]
theorem setI_ok {i : Nat} {ge gi : Gd} {ρ ds : List Dt} {d : Dt} {j : Int} (h1 : ge ρ = .ok d) (h2 : ρ[i]? = some (.list ds)) (h3 : gi ρ = .ok (.int j)) (j0 : 0 ≤ j) (j1 : j < ds.length) : gSetI i ge gi ρ = .ok (.nx (ρ.set i (.list (ds.set j.toNat d)))) := by
  unfold gSetI
  have e : ixN ds.length j = some j.toNat := by
    unfold ixN
    repeat (first | rw [if_pos (by omega)] | rw [if_neg (by omega)])
  rw [h1, bnd_ok, h2]
  simp only
  rw [h3, bnd_ok]
  simp only [e]
theorem enumD_map {α : Type} (f : α → Dt) (xs : List α) : enumD (xs.map f) = (xs.zipIdx.map fun p => .tuple [.int (p.2 : Nat), f p.1]) := by
  unfold enumD
  rw [List.zipIdx_map, List.map_map]
  rfl
theorem zipD_map {α β : Type} (f : α → Dt) (g : β → Dt) (xs : List α) (ys : List β) : zipD (xs.map f) (ys.map g) = ((xs.zip ys).map fun p => .tuple [f p.1, g p.2]) := by
  unfold zipD
  rw [List.zip_map, List.map_map]
  rfl
end Sim
end T_SimI
section T_SimJ
set_option Elab.async false
set_option linter.all false
set_option maxRecDepth 100000
namespace Sim
open PySem PySem.Spec L2
open PyProof.Rows hiding St
def isK : Key → Dt → Bool
  | .inl i, .int j => decide (j = i)
  | .inr x, .str y => decide (y = x)
  | _, _ => false
def keyOf : Dt → Option Key
  | .int i => some (.inl i)
  | .str x => some (.inr x)
  | _ => none
def dGet (es : List (Dt × Dt)) (k : Key) : Option Dt := (es.find? fun e => isK k e.1).map (·.2)
def dPut (es : List (Dt × Dt)) (k : Key) (v : Dt) : List (Dt × Dt) := if (es.any fun e => isK k e.1) = true then es.map (fun e => if isK k e.1 = true then (e.1, v) else e) else es ++ [(keyD k, v)]
def dDrop (es : List (Dt × Dt)) (k : Key) : List (Dt × Dt) := es.filter fun e => !isK k e.1
section
variable {K : PySem.W.Frag} {F F' : Addr → Prop} {H H' : Hp}
theorem isK_keyD (k k' : Key) : isK k (keyD k') = decide (k' = k) := by
  cases k <;> cases k' <;> simp [isK, keyD]
theorem kV_keyOf {v : V} {d : Dt} {k : Key} (x : Rp K F H v d) (e : keyOf d = some k) : v = kV k := by
  cases x <;> cases e <;> rfl
theorem KvA.length : ∀ {kvs : List (Key × V)} {es : List (Dt × Dt)}, KvA K F H kvs es → kvs.length = es.length
  | _, _, .nil => rfl
  | _, _, .cons _ r => by rw [List.length_cons, List.length_cons, r.length]
theorem KvA.get (k : Key) : ∀ {kvs : List (Key × V)} {es : List (Dt × Dt)}, KvA K F H kvs es → (valV kvs k = none ∧ dGet es k = none) ∨ ∃ v d, valV kvs k = some v ∧ dGet es k = some d ∧ Rp K F H v d
  | _, _, .nil => .inl ⟨rfl, rfl⟩
  | _, _, .cons (k := k') (v := v) (d := d) (kvs := kvs) (es := es) h r => by
    by_cases c : k' = k
    · refine .inr ⟨v, d, valV_pos c, ?_, h⟩
      unfold dGet
      rw [List.find?_cons_of_pos (by rw [isK_keyD]; simpa using c)]
      rfl
    · rw [valV_neg c]
      have e : dGet ((keyD k', d) :: es) k = dGet es k := by
        unfold dGet
        rw [List.find?_cons_of_neg (by rw [isK_keyD]; simpa using c)]
      rw [e]
      exact r.get k
theorem KvA.any (k : Key) : ∀ {kvs : List (Key × V)} {es : List (Dt × Dt)}, KvA K F H kvs es → (kvs.any fun kv => decide (kv.1 = k)) = es.any fun e => isK k e.1
  | _, _, .nil => rfl
  | _, _, .cons h r => by rw [List.any_cons, List.any_cons, r.any k, isK_keyD]
theorem KvA.snoc {k : Key} {v : V} {d : Dt} (x : Rp K F H v d) : ∀ {kvs : List (Key × V)} {es : List (Dt × Dt)}, KvA K F H kvs es → KvA K F H (kvs ++ [(k, v)]) (es ++ [(keyD k, d)])
  | _, _, .nil => .cons x .nil
  | _, _, .cons h r => .cons h (r.snoc x)
theorem KvA.over {k : Key} {v : V} {d : Dt} (x : Rp K F H v d) : ∀ {kvs : List (Key × V)} {es : List (Dt × Dt)}, KvA K F H kvs es → KvA K F H (kvs.map fun kv => if kv.1 = k then (kv.1, v) else kv) (es.map fun e => if isK k e.1 = true then (e.1, d) else e)
  | _, _, .nil => .nil
  | _, _, .cons (k := k') h r => by
    rw [List.map_cons, List.map_cons, isK_keyD]
    by_cases c : k' = k
    · rw [if_pos c, if_pos (by simpa using c)]
      exact .cons x (r.over x)
    · rw [if_neg c, if_neg (by simpa using c)]
      exact .cons h (r.over x)
theorem KvA.put {k : Key} {v : V} {d : Dt} (x : Rp K F H v d) {kvs : List (Key × V)} {es : List (Dt × Dt)} (h : KvA K F H kvs es) : KvA K F H (putK kvs k v) (dPut es k d) := by
  unfold putK dPut
  rw [h.any k]
  split
  · exact h.over x
  · exact h.snoc x
theorem KvA.drop (k : Key) : ∀ {kvs : List (Key × V)} {es : List (Dt × Dt)}, KvA K F H kvs es → KvA K F H (dropK kvs k) (dDrop es k)
  | _, _, .nil => .nil
  | _, _, .cons (k := k') h r => by
    unfold dropK dDrop
    rw [List.filter_cons, List.filter_cons, isK_keyD]
    by_cases c : k' = k
    · rw [if_neg (by simpa using c), if_neg (by simpa using c)]
      exact r.drop k
    · rw [if_pos (by simpa using c), if_pos (by simpa using c)]
      exact .cons h (r.drop k)
end
def gDNew : Gd := fun _ => .ok (.dict [])
def dAt (ρ : List Dt) (i : Nat) : Option (List (Dt × Dt)) := match ρ[i]? with
  | some (.dict es) => some es
  | _ => none
def gDIn (neg : Bool) (i : Nat) (gk : Gd) : Gd := fun ρ => bnd (gk ρ) fun kd => match dAt ρ i with
  | some es => (match keyOf kd with
    | some k => .ok (.bool (if neg then !(dGet es k).isSome else (dGet es k).isSome))
    | none => .bad)
  | none => .bad
def gDPut (i : Nat) (gv gk : Gd) : Gs := fun ρ => bnd (gv ρ) fun v => match dAt ρ i with
  | some es => bnd (gk ρ) fun kd => (match keyOf kd with
    | some k => if es.length < 100000 then .ok (.nx (ρ.set i (.dict (dPut es k v)))) else .bad
    | none => .bad)
  | none => .bad
theorem dAt_inv {ρ : List Dt} {i : Nat} {es : List (Dt × Dt)} (h : dAt ρ i = some es) : ρ[i]? = some (.dict es) := by
  unfold dAt at h
  split at h
  · cases h; assumption
  · cases h
section
variable {K : PySem.W.Frag} {W : Wt} {Δ Δb Δc : List Kd} {te ti : TE} {g ge gk : Gd} {fr fr' av : Bool} {L : Lk} {i : Nat}
theorem dk_own {f : Fm} {ρ : List Dt} {σ : L2.St} {H : Hp} {es : List (Dt × Dt)} (r : R K f Δ ρ σ H) (hk : Δ[i]? = some (.own .dk fr)) (h : dAt ρ i = some es) :
    ∃ p kvs, σ[i]? = some (some (V.ref p)) ∧ f.H0 p = none ∧ H p = some (.dK kvs) ∧ KvA K (FM f Δ σ true fr) H kvs es := by
  obtain ⟨p, d, g1, g2, g3, kvs, es', ed, g4, g5⟩ := r.ow i .dk fr hk
  rw [dAt_inv h] at g2
  cases g2
  cases ed
  exact ⟨p, kvs, g1, g3, g4, g5⟩
theorem se_dnew : SE K W Δ tDNewK (.new .dk true) gDNew := fun f ρ σ H Q r q => fun p np => q p _ np (same_upd np) ⟨[], [], rfl, upd_same, .nil⟩
theorem se_din (neg : Bool) (hk : Δ[i]? = some (.own .dk fr)) (h : SE K W Δ ti (.v av fr') gk) : SE K W Δ (if neg then tDNotIn ti (tVar i) else tDIn ti (tVar i)) (.v true true) (gDIn neg i gk) := fun f ρ σ H Q r q => by
  have key : ti σ H (fun y H1 => tVar i σ H1 fun x H2 => ∃ a o, x = .ref a ∧ DGet H2 a y o ∧ Q (.bl (if neg then !o.isSome else o.isSome)) H2) := by
    refine h f ρ σ H _ r ?_
    unfold gDIn at q
    cases e2 : gk ρ with
    | bad => rw [e2] at q; exact q
    | ex z => rw [e2] at q; exact q
    | ok kd =>
      rw [e2, bnd_ok] at q
      intro kv H1 s1 xk
      cases ed : dAt ρ i with
      | none => rw [ed] at q; exact q.elim
      | some es =>
        rw [ed] at q
        simp only at q
        obtain ⟨p, kvs, g1, g3, g4, g5⟩ := dk_own r hk ed
        cases ek : keyOf kd with
        | none => rw [ek] at q; exact q.elim
        | some k =>
          rw [ek] at q
          simp only at q
          rw [kV_keyOf xk ek]
          refine ⟨_, g1, p, valV kvs k, rfl, DGet.k (s1 _ _ g4), ?_⟩
          have eq : (valV kvs k).isSome = (dGet es k).isSome := by
            rcases g5.get k with ⟨e1, e⟩ | ⟨v, d, e1, e, x⟩ <;> rw [e1, e] <;> rfl
          rw [eq]
          exact q _ H1 s1 (.bl _)
  cases neg with
  | true => exact key
  | false => exact key
theorem s_dput (hk : Δ[i]? = some (.own .dk fr)) (h : SE K W Δ te (.v true fr') ge) (h2 : SE K W Δ ti (.v av av') gk) : SS K W L Δ (Δ.set i (.own .dk (fr && fr'))) Δb Δc (sDPut (tVar i) ti te) (gDPut i ge gk) := fun f ρ σ H E r q => h f ρ σ H _ r <| by
  unfold gDPut at q
  cases e : ge ρ with
  | bad => rw [e] at q; exact q
  | ex z => rw [e] at q; exact fun H' s => q σ H' (r.ext.trans s)
  | ok d =>
    rw [e, bnd_ok] at q
    cases ed : dAt ρ i with
    | none => rw [ed] at q; exact q.elim
    | some es =>
      rw [ed] at q
      simp only at q
      obtain ⟨p, kvs, g1, g3, g4, g5⟩ := dk_own r hk ed
      intro v H1 s x
      refine ⟨_, g1, h2 f ρ σ H1 _ (r.mono s) ?_⟩
      cases e2 : gk ρ with
      | bad => rw [e2] at q; exact q
      | ex z => rw [e2] at q; exact fun H' s2 => q σ H' ((r.ext.trans s).trans s2)
      | ok kd =>
        rw [e2, bnd_ok] at q
        intro kv H2 s2 xk
        cases ek : keyOf kd with
        | none => rw [ek] at q; exact q.elim
        | some k =>
          rw [ek] at q
          simp only at q
          by_cases hl : es.length < 100000
          · rw [if_pos hl] at q
            rw [kV_keyOf xk ek]
            have s12 := s.trans s2
            have hp := s12 _ _ g4
            refine ⟨p, _, rfl, DPut.k hp (by rw [g5.length]; exact Nat.lt_of_lt_of_le hl (by decide)), q σ _ ?_⟩
            refine (r.mono s12).updOwn hk g1 (c' := .dk) (show Mutb (.dK _) from trivial) ⟨_, _, rfl, upd_same, ?_⟩
            have nf : ∀ {fr : Bool} (a : Addr), FM f Δ σ true fr a → a ≠ p := fun a fa z => (fa.1 rfl).1 (z ▸ ⟨i, .dk, _, hk, g1⟩)
            refine KvA.put ((Rp.updM hp trivial (fun a fa => nf a fa) (x.same s2)).weak fun a y => y.weak id fun h => (Bool.and_eq_true_iff.mp h).2) ?_
            exact g5.map fun v d z => (Rp.updM hp trivial (fun a fa => nf a fa) (z.same s12)).weak fun a y => y.weak id fun h => (Bool.and_eq_true_iff.mp h).1
          · rw [if_neg hl] at q
            exact q.elim
end
section
variable {X : Cx} {K : PySem.W.Frag} {W : Wt} {Δ Δb Δc : List Kd} {a b e tg : Expr} {te ti : TE} {g ge gk : Gd} {fr fr' av av' : Bool} {L : Lk} {pos p pos' : Pos} {x : Str} {m : Nat}
theorem x_dnew (hK : X.K = K := by rfl) : PD X K W Δ (.Dict [] [] pos) tDNewK (.new .dk true) gDNew := ⟨pe_dnewK, hK, se_dnew⟩
theorem c_dnin (i : Nat) (hr : Room m X.A) (h : PD X K W Δ e te (.v av fr') g) (hk : Δ[i]? = some (.own .dk fr) := by rfl) (hv : Vis X.env.scope x := by first | exact Or.inl rfl | exact Or.inr (Or.inl rfl) | exact Or.inr (Or.inr rfl)) (hN : X.N[i]? = some x := by rfl) (hd : (x == ("__debug__" : Str)) = false := by decide) (hcd : (x == ("__classdict__" : Str)) = false := by decide) (hm : behindInMarks .NotIn (.Name x p) = false := by rfl) :
    TD X K W Δ (.Compare e [.NotIn] [.Name x p] pos) (tB (tDNotIn te (tVar i))) (gTest (gDIn true i g)) := ⟨pt_cmp (pc_dnotin (by have := hr.un; omega) h.pe (pe_var hN hv hd hcd)) hm, h.hK, st_B (se_din true hk h.se)⟩
theorem z_dput (i : Nat) (hr : Room m X.A) (h : PD X K W Δ e te (.v true fr') ge) (h2 : PD X K W Δ b ti (.v av av') gk) (hk : Δ[i]? = some (.own .dk fr) := by rfl) (hv : Vis X.env.scope x := by first | exact Or.inl rfl | exact Or.inr (Or.inl rfl) | exact Or.inr (Or.inr rfl)) (hN : X.N[i]? = some x := by rfl) (hd : (x == ("__debug__" : Str)) = false := by decide) (hcd : (x == ("__classdict__" : Str)) = false := by decide) (hs : swapsWith e (some (.Subscript (.Name x p) b pos')) pos.line X.env = pure false := by rfl) :
    SD X K W L Δ (Δ.set i (.own .dk (fr && fr'))) Δb Δc (.Assign [.Subscript (.Name x p) b pos'] e pos) (sDPut (tVar i) ti te) (gDPut i ge gk) := ⟨ps_dput (by have := hr.un; omega) (pe_var hN hv hd hcd) h2.pe h.pe hs, h.hK, s_dput hk h.se h2.se⟩
end
section
variable {X : Cx} {K : PySem.W.Frag} {W : Wt} {Δ : List Kd} {a : Expr} {ta te : TE} {g : Gd} {av fr : Bool} {p p2 q pos : Pos}
end
end Sim
end T_SimJ
section T_SimS
set_option Elab.async false
set_option linter.all false
set_option maxRecDepth 100000
namespace Sim
def lxLt : List Int → List Int → Bool
  | _, [] => false
  | [], _ :: _ => true
  | x :: xs, y :: ys => if x = y then lxLt xs ys else decide (x < y)
theorem lxLt_cons (x y : Int) (xs ys : List Int) : lxLt (x :: xs) (y :: ys) = if x = y then lxLt xs ys else decide (x < y) := rfl
theorem lxLt_irr : ∀ xs : List Int, lxLt xs xs = false
  | [] => rfl
  | x :: xs => by rw [lxLt_cons, if_pos rfl, lxLt_irr xs]
theorem lxLt_trans : ∀ {xs ys zs : List Int}, lxLt xs ys = true → lxLt ys zs = true → lxLt xs zs = true
  | [], [], _, h, _ => by cases h
  | _ :: _, [], _, h, _ => by cases h
  | _, _ :: _, [], _, h => by cases h
  | [], _ :: _, _ :: _, _, _ => rfl
  | x :: xs, y :: ys, z :: zs, h, k => by
    rw [lxLt_cons] at h k ⊢
    by_cases e1 : x = y
    · rw [if_pos e1] at h
      subst e1
      by_cases e2 : x = z
      · rw [if_pos e2] at k ⊢
        exact lxLt_trans h k
      · rw [if_neg e2] at k ⊢
        exact k
    · rw [if_neg e1, decide_eq_true_eq] at h
      by_cases e2 : y = z
      · subst e2
        rw [if_neg e1, decide_eq_true_eq]
        exact h
      · rw [if_neg e2, decide_eq_true_eq] at k
        rw [if_neg (by omega), decide_eq_true_eq]
        omega
theorem lxLt_tri : ∀ {xs ys : List Int}, lxLt xs ys = false → lxLt ys xs = false → xs = ys
  | [], [], _, _ => rfl
  | [], _ :: _, h, _ => by cases h
  | _ :: _, [], _, h => by cases h
  | x :: xs, y :: ys, h, k => by
    rw [lxLt_cons] at h k
    by_cases e : x = y
    · rw [if_pos e] at h
      rw [if_pos e.symm] at k
      rw [e, lxLt_tri h k]
    · rw [if_neg e, decide_eq_false_iff_not] at h
      rw [if_neg (fun z => e z.symm), decide_eq_false_iff_not] at k
      omega
end Sim
namespace TS
open PySem PyProof.Rows Sim
section
variable {prog : Program} {w : World} {A : Around} {E : Value → Shared → Prop} {s : Shared} {Q : Bool → Shared → Prop}
end
def TupsL (h : Heap) (vs : List Value) : Prop := ∀ v, v ∈ vs → ∃ ns, TupInts h v ns ∧ ns ≠ []
theorem TupsL.keeps {h h' : Heap} {vs : List Value} (x : TupsL h vs) (k : ∀ b o, h.get? b = some o → o.cls = .type "tuple" → h'.get? b = some o) : TupsL h' vs := fun v hv =>
  let ⟨ns, t, r⟩ := x v hv; ⟨ns, t.keeps k, r⟩
section
variable {prog : Program} {w : World} {A : Around} {E : Value → Shared → Prop} {s : Shared}
end
end TS
end T_SimS
section T_SimT
set_option Elab.async false
set_option linter.all false
set_option maxRecDepth 100000
namespace L2
open PySem PySem.Spec PyProof.Rows Sim
section
variable {P : Program} {w : World} {A : Around} {E : Value → Shared → Prop} {s : Shared}
set_option maxHeartbeats 3200000 in
end
end L2
namespace Sim
open PySem PySem.Spec L2
open PyProof.Rows hiding St
section
variable {X : Cx}
variable {a : Expr} {ta te : TE} {p p2 q pos : Pos}
end
end Sim
end T_SimT
section T_SimU
set_option Elab.async false
set_option linter.all false
set_option maxRecDepth 100000
namespace Sim
open PySem PySem.Spec L2
open PyProof.Rows hiding St
def allT : List Dt → Option (List (List Int))
  | [] => some []
  | .tuple xs :: ds => match allI xs with
    | some ns => match allT ds with
      | some nss => some (ns :: nss)
      | none => none
    | none => none
  | _ :: _ => none
def encL (ns : List Int) : Dt := .tuple (ns.map .int)
theorem allT_map : ∀ nss : List (List Int), allT (nss.map encL) = some nss
  | [] => rfl
  | ns :: nss => by
    rw [List.map_cons]
    unfold encL allT
    rw [show allI (ns.map PyData.int) = some ns from allI_map ns]
    have := allT_map nss
    unfold encL at this
    rw [this]
def dd {α : Type} [DecidableEq α] : List α → List α
  | [] => []
  | x :: xs => if x ∈ xs then dd xs else x :: dd xs
section
variable {K : PySem.W.Frag} {W : Wt} {Δ : List Kd}
theorem rpA_tups {F : Addr → Prop} {H : Hp} : ∀ {xs : List V} {ds : List Dt} {nss : List (List Int)}, RpA K F H xs ds → allT ds = some nss → ∃ ts : List (Addr × List Int), xs = ts.map (fun p => V.ref p.1) ∧ ts.map (·.2) = nss ∧ ∀ p ∈ ts, SqT K H p.1 (p.2.map V.int)
  | _, _, _, .nil, e => by cases e; exact ⟨[], rfl, rfl, fun p hp => nomatch hp⟩
  | _, _, nss, .cons (d := d) (ds := ds) h r, e => by
    cases h with
    | @tup a ys es hs hr =>
      unfold allT at e
      cases ei : allI es with
      | none => rw [ei] at e; cases e
      | some ns =>
        rw [ei] at e
        cases et : allT ds with
        | none => rw [et] at e; cases e
        | some ms =>
          rw [et] at e
          cases e
          obtain ⟨ts, e1, e2, e3⟩ := rpA_tups r et
          refine ⟨(a, ns) :: ts, by rw [List.map_cons, e1], by rw [List.map_cons, e2], fun p hp => ?_⟩
          rcases List.mem_cons.mp hp with z | z
          · rw [z]
            rw [rp_ints hr ei] at hs
            exact hs
          · exact e3 p z
    | _ => cases e
variable {X : Cx} {a e : Expr} {es : List Expr} {te : TE} {tA : TA} {g : Gd} {gA : List Dt → O (List Dt)} {av fr : Bool} {p p2 q pos : Pos}
end
end Sim
end T_SimU
section T_SimV
set_option Elab.async false
set_option linter.all false
set_option maxRecDepth 100000
namespace Sim
open PySem PySem.Spec L2
open PyProof.Rows hiding St
def gDNew1 (gk gv : Gd) : Gd := fun ρ => bnd (gk ρ) fun kd => match keyOf kd with
  | some k => bnd (gv ρ) fun v => .ok (.dict [(keyD k, v)])
  | none => .bad
section
variable {K : PySem.W.Frag} {W : Wt} {Δ : List Kd} {tk tv ti ta tb : TE} {gk gv ga gb g : Gd} {fr fr' av : Bool} {i : Nat}
theorem se_dnew1 (hk : SE K W Δ tk (.v av fr') gk) (hv : SE K W Δ tv (.v true fr) gv) : SE K W Δ (tDisp [(tk, tv)]) (.new .dk fr) (gDNew1 gk gv) := fun f ρ σ H Q R q => by
  intro p np
  have s0 : Same H (upd H p (.dK [])) := same_upd np
  refine hk f ρ σ _ _ (R.mono s0) ?_
  unfold gDNew1 at q
  cases e1 : gk ρ with
  | bad => rw [e1] at q; exact q
  | ex z => rw [e1] at q; exact fun H' s => q H' (s0.trans s)
  | ok kd =>
    rw [e1, bnd_ok] at q
    intro kv H1 s1 xk
    refine hv (f.pn p) ρ σ H1 _ ((R.addP (o := .dK []) np trivial).mono s1) ?_
    cases ek : keyOf kd with
    | none => rw [ek] at q; exact q.elim
    | some k =>
      rw [ek] at q
      dsimp only at q
      cases e2 : gv ρ with
      | bad => rw [e2] at q; exact q
      | ex z => rw [e2] at q; exact fun H' s => q H' ((s0.trans s1).trans s)
      | ok d =>
        rw [e2, bnd_ok] at q
        intro v H2 s2 x2
        have s12 := s1.trans s2
        have hp : H2 p = some (.dK []) := s12 _ _ upd_same
        have sf : Same H (upd H2 p (.dK [(k, v)])) := fun b o e => by
          rw [upd_ne (ne_of_none e np)]
          exact (s0.trans s12) b o e
        refine ⟨hp, [(k, v)], by rw [kV_keyOf xk ek]; rfl, by show 1 ≤ 15; omega, ?_⟩
        have em : mergeK [] [(k, v)] = [(k, v)] := rfl
        rw [em]
        refine q p _ np sf ⟨_, _, rfl, upd_same, .cons ?_ .nil⟩
        exact Rp.updM hp trivial (fun a fa => fa.2) (x2.weak fun a fa => ⟨⟨fun e => ⟨(fa.1 e).1, fun z => (fa.1 e).2 (List.mem_cons_of_mem _ z)⟩, fa.2⟩, fun z => (fa.1 rfl).2 (z ▸ List.mem_cons_self)⟩)
end
section
variable {X : Cx} {a : Expr} {ta te : TE} {p p2 q pos : Pos}
end
section
variable {X : Cx} {K : PySem.W.Frag} {W : Wt} {Δ : List Kd} {a b e : Expr} {te ti tk tv ta tb : TE} {g gk gv ga gb : Gd} {fr fr' av : Bool} {pos p p2 q apos cpos : Pos} {x : Str} {m : Nat}
theorem x_dnew1 (hk : PD X K W Δ a tk (.v av fr') gk) (hv : PD X K W Δ b tv (.v true fr) gv) : PD X K W Δ (.Dict [some a] [b] pos) (tDisp [(tk, tv)]) (.new .dk fr) (gDNew1 gk gv) :=
  ⟨pe_disp (pps_cons hk.pe hv.pe pps_nil) rfl rfl (fun h => nomatch h) (by show 1 ≤ 15; omega), hk.hK, se_dnew1 hk.se hv.se⟩
end
end Sim
end T_SimV
section T_SimW
set_option Elab.async false
set_option linter.all false
set_option maxRecDepth 100000
namespace L2
open PySem PySem.Spec PyProof.Rows
section
variable {X : Cx} {e : Expr} {te : TE} {k k' : Nat} {p1 p2 p3 pos : Pos}
end
end L2
namespace Sim
open PySem PySem.Spec L2
open PyProof.Rows hiding St
section
variable {K : PySem.W.Frag} {F : Addr → Prop} {H : Hp}
end
def isT (ns : List Int) (d : Dt) : Bool := match d with
  | .tuple xs => decide (allI xs = some ns)
  | _ => false
def tPut (es : List (Dt × Dt)) (ns : List Int) (v : Dt) : List (Dt × Dt) := if (es.any fun e => isT ns e.1) = true then es.map (fun e => if isT ns e.1 = true then (e.1, v) else e) else es ++ [(encL ns, v)]
theorem allI_int (i : Int) (ds : List Dt) : allI (.int i :: ds) = (allI ds).map fun ns => i :: ns := by
  conv => lhs; unfold allI
  first
  | done
  | (cases allI ds <;> rfl)
theorem allI_str (x : Str) (ds : List Dt) : allI (.str x :: ds) = none := rfl
theorem allI_keyD : ∀ {k : List Key} {ns : List Int}, allI (k.map keyD) = some ns ↔ k = ns.map Sum.inl
  | [], [] => by simp [allI]
  | [], _ :: _ => by simp [allI]
  | .inl i :: k, [] => by
    rw [List.map_cons]
    show allI (.int i :: k.map keyD) = some [] ↔ _
    rw [allI_int]
    cases allI (k.map keyD) <;> simp
  | .inl i :: k, n :: ns => by
    have ih := @allI_keyD k ns
    rw [List.map_cons]
    show allI (.int i :: k.map keyD) = some (n :: ns) ↔ _
    rw [allI_int, List.map_cons]
    constructor
    · intro z
      cases e : allI (k.map keyD) with
      | none => rw [e] at z; cases z
      | some ms =>
        rw [e] at z
        injection z with z
        injection z with z1 z2
        rw [z2] at e
        rw [ih.mp e, z1]
    · intro z
      injection z with z1 z2
      injection z1 with z1
      rw [ih.mpr z2, z1]
      rfl
  | .inr x :: k, ns => by
    rw [List.map_cons]
    show allI (.str x :: k.map keyD) = some ns ↔ _
    rw [allI_str]
    constructor
    · intro z; cases z
    · intro z
      cases ns with
      | nil => cases z
      | cons n ns => injection z with z1 z2; cases z1
theorem isT_keyD (ns : List Int) (k : List Key) : isT ns (.tuple (k.map keyD)) = decide (k = ns.map Sum.inl) := by
  show decide (allI (k.map keyD) = some ns) = _
  exact decide_eq_decide.mpr allI_keyD
section
variable {K : PySem.W.Frag} {F : Addr → Prop} {H : Hp}
theorem KtA.length : ∀ {kvs : List (List Key × V)} {es : List (Dt × Dt)}, KtA K F H kvs es → kvs.length = es.length
  | _, _, .nil => rfl
  | _, _, .cons _ r => by rw [List.length_cons, List.length_cons, r.length]
theorem KtA.any (ns : List Int) : ∀ {kvs : List (List Key × V)} {es : List (Dt × Dt)}, KtA K F H kvs es → (kvs.any fun kv => decide (kv.1 = ns.map Sum.inl)) = es.any fun e => isT ns e.1
  | _, _, .nil => rfl
  | _, _, .cons h r => by rw [List.any_cons, List.any_cons, r.any ns, isT_keyD]
theorem keyD_ints (ns : List Int) : (ns.map Sum.inl : List Key).map keyD = ns.map PyData.int := by rw [List.map_map]; rfl
theorem KtA.snoc {ns : List Int} {v : V} {d : Dt} (x : Rp K F H v d) : ∀ {kvs : List (List Key × V)} {es : List (Dt × Dt)}, KtA K F H kvs es → KtA K F H (kvs ++ [(ns.map Sum.inl, v)]) (es ++ [(encL ns, d)])
  | _, _, .nil => by
    have := KtA.cons (k := ns.map Sum.inl) x (KtA.nil (K := K) (F := F) (H := H))
    rw [keyD_ints] at this
    exact this
  | _, _, .cons h r => .cons h (r.snoc x)
theorem KtA.over {ns : List Int} {v : V} {d : Dt} (x : Rp K F H v d) : ∀ {kvs : List (List Key × V)} {es : List (Dt × Dt)}, KtA K F H kvs es → KtA K F H (kvs.map fun kv => if kv.1 = ns.map Sum.inl then (kv.1, v) else kv) (es.map fun e => if isT ns e.1 = true then (e.1, d) else e)
  | _, _, .nil => .nil
  | _, _, .cons (k := k') h r => by
    rw [List.map_cons, List.map_cons, isT_keyD]
    by_cases c : k' = ns.map Sum.inl
    · rw [if_pos c, if_pos (by simpa using c)]
      exact .cons x (r.over x)
    · rw [if_neg c, if_neg (by simpa using c)]
      exact .cons h (r.over x)
theorem KtA.put {ns : List Int} {v : V} {d : Dt} (x : Rp K F H v d) {kvs : List (List Key × V)} {es : List (Dt × Dt)} (h : KtA K F H kvs es) : KtA K F H (putK kvs (ns.map Sum.inl) v) (tPut es ns d) := by
  unfold putK tPut
  rw [h.any ns]
  split
  · exact h.over x
  · exact h.snoc x
theorem KtA.keys : ∀ {kvs : List (List Key × V)} {es : List (Dt × Dt)} {bs : List Addr}, KtA K F H kvs es → IsKeys H kvs bs → RpA K F H (bs.map V.ref) (es.map (·.1))
  | _, _, _, .nil, e => by cases e; exact .nil
  | _, _, _, .cons (k := k) h r, e => by
    cases e with
    | cons h1 h2 => exact .cons (.tup (.inl (.inl h1)) (rpA_keys k)) (r.keys h2)
where
  rpA_keys : ∀ k : List Key, RpA K F H (k.map kV) (k.map keyD)
    | [] => .nil
    | .inl i :: k => .cons (.int i) (rpA_keys k)
    | .inr x :: k => .cons (.str x) (rpA_keys k)
end
section
variable {K : PySem.W.Frag} {W : Wt} {Δ Δb Δc : List Kd} {te : TE} {tA : TA} {ge g : Gd} {gA : List Dt → O (List Dt)} {fr fr' av fr2 : Bool} {L : Lk} {i : Nat}
end
section
variable {X : Cx} {K : PySem.W.Frag} {W : Wt} {Δ Δb Δc : List Kd} {a b e : Expr} {es : List Expr} {te : TE} {tA : TA} {g ge : Gd} {gA : List Dt → O (List Dt)} {fr fr' fr2 av : Bool} {L : Lk} {pos pos' p p1 p2 p3 pT : Pos} {x : Str} {k k' m : Nat}
end
end Sim
end T_SimW
section T_SimM
set_option Elab.async false
set_option linter.all false
set_option maxRecDepth 100000
namespace Sim
open PySem PySem.Spec L2
open PyProof.Rows hiding St
abbrev Gx := List Dt → O (Dt × List Dt)
def PoX (K : PySem.W.Frag) (f : Fm) (Δ : List Kd) (σ : L2.St) (k : Rk) (o : O (Dt × List Dt)) (Q : VK) : Prop := match o with
  | .ok (d, ρ') => (match k with
    | .v av fr => ∀ v H', R K f Δ ρ' σ H' → Rp K (FM f Δ σ av fr) H' v d → Q v H'
    | .new c fr => ∀ p H', R K (f.pn p) Δ ρ' σ H' → p ∉ f.P → f.H0 p = none → OwC K c (FM (f.pn p) Δ σ true fr) H' p d → Q (.ref p) H'
    | .o _ => False)
  | _ => False
def SX (K : PySem.W.Frag) (Δ : List Kd) (te : TE) (k : Rk) (g : Gx) : Prop := ∀ f ρ σ H Q, R K f Δ ρ σ H → PoX K f Δ σ k (g ρ) Q → te σ H Q
def PoXA (K : PySem.W.Frag) (f : Fm) (Δ : List Kd) (σ : L2.St) (av fr : Bool) (o : O (List Dt × List Dt)) (Q : List V → Hp → Prop) : Prop := match o with
  | .ok (ds, ρ') => ∀ vs H', R K f Δ ρ' σ H' → RpA K (FM f Δ σ av fr) H' vs ds → Q vs H'
  | _ => False
def SXA (K : PySem.W.Frag) (Δ : List Kd) (ta : TA) (av fr : Bool) (g : List Dt → O (List Dt × List Dt)) : Prop := ∀ f ρ σ H Q, R K f Δ ρ σ H → PoXA K f Δ σ av fr (g ρ) Q → ta σ H Q
def PoXT (K : PySem.W.Frag) (f : Fm) (Δ : List Kd) (σ : L2.St) (o : O (Bool × List Dt)) (Q : Bool → Hp → Prop) : Prop := match o with
  | .ok (b, ρ') => ∀ H', R K f Δ ρ' σ H' → Q b H'
  | _ => False
def SXT (K : PySem.W.Frag) (Δ : List Kd) (tt : TT) (g : List Dt → O (Bool × List Dt)) : Prop := ∀ f ρ σ H Q, R K f Δ ρ σ H → PoXT K f Δ σ (g ρ) Q → tt σ H Q
def xP (g : Gd) : Gx := fun ρ => bnd (g ρ) fun d => .ok (d, ρ)
def xPA (g : List Dt → O (List Dt)) : List Dt → O (List Dt × List Dt) := fun ρ => bnd (g ρ) fun d => .ok (d, ρ)
def xPT (g : List Dt → O Bool) : List Dt → O (Bool × List Dt) := fun ρ => bnd (g ρ) fun d => .ok (d, ρ)
def xOp (h : Dt → Dt → O Dt) (a b : Gx) : Gx := fun ρ => bnd (a ρ) fun x => bnd (b x.2) fun y => bnd (h x.1 y.1) fun z => .ok (z, y.2)
def xNil : List Dt → O (List Dt × List Dt) := fun ρ => .ok ([], ρ)
def xCons (a : Gx) (b : List Dt → O (List Dt × List Dt)) : List Dt → O (List Dt × List Dt) := fun ρ => bnd (a ρ) fun x => bnd (b x.2) fun y => .ok (x.1 :: y.1, y.2)
def xTup (a : List Dt → O (List Dt × List Dt)) : Gx := fun ρ => bnd (a ρ) fun x => if x.1.length ≤ 100000 then .ok (.tuple x.1, x.2) else .bad
def xTest (a : Gx) : List Dt → O (Bool × List Dt) := fun ρ => bnd (a ρ) fun x => bnd (asB x.1) fun b => .ok (b, x.2)
def xNot (t : List Dt → O (Bool × List Dt)) : List Dt → O (Bool × List Dt) := fun ρ => bnd (t ρ) fun x => .ok (!x.1, x.2)
def xAnd (t u : List Dt → O (Bool × List Dt)) : List Dt → O (Bool × List Dt) := fun ρ => bnd (t ρ) fun x => if x.1 then u x.2 else .ok (false, x.2)
def xCallN (n : Nat) (g : List Dt → O Dt) (gA : List Dt → O (List Dt × List Dt)) : Gx := fun ρ => bnd (gA ρ) fun x => if x.1.length = n then (match g x.1 with
  | .ok d => .ok (d, x.2)
  | _ => .bad) else .bad
def argK : Ct → Dt → Bool
  | .la, .list es => sclA es
  | .ka, .dict es => sclV es
  | _, _ => false
def xCallM (c : Ct) (n : Nat) (g : List Dt → O Dt) (i : Nat) (gA : List Dt → O (List Dt × List Dt)) : Gx := fun ρ => bnd (gA ρ) fun x => if x.1.length + 1 = n then (match x.2[i]? with
  | some a => if argK c a then (match g (a :: x.1) with
    | .ok (.tuple [r, e]) => if argK c e then .ok (r, x.2.set i e) else .bad
    | _ => .bad) else .bad
  | none => .bad) else .bad
def bx {α β : Type} (x : O α) (f : α → O β) : O β := match x with
  | .ok a => f a
  | _ => .bad
def xSet (i : Nat) (g : Gx) : Gs := fun ρ => bx (g ρ) fun x => .ok (.nx (x.2.set i x.1))
def xAsg (g : Gx) (h : Dt → List Dt → O (List Dt)) : Gs := fun ρ => bx (g ρ) fun x => match h x.1 x.2 with
  | .ok ρ' => .ok (.nx ρ')
  | _ => .bad
def xIfS (t : List Dt → O (Bool × List Dt)) (a b : Gs) : Gs := fun ρ => bx (t ρ) fun x => if x.1 then a x.2 else b x.2
def argD : Dt → Bool
  | .list es => sclA es
  | .dict es => sclV es
  | _ => false
def xRetM (g : Gx) : Gs := fun ρ => bx (g ρ) fun x => match x.2[0]? with
  | some e => if argD e then .ok (.rt (.tuple [x.1, e])) else .bad
  | none => .bad
def xFor (gi : List Dt → O (List Dt × List Dt)) (h : Dt → List Dt → O (List Dt)) (b : Gs) : Gs := fun ρ => bx (gi ρ) fun x => forE h b x.1 x.2
theorem sclA_any {K : PySem.W.Frag} {F F' : Addr → Prop} {H H' : Hp} : ∀ {vs : List V} {ds : List Dt}, RpA K F H vs ds → sclA ds = true → RpA K F' H' vs ds
  | _, _, .nil, _ => .nil
  | _, _, .cons h r, e => by
    unfold sclA at e
    rw [Bool.and_eq_true] at e
    exact .cons (h.scl_any e.1) (sclA_any r e.2)
theorem sclV_any {K : PySem.W.Frag} {F F' : Addr → Prop} {H H' : Hp} : ∀ {vs : List (L2.Key × V)} {ds : List (Dt × Dt)}, KvA K F H vs ds → sclV ds = true → KvA K F' H' vs ds
  | _, _, .nil, _ => .nil
  | _, _, .cons h r, e => by
    unfold sclV at e
    rw [Bool.and_eq_true] at e
    exact .cons (h.scl_any e.1) (sclV_any r e.2)
section
variable {K : PySem.W.Frag} {f : Fm} {Δ : List Kd} {ρ : List Dt} {σ : L2.St} {H H' : Hp} {p : Addr} {d : Dt} {i : Nat}
theorem R.pinNew (r : R K f Δ ρ σ H) (np : H p = none) (e : Same H H') (m : ∃ o, H' p = some o ∧ Mutb o) : R K (f.pn p) Δ ρ σ H' := by
  obtain ⟨f1, f2, f3⟩ := r.fresh np
  have key : ∀ {fr : Bool} {v : V} {d : Dt}, Rp K (FM f Δ σ true fr) H v d → Rp K (FM (f.pn p) Δ σ true fr) H' v d := fun h =>
    h.mono e fun a fa na => ⟨fun _ => ⟨(fa.1 rfl).1, fun z => by
      rcases List.mem_cons.mp z with e | h
      · exact na (e ▸ np)
      · exact (fa.1 rfl).2 h⟩, fa.2⟩
  refine ⟨r.ext.trans e, r.g0, r.lσ, r.lρ, r.inj, fun a ha => ?_, fun g hg => (r.gh g hg).map fun _ _ x => key x, fun i fr h => ?_, fun i c fr h => ?_, r.ar, r.sp, fun i t h => let ⟨v, d, h1, h2, h3⟩ := r.sl i t h; ⟨v, d, h1, h2, h3.same e⟩⟩
  · rcases List.mem_cons.mp ha with q | h
    · subst q
      exact ⟨m, f1⟩
    · obtain ⟨⟨u, hu, mu⟩, no⟩ := r.pin a h
      exact ⟨⟨u, e _ _ hu, mu⟩, no⟩
  · obtain ⟨v, d, h1, h2, h3⟩ := r.im i fr h
    exact ⟨v, d, h1, h2, key h3⟩
  · obtain ⟨v, d, h1, h2, h3, h4⟩ := r.ow i c fr h
    exact ⟨v, d, h1, h2, h3, h4.map (fun o q => e _ _ q) fun _ _ x => key x⟩
theorem R.dropP (r : R K (f.pn p) Δ ρ σ H) : R K f Δ ρ σ H := by
  have key : ∀ {fr : Bool} {v : V} {d : Dt}, Rp K (FM (f.pn p) Δ σ true fr) H v d → Rp K (FM f Δ σ true fr) H v d := fun h =>
    h.weak fun a fa => ⟨fun _ => ⟨(fa.1 rfl).1, fun z => (fa.1 rfl).2 (List.mem_cons_of_mem _ z)⟩, fa.2⟩
  refine ⟨r.ext, r.g0, r.lσ, r.lρ, r.inj, fun a ha => r.pin a (List.mem_cons_of_mem _ ha), fun g hg => (r.gh g hg).map fun _ _ x => key x, fun i fr h => ?_, fun i c fr h => ?_, r.ar, r.sp, r.sl⟩
  · obtain ⟨v, d, h1, h2, h3⟩ := r.im i fr h
    exact ⟨v, d, h1, h2, key h3⟩
  · obtain ⟨v, d, h1, h2, h3, h4⟩ := r.ow i c fr h
    exact ⟨v, d, h1, h2, h3, h4.map (fun o q => q) fun _ _ x => key x⟩
end
section
variable {K : PySem.W.Frag} {W : Wt} {Δ Δn Δb Δc : List Kd} {ta tb te : TE} {tt tu : TT} {tA : TA} {g : Gd} {ga gb gx : Gx} {gt gu : List Dt → O (Bool × List Dt)} {gA : List Dt → O (List Dt × List Dt)} {k : Rk} {av fr av' fr' : Bool} {L : Lk} {i : Nat} {t u : TS} {g1 g2 : Gs}
theorem SX.of (h : SE K W0 Δ te (.v av fr) g) : SX K Δ te (.v av fr) (xP g) := fun f ρ σ H Q r q => h f ρ σ H Q r <| by
  unfold xP at q
  cases e : g ρ with
  | bad => rw [e] at q; exact q.elim
  | ex z => rw [e] at q; exact q.elim
  | ok d => rw [e] at q; exact fun v H' s x => q v H' (r.mono s) x
theorem SX.ofN {c : Ct} (h : SE K W0 Δ te (.new c fr) g) : SX K Δ te (.new c fr) (xP g) := fun f ρ σ H Q r q => h f ρ σ H Q r <| by
  unfold xP at q
  cases e : g ρ with
  | bad => rw [e] at q; exact q.elim
  | ex z => rw [e] at q; exact q.elim
  | ok d =>
    rw [e] at q
    intro p H' np s x
    obtain ⟨f1, f2, f3⟩ := r.fresh np
    refine q p H' (r.pinNew np s x.mutb) f2 f3 (x.map (fun _ e => e) fun _ _ y => y.weak fun a fa => ⟨fun _ => ⟨(fa.1.1 rfl).1, fun z => ?_⟩, fa.1.2⟩)
    rcases List.mem_cons.mp z with z | z
    · exact fa.2 z
    · exact (fa.1.1 rfl).2 z
theorem SXA.of {gA : List Dt → O (List Dt)} (h : SA K W0 Δ tA av fr gA) : SXA K Δ tA av fr (xPA gA) := fun f ρ σ H Q r q => h f ρ σ H Q r <| by
  unfold xPA at q
  cases e : gA ρ with
  | bad => rw [e] at q; exact q.elim
  | ex z => rw [e] at q; exact q.elim
  | ok d => rw [e] at q; exact fun v H' s x => q v H' (r.mono s) x
theorem SXT.of {gt : List Dt → O Bool} (h : ST K W0 Δ tt gt) : SXT K Δ tt (xPT gt) := fun f ρ σ H Q r q => h f ρ σ H Q r <| by
  unfold xPT at q
  cases e : gt ρ with
  | bad => rw [e] at q; exact q.elim
  | ex z => rw [e] at q; exact q.elim
  | ok d => rw [e] at q; exact fun H' s => q H' (r.mono s)
theorem SX.wk (h : SX K Δ te (.v av fr) gx) (h1 : av' = true → av = true := by decide) (h2 : fr' = true → fr = true := by decide) : SX K Δ te (.v av' fr') gx := fun f ρ σ H Q r q => h f ρ σ H Q r <| by
  cases e : gx ρ with
  | bad => rw [e] at q; exact q.elim
  | ex z => rw [e] at q; exact q.elim
  | ok d => rw [e] at q; exact fun v H' s x => q v H' s (x.fm h1 h2)
theorem SX.nv (h : SX K Δ te (.new .l fr) gx) : SX K Δ te (.v true fr) gx := fun f ρ σ H Q r q => h f ρ σ H Q r <| by
  cases e : gx ρ with
  | bad => rw [e] at q; exact q.elim
  | ex z => rw [e] at q; exact q.elim
  | ok d =>
    rw [e] at q
    intro p H' r' hP h0 x
    obtain ⟨vs, ds, ed, hp, x⟩ := x
    have no := (r'.pin p List.mem_cons_self).2
    have q : ∀ v H', R K f Δ d.2 σ H' → Rp K (FM f Δ σ true fr) H' v d.1 → Q v H' := q
    rw [ed] at q
    exact q _ H' r'.dropP (.lst hp ⟨fun _ => ⟨no, hP⟩, fun _ => r'.g0 p h0⟩ (x.weak fun a fa => ⟨fun _ => ⟨(fa.1 rfl).1, fun z => (fa.1 rfl).2 (List.mem_cons_of_mem _ z)⟩, fa.2⟩))
theorem bnd_inv' {α β : Type} {x : O α} {k : α → O β} {P : O β → Prop} (hb : ¬ P .bad) (he : ∀ e, ¬ P (.ex e)) (h : P (bnd x k)) : ∃ a, x = .ok a ∧ P (k a) := by
  cases x with
  | bad => exact (hb h).elim
  | ex e => exact (he e h).elim
  | ok a => exact ⟨a, rfl, h⟩
theorem sx_op {r : R2} {h : Dt → Dt → O Dt} (hs : Scl2 h) (ho : OSc K r h) (ha : SX K Δ ta (.v true fr) ga) (hb : SX K Δ tb (.v av' fr') gb) : SX K Δ (tOp r ta tb) (.v true true) (xOp h ga gb) := fun f ρ σ H Q R q => by
  refine ha f ρ σ H _ R ?_
  unfold xOp at q
  obtain ⟨⟨d, ρ1⟩, e1, q⟩ := bnd_inv' (P := fun o => PoX K f Δ σ (.v true true) o Q) id (fun _ => id) q
  rw [e1]
  intro v H1 R1 x1
  have R1' := R1.addG (fr := fr) (.cons x1 .nil)
  refine hb _ ρ1 σ H1 _ R1' ?_
  obtain ⟨⟨d2, ρ2⟩, e2, q⟩ := bnd_inv' (P := fun o => PoX K f Δ σ (.v true true) o Q) id (fun _ => id) q
  have e2 : gb ρ1 = _ := e2
  rw [e2]
  intro v2 H2 R2 x2
  have x1' : Rp K (FM f Δ σ true fr) H2 v d := by
    cases R2.gh _ List.mem_cons_self with
    | cons h _ => exact h
  have q : PoX K f Δ σ (.v true true) (bnd (h d d2) fun z => .ok (z, ρ2)) Q := q
  refine ho H2 v v2 d d2 Q (x1'.weak fun _ _ => trivial) (x2.weak fun _ _ => trivial) ?_
  rcases hs d d2 with ⟨z, ez, sz⟩ | ez
  · rw [ez] at q ⊢
    exact ⟨sz, fun w x => q w H2 R2.dropG (x.scl_any sz)⟩
  · rw [ez] at q
    exact q.elim
theorem sxa_nil : SXA K Δ tNil true true xNil := fun f ρ σ H Q r q => q [] H r .nil
theorem sxa_cons (ha : SX K Δ ta (.v true fr) ga) (hr : SXA K Δ tA true fr' gA) : SXA K Δ (tCons ta tA) true (fr && fr') (xCons ga gA) := fun f ρ σ H Q R q => by
  refine ha f ρ σ H _ R ?_
  unfold xCons at q
  obtain ⟨⟨d, ρ1⟩, e1, q⟩ := bnd_inv' (P := fun o => PoXA K f Δ σ true (fr && fr') o Q) id (fun _ => id) q
  rw [e1]
  intro v H1 R1 x1
  have R1' := R1.addG (fr := fr) (.cons x1 .nil)
  refine hr _ ρ1 σ H1 _ R1' ?_
  obtain ⟨⟨ds, ρ2⟩, e2, q⟩ := bnd_inv' (P := fun o => PoXA K f Δ σ true (fr && fr') o Q) id (fun _ => id) q
  have e2 : gA ρ1 = _ := e2
  rw [e2]
  intro vs H2 R2 x2
  have x1' : Rp K (FM f Δ σ true fr) H2 v d := by
    cases R2.gh _ List.mem_cons_self with
    | cons h _ => exact h
  exact q (v :: vs) H2 R2.dropG (.cons (x1'.fm id fun h => (Bool.and_eq_true_iff.mp h).1) (x2.weak fun _ y => y.weak id fun h => (Bool.and_eq_true_iff.mp h).2))
theorem SXA.wk (h : SXA K Δ tA av fr gA) (h1 : av' = true → av = true := by decide) (h2 : fr' = true → fr = true := by decide) : SXA K Δ tA av' fr' gA := fun f ρ σ H Q r q => h f ρ σ H Q r <| by
  cases e : gA ρ with
  | bad => rw [e] at q; exact q.elim
  | ex z => rw [e] at q; exact q.elim
  | ok d => rw [e] at q; exact fun v H' s x => q v H' s (x.weak fun _ y => y.weak h1 h2)
theorem sx_tup (ha : SXA K Δ tA av fr gA) : SX K Δ (tTup tA) (.v av fr) (xTup gA) := fun f ρ σ H Q R q => by
  refine ha f ρ σ H _ R ?_
  unfold xTup at q
  obtain ⟨⟨ds, ρ1⟩, e1, q⟩ := bnd_inv' (P := fun o => PoX K f Δ σ (.v av fr) o Q) id (fun _ => id) q
  rw [e1]
  intro vs H1 R1 x1
  simp only at q
  by_cases l : ds.length ≤ 100000
  · rw [if_pos l] at q
    exact ⟨by rw [x1.length]; exact sz_le l, fun p np => q _ _ (R1.mono (same_upd np)) (.tup (.inl (.inl upd_same)) (x1.same (same_upd np)))⟩
  · rw [if_neg l] at q
    exact q.elim
theorem rix_of {F : Addr → Prop} {H : Hp} {v v2 : V} {d d2 z : Dt} {Q : VK} (x : Rp K F H v d) (x2 : Rp K (fun _ => True) H v2 d2) (h : hIx d d2 = .ok z) (q : ∀ w, Rp K F H w z → Q w H) : rIx K v v2 H Q := by
  unfold hIx at h
  split at h
  · split at h
    · rename_i z hz
      cases h
      obtain ⟨a, xs, rfl, hs, r⟩ := x.sql
      obtain ⟨w, hw, rw'⟩ := r.ixN hz
      rw [rpInt x2]
      exact .inl ⟨a, xs, _, w, rfl, rfl, hs, hw, q w rw'⟩
    · cases h
  · split at h
    · rename_i z hz
      cases h
      obtain ⟨a, xs, rfl, hs, r⟩ := x.sqt
      obtain ⟨w, hw, rw'⟩ := r.ixN hz
      rw [rpInt x2]
      exact .inr (.inl ⟨a, xs, _, w, rfl, rfl, hs, hw, q w rw'⟩)
    · cases h
  · split at h
    · rename_i hl
      split at h
      · rename_i c hc
        cases h
        rw [rpInt x2]
        cases x
        exact .inr (.inr ⟨_, _, c, rfl, rfl, sz_le hl, hc, q _ (.str _)⟩)
      · cases h
    · cases h
  · cases h
theorem sx_ix (ha : SX K Δ ta (.v true fr) ga) (hb : SX K Δ tb (.v av' fr') gb) : SX K Δ (tOp (rIx K) ta tb) (.v true fr) (xOp hIx ga gb) := fun f ρ σ H Q R q => by
  refine ha f ρ σ H _ R ?_
  unfold xOp at q
  obtain ⟨⟨d, ρ1⟩, e1, q⟩ := bnd_inv' (P := fun o => PoX K f Δ σ (.v true fr) o Q) id (fun _ => id) q
  rw [e1]
  intro v H1 R1 x1
  have R1' := R1.addG (fr := fr) (.cons x1 .nil)
  refine hb _ ρ1 σ H1 _ R1' ?_
  obtain ⟨⟨d2, ρ2⟩, e2, q⟩ := bnd_inv' (P := fun o => PoX K f Δ σ (.v true fr) o Q) id (fun _ => id) q
  have e2 : gb ρ1 = _ := e2
  rw [e2]
  intro v2 H2 R2 x2
  have x1' : Rp K (FM f Δ σ true fr) H2 v d := by
    cases R2.gh _ List.mem_cons_self with
    | cons h _ => exact h
  obtain ⟨z, ez, q⟩ := bnd_inv' (P := fun o => PoX K f Δ σ (.v true fr) o Q) id (fun _ => id) q
  exact rix_of x1' (x2.weak fun _ _ => trivial) ez fun w y => q w H2 R2.dropG y
theorem sxt_test (ha : SX K Δ te (.v av fr) gx) : SXT K Δ (tTest te) (xTest gx) := fun f ρ σ H Q R q => by
  refine ha f ρ σ H _ R ?_
  unfold xTest at q
  obtain ⟨⟨d, ρ1⟩, e1, q⟩ := bnd_inv' (P := fun o => PoXT K f Δ σ o Q) id (fun _ => id) q
  rw [e1]
  intro v H1 R1 x1
  obtain ⟨b, eb, q⟩ := bnd_inv' (P := fun o => PoXT K f Δ σ o Q) id (fun _ => id) q
  cases d with
  | bool b' =>
    cases eb
    cases x1
    exact ⟨b, rfl, q H1 R1⟩
  | _ => cases eb
theorem sxt_not (h : SXT K Δ tt gt) : SXT K Δ (tNot tt) (xNot gt) := fun f ρ σ H Q R q => by
  refine h f ρ σ H _ R ?_
  unfold xNot at q
  obtain ⟨⟨b, ρ1⟩, e1, q⟩ := bnd_inv' (P := fun o => PoXT K f Δ σ o Q) id (fun _ => id) q
  rw [e1]
  exact q
theorem sxt_and (h : SXT K Δ tt gt) (h2 : SXT K Δ tu gu) : SXT K Δ (tAnd tt tu) (xAnd gt gu) := fun f ρ σ H Q R q => by
  refine h f ρ σ H _ R ?_
  unfold xAnd at q
  obtain ⟨⟨b, ρ1⟩, e1, q⟩ := bnd_inv' (P := fun o => PoXT K f Δ σ o Q) id (fun _ => id) q
  rw [e1]
  intro H1 R1
  cases b with
  | false => exact q H1 R1
  | true => exact h2 f ρ1 σ H1 Q R1 q
theorem sx_callN {mg : Str → Option Value} {n : Nat} {g : List Dt → O Dt} (h : SXA K Δ tA av fr gA) : SX K Δ (tCall (spG K mg n g) [] E0 tA) (.v true true) (xCallN n g gA) := fun f ρ σ H Q r q => h f ρ σ H _ r <| by
  unfold xCallN at q
  obtain ⟨⟨ds, ρ1⟩, e1, q⟩ := bnd_inv' (P := fun o => PoX K f Δ σ (.v true true) o Q) id (fun _ => id) q
  rw [e1]
  intro vs H1 r1 x1
  simp only at q
  by_cases hn : ds.length = n
  · rw [if_pos hn] at q
    rw [List.append_nil]
    refine ⟨ds, by rw [x1.length]; exact hn, x1.weak fun _ _ => trivial, ?_⟩
    cases e2 : g ds with
    | bad => rw [e2] at q; exact q.elim
    | ex z => rw [e2] at q; exact q.elim
    | ok d =>
      rw [e2] at q
      intro v H2 s2 x2
      refine q v H2 (r1.mono s2) (x2.weak fun a na => ?_)
      obtain ⟨f1, f2, f3⟩ := r1.fresh na
      exact ⟨fun _ => ⟨f1, f2⟩, fun _ => r1.g0 a f3⟩
  · rw [if_neg hn] at q
    exact q.elim
def argOf : Ct → Ct
  | .l => .la
  | .dk => .ka
  | c => c
def spM (K : PySem.W.Frag) (c : Ct) (n : Nat) (g : List Dt → O Dt) : Sp := fun vs H Q _ => ∃ a vs' d ds', vs = .ref a :: vs' ∧ vs.length = n ∧ argK c d = true ∧ ArgAt K H a d ∧ RpA K (fun b => b ≠ a) H vs' ds' ∧ (match g (d :: ds') with
  | .ok (.tuple [r, e]) => ∀ v H', (∀ b o, b ≠ a → H b = some o → H' b = some o) → ArgAt K H' a e → Rp K (fun b => H b = none) H' v r → Q v H'
  | _ => False)
def spML (K : PySem.W.Frag) (c : Ct) (n : Nat) (g : List Dt → O Dt) : Sp := fun vs H Q _ => ∃ a vs' d ds', vs = .ref a :: vs' ∧ vs.length = n ∧ argK c d = true ∧ ArgAt K H a d ∧ RpA K (fun b => b ≠ a) H vs' ds' ∧ (match g (d :: ds') with
  | .ok (.tuple [r, e]) => ∀ p H', p ≠ a → H p = none → (∀ b o, b ≠ a → H b = some o → H' b = some o) → ArgAt K H' a e → OwC K .l (fun b => H b = none ∧ b ≠ p) H' p r → Q (.ref p) H'
  | _ => False)
theorem argAt_of {c c' : Ct} {F : Addr → Prop} {H : Hp} {p : Addr} {d : Dt} (hc : argOf c' = c) (h : OwC K c' F H p d) (ha : argK c d = true) : ArgAt K H p d := by
  subst hc
  cases c' with
  | l => obtain ⟨vs, ds, rfl, h1, h2⟩ := h; exact ⟨ha, vs, h1, sclA_any h2 ha⟩
  | la => obtain ⟨vs, ds, rfl, h1, h2⟩ := h; exact ⟨ha, vs, h1, sclA_any h2 ha⟩
  | dk => obtain ⟨vs, ds, rfl, h1, h2⟩ := h; exact ⟨ha, vs, h1, sclV_any h2 ha⟩
  | ka => obtain ⟨vs, ds, rfl, h1, h2⟩ := h; exact ⟨ha, vs, h1, sclV_any h2 ha⟩
  | dt => cases ha
theorem owC_of {c c' : Ct} {F : Addr → Prop} {H : Hp} {p : Addr} {d : Dt} (hc : argOf c' = c) (h : ArgAt K H p d) (ha : argK c d = true) : ∃ o, H p = some o ∧ Mutb o ∧ ∀ H2 : Hp, H2 p = some o → OwC K c' F H2 p d := by
  subst hc
  cases c' with
  | l => cases d with
    | list es => obtain ⟨s, ws, h1, h2⟩ := h; exact ⟨_, h1, trivial, fun H2 e => ⟨ws, es, rfl, e, sclA_any h2 s⟩⟩
    | _ => cases ha
  | la => cases d with
    | list es => obtain ⟨s, ws, h1, h2⟩ := h; exact ⟨_, h1, trivial, fun H2 e => ⟨ws, es, rfl, e, sclA_any h2 s⟩⟩
    | _ => cases ha
  | dk => cases d with
    | dict es => obtain ⟨s, ws, h1, h2⟩ := h; exact ⟨_, h1, trivial, fun H2 e => ⟨ws, es, rfl, e, sclV_any h2 s⟩⟩
    | _ => cases ha
  | ka => cases d with
    | dict es => obtain ⟨s, ws, h1, h2⟩ := h; exact ⟨_, h1, trivial, fun H2 e => ⟨ws, es, rfl, e, sclV_any h2 s⟩⟩
    | _ => cases ha
  | dt => cases ha
theorem R.argNew {f : Fm} {ρ : List Dt} {σ : L2.St} {H H' : Hp} {c c' : Ct} {p : Addr} {e : Dt} (r : R K f Δ ρ σ H) (hk : Δ[i]? = some (.own c' fr)) (hs : σ[i]? = some (some (V.ref p))) (hc : argOf c' = c) (keep : ∀ b o, b ≠ p → H b = some o → H' b = some o) (h : ArgAt K H' p e) (ha : argK c e = true) :
    R K f Δ (ρ.set i e) σ H' := by
  obtain ⟨o, ho, mo, hw⟩ := owC_of (F := FM f Δ σ true fr) hc h ha
  have r1 := r.updOwn (o' := o) hk hs mo (fr' := fr) (c' := c') (hw _ upd_same) (fun h => h)
  have eΔ : Δ.set i (.own c' fr) = Δ := by
    apply List.ext_getElem?
    intro j
    by_cases z : i = j
    · subst z
      rw [List.getElem?_set_self (List.getElem?_eq_some_iff.mp hk).1, hk]
    · rw [List.getElem?_set_ne z]
  rw [eΔ] at r1
  refine r1.mono fun b u e => ?_
  by_cases z : b = p
  · subst z
    rw [upd_same] at e
    cases e
    exact ho
  · rw [upd_ne z] at e
    exact keep b u z e
def PoB (K : PySem.W.Frag) (σ : L2.St) (i : Nat) (H : Hp) (o : O (List Dt)) (Q : List V → Hp → Prop) : Prop := match o with
  | .ok ds => ∀ vs H', Same H H' → RpA K (fun b => σ[i]? ≠ some (some (V.ref b))) H' vs ds → Q vs H'
  | _ => False
def SB (K : PySem.W.Frag) (Δ : List Kd) (i : Nat) (ta : TA) (g : List Dt → O (List Dt)) : Prop := ∀ f ρ σ H Q, R K f Δ ρ σ H → PoB K σ i H (g ρ) Q → ta σ H Q
def PoXB (K : PySem.W.Frag) (f : Fm) (Δ : List Kd) (σ : L2.St) (i : Nat) (o : O (List Dt × List Dt)) (Q : List V → Hp → Prop) : Prop := match o with
  | .ok (ds, ρ') => ∀ vs H', R K f Δ ρ' σ H' → RpA K (fun b => σ[i]? ≠ some (some (V.ref b))) H' vs ds → Q vs H'
  | _ => False
def SXB (K : PySem.W.Frag) (Δ : List Kd) (i : Nat) (ta : TA) (g : List Dt → O (List Dt × List Dt)) : Prop := ∀ f ρ σ H Q, R K f Δ ρ σ H → PoXB K f Δ σ i (g ρ) Q → ta σ H Q
theorem sb_nil : SB K Δ i tNil gNil := fun f ρ σ H Q R q => q [] H (Same.refl H) .nil
theorem sb_cons {ga : Gd} {gA : List Dt → O (List Dt)} {c' : Ct} (hk : Δ[i]? = some (.own c' fr')) (ha : SE K W0 Δ ta (.v true fr) ga) (hr : SB K Δ i tA gA) : SB K Δ i (tCons ta tA) (gCons ga gA) := fun f ρ σ H Q R q => by
  refine ha f ρ σ H _ R ?_
  unfold gCons at q
  obtain ⟨d, e1, q⟩ := bnd_inv' (P := fun o => PoB K σ i H o Q) id (fun _ => id) q
  rw [e1]
  intro v H1 s1 x1
  refine hr f ρ σ H1 _ (R.mono s1) ?_
  obtain ⟨ds, e2, q⟩ := bnd_inv' (P := fun o => PoB K σ i H o Q) id (fun _ => id) q
  rw [e2]
  intro vs H2 s2 x2
  exact q (v :: vs) H2 (s1.trans s2) (.cons ((x1.same s2).weak fun a fa z => (fa.1 rfl).1 ⟨i, c', fr', hk, z⟩) x2)
theorem sb_own {gA : List Dt → O (List Dt)} {c' : Ct} {j : Nat} (hj : Δ[j]? = some (.own .l fr)) (hk : Δ[i]? = some (.own c' fr')) (hij : i ≠ j) (hr : SB K Δ i tA gA) : SB K Δ i (tCons (tVar j) tA) (gCons (gVar j) gA) := fun f ρ σ H Q R q => by
  obtain ⟨p, d, h1, h2, h3, vs0, ds0, ed, h4, h5⟩ := R.ow j .l fr hj
  refine ⟨_, h1, ?_⟩
  unfold gCons gVar at q
  rw [h2, bnd_ok] at q
  refine hr f ρ σ H _ R ?_
  obtain ⟨ds, e2, q⟩ := bnd_inv' (P := fun o => PoB K σ i H o Q) id (fun _ => id) q
  rw [e2]
  intro vs H2 s2 x2
  subst ed
  refine q _ H2 s2 (.cons (.lst (s2 _ _ h4) (fun z => hij (R.inj i j _ _ _ _ p hk hj z h1)) ((h5.same s2).weak fun a fa z => (fa.1 rfl).1 ⟨i, c', fr', hk, z⟩)) x2)
theorem sxb_of {gA : List Dt → O (List Dt)} (h : SB K Δ i tA gA) : SXB K Δ i tA (xPA gA) := fun f ρ σ H Q r q => h f ρ σ H Q r <| by
  unfold xPA at q
  cases e : gA ρ with
  | bad => rw [e] at q; exact q.elim
  | ex z => rw [e] at q; exact q.elim
  | ok d => rw [e] at q; exact fun v H' s x => q v H' (r.mono s) x
theorem sxb_a {c' : Ct} (hk : Δ[i]? = some (.own c' fr')) (h : SXA K Δ tA true fr gA) : SXB K Δ i tA gA := fun f ρ σ H Q r q => h f ρ σ H Q r <| by
  cases e : gA ρ with
  | bad => rw [e] at q; exact q.elim
  | ex z => rw [e] at q; exact q.elim
  | ok d => rw [e] at q; exact fun v H' r' x => q v H' r' (x.weak fun a fa z => (fa.1 rfl).1 ⟨i, c', fr', hk, z⟩)
theorem sx_callM {c c' : Ct} {n : Nat} {g : List Dt → O Dt} (hk : Δ[i]? = some (.own c' fr')) (hc : argOf c' = c) (h : SXB K Δ i tA gA) : SX K Δ (tCall (spM K c n g) [] E0 (tCons (tVar i) tA)) (.v true true) (xCallM c n g i gA) := fun f ρ σ H Q r q => by
  obtain ⟨p, d0, h1, _, _, _⟩ := r.ow i c' fr' hk
  refine ⟨_, h1, h f ρ σ H _ r ?_⟩
  unfold xCallM at q
  obtain ⟨⟨ds, ρ1⟩, e1, q⟩ := bnd_inv' (P := fun o => PoX K f Δ σ (.v true true) o Q) id (fun _ => id) q
  rw [e1]
  intro vs H1 r1 x1
  obtain ⟨p', d, h1', h2, h3, h4⟩ := r1.ow i c' fr' hk
  rw [h1] at h1'
  cases h1'
  simp only at q
  by_cases hn : ds.length + 1 = n
  · rw [if_pos hn, h2] at q
    simp only at q
    by_cases ha : argK c d = true
    · rw [if_pos ha] at q
      rw [List.append_nil]
      refine ⟨p, vs, d, ds, rfl, by rw [List.length_cons, x1.length]; exact hn, ha, argAt_of hc h4 ha, x1.weak fun b fb z => fb (z ▸ h1), ?_⟩
      cases e2 : g (d :: ds) with
      | bad => rw [e2] at q; exact q.elim
      | ex z => rw [e2] at q; exact q.elim
      | ok z =>
        rw [e2] at q
        split at q
        · rename_i r' e ez
          cases ez
          by_cases hae : argK c e = true
          · rw [if_pos hae] at q
            intro v H' keep arg x2
            refine q v H' (r1.argNew hk h1 hc keep arg hae) (x2.weak fun b nb => ?_)
            obtain ⟨f1, f2, f3⟩ := r1.fresh nb
            exact ⟨fun _ => ⟨f1, f2⟩, fun _ => r1.g0 b f3⟩
          · rw [if_neg hae] at q
            exact q.elim
        · exact q.elim
    · rw [if_neg ha] at q
      exact q.elim
  · rw [if_neg hn] at q
    exact q.elim
theorem sx_callML {c c' : Ct} {n : Nat} {g : List Dt → O Dt} (hk : Δ[i]? = some (.own c' fr')) (hc : argOf c' = c) (h : SXB K Δ i tA gA) : SX K Δ (tCall (spML K c n g) [] E0 (tCons (tVar i) tA)) (.new .l true) (xCallM c n g i gA) := fun f ρ σ H Q r q => by
  obtain ⟨p, d0, h1, _, _, _⟩ := r.ow i c' fr' hk
  refine ⟨_, h1, h f ρ σ H _ r ?_⟩
  unfold xCallM at q
  obtain ⟨⟨ds, ρ1⟩, e1, q⟩ := bnd_inv' (P := fun o => PoX K f Δ σ (.new .l true) o Q) id (fun _ => id) q
  rw [e1]
  intro vs H1 r1 x1
  obtain ⟨p', d, h1', h2, h3, h4⟩ := r1.ow i c' fr' hk
  rw [h1] at h1'
  cases h1'
  simp only at q
  by_cases hn : ds.length + 1 = n
  · rw [if_pos hn, h2] at q
    simp only at q
    by_cases ha : argK c d = true
    · rw [if_pos ha] at q
      rw [List.append_nil]
      refine ⟨p, vs, d, ds, rfl, by rw [List.length_cons, x1.length]; exact hn, ha, argAt_of hc h4 ha, x1.weak fun b fb z => fb (z ▸ h1), ?_⟩
      cases e2 : g (d :: ds) with
      | bad => rw [e2] at q; exact q.elim
      | ex z => rw [e2] at q; exact q.elim
      | ok z =>
        rw [e2] at q
        split at q
        · rename_i r' e ez
          cases ez
          by_cases hae : argK c e = true
          · rw [if_pos hae] at q
            intro l H' nla nl keep arg x2
            obtain ⟨f1, f2, f3⟩ := r1.fresh nl
            -- the state without the new list, then with it
            obtain ⟨o, ho, mo, hw⟩ := owC_of (F := FM f Δ σ true fr') hc arg hae
            have nlp : l ≠ p := nla
            have r2 : R K f Δ (ρ1.set i e) σ (upd H1 p o) := r1.argNew hk h1 hc (fun b u nb eb => by rw [upd_ne nb]; exact eb) (by
              cases e with
              | list es => obtain ⟨s, ws, w1, w2⟩ := arg; rw [ho] at w1; cases w1; exact ⟨s, ws, upd_same, sclA_any w2 s⟩
              | dict es => obtain ⟨s, ws, w1, w2⟩ := arg; rw [ho] at w1; cases w1; exact ⟨s, ws, upd_same, sclV_any w2 s⟩
              | _ => exact arg.elim) hae
            have s2 : Same (upd H1 p o) H' := fun b u eb => by
              by_cases z : b = p
              · subst z
                rw [upd_same] at eb
                cases eb
                exact ho
              · rw [upd_ne z] at eb
                exact keep b u z eb
            refine q l H' (r2.pinNew (by rw [upd_ne nlp]; exact nl) s2 x2.mutb) f2 f3 (x2.map (fun _ e => e) fun _ _ y => y.weak fun b nb => ?_)
            obtain ⟨g1, g2, g3⟩ := r1.fresh nb.1
            exact ⟨fun _ => ⟨g1, fun z => by
              rcases List.mem_cons.mp z with z | z
              · exact nb.2 z
              · exact g2 z⟩, fun _ => r1.g0 b g3⟩
          · rw [if_neg hae] at q
            exact q.elim
        · exact q.elim
    · rw [if_neg ha] at q
      exact q.elim
  · rw [if_neg hn] at q
    exact q.elim
theorem bx_inv {α β : Type} {x : O α} {k : α → O β} {P : O β → Prop} (hb : ¬ P .bad) (h : P (bx x k)) : ∃ a, x = .ok a ∧ P (k a) := by
  cases x with
  | bad => exact (hb h).elim
  | ex e => exact (hb h).elim
  | ok a => exact ⟨a, rfl, h⟩
theorem s_setX (hi : i < Δ.length) (h : SX K Δ te (.v true fr) gx) : SS K W L Δ (Δ.set i (.im fr)) Δb Δc (tAsg te (gName i)) (xSet i gx) := fun f ρ σ H E r q => h f ρ σ H _ r <| by
  obtain ⟨⟨d, ρ1⟩, e1, q⟩ := bx_inv (P := fun o => PoS K W L f _ Δb Δc o E) id q
  rw [e1]
  exact fun v H' r' x => q _ H' (r'.setIm hi x)
theorem s_asgX {gg : TG} {sl : List Nat} {n : Nat} {hh : Dt → List Dt → O (List Dt)} {TK : Bool → List Kd → List Kd} (hn : Δ.length = n) (h : SX K Δ te (.v true fr) gx) (hg : GJ K n gg sl hh TK) : SS K W L Δ (TK fr Δ) Δb Δc (tAsg te gg) (xAsg gx hh) := fun f ρ σ H E r q => h f ρ σ H _ r <| by
  obtain ⟨⟨d, ρ1⟩, e1, q⟩ := bx_inv (P := fun o => PoS K W L f _ Δb Δc o E) id q
  rw [e1]
  intro v H' r' x
  refine hg f Δ ρ1 σ H' v d fr _ hn r' x ?_
  simp only at q
  cases e2 : hh d ρ1 with
  | bad => rw [e2] at q; exact q.elim
  | ex z => rw [e2] at q; exact q.elim
  | ok ρ' =>
    rw [e2] at q
    exact fun σ' t => q σ' H' t.r
theorem s_ifX (h : SXT K Δ tt gt) (h1 : SS K W L Δ Δn Δb Δc t g1) (h2 : SS K W L Δ Δn Δb Δc u g2) : SS K W L Δ Δn Δb Δc (tIfS tt t u) (xIfS gt g1 g2) := fun f ρ σ H E r q => h f ρ σ H _ r <| by
  obtain ⟨⟨b, ρ1⟩, e1, q⟩ := bx_inv (P := fun o => PoS K W L f _ Δb Δc o E) id q
  rw [e1]
  intro H1 r1
  cases b with
  | true => exact h1 f ρ1 σ H1 E r1 q
  | false => exact h2 f ρ1 σ H1 E r1 q
theorem argAt_ow {c : Ct} {F : Addr → Prop} {H : Hp} {p : Addr} {e : Dt} (hc : isArg c = true) (h : OwC K c F H p e) (ha : argD e = true) : ArgAt K H p e := by
  cases c with
  | la => obtain ⟨vs, ds, rfl, h1, h2⟩ := h; exact ⟨ha, vs, h1, sclA_any h2 ha⟩
  | ka => obtain ⟨vs, ds, rfl, h1, h2⟩ := h; exact ⟨ha, vs, h1, sclV_any h2 ha⟩
  | _ => cases hc
theorem s_retM {c : Ct} {fr0 : Bool} (hk : Δ[0]? = some (.own c fr0)) (hc : isArg c = true) (h : SX K Δ te (.v true true) gx) : SS K W .m Δ Δn Δb Δc (tRet te) (xRetM gx) := fun f ρ σ H E r q => h f ρ σ H _ r <| by
  obtain ⟨⟨d, ρ1⟩, e1, q⟩ := bx_inv (P := fun o => PoS K W .m f _ Δb Δc o E) id q
  rw [e1]
  intro v H' r' x
  obtain ⟨p, hA, hs⟩ := r'.ar 0 c fr0 hk hc
  obtain ⟨p', e, hs', h2, h3, h4⟩ := r'.ow 0 c fr0 hk
  rw [hs] at hs'
  cases hs'
  simp only [h2] at q
  by_cases ha : argD e = true
  · rw [if_pos ha] at q
    unfold PoS at q
    simp only [hA] at q
    refine q v H' r'.ext ?_ (x.weak fun a fa => ⟨fa.2 rfl, fun z => (fa.1 rfl).1 (z ▸ ⟨0, c, fr0, hk, hs⟩)⟩)
    exact argAt_ow hc h4 ha
  · rw [if_neg ha] at q
    exact q.elim
def xRetMO (i : Nat) : Gs := fun ρ => match ρ[i]?, ρ[0]? with
  | some d, some e => if argD e then .ok (.rt (.tuple [d, e])) else .bad
  | _, _ => .bad
theorem s_retMO {c : Ct} {fr0 : Bool} (hk : Δ[0]? = some (.own c fr0)) (hc : isArg c = true) (hi : Δ[i]? = some (.own .l true)) : SS K W .ml Δ Δn Δb Δc (tRet (tVar i)) (xRetMO i) := fun f ρ σ H E r q => by
  obtain ⟨p, hA, hs⟩ := r.ar 0 c fr0 hk hc
  obtain ⟨p', e, hs', h2, h3, h4⟩ := r.ow 0 c fr0 hk
  rw [hs] at hs'
  cases hs'
  obtain ⟨l, d, g1, g2, g3, g4⟩ := r.ow i .l true hi
  have n0 : i ≠ 0 := fun z => by
    subst z
    rw [hk] at hi
    cases hi
    cases hc
  have nl : l ≠ p := fun z => n0 (r.inj i 0 _ _ _ _ p hi hk (z ▸ g1) hs)
  unfold xRetMO at q
  simp only [g2, h2] at q
  by_cases ha : argD e = true
  · rw [if_pos ha] at q
    unfold PoS at q
    simp only [hA] at q
    refine ⟨_, g1, q l H nl g3 r.ext ?_ (g4.map (fun _ e => e) fun _ _ y => y.weak fun a fa => ⟨⟨fa.2 rfl, fun z => (fa.1 rfl).1 (z ▸ ⟨0, c, fr0, hk, hs⟩)⟩, fun z => (fa.1 rfl).1 (z ▸ ⟨i, .l, true, hi, g1⟩)⟩)⟩
    exact argAt_ow hc h4 ha
  · rw [if_neg ha] at q
    exact q.elim
end
end Sim
end T_SimM
section T_SimN
set_option Elab.async false
set_option linter.all false
set_option maxRecDepth 100000
namespace Sim
open PySem PySem.Spec L2
open PyProof.Rows hiding St
def xRng1 (g : List Dt → O (List Dt × List Dt)) : List Dt → O (List Dt × List Dt) := fun ρ => bx (g ρ) fun x => match rng1 x.1 with
  | some (lo, hi) => .ok (rangeD lo hi, x.2)
  | none => .bad
section
variable {K : PySem.W.Frag} {f : Fm} {Δ : List Kd} {ρ ρ' : List Dt} {σ σ' : L2.St} {H H' : Hp} {p : Addr} {d : Dt} {i : Nat}
end
section
variable {K : PySem.W.Frag} {W : Wt} {Δ Δn Δb Δc : List Kd} {ta tb te ti : TE} {tt tu : TT} {tA : TA} {g : Gd} {ga gb gx : Gx} {gA : List Dt → O (List Dt × List Dt)} {k : Rk} {av fr av' fr' : Bool} {L : Lk} {i : Nat} {t u : TS} {g1 g2 : Gs}
theorem s_forX {gg : TG} {sl : List Nat} {n : Nat} {hh : Dt → List Dt → O (List Dt)} {TK : Bool → List Kd → List Kd} (hn : Δ.length = n) (h : SXA K Δ tA av fr gA) (hg : GJ K n gg sl hh TK) (hb : SS K W L (TK true Δ) Δ Δ Δ t g1) :
    SS K W L Δ Δ Δb Δc (tFor (iRng1 tA) gg t) (xFor (xRng1 gA) hh g1) := fun f ρ σ H E r q => by
  refine h f ρ σ H _ r ?_
  obtain ⟨⟨ds, ρ1⟩, e1, q⟩ := bx_inv (P := fun o => PoS K W L f _ Δb Δc o E) id q
  obtain ⟨⟨vs, ρ0⟩, e2, e1⟩ := bx_inv (P := fun o => o = .ok (ds, ρ1)) (fun z => nomatch z) e1
  rw [e2]
  intro ws H1 r1 x1
  simp only at e1
  split at e1
  · rename_i lo hi er
    cases e1
    unfold rng1 at er
    split at er
    · split at er
      · rename_i j c
        injection er with er
        rw [Prod.mk.injEq] at er
        obtain ⟨ea, eb⟩ := er
        subst ea eb
        cases x1 with
        | cons x1 xr =>
          cases xr
          rw [rpInt x1]
          refine ⟨j, rfl, c.1, c.2, ?_⟩
          have key := s_for (W := W) (Δb := Δb) (Δc := Δc) (wi := fun σ H Rk => Rk (Itr 0 (j - 0).toNat) H) (gI := fun _ => .ok (rangeD 0 j)) (fr := true) hn
            (fun f' ρ' σ' H' Rk r' q' => q' _ H' none [] [] (Same.refl H') (fun _ => rfl) (fun _ e => nomatch e) .nil sc_range) hg hb f ρ1 σ H1 E r1 q
          have key : tFor (fun σ H Rk => Rk (Itr 0 (j - 0).toNat) H) gg t E σ H1 := key
          rw [Int.sub_zero] at key
          exact key
      · cases er
    · cases er
  · cases e1
theorem se_ownA (hk : Δ[i]? = some (.own .la fr)) : SE K W Δ (tVar i) (.o fr) (gVar i) := fun f ρ σ H Q r q => by
  obtain ⟨p, d, h1, h2, h3, vs, ds, e, h4, h5⟩ := r.ow i .la fr hk
  subst e
  unfold gVar at q
  rw [h2] at q
  exact ⟨_, h1, q p H vs ds rfl (Same.refl H) h4 (r.g0 p h3) h5⟩
theorem s_setIA {ge gi : Gd} (hk : Δ[i]? = some (.own .la fr)) (h : SE K W Δ te (.v true fr') ge) (h2 : SE K W Δ ti (.v av av') gi) : SS K W L Δ (Δ.set i (.own .la (fr && fr'))) Δb Δc (tAsg te (gSub (tVar i) ti rSetL)) (gSetI i ge gi) := fun f ρ σ H E r q => h f ρ σ H _ r <| by
  obtain ⟨p, d, g1, g2, g3, vs, ds, ed, g4, g5⟩ := r.ow i .la fr hk
  subst ed
  unfold gSetI at q
  cases e : ge ρ with
  | bad => rw [e] at q; exact q
  | ex z => rw [e] at q; exact fun H' s => q σ H' (r.ext.trans s)
  | ok d =>
    rw [e, bnd_ok, g2] at q
    simp only at q
    intro v H1 s x
    refine ⟨_, g1, h2 f ρ σ H1 _ (r.mono s) ?_⟩
    cases e2 : gi ρ with
    | bad => rw [e2] at q; exact q
    | ex z => rw [e2] at q; exact fun H' s2 => q σ H' ((r.ext.trans s).trans s2)
    | ok k =>
      rw [e2, bnd_ok] at q
      intro kv H2 s2 xk
      cases k with
      | int k =>
        simp only at q
        cases ej : ixN ds.length k with
        | none => rw [ej] at q; exact q.elim
        | some j =>
          rw [ej] at q
          rw [rpInt xk]
          have s12 := s.trans s2
          have hp := s12 _ _ g4
          refine ⟨p, vs, k, j, rfl, rfl, hp, by rw [g5.length]; exact ej, q σ _ ?_⟩
          refine (r.mono s12).updOwn hk g1 (c' := .la) (show Mutb (.lst _) from trivial) ⟨_, _, rfl, upd_same, ?_⟩
          have nf : ∀ {fr : Bool} (a : Addr), FM f Δ σ true fr a → a ≠ p := fun a fa z => (fa.1 rfl).1 (z ▸ ⟨i, .la, _, hk, g1⟩)
          exact RpA.set ((Rp.updM hp trivial (fun a fa => nf a fa) (x.same s2)).weak fun a y => y.weak id fun h => (Bool.and_eq_true_iff.mp h).2) j
            (((g5.same s12).updM hp trivial fun a fa => nf a fa).weak fun a y => y.weak id fun h => (Bool.and_eq_true_iff.mp h).1)
      | _ => exact q.elim
end
def kdM (c : Ct) (n m : Nat) : List Kd := .own c true :: (List.replicate (n - 1) (.im false) ++ List.replicate (m - n) .no)
theorem r_startM {K : PySem.W.Frag} {H : Hp} {a : Addr} {vs : List V} {d : Dt} {ds : List Dt} {c : Ct} {n m : Nat} {N : List Str} (hv : vs.length + 1 = n) (hN : N.length = m) (hm : n ≤ m) (hc : isArg c = true) (ha : argK c d = true) (hd : ArgAt K H a d) (x : RpA K (fun b => b ≠ a) H vs ds) :
    R K ⟨fun b => if b = a then none else H b, fun b => H b = none ∨ b = a, [], [], some a, [], fun _ h => nomatch h⟩ (kdM c n m) ((d :: ds) ++ List.replicate (m - (d :: ds).length) .none) (L2.start N (.ref a :: vs)) H := by
  have ld : ds.length + 1 = n := by rw [← x.length]; exact hv
  have hn1 : n - 1 = vs.length := by omega
  have own0 : ∀ (i : Nat) (c' : Ct) (fr' : Bool), (kdM c n m)[i]? = some (.own c' fr') → i = 0 ∧ c' = c ∧ fr' = true := fun i c' fr' e => by
    cases i with
    | zero => cases e; exact ⟨rfl, rfl, rfl⟩
    | succ i =>
      unfold kdM at e
      rw [List.getElem?_cons_succ] at e
      rcases List.mem_append.mp (List.mem_of_getElem? e) with h | h
      · cases List.eq_of_mem_replicate h
      · cases List.eq_of_mem_replicate h
  have s0 : (L2.start N (.ref a :: vs))[0]? = some (some (V.ref a)) := rfl
  have ow : ∀ b, Ow (kdM c n m) (L2.start N (.ref a :: vs)) b → b = a := fun b ⟨i, c', fr', h1, h2⟩ => by
    obtain ⟨rfl, _, _⟩ := own0 i c' fr' h1
    rw [s0] at h2
    cases h2
    rfl
  obtain ⟨o, ho, mo, hw⟩ := owC_of (c' := c) (F := FM ⟨fun b => if b = a then none else H b, fun b => H b = none ∨ b = a, [], [], some a, [], fun _ h => nomatch h⟩ (kdM c n m) (L2.start N (.ref a :: vs)) true true) (by cases c <;> first | rfl | cases hc) hd ha
  have noSl0 : ∀ (i : Nat) (t : Bool), (kdM c n m)[i]? ≠ some (.sl t) := fun i t e => by
    cases i with
    | zero => cases e
    | succ i =>
      unfold kdM at e
      rw [List.getElem?_cons_succ] at e
      rcases List.mem_append.mp (List.mem_of_getElem? e) with h | h
      · cases List.eq_of_mem_replicate h
      · cases List.eq_of_mem_replicate h
  refine ⟨fun b u e => ?_, fun b e => ?_, ?_, ?_, ?_, fun b hb => absurd hb (by simp), fun g hg => absurd hg (by simp), fun i fr' h => ?_, fun i c' fr' h => ?_, fun i c' fr' h h' => ?_, fun a ha => (nomatch ha), fun i t h => absurd h (noSl0 i t)⟩
  · have e : (if b = a then none else H b) = some u := e
    by_cases z : b = a
    · rw [if_pos z] at e; cases e
    · rw [if_neg z] at e; exact e
  · have e : (if b = a then none else H b) = none := e
    by_cases z : b = a
    · exact .inr z
    · rw [if_neg z] at e; exact .inl e
  · unfold L2.start kdM
    simp only [List.length_append, List.length_map, List.length_replicate, List.length_cons, hN]
    omega
  · unfold kdM
    simp only [List.length_append, List.length_replicate, List.length_cons]
    omega
  · intro i j ci fi cj fj p h1 h2 _ _
    obtain ⟨rfl, _, _⟩ := own0 i ci fi h1
    obtain ⟨rfl, _, _⟩ := own0 j cj fj h2
    rfl
  · cases i with
    | zero => cases h
    | succ i =>
      unfold kdM at h
      rw [List.getElem?_cons_succ] at h
      by_cases hi : i < n - 1
      · rw [List.getElem?_append_left (by rw [List.length_replicate]; exact hi)] at h
        have efr : fr' = false := by
          have := List.eq_of_mem_replicate (List.mem_of_getElem? h)
          cases this; rfl
        subst efr
        have hi' : i < vs.length := by omega
        obtain ⟨d', h1, h2⟩ := x.get (List.getElem?_eq_getElem hi')
        refine ⟨vs[i], d', ?_, ?_, h2.weak fun b nb => ⟨fun _ => ⟨fun z => nb (ow b z), by simp⟩, fun e => nomatch e⟩⟩
        · unfold L2.start
          rw [List.getElem?_append_left (by rw [List.length_map, List.length_cons]; omega), List.getElem?_map, List.getElem?_cons_succ, List.getElem?_eq_getElem hi']
          rfl
        · rw [List.cons_append, List.getElem?_cons_succ, List.getElem?_append_left (by omega)]
          exact h1
      · rw [List.getElem?_append_right (by rw [List.length_replicate]; omega)] at h
        cases List.eq_of_mem_replicate (List.mem_of_getElem? h)
  · obtain ⟨rfl, rfl, rfl⟩ := own0 i c' fr' h
    exact ⟨a, d, s0, rfl, if_pos rfl, hw _ ho⟩
  · obtain ⟨rfl, rfl, rfl⟩ := own0 i c' fr' h
    exact ⟨a, rfl, s0⟩
section
variable {P : Program} {w : World} {K : PySem.W.Frag} {mg : Str → Option Value} {base : Heap} {x qual : Str} {st : Stmt} {fa : Addr} {fd : FuncData} {N ps : List Str} {k n m : Nat} {Δn : List Kd} {g : Gs} {c : Ct}
theorem fn_okM (F : L2.Fun K x qual st fa fd) (S : FnScope N ps (defScope st)) (hn : ps.length = n) (hm : N.length = m) (hnm : n ≤ m) (hc : isArg c = true)
    (hb : ∀ (cdv : Value) (A : Around) (outer : List Env) (s : Shared) (H : Hp) (E : XK), Room k (A.deeper (envOfC qual (defScope st) s.heap.objs.size fa cdv)) → ∃ ts, BD (cxOf CX0 P w K mg base N qual (defScope st) fa cdv A outer s H E).nox K W0 .m (kdM c n m) Δn (kdM c n m) (kdM c n m) (defBody st) ts g) :
    FnOk P w K mg base CX0 (k + 1) fa fd ps (spM K c n (fnN m g)) := by
  refine F.ok S (fun vs H Q E h => ?_) (fun cdv A outer s H vs Q E hr h => ?_)
  · obtain ⟨a, vs', d, ds', rfl, h1, _⟩ := h
    rw [h1, hn]
  · obtain ⟨a, vs', d, ds', rfl, h1, h2, h3, h4, h5⟩ := h
    obtain ⟨ts, B⟩ := hb cdv A outer s H E hr
    refine ⟨ts, B.ps, B.ss _ _ _ H _ (r_startM (by rw [List.length_cons] at h1; exact h1) hm hnm hc h2 h3 h4) ?_⟩
    unfold fnN at h5
    cases e : g ((d :: ds') ++ List.replicate (m - (d :: ds').length) .none) with
    | bad => rw [e] at h5; exact h5.elim
    | ex z => rw [e] at h5; exact h5.elim
    | ok fl =>
      rw [e] at h5
      cases fl with
      | nx ρ => exact h5.elim
      | rt z =>
        unfold PoS
        simp only
        have h5 : (match (O.ok z : O Dt) with
          | .ok (.tuple [r, e]) => ∀ v H', (∀ b o, b ≠ a → H b = some o → H' b = some o) → ArgAt K H' a e → Rp K (fun b => H b = none) H' v r → Q v H'
          | _ => False) := h5
        split at h5
        · rename_i r e ez
          cases ez
          simp only
          refine fun v H' s arg x => h5 v H' (fun b o nb eb => s b o ?_) arg (x.weak fun b fb => ?_)
          · show (if b = a then none else H b) = some o
            rw [if_neg nb]
            exact eb
          · rcases fb.1 with q | q
            · exact q
            · exact absurd q fb.2
        · exact h5.elim
      | bk ρ => exact h5.elim
      | ct ρ => exact h5.elim
theorem fn_okML (F : L2.Fun K x qual st fa fd) (S : FnScope N ps (defScope st)) (hn : ps.length = n) (hm : N.length = m) (hnm : n ≤ m) (hc : isArg c = true)
    (hb : ∀ (cdv : Value) (A : Around) (outer : List Env) (s : Shared) (H : Hp) (E : XK), Room k (A.deeper (envOfC qual (defScope st) s.heap.objs.size fa cdv)) → ∃ ts, BD (cxOf CX0 P w K mg base N qual (defScope st) fa cdv A outer s H E).nox K W0 .ml (kdM c n m) Δn (kdM c n m) (kdM c n m) (defBody st) ts g) :
    FnOk P w K mg base CX0 (k + 1) fa fd ps (spML K c n (fnL m g)) := by
  refine F.ok S (fun vs H Q E h => ?_) (fun cdv A outer s H vs Q E hr h => ?_)
  · obtain ⟨a, vs', d, ds', rfl, h1, _⟩ := h
    rw [h1, hn]
  · obtain ⟨a, vs', d, ds', rfl, h1, h2, h3, h4, h5⟩ := h
    obtain ⟨ts, B⟩ := hb cdv A outer s H E hr
    refine ⟨ts, B.ps, B.ss _ _ _ H _ (r_startM (by rw [List.length_cons] at h1; exact h1) hm hnm hc h2 h3 h4) ?_⟩
    unfold fnL at h5
    cases e : g ((d :: ds') ++ List.replicate (m - (d :: ds').length) .none) with
    | bad => rw [e] at h5; exact h5.elim
    | ex z => rw [e] at h5; exact h5.elim
    | ok fl =>
      rw [e] at h5
      cases fl with
      | nx ρ => exact h5.elim
      | rt z =>
        unfold PoS
        simp only
        have h5 : (match (O.ok z : O Dt) with
          | .ok (.tuple [r, e]) => ∀ p H', p ≠ a → H p = none → (∀ b o, b ≠ a → H b = some o → H' b = some o) → ArgAt K H' a e → OwC K .l (fun b => H b = none ∧ b ≠ p) H' p r → Q (.ref p) H'
          | _ => False) := h5
        split at h5
        · rename_i r e ez
          cases ez
          simp only
          refine fun p H' npa np s arg x => h5 p H' npa ?_ (fun b o nb eb => s b o ?_) arg (x.map (fun _ e => e) fun _ _ y => y.weak fun b fb => ⟨?_, fb.2⟩)
          · have np : (if p = a then none else H p) = none := np
            rw [if_neg npa] at np
            exact np
          · show (if b = a then none else H b) = some o
            rw [if_neg nb]
            exact eb
          · rcases fb.1.1 with q | q
            · exact q
            · exact absurd q fb.1.2
        · exact h5.elim
      | bk ρ => exact h5.elim
      | ct ρ => exact h5.elim
end
end Sim
end T_SimN
section T_SimO
set_option Elab.async false
set_option linter.all false
set_option maxRecDepth 100000
namespace Sim
open PySem PySem.Spec L2
open PyProof.Rows hiding St
def hAbs : List Dt → O Dt := fun ds => match ds with
  | [.int i] => .ok (.int (if i < 0 then -i else i))
  | _ => .bad
section
variable {K : PySem.W.Frag} {W : Wt} {Δ : List Kd} {ti tx : TE} {gk gx : Gd} {fr fr' fr2 av av2 : Bool} {i : Nat}
theorem csc_abs : CSc K (fun xs H Q => ∃ i, xs = [.int i] ∧ Q (.int (if i < 0 then -i else i)) H) hAbs := fun H xs ds Q hx h => by
  cases hx with
  | nil => exact h.elim
  | cons x r =>
    cases r with
    | nil =>
      cases x with
      | int i => exact ⟨i, rfl, h.2 _ (.int _)⟩
      | _ => exact h.elim
    | cons y r => cases x <;> exact h.elim
theorem scl_abs : SclA hAbs := fun ds => by
  unfold hAbs
  split
  · exact .inl ⟨_, rfl, rfl⟩
  · exact .inr rfl
end
def xPur (g : Gx) : Gx := fun ρ => bx (g ρ) fun x => if pure1 x.1 then .ok x else .bad
theorem SX.pur {K : PySem.W.Frag} {Δ : List Kd} {te : TE} {gx : Gx} {av fr : Bool} (h : SX K Δ te (.v av fr) gx) : SX K Δ te (.v true true) (xPur gx) := fun f ρ σ H Q r q => h f ρ σ H Q r <| by
  obtain ⟨⟨d, ρ1⟩, e1, q⟩ := bx_inv (P := fun o => PoX K f Δ σ (.v true true) o Q) id q
  rw [e1]
  intro v H' r' x
  by_cases p : pure1 d = true
  · simp only [p, if_true] at q
    exact q v H' r' (x.pure p)
  · simp only [p, if_false] at q
    exact q.elim
structure XD (X : Cx) (K : PySem.W.Frag) (Δ : List Kd) (e : Expr) (te : TE) (k : Rk) (g : Gx) : Prop where
  pe : PE X e te
  hK : X.K = K
  sx : SX K Δ te k g
structure XTD (X : Cx) (K : PySem.W.Frag) (Δ : List Kd) (e : Expr) (tt : TT) (g : List Dt → O (Bool × List Dt)) : Prop where
  pt : PT X e tt
  hK : X.K = K
  st : SXT K Δ tt g
structure XWD (X : Cx) (K : PySem.W.Frag) (Δ : List Kd) (e : Expr) (tt : TT) (g : List Dt → O (Bool × List Dt)) : Prop where
  pw : PW X e tt
  hK : X.K = K
  st : SXT K Δ tt g
structure XAD (X : Cx) (K : PySem.W.Frag) (Δ : List Kd) (es : List Expr) (ta : TA) (av fr : Bool) (g : List Dt → O (List Dt × List Dt)) : Prop where
  pa : PA X es ta
  hK : X.K = K
  sa : SXA K Δ ta av fr g
structure BDp (X : Cx) (K : PySem.W.Frag) (Δ : List Kd) (i : Nat) (es : List Expr) (ta : TA) (g : List Dt → O (List Dt)) : Prop where
  pa : PA X es ta
  hK : X.K = K
  sb : SB K Δ i ta g
structure XBD (X : Cx) (K : PySem.W.Frag) (Δ : List Kd) (i : Nat) (es : List Expr) (ta : TA) (g : List Dt → O (List Dt × List Dt)) : Prop where
  pa : PA X es ta
  hK : X.K = K
  sb : SXB K Δ i ta g
section
variable {X : Cx} {K : PySem.W.Frag} {W : Wt} {Δ Δ1 Δn Δb Δc : List Kd} {a b c e f elt tg iter : Expr} {es ifs : List Expr} {ta tb tc te ti tx : TE} {tt tu : TT} {tA : TA} {g gk gx0 ge gi : Gd} {ga gb gx : Gx} {gt0 : List Dt → O Bool} {gt gu : List Dt → O (Bool × List Dt)} {gA : List Dt → O (List Dt × List Dt)} {gA0 gI : List Dt → O (List Dt)} {k : Rk} {av fr av' fr' av2 fr2 : Bool} {L : Lk} {pos pos' : Pos} {t u : TS} {g1 g2 : Gs} {sts sts2 : List Stmt} {i : Nat}
theorem x_abs {x : Str} {p : Pos} (hm : X.mg x = none) (h : AD X K W Δ (e :: es) tA av fr gA0) (hv : bootBuiltins x = some (.builtin "abs") := by decide +kernel) (hg : Gl X x := by rfl) (hn : x ≠ "__name__" := by decide) (hdb : (x == ("__debug__" : Str)) = false := by decide)
    (he : starEach (e :: es) X.env = (false, eval e X.env) :: starEach es X.env := by rfl) (hpl : (backTo pos (starEach es X.env)).any (·.1) = false := by rfl) :
    PD X K W Δ (.Call (.Name x p) (e :: es) [] pos) (tCB (fun xs H Q => ∃ i, xs = [.int i] ∧ Q (.int (if i < 0 then -i else i)) H) tA) (.v true true) (gCB hAbs gA0) := ⟨pe_callB call_abs hg hm hv h.pa hn hdb he hpl, h.hK, se_cb scl_abs csc_abs h.sa⟩
theorem xd_of (h : PD X K W0 Δ e te (.v av fr) g) : XD X K Δ e te (.v av fr) (xP g) := ⟨h.pe, h.hK, SX.of h.se⟩
theorem xd_ofN {ct : Ct} (h : PD X K W0 Δ e te (.new ct fr) g) : XD X K Δ e te (.new ct fr) (xP g) := ⟨h.pe, h.hK, SX.ofN h.se⟩
theorem XD.wk (h : XD X K Δ e te (.v av fr) gx) (h1 : av' = true → av = true := by decide) (h2 : fr' = true → fr = true := by decide) : XD X K Δ e te (.v av' fr') gx := ⟨h.pe, h.hK, h.sx.wk h1 h2⟩
theorem XD.pur (h : XD X K Δ e te (.v av fr) gx) : XD X K Δ e te (.v true true) (xPur gx) := ⟨h.pe, h.hK, h.sx.pur⟩
theorem XD.nv (h : XD X K Δ e te (.new .l fr) gx) : XD X K Δ e te (.v true fr) gx := ⟨h.pe, h.hK, h.sx.nv⟩
theorem xa_nil (hK : X.K = K := by rfl) : XAD X K Δ [] tNil true true xNil := ⟨pa_nil, hK, sxa_nil⟩
theorem xa_cons (ha : XD X K Δ a ta (.v true fr) ga) (hr : XAD X K Δ es tA true fr' gA) (hs : starEach (a :: es) X.env = (false, eval a X.env) :: starEach es X.env := by rfl) : XAD X K Δ (a :: es) (tCons ta tA) true (fr && fr') (xCons ga gA) := ⟨pa_cons ha.pe hr.pa hs, ha.hK, sxa_cons ha.sx hr.sa⟩
theorem XAD.to (av' fr' : Bool) (h : XAD X K Δ es tA av fr gA) (h1 : av' = true → av = true := by decide) (h2 : fr' = true → fr = true := by decide) : XAD X K Δ es tA av' fr' gA := ⟨h.pa, h.hK, h.sa.wk h1 h2⟩
theorem yb_nil (hK : X.K = K := by rfl) : BDp X K Δ i [] tNil gNil := ⟨pa_nil, hK, sb_nil⟩
theorem yb_cons {c' : Ct} {g0 : Gd} (ha : PD X K W0 Δ a ta (.v true fr) g0) (hr : BDp X K Δ i es tA gA0) (hk : Δ[i]? = some (.own c' fr') := by rfl) (hs : starEach (a :: es) X.env = (false, eval a X.env) :: starEach es X.env := by rfl) : BDp X K Δ i (a :: es) (tCons ta tA) (gCons g0 gA0) := ⟨pa_cons ha.pe hr.pa hs, ha.hK, sb_cons hk ha.se hr.sb⟩
theorem yb_own {c' : Ct} (j : Nat) {x : Str} {p : Pos} (hr : BDp X K Δ i es tA gA0) (hj : Δ[j]? = some (.own .l fr) := by rfl) (hk : Δ[i]? = some (.own c' fr') := by rfl) (hij : i ≠ j := by decide) (hN : X.N[j]? = some x := by rfl) (hv : Vis X.env.scope x := by first | exact Or.inl rfl | exact Or.inr (Or.inl rfl) | exact Or.inr (Or.inr rfl)) (hd : (x == ("__debug__" : Str)) = false := by decide)
    (hcd : (x == ("__classdict__" : Str)) = false := by decide) (hs : starEach (.Name x p :: es) X.env = (false, eval (.Name x p) X.env) :: starEach es X.env := by rfl) : BDp X K Δ i (.Name x p :: es) (tCons (tVar j) tA) (gCons (gVar j) gA0) := ⟨pa_cons (pe_var hN hv hd hcd) hr.pa hs, hr.hK, sb_own hj hk hij hr.sb⟩
theorem xb_p (h : BDp X K Δ i es tA gA0) : XBD X K Δ i es tA (xPA gA0) := ⟨h.pa, h.hK, sxb_of h.sb⟩
theorem xb_a {c' : Ct} (h : XAD X K Δ es tA true fr gA) (hk : Δ[i]? = some (.own c' fr') := by rfl) : XBD X K Δ i es tA gA := ⟨h.pa, h.hK, sxb_a hk h.sa⟩
theorem xd_add (ha : XD X K Δ a ta (.v true fr) ga) (hb : XD X K Δ b tb (.v av' fr') gb) : XD X K Δ (.BinOp a .Add b pos) (tOp (rI0 fun i j => .int (i + j)) ta tb) (.v true true) (xOp hAdd ga gb) := ⟨pe_op op_add ha.pe hb.pe, ha.hK, sx_op scl_I0 osc_I0 ha.sx hb.sx⟩
theorem xd_sub (ha : XD X K Δ a ta (.v true fr) ga) (hb : XD X K Δ b tb (.v av' fr') gb) : XD X K Δ (.BinOp a .Sub b pos) (tOp (rI0 fun i j => .int (i - j)) ta tb) (.v true true) (xOp hSub ga gb) := ⟨pe_op op_sub ha.pe hb.pe, ha.hK, sx_op scl_I0 osc_I0 ha.sx hb.sx⟩
theorem xt_cmp {op : CmpOp} {r : R2} {h : Dt → Dt → O Dt} (o : OR X K op r h) (ha : XD X K Δ a ta (.v true fr) ga) (hb : XD X K Δ b tb (.v av' fr') gb) (hm : behindInMarks op b = false := by first | exact nobehind _ (by decide) (by decide) | rfl) : XTD X K Δ (.Compare a [op] [b] pos) (tTest (tOp r ta tb)) (xTest (xOp h ga gb)) := ⟨pt_cmpR o.ho ha.pe hb.pe hm, ha.hK, sxt_test (sx_op o.scl o.osc ha.sx hb.sx)⟩
theorem xd_ix (ha : XD X K Δ a ta (.v true fr) ga) (hb : XD X K Δ b tb (.v av' fr') gb) (hs : PlainIx b := by exact fun _ _ => rfl) : XD X K Δ (.Subscript a b pos) (tOp (rIx K) ta tb) (.v true fr) (xOp hIx ga gb) :=
  ⟨pe_ix (by have q := ix_seq (X := X); rw [ha.hK] at q; exact q) ha.pe hb.pe hs, ha.hK, sx_ix ha.sx hb.sx⟩
theorem xd_tup {x1} (h : XAD X K Δ es tA av fr gA) : XD X K Δ (.Tuple es x1 pos) (tTup tA) (.v av fr) (xTup gA) := ⟨pe_tup h.pa, h.hK, sx_tup h.sa⟩
theorem xt_of (h : TD X K W0 Δ e tt gt0) : XTD X K Δ e tt (xPT gt0) := ⟨h.pt, h.hK, SXT.of h.st⟩
theorem xt_val (h : XD X K Δ e te (.v av fr) gx) (he : ∀ whole, isTrue e X.env whole = (do let v ← whole; standAt e.pos; holding [v] (truthy v)) := by intro _; rfl) : XTD X K Δ e (tB te) (xTest gx) := ⟨pt_val h.pe he, h.hK, sxt_test h.sx⟩
theorem xt_not (h : XTD X K Δ a tt gt) : XTD X K Δ (.UnaryOp .Not a pos) (tNot tt) (xNot gt) := ⟨pt_not h.pt, h.hK, sxt_not h.st⟩
theorem xw_and1 (h : XTD X K Δ a tt gt) : XWD X K Δ (.BoolOp .And [a] pos) tt gt := ⟨pw_and1 h.pt, h.hK, h.st⟩
theorem xw_and (h : XTD X K Δ a tt gt) (h2 : XWD X K Δ (.BoolOp .And (b :: es) pos) tu gu) : XWD X K Δ (.BoolOp .And (a :: b :: es) pos) (tAnd tt tu) (xAnd gt gu) := ⟨pw_and h.pt h2.pw, h.hK, sxt_and h.st h2.st⟩
theorem xt_w (h : XWD X K Δ e tt gt) : XTD X K Δ e tt gt := ⟨h.pw.pt, h.hK, h.st⟩
theorem xd_callM (i : Nat) {ct c' : Ct} {x y : Str} {p py : Pos} {CXT' : CXT} {kk nn : Nat} {fa : Addr} {fd : FuncData} {ps : List Str} {gg : List Dt → O Dt} (F : FnOk X.prog X.w X.K X.mg X.base CXT' kk fa fd ps (spM K ct nn gg)) (hr : Room kk X.A) (hm : X.mg x = some (.ref fa)) (hk : PySem.W.keepIn X.K (.ref fa) = true) (hb : Binds X.K fd ps [])
    (hx : Passes CXT' X E0) (h : XBD X K Δ i es tA gA) (hi : Δ[i]? = some (.own c' fr') := by rfl) (hc : argOf c' = ct := by rfl) (hN : X.N[i]? = some y := by rfl) (hv : Vis X.env.scope y := by first | exact Or.inl rfl | exact Or.inr (Or.inl rfl) | exact Or.inr (Or.inr rfl)) (hd : (y == ("__debug__" : Str)) = false := by decide) (hcd : (y == ("__classdict__" : Str)) = false := by decide)
    (hg : Gl X x := by rfl) (hdb : (x == ("__debug__" : Str)) = false := by decide) (he : starEach (.Name y py :: es) X.env = (false, eval (.Name y py) X.env) :: starEach es X.env := by rfl) (hpl : (backTo pos (starEach es X.env)).any (·.1) = false := by rfl) :
    XD X K Δ (.Call (.Name x p) (.Name y py :: es) [] pos) (tCall (spM K ct nn gg) [] E0 (tCons (tVar i) tA)) (.v true true) (xCallM ct nn gg i gA) := ⟨pe_call F hr hg hm hk hb .nil hx (pa_cons (pe_var hN hv hd hcd) h.pa he) hdb he hpl, h.hK, sx_callM hi hc h.sb⟩
theorem xd_callML (i : Nat) {ct c' : Ct} {x y : Str} {p py : Pos} {CXT' : CXT} {kk nn : Nat} {fa : Addr} {fd : FuncData} {ps : List Str} {gg : List Dt → O Dt} (F : FnOk X.prog X.w X.K X.mg X.base CXT' kk fa fd ps (spML K ct nn gg)) (hr : Room kk X.A) (hm : X.mg x = some (.ref fa)) (hk : PySem.W.keepIn X.K (.ref fa) = true) (hb : Binds X.K fd ps [])
    (hx : Passes CXT' X E0) (h : XBD X K Δ i es tA gA) (hi : Δ[i]? = some (.own c' fr') := by rfl) (hc : argOf c' = ct := by rfl) (hN : X.N[i]? = some y := by rfl) (hv : Vis X.env.scope y := by first | exact Or.inl rfl | exact Or.inr (Or.inl rfl) | exact Or.inr (Or.inr rfl)) (hd : (y == ("__debug__" : Str)) = false := by decide) (hcd : (y == ("__classdict__" : Str)) = false := by decide)
    (hg : Gl X x := by rfl) (hdb : (x == ("__debug__" : Str)) = false := by decide) (he : starEach (.Name y py :: es) X.env = (false, eval (.Name y py) X.env) :: starEach es X.env := by rfl) (hpl : (backTo pos (starEach es X.env)).any (·.1) = false := by rfl) :
    XD X K Δ (.Call (.Name x p) (.Name y py :: es) [] pos) (tCall (spML K ct nn gg) [] E0 (tCons (tVar i) tA)) (.new .l true) (xCallM ct nn gg i gA) := ⟨pe_call F hr hg hm hk hb .nil hx (pa_cons (pe_var hN hv hd hcd) h.pa he) hdb he hpl, h.hK, sx_callML hi hc h.sb⟩
theorem x_ownA (i : Nat) {x : Str} (hk : Δ[i]? = some (.own .la fr) := by rfl) (hN : X.N[i]? = some x := by rfl) (hv : Vis X.env.scope x := by first | exact Or.inl rfl | exact Or.inr (Or.inl rfl) | exact Or.inr (Or.inr rfl)) (hd : (x == ("__debug__" : Str)) = false := by decide)
    (hcd : (x == ("__classdict__" : Str)) = false := by decide) (hK : X.K = K := by rfl) : PD X K W Δ (.Name x pos) (tVar i) (.o fr) (gVar i) := ⟨pe_var hN hv hd hcd, hK, se_ownA hk⟩
theorem z_setIA (i : Nat) {x : Str} {p : Pos} {ix : Expr} {sp : Pos} (h : PD X K W Δ e te (.v true fr') ge) (h2 : PD X K W Δ ix ti (.v av av') gi) (hk : Δ[i]? = some (.own .la fr) := by rfl) (hv : Vis X.env.scope x := by first | exact Or.inl rfl | exact Or.inr (Or.inl rfl) | exact Or.inr (Or.inr rfl)) (hN : X.N[i]? = some x := by rfl) (hd : (x == ("__debug__" : Str)) = false := by decide) (hcd : (x == ("__classdict__" : Str)) = false := by decide)
    (ha : ∀ v, assign (.Subscript (.Name x p) ix sp) X.env v = (do
      let ov ← holding [v] (eval (.Name x p) X.env)
      let iv ← holding [v, ov] (eval ix X.env)
      standAt sp
      holding [v, ov, iv] (setItem ov iv v)
      release [v, ov, iv] []) := by intro _; rfl) (hs : swapsWithSole [.Subscript (.Name x p) ix sp] e pos.line X.env = pure false := by rfl) (hw : swappedStores [.Subscript (.Name x p) ix sp] e X.env = pure none := by rfl)
    (h1 : (assignEach [.Subscript (.Name x p) ix sp] X.env).map (·.2) = [assign (.Subscript (.Name x p) ix sp) X.env] := by rfl) :
    SD X K W L Δ (Δ.set i (.own .la (fr && fr'))) Δb Δc (.Assign [.Subscript (.Name x p) ix sp] e pos) (tAsg te (gSub (tVar i) ti rSetL)) (gSetI i ge gi) := ⟨ps_asg h.pe (pg_sub (pe_var hN hv hd hcd) h2.pe set_list ha) hs hw h1, h.hK, s_setIA hk h.se h2.se⟩
theorem zx_set (i : Nat) {x : Str} (hN : X.N.Nodup) (h : XD X K Δ e te (.v true fr) gx) (hn : i < Δ.length := by decide) (hi : X.N[i]? = some x := by rfl) (hx : Loc X.env.scope x := by first | exact .inl rfl | exact .inr rfl) (hs : swapsWith e (some (.Name x pos')) pos.line X.env = pure false := by rfl) (hf : X.fn x = true ∨ X.env.scope.names.lookup x = some .local := by first | exact .inl rfl | exact .inr rfl) :
    SD X K W L Δ (Δ.set i (.im fr)) Δb Δc (.Assign [.Name x pos'] e pos) (tAsg te (gName i)) (xSet i gx) := ⟨ps_set hN hi hx h.pe hs hf, h.hK, s_setX hn h.sx⟩
theorem zx_asg {n : Nat} {gg : TG} {sl : List Nat} {hh : Dt → List Dt → O (List Dt)} {TK : Bool → List Kd → List Kd} (h : XD X K Δ e te (.v true fr) gx) (hg : GD X K n tg gg sl hh TK) (hn : Δ.length = n := by rfl) (hs : swapsWithSole [tg] e pos.line X.env = pure false := by rfl) (hw : swappedStores [tg] e X.env = pure none := by rfl)
    (h1 : (assignEach [tg] X.env).map (·.2) = [assign tg X.env] := by rfl) : SD X K W L Δ (TK fr Δ) Δb Δc (.Assign [tg] e pos) (tAsg te gg) (xAsg gx hh) := ⟨ps_asg h.pe hg.pg hs hw h1, h.hK, s_asgX hn h.sx hg.gj⟩
theorem zx_if (h : XTD X K Δ c tt gt) (h1 : BD X K W L Δ Δn Δb Δc sts t g1) (h2 : BD X K W L Δ Δn Δb Δc sts2 u g2) : SD X K W L Δ Δn Δb Δc (.If c sts sts2 pos) (tIfS tt t u) (xIfS gt g1 g2) := ⟨ps_if h.pt h1.ps h2.ps, h.hK, s_ifX h.st h1.ss h2.ss⟩
theorem zx_retM {ct : Ct} {fr0 : Bool} (h : XD X K Δ e te (.v true true) gx) (hk : Δ[0]? = some (.own ct fr0) := by rfl) (hc : isArg ct = true := by rfl) : SD X K W .m Δ Δn Δb Δc (.Return (some e) pos) (tRet te) (xRetM gx) := ⟨ps_ret h.pe, h.hK, s_retM hk hc h.sx⟩
theorem zx_retMO (i : Nat) {ct : Ct} {fr0 : Bool} {x : Str} {p : Pos} (hi : Δ[i]? = some (.own .l true) := by rfl) (hk : Δ[0]? = some (.own ct fr0) := by rfl) (hc : isArg ct = true := by rfl) (hN : X.N[i]? = some x := by rfl) (hv : Vis X.env.scope x := by first | exact Or.inl rfl | exact Or.inr (Or.inl rfl) | exact Or.inr (Or.inr rfl)) (hd : (x == ("__debug__" : Str)) = false := by decide)
    (hcd : (x == ("__classdict__" : Str)) = false := by decide) (hK : X.K = K := by rfl) : SD X K W .ml Δ Δn Δb Δc (.Return (some (.Name x p)) pos) (tRet (tVar i)) (xRetMO i) := ⟨ps_ret (pe_var hN hv hd hcd), hK, s_retMO hk hc hi⟩
theorem zx_for1 {n : Nat} {gg : TG} {sl : List Nat} {hh : Dt → List Dt → O (List Dt)} {TK : Bool → List Kd → List Kd} {p : Pos} (hp : PassesOwn (model X.prog X.w) X.A X.env X.xe) (hm : X.mg "range" = none) (h : XAD X K Δ [a] tA av fr gA) (hg : GD X K n tg gg sl hh TK) (hb : BD X K W L (TK true Δ) Δ Δ Δ sts t g1) (hn : Δ.length = n := by rfl) (hc : X.calm = true := by rfl)
    (hgl : Gl X "range" := by rfl) (hst : starEach [a] X.env = [(false, eval a X.env)] := by rfl) (hs : ∀ x, foldedSetIterable (.Call (.Name "range" p) [a] [] pos') X.env x = pure x := by intro _; rfl) : SD X K W L Δ Δ Δb Δc (.For tg (.Call (.Name "range" p) [a] [] pos') sts [] pos) (tFor (iRng1 tA) gg t) (xFor (xRng1 gA) hh g1) :=
  ⟨ps_for hp hc (pi_range1 hgl hm h.pa hst) hg.pg hb.ps hs, h.hK, s_forX hn h.sa hg.gj hb.ss⟩
end
theorem bx_ok {α β : Type} (a : α) (f : α → O β) : bx (.ok a) f = f a := rfl
theorem xP_def (g : Gd) (ρ : List Dt) : xP g ρ = bnd (g ρ) fun d => .ok (d, ρ) := rfl
theorem xPT_def (g : List Dt → O Bool) (ρ : List Dt) : xPT g ρ = bnd (g ρ) fun d => .ok (d, ρ) := rfl
theorem xOp_def (h : Dt → Dt → O Dt) (a b : Gx) (ρ : List Dt) : xOp h a b ρ = bnd (a ρ) fun x => bnd (b x.2) fun y => bnd (h x.1 y.1) fun z => .ok (z, y.2) := rfl
theorem xCons_def (a : Gx) (b : List Dt → O (List Dt × List Dt)) (ρ : List Dt) : xCons a b ρ = bnd (a ρ) fun x => bnd (b x.2) fun y => .ok (x.1 :: y.1, y.2) := rfl
theorem xTest_def (a : Gx) (ρ : List Dt) : xTest a ρ = bnd (a ρ) fun x => bnd (asB x.1) fun b => .ok (b, x.2) := rfl
theorem xNot_def (t : List Dt → O (Bool × List Dt)) (ρ : List Dt) : xNot t ρ = bnd (t ρ) fun x => .ok (!x.1, x.2) := rfl
theorem xAnd_def (t u : List Dt → O (Bool × List Dt)) (ρ : List Dt) : xAnd t u ρ = bnd (t ρ) fun x => if x.1 then u x.2 else .ok (false, x.2) := rfl
theorem xIf_t {t : List Dt → O (Bool × List Dt)} {a b : Gs} {ρ ρ' : List Dt} (h : t ρ = .ok (true, ρ')) : xIfS t a b ρ = a ρ' := by unfold xIfS; rw [h]; rfl
theorem xIf_f {t : List Dt → O (Bool × List Dt)} {a b : Gs} {ρ ρ' : List Dt} (h : t ρ = .ok (false, ρ')) : xIfS t a b ρ = b ρ' := by unfold xIfS; rw [h]; rfl
theorem xset_ok {i : Nat} {g : Gx} {ρ ρ' : List Dt} {d : Dt} (h : g ρ = .ok (d, ρ')) : xSet i g ρ = .ok (.nx (ρ'.set i d)) := by unfold xSet; rw [h]; rfl
theorem xasg_ok {g : Gx} {h : Dt → List Dt → O (List Dt)} {ρ ρ1 ρ2 : List Dt} {d : Dt} (h1 : g ρ = .ok (d, ρ1)) (h2 : h d ρ1 = .ok ρ2) : xAsg g h ρ = .ok (.nx ρ2) := by
  unfold xAsg
  rw [h1, bx_ok, h2]
theorem xret_ok {g : Gx} {ρ ρ' : List Dt} {d e : Dt} (h : g ρ = .ok (d, ρ')) (h2 : ρ'[0]? = some e) (h3 : argD e = true) : xRetM g ρ = .ok (.rt (.tuple [d, e])) := by
  unfold xRetM
  rw [h, bx_ok]
  simp only [h2, h3, if_true]
theorem xretO_ok {i : Nat} {ρ : List Dt} {d e : Dt} (h : ρ[i]? = some d) (h2 : ρ[0]? = some e) (h3 : argD e = true) : xRetMO i ρ = .ok (.rt (.tuple [d, e])) := by
  unfold xRetMO
  simp only [h, h2, h3, if_true]
theorem xcallM_ok {c : Ct} {n : Nat} {g : List Dt → O Dt} {i : Nat} {gA : List Dt → O (List Dt × List Dt)} {ρ ρ' ds : List Dt} {a r e : Dt} (h1 : gA ρ = .ok (ds, ρ')) (h2 : ds.length + 1 = n) (h3 : ρ'[i]? = some a) (h4 : argK c a = true) (h5 : g (a :: ds) = .ok (.tuple [r, e])) (h6 : argK c e = true) :
    xCallM c n g i gA ρ = .ok (r, ρ'.set i e) := by
  unfold xCallM
  rw [h1, bnd_ok]
  simp only [h2, h3, h4, h5, h6, if_true]
theorem xcallN_ok {n : Nat} {g : List Dt → O Dt} {gA : List Dt → O (List Dt × List Dt)} {ρ ρ' ds : List Dt} {d : Dt} (h1 : gA ρ = .ok (ds, ρ')) (h2 : ds.length = n) (h3 : g ds = .ok d) : xCallN n g gA ρ = .ok (d, ρ') := by
  unfold xCallN
  rw [h1, bnd_ok]
  simp only [h2, h3, if_true]
theorem xfor_ok {gi : List Dt → O (List Dt × List Dt)} {h : Dt → List Dt → O (List Dt)} {b : Gs} {ρ ρ' ds : List Dt} {z : O Fl} (h1 : gi ρ = .ok (ds, ρ')) (h2 : forE h b ds ρ' = z) : xFor gi h b ρ = z := by unfold xFor; rw [h1, bx_ok, h2]
theorem xrng1_ok {g : List Dt → O (List Dt × List Dt)} {ρ ρ' : List Dt} {j : Int} (h : g ρ = .ok ([.int j], ρ')) (h1 : -4611686018427387904 ≤ j) (h2 : j < 4611686018427387904) : xRng1 g ρ = .ok (rangeD 0 j, ρ') := by
  unfold xRng1
  rw [h, bx_ok]
  unfold rng1
  simp only
  rw [if_pos (by constructor <;> omega)]
end Sim
end T_SimO
section T_SimQ
set_option Elab.async false
set_option linter.all false
set_option maxRecDepth 100000
namespace Sim
open PySem PySem.Spec L2
open PyProof.Rows hiding St
section
variable {K : PySem.W.Frag} {W : Wt} {Δ : List Kd}
end
section
variable {K : PySem.W.Frag} {W : Wt} {Δ : List Kd} {ta : TE} {tA : TA} {ga : Gd} {gA : List Dt → O (List Dt)} {fr fr' : Bool} {n : Nat} {g : List Dt → O Dt}
end
section
variable {X : Cx} {K : PySem.W.Frag} {W : Wt} {Δ : List Kd} {e : Expr} {es : List Expr} {ta : TE} {tA : TA} {ga : Gd} {gA : List Dt → O (List Dt)} {fr fr' : Bool} {pos : Pos}
end
end Sim
end T_SimQ
section T_SimR
set_option Elab.async false
set_option linter.all false
set_option maxRecDepth 100000
namespace Sim
open PySem PySem.Spec L2
open PyProof.Rows hiding St
section
variable {K : PySem.W.Frag} {W : Wt} {L : Lk} {Δ Δb Δc : List Kd} {te : TE} {g : Gd} {fr av fr' : Bool} {i : Nat}
end
section
variable {X : Cx} {K : PySem.W.Frag} {W : Wt} {Δ Δb Δc : List Kd} {e : Expr} {te : TE} {g : Gd} {av fr fr' : Bool} {L : Lk} {pos : Pos}
end
section
variable {K : PySem.W.Frag} {W : Wt} {Δ : List Kd} {ta tb tc td : TE} {ga gb gc gd : Gd} {av fr av' fr' av2 fr2 av3 fr3 : Bool}
end
section
variable {X : Cx} {K : PySem.W.Frag} {W : Wt} {Δ : List Kd} {a b c d : Expr} {ta tb tc td : TE} {ga gb gc gd : Gd} {av fr av' fr' av2 fr2 av3 fr3 : Bool} {pos : Pos} {op op' op'' : CmpOp} {r r' r'' : R2} {h h' h'' : Dt → Dt → O Dt}
end
section
variable {K : PySem.W.Frag} {W : Wt} {L : Lk} {Δ Δb Δc : List Kd} {te ti : TE} {ge gi : Gd} {fr av fr' av2 fr2 : Bool} {i : Nat}
end
section
variable {X : Cx} {K : PySem.W.Frag} {W : Wt} {Δ Δb Δc : List Kd} {e ix : Expr} {te ti : TE} {ge gi : Gd} {av fr av2 fr2 fr' : Bool} {L : Lk} {pos : Pos}
end
section
variable {K : PySem.W.Frag} {W : Wt} {L : Lk} {Δ Δb Δc : List Kd} {te : TE} {gx : Gx} {gg : TG} {sl : List Nat} {n : Nat} {hh : Dt → List Dt → O (List Dt)} {TK : Bool → List Kd → List Kd} {t : TS} {gb : Gs} {fr av : Bool}
end
section
variable {X : Cx} {K : PySem.W.Frag} {W : Wt} {Δ Δb Δc : List Kd} {e tg : Expr} {te : TE} {gx : Gx} {g1 : Gs} {t : TS} {sts : List Stmt} {fr : Bool} {L : Lk} {pos : Pos}
end
section
variable {P : Program} {w : World} {K : PySem.W.Frag} {mg : Str → Option Value} {base : Heap} {x qual : Str} {st : Stmt} {fa : Addr} {fd : FuncData} {N ps : List Str} {k n m : Nat} {Δn : List Kd} {g : Gs} {dvs : List V} {kws : List (Str × V)}
end
end Sim
end T_SimR
section T_SimY
set_option Elab.async false
set_option linter.all false
set_option maxRecDepth 100000
namespace Sim
open PySem PySem.Spec L2
open PyProof.Rows hiding St
section
variable {K : PySem.W.Frag} {W : Wt} {L : Lk} {Δ Δb Δc : List Kd} {to te : TE} {ga gb g : Gd} {fr av fr' av' : Bool} {i : Nat}
end
section
variable {K : PySem.W.Frag} {W : Wt} {Δ : List Kd} {ta tk : TA} {gA gK : List Dt → O (List Dt)} {av fr av' fr' : Bool} {mg : Str → Option Value} {m n : Nat} {g : List Dt → O Dt}
end
section
variable {X : Cx} {K : PySem.W.Frag} {W : Wt} {Δ Δb Δc : List Kd} {o e : Expr} {es : List Expr} {to te : TE} {tA tK : TA} {ga gb g : Gd} {gA gK : List Dt → O (List Dt)} {av fr av' fr' : Bool} {L : Lk} {pos : Pos}
end
section
variable {X : Cx} {K : PySem.W.Frag} {W : Wt} {Δ : List Kd} {e e2 : Expr} {es : List Expr} {te2 : TE} {tA : TA} {gk : Gd} {gA : List Dt → O (List Dt)} {av fr av' fr' : Bool} {pos : Pos}
end
end Sim
end T_SimY
section T_SimZ
set_option Elab.async false
set_option linter.all false
set_option maxRecDepth 100000
namespace Sim
open PySem PySem.Spec L2
open PyProof.Rows hiding St
def hDIx : Dt → Dt → O Dt := fun d e => match d with
  | .dict es => (match keyOf e with
    | some k => (match dGet es k with
      | some z => .ok z
      | none => .bad)
    | none => .bad)
  | _ => .bad
def hDInV (neg : Bool) : Dt → Dt → O Dt := fun e d => match d with
  | .dict es => if exnL es then .bad else (match keyOf e with
    | some k => .ok (.bool (if neg then !(dGet es k).isSome else (dGet es k).isSome))
    | none => .bad)
  | _ => .bad
def isD : Ct → Bool
  | .dk => true
  | .ka => true
  | _ => false
section
variable {K : PySem.W.Frag} {F : Addr → Prop} {H : Hp} {p : Addr} {d : Dt} {c : Ct} {v : V}
theorem kvA_of : ∀ {kvs : List (Key × V)} {es : List (Dt × Dt)}, kvs.map (fun kv => keyD kv.1) = es.map (fun e => e.1) → RpA K F H (kvs.map fun kv => kv.2) (es.map fun e => e.2) → KvA K F H kvs es
  | [], [], _, _ => .nil
  | [], _ :: _, h, _ => by simp at h
  | _ :: _, [], h, _ => by simp at h
  | (k, v) :: kvs, (e1, e2) :: es, h, r => by
    rw [List.map_cons, List.map_cons] at h
    injection h with h1 h2
    have h1 : keyD k = e1 := h1
    subst h1
    cases r with
    | cons x r => exact .cons x (kvA_of h2 r)
theorem KvA.keys : ∀ {kvs : List (Key × V)} {es : List (Dt × Dt)}, KvA K F H kvs es → kvs.map (fun kv => keyD kv.1) = es.map (fun e => e.1)
  | _, _, .nil => rfl
  | _, _, .cons h r => by rw [List.map_cons, List.map_cons, r.keys]
theorem KvA.vals : ∀ {kvs : List (Key × V)} {es : List (Dt × Dt)}, KvA K F H kvs es → RpA K F H (kvs.map fun kv => kv.2) (es.map fun e => e.2)
  | _, _, .nil => .nil
  | _, _, .cons h r => .cons h r.vals
theorem Rp.dict {es : List (Dt × Dt)} (h : Rp K F H v (.dict es)) (n : exnL es = false) : ∃ p kvs, v = .ref p ∧ H p = some (.dK kvs) ∧ KvA K F H kvs es := by
  cases h with
  | dic h fa hk r => exact ⟨_, _, rfl, h, kvA_of hk r⟩
  | exn => cases n
  | fz => cases n
theorem dGet_exn {es : List (Dt × Dt)} {k : Key} {v : V} (h : Rp K F H v (.dict es)) (n : exnL es = true) : dGet es k = none := by
  cases h with
  | dic h fa hk r =>
    rename_i kvs
    cases kvs with
    | nil => cases es with
      | nil => rfl
      | cons e es => simp at hk
    | cons kv kvs => cases es with
      | nil => cases n
      | cons e es =>
        obtain ⟨e1, e2⟩ := e
        rw [List.map_cons, List.map_cons] at hk
        injection hk with h1 h2
        have h1 : keyD kv.1 = e1 := h1
        subst h1
        obtain ⟨k, w⟩ := kv
        cases k <;> cases n
  | exn => cases k <;> rfl
  | fz => cases k <;> rfl
theorem dk_any (hc : isD c = true) (h : OwC K c F H p d) : ∃ kvs es, d = .dict es ∧ H p = some (.dK kvs) ∧ KvA K F H kvs es := by
  cases c with
  | dk => exact h
  | ka => exact h
  | _ => cases hc
end
section
variable {K : PySem.W.Frag} {W : Wt} {Δ Δb Δc : List Kd} {te ti ta : TE} {g ge gk ga : Gd} {fr fr' av av' : Bool} {L : Lk} {i : Nat} {c : Ct}
theorem se_ownD (hk : Δ[i]? = some (.own c fr)) (hc : isD c = true) : SE K W Δ (tVar i) (.v false fr) (gVar i) := fun f ρ σ H Q r q => by
  obtain ⟨p, d, h1, h2, h3, h4⟩ := r.ow i c fr hk
  obtain ⟨kvs, es, rfl, h5, h6⟩ := dk_any hc h4
  unfold gVar at q
  rw [h2] at q
  exact ⟨_, h1, q _ H (Same.refl H) (.dic h5 ⟨fun z => (nomatch z), fun _ => r.g0 p h3⟩ h6.keys (h6.vals.weak fun a fa => ⟨fun z => (nomatch z), fa.2⟩))⟩
theorem se_dgetV (ha : SE K W Δ ta (.v av fr) ga) (h : SE K W Δ ti (.v av' fr') gk) : SE K W Δ (tDGet ta ti) (.v av fr) (gOp hDIx ga gk) := fun f ρ σ H Q r q => by
  refine ha f ρ σ H _ r ?_
  unfold gOp at q
  cases e1 : ga ρ with
  | bad => rw [e1] at q; exact q
  | ex z => rw [e1] at q; exact q
  | ok d =>
    rw [e1, bnd_ok] at q
    intro v H1 s1 x1
    refine h f ρ σ H1 _ (r.mono s1) ?_
    cases e2 : gk ρ with
    | bad => rw [e2] at q; exact q
    | ex z => rw [e2] at q; exact fun H' s => q H' (s1.trans s)
    | ok kd =>
      rw [e2, bnd_ok] at q
      intro kv H2 s2 xk
      unfold hDIx at q
      cases d with
      | dict es =>
        simp only at q
        cases ek : keyOf kd with
        | none => rw [ek] at q; exact q.elim
        | some k =>
          rw [ek] at q
          simp only at q
          rw [kV_keyOf xk ek]
          cases hn : exnL es with
          | true => rw [dGet_exn x1 hn] at q; exact q.elim
          | false =>
          obtain ⟨p, kvs, rfl, hp, g5⟩ := (x1.same s2).dict hn
          rcases g5.get k with ⟨_, e⟩ | ⟨v, d, e1, e, x⟩
          · rw [e] at q; exact q.elim
          · rw [e] at q
            refine ⟨p, v, rfl, ?_, q v H2 (s1.trans s2) x⟩
            rw [← e1]
            exact DGet.k hp
      | _ => exact q.elim
theorem se_dinV (neg : Bool) (h : SE K W Δ ti (.v av' fr') gk) (ha : SE K W Δ ta (.v av fr) ga) : SE K W Δ (if neg then tDNotIn ti ta else tDIn ti ta) (.v true true) (gOp (hDInV neg) gk ga) := fun f ρ σ H Q r q => by
  have key : ti σ H (fun y H1 => ta σ H1 fun x H2 => ∃ a o, x = .ref a ∧ DGet H2 a y o ∧ Q (.bl (if neg then !o.isSome else o.isSome)) H2) := by
    refine h f ρ σ H _ r ?_
    unfold gOp at q
    cases e2 : gk ρ with
    | bad => rw [e2] at q; exact q
    | ex z => rw [e2] at q; exact q
    | ok kd =>
      rw [e2, bnd_ok] at q
      intro kv H1 s1 xk
      refine ha f ρ σ H1 _ (r.mono s1) ?_
      cases e1 : ga ρ with
      | bad => rw [e1] at q; exact q
      | ex z => rw [e1] at q; exact fun H' s => q H' (s1.trans s)
      | ok d =>
        rw [e1, bnd_ok] at q
        intro v H2 s2 x1
        unfold hDInV at q
        cases d with
        | dict es =>
          cases hn : exnL es with
          | true => simp only [hn, if_true] at q; exact q.elim
          | false =>
          simp only [hn, Bool.false_eq_true, if_false] at q
          cases ek : keyOf kd with
          | none => rw [ek] at q; exact q.elim
          | some k =>
            rw [ek] at q
            simp only at q
            rw [kV_keyOf xk ek]
            obtain ⟨p, kvs, rfl, hp, g5⟩ := x1.dict hn
            refine ⟨p, valV kvs k, rfl, DGet.k hp, ?_⟩
            have eq : (valV kvs k).isSome = (dGet es k).isSome := by
              rcases g5.get k with ⟨e1, e⟩ | ⟨v, d, e1, e, x⟩ <;> rw [e1, e] <;> rfl
            rw [eq]
            exact q _ H2 (s1.trans s2) (.bl _)
        | _ => exact q.elim
  cases neg with
  | true => exact key
  | false => exact key
end
section
variable {P : Program} {w : World} {K : PySem.W.Frag} {mg : Str → Option Value} {base : Heap} {x qual : Str} {st : Stmt} {fa : Addr} {fd : FuncData} {N ps : List Str} {k n m : Nat} {Δn : List Kd} {g : Gs} {c : Ct} {fr0 : Bool}
end
section
variable {X : Cx} {K : PySem.W.Frag} {W : Wt} {Δ Δb Δc : List Kd} {a b e o : Expr} {es : List Expr} {te ti ta : TE} {tA : TA} {g ge gk ga : Gd} {gA : List Dt → O (List Dt)} {fr fr' av av' : Bool} {L : Lk} {pos p pos' : Pos} {x : Str} {m : Nat} {c : Ct}
theorem x_ownD (i : Nat) (hk : Δ[i]? = some (.own c fr) := by rfl) (hc : isD c = true := by rfl) (hN : X.N[i]? = some x := by rfl) (hv : Vis X.env.scope x := by first | exact Or.inl rfl | exact Or.inr (Or.inl rfl) | exact Or.inr (Or.inr rfl)) (hd : (x == ("__debug__" : Str)) = false := by decide)
    (hcd : (x == ("__classdict__" : Str)) = false := by decide) (hK : X.K = K := by rfl) : PD X K W Δ (.Name x pos) (tVar i) (.v false fr) (gVar i) := ⟨pe_var hN hv hd hcd, hK, se_ownD hk hc⟩
theorem x_dgetV (hr : Room m X.A) (ho : PD X K W Δ o ta (.v av fr) ga) (h : PD X K W Δ e ti (.v av' fr') gk) (hs : NoSl e := by exact fun _ _ => rfl) :
    PD X K W Δ (.Subscript o e pos) (tDGet ta ti) (.v av fr) (gOp hDIx ga gk) := ⟨pe_dget (by have := hr.un; omega) ho.pe h.pe hs, h.hK, se_dgetV ho.se h.se⟩
theorem c_dninV (hr : Room m X.A) (h : PD X K W Δ e ti (.v av' fr') gk) (ho : PD X K W Δ o ta (.v av fr) ga) (hm : behindInMarks .NotIn o = false := by rfl) :
    TD X K W Δ (.Compare e [.NotIn] [o] pos) (tB (tDNotIn ti ta)) (gTest (gOp (hDInV true) gk ga)) := ⟨pt_cmp (pc_dnotin (by have := hr.un; omega) h.pe ho.pe) hm, h.hK, st_B (se_dinV true h.se ho.se)⟩
end
section
variable {K : PySem.W.Frag} {W : Wt} {Δ : List Kd} {ta : TA} {gA : List Dt → O (List Dt)} {av fr : Bool} {mg : Str → Option Value} {n : Nat} {g : List Dt → O Dt}
end
section
variable {X : Cx} {K : PySem.W.Frag} {W : Wt} {Δ : List Kd} {e : Expr} {es : List Expr} {tA : TA} {gA : List Dt → O (List Dt)} {fr av : Bool} {pos : Pos}
end
theorem dix_ok {es : List (Dt × Dt)} {e : Dt} {k : Key} {z : Dt} (h1 : keyOf e = some k) (h2 : dGet es k = some z) : hDIx (.dict es) e = .ok z := by
  unfold hDIx
  simp only [h1, h2]
end Sim
end T_SimZ
section T_FamL
set_option linter.all false
namespace FamL
open PySem Sim
def g_is_whole : Gs := gRet (gAndV (gUn (hIsa .int) (gVar 0)) (gNotV (gUn (hIsa .bool) (gVar 0))))
def f_is_whole : List Dt → O Dt := fnN 1 g_is_whole
def g_joined : Gs := gSeqS (gSet 3 (gCB hMin2 (gCons (gOp hIx (gVar 0) (gVar 1)) (gCons (gOp hIx (gVar 0) (gVar 2)) (gNil))))) (gSeqS (gSet 4 (gCB hMax2 (gCons (gOp hIx (gVar 0) (gVar 1)) (gCons (gOp hIx (gVar 0) (gVar 2)) (gNil))))) (gRet (gPurN (gLc (gSeq (gVar 0)) (tgN 5) (gYes) (gIf (gTest (gOp hEq (gVar 5) (gVar 4))) (gVar 3) (gVar 5))))))
def f_joined : List Dt → O Dt := fnL 6 g_joined
def g_is_depth : Gs := gRet (gAndV (gCallN 1 f_is_whole (gCons (gVar 0) (gNil))) (gChain hLe hLe (gC (.int (1))) (gVar 0) (gC (.int (6)))))
def f_is_depth : List Dt → O Dt := fnN 1 g_is_depth
def g_look_at_layers : Gs := gIfS (gNot (gTest (gCallN 1 f_is_depth (gCons (gVar 0) (gNil))))) (gBad) (gNext)
def f_look_at_layers : List Dt → O Dt := fnN 1 g_look_at_layers
def g_layer_for_L1 : Gs := gIfS (gTest (gOp hNe (gOp hIx (gVar 4) (gVar 1)) (gOp hIx (gVar 4) (gVar 2)))) (gRet (gOp hAdd (gVar 3) (gC (.int (1))))) (gNext)
def g_layer_for : Gs := gSeqS (gFor (gEnum (gCons (gVar 0) (gNil))) (tgT (tgCons (tgN 3) (tgCons (tgN 4) (tgNil)))) g_layer_for_L1) (gRet (gC (.int (0))))
def f_layer_for : List Dt → O Dt := fnN 5 g_layer_for
def g_layered_L1 : Gs := gSeqS (gSet 4 (gCallN 3 f_layer_for (gCons (gVar 3) (gCons (gVar 7) (gCons (gVar 8) (gNil)))))) (gSeqS (gIfS (gTest (gOp hGt (gVar 4) (gC (.int (0))))) (gSetI 3 (gCallN 3 f_joined (gCons (gOp hIx (gVar 3) (gOp hSub (gVar 4) (gC (.int (1))))) (gCons (gVar 7) (gCons (gVar 8) (gNil))))) (gOp hSub (gVar 4) (gC (.int (1))))) (gNext)) (gApp 5 (gVar 4)))
def g_layered : Gs := gSeqS (gDrop (gCallN 1 f_look_at_layers (gCons (gVar 2) (gNil)))) (gSeqS (gSet 3 (gLc (gRng1 (gCons (gVar 2) (gNil))) (tgN 4) (gYes) (gLsI (gRng1 (gCons (gVar 0) gNil))))) (gSeqS (gSet 5 (gLst (gNil))) (gSeqS (gFor (gRev (gCons (gVar 1) (gNil))) (tgT (tgCons (tgN 6) (tgCons (tgN 7) (tgCons (tgN 8) (tgNil))))) g_layered_L1) (gRet (gLsI (gRev (gCons (gVar 5) gNil)))))))
def f_layered : List Dt → O Dt := fnL 9 g_layered
def g_l_depth : Gs := gRet (gOp hIx (gLst (gCons (gOp hAdd (gC (.int (1))) (gOp hMod (gVar 0) (gC (.int (4))))) (gCons (gOp hAdd (gC (.int (1))) (gOp hMod (gOp hDiv (gVar 0) (gC (.int (32)))) (gC (.int (6))))) (gNil)))) (gCB hInt1 (gCons (gOp hEq (gOp hMod (gVar 0) (gC (.int (8)))) (gC (.int (1)))) (gNil))))
def f_l_depth : List Dt → O Dt := fnN 1 g_l_depth
end FamL
end T_FamL
section T_FamB
set_option linter.all false
namespace FamB
open PySem Sim
def g_l_begun : Gs := gSeqS (gSet 1 (gC (.int (0)))) (gSeqS (gIfS (gTest (gOp hGe (gCB hAbs (gCons (gVar 0) (gNil))) (gOp hPow (gC (.int (10))) (gC (.int (18)))))) (gSet 1 (gOp hAdd (gOp hSub (gCB hAbs (gCons (gVar 0) (gNil))) (gOp hPow (gC (.int (10))) (gC (.int (18))))) (gC (.int (1))))) (gNext)) (gRet (gLst (gCons (gVar 1) (gCons (gC (.int (0))) (gCons (gOp hMod (gVar 0) (gC (.int (2147483647)))) (gNil)))))))
def f_l_begun : List Dt → O Dt := fnL 2 g_l_begun
def g_l_take : Gs := gSeqS (gIfS (gTest (gOp hGt (gOp hIx (gVar 0) (gC (.int (0)))) (gC (.int (0))))) (gSeqS (gSet 2 (gOp hMod (gOp hIx (gVar 0) (gC (.int (0)))) (gVar 1))) (gSeqS (gSetI 0 (gOp hDiv (gOp hIx (gVar 0) (gC (.int (0)))) (gVar 1)) (gC (.int (0)))) (xRetM (xP (gVar 2))))) (gNext)) (gSeqS (gSetI 0 (gOp hAdd (gOp hIx (gVar 0) (gC (.int (1)))) (gC (.int (1)))) (gC (.int (1)))) (gSeqS (gSet 3 (gOp hMod (gOp hAdd (gOp hAdd (gOp hAdd (gOp hIx (gVar 0) (gC (.int (2)))) (gOp hMul (gOp hMul (gC (.int (977))) (gOp hIx (gVar 0) (gC (.int (1))))) (gOp hIx (gVar 0) (gC (.int (1)))))) (gOp hMul (gC (.int (40693))) (gOp hIx (gVar 0) (gC (.int (1)))))) (gC (.int (1)))) (gC (.int (2147483647))))) (gSeqS (gSet 3 (gOp hMod (gOp hMul (gOp hMod (gOp hMul (gVar 3) (gVar 3)) (gC (.int (1000000007)))) (gC (.int (48271)))) (gC (.int (998244353))))) (xRetM (xP (gOp hMod (gOp hDiv (gVar 3) (gC (.int (8)))) (gVar 1)))))))
def f_l_take : List Dt → O Dt := fnN 4 g_l_take
def g_l_wide_L1 : Gs := xSet 2 (xOp hAdd (xP (gOp hMul (gVar 2) (gC (.int (1000003))))) (xCallM .la 2 f_l_take 0 (xCons (xP (gC (.int (1000003)))) (xNil))))
def g_l_wide : Gs := gSeqS (gIfS (gOr (gTest (gOp hGt (gOp hIx (gVar 0) (gC (.int (0)))) (gC (.int (0))))) (gTest (gOp hLt (gVar 1) (gOp hPow (gC (.int (10))) (gC (.int (6))))))) (xRetM (xCallM .la 2 f_l_take 0 (xCons (xP (gVar 1)) (xNil)))) (gNext)) (gSeqS (gSet 2 (gC (.int (0)))) (gSeqS (gFor (gRng1 (gCons (gC (.int (5))) (gNil))) (tgN 3) g_l_wide_L1) (xRetM (xP (gOp hMod (gVar 2) (gVar 1))))))
def f_l_wide : List Dt → O Dt := fnN 4 g_l_wide
def g_l_places : Gs := xRetM (xOp hAdd (xP (gC (.int (1)))) (xCallM .la 2 f_l_take 0 (xCons (xOp hIx (xP (gLst (gCons (gC (.int (6))) (gCons (gC (.int (5))) (gCons (gC (.int (6))) (gCons (gC (.int (4))) (gCons (gC (.int (6))) (gCons (gC (.int (3))) (gCons (gC (.int (5))) (gCons (gC (.int (10))) (gNil))))))))))) (xCallM .la 2 f_l_take 0 (xCons (xP (gC (.int (8)))) (xNil)))) (xNil))))
def f_l_places : List Dt → O Dt := fnN 1 g_l_places
def g_l_depth : Gs := xRetM (xOp hAdd (xP (gC (.int (1)))) (xCallM .la 2 f_l_take 0 (xCons (xOp hIx (xP (gLst (gCons (gC (.int (3))) (gCons (gC (.int (4))) (gCons (gC (.int (2))) (gCons (gC (.int (6))) (gNil))))))) (xCallM .la 2 f_l_take 0 (xCons (xP (gC (.int (4)))) (xNil)))) (xNil))))
def f_l_depth : List Dt → O Dt := fnN 1 g_l_depth
def g_l_ends : Gs := gSeqS (xSet 3 (xCallM .la 2 f_l_take 0 (xCons (xP (gVar 1)) (xNil)))) (gSeqS (xSet 4 (xCallM .la 2 f_l_take 0 (xCons (xP (gVar 1)) (xNil)))) (gSeqS (xIfS (xAnd (xPT (gTest (gOp hNe (gVar 2) (gLst (gNil))))) (xTest (xOp hEq (xCallM .la 2 f_l_take 0 (xCons (xP (gC (.int (4)))) (xNil))) (xP (gC (.int (0))))))) (xAsg (xOp hIx (xP (gVar 2)) (xCallM .la 2 f_l_take 0 (xCons (xP (gCB hLen (gCons (gVar 2) (gNil)))) (xNil)))) (tgT (tgCons (tgN 5) (tgCons (tgN 3) (tgCons (tgN 4) (tgNil)))))) (gNext)) (xRetM (xP (gTup (gCons (gCB hMin2 (gCons (gVar 3) (gCons (gVar 4) (gNil)))) (gCons (gCB hMax2 (gCons (gVar 3) (gCons (gVar 4) (gNil)))) (gNil))))))))
def f_l_ends : List Dt → O Dt := fnN 6 g_l_ends
def g_l_drawn_ties_L1 : Gs := gSeqS (xSet 6 (xCallM .la 2 f_l_take 0 (xCons (xP (gC (.int (5)))) (xNil)))) (gSeqS (gSet 3 (gOp hAdd (gOp hAdd (gVar 3) (gC (.int (1)))) (gOp hDiv (gVar 6) (gC (.int (2)))))) (gSeqS (gIfS (gTest (gOp hEq (gVar 6) (gC (.int (4))))) (xSet 3 (xOp hAdd (xP (gVar 3)) (xCallM .la 2 f_l_wide 0 (xCons (xP (gOp hPow (gC (.int (10))) (gC (.int (27))))) (xNil))))) (gNext)) (gSeqS (xAsg (xCallM .la 3 f_l_ends 0 (xPA (gCons (gVar 1) (gCons (gVar 4) (gNil))))) (tgT (tgCons (tgN 7) (tgCons (tgN 8) (tgNil))))) (gApp 4 (gTup (gCons (gVar 3) (gCons (gVar 7) (gCons (gVar 8) (gNil)))))))))
def g_l_drawn_ties : Gs := gSeqS (xSet 3 (xOp hSub (xCallM .la 2 f_l_take 0 (xCons (xP (gC (.int (3)))) (xNil))) (xP (gC (.int (1)))))) (gSeqS (gSet 4 (gLst (gNil))) (gSeqS (xFor (xRng1 (xCons (xCallM .la 2 f_l_take 0 (xCons (xP (gOp hAdd (gVar 2) (gC (.int (1))))) (xNil))) (xNil))) (tgN 5) g_l_drawn_ties_L1) (xRetMO 4)))
def f_l_drawn_ties : List Dt → O Dt := fnL 9 g_l_drawn_ties
end FamB
end T_FamB
section T_SimX
set_option Elab.async false
set_option linter.all false
set_option maxRecDepth 100000
namespace Sim
open PySem PySem.Spec L2
open PyProof.Rows hiding St
theorem passN {X : Cx} : Passes (L2N.CX X.prog X.w) X E0 := fun _ _ _ _ _ _ _ h => by
  obtain ⟨_, _, _, _, _, _, _, _, _, _, _, _, z⟩ := h
  exact z.elim
theorem takesN {X : Cx} : L2N.Takes X (fun _ _ _ _ => False) := fun _ _ x => by
  obtain ⟨_, _, _, _, _, _, _, _, _, _, _, _, _, _, _, _, z⟩ := x
  exact z.elim
theorem fun_okG {P : Program} {w : World} {K : PySem.W.Frag} {mg : Str → Option Value} {base : Heap} {CXt : CXT} {x qual : Str} {st : Stmt} {f : Addr} {fd : FuncData} {N ps : List Str} {k : Nat} {sp : Sp} (F : L2.Fun K x qual st f fd) (S : FnScope N ps (defScope st)) (len : ∀ vs H Q E, sp vs H Q E → vs.length = ps.length)
    (hbody : ∀ (cdv : Value) (A : Around) (outer : List Env) (s : Shared) (H : Hp) (vs : List V) (Q : VK) (E : XK), Room k (A.deeper (envOfC qual (defScope st) s.heap.objs.size f cdv)) → sp vs H Q E →
      ∃ t, PSs (cxOf CXt P w K mg base N qual (defScope st) f cdv A outer s H E) (defBody st) t ∧ t { nx := fun _ H' => Q .non H', rt := Q } (start N vs) H) : FnOk P w K mg base CXt (k + 1) f fd ps sp := by
  obtain ⟨oc, od, kV, doc, pm, an, cdv, ct, osl, rfl, lk, hcd⟩ := F.ex
  exact fn_of lk hcd S len fun A outer s H vs Q E hr hsp => hbody cdv A outer s H vs Q E hr hsp
theorem exH_ok {P : Program} {w : World} {H : Hp} {h : Heap} {a : Addr} {cls : Value} {d : Option Addr} {oe : Obj} {vs : Array Value} (e : h.get? a = some oe) (z : L2N.Zn cls d oe) (dd : oe.data = .fields vs) : ObjOk P w H h a (ExH cls d a) :=
  ⟨⟨oe, vs, e, z, dd⟩, ⟨oe, e⟩, fun _ _ ⟨o, v, q, r⟩ k => ⟨o, v, k o q, r⟩⟩
section
variable {X : Cx} {pins : List (Addr × Obj)} {σ : L2.St} {H : Hp} {s : Shared}
theorem inv_note {a : Addr} {oe : Obj} {vs : Array Value} {cls : Value} {d : Option Addr} (I : Inv X pins σ H s) (he : s.heap.get? a = some oe) (hz : L2N.Zn cls d oe) (hd : oe.data = .fields vs) (na : H a = none)
    (n0 : X.s_0.heap.get? a = none) (nL : a ≠ X.env.locals) (np : ∀ p ∈ X.pn ++ pins, p.1 ≠ a) : Inv X pins σ (upd H a (ExH cls d a)) s := by
  refine ⟨I.ok, I.os, I.bare, ⟨I.base.keep, I.base.slot, fun b o e n hx => ?_, I.base.there, fun b xs e => ?_, fun b o u e => ?_, fun b ps e => ?_⟩, I.loc, I.cell, ?_, fun x c e => ?_, fun p hp => ?_, I.hok.laidN (fun _ _ q => q) na (exH_ok he hz hd), I.len⟩
  · rw [upd_ne (fun z => by rw [z, n0] at e; cases e)]
    exact I.base.free b o e n hx
  · have q := I.base.tups b xs e
    rw [upd_ne (ne_of_none q na)]
    exact q
  · have q := I.base.frzs b o u e
    rw [upd_ne (ne_of_none q na)]
    exact q
  · obtain ⟨m, q⟩ := I.base.tbls b ps e
    exact ⟨m, by rw [upd_ne (ne_of_none q na)]; exact q⟩
  · rw [upd_ne (Ne.symm nL)]
    exact I.free
  · rw [upd_ne ?_]
    · exact I.freeC x c e
    · intro z
      obtain ⟨v, o, ho, hdd⟩ := I.cell x c e
      rw [z, he] at ho
      cases ho
      rw [hd] at hdd
      cases hdd
  · obtain ⟨e, n, ne, nf, d⟩ := I.pin p hp
    exact ⟨e, by rw [upd_ne (np p hp)]; exact n, ne, nf, d⟩
theorem inv_suite (I : Inv X pins σ H s) (a : Addr) : Inv (X.suite a (X.pn ++ pins)) [] σ H s :=
  ⟨I.ok.suite _ _, I.os, I.bare, I.base, I.loc, I.cell, I.free, I.freeC, fun p hp => I.pin p (by rw [List.append_nil] at hp; exact hp), I.hok, I.len⟩
theorem inv_unsuite {a : Addr} {pn' : List (Addr × Obj)} (I : Inv (X.suite a (X.pn ++ pins)) pn' σ H s) (ok : X.Ok) : Inv X pins σ H s :=
  ⟨ok, I.os, I.bare, I.base, I.loc, I.cell, I.free, I.freeC, fun p hp => I.pin p (List.mem_append_left _ hp), I.hok, I.len⟩
end
def goneE (i : Nat) (D : Ends) : Ends := { nx := fun σ H => D.nx (σ.set i none) H, rt := D.rt, bk := fun σ H => D.bk (σ.set i none) H, ct := fun σ H => D.ct (σ.set i none) H }
def wX (K : PySem.W.Frag) (c : Value) (i : Nat) (ts : TS) (Wout : WX) (D : Ends) : WX := fun cls d σ H =>
  ∃ b, PySem.W.exmOne K cls c = some b ∧ (b = true → ∀ a, H a = none → ts (goneE i D) (σ.set i (some (.ref a))) (upd H a (ExH cls d a))) ∧ (b = false → Wout cls d σ H)
section
variable {X : Cx} {x n : Str} {c : Value} {i : Nat} {body suite : List Stmt} {b₀ : Stmt} {np pos pos' : Pos} {tb : WX → TS} {ts : TS} {Wout : WX}
theorem ps_tryX (hs : X.stack = X.env :: X.outer) (hf : X.env.frame = some X.env.locals) (hex : X.ex = []) (hN : X.N.Nodup) (hi : X.N[i]? = some n) (hln : X.env.kindOf n = some .local) (hc : Names X x c) (tk : L2N.Takes X Wout)
    (hb : ∀ (W : WX) (pn : List (Addr × Obj)) (xe : Value → Shared → Prop), L2N.Takes (X.tr pn xe) W → PSs (X.tr pn xe) body (tb W))
    (hsu : ∀ (a : Addr) (pn : List (Addr × Obj)), PSs (X.suite a pn) (b₀ :: suite) ts) :
    PS X (.Try body [.ExceptHandler (some (.Name x np)) (some n) (b₀ :: suite) pos'] [] [] pos) (fun D σ H => tb (wX X.K c i ts Wout D) D σ H) := by
  refine ⟨fun pins s σ H D I h => wpAny_Try_except ?_⟩
  have ok := I.ok
  have hfr : X.A.frames = some (X.env :: X.outer) := by rw [ok.frames, hs]
  have caught : L2N.Takes (X.tr (X.pn ++ pins) (fun e s₁ => wpAny (model X.prog X.w) X.A (noteFrame e X.env) (fun _ s₂ => wpAny (model X.prog X.w) X.A (setFlight e none) (fun _ s₃ =>
      wpAny (model X.prog X.w) X.A (handleBy e X.env [.ExceptHandler (some (.Name x np)) (some n) (b₀ :: suite) pos']) (SP X pins D) X.xe s₃) X.xe s₂) X.xe s₁)) (wX X.K c i ts Wout D) := by
    rintro u s' ⟨a, B, sI, pins', σ', H', cls, d, rfl, J', nb, up, sky, na, os, ag, b, hb1, hyes, hno⟩
    have J : Inv X pins σ' H' sI := J'.ofTry ok
    have sky' : Sky B (X.env :: X.outer) a (L2N.Zn cls d) X.env.locals s'.heap := by rw [← hs]; exact sky
    show wpAny _ X.A (noteFrame (.ref a) X.env) _ _ _
    refine L2N.Sky.land L2N.Zn.steady hfr hf sky' fun h3 fl3 up3 => ?_
    have J3 : Inv X pins σ' H' { s' with heap := h3 } := J.landed nb fl3.1 (up.trans up3) os ag
    obtain ⟨oe3, vs3, he3, hz3, hd3⟩ := fl3.there
    have nfr : a ∉ frs (X.env :: X.outer) := fun hm => by
      obtain ⟨_, o', e', hnf⟩ := fl3.2.2.1.mem hm
      rw [he3] at e'; cases e'
      exact hnf _ hd3
    have nL : a ≠ X.env.locals := fun z => nfr (List.mem_filterMap.mpr ⟨X.env, List.mem_cons_self, by rw [hf, z]⟩)
    have nB : B.get? a = none := fl3.2.1
    have inB : ∀ {y : Addr} {o : Obj}, sI.heap.get? y = some o → y = a → False := fun {y o} e z => by
      subst z
      have := nb y o e (by rw [hs]; exact nfr)
      rw [nB] at this; cases this
    have n0 : X.s_0.heap.get? a = none := by
      cases e : X.s_0.heap.get? a with
      | none => rfl
      | some o =>
        obtain ⟨o', q⟩ := J.base.there a o e (by rw [hex]; simp)
        exact (inB q rfl).elim
    have npin : ∀ p ∈ X.pn ++ pins, p.1 ≠ a := fun p hp z => inB (J.pin p hp).1 z
    have test : ∀ {Q : Value → Shared → Prop} {E : Value → Shared → Prop}, Q c { s' with heap := h3 } → wpAny (model X.prog X.w) (X.A.mark (some (.ref a))) (eval (.Name x np) X.env) Q E { s' with heap := h3 } := fun {Q E} q => by
      obtain ⟨hg, hdbg, hm | ⟨hm, hv, hnn⟩⟩ := hc
      · exact ld_glob (X := X.suite a (X.pn ++ pins)) (inv_suite J3 a) hg hm q hdbg
      · exact ld_blt (X := X.suite a (X.pn ++ pins)) (inv_suite J3 a) hg hm hv q hnn hdbg
    have LT : PySem.W.Looks (model X.prog X.w) h3 (typeOf (.ref a)) cls := fun A Q E s k q => wpAny_typeOf_ref (k _ _ he3) (by rw [hz3.1]; exact q)
    refine wpAny_handleBy_cons (codeAny_handlers_test (test ((PySem.W.exm_one (M := model X.prog X.w) J3.kIn LT hb1).here ?_))) (by intro q; cases q)
    cases b with
    | true =>
      refine codeAny_handlers_suite_as (HandSPX.lands_againZ fl3 fun h4 fl4 up4 => ?_)
      have J4 : Inv X pins σ' H' { s' with heap := h4 } := J.landed nb fl4.1 ((up.trans up3).trans up4) os ag
      obtain ⟨oe4, vs4, he4, hz4, hd4⟩ := fl4.there
      have J5 := inv_suite (inv_note J4 he4 hz4 hd4 na n0 nL npin) a
      refine store_ok (X := X.suite a (X.pn ++ pins)) (v := .ref a) J5 hN hi (.inl hln) rfl (fun s5 S5 => ?_) (.inr hln)
      refine wpAny_mono ((hsu a (X.pn ++ pins)).run [] s5 _ _ _ S5 (hyes rfl a na)) (fun f s6 hsp => ?_) (fun _ _ z => False.elim z)
      have fin : ∀ {σ6 : L2.St} {H6 : Hp} {Q : Shared → Prop}, Inv (X.suite a (X.pn ++ pins)) [] σ6 H6 s6 → (∀ s7, Inv X pins (σ6.set i none) H6 s7 → Q s7) →
          wpAny (model X.prog X.w) X.A (do bindName X.env n .none; unbindBehindTheSuite X.env n pos') (fun _ s7 => Q s7) X.xe s6 := fun {σ6 H6 Q} S6 hq => gone_ok (inv_unsuite S6 ok) hN hi hln hq
      cases f with
      | next =>
        obtain ⟨σ6, H6, S6, q6⟩ := hsp
        exact fin S6 fun s7 J7 => ⟨_, _, J7, q6⟩
      | brk =>
        obtain ⟨σ6, H6, S6, q6⟩ := hsp
        exact fin S6 fun s7 J7 => ⟨_, _, J7, q6⟩
      | cont =>
        obtain ⟨σ6, H6, S6, q6⟩ := hsp
        exact fin S6 fun s7 J7 => ⟨_, _, J7, q6⟩
      | ret u =>
        obtain ⟨v6, σ6, H6, S6, r6, q6⟩ := hsp
        exact fin S6 fun s7 J7 => ⟨_, _, _, J7, r6, q6⟩
    | false =>
      show wpAny _ X.A (handleBy (.ref a) X.env []) _ _ _
      refine wpAny_handleBy_nil ?_
      obtain ⟨k1, k2, k3, oe, vs, T, oT, ts', he, hz, hd, h1, hr⟩ := id fl3
      unfold PySem.passOn
      refine wpAny_bind (wpAny_field he hd h1 ?_)
      rw [if_neg (show ¬ ((Value.ref T == Value.none) = true) from by simp)]
      have on : wpAny (model X.prog X.w) X.A (setFlight (.ref a) X.env.frame) (fun _ s4 => wpAny (model X.prog X.w) X.A (throw (.ref a) : Sem Flow) (SP X pins D) X.xe s4) X.xe { s' with heap := h3 } := by
        rw [hf]
        refine HandSPX.setFlight_upZ fl3 fun h4 hh4 up4 => wpAny_throw (tk _ _ ?_)
        exact ⟨a, B, sI, pins, σ', H', cls, d, rfl, J, nb, (up.trans up3).trans up4, .inr (.inr (by rw [hs]; exact hh4)), na, os, ag, hno rfl⟩
      first
        | exact wpAny_bind (wpAny_pure (wpAny_bind on))
        | exact wpAny_bind on
  refine wpAny_mono ((hb _ (X.pn ++ pins) _ caught).run [] s σ H D (I.toTry _) h) (fun f s1 hsp => ?_) (fun e s1 he => he)
  cases f with
  | next =>
    obtain ⟨σ', H', J', q⟩ := hsp
    exact wpAny_execs_nil ⟨σ', H', J'.ofTry ok, q⟩
  | brk =>
    obtain ⟨σ', H', J', q⟩ := hsp
    exact ⟨σ', H', J'.ofTry ok, q⟩
  | cont =>
    obtain ⟨σ', H', J', q⟩ := hsp
    exact ⟨σ', H', J'.ofTry ok, q⟩
  | ret u =>
    obtain ⟨v, σ', H', J', r, q⟩ := hsp
    exact ⟨v, σ', H', J'.ofTry ok, r, q⟩
end
theorem pmk_own0 {X : Cx} {C : Addr} {bmB : List Value} {B newId initId : String} {x : Str} {p pos : Pos} (F : ExcBaseFacts B newId initId bmB) (q : PySem.W.excIn X.K C bmB newId = true) (gC : X.mg x = some (.ref C)) (kC : PySem.W.keepIn X.K (.ref C) = true)
    (r : Raises X (.ref C)) (hg : Gl X x) (hdb : (x == ("__debug__" : Str)) = false := by decide) : L2N.PMk X (.Call (.Name x p) [] [] pos) (fun _ H Q => Q (.ref C) none H) := by
  intro pins s σ H Q I h
  refine wpAny_Call_Name_kw (ld_glob I hg gC ?_ hdb)
  refine PySem.W.callWith_K0 I.kIn kC ?_
  show wpAny _ _ (call (.ref C) []) _ _ _
  obtain ⟨bm, N, nm, qn, bs, hdct, sn, sub, ab, col, dd, k0, k1, k2, k3, k5, mN, hC, hN, hni, T⟩ := exc_obj I.kIn q
  refine wpAny_call_exc_subT F T hC hN hni (fun h' e hm => ?_) (Nat.zero_le _)
  exact L2N.mk_of I hm r h (I.hok.gone hm.new)
end Sim
end T_SimX
section T_SimXB
set_option Elab.async false
set_option linter.all false
set_option maxRecDepth 100000
namespace Sim
open PySem PySem.Spec L2
open PyProof.Rows hiding St
abbrev wtOf (mg : Str → Option Value) (Wx : WX) : Wt := fun e σ H => Wcls mg e (WE Wx σ) H
abbrev veB : List Value := [.type "ValueError", .type "Exception", .type "BaseException", .type "object"]
structure ExT (K : PySem.W.Frag) (mg : Str → Option Value) (c : Str) (C : Addr) : Prop where
  g : mg c = some (.ref C)
  n : PySem.W.nsIn K mainGlobals c = some (some (.ref C))
  k : PySem.W.keepIn K (.ref C) = true
  t : PySem.W.typeIn K (.ref C) = some (.type "type")
  x : ExcC K C
def gRaise (c : Str) : Gs := fun _ => .ex ⟨c, none⟩
theorem z_raise0 {X : Cx} {K : PySem.W.Frag} {L : Lk} {Δ Δn Δb Δc : List Kd} {Wx : WX} {mg : Str → Option Value} {c : Str} {C : Addr} {p pos pos' : Pos} (tk : L2N.Takes X Wx) (T : ExT K mg c C) (q : PySem.W.excIn K C veB "ValueError.__new__" = true)
    (hmg : X.mg = mg := by rfl) (hK : X.K = K := by rfl) (hc : X.calm = true := by rfl) (hg : Gl X c := by rfl) (hdb : (c == ("__debug__" : Str)) = false := by decide) :
    SD X K (wtOf mg Wx) L Δ Δn Δb Δc (.Raise (some (.Call (.Name c p) [] [] pos)) none pos') (fun _ σ H => Wx (.ref C) none σ H) (gRaise c) := by
  subst hK hmg
  exact ⟨L2N.ps_raise hc tk (pmk_own0 PySem.F.excBase_ValueError q T.g T.k (raises_own T.x.hs T.t) hg hdb), rfl, fun f ρ σ H E r q => q σ H r.ext C T.g⟩
def gCallX (n : Nat) (g : List Dt → O Dt) (gA : List Dt → O (List Dt)) : Gd := fun ρ => bnd (gA ρ) fun ds => if ds.length = n then g ds else .bad
section
variable {K : PySem.W.Frag} {Δ : List Kd} {ta : TA} {gA : List Dt → O (List Dt)} {av fr : Bool} {mg : Str → Option Value} {n : Nat} {g : List Dt → O Dt} {Wx : WX}
theorem se_callXN (h : SA K (wtOf mg Wx) Δ ta av fr gA) : SE K (wtOf mg Wx) Δ (tCallS (spG K mg n g) (WE Wx) ta) (.v true true) (gCallX n g gA) := fun f ρ σ H Q r q => h f ρ σ H _ r <| by
  unfold gCallX at q
  cases e : gA ρ with
  | bad => rw [e] at q; exact q
  | ex z => rw [e] at q; exact q
  | ok ds =>
    rw [e, bnd_ok] at q
    intro vs H1 s1 x1
    by_cases hn : ds.length = n
    · rw [if_pos hn] at q
      refine ⟨ds, by rw [x1.length]; exact hn, x1.weak fun _ _ => trivial, ?_⟩
      cases e2 : g ds with
      | bad => rw [e2] at q; exact q.elim
      | ex z => rw [e2] at q; exact fun H2 s2 => q H2 (s1.trans s2)
      | ok d =>
        rw [e2] at q
        intro v H2 s2 x2
        refine q v H2 (s1.trans s2) (x2.weak fun a na => ?_)
        obtain ⟨f1, f2, f3⟩ := (r.mono s1).fresh na
        exact ⟨fun _ => ⟨f1, f2⟩, fun _ => r.g0 a f3⟩
    · rw [if_neg hn] at q
      exact q.elim
theorem se_callXL (h : SA K (wtOf mg Wx) Δ ta av fr gA) : SE K (wtOf mg Wx) Δ (tCallS (spL K mg n g) (WE Wx) ta) (.new .l true) (gCallX n g gA) := fun f ρ σ H Q r q => h f ρ σ H _ r <| by
  unfold gCallX at q
  cases e : gA ρ with
  | bad => rw [e] at q; exact q
  | ex z => rw [e] at q; exact q
  | ok ds =>
    rw [e, bnd_ok] at q
    intro vs H1 s1 x1
    by_cases hn : ds.length = n
    · rw [if_pos hn] at q
      refine ⟨ds, by rw [x1.length]; exact hn, x1.weak fun _ _ => trivial, ?_⟩
      cases e2 : g ds with
      | bad => rw [e2] at q; exact q.elim
      | ex z => rw [e2] at q; exact fun H2 s2 => q H2 (s1.trans s2)
      | ok d =>
        rw [e2] at q
        intro p H2 np s2 x2
        refine q p H2 (s1.free np) (s1.trans s2) (x2.map (fun _ e => e) fun _ _ y => y.weak fun a na => ?_)
        obtain ⟨f1, f2, f3⟩ := (r.mono s1).fresh na.1
        exact ⟨⟨fun _ => ⟨f1, f2⟩, fun _ => r.g0 a f3⟩, na.2⟩
    · rw [if_neg hn] at q
      exact q.elim
end
section
variable {X : Cx} {K : PySem.W.Frag} {Δ : List Kd} {e : Expr} {es : List Expr} {tA : TA} {gA : List Dt → O (List Dt)} {av fr : Bool} {pos p : Pos} {mg : Str → Option Value} {Wx : WX} {x : Str} {kk nn : Nat} {fa : Addr} {fd : FuncData} {ps : List Str} {gg : List Dt → O Dt}
theorem x_callXN (tk : L2N.Takes X Wx) (F : FnOk X.prog X.w X.K X.mg X.base (L2N.CX X.prog X.w) kk fa fd ps (spG K mg nn gg)) (hr : Room kk X.A) (hm : X.mg x = some (.ref fa)) (hk : PySem.W.keepIn X.K (.ref fa) = true) (hb : Binds X.K fd ps [])
    (h : AD X K (wtOf mg Wx) Δ (e :: es) tA av fr gA) (hg : Gl X x := by rfl) (hdb : (x == ("__debug__" : Str)) = false := by decide) (he : starEach (e :: es) X.env = (false, eval e X.env) :: starEach es X.env := by rfl) (hpl : (backTo pos (starEach es X.env)).any (·.1) = false := by rfl) :
    PD X K (wtOf mg Wx) Δ (.Call (.Name x p) (e :: es) [] pos) (tCallS (spG K mg nn gg) (WE Wx) tA) (.v true true) (gCallX nn gg gA) := ⟨pe_callS F hr hg hm hk hb (fun σ => L2N.passAt tk σ) h.pa hdb he hpl, h.hK, se_callXN h.sa⟩
theorem x_callXL (tk : L2N.Takes X Wx) (F : FnOk X.prog X.w X.K X.mg X.base (L2N.CX X.prog X.w) kk fa fd ps (spL K mg nn gg)) (hr : Room kk X.A) (hm : X.mg x = some (.ref fa)) (hk : PySem.W.keepIn X.K (.ref fa) = true) (hb : Binds X.K fd ps [])
    (h : AD X K (wtOf mg Wx) Δ (e :: es) tA av fr gA) (hg : Gl X x := by rfl) (hdb : (x == ("__debug__" : Str)) = false := by decide) (he : starEach (e :: es) X.env = (false, eval e X.env) :: starEach es X.env := by rfl) (hpl : (backTo pos (starEach es X.env)).any (·.1) = false := by rfl) :
    PD X K (wtOf mg Wx) Δ (.Call (.Name x p) (e :: es) [] pos) (tCallS (spL K mg nn gg) (WE Wx) tA) (.new .l true) (gCallX nn gg gA) := ⟨pe_callS F hr hg hm hk hb (fun σ => L2N.passAt tk σ) h.pa hdb he hpl, h.hK, se_callXL h.sa⟩
end
def fnNX (m : Nat) (g : Gs) : List Dt → O Dt := fun ds => match g (ds ++ List.replicate (m - ds.length) .none) with
  | .ok (.rt d) => .ok d
  | .ok (.nx _) => .ok .none
  | .ex e => .ex e
  | _ => .bad
def fnLX (m : Nat) (g : Gs) : List Dt → O Dt := fun ds => match g (ds ++ List.replicate (m - ds.length) .none) with
  | .ok (.rt d) => .ok d
  | .ex e => .ex e
  | _ => .bad
abbrev wE (E : XK) : WX := fun cls d _ H => E cls d H
section
variable {P : Program} {w : World} {K : PySem.W.Frag} {mg : Str → Option Value} {base : Heap} {x qual : Str} {st : Stmt} {fa : Addr} {fd : FuncData} {N ps : List Str} {k n m : Nat} {Δn : List Kd} {g : Gs}
theorem fn_okNX (F : L2.Fun K x qual st fa fd) (S : FnScope N ps (defScope st)) (hn : ps.length = n) (hm : N.length = m) (hnm : n ≤ m)
    (hb : ∀ (cdv : Value) (A : Around) (outer : List Env) (s : Shared) (H : Hp) (E : XK), Room k (A.deeper (envOfC qual (defScope st) s.heap.objs.size fa cdv)) →
      L2N.Takes (cxOf (L2N.CX P w) P w K mg base N qual (defScope st) fa cdv A outer s H E) (wE E) → PassesOwn (model P w) (cxOf (L2N.CX P w) P w K mg base N qual (defScope st) fa cdv A outer s H E).A (cxOf (L2N.CX P w) P w K mg base N qual (defScope st) fa cdv A outer s H E).env (cxOf (L2N.CX P w) P w K mg base N qual (defScope st) fa cdv A outer s H E).xe →
      ∃ ts, BD (cxOf (L2N.CX P w) P w K mg base N qual (defScope st) fa cdv A outer s H E) K (wtOf mg (wE E)) .n (kd0 n m false) Δn (kd0 n m false) (kd0 n m false) (defBody st) ts g) :
    FnOk P w K mg base (L2N.CX P w) (k + 1) fa fd ps (spG K mg n (fnNX m g)) := by
  refine fun_okG F S (fun vs H Q E h => ?_) (fun cdv A outer s H vs Q E hr h => ?_)
  · obtain ⟨ds, h1, _⟩ := h
    rw [h1, hn]
  · obtain ⟨ds, h1, h2, h3⟩ := h
    obtain ⟨ts, B⟩ := hb cdv A outer s H E hr (L2N.takes_of rfl rfl rfl rfl) (passes_of (X := cxOf (L2N.CX P w) P w K mg base N qual (defScope st) fa cdv A outer s H E) rfl)
    refine ⟨ts, B.ps, B.ss ⟨H, fun a => H a = none, [], [], none, [], fun _ h => nomatch h⟩ _ _ H _ (r_start h1 hm hnm h2 (fun _ h => h) (fun e => nomatch e)) ?_⟩
    unfold fnNX at h3
    cases e : g (ds ++ List.replicate (m - ds.length) .none) with
    | bad => rw [e] at h3; exact h3.elim
    | ex z => rw [e] at h3; exact fun σ' H' s => h3 H' s
    | ok fl =>
      rw [e] at h3
      cases fl with
      | nx ρ => exact fun σ' H' r => h3 .non H' r.ext .non
      | rt d => exact fun v H' s x => h3 v H' s x
      | bk ρ => exact h3.elim
      | ct ρ => exact h3.elim
theorem fn_okLX (F : L2.Fun K x qual st fa fd) (S : FnScope N ps (defScope st)) (hn : ps.length = n) (hm : N.length = m) (hnm : n ≤ m)
    (hb : ∀ (cdv : Value) (A : Around) (outer : List Env) (s : Shared) (H : Hp) (E : XK), Room k (A.deeper (envOfC qual (defScope st) s.heap.objs.size fa cdv)) →
      L2N.Takes (cxOf (L2N.CX P w) P w K mg base N qual (defScope st) fa cdv A outer s H E) (wE E) → PassesOwn (model P w) (cxOf (L2N.CX P w) P w K mg base N qual (defScope st) fa cdv A outer s H E).A (cxOf (L2N.CX P w) P w K mg base N qual (defScope st) fa cdv A outer s H E).env (cxOf (L2N.CX P w) P w K mg base N qual (defScope st) fa cdv A outer s H E).xe →
      ∃ ts, BD (cxOf (L2N.CX P w) P w K mg base N qual (defScope st) fa cdv A outer s H E) K (wtOf mg (wE E)) .l (kd0 n m false) Δn (kd0 n m false) (kd0 n m false) (defBody st) ts g) :
    FnOk P w K mg base (L2N.CX P w) (k + 1) fa fd ps (spL K mg n (fnLX m g)) := by
  refine fun_okG F S (fun vs H Q E h => ?_) (fun cdv A outer s H vs Q E hr h => ?_)
  · obtain ⟨ds, h1, _⟩ := h
    rw [h1, hn]
  · obtain ⟨ds, h1, h2, h3⟩ := h
    obtain ⟨ts, B⟩ := hb cdv A outer s H E hr (L2N.takes_of rfl rfl rfl rfl) (passes_of (X := cxOf (L2N.CX P w) P w K mg base N qual (defScope st) fa cdv A outer s H E) rfl)
    refine ⟨ts, B.ps, B.ss ⟨H, fun a => H a = none, [], [], none, [], fun _ h => nomatch h⟩ _ _ H _ (r_start h1 hm hnm h2 (fun _ h => h) (fun e => nomatch e)) ?_⟩
    unfold fnLX at h3
    cases e : g (ds ++ List.replicate (m - ds.length) .none) with
    | bad => rw [e] at h3; exact h3.elim
    | ex z => rw [e] at h3; exact fun σ' H' s => h3 H' s
    | ok fl =>
      rw [e] at h3
      cases fl with
      | nx ρ => exact h3.elim
      | rt d => exact fun p H' np s x => h3 p H' np s x
      | bk ρ => exact h3.elim
      | ct ρ => exact h3.elim
end
def noX (o : O Fl) : O Fl := match o with
  | .ex _ => .bad
  | .ok a => .ok a
  | .bad => .bad
def gTry (gb : Gs) (yes no : List Str) (i : Nat) (gh : Gs) : Gs := fun ρ => match gb ρ with
  | .ex e => if yes.contains e.cls then noX (gh (ρ.set i (exnD e.cls e.arg))) else if no.contains e.cls then .ex e else .bad
  | .ok a => .ok a
  | .bad => .bad
def PoSx (K : PySem.W.Frag) (W : Wt) (L : Lk) (f : Fm) (Δn Δb Δc : List Kd) (σ : L2.St) (H : Hp) (o : O Fl) (E : Ends) : Prop := match o with
  | .ex e => ∀ H', Same H H' → W e σ H'
  | .ok a => PoS K W L f Δn Δb Δc (.ok a) E
  | .bad => False
def SSx (K : PySem.W.Frag) (W : Wt) (L : Lk) (Δ Δn Δb Δc : List Kd) (ts : TS) (g : Gs) : Prop := ∀ f ρ σ H E, R K f Δ ρ σ H → PoSx K W L f Δn Δb Δc σ H (g ρ) E → ts E σ H
structure SDx (X : Cx) (K : PySem.W.Frag) (W : Wt) (L : Lk) (Δ Δn Δb Δc : List Kd) (st : Stmt) (ts : TS) (g : Gs) : Prop where
  ps : PS X st ts
  hK : X.K = K
  ss : SSx K W L Δ Δn Δb Δc ts g
structure BDx (X : Cx) (K : PySem.W.Frag) (W : Wt) (L : Lk) (Δ Δn Δb Δc : List Kd) (sts : List Stmt) (ts : TS) (g : Gs) : Prop where
  ps : PSs X sts ts
  hK : X.K = K
  ss : SSx K W L Δ Δn Δb Δc ts g
section
variable {K : PySem.W.Frag} {f : Fm} {Δ : List Kd} {ρ : List Dt} {σ : L2.St} {H : Hp} {i : Nat}
theorem R.gone (r : R K f Δ ρ σ H) (h : Δ[i]? = some .no) : R K f Δ ρ (σ.set i none) H := by
  have ne : ∀ {j : Nat} {k : Kd}, Δ[j]? = some k → k ≠ .no → i ≠ j := fun {j k} e n z => by
    subst z
    rw [h] at e
    cases e
    exact n rfl
  have ow' : ∀ a, Ow Δ (σ.set i none) a → Ow Δ σ a := fun a ⟨j, c, fr, h1, h2⟩ => by
    rw [List.getElem?_set_ne (ne h1 (fun z => nomatch z))] at h2
    exact ⟨j, c, fr, h1, h2⟩
  have key : ∀ {fr : Bool} {v : V} {d : Dt}, Rp K (FM f Δ σ true fr) H v d → Rp K (FM f Δ (σ.set i none) true fr) H v d := fun h =>
    h.weak fun a fa => ⟨fun _ => ⟨fun z => (fa.1 rfl).1 (ow' a z), (fa.1 rfl).2⟩, fa.2⟩
  refine ⟨r.ext, r.g0, by rw [List.length_set]; exact r.lσ, r.lρ, fun j l cj fj cl fl p h1 h2 h3 h4 => ?_, fun a ha => ⟨(r.pin a ha).1, fun z => (r.pin a ha).2 (ow' a z)⟩, fun g hg => (r.gh g hg).map fun _ _ x => key x, fun j fr h' => ?_, fun j c fr h' => ?_, fun j c fr h' ha => ?_, r.sp, fun j t h' => by
    obtain ⟨v, d, h1, h2, h3⟩ := r.sl j t h'
    exact ⟨v, d, by rw [List.getElem?_set_ne (ne h' (fun z => nomatch z))]; exact h1, h2, h3⟩⟩
  · rw [List.getElem?_set_ne (ne h1 (fun z => nomatch z))] at h3
    rw [List.getElem?_set_ne (ne h2 (fun z => nomatch z))] at h4
    exact r.inj j l cj fj cl fl p h1 h2 h3 h4
  · obtain ⟨v, d, h1, h2, h3⟩ := r.im j fr h'
    exact ⟨v, d, by rw [List.getElem?_set_ne (ne h' (fun z => nomatch z))]; exact h1, h2, key h3⟩
  · obtain ⟨p, d, h1, h2, h3, h4⟩ := r.ow j c fr h'
    exact ⟨p, d, by rw [List.getElem?_set_ne (ne h' (fun z => nomatch z))]; exact h1, h2, h3, h4.map (fun o e => e) fun _ _ x => key x⟩
  · obtain ⟨p, h1, h2⟩ := r.ar j c fr h' ha
    exact ⟨p, h1, by rw [List.getElem?_set_ne (ne h' (fun z => nomatch z))]; exact h2⟩
end
section
variable {K : PySem.W.Frag} {W : Wt} {L : Lk} {Δ Δ1 Δn Δb Δc : List Kd} {te : TE} {tt : TT} {t u ts : TS} {g : Gd} {gt : List Dt → O Bool} {ga gb gh : Gs} {fr av : Bool} {k : Rk} {i : Nat} {mg : Str → Option Value}
theorem sx_drop (h : SE K W Δ te k g) : SSx K W L Δ Δ Δb Δc (tDrop te) (gDrop g) := fun f ρ σ H E r q => h f ρ σ H _ r <| by
  unfold gDrop at q
  cases e : g ρ with
  | bad => rw [e] at q; exact q
  | ex z => rw [e] at q; exact q
  | ok d =>
    rw [e] at q
    cases k with
    | v av fr => exact fun v H' s x => q σ H' (r.mono s)
    | o fr => exact fun p H' vs ds e s _ _ _ => q σ H' (r.mono s)
    | new c fr => exact fun p H' np s x => q σ H' (r.mono s)
theorem sx_set (hi : i < Δ.length) (h : SE K W Δ te (.v true fr) g) : SSx K W L Δ (Δ.set i (.im fr)) Δb Δc (tAsg te (gName i)) (gSet i g) := fun f ρ σ H E r q => h f ρ σ H _ r <| by
  unfold gSet at q
  cases e : g ρ with
  | bad => rw [e] at q; exact q
  | ex z => rw [e] at q; exact q
  | ok d =>
    rw [e] at q
    exact fun v H' s x => q _ H' ((r.mono s).setIm hi x)
theorem SSx.post {Δn' : List Kd} (h : SSx K W L Δ Δn Δb Δc t ga) (ln : leA Δn Δn' = true) : SSx K W L Δ Δn' Δb Δc t ga := fun f ρ σ H E r q => h f ρ σ H E r <| by
  cases e : ga ρ with
  | bad => rw [e] at q; exact q
  | ex z => rw [e] at q; exact q
  | ok fl =>
    rw [e] at q
    cases fl with
    | nx ρ' => exact fun σ' H' r => q σ' H' (r.weak ln)
    | rt d => exact q
    | bk ρ' => exact q
    | ct ρ' => exact q
theorem s_tryX {C : Addr} {c : Str} {yes no : List Str} {tb : WX → TS} {Wout : WX} (T : ExT K mg c C)
    (hyes : ∀ y ∈ yes, ∃ D, PySem.W.nsIn K mainGlobals y = some (some (.ref D)) ∧ mg y = some (.ref D) ∧ PySem.W.subIn K (.ref D) (.ref C) = some true)
    (hno : ∀ y ∈ no, ∃ D, PySem.W.nsIn K mainGlobals y = some (some (.ref D)) ∧ mg y = some (.ref D) ∧ PySem.W.subIn K (.ref D) (.ref C) = some false)
    (hW : ∀ e σ H, W e σ H → wtOf mg Wout e σ H) (hi : i < Δ.length) (en : Δn[i]? = some .no) (eb : Δb[i]? = some .no) (ec : Δc[i]? = some .no)
    (hb : ∀ Wx : WX, SSx K (wtOf mg Wx) L Δ Δn Δb Δc (tb Wx) gb) (hsu : SS K W0 L (Δ.set i (.im true)) Δn Δb Δc ts gh) :
    SS K W L Δ Δn Δb Δc (fun D σ H => tb (wX K (.ref C) i ts Wout D) D σ H) (gTry gb yes no i gh) := fun f ρ σ H E r q => hb _ f ρ σ H E r <| by
  unfold gTry at q
  cases e : gb ρ with
  | bad => rw [e] at q; exact q
  | ok a =>
    rw [e] at q
    cases a with
    | nx ρ' => exact q
    | rt d => exact q
    | bk ρ' => exact q
    | ct ρ' => exact q
  | ex z =>
    rw [e] at q
    have q : PoS K W L f Δn Δb Δc (if yes.contains z.cls then noX (gh (ρ.set i (exnD z.cls z.arg))) else if no.contains z.cls then .ex z else .bad) E := q
    intro H' s C' hC'
    by_cases hy : yes.contains z.cls = true
    · rw [if_pos hy] at q
      obtain ⟨D, h1, h2, h3⟩ := hyes z.cls (by simpa using hy)
      rw [h2] at hC'
      cases hC'
      have key : ∀ d, XdAt H' d z.arg → wX K (.ref C) i ts Wout E (.ref C') d σ H' := fun d hd => by
        refine ⟨true, PySem.W.exm_ref T.x.hs T.x.hd T.t h3, fun _ a na => ?_, (fun z => nomatch z)⟩
        refine hsu f (ρ.set i (exnD z.cls z.arg)) _ _ (goneE i E) ((r.mono (s.trans (same_upd na))).setIm hi (.exn h1 upd_same (hd.same (same_upd na)))) ?_
        cases e2 : gh (ρ.set i (exnD z.cls z.arg)) with
        | bad => rw [e2] at q; exact q
        | ex y => rw [e2] at q; exact q.elim
        | ok fl =>
          rw [e2] at q
          cases fl with
          | nx ρ' => exact fun σ' H2 r' => q _ H2 (r'.gone en)
          | rt d => exact q
          | bk ρ' => exact fun σ' H2 r' => q _ H2 (r'.gone eb)
          | ct ρ' => exact fun σ' H2 r' => q _ H2 (r'.gone ec)
      cases ea : z.arg with
      | none => exact key none (by rw [ea]; exact rfl)
      | some m => exact fun d hd => key (some d) (by rw [ea]; exact ⟨d, rfl, hd⟩)
    · rw [if_neg hy] at q
      by_cases hn : no.contains z.cls = true
      · rw [if_pos hn] at q
        obtain ⟨D, h1, h2, h3⟩ := hno z.cls (by simpa using hn)
        have w := hW z σ H' (q σ H' (r.ext.trans s)) C' hC'
        rw [h2] at hC'
        cases hC'
        have key : ∀ d, Wout (.ref C') d σ H' → wX K (.ref C) i ts Wout E (.ref C') d σ H' := fun d w => ⟨false, PySem.W.exm_ref T.x.hs T.x.hd T.t h3, (fun z => nomatch z), fun _ => w⟩
        cases ea : z.arg with
        | none => rw [ea] at w; exact key none w
        | some m => rw [ea] at w; exact fun d hd => key (some d) (w d hd)
      · rw [if_neg hn] at q
        exact q.elim
end
section
variable {X : Cx} {K : PySem.W.Frag} {W : Wt} {L : Lk} {Δ Δ1 Δn Δb Δc : List Kd} {e c : Expr} {te : TE} {tt : TT} {t u ts : TS} {g : Gd} {gt : List Dt → O Bool} {ga gb gh g1 g2 : Gs} {fr av : Bool} {k : Rk} {mg : Str → Option Value} {st : Stmt} {sts sts2 : List Stmt} {pos pos' : Pos}
theorem y_drop (h : PD X K W Δ e te k g) (hs : swapsWith e none pos.line X.env = pure false := by rfl) : SDx X K W L Δ Δ Δb Δc (.Expr e pos) (tDrop te) (gDrop g) := ⟨ps_expr h.pe hs, h.hK, sx_drop h.se⟩
theorem y_set (i : Nat) {x : Str} (hN : X.N.Nodup) (h : PD X K W Δ e te (.v true fr) g) (hn : i < Δ.length := by decide) (hi : X.N[i]? = some x := by rfl) (hx : Loc X.env.scope x := by first | exact .inl rfl | exact .inr rfl) (hs : swapsWith e (some (.Name x pos')) pos.line X.env = pure false := by rfl)
    (hf : X.fn x = true ∨ X.env.scope.names.lookup x = some .local := by first | exact .inl rfl | exact .inr rfl) : SDx X K W L Δ (Δ.set i (.im fr)) Δb Δc (.Assign [.Name x pos'] e pos) (tAsg te (gName i)) (gSet i g) :=
  ⟨(z_set (L := .n) (Δb := []) (Δc := []) i hN h hn hi hx hs hf).ps, h.hK, sx_set hn h.se⟩
theorem y_one (h : SDx X K W L Δ Δn Δb Δc st t g1) : BDx X K W L Δ Δn Δb Δc [st] t g1 := ⟨pss_one h.ps, h.hK, h.ss⟩
theorem BDx.to (Δn' : List Kd) (h : BDx X K W L Δ Δn Δb Δc sts t g1) (l : leA Δn Δn' = true := by rfl) : BDx X K W L Δ Δn' Δb Δc sts t g1 := ⟨h.ps, h.hK, h.ss.post l⟩
theorem z_tryX {C : Addr} {x n : Str} {yes no : List Str} {tb : WX → TS} {Wout : WX} {b₀ : Stmt} {np ph : Pos} {body suite : List Stmt} (i : Nat) (T : ExT K mg x C) (tk : L2N.Takes X Wout)
    (hyes : ∀ y ∈ yes, ∃ D, PySem.W.nsIn K mainGlobals y = some (some (.ref D)) ∧ mg y = some (.ref D) ∧ PySem.W.subIn K (.ref D) (.ref C) = some true)
    (hno : ∀ y ∈ no, ∃ D, PySem.W.nsIn K mainGlobals y = some (some (.ref D)) ∧ mg y = some (.ref D) ∧ PySem.W.subIn K (.ref D) (.ref C) = some false)
    (hW : ∀ e σ H, W e σ H → wtOf mg Wout e σ H) (hN : X.N.Nodup)
    (hb : ∀ (Wx : WX) (pn : List (Addr × Obj)) (xe : Value → Shared → Prop), L2N.Takes (X.tr pn xe) Wx → BDx (X.tr pn xe) K (wtOf mg Wx) L Δ Δn Δb Δc body (tb Wx) gb)
    (hsu : ∀ (a : Addr) (pn : List (Addr × Obj)), BD (X.suite a pn) K W0 L (Δ.set i (.im true)) Δn Δb Δc (b₀ :: suite) ts gh)
    (hi : i < Δ.length := by decide) (en : Δn[i]? = some .no := by rfl) (eb : Δb[i]? = some .no := by rfl) (ec : Δc[i]? = some .no := by rfl)
    (hn : X.N[i]? = some n := by rfl) (hln : X.env.kindOf n = some .local := by rfl) (hmg : X.mg = mg := by rfl) (hK : X.K = K := by rfl) (hs : X.stack = X.env :: X.outer := by rfl) (hf : X.env.frame = some X.env.locals := by rfl) (hex : X.ex = [] := by rfl)
    (hg : Gl X x := by rfl) (hdb : (x == ("__debug__" : Str)) = false := by decide) :
    SD X K W L Δ Δn Δb Δc (.Try body [.ExceptHandler (some (.Name x np)) (some n) (b₀ :: suite) ph] [] [] pos) (fun D σ H => tb (wX K (.ref C) i ts Wout D) D σ H) (gTry gb yes no i gh) := by
  subst hK hmg
  exact ⟨ps_tryX hs hf hex hN hn hln ⟨hg, hdb, .inl T.g⟩ tk (fun W pn xe tk => (hb W pn xe tk).ps) (fun a pn => (hsu a pn).ps), rfl, s_tryX T hyes hno hW hi en eb ec (fun Wx => (hb Wx [] (fun _ _ => True) (fun _ _ _ => trivial)).ss) (hsu 0 []).ss⟩
end
theorem co_nil {K : PySem.W.Frag} {mg : Str → Option Value} {C : Addr} {b : Bool} : ∀ y ∈ ([] : List Str), ∃ D, PySem.W.nsIn K mainGlobals y = some (some (.ref D)) ∧ mg y = some (.ref D) ∧ PySem.W.subIn K (.ref D) (.ref C) = some b := fun y h => nomatch h
theorem co_cons {K : PySem.W.Frag} {mg : Str → Option Value} {C D : Addr} {b : Bool} {y : Str} {ys : List Str} (T : ExT K mg y D) (e : PySem.W.subIn K (.ref D) (.ref C) = some b) (h : ∀ y ∈ ys, ∃ D, PySem.W.nsIn K mainGlobals y = some (some (.ref D)) ∧ mg y = some (.ref D) ∧ PySem.W.subIn K (.ref D) (.ref C) = some b) :
    ∀ z ∈ y :: ys, ∃ D, PySem.W.nsIn K mainGlobals z = some (some (.ref D)) ∧ mg z = some (.ref D) ∧ PySem.W.subIn K (.ref D) (.ref C) = some b := fun z hz => by
  rcases List.mem_cons.mp hz with rfl | hz
  · exact ⟨D, T.n, T.g, e⟩
  · exact h z hz
def isxTab (tab : List (Str × Bool)) (c : Str) : Option Bool := (tab.find? fun p => p.1 == c).map (·.2)
def TabOk (K : PySem.W.Frag) (tab : List (Str × Bool)) (ans : Addr → Option Bool) : Prop := ∀ p ∈ tab, ∃ D, PySem.W.nsIn K mainGlobals p.1 = some (some (.ref D)) ∧ ExcC K D ∧ ans D = some p.2
theorem tab_nil {K : PySem.W.Frag} {ans : Addr → Option Bool} : TabOk K [] ans := fun p h => nomatch h
theorem tab_cons {K : PySem.W.Frag} {mg : Str → Option Value} {ans : Addr → Option Bool} {c : Str} {b : Bool} {D : Addr} {tab : List (Str × Bool)} (T : ExT K mg c D) (e : ans D = some b) (h : TabOk K tab ans) : TabOk K ((c, b) :: tab) ans := fun p hp => by
  rcases List.mem_cons.mp hp with rfl | hp
  · exact ⟨D, T.n, T.x, e⟩
  · exact h p hp
theorem kit_ref {K : PySem.W.Frag} {mg : Str → Option Value} {c : Str} {C D : Addr} {b : Bool} (T : ExT K mg c C) (e : PySem.W.subIn K (.ref D) (.ref C) = some b) (ed : D = C → b = true) : PySem.W.kitOne K (.ref D) (.ref C) = some b := by
  unfold PySem.W.kitOne PySem.W.kitCls
  by_cases h : (Value.ref D == Value.ref C) = true
  · rw [if_pos h, ed (Value.ref.inj (beq_iff_eq.mp h))]
  · rw [if_neg h]
    have e1 : ((PySem.W.clsIn K C).isSome && PySem.W.typeIn K (.ref C) == some (.type "type")) = true := by
      obtain ⟨cd, hc, _⟩ := PySem.W.any_some T.x.hd
      rw [hc, T.t]
      rfl
    show (if ((PySem.W.clsIn K C).isSome && PySem.W.typeIn K (.ref C) == some (.type "type")) = true then PySem.W.subIn K (.ref D) (.ref C) else none) = some b
    rw [if_pos e1]
    exact e
theorem kit_bi {K : PySem.W.Frag} {D : Addr} {n : String} {b : Bool} (e : PySem.W.subIn K (.ref D) (.type n) = some b) (hm : PySem.W.kitMeta n = true := by decide +kernel) : PySem.W.kitOne K (.ref D) (.type n) = some b := by
  unfold PySem.W.kitOne PySem.W.kitCls
  rw [if_neg (show ¬ (Value.ref D == Value.type n) = true from by simp)]
  show (if PySem.W.kitMeta n = true then PySem.W.subIn K (.ref D) (.type n) else none) = some b
  rw [if_pos hm]
  exact e
theorem pe_cls {X : Cx} {x : Str} {C : Addr} {p : Pos} (hm : X.mg x = some (.ref C)) (hg : Gl X x) (hdb : (x == ("__debug__" : Str)) = false) : PE X (.Name x p) (tC (.ref C)) := ⟨fun pins s σ H Q I h => ld_glob I hg hm ⟨.ref C, H, I, rfl, h⟩ hdb⟩
section
variable {X : Cx} {K : PySem.W.Frag} {W : Wt} {Δ : List Kd} {e : Expr} {te : TE} {g : Gd} {av fr : Bool} {pos p p2 : Pos} {mg : Str → Option Value} {tab : List (Str × Bool)}
end
structure ClsA (X : Cx) (es : List Expr) (vs : List V) (cvs : List Value) (tA : TA) : Prop where
  pa : PA X es tA
  run : ∀ σ H Q, Q vs H → tA σ H Q
  un : ∀ us, Vals vs us → us = cvs
theorem ca_nil {X : Cx} : ClsA X [] [] [] tNil := ⟨pa_nil, fun _ _ _ q => q, fun us r => by cases r; rfl⟩
theorem ca_cons {X : Cx} {x : Str} {C : Addr} {p : Pos} {es : List Expr} {vs : List V} {cvs : List Value} {tA : TA} (hm : X.mg x = some (.ref C)) (h : ClsA X es vs cvs tA) (hg : Gl X x := by rfl) (hdb : (x == ("__debug__" : Str)) = false := by decide)
    (he : starEach (.Name x p :: es) X.env = (false, eval (.Name x p) X.env) :: starEach es X.env := by rfl) : ClsA X (.Name x p :: es) (.ref C :: vs) (.ref C :: cvs) (tCons (tC (.ref C)) tA) :=
  ⟨pa_cons (pe_cls hm hg hdb) h.pa he, fun σ H Q q => h.run σ H _ q, fun us r => by
    cases r with
    | cons r1 r2 =>
      cases r1
      rw [h.un _ r2]⟩
theorem kany_cons {K : PySem.W.Frag} {t c : Value} {cs : List Value} {b b' : Bool} (h : PySem.W.kitOne K t c = some b) (h2 : PySem.W.kitAny K t cs = some b') : PySem.W.kitAny K t (c :: cs) = some (b || b') := by
  unfold PySem.W.kitAny
  rw [h]
  cases b with
  | true => rfl
  | false => exact h2
theorem kit_yes {K : PySem.W.Frag} {mg : Str → Option Value} {c : Str} {C D : Addr} (T : ExT K mg c C) (e : PySem.W.subIn K (.ref D) (.ref C) = some true) : PySem.W.kitOne K (.ref D) (.ref C) = some true := kit_ref T e fun _ => rfl
theorem kit_no {K : PySem.W.Frag} {mg : Str → Option Value} {c : Str} {C D : Addr} (T : ExT K mg c C) (e : PySem.W.subIn K (.ref D) (.ref C) = some false) (s : PySem.W.subIn K (.ref D) (.ref D) = some true) : PySem.W.kitOne K (.ref D) (.ref C) = some false := kit_ref T e fun ed => by
  subst ed
  rw [s] at e
  cases e
theorem SE.nvD {K : PySem.W.Frag} {W : Wt} {Δ : List Kd} {te : TE} {g : Gd} {fr : Bool} (h : SE K W Δ te (.new .dk fr) g) : SE K W Δ te (.v true fr) g := fun f ρ σ H Q r q =>
  h f ρ σ H Q r <| by
    cases e : g ρ with
    | bad => rw [e] at q; exact q
    | ex z => rw [e] at q; exact q
    | ok d =>
      rw [e] at q
      intro p H' np s x
      obtain ⟨kvs, es, ed, hp, x⟩ := x
      subst ed
      obtain ⟨f1, f2, f3⟩ := r.fresh np
      have ks : ∀ {kvs : List (Key × V)} {es : List (Dt × Dt)}, KvA K (fun a => FM f Δ σ true fr a ∧ a ≠ p) H' kvs es → kvs.map (fun kv => keyD kv.1) = es.map (fun e => e.1) := fun {kvs es} x => by
        induction x with
        | nil => rfl
        | cons h r ih => rw [List.map_cons, List.map_cons, ih]
      have vs : ∀ {kvs : List (Key × V)} {es : List (Dt × Dt)}, KvA K (fun a => FM f Δ σ true fr a ∧ a ≠ p) H' kvs es → RpA K (FM f Δ σ true fr) H' (kvs.map fun kv => kv.2) (es.map fun e => e.2) := fun {kvs es} x => by
        induction x with
        | nil => exact .nil
        | cons h r ih => exact .cons (h.weak fun _ y => y.1) ih
      exact q _ H' s (.dic hp ⟨fun _ => ⟨f1, f2⟩, fun _ => r.g0 p f3⟩ (ks x) (vs x))
theorem PD.nvD {X : Cx} {K : PySem.W.Frag} {W : Wt} {Δ : List Kd} {e : Expr} {te : TE} {g : Gd} {fr : Bool} (h : PD X K W Δ e te (.new .dk fr) g) : PD X K W Δ e te (.v true fr) g := ⟨h.pe, h.hK, h.se.nvD⟩
end Sim
end T_SimXB
section T_SimXC
set_option Elab.async false
set_option linter.all false
set_option maxRecDepth 100000
namespace Sim
open PySem PySem.Spec L2
open PyProof.Rows hiding St
def spMA (K : PySem.W.Frag) (c : Ct) (n : Nat) (g : List Dt → O Dt) : Sp := fun vs H Q _ => ∃ a vs' d ds' F, vs = .ref a :: vs' ∧ vs.length = n ∧ argK c d = true ∧ ArgAt K H a d ∧ ¬ F a ∧ RpA K F H vs' ds' ∧ (match g (d :: ds') with
  | .ok (.tuple [r, e]) => ∀ v H', (∀ b o, b ≠ a → H b = some o → H' b = some o) → ArgAt K H' a e → Rp K (fun b => F b ∨ H b = none) H' v r → Q v H'
  | _ => False)
def kdMA (c : Ct) (n m : Nat) : List Kd := .own c true :: (List.replicate (n - 1) (.im true) ++ List.replicate (m - n) .no)
theorem r_startMA {K : PySem.W.Frag} {H : Hp} {a : Addr} {vs : List V} {d : Dt} {ds : List Dt} {c : Ct} {n m : Nat} {N : List Str} (hv : vs.length + 1 = n) (hN : N.length = m) (hm : n ≤ m) (hc : isArg c = true) (ha : argK c d = true) (hd : ArgAt K H a d) {F : Addr → Prop} (nF : ¬ F a) (x : RpA K F H vs ds) :
    R K ⟨fun b => if b = a then none else H b, fun b => H b = none ∨ b = a ∨ F b, [], [], some a, [], fun _ h => nomatch h⟩ (kdMA c n m) ((d :: ds) ++ List.replicate (m - (d :: ds).length) .none) (L2.start N (.ref a :: vs)) H := by
  have ld : ds.length + 1 = n := by rw [← x.length]; exact hv
  have hn1 : n - 1 = vs.length := by omega
  have own0 : ∀ (i : Nat) (c' : Ct) (fr' : Bool), (kdMA c n m)[i]? = some (.own c' fr') → i = 0 ∧ c' = c ∧ fr' = true := fun i c' fr' e => by
    cases i with
    | zero => cases e; exact ⟨rfl, rfl, rfl⟩
    | succ i =>
      unfold kdMA at e
      rw [List.getElem?_cons_succ] at e
      rcases List.mem_append.mp (List.mem_of_getElem? e) with h | h
      · cases List.eq_of_mem_replicate h
      · cases List.eq_of_mem_replicate h
  have s0 : (L2.start N (.ref a :: vs))[0]? = some (some (V.ref a)) := rfl
  have ow : ∀ b, Ow (kdMA c n m) (L2.start N (.ref a :: vs)) b → b = a := fun b ⟨i, c', fr', h1, h2⟩ => by
    obtain ⟨rfl, _, _⟩ := own0 i c' fr' h1
    rw [s0] at h2
    cases h2
    rfl
  obtain ⟨o, ho, mo, hw⟩ := owC_of (c' := c) (F := FM ⟨fun b => if b = a then none else H b, fun b => H b = none ∨ b = a ∨ F b, [], [], some a, [], fun _ h => nomatch h⟩ (kdMA c n m) (L2.start N (.ref a :: vs)) true true) (by cases c <;> first | rfl | cases hc) hd ha
  have noSl0 : ∀ (i : Nat) (t : Bool), (kdMA c n m)[i]? ≠ some (.sl t) := fun i t e => by
    cases i with
    | zero => cases e
    | succ i =>
      unfold kdMA at e
      rw [List.getElem?_cons_succ] at e
      rcases List.mem_append.mp (List.mem_of_getElem? e) with h | h
      · cases List.eq_of_mem_replicate h
      · cases List.eq_of_mem_replicate h
  refine ⟨fun b u e => ?_, fun b e => ?_, ?_, ?_, ?_, fun b hb => absurd hb (by simp), fun g hg => absurd hg (by simp), fun i fr' h => ?_, fun i c' fr' h => ?_, fun i c' fr' h h' => ?_, fun a ha => (nomatch ha), fun i t h => absurd h (noSl0 i t)⟩
  · have e : (if b = a then none else H b) = some u := e
    by_cases z : b = a
    · rw [if_pos z] at e; cases e
    · rw [if_neg z] at e; exact e
  · have e : (if b = a then none else H b) = none := e
    by_cases z : b = a
    · exact .inr (.inl z)
    · rw [if_neg z] at e; exact .inl e
  · unfold L2.start kdMA
    simp only [List.length_append, List.length_map, List.length_replicate, List.length_cons, hN]
    omega
  · unfold kdMA
    simp only [List.length_append, List.length_replicate, List.length_cons]
    omega
  · intro i j ci fi cj fj p h1 h2 _ _
    obtain ⟨rfl, _, _⟩ := own0 i ci fi h1
    obtain ⟨rfl, _, _⟩ := own0 j cj fj h2
    rfl
  · cases i with
    | zero => cases h
    | succ i =>
      unfold kdMA at h
      rw [List.getElem?_cons_succ] at h
      by_cases hi : i < n - 1
      · rw [List.getElem?_append_left (by rw [List.length_replicate]; exact hi)] at h
        have efr : fr' = true := by
          have := List.eq_of_mem_replicate (List.mem_of_getElem? h)
          cases this; rfl
        subst efr
        have hi' : i < vs.length := by omega
        obtain ⟨d', h1, h2⟩ := x.get (List.getElem?_eq_getElem hi')
        refine ⟨vs[i], d', ?_, ?_, h2.weak fun b nb => ⟨fun _ => ⟨fun z => nF (ow b z ▸ nb), by simp⟩, fun e => .inr (.inr nb)⟩⟩
        · unfold L2.start
          rw [List.getElem?_append_left (by rw [List.length_map, List.length_cons]; omega), List.getElem?_map, List.getElem?_cons_succ, List.getElem?_eq_getElem hi']
          rfl
        · rw [List.cons_append, List.getElem?_cons_succ, List.getElem?_append_left (by omega)]
          exact h1
      · rw [List.getElem?_append_right (by rw [List.length_replicate]; omega)] at h
        cases List.eq_of_mem_replicate (List.mem_of_getElem? h)
  · obtain ⟨rfl, rfl, rfl⟩ := own0 i c' fr' h
    exact ⟨a, d, s0, rfl, if_pos rfl, hw _ ho⟩
  · obtain ⟨rfl, rfl, rfl⟩ := own0 i c' fr' h
    exact ⟨a, rfl, s0⟩
section
variable {P : Program} {w : World} {K : PySem.W.Frag} {mg : Str → Option Value} {base : Heap} {x qual : Str} {st : Stmt} {fa : Addr} {fd : FuncData} {N ps : List Str} {k n m : Nat} {Δn : List Kd} {g : Gs} {c : Ct}
theorem fn_okMA (F : L2.Fun K x qual st fa fd) (S : FnScope N ps (defScope st)) (hn : ps.length = n) (hm : N.length = m) (hnm : n ≤ m) (hc : isArg c = true)
    (hb : ∀ (cdv : Value) (A : Around) (outer : List Env) (s : Shared) (H : Hp) (E : XK), Room k (A.deeper (envOfC qual (defScope st) s.heap.objs.size fa cdv)) → ∃ ts, BD (cxOf CX0 P w K mg base N qual (defScope st) fa cdv A outer s H E).nox K W0 .m (kdMA c n m) Δn (kdMA c n m) (kdMA c n m) (defBody st) ts g) :
    FnOk P w K mg base CX0 (k + 1) fa fd ps (spMA K c n (fnN m g)) := by
  refine F.ok S (fun vs H Q E h => ?_) (fun cdv A outer s H vs Q E hr h => ?_)
  · obtain ⟨a, vs', d, ds', F, rfl, h1, _⟩ := h
    rw [h1, hn]
  · obtain ⟨a, vs', d, ds', F, rfl, h1, h2, h3, nF, h4, h5⟩ := h
    obtain ⟨ts, B⟩ := hb cdv A outer s H E hr
    refine ⟨ts, B.ps, B.ss _ _ _ H _ (r_startMA (by rw [List.length_cons] at h1; exact h1) hm hnm hc h2 h3 nF h4) ?_⟩
    unfold fnN at h5
    cases e : g ((d :: ds') ++ List.replicate (m - (d :: ds').length) .none) with
    | bad => rw [e] at h5; exact h5.elim
    | ex z => rw [e] at h5; exact h5.elim
    | ok fl =>
      rw [e] at h5
      cases fl with
      | nx ρ => exact h5.elim
      | rt z =>
        unfold PoS
        simp only
        have h5 : (match (O.ok z : O Dt) with
          | .ok (.tuple [r, e]) => ∀ v H', (∀ b o, b ≠ a → H b = some o → H' b = some o) → ArgAt K H' a e → Rp K (fun b => F b ∨ H b = none) H' v r → Q v H'
          | _ => False) := h5
        split at h5
        · rename_i r e ez
          cases ez
          simp only
          refine fun v H' s arg x => h5 v H' (fun b o nb eb => s b o ?_) arg (x.weak fun b fb => ?_)
          · show (if b = a then none else H b) = some o
            rw [if_neg nb]
            exact eb
          · rcases fb.1 with q | q | q
            · exact .inr q
            · exact absurd q fb.2
            · exact .inl q
        · exact h5.elim
      | bk ρ => exact h5.elim
      | ct ρ => exact h5.elim
end
section
variable {K : PySem.W.Frag} {W : Wt} {Δ Δn Δb Δc : List Kd} {ta tb te : TE} {tt tu : TT} {tA : TA} {g : Gd} {ga gb gx : Gx} {gt gu : List Dt → O (Bool × List Dt)} {gA : List Dt → O (List Dt × List Dt)} {k : Rk} {av fr av' fr' : Bool} {L : Lk} {i : Nat} {t u : TS} {g1 g2 : Gs}
theorem sx_callMA {c c' : Ct} {n : Nat} {g : List Dt → O Dt} (hk : Δ[i]? = some (.own c' fr')) (hc : argOf c' = c) (h : SXA K Δ tA true fr gA) : SX K Δ (tCall (spMA K c n g) [] E0 (tCons (tVar i) tA)) (.v true fr) (xCallM c n g i gA) := fun f ρ σ H Q r q => by
  obtain ⟨p, d0, h1, _, _, _⟩ := r.ow i c' fr' hk
  refine ⟨_, h1, h f ρ σ H _ r ?_⟩
  unfold xCallM at q
  obtain ⟨⟨ds, ρ1⟩, e1, q⟩ := bnd_inv' (P := fun o => PoX K f Δ σ (.v true fr) o Q) id (fun _ => id) q
  rw [e1]
  intro vs H1 r1 x1
  obtain ⟨p', d, h1', h2, h3, h4⟩ := r1.ow i c' fr' hk
  rw [h1] at h1'
  cases h1'
  simp only at q
  by_cases hn : ds.length + 1 = n
  · rw [if_pos hn, h2] at q
    simp only at q
    by_cases ha : argK c d = true
    · rw [if_pos ha] at q
      rw [List.append_nil]
      refine ⟨p, vs, d, ds, _, rfl, by rw [List.length_cons, x1.length]; exact hn, ha, argAt_of hc h4 ha, fun z => (z.1 rfl).1 ⟨i, c', fr', hk, h1⟩, x1, ?_⟩
      cases e2 : g (d :: ds) with
      | bad => rw [e2] at q; exact q.elim
      | ex z => rw [e2] at q; exact q.elim
      | ok z =>
        rw [e2] at q
        split at q
        · rename_i r' e ez
          cases ez
          by_cases hae : argK c e = true
          · rw [if_pos hae] at q
            intro v H' keep arg x2
            refine q v H' (r1.argNew hk h1 hc keep arg hae) (x2.weak fun b nb => ?_)
            rcases nb with nb | nb
            · exact nb
            · obtain ⟨f1, f2, f3⟩ := r1.fresh nb
              exact ⟨fun _ => ⟨f1, f2⟩, fun _ => r1.g0 b f3⟩
          · rw [if_neg hae] at q
            exact q.elim
        · exact q.elim
    · rw [if_neg ha] at q
      exact q.elim
  · rw [if_neg hn] at q
    exact q.elim
end
section
variable {X : Cx} {K : PySem.W.Frag} {W : Wt} {Δ Δ1 Δn Δb Δc : List Kd} {a b c e f elt tg iter : Expr} {es ifs : List Expr} {ta tb tc te ti tx : TE} {tt tu : TT} {tA : TA} {g gk gx0 ge gi : Gd} {ga gb gx : Gx} {gt0 : List Dt → O Bool} {gt gu : List Dt → O (Bool × List Dt)} {gA : List Dt → O (List Dt × List Dt)} {gA0 gI : List Dt → O (List Dt)} {k : Rk} {av fr av' fr' av2 fr2 : Bool} {L : Lk} {pos pos' : Pos} {t u : TS} {g1 g2 : Gs} {sts sts2 : List Stmt} {i : Nat}
theorem xd_callMA (i : Nat) {ct c' : Ct} {x y : Str} {p py : Pos} {CXT' : CXT} {kk nn : Nat} {fa : Addr} {fd : FuncData} {ps : List Str} {gg : List Dt → O Dt} (F : FnOk X.prog X.w X.K X.mg X.base CXT' kk fa fd ps (spMA K ct nn gg)) (hr : Room kk X.A) (hm : X.mg x = some (.ref fa)) (hk : PySem.W.keepIn X.K (.ref fa) = true) (hb : Binds X.K fd ps [])
    (hx : Passes CXT' X E0) (h : XAD X K Δ es tA true fr gA) (hi : Δ[i]? = some (.own c' fr') := by rfl) (hc : argOf c' = ct := by rfl) (hN : X.N[i]? = some y := by rfl) (hv : Vis X.env.scope y := by first | exact Or.inl rfl | exact Or.inr (Or.inl rfl) | exact Or.inr (Or.inr rfl)) (hd : (y == ("__debug__" : Str)) = false := by decide) (hcd : (y == ("__classdict__" : Str)) = false := by decide)
    (hg : Gl X x := by rfl) (hdb : (x == ("__debug__" : Str)) = false := by decide) (he : starEach (.Name y py :: es) X.env = (false, eval (.Name y py) X.env) :: starEach es X.env := by rfl) (hpl : (backTo pos (starEach es X.env)).any (·.1) = false := by rfl) :
    XD X K Δ (.Call (.Name x p) (.Name y py :: es) [] pos) (tCall (spMA K ct nn gg) [] E0 (tCons (tVar i) tA)) (.v true fr) (xCallM ct nn gg i gA) := ⟨pe_call F hr hg hm hk hb .nil hx (pa_cons (pe_var hN hv hd hcd) h.pa he) hdb he hpl, h.hK, sx_callMA hi hc h.sa⟩
end
end Sim
end T_SimXC
section T_SimXD
set_option Elab.async false
set_option linter.all false
set_option maxRecDepth 100000
namespace Sim
open PySem PySem.Spec L2
open PyProof.Rows hiding St
section
variable {P : Program} {w : World} {K : PySem.W.Frag} {mg : Str → Option Value} {base : Heap} {x qual : Str} {st : Stmt} {fa : Addr} {fd : FuncData} {N ps : List Str} {k n m : Nat} {Δn : List Kd} {g : Gs} {dvs : List V} {kws : List (Str × V)}
end
end Sim
end T_SimXD
section T_SimXE
set_option Elab.async false
set_option linter.all false
set_option maxRecDepth 100000
namespace Sim
open PySem PySem.Spec L2
open PyProof.Rows hiding St
section
variable {K : PySem.W.Frag} {W : Wt} {Δ Δb Δc : List Kd} {te ta tb : TE} {g ga gb : Gd} {fr fr' av' : Bool} {L : Lk} {i : Nat}
end
section
variable {X : Cx} {K : PySem.W.Frag} {W : Wt} {L : Lk} {Δ Δb Δc : List Kd} {a b e : Expr} {ta tb te : TE} {ga gb g : Gd} {fr fr' av' : Bool} {pos : Pos}
end
end Sim
end T_SimXE
section T_SimFz
set_option Elab.async false
set_option linter.all false
set_option maxRecDepth 100000
namespace Sim
open PySem PySem.Spec L2
open PyProof.Rows hiding St
def unfz : Dt → Option (List Dt)
  | .dict [(.bool true, .list xs)] => some xs
  | _ => none
theorem unfz_eq {d : Dt} {xs : List Dt} (h : unfz d = some xs) : d = frzD xs := by
  unfold unfz at h
  split at h
  · cases h; rfl
  · cases h
section
variable {K : PySem.W.Frag} {W : Wt} {Δ : List Kd} {F : Addr → Prop} {H : Hp} {te ta tb : TE} {g ga gb : Gd} {av fr av' fr' : Bool} {tl th : TOp} {gl gh : List Dt → O (Option Int)}
theorem Rp.sqF {v : V} {d : Dt} {xs : List Dt} (x : Rp K F H v d) (h : unfz d = some xs) : ∃ a ys, v = .ref a ∧ SqL K H a ys ∧ RpA K F H ys xs := by
  rw [unfz_eq h] at x
  cases x with
  | fz h r => exact ⟨_, _, rfl, h.sql, r⟩
  | @dic a kvs es h fa hk r =>
    cases kvs with
    | nil => cases hk
    | cons kv kvs =>
      obtain ⟨k, w⟩ := kv
      rw [List.map_cons, List.map_cons] at hk
      injection hk with h1 h2
      cases k <;> cases h1
end
section
variable {X : Cx} {K : PySem.W.Frag} {W : Wt} {Δ : List Kd} {a b e tg : Expr} {es : List Expr} {te ta tb : TE} {tA : TA} {g ga gb : Gd} {gA : List Dt → O (List Dt)} {av fr av' fr' : Bool} {pos : Pos}
end
end Sim
end T_SimFz
section T_SimSl
set_option Elab.async false
set_option linter.all false
set_option maxRecDepth 100000
namespace Sim
open PySem PySem.Spec L2
open PyProof.Rows hiding St
section
variable {K : PySem.W.Frag} {f : Fm} {Δ Δn Δb Δc : List Kd} {ρ : List Dt} {σ : L2.St} {H H1 : Hp} {i : Nat} {v : V} {d : Dt} {W : Wt} {L : Lk}
def SEn (K : PySem.W.Frag) (W : Wt) (Δ : List Kd) (te : TE) (g : Gd) : Prop := ∀ f ρ σ H Q, R K f Δ ρ σ H → (match g ρ with
  | .bad => False
  | .ex e => ∀ H', Same H H' → W e σ H'
  | .ok d => ∀ v H', Same H H' → Rp K (fun a => H a = none) H' v d → Q v H') → te σ H Q
theorem SEn.se {te : TE} {g : Gd} (h : SEn K W Δ te g) : SE K W Δ te (.v true true) g := fun f ρ σ H Q r q => h f ρ σ H Q r <| by
  cases e : g ρ with
  | bad => rw [e] at q; exact q
  | ex z => rw [e] at q; exact q
  | ok d =>
    rw [e] at q
    refine fun v H' s x => q v H' s (x.weak fun a na => ?_)
    obtain ⟨f1, f2, f3⟩ := r.fresh na
    exact ⟨fun _ => ⟨f1, f2⟩, fun _ => r.g0 a f3⟩
def noSl (Δ : List Kd) : Bool := Δ.all fun k => match k with
  | .sl _ => false
  | _ => true
end
end Sim
end T_SimSl
section T_SimSm
set_option Elab.async false
set_option linter.all false
set_option maxRecDepth 100000
namespace Sim
open PySem PySem.Spec L2
open PyProof.Rows hiding St
section
variable {K : PySem.W.Frag} {f : Fm} {Δ Δn Δb Δc : List Kd} {ρ : List Dt} {σ : L2.St} {H H1 : Hp} {i w : Nat} {v : V} {d : Dt} {W : Wt} {L : Lk} {p : Addr}
end
section
variable {X : Cx} {K : PySem.W.Frag} {W : Wt} {Δ Δn Δb Δc : List Kd} {e : Expr} {es : List Expr} {te : TE} {tA : TA} {g : Gd} {pos pos' : Pos} {L : Lk} {sts : List Stmt} {u : TS} {gb : Gs}
end
end Sim
end T_SimSm
section T_SimCl
set_option Elab.async false
set_option linter.all false
set_option maxRecDepth 100000
namespace Sim
open PySem PySem.Spec L2
open PyProof.Rows hiding St
section
variable {X : Cx} {e : Expr} {es : List Expr} {ta : TA} {p p1 p2 pos : Pos}
theorem pe_clsinit {pl : Sem Bool} {x : Str} {P : Addr} (hm : X.mg x = some (.ref P)) (R : ClX.CRead X.K P (.type "type")) (vV : PySem.W.findCls X.K (.ref P) (.type "type") "__init__" = some (.val (.builtin "ValueError.__init__"))) (ha : PA X (e :: es) ta)
    (hg : Gl X x := by rfl) (hdb : (x == ("__debug__" : Str)) = false := by decide)
    (hc : eval (.Call (.Attribute (.Name x p1) "__init__" p2) (e :: es) [] pos) X.env = (do
      let ov ← eval (.Name x p1) X.env
      standAt p2.atName
      let (f, first) ← holding [ov] (getMethod ov "__init__" pl)
      callWith pos f first (backTo pos (starEach (e :: es) X.env)) (backToKw pos (keywordEach [] X.env))) := by rfl)
    (he : starEach (e :: es) X.env = (false, eval e X.env) :: starEach es X.env := by rfl) (hpl : (backTo pos (starEach es X.env)).any (·.1) = false := by rfl) :
    PE X (.Call (.Attribute (.Name x p1) "__init__" p2) (e :: es) [] pos) (tVeI X.K ta) := by
  refine ⟨fun pins s σ H Q I h => ?_⟩
  refine PySem.W.methodCall_KW (ld_glob I hg hm ?_ hdb) hc
  refine PySem.W.method_cls I.kIn R.ga (PySem.W.cls_value I.kIn R.rd vV (by decide +kernel) ?_)
  show wpAny _ _ (callWith pos (Value.builtin "ValueError.__init__") [] (backTo pos (starEach (e :: es) X.env)) []) _ _ _
  refine PyProof.Rows.callWith_method1 (thn (ha.run pos pins _ σ H _ (I.tok _) h) fun us s1 ⟨vs, H1, I1, r1, a, C, ws, ev, hl, T, ea, q⟩ => ?_) he hpl
  subst ev
  cases r1 with
  | @cons _ u0 _ ur ra rw' =>
    obtain rfl : u0 = Value.ref a := ra
    have hlen : ur.length ≤ sizeLine := by
      rw [← Paired.length rw', sizeLine_eq]
      omega
    exact oinit_ok T I1 ea hlen fun s' J => ⟨.non, H1, J, rfl, q⟩
end
def spMomK (K : PySem.W.Frag) : Sp := fun vs H Q _ => ∃ (a C : Addr) (v : V), vs = [.ref a, v] ∧ OexC K C ∧ PySem.W.findIn K (.ref C) "moment" = some none ∧ H a = some (exo a C none) ∧ ∀ dx, H dx = none → dx ≠ a → Q .non (upd (upd H dx (exd dx [("moment", v)])) a (exo a C (some dx)))
structure ExI (P : Program) (w : World) (K : PySem.W.Frag) (mg : Str → Option Value) (base : Heap) (c : Str) (C : Addr) : Prop where
  T : ExT K mg c C
  O : OexC K C
  hno : PySem.W.findIn K (.ref C) "moment" = some none
  f : ∃ fI fd, PySem.W.findIn K (.ref C) "__init__" = some (some (.ref fI)) ∧ PySem.W.typeIn K (.ref fI) = some (.type "function") ∧ FnOk P w K mg base CX0 1 fI fd ["self", "moment"] (spMomK K) ∧ Binds K fd ["self", "moment"] []
theorem pmkN_oex {X : Cx} {e : Expr} {es : List Expr} {ta : TA} {p pos : Pos} {CX : CXT} {x : Str} {C fI : Addr} {k : Nat} {fd : FuncData} {ps : List Str} {sp : Sp} {ds : List Value} {dvs : List V} (T : OexC X.K C) (iC : PySem.W.findIn X.K (.ref C) "__init__" = some (some (.ref fI))) (tI : PySem.W.typeIn X.K (.ref fI) = some (.type "function"))
    (F1 : FnOk X.prog X.w X.K X.mg X.base CX k fI fd ps sp) (hr : Room (k + 1) X.A) (hb : Binds X.K fd ps ds) (hd : Vals dvs ds) (hx : Passes CX X (fun _ _ _ => False)) (hg : Gl X x) (hm : X.mg x = some (.ref C)) (ha : PA X (e :: es) ta)
    (hdb : (x == ("__debug__" : Str)) = false := by decide) (he : starEach (e :: es) X.env = (false, eval e X.env) :: starEach es X.env := by rfl) (hpl : (backTo pos (starEach es X.env)).any (·.1) = false := by rfl) :
    L2N.PMk X (.Call (.Name x p) (e :: es) [] pos) (tMkO C sp dvs ta) := by
  intro pins s σ H Q I h
  obtain ⟨nm, q, N, bs, bm, sn, sub, ab, col, dd, k0, k1, k2, k3, k5, hC, hbm⟩ := T.cls
  refine wpAny_Call_Name_kw (ld_glob I hg hm ?_ hdb)
  refine PySem.W.callWith_K (h₀ := X.base) I.ok.mod.kin T.kC (thn (ha.run pos pins s σ H _ I h) fun us s1 ⟨vs, H1, I1, r1, hz, q1⟩ => ⟨I1.kIn, ?_⟩) he hpl
  show wpAny _ _ (call (.ref C) us) _ _ _
  obtain ⟨hp, g, dr, tk, os⟩ := s1
  have hsz : hp.objs.size ≤ hp.objs.size + 1 := Nat.le_succ _
  have hn : H1 (hp.objs.size + 1) = none := I1.hok.fresh hsz
  have hq := q1 (hp.objs.size + 1) hn
  have kk : ∀ b o, hp.get? b = some o → ((hp.push (PySem.W.kdv_tup us)).push (PySem.HandSPX.excO C hp.objs.size)).get? b = some o := fun b o e => Heap.get?_push_of_some _ (Heap.get?_push_of_some _ e)
  have hget : ((hp.push (PySem.W.kdv_tup us)).push (PySem.HandSPX.excO C hp.objs.size)).get? (hp.objs.size + 1) = some (PySem.HandSPX.excO C hp.objs.size) := by heap_get
  have I2 : Inv X pins σ (upd H1 (hp.objs.size + 1) (exo (hp.objs.size + 1) C none)) ⟨(hp.push (PySem.W.kdv_tup us)).push (PySem.HandSPX.excO C hp.objs.size), g, dr, tk, os⟩ :=
    I1.laid (t' := tk) (a := hp.objs.size + 1) (o := exo (hp.objs.size + 1) C none) (h' := (hp.push (PySem.W.kdv_tup us)).push (PySem.HandSPX.excO C hp.objs.size)) kk hsz (exo_ok hget)
  have r2 : Vals (V.ref (hp.objs.size + 1) :: (vs ++ dvs)) (Value.ref (hp.objs.size + 1) :: (us ++ ds)) := .cons rfl (r1.append hd)
  have hl : (Value.ref (hp.objs.size + 1) :: us ++ ds).length = ps.length := by
    have e := r2.length
    rw [F1.len _ _ _ _ hq] at e
    exact e.symm
  have hus : us.length ≤ sizeLine := by
    rw [← Paired.length r1, sizeLine_eq]
    omega
  refine wpAny_call (PySem.HandSPX.call_own F.excBase_ValueError (fun Y => PySem.HandSPX.refsVE_contains Y bm hbm) (I1.kIn _ _ hC) (PySem.W.looks_findIn I1.kIn iC) (fun self => PySem.W.bind_fn I1.kIn self tI) hus
    (codeAny_mono (F1.run _ X.stack _ _ ⟨Value.ref (hp.objs.size + 1) :: us, []⟩ (Value.ref (hp.objs.size + 1) :: (us ++ ds)) _ _ (fun _ _ _ => False) (hr.make C us []) (I2.env0.make C us []) (hb _ (Value.ref (hp.objs.size + 1) :: us) I2.kIn hl) r2 hq) fun r s' hq' => ?_))
  cases r with
  | error er => exact hx pins σ _ _ er s' I2 hq'
  | ok fl =>
    cases fl with
    | ret u =>
      obtain ⟨v, H2, os2, bare2, un2, hok2, rv, ev, d, fs, ea, ed, hd1, q2⟩ := hq'
      subst ev
      obtain ⟨h2, g2, d2, t2, os'⟩ := s'
      obtain ⟨t0, G, J, kG, ge, hoe, na⟩ := mk_end0 (d2 := d2) (t2 := t2) I1 hsz kk un2 hok2 os2 bare2 ea ed hd1
      exact ⟨rv, _, _, _, ⟨G, g2, d2, t2, os'⟩, _, .ref C, some d, rfl, J, kG, ge, hoe, ⟨rfl, rfl, fun vs e => by cases e; rfl⟩, rfl, rfl, na, rfl, bare2, raises_own T.exC T.tyC, q2⟩
    | next => exact False.elim hq'
    | brk => exact False.elim hq'
    | cont => exact False.elim hq'
def gRaise1 (c : Str) (g : Gd) : Gs := fun ρ => match g ρ with
  | .ok (.int i) => .ex ⟨c, some i⟩
  | _ => .bad
theorem z_raise1 {X : Cx} {K : PySem.W.Frag} {L : Lk} {Δ Δn Δb Δc : List Kd} {Wx : WX} {mg : Str → Option Value} {c : Str} {C : Addr} {e : Expr} {te : TE} {g : Gd} {av fr : Bool} {p pos pos' : Pos} (tk : L2N.Takes X Wx) (T : ExI X.prog X.w X.K X.mg X.base c C) (hr : Room 2 X.A)
    (h : PD X K (wtOf mg Wx) Δ e te (.v av fr) g)
    (hmg : X.mg = mg := by rfl) (hc : X.calm = true := by rfl) (hg : Gl X c := by rfl) (hdb : (c == ("__debug__" : Str)) = false := by decide)
    (he : starEach [e] X.env = (false, eval e X.env) :: starEach [] X.env := by rfl) (hpl : (backTo pos (starEach [] X.env)).any (·.1) = false := by rfl) :
    SD X K (wtOf mg Wx) L Δ Δn Δb Δc (.Raise (some (.Call (.Name c p) [e] [] pos)) none pos') (fun _ σ H => tMkO C (spMomK K) [] (tCons te tNil) σ H fun cls d H' => Wx cls d σ H') (gRaise1 c g) := by
  have hK := h.hK
  subst hK hmg
  obtain ⟨fI, fd, iC, tI, F, B⟩ := T.f
  refine ⟨L2N.ps_raise hc tk (pmkN_oex (CX := CX0) T.O iC tI F hr B .nil pass0 hg T.T.g (pa_cons h.pe pa_nil he) hdb he hpl), rfl, fun f ρ σ H E r q => ?_⟩
  refine h.se f ρ σ H _ r ?_
  unfold gRaise1 at q
  cases e1 : g ρ with
  | bad => rw [e1] at q; exact q.elim
  | ex z => rw [e1] at q; exact q.elim
  | ok d =>
    rw [e1] at q
    intro v H1 s1 x1
    cases d with
    | int i =>
      have ev : v = .int i := by cases x1; rfl
      subst ev
      refine ⟨by simp, fun a na => ⟨a, C, .int i, rfl, T.O, T.hno, upd_same, fun dx ndx ne => ?_⟩⟩
      have ndx1 : H1 dx = none := by rw [upd_ne ne] at ndx; exact ndx
      refine ⟨rfl, dx, _, upd_same, by rw [upd_ne ne, upd_same], ndx1, ?_⟩
      refine q σ (upd (del _ a) dx (.xd [("moment", .int i)])) (r.ext.trans fun b o hb => ?_) C T.T.g dx upd_same
      have h1 := s1 b o hb
      have n1 : b ≠ a := fun z => by rw [z, na] at h1; cases h1
      have n2 : b ≠ dx := fun z => by rw [z, ndx1] at h1; cases h1
      rw [upd_ne n2, del_ne n1, upd_ne n1, upd_ne n2, upd_ne n1]
      exact h1
    | _ => exact q.elim
theorem rp_exnM {K : PySem.W.Frag} {F : Addr → Prop} {H : Hp} {v : V} {c : Str} {z : Dt} (x : Rp K F H v (.dict [(.none, .str c), (.none, z)])) : ∃ a C d m, v = .ref a ∧ z = exnM m ∧ PySem.W.nsIn K mainGlobals c = some (some (.ref C)) ∧ H a = some (ExH (.ref C) d a) ∧ XdAt H d m := by
  generalize ed : PyData.dict [(.none, .str c), (.none, z)] = d at x
  cases x with
  | dic h fa hk r =>
    rename_i a kvs es
    injection ed with ed
    subst ed
    cases kvs with
    | nil => cases hk
    | cons kv kvs =>
      rw [List.map_cons, List.map_cons] at hk
      injection hk with h1 h2
      obtain ⟨k, w⟩ := kv
      cases k <;> cases h1
  | exn n h hx =>
    rename_i a C cls d m
    injection ed with ed
    injection ed with e1 e2
    injection e1 with _ e1
    injection e1 with e1
    injection e2 with e2 _
    injection e2 with _ e2
    subst e1
    exact ⟨a, C, d, m, rfl, e2, n, h, hx⟩
  | _ => cases ed
def rIsY (K : PySem.W.Frag) : List V → Hp → VK → Prop := fun xs H Q => ∃ (a D : Addr) (d : Option Addr) (m : Option Int) (c : V) (cv : Value) (b : Bool), xs = [.ref a, c] ∧ H a = some (ExH (.ref D) d a) ∧ XdAt H d m ∧ ExcC K D ∧ (∀ u, RelV c u → u = cv) ∧ PySem.W.kitOne K (.ref D) cv = some b ∧ Q (.bl b) H
theorem inst_at {X : Cx} {pins : List (Addr × Obj)} {σ : L2.St} {H : Hp} {s : Shared} {a D : Addr} {d : Option Addr} {m : Option Int} (I : Inv X pins σ H s) (ha : H a = some (ExH (.ref D) d a)) (hx : XdAt H d m) : ∃ (oe : Obj) (od : Option Obj), PySem.W.InstAt s.heap a oe D od := by
  obtain ⟨⟨oe, vs, ho, hz, hv⟩, _, _⟩ := I.hok a _ ha
  cases m with
  | none =>
    have hx : d = none := hx
    subst hx
    refine ⟨oe, none, ?_⟩
    obtain ⟨oc, od, oda, osl⟩ := oe
    obtain ⟨h1, h2, _⟩ := hz
    dsimp only at h1 h2 hv
    subst h1 h2 hv
    exact ⟨ho, rfl, rfl, trivial⟩
  | some i =>
    obtain ⟨dd, rfl, hd⟩ := hx
    have hx : ObjOk X.prog X.w H s.heap dd (.xd [("moment", .int i)]) := I.hok dd _ hd
    obtain ⟨mA, hns, hr⟩ := hx
    obtain ⟨od, ho2, hl⟩ := lookIn_ns hns
    exact ⟨oe, some od, ho, hz.1, by unfold PySem.W.notCls; rw [hv] <;> rfl, by rw [hz.2.1]; exact ho2⟩
theorem call_isY {X : Cx} : CallR X (.builtin "isinstance") (rIsY X.K) := by
  intro pins s σ H xs us Q I r h
  obtain ⟨a, D, d, m, c, cv, b, rfl, ha, hx, C, hcv, e, q⟩ := h
  cases r with
  | cons rx rr =>
    cases rr with
    | cons rt rr =>
      cases rr
      cases rx
      have ec := hcv _ rt
      subst ec
      obtain ⟨oe, od, J⟩ := inst_at I ha hx
      have hcl : (PySem.W.clsIn X.K D).isSome = true := by
        obtain ⟨cd, hc, _⟩ := PySem.W.any_some C.hd
        rw [hc]; rfl
      exact PySem.W.kia_one (PySem.W.kitx_exc hcl C.hg C.hk C.hs C.ha C.hn C.ht C.hm) I.kIn J e (fun z => nomatch z) fun tk => ⟨.bl b, H, I.kept (t' := tk) fun _ _ z => z, rfl, q⟩
def hIsY (tab : List (Str × Bool)) : Dt → O Dt := fun d => match d with
  | .dict [(.none, .str c), (.none, _)] => (match isxTab tab c with
    | some b => .ok (.bool b)
    | none => .bad)
  | _ => .bad
theorem tab_at {K : PySem.W.Frag} {tab : List (Str × Bool)} {ans : Addr → Option Bool} {cn : Str} {b : Bool} {C : Addr} (ht : TabOk K tab ans) (et : isxTab tab cn = some b) (hn : PySem.W.nsIn K mainGlobals cn = some (some (.ref C))) : ExcC K C ∧ ans C = some b := by
  unfold isxTab at et
  obtain ⟨p, ep, eb⟩ := Option.map_eq_some_iff.mp et
  have h1 := List.mem_of_find?_eq_some ep
  have h2 := List.find?_some ep
  have h2 : p.1 = cn := by simpa using h2
  obtain ⟨D, k1, k2, k3⟩ := ht p h1
  rw [h2, hn] at k1
  cases k1
  subst eb
  exact ⟨k2, k3⟩
theorem se_isY {K : PySem.W.Frag} {W : Wt} {Δ : List Kd} {te : TE} {g : Gd} {av fr : Bool} {c : V} {cv : Value} {tab : List (Str × Bool)} (hcv : ∀ u, RelV c u → u = cv) (ht : TabOk K tab fun D => PySem.W.kitOne K (.ref D) cv) (ha : SE K W Δ te (.v av fr) g) :
    SE K W Δ (tCB (rIsY K) (tCons te (tCons (tC c) tNil))) (.v true true) (gUn (hIsY tab) g) := fun f ρ σ H Q R q => by
  refine ha f ρ σ H _ R ?_
  unfold gUn at q
  cases e1 : g ρ with
  | bad => rw [e1] at q; exact q
  | ex z => rw [e1] at q; exact q
  | ok d =>
    rw [e1, bnd_ok] at q
    intro v H1 s1 x1
    unfold hIsY at q
    split at q
    · rename_i cn z
      obtain ⟨a, C, d, m, rfl, _, hn, hp, hx⟩ := rp_exnM x1
      cases et : isxTab tab cn with
      | none => rw [et] at q; exact q.elim
      | some b =>
        rw [et] at q
        obtain ⟨k2, k3⟩ := tab_at ht et hn
        exact ⟨a, C, d, m, c, cv, b, rfl, hp, hx, k2, hcv, k3, q _ H1 s1 (.bl _)⟩
    · exact q.elim
section
variable {X : Cx} {K : PySem.W.Frag} {W : Wt} {Δ : List Kd} {e : Expr} {te : TE} {g : Gd} {av fr : Bool} {pos p p2 : Pos} {mg : Str → Option Value} {tab : List (Str × Bool)}
theorem x_isY {x : Str} {C : Addr} (hm : X.mg "isinstance" = none) (hx : X.mg x = some (.ref C)) (ht : TabOk K tab fun D => PySem.W.kitOne K (.ref D) (.ref C)) (h : PD X K W Δ e te (.v av fr) g) (hg2 : Gl X x := by rfl) (hdb : (x == ("__debug__" : Str)) = false := by decide)
    (hg : Gl X "isinstance" := by rfl)
    (he : starEach [e, .Name x p2] X.env = (false, eval e X.env) :: starEach [.Name x p2] X.env := by rfl) (he2 : starEach [.Name x p2] X.env = (false, eval (.Name x p2) X.env) :: starEach [] X.env := by rfl) (hpl : (backTo pos (starEach [.Name x p2] X.env)).any (·.1) = false := by rfl) :
    PD X K W Δ (.Call (.Name "isinstance" p) [e, .Name x p2] [] pos) (tCB (rIsY K) (tCons te (tCons (tC (.ref C)) tNil))) (.v true true) (gUn (hIsY tab) g) :=
  ⟨pe_callB (by have q := call_isY (X := X); rw [h.hK] at q; exact q) hg hm (by decide +kernel) (pa_cons h.pe (pa_cons (pe_cls hx hg2 hdb) pa_nil he2) he) (by decide) (by decide) he hpl, h.hK, se_isY (fun u r => by cases r; rfl) ht h.se⟩
end
def rIsYT (K : PySem.W.Frag) (cvs : List Value) : List V → Hp → VK → Prop := fun xs H Q => ∃ (a D t : Addr) (d : Option Addr) (m : Option Int) (cs : List V) (b : Bool), xs = [.ref a, .ref t] ∧ H a = some (ExH (.ref D) d a) ∧ XdAt H d m ∧ H t = some (.tup cs) ∧ ExcC K D ∧ (∀ us, Vals cs us → us = cvs) ∧ PySem.W.kitAny K (.ref D) cvs = some b ∧ Q (.bl b) H
theorem call_isYT {X : Cx} {cvs : List Value} : CallR X (.builtin "isinstance") (rIsYT X.K cvs) := by
  intro pins s σ H xs us Q I r h
  obtain ⟨a, D, t, d, m, cs, b, rfl, ha, hx, ht, C, hcv, e, q⟩ := h
  cases r with
  | cons rx rr =>
    cases rr with
    | cons rt rr =>
      cases rr
      cases rx
      cases rt
      obtain ⟨oe, od, J⟩ := inst_at I ha hx
      obtain ⟨_, its, rv, ot, hot, hc, n, hdt⟩ := I.hok t _ ht
      have ev := hcv _ rv
      subst ev
      obtain ⟨otc, otd, otdata, otsl⟩ := ot
      dsimp only at hc hdt
      subst hc hdt
      have hcl : (PySem.W.clsIn X.K D).isSome = true := by
        obtain ⟨cd, hc, _⟩ := PySem.W.any_some C.hd
        rw [hc]; rfl
      exact PySem.W.kia_tup (PySem.W.kitx_exc hcl C.hg C.hk C.hs C.ha C.hn C.ht C.hm) I.kIn J hot e (fun z => nomatch z) fun tk => ⟨.bl b, H, I.kept (t' := tk) fun _ _ z => z, rfl, q⟩
theorem se_isYT {K : PySem.W.Frag} {W : Wt} {Δ : List Kd} {te : TE} {tA : TA} {g : Gd} {av fr : Bool} {vs : List V} {cvs : List Value} {tab : List (Str × Bool)} (hrun : ∀ σ H Q, Q vs H → tA σ H Q) (hlen : vs.length ≤ 100000) (hcv : ∀ us, Vals vs us → us = cvs)
    (ht : TabOk K tab fun D => PySem.W.kitAny K (.ref D) cvs) (ha : SE K W Δ te (.v av fr) g) : SE K W Δ (tCB (rIsYT K cvs) (tCons te (tCons (tTup tA) tNil))) (.v true true) (gUn (hIsY tab) g) := fun f ρ σ H Q R q => by
  refine ha f ρ σ H _ R ?_
  unfold gUn at q
  cases e1 : g ρ with
  | bad => rw [e1] at q; exact q
  | ex z => rw [e1] at q; exact q
  | ok d =>
    rw [e1, bnd_ok] at q
    intro v H1 s1 x1
    unfold hIsY at q
    split at q
    · rename_i cn z
      obtain ⟨a, C, d, m, rfl, _, hn, hp, hx⟩ := rp_exnM x1
      cases et : isxTab tab cn with
      | none => rw [et] at q; exact q.elim
      | some b =>
        rw [et] at q
        obtain ⟨k2, k3⟩ := tab_at ht et hn
        refine hrun _ _ _ ⟨sz_le hlen, fun t nt => ?_⟩
        exact ⟨a, C, t, d, m, vs, b, rfl, same_upd nt _ _ hp, hx.same (same_upd nt), upd_same, k2, hcv, k3, q _ _ (s1.trans (same_upd nt)) (.bl _)⟩
    · exact q.elim
section
variable {X : Cx} {K : PySem.W.Frag} {W : Wt} {Δ : List Kd} {e : Expr} {es : List Expr} {te : TE} {tA : TA} {g : Gd} {av fr : Bool} {pos p p2 : Pos} {k2 : Nat} {vs : List V} {cvs : List Value} {tab : List (Str × Bool)}
theorem x_isYT (hm : X.mg "isinstance" = none) (hc : ClsA X es vs cvs tA) (ht : TabOk K tab fun D => PySem.W.kitAny K (.ref D) cvs)
    (h : PD X K W Δ e te (.v av fr) g) (hlen : vs.length ≤ 100000 := by exact Nat.le_of_ble_eq_true rfl) (hg : Gl X "isinstance" := by rfl)
    (he : starEach [e, .Tuple es k2 p2] X.env = (false, eval e X.env) :: starEach [.Tuple es k2 p2] X.env := by rfl) (he2 : starEach [.Tuple es k2 p2] X.env = (false, eval (.Tuple es k2 p2) X.env) :: starEach [] X.env := by rfl) (hpl : (backTo pos (starEach [.Tuple es k2 p2] X.env)).any (·.1) = false := by rfl) :
    PD X K W Δ (.Call (.Name "isinstance" p) [e, .Tuple es k2 p2] [] pos) (tCB (rIsYT K cvs) (tCons te (tCons (tTup tA) tNil))) (.v true true) (gUn (hIsY tab) g) :=
  ⟨pe_callB (by have q := call_isYT (X := X) (cvs := cvs); rw [h.hK] at q; exact q) hg hm (by decide +kernel) (pa_cons h.pe (pa_cons (pe_tup hc.pa) pa_nil he2) he) (by decide) (by decide) he hpl, h.hK, se_isYT hc.run hlen hc.un ht h.se⟩
theorem x_isYB {x : Str} {T : String} (hm : X.mg "isinstance" = none) (hm2 : X.mg x = none) (ht : TabOk K tab fun D => PySem.W.kitOne K (.ref D) (.type T)) (h : PD X K W Δ e te (.v av fr) g) (hv : bootBuiltins x = some (.type T) := by decide +kernel) (hg2 : Gl X x := by rfl) (hn : x ≠ "__name__" := by decide) (hdb : (x == ("__debug__" : Str)) = false := by decide)
    (hg : Gl X "isinstance" := by rfl)
    (he : starEach [e, .Name x p2] X.env = (false, eval e X.env) :: starEach [.Name x p2] X.env := by rfl) (he2 : starEach [.Name x p2] X.env = (false, eval (.Name x p2) X.env) :: starEach [] X.env := by rfl) (hpl : (backTo pos (starEach [.Name x p2] X.env)).any (·.1) = false := by rfl) :
    PD X K W Δ (.Call (.Name "isinstance" p) [e, .Name x p2] [] pos) (tCB (rIsY K) (tCons te (tCons (tC (.ty T)) tNil))) (.v true true) (gUn (hIsY tab) g) :=
  ⟨pe_callB (by have q := call_isY (X := X); rw [h.hK] at q; exact q) hg hm (by decide +kernel) (pa_cons h.pe (pa_cons (pe_bltn hg2 hm2 hv rfl hn hdb) pa_nil he2) he) (by decide) (by decide) he hpl, h.hK, se_isY (fun u r => r) ht h.se⟩
end
def tXm (K : PySem.W.Frag) (te : TE) : TE := fun σ H Q => te σ H fun x H1 => ∃ (a C dd : Addr) (i : Int), x = .ref a ∧ XfC K C ∧ PySem.W.findIn K (.ref C) "moment" = some none ∧ H1 a = some (ExH (.ref C) (some dd) a) ∧ H1 dd = some (.xd [("moment", .int i)]) ∧ Q (.int i) H1
theorem pe_xm {X : Cx} {e : Expr} {te : TE} {pos : Pos} (he : PE X e te) (hb : attributeBase e "moment" X.env (eval e X.env) = eval e X.env := by rfl) : PE X (.Attribute e "moment" pos) (tXm X.K te) := by
  refine ⟨fun pins s σ H Q I h => ?_⟩
  refine attr_of hb (thn (he.run pins s σ H _ I h) fun u s1 hh => ?_)
  obtain ⟨x, H1, I1, rx, a, C, dd, i, ex, T, hno, ha, ea, q⟩ := hh
  subst ex
  obtain rfl : u = Value.ref a := rx
  obtain ⟨⟨oe, vs, ho, hz, hv⟩, _, _⟩ := I1.hok a _ ha
  have hx : ObjOk X.prog X.w H1 s1.heap dd (.xd [("moment", .int i)]) := I1.hok dd _ ea
  obtain ⟨mA, hns, hr⟩ := hx
  obtain ⟨od, ho2, hl⟩ := lookIn_ns hns
  obtain ⟨u, hu, ru⟩ := RelO.some_of (v := V.int i) (o := mA "moment") (hr "moment")
  have J : PySem.W.InstAt s1.heap a oe C (some od) := ⟨ho, hz.1, by unfold PySem.W.notCls; rw [hv] <;> rfl, by rw [hz.2.1]; exact ho2⟩
  exact HandSPX.exc_get I1.kIn J T.ga T.gg T.exC (PySem.W.findObj_own T.hdC hno rfl (by rw [hl, hu])) (handed_of ru) ⟨_, H1, I1.tok _, ru, q⟩
def hMom (c : Str) : Dt → O Dt := fun d => match d with
  | .dict [(.none, .str c'), (.none, .int i)] => if c' = c then .ok (.int i) else .bad
  | _ => .bad
theorem se_xm {K : PySem.W.Frag} {W : Wt} {Δ : List Kd} {te : TE} {g : Gd} {av fr : Bool} {mg : Str → Option Value} {c : Str} {C : Addr} (T : ExT K mg c C) (hno : PySem.W.findIn K (.ref C) "moment" = some none) (ha : SE K W Δ te (.v av fr) g) :
    SE K W Δ (tXm K te) (.v true true) (gUn (hMom c) g) := fun f ρ σ H Q R q => by
  refine ha f ρ σ H _ R ?_
  unfold gUn at q
  cases e1 : g ρ with
  | bad => rw [e1] at q; exact q
  | ex z => rw [e1] at q; exact q
  | ok d =>
    rw [e1, bnd_ok] at q
    intro v H1 s1 x1
    unfold hMom at q
    split at q
    · rename_i cn i
      by_cases ec : cn = c
      · subst ec
        rw [if_pos rfl] at q
        obtain ⟨a, C', d, m, rfl, em, hn, hp, hx⟩ := rp_exnM x1
        rw [T.n] at hn
        cases hn
        cases m with
        | none => cases em
        | some j =>
          cases em
          obtain ⟨dd, rfl, hd⟩ := hx
          exact ⟨a, C, dd, i, rfl, ⟨T.x.hg, T.x.hk, T.x.hs, T.x.hd⟩, hno, hp, hd, q _ H1 s1 (.int _)⟩
      · rw [if_neg ec] at q
        exact q.elim
    · exact q.elim
theorem x_mom {X : Cx} {K : PySem.W.Frag} {W : Wt} {Δ : List Kd} {e : Expr} {te : TE} {g : Gd} {av fr : Bool} {pos : Pos} {mg : Str → Option Value} {c : Str} {C : Addr} (T : ExT K mg c C) (hno : PySem.W.findIn K (.ref C) "moment" = some none) (h : PD X K W Δ e te (.v av fr) g)
    (hb : attributeBase e "moment" X.env (eval e X.env) = eval e X.env := by rfl) : PD X K W Δ (.Attribute e "moment" pos) (tXm K te) (.v true true) (gUn (hMom c) g) := by
  have hK := h.hK
  subst hK
  exact ⟨pe_xm h.pe hb, rfl, se_xm T hno h.se⟩
theorem init_pure {K : PySem.W.Frag} {vs : List V} {H : Hp} {Q : VK} {E : XK} {z : Str} (h : spMomK K vs H Q E) :
    tSeq (tDrop (tVeI K (tCons (tVar 0) (tCons (tC (.str z)) tNil)))) (tOst K "moment" (tVar 0) (tVar 1)) { nx := fun _ H' => Q .non H', rt := Q } (start ["self", "moment"] vs) H := by
  obtain ⟨a, C, v, rfl, T, hno, ha, q⟩ := h
  exact ⟨.ref a, rfl, a, C, [.str z], rfl, Nat.le_of_ble_eq_true rfl, T, ha, ⟨v, rfl, .ref a, rfl, a, C, rfl, T, hno, .inl ⟨ha, q⟩⟩⟩
section
variable {X : Cx} {K : PySem.W.Frag} {W : Wt} {Δ : List Kd} {pos p : Pos}
end
def clsS (s : Stmt) (i : Nat) : Stmt := (match s with
  | .ClassDef (body := b) .. => b
  | _ => []).getD i (.Pass ⟨0, 0, 0, 0⟩)
end Sim
end T_SimCl
section T_SimHo
set_option Elab.async false
set_option linter.all false
set_option maxRecDepth 100000
namespace Sim
open PySem PySem.Spec L2
open PyProof.Rows hiding St
open HotX
def HotA (H : Hp) (a : Addr) : Prop := ∃ cls d, H a = some (ExH cls d a)
theorem HotA.same {H H' : Hp} {a : Addr} (h : HotA H a) (e : Same H H') : HotA H' a := let ⟨c, d, q⟩ := h; ⟨c, d, e _ _ q⟩
section
variable {X : Cx} {tg : Expr}
end
section
variable {X : Cx} {K : PySem.W.Frag} {W : Wt} {Δ Δ1 Δn Δb Δc : List Kd} {a : Addr} {e elt tg : Expr} {es ifs : List Expr} {te : TE} {tt : TT} {tA : TA} {g ge : Gd} {gt : List Dt → O Bool} {gA : List Dt → O (List Dt)} {av fr fr' : Bool} {k : Rk} {L : Lk} {pos p : Pos} {t u : TS} {g1 g2 : Gs} {st : Stmt} {sts : List Stmt}
def SSh (a : Addr) (K : PySem.W.Frag) (W : Wt) (L : Lk) (Δ Δn Δb Δc : List Kd) (ts : TS) (g : Gs) : Prop := ∀ f ρ σ H E, HotA f.H0 a → R K f Δ ρ σ H → PoS K W L f Δn Δb Δc (g ρ) E → ts E σ H
structure BDh (a : Addr) (X : Cx) (K : PySem.W.Frag) (W : Wt) (L : Lk) (Δ Δn Δb Δc : List Kd) (sts : List Stmt) (ts : TS) (g : Gs) : Prop where
  ps : PSs X sts ts
  hK : X.K = K
  ss : SSh a K W L Δ Δn Δb Δc ts g
theorem BDh.frm (Δ1 : List Kd) (h : BDh a X K W L Δ1 Δn Δb Δc sts t g1) (l : leA Δ Δ1 = true := by rfl) : BDh a X K W L Δ Δn Δb Δc sts t g1 := ⟨h.ps, h.hK, fun f ρ σ H E hh r q => h.ss f ρ σ H E hh (r.weak l) q⟩
end
section
variable {P : Program} {w : World} {K : PySem.W.Frag} {mg : Str → Option Value} {base : Heap} {x qual : Str} {st : Stmt} {fa : Addr} {fd : FuncData} {N ps : List Str} {k n m : Nat} {Δn : List Kd} {g : Gs}
end
end Sim
end T_SimHo
section T_SimTg
set_option Elab.async false
set_option linter.all false
set_option maxRecDepth 100000
namespace Sim
open PySem PySem.Spec L2
open PyProof.Rows hiding St
section
variable {X : Cx} {body : List Stmt} {h₀ : ExceptHandler} {hds : List ExceptHandler} {l : List (Value × Option Nat × (Addr → TS))} {pos : Pos} {tb : WX → TS} {Wout : WX}
end
abbrev HdC := List Str × List Str × Option Nat × Gs
def SSs (a : Addr) (K : PySem.W.Frag) (W : Wt) (L : Lk) (Δ Δn Δb Δc : List Kd) (ts : TS) (g : Gs) : Prop := ∀ f ρ σ H E, HotA H a → R K f Δ ρ σ H → PoS K W L f Δn Δb Δc (g ρ) E → ts E σ H
structure BDs (a : Addr) (X : Cx) (K : PySem.W.Frag) (W : Wt) (L : Lk) (Δ Δn Δb Δc : List Kd) (sts : List Stmt) (ts : TS) (g : Gs) : Prop where
  ps : PSs X sts ts
  hK : X.K = K
  ss : SSs a K W L Δ Δn Δb Δc ts g
section
variable {K : PySem.W.Frag} {W : Wt} {L : Lk} {Δ Δ1 Δn Δb Δc : List Kd} {te : TE} {tt : TT} {t u : TS} {g : Gd} {gt : List Dt → O Bool} {ga gb gh : Gs} {fr av : Bool} {k : Rk} {mg : Str → Option Value} {f : Fm} {ρ : List Dt} {σ : L2.St} {H : Hp}
end
section
variable {X : Cx} {K : PySem.W.Frag} {W : Wt} {L : Lk} {Δ Δ1 Δn Δb Δc : List Kd} {mg : Str → Option Value} {ts : TS} {t : Addr → TS} {g gh gb : Gs} {pos pos' np : Pos} {hds : List ExceptHandler} {h₀ : ExceptHandler} {l : List (Value × Option Nat × (Addr → TS))} {lc : List HdC} {b₀ : Stmt} {suite body sts : List Stmt} {x n : Str} {C : Addr} {yes nos : List Str}
theorem BDs.to {a : Addr} (Δn' : List Kd) (h : BDs a X K W L Δ Δn Δb Δc sts ts g) (l : leA Δn Δn' = true := by rfl) : BDs a X K W L Δ Δn' Δb Δc sts ts g := ⟨h.ps, h.hK, fun f ρ σ H E hh r q => h.ss f ρ σ H E hh r <| by
  cases e : g ρ with
  | bad => rw [e] at q; exact q
  | ex z => rw [e] at q; exact q
  | ok fl =>
    rw [e] at q
    cases fl with
    | nx ρ' => exact fun σ' H' r' => q σ' H' (r'.weak l)
    | rt d => exact q
    | bk ρ' => exact q
    | ct ρ' => exact q⟩
end
theorem set_rt {i : Nat} {g : Gd} {ρ ρ' : List Dt} {d : Dt} (h : g ρ = .ok d) (e : ρ.set i d = ρ' := by rfl) : gSet i g ρ = .ok (.nx ρ') := by
  unfold gSet
  rw [h, bnd_ok, e]
end Sim
end T_SimTg
section T_SimSk
set_option Elab.async false
set_option linter.all false
set_option maxRecDepth 100000
namespace Sim
open PySem PySem.Spec L2
open PyProof.Rows hiding St
open PySem.W (alike alikeAll dataLe AllAlike Sortable EachIs keyH_end KeepsBut KeyedOut keyedOut_each SortsAt dataKind copyHeap copyHeap_at copyHeap_old sorted_of_sort)
section
variable {K : PySem.W.Frag} {F F' : Addr → Prop} {H H' : Hp} {q : Addr}
end
section
variable {X : Cx} {pins : List (Addr × Obj)} {σ : L2.St} {H : Hp} {s : Shared}
end
section
variable {X : Cx} {K : PySem.W.Frag} {W : Wt} {Δ : List Kd} {e : Expr} {tA : TA} {gA : List Dt → O (List Dt)} {fr : Bool} {pos : Pos}
end
section
variable {X : Cx} {K : PySem.W.Frag} {W : Wt} {Δ : List Kd} {e : Expr} {es : List Expr} {tA : TA} {gA : List Dt → O (List Dt)} {fr : Bool} {pos : Pos}
end
end Sim
end T_SimSk
section T_SimDp
set_option Elab.async false
set_option linter.all false
set_option maxRecDepth 100000
namespace Sim
open PySem PySem.Spec L2
open PyProof.Rows hiding St
section
variable {K : PySem.W.Frag} {F : Addr → Prop} {H : Hp}
end
section
variable {K : PySem.W.Frag} {W : Wt} {Δ : List Kd} {tA : TA} {gA : List Dt → O (List Dt)} {fr : Bool}
end
section
variable {X : Cx} {K : PySem.W.Frag} {W : Wt} {Δ : List Kd} {e : Expr} {es : List Expr} {tA : TA} {gA : List Dt → O (List Dt)} {fr : Bool} {pos : Pos}
end
end Sim
end T_SimDp
section T_SimTs
set_option Elab.async false
set_option linter.all false
set_option maxRecDepth 100000
namespace Sim
open PySem PySem.Spec L2
open PyProof.Rows hiding St
section
variable {K : PySem.W.Frag} {W : Wt} {Δ : List Kd}
end
section
variable {X : Cx} {K : PySem.W.Frag} {W : Wt} {Δ : List Kd} {e : Expr} {es : List Expr} {tA : TA} {gA : List Dt → O (List Dt)} {av fr : Bool} {pos : Pos}
end
end Sim
end T_SimTs
section T_SimSt
set_option Elab.async false
set_option linter.all false
set_option maxRecDepth 100000
set_option maxHeartbeats 2000000
namespace Sim
open PySem PySem.Spec L2
open PyProof.Rows hiding St
def okStr (d : Dt) : Bool := (match d with | .list _ => true | .tuple _ => true | _ => false) && PyData.canLay0 d && !PyData.hasDict d && PyData.showable d && decide (d.depth ≤ 60) && decide (d.shown.length ≤ sizeLine)
def rStr (K : PySem.W.Frag) : List V → Hp → VK → Prop := fun xs H Q => ∃ x d, xs = [x] ∧ Dp K H x d ∧ okStr d = true ∧ Q (.str d.shown) H
section
variable {X : Cx} {K : PySem.W.Frag} {W : Wt} {Δ : List Kd} {e : Expr} {es : List Expr} {tA : TA} {gA : List Dt → O (List Dt)} {av fr : Bool} {pos : Pos}
theorem call_str {m : Nat} (hg : X.A.guards = some []) (hr : Room m X.A) : CallR X (.type "str") (rStr X.K) := by
  intro pins s σ H vs us Q I r ⟨x, d, e, hx, ok, q⟩
  subst e
  cases r with
  | cons r1 r2 =>
    cases r2
    obtain ⟨as, rd⟩ := Dp.reads I d _ _ hx r1
    have c := ok
    unfold okStr at c
    simp only [Bool.and_eq_true, decide_eq_true_eq] at c
    obtain ⟨⟨⟨⟨⟨c1, c2⟩, c3⟩, c4⟩, c5⟩, c6⟩ := c
    have nd : d.hasDict = true → sysModules ∉ as := fun z => by rw [z] at c3; exact absurd c3 (by decide)
    have un := hr.un
    have go : ∀ a, PySem.Reads s.heap (.ref a) d as → wpAny (model X.prog X.w) X.A (call (.type "str") [.ref a]) (EP X pins σ Q) X.xe s := fun a rd =>
      str_of_reads rd c4 nd hg (by omega) (fun _ _ e => e) (fun h' u tk hk => ⟨.str d.shown, H, I.kept hk, ⟨u, rfl⟩, q⟩) c6
    cases hx with
    | lst _ _ => cases r1; exact go _ rd
    | tup _ _ => cases r1; exact go _ rd
    | non => exact absurd c1 (by simp)
    | bl _ => exact absurd c1 (by simp)
    | int _ => exact absurd c1 (by simp)
    | str _ => exact absurd c1 (by simp)
end
structure FnG (P : Program) (w : World) (K : PySem.W.Frag) (mg : Str → Option Value) (base : Heap) (k : Nat) (f : Addr) (fd : FuncData) (ps : List Str) (sp : Sp) : Prop where
  len : ∀ vs H Q E, sp vs H Q E → vs.length = ps.length
  run : ∀ (A : Around) (outer : List Env) (s : Shared) (H : Hp) (args : Args) (us : List Value) (vs : List V) (Q : VK) (E : XK), A.guards = some [] → Room k A → Env0 P w K mg base A outer s H → BindsTo s fd args (ps.zip us) → Vals vs us → sp vs H Q E →
    codeAny (model P w) A (.call (.ref f) args) (CR CX0 outer P w H s Q E) s
theorem fn_ofG {P : Program} {w : World} {K : PySem.W.Frag} {mg : Str → Option Value} {base : Heap} {x qual : Str} {st : Stmt} {f : Addr} {fd : FuncData} {N ps : List Str} {k : Nat} {sp : Sp} (F : L2.Fun K x qual st f fd) (S : FnScope N ps (defScope st)) (len : ∀ vs H Q E, sp vs H Q E → vs.length = ps.length)
    (hb : ∀ (cdv : Value) (A : Around) (outer : List Env) (s : Shared) (H : Hp) (vs : List V) (Q : VK) (E : XK), A.guards = some [] → Room k (A.deeper (envOfC qual (defScope st) s.heap.objs.size f cdv)) → sp vs H Q E →
      ∃ t, PSs (cxOf CX0 P w K mg base N qual (defScope st) f cdv A outer s H E).nox (defBody st) t ∧ t { nx := fun _ H' => Q .non H', rt := Q } (L2.start N vs) H) : FnG P w K mg base (k + 1) f fd ps sp := by
  obtain ⟨oc, od, kV, doc, pm, an, cdv, ct, osl, rfl, lk, hcd⟩ := F.ex
  refine ⟨len, fun A outer s H args us vs Q E gd hr en bn rv hs => ?_⟩
  obtain ⟨t, tp, tq⟩ := hb cdv A outer s H vs Q E gd (hr.deeper _) hs
  have inb : ∀ b o, base.get? b = some o → s.heap.get? b = some o := fun b o e => (en.bs b o e).1
  have kin : K.In s.heap := en.mod.kin.keeps inb
  refine codeAny_call_function hr.depth (kin _ _ lk) rfl S.co S.gen rfl (PySem.W.codeRec_of kin hcd) (bn _ _ _ _ (wpAny_newFunctionEnv_cells S.kind (fun y hy => ?_) fun env he s1 z => ?_))
  · obtain ⟨nm, v⟩ := y
    exact (S.par nm (List.of_mem_zip hy).1).imp id fun q => ⟨q, PySem.W.cellsFrom_some _ _ _ (.inl q)⟩
  · subst he
    refine ⟨(en.mod.nolimit.keeps inb).keeps z.toInCall.keep, codeAny_func (wpAny_mono (tp.nox.run [] s1 (L2.start N vs) H _ (inv_start S hr.hd en (len _ _ _ _ hs) rv z) tq) (fun fl s' y => ?_) fun _ _ y => y)⟩
    cases fl with
    | ret u => obtain ⟨v, _, H', J, r, q⟩ := y; exact ⟨v, H', J.os, J.bare, J.base, J.hok, r, q⟩
    | next => obtain ⟨_, H', J, q⟩ := y; exact ⟨.non, H', J.os, J.bare, J.base, J.hok, rfl, q⟩
    | brk => obtain ⟨_, _, _, q⟩ := y; exact q.elim
    | cont => obtain ⟨_, _, _, q⟩ := y; exact q.elim
section
variable {P : Program} {w : World} {K : PySem.W.Frag} {mg : Str → Option Value} {base : Heap} {x qual : Str} {st : Stmt} {fa : Addr} {fd : FuncData} {N ps : List Str} {k n m : Nat} {Δn : List Kd} {g : Gs}
theorem fn_okNG (F : L2.Fun K x qual st fa fd) (S : FnScope N ps (defScope st)) (hn : ps.length = n) (hm : N.length = m) (hnm : n ≤ m)
    (hb : ∀ (cdv : Value) (A : Around) (outer : List Env) (s : Shared) (H : Hp) (E : XK), A.guards = some [] → Room k (A.deeper (envOfC qual (defScope st) s.heap.objs.size fa cdv)) → ∃ ts, BD (cxOf CX0 P w K mg base N qual (defScope st) fa cdv A outer s H E).nox K W0 .n (kd0 n m false) Δn (kd0 n m false) (kd0 n m false) (defBody st) ts g) :
    FnG P w K mg base (k + 1) fa fd ps (spG K mg n (fnN m g)) := by
  refine fn_ofG F S (fun vs H Q E h => ?_) (fun cdv A outer s H vs Q E gd hr h => ?_)
  · obtain ⟨ds, h1, _⟩ := h
    rw [h1, hn]
  · obtain ⟨ds, h1, h2, h3⟩ := h
    obtain ⟨ts, B⟩ := hb cdv A outer s H E gd hr
    refine ⟨ts, B.ps, B.ss ⟨H, fun a => H a = none, [], [], none, [], fun _ h => nomatch h⟩ _ _ H _ (r_start h1 hm hnm h2 (fun _ h => h) (fun e => nomatch e)) ?_⟩
    unfold fnN at h3
    cases e : g (ds ++ List.replicate (m - ds.length) .none) with
    | bad => rw [e] at h3; exact h3.elim
    | ex z => rw [e] at h3; exact h3.elim
    | ok fl =>
      rw [e] at h3
      cases fl with
      | nx ρ => exact fun σ' H' r => h3 .non H' r.ext .non
      | rt d => exact fun v H' s x => h3 v H' s x
      | bk ρ => exact h3.elim
      | ct ρ => exact h3.elim
end
section
variable {P : Program} {w : World} {K : PySem.W.Frag} {mg mb : Str → Option Value} {k : Nat} {fa a : Addr} {fd : FuncData} {s₁ : Shared} {vs : List Value} {ns : List Int} {g : List Dt → O Dt}
theorem law_runG {H : Hp} {ob : Obj} {xs : List V} (KX : K.In s₁.heap) (hns : s₁.heap.Ns mainGlobals mg) (hb : s₁.heap.Ns builtinsNs mb) (hbb : ∀ x : Str, x ≠ "__name__" → mb x = bootBuiltins x) (hlim : s₁.heap.NoLimit) (hg : s₁.gens = #[])
    (hr : Room k callerA) (F : ∀ base : Heap, K.In base → base.Ns mainGlobals mg → FnG P w K mg base k fa fd ["script"] (spG K mg 1 g)) (hbind : ∀ (s : Shared) (u : Value), BindsTo s fd ⟨[u], []⟩ [("script", u)])
    (hH : ∀ b u, H b = some u → b = a ∧ u = .frz ob (.lst xs)) (hob : s₁.heap.get? a = some ob) (hnd : ∀ es ep, ob.data ≠ .dict es ep) (hKa : ∀ u, H a = some u → K.lookup a = none) (hok : HOk P w H s₁.heap) (hS : SqL K H a (ns.map V.int)) (ht : g [frzD (ns.map .int)] = .ok (.bool true)) :
    codeAny (model P w) callerA (.call (.ref fa) ⟨[.ref a], []⟩) (fun r s' => r = .ok (.ret (.bool true)) ∧ OldK s₁.heap s'.heap ∧ s'.os = s₁.os ∧ AllBare s'.gens) s₁ := by
  have free : ∀ b o, s₁.heap.get? b = some o → (H b = none ∨ (b = a ∧ o = ob ∧ H b = some (.frz ob (.lst xs)))) := fun b o e => by
    cases q : H b with
    | none => exact .inl rfl
    | some u =>
      obtain ⟨rfl, rfl⟩ := hH b u q
      rw [hob] at e
      cases e
      exact .inr ⟨rfl, rfl, rfl⟩
  have dict : ∀ {b : Addr} {m : Str → Option Value}, s₁.heap.Ns b m → (hidT s₁.heap H).Ns b m := fun {b m} ⟨o, es, ep, e, d, r⟩ => by
    rcases free b o e with z | ⟨_, rfl, _⟩
    · exact ⟨o, es, ep, hidT_get e z, d, r⟩
    · exact absurd d (hnd es ep)
  have kin : K.In (hidT s₁.heap H) := fun b o e => by
    rcases free b o (KX b o e) with z | ⟨rfl, _, z⟩
    · exact hidT_get (KX b o e) z
    · rw [hKa _ z] at e
      cases e
  have md : L2.Mod K mg (hidT s₁.heap H) := ⟨kin, dict hns, ⟨mb, dict hb, hbb⟩, by obtain ⟨mc, h1, h2⟩ := hlim; exact ⟨mc, dict h1, h2⟩⟩
  have en : Env0 P w K mg (hidT s₁.heap H) callerA [] s₁ H := ⟨rfl, md, fun b o e => of_hidT e, Nat.le_of_eq (hidT_size _ _), trivial, fun b z => (by cases z), hok, .of_eq hg⟩
  have rp : RpA K (fun _ => True) H [V.ref a] [frzD (ns.map .int)] := by
    refine .cons (.fz ?_ (rpA_ints ns)) .nil
    rcases hS with (h | ⟨o, h⟩) | h
    · obtain ⟨_, z⟩ := hH _ _ h
      cases z
    · exact .inl ⟨o, h⟩
    · exact .inr h
  have sp : spG K mg 1 g [.ref a] H (fun v _ => v = .bl true) (fun _ _ _ => False) := ⟨_, rfl, rp, by
    rw [ht]
    intro v H' s x
    cases x
    rfl⟩
  refine codeAny_mono ((F _ kin (dict hns)).run callerA [] s₁ H ⟨[.ref a], []⟩ [.ref a] [.ref a] _ _ rfl hr en (hbind s₁ (.ref a)) (.cons rfl .nil) sp) fun r s' y => ?_
  cases r with
  | error e => exact False.elim y
  | ok fl =>
    cases fl with
    | next => exact False.elim y
    | brk => exact False.elim y
    | cont => exact False.elim y
    | ret u =>
      obtain ⟨v, H', os, bare, un, hok', rv, q⟩ := y
      subst q
      cases rv
      refine ⟨rfl, OldK.of_keep fun b o e => ?_, os, bare⟩
      rcases free b o e with z | ⟨rfl, rfl, z⟩
      · exact un.keep b o e z (fun z => by cases z) (fun z => by cases z)
      · exact (hok' _ _ (un.frzs _ _ _ z)).1
theorem law_callG (KX : K.In s₁.heap) (hns : s₁.heap.Ns mainGlobals mg) (hb : s₁.heap.Ns builtinsNs mb) (hbb : ∀ x : Str, x ≠ "__name__" → mb x = bootBuiltins x) (hlim : s₁.heap.NoLimit) (hg : s₁.gens = #[])
    (ha : s₁.heap.get? a = some { cls := .type "list", data := .seq vs.toArray }) (hi : IntsAre vs ns) (hl : ns.length ≤ sizeLine) (hr : Room k callerA)
    (F : ∀ base : Heap, K.In base → base.Ns mainGlobals mg → FnG P w K mg base k fa fd ["script"] (spG K mg 1 g)) (hbind : ∀ (s : Shared) (u : Value), BindsTo s fd ⟨[u], []⟩ [("script", u)]) (ht : g [frzD (ns.map .int)] = .ok (.bool true)) :
    codeAny (model P w) callerA (.call (.ref fa) ⟨[.ref a], []⟩) (fun r s' => r = .ok (.ret (.bool true)) ∧ OldK s₁.heap s'.heap ∧ s'.os = s₁.os ∧ AllBare s'.gens) s₁ := by
  have rv := vals_ints hi
  have nd : ∀ es ep, (({ cls := .type "list", data := .seq vs.toArray } : Obj).data) ≠ .dict es ep := fun es ep z => by
    have z2 : Data.seq vs.toArray _ = Data.dict es ep := z
    cases z2
  by_cases hk : K.lookup a = none
  · refine law_runG (H := fun b => if b = a then some (.frz { cls := .type "list", data := .seq vs.toArray } (.lst (ns.map V.int))) else none) (ob := { cls := .type "list", data := .seq vs.toArray }) (xs := ns.map V.int) KX hns hb hbb hlim hg hr F hbind (fun b u z => ?_) ha nd (fun _ _ => hk) (fun b u z => ?_) (.inl (.inr ⟨_, if_pos rfl⟩)) ht
    · by_cases c : b = a
      · rw [if_pos c] at z
        cases z
        exact ⟨c, rfl⟩
      · rw [if_neg c] at z
        cases z
    · dsimp only at z
      by_cases c : b = a
      · rw [if_pos c] at z
        cases z
        subst c
        exact ⟨ha, by rw [List.length_map]; exact hl, vs, _, rv, ha⟩
      · rw [if_neg c] at z
        cases z
  · obtain ⟨o, e⟩ := Option.ne_none_iff_exists'.mp hk
    have e2 := KX a o e
    rw [ha] at e2
    cases e2
    exact law_runG (H := fun _ => none) (ob := { cls := .type "list", data := .seq vs.toArray }) (xs := []) KX hns hb hbb hlim hg hr F hbind (fun b u z => nomatch z) ha nd (fun _ z => nomatch z) (fun b u z => nomatch z)
      (.inr ⟨_, vs.toArray, _, e, rfl, rfl, rfl, by rw [List.size_toArray, hi.length]; exact hl, by simpa using rv⟩) ht
end
theorem walk_ofG {l : PySem.W.OpenLaw} {n k : Nat} {q : Program} {loose : List Str} {XP : (Str → Option Value) → Heap → Prop} {YP : World → Heap → Prop} {d : DefRec} {K : Params → PySem.W.Frag} {g : List Dt → O Dt}
    (hn : l.most = some n) (hn2 : n ≤ sizeLine) (hdf : d.params.defaults = []) (hr : Room k callerA) (hY : ∀ (w : World) (h : Heap), YP w h → (K w.params).In h)
    (F : ∀ (w : World) (mg : Str → Option Value) (fa : Addr) (h : Heap), (K w.params).In h → h.Ns mainGlobals mg → mg d.name = some (.ref fa) →
      ∃ fd : FuncData, (∀ (s : Shared) (u : Value), BindsTo s fd ⟨[u], []⟩ [("script", u)]) ∧ ∀ base : Heap, (K w.params).In base → base.Ns mainGlobals mg → FnG l.prog w (K w.params) mg base k fa fd ["script"] (spG (K w.params) mg 1 g))
    (ht : ∀ ns : List Int, ns.length ≤ n → (∀ z ∈ ns, Builtin.Int.intBits z ≤ 1048576) → g [frzD (ns.map .int)] = .ok (.bool true)) :
    PySem.W.WalkO q loose XP YP l.row.toRowW d [] (fun f vs => PySem.call f vs) := by
  refine Att.attach_callB hn hdf fun w s₀ s₁ mg mb fa o pm cd doc a vs ns G Y ho hd hcd hmg hobj hints hlen hbits hg => ?_
  have KX := hY w _ Y
  obtain ⟨fd, hb, hF⟩ := F w mg fa _ KX G.T.g hmg
  exact law_callG KX G.T.g G.T.b G.T.builtins G.T.nolimit hg hobj hints (Nat.le_trans hlen hn2) hr hF hb (ht ns hlen hbits)
end Sim
end T_SimSt
section T_SimSg
set_option Elab.async false
set_option linter.all false
set_option maxRecDepth 100000
namespace Sim
open PySem PySem.Spec L2
open PyProof.Rows hiding St
section
variable {X : Cx} {K : PySem.W.Frag} {W : Wt} {Δ : List Kd} {e : Expr} {es : List Expr} {t tA : TA} {gA0 : List Dt → O (List Dt)} {gA : List Dt → O (List Dt × List Dt)} {av fr : Bool} {pos p : Pos} {k : Nat} {f : Addr} {fd : FuncData} {ps : List Str} {sp : Sp} {x : Str}
theorem pe_callG (F : FnG X.prog X.w X.K X.mg X.base k f fd ps sp) (gd : X.A.guards = some []) (hr : Room k X.A) (hg : Gl X x) (hm : X.mg x = some (.ref f)) (hk : PySem.W.keepIn X.K (.ref f) = true) (hb : Binds X.K fd ps []) (ha : PA X (e :: es) t)
    (hdb : (x == ("__debug__" : Str)) = false := by decide) (he : starEach (e :: es) X.env = (false, eval e X.env) :: starEach es X.env := by rfl) (hpl : (backTo pos (starEach es X.env)).any (·.1) = false := by rfl) : PE X (.Call (.Name x p) (e :: es) [] pos) (tCall sp [] E0 t) :=
  ⟨fun pins s σ H Q I h => wpAny_Call_Name_kw (ld_glob I hg hm (PySem.W.callWith_K (h₀ := X.base) I.ok.mod.kin hk (thn (ha.run pos pins s σ H _ I h) fun us s1 ⟨vs, H1, I1, r, q⟩ => ⟨I1.kIn, by
    have q : sp (vs ++ []) H1 Q E0 := q
    rw [List.append_nil] at q
    have hl : us.length = ps.length := by rw [← r.length]; exact F.len _ _ _ _ q
    have b := hb s1 us I1.kIn (by rw [List.append_nil]; exact hl)
    rw [List.append_nil] at b
    refine wpAny_call (codeAny_mono (F.run X.A X.stack s1 H1 ⟨us, []⟩ us vs Q E0 gd hr I1.env0 b r q) fun o s' y => ?_)
    cases o with
    | error z => exact False.elim y
    | ok fl =>
      cases fl with
      | ret u => exact I1.after y
      | next => exact False.elim y
      | brk => exact False.elim y
      | cont => exact False.elim y⟩) he hpl) hdb)⟩
theorem x_callNG {nn : Nat} {gg : List Dt → O Dt} {mg : Str → Option Value} (gd : X.A.guards = some []) (F : FnG X.prog X.w X.K X.mg X.base k f fd ps (spG K mg nn gg)) (hr : Room k X.A) (hm : X.mg x = some (.ref f)) (hk : PySem.W.keepIn X.K (.ref f) = true) (hb : Binds X.K fd ps [])
    (h : AD X K W Δ (e :: es) tA av fr gA0) (hg : Gl X x := by rfl) (hdb : (x == ("__debug__" : Str)) = false := by decide) (he : starEach (e :: es) X.env = (false, eval e X.env) :: starEach es X.env := by rfl) (hpl : (backTo pos (starEach es X.env)).any (·.1) = false := by rfl) :
    PD X K W Δ (.Call (.Name x p) (e :: es) [] pos) (tCall (spG K mg nn gg) [] E0 tA) (.v true true) (gCallN nn gg gA0) := ⟨pe_callG F gd hr hg hm hk hb h.pa hdb he hpl, h.hK, se_callN h.sa⟩
theorem xd_callNG {nn : Nat} {gg : List Dt → O Dt} {mg : Str → Option Value} (gd : X.A.guards = some []) (F : FnG X.prog X.w X.K X.mg X.base k f fd ps (spG K mg nn gg)) (hr : Room k X.A) (hm : X.mg x = some (.ref f)) (hk : PySem.W.keepIn X.K (.ref f) = true) (hb : Binds X.K fd ps [])
    (h : XAD X K Δ (e :: es) tA av fr gA) (hg : Gl X x := by rfl) (hdb : (x == ("__debug__" : Str)) = false := by decide) (he : starEach (e :: es) X.env = (false, eval e X.env) :: starEach es X.env := by rfl) (hpl : (backTo pos (starEach es X.env)).any (·.1) = false := by rfl) :
    XD X K Δ (.Call (.Name x p) (e :: es) [] pos) (tCall (spG K mg nn gg) [] E0 tA) (.v true true) (xCallN nn gg gA) := ⟨pe_callG F gd hr hg hm hk hb h.pa hdb he hpl, h.hK, sx_callN h.sa⟩
end
end Sim
end T_SimSg
section T_SimMg
set_option Elab.async false
set_option linter.all false
set_option maxRecDepth 100000
namespace Sim
open PySem PySem.Spec L2
open PyProof.Rows hiding St
section
variable {P : Program} {w : World} {K : PySem.W.Frag} {mg : Str → Option Value} {base : Heap} {x qual : Str} {st : Stmt} {fa : Addr} {fd : FuncData} {N ps : List Str} {k n m : Nat} {Δn : List Kd} {g : Gs} {c : Ct}
end
section
variable {X : Cx} {K : PySem.W.Frag} {Δ : List Kd} {es : List Expr} {tA : TA} {gA : List Dt → O (List Dt × List Dt)} {fr' : Bool} {pos : Pos}
end
end Sim
end T_SimMg
section T_SimSe
set_option Elab.async false
set_option linter.all false
set_option maxRecDepth 100000
set_option maxHeartbeats 2000000
namespace PySem
section
variable {prog : Program} {w : World} {h₀ : Heap} {a : Addr} {o : Obj} {vs : Array Value} {n : Nat} {xs : List PyData} {as : List Addr}
theorem call_items (h1 : h₀.get? a = some o) (h2 : o.cls = .type "list") (h3 : o.data = .seq vs n) (hr : ReadsAll h₀ vs.toList xs as) {bs : List Addr} (hb : ReadAtMost h₀ (PyData.depthAll xs) bs) (hk : ReprAllK prog w bs h₀ (PyData.depthAll xs) vs.toList (PyData.shownAll xs)) (hz : (PyData.list xs).shown.length ≤ sizeLine)
    (A : Around) (E : Value → Shared → Prop) (s : Shared) (Q : Value → Shared → Prop) (hg : A.guards = some []) (hu : A.units + (PyData.list xs).depth < cLine) (hk0 : ∀ b o, h₀.get? b = some o → s.heap.get? b = some o)
    (hQ : ∀ h' u tk, (∀ b o, s.heap.get? b = some o → h'.get? b = some o) → Q (.str (PyData.list xs).shown u) { s with heap := h', toks := tk }) : wpAny (model prog w) A (call (.builtin "list.__repr__") [.ref a]) Q E s := by
  have hz' : (listText (PyData.shownAll xs)).length ≤ sizeLine := by simpa only [PyData.shown] using hz
  have hna : a ∉ bs := not_mem_of_deeper (.list h1 h2 h3 hr) (by simp only [PyData.depth]; omega) hb
  simp only [PyData.depth] at hu
  simp only [PyData.shown] at hQ
  obtain ⟨l⟩ := vs
  cases l with
  | nil =>
    have hr' : ReadsAll h₀ [] xs _ := hr
    cases hr'
    simp only [PyData.shownAll, listText_nil] at hQ
    exact call_list_repr_empty ⟨o, hk0 _ _ h1, h2⟩ (hk0 _ _ h1) h3 (hQ s.heap _ _ fun _ _ e => e)
  | cons x l => exact call_list_reprK h1 h2 h3 hna (by simpa using hk.length_eq) (fun i y e => hk.item i y (by simpa using e)) hg (fun b _ => Clear.nil b) hu hk0 hQ hz'
theorem str_items (h1 : h₀.get? a = some o) (h2 : o.cls = .type "list") (h3 : o.data = .seq vs n) (hr : ReadsAll h₀ vs.toList xs as) (hk : ∀ (prog : Program) (w : World), ∃ bs, ReadAtMost h₀ (PyData.depthAll xs) bs ∧ ReprAllK prog w bs h₀ (PyData.depthAll xs) vs.toList (PyData.shownAll xs)) (hz : (PyData.list xs).shown.length ≤ sizeLine)
    {A : Around} {E : Value → Shared → Prop} {s : Shared} {Q : Value → Shared → Prop} (hg : A.guards = some []) (hu : A.units + ((PyData.list xs).depth + 3) < cLine) (hk0 : ∀ b o, h₀.get? b = some o → s.heap.get? b = some o)
    (hQ : ∀ h' u tk, (∀ b o, s.heap.get? b = some o → h'.get? b = some o) → Q (.str (PyData.list xs).shown u) { s with heap := h', toks := tk }) : wpAny (model prog w) A (call (.type "str") [.ref a]) Q E s :=
  callType_new F.called_str (by decide) (F.typeCall_str_1 _) (F.newCall_str_1 _) (fun obj => F.args_object_init_2 obj _) F.entry_str_new
    (meets_str_new (S := fun A' R s' => A'.guards = some [] ∧ A'.units + ((PyData.list xs).depth + 2) < cLine ∧ (∀ b o, h₀.get? b = some o → s'.heap.get? b = some o) ∧
        ∀ h' u tk, (∀ b o, s'.heap.get? b = some o → h'.get? b = some o) → R (.ok (.ret (.str (PyData.list xs).shown u))) { s' with heap := h', toks := tk })
      fun prog' w' A' R s' h => by
        obtain ⟨bs, hb, hk⟩ := hk prog' w'
        have hu2 := h.2.1
        exact wpAny_strOf_slot rfl (by show A'.units + 1 + _ < cLine; omega) ⟨o, h.2.2.1 _ _ h1, h2⟩ F.slot_list_str F.slot_list_repr.toG
          (call_items h1 h2 h3 hr hb hk hz _ _ s' _ h.1 (by show A'.units + 1 + 1 + (PyData.list xs).depth < cLine; omega) h.2.2.1 fun h' u tk hk => ⟨_, _, rfl, h.2.2.2 h' u tk hk⟩))
    ⟨hg, by show A.units + 1 + _ < cLine; omega, hk0, fun h' u tk hk => ⟨typeIs_str _ _ _, hQ h' u tk hk⟩⟩
end
end PySem
namespace Sim
open PySem PySem.Spec L2
open PyProof.Rows hiding St
def okIt (d : Dt) : Bool := (match d with | .dict [] => true | _ => false) || (PyData.canLay0 d && !PyData.hasDict d && PyData.showable d)
def okStrE (d : Dt) : Bool := match d with
  | .list ds => ds.all okIt && decide (d.depth ≤ 60) && decide (d.shown.length ≤ sizeLine)
  | _ => false
def rStrE (K : PySem.W.Frag) : List V → Hp → VK → Prop := fun xs H Q => ∃ F x d, xs = [x] ∧ Rp K F H x d ∧ okStrE d = true ∧ Q (.str d.shown) H
theorem item_of {X : Cx} {pins : List (Addr × Obj)} {σ : L2.St} {H : Hp} {s : Shared} {F : Addr → Prop} (I : Inv X pins σ H s) {d : Dt} {v : V} {u : Value} (h1 : Rp X.K F H v d) (r1 : RelV v u) (o1 : okIt d = true) (hz1 : d.shown.length ≤ sizeLine) :
    ∃ as, Reads s.heap u d as ∧ ∀ (prog : Program) (w : World), ∃ bs, ReadAtMost s.heap d.depth bs ∧ ReprK prog w bs s.heap d.depth u d.shown := by
  unfold okIt at o1
  rw [Bool.or_eq_true] at o1
  rcases o1 with o1 | o1
  · split at o1
    · cases h1 with
      | dic e fa hk rr =>
        cases r1
        rename_i a kvs
        cases kvs with
        | cons kv kvs => simp at hk
        | nil =>
          obtain ⟨_, hsys, vs', kv, o, es, ep, e1, exd, hdat, hkeys, hpairs, _⟩ := dk_of I.hok e
          cases kv
          have hes : es.toList = [] := by
            cases hq : es.toList with
            | nil => rfl
            | cons x l => rw [hq] at hpairs; cases hpairs
          have rk : ReadsAll s.heap (es.toList.map (·.key)) (([] : List (Dt × Dt)).map (·.1)) [] := by rw [hes]; exact .nil
          have rv : ReadsAll s.heap (es.toList.map (·.val)) (([] : List (Dt × Dt)).map (·.2)) [] := by rw [hes]; exact .nil
          have rd : Reads s.heap (.ref a) (.dict []) (a :: [] ++ []) := .dict e1 exd.1 hdat rk rv
          refine ⟨_, rd, fun prog w => ⟨a :: ([] ++ []), ?_, ?_⟩⟩
          · exact ReadAtMost.cons rd (Nat.le_refl _) (fun _ h => nomatch h)
          simp only [PyData.depth, PyData.shown, PyData.shownKv_eq]
          exact ReprK.dict e1 exd.1 hdat hsys (by simp) (ReprEntriesK.of_two es.toList _ _ (by rw [hes]; exact .nil) (by rw [hes]; exact .nil))
    · cases o1
  · simp only [Bool.and_eq_true] at o1
    obtain ⟨⟨o1, o2⟩, o3⟩ := o1
    obtain ⟨as, rd⟩ := Dp.reads I d _ _ (h1.dp o1) r1
    exact ⟨as, rd, fun prog w => ReprK.of_reads rd o3 (fun z => by rw [z] at o2; exact absurd o2 (by decide)) hz1⟩
theorem items_of {X : Cx} {pins : List (Addr × Obj)} {σ : L2.St} {H : Hp} {s : Shared} {F : Addr → Prop} (I : Inv X pins σ H s) : ∀ {ds : List Dt} {vs : List V} {us : List Value}, RpA X.K F H vs ds → Vals vs us → (∀ d ∈ ds, okIt d = true) → (∀ t ∈ PyData.shownAll ds, t.length ≤ sizeLine) →
    ∃ as, ReadsAll s.heap us ds as ∧ ∀ (prog : Program) (w : World), ∃ bs, ReadAtMost s.heap (PyData.depthAll ds) bs ∧ ReprAllK prog w bs s.heap (PyData.depthAll ds) us (PyData.shownAll ds)
  | [], _, _, h, r, _, _ => by
    cases h
    cases r
    exact ⟨_, .nil, fun _ _ => ⟨[], (fun _ h => nomatch h), by simp only [PyData.shownAll]; exact .nil⟩⟩
  | d :: ds, _, _, h, r, ok, hz => by
    cases h with
    | cons h1 h2 =>
      cases r with
      | cons r1 r2 =>
        obtain ⟨as2, q2, k2⟩ := items_of I h2 r2 (fun e he => ok e (List.mem_cons_of_mem _ he)) (fun t ht => hz t (by simp only [PyData.shownAll]; exact List.mem_cons_of_mem _ ht))
        obtain ⟨as1, q1, k1⟩ := item_of I h1 r1 (ok d List.mem_cons_self) (hz _ (by simp only [PyData.shownAll]; exact List.mem_cons_self ..))
        refine ⟨_, .cons q1 q2, fun prog w => ?_⟩
        obtain ⟨b1, hb1, y1⟩ := k1 prog w
        obtain ⟨b2, hb2, y2⟩ := k2 prog w
        refine ⟨b1 ++ b2, ?_, ?_⟩
        · intro b hm
          simp only [PyData.depthAll]
          rcases List.mem_append.mp hm with hm | hm
          · obtain ⟨d', as', r', hd'⟩ := hb1 b hm
            exact ⟨d', as', r', Nat.le_trans hd' (Nat.le_max_left _ _)⟩
          · obtain ⟨d', as', r', hd'⟩ := hb2 b hm
            exact ⟨d', as', r', Nat.le_trans hd' (Nat.le_max_right _ _)⟩
        · simp only [PyData.depthAll, PyData.shownAll]
          exact .cons ((y1.more fun b hb => List.mem_append_left _ hb).level_le (Nat.le_max_left _ _)) (y2.more_le (fun b hb => List.mem_append_right _ hb) (Nat.le_max_right _ _))
section
variable {X : Cx} {K : PySem.W.Frag} {W : Wt} {Δ : List Kd} {e : Expr} {es : List Expr} {tA : TA} {gA : List Dt → O (List Dt)} {av fr : Bool} {pos : Pos}
theorem call_strE {m : Nat} (hg : X.A.guards = some []) (hr : Room m X.A) : CallR X (.type "str") (rStrE X.K) := by
  intro pins s σ H vs us Q I r ⟨F, x, d, e, hx, ok, q⟩
  subst e
  cases r with
  | cons r1 r2 =>
    cases r2
    unfold okStrE at ok
    cases d with
    | list ds =>
      simp only [Bool.and_eq_true, decide_eq_true_eq] at ok
      obtain ⟨⟨c1, c2⟩, c3⟩ := ok
      have un := hr.un
      cases hx with
      | lst hs fa hd =>
        cases r1
        obtain ⟨its, rv, ⟨o, n, ho, hc, _, hdat⟩, _⟩ := I.list (.inl (.inl hs))
        have c3' : (listText (PyData.shownAll ds)).length ≤ sizeLine := by simpa only [PyData.shown] using c3
        obtain ⟨as, rd, hk⟩ := items_of I hd rv (fun d hd => List.all_eq_true.mp c1 d hd) (fun t ht => Nat.le_trans (listText_mem_le ht) c3')
        exact str_items ho hc hdat rd hk c3 hg (by omega) (fun _ _ e => e) (fun h' u tk hk => ⟨.str (PyData.list ds).shown, H, I.kept hk, ⟨u, rfl⟩, q⟩)
    | _ => cases ok
end
end Sim
end T_SimSe
section T_SimTk
set_option Elab.async false
set_option linter.all false
set_option maxRecDepth 100000
namespace Sim
open PySem PySem.Spec L2
open PyProof.Rows hiding St
section
variable {K : PySem.W.Frag} {Δ : List Kd} {ta : TE} {tA : TA} {ga : Gd} {gA : List Dt → O (List Dt × List Dt)} {fr fr' : Bool} {n : Nat} {g : List Dt → O Dt}
end
section
variable {X : Cx} {K : PySem.W.Frag} {Δ : List Kd} {e : Expr} {es : List Expr} {ta : TE} {tA : TA} {ga : Gd} {gA : List Dt → O (List Dt × List Dt)} {fr fr' : Bool} {pos : Pos}
end
end Sim
end T_SimTk
section T_SimCt
set_option Elab.async false
set_option linter.all false
set_option maxRecDepth 100000
namespace Sim
open PySem PySem.Spec L2
open PyProof.Rows hiding St
end Sim
end T_SimCt
section T_SimSa
set_option Elab.async false
set_option linter.all false
set_option maxRecDepth 100000
namespace L2
open PySem PySem.Spec PyProof.Rows
section
variable {prog : Program} {w : World} {A : Around} {E : Value → Shared → Prop} {s : Shared}
set_option maxRecDepth 100000 in
end
section
variable {X : Cx}
end
end L2
namespace Sim
open PySem PySem.Spec L2
open PyProof.Rows hiding St
section
variable {X : Cx} {K : PySem.W.Frag} {W : Wt} {L : Lk} {Δ Δb Δc : List Kd} {te tl th : TE} {ge gl gh : Gd} {i : Nat} {fr fr' av1 fr1 av2 fr2 : Bool} {e : Expr} {pos : Pos}
end
section
variable {K : PySem.W.Frag} {Δ : List Kd} {tb : TE} {gb : Gx} {fr fr' : Bool} {i : Nat}
end
end Sim
end T_SimSa
section T_SimSb
set_option Elab.async false
set_option linter.all false
set_option maxRecDepth 100000
namespace Sim
open PySem PySem.Spec L2
open PyProof.Rows hiding St
section
variable {K : PySem.W.Frag} {Δ : List Kd} {tA : TA} {gA : List Dt → O (List Dt × List Dt)} {fr : Bool}
end
section
variable {X : Cx} {K : PySem.W.Frag} {Δ : List Kd} {e : Expr} {es : List Expr} {tA : TA} {gA : List Dt → O (List Dt × List Dt)} {fr : Bool} {pos : Pos}
end
end Sim
end T_SimSb
section T_SimFo
set_option Elab.async false
set_option linter.all false
set_option maxRecDepth 100000
namespace Sim
open PySem PySem.Spec L2
open PyProof.Rows hiding St
open Classical in
section
variable {K : PySem.W.Frag} {f : Fm} {Δ Δn Δb Δc : List Kd} {ρ : List Dt} {σ : L2.St} {H H1 : Hp} {i : Nat} {W : Wt} {L : Lk} {p : Addr} {ds : List Dt}
abbrev Fm.one (f : Fm) (p : Addr) : Fm := { f with P := p :: f.P, S := [p], hS := fun a h => by rw [List.mem_singleton.mp h]; exact List.mem_cons_self }
end
section
variable {X : Cx} {K : PySem.W.Frag} {W : Wt} {L : Lk} {Δ Δn Δb Δc Δv : List Kd} {sts : List Stmt} {t : TS} {g1 : Gs} {tg iter : Expr} {pos : Pos} {rk : Rk} {gv : Gd} {fr : Bool}
end
end Sim
end T_SimFo
section T_SimD3
set_option Elab.async false
set_option linter.all false
set_option maxRecDepth 100000
namespace Sim
open PySem PySem.Spec L2
open PyProof.Rows hiding St
def gDisp3 (k1 k2 k3 : Str) (gA : List Dt → O (List Dt)) : Gd := fun ρ => bnd (gA ρ) fun ds => match ds with
  | [d1, d2, d3] => .ok (.dict [(.str k1, d1), (.str k2, d2), (.str k3, d3)])
  | _ => .bad
section
variable {X : Cx} {K : PySem.W.Frag} {W : Wt} {Δ : List Kd} {t1 t2 t3 : TE} {g1 g2 g3 : Gd} {gA : List Dt → O (List Dt)} {fr fr1 fr2 fr3 : Bool} {k1 k2 k3 : Str} {e1 e2 e3 : Expr} {pos p1 p2 p3 : Pos} {j1 j2 j3 : Nat}
theorem se_disp3 (h : SA K W Δ (tCons t1 (tCons t2 (tCons t3 tNil))) true fr gA) (hm : ∀ a b c : V, mergeK [] [(.inr k1, a), (.inr k2, b), (.inr k3, c)] = [(.inr k1, a), (.inr k2, b), (.inr k3, c)]) :
    SE K W Δ (tDisp [(tC (.str k1), t1), (tC (.str k2), t2), (tC (.str k3), t3)]) (.new .dk fr) (gDisp3 k1 k2 k3 gA) := fun f ρ σ H Q R q => by
  intro p np
  have s0 : Same H (upd H p (.dK [])) := same_upd np
  have key : tCons t1 (tCons t2 (tCons t3 tNil)) σ (upd H p (.dK [])) (fun vs H2 => match vs with
    | [y1, y2, y3] => H2 p = some (.dK []) ∧ ∃ kvs : List (Key × V), [(V.str k1, y1), (V.str k2, y2), (V.str k3, y3)] = kvs.map (fun kv => (kV kv.1, kv.2)) ∧ kvs.length ≤ 15 ∧ Q (.ref p) (upd H2 p (.dK (mergeK [] kvs)))
    | _ => False) := by
    refine h (f.pn p) ρ σ _ _ (R.addP (o := .dK []) np trivial) ?_
    unfold gDisp3 at q
    cases e1 : gA ρ with
    | bad => rw [e1] at q; exact q
    | ex z => rw [e1] at q; exact fun H' s => q H' (s0.trans s)
    | ok ds =>
      rw [e1, bnd_ok] at q
      intro vs H2 s2 x
      cases x with
      | nil => exact q.elim
      | @cons y1 vs1 d1 ds1 x1 x =>
        cases x with
        | nil => exact q.elim
        | @cons y2 vs2 d2 ds2 x2 x =>
          cases x with
          | nil => exact q.elim
          | @cons y3 vs3 d3 ds3 x3 x =>
            cases x with
            | cons _ _ => exact q.elim
            | nil =>
              have hp : H2 p = some (.dK []) := s2 _ _ upd_same
              have sf : ∀ o, Same H (upd H2 p o) := fun o b ob e => by
                rw [upd_ne (ne_of_none e np)]
                exact (s0.trans s2) b ob e
              refine ⟨hp, [(.inr k1, y1), (.inr k2, y2), (.inr k3, y3)], rfl, by show 3 ≤ 15; omega, ?_⟩
              rw [hm]
              have up : ∀ {v : V} {d : Dt} {o' : HO}, Rp K (FM (f.pn p) Δ σ true fr) H2 v d → Rp K (fun a => FM f Δ σ true fr a ∧ a ≠ p) (upd H2 p o') v d := fun x => Rp.updM hp trivial (fun a fa => fa.2) (x.weak fun a fa => ⟨⟨fun e => ⟨(fa.1 e).1, fun z => (fa.1 e).2 (List.mem_cons_of_mem _ z)⟩, fa.2⟩, fun z => (fa.1 rfl).2 (z ▸ List.mem_cons_self)⟩)
              exact q p _ np (sf _) ⟨_, _, rfl, upd_same, .cons (up x1) (.cons (up x2) (.cons (up x3) .nil))⟩
  exact key
theorem x_disp3 (h1 : PD X K W Δ e1 t1 (.v true fr1) g1) (h2 : PD X K W Δ e2 t2 (.v true fr2) g2) (h3 : PD X K W Δ e3 t3 (.v true fr3) g3) (hm : ∀ a b c : V, mergeK [] [(.inr k1, a), (.inr k2, b), (.inr k3, c)] = [(.inr k1, a), (.inr k2, b), (.inr k3, c)] := by intro _ _ _; rfl) :
    PD X K W Δ (.Dict [some (.Constant (.str k1) j1 p1), some (.Constant (.str k2) j2 p2), some (.Constant (.str k3) j3 p3)] [e1, e2, e3] pos) (tDisp [(tC (.str k1), t1), (tC (.str k2), t2), (tC (.str k3), t3)]) (.new .dk (fr1 && (fr2 && (fr3 && true)))) (gDisp3 k1 k2 k3 (gCons g1 (gCons g2 (gCons g3 gNil)))) :=
  ⟨pe_disp (pps_cons pe_str h1.pe (pps_cons pe_str h2.pe (pps_cons pe_str h3.pe pps_nil))) rfl rfl (fun h => nomatch h) (by show 3 ≤ 15; omega), h1.hK, se_disp3 (sa_cons h1.se (sa_cons h2.se (sa_cons h3.se sa_nil))) hm⟩
end
end Sim
end T_SimD3
section T_SimMn
set_option Elab.async false
set_option linter.all false
set_option maxRecDepth 100000
namespace Sim
open PySem PySem.Spec L2
open PyProof.Rows hiding St
def lmin : List Int → List (List Int) → List Int
  | a, [] => a
  | a, b :: bs => lmin (if lxLt b a then b else a) bs
theorem eqv_int (x y : Int) : PyData.eqv (.int x) (.int y) = decide (x = y) := by
  unfold PyData.eqv
  by_cases h : x = y
  · rw [h]; simp
  · simp [h]
theorem lt_tup : ∀ xs ys : List Int, PyProof.Rows.lexLt PyProof.Rows.itemOrd (PySem.W.keyToksAll (xs.map PyData.int)) (PySem.W.keyToksAll (ys.map PyData.int)) = lxLt xs ys
  | [], [] => by decide
  | x :: xs, [] => by
    rw [List.map_cons, List.map_nil, PySem.W.toks_all_cons]
    refine (PySem.W.lex_atom (by simp) _ _).trans ?_
    rfl
  | [], y :: ys => by
    rw [List.map_cons, List.map_nil, PySem.W.toks_all_cons]
    refine (PySem.W.lex_atom (by simp) _ _).trans ?_
    rfl
  | x :: xs, y :: ys => by
    rw [List.map_cons, List.map_cons, lxLt_cons]
    have ha : PySem.W.alike (.int x) (.int y) = true := by simp only [PySem.W.alike]
    have he := eqv_int x y
    by_cases h : x = y
    · rw [if_pos h]
      rw [decide_eq_true h] at he
      rw [PySem.W.dataLt_all_yes ha he]
      exact lt_tup xs ys
    · rw [if_neg h]
      rw [decide_eq_false h] at he
      rw [PySem.W.dataLt_all_no ha he]
      exact PySem.W.dataLt_int x y
theorem dataLt_encL (xs ys : List Int) : PySem.W.dataLt (encL xs) (encL ys) = lxLt xs ys := (PySem.W.dataLt_tuple _ _).trans (lt_tup xs ys)
theorem minD_encL : ∀ (bs : List (List Int)) (a : List Int), PySem.W.minD (encL a) (bs.map encL) = encL (lmin a bs)
  | [], a => rfl
  | b :: bs, a => by
    have ih := minD_encL bs (if lxLt b a then b else a)
    unfold lmin
    rw [← ih]
    unfold PySem.W.minD
    rw [List.map_cons, List.foldl_cons, dataLt_encL]
    cases lxLt b a <;> rfl
theorem alike_ints : ∀ xs ys : List Int, PySem.W.alikeAll (xs.map PyData.int) (ys.map PyData.int) = true
  | [], [] => by simp [PySem.W.alikeAll]
  | [], y :: ys => by simp [PySem.W.alikeAll]
  | x :: xs, [] => by simp [PySem.W.alikeAll]
  | x :: xs, y :: ys => by
    have ih := alike_ints xs ys
    simp [PySem.W.alikeAll, PySem.W.alike, ih]
theorem alike_encL (nss : List (List Int)) : PySem.W.AlikeAll (nss.map encL) := by
  refine ⟨fun x hx y hy => ?_, fun x hx => ?_⟩
  · obtain ⟨a, _, rfl⟩ := List.mem_map.mp hx
    obtain ⟨b, _, rfl⟩ := List.mem_map.mp hy
    unfold encL
    simp only [PySem.W.alike]
    exact alike_ints a b
  · obtain ⟨a, _, rfl⟩ := List.mem_map.mp hx
    exact fun z => nomatch z
theorem depth_ints0 : ∀ xs : List Int, PyData.depthAll (xs.map PyData.int) = 0
  | [] => by simp [PyData.depthAll]
  | x :: xs => by
    have ih := depth_ints0 xs
    simp [PyData.depthAll, PyData.depth, ih]
theorem depth_encL : ∀ nss : List (List Int), PyData.depthAll (nss.map encL) ≤ 1
  | [] => by simp [PyData.depthAll]
  | a :: nss => by
    have ih := depth_encL nss
    have e : PyData.depth (encL a) = 1 := by
      unfold encL
      simp [PyData.depth, depth_ints0]
    rw [List.map_cons]
    simp only [PyData.depthAll, e]
    omega
theorem canLay_encL (a : List Int) : PyData.canLay0 (encL a) = true := by
  unfold encL
  simp only [PyData.canLay0]
  induction a with
  | nil => simp [PyData.canLayAll0]
  | cons x xs ih => simp [PyData.canLayAll0, PyData.canLay0, ih]
theorem encL_inj {a b : List Int} (h : encL a = encL b) : a = b := by
  unfold encL at h
  have h := PyData.tuple.inj h
  exact (List.map_inj_right (fun x y e => PyData.int.inj e)).mp h
section
variable {X : Cx}
def rMinT (K : PySem.W.Frag) : List V → Hp → VK → Prop := fun vs H Q => ∃ (a : Addr) (p : Addr × List Int) (ts : List (Addr × List Int)), vs = [V.ref a] ∧ SqL K H a ((p :: ts).map fun p => V.ref p.1) ∧ (∀ q ∈ p :: ts, SqT K H q.1 (q.2.map V.int)) ∧
  ∀ q ∈ p :: ts, q.2 = lmin p.2 (ts.map (·.2)) → Q (.ref q.1) H
theorem dpAll_ints {K : PySem.W.Frag} {H : Hp} : ∀ ns : List Int, DpAll K H (ns.map V.int) (ns.map PyData.int)
  | [] => .nil
  | n :: ns => .cons (.int n) (dpAll_ints ns)
theorem dpAll_tups {K : PySem.W.Frag} {H : Hp} : ∀ ts : List (Addr × List Int), (∀ q ∈ ts, SqT K H q.1 (q.2.map V.int)) → DpAll K H (ts.map fun p => V.ref p.1) ((ts.map (·.2)).map encL)
  | [], _ => .nil
  | t :: ts, h => .cons (.tup (h t List.mem_cons_self) (dpAll_ints t.2)) (dpAll_tups ts fun q hq => h q (List.mem_cons_of_mem _ hq))
theorem cr_minT {k : Nat} (hr : Room k X.A) (hc : X.calm = true) : CallR X (.builtin "min") (rMinT X.K) := by
  intro pins s σ H vs us Q I r h
  obtain ⟨a, p, ts, rfl, hs, hx, q⟩ := h
  obtain ⟨its, rv, hl, _⟩ := I.list hs
  rw [Vals.ref1 r]
  obtain ⟨as, hreads⟩ := Dp.readsAll I _ _ _ (dpAll_tups (p :: ts) hx) rv
  rw [List.map_cons, List.map_cons] at hreads
  have hlay : PyData.canLayAll0 (encL p.2 :: (ts.map (·.2)).map encL) = true := by
    have : ∀ nss : List (List Int), PyData.canLayAll0 (nss.map encL) = true := fun nss => by
      induction nss with
      | nil => simp [PyData.canLayAll0]
      | cons x xs ih => rw [List.map_cons]; simp [PyData.canLayAll0, canLay_encL, ih]
    exact this (p.2 :: ts.map (·.2))
  have hmap : its.map (SeqAt.readOf s.heap) = encL p.2 :: (ts.map (·.2)).map encL := SeqAt.readsAll_map _ its as hlay hreads
  have hvl := rv.length
  refine PySem.W.min_list_data (I.ok.hd hc) hl.isList (x := encL p.2) (xs := (ts.map (·.2)).map encL) (as := as) hreads (by
    have q := alike_encL (p.2 :: ts.map (·.2))
    rw [List.map_cons] at q
    exact q) (by
    have := hr.un
    have h2 := depth_encL (p.2 :: ts.map (·.2))
    rw [List.map_cons] at h2
    omega) fun i v h' tk bs hv hrd hk => ?_
  have hv : its[i]? = some v := by simpa using hv
  obtain ⟨hi, ei⟩ := List.getElem?_eq_some_iff.mp hv
  have hi2 : i < (p :: ts).length := by
    rw [List.length_map] at hvl
    omega
  rw [minD_encL] at hrd
  have e1 : SeqAt.readOf h' v = encL (lmin p.2 (ts.map (·.2))) := SeqAt.readOf_eq (canLay_encL _) hrd
  have hd : (encL p.2 :: (ts.map (·.2)).map encL)[i]? = some (encL (p :: ts)[i].2) := by
    have e : encL p.2 :: (ts.map (·.2)).map encL = ((p :: ts).map (·.2)).map encL := rfl
    rw [e, List.getElem?_map, List.getElem?_map, List.getElem?_eq_getElem hi2]
    rfl
  have e3 : SeqAt.readOf s.heap v = encL (p :: ts)[i].2 := by
    have h0 : (its.map (SeqAt.readOf s.heap))[i]? = some (SeqAt.readOf s.heap v) := by rw [List.getElem?_map, hv]; rfl
    rw [hmap, hd] at h0
    exact (Option.some.inj h0).symm
  have e2 : SeqAt.readOf h' v = encL (p :: ts)[i].2 := by
    obtain ⟨cs, rr⟩ : ∃ cs, Reads s.heap v (encL (p :: ts)[i].2) cs := by
      obtain ⟨cs, rr, _⟩ := PySem.W.readsAll_at hreads i v hv
      rw [List.getD_eq_getElem?_getD, hd] at rr
      exact ⟨cs, rr⟩
    exact SeqAt.readOf_eq (canLay_encL _) (PySem.W.reads_keeps hk rr)
  have e4 : (p :: ts)[i].2 = lmin p.2 (ts.map (·.2)) := encL_inj (e2.symm.trans e1)
  have hrel : RelV (V.ref (p :: ts)[i].1) v := by
    have := rv.get (i := i) (x := V.ref (p :: ts)[i].1) (by rw [List.getElem?_map, List.getElem?_eq_getElem hi2]; rfl)
    obtain ⟨u, hu, hru⟩ := this
    rw [hv] at hu
    cases hu
    exact hru
  exact ⟨.ref (p :: ts)[i].1, H, I.kept (t' := tk) hk, hrel, q _ (List.getElem_mem hi2) e4⟩
end
def hMinT : Dt → O Dt := fun d => match d with
  | .list xs => match allT xs with
    | some (n :: nss) => .ok (encL (lmin n nss))
    | _ => .bad
  | _ => .bad
section
variable {K : PySem.W.Frag} {W : Wt} {Δ : List Kd} {tA : TA} {gA : List Dt → O (List Dt)} {av fr : Bool}
theorem se_minT (ha : SA K W Δ tA av fr gA) : SE K W Δ (tCB (rMinT K) tA) (.v true true) (gCB (one hMinT) gA) := fun f ρ σ H Q R q => by
  refine ha f ρ σ H _ R ?_
  unfold gCB at q
  cases e1 : gA ρ with
  | bad => rw [e1] at q; exact q
  | ex z => rw [e1] at q; exact q
  | ok ds =>
    rw [e1, bnd_ok] at q
    intro vs H1 s1 x1
    unfold one hMinT at q
    split at q
    · rename_i d ed
      split at q
      · rename_i xs
        cases ea : allT xs with
        | none => rw [ea] at q; exact q.elim
        | some nss =>
          rw [ea] at q
          cases nss with
          | nil => exact q.elim
          | cons n nss =>
            simp only at q
            cases x1 with
            | cons h1 h2 =>
              cases h2
              obtain ⟨a, ys, rfl, hs, r⟩ := h1.sql
              obtain ⟨ts, rfl, h4, h3⟩ := rpA_tups r ea
              cases ts with
              | nil => cases h4
              | cons p ts =>
                rw [List.map_cons] at h4
                obtain ⟨e5, e6⟩ := List.cons.inj h4
                subst e5 e6
                refine ⟨a, p, ts, rfl, hs, h3, fun t ht et => ?_⟩
                refine q (.ref t.1) H1 s1 (.tup (h3 t ht) ?_)
                rw [et]
                exact rpA_ints _
      · exact q.elim
    · exact q.elim
end
section
variable {X : Cx} {K : PySem.W.Frag} {W : Wt} {Δ : List Kd} {e : Expr} {es : List Expr} {tA : TA} {gA : List Dt → O (List Dt)} {av fr : Bool} {pos : Pos}
theorem x_minT {x : Str} {p : Pos} {k : Nat} (hr : Room k X.A) (hm : X.mg x = none) (h : AD X K W Δ (e :: es) tA av fr gA) (hc : X.calm = true := by rfl) (hv : bootBuiltins x = some (.builtin "min") := by decide +kernel) (hg : Gl X x := by rfl) (hn : x ≠ "__name__" := by decide) (hdb : (x == ("__debug__" : Str)) = false := by decide)
    (he : starEach (e :: es) X.env = (false, eval e X.env) :: starEach es X.env := by rfl) (hpl : (backTo pos (starEach es X.env)).any (·.1) = false := by rfl) :
    PD X K W Δ (.Call (.Name x p) (e :: es) [] pos) (tCB (rMinT K) tA) (.v true true) (gCB (one hMinT) gA) := ⟨pe_callB (by have q := cr_minT (X := X) hr hc; rw [h.hK] at q; exact q) hg hm hv h.pa hn hdb he hpl, h.hK, se_minT h.sa⟩
end
theorem lmin_mem : ∀ (bs : List (List Int)) (a : List Int), lmin a bs ∈ a :: bs
  | [], a => List.mem_cons_self
  | b :: bs, a => by
    unfold lmin
    rcases List.mem_cons.mp (lmin_mem bs (if lxLt b a then b else a)) with h | h
    · rw [h]
      split
      · exact List.mem_cons_of_mem _ List.mem_cons_self
      · exact List.mem_cons_self
    · exact List.mem_cons_of_mem _ (List.mem_cons_of_mem _ h)
theorem lmin_le : ∀ (bs : List (List Int)) (a : List Int), ∀ y ∈ a :: bs, lxLt y (lmin a bs) = false
  | [], a => fun y hy => by
    rw [List.mem_singleton.mp hy]
    exact lxLt_irr a
  | b :: bs, a => fun y hy => by
    unfold lmin
    have h := lmin_le bs (if lxLt b a then b else a)
    have h0 := h _ List.mem_cons_self
    generalize lmin (if lxLt b a then b else a) bs = z at *
    rcases List.mem_cons.mp hy with rfl | hy
    · cases e : lxLt b y with
      | false =>
        rw [e] at h0
        simpa using h0
      | true =>
        rw [e] at h0
        simp only [if_true] at h0
        cases e2 : lxLt y z with
        | false => rfl
        | true => rw [lxLt_trans e e2] at h0; cases h0
    · rcases List.mem_cons.mp hy with rfl | hy
      · cases e : lxLt y a with
        | true =>
          rw [e] at h0
          simpa using h0
        | false =>
          rw [e] at h0
          simp only [Bool.false_eq_true, if_false] at h0
          cases e2 : lxLt y z with
          | false => rfl
          | true =>
            cases e3 : lxLt a y with
            | true => rw [lxLt_trans e3 e2] at h0; cases h0
            | false =>
              have := lxLt_tri e e3
              subst this
              rw [e2] at h0; cases h0
      · exact h y (List.mem_cons_of_mem _ hy)
end Sim
end T_SimMn
section T_SimSf
set_option Elab.async false
set_option linter.all false
set_option maxRecDepth 100000
set_option maxHeartbeats 2000000
namespace Sim
open PySem PySem.Spec L2
open PyProof.Rows hiding St
def hCatZ : Dt → Dt → O Dt := fun d e => match d with
  | .list ds => (match unfz e with
    | some es => if ds.length + es.length ≤ 100000 then .ok (.list (ds ++ es)) else .bad
    | none => .bad)
  | _ => .bad
section
variable {X : Cx} {K : PySem.W.Frag} {W : Wt} {Δ : List Kd} {a b : Expr} {pos : Pos}
theorem se_catZ {ta tb : TE} {ga gb : Gd} {fr fr' : Bool} (ha : SE K W Δ ta (.v true fr) ga) (hb : SE K W Δ tb (.v true fr') gb) : SE K W Δ (tOp (rCatS K) ta tb) (.new .l (fr && fr')) (gOp hCatZ ga gb) := fun f ρ σ H Q R q => by
  refine ha f ρ σ H _ R ?_
  unfold gOp at q
  cases e1 : ga ρ with
  | bad => rw [e1] at q; exact q
  | ex z => rw [e1] at q; exact q
  | ok d =>
    rw [e1, bnd_ok] at q
    intro v H1 s1 x1
    refine hb f ρ σ H1 _ (R.mono s1) ?_
    cases e2 : gb ρ with
    | bad => rw [e2] at q; exact q
    | ex z => rw [e2] at q; exact fun H' s => q H' (s1.trans s)
    | ok d2 =>
      rw [e2, bnd_ok] at q
      intro v2 H2 s2 x2
      unfold hCatZ at q
      split at q
      · split at q
        · rename_i es hes
          split at q
          · rename_i hz
            obtain ⟨a, xs, rfl, hs, r⟩ := (x1.same s2).sql
            obtain ⟨b, ys, rfl, hs2, r2⟩ := x2.sqF hes
            refine ⟨a, b, xs, ys, rfl, rfl, hs, hs2, sz_le (by rw [r.length, r2.length]; exact hz), fun p np => ?_⟩
            have s12 := s1.trans s2
            refine q p _ (s12.free np) (s12.trans (same_upd np)) ⟨_, _, rfl, upd_same, ?_⟩
            exact (r.mono (same_upd np) fun a y z => ⟨y.weak id (fun h => (Bool.and_eq_true_iff.mp h).1), fun e => z (e ▸ np)⟩).append
              (r2.mono (same_upd np) fun a y z => ⟨y.weak id (fun h => (Bool.and_eq_true_iff.mp h).2), fun e => z (e ▸ np)⟩)
          · exact q.elim
        · exact q.elim
      · exact q.elim
theorem x_catZ {ta tb : TE} {ga gb : Gd} {fr fr' : Bool} (ha : PD X K W Δ a ta (.v true fr) ga) (hb : PD X K W Δ b tb (.v true fr') gb) : PD X K W Δ (.BinOp a .Add b pos) (tOp (rCatS K) ta tb) (.new .l (fr && fr')) (gOp hCatZ ga gb) :=
  ⟨pe_op (by have q := op_catS (X := X); rw [ha.hK] at q; exact q) ha.pe hb.pe, ha.hK, se_catZ ha.se hb.se⟩
theorem hCatZ_frz (ds es : List Dt) (h : ds.length + es.length ≤ 100000) : hCatZ (.list ds) (frzD es) = .ok (.list (ds ++ es)) := by
  show (if ds.length + es.length ≤ 100000 then O.ok (PyData.list (ds ++ es)) else .bad) = _
  rw [if_pos h]
end
def txt (d : Dt) : Str := match d with
  | .none => "None"
  | .bool b => if b then "True" else "False"
  | .int i => toString i
  | .str x => x
  | d => d.shown
def okA (d : Dt) : Bool := match d with
  | .none => true
  | .bool _ => true
  | .int i => decide (i.natAbs.log2 < 1920)
  | .str _ => true
  | .dict [] => true
  | .list ds => okStrE (.list ds)
  | .tuple ds => okStr (.tuple ds)
  | _ => false
def hStrA : List Dt → O Dt := fun ds => match ds with
  | [d] => if okA d then .ok (.str (txt d)) else .bad
  | _ => .bad
def rStrA (K : PySem.W.Frag) : List V → Hp → VK → Prop := fun xs H Q => ∃ F x d, xs = [x] ∧ Rp K F H x d ∧ okA d = true ∧ Q (.str (txt d)) H
section
variable {X : Cx} {K : PySem.W.Frag} {W : Wt} {Δ : List Kd} {e : Expr} {es : List Expr} {tA : TA} {gA : List Dt → O (List Dt)} {av fr : Bool} {pos : Pos}
theorem scl_strA : SclA hStrA := fun ds => by
  unfold hStrA
  split
  · split
    · exact .inl ⟨_, rfl, rfl⟩
    · exact .inr rfl
  · exact .inr rfl
theorem csc_strA : CSc K (rStrA K) hStrA := fun H xs ds Q hx h => by
  unfold hStrA at h
  split at h
  · rename_i e
    split at e
    · split at e
      · rename_i c
        cases hx with
        | cons h1 h2 =>
          cases h2
          cases e
          exact ⟨_, _, _, rfl, h1, c, h.2 _ (.str _)⟩
      · cases e
    · cases e
  · exact h.elim
theorem call_strA {m : Nat} (hg : X.A.guards = some []) (hr : Room m X.A) : CallR X (.type "str") (rStrA X.K) := by
  intro pins s σ H vs us Q I r ⟨F, x, d, e, hx, ok, q⟩
  subst e
  cases hx with
  | non =>
    obtain ⟨u, rfl, r1⟩ := vals1 r
    cases r1
    exact PySem.P.str_of_none ⟨.str _, H, I.tok _, ⟨_, rfl⟩, q⟩
  | bl b =>
    obtain ⟨u, rfl, r1⟩ := vals1 r
    cases r1
    exact PySem.P.str_of_bool ⟨.str _, H, I.tok _, ⟨_, rfl⟩, q⟩
  | int i =>
    obtain ⟨u, rfl, t, rfl⟩ := vals1 r
    exact PySem.P.str_of_int (of_decide_eq_true ok) ⟨.str _, H, I.tok _, ⟨_, rfl⟩, q⟩
  | str x =>
    obtain ⟨u, rfl, t, rfl⟩ := vals1 r
    exact PySem.P.str_of_str ⟨.str _, H, I, ⟨_, rfl⟩, q⟩
  | lst hs fa hd => exact call_strE hg hr pins s σ H _ us Q I r ⟨F, _, _, rfl, .lst hs fa hd, ok, q⟩
  | fz h r => cases ok
  | @tup a xs ds hs hd =>
    have c : PyData.canLay0 (.tuple ds) = true := by
      have c := ok
      unfold okA okStr at c
      simp only [Bool.and_eq_true] at c
      exact c.1.1.1.1.2
    exact call_str hg hr pins s σ H _ us Q I r ⟨_, _, rfl, Rp.dp (.tup hs hd) c, ok, q⟩
  | dic e fa hk rr =>
    rename_i a kvs es
    obtain ⟨u, rfl, r1⟩ := vals1 r
    cases r1
    cases es with
    | cons p ps => cases ok
    | nil =>
      cases kvs with
      | cons kv kvs => simp at hk
      | nil =>
        obtain ⟨_, hsys, vs', kv, o, es, ep, e1, exd, hdat, hkeys, hpairs, _⟩ := dk_of I.hok e
        cases kv
        have hes : es.toList = [] := by
          cases hq : es.toList with
          | nil => rfl
          | cons x l => rw [hq] at hpairs; cases hpairs
        have rk : ReadsAll s.heap (es.toList.map (·.key)) (([] : List (Dt × Dt)).map (·.1)) [] := by rw [hes]; exact .nil
        have rv : ReadsAll s.heap (es.toList.map (·.val)) (([] : List (Dt × Dt)).map (·.2)) [] := by rw [hes]; exact .nil
        have rd : Reads s.heap (.ref a) (.dict []) (a :: [] ++ []) := .dict e1 exd.1 hdat rk rv
        have un := hr.un
        have hne : a ≠ sysModules := fun z => by rw [z] at hsys; simp at hsys
        have hns : (PyData.dict []).hasDict = true → sysModules ∉ a :: [] ++ [] := fun _ h => by
          have q : sysModules = a := by simpa using h
          exact hne q.symm
        have hdp : (PyData.dict []).depth = 1 := by decide
        exact str_of_reads rd rfl hns hg (by omega) (fun _ _ e => e) (fun h' u tk hk => ⟨.str _, H, I.kept hk, ⟨u, rfl⟩, q⟩) (by decide)
  | exn n h x => cases ok
theorem x_strA {m : Nat} {x : Str} {p : Pos} (hgd : X.A.guards = some []) (hr : Room m X.A) (hm : X.mg x = none) (h : AD X K W Δ (e :: es) tA av fr gA) (hv : bootBuiltins x = some (.type "str") := by decide +kernel) (hg : Gl X x := by rfl) (hn : x ≠ "__name__" := by decide) (hdb : (x == ("__debug__" : Str)) = false := by decide)
    (he : starEach (e :: es) X.env = (false, eval e X.env) :: starEach es X.env := by rfl) (hpl : (backTo pos (starEach es X.env)).any (·.1) = false := by rfl) :
    PD X K W Δ (.Call (.Name x p) (e :: es) [] pos) (tCB (rStrA K) tA) (.v true true) (gCB hStrA gA) :=
  ⟨pe_callTy (by have q := call_strA (X := X) hgd hr; rw [h.hK] at q; exact q) hg hm hv h.pa hn hdb he hpl, h.hK, se_cb scl_strA csc_strA h.sa⟩
end
end Sim
end T_SimSf
section T_K16
set_option Elab.async false
set_option linter.all false
set_option maxRecDepth 100000
set_option maxHeartbeats 4000000
namespace K16
open PySem PySem.Spec L2 Sim
open PyProof.Rows hiding St
def topS (i : Nat) : Stmt := PySem.Challenge.pw_sinceply_k16_moves_refused.main.body.getD i (.Pass ⟨0, 0, 0, 0⟩)
abbrev st_is_whole : Stmt := topS 16
theorem sc_is_whole : FnScope ["thing"] ["thing"] (defScope st_is_whole) := ⟨rfl, rfl, rfl, by decide +kernel, rfl, by decide +kernel, by decide +kernel⟩
abbrev st_is_place : Stmt := topS 17
theorem sc_is_place : FnScope ["n", "thing"] ["n", "thing"] (defScope st_is_place) := ⟨rfl, rfl, rfl, by decide +kernel, rfl, by decide +kernel, by decide +kernel⟩
abbrev st_is_moment : Stmt := topS 18
theorem sc_is_moment : FnScope ["thing"] ["thing"] (defScope st_is_moment) := ⟨rfl, rfl, rfl, by decide +kernel, rfl, by decide +kernel, by decide +kernel⟩
abbrev st_is_meeting : Stmt := topS 19
theorem sc_is_meeting : FnScope ["n", "thing"] ["n", "thing"] (defScope st_is_meeting) := ⟨rfl, rfl, rfl, by decide +kernel, rfl, by decide +kernel, by decide +kernel⟩
abbrev st_is_tie : Stmt := topS 20
theorem sc_is_tie : FnScope ["n", "thing"] ["n", "thing"] (defScope st_is_tie) := ⟨rfl, rfl, rfl, by decide +kernel, rfl, by decide +kernel, by decide +kernel⟩
abbrev st_is_record : Stmt := topS 21
theorem sc_is_record : FnScope ["n", "thing", "tie", "at"] ["n", "thing"] (defScope st_is_record) := ⟨rfl, rfl, rfl, by decide +kernel, rfl, by decide +kernel, by decide +kernel⟩
abbrev st_joined : Stmt := topS 23
theorem sc_joined : FnScope ["marks", "a", "b", "low", "high", "mark"] ["marks", "a", "b"] (defScope st_joined) := ⟨rfl, rfl, rfl, by decide +kernel, rfl, by decide +kernel, by decide +kernel⟩
abbrev st_is_depth : Stmt := topS 26
theorem sc_is_depth : FnScope ["thing"] ["thing"] (defScope st_is_depth) := ⟨rfl, rfl, rfl, by decide +kernel, rfl, by decide +kernel, by decide +kernel⟩
abbrev st_look_at_layers : Stmt := topS 27
theorem sc_look_at_layers : FnScope ["k"] ["k"] (defScope st_look_at_layers) := ⟨rfl, rfl, rfl, by decide +kernel, rfl, by decide +kernel, by decide +kernel⟩
abbrev st_layer_for : Stmt := topS 28
theorem sc_layer_for : FnScope ["marks", "a", "b", "j", "row"] ["marks", "a", "b"] (defScope st_layer_for) := ⟨rfl, rfl, rfl, by decide +kernel, rfl, by decide +kernel, by decide +kernel⟩
abbrev st_layered : Stmt := topS 29
theorem sc_layered : FnScope ["n", "record", "k", "marks", "j", "numbers", "moment", "a", "b"] ["n", "record", "k"] (defScope st_layered) := ⟨rfl, rfl, rfl, by decide +kernel, rfl, by decide +kernel, by decide +kernel⟩
abbrev st_come_to : Stmt := topS 31
theorem sc_come_to : FnScope ["ties", "place", "came", "waiting", "at", "tie", "other"] ["ties", "place"] (defScope st_come_to) := ⟨rfl, rfl, rfl, by decide +kernel, rfl, by decide +kernel, by decide +kernel⟩
abbrev st_ring_with : Stmt := topS 32
theorem sc_ring_with : FnScope ["ties", "tie", "came", "ring", "place"] ["ties", "tie"] (defScope st_ring_with) := ⟨rfl, rfl, rfl, by decide +kernel, rfl, by decide +kernel, by decide +kernel⟩
abbrev st_moves : Stmt := topS 33
theorem sc_moves : FnScope ["n", "record", "k", "tie", "numbers", "moment", "a", "b", "told", "layer", "ring", "one", "number"] ["n", "record", "k", "tie"] (defScope st_moves) := ⟨rfl, rfl, rfl, by decide +kernel, rfl, by decide +kernel, by decide +kernel⟩
abbrev st_l_begun : Stmt := topS 35
theorem sc_l_begun : FnScope ["cell", "rest"] ["cell"] (defScope st_l_begun) := ⟨rfl, rfl, rfl, by decide +kernel, rfl, by decide +kernel, by decide +kernel⟩
abbrev st_l_take : Stmt := topS 36
theorem sc_l_take : FnScope ["pot", "size", "digit", "mixed"] ["pot", "size"] (defScope st_l_take) := ⟨rfl, rfl, rfl, by decide +kernel, rfl, by decide +kernel, by decide +kernel⟩
abbrev st_l_wide : Stmt := topS 37
theorem sc_l_wide : FnScope ["pot", "size", "number", "turn"] ["pot", "size"] (defScope st_l_wide) := ⟨rfl, rfl, rfl, by decide +kernel, rfl, by decide +kernel, by decide +kernel⟩
abbrev st_l_places : Stmt := topS 38
theorem sc_l_places : FnScope ["pot"] ["pot"] (defScope st_l_places) := ⟨rfl, rfl, rfl, by decide +kernel, rfl, by decide +kernel, by decide +kernel⟩
abbrev st_l_depth : Stmt := topS 39
theorem sc_l_depth : FnScope ["pot"] ["pot"] (defScope st_l_depth) := ⟨rfl, rfl, rfl, by decide +kernel, rfl, by decide +kernel, by decide +kernel⟩
abbrev st_l_ends : Stmt := topS 40
theorem sc_l_ends : FnScope ["pot", "n", "ties", "a", "b", "moment"] ["pot", "n", "ties"] (defScope st_l_ends) := ⟨rfl, rfl, rfl, by decide +kernel, rfl, by decide +kernel, by decide +kernel⟩
abbrev st_l_drawn_ties : Stmt := topS 41
theorem sc_l_drawn_ties : FnScope ["pot", "n", "most", "moment", "found", "turn", "step", "a", "b"] ["pot", "n", "most"] (defScope st_l_drawn_ties) := ⟨rfl, rfl, rfl, by decide +kernel, rfl, by decide +kernel, by decide +kernel⟩
abbrev st_l_new_tie : Stmt := topS 42
theorem sc_l_new_tie : FnScope ["pot", "n", "ties", "some", "tie", "moment", "turn", "a", "b"] ["pot", "n", "ties"] (defScope st_l_new_tie) := ⟨rfl, rfl, rfl, by decide +kernel, rfl, by decide +kernel, by decide +kernel⟩
abbrev st_l_odd_tie : Stmt := topS 43
theorem sc_l_odd_tie : FnScope ["pot", "n", "some"] ["pot", "n"] (defScope st_l_odd_tie) := ⟨rfl, rfl, rfl, by decide +kernel, rfl, by decide +kernel, by decide +kernel⟩
abbrev st_l_odd_depth : Stmt := topS 44
theorem sc_l_odd_depth : FnScope ["pot", "some"] ["pot"] (defScope st_l_odd_depth) := ⟨rfl, rfl, rfl, by decide +kernel, rfl, by decide +kernel, by decide +kernel⟩
abbrev st_l_told_of : Stmt := topS 45
theorem sc_l_told_of : FnScope ["n", "ties", "k", "tie", "told", "e", "others"] ["n", "ties", "k", "tie"] (defScope st_l_told_of) := ⟨rfl, rfl, rfl, by decide +kernel, rfl, by decide +kernel, by decide +kernel⟩
abbrev st_l_field_of : Stmt := topS 46
theorem sc_l_field_of : FnScope ["n", "ties", "k", "tie", "found", "e"] ["n", "ties", "k", "tie"] (defScope st_l_field_of) := ⟨rfl, rfl, rfl, by decide +kernel, rfl, by decide +kernel, by decide +kernel⟩
abbrev st_l_chosen : Stmt := topS 47
theorem sc_l_chosen : FnScope ["pot", "n", "ties", "tie", "turn", "again"] ["pot", "n", "ties"] (defScope st_l_chosen) := ⟨rfl, rfl, rfl, by decide +kernel, rfl, by decide +kernel, by decide +kernel⟩
abbrev st_l_right : Stmt := topS 48
theorem sc_l_right : FnScope ["n", "ties", "k", "tie", "due", "handed", "kept", "found"] ["n", "ties", "k", "tie", "due"] (defScope st_l_right) := ⟨rfl, rfl, rfl, by decide +kernel, rfl, by decide +kernel, by decide +kernel⟩
abbrev st_law : Stmt := topS 49
theorem sc_law : FnScope ["script", "cell", "pot", "n", "ties", "tie", "word", "due", "k", "many", "moment"] ["script"] (defScope st_law) := ⟨rfl, rfl, rfl, by decide +kernel, rfl, by decide +kernel, by decide +kernel⟩
abbrev si_Clash : Stmt := clsS (topS 12) 0
theorem sci_Clash : FnScope ["self", "moment"] ["self", "moment"] (defScope si_Clash) := ⟨rfl, rfl, rfl, by decide +kernel, rfl, by decide +kernel, by decide +kernel⟩
structure Tx (K : PySem.W.Frag) (mg : Str → Option Value) where
  a_is_whole : Addr
  d_is_whole : FuncData
  F_is_whole : L2.Fun K "is_whole" "is_whole" st_is_whole a_is_whole d_is_whole
  m_is_whole : mg "is_whole" = some (.ref a_is_whole)
  b_is_whole : Binds K d_is_whole ["thing"] []
  a_is_place : Addr
  d_is_place : FuncData
  F_is_place : L2.Fun K "is_place" "is_place" st_is_place a_is_place d_is_place
  m_is_place : mg "is_place" = some (.ref a_is_place)
  b_is_place : Binds K d_is_place ["n", "thing"] []
  a_is_moment : Addr
  d_is_moment : FuncData
  F_is_moment : L2.Fun K "is_moment" "is_moment" st_is_moment a_is_moment d_is_moment
  m_is_moment : mg "is_moment" = some (.ref a_is_moment)
  b_is_moment : Binds K d_is_moment ["thing"] []
  a_is_meeting : Addr
  d_is_meeting : FuncData
  F_is_meeting : L2.Fun K "is_meeting" "is_meeting" st_is_meeting a_is_meeting d_is_meeting
  m_is_meeting : mg "is_meeting" = some (.ref a_is_meeting)
  b_is_meeting : Binds K d_is_meeting ["n", "thing"] []
  a_is_tie : Addr
  d_is_tie : FuncData
  F_is_tie : L2.Fun K "is_tie" "is_tie" st_is_tie a_is_tie d_is_tie
  m_is_tie : mg "is_tie" = some (.ref a_is_tie)
  b_is_tie : Binds K d_is_tie ["n", "thing"] []
  a_is_record : Addr
  d_is_record : FuncData
  F_is_record : L2.Fun K "is_record" "is_record" st_is_record a_is_record d_is_record
  m_is_record : mg "is_record" = some (.ref a_is_record)
  b_is_record : Binds K d_is_record ["n", "thing"] []
  a_joined : Addr
  d_joined : FuncData
  F_joined : L2.Fun K "joined" "joined" st_joined a_joined d_joined
  m_joined : mg "joined" = some (.ref a_joined)
  b_joined : Binds K d_joined ["marks", "a", "b"] []
  a_is_depth : Addr
  d_is_depth : FuncData
  F_is_depth : L2.Fun K "is_depth" "is_depth" st_is_depth a_is_depth d_is_depth
  m_is_depth : mg "is_depth" = some (.ref a_is_depth)
  b_is_depth : Binds K d_is_depth ["thing"] []
  a_look_at_layers : Addr
  d_look_at_layers : FuncData
  F_look_at_layers : L2.Fun K "look_at_layers" "look_at_layers" st_look_at_layers a_look_at_layers d_look_at_layers
  m_look_at_layers : mg "look_at_layers" = some (.ref a_look_at_layers)
  b_look_at_layers : Binds K d_look_at_layers ["k"] []
  a_layer_for : Addr
  d_layer_for : FuncData
  F_layer_for : L2.Fun K "layer_for" "layer_for" st_layer_for a_layer_for d_layer_for
  m_layer_for : mg "layer_for" = some (.ref a_layer_for)
  b_layer_for : Binds K d_layer_for ["marks", "a", "b"] []
  a_layered : Addr
  d_layered : FuncData
  F_layered : L2.Fun K "layered" "layered" st_layered a_layered d_layered
  m_layered : mg "layered" = some (.ref a_layered)
  b_layered : Binds K d_layered ["n", "record", "k"] []
  a_come_to : Addr
  d_come_to : FuncData
  F_come_to : L2.Fun K "come_to" "come_to" st_come_to a_come_to d_come_to
  m_come_to : mg "come_to" = some (.ref a_come_to)
  b_come_to : Binds K d_come_to ["ties", "place"] []
  a_ring_with : Addr
  d_ring_with : FuncData
  F_ring_with : L2.Fun K "ring_with" "ring_with" st_ring_with a_ring_with d_ring_with
  m_ring_with : mg "ring_with" = some (.ref a_ring_with)
  b_ring_with : Binds K d_ring_with ["ties", "tie"] []
  a_moves : Addr
  d_moves : FuncData
  F_moves : L2.Fun K "moves" "moves" st_moves a_moves d_moves
  m_moves : mg "moves" = some (.ref a_moves)
  b_moves : Binds K d_moves ["n", "record", "k", "tie"] []
  a_l_begun : Addr
  d_l_begun : FuncData
  F_l_begun : L2.Fun K "_law_begun" "_law_begun" st_l_begun a_l_begun d_l_begun
  m_l_begun : mg "_law_begun" = some (.ref a_l_begun)
  b_l_begun : Binds K d_l_begun ["cell"] []
  a_l_take : Addr
  d_l_take : FuncData
  F_l_take : L2.Fun K "_law_take" "_law_take" st_l_take a_l_take d_l_take
  m_l_take : mg "_law_take" = some (.ref a_l_take)
  b_l_take : Binds K d_l_take ["pot", "size"] []
  a_l_wide : Addr
  d_l_wide : FuncData
  F_l_wide : L2.Fun K "_law_wide" "_law_wide" st_l_wide a_l_wide d_l_wide
  m_l_wide : mg "_law_wide" = some (.ref a_l_wide)
  b_l_wide : Binds K d_l_wide ["pot", "size"] []
  a_l_places : Addr
  d_l_places : FuncData
  F_l_places : L2.Fun K "_law_places" "_law_places" st_l_places a_l_places d_l_places
  m_l_places : mg "_law_places" = some (.ref a_l_places)
  b_l_places : Binds K d_l_places ["pot"] []
  a_l_depth : Addr
  d_l_depth : FuncData
  F_l_depth : L2.Fun K "_law_depth" "_law_depth" st_l_depth a_l_depth d_l_depth
  m_l_depth : mg "_law_depth" = some (.ref a_l_depth)
  b_l_depth : Binds K d_l_depth ["pot"] []
  a_l_ends : Addr
  d_l_ends : FuncData
  F_l_ends : L2.Fun K "_law_ends" "_law_ends" st_l_ends a_l_ends d_l_ends
  m_l_ends : mg "_law_ends" = some (.ref a_l_ends)
  b_l_ends : Binds K d_l_ends ["pot", "n", "ties"] []
  a_l_drawn_ties : Addr
  d_l_drawn_ties : FuncData
  F_l_drawn_ties : L2.Fun K "_law_drawn_ties" "_law_drawn_ties" st_l_drawn_ties a_l_drawn_ties d_l_drawn_ties
  m_l_drawn_ties : mg "_law_drawn_ties" = some (.ref a_l_drawn_ties)
  b_l_drawn_ties : Binds K d_l_drawn_ties ["pot", "n", "most"] []
  a_l_new_tie : Addr
  d_l_new_tie : FuncData
  F_l_new_tie : L2.Fun K "_law_new_tie" "_law_new_tie" st_l_new_tie a_l_new_tie d_l_new_tie
  m_l_new_tie : mg "_law_new_tie" = some (.ref a_l_new_tie)
  b_l_new_tie : Binds K d_l_new_tie ["pot", "n", "ties"] []
  a_l_odd_tie : Addr
  d_l_odd_tie : FuncData
  F_l_odd_tie : L2.Fun K "_law_odd_tie" "_law_odd_tie" st_l_odd_tie a_l_odd_tie d_l_odd_tie
  m_l_odd_tie : mg "_law_odd_tie" = some (.ref a_l_odd_tie)
  b_l_odd_tie : Binds K d_l_odd_tie ["pot", "n"] []
  a_l_odd_depth : Addr
  d_l_odd_depth : FuncData
  F_l_odd_depth : L2.Fun K "_law_odd_depth" "_law_odd_depth" st_l_odd_depth a_l_odd_depth d_l_odd_depth
  m_l_odd_depth : mg "_law_odd_depth" = some (.ref a_l_odd_depth)
  b_l_odd_depth : Binds K d_l_odd_depth ["pot"] []
  a_l_told_of : Addr
  d_l_told_of : FuncData
  F_l_told_of : L2.Fun K "_law_told_of" "_law_told_of" st_l_told_of a_l_told_of d_l_told_of
  m_l_told_of : mg "_law_told_of" = some (.ref a_l_told_of)
  b_l_told_of : Binds K d_l_told_of ["n", "ties", "k", "tie"] []
  a_l_field_of : Addr
  d_l_field_of : FuncData
  F_l_field_of : L2.Fun K "_law_field_of" "_law_field_of" st_l_field_of a_l_field_of d_l_field_of
  m_l_field_of : mg "_law_field_of" = some (.ref a_l_field_of)
  b_l_field_of : Binds K d_l_field_of ["n", "ties", "k", "tie"] []
  a_l_chosen : Addr
  d_l_chosen : FuncData
  F_l_chosen : L2.Fun K "_law_chosen" "_law_chosen" st_l_chosen a_l_chosen d_l_chosen
  m_l_chosen : mg "_law_chosen" = some (.ref a_l_chosen)
  b_l_chosen : Binds K d_l_chosen ["pot", "n", "ties"] []
  a_l_right : Addr
  d_l_right : FuncData
  F_l_right : L2.Fun K "_law_right" "_law_right" st_l_right a_l_right d_l_right
  m_l_right : mg "_law_right" = some (.ref a_l_right)
  b_l_right : Binds K d_l_right ["n", "ties", "k", "tie", "due"] []
  a_law : Addr
  d_law : FuncData
  F_law : L2.Fun K "law" "law" st_law a_law d_law
  m_law : mg "law" = some (.ref a_law)
  b_law : Binds K d_law ["script"] []
  n_isinstance : mg "isinstance" = none
  n_int : mg "int" = none
  n_bool : mg "bool" = none
  n_tuple : mg "tuple" = none
  n_len : mg "len" = none
  n_list : mg "list" = none
  n_all : mg "all" = none
  n_range : mg "range" = none
  n_min : mg "min" = none
  n_max : mg "max" = none
  n_enumerate : mg "enumerate" = none
  n_reversed : mg "reversed" = none
  n_zip : mg "zip" = none
  n_abs : mg "abs" = none
  n_ValueError : mg "ValueError" = none
  n_str : mg "str" = none
  C_NoLayers : Addr
  E_NoLayers : ExT K mg "NoLayers" C_NoLayers
  Q_NoLayers : PySem.W.excIn K C_NoLayers veB "ValueError.__new__" = true
  C_NoTies : Addr
  E_NoTies : ExT K mg "NoTies" C_NoTies
  Q_NoTies : PySem.W.excIn K C_NoTies veB "ValueError.__new__" = true
  C_Clash : Addr
  E_Clash : ExT K mg "Clash" C_Clash
  C_PlyError : Addr
  E_PlyError : ExT K mg "PlyError" C_PlyError
  C_Unlike : Addr
  E_Unlike : ExT K mg "Unlike" C_Unlike
  C_NoText : Addr
  E_NoText : ExT K mg "NoText" C_NoText
  C_NoRow : Addr
  E_NoRow : ExT K mg "NoRow" C_NoRow
  C_NoPlaces : Addr
  E_NoPlaces : ExT K mg "NoPlaces" C_NoPlaces
  C_NoPaper : Addr
  E_NoPaper : ExT K mg "NoPaper" C_NoPaper
  C_NoPair : Addr
  E_NoPair : ExT K mg "NoPair" C_NoPair
  C_NoNet : Addr
  E_NoNet : ExT K mg "NoNet" C_NoNet
  C_NoDeed : Addr
  E_NoDeed : ExT K mg "NoDeed" C_NoDeed
  iA_Clash : Addr
  iD_Clash : FuncData
  iF_Clash : L2.Fun K "__init__" "Clash.__init__" si_Clash iA_Clash iD_Clash
  ib_Clash : Binds K iD_Clash ["self", "moment"] []
  ii_Clash : PySem.W.findIn K (.ref C_Clash) "__init__" = some (some (.ref iA_Clash))
  it_Clash : PySem.W.typeIn K (.ref iA_Clash) = some (.type "function")
  ih_Clash : PySem.W.findIn K (.ref C_Clash) "moment" = some none
  is_Clash : PySem.W.findIn K (.ref C_Clash) "__setattr__" = some (some (.builtin "object.__setattr__"))
  io_Clash : ∃ nm q N bs bm sn sub ab col dd k0 k1 k2 k3 k5, K.lookup C_Clash = some (excClassObj nm q C_Clash N bs bm true sn sub ab col dd k0 k1 k2 k3 k5 "ValueError.__new__") ∧ PySem.HandSPX.refsVE bm = true
  ip_Clash : PySem.W.readsIn K C_PlyError (.type "type") = true
  iq_Clash : PySem.W.specialIn K (.ref C_PlyError) "__getattribute__" = some (some (.builtin "type.__getattribute__"))
  ir_Clash : PySem.W.findCls K (.ref C_PlyError) (.type "type") "__init__" = some (.val (.builtin "ValueError.__init__"))
  S_Clash_Unlike : PySem.W.subIn K (.ref C_Clash) (.ref C_Unlike) = some false
  S_Clash_Clash : PySem.W.subIn K (.ref C_Clash) (.ref C_Clash) = some true
  S_Clash_NoText : PySem.W.subIn K (.ref C_Clash) (.ref C_NoText) = some false
  S_Clash_NoRow : PySem.W.subIn K (.ref C_Clash) (.ref C_NoRow) = some false
  S_Clash_NoPlaces : PySem.W.subIn K (.ref C_Clash) (.ref C_NoPlaces) = some false
  S_Clash_NoPaper : PySem.W.subIn K (.ref C_Clash) (.ref C_NoPaper) = some false
  S_Clash_NoPair : PySem.W.subIn K (.ref C_Clash) (.ref C_NoPair) = some false
  S_Clash_NoNet : PySem.W.subIn K (.ref C_Clash) (.ref C_NoNet) = some false
  S_Clash_NoDeed : PySem.W.subIn K (.ref C_Clash) (.ref C_NoDeed) = some false
  S_NoTies_Unlike : PySem.W.subIn K (.ref C_NoTies) (.ref C_Unlike) = some false
  S_NoTies_NoTies : PySem.W.subIn K (.ref C_NoTies) (.ref C_NoTies) = some true
  S_NoTies_NoText : PySem.W.subIn K (.ref C_NoTies) (.ref C_NoText) = some false
  S_NoTies_NoRow : PySem.W.subIn K (.ref C_NoTies) (.ref C_NoRow) = some false
  S_NoTies_NoPlaces : PySem.W.subIn K (.ref C_NoTies) (.ref C_NoPlaces) = some false
  S_NoTies_NoPaper : PySem.W.subIn K (.ref C_NoTies) (.ref C_NoPaper) = some false
  S_NoTies_NoPair : PySem.W.subIn K (.ref C_NoTies) (.ref C_NoPair) = some false
  S_NoTies_NoNet : PySem.W.subIn K (.ref C_NoTies) (.ref C_NoNet) = some false
  S_NoTies_NoDeed : PySem.W.subIn K (.ref C_NoTies) (.ref C_NoDeed) = some false
  S_NoLayers_Unlike : PySem.W.subIn K (.ref C_NoLayers) (.ref C_Unlike) = some false
  S_NoLayers_NoLayers : PySem.W.subIn K (.ref C_NoLayers) (.ref C_NoLayers) = some true
  S_NoLayers_NoText : PySem.W.subIn K (.ref C_NoLayers) (.ref C_NoText) = some false
  S_NoLayers_NoRow : PySem.W.subIn K (.ref C_NoLayers) (.ref C_NoRow) = some false
  S_NoLayers_NoPlaces : PySem.W.subIn K (.ref C_NoLayers) (.ref C_NoPlaces) = some false
  S_NoLayers_NoPaper : PySem.W.subIn K (.ref C_NoLayers) (.ref C_NoPaper) = some false
  S_NoLayers_NoPair : PySem.W.subIn K (.ref C_NoLayers) (.ref C_NoPair) = some false
  S_NoLayers_NoNet : PySem.W.subIn K (.ref C_NoLayers) (.ref C_NoNet) = some false
  S_NoLayers_NoDeed : PySem.W.subIn K (.ref C_NoLayers) (.ref C_NoDeed) = some false
  S_Clash_ValueError : PySem.W.subIn K (.ref C_Clash) (.type "ValueError") = some true
  S_NoTies_ValueError : PySem.W.subIn K (.ref C_NoTies) (.type "ValueError") = some true
  S_NoLayers_ValueError : PySem.W.subIn K (.ref C_NoLayers) (.type "ValueError") = some true
  S_Clash_NoLayers : PySem.W.subIn K (.ref C_Clash) (.ref C_NoLayers) = some false
  S_NoTies_NoLayers : PySem.W.subIn K (.ref C_NoTies) (.ref C_NoLayers) = some false
  S_Clash_NoTies : PySem.W.subIn K (.ref C_Clash) (.ref C_NoTies) = some false
  S_NoLayers_NoTies : PySem.W.subIn K (.ref C_NoLayers) (.ref C_NoTies) = some false
  S_NoTies_Clash : PySem.W.subIn K (.ref C_NoTies) (.ref C_Clash) = some false
  S_NoLayers_Clash : PySem.W.subIn K (.ref C_NoLayers) (.ref C_Clash) = some false
  S_Clash_PlyError : PySem.W.subIn K (.ref C_Clash) (.ref C_PlyError) = some true
  S_NoTies_PlyError : PySem.W.subIn K (.ref C_NoTies) (.ref C_PlyError) = some true
  S_NoLayers_PlyError : PySem.W.subIn K (.ref C_NoLayers) (.ref C_PlyError) = some true
  c_LAST_MOMENT : ∃ tk, mg "LAST_MOMENT" = some (.int (1000000000000000000000000000000) tk)
  c_MOST_TIES : ∃ tk, mg "MOST_TIES" = some (.int (60) tk)
  c_MOST_LAYERS : ∃ tk, mg "MOST_LAYERS" = some (.int (6) tk)
section
variable {P : Program} {w : World} {K : PySem.W.Frag} {mg : Str → Option Value} {base : Heap}
theorem iok_Clash (t : Tx K mg) : FnOk P w K mg base CX0 1 t.iA_Clash t.iD_Clash ["self", "moment"] (spMomK K) := by
  refine t.iF_Clash.ok sci_Clash (fun vs H Q E h => by obtain ⟨a, C, v, rfl, _⟩ := h; rfl) (fun cdv A outer s H vs Q E hr h => ⟨_, pss_cons (ps_expr (pe_clsinit t.E_PlyError.g ⟨t.ip_Clash, t.iq_Clash⟩ t.ir_Clash (pa_cons (pv 0) (pa_cons pe_str pa_nil)))) (pss_one (ps_ost (pv 0) (pv 1))), init_pure h⟩)
theorem xi_Clash (t : Tx K mg) : ExI P w K mg base "Clash" t.C_Clash := ⟨t.E_Clash, ⟨t.io_Clash, t.is_Clash, t.E_Clash.x.hs, t.E_Clash.t, t.E_Clash.k⟩, t.ih_Clash, t.iA_Clash, t.iD_Clash, t.ii_Clash, t.it_Clash, iok_Clash t, t.ib_Clash⟩
abbrev g_is_whole : Gs := FamL.g_is_whole
abbrev f_is_whole : List Dt → O Dt := FamL.f_is_whole
theorem ok_is_whole (t : Tx K mg) : FnOk P w K mg base CX0 1 t.a_is_whole t.d_is_whole ["thing"] (spG K mg 1 f_is_whole) := by
  have nd : (["thing"] : List Str).Nodup := by decide +kernel
  exact fn_okN t.F_is_whole (Δn := [.im false]) sc_is_whole rfl rfl (by decide) fun cdv A outer s H E hr => ⟨_, BD.frm [.im false] (Δb := kd0 1 1 false) (Δc := kd0 1 1 false)
    (b_one (z_ret (x_and (x_isa .int t.n_isinstance t.n_int (x_var 0)) (x_one (x_not (x_isa .bool t.n_isinstance t.n_bool (x_var 0))))))) rfl⟩
def g_is_place : Gs := gRet (gAndV (gCallN 1 f_is_whole (gCons (gVar 1) (gNil))) (gChain hLe hLt (gC (.int (0))) (gVar 1) (gVar 0)))
def f_is_place : List Dt → O Dt := fnN 2 g_is_place
theorem ok_is_place (t : Tx K mg) : FnOk P w K mg base CX0 2 t.a_is_place t.d_is_place ["n", "thing"] (spG K mg 2 f_is_place) := by
  have G_is_whole := ok_is_whole (P := P) (w := w) (base := base) t
  have nd : (["n", "thing"] : List Str).Nodup := by decide +kernel
  exact fn_okN t.F_is_place (Δn := [.im false, .im false]) sc_is_place rfl rfl (by decide) fun cdv A outer s H E hr => ⟨_, BD.frm [.im false, .im false] (Δb := kd0 2 2 false) (Δc := kd0 2 2 false)
    (b_one (z_ret (x_and (x_callN G_is_whole (hr.mono (by decide)) t.m_is_whole t.F_is_whole.kp t.b_is_whole pass0 (AD.to true false (a_cons (x_var 1) (a_nil)))) (x_one (x_chain or_le or_lt (x_int) (x_var 1) (x_var 0)))))) rfl⟩
def g_is_moment : Gs := gRet (gAndV (gCallN 1 f_is_whole (gCons (gVar 0) (gNil))) (gChain hLe hLe (gC (.int (0))) (gVar 0) (gC (.int (1000000000000000000000000000000)))))
def f_is_moment : List Dt → O Dt := fnN 1 g_is_moment
theorem ok_is_moment (t : Tx K mg) : FnOk P w K mg base CX0 2 t.a_is_moment t.d_is_moment ["thing"] (spG K mg 1 f_is_moment) := by
  obtain ⟨_, h_LAST_MOMENT⟩ := t.c_LAST_MOMENT
  have G_is_whole := ok_is_whole (P := P) (w := w) (base := base) t
  have nd : (["thing"] : List Str).Nodup := by decide +kernel
  exact fn_okN t.F_is_moment (Δn := [.im false]) sc_is_moment rfl rfl (by decide) fun cdv A outer s H E hr => ⟨_, BD.frm [.im false] (Δb := kd0 1 1 false) (Δc := kd0 1 1 false)
    (b_one (z_ret (x_and (x_callN G_is_whole (hr.mono (by decide)) t.m_is_whole t.F_is_whole.kp t.b_is_whole pass0 (AD.to true false (a_cons (x_var 0) (a_nil)))) (x_one (x_chain or_le or_le (x_int) (x_var 0) (x_glob (v := .int (1000000000000000000000000000000)) h_LAST_MOMENT ⟨_, rfl⟩ (.int _))))))) rfl⟩
def g_is_meeting : Gs := gSeqS (gIfS (gOr (gNot (gTest (gUn (hIsa .tuple) (gVar 1)))) (gOr (gTest (gOp hNe (gCB hLen (gCons (gVar 1) (gNil))) (gC (.int (3))))) (gNot (gTest (gCallN 1 f_is_moment (gCons (gOp hIx (gVar 1) (gC (.int (0)))) (gNil))))))) (gRet (gC (.bool false))) (gNext)) (gRet (gAndV (gCallN 2 f_is_place (gCons (gVar 0) (gCons (gOp hIx (gVar 1) (gC (.int (1)))) (gNil)))) (gCallN 2 f_is_place (gCons (gVar 0) (gCons (gOp hIx (gVar 1) (gC (.int (2)))) (gNil))))))
def f_is_meeting : List Dt → O Dt := fnN 2 g_is_meeting
theorem ok_is_meeting (t : Tx K mg) : FnOk P w K mg base CX0 3 t.a_is_meeting t.d_is_meeting ["n", "thing"] (spG K mg 2 f_is_meeting) := by
  have G_is_moment := ok_is_moment (P := P) (w := w) (base := base) t
  have G_is_place := ok_is_place (P := P) (w := w) (base := base) t
  have nd : (["n", "thing"] : List Str).Nodup := by decide +kernel
  exact fn_okN t.F_is_meeting (Δn := [.im false, .im false]) sc_is_meeting rfl rfl (by decide) fun cdv A outer s H E hr => ⟨_, BD.frm [.im false, .im false] (Δb := kd0 2 2 false) (Δc := kd0 2 2 false)
    (b_cons (z_if (Δn := [.im false, .im false]) (c_w (w_or (c_not (c_val (x_isa .tuple t.n_isinstance t.n_tuple (x_var 1)))) (w_or (c_cmp (or_ne hr) (x_len t.n_len (AD.to true false (a_cons (x_var 1) (a_nil)))) (x_int)) (w_or1 (c_not (c_val (x_callN G_is_moment (hr.mono (by decide)) t.m_is_moment t.F_is_moment.kp t.b_is_moment pass0 (AD.to true false (a_cons (x_ix (x_var 1) (x_int)) (a_nil))))))))))
    (b_one (z_ret (x_bl)))
    ((b_nil).to [.im false, .im false]))
    (b_one (z_ret (x_and (x_callN G_is_place (hr.mono (by decide)) t.m_is_place t.F_is_place.kp t.b_is_place pass0 (AD.to true false (a_cons (x_var 0) (a_cons (x_ix (x_var 1) (x_int)) (a_nil))))) (x_one (x_callN G_is_place (hr.mono (by decide)) t.m_is_place t.F_is_place.kp t.b_is_place pass0 (AD.to true false (a_cons (x_var 0) (a_cons (x_ix (x_var 1) (x_int)) (a_nil)))))))))) rfl⟩
def g_is_tie : Gs := gRet (gAndV (gCallN 2 f_is_meeting (gCons (gVar 0) (gCons (gVar 1) (gNil)))) (gOp hLe (gOp hIx (gVar 1) (gC (.int (1)))) (gOp hIx (gVar 1) (gC (.int (2))))))
def f_is_tie : List Dt → O Dt := fnN 2 g_is_tie
theorem ok_is_tie (t : Tx K mg) : FnOk P w K mg base CX0 4 t.a_is_tie t.d_is_tie ["n", "thing"] (spG K mg 2 f_is_tie) := by
  have G_is_meeting := ok_is_meeting (P := P) (w := w) (base := base) t
  have nd : (["n", "thing"] : List Str).Nodup := by decide +kernel
  exact fn_okN t.F_is_tie (Δn := [.im false, .im false]) sc_is_tie rfl rfl (by decide) fun cdv A outer s H E hr => ⟨_, BD.frm [.im false, .im false] (Δb := kd0 2 2 false) (Δc := kd0 2 2 false)
    (b_one (z_ret (x_and (x_callN G_is_meeting (hr.mono (by decide)) t.m_is_meeting t.F_is_meeting.kp t.b_is_meeting pass0 (AD.to true false (a_cons (x_var 0) (a_cons (x_var 1) (a_nil))))) (x_one (x_cmp or_le (x_ix (x_var 1) (x_int)) (x_ix (x_var 1) (x_int))))))) rfl⟩
def g_is_record : Gs := gSeqS (gIfS (gOr (gNot (gTest (gUn (hIsa .list) (gVar 1)))) (gTest (gOp hGt (gCB hLen (gCons (gVar 1) (gNil))) (gC (.int (60)))))) (gRet (gC (.bool false))) (gNext)) (gSeqS (gIfS (gNot (gTest (gCB hAll (gCons (gLc (gSeq (gVar 1)) (tgN 2) (gYes) (gCallN 2 f_is_tie (gCons (gVar 0) (gCons (gVar 2) (gNil))))) (gNil))))) (gRet (gC (.bool false))) (gNext)) (gRet (gCB hAll (gCons (gLc (gRng2 (gCons (gC (.int (1))) (gCons (gCB hLen (gCons (gVar 1) (gNil))) (gNil)))) (tgN 3) (gYes) (gOp hLt (gOp hIx (gOp hIx (gVar 1) (gOp hSub (gVar 3) (gC (.int (1))))) (gC (.int (0)))) (gOp hIx (gOp hIx (gVar 1) (gVar 3)) (gC (.int (0)))))) (gNil)))))
def f_is_record : List Dt → O Dt := fnN 4 g_is_record
theorem ok_is_record (t : Tx K mg) : FnOk P w K mg base CX0 5 t.a_is_record t.d_is_record ["n", "thing"] (spG K mg 2 f_is_record) := by
  obtain ⟨_, h_MOST_TIES⟩ := t.c_MOST_TIES
  have G_is_tie := ok_is_tie (P := P) (w := w) (base := base) t
  have nd : (["n", "thing", "tie", "at"] : List Str).Nodup := by decide +kernel
  exact fn_okN t.F_is_record (Δn := [.im false, .im false, .no, .no]) sc_is_record rfl rfl (by decide) fun cdv A outer s H E hr => ⟨_, BD.frm [.im false, .im false, .no, .no] (Δb := kd0 2 4 false) (Δc := kd0 2 4 false)
    (b_cons (z_if (Δn := [.im false, .im false, .no, .no]) (c_w (w_or (c_not (c_val (x_isa .list t.n_isinstance t.n_list (x_var 1)))) (w_or1 (c_cmp or_gt (x_len t.n_len (AD.to true false (a_cons (x_var 1) (a_nil)))) (x_glob (v := .int (60)) h_MOST_TIES ⟨_, rfl⟩ (.int _))))))
    (b_one (z_ret (x_bl)))
    ((b_nil).to [.im false, .im false, .no, .no]))
    (b_cons (z_if (Δn := [.im false, .im false, .no, .no]) (c_not (c_val (x_all t.n_all (AD.to true true (a_cons ((x_lc (n := 4) [("tie", 2)] nd (i_seq (x_var 1)) (blk_fx (N := ["n", "thing", "tie", "at"]) (sc := defScope st_is_record) (by decide +kernel)) (fun _ _ _ _ _ => g_name 2 nd) (fun _ _ _ _ _ => t_nil) (fun _ _ _ _ _ => x_callN G_is_tie (hr.mono (by decide)) t.m_is_tie t.F_is_tie.kp t.b_is_tie pass0 (AD.to true false (a_cons (x_var 0) (a_cons (x_var 2) (a_nil)))))).nv) (a_nil))))))
    (b_one (z_ret (x_bl)))
    ((b_nil).to [.im false, .im false, .no, .no]))
    (b_one (z_ret (x_all t.n_all (AD.to true true (a_cons ((x_lc (n := 4) [("at", 3)] nd (i_rng2 t.n_range (AD.to true true (a_cons (x_int) (a_cons (x_len t.n_len (AD.to true false (a_cons (x_var 1) (a_nil)))) (a_nil))))) (blk_fx (N := ["n", "thing", "tie", "at"]) (sc := defScope st_is_record) (by decide +kernel)) (fun _ _ _ _ _ => g_name 3 nd) (fun _ _ _ _ _ => t_nil) (fun _ _ _ _ _ => x_cmp or_lt (x_ix (x_ix (x_var 1) (x_sub (x_var 3) (x_int))) (x_int)) (x_ix (x_ix (x_var 1) (x_var 3)) (x_int)))).nv) (a_nil)))))))) rfl⟩
abbrev g_joined : Gs := FamL.g_joined
abbrev f_joined : List Dt → O Dt := FamL.f_joined
theorem ok_joined (t : Tx K mg) : FnOk P w K mg base CX0 1 t.a_joined t.d_joined ["marks", "a", "b"] (spL K mg 3 f_joined) := by
  have nd : (["marks", "a", "b", "low", "high", "mark"] : List Str).Nodup := by decide +kernel
  exact fn_okL t.F_joined (Δn := [.im false, .im false, .im false, .no, .no, .no]) sc_joined rfl rfl (by decide) fun cdv A outer s H E hr => ⟨_, BD.frm [.im false, .im false, .im false, .no, .no, .no] (Δb := kd0 3 6 false) (Δc := kd0 3 6 false)
    (b_cons ((z_set 3 nd (x_min2 t.n_min (AD.to true false (a_cons (x_ix (x_var 0) (x_var 1)) (a_cons (x_ix (x_var 0) (x_var 2)) (a_nil)))))).to [.im false, .im false, .im false, .im true, .no, .no])
    (b_cons ((z_set 4 nd (x_max2 t.n_max (AD.to true false (a_cons (x_ix (x_var 0) (x_var 1)) (a_cons (x_ix (x_var 0) (x_var 2)) (a_nil)))))).to [.im false, .im false, .im false, .im true, .im true, .no])
    (b_one (z_retL (PD.purN (x_lc (n := 6) [("mark", 5)] nd (i_seq (x_var 0)) (blk_fx (N := ["marks", "a", "b", "low", "high", "mark"]) (sc := defScope st_joined) (by decide +kernel)) (fun _ _ _ _ _ => g_name 5 nd) (fun _ _ _ _ _ => t_nil) (fun _ _ _ _ _ => x_ifE (c_cmp (or_eq hr) (x_var 5) (x_var 4)) ((x_var 3).wk (av' := true) (fr' := false)) (x_var 5)))))))) rfl⟩
abbrev g_is_depth : Gs := FamL.g_is_depth
abbrev f_is_depth : List Dt → O Dt := FamL.f_is_depth
theorem ok_is_depth (t : Tx K mg) : FnOk P w K mg base CX0 2 t.a_is_depth t.d_is_depth ["thing"] (spG K mg 1 f_is_depth) := by
  obtain ⟨_, h_MOST_LAYERS⟩ := t.c_MOST_LAYERS
  have G_is_whole := ok_is_whole (P := P) (w := w) (base := base) t
  have nd : (["thing"] : List Str).Nodup := by decide +kernel
  exact fn_okN t.F_is_depth (Δn := [.im false]) sc_is_depth rfl rfl (by decide) fun cdv A outer s H E hr => ⟨_, BD.frm [.im false] (Δb := kd0 1 1 false) (Δc := kd0 1 1 false)
    (b_one (z_ret (x_and (x_callN G_is_whole (hr.mono (by decide)) t.m_is_whole t.F_is_whole.kp t.b_is_whole pass0 (AD.to true false (a_cons (x_var 0) (a_nil)))) (x_one (x_chain or_le or_le (x_int) (x_var 0) (x_glob (v := .int (6)) h_MOST_LAYERS ⟨_, rfl⟩ (.int _))))))) rfl⟩
def g_look_at_layers : Gs := gIfS (gNot (gTest (gCallN 1 f_is_depth (gCons (gVar 0) (gNil))))) (gRaise "NoLayers") (gNext)
def f_look_at_layers : List Dt → O Dt := fnNX 1 g_look_at_layers
theorem ok_look_at_layers (t : Tx K mg) : FnOk P w K mg base (L2N.CX P w) 3 t.a_look_at_layers t.d_look_at_layers ["k"] (spG K mg 1 f_look_at_layers) := by
  have G_is_depth := ok_is_depth (P := P) (w := w) (base := base) t
  have nd : (["k"] : List Str).Nodup := by decide +kernel
  exact fn_okNX t.F_look_at_layers (Δn := [.im false]) sc_look_at_layers rfl rfl (by decide) fun cdv A outer s H E hr tk hp => ⟨_, BD.frm [.im false] (Δb := kd0 1 1 false) (Δc := kd0 1 1 false)
    (BD.to [.im false] (b_one (z_if (Δn := [.im false]) (c_not (c_val (x_callN G_is_depth (hr.mono (by decide)) t.m_is_depth t.F_is_depth.kp t.b_is_depth pass0 (AD.to true false (a_cons (x_var 0) (a_nil))))))
    (b_one (z_raise0 tk t.E_NoLayers t.Q_NoLayers))
    ((b_nil).to [.im false])))) rfl⟩
abbrev g_layer_for : Gs := FamL.g_layer_for
abbrev f_layer_for : List Dt → O Dt := FamL.f_layer_for
theorem ok_layer_for (t : Tx K mg) : FnOk P w K mg base CX0 1 t.a_layer_for t.d_layer_for ["marks", "a", "b"] (spG K mg 3 f_layer_for) := by
  have nd : (["marks", "a", "b", "j", "row"] : List Str).Nodup := by decide +kernel
  exact fn_okN t.F_layer_for (Δn := [.im false, .im false, .im false, .no, .no]) sc_layer_for rfl rfl (by decide) fun cdv A outer s H E hr => ⟨_, BD.frm [.im false, .im false, .im false, .no, .no] (Δb := kd0 3 5 false) (Δc := kd0 3 5 false)
    (b_cons (z_for (n := 5) .never (i_enum t.n_enumerate (AD.to true false (a_cons (x_var 0) (a_nil)))) (g_tup (m := 2) rfl (g_cons (g_name 3 nd) (g_cons (g_name 4 nd) (g_nil))) (tgCons_len (tgCons_len tgNil_len)))
    ((b_one (z_if (Δn := [.im false, .im false, .im false, .im false, .im false]) (c_cmp (or_ne hr) (x_ix (x_var 4) (x_var 1)) (x_ix (x_var 4) (x_var 2)))
    (b_one (z_ret (x_add (x_var 3) (x_int))))
    ((b_nil).to [.im false, .im false, .im false, .im false, .im false]))).to [.im false, .im false, .im false, .no, .no]))
    (b_one (z_ret (x_int)))) rfl⟩
def g_layered_L1 : Gs := gSeqS (gSet 4 (gCallN 3 f_layer_for (gCons (gVar 3) (gCons (gVar 7) (gCons (gVar 8) (gNil)))))) (gSeqS (gIfS (gTest (gOp hGt (gVar 4) (gC (.int (0))))) (gSetI 3 (gCallN 3 f_joined (gCons (gOp hIx (gVar 3) (gOp hSub (gVar 4) (gC (.int (1))))) (gCons (gVar 7) (gCons (gVar 8) (gNil))))) (gOp hSub (gVar 4) (gC (.int (1))))) (gNext)) (gApp 5 (gVar 4)))
def g_layered : Gs := gSeqS (gDrop (gCallX 1 f_look_at_layers (gCons (gVar 2) (gNil)))) (gSeqS (gSet 3 (gLc (gRng1 (gCons (gVar 2) (gNil))) (tgN 4) (gYes) (gLsI (gRng1 (gCons (gVar 0) gNil))))) (gSeqS (gSet 5 (gLst (gNil))) (gSeqS (gFor (gRev (gCons (gVar 1) (gNil))) (tgT (tgCons (tgN 6) (tgCons (tgN 7) (tgCons (tgN 8) (tgNil))))) g_layered_L1) (gRet (gLsI (gRev (gCons (gVar 5) gNil)))))))
def f_layered : List Dt → O Dt := fnLX 9 g_layered
theorem ok_layered (t : Tx K mg) : FnOk P w K mg base (L2N.CX P w) 4 t.a_layered t.d_layered ["n", "record", "k"] (spL K mg 3 f_layered) := by
  have G_look_at_layers := ok_look_at_layers (P := P) (w := w) (base := base) t
  have G_layer_for := ok_layer_for (P := P) (w := w) (base := base) t
  have G_joined := ok_joined (P := P) (w := w) (base := base) t
  have nd : (["n", "record", "k", "marks", "j", "numbers", "moment", "a", "b"] : List Str).Nodup := by decide +kernel
  exact fn_okLX t.F_layered (Δn := [.im false, .im false, .im false, .no, .no, .no, .no, .no, .no]) sc_layered rfl rfl (by decide) fun cdv A outer s H E hr tk hp => ⟨_, BD.frm [.im false, .im false, .im false, .no, .no, .no, .no, .no, .no] (Δb := kd0 3 9 false) (Δc := kd0 3 9 false)
    (b_cons ((z_expr (x_callXN tk G_look_at_layers (hr.mono (by decide)) t.m_look_at_layers t.F_look_at_layers.kp t.b_look_at_layers (AD.to true false (a_cons (x_var 2) (a_nil))))).to [.im false, .im false, .im false, .no, .no, .no, .no, .no, .no])
    (b_cons ((z_setLc 3 (n := 9) [("j", 4)] nd (i_rng1 t.n_range (AD.to true false (a_cons (x_var 2) (a_nil)))) (blk_fx (N := ["n", "record", "k", "marks", "j", "numbers", "moment", "a", "b"]) (sc := defScope st_layered) (by decide +kernel)) (fun _ _ _ _ _ => g_name 4 nd) (fun _ _ _ _ _ => t_nil) (fun _ _ _ _ _ => (x_lrng1 t.n_list t.n_range (x_var 0)).nv) (sw_true rfl rfl rfl (by decide +kernel))).to [.im false, .im false, .im false, .own .l true, .no, .no, .no, .no, .no])
    (b_cons ((z_setO 5 nd (x_lst (a_nil))).to [.im false, .im false, .im false, .own .l true, .no, .own .l true, .no, .no, .no])
    (b_cons (z_for (n := 9) hp (i_rev t.n_reversed (AD.to true false (a_cons (x_var 1) (a_nil)))) (g_tup (m := 3) rfl (g_cons (g_name 6 nd) (g_cons (g_name 7 nd) (g_cons (g_name 8 nd) (g_nil)))) (tgCons_len (tgCons_len (tgCons_len tgNil_len))))
    ((b_cons ((z_set 4 nd (x_callN G_layer_for (hr.mono (by decide)) t.m_layer_for t.F_layer_for.kp t.b_layer_for pass0 (AD.to false false (a_cons ((x_own 3).ov) (a_cons (x_var 7) (a_cons (x_var 8) (a_nil))))))).to [.im false, .im false, .im false, .own .l true, .im true, .own .l true, .im false, .im false, .im false])
    (b_cons (z_if (Δn := [.im false, .im false, .im false, .own .l true, .im true, .own .l true, .im false, .im false, .im false]) (c_cmp or_gt (x_var 4) (x_int))
    ((b_one ((z_setI 3 ((x_callL G_joined (hr.mono (by decide)) t.m_joined t.F_joined.kp t.b_joined pass0 (AD.to true false (a_cons (x_ixO (x_own 3) (x_sub (x_var 4) (x_int))) (a_cons (x_var 7) (a_cons (x_var 8) (a_nil)))))).nv) (x_sub (x_var 4) (x_int))).to [.im false, .im false, .im false, .own .l true, .im true, .own .l true, .im false, .im false, .im false])).to [.im false, .im false, .im false, .own .l true, .im true, .own .l true, .im false, .im false, .im false])
    ((b_nil).to [.im false, .im false, .im false, .own .l true, .im true, .own .l true, .im false, .im false, .im false]))
    (b_one ((z_app 5 (x_var 4)).to [.im false, .im false, .im false, .own .l true, .im true, .own .l true, .im false, .im false, .im false])))).to [.im false, .im false, .im false, .own .l true, .no, .own .l true, .no, .no, .no]))
    (b_one (z_retL (x_lrevO t.n_list t.n_reversed (x_own 5)))))))) rfl⟩
def g_come_to_L1 : Gs := gIfS (gTest (gOp hIn (gOp hIx (gVar 3) (gVar 4)) (gSl hSlT (gPur (gVar 5)) (gPart (gC (.int (1)))) (gNoPart)))) (gSeqS (gSet 6 (gOp hSub (gOp hAdd (gOp hIx (gPur (gVar 5)) (gC (.int (1)))) (gOp hIx (gPur (gVar 5)) (gC (.int (2))))) (gOp hIx (gVar 3) (gVar 4)))) (gIfS (gTest (gDIn true 2 (gVar 6))) (gSeqS (gDPut 2 (gPur (gVar 5)) (gVar 6)) (gApp 3 (gVar 6))) (gNext))) (gNext)
def g_come_to_L2 : Gs := gSeqS (gFor (gSeq (gVar 0)) (tgN 5) g_come_to_L1) (gAug (fun i j => i + j) 4 (gC (.int (1))))
def g_come_to_T2 : List Dt → O Bool := gTest (gOp hLt (gVar 4) (gCB hLen (gCons (gVar 3) (gNil))))
def g_come_to : Gs := gSeqS (gSet 2 (gDNew1 (gVar 1) (gC .none))) (gSeqS (gSet 3 (gLst (gCons (gVar 1) (gNil)))) (gSeqS (gSet 4 (gC (.int (0)))) (gSeqS (gWhile g_come_to_T2 g_come_to_L2 1000) (gRet (gVar 2)))))
def f_come_to : List Dt → O Dt := fnN 7 g_come_to
theorem ok_come_to (t : Tx K mg) : FnOk P w K mg base CX0 1 t.a_come_to t.d_come_to ["ties", "place"] (spG K mg 2 f_come_to) := by
  have nd : (["ties", "place", "came", "waiting", "at", "tie", "other"] : List Str).Nodup := by decide +kernel
  exact fn_okN t.F_come_to (Δn := [.im false, .im false, .no, .no, .no, .no, .no]) sc_come_to rfl rfl (by decide) fun cdv A outer s H E hr => ⟨_, BD.frm [.im false, .im false, .no, .no, .no, .no, .no] (Δb := kd0 2 7 false) (Δc := kd0 2 7 false)
    (b_cons ((z_setO 2 nd (x_dnew1 (x_var 1) (x_non))).to [.im false, .im false, .own .dk true, .no, .no, .no, .no])
    (b_cons ((z_setO 3 nd (x_lst (AD.to true false (a_cons (x_var 1) (a_nil))))).to [.im false, .im false, .own .dk true, .own .l false, .no, .no, .no])
    (b_cons ((z_set 4 nd (x_int)).to [.im false, .im false, .own .dk true, .own .l false, .im true, .no, .no])
    (b_cons (z_while 1000 .never (c_cmp or_lt (x_var 4) (x_len t.n_len (AD.to false false (a_cons ((x_own 3).ov) (a_nil)))))
    ((b_cons (z_for (n := 7) .never (i_seq (x_var 0)) (g_name 5 nd)
    ((b_one (z_if (Δn := [.im false, .im false, .own .dk true, .own .l false, .im true, .im false, .no]) (c_cmp (or_in hr) (x_ixO (x_own 3) (x_var 4)) (x_slT (PD.pur (x_var 5)) (o_some (x_int)) (o_none)))
    ((b_cons ((z_set 6 nd (x_sub (x_add (x_ix (PD.pur (x_var 5)) (x_int)) (x_ix (PD.pur (x_var 5)) (x_int))) (x_ixO (x_own 3) (x_var 4)))).to [.im false, .im false, .own .dk true, .own .l false, .im true, .im false, .im true])
    (b_one (z_if (Δn := [.im false, .im false, .own .dk true, .own .l false, .im true, .im false, .im true]) (c_dnin 2 hr (x_var 6))
    ((b_cons ((z_dput 2 hr (PD.pur (x_var 5)) (x_var 6)).to [.im false, .im false, .own .dk true, .own .l false, .im true, .im false, .im true])
    (b_one ((z_app 3 (x_var 6)).to [.im false, .im false, .own .dk true, .own .l false, .im true, .im false, .im true]))).to [.im false, .im false, .own .dk true, .own .l false, .im true, .im false, .im true])
    ((b_nil).to [.im false, .im false, .own .dk true, .own .l false, .im true, .im false, .im true])))).to [.im false, .im false, .own .dk true, .own .l false, .im true, .im false, .no])
    ((b_nil).to [.im false, .im false, .own .dk true, .own .l false, .im true, .im false, .no]))).to [.im false, .im false, .own .dk true, .own .l false, .im true, .no, .no]))
    (b_one ((z_augA 4 nd (x_int)).to [.im false, .im false, .own .dk true, .own .l false, .im true, .no, .no]))).to [.im false, .im false, .own .dk true, .own .l false, .im true, .no, .no]))
    (b_one (z_ret (x_ownD 2))))))) rfl⟩
def g_ring_with_L1 : Gs := gSeqS (gApp 3 (gOp hDIx (gVar 2) (gVar 4))) (gSet 4 (gOp hSub (gOp hAdd (gOp hIx (gOp hDIx (gVar 2) (gVar 4)) (gC (.int (1)))) (gOp hIx (gOp hDIx (gVar 2) (gVar 4)) (gC (.int (2))))) (gVar 4)))
def g_ring_with_T1 : List Dt → O Bool := gTest (gOp hIsNot (gOp hDIx (gVar 2) (gVar 4)) (gC .none))
def g_ring_with : Gs := gSeqS (gSet 2 (gCallN 2 f_come_to (gCons (gVar 0) (gCons (gOp hIx (gPur (gVar 1)) (gC (.int (1)))) (gNil))))) (gSeqS (gIfS (gTest (gOp (hDInV true) (gOp hIx (gPur (gVar 1)) (gC (.int (2)))) (gVar 2))) (gRet (gLst (gNil))) (gNext)) (gSeqS (gSet 3 (gLst (gCons (gPur (gVar 1)) (gNil)))) (gSeqS (gSet 4 (gOp hIx (gPur (gVar 1)) (gC (.int (2))))) (gSeqS (gWhile g_ring_with_T1 g_ring_with_L1 1000) (gRet (gVar 3))))))
def f_ring_with : List Dt → O Dt := fnL 5 g_ring_with
theorem ok_ring_with (t : Tx K mg) : FnOk P w K mg base CX0 2 t.a_ring_with t.d_ring_with ["ties", "tie"] (spL K mg 2 f_ring_with) := by
  have G_come_to := ok_come_to (P := P) (w := w) (base := base) t
  have nd : (["ties", "tie", "came", "ring", "place"] : List Str).Nodup := by decide +kernel
  exact fn_okL t.F_ring_with (Δn := [.im false, .im false, .no, .no, .no]) sc_ring_with rfl rfl (by decide) fun cdv A outer s H E hr => ⟨_, BD.frm [.im false, .im false, .no, .no, .no] (Δb := kd0 2 5 false) (Δc := kd0 2 5 false)
    (b_cons ((z_set 2 nd (x_callN G_come_to (hr.mono (by decide)) t.m_come_to t.F_come_to.kp t.b_come_to pass0 (AD.to true false (a_cons (x_var 0) (a_cons (x_ix (PD.pur (x_var 1)) (x_int)) (a_nil)))))).to [.im false, .im false, .im true, .no, .no])
    (b_cons (z_if (Δn := [.im false, .im false, .im true, .no, .no]) (c_dninV hr (x_ix (PD.pur (x_var 1)) (x_int)) (x_var 2))
    (b_one (z_retL (x_lst (a_nil))))
    ((b_nil).to [.im false, .im false, .im true, .no, .no]))
    (b_cons ((z_setO 3 nd (x_lst (AD.to true true (a_cons (PD.pur (x_var 1)) (a_nil))))).to [.im false, .im false, .im true, .own .l true, .no])
    (b_cons ((z_set 4 nd (x_ix (PD.pur (x_var 1)) (x_int))).to [.im false, .im false, .im true, .own .l true, .im true])
    (b_cons (z_while 1000 .never (c_cmp or_notN (x_dgetV hr (x_var 2) (x_var 4)) (x_non))
    ((b_cons ((z_app 3 (x_dgetV hr (x_var 2) (x_var 4))).to [.im false, .im false, .im true, .own .l true, .im true])
    (b_one ((z_set 4 nd (x_sub (x_add (x_ix (x_dgetV hr (x_var 2) (x_var 4)) (x_int)) (x_ix (x_dgetV hr (x_var 2) (x_var 4)) (x_int))) (x_var 4))).to [.im false, .im false, .im true, .own .l true, .im true]))).to [.im false, .im false, .im true, .own .l true, .im true]))
    (b_one (z_retO 3))))))) rfl⟩
def g_moves_L1 : Gs := gSeqS (gSet 10 (gCallN 2 f_ring_with (gCons (gLc (gZip (gCons (gVar 1) (gCons (gVar 4) (gNil)))) (tgT (tgCons (tgN 11) (tgCons (tgN 12) (tgNil)))) (gTest (gOp hEq (gVar 12) (gVar 9))) (gVar 11)) (gCons (gVar 3) (gNil))))) (gSeqS (gIfS (gTest (gOp hEq (gVar 10) (gLst (gNil)))) (gRet (gVar 8)) (gNext)) (gSeqS (gSet 3 (gCB (one hMinT) (gCons (gVar 10) (gNil)))) (gApp 8 (gTup (gCons (gPur (gOp hIx (gVar 3) (gC (.int (0))))) (gCons (gVar 9) (gCons (gOp hMod (gOp hAdd (gVar 9) (gC (.int (1)))) (gOp hAdd (gVar 2) (gC (.int (1))))) (gNil))))))))
def g_moves : Gs := gSeqS (gSet 4 (gCallX 3 f_layered (gCons (gVar 0) (gCons (gVar 1) (gCons (gVar 2) (gNil)))))) (gSeqS (gIfS (gNot (gTest (gCallN 2 f_is_record (gCons (gVar 0) (gCons (gLst (gCons (gVar 3) (gNil))) (gNil)))))) (gRaise "NoTies") (gNext)) (gSeqS (gIfS (gTest (gOp hIn (gPur (gOp hIx (gVar 3) (gC (.int (0))))) (gLc (gSeq (gVar 1)) (tgT (tgCons (tgN 5) (tgCons (tgN 6) (tgCons (tgN 7) (tgNil))))) (gYes) (gVar 5)))) (gRaise1 "Clash" (gPur (gOp hIx (gVar 3) (gC (.int (0)))))) (gNext)) (gSeqS (gSet 8 (gLst (gCons (gTup (gCons (gPur (gOp hIx (gVar 3) (gC (.int (0))))) (gCons (gC (.int (0))) (gCons (gC (.int (1))) (gNil))))) (gNil)))) (gSeqS (gFor (gRng2 (gCons (gC (.int (1))) (gCons (gOp hAdd (gVar 2) (gC (.int (1)))) (gNil)))) (tgN 9) g_moves_L1) (gRet (gVar 8))))))
def f_moves : List Dt → O Dt := fnLX 13 g_moves
theorem ok_moves (t : Tx K mg) : FnOk P w K mg base (L2N.CX P w) 6 t.a_moves t.d_moves ["n", "record", "k", "tie"] (spL K mg 4 f_moves) := by
  have G_layered := ok_layered (P := P) (w := w) (base := base) t
  have G_is_record := ok_is_record (P := P) (w := w) (base := base) t
  have G_ring_with := ok_ring_with (P := P) (w := w) (base := base) t
  have nd : (["n", "record", "k", "tie", "numbers", "moment", "a", "b", "told", "layer", "ring", "one", "number"] : List Str).Nodup := by decide +kernel
  exact fn_okLX t.F_moves (Δn := [.im false, .im false, .im false, .im false, .no, .no, .no, .no, .no, .no, .no, .no, .no]) sc_moves rfl rfl (by decide) fun cdv A outer s H E hr tk hp => ⟨_, BD.frm [.im false, .im false, .im false, .im false, .no, .no, .no, .no, .no, .no, .no, .no, .no] (Δb := kd0 4 13 false) (Δc := kd0 4 13 false)
    (b_cons ((z_set 4 nd ((x_callXL tk G_layered (hr.mono (by decide)) t.m_layered t.F_layered.kp t.b_layered (AD.to true false (a_cons (x_var 0) (a_cons (x_var 1) (a_cons (x_var 2) (a_nil)))))).nv)).to [.im false, .im false, .im false, .im false, .im true, .no, .no, .no, .no, .no, .no, .no, .no])
    (b_cons (z_if (Δn := [.im false, .im false, .im false, .im false, .im true, .no, .no, .no, .no, .no, .no, .no, .no]) (c_not (c_val (x_callN G_is_record (hr.mono (by decide)) t.m_is_record t.F_is_record.kp t.b_is_record pass0 (AD.to true false (a_cons (x_var 0) (a_cons ((x_lst (AD.to true false (a_cons (x_var 3) (a_nil)))).nv) (a_nil)))))))
    (b_one (z_raise0 tk t.E_NoTies t.Q_NoTies))
    ((b_nil).to [.im false, .im false, .im false, .im false, .im true, .no, .no, .no, .no, .no, .no, .no, .no]))
    (b_cons (z_if (Δn := [.im false, .im false, .im false, .im false, .im true, .no, .no, .no, .no, .no, .no, .no, .no]) (c_cmp (or_in hr) (PD.pur (x_ix (x_var 3) (x_int))) ((x_lc (n := 13) [("moment", 5), ("a", 6), ("b", 7)] nd (i_seq (x_var 1)) (blk_fx (N := ["n", "record", "k", "tie", "numbers", "moment", "a", "b", "told", "layer", "ring", "one", "number"]) (sc := defScope st_moves) (by decide +kernel)) (fun _ _ _ _ _ => g_tup (m := 3) rfl (g_cons (g_name 5 nd) (g_cons (g_name 6 nd) (g_cons (g_name 7 nd) (g_nil)))) (tgCons_len (tgCons_len (tgCons_len tgNil_len)))) (fun _ _ _ _ _ => t_nil) (fun _ _ _ _ _ => x_var 5)).nv))
    (b_one (z_raise1 tk (xi_Clash (P := P) (w := w) (base := base) t) (hr.mono (by decide)) (PD.pur (x_ix (x_var 3) (x_int)))))
    ((b_nil).to [.im false, .im false, .im false, .im false, .im true, .no, .no, .no, .no, .no, .no, .no, .no]))
    (b_cons ((z_setO 8 nd (x_lst (AD.to true true (a_cons (x_tup (AD.to true true (a_cons (PD.pur (x_ix (x_var 3) (x_int))) (a_cons (x_int) (a_cons (x_int) (a_nil)))))) (a_nil))))).to [.im false, .im false, .im false, .im false, .im true, .no, .no, .no, .own .l true, .no, .no, .no, .no])
    (b_cons (z_for (n := 13) hp (i_rng2 t.n_range (AD.to true true (a_cons (x_int) (a_cons (x_add (x_var 2) (x_int)) (a_nil))))) (g_name 9 nd)
    ((b_cons ((z_set 10 nd ((x_callL G_ring_with (hr.mono (by decide)) t.m_ring_with t.F_ring_with.kp t.b_ring_with pass0 (AD.to true false (a_cons ((x_lc (n := 13) [("one", 11), ("number", 12)] nd (i_zip t.n_zip (AD.to true false (a_cons (x_var 1) (a_cons (x_var 4) (a_nil))))) (blk_fx (N := ["n", "record", "k", "tie", "numbers", "moment", "a", "b", "told", "layer", "ring", "one", "number"]) (sc := defScope st_moves) (by decide +kernel)) (fun _ _ _ _ _ => g_tup (m := 2) rfl (g_cons (g_name 11 nd) (g_cons (g_name 12 nd) (g_nil))) (tgCons_len (tgCons_len tgNil_len))) (fun _ _ _ _ _ => t_one (c_cmp (or_eq hr) (x_var 12) (x_var 9))) (fun _ _ _ _ _ => x_var 11)).nv) (a_cons (x_var 3) (a_nil))))).nv)).to [.im false, .im false, .im false, .im false, .im true, .no, .no, .no, .own .l true, .im true, .im true, .no, .no])
    (b_cons (z_if (Δn := [.im false, .im false, .im false, .im false, .im true, .no, .no, .no, .own .l true, .im true, .im true, .no, .no]) (c_cmp (or_eq hr) (x_var 10) ((x_lst (a_nil)).nv))
    (b_one (z_retO 8))
    ((b_nil).to [.im false, .im false, .im false, .im false, .im true, .no, .no, .no, .own .l true, .im true, .im true, .no, .no]))
    (b_cons ((z_set 3 nd (x_minT hr t.n_min (AD.to true true (a_cons (x_var 10) (a_nil))))).to [.im false, .im false, .im false, .im true, .im true, .no, .no, .no, .own .l true, .im true, .im true, .no, .no])
    (b_one ((z_app 8 (x_tup (AD.to true true (a_cons (PD.pur (x_ix (x_var 3) (x_int))) (a_cons (x_var 9) (a_cons (x_mod (x_add (x_var 9) (x_int)) (x_add (x_var 2) (x_int))) (a_nil))))))).to [.im false, .im false, .im false, .im true, .im true, .no, .no, .no, .own .l true, .im true, .im true, .no, .no]))))).to [.im false, .im false, .im false, .im false, .im true, .no, .no, .no, .own .l true, .no, .no, .no, .no]))
    (b_one (z_retO 8))))))) rfl⟩
abbrev g_l_begun : Gs := FamB.g_l_begun
abbrev f_l_begun : List Dt → O Dt := FamB.f_l_begun
theorem ok_l_begun (t : Tx K mg) : FnOk P w K mg base CX0 1 t.a_l_begun t.d_l_begun ["cell"] (spL K mg 1 f_l_begun) := by
  have nd : (["cell", "rest"] : List Str).Nodup := by decide +kernel
  exact fn_okL t.F_l_begun (Δn := [.im false, .no]) sc_l_begun rfl rfl (by decide) fun cdv A outer s H E hr => ⟨_, BD.frm [.im false, .no] (Δb := kd0 1 2 false) (Δc := kd0 1 2 false)
    (b_cons ((z_set 1 nd (x_int)).to [.im false, .im true])
    (b_cons (z_if (Δn := [.im false, .im true]) (c_cmp or_ge (x_abs t.n_abs (AD.to true false (a_cons (x_var 0) (a_nil)))) (x_pow (x_int) (x_int)))
    ((b_one ((z_set 1 nd (x_add (x_sub (x_abs t.n_abs (AD.to true false (a_cons (x_var 0) (a_nil)))) (x_pow (x_int) (x_int))) (x_int))).to [.im false, .im true])).to [.im false, .im true])
    ((b_nil).to [.im false, .im true]))
    (b_one (z_retL (x_lst (AD.to true true (a_cons (x_var 1) (a_cons (x_int) (a_cons (x_mod (x_var 0) (x_int)) (a_nil)))))))))) rfl⟩
abbrev g_l_take : Gs := FamB.g_l_take
abbrev f_l_take : List Dt → O Dt := FamB.f_l_take
theorem ok_l_take (t : Tx K mg) : FnOk P w K mg base CX0 1 t.a_l_take t.d_l_take ["pot", "size"] (spM K .la 2 f_l_take) := by
  have nd : (["pot", "size", "digit", "mixed"] : List Str).Nodup := by decide +kernel
  exact fn_okM t.F_l_take (Δn := [.own .la true, .im false, .no, .no]) sc_l_take rfl rfl (by decide) rfl fun cdv A outer s H E hr => ⟨_, BD.frm [.own .la true, .im false, .no, .no] (Δb := kdM .la 2 4) (Δc := kdM .la 2 4)
    (b_cons (z_if (Δn := [.own .la true, .im false, .no, .no]) (c_cmp or_gt (x_ixO (x_ownA 0) (x_int)) (x_int))
    (b_cons ((z_set 2 nd (x_mod (x_ixO (x_ownA 0) (x_int)) (x_var 1))).to [.own .la true, .im false, .im true, .no])
    (b_cons ((z_setIA 0 (x_div (x_ixO (x_ownA 0) (x_int)) (x_var 1)) (x_int)).to [.own .la true, .im false, .im true, .no])
    (b_one (zx_retM (xd_of (x_var 2))))))
    ((b_nil).to [.own .la true, .im false, .no, .no]))
    (b_cons ((z_setIA 0 (x_add (x_ixO (x_ownA 0) (x_int)) (x_int)) (x_int)).to [.own .la true, .im false, .no, .no])
    (b_cons ((z_set 3 nd (x_mod (x_add (x_add (x_add (x_ixO (x_ownA 0) (x_int)) (x_mul (x_mul (x_int) (x_ixO (x_ownA 0) (x_int))) (x_ixO (x_ownA 0) (x_int)))) (x_mul (x_int) (x_ixO (x_ownA 0) (x_int)))) (x_int)) (x_int))).to [.own .la true, .im false, .no, .im true])
    (b_cons ((z_set 3 nd (x_mod (x_mul (x_mod (x_mul (x_var 3) (x_var 3)) (x_int)) (x_int)) (x_int))).to [.own .la true, .im false, .no, .im true])
    (b_one (zx_retM (xd_of (x_mod (x_div (x_var 3) (x_int)) (x_var 1))))))))) rfl⟩
abbrev g_l_wide : Gs := FamB.g_l_wide
abbrev f_l_wide : List Dt → O Dt := FamB.f_l_wide
theorem ok_l_wide (t : Tx K mg) : FnOk P w K mg base CX0 2 t.a_l_wide t.d_l_wide ["pot", "size"] (spM K .la 2 f_l_wide) := by
  have G_l_take := ok_l_take (P := P) (w := w) (base := base) t
  have nd : (["pot", "size", "number", "turn"] : List Str).Nodup := by decide +kernel
  exact fn_okM t.F_l_wide (Δn := [.own .la true, .im false, .no, .no]) sc_l_wide rfl rfl (by decide) rfl fun cdv A outer s H E hr => ⟨_, BD.frm [.own .la true, .im false, .no, .no] (Δb := kdM .la 2 4) (Δc := kdM .la 2 4)
    (b_cons (z_if (Δn := [.own .la true, .im false, .no, .no]) (c_w (w_or (c_cmp or_gt (x_ixO (x_ownA 0) (x_int)) (x_int)) (w_or1 (c_cmp or_lt (x_var 1) (x_pow (x_int) (x_int))))))
    (b_one (zx_retM (xd_callM 0 G_l_take (hr.mono (by decide)) t.m_l_take t.F_l_take.kp t.b_l_take pass0 (xb_a (XAD.to true false (xa_cons (xd_of (x_var 1)) (xa_nil)))))))
    ((b_nil).to [.own .la true, .im false, .no, .no]))
    (b_cons ((z_set 2 nd (x_int)).to [.own .la true, .im false, .im true, .no])
    (b_cons (z_for (n := 4) .never (i_rng1 t.n_range (AD.to true true (a_cons (x_int) (a_nil)))) (g_name 3 nd)
    ((b_one ((zx_set 2 nd (xd_add (xd_of (x_mul (x_var 2) (x_int))) (xd_callM 0 G_l_take (hr.mono (by decide)) t.m_l_take t.F_l_take.kp t.b_l_take pass0 (xb_a (XAD.to true true (xa_cons (xd_of (x_int)) (xa_nil))))))).to [.own .la true, .im false, .im true, .im true])).to [.own .la true, .im false, .im true, .no]))
    (b_one (zx_retM (xd_of (x_mod (x_var 2) (x_var 1)))))))) rfl⟩
abbrev g_l_places : Gs := FamB.g_l_places
abbrev f_l_places : List Dt → O Dt := FamB.f_l_places
theorem ok_l_places (t : Tx K mg) : FnOk P w K mg base CX0 2 t.a_l_places t.d_l_places ["pot"] (spM K .la 1 f_l_places) := by
  have G_l_take := ok_l_take (P := P) (w := w) (base := base) t
  have nd : (["pot"] : List Str).Nodup := by decide +kernel
  exact fn_okM t.F_l_places (Δn := [.own .la true]) sc_l_places rfl rfl (by decide) rfl fun cdv A outer s H E hr => ⟨_, BD.frm [.own .la true] (Δb := kdM .la 1 1) (Δc := kdM .la 1 1)
    (b_one (zx_retM (xd_add (xd_of (x_int)) (xd_callM 0 G_l_take (hr.mono (by decide)) t.m_l_take t.F_l_take.kp t.b_l_take pass0 (xb_a (XAD.to true true (xa_cons (xd_ix ((xd_ofN (x_lst (AD.to true true (a_cons (x_int) (a_cons (x_int) (a_cons (x_int) (a_cons (x_int) (a_cons (x_int) (a_cons (x_int) (a_cons (x_int) (a_cons (x_int) (a_nil)))))))))))).nv) (xd_callM 0 G_l_take (hr.mono (by decide)) t.m_l_take t.F_l_take.kp t.b_l_take pass0 (xb_a (XAD.to true true (xa_cons (xd_of (x_int)) (xa_nil)))))) (xa_nil)))))))) rfl⟩
abbrev g_l_depth : Gs := FamB.g_l_depth
abbrev f_l_depth : List Dt → O Dt := FamB.f_l_depth
theorem ok_l_depth (t : Tx K mg) : FnOk P w K mg base CX0 2 t.a_l_depth t.d_l_depth ["pot"] (spM K .la 1 f_l_depth) := by
  have G_l_take := ok_l_take (P := P) (w := w) (base := base) t
  have nd : (["pot"] : List Str).Nodup := by decide +kernel
  exact fn_okM t.F_l_depth (Δn := [.own .la true]) sc_l_depth rfl rfl (by decide) rfl fun cdv A outer s H E hr => ⟨_, BD.frm [.own .la true] (Δb := kdM .la 1 1) (Δc := kdM .la 1 1)
    (b_one (zx_retM (xd_add (xd_of (x_int)) (xd_callM 0 G_l_take (hr.mono (by decide)) t.m_l_take t.F_l_take.kp t.b_l_take pass0 (xb_a (XAD.to true true (xa_cons (xd_ix ((xd_ofN (x_lst (AD.to true true (a_cons (x_int) (a_cons (x_int) (a_cons (x_int) (a_cons (x_int) (a_nil)))))))).nv) (xd_callM 0 G_l_take (hr.mono (by decide)) t.m_l_take t.F_l_take.kp t.b_l_take pass0 (xb_a (XAD.to true true (xa_cons (xd_of (x_int)) (xa_nil)))))) (xa_nil)))))))) rfl⟩
abbrev g_l_ends : Gs := FamB.g_l_ends
abbrev f_l_ends : List Dt → O Dt := FamB.f_l_ends
theorem ok_l_ends (t : Tx K mg) : FnOk P w K mg base CX0 2 t.a_l_ends t.d_l_ends ["pot", "n", "ties"] (spM K .la 3 f_l_ends) := by
  have G_l_take := ok_l_take (P := P) (w := w) (base := base) t
  have nd : (["pot", "n", "ties", "a", "b", "moment"] : List Str).Nodup := by decide +kernel
  exact fn_okM t.F_l_ends (Δn := [.own .la true, .im false, .im false, .no, .no, .no]) sc_l_ends rfl rfl (by decide) rfl fun cdv A outer s H E hr => ⟨_, BD.frm [.own .la true, .im false, .im false, .no, .no, .no] (Δb := kdM .la 3 6) (Δc := kdM .la 3 6)
    (b_cons ((zx_set 3 nd (xd_callM 0 G_l_take (hr.mono (by decide)) t.m_l_take t.F_l_take.kp t.b_l_take pass0 (xb_a (XAD.to true false (xa_cons (xd_of (x_var 1)) (xa_nil)))))).to [.own .la true, .im false, .im false, .im true, .no, .no])
    (b_cons ((zx_set 4 nd (xd_callM 0 G_l_take (hr.mono (by decide)) t.m_l_take t.F_l_take.kp t.b_l_take pass0 (xb_a (XAD.to true false (xa_cons (xd_of (x_var 1)) (xa_nil)))))).to [.own .la true, .im false, .im false, .im true, .im true, .no])
    (b_cons (zx_if (Δn := [.own .la true, .im false, .im false, .im false, .im false, .no]) (xt_w (xw_and (xt_of (c_cmp (or_ne hr) (x_var 2) ((x_lst (a_nil)).nv))) (xw_and1 (xt_cmp (or_eq hr) (xd_callM 0 G_l_take (hr.mono (by decide)) t.m_l_take t.F_l_take.kp t.b_l_take pass0 (xb_a (XAD.to true true (xa_cons (xd_of (x_int)) (xa_nil))))) (xd_of (x_int))))))
    ((b_one ((zx_asg (n := 6) (xd_ix (xd_of (x_var 2)) (xd_callM 0 G_l_take (hr.mono (by decide)) t.m_l_take t.F_l_take.kp t.b_l_take pass0 (xb_a (XAD.to true true (xa_cons (xd_of (x_len t.n_len (AD.to true false (a_cons (x_var 2) (a_nil))))) (xa_nil)))))) (g_tup (m := 3) rfl (g_cons (g_name 5 nd) (g_cons (g_name 3 nd) (g_cons (g_name 4 nd) (g_nil)))) (tgCons_len (tgCons_len (tgCons_len tgNil_len))))).to [.own .la true, .im false, .im false, .im false, .im false, .im false])).to [.own .la true, .im false, .im false, .im false, .im false, .no])
    ((b_nil).to [.own .la true, .im false, .im false, .im false, .im false, .no]))
    (b_one (zx_retM (xd_of (x_tup (AD.to true true (a_cons (x_min2 t.n_min (AD.to true false (a_cons (x_var 3) (a_cons (x_var 4) (a_nil))))) (a_cons (x_max2 t.n_max (AD.to true false (a_cons (x_var 3) (a_cons (x_var 4) (a_nil))))) (a_nil))))))))))) rfl⟩
abbrev g_l_drawn_ties : Gs := FamB.g_l_drawn_ties
abbrev f_l_drawn_ties : List Dt → O Dt := FamB.f_l_drawn_ties
theorem ok_l_drawn_ties (t : Tx K mg) : FnOk P w K mg base CX0 3 t.a_l_drawn_ties t.d_l_drawn_ties ["pot", "n", "most"] (spML K .la 3 f_l_drawn_ties) := by
  have G_l_take := ok_l_take (P := P) (w := w) (base := base) t
  have G_l_wide := ok_l_wide (P := P) (w := w) (base := base) t
  have G_l_ends := ok_l_ends (P := P) (w := w) (base := base) t
  have nd : (["pot", "n", "most", "moment", "found", "turn", "step", "a", "b"] : List Str).Nodup := by decide +kernel
  exact fn_okML t.F_l_drawn_ties (Δn := [.own .la true, .im false, .im false, .no, .no, .no, .no, .no, .no]) sc_l_drawn_ties rfl rfl (by decide) rfl fun cdv A outer s H E hr => ⟨_, BD.frm [.own .la true, .im false, .im false, .no, .no, .no, .no, .no, .no] (Δb := kdM .la 3 9) (Δc := kdM .la 3 9)
    (b_cons ((zx_set 3 nd (xd_sub (xd_callM 0 G_l_take (hr.mono (by decide)) t.m_l_take t.F_l_take.kp t.b_l_take pass0 (xb_a (XAD.to true true (xa_cons (xd_of (x_int)) (xa_nil))))) (xd_of (x_int)))).to [.own .la true, .im false, .im false, .im true, .no, .no, .no, .no, .no])
    (b_cons ((z_setO 4 nd (x_lst (a_nil))).to [.own .la true, .im false, .im false, .im true, .own .l true, .no, .no, .no, .no])
    (b_cons (zx_for1 (n := 9) .never t.n_range (XAD.to true true (xa_cons (xd_callM 0 G_l_take (hr.mono (by decide)) t.m_l_take t.F_l_take.kp t.b_l_take pass0 (xb_a (XAD.to true true (xa_cons (xd_of (x_add (x_var 2) (x_int))) (xa_nil))))) (xa_nil))) (g_name 5 nd)
    ((b_cons ((zx_set 6 nd (xd_callM 0 G_l_take (hr.mono (by decide)) t.m_l_take t.F_l_take.kp t.b_l_take pass0 (xb_a (XAD.to true true (xa_cons (xd_of (x_int)) (xa_nil)))))).to [.own .la true, .im false, .im false, .im true, .own .l true, .im true, .im true, .no, .no])
    (b_cons ((z_set 3 nd (x_add (x_add (x_var 3) (x_int)) (x_div (x_var 6) (x_int)))).to [.own .la true, .im false, .im false, .im true, .own .l true, .im true, .im true, .no, .no])
    (b_cons (z_if (Δn := [.own .la true, .im false, .im false, .im true, .own .l true, .im true, .im true, .no, .no]) (c_cmp (or_eq hr) (x_var 6) (x_int))
    ((b_one ((zx_set 3 nd (xd_add (xd_of (x_var 3)) (xd_callM 0 G_l_wide (hr.mono (by decide)) t.m_l_wide t.F_l_wide.kp t.b_l_wide pass0 (xb_a (XAD.to true true (xa_cons (xd_of (x_pow (x_int) (x_int))) (xa_nil))))))).to [.own .la true, .im false, .im false, .im true, .own .l true, .im true, .im true, .no, .no])).to [.own .la true, .im false, .im false, .im true, .own .l true, .im true, .im true, .no, .no])
    ((b_nil).to [.own .la true, .im false, .im false, .im true, .own .l true, .im true, .im true, .no, .no]))
    (b_cons ((zx_asg (n := 9) (xd_callM 0 G_l_ends (hr.mono (by decide)) t.m_l_ends t.F_l_ends.kp t.b_l_ends pass0 (xb_p (yb_cons (x_var 1) (yb_own 4 (yb_nil))))) (g_tup (m := 2) rfl (g_cons (g_name 7 nd) (g_cons (g_name 8 nd) (g_nil))) (tgCons_len (tgCons_len tgNil_len)))).to [.own .la true, .im false, .im false, .im true, .own .l true, .im true, .im true, .im true, .im true])
    (b_one ((z_app 4 (x_tup (AD.to true true (a_cons (x_var 3) (a_cons (x_var 7) (a_cons (x_var 8) (a_nil))))))).to [.own .la true, .im false, .im false, .im true, .own .l true, .im true, .im true, .im true, .im true])))))).to [.own .la true, .im false, .im false, .im true, .own .l true, .no, .no, .no, .no]))
    (b_one (zx_retMO 4))))) rfl⟩
def g_l_new_tie_L1 : Gs := gSet 5 (gOp hAdd (gVar 5) (gCB hInt1 (gCons (gOp hIn (gVar 5) (gVar 3)) (gNil))))
def g_l_new_tie : Gs := gSeqS (gSet 3 (gLc (gSeq (gVar 2)) (tgN 4) (gYes) (gOp hIx (gVar 4) (gC (.int (0)))))) (gSeqS (xSet 5 (xCallM .la 2 f_l_take 0 (xCons (xP (gC (.int (3)))) (xNil)))) (gSeqS (xIfS (xAnd (xPT (gTest (gOp hNe (gVar 3) (gLst (gNil))))) (xTest (xOp hGt (xCallM .la 2 f_l_take 0 (xCons (xP (gC (.int (4)))) (xNil))) (xP (gC (.int (0))))))) (xSet 5 (xOp hAdd (xOp hIx (xP (gVar 3)) (xCallM .la 2 f_l_take 0 (xCons (xP (gCB hLen (gCons (gVar 3) (gNil)))) (xNil)))) (xCallM .la 2 f_l_take 0 (xCons (xP (gC (.int (2)))) (xNil))))) (gNext)) (gSeqS (gFor (gRng1 (gCons (gOp hAdd (gCB hLen (gCons (gVar 3) (gNil))) (gC (.int (1)))) (gNil))) (tgN 6) g_l_new_tie_L1) (gSeqS (xAsg (xCallM .la 3 f_l_ends 0 (xCons (xP (gVar 1)) (xCons (xP (gVar 2)) (xNil)))) (tgT (tgCons (tgN 7) (tgCons (tgN 8) (tgNil))))) (xRetM (xP (gTup (gCons (gVar 5) (gCons (gVar 7) (gCons (gVar 8) (gNil)))))))))))
def f_l_new_tie : List Dt → O Dt := fnN 9 g_l_new_tie
theorem ok_l_new_tie (t : Tx K mg) : FnOk P w K mg base CX0 3 t.a_l_new_tie t.d_l_new_tie ["pot", "n", "ties"] (spM K .la 3 f_l_new_tie) := by
  have G_l_take := ok_l_take (P := P) (w := w) (base := base) t
  have G_l_ends := ok_l_ends (P := P) (w := w) (base := base) t
  have nd : (["pot", "n", "ties", "some", "tie", "moment", "turn", "a", "b"] : List Str).Nodup := by decide +kernel
  exact fn_okM t.F_l_new_tie (Δn := [.own .la true, .im false, .im false, .no, .no, .no, .no, .no, .no]) sc_l_new_tie rfl rfl (by decide) rfl fun cdv A outer s H E hr => ⟨_, BD.frm [.own .la true, .im false, .im false, .no, .no, .no, .no, .no, .no] (Δb := kdM .la 3 9) (Δc := kdM .la 3 9)
    (b_cons ((z_setLc 3 (n := 9) [("tie", 4)] nd (i_seq (x_var 2)) (blk_fx (N := ["pot", "n", "ties", "some", "tie", "moment", "turn", "a", "b"]) (sc := defScope st_l_new_tie) (by decide +kernel)) (fun _ _ _ _ _ => g_name 4 nd) (fun _ _ _ _ _ => t_nil) (fun _ _ _ _ _ => x_ix (x_var 4) (x_int)) (sw_true rfl rfl rfl (by decide +kernel))).to [.own .la true, .im false, .im false, .im false, .no, .no, .no, .no, .no])
    (b_cons ((zx_set 5 nd (xd_callM 0 G_l_take (hr.mono (by decide)) t.m_l_take t.F_l_take.kp t.b_l_take pass0 (xb_a (XAD.to true true (xa_cons (xd_of (x_int)) (xa_nil)))))).to [.own .la true, .im false, .im false, .im false, .no, .im true, .no, .no, .no])
    (b_cons (zx_if (Δn := [.own .la true, .im false, .im false, .im false, .no, .im true, .no, .no, .no]) (xt_w (xw_and (xt_of (c_cmp (or_ne hr) (x_var 3) ((x_lst (a_nil)).nv))) (xw_and1 (xt_cmp or_gt (xd_callM 0 G_l_take (hr.mono (by decide)) t.m_l_take t.F_l_take.kp t.b_l_take pass0 (xb_a (XAD.to true true (xa_cons (xd_of (x_int)) (xa_nil))))) (xd_of (x_int))))))
    ((b_one ((zx_set 5 nd (xd_add (xd_ix (xd_of (x_var 3)) (xd_callM 0 G_l_take (hr.mono (by decide)) t.m_l_take t.F_l_take.kp t.b_l_take pass0 (xb_a (XAD.to true true (xa_cons (xd_of (x_len t.n_len (AD.to true false (a_cons (x_var 3) (a_nil))))) (xa_nil)))))) (xd_callM 0 G_l_take (hr.mono (by decide)) t.m_l_take t.F_l_take.kp t.b_l_take pass0 (xb_a (XAD.to true true (xa_cons (xd_of (x_int)) (xa_nil))))))).to [.own .la true, .im false, .im false, .im false, .no, .im true, .no, .no, .no])).to [.own .la true, .im false, .im false, .im false, .no, .im true, .no, .no, .no])
    ((b_nil).to [.own .la true, .im false, .im false, .im false, .no, .im true, .no, .no, .no]))
    (b_cons (z_for (n := 9) .never (i_rng1 t.n_range (AD.to true true (a_cons (x_add (x_len t.n_len (AD.to true false (a_cons (x_var 3) (a_nil)))) (x_int)) (a_nil)))) (g_name 6 nd)
    ((b_one ((z_set 5 nd (x_add (x_var 5) (x_int1 t.n_int (AD.to true true (a_cons (x_cmp (or_in hr) (x_var 5) (x_var 3)) (a_nil)))))).to [.own .la true, .im false, .im false, .im false, .no, .im true, .im true, .no, .no])).to [.own .la true, .im false, .im false, .im false, .no, .im true, .no, .no, .no]))
    (b_cons ((zx_asg (n := 9) (xd_callM 0 G_l_ends (hr.mono (by decide)) t.m_l_ends t.F_l_ends.kp t.b_l_ends pass0 (xb_a (XAD.to true false (xa_cons (xd_of (x_var 1)) (xa_cons (xd_of (x_var 2)) (xa_nil)))))) (g_tup (m := 2) rfl (g_cons (g_name 7 nd) (g_cons (g_name 8 nd) (g_nil))) (tgCons_len (tgCons_len tgNil_len)))).to [.own .la true, .im false, .im false, .im false, .no, .im true, .no, .im true, .im true])
    (b_one (zx_retM (xd_of (x_tup (AD.to true true (a_cons (x_var 5) (a_cons (x_var 7) (a_cons (x_var 8) (a_nil)))))))))))))) rfl⟩
def g_l_odd_tie : Gs := gSeqS (gSet 2 (gLst (gCons (gC .none) (gCons (gC (.int (5))) (gCons (gC (.str "5:0-0")) (gCons (gLst (gCons (gC (.int (5))) (gCons (gC (.int (0))) (gCons (gC (.int (0))) (gNil))))) (gCons (gTup (gCons (gC (.int (5))) (gCons (gC (.int (0))) (gNil)))) (gCons (gTup (gCons (gC (.int (5))) (gCons (gC (.int (0))) (gCons (gC (.int (0))) (gCons (gC (.int (0))) (gNil)))))) (gCons (gTup (gCons (gUn (hU fun i => -i) (gC (.int (1)))) (gCons (gC (.int (0))) (gCons (gC (.int (0))) (gNil))))) (gCons (gTup (gCons (gOp hAdd (gOp hPow (gC (.int (10))) (gC (.int (30)))) (gC (.int (1)))) (gCons (gC (.int (0))) (gCons (gC (.int (0))) (gNil))))) (gCons (gTup (gCons (gC (.bool true)) (gCons (gC (.int (0))) (gCons (gC (.int (0))) (gNil))))) (gNil)))))))))))) (gSeqS (gSet 2 (gOp hCat (gVar 2) (gLst (gCons (gTup (gCons (gC (.int (5))) (gCons (gC (.bool false)) (gCons (gC (.int (0))) (gNil))))) (gCons (gTup (gCons (gC (.int (5))) (gCons (gC (.int (0))) (gCons (gC (.bool false)) (gNil))))) (gCons (gTup (gCons (gC (.int (5))) (gCons (gC (.int (0))) (gCons (gVar 1) (gNil))))) (gCons (gTup (gCons (gC (.int (5))) (gCons (gUn (hU fun i => -i) (gC (.int (1)))) (gCons (gC (.int (0))) (gNil))))) (gCons (gTup (gCons (gC (.str "5")) (gCons (gC (.int (0))) (gCons (gC (.int (0))) (gNil))))) (gCons (gTup (gCons (gC (.int (5))) (gCons (gC .none) (gCons (gC (.int (0))) (gNil))))) (gCons (gTup (gCons (gTup (gCons (gC (.int (5))) (gNil))) (gCons (gC (.int (0))) (gCons (gC (.int (0))) (gNil))))) (gNil))))))))))) (gSeqS (gSet 2 (gOp hCat (gVar 2) (gLst (gCons (gDNew) (gCons (gTup (gNil)) (gCons (gLst (gNil)) (gCons (gC (.str "")) (gCons (gTup (gCons (gC (.int (5))) (gCons (gC (.int (1))) (gCons (gC (.int (0))) (gNil))))) (gCons (gTup (gCons (gC (.int (5))) (gCons (gC (.int (0))) (gCons (gC (.str "0")) (gNil))))) (gCons (gTup (gCons (gTup (gCons (gC (.int (5))) (gCons (gC (.int (0))) (gCons (gC (.int (0))) (gNil))))) (gNil))) (gCons (gC (.bool true)) (gCons (gTup (gCons (gC (.int (5))) (gCons (gC (.int (0))) (gCons (gOp hPow (gC (.int (10))) (gC (.int (40)))) (gNil))))) (gCons (gTup (gCons (gC (.int (5))) (gCons (gVar 1) (gCons (gVar 1) (gNil))))) (gNil)))))))))))))) (xRetM (xOp hIx (xP (gVar 2)) (xCallM .la 2 f_l_take 0 (xCons (xP (gCB hLen (gCons (gVar 2) (gNil)))) (xNil)))))))
def f_l_odd_tie : List Dt → O Dt := fnN 3 g_l_odd_tie
theorem ok_l_odd_tie (t : Tx K mg) : FnOk P w K mg base CX0 2 t.a_l_odd_tie t.d_l_odd_tie ["pot", "n"] (spMA K .la 2 f_l_odd_tie) := by
  have G_l_take := ok_l_take (P := P) (w := w) (base := base) t
  have nd : (["pot", "n", "some"] : List Str).Nodup := by decide +kernel
  exact fn_okMA t.F_l_odd_tie (Δn := [.own .la true, .im true, .no]) sc_l_odd_tie rfl rfl (by decide) rfl fun cdv A outer s H E hr => ⟨_, BD.frm [.own .la true, .im true, .no] (Δb := kdMA .la 2 3) (Δc := kdMA .la 2 3)
    (b_cons ((z_set 2 nd ((x_lst (AD.to true true (a_cons (x_non) (a_cons (x_int) (a_cons (x_str) (a_cons ((x_lst (AD.to true true (a_cons (x_int) (a_cons (x_int) (a_cons (x_int) (a_nil)))))).nv) (a_cons (x_tup (AD.to true true (a_cons (x_int) (a_cons (x_int) (a_nil))))) (a_cons (x_tup (AD.to true true (a_cons (x_int) (a_cons (x_int) (a_cons (x_int) (a_cons (x_int) (a_nil))))))) (a_cons (x_tup (AD.to true true (a_cons (x_neg (x_int)) (a_cons (x_int) (a_cons (x_int) (a_nil)))))) (a_cons (x_tup (AD.to true true (a_cons (x_add (x_pow (x_int) (x_int)) (x_int)) (a_cons (x_int) (a_cons (x_int) (a_nil)))))) (a_cons (x_tup (AD.to true true (a_cons (x_bl) (a_cons (x_int) (a_cons (x_int) (a_nil)))))) (a_nil)))))))))))).nv)).to [.own .la true, .im true, .im true])
    (b_cons ((z_set 2 nd ((PD.wkN true (x_cat (x_var 2) ((x_lst (AD.to true true (a_cons (x_tup (AD.to true true (a_cons (x_int) (a_cons (x_bl) (a_cons (x_int) (a_nil)))))) (a_cons (x_tup (AD.to true true (a_cons (x_int) (a_cons (x_int) (a_cons (x_bl) (a_nil)))))) (a_cons (x_tup (AD.to true true (a_cons (x_int) (a_cons (x_int) (a_cons (x_var 1) (a_nil)))))) (a_cons (x_tup (AD.to true true (a_cons (x_int) (a_cons (x_neg (x_int)) (a_cons (x_int) (a_nil)))))) (a_cons (x_tup (AD.to true true (a_cons (x_str) (a_cons (x_int) (a_cons (x_int) (a_nil)))))) (a_cons (x_tup (AD.to true true (a_cons (x_int) (a_cons (x_non) (a_cons (x_int) (a_nil)))))) (a_cons (x_tup (AD.to true true (a_cons (x_tup (AD.to true true (a_cons (x_int) (a_nil)))) (a_cons (x_int) (a_cons (x_int) (a_nil)))))) (a_nil)))))))))).nv))).nv)).to [.own .la true, .im true, .im true])
    (b_cons ((z_set 2 nd ((PD.wkN true (x_cat (x_var 2) ((x_lst (AD.to true true (a_cons ((x_dnew).nvD) (a_cons (x_tup (a_nil)) (a_cons ((x_lst (a_nil)).nv) (a_cons (x_str) (a_cons (x_tup (AD.to true true (a_cons (x_int) (a_cons (x_int) (a_cons (x_int) (a_nil)))))) (a_cons (x_tup (AD.to true true (a_cons (x_int) (a_cons (x_int) (a_cons (x_str) (a_nil)))))) (a_cons (x_tup (AD.to true true (a_cons (x_tup (AD.to true true (a_cons (x_int) (a_cons (x_int) (a_cons (x_int) (a_nil)))))) (a_nil)))) (a_cons (x_bl) (a_cons (x_tup (AD.to true true (a_cons (x_int) (a_cons (x_int) (a_cons (x_pow (x_int) (x_int)) (a_nil)))))) (a_cons (x_tup (AD.to true true (a_cons (x_int) (a_cons (x_var 1) (a_cons (x_var 1) (a_nil)))))) (a_nil))))))))))))).nv))).nv)).to [.own .la true, .im true, .im true])
    (b_one (zx_retM (xd_ix (xd_of (x_var 2)) (xd_callM 0 G_l_take (hr.mono (by decide)) t.m_l_take t.F_l_take.kp t.b_l_take pass0 (xb_a (XAD.to true true (xa_cons (xd_of (x_len t.n_len (AD.to true true (a_cons (x_var 2) (a_nil))))) (xa_nil))))))))))) rfl⟩
def g_l_odd_depth : Gs := gSeqS (gSet 1 (gLst (gCons (gC (.int (0))) (gCons (gC (.int (7))) (gCons (gUn (hU fun i => -i) (gC (.int (1)))) (gCons (gC .none) (gCons (gC (.bool true)) (gCons (gC (.bool false)) (gCons (gC (.str "3")) (gCons (gC (.str "")) (gCons (gLst (gCons (gC (.int (1))) (gNil))) (gCons (gTup (gCons (gC (.int (2))) (gNil))) (gCons (gDNew) (gCons (gOp hPow (gC (.int (10))) (gC (.int (40)))) (gCons (gUn (hU fun i => -i) (gOp hPow (gC (.int (10))) (gC (.int (20))))) (gNil)))))))))))))))) (xRetM (xOp hIx (xP (gVar 1)) (xCallM .la 2 f_l_take 0 (xCons (xP (gCB hLen (gCons (gVar 1) (gNil)))) (xNil)))))
def f_l_odd_depth : List Dt → O Dt := fnN 2 g_l_odd_depth
theorem ok_l_odd_depth (t : Tx K mg) : FnOk P w K mg base CX0 2 t.a_l_odd_depth t.d_l_odd_depth ["pot"] (spM K .la 1 f_l_odd_depth) := by
  have G_l_take := ok_l_take (P := P) (w := w) (base := base) t
  have nd : (["pot", "some"] : List Str).Nodup := by decide +kernel
  exact fn_okM t.F_l_odd_depth (Δn := [.own .la true, .no]) sc_l_odd_depth rfl rfl (by decide) rfl fun cdv A outer s H E hr => ⟨_, BD.frm [.own .la true, .no] (Δb := kdM .la 1 2) (Δc := kdM .la 1 2)
    (b_cons ((z_set 1 nd ((x_lst (AD.to true true (a_cons (x_int) (a_cons (x_int) (a_cons (x_neg (x_int)) (a_cons (x_non) (a_cons (x_bl) (a_cons (x_bl) (a_cons (x_str) (a_cons (x_str) (a_cons ((x_lst (AD.to true true (a_cons (x_int) (a_nil)))).nv) (a_cons (x_tup (AD.to true true (a_cons (x_int) (a_nil)))) (a_cons ((x_dnew).nvD) (a_cons (x_pow (x_int) (x_int)) (a_cons (x_neg (x_pow (x_int) (x_int))) (a_nil)))))))))))))))).nv)).to [.own .la true, .im true])
    (b_one (zx_retM (xd_ix (xd_of (x_var 1)) (xd_callM 0 G_l_take (hr.mono (by decide)) t.m_l_take t.F_l_take.kp t.b_l_take pass0 (xb_a (XAD.to true true (xa_cons (xd_of (x_len t.n_len (AD.to true true (a_cons (x_var 1) (a_nil))))) (xa_nil))))))))) rfl⟩
def g_l_told_of : Gs := gSeqS (gSet 4 (gC .none)) (gSeqS (gTry (gSet 4 (gCallX 4 f_moves (gCons (gVar 0) (gCons (gVar 1) (gCons (gVar 2) (gCons (gVar 3) (gNil))))))) ["NoLayers", "NoTies", "Clash"] [] 5 (gSeqS (gSet 6 (gUn (hIsY [("NoLayers", false), ("NoTies", false), ("Clash", false)]) (gVar 5))) (gSeqS (gSet 6 (gOrV (gVar 6) (gNotV (gUn (hIsY [("NoLayers", true), ("NoTies", true), ("Clash", true)]) (gVar 5))))) (gSet 4 (gTup (gCons (gUn (hIsY [("NoLayers", true), ("NoTies", false), ("Clash", false)]) (gVar 5)) (gCons (gUn (hIsY [("NoLayers", false), ("NoTies", true), ("Clash", false)]) (gVar 5)) (gCons (gUn (hIsY [("NoLayers", false), ("NoTies", false), ("Clash", true)]) (gVar 5)) (gCons (gVar 6) (gNil)))))))))) (gRet (gVar 4)))
def f_l_told_of : List Dt → O Dt := fnN 7 g_l_told_of
theorem ok_l_told_of (t : Tx K mg) : FnOk P w K mg base CX0 7 t.a_l_told_of t.d_l_told_of ["n", "ties", "k", "tie"] (spG K mg 4 f_l_told_of) := by
  have G_moves := ok_moves (P := P) (w := w) (base := base) t
  have nd : (["n", "ties", "k", "tie", "told", "e", "others"] : List Str).Nodup := by decide +kernel
  exact fn_okN t.F_l_told_of (Δn := [.im false, .im false, .im false, .im false, .no, .no, .no]) sc_l_told_of rfl rfl (by decide) fun cdv A outer s H E hr => ⟨_, BD.frm [.im false, .im false, .im false, .im false, .no, .no, .no] (Δb := kd0 4 7 false) (Δc := kd0 4 7 false)
    (b_cons ((z_set 4 nd (x_non)).to [.im false, .im false, .im false, .im false, .im true, .no, .no])
    (b_cons (z_tryX (Δn := [.im false, .im false, .im false, .im false, .im true, .no, .no]) (yes := ["NoLayers", "NoTies", "Clash"]) (no := []) 5 t.E_PlyError takesN (co_cons t.E_NoLayers t.S_NoLayers_PlyError (co_cons t.E_NoTies t.S_NoTies_PlyError (co_cons t.E_Clash t.S_Clash_PlyError (co_nil)))) (co_nil) (fun _ _ _ z => z.elim) nd (fun Wx pn xe tkk => BDx.to [.im false, .im false, .im false, .im false, .im true, .no, .no] (BDx.to [.im false, .im false, .im false, .im false, .im true, .no, .no] (y_one (y_set 4 nd ((x_callXL tkk G_moves (hr.mono (by decide)) t.m_moves t.F_moves.kp t.b_moves (AD.to true false (a_cons (x_var 0) (a_cons (x_var 1) (a_cons (x_var 2) (a_cons (x_var 3) (a_nil))))))).nv))))) (fun a pn => (b_cons ((z_set 6 nd (x_isYT t.n_isinstance (ca_cons t.E_NoDeed.g (ca_cons t.E_NoNet.g (ca_cons t.E_NoPair.g (ca_cons t.E_NoPaper.g (ca_cons t.E_NoPlaces.g (ca_cons t.E_NoRow.g (ca_cons t.E_NoText.g (ca_cons t.E_Unlike.g (ca_nil))))))))) (tab_cons t.E_NoLayers (kany_cons (kit_no t.E_NoDeed t.S_NoLayers_NoDeed t.S_NoLayers_NoLayers) (kany_cons (kit_no t.E_NoNet t.S_NoLayers_NoNet t.S_NoLayers_NoLayers) (kany_cons (kit_no t.E_NoPair t.S_NoLayers_NoPair t.S_NoLayers_NoLayers) (kany_cons (kit_no t.E_NoPaper t.S_NoLayers_NoPaper t.S_NoLayers_NoLayers) (kany_cons (kit_no t.E_NoPlaces t.S_NoLayers_NoPlaces t.S_NoLayers_NoLayers) (kany_cons (kit_no t.E_NoRow t.S_NoLayers_NoRow t.S_NoLayers_NoLayers) (kany_cons (kit_no t.E_NoText t.S_NoLayers_NoText t.S_NoLayers_NoLayers) (kany_cons (kit_no t.E_Unlike t.S_NoLayers_Unlike t.S_NoLayers_NoLayers) (rfl))))))))) (tab_cons t.E_NoTies (kany_cons (kit_no t.E_NoDeed t.S_NoTies_NoDeed t.S_NoTies_NoTies) (kany_cons (kit_no t.E_NoNet t.S_NoTies_NoNet t.S_NoTies_NoTies) (kany_cons (kit_no t.E_NoPair t.S_NoTies_NoPair t.S_NoTies_NoTies) (kany_cons (kit_no t.E_NoPaper t.S_NoTies_NoPaper t.S_NoTies_NoTies) (kany_cons (kit_no t.E_NoPlaces t.S_NoTies_NoPlaces t.S_NoTies_NoTies) (kany_cons (kit_no t.E_NoRow t.S_NoTies_NoRow t.S_NoTies_NoTies) (kany_cons (kit_no t.E_NoText t.S_NoTies_NoText t.S_NoTies_NoTies) (kany_cons (kit_no t.E_Unlike t.S_NoTies_Unlike t.S_NoTies_NoTies) (rfl))))))))) (tab_cons t.E_Clash (kany_cons (kit_no t.E_NoDeed t.S_Clash_NoDeed t.S_Clash_Clash) (kany_cons (kit_no t.E_NoNet t.S_Clash_NoNet t.S_Clash_Clash) (kany_cons (kit_no t.E_NoPair t.S_Clash_NoPair t.S_Clash_Clash) (kany_cons (kit_no t.E_NoPaper t.S_Clash_NoPaper t.S_Clash_Clash) (kany_cons (kit_no t.E_NoPlaces t.S_Clash_NoPlaces t.S_Clash_Clash) (kany_cons (kit_no t.E_NoRow t.S_Clash_NoRow t.S_Clash_Clash) (kany_cons (kit_no t.E_NoText t.S_Clash_NoText t.S_Clash_Clash) (kany_cons (kit_no t.E_Unlike t.S_Clash_Unlike t.S_Clash_Clash) (rfl))))))))) (tab_nil)))) (x_var 5))).to [.im false, .im false, .im false, .im false, .im true, .im true, .im true])
    (b_cons ((z_set 6 nd (x_or (x_var 6) (x_one (x_not (x_isYB t.n_isinstance t.n_ValueError (tab_cons t.E_NoLayers (kit_bi t.S_NoLayers_ValueError) (tab_cons t.E_NoTies (kit_bi t.S_NoTies_ValueError) (tab_cons t.E_Clash (kit_bi t.S_Clash_ValueError) (tab_nil)))) (x_var 5)))))).to [.im false, .im false, .im false, .im false, .im true, .im true, .im true])
    (b_one ((z_set 4 nd (x_tup (AD.to true true (a_cons (x_isY t.n_isinstance t.E_NoLayers.g (tab_cons t.E_NoLayers (kit_yes t.E_NoLayers t.S_NoLayers_NoLayers) (tab_cons t.E_NoTies (kit_no t.E_NoLayers t.S_NoTies_NoLayers t.S_NoTies_NoTies) (tab_cons t.E_Clash (kit_no t.E_NoLayers t.S_Clash_NoLayers t.S_Clash_Clash) (tab_nil)))) (x_var 5)) (a_cons (x_isY t.n_isinstance t.E_NoTies.g (tab_cons t.E_NoLayers (kit_no t.E_NoTies t.S_NoLayers_NoTies t.S_NoLayers_NoLayers) (tab_cons t.E_NoTies (kit_yes t.E_NoTies t.S_NoTies_NoTies) (tab_cons t.E_Clash (kit_no t.E_NoTies t.S_Clash_NoTies t.S_Clash_Clash) (tab_nil)))) (x_var 5)) (a_cons (x_isY t.n_isinstance t.E_Clash.g (tab_cons t.E_NoLayers (kit_no t.E_Clash t.S_NoLayers_Clash t.S_NoLayers_NoLayers) (tab_cons t.E_NoTies (kit_no t.E_Clash t.S_NoTies_Clash t.S_NoTies_NoTies) (tab_cons t.E_Clash (kit_yes t.E_Clash t.S_Clash_Clash) (tab_nil)))) (x_var 5)) (a_cons (x_var 6) (a_nil)))))))).to [.im false, .im false, .im false, .im false, .im true, .im true, .im true])))).to [.im false, .im false, .im false, .im false, .im true, .no, .no]))
    (b_one (z_ret (x_var 4))))) rfl⟩
def g_l_field_of : Gs := gSeqS (gSet 4 (gC .none)) (gSeqS (gTry (gDrop (gCallX 4 f_moves (gCons (gVar 0) (gCons (gVar 1) (gCons (gVar 2) (gCons (gVar 3) (gNil))))))) ["Clash"] ["NoLayers", "NoTies"] 5 (gSet 4 (gUn (hMom "Clash") (gVar 5)))) (gRet (gVar 4)))
def f_l_field_of : List Dt → O Dt := fnN 6 g_l_field_of
theorem ok_l_field_of (t : Tx K mg) : FnOk P w K mg base CX0 7 t.a_l_field_of t.d_l_field_of ["n", "ties", "k", "tie"] (spG K mg 4 f_l_field_of) := by
  have G_moves := ok_moves (P := P) (w := w) (base := base) t
  have nd : (["n", "ties", "k", "tie", "found", "e"] : List Str).Nodup := by decide +kernel
  exact fn_okN t.F_l_field_of (Δn := [.im false, .im false, .im false, .im false, .no, .no]) sc_l_field_of rfl rfl (by decide) fun cdv A outer s H E hr => ⟨_, BD.frm [.im false, .im false, .im false, .im false, .no, .no] (Δb := kd0 4 6 false) (Δc := kd0 4 6 false)
    (b_cons ((z_set 4 nd (x_non)).to [.im false, .im false, .im false, .im false, .im true, .no])
    (b_cons (z_tryX (Δn := [.im false, .im false, .im false, .im false, .im true, .no]) (yes := ["Clash"]) (no := ["NoLayers", "NoTies"]) 5 t.E_Clash takesN (co_cons t.E_Clash t.S_Clash_Clash (co_nil)) (co_cons t.E_NoLayers t.S_NoLayers_Clash (co_cons t.E_NoTies t.S_NoTies_Clash (co_nil))) (fun _ _ _ z => z.elim) nd (fun Wx pn xe tkk => BDx.to [.im false, .im false, .im false, .im false, .im true, .no] (y_one (y_drop (x_callXL tkk G_moves (hr.mono (by decide)) t.m_moves t.F_moves.kp t.b_moves (AD.to true false (a_cons (x_var 0) (a_cons (x_var 1) (a_cons (x_var 2) (a_cons (x_var 3) (a_nil)))))))))) (fun a pn => (b_one ((z_set 4 nd (x_mom t.E_Clash t.ih_Clash (x_var 5))).to [.im false, .im false, .im false, .im false, .im true, .im true])).to [.im false, .im false, .im false, .im false, .im true, .no]))
    (b_one (z_ret (x_var 4))))) rfl⟩
def g_l_chosen : Gs := gSeqS (xSet 3 (xCallM .la 3 f_l_new_tie 0 (xCons (xP (gVar 1)) (xCons (xP (gVar 2)) (xNil))))) (gSeqS (xSet 4 (xCallM .la 2 f_l_take 0 (xCons (xP (gC (.int (4)))) (xNil)))) (gSeqS (gIfS (gTest (gOp hEq (gVar 4) (gC (.int (0))))) (xRetM (xTup (xCons (xCallM .la 2 f_l_odd_tie 0 (xCons (xP (gVar 1)) (xNil))) (xCons (xP (gC (.str "none"))) (xNil))))) (gNext)) (gSeqS (gIfS (gAnd (gTest (gOp hEq (gVar 4) (gC (.int (1))))) (gTest (gOp hNe (gVar 2) (gLst (gNil))))) (gSeqS (xSet 5 (xOp hIx (xP (gVar 2)) (xCallM .la 2 f_l_take 0 (xCons (xP (gCB hLen (gCons (gVar 2) (gNil)))) (xNil))))) (xRetM (xP (gTup (gCons (gTup (gCons (gOp hIx (gVar 5) (gC (.int (0)))) (gCons (gOp hIx (gVar 3) (gC (.int (1)))) (gCons (gOp hIx (gVar 3) (gC (.int (2)))) (gNil))))) (gCons (gC (.str "again")) (gNil))))))) (gNext)) (gSeqS (gIfS (gAnd (gTest (gOp hEq (gVar 4) (gC (.int (2))))) (gTest (gOp hNe (gVar 2) (gLst (gNil))))) (xRetM (xTup (xCons (xOp hIx (xP (gVar 2)) (xCallM .la 2 f_l_take 0 (xCons (xP (gCB hLen (gCons (gVar 2) (gNil)))) (xNil)))) (xCons (xP (gC (.str "again"))) (xNil))))) (gNext)) (xRetM (xP (gTup (gCons (gVar 3) (gCons (gC (.str "new")) (gNil))))))))))
def f_l_chosen : List Dt → O Dt := fnN 6 g_l_chosen
theorem ok_l_chosen (t : Tx K mg) : FnOk P w K mg base CX0 4 t.a_l_chosen t.d_l_chosen ["pot", "n", "ties"] (spMA K .la 3 f_l_chosen) := by
  have G_l_new_tie := ok_l_new_tie (P := P) (w := w) (base := base) t
  have G_l_take := ok_l_take (P := P) (w := w) (base := base) t
  have G_l_odd_tie := ok_l_odd_tie (P := P) (w := w) (base := base) t
  have nd : (["pot", "n", "ties", "tie", "turn", "again"] : List Str).Nodup := by decide +kernel
  exact fn_okMA t.F_l_chosen (Δn := [.own .la true, .im true, .im true, .no, .no, .no]) sc_l_chosen rfl rfl (by decide) rfl fun cdv A outer s H E hr => ⟨_, BD.frm [.own .la true, .im true, .im true, .no, .no, .no] (Δb := kdMA .la 3 6) (Δc := kdMA .la 3 6)
    (b_cons ((zx_set 3 nd (xd_callM 0 G_l_new_tie (hr.mono (by decide)) t.m_l_new_tie t.F_l_new_tie.kp t.b_l_new_tie pass0 (xb_a (XAD.to true true (xa_cons (xd_of (x_var 1)) (xa_cons (xd_of (x_var 2)) (xa_nil))))))).to [.own .la true, .im true, .im true, .im true, .no, .no])
    (b_cons ((zx_set 4 nd (xd_callM 0 G_l_take (hr.mono (by decide)) t.m_l_take t.F_l_take.kp t.b_l_take pass0 (xb_a (XAD.to true true (xa_cons (xd_of (x_int)) (xa_nil)))))).to [.own .la true, .im true, .im true, .im true, .im true, .no])
    (b_cons (z_if (Δn := [.own .la true, .im true, .im true, .im true, .im true, .no]) (c_cmp (or_eq hr) (x_var 4) (x_int))
    (b_one (zx_retM (xd_tup (XAD.to true true (xa_cons (xd_callMA 0 G_l_odd_tie (hr.mono (by decide)) t.m_l_odd_tie t.F_l_odd_tie.kp t.b_l_odd_tie pass0 (XAD.to true true (xa_cons (xd_of (x_var 1)) (xa_nil)))) (xa_cons (xd_of (x_str)) (xa_nil)))))))
    ((b_nil).to [.own .la true, .im true, .im true, .im true, .im true, .no]))
    (b_cons (z_if (Δn := [.own .la true, .im true, .im true, .im true, .im true, .no]) (c_w (w_and (c_cmp (or_eq hr) (x_var 4) (x_int)) (w_and1 (c_cmp (or_ne hr) (x_var 2) ((x_lst (a_nil)).nv)))))
    (b_cons ((zx_set 5 nd (xd_ix (xd_of (x_var 2)) (xd_callM 0 G_l_take (hr.mono (by decide)) t.m_l_take t.F_l_take.kp t.b_l_take pass0 (xb_a (XAD.to true true (xa_cons (xd_of (x_len t.n_len (AD.to true true (a_cons (x_var 2) (a_nil))))) (xa_nil))))))).to [.own .la true, .im true, .im true, .im true, .im true, .im true])
    (b_one (zx_retM (xd_of (x_tup (AD.to true true (a_cons (x_tup (AD.to true true (a_cons (x_ix (x_var 5) (x_int)) (a_cons (x_ix (x_var 3) (x_int)) (a_cons (x_ix (x_var 3) (x_int)) (a_nil)))))) (a_cons (x_str) (a_nil)))))))))
    ((b_nil).to [.own .la true, .im true, .im true, .im true, .im true, .no]))
    (b_cons (z_if (Δn := [.own .la true, .im true, .im true, .im true, .im true, .no]) (c_w (w_and (c_cmp (or_eq hr) (x_var 4) (x_int)) (w_and1 (c_cmp (or_ne hr) (x_var 2) ((x_lst (a_nil)).nv)))))
    (b_one (zx_retM (xd_tup (XAD.to true true (xa_cons (xd_ix (xd_of (x_var 2)) (xd_callM 0 G_l_take (hr.mono (by decide)) t.m_l_take t.F_l_take.kp t.b_l_take pass0 (xb_a (XAD.to true true (xa_cons (xd_of (x_len t.n_len (AD.to true true (a_cons (x_var 2) (a_nil))))) (xa_nil)))))) (xa_cons (xd_of (x_str)) (xa_nil)))))))
    ((b_nil).to [.own .la true, .im true, .im true, .im true, .im true, .no]))
    (b_one (zx_retM (xd_of (x_tup (AD.to true true (a_cons (x_var 3) (a_cons (x_str) (a_nil))))))))))))) rfl⟩
def g_l_right : Gs := gSeqS (gSet 5 (gCB (one hListOf) (gCons (gVar 1) gNil))) (gSeqS (gSet 6 (gCB hStrA (gCons (gVar 3) (gNil)))) (gSeqS (gSet 7 (gCallN 4 f_l_told_of (gCons (gVar 0) (gCons (gVar 5) (gCons (gVar 2) (gCons (gVar 3) (gNil))))))) (gSeqS (gIfS (gOr (gTest (gOp hNe (gVar 5) (gVar 1))) (gTest (gOp hNe (gCB hStrA (gCons (gVar 3) (gNil))) (gVar 6)))) (gRet (gC (.bool false))) (gNext)) (gSeqS (gIfS (gTest (gOp hNe (gVar 4) (gTup (gNil)))) (gRet (gOp hEq (gVar 7) (gVar 4))) (gNext)) (gRet (gUn (hIsa .list) (gVar 7)))))))
def f_l_right : List Dt → O Dt := fnN 8 g_l_right
theorem ok_l_right (t : Tx K mg) : FnG P w K mg base 8 t.a_l_right t.d_l_right ["n", "ties", "k", "tie", "due"] (spG K mg 5 f_l_right) := by
  have G_l_told_of := ok_l_told_of (P := P) (w := w) (base := base) t
  have nd : (["n", "ties", "k", "tie", "due", "handed", "kept", "found"] : List Str).Nodup := by decide +kernel
  exact fn_okNG t.F_l_right (Δn := [.im false, .im false, .im false, .im false, .im false, .no, .no, .no]) sc_l_right rfl rfl (by decide) fun cdv A outer s H E gd hr => ⟨_, BD.frm [.im false, .im false, .im false, .im false, .im false, .no, .no, .no] (Δb := kd0 5 8 false) (Δc := kd0 5 8 false)
    (b_cons ((z_set 5 nd ((x_list t.n_list (a_cons (x_var 1) a_nil)).nv)).to [.im false, .im false, .im false, .im false, .im false, .im false, .no, .no])
    (b_cons ((z_set 6 nd (x_strA gd hr t.n_str (AD.to true false (a_cons (x_var 3) (a_nil))))).to [.im false, .im false, .im false, .im false, .im false, .im false, .im true, .no])
    (b_cons ((z_set 7 nd (x_callN G_l_told_of (hr.mono (by decide)) t.m_l_told_of t.F_l_told_of.kp t.b_l_told_of pass0 (AD.to true false (a_cons (x_var 0) (a_cons (x_var 5) (a_cons (x_var 2) (a_cons (x_var 3) (a_nil)))))))).to [.im false, .im false, .im false, .im false, .im false, .im false, .im true, .im true])
    (b_cons (z_if (Δn := [.im false, .im false, .im false, .im false, .im false, .im false, .im true, .im true]) (c_w (w_or (c_cmp (or_ne hr) (x_var 5) (x_var 1)) (w_or1 (c_cmp (or_ne hr) (x_strA gd hr t.n_str (AD.to true false (a_cons (x_var 3) (a_nil)))) (x_var 6)))))
    (b_one (z_ret (x_bl)))
    ((b_nil).to [.im false, .im false, .im false, .im false, .im false, .im false, .im true, .im true]))
    (b_cons (z_if (Δn := [.im false, .im false, .im false, .im false, .im false, .im false, .im true, .im true]) (c_cmp (or_ne hr) (x_var 4) (x_tup (a_nil)))
    (b_one (z_ret (x_cmp (or_eq hr) (x_var 7) (x_var 4))))
    ((b_nil).to [.im false, .im false, .im false, .im false, .im false, .im false, .im true, .im true]))
    (b_one (z_ret (x_isa .list t.n_isinstance t.n_list (x_var 7))))))))) rfl⟩
def g_law_L1 : Gs := gSeqS (gSet 2 (gCallN 1 f_l_begun (gCons (gVar 1) (gNil)))) (gSeqS (xSet 3 (xCallM .la 1 f_l_places 2 (xNil))) (gSeqS (xSet 4 (xCallM .la 3 f_l_drawn_ties 2 (xCons (xP (gVar 3)) (xCons (xP (gC (.int (8)))) (xNil))))) (gSeqS (xAsg (xCallM .la 3 f_l_chosen 2 (xCons (xP (gVar 3)) (xCons (xP (gVar 4)) (xNil)))) (tgT (tgCons (tgN 5) (tgCons (tgN 6) (tgNil))))) (gSeqS (gSet 7 (gOp hDIx (gDisp3 "none" "again" "new" (gCons (gTup (gCons (gC (.bool false)) (gCons (gC (.bool true)) (gCons (gC (.bool false)) (gCons (gC (.bool false)) (gNil)))))) (gCons (gTup (gCons (gC (.bool false)) (gCons (gC (.bool false)) (gCons (gC (.bool true)) (gCons (gC (.bool false)) (gNil)))))) (gCons (gTup (gNil)) gNil)))) (gVar 6))) (gSeqS (xSet 8 (xCallM .la 1 f_l_depth 2 (xNil))) (gSeqS (gIfS (gNot (gTest (gCallN 5 f_l_right (gCons (gVar 3) (gCons (gVar 4) (gCons (gVar 8) (gCons (gVar 5) (gCons (gVar 7) (gNil))))))))) (gRet (gC (.bool false))) (gNext)) (gSeqS (gIfS (gAnd (gTest (gOp hEq (gVar 6) (gC (.str "again")))) (gTest (gOp hNe (gCallN 4 f_l_field_of (gCons (gVar 3) (gCons (gVar 4) (gCons (gVar 8) (gCons (gVar 5) (gNil)))))) (gOp hIx (gVar 5) (gC (.int (0))))))) (gRet (gC (.bool false))) (gNext)) (xIfS (xNot (xTest (xCallN 5 f_l_right (xCons (xP (gVar 3)) (xCons (xP (gVar 4)) (xCons (xCallM .la 1 f_l_odd_depth 2 (xNil)) (xCons (xP (gVar 5)) (xCons (xP (gTup (gCons (gC (.bool true)) (gCons (gC (.bool false)) (gCons (gC (.bool false)) (gCons (gC (.bool false)) (gNil))))))) (xNil))))))))) (gRet (gC (.bool false))) (gNext)))))))))
def g_law : Gs := gSeqS (gFor (gSeq (gOp hCatZ (gLst (gCons (gC (.int (0))) (gNil))) (gVar 0))) (tgN 1) g_law_L1) (gSeqS (gSet 9 (gLc (gRng2 (gCons (gC (.int (1))) (gCons (gC (.int (60))) (gNil)))) (tgN 10) (gYes) (gTup (gCons (gVar 10) (gCons (gC (.int (0))) (gCons (gC (.int (1))) (gNil))))))) (gSeqS (gIfS (gTest (gOp hNe (gCallN 4 f_moves (gCons (gC (.int (2))) (gCons (gCB (one hListOf) (gCons (gVar 9) gNil)) (gCons (gC (.int (1))) (gCons (gTup (gCons (gC (.int (0))) (gCons (gC (.int (0))) (gCons (gC (.int (1))) (gNil))))) (gNil)))))) (gLst (gCons (gTup (gCons (gC (.int (0))) (gCons (gC (.int (0))) (gCons (gC (.int (1))) (gNil))))) (gCons (gTup (gCons (gC (.int (0))) (gCons (gC (.int (1))) (gCons (gC (.int (0))) (gNil))))) (gNil)))))) (gRet (gC (.bool false))) (gNext)) (gRet (gOp hEq (gCallN 4 f_moves (gCons (gC (.int (2))) (gCons (gCB (one hListOf) (gCons (gVar 9) gNil)) (gCons (gC (.int (1))) (gCons (gTup (gCons (gC (.int (60))) (gCons (gC (.int (0))) (gCons (gC (.int (1))) (gNil))))) (gNil)))))) (gLst (gCons (gTup (gCons (gC (.int (60))) (gCons (gC (.int (0))) (gCons (gC (.int (1))) (gNil))))) (gCons (gTup (gCons (gC (.int (59))) (gCons (gC (.int (1))) (gCons (gC (.int (0))) (gNil))))) (gNil))))))))
def f_law : List Dt → O Dt := fnN 11 g_law
theorem ok_law (t : Tx K mg) : FnG P w K mg base 9 t.a_law t.d_law ["script"] (spG K mg 1 f_law) := by
  have G_l_begun := ok_l_begun (P := P) (w := w) (base := base) t
  have G_l_places := ok_l_places (P := P) (w := w) (base := base) t
  have G_l_drawn_ties := ok_l_drawn_ties (P := P) (w := w) (base := base) t
  have G_l_chosen := ok_l_chosen (P := P) (w := w) (base := base) t
  have G_l_depth := ok_l_depth (P := P) (w := w) (base := base) t
  have G_l_right := ok_l_right (P := P) (w := w) (base := base) t
  have G_l_field_of := ok_l_field_of (P := P) (w := w) (base := base) t
  have G_l_odd_depth := ok_l_odd_depth (P := P) (w := w) (base := base) t
  have G_moves := ok_moves (P := P) (w := w) (base := base) t
  have nd : (["script", "cell", "pot", "n", "ties", "tie", "word", "due", "k", "many", "moment"] : List Str).Nodup := by decide +kernel
  exact fn_okNG t.F_law (Δn := [.im false, .no, .no, .no, .no, .no, .no, .no, .no, .no, .no]) sc_law rfl rfl (by decide) fun cdv A outer s H E gd hr => ⟨_, BD.frm [.im false, .no, .no, .no, .no, .no, .no, .no, .no, .no, .no] (Δb := kd0 1 11 false) (Δc := kd0 1 11 false)
    (b_cons (z_for (n := 11) .never (i_seq ((PD.wkN false (x_catZ ((x_lst (AD.to true true (a_cons (x_int) (a_nil)))).nv) (x_var 0))).nv)) (g_name 1 nd)
    ((b_cons ((z_setO 2 nd (x_callL G_l_begun (hr.mono (by decide)) t.m_l_begun t.F_l_begun.kp t.b_l_begun pass0 (AD.to true false (a_cons (x_var 1) (a_nil))))).to [.im false, .im false, .own .l true, .no, .no, .no, .no, .no, .no, .no, .no])
    (b_cons ((zx_set 3 nd (xd_callM 2 G_l_places (hr.mono (by decide)) t.m_l_places t.F_l_places.kp t.b_l_places pass0 (xb_a (xa_nil)))).to [.im false, .im false, .own .l true, .im true, .no, .no, .no, .no, .no, .no, .no])
    (b_cons ((zx_set 4 nd ((xd_callML 2 G_l_drawn_ties (hr.mono (by decide)) t.m_l_drawn_ties t.F_l_drawn_ties.kp t.b_l_drawn_ties pass0 (xb_a (XAD.to true true (xa_cons (xd_of (x_var 3)) (xa_cons (xd_of (x_int)) (xa_nil)))))).nv)).to [.im false, .im false, .own .l true, .im true, .im true, .no, .no, .no, .no, .no, .no])
    (b_cons ((zx_asg (n := 11) (xd_callMA 2 G_l_chosen (hr.mono (by decide)) t.m_l_chosen t.F_l_chosen.kp t.b_l_chosen pass0 (XAD.to true true (xa_cons (xd_of (x_var 3)) (xa_cons (xd_of (x_var 4)) (xa_nil))))) (g_tup (m := 2) rfl (g_cons (g_name 5 nd) (g_cons (g_name 6 nd) (g_nil))) (tgCons_len (tgCons_len tgNil_len)))).to [.im false, .im false, .own .l true, .im true, .im true, .im true, .im true, .no, .no, .no, .no])
    (b_cons ((z_set 7 nd (x_dgetV hr ((x_disp3 (x_tup (AD.to true true (a_cons (x_bl) (a_cons (x_bl) (a_cons (x_bl) (a_cons (x_bl) (a_nil))))))) (x_tup (AD.to true true (a_cons (x_bl) (a_cons (x_bl) (a_cons (x_bl) (a_cons (x_bl) (a_nil))))))) (x_tup (a_nil))).nvD) (x_var 6))).to [.im false, .im false, .own .l true, .im true, .im true, .im true, .im true, .im true, .no, .no, .no])
    (b_cons ((zx_set 8 nd (xd_callM 2 G_l_depth (hr.mono (by decide)) t.m_l_depth t.F_l_depth.kp t.b_l_depth pass0 (xb_a (xa_nil)))).to [.im false, .im false, .own .l true, .im true, .im true, .im true, .im true, .im true, .im true, .no, .no])
    (b_cons (z_if (Δn := [.im false, .im false, .own .l true, .im true, .im true, .im true, .im true, .im true, .im true, .no, .no]) (c_not (c_val (x_callNG gd G_l_right (hr.mono (by decide)) t.m_l_right t.F_l_right.kp t.b_l_right (AD.to true true (a_cons (x_var 3) (a_cons (x_var 4) (a_cons (x_var 8) (a_cons (x_var 5) (a_cons (x_var 7) (a_nil))))))))))
    (b_one (z_ret (x_bl)))
    ((b_nil).to [.im false, .im false, .own .l true, .im true, .im true, .im true, .im true, .im true, .im true, .no, .no]))
    (b_cons (z_if (Δn := [.im false, .im false, .own .l true, .im true, .im true, .im true, .im true, .im true, .im true, .no, .no]) (c_w (w_and (c_cmp (or_eq hr) (x_var 6) (x_str)) (w_and1 (c_cmp (or_ne hr) (x_callN G_l_field_of (hr.mono (by decide)) t.m_l_field_of t.F_l_field_of.kp t.b_l_field_of pass0 (AD.to true true (a_cons (x_var 3) (a_cons (x_var 4) (a_cons (x_var 8) (a_cons (x_var 5) (a_nil))))))) (x_ix (x_var 5) (x_int))))))
    (b_one (z_ret (x_bl)))
    ((b_nil).to [.im false, .im false, .own .l true, .im true, .im true, .im true, .im true, .im true, .im true, .no, .no]))
    (b_one (zx_if (Δn := [.im false, .im false, .own .l true, .im true, .im true, .im true, .im true, .im true, .im true, .no, .no]) (xt_not (xt_val (xd_callNG gd G_l_right (hr.mono (by decide)) t.m_l_right t.F_l_right.kp t.b_l_right (XAD.to true true (xa_cons (xd_of (x_var 3)) (xa_cons (xd_of (x_var 4)) (xa_cons (xd_callM 2 G_l_odd_depth (hr.mono (by decide)) t.m_l_odd_depth t.F_l_odd_depth.kp t.b_l_odd_depth pass0 (xb_a (xa_nil))) (xa_cons (xd_of (x_var 5)) (xa_cons (xd_of (x_tup (AD.to true true (a_cons (x_bl) (a_cons (x_bl) (a_cons (x_bl) (a_cons (x_bl) (a_nil)))))))) (xa_nil))))))))))
    (b_one (z_ret (x_bl)))
    ((b_nil).to [.im false, .im false, .own .l true, .im true, .im true, .im true, .im true, .im true, .im true, .no, .no]))))))))))).to [.im false, .no, .no, .no, .no, .no, .no, .no, .no, .no, .no]))
    (b_cons ((z_setLc 9 (n := 11) [("moment", 10)] nd (i_rng2 t.n_range (AD.to true true (a_cons (x_int) (a_cons (x_int) (a_nil))))) (blk_fx (N := ["script", "cell", "pot", "n", "ties", "tie", "word", "due", "k", "many", "moment"]) (sc := defScope st_law) (by decide +kernel)) (fun _ _ _ _ _ => g_name 10 nd) (fun _ _ _ _ _ => t_nil) (fun _ _ _ _ _ => x_tup (AD.to true true (a_cons (x_var 10) (a_cons (x_int) (a_cons (x_int) (a_nil)))))) (sw_true rfl rfl rfl (by decide +kernel))).to [.im false, .no, .no, .no, .no, .no, .no, .no, .no, .im true, .no])
    (b_cons (z_if (Δn := [.im false, .no, .no, .no, .no, .no, .no, .no, .no, .im true, .no]) (c_cmp (or_ne hr) ((x_callL G_moves (hr.mono (by decide)) t.m_moves t.F_moves.kp t.b_moves passN (AD.to true true (a_cons (x_int) (a_cons ((x_list t.n_list (a_cons (x_var 9) a_nil)).nv) (a_cons (x_int) (a_cons (x_tup (AD.to true true (a_cons (x_int) (a_cons (x_int) (a_cons (x_int) (a_nil)))))) (a_nil))))))).nv) ((x_lst (AD.to true true (a_cons (x_tup (AD.to true true (a_cons (x_int) (a_cons (x_int) (a_cons (x_int) (a_nil)))))) (a_cons (x_tup (AD.to true true (a_cons (x_int) (a_cons (x_int) (a_cons (x_int) (a_nil)))))) (a_nil))))).nv))
    (b_one (z_ret (x_bl)))
    ((b_nil).to [.im false, .no, .no, .no, .no, .no, .no, .no, .no, .im true, .no]))
    (b_one (z_ret (x_cmp (or_eq hr) ((x_callL G_moves (hr.mono (by decide)) t.m_moves t.F_moves.kp t.b_moves passN (AD.to true true (a_cons (x_int) (a_cons ((x_list t.n_list (a_cons (x_var 9) a_nil)).nv) (a_cons (x_int) (a_cons (x_tup (AD.to true true (a_cons (x_int) (a_cons (x_int) (a_cons (x_int) (a_nil)))))) (a_nil))))))).nv) ((x_lst (AD.to true true (a_cons (x_tup (AD.to true true (a_cons (x_int) (a_cons (x_int) (a_cons (x_int) (a_nil)))))) (a_cons (x_tup (AD.to true true (a_cons (x_int) (a_cons (x_int) (a_cons (x_int) (a_nil)))))) (a_nil))))).nv))))))) rfl⟩
end
section
variable {w : World} {K : PySem.W.Frag} {h : Heap} {mg : Str → Option Value}
def mkTx (X : K.In h) (G : h.Ns mainGlobals mg)
    {f0 : Addr} {od0 an0 : Option Addr} {sl0 : Array (Option Value)} {oc0 kV0 dc0 pm0 cd0 ct0 : Value}
        (a0 : PySem.W.nsIn K mainGlobals "is_whole" = some (some (.ref f0))) (l0 : K.lookup f0 = some ⟨oc0, od0, .func (PySem.W.fnOf "is_whole" "is_whole" (defArgs st_is_whole) (defBody st_is_whole) (defScope st_is_whole) .none kV0 dc0 pm0 an0 cd0 ct0), sl0⟩) (c0 : PySem.W.codeIn K cd0 "is_whole" = true) (k0 : PySem.W.keepIn K (.ref f0) = true)
    {f1 : Addr} {od1 an1 : Option Addr} {sl1 : Array (Option Value)} {oc1 kV1 dc1 pm1 cd1 ct1 : Value}
        (a1 : PySem.W.nsIn K mainGlobals "is_place" = some (some (.ref f1))) (l1 : K.lookup f1 = some ⟨oc1, od1, .func (PySem.W.fnOf "is_place" "is_place" (defArgs st_is_place) (defBody st_is_place) (defScope st_is_place) .none kV1 dc1 pm1 an1 cd1 ct1), sl1⟩) (c1 : PySem.W.codeIn K cd1 "is_place" = true) (k1 : PySem.W.keepIn K (.ref f1) = true)
    {f2 : Addr} {od2 an2 : Option Addr} {sl2 : Array (Option Value)} {oc2 kV2 dc2 pm2 cd2 ct2 : Value}
        (a2 : PySem.W.nsIn K mainGlobals "is_moment" = some (some (.ref f2))) (l2 : K.lookup f2 = some ⟨oc2, od2, .func (PySem.W.fnOf "is_moment" "is_moment" (defArgs st_is_moment) (defBody st_is_moment) (defScope st_is_moment) .none kV2 dc2 pm2 an2 cd2 ct2), sl2⟩) (c2 : PySem.W.codeIn K cd2 "is_moment" = true) (k2 : PySem.W.keepIn K (.ref f2) = true)
    {f3 : Addr} {od3 an3 : Option Addr} {sl3 : Array (Option Value)} {oc3 kV3 dc3 pm3 cd3 ct3 : Value}
        (a3 : PySem.W.nsIn K mainGlobals "is_meeting" = some (some (.ref f3))) (l3 : K.lookup f3 = some ⟨oc3, od3, .func (PySem.W.fnOf "is_meeting" "is_meeting" (defArgs st_is_meeting) (defBody st_is_meeting) (defScope st_is_meeting) .none kV3 dc3 pm3 an3 cd3 ct3), sl3⟩) (c3 : PySem.W.codeIn K cd3 "is_meeting" = true) (k3 : PySem.W.keepIn K (.ref f3) = true)
    {f4 : Addr} {od4 an4 : Option Addr} {sl4 : Array (Option Value)} {oc4 kV4 dc4 pm4 cd4 ct4 : Value}
        (a4 : PySem.W.nsIn K mainGlobals "is_tie" = some (some (.ref f4))) (l4 : K.lookup f4 = some ⟨oc4, od4, .func (PySem.W.fnOf "is_tie" "is_tie" (defArgs st_is_tie) (defBody st_is_tie) (defScope st_is_tie) .none kV4 dc4 pm4 an4 cd4 ct4), sl4⟩) (c4 : PySem.W.codeIn K cd4 "is_tie" = true) (k4 : PySem.W.keepIn K (.ref f4) = true)
    {f5 : Addr} {od5 an5 : Option Addr} {sl5 : Array (Option Value)} {oc5 kV5 dc5 pm5 cd5 ct5 : Value}
        (a5 : PySem.W.nsIn K mainGlobals "is_record" = some (some (.ref f5))) (l5 : K.lookup f5 = some ⟨oc5, od5, .func (PySem.W.fnOf "is_record" "is_record" (defArgs st_is_record) (defBody st_is_record) (defScope st_is_record) .none kV5 dc5 pm5 an5 cd5 ct5), sl5⟩) (c5 : PySem.W.codeIn K cd5 "is_record" = true) (k5 : PySem.W.keepIn K (.ref f5) = true)
    {f6 : Addr} {od6 an6 : Option Addr} {sl6 : Array (Option Value)} {oc6 kV6 dc6 pm6 cd6 ct6 : Value}
        (a6 : PySem.W.nsIn K mainGlobals "joined" = some (some (.ref f6))) (l6 : K.lookup f6 = some ⟨oc6, od6, .func (PySem.W.fnOf "joined" "joined" (defArgs st_joined) (defBody st_joined) (defScope st_joined) .none kV6 dc6 pm6 an6 cd6 ct6), sl6⟩) (c6 : PySem.W.codeIn K cd6 "joined" = true) (k6 : PySem.W.keepIn K (.ref f6) = true)
    {f7 : Addr} {od7 an7 : Option Addr} {sl7 : Array (Option Value)} {oc7 kV7 dc7 pm7 cd7 ct7 : Value}
        (a7 : PySem.W.nsIn K mainGlobals "is_depth" = some (some (.ref f7))) (l7 : K.lookup f7 = some ⟨oc7, od7, .func (PySem.W.fnOf "is_depth" "is_depth" (defArgs st_is_depth) (defBody st_is_depth) (defScope st_is_depth) .none kV7 dc7 pm7 an7 cd7 ct7), sl7⟩) (c7 : PySem.W.codeIn K cd7 "is_depth" = true) (k7 : PySem.W.keepIn K (.ref f7) = true)
    {f8 : Addr} {od8 an8 : Option Addr} {sl8 : Array (Option Value)} {oc8 kV8 dc8 pm8 cd8 ct8 : Value}
        (a8 : PySem.W.nsIn K mainGlobals "look_at_layers" = some (some (.ref f8))) (l8 : K.lookup f8 = some ⟨oc8, od8, .func (PySem.W.fnOf "look_at_layers" "look_at_layers" (defArgs st_look_at_layers) (defBody st_look_at_layers) (defScope st_look_at_layers) .none kV8 dc8 pm8 an8 cd8 ct8), sl8⟩) (c8 : PySem.W.codeIn K cd8 "look_at_layers" = true) (k8 : PySem.W.keepIn K (.ref f8) = true)
    {f9 : Addr} {od9 an9 : Option Addr} {sl9 : Array (Option Value)} {oc9 kV9 dc9 pm9 cd9 ct9 : Value}
        (a9 : PySem.W.nsIn K mainGlobals "layer_for" = some (some (.ref f9))) (l9 : K.lookup f9 = some ⟨oc9, od9, .func (PySem.W.fnOf "layer_for" "layer_for" (defArgs st_layer_for) (defBody st_layer_for) (defScope st_layer_for) .none kV9 dc9 pm9 an9 cd9 ct9), sl9⟩) (c9 : PySem.W.codeIn K cd9 "layer_for" = true) (k9 : PySem.W.keepIn K (.ref f9) = true)
    {f10 : Addr} {od10 an10 : Option Addr} {sl10 : Array (Option Value)} {oc10 kV10 dc10 pm10 cd10 ct10 : Value}
        (a10 : PySem.W.nsIn K mainGlobals "layered" = some (some (.ref f10))) (l10 : K.lookup f10 = some ⟨oc10, od10, .func (PySem.W.fnOf "layered" "layered" (defArgs st_layered) (defBody st_layered) (defScope st_layered) .none kV10 dc10 pm10 an10 cd10 ct10), sl10⟩) (c10 : PySem.W.codeIn K cd10 "layered" = true) (k10 : PySem.W.keepIn K (.ref f10) = true)
    {f11 : Addr} {od11 an11 : Option Addr} {sl11 : Array (Option Value)} {oc11 kV11 dc11 pm11 cd11 ct11 : Value}
        (a11 : PySem.W.nsIn K mainGlobals "come_to" = some (some (.ref f11))) (l11 : K.lookup f11 = some ⟨oc11, od11, .func (PySem.W.fnOf "come_to" "come_to" (defArgs st_come_to) (defBody st_come_to) (defScope st_come_to) .none kV11 dc11 pm11 an11 cd11 ct11), sl11⟩) (c11 : PySem.W.codeIn K cd11 "come_to" = true) (k11 : PySem.W.keepIn K (.ref f11) = true)
    {f12 : Addr} {od12 an12 : Option Addr} {sl12 : Array (Option Value)} {oc12 kV12 dc12 pm12 cd12 ct12 : Value}
        (a12 : PySem.W.nsIn K mainGlobals "ring_with" = some (some (.ref f12))) (l12 : K.lookup f12 = some ⟨oc12, od12, .func (PySem.W.fnOf "ring_with" "ring_with" (defArgs st_ring_with) (defBody st_ring_with) (defScope st_ring_with) .none kV12 dc12 pm12 an12 cd12 ct12), sl12⟩) (c12 : PySem.W.codeIn K cd12 "ring_with" = true) (k12 : PySem.W.keepIn K (.ref f12) = true)
    {f13 : Addr} {od13 an13 : Option Addr} {sl13 : Array (Option Value)} {oc13 kV13 dc13 pm13 cd13 ct13 : Value}
        (a13 : PySem.W.nsIn K mainGlobals "moves" = some (some (.ref f13))) (l13 : K.lookup f13 = some ⟨oc13, od13, .func (PySem.W.fnOf "moves" "moves" (defArgs st_moves) (defBody st_moves) (defScope st_moves) .none kV13 dc13 pm13 an13 cd13 ct13), sl13⟩) (c13 : PySem.W.codeIn K cd13 "moves" = true) (k13 : PySem.W.keepIn K (.ref f13) = true)
    {f14 : Addr} {od14 an14 : Option Addr} {sl14 : Array (Option Value)} {oc14 kV14 dc14 pm14 cd14 ct14 : Value}
        (a14 : PySem.W.nsIn K mainGlobals "_law_begun" = some (some (.ref f14))) (l14 : K.lookup f14 = some ⟨oc14, od14, .func (PySem.W.fnOf "_law_begun" "_law_begun" (defArgs st_l_begun) (defBody st_l_begun) (defScope st_l_begun) .none kV14 dc14 pm14 an14 cd14 ct14), sl14⟩) (c14 : PySem.W.codeIn K cd14 "_law_begun" = true) (k14 : PySem.W.keepIn K (.ref f14) = true)
    {f15 : Addr} {od15 an15 : Option Addr} {sl15 : Array (Option Value)} {oc15 kV15 dc15 pm15 cd15 ct15 : Value}
        (a15 : PySem.W.nsIn K mainGlobals "_law_take" = some (some (.ref f15))) (l15 : K.lookup f15 = some ⟨oc15, od15, .func (PySem.W.fnOf "_law_take" "_law_take" (defArgs st_l_take) (defBody st_l_take) (defScope st_l_take) .none kV15 dc15 pm15 an15 cd15 ct15), sl15⟩) (c15 : PySem.W.codeIn K cd15 "_law_take" = true) (k15 : PySem.W.keepIn K (.ref f15) = true)
    {f16 : Addr} {od16 an16 : Option Addr} {sl16 : Array (Option Value)} {oc16 kV16 dc16 pm16 cd16 ct16 : Value}
        (a16 : PySem.W.nsIn K mainGlobals "_law_wide" = some (some (.ref f16))) (l16 : K.lookup f16 = some ⟨oc16, od16, .func (PySem.W.fnOf "_law_wide" "_law_wide" (defArgs st_l_wide) (defBody st_l_wide) (defScope st_l_wide) .none kV16 dc16 pm16 an16 cd16 ct16), sl16⟩) (c16 : PySem.W.codeIn K cd16 "_law_wide" = true) (k16 : PySem.W.keepIn K (.ref f16) = true)
    {f17 : Addr} {od17 an17 : Option Addr} {sl17 : Array (Option Value)} {oc17 kV17 dc17 pm17 cd17 ct17 : Value}
        (a17 : PySem.W.nsIn K mainGlobals "_law_places" = some (some (.ref f17))) (l17 : K.lookup f17 = some ⟨oc17, od17, .func (PySem.W.fnOf "_law_places" "_law_places" (defArgs st_l_places) (defBody st_l_places) (defScope st_l_places) .none kV17 dc17 pm17 an17 cd17 ct17), sl17⟩) (c17 : PySem.W.codeIn K cd17 "_law_places" = true) (k17 : PySem.W.keepIn K (.ref f17) = true)
    {f18 : Addr} {od18 an18 : Option Addr} {sl18 : Array (Option Value)} {oc18 kV18 dc18 pm18 cd18 ct18 : Value}
        (a18 : PySem.W.nsIn K mainGlobals "_law_depth" = some (some (.ref f18))) (l18 : K.lookup f18 = some ⟨oc18, od18, .func (PySem.W.fnOf "_law_depth" "_law_depth" (defArgs st_l_depth) (defBody st_l_depth) (defScope st_l_depth) .none kV18 dc18 pm18 an18 cd18 ct18), sl18⟩) (c18 : PySem.W.codeIn K cd18 "_law_depth" = true) (k18 : PySem.W.keepIn K (.ref f18) = true)
    {f19 : Addr} {od19 an19 : Option Addr} {sl19 : Array (Option Value)} {oc19 kV19 dc19 pm19 cd19 ct19 : Value}
        (a19 : PySem.W.nsIn K mainGlobals "_law_ends" = some (some (.ref f19))) (l19 : K.lookup f19 = some ⟨oc19, od19, .func (PySem.W.fnOf "_law_ends" "_law_ends" (defArgs st_l_ends) (defBody st_l_ends) (defScope st_l_ends) .none kV19 dc19 pm19 an19 cd19 ct19), sl19⟩) (c19 : PySem.W.codeIn K cd19 "_law_ends" = true) (k19 : PySem.W.keepIn K (.ref f19) = true)
    {f20 : Addr} {od20 an20 : Option Addr} {sl20 : Array (Option Value)} {oc20 kV20 dc20 pm20 cd20 ct20 : Value}
        (a20 : PySem.W.nsIn K mainGlobals "_law_drawn_ties" = some (some (.ref f20))) (l20 : K.lookup f20 = some ⟨oc20, od20, .func (PySem.W.fnOf "_law_drawn_ties" "_law_drawn_ties" (defArgs st_l_drawn_ties) (defBody st_l_drawn_ties) (defScope st_l_drawn_ties) .none kV20 dc20 pm20 an20 cd20 ct20), sl20⟩) (c20 : PySem.W.codeIn K cd20 "_law_drawn_ties" = true) (k20 : PySem.W.keepIn K (.ref f20) = true)
    {f21 : Addr} {od21 an21 : Option Addr} {sl21 : Array (Option Value)} {oc21 kV21 dc21 pm21 cd21 ct21 : Value}
        (a21 : PySem.W.nsIn K mainGlobals "_law_new_tie" = some (some (.ref f21))) (l21 : K.lookup f21 = some ⟨oc21, od21, .func (PySem.W.fnOf "_law_new_tie" "_law_new_tie" (defArgs st_l_new_tie) (defBody st_l_new_tie) (defScope st_l_new_tie) .none kV21 dc21 pm21 an21 cd21 ct21), sl21⟩) (c21 : PySem.W.codeIn K cd21 "_law_new_tie" = true) (k21 : PySem.W.keepIn K (.ref f21) = true)
    {f22 : Addr} {od22 an22 : Option Addr} {sl22 : Array (Option Value)} {oc22 kV22 dc22 pm22 cd22 ct22 : Value}
        (a22 : PySem.W.nsIn K mainGlobals "_law_odd_tie" = some (some (.ref f22))) (l22 : K.lookup f22 = some ⟨oc22, od22, .func (PySem.W.fnOf "_law_odd_tie" "_law_odd_tie" (defArgs st_l_odd_tie) (defBody st_l_odd_tie) (defScope st_l_odd_tie) .none kV22 dc22 pm22 an22 cd22 ct22), sl22⟩) (c22 : PySem.W.codeIn K cd22 "_law_odd_tie" = true) (k22 : PySem.W.keepIn K (.ref f22) = true)
    {f23 : Addr} {od23 an23 : Option Addr} {sl23 : Array (Option Value)} {oc23 kV23 dc23 pm23 cd23 ct23 : Value}
        (a23 : PySem.W.nsIn K mainGlobals "_law_odd_depth" = some (some (.ref f23))) (l23 : K.lookup f23 = some ⟨oc23, od23, .func (PySem.W.fnOf "_law_odd_depth" "_law_odd_depth" (defArgs st_l_odd_depth) (defBody st_l_odd_depth) (defScope st_l_odd_depth) .none kV23 dc23 pm23 an23 cd23 ct23), sl23⟩) (c23 : PySem.W.codeIn K cd23 "_law_odd_depth" = true) (k23 : PySem.W.keepIn K (.ref f23) = true)
    {f24 : Addr} {od24 an24 : Option Addr} {sl24 : Array (Option Value)} {oc24 kV24 dc24 pm24 cd24 ct24 : Value}
        (a24 : PySem.W.nsIn K mainGlobals "_law_told_of" = some (some (.ref f24))) (l24 : K.lookup f24 = some ⟨oc24, od24, .func (PySem.W.fnOf "_law_told_of" "_law_told_of" (defArgs st_l_told_of) (defBody st_l_told_of) (defScope st_l_told_of) .none kV24 dc24 pm24 an24 cd24 ct24), sl24⟩) (c24 : PySem.W.codeIn K cd24 "_law_told_of" = true) (k24 : PySem.W.keepIn K (.ref f24) = true)
    {f25 : Addr} {od25 an25 : Option Addr} {sl25 : Array (Option Value)} {oc25 kV25 dc25 pm25 cd25 ct25 : Value}
        (a25 : PySem.W.nsIn K mainGlobals "_law_field_of" = some (some (.ref f25))) (l25 : K.lookup f25 = some ⟨oc25, od25, .func (PySem.W.fnOf "_law_field_of" "_law_field_of" (defArgs st_l_field_of) (defBody st_l_field_of) (defScope st_l_field_of) .none kV25 dc25 pm25 an25 cd25 ct25), sl25⟩) (c25 : PySem.W.codeIn K cd25 "_law_field_of" = true) (k25 : PySem.W.keepIn K (.ref f25) = true)
    {f26 : Addr} {od26 an26 : Option Addr} {sl26 : Array (Option Value)} {oc26 kV26 dc26 pm26 cd26 ct26 : Value}
        (a26 : PySem.W.nsIn K mainGlobals "_law_chosen" = some (some (.ref f26))) (l26 : K.lookup f26 = some ⟨oc26, od26, .func (PySem.W.fnOf "_law_chosen" "_law_chosen" (defArgs st_l_chosen) (defBody st_l_chosen) (defScope st_l_chosen) .none kV26 dc26 pm26 an26 cd26 ct26), sl26⟩) (c26 : PySem.W.codeIn K cd26 "_law_chosen" = true) (k26 : PySem.W.keepIn K (.ref f26) = true)
    {f27 : Addr} {od27 an27 : Option Addr} {sl27 : Array (Option Value)} {oc27 kV27 dc27 pm27 cd27 ct27 : Value}
        (a27 : PySem.W.nsIn K mainGlobals "_law_right" = some (some (.ref f27))) (l27 : K.lookup f27 = some ⟨oc27, od27, .func (PySem.W.fnOf "_law_right" "_law_right" (defArgs st_l_right) (defBody st_l_right) (defScope st_l_right) .none kV27 dc27 pm27 an27 cd27 ct27), sl27⟩) (c27 : PySem.W.codeIn K cd27 "_law_right" = true) (k27 : PySem.W.keepIn K (.ref f27) = true)
    {f28 : Addr} {od28 an28 : Option Addr} {sl28 : Array (Option Value)} {oc28 kV28 dc28 pm28 cd28 ct28 : Value}
        (a28 : PySem.W.nsIn K mainGlobals "law" = some (some (.ref f28))) (l28 : K.lookup f28 = some ⟨oc28, od28, .func (PySem.W.fnOf "law" "law" (defArgs st_law) (defBody st_law) (defScope st_law) .none kV28 dc28 pm28 an28 cd28 ct28), sl28⟩) (c28 : PySem.W.codeIn K cd28 "law" = true) (k28 : PySem.W.keepIn K (.ref f28) = true)
        (z_isinstance : PySem.W.nsIn K mainGlobals "isinstance" = some none)
        (z_int : PySem.W.nsIn K mainGlobals "int" = some none)
        (z_bool : PySem.W.nsIn K mainGlobals "bool" = some none)
        (z_tuple : PySem.W.nsIn K mainGlobals "tuple" = some none)
        (z_len : PySem.W.nsIn K mainGlobals "len" = some none)
        (z_list : PySem.W.nsIn K mainGlobals "list" = some none)
        (z_all : PySem.W.nsIn K mainGlobals "all" = some none)
        (z_range : PySem.W.nsIn K mainGlobals "range" = some none)
        (z_min : PySem.W.nsIn K mainGlobals "min" = some none)
        (z_max : PySem.W.nsIn K mainGlobals "max" = some none)
        (z_enumerate : PySem.W.nsIn K mainGlobals "enumerate" = some none)
        (z_reversed : PySem.W.nsIn K mainGlobals "reversed" = some none)
        (z_zip : PySem.W.nsIn K mainGlobals "zip" = some none)
        (z_abs : PySem.W.nsIn K mainGlobals "abs" = some none)
        (z_ValueError : PySem.W.nsIn K mainGlobals "ValueError" = some none)
        (z_str : PySem.W.nsIn K mainGlobals "str" = some none)
        {tk_LAST_MOMENT : Tok} (y_LAST_MOMENT : PySem.W.nsIn K mainGlobals "LAST_MOMENT" = some (some (.int (1000000000000000000000000000000) tk_LAST_MOMENT)))
        {tk_MOST_TIES : Tok} (y_MOST_TIES : PySem.W.nsIn K mainGlobals "MOST_TIES" = some (some (.int (60) tk_MOST_TIES)))
        {tk_MOST_LAYERS : Tok} (y_MOST_LAYERS : PySem.W.nsIn K mainGlobals "MOST_LAYERS" = some (some (.int (6) tk_MOST_LAYERS)))
        {C_NoLayers : Addr} (u1_NoLayers : PySem.W.nsIn K mainGlobals "NoLayers" = some (some (.ref C_NoLayers))) (u2_NoLayers : PySem.W.keepIn K (.ref C_NoLayers) = true) (u3_NoLayers : PySem.W.typeIn K (.ref C_NoLayers) = some (.type "type"))
        (u4_NoLayers : PySem.W.findIn K (.ref C_NoLayers) "__getattribute__" = some (some (.builtin "BaseException.__getattribute__"))) (u5_NoLayers : PySem.W.findIn K (.ref C_NoLayers) "__getattr__" = some none) (u6_NoLayers : PySem.W.subIn K (.ref C_NoLayers) (.type "BaseException") = some true) (u7_NoLayers : PySem.W.hasDictIn K C_NoLayers = true) (u8_NoLayers : PySem.W.findIn K (.ref C_NoLayers) "__class__" = some (some (.builtin "object.__class__"))) (u9_NoLayers : PySem.W.mroIn K C_NoLayers (.type "object") = some true)
        (uQ_NoLayers : PySem.W.excIn K C_NoLayers veB "ValueError.__new__" = true)
        {C_NoTies : Addr} (u1_NoTies : PySem.W.nsIn K mainGlobals "NoTies" = some (some (.ref C_NoTies))) (u2_NoTies : PySem.W.keepIn K (.ref C_NoTies) = true) (u3_NoTies : PySem.W.typeIn K (.ref C_NoTies) = some (.type "type"))
        (u4_NoTies : PySem.W.findIn K (.ref C_NoTies) "__getattribute__" = some (some (.builtin "BaseException.__getattribute__"))) (u5_NoTies : PySem.W.findIn K (.ref C_NoTies) "__getattr__" = some none) (u6_NoTies : PySem.W.subIn K (.ref C_NoTies) (.type "BaseException") = some true) (u7_NoTies : PySem.W.hasDictIn K C_NoTies = true) (u8_NoTies : PySem.W.findIn K (.ref C_NoTies) "__class__" = some (some (.builtin "object.__class__"))) (u9_NoTies : PySem.W.mroIn K C_NoTies (.type "object") = some true)
        (uQ_NoTies : PySem.W.excIn K C_NoTies veB "ValueError.__new__" = true)
        {C_Clash : Addr} (u1_Clash : PySem.W.nsIn K mainGlobals "Clash" = some (some (.ref C_Clash))) (u2_Clash : PySem.W.keepIn K (.ref C_Clash) = true) (u3_Clash : PySem.W.typeIn K (.ref C_Clash) = some (.type "type"))
        (u4_Clash : PySem.W.findIn K (.ref C_Clash) "__getattribute__" = some (some (.builtin "BaseException.__getattribute__"))) (u5_Clash : PySem.W.findIn K (.ref C_Clash) "__getattr__" = some none) (u6_Clash : PySem.W.subIn K (.ref C_Clash) (.type "BaseException") = some true) (u7_Clash : PySem.W.hasDictIn K C_Clash = true) (u8_Clash : PySem.W.findIn K (.ref C_Clash) "__class__" = some (some (.builtin "object.__class__"))) (u9_Clash : PySem.W.mroIn K C_Clash (.type "object") = some true)
        {C_PlyError : Addr} (u1_PlyError : PySem.W.nsIn K mainGlobals "PlyError" = some (some (.ref C_PlyError))) (u2_PlyError : PySem.W.keepIn K (.ref C_PlyError) = true) (u3_PlyError : PySem.W.typeIn K (.ref C_PlyError) = some (.type "type"))
        (u4_PlyError : PySem.W.findIn K (.ref C_PlyError) "__getattribute__" = some (some (.builtin "BaseException.__getattribute__"))) (u5_PlyError : PySem.W.findIn K (.ref C_PlyError) "__getattr__" = some none) (u6_PlyError : PySem.W.subIn K (.ref C_PlyError) (.type "BaseException") = some true) (u7_PlyError : PySem.W.hasDictIn K C_PlyError = true) (u8_PlyError : PySem.W.findIn K (.ref C_PlyError) "__class__" = some (some (.builtin "object.__class__"))) (u9_PlyError : PySem.W.mroIn K C_PlyError (.type "object") = some true)
        {C_Unlike : Addr} (u1_Unlike : PySem.W.nsIn K mainGlobals "Unlike" = some (some (.ref C_Unlike))) (u2_Unlike : PySem.W.keepIn K (.ref C_Unlike) = true) (u3_Unlike : PySem.W.typeIn K (.ref C_Unlike) = some (.type "type"))
        (u4_Unlike : PySem.W.findIn K (.ref C_Unlike) "__getattribute__" = some (some (.builtin "BaseException.__getattribute__"))) (u5_Unlike : PySem.W.findIn K (.ref C_Unlike) "__getattr__" = some none) (u6_Unlike : PySem.W.subIn K (.ref C_Unlike) (.type "BaseException") = some true) (u7_Unlike : PySem.W.hasDictIn K C_Unlike = true) (u8_Unlike : PySem.W.findIn K (.ref C_Unlike) "__class__" = some (some (.builtin "object.__class__"))) (u9_Unlike : PySem.W.mroIn K C_Unlike (.type "object") = some true)
        {C_NoText : Addr} (u1_NoText : PySem.W.nsIn K mainGlobals "NoText" = some (some (.ref C_NoText))) (u2_NoText : PySem.W.keepIn K (.ref C_NoText) = true) (u3_NoText : PySem.W.typeIn K (.ref C_NoText) = some (.type "type"))
        (u4_NoText : PySem.W.findIn K (.ref C_NoText) "__getattribute__" = some (some (.builtin "BaseException.__getattribute__"))) (u5_NoText : PySem.W.findIn K (.ref C_NoText) "__getattr__" = some none) (u6_NoText : PySem.W.subIn K (.ref C_NoText) (.type "BaseException") = some true) (u7_NoText : PySem.W.hasDictIn K C_NoText = true) (u8_NoText : PySem.W.findIn K (.ref C_NoText) "__class__" = some (some (.builtin "object.__class__"))) (u9_NoText : PySem.W.mroIn K C_NoText (.type "object") = some true)
        {C_NoRow : Addr} (u1_NoRow : PySem.W.nsIn K mainGlobals "NoRow" = some (some (.ref C_NoRow))) (u2_NoRow : PySem.W.keepIn K (.ref C_NoRow) = true) (u3_NoRow : PySem.W.typeIn K (.ref C_NoRow) = some (.type "type"))
        (u4_NoRow : PySem.W.findIn K (.ref C_NoRow) "__getattribute__" = some (some (.builtin "BaseException.__getattribute__"))) (u5_NoRow : PySem.W.findIn K (.ref C_NoRow) "__getattr__" = some none) (u6_NoRow : PySem.W.subIn K (.ref C_NoRow) (.type "BaseException") = some true) (u7_NoRow : PySem.W.hasDictIn K C_NoRow = true) (u8_NoRow : PySem.W.findIn K (.ref C_NoRow) "__class__" = some (some (.builtin "object.__class__"))) (u9_NoRow : PySem.W.mroIn K C_NoRow (.type "object") = some true)
        {C_NoPlaces : Addr} (u1_NoPlaces : PySem.W.nsIn K mainGlobals "NoPlaces" = some (some (.ref C_NoPlaces))) (u2_NoPlaces : PySem.W.keepIn K (.ref C_NoPlaces) = true) (u3_NoPlaces : PySem.W.typeIn K (.ref C_NoPlaces) = some (.type "type"))
        (u4_NoPlaces : PySem.W.findIn K (.ref C_NoPlaces) "__getattribute__" = some (some (.builtin "BaseException.__getattribute__"))) (u5_NoPlaces : PySem.W.findIn K (.ref C_NoPlaces) "__getattr__" = some none) (u6_NoPlaces : PySem.W.subIn K (.ref C_NoPlaces) (.type "BaseException") = some true) (u7_NoPlaces : PySem.W.hasDictIn K C_NoPlaces = true) (u8_NoPlaces : PySem.W.findIn K (.ref C_NoPlaces) "__class__" = some (some (.builtin "object.__class__"))) (u9_NoPlaces : PySem.W.mroIn K C_NoPlaces (.type "object") = some true)
        {C_NoPaper : Addr} (u1_NoPaper : PySem.W.nsIn K mainGlobals "NoPaper" = some (some (.ref C_NoPaper))) (u2_NoPaper : PySem.W.keepIn K (.ref C_NoPaper) = true) (u3_NoPaper : PySem.W.typeIn K (.ref C_NoPaper) = some (.type "type"))
        (u4_NoPaper : PySem.W.findIn K (.ref C_NoPaper) "__getattribute__" = some (some (.builtin "BaseException.__getattribute__"))) (u5_NoPaper : PySem.W.findIn K (.ref C_NoPaper) "__getattr__" = some none) (u6_NoPaper : PySem.W.subIn K (.ref C_NoPaper) (.type "BaseException") = some true) (u7_NoPaper : PySem.W.hasDictIn K C_NoPaper = true) (u8_NoPaper : PySem.W.findIn K (.ref C_NoPaper) "__class__" = some (some (.builtin "object.__class__"))) (u9_NoPaper : PySem.W.mroIn K C_NoPaper (.type "object") = some true)
        {C_NoPair : Addr} (u1_NoPair : PySem.W.nsIn K mainGlobals "NoPair" = some (some (.ref C_NoPair))) (u2_NoPair : PySem.W.keepIn K (.ref C_NoPair) = true) (u3_NoPair : PySem.W.typeIn K (.ref C_NoPair) = some (.type "type"))
        (u4_NoPair : PySem.W.findIn K (.ref C_NoPair) "__getattribute__" = some (some (.builtin "BaseException.__getattribute__"))) (u5_NoPair : PySem.W.findIn K (.ref C_NoPair) "__getattr__" = some none) (u6_NoPair : PySem.W.subIn K (.ref C_NoPair) (.type "BaseException") = some true) (u7_NoPair : PySem.W.hasDictIn K C_NoPair = true) (u8_NoPair : PySem.W.findIn K (.ref C_NoPair) "__class__" = some (some (.builtin "object.__class__"))) (u9_NoPair : PySem.W.mroIn K C_NoPair (.type "object") = some true)
        {C_NoNet : Addr} (u1_NoNet : PySem.W.nsIn K mainGlobals "NoNet" = some (some (.ref C_NoNet))) (u2_NoNet : PySem.W.keepIn K (.ref C_NoNet) = true) (u3_NoNet : PySem.W.typeIn K (.ref C_NoNet) = some (.type "type"))
        (u4_NoNet : PySem.W.findIn K (.ref C_NoNet) "__getattribute__" = some (some (.builtin "BaseException.__getattribute__"))) (u5_NoNet : PySem.W.findIn K (.ref C_NoNet) "__getattr__" = some none) (u6_NoNet : PySem.W.subIn K (.ref C_NoNet) (.type "BaseException") = some true) (u7_NoNet : PySem.W.hasDictIn K C_NoNet = true) (u8_NoNet : PySem.W.findIn K (.ref C_NoNet) "__class__" = some (some (.builtin "object.__class__"))) (u9_NoNet : PySem.W.mroIn K C_NoNet (.type "object") = some true)
        {C_NoDeed : Addr} (u1_NoDeed : PySem.W.nsIn K mainGlobals "NoDeed" = some (some (.ref C_NoDeed))) (u2_NoDeed : PySem.W.keepIn K (.ref C_NoDeed) = true) (u3_NoDeed : PySem.W.typeIn K (.ref C_NoDeed) = some (.type "type"))
        (u4_NoDeed : PySem.W.findIn K (.ref C_NoDeed) "__getattribute__" = some (some (.builtin "BaseException.__getattribute__"))) (u5_NoDeed : PySem.W.findIn K (.ref C_NoDeed) "__getattr__" = some none) (u6_NoDeed : PySem.W.subIn K (.ref C_NoDeed) (.type "BaseException") = some true) (u7_NoDeed : PySem.W.hasDictIn K C_NoDeed = true) (u8_NoDeed : PySem.W.findIn K (.ref C_NoDeed) "__class__" = some (some (.builtin "object.__class__"))) (u9_NoDeed : PySem.W.mroIn K C_NoDeed (.type "object") = some true)
        {iA_Clash : Addr} {iod_Clash ian_Clash : Option Addr} {isl_Clash : Array (Option Value)} {ioc_Clash ikV_Clash idc_Clash ipm_Clash icd_Clash ict_Clash : Value}
        (w1_Clash : PySem.W.findIn K (.ref C_Clash) "__init__" = some (some (.ref iA_Clash))) (w2_Clash : K.lookup iA_Clash = some ⟨ioc_Clash, iod_Clash, .func (PySem.W.fnOf "__init__" "Clash.__init__" (defArgs si_Clash) (defBody si_Clash) (defScope si_Clash) .none ikV_Clash idc_Clash ipm_Clash ian_Clash icd_Clash ict_Clash), isl_Clash⟩) (w3_Clash : PySem.W.codeIn K icd_Clash "Clash.__init__" = true) (w4_Clash : PySem.W.keepIn K (.ref iA_Clash) = true)
        (w5_Clash : PySem.W.typeIn K (.ref iA_Clash) = some (.type "function")) (w6_Clash : PySem.W.findIn K (.ref C_Clash) "moment" = some none) (w7_Clash : PySem.W.findIn K (.ref C_Clash) "__setattr__" = some (some (.builtin "object.__setattr__"))) {iq1_Clash iq2_Clash : Str} {iN_Clash : Addr} {ibs_Clash isb_Clash : List Value} {isn_Clash : List Str} {iab_Clash : Bool} {icol_Clash : Option Bool} {idd_Clash : Option Addr} {im0_Clash im1_Clash im2_Clash im3_Clash im5_Clash : Option Value} (w8_Clash : K.lookup C_Clash = some (excClassObj iq1_Clash iq2_Clash C_Clash iN_Clash ibs_Clash [.ref C_PlyError, .type "ValueError", .type "Exception", .type "BaseException", .type "object"] true isn_Clash isb_Clash iab_Clash icol_Clash idd_Clash im0_Clash im1_Clash im2_Clash im3_Clash im5_Clash "ValueError.__new__"))
        (w9_Clash : PySem.W.readsIn K C_PlyError (.type "type") = true) (wA_Clash : PySem.W.specialIn K (.ref C_PlyError) "__getattribute__" = some (some (.builtin "type.__getattribute__"))) (wB_Clash : PySem.W.findCls K (.ref C_PlyError) (.type "type") "__init__" = some (.val (.builtin "ValueError.__init__")))
        (un : PySem.W.specialIn K (.builtin "object.__class__") "__get__" = some (some (.builtin "getset_descriptor.__get__"))) (ut : PySem.W.takesIn K (.builtin "object.__class__") = some true)
        (uS_Clash_Unlike : PySem.W.subIn K (.ref C_Clash) (.ref C_Unlike) = some false)
        (uS_Clash_Clash : PySem.W.subIn K (.ref C_Clash) (.ref C_Clash) = some true)
        (uS_Clash_NoText : PySem.W.subIn K (.ref C_Clash) (.ref C_NoText) = some false)
        (uS_Clash_NoRow : PySem.W.subIn K (.ref C_Clash) (.ref C_NoRow) = some false)
        (uS_Clash_NoPlaces : PySem.W.subIn K (.ref C_Clash) (.ref C_NoPlaces) = some false)
        (uS_Clash_NoPaper : PySem.W.subIn K (.ref C_Clash) (.ref C_NoPaper) = some false)
        (uS_Clash_NoPair : PySem.W.subIn K (.ref C_Clash) (.ref C_NoPair) = some false)
        (uS_Clash_NoNet : PySem.W.subIn K (.ref C_Clash) (.ref C_NoNet) = some false)
        (uS_Clash_NoDeed : PySem.W.subIn K (.ref C_Clash) (.ref C_NoDeed) = some false)
        (uS_NoTies_Unlike : PySem.W.subIn K (.ref C_NoTies) (.ref C_Unlike) = some false)
        (uS_NoTies_NoTies : PySem.W.subIn K (.ref C_NoTies) (.ref C_NoTies) = some true)
        (uS_NoTies_NoText : PySem.W.subIn K (.ref C_NoTies) (.ref C_NoText) = some false)
        (uS_NoTies_NoRow : PySem.W.subIn K (.ref C_NoTies) (.ref C_NoRow) = some false)
        (uS_NoTies_NoPlaces : PySem.W.subIn K (.ref C_NoTies) (.ref C_NoPlaces) = some false)
        (uS_NoTies_NoPaper : PySem.W.subIn K (.ref C_NoTies) (.ref C_NoPaper) = some false)
        (uS_NoTies_NoPair : PySem.W.subIn K (.ref C_NoTies) (.ref C_NoPair) = some false)
        (uS_NoTies_NoNet : PySem.W.subIn K (.ref C_NoTies) (.ref C_NoNet) = some false)
        (uS_NoTies_NoDeed : PySem.W.subIn K (.ref C_NoTies) (.ref C_NoDeed) = some false)
        (uS_NoLayers_Unlike : PySem.W.subIn K (.ref C_NoLayers) (.ref C_Unlike) = some false)
        (uS_NoLayers_NoLayers : PySem.W.subIn K (.ref C_NoLayers) (.ref C_NoLayers) = some true)
        (uS_NoLayers_NoText : PySem.W.subIn K (.ref C_NoLayers) (.ref C_NoText) = some false)
        (uS_NoLayers_NoRow : PySem.W.subIn K (.ref C_NoLayers) (.ref C_NoRow) = some false)
        (uS_NoLayers_NoPlaces : PySem.W.subIn K (.ref C_NoLayers) (.ref C_NoPlaces) = some false)
        (uS_NoLayers_NoPaper : PySem.W.subIn K (.ref C_NoLayers) (.ref C_NoPaper) = some false)
        (uS_NoLayers_NoPair : PySem.W.subIn K (.ref C_NoLayers) (.ref C_NoPair) = some false)
        (uS_NoLayers_NoNet : PySem.W.subIn K (.ref C_NoLayers) (.ref C_NoNet) = some false)
        (uS_NoLayers_NoDeed : PySem.W.subIn K (.ref C_NoLayers) (.ref C_NoDeed) = some false)
        (uS_Clash_ValueError : PySem.W.subIn K (.ref C_Clash) (.type "ValueError") = some true)
        (uS_NoTies_ValueError : PySem.W.subIn K (.ref C_NoTies) (.type "ValueError") = some true)
        (uS_NoLayers_ValueError : PySem.W.subIn K (.ref C_NoLayers) (.type "ValueError") = some true)
        (uS_Clash_NoLayers : PySem.W.subIn K (.ref C_Clash) (.ref C_NoLayers) = some false)
        (uS_NoTies_NoLayers : PySem.W.subIn K (.ref C_NoTies) (.ref C_NoLayers) = some false)
        (uS_Clash_NoTies : PySem.W.subIn K (.ref C_Clash) (.ref C_NoTies) = some false)
        (uS_NoLayers_NoTies : PySem.W.subIn K (.ref C_NoLayers) (.ref C_NoTies) = some false)
        (uS_NoTies_Clash : PySem.W.subIn K (.ref C_NoTies) (.ref C_Clash) = some false)
        (uS_NoLayers_Clash : PySem.W.subIn K (.ref C_NoLayers) (.ref C_Clash) = some false)
        (uS_Clash_PlyError : PySem.W.subIn K (.ref C_Clash) (.ref C_PlyError) = some true)
        (uS_NoTies_PlyError : PySem.W.subIn K (.ref C_NoTies) (.ref C_PlyError) = some true)
        (uS_NoLayers_PlyError : PySem.W.subIn K (.ref C_NoLayers) (.ref C_PlyError) = some true) : Tx K mg where
  a_is_whole := f0
  d_is_whole := _
  F_is_whole := fun_mk (st := st_is_whole) l0 c0 k0
  m_is_whole := PySem.W.mg_of X G a0
  b_is_whole := (fun_mk (st := st_is_whole) l0 c0 k0).binds fun _ _ _ _ _ _ us hl => match us, hl with | [_], _ => rfl
  a_is_place := f1
  d_is_place := _
  F_is_place := fun_mk (st := st_is_place) l1 c1 k1
  m_is_place := PySem.W.mg_of X G a1
  b_is_place := (fun_mk (st := st_is_place) l1 c1 k1).binds fun _ _ _ _ _ _ us hl => match us, hl with | [_, _], _ => rfl
  a_is_moment := f2
  d_is_moment := _
  F_is_moment := fun_mk (st := st_is_moment) l2 c2 k2
  m_is_moment := PySem.W.mg_of X G a2
  b_is_moment := (fun_mk (st := st_is_moment) l2 c2 k2).binds fun _ _ _ _ _ _ us hl => match us, hl with | [_], _ => rfl
  a_is_meeting := f3
  d_is_meeting := _
  F_is_meeting := fun_mk (st := st_is_meeting) l3 c3 k3
  m_is_meeting := PySem.W.mg_of X G a3
  b_is_meeting := (fun_mk (st := st_is_meeting) l3 c3 k3).binds fun _ _ _ _ _ _ us hl => match us, hl with | [_, _], _ => rfl
  a_is_tie := f4
  d_is_tie := _
  F_is_tie := fun_mk (st := st_is_tie) l4 c4 k4
  m_is_tie := PySem.W.mg_of X G a4
  b_is_tie := (fun_mk (st := st_is_tie) l4 c4 k4).binds fun _ _ _ _ _ _ us hl => match us, hl with | [_, _], _ => rfl
  a_is_record := f5
  d_is_record := _
  F_is_record := fun_mk (st := st_is_record) l5 c5 k5
  m_is_record := PySem.W.mg_of X G a5
  b_is_record := (fun_mk (st := st_is_record) l5 c5 k5).binds fun _ _ _ _ _ _ us hl => match us, hl with | [_, _], _ => rfl
  a_joined := f6
  d_joined := _
  F_joined := fun_mk (st := st_joined) l6 c6 k6
  m_joined := PySem.W.mg_of X G a6
  b_joined := (fun_mk (st := st_joined) l6 c6 k6).binds fun _ _ _ _ _ _ us hl => match us, hl with | [_, _, _], _ => rfl
  a_is_depth := f7
  d_is_depth := _
  F_is_depth := fun_mk (st := st_is_depth) l7 c7 k7
  m_is_depth := PySem.W.mg_of X G a7
  b_is_depth := (fun_mk (st := st_is_depth) l7 c7 k7).binds fun _ _ _ _ _ _ us hl => match us, hl with | [_], _ => rfl
  a_look_at_layers := f8
  d_look_at_layers := _
  F_look_at_layers := fun_mk (st := st_look_at_layers) l8 c8 k8
  m_look_at_layers := PySem.W.mg_of X G a8
  b_look_at_layers := (fun_mk (st := st_look_at_layers) l8 c8 k8).binds fun _ _ _ _ _ _ us hl => match us, hl with | [_], _ => rfl
  a_layer_for := f9
  d_layer_for := _
  F_layer_for := fun_mk (st := st_layer_for) l9 c9 k9
  m_layer_for := PySem.W.mg_of X G a9
  b_layer_for := (fun_mk (st := st_layer_for) l9 c9 k9).binds fun _ _ _ _ _ _ us hl => match us, hl with | [_, _, _], _ => rfl
  a_layered := f10
  d_layered := _
  F_layered := fun_mk (st := st_layered) l10 c10 k10
  m_layered := PySem.W.mg_of X G a10
  b_layered := (fun_mk (st := st_layered) l10 c10 k10).binds fun _ _ _ _ _ _ us hl => match us, hl with | [_, _, _], _ => rfl
  a_come_to := f11
  d_come_to := _
  F_come_to := fun_mk (st := st_come_to) l11 c11 k11
  m_come_to := PySem.W.mg_of X G a11
  b_come_to := (fun_mk (st := st_come_to) l11 c11 k11).binds fun _ _ _ _ _ _ us hl => match us, hl with | [_, _], _ => rfl
  a_ring_with := f12
  d_ring_with := _
  F_ring_with := fun_mk (st := st_ring_with) l12 c12 k12
  m_ring_with := PySem.W.mg_of X G a12
  b_ring_with := (fun_mk (st := st_ring_with) l12 c12 k12).binds fun _ _ _ _ _ _ us hl => match us, hl with | [_, _], _ => rfl
  a_moves := f13
  d_moves := _
  F_moves := fun_mk (st := st_moves) l13 c13 k13
  m_moves := PySem.W.mg_of X G a13
  b_moves := (fun_mk (st := st_moves) l13 c13 k13).binds fun _ _ _ _ _ _ us hl => match us, hl with | [_, _, _, _], _ => rfl
  a_l_begun := f14
  d_l_begun := _
  F_l_begun := fun_mk (st := st_l_begun) l14 c14 k14
  m_l_begun := PySem.W.mg_of X G a14
  b_l_begun := (fun_mk (st := st_l_begun) l14 c14 k14).binds fun _ _ _ _ _ _ us hl => match us, hl with | [_], _ => rfl
  a_l_take := f15
  d_l_take := _
  F_l_take := fun_mk (st := st_l_take) l15 c15 k15
  m_l_take := PySem.W.mg_of X G a15
  b_l_take := (fun_mk (st := st_l_take) l15 c15 k15).binds fun _ _ _ _ _ _ us hl => match us, hl with | [_, _], _ => rfl
  a_l_wide := f16
  d_l_wide := _
  F_l_wide := fun_mk (st := st_l_wide) l16 c16 k16
  m_l_wide := PySem.W.mg_of X G a16
  b_l_wide := (fun_mk (st := st_l_wide) l16 c16 k16).binds fun _ _ _ _ _ _ us hl => match us, hl with | [_, _], _ => rfl
  a_l_places := f17
  d_l_places := _
  F_l_places := fun_mk (st := st_l_places) l17 c17 k17
  m_l_places := PySem.W.mg_of X G a17
  b_l_places := (fun_mk (st := st_l_places) l17 c17 k17).binds fun _ _ _ _ _ _ us hl => match us, hl with | [_], _ => rfl
  a_l_depth := f18
  d_l_depth := _
  F_l_depth := fun_mk (st := st_l_depth) l18 c18 k18
  m_l_depth := PySem.W.mg_of X G a18
  b_l_depth := (fun_mk (st := st_l_depth) l18 c18 k18).binds fun _ _ _ _ _ _ us hl => match us, hl with | [_], _ => rfl
  a_l_ends := f19
  d_l_ends := _
  F_l_ends := fun_mk (st := st_l_ends) l19 c19 k19
  m_l_ends := PySem.W.mg_of X G a19
  b_l_ends := (fun_mk (st := st_l_ends) l19 c19 k19).binds fun _ _ _ _ _ _ us hl => match us, hl with | [_, _, _], _ => rfl
  a_l_drawn_ties := f20
  d_l_drawn_ties := _
  F_l_drawn_ties := fun_mk (st := st_l_drawn_ties) l20 c20 k20
  m_l_drawn_ties := PySem.W.mg_of X G a20
  b_l_drawn_ties := (fun_mk (st := st_l_drawn_ties) l20 c20 k20).binds fun _ _ _ _ _ _ us hl => match us, hl with | [_, _, _], _ => rfl
  a_l_new_tie := f21
  d_l_new_tie := _
  F_l_new_tie := fun_mk (st := st_l_new_tie) l21 c21 k21
  m_l_new_tie := PySem.W.mg_of X G a21
  b_l_new_tie := (fun_mk (st := st_l_new_tie) l21 c21 k21).binds fun _ _ _ _ _ _ us hl => match us, hl with | [_, _, _], _ => rfl
  a_l_odd_tie := f22
  d_l_odd_tie := _
  F_l_odd_tie := fun_mk (st := st_l_odd_tie) l22 c22 k22
  m_l_odd_tie := PySem.W.mg_of X G a22
  b_l_odd_tie := (fun_mk (st := st_l_odd_tie) l22 c22 k22).binds fun _ _ _ _ _ _ us hl => match us, hl with | [_, _], _ => rfl
  a_l_odd_depth := f23
  d_l_odd_depth := _
  F_l_odd_depth := fun_mk (st := st_l_odd_depth) l23 c23 k23
  m_l_odd_depth := PySem.W.mg_of X G a23
  b_l_odd_depth := (fun_mk (st := st_l_odd_depth) l23 c23 k23).binds fun _ _ _ _ _ _ us hl => match us, hl with | [_], _ => rfl
  a_l_told_of := f24
  d_l_told_of := _
  F_l_told_of := fun_mk (st := st_l_told_of) l24 c24 k24
  m_l_told_of := PySem.W.mg_of X G a24
  b_l_told_of := (fun_mk (st := st_l_told_of) l24 c24 k24).binds fun _ _ _ _ _ _ us hl => match us, hl with | [_, _, _, _], _ => rfl
  a_l_field_of := f25
  d_l_field_of := _
  F_l_field_of := fun_mk (st := st_l_field_of) l25 c25 k25
  m_l_field_of := PySem.W.mg_of X G a25
  b_l_field_of := (fun_mk (st := st_l_field_of) l25 c25 k25).binds fun _ _ _ _ _ _ us hl => match us, hl with | [_, _, _, _], _ => rfl
  a_l_chosen := f26
  d_l_chosen := _
  F_l_chosen := fun_mk (st := st_l_chosen) l26 c26 k26
  m_l_chosen := PySem.W.mg_of X G a26
  b_l_chosen := (fun_mk (st := st_l_chosen) l26 c26 k26).binds fun _ _ _ _ _ _ us hl => match us, hl with | [_, _, _], _ => rfl
  a_l_right := f27
  d_l_right := _
  F_l_right := fun_mk (st := st_l_right) l27 c27 k27
  m_l_right := PySem.W.mg_of X G a27
  b_l_right := (fun_mk (st := st_l_right) l27 c27 k27).binds fun _ _ _ _ _ _ us hl => match us, hl with | [_, _, _, _, _], _ => rfl
  a_law := f28
  d_law := _
  F_law := fun_mk (st := st_law) l28 c28 k28
  m_law := PySem.W.mg_of X G a28
  b_law := (fun_mk (st := st_law) l28 c28 k28).binds fun _ _ _ _ _ _ us hl => match us, hl with | [_], _ => rfl
  n_isinstance := PySem.W.mg_none_of X G z_isinstance
  n_int := PySem.W.mg_none_of X G z_int
  n_bool := PySem.W.mg_none_of X G z_bool
  n_tuple := PySem.W.mg_none_of X G z_tuple
  n_len := PySem.W.mg_none_of X G z_len
  n_list := PySem.W.mg_none_of X G z_list
  n_all := PySem.W.mg_none_of X G z_all
  n_range := PySem.W.mg_none_of X G z_range
  n_min := PySem.W.mg_none_of X G z_min
  n_max := PySem.W.mg_none_of X G z_max
  n_enumerate := PySem.W.mg_none_of X G z_enumerate
  n_reversed := PySem.W.mg_none_of X G z_reversed
  n_zip := PySem.W.mg_none_of X G z_zip
  n_abs := PySem.W.mg_none_of X G z_abs
  n_ValueError := PySem.W.mg_none_of X G z_ValueError
  n_str := PySem.W.mg_none_of X G z_str
  c_LAST_MOMENT := ⟨tk_LAST_MOMENT, PySem.W.mg_of X G y_LAST_MOMENT⟩
  c_MOST_TIES := ⟨tk_MOST_TIES, PySem.W.mg_of X G y_MOST_TIES⟩
  c_MOST_LAYERS := ⟨tk_MOST_LAYERS, PySem.W.mg_of X G y_MOST_LAYERS⟩
  C_NoLayers := C_NoLayers
  E_NoLayers := ⟨PySem.W.mg_of X G u1_NoLayers, u1_NoLayers, u2_NoLayers, u3_NoLayers, ⟨u4_NoLayers, u5_NoLayers, u6_NoLayers, u7_NoLayers, u8_NoLayers, un, ut, u9_NoLayers⟩⟩
  Q_NoLayers := uQ_NoLayers
  C_NoTies := C_NoTies
  E_NoTies := ⟨PySem.W.mg_of X G u1_NoTies, u1_NoTies, u2_NoTies, u3_NoTies, ⟨u4_NoTies, u5_NoTies, u6_NoTies, u7_NoTies, u8_NoTies, un, ut, u9_NoTies⟩⟩
  Q_NoTies := uQ_NoTies
  C_Clash := C_Clash
  E_Clash := ⟨PySem.W.mg_of X G u1_Clash, u1_Clash, u2_Clash, u3_Clash, ⟨u4_Clash, u5_Clash, u6_Clash, u7_Clash, u8_Clash, un, ut, u9_Clash⟩⟩
  C_PlyError := C_PlyError
  E_PlyError := ⟨PySem.W.mg_of X G u1_PlyError, u1_PlyError, u2_PlyError, u3_PlyError, ⟨u4_PlyError, u5_PlyError, u6_PlyError, u7_PlyError, u8_PlyError, un, ut, u9_PlyError⟩⟩
  C_Unlike := C_Unlike
  E_Unlike := ⟨PySem.W.mg_of X G u1_Unlike, u1_Unlike, u2_Unlike, u3_Unlike, ⟨u4_Unlike, u5_Unlike, u6_Unlike, u7_Unlike, u8_Unlike, un, ut, u9_Unlike⟩⟩
  C_NoText := C_NoText
  E_NoText := ⟨PySem.W.mg_of X G u1_NoText, u1_NoText, u2_NoText, u3_NoText, ⟨u4_NoText, u5_NoText, u6_NoText, u7_NoText, u8_NoText, un, ut, u9_NoText⟩⟩
  C_NoRow := C_NoRow
  E_NoRow := ⟨PySem.W.mg_of X G u1_NoRow, u1_NoRow, u2_NoRow, u3_NoRow, ⟨u4_NoRow, u5_NoRow, u6_NoRow, u7_NoRow, u8_NoRow, un, ut, u9_NoRow⟩⟩
  C_NoPlaces := C_NoPlaces
  E_NoPlaces := ⟨PySem.W.mg_of X G u1_NoPlaces, u1_NoPlaces, u2_NoPlaces, u3_NoPlaces, ⟨u4_NoPlaces, u5_NoPlaces, u6_NoPlaces, u7_NoPlaces, u8_NoPlaces, un, ut, u9_NoPlaces⟩⟩
  C_NoPaper := C_NoPaper
  E_NoPaper := ⟨PySem.W.mg_of X G u1_NoPaper, u1_NoPaper, u2_NoPaper, u3_NoPaper, ⟨u4_NoPaper, u5_NoPaper, u6_NoPaper, u7_NoPaper, u8_NoPaper, un, ut, u9_NoPaper⟩⟩
  C_NoPair := C_NoPair
  E_NoPair := ⟨PySem.W.mg_of X G u1_NoPair, u1_NoPair, u2_NoPair, u3_NoPair, ⟨u4_NoPair, u5_NoPair, u6_NoPair, u7_NoPair, u8_NoPair, un, ut, u9_NoPair⟩⟩
  C_NoNet := C_NoNet
  E_NoNet := ⟨PySem.W.mg_of X G u1_NoNet, u1_NoNet, u2_NoNet, u3_NoNet, ⟨u4_NoNet, u5_NoNet, u6_NoNet, u7_NoNet, u8_NoNet, un, ut, u9_NoNet⟩⟩
  C_NoDeed := C_NoDeed
  E_NoDeed := ⟨PySem.W.mg_of X G u1_NoDeed, u1_NoDeed, u2_NoDeed, u3_NoDeed, ⟨u4_NoDeed, u5_NoDeed, u6_NoDeed, u7_NoDeed, u8_NoDeed, un, ut, u9_NoDeed⟩⟩
  iA_Clash := iA_Clash
  iD_Clash := _
  iF_Clash := fun_mk (st := si_Clash) w2_Clash w3_Clash w4_Clash
  ib_Clash := (fun_mk (st := si_Clash) w2_Clash w3_Clash w4_Clash).binds fun _ _ _ _ _ _ us hl => match us, hl with | [_, _], _ => rfl
  ii_Clash := w1_Clash
  it_Clash := w5_Clash
  ih_Clash := w6_Clash
  is_Clash := w7_Clash
  io_Clash := ⟨_, _, _, _, _, _, _, _, _, _, _, _, _, _, _, w8_Clash, rfl⟩
  ip_Clash := w9_Clash
  iq_Clash := wA_Clash
  ir_Clash := wB_Clash
  S_Clash_Unlike := uS_Clash_Unlike
  S_Clash_Clash := uS_Clash_Clash
  S_Clash_NoText := uS_Clash_NoText
  S_Clash_NoRow := uS_Clash_NoRow
  S_Clash_NoPlaces := uS_Clash_NoPlaces
  S_Clash_NoPaper := uS_Clash_NoPaper
  S_Clash_NoPair := uS_Clash_NoPair
  S_Clash_NoNet := uS_Clash_NoNet
  S_Clash_NoDeed := uS_Clash_NoDeed
  S_NoTies_Unlike := uS_NoTies_Unlike
  S_NoTies_NoTies := uS_NoTies_NoTies
  S_NoTies_NoText := uS_NoTies_NoText
  S_NoTies_NoRow := uS_NoTies_NoRow
  S_NoTies_NoPlaces := uS_NoTies_NoPlaces
  S_NoTies_NoPaper := uS_NoTies_NoPaper
  S_NoTies_NoPair := uS_NoTies_NoPair
  S_NoTies_NoNet := uS_NoTies_NoNet
  S_NoTies_NoDeed := uS_NoTies_NoDeed
  S_NoLayers_Unlike := uS_NoLayers_Unlike
  S_NoLayers_NoLayers := uS_NoLayers_NoLayers
  S_NoLayers_NoText := uS_NoLayers_NoText
  S_NoLayers_NoRow := uS_NoLayers_NoRow
  S_NoLayers_NoPlaces := uS_NoLayers_NoPlaces
  S_NoLayers_NoPaper := uS_NoLayers_NoPaper
  S_NoLayers_NoPair := uS_NoLayers_NoPair
  S_NoLayers_NoNet := uS_NoLayers_NoNet
  S_NoLayers_NoDeed := uS_NoLayers_NoDeed
  S_Clash_ValueError := uS_Clash_ValueError
  S_NoTies_ValueError := uS_NoTies_ValueError
  S_NoLayers_ValueError := uS_NoLayers_ValueError
  S_Clash_NoLayers := uS_Clash_NoLayers
  S_NoTies_NoLayers := uS_NoTies_NoLayers
  S_Clash_NoTies := uS_Clash_NoTies
  S_NoLayers_NoTies := uS_NoLayers_NoTies
  S_NoTies_Clash := uS_NoTies_Clash
  S_NoLayers_Clash := uS_NoLayers_Clash
  S_Clash_PlyError := uS_Clash_PlyError
  S_NoTies_PlyError := uS_NoTies_PlyError
  S_NoLayers_PlyError := uS_NoLayers_PlyError
theorem all_mk {l : PySem.W.OpenLaw} {fa : Addr} (X : K.In h) (G : h.Ns mainGlobals mg) (hfa : mg "law" = some (.ref fa))
    {f0 : Addr} {od0 an0 : Option Addr} {sl0 : Array (Option Value)} {oc0 kV0 dc0 pm0 cd0 ct0 : Value}
        (a0 : PySem.W.nsIn K mainGlobals "is_whole" = some (some (.ref f0))) (l0 : K.lookup f0 = some ⟨oc0, od0, .func (PySem.W.fnOf "is_whole" "is_whole" (defArgs st_is_whole) (defBody st_is_whole) (defScope st_is_whole) .none kV0 dc0 pm0 an0 cd0 ct0), sl0⟩) (c0 : PySem.W.codeIn K cd0 "is_whole" = true) (k0 : PySem.W.keepIn K (.ref f0) = true)
    {f1 : Addr} {od1 an1 : Option Addr} {sl1 : Array (Option Value)} {oc1 kV1 dc1 pm1 cd1 ct1 : Value}
        (a1 : PySem.W.nsIn K mainGlobals "is_place" = some (some (.ref f1))) (l1 : K.lookup f1 = some ⟨oc1, od1, .func (PySem.W.fnOf "is_place" "is_place" (defArgs st_is_place) (defBody st_is_place) (defScope st_is_place) .none kV1 dc1 pm1 an1 cd1 ct1), sl1⟩) (c1 : PySem.W.codeIn K cd1 "is_place" = true) (k1 : PySem.W.keepIn K (.ref f1) = true)
    {f2 : Addr} {od2 an2 : Option Addr} {sl2 : Array (Option Value)} {oc2 kV2 dc2 pm2 cd2 ct2 : Value}
        (a2 : PySem.W.nsIn K mainGlobals "is_moment" = some (some (.ref f2))) (l2 : K.lookup f2 = some ⟨oc2, od2, .func (PySem.W.fnOf "is_moment" "is_moment" (defArgs st_is_moment) (defBody st_is_moment) (defScope st_is_moment) .none kV2 dc2 pm2 an2 cd2 ct2), sl2⟩) (c2 : PySem.W.codeIn K cd2 "is_moment" = true) (k2 : PySem.W.keepIn K (.ref f2) = true)
    {f3 : Addr} {od3 an3 : Option Addr} {sl3 : Array (Option Value)} {oc3 kV3 dc3 pm3 cd3 ct3 : Value}
        (a3 : PySem.W.nsIn K mainGlobals "is_meeting" = some (some (.ref f3))) (l3 : K.lookup f3 = some ⟨oc3, od3, .func (PySem.W.fnOf "is_meeting" "is_meeting" (defArgs st_is_meeting) (defBody st_is_meeting) (defScope st_is_meeting) .none kV3 dc3 pm3 an3 cd3 ct3), sl3⟩) (c3 : PySem.W.codeIn K cd3 "is_meeting" = true) (k3 : PySem.W.keepIn K (.ref f3) = true)
    {f4 : Addr} {od4 an4 : Option Addr} {sl4 : Array (Option Value)} {oc4 kV4 dc4 pm4 cd4 ct4 : Value}
        (a4 : PySem.W.nsIn K mainGlobals "is_tie" = some (some (.ref f4))) (l4 : K.lookup f4 = some ⟨oc4, od4, .func (PySem.W.fnOf "is_tie" "is_tie" (defArgs st_is_tie) (defBody st_is_tie) (defScope st_is_tie) .none kV4 dc4 pm4 an4 cd4 ct4), sl4⟩) (c4 : PySem.W.codeIn K cd4 "is_tie" = true) (k4 : PySem.W.keepIn K (.ref f4) = true)
    {f5 : Addr} {od5 an5 : Option Addr} {sl5 : Array (Option Value)} {oc5 kV5 dc5 pm5 cd5 ct5 : Value}
        (a5 : PySem.W.nsIn K mainGlobals "is_record" = some (some (.ref f5))) (l5 : K.lookup f5 = some ⟨oc5, od5, .func (PySem.W.fnOf "is_record" "is_record" (defArgs st_is_record) (defBody st_is_record) (defScope st_is_record) .none kV5 dc5 pm5 an5 cd5 ct5), sl5⟩) (c5 : PySem.W.codeIn K cd5 "is_record" = true) (k5 : PySem.W.keepIn K (.ref f5) = true)
    {f6 : Addr} {od6 an6 : Option Addr} {sl6 : Array (Option Value)} {oc6 kV6 dc6 pm6 cd6 ct6 : Value}
        (a6 : PySem.W.nsIn K mainGlobals "joined" = some (some (.ref f6))) (l6 : K.lookup f6 = some ⟨oc6, od6, .func (PySem.W.fnOf "joined" "joined" (defArgs st_joined) (defBody st_joined) (defScope st_joined) .none kV6 dc6 pm6 an6 cd6 ct6), sl6⟩) (c6 : PySem.W.codeIn K cd6 "joined" = true) (k6 : PySem.W.keepIn K (.ref f6) = true)
    {f7 : Addr} {od7 an7 : Option Addr} {sl7 : Array (Option Value)} {oc7 kV7 dc7 pm7 cd7 ct7 : Value}
        (a7 : PySem.W.nsIn K mainGlobals "is_depth" = some (some (.ref f7))) (l7 : K.lookup f7 = some ⟨oc7, od7, .func (PySem.W.fnOf "is_depth" "is_depth" (defArgs st_is_depth) (defBody st_is_depth) (defScope st_is_depth) .none kV7 dc7 pm7 an7 cd7 ct7), sl7⟩) (c7 : PySem.W.codeIn K cd7 "is_depth" = true) (k7 : PySem.W.keepIn K (.ref f7) = true)
    {f8 : Addr} {od8 an8 : Option Addr} {sl8 : Array (Option Value)} {oc8 kV8 dc8 pm8 cd8 ct8 : Value}
        (a8 : PySem.W.nsIn K mainGlobals "look_at_layers" = some (some (.ref f8))) (l8 : K.lookup f8 = some ⟨oc8, od8, .func (PySem.W.fnOf "look_at_layers" "look_at_layers" (defArgs st_look_at_layers) (defBody st_look_at_layers) (defScope st_look_at_layers) .none kV8 dc8 pm8 an8 cd8 ct8), sl8⟩) (c8 : PySem.W.codeIn K cd8 "look_at_layers" = true) (k8 : PySem.W.keepIn K (.ref f8) = true)
    {f9 : Addr} {od9 an9 : Option Addr} {sl9 : Array (Option Value)} {oc9 kV9 dc9 pm9 cd9 ct9 : Value}
        (a9 : PySem.W.nsIn K mainGlobals "layer_for" = some (some (.ref f9))) (l9 : K.lookup f9 = some ⟨oc9, od9, .func (PySem.W.fnOf "layer_for" "layer_for" (defArgs st_layer_for) (defBody st_layer_for) (defScope st_layer_for) .none kV9 dc9 pm9 an9 cd9 ct9), sl9⟩) (c9 : PySem.W.codeIn K cd9 "layer_for" = true) (k9 : PySem.W.keepIn K (.ref f9) = true)
    {f10 : Addr} {od10 an10 : Option Addr} {sl10 : Array (Option Value)} {oc10 kV10 dc10 pm10 cd10 ct10 : Value}
        (a10 : PySem.W.nsIn K mainGlobals "layered" = some (some (.ref f10))) (l10 : K.lookup f10 = some ⟨oc10, od10, .func (PySem.W.fnOf "layered" "layered" (defArgs st_layered) (defBody st_layered) (defScope st_layered) .none kV10 dc10 pm10 an10 cd10 ct10), sl10⟩) (c10 : PySem.W.codeIn K cd10 "layered" = true) (k10 : PySem.W.keepIn K (.ref f10) = true)
    {f11 : Addr} {od11 an11 : Option Addr} {sl11 : Array (Option Value)} {oc11 kV11 dc11 pm11 cd11 ct11 : Value}
        (a11 : PySem.W.nsIn K mainGlobals "come_to" = some (some (.ref f11))) (l11 : K.lookup f11 = some ⟨oc11, od11, .func (PySem.W.fnOf "come_to" "come_to" (defArgs st_come_to) (defBody st_come_to) (defScope st_come_to) .none kV11 dc11 pm11 an11 cd11 ct11), sl11⟩) (c11 : PySem.W.codeIn K cd11 "come_to" = true) (k11 : PySem.W.keepIn K (.ref f11) = true)
    {f12 : Addr} {od12 an12 : Option Addr} {sl12 : Array (Option Value)} {oc12 kV12 dc12 pm12 cd12 ct12 : Value}
        (a12 : PySem.W.nsIn K mainGlobals "ring_with" = some (some (.ref f12))) (l12 : K.lookup f12 = some ⟨oc12, od12, .func (PySem.W.fnOf "ring_with" "ring_with" (defArgs st_ring_with) (defBody st_ring_with) (defScope st_ring_with) .none kV12 dc12 pm12 an12 cd12 ct12), sl12⟩) (c12 : PySem.W.codeIn K cd12 "ring_with" = true) (k12 : PySem.W.keepIn K (.ref f12) = true)
    {f13 : Addr} {od13 an13 : Option Addr} {sl13 : Array (Option Value)} {oc13 kV13 dc13 pm13 cd13 ct13 : Value}
        (a13 : PySem.W.nsIn K mainGlobals "moves" = some (some (.ref f13))) (l13 : K.lookup f13 = some ⟨oc13, od13, .func (PySem.W.fnOf "moves" "moves" (defArgs st_moves) (defBody st_moves) (defScope st_moves) .none kV13 dc13 pm13 an13 cd13 ct13), sl13⟩) (c13 : PySem.W.codeIn K cd13 "moves" = true) (k13 : PySem.W.keepIn K (.ref f13) = true)
    {f14 : Addr} {od14 an14 : Option Addr} {sl14 : Array (Option Value)} {oc14 kV14 dc14 pm14 cd14 ct14 : Value}
        (a14 : PySem.W.nsIn K mainGlobals "_law_begun" = some (some (.ref f14))) (l14 : K.lookup f14 = some ⟨oc14, od14, .func (PySem.W.fnOf "_law_begun" "_law_begun" (defArgs st_l_begun) (defBody st_l_begun) (defScope st_l_begun) .none kV14 dc14 pm14 an14 cd14 ct14), sl14⟩) (c14 : PySem.W.codeIn K cd14 "_law_begun" = true) (k14 : PySem.W.keepIn K (.ref f14) = true)
    {f15 : Addr} {od15 an15 : Option Addr} {sl15 : Array (Option Value)} {oc15 kV15 dc15 pm15 cd15 ct15 : Value}
        (a15 : PySem.W.nsIn K mainGlobals "_law_take" = some (some (.ref f15))) (l15 : K.lookup f15 = some ⟨oc15, od15, .func (PySem.W.fnOf "_law_take" "_law_take" (defArgs st_l_take) (defBody st_l_take) (defScope st_l_take) .none kV15 dc15 pm15 an15 cd15 ct15), sl15⟩) (c15 : PySem.W.codeIn K cd15 "_law_take" = true) (k15 : PySem.W.keepIn K (.ref f15) = true)
    {f16 : Addr} {od16 an16 : Option Addr} {sl16 : Array (Option Value)} {oc16 kV16 dc16 pm16 cd16 ct16 : Value}
        (a16 : PySem.W.nsIn K mainGlobals "_law_wide" = some (some (.ref f16))) (l16 : K.lookup f16 = some ⟨oc16, od16, .func (PySem.W.fnOf "_law_wide" "_law_wide" (defArgs st_l_wide) (defBody st_l_wide) (defScope st_l_wide) .none kV16 dc16 pm16 an16 cd16 ct16), sl16⟩) (c16 : PySem.W.codeIn K cd16 "_law_wide" = true) (k16 : PySem.W.keepIn K (.ref f16) = true)
    {f17 : Addr} {od17 an17 : Option Addr} {sl17 : Array (Option Value)} {oc17 kV17 dc17 pm17 cd17 ct17 : Value}
        (a17 : PySem.W.nsIn K mainGlobals "_law_places" = some (some (.ref f17))) (l17 : K.lookup f17 = some ⟨oc17, od17, .func (PySem.W.fnOf "_law_places" "_law_places" (defArgs st_l_places) (defBody st_l_places) (defScope st_l_places) .none kV17 dc17 pm17 an17 cd17 ct17), sl17⟩) (c17 : PySem.W.codeIn K cd17 "_law_places" = true) (k17 : PySem.W.keepIn K (.ref f17) = true)
    {f18 : Addr} {od18 an18 : Option Addr} {sl18 : Array (Option Value)} {oc18 kV18 dc18 pm18 cd18 ct18 : Value}
        (a18 : PySem.W.nsIn K mainGlobals "_law_depth" = some (some (.ref f18))) (l18 : K.lookup f18 = some ⟨oc18, od18, .func (PySem.W.fnOf "_law_depth" "_law_depth" (defArgs st_l_depth) (defBody st_l_depth) (defScope st_l_depth) .none kV18 dc18 pm18 an18 cd18 ct18), sl18⟩) (c18 : PySem.W.codeIn K cd18 "_law_depth" = true) (k18 : PySem.W.keepIn K (.ref f18) = true)
    {f19 : Addr} {od19 an19 : Option Addr} {sl19 : Array (Option Value)} {oc19 kV19 dc19 pm19 cd19 ct19 : Value}
        (a19 : PySem.W.nsIn K mainGlobals "_law_ends" = some (some (.ref f19))) (l19 : K.lookup f19 = some ⟨oc19, od19, .func (PySem.W.fnOf "_law_ends" "_law_ends" (defArgs st_l_ends) (defBody st_l_ends) (defScope st_l_ends) .none kV19 dc19 pm19 an19 cd19 ct19), sl19⟩) (c19 : PySem.W.codeIn K cd19 "_law_ends" = true) (k19 : PySem.W.keepIn K (.ref f19) = true)
    {f20 : Addr} {od20 an20 : Option Addr} {sl20 : Array (Option Value)} {oc20 kV20 dc20 pm20 cd20 ct20 : Value}
        (a20 : PySem.W.nsIn K mainGlobals "_law_drawn_ties" = some (some (.ref f20))) (l20 : K.lookup f20 = some ⟨oc20, od20, .func (PySem.W.fnOf "_law_drawn_ties" "_law_drawn_ties" (defArgs st_l_drawn_ties) (defBody st_l_drawn_ties) (defScope st_l_drawn_ties) .none kV20 dc20 pm20 an20 cd20 ct20), sl20⟩) (c20 : PySem.W.codeIn K cd20 "_law_drawn_ties" = true) (k20 : PySem.W.keepIn K (.ref f20) = true)
    {f21 : Addr} {od21 an21 : Option Addr} {sl21 : Array (Option Value)} {oc21 kV21 dc21 pm21 cd21 ct21 : Value}
        (a21 : PySem.W.nsIn K mainGlobals "_law_new_tie" = some (some (.ref f21))) (l21 : K.lookup f21 = some ⟨oc21, od21, .func (PySem.W.fnOf "_law_new_tie" "_law_new_tie" (defArgs st_l_new_tie) (defBody st_l_new_tie) (defScope st_l_new_tie) .none kV21 dc21 pm21 an21 cd21 ct21), sl21⟩) (c21 : PySem.W.codeIn K cd21 "_law_new_tie" = true) (k21 : PySem.W.keepIn K (.ref f21) = true)
    {f22 : Addr} {od22 an22 : Option Addr} {sl22 : Array (Option Value)} {oc22 kV22 dc22 pm22 cd22 ct22 : Value}
        (a22 : PySem.W.nsIn K mainGlobals "_law_odd_tie" = some (some (.ref f22))) (l22 : K.lookup f22 = some ⟨oc22, od22, .func (PySem.W.fnOf "_law_odd_tie" "_law_odd_tie" (defArgs st_l_odd_tie) (defBody st_l_odd_tie) (defScope st_l_odd_tie) .none kV22 dc22 pm22 an22 cd22 ct22), sl22⟩) (c22 : PySem.W.codeIn K cd22 "_law_odd_tie" = true) (k22 : PySem.W.keepIn K (.ref f22) = true)
    {f23 : Addr} {od23 an23 : Option Addr} {sl23 : Array (Option Value)} {oc23 kV23 dc23 pm23 cd23 ct23 : Value}
        (a23 : PySem.W.nsIn K mainGlobals "_law_odd_depth" = some (some (.ref f23))) (l23 : K.lookup f23 = some ⟨oc23, od23, .func (PySem.W.fnOf "_law_odd_depth" "_law_odd_depth" (defArgs st_l_odd_depth) (defBody st_l_odd_depth) (defScope st_l_odd_depth) .none kV23 dc23 pm23 an23 cd23 ct23), sl23⟩) (c23 : PySem.W.codeIn K cd23 "_law_odd_depth" = true) (k23 : PySem.W.keepIn K (.ref f23) = true)
    {f24 : Addr} {od24 an24 : Option Addr} {sl24 : Array (Option Value)} {oc24 kV24 dc24 pm24 cd24 ct24 : Value}
        (a24 : PySem.W.nsIn K mainGlobals "_law_told_of" = some (some (.ref f24))) (l24 : K.lookup f24 = some ⟨oc24, od24, .func (PySem.W.fnOf "_law_told_of" "_law_told_of" (defArgs st_l_told_of) (defBody st_l_told_of) (defScope st_l_told_of) .none kV24 dc24 pm24 an24 cd24 ct24), sl24⟩) (c24 : PySem.W.codeIn K cd24 "_law_told_of" = true) (k24 : PySem.W.keepIn K (.ref f24) = true)
    {f25 : Addr} {od25 an25 : Option Addr} {sl25 : Array (Option Value)} {oc25 kV25 dc25 pm25 cd25 ct25 : Value}
        (a25 : PySem.W.nsIn K mainGlobals "_law_field_of" = some (some (.ref f25))) (l25 : K.lookup f25 = some ⟨oc25, od25, .func (PySem.W.fnOf "_law_field_of" "_law_field_of" (defArgs st_l_field_of) (defBody st_l_field_of) (defScope st_l_field_of) .none kV25 dc25 pm25 an25 cd25 ct25), sl25⟩) (c25 : PySem.W.codeIn K cd25 "_law_field_of" = true) (k25 : PySem.W.keepIn K (.ref f25) = true)
    {f26 : Addr} {od26 an26 : Option Addr} {sl26 : Array (Option Value)} {oc26 kV26 dc26 pm26 cd26 ct26 : Value}
        (a26 : PySem.W.nsIn K mainGlobals "_law_chosen" = some (some (.ref f26))) (l26 : K.lookup f26 = some ⟨oc26, od26, .func (PySem.W.fnOf "_law_chosen" "_law_chosen" (defArgs st_l_chosen) (defBody st_l_chosen) (defScope st_l_chosen) .none kV26 dc26 pm26 an26 cd26 ct26), sl26⟩) (c26 : PySem.W.codeIn K cd26 "_law_chosen" = true) (k26 : PySem.W.keepIn K (.ref f26) = true)
    {f27 : Addr} {od27 an27 : Option Addr} {sl27 : Array (Option Value)} {oc27 kV27 dc27 pm27 cd27 ct27 : Value}
        (a27 : PySem.W.nsIn K mainGlobals "_law_right" = some (some (.ref f27))) (l27 : K.lookup f27 = some ⟨oc27, od27, .func (PySem.W.fnOf "_law_right" "_law_right" (defArgs st_l_right) (defBody st_l_right) (defScope st_l_right) .none kV27 dc27 pm27 an27 cd27 ct27), sl27⟩) (c27 : PySem.W.codeIn K cd27 "_law_right" = true) (k27 : PySem.W.keepIn K (.ref f27) = true)
    {f28 : Addr} {od28 an28 : Option Addr} {sl28 : Array (Option Value)} {oc28 kV28 dc28 pm28 cd28 ct28 : Value}
        (a28 : PySem.W.nsIn K mainGlobals "law" = some (some (.ref f28))) (l28 : K.lookup f28 = some ⟨oc28, od28, .func (PySem.W.fnOf "law" "law" (defArgs st_law) (defBody st_law) (defScope st_law) .none kV28 dc28 pm28 an28 cd28 ct28), sl28⟩) (c28 : PySem.W.codeIn K cd28 "law" = true) (k28 : PySem.W.keepIn K (.ref f28) = true)
        (z_isinstance : PySem.W.nsIn K mainGlobals "isinstance" = some none)
        (z_int : PySem.W.nsIn K mainGlobals "int" = some none)
        (z_bool : PySem.W.nsIn K mainGlobals "bool" = some none)
        (z_tuple : PySem.W.nsIn K mainGlobals "tuple" = some none)
        (z_len : PySem.W.nsIn K mainGlobals "len" = some none)
        (z_list : PySem.W.nsIn K mainGlobals "list" = some none)
        (z_all : PySem.W.nsIn K mainGlobals "all" = some none)
        (z_range : PySem.W.nsIn K mainGlobals "range" = some none)
        (z_min : PySem.W.nsIn K mainGlobals "min" = some none)
        (z_max : PySem.W.nsIn K mainGlobals "max" = some none)
        (z_enumerate : PySem.W.nsIn K mainGlobals "enumerate" = some none)
        (z_reversed : PySem.W.nsIn K mainGlobals "reversed" = some none)
        (z_zip : PySem.W.nsIn K mainGlobals "zip" = some none)
        (z_abs : PySem.W.nsIn K mainGlobals "abs" = some none)
        (z_ValueError : PySem.W.nsIn K mainGlobals "ValueError" = some none)
        (z_str : PySem.W.nsIn K mainGlobals "str" = some none)
        {tk_LAST_MOMENT : Tok} (y_LAST_MOMENT : PySem.W.nsIn K mainGlobals "LAST_MOMENT" = some (some (.int (1000000000000000000000000000000) tk_LAST_MOMENT)))
        {tk_MOST_TIES : Tok} (y_MOST_TIES : PySem.W.nsIn K mainGlobals "MOST_TIES" = some (some (.int (60) tk_MOST_TIES)))
        {tk_MOST_LAYERS : Tok} (y_MOST_LAYERS : PySem.W.nsIn K mainGlobals "MOST_LAYERS" = some (some (.int (6) tk_MOST_LAYERS)))
        {C_NoLayers : Addr} (u1_NoLayers : PySem.W.nsIn K mainGlobals "NoLayers" = some (some (.ref C_NoLayers))) (u2_NoLayers : PySem.W.keepIn K (.ref C_NoLayers) = true) (u3_NoLayers : PySem.W.typeIn K (.ref C_NoLayers) = some (.type "type"))
        (u4_NoLayers : PySem.W.findIn K (.ref C_NoLayers) "__getattribute__" = some (some (.builtin "BaseException.__getattribute__"))) (u5_NoLayers : PySem.W.findIn K (.ref C_NoLayers) "__getattr__" = some none) (u6_NoLayers : PySem.W.subIn K (.ref C_NoLayers) (.type "BaseException") = some true) (u7_NoLayers : PySem.W.hasDictIn K C_NoLayers = true) (u8_NoLayers : PySem.W.findIn K (.ref C_NoLayers) "__class__" = some (some (.builtin "object.__class__"))) (u9_NoLayers : PySem.W.mroIn K C_NoLayers (.type "object") = some true)
        (uQ_NoLayers : PySem.W.excIn K C_NoLayers veB "ValueError.__new__" = true)
        {C_NoTies : Addr} (u1_NoTies : PySem.W.nsIn K mainGlobals "NoTies" = some (some (.ref C_NoTies))) (u2_NoTies : PySem.W.keepIn K (.ref C_NoTies) = true) (u3_NoTies : PySem.W.typeIn K (.ref C_NoTies) = some (.type "type"))
        (u4_NoTies : PySem.W.findIn K (.ref C_NoTies) "__getattribute__" = some (some (.builtin "BaseException.__getattribute__"))) (u5_NoTies : PySem.W.findIn K (.ref C_NoTies) "__getattr__" = some none) (u6_NoTies : PySem.W.subIn K (.ref C_NoTies) (.type "BaseException") = some true) (u7_NoTies : PySem.W.hasDictIn K C_NoTies = true) (u8_NoTies : PySem.W.findIn K (.ref C_NoTies) "__class__" = some (some (.builtin "object.__class__"))) (u9_NoTies : PySem.W.mroIn K C_NoTies (.type "object") = some true)
        (uQ_NoTies : PySem.W.excIn K C_NoTies veB "ValueError.__new__" = true)
        {C_Clash : Addr} (u1_Clash : PySem.W.nsIn K mainGlobals "Clash" = some (some (.ref C_Clash))) (u2_Clash : PySem.W.keepIn K (.ref C_Clash) = true) (u3_Clash : PySem.W.typeIn K (.ref C_Clash) = some (.type "type"))
        (u4_Clash : PySem.W.findIn K (.ref C_Clash) "__getattribute__" = some (some (.builtin "BaseException.__getattribute__"))) (u5_Clash : PySem.W.findIn K (.ref C_Clash) "__getattr__" = some none) (u6_Clash : PySem.W.subIn K (.ref C_Clash) (.type "BaseException") = some true) (u7_Clash : PySem.W.hasDictIn K C_Clash = true) (u8_Clash : PySem.W.findIn K (.ref C_Clash) "__class__" = some (some (.builtin "object.__class__"))) (u9_Clash : PySem.W.mroIn K C_Clash (.type "object") = some true)
        {C_PlyError : Addr} (u1_PlyError : PySem.W.nsIn K mainGlobals "PlyError" = some (some (.ref C_PlyError))) (u2_PlyError : PySem.W.keepIn K (.ref C_PlyError) = true) (u3_PlyError : PySem.W.typeIn K (.ref C_PlyError) = some (.type "type"))
        (u4_PlyError : PySem.W.findIn K (.ref C_PlyError) "__getattribute__" = some (some (.builtin "BaseException.__getattribute__"))) (u5_PlyError : PySem.W.findIn K (.ref C_PlyError) "__getattr__" = some none) (u6_PlyError : PySem.W.subIn K (.ref C_PlyError) (.type "BaseException") = some true) (u7_PlyError : PySem.W.hasDictIn K C_PlyError = true) (u8_PlyError : PySem.W.findIn K (.ref C_PlyError) "__class__" = some (some (.builtin "object.__class__"))) (u9_PlyError : PySem.W.mroIn K C_PlyError (.type "object") = some true)
        {C_Unlike : Addr} (u1_Unlike : PySem.W.nsIn K mainGlobals "Unlike" = some (some (.ref C_Unlike))) (u2_Unlike : PySem.W.keepIn K (.ref C_Unlike) = true) (u3_Unlike : PySem.W.typeIn K (.ref C_Unlike) = some (.type "type"))
        (u4_Unlike : PySem.W.findIn K (.ref C_Unlike) "__getattribute__" = some (some (.builtin "BaseException.__getattribute__"))) (u5_Unlike : PySem.W.findIn K (.ref C_Unlike) "__getattr__" = some none) (u6_Unlike : PySem.W.subIn K (.ref C_Unlike) (.type "BaseException") = some true) (u7_Unlike : PySem.W.hasDictIn K C_Unlike = true) (u8_Unlike : PySem.W.findIn K (.ref C_Unlike) "__class__" = some (some (.builtin "object.__class__"))) (u9_Unlike : PySem.W.mroIn K C_Unlike (.type "object") = some true)
        {C_NoText : Addr} (u1_NoText : PySem.W.nsIn K mainGlobals "NoText" = some (some (.ref C_NoText))) (u2_NoText : PySem.W.keepIn K (.ref C_NoText) = true) (u3_NoText : PySem.W.typeIn K (.ref C_NoText) = some (.type "type"))
        (u4_NoText : PySem.W.findIn K (.ref C_NoText) "__getattribute__" = some (some (.builtin "BaseException.__getattribute__"))) (u5_NoText : PySem.W.findIn K (.ref C_NoText) "__getattr__" = some none) (u6_NoText : PySem.W.subIn K (.ref C_NoText) (.type "BaseException") = some true) (u7_NoText : PySem.W.hasDictIn K C_NoText = true) (u8_NoText : PySem.W.findIn K (.ref C_NoText) "__class__" = some (some (.builtin "object.__class__"))) (u9_NoText : PySem.W.mroIn K C_NoText (.type "object") = some true)
        {C_NoRow : Addr} (u1_NoRow : PySem.W.nsIn K mainGlobals "NoRow" = some (some (.ref C_NoRow))) (u2_NoRow : PySem.W.keepIn K (.ref C_NoRow) = true) (u3_NoRow : PySem.W.typeIn K (.ref C_NoRow) = some (.type "type"))
        (u4_NoRow : PySem.W.findIn K (.ref C_NoRow) "__getattribute__" = some (some (.builtin "BaseException.__getattribute__"))) (u5_NoRow : PySem.W.findIn K (.ref C_NoRow) "__getattr__" = some none) (u6_NoRow : PySem.W.subIn K (.ref C_NoRow) (.type "BaseException") = some true) (u7_NoRow : PySem.W.hasDictIn K C_NoRow = true) (u8_NoRow : PySem.W.findIn K (.ref C_NoRow) "__class__" = some (some (.builtin "object.__class__"))) (u9_NoRow : PySem.W.mroIn K C_NoRow (.type "object") = some true)
        {C_NoPlaces : Addr} (u1_NoPlaces : PySem.W.nsIn K mainGlobals "NoPlaces" = some (some (.ref C_NoPlaces))) (u2_NoPlaces : PySem.W.keepIn K (.ref C_NoPlaces) = true) (u3_NoPlaces : PySem.W.typeIn K (.ref C_NoPlaces) = some (.type "type"))
        (u4_NoPlaces : PySem.W.findIn K (.ref C_NoPlaces) "__getattribute__" = some (some (.builtin "BaseException.__getattribute__"))) (u5_NoPlaces : PySem.W.findIn K (.ref C_NoPlaces) "__getattr__" = some none) (u6_NoPlaces : PySem.W.subIn K (.ref C_NoPlaces) (.type "BaseException") = some true) (u7_NoPlaces : PySem.W.hasDictIn K C_NoPlaces = true) (u8_NoPlaces : PySem.W.findIn K (.ref C_NoPlaces) "__class__" = some (some (.builtin "object.__class__"))) (u9_NoPlaces : PySem.W.mroIn K C_NoPlaces (.type "object") = some true)
        {C_NoPaper : Addr} (u1_NoPaper : PySem.W.nsIn K mainGlobals "NoPaper" = some (some (.ref C_NoPaper))) (u2_NoPaper : PySem.W.keepIn K (.ref C_NoPaper) = true) (u3_NoPaper : PySem.W.typeIn K (.ref C_NoPaper) = some (.type "type"))
        (u4_NoPaper : PySem.W.findIn K (.ref C_NoPaper) "__getattribute__" = some (some (.builtin "BaseException.__getattribute__"))) (u5_NoPaper : PySem.W.findIn K (.ref C_NoPaper) "__getattr__" = some none) (u6_NoPaper : PySem.W.subIn K (.ref C_NoPaper) (.type "BaseException") = some true) (u7_NoPaper : PySem.W.hasDictIn K C_NoPaper = true) (u8_NoPaper : PySem.W.findIn K (.ref C_NoPaper) "__class__" = some (some (.builtin "object.__class__"))) (u9_NoPaper : PySem.W.mroIn K C_NoPaper (.type "object") = some true)
        {C_NoPair : Addr} (u1_NoPair : PySem.W.nsIn K mainGlobals "NoPair" = some (some (.ref C_NoPair))) (u2_NoPair : PySem.W.keepIn K (.ref C_NoPair) = true) (u3_NoPair : PySem.W.typeIn K (.ref C_NoPair) = some (.type "type"))
        (u4_NoPair : PySem.W.findIn K (.ref C_NoPair) "__getattribute__" = some (some (.builtin "BaseException.__getattribute__"))) (u5_NoPair : PySem.W.findIn K (.ref C_NoPair) "__getattr__" = some none) (u6_NoPair : PySem.W.subIn K (.ref C_NoPair) (.type "BaseException") = some true) (u7_NoPair : PySem.W.hasDictIn K C_NoPair = true) (u8_NoPair : PySem.W.findIn K (.ref C_NoPair) "__class__" = some (some (.builtin "object.__class__"))) (u9_NoPair : PySem.W.mroIn K C_NoPair (.type "object") = some true)
        {C_NoNet : Addr} (u1_NoNet : PySem.W.nsIn K mainGlobals "NoNet" = some (some (.ref C_NoNet))) (u2_NoNet : PySem.W.keepIn K (.ref C_NoNet) = true) (u3_NoNet : PySem.W.typeIn K (.ref C_NoNet) = some (.type "type"))
        (u4_NoNet : PySem.W.findIn K (.ref C_NoNet) "__getattribute__" = some (some (.builtin "BaseException.__getattribute__"))) (u5_NoNet : PySem.W.findIn K (.ref C_NoNet) "__getattr__" = some none) (u6_NoNet : PySem.W.subIn K (.ref C_NoNet) (.type "BaseException") = some true) (u7_NoNet : PySem.W.hasDictIn K C_NoNet = true) (u8_NoNet : PySem.W.findIn K (.ref C_NoNet) "__class__" = some (some (.builtin "object.__class__"))) (u9_NoNet : PySem.W.mroIn K C_NoNet (.type "object") = some true)
        {C_NoDeed : Addr} (u1_NoDeed : PySem.W.nsIn K mainGlobals "NoDeed" = some (some (.ref C_NoDeed))) (u2_NoDeed : PySem.W.keepIn K (.ref C_NoDeed) = true) (u3_NoDeed : PySem.W.typeIn K (.ref C_NoDeed) = some (.type "type"))
        (u4_NoDeed : PySem.W.findIn K (.ref C_NoDeed) "__getattribute__" = some (some (.builtin "BaseException.__getattribute__"))) (u5_NoDeed : PySem.W.findIn K (.ref C_NoDeed) "__getattr__" = some none) (u6_NoDeed : PySem.W.subIn K (.ref C_NoDeed) (.type "BaseException") = some true) (u7_NoDeed : PySem.W.hasDictIn K C_NoDeed = true) (u8_NoDeed : PySem.W.findIn K (.ref C_NoDeed) "__class__" = some (some (.builtin "object.__class__"))) (u9_NoDeed : PySem.W.mroIn K C_NoDeed (.type "object") = some true)
        {iA_Clash : Addr} {iod_Clash ian_Clash : Option Addr} {isl_Clash : Array (Option Value)} {ioc_Clash ikV_Clash idc_Clash ipm_Clash icd_Clash ict_Clash : Value}
        (w1_Clash : PySem.W.findIn K (.ref C_Clash) "__init__" = some (some (.ref iA_Clash))) (w2_Clash : K.lookup iA_Clash = some ⟨ioc_Clash, iod_Clash, .func (PySem.W.fnOf "__init__" "Clash.__init__" (defArgs si_Clash) (defBody si_Clash) (defScope si_Clash) .none ikV_Clash idc_Clash ipm_Clash ian_Clash icd_Clash ict_Clash), isl_Clash⟩) (w3_Clash : PySem.W.codeIn K icd_Clash "Clash.__init__" = true) (w4_Clash : PySem.W.keepIn K (.ref iA_Clash) = true)
        (w5_Clash : PySem.W.typeIn K (.ref iA_Clash) = some (.type "function")) (w6_Clash : PySem.W.findIn K (.ref C_Clash) "moment" = some none) (w7_Clash : PySem.W.findIn K (.ref C_Clash) "__setattr__" = some (some (.builtin "object.__setattr__"))) {iq1_Clash iq2_Clash : Str} {iN_Clash : Addr} {ibs_Clash isb_Clash : List Value} {isn_Clash : List Str} {iab_Clash : Bool} {icol_Clash : Option Bool} {idd_Clash : Option Addr} {im0_Clash im1_Clash im2_Clash im3_Clash im5_Clash : Option Value} (w8_Clash : K.lookup C_Clash = some (excClassObj iq1_Clash iq2_Clash C_Clash iN_Clash ibs_Clash [.ref C_PlyError, .type "ValueError", .type "Exception", .type "BaseException", .type "object"] true isn_Clash isb_Clash iab_Clash icol_Clash idd_Clash im0_Clash im1_Clash im2_Clash im3_Clash im5_Clash "ValueError.__new__"))
        (w9_Clash : PySem.W.readsIn K C_PlyError (.type "type") = true) (wA_Clash : PySem.W.specialIn K (.ref C_PlyError) "__getattribute__" = some (some (.builtin "type.__getattribute__"))) (wB_Clash : PySem.W.findCls K (.ref C_PlyError) (.type "type") "__init__" = some (.val (.builtin "ValueError.__init__")))
        (un : PySem.W.specialIn K (.builtin "object.__class__") "__get__" = some (some (.builtin "getset_descriptor.__get__"))) (ut : PySem.W.takesIn K (.builtin "object.__class__") = some true)
        (uS_Clash_Unlike : PySem.W.subIn K (.ref C_Clash) (.ref C_Unlike) = some false)
        (uS_Clash_Clash : PySem.W.subIn K (.ref C_Clash) (.ref C_Clash) = some true)
        (uS_Clash_NoText : PySem.W.subIn K (.ref C_Clash) (.ref C_NoText) = some false)
        (uS_Clash_NoRow : PySem.W.subIn K (.ref C_Clash) (.ref C_NoRow) = some false)
        (uS_Clash_NoPlaces : PySem.W.subIn K (.ref C_Clash) (.ref C_NoPlaces) = some false)
        (uS_Clash_NoPaper : PySem.W.subIn K (.ref C_Clash) (.ref C_NoPaper) = some false)
        (uS_Clash_NoPair : PySem.W.subIn K (.ref C_Clash) (.ref C_NoPair) = some false)
        (uS_Clash_NoNet : PySem.W.subIn K (.ref C_Clash) (.ref C_NoNet) = some false)
        (uS_Clash_NoDeed : PySem.W.subIn K (.ref C_Clash) (.ref C_NoDeed) = some false)
        (uS_NoTies_Unlike : PySem.W.subIn K (.ref C_NoTies) (.ref C_Unlike) = some false)
        (uS_NoTies_NoTies : PySem.W.subIn K (.ref C_NoTies) (.ref C_NoTies) = some true)
        (uS_NoTies_NoText : PySem.W.subIn K (.ref C_NoTies) (.ref C_NoText) = some false)
        (uS_NoTies_NoRow : PySem.W.subIn K (.ref C_NoTies) (.ref C_NoRow) = some false)
        (uS_NoTies_NoPlaces : PySem.W.subIn K (.ref C_NoTies) (.ref C_NoPlaces) = some false)
        (uS_NoTies_NoPaper : PySem.W.subIn K (.ref C_NoTies) (.ref C_NoPaper) = some false)
        (uS_NoTies_NoPair : PySem.W.subIn K (.ref C_NoTies) (.ref C_NoPair) = some false)
        (uS_NoTies_NoNet : PySem.W.subIn K (.ref C_NoTies) (.ref C_NoNet) = some false)
        (uS_NoTies_NoDeed : PySem.W.subIn K (.ref C_NoTies) (.ref C_NoDeed) = some false)
        (uS_NoLayers_Unlike : PySem.W.subIn K (.ref C_NoLayers) (.ref C_Unlike) = some false)
        (uS_NoLayers_NoLayers : PySem.W.subIn K (.ref C_NoLayers) (.ref C_NoLayers) = some true)
        (uS_NoLayers_NoText : PySem.W.subIn K (.ref C_NoLayers) (.ref C_NoText) = some false)
        (uS_NoLayers_NoRow : PySem.W.subIn K (.ref C_NoLayers) (.ref C_NoRow) = some false)
        (uS_NoLayers_NoPlaces : PySem.W.subIn K (.ref C_NoLayers) (.ref C_NoPlaces) = some false)
        (uS_NoLayers_NoPaper : PySem.W.subIn K (.ref C_NoLayers) (.ref C_NoPaper) = some false)
        (uS_NoLayers_NoPair : PySem.W.subIn K (.ref C_NoLayers) (.ref C_NoPair) = some false)
        (uS_NoLayers_NoNet : PySem.W.subIn K (.ref C_NoLayers) (.ref C_NoNet) = some false)
        (uS_NoLayers_NoDeed : PySem.W.subIn K (.ref C_NoLayers) (.ref C_NoDeed) = some false)
        (uS_Clash_ValueError : PySem.W.subIn K (.ref C_Clash) (.type "ValueError") = some true)
        (uS_NoTies_ValueError : PySem.W.subIn K (.ref C_NoTies) (.type "ValueError") = some true)
        (uS_NoLayers_ValueError : PySem.W.subIn K (.ref C_NoLayers) (.type "ValueError") = some true)
        (uS_Clash_NoLayers : PySem.W.subIn K (.ref C_Clash) (.ref C_NoLayers) = some false)
        (uS_NoTies_NoLayers : PySem.W.subIn K (.ref C_NoTies) (.ref C_NoLayers) = some false)
        (uS_Clash_NoTies : PySem.W.subIn K (.ref C_Clash) (.ref C_NoTies) = some false)
        (uS_NoLayers_NoTies : PySem.W.subIn K (.ref C_NoLayers) (.ref C_NoTies) = some false)
        (uS_NoTies_Clash : PySem.W.subIn K (.ref C_NoTies) (.ref C_Clash) = some false)
        (uS_NoLayers_Clash : PySem.W.subIn K (.ref C_NoLayers) (.ref C_Clash) = some false)
        (uS_Clash_PlyError : PySem.W.subIn K (.ref C_Clash) (.ref C_PlyError) = some true)
        (uS_NoTies_PlyError : PySem.W.subIn K (.ref C_NoTies) (.ref C_PlyError) = some true)
        (uS_NoLayers_PlyError : PySem.W.subIn K (.ref C_NoLayers) (.ref C_PlyError) = some true) :
    ∃ fd : FuncData, (∀ (s : Shared) (v : Value), BindsTo s fd ⟨[v], []⟩ [("script", v)]) ∧ ∀ base : Heap, K.In base → base.Ns mainGlobals mg → FnG l.prog w K mg base 9 fa fd ["script"] (spG K mg 1 f_law) := by
  have e := hfa.symm.trans (PySem.W.mg_of X G a28)
  cases e
  exact ⟨_, fun s v => .of_eq rfl, fun base _ _ => ok_law (mkTx X G a0 l0 c0 k0 a1 l1 c1 k1 a2 l2 c2 k2 a3 l3 c3 k3 a4 l4 c4 k4 a5 l5 c5 k5 a6 l6 c6 k6 a7 l7 c7 k7 a8 l8 c8 k8 a9 l9 c9 k9 a10 l10 c10 k10 a11 l11 c11 k11 a12 l12 c12 k12 a13 l13 c13 k13 a14 l14 c14 k14 a15 l15 c15 k15 a16 l16 c16 k16 a17 l17 c17 k17 a18 l18 c18 k18 a19 l19 c19 k19 a20 l20 c20 k20 a21 l21 c21 k21 a22 l22 c22 k22 a23 l23 c23 k23 a24 l24 c24 k24 a25 l25 c25 k25 a26 l26 c26 k26 a27 l27 c27 k27 a28 l28 c28 k28 z_isinstance z_int z_bool z_tuple z_len z_list z_all z_range z_min z_max z_enumerate z_reversed z_zip z_abs z_ValueError z_str y_LAST_MOMENT y_MOST_TIES y_MOST_LAYERS u1_NoLayers u2_NoLayers u3_NoLayers u4_NoLayers u5_NoLayers u6_NoLayers u7_NoLayers u8_NoLayers u9_NoLayers uQ_NoLayers u1_NoTies u2_NoTies u3_NoTies u4_NoTies u5_NoTies u6_NoTies u7_NoTies u8_NoTies u9_NoTies uQ_NoTies u1_Clash u2_Clash u3_Clash u4_Clash u5_Clash u6_Clash u7_Clash u8_Clash u9_Clash u1_PlyError u2_PlyError u3_PlyError u4_PlyError u5_PlyError u6_PlyError u7_PlyError u8_PlyError u9_PlyError u1_Unlike u2_Unlike u3_Unlike u4_Unlike u5_Unlike u6_Unlike u7_Unlike u8_Unlike u9_Unlike u1_NoText u2_NoText u3_NoText u4_NoText u5_NoText u6_NoText u7_NoText u8_NoText u9_NoText u1_NoRow u2_NoRow u3_NoRow u4_NoRow u5_NoRow u6_NoRow u7_NoRow u8_NoRow u9_NoRow u1_NoPlaces u2_NoPlaces u3_NoPlaces u4_NoPlaces u5_NoPlaces u6_NoPlaces u7_NoPlaces u8_NoPlaces u9_NoPlaces u1_NoPaper u2_NoPaper u3_NoPaper u4_NoPaper u5_NoPaper u6_NoPaper u7_NoPaper u8_NoPaper u9_NoPaper u1_NoPair u2_NoPair u3_NoPair u4_NoPair u5_NoPair u6_NoPair u7_NoPair u8_NoPair u9_NoPair u1_NoNet u2_NoNet u3_NoNet u4_NoNet u5_NoNet u6_NoNet u7_NoNet u8_NoNet u9_NoNet u1_NoDeed u2_NoDeed u3_NoDeed u4_NoDeed u5_NoDeed u6_NoDeed u7_NoDeed u8_NoDeed u9_NoDeed w1_Clash w2_Clash w3_Clash w4_Clash w5_Clash w6_Clash w7_Clash w8_Clash w9_Clash wA_Clash wB_Clash un ut uS_Clash_Unlike uS_Clash_Clash uS_Clash_NoText uS_Clash_NoRow uS_Clash_NoPlaces uS_Clash_NoPaper uS_Clash_NoPair uS_Clash_NoNet uS_Clash_NoDeed uS_NoTies_Unlike uS_NoTies_NoTies uS_NoTies_NoText uS_NoTies_NoRow uS_NoTies_NoPlaces uS_NoTies_NoPaper uS_NoTies_NoPair uS_NoTies_NoNet uS_NoTies_NoDeed uS_NoLayers_Unlike uS_NoLayers_NoLayers uS_NoLayers_NoText uS_NoLayers_NoRow uS_NoLayers_NoPlaces uS_NoLayers_NoPaper uS_NoLayers_NoPair uS_NoLayers_NoNet uS_NoLayers_NoDeed uS_Clash_ValueError uS_NoTies_ValueError uS_NoLayers_ValueError uS_Clash_NoLayers uS_NoTies_NoLayers uS_Clash_NoTies uS_NoLayers_NoTies uS_NoTies_Clash uS_NoLayers_Clash uS_Clash_PlyError uS_NoTies_PlyError uS_NoLayers_PlyError)⟩
end
end K16
end T_K16
section T_FamA
set_option linter.all false
namespace FamA
open PySem Sim
def g_l_ends : Gs := gSeqS (gSet 4 (gOp hMod (gVar 2) (gVar 0))) (gSeqS (gIfS (gTest (gOp hEq (gVar 1) (gC (.int (0))))) (gRet (gTup (gCons (gVar 4) (gCons (gOp hMod (gVar 3) (gVar 0)) (gNil))))) (gNext)) (gSeqS (gIfS (gTest (gOp hEq (gVar 1) (gC (.int (1))))) (gRet (gTup (gCons (gOp hMod (gVar 2) (gCB hMin2 (gCons (gVar 0) (gCons (gC (.int (3))) (gNil))))) (gCons (gOp hMod (gVar 3) (gCB hMin2 (gCons (gVar 0) (gCons (gC (.int (2))) (gNil))))) (gNil))))) (gNext)) (gSeqS (gIfS (gTest (gOp hEq (gVar 1) (gC (.int (2))))) (gRet (gTup (gCons (gVar 4) (gCons (gOp hMod (gOp hAdd (gOp hAdd (gVar 4) (gC (.int (1)))) (gOp hDiv (gOp hMod (gVar 3) (gC (.int (5)))) (gC (.int (4))))) (gVar 0)) (gNil))))) (gNext)) (gRet (gTup (gCons (gVar 4) (gCons (gOp hMod (gOp hAdd (gVar 4) (gOp hMul (gC (.int (2))) (gOp hMod (gVar 3) (gVar 0)))) (gVar 0)) (gNil))))))))
def f_l_ends : List Dt → O Dt := fnN 5 g_l_ends
end FamA
end T_FamA
section T_FamAP
set_option linter.all false
set_option maxRecDepth 100000
namespace FamA
open PySem Sim
abbrev B30 : Int := 1000000000000000000000000000000
theorem ends_ok (n kind one other : Int) (hn : 1 ≤ n) : ∃ a b, f_l_ends [.int n, .int kind, .int one, .int other] = .ok (.tuple [.int a, .int b]) ∧ 0 ≤ a ∧ a < n ∧ 0 ≤ b ∧ b < n := by
  unfold f_l_ends fnN g_l_ends
  have m0 := fun x : Int => Int.emod_nonneg x (show n ≠ 0 by omega)
  have m1 := fun x : Int => Int.emod_lt_of_pos x (show 0 < n by omega)
  by_cases h0 : kind = 0
  · subst h0
    simp (disch := omega) only [bnd_ok, gVar_def, gC_def, gOp_def, gUn_def, gNil_def, gCons_def, gIf_def, gTest_def, gNot_def, gAnd_def, gOr_def, gAndV_def, gOrV_def, gNotV_def, gCB_def, asB_b, hAdd_i, hSub_i, hLt_i, hLe_i, hGt_i, hGe_i, hMul_r, hMul_l, hMod_i, hDiv_s, hBand_i, hShr_i, hPow_10_18, hPow_10_27, hPow_10_28, hPow_10_29, hPow_10_30, hEq_i, hNe_i, hLen_l, hLen_t, hMin2_i, hMax2_i, hMin3_i, hInt1_b, hInt1_i, hBits_i, hListOf_l, hListOf_t, hTupOf_l, hTupOf_t, gSeqS_def, gSet_def, gRet_def, gIfS_def, gNext_def, gTup_def, gLst_def, List.getElem?_cons_zero, List.getElem?_cons_succ, List.set_cons_zero, List.set_cons_succ, List.length_cons, List.length_nil, Nat.zero_add, Nat.reduceAdd, Nat.reduceLeDiff, Nat.reduceSub, Nat.reduceMul, if_true, if_false, Bool.false_eq_true, List.replicate_succ, List.replicate_zero, List.cons_append, List.nil_append, tgN, tgT, tgCons, tgNil, Int.reducePow, Int.reduceAdd, Int.reduceSub, Int.reduceMul, decide_true, decide_false, Bool.not_true, Bool.not_false, gChain_def, hIsa_int, hIsa_intb, hIsa_list, hIsa_tuple, gDrop_def, beq_self_eq_true]
    exact ⟨_, _, rfl, m0 _, m1 _, m0 _, m1 _⟩
  · have e0 : (kind == 0) = false := beq_eq_false_iff_ne.mpr h0
    by_cases h1 : kind = 1
    · subst h1
      have q3 : 0 < (if (3 : Int) < n then 3 else n) := by split <;> omega
      have q2 : 0 < (if (2 : Int) < n then 2 else n) := by split <;> omega
      have q3' : (if (3 : Int) < n then 3 else n) ≤ n := by split <;> omega
      have q2' : (if (2 : Int) < n then 2 else n) ≤ n := by split <;> omega
      have p0 := Int.emod_nonneg one (show (if (3 : Int) < n then 3 else n) ≠ 0 by omega)
      have p1 := Int.emod_lt_of_pos one q3
      have p2 := Int.emod_nonneg other (show (if (2 : Int) < n then 2 else n) ≠ 0 by omega)
      have p3 := Int.emod_lt_of_pos other q2
      simp (disch := first | assumption | omega) only [bnd_ok, gVar_def, gC_def, gOp_def, gUn_def, gNil_def, gCons_def, gIf_def, gTest_def, gNot_def, gAnd_def, gOr_def, gAndV_def, gOrV_def, gNotV_def, gCB_def, asB_b, hAdd_i, hSub_i, hLt_i, hLe_i, hGt_i, hGe_i, hMul_r, hMul_l, hMod_i, hDiv_s, hBand_i, hShr_i, hPow_10_18, hPow_10_27, hPow_10_28, hPow_10_29, hPow_10_30, hEq_i, hNe_i, hLen_l, hLen_t, hMin2_i, hMax2_i, hMin3_i, hInt1_b, hInt1_i, hBits_i, hListOf_l, hListOf_t, hTupOf_l, hTupOf_t, gSeqS_def, gSet_def, gRet_def, gIfS_def, gNext_def, gTup_def, gLst_def, List.getElem?_cons_zero, List.getElem?_cons_succ, List.set_cons_zero, List.set_cons_succ, List.length_cons, List.length_nil, Nat.zero_add, Nat.reduceAdd, Nat.reduceLeDiff, Nat.reduceSub, Nat.reduceMul, if_true, if_false, Bool.false_eq_true, List.replicate_succ, List.replicate_zero, List.cons_append, List.nil_append, tgN, tgT, tgCons, tgNil, Int.reducePow, Int.reduceAdd, Int.reduceSub, Int.reduceMul, decide_true, decide_false, Bool.not_true, Bool.not_false, gChain_def, hIsa_int, hIsa_intb, hIsa_list, hIsa_tuple, gDrop_def, beq_self_eq_true, e0]
      exact ⟨_, _, rfl, p0, Int.lt_of_lt_of_le p1 q3', p2, Int.lt_of_lt_of_le p3 q2'⟩
    · have e1 : (kind == 1) = false := beq_eq_false_iff_ne.mpr h1
      by_cases h2 : kind = 2
      · subst h2
        simp (disch := omega) only [bnd_ok, gVar_def, gC_def, gOp_def, gUn_def, gNil_def, gCons_def, gIf_def, gTest_def, gNot_def, gAnd_def, gOr_def, gAndV_def, gOrV_def, gNotV_def, gCB_def, asB_b, hAdd_i, hSub_i, hLt_i, hLe_i, hGt_i, hGe_i, hMul_r, hMul_l, hMod_i, hDiv_s, hBand_i, hShr_i, hPow_10_18, hPow_10_27, hPow_10_28, hPow_10_29, hPow_10_30, hEq_i, hNe_i, hLen_l, hLen_t, hMin2_i, hMax2_i, hMin3_i, hInt1_b, hInt1_i, hBits_i, hListOf_l, hListOf_t, hTupOf_l, hTupOf_t, gSeqS_def, gSet_def, gRet_def, gIfS_def, gNext_def, gTup_def, gLst_def, List.getElem?_cons_zero, List.getElem?_cons_succ, List.set_cons_zero, List.set_cons_succ, List.length_cons, List.length_nil, Nat.zero_add, Nat.reduceAdd, Nat.reduceLeDiff, Nat.reduceSub, Nat.reduceMul, if_true, if_false, Bool.false_eq_true, List.replicate_succ, List.replicate_zero, List.cons_append, List.nil_append, tgN, tgT, tgCons, tgNil, Int.reducePow, Int.reduceAdd, Int.reduceSub, Int.reduceMul, decide_true, decide_false, Bool.not_true, Bool.not_false, gChain_def, hIsa_int, hIsa_intb, hIsa_list, hIsa_tuple, gDrop_def, beq_self_eq_true, e0, e1]
        exact ⟨_, _, rfl, m0 _, m1 _, m0 _, m1 _⟩
      · have e2 : (kind == 2) = false := beq_eq_false_iff_ne.mpr h2
        simp (disch := omega) only [bnd_ok, gVar_def, gC_def, gOp_def, gUn_def, gNil_def, gCons_def, gIf_def, gTest_def, gNot_def, gAnd_def, gOr_def, gAndV_def, gOrV_def, gNotV_def, gCB_def, asB_b, hAdd_i, hSub_i, hLt_i, hLe_i, hGt_i, hGe_i, hMul_r, hMul_l, hMod_i, hDiv_s, hBand_i, hShr_i, hPow_10_18, hPow_10_27, hPow_10_28, hPow_10_29, hPow_10_30, hEq_i, hNe_i, hLen_l, hLen_t, hMin2_i, hMax2_i, hMin3_i, hInt1_b, hInt1_i, hBits_i, hListOf_l, hListOf_t, hTupOf_l, hTupOf_t, gSeqS_def, gSet_def, gRet_def, gIfS_def, gNext_def, gTup_def, gLst_def, List.getElem?_cons_zero, List.getElem?_cons_succ, List.set_cons_zero, List.set_cons_succ, List.length_cons, List.length_nil, Nat.zero_add, Nat.reduceAdd, Nat.reduceLeDiff, Nat.reduceSub, Nat.reduceMul, if_true, if_false, Bool.false_eq_true, List.replicate_succ, List.replicate_zero, List.cons_append, List.nil_append, tgN, tgT, tgCons, tgNil, Int.reducePow, Int.reduceAdd, Int.reduceSub, Int.reduceMul, decide_true, decide_false, Bool.not_true, Bool.not_false, gChain_def, hIsa_int, hIsa_intb, hIsa_list, hIsa_tuple, gDrop_def, e0, e1, e2]
        exact ⟨_, _, rfl, m0 _, m1 _, m0 _, m1 _⟩
abbrev T3 := Int × Int × Int
def enc3 (t : T3) : Dt := .tuple [.int t.1, .int t.2.1, .int t.2.2]
structure TieOk (n : Int) (t : T3) : Prop where
  m0 : 0 ≤ t.1
  m1 : t.1 < B30
  a0 : 0 ≤ t.2.1
  ab : t.2.1 ≤ t.2.2
  bn : t.2.2 < n
structure RecOk (n : Int) (r : List T3) : Prop where
  len : r.length ≤ 60
  ties : ∀ t ∈ r, TieOk n t
  ord : r.Pairwise fun s t => s.1 < t.1
theorem map3_snoc (r : List T3) (t : T3) : r.map enc3 ++ [enc3 t] = (r ++ [t]).map enc3 := by rw [List.map_append]; rfl
theorem rec_snoc {n : Int} {r : List T3} {t : T3} (h : ∀ t ∈ r, TieOk n t) (o : r.Pairwise fun s t => s.1 < t.1) (ht : TieOk n t) (hlt : ∀ s ∈ r, s.1 < t.1) : (∀ s ∈ r ++ [t], TieOk n s) ∧ (r ++ [t]).Pairwise fun s t => s.1 < t.1 := by
  refine ⟨fun s hs => ?_, List.pairwise_append.mpr ⟨o, List.pairwise_singleton _ _, fun a ha b hb => ?_⟩⟩
  · rcases List.mem_append.mp hs with h' | h'
    · exact h s h'
    · rw [List.mem_singleton.mp h']; exact ht
  · rw [List.mem_singleton.mp hb]
    exact hlt a ha
end FamA
end T_FamAP
section T_ConnP
set_option linter.all false
set_option maxRecDepth 100000
namespace Lay
open PySem Sim FamA
def E2 (ts : List T3) (b c : Int) : Prop := ∃ t ∈ ts, (t.2.1 = b ∧ t.2.2 = c) ∨ (t.2.1 = c ∧ t.2.2 = b)
inductive Conn (ts : List T3) : Int → Int → Prop
  | refl (a : Int) : Conn ts a a
  | step {a b c : Int} : Conn ts a b → E2 ts b c → Conn ts a c
section
variable {ts ts' : List T3} {a b c p q n : Int} {t : T3} {ms : List Int}
theorem E2.symm (h : E2 ts b c) : E2 ts c b := by
  obtain ⟨t, h1, h2⟩ := h
  exact ⟨t, h1, h2.symm⟩
theorem Conn.one (h : E2 ts a b) : Conn ts a b := .step (.refl a) h
theorem Conn.trans (h : Conn ts a b) (k : Conn ts b c) : Conn ts a c := by
  induction k with
  | refl => exact h
  | step _ e ih => exact .step ih e
theorem Conn.symm (h : Conn ts a b) : Conn ts b a := by
  induction h with
  | refl => exact .refl _
  | step _ e ih => exact (Conn.one e.symm).trans ih
theorem Conn.mono (h : ∀ b c, E2 ts b c → Conn ts' b c) (k : Conn ts a b) : Conn ts' a b := by
  induction k with
  | refl => exact .refl _
  | step _ e ih => exact ih.trans (h _ _ e)
theorem Conn.sub (h : ∀ t ∈ ts, t ∈ ts') (k : Conn ts a b) : Conn ts' a b := k.mono fun b c ⟨t, h1, h2⟩ => .one ⟨t, h t h1, h2⟩
theorem conn_mem (h : ∀ t, t ∈ ts ↔ t ∈ ts') : Conn ts a b ↔ Conn ts' a b := ⟨fun k => k.sub fun t => (h t).mp, fun k => k.sub fun t => (h t).mpr⟩
theorem conn_nil : Conn [] a b ↔ a = b := by
  constructor
  · intro h
    cases h with
    | refl => rfl
    | step _ e => obtain ⟨t, h1, _⟩ := e; cases h1
  · rintro rfl; exact .refl _
theorem conn_cons : Conn (t :: ts) p q ↔ Conn ts p q ∨ (Conn ts p t.2.1 ∧ Conn ts t.2.2 q) ∨ (Conn ts p t.2.2 ∧ Conn ts t.2.1 q) := by
  constructor
  · intro h
    induction h with
    | refl => exact .inl (.refl _)
    | step _ e ih =>
      obtain ⟨s, hs, e⟩ := e
      rcases List.mem_cons.mp hs with rfl | hs
      · rcases e with ⟨rfl, rfl⟩ | ⟨rfl, rfl⟩
        · rcases ih with h | ⟨h, _⟩ | ⟨h, _⟩
          · exact .inr (.inl ⟨h, .refl _⟩)
          · exact .inr (.inl ⟨h, .refl _⟩)
          · exact .inl h
        · rcases ih with h | ⟨h, _⟩ | ⟨h, _⟩
          · exact .inr (.inr ⟨h, .refl _⟩)
          · exact .inl h
          · exact .inr (.inr ⟨h, .refl _⟩)
      · have e := Conn.one (ts := ts) ⟨s, hs, e⟩
        rcases ih with h | ⟨h, k⟩ | ⟨h, k⟩
        · exact .inl (h.trans e)
        · exact .inr (.inl ⟨h, k.trans e⟩)
        · exact .inr (.inr ⟨h, k.trans e⟩)
  · have up : ∀ {x y}, Conn ts x y → Conn (t :: ts) x y := fun h => h.sub fun _ => List.mem_cons_of_mem _
    have e : Conn (t :: ts) t.2.1 t.2.2 := .one ⟨t, List.mem_cons_self, .inl ⟨rfl, rfl⟩⟩
    rintro (h | ⟨h, k⟩ | ⟨h, k⟩)
    · exact up h
    · exact (up h).trans (e.trans (up k))
    · exact (up h).trans (e.symm.trans (up k))
def gx (ms : List Int) (a : Int) : Int := ms.getD a.toNat 0
structure MK (n : Int) (ms : List Int) (ts : List T3) : Prop where
  len : ms.length = n.toNat
  ker : ∀ a b, 0 ≤ a → a < n → 0 ≤ b → b < n → (gx ms a = gx ms b ↔ Conn ts a b)
theorem gx_map (f : Int → Int) (h0 : 0 ≤ a) (h1 : a.toNat < ms.length) : gx (ms.map f) a = f (gx ms a) := by
  unfold gx
  rw [List.getD_eq_getElem?_getD, List.getD_eq_getElem?_getD, List.getElem?_map, List.getElem?_eq_getElem h1]
  rfl
theorem gx_pl (h0 : 0 ≤ a) (h1 : a < n) : gx (pl n) a = a := by
  unfold gx pl
  rw [List.getD_eq_getElem?_getD, List.getElem?_map, List.getElem?_range (by omega)]
  show ((a.toNat : Nat) : Int) = a
  omega
theorem MK.zero : MK n (pl n) [] := ⟨pl_len n, fun a b a0 an b0 bn => by rw [gx_pl a0 an, gx_pl b0 bn, conn_nil]⟩
theorem MK.step (h : MK n ms ts) (a0 : 0 ≤ t.2.1) (a1 : t.2.1 < n) (b0 : 0 ≤ t.2.2) (b1 : t.2.2 < n) {x y : Int}
    (hxy : (x = gx ms t.2.1 ∧ y = gx ms t.2.2) ∨ (x = gx ms t.2.2 ∧ y = gx ms t.2.1)) : MK n (ms.map fun m => if m = x then y else m) (t :: ts) := by
  refine ⟨by rw [List.length_map]; exact h.len, fun p q p0 pn q0 qn => ?_⟩
  rw [gx_map _ p0 (by rw [h.len]; omega), gx_map _ q0 (by rw [h.len]; omega), conn_cons, ← h.ker p q p0 pn q0 qn, ← h.ker p _ p0 pn a0 a1, ← h.ker _ q b0 b1 q0 qn, ← h.ker p _ p0 pn b0 b1, ← h.ker _ q a0 a1 q0 qn]
  generalize gx ms p = u at *
  generalize gx ms q = v at *
  generalize gx ms t.2.1 = A at *
  generalize gx ms t.2.2 = B at *
  rcases hxy with ⟨rfl, rfl⟩ | ⟨rfl, rfl⟩
  · split <;> split <;> constructor <;> intro h <;> omega
  · split <;> split <;> constructor <;> intro h <;> omega
theorem MK.mem (h : MK n ms ts) (e : ∀ t, t ∈ ts ↔ t ∈ ts') : MK n ms ts' := ⟨h.len, fun a b a0 an b0 bn => (h.ker a b a0 an b0 bn).trans (conn_mem e)⟩
def layer (j : Int) (s : List T3) (ns : List Int) : List T3 := ((s.zip ns).filter fun p => p.2 == j).map (·.1)
open Classical in
noncomputable def fj (p : Nat → Prop) (lo : Nat) : Nat → Int
  | 0 => 0
  | m + 1 => if p lo then (lo : Int) + 1 else fj p (lo + 1) m
noncomputable def num (k : Nat) (s : List T3) (ns : List Int) (a b : Int) : Int := fj (fun j => ¬ Conn (layer ((j : Int) + 1) s ns) a b) 0 k
noncomputable def lay (k : Nat) : List T3 → List Int
  | [] => []
  | t :: s => num k s (lay k s) t.2.1 t.2.2 :: lay k s
theorem lay_len (k : Nat) : ∀ r, (lay k r).length = r.length
  | [] => rfl
  | t :: s => by unfold lay; rw [List.length_cons, List.length_cons, lay_len k s]
theorem lay_cons (k : Nat) (t : T3) (s : List T3) : lay k (t :: s) = num k s (lay k s) t.2.1 t.2.2 :: lay k s := rfl
theorem layer_cons (j x : Int) (t : T3) (s : List T3) (ns : List Int) : layer j (t :: s) (x :: ns) = if x = j then t :: layer j s ns else layer j s ns := by
  unfold layer
  rw [List.zip_cons_cons, List.filter_cons]
  by_cases h : x = j
  · simp [h]
  · simp [h]
theorem fj_t {p : Nat → Prop} {lo : Nat} (m : Nat) (h : p lo) : fj p lo (m + 1) = (lo : Int) + 1 := by unfold fj; rw [if_pos h]
theorem fj_f {p : Nat → Prop} {lo : Nat} (m : Nat) (h : ¬ p lo) : fj p lo (m + 1) = fj p (lo + 1) m := by
  conv => lhs; unfold fj
  exact if_neg h
theorem fj_range (p : Nat → Prop) : ∀ (m lo : Nat), fj p lo m = 0 ∨ ((lo : Int) < fj p lo m ∧ fj p lo m ≤ (lo : Int) + m)
  | 0, _ => .inl rfl
  | m + 1, lo => by
    by_cases h : p lo
    · rw [fj_t m h]; exact .inr ⟨by omega, by omega⟩
    · rw [fj_f m h]
      rcases fj_range p m (lo + 1) with e | ⟨e1, e2⟩
      · exact .inl e
      · exact .inr ⟨by omega, by omega⟩
theorem num_range (k : Nat) (s : List T3) (ns : List Int) (a b : Int) : 0 ≤ num k s ns a b ∧ num k s ns a b ≤ k := by
  unfold num
  rcases fj_range (fun j => ¬ Conn (layer ((j : Int) + 1) s ns) a b) k 0 with e | ⟨e1, e2⟩
  · rw [e]; omega
  · omega
def lfr (a b : Int) : List (List Int) → Nat → Int
  | [], _ => 0
  | ms :: rows, lo => if gx ms a = gx ms b then lfr a b rows (lo + 1) else (lo : Int) + 1
theorem lfr_fj (p : Nat → Prop) : ∀ (rows : List (List Int)) (lo : Nat), (∀ i (h : i < rows.length), gx rows[i] a = gx rows[i] b ↔ ¬ p (lo + i)) → lfr a b rows lo = fj p lo rows.length
  | [], _, _ => rfl
  | ms :: rows, lo, h => by
    have h0 := h 0 (by rw [List.length_cons]; omega)
    have e := lfr_fj p rows (lo + 1) fun i hi => by
      have := h (i + 1) (by rw [List.length_cons]; omega)
      rw [List.getElem_cons_succ] at this
      rw [this, show lo + 1 + i = lo + (i + 1) by omega]
    rw [List.getElem_cons_zero, Nat.add_zero] at h0
    unfold lfr
    rw [List.length_cons]
    by_cases c : gx ms a = gx ms b
    · rw [if_pos c, fj_f _ (h0.mp c), e]
    · rw [if_neg c, fj_t _ (Classical.byContradiction fun z => c (h0.mpr z))]
structure RowsOk (n : Int) (k : Nat) (rows : List (List Int)) (s : List T3) : Prop where
  len : rows.length = k
  mkr : ∀ j (h : j < rows.length), MK n rows[j] (layer ((j : Int) + 1) s (lay k s))
theorem RowsOk.zero {k : Nat} : RowsOk n k (List.replicate k (pl n)) [] := ⟨List.length_replicate .., fun j h => by
  rw [List.getElem_replicate]
  exact MK.zero⟩
theorem RowsOk.num {k : Nat} {rows : List (List Int)} {s : List T3} (h : RowsOk n k rows s) (a0 : 0 ≤ a) (an : a < n) (b0 : 0 ≤ b) (bn : b < n) : lfr a b rows 0 = num k s (lay k s) a b := by
  rw [lfr_fj (fun j => ¬ Conn (layer ((j : Int) + 1) s (lay k s)) a b) rows 0 fun i hi => ?_, h.len]
  · rfl
  · rw [Nat.zero_add, Classical.not_not]
    exact (h.mkr i hi).ker a b a0 an b0 bn
theorem RowsOk.stay {k : Nat} {rows : List (List Int)} {s : List T3} (h : RowsOk n k rows s) (e : Lay.num k s (lay k s) t.2.1 t.2.2 = 0) : RowsOk n k rows (t :: s) := ⟨h.len, fun j hj => by
  rw [lay_cons, layer_cons, if_neg (by omega)]
  exact h.mkr j hj⟩
theorem RowsOk.put {k : Nat} {rows : List (List Int)} {s : List T3} (h : RowsOk n k rows s) (a0 : 0 ≤ t.2.1) (a1 : t.2.1 < n) (b0 : 0 ≤ t.2.2) (b1 : t.2.2 < n) {j : Nat} (hj : j < rows.length) (e : Lay.num k s (lay k s) t.2.1 t.2.2 = (j : Int) + 1) {x y : Int}
    (hxy : (x = gx rows[j] t.2.1 ∧ y = gx rows[j] t.2.2) ∨ (x = gx rows[j] t.2.2 ∧ y = gx rows[j] t.2.1)) : RowsOk n k (rows.set j (rows[j].map fun m => if m = x then y else m)) (t :: s) := ⟨by rw [List.length_set]; exact h.len, fun i hi => by
  rw [List.length_set] at hi
  rw [lay_cons, layer_cons, e]
  by_cases c : j = i
  · subst c
    rw [List.getElem_set_self, if_pos rfl]
    exact (h.mkr j hj).step a0 a1 b0 b1 hxy
  · rw [List.getElem_set_ne c, if_neg (by omega)]
    exact h.mkr i hi⟩
end
end Lay
end T_ConnP
section T_FamLP
set_option linter.all false
set_option maxRecDepth 100000
set_option maxHeartbeats 1000000
namespace FamL
open PySem Sim FamA Lay
def encI (ms : List Int) : Dt := .list (ms.map .int)
theorem hIx_gx {ms : List Int} {a : Int} (h0 : 0 ≤ a) (h1 : a.toNat < ms.length) : hIx (.list (ms.map .int)) (.int a) = .ok (.int (gx ms a)) := by
  rw [hIx_ints h0 (by omega)]
  unfold gx
  rw [List.getD_eq_getElem?_getD, List.getElem?_eq_getElem h1]
  rfl
theorem joined_ok {ms : List Int} {a b : Int} (a0 : 0 ≤ a) (a1 : a.toNat < ms.length) (b0 : 0 ≤ b) (b1 : b.toNat < ms.length) (hl : ms.length ≤ 1000) :
    ∃ x y, f_joined [encI ms, .int a, .int b] = .ok (encI (ms.map fun m => if m = x then y else m)) ∧ ((x = gx ms a ∧ y = gx ms b) ∨ (x = gx ms b ∧ y = gx ms a)) := by
  refine ⟨if gx ms b > gx ms a then gx ms b else gx ms a, if gx ms b < gx ms a then gx ms b else gx ms a, ?_, ?_⟩
  · refine fnL_rt ?_
    show g_joined [.list (ms.map .int), .int a, .int b, .none, .none, .none] = _
    unfold g_joined
    have i1 := hIx_gx a0 a1
    have i2 := hIx_gx b0 b1
    apply seq_step
    · simp (disch := first | omega | with_unfolding_all rfl | assumption | decide | (simp only [List.length_cons, List.length_nil]; omega)) only [bnd_ok, gVar_def, gC_def, gOp_def, gUn_def, gNil_def, gCons_def, gIf_def, gTest_def, gNot_def, gAnd_def, gOr_def, gAndV_def, gOrV_def, gNotV_def, gCB_def, asB_b, hAdd_i, hSub_i, hLt_i, hLe_i, hGt_i, hGe_i, hMul_r, hMul_l, hMod_i, hDiv_s, hBand_i, hShr_i, hPow_10_18, hPow_10_27, hPow_10_28, hPow_10_29, hPow_10_30, hEq_i, hNe_i, hLen_l, hLen_t, hMin2_i, hMax2_i, hMin3_i, hInt1_b, hInt1_i, hBits_i, hListOf_l, hListOf_t, hTupOf_l, hTupOf_t, gSeqS_def, gSet_def, gRet_def, gIfS_def, gNext_def, gTup_def, gLst_def, List.getElem?_cons_zero, List.getElem?_cons_succ, List.set_cons_zero, List.set_cons_succ, List.length_cons, List.length_nil, Nat.zero_add, Nat.reduceAdd, Nat.reduceLeDiff, Nat.reduceSub, Nat.reduceMul, if_true, if_false, Bool.false_eq_true, List.replicate_succ, List.replicate_zero, List.cons_append, List.nil_append, tgN, tgT, tgCons, tgNil, Int.reducePow, Int.reduceAdd, Int.reduceSub, Int.reduceMul, decide_true, decide_false, Bool.not_true, Bool.not_false, gChain_def, hIsa_int, hIsa_intb, hIsa_list, hIsa_tuple, gDrop_def, gCallN_def, gAsg_def, gSl_def, gNoPart_def, gPart_def, hSl_from', hSl_to', i1, i2]
      rfl
    apply seq_step
    · simp (disch := first | omega | with_unfolding_all rfl | assumption | decide | (simp only [List.length_cons, List.length_nil]; omega)) only [bnd_ok, gVar_def, gC_def, gOp_def, gUn_def, gNil_def, gCons_def, gIf_def, gTest_def, gNot_def, gAnd_def, gOr_def, gAndV_def, gOrV_def, gNotV_def, gCB_def, asB_b, hAdd_i, hSub_i, hLt_i, hLe_i, hGt_i, hGe_i, hMul_r, hMul_l, hMod_i, hDiv_s, hBand_i, hShr_i, hPow_10_18, hPow_10_27, hPow_10_28, hPow_10_29, hPow_10_30, hEq_i, hNe_i, hLen_l, hLen_t, hMin2_i, hMax2_i, hMin3_i, hInt1_b, hInt1_i, hBits_i, hListOf_l, hListOf_t, hTupOf_l, hTupOf_t, gSeqS_def, gSet_def, gRet_def, gIfS_def, gNext_def, gTup_def, gLst_def, List.getElem?_cons_zero, List.getElem?_cons_succ, List.set_cons_zero, List.set_cons_succ, List.length_cons, List.length_nil, Nat.zero_add, Nat.reduceAdd, Nat.reduceLeDiff, Nat.reduceSub, Nat.reduceMul, if_true, if_false, Bool.false_eq_true, List.replicate_succ, List.replicate_zero, List.cons_append, List.nil_append, tgN, tgT, tgCons, tgNil, Int.reducePow, Int.reduceAdd, Int.reduceSub, Int.reduceMul, decide_true, decide_false, Bool.not_true, Bool.not_false, gChain_def, hIsa_int, hIsa_intb, hIsa_list, hIsa_tuple, gDrop_def, gCallN_def, gAsg_def, gSl_def, gNoPart_def, gPart_def, hSl_from', hSl_to', i1, i2]
      rfl
    have h := gLc_map PyData.int (fun _ => true) (fun m => PyData.int (if m = (if gx ms b > gx ms a then gx ms b else gx ms a) then (if gx ms b < gx ms a then gx ms b else gx ms a) else m)) (gi := gSeq (gVar 0)) (h := tgN 5) (gt := gYes) (ge := gIf (gTest (gOp hEq (gVar 5) (gVar 4))) (gVar 3) (gVar 5))
      (ρ := [.list (ms.map .int), .int a, .int b, .int (if gx ms b < gx ms a then gx ms b else gx ms a), .int (if gx ms b > gx ms a then gx ms b else gx ms a), .none]) (xs := ms) rfl (by omega) (fun m _ => ⟨_, rfl, rfl, fun _ => by
        simp only [bnd_ok, gVar_def, gC_def, gOp_def, gUn_def, gNil_def, gCons_def, gIf_def, gTest_def, gNot_def, gAnd_def, gOr_def, gAndV_def, gOrV_def, gNotV_def, gCB_def, asB_b, hAdd_i, hSub_i, hLt_i, hLe_i, hGt_i, hGe_i, hMul_r, hMul_l, hMod_i, hDiv_s, hBand_i, hShr_i, hPow_10_18, hPow_10_27, hPow_10_28, hPow_10_29, hPow_10_30, hEq_i, hNe_i, hLen_l, hLen_t, hMin2_i, hMax2_i, hMin3_i, hInt1_b, hInt1_i, hBits_i, hListOf_l, hListOf_t, hTupOf_l, hTupOf_t, gSeqS_def, gSet_def, gRet_def, gIfS_def, gNext_def, gTup_def, gLst_def, List.getElem?_cons_zero, List.getElem?_cons_succ, List.set_cons_zero, List.set_cons_succ, List.length_cons, List.length_nil, Nat.zero_add, Nat.reduceAdd, Nat.reduceLeDiff, Nat.reduceSub, Nat.reduceMul, if_true, if_false, Bool.false_eq_true, List.replicate_succ, List.replicate_zero, List.cons_append, List.nil_append, tgN, tgT, tgCons, tgNil, Int.reducePow, Int.reduceAdd, Int.reduceSub, Int.reduceMul, decide_true, decide_false, Bool.not_true, Bool.not_false, gChain_def, hIsa_int, hIsa_intb, hIsa_list, hIsa_tuple, gDrop_def]
        by_cases c : m = (if gx ms b > gx ms a then gx ms b else gx ms a)
        · simp only [c, if_true, beq_self_eq_true]
        · simp only [c, if_false, beq_iff_eq]⟩)
    rw [List.filter_eq_self.mpr (fun _ _ => rfl)] at h
    have e : (ms.map fun m => PyData.int (if m = (if gx ms b > gx ms a then gx ms b else gx ms a) then (if gx ms b < gx ms a then gx ms b else gx ms a) else m)) = (ms.map fun m => if m = (if gx ms b > gx ms a then gx ms b else gx ms a) then (if gx ms b < gx ms a then gx ms b else gx ms a) else m).map PyData.int := by rw [List.map_map]; rfl
    simp only [gRet_def, gPurN_def, h, bnd_ok, pureIn, e, pureA_ints, if_true]
    rfl
  · by_cases c1 : gx ms b > gx ms a <;> by_cases c2 : gx ms b < gx ms a
    · omega
    · rw [if_pos c1, if_neg c2]; exact .inr ⟨rfl, rfl⟩
    · rw [if_neg c1, if_pos c2]; exact .inl ⟨rfl, rfl⟩
    · rw [if_neg c1, if_neg c2]; exact .inl ⟨rfl, by omega⟩
def encP (p : List Int × Nat) : Dt := .tuple [.int (p.2 : Nat), encI p.1]
theorem lf_loop {a b : Int} {m : Nat} (M : Dt) (a0 : 0 ≤ a) (a1 : a.toNat < m) (b0 : 0 ≤ b) (b1 : b.toNat < m) : ∀ (rows : List (List Int)) (lo : Nat) (x y : Dt), (∀ ms ∈ rows, ms.length = m) →
    (forE (tgT (tgCons (tgN 3) (tgCons (tgN 4) (tgNil)))) g_layer_for_L1 ((rows.zipIdx lo).map encP) [M, .int a, .int b, x, y] = .ok (.rt (.int (lfr a b rows lo)))) ∨
      ((∃ x' y', forE (tgT (tgCons (tgN 3) (tgCons (tgN 4) (tgNil)))) g_layer_for_L1 ((rows.zipIdx lo).map encP) [M, .int a, .int b, x, y] = .ok (.nx [M, .int a, .int b, x', y'])) ∧ lfr a b rows lo = 0)
  | [], lo, x, y, _ => .inr ⟨⟨x, y, rfl⟩, rfl⟩
  | ms :: rows, lo, x, y, h => by
    have l := h ms List.mem_cons_self
    have i1 := hIx_gx (ms := ms) a0 (by omega)
    have i2 := hIx_gx (ms := ms) b0 (by omega)
    have ih := lf_loop M a0 a1 b0 b1 rows (lo + 1) (.int lo) (encI ms) fun ms hm => h ms (List.mem_cons_of_mem _ hm)
    rw [List.zipIdx_cons, List.map_cons]
    unfold forE
    have e1 : tgT (tgCons (tgN 3) (tgCons (tgN 4) (tgNil))) (encP (ms, lo)) [M, .int a, .int b, x, y] = .ok [M, .int a, .int b, .int lo, .list (ms.map .int)] := rfl
    have e2 : g_layer_for_L1 [M, .int a, .int b, .int lo, .list (ms.map .int)] = if gx ms a = gx ms b then .ok (.nx [M, .int a, .int b, .int lo, .list (ms.map .int)]) else .ok (.rt (.int ((lo : Int) + 1))) := by
      unfold g_layer_for_L1
      simp only [bnd_ok, gVar_def, gC_def, gOp_def, gUn_def, gNil_def, gCons_def, gIf_def, gTest_def, gNot_def, gAnd_def, gOr_def, gAndV_def, gOrV_def, gNotV_def, gCB_def, asB_b, hAdd_i, hSub_i, hLt_i, hLe_i, hGt_i, hGe_i, hMul_r, hMul_l, hMod_i, hDiv_s, hBand_i, hShr_i, hPow_10_18, hPow_10_27, hPow_10_28, hPow_10_29, hPow_10_30, hEq_i, hNe_i, hLen_l, hLen_t, hMin2_i, hMax2_i, hMin3_i, hInt1_b, hInt1_i, hBits_i, hListOf_l, hListOf_t, hTupOf_l, hTupOf_t, gSeqS_def, gSet_def, gRet_def, gIfS_def, gNext_def, gTup_def, gLst_def, List.getElem?_cons_zero, List.getElem?_cons_succ, List.set_cons_zero, List.set_cons_succ, List.length_cons, List.length_nil, Nat.zero_add, Nat.reduceAdd, Nat.reduceLeDiff, Nat.reduceSub, Nat.reduceMul, if_true, if_false, Bool.false_eq_true, List.replicate_succ, List.replicate_zero, List.cons_append, List.nil_append, tgN, tgT, tgCons, tgNil, Int.reducePow, Int.reduceAdd, Int.reduceSub, Int.reduceMul, decide_true, decide_false, Bool.not_true, Bool.not_false, gChain_def, hIsa_int, hIsa_intb, hIsa_list, hIsa_tuple, gDrop_def, i1, i2]
      by_cases c : gx ms a = gx ms b
      · simp [c]
      · simp [c]
    rw [e1]
    simp only [e2]
    unfold lfr
    by_cases c : gx ms a = gx ms b
    · rw [if_pos c, if_pos c]
      exact ih
    · rw [if_neg c, if_neg c]
      exact .inl rfl
theorem layer_for_ok {a b : Int} {m : Nat} {rows : List (List Int)} (a0 : 0 ≤ a) (a1 : a.toNat < m) (b0 : 0 ≤ b) (b1 : b.toNat < m) (h : ∀ ms ∈ rows, ms.length = m) : f_layer_for [.list (rows.map encI), .int a, .int b] = .ok (.int (lfr a b rows 0)) := by
  refine fnN_rt ?_
  show g_layer_for [.list (rows.map encI), .int a, .int b, .none, .none] = _
  unfold g_layer_for
  have e : gEnum (gCons (gVar 0) (gNil)) [.list (rows.map encI), .int a, .int b, .none, .none] = .ok ((rows.zipIdx 0).map encP) := by
    refine (enum_ok (es := rows.map encI) (by rfl)).trans ?_
    rw [enumD_map]
    rfl
  rcases lf_loop (.list (rows.map encI)) a0 a1 b0 b1 rows 0 .none .none h with q | ⟨⟨x, y, q⟩, z⟩
  · exact seq_rt (for_ok e q)
  · rw [z]
    exact seq_step (for_ok e q) rfl
theorem look_ok {k : Int} (k1 : 1 ≤ k) (k6 : k ≤ 6) : f_look_at_layers [.int k] = .ok .none := by
  have e1 : f_is_whole [.int k] = .ok (.bool true) := rfl
  have e2 : f_is_depth [.int k] = .ok (.bool true) := by
    refine fnN_rt ?_
    show g_is_depth [.int k] = _
    unfold g_is_depth
    simp only [bnd_ok, gVar_def, gC_def, gOp_def, gUn_def, gNil_def, gCons_def, gIf_def, gTest_def, gNot_def, gAnd_def, gOr_def, gAndV_def, gOrV_def, gNotV_def, gCB_def, asB_b, hAdd_i, hSub_i, hLt_i, hLe_i, hGt_i, hGe_i, hMul_r, hMul_l, hMod_i, hDiv_s, hBand_i, hShr_i, hPow_10_18, hPow_10_27, hPow_10_28, hPow_10_29, hPow_10_30, hEq_i, hNe_i, hLen_l, hLen_t, hMin2_i, hMax2_i, hMin3_i, hInt1_b, hInt1_i, hBits_i, hListOf_l, hListOf_t, hTupOf_l, hTupOf_t, gSeqS_def, gSet_def, gRet_def, gIfS_def, gNext_def, gTup_def, gLst_def, List.getElem?_cons_zero, List.getElem?_cons_succ, List.set_cons_zero, List.set_cons_succ, List.length_cons, List.length_nil, Nat.zero_add, Nat.reduceAdd, Nat.reduceLeDiff, Nat.reduceSub, Nat.reduceMul, if_true, if_false, Bool.false_eq_true, List.replicate_succ, List.replicate_zero, List.cons_append, List.nil_append, tgN, tgT, tgCons, tgNil, Int.reducePow, Int.reduceAdd, Int.reduceSub, Int.reduceMul, decide_true, decide_false, Bool.not_true, Bool.not_false, gChain_def, hIsa_int, hIsa_intb, hIsa_list, hIsa_tuple, gDrop_def, gCallN_def, gAsg_def, gSl_def, gNoPart_def, gPart_def, hSl_from', hSl_to', e1, k1, k6]
  refine fnN_nx (ρ := [.int k]) ?_
  show g_look_at_layers [.int k] = _
  unfold g_look_at_layers
  simp only [bnd_ok, gVar_def, gC_def, gOp_def, gUn_def, gNil_def, gCons_def, gIf_def, gTest_def, gNot_def, gAnd_def, gOr_def, gAndV_def, gOrV_def, gNotV_def, gCB_def, asB_b, hAdd_i, hSub_i, hLt_i, hLe_i, hGt_i, hGe_i, hMul_r, hMul_l, hMod_i, hDiv_s, hBand_i, hShr_i, hPow_10_18, hPow_10_27, hPow_10_28, hPow_10_29, hPow_10_30, hEq_i, hNe_i, hLen_l, hLen_t, hMin2_i, hMax2_i, hMin3_i, hInt1_b, hInt1_i, hBits_i, hListOf_l, hListOf_t, hTupOf_l, hTupOf_t, gSeqS_def, gSet_def, gRet_def, gIfS_def, gNext_def, gTup_def, gLst_def, List.getElem?_cons_zero, List.getElem?_cons_succ, List.set_cons_zero, List.set_cons_succ, List.length_cons, List.length_nil, Nat.zero_add, Nat.reduceAdd, Nat.reduceLeDiff, Nat.reduceSub, Nat.reduceMul, if_true, if_false, Bool.false_eq_true, List.replicate_succ, List.replicate_zero, List.cons_append, List.nil_append, tgN, tgT, tgCons, tgNil, Int.reducePow, Int.reduceAdd, Int.reduceSub, Int.reduceMul, decide_true, decide_false, Bool.not_true, Bool.not_false, gChain_def, hIsa_int, hIsa_intb, hIsa_list, hIsa_tuple, gDrop_def, gCallN_def, gAsg_def, gSl_def, gNoPart_def, gPart_def, hSl_from', hSl_to', e2]
def InN (n : Int) (r : List T3) : Prop := ∀ t ∈ r, (0 ≤ t.2.1 ∧ t.2.1 < n) ∧ 0 ≤ t.2.2 ∧ t.2.2 < n
theorem set_map_enc (rows : List (List Int)) (j : Nat) (ms : List Int) : (rows.map encI).set j (encI ms) = (rows.set j ms).map encI := (List.map_set ..).symm
theorem layered_ok {n : Int} {k : Nat} {r : List T3} (hr : InN n r) (hl : r.length ≤ 1000) (n1 : 1 ≤ n) (n10 : n ≤ 10) (k1 : 1 ≤ k) (k6 : k ≤ 6) :
    f_layered [.int n, .list (r.map enc3), .int (k : Nat)] = .ok (.list ((lay k r).map .int)) := by
  refine fnL_rt ?_
  show g_layered [.int n, .list (r.map enc3), .int (k : Nat), .none, .none, .none, .none, .none, .none] = _
  unfold g_layered
  have hlook := look_ok (k := k) (by omega) (by omega)
  have rg : ∀ x, gLsI (gRng1 (gCons (gVar 0) gNil)) [.int n, .list (r.map enc3), .int (k : Nat), .none, .int x, .none, .none, .none, .none] = .ok (encI (pl n)) := fun x => by
    rw [lsI_ok (ds := (pl n).map .int) (by rw [rng1_ok (show gCons (gVar 0) gNil _ = .ok [.int n] from rfl) (by omega) (by omega), rangeD_pl]) (by rw [List.length_map, pl_len]; omega)]
    rfl
  have hrows : gLc (gRng1 (gCons (gVar 2) (gNil))) (tgN 4) (gYes) (gLsI (gRng1 (gCons (gVar 0) gNil))) [.int n, .list (r.map enc3), .int (k : Nat), .none, .none, .none, .none, .none, .none] = .ok (.list ((List.replicate k (pl n)).map encI)) := by
    rw [gLc_map PyData.int (fun _ => true) (fun _ => encI (pl n)) (xs := pl k) (by rw [rng1_ok (show gCons (gVar 2) gNil _ = .ok [.int (k : Nat)] from rfl) (by omega) (by omega), rangeD_pl]) (by rw [pl_len]; omega) fun x _ => ⟨_, rfl, rfl, fun _ => rg x⟩]
    rw [List.filter_eq_self.mpr (fun _ _ => rfl), List.map_const', pl_len, List.map_replicate]
    rfl
  apply seq_step
  · simp (disch := first | omega | with_unfolding_all rfl | assumption | decide | (simp only [List.length_cons, List.length_nil]; omega)) only [bnd_ok, gVar_def, gC_def, gOp_def, gUn_def, gNil_def, gCons_def, gIf_def, gTest_def, gNot_def, gAnd_def, gOr_def, gAndV_def, gOrV_def, gNotV_def, gCB_def, asB_b, hAdd_i, hSub_i, hLt_i, hLe_i, hGt_i, hGe_i, hMul_r, hMul_l, hMod_i, hDiv_s, hBand_i, hShr_i, hPow_10_18, hPow_10_27, hPow_10_28, hPow_10_29, hPow_10_30, hEq_i, hNe_i, hLen_l, hLen_t, hMin2_i, hMax2_i, hMin3_i, hInt1_b, hInt1_i, hBits_i, hListOf_l, hListOf_t, hTupOf_l, hTupOf_t, gSeqS_def, gSet_def, gRet_def, gIfS_def, gNext_def, gTup_def, gLst_def, List.getElem?_cons_zero, List.getElem?_cons_succ, List.set_cons_zero, List.set_cons_succ, List.length_cons, List.length_nil, Nat.zero_add, Nat.reduceAdd, Nat.reduceLeDiff, Nat.reduceSub, Nat.reduceMul, if_true, if_false, Bool.false_eq_true, List.replicate_succ, List.replicate_zero, List.cons_append, List.nil_append, tgN, tgT, tgCons, tgNil, Int.reducePow, Int.reduceAdd, Int.reduceSub, Int.reduceMul, decide_true, decide_false, Bool.not_true, Bool.not_false, gChain_def, hIsa_int, hIsa_intb, hIsa_list, hIsa_tuple, gDrop_def, gCallN_def, gAsg_def, gSl_def, gNoPart_def, gPart_def, hSl_from', hSl_to', hlook]
    rfl
  apply seq_step
  · simp (disch := first | omega | with_unfolding_all rfl | assumption | decide | (simp only [List.length_cons, List.length_nil]; omega)) only [bnd_ok, gVar_def, gC_def, gOp_def, gUn_def, gNil_def, gCons_def, gIf_def, gTest_def, gNot_def, gAnd_def, gOr_def, gAndV_def, gOrV_def, gNotV_def, gCB_def, asB_b, hAdd_i, hSub_i, hLt_i, hLe_i, hGt_i, hGe_i, hMul_r, hMul_l, hMod_i, hDiv_s, hBand_i, hShr_i, hPow_10_18, hPow_10_27, hPow_10_28, hPow_10_29, hPow_10_30, hEq_i, hNe_i, hLen_l, hLen_t, hMin2_i, hMax2_i, hMin3_i, hInt1_b, hInt1_i, hBits_i, hListOf_l, hListOf_t, hTupOf_l, hTupOf_t, gSeqS_def, gSet_def, gRet_def, gIfS_def, gNext_def, gTup_def, gLst_def, List.getElem?_cons_zero, List.getElem?_cons_succ, List.set_cons_zero, List.set_cons_succ, List.length_cons, List.length_nil, Nat.zero_add, Nat.reduceAdd, Nat.reduceLeDiff, Nat.reduceSub, Nat.reduceMul, if_true, if_false, Bool.false_eq_true, List.replicate_succ, List.replicate_zero, List.cons_append, List.nil_append, tgN, tgT, tgCons, tgNil, Int.reducePow, Int.reduceAdd, Int.reduceSub, Int.reduceMul, decide_true, decide_false, Bool.not_true, Bool.not_false, gChain_def, hIsa_int, hIsa_intb, hIsa_list, hIsa_tuple, gDrop_def, gCallN_def, gAsg_def, gSl_def, gNoPart_def, gPart_def, hSl_from', hSl_to', hrows]
    rfl
  apply seq_step
  · simp (disch := first | omega | with_unfolding_all rfl | assumption | decide | (simp only [List.length_cons, List.length_nil]; omega)) only [bnd_ok, gVar_def, gC_def, gOp_def, gUn_def, gNil_def, gCons_def, gIf_def, gTest_def, gNot_def, gAnd_def, gOr_def, gAndV_def, gOrV_def, gNotV_def, gCB_def, asB_b, hAdd_i, hSub_i, hLt_i, hLe_i, hGt_i, hGe_i, hMul_r, hMul_l, hMod_i, hDiv_s, hBand_i, hShr_i, hPow_10_18, hPow_10_27, hPow_10_28, hPow_10_29, hPow_10_30, hEq_i, hNe_i, hLen_l, hLen_t, hMin2_i, hMax2_i, hMin3_i, hInt1_b, hInt1_i, hBits_i, hListOf_l, hListOf_t, hTupOf_l, hTupOf_t, gSeqS_def, gSet_def, gRet_def, gIfS_def, gNext_def, gTup_def, gLst_def, List.getElem?_cons_zero, List.getElem?_cons_succ, List.set_cons_zero, List.set_cons_succ, List.length_cons, List.length_nil, Nat.zero_add, Nat.reduceAdd, Nat.reduceLeDiff, Nat.reduceSub, Nat.reduceMul, if_true, if_false, Bool.false_eq_true, List.replicate_succ, List.replicate_zero, List.cons_append, List.nil_append, tgN, tgT, tgCons, tgNil, Int.reducePow, Int.reduceAdd, Int.reduceSub, Int.reduceMul, decide_true, decide_false, Bool.not_true, Bool.not_false, gChain_def, hIsa_int, hIsa_intb, hIsa_list, hIsa_tuple, gDrop_def, gCallN_def, gAsg_def, gSl_def, gNoPart_def, gPart_def, hSl_from', hSl_to', Nat.zero_le]
    rfl
  obtain ⟨ρ', hf, rows, x4, x6, x7, x8, rfl, hR⟩ := forE_ix enc3 (h := tgT (tgCons (tgN 6) (tgCons (tgN 7) (tgCons (tgN 8) (tgNil))))) (b := g_layered_L1) r.reverse
    (fun i ρ => ∃ rows x4 x6 x7 x8, ρ = [.int n, .list (r.map enc3), .int (k : Nat), .list (rows.map encI), x4, .list ((lay k (r.reverse.take i).reverse).reverse.map .int), x6, x7, x8] ∧ RowsOk n k rows (r.reverse.take i).reverse)
    (ρ := [.int n, .list (r.map enc3), .int (k : Nat), .list ((List.replicate k (pl n)).map encI), .none, .list [], .none, .none, .none]) ⟨_, _, _, _, _, rfl, RowsOk.zero⟩ (by
      rintro i ρ hi ⟨rows, x4, x6, x7, x8, rfl, hR⟩
      have ht := hr r.reverse[i] (List.mem_reverse.mp (List.getElem_mem hi))
      have es : (r.reverse.take (i + 1)).reverse = r.reverse[i] :: (r.reverse.take i).reverse := by
        rw [List.take_add_one, List.getElem?_eq_getElem hi, List.reverse_append]
        rfl
      rw [es, lay_cons]
      generalize hs : (r.reverse.take i).reverse = s at *
      have ls : s.length = i := by rw [← hs, List.length_reverse, List.length_take]; omega
      generalize r.reverse[i] = t at *
      obtain ⟨⟨a0, a1⟩, b0, b1⟩ := ht
      have hm : ∀ ms ∈ rows, ms.length = n.toNat := fun ms h => by
        obtain ⟨j, hj, e⟩ := List.getElem_of_mem h
        rw [← e]
        exact (hR.mkr j hj).len
      have e4 := layer_for_ok (rows := rows) a0 (by omega : t.2.1.toNat < n.toNat) b0 (by omega : t.2.2.toNat < n.toNat) hm
      have e5 := hR.num a0 a1 b0 b1
      rw [e5] at e4
      obtain ⟨c0, c1⟩ := num_range k s (lay k s) t.2.1 t.2.2
      have lrev : ((lay k s).reverse.map PyData.int).length < 100000 := by
        rw [List.length_map, List.length_reverse, lay_len]
        rw [List.length_reverse] at hi
        omega
      have eapp : ∀ x : Int, (lay k s).reverse.map PyData.int ++ [.int x] = (x :: lay k s).reverse.map PyData.int := fun x => by rw [List.reverse_cons, List.map_append]; rfl
      have etg : tgT (tgCons (tgN 6) (tgCons (tgN 7) (tgCons (tgN 8) (tgNil)))) (enc3 t) [.int n, .list (r.map enc3), .int (k : Nat), .list (rows.map encI), x4, .list ((lay k s).reverse.map .int), x6, x7, x8] = .ok [.int n, .list (r.map enc3), .int (k : Nat), .list (rows.map encI), x4, .list ((lay k s).reverse.map .int), .int t.1, .int t.2.1, .int t.2.2] := rfl
      by_cases c : num k s (lay k s) t.2.1 t.2.2 = 0
      · refine ⟨_, _, etg, .inl ?_, rows, .int 0, .int t.1, .int t.2.1, .int t.2.2, rfl, hR.stay c⟩
        unfold g_layered_L1
        rw [c] at e4 ⊢
        apply seq_step
        · simp (disch := first | omega | with_unfolding_all rfl | assumption | decide | (simp only [List.length_cons, List.length_nil]; omega)) only [bnd_ok, gVar_def, gC_def, gOp_def, gUn_def, gNil_def, gCons_def, gIf_def, gTest_def, gNot_def, gAnd_def, gOr_def, gAndV_def, gOrV_def, gNotV_def, gCB_def, asB_b, hAdd_i, hSub_i, hLt_i, hLe_i, hGt_i, hGe_i, hMul_r, hMul_l, hMod_i, hDiv_s, hBand_i, hShr_i, hPow_10_18, hPow_10_27, hPow_10_28, hPow_10_29, hPow_10_30, hEq_i, hNe_i, hLen_l, hLen_t, hMin2_i, hMax2_i, hMin3_i, hInt1_b, hInt1_i, hBits_i, hListOf_l, hListOf_t, hTupOf_l, hTupOf_t, gSeqS_def, gSet_def, gRet_def, gIfS_def, gNext_def, gTup_def, gLst_def, List.getElem?_cons_zero, List.getElem?_cons_succ, List.set_cons_zero, List.set_cons_succ, List.length_cons, List.length_nil, Nat.zero_add, Nat.reduceAdd, Nat.reduceLeDiff, Nat.reduceSub, Nat.reduceMul, if_true, if_false, Bool.false_eq_true, List.replicate_succ, List.replicate_zero, List.cons_append, List.nil_append, tgN, tgT, tgCons, tgNil, Int.reducePow, Int.reduceAdd, Int.reduceSub, Int.reduceMul, decide_true, decide_false, Bool.not_true, Bool.not_false, gChain_def, hIsa_int, hIsa_intb, hIsa_list, hIsa_tuple, gDrop_def, gCallN_def, gAsg_def, gSl_def, gNoPart_def, gPart_def, hSl_from', hSl_to', e4]
          rfl
        apply seq_step
        · simp (disch := first | omega | with_unfolding_all rfl | assumption | decide | (simp only [List.length_cons, List.length_nil]; omega)) only [bnd_ok, gVar_def, gC_def, gOp_def, gUn_def, gNil_def, gCons_def, gIf_def, gTest_def, gNot_def, gAnd_def, gOr_def, gAndV_def, gOrV_def, gNotV_def, gCB_def, asB_b, hAdd_i, hSub_i, hLt_i, hLe_i, hGt_i, hGe_i, hMul_r, hMul_l, hMod_i, hDiv_s, hBand_i, hShr_i, hPow_10_18, hPow_10_27, hPow_10_28, hPow_10_29, hPow_10_30, hEq_i, hNe_i, hLen_l, hLen_t, hMin2_i, hMax2_i, hMin3_i, hInt1_b, hInt1_i, hBits_i, hListOf_l, hListOf_t, hTupOf_l, hTupOf_t, gSeqS_def, gSet_def, gRet_def, gIfS_def, gNext_def, gTup_def, gLst_def, List.getElem?_cons_zero, List.getElem?_cons_succ, List.set_cons_zero, List.set_cons_succ, List.length_cons, List.length_nil, Nat.zero_add, Nat.reduceAdd, Nat.reduceLeDiff, Nat.reduceSub, Nat.reduceMul, if_true, if_false, Bool.false_eq_true, List.replicate_succ, List.replicate_zero, List.cons_append, List.nil_append, tgN, tgT, tgCons, tgNil, Int.reducePow, Int.reduceAdd, Int.reduceSub, Int.reduceMul, decide_true, decide_false, Bool.not_true, Bool.not_false, gChain_def, hIsa_int, hIsa_intb, hIsa_list, hIsa_tuple, gDrop_def, gCallN_def, gAsg_def, gSl_def, gNoPart_def, gPart_def, hSl_from', hSl_to', Int.lt_irrefl]
          rfl
        rw [gApp_l rfl rfl lrev, eapp]
        rfl
      · obtain ⟨j, ej⟩ : ∃ j : Nat, num k s (lay k s) t.2.1 t.2.2 = (j : Int) + 1 := ⟨(num k s (lay k s) t.2.1 t.2.2 - 1).toNat, by omega⟩
        have hj : j < rows.length := by rw [hR.len]; omega
        have lj := (hR.mkr j hj).len
        obtain ⟨x, y, hj1, hj2⟩ := joined_ok (ms := rows[j]) a0 (by omega : t.2.1.toNat < rows[j].length) b0 (by omega) (by omega)
        refine ⟨_, _, etg, .inl ?_, _, .int ((j : Int) + 1), .int t.1, .int t.2.1, .int t.2.2, rfl, hR.put a0 a1 b0 b1 hj ej hj2⟩
        unfold g_layered_L1
        rw [ej] at e4 ⊢
        have p1 : (0 : Int) < (j : Int) + 1 := by omega
        have es : (j : Int) + 1 - 1 = (j : Int) := by omega
        have eix : hIx (.list (rows.map encI)) (.int (j : Int)) = .ok (encI rows[j]) := hIx_l (by rw [atI_map _ (by omega) (by omega)]; rfl)
        apply seq_step
        · simp (disch := first | omega | with_unfolding_all rfl | assumption | decide | (simp only [List.length_cons, List.length_nil]; omega)) only [bnd_ok, gVar_def, gC_def, gOp_def, gUn_def, gNil_def, gCons_def, gIf_def, gTest_def, gNot_def, gAnd_def, gOr_def, gAndV_def, gOrV_def, gNotV_def, gCB_def, asB_b, hAdd_i, hSub_i, hLt_i, hLe_i, hGt_i, hGe_i, hMul_r, hMul_l, hMod_i, hDiv_s, hBand_i, hShr_i, hPow_10_18, hPow_10_27, hPow_10_28, hPow_10_29, hPow_10_30, hEq_i, hNe_i, hLen_l, hLen_t, hMin2_i, hMax2_i, hMin3_i, hInt1_b, hInt1_i, hBits_i, hListOf_l, hListOf_t, hTupOf_l, hTupOf_t, gSeqS_def, gSet_def, gRet_def, gIfS_def, gNext_def, gTup_def, gLst_def, List.getElem?_cons_zero, List.getElem?_cons_succ, List.set_cons_zero, List.set_cons_succ, List.length_cons, List.length_nil, Nat.zero_add, Nat.reduceAdd, Nat.reduceLeDiff, Nat.reduceSub, Nat.reduceMul, if_true, if_false, Bool.false_eq_true, List.replicate_succ, List.replicate_zero, List.cons_append, List.nil_append, tgN, tgT, tgCons, tgNil, Int.reducePow, Int.reduceAdd, Int.reduceSub, Int.reduceMul, decide_true, decide_false, Bool.not_true, Bool.not_false, gChain_def, hIsa_int, hIsa_intb, hIsa_list, hIsa_tuple, gDrop_def, gCallN_def, gAsg_def, gSl_def, gNoPart_def, gPart_def, hSl_from', hSl_to', e4]
          rfl
        apply seq_step
        · rw [if_t (by simp only [bnd_ok, gVar_def, gC_def, gOp_def, gUn_def, gNil_def, gCons_def, gIf_def, gTest_def, gNot_def, gAnd_def, gOr_def, gAndV_def, gOrV_def, gNotV_def, gCB_def, asB_b, hAdd_i, hSub_i, hLt_i, hLe_i, hGt_i, hGe_i, hMul_r, hMul_l, hMod_i, hDiv_s, hBand_i, hShr_i, hPow_10_18, hPow_10_27, hPow_10_28, hPow_10_29, hPow_10_30, hEq_i, hNe_i, hLen_l, hLen_t, hMin2_i, hMax2_i, hMin3_i, hInt1_b, hInt1_i, hBits_i, hListOf_l, hListOf_t, hTupOf_l, hTupOf_t, gSeqS_def, gSet_def, gRet_def, gIfS_def, gNext_def, gTup_def, gLst_def, List.getElem?_cons_zero, List.getElem?_cons_succ, List.set_cons_zero, List.set_cons_succ, List.length_cons, List.length_nil, Nat.zero_add, Nat.reduceAdd, Nat.reduceLeDiff, Nat.reduceSub, Nat.reduceMul, if_true, if_false, Bool.false_eq_true, List.replicate_succ, List.replicate_zero, List.cons_append, List.nil_append, tgN, tgT, tgCons, tgNil, Int.reducePow, Int.reduceAdd, Int.reduceSub, Int.reduceMul, decide_true, decide_false, Bool.not_true, Bool.not_false, gChain_def, hIsa_int, hIsa_intb, hIsa_list, hIsa_tuple, gDrop_def, p1])]
          refine setI_ok (ds := rows.map encI) (d := encI (rows[j].map fun m => if m = x then y else m)) (j := (j : Int)) ?_ rfl ?_ (by omega) (by rw [List.length_map]; omega)
          · simp only [bnd_ok, gVar_def, gC_def, gOp_def, gUn_def, gNil_def, gCons_def, gIf_def, gTest_def, gNot_def, gAnd_def, gOr_def, gAndV_def, gOrV_def, gNotV_def, gCB_def, asB_b, hAdd_i, hSub_i, hLt_i, hLe_i, hGt_i, hGe_i, hMul_r, hMul_l, hMod_i, hDiv_s, hBand_i, hShr_i, hPow_10_18, hPow_10_27, hPow_10_28, hPow_10_29, hPow_10_30, hEq_i, hNe_i, hLen_l, hLen_t, hMin2_i, hMax2_i, hMin3_i, hInt1_b, hInt1_i, hBits_i, hListOf_l, hListOf_t, hTupOf_l, hTupOf_t, gSeqS_def, gSet_def, gRet_def, gIfS_def, gNext_def, gTup_def, gLst_def, List.getElem?_cons_zero, List.getElem?_cons_succ, List.set_cons_zero, List.set_cons_succ, List.length_cons, List.length_nil, Nat.zero_add, Nat.reduceAdd, Nat.reduceLeDiff, Nat.reduceSub, Nat.reduceMul, if_true, if_false, Bool.false_eq_true, List.replicate_succ, List.replicate_zero, List.cons_append, List.nil_append, tgN, tgT, tgCons, tgNil, Int.reducePow, Int.reduceAdd, Int.reduceSub, Int.reduceMul, decide_true, decide_false, Bool.not_true, Bool.not_false, gChain_def, hIsa_int, hIsa_intb, hIsa_list, hIsa_tuple, gDrop_def, gCallN_def, gAsg_def, gSl_def, gNoPart_def, gPart_def, hSl_from', hSl_to', es, eix, hj1]
          · simp only [bnd_ok, gVar_def, gC_def, gOp_def, gUn_def, gNil_def, gCons_def, gIf_def, gTest_def, gNot_def, gAnd_def, gOr_def, gAndV_def, gOrV_def, gNotV_def, gCB_def, asB_b, hAdd_i, hSub_i, hLt_i, hLe_i, hGt_i, hGe_i, hMul_r, hMul_l, hMod_i, hDiv_s, hBand_i, hShr_i, hPow_10_18, hPow_10_27, hPow_10_28, hPow_10_29, hPow_10_30, hEq_i, hNe_i, hLen_l, hLen_t, hMin2_i, hMax2_i, hMin3_i, hInt1_b, hInt1_i, hBits_i, hListOf_l, hListOf_t, hTupOf_l, hTupOf_t, gSeqS_def, gSet_def, gRet_def, gIfS_def, gNext_def, gTup_def, gLst_def, List.getElem?_cons_zero, List.getElem?_cons_succ, List.set_cons_zero, List.set_cons_succ, List.length_cons, List.length_nil, Nat.zero_add, Nat.reduceAdd, Nat.reduceLeDiff, Nat.reduceSub, Nat.reduceMul, if_true, if_false, Bool.false_eq_true, List.replicate_succ, List.replicate_zero, List.cons_append, List.nil_append, tgN, tgT, tgCons, tgNil, Int.reducePow, Int.reduceAdd, Int.reduceSub, Int.reduceMul, decide_true, decide_false, Bool.not_true, Bool.not_false, gChain_def, hIsa_int, hIsa_intb, hIsa_list, hIsa_tuple, gDrop_def, es]
        · rw [Int.toNat_natCast, set_map_enc]
          simp only [bnd_ok, gVar_def, gC_def, gOp_def, gUn_def, gNil_def, gCons_def, gIf_def, gTest_def, gNot_def, gAnd_def, gOr_def, gAndV_def, gOrV_def, gNotV_def, gCB_def, asB_b, hAdd_i, hSub_i, hLt_i, hLe_i, hGt_i, hGe_i, hMul_r, hMul_l, hMod_i, hDiv_s, hBand_i, hShr_i, hPow_10_18, hPow_10_27, hPow_10_28, hPow_10_29, hPow_10_30, hEq_i, hNe_i, hLen_l, hLen_t, hMin2_i, hMax2_i, hMin3_i, hInt1_b, hInt1_i, hBits_i, hListOf_l, hListOf_t, hTupOf_l, hTupOf_t, gSeqS_def, gSet_def, gRet_def, gIfS_def, gNext_def, gTup_def, gLst_def, List.getElem?_cons_zero, List.getElem?_cons_succ, List.set_cons_zero, List.set_cons_succ, List.length_cons, List.length_nil, Nat.zero_add, Nat.reduceAdd, Nat.reduceLeDiff, Nat.reduceSub, Nat.reduceMul, if_true, if_false, Bool.false_eq_true, List.replicate_succ, List.replicate_zero, List.cons_append, List.nil_append, tgN, tgT, tgCons, tgNil, Int.reducePow, Int.reduceAdd, Int.reduceSub, Int.reduceMul, decide_true, decide_false, Bool.not_true, Bool.not_false, gChain_def, hIsa_int, hIsa_intb, hIsa_list, hIsa_tuple, gDrop_def]
          rw [gApp_l rfl rfl lrev, eapp]
          rfl)
  refine seq_step (for_ok (ds := r.reverse.map enc3) ?_ hf) ?_
  · refine (rev_ok (es := r.map enc3) (by rfl)).trans ?_
    rw [List.map_reverse]
  · rw [List.take_length, List.reverse_reverse] 
    refine ret_ok ?_
    refine (lsI_ok (rev_ok (es := (lay k r).reverse.map .int) (by rfl)) (by rw [List.length_reverse, List.length_map, List.length_reverse, lay_len]; omega)).trans ?_
    rw [← List.map_reverse, List.reverse_reverse]
theorem depth_ok {x : Int} (h0 : 0 ≤ x) : ∃ k : Nat, f_l_depth [.int x] = .ok (.int (k : Nat)) ∧ 1 ≤ k ∧ k ≤ 6 := by
  have h : f_l_depth [.int x] = .ok (.int (if x % 8 = 1 then 1 + x / 32 % 6 else 1 + x % 4)) := by
    refine fnN_rt ?_
    show g_l_depth [.int x] = _
    unfold g_l_depth
    by_cases c : x % 8 = 1
    · have e : (x % 8 == 1) = true := by simp [c]
      have e2 : hIx (.list [.int (1 + x % 4), .int (1 + x / 32 % 6)]) (.int 1) = .ok (.int (1 + x / 32 % 6)) := rfl
      rw [if_pos c]
      simp (disch := first | omega | decide) only [bnd_ok, gVar_def, gC_def, gOp_def, gUn_def, gNil_def, gCons_def, gIf_def, gTest_def, gNot_def, gAnd_def, gOr_def, gAndV_def, gOrV_def, gNotV_def, gCB_def, asB_b, hAdd_i, hSub_i, hLt_i, hLe_i, hGt_i, hGe_i, hMul_r, hMul_l, hMod_i, hDiv_s, hBand_i, hShr_i, hPow_10_18, hPow_10_27, hPow_10_28, hPow_10_29, hPow_10_30, hEq_i, hNe_i, hLen_l, hLen_t, hMin2_i, hMax2_i, hMin3_i, hInt1_b, hInt1_i, hBits_i, hListOf_l, hListOf_t, hTupOf_l, hTupOf_t, gSeqS_def, gSet_def, gRet_def, gIfS_def, gNext_def, gTup_def, gLst_def, List.getElem?_cons_zero, List.getElem?_cons_succ, List.set_cons_zero, List.set_cons_succ, List.length_cons, List.length_nil, Nat.zero_add, Nat.reduceAdd, Nat.reduceLeDiff, Nat.reduceSub, Nat.reduceMul, if_true, if_false, Bool.false_eq_true, List.replicate_succ, List.replicate_zero, List.cons_append, List.nil_append, tgN, tgT, tgCons, tgNil, Int.reducePow, Int.reduceAdd, Int.reduceSub, Int.reduceMul, decide_true, decide_false, Bool.not_true, Bool.not_false, gChain_def, hIsa_int, hIsa_intb, hIsa_list, hIsa_tuple, gDrop_def, e, e2]
    · have e : (x % 8 == 1) = false := by simp [c]
      have e2 : hIx (.list [.int (1 + x % 4), .int (1 + x / 32 % 6)]) (.int 0) = .ok (.int (1 + x % 4)) := rfl
      rw [if_neg c]
      simp (disch := first | omega | decide) only [bnd_ok, gVar_def, gC_def, gOp_def, gUn_def, gNil_def, gCons_def, gIf_def, gTest_def, gNot_def, gAnd_def, gOr_def, gAndV_def, gOrV_def, gNotV_def, gCB_def, asB_b, hAdd_i, hSub_i, hLt_i, hLe_i, hGt_i, hGe_i, hMul_r, hMul_l, hMod_i, hDiv_s, hBand_i, hShr_i, hPow_10_18, hPow_10_27, hPow_10_28, hPow_10_29, hPow_10_30, hEq_i, hNe_i, hLen_l, hLen_t, hMin2_i, hMax2_i, hMin3_i, hInt1_b, hInt1_i, hBits_i, hListOf_l, hListOf_t, hTupOf_l, hTupOf_t, gSeqS_def, gSet_def, gRet_def, gIfS_def, gNext_def, gTup_def, gLst_def, List.getElem?_cons_zero, List.getElem?_cons_succ, List.set_cons_zero, List.set_cons_succ, List.length_cons, List.length_nil, Nat.zero_add, Nat.reduceAdd, Nat.reduceLeDiff, Nat.reduceSub, Nat.reduceMul, if_true, if_false, Bool.false_eq_true, List.replicate_succ, List.replicate_zero, List.cons_append, List.nil_append, tgN, tgT, tgCons, tgNil, Int.reducePow, Int.reduceAdd, Int.reduceSub, Int.reduceMul, decide_true, decide_false, Bool.not_true, Bool.not_false, gChain_def, hIsa_int, hIsa_intb, hIsa_list, hIsa_tuple, gDrop_def, e, e2]
  refine ⟨(if x % 8 = 1 then 1 + x / 32 % 6 else 1 + x % 4).toNat, ?_, ?_, ?_⟩
  · rw [h]
    congr 2
    split <;> omega
  · split <;> omega
  · split <;> omega
end FamL
end T_FamLP
section T_K10M
set_option linter.all false
set_option maxRecDepth 100000
namespace K10
open PySem Sim FamA FamL Lay
def kp (r : List T3) (ns : List Int) : List T3 := ((r.zip ns).filter fun q => decide (0 < q.2)).map (·.1)
inductive Frst : List T3 → Prop
  | nil : Frst []
  | cons {t : T3} {ts : List T3} : ¬ Conn ts t.2.1 t.2.2 → Frst ts → Frst (t :: ts)
theorem cut {P : Int → Int} {ts : List T3} {a b : Int} (h : Conn ts a b) (hab : P a ≠ P b) : ∃ w ∈ ts, P w.2.1 ≠ P w.2.2 := by
  induction h with
  | refl => exact absurd rfl hab
  | step h e ih =>
    rename_i u v
    by_cases c : P a = P u
    · obtain ⟨w, hw, e⟩ := e
      refine ⟨w, hw, ?_⟩
      rw [c] at hab
      rcases e with ⟨e1, e2⟩ | ⟨e1, e2⟩
      · rw [e1, e2]; exact hab
      · rw [e1, e2]; exact fun z => hab z.symm
    · exact ih c
def ovP (P : Int → Int) (t : Int) (w : T3) : Bool := decide (t ≤ w.1) && !(P w.2.1 == P w.2.2)
def over (P : Int → Int) (t : Int) (ts : List T3) : List Int := (ts.filter (ovP P t)).map (·.1)
end K10
end T_K10M
section T_K12M
set_option linter.all false
set_option maxRecDepth 100000
namespace K12
open PySem Sim FamA FamL Lay
theorem fj_spec (p : Nat → Prop) : ∀ (m lo : Nat), (fj p lo m = 0 ∧ ∀ i, lo ≤ i → i < lo + m → ¬ p i) ∨ ∃ i, lo ≤ i ∧ i < lo + m ∧ fj p lo m = (i : Int) + 1 ∧ p i ∧ ∀ i', lo ≤ i' → i' < i → ¬ p i'
  | 0, lo => .inl ⟨rfl, fun i h1 h2 => by omega⟩
  | m + 1, lo => by
    by_cases c : p lo
    · exact .inr ⟨lo, Nat.le_refl _, by omega, fj_t m c, c, fun i' h1 h2 => by omega⟩
    · rw [fj_f m c]
      rcases fj_spec p m (lo + 1) with ⟨h1, h2⟩ | ⟨i, h1, h2, h3, h4, h5⟩
      · refine .inl ⟨h1, fun i i1 i2 => ?_⟩
        by_cases e : i = lo
        · rw [e]; exact c
        · exact h2 i (by omega) (by omega)
      · refine .inr ⟨i, by omega, by omega, h3, h4, fun i' i1 i2 => ?_⟩
        by_cases e : i' = lo
        · rw [e]; exact c
        · exact h5 i' (by omega) i2
def Rot (f : Int → Int) : List T3 → List T3 → Prop
  | [], [] => True
  | t' :: s', t :: s => ((t'.2.1 = f t.2.1 ∧ t'.2.2 = f t.2.2) ∨ (t'.2.1 = f t.2.2 ∧ t'.2.2 = f t.2.1)) ∧ Rot f s' s
  | _, _ => False
theorem Rot.len {f : Int → Int} : ∀ {s' s : List T3}, Rot f s' s → s'.length = s.length
  | [], [], _ => rfl
  | _ :: _, _ :: _, h => by rw [List.length_cons, List.length_cons, Rot.len h.2]
  | [], _ :: _, h => h.elim
  | _ :: _, [], h => h.elim
theorem Rot.snoc {f : Int → Int} {t' t : T3} (ht : (t'.2.1 = f t.2.1 ∧ t'.2.2 = f t.2.2) ∨ (t'.2.1 = f t.2.2 ∧ t'.2.2 = f t.2.1)) : ∀ {s' s : List T3}, Rot f s' s → Rot f (s' ++ [t']) (s ++ [t])
  | [], [], _ => ⟨ht, trivial⟩
  | _ :: _, _ :: _, h => ⟨h.1, Rot.snoc ht h.2⟩
  | [], _ :: _, h => h.elim
  | _ :: _, [], h => h.elim
theorem Rot.layer {f : Int → Int} (j : Int) : ∀ {s' s : List T3} (ns : List Int), Rot f s' s → Rot f (layer j s' ns) (Lay.layer j s ns)
  | [], [], _, _ => trivial
  | _ :: _, _ :: _, [], _ => trivial
  | t' :: s', t :: s, x :: ns, h => by
    rw [layer_cons, layer_cons]
    have ih := Rot.layer j ns h.2
    split
    · exact ⟨h.1, ih⟩
    · exact ih
  | [], _ :: _, _, h => h.elim
  | _ :: _, [], _, h => h.elim
theorem Rot.fwd {f : Int → Int} : ∀ {s' s : List T3}, Rot f s' s → ∀ t ∈ s, ∃ t' ∈ s', (t'.2.1 = f t.2.1 ∧ t'.2.2 = f t.2.2) ∨ (t'.2.1 = f t.2.2 ∧ t'.2.2 = f t.2.1)
  | u' :: s', u :: s, h, t, ht => by
    rcases List.mem_cons.mp ht with rfl | ht
    · exact ⟨u', List.mem_cons_self, h.1⟩
    · obtain ⟨t', h1, h2⟩ := Rot.fwd h.2 t ht
      exact ⟨t', List.mem_cons_of_mem _ h1, h2⟩
  | [], _ :: _, h, _, _ => h.elim
theorem Rot.bwd {f : Int → Int} : ∀ {s' s : List T3}, Rot f s' s → ∀ t' ∈ s', ∃ t ∈ s, (t'.2.1 = f t.2.1 ∧ t'.2.2 = f t.2.2) ∨ (t'.2.1 = f t.2.2 ∧ t'.2.2 = f t.2.1)
  | u' :: s', u :: s, h, t, ht => by
    rcases List.mem_cons.mp ht with rfl | ht
    · exact ⟨u, List.mem_cons_self, h.1⟩
    · obtain ⟨t', h1, h2⟩ := Rot.bwd h.2 t ht
      exact ⟨t', List.mem_cons_of_mem _ h1, h2⟩
  | _ :: _, [], h, _, _ => h.elim
theorem conn_map {ts ts' : List T3} (g : Int → Int) (h : ∀ b c, E2 ts b c → E2 ts' (g b) (g c)) {a b : Int} (k : Conn ts a b) : Conn ts' (g a) (g b) := by
  induction k with
  | refl => exact .refl _
  | step _ e ih => exact .step ih (h _ _ e)
theorem Rot.conn {f f' : Int → Int} {n : Int} (hf : ∀ a, 0 ≤ a → a < n → f' (f a) = a) {s' s : List T3} (h : Rot f s' s) (hin : InN n s) {a b : Int} (a0 : 0 ≤ a) (an : a < n) (b0 : 0 ≤ b) (bn : b < n) : Conn s' (f a) (f b) ↔ Conn s a b := by
  constructor
  · intro k
    have := conn_map f' (ts' := s) (fun u v ⟨t', ht', e⟩ => by
      obtain ⟨t, ht, e2⟩ := h.bwd t' ht'
      obtain ⟨⟨q1, q2⟩, q3, q4⟩ := hin t ht
      have w1 := hf _ q1 q2
      have w2 := hf _ q3 q4
      refine ⟨t, ht, ?_⟩
      rcases e with ⟨rfl, rfl⟩ | ⟨rfl, rfl⟩ <;> rcases e2 with ⟨e3, e4⟩ | ⟨e3, e4⟩ <;> rw [e3, e4, w1, w2]
      · exact .inl ⟨rfl, rfl⟩
      · exact .inr ⟨rfl, rfl⟩
      · exact .inr ⟨rfl, rfl⟩
      · exact .inl ⟨rfl, rfl⟩) k
    rw [hf a a0 an, hf b b0 bn] at this
    exact this
  · exact conn_map f fun u v ⟨t, ht, e⟩ => by
      obtain ⟨t', ht', e2⟩ := h.fwd t ht
      refine ⟨t', ht', ?_⟩
      rcases e with ⟨rfl, rfl⟩ | ⟨rfl, rfl⟩ <;> rcases e2 with ⟨e3, e4⟩ | ⟨e3, e4⟩
      · exact .inl ⟨e3, e4⟩
      · exact .inr ⟨e3, e4⟩
      · exact .inr ⟨e3, e4⟩
      · exact .inl ⟨e3, e4⟩
end K12
end T_K12M
section T_MovM
set_option linter.all false
set_option maxRecDepth 100000
namespace Mov
open PySem Sim FamA FamL Lay
open Classical in
noncomputable def fo : List T3 → List T3
  | [] => []
  | t :: s => if Conn (fo s) t.2.1 t.2.2 then fo s else t :: fo s
open Classical in
noncomputable def rs : List T3 → List T3
  | [] => []
  | t :: s => if Conn (fo s) t.2.1 t.2.2 then t :: rs s else rs s
noncomputable def rsn : Nat → List T3 → List T3
  | 0, r => r
  | j + 1, r => rs (rsn j r)
theorem fo_t {t : T3} {s : List T3} (h : Conn (fo s) t.2.1 t.2.2) : fo (t :: s) = fo s ∧ rs (t :: s) = t :: rs s := by
  constructor
  · conv => lhs; unfold fo
    exact if_pos h
  · conv => lhs; unfold rs
    exact if_pos h
theorem fo_f {t : T3} {s : List T3} (h : ¬ Conn (fo s) t.2.1 t.2.2) : fo (t :: s) = t :: fo s ∧ rs (t :: s) = rs s := by
  constructor
  · conv => lhs; unfold fo
    exact if_neg h
  · conv => lhs; unfold rs
    exact if_neg h
theorem fo_sub : ∀ r, (fo r).Sublist r
  | [] => by unfold fo; exact .slnil
  | t :: s => by
    by_cases h : Conn (fo s) t.2.1 t.2.2
    · rw [(fo_t h).1]; exact (fo_sub s).cons t
    · rw [(fo_f h).1]; exact (fo_sub s).cons₂ t
theorem rs_sub : ∀ r, (rs r).Sublist r
  | [] => by unfold rs; exact .slnil
  | t :: s => by
    by_cases h : Conn (fo s) t.2.1 t.2.2
    · rw [(fo_t h).2]; exact (rs_sub s).cons₂ t
    · rw [(fo_f h).2]; exact (rs_sub s).cons t
theorem rsn_sub : ∀ j r, (rsn j r).Sublist r
  | 0, r => List.Sublist.refl r
  | j + 1, r => (rs_sub _).trans (rsn_sub j r)
theorem frst_fo : ∀ r, K10.Frst (fo r)
  | [] => by unfold fo; exact .nil
  | t :: s => by
    by_cases h : Conn (fo s) t.2.1 t.2.2
    · rw [(fo_t h).1]; exact frst_fo s
    · rw [(fo_f h).1]; exact .cons h (frst_fo s)
theorem rsn_cons (t : T3) (s : List T3) : ∀ j, ((∀ i, i < j → Conn (fo (rsn i s)) t.2.1 t.2.2) → rsn j (t :: s) = t :: rsn j s) ∧ ((∃ i, i < j ∧ ¬ Conn (fo (rsn i s)) t.2.1 t.2.2) → rsn j (t :: s) = rsn j s)
  | 0 => ⟨fun _ => rfl, fun ⟨i, h, _⟩ => by omega⟩
  | j + 1 => by
    obtain ⟨h1, h2⟩ := rsn_cons t s j
    refine ⟨fun h => ?_, fun ⟨i, hi, h⟩ => ?_⟩
    · show rs (rsn j (t :: s)) = t :: rs (rsn j s)
      rw [h1 fun i hi => h i (by omega), (fo_t (h j (by omega))).2]
    · show rs (rsn j (t :: s)) = rs (rsn j s)
      by_cases c : ∀ i, i < j → Conn (fo (rsn i s)) t.2.1 t.2.2
      · have e : i = j := by
          by_cases z : i < j
          · exact absurd (c i z) h
          · omega
        subst e
        rw [h1 c, (fo_f h).2]
      · rw [h2 (Classical.byContradiction fun z => c fun i hi => Classical.byContradiction fun y => z ⟨i, hi, y⟩)]
def rest (j : Int) (s : List T3) (ns : List Int) : List T3 := ((s.zip ns).filter fun p => p.2 == 0 || decide (j < p.2)).map (·.1)
theorem rest_cons (j x : Int) (t : T3) (s : List T3) (ns : List Int) : rest j (t :: s) (x :: ns) = if x = 0 ∨ j < x then t :: rest j s ns else rest j s ns := by
  unfold rest
  rw [List.zip_cons_cons, List.filter_cons]
  by_cases c : x = 0 ∨ j < x
  · rw [if_pos c, if_pos (by simpa using c)]
    rfl
  · rw [if_neg c, if_neg (by simpa using c)]
theorem lay_fo (k : Nat) : ∀ r, (∀ j : Nat, j < k → layer ((j : Int) + 1) r (lay k r) = fo (rsn j r)) ∧ ∀ j : Nat, j ≤ k → rest (j : Int) r (lay k r) = rsn j r
  | [] => by
    have e : ∀ j, rsn j [] = [] := fun j => List.eq_nil_of_sublist_nil (rsn_sub j [])
    refine ⟨fun j _ => ?_, fun j _ => ?_⟩
    · rw [e]; unfold layer fo lay; rfl
    · rw [e]; unfold rest lay; rfl
  | t :: s => by
    obtain ⟨ih1, ih2⟩ := lay_fo k s
    have sp := K12.fj_spec (fun j => ¬ Conn (layer ((j : Int) + 1) s (lay k s)) t.2.1 t.2.2) k 0
    have hx : num k s (lay k s) t.2.1 t.2.2 = fj (fun j => ¬ Conn (layer ((j : Int) + 1) s (lay k s)) t.2.1 t.2.2) 0 k := rfl
    rw [lay_cons]
    rw [← hx] at sp
    generalize num k s (lay k s) t.2.1 t.2.2 = x at *
    rcases sp with ⟨h1, h2⟩ | ⟨i, h1, h2, h3, h4, h5⟩
    · have hc : ∀ i, i < k → Conn (fo (rsn i s)) t.2.1 t.2.2 := fun i hi => by
        rw [← ih1 i hi]
        exact Classical.not_not.mp (h2 i (Nat.zero_le _) (by omega))
      refine ⟨fun j hj => ?_, fun j hj => ?_⟩
      · rw [layer_cons, if_neg (by omega), ih1 j hj, (rsn_cons t s j).1 fun i hi => hc i (by omega), (fo_t (hc j hj)).1]
      · rw [rest_cons, if_pos (.inl h1), ih2 j hj, (rsn_cons t s j).1 fun i hi => hc i (by omega)]
    · have hc : ∀ i', i' < i → Conn (fo (rsn i' s)) t.2.1 t.2.2 := fun i' hi => by
        rw [← ih1 i' (by omega)]
        exact Classical.not_not.mp (h5 i' (Nat.zero_le _) hi)
      have hn : ¬ Conn (fo (rsn i s)) t.2.1 t.2.2 := by
        rw [← ih1 i (by omega)]
        exact h4
      refine ⟨fun j hj => ?_, fun j hj => ?_⟩
      · rw [layer_cons, ih1 j hj]
        rcases Nat.lt_trichotomy i j with g | g | g
        · rw [if_neg (by omega), (rsn_cons t s j).2 ⟨i, g, hn⟩]
        · subst g
          rw [if_pos h3, (rsn_cons t s i).1 hc, (fo_f hn).1]
        · rw [if_neg (by omega), (rsn_cons t s j).1 fun i' hi' => hc i' (by omega), (fo_t (hc j g)).1]
      · rw [rest_cons, ih2 j hj]
        by_cases g : i < j
        · rw [if_neg (by omega), (rsn_cons t s j).2 ⟨i, g, hn⟩]
        · rw [if_pos (.inr (by omega)), (rsn_cons t s j).1 fun i' hi' => hc i' (by omega)]
open Classical in
noncomputable def out (c : T3) : List T3 → T3
  | [] => c
  | g :: F => if Conn F c.2.1 c.2.2 then out c F else if c.1 < g.1 then c else g
open Classical in
noncomputable def mv (k : Int) : Nat → Int → List T3 → T3 → List (Int × Int × Int)
  | 0, _, _, _ => []
  | m + 1, j, R, c => if Conn (fo R) c.2.1 c.2.2 then ((out c (fo R)).1, j, (j + 1) % (k + 1)) :: mv k m (j + 1) (rs R) (out c (fo R)) else []
end Mov
end T_MovM
section T_FlowM
set_option linter.all false
set_option maxRecDepth 100000
namespace Flow
open PySem Sim FamA
def upd (φ : Int → Int) (m z : Int) : Int → Int := fun x => if x = m then z else φ x
theorem upd_ne {φ : Int → Int} {m z x : Int} (h : x ≠ m) : upd φ m z x = φ x := if_neg h
def goT (φ : Int → Int) (t : T3) (h : Int) : Option Int :=
  if t.2.1 = t.2.2 then none else if h = t.2.1 ∧ φ t.1 < 1 then some t.2.2 else if h = t.2.2 ∧ -1 < φ t.1 then some t.2.1 else none
theorem goT_end {φ : Int → Int} {t : T3} {h p : Int} (e : goT φ t h = some p) : (h = t.2.1 ∧ p = t.2.2 ∧ φ t.1 < 1 ∨ h = t.2.2 ∧ p = t.2.1 ∧ -1 < φ t.1) ∧ t.2.1 ≠ t.2.2 := by
  unfold goT at e
  by_cases c0 : t.2.1 = t.2.2
  · rw [if_pos c0] at e; cases e
  · rw [if_neg c0] at e
    by_cases c1 : h = t.2.1 ∧ φ t.1 < 1
    · rw [if_pos c1] at e
      cases e
      exact ⟨.inl ⟨c1.1, rfl, c1.2⟩, c0⟩
    · rw [if_neg c1] at e
      by_cases c2 : h = t.2.2 ∧ -1 < φ t.1
      · rw [if_pos c2] at e
        cases e
        exact ⟨.inr ⟨c2.1, rfl, c2.2⟩, c0⟩
      · rw [if_neg c2] at e; cases e
abbrev CL := List (Int × Option (Int × T3))
def kys (cs : CL) : List Int := cs.map (·.1)
inductive Came (φ : Int → Int) (ts : List T3) (s : Int) : CL → Prop
  | one : Came φ ts s [(s, none)]
  | snoc {cs : CL} {h p : Int} {t : T3} : Came φ ts s cs → h ∈ kys cs → t ∈ ts → goT φ t h = some p → p ∉ kys cs → Came φ ts s (cs ++ [(p, some (h, t))])
theorem kys_snoc (cs : CL) (x : Int × Option (Int × T3)) : kys (cs ++ [x]) = kys cs ++ [x.1] := by unfold kys; rw [List.map_append]; rfl
theorem Came.nodup {φ : Int → Int} {ts : List T3} {s : Int} {cs : CL} (h : Came φ ts s cs) : (kys cs).Nodup := by
  induction h with
  | one => exact List.nodup_cons.mpr ⟨by simp, List.nodup_nil⟩
  | snoc _ _ _ _ np ih =>
    rw [kys_snoc, List.nodup_append]
    refine ⟨ih, List.nodup_cons.mpr ⟨by simp, List.nodup_nil⟩, fun x hx y hy => ?_⟩
    have hy := List.mem_singleton.mp hy
    exact fun e => np (show _ ∈ _ from by have : x = _ := e.trans hy; rw [this] at hx; exact hx)
theorem Came.first {φ : Int → Int} {ts : List T3} {s : Int} {cs : CL} (h : Came φ ts s cs) : s ∈ kys cs := by
  induction h with
  | one => exact List.mem_singleton.mpr rfl
  | snoc _ _ _ _ _ ih => rw [kys_snoc]; exact List.mem_append_left _ ih
theorem Came.inN {φ : Int → Int} {ts : List T3} {s n : Int} {cs : CL} (h : Came φ ts s cs) (hs : 0 ≤ s ∧ s < n) (ht : ∀ t ∈ ts, (0 ≤ t.2.1 ∧ t.2.1 < n) ∧ 0 ≤ t.2.2 ∧ t.2.2 < n) : ∀ p ∈ kys cs, 0 ≤ p ∧ p < n := by
  induction h with
  | one => intro p hp; rw [List.mem_singleton.mp hp]; exact hs
  | snoc _ _ hm hg _ ih =>
    intro p hp
    rw [kys_snoc] at hp
    rcases List.mem_append.mp hp with hp | hp
    · exact ih p hp
    · rw [List.mem_singleton.mp hp]
      rcases (goT_end hg).1 with ⟨_, e, _⟩ | ⟨_, e, _⟩
      · rw [e]; exact (ht _ hm).2
      · rw [e]; exact (ht _ hm).1
theorem nodup_sub : ∀ {l m : List Int}, l.Nodup → (∀ p ∈ l, p ∈ m) → l.length ≤ m.length
  | [], _, _, _ => Nat.zero_le _
  | x :: l, m, h, hs => by
    obtain ⟨h1, h2⟩ := List.nodup_cons.mp h
    have hx := hs x List.mem_cons_self
    have := nodup_sub (l := l) (m := m.erase x) h2 fun p hp => (List.mem_erase_of_ne (fun e : p = x => h1 (e ▸ hp))).mpr (hs p (List.mem_cons_of_mem _ hp))
    rw [List.length_erase_of_mem hx] at this
    have := List.length_pos_of_mem hx
    rw [List.length_cons]
    omega
theorem nodup_len {n : Int} {l : List Int} (h : l.Nodup) (hb : ∀ p ∈ l, 0 ≤ p ∧ p < n) : l.length ≤ n.toNat := by
  have := nodup_sub h fun p hp => mem_pl.mpr (hb p hp)
  rwa [pl_len] at this
end Flow
end T_FlowM
section T_MovR
set_option linter.all false
set_option maxRecDepth 100000
namespace Mov
open PySem Sim FamA FamL Lay Flow
inductive Wk : Int → Int → List T3 → Prop
  | nil (a : Int) : Wk a a []
  | cons {a b c : Int} {t : T3} {l : List T3} : (t.2.1 = a ∧ t.2.2 = b ∨ t.2.1 = b ∧ t.2.2 = a) → Wk b c l → Wk a c (t :: l)
theorem Wk.conn {a b : Int} {l F : List T3} (h : Wk a b l) (hs : ∀ t ∈ l, t ∈ F) : Conn F a b := by
  induction h with
  | nil => exact .refl _
  | cons e _ ih => exact (Conn.one ⟨_, hs _ List.mem_cons_self, e⟩).trans (ih fun t ht => hs t (List.mem_cons_of_mem _ ht))
theorem Wk.split {g : T3} {a c : Int} {l : List T3} (h : Wk a c l) (hn : l.Nodup) (hg : g ∈ l) :
    ∃ x y l1 l2, (g.2.1 = x ∧ g.2.2 = y ∨ g.2.1 = y ∧ g.2.2 = x) ∧ Wk a x l1 ∧ Wk y c l2 ∧ (∀ t ∈ l1, t ∈ l ∧ t ≠ g) ∧ ∀ t ∈ l2, t ∈ l ∧ t ≠ g := by
  induction h with
  | nil => cases hg
  | @cons a b c t l e hw ih =>
    obtain ⟨n1, n2⟩ := List.nodup_cons.mp hn
    by_cases z : t = g
    · subst z
      refine ⟨a, b, [], l, e, .nil _, hw, (fun _ h => nomatch h), fun s hs => ⟨List.mem_cons_of_mem _ hs, fun z => n1 (z ▸ hs)⟩⟩
    · have hg' : g ∈ l := by
        rcases List.mem_cons.mp hg with h | h
        · exact absurd h.symm z
        · exact h
      obtain ⟨x, y, l1, l2, k1, k2, k3, k4, k5⟩ := ih n2 hg'
      refine ⟨x, y, t :: l1, l2, k1, .cons e k2, k3, fun s hs => ?_, fun s hs => ⟨List.mem_cons_of_mem _ (k5 s hs).1, (k5 s hs).2⟩⟩
      rcases List.mem_cons.mp hs with rfl | hs
      · exact ⟨List.mem_cons_self, z⟩
      · exact ⟨List.mem_cons_of_mem _ (k4 s hs).1, (k4 s hs).2⟩
theorem ring_out {c m : T3} : ∀ {F l : List T3}, (F.Pairwise fun s t => s.1 < t.1) → K10.Frst F → (∀ g ∈ F, g.1 ≠ c.1) → Wk c.2.2 c.2.1 l → l.Nodup → (∀ t ∈ l, t ∈ F) → m ∈ c :: l → (∀ y ∈ c :: l, m.1 ≤ y.1) → m = out c F
  | [], l, _, _, _, _, _, hs, hm, _ => by
    have : l = [] := List.eq_nil_iff_forall_not_mem.mpr fun t ht => nomatch hs t ht
    subst this
    rw [List.mem_singleton.mp hm]
    rfl
  | g :: F, l, ho, hf, hne, hw, hn, hs, hm, hle => by
    obtain ⟨o1, o2⟩ := List.pairwise_cons.mp ho
    cases hf with
    | cons f1 f2 =>
      conv => rhs; unfold out
      by_cases hc : Conn F c.2.1 c.2.2
      · rw [if_pos hc]
        have hg : g ∉ l := fun hg => by
          obtain ⟨x, y, l1, l2, k1, k2, k3, k4, k5⟩ := hw.split hn hg
          have q1 := k2.conn (F := F) fun t ht => by
            rcases List.mem_cons.mp (hs t (k4 t ht).1) with z | z
            · exact absurd z (k4 t ht).2
            · exact z
          have q2 := k3.conn (F := F) fun t ht => by
            rcases List.mem_cons.mp (hs t (k5 t ht).1) with z | z
            · exact absurd z (k5 t ht).2
            · exact z
          have q3 : Conn F x y := q1.symm.trans (hc.symm.trans q2.symm)
          rcases k1 with ⟨e1, e2⟩ | ⟨e1, e2⟩
          · exact f1 (by rw [e1, e2]; exact q3)
          · exact f1 (by rw [e1, e2]; exact q3.symm)
        refine ring_out o2 f2 (fun t ht => hne t (List.mem_cons_of_mem _ ht)) hw hn (fun t ht => ?_) hm hle
        rcases List.mem_cons.mp (hs t ht) with z | z
        · exact absurd (z ▸ ht) hg
        · exact z
      · rw [if_neg hc]
        have hg : g ∈ l := Classical.byContradiction fun z => hc (hw.conn (F := F) fun t ht => by
          rcases List.mem_cons.mp (hs t ht) with y | y
          · exact absurd (y ▸ ht) z
          · exact y).symm
        have ne := hne g List.mem_cons_self
        have h1 := hle c List.mem_cons_self
        have h2 := hle g (List.mem_cons_of_mem _ hg)
        by_cases lt : c.1 < g.1
        · rw [if_pos lt]
          rcases List.mem_cons.mp hm with z | z
          · exact z
          · rcases List.mem_cons.mp (hs m z) with y | y
            · subst y; omega
            · have := o1 m y; omega
        · rw [if_neg lt]
          rcases List.mem_cons.mp hm with z | z
          · subst z; omega
          · rcases List.mem_cons.mp (hs m z) with y | y
            · exact y
            · have := o1 m y; omega
theorem out_mem {c : T3} : ∀ F : List T3, out c F = c ∨ out c F ∈ F
  | [] => .inl rfl
  | g :: F => by
    unfold out
    by_cases h : Conn F c.2.1 c.2.2
    · rw [if_pos h]
      exact (out_mem F).imp id (List.mem_cons_of_mem _)
    · rw [if_neg h]
      by_cases h2 : c.1 < g.1
      · rw [if_pos h2]; exact .inl rfl
      · rw [if_neg h2]; exact .inr List.mem_cons_self
theorem fo_rs {r : List T3} (ho : r.Pairwise fun s t => s.1 < t.1) : ∀ g ∈ fo r, ∀ s ∈ rs r, g.1 ≠ s.1 := by
  induction r with
  | nil => intro g hg; unfold fo at hg; cases hg
  | cons t r ih =>
    obtain ⟨o1, o2⟩ := List.pairwise_cons.mp ho
    intro g hg s hs
    by_cases h : Conn (fo r) t.2.1 t.2.2
    · rw [(fo_t h).1] at hg
      rw [(fo_t h).2] at hs
      rcases List.mem_cons.mp hs with rfl | hs
      · have := o1 g ((fo_sub r).subset hg); omega
      · exact ih o2 g hg s hs
    · rw [(fo_f h).1] at hg
      rw [(fo_f h).2] at hs
      rcases List.mem_cons.mp hg with rfl | hg
      · have := o1 s ((rs_sub r).subset hs); omega
      · exact ih o2 g hg s hs
theorem out_rs {c : T3} {R : List T3} (ho : R.Pairwise fun s t => s.1 < t.1) (hc : ∀ g ∈ R, g.1 ≠ c.1) : ∀ g ∈ rs R, g.1 ≠ (out c (fo R)).1 := fun g hg => by
  rcases out_mem (c := c) (fo R) with e | e
  · rw [e]; exact hc g ((rs_sub R).subset hg)
  · exact (fo_rs ho _ e g hg).symm
inductive Bk (cs : CL) : Int → List T3 → Prop
  | nil {p : Int} : (p, none) ∈ cs → Bk cs p []
  | cons {p h : Int} {t : T3} {l : List T3} : (p, some (h, t)) ∈ cs → t.2.1 + t.2.2 - p = h → Bk cs h l → Bk cs p (t :: l)
theorem Bk.mono {cs cs' : CL} {p : Int} {l : List T3} (h : Bk cs p l) (hs : ∀ x ∈ cs, x ∈ cs') : Bk cs' p l := by
  induction h with
  | nil e => exact .nil (hs _ e)
  | cons e e2 _ ih => exact .cons (hs _ e) e2 ih
theorem back {ts : List T3} {a : Int} {cs : CL} (h : Came (fun _ => 0) ts a cs) : ∀ p ∈ kys cs, ∃ l, Bk cs p l ∧ Wk p a l ∧ l.Nodup ∧ (∀ t ∈ l, t ∈ ts) ∧ (∀ t ∈ l, t.2.1 ∈ kys cs ∧ t.2.2 ∈ kys cs) ∧ l.length < cs.length := by
  induction h with
  | one =>
    intro p hp
    have hp : p = a := List.mem_singleton.mp hp
    subst hp
    exact ⟨[], .nil (List.mem_singleton.mpr rfl), .nil _, List.nodup_nil, (fun _ h => nomatch h), (fun _ h => nomatch h), by simp⟩
  | @snoc cs h q t hc hh ht hg np ih =>
    intro p hp
    rw [kys_snoc] at hp ⊢
    rcases List.mem_append.mp hp with hp | hp
    · obtain ⟨l, k1, k2, k3, k4, k5, k6⟩ := ih p hp
      exact ⟨l, k1.mono fun x hx => List.mem_append_left _ hx, k2, k3, k4, fun t ht => ⟨List.mem_append_left _ (k5 t ht).1, List.mem_append_left _ (k5 t ht).2⟩, by rw [List.length_append]; omega⟩
    · have hp : p = q := List.mem_singleton.mp hp
      subst hp
      obtain ⟨l, k1, k2, k3, k4, k5, k6⟩ := ih h hh
      have he := (goT_end hg).1
      have hin : p ∈ kys cs ++ [p] := List.mem_append_right _ (List.mem_singleton.mpr rfl)
      refine ⟨t :: l, .cons (h := h) (List.mem_append_right _ (List.mem_singleton.mpr rfl)) ?_ (k1.mono fun x hx => List.mem_append_left _ hx), .cons (b := h) ?_ k2, List.nodup_cons.mpr ⟨fun z => ?_, k3⟩, fun s hs => ?_, fun s hs => ?_, by rw [List.length_cons, List.length_append, List.length_singleton]; omega⟩
      · rcases he with ⟨e1, e2, _⟩ | ⟨e1, e2, _⟩ <;> omega
      · rcases he with ⟨e1, e2, _⟩ | ⟨e1, e2, _⟩
        · exact .inr ⟨e1.symm, e2.symm⟩
        · exact .inl ⟨e2.symm, e1.symm⟩
      · have := k5 t z
        rcases he with ⟨e1, e2, _⟩ | ⟨e1, e2, _⟩
        · exact np (e2 ▸ this.2)
        · exact np (e2 ▸ this.1)
      · rcases List.mem_cons.mp hs with rfl | hs
        · exact ht
        · exact k4 s hs
      · rcases List.mem_cons.mp hs with rfl | hs
        · rcases he with ⟨e1, e2, _⟩ | ⟨e1, e2, _⟩
          · exact ⟨List.mem_append_left _ (e1 ▸ hh), e2 ▸ hin⟩
          · exact ⟨e2 ▸ hin, List.mem_append_left _ (e1 ▸ hh)⟩
        · exact ⟨List.mem_append_left _ (k5 s hs).1, List.mem_append_left _ (k5 s hs).2⟩
theorem closed_conn {ts : List T3} {a : Int} {cs : CL} (h : Came (fun _ => 0) ts a cs) (hq : ∀ p ∈ kys cs, ∀ t ∈ ts, ∀ q, goT (fun _ => 0) t p = some q → q ∈ kys cs) (b : Int) : b ∈ kys cs ↔ Conn ts a b := by
  constructor
  · intro hb
    obtain ⟨l, _, k2, _, k4, _⟩ := back h b hb
    exact (k2.conn k4).symm
  · intro hb
    induction hb with
    | refl => exact h.first
    | @step b c _ e ih =>
      obtain ⟨t, ht, e⟩ := e
      by_cases z : t.2.1 = t.2.2
      · have : b = c := by rcases e with ⟨e1, e2⟩ | ⟨e1, e2⟩ <;> omega
        rw [← this]; exact ih
      · refine hq b ih t ht c ?_
        unfold goT
        rw [if_neg z]
        rcases e with ⟨e1, e2⟩ | ⟨e1, e2⟩
        · rw [if_pos ⟨e1.symm, show (0 : Int) < 1 by omega⟩, e2]
        · rw [if_neg fun y => z (by omega), if_pos ⟨e2.symm, show (-1 : Int) < 0 by omega⟩, e1]
def IsRing (F : List T3) (c : T3) (R : List T3) : Prop := (¬ Conn F c.2.1 c.2.2 ∧ R = []) ∨ (Conn F c.2.1 c.2.2 ∧ ∃ l, R = c :: l ∧ Wk c.2.2 c.2.1 l ∧ l.Nodup ∧ ∀ t ∈ l, t ∈ F)
end Mov
end T_MovR
section T_K16P
set_option linter.all false
set_option maxRecDepth 100000
set_option maxHeartbeats 4000000
namespace K16
open PySem Sim FamA FamL Lay Flow Mov
def encO : Option (Int × T3) → Dt
  | none => .none
  | some (_, t) => enc3 t
def encC (cs : CL) : List (Dt × Dt) := cs.map fun c => (.int c.1, encO c.2)
theorem isK_i (m x : Int) : isK (.inl m) (.int x) = decide (x = m) := rfl
theorem keyOf_i (i : Int) : keyOf (.int i) = some (.inl i) := rfl
theorem ix3_1 (t : T3) : hIx (enc3 t) (.int 1) = .ok (.int t.2.1) := rfl
theorem ix3_2 (t : T3) : hIx (enc3 t) (.int 2) = .ok (.int t.2.2) := rfl
theorem encC_get {p : Int} {o : Option (Int × T3)} : ∀ {cs : CL}, (kys cs).Nodup → (p, o) ∈ cs → dGet (encC cs) (.inl p) = some (encO o)
  | [], _, h => by cases h
  | c :: cs, hn, h => by
    obtain ⟨h1, h2⟩ := List.nodup_cons.mp (show (c.1 :: kys cs).Nodup from hn)
    unfold dGet encC
    rw [List.map_cons]
    rcases List.mem_cons.mp h with e | h
    · rw [← e, List.find?_cons_of_pos (by rw [isK_i]; simp)]
      rfl
    · have ne : c.1 ≠ p := fun e => h1 (by rw [e]; exact List.mem_map.mpr ⟨_, h, rfl⟩)
      rw [List.find?_cons_of_neg (by rw [isK_i]; simpa using ne)]
      exact encC_get h2 h
theorem encC_isSome {p : Int} : ∀ {cs : CL}, (dGet (encC cs) (.inl p)).isSome = decide (p ∈ kys cs)
  | [] => by simp [encC, dGet, kys]
  | c :: cs => by
    unfold dGet encC
    rw [List.map_cons]
    by_cases e : c.1 = p
    · rw [List.find?_cons_of_pos (by rw [isK_i]; simpa using e)]
      have : p ∈ kys (c :: cs) := by unfold kys; rw [List.map_cons, e]; exact List.mem_cons_self
      simp [this]
    · rw [List.find?_cons_of_neg (by rw [isK_i]; simpa using e)]
      have ih := encC_isSome (p := p) (cs := cs)
      unfold dGet encC at ih
      rw [ih]
      have : p ∈ kys (c :: cs) ↔ p ∈ kys cs := by
        unfold kys
        rw [List.map_cons, List.mem_cons]
        exact ⟨fun h => h.resolve_left fun z => e z.symm, .inr⟩
      simp [this]
theorem encC_put {p : Int} {o : Option (Int × T3)} {cs : CL} (h : p ∉ kys cs) : dPut (encC cs) (.inl p) (encO o) = encC (cs ++ [(p, o)]) := by
  unfold dPut
  rw [if_neg]
  · unfold encC
    rw [List.map_append]
    rfl
  · intro z
    unfold encC at z
    rw [List.any_map] at z
    obtain ⟨c, hc, e⟩ := List.any_eq_true.mp z
    have e : c.1 = p := by simpa [isK_i] using e
    exact h (by rw [← e]; exact List.mem_map.mpr ⟨_, hc, rfl⟩)
theorem dIn_C (neg : Bool) {ρ : List Dt} {i j : Nat} {cs : CL} {p : Int} (h1 : ρ[i]? = some (.dict (encC cs))) (h2 : ρ[j]? = some (.int p)) : gDIn neg i (gVar j) ρ = .ok (.bool (if neg then !decide (p ∈ kys cs) else decide (p ∈ kys cs))) := by
  unfold gDIn gVar dAt
  rw [h2, h1]
  simp only [bnd_ok, keyOf_i, encC_isSome]
def cmS (ts : List T3) (a : Int) (cs : CL) (k : Nat) (d5 d6 : Dt) : List Dt := [.list (ts.map enc3), .int a, .dict (encC cs), .list ((kys cs).map .int), .int (k : Nat), d5, d6]
theorem come_turn {ts : List T3} {a : Int} {cs : CL} {k : Nat} {t : T3} {d6 : Dt} (ht : t ∈ ts) (hc : Came (fun _ => 0) ts a cs) (hk : k < (kys cs).length) (hl : cs.length ≤ 1000) :
    ∃ cs' d6', g_come_to_L1 (cmS ts a cs k (enc3 t) d6) = .ok (.nx (cmS ts a cs' k (enc3 t) d6')) ∧ Came (fun _ => 0) ts a cs' ∧ (∃ ex, cs' = cs ++ ex ∧ ex.length ≤ 1) ∧ ∀ q, goT (fun _ => 0) t (kys cs)[k] = some q → q ∈ kys cs' := by
  have hix : hIx (.list ((kys cs).map .int)) (.int (k : Nat)) = .ok (.int (kys cs)[k]) := by
    have := hIx_ints (xs := kys cs) (i := (k : Int)) (by omega) (by omega)
    simpa only [Int.toNat_natCast] using this
  have hh : (kys cs)[k] ∈ kys cs := List.getElem_mem hk
  generalize (kys cs)[k] = h at *
  have e0 : gOp hIx (gVar 3) (gVar 4) (cmS ts a cs k (enc3 t) d6) = .ok (.int h) := hix
  have e1 : gSl hSlT (gPur (gVar 5)) (gPart (gC (.int (1)))) (gNoPart) (cmS ts a cs k (enc3 t) d6) = .ok (.tuple ([t.2.1, t.2.2].map .int)) := rfl
  have hT : gTest (gOp hIn (gOp hIx (gVar 3) (gVar 4)) (gSl hSlT (gPur (gVar 5)) (gPart (gC (.int (1)))) (gNoPart))) (cmS ts a cs k (enc3 t) d6) = .ok (decide (h ∈ [t.2.1, t.2.2])) := by
    rw [gTest_def, gOp_def, e0, bnd_ok, e1, bnd_ok, hIn_intsT, bnd_ok, asB_b]
  unfold g_come_to_L1
  by_cases c : h ∈ [t.2.1, t.2.2]
  · have c' : h = t.2.1 ∨ h = t.2.2 := by simpa using c
    have hset : gSet 6 (gOp hSub (gOp hAdd (gOp hIx (gPur (gVar 5)) (gC (.int (1)))) (gOp hIx (gPur (gVar 5)) (gC (.int (2))))) (gOp hIx (gVar 3) (gVar 4))) (cmS ts a cs k (enc3 t) d6) = .ok (.nx (cmS ts a cs k (enc3 t) (.int (t.2.1 + t.2.2 - h)))) := by
      refine (set_ok (d := .int (t.2.1 + t.2.2 - h)) ?_).trans rfl
      have e2 : gOp hAdd (gOp hIx (gPur (gVar 5)) (gC (.int (1)))) (gOp hIx (gPur (gVar 5)) (gC (.int (2)))) (cmS ts a cs k (enc3 t) d6) = .ok (.int (t.2.1 + t.2.2)) := rfl
      rw [gOp_def, e2, bnd_ok, e0]
      rfl
    rw [decide_eq_true c] at hT
    by_cases z : t.2.1 + t.2.2 - h ∈ kys cs
    · refine ⟨cs, .int (t.2.1 + t.2.2 - h), (if_t hT).trans (seq_step hset ((if_f ?_).trans rfl)), hc, ⟨[], by simp⟩, fun q hq => ?_⟩
      · rw [gTest_def, dIn_C (cs := cs) (p := t.2.1 + t.2.2 - h) true rfl rfl]
        simp [z, asB_b]
      · have : q = t.2.1 + t.2.2 - h := by
          rcases (goT_end hq).1 with ⟨x, y, _⟩ | ⟨x, y, _⟩ <;> omega
        rw [this]; exact z
    · have ne : t.2.1 ≠ t.2.2 := fun e => z (by
        have : t.2.1 + t.2.2 - h = h := by rcases c' with c | c <;> omega
        rw [this]; exact hh)
      have hg : goT (fun _ => 0) t h = some (t.2.1 + t.2.2 - h) := by
        unfold goT
        rw [if_neg ne]
        rcases c' with c | c
        · rw [if_pos ⟨c, show (0 : Int) < 1 by omega⟩]; congr 1; omega
        · rw [if_neg fun y => ne (by omega), if_pos ⟨c, show (-1 : Int) < 0 by omega⟩]; congr 1; omega
      refine ⟨cs ++ [(t.2.1 + t.2.2 - h, some (h, t))], .int (t.2.1 + t.2.2 - h), (if_t hT).trans (seq_step hset ((if_t ?_).trans ?_)), hc.snoc hh ht hg z, ⟨_, rfl, by simp⟩, fun q hq => ?_⟩
      · rw [gTest_def, dIn_C (cs := cs) (p := t.2.1 + t.2.2 - h) true rfl rfl]
        simp [z, asB_b]
      · generalize t.2.1 + t.2.2 - h = p at *
        have hput : gDPut 2 (gPur (gVar 5)) (gVar 6) (cmS ts a cs k (enc3 t) (.int p)) = .ok (.nx [.list (ts.map enc3), .int a, .dict (encC (cs ++ [(p, some (h, t))])), .list ((kys cs).map .int), .int (k : Nat), enc3 t, .int p]) := by
          rw [← encC_put z]
          show (if (encC cs).length < 100000 then O.ok (Fl.nx _) else O.bad) = _
          rw [if_pos (by unfold encC; rw [List.length_map]; omega)]
          rfl
        refine seq_step hput ?_
        rw [gApp_l (ds := (kys cs).map .int) (d := .int p) rfl rfl (by unfold kys; rw [List.length_map, List.length_map]; omega)]
        unfold cmS
        rw [kys_snoc, List.map_append]
        rfl
      · rw [hg] at hq
        cases hq
        rw [kys_snoc]; exact List.mem_append_right _ (List.mem_singleton.mpr rfl)
  · rw [decide_eq_false c] at hT
    refine ⟨cs, d6, (if_f hT).trans rfl, hc, ⟨[], by simp⟩, fun q hq => ?_⟩
    refine absurd ?_ c
    rcases (goT_end hq).1 with ⟨x, y, _⟩ | ⟨x, y, _⟩ <;> simp [x]
theorem kys_app (cs ex : CL) : kys (cs ++ ex) = kys cs ++ kys ex := by unfold kys; rw [List.map_append]
theorem come_for {ts : List T3} {a n : Int} {cs : CL} {k : Nat} {d5 d6 : Dt} (hc : Came (fun _ => 0) ts a cs) (hk : k < (kys cs).length) (ha : 0 ≤ a ∧ a < n) (hn : n ≤ 100) (hr : InN n ts) :
    ∃ cs' d5' d6', forE (tgN 5) g_come_to_L1 (ts.map enc3) (cmS ts a cs k d5 d6) = .ok (.nx (cmS ts a cs' k d5' d6')) ∧ Came (fun _ => 0) ts a cs' ∧ (∃ ex, cs' = cs ++ ex) ∧ ∀ t ∈ ts, ∀ q, goT (fun _ => 0) t (kys cs)[k] = some q → q ∈ kys cs' := by
  obtain ⟨ρ', h1, cs', d5', d6', rfl, h2, h3, h4⟩ := forE_ix enc3 (h := tgN 5) (b := g_come_to_L1) ts
    (fun i ρ => ∃ cs' d5' d6', ρ = cmS ts a cs' k d5' d6' ∧ Came (fun _ => 0) ts a cs' ∧ (∃ ex, cs' = cs ++ ex) ∧ ∀ j (hj : j < ts.length), j < i → ∀ q, goT (fun _ => 0) ts[j] (kys cs)[k] = some q → q ∈ kys cs')
    (ρ := cmS ts a cs k d5 d6) ⟨cs, d5, d6, rfl, hc, ⟨[], by simp⟩, fun j _ hj => by omega⟩ (by
      rintro i ρ hi ⟨cs', d5', d6', rfl, g1, ⟨ex, g2⟩, g3⟩
      have hl : cs'.length ≤ 1000 := by
        have := nodup_len g1.nodup (g1.inN ha hr)
        unfold kys at this
        rw [List.length_map] at this
        omega
      have hk' : k < (kys cs').length := by rw [g2, kys_app, List.length_append]; omega
      have ek : (kys cs')[k] = (kys cs)[k] := by
        have : kys cs' = kys cs ++ kys ex := by rw [g2, kys_app]
        simp only [this]
        rw [List.getElem_append_left hk]
      obtain ⟨cs2, d62, k1, k2, ⟨ex2, k3, _⟩, k4⟩ := come_turn (d6 := d6') (List.getElem_mem hi) g1 hk' hl
      refine ⟨_, _, rfl, .inl k1, cs2, _, d62, rfl, k2, ⟨ex ++ ex2, by rw [k3, g2, List.append_assoc]⟩, fun j hj hji q hq => ?_⟩
      by_cases z : j = i
      · subst z; exact k4 q (ek ▸ hq)
      · have := g3 j hj (by omega) q hq
        rw [k3, kys_app]; exact List.mem_append_left _ this)
  refine ⟨cs', d5', d6', h1, h2, h3, fun t ht q hq => ?_⟩
  obtain ⟨j, hj, e⟩ := List.getElem_of_mem ht
  exact h4 j hj hj q (by rw [e]; exact hq)
theorem come_while {ts : List T3} {a n : Int} (ha : 0 ≤ a ∧ a < n) (hn : n ≤ 100) (hr : InN n ts) :
    ∀ (fu : Nat) (k : Nat) (cs : CL) (d5 d6 : Dt), n.toNat < fu + k → k ≤ (kys cs).length → Came (fun _ => 0) ts a cs → (∀ j (hj : j < (kys cs).length), j < k → ∀ t ∈ ts, ∀ q, goT (fun _ => 0) t (kys cs)[j] = some q → q ∈ kys cs) →
    ∃ cs' k' d5' d6', gWhile g_come_to_T2 g_come_to_L2 fu (cmS ts a cs k d5 d6) = .ok (.nx (cmS ts a cs' k' d5' d6')) ∧ Came (fun _ => 0) ts a cs' ∧ ∀ p ∈ kys cs', ∀ t ∈ ts, ∀ q, goT (fun _ => 0) t p = some q → q ∈ kys cs'
  | 0, k, cs, d5, d6, hf, hk, hc, hq => by
    have := nodup_len hc.nodup (hc.inN ha hr)
    omega
  | fu + 1, k, cs, d5, d6, hf, hk, hc, hq => by
    have hT : g_come_to_T2 (cmS ts a cs k d5 d6) = .ok (decide (k < (kys cs).length)) := by
      unfold g_come_to_T2
      simp only [bnd_ok, gVar_def, gC_def, gOp_def, gUn_def, gNil_def, gCons_def, gIf_def, gTest_def, gNot_def, gAnd_def, gOr_def, gAndV_def, gOrV_def, gNotV_def, gCB_def, asB_b, hAdd_i, hSub_i, hLt_i, hLe_i, hGt_i, hGe_i, hMul_r, hMul_l, hMod_i, hDiv_s, hBand_i, hShr_i, hPow_10_18, hPow_10_27, hPow_10_28, hPow_10_29, hPow_10_30, hEq_i, hNe_i, hLen_l, hLen_t, hMin2_i, hMax2_i, hMin3_i, hInt1_b, hInt1_i, hBits_i, hListOf_l, hListOf_t, hTupOf_l, hTupOf_t, gSeqS_def, gSet_def, gRet_def, gIfS_def, gNext_def, gTup_def, gLst_def, List.getElem?_cons_zero, List.getElem?_cons_succ, List.set_cons_zero, List.set_cons_succ, List.length_cons, List.length_nil, Nat.zero_add, Nat.reduceAdd, Nat.reduceLeDiff, Nat.reduceSub, Nat.reduceMul, if_true, if_false, Bool.false_eq_true, List.replicate_succ, List.replicate_zero, List.cons_append, List.nil_append, tgN, tgT, tgCons, tgNil, Int.reducePow, Int.reduceAdd, Int.reduceSub, Int.reduceMul, decide_true, decide_false, Bool.not_true, Bool.not_false, gChain_def, hIsa_int, hIsa_intb, hIsa_list, hIsa_tuple, gDrop_def, cmS, List.length_map]
      congr 1
      simp
    by_cases c : k < (kys cs).length
    · have h0 : g_come_to_T2 (cmS ts a cs k d5 d6) = .ok true := by rw [hT]; simp [c]
      obtain ⟨cs', d5', d6', k1, k2, ⟨ex, k3⟩, k4⟩ := come_for (d5 := d5) (d6 := d6) hc c ha hn hr
      have h1 : g_come_to_L2 (cmS ts a cs k d5 d6) = .ok (.nx (cmS ts a cs' (k + 1) d5' d6')) := by
        unfold g_come_to_L2
        refine seq_step (for_ok (ds := ts.map enc3) (seqG_l (by rfl)) k1) ?_
        rfl
      obtain ⟨cs2, k', y5, y6, g1, g2, g3⟩ := come_while ha hn hr fu (k + 1) cs' d5' d6' (by omega) (by rw [k3, kys_app, List.length_append]; omega) k2 (by
        intro j hj hjk t ht q hq'
        have hj0 : j < (kys cs).length := by omega
        have ej : (kys cs')[j] = (kys cs)[j] := by
          have : kys cs' = kys cs ++ kys ex := by rw [k3, kys_app]
          simp only [this]
          rw [List.getElem_append_left hj0]
        rw [ej] at hq'
        by_cases z : j = k
        · subst z; exact k4 t ht q hq'
        · have := hq j hj0 (by omega) t ht q hq'
          rw [k3, kys_app]; exact List.mem_append_left _ this)
      exact ⟨cs2, k', y5, y6, by rw [while_t h0 h1]; exact g1, g2, g3⟩
    · have h0 : g_come_to_T2 (cmS ts a cs k d5 d6) = .ok false := by rw [hT]; simp [c]
      refine ⟨cs, k, d5, d6, while_f h0 (by omega), hc, fun p hp t ht q hq' => ?_⟩
      obtain ⟨j, hj, e⟩ := List.getElem_of_mem hp
      exact hq j hj (by omega) t ht q (by rw [e]; exact hq')
theorem come_ok {ts : List T3} {a n : Int} (ha : 0 ≤ a ∧ a < n) (hn : n ≤ 100) (hr : InN n ts) :
    ∃ cs, f_come_to [.list (ts.map enc3), .int a] = .ok (.dict (encC cs)) ∧ Came (fun _ => 0) ts a cs ∧ ∀ p ∈ kys cs, ∀ t ∈ ts, ∀ q, goT (fun _ => 0) t p = some q → q ∈ kys cs := by
  obtain ⟨cs, k, d5, d6, h1, h2, h3⟩ := come_while (ts := ts) ha hn hr 1000 0 [(a, none)] .none .none (by omega) (Nat.zero_le _) .one (fun j _ hj => by omega)
  refine ⟨cs, fnN_rt ?_, h2, h3⟩
  show g_come_to [.list (ts.map enc3), .int a, .none, .none, .none, .none, .none] = _
  unfold g_come_to
  refine seq_step (set_ok (d := .dict (encC [(a, none)])) rfl) ?_
  refine seq_step (set_ok (d := .list ((kys [(a, none)]).map .int)) rfl) ?_
  refine seq_step (set_ok (d := .int 0) rfl) ?_
  refine seq_step h1 ?_
  exact ret_ok rfl
theorem exnL_C : ∀ cs : CL, exnL (encC cs) = false
  | [] => rfl
  | c :: cs => rfl
theorem ring_while {ts : List T3} {c : T3} {cs : CL} (hn : (kys cs).Nodup) {p : Int} {l : List T3} (hb : Bk cs p l) :
    ∀ (u : List T3) (fu : Nat), l.length < fu → u.length + l.length ≤ 1000 → ∃ q : Int, gWhile g_ring_with_T1 g_ring_with_L1 fu [.list (ts.map enc3), enc3 c, .dict (encC cs), .list (u.map enc3), .int p] = .ok (.nx [.list (ts.map enc3), enc3 c, .dict (encC cs), .list ((u ++ l).map enc3), .int q]) := by
  induction hb with
  | @nil p e =>
    intro u fu hf _
    have hx : gOp hDIx (gVar 2) (gVar 4) [.list (ts.map enc3), enc3 c, .dict (encC cs), .list (u.map enc3), .int p] = .ok .none := dix_ok (keyOf_i p) (encC_get (o := none) hn e)
    refine ⟨p, while_f ?_ (by omega) |>.trans (by rw [List.append_nil])⟩
    unfold g_ring_with_T1
    rw [gTest_def, gOp_def, hx]
    rfl
  | @cons p h t l e e2 _ ih =>
    intro u fu hf hl
    rw [List.length_cons] at hf hl
    cases fu with
    | zero => omega
    | succ fu =>
      have hd : ∀ v, gOp hDIx (gVar 2) (gVar 4) [.list (ts.map enc3), enc3 c, .dict (encC cs), .list (v : List Dt), .int p] = .ok (enc3 t) := fun v => dix_ok (keyOf_i p) (encC_get (o := some (h, t)) hn e)
      obtain ⟨q, hq⟩ := ih (u ++ [t]) fu (by omega) (by rw [List.length_append, List.length_singleton]; omega)
      refine ⟨q, (while_t (ρ' := [.list (ts.map enc3), enc3 c, .dict (encC cs), .list ((u ++ [t]).map enc3), .int h]) ?_ ?_).trans (hq.trans (by rw [List.append_assoc]; rfl))⟩
      · unfold g_ring_with_T1
        rw [gTest_def, gOp_def, hd]
        rfl
      · unfold g_ring_with_L1
        refine seq_step (gApp_l (i := 3) (ds := u.map enc3) (d := enc3 t) rfl (hd _) (by rw [List.length_map]; omega)) ?_
        rw [map3_snoc]
        refine (set_ok (d := .int h) ?_).trans rfl
        dsimp only [List.set]
        simp only [gOp_def (h := hSub), gOp_def (h := hAdd), gOp_def (h := hIx), hd, bnd_ok, gC_def, ix3_1, ix3_2, hAdd_i, gVar_def, List.getElem?_cons_zero, List.getElem?_cons_succ, hSub_i, e2]
theorem ring_ok {ts : List T3} {c : T3} {n : Int} (hc : (0 ≤ c.2.1 ∧ c.2.1 < n) ∧ 0 ≤ c.2.2 ∧ c.2.2 < n) (hn : n ≤ 100) (hr : InN n ts) :
    ∃ R, f_ring_with [.list (ts.map enc3), enc3 c] = .ok (.list (R.map enc3)) ∧ IsRing ts c R ∧ R.length ≤ 1000 := by
  obtain ⟨cs, h1, h2, h3⟩ := come_ok hc.1 hn hr
  have hin := closed_conn h2 h3 c.2.2
  have hlen : cs.length ≤ 100 := by
    have := nodup_len h2.nodup (h2.inN hc.1 hr)
    unfold kys at this
    rw [List.length_map] at this
    omega
  have e1 : gSet 2 (gCallN 2 f_come_to (gCons (gVar 0) (gCons (gOp hIx (gPur (gVar 1)) (gC (.int (1)))) (gNil)))) [.list (ts.map enc3), enc3 c, .none, .none, .none] = .ok (.nx [.list (ts.map enc3), enc3 c, .dict (encC cs), .none, .none]) :=
    set_ok (ρ := [.list (ts.map enc3), enc3 c, .none, .none, .none]) (callN_ok (ds := [.list (ts.map enc3), .int c.2.1]) rfl rfl h1)
  have e2 : gTest (gOp (hDInV true) (gOp hIx (gPur (gVar 1)) (gC (.int (2)))) (gVar 2)) [.list (ts.map enc3), enc3 c, .dict (encC cs), .none, .none] = .ok (!decide (c.2.2 ∈ kys cs)) := by
    have : gOp hIx (gPur (gVar 1)) (gC (.int (2))) [.list (ts.map enc3), enc3 c, .dict (encC cs), .none, .none] = .ok (.int c.2.2) := rfl
    rw [gTest_def, gOp_def, this, bnd_ok]
    show bnd (hDInV true (.int c.2.2) (.dict (encC cs))) asB = _
    unfold hDInV
    simp only [exnL_C, Bool.false_eq_true, if_false, keyOf_i, encC_isSome, if_true, bnd_ok, asB_b]
  by_cases z : c.2.2 ∈ kys cs
  · obtain ⟨l, b1, b2, b3, b4, _, b6⟩ := back h2 c.2.2 z
    obtain ⟨q, hq⟩ := ring_while (ts := ts) (c := c) h2.nodup b1 [c] 1000 (by omega) (by rw [List.length_singleton]; omega)
    refine ⟨c :: l, fnL_rt ?_, .inr ⟨hin.mp z, l, rfl, b2, b3, b4⟩, by rw [List.length_cons]; omega⟩
    show g_ring_with [.list (ts.map enc3), enc3 c, .none, .none, .none] = _
    unfold g_ring_with
    refine seq_step e1 ?_
    refine seq_step ((if_f (by rw [e2]; simp [z])).trans rfl) ?_
    refine seq_step (set_ok (d := .list [enc3 c]) rfl) ?_
    refine seq_step (set_ok (d := .int c.2.2) rfl) ?_
    refine seq_step hq ?_
    exact ret_ok rfl
  · refine ⟨[], fnL_rt ?_, .inl ⟨fun y => z (hin.mpr y), rfl⟩, by simp⟩
    show g_ring_with [.list (ts.map enc3), enc3 c, .none, .none, .none] = _
    unfold g_ring_with
    refine seq_step e1 ?_
    exact seq_rt ((if_t (by rw [e2]; simp [z])).trans (ret_ok rfl))
end K16
end T_K16P
section T_FamBP
set_option linter.all false
set_option maxRecDepth 100000
set_option maxHeartbeats 4000000
namespace FamB
open PySem Sim FamA FamL
def potD (r c s : Int) : Dt := .list [.int r, .int c, .int s]
def PotOk (m : Int) (p : Dt) : Prop := ∃ r c s : Int, p = potD r c s ∧ 0 ≤ r ∧ 0 ≤ c ∧ c ≤ m ∧ 0 ≤ s ∧ s < 2147483647
theorem PotOk.mono {m m' : Int} {p : Dt} (h : PotOk m p) (hm : m ≤ m') : PotOk m' p := by
  obtain ⟨r, c, s, h1, h2, h3, h4, h5, h6⟩ := h
  exact ⟨r, c, s, h1, h2, h3, by omega, h5, h6⟩
theorem PotOk.arg {m : Int} {p : Dt} (h : PotOk m p) : argK .la p = true := by
  obtain ⟨r, c, s, rfl, _⟩ := h
  rfl
theorem PotOk.argD {m : Int} {p : Dt} (h : PotOk m p) : argD p = true := by
  obtain ⟨r, c, s, rfl, _⟩ := h
  rfl
theorem ixp0 (r c s : Int) : hIx (potD r c s) (.int 0) = .ok (.int r) := rfl
theorem ixp1 (r c s : Int) : hIx (potD r c s) (.int 1) = .ok (.int c) := rfl
theorem ixp2 (r c s : Int) : hIx (potD r c s) (.int 2) = .ok (.int s) := rfl
theorem take_ok {m size : Int} {p : Dt} (hp : PotOk m p) (hm : m < 1099511627776) (hs : 0 < size) (hs2 : size < 1000000000000000000000000000000000) :
    ∃ d p', f_l_take [p, .int size] = .ok (.tuple [.int d, p']) ∧ 0 ≤ d ∧ d < size ∧ PotOk (m + 1) p' := by
  obtain ⟨r, c, s, rfl, r0, c0, cm, s0, s1⟩ := hp
  have hdv := hDiv_s (i := r) hs hs2
  have hmd := hMod_i (i := r) hs
  by_cases h : 0 < r
  · refine ⟨r % size, potD (r / size) c s, fnN_rt ?_, Int.emod_nonneg _ (by omega), Int.emod_lt_of_pos _ hs, _, _, _, rfl, Int.ediv_nonneg r0 (by omega), c0, by omega, s0, s1⟩
    show g_l_take [potD r c s, .int size, .none, .none] = _
    unfold g_l_take
    refine seq_rt ((if_t (by simp only [bnd_ok, gVar_def, gC_def, gOp_def, gUn_def, gNil_def, gCons_def, gIf_def, gTest_def, gNot_def, gAnd_def, gOr_def, gAndV_def, gOrV_def, gNotV_def, gCB_def, asB_b, hAdd_i, hSub_i, hLt_i, hLe_i, hGt_i, hGe_i, hMul_r, hMul_l, hMod_i, hDiv_s, hBand_i, hShr_i, hPow_10_18, hPow_10_27, hPow_10_28, hPow_10_29, hPow_10_30, hEq_i, hNe_i, hLen_l, hLen_t, hMin2_i, hMax2_i, hMin3_i, hInt1_b, hInt1_i, hBits_i, hListOf_l, hListOf_t, hTupOf_l, hTupOf_t, gSeqS_def, gSet_def, gRet_def, gIfS_def, gNext_def, gTup_def, gLst_def, List.getElem?_cons_zero, List.getElem?_cons_succ, List.set_cons_zero, List.set_cons_succ, List.length_cons, List.length_nil, Nat.zero_add, Nat.reduceAdd, Nat.reduceLeDiff, Nat.reduceSub, Nat.reduceMul, if_true, if_false, Bool.false_eq_true, List.replicate_succ, List.replicate_zero, List.cons_append, List.nil_append, tgN, tgT, tgCons, tgNil, Int.reducePow, Int.reduceAdd, Int.reduceSub, Int.reduceMul, decide_true, decide_false, Bool.not_true, Bool.not_false, gChain_def, hIsa_int, hIsa_intb, hIsa_list, hIsa_tuple, gDrop_def, ixp0, h])).trans ?_)
    refine seq_step (set_ok (d := .int (r % size)) (by simp only [bnd_ok, gVar_def, gC_def, gOp_def, gUn_def, gNil_def, gCons_def, gIf_def, gTest_def, gNot_def, gAnd_def, gOr_def, gAndV_def, gOrV_def, gNotV_def, gCB_def, asB_b, hAdd_i, hSub_i, hLt_i, hLe_i, hGt_i, hGe_i, hMul_r, hMul_l, hMod_i, hDiv_s, hBand_i, hShr_i, hPow_10_18, hPow_10_27, hPow_10_28, hPow_10_29, hPow_10_30, hEq_i, hNe_i, hLen_l, hLen_t, hMin2_i, hMax2_i, hMin3_i, hInt1_b, hInt1_i, hBits_i, hListOf_l, hListOf_t, hTupOf_l, hTupOf_t, gSeqS_def, gSet_def, gRet_def, gIfS_def, gNext_def, gTup_def, gLst_def, List.getElem?_cons_zero, List.getElem?_cons_succ, List.set_cons_zero, List.set_cons_succ, List.length_cons, List.length_nil, Nat.zero_add, Nat.reduceAdd, Nat.reduceLeDiff, Nat.reduceSub, Nat.reduceMul, if_true, if_false, Bool.false_eq_true, List.replicate_succ, List.replicate_zero, List.cons_append, List.nil_append, tgN, tgT, tgCons, tgNil, Int.reducePow, Int.reduceAdd, Int.reduceSub, Int.reduceMul, decide_true, decide_false, Bool.not_true, Bool.not_false, gChain_def, hIsa_int, hIsa_intb, hIsa_list, hIsa_tuple, gDrop_def, ixp0, hmd])) ?_
    dsimp only [List.set]
    refine seq_step (setI_ok (ds := [.int r, .int c, .int s]) (d := .int (r / size)) (j := 0) (by simp only [bnd_ok, gVar_def, gC_def, gOp_def, gUn_def, gNil_def, gCons_def, gIf_def, gTest_def, gNot_def, gAnd_def, gOr_def, gAndV_def, gOrV_def, gNotV_def, gCB_def, asB_b, hAdd_i, hSub_i, hLt_i, hLe_i, hGt_i, hGe_i, hMul_r, hMul_l, hMod_i, hDiv_s, hBand_i, hShr_i, hPow_10_18, hPow_10_27, hPow_10_28, hPow_10_29, hPow_10_30, hEq_i, hNe_i, hLen_l, hLen_t, hMin2_i, hMax2_i, hMin3_i, hInt1_b, hInt1_i, hBits_i, hListOf_l, hListOf_t, hTupOf_l, hTupOf_t, gSeqS_def, gSet_def, gRet_def, gIfS_def, gNext_def, gTup_def, gLst_def, List.getElem?_cons_zero, List.getElem?_cons_succ, List.set_cons_zero, List.set_cons_succ, List.length_cons, List.length_nil, Nat.zero_add, Nat.reduceAdd, Nat.reduceLeDiff, Nat.reduceSub, Nat.reduceMul, if_true, if_false, Bool.false_eq_true, List.replicate_succ, List.replicate_zero, List.cons_append, List.nil_append, tgN, tgT, tgCons, tgNil, Int.reducePow, Int.reduceAdd, Int.reduceSub, Int.reduceMul, decide_true, decide_false, Bool.not_true, Bool.not_false, gChain_def, hIsa_int, hIsa_intb, hIsa_list, hIsa_tuple, gDrop_def, ixp0, hdv]) rfl rfl (by omega) (by simp)) ?_
    exact xret_ok (ρ' := [potD (r / size) c s, .int size, .int (r % size), .none]) (d := .int (r % size)) (e := potD (r / size) c s) (by rfl) rfl rfl
  · have e1 : ∀ x : Int, ∃ v : Int, gOp hMod (gOp hAdd (gOp hAdd (gOp hAdd (gOp hIx (gVar 0) (gC (.int (2)))) (gOp hMul (gOp hMul (gC (.int (977))) (gOp hIx (gVar 0) (gC (.int (1))))) (gOp hIx (gVar 0) (gC (.int (1)))))) (gOp hMul (gC (.int (40693))) (gOp hIx (gVar 0) (gC (.int (1)))))) (gC (.int (1)))) (gC (.int (2147483647))) [potD r (c + 1) s, .int size, .none, .none] = .ok (.int v) ∧ 0 ≤ v ∧ v < 2147483647 := fun _ => by
      refine ⟨(s + 977 * (c + 1) * (c + 1) + 40693 * (c + 1) + 1) % 2147483647, by simp (disch := omega) only [bnd_ok, gVar_def, gC_def, gOp_def, gUn_def, gNil_def, gCons_def, gIf_def, gTest_def, gNot_def, gAnd_def, gOr_def, gAndV_def, gOrV_def, gNotV_def, gCB_def, asB_b, hAdd_i, hSub_i, hLt_i, hLe_i, hGt_i, hGe_i, hMul_r, hMul_l, hMod_i, hDiv_s, hBand_i, hShr_i, hPow_10_18, hPow_10_27, hPow_10_28, hPow_10_29, hPow_10_30, hEq_i, hNe_i, hLen_l, hLen_t, hMin2_i, hMax2_i, hMin3_i, hInt1_b, hInt1_i, hBits_i, hListOf_l, hListOf_t, hTupOf_l, hTupOf_t, gSeqS_def, gSet_def, gRet_def, gIfS_def, gNext_def, gTup_def, gLst_def, List.getElem?_cons_zero, List.getElem?_cons_succ, List.set_cons_zero, List.set_cons_succ, List.length_cons, List.length_nil, Nat.zero_add, Nat.reduceAdd, Nat.reduceLeDiff, Nat.reduceSub, Nat.reduceMul, if_true, if_false, Bool.false_eq_true, List.replicate_succ, List.replicate_zero, List.cons_append, List.nil_append, tgN, tgT, tgCons, tgNil, Int.reducePow, Int.reduceAdd, Int.reduceSub, Int.reduceMul, decide_true, decide_false, Bool.not_true, Bool.not_false, gChain_def, hIsa_int, hIsa_intb, hIsa_list, hIsa_tuple, gDrop_def, ixp1, ixp2], by omega, by omega⟩
    obtain ⟨v, e1, v0, v1⟩ := e1 0
    have e2 : ∃ u : Int, gOp hMod (gOp hMul (gOp hMod (gOp hMul (gVar 3) (gVar 3)) (gC (.int (1000000007)))) (gC (.int (48271)))) (gC (.int (998244353))) [potD r (c + 1) s, .int size, .none, .int v] = .ok (.int u) ∧ 0 ≤ u := by
      refine ⟨v * v % 1000000007 * 48271 % 998244353, by simp (disch := omega) only [bnd_ok, gVar_def, gC_def, gOp_def, gUn_def, gNil_def, gCons_def, gIf_def, gTest_def, gNot_def, gAnd_def, gOr_def, gAndV_def, gOrV_def, gNotV_def, gCB_def, asB_b, hAdd_i, hSub_i, hLt_i, hLe_i, hGt_i, hGe_i, hMul_r, hMul_l, hMod_i, hDiv_s, hBand_i, hShr_i, hPow_10_18, hPow_10_27, hPow_10_28, hPow_10_29, hPow_10_30, hEq_i, hNe_i, hLen_l, hLen_t, hMin2_i, hMax2_i, hMin3_i, hInt1_b, hInt1_i, hBits_i, hListOf_l, hListOf_t, hTupOf_l, hTupOf_t, gSeqS_def, gSet_def, gRet_def, gIfS_def, gNext_def, gTup_def, gLst_def, List.getElem?_cons_zero, List.getElem?_cons_succ, List.set_cons_zero, List.set_cons_succ, List.length_cons, List.length_nil, Nat.zero_add, Nat.reduceAdd, Nat.reduceLeDiff, Nat.reduceSub, Nat.reduceMul, if_true, if_false, Bool.false_eq_true, List.replicate_succ, List.replicate_zero, List.cons_append, List.nil_append, tgN, tgT, tgCons, tgNil, Int.reducePow, Int.reduceAdd, Int.reduceSub, Int.reduceMul, decide_true, decide_false, Bool.not_true, Bool.not_false, gChain_def, hIsa_int, hIsa_intb, hIsa_list, hIsa_tuple, gDrop_def], by omega⟩
    obtain ⟨u, e2, u0⟩ := e2
    have hm2 := hMod_i (i := u / 8) hs
    refine ⟨u / 8 % size, potD r (c + 1) s, fnN_rt ?_, Int.emod_nonneg _ (by omega), Int.emod_lt_of_pos _ hs, _, _, _, rfl, r0, by omega, by omega, s0, s1⟩
    show g_l_take [potD r c s, .int size, .none, .none] = _
    unfold g_l_take
    refine seq_step ((if_f (by simp only [bnd_ok, gVar_def, gC_def, gOp_def, gUn_def, gNil_def, gCons_def, gIf_def, gTest_def, gNot_def, gAnd_def, gOr_def, gAndV_def, gOrV_def, gNotV_def, gCB_def, asB_b, hAdd_i, hSub_i, hLt_i, hLe_i, hGt_i, hGe_i, hMul_r, hMul_l, hMod_i, hDiv_s, hBand_i, hShr_i, hPow_10_18, hPow_10_27, hPow_10_28, hPow_10_29, hPow_10_30, hEq_i, hNe_i, hLen_l, hLen_t, hMin2_i, hMax2_i, hMin3_i, hInt1_b, hInt1_i, hBits_i, hListOf_l, hListOf_t, hTupOf_l, hTupOf_t, gSeqS_def, gSet_def, gRet_def, gIfS_def, gNext_def, gTup_def, gLst_def, List.getElem?_cons_zero, List.getElem?_cons_succ, List.set_cons_zero, List.set_cons_succ, List.length_cons, List.length_nil, Nat.zero_add, Nat.reduceAdd, Nat.reduceLeDiff, Nat.reduceSub, Nat.reduceMul, if_true, if_false, Bool.false_eq_true, List.replicate_succ, List.replicate_zero, List.cons_append, List.nil_append, tgN, tgT, tgCons, tgNil, Int.reducePow, Int.reduceAdd, Int.reduceSub, Int.reduceMul, decide_true, decide_false, Bool.not_true, Bool.not_false, gChain_def, hIsa_int, hIsa_intb, hIsa_list, hIsa_tuple, gDrop_def, ixp0, h])).trans rfl) ?_
    refine seq_step (setI_ok (ds := [.int r, .int c, .int s]) (d := .int (c + 1)) (j := 1) (by simp only [bnd_ok, gVar_def, gC_def, gOp_def, gUn_def, gNil_def, gCons_def, gIf_def, gTest_def, gNot_def, gAnd_def, gOr_def, gAndV_def, gOrV_def, gNotV_def, gCB_def, asB_b, hAdd_i, hSub_i, hLt_i, hLe_i, hGt_i, hGe_i, hMul_r, hMul_l, hMod_i, hDiv_s, hBand_i, hShr_i, hPow_10_18, hPow_10_27, hPow_10_28, hPow_10_29, hPow_10_30, hEq_i, hNe_i, hLen_l, hLen_t, hMin2_i, hMax2_i, hMin3_i, hInt1_b, hInt1_i, hBits_i, hListOf_l, hListOf_t, hTupOf_l, hTupOf_t, gSeqS_def, gSet_def, gRet_def, gIfS_def, gNext_def, gTup_def, gLst_def, List.getElem?_cons_zero, List.getElem?_cons_succ, List.set_cons_zero, List.set_cons_succ, List.length_cons, List.length_nil, Nat.zero_add, Nat.reduceAdd, Nat.reduceLeDiff, Nat.reduceSub, Nat.reduceMul, if_true, if_false, Bool.false_eq_true, List.replicate_succ, List.replicate_zero, List.cons_append, List.nil_append, tgN, tgT, tgCons, tgNil, Int.reducePow, Int.reduceAdd, Int.reduceSub, Int.reduceMul, decide_true, decide_false, Bool.not_true, Bool.not_false, gChain_def, hIsa_int, hIsa_intb, hIsa_list, hIsa_tuple, gDrop_def, ixp1]) rfl rfl (by omega) (by simp)) ?_
    show gSeqS _ _ [potD r (c + 1) s, .int size, .none, .none] = _
    refine seq_step (set_ok e1) ?_
    dsimp only [List.set]
    refine seq_step (set_ok e2) ?_
    dsimp only [List.set]
    exact xret_ok (ρ' := [potD r (c + 1) s, .int size, .none, .int u]) (d := .int (u / 8 % size)) (e := potD r (c + 1) s) (by rw [xP_def]; simp (disch := omega) only [bnd_ok, gVar_def, gC_def, gOp_def, gUn_def, gNil_def, gCons_def, gIf_def, gTest_def, gNot_def, gAnd_def, gOr_def, gAndV_def, gOrV_def, gNotV_def, gCB_def, asB_b, hAdd_i, hSub_i, hLt_i, hLe_i, hGt_i, hGe_i, hMul_r, hMul_l, hMod_i, hDiv_s, hBand_i, hShr_i, hPow_10_18, hPow_10_27, hPow_10_28, hPow_10_29, hPow_10_30, hEq_i, hNe_i, hLen_l, hLen_t, hMin2_i, hMax2_i, hMin3_i, hInt1_b, hInt1_i, hBits_i, hListOf_l, hListOf_t, hTupOf_l, hTupOf_t, gSeqS_def, gSet_def, gRet_def, gIfS_def, gNext_def, gTup_def, gLst_def, List.getElem?_cons_zero, List.getElem?_cons_succ, List.set_cons_zero, List.set_cons_succ, List.length_cons, List.length_nil, Nat.zero_add, Nat.reduceAdd, Nat.reduceLeDiff, Nat.reduceSub, Nat.reduceMul, if_true, if_false, Bool.false_eq_true, List.replicate_succ, List.replicate_zero, List.cons_append, List.nil_append, tgN, tgT, tgCons, tgNil, Int.reducePow, Int.reduceAdd, Int.reduceSub, Int.reduceMul, decide_true, decide_false, Bool.not_true, Bool.not_false, gChain_def, hIsa_int, hIsa_intb, hIsa_list, hIsa_tuple, gDrop_def, hm2]) rfl rfl
theorem tk_ok {m size : Int} {p : Dt} {i : Nat} {gA : List Dt → O (List Dt × List Dt)} {ρ ρ' : List Dt} (h1 : gA ρ = .ok ([.int size], ρ')) (h3 : ρ'[i]? = some p) (hp : PotOk m p) (hm : m < 1099511627776) (hs : 0 < size) (hs2 : size < 1000000000000000000000000000000000) :
    ∃ d p', xCallM .la 2 f_l_take i gA ρ = .ok (.int d, ρ'.set i p') ∧ 0 ≤ d ∧ d < size ∧ PotOk (m + 1) p' := by
  obtain ⟨d, p', h, d0, d1, hp'⟩ := take_ok hp hm hs hs2
  exact ⟨d, p', xcallM_ok h1 rfl h3 hp.arg h hp'.arg, d0, d1, hp'⟩
theorem wide_ok {m size : Int} {p : Dt} (hp : PotOk m p) (hm : m < 1099511627700) (hs : 0 < size) (hs2 : size < 1000000000000000000000000000000000) :
    ∃ d p', f_l_wide [p, .int size] = .ok (.tuple [.int d, p']) ∧ 0 ≤ d ∧ d < size ∧ PotOk (m + 5) p' := by
  obtain ⟨r, c, s, hpe, _⟩ := id hp
  have h6 : hPow (.int 10) (.int 6) = .ok (.int 1000000) := by
    show (if cPow 10 6 then O.ok (PyData.int ((10 : Int) ^ (6 : Int).toNat)) else .bad) = _
    rw [if_pos (by decide)]
    rfl
  have ht : ∃ b, gOr (gTest (gOp hGt (gOp hIx (gVar 0) (gC (.int (0)))) (gC (.int (0))))) (gTest (gOp hLt (gVar 1) (gOp hPow (gC (.int (10))) (gC (.int (6)))))) [p, .int size, .none, .none] = .ok b := by
    subst hpe
    rw [gOr_def]
    by_cases h : 0 < r
    · exact ⟨true, by simp only [bnd_ok, gVar_def, gC_def, gOp_def, gUn_def, gNil_def, gCons_def, gIf_def, gTest_def, gNot_def, gAnd_def, gOr_def, gAndV_def, gOrV_def, gNotV_def, gCB_def, asB_b, hAdd_i, hSub_i, hLt_i, hLe_i, hGt_i, hGe_i, hMul_r, hMul_l, hMod_i, hDiv_s, hBand_i, hShr_i, hPow_10_18, hPow_10_27, hPow_10_28, hPow_10_29, hPow_10_30, hEq_i, hNe_i, hLen_l, hLen_t, hMin2_i, hMax2_i, hMin3_i, hInt1_b, hInt1_i, hBits_i, hListOf_l, hListOf_t, hTupOf_l, hTupOf_t, gSeqS_def, gSet_def, gRet_def, gIfS_def, gNext_def, gTup_def, gLst_def, List.getElem?_cons_zero, List.getElem?_cons_succ, List.set_cons_zero, List.set_cons_succ, List.length_cons, List.length_nil, Nat.zero_add, Nat.reduceAdd, Nat.reduceLeDiff, Nat.reduceSub, Nat.reduceMul, if_true, if_false, Bool.false_eq_true, List.replicate_succ, List.replicate_zero, List.cons_append, List.nil_append, tgN, tgT, tgCons, tgNil, Int.reducePow, Int.reduceAdd, Int.reduceSub, Int.reduceMul, decide_true, decide_false, Bool.not_true, Bool.not_false, gChain_def, hIsa_int, hIsa_intb, hIsa_list, hIsa_tuple, gDrop_def, ixp0, h]⟩
    · exact ⟨decide (size < 1000000), by simp only [bnd_ok, gVar_def, gC_def, gOp_def, gUn_def, gNil_def, gCons_def, gIf_def, gTest_def, gNot_def, gAnd_def, gOr_def, gAndV_def, gOrV_def, gNotV_def, gCB_def, asB_b, hAdd_i, hSub_i, hLt_i, hLe_i, hGt_i, hGe_i, hMul_r, hMul_l, hMod_i, hDiv_s, hBand_i, hShr_i, hPow_10_18, hPow_10_27, hPow_10_28, hPow_10_29, hPow_10_30, hEq_i, hNe_i, hLen_l, hLen_t, hMin2_i, hMax2_i, hMin3_i, hInt1_b, hInt1_i, hBits_i, hListOf_l, hListOf_t, hTupOf_l, hTupOf_t, gSeqS_def, gSet_def, gRet_def, gIfS_def, gNext_def, gTup_def, gLst_def, List.getElem?_cons_zero, List.getElem?_cons_succ, List.set_cons_zero, List.set_cons_succ, List.length_cons, List.length_nil, Nat.zero_add, Nat.reduceAdd, Nat.reduceLeDiff, Nat.reduceSub, Nat.reduceMul, if_true, if_false, Bool.false_eq_true, List.replicate_succ, List.replicate_zero, List.cons_append, List.nil_append, tgN, tgT, tgCons, tgNil, Int.reducePow, Int.reduceAdd, Int.reduceSub, Int.reduceMul, decide_true, decide_false, Bool.not_true, Bool.not_false, gChain_def, hIsa_int, hIsa_intb, hIsa_list, hIsa_tuple, gDrop_def, ixp0, h, h6]⟩
  obtain ⟨b, ht⟩ := ht
  cases b with
  | true =>
    obtain ⟨d, p', h, d0, d1, hp'⟩ := tk_ok (i := 0) (gA := xCons (xP (gVar 1)) xNil) (ρ := [p, .int size, .none, .none]) (ρ' := [p, .int size, .none, .none]) rfl rfl hp (by omega) hs hs2
    refine ⟨d, p', fnN_rt ?_, d0, d1, hp'.mono (by omega)⟩
    show g_l_wide [p, .int size, .none, .none] = _
    unfold g_l_wide
    exact seq_rt ((if_t ht).trans (xret_ok h rfl hp'.argD))
  | false =>
    obtain ⟨ρ', hf, x, p', x3, rfl, hp'⟩ := forE_ix (fun (j : Nat) => PyData.int (0 + (j : Int))) (h := tgN 3) (b := g_l_wide_L1) (List.range 5)
      (fun i ρ => ∃ (x : Int) (p' x3 : Dt), ρ = [p', .int size, .int x, x3] ∧ PotOk (m + i) p') (ρ := [p, .int size, .int 0, .none]) ⟨0, p, .none, rfl, hp.mono (by omega)⟩ (by
        rintro i ρ hi ⟨x, p', x3, rfl, hp'⟩
        rw [List.length_range] at hi
        obtain ⟨d, p'', h, d0, d1, hp''⟩ := tk_ok (i := 0) (gA := xCons (xP (gC (.int (1000003)))) xNil) (ρ := [p', .int size, .int x, .int (0 + ((List.range 5)[i] : Nat))]) rfl rfl hp' (by omega) (by omega : (0 : Int) < 1000003) (by omega)
        refine ⟨[p', .int size, .int x, .int (0 + ((List.range 5)[i] : Nat))], _, rfl, .inl ?_, x * 1000003 + d, p'', .int (0 + ((List.range 5)[i] : Nat)), rfl, hp''.mono (by omega)⟩
        unfold g_l_wide_L1
        refine xset_ok (ρ' := [p'', .int size, .int x, .int (0 + ((List.range 5)[i] : Nat))]) (d := .int (x * 1000003 + d)) ?_
        rw [xOp_def, xP_def]
        have e : gOp hMul (gVar 2) (gC (.int (1000003))) [p', .int size, .int x, .int (0 + ((List.range 5)[i] : Nat))] = .ok (.int (x * 1000003)) := by simp (disch := omega) only [bnd_ok, gVar_def, gC_def, gOp_def, gUn_def, gNil_def, gCons_def, gIf_def, gTest_def, gNot_def, gAnd_def, gOr_def, gAndV_def, gOrV_def, gNotV_def, gCB_def, asB_b, hAdd_i, hSub_i, hLt_i, hLe_i, hGt_i, hGe_i, hMul_r, hMul_l, hMod_i, hDiv_s, hBand_i, hShr_i, hPow_10_18, hPow_10_27, hPow_10_28, hPow_10_29, hPow_10_30, hEq_i, hNe_i, hLen_l, hLen_t, hMin2_i, hMax2_i, hMin3_i, hInt1_b, hInt1_i, hBits_i, hListOf_l, hListOf_t, hTupOf_l, hTupOf_t, gSeqS_def, gSet_def, gRet_def, gIfS_def, gNext_def, gTup_def, gLst_def, List.getElem?_cons_zero, List.getElem?_cons_succ, List.set_cons_zero, List.set_cons_succ, List.length_cons, List.length_nil, Nat.zero_add, Nat.reduceAdd, Nat.reduceLeDiff, Nat.reduceSub, Nat.reduceMul, if_true, if_false, Bool.false_eq_true, List.replicate_succ, List.replicate_zero, List.cons_append, List.nil_append, tgN, tgT, tgCons, tgNil, Int.reducePow, Int.reduceAdd, Int.reduceSub, Int.reduceMul, decide_true, decide_false, Bool.not_true, Bool.not_false, gChain_def, hIsa_int, hIsa_intb, hIsa_list, hIsa_tuple, gDrop_def]
        rw [e, bnd_ok, bnd_ok, h]
        rfl)
    rw [List.length_range] at hp'
    have hm2 := hMod_i (i := x) hs
    refine ⟨x % size, p', fnN_rt ?_, Int.emod_nonneg _ (by omega), Int.emod_lt_of_pos _ hs, hp'⟩
    show g_l_wide [p, .int size, .none, .none] = _
    unfold g_l_wide
    refine seq_step ((if_f ht).trans rfl) ?_
    refine seq_step (set_ok (d := .int 0) rfl) ?_
    dsimp only [List.set]
    refine seq_step (for_ok (ds := (List.range 5).map fun (j : Nat) => PyData.int (0 + (j : Int))) ?_ hf) ?_
    · rw [rng1_ok (j := 5) (by rfl) (by omega) (by omega)]
      rfl
    · exact xret_ok (d := .int (x % size)) (ρ' := [p', .int size, .int x, x3]) (by rw [xP_def]; simp (disch := omega) only [bnd_ok, gVar_def, gC_def, gOp_def, gUn_def, gNil_def, gCons_def, gIf_def, gTest_def, gNot_def, gAnd_def, gOr_def, gAndV_def, gOrV_def, gNotV_def, gCB_def, asB_b, hAdd_i, hSub_i, hLt_i, hLe_i, hGt_i, hGe_i, hMul_r, hMul_l, hMod_i, hDiv_s, hBand_i, hShr_i, hPow_10_18, hPow_10_27, hPow_10_28, hPow_10_29, hPow_10_30, hEq_i, hNe_i, hLen_l, hLen_t, hMin2_i, hMax2_i, hMin3_i, hInt1_b, hInt1_i, hBits_i, hListOf_l, hListOf_t, hTupOf_l, hTupOf_t, gSeqS_def, gSet_def, gRet_def, gIfS_def, gNext_def, gTup_def, gLst_def, List.getElem?_cons_zero, List.getElem?_cons_succ, List.set_cons_zero, List.set_cons_succ, List.length_cons, List.length_nil, Nat.zero_add, Nat.reduceAdd, Nat.reduceLeDiff, Nat.reduceSub, Nat.reduceMul, if_true, if_false, Bool.false_eq_true, List.replicate_succ, List.replicate_zero, List.cons_append, List.nil_append, tgN, tgT, tgCons, tgNil, Int.reducePow, Int.reduceAdd, Int.reduceSub, Int.reduceMul, decide_true, decide_false, Bool.not_true, Bool.not_false, gChain_def, hIsa_int, hIsa_intb, hIsa_list, hIsa_tuple, gDrop_def, hm2]) rfl hp'.argD
theorem ix_list {xs : List Int} {i lo hi : Int} (h0 : 0 ≤ i) (h1 : i < xs.length) (hx : ∀ x ∈ xs, lo ≤ x ∧ x ≤ hi) : ∃ x, hIx (.list (xs.map .int)) (.int i) = .ok (.int x) ∧ lo ≤ x ∧ x ≤ hi :=
  ⟨_, hIx_ints h0 h1, hx _ (List.getElem_mem _)⟩
theorem places_ok {m : Int} {p : Dt} (hp : PotOk m p) (hm : m < 1099511627700) : ∃ n p', f_l_places [p] = .ok (.tuple [.int n, p']) ∧ 1 ≤ n ∧ n ≤ 10 ∧ PotOk (m + 2) p' := by
  obtain ⟨d, p1, h, d0, d1, hp1⟩ := tk_ok (i := 0) (gA := xCons (xP (gC (.int (8)))) xNil) (ρ := [p]) rfl rfl hp (by omega) (by omega : (0 : Int) < 8) (by omega)
  obtain ⟨x, hx, x0, x1⟩ := ix_list (xs := [6, 5, 6, 4, 6, 3, 5, 10]) (lo := 3) (hi := 10) d0 d1 (by decide)
  obtain ⟨e, p2, h2, e0, e1, hp2⟩ := tk_ok (i := 0) (gA := xCons (xOp hIx (xP (gLst (gCons (gC (.int (6))) (gCons (gC (.int (5))) (gCons (gC (.int (6))) (gCons (gC (.int (4))) (gCons (gC (.int (6))) (gCons (gC (.int (3))) (gCons (gC (.int (5))) (gCons (gC (.int (10))) (gNil))))))))))) (xCallM .la 2 f_l_take 0 (xCons (xP (gC (.int (8)))) (xNil)))) (xNil)) (ρ := [p]) (ρ' := [p1]) (size := x) (by
    rw [xCons_def, xOp_def]
    have e : xP (gLst (gCons (gC (.int (6))) (gCons (gC (.int (5))) (gCons (gC (.int (6))) (gCons (gC (.int (4))) (gCons (gC (.int (6))) (gCons (gC (.int (3))) (gCons (gC (.int (5))) (gCons (gC (.int (10))) (gNil)))))))))) [p] = .ok (.list ([6, 5, 6, 4, 6, 3, 5, 10].map .int), [p]) := rfl
    rw [e, bnd_ok, h, bnd_ok, hx]
    rfl) rfl hp1 (by omega) (by omega) (by omega)
  refine ⟨1 + e, p2, fnN_rt ?_, by omega, by omega, hp2.mono (by omega)⟩
  show g_l_places [p] = _
  unfold g_l_places
  refine xret_ok (d := .int (1 + e)) (ρ' := [p2]) ?_ rfl hp2.argD
  rw [xOp_def, xP_def, gC_def, bnd_ok, bnd_ok, h2]
  rfl
theorem depth_ok {m : Int} {p : Dt} (hp : PotOk m p) (hm : m < 1099511627700) : ∃ (k : Nat) (p' : Dt), f_l_depth [p] = .ok (.tuple [.int (k : Nat), p']) ∧ 1 ≤ k ∧ k ≤ 6 ∧ PotOk (m + 2) p' := by
  obtain ⟨d, p1, h, d0, d1, hp1⟩ := tk_ok (i := 0) (gA := xCons (xP (gC (.int (4)))) xNil) (ρ := [p]) rfl rfl hp (by omega) (by omega : (0 : Int) < 4) (by omega)
  obtain ⟨x, hx, x0, x1⟩ := ix_list (xs := [3, 4, 2, 6]) (lo := 2) (hi := 6) d0 d1 (by decide)
  obtain ⟨e, p2, h2, e0, e1, hp2⟩ := tk_ok (i := 0) (gA := xCons (xOp hIx (xP (gLst (gCons (gC (.int (3))) (gCons (gC (.int (4))) (gCons (gC (.int (2))) (gCons (gC (.int (6))) (gNil))))))) (xCallM .la 2 f_l_take 0 (xCons (xP (gC (.int (4)))) (xNil)))) (xNil)) (ρ := [p]) (ρ' := [p1]) (size := x) (by
    rw [xCons_def, xOp_def]
    have e : xP (gLst (gCons (gC (.int (3))) (gCons (gC (.int (4))) (gCons (gC (.int (2))) (gCons (gC (.int (6))) (gNil)))))) [p] = .ok (.list ([3, 4, 2, 6].map .int), [p]) := rfl
    rw [e, bnd_ok, h, bnd_ok, hx]
    rfl) rfl hp1 (by omega) (by omega) (by omega)
  refine ⟨(1 + e).toNat, p2, ?_, by omega, by omega, hp2.mono (by omega)⟩
  rw [show (((1 + e).toNat : Nat) : Int) = 1 + e by omega]
  refine fnN_rt ?_
  show g_l_depth [p] = _
  unfold g_l_depth
  refine xret_ok (d := .int (1 + e)) (ρ' := [p2]) ?_ rfl hp2.argD
  rw [xOp_def, xP_def, gC_def, bnd_ok, bnd_ok, h2]
  rfl
theorem enc_canLay : ∀ r : List T3, PyData.canLayAll0 (r.map enc3) = true
  | [] => rfl
  | t :: r => by
    rw [List.map_cons]
    unfold PyData.canLayAll0
    rw [enc_canLay r]
    rfl
theorem enc_depth : ∀ r : List T3, PyData.depthAll (r.map enc3) ≤ 1
  | [] => by simp [PyData.depthAll]
  | t :: r => by
    rw [List.map_cons]
    unfold PyData.depthAll
    have := enc_depth r
    have e : (enc3 t).depth = 1 := rfl
    rw [e]
    omega
theorem enc_shaped (r : List T3) : SeqAt.shaped (.list (r.map enc3)) = true := by
  have := enc_depth r
  simp [SeqAt.shaped, PyData.canLay0, PyData.depth, enc_canLay]
  omega
theorem hNe_nil (r : List T3) : hNe (.list (r.map enc3)) (.list []) = .ok (.bool (!r.isEmpty)) := by
  have e := enc_shaped []
  rw [List.map_nil] at e
  unfold hNe
  rw [enc_shaped, e]
  cases r with
  | nil => simp [PyData.eqv, PyData.eqvAll]
  | cons t r => simp [PyData.eqv, PyData.eqvAll]
theorem ends_ok {m n : Int} {p : Dt} {r : List T3} (hp : PotOk m p) (hm : m < 1099511627700) (n1 : 1 ≤ n) (n10 : n ≤ 1000) (hr : InN n r) (hl : r.length ≤ 1000) :
    ∃ a b p', f_l_ends [p, .int n, .list (r.map enc3)] = .ok (.tuple [.tuple [.int a, .int b], p']) ∧ 0 ≤ a ∧ a ≤ b ∧ b < n ∧ PotOk (m + 4) p' := by
  obtain ⟨a, p1, h1, a0, a1, hp1⟩ := tk_ok (i := 0) (gA := xCons (xP (gVar 1)) xNil) (ρ := [p, .int n, .list (r.map enc3), .none, .none, .none]) rfl rfl hp (by omega) (by omega : 0 < n) (by omega)
  obtain ⟨b, p2, h2, b0, b1, hp2⟩ := tk_ok (i := 0) (gA := xCons (xP (gVar 1)) xNil) (ρ := [p1, .int n, .list (r.map enc3), .int a, .none, .none]) rfl rfl hp1 (by omega) (by omega : 0 < n) (by omega)
  have fin : ∀ (a b : Int) (p' x5 : Dt), 0 ≤ a → a < n → 0 ≤ b → b < n → PotOk (m + 4) p' → ∃ a' b', xRetM (xP (gTup (gCons (gCB hMin2 (gCons (gVar 3) (gCons (gVar 4) (gNil)))) (gCons (gCB hMax2 (gCons (gVar 3) (gCons (gVar 4) (gNil)))) (gNil))))) [p', .int n, .list (r.map enc3), .int a, .int b, x5] = .ok (.rt (.tuple [.tuple [.int a', .int b'], p'])) ∧ 0 ≤ a' ∧ a' ≤ b' ∧ b' < n := fun a b p' x5 a0 a1 b0 b1 hp' => by
    refine ⟨if b < a then b else a, if b > a then b else a, xret_ok (ρ' := [p', .int n, .list (r.map enc3), .int a, .int b, x5]) (d := .tuple [.int (if b < a then b else a), .int (if b > a then b else a)]) (by rw [xP_def]; simp only [bnd_ok, gVar_def, gC_def, gOp_def, gUn_def, gNil_def, gCons_def, gIf_def, gTest_def, gNot_def, gAnd_def, gOr_def, gAndV_def, gOrV_def, gNotV_def, gCB_def, asB_b, hAdd_i, hSub_i, hLt_i, hLe_i, hGt_i, hGe_i, hMul_r, hMul_l, hMod_i, hDiv_s, hBand_i, hShr_i, hPow_10_18, hPow_10_27, hPow_10_28, hPow_10_29, hPow_10_30, hEq_i, hNe_i, hLen_l, hLen_t, hMin2_i, hMax2_i, hMin3_i, hInt1_b, hInt1_i, hBits_i, hListOf_l, hListOf_t, hTupOf_l, hTupOf_t, gSeqS_def, gSet_def, gRet_def, gIfS_def, gNext_def, gTup_def, gLst_def, List.getElem?_cons_zero, List.getElem?_cons_succ, List.set_cons_zero, List.set_cons_succ, List.length_cons, List.length_nil, Nat.zero_add, Nat.reduceAdd, Nat.reduceLeDiff, Nat.reduceSub, Nat.reduceMul, if_true, if_false, Bool.false_eq_true, List.replicate_succ, List.replicate_zero, List.cons_append, List.nil_append, tgN, tgT, tgCons, tgNil, Int.reducePow, Int.reduceAdd, Int.reduceSub, Int.reduceMul, decide_true, decide_false, Bool.not_true, Bool.not_false, gChain_def, hIsa_int, hIsa_intb, hIsa_list, hIsa_tuple, gDrop_def]) rfl hp'.argD, ?_, ?_, ?_⟩
    · split <;> omega
    · split <;> split <;> omega
    · split <;> omega
  have hpre : ∀ z, gSeqS (xSet 3 (xCallM .la 2 f_l_take 0 (xCons (xP (gVar 1)) (xNil)))) (gSeqS (xSet 4 (xCallM .la 2 f_l_take 0 (xCons (xP (gVar 1)) (xNil)))) z) [p, .int n, .list (r.map enc3), .none, .none, .none] = z [p2, .int n, .list (r.map enc3), .int a, .int b, .none] := fun z =>
    seq_step (xset_ok h1) (seq_step (xset_ok h2) rfl)
  suffices hmid : ∃ (a' b' : Int) (p' x5 : Dt), xIfS (xAnd (xPT (gTest (gOp hNe (gVar 2) (gLst (gNil))))) (xTest (xOp hEq (xCallM .la 2 f_l_take 0 (xCons (xP (gC (.int (4)))) (xNil))) (xP (gC (.int (0))))))) (xAsg (xOp hIx (xP (gVar 2)) (xCallM .la 2 f_l_take 0 (xCons (xP (gCB hLen (gCons (gVar 2) (gNil)))) (xNil)))) (tgT (tgCons (tgN 5) (tgCons (tgN 3) (tgCons (tgN 4) (tgNil)))))) (gNext) [p2, .int n, .list (r.map enc3), .int a, .int b, .none]
      = .ok (.nx [p', .int n, .list (r.map enc3), .int a', .int b', x5]) ∧ 0 ≤ a' ∧ a' < n ∧ 0 ≤ b' ∧ b' < n ∧ PotOk (m + 4) p' by
    obtain ⟨a', b', p', x5, hm', q0, q1, q2, q3, hp'⟩ := hmid
    obtain ⟨a2, b2, hf, w0, w1, w2⟩ := fin a' b' p' x5 q0 q1 q2 q3 hp'
    refine ⟨a2, b2, p', fnN_rt ?_, w0, w1, w2, hp'⟩
    show g_l_ends [p, .int n, .list (r.map enc3), .none, .none, .none] = _
    unfold g_l_ends
    rw [hpre]
    exact seq_step hm' hf
  have hne := hNe_nil r
  have hL : ∀ ρ, gLst gNil ρ = .ok (.list []) := fun ρ => by rw [gLst_def, gNil_def, bnd_ok, if_pos (by simp)]
  have ht : ∀ z, (!r.isEmpty) = z → xPT (gTest (gOp hNe (gVar 2) (gLst (gNil)))) [p2, .int n, .list (r.map enc3), .int a, .int b, .none] = .ok (z, [p2, .int n, .list (r.map enc3), .int a, .int b, .none]) := fun z e => by
    rw [xPT_def, gTest_def, gOp_def, hL]
    simp only [gVar_def, List.getElem?_cons_zero, List.getElem?_cons_succ, bnd_ok, hne, asB_b, e]
  by_cases c : r = []
  · refine ⟨a, b, p2, .none, (xIf_f ?_).trans rfl, a0, a1, b0, b1, hp2.mono (by omega)⟩
    rw [xAnd_def, ht false (by rw [c]; rfl)]
    rfl
  · have hpos : 0 < r.length := List.length_pos_iff.mpr c
    obtain ⟨d, p3, h3, d0, d1, hp3⟩ := tk_ok (i := 0) (gA := xCons (xP (gC (.int (4)))) xNil) (ρ := [p2, .int n, .list (r.map enc3), .int a, .int b, .none]) rfl rfl hp2 (by omega) (by omega : (0 : Int) < 4) (by omega)
    have h3 : xCallM .la 2 f_l_take 0 (xCons (xP (gC (.int (4)))) xNil) [p2, .int n, .list (r.map enc3), .int a, .int b, .none] = .ok (.int d, [p3, .int n, .list (r.map enc3), .int a, .int b, .none]) := h3
    have htest : xAnd (xPT (gTest (gOp hNe (gVar 2) (gLst (gNil))))) (xTest (xOp hEq (xCallM .la 2 f_l_take 0 (xCons (xP (gC (.int (4)))) (xNil))) (xP (gC (.int (0)))))) [p2, .int n, .list (r.map enc3), .int a, .int b, .none] = .ok (d == 0, [p3, .int n, .list (r.map enc3), .int a, .int b, .none]) := by
      rw [xAnd_def, ht true (by cases r with | nil => exact absurd rfl c | cons => rfl)]
      show xTest _ _ = _
      rw [xTest_def, xOp_def, h3]
      simp only [bnd_ok, xP_def, gC_def, hEq_i, asB_b]
    cases e : (d == 0) with
    | false =>
      rw [e] at htest
      exact ⟨a, b, p3, .none, (xIf_f htest).trans rfl, a0, a1, b0, b1, hp3.mono (by omega)⟩
    | true =>
      rw [e] at htest
      obtain ⟨j, p4, h4, j0, j1, hp4⟩ := tk_ok (i := 0) (gA := xCons (xP (gCB hLen (gCons (gVar 2) (gNil)))) xNil) (ρ := [p3, .int n, .list (r.map enc3), .int a, .int b, .none]) (ρ' := [p3, .int n, .list (r.map enc3), .int a, .int b, .none]) (size := (r.length : Int)) (by
        rw [xCons_def, xP_def]
        simp only [bnd_ok, gVar_def, gC_def, gOp_def, gUn_def, gNil_def, gCons_def, gIf_def, gTest_def, gNot_def, gAnd_def, gOr_def, gAndV_def, gOrV_def, gNotV_def, gCB_def, asB_b, hAdd_i, hSub_i, hLt_i, hLe_i, hGt_i, hGe_i, hMul_r, hMul_l, hMod_i, hDiv_s, hBand_i, hShr_i, hPow_10_18, hPow_10_27, hPow_10_28, hPow_10_29, hPow_10_30, hEq_i, hNe_i, hLen_l, hLen_t, hMin2_i, hMax2_i, hMin3_i, hInt1_b, hInt1_i, hBits_i, hListOf_l, hListOf_t, hTupOf_l, hTupOf_t, gSeqS_def, gSet_def, gRet_def, gIfS_def, gNext_def, gTup_def, gLst_def, List.getElem?_cons_zero, List.getElem?_cons_succ, List.set_cons_zero, List.set_cons_succ, List.length_cons, List.length_nil, Nat.zero_add, Nat.reduceAdd, Nat.reduceLeDiff, Nat.reduceSub, Nat.reduceMul, if_true, if_false, Bool.false_eq_true, List.replicate_succ, List.replicate_zero, List.cons_append, List.nil_append, tgN, tgT, tgCons, tgNil, Int.reducePow, Int.reduceAdd, Int.reduceSub, Int.reduceMul, decide_true, decide_false, Bool.not_true, Bool.not_false, gChain_def, hIsa_int, hIsa_intb, hIsa_list, hIsa_tuple, gDrop_def, List.length_map]
        rfl) rfl hp3 (by omega) (by omega) (by omega)
      have h4 : xCallM .la 2 f_l_take 0 (xCons (xP (gCB hLen (gCons (gVar 2) (gNil)))) xNil) [p3, .int n, .list (r.map enc3), .int a, .int b, .none] = .ok (.int j, [p4, .int n, .list (r.map enc3), .int a, .int b, .none]) := h4
      have hj : j.toNat < r.length := by omega
      have hix : hIx (.list (r.map enc3)) (.int j) = .ok (enc3 r[j.toNat]) := hIx_l (atI_map enc3 j0 (by omega))
      obtain ⟨⟨t0, t1⟩, u0, u1⟩ := hr r[j.toNat] (List.getElem_mem hj)
      refine ⟨r[j.toNat].2.1, r[j.toNat].2.2, p4, .int r[j.toNat].1, (xIf_t htest).trans (xasg_ok (d := enc3 r[j.toNat]) (ρ1 := [p4, .int n, .list (r.map enc3), .int a, .int b, .none]) ?_ rfl), t0, t1, u0, u1, hp4.mono (by omega)⟩
      rw [xOp_def, xP_def, gVar_def]
      show bnd (bnd (O.ok (PyData.list (r.map enc3))) _) _ = _
      rw [bnd_ok, bnd_ok, h4, bnd_ok, hix]
      rfl
theorem drawn_okS {m n most : Int} {p : Dt} (hp : PotOk m p) (hm : m < 1099511620000) (n1 : 1 ≤ n) (n10 : n ≤ 10) (m0 : 0 ≤ most) (m40 : most ≤ 50) :
    ∃ r p', f_l_drawn_ties [p, .int n, .int most] = .ok (.tuple [.list (r.map enc3), p']) ∧ RecOk n r ∧ (∀ t ∈ r, t.1 ≤ 100000000000000000000000000000) ∧ (r.length : Int) ≤ most ∧ PotOk (m + 1000) p' := by
  obtain ⟨s, p1, h1, s0, s1, hp1⟩ := tk_ok (i := 0) (gA := xCons (xP (gC (.int (3)))) xNil) (ρ := [p, .int n, .int most, .none, .none, .none, .none, .none, .none]) rfl rfl hp (by omega) (by omega : (0 : Int) < 3) (by omega)
  have h1 : xCallM .la 2 f_l_take 0 (xCons (xP (gC (.int (3)))) xNil) [p, .int n, .int most, .none, .none, .none, .none, .none, .none] = .ok (.int s, [p1, .int n, .int most, .none, .none, .none, .none, .none, .none]) := h1
  obtain ⟨w, p2, h2, w0, w1, hp2⟩ := tk_ok (i := 0) (gA := xCons (xP (gOp hAdd (gVar 2) (gC (.int (1))))) xNil) (ρ := [p1, .int n, .int most, .int (s - 1), .list [], .none, .none, .none, .none]) (ρ' := [p1, .int n, .int most, .int (s - 1), .list [], .none, .none, .none, .none]) (size := most + 1) rfl rfl hp1 (by omega) (by omega) (by omega)
  have h2 : xCallM .la 2 f_l_take 0 (xCons (xP (gOp hAdd (gVar 2) (gC (.int (1))))) xNil) [p1, .int n, .int most, .int (s - 1), .list [], .none, .none, .none, .none] = .ok (.int w, [p2, .int n, .int most, .int (s - 1), .list [], .none, .none, .none, .none]) := h2
  obtain ⟨ρ', hf, r, p', mo, x5, x6, x7, x8, rfl, hp', hl, ht, ho, hlt, q0, q1⟩ := forE_ix (fun (j : Nat) => PyData.int (0 + (j : Int))) (h := tgN 5) (b := g_l_drawn_ties_L1) (List.range w.toNat)
    (fun i ρ => ∃ (r : List T3) (p' : Dt) (mo : Int) (x5 x6 x7 x8 : Dt), ρ = [p', .int n, .int most, .int mo, .list (r.map enc3), x5, x6, x7, x8] ∧ PotOk (m + 2 + 10 * i) p' ∧ r.length = i ∧ (∀ t ∈ r, TieOk n t) ∧ (r.Pairwise fun s t => s.1 < t.1) ∧ (∀ t ∈ r, t.1 ≤ mo) ∧ -1 ≤ mo ∧ mo ≤ 2 + i * 1000000000000000000000000003)
    (ρ := [p2, .int n, .int most, .int (s - 1), .list [], .none, .none, .none, .none]) ⟨[], p2, s - 1, _, _, _, _, rfl, hp2.mono (by omega), rfl, (fun t h => nomatch h), .nil, (fun t h => nomatch h), by omega, by omega⟩ (by
      rintro i ρ hi ⟨r, p', mo, x5, x6, x7, x8, rfl, hp', hl, ht, ho, hlt, q0, q1⟩
      rw [List.length_range] at hi
      generalize hgj : (0 : Int) + ((List.range w.toNat)[i] : Nat) = jj
      obtain ⟨st, p3, h3, st0, st1, hp3⟩ := tk_ok (i := 0) (gA := xCons (xP (gC (.int (5)))) xNil) (ρ := [p', .int n, .int most, .int mo, .list (r.map enc3), .int jj, x6, x7, x8]) rfl rfl hp' (by omega) (by omega : (0 : Int) < 5) (by omega)
      have h3 : xCallM .la 2 f_l_take 0 (xCons (xP (gC (.int (5)))) xNil) [p', .int n, .int most, .int mo, .list (r.map enc3), .int jj, x6, x7, x8] = .ok (.int st, [p3, .int n, .int most, .int mo, .list (r.map enc3), .int jj, x6, x7, x8]) := h3
      have hd2 := hDiv_s (i := st) (show (0 : Int) < 2 by omega) (by omega)
      obtain ⟨mo2, p4, h4, hp4, r0, r1⟩ : ∃ (mo2 : Int) (p4 : Dt), gIfS (gTest (gOp hEq (gVar 6) (gC (.int (4))))) (xSet 3 (xOp hAdd (xP (gVar 3)) (xCallM .la 2 f_l_wide 0 (xCons (xP (gOp hPow (gC (.int (10))) (gC (.int (27))))) (xNil))))) (gNext)
          [p3, .int n, .int most, .int (mo + 1 + st / 2), .list (r.map enc3), .int jj, .int st, x7, x8] = .ok (.nx [p4, .int n, .int most, .int mo2, .list (r.map enc3), .int jj, .int st, x7, x8]) ∧ PotOk (m + 2 + 10 * i + 6) p4 ∧ mo + 1 ≤ mo2 ∧ mo2 ≤ mo + 3 + 1000000000000000000000000000 := by
        by_cases c : st = 4
        · obtain ⟨u, p4, h4, u0, u1, hp4⟩ := wide_ok (size := 1000000000000000000000000000) hp3 (by omega) (by omega) (by omega)
          refine ⟨mo + 1 + st / 2 + u, p4, (if_t (by simp [gTest_def, gOp_def, gVar_def, gC_def, hEq_i, c, asB_b])).trans ?_, hp4.mono (by omega), by omega, by omega⟩
          refine xset_ok (ρ' := [p4, .int n, .int most, .int (mo + 1 + st / 2), .list (r.map enc3), .int jj, .int st, x7, x8]) (d := .int (mo + 1 + st / 2 + u)) ?_
          have hcall : xCallM .la 2 f_l_wide 0 (xCons (xP (gOp hPow (gC (.int (10))) (gC (.int (27))))) (xNil)) [p3, .int n, .int most, .int (mo + 1 + st / 2), .list (r.map enc3), .int jj, .int st, x7, x8] = .ok (.int u, [p4, .int n, .int most, .int (mo + 1 + st / 2), .list (r.map enc3), .int jj, .int st, x7, x8]) :=
            xcallM_ok (ds := [.int 1000000000000000000000000000]) (ρ' := [p3, .int n, .int most, .int (mo + 1 + st / 2), .list (r.map enc3), .int jj, .int st, x7, x8]) (by rw [xCons_def, xP_def]; simp only [bnd_ok, gVar_def, gC_def, gOp_def, gUn_def, gNil_def, gCons_def, gIf_def, gTest_def, gNot_def, gAnd_def, gOr_def, gAndV_def, gOrV_def, gNotV_def, gCB_def, asB_b, hAdd_i, hSub_i, hLt_i, hLe_i, hGt_i, hGe_i, hMul_r, hMul_l, hMod_i, hDiv_s, hBand_i, hShr_i, hPow_10_18, hPow_10_27, hPow_10_28, hPow_10_29, hPow_10_30, hEq_i, hNe_i, hLen_l, hLen_t, hMin2_i, hMax2_i, hMin3_i, hInt1_b, hInt1_i, hBits_i, hListOf_l, hListOf_t, hTupOf_l, hTupOf_t, gSeqS_def, gSet_def, gRet_def, gIfS_def, gNext_def, gTup_def, gLst_def, List.getElem?_cons_zero, List.getElem?_cons_succ, List.set_cons_zero, List.set_cons_succ, List.length_cons, List.length_nil, Nat.zero_add, Nat.reduceAdd, Nat.reduceLeDiff, Nat.reduceSub, Nat.reduceMul, if_true, if_false, Bool.false_eq_true, List.replicate_succ, List.replicate_zero, List.cons_append, List.nil_append, tgN, tgT, tgCons, tgNil, Int.reducePow, Int.reduceAdd, Int.reduceSub, Int.reduceMul, decide_true, decide_false, Bool.not_true, Bool.not_false, gChain_def, hIsa_int, hIsa_intb, hIsa_list, hIsa_tuple, gDrop_def]; rfl) rfl rfl hp3.arg h4 hp4.arg
          rw [xOp_def, xP_def, gVar_def]
          show bnd (bnd (O.ok (PyData.int (mo + 1 + st / 2))) _) _ = _
          rw [bnd_ok, bnd_ok, hcall]
          rfl
        · refine ⟨mo + 1 + st / 2, p3, (if_f (by simp [gTest_def, gOp_def, gVar_def, gC_def, hEq_i, c, asB_b])).trans rfl, hp3.mono (by omega), by omega, by omega⟩
      have hin : InN n r := fun t h => by
        have q := ht t h
        have := q.a0; have := q.ab; have := q.bn
        exact ⟨⟨by omega, by omega⟩, by omega, by omega⟩
      obtain ⟨a, b, p5, h5, a0, ab, bn, hp5⟩ := ends_ok hp4 (by omega) n1 (by omega) hin (by omega)
      have hcall : xCallM .la 3 f_l_ends 0 (xPA (gCons (gVar 1) (gCons (gVar 4) (gNil)))) [p4, .int n, .int most, .int mo2, .list (r.map enc3), .int jj, .int st, x7, x8] = .ok (.tuple [.int a, .int b], [p5, .int n, .int most, .int mo2, .list (r.map enc3), .int jj, .int st, x7, x8]) :=
        xcallM_ok (ds := [.int n, .list (r.map enc3)]) (ρ' := [p4, .int n, .int most, .int mo2, .list (r.map enc3), .int jj, .int st, x7, x8]) rfl rfl rfl hp4.arg h5 hp5.arg
      have tok : TieOk n (mo2, a, b) := ⟨by show 0 ≤ mo2; omega, by show mo2 < B30; unfold B30; omega, a0, ab, bn⟩
      obtain ⟨k1, k2⟩ := rec_snoc (t := (mo2, a, b)) ht ho tok fun u hu => by
        have := hlt u hu
        show u.1 < mo2
        omega
      refine ⟨[p', .int n, .int most, .int mo, .list (r.map enc3), .int jj, x6, x7, x8], [p5, .int n, .int most, .int mo2, .list ((r ++ [(mo2, a, b)]).map enc3), .int jj, .int st, .int a, .int b], rfl, .inl ?_, r ++ [(mo2, a, b)], p5, mo2, _, _, _, _, rfl, hp5.mono (by omega), by rw [List.length_append, hl]; rfl, k1, k2, fun u hu => ?_, by omega, by omega⟩
      · unfold g_l_drawn_ties_L1
        refine seq_step (xset_ok h3) ?_
        dsimp only [List.set]
        refine seq_step (set_ok (d := .int (mo + 1 + st / 2)) (by simp only [bnd_ok, gVar_def, gC_def, gOp_def, gUn_def, gNil_def, gCons_def, gIf_def, gTest_def, gNot_def, gAnd_def, gOr_def, gAndV_def, gOrV_def, gNotV_def, gCB_def, asB_b, hAdd_i, hSub_i, hLt_i, hLe_i, hGt_i, hGe_i, hMul_r, hMul_l, hMod_i, hDiv_s, hBand_i, hShr_i, hPow_10_18, hPow_10_27, hPow_10_28, hPow_10_29, hPow_10_30, hEq_i, hNe_i, hLen_l, hLen_t, hMin2_i, hMax2_i, hMin3_i, hInt1_b, hInt1_i, hBits_i, hListOf_l, hListOf_t, hTupOf_l, hTupOf_t, gSeqS_def, gSet_def, gRet_def, gIfS_def, gNext_def, gTup_def, gLst_def, List.getElem?_cons_zero, List.getElem?_cons_succ, List.set_cons_zero, List.set_cons_succ, List.length_cons, List.length_nil, Nat.zero_add, Nat.reduceAdd, Nat.reduceLeDiff, Nat.reduceSub, Nat.reduceMul, if_true, if_false, Bool.false_eq_true, List.replicate_succ, List.replicate_zero, List.cons_append, List.nil_append, tgN, tgT, tgCons, tgNil, Int.reducePow, Int.reduceAdd, Int.reduceSub, Int.reduceMul, decide_true, decide_false, Bool.not_true, Bool.not_false, gChain_def, hIsa_int, hIsa_intb, hIsa_list, hIsa_tuple, gDrop_def, hd2])) ?_
        dsimp only [List.set]
        refine seq_step h4 ?_
        refine seq_step (xasg_ok hcall (by rfl)) ?_
        refine Eq.trans (gApp_l (i := 4) (ds := r.map enc3) (d := enc3 (mo2, a, b)) rfl (by rfl) (by rw [List.length_map]; omega)) ?_
        rw [map3_snoc]
        rfl
      · rcases List.mem_append.mp hu with h | h
        · have := hlt u h
          omega
        · rw [List.mem_singleton.mp h]
          exact Int.le_refl _)
  rw [List.length_range] at hl hp' q1
  refine ⟨r, p', fnL_rt ?_, ⟨by omega, ht, ho⟩, fun t h => by have := hlt t h; omega, by omega, hp'.mono (by omega)⟩
  show g_l_drawn_ties [p, .int n, .int most, .none, .none, .none, .none, .none, .none] = _
  unfold g_l_drawn_ties
  refine seq_step (xset_ok (ρ' := [p1, .int n, .int most, .none, .none, .none, .none, .none, .none]) (d := .int (s - 1)) ?_) ?_
  · rw [xOp_def, h1, bnd_ok]
    rfl
  dsimp only [List.set]
  refine seq_step (set_ok (d := .list []) (by rfl)) ?_
  dsimp only [List.set]
  refine seq_step (xfor_ok (ds := (List.range w.toNat).map fun (j : Nat) => PyData.int (0 + (j : Int))) (ρ' := [p2, .int n, .int most, .int (s - 1), .list [], .none, .none, .none, .none]) ?_ hf) ?_
  · refine (xrng1_ok (j := w) (by rw [xCons_def, h2]; rfl) (by omega) (by omega)).trans ?_
    unfold rangeD
    rw [Int.sub_zero]
  · exact xretO_ok rfl rfl hp'.argD
theorem begun_ok (c : Int) : ∃ p, f_l_begun [.int c] = .ok p ∧ PotOk 0 p := by
  have key : ∀ rest : Int, 0 ≤ rest → ∃ p, gRet (gLst (gCons (gVar 1) (gCons (gC (.int (0))) (gCons (gOp hMod (gVar 0) (gC (.int (2147483647)))) (gNil))))) [.int c, .int rest] = .ok (.rt p) ∧ PotOk 0 p := fun rest h =>
    ⟨potD rest 0 (c % 2147483647), by simp (disch := omega) only [bnd_ok, gVar_def, gC_def, gOp_def, gUn_def, gNil_def, gCons_def, gIf_def, gTest_def, gNot_def, gAnd_def, gOr_def, gAndV_def, gOrV_def, gNotV_def, gCB_def, asB_b, hAdd_i, hSub_i, hLt_i, hLe_i, hGt_i, hGe_i, hMul_r, hMul_l, hMod_i, hDiv_s, hBand_i, hShr_i, hPow_10_18, hPow_10_27, hPow_10_28, hPow_10_29, hPow_10_30, hEq_i, hNe_i, hLen_l, hLen_t, hMin2_i, hMax2_i, hMin3_i, hInt1_b, hInt1_i, hBits_i, hListOf_l, hListOf_t, hTupOf_l, hTupOf_t, gSeqS_def, gSet_def, gRet_def, gIfS_def, gNext_def, gTup_def, gLst_def, List.getElem?_cons_zero, List.getElem?_cons_succ, List.set_cons_zero, List.set_cons_succ, List.length_cons, List.length_nil, Nat.zero_add, Nat.reduceAdd, Nat.reduceLeDiff, Nat.reduceSub, Nat.reduceMul, if_true, if_false, Bool.false_eq_true, List.replicate_succ, List.replicate_zero, List.cons_append, List.nil_append, tgN, tgT, tgCons, tgNil, Int.reducePow, Int.reduceAdd, Int.reduceSub, Int.reduceMul, decide_true, decide_false, Bool.not_true, Bool.not_false, gChain_def, hIsa_int, hIsa_intb, hIsa_list, hIsa_tuple, gDrop_def]; rfl, _, _, _, rfl, h, by omega, by omega, by omega, by omega⟩
  have ha : ∀ x, gCB hAbs (gCons (gVar 0) (gNil)) [.int c, x] = .ok (.int (if c < 0 then -c else c)) := fun _ => rfl
  by_cases h : 1000000000000000000 ≤ (if c < 0 then -c else c)
  · obtain ⟨p, h1, h2⟩ := key ((if c < 0 then -c else c) - 1000000000000000000 + 1) (by omega)
    refine ⟨p, fnL_rt ?_, h2⟩
    show g_l_begun [.int c, .none] = _
    unfold g_l_begun
    refine seq_step (set_ok (d := .int 0) rfl) ?_
    dsimp only [List.set]
    refine seq_step ((if_t ?_).trans (set_ok (d := .int ((if c < 0 then -c else c) - 1000000000000000000 + 1)) ?_)) h1
    · rw [gTest_def, gOp_def, ha]
      simp only [bnd_ok, gVar_def, gC_def, gOp_def, gUn_def, gNil_def, gCons_def, gIf_def, gTest_def, gNot_def, gAnd_def, gOr_def, gAndV_def, gOrV_def, gNotV_def, gCB_def, asB_b, hAdd_i, hSub_i, hLt_i, hLe_i, hGt_i, hGe_i, hMul_r, hMul_l, hMod_i, hDiv_s, hBand_i, hShr_i, hPow_10_18, hPow_10_27, hPow_10_28, hPow_10_29, hPow_10_30, hEq_i, hNe_i, hLen_l, hLen_t, hMin2_i, hMax2_i, hMin3_i, hInt1_b, hInt1_i, hBits_i, hListOf_l, hListOf_t, hTupOf_l, hTupOf_t, gSeqS_def, gSet_def, gRet_def, gIfS_def, gNext_def, gTup_def, gLst_def, List.getElem?_cons_zero, List.getElem?_cons_succ, List.set_cons_zero, List.set_cons_succ, List.length_cons, List.length_nil, Nat.zero_add, Nat.reduceAdd, Nat.reduceLeDiff, Nat.reduceSub, Nat.reduceMul, if_true, if_false, Bool.false_eq_true, List.replicate_succ, List.replicate_zero, List.cons_append, List.nil_append, tgN, tgT, tgCons, tgNil, Int.reducePow, Int.reduceAdd, Int.reduceSub, Int.reduceMul, decide_true, decide_false, Bool.not_true, Bool.not_false, gChain_def, hIsa_int, hIsa_intb, hIsa_list, hIsa_tuple, gDrop_def, h]
    · rw [gOp_def, gOp_def, ha]
      simp only [bnd_ok, gVar_def, gC_def, gOp_def, gUn_def, gNil_def, gCons_def, gIf_def, gTest_def, gNot_def, gAnd_def, gOr_def, gAndV_def, gOrV_def, gNotV_def, gCB_def, asB_b, hAdd_i, hSub_i, hLt_i, hLe_i, hGt_i, hGe_i, hMul_r, hMul_l, hMod_i, hDiv_s, hBand_i, hShr_i, hPow_10_18, hPow_10_27, hPow_10_28, hPow_10_29, hPow_10_30, hEq_i, hNe_i, hLen_l, hLen_t, hMin2_i, hMax2_i, hMin3_i, hInt1_b, hInt1_i, hBits_i, hListOf_l, hListOf_t, hTupOf_l, hTupOf_t, gSeqS_def, gSet_def, gRet_def, gIfS_def, gNext_def, gTup_def, gLst_def, List.getElem?_cons_zero, List.getElem?_cons_succ, List.set_cons_zero, List.set_cons_succ, List.length_cons, List.length_nil, Nat.zero_add, Nat.reduceAdd, Nat.reduceLeDiff, Nat.reduceSub, Nat.reduceMul, if_true, if_false, Bool.false_eq_true, List.replicate_succ, List.replicate_zero, List.cons_append, List.nil_append, tgN, tgT, tgCons, tgNil, Int.reducePow, Int.reduceAdd, Int.reduceSub, Int.reduceMul, decide_true, decide_false, Bool.not_true, Bool.not_false, gChain_def, hIsa_int, hIsa_intb, hIsa_list, hIsa_tuple, gDrop_def]
  · obtain ⟨p, h1, h2⟩ := key 0 (by omega)
    refine ⟨p, fnL_rt ?_, h2⟩
    show g_l_begun [.int c, .none] = _
    unfold g_l_begun
    refine seq_step (set_ok (d := .int 0) rfl) ?_
    dsimp only [List.set]
    refine seq_step ((if_f ?_).trans rfl) h1
    rw [gTest_def, gOp_def, ha]
    simp only [bnd_ok, gVar_def, gC_def, gOp_def, gUn_def, gNil_def, gCons_def, gIf_def, gTest_def, gNot_def, gAnd_def, gOr_def, gAndV_def, gOrV_def, gNotV_def, gCB_def, asB_b, hAdd_i, hSub_i, hLt_i, hLe_i, hGt_i, hGe_i, hMul_r, hMul_l, hMod_i, hDiv_s, hBand_i, hShr_i, hPow_10_18, hPow_10_27, hPow_10_28, hPow_10_29, hPow_10_30, hEq_i, hNe_i, hLen_l, hLen_t, hMin2_i, hMax2_i, hMin3_i, hInt1_b, hInt1_i, hBits_i, hListOf_l, hListOf_t, hTupOf_l, hTupOf_t, gSeqS_def, gSet_def, gRet_def, gIfS_def, gNext_def, gTup_def, gLst_def, List.getElem?_cons_zero, List.getElem?_cons_succ, List.set_cons_zero, List.set_cons_succ, List.length_cons, List.length_nil, Nat.zero_add, Nat.reduceAdd, Nat.reduceLeDiff, Nat.reduceSub, Nat.reduceMul, if_true, if_false, Bool.false_eq_true, List.replicate_succ, List.replicate_zero, List.cons_append, List.nil_append, tgN, tgT, tgCons, tgNil, Int.reducePow, Int.reduceAdd, Int.reduceSub, Int.reduceMul, decide_true, decide_false, Bool.not_true, Bool.not_false, gChain_def, hIsa_int, hIsa_intb, hIsa_list, hIsa_tuple, gDrop_def, h]
end FamB
end T_FamBP
section T_K16N
set_option linter.all false
set_option maxRecDepth 100000
set_option maxHeartbeats 4000000
namespace K16
open PySem Sim FamA FamL Lay
theorem whole_int (z : Int) : f_is_whole [.int z] = .ok (.bool true) := rfl
theorem place_ok (n z : Int) : f_is_place [.int n, .int z] = .ok (.bool (decide (0 ≤ z) && decide (z < n))) := by
  refine fnN_rt ?_
  show g_is_place [.int n, .int z] = _
  unfold g_is_place
  have e : gCallN 1 f_is_whole (gCons (gVar 1) (gNil)) [.int n, .int z] = .ok (.bool true) := callN_ok (ds := [.int z]) rfl rfl (whole_int z)
  simp only [bnd_ok, gVar_def, gC_def, gOp_def, gUn_def, gNil_def, gCons_def, gIf_def, gTest_def, gNot_def, gAnd_def, gOr_def, gAndV_def, gOrV_def, gNotV_def, gCB_def, asB_b, hAdd_i, hSub_i, hLt_i, hLe_i, hGt_i, hGe_i, hMul_r, hMul_l, hMod_i, hDiv_s, hBand_i, hShr_i, hPow_10_18, hPow_10_27, hPow_10_28, hPow_10_29, hPow_10_30, hEq_i, hNe_i, hLen_l, hLen_t, hMin2_i, hMax2_i, hMin3_i, hInt1_b, hInt1_i, hBits_i, hListOf_l, hListOf_t, hTupOf_l, hTupOf_t, gSeqS_def, gSet_def, gRet_def, gIfS_def, gNext_def, gTup_def, gLst_def, List.getElem?_cons_zero, List.getElem?_cons_succ, List.set_cons_zero, List.set_cons_succ, List.length_cons, List.length_nil, Nat.zero_add, Nat.reduceAdd, Nat.reduceLeDiff, Nat.reduceSub, Nat.reduceMul, if_true, if_false, Bool.false_eq_true, List.replicate_succ, List.replicate_zero, List.cons_append, List.nil_append, tgN, tgT, tgCons, tgNil, Int.reducePow, Int.reduceAdd, Int.reduceSub, Int.reduceMul, decide_true, decide_false, Bool.not_true, Bool.not_false, gChain_def, hIsa_int, hIsa_intb, hIsa_list, hIsa_tuple, gDrop_def, e]
  cases decide (0 ≤ z) <;> rfl
theorem moment_int (z : Int) : f_is_moment [.int z] = .ok (.bool (decide (0 ≤ z) && decide (z ≤ 1000000000000000000000000000000))) := by
  refine fnN_rt ?_
  show g_is_moment [.int z] = _
  unfold g_is_moment
  have e : gCallN 1 f_is_whole (gCons (gVar 0) (gNil)) [.int z] = .ok (.bool true) := callN_ok (ds := [.int z]) rfl rfl (whole_int z)
  simp only [bnd_ok, gVar_def, gC_def, gOp_def, gUn_def, gNil_def, gCons_def, gIf_def, gTest_def, gNot_def, gAnd_def, gOr_def, gAndV_def, gOrV_def, gNotV_def, gCB_def, asB_b, hAdd_i, hSub_i, hLt_i, hLe_i, hGt_i, hGe_i, hMul_r, hMul_l, hMod_i, hDiv_s, hBand_i, hShr_i, hPow_10_18, hPow_10_27, hPow_10_28, hPow_10_29, hPow_10_30, hEq_i, hNe_i, hLen_l, hLen_t, hMin2_i, hMax2_i, hMin3_i, hInt1_b, hInt1_i, hBits_i, hListOf_l, hListOf_t, hTupOf_l, hTupOf_t, gSeqS_def, gSet_def, gRet_def, gIfS_def, gNext_def, gTup_def, gLst_def, List.getElem?_cons_zero, List.getElem?_cons_succ, List.set_cons_zero, List.set_cons_succ, List.length_cons, List.length_nil, Nat.zero_add, Nat.reduceAdd, Nat.reduceLeDiff, Nat.reduceSub, Nat.reduceMul, if_true, if_false, Bool.false_eq_true, List.replicate_succ, List.replicate_zero, List.cons_append, List.nil_append, tgN, tgT, tgCons, tgNil, Int.reducePow, Int.reduceAdd, Int.reduceSub, Int.reduceMul, decide_true, decide_false, Bool.not_true, Bool.not_false, gChain_def, hIsa_int, hIsa_intb, hIsa_list, hIsa_tuple, gDrop_def, e]
  cases decide (0 ≤ z) <;> rfl
def tieB (n a b c : Int) : Bool := (decide (0 ≤ a) && decide (a ≤ 1000000000000000000000000000000)) && ((decide (0 ≤ b) && decide (b < n)) && (decide (0 ≤ c) && decide (c < n))) && decide (b ≤ c)
theorem meeting_int (n a b c : Int) : f_is_meeting [.int n, .tuple [.int a, .int b, .int c]] = .ok (.bool ((decide (0 ≤ a) && decide (a ≤ 1000000000000000000000000000000)) && ((decide (0 ≤ b) && decide (b < n)) && (decide (0 ≤ c) && decide (c < n))))) := by
  refine fnN_rt ?_
  show g_is_meeting [.int n, .tuple [.int a, .int b, .int c]] = _
  unfold g_is_meeting
  have e0 : gCallN 1 f_is_moment (gCons (gOp hIx (gVar 1) (gC (.int (0)))) (gNil)) [.int n, .tuple [.int a, .int b, .int c]] = _ := callN_ok (ds := [.int a]) rfl rfl (moment_int a)
  have e1 : gCallN 2 f_is_place (gCons (gVar 0) (gCons (gOp hIx (gVar 1) (gC (.int (1)))) (gNil))) [.int n, .tuple [.int a, .int b, .int c]] = _ := callN_ok (ds := [.int n, .int b]) rfl rfl (place_ok n b)
  have e2 : gCallN 2 f_is_place (gCons (gVar 0) (gCons (gOp hIx (gVar 1) (gC (.int (2)))) (gNil))) [.int n, .tuple [.int a, .int b, .int c]] = _ := callN_ok (ds := [.int n, .int c]) rfl rfl (place_ok n c)
  have e3 : gTest (gUn (hIsa .tuple) (gVar 1)) [.int n, .tuple [.int a, .int b, .int c]] = .ok true := rfl
  have e4 : gTest (gOp hNe (gCB hLen (gCons (gVar 1) (gNil))) (gC (.int (3)))) [.int n, .tuple [.int a, .int b, .int c]] = .ok false := by
    rw [gTest_def, gOp_def]
    show bnd (hNe (.int 3) (.int 3)) asB = _
    rw [hNe_i]
    rfl
  cases hm : (decide (0 ≤ a) && decide (a ≤ 1000000000000000000000000000000)) with
  | false =>
    rw [hm] at e0
    refine seq_rt (Eq.trans (if_t ?_) rfl)
    simp only [gOr_def, gNot_def, e3, e4, gTest_def, e0, bnd_ok, asB_b, Bool.not_true, Bool.not_false, Bool.false_eq_true, if_false, if_true]
  | true =>
    rw [hm] at e0
    refine seq_step (Eq.trans (if_f ?_) rfl) ?_
    · simp only [gOr_def, gNot_def, e3, e4, gTest_def, e0, bnd_ok, asB_b, Bool.not_true, Bool.not_false, Bool.false_eq_true, if_false, if_true]
    · refine ret_ok ?_
      rw [gAndV_def, e1, bnd_ok, asB_b, bnd_ok, e2]
      cases (decide (0 ≤ b) && decide (b < n)) <;> rfl
theorem tie_int (n a b c : Int) : f_is_tie [.int n, .tuple [.int a, .int b, .int c]] = .ok (.bool (tieB n a b c)) := by
  refine fnN_rt ?_
  show g_is_tie [.int n, .tuple [.int a, .int b, .int c]] = _
  unfold g_is_tie
  have e0 : gCallN 2 f_is_meeting (gCons (gVar 0) (gCons (gVar 1) (gNil))) [.int n, .tuple [.int a, .int b, .int c]] = _ := callN_ok (ds := [.int n, .tuple [.int a, .int b, .int c]]) rfl rfl (meeting_int n a b c)
  have e1 : gOp hLe (gOp hIx (gVar 1) (gC (.int (1)))) (gOp hIx (gVar 1) (gC (.int (2)))) [.int n, .tuple [.int a, .int b, .int c]] = .ok (.bool (decide (b ≤ c))) := rfl
  refine ret_ok ?_
  rw [gAndV_def, e0, bnd_ok, asB_b, bnd_ok, e1]
  unfold tieB
  cases (decide (0 ≤ a) && decide (a ≤ 1000000000000000000000000000000)) && ((decide (0 ≤ b) && decide (b < n)) && (decide (0 ≤ c) && decide (c < n))) <;> rfl
theorem all_ties {n : Int} {ds : List Dt} {p : Dt → Bool} (x2 x3 : Dt) (hl : ds.length ≤ 1000) (h : ∀ d ∈ ds, f_is_tie [.int n, d] = .ok (.bool (p d))) :
    gLc (gSeq (gVar 1)) (tgN 2) (gYes) (gCallN 2 f_is_tie (gCons (gVar 0) (gCons (gVar 2) (gNil)))) [.int n, .list ds, x2, x3] = .ok (.list ((ds.map p).map .bool)) := by
  have hq := gLc_map (fun d : Dt => d) (fun _ => true) (fun d => PyData.bool (p d)) (gi := gSeq (gVar 1)) (h := tgN 2) (gt := gYes) (ge := gCallN 2 f_is_tie (gCons (gVar 0) (gCons (gVar 2) (gNil)))) (ρ := [.int n, .list ds, x2, x3]) (xs := ds) (by rw [List.map_id']; rfl) (by omega) fun d hd => ⟨_, rfl, rfl, fun _ => callN_ok (ds := [.int n, d]) rfl rfl (h d hd)⟩
  rw [hq, List.filter_eq_self.mpr (fun _ _ => rfl), List.map_map]
  rfl
def okT (n : Int) (t : T3) : Bool := tieB n t.1 t.2.1 t.2.2
theorem pairs_lc {n : Int} {r : List T3} (x2 x3 : Dt) (hl : r.length ≤ 1000) :
    gLc (gRng2 (gCons (gC (.int (1))) (gCons (gCB hLen (gCons (gVar 1) (gNil))) (gNil)))) (tgN 3) (gYes) (gOp hLt (gOp hIx (gOp hIx (gVar 1) (gOp hSub (gVar 3) (gC (.int (1))))) (gC (.int (0)))) (gOp hIx (gOp hIx (gVar 1) (gVar 3)) (gC (.int (0))))) [.int n, .list (r.map enc3), x2, x3]
      = .ok (.list (((List.range (r.length - 1)).map fun i => decide ((r.getD i (0, 0, 0)).1 < (r.getD (i + 1) (0, 0, 0)).1)).map .bool)) := by
  have at_r : ∀ {i : Nat}, i < r.length → hIx (.list (r.map enc3)) (.int (i : Nat)) = .ok (enc3 (r.getD i (0, 0, 0))) := fun {i} h => by
    refine hIx_l ?_
    have hlt : ((i : Nat) : Int) < (r.length : Int) := by omega
    rw [atI_map enc3 (by omega) hlt, List.getD_eq_getElem?_getD, List.getElem?_eq_getElem h]
    simp only [Int.toNat_natCast]
    rfl
  have ix0 : ∀ t : T3, hIx (enc3 t) (.int 0) = .ok (.int t.1) := fun _ => rfl
  have hq := gLc_map (fun (i : Nat) => PyData.int (1 + (i : Int))) (fun _ => true) (fun (i : Nat) => PyData.bool (decide ((r.getD i (0, 0, 0)).1 < (r.getD (i + 1) (0, 0, 0)).1))) (gi := gRng2 (gCons (gC (.int (1))) (gCons (gCB hLen (gCons (gVar 1) (gNil))) (gNil)))) (h := tgN 3) (gt := gYes)
    (ge := gOp hLt (gOp hIx (gOp hIx (gVar 1) (gOp hSub (gVar 3) (gC (.int (1))))) (gC (.int (0)))) (gOp hIx (gOp hIx (gVar 1) (gVar 3)) (gC (.int (0))))) (ρ := [.int n, .list (r.map enc3), x2, x3]) (xs := List.range (r.length - 1)) ?_ (by rw [List.length_range]; omega) fun i hi => ⟨_, rfl, rfl, fun _ => ?_⟩
  · rw [hq, List.filter_eq_self.mpr (fun _ _ => rfl), List.map_map]
    rfl
  · have e : gCons (gC (.int (1))) (gCons (gCB hLen (gCons (gVar 1) (gNil))) (gNil)) [.int n, .list (r.map enc3), x2, x3] = .ok [.int 1, .int (r.length : Nat)] := by
      simp only [bnd_ok, gVar_def, gC_def, gOp_def, gUn_def, gNil_def, gCons_def, gIf_def, gTest_def, gNot_def, gAnd_def, gOr_def, gAndV_def, gOrV_def, gNotV_def, gCB_def, asB_b, hAdd_i, hSub_i, hLt_i, hLe_i, hGt_i, hGe_i, hMul_r, hMul_l, hMod_i, hDiv_s, hBand_i, hShr_i, hPow_10_18, hPow_10_27, hPow_10_28, hPow_10_29, hPow_10_30, hEq_i, hNe_i, hLen_l, hLen_t, hMin2_i, hMax2_i, hMin3_i, hInt1_b, hInt1_i, hBits_i, hListOf_l, hListOf_t, hTupOf_l, hTupOf_t, gSeqS_def, gSet_def, gRet_def, gIfS_def, gNext_def, gTup_def, gLst_def, List.getElem?_cons_zero, List.getElem?_cons_succ, List.set_cons_zero, List.set_cons_succ, List.length_cons, List.length_nil, Nat.zero_add, Nat.reduceAdd, Nat.reduceLeDiff, Nat.reduceSub, Nat.reduceMul, if_true, if_false, Bool.false_eq_true, List.replicate_succ, List.replicate_zero, List.cons_append, List.nil_append, tgN, tgT, tgCons, tgNil, Int.reducePow, Int.reduceAdd, Int.reduceSub, Int.reduceMul, decide_true, decide_false, Bool.not_true, Bool.not_false, gChain_def, hIsa_int, hIsa_intb, hIsa_list, hIsa_tuple, gDrop_def, List.length_map]
    refine (rng2_ok (by exact e) (by omega) (by omega) (by omega) (by omega)).trans ?_
    unfold rangeD
    have e2 : ((r.length : Int) - 1).toNat = r.length - 1 := by omega
    rw [e2]
  · have hi := List.mem_range.mp hi
    have e1 : (1 + (i : Int)) - 1 = ((i : Nat) : Int) := by omega
    have e2 : (1 + (i : Int)) = ((i + 1 : Nat) : Int) := by omega
    have a1 := at_r (i := i) (by omega)
    have a2 := at_r (i := i + 1) (by omega)
    simp only [bnd_ok, gVar_def, gC_def, gOp_def, gUn_def, gNil_def, gCons_def, gIf_def, gTest_def, gNot_def, gAnd_def, gOr_def, gAndV_def, gOrV_def, gNotV_def, gCB_def, asB_b, hAdd_i, hSub_i, hLt_i, hLe_i, hGt_i, hGe_i, hMul_r, hMul_l, hMod_i, hDiv_s, hBand_i, hShr_i, hPow_10_18, hPow_10_27, hPow_10_28, hPow_10_29, hPow_10_30, hEq_i, hNe_i, hLen_l, hLen_t, hMin2_i, hMax2_i, hMin3_i, hInt1_b, hInt1_i, hBits_i, hListOf_l, hListOf_t, hTupOf_l, hTupOf_t, gSeqS_def, gSet_def, gRet_def, gIfS_def, gNext_def, gTup_def, gLst_def, List.getElem?_cons_zero, List.getElem?_cons_succ, List.set_cons_zero, List.set_cons_succ, List.length_cons, List.length_nil, Nat.zero_add, Nat.reduceAdd, Nat.reduceLeDiff, Nat.reduceSub, Nat.reduceMul, if_true, if_false, Bool.false_eq_true, List.replicate_succ, List.replicate_zero, List.cons_append, List.nil_append, tgN, tgT, tgCons, tgNil, Int.reducePow, Int.reduceAdd, Int.reduceSub, Int.reduceMul, decide_true, decide_false, Bool.not_true, Bool.not_false, gChain_def, hIsa_int, hIsa_intb, hIsa_list, hIsa_tuple, gDrop_def, e1, a1, ix0]
    rw [e2, a2, bnd_ok, ix0]
    rfl
def ordB (r : List T3) : Bool := ((List.range (r.length - 1)).map fun i => decide ((r.getD i (0, 0, 0)).1 < (r.getD (i + 1) (0, 0, 0)).1)).all id
theorem rec_enc {n : Int} {r : List T3} (hl : r.length ≤ 60) : f_is_record [.int n, .list (r.map enc3)] = .ok (.bool (r.all (okT n) && ordB r)) := by
  have hall := all_ties (n := n) (ds := r.map enc3) (p := fun d => match d with | .tuple [.int a, .int b, .int c] => tieB n a b c | _ => false) .none .none (by rw [List.length_map]; omega) (fun d hd => by
    obtain ⟨t, _, rfl⟩ := List.mem_map.mp hd
    exact tie_int n t.1 t.2.1 t.2.2)
  have e0 : ((r.map enc3).map fun d => match d with | .tuple [.int a, .int b, .int c] => tieB n a b c | _ => false) = r.map (okT n) := by rw [List.map_map]; rfl
  rw [e0] at hall
  have hb := hAll_b (r.map (okT n))
  have e1 : (r.map (okT n)).all id = r.all (okT n) := by rw [List.all_map]; rfl
  rw [e1] at hb
  refine fnN_rt ?_
  show g_is_record [.int n, .list (r.map enc3), .none, .none] = _
  unfold g_is_record
  have e : decide ((60 : Int) < (r.length : Int)) = false := by rw [decide_eq_false_iff_not]; omega
  refine seq_step (Eq.trans (if_f (by simp only [bnd_ok, gVar_def, gC_def, gOp_def, gUn_def, gNil_def, gCons_def, gIf_def, gTest_def, gNot_def, gAnd_def, gOr_def, gAndV_def, gOrV_def, gNotV_def, gCB_def, asB_b, hAdd_i, hSub_i, hLt_i, hLe_i, hGt_i, hGe_i, hMul_r, hMul_l, hMod_i, hDiv_s, hBand_i, hShr_i, hPow_10_18, hPow_10_27, hPow_10_28, hPow_10_29, hPow_10_30, hEq_i, hNe_i, hLen_l, hLen_t, hMin2_i, hMax2_i, hMin3_i, hInt1_b, hInt1_i, hBits_i, hListOf_l, hListOf_t, hTupOf_l, hTupOf_t, gSeqS_def, gSet_def, gRet_def, gIfS_def, gNext_def, gTup_def, gLst_def, List.getElem?_cons_zero, List.getElem?_cons_succ, List.set_cons_zero, List.set_cons_succ, List.length_cons, List.length_nil, Nat.zero_add, Nat.reduceAdd, Nat.reduceLeDiff, Nat.reduceSub, Nat.reduceMul, if_true, if_false, Bool.false_eq_true, List.replicate_succ, List.replicate_zero, List.cons_append, List.nil_append, tgN, tgT, tgCons, tgNil, Int.reducePow, Int.reduceAdd, Int.reduceSub, Int.reduceMul, decide_true, decide_false, Bool.not_true, Bool.not_false, gChain_def, hIsa_int, hIsa_intb, hIsa_list, hIsa_tuple, gDrop_def, List.length_map, e])) rfl) ?_
  cases hc : r.all (okT n) with
  | false =>
    rw [hc] at hb
    refine seq_rt (Eq.trans (if_t ?_) rfl)
    simp only [bnd_ok, gVar_def, gC_def, gOp_def, gUn_def, gNil_def, gCons_def, gIf_def, gTest_def, gNot_def, gAnd_def, gOr_def, gAndV_def, gOrV_def, gNotV_def, gCB_def, asB_b, hAdd_i, hSub_i, hLt_i, hLe_i, hGt_i, hGe_i, hMul_r, hMul_l, hMod_i, hDiv_s, hBand_i, hShr_i, hPow_10_18, hPow_10_27, hPow_10_28, hPow_10_29, hPow_10_30, hEq_i, hNe_i, hLen_l, hLen_t, hMin2_i, hMax2_i, hMin3_i, hInt1_b, hInt1_i, hBits_i, hListOf_l, hListOf_t, hTupOf_l, hTupOf_t, gSeqS_def, gSet_def, gRet_def, gIfS_def, gNext_def, gTup_def, gLst_def, List.getElem?_cons_zero, List.getElem?_cons_succ, List.set_cons_zero, List.set_cons_succ, List.length_cons, List.length_nil, Nat.zero_add, Nat.reduceAdd, Nat.reduceLeDiff, Nat.reduceSub, Nat.reduceMul, if_true, if_false, Bool.false_eq_true, List.replicate_succ, List.replicate_zero, List.cons_append, List.nil_append, tgN, tgT, tgCons, tgNil, Int.reducePow, Int.reduceAdd, Int.reduceSub, Int.reduceMul, decide_true, decide_false, Bool.not_true, Bool.not_false, gChain_def, hIsa_int, hIsa_intb, hIsa_list, hIsa_tuple, gDrop_def, hall, hb]
  | true =>
    rw [hc] at hb
    refine seq_step (Eq.trans (if_f ?_) rfl) ?_
    · simp only [bnd_ok, gVar_def, gC_def, gOp_def, gUn_def, gNil_def, gCons_def, gIf_def, gTest_def, gNot_def, gAnd_def, gOr_def, gAndV_def, gOrV_def, gNotV_def, gCB_def, asB_b, hAdd_i, hSub_i, hLt_i, hLe_i, hGt_i, hGe_i, hMul_r, hMul_l, hMod_i, hDiv_s, hBand_i, hShr_i, hPow_10_18, hPow_10_27, hPow_10_28, hPow_10_29, hPow_10_30, hEq_i, hNe_i, hLen_l, hLen_t, hMin2_i, hMax2_i, hMin3_i, hInt1_b, hInt1_i, hBits_i, hListOf_l, hListOf_t, hTupOf_l, hTupOf_t, gSeqS_def, gSet_def, gRet_def, gIfS_def, gNext_def, gTup_def, gLst_def, List.getElem?_cons_zero, List.getElem?_cons_succ, List.set_cons_zero, List.set_cons_succ, List.length_cons, List.length_nil, Nat.zero_add, Nat.reduceAdd, Nat.reduceLeDiff, Nat.reduceSub, Nat.reduceMul, if_true, if_false, Bool.false_eq_true, List.replicate_succ, List.replicate_zero, List.cons_append, List.nil_append, tgN, tgT, tgCons, tgNil, Int.reducePow, Int.reduceAdd, Int.reduceSub, Int.reduceMul, decide_true, decide_false, Bool.not_true, Bool.not_false, gChain_def, hIsa_int, hIsa_intb, hIsa_list, hIsa_tuple, gDrop_def, hall, hb]
    · have hp := pairs_lc (n := n) (r := r) .none .none (by omega)
      have hb2 := hAll_b ((List.range (r.length - 1)).map fun i => decide ((r.getD i (0, 0, 0)).1 < (r.getD (i + 1) (0, 0, 0)).1))
      refine ret_ok ?_
      rw [gCB_def, gCons_def, hp, bnd_ok, gNil_def, bnd_ok, bnd_ok, hb2]
      rfl
theorem ordB_iff (r : List T3) : ordB r = true ↔ ∀ i (h : i + 1 < r.length), r[i].1 < r[i + 1].1 := by
  unfold ordB
  rw [List.all_map, List.all_eq_true]
  constructor
  · intro h i hi
    have := h i (List.mem_range.mpr (by omega))
    simp only [Function.comp, id, decide_eq_true_eq] at this
    rw [List.getD_eq_getElem?_getD, List.getD_eq_getElem?_getD, List.getElem?_eq_getElem (show i < r.length by omega), List.getElem?_eq_getElem hi] at this
    exact this
  · intro h i hi
    have hi := List.mem_range.mp hi
    have := h i (by omega)
    simp only [Function.comp, id, decide_eq_true_eq]
    rw [List.getD_eq_getElem?_getD, List.getD_eq_getElem?_getD, List.getElem?_eq_getElem (show i < r.length by omega), List.getElem?_eq_getElem (show i + 1 < r.length by omega)]
    exact this
structure Good (n : Int) (r : List T3) : Prop where
  len : r.length ≤ 60
  ok : ∀ t ∈ r, okT n t = true
  ord : r.Pairwise fun s t => s.1 < t.1
theorem rec_good {n : Int} {r : List T3} (h : Good n r) : f_is_record [.int n, .list (r.map enc3)] = .ok (.bool true) := by
  rw [rec_enc h.len, List.all_eq_true.mpr h.ok, (ordB_iff r).mpr fun i hi => List.pairwise_iff_getElem.mp h.ord i (i + 1) (by omega) hi (by omega)]
  rfl
structure TieOkE (n : Int) (t : T3) : Prop where
  m0 : 0 ≤ t.1
  m1 : t.1 ≤ 1000000000000000000000000000000
  a0 : 0 ≤ t.2.1
  ab : t.2.1 ≤ t.2.2
  bn : t.2.2 < n
theorem okT_of {n : Int} {t : T3} (h : TieOkE n t) : okT n t = true := by
  unfold okT tieB
  have := h.m0; have := h.m1; have := h.a0; have := h.ab; have := h.bn
  rw [decide_eq_true (by omega), decide_eq_true (by omega), decide_eq_true (by omega), decide_eq_true (by omega), decide_eq_true (by omega), decide_eq_true (by omega), decide_eq_true (by omega)]
  rfl
theorem rec_one {n : Int} {t : T3} (h : TieOkE n t) : f_is_record [.int n, .list [enc3 t]] = .ok (.bool true) := rec_good (r := [t]) ⟨by simp, fun u hu => by rw [List.mem_singleton.mp hu]; exact okT_of h, List.pairwise_singleton _ _⟩
end K16
end T_K16N
section T_LayIff
set_option linter.all false
set_option maxRecDepth 100000
namespace Lay
open PySem Sim FamA
theorem fj_spec {p : Nat → Prop} : ∀ (m lo : Nat), (fj p lo m = 0 ∧ ∀ i, i < m → ¬ p (lo + i)) ∨ (∃ i, i < m ∧ fj p lo m = (lo : Int) + i + 1 ∧ p (lo + i) ∧ ∀ i', i' < i → ¬ p (lo + i'))
  | 0, lo => .inl ⟨rfl, fun i hi => by omega⟩
  | m + 1, lo => by
    by_cases h : p lo
    · exact .inr ⟨0, by omega, by rw [fj_t m h]; omega, h, fun i hi => by omega⟩
    · rw [fj_f m h]
      have sh : ∀ i, lo + 1 + i = lo + (i + 1) := fun i => by omega
      rcases fj_spec (p := p) m (lo + 1) with ⟨e, q⟩ | ⟨i, hi, e, q, r⟩
      · refine .inl ⟨e, fun i hi => ?_⟩
        cases i with
        | zero => exact h
        | succ i => rw [← sh]; exact q i (by omega)
      · refine .inr ⟨i + 1, by omega, by rw [e]; omega, by rw [← sh]; exact q, fun i' hi' => ?_⟩
        cases i' with
        | zero => exact h
        | succ i' => rw [← sh]; exact r i' (by omega)
end Lay
end T_LayIff
section T_LeP
set_option linter.all false
set_option maxRecDepth 100000
namespace Sim
open PySem
def OLe {α : Type} (a b : O α) : Prop := ∀ r, a = .ok r → b = .ok r
def Gle {α : Type} (a b : List Dt → O α) : Prop := ∀ ρ, OLe (a ρ) (b ρ)
theorem OLe.refl {α : Type} (a : O α) : OLe a a := fun _ h => h
theorem gle_refl {α : Type} {a : List Dt → O α} : Gle a a := fun _ _ h => h
theorem ole_bnd {α β : Type} {a a' : O α} {f f' : α → O β} (h : OLe a a') (k : ∀ x, OLe (f x) (f' x)) : OLe (bnd a f) (bnd a' f') := fun r e => by
  cases ea : a with
  | bad => rw [ea] at e; cases e
  | ex z => rw [ea] at e; cases e
  | ok x =>
    rw [ea, bnd_ok] at e
    rw [h x ea, bnd_ok]
    exact k x r e
theorem gle_bad {b : Gs} : Gle gBad b := fun _ _ h => nomatch h
theorem gle_seq {a a' b b' : Gs} (h : Gle a a') (k : Gle b b') : Gle (gSeqS a b) (gSeqS a' b') := fun ρ r e => by
  unfold gSeqS at e ⊢
  cases ea : a ρ with
  | bad => rw [ea] at e; cases e
  | ex z => rw [ea] at e; cases e
  | ok fl =>
    rw [ea] at e
    rw [h ρ fl ea]
    cases fl with
    | nx ρ' => exact k ρ' r e
    | rt d => exact e
    | bk ρ' => exact e
    | ct ρ' => exact e
theorem gle_if {t t' : List Dt → O Bool} {a a' b b' : Gs} (ht : Gle t t') (h : Gle a a') (k : Gle b b') : Gle (gIfS t a b) (gIfS t' a' b') := fun ρ => ole_bnd (ht ρ) fun c => by
  cases c with
  | true => exact h ρ
  | false => exact k ρ
theorem gle_drop {a a' : Gd} (h : Gle a a') : Gle (gDrop a) (gDrop a') := fun ρ => ole_bnd (h ρ) fun _ => OLe.refl _
theorem gle_callX {n : Nat} {g g' : List Dt → O Dt} {a a' : List Dt → O (List Dt)} (h : ∀ ds, OLe (g ds) (g' ds)) (k : Gle a a') : Gle (gCallN n g a) (gCallX n g' a') := fun ρ => ole_bnd (k ρ) fun ds => by
  by_cases hn : ds.length = n
  · rw [if_pos hn, if_pos hn]
    intro r e
    cases eg : g ds with
    | bad => rw [eg] at e; cases e
    | ex z => rw [eg] at e; cases e
    | ok d => rw [eg] at e; exact (h ds d eg).trans e
  · rw [if_neg hn, if_neg hn]
    exact OLe.refl _
theorem ole_N {m : Nat} {g g' : Gs} (h : Gle g g') (ds : List Dt) : OLe (fnN m g ds) (fnNX m g' ds) := fun r e => by
  unfold fnN at e
  unfold fnNX
  cases eg : g (ds ++ List.replicate (m - ds.length) .none) with
  | bad => rw [eg] at e; cases e
  | ex z => rw [eg] at e; cases e
  | ok fl =>
    rw [eg] at e
    rw [h _ fl eg]
    cases fl with
    | nx ρ' => exact e
    | rt d => exact e
    | bk ρ' => cases e
    | ct ρ' => cases e
theorem ole_L {m : Nat} {g g' : Gs} (h : Gle g g') (ds : List Dt) : OLe (fnL m g ds) (fnLX m g' ds) := fun r e => by
  unfold fnL at e
  unfold fnLX
  cases eg : g (ds ++ List.replicate (m - ds.length) .none) with
  | bad => rw [eg] at e; cases e
  | ex z => rw [eg] at e; cases e
  | ok fl =>
    rw [eg] at e
    rw [h _ fl eg]
    cases fl with
    | nx ρ' => cases e
    | rt d => exact e
    | bk ρ' => cases e
    | ct ρ' => cases e
theorem callX_ok {n : Nat} {g : List Dt → O Dt} {gA : List Dt → O (List Dt)} {ρ ds : List Dt} {d : Dt} (h1 : gA ρ = .ok ds) (h2 : ds.length = n) (h3 : g ds = .ok d) : gCallX n g gA ρ = .ok d := by
  unfold gCallX
  rw [h1, bnd_ok, if_pos h2, h3]
theorem callX_ex {n : Nat} {g : List Dt → O Dt} {gA : List Dt → O (List Dt)} {ρ ds : List Dt} {e : Exn} (h1 : gA ρ = .ok ds) (h2 : ds.length = n) (h3 : g ds = .ex e) : gCallX n g gA ρ = .ex e := by
  unfold gCallX
  rw [h1, bnd_ok, if_pos h2, h3]
theorem drop_ex {g : Gd} {ρ : List Dt} {e : Exn} (h : g ρ = .ex e) : gDrop g ρ = .ex e := by unfold gDrop; rw [h]; rfl
theorem set_ex {i : Nat} {g : Gd} {ρ : List Dt} {e : Exn} (h : g ρ = .ex e) : gSet i g ρ = .ex e := by unfold gSet; rw [h]; rfl
theorem seq_ex {a b : Gs} {ρ : List Dt} {e : Exn} (h : a ρ = .ex e) : gSeqS a b ρ = .ex e := by unfold gSeqS; rw [h]
theorem fnNX_ex {m : Nat} {g : Gs} {ds : List Dt} {e : Exn} (h : g (ds ++ List.replicate (m - ds.length) .none) = .ex e) : fnNX m g ds = .ex e := by unfold fnNX; rw [h]
theorem fnLX_ex {m : Nat} {g : Gs} {ds : List Dt} {e : Exn} (h : g (ds ++ List.replicate (m - ds.length) .none) = .ex e) : fnLX m g ds = .ex e := by unfold fnLX; rw [h]
theorem fnLX_rt {m : Nat} {g : Gs} {ds : List Dt} {d : Dt} (h : g (ds ++ List.replicate (m - ds.length) .none) = .ok (.rt d)) : fnLX m g ds = .ok d := by unfold fnLX; rw [h]
theorem try_ok {gb gh : Gs} {yes no : List Str} {i : Nat} {ρ : List Dt} {a : Fl} (h : gb ρ = .ok a) : gTry gb yes no i gh ρ = .ok a := by unfold gTry; rw [h]
theorem try_ex {gb gh : Gs} {yes no : List Str} {i : Nat} {ρ : List Dt} {c : Str} {m : Option Int} {a : Fl} (h : gb ρ = .ex ⟨c, m⟩) (hc : yes.contains c = true) (k : gh (ρ.set i (exnD c m)) = .ok a) : gTry gb yes no i gh ρ = .ok a := by
  unfold gTry
  rw [h]
  show (if yes.contains c then noX (gh (ρ.set i (exnD c m))) else _) = _
  rw [if_pos hc, k]
  rfl
theorem hIx_ds {ds : List Dt} {i : Nat} (h : i < ds.length) : hIx (.list ds) (.int (i : Nat)) = .ok ds[i] := by
  have q := hIx_l (atI_map id (xs := ds) (i := (i : Int)) (by omega) (by omega))
  rw [List.map_id] at q
  exact q
end Sim
end T_LeP
section T_XevP
set_option linter.all false
set_option maxRecDepth 100000
namespace Sim
open PySem
theorem vx_nil {ρ : List Dt} : xNil ρ = .ok ([], ρ) := rfl
theorem vx_cons {a : Gx} {b : List Dt → O (List Dt × List Dt)} {ρ ρ1 ρ2 : List Dt} {x : Dt} {xs : List Dt} (h1 : a ρ = .ok (x, ρ1)) (h2 : b ρ1 = .ok (xs, ρ2)) : xCons a b ρ = .ok (x :: xs, ρ2) := by
  rw [xCons_def, h1, bnd_ok]
  show bnd (b ρ1) _ = _
  rw [h2, bnd_ok]
theorem vx_p {g : Gd} {ρ : List Dt} {d : Dt} (h : g ρ = .ok d) : xP g ρ = .ok (d, ρ) := by rw [xP_def, h, bnd_ok]
theorem vx_tup {a : List Dt → O (List Dt × List Dt)} {ρ ρ' : List Dt} {xs : List Dt} (h : a ρ = .ok (xs, ρ')) (hl : xs.length ≤ 100000) : xTup a ρ = .ok (.tuple xs, ρ') := by
  unfold xTup
  rw [h, bnd_ok, if_pos hl]
theorem vx_op {h : Dt → Dt → O Dt} {a b : Gx} {ρ ρ1 ρ2 : List Dt} {x y z : Dt} (h1 : a ρ = .ok (x, ρ1)) (h2 : b ρ1 = .ok (y, ρ2)) (h3 : h x y = .ok z) : xOp h a b ρ = .ok (z, ρ2) := by
  rw [xOp_def, h1, bnd_ok]
  show bnd (b ρ1) _ = _
  rw [h2, bnd_ok]
  show bnd (h x y) _ = _
  rw [h3, bnd_ok]
theorem vx_test {g : Gx} {ρ ρ' : List Dt} {b : Bool} (h : g ρ = .ok (.bool b, ρ')) : xTest g ρ = .ok (b, ρ') := by
  rw [xTest_def, h, bnd_ok]
  rfl
theorem vx_not {t : List Dt → O (Bool × List Dt)} {ρ ρ' : List Dt} {b : Bool} (h : t ρ = .ok (b, ρ')) : xNot t ρ = .ok (!b, ρ') := by
  rw [xNot_def, h, bnd_ok]
end Sim
namespace Sim
open PySem
theorem vg_cons {a : Gd} {b : List Dt → O (List Dt)} {ρ : List Dt} {x : Dt} {xs : List Dt} (h1 : a ρ = .ok x) (h2 : b ρ = .ok xs) : gCons a b ρ = .ok (x :: xs) := by rw [gCons_def, h1, bnd_ok, h2, bnd_ok]
theorem vg_op {h : Dt → Dt → O Dt} {a b : Gd} {ρ : List Dt} {x y z : Dt} (h1 : a ρ = .ok x) (h2 : b ρ = .ok y) (h3 : h x y = .ok z) : gOp h a b ρ = .ok z := by rw [gOp_def, h1, bnd_ok, h2, bnd_ok, h3]
theorem vg_test {a : Gd} {ρ : List Dt} {b : Bool} (h : a ρ = .ok (.bool b)) : gTest a ρ = .ok b := by rw [gTest_def, h]; rfl
theorem vg_not {t : List Dt → O Bool} {ρ : List Dt} {b : Bool} (h : t ρ = .ok b) : gNot t ρ = .ok (!b) := by rw [gNot_def, h]; rfl
theorem vg_orF {t u : List Dt → O Bool} {ρ : List Dt} {z : O Bool} (h : t ρ = .ok false) (k : u ρ = z) : gOr t u ρ = z := by
  rw [gOr_def, h, bnd_ok]
  simpa using k
theorem vg_andT {t u : List Dt → O Bool} {ρ : List Dt} {z : O Bool} (h : t ρ = .ok true) (k : u ρ = z) : gAnd t u ρ = z := by
  rw [gAnd_def, h, bnd_ok]
  simpa using k
theorem vg_andF {t u : List Dt → O Bool} {ρ : List Dt} (h : t ρ = .ok false) : gAnd t u ρ = .ok false := by
  rw [gAnd_def, h, bnd_ok]
  simp
theorem vs_not {ga : Gd} {ρ : List Dt} (h1 : ga ρ = .ok (.bool true)) : gIfS (gNot (gTest ga)) (gRet (gC (.bool false))) (gNext) ρ = .ok (.nx ρ) := (if_f (vg_not (vg_test h1))).trans rfl
end Sim
end T_XevP
section T_K16Q
set_option linter.all false
set_option maxRecDepth 100000
set_option maxHeartbeats 4000000
namespace K16
open PySem Sim FamA FamL Lay Mov
def toL (t : T3) : List Int := [t.1, t.2.1, t.2.2]
theorem hEq_nil (r : List T3) : hEq (.list (r.map enc3)) (.list []) = .ok (.bool r.isEmpty) := by
  unfold hEq
  have e : SeqAt.shaped (.list []) = true := shaped_ints []
  rw [FamB.enc_shaped, e]
  cases r with
  | nil => simp [PyData.eqv, PyData.eqvAll]
  | cons t r => simp [PyData.eqv, PyData.eqvAll]
theorem min_ok (c : T3) (l : List T3) : ∃ m ∈ c :: l, one hMinT [.list ((c :: l).map enc3)] = .ok (enc3 m) ∧ ∀ y ∈ c :: l, m.1 ≤ y.1 := by
  have h1 := lmin_mem (l.map toL) (toL c)
  have h2 := lmin_le (l.map toL) (toL c)
  have e : ((c :: l).map enc3) = ((c :: l).map toL).map encL := by rw [List.map_map]; rfl
  have h1 : lmin (toL c) (l.map toL) ∈ (c :: l).map toL := h1
  obtain ⟨m, hm, em⟩ := List.mem_map.mp h1
  refine ⟨m, hm, ?_, fun y hy => ?_⟩
  · rw [e]
    have ha : allT (((c :: l).map toL).map encL) = some (toL c :: l.map toL) := allT_map _
    simp only [one, hMinT, ha]
    rw [← em]
    rfl
  · have := h2 (toL y) (List.mem_map.mpr ⟨y, hy, rfl⟩)
    rw [← em] at this
    unfold toL at this
    rw [lxLt_cons] at this
    by_cases z : y.1 = m.1
    · omega
    · rw [if_neg z, decide_eq_false_iff_not] at this
      omega
noncomputable def mvS (n : Int) (r : List T3) (k : Nat) (c : T3) (x5 x6 x7 : Dt) (told : List T3) (x9 x10 x11 x12 : Dt) : List Dt :=
  [.int n, .list (r.map enc3), .int (k : Nat), enc3 c, .list ((lay k r).map .int), x5, x6, x7, .list (told.map enc3), x9, x10, x11, x12]
theorem mv_turn {n : Int} {r : List T3} {k j : Nat} {c : T3} {x5 x6 x7 x10 x11 x12 : Dt} {told : List T3} (hr : InN n r) (ho : r.Pairwise fun s t => s.1 < t.1) (hl : r.length ≤ 1000) (n10 : n ≤ 10) (k6 : k ≤ 6) (hj : j < k)
    (hc : (0 ≤ c.2.1 ∧ c.2.1 < n) ∧ 0 ≤ c.2.2 ∧ c.2.2 < n) (hd : ∀ g ∈ rsn j r, g.1 ≠ c.1) (ht : told.length ≤ 100) :
    (¬ Conn (fo (rsn j r)) c.2.1 c.2.2 ∧ g_moves_L1 (mvS n r k c x5 x6 x7 told (.int ((j + 1 : Nat) : Int)) x10 x11 x12) = .ok (.rt (.list (told.map enc3)))) ∨
    (Conn (fo (rsn j r)) c.2.1 c.2.2 ∧ ∃ y10 , g_moves_L1 (mvS n r k c x5 x6 x7 told (.int ((j + 1 : Nat) : Int)) x10 x11 x12) = .ok (.nx (mvS n r k (out c (fo (rsn j r))) x5 x6 x7 (told ++ [((out c (fo (rsn j r))).1, ((j + 1 : Nat) : Int), (((j + 1 : Nat) : Int) + 1) % ((k : Int) + 1))]) (.int ((j + 1 : Nat) : Int)) y10 x11 x12))) := by
  have hlf := (lay_fo k r).1 j hj
  have hsub : ∀ g ∈ fo (rsn j r), g ∈ rsn j r := fun g hg => (fo_sub _).subset hg
  have hrin : InN n (fo (rsn j r)) := fun t h => hr t ((rsn_sub j r).subset (hsub t h))
  obtain ⟨R, h1, h2, h3⟩ := ring_ok (c := c) hc (by omega) hrin
  have hzip : gZip (gCons (gVar 1) (gCons (gVar 4) (gNil))) (mvS n r k c x5 x6 x7 told (.int ((j + 1 : Nat) : Int)) x10 x11 x12) = .ok ((r.zip (lay k r)).map fun p => .tuple [enc3 p.1, .int p.2]) := by
    rw [zip_ok (es := r.map enc3) (fs := (lay k r).map .int) (by rfl), zipD_map]
  have hlc := gLc_map (fun (p : T3 × Int) => PyData.tuple [enc3 p.1, .int p.2]) (fun p => p.2 == ((j : Int) + 1)) (fun p => enc3 p.1) (h := tgT (tgCons (tgN 11) (tgCons (tgN 12) (tgNil)))) (gt := gTest (gOp hEq (gVar 12) (gVar 9))) (ge := gVar 11) hzip (by rw [List.length_zip]; omega) fun p hp => ⟨_, rfl, by
    rw [gTest_def, gOp_def]
    show bnd (hEq (.int p.2) (.int ((j + 1 : Nat) : Int))) asB = _
    rw [hEq_i]
    rfl, fun _ => rfl⟩
  have e : ((r.zip (lay k r)).filter fun p => p.2 == ((j : Int) + 1)).map (fun p => enc3 p.1) = (fo (rsn j r)).map enc3 := by
    rw [← hlf]
    unfold layer
    rw [List.map_map]
    rfl
  rw [e] at hlc
  have hcall : gCallN 2 f_ring_with (gCons (gLc (gZip (gCons (gVar 1) (gCons (gVar 4) (gNil)))) (tgT (tgCons (tgN 11) (tgCons (tgN 12) (tgNil)))) (gTest (gOp hEq (gVar 12) (gVar 9))) (gVar 11)) (gCons (gVar 3) (gNil))) (mvS n r k c x5 x6 x7 told (.int ((j + 1 : Nat) : Int)) x10 x11 x12) = .ok (.list (R.map enc3)) :=
    callN_ok (ds := [.list ((fo (rsn j r)).map enc3), enc3 c]) (by rw [gCons_def, hlc]; rfl) rfl h1
  have hset := set_ok (i := 10) hcall
  have hset : gSet 10 (gCallN 2 f_ring_with (gCons (gLc (gZip (gCons (gVar 1) (gCons (gVar 4) (gNil)))) (tgT (tgCons (tgN 11) (tgCons (tgN 12) (tgNil)))) (gTest (gOp hEq (gVar 12) (gVar 9))) (gVar 11)) (gCons (gVar 3) (gNil)))) (mvS n r k c x5 x6 x7 told (.int ((j + 1 : Nat) : Int)) x10 x11 x12) = .ok (.nx (mvS n r k c x5 x6 x7 told (.int ((j + 1 : Nat) : Int)) (.list (R.map enc3)) x11 x12)) := hset.trans rfl
  have htest : gTest (gOp hEq (gVar 10) (gLst (gNil))) (mvS n r k c x5 x6 x7 told (.int ((j + 1 : Nat) : Int)) (.list (R.map enc3)) x11 x12) = .ok R.isEmpty := by
    rw [gTest_def, gOp_def]
    show bnd (hEq (.list (R.map enc3)) (.list [])) asB = _
    rw [hEq_nil]
    rfl
  unfold g_moves_L1
  rcases h2 with ⟨g1, rfl⟩ | ⟨g1, l, rfl, w1, w2, w3⟩
  · exact .inl ⟨g1, seq_step hset (seq_rt ((if_t htest).trans (ret_ok rfl)))⟩
  · refine .inr ⟨g1, .list ((c :: l).map enc3), ?_⟩
    obtain ⟨m, m1, m2, m3⟩ := min_ok c l
    have em : m = out c (fo (rsn j r)) := ring_out (((ho.sublist (rsn_sub j r))).sublist (fo_sub _)) (frst_fo _) (fun g hg => hd g (hsub g hg)) w1 w2 w3 m1 m3
    rw [← em]
    refine seq_step hset ?_
    refine seq_step ((if_f htest).trans rfl) ?_
    have hmin : gCB (one hMinT) (gCons (gVar 10) (gNil)) (mvS n r k c x5 x6 x7 told (.int ((j + 1 : Nat) : Int)) (.list ((c :: l).map enc3)) x11 x12) = .ok (enc3 m) := by
      rw [gCB_def]
      show bnd (O.ok [PyData.list ((c :: l).map enc3)]) _ = _
      rw [bnd_ok, m2]
    refine seq_step (ρ' := mvS n r k m x5 x6 x7 told (.int ((j + 1 : Nat) : Int)) (.list ((c :: l).map enc3)) x11 x12) ((set_ok hmin).trans rfl) ?_
    have hmod := hMod_i (i := ((j + 1 : Nat) : Int) + 1) (j := (k : Int) + 1) (by omega)
    refine (gApp_l (i := 8) (ds := told.map enc3) (d := enc3 (m.1, ((j + 1 : Nat) : Int), (((j + 1 : Nat) : Int) + 1) % ((k : Int) + 1))) rfl ?_ (by rw [List.length_map]; omega)).trans ?_
    · refine gTup_ok (xs := [.int m.1, .int ((j + 1 : Nat) : Int), .int ((((j + 1 : Nat) : Int) + 1) % ((k : Int) + 1))]) ?_ (by simp)
      have a1 : gPur (gOp hIx (gVar 3) (gC (.int (0)))) (mvS n r k m x5 x6 x7 told (.int ((j + 1 : Nat) : Int)) (.list ((c :: l).map enc3)) x11 x12) = .ok (.int m.1) := rfl
      have a3 : gOp hMod (gOp hAdd (gVar 9) (gC (.int (1)))) (gOp hAdd (gVar 2) (gC (.int (1)))) (mvS n r k m x5 x6 x7 told (.int ((j + 1 : Nat) : Int)) (.list ((c :: l).map enc3)) x11 x12) = .ok (.int ((((j + 1 : Nat) : Int) + 1) % ((k : Int) + 1))) := hmod
      rw [gCons_def, a1, bnd_ok, gCons_def, gVar_def, gCons_def, a3]
      rfl
    · rw [map3_snoc]
      rfl
theorem mv_loop {n : Int} {r : List T3} {k : Nat} {x5 x6 x7 : Dt} (hr : InN n r) (ho : r.Pairwise fun s t => s.1 < t.1) (hl : r.length ≤ 1000) (n10 : n ≤ 10) (k6 : k ≤ 6) :
    ∀ (m j : Nat) (c : T3) (told : List T3) (x9 x10 x11 x12 : Dt), j + m = k → ((0 ≤ c.2.1 ∧ c.2.1 < n) ∧ 0 ≤ c.2.2 ∧ c.2.2 < n) → (∀ g ∈ rsn j r, g.1 ≠ c.1) → told.length ≤ j + 1 →
    forE (tgN 9) g_moves_L1 ((List.range' (j + 1) m).map fun (i : Nat) => PyData.int (i : Int)) (mvS n r k c x5 x6 x7 told x9 x10 x11 x12) = .ok (.rt (.list ((told ++ mv k m ((j + 1 : Nat) : Int) (rsn j r) c).map enc3))) ∨
    ∃ c' y9 y10, forE (tgN 9) g_moves_L1 ((List.range' (j + 1) m).map fun (i : Nat) => PyData.int (i : Int)) (mvS n r k c x5 x6 x7 told x9 x10 x11 x12) = .ok (.nx (mvS n r k c' x5 x6 x7 (told ++ mv k m ((j + 1 : Nat) : Int) (rsn j r) c) y9 y10 x11 x12))
  | 0, j, c, told, x9, x10, x11, x12, e, hc, hd, hk => .inr ⟨c, x9, x10, by
    unfold mv
    rw [List.append_nil]
    rfl⟩
  | m + 1, j, c, told, x9, x10, x11, x12, e, hc, hd, hk => by
    have st : tgN 9 (.int ((j + 1 : Nat) : Int)) (mvS n r k c x5 x6 x7 told x9 x10 x11 x12) = .ok (mvS n r k c x5 x6 x7 told (.int ((j + 1 : Nat) : Int)) x10 x11 x12) := rfl
    rw [List.range'_succ, List.map_cons]
    unfold forE
    rw [st]
    unfold mv
    simp only
    rcases mv_turn (told := told) (c := c) (x5 := x5) (x6 := x6) (x7 := x7) (x10 := x10) (x11 := x11) (x12 := x12) hr ho hl n10 k6 (show j < k by omega) hc hd (by omega) with ⟨g1, g2⟩ | ⟨g1, y10, g2⟩
    · rw [if_neg g1, List.append_nil, g2]
      exact .inl rfl
    · rw [if_pos g1, g2]
      have hc' : (0 ≤ (out c (fo (rsn j r))).2.1 ∧ (out c (fo (rsn j r))).2.1 < n) ∧ 0 ≤ (out c (fo (rsn j r))).2.2 ∧ (out c (fo (rsn j r))).2.2 < n := by
        rcases out_mem (c := c) (fo (rsn j r)) with z | z
        · rw [z]; exact hc
        · exact hr _ ((rsn_sub j r).subset ((fo_sub _).subset z))
      have ih := mv_loop (x5 := x5) (x6 := x6) (x7 := x7) hr ho hl n10 k6 m (j + 1) (out c (fo (rsn j r))) (told ++ [((out c (fo (rsn j r))).1, ((j + 1 : Nat) : Int), (((j + 1 : Nat) : Int) + 1) % ((k : Int) + 1))]) (.int ((j + 1 : Nat) : Int)) y10 x11 x12 (by omega) hc' (out_rs (ho.sublist (rsn_sub j r)) hd) (by rw [List.length_append, List.length_singleton]; omega)
      rw [List.append_assoc] at ih
      exact ih
theorem rangeD_1 (k : Nat) : rangeD 1 ((k : Int) + 1) = (List.range' 1 k).map fun (i : Nat) => PyData.int (i : Int) := by
  unfold rangeD
  rw [show ((k : Int) + 1 - 1).toNat = k by omega, List.range'_eq_map_range, List.map_map]
  apply List.map_congr_left
  intro i _
  show PyData.int (1 + (i : Int)) = PyData.int ((1 + i : Nat) : Int)
  rw [show ((1 + i : Nat) : Int) = 1 + (i : Int) by omega]
theorem moms_lc {n : Int} {r : List T3} {k : Nat} {t : T3} {x4 : Dt} (hl : r.length ≤ 1000) : gLc (gSeq (gVar 1)) (tgT (tgCons (tgN 5) (tgCons (tgN 6) (tgCons (tgN 7) (tgNil))))) (gYes) (gVar 5) [.int n, .list (r.map enc3), .int (k : Nat), enc3 t, x4, .none, .none, .none, .none, .none, .none, .none, .none] = .ok (.list ((r.map (·.1)).map .int)) := by
  have := gLc_map enc3 (fun _ => true) (fun t => PyData.int t.1) (gi := gSeq (gVar 1)) (h := tgT (tgCons (tgN 5) (tgCons (tgN 6) (tgCons (tgN 7) (tgNil))))) (gt := gYes) (ge := gVar 5) (ρ := [.int n, .list (r.map enc3), .int (k : Nat), enc3 t, x4, .none, .none, .none, .none, .none, .none, .none, .none]) (xs := r) (seqG_l rfl) (by omega) fun p hp => ⟨_, rfl, rfl, fun _ => rfl⟩
  rw [this, List.filter_eq_self.mpr (fun _ _ => rfl), List.map_map]
  rfl
abbrev XL : Exn := ⟨"NoLayers", none⟩
abbrev XT : Exn := ⟨"NoTies", none⟩
theorem le_look : ∀ ds, OLe (FamL.f_look_at_layers ds) (K16.f_look_at_layers ds) := ole_N (gle_if gle_refl gle_bad gle_refl)
theorem le_layered : ∀ ds, OLe (FamL.f_layered ds) (K16.f_layered ds) := ole_L (gle_seq (gle_drop (gle_callX le_look gle_refl)) gle_refl)
theorem look_ex {d : Dt} (h : f_is_depth [d] = .ok (.bool false)) : f_look_at_layers [d] = .ex XL := by
  refine fnNX_ex ?_
  show g_look_at_layers [d] = _
  unfold g_look_at_layers
  have c1 : gCallN 1 f_is_depth (gCons (gVar 0) (gNil)) [d] = .ok (.bool false) := callN_ok (ds := [d]) rfl rfl h
  exact (if_t (by simp only [gNot_def, gTest_def, c1, bnd_ok, asB_b, Bool.not_false])).trans rfl
theorem layered_ex {a b d : Dt} (h : f_is_depth [d] = .ok (.bool false)) : f_layered [a, b, d] = .ex XL := by
  refine fnLX_ex ?_
  show g_layered [a, b, d, .none, .none, .none, .none, .none, .none] = _
  exact seq_ex (drop_ex (callX_ex (ds := [d]) rfl rfl (look_ex h)))
theorem moves_nl {a b d t : Dt} (h : f_is_depth [d] = .ok (.bool false)) : f_moves [a, b, d, t] = .ex XL := by
  refine fnLX_ex ?_
  show g_moves [a, b, d, t, .none, .none, .none, .none, .none, .none, .none, .none, .none] = _
  unfold g_moves
  exact seq_ex (set_ex (callX_ex (ds := [a, b, d]) rfl rfl (layered_ex h)))
theorem moves_ok {n : Int} {r : List T3} {k : Nat} {t : T3} (hr : InN n r) (ho : r.Pairwise fun s t => s.1 < t.1) (hl : r.length ≤ 60) (n1 : 1 ≤ n) (n10 : n ≤ 10) (k1 : 1 ≤ k) (k6 : k ≤ 6) (ht : TieOkE n t) (hd : ∀ g ∈ r, g.1 ≠ t.1) :
    f_moves [.int n, .list (r.map enc3), .int (k : Nat), enc3 t] = .ok (.list (((t.1, 0, 1) :: mv k k 1 r t).map enc3)) := by
  have a0 := ht.a0; have ab := ht.ab; have bn := ht.bn
  refine fnLX_rt ?_
  show g_moves [.int n, .list (r.map enc3), .int (k : Nat), enc3 t, .none, .none, .none, .none, .none, .none, .none, .none, .none] = _
  unfold g_moves
  refine seq_step (set_ok (callX_ok (ds := [.int n, .list (r.map enc3), .int (k : Nat)]) rfl rfl (le_layered _ _ (layered_ok hr (by omega) n1 n10 k1 k6)))) ?_
  dsimp only [List.set]
  have c1 : gTest (gCallN 2 f_is_record (gCons (gVar 0) (gCons (gLst (gCons (gVar 3) (gNil))) (gNil)))) [.int n, .list (r.map enc3), .int (k : Nat), enc3 t, .list ((lay k r).map .int), .none, .none, .none, .none, .none, .none, .none, .none] = .ok true := by
    have c0 : gCallN 2 f_is_record (gCons (gVar 0) (gCons (gLst (gCons (gVar 3) (gNil))) (gNil))) [.int n, .list (r.map enc3), .int (k : Nat), enc3 t, .list ((lay k r).map .int), .none, .none, .none, .none, .none, .none, .none, .none] = .ok (.bool true) := callN_ok (ds := [.int n, .list [enc3 t]]) rfl rfl (rec_one ht)
    rw [gTest_def, c0]
    rfl
  refine seq_step ((if_f (by rw [gNot_def, c1]; rfl)).trans rfl) ?_
  have c2 : gTest (gOp hIn (gPur (gOp hIx (gVar 3) (gC (.int (0))))) (gLc (gSeq (gVar 1)) (tgT (tgCons (tgN 5) (tgCons (tgN 6) (tgCons (tgN 7) (tgNil))))) (gYes) (gVar 5))) [.int n, .list (r.map enc3), .int (k : Nat), enc3 t, .list ((lay k r).map .int), .none, .none, .none, .none, .none, .none, .none, .none] = .ok false := by
    have e1 : gPur (gOp hIx (gVar 3) (gC (.int (0)))) [.int n, .list (r.map enc3), .int (k : Nat), enc3 t, .list ((lay k r).map .int), .none, .none, .none, .none, .none, .none, .none, .none] = .ok (.int t.1) := rfl
    rw [gTest_def, gOp_def, e1, bnd_ok, moms_lc (by omega), bnd_ok, hIn_ints, decide_eq_false]
    · rfl
    · intro z
      obtain ⟨g, hg, e⟩ := List.mem_map.mp z
      exact hd g hg e
  refine seq_step ((if_f c2).trans rfl) ?_
  refine seq_step (ρ' := mvS n r k t .none .none .none [(t.1, 0, 1)] .none .none .none .none) (set_ok rfl) ?_
  have hrng : gRng2 (gCons (gC (.int (1))) (gCons (gOp hAdd (gVar 2) (gC (.int (1)))) (gNil))) (mvS n r k t .none .none .none [(t.1, 0, 1)] .none .none .none .none) = .ok ((List.range' 1 k).map fun (i : Nat) => PyData.int (i : Int)) := by
    rw [← rangeD_1]
    exact rng2_ok (by rfl) (by omega) (by omega) (by omega) (by omega)
  rcases mv_loop (x5 := .none) (x6 := .none) (x7 := .none) hr ho (by omega) n10 k6 k 0 t [(t.1, 0, 1)] .none .none .none .none (by omega) ⟨⟨by omega, by omega⟩, by omega, by omega⟩ hd (by simp) with h | ⟨c', y9, y10, h⟩
  · exact seq_rt (for_ok hrng h)
  · exact seq_step (for_ok hrng h) (ret_ok rfl)
theorem moves_nt {n : Int} {r : List T3} {k : Nat} {t : Dt} (hr : InN n r) (hl : r.length ≤ 60) (n1 : 1 ≤ n) (n10 : n ≤ 10) (k1 : 1 ≤ k) (k6 : k ≤ 6) (ht : f_is_record [.int n, .list [t]] = .ok (.bool false)) :
    f_moves [.int n, .list (r.map enc3), .int (k : Nat), t] = .ex XT := by
  refine fnLX_ex ?_
  show g_moves [.int n, .list (r.map enc3), .int (k : Nat), t, .none, .none, .none, .none, .none, .none, .none, .none, .none] = _
  unfold g_moves
  refine seq_step (set_ok (callX_ok (ds := [.int n, .list (r.map enc3), .int (k : Nat)]) rfl rfl (le_layered _ _ (layered_ok hr (by omega) n1 n10 k1 k6)))) ?_
  dsimp only [List.set]
  have c0 : gCallN 2 f_is_record (gCons (gVar 0) (gCons (gLst (gCons (gVar 3) (gNil))) (gNil))) [.int n, .list (r.map enc3), .int (k : Nat), t, .list ((lay k r).map .int), .none, .none, .none, .none, .none, .none, .none, .none] = .ok (.bool false) := callN_ok (ds := [.int n, .list [t]]) rfl rfl ht
  exact seq_ex ((if_t (vg_not (vg_test c0))).trans rfl)
theorem moves_cl {n : Int} {r : List T3} {k : Nat} {t : T3} (hr : InN n r) (hl : r.length ≤ 60) (n1 : 1 ≤ n) (n10 : n ≤ 10) (k1 : 1 ≤ k) (k6 : k ≤ 6) (ht : TieOkE n t) (hd : t.1 ∈ r.map (·.1)) :
    f_moves [.int n, .list (r.map enc3), .int (k : Nat), enc3 t] = .ex ⟨"Clash", some t.1⟩ := by
  refine fnLX_ex ?_
  show g_moves [.int n, .list (r.map enc3), .int (k : Nat), enc3 t, .none, .none, .none, .none, .none, .none, .none, .none, .none] = _
  unfold g_moves
  refine seq_step (set_ok (callX_ok (ds := [.int n, .list (r.map enc3), .int (k : Nat)]) rfl rfl (le_layered _ _ (layered_ok hr (by omega) n1 n10 k1 k6)))) ?_
  dsimp only [List.set]
  have c0 : gCallN 2 f_is_record (gCons (gVar 0) (gCons (gLst (gCons (gVar 3) (gNil))) (gNil))) [.int n, .list (r.map enc3), .int (k : Nat), enc3 t, .list ((lay k r).map .int), .none, .none, .none, .none, .none, .none, .none, .none] = .ok (.bool true) := callN_ok (ds := [.int n, .list [enc3 t]]) rfl rfl (rec_one ht)
  refine seq_step ((if_f (vg_not (vg_test c0))).trans rfl) ?_
  have e1 : gPur (gOp hIx (gVar 3) (gC (.int (0)))) [.int n, .list (r.map enc3), .int (k : Nat), enc3 t, .list ((lay k r).map .int), .none, .none, .none, .none, .none, .none, .none, .none] = .ok (.int t.1) := rfl
  have c2 : gTest (gOp hIn (gPur (gOp hIx (gVar 3) (gC (.int (0))))) (gLc (gSeq (gVar 1)) (tgT (tgCons (tgN 5) (tgCons (tgN 6) (tgCons (tgN 7) (tgNil))))) (gYes) (gVar 5))) [.int n, .list (r.map enc3), .int (k : Nat), enc3 t, .list ((lay k r).map .int), .none, .none, .none, .none, .none, .none, .none, .none] = .ok true :=
    vg_test (vg_op e1 (moms_lc (by omega)) (by rw [hIn_ints, decide_eq_true hd]))
  refine seq_ex ((if_t c2).trans ?_)
  unfold gRaise1
  rw [e1]
end K16
end T_K16Q
section T_EqP
set_option linter.all false
set_option maxRecDepth 100000
namespace Sim
open PySem
mutual
theorem eqv_self : ∀ d : PyData, PyData.canLay0 d = true → PyData.eqv d d = true
  | .none, _ => by unfold PyData.eqv; rfl
  | .bool b, _ => by unfold PyData.eqv; simp
  | .int i, _ => by unfold PyData.eqv; simp
  | .str x, _ => by unfold PyData.eqv; simp
  | .list xs, h => by
    unfold PyData.eqv
    unfold PyData.canLay0 at h
    exact eqvAll_self xs h
  | .tuple xs, h => by
    unfold PyData.eqv
    unfold PyData.canLay0 at h
    exact eqvAll_self xs h
  | .dict es, h => by unfold PyData.canLay0 at h; cases h
theorem eqvAll_self : ∀ ds : List PyData, PyData.canLayAll0 ds = true → PyData.eqvAll ds ds = true
  | [], _ => by unfold PyData.eqvAll; rfl
  | d :: ds, h => by
    unfold PyData.eqvAll
    unfold PyData.canLayAll0 at h
    rw [Bool.and_eq_true] at h ⊢
    exact ⟨eqv_self d h.1, eqvAll_self ds h.2⟩
end
theorem hNe_self {d : PyData} (h : SeqAt.shaped d = true) : hNe d d = .ok (.bool false) := by
  unfold hNe
  rw [h, eqv_self d (SeqAt.canLay_of_shaped h)]
  rfl
theorem layA_of {ds : List PyData} (h : ∀ d ∈ ds, PyData.canLay0 d = true) : PyData.canLayAll0 ds = true := by
  induction ds with
  | nil => rfl
  | cons d ds ih =>
    unfold PyData.canLayAll0
    rw [h d List.mem_cons_self, ih fun e he => h e (List.mem_cons_of_mem _ he)]
    rfl
theorem depA_of {ds : List PyData} {m : Nat} (h : ∀ d ∈ ds, PyData.depth d ≤ m) : PyData.depthAll ds ≤ m := by
  induction ds with
  | nil => unfold PyData.depthAll; omega
  | cons d ds ih =>
    unfold PyData.depthAll
    have h1 := h d List.mem_cons_self
    have h2 := ih fun e he => h e (List.mem_cons_of_mem _ he)
    omega
def Shp (m : Nat) (d : PyData) : Prop := PyData.canLay0 d = true ∧ PyData.depth d ≤ m
theorem Shp.shaped {m : Nat} {d : PyData} (h : Shp m d) (hm : m ≤ 64) : SeqAt.shaped d = true := by
  unfold SeqAt.shaped
  rw [h.1, decide_eq_true (by have := h.2; omega)]
  rfl
theorem shp_int (i : Int) (m : Nat) : Shp m (.int i) := ⟨rfl, by unfold PyData.depth; omega⟩
theorem shp_tup {ds : List PyData} {m : Nat} (h : ∀ d ∈ ds, Shp m d) : Shp (m + 1) (.tuple ds) := ⟨by unfold PyData.canLay0; exact layA_of fun d hd => (h d hd).1, by
  unfold PyData.depth
  have := depA_of fun d hd => (h d hd).2
  omega⟩
theorem Shp.mono {m k : Nat} {d : PyData} (h : Shp m d) (hm : m ≤ k) : Shp k d := ⟨h.1, Nat.le_trans h.2 hm⟩
end Sim
end T_EqP
section T_ShwP
set_option linter.all false
set_option maxRecDepth 100000
namespace Sim
open PySem
def CpOk (x : Str) : Prop := ∀ c ∈ x.cps.toList, c < 0x110000
theorem CpOk.app {x y : Str} (hx : CpOk x) (hy : CpOk y) : CpOk (x ++ y) := fun c hc => by
  have e : (x ++ y).cps = x.cps ++ y.cps := rfl
  rw [e, Array.toList_append] at hc
  rcases List.mem_append.mp hc with h | h
  · exact hx c h
  · exact hy c h
theorem so_of (s : String) : CpOk (Str.ofString s) := fun c hc => by
  rw [Str.ofString_eq_toList] at hc
  simp only [List.mem_map] at hc
  obtain ⟨a, _, rfl⟩ := hc
  have := a.valid
  unfold UInt32.isValidChar Nat.isValidChar at this
  show a.val.toNat < _
  omega
theorem so_empty : CpOk Str.empty := fun c hc => by
  have : c ∈ ([] : List Nat) := hc
  cases this
theorem so_join : ∀ {ts : List Str}, (∀ t ∈ ts, CpOk t) → CpOk (Str.join ", " ts)
  | [], _ => so_empty
  | [x], h => h x List.mem_cons_self
  | x :: y :: r, h => ((h x List.mem_cons_self).app (so_of _)).app (so_join fun t ht => h t (List.mem_cons_of_mem _ ht))
theorem so_tupleText {ts : List Str} (h : ∀ t ∈ ts, CpOk t) : CpOk (tupleText ts) := ((so_of _).app (so_join h)).app (so_of _)
theorem so_all {ds : List PyData} (h : ∀ d ∈ ds, CpOk d.shown) : ∀ t ∈ PyData.shownAll ds, CpOk t := by
  induction ds with
  | nil => intro t ht; cases ht
  | cons d ds ih =>
    intro t ht
    unfold PyData.shownAll at ht
    rcases List.mem_cons.mp ht with rfl | ht
    · exact h d List.mem_cons_self
    · exact ih (fun e he => h e (List.mem_cons_of_mem _ he)) t ht
theorem CpOk.shaped {x : Str} (h : CpOk x) : SeqAt.shaped (.str x) = true := by
  unfold SeqAt.shaped
  have e : PyData.canLay0 (.str x) = true := by
    unfold PyData.canLay0 PyData.strOk
    rw [Array.all_eq_true_iff_forall_mem]
    intro c hc
    exact decide_eq_true (h c (Array.mem_toList_iff.mpr hc))
  rw [e]
  unfold PyData.depth
  rfl
structure Shw (m w : Nat) (d : PyData) : Prop where
  shp : Shp m d
  nd : d.hasDict = false
  sh : d.showable = true
  ls : d.leavesShort 34 = true
  wt : d.weight ≤ w
  so : CpOk d.shown
theorem Shw.mono {m k w v : Nat} {d : PyData} (h : Shw m w d) (hm : m ≤ k) (hw : w ≤ v) : Shw k v d := ⟨h.shp.mono hm, h.nd, h.sh, h.ls, Nat.le_trans h.wt hw, h.so⟩
theorem shw_int {i : Int} (m : Nat) (h : i.natAbs < 1000000000000000000000000000000000) : Shw m 110 (.int i) := by
  have hl : ∀ k : Nat, i.natAbs < 2 ^ k → i.natAbs ≠ 0 → i.natAbs.log2 < k := fun k z nz => (Nat.log2_lt nz).mpr z
  have h110 : i.natAbs < 2 ^ 110 := Nat.lt_trans h (by decide)
  refine ⟨shp_int i m, rfl, ?_, ?_, ?_, so_of _⟩
  · unfold PyData.showable
    rw [decide_eq_true_eq]
    by_cases c : i.natAbs = 0
    · rw [c]; decide
    · have := hl 110 h110 c; omega
  · unfold PyData.leavesShort
    rw [decide_eq_true_eq]
    have e := int_text_length_le10 (a := i) (k := 33) (by decide) (by omega)
    show (Str.ofString (toString i)).length ≤ 34
    rw [ofString_length]
    exact e
  · unfold PyData.weight
    split
    · omega
    · rename_i c
      have nz : i.natAbs ≠ 0 := fun z => c (by rw [beq_iff_eq]; omega)
      have := hl 110 h110 nz
      omega
theorem hasDictAll_of {ds : List PyData} (h : ∀ d ∈ ds, d.hasDict = false) : PyData.hasDictAll ds = false := by
  induction ds with
  | nil => rfl
  | cons d ds ih =>
    unfold PyData.hasDictAll
    rw [h d List.mem_cons_self, ih fun e he => h e (List.mem_cons_of_mem _ he)]
    rfl
theorem showableAll_of {ds : List PyData} (h : ∀ d ∈ ds, d.showable = true) : PyData.showableAll ds = true := by
  induction ds with
  | nil => rfl
  | cons d ds ih =>
    unfold PyData.showableAll
    rw [h d List.mem_cons_self, ih fun e he => h e (List.mem_cons_of_mem _ he)]
    rfl
theorem leavesShortAll_of {ds : List PyData} (h : ∀ d ∈ ds, d.leavesShort 34 = true) : PyData.leavesShortAll 34 ds = true := by
  induction ds with
  | nil => rfl
  | cons d ds ih =>
    unfold PyData.leavesShortAll
    rw [h d List.mem_cons_self, ih fun e he => h e (List.mem_cons_of_mem _ he)]
    rfl
theorem weightAll_of {w : Nat} {ds : List PyData} (h : ∀ d ∈ ds, d.weight ≤ w) : PyData.weightAll ds ≤ (w + 1) * ds.length := by
  induction ds with
  | nil => exact Nat.le_refl 0
  | cons d ds ih =>
    unfold PyData.weightAll
    have h1 := h d List.mem_cons_self
    have h2 := ih fun e he => h e (List.mem_cons_of_mem _ he)
    rw [List.length_cons, Nat.mul_succ]
    omega
theorem shw_tup {m w k : Nat} {ds : List PyData} (h : ∀ d ∈ ds, Shw m w d) (hk : ds.length ≤ k) : Shw (m + 1) ((w + 1) * k) (.tuple ds) := by
  refine ⟨shp_tup fun d hd => (h d hd).shp, ?_, ?_, ?_, ?_, by unfold PyData.shown; exact so_tupleText (so_all fun d hd => (h d hd).so)⟩
  · unfold PyData.hasDict; exact hasDictAll_of fun d hd => (h d hd).nd
  · unfold PyData.showable; exact showableAll_of fun d hd => (h d hd).sh
  · unfold PyData.leavesShort; exact leavesShortAll_of fun d hd => (h d hd).ls
  · unfold PyData.weight; exact Nat.le_trans (weightAll_of fun d hd => (h d hd).wt) (Nat.mul_le_mul (Nat.le_refl _) hk)
theorem Shw.str {m w : Nat} {d : PyData} (h : Shw m w d) (hm : m ≤ 60) (hw : w ≤ 400000) (hs : (∃ ds, d = .list ds) ∨ ∃ ds, d = .tuple ds) : okStr d = true := by
  have h1 := PyData.shown_le 34 (by decide) d h.ls
  have h2 := h.wt
  have h3 : d.shown.length ≤ sizeLine := by
    rw [sizeLine_eq]
    omega
  unfold okStr
  obtain ⟨c, dp⟩ := h.shp
  rw [c, h.nd, h.sh, decide_eq_true (by omega), decide_eq_true h3]
  rcases hs with ⟨ds, rfl⟩ | ⟨ds, rfl⟩ <;> rfl
theorem Shw.hNe {m w : Nat} {d : PyData} (h : Shw m w d) : Sim.hNe (.str d.shown) (.str d.shown) = .ok (.bool false) := hNe_self h.so.shaped
end Sim
end T_ShwP
section T_K16O
set_option linter.all false
set_option maxRecDepth 100000
set_option maxHeartbeats 4000000
namespace K16
open PySem Sim FamA FamB FamL Lay Mov
theorem rec_bad {n : Int} {T : Dt} (h : f_is_tie [.int n, T] = .ok (.bool false)) : f_is_record [.int n, .list [T]] = .ok (.bool false) := by
  have hall := all_ties (n := n) (ds := [T]) (p := fun _ => false) .none .none (by simp) (fun d hd => by
    rw [List.mem_singleton.mp hd]
    exact h)
  have hb := hAll_b (([T]).map fun _ => false)
  refine fnN_rt ?_
  show g_is_record [.int n, .list [T], .none, .none] = _
  unfold g_is_record
  have e : decide ((60 : Int) < 1) = false := by decide
  refine seq_step (Eq.trans (if_f (by simp only [bnd_ok, gVar_def, gC_def, gOp_def, gUn_def, gNil_def, gCons_def, gIf_def, gTest_def, gNot_def, gAnd_def, gOr_def, gAndV_def, gOrV_def, gNotV_def, gCB_def, asB_b, hAdd_i, hSub_i, hLt_i, hLe_i, hGt_i, hGe_i, hMul_r, hMul_l, hMod_i, hDiv_s, hBand_i, hShr_i, hPow_10_18, hPow_10_27, hPow_10_28, hPow_10_29, hPow_10_30, hEq_i, hNe_i, hLen_l, hLen_t, hMin2_i, hMax2_i, hMin3_i, hInt1_b, hInt1_i, hBits_i, hListOf_l, hListOf_t, hTupOf_l, hTupOf_t, gSeqS_def, gSet_def, gRet_def, gIfS_def, gNext_def, gTup_def, gLst_def, List.getElem?_cons_zero, List.getElem?_cons_succ, List.set_cons_zero, List.set_cons_succ, List.length_cons, List.length_nil, Nat.zero_add, Nat.reduceAdd, Nat.reduceLeDiff, Nat.reduceSub, Nat.reduceMul, if_true, if_false, Bool.false_eq_true, List.replicate_succ, List.replicate_zero, List.cons_append, List.nil_append, tgN, tgT, tgCons, tgNil, Int.reducePow, Int.reduceAdd, Int.reduceSub, Int.reduceMul, decide_true, decide_false, Bool.not_true, Bool.not_false, gChain_def, hIsa_int, hIsa_intb, hIsa_list, hIsa_tuple, gDrop_def, e]; rfl)) rfl) ?_
  refine seq_rt (Eq.trans (if_t ?_) rfl)
  simp only [bnd_ok, gVar_def, gC_def, gOp_def, gUn_def, gNil_def, gCons_def, gIf_def, gTest_def, gNot_def, gAnd_def, gOr_def, gAndV_def, gOrV_def, gNotV_def, gCB_def, asB_b, hAdd_i, hSub_i, hLt_i, hLe_i, hGt_i, hGe_i, hMul_r, hMul_l, hMod_i, hDiv_s, hBand_i, hShr_i, hPow_10_18, hPow_10_27, hPow_10_28, hPow_10_29, hPow_10_30, hEq_i, hNe_i, hLen_l, hLen_t, hMin2_i, hMax2_i, hMin3_i, hInt1_b, hInt1_i, hBits_i, hListOf_l, hListOf_t, hTupOf_l, hTupOf_t, gSeqS_def, gSet_def, gRet_def, gIfS_def, gNext_def, gTup_def, gLst_def, List.getElem?_cons_zero, List.getElem?_cons_succ, List.set_cons_zero, List.set_cons_succ, List.length_cons, List.length_nil, Nat.zero_add, Nat.reduceAdd, Nat.reduceLeDiff, Nat.reduceSub, Nat.reduceMul, if_true, if_false, Bool.false_eq_true, List.replicate_succ, List.replicate_zero, List.cons_append, List.nil_append, tgN, tgT, tgCons, tgNil, Int.reducePow, Int.reduceAdd, Int.reduceSub, Int.reduceMul, decide_true, decide_false, Bool.not_true, Bool.not_false, gChain_def, hIsa_int, hIsa_intb, hIsa_list, hIsa_tuple, gDrop_def, hall, hb]
  rfl
theorem tie_of {n : Int} {T : Dt} (h : f_is_meeting [.int n, T] = .ok (.bool false)) : f_is_tie [.int n, T] = .ok (.bool false) := by
  refine fnN_rt ?_
  show g_is_tie [.int n, T] = _
  unfold g_is_tie
  have c : gCallN 2 f_is_meeting (gCons (gVar 0) (gCons (gVar 1) (gNil))) [.int n, T] = .ok (.bool false) := callN_ok (ds := [.int n, T]) rfl rfl h
  refine ret_ok ?_
  rw [gAndV_def, c]
  rfl
theorem moment5 : f_is_moment [.int 5] = .ok (.bool true) := by rw [moment_int]; rfl
theorem meet_0 {n : Int} {x y z : Dt} (h : f_is_moment [x] = .ok (.bool false)) : f_is_meeting [.int n, .tuple [x, y, z]] = .ok (.bool false) := by
  refine fnN_rt ?_
  show g_is_meeting [.int n, .tuple [x, y, z]] = _
  unfold g_is_meeting
  have t1 : gTest (gUn (hIsa .tuple) (gVar 1)) [.int n, .tuple [x, y, z]] = .ok true := rfl
  have t2 : gTest (gOp hNe (gCB hLen (gCons (gVar 1) (gNil))) (gC (.int (3)))) [.int n, .tuple [x, y, z]] = .ok false := by
    rw [gTest_def, gOp_def]
    show bnd (hNe (.int 3) (.int 3)) asB = _
    rw [hNe_i]
    rfl
  have c : gCallN 1 f_is_moment (gCons (gOp hIx (gVar 1) (gC (.int (0)))) (gNil)) [.int n, .tuple [x, y, z]] = .ok (.bool false) := callN_ok (ds := [x]) rfl rfl h
  refine seq_rt ((if_t ?_).trans rfl)
  simp only [gOr_def, gNot_def, t1, t2, gTest_def, c, bnd_ok, asB_b, Bool.not_true, Bool.not_false, Bool.false_eq_true, if_false, if_true]
theorem meet_1 {n : Int} {x y z : Dt} (h0 : f_is_moment [x] = .ok (.bool true)) (h : f_is_place [.int n, y] = .ok (.bool false) ∨ f_is_place [.int n, y] = .ok (.bool true) ∧ f_is_place [.int n, z] = .ok (.bool false)) : f_is_meeting [.int n, .tuple [x, y, z]] = .ok (.bool false) := by
  refine fnN_rt ?_
  show g_is_meeting [.int n, .tuple [x, y, z]] = _
  unfold g_is_meeting
  have t1 : gTest (gUn (hIsa .tuple) (gVar 1)) [.int n, .tuple [x, y, z]] = .ok true := rfl
  have t2 : gTest (gOp hNe (gCB hLen (gCons (gVar 1) (gNil))) (gC (.int (3)))) [.int n, .tuple [x, y, z]] = .ok false := by
    rw [gTest_def, gOp_def]
    show bnd (hNe (.int 3) (.int 3)) asB = _
    rw [hNe_i]
    rfl
  have t3 : gTest (gCallN 1 f_is_moment (gCons (gOp hIx (gVar 1) (gC (.int (0)))) (gNil))) [.int n, .tuple [x, y, z]] = .ok true := by
    have c : gCallN 1 f_is_moment (gCons (gOp hIx (gVar 1) (gC (.int (0)))) (gNil)) [.int n, .tuple [x, y, z]] = .ok (.bool true) := callN_ok (ds := [x]) rfl rfl h0
    rw [gTest_def, c]
    rfl
  refine seq_step ((if_f ?_).trans rfl) (ret_ok ?_)
  · simp only [gOr_def, gNot_def, t1, t2, t3, bnd_ok, Bool.not_true, Bool.false_eq_true, if_false]
  have p1 : ∀ v, f_is_place [.int n, y] = .ok v → gCallN 2 f_is_place (gCons (gVar 0) (gCons (gOp hIx (gVar 1) (gC (.int (1)))) (gNil))) [.int n, .tuple [x, y, z]] = .ok v := fun v h => callN_ok (ds := [.int n, y]) rfl rfl h
  have p2 : ∀ v, f_is_place [.int n, z] = .ok v → gCallN 2 f_is_place (gCons (gVar 0) (gCons (gOp hIx (gVar 1) (gC (.int (2)))) (gNil))) [.int n, .tuple [x, y, z]] = .ok v := fun v h => callN_ok (ds := [.int n, z]) rfl rfl h
  rcases h with h | ⟨h, h2⟩
  · rw [gAndV_def, p1 _ h]
    rfl
  · rw [gAndV_def, p1 _ h, bnd_ok, asB_b, bnd_ok, if_pos rfl]
    exact p2 _ h2
theorem rec_odd {n : Int} {t : T3} (h : okT n t = false) : f_is_record [.int n, .list [enc3 t]] = .ok (.bool false) := by
  have := rec_enc (n := n) (r := [t]) (by simp)
  rw [List.all_cons, h] at this
  exact this
theorem place_0 {n : Int} (n1 : 1 ≤ n) : f_is_place [.int n, .int 0] = .ok (.bool true) := by
  rw [place_ok, decide_eq_true (show (0 : Int) ≤ 0 by omega), decide_eq_true (show (0 : Int) < n by omega)]
  rfl
structure Ta (d : Dt) : Prop where
  ok : okA d = true
  ne : hNe (.str (txt d)) (.str (txt d)) = .ok (.bool false)
def taB (d : Dt) : Bool := okA d && (match hNe (.str (txt d)) (.str (txt d)) with | .ok (.bool false) => true | _ => false)
theorem ta_B {d : Dt} (h : taB d = true) : Ta d := by
  unfold taB at h
  rw [Bool.and_eq_true] at h
  refine ⟨h.1, ?_⟩
  have h2 := h.2
  split at h2
  · assumption
  · cases h2
theorem ta_tup {xs : List Int} (hl : xs.length ≤ 3) (h : ∀ x ∈ xs, x.natAbs < 1000000000000000000000000000000000) : Ta (.tuple (xs.map .int)) := by
  have sh : Shw 1 333 (.tuple (xs.map .int)) := by
    refine (shw_tup (m := 0) (w := 110) (k := 3) (fun d hd => ?_) (by rw [List.length_map]; exact hl)).mono (by omega) (by omega)
    obtain ⟨x, hx, rfl⟩ := List.mem_map.mp hd
    exact shw_int 0 (h x hx)
  exact ⟨sh.str (by omega) (by omega) (.inr ⟨_, rfl⟩), sh.hNe⟩
def oD : List Dt := [.int 0, .int 7, .int (-1), .none, .bool true, .bool false, .str "3", .str "", .list [.int 1], .tuple [.int 2], .dict [], .int 10000000000000000000000000000000000000000, .int (-100000000000000000000)]
theorem bad_D : ∀ d ∈ oD, f_is_depth [d] = .ok (.bool false) := by
  intro d hd
  simp only [oD, List.mem_cons, List.not_mem_nil, or_false] at hd
  rcases hd with rfl | rfl | rfl | rfl | rfl | rfl | rfl | rfl | rfl | rfl | rfl | rfl | rfl
  all_goals kernel_rfl
theorem p40 : hPow (.int 10) (.int 40) = .ok (.int 10000000000000000000000000000000000000000) := by
  show (if cPow 10 40 then O.ok (PyData.int ((10 : Int) ^ (40 : Int).toNat)) else .bad) = _
  rw [if_pos (by decide)]
  rfl
theorem p20 : hPow (.int 10) (.int 20) = .ok (.int 100000000000000000000) := by
  show (if cPow 10 20 then O.ok (PyData.int ((10 : Int) ^ (20 : Int).toNat)) else .bad) = _
  rw [if_pos (by decide)]
  rfl
theorem odd_depth_ok {m : Int} {p : Dt} (hp : PotOk m p) (hm : m < 1099511500000) : ∃ d p', f_l_odd_depth [p] = .ok (.tuple [d, p']) ∧ PotOk (m + 1) p' ∧ d ∈ oD := by
  have h13 : oD.length = 13 := rfl
  obtain ⟨i, p3, e3, i0, i1, hp3⟩ := tk_ok (i := 0) (size := 13) (gA := xCons (xP (gCB hLen (gCons (gVar 1) (gNil)))) (xNil)) (ρ := [p, .list oD]) (ρ' := [p, .list oD]) (by
    rw [xCons_def, xP_def]
    simp only [bnd_ok, gVar_def, gC_def, gOp_def, gUn_def, gNil_def, gCons_def, gIf_def, gTest_def, gNot_def, gAnd_def, gOr_def, gAndV_def, gOrV_def, gNotV_def, gCB_def, asB_b, hAdd_i, hSub_i, hLt_i, hLe_i, hGt_i, hGe_i, hMul_r, hMul_l, hMod_i, hDiv_s, hBand_i, hShr_i, hPow_10_18, hPow_10_27, hPow_10_28, hPow_10_29, hPow_10_30, hEq_i, hNe_i, hLen_l, hLen_t, hMin2_i, hMax2_i, hMin3_i, hInt1_b, hInt1_i, hBits_i, hListOf_l, hListOf_t, hTupOf_l, hTupOf_t, gSeqS_def, gSet_def, gRet_def, gIfS_def, gNext_def, gTup_def, gLst_def, List.getElem?_cons_zero, List.getElem?_cons_succ, List.set_cons_zero, List.set_cons_succ, List.length_cons, List.length_nil, Nat.zero_add, Nat.reduceAdd, Nat.reduceLeDiff, Nat.reduceSub, Nat.reduceMul, if_true, if_false, Bool.false_eq_true, List.replicate_succ, List.replicate_zero, List.cons_append, List.nil_append, tgN, tgT, tgCons, tgNil, Int.reducePow, Int.reduceAdd, Int.reduceSub, Int.reduceMul, decide_true, decide_false, Bool.not_true, Bool.not_false, gChain_def, hIsa_int, hIsa_intb, hIsa_list, hIsa_tuple, gDrop_def, h13]
    rfl) rfl hp (by omega) (by omega) (by omega)
  have e3 : xCallM .la 2 f_l_take 0 (xCons (xP (gCB hLen (gCons (gVar 1) (gNil)))) (xNil)) [p, .list oD] = .ok (.int i, [p3, .list oD]) := e3
  have hlt : i.toNat < oD.length := by rw [h13]; omega
  refine ⟨oD[i.toNat], p3, fnN_rt ?_, hp3, List.getElem_mem _⟩
  show g_l_odd_depth [p, .none] = _
  unfold g_l_odd_depth
  have a1 : (gLst (gCons (gC (.int (0))) (gCons (gC (.int (7))) (gCons (gUn (hU fun i => -i) (gC (.int (1)))) (gCons (gC .none) (gCons (gC (.bool true)) (gCons (gC (.bool false)) (gCons (gC (.str "3")) (gCons (gC (.str "")) (gCons (gLst (gCons (gC (.int (1))) (gNil))) (gCons (gTup (gCons (gC (.int (2))) (gNil))) (gCons (gDNew) (gCons (gOp hPow (gC (.int (10))) (gC (.int (40)))) (gCons (gUn (hU fun i => -i) (gOp hPow (gC (.int (10))) (gC (.int (20))))) (gNil))))))))))))))) [p, .none] = .ok (.list oD) := by
    have q1 : gOp hPow (gC (.int (10))) (gC (.int (40))) [p, .none] = .ok (.int 10000000000000000000000000000000000000000) := p40
    have q2 : gOp hPow (gC (.int (10))) (gC (.int (20))) [p, .none] = .ok (.int 100000000000000000000) := p20
    generalize gOp hPow (gC (.int (10))) (gC (.int (40))) = G at q1
    generalize gOp hPow (gC (.int (10))) (gC (.int (20))) = G2 at q2
    simp only [bnd_ok, gVar_def, gC_def, gOp_def, gUn_def, gNil_def, gCons_def, gIf_def, gTest_def, gNot_def, gAnd_def, gOr_def, gAndV_def, gOrV_def, gNotV_def, gCB_def, asB_b, hAdd_i, hSub_i, hLt_i, hLe_i, hGt_i, hGe_i, hMul_r, hMul_l, hMod_i, hDiv_s, hBand_i, hShr_i, hPow_10_18, hPow_10_27, hPow_10_28, hPow_10_29, hPow_10_30, hEq_i, hNe_i, hLen_l, hLen_t, hMin2_i, hMax2_i, hMin3_i, hInt1_b, hInt1_i, hBits_i, hListOf_l, hListOf_t, hTupOf_l, hTupOf_t, gSeqS_def, gSet_def, gRet_def, gIfS_def, gNext_def, gTup_def, gLst_def, List.getElem?_cons_zero, List.getElem?_cons_succ, List.set_cons_zero, List.set_cons_succ, List.length_cons, List.length_nil, Nat.zero_add, Nat.reduceAdd, Nat.reduceLeDiff, Nat.reduceSub, Nat.reduceMul, if_true, if_false, Bool.false_eq_true, List.replicate_succ, List.replicate_zero, List.cons_append, List.nil_append, tgN, tgT, tgCons, tgNil, Int.reducePow, Int.reduceAdd, Int.reduceSub, Int.reduceMul, decide_true, decide_false, Bool.not_true, Bool.not_false, gChain_def, hIsa_int, hIsa_intb, hIsa_list, hIsa_tuple, gDrop_def, q1, q2]
    rfl
  refine seq_step (set_ok a1) ?_
  dsimp only [List.set]
  have hix := hIx_ds hlt
  have ei : ((i.toNat : Nat) : Int) = i := by omega
  rw [ei] at hix
  refine xret_ok (ρ' := [p3, .list oD]) (e := p3) ?_ rfl hp3.argD
  have e : xP (gVar 1) [p, .list oD] = .ok (.list oD, [p, .list oD]) := rfl
  rw [xOp_def, e, bnd_ok, e3, bnd_ok, hix]
  rfl
def oQ1 : List Dt := [.none, .int 5, .str "5:0-0", .list [.int 5, .int 0, .int 0], .tuple [.int 5, .int 0], .tuple [.int 5, .int 0, .int 0, .int 0], enc3 (-1, 0, 0), enc3 (1000000000000000000000000000001, 0, 0), .tuple [.bool true, .int 0, .int 0]]
def oQ2 (n : Int) : List Dt := [.tuple [.int 5, .bool false, .int 0], .tuple [.int 5, .int 0, .bool false], enc3 (5, 0, n), enc3 (5, -1, 0), .tuple [.str "5", .int 0, .int 0], .tuple [.int 5, .none, .int 0], .tuple [.tuple [.int 5], .int 0, .int 0]]
def oQ3 (n : Int) : List Dt := [.dict [], .tuple [], .list [], .str "", enc3 (5, 1, 0), .tuple [.int 5, .int 0, .str "0"], .tuple [.tuple [.int 5, .int 0, .int 0]], .bool true, enc3 (5, 0, 10000000000000000000000000000000000000000), enc3 (5, n, n)]
def oQ (n : Int) : List Dt := oQ1 ++ oQ2 n ++ oQ3 n
theorem oQ_th {n : Int} (n1 : 1 ≤ n) (n10 : n ≤ 10) : ∀ d ∈ oQ n, Ta d := by
  have t1 : Ta (enc3 (5, 0, n)) := ta_tup (xs := [5, 0, n]) (by simp) (fun x hx => by simp at hx; omega)
  have t2 : Ta (enc3 (5, n, n)) := ta_tup (xs := [5, n, n]) (by simp) (fun x hx => by simp at hx; omega)
  intro d hd
  simp only [oQ, oQ1, oQ2, oQ3, List.mem_append, List.mem_cons, List.not_mem_nil, or_false] at hd
  rcases hd with ((rfl | rfl | rfl | rfl | rfl | rfl | rfl | rfl | rfl) | (rfl | rfl | rfl | rfl | rfl | rfl | rfl)) | (rfl | rfl | rfl | rfl | rfl | rfl | rfl | rfl | rfl | rfl)
  all_goals first
    | exact t1
    | exact t2
    | exact ta_B (by decide +kernel)
theorem oQ_bad {n : Int} (n1 : 1 ≤ n) (n10 : n ≤ 10) : ∀ d ∈ oQ n, f_is_record [.int n, .list [d]] = .ok (.bool false) := by
  have pl := place_0 n1
  intro d hd
  simp only [oQ, oQ1, oQ2, oQ3, List.mem_append, List.mem_cons, List.not_mem_nil, or_false] at hd
  rcases hd with ((rfl | rfl | rfl | rfl | rfl | rfl | rfl | rfl | rfl) | (rfl | rfl | rfl | rfl | rfl | rfl | rfl)) | (rfl | rfl | rfl | rfl | rfl | rfl | rfl | rfl | rfl | rfl)
  · exact rec_bad rfl
  · exact rec_bad rfl
  · exact rec_bad rfl
  · exact rec_bad rfl
  · exact rec_bad rfl
  · exact rec_bad rfl
  · exact rec_odd (by unfold okT tieB; simp)
  · exact rec_odd (by unfold okT tieB; simp)
  · exact rec_bad (tie_of (meet_0 rfl))
  · exact rec_bad (tie_of (meet_1 moment5 (.inl rfl)))
  · exact rec_bad (tie_of (meet_1 moment5 (.inr ⟨pl, rfl⟩)))
  · exact rec_odd (by unfold okT tieB; simp)
  · exact rec_odd (by unfold okT tieB; simp)
  · exact rec_bad (tie_of (meet_0 rfl))
  · exact rec_bad (tie_of (meet_1 moment5 (.inl rfl)))
  · exact rec_bad (tie_of (meet_0 rfl))
  · exact rec_bad rfl
  · exact rec_bad rfl
  · exact rec_bad rfl
  · exact rec_bad rfl
  · exact rec_odd (by unfold okT tieB; simp)
  · exact rec_bad (tie_of (meet_1 moment5 (.inr ⟨pl, rfl⟩)))
  · exact rec_bad rfl
  · exact rec_bad rfl
  · refine rec_odd ?_
    unfold okT tieB
    rw [decide_eq_false (show ¬ (10000000000000000000000000000000000000000 : Int) < n by omega)]
    simp
  · exact rec_odd (by unfold okT tieB; simp)
theorem odd_tie_ok {m n : Int} {p : Dt} (hp : PotOk m p) (hm : m < 1099511500000) : ∃ d p', f_l_odd_tie [p, .int n] = .ok (.tuple [d, p']) ∧ PotOk (m + 1) p' ∧ d ∈ oQ n := by
  have h26 : (oQ n).length = 26 := rfl
  obtain ⟨i, p3, e3, i0, i1, hp3⟩ := tk_ok (i := 0) (size := 26) (gA := xCons (xP (gCB hLen (gCons (gVar 2) (gNil)))) (xNil)) (ρ := [p, .int n, .list (oQ n)]) (ρ' := [p, .int n, .list (oQ n)]) (vx_cons (vx_p rfl) vx_nil) rfl hp (by omega) (by omega) (by omega)
  have e3 : xCallM .la 2 f_l_take 0 (xCons (xP (gCB hLen (gCons (gVar 2) (gNil)))) (xNil)) [p, .int n, .list (oQ n)] = .ok (.int i, [p3, .int n, .list (oQ n)]) := e3
  have hlt : i.toNat < (oQ n).length := by rw [h26]; omega
  have hix : hIx (.list (oQ n)) (.int i) = .ok (oQ n)[i.toNat] := by
    have := atI_map (fun d : Dt => d) (xs := oQ n) i0 (by rw [h26]; omega)
    rw [List.map_id'] at this
    exact hIx_l this
  refine ⟨(oQ n)[i.toNat], p3, fnN_rt ?_, hp3, List.getElem_mem _⟩
  show g_l_odd_tie [p, .int n, .none] = _
  unfold g_l_odd_tie
  have ep : ∀ x, gOp hPow (gC (.int (10))) (gC (.int (30))) [p, .int n, x] = .ok (.int 1000000000000000000000000000000) := fun _ => hPow_10_30
  have ep4 : ∀ x, gOp hPow (gC (.int (10))) (gC (.int (40))) [p, .int n, x] = .ok (.int 10000000000000000000000000000000000000000) := fun _ => p40
  have eA : ∀ x, gOp hAdd (gOp hPow (gC (.int (10))) (gC (.int (30)))) (gC (.int (1))) [p, .int n, x] = .ok (.int 1000000000000000000000000000001) := fun x => vg_op (ep x) rfl rfl
  refine seq_step (set_ok (d := .list oQ1) ?_) ?_
  · rw [gLst_def]
    simp only [gCons_def, gTup_def, eA]
    rfl
  dsimp only [List.set]
  refine seq_step (set_ok (d := .list (oQ1 ++ oQ2 n)) (by rfl)) ?_
  dsimp only [List.set]
  refine seq_step (set_ok (d := .list (oQ n)) ?_) ?_
  · refine vg_op (x := .list (oQ1 ++ oQ2 n)) (y := .list (oQ3 n)) rfl ?_ rfl
    rw [gLst_def]
    simp only [gCons_def, gTup_def, ep4]
    rfl
  dsimp only [List.set]
  exact xret_ok (vx_op (vx_p rfl) e3 hix) rfl hp3.argD
end K16
end T_K16O
section T_K16B
set_option linter.all false
set_option maxRecDepth 100000
set_option maxHeartbeats 4000000
namespace K16
open PySem Sim FamA FamL FamB Lay
theorem ends_in {m n N : Int} {p : Dt} {r : List T3} (hp : PotOk m p) (hm : m < 1099511627700) (n1 : 1 ≤ n) (n10 : n ≤ 1000) (hN : n ≤ N) (hr : InN N r) (hl : r.length ≤ 1000) :
    ∃ a b p', f_l_ends [p, .int n, .list (r.map enc3)] = .ok (.tuple [.tuple [.int a, .int b], p']) ∧ 0 ≤ a ∧ a ≤ b ∧ b < N ∧ PotOk (m + 4) p' := by
  obtain ⟨a, p1, h1, a0, a1, hp1⟩ := tk_ok (i := 0) (gA := xCons (xP (gVar 1)) xNil) (ρ := [p, .int n, .list (r.map enc3), .none, .none, .none]) rfl rfl hp (by omega) (by omega : 0 < n) (by omega)
  obtain ⟨b, p2, h2, b0, b1, hp2⟩ := tk_ok (i := 0) (gA := xCons (xP (gVar 1)) xNil) (ρ := [p1, .int n, .list (r.map enc3), .int a, .none, .none]) rfl rfl hp1 (by omega) (by omega : 0 < n) (by omega)
  have fin : ∀ (a b : Int) (p' x5 : Dt), 0 ≤ a → a < N → 0 ≤ b → b < N → PotOk (m + 4) p' → ∃ a' b', xRetM (xP (gTup (gCons (gCB hMin2 (gCons (gVar 3) (gCons (gVar 4) (gNil)))) (gCons (gCB hMax2 (gCons (gVar 3) (gCons (gVar 4) (gNil)))) (gNil))))) [p', .int n, .list (r.map enc3), .int a, .int b, x5] = .ok (.rt (.tuple [.tuple [.int a', .int b'], p'])) ∧ 0 ≤ a' ∧ a' ≤ b' ∧ b' < N := fun a b p' x5 a0 a1 b0 b1 hp' => by
    refine ⟨if b < a then b else a, if b > a then b else a, xret_ok (ρ' := [p', .int n, .list (r.map enc3), .int a, .int b, x5]) (d := .tuple [.int (if b < a then b else a), .int (if b > a then b else a)]) (by rw [xP_def]; simp only [bnd_ok, gVar_def, gC_def, gOp_def, gUn_def, gNil_def, gCons_def, gIf_def, gTest_def, gNot_def, gAnd_def, gOr_def, gAndV_def, gOrV_def, gNotV_def, gCB_def, asB_b, hAdd_i, hSub_i, hLt_i, hLe_i, hGt_i, hGe_i, hMul_r, hMul_l, hMod_i, hDiv_s, hBand_i, hShr_i, hPow_10_18, hPow_10_27, hPow_10_28, hPow_10_29, hPow_10_30, hEq_i, hNe_i, hLen_l, hLen_t, hMin2_i, hMax2_i, hMin3_i, hInt1_b, hInt1_i, hBits_i, hListOf_l, hListOf_t, hTupOf_l, hTupOf_t, gSeqS_def, gSet_def, gRet_def, gIfS_def, gNext_def, gTup_def, gLst_def, List.getElem?_cons_zero, List.getElem?_cons_succ, List.set_cons_zero, List.set_cons_succ, List.length_cons, List.length_nil, Nat.zero_add, Nat.reduceAdd, Nat.reduceLeDiff, Nat.reduceSub, Nat.reduceMul, if_true, if_false, Bool.false_eq_true, List.replicate_succ, List.replicate_zero, List.cons_append, List.nil_append, tgN, tgT, tgCons, tgNil, Int.reducePow, Int.reduceAdd, Int.reduceSub, Int.reduceMul, decide_true, decide_false, Bool.not_true, Bool.not_false, gChain_def, hIsa_int, hIsa_intb, hIsa_list, hIsa_tuple, gDrop_def]) rfl hp'.argD, ?_, ?_, ?_⟩
    · split <;> omega
    · split <;> split <;> omega
    · split <;> omega
  have hpre : ∀ z, gSeqS (xSet 3 (xCallM .la 2 f_l_take 0 (xCons (xP (gVar 1)) (xNil)))) (gSeqS (xSet 4 (xCallM .la 2 f_l_take 0 (xCons (xP (gVar 1)) (xNil)))) z) [p, .int n, .list (r.map enc3), .none, .none, .none] = z [p2, .int n, .list (r.map enc3), .int a, .int b, .none] := fun z =>
    seq_step (xset_ok h1) (seq_step (xset_ok h2) rfl)
  suffices hmid : ∃ (a' b' : Int) (p' x5 : Dt), xIfS (xAnd (xPT (gTest (gOp hNe (gVar 2) (gLst (gNil))))) (xTest (xOp hEq (xCallM .la 2 f_l_take 0 (xCons (xP (gC (.int (4)))) (xNil))) (xP (gC (.int (0))))))) (xAsg (xOp hIx (xP (gVar 2)) (xCallM .la 2 f_l_take 0 (xCons (xP (gCB hLen (gCons (gVar 2) (gNil)))) (xNil)))) (tgT (tgCons (tgN 5) (tgCons (tgN 3) (tgCons (tgN 4) (tgNil)))))) (gNext) [p2, .int n, .list (r.map enc3), .int a, .int b, .none]
      = .ok (.nx [p', .int n, .list (r.map enc3), .int a', .int b', x5]) ∧ 0 ≤ a' ∧ a' < N ∧ 0 ≤ b' ∧ b' < N ∧ PotOk (m + 4) p' by
    obtain ⟨a', b', p', x5, hm', q0, q1, q2, q3, hp'⟩ := hmid
    obtain ⟨a2, b2, hf, w0, w1, w2⟩ := fin a' b' p' x5 q0 q1 q2 q3 hp'
    refine ⟨a2, b2, p', fnN_rt ?_, w0, w1, w2, hp'⟩
    show g_l_ends [p, .int n, .list (r.map enc3), .none, .none, .none] = _
    unfold g_l_ends FamB.g_l_ends
    rw [hpre]
    exact seq_step hm' hf
  have hne := hNe_nil r
  have hL : ∀ ρ, gLst gNil ρ = .ok (.list []) := fun ρ => by rw [gLst_def, gNil_def, bnd_ok, if_pos (by simp)]
  have ht : ∀ z, (!r.isEmpty) = z → xPT (gTest (gOp hNe (gVar 2) (gLst (gNil)))) [p2, .int n, .list (r.map enc3), .int a, .int b, .none] = .ok (z, [p2, .int n, .list (r.map enc3), .int a, .int b, .none]) := fun z e => by
    rw [xPT_def, gTest_def, gOp_def, hL]
    simp only [gVar_def, List.getElem?_cons_zero, List.getElem?_cons_succ, bnd_ok, hne, asB_b, e]
  by_cases c : r = []
  · refine ⟨a, b, p2, .none, (xIf_f ?_).trans rfl, a0, by omega, b0, by omega, hp2.mono (by omega)⟩
    rw [xAnd_def, ht false (by rw [c]; rfl)]
    rfl
  · have hpos : 0 < r.length := List.length_pos_iff.mpr c
    obtain ⟨d, p3, h3, d0, d1, hp3⟩ := tk_ok (i := 0) (gA := xCons (xP (gC (.int (4)))) xNil) (ρ := [p2, .int n, .list (r.map enc3), .int a, .int b, .none]) rfl rfl hp2 (by omega) (by omega : (0 : Int) < 4) (by omega)
    have h3 : xCallM .la 2 f_l_take 0 (xCons (xP (gC (.int (4)))) xNil) [p2, .int n, .list (r.map enc3), .int a, .int b, .none] = .ok (.int d, [p3, .int n, .list (r.map enc3), .int a, .int b, .none]) := h3
    have htest : xAnd (xPT (gTest (gOp hNe (gVar 2) (gLst (gNil))))) (xTest (xOp hEq (xCallM .la 2 f_l_take 0 (xCons (xP (gC (.int (4)))) (xNil))) (xP (gC (.int (0)))))) [p2, .int n, .list (r.map enc3), .int a, .int b, .none] = .ok (d == 0, [p3, .int n, .list (r.map enc3), .int a, .int b, .none]) := by
      rw [xAnd_def, ht true (by cases r with | nil => exact absurd rfl c | cons => rfl)]
      show xTest _ _ = _
      rw [xTest_def, xOp_def, h3]
      simp only [bnd_ok, xP_def, gC_def, hEq_i, asB_b]
    cases e : (d == 0) with
    | false =>
      rw [e] at htest
      exact ⟨a, b, p3, .none, (xIf_f htest).trans rfl, a0, by omega, b0, by omega, hp3.mono (by omega)⟩
    | true =>
      rw [e] at htest
      obtain ⟨j, p4, h4, j0, j1, hp4⟩ := tk_ok (i := 0) (gA := xCons (xP (gCB hLen (gCons (gVar 2) (gNil)))) xNil) (ρ := [p3, .int n, .list (r.map enc3), .int a, .int b, .none]) (ρ' := [p3, .int n, .list (r.map enc3), .int a, .int b, .none]) (size := (r.length : Int)) (by
        rw [xCons_def, xP_def]
        simp only [bnd_ok, gVar_def, gC_def, gOp_def, gUn_def, gNil_def, gCons_def, gIf_def, gTest_def, gNot_def, gAnd_def, gOr_def, gAndV_def, gOrV_def, gNotV_def, gCB_def, asB_b, hAdd_i, hSub_i, hLt_i, hLe_i, hGt_i, hGe_i, hMul_r, hMul_l, hMod_i, hDiv_s, hBand_i, hShr_i, hPow_10_18, hPow_10_27, hPow_10_28, hPow_10_29, hPow_10_30, hEq_i, hNe_i, hLen_l, hLen_t, hMin2_i, hMax2_i, hMin3_i, hInt1_b, hInt1_i, hBits_i, hListOf_l, hListOf_t, hTupOf_l, hTupOf_t, gSeqS_def, gSet_def, gRet_def, gIfS_def, gNext_def, gTup_def, gLst_def, List.getElem?_cons_zero, List.getElem?_cons_succ, List.set_cons_zero, List.set_cons_succ, List.length_cons, List.length_nil, Nat.zero_add, Nat.reduceAdd, Nat.reduceLeDiff, Nat.reduceSub, Nat.reduceMul, if_true, if_false, Bool.false_eq_true, List.replicate_succ, List.replicate_zero, List.cons_append, List.nil_append, tgN, tgT, tgCons, tgNil, Int.reducePow, Int.reduceAdd, Int.reduceSub, Int.reduceMul, decide_true, decide_false, Bool.not_true, Bool.not_false, gChain_def, hIsa_int, hIsa_intb, hIsa_list, hIsa_tuple, gDrop_def, List.length_map]
        rfl) rfl hp3 (by omega) (by omega) (by omega)
      have h4 : xCallM .la 2 f_l_take 0 (xCons (xP (gCB hLen (gCons (gVar 2) (gNil)))) xNil) [p3, .int n, .list (r.map enc3), .int a, .int b, .none] = .ok (.int j, [p4, .int n, .list (r.map enc3), .int a, .int b, .none]) := h4
      have hj : j.toNat < r.length := by omega
      have hix : hIx (.list (r.map enc3)) (.int j) = .ok (enc3 r[j.toNat]) := hIx_l (atI_map enc3 j0 (by omega))
      obtain ⟨⟨t0, t1⟩, u0, u1⟩ := hr r[j.toNat] (List.getElem_mem hj)
      refine ⟨r[j.toNat].2.1, r[j.toNat].2.2, p4, .int r[j.toNat].1, (xIf_t htest).trans (xasg_ok (d := enc3 r[j.toNat]) (ρ1 := [p4, .int n, .list (r.map enc3), .int a, .int b, .none]) ?_ rfl), t0, t1, u0, u1, hp4.mono (by omega)⟩
      rw [xOp_def, xP_def, gVar_def]
      show bnd (bnd (O.ok (PyData.list (r.map enc3))) _) _ = _
      rw [bnd_ok, bnd_ok, h4, bnd_ok, hix]
      rfl
theorem nodup_subI : ∀ {l m : List Int}, l.Nodup → (∀ p ∈ l, p ∈ m) → l.length ≤ m.length := Flow.nodup_sub
theorem far {ms : List Int} {z : Int} (h : ∀ e : Nat, e < ms.length + 1 → z + (e : Int) ∈ ms) : False := by
  have hn : ((List.range (ms.length + 1)).map fun (e : Nat) => z + (e : Int)).Nodup := List.pairwise_map.mpr (List.nodup_range.imp fun {a b} h e => h (by have : z + (a : Int) = z + (b : Int) := e; omega))
  have := nodup_subI hn (m := ms) fun p hp => by
    obtain ⟨e, he, rfl⟩ := List.mem_map.mp hp
    exact h e (List.mem_range.mp he)
  rw [List.length_map, List.length_range] at this
  omega
theorem up_for {ms : List Int} {z n : Int} {p R x4 x6 x7 x8 : Dt} (hl : ms.length ≤ 1000) : ∃ z' y6, gFor (gRng1 (gCons (gOp hAdd (gCB hLen (gCons (gVar 3) (gNil))) (gC (.int (1)))) (gNil))) (tgN 6) g_l_new_tie_L1 [p, .int n, R, .list (ms.map .int), x4, .int z, x6, x7, x8] = .ok (.nx [p, .int n, R, .list (ms.map .int), x4, .int z', y6, x7, x8]) ∧ z ≤ z' ∧ z' ≤ z + ms.length + 1 ∧ z' ∉ ms := by
  obtain ⟨ρ', hf, z', y6, rfl, h1, h2, h3⟩ := forE_ix (fun (j : Nat) => PyData.int (0 + (j : Int))) (h := tgN 6) (b := g_l_new_tie_L1) (List.range (ms.length + 1))
    (fun i ρ => ∃ (z' : Int) (y6 : Dt), ρ = [p, .int n, R, .list (ms.map .int), x4, .int z', y6, x7, x8] ∧ z ≤ z' ∧ z' ≤ z + i ∧ (z' ∉ ms ∨ (z' = z + i ∧ ∀ e : Nat, e < i → z + (e : Int) ∈ ms)))
    (ρ := [p, .int n, R, .list (ms.map .int), x4, .int z, x6, x7, x8]) ⟨z, x6, rfl, by omega, by omega, .inr ⟨by omega, fun e he => by omega⟩⟩ (by
      rintro i ρ hi ⟨z', y6, rfl, h1, h2, h3⟩
      generalize hgj : (0 : Int) + ((List.range (ms.length + 1))[i] : Nat) = jj
      refine ⟨[p, .int n, R, .list (ms.map .int), x4, .int z', .int jj, x7, x8], [p, .int n, R, .list (ms.map .int), x4, .int (z' + (if decide (z' ∈ ms) then 1 else 0)), .int jj, x7, x8], rfl, .inl ?_, _, _, rfl, ?_, ?_, ?_⟩
      · unfold g_l_new_tie_L1
        refine (set_ok (d := .int (z' + (if decide (z' ∈ ms) then 1 else 0))) ?_).trans rfl
        simp only [bnd_ok, gVar_def, gC_def, gOp_def, gUn_def, gNil_def, gCons_def, gIf_def, gTest_def, gNot_def, gAnd_def, gOr_def, gAndV_def, gOrV_def, gNotV_def, gCB_def, asB_b, hAdd_i, hSub_i, hLt_i, hLe_i, hGt_i, hGe_i, hMul_r, hMul_l, hMod_i, hDiv_s, hBand_i, hShr_i, hPow_10_18, hPow_10_27, hPow_10_28, hPow_10_29, hPow_10_30, hEq_i, hNe_i, hLen_l, hLen_t, hMin2_i, hMax2_i, hMin3_i, hInt1_b, hInt1_i, hBits_i, hListOf_l, hListOf_t, hTupOf_l, hTupOf_t, gSeqS_def, gSet_def, gRet_def, gIfS_def, gNext_def, gTup_def, gLst_def, List.getElem?_cons_zero, List.getElem?_cons_succ, List.set_cons_zero, List.set_cons_succ, List.length_cons, List.length_nil, Nat.zero_add, Nat.reduceAdd, Nat.reduceLeDiff, Nat.reduceSub, Nat.reduceMul, if_true, if_false, Bool.false_eq_true, List.replicate_succ, List.replicate_zero, List.cons_append, List.nil_append, tgN, tgT, tgCons, tgNil, Int.reducePow, Int.reduceAdd, Int.reduceSub, Int.reduceMul, decide_true, decide_false, Bool.not_true, Bool.not_false, gChain_def, hIsa_int, hIsa_intb, hIsa_list, hIsa_tuple, gDrop_def, hIn_ints]
      · by_cases c : z' ∈ ms
        · simp only [c, decide_true, if_true]; omega
        · simp only [c, decide_false, Bool.false_eq_true, if_false]; omega
      · by_cases c : z' ∈ ms
        · simp only [c, decide_true, if_true]; omega
        · simp only [c, decide_false, Bool.false_eq_true, if_false]; omega
      · by_cases c : z' ∈ ms
        · simp only [c, decide_true, if_true]
          rcases h3 with h3 | ⟨h3, h4⟩
          · exact absurd c h3
          · refine .inr ⟨by omega, fun e he => ?_⟩
            by_cases y : e = i
            · subst y; rw [← h3]; exact c
            · exact h4 e (by omega)
        · simp only [c, decide_false, Bool.false_eq_true, if_false, Int.add_zero]
          exact .inl (by simpa using c))
  rw [List.length_range] at h2 h3
  refine ⟨z', y6, for_ok (ds := (List.range (ms.length + 1)).map fun (j : Nat) => PyData.int (0 + (j : Int))) ?_ hf, h1, by omega, ?_⟩
  · refine (rng1_ok (j := (ms.length : Int) + 1) ?_ (by omega) (by omega)).trans ?_
    · simp only [bnd_ok, gVar_def, gC_def, gOp_def, gUn_def, gNil_def, gCons_def, gIf_def, gTest_def, gNot_def, gAnd_def, gOr_def, gAndV_def, gOrV_def, gNotV_def, gCB_def, asB_b, hAdd_i, hSub_i, hLt_i, hLe_i, hGt_i, hGe_i, hMul_r, hMul_l, hMod_i, hDiv_s, hBand_i, hShr_i, hPow_10_18, hPow_10_27, hPow_10_28, hPow_10_29, hPow_10_30, hEq_i, hNe_i, hLen_l, hLen_t, hMin2_i, hMax2_i, hMin3_i, hInt1_b, hInt1_i, hBits_i, hListOf_l, hListOf_t, hTupOf_l, hTupOf_t, gSeqS_def, gSet_def, gRet_def, gIfS_def, gNext_def, gTup_def, gLst_def, List.getElem?_cons_zero, List.getElem?_cons_succ, List.set_cons_zero, List.set_cons_succ, List.length_cons, List.length_nil, Nat.zero_add, Nat.reduceAdd, Nat.reduceLeDiff, Nat.reduceSub, Nat.reduceMul, if_true, if_false, Bool.false_eq_true, List.replicate_succ, List.replicate_zero, List.cons_append, List.nil_append, tgN, tgT, tgCons, tgNil, Int.reducePow, Int.reduceAdd, Int.reduceSub, Int.reduceMul, decide_true, decide_false, Bool.not_true, Bool.not_false, gChain_def, hIsa_int, hIsa_intb, hIsa_list, hIsa_tuple, gDrop_def, List.length_map]
    · unfold rangeD
      rw [show ((ms.length : Int) + 1 - 0).toNat = ms.length + 1 by omega]
  · rcases h3 with h3 | ⟨_, h4⟩
    · exact h3
    · exact (far h4).elim
theorem new_in {m n N M : Int} {p : Dt} {r : List T3} (hp : PotOk m p) (hm : m < 1099511627600) (n1 : 1 ≤ n) (n10 : n ≤ 20) (hN : n ≤ N) (hr : InN N r) (M0 : 2 ≤ M) (hl : r.length ≤ 50) (h0 : ∀ t ∈ r, 0 ≤ t.1 ∧ t.1 ≤ M) :
    ∃ t p', f_l_new_tie [p, .int n, .list (r.map enc3)] = .ok (.tuple [enc3 t, p']) ∧ 0 ≤ t.1 ∧ t.1 ≤ M + 60 ∧ 0 ≤ t.2.1 ∧ t.2.1 ≤ t.2.2 ∧ t.2.2 < N ∧ (∀ g ∈ r, g.1 ≠ t.1) ∧ PotOk (m + 8) p' := by
  have hlc := gLc_map enc3 (fun _ => true) (fun t => PyData.int t.1) (gi := gSeq (gVar 2)) (h := tgN 4) (gt := gYes) (ge := gOp hIx (gVar 4) (gC (.int (0)))) (ρ := [p, .int n, .list (r.map enc3), .none, .none, .none, .none, .none, .none]) (xs := r) (seqG_l rfl) (by omega) fun p hp => ⟨_, rfl, rfl, fun _ => rfl⟩
  rw [List.filter_eq_self.mpr (fun _ _ => rfl), show r.map (fun t => PyData.int t.1) = (r.map (·.1)).map .int from by rw [List.map_map]; rfl] at hlc
  obtain ⟨s, p1, h1, s0, s1, hp1⟩ := tk_ok (i := 0) (gA := xCons (xP (gC (.int (3)))) xNil) (ρ := [p, .int n, .list (r.map enc3), .list ((r.map (·.1)).map .int), .none, .none, .none, .none, .none]) rfl rfl hp (by omega) (by omega : (0 : Int) < 3) (by omega)
  have h1 : xCallM .la 2 f_l_take 0 (xCons (xP (gC (.int (3)))) xNil) [p, .int n, .list (r.map enc3), .list ((r.map (·.1)).map .int), .none, .none, .none, .none, .none] = .ok (.int s, [p1, .int n, .list (r.map enc3), .list ((r.map (·.1)).map .int), .none, .none, .none, .none, .none]) := h1
  -- the moment begun with
  obtain ⟨z, p2, h2, z0, z1, hp2⟩ : ∃ (z : Int) (p2 : Dt), xIfS (xAnd (xPT (gTest (gOp hNe (gVar 3) (gLst (gNil))))) (xTest (xOp hGt (xCallM .la 2 f_l_take 0 (xCons (xP (gC (.int (4)))) (xNil))) (xP (gC (.int (0))))))) (xSet 5 (xOp hAdd (xOp hIx (xP (gVar 3)) (xCallM .la 2 f_l_take 0 (xCons (xP (gCB hLen (gCons (gVar 3) (gNil)))) (xNil)))) (xCallM .la 2 f_l_take 0 (xCons (xP (gC (.int (2)))) (xNil))))) (gNext)
      [p1, .int n, .list (r.map enc3), .list ((r.map (·.1)).map .int), .none, .int s, .none, .none, .none] = .ok (.nx [p2, .int n, .list (r.map enc3), .list ((r.map (·.1)).map .int), .none, .int z, .none, .none, .none]) ∧ 0 ≤ z ∧ z ≤ M + 2 ∧ PotOk (m + 4) p2 := by
    have hT : ∀ b, decide (r.map (·.1) ≠ []) = b → xPT (gTest (gOp hNe (gVar 3) (gLst (gNil)))) [p1, .int n, .list (r.map enc3), .list ((r.map (·.1)).map .int), .none, .int s, .none, .none, .none] = .ok (b, [p1, .int n, .list (r.map enc3), .list ((r.map (·.1)).map .int), .none, .int s, .none, .none, .none]) := fun b e => by
      have : gTest (gOp hNe (gVar 3) (gLst (gNil))) [p1, .int n, .list (r.map enc3), .list ((r.map (·.1)).map .int), .none, .int s, .none, .none, .none] = .ok b := by
        rw [gTest_def, gOp_def]
        show bnd (hNe (.list ((r.map (·.1)).map .int)) (.list (([] : List Int).map .int))) asB = _
        rw [hNe_ints, bnd_ok, asB_b, ← e]
        congr 1
        by_cases c : r.map (·.1) = [] <;> simp [c]
      rw [xPT_def, this]
      rfl
    by_cases c : r = []
    · refine ⟨s, p1, (xIf_f (ρ' := [p1, .int n, .list (r.map enc3), .list ((r.map (·.1)).map .int), .none, .int s, .none, .none, .none]) ?_).trans rfl, by omega, by omega, hp1.mono (by omega)⟩
      rw [xAnd_def, hT false (by simp [c])]
      rfl
    · have hpos : 0 < r.length := List.length_pos_iff.mpr c
      obtain ⟨d, p3, h3, d0, d1, hp3⟩ := tk_ok (i := 0) (gA := xCons (xP (gC (.int (4)))) xNil) (ρ := [p1, .int n, .list (r.map enc3), .list ((r.map (·.1)).map .int), .none, .int s, .none, .none, .none]) rfl rfl hp1 (by omega) (by omega : (0 : Int) < 4) (by omega)
      have h3 : xCallM .la 2 f_l_take 0 (xCons (xP (gC (.int (4)))) xNil) [p1, .int n, .list (r.map enc3), .list ((r.map (·.1)).map .int), .none, .int s, .none, .none, .none] = .ok (.int d, [p3, .int n, .list (r.map enc3), .list ((r.map (·.1)).map .int), .none, .int s, .none, .none, .none]) := h3
      have htest : xAnd (xPT (gTest (gOp hNe (gVar 3) (gLst (gNil))))) (xTest (xOp hGt (xCallM .la 2 f_l_take 0 (xCons (xP (gC (.int (4)))) (xNil))) (xP (gC (.int (0)))))) [p1, .int n, .list (r.map enc3), .list ((r.map (·.1)).map .int), .none, .int s, .none, .none, .none] = .ok (decide (0 < d), [p3, .int n, .list (r.map enc3), .list ((r.map (·.1)).map .int), .none, .int s, .none, .none, .none]) := by
        rw [xAnd_def, hT true (by simp [c]), bnd_ok]
        simp only [if_true]
        rw [xTest_def, xOp_def, h3]
        simp only [bnd_ok, xP_def, gC_def, hGt_i, asB_b]
      by_cases e : 0 < d
      · rw [decide_eq_true e] at htest
        obtain ⟨j, p4, h4, j0, j1, hp4⟩ := tk_ok (i := 0) (gA := xCons (xP (gCB hLen (gCons (gVar 3) (gNil)))) xNil) (ρ := [p3, .int n, .list (r.map enc3), .list ((r.map (·.1)).map .int), .none, .int s, .none, .none, .none]) (ρ' := [p3, .int n, .list (r.map enc3), .list ((r.map (·.1)).map .int), .none, .int s, .none, .none, .none]) (size := (r.length : Int)) (by
          rw [xCons_def, xP_def]
          simp only [bnd_ok, gVar_def, gC_def, gOp_def, gUn_def, gNil_def, gCons_def, gIf_def, gTest_def, gNot_def, gAnd_def, gOr_def, gAndV_def, gOrV_def, gNotV_def, gCB_def, asB_b, hAdd_i, hSub_i, hLt_i, hLe_i, hGt_i, hGe_i, hMul_r, hMul_l, hMod_i, hDiv_s, hBand_i, hShr_i, hPow_10_18, hPow_10_27, hPow_10_28, hPow_10_29, hPow_10_30, hEq_i, hNe_i, hLen_l, hLen_t, hMin2_i, hMax2_i, hMin3_i, hInt1_b, hInt1_i, hBits_i, hListOf_l, hListOf_t, hTupOf_l, hTupOf_t, gSeqS_def, gSet_def, gRet_def, gIfS_def, gNext_def, gTup_def, gLst_def, List.getElem?_cons_zero, List.getElem?_cons_succ, List.set_cons_zero, List.set_cons_succ, List.length_cons, List.length_nil, Nat.zero_add, Nat.reduceAdd, Nat.reduceLeDiff, Nat.reduceSub, Nat.reduceMul, if_true, if_false, Bool.false_eq_true, List.replicate_succ, List.replicate_zero, List.cons_append, List.nil_append, tgN, tgT, tgCons, tgNil, Int.reducePow, Int.reduceAdd, Int.reduceSub, Int.reduceMul, decide_true, decide_false, Bool.not_true, Bool.not_false, gChain_def, hIsa_int, hIsa_intb, hIsa_list, hIsa_tuple, gDrop_def, List.length_map]
          rfl) rfl hp3 (by omega) (by omega) (by omega)
        have h4 : xCallM .la 2 f_l_take 0 (xCons (xP (gCB hLen (gCons (gVar 3) (gNil)))) xNil) [p3, .int n, .list (r.map enc3), .list ((r.map (·.1)).map .int), .none, .int s, .none, .none, .none] = .ok (.int j, [p4, .int n, .list (r.map enc3), .list ((r.map (·.1)).map .int), .none, .int s, .none, .none, .none]) := h4
        obtain ⟨w, p5, h5, w0, w1, hp5⟩ := tk_ok (i := 0) (gA := xCons (xP (gC (.int (2)))) xNil) (ρ := [p4, .int n, .list (r.map enc3), .list ((r.map (·.1)).map .int), .none, .int s, .none, .none, .none]) rfl rfl hp4 (by omega) (by omega : (0 : Int) < 2) (by omega)
        have h5 : xCallM .la 2 f_l_take 0 (xCons (xP (gC (.int (2)))) xNil) [p4, .int n, .list (r.map enc3), .list ((r.map (·.1)).map .int), .none, .int s, .none, .none, .none] = .ok (.int w, [p5, .int n, .list (r.map enc3), .list ((r.map (·.1)).map .int), .none, .int s, .none, .none, .none]) := h5
        have hlm : (r.map (·.1)).length = r.length := List.length_map ..
        have hix := hIx_ints (xs := r.map (·.1)) (i := j) j0 (by omega)
        have hy : (r.map (·.1))[j.toNat]'(by omega) ∈ r.map (·.1) := List.getElem_mem _
        generalize (r.map (·.1))[j.toNat]'(by omega) = y at *
        obtain ⟨g, hg, rfl⟩ := List.mem_map.mp hy
        have hb := h0 g hg
        refine ⟨g.1 + w, p5, (xIf_t htest).trans ((xset_ok (d := .int (g.1 + w)) (ρ' := [p5, .int n, .list (r.map enc3), .list ((r.map (·.1)).map .int), .none, .int s, .none, .none, .none]) ?_).trans rfl), by omega, by omega, hp5.mono (by omega)⟩
        have e1 : xOp hIx (xP (gVar 3)) (xCallM .la 2 f_l_take 0 (xCons (xP (gCB hLen (gCons (gVar 3) (gNil)))) (xNil))) [p3, .int n, .list (r.map enc3), .list ((r.map (·.1)).map .int), .none, .int s, .none, .none, .none] = .ok (.int g.1, [p4, .int n, .list (r.map enc3), .list ((r.map (·.1)).map .int), .none, .int s, .none, .none, .none]) := by
          rw [xOp_def, xP_def, gVar_def]
          simp only [List.getElem?_cons_zero, List.getElem?_cons_succ, bnd_ok, h4, hix]
        have e2 : xOp hAdd (xOp hIx (xP (gVar 3)) (xCallM .la 2 f_l_take 0 (xCons (xP (gCB hLen (gCons (gVar 3) (gNil)))) (xNil)))) (xCallM .la 2 f_l_take 0 (xCons (xP (gC (.int (2)))) (xNil))) [p3, .int n, .list (r.map enc3), .list ((r.map (·.1)).map .int), .none, .int s, .none, .none, .none] = .ok (.int (g.1 + w), [p5, .int n, .list (r.map enc3), .list ((r.map (·.1)).map .int), .none, .int s, .none, .none, .none]) := by
          rw [xOp_def, e1, bnd_ok, h5]
          simp only [bnd_ok, hAdd_i]
        exact e2
      · rw [decide_eq_false e] at htest
        exact ⟨s, p3, (xIf_f htest).trans rfl, by omega, by omega, hp3.mono (by omega)⟩
  obtain ⟨z', y6, h3, w0, w1, w2⟩ := up_for (ms := r.map (·.1)) (z := z) (n := n) (p := p2) (R := .list (r.map enc3)) (x4 := .none) (x6 := .none) (x7 := .none) (x8 := .none) (by rw [List.length_map]; omega)
  rw [List.length_map] at w1
  obtain ⟨a, b, p5, h5, a0, ab, bn, hp5⟩ := ends_in hp2 (by omega) n1 (by omega) hN hr (by omega)
  have hcall : xCallM .la 3 f_l_ends 0 (xPA (gCons (gVar 1) (gCons (gVar 2) (gNil)))) [p2, .int n, .list (r.map enc3), .list ((r.map (·.1)).map .int), .none, .int z', y6, .none, .none] = .ok (.tuple [.int a, .int b], [p5, .int n, .list (r.map enc3), .list ((r.map (·.1)).map .int), .none, .int z', y6, .none, .none]) :=
    xcallM_ok (ds := [.int n, .list (r.map enc3)]) (ρ' := [p2, .int n, .list (r.map enc3), .list ((r.map (·.1)).map .int), .none, .int z', y6, .none, .none]) rfl rfl rfl hp2.arg h5 hp5.arg
  refine ⟨(z', a, b), p5, fnN_rt ?_, by show 0 ≤ z'; omega, by show z' ≤ _; omega, a0, ab, bn, fun g hg e => w2 (List.mem_map.mpr ⟨g, hg, e⟩), hp5.mono (by omega)⟩
  show g_l_new_tie [p, .int n, .list (r.map enc3), .none, .none, .none, .none, .none, .none] = _
  unfold g_l_new_tie
  refine seq_step (set_ok hlc) ?_
  dsimp only [List.set]
  refine seq_step (xset_ok h1) ?_
  dsimp only [List.set]
  refine seq_step h2 ?_
  refine seq_step h3 ?_
  refine seq_step (xasg_ok (ρ2 := [p5, .int n, .list (r.map enc3), .list ((r.map (·.1)).map .int), .none, .int z', y6, .int a, .int b]) hcall (by rfl)) ?_
  exact xret_ok (ρ' := [p5, .int n, .list (r.map enc3), .list ((r.map (·.1)).map .int), .none, .int z', y6, .int a, .int b]) (d := enc3 (z', a, b)) rfl rfl hp5.argD
end K16
end T_K16B
section T_K16R
set_option linter.all false
set_option maxRecDepth 100000
set_option maxHeartbeats 4000000
namespace K16
open PySem Sim FamA FamB FamL Lay Mov
def dT (x y z : Bool) : Dt := .tuple [.bool x, .bool y, .bool z, .bool false]
def suite : Gs := gSeqS (gSet 6 (gUn (hIsY [("NoLayers", false), ("NoTies", false), ("Clash", false)]) (gVar 5))) (gSeqS (gSet 6 (gOrV (gVar 6) (gNotV (gUn (hIsY [("NoLayers", true), ("NoTies", true), ("Clash", true)]) (gVar 5))))) (gSet 4 (gTup (gCons (gUn (hIsY [("NoLayers", true), ("NoTies", false), ("Clash", false)]) (gVar 5)) (gCons (gUn (hIsY [("NoLayers", false), ("NoTies", true), ("Clash", false)]) (gVar 5)) (gCons (gUn (hIsY [("NoLayers", false), ("NoTies", false), ("Clash", true)]) (gVar 5)) (gCons (gVar 6) (gNil))))))))
theorem told_v {a b c d v : Dt} (h : f_moves [a, b, c, d] = .ok v) : f_l_told_of [a, b, c, d] = .ok v := by
  refine fnN_rt ?_
  show g_l_told_of [a, b, c, d, .none, .none, .none] = _
  unfold g_l_told_of
  refine seq_step (ρ' := [a, b, c, d, .none, .none, .none]) rfl ?_
  exact seq_step (ρ' := [a, b, c, d, v, .none, .none]) (try_ok (set_rt (callX_ok (ds := [a, b, c, d]) rfl rfl h))) (ret_ok rfl)
theorem told_x {a b c d T : Dt} {cl : Str} {m : Option Int} (h : f_moves [a, b, c, d] = .ex ⟨cl, m⟩) (hc : (["NoLayers", "NoTies", "Clash"] : List Str).contains cl = true) (k : suite [a, b, c, d, .none, exnD cl m, .none] = .ok (.nx [a, b, c, d, T, exnD cl m, .bool false])) : f_l_told_of [a, b, c, d] = .ok T := by
  refine fnN_rt ?_
  show g_l_told_of [a, b, c, d, .none, .none, .none] = _
  unfold g_l_told_of
  refine seq_step (ρ' := [a, b, c, d, .none, .none, .none]) rfl ?_
  exact seq_step (ρ' := [a, b, c, d, T, exnD cl m, .bool false]) (try_ex (set_ex (callX_ex (ds := [a, b, c, d]) rfl rfl h)) hc k) (ret_ok rfl)
theorem told_l {a b c d : Dt} (h : f_moves [a, b, c, d] = .ex XL) : f_l_told_of [a, b, c, d] = .ok (dT true false false) := told_x h (by decide +kernel) (by kernel_rfl)
theorem told_t {a b c d : Dt} (h : f_moves [a, b, c, d] = .ex XT) : f_l_told_of [a, b, c, d] = .ok (dT false true false) := told_x h (by decide +kernel) (by kernel_rfl)
theorem told_c {a b c d : Dt} {m : Int} (h : f_moves [a, b, c, d] = .ex ⟨"Clash", some m⟩) : f_l_told_of [a, b, c, d] = .ok (dT false false true) := told_x h (by decide +kernel) (by kernel_rfl)
theorem field_c {a b c d : Dt} {m : Int} (h : f_moves [a, b, c, d] = .ex ⟨"Clash", some m⟩) : f_l_field_of [a, b, c, d] = .ok (.int m) := by
  refine fnN_rt ?_
  show g_l_field_of [a, b, c, d, .none, .none] = _
  unfold g_l_field_of
  refine seq_step (ρ' := [a, b, c, d, .none, .none]) rfl ?_
  have k : gSet 4 (gUn (hMom "Clash") (gVar 5)) [a, b, c, d, .none, exnD "Clash" (some m)] = .ok (.nx [a, b, c, d, .int m, exnD "Clash" (some m)]) := set_rt (by rfl) rfl
  exact seq_step (ρ' := [a, b, c, d, .int m, exnD "Clash" (some m)]) (try_ex (drop_ex (callX_ex (ds := [a, b, c, d]) rfl rfl h)) (by decide +kernel) k) (ret_ok rfl)
theorem hNe_enc (r : List T3) : hNe (.list (r.map enc3)) (.list (r.map enc3)) = .ok (.bool false) := hNe_self (FamB.enc_shaped r)
theorem right_ok {n : Int} {r : List T3} {k t due F : Dt} (ht : Ta t) (h : f_l_told_of [.int n, .list (r.map enc3), k, t] = .ok F) (hd : (hNe due (.tuple []) = .ok (.bool true) ∧ hEq F due = .ok (.bool true)) ∨ (hNe due (.tuple []) = .ok (.bool false) ∧ ∃ xs, F = .list xs)) :
    f_l_right [.int n, .list (r.map enc3), k, t, due] = .ok (.bool true) := by
  have hne := hNe_enc r
  obtain ⟨R, hR⟩ : ∃ A, A = PyData.list (r.map enc3) := ⟨_, rfl⟩
  rw [← hR] at h hne ⊢
  have hl : one hListOf [R] = .ok R := by rw [hR]; rfl
  have st : ∀ x y z : Dt, gCB hStrA (gCons (gVar 3) (gNil)) [.int n, R, k, t, due, x, y, z] = .ok (.str (txt t)) := fun x y z => by
    show hStrA [t] = _
    unfold hStrA
    simp only [ht.ok, if_true]
  refine fnN_rt ?_
  show g_l_right [.int n, R, k, t, due, .none, .none, .none] = _
  unfold g_l_right
  refine seq_step (set_ok (d := R) hl) ?_
  dsimp only [List.set]
  refine seq_step (set_ok (st _ _ _)) ?_
  dsimp only [List.set]
  refine seq_step (set_ok (callN_ok (ds := [.int n, R, k, t]) rfl rfl h)) ?_
  dsimp only [List.set]
  refine seq_step ((if_f (vg_orF (vg_test (vg_op rfl rfl hne)) (vg_test (vg_op (st _ _ _) rfl ht.ne)))).trans rfl) ?_
  rcases hd with ⟨h1, h2⟩ | ⟨h1, xs, rfl⟩
  · exact seq_rt ((if_t (vg_test (vg_op rfl rfl h1))).trans (ret_ok (vg_op rfl rfl h2)))
  · exact seq_step ((if_f (vg_test (vg_op rfl rfl h1))).trans rfl) (ret_ok rfl)
theorem dT_ne (x y z : Bool) : hNe (dT x y z) (.tuple []) = .ok (.bool true) := by cases x <;> cases y <;> cases z <;> kernel_rfl
theorem dT_eq (x y z : Bool) : hEq (dT x y z) (dT x y z) = .ok (.bool true) := by cases x <;> cases y <;> cases z <;> kernel_rfl
theorem ne_nil : hNe (.tuple []) (.tuple []) = .ok (.bool false) := by kernel_rfl
theorem ta_enc {n : Int} {t : T3} (h : TieOkE n t) (n10 : n ≤ 10) : Ta (enc3 t) := by
  have := h.m0; have := h.m1; have := h.a0; have := h.ab; have := h.bn
  exact ta_tup (xs := [t.1, t.2.1, t.2.2]) (by simp) (fun x hx => by
    simp only [List.mem_cons, List.not_mem_nil, or_false] at hx
    rcases hx with rfl | rfl | rfl <;> omega)
def Cho (n : Int) (r : List T3) (tie : Dt) (w : Str) : Prop := (w = "none" ∧ tie ∈ oQ n) ∨ (w = "again" ∧ ∃ t, tie = enc3 t ∧ TieOkE n t ∧ t.1 ∈ r.map (·.1)) ∨ (w = "new" ∧ ∃ t, tie = enc3 t ∧ TieOkE n t ∧ ∀ g ∈ r, g.1 ≠ t.1)
theorem chosen_ok {m n : Int} {r : List T3} {p : Dt} (hp : PotOk m p) (hm : m < 1099511400000) (n1 : 1 ≤ n) (n10 : n ≤ 10) (hrec : ∀ t ∈ r, TieOkE n t) (hsm : ∀ t ∈ r, t.1 ≤ 100000000000000000000000000000) (hl : r.length ≤ 50) :
    ∃ (tie : Dt) (w : Str) (p' : Dt), f_l_chosen [p, .int n, .list (r.map enc3)] = .ok (.tuple [.tuple [tie, .str w], p']) ∧ PotOk (m + 20) p' ∧ Cho n r tie w := by
  have hin : InN n r := fun t ht => by
    have q := hrec t ht
    have := q.a0; have := q.ab; have := q.bn
    exact ⟨⟨by omega, by omega⟩, by omega, by omega⟩
  obtain ⟨t, p1, h1, t0, t1, ta, tb, tc, td, hp1⟩ := new_in (N := n) (M := 100000000000000000000000000000) hp (by omega) n1 (by omega) (by omega) hin (by omega) (by omega) fun u hu => ⟨(hrec u hu).m0, hsm u hu⟩
  have hT : TieOkE n t := ⟨t0, by omega, ta, tb, tc⟩
  obtain ⟨R, hR⟩ : ∃ A, A = PyData.list (r.map enc3) := ⟨_, rfl⟩
  obtain ⟨d, p2, h2, d0, d1, hp2⟩ := tk_ok (i := 0) (gA := xCons (xP (gC (.int (4)))) xNil) (ρ := [p1, .int n, R, enc3 t, .none, .none]) rfl rfl hp1 (by omega) (by omega : (0 : Int) < 4) (by omega)
  have h2 : xCallM .la 2 f_l_take 0 (xCons (xP (gC (.int (4)))) xNil) [p1, .int n, R, enc3 t, .none, .none] = .ok (.int d, [p2, .int n, R, enc3 t, .none, .none]) := h2
  have eq : ∀ v : Int, gTest (gOp hEq (gVar 4) (gC (.int (v)))) [p2, .int n, R, enc3 t, .int d, .none] = .ok (d == v) := fun v => vg_test (vg_op rfl rfl (hEq_i _ _))
  have hne := FamB.hNe_nil r
  rw [← hR] at hne
  have tn : gTest (gOp hNe (gVar 2) (gLst (gNil))) [p2, .int n, R, enc3 t, .int d, .none] = .ok (!r.isEmpty) := vg_test (vg_op (x := R) (y := .list []) rfl rfl hne)
  have walk : ∀ z, gSeqS (gIfS (gTest (gOp hEq (gVar 4) (gC (.int (0))))) (xRetM (xTup (xCons (xCallM .la 2 f_l_odd_tie 0 (xCons (xP (gVar 1)) (xNil))) (xCons (xP (gC (.str "none"))) (xNil))))) (gNext)) (gSeqS (gIfS (gAnd (gTest (gOp hEq (gVar 4) (gC (.int (1))))) (gTest (gOp hNe (gVar 2) (gLst (gNil))))) (gSeqS (xSet 5 (xOp hIx (xP (gVar 2)) (xCallM .la 2 f_l_take 0 (xCons (xP (gCB hLen (gCons (gVar 2) (gNil)))) (xNil))))) (xRetM (xP (gTup (gCons (gTup (gCons (gOp hIx (gVar 5) (gC (.int (0)))) (gCons (gOp hIx (gVar 3) (gC (.int (1)))) (gCons (gOp hIx (gVar 3) (gC (.int (2)))) (gNil))))) (gCons (gC (.str "again")) (gNil))))))) (gNext)) (gSeqS (gIfS (gAnd (gTest (gOp hEq (gVar 4) (gC (.int (2))))) (gTest (gOp hNe (gVar 2) (gLst (gNil))))) (xRetM (xTup (xCons (xOp hIx (xP (gVar 2)) (xCallM .la 2 f_l_take 0 (xCons (xP (gCB hLen (gCons (gVar 2) (gNil)))) (xNil)))) (xCons (xP (gC (.str "again"))) (xNil))))) (gNext)) (xRetM (xP (gTup (gCons (gVar 3) (gCons (gC (.str "new")) (gNil))))))))  [p2, .int n, R, enc3 t, .int d, .none] = z → g_l_chosen [p, .int n, R, .none, .none, .none] = z := fun z hz => by
    unfold g_l_chosen
    refine seq_step (xset_ok (xcallM_ok (ds := [.int n, R]) (ρ' := [p, .int n, R, .none, .none, .none]) (vx_cons (vx_p rfl) (vx_cons (vx_p rfl) vx_nil)) rfl rfl hp.arg (by rw [hR]; exact h1) hp1.arg)) ?_
    dsimp only [List.set]
    refine seq_step (xset_ok h2) ?_
    dsimp only [List.set]
    exact hz
  cases e0 : d == 0 with
  | true =>
    obtain ⟨q, p3, h3, hp3, hq⟩ := odd_tie_ok (n := n) hp2 (by omega)
    refine ⟨q, "none", p3, fnN_rt ?_, hp3.mono (by omega), .inl ⟨rfl, hq⟩⟩
    rw [← hR]
    refine walk _ (seq_rt ((if_t ((eq 0).trans (by rw [e0]))).trans ?_))
    have c : xCallM .la 2 f_l_odd_tie 0 (xCons (xP (gVar 1)) (xNil)) [p2, .int n, R, enc3 t, .int d, .none] = .ok (q, [p3, .int n, R, enc3 t, .int d, .none]) := xcallM_ok (ds := [.int n]) (ρ' := [p2, .int n, R, enc3 t, .int d, .none]) (vx_cons (vx_p rfl) vx_nil) rfl rfl hp2.arg h3 hp3.arg
    exact xret_ok (vx_tup (xs := [q, .str "none"]) (vx_cons c (vx_cons (vx_p rfl) vx_nil)) (by simp)) rfl hp3.argD
  | false =>
    by_cases c : r = []
    · have ec : (!r.isEmpty) = false := by rw [c]; rfl
      rw [ec] at tn
      refine ⟨enc3 t, "new", p2, fnN_rt ?_, hp2.mono (by omega), .inr (.inr ⟨rfl, t, rfl, hT, td⟩)⟩
      rw [← hR]
      refine walk _ (seq_step ((if_f ((eq 0).trans (by rw [e0]))).trans rfl) ?_)
      have z : ∀ v : Int, gAnd (gTest (gOp hEq (gVar 4) (gC (.int (v))))) (gTest (gOp hNe (gVar 2) (gLst (gNil)))) [p2, .int n, R, enc3 t, .int d, .none] = .ok false := fun v => by
        cases e : d == v with
        | true => exact vg_andT ((eq v).trans (by rw [e])) tn
        | false => exact vg_andF ((eq v).trans (by rw [e]))
      refine seq_step ((if_f (z 1)).trans rfl) ?_
      refine seq_step ((if_f (z 2)).trans rfl) ?_
      exact xret_ok (vx_p (gTup_ok (xs := [enc3 t, .str "new"]) rfl (by simp))) rfl hp2.argD
    · have ec : (!r.isEmpty) = true := by cases r with | nil => exact absurd rfl c | cons => rfl
      rw [ec] at tn
      have hpos : 0 < r.length := List.length_pos_iff.mpr c
      have eL : gCB hLen (gCons (gVar 2) (gNil)) [p2, .int n, R, enc3 t, .int d, .none] = .ok (.int (r.length : Nat)) := by
        show hLen [R] = _
        rw [hR, hLen_l, List.length_map]
      obtain ⟨j, p3, h3, j0, j1, hp3⟩ := tk_ok (i := 0) (gA := xCons (xP (gCB hLen (gCons (gVar 2) (gNil)))) xNil) (ρ := [p2, .int n, R, enc3 t, .int d, .none]) (ρ' := [p2, .int n, R, enc3 t, .int d, .none]) (size := (r.length : Int)) (vx_cons (vx_p eL) vx_nil) rfl hp2 (by omega) (by omega) (by omega)
      have h3 : xCallM .la 2 f_l_take 0 (xCons (xP (gCB hLen (gCons (gVar 2) (gNil)))) xNil) [p2, .int n, R, enc3 t, .int d, .none] = .ok (.int j, [p3, .int n, R, enc3 t, .int d, .none]) := h3
      have hj : j.toNat < r.length := by omega
      have hix : hIx R (.int j) = .ok (enc3 r[j.toNat]) := by rw [hR]; exact hIx_l (atI_map enc3 j0 (by omega))
      have hmem := List.getElem_mem hj
      generalize r[j.toNat] = g at *
      have hg := hrec g hmem
      have vg : xOp hIx (xP (gVar 2)) (xCallM .la 2 f_l_take 0 (xCons (xP (gCB hLen (gCons (gVar 2) (gNil)))) (xNil))) [p2, .int n, R, enc3 t, .int d, .none] = .ok (enc3 g, [p3, .int n, R, enc3 t, .int d, .none]) := vx_op (vx_p rfl) h3 hix
      cases e1 : d == 1 with
      | true =>
        refine ⟨enc3 (g.1, t.2.1, t.2.2), "again", p3, fnN_rt ?_, hp3.mono (by omega), .inr (.inl ⟨rfl, _, rfl, ⟨hg.m0, hg.m1, ta, tb, tc⟩, List.mem_map.mpr ⟨g, hmem, rfl⟩⟩)⟩
        rw [← hR]
        refine walk _ (seq_step ((if_f ((eq 0).trans (by rw [e0]))).trans rfl) ?_)
        refine seq_rt ((if_t (vg_andT ((eq 1).trans (by rw [e1])) tn)).trans ?_)
        refine seq_step (xset_ok vg) ?_
        dsimp only [List.set]
        have u : gTup (gCons (gOp hIx (gVar 5) (gC (.int (0)))) (gCons (gOp hIx (gVar 3) (gC (.int (1)))) (gCons (gOp hIx (gVar 3) (gC (.int (2)))) (gNil)))) [p3, .int n, R, enc3 t, .int d, enc3 g] = .ok (enc3 (g.1, t.2.1, t.2.2)) := gTup_ok (xs := [.int g.1, .int t.2.1, .int t.2.2]) rfl (by simp)
        exact xret_ok (vx_p (gTup_ok (xs := [enc3 (g.1, t.2.1, t.2.2), .str "again"]) (vg_cons u rfl) (by simp))) rfl hp3.argD
      | false =>
        cases e2 : d == 2 with
        | true =>
          refine ⟨enc3 g, "again", p3, fnN_rt ?_, hp3.mono (by omega), .inr (.inl ⟨rfl, _, rfl, hg, List.mem_map.mpr ⟨g, hmem, rfl⟩⟩)⟩
          rw [← hR]
          refine walk _ (seq_step ((if_f ((eq 0).trans (by rw [e0]))).trans rfl) ?_)
          refine seq_step ((if_f (vg_andF ((eq 1).trans (by rw [e1])))).trans rfl) ?_
          refine seq_rt ((if_t (vg_andT ((eq 2).trans (by rw [e2])) tn)).trans ?_)
          exact xret_ok (vx_tup (xs := [enc3 g, .str "again"]) (vx_cons vg (vx_cons (vx_p rfl) vx_nil)) (by simp)) rfl hp3.argD
        | false =>
          refine ⟨enc3 t, "new", p2, fnN_rt ?_, hp2.mono (by omega), .inr (.inr ⟨rfl, t, rfl, hT, td⟩)⟩
          rw [← hR]
          refine walk _ (seq_step ((if_f ((eq 0).trans (by rw [e0]))).trans rfl) ?_)
          refine seq_step ((if_f (vg_andF ((eq 1).trans (by rw [e1])))).trans rfl) ?_
          refine seq_step ((if_f (vg_andF ((eq 2).trans (by rw [e2])))).trans rfl) ?_
          exact xret_ok (vx_p (gTup_ok (xs := [enc3 t, .str "new"]) rfl (by simp))) rfl hp2.argD
end K16
end T_K16R
section T_K16H
set_option linter.all false
set_option maxRecDepth 100000
set_option maxHeartbeats 4000000
namespace K16
open PySem Sim FamA FamB FamL Lay Mov
def dsp : Gd := gDisp3 "none" "again" "new" (gCons (gTup (gCons (gC (.bool false)) (gCons (gC (.bool true)) (gCons (gC (.bool false)) (gCons (gC (.bool false)) (gNil)))))) (gCons (gTup (gCons (gC (.bool false)) (gCons (gC (.bool false)) (gCons (gC (.bool true)) (gCons (gC (.bool false)) (gNil)))))) (gCons (gTup (gNil)) gNil)))
def dD : List (Dt × Dt) := [(.str "none", dT false true false), (.str "again", dT false false true), (.str "new", .tuple [])]
theorem dsp_ok (ρ : List Dt) : dsp ρ = .ok (.dict dD) := by rfl
theorem get_none : hDIx (.dict dD) (.str "none") = .ok (dT false true false) := by kernel_rfl
theorem get_again : hDIx (.dict dD) (.str "again") = .ok (dT false false true) := by kernel_rfl
theorem get_new : hDIx (.dict dD) (.str "new") = .ok (.tuple []) := by kernel_rfl
theorem eq_n : hEq (.str "none") (.str "again") = .ok (.bool false) := by kernel_rfl
theorem eq_a : hEq (.str "again") (.str "again") = .ok (.bool true) := by kernel_rfl
theorem eq_w : hEq (.str "new") (.str "again") = .ok (.bool false) := by kernel_rfl
theorem body_ok (sc : Dt) (cell : Int) (x2 x3 x4 x5 x6 x7 x8 x9 x10 : Dt) : ∃ y2 y3 y4 y5 y6 y7 y8, g_law_L1 [sc, .int cell, x2, x3, x4, x5, x6, x7, x8, x9, x10] = .ok (.nx [sc, .int cell, y2, y3, y4, y5, y6, y7, y8, x9, x10]) := by
  obtain ⟨p0, h0, hp0⟩ := begun_ok cell
  obtain ⟨n, p1, h1, n1, n10, hp1⟩ := places_ok hp0 (by omega)
  obtain ⟨r, p2, h2, hrec, hsm, hlen, hp2⟩ := drawn_okS (most := 8) hp1 (by omega) n1 n10 (by omega) (by omega)
  have hE : ∀ t ∈ r, TieOkE n t := fun t ht => by
    have q := hrec.ties t ht
    have m1 : t.1 < 1000000000000000000000000000000 := q.m1
    exact ⟨q.m0, by omega, q.a0, q.ab, q.bn⟩
  have hin : InN n r := fun t ht => by
    have q := hrec.ties t ht
    have := q.a0; have := q.ab; have := q.bn
    exact ⟨⟨by omega, by omega⟩, by omega, by omega⟩
  have hl := hrec.len
  obtain ⟨tie, w, p3, h3, hp3, hc⟩ := chosen_ok hp2 (by omega) n1 n10 hE hsm (by omega)
  obtain ⟨k, p4, h4, k1, k6, hp4⟩ := FamB.depth_ok hp3 (by omega)
  obtain ⟨d, p5, h5, hp5, hd⟩ := odd_depth_ok hp4 (by omega)
  have hTa : Ta tie := by
    rcases hc with ⟨_, h⟩ | ⟨_, t, rfl, h, _⟩ | ⟨_, t, rfl, h, _⟩
    · exact oQ_th n1 n10 tie h
    · exact ta_enc h n10
    · exact ta_enc h n10
  have w3 := right_ok (n := n) (r := r) (k := d) (due := dT true false false) hTa (told_l (moves_nl (bad_D d hd))) (.inl ⟨dT_ne _ _ _, dT_eq _ _ _⟩)
  obtain ⟨R, hR⟩ : ∃ A, A = PyData.list (r.map enc3) := ⟨_, rfl⟩
  have core : ∃ due, hDIx (.dict dD) (.str w) = .ok due ∧ f_l_right [.int n, .list (r.map enc3), .int (k : Nat), tie, due] = .ok (.bool true) ∧ gAnd (gTest (gOp hEq (gVar 6) (gC (.str "again")))) (gTest (gOp hNe (gCallN 4 f_l_field_of (gCons (gVar 3) (gCons (gVar 4) (gCons (gVar 8) (gCons (gVar 5) (gNil)))))) (gOp hIx (gVar 5) (gC (.int (0)))))) [sc, .int cell, p4, .int n, R, tie, .str w, due, .int (k : Nat), x9, x10] = .ok false := by
    rcases hc with ⟨rfl, h⟩ | ⟨rfl, t, rfl, h, hm⟩ | ⟨rfl, t, rfl, h, hm⟩
    · exact ⟨_, get_none, right_ok hTa (told_t (moves_nt hin (by omega) n1 n10 k1 k6 (oQ_bad n1 n10 tie h))) (.inl ⟨dT_ne _ _ _, dT_eq _ _ _⟩), vg_andF (vg_test (vg_op rfl rfl eq_n))⟩
    · have hmv := moves_cl hin (by omega) n1 n10 k1 k6 h hm
      have hf := field_c hmv
      rw [← hR] at hf
      have c1 : gCallN 4 f_l_field_of (gCons (gVar 3) (gCons (gVar 4) (gCons (gVar 8) (gCons (gVar 5) (gNil))))) [sc, .int cell, p4, .int n, R, enc3 t, .str "again", dT false false true, .int (k : Nat), x9, x10] = .ok (.int t.1) := callN_ok (ds := [.int n, R, .int (k : Nat), enc3 t]) rfl rfl hf
      exact ⟨_, get_again, right_ok hTa (told_c hmv) (.inl ⟨dT_ne _ _ _, dT_eq _ _ _⟩), vg_andT (vg_test (vg_op rfl rfl eq_a)) (vg_test (vg_op (y := .int t.1) c1 rfl (by rw [hNe_i]; simp)))⟩
    · have hmv := moves_ok hin hrec.ord (by omega) n1 n10 k1 k6 h hm
      exact ⟨_, get_new, right_ok hTa (told_v hmv) (.inr ⟨ne_nil, _, rfl⟩), vg_andF (vg_test (vg_op rfl rfl eq_w))⟩
  obtain ⟨due, g1, g2, g3⟩ := core
  rw [← hR] at h2 h3 g2 w3
  refine ⟨p5, .int n, R, tie, .str w, due, .int (k : Nat), ?_⟩
  unfold g_law_L1
  refine seq_step (set_ok (callN_ok (ds := [.int cell]) rfl rfl h0)) ?_
  dsimp only [List.set]
  refine seq_step (xset_ok (xcallM_ok (ds := []) (ρ' := [sc, .int cell, p0, x3, x4, x5, x6, x7, x8, x9, x10]) rfl rfl rfl hp0.arg h1 hp1.arg)) ?_
  dsimp only [List.set]
  refine seq_step (xset_ok (xcallM_ok (ds := [.int n, .int 8]) (ρ' := [sc, .int cell, p1, .int n, x4, x5, x6, x7, x8, x9, x10]) (vx_cons (vx_p rfl) (vx_cons (vx_p rfl) vx_nil)) rfl rfl hp1.arg h2 hp2.arg)) ?_
  dsimp only [List.set]
  refine seq_step (xasg_ok (d := .tuple [tie, .str w]) (ρ2 := [sc, .int cell, p3, .int n, R, tie, .str w, x7, x8, x9, x10]) (xcallM_ok (ds := [.int n, R]) (ρ' := [sc, .int cell, p2, .int n, R, x5, x6, x7, x8, x9, x10]) (vx_cons (vx_p rfl) (vx_cons (vx_p rfl) vx_nil)) rfl rfl hp2.arg h3 hp3.arg) rfl) ?_
  refine seq_step (set_ok (d := due) (vg_op (dsp_ok _) rfl g1)) ?_
  dsimp only [List.set]
  refine seq_step (xset_ok (xcallM_ok (ds := []) (ρ' := [sc, .int cell, p3, .int n, R, tie, .str w, due, x8, x9, x10]) rfl rfl rfl hp3.arg h4 hp4.arg)) ?_
  dsimp only [List.set]
  refine seq_step (vs_not (callN_ok (ds := [.int n, R, .int (k : Nat), tie, due]) rfl rfl g2)) ?_
  refine seq_step ((if_f g3).trans rfl) ?_
  have v5 : xCallM .la 1 f_l_odd_depth 2 (xNil) [sc, .int cell, p4, .int n, R, tie, .str w, due, .int (k : Nat), x9, x10] = .ok (d, [sc, .int cell, p5, .int n, R, tie, .str w, due, .int (k : Nat), x9, x10]) := xcallM_ok (ds := []) (ρ' := [sc, .int cell, p4, .int n, R, tie, .str w, due, .int (k : Nat), x9, x10]) rfl rfl rfl hp4.arg h5 hp5.arg
  refine (xIf_f (ρ' := [sc, .int cell, p5, .int n, R, tie, .str w, due, .int (k : Nat), x9, x10]) ?_).trans rfl
  exact vx_not (vx_test (xcallN_ok (ds := [.int n, R, d, tie, dT true false false]) (vx_cons (vx_p rfl) (vx_cons (vx_p rfl) (vx_cons v5 (vx_cons (vx_p rfl) (vx_cons (vx_p rfl) vx_nil))))) rfl w3))
def many : List T3 := (List.range 59).map fun (i : Nat) => ((1 + (i : Int), (0 : Int), (1 : Int)) : T3)
def mD : Dt := .list (many.map enc3)
theorem end1 : f_moves [.int 2, mD, .int 1, enc3 (0, 0, 1)] = .ok (.list [enc3 (0, 0, 1), enc3 (0, 1, 0)]) := by kernel_rfl
theorem end2 : f_moves [.int 2, mD, .int 1, enc3 (60, 0, 1)] = .ok (.list [enc3 (60, 0, 1), enc3 (59, 1, 0)]) := by kernel_rfl
theorem e1n : hNe (.list [enc3 (0, 0, 1), enc3 (0, 1, 0)]) (.list [enc3 (0, 0, 1), enc3 (0, 1, 0)]) = .ok (.bool false) := by kernel_rfl
theorem e2e : hEq (.list [enc3 (60, 0, 1), enc3 (59, 1, 0)]) (.list [enc3 (60, 0, 1), enc3 (59, 1, 0)]) = .ok (.bool true) := by kernel_rfl
theorem law_true (ns : List Int) (hl : ns.length ≤ 63) (_ : ∀ z ∈ ns, Builtin.Int.intBits z ≤ 1048576) : f_law [frzD (ns.map .int)] = .ok (.bool true) := by
  refine fnN_rt ?_
  obtain ⟨ρ', hf, e1, e2, e3, e4, e5, e6, e7, e8, rfl⟩ := forE_ix PyData.int (h := tgN 1) (b := g_law_L1) (0 :: ns)
    (fun _ ρ => ∃ e1 e2 e3 e4 e5 e6 e7 e8, ρ = [frzD (ns.map .int), e1, e2, e3, e4, e5, e6, e7, e8, .none, .none])
    (ρ := [frzD (ns.map .int), .none, .none, .none, .none, .none, .none, .none, .none, .none, .none]) ⟨_, _, _, _, _, _, _, _, rfl⟩ (by
      rintro i ρ hi ⟨e1, e2, e3, e4, e5, e6, e7, e8, rfl⟩
      obtain ⟨f2, f3, f4, f5, f6, f7, f8, h1⟩ := body_ok (frzD (ns.map .int)) (0 :: ns)[i] e2 e3 e4 e5 e6 e7 e8 .none .none
      exact ⟨_, _, rfl, .inl h1, _, f2, f3, f4, f5, f6, f7, f8, rfl⟩)
  show g_law [frzD (ns.map .int), .none, .none, .none, .none, .none, .none, .none, .none, .none, .none] = _
  unfold g_law
  have c0 : gOp hCatZ (gLst (gCons (gC (.int (0))) (gNil))) (gVar 0) [frzD (ns.map .int), .none, .none, .none, .none, .none, .none, .none, .none, .none, .none] = .ok (.list ((0 :: ns).map .int)) := vg_op (x := .list [.int 0]) rfl rfl (hCatZ_frz [.int 0] (ns.map .int) (by rw [List.length_map]; simp; omega))
  refine seq_step (for_ok (seqG_l c0) hf) ?_
  have c1 : gLc (gRng2 (gCons (gC (.int (1))) (gCons (gC (.int (60))) (gNil)))) (tgN 10) (gYes) (gTup (gCons (gVar 10) (gCons (gC (.int (0))) (gCons (gC (.int (1))) (gNil))))) [frzD (ns.map .int), e1, e2, e3, e4, e5, e6, e7, e8, .none, .none] = .ok mD := by
    have := gLc_map (fun (i : Nat) => PyData.int (1 + (i : Int))) (fun _ => true) (fun (i : Nat) => enc3 ((1 + (i : Int), (0 : Int), (1 : Int)) : T3)) (gi := gRng2 (gCons (gC (.int (1))) (gCons (gC (.int (60))) (gNil)))) (h := tgN 10) (gt := gYes) (ge := gTup (gCons (gVar 10) (gCons (gC (.int (0))) (gCons (gC (.int (1))) (gNil))))) (ρ := [frzD (ns.map .int), e1, e2, e3, e4, e5, e6, e7, e8, .none, .none]) (xs := List.range 59) (by
      refine (rng2_ok (i := 1) (j := 60) rfl (by omega) (by omega) (by omega) (by omega)).trans ?_
      rfl) (by rw [List.length_range]; omega) fun i hi => ⟨_, rfl, rfl, fun _ => gTup_ok (xs := [.int (1 + (i : Int)), .int 0, .int 1]) rfl (by simp)⟩
    rw [this, List.filter_eq_self.mpr (fun _ _ => rfl)]
    unfold mD many
    rw [List.map_map]
    rfl
  refine seq_step (set_ok c1) ?_
  dsimp only [List.set]
  have hl1 : one hListOf [mD] = .ok mD := rfl
  have q1 := end1
  have q2 := end2
  generalize mD = D at *
  have c2 : gCB (one hListOf) (gCons (gVar 9) gNil) [frzD (ns.map .int), e1, e2, e3, e4, e5, e6, e7, e8, D, .none] = .ok D := hl1
  have c3 : gCallN 4 f_moves (gCons (gC (.int (2))) (gCons (gCB (one hListOf) (gCons (gVar 9) gNil)) (gCons (gC (.int (1))) (gCons (gTup (gCons (gC (.int (0))) (gCons (gC (.int (0))) (gCons (gC (.int (1))) (gNil))))) (gNil))))) [frzD (ns.map .int), e1, e2, e3, e4, e5, e6, e7, e8, D, .none] = .ok (.list [enc3 (0, 0, 1), enc3 (0, 1, 0)]) := callN_ok (ds := [.int 2, D, .int 1, enc3 (0, 0, 1)]) (vg_cons rfl (vg_cons c2 (vg_cons rfl (vg_cons rfl rfl)))) rfl q1
  have c4 : gCallN 4 f_moves (gCons (gC (.int (2))) (gCons (gCB (one hListOf) (gCons (gVar 9) gNil)) (gCons (gC (.int (1))) (gCons (gTup (gCons (gC (.int (60))) (gCons (gC (.int (0))) (gCons (gC (.int (1))) (gNil))))) (gNil))))) [frzD (ns.map .int), e1, e2, e3, e4, e5, e6, e7, e8, D, .none] = .ok (.list [enc3 (60, 0, 1), enc3 (59, 1, 0)]) := callN_ok (ds := [.int 2, D, .int 1, enc3 (60, 0, 1)]) (vg_cons rfl (vg_cons c2 (vg_cons rfl (vg_cons rfl rfl)))) rfl q2
  refine seq_step ((if_f (vg_test (vg_op (y := .list [enc3 (0, 0, 1), enc3 (0, 1, 0)]) c3 rfl e1n))).trans rfl) ?_
  exact ret_ok (vg_op (y := .list [enc3 (60, 0, 1), enc3 (59, 1, 0)]) c4 rfl e2e)
end K16
end T_K16H
open PySem PySem.W PyProof.Rows
set_option maxRecDepth 100000 in
set_option maxHeartbeats 0 in
theorem PySem.Challenge.cw_sinceply_k16_moves_refused_holds : PySem.Challenge.rw_sinceply_k16_moves_refused.Holds := by
  w_on; o_law; k_head; (case hw => w_witness2)
  k_fill
  refine Sim.walk_ofG (l := PySem.Challenge.rw_sinceply_k16_moves_refused) (n := 63) (k := 9) (g := K16.f_law) rfl (by decide) rfl ⟨rfl, by decide, by decide⟩ (fun w h Y => PySem.W.kIn_of Y) ?F K16.law_true
  case F =>
    intro w mg fa h KX G hmg
    refine' (K16.all_mk KX G hmg ?a0 ?l0 ?c0 ?k0 ?a1 ?l1 ?c1 ?k1 ?a2 ?l2 ?c2 ?k2 ?a3 ?l3 ?c3 ?k3 ?a4 ?l4 ?c4 ?k4 ?a5 ?l5 ?c5 ?k5 ?a6 ?l6 ?c6 ?k6 ?a7 ?l7 ?c7 ?k7 ?a8 ?l8 ?c8 ?k8 ?a9 ?l9 ?c9 ?k9 ?a10 ?l10 ?c10 ?k10 ?a11 ?l11 ?c11 ?k11 ?a12 ?l12 ?c12 ?k12 ?a13 ?l13 ?c13 ?k13 ?a14 ?l14 ?c14 ?k14 ?a15 ?l15 ?c15 ?k15 ?a16 ?l16 ?c16 ?k16 ?a17 ?l17 ?c17 ?k17 ?a18 ?l18 ?c18 ?k18 ?a19 ?l19 ?c19 ?k19 ?a20 ?l20 ?c20 ?k20 ?a21 ?l21 ?c21 ?k21 ?a22 ?l22 ?c22 ?k22 ?a23 ?l23 ?c23 ?k23 ?a24 ?l24 ?c24 ?k24 ?a25 ?l25 ?c25 ?k25 ?a26 ?l26 ?c26 ?k26 ?a27 ?l27 ?c27 ?k27 ?a28 ?l28 ?c28 ?k28 ?z_isinstance ?z_int ?z_bool ?z_tuple ?z_len ?z_list ?z_all ?z_range ?z_min ?z_max ?z_enumerate ?z_reversed ?z_zip ?z_abs ?z_ValueError ?z_str ?y_LAST_MOMENT ?y_MOST_TIES ?y_MOST_LAYERS ?u1_NoLayers ?u2_NoLayers ?u3_NoLayers ?u4_NoLayers ?u5_NoLayers ?u6_NoLayers ?u7_NoLayers ?u8_NoLayers ?u9_NoLayers ?uQ_NoLayers ?u1_NoTies ?u2_NoTies ?u3_NoTies ?u4_NoTies ?u5_NoTies ?u6_NoTies ?u7_NoTies ?u8_NoTies ?u9_NoTies ?uQ_NoTies ?u1_Clash ?u2_Clash ?u3_Clash ?u4_Clash ?u5_Clash ?u6_Clash ?u7_Clash ?u8_Clash ?u9_Clash ?u1_PlyError ?u2_PlyError ?u3_PlyError ?u4_PlyError ?u5_PlyError ?u6_PlyError ?u7_PlyError ?u8_PlyError ?u9_PlyError ?u1_Unlike ?u2_Unlike ?u3_Unlike ?u4_Unlike ?u5_Unlike ?u6_Unlike ?u7_Unlike ?u8_Unlike ?u9_Unlike ?u1_NoText ?u2_NoText ?u3_NoText ?u4_NoText ?u5_NoText ?u6_NoText ?u7_NoText ?u8_NoText ?u9_NoText ?u1_NoRow ?u2_NoRow ?u3_NoRow ?u4_NoRow ?u5_NoRow ?u6_NoRow ?u7_NoRow ?u8_NoRow ?u9_NoRow ?u1_NoPlaces ?u2_NoPlaces ?u3_NoPlaces ?u4_NoPlaces ?u5_NoPlaces ?u6_NoPlaces ?u7_NoPlaces ?u8_NoPlaces ?u9_NoPlaces ?u1_NoPaper ?u2_NoPaper ?u3_NoPaper ?u4_NoPaper ?u5_NoPaper ?u6_NoPaper ?u7_NoPaper ?u8_NoPaper ?u9_NoPaper ?u1_NoPair ?u2_NoPair ?u3_NoPair ?u4_NoPair ?u5_NoPair ?u6_NoPair ?u7_NoPair ?u8_NoPair ?u9_NoPair ?u1_NoNet ?u2_NoNet ?u3_NoNet ?u4_NoNet ?u5_NoNet ?u6_NoNet ?u7_NoNet ?u8_NoNet ?u9_NoNet ?u1_NoDeed ?u2_NoDeed ?u3_NoDeed ?u4_NoDeed ?u5_NoDeed ?u6_NoDeed ?u7_NoDeed ?u8_NoDeed ?u9_NoDeed ?w1_Clash ?w2_Clash ?w3_Clash ?w4_Clash ?w5_Clash ?w6_Clash ?w7_Clash ?w8_Clash ?w9_Clash ?wA_Clash ?wB_Clash ?un ?ut ?uS_Clash_Unlike ?uS_Clash_Clash ?uS_Clash_NoText ?uS_Clash_NoRow ?uS_Clash_NoPlaces ?uS_Clash_NoPaper ?uS_Clash_NoPair ?uS_Clash_NoNet ?uS_Clash_NoDeed ?uS_NoTies_Unlike ?uS_NoTies_NoTies ?uS_NoTies_NoText ?uS_NoTies_NoRow ?uS_NoTies_NoPlaces ?uS_NoTies_NoPaper ?uS_NoTies_NoPair ?uS_NoTies_NoNet ?uS_NoTies_NoDeed ?uS_NoLayers_Unlike ?uS_NoLayers_NoLayers ?uS_NoLayers_NoText ?uS_NoLayers_NoRow ?uS_NoLayers_NoPlaces ?uS_NoLayers_NoPaper ?uS_NoLayers_NoPair ?uS_NoLayers_NoNet ?uS_NoLayers_NoDeed ?uS_Clash_ValueError ?uS_NoTies_ValueError ?uS_NoLayers_ValueError ?uS_Clash_NoLayers ?uS_NoTies_NoLayers ?uS_Clash_NoTies ?uS_NoLayers_NoTies ?uS_NoTies_Clash ?uS_NoLayers_Clash ?uS_Clash_PlyError ?uS_NoTies_PlyError ?uS_NoLayers_PlyError)
    (case a0 => k_is); (case l0 => k_is); (case c0 => k_is); (case k0 => k_is); (case a1 => k_is); (case l1 => k_is); (case c1 => k_is); (case k1 => k_is); (case a2 => k_is); (case l2 => k_is); (case c2 => k_is); (case k2 => k_is); (case a3 => k_is); (case l3 => k_is); (case c3 => k_is); (case k3 => k_is); (case a4 => k_is); (case l4 => k_is); (case c4 => k_is); (case k4 => k_is); (case a5 => k_is); (case l5 => k_is); (case c5 => k_is); (case k5 => k_is); (case a6 => k_is); (case l6 => k_is); (case c6 => k_is); (case k6 => k_is); (case a7 => k_is); (case l7 => k_is); (case c7 => k_is); (case k7 => k_is); (case a8 => k_is); (case l8 => k_is); (case c8 => k_is); (case k8 => k_is); (case a9 => k_is); (case l9 => k_is); (case c9 => k_is); (case k9 => k_is); (case a10 => k_is); (case l10 => k_is); (case c10 => k_is); (case k10 => k_is); (case a11 => k_is); (case l11 => k_is); (case c11 => k_is); (case k11 => k_is); (case a12 => k_is); (case l12 => k_is); (case c12 => k_is); (case k12 => k_is); (case a13 => k_is); (case l13 => k_is); (case c13 => k_is); (case k13 => k_is); (case a14 => k_is); (case l14 => k_is); (case c14 => k_is); (case k14 => k_is); (case a15 => k_is); (case l15 => k_is); (case c15 => k_is); (case k15 => k_is); (case a16 => k_is); (case l16 => k_is); (case c16 => k_is); (case k16 => k_is); (case a17 => k_is); (case l17 => k_is); (case c17 => k_is); (case k17 => k_is); (case a18 => k_is); (case l18 => k_is); (case c18 => k_is); (case k18 => k_is); (case a19 => k_is); (case l19 => k_is); (case c19 => k_is); (case k19 => k_is); (case a20 => k_is); (case l20 => k_is); (case c20 => k_is); (case k20 => k_is); (case a21 => k_is); (case l21 => k_is); (case c21 => k_is); (case k21 => k_is); (case a22 => k_is); (case l22 => k_is); (case c22 => k_is); (case k22 => k_is); (case a23 => k_is); (case l23 => k_is); (case c23 => k_is); (case k23 => k_is); (case a24 => k_is); (case l24 => k_is); (case c24 => k_is); (case k24 => k_is); (case a25 => k_is); (case l25 => k_is); (case c25 => k_is); (case k25 => k_is); (case a26 => k_is); (case l26 => k_is); (case c26 => k_is); (case k26 => k_is); (case a27 => k_is); (case l27 => k_is); (case c27 => k_is); (case k27 => k_is); (case a28 => k_is); (case l28 => k_is); (case c28 => k_is); (case k28 => k_is); (case z_isinstance => k_is); (case z_int => k_is); (case z_bool => k_is); (case z_tuple => k_is); (case z_len => k_is); (case z_list => k_is); (case z_all => k_is); (case z_range => k_is); (case z_min => k_is); (case z_max => k_is); (case z_enumerate => k_is); (case z_reversed => k_is); (case z_zip => k_is); (case z_abs => k_is); (case z_ValueError => k_is); (case z_str => k_is); (case y_LAST_MOMENT => k_is); (case y_MOST_TIES => k_is); (case y_MOST_LAYERS => k_is); (case u1_NoLayers => k_is); (case u2_NoLayers => k_is); (case u3_NoLayers => k_is); (case u4_NoLayers => k_is); (case u5_NoLayers => k_is); (case u6_NoLayers => k_is); (case u7_NoLayers => k_is); (case u8_NoLayers => k_is); (case u9_NoLayers => k_is); (case uQ_NoLayers => k_exc); (case u1_NoTies => k_is); (case u2_NoTies => k_is); (case u3_NoTies => k_is); (case u4_NoTies => k_is); (case u5_NoTies => k_is); (case u6_NoTies => k_is); (case u7_NoTies => k_is); (case u8_NoTies => k_is); (case u9_NoTies => k_is); (case uQ_NoTies => k_exc); (case u1_Clash => k_is); (case u2_Clash => k_is); (case u3_Clash => k_is); (case u4_Clash => k_is); (case u5_Clash => k_is); (case u6_Clash => k_is); (case u7_Clash => k_is); (case u8_Clash => k_is); (case u9_Clash => k_is); (case u1_PlyError => k_is); (case u2_PlyError => k_is); (case u3_PlyError => k_is); (case u4_PlyError => k_is); (case u5_PlyError => k_is); (case u6_PlyError => k_is); (case u7_PlyError => k_is); (case u8_PlyError => k_is); (case u9_PlyError => k_is); (case u1_Unlike => k_is); (case u2_Unlike => k_is); (case u3_Unlike => k_is); (case u4_Unlike => k_is); (case u5_Unlike => k_is); (case u6_Unlike => k_is); (case u7_Unlike => k_is); (case u8_Unlike => k_is); (case u9_Unlike => k_is); (case u1_NoText => k_is); (case u2_NoText => k_is); (case u3_NoText => k_is); (case u4_NoText => k_is); (case u5_NoText => k_is); (case u6_NoText => k_is); (case u7_NoText => k_is); (case u8_NoText => k_is); (case u9_NoText => k_is); (case u1_NoRow => k_is); (case u2_NoRow => k_is); (case u3_NoRow => k_is); (case u4_NoRow => k_is); (case u5_NoRow => k_is); (case u6_NoRow => k_is); (case u7_NoRow => k_is); (case u8_NoRow => k_is); (case u9_NoRow => k_is); (case u1_NoPlaces => k_is); (case u2_NoPlaces => k_is); (case u3_NoPlaces => k_is); (case u4_NoPlaces => k_is); (case u5_NoPlaces => k_is); (case u6_NoPlaces => k_is); (case u7_NoPlaces => k_is); (case u8_NoPlaces => k_is); (case u9_NoPlaces => k_is); (case u1_NoPaper => k_is); (case u2_NoPaper => k_is); (case u3_NoPaper => k_is); (case u4_NoPaper => k_is); (case u5_NoPaper => k_is); (case u6_NoPaper => k_is); (case u7_NoPaper => k_is); (case u8_NoPaper => k_is); (case u9_NoPaper => k_is); (case u1_NoPair => k_is); (case u2_NoPair => k_is); (case u3_NoPair => k_is); (case u4_NoPair => k_is); (case u5_NoPair => k_is); (case u6_NoPair => k_is); (case u7_NoPair => k_is); (case u8_NoPair => k_is); (case u9_NoPair => k_is); (case u1_NoNet => k_is); (case u2_NoNet => k_is); (case u3_NoNet => k_is); (case u4_NoNet => k_is); (case u5_NoNet => k_is); (case u6_NoNet => k_is); (case u7_NoNet => k_is); (case u8_NoNet => k_is); (case u9_NoNet => k_is); (case u1_NoDeed => k_is); (case u2_NoDeed => k_is); (case u3_NoDeed => k_is); (case u4_NoDeed => k_is); (case u5_NoDeed => k_is); (case u6_NoDeed => k_is); (case u7_NoDeed => k_is); (case u8_NoDeed => k_is); (case u9_NoDeed => k_is); (case w1_Clash => k_is); (case w2_Clash => k_is); (case w3_Clash => k_is); (case w4_Clash => k_is); (case w5_Clash => k_is); (case w6_Clash => k_is); (case w7_Clash => k_is); (case w8_Clash => k_is); (case w9_Clash => k_is); (case wA_Clash => k_is); (case wB_Clash => k_is); (case un => k_is); (case ut => k_is); (case uS_Clash_Unlike => k_is); (case uS_Clash_Clash => k_is); (case uS_Clash_NoText => k_is); (case uS_Clash_NoRow => k_is); (case uS_Clash_NoPlaces => k_is); (case uS_Clash_NoPaper => k_is); (case uS_Clash_NoPair => k_is); (case uS_Clash_NoNet => k_is); (case uS_Clash_NoDeed => k_is); (case uS_NoTies_Unlike => k_is); (case uS_NoTies_NoTies => k_is); (case uS_NoTies_NoText => k_is); (case uS_NoTies_NoRow => k_is); (case uS_NoTies_NoPlaces => k_is); (case uS_NoTies_NoPaper => k_is); (case uS_NoTies_NoPair => k_is); (case uS_NoTies_NoNet => k_is); (case uS_NoTies_NoDeed => k_is); (case uS_NoLayers_Unlike => k_is); (case uS_NoLayers_NoLayers => k_is); (case uS_NoLayers_NoText => k_is); (case uS_NoLayers_NoRow => k_is); (case uS_NoLayers_NoPlaces => k_is); (case uS_NoLayers_NoPaper => k_is); (case uS_NoLayers_NoPair => k_is); (case uS_NoLayers_NoNet => k_is); (case uS_NoLayers_NoDeed => k_is); (case uS_Clash_ValueError => k_is); (case uS_NoTies_ValueError => k_is); (case uS_NoLayers_ValueError => k_is); (case uS_Clash_NoLayers => k_is); (case uS_NoTies_NoLayers => k_is); (case uS_Clash_NoTies => k_is); (case uS_NoLayers_NoTies => k_is); (case uS_NoTies_Clash => k_is); (case uS_NoLayers_Clash => k_is); (case uS_Clash_PlyError => k_is); (case uS_NoTies_PlyError => k_is); (case uS_NoLayers_PlyError => k_is)
