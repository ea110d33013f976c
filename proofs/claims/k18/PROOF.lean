import PyProof.Rows.All
import Wide.All
import OpenK.AllK
import Wide.FinOn
import HandS.EndBits
import HandS.ForMost
import HandS.Walk
import HandS.Wide
import HandS.ForExc
import HandS.ExcValue
import HandS.ExcCtx
import HandS.SortInts
import HandS.Deep
import HandS.WideBits
import HandS.TupAny
import HandS.IsInst
import HandS.Iter
import HandS.Rev
import HandS.RevTup
import HandS.Conv
import PyProof.ListRange
import HandS.Dict
import HandS.Style
import HandS.TupSets
import HandS.SetFor
import HandS.Defaults
import HandS.ExcIs
import PyProof.ReprRoads
import HandS.SortKw
import KE.SortKeyHeap
import KE.KTupSum
import PySem.Challenge.RW_sinceply_k18_nets_known
import PyProof.ReprLen
import KE.BitLaws
section T_SimA
set_option Elab.async false
set_option linter.all false
set_option maxRecDepth 100000
namespace Sim
open PySem PySem.Spec L2
open PyProof.Rows hiding St
abbrev Dt := PyData
def Fz (K : PySem.W.Frag) (H : Hp) (a : Addr) (xs : List V) : Prop :=
  (∃ o, H a = some (.frz o (.lst xs))) ∨
    ∃ (o : Obj) (its : Array Value) (n : Nat), K.lookup a = some o ∧ o.cls = .type "list" ∧ o.dict = none ∧ o.data = .seq its n ∧ its.size ≤ sizeLine ∧ Vals xs its.toList
def keyD : Key → Dt
  | .inl i => .int i
  | .inr x => .str x
abbrev exnM : Option Int → Dt
  | none => .none
  | some i => .int i
abbrev frzD (ds : List Dt) : Dt := .dict [(.bool true, .list ds)]
def exnL : List (Dt × Dt) → Bool
  | (.none, _) :: _ => true
  | (.bool _, _) :: _ => true
  | _ => false
def ExH (C : Value) (d : Option Addr) (a : Addr) : HO := .ext fun h => ∃ (oe : Obj) (vs : Array Value), h.get? a = some oe ∧ L2N.Zn C d oe ∧ oe.data = .fields vs
def XdAt (H : Hp) (d : Option Addr) (m : Option Int) : Prop := match m with
  | none => d = none
  | some i => ∃ dd, d = some dd ∧ H dd = some (.xd [("moment", .int i)])
mutual
inductive Rp (K : PySem.W.Frag) (F : Addr → Prop) (H : Hp) : V → Dt → Prop
  | non : Rp K F H .non .none
  | bl (b : Bool) : Rp K F H (.bl b) (.bool b)
  | int (i : Int) : Rp K F H (.int i) (.int i)
  | str (x : Str) : Rp K F H (.str x) (.str x)
  | lst {a : Addr} {xs : List V} {ds : List Dt} : H a = some (.lst xs) → F a → RpA K F H xs ds → Rp K F H (.ref a) (.list ds)
  | fz {a : Addr} {xs : List V} {ds : List Dt} : Fz K H a xs → RpA K F H xs ds → Rp K F H (.ref a) (.dict [(.bool true, .list ds)])
  | tup {a : Addr} {xs : List V} {ds : List Dt} : SqT K H a xs → RpA K F H xs ds → Rp K F H (.ref a) (.tuple ds)
  | dic {a : Addr} {kvs : List (Key × V)} {es : List (Dt × Dt)} : H a = some (.dK kvs) → F a → kvs.map (fun kv => keyD kv.1) = es.map (fun e => e.1) → RpA K F H (kvs.map fun kv => kv.2) (es.map fun e => e.2) → Rp K F H (.ref a) (.dict es)
  | exn {a C : Addr} {cls : Str} {d : Option Addr} {m : Option Int} : PySem.W.nsIn K mainGlobals cls = some (some (.ref C)) → H a = some (ExH (.ref C) d a) → XdAt H d m → Rp K F H (.ref a) (.dict [(.none, .str cls), (.none, exnM m)])
inductive RpA (K : PySem.W.Frag) (F : Addr → Prop) (H : Hp) : List V → List Dt → Prop
  | nil : RpA K F H [] []
  | cons {v : V} {vs : List V} {d : Dt} {ds : List Dt} : Rp K F H v d → RpA K F H vs ds → RpA K F H (v :: vs) (d :: ds)
end
section
variable {K : PySem.W.Frag} {F F' : Addr → Prop} {H H' : Hp} {v : V} {d : Dt} {vs : List V} {ds : List Dt} {a p : Addr} {xs : List V}
theorem Fz.same (e : Same H H') (h : Fz K H a xs) : Fz K H' a xs := by
  rcases h with ⟨o, h⟩ | h
  · exact .inl ⟨o, e _ _ h⟩
  · exact .inr h
theorem Fz.sql (h : Fz K H a xs) : SqL K H a xs := by
  rcases h with ⟨o, h⟩ | h
  · exact .inl (.inr ⟨o, h⟩)
  · exact .inr h
theorem sqt_same (e : Same H H') (h : SqT K H a xs) : SqT K H' a xs := by
  rcases h with (h | ⟨o, h⟩) | h
  · exact .inl (.inl (e _ _ h))
  · exact .inl (.inr ⟨o, e _ _ h⟩)
  · exact .inr h
theorem XdAt.same {d : Option Addr} {m : Option Int} (e : Same H H') (x : XdAt H d m) : XdAt H' d m := by
  cases m with
  | none => exact x
  | some i =>
    obtain ⟨dd, h1, h2⟩ := x
    exact ⟨dd, h1, e _ _ h2⟩
mutual
theorem Rp.mono (e : Same H H') (f : ∀ a, F a → H a ≠ none → F' a) : ∀ {v : V} {d : Dt}, Rp K F H v d → Rp K F' H' v d
  | _, _, .non => .non
  | _, _, .bl b => .bl b
  | _, _, .int i => .int i
  | _, _, .str x => .str x
  | _, _, .lst h fa r => .lst (e _ _ h) (f _ fa (by rw [h]; exact fun z => nomatch z)) (RpA.mono e f r)
  | _, _, .fz h r => .fz (h.same e) (RpA.mono e f r)
  | _, _, .tup h r => .tup (sqt_same e h) (RpA.mono e f r)
  | _, _, .dic h fa hk r => .dic (e _ _ h) (f _ fa (by rw [h]; exact fun z => nomatch z)) hk (RpA.mono e f r)
  | _, _, .exn n h x => .exn n (e _ _ h) (x.same e)
theorem RpA.mono (e : Same H H') (f : ∀ a, F a → H a ≠ none → F' a) : ∀ {vs : List V} {ds : List Dt}, RpA K F H vs ds → RpA K F' H' vs ds
  | _, _, .nil => .nil
  | _, _, .cons h r => .cons (Rp.mono e f h) (RpA.mono e f r)
end
def Mutb (o : HO) : Prop := match o with
  | .lst _ => True
  | .dK _ => True
  | .dT _ => True
  | _ => False
theorem exH_ne {o : HO} {C : Value} {d : Option Addr} (hp : H p = some o) (m : Mutb o) (h : H a = some (ExH C d a)) : a ≠ p := fun z => by
  subst z
  rw [hp] at h
  cases h
  exact m
theorem XdAt.updM {o o' : HO} {d : Option Addr} {m : Option Int} (hp : H p = some o) (mu : Mutb o) (x : XdAt H d m) : XdAt (upd H p o') d m := by
  cases m with
  | none => exact x
  | some i =>
    obtain ⟨dd, h1, h2⟩ := x
    refine ⟨dd, h1, ?_⟩
    rw [upd_ne ?_]
    · exact h2
    · intro z
      subst z
      rw [hp] at h2
      cases h2
      exact mu
theorem Fz.updM {o o' : HO} (hp : H p = some o) (m : Mutb o) (h : Fz K H a xs) : Fz K (upd H p o') a xs := by
  rcases h with ⟨q, h⟩ | h
  · refine .inl ⟨q, ?_⟩
    rw [upd_ne ?_]
    · exact h
    · intro z
      subst z
      rw [hp] at h
      cases h
      exact m
  · exact .inr h
theorem sqt_updM {o o' : HO} (hp : H p = some o) (m : Mutb o) (h : SqT K H a xs) : SqT K (upd H p o') a xs := by
  rcases h with (h | ⟨q, h⟩) | h
  · refine .inl (.inl ?_)
    rw [upd_ne ?_]
    · exact h
    · intro z
      subst z
      rw [hp] at h
      cases h
      exact m
  · refine .inl (.inr ⟨q, ?_⟩)
    rw [upd_ne ?_]
    · exact h
    · intro z
      subst z
      rw [hp] at h
      cases h
      exact m
  · exact .inr h
mutual
theorem Rp.updM {o o' : HO} (hp : H p = some o) (m : Mutb o) (nf : ∀ a, F a → a ≠ p) : ∀ {v : V} {d : Dt}, Rp K F H v d → Rp K F (upd H p o') v d
  | _, _, .non => .non
  | _, _, .bl b => .bl b
  | _, _, .int i => .int i
  | _, _, .str x => .str x
  | _, _, .lst h fa r => .lst (by rw [upd_ne (nf _ fa)]; exact h) fa (RpA.updM hp m nf r)
  | _, _, .fz h r => .fz (h.updM hp m) (RpA.updM hp m nf r)
  | _, _, .tup h r => .tup (sqt_updM hp m h) (RpA.updM hp m nf r)
  | _, _, .dic h fa hk r => .dic (by rw [upd_ne (nf _ fa)]; exact h) fa hk (RpA.updM hp m nf r)
  | _, _, .exn n h x => .exn n (by rw [upd_ne (exH_ne hp m h)]; exact h) (x.updM hp m)
theorem RpA.updM {o o' : HO} (hp : H p = some o) (m : Mutb o) (nf : ∀ a, F a → a ≠ p) : ∀ {vs : List V} {ds : List Dt}, RpA K F H vs ds → RpA K F (upd H p o') vs ds
  | _, _, .nil => .nil
  | _, _, .cons h r => .cons (Rp.updM hp m nf h) (RpA.updM hp m nf r)
end
mutual
theorem Rp.dp : ∀ {v : V} {d : Dt}, Rp K F H v d → PyData.canLay0 d = true → Dp K H v d
  | _, _, .non, _ => .non
  | _, _, .bl b, _ => .bl b
  | _, _, .int i, _ => .int i
  | _, _, .str x, _ => .str x
  | _, _, .lst h _ r, c => .lst (.inl (.inl h)) (RpA.dp r (by simpa [PyData.canLay0] using c))
  | _, _, .fz _ _, c => by simp [PyData.canLay0] at c
  | _, _, .tup h r, c => .tup h (RpA.dp r (by simpa [PyData.canLay0] using c))
  | _, _, .dic _ _ _ _, c => by simp [PyData.canLay0] at c
  | _, _, .exn _ _ _, c => by simp [PyData.canLay0] at c
theorem RpA.dp : ∀ {vs : List V} {ds : List Dt}, RpA K F H vs ds → PyData.canLayAll0 ds = true → DpAll K H vs ds
  | _, _, .nil, _ => .nil
  | _, _, .cons h r, c => by
    unfold PyData.canLayAll0 at c
    rw [Bool.and_eq_true] at c
    exact .cons (Rp.dp h c.1) (RpA.dp r c.2)
end
theorem shaped_lay {d : Dt} (h : SeqAt.shaped d = true) : PyData.canLay0 d = true := by
  unfold SeqAt.shaped at h
  rw [Bool.and_eq_true] at h
  exact h.1
theorem RpA.length : ∀ {vs : List V} {ds : List Dt}, RpA K F H vs ds → vs.length = ds.length
  | _, _, .nil => rfl
  | _, _, .cons _ r => by rw [List.length_cons, List.length_cons, r.length]
theorem RpA.get : ∀ {vs : List V} {ds : List Dt} {i : Nat} {v : V}, RpA K F H vs ds → vs[i]? = some v → ∃ d, ds[i]? = some d ∧ Rp K F H v d
  | _, _, _, _, .nil, e => by simp at e
  | _, _, 0, _, .cons h _, e => by simp at e; subst e; exact ⟨_, rfl, h⟩
  | _, _, i + 1, v, .cons _ r, e => by
    obtain ⟨d, h1, h2⟩ := RpA.get (i := i) (v := v) r (by simpa using e)
    exact ⟨d, by simpa using h1, h2⟩
theorem RpA.get' : ∀ {vs : List V} {ds : List Dt} {i : Nat} {d : Dt}, RpA K F H vs ds → ds[i]? = some d → ∃ v, vs[i]? = some v ∧ Rp K F H v d
  | _, _, _, _, .nil, e => by simp at e
  | _, _, 0, _, .cons h _, e => by simp at e; subst e; exact ⟨_, rfl, h⟩
  | _, _, i + 1, d, .cons _ r, e => by
    obtain ⟨v, h1, h2⟩ := RpA.get' (i := i) (d := d) r (by simpa using e)
    exact ⟨v, by simpa using h1, h2⟩
theorem RpA.append : ∀ {xs ys : List V} {ds es : List Dt}, RpA K F H xs ds → RpA K F H ys es → RpA K F H (xs ++ ys) (ds ++ es)
  | _, _, _, _, .nil, s => s
  | _, _, _, _, .cons h r, s => .cons h (RpA.append r s)
theorem RpA.take : ∀ {xs : List V} {ds : List Dt} (n : Nat), RpA K F H xs ds → RpA K F H (xs.take n) (ds.take n)
  | _, _, 0, _ => .nil
  | _, _, _ + 1, .nil => .nil
  | _, _, n + 1, .cons h r => .cons h (RpA.take n r)
theorem RpA.drop : ∀ {xs : List V} {ds : List Dt} (n : Nat), RpA K F H xs ds → RpA K F H (xs.drop n) (ds.drop n)
  | _, _, 0, r => r
  | _, _, _ + 1, .nil => .nil
  | _, _, n + 1, .cons _ r => RpA.drop n r
theorem RpA.set {x : V} {d : Dt} (h : Rp K F H x d) : ∀ {xs : List V} {ds : List Dt} (i : Nat), RpA K F H xs ds → RpA K F H (xs.set i x) (ds.set i d)
  | _, _, _, .nil => .nil
  | _, _, 0, .cons _ r => .cons h r
  | _, _, i + 1, .cons q r => .cons q (RpA.set h i r)
theorem RpA.reverse {xs : List V} {ds : List Dt} (h : RpA K F H xs ds) : RpA K F H xs.reverse ds.reverse := by
  induction xs generalizing ds with
  | nil => cases h; exact .nil
  | cons x xs ih =>
    cases h with
    | cons q r =>
      rw [List.reverse_cons, List.reverse_cons]
      exact (ih r).append (.cons q .nil)
theorem RpA.flat {xs : List V} {ds : List Dt} (h : RpA K F H xs ds) : ∀ k : Nat, RpA K F H (List.replicate k xs).flatten (List.replicate k ds).flatten
  | 0 => .nil
  | k + 1 => by
    rw [List.replicate_succ, List.replicate_succ, List.flatten_cons, List.flatten_cons]
    exact h.append (RpA.flat h k)
mutual
def pure1 : Dt → Bool
  | .list _ => false
  | .dict _ => false
  | .tuple xs => pureA xs
  | _ => true
def pureA : List Dt → Bool
  | [] => true
  | x :: xs => pure1 x && pureA xs
end
mutual
theorem Rp.pure : ∀ {v : V} {d : Dt}, Rp K F H v d → pure1 d = true → Rp K F' H v d
  | _, _, .non, _ => .non
  | _, _, .bl b, _ => .bl b
  | _, _, .int i, _ => .int i
  | _, _, .str x, _ => .str x
  | _, _, .lst h _ r, e => by rw [pure1] at e; cases e
  | _, _, .fz h r, e => by rw [pure1] at e; cases e
  | _, _, .tup h r, e => .tup h (RpA.pure r (by rw [pure1] at e; exact e))
  | _, _, .dic h _ _ r, e => by rw [pure1] at e; cases e
  | _, _, .exn n h x, _ => .exn n h x
theorem RpA.pure : ∀ {vs : List V} {ds : List Dt}, RpA K F H vs ds → pureA ds = true → RpA K F' H vs ds
  | _, _, .nil, _ => .nil
  | _, _, .cons h r, e => by
    rw [pureA, Bool.and_eq_true] at e
    exact .cons (Rp.pure h e.1) (RpA.pure r e.2)
end
theorem Rp.weak (f : ∀ a, F a → F' a) (h : Rp K F H v d) : Rp K F' H v d := h.mono (Same.refl H) fun a fa _ => f a fa
theorem RpA.weak (f : ∀ a, F a → F' a) (h : RpA K F H vs ds) : RpA K F' H vs ds := h.mono (Same.refl H) fun a fa _ => f a fa
theorem Rp.same (e : Same H H') (h : Rp K F H v d) : Rp K F H' v d := h.mono e fun a fa _ => fa
theorem RpA.same (e : Same H H') (h : RpA K F H vs ds) : RpA K F H' vs ds := h.mono e fun a fa _ => fa
end
mutual
inductive Tr (K : PySem.W.Frag) (S : Addr → Prop) (H : Hp) : V → Dt → List Addr → Prop
  | leaf {v : V} {d : Dt} : Rp K (fun _ => False) H v d → Tr K S H v d []
  | lst {a : Addr} {xs : List V} {ds : List Dt} {L : List Addr} : H a = some (.lst xs) → S a → a ∉ L → TrA K S H xs ds L → Tr K S H (.ref a) (.list ds) (a :: L)
  | tup {a : Addr} {xs : List V} {ds : List Dt} {L : List Addr} : SqT K H a xs → TrA K S H xs ds L → Tr K S H (.ref a) (.tuple ds) L
inductive TrA (K : PySem.W.Frag) (S : Addr → Prop) (H : Hp) : List V → List Dt → List Addr → Prop
  | nil : TrA K S H [] [] []
  | cons {v : V} {vs : List V} {d : Dt} {ds : List Dt} {L M : List Addr} : Tr K S H v d L → TrA K S H vs ds M → (∀ a ∈ L, a ∉ M) → TrA K S H (v :: vs) (d :: ds) (L ++ M)
end
section
variable {K : PySem.W.Frag} {S S' : Addr → Prop} {H H' : Hp} {p : Addr}
mutual
theorem Tr.mono (e : Same H H') (f : ∀ a, S a → H a ≠ none → S' a) : ∀ {v : V} {d : Dt} {L : List Addr}, Tr K S H v d L → Tr K S' H' v d L
  | _, _, _, .leaf h => .leaf (h.mono e fun _ z _ => z)
  | _, _, _, .lst h sa n r => .lst (e _ _ h) (f _ sa (by rw [h]; exact fun z => nomatch z)) n (TrA.mono e f r)
  | _, _, _, .tup h r => .tup (sqt_same e h) (TrA.mono e f r)
theorem TrA.mono (e : Same H H') (f : ∀ a, S a → H a ≠ none → S' a) : ∀ {vs : List V} {ds : List Dt} {L : List Addr}, TrA K S H vs ds L → TrA K S' H' vs ds L
  | _, _, _, .nil => .nil
  | _, _, _, .cons h r n => .cons (Tr.mono e f h) (TrA.mono e f r) n
end
mutual
/-- an update elsewhere -/
theorem Tr.updN {o o' : HO} (hp : H p = some o) (m : Mutb o) : ∀ {v : V} {d : Dt} {L : List Addr}, Tr K S H v d L → p ∉ L → Tr K S (upd H p o') v d L
  | _, _, _, .leaf h, _ => .leaf (h.updM hp m fun _ z => z.elim)
  | _, _, _, .lst (a := a) h sa n r, np => .lst (by rw [upd_ne (fun z : a = p => np (by rw [z]; exact List.mem_cons_self))]; exact h) sa n (TrA.updN hp m r fun z => np (List.mem_cons_of_mem _ z))
  | _, _, _, .tup h r, np => .tup (sqt_updM hp m h) (TrA.updN hp m r np)
theorem TrA.updN {o o' : HO} (hp : H p = some o) (m : Mutb o) : ∀ {vs : List V} {ds : List Dt} {L : List Addr}, TrA K S H vs ds L → p ∉ L → TrA K S (upd H p o') vs ds L
  | _, _, _, .nil, _ => .nil
  | _, _, _, .cons h r n, np => .cons (Tr.updN hp m h fun z => np (List.mem_append_left _ z)) (TrA.updN hp m r fun z => np (List.mem_append_right _ z)) n
end
mutual
theorem Tr.rp : ∀ {v : V} {d : Dt} {L : List Addr}, Tr K S H v d L → Rp K S H v d
  | _, _, _, .leaf h => h.weak fun _ z => z.elim
  | _, _, _, .lst h sa _ r => .lst h sa (TrA.rp r)
  | _, _, _, .tup h r => .tup h (TrA.rp r)
theorem TrA.rp : ∀ {vs : List V} {ds : List Dt} {L : List Addr}, TrA K S H vs ds L → RpA K S H vs ds
  | _, _, _, .nil => .nil
  | _, _, _, .cons h r _ => .cons (Tr.rp h) (TrA.rp r)
end
mutual
theorem Tr.mem : ∀ {v : V} {d : Dt} {L : List Addr}, Tr K S H v d L → ∀ a ∈ L, S a ∧ ∃ xs, H a = some (.lst xs)
  | _, _, _, .leaf _ => fun _ z => nomatch z
  | _, _, _, .lst h sa _ r => fun b hb => by
    rcases List.mem_cons.mp hb with z | z
    · subst z; exact ⟨sa, _, h⟩
    · exact TrA.mem r b z
  | _, _, _, .tup _ r => TrA.mem r
theorem TrA.mem : ∀ {vs : List V} {ds : List Dt} {L : List Addr}, TrA K S H vs ds L → ∀ a ∈ L, S a ∧ ∃ xs, H a = some (.lst xs)
  | _, _, _, .nil => fun _ z => nomatch z
  | _, _, _, .cons h r _ => fun b hb => by
    rcases List.mem_append.mp hb with z | z
    · exact Tr.mem h b z
    · exact TrA.mem r b z
end
theorem Tr.same (e : Same H H') {v : V} {d : Dt} {L : List Addr} (h : Tr K S H v d L) : Tr K S H' v d L := h.mono e fun _ z _ => z
theorem Tr.updM {o o' : HO} (hp : H p = some o) (m : Mutb o) (nf : ∀ a, S a → a ≠ p) {v : V} {d : Dt} {L : List Addr} (h : Tr K S H v d L) : Tr K S (upd H p o') v d L := h.updN hp m fun z => nf p (h.mem p z).1 rfl
end
structure Exn where
  cls : Str
  arg : Option Int
inductive O (α : Type) where
  | bad | ok (a : α) | ex (e : Exn)
def bnd {α β : Type} (x : O α) (f : α → O β) : O β := match x with
  | .bad => .bad
  | .ok a => f a
  | .ex e => .ex e
@[simp] theorem bnd_ok {α β : Type} (a : α) (f : α → O β) : bnd (.ok a) f = f a := rfl
@[simp] theorem bnd_bad {α β : Type} (f : α → O β) : bnd .bad f = .bad := rfl
@[simp] theorem bnd_ex {α β : Type} (e : Exn) (f : α → O β) : bnd (.ex e) f = .ex e := rfl
inductive Ct where
  | l | dk | dt | la | ka
def isArg : Ct → Bool
  | .la => true
  | .ka => true
  | _ => false
inductive Kd where
  | no | im (fr : Bool) | own (c : Ct) (fr : Bool) | sl (t : Bool := false)
structure Fm where
  H0 : Hp
  G : Addr → Prop
  Γ : List (List V × List Dt × Bool)
  P : List Addr
  A : Option Addr := none
  /-- the lists of what is sealed -/
  S : List Addr := []
  hS : ∀ a ∈ S, a ∈ P := by exact fun a h => nomatch h
def SlC (K : PySem.W.Frag) (f : Fm) (t : Bool) (H : Hp) (v : V) (d : Dt) : Prop := Rp K (fun a => a ∈ f.S) H v d ∧ (t = true → ∃ L, Tr K (fun a => a ∈ f.S) H v d L)
theorem SlC.same {K : PySem.W.Frag} {f : Fm} {t : Bool} {H H' : Hp} {v : V} {d : Dt} (h : SlC K f t H v d) (e : Same H H') : SlC K f t H' v d := ⟨h.1.same e, fun t => let ⟨L, x⟩ := h.2 t; ⟨L, x.same e⟩⟩
theorem SlC.updM {K : PySem.W.Frag} {f : Fm} {t : Bool} {H : Hp} {p : Addr} {o o' : HO} {v : V} {d : Dt} (h : SlC K f t H v d) (hp : H p = some o) (m : Mutb o) (nf : ∀ a, a ∈ f.S → a ≠ p) : SlC K f t (upd H p o') v d := ⟨h.1.updM hp m nf, fun t => let ⟨L, x⟩ := h.2 t; ⟨L, x.updM hp m nf⟩⟩
def Ow (Δ : List Kd) (σ : St) (a : Addr) : Prop := ∃ (i : Nat) (c : Ct) (fr : Bool), Δ[i]? = some (Kd.own c fr) ∧ σ[i]? = some (some (V.ref a))
def FM (f : Fm) (Δ : List Kd) (σ : St) (av fr : Bool) (a : Addr) : Prop := (av = true → ¬ Ow Δ σ a ∧ a ∉ f.P) ∧ (fr = true → f.G a)
inductive KvA (K : PySem.W.Frag) (F : Addr → Prop) (H : Hp) : List (Key × V) → List (Dt × Dt) → Prop
  | nil : KvA K F H [] []
  | cons {k : Key} {v : V} {d : Dt} {kvs : List (Key × V)} {es : List (Dt × Dt)} : Rp K F H v d → KvA K F H kvs es → KvA K F H ((k, v) :: kvs) ((keyD k, d) :: es)
inductive KtA (K : PySem.W.Frag) (F : Addr → Prop) (H : Hp) : List (List Key × V) → List (Dt × Dt) → Prop
  | nil : KtA K F H [] []
  | cons {k : List Key} {v : V} {d : Dt} {kvs : List (List Key × V)} {es : List (Dt × Dt)} : Rp K F H v d → KtA K F H kvs es → KtA K F H ((k, v) :: kvs) ((.tuple (k.map keyD), d) :: es)
def OwC (K : PySem.W.Frag) (c : Ct) (F : Addr → Prop) (H : Hp) (p : Addr) (d : Dt) : Prop := match c with
  | .l => ∃ vs ds, d = .list ds ∧ H p = some (.lst vs) ∧ RpA K F H vs ds
  | .dk => ∃ kvs es, d = .dict es ∧ H p = some (.dK kvs) ∧ KvA K F H kvs es
  | .dt => ∃ kvs es, d = .dict es ∧ H p = some (.dT kvs) ∧ KtA K F H kvs es
  | .la => ∃ vs ds, d = .list ds ∧ H p = some (.lst vs) ∧ RpA K F H vs ds
  | .ka => ∃ kvs es, d = .dict es ∧ H p = some (.dK kvs) ∧ KvA K F H kvs es
section
variable {K : PySem.W.Frag} {F F' : Addr → Prop} {H H' : Hp} {p q : Addr} {d : Dt} {c : Ct}
theorem KvA.map {kvs es} (f : ∀ v d, Rp K F H v d → Rp K F' H' v d) : KvA K F H kvs es → KvA K F' H' kvs es
  | .nil => .nil
  | .cons h r => .cons (f _ _ h) (KvA.map f r)
theorem KtA.map {kvs es} (f : ∀ v d, Rp K F H v d → Rp K F' H' v d) : KtA K F H kvs es → KtA K F' H' kvs es
  | .nil => .nil
  | .cons h r => .cons (f _ _ h) (KtA.map f r)
theorem RpA.map {vs ds} (f : ∀ v d, Rp K F H v d → Rp K F' H' v d) : RpA K F H vs ds → RpA K F' H' vs ds
  | .nil => .nil
  | .cons h r => .cons (f _ _ h) (RpA.map f r)
theorem OwC.map (hp : ∀ o, H p = some o → H' p = some o) (f : ∀ v d, Rp K F H v d → Rp K F' H' v d) (h : OwC K c F H p d) : OwC K c F' H' p d := by
  cases c with
  | l => obtain ⟨vs, ds, e, h1, h2⟩ := h; exact ⟨vs, ds, e, hp _ h1, h2.map f⟩
  | dk => obtain ⟨vs, ds, e, h1, h2⟩ := h; exact ⟨vs, ds, e, hp _ h1, h2.map f⟩
  | dt => obtain ⟨vs, ds, e, h1, h2⟩ := h; exact ⟨vs, ds, e, hp _ h1, h2.map f⟩
  | la => obtain ⟨vs, ds, e, h1, h2⟩ := h; exact ⟨vs, ds, e, hp _ h1, h2.map f⟩
  | ka => obtain ⟨vs, ds, e, h1, h2⟩ := h; exact ⟨vs, ds, e, hp _ h1, h2.map f⟩
theorem OwC.mutb (h : OwC K c F H p d) : ∃ o, H p = some o ∧ Mutb o := by
  cases c with
  | l => obtain ⟨vs, ds, e, h1, h2⟩ := h; exact ⟨_, h1, trivial⟩
  | dk => obtain ⟨vs, ds, e, h1, h2⟩ := h; exact ⟨_, h1, trivial⟩
  | dt => obtain ⟨vs, ds, e, h1, h2⟩ := h; exact ⟨_, h1, trivial⟩
  | la => obtain ⟨vs, ds, e, h1, h2⟩ := h; exact ⟨_, h1, trivial⟩
  | ka => obtain ⟨vs, ds, e, h1, h2⟩ := h; exact ⟨_, h1, trivial⟩
end
structure R (K : PySem.W.Frag) (f : Fm) (Δ : List Kd) (ρ : List Dt) (σ : St) (H : Hp) : Prop where
  ext : Same f.H0 H
  g0 : ∀ a, f.H0 a = none → f.G a
  lσ : σ.length = Δ.length
  lρ : ρ.length = Δ.length
  inj : ∀ (i j : Nat) (ci : Ct) (fi : Bool) (cj : Ct) (fj : Bool) (p : Addr), Δ[i]? = some (Kd.own ci fi) → Δ[j]? = some (Kd.own cj fj) → σ[i]? = some (some (V.ref p)) → σ[j]? = some (some (V.ref p)) → i = j
  pin : ∀ a ∈ f.P, (∃ o, H a = some o ∧ Mutb o) ∧ ¬ Ow Δ σ a
  gh : ∀ g ∈ f.Γ, RpA K (FM f Δ σ true g.2.2) H g.1 g.2.1
  im : ∀ (i : Nat) (fr : Bool), Δ[i]? = some (Kd.im fr) → ∃ v d, σ[i]? = some (some v) ∧ ρ[i]? = some d ∧ Rp K (FM f Δ σ true fr) H v d
  ow : ∀ (i : Nat) (c : Ct) (fr : Bool), Δ[i]? = some (Kd.own c fr) → ∃ p d, σ[i]? = some (some (V.ref p)) ∧ ρ[i]? = some d ∧ f.H0 p = none ∧ OwC K c (FM f Δ σ true fr) H p d
  ar : ∀ (i : Nat) (c : Ct) (fr : Bool), Δ[i]? = some (Kd.own c fr) → isArg c = true → ∃ p, f.A = some p ∧ σ[i]? = some (some (V.ref p))
  sp : ∀ a ∈ f.S, f.H0 a = none ∧ f.G a
  sl : ∀ (i : Nat) (t : Bool), Δ[i]? = some (Kd.sl t) → ∃ v d, σ[i]? = some (some v) ∧ ρ[i]? = some d ∧ SlC K f t H v d
section
variable {K : PySem.W.Frag} {f : Fm} {Δ : List Kd} {ρ : List Dt} {σ : St} {H H' : Hp} {v : V} {d : Dt} {i : Nat} {p : Addr}
theorem FM.weak {av fr av' fr' : Bool} (h1 : av' = true → av = true) (h2 : fr' = true → fr = true) {a : Addr} (h : FM f Δ σ av fr a) : FM f Δ σ av' fr' a := ⟨fun e => h.1 (h1 e), fun e => h.2 (h2 e)⟩
theorem R.mono (r : R K f Δ ρ σ H) (e : Same H H') : R K f Δ ρ σ H' where
  ext := r.ext.trans e
  g0 := r.g0
  lσ := r.lσ
  lρ := r.lρ
  inj := r.inj
  pin := fun a ha => let ⟨⟨o, h1, h2⟩, h3⟩ := r.pin a ha; ⟨⟨o, e _ _ h1, h2⟩, h3⟩
  gh := fun g hg => (r.gh g hg).same e
  im := fun i fr h => let ⟨v, d, h1, h2, h3⟩ := r.im i fr h; ⟨v, d, h1, h2, h3.same e⟩
  ow := fun i c fr h => let ⟨p, d, h1, h2, h3, h4⟩ := r.ow i c fr h; ⟨p, d, h1, h2, h3, h4.map (fun o => e p o) fun _ _ q => q.same e⟩
  ar := r.ar
  sp := r.sp
  sl := fun i t h => let ⟨v, d, h1, h2, h3⟩ := r.sl i t h; ⟨v, d, h1, h2, h3.same e⟩
theorem R.owOf (r : R K f Δ ρ σ H) {a : Addr} (h : Ow Δ σ a) : (∃ o, H a = some o ∧ Mutb o) ∧ f.H0 a = none := by
  obtain ⟨i, c, fr, h1, h2⟩ := h
  obtain ⟨p, d, e1, _, e3, e4⟩ := r.ow i c fr h1
  rw [h2] at e1
  cases e1
  exact ⟨e4.mutb, e3⟩
theorem R.fresh (r : R K f Δ ρ σ H) (h : H p = none) : ¬ Ow Δ σ p ∧ p ∉ f.P ∧ f.H0 p = none := by
  refine ⟨fun z => ?_, fun z => ?_, ?_⟩
  · obtain ⟨⟨o, e, _⟩, _⟩ := r.owOf z
    rw [h] at e; cases e
  · obtain ⟨⟨o, e, _⟩, _⟩ := r.pin p z
    rw [h] at e; cases e
  · cases q : f.H0 p with
    | none => rfl
    | some o => rw [r.ext p o q] at h; cases h
theorem R.updAt {o o' : HO} (r : R K f Δ ρ σ H) (hp : H p = some o) (m : Mutb o) (m' : Mutb o') (h0 : f.H0 p = none) (no : ¬ Ow Δ σ p) (hP : p ∈ f.P) (hs : ∀ (i : Nat) (t : Bool), Δ[i]? = some (Kd.sl t) → p ∉ f.S) : R K f Δ ρ σ (upd H p o') := by
  have key : ∀ {fr : Bool} {v : V} {d : Dt}, Rp K (FM f Δ σ true fr) H v d → Rp K (FM f Δ σ true fr) (upd H p o') v d := fun h =>
    h.updM hp m fun a fa z => (fa.1 rfl).2 (z ▸ hP)
  refine ⟨fun b u e => ?_, r.g0, r.lσ, r.lρ, r.inj, fun a ha => ⟨?_, (r.pin a ha).2⟩, fun g hg => (r.gh g hg).map fun _ _ x => key x, fun i fr h => ?_, fun i c fr h => ?_, r.ar, r.sp, fun i t h => let ⟨v, d, h1, h2, h3⟩ := r.sl i t h; ⟨v, d, h1, h2, h3.updM hp m fun a fa z => hs i t h (z ▸ fa)⟩⟩
  · have : b ≠ p := fun z => by subst z; rw [h0] at e; cases e
    rw [upd_ne this]
    exact r.ext b u e
  · by_cases z : a = p
    · subst z
      exact ⟨o', upd_same, m'⟩
    · rw [upd_ne z]
      exact (r.pin a ha).1
  · obtain ⟨v, d, h1, h2, h3⟩ := r.im i fr h
    exact ⟨v, d, h1, h2, key h3⟩
  · obtain ⟨q, d, h1, h2, h3, h4⟩ := r.ow i c fr h
    have nq : q ≠ p := fun z => no ⟨i, c, fr, h, z ▸ h1⟩
    exact ⟨q, d, h1, h2, h3, h4.map (fun u e => by rw [upd_ne nq]; exact e) fun _ _ x => key x⟩
theorem R.updOwn {o' : HO} {c : Ct} {fr : Bool} (r : R K f Δ ρ σ H) (hk : Δ[i]? = some (Kd.own c fr)) (hs : σ[i]? = some (some (V.ref p)))
    {fr' : Bool} (m' : Mutb o') {c' : Ct} (new : OwC K c' (FM f Δ σ true fr') (upd H p o') p d) (hc : isArg c' = true → isArg c = true := by intro h; first | exact h | cases h) : R K f (Δ.set i (.own c' fr')) (ρ.set i d) σ (upd H p o') := by
  obtain ⟨p', d', e1, e2, e3, e4⟩ := r.ow i c fr hk
  rw [hs] at e1
  cases e1
  obtain ⟨o, ho, mo⟩ := e4.mutb
  have hi : i < Δ.length := (List.getElem?_eq_some_iff.mp hk).1
  have owp : Ow Δ σ p := ⟨i, c, fr, hk, hs⟩
  have ow' : ∀ a, Ow (Δ.set i (.own c' fr')) σ a ↔ Ow Δ σ a := fun a => by
    constructor
    · rintro ⟨j, cj, fj, h1, h2⟩
      by_cases z : i = j
      · subst z
        rw [hs] at h2
        cases h2
        exact owp
      · rw [List.getElem?_set_ne z] at h1
        exact ⟨j, cj, fj, h1, h2⟩
    · rintro ⟨j, cj, fj, h1, h2⟩
      by_cases z : i = j
      · subst z
        exact ⟨i, c', fr', by rw [List.getElem?_set_self hi], h2⟩
      · exact ⟨j, cj, fj, by rw [List.getElem?_set_ne z]; exact h1, h2⟩
  have key : ∀ {fr : Bool} {v : V} {d : Dt}, Rp K (FM f Δ σ true fr) H v d → Rp K (FM f (Δ.set i (.own c' fr')) σ true fr) (upd H p o') v d := fun h =>
    (h.updM ho mo fun a fa z => (fa.1 rfl).1 (z ▸ owp)).weak fun a fa => ⟨fun _ => ⟨fun z => (fa.1 rfl).1 ((ow' a).mp z), (fa.1 rfl).2⟩, fa.2⟩
  have key2 : ∀ {fr : Bool} {v : V} {d : Dt}, Rp K (FM f Δ σ true fr) (upd H p o') v d → Rp K (FM f (Δ.set i (.own c' fr')) σ true fr) (upd H p o') v d := fun h =>
    h.weak fun a fa => ⟨fun _ => ⟨fun z => (fa.1 rfl).1 ((ow' a).mp z), (fa.1 rfl).2⟩, fa.2⟩
  refine ⟨fun b u e => ?_, r.g0, by rw [List.length_set]; exact r.lσ, by rw [List.length_set, List.length_set]; exact r.lρ, ?_, fun a ha => ?_, fun g hg => (r.gh g hg).map fun _ _ x => key x, fun j fj h => ?_, fun j cj fj h => ?_, fun j cj fj h ha => ?_, r.sp, fun j t h => by
    by_cases z : i = j
    · subst z
      rw [List.getElem?_set_self hi] at h
      cases h
    · rw [List.getElem?_set_ne z] at h
      obtain ⟨v, d, h1, h2, h3⟩ := r.sl j t h
      exact ⟨v, d, h1, by rw [List.getElem?_set_ne z]; exact h2, h3.updM ho mo fun a fa y => (r.pin a (f.hS a fa)).2 (y ▸ owp)⟩⟩
  · have : b ≠ p := fun z => by subst z; rw [e3] at e; cases e
    rw [upd_ne this]
    exact r.ext b u e
  · intro j k cj fj ck fk q h1 h2 h3 h4
    have g : ∀ {j : Nat} {cj : Ct} {fj : Bool}, (Δ.set i (Kd.own c' fr'))[j]? = some (Kd.own cj fj) → ∃ (cj : Ct) (fj : Bool), Δ[j]? = some (Kd.own cj fj) := fun {j cj fj} h => by
      by_cases z : i = j
      · subst z; exact ⟨_, _, hk⟩
      · rw [List.getElem?_set_ne z] at h; exact ⟨_, _, h⟩
    obtain ⟨_, _, g1⟩ := g h1
    obtain ⟨_, _, g2⟩ := g h2
    exact r.inj j k _ _ _ _ q g1 g2 h3 h4
  · obtain ⟨⟨u, hu, mu⟩, no⟩ := r.pin a ha
    have na : a ≠ p := fun z => no (z ▸ owp)
    exact ⟨⟨u, by rw [upd_ne na]; exact hu, mu⟩, fun z => no ((ow' a).mp z)⟩
  · by_cases z : i = j
    · subst z
      rw [List.getElem?_set_self hi] at h
      cases h
    · rw [List.getElem?_set_ne z] at h
      obtain ⟨v, d, h1, h2, h3⟩ := r.im j fj h
      exact ⟨v, d, h1, by rw [List.getElem?_set_ne z]; exact h2, key h3⟩
  · by_cases z : i = j
    · subst z
      rw [List.getElem?_set_self hi] at h
      cases h
      exact ⟨p, d, hs, by rw [List.getElem?_set_self (by rw [r.lρ]; exact hi)], e3, new.map (fun o e => e) fun _ _ x => key2 x⟩
    · rw [List.getElem?_set_ne z] at h
      obtain ⟨q, d, h1, h2, h3, h4⟩ := r.ow j cj fj h
      have nq : q ≠ p := fun y => z (r.inj i j _ _ _ _ p hk h hs (y ▸ h1))
      exact ⟨q, d, h1, by rw [List.getElem?_set_ne z]; exact h2, h3, h4.map (fun u e => by rw [upd_ne nq]; exact e) fun _ _ x => key x⟩
  · by_cases z : i = j
    · subst z
      rw [List.getElem?_set_self hi] at h
      cases h
      exact r.ar i c fr hk (hc ha)
    · rw [List.getElem?_set_ne z] at h
      exact r.ar j cj fj h ha
theorem R.setIm {fr : Bool} (r : R K f Δ ρ σ H) (hi : i < Δ.length) (h : Rp K (FM f Δ σ true fr) H v d) : R K f (Δ.set i (.im fr)) (ρ.set i d) (σ.set i (some v)) H := by
  have ow' : ∀ a, Ow (Δ.set i (.im fr)) (σ.set i (some v)) a → Ow Δ σ a := fun a => by
    rintro ⟨j, cj, fj, h1, h2⟩
    by_cases z : i = j
    · subst z
      rw [List.getElem?_set_self hi] at h1
      cases h1
    · rw [List.getElem?_set_ne z] at h1 h2
      exact ⟨j, cj, fj, h1, h2⟩
  have key : ∀ {fr' : Bool} {v' : V} {d' : Dt}, Rp K (FM f Δ σ true fr') H v' d' → Rp K (FM f (Δ.set i (.im fr)) (σ.set i (some v)) true fr') H v' d' := fun h =>
    h.weak fun a fa => ⟨fun _ => ⟨fun z => (fa.1 rfl).1 (ow' a z), (fa.1 rfl).2⟩, fa.2⟩
  refine ⟨r.ext, r.g0, by rw [List.length_set, List.length_set]; exact r.lσ, by rw [List.length_set, List.length_set]; exact r.lρ, ?_, fun a ha => ⟨(r.pin a ha).1, fun z => (r.pin a ha).2 (ow' a z)⟩, fun g hg => (r.gh g hg).map fun _ _ x => key x, fun j fj h' => ?_, fun j cj fj h' => ?_, fun j cj fj h' ha => ?_, r.sp, fun j t h' => by
    by_cases z : i = j
    · subst z
      rw [List.getElem?_set_self hi] at h'
      cases h'
    · rw [List.getElem?_set_ne z] at h'
      obtain ⟨v, d, h1, h2, h3⟩ := r.sl j t h'
      exact ⟨v, d, by rw [List.getElem?_set_ne z]; exact h1, by rw [List.getElem?_set_ne z]; exact h2, h3⟩⟩
  · intro j k cj fj ck fk q h1 h2 h3 h4
    have g : ∀ {j : Nat} {cj : Ct} {fj : Bool}, (Δ.set i (Kd.im fr))[j]? = some (Kd.own cj fj) → i ≠ j ∧ Δ[j]? = some (Kd.own cj fj) := fun {j cj fj} h => by
      by_cases z : i = j
      · subst z; rw [List.getElem?_set_self hi] at h; cases h
      · rw [List.getElem?_set_ne z] at h; exact ⟨z, h⟩
    obtain ⟨z1, g1⟩ := g h1
    obtain ⟨z2, g2⟩ := g h2
    rw [List.getElem?_set_ne z1] at h3
    rw [List.getElem?_set_ne z2] at h4
    exact r.inj j k _ _ _ _ q g1 g2 h3 h4
  · by_cases z : i = j
    · subst z
      rw [List.getElem?_set_self hi] at h'
      cases h'
      exact ⟨v, d, by rw [List.getElem?_set_self (by rw [r.lσ]; exact hi)], by rw [List.getElem?_set_self (by rw [r.lρ]; exact hi)], key h⟩
    · rw [List.getElem?_set_ne z] at h'
      obtain ⟨v', d', h1, h2, h3⟩ := r.im j fj h'
      exact ⟨v', d', by rw [List.getElem?_set_ne z]; exact h1, by rw [List.getElem?_set_ne z]; exact h2, key h3⟩
  · by_cases z : i = j
    · subst z
      rw [List.getElem?_set_self hi] at h'
      cases h'
    · rw [List.getElem?_set_ne z] at h'
      obtain ⟨q, d', h1, h2, h3, h4⟩ := r.ow j cj fj h'
      exact ⟨q, d', by rw [List.getElem?_set_ne z]; exact h1, by rw [List.getElem?_set_ne z]; exact h2, h3, h4.map (fun u e => e) fun _ _ x => key x⟩
  · by_cases z : i = j
    · subst z
      rw [List.getElem?_set_self hi] at h'
      cases h'
    · rw [List.getElem?_set_ne z] at h'
      obtain ⟨p, h1, h2⟩ := r.ar j cj fj h' ha
      exact ⟨p, h1, by rw [List.getElem?_set_ne z]; exact h2⟩
theorem R.setOwn {c : Ct} {fr : Bool} (r0 : R K f Δ ρ σ H) (hi : i < Δ.length) (hp : H p = none) (e : Same H H') (h : OwC K c (fun a => FM f Δ σ true fr a ∧ a ≠ p) H' p d) (hc : isArg c = false := by rfl) :
    R K f (Δ.set i (.own c fr)) (ρ.set i d) (σ.set i (some (.ref p))) H' := by
  have r := r0.mono e
  obtain ⟨f1, f2, f3⟩ := r0.fresh hp
  have ow' : ∀ a, Ow (Δ.set i (.own c fr)) (σ.set i (some (.ref p))) a → Ow Δ σ a ∨ a = p := fun a => by
    rintro ⟨j, cj, fj, h1, h2⟩
    by_cases z : i = j
    · subst z
      rw [List.getElem?_set_self (by rw [r.lσ]; exact hi)] at h2
      cases h2
      exact .inr rfl
    · rw [List.getElem?_set_ne z] at h1 h2
      exact .inl ⟨j, cj, fj, h1, h2⟩
  have key : ∀ {fr' : Bool} {v' : V} {d' : Dt}, Rp K (FM f Δ σ true fr') H v' d' → Rp K (FM f (Δ.set i (.own c fr)) (σ.set i (some (.ref p))) true fr') H' v' d' := fun h =>
    h.mono e fun a fa na => ⟨fun _ => ⟨fun z => by
      rcases ow' a z with z | z
      · exact (fa.1 rfl).1 z
      · exact na (z ▸ hp), (fa.1 rfl).2⟩, fa.2⟩
  have keyN : ∀ {fr' : Bool} {v' : V} {d' : Dt}, Rp K (fun a => FM f Δ σ true fr' a ∧ a ≠ p) H' v' d' → Rp K (FM f (Δ.set i (.own c fr)) (σ.set i (some (.ref p))) true fr') H' v' d' := fun h =>
    h.weak fun a fa => ⟨fun _ => ⟨fun z => by
      rcases ow' a z with z | z
      · exact (fa.1.1 rfl).1 z
      · exact fa.2 z, (fa.1.1 rfl).2⟩, fa.1.2⟩
  refine ⟨r.ext, r.g0, by rw [List.length_set, List.length_set]; exact r.lσ, by rw [List.length_set, List.length_set]; exact r.lρ, ?_, fun a ha => ⟨(r.pin a ha).1, fun z => ?_⟩, fun g hg => (r0.gh g hg).map fun _ _ x => key x, fun j fj h' => ?_, fun j cj fj h' => ?_, fun j cj fj h' ha => ?_, r.sp, fun j t h' => by
    by_cases z : i = j
    · subst z
      rw [List.getElem?_set_self hi] at h'
      cases h'
    · rw [List.getElem?_set_ne z] at h'
      obtain ⟨v, d, h1, h2, h3⟩ := r.sl j t h'
      exact ⟨v, d, by rw [List.getElem?_set_ne z]; exact h1, by rw [List.getElem?_set_ne z]; exact h2, h3⟩⟩
  · have g : ∀ {j : Nat} {cj : Ct} {fj : Bool} {q : Addr}, (Δ.set i (Kd.own c fr))[j]? = some (Kd.own cj fj) → (σ.set i (some (V.ref p)))[j]? = some (some (V.ref q)) → (i = j ∧ q = p) ∨ (i ≠ j ∧ Δ[j]? = some (Kd.own cj fj) ∧ σ[j]? = some (some (V.ref q)) ∧ q ≠ p) := fun {j cj fj q} h h2 => by
      by_cases z : i = j
      · subst z
        rw [List.getElem?_set_self (by rw [r.lσ]; exact hi)] at h2
        cases h2
        exact .inl ⟨rfl, rfl⟩
      · rw [List.getElem?_set_ne z] at h h2
        exact .inr ⟨z, h, h2, fun y => f1 ⟨j, cj, fj, h, y ▸ h2⟩⟩
    intro j k cj fj ck fk q h1 h2 h3 h4
    rcases g h1 h3 with ⟨a1, b1⟩ | ⟨a1, b1, c1, d1⟩
    · rcases g h2 h4 with ⟨a2, b2⟩ | ⟨a2, b2, c2, d2⟩
      · exact a1 ▸ a2
      · exact (d2 b1).elim
    · rcases g h2 h4 with ⟨a2, b2⟩ | ⟨a2, b2, c2, d2⟩
      · exact (d1 b2).elim
      · exact r.inj j k _ _ _ _ q b1 b2 c1 c2
  · rcases ow' a z with z | z
    · exact (r0.pin a ha).2 z
    · exact f2 (z ▸ ha)
  · by_cases z : i = j
    · subst z
      rw [List.getElem?_set_self hi] at h'
      cases h'
    · rw [List.getElem?_set_ne z] at h'
      obtain ⟨v', d', h1, h2, h3⟩ := r0.im j fj h'
      exact ⟨v', d', by rw [List.getElem?_set_ne z]; exact h1, by rw [List.getElem?_set_ne z]; exact h2, key h3⟩
  · by_cases z : i = j
    · subst z
      rw [List.getElem?_set_self hi] at h'
      cases h'
      exact ⟨p, d, by rw [List.getElem?_set_self (by rw [r.lσ]; exact hi)], by rw [List.getElem?_set_self (by rw [r.lρ]; exact hi)], f3, h.map (fun o e => e) fun _ _ x => keyN x⟩
    · rw [List.getElem?_set_ne z] at h'
      obtain ⟨q, d', h1, h2, h3, h4⟩ := r0.ow j cj fj h'
      exact ⟨q, d', by rw [List.getElem?_set_ne z]; exact h1, by rw [List.getElem?_set_ne z]; exact h2, h3, h4.map (fun u x => e _ _ x) fun _ _ x => key x⟩
  · by_cases z : i = j
    · subst z
      rw [List.getElem?_set_self hi] at h'
      cases h'
      rw [hc] at ha
      cases ha
    · rw [List.getElem?_set_ne z] at h'
      obtain ⟨p, h1, h2⟩ := r0.ar j cj fj h' ha
      exact ⟨p, h1, by rw [List.getElem?_set_ne z]; exact h2⟩
end
end Sim
end T_SimA
section T_SimB
set_option Elab.async false
set_option linter.all false
set_option maxRecDepth 100000
namespace Sim
open PySem PySem.Spec L2
open PyProof.Rows hiding St
abbrev Wt := Exn → L2.St → Hp → Prop
abbrev Gd := List Dt → O Dt
inductive Rk where
  | v (av fr : Bool) | o (fr : Bool) | new (c : Ct) (fr : Bool)
def PoE (K : PySem.W.Frag) (W : Wt) (f : Fm) (Δ : List Kd) (σ : L2.St) (H : Hp) (k : Rk) (o : O Dt) (Q : VK) : Prop := match o with
  | .bad => False
  | .ex e => ∀ H', Same H H' → W e σ H'
  | .ok d => match k with
    | .v av fr => ∀ v H', Same H H' → Rp K (FM f Δ σ av fr) H' v d → Q v H'
    | .o fr => ∀ p H' vs ds, d = .list ds → Same H H' → H' p = some (.lst vs) → f.G p → RpA K (FM f Δ σ true fr) H' vs ds → Q (.ref p) H'
    | .new c fr => ∀ p H', H p = none → Same H H' → OwC K c (fun a => FM f Δ σ true fr a ∧ a ≠ p) H' p d → Q (.ref p) H'
def SE (K : PySem.W.Frag) (W : Wt) (Δ : List Kd) (te : TE) (k : Rk) (g : Gd) : Prop := ∀ f ρ σ H Q, R K f Δ ρ σ H → PoE K W f Δ σ H k (g ρ) Q → te σ H Q
def PoT (W : Wt) (σ : L2.St) (H : Hp) (o : O Bool) (Q : Bool → Hp → Prop) : Prop := match o with
  | .bad => False
  | .ex e => ∀ H', Same H H' → W e σ H'
  | .ok b => ∀ H', Same H H' → Q b H'
def ST (K : PySem.W.Frag) (W : Wt) (Δ : List Kd) (tt : TT) (g : List Dt → O Bool) : Prop := ∀ f ρ σ H Q, R K f Δ ρ σ H → PoT W σ H (g ρ) Q → tt σ H Q
def PoA (K : PySem.W.Frag) (W : Wt) (f : Fm) (Δ : List Kd) (σ : L2.St) (H : Hp) (av fr : Bool) (o : O (List Dt)) (Q : List V → Hp → Prop) : Prop := match o with
  | .bad => False
  | .ex e => ∀ H', Same H H' → W e σ H'
  | .ok ds => ∀ vs H', Same H H' → RpA K (FM f Δ σ av fr) H' vs ds → Q vs H'
def SA (K : PySem.W.Frag) (W : Wt) (Δ : List Kd) (ta : TA) (av fr : Bool) (g : List Dt → O (List Dt)) : Prop := ∀ f ρ σ H Q, R K f Δ ρ σ H → PoA K W f Δ σ H av fr (g ρ) Q → ta σ H Q
def gVar (i : Nat) : Gd := fun ρ => match ρ[i]? with
  | some d => .ok d
  | none => .bad
def gC (d : Dt) : Gd := fun _ => .ok d
def gOp (h : Dt → Dt → O Dt) (a b : Gd) : Gd := fun ρ => bnd (a ρ) fun x => bnd (b ρ) fun y => h x y
def gUn (h : Dt → O Dt) (a : Gd) : Gd := fun ρ => bnd (a ρ) h
def gNil : List Dt → O (List Dt) := fun _ => .ok []
def gCons (a : Gd) (b : List Dt → O (List Dt)) : List Dt → O (List Dt) := fun ρ => bnd (a ρ) fun x => bnd (b ρ) fun xs => .ok (x :: xs)
def gTup (a : List Dt → O (List Dt)) : Gd := fun ρ => bnd (a ρ) fun xs => if xs.length ≤ 100000 then .ok (.tuple xs) else .bad
def gLst (a : List Dt → O (List Dt)) : Gd := fun ρ => bnd (a ρ) fun xs => if xs.length ≤ 100000 then .ok (.list xs) else .bad
def gPur (a : Gd) : Gd := fun ρ => bnd (a ρ) fun d => if pure1 d then .ok d else .bad
def pureIn : Dt → Bool
  | .list xs => pureA xs
  | d => pure1 d
def gPurN (a : Gd) : Gd := fun ρ => bnd (a ρ) fun d => if pureIn d then .ok d else .bad
def gIf (t : List Dt → O Bool) (a b : Gd) : Gd := fun ρ => bnd (t ρ) fun c => if c then a ρ else b ρ
def asB : Dt → O Bool
  | .bool b => .ok b
  | _ => .bad
def gTest (a : Gd) : List Dt → O Bool := fun ρ => bnd (a ρ) asB
def gNot (t : List Dt → O Bool) : List Dt → O Bool := fun ρ => bnd (t ρ) fun b => .ok (!b)
def gAnd (t u : List Dt → O Bool) : List Dt → O Bool := fun ρ => bnd (t ρ) fun b => if b then u ρ else .ok false
def gOr (t u : List Dt → O Bool) : List Dt → O Bool := fun ρ => bnd (t ρ) fun b => if b then .ok true else u ρ
def gAndV (a b : Gd) : Gd := fun ρ => bnd (a ρ) fun x => bnd (asB x) fun c => if c then b ρ else .ok (.bool false)
def gOrV (a b : Gd) : Gd := fun ρ => bnd (a ρ) fun x => bnd (asB x) fun c => if c then .ok (.bool true) else b ρ
def gNotV (a : Gd) : Gd := fun ρ => bnd (a ρ) fun x => bnd (asB x) fun c => .ok (.bool (!c))
def gCB (h : List Dt → O Dt) (a : List Dt → O (List Dt)) : Gd := fun ρ => bnd (a ρ) h
def scl : Dt → Bool
  | .none => true
  | .bool _ => true
  | .int _ => true
  | .str _ => true
  | _ => false
section
variable {K : PySem.W.Frag} {W : Wt} {Δ : List Kd} {ta tb te : TE} {tt tu : TT} {tA tB' : TA} {ga gb g : Gd} {gt gu : List Dt → O Bool} {gA : List Dt → O (List Dt)} {k k1 k2 : Rk} {av fr av' fr' : Bool}
theorem Rp.scl_any {F F' : Addr → Prop} {H H' : Hp} {v : V} {d : Dt} (h : Rp K F H v d) (s : scl d = true) : Rp K F' H' v d := by
  cases h with
  | non => exact .non
  | bl b => exact .bl b
  | int i => exact .int i
  | str x => exact .str x
  | lst => cases s
  | fz => cases s
  | tup => cases s
  | dic => cases s
  | exn => cases s
theorem se_var {i : Nat} (hk : Δ[i]? = some (.im fr)) : SE K W Δ (tVar i) (.v true fr) (gVar i) := fun f ρ σ H Q r q => by
  obtain ⟨v, d, h1, h2, h3⟩ := r.im i fr hk
  unfold gVar at q
  rw [h2] at q
  exact ⟨v, h1, q v H (Same.refl H) h3⟩
theorem se_own {i : Nat} (hk : Δ[i]? = some (.own .l fr)) : SE K W Δ (tVar i) (.o fr) (gVar i) := fun f ρ σ H Q r q => by
  obtain ⟨p, d, h1, h2, h3, vs, ds, e, h4, h5⟩ := r.ow i .l fr hk
  subst e
  unfold gVar at q
  rw [h2] at q
  exact ⟨_, h1, q p H vs ds rfl (Same.refl H) h4 (r.g0 p h3) h5⟩
theorem se_c {v : V} {d : Dt} (h : Rp K (fun _ => False) (fun _ => none) v d) (s : scl d = true) : SE K W Δ (tC v) (.v true true) (gC d) := fun f ρ σ H Q r q =>
  q v H (Same.refl H) (h.scl_any s)
theorem se_int {i : Int} : SE K W Δ (tC (.int i)) (.v true true) (gC (.int i)) := se_c (.int i) rfl
theorem se_str {x : Str} : SE K W Δ (tC (.str x)) (.v true true) (gC (.str x)) := se_c (.str x) rfl
theorem se_bl {b : Bool} : SE K W Δ (tC (.bl b)) (.v true true) (gC (.bool b)) := se_c (.bl b) rfl
theorem se_non : SE K W Δ (tC .non) (.v true true) (gC .none) := se_c .non rfl
theorem Rp.fm {f : Fm} {σ : L2.St} {H : Hp} {v : V} {d : Dt} (h1 : av' = true → av = true) (h2 : fr' = true → fr = true) (h : Rp K (FM f Δ σ av fr) H v d) : Rp K (FM f Δ σ av' fr') H v d := h.weak fun _ x => x.weak h1 h2
theorem SE.wk (h : SE K W Δ te (.v av fr) g) (h1 : av' = true → av = true := by decide) (h2 : fr' = true → fr = true := by decide) : SE K W Δ te (.v av' fr') g := fun f ρ σ H Q r q =>
  h f ρ σ H Q r <| by
    cases e : g ρ with
    | bad => rw [e] at q; exact q
    | ex z => rw [e] at q; exact q
    | ok d => rw [e] at q; exact fun v H' s x => q v H' s (x.fm h1 h2)
theorem SE.ov (h : SE K W Δ te (.o fr) g) : SE K W Δ te (.v false fr) g := fun f ρ σ H Q r q =>
  h f ρ σ H Q r <| by
    cases e : g ρ with
    | bad => rw [e] at q; exact q
    | ex z => rw [e] at q; exact q
    | ok d =>
      rw [e] at q
      intro p H' vs ds ed s hp gp x
      subst ed
      exact q _ H' s (.lst hp ⟨(nomatch ·), fun _ => gp⟩ (x.weak fun _ y => y.weak (fun _ => rfl) id))
theorem SE.nv (h : SE K W Δ te (.new .l fr) g) : SE K W Δ te (.v true fr) g := fun f ρ σ H Q r q =>
  h f ρ σ H Q r <| by
    cases e : g ρ with
    | bad => rw [e] at q; exact q
    | ex z => rw [e] at q; exact q
    | ok d =>
      rw [e] at q
      intro p H' np s x
      obtain ⟨vs, ds, ed, hp, x⟩ := x
      subst ed
      obtain ⟨f1, f2, f3⟩ := r.fresh np
      exact q _ H' s (.lst hp ⟨fun _ => ⟨f1, f2⟩, fun _ => r.g0 p f3⟩ (x.weak fun _ y => y.1))
theorem SE.no (h : SE K W Δ te (.new .l fr) g) : SE K W Δ te (.o fr) g := fun f ρ σ H Q r q =>
  h f ρ σ H Q r <| by
    cases e : g ρ with
    | bad => rw [e] at q; exact q
    | ex z => rw [e] at q; exact q
    | ok d =>
      rw [e] at q
      intro p H' np s x
      obtain ⟨vs, ds, ed, hp, x⟩ := x
      subst ed
      obtain ⟨f1, f2, f3⟩ := r.fresh np
      exact q _ H' vs ds rfl s hp (r.g0 p f3) (x.weak fun _ y => y.1)
theorem SE.pur (h : SE K W Δ te (.v av fr) g) : SE K W Δ te (.v true true) (gPur g) := fun f ρ σ H Q r q =>
  h f ρ σ H Q r <| by
    unfold gPur at q
    cases e : g ρ with
    | bad => rw [e] at q; exact q
    | ex z => rw [e] at q; exact q
    | ok d =>
      rw [e, bnd_ok] at q
      intro v H' s x
      by_cases p : pure1 d = true
      · rw [if_pos p] at q
        exact q v H' s (x.pure p)
      · rw [if_neg p] at q
        exact q.elim
theorem pureIn_list {ds : List Dt} : pureIn (.list ds) = pureA ds := rfl
theorem SE.purN (h : SE K W Δ te (.new .l fr) g) : SE K W Δ te (.new .l true) (gPurN g) := fun f ρ σ H Q r q =>
  h f ρ σ H Q r <| by
    unfold gPurN at q
    cases e : g ρ with
    | bad => rw [e] at q; exact q
    | ex z => rw [e] at q; exact q
    | ok d =>
      rw [e, bnd_ok] at q
      intro p H' np s x
      obtain ⟨vs, ds, ed, hp, x⟩ := x
      subst ed
      rw [pureIn_list] at q
      by_cases pp : pureA ds = true
      · rw [if_pos pp] at q
        exact q p H' np s ⟨vs, ds, rfl, hp, x.pure pp⟩
      · rw [if_neg pp] at q
        exact q.elim
def OSc (K : PySem.W.Frag) (r : R2) (h : Dt → Dt → O Dt) : Prop := ∀ H x y d e Q, Rp K (fun _ => True) H x d → Rp K (fun _ => True) H y e →
  (match h d e with | .ok z => scl z = true ∧ (∀ v, Rp K (fun _ => False) (fun _ => none) v z → Q v H) | _ => False) → r x y H Q
def USc (K : PySem.W.Frag) (r : V → Hp → VK → Prop) (h : Dt → O Dt) : Prop := ∀ H x d Q, Rp K (fun _ => True) H x d →
  (match h d with | .ok z => scl z = true ∧ (∀ v, Rp K (fun _ => False) (fun _ => none) v z → Q v H) | _ => False) → r x H Q
def CSc (K : PySem.W.Frag) (r : List V → Hp → VK → Prop) (h : List Dt → O Dt) : Prop := ∀ H xs ds Q, RpA K (fun _ => True) H xs ds →
  (match h ds with | .ok z => scl z = true ∧ (∀ v, Rp K (fun _ => False) (fun _ => none) v z → Q v H) | _ => False) → r xs H Q
def Scl2 (h : Dt → Dt → O Dt) : Prop := ∀ d e, (∃ z, h d e = .ok z ∧ scl z = true) ∨ h d e = .bad
def Scl1 (h : Dt → O Dt) : Prop := ∀ d, (∃ z, h d = .ok z ∧ scl z = true) ∨ h d = .bad
def SclA (h : List Dt → O Dt) : Prop := ∀ d, (∃ z, h d = .ok z ∧ scl z = true) ∨ h d = .bad
theorem se_op {r : R2} {h : Dt → Dt → O Dt} (hs : Scl2 h) (ho : OSc K r h) (ha : SE K W Δ ta (.v av fr) ga) (hb : SE K W Δ tb (.v av' fr') gb) : SE K W Δ (tOp r ta tb) (.v true true) (gOp h ga gb) := fun f ρ σ H Q R q => by
  refine ha f ρ σ H _ R ?_
  unfold gOp at q
  cases e1 : ga ρ with
  | bad => rw [e1] at q; exact q
  | ex z => rw [e1] at q; exact q
  | ok d =>
    rw [e1, bnd_ok] at q
    intro v H1 s1 x1
    refine hb f ρ σ H1 _ (R.mono s1) ?_
    cases e2 : gb ρ with
    | bad => rw [e2] at q; exact q
    | ex z => rw [e2] at q; exact fun H' s => q H' (s1.trans s)
    | ok d2 =>
      rw [e2, bnd_ok] at q
      intro v2 H2 s2 x2
      refine ho H2 v v2 d d2 Q ((x1.same s2).weak fun _ _ => trivial) (x2.weak fun _ _ => trivial) ?_
      rcases hs d d2 with ⟨z, ez, sz⟩ | ez
      · rw [ez] at q ⊢
        exact ⟨sz, fun w x => q w H2 (s1.trans s2) (x.scl_any sz)⟩
      · rw [ez] at q
        exact q.elim
theorem se_un {r : V → Hp → VK → Prop} {h : Dt → O Dt} (hs : Scl1 h) (ho : USc K r h) (ha : SE K W Δ ta (.v av fr) ga) : SE K W Δ (tUn r ta) (.v true true) (gUn h ga) := fun f ρ σ H Q R q => by
  refine ha f ρ σ H _ R ?_
  unfold gUn at q
  cases e1 : ga ρ with
  | bad => rw [e1] at q; exact q
  | ex z => rw [e1] at q; exact q
  | ok d =>
    rw [e1, bnd_ok] at q
    intro v H1 s1 x1
    refine ho H1 v d Q (x1.weak fun _ _ => trivial) ?_
    rcases hs d with ⟨z, ez, sz⟩ | ez
    · rw [ez] at q ⊢
      exact ⟨sz, fun w x => q w H1 s1 (x.scl_any sz)⟩
    · rw [ez] at q
      exact q.elim
theorem se_cb {r : List V → Hp → VK → Prop} {h : List Dt → O Dt} (hs : SclA h) (ho : CSc K r h) (ha : SA K W Δ tA av fr gA) : SE K W Δ (tCB r tA) (.v true true) (gCB h gA) := fun f ρ σ H Q R q => by
  refine ha f ρ σ H _ R ?_
  unfold gCB at q
  cases e1 : gA ρ with
  | bad => rw [e1] at q; exact q
  | ex z => rw [e1] at q; exact q
  | ok d =>
    rw [e1, bnd_ok] at q
    intro v H1 s1 x1
    refine ho H1 v d Q (x1.weak fun _ _ => trivial) ?_
    rcases hs d with ⟨z, ez, sz⟩ | ez
    · rw [ez] at q ⊢
      exact ⟨sz, fun w x => q w H1 s1 (x.scl_any sz)⟩
    · rw [ez] at q
      exact q.elim
theorem sa_nil : SA K W Δ tNil true true gNil := fun f ρ σ H Q R q => q [] H (Same.refl H) .nil
theorem sa_cons (ha : SE K W Δ ta (.v av fr) ga) (hr : SA K W Δ tA av' fr' gA) : SA K W Δ (tCons ta tA) (av && av') (fr && fr') (gCons ga gA) := fun f ρ σ H Q R q => by
  refine ha f ρ σ H _ R ?_
  unfold gCons at q
  cases e1 : ga ρ with
  | bad => rw [e1] at q; exact q
  | ex z => rw [e1] at q; exact q
  | ok d =>
    rw [e1, bnd_ok] at q
    intro v H1 s1 x1
    refine hr f ρ σ H1 _ (R.mono s1) ?_
    cases e2 : gA ρ with
    | bad => rw [e2] at q; exact q
    | ex z => rw [e2] at q; exact fun H' s => q H' (s1.trans s)
    | ok ds =>
      rw [e2, bnd_ok] at q
      intro vs H2 s2 x2
      exact q (v :: vs) H2 (s1.trans s2) (.cons ((x1.same s2).fm (fun h => (Bool.and_eq_true_iff.mp h).1) fun h => (Bool.and_eq_true_iff.mp h).1)
        (x2.weak fun _ y => y.weak (fun h => (Bool.and_eq_true_iff.mp h).2) fun h => (Bool.and_eq_true_iff.mp h).2))
theorem SA.wk (h : SA K W Δ tA av fr gA) (h1 : av' = true → av = true := by decide) (h2 : fr' = true → fr = true := by decide) : SA K W Δ tA av' fr' gA := fun f ρ σ H Q R q =>
  h f ρ σ H Q R <| by
    cases e : gA ρ with
    | bad => rw [e] at q; exact q
    | ex z => rw [e] at q; exact q
    | ok d => rw [e] at q; exact fun v H' s x => q v H' s (x.weak fun _ y => y.weak h1 h2)
theorem sz_le {n : Nat} (h : n ≤ 100000) : n ≤ sizeLine := Nat.le_trans h (by decide)
theorem same_upd {H : Hp} {p : Addr} {o : HO} (h : H p = none) : Same H (upd H p o) := fun b x e => by
  rw [upd_ne (ne_of_none e h)]
  exact e
theorem se_tup (ha : SA K W Δ tA av fr gA) : SE K W Δ (tTup tA) (.v av fr) (gTup gA) := fun f ρ σ H Q R q => by
  refine ha f ρ σ H _ R ?_
  unfold gTup at q
  cases e1 : gA ρ with
  | bad => rw [e1] at q; exact q
  | ex z => rw [e1] at q; exact q
  | ok ds =>
    rw [e1, bnd_ok] at q
    intro vs H1 s1 x1
    by_cases l : ds.length ≤ 100000
    · rw [if_pos l] at q
      refine ⟨by rw [x1.length]; exact sz_le l, fun p np => ?_⟩
      exact q _ _ (s1.trans (same_upd np)) (.tup (.inl (.inl upd_same)) (x1.same (same_upd np)))
    · rw [if_neg l] at q
      exact q.elim
theorem se_lst (ha : SA K W Δ tA true fr gA) : SE K W Δ (tLst tA) (.new .l fr) (gLst gA) := fun f ρ σ H Q R q => by
  refine ha f ρ σ H _ R ?_
  unfold gLst at q
  cases e1 : gA ρ with
  | bad => rw [e1] at q; exact q
  | ex z => rw [e1] at q; exact q
  | ok ds =>
    rw [e1, bnd_ok] at q
    intro vs H1 s1 x1
    by_cases l : ds.length ≤ 100000
    · rw [if_pos l] at q
      refine ⟨by rw [x1.length]; exact sz_le l, fun p np => ?_⟩
      refine q p _ (s1.free np) (s1.trans (same_upd np)) ⟨vs, ds, rfl, upd_same, x1.mono (same_upd np) fun a y z => ⟨y, fun e => z (e ▸ np)⟩⟩
    · rw [if_neg l] at q
      exact q.elim
theorem st_test (ha : SE K W Δ te (.v av fr) g) : ST K W Δ (tTest te) (gTest g) := fun f ρ σ H Q R q => by
  refine ha f ρ σ H _ R ?_
  unfold gTest at q
  cases e1 : g ρ with
  | bad => rw [e1] at q; exact q
  | ex z => rw [e1] at q; exact q
  | ok d =>
    rw [e1, bnd_ok] at q
    intro v H1 s1 x1
    cases x1 with
    | bl b => exact ⟨b, rfl, q H1 s1⟩
    | non => exact q.elim
    | int => exact q.elim
    | str => exact q.elim
    | lst => exact q.elim
    | fz => exact q.elim
    | tup => exact q.elim
    | dic => exact q.elim
    | exn => exact q.elim
theorem st_B (ha : SE K W Δ te (.v av fr) g) : ST K W Δ (tB te) (gTest g) := st_test ha
theorem st_not (h : ST K W Δ tt gt) : ST K W Δ (tNot tt) (gNot gt) := fun f ρ σ H Q R q => by
  refine h f ρ σ H _ R ?_
  unfold gNot at q
  cases e1 : gt ρ with
  | bad => rw [e1] at q; exact q
  | ex z => rw [e1] at q; exact q
  | ok d => rw [e1, bnd_ok] at q; exact q
theorem st_and (h : ST K W Δ tt gt) (h2 : ST K W Δ tu gu) : ST K W Δ (tAnd tt tu) (gAnd gt gu) := fun f ρ σ H Q R q => by
  refine h f ρ σ H _ R ?_
  unfold gAnd at q
  cases e1 : gt ρ with
  | bad => rw [e1] at q; exact q
  | ex z => rw [e1] at q; exact q
  | ok b =>
    rw [e1, bnd_ok] at q
    intro H1 s1
    cases b with
    | false => exact q H1 s1
    | true =>
      refine h2 f ρ σ H1 _ (R.mono s1) ?_
      have q : PoT W σ H (gu ρ) Q := q
      cases e2 : gu ρ with
      | bad => rw [e2] at q; exact q
      | ex z => rw [e2] at q; exact fun H' s => q H' (s1.trans s)
      | ok b => rw [e2] at q; exact fun H' s => q H' (s1.trans s)
theorem st_or (h : ST K W Δ tt gt) (h2 : ST K W Δ tu gu) : ST K W Δ (tOr tt tu) (gOr gt gu) := fun f ρ σ H Q R q => by
  refine h f ρ σ H _ R ?_
  unfold gOr at q
  cases e1 : gt ρ with
  | bad => rw [e1] at q; exact q
  | ex z => rw [e1] at q; exact q
  | ok b =>
    rw [e1, bnd_ok] at q
    intro H1 s1
    cases b with
    | true => exact q H1 s1
    | false =>
      refine h2 f ρ σ H1 _ (R.mono s1) ?_
      have q : PoT W σ H (gu ρ) Q := q
      cases e2 : gu ρ with
      | bad => rw [e2] at q; exact q
      | ex z => rw [e2] at q; exact fun H' s => q H' (s1.trans s)
      | ok b => rw [e2] at q; exact fun H' s => q H' (s1.trans s)
theorem PoE.mono {f : Fm} {σ : L2.St} {H H' : Hp} {o : O Dt} {Q : VK} (s : Same H H') (h : PoE K W f Δ σ H k o Q) : PoE K W f Δ σ H' k o Q := by
  cases o with
  | bad => exact h
  | ex z => exact fun H2 s2 => h H2 (s.trans s2)
  | ok d =>
    cases k with
    | v av fr => exact fun v H2 s2 => h v H2 (s.trans s2)
    | o fr => exact fun p H2 vs ds e s2 => h p H2 vs ds e (s.trans s2)
    | new c fr => exact fun p H2 np s2 => h p H2 (s.free np) (s.trans s2)
theorem se_if (h : ST K W Δ tt gt) (ha : SE K W Δ ta k ga) (hb : SE K W Δ tb k gb) : SE K W Δ (tIf tt ta tb) k (gIf gt ga gb) := fun f ρ σ H Q R q => by
  refine h f ρ σ H _ R ?_
  unfold gIf at q
  cases e1 : gt ρ with
  | bad => rw [e1] at q; exact q
  | ex z => rw [e1] at q; exact q
  | ok b =>
    rw [e1, bnd_ok] at q
    intro H1 s1
    cases b with
    | true => exact ha f ρ σ H1 Q (R.mono s1) (PoE.mono s1 q)
    | false => exact hb f ρ σ H1 Q (R.mono s1) (PoE.mono s1 q)
theorem se_andV (ha : SE K W Δ ta (.v av fr) ga) (hb : SE K W Δ tb (.v true true) gb) : SE K W Δ (tAndV ta tb) (.v true true) (gAndV ga gb) := fun f ρ σ H Q R q => by
  refine ha f ρ σ H _ R ?_
  unfold gAndV at q
  cases e1 : ga ρ with
  | bad => rw [e1] at q; exact q
  | ex z => rw [e1] at q; exact q
  | ok d =>
    rw [e1, bnd_ok] at q
    intro v H1 s1 x1
    cases x1 with
    | bl b =>
      refine ⟨b, rfl, ?_⟩
      cases b with
      | true => exact hb f ρ σ H1 Q (R.mono s1) (PoE.mono s1 q)
      | false => exact q _ H1 s1 (.bl false)
    | non => exact q.elim
    | int => exact q.elim
    | str => exact q.elim
    | lst => exact q.elim
    | fz => exact q.elim
    | tup => exact q.elim
    | dic => exact q.elim
    | exn => exact q.elim
theorem se_notV (ha : SE K W Δ ta (.v av fr) ga) : SE K W Δ (tNotV ta) (.v true true) (gNotV ga) := fun f ρ σ H Q R q => by
  refine ha f ρ σ H _ R ?_
  unfold gNotV at q
  cases e1 : ga ρ with
  | bad => rw [e1] at q; exact q
  | ex z => rw [e1] at q; exact q
  | ok d =>
    rw [e1, bnd_ok] at q
    intro v H1 s1 x1
    cases x1 with
    | bl b => exact ⟨b, rfl, q _ H1 s1 (.bl _)⟩
    | non => exact q.elim
    | int => exact q.elim
    | str => exact q.elim
    | lst => exact q.elim
    | fz => exact q.elim
    | tup => exact q.elim
    | dic => exact q.elim
    | exn => exact q.elim
end
end Sim
end T_SimB
section T_SimC
set_option Elab.async false
set_option linter.all false
set_option maxRecDepth 100000
namespace Sim
open PySem PySem.Spec L2
open PyProof.Rows hiding St
structure PD (X : Cx) (K : PySem.W.Frag) (W : Wt) (Δ : List Kd) (e : Expr) (te : TE) (k : Rk) (g : Gd) : Prop where
  pe : PE X e te
  hK : X.K = K
  se : SE K W Δ te k g
structure TD (X : Cx) (K : PySem.W.Frag) (W : Wt) (Δ : List Kd) (e : Expr) (tt : TT) (g : List Dt → O Bool) : Prop where
  pt : PT X e tt
  hK : X.K = K
  st : ST K W Δ tt g
structure WD (X : Cx) (K : PySem.W.Frag) (W : Wt) (Δ : List Kd) (e : Expr) (tt : TT) (g : List Dt → O Bool) : Prop where
  pw : PW X e tt
  hK : X.K = K
  st : ST K W Δ tt g
structure AD (X : Cx) (K : PySem.W.Frag) (W : Wt) (Δ : List Kd) (es : List Expr) (ta : TA) (av fr : Bool) (g : List Dt → O (List Dt)) : Prop where
  pa : PA X es ta
  hK : X.K = K
  sa : SA K W Δ ta av fr g
def hI0 (g : Int → Int → Int) : Dt → Dt → O Dt := fun d e => match d, e with
  | .int i, .int j => .ok (.int (g i j))
  | _, _ => .bad
def hI (C : Int → Int → Bool) (g : Int → Int → Int) : Dt → Dt → O Dt := fun d e => match d, e with
  | .int i, .int j => if C i j then .ok (.int (g i j)) else .bad
  | _, _ => .bad
def hB0 (p : Int → Int → Bool) : Dt → Dt → O Dt := fun d e => match d, e with
  | .int i, .int j => .ok (.bool (p i j))
  | _, _ => .bad
def hU (g : Int → Int) : Dt → O Dt := fun d => match d with
  | .int i => .ok (.int (g i))
  | _ => .bad
def hAdd := hI0 fun i j => i + j
def hSub := hI0 fun i j => i - j
def cMul (i j : Int) : Bool := decide (i.natAbs < 2 ^ 64) || decide (j.natAbs < 2 ^ 64)
def hMul := hI cMul fun i j => i * j
def cDiv (_ j : Int) : Bool := decide (0 < j) && decide (j.natAbs < 2 ^ 400)
def hDiv := hI cDiv fun i j => i / j
def cMod (_ j : Int) : Bool := decide (0 < j)
def hMod := hI cMod fun i j => i % j
def cPow (i j : Int) : Bool := decide (0 ≤ j) && decide (j ≤ 1000000) && decide (i.natAbs < 2 ^ 64)
def hPow := hI cPow fun i j => i ^ j.toNat
def cShr (_ j : Int) : Bool := decide (0 ≤ j)
def hShr := hI cShr fun i j => i / 2 ^ j.toNat
def hBand := hI0 fun i j => Builtin.bitAnd i j
def hLt := hB0 fun i j => decide (i < j)
def hLe := hB0 fun i j => decide (i ≤ j)
def hGt := hB0 fun i j => decide (j < i)
def hGe := hB0 fun i j => decide (j ≤ i)
def hEq : Dt → Dt → O Dt := fun d e => if SeqAt.shaped d && SeqAt.shaped e then .ok (.bool (PyData.eqv d e)) else .bad
def hNe : Dt → Dt → O Dt := fun d e => if SeqAt.shaped d && SeqAt.shaped e then .ok (.bool (!PyData.eqv d e)) else .bad
def hIn : Dt → Dt → O Dt := fun d e => match e with
  | .list ds => if SeqAt.shaped d && SeqAt.shaped e then .ok (.bool (ds.any fun z => PyData.eqv z d)) else .bad
  | .tuple ds => if SeqAt.shaped d && SeqAt.shaped e then .ok (.bool (ds.any fun z => PyData.eqv z d)) else .bad
  | _ => .bad
def hNotIn : Dt → Dt → O Dt := fun d e => match e with
  | .list ds => if SeqAt.shaped d && SeqAt.shaped e then .ok (.bool (!ds.any fun z => PyData.eqv z d)) else .bad
  | .tuple ds => if SeqAt.shaped d && SeqAt.shaped e then .ok (.bool (!ds.any fun z => PyData.eqv z d)) else .bad
  | _ => .bad
def hLen : List Dt → O Dt := fun ds => match ds with
  | [.list xs] => .ok (.int xs.length)
  | [.tuple xs] => .ok (.int xs.length)
  | [.str x] => if x.length ≤ 100000 then .ok (.int x.length) else .bad
  | _ => .bad
def hMin2 : List Dt → O Dt := fun ds => match ds with
  | [.int i, .int j] => .ok (.int (if j < i then j else i))
  | _ => .bad
def hMax2 : List Dt → O Dt := fun ds => match ds with
  | [.int i, .int j] => .ok (.int (if j > i then j else i))
  | _ => .bad
def hMin3 : List Dt → O Dt := fun ds => match ds with
  | [.int i, .int j, .int k] => .ok (.int (if j < i then (if k < j then k else j) else (if k < i then k else i)))
  | _ => .bad
def hBits : Dt → O Dt := fun d => match d with
  | .int i => .ok (.int (Builtin.Int.intBits i : Nat))
  | _ => .bad
def hInt1 : List Dt → O Dt := fun ds => match ds with
  | [.int i] => .ok (.int i)
  | [.bool k] => .ok (.int (if k then 1 else 0))
  | _ => .bad
def allB : List Dt → Option (List Bool)
  | [] => some []
  | .bool b :: r => (allB r).map (b :: ·)
  | _ => none
def allI : List Dt → Option (List Int)
  | [] => some []
  | .int b :: r => (allI r).map (b :: ·)
  | _ => none
def hAll : List Dt → O Dt := fun ds => match ds with
  | [.list xs] => match allB xs with
    | some bs => .ok (.bool (bs.all id))
    | none => .bad
  | _ => .bad
def hAny : List Dt → O Dt := fun ds => match ds with
  | [.list xs] => match allB xs with
    | some bs => .ok (.bool (bs.any id))
    | none => .bad
  | _ => .bad
section
variable {K : PySem.W.Frag}
theorem scl_I0 {g} : Scl2 (hI0 g) := fun d e => by cases d <;> cases e <;> first | exact .inr rfl | exact .inl ⟨_, rfl, rfl⟩
theorem scl_B0 {g} : Scl2 (hB0 g) := fun d e => by cases d <;> cases e <;> first | exact .inr rfl | exact .inl ⟨_, rfl, rfl⟩
theorem scl_I {C g} : Scl2 (hI C g) := fun d e => by
  cases d <;> cases e <;> first | exact .inr rfl | skip
  unfold hI
  simp only
  split
  · exact .inl ⟨_, rfl, rfl⟩
  · exact .inr rfl
theorem osc_I0 {g : Int → Int → Int} : OSc K (rI0 fun i j => .int (g i j)) (hI0 g) := fun H x y d e Q hx hy h => by
  cases hx <;> first | exact h.elim | skip
  cases hy <;> first | exact h.elim | skip
  exact ⟨_, _, rfl, rfl, h.2 _ (.int _)⟩
theorem osc_B0 {g : Int → Int → Bool} : OSc K (rI0 fun i j => .bl (g i j)) (hB0 g) := fun H x y d e Q hx hy h => by
  cases hx <;> first | exact h.elim | skip
  cases hy <;> first | exact h.elim | skip
  exact ⟨_, _, rfl, rfl, h.2 _ (.bl _)⟩
theorem osc_I {C : Int → Int → Bool} {C' : Int → Int → Prop} {g : Int → Int → Int} (hc : ∀ i j, C i j = true → C' i j) : OSc K (rI C' fun i j => .int (g i j)) (hI C g) := fun H x y d e Q hx hy h => by
  cases hx <;> first | exact h.elim | skip
  cases hy <;> first | exact h.elim | skip
  rename_i i j
  unfold hI at h
  simp only at h
  by_cases c : C i j = true
  · rw [if_pos c] at h
    exact ⟨_, _, rfl, rfl, hc _ _ c, h.2 _ (.int _)⟩
  · rw [if_neg c] at h
    exact h.elim
theorem usc_U {g : Int → Int} : USc K (rU fun i => .int (g i)) (hU g) := fun H x d Q hx h => by
  cases hx <;> first | exact h.elim | skip
  exact ⟨_, rfl, h.2 _ (.int _)⟩
theorem scl_U {g} : Scl1 (hU g) := fun d => by cases d <;> first | exact .inr rfl | exact .inl ⟨_, rfl, rfl⟩
theorem cMul_ok {i j : Int} (h : cMul i j = true) : CMul i j := by
  unfold cMul at h
  rw [Bool.or_eq_true, decide_eq_true_eq, decide_eq_true_eq] at h
  rcases h with h | h
  · exact .inl (by omega)
  · exact .inr (by omega)
theorem cDiv_ok {i j : Int} (h : cDiv i j = true) : CDivW i j := by
  unfold cDiv at h
  rw [Bool.and_eq_true, decide_eq_true_eq, decide_eq_true_eq] at h
  exact wide_div h.1 h.2 (by decide) (by decide)
theorem cMod_ok {i j : Int} (h : cMod i j = true) : 0 < j := by
  unfold cMod at h
  rw [decide_eq_true_eq] at h
  exact h
theorem cPow_ok {i j : Int} (h : cPow i j = true) : CPow i j := by
  unfold cPow at h
  rw [Bool.and_eq_true, Bool.and_eq_true, decide_eq_true_eq, decide_eq_true_eq, decide_eq_true_eq] at h
  exact ⟨h.1.1, h.1.2, h.2⟩
theorem scl_eq : Scl2 hEq := fun d e => by
  unfold hEq
  split
  · exact .inl ⟨_, rfl, rfl⟩
  · exact .inr rfl
theorem scl_ne : Scl2 hNe := fun d e => by
  unfold hNe
  split
  · exact .inl ⟨_, rfl, rfl⟩
  · exact .inr rfl
theorem osc_eq : OSc K (rEqD K) hEq := fun H x y d e Q hx hy h => by
  unfold hEq at h
  by_cases c : (SeqAt.shaped d && SeqAt.shaped e) = true
  · rw [if_pos c] at h
    rw [Bool.and_eq_true] at c
    exact ⟨d, e, hx.dp (shaped_lay c.1), hy.dp (shaped_lay c.2), c.1, c.2, h.2 _ (.bl _)⟩
  · rw [if_neg c] at h
    exact h.elim
theorem osc_ne : OSc K (rNeD K) hNe := fun H x y d e Q hx hy h => by
  unfold hNe at h
  by_cases c : (SeqAt.shaped d && SeqAt.shaped e) = true
  · rw [if_pos c] at h
    rw [Bool.and_eq_true] at c
    exact ⟨d, e, hx.dp (shaped_lay c.1), hy.dp (shaped_lay c.2), c.1, c.2, h.2 _ (.bl _)⟩
  · rw [if_neg c] at h
    exact h.elim
def rInDT (K : PySem.W.Frag) (neg : Bool) : R2 := fun x y H Q => ∃ d e ds, Dp K H x d ∧ Dp K H y e ∧ (e = .list ds ∨ e = .tuple ds) ∧ SeqAt.shaped d = true ∧ SeqAt.shaped e = true ∧ Q (.bl (if neg then !ds.any fun z => PyData.eqv z d else ds.any fun z => PyData.eqv z d)) H
theorem room_in_any {A : Around} {d e : PyData} {ds : List PyData} (sd : SeqAt.shaped d = true) (hu : A.units + 65 < cLine) : A.units + 1 + min (PyData.depthAll ds) d.depth < cLine := by
  have h1 := SeqAt.depth_of_shaped sd
  have h2 : min (PyData.depthAll ds) d.depth ≤ d.depth := Nat.min_le_right _ _
  omega
theorem op_inDT {X : Cx} (hu : X.A.units + 65 < cLine) : OpR X (compareOp .In) (rInDT X.K false) := by
  intro pins s σ H x y v u Q I rx ry h
  obtain ⟨d, e, ds, hd, he, ee, sd, se, q⟩ := h
  obtain ⟨as, r1⟩ := Dp.reads I d x v hd rx
  obtain ⟨bs, r2⟩ := Dp.reads I e y u he ry
  rcases ee with rfl | rfl
  · exact SeqAt.in_list_reads r2 r1 (SeqAt.canLay_of_shaped se) (SeqAt.canLay_of_shaped sd) (room_in_any (e := d) sd hu) ⟨.bl _, H, I, rfl, q⟩
  · exact SeqAt.in_tuple_reads r2 r1 (SeqAt.canLay_of_shaped se) (SeqAt.canLay_of_shaped sd) (room_in_any (e := d) sd hu) ⟨.bl _, H, I, rfl, q⟩
theorem op_notInDT {X : Cx} (hu : X.A.units + 65 < cLine) : OpR X (compareOp .NotIn) (rInDT X.K true) := by
  intro pins s σ H x y v u Q I rx ry h
  obtain ⟨d, e, ds, hd, he, ee, sd, se, q⟩ := h
  obtain ⟨as, r1⟩ := Dp.reads I d x v hd rx
  obtain ⟨bs, r2⟩ := Dp.reads I e y u he ry
  rcases ee with rfl | rfl
  · exact SeqAt.notIn_list_reads r2 r1 (SeqAt.canLay_of_shaped se) (SeqAt.canLay_of_shaped sd) (room_in_any (e := d) sd hu) ⟨.bl _, H, I, rfl, q⟩
  · exact SeqAt.notIn_tuple_reads r2 r1 (SeqAt.canLay_of_shaped se) (SeqAt.canLay_of_shaped sd) (room_in_any (e := d) sd hu) ⟨.bl _, H, I, rfl, q⟩
theorem scl_in : Scl2 hIn := fun d e => by
  unfold hIn
  cases e <;> first | exact .inr rfl | (simp only; split <;> first | exact .inl ⟨_, rfl, rfl⟩ | exact .inr rfl)
theorem scl_notIn : Scl2 hNotIn := fun d e => by
  unfold hNotIn
  cases e <;> first | exact .inr rfl | (simp only; split <;> first | exact .inl ⟨_, rfl, rfl⟩ | exact .inr rfl)
theorem osc_in : OSc K (rInDT K false) hIn := fun H x y d e Q hx hy h => by
  unfold hIn at h
  cases e <;> first | exact h.elim | skip
  all_goals rename_i ds
  · simp only at h
    generalize he : (PyData.list ds : PyData) = e at h hy
    by_cases c : (SeqAt.shaped d && SeqAt.shaped e) = true
    · rw [if_pos c] at h
      rw [Bool.and_eq_true] at c
      exact ⟨d, e, ds, hx.dp (shaped_lay c.1), hy.dp (shaped_lay c.2), .inl he.symm, c.1, c.2, h.2 _ (.bl _)⟩
    · rw [if_neg c] at h
      exact h.elim
  · simp only at h
    generalize he : (PyData.tuple ds : PyData) = e at h hy
    by_cases c : (SeqAt.shaped d && SeqAt.shaped e) = true
    · rw [if_pos c] at h
      rw [Bool.and_eq_true] at c
      exact ⟨d, e, ds, hx.dp (shaped_lay c.1), hy.dp (shaped_lay c.2), .inr he.symm, c.1, c.2, h.2 _ (.bl _)⟩
    · rw [if_neg c] at h
      exact h.elim
theorem osc_notIn : OSc K (rInDT K true) hNotIn := fun H x y d e Q hx hy h => by
  unfold hNotIn at h
  cases e <;> first | exact h.elim | skip
  all_goals rename_i ds
  · simp only at h
    generalize he : (PyData.list ds : PyData) = e at h hy
    by_cases c : (SeqAt.shaped d && SeqAt.shaped e) = true
    · rw [if_pos c] at h
      rw [Bool.and_eq_true] at c
      exact ⟨d, e, ds, hx.dp (shaped_lay c.1), hy.dp (shaped_lay c.2), .inl he.symm, c.1, c.2, h.2 _ (.bl _)⟩
    · rw [if_neg c] at h
      exact h.elim
  · simp only at h
    generalize he : (PyData.tuple ds : PyData) = e at h hy
    by_cases c : (SeqAt.shaped d && SeqAt.shaped e) = true
    · rw [if_pos c] at h
      rw [Bool.and_eq_true] at c
      exact ⟨d, e, ds, hx.dp (shaped_lay c.1), hy.dp (shaped_lay c.2), .inr he.symm, c.1, c.2, h.2 _ (.bl _)⟩
    · rw [if_neg c] at h
      exact h.elim
theorem Rp.lenV {F : Addr → Prop} {H : Hp} {v : V} {xs : List Dt} (h : Rp K F H v (.list xs)) : LenV K v H xs.length := by
  cases h with
  | lst h _ r => exact .inl ⟨_, .inl (.inl h), by first | exact r.length | exact r.length.symm⟩
theorem Rp.lenVt {F : Addr → Prop} {H : Hp} {v : V} {xs : List Dt} (h : Rp K F H v (.tuple xs)) : LenV K v H xs.length := by
  cases h with
  | tup h r => exact .inr ⟨_, h, by first | exact r.length | exact r.length.symm⟩
theorem csc_len : CSc K (fun xs H Q => ∃ x n, xs = [x] ∧ LenV K x H n ∧ Q (.int n) H) hLen := fun H xs ds Q hx h => by
  unfold hLen at h
  split at h
  · rename_i e
    split at e
    · cases hx with
      | cons h1 h2 =>
        cases h2
        cases e
        exact ⟨_, _, rfl, h1.lenV, h.2 _ (.int _)⟩
    · cases hx with
      | cons h1 h2 =>
        cases h2
        cases e
        exact ⟨_, _, rfl, h1.lenVt, h.2 _ (.int _)⟩
    · split at e
      · rename_i c
        cases e
        cases hx with
        | cons h1 h2 =>
          cases h2
          cases h1
          exact ⟨_, _, rfl, ⟨sz_le c, rfl⟩, h.2 _ (.int _)⟩
      · cases e
    · cases e
  · exact h.elim
theorem scl_len : SclA hLen := fun ds => by
  unfold hLen
  split
  · exact .inl ⟨_, rfl, rfl⟩
  · exact .inl ⟨_, rfl, rfl⟩
  · split
    · exact .inl ⟨_, rfl, rfl⟩
    · exact .inr rfl
  · exact .inr rfl
theorem rpInt {F : Addr → Prop} {H : Hp} {v : V} {i : Int} (h : Rp K F H v (.int i)) : v = .int i := by cases h; rfl
theorem rpBl {F : Addr → Prop} {H : Hp} {v : V} {i : Bool} (h : Rp K F H v (.bool i)) : v = .bl i := by cases h; rfl
theorem csc_min2 : CSc K (fun xs H Q => ∃ i j, xs = [.int i, .int j] ∧ Q (.int (if j < i then j else i)) H) hMin2 := fun H xs ds Q hx h => by
  unfold hMin2 at h
  split at h
  · rename_i e
    split at e
    · cases hx with
      | cons h1 h2 =>
        cases h2 with
        | cons h2 h3 =>
          cases h3
          cases e
          rw [rpInt h1, rpInt h2]
          exact ⟨_, _, rfl, h.2 _ (.int _)⟩
    · cases e
  · exact h.elim
theorem scl_min2 : SclA hMin2 := fun ds => by
  unfold hMin2
  split
  · exact .inl ⟨_, rfl, rfl⟩
  · exact .inr rfl
theorem csc_max2 : CSc K (fun xs H Q => ∃ i j, xs = [.int i, .int j] ∧ Q (.int (if j > i then j else i)) H) hMax2 := fun H xs ds Q hx h => by
  unfold hMax2 at h
  split at h
  · rename_i e
    split at e
    · cases hx with
      | cons h1 h2 =>
        cases h2 with
        | cons h2 h3 =>
          cases h3
          cases e
          rw [rpInt h1, rpInt h2]
          exact ⟨_, _, rfl, h.2 _ (.int _)⟩
    · cases e
  · exact h.elim
theorem scl_max2 : SclA hMax2 := fun ds => by
  unfold hMax2
  split
  · exact .inl ⟨_, rfl, rfl⟩
  · exact .inr rfl
theorem csc_int1 : CSc K (fun xs H Q => (∃ i, xs = [.int i] ∧ Q (.int i) H) ∨ ∃ k, xs = [.bl k] ∧ Q (.int (if k then 1 else 0)) H) hInt1 := fun H xs ds Q hx h => by
  unfold hInt1 at h
  split at h
  · rename_i e
    split at e
    · cases hx with
      | cons h1 h2 =>
        cases h2
        cases e
        rw [rpInt h1]
        exact .inl ⟨_, rfl, h.2 _ (.int _)⟩
    · cases hx with
      | cons h1 h2 =>
        cases h2
        cases e
        rw [rpBl h1]
        exact .inr ⟨_, rfl, h.2 _ (.int _)⟩
    · cases e
  · exact h.elim
theorem scl_int1 : SclA hInt1 := fun ds => by
  unfold hInt1
  split
  · exact .inl ⟨_, rfl, rfl⟩
  · exact .inl ⟨_, rfl, rfl⟩
  · exact .inr rfl
theorem rp_bools {F : Addr → Prop} {H : Hp} : ∀ {xs : List V} {ds : List Dt} {bs : List Bool}, RpA K F H xs ds → allB ds = some bs → xs = bs.map V.bl
  | _, _, _, .nil, e => by cases e; rfl
  | _, _, bs, .cons (d := d) h r, e => by
    cases h <;> first | (cases e; done) | skip
    rename_i b _ _
    unfold allB at e
    cases q : allB _ with
    | none => rw [q] at e; cases e
    | some cs =>
      rw [q] at e
      cases e
      rw [rp_bools r q]
      rfl
theorem Rp.sql {F : Addr → Prop} {H : Hp} {v : V} {ds : List Dt} (h : Rp K F H v (.list ds)) : ∃ a xs, v = .ref a ∧ SqL K H a xs ∧ RpA K F H xs ds := by
  cases h with
  | lst h _ r => exact ⟨_, _, rfl, .inl (.inl h), r⟩
theorem csc_all : CSc K (rAll K) hAll := fun H xs ds Q hx h => by
  unfold hAll at h
  split at h
  · rename_i e
    split at e
    · split at e
      · rename_i bs eb
        cases e
        cases hx with
        | cons h1 h2 =>
          cases h2
          obtain ⟨a, ys, rfl, hs, r⟩ := h1.sql
          rw [rp_bools r eb] at hs
          exact ⟨a, bs, rfl, hs, h.2 _ (.bl _)⟩
      · cases e
    · cases e
  · exact h.elim
theorem scl_all : SclA hAll := fun ds => by
  unfold hAll
  split
  · split
    · exact .inl ⟨_, rfl, rfl⟩
    · exact .inr rfl
  · exact .inr rfl
theorem scl_any : SclA hAny := fun ds => by
  unfold hAny
  split
  · split
    · exact .inl ⟨_, rfl, rfl⟩
    · exact .inr rfl
  · exact .inr rfl
end
section
variable {X : Cx} {K : PySem.W.Frag} {W : Wt} {Δ : List Kd} {a b c e : Expr} {es : List Expr} {ta tb tc te : TE} {tt tu : TT} {tA : TA} {ga gb gc g : Gd} {gt gu : List Dt → O Bool} {gA : List Dt → O (List Dt)} {k k1 k2 : Rk} {av fr av' fr' : Bool} {pos : Pos}
theorem x_var (i : Nat) {x : Str} (hk : Δ[i]? = some (.im fr) := by rfl) (hN : X.N[i]? = some x := by rfl) (hv : Vis X.env.scope x := by first | exact Or.inl rfl | exact Or.inr (Or.inl rfl) | exact Or.inr (Or.inr rfl)) (hd : (x == ("__debug__" : Str)) = false := by decide)
    (hcd : (x == ("__classdict__" : Str)) = false := by decide) (hK : X.K = K := by rfl) : PD X K W Δ (.Name x pos) (tVar i) (.v true fr) (gVar i) := ⟨pe_var hN hv hd hcd, hK, se_var hk⟩
theorem x_own (i : Nat) {x : Str} (hk : Δ[i]? = some (.own .l fr) := by rfl) (hN : X.N[i]? = some x := by rfl) (hv : Vis X.env.scope x := by first | exact Or.inl rfl | exact Or.inr (Or.inl rfl) | exact Or.inr (Or.inr rfl)) (hd : (x == ("__debug__" : Str)) = false := by decide)
    (hcd : (x == ("__classdict__" : Str)) = false := by decide) (hK : X.K = K := by rfl) : PD X K W Δ (.Name x pos) (tVar i) (.o fr) (gVar i) := ⟨pe_var hN hv hd hcd, hK, se_own hk⟩
theorem x_int {i : Int} {j} (hK : X.K = K := by rfl) : PD X K W Δ (.Constant (.int i) j pos) (tC (.int i)) (.v true true) (gC (.int i)) := ⟨pe_int, hK, se_int⟩
theorem x_bl {i : Bool} {j} (hK : X.K = K := by rfl) : PD X K W Δ (.Constant (.bool i) j pos) (tC (.bl i)) (.v true true) (gC (.bool i)) := ⟨pe_bl, hK, se_bl⟩
theorem x_non {j} (hK : X.K = K := by rfl) : PD X K W Δ (.Constant .none j pos) (tC .non) (.v true true) (gC .none) := ⟨pe_non, hK, se_non⟩
theorem x_str {x : Str} {j} (hK : X.K = K := by rfl) : PD X K W Δ (.Constant (.str x) j pos) (tC (.str x)) (.v true true) (gC (.str x)) := ⟨pe_str, hK, se_str⟩
theorem x_glob {x : Str} {v : V} {u : Value} {d : Dt} (hm : X.mg x = some u) (r : RelV v u) (hr : Rp K (fun _ => False) (fun _ => none) v d) (s : scl d = true := by rfl) (hg : Gl X x := by rfl) (hd : (x == ("__debug__" : Str)) = false := by decide) (hK : X.K = K := by rfl) :
    PD X K W Δ (.Name x pos) (tC v) (.v true true) (gC d) := ⟨pe_glob hg hm r hd, hK, se_c hr s⟩
theorem PD.wk (h : PD X K W Δ e te (.v av fr) g) (h1 : av' = true → av = true := by decide) (h2 : fr' = true → fr = true := by decide) : PD X K W Δ e te (.v av' fr') g := ⟨h.pe, h.hK, h.se.wk h1 h2⟩
theorem PD.ov (h : PD X K W Δ e te (.o fr) g) : PD X K W Δ e te (.v false fr) g := ⟨h.pe, h.hK, h.se.ov⟩
theorem PD.nv (h : PD X K W Δ e te (.new .l fr) g) : PD X K W Δ e te (.v true fr) g := ⟨h.pe, h.hK, h.se.nv⟩
theorem PD.no (h : PD X K W Δ e te (.new .l fr) g) : PD X K W Δ e te (.o fr) g := ⟨h.pe, h.hK, h.se.no⟩
theorem PD.pur (h : PD X K W Δ e te (.v av fr) g) : PD X K W Δ e te (.v true true) (gPur g) := ⟨h.pe, h.hK, h.se.pur⟩
theorem PD.purN (h : PD X K W Δ e te (.new .l fr) g) : PD X K W Δ e te (.new .l true) (gPurN g) := ⟨h.pe, h.hK, h.se.purN⟩
theorem x_add (ha : PD X K W Δ a ta (.v av fr) ga) (hb : PD X K W Δ b tb (.v av' fr') gb) : PD X K W Δ (.BinOp a .Add b pos) (tOp (rI0 fun i j => .int (i + j)) ta tb) (.v true true) (gOp hAdd ga gb) := ⟨pe_op op_add ha.pe hb.pe, ha.hK, se_op scl_I0 osc_I0 ha.se hb.se⟩
theorem x_sub (ha : PD X K W Δ a ta (.v av fr) ga) (hb : PD X K W Δ b tb (.v av' fr') gb) : PD X K W Δ (.BinOp a .Sub b pos) (tOp (rI0 fun i j => .int (i - j)) ta tb) (.v true true) (gOp hSub ga gb) := ⟨pe_op op_sub ha.pe hb.pe, ha.hK, se_op scl_I0 osc_I0 ha.se hb.se⟩
theorem x_mul (ha : PD X K W Δ a ta (.v av fr) ga) (hb : PD X K W Δ b tb (.v av' fr') gb) : PD X K W Δ (.BinOp a .Mult b pos) (tOp (rI CMul fun i j => .int (i * j)) ta tb) (.v true true) (gOp hMul ga gb) := ⟨pe_op op_mul ha.pe hb.pe, ha.hK, se_op scl_I (osc_I fun _ _ => cMul_ok) ha.se hb.se⟩
theorem x_div (ha : PD X K W Δ a ta (.v av fr) ga) (hb : PD X K W Δ b tb (.v av' fr') gb) : PD X K W Δ (.BinOp a .FloorDiv b pos) (tOp (rI CDivW fun i j => .int (i / j)) ta tb) (.v true true) (gOp hDiv ga gb) := ⟨pe_op op_fdivW ha.pe hb.pe, ha.hK, se_op scl_I (osc_I fun _ _ => cDiv_ok) ha.se hb.se⟩
theorem x_mod (ha : PD X K W Δ a ta (.v av fr) ga) (hb : PD X K W Δ b tb (.v av' fr') gb) : PD X K W Δ (.BinOp a .Mod b pos) (tOp (rI (fun _ j => 0 < j) fun i j => .int (i % j)) ta tb) (.v true true) (gOp hMod ga gb) := ⟨pe_op op_mod ha.pe hb.pe, ha.hK, se_op scl_I (osc_I fun _ _ => cMod_ok) ha.se hb.se⟩
theorem x_pow (ha : PD X K W Δ a ta (.v av fr) ga) (hb : PD X K W Δ b tb (.v av' fr') gb) : PD X K W Δ (.BinOp a .Pow b pos) (tOp (rI CPow fun i j => .int (i ^ j.toNat)) ta tb) (.v true true) (gOp hPow ga gb) := ⟨pe_op op_pow ha.pe hb.pe, ha.hK, se_op scl_I (osc_I fun _ _ => cPow_ok) ha.se hb.se⟩
theorem x_neg (ha : PD X K W Δ a ta (.v av fr) ga) : PD X K W Δ (.UnaryOp .USub a pos) (tUn (rU fun i => .int (-i)) ta) (.v true true) (gUn (hU fun i => -i) ga) := ⟨pe_un un_neg ha.pe, ha.hK, se_un scl_U usc_U ha.se⟩
theorem c_val (h : PD X K W Δ e te (.v av fr) g) (he : ∀ whole, isTrue e X.env whole = (do let v ← whole; standAt e.pos; holding [v] (truthy v)) := by intro _; rfl) : TD X K W Δ e (tB te) (gTest g) := ⟨pt_val h.pe he, h.hK, st_B h.se⟩
theorem c_not (h : TD X K W Δ a tt gt) : TD X K W Δ (.UnaryOp .Not a pos) (tNot tt) (gNot gt) := ⟨pt_not h.pt, h.hK, st_not h.st⟩
theorem w_and1 (h : TD X K W Δ a tt gt) : WD X K W Δ (.BoolOp .And [a] pos) tt gt := ⟨pw_and1 h.pt, h.hK, h.st⟩
theorem w_or1 (h : TD X K W Δ a tt gt) : WD X K W Δ (.BoolOp .Or [a] pos) tt gt := ⟨pw_or1 h.pt, h.hK, h.st⟩
theorem w_and (h : TD X K W Δ a tt gt) (h2 : WD X K W Δ (.BoolOp .And (b :: es) pos) tu gu) : WD X K W Δ (.BoolOp .And (a :: b :: es) pos) (tAnd tt tu) (gAnd gt gu) := ⟨pw_and h.pt h2.pw, h.hK, st_and h.st h2.st⟩
theorem w_or (h : TD X K W Δ a tt gt) (h2 : WD X K W Δ (.BoolOp .Or (b :: es) pos) tu gu) : WD X K W Δ (.BoolOp .Or (a :: b :: es) pos) (tOr tt tu) (gOr gt gu) := ⟨pw_or h.pt h2.pw, h.hK, st_or h.st h2.st⟩
theorem c_w (h : WD X K W Δ e tt gt) : TD X K W Δ e tt gt := ⟨h.pw.pt, h.hK, h.st⟩
theorem x_ifE (h : TD X K W Δ c tt gt) (ha : PD X K W Δ a ta k ga) (hb : PD X K W Δ b tb k gb) : PD X K W Δ (.IfExp c a b pos) (tIf tt ta tb) k (gIf gt ga gb) := ⟨pe_ifExp h.pt ha.pe hb.pe, h.hK, se_if h.st ha.se hb.se⟩
theorem x_one {op} (h : PD X K W Δ a ta k ga) : PD X K W Δ (.BoolOp op [a] pos) ta k ga := ⟨pe_one h.pe, h.hK, h.se⟩
theorem x_and (ha : PD X K W Δ a ta (.v av fr) ga) (hb : PD X K W Δ (.BoolOp .And (b :: es) pos) tb (.v true true) gb) : PD X K W Δ (.BoolOp .And (a :: b :: es) pos) (tAndV ta tb) (.v true true) (gAndV ga gb) := ⟨pe_and ha.pe hb.pe, ha.hK, se_andV ha.se hb.se⟩
theorem x_not (ha : PD X K W Δ a ta (.v av fr) ga) : PD X K W Δ (.UnaryOp .Not a pos) (tNotV ta) (.v true true) (gNotV ga) := ⟨pe_not ha.pe, ha.hK, se_notV ha.se⟩
theorem a_nil (hK : X.K = K := by rfl) : AD X K W Δ [] tNil true true gNil := ⟨pa_nil, hK, sa_nil⟩
theorem a_cons (ha : PD X K W Δ a ta (.v av fr) ga) (hr : AD X K W Δ es tA av' fr' gA) (hs : starEach (a :: es) X.env = (false, eval a X.env) :: starEach es X.env := by rfl) : AD X K W Δ (a :: es) (tCons ta tA) (av && av') (fr && fr') (gCons ga gA) := ⟨pa_cons ha.pe hr.pa hs, ha.hK, sa_cons ha.se hr.sa⟩
theorem AD.wk (h : AD X K W Δ es tA av fr gA) (h1 : av' = true → av = true := by decide) (h2 : fr' = true → fr = true := by decide) : AD X K W Δ es tA av' fr' gA := ⟨h.pa, h.hK, h.sa.wk h1 h2⟩
theorem x_tup {x1} (h : AD X K W Δ es tA av fr gA) : PD X K W Δ (.Tuple es x1 pos) (tTup tA) (.v av fr) (gTup gA) := ⟨pe_tup h.pa, h.hK, se_tup h.sa⟩
theorem x_lst (h : AD X K W Δ es tA true fr gA) : PD X K W Δ (.List es pos) (tLst tA) (.new .l fr) (gLst gA) := ⟨pe_lst h.pa, h.hK, se_lst h.sa⟩
theorem x_len {x : Str} {p : Pos} (hm : X.mg x = none) (h : AD X K W Δ (e :: es) tA av fr gA) (hv : bootBuiltins x = some (.builtin "len") := by decide +kernel) (hg : Gl X x := by rfl) (hn : x ≠ "__name__" := by decide) (hdb : (x == ("__debug__" : Str)) = false := by decide)
    (he : starEach (e :: es) X.env = (false, eval e X.env) :: starEach es X.env := by rfl) (hpl : (backTo pos (starEach es X.env)).any (·.1) = false := by rfl) :
    PD X K W Δ (.Call (.Name x p) (e :: es) [] pos) (tCB (fun xs H Q => ∃ x n, xs = [x] ∧ LenV K x H n ∧ Q (.int n) H) tA) (.v true true) (gCB hLen gA) :=
  ⟨pe_callB (by have q := call_len (X := X); rw [h.hK] at q; exact q) hg hm hv h.pa hn hdb he hpl, h.hK, se_cb scl_len csc_len h.sa⟩
theorem x_min2 {x : Str} {p : Pos} (hm : X.mg x = none) (h : AD X K W Δ (e :: es) tA av fr gA) (hc : X.calm = true := by rfl) (hv : bootBuiltins x = some (.builtin "min") := by decide +kernel) (hg : Gl X x := by rfl) (hn : x ≠ "__name__" := by decide) (hdb : (x == ("__debug__" : Str)) = false := by decide)
    (he : starEach (e :: es) X.env = (false, eval e X.env) :: starEach es X.env := by rfl) (hpl : (backTo pos (starEach es X.env)).any (·.1) = false := by rfl) :
    PD X K W Δ (.Call (.Name x p) (e :: es) [] pos) (tCB (fun xs H Q => ∃ i j, xs = [.int i, .int j] ∧ Q (.int (if j < i then j else i)) H) tA) (.v true true) (gCB hMin2 gA) := ⟨pe_callB (call_min2 hc) hg hm hv h.pa hn hdb he hpl, h.hK, se_cb scl_min2 csc_min2 h.sa⟩
theorem x_max2 {x : Str} {p : Pos} (hm : X.mg x = none) (h : AD X K W Δ (e :: es) tA av fr gA) (hc : X.calm = true := by rfl) (hv : bootBuiltins x = some (.builtin "max") := by decide +kernel) (hg : Gl X x := by rfl) (hn : x ≠ "__name__" := by decide) (hdb : (x == ("__debug__" : Str)) = false := by decide)
    (he : starEach (e :: es) X.env = (false, eval e X.env) :: starEach es X.env := by rfl) (hpl : (backTo pos (starEach es X.env)).any (·.1) = false := by rfl) :
    PD X K W Δ (.Call (.Name x p) (e :: es) [] pos) (tCB (fun xs H Q => ∃ i j, xs = [.int i, .int j] ∧ Q (.int (if j > i then j else i)) H) tA) (.v true true) (gCB hMax2 gA) := ⟨pe_callB (call_max2 hc) hg hm hv h.pa hn hdb he hpl, h.hK, se_cb scl_max2 csc_max2 h.sa⟩
theorem x_int1 {x : Str} {p : Pos} (hm : X.mg x = none) (h : AD X K W Δ (e :: es) tA av fr gA) (hv : bootBuiltins x = some (.type "int") := by decide +kernel) (hg : Gl X x := by rfl) (hn : x ≠ "__name__" := by decide) (hdb : (x == ("__debug__" : Str)) = false := by decide)
    (he : starEach (e :: es) X.env = (false, eval e X.env) :: starEach es X.env := by rfl) (hpl : (backTo pos (starEach es X.env)).any (·.1) = false := by rfl) :
    PD X K W Δ (.Call (.Name x p) (e :: es) [] pos) (tCB (fun xs H Q => (∃ i, xs = [.int i] ∧ Q (.int i) H) ∨ ∃ k, xs = [.bl k] ∧ Q (.int (if k then 1 else 0)) H) tA) (.v true true) (gCB hInt1 gA) := ⟨pe_callTy call_int1 hg hm hv h.pa hn hdb he hpl, h.hK, se_cb scl_int1 csc_int1 h.sa⟩
theorem x_all {x : Str} {p : Pos} (hm : X.mg x = none) (h : AD X K W Δ (e :: es) tA av fr gA) (hc : X.calm = true := by rfl) (hv : bootBuiltins x = some (.builtin "all") := by decide +kernel) (hg : Gl X x := by rfl) (hn : x ≠ "__name__" := by decide) (hdb : (x == ("__debug__" : Str)) = false := by decide)
    (he : starEach (e :: es) X.env = (false, eval e X.env) :: starEach es X.env := by rfl) (hpl : (backTo pos (starEach es X.env)).any (·.1) = false := by rfl) :
    PD X K W Δ (.Call (.Name x p) (e :: es) [] pos) (tCB (rAll K) tA) (.v true true) (gCB hAll gA) := ⟨pe_callB (by have q := cr_all (X := X) hc; rw [h.hK] at q; exact q) hg hm hv h.pa hn hdb he hpl, h.hK, se_cb scl_all csc_all h.sa⟩
end
end Sim
end T_SimC
section T_SimD
set_option Elab.async false
set_option linter.all false
set_option maxRecDepth 100000
namespace Sim
open PySem PySem.Spec L2
open PyProof.Rows hiding St
def cutD (xs : List Dt) (lo hi : Option Int) : List Dt := (xs.drop (HT.sIx xs.length 0 lo)).take (HT.sIx xs.length xs.length hi - HT.sIx xs.length 0 lo)
def hIx : Dt → Dt → O Dt := fun d e => match d, e with
  | .list ds, .int i => match atI ds i with
    | some z => .ok z
    | none => .bad
  | .tuple ds, .int i => match atI ds i with
    | some z => .ok z
    | none => .bad
  | .str z, .int i => if z.length ≤ 100000 then (match atI z.cps.toList i with
    | some c => .ok (.str ⟨#[c]⟩)
    | none => .bad) else .bad
  | _, _ => .bad
def hSl : Dt → Option Int → Option Int → O Dt := fun d lo hi => match d with
  | .list ds => .ok (.list (cutD ds lo hi))
  | _ => .bad
def gSl (h : Dt → Option Int → Option Int → O Dt) (g : Gd) (gl gh : List Dt → O (Option Int)) : Gd := fun ρ => bnd (g ρ) fun d => bnd (gl ρ) fun lo => bnd (gh ρ) fun hi => h d lo hi
def gNoPart : List Dt → O (Option Int) := fun _ => .ok none
def gPart (g : Gd) : List Dt → O (Option Int) := fun ρ => bnd (g ρ) fun d => match d with
  | .int i => .ok (some i)
  | _ => .bad
def hCat : Dt → Dt → O Dt := fun d e => match d, e with
  | .list xs, .list ys => if xs.length + ys.length ≤ 100000 then .ok (.list (xs ++ ys)) else .bad
  | _, _ => .bad
def hRep : Dt → Dt → O Dt := fun d e => match d, e with
  | .list xs, .int k => if -(2 ^ 63) ≤ k ∧ k < 2 ^ 63 ∧ xs.length * k.toNat ≤ 100000 then .ok (.list (List.replicate k.toNat xs).flatten) else .bad
  | _, _ => .bad
def hListOf : Dt → O Dt := fun d => match d with
  | .list xs => .ok (.list xs)
  | .tuple xs => .ok (.list xs)
  | _ => .bad
def hTupOf : Dt → O Dt := fun d => match d with
  | .list xs => .ok (.tuple xs)
  | .tuple xs => .ok (.tuple xs)
  | _ => .bad
def one (h : Dt → O Dt) : List Dt → O Dt := fun ds => match ds with
  | [d] => h d
  | _ => .bad
section
variable {K : PySem.W.Frag} {W : Wt} {Δ : List Kd} {F : Addr → Prop} {H : Hp}
theorem RpA.ixN {vs : List V} {ds : List Dt} {i : Int} {z : Dt} (r : RpA K F H vs ds) (h : atI ds i = some z) : ∃ v, atI vs i = some v ∧ Rp K F H v z := by
  unfold atI at h ⊢
  rw [r.length]
  cases e : L2.ixN ds.length i with
  | none => rw [e] at h; cases h
  | some j =>
    rw [e] at h
    exact r.get' h
theorem Rp.sqt {v : V} {ds : List Dt} (h : Rp K F H v (.tuple ds)) : ∃ a xs, v = .ref a ∧ SqT K H a xs ∧ RpA K F H xs ds := by
  cases h with
  | tup h r => exact ⟨_, _, rfl, h, r⟩
theorem RpA.cut {vs : List V} {ds : List Dt} {lo hi : Option Int} (r : RpA K F H vs ds) : RpA K F H (cutV vs lo hi) (cutD ds lo hi) := by
  unfold cutV cutD
  rw [r.length]
  exact (r.drop _).take _
theorem se_ix {ta tb : TE} {ga gb : Gd} {av fr av' fr' : Bool} (ha : SE K W Δ ta (.v av fr) ga) (hb : SE K W Δ tb (.v av' fr') gb) : SE K W Δ (tOp (rIx K) ta tb) (.v av fr) (gOp hIx ga gb) := fun f ρ σ H Q R q => by
  refine ha f ρ σ H _ R ?_
  unfold gOp at q
  cases e1 : ga ρ with
  | bad => rw [e1] at q; exact q
  | ex z => rw [e1] at q; exact q
  | ok d =>
    rw [e1, bnd_ok] at q
    intro v H1 s1 x1
    refine hb f ρ σ H1 _ (R.mono s1) ?_
    cases e2 : gb ρ with
    | bad => rw [e2] at q; exact q
    | ex z => rw [e2] at q; exact fun H' s => q H' (s1.trans s)
    | ok d2 =>
      rw [e2, bnd_ok] at q
      intro v2 H2 s2 x2
      unfold hIx at q
      split at q
      · split at q
        · rename_i z hz
          obtain ⟨a, xs, rfl, hs, r⟩ := (x1.same s2).sql
          obtain ⟨w, hw, rw'⟩ := r.ixN hz
          rw [rpInt x2]
          exact .inl ⟨a, xs, _, w, rfl, rfl, hs, hw, q w H2 (s1.trans s2) rw'⟩
        · exact q.elim
      · split at q
        · rename_i z hz
          obtain ⟨a, xs, rfl, hs, r⟩ := (x1.same s2).sqt
          obtain ⟨w, hw, rw'⟩ := r.ixN hz
          rw [rpInt x2]
          exact .inr (.inl ⟨a, xs, _, w, rfl, rfl, hs, hw, q w H2 (s1.trans s2) rw'⟩)
        · exact q.elim
      · split at q
        · rename_i hl
          split at q
          · rename_i c hc
            rw [rpInt x2]
            cases x1
            exact .inr (.inr ⟨_, _, c, rfl, rfl, sz_le hl, hc, q _ H2 (s1.trans s2) (.str _)⟩)
          · exact q.elim
        · exact q.elim
      · exact q.elim
theorem se_ixO {ta tb : TE} {ga gb : Gd} {fr av' fr' : Bool} (ha : SE K W Δ ta (.o fr) ga) (hb : SE K W Δ tb (.v av' fr') gb) : SE K W Δ (tOp (rIx K) ta tb) (.v true fr) (gOp hIx ga gb) := fun f ρ σ H Q R q => by
  refine ha f ρ σ H _ R ?_
  unfold gOp at q
  cases e1 : ga ρ with
  | bad => rw [e1] at q; exact q
  | ex z => rw [e1] at q; exact q
  | ok d =>
    rw [e1, bnd_ok] at q
    intro p H1 vs ds ed s1 hp gp x1
    subst ed
    refine hb f ρ σ H1 _ (R.mono s1) ?_
    cases e2 : gb ρ with
    | bad => rw [e2] at q; exact q
    | ex z => rw [e2] at q; exact fun H' s => q H' (s1.trans s)
    | ok d2 =>
      rw [e2, bnd_ok] at q
      intro v2 H2 s2 x2
      unfold hIx at q
      cases d2 with
      | int i =>
        simp only at q
        cases hz : atI ds i with
        | some z =>
          rw [hz] at q
          obtain ⟨w, hw, rw'⟩ := (x1.same s2).ixN hz
          rw [rpInt x2]
          exact .inl ⟨p, vs, _, w, rfl, rfl, .inl (.inl (s2 _ _ hp)), hw, q w H2 (s1.trans s2) rw'⟩
        | none => rw [hz] at q; exact q.elim
      | _ => exact q.elim
abbrev TOp := L2.St → Hp → (Option Int → Hp → Prop) → Prop
def SO (K : PySem.W.Frag) (W : Wt) (Δ : List Kd) (to : TOp) (g : List Dt → O (Option Int)) : Prop := ∀ f ρ σ H Q, R K f Δ ρ σ H →
  (match g ρ with | .bad => False | .ex e => ∀ H', Same H H' → W e σ H' | .ok o => ∀ H', Same H H' → Q o H') → to σ H Q
theorem so_none : SO K W Δ tNoPart gNoPart := fun f ρ σ H Q R q => q H (Same.refl H)
theorem so_some {te : TE} {g : Gd} {av fr : Bool} (h : SE K W Δ te (.v av fr) g) : SO K W Δ (tPart te) (gPart g) := fun f ρ σ H Q R q => by
  refine h f ρ σ H _ R ?_
  unfold gPart at q
  cases e1 : g ρ with
  | bad => rw [e1] at q; exact q
  | ex z => rw [e1] at q; exact q
  | ok d =>
    rw [e1, bnd_ok] at q
    intro v H1 s1 x1
    cases d with
    | int i => rw [rpInt x1]; exact ⟨i, rfl, q H1 s1⟩
    | _ => exact q.elim
theorem se_sl {te : TE} {tl th : TOp} {g : Gd} {gl gh : List Dt → O (Option Int)} {fr : Bool} (h : SE K W Δ te (.v true fr) g) (h1 : SO K W Δ tl gl) (h2 : SO K W Δ th gh) : SE K W Δ (tSl (rSlL K) te tl th) (.new .l fr) (gSl hSl g gl gh) := fun f ρ σ H Q R q => by
  refine h f ρ σ H _ R ?_
  unfold gSl at q
  cases e1 : g ρ with
  | bad => rw [e1] at q; exact q
  | ex z => rw [e1] at q; exact q
  | ok d =>
    rw [e1, bnd_ok] at q
    intro v H1 s1 x1
    refine h1 f ρ σ H1 _ (R.mono s1) ?_
    cases e2 : gl ρ with
    | bad => rw [e2] at q; exact q
    | ex z => rw [e2] at q; exact fun H' s => q H' (s1.trans s)
    | ok lo =>
      rw [e2, bnd_ok] at q
      intro H2 s2
      refine h2 f ρ σ H2 _ ((R.mono s1).mono s2) ?_
      cases e3 : gh ρ with
      | bad => rw [e3] at q; exact q
      | ex z => rw [e3] at q; exact fun H' s => q H' ((s1.trans s2).trans s)
      | ok hi =>
        rw [e3, bnd_ok] at q
        intro H3 s3
        cases d with
        | list ds =>
          obtain ⟨a, xs, rfl, hs, r⟩ := (x1.same (s2.trans s3)).sql
          refine ⟨a, xs, rfl, hs, fun p np => ?_⟩
          have s123 := (s1.trans s2).trans s3
          exact q p _ (s123.free np) (s123.trans (same_upd np)) ⟨_, _, rfl, upd_same, (r.mono (same_upd np) fun a y z => ⟨y, fun e => z (e ▸ np)⟩).cut⟩
        | _ => exact q.elim
theorem se_slO {te : TE} {tl th : TOp} {g : Gd} {gl gh : List Dt → O (Option Int)} {fr : Bool} (h : SE K W Δ te (.o fr) g) (h1 : SO K W Δ tl gl) (h2 : SO K W Δ th gh) : SE K W Δ (tSl (rSlL K) te tl th) (.new .l fr) (gSl hSl g gl gh) := fun f ρ σ H Q R q => by
  refine h f ρ σ H _ R ?_
  unfold gSl at q
  cases e1 : g ρ with
  | bad => rw [e1] at q; exact q
  | ex z => rw [e1] at q; exact q
  | ok d =>
    rw [e1, bnd_ok] at q
    intro pp H1 vs ds ed s1 hp gp x1
    subst ed
    refine h1 f ρ σ H1 _ (R.mono s1) ?_
    cases e2 : gl ρ with
    | bad => rw [e2] at q; exact q
    | ex z => rw [e2] at q; exact fun H' s => q H' (s1.trans s)
    | ok lo =>
      rw [e2, bnd_ok] at q
      intro H2 s2
      refine h2 f ρ σ H2 _ ((R.mono s1).mono s2) ?_
      cases e3 : gh ρ with
      | bad => rw [e3] at q; exact q
      | ex z => rw [e3] at q; exact fun H' s => q H' ((s1.trans s2).trans s)
      | ok hi =>
        rw [e3, bnd_ok] at q
        intro H3 s3
        refine ⟨pp, vs, rfl, .inl (.inl (s3 _ _ (s2 _ _ hp))), fun p np => ?_⟩
        have s123 := (s1.trans s2).trans s3
        exact q p _ (s123.free np) (s123.trans (same_upd np)) ⟨_, _, rfl, upd_same, ((x1.same (s2.trans s3)).mono (same_upd np) fun a y z => ⟨y, fun e => z (e ▸ np)⟩).cut⟩
def rCatS (K : PySem.W.Frag) : R2 := fun x y H Q => ∃ l b xs zs, x = .ref l ∧ y = .ref b ∧ SqL K H l xs ∧ SqL K H b zs ∧ xs.length + zs.length ≤ sizeLine ∧ ∀ p, H p = none → Q (.ref p) (upd H p (.lst (xs ++ zs)))
theorem op_catS {X : Cx} : OpR X (binaryOp .Add) (rCatS X.K) := by
  intro pins s σ H x y v u Q I rx ry h
  obtain ⟨l, b, xs, zs, rfl, rfl, hH, hB, hz, q⟩ := h
  cases rx
  cases ry
  obtain ⟨its, r, ⟨⟨cls, dd, data, sl⟩, n, ho, hc, hd, hdt⟩, hl⟩ := I.list hH
  obtain ⟨its2, r2, ⟨⟨cls2, dd2, data2, sl2⟩, n2, ho2, hc2, hd2, hdt2⟩, hl2⟩ := I.list hB
  simp only at hc hdt hc2 hdt2
  subst hc hdt hc2 hdt2
  have ea : its.toArray ++ its2.toArray = (its ++ its2).toArray := by simp
  have e1 := r.length
  have e2 := r2.length
  refine concat_meets ⟨_, ho, rfl⟩ ⟨_, ho2, rfl⟩ noFill_list_add seq_list_add PySem.F.slot_list_add PySem.F.entry_list_add (PySem.F.args_list_add_2 _ _) (PyProof.Rows.list_addW l b its.toArray its2.toArray n n2 dd dd2 sl sl2 (by rw [List.size_toArray, List.size_toArray]; omega)) ⟨ho, ho2, ?_⟩
  rw [ea]
  exact ⟨.ref _, _, I.lnew (t' := s.toks) (r.append r2) (by rw [List.length_append]; omega), rfl, q _ I.fresh⟩
theorem se_cat {ta tb : TE} {ga gb : Gd} {fr fr' : Bool} (ha : SE K W Δ ta (.v true fr) ga) (hb : SE K W Δ tb (.v true fr') gb) : SE K W Δ (tOp (rCatS K) ta tb) (.new .l (fr && fr')) (gOp hCat ga gb) := fun f ρ σ H Q R q => by
  refine ha f ρ σ H _ R ?_
  unfold gOp at q
  cases e1 : ga ρ with
  | bad => rw [e1] at q; exact q
  | ex z => rw [e1] at q; exact q
  | ok d =>
    rw [e1, bnd_ok] at q
    intro v H1 s1 x1
    refine hb f ρ σ H1 _ (R.mono s1) ?_
    cases e2 : gb ρ with
    | bad => rw [e2] at q; exact q
    | ex z => rw [e2] at q; exact fun H' s => q H' (s1.trans s)
    | ok d2 =>
      rw [e2, bnd_ok] at q
      intro v2 H2 s2 x2
      unfold hCat at q
      split at q
      · split at q
        · rename_i hz
          obtain ⟨a, xs, rfl, hs, r⟩ := (x1.same s2).sql
          obtain ⟨b, ys, rfl, hs2, r2⟩ := x2.sql
          refine ⟨a, b, xs, ys, rfl, rfl, hs, hs2, sz_le (by rw [r.length, r2.length]; exact hz), fun p np => ?_⟩
          have s12 := s1.trans s2
          refine q p _ (s12.free np) (s12.trans (same_upd np)) ⟨_, _, rfl, upd_same, ?_⟩
          exact (r.mono (same_upd np) fun a y z => ⟨y.weak id (fun h => (Bool.and_eq_true_iff.mp h).1), fun e => z (e ▸ np)⟩).append
            (r2.mono (same_upd np) fun a y z => ⟨y.weak id (fun h => (Bool.and_eq_true_iff.mp h).2), fun e => z (e ▸ np)⟩)
        · exact q.elim
      · exact q.elim
theorem se_catO {ta tb : TE} {ga gb : Gd} {fr fr' : Bool} (ha : SE K W Δ ta (.o fr) ga) (hb : SE K W Δ tb (.v true fr') gb) : SE K W Δ (tOp (rCatS K) ta tb) (.new .l (fr && fr')) (gOp hCat ga gb) := fun f ρ σ H Q R q => by
  refine ha f ρ σ H _ R ?_
  unfold gOp at q
  cases e1 : ga ρ with
  | bad => rw [e1] at q; exact q
  | ex z => rw [e1] at q; exact q
  | ok d =>
    rw [e1, bnd_ok] at q
    intro pp H1 vs ds ed s1 hp gp x1
    subst ed
    refine hb f ρ σ H1 _ (R.mono s1) ?_
    cases e2 : gb ρ with
    | bad => rw [e2] at q; exact q
    | ex z => rw [e2] at q; exact fun H' s => q H' (s1.trans s)
    | ok d2 =>
      rw [e2, bnd_ok] at q
      intro v2 H2 s2 x2
      cases d2 with
      | list es =>
        unfold hCat at q
        simp only at q
        by_cases hz : ds.length + es.length ≤ 100000
        · rw [if_pos hz] at q
          obtain ⟨b, ys, rfl, hs2, r2⟩ := x2.sql
          have r := x1.same s2
          refine ⟨pp, b, vs, ys, rfl, rfl, .inl (.inl (s2 _ _ hp)), hs2, sz_le (by rw [r.length, r2.length]; exact hz), fun p np => ?_⟩
          have s12 := s1.trans s2
          refine q p _ (s12.free np) (s12.trans (same_upd np)) ⟨_, _, rfl, upd_same, ?_⟩
          exact (r.mono (same_upd np) fun a y z => ⟨y.weak id (fun h => (Bool.and_eq_true_iff.mp h).1), fun e => z (e ▸ np)⟩).append
            (r2.mono (same_upd np) fun a y z => ⟨y.weak id (fun h => (Bool.and_eq_true_iff.mp h).2), fun e => z (e ▸ np)⟩)
        · rw [if_neg hz] at q
          exact q.elim
      | _ => exact q.elim
theorem se_rep {ta tb : TE} {ga gb : Gd} {fr av' fr' : Bool} (ha : SE K W Δ ta (.new .l fr) ga) (hb : SE K W Δ tb (.v av' fr') gb) : SE K W Δ (tOp rRep ta tb) (.new .l fr) (gOp hRep ga gb) := fun f ρ σ H Q R q => by
  refine ha f ρ σ H _ R ?_
  unfold gOp at q
  cases e1 : ga ρ with
  | bad => rw [e1] at q; exact q
  | ex z => rw [e1] at q; exact q
  | ok d =>
    rw [e1, bnd_ok] at q
    intro pp H1 npp s1 x1
    obtain ⟨vs, ds, ed, hp, x1⟩ := x1
    subst ed
    refine hb f ρ σ H1 _ (R.mono s1) ?_
    cases e2 : gb ρ with
    | bad => rw [e2] at q; exact q
    | ex z => rw [e2] at q; exact fun H' s => q H' (s1.trans s)
    | ok d2 =>
      rw [e2, bnd_ok] at q
      intro v2 H2 s2 x2
      cases d2 with
      | int k =>
        unfold hRep at q
        simp only at q
        by_cases hz : -(2 ^ 63) ≤ k ∧ k < 2 ^ 63 ∧ ds.length * k.toNat ≤ 100000
        · rw [if_pos hz] at q
          have r := x1.same s2
          rw [rpInt x2]
          refine ⟨pp, k, vs, rfl, rfl, s2 _ _ hp, hz.1, hz.2.1, sz_le (by rw [r.length]; exact hz.2.2), fun p np => ?_⟩
          have s12 := s1.trans s2
          exact q p _ (s12.free np) (s12.trans (same_upd np)) ⟨_, _, rfl, upd_same, (r.mono (same_upd np) fun a y z => ⟨y.1, fun e => z (e ▸ np)⟩).flat _⟩
        · rw [if_neg hz] at q
          exact q.elim
      | _ => exact q.elim
theorem one_eq {h : Dt → O Dt} {ds : List Dt} : (∃ d, ds = [d] ∧ one h ds = h d) ∨ one h ds = .bad := by
  match ds with
  | [] => exact .inr rfl
  | [d] => exact .inl ⟨d, rfl, rfl⟩
  | _ :: _ :: _ => exact .inr rfl
def rListOf (K : PySem.W.Frag) : List V → Hp → VK → Prop := fun xs H Q => ∃ p ys, xs = [.ref p] ∧ (SqL K H p ys ∨ SqT K H p ys) ∧ ∀ l, H l = none → Q (.ref l) (upd H l (.lst ys))
theorem se_listOf {tA : TA} {gA : List Dt → O (List Dt)} {fr : Bool} (ha : SA K W Δ tA true fr gA) : SE K W Δ (tCB (rListOf K) tA) (.new .l fr) (gCB (one hListOf) gA) := fun f ρ σ H Q R q => by
  refine ha f ρ σ H _ R ?_
  unfold gCB at q
  cases e1 : gA ρ with
  | bad => rw [e1] at q; exact q
  | ex z => rw [e1] at q; exact q
  | ok ds =>
    rw [e1, bnd_ok] at q
    intro vs H1 s1 x1
    rcases one_eq (h := hListOf) (ds := ds) with ⟨d, rfl, e⟩ | e
    · rw [e] at q
      cases x1 with
      | cons x1 xr =>
        cases xr
        cases d with
        | list es =>
          obtain ⟨a, xs, rfl, hs, r⟩ := x1.sql
          exact ⟨a, xs, rfl, .inl hs, fun l nl => q l _ (s1.free nl) (s1.trans (same_upd nl)) ⟨_, _, rfl, upd_same, r.mono (same_upd nl) fun a y z => ⟨y, fun e => z (e ▸ nl)⟩⟩⟩
        | tuple es =>
          obtain ⟨a, xs, rfl, hs, r⟩ := x1.sqt
          exact ⟨a, xs, rfl, .inr hs, fun l nl => q l _ (s1.free nl) (s1.trans (same_upd nl)) ⟨_, _, rfl, upd_same, r.mono (same_upd nl) fun a y z => ⟨y, fun e => z (e ▸ nl)⟩⟩⟩
        | _ => exact q.elim
    · rw [e] at q
      exact q.elim
theorem se_tupOf {tA : TA} {gA : List Dt → O (List Dt)} {av fr : Bool} (ha : SA K W Δ tA av fr gA) : SE K W Δ (tCB (fun xs H Q => ∃ p ys, xs = [.ref p] ∧ ((SqL K H p ys ∧ ∀ l, H l = none → Q (.ref l) (upd H l (.tup ys))) ∨ (SqT K H p ys ∧ Q (.ref p) H))) tA) (.v av fr) (gCB (one hTupOf) gA) := fun f ρ σ H Q R q => by
  refine ha f ρ σ H _ R ?_
  unfold gCB at q
  cases e1 : gA ρ with
  | bad => rw [e1] at q; exact q
  | ex z => rw [e1] at q; exact q
  | ok ds =>
    rw [e1, bnd_ok] at q
    intro vs H1 s1 x1
    rcases one_eq (h := hTupOf) (ds := ds) with ⟨d, rfl, e⟩ | e
    · rw [e] at q
      cases x1 with
      | cons x1 xr =>
        cases xr
        cases d with
        | list es =>
          obtain ⟨a, xs, rfl, hs, r⟩ := x1.sql
          exact ⟨a, xs, rfl, .inl ⟨hs, fun l nl => q _ _ (s1.trans (same_upd nl)) (.tup (.inl (.inl upd_same)) (r.same (same_upd nl)))⟩⟩
        | tuple es =>
          obtain ⟨a, xs, rfl, hs, r⟩ := x1.sqt
          exact ⟨a, xs, rfl, .inr ⟨hs, q _ _ s1 (.tup hs r)⟩⟩
        | _ => exact q.elim
    · rw [e] at q
      exact q.elim
theorem rpA_ints {F : Addr → Prop} {H : Hp} : ∀ ns : List Int, RpA K F H (ns.map V.int) (ns.map PyData.int)
  | [] => .nil
  | n :: ns => .cons (.int n) (rpA_ints ns)
end
def Sc (K : PySem.W.Frag) (J : It) (pf : Option (Addr × HO)) (vs : List V) (es ds : List Dt) : Prop :=
  Walk J ds.length (fun H => (∀ q, pf = some q → H q.1 = some q.2) ∧ ∃ F, RpA K F H vs es) (fun i H x H' => Same H H' ∧ ∀ F, RpA K F H vs es → ∃ e, ds[i]? = some e ∧ Rp K F H' x e)
def SI (K : PySem.W.Frag) (W : Wt) (Δ : List Kd) (wi : TI) (b fr : Bool) (g : List Dt → O (List Dt)) : Prop := ∀ f ρ σ H Rk, R K f Δ ρ σ H →
  (match g ρ with
    | .bad => False
    | .ex e => ∀ H', Same H H' → W e σ H'
    | .ok ds => ∀ J H' pf vs es, Same H H' → (b = false → pf = none) → (∀ q, pf = some q → H' q.1 = some q.2) → RpA K (FM f Δ σ true fr) H' vs es → Sc K J pf vs es ds → Rk J H') → wi σ H Rk
structure ID (X : Cx) (K : PySem.W.Frag) (W : Wt) (Δ : List Kd) (tg iter : Expr) (wi : TI) (b fr : Bool) (g : List Dt → O (List Dt)) : Prop where
  pi : PI X tg iter wi
  hK : X.K = K
  si : SI K W Δ wi b fr g
def gSeq (g : Gd) : List Dt → O (List Dt) := fun ρ => bnd (g ρ) fun d => match d with
  | .list ds => .ok ds
  | .tuple ds => .ok ds
  | _ => .bad
def rangeD (lo hi : Int) : List Dt := (List.range (hi - lo).toNat).map fun (i : Nat) => .int (lo + (i : Int))
def rng1 : List Dt → Option (Int × Int)
  | [.int j] => if -(2 ^ 62) ≤ j ∧ j < 2 ^ 62 then some (0, j) else none
  | _ => none
def rng2 : List Dt → Option (Int × Int)
  | [.int i, .int j] => if -(2 ^ 62) ≤ i ∧ i < 2 ^ 62 ∧ -(2 ^ 62) ≤ j ∧ j < 2 ^ 62 then some (i, j) else none
  | _ => none
def gRng1 (g : List Dt → O (List Dt)) : List Dt → O (List Dt) := fun ρ => bnd (g ρ) fun ds => match rng1 ds with
  | some p => .ok (rangeD p.1 p.2)
  | none => .bad
def gRng2 (g : List Dt → O (List Dt)) : List Dt → O (List Dt) := fun ρ => bnd (g ρ) fun ds => match rng2 ds with
  | some p => .ok (rangeD p.1 p.2)
  | none => .bad
def iSeq (K : PySem.W.Frag) (tl : TE) : TI := fun σ H R => tl σ H fun x H1 => ∃ a, x = .ref a ∧ (((∃ xs, SqL K H1 a xs) ∧ R (Itl K a) H1) ∨ ((∃ xs, SqT K H1 a xs) ∧ R (Itt K a) H1))
theorem pi_seq {X : Cx} {tg l : Expr} {tl : TE} (hl : PE X l tl) : PI X tg l (iSeq X.K tl) := by
  refine ⟨fun pins s σ H R I h => ?_⟩
  refine thn (hl.run pins s σ H _ I h) fun v s1 ⟨x, H1, I1, r1, q1⟩ => ?_
  obtain ⟨a, e, q⟩ := q1
  subst e
  cases r1
  rcases q with ⟨⟨xs, hq⟩, q⟩ | ⟨⟨xs, hq⟩, q⟩
  · obtain ⟨its, rv, p, hz⟩ := I1.list hq
    refine wpAny_pyIter_list p.isList ?_
    refine ⟨s1.heap.objs.size, [s1.heap.objs.size], _, _, H1, rfl, I1.kept (t' := s1.toks) fun b o e => Heap.get?_push_of_some _ e, turn_list a _, ⟨_, Heap.get?_push_size _ rfl, rfl, rfl⟩, fun b hb => ?_, q⟩
    have e : b = s1.heap.objs.size := by simpa using hb
    subst e
    exact I1.fpOk (Nat.le_refl _) (I1.hok.fresh (Nat.le_refl _))
  · obtain ⟨its, rv, p, hz⟩ := I1.tuple hq
    refine wpAny_pyIter_tuple (show s1.heap.IsTuple a its.toArray from p) ?_
    refine ⟨s1.heap.objs.size, [s1.heap.objs.size], _, _, H1, rfl, I1.kept (t' := s1.toks) fun b o e => Heap.get?_push_of_some _ e, turn_tuple a _, ⟨_, Heap.get?_push_size _ rfl, rfl, rfl⟩, fun b hb => ?_, q⟩
    have e : b = s1.heap.objs.size := by simpa using hb
    subst e
    exact I1.fpOk (Nat.le_refl _) (I1.hok.fresh (Nat.le_refl _))
section
variable {K : PySem.W.Frag} {W : Wt} {Δ : List Kd}
theorem sc_list {a : Addr} {ds : List Dt} : Sc K (Itl K a) none [.ref a] [.list ds] ds where
  goes := fun i H hi ⟨_, F, r⟩ => by
    cases r with
    | cons h _ =>
      obtain ⟨b, xs, e, hs, r⟩ := h.sql
      cases e
      have hx : i < xs.length := by rw [r.length]; exact hi
      exact ⟨xs, xs[i], hs, List.getElem?_eq_getElem hx⟩
  stops := fun H ⟨_, F, r⟩ => by
    cases r with
    | cons h _ =>
      obtain ⟨b, xs, e, hs, r⟩ := h.sql
      cases e
      exact ⟨xs, hs, Nat.le_of_eq r.length⟩
  yields := fun i H x H' hi _ y => by
    obtain ⟨e, y⟩ := y
    subst e
    refine ⟨Same.refl _, fun F r => ?_⟩
    cases r with
    | cons h _ =>
      obtain ⟨b, xs, e, hs, r⟩ := h.sql
      cases e
      exact r.get (y xs hs)
theorem sc_tup {a : Addr} {ds : List Dt} : Sc K (Itt K a) none [.ref a] [.tuple ds] ds where
  goes := fun i H hi ⟨_, F, r⟩ => by
    cases r with
    | cons h _ =>
      obtain ⟨b, xs, e, hs, r⟩ := h.sqt
      cases e
      have hx : i < xs.length := by rw [r.length]; exact hi
      exact ⟨xs, xs[i], hs, List.getElem?_eq_getElem hx⟩
  stops := fun H ⟨_, F, r⟩ => by
    cases r with
    | cons h _ =>
      obtain ⟨b, xs, e, hs, r⟩ := h.sqt
      cases e
      exact ⟨xs, hs, Nat.le_of_eq r.length⟩
  yields := fun i H x H' hi _ y => by
    obtain ⟨e, y⟩ := y
    subst e
    refine ⟨Same.refl _, fun F r => ?_⟩
    cases r with
    | cons h _ =>
      obtain ⟨b, xs, e, hs, r⟩ := h.sqt
      cases e
      exact r.get (y xs hs)
theorem rangeD_len (lo hi : Int) : (rangeD lo hi).length = (hi - lo).toNat := by unfold rangeD; simp
theorem sc_range {lo hi : Int} : Sc K (Itr lo (hi - lo).toNat) none [] [] (rangeD lo hi) where
  goes := fun i H hi' _ => by rw [rangeD_len] at hi'; exact hi'
  stops := fun H _ => by rw [rangeD_len]; exact Nat.le_refl _
  yields := fun i H x H' hi' _ y => by
    obtain ⟨e, y⟩ := y
    subst e y
    refine ⟨Same.refl _, fun F r => ⟨_, ?_, .int _⟩⟩
    rw [rangeD_len] at hi'
    unfold rangeD
    rw [List.getElem?_map, List.getElem?_range hi']
    rfl
theorem si_seq {te : TE} {g : Gd} {fr : Bool} (h : SE K W Δ te (.v true fr) g) : SI K W Δ (iSeq K te) false fr (gSeq g) := fun f ρ σ H Rk R q => by
  refine h f ρ σ H _ R ?_
  unfold gSeq at q
  cases e1 : g ρ with
  | bad => rw [e1] at q; exact q
  | ex z => rw [e1] at q; exact q
  | ok d =>
    rw [e1, bnd_ok] at q
    intro v H1 s1 x1
    cases d with
    | list ds =>
      obtain ⟨a, xs, rfl, hs, r⟩ := x1.sql
      exact ⟨a, rfl, .inl ⟨⟨xs, hs⟩, q _ H1 none [.ref a] [.list ds] s1 (fun _ => rfl) (fun _ e => nomatch e) (.cons x1 .nil) sc_list⟩⟩
    | tuple ds =>
      obtain ⟨a, xs, rfl, hs, r⟩ := x1.sqt
      exact ⟨a, rfl, .inr ⟨⟨xs, hs⟩, q _ H1 none [.ref a] [.tuple ds] s1 (fun _ => rfl) (fun _ e => nomatch e) (.cons x1 .nil) sc_tup⟩⟩
    | _ => exact q.elim
theorem si_rng1 {tA : TA} {gA : List Dt → O (List Dt)} {av fr : Bool} (h : SA K W Δ tA av fr gA) : SI K W Δ (iRng1 tA) false true (gRng1 gA) := fun f ρ σ H Rk R q => by
  refine h f ρ σ H _ R ?_
  unfold gRng1 at q
  cases e1 : gA ρ with
  | bad => rw [e1] at q; exact q
  | ex z => rw [e1] at q; exact q
  | ok ds =>
    rw [e1, bnd_ok] at q
    intro vs H1 s1 x1
    cases er : rng1 ds with
    | none => rw [er] at q; exact q.elim
    | some p =>
      rw [er] at q
      unfold rng1 at er
      split at er
      · split at er
        · rename_i j c
          cases er
          cases x1 with
          | cons x1 xr =>
            cases xr
            rw [rpInt x1]
            refine ⟨j, rfl, c.1, c.2, ?_⟩
            have w := q (Itr 0 (j - 0).toNat) H1 none [] [] s1 (fun _ => rfl) (fun _ e => nomatch e) .nil sc_range
            rw [Int.sub_zero] at w
            exact w
        · cases er
      · cases er
theorem si_rng2 {tA : TA} {gA : List Dt → O (List Dt)} {av fr : Bool} (h : SA K W Δ tA av fr gA) : SI K W Δ (iRng2 tA) false true (gRng2 gA) := fun f ρ σ H Rk R q => by
  refine h f ρ σ H _ R ?_
  unfold gRng2 at q
  cases e1 : gA ρ with
  | bad => rw [e1] at q; exact q
  | ex z => rw [e1] at q; exact q
  | ok ds =>
    rw [e1, bnd_ok] at q
    intro vs H1 s1 x1
    cases er : rng2 ds with
    | none => rw [er] at q; exact q.elim
    | some p =>
      rw [er] at q
      unfold rng2 at er
      split at er
      · split at er
        · rename_i i j c
          cases er
          cases x1 with
          | cons x1 xr =>
            cases xr with
            | cons x2 xr =>
              cases xr
              rw [rpInt x1, rpInt x2]
              exact ⟨i, j, rfl, c, q (Itr i (j - i).toNat) H1 none [] [] s1 (fun _ => rfl) (fun _ e => nomatch e) .nil sc_range⟩
        · cases er
      · cases er
end
end Sim
end T_SimD
section T_SimE
set_option Elab.async false
set_option linter.all false
set_option maxRecDepth 100000
namespace Sim
open PySem PySem.Spec L2
open PyProof.Rows hiding St
def bLe (a b : Bool) : Bool := !b || a
def kLe : Kd → Kd → Bool
  | _, .no => true
  | .im a, .im b => bLe a b
  | .own .l a, .im b => bLe a b
  | .own .l a, .own .l b => bLe a b
  | .own .dk a, .own .dk b => bLe a b
  | .own .dt a, .own .dt b => bLe a b
  | .own .la a, .own .la b => bLe a b
  | .own .ka a, .own .ka b => bLe a b
  | .sl a, .sl b => a == b
  | _, _ => false
def leA : List Kd → List Kd → Bool
  | [], [] => true
  | k :: ks, l :: ls => kLe k l && leA ks ls
  | _, _ => false
theorem bLe_imp {a b : Bool} (h : bLe a b = true) : b = true → a = true := fun e => by subst e; cases a; cases h; rfl
theorem leA_len : ∀ {Δ Δ' : List Kd}, leA Δ Δ' = true → Δ.length = Δ'.length
  | [], [], _ => rfl
  | [], _ :: _, h => by cases h
  | _ :: _, [], h => by cases h
  | k :: ks, l :: ls, h => by
    unfold leA at h
    rw [Bool.and_eq_true] at h
    rw [List.length_cons, List.length_cons, leA_len h.2]
theorem leA_get : ∀ {Δ Δ' : List Kd}, leA Δ Δ' = true → ∀ {i : Nat} {k' : Kd}, Δ'[i]? = some k' → ∃ k, Δ[i]? = some k ∧ kLe k k' = true
  | [], [], _, i, k', h => by simp at h
  | [], _ :: _, h, _, _, _ => by cases h
  | _ :: _, [], h, _, _, _ => by cases h
  | k :: ks, l :: ls, h, 0, k', e => by
    unfold leA at h
    rw [Bool.and_eq_true] at h
    simp at e; subst e
    exact ⟨k, rfl, h.1⟩
  | k :: ks, l :: ls, h, i + 1, k', e => by
    unfold leA at h
    rw [Bool.and_eq_true] at h
    obtain ⟨q, h1, h2⟩ := leA_get h.2 (i := i) (k' := k') (by simpa using e)
    exact ⟨q, by simpa using h1, h2⟩
theorem kLe_own {k : Kd} {c : Ct} {fr : Bool} (h : kLe k (.own c fr) = true) : ∃ fr', k = .own c fr' ∧ (fr = true → fr' = true) := by
  cases k with
  | no => cases c <;> cases h
  | im a => cases c <;> cases h
  | sl => cases c <;> cases h
  | own c' a => cases c' <;> cases c <;> first | (cases h; done) | exact ⟨a, rfl, bLe_imp h⟩
theorem kLe_sl {k : Kd} {t : Bool} (h : kLe k (.sl t) = true) : k = .sl t := by
  cases k with
  | no => cases h
  | im a => cases h
  | sl a => simp [kLe] at h; rw [h]
  | own c' a => cases c' <;> cases h
theorem kLe_im {k : Kd} {fr : Bool} (h : kLe k (.im fr) = true) : (∃ fr', k = .im fr' ∧ (fr = true → fr' = true)) ∨ ∃ fr', k = .own .l fr' ∧ (fr = true → fr' = true) := by
  cases k with
  | no => cases h
  | im a => exact .inl ⟨a, rfl, bLe_imp h⟩
  | sl => cases h
  | own c' a => cases c' <;> first | (cases h; done) | exact .inr ⟨a, rfl, bLe_imp h⟩
section
variable {K : PySem.W.Frag} {f : Fm} {Δ Δ' : List Kd} {ρ : List Dt} {σ σ' : L2.St} {H : Hp}
theorem R.weak (r : R K f Δ ρ σ H) (h : leA Δ Δ' = true) : R K f Δ' ρ σ H := by
  have ow' : ∀ a, Ow Δ' σ a → Ow Δ σ a := fun a ⟨i, c, fr, h1, h2⟩ => by
    obtain ⟨k, e, hk⟩ := leA_get h h1
    obtain ⟨fr', rfl, _⟩ := kLe_own hk
    exact ⟨i, c, fr', e, h2⟩
  have key : ∀ {fr fr' : Bool} {v : V} {d : Dt}, (fr' = true → fr = true) → Rp K (FM f Δ σ true fr) H v d → Rp K (FM f Δ' σ true fr') H v d := fun hf h =>
    h.weak fun a fa => ⟨fun _ => ⟨fun z => (fa.1 rfl).1 (ow' a z), (fa.1 rfl).2⟩, fun e => fa.2 (hf e)⟩
  refine ⟨r.ext, r.g0, by rw [r.lσ, leA_len h], by rw [r.lρ, leA_len h], ?_, fun a ha => ⟨(r.pin a ha).1, fun z => (r.pin a ha).2 (ow' a z)⟩, fun g hg => (r.gh g hg).map fun _ _ x => key id x, fun i fr h' => ?_, fun i c fr h' => ?_, fun i c fr h' ha => ?_, r.sp, fun i t h' => by
    obtain ⟨k, e, hk⟩ := leA_get h h'
    rw [kLe_sl hk] at e
    exact r.sl i t e⟩
  · intro i j ci fi cj fj p h1 h2 h3 h4
    obtain ⟨k, e, hk⟩ := leA_get h h1
    obtain ⟨fr', rfl, _⟩ := kLe_own hk
    obtain ⟨k2, e2, hk2⟩ := leA_get h h2
    obtain ⟨fr2, rfl, _⟩ := kLe_own hk2
    exact r.inj i j _ _ _ _ p e e2 h3 h4
  · obtain ⟨k, e, hk⟩ := leA_get h h'
    rcases kLe_im hk with ⟨fr', rfl, hf⟩ | ⟨fr', rfl, hf⟩
    · obtain ⟨v, d, h1, h2, h3⟩ := r.im i fr' e
      exact ⟨v, d, h1, h2, key hf h3⟩
    · obtain ⟨p, d, h1, h2, h3, vs, ds, ed, hp, h4⟩ := r.ow i .l fr' e
      subst ed
      refine ⟨.ref p, _, h1, h2, .lst hp ⟨fun _ => ⟨fun z => ?_, fun z => ?_⟩, fun _ => r.g0 p h3⟩ (h4.map fun _ _ x => key hf x)⟩
      · obtain ⟨j, c, frj, g1, g2⟩ := z
        obtain ⟨k2, e2, hk2⟩ := leA_get h g1
        obtain ⟨fr2, rfl, _⟩ := kLe_own hk2
        have ij := r.inj i j _ _ _ _ p e e2 h1 g2
        subst ij
        rw [h'] at g1
        cases g1
      · exact (r.pin p z).2 ⟨i, .l, fr', e, h1⟩
  · obtain ⟨k, e, hk⟩ := leA_get h h'
    obtain ⟨fr', rfl, hf⟩ := kLe_own hk
    obtain ⟨p, d, h1, h2, h3, h4⟩ := r.ow i c fr' e
    exact ⟨p, d, h1, h2, h3, h4.map (fun o e => e) fun _ _ x => key hf x⟩
  · obtain ⟨k, e, hk⟩ := leA_get h h'
    obtain ⟨fr', rfl, hf⟩ := kLe_own hk
    exact r.ar i c fr' e ha
structure TgOk (K : PySem.W.Frag) (f : Fm) (Δ Δ' : List Kd) (ρ' : List Dt) (σ σ' : L2.St) (H : Hp) (sl : List Nat) : Prop where
  r : R K f Δ' ρ' σ' H
  keep : ∀ i, i ∉ sl → Δ'[i]? = Δ[i]? ∧ σ'[i]? = σ[i]?
  im : ∀ i, i ∈ sl → ∃ fr, Δ'[i]? = some (.im fr)
  len : Δ'.length = Δ.length
theorem TgOk.ow {ρ' : List Dt} {sl : List Nat} (t : TgOk K f Δ Δ' ρ' σ σ' H sl) {a : Addr} (h : Ow Δ' σ' a) : Ow Δ σ a := by
  obtain ⟨i, c, fr, h1, h2⟩ := h
  by_cases z : i ∈ sl
  · obtain ⟨fr', e⟩ := t.im i z
    rw [e] at h1; cases h1
  · obtain ⟨e1, e2⟩ := t.keep i z
    exact ⟨i, c, fr, e1 ▸ h1, e2 ▸ h2⟩
theorem TgOk.ow' {ρ' : List Dt} {sl : List Nat} (t : TgOk K f Δ Δ' ρ' σ σ' H sl) (no : ∀ i ∈ sl, ∀ c fr, Δ[i]? ≠ some (.own c fr)) {a : Addr} (h : Ow Δ σ a) : Ow Δ' σ' a := by
  obtain ⟨i, c, fr, h1, h2⟩ := h
  by_cases z : i ∈ sl
  · exact absurd h1 (no i z c fr)
  · obtain ⟨e1, e2⟩ := t.keep i z
    exact ⟨i, c, fr, e1 ▸ h1, e2 ▸ h2⟩
theorem TgOk.fm {ρ' : List Dt} {sl : List Nat} (t : TgOk K f Δ Δ' ρ' σ σ' H sl) {av fr : Bool} {a : Addr} (h : FM f Δ σ av fr a) : FM f Δ' σ' av fr a := ⟨fun e => ⟨fun z => (h.1 e).1 (t.ow z), (h.1 e).2⟩, h.2⟩
theorem TgOk.fm' {ρ' : List Dt} {sl : List Nat} (t : TgOk K f Δ Δ' ρ' σ σ' H sl) (no : ∀ i ∈ sl, ∀ c fr, Δ[i]? ≠ some (.own c fr)) {av fr : Bool} {a : Addr} (h : FM f Δ' σ' av fr a) : FM f Δ σ av fr a := ⟨fun e => ⟨fun z => (h.1 e).1 (t.ow' no z), (h.1 e).2⟩, h.2⟩
theorem TgOk.refl (r : R K f Δ ρ σ H) : TgOk K f Δ Δ ρ σ σ H [] := ⟨r, fun _ _ => ⟨rfl, rfl⟩, fun _ h => absurd h (by simp), rfl⟩
theorem TgOk.trans {Δ1 Δ2 : List Kd} {ρ1 ρ2 : List Dt} {σ1 σ2 : L2.St} {s1 s2 : List Nat} (t : TgOk K f Δ Δ1 ρ1 σ σ1 H s1) (u : TgOk K f Δ1 Δ2 ρ2 σ1 σ2 H s2) : TgOk K f Δ Δ2 ρ2 σ σ2 H (s1 ++ s2) := by
  refine ⟨u.r, fun i h => ?_, fun i h => ?_, u.len.trans t.len⟩
  · rw [List.mem_append, not_or] at h
    obtain ⟨a1, a2⟩ := t.keep i h.1
    obtain ⟨b1, b2⟩ := u.keep i h.2
    exact ⟨b1.trans a1, b2.trans a2⟩
  · by_cases z : i ∈ s2
    · exact u.im i z
    · rcases List.mem_append.mp h with h | h
      · obtain ⟨fr, e⟩ := t.im i h
        exact ⟨fr, (u.keep i z).1.trans e⟩
      · exact absurd h z
end
def GJ (K : PySem.W.Frag) (n : Nat) (g : TG) (sl : List Nat) (h : Dt → List Dt → O (List Dt)) (TK : Bool → List Kd → List Kd) : Prop := ∀ f Δ ρ σ H v d fr Q, Δ.length = n → R K f Δ ρ σ H → Rp K (FM f Δ σ true fr) H v d →
  (match h d ρ with | .ok ρ' => ∀ σ', TgOk K f Δ (TK fr Δ) ρ' σ σ' H sl → Q σ' H | _ => False) → g v σ H Q
def GJs (K : PySem.W.Frag) (n : Nat) (g : TGs) (sl : List Nat) (h : List Dt → List Dt → O (List Dt)) (TK : Bool → List Kd → List Kd) : Prop := ∀ f Δ ρ σ H vs ds fr Q, Δ.length = n → R K f Δ ρ σ H → RpA K (FM f Δ σ true fr) H vs ds →
  (match h ds ρ with | .ok ρ' => ∀ σ', TgOk K f Δ (TK fr Δ) ρ' σ σ' H sl → Q σ' H | _ => False) → g vs σ H Q
structure GD (X : Cx) (K : PySem.W.Frag) (n : Nat) (tg : Expr) (g : TG) (sl : List Nat) (h : Dt → List Dt → O (List Dt)) (TK : Bool → List Kd → List Kd) : Prop where
  pg : PG X tg g
  hK : X.K = K
  gj : GJ K n g sl h TK
structure GDs (X : Cx) (K : PySem.W.Frag) (n : Nat) (tg : List Expr) (g : TGs) (sl : List Nat) (h : List Dt → List Dt → O (List Dt)) (TK : Bool → List Kd → List Kd) : Prop where
  pg : PGs X tg g
  hK : X.K = K
  gj : GJs K n g sl h TK
def tgN (i : Nat) : Dt → List Dt → O (List Dt) := fun d ρ => .ok (ρ.set i d)
def tgT (h : List Dt → List Dt → O (List Dt)) : Dt → List Dt → O (List Dt) := fun d ρ => match d with
  | .tuple ds => h ds ρ
  | _ => .bad
def tgNil : List Dt → List Dt → O (List Dt) := fun ds ρ => match ds with
  | [] => .ok ρ
  | _ => .bad
def tgCons (h : Dt → List Dt → O (List Dt)) (u : List Dt → List Dt → O (List Dt)) : List Dt → List Dt → O (List Dt) := fun ds ρ => match ds with
  | d :: r => (match h d ρ with
    | .ok ρ' => u r ρ'
    | _ => .bad)
  | [] => .bad
def TKN (i : Nat) : Bool → List Kd → List Kd := fun fr Δ => Δ.set i (.im fr)
def TK0 : Bool → List Kd → List Kd := fun _ Δ => Δ
def TKC (a b : Bool → List Kd → List Kd) : Bool → List Kd → List Kd := fun fr Δ => b fr (a fr Δ)
section
variable {K : PySem.W.Frag} {n : Nat}
theorem gj_name {i : Nat} (hi : i < n) : GJ K n (gName i) [i] (tgN i) (TKN i) := fun f Δ ρ σ H v d fr Q hl R x q => by
  have hi' : i < Δ.length := by rw [hl]; exact hi
  refine q (σ.set i (some v)) ⟨R.setIm hi' x, fun j h => ?_, fun j h => ?_, by unfold TKN; rw [List.length_set]⟩
  · have : i ≠ j := fun e => h (by rw [e]; exact List.mem_singleton.mpr rfl)
    unfold TKN
    exact ⟨List.getElem?_set_ne this, List.getElem?_set_ne this⟩
  · have : j = i := List.mem_singleton.mp h
    subst this
    unfold TKN
    exact ⟨fr, List.getElem?_set_self hi'⟩
theorem gj_nil : GJs K n L2.gNil [] tgNil TK0 := fun f Δ ρ σ H vs ds fr Q hl R x q => by
  cases x with
  | nil => exact ⟨rfl, q σ (.refl R)⟩
  | cons => exact q.elim
theorem gj_cons {g : TG} {gs : TGs} {s1 s2 : List Nat} {h : Dt → List Dt → O (List Dt)} {u : List Dt → List Dt → O (List Dt)} {T1 T2 : Bool → List Kd → List Kd} (a : GJ K n g s1 h T1) (b : GJs K n gs s2 u T2) :
    GJs K n (L2.gCons g gs) (s1 ++ s2) (tgCons h u) (TKC T1 T2) := fun f Δ ρ σ H vs ds fr Q hl R x q => by
  cases x with
  | nil => exact q.elim
  | cons x r =>
    refine ⟨_, _, rfl, ?_⟩
    unfold tgCons at q
    refine a f Δ ρ σ H _ _ fr _ hl R x ?_
    simp only at q
    revert q
    cases e : h _ ρ with
    | bad => exact fun q => q.elim
    | ex z => exact fun q => q.elim
    | ok ρ1 =>
      intro q σ1 t1
      refine b f _ ρ1 σ1 H _ _ fr _ (t1.len.trans hl) t1.r (r.weak fun _ y => t1.fm y) ?_
      simp only at q
      revert q
      cases e2 : u _ ρ1 with
      | bad => exact fun q => q.elim
      | ex z => exact fun q => q.elim
      | ok ρ2 => exact fun q σ2 t2 => q σ2 (t1.trans t2)
theorem gj_tup {m : Nat} {gs : TGs} {sl : List Nat} {u : List Dt → List Dt → O (List Dt)} {T : Bool → List Kd → List Kd} (b : GJs K n gs sl u T) (hm : ∀ ds ρ, ds.length ≠ m → ∀ z, u ds ρ ≠ .ok z) :
    GJ K n (L2.gTup K m gs) sl (tgT u) T := fun f Δ ρ σ H v d fr Q hl R x q => by
  cases d with
  | tuple ds =>
    obtain ⟨a, xs, rfl, hs, r⟩ := x.sqt
    have q : (match u ds ρ with | .ok ρ' => ∀ σ', TgOk K f Δ (T fr Δ) ρ' σ σ' H sl → Q σ' H | _ => False) := q
    refine ⟨a, xs, rfl, hs, ?_, b f Δ ρ σ H xs ds fr Q hl R r q⟩
    by_cases e : ds.length = m
    · rw [r.length]; exact e
    · cases eu : u ds ρ with
      | ok z => exact absurd eu (hm ds ρ e z)
      | bad => rw [eu] at q; exact q.elim
      | ex z => rw [eu] at q; exact q.elim
  | _ => exact q.elim
theorem tgNil_len : ∀ ds ρ, ds.length ≠ 0 → ∀ z, tgNil ds ρ ≠ .ok z
  | [], _, h, _ => absurd rfl h
  | _ :: _, _, _, _ => fun e => by cases e
theorem tgCons_len {m : Nat} {h : Dt → List Dt → O (List Dt)} {u : List Dt → List Dt → O (List Dt)} (hu : ∀ ds ρ, ds.length ≠ m → ∀ z, u ds ρ ≠ .ok z) : ∀ ds ρ, ds.length ≠ m + 1 → ∀ z, tgCons h u ds ρ ≠ .ok z
  | [], _, _, _ => fun e => by cases e
  | d :: r, ρ, hl, z => fun e => by
    unfold tgCons at e
    simp only at e
    cases eh : h d ρ with
    | bad => rw [eh] at e; cases e
    | ex y => rw [eh] at e; cases e
    | ok ρ' =>
      rw [eh] at e
      exact hu r ρ' (fun q => hl (by rw [List.length_cons, q])) z e
end
section
variable {X : Cx} {K : PySem.W.Frag} {n : Nat} {pos : Pos}
theorem g_name (i : Nat) {x : Str} (hN : X.N.Nodup) (hn : i < n := by decide) (hi : X.N[i]? = some x := by rfl) (hx : Loc X.env.scope x := by first | exact .inl rfl | exact .inr rfl) (hf : X.fn x = true ∨ X.env.scope.names.lookup x = some .local := by first | exact .inl rfl | exact .inr rfl) (hK : X.K = K := by rfl) :
    GD X K n (.Name x pos) (gName i) [i] (tgN i) (TKN i) := ⟨pg_name hN hi hx hf, hK, gj_name hn⟩
theorem g_nil (hK : X.K = K := by rfl) : GDs X K n [] L2.gNil [] tgNil TK0 := ⟨pgs_nil, hK, gj_nil⟩
theorem g_cons {e : Expr} {es : List Expr} {g : TG} {gs : TGs} {s1 s2 : List Nat} {h : Dt → List Dt → O (List Dt)} {u : List Dt → List Dt → O (List Dt)} {T1 T2 : Bool → List Kd → List Kd} (a : GD X K n e g s1 h T1) (b : GDs X K n es gs s2 u T2)
    (hs : (assignEach (e :: es) X.env).map (·.2) = assign e X.env :: (assignEach es X.env).map (·.2) := by rfl) : GDs X K n (e :: es) (L2.gCons g gs) (s1 ++ s2) (tgCons h u) (TKC T1 T2) := ⟨pgs_cons a.pg b.pg hs, a.hK, gj_cons a.gj b.gj⟩
end
abbrev W0 : Wt := fun _ _ _ => False
def wipeK (Δ : List Kd) : List Nat → List Kd
  | [] => Δ
  | v :: vs => (wipeK Δ vs).set v .no
def noOwn (Δ : List Kd) (vs : List Nat) : Bool := vs.all fun i => match Δ[i]? with
  | some (.own _ _) => false
  | _ => true
theorem wipeK_len (Δ : List Kd) : ∀ vs, (wipeK Δ vs).length = Δ.length
  | [] => rfl
  | v :: vs => by unfold wipeK; rw [List.length_set, wipeK_len Δ vs]
theorem wipeK_out {Δ : List Kd} {i : Nat} : ∀ {vs : List Nat}, i ∉ vs → (wipeK Δ vs)[i]? = Δ[i]?
  | [], _ => rfl
  | v :: vs, h => by
    unfold wipeK
    rw [List.getElem?_set_ne (fun e => h (by rw [e]; exact List.mem_cons_self)), wipeK_out fun z => h (List.mem_cons_of_mem _ z)]
theorem wipeK_in {Δ : List Kd} {i : Nat} : ∀ {vs : List Nat}, i ∈ vs → ∀ k, (wipeK Δ vs)[i]? = some k → k = .no
  | [], h, _, _ => absurd h (by simp)
  | v :: vs, h, k, e => by
    unfold wipeK at e
    by_cases z : v = i
    · subst z
      by_cases hv : v < (wipeK Δ vs).length
      · rw [List.getElem?_set_self hv] at e
        exact (Option.some.inj e).symm
      · rw [List.getElem?_eq_none (by rw [List.length_set]; omega)] at e
        cases e
    · rw [List.getElem?_set_ne z] at e
      rcases List.mem_cons.mp h with q | q
      · exact absurd q.symm z
      · exact wipeK_in q k e
theorem wipe_out {σ : L2.St} {i : Nat} : ∀ {vs : List Nat}, i ∉ vs → (wipe σ vs)[i]? = σ[i]?
  | [], _ => rfl
  | v :: vs, h => by
    unfold wipe
    rw [List.getElem?_set_ne (fun e => h (by rw [e]; exact List.mem_cons_self)), wipe_out fun z => h (List.mem_cons_of_mem _ z)]
theorem wipe_in {σ : L2.St} {i : Nat} : ∀ {vs : List Nat}, i ∈ vs → i < σ.length → (wipe σ vs)[i]? = some none
  | [], h, _ => absurd h (by simp)
  | v :: vs, h, hl => by
    unfold wipe
    by_cases z : v = i
    · subst z
      rw [List.getElem?_set_self (by rw [wipe_length]; exact hl)]
    · rw [List.getElem?_set_ne z]
      rcases List.mem_cons.mp h with q | q
      · exact absurd q.symm z
      · exact wipe_in q hl
theorem wipe_eq {σ σ' : L2.St} {vs : List Nat} (hl : σ'.length = σ.length) (h : ∀ i, i ∉ vs → σ'[i]? = σ[i]?) : wipe σ' vs = wipe σ vs := by
  apply List.ext_getElem?
  intro i
  by_cases z : i ∈ vs
  · by_cases q : i < σ.length
    · rw [wipe_in z (by rw [hl]; exact q), wipe_in z q]
    · rw [List.getElem?_eq_none (by rw [wipe_length, hl]; omega), List.getElem?_eq_none (by rw [wipe_length]; omega)]
  · rw [wipe_out z, wipe_out z]
    exact h i z
theorem noOwn_get {Δ : List Kd} {vs : List Nat} (h : noOwn Δ vs = true) {i : Nat} (hi : i ∈ vs) {c : Ct} {fr : Bool} : Δ[i]? ≠ some (.own c fr) := fun e => by
  have q := List.all_eq_true.mp h i hi
  rw [e] at q
  cases q
section
variable {K : PySem.W.Frag} {f : Fm} {Δ : List Kd} {ρ : List Dt} {σ : L2.St} {H : Hp}
theorem ow_wipe {vs : List Nat} (h : noOwn Δ vs = true) {a : Addr} : Ow (wipeK Δ vs) (wipe σ vs) a ↔ Ow Δ σ a := by
  constructor
  · rintro ⟨i, c, fr, h1, h2⟩
    have z : i ∉ vs := fun z => by cases wipeK_in z _ h1
    exact ⟨i, c, fr, by rw [← wipeK_out z]; exact h1, by rw [← wipe_out z]; exact h2⟩
  · rintro ⟨i, c, fr, h1, h2⟩
    have z : i ∉ vs := fun z => noOwn_get h z h1
    exact ⟨i, c, fr, by rw [wipeK_out z]; exact h1, by rw [wipe_out z]; exact h2⟩
theorem fm_wipe {vs : List Nat} (h : noOwn Δ vs = true) {av fr : Bool} {a : Addr} : FM f (wipeK Δ vs) (wipe σ vs) av fr a ↔ FM f Δ σ av fr a := by
  unfold FM
  rw [ow_wipe h]
theorem R.wipe {vs : List Nat} (h : noOwn Δ vs = true) (r : R K f Δ ρ σ H) : R K f (wipeK Δ vs) ρ (L2.wipe σ vs) H := by
  refine ⟨r.ext, r.g0, by rw [wipe_length, wipeK_len]; exact r.lσ, by rw [wipeK_len]; exact r.lρ, ?_, fun a ha => ⟨(r.pin a ha).1, fun z => (r.pin a ha).2 ((ow_wipe h).mp z)⟩, fun g hg => (r.gh g hg).weak fun a y => (fm_wipe h).mpr y, fun i fr h' => ?_, fun i c fr h' => ?_, fun i c fr h' ha => ?_, r.sp, fun i t h' => by
    have z1 : i ∉ vs := fun z => by cases wipeK_in z _ h'
    rw [wipeK_out z1] at h'
    obtain ⟨v, d, h1, h2, h3⟩ := r.sl i t h'
    exact ⟨v, d, by rw [wipe_out z1]; exact h1, h2, h3⟩⟩
  · intro i j ci fi cj fj p h1 h2 h3 h4
    have z1 : i ∉ vs := fun z => by cases wipeK_in z _ h1
    have z2 : j ∉ vs := fun z => by cases wipeK_in z _ h2
    rw [wipeK_out z1] at h1
    rw [wipeK_out z2] at h2
    rw [wipe_out z1] at h3
    rw [wipe_out z2] at h4
    exact r.inj i j _ _ _ _ p h1 h2 h3 h4
  · have z1 : i ∉ vs := fun z => by cases wipeK_in z _ h'
    rw [wipeK_out z1] at h'
    obtain ⟨v, d, h1, h2, h3⟩ := r.im i fr h'
    exact ⟨v, d, by rw [wipe_out z1]; exact h1, h2, h3.weak fun a y => (fm_wipe h).mpr y⟩
  · have z1 : i ∉ vs := fun z => by cases wipeK_in z _ h'
    rw [wipeK_out z1] at h'
    obtain ⟨v, d, h1, h2, h3, h4⟩ := r.ow i c fr h'
    exact ⟨v, d, by rw [wipe_out z1]; exact h1, h2, h3, h4.map (fun o e => e) fun _ _ x => x.weak fun a y => (fm_wipe h).mpr y⟩
  · have z1 : i ∉ vs := fun z => by cases wipeK_in z _ h'
    rw [wipeK_out z1] at h'
    obtain ⟨p, h1, h2⟩ := r.ar i c fr h' ha
    exact ⟨p, h1, by rw [wipe_out z1]; exact h2⟩
def Fm.with (f : Fm) (P : List Addr) (g : List (List V × List Dt × Bool)) : Fm := { f with P := P ++ f.P, Γ := g ++ f.Γ, hS := fun a h => List.mem_append_right _ (f.hS a h) }
theorem R.addG {vs : List V} {es : List Dt} {fr : Bool} (r : R K f Δ ρ σ H) (x : RpA K (FM f Δ σ true fr) H vs es) : R K { f with Γ := (vs, es, fr) :: f.Γ } Δ ρ σ H := by
  refine ⟨r.ext, r.g0, r.lσ, r.lρ, r.inj, r.pin, fun g hg => ?_, r.im, r.ow, r.ar, r.sp, r.sl⟩
  rcases List.mem_cons.mp hg with e | h
  · subst e; exact x
  · exact r.gh g h
theorem R.dropG {g : List V × List Dt × Bool} {Γ : List (List V × List Dt × Bool)} (r : R K { f with Γ := g :: Γ } Δ ρ σ H) : R K { f with Γ := Γ } Δ ρ σ H :=
  ⟨r.ext, r.g0, r.lσ, r.lρ, r.inj, r.pin, fun g hg => r.gh g (List.mem_cons_of_mem _ hg), r.im, r.ow, r.ar, r.sp, r.sl⟩
abbrev Fm.pn (f : Fm) (p : Addr) : Fm := { f with P := p :: f.P, hS := fun a h => List.mem_cons_of_mem _ (f.hS a h) }
theorem R.addP {p : Addr} {o : HO} (r : R K f Δ ρ σ H) (np : H p = none) (m : Mutb o) : R K (f.pn p) Δ ρ σ (upd H p o) := by
  obtain ⟨f1, f2, f3⟩ := r.fresh np
  have key : ∀ {fr : Bool} {v : V} {d : Dt}, Rp K (FM f Δ σ true fr) H v d → Rp K (FM (f.pn p) Δ σ true fr) (upd H p o) v d := fun h =>
    h.mono (same_upd np) fun a fa na => ⟨fun _ => ⟨(fa.1 rfl).1, fun z => by
      rcases List.mem_cons.mp z with e | h
      · exact na (e ▸ np)
      · exact (fa.1 rfl).2 h⟩, fa.2⟩
  refine ⟨r.ext.trans (same_upd np), r.g0, r.lσ, r.lρ, r.inj, fun a ha => ?_, fun g hg => (r.gh g hg).map fun _ _ x => key x, fun i fr h => ?_, fun i c fr h => ?_, r.ar, r.sp, fun i t h => let ⟨v, d, h1, h2, h3⟩ := r.sl i t h; ⟨v, d, h1, h2, h3.same (same_upd np)⟩⟩
  · rcases List.mem_cons.mp ha with e | h
    · subst e
      exact ⟨⟨o, upd_same, m⟩, f1⟩
    · obtain ⟨⟨u, hu, mu⟩, no⟩ := r.pin a h
      exact ⟨⟨u, same_upd np _ _ hu, mu⟩, no⟩
  · obtain ⟨v, d, h1, h2, h3⟩ := r.im i fr h
    exact ⟨v, d, h1, h2, key h3⟩
  · obtain ⟨v, d, h1, h2, h3, h4⟩ := r.ow i c fr h
    exact ⟨v, d, h1, h2, h3, h4.map (fun o e => same_upd np _ _ e) fun _ _ x => key x⟩
end
def lcE (h : Dt → List Dt → O (List Dt)) (gt : List Dt → O Bool) (ge : Gd) (ρ : List Dt) : List Dt → O (List Dt)
  | [] => .ok []
  | d :: ds => bnd (h d ρ) fun ρ' => bnd (gt ρ') fun b => if b then bnd (ge ρ') fun e => bnd (lcE h gt ge ρ ds) fun es => .ok (e :: es) else lcE h gt ge ρ ds
def gLc (gi : List Dt → O (List Dt)) (h : Dt → List Dt → O (List Dt)) (gt : List Dt → O Bool) (ge : Gd) : Gd := fun ρ => bnd (gi ρ) fun ds => if ds.length ≤ 100000 then (match lcE h gt ge ρ ds with
  | .ok es => .ok (.list es)
  | _ => .bad) else .bad
def gYes : List Dt → O Bool := fun _ => .ok true
theorem bnd_inv {α β : Type} {x : O α} {k : α → O β} {z : β} (h : bnd x k = .ok z) : ∃ a, x = .ok a ∧ k a = .ok z := by
  cases x with
  | bad => cases h
  | ex e => cases h
  | ok a => exact ⟨a, rfl, h⟩
theorem se_lc {K : PySem.W.Frag} {W : Wt} {Δ : List Kd} {wi : TI} {g : TG} {tt : TT} {te : TE} {vs sl : List Nat} {b fr fr' : Bool} {gi : List Dt → O (List Dt)} {h : Dt → List Dt → O (List Dt)} {TK : Bool → List Kd → List Kd} {gt : List Dt → O Bool} {ge : Gd} {n : Nat}
    (hi : SI K W Δ wi b fr gi) (hg : GJ K n g sl h TK) (hn : Δ.length = n) (hsl : ∀ i ∈ sl, i ∈ vs) (no : noOwn Δ vs = true) (ht : ST K W0 (TK fr (wipeK Δ vs)) tt gt) (he : SE K W0 (TK fr (wipeK Δ vs)) te (.v true fr') ge) :
    SE K W Δ (tLc wi g tt te vs) (.new .l fr') (gLc gi h gt ge) := fun f ρ σ H Q r q => by
  refine hi f ρ σ H _ r ?_
  unfold gLc at q
  cases e1 : gi ρ with
  | bad => rw [e1] at q; exact q
  | ex z => rw [e1] at q; exact q
  | ok ds =>
    rw [e1, bnd_ok] at q
    by_cases hl : ds.length ≤ 100000
    · rw [if_pos hl] at q
      cases ea : lcE h gt ge ρ ds with
      | bad => rw [ea] at q; exact q.elim
      | ex z => rw [ea] at q; exact q.elim
      | ok all =>
        rw [ea] at q
        intro J H1 pf gv ge0 s1 hb hpf x1 sc D nD
        -- the frame within
        have r1 := (((r.mono s1).addP (o := .lst []) nD trivial).addG (fr := fr) (x1.mono (same_upd nD) fun a fa na => ⟨fun _ => ⟨(fa.1 rfl).1, fun z => by
          rcases List.mem_cons.mp z with e | h
          · exact na (e ▸ nD)
          · exact (fa.1 rfl).2 h⟩, fa.2⟩))
        generalize hf1 : ({ f.pn D with Γ := (gv, ge0, fr) :: f.Γ } : Fm) = f1 at r1
        have r1 : R K f1 Δ ρ σ (upd H1 D (.lst [])) := by rw [← hf1]; rw [← hf1] at r1; exact r1
        have dP : D ∈ f1.P := by rw [← hf1]; exact List.mem_cons_self
        have gG : (gv, ge0, fr) ∈ f1.Γ := by rw [← hf1]; exact List.mem_cons_self
        have h0 : f1.H0 D = none := by rw [← hf1]; exact ((r.mono s1).fresh nD).2.2
        have fmf : ∀ {fr : Bool} {a : Addr}, FM f1 Δ σ true fr a → FM f Δ σ true fr a ∧ a ≠ D := fun {fr a} y => by
          rw [← hf1] at y
          exact ⟨⟨fun e => ⟨(y.1 e).1, fun z => (y.1 e).2 (List.mem_cons_of_mem _ z)⟩, y.2⟩, fun z => (y.1 rfl).2 (z ▸ List.mem_cons_self)⟩
        have hDS : D ∉ f1.S := by
          rw [← hf1]
          exact fun z => ((r.mono s1).fresh nD).2.1 (f.hS D z)
        have noSl : ∀ i ∈ sl, ∀ c fr, (wipeK Δ vs)[i]? ≠ some (.own c fr) := fun i hi c fr e => by cases wipeK_in (hsl i hi) _ e
        refine ⟨fun i m H' => m = ds.length - i ∧ i ≤ ds.length ∧ ∃ acc es rest, H' D = some (.lst acc) ∧ R K f1 Δ ρ σ H' ∧ RpA K (FM f1 Δ σ true fr') H' acc es ∧ acc.length ≤ i ∧ lcE h gt ge ρ (ds.drop i) = .ok rest ∧ all = es ++ rest ∧ Same H H' ∧ (∀ q, pf = some q → H' q.1 = some q.2),
          ⟨ds.length, by simp, Nat.zero_le _, [], [], all, upd_same, r1, .nil, Nat.le_refl _, ea, rfl, s1.trans (same_upd nD), fun q eq => same_upd nD _ _ (hpf q eq)⟩, ?_⟩
        rintro i m H2 ⟨rfl, hi2, acc, es, rest, hD, r2, x2, la, er, eall, sHH, hpf2⟩
        have stand : (∀ q, pf = some q → H2 q.1 = some q.2) ∧ ∃ F, RpA K F H2 gv ge0 := ⟨hpf2, _, r2.gh _ gG⟩
        by_cases hlt : i < ds.length
        · refine .inr ⟨sc.goes i H2 hlt stand, fun H' => i + 1 ≤ ds.length ∧ ∃ acc es rest, H' D = some (.lst acc) ∧ R K f1 Δ ρ σ H' ∧ RpA K (FM f1 Δ σ true fr') H' acc es ∧ acc.length ≤ i + 1 ∧ lcE h gt ge ρ (ds.drop (i + 1)) = .ok rest ∧ all = es ++ rest ∧ Same H H' ∧ (∀ q, pf = some q → H' q.1 = some q.2),
            fun H' w => ⟨ds.length - (i + 1), by omega, rfl, w⟩, fun x H3 hy => ?_⟩
          obtain ⟨s3, hx⟩ := sc.yields i H2 x H3 hlt stand hy
          obtain ⟨d, hd, x3⟩ := hx _ (r2.gh _ gG)
          have edrop : ds.drop i = d :: ds.drop (i + 1) := by
            have hd' := (List.getElem?_eq_some_iff.mp hd).2
            rw [List.drop_eq_getElem_cons hlt, hd']
          rw [edrop] at er
          unfold lcE at er
          obtain ⟨ρ', eh, er⟩ := bnd_inv er
          obtain ⟨c, ec, er⟩ := bnd_inv er
          have r3 := r2.mono s3
          refine hg f1 (wipeK Δ vs) ρ (wipe σ vs) H3 x d fr _ (by rw [wipeK_len]; exact hn) (r3.wipe no) (x3.weak fun a y => (fm_wipe no).mpr y) ?_
          rw [eh]
          intro σ4 t4
          refine ⟨?_, ?_⟩
          · rw [wipe_eq (σ' := σ4) (σ := wipe σ vs) (by rw [t4.r.lσ, t4.len, wipeK_len, wipe_length, r.lσ]) fun i hi => (t4.keep i fun z => hi (hsl i z)).2]
            exact wipe_eq (wipe_length σ vs) fun i hi => wipe_out hi
          · refine ht f1 ρ' σ4 H3 _ t4.r ?_
            rw [ec]
            intro H4 s4
            cases c with
            | false =>
              show (if false = true then _ else _)
              rw [if_neg Bool.false_ne_true]
              have er : lcE h gt ge ρ (ds.drop (i + 1)) = .ok rest := er
              have s24 := s3.trans s4
              exact ⟨hlt, acc, es, rest, s24 _ _ hD, r2.mono s24, x2.same s24, by omega, er, eall, sHH.trans s24, fun q eq => s24 _ _ (hpf2 q eq)⟩
            | true =>
              show (if true = true then _ else _)
              rw [if_pos rfl]
              have er : bnd (ge ρ') (fun e => bnd (lcE h gt ge ρ (ds.drop (i + 1))) fun es => .ok (e :: es)) = .ok rest := er
              obtain ⟨e, ee, er⟩ := bnd_inv er
              obtain ⟨es', ees, er⟩ := bnd_inv er
              cases er
              refine he f1 ρ' σ4 H4 _ (t4.r.mono s4) ?_
              rw [ee]
              intro y H5 s5 x5
              have s25 := (s3.trans s4).trans s5
              have hD5 := s25 _ _ hD
              refine ⟨acc, hD5, Nat.lt_of_lt_of_le (show acc.length < 100001 by omega) (by decide), hlt, acc ++ [y], es ++ [e], es', upd_same, (r2.mono s25).updAt hD5 trivial trivial h0 (fun z => ((r2.pin D dP).2 z)) dP (fun _ _ _ => hDS), ?_, by rw [List.length_append, List.length_singleton]; omega, ees, by rw [eall]; simp, ?_, fun q eq => ?_⟩
              · refine ((x2.same s25).updM hD5 trivial fun a y z => (y.1 rfl).2 (z ▸ dP)).append (.cons ?_ .nil)
                refine Rp.updM hD5 trivial (fun a y z => (y.1 rfl).2 (z ▸ dP)) (x5.weak fun a y => (fm_wipe no).mp (t4.fm' noSl y))
              · intro a o ha
                have na : a ≠ D := fun z => by
                  have z1 := s1 _ _ ha
                  rw [z, nD] at z1
                  cases z1
                rw [upd_ne na]
                exact s25 _ _ (sHH _ _ ha)
              · have nq : q.1 ≠ D := fun z => by
                  have z1 := hpf q eq
                  rw [z, nD] at z1
                  cases z1
                rw [upd_ne nq]
                exact s25 _ _ (hpf2 q eq)
        · have ei : i = ds.length := by omega
          subst ei
          refine .inl ⟨sc.stops H2 stand, ?_⟩
          rw [List.drop_length] at er
          cases er
          rw [List.append_nil] at eall
          subst eall
          refine q D H2 (s1.free nD) sHH ⟨acc, _, rfl, hD, x2.weak fun a y => fmf y⟩
    · rw [if_neg hl] at q
      exact q.elim
end Sim
end T_SimE
section T_SimF
set_option Elab.async false
set_option linter.all false
set_option maxRecDepth 100000
namespace Sim
open PySem PySem.Spec L2
open PyProof.Rows hiding St
inductive Fl where
  | nx (ρ : List Dt) | rt (d : Dt) | bk (ρ : List Dt) | ct (ρ : List Dt)
abbrev Gs := List Dt → O Fl
inductive Lk where
  | n | l | m | ml | t
def sclA : List Dt → Bool
  | [] => true
  | d :: ds => scl d && sclA ds
def sclV : List (Dt × Dt) → Bool
  | [] => true
  | d :: ds => scl d.2 && sclV ds
def ArgAt (K : PySem.W.Frag) (H : Hp) (a : Addr) (d : Dt) : Prop := match d with
  | .list es => sclA es = true ∧ ∃ ws, H a = some (.lst ws) ∧ RpA K (fun _ => False) H ws es
  | .dict es => sclV es = true ∧ ∃ kvs, H a = some (.dK kvs) ∧ KvA K (fun _ => False) H kvs es
  | _ => False
def PoS (K : PySem.W.Frag) (W : Wt) (L : Lk) (f : Fm) (Δn Δb Δc : List Kd) (o : O Fl) (E : Ends) : Prop := match o with
  | .bad => False
  | .ex e => ∀ σ' H', Same f.H0 H' → W e σ' H'
  | .ok (.nx ρ) => ∀ σ' H', R K f Δn ρ σ' H' → E.nx σ' H'
  | .ok (.rt d) => (match L with
    | .l => ∀ p H', f.H0 p = none → Same f.H0 H' → OwC K .l (fun a => f.G a ∧ a ≠ p) H' p d → E.rt (.ref p) H'
    | .n => ∀ v H', Same f.H0 H' → Rp K f.G H' v d → E.rt v H'
    | .t => ∀ v H' L, Same f.H0 H' → Tr K f.G H' v d L → E.rt v H'
    | .m => (match f.A, d with
      | some a, .tuple [r, e] => ∀ v H', Same f.H0 H' → ArgAt K H' a e → Rp K (fun b => f.G b ∧ b ≠ a) H' v r → E.rt v H'
      | _, _ => False)
    | .ml => (match f.A, d with
      | some a, .tuple [r, e] => ∀ p H', p ≠ a → f.H0 p = none → Same f.H0 H' → ArgAt K H' a e → OwC K .l (fun b => (f.G b ∧ b ≠ a) ∧ b ≠ p) H' p r → E.rt (.ref p) H'
      | _, _ => False))
  | .ok (.bk ρ) => ∀ σ' H', R K f Δb ρ σ' H' → E.bk σ' H'
  | .ok (.ct ρ) => ∀ σ' H', R K f Δc ρ σ' H' → E.ct σ' H'
def SS (K : PySem.W.Frag) (W : Wt) (L : Lk) (Δ Δn Δb Δc : List Kd) (ts : TS) (g : Gs) : Prop := ∀ f ρ σ H E, R K f Δ ρ σ H → PoS K W L f Δn Δb Δc (g ρ) E → ts E σ H
def gNext : Gs := fun ρ => .ok (.nx ρ)
def gSeqS (a b : Gs) : Gs := fun ρ => match a ρ with
  | .ok (.nx ρ') => b ρ'
  | o => o
def gRet (g : Gd) : Gs := fun ρ => bnd (g ρ) fun d => .ok (.rt d)
def gAsg (g : Gd) (h : Dt → List Dt → O (List Dt)) : Gs := fun ρ => bnd (g ρ) fun d => match h d ρ with
  | .ok ρ' => .ok (.nx ρ')
  | _ => .bad
def gSet (i : Nat) (g : Gd) : Gs := fun ρ => bnd (g ρ) fun d => .ok (.nx (ρ.set i d))
def gDrop (g : Gd) : Gs := fun ρ => bnd (g ρ) fun _ => .ok (.nx ρ)
def gApp (i : Nat) (g : Gd) : Gs := fun ρ => match ρ[i]? with
  | some (.list ds) => bnd (g ρ) fun d => if ds.length < 100000 then .ok (.nx (ρ.set i (.list (ds ++ [d])))) else .bad
  | _ => .bad
def gSetI (i : Nat) (ge gi : Gd) : Gs := fun ρ => bnd (ge ρ) fun d => match ρ[i]? with
  | some (.list ds) => bnd (gi ρ) fun k => (match k with
    | .int k => (match ixN ds.length k with
      | some j => .ok (.nx (ρ.set i (.list (ds.set j d))))
      | none => .bad)
    | _ => .bad)
  | _ => .bad
def gIfS (t : List Dt → O Bool) (a b : Gs) : Gs := fun ρ => bnd (t ρ) fun c => if c then a ρ else b ρ
def forE (h : Dt → List Dt → O (List Dt)) (b : Gs) : List Dt → Gs
  | [] => fun ρ => .ok (.nx ρ)
  | d :: ds => fun ρ => match h d ρ with
    | .ok ρ1 => bnd (b ρ1) fun fl => (match fl with
      | .nx ρ' => forE h b ds ρ'
      | .ct ρ' => forE h b ds ρ'
      | .bk ρ' => .ok (.nx ρ')
      | .rt d => .ok (.rt d))
    | _ => .bad
def gFor (gi : List Dt → O (List Dt)) (h : Dt → List Dt → O (List Dt)) (b : Gs) : Gs := fun ρ => bnd (gi ρ) fun ds => forE h b ds ρ
section
variable {K : PySem.W.Frag} {W : Wt} {Δ Δ1 Δ2 Δn Δb Δc : List Kd} {te ti : TE} {tt : TT} {t u : TS} {ta : TA} {g ge gi : Gd} {gt : List Dt → O Bool} {gA : List Dt → O (List Dt)} {ga gb : Gs} {fr fr' av av' : Bool} {L : Lk} {i j : Nat}
theorem SS.pre (h : SS K W L Δ1 Δn Δb Δc t ga) (l : leA Δ Δ1 = true) : SS K W L Δ Δn Δb Δc t ga := fun f ρ σ H E r q => h f ρ σ H E (r.weak l) q
theorem SS.post {Δn' Δb' Δc' : List Kd} (h : SS K W L Δ Δn Δb Δc t ga) (ln : leA Δn Δn' = true) (lb : leA Δb Δb' = true) (lc : leA Δc Δc' = true) : SS K W L Δ Δn' Δb' Δc' t ga := fun f ρ σ H E r q => h f ρ σ H E r <| by
  cases e : ga ρ with
  | bad => rw [e] at q; exact q
  | ex z => rw [e] at q; exact q
  | ok fl =>
    rw [e] at q
    cases fl with
    | nx ρ' => exact fun σ' H' r => q σ' H' (r.weak ln)
    | rt d => exact q
    | bk ρ' => exact fun σ' H' r => q σ' H' (r.weak lb)
    | ct ρ' => exact fun σ' H' r => q σ' H' (r.weak lc)
theorem s_next : SS K W L Δ Δ Δb Δc tNext gNext := fun f ρ σ H E r q => q σ H r
theorem s_seq (h1 : SS K W L Δ Δ1 Δb Δc t ga) (h2 : SS K W L Δ1 Δn Δb Δc u gb) : SS K W L Δ Δn Δb Δc (tSeq t u) (gSeqS ga gb) := fun f ρ σ H E r q => h1 f ρ σ H _ r <| by
  unfold gSeqS at q
  cases e : ga ρ with
  | bad => rw [e] at q; exact q
  | ex z => rw [e] at q; exact q
  | ok fl =>
    rw [e] at q
    cases fl with
    | nx ρ' => exact fun σ' H' r' => h2 f ρ' σ' H' E r' q
    | rt d => exact q
    | bk ρ' => exact q
    | ct ρ' => exact q
theorem s_ret (h : SE K W Δ te (.v av true) g) : SS K W .n Δ Δn Δb Δc (tRet te) (gRet g) := fun f ρ σ H E r q => h f ρ σ H _ r <| by
  unfold gRet at q
  cases e : g ρ with
  | bad => rw [e] at q; exact q
  | ex z => rw [e] at q; exact fun H' s => q σ H' (r.ext.trans s)
  | ok d =>
    rw [e] at q
    exact fun v H' s x => q v H' (r.ext.trans s) (x.weak fun a fa => fa.2 rfl)
theorem s_retL (h : SE K W Δ te (.new .l true) g) : SS K W .l Δ Δn Δb Δc (tRet te) (gRet g) := fun f ρ σ H E r q => h f ρ σ H _ r <| by
  unfold gRet at q
  cases e : g ρ with
  | bad => rw [e] at q; exact q
  | ex z => rw [e] at q; exact fun H' s => q σ H' (r.ext.trans s)
  | ok d =>
    rw [e] at q
    exact fun p H' np s x => q p H' (r.fresh np).2.2 (r.ext.trans s) (x.map (fun _ e => e) fun _ _ y => y.weak fun a fa => ⟨fa.1.2 rfl, fa.2⟩)
theorem s_retO (hk : Δ[i]? = some (.own .l true)) : SS K W .l Δ Δn Δb Δc (tRet (tVar i)) (gRet (gVar i)) := fun f ρ σ H E r q => by
  obtain ⟨p, d, h1, h2, h3, h4⟩ := r.ow i .l true hk
  unfold gRet gVar at q
  rw [h2, bnd_ok] at q
  exact ⟨_, h1, q p H h3 r.ext (h4.map (fun _ e => e) fun _ _ y => y.weak fun a fa => ⟨fa.2 rfl, fun z => (fa.1 rfl).1 (z ▸ ⟨i, .l, true, hk, h1⟩)⟩)⟩
theorem s_drop {k : Rk} (h : SE K W Δ te k g) : SS K W L Δ Δ Δb Δc (tDrop te) (gDrop g) := fun f ρ σ H E r q => h f ρ σ H _ r <| by
  unfold gDrop at q
  cases e : g ρ with
  | bad => rw [e] at q; exact q
  | ex z => rw [e] at q; exact fun H' s => q σ H' (r.ext.trans s)
  | ok d =>
    rw [e] at q
    cases k with
    | v av fr => exact fun v H' s x => q σ H' (r.mono s)
    | o fr => exact fun p H' vs ds e s _ _ _ => q σ H' (r.mono s)
    | new c fr => exact fun p H' np s x => q σ H' (r.mono s)
theorem s_set (hi : i < Δ.length) (h : SE K W Δ te (.v true fr) g) : SS K W L Δ (Δ.set i (.im fr)) Δb Δc (tAsg te (gName i)) (gSet i g) := fun f ρ σ H E r q => h f ρ σ H _ r <| by
  unfold gSet at q
  cases e : g ρ with
  | bad => rw [e] at q; exact q
  | ex z => rw [e] at q; exact fun H' s => q σ H' (r.ext.trans s)
  | ok d =>
    rw [e] at q
    exact fun v H' s x => q _ H' ((r.mono s).setIm hi x)
theorem s_setO {c : Ct} (hi : i < Δ.length) (h : SE K W Δ te (.new c fr) g) (hc : isArg c = false := by rfl) : SS K W L Δ (Δ.set i (.own c fr)) Δb Δc (tAsg te (gName i)) (gSet i g) := fun f ρ σ H E r q => h f ρ σ H _ r <| by
  unfold gSet at q
  cases e : g ρ with
  | bad => rw [e] at q; exact q
  | ex z => rw [e] at q; exact fun H' s => q σ H' (r.ext.trans s)
  | ok d =>
    rw [e] at q
    exact fun p H' np s x => q _ H' (r.setOwn hi np s x hc)
theorem s_asg {gg : TG} {sl : List Nat} {n : Nat} {hh : Dt → List Dt → O (List Dt)} {TK : Bool → List Kd → List Kd} (hn : Δ.length = n) (h : SE K W Δ te (.v true fr) g) (hg : GJ K n gg sl hh TK) : SS K W L Δ (TK fr Δ) Δb Δc (tAsg te gg) (gAsg g hh) := fun f ρ σ H E r q => h f ρ σ H _ r <| by
  unfold gAsg at q
  cases e : g ρ with
  | bad => rw [e] at q; exact q
  | ex z => rw [e] at q; exact fun H' s => q σ H' (r.ext.trans s)
  | ok d =>
    rw [e, bnd_ok] at q
    intro v H' s x
    refine hg f Δ ρ σ H' v d fr _ hn (r.mono s) x ?_
    cases e2 : hh d ρ with
    | bad => rw [e2] at q; exact q.elim
    | ex z => rw [e2] at q; exact q.elim
    | ok ρ' =>
      rw [e2] at q
      exact fun σ' t => q σ' H' t.r
theorem s_app (hk : Δ[i]? = some (.own .l fr)) (h : SE K W Δ te (.v true fr') g) : SS K W L Δ (Δ.set i (.own .l (fr && fr'))) Δb Δc (tDrop (tBM K "list" rAppend (tVar i) (tCons te tNil))) (gApp i g) := fun f ρ σ H E r q => by
  obtain ⟨p, d, h1, h2, h3, vs, ds, ed, h4, h5⟩ := r.ow i .l fr hk
  subst ed
  unfold gApp at q
  rw [h2] at q
  simp only at q
  refine ⟨_, h1, .inl ⟨rfl, _, .inl (.inl h4)⟩, h f ρ σ H _ r ?_⟩
  cases e : g ρ with
  | bad => rw [e] at q; exact q
  | ex z => rw [e] at q; exact fun H' s => q σ H' (r.ext.trans s)
  | ok d =>
    rw [e, bnd_ok] at q
    intro v H1 s x
    by_cases hl : ds.length < 100000
    · rw [if_pos hl] at q
      have hp := s _ _ h4
      have hl2 : vs.length < sizeLine := by rw [h5.length]; exact Nat.lt_of_lt_of_le hl (by decide)
      refine ⟨p, vs, v, rfl, rfl, hp, hl2, q σ _ ?_⟩
      refine (r.mono s).updOwn hk h1 (c' := .l) (show Mutb (.lst _) from trivial) ⟨_, _, rfl, upd_same, ?_⟩
      have nf : ∀ {fr : Bool} (a : Addr), FM f Δ σ true fr a → a ≠ p := fun a fa z => (fa.1 rfl).1 (z ▸ ⟨i, .l, _, hk, h1⟩)
      exact (((h5.same s).updM hp trivial fun a fa => nf a fa).weak fun a y => y.weak id fun h => (Bool.and_eq_true_iff.mp h).1).append
        (.cons ((Rp.updM hp trivial (fun a fa => nf a fa) x).weak fun a y => y.weak id fun h => (Bool.and_eq_true_iff.mp h).2) .nil)
    · rw [if_neg hl] at q
      exact q.elim
theorem s_setI (hk : Δ[i]? = some (.own .l fr)) (h : SE K W Δ te (.v true fr') ge) (h2 : SE K W Δ ti (.v av av') gi) : SS K W L Δ (Δ.set i (.own .l (fr && fr'))) Δb Δc (tAsg te (gSub (tVar i) ti rSetL)) (gSetI i ge gi) := fun f ρ σ H E r q => h f ρ σ H _ r <| by
  obtain ⟨p, d, g1, g2, g3, vs, ds, ed, g4, g5⟩ := r.ow i .l fr hk
  subst ed
  unfold gSetI at q
  cases e : ge ρ with
  | bad => rw [e] at q; exact q
  | ex z => rw [e] at q; exact fun H' s => q σ H' (r.ext.trans s)
  | ok d =>
    rw [e, bnd_ok, g2] at q
    simp only at q
    intro v H1 s x
    refine ⟨_, g1, h2 f ρ σ H1 _ (r.mono s) ?_⟩
    cases e2 : gi ρ with
    | bad => rw [e2] at q; exact q
    | ex z => rw [e2] at q; exact fun H' s2 => q σ H' ((r.ext.trans s).trans s2)
    | ok k =>
      rw [e2, bnd_ok] at q
      intro kv H2 s2 xk
      cases k with
      | int k =>
        simp only at q
        cases ej : ixN ds.length k with
        | none => rw [ej] at q; exact q.elim
        | some j =>
          rw [ej] at q
          rw [rpInt xk]
          have s12 := s.trans s2
          have hp := s12 _ _ g4
          refine ⟨p, vs, k, j, rfl, rfl, hp, by rw [g5.length]; exact ej, q σ _ ?_⟩
          refine (r.mono s12).updOwn hk g1 (c' := .l) (show Mutb (.lst _) from trivial) ⟨_, _, rfl, upd_same, ?_⟩
          have nf : ∀ {fr : Bool} (a : Addr), FM f Δ σ true fr a → a ≠ p := fun a fa z => (fa.1 rfl).1 (z ▸ ⟨i, .l, _, hk, g1⟩)
          exact RpA.set ((Rp.updM hp trivial (fun a fa => nf a fa) (x.same s2)).weak fun a y => y.weak id fun h => (Bool.and_eq_true_iff.mp h).2) j
            (((g5.same s12).updM hp trivial fun a fa => nf a fa).weak fun a y => y.weak id fun h => (Bool.and_eq_true_iff.mp h).1)
      | _ => exact q.elim
theorem s_if (h : ST K W Δ tt gt) (h1 : SS K W L Δ Δn Δb Δc t ga) (h2 : SS K W L Δ Δn Δb Δc u gb) : SS K W L Δ Δn Δb Δc (tIfS tt t u) (gIfS gt ga gb) := fun f ρ σ H E r q => h f ρ σ H _ r <| by
  unfold gIfS at q
  cases e : gt ρ with
  | bad => rw [e] at q; exact q
  | ex z => rw [e] at q; exact fun H' s => q σ H' (r.ext.trans s)
  | ok c =>
    rw [e, bnd_ok] at q
    intro H1 s
    cases c with
    | true => exact h1 f ρ σ H1 E (r.mono s) q
    | false => exact h2 f ρ σ H1 E (r.mono s) q
theorem PoS.toG {f : Fm} {gg : List V × List Dt × Bool} {o : O Fl} {E : Ends} (q : PoS K W L f Δn Δb Δc o E) : PoS K W L { f with Γ := gg :: f.Γ } Δn Δb Δc o E := by
  cases o with
  | bad => exact q
  | ex z => exact q
  | ok fl =>
    cases fl with
    | nx ρ => exact fun σ' H' r => q σ' H' r.dropG
    | rt d => exact q
    | bk ρ => exact fun σ' H' r => q σ' H' r.dropG
    | ct ρ => exact fun σ' H' r => q σ' H' r.dropG
theorem s_for {wi : TI} {gg : TG} {sl : List Nat} {n : Nat} {hh : Dt → List Dt → O (List Dt)} {TK : Bool → List Kd → List Kd} {gI : List Dt → O (List Dt)} (hn : Δ.length = n) (h : SI K W Δ wi false fr gI) (hg : GJ K n gg sl hh TK) (hb : SS K W L (TK fr Δ) Δ Δ Δ t gb) :
    SS K W L Δ Δ Δb Δc (tFor wi gg t) (gFor gI hh gb) := fun f ρ σ H E r q => h f ρ σ H _ r <| by
  unfold gFor at q
  cases e : gI ρ with
  | bad => rw [e] at q; exact q
  | ex z => rw [e] at q; exact fun H' s => q σ H' (r.ext.trans s)
  | ok ds =>
    rw [e, bnd_ok] at q
    intro J H1 pf vs es s1 hpf _ x sc
    have hpf := hpf rfl
    subst hpf
    have r1 := (r.mono s1).addG (fr := fr) x
    have q1 := q.toG (gg := (vs, es, fr))
    generalize hf1 : ({ f with Γ := (vs, es, fr) :: f.Γ } : Fm) = f1 at r1 q1
    have gG : (vs, es, fr) ∈ f1.Γ := by rw [← hf1]; exact List.mem_cons_self
    refine ⟨fun i m σ H => m = ds.length - i ∧ i ≤ ds.length ∧ ∃ ρ, R K f1 Δ ρ σ H ∧ PoS K W L f1 Δ Δb Δc (forE hh gb (ds.drop i) ρ) E, ⟨ds.length, by simp, Nat.zero_le _, ρ, r1, q1⟩, ?_⟩
    rintro i m σ2 H2 ⟨rfl, hi, ρ2, r2, q2⟩
    have stand : (∀ q, (none : Option (Addr × HO)) = some q → H2 q.1 = some q.2) ∧ ∃ F, RpA K F H2 vs es := ⟨fun _ e => (nomatch e), _, r2.gh _ gG⟩
    by_cases hlt : i < ds.length
    · refine .inr ⟨sc.goes i H2 hlt stand, fun σ' H' => i + 1 ≤ ds.length ∧ ∃ ρ, R K f1 Δ ρ σ' H' ∧ PoS K W L f1 Δ Δb Δc (forE hh gb (ds.drop (i + 1)) ρ) E, fun σ' H' w => ⟨ds.length - (i + 1), by omega, rfl, w⟩, fun x H3 hy => ?_⟩
      obtain ⟨s3, hx⟩ := sc.yields i H2 x H3 hlt stand hy
      obtain ⟨d, hd, x3⟩ := hx _ (r2.gh _ gG)
      have edrop : ds.drop i = d :: ds.drop (i + 1) := by
        have hd' := (List.getElem?_eq_some_iff.mp hd).2
        rw [List.drop_eq_getElem_cons hlt, hd']
      rw [edrop] at q2
      unfold forE at q2
      refine hg f1 Δ ρ2 σ2 H3 x d fr _ hn (r2.mono s3) x3 ?_
      cases eh : hh d ρ2 with
      | bad => rw [eh] at q2; exact q2.elim
      | ex z => rw [eh] at q2; exact q2.elim
      | ok ρ3 =>
        rw [eh] at q2
        simp only at q2
        intro σ4 t4
        refine hb f1 ρ3 σ4 H3 _ t4.r ?_
        cases e2 : gb ρ3 with
        | bad => rw [e2] at q2; exact q2
        | ex z => rw [e2] at q2; exact q2
        | ok fl =>
          rw [e2, bnd_ok] at q2
          cases fl with
          | nx ρ' => exact fun σ' H' r' => ⟨hlt, ρ', r', q2⟩
          | ct ρ' => exact fun σ' H' r' => ⟨hlt, ρ', r', q2⟩
          | bk ρ' => exact q2
          | rt d => exact q2
    · have ei : i = ds.length := by omega
      subst ei
      rw [List.drop_length] at q2
      exact .inl ⟨sc.stops H2 stand, q2 σ2 H2 r2⟩
end
def Wcls (mg : Str → Option Value) (e : Exn) (E : XK) (H' : Hp) : Prop := ∀ C, mg e.cls = some (.ref C) → match e.arg with
  | none => E (.ref C) none H'
  | some m => ∀ d, H' d = some (.xd [("moment", .int m)]) → E (.ref C) (some d) H'
def spG (K : PySem.W.Frag) (mg : Str → Option Value) (n : Nat) (g : List Dt → O Dt) : Sp := fun vs H Q E => ∃ ds, vs.length = n ∧ RpA K (fun _ => True) H vs ds ∧ (match g ds with
  | .bad => False
  | .ex e => ∀ H', Same H H' → Wcls mg e E H'
  | .ok d => ∀ v H', Same H H' → Rp K (fun a => H a = none) H' v d → Q v H')
def spL (K : PySem.W.Frag) (mg : Str → Option Value) (n : Nat) (g : List Dt → O Dt) : Sp := fun vs H Q E => ∃ ds, vs.length = n ∧ RpA K (fun _ => True) H vs ds ∧ (match g ds with
  | .bad => False
  | .ex e => ∀ H', Same H H' → Wcls mg e E H'
  | .ok d => ∀ p H', H p = none → Same H H' → OwC K .l (fun a => H a = none ∧ a ≠ p) H' p d → Q (.ref p) H')
def gCallN (n : Nat) (g : List Dt → O Dt) (gA : List Dt → O (List Dt)) : Gd := fun ρ => bnd (gA ρ) fun ds => if ds.length = n then (match g ds with
  | .ok d => .ok d
  | _ => .bad) else .bad
section
variable {K : PySem.W.Frag} {W : Wt} {Δ : List Kd} {ta : TA} {gA : List Dt → O (List Dt)} {av fr : Bool} {mg : Str → Option Value} {n : Nat} {g : List Dt → O Dt}
theorem se_callN (h : SA K W Δ ta av fr gA) : SE K W Δ (tCall (spG K mg n g) [] E0 ta) (.v true true) (gCallN n g gA) := fun f ρ σ H Q r q => h f ρ σ H _ r <| by
  unfold gCallN at q
  cases e : gA ρ with
  | bad => rw [e] at q; exact q
  | ex z => rw [e] at q; exact q
  | ok ds =>
    rw [e, bnd_ok] at q
    intro vs H1 s1 x1
    by_cases hn : ds.length = n
    · rw [if_pos hn] at q
      rw [List.append_nil]
      refine ⟨ds, by rw [x1.length]; exact hn, x1.weak fun _ _ => trivial, ?_⟩
      cases e2 : g ds with
      | bad => rw [e2] at q; exact q.elim
      | ex z => rw [e2] at q; exact q.elim
      | ok d =>
        rw [e2] at q
        intro v H2 s2 x2
        refine q v H2 (s1.trans s2) (x2.weak fun a na => ?_)
        obtain ⟨f1, f2, f3⟩ := (r.mono s1).fresh na
        exact ⟨fun _ => ⟨f1, f2⟩, fun _ => r.g0 a f3⟩
    · rw [if_neg hn] at q
      exact q.elim
theorem se_callL (h : SA K W Δ ta av fr gA) : SE K W Δ (tCall (spL K mg n g) [] E0 ta) (.new .l true) (gCallN n g gA) := fun f ρ σ H Q r q => h f ρ σ H _ r <| by
  unfold gCallN at q
  cases e : gA ρ with
  | bad => rw [e] at q; exact q
  | ex z => rw [e] at q; exact q
  | ok ds =>
    rw [e, bnd_ok] at q
    intro vs H1 s1 x1
    by_cases hn : ds.length = n
    · rw [if_pos hn] at q
      rw [List.append_nil]
      refine ⟨ds, by rw [x1.length]; exact hn, x1.weak fun _ _ => trivial, ?_⟩
      cases e2 : g ds with
      | bad => rw [e2] at q; exact q.elim
      | ex z => rw [e2] at q; exact q.elim
      | ok d =>
        rw [e2] at q
        intro p H2 np s2 x2
        refine q p H2 (s1.free np) (s1.trans s2) (x2.map (fun _ e => e) fun _ _ y => y.weak fun a na => ?_)
        obtain ⟨f1, f2, f3⟩ := (r.mono s1).fresh na.1
        exact ⟨⟨fun _ => ⟨f1, f2⟩, fun _ => r.g0 a f3⟩, na.2⟩
    · rw [if_neg hn] at q
      exact q.elim
end
end Sim
end T_SimF
section T_SimG
set_option Elab.async false
set_option linter.all false
set_option maxRecDepth 100000
namespace Sim
open PySem PySem.Spec L2
open PyProof.Rows hiding St
section
variable {X : Cx} {K : PySem.W.Frag} {W : Wt} {Δ Δ1 Δn Δb Δc : List Kd} {a b c e elt tg iter : Expr} {es ifs : List Expr} {ta tb tc te : TE} {tt tu : TT} {tA : TA} {ga gb gc g ge gi : Gd} {gt gu : List Dt → O Bool} {gA gI : List Dt → O (List Dt)} {k k1 k2 : Rk} {av fr av' fr' : Bool} {L : Lk} {pos : Pos} {t u : TS} {g1 g2 : Gs}
theorem x_ix (ha : PD X K W Δ a ta (.v av fr) ga) (hb : PD X K W Δ b tb (.v av' fr') gb) (hs : PlainIx b := by exact fun _ _ => rfl) : PD X K W Δ (.Subscript a b pos) (tOp (rIx K) ta tb) (.v av fr) (gOp hIx ga gb) :=
  ⟨pe_ix (by have q := ix_seq (X := X); rw [ha.hK] at q; exact q) ha.pe hb.pe hs, ha.hK, se_ix ha.se hb.se⟩
theorem x_ixO (ha : PD X K W Δ a ta (.o fr) ga) (hb : PD X K W Δ b tb (.v av' fr') gb) (hs : PlainIx b := by exact fun _ _ => rfl) : PD X K W Δ (.Subscript a b pos) (tOp (rIx K) ta tb) (.v true fr) (gOp hIx ga gb) :=
  ⟨pe_ix (by have q := ix_seq (X := X); rw [ha.hK] at q; exact q) ha.pe hb.pe hs, ha.hK, se_ixO ha.se hb.se⟩
structure OD (X : Cx) (K : PySem.W.Frag) (W : Wt) (Δ : List Kd) (e : Option Expr) (to : TOp) (g : List Dt → O (Option Int)) : Prop where
  po : PO X e to
  so : SO K W Δ to g
theorem o_none : OD X K W Δ none tNoPart gNoPart := ⟨po_none, so_none⟩
theorem o_some (h : PD X K W Δ e te (.v av fr) g) : OD X K W Δ (some e) (tPart te) (gPart g) := ⟨po_some h.pe, so_some h.se⟩
theorem x_sl {lo hi : Option Expr} {tl th : TOp} {gl gh : List Dt → O (Option Int)} {p2 : Pos} (h : PD X K W Δ e te (.v true fr) g) (h1 : OD X K W Δ lo tl gl) (h2 : OD X K W Δ hi th gh) : PD X K W Δ (.Subscript e (.Slice lo hi none p2) pos) (tSl (rSlL K) te tl th) (.new .l fr) (gSl hSl g gl gh) :=
  ⟨pe_slice (by have q := sl_list (X := X); rw [h.hK] at q; exact q) h.pe h1.po h2.po, h.hK, se_sl h.se h1.so h2.so⟩
theorem x_slO {lo hi : Option Expr} {tl th : TOp} {gl gh : List Dt → O (Option Int)} {p2 : Pos} (h : PD X K W Δ e te (.o fr) g) (h1 : OD X K W Δ lo tl gl) (h2 : OD X K W Δ hi th gh) : PD X K W Δ (.Subscript e (.Slice lo hi none p2) pos) (tSl (rSlL K) te tl th) (.new .l fr) (gSl hSl g gl gh) :=
  ⟨pe_slice (by have q := sl_list (X := X); rw [h.hK] at q; exact q) h.pe h1.po h2.po, h.hK, se_slO h.se h1.so h2.so⟩
theorem x_cat (ha : PD X K W Δ a ta (.v true fr) ga) (hb : PD X K W Δ b tb (.v true fr') gb) : PD X K W Δ (.BinOp a .Add b pos) (tOp (rCatS K) ta tb) (.new .l (fr && fr')) (gOp hCat ga gb) :=
  ⟨pe_op (by have q := op_catS (X := X); rw [ha.hK] at q; exact q) ha.pe hb.pe, ha.hK, se_cat ha.se hb.se⟩
theorem x_catO (ha : PD X K W Δ a ta (.o fr) ga) (hb : PD X K W Δ b tb (.v true fr') gb) : PD X K W Δ (.BinOp a .Add b pos) (tOp (rCatS K) ta tb) (.new .l (fr && fr')) (gOp hCat ga gb) :=
  ⟨pe_op (by have q := op_catS (X := X); rw [ha.hK] at q; exact q) ha.pe hb.pe, ha.hK, se_catO ha.se hb.se⟩
theorem x_rep (ha : PD X K W Δ a ta (.new .l fr) ga) (hb : PD X K W Δ b tb (.v av' fr') gb) : PD X K W Δ (.BinOp a .Mult b pos) (tOp rRep ta tb) (.new .l fr) (gOp hRep ga gb) := ⟨pe_op op_rep ha.pe hb.pe, ha.hK, se_rep ha.se hb.se⟩
theorem x_list {x : Str} {p : Pos} (hm : X.mg x = none) (h : AD X K W Δ (e :: es) tA true fr gA) (hv : bootBuiltins x = some (.type "list") := by decide +kernel) (hg : Gl X x := by rfl) (hn : x ≠ "__name__" := by decide) (hdb : (x == ("__debug__" : Str)) = false := by decide)
    (he : starEach (e :: es) X.env = (false, eval e X.env) :: starEach es X.env := by rfl) (hpl : (backTo pos (starEach es X.env)).any (·.1) = false := by rfl) :
    PD X K W Δ (.Call (.Name x p) (e :: es) [] pos) (tCB (rListOf K) tA) (.new .l fr) (gCB (one hListOf) gA) :=
  ⟨pe_callTy (by have q := call_list_of (X := X); rw [h.hK] at q; exact q) hg hm hv h.pa hn hdb he hpl, h.hK, se_listOf h.sa⟩
theorem x_tuple {x : Str} {p : Pos} (hm : X.mg x = none) (h : AD X K W Δ (e :: es) tA av fr gA) (hv : bootBuiltins x = some (.type "tuple") := by decide +kernel) (hg : Gl X x := by rfl) (hn : x ≠ "__name__" := by decide) (hdb : (x == ("__debug__" : Str)) = false := by decide)
    (he : starEach (e :: es) X.env = (false, eval e X.env) :: starEach es X.env := by rfl) (hpl : (backTo pos (starEach es X.env)).any (·.1) = false := by rfl) :
    PD X K W Δ (.Call (.Name x p) (e :: es) [] pos) (tCB (fun xs H Q => ∃ p ys, xs = [.ref p] ∧ ((SqL K H p ys ∧ ∀ l, H l = none → Q (.ref l) (upd H l (.tup ys))) ∨ (SqT K H p ys ∧ Q (.ref p) H))) tA) (.v av fr) (gCB (one hTupOf) gA) :=
  ⟨pe_callTy (by have q := call_tuple_of (X := X); rw [h.hK] at q; exact q) hg hm hv h.pa hn hdb he hpl, h.hK, se_tupOf h.sa⟩
theorem i_seq (h : PD X K W Δ e te (.v true fr) g) : ID X K W Δ tg e (iSeq K te) false fr (gSeq g) := ⟨by have q := pi_seq (tg := tg) h.pe; rw [h.hK] at q; exact q, h.hK, si_seq h.se⟩
theorem i_rng1 {p : Pos} (hm : X.mg "range" = none) (h : AD X K W Δ [a] tA av fr gA) (hg : Gl X "range" := by rfl) (hs : starEach [a] X.env = [(false, eval a X.env)] := by rfl) : ID X K W Δ tg (.Call (.Name "range" p) [a] [] pos) (iRng1 tA) false true (gRng1 gA) := ⟨pi_range1 hg hm h.pa hs, h.hK, si_rng1 h.sa⟩
theorem i_rng2 {p : Pos} (hm : X.mg "range" = none) (h : AD X K W Δ [a, b] tA av fr gA) (hg : Gl X "range" := by rfl) (hs : starEach [a, b] X.env = [(false, eval a X.env), (false, eval b X.env)] := by rfl) (hs2 : starEach [b] X.env = [(false, eval b X.env)] := by rfl) :
    ID X K W Δ tg (.Call (.Name "range" p) [a, b] [] pos) (iRng2 tA) false true (gRng2 gA) := ⟨pi_range2 hg hm h.pa hs hs2, h.hK, si_rng2 h.sa⟩
theorem g_tup {n m kk : Nat} {gs : TGs} {sl : List Nat} {u : List Dt → List Dt → O (List Dt)} {T : Bool → List Kd → List Kd} (hc : X.calm = true) (h : GDs X K n es gs sl u T) (hm : ∀ ds ρ, ds.length ≠ m → ∀ z, u ds ρ ≠ .ok z) (hl : (assignEach es X.env).length = m := by rfl) (hst : List.findIdx? (fun x => x.fst) (assignEach es X.env) = none := by rfl) :
    GD X K n (.Tuple es kk pos) (L2.gTup K m gs) sl (tgT u) T := ⟨by have q := pg_tup (X := X) (k := kk) (n := m) (pos := pos) hc h.pg hl hst; rw [h.hK] at q; exact q, h.hK, gj_tup h.gj hm⟩
structure TsD (X : Cx) (K : PySem.W.Frag) (Δ : List Kd) (ifs : List Expr) (tt : TT) (g : List Dt → O Bool) : Prop where
  pts : PTs X ifs tt
  st : ST K W0 Δ tt g
theorem t_nil : TsD X K Δ [] tYes gYes := ⟨pts_nil, fun f ρ σ H Q r q => q H (Same.refl H)⟩
theorem t_one (h : TD X K W0 Δ c tt gt) : TsD X K Δ [c] tt gt := ⟨pts_one h.pt, h.st⟩
theorem x_lc {n : Nat} {scope : Scope} (own : List (Str × Nat)) {wi : TI} {gg : TG} {sl : List Nat} {hh : Dt → List Dt → O (List Dt)} {TK : Bool → List Kd → List Kd} {bb : Bool} (hN : X.N.Nodup) (hi : ID X K W Δ tg iter wi bb fr gI) (ok : blkC X.N X.env.scope scope own = true)
    (hg : ∀ (s : Shared) (H : Hp) (C : Addr) (cl : List (Str × Addr)) (fp : List Addr), GD (X.blk s H scope (compEnvC scope cl C X.env) fp) K n tg gg sl hh TK)
    (ht : ∀ (s : Shared) (H : Hp) (C : Addr) (cl : List (Str × Addr)) (fp : List Addr), TsD (X.blk s H scope (compEnvC scope cl C X.env) fp) K (TK fr (wipeK Δ (own.map (·.2)))) ifs tt gt)
    (he : ∀ (s : Shared) (H : Hp) (C : Addr) (cl : List (Str × Addr)) (fp : List Addr), PD (X.blk s H scope (compEnvC scope cl C X.env) fp) K W0 (TK fr (wipeK Δ (own.map (·.2)))) elt te (.v true fr') ge)
    (hn : Δ.length = n := by rfl) (hsl : ∀ i ∈ sl, i ∈ own.map (·.2) := by decide) (no : noOwn Δ (own.map (·.2)) = true := by rfl) (hc : X.calm = true := by rfl) (hs : ∀ x, foldedSetIterable iter X.env x = pure x := by intro _; rfl) :
    PD X K W Δ (.ListComp elt [⟨tg, iter, ifs, 0⟩] scope pos) (tLc wi gg tt te (own.map (·.2))) (.new .l fr') (gLc gI hh gt ge) :=
  ⟨pe_lc hc hN hi.pi (blkOk_by ok) (fun s H C cl fp => (hg s H C cl fp).pg) (fun s H C cl fp => (ht s H C cl fp).pts) (fun s H C cl fp => (he s H C cl fp).pe) hs, hi.hK,
    se_lc hi.si (hg X.s_0 X.H_0 0 [] []).gj hn hsl no (ht X.s_0 X.H_0 0 [] []).st (he X.s_0 X.H_0 0 [] []).se⟩
theorem x_callN {x : Str} {p : Pos} {CXT' : CXT} {kk nn : Nat} {fa : Addr} {fd : FuncData} {ps : List Str} {gg : List Dt → O Dt} {mg : Str → Option Value} (F : FnOk X.prog X.w X.K X.mg X.base CXT' kk fa fd ps (spG K mg nn gg)) (hr : Room kk X.A) (hm : X.mg x = some (.ref fa)) (hk : PySem.W.keepIn X.K (.ref fa) = true) (hb : Binds X.K fd ps [])
    (hx : Passes CXT' X E0) (h : AD X K W Δ (e :: es) tA av fr gA) (hg : Gl X x := by rfl) (hdb : (x == ("__debug__" : Str)) = false := by decide) (he : starEach (e :: es) X.env = (false, eval e X.env) :: starEach es X.env := by rfl) (hpl : (backTo pos (starEach es X.env)).any (·.1) = false := by rfl) :
    PD X K W Δ (.Call (.Name x p) (e :: es) [] pos) (tCall (spG K mg nn gg) [] E0 tA) (.v true true) (gCallN nn gg gA) := ⟨pe_call F hr hg hm hk hb .nil hx h.pa hdb he hpl, h.hK, se_callN h.sa⟩
theorem x_callL {x : Str} {p : Pos} {CXT' : CXT} {kk nn : Nat} {fa : Addr} {fd : FuncData} {ps : List Str} {gg : List Dt → O Dt} {mg : Str → Option Value} (F : FnOk X.prog X.w X.K X.mg X.base CXT' kk fa fd ps (spL K mg nn gg)) (hr : Room kk X.A) (hm : X.mg x = some (.ref fa)) (hk : PySem.W.keepIn X.K (.ref fa) = true) (hb : Binds X.K fd ps [])
    (hx : Passes CXT' X E0) (h : AD X K W Δ (e :: es) tA av fr gA) (hg : Gl X x := by rfl) (hdb : (x == ("__debug__" : Str)) = false := by decide) (he : starEach (e :: es) X.env = (false, eval e X.env) :: starEach es X.env := by rfl) (hpl : (backTo pos (starEach es X.env)).any (·.1) = false := by rfl) :
    PD X K W Δ (.Call (.Name x p) (e :: es) [] pos) (tCall (spL K mg nn gg) [] E0 tA) (.new .l true) (gCallN nn gg gA) := ⟨pe_call F hr hg hm hk hb .nil hx h.pa hdb he hpl, h.hK, se_callL h.sa⟩
end
structure SD (X : Cx) (K : PySem.W.Frag) (W : Wt) (L : Lk) (Δ Δn Δb Δc : List Kd) (st : Stmt) (ts : TS) (g : Gs) : Prop where
  ps : PS X st ts
  hK : X.K = K
  ss : SS K W L Δ Δn Δb Δc ts g
structure BD (X : Cx) (K : PySem.W.Frag) (W : Wt) (L : Lk) (Δ Δn Δb Δc : List Kd) (sts : List Stmt) (ts : TS) (g : Gs) : Prop where
  ps : PSs X sts ts
  hK : X.K = K
  ss : SS K W L Δ Δn Δb Δc ts g
section
variable {X : Cx} {K : PySem.W.Frag} {W : Wt} {Δ Δ1 Δ2 Δn Δb Δc : List Kd} {a b c e elt tg iter : Expr} {es ifs : List Expr} {ta tb tc te ti : TE} {tt tu : TT} {tA : TA} {ga gb gc g ge gi : Gd} {gt gu : List Dt → O Bool} {gA gI : List Dt → O (List Dt)} {k k1 k2 : Rk} {av fr av' fr' : Bool} {L : Lk} {pos pos' : Pos} {t u : TS} {g1 g2 : Gs} {st : Stmt} {sts sts2 : List Stmt}
theorem SD.pre (h : SD X K W L Δ1 Δn Δb Δc st t g1) (l : leA Δ Δ1 = true := by rfl) : SD X K W L Δ Δn Δb Δc st t g1 := ⟨h.ps, h.hK, h.ss.pre l⟩
theorem BD.post {Δn' Δb' Δc' : List Kd} (h : BD X K W L Δ Δn Δb Δc sts t g1) (ln : leA Δn Δn' = true := by rfl) (lb : leA Δb Δb' = true := by rfl) (lc : leA Δc Δc' = true := by rfl) : BD X K W L Δ Δn' Δb' Δc' sts t g1 := ⟨h.ps, h.hK, h.ss.post ln lb lc⟩
theorem b_nil (hK : X.K = K := by rfl) : BD X K W L Δ Δ Δb Δc [] tNext gNext := ⟨pss_nil, hK, s_next⟩
theorem b_one (h : SD X K W L Δ Δn Δb Δc st t g1) : BD X K W L Δ Δn Δb Δc [st] t g1 := ⟨pss_one h.ps, h.hK, h.ss⟩
theorem b_cons (h : SD X K W L Δ Δ1 Δb Δc st t g1) (h2 : BD X K W L Δ1 Δn Δb Δc sts u g2) : BD X K W L Δ Δn Δb Δc (st :: sts) (tSeq t u) (gSeqS g1 g2) := ⟨pss_cons h.ps h2.ps, h.hK, s_seq h.ss h2.ss⟩
theorem z_ret (h : PD X K W Δ e te (.v av true) g) : SD X K W .n Δ Δn Δb Δc (.Return (some e) pos) (tRet te) (gRet g) := ⟨ps_ret h.pe, h.hK, s_ret h.se⟩
theorem z_retL (h : PD X K W Δ e te (.new .l true) g) : SD X K W .l Δ Δn Δb Δc (.Return (some e) pos) (tRet te) (gRet g) := ⟨ps_ret h.pe, h.hK, s_retL h.se⟩
theorem z_retO (i : Nat) {x : Str} {p : Pos} (hk : Δ[i]? = some (.own .l true) := by rfl) (hN : X.N[i]? = some x := by rfl) (hv : Vis X.env.scope x := by first | exact Or.inl rfl | exact Or.inr (Or.inl rfl) | exact Or.inr (Or.inr rfl)) (hd : (x == ("__debug__" : Str)) = false := by decide)
    (hcd : (x == ("__classdict__" : Str)) = false := by decide) (hK : X.K = K := by rfl) : SD X K W .l Δ Δn Δb Δc (.Return (some (.Name x p)) pos) (tRet (tVar i)) (gRet (gVar i)) := ⟨ps_ret (pe_var hN hv hd hcd), hK, s_retO hk⟩
theorem z_expr (h : PD X K W Δ e te k g) (hs : swapsWith e none pos.line X.env = pure false := by rfl) : SD X K W L Δ Δ Δb Δc (.Expr e pos) (tDrop te) (gDrop g) := ⟨ps_expr h.pe hs, h.hK, s_drop h.se⟩
theorem z_set (i : Nat) {x : Str} (hN : X.N.Nodup) (h : PD X K W Δ e te (.v true fr) g) (hn : i < Δ.length := by decide) (hi : X.N[i]? = some x := by rfl) (hx : Loc X.env.scope x := by first | exact .inl rfl | exact .inr rfl) (hs : swapsWith e (some (.Name x pos')) pos.line X.env = pure false := by rfl) (hf : X.fn x = true ∨ X.env.scope.names.lookup x = some .local := by first | exact .inl rfl | exact .inr rfl) :
    SD X K W L Δ (Δ.set i (.im fr)) Δb Δc (.Assign [.Name x pos'] e pos) (tAsg te (gName i)) (gSet i g) := ⟨ps_set hN hi hx h.pe hs hf, h.hK, s_set hn h.se⟩
theorem z_setO (i : Nat) {x : Str} {ct : Ct} (hN : X.N.Nodup) (h : PD X K W Δ e te (.new ct fr) g) (hn : i < Δ.length := by decide) (hct : isArg ct = false := by rfl) (hi : X.N[i]? = some x := by rfl) (hx : Loc X.env.scope x := by first | exact .inl rfl | exact .inr rfl) (hs : swapsWith e (some (.Name x pos')) pos.line X.env = pure false := by rfl) (hf : X.fn x = true ∨ X.env.scope.names.lookup x = some .local := by first | exact .inl rfl | exact .inr rfl) :
    SD X K W L Δ (Δ.set i (.own ct fr)) Δb Δc (.Assign [.Name x pos'] e pos) (tAsg te (gName i)) (gSet i g) := ⟨ps_set hN hi hx h.pe hs hf, h.hK, s_setO hn h.se hct⟩
theorem z_setLc (i : Nat) {y : Str} {py : Pos} {n : Nat} {scope : Scope} (own : List (Str × Nat)) {wi : TI} {gg : TG} {sl : List Nat} {hh : Dt → List Dt → O (List Dt)} {TK : Bool → List Kd → List Kd} {bb : Bool} (hN : X.N.Nodup) (hi : ID X K W Δ tg iter wi bb fr gI) (ok : blkC X.N X.env.scope scope own = true)
    (hg : ∀ (s : Shared) (H : Hp) (C : Addr) (cl : List (Str × Addr)) (fp : List Addr), GD (X.blk s H scope (compEnvC scope cl C X.env) fp) K n tg gg sl hh TK)
    (ht : ∀ (s : Shared) (H : Hp) (C : Addr) (cl : List (Str × Addr)) (fp : List Addr), TsD (X.blk s H scope (compEnvC scope cl C X.env) fp) K (TK fr (wipeK Δ (own.map (·.2)))) ifs tt gt)
    (he : ∀ (s : Shared) (H : Hp) (C : Addr) (cl : List (Str × Addr)) (fp : List Addr), PD (X.blk s H scope (compEnvC scope cl C X.env) fp) K W0 (TK fr (wipeK Δ (own.map (·.2)))) elt te (.v true fr') ge)
    (hsw : swapsWith (.ListComp elt [⟨tg, iter, ifs, 0⟩] scope pos) (some (.Name y py)) pos'.line X.env = pure true) (hin : i < Δ.length := by decide) (hy : X.N[i]? = some y := by rfl) (hyl : X.env.scope.names.lookup y = some .local := by rfl)
    (hn : Δ.length = n := by rfl) (hsl : ∀ i ∈ sl, i ∈ own.map (·.2) := by decide) (no : noOwn Δ (own.map (·.2)) = true := by rfl) (hc : X.calm = true := by rfl) (hs : ∀ x, foldedSetIterable iter X.env x = pure x := by intro _; rfl) :
    SD X K W L Δ (Δ.set i (.own .l fr')) Δb Δc (.Assign [.Name y py] (.ListComp elt [⟨tg, iter, ifs, 0⟩] scope pos) pos') (tAsg (tLc wi gg tt te (own.map (·.2))) (gName i)) (gSet i (gLc gI hh gt ge)) :=
  ⟨ps_setLc hc hN hy hyl hsw hi.pi (blkOk_by ok) (fun s H C cl fp => (hg s H C cl fp).pg) (fun s H C cl fp => (ht s H C cl fp).pts) (fun s H C cl fp => (he s H C cl fp).pe) hs, hi.hK,
    s_setO hin (se_lc hi.si (hg X.s_0 X.H_0 0 [] []).gj hn hsl no (ht X.s_0 X.H_0 0 [] []).st (he X.s_0 X.H_0 0 [] []).se)⟩
theorem z_asg {n : Nat} {gg : TG} {sl : List Nat} {hh : Dt → List Dt → O (List Dt)} {TK : Bool → List Kd → List Kd} (h : PD X K W Δ e te (.v true fr) g) (hg : GD X K n tg gg sl hh TK) (hn : Δ.length = n := by rfl) (hs : swapsWithSole [tg] e pos.line X.env = pure false := by rfl) (hw : swappedStores [tg] e X.env = pure none := by rfl)
    (h1 : (assignEach [tg] X.env).map (·.2) = [assign tg X.env] := by rfl) : SD X K W L Δ (TK fr Δ) Δb Δc (.Assign [tg] e pos) (tAsg te gg) (gAsg g hh) := ⟨ps_asg h.pe hg.pg hs hw h1, h.hK, s_asg hn h.se hg.gj⟩
theorem z_app (i : Nat) {x : Str} {p p1 p2 : Pos} (h : PD X K W Δ e te (.v true fr') g) (hk : Δ[i]? = some (.own .l fr) := by rfl) (hv : Vis X.env.scope x := by first | exact Or.inl rfl | exact Or.inr (Or.inl rfl) | exact Or.inr (Or.inr rfl)) (hN : X.N[i]? = some x := by rfl) (hd : (x == ("__debug__" : Str)) = false := by decide) (hcd : (x == ("__classdict__" : Str)) = false := by decide)
    (hbase : attributeBase (.Name x p) "append" X.env (eval (.Name x p) X.env) = eval (.Name x p) X.env := by rfl)
    (hfew : ((backTo p2 (starEach [e] X.env)).all (fun x => !x.1) && (backToKw p2 (keywordEach [] X.env)).all (fun x => x.1.isSome)
      && decide ([e].length + ([] : List Keyword).length + (if ([] : List Keyword).isEmpty then 0 else 1) < 30)) = true := by rfl)
    (hline : (p1.endLine == p2.line) = true := by rfl) (hst : starEach [e] X.env = (false, eval e X.env) :: starEach [] X.env := by rfl) (hplain : (backTo p2 (starEach [] X.env)).any (·.1) = false := by rfl)
    (hs : swapsWith (.Call (.Attribute (.Name x p) "append" p1) [e] [] p2) none pos.line X.env = pure false := by rfl) :
    SD X K W L Δ (Δ.set i (.own .l (fr && fr'))) Δb Δc (.Expr (.Call (.Attribute (.Name x p) "append" p1) [e] [] p2) pos) (tDrop (tBM K "list" rAppend (tVar i) (tCons te tNil))) (gApp i g) :=
  ⟨by have q := ps_expr (pos := pos) (pe_bm PySem.F.plainAttrs_list PySem.F.slot_list_append PySem.F.type_list_append mt_append (pe_var hN hv hd hcd) (pa_cons h.pe pa_nil hst) hbase hfew hline hst hplain) hs; rw [h.hK] at q; exact q, h.hK, s_app hk h.se⟩
theorem z_setI (i : Nat) {x : Str} {p : Pos} {ix : Expr} {sp : Pos} (h : PD X K W Δ e te (.v true fr') ge) (h2 : PD X K W Δ ix ti (.v av av') gi) (hk : Δ[i]? = some (.own .l fr) := by rfl) (hv : Vis X.env.scope x := by first | exact Or.inl rfl | exact Or.inr (Or.inl rfl) | exact Or.inr (Or.inr rfl)) (hN : X.N[i]? = some x := by rfl) (hd : (x == ("__debug__" : Str)) = false := by decide) (hcd : (x == ("__classdict__" : Str)) = false := by decide)
    (ha : ∀ v, assign (.Subscript (.Name x p) ix sp) X.env v = (do
      let ov ← holding [v] (eval (.Name x p) X.env)
      let iv ← holding [v, ov] (eval ix X.env)
      standAt sp
      holding [v, ov, iv] (setItem ov iv v)
      release [v, ov, iv] []) := by intro _; rfl) (hs : swapsWithSole [.Subscript (.Name x p) ix sp] e pos.line X.env = pure false := by rfl) (hw : swappedStores [.Subscript (.Name x p) ix sp] e X.env = pure none := by rfl)
    (h1 : (assignEach [.Subscript (.Name x p) ix sp] X.env).map (·.2) = [assign (.Subscript (.Name x p) ix sp) X.env] := by rfl) :
    SD X K W L Δ (Δ.set i (.own .l (fr && fr'))) Δb Δc (.Assign [.Subscript (.Name x p) ix sp] e pos) (tAsg te (gSub (tVar i) ti rSetL)) (gSetI i ge gi) := ⟨ps_asg h.pe (pg_sub (pe_var hN hv hd hcd) h2.pe set_list ha) hs hw h1, h.hK, s_setI hk h.se h2.se⟩
theorem z_if (h : TD X K W Δ c tt gt) (h1 : BD X K W L Δ Δn Δb Δc sts t g1) (h2 : BD X K W L Δ Δn Δb Δc sts2 u g2) : SD X K W L Δ Δn Δb Δc (.If c sts sts2 pos) (tIfS tt t u) (gIfS gt g1 g2) := ⟨ps_if h.pt h1.ps h2.ps, h.hK, s_if h.st h1.ss h2.ss⟩
theorem z_for {n : Nat} {wi : TI} {gg : TG} {sl : List Nat} {hh : Dt → List Dt → O (List Dt)} {TK : Bool → List Kd → List Kd} (hp : PassesOwn (model X.prog X.w) X.A X.env X.xe) (hi : ID X K W Δ tg iter wi false fr gI) (hg : GD X K n tg gg sl hh TK) (hb : BD X K W L (TK fr Δ) Δ Δ Δ sts t g1) (hn : Δ.length = n := by rfl) (hc : X.calm = true := by rfl)
    (hs : ∀ x, foldedSetIterable iter X.env x = pure x := by intro _; rfl) : SD X K W L Δ Δ Δb Δc (.For tg iter sts [] pos) (tFor wi gg t) (gFor gI hh g1) := ⟨ps_for hp hc hi.pi hg.pg hb.ps hs, hi.hK, s_for hn hi.si hg.gj hb.ss⟩
end
def fnN (m : Nat) (g : Gs) : List Dt → O Dt := fun ds => match g (ds ++ List.replicate (m - ds.length) .none) with
  | .ok (.rt d) => .ok d
  | .ok (.nx _) => .ok .none
  | _ => .bad
def fnL (m : Nat) (g : Gs) : List Dt → O Dt := fun ds => match g (ds ++ List.replicate (m - ds.length) .none) with
  | .ok (.rt d) => .ok d
  | _ => .bad
def kd0 (n m : Nat) (fr : Bool) : List Kd := List.replicate n (.im fr) ++ List.replicate (m - n) .no
theorem r_start {K : PySem.W.Frag} {H : Hp} {F G : Addr → Prop} {vs : List V} {ds : List Dt} {n m : Nat} {fr : Bool} {N : List Str} (hv : vs.length = n) (hN : N.length = m) (hm : n ≤ m) (x : RpA K F H vs ds) (hg : ∀ a, H a = none → G a) (hF : fr = true → ∀ a, F a → G a) :
    R K ⟨H, G, [], [], none, [], fun _ h => nomatch h⟩ (kd0 n m fr) (ds ++ List.replicate (m - ds.length) .none) (L2.start N vs) H := by
  have hd : ds.length = n := by rw [← x.length]; exact hv
  have noOw : ∀ (i : Nat) (c : Ct) (fr' : Bool), (kd0 n m fr)[i]? ≠ some (.own c fr') := fun i c fr' e => by
    unfold kd0 at e
    have := List.mem_of_getElem? e
    rcases List.mem_append.mp this with h | h
    · cases List.eq_of_mem_replicate h
    · cases List.eq_of_mem_replicate h
  have noSl0 : ∀ (i : Nat) (t : Bool), (kd0 n m fr)[i]? ≠ some (.sl t) := fun i t e => by
    unfold kd0 at e
    have := List.mem_of_getElem? e
    rcases List.mem_append.mp this with h | h
    · cases List.eq_of_mem_replicate h
    · cases List.eq_of_mem_replicate h
  refine ⟨Same.refl H, hg, ?_, ?_, fun i j ci fi cj fj p h1 => absurd h1 (noOw i ci fi), fun a ha => absurd ha (by simp), fun g hg => absurd hg (by simp), fun i fr' h => ?_, fun i c fr' h => absurd h (noOw i c fr'), fun i c fr' h => absurd h (noOw i c fr'), fun a ha => (nomatch ha), fun i t h => absurd h (noSl0 i t)⟩
  · unfold L2.start kd0
    rw [List.length_append, List.length_append, List.length_map, List.length_replicate, List.length_replicate, List.length_replicate, hv, hN]
  · unfold kd0
    rw [List.length_append, List.length_append, List.length_replicate, List.length_replicate, List.length_replicate, hd]
  · unfold kd0 at h
    by_cases hi : i < n
    · rw [List.getElem?_append_left (by rw [List.length_replicate]; exact hi)] at h
      have efr : fr' = fr := by
        have := List.eq_of_mem_replicate (List.mem_of_getElem? h)
        cases this; rfl
      subst efr
      have hi' : i < vs.length := by rw [hv]; exact hi
      obtain ⟨d, h1, h2⟩ := x.get (List.getElem?_eq_getElem hi')
      refine ⟨vs[i], d, ?_, ?_, h2.weak fun a fa => ⟨fun _ => ⟨fun z => ?_, by simp⟩, fun e => hF e a fa⟩⟩
      · unfold L2.start
        rw [List.getElem?_append_left (by rw [List.length_map]; exact hi'), List.getElem?_map, List.getElem?_eq_getElem hi']
        rfl
      · rw [List.getElem?_append_left (by rw [hd]; exact hi)]
        exact h1
      · obtain ⟨j, c, frj, g1, _⟩ := z
        exact noOw j c frj g1
    · rw [List.getElem?_append_right (by rw [List.length_replicate]; omega)] at h
      cases List.eq_of_mem_replicate (List.mem_of_getElem? h)
section
variable {P : Program} {w : World} {K : PySem.W.Frag} {mg : Str → Option Value} {base : Heap} {x qual : Str} {st : Stmt} {fa : Addr} {fd : FuncData} {N ps : List Str} {k n m : Nat} {Δn : List Kd} {g : Gs}
theorem fn_okN (F : L2.Fun K x qual st fa fd) (S : FnScope N ps (defScope st)) (hn : ps.length = n) (hm : N.length = m) (hnm : n ≤ m)
    (hb : ∀ (cdv : Value) (A : Around) (outer : List Env) (s : Shared) (H : Hp) (E : XK), Room k (A.deeper (envOfC qual (defScope st) s.heap.objs.size fa cdv)) → ∃ ts, BD (cxOf CX0 P w K mg base N qual (defScope st) fa cdv A outer s H E).nox K W0 .n (kd0 n m false) Δn (kd0 n m false) (kd0 n m false) (defBody st) ts g) :
    FnOk P w K mg base CX0 (k + 1) fa fd ps (spG K mg n (fnN m g)) := by
  refine F.ok S (fun vs H Q E h => ?_) (fun cdv A outer s H vs Q E hr h => ?_)
  · obtain ⟨ds, h1, _⟩ := h
    rw [h1, hn]
  · obtain ⟨ds, h1, h2, h3⟩ := h
    obtain ⟨ts, B⟩ := hb cdv A outer s H E hr
    refine ⟨ts, B.ps, B.ss ⟨H, fun a => H a = none, [], [], none, [], fun _ h => nomatch h⟩ _ _ H _ (r_start h1 hm hnm h2 (fun _ h => h) (fun e => nomatch e)) ?_⟩
    unfold fnN at h3
    cases e : g (ds ++ List.replicate (m - ds.length) .none) with
    | bad => rw [e] at h3; exact h3.elim
    | ex z => rw [e] at h3; exact h3.elim
    | ok fl =>
      rw [e] at h3
      cases fl with
      | nx ρ => exact fun σ' H' r => h3 .non H' r.ext .non
      | rt d => exact fun v H' s x => h3 v H' s x
      | bk ρ => exact h3.elim
      | ct ρ => exact h3.elim
theorem fn_okL (F : L2.Fun K x qual st fa fd) (S : FnScope N ps (defScope st)) (hn : ps.length = n) (hm : N.length = m) (hnm : n ≤ m)
    (hb : ∀ (cdv : Value) (A : Around) (outer : List Env) (s : Shared) (H : Hp) (E : XK), Room k (A.deeper (envOfC qual (defScope st) s.heap.objs.size fa cdv)) → ∃ ts, BD (cxOf CX0 P w K mg base N qual (defScope st) fa cdv A outer s H E).nox K W0 .l (kd0 n m false) Δn (kd0 n m false) (kd0 n m false) (defBody st) ts g) :
    FnOk P w K mg base CX0 (k + 1) fa fd ps (spL K mg n (fnL m g)) := by
  refine F.ok S (fun vs H Q E h => ?_) (fun cdv A outer s H vs Q E hr h => ?_)
  · obtain ⟨ds, h1, _⟩ := h
    rw [h1, hn]
  · obtain ⟨ds, h1, h2, h3⟩ := h
    obtain ⟨ts, B⟩ := hb cdv A outer s H E hr
    refine ⟨ts, B.ps, B.ss ⟨H, fun a => H a = none, [], [], none, [], fun _ h => nomatch h⟩ _ _ H _ (r_start h1 hm hnm h2 (fun _ h => h) (fun e => nomatch e)) ?_⟩
    unfold fnL at h3
    cases e : g (ds ++ List.replicate (m - ds.length) .none) with
    | bad => rw [e] at h3; exact h3.elim
    | ex z => rw [e] at h3; exact h3.elim
    | ok fl =>
      rw [e] at h3
      cases fl with
      | nx ρ => exact h3.elim
      | rt d => exact fun p H' np s x => h3 p H' np s x
      | bk ρ => exact h3.elim
      | ct ρ => exact h3.elim
end
end Sim
end T_SimG
section T_SimH
set_option Elab.async false
set_option linter.all false
set_option maxRecDepth 100000
namespace Sim
open PySem PySem.Spec L2
open PyProof.Rows hiding St
structure OR (X : Cx) (K : PySem.W.Frag) (op : CmpOp) (r : R2) (h : Dt → Dt → O Dt) : Prop where
  ho : OpR X (compareOp op) r
  scl : Scl2 h
  osc : OSc K r h
section
variable {X : Cx} {K : PySem.W.Frag} {W : Wt} {n : Nat}
theorem or_lt : OR X K .Lt (rI0 fun i j => .bl (decide (i < j))) hLt := ⟨op_lt, scl_B0, osc_B0⟩
theorem or_le : OR X K .LtE (rI0 fun i j => .bl (decide (i ≤ j))) hLe := ⟨op_le, scl_B0, osc_B0⟩
theorem or_gt : OR X K .Gt (rI0 fun i j => .bl (decide (j < i))) hGt := ⟨op_gt, scl_B0, osc_B0⟩
theorem or_ge : OR X K .GtE (rI0 fun i j => .bl (decide (j ≤ i))) hGe := ⟨op_ge, scl_B0, osc_B0⟩
theorem or_eq (hr : Room n X.A) (hK : X.K = K := by rfl) : OR X K .Eq (rEqD K) hEq := ⟨by have q := op_eqD (X := X) (by have := hr.un; omega); rw [hK] at q; exact q, scl_eq, osc_eq⟩
theorem or_ne (hr : Room n X.A) (hK : X.K = K := by rfl) : OR X K .NotEq (rNeD K) hNe := ⟨by have q := op_neD (X := X) (by have := hr.un; omega); rw [hK] at q; exact q, scl_ne, osc_ne⟩
theorem or_in (hr : Room n X.A) (hK : X.K = K := by rfl) : OR X K .In (rInDT K false) hIn := ⟨by have q := op_inDT (X := X) (by have := hr.un; omega); rw [hK] at q; exact q, scl_in, osc_in⟩
theorem or_notIn (hr : Room n X.A) (hK : X.K = K := by rfl) : OR X K .NotIn (rInDT K true) hNotIn := ⟨by have q := op_notInDT (X := X) (by have := hr.un; omega); rw [hK] at q; exact q, scl_notIn, osc_notIn⟩
end
def gChain (h h' : Dt → Dt → O Dt) (ga gb gc : Gd) : Gd := fun ρ => bnd (ga ρ) fun x => bnd (gb ρ) fun y => bnd (h x y) fun z => bnd (asB z) fun c => if c then bnd (gc ρ) fun w => h' y w else .ok (.bool false)
section
variable {K : PySem.W.Frag} {W : Wt} {Δ : List Kd} {ta tb tc : TE} {ga gb gc : Gd} {av fr av' fr' av2 fr2 : Bool}
theorem se_chain {r r' : R2} {h h' : Dt → Dt → O Dt} (hs : Scl2 h) (ho : OSc K r h) (hs' : Scl2 h') (ho' : OSc K r' h') (ha : SE K W Δ ta (.v av fr) ga) (hb : SE K W Δ tb (.v av' fr') gb) (hc : SE K W Δ tc (.v av2 fr2) gc) :
    SE K W Δ (tChain r r' ta tb tc) (.v true true) (gChain h h' ga gb gc) := fun f ρ σ H Q R q => by
  refine ha f ρ σ H _ R ?_
  unfold gChain at q
  cases e1 : ga ρ with
  | bad => rw [e1] at q; exact q
  | ex z => rw [e1] at q; exact q
  | ok d =>
    rw [e1, bnd_ok] at q
    intro v H1 s1 x1
    refine hb f ρ σ H1 _ (R.mono s1) ?_
    cases e2 : gb ρ with
    | bad => rw [e2] at q; exact q
    | ex z => rw [e2] at q; exact fun H' s => q H' (s1.trans s)
    | ok d2 =>
      rw [e2, bnd_ok] at q
      intro v2 H2 s2 x2
      refine ho H2 v v2 d d2 _ ((x1.same s2).weak fun _ _ => trivial) (x2.weak fun _ _ => trivial) ?_
      rcases hs d d2 with ⟨z, ez, sz⟩ | ez
      · rw [ez] at q ⊢
        rw [bnd_ok] at q
        refine ⟨sz, fun w x => ?_⟩
        cases x with
        | bl c =>
          refine ⟨c, rfl, ?_⟩
          cases c with
          | false =>
            show (if false = true then _ else _)
            rw [if_neg Bool.false_ne_true]
            exact q _ H2 (s1.trans s2) (.bl false)
          | true =>
            show (if true = true then _ else _)
            rw [if_pos rfl]
            have q : PoE K W f Δ σ H (.v true true) (bnd (gc ρ) fun w => h' d2 w) Q := q
            refine hc f ρ σ H2 _ ((R.mono s1).mono s2) ?_
            cases e3 : gc ρ with
            | bad => rw [e3] at q; exact q
            | ex z => rw [e3] at q; exact fun H' s => q H' ((s1.trans s2).trans s)
            | ok d3 =>
              rw [e3, bnd_ok] at q
              intro v3 H3 s3 x3
              refine ho' H3 v2 v3 d2 d3 Q ((x2.same s3).weak fun _ _ => trivial) (x3.weak fun _ _ => trivial) ?_
              rcases hs' d2 d3 with ⟨z, ez, sz⟩ | ez
              · rw [ez] at q ⊢
                exact ⟨sz, fun w x => q w H3 ((s1.trans s2).trans s3) (x.scl_any sz)⟩
              · rw [ez] at q
                exact q.elim
        | non => exact q.elim
        | int => exact q.elim
        | str => exact q.elim
        | lst => cases sz
        | fz => cases sz
        | tup => cases sz
        | dic => cases sz
        | exn => cases sz
      · rw [ez] at q
        exact q.elim
end
section
variable {X : Cx} {K : PySem.W.Frag} {W : Wt} {Δ Δ1 Δn Δb Δc : List Kd} {a b c e : Expr} {es : List Expr} {ta tb tc te : TE} {tA : TA} {ga gb gc g : Gd} {av fr av' fr' av2 fr2 : Bool} {L : Lk} {pos : Pos} {op op' : CmpOp} {r r' : R2} {h h' : Dt → Dt → O Dt} {t : TS} {g1 : Gs} {st : Stmt} {sts : List Stmt}
theorem x_cmp (o : OR X K op r h) (ha : PD X K W Δ a ta (.v av fr) ga) (hb : PD X K W Δ b tb (.v av' fr') gb) (hm : behindInMarks op b = false := by first | exact nobehind _ (by decide) (by decide) | rfl) : PD X K W Δ (.Compare a [op] [b] pos) (tOp r ta tb) (.v true true) (gOp h ga gb) := ⟨pe_cmpR o.ho ha.pe hb.pe hm, ha.hK, se_op o.scl o.osc ha.se hb.se⟩
theorem c_cmp (o : OR X K op r h) (ha : PD X K W Δ a ta (.v av fr) ga) (hb : PD X K W Δ b tb (.v av' fr') gb) (hm : behindInMarks op b = false := by first | exact nobehind _ (by decide) (by decide) | rfl) : TD X K W Δ (.Compare a [op] [b] pos) (tTest (tOp r ta tb)) (gTest (gOp h ga gb)) := ⟨pt_cmpR o.ho ha.pe hb.pe hm, ha.hK, st_test (se_op o.scl o.osc ha.se hb.se)⟩
theorem x_chain (o : OR X K op r h) (o' : OR X K op' r' h') (ha : PD X K W Δ a ta (.v av fr) ga) (hb : PD X K W Δ b tb (.v av' fr') gb) (hc : PD X K W Δ c tc (.v av2 fr2) gc) (hm : lastMarks [op, op'] [b, c] = false := by with_unfolding_all rfl) : PD X K W Δ (.Compare a [op, op'] [b, c] pos) (tChain r r' ta tb tc) (.v true true) (gChain h h' ga gb gc) :=
  ⟨pe_chain o.ho o'.ho ha.pe hb.pe hc.pe hm, ha.hK, se_chain o.scl o.osc o'.scl o'.osc ha.se hb.se hc.se⟩
theorem c_chain (o : OR X K op r h) (o' : OR X K op' r' h') (ha : PD X K W Δ a ta (.v av fr) ga) (hb : PD X K W Δ b tb (.v av' fr') gb) (hc : PD X K W Δ c tc (.v av2 fr2) gc) (hm : lastMarks [op, op'] [b, c] = false := by with_unfolding_all rfl) : TD X K W Δ (.Compare a [op, op'] [b, c] pos) (tTest (tChain r r' ta tb tc)) (gTest (gChain h h' ga gb gc)) :=
  ⟨pt_chain o.ho o'.ho ha.pe hb.pe hc.pe hm, ha.hK, st_test (se_chain o.scl o.osc o'.scl o'.osc ha.se hb.se hc.se)⟩
theorem SD.to (Δn' : List Kd) (h : SD X K W L Δ Δn Δb Δc st t g1) (l : leA Δn Δn' = true := by rfl) : SD X K W L Δ Δn' Δb Δc st t g1 := ⟨h.ps, h.hK, fun f ρ σ H E r q => h.ss f ρ σ H E r <| by
  cases e : g1 ρ with
  | bad => rw [e] at q; exact q
  | ex z => rw [e] at q; exact q
  | ok fl =>
    rw [e] at q
    cases fl with
    | nx ρ' => exact fun σ' H' r => q σ' H' (r.weak l)
    | rt d => exact q
    | bk ρ' => exact q
    | ct ρ' => exact q⟩
theorem SD.frm (Δ0 : List Kd) (h : SD X K W L Δ0 Δn Δb Δc st t g1) (l : leA Δ Δ0 = true := by rfl) : SD X K W L Δ Δn Δb Δc st t g1 := ⟨h.ps, h.hK, h.ss.pre l⟩
theorem BD.to (Δn' : List Kd) (h : BD X K W L Δ Δn Δb Δc sts t g1) (l : leA Δn Δn' = true := by rfl) : BD X K W L Δ Δn' Δb Δc sts t g1 := ⟨h.ps, h.hK, fun f ρ σ H E r q => h.ss f ρ σ H E r <| by
  cases e : g1 ρ with
  | bad => rw [e] at q; exact q
  | ex z => rw [e] at q; exact q
  | ok fl =>
    rw [e] at q
    cases fl with
    | nx ρ' => exact fun σ' H' r => q σ' H' (r.weak l)
    | rt d => exact q
    | bk ρ' => exact q
    | ct ρ' => exact q⟩
theorem BD.frm (Δ0 : List Kd) (h : BD X K W L Δ0 Δn Δb Δc sts t g1) (l : leA Δ Δ0 = true := by rfl) : BD X K W L Δ Δn Δb Δc sts t g1 := ⟨h.ps, h.hK, h.ss.pre l⟩
end
section
variable {X : Cx} {K : PySem.W.Frag} {W : Wt} {Δ : List Kd} {e : Expr} {te : TE} {g : Gd} {c : Ct} {fr fr' : Bool}
theorem SE.wkN (h : SE K W Δ te (.new c fr) g) (h2 : fr' = true → fr = true) : SE K W Δ te (.new c fr') g := fun f ρ σ H Q r q =>
  h f ρ σ H Q r <| by
    cases e : g ρ with
    | bad => rw [e] at q; exact q
    | ex z => rw [e] at q; exact q
    | ok d => rw [e] at q; exact fun p H' np s x => q p H' np s (x.map (fun _ e => e) fun _ _ y => y.weak fun a fa => ⟨fa.1.weak id h2, fa.2⟩)
theorem PD.wkN (fr' : Bool) (h : PD X K W Δ e te (.new c fr) g) (h2 : fr' = true → fr = true := by decide) : PD X K W Δ e te (.new c fr') g := ⟨h.pe, h.hK, SE.wkN h.se h2⟩
theorem AD.to {es : List Expr} {tA : TA} {av fr : Bool} {gA : List Dt → O (List Dt)} (av' fr' : Bool) (h : AD X K W Δ es tA av fr gA) (h1 : av' = true → av = true := by decide) (h2 : fr' = true → fr = true := by decide) : AD X K W Δ es tA av' fr' gA := h.wk h1 h2
theorem blk_fx {N : List Str} {sc scope : Scope} {own : List (Str × Nat)} (h : blkC N sc scope own = true) (e1 : X.N = N := by rfl) (e2 : X.env.scope = sc := by rfl) : blkC X.N X.env.scope scope own = true := by
  rw [e1, e2]
  exact h
end
end Sim
end T_SimH
section T_SimP
set_option Elab.async false
set_option linter.all false
set_option maxRecDepth 100000
namespace Sim
open PySem
theorem gVar_def (i : Nat) (ρ : List Dt) : gVar i ρ = match ρ[i]? with | some d => .ok d | none => .bad := rfl
theorem gC_def (d : Dt) (ρ : List Dt) : gC d ρ = .ok d := rfl
theorem gOp_def (h : Dt → Dt → O Dt) (a b : Gd) (ρ : List Dt) : gOp h a b ρ = bnd (a ρ) fun x => bnd (b ρ) fun y => h x y := rfl
theorem gUn_def (h : Dt → O Dt) (a : Gd) (ρ : List Dt) : gUn h a ρ = bnd (a ρ) h := rfl
theorem gNil_def (ρ : List Dt) : gNil ρ = .ok [] := rfl
theorem gCons_def (a : Gd) (b : List Dt → O (List Dt)) (ρ : List Dt) : gCons a b ρ = bnd (a ρ) fun x => bnd (b ρ) fun xs => .ok (x :: xs) := rfl
theorem gTup_ok {a : List Dt → O (List Dt)} {ρ : List Dt} {xs : List Dt} (h : a ρ = .ok xs) (hl : xs.length ≤ 100000) : gTup a ρ = .ok (.tuple xs) := by unfold gTup; rw [h, bnd_ok, if_pos hl]
theorem gTup_def (a : List Dt → O (List Dt)) (ρ : List Dt) : gTup a ρ = bnd (a ρ) fun xs => if xs.length ≤ 100000 then .ok (.tuple xs) else .bad := rfl
theorem gLst_def (a : List Dt → O (List Dt)) (ρ : List Dt) : gLst a ρ = bnd (a ρ) fun xs => if xs.length ≤ 100000 then .ok (.list xs) else .bad := rfl
theorem gIf_def (t : List Dt → O Bool) (a b : Gd) (ρ : List Dt) : gIf t a b ρ = bnd (t ρ) fun c => if c then a ρ else b ρ := rfl
theorem gTest_def (a : Gd) (ρ : List Dt) : gTest a ρ = bnd (a ρ) asB := rfl
theorem gNot_def (t : List Dt → O Bool) (ρ : List Dt) : gNot t ρ = bnd (t ρ) fun b => .ok (!b) := rfl
theorem gAnd_def (t u : List Dt → O Bool) (ρ : List Dt) : gAnd t u ρ = bnd (t ρ) fun b => if b then u ρ else .ok false := rfl
theorem gOr_def (t u : List Dt → O Bool) (ρ : List Dt) : gOr t u ρ = bnd (t ρ) fun b => if b then .ok true else u ρ := rfl
theorem gAndV_def (a b : Gd) (ρ : List Dt) : gAndV a b ρ = bnd (a ρ) fun x => bnd (asB x) fun c => if c then b ρ else .ok (.bool false) := rfl
theorem gOrV_def (a b : Gd) (ρ : List Dt) : gOrV a b ρ = bnd (a ρ) fun x => bnd (asB x) fun c => if c then .ok (.bool true) else b ρ := rfl
theorem gNotV_def (a : Gd) (ρ : List Dt) : gNotV a ρ = bnd (a ρ) fun x => bnd (asB x) fun c => .ok (.bool (!c)) := rfl
theorem gCB_def (h : List Dt → O Dt) (a : List Dt → O (List Dt)) (ρ : List Dt) : gCB h a ρ = bnd (a ρ) h := rfl
theorem gPurN_def (a : Gd) (ρ : List Dt) : gPurN a ρ = bnd (a ρ) fun d => if pureIn d then .ok d else .bad := rfl
theorem asB_b (b : Bool) : asB (.bool b) = .ok b := rfl
theorem hAdd_i (i j : Int) : hAdd (.int i) (.int j) = .ok (.int (i + j)) := rfl
theorem hSub_i (i j : Int) : hSub (.int i) (.int j) = .ok (.int (i - j)) := rfl
theorem hLt_i (i j : Int) : hLt (.int i) (.int j) = .ok (.bool (decide (i < j))) := rfl
theorem hLe_i (i j : Int) : hLe (.int i) (.int j) = .ok (.bool (decide (i ≤ j))) := rfl
theorem hGt_i (i j : Int) : hGt (.int i) (.int j) = .ok (.bool (decide (j < i))) := rfl
theorem hGe_i (i j : Int) : hGe (.int i) (.int j) = .ok (.bool (decide (j ≤ i))) := rfl
theorem hBand_i (i j : Int) : hBand (.int i) (.int j) = .ok (.int (Builtin.bitAnd i j)) := rfl
theorem hMul_r {i j : Int} (h1 : -18446744073709551616 < j) (h2 : j < 18446744073709551616) : hMul (.int i) (.int j) = .ok (.int (i * j)) := by
  show (if cMul i j then O.ok (PyData.int (i * j)) else .bad) = _
  rw [if_pos]
  unfold cMul
  rw [Bool.or_eq_true, decide_eq_true_eq, decide_eq_true_eq]
  right; omega
theorem hMul_l {i j : Int} (h1 : -18446744073709551616 < i) (h2 : i < 18446744073709551616) : hMul (.int i) (.int j) = .ok (.int (i * j)) := by
  show (if cMul i j then O.ok (PyData.int (i * j)) else .bad) = _
  rw [if_pos]
  unfold cMul
  rw [Bool.or_eq_true, decide_eq_true_eq, decide_eq_true_eq]
  left; omega
theorem hMod_i {i j : Int} (h : 0 < j) : hMod (.int i) (.int j) = .ok (.int (i % j)) := by
  show (if cMod i j then O.ok (PyData.int (i % j)) else .bad) = _
  rw [if_pos]
  unfold cMod
  exact decide_eq_true h
theorem hDiv_i {i j : Int} (h : 0 < j) (h2 : j.natAbs < 2 ^ 400) : hDiv (.int i) (.int j) = .ok (.int (i / j)) := by
  show (if cDiv i j then O.ok (PyData.int (i / j)) else .bad) = _
  rw [if_pos]
  unfold cDiv
  rw [Bool.and_eq_true]
  exact ⟨decide_eq_true h, decide_eq_true h2⟩
theorem hDiv_s {i j : Int} (h : 0 < j) (h2 : j < 1000000000000000000000000000000000) : hDiv (.int i) (.int j) = .ok (.int (i / j)) := hDiv_i h (by omega)
theorem hShr_i {i j : Int} (h : 0 ≤ j) : hShr (.int i) (.int j) = .ok (.int (i / 2 ^ j.toNat)) := by
  show (if cShr i j then O.ok (PyData.int (i / 2 ^ j.toNat)) else .bad) = _
  rw [if_pos]
  exact decide_eq_true h
theorem hPow_10_18 : hPow (.int 10) (.int 18) = .ok (.int 1000000000000000000) := by
  show (if cPow 10 18 then O.ok (PyData.int ((10 : Int) ^ (18 : Int).toNat)) else .bad) = _
  rw [if_pos (by decide)]
  rfl
theorem hPow_10_27 : hPow (.int 10) (.int 27) = .ok (.int 1000000000000000000000000000) := by
  show (if cPow 10 27 then O.ok (PyData.int ((10 : Int) ^ (27 : Int).toNat)) else .bad) = _
  rw [if_pos (by decide)]
  rfl
theorem hPow_10_28 : hPow (.int 10) (.int 28) = .ok (.int 10000000000000000000000000000) := by
  show (if cPow 10 28 then O.ok (PyData.int ((10 : Int) ^ (28 : Int).toNat)) else .bad) = _
  rw [if_pos (by decide)]
  rfl
theorem hPow_10_29 : hPow (.int 10) (.int 29) = .ok (.int 100000000000000000000000000000) := by
  show (if cPow 10 29 then O.ok (PyData.int ((10 : Int) ^ (29 : Int).toNat)) else .bad) = _
  rw [if_pos (by decide)]
  rfl
theorem hPow_10_30 : hPow (.int 10) (.int 30) = .ok (.int 1000000000000000000000000000000) := by
  show (if cPow 10 30 then O.ok (PyData.int ((10 : Int) ^ (30 : Int).toNat)) else .bad) = _
  rw [if_pos (by decide)]
  rfl
theorem shaped_int (i : Int) : SeqAt.shaped (.int i) = true := by simp [SeqAt.shaped, PyData.canLay0, PyData.depth]
theorem hEq_i (i j : Int) : hEq (.int i) (.int j) = .ok (.bool (i == j)) := by unfold hEq; rw [shaped_int, shaped_int]; simp [PyData.eqv]
theorem hNe_i (i j : Int) : hNe (.int i) (.int j) = .ok (.bool (!(i == j))) := by unfold hNe; rw [shaped_int, shaped_int]; simp [PyData.eqv]
theorem hLen_l (xs : List Dt) : hLen [.list xs] = .ok (.int xs.length) := rfl
theorem hLen_t (xs : List Dt) : hLen [.tuple xs] = .ok (.int xs.length) := rfl
theorem hMin2_i (i j : Int) : hMin2 [.int i, .int j] = .ok (.int (if j < i then j else i)) := rfl
theorem hMax2_i (i j : Int) : hMax2 [.int i, .int j] = .ok (.int (if j > i then j else i)) := rfl
theorem hMin3_i (i j k : Int) : hMin3 [.int i, .int j, .int k] = .ok (.int (if j < i then (if k < j then k else j) else (if k < i then k else i))) := rfl
theorem hInt1_b (k : Bool) : hInt1 [.bool k] = .ok (.int (if k then 1 else 0)) := rfl
theorem hInt1_i (k : Int) : hInt1 [.int k] = .ok (.int k) := rfl
theorem hBits_i (i : Int) : hBits (.int i) = .ok (.int (Builtin.Int.intBits i : Nat)) := rfl
theorem hListOf_l (xs : List Dt) : one hListOf [.list xs] = .ok (.list xs) := rfl
theorem hListOf_t (xs : List Dt) : one hListOf [.tuple xs] = .ok (.list xs) := rfl
theorem hTupOf_l (xs : List Dt) : one hTupOf [.list xs] = .ok (.tuple xs) := rfl
theorem hTupOf_t (xs : List Dt) : one hTupOf [.tuple xs] = .ok (.tuple xs) := rfl
theorem seq_nx {a b : Gs} {ρ ρ' : List Dt} (h : a ρ = .ok (.nx ρ')) : gSeqS a b ρ = b ρ' := by unfold gSeqS; rw [h]
theorem seq_rt {a b : Gs} {ρ : List Dt} {d : Dt} (h : a ρ = .ok (.rt d)) : gSeqS a b ρ = .ok (.rt d) := by unfold gSeqS; rw [h]
theorem set_ok {i : Nat} {g : Gd} {ρ : List Dt} {d : Dt} (h : g ρ = .ok d) : gSet i g ρ = .ok (.nx (ρ.set i d)) := by unfold gSet; rw [h]; rfl
theorem ret_ok {g : Gd} {ρ : List Dt} {d : Dt} (h : g ρ = .ok d) : gRet g ρ = .ok (.rt d) := by unfold gRet; rw [h]; rfl
theorem if_t {t : List Dt → O Bool} {a b : Gs} {ρ : List Dt} (h : t ρ = .ok true) : gIfS t a b ρ = a ρ := by unfold gIfS; rw [h]; rfl
theorem if_f {t : List Dt → O Bool} {a b : Gs} {ρ : List Dt} (h : t ρ = .ok false) : gIfS t a b ρ = b ρ := by unfold gIfS; rw [h]; rfl
theorem gSeqS_def (a b : Gs) (ρ : List Dt) : gSeqS a b ρ = match a ρ with | .ok (.nx ρ') => b ρ' | o => o := rfl
theorem gSet_def (i : Nat) (g : Gd) (ρ : List Dt) : gSet i g ρ = bnd (g ρ) fun d => .ok (.nx (ρ.set i d)) := rfl
theorem gRet_def (g : Gd) (ρ : List Dt) : gRet g ρ = bnd (g ρ) fun d => .ok (.rt d) := rfl
theorem gIfS_def (t : List Dt → O Bool) (a b : Gs) (ρ : List Dt) : gIfS t a b ρ = bnd (t ρ) fun c => if c then a ρ else b ρ := rfl
theorem gNext_def (ρ : List Dt) : gNext ρ = .ok (.nx ρ) := rfl
theorem gApp_l {i : Nat} {g : Gd} {ρ : List Dt} {ds : List Dt} {d : Dt} (h1 : ρ[i]? = some (.list ds)) (h2 : g ρ = .ok d) (h3 : ds.length < 100000) : gApp i g ρ = .ok (.nx (ρ.set i (.list (ds ++ [d])))) := by
  unfold gApp
  rw [h1]
  simp only [h2, bnd_ok]
  rw [if_pos h3]
theorem callN_ok {n : Nat} {g : List Dt → O Dt} {gA : List Dt → O (List Dt)} {ρ ds : List Dt} {d : Dt} (h1 : gA ρ = .ok ds) (h2 : ds.length = n) (h3 : g ds = .ok d) : gCallN n g gA ρ = .ok d := by
  unfold gCallN
  rw [h1, bnd_ok, if_pos h2, h3]
theorem asg_ok {g : Gd} {h : Dt → List Dt → O (List Dt)} {ρ ρ' : List Dt} {d : Dt} (h1 : g ρ = .ok d) (h2 : h d ρ = .ok ρ') : gAsg g h ρ = .ok (.nx ρ') := by
  unfold gAsg
  rw [h1, bnd_ok, h2]
theorem fnN_rt {m : Nat} {g : Gs} {ds : List Dt} {d : Dt} (h : g (ds ++ List.replicate (m - ds.length) .none) = .ok (.rt d)) : fnN m g ds = .ok d := by unfold fnN; rw [h]
theorem fnL_rt {m : Nat} {g : Gs} {ds : List Dt} {d : Dt} (h : g (ds ++ List.replicate (m - ds.length) .none) = .ok (.rt d)) : fnL m g ds = .ok d := by unfold fnL; rw [h]
theorem lcE_map {α : Type} (enc : α → Dt) (p : α → Bool) (q : α → Dt) {h : Dt → List Dt → O (List Dt)} {gt : List Dt → O Bool} {ge : Gd} {ρ : List Dt} : ∀ (xs : List α), (∀ x ∈ xs, ∃ ρ', h (enc x) ρ = .ok ρ' ∧ gt ρ' = .ok (p x) ∧ (p x = true → ge ρ' = .ok (q x))) →
    lcE h gt ge ρ (xs.map enc) = .ok ((xs.filter p).map q)
  | [], _ => rfl
  | x :: xs, H => by
    obtain ⟨ρ', h1, h2, h3⟩ := H x List.mem_cons_self
    have ih := lcE_map enc p q xs fun y hy => H y (List.mem_cons_of_mem _ hy)
    rw [List.map_cons]
    unfold lcE
    rw [h1, bnd_ok, h2, bnd_ok]
    cases hp : p x with
    | true => rw [if_pos rfl, h3 hp, bnd_ok, ih, bnd_ok, List.filter_cons_of_pos hp, List.map_cons]
    | false => rw [if_neg Bool.false_ne_true, ih, List.filter_cons_of_neg (by rw [hp]; exact Bool.false_ne_true)]
theorem gLc_map {α : Type} (enc : α → Dt) (p : α → Bool) (q : α → Dt) {gi : List Dt → O (List Dt)} {h : Dt → List Dt → O (List Dt)} {gt : List Dt → O Bool} {ge : Gd} {ρ : List Dt} {xs : List α} (h1 : gi ρ = .ok (xs.map enc)) (h2 : xs.length ≤ 100000)
    (H : ∀ x ∈ xs, ∃ ρ', h (enc x) ρ = .ok ρ' ∧ gt ρ' = .ok (p x) ∧ (p x = true → ge ρ' = .ok (q x))) : gLc gi h gt ge ρ = .ok (.list ((xs.filter p).map q)) := by
  unfold gLc
  rw [h1, bnd_ok, if_pos (by rw [List.length_map]; exact h2), lcE_map enc p q xs H]
theorem forE_ix {α : Type} (enc : α → Dt) {h : Dt → List Dt → O (List Dt)} {b : Gs} (xs : List α) (I : Nat → List Dt → Prop) {ρ : List Dt} (h0 : I 0 ρ)
    (H : ∀ i ρ (hi : i < xs.length), I i ρ → ∃ ρ1 ρ2, h (enc xs[i]) ρ = .ok ρ1 ∧ (b ρ1 = .ok (.nx ρ2) ∨ b ρ1 = .ok (.ct ρ2)) ∧ I (i + 1) ρ2) :
    ∃ ρ', forE h b (xs.map enc) ρ = .ok (.nx ρ') ∧ I xs.length ρ' := by
  have key : ∀ n i ρ, i + n = xs.length → I i ρ → ∃ ρ', forE h b ((xs.drop i).map enc) ρ = .ok (.nx ρ') ∧ I xs.length ρ' := by
    intro n
    induction n with
    | zero =>
      intro i ρ e hi
      have e : i = xs.length := by omega
      subst e
      rw [List.drop_length]
      exact ⟨ρ, rfl, hi⟩
    | succ n ih =>
      intro i ρ e hi
      have hlt : i < xs.length := by omega
      obtain ⟨ρ1, ρ2, h1, h2, h3⟩ := H i ρ hlt hi
      obtain ⟨ρ', q1, q2⟩ := ih (i + 1) ρ2 (by omega) h3
      refine ⟨ρ', ?_, q2⟩
      rw [List.drop_eq_getElem_cons hlt, List.map_cons]
      unfold forE
      rw [h1]
      simp only
      rcases h2 with h2 | h2
      · rw [h2, bnd_ok]; exact q1
      · rw [h2, bnd_ok]; exact q1
  have := key xs.length 0 ρ (by omega) h0
  rwa [List.drop_zero] at this
theorem for_ok {gi : List Dt → O (List Dt)} {h : Dt → List Dt → O (List Dt)} {b : Gs} {ρ : List Dt} {ds : List Dt} {z : O Fl} (h1 : gi ρ = .ok ds) (h2 : forE h b ds ρ = z) : gFor gi h b ρ = z := by unfold gFor; rw [h1, bnd_ok, h2]
theorem rng1_ok {g : List Dt → O (List Dt)} {ρ : List Dt} {j : Int} (h : g ρ = .ok [.int j]) (h1 : -4611686018427387904 ≤ j) (h2 : j < 4611686018427387904) : gRng1 g ρ = .ok (rangeD 0 j) := by
  unfold gRng1
  rw [h, bnd_ok]
  unfold rng1
  simp only
  rw [if_pos (by constructor <;> omega)]
theorem rng2_ok {g : List Dt → O (List Dt)} {ρ : List Dt} {i j : Int} (h : g ρ = .ok [.int i, .int j]) (h1 : -4611686018427387904 ≤ j) (h2 : j < 4611686018427387904) (h3 : -4611686018427387904 ≤ i) (h4 : i < 4611686018427387904) : gRng2 g ρ = .ok (rangeD i j) := by
  unfold gRng2
  rw [h, bnd_ok]
  unfold rng2
  simp only
  rw [if_pos (by refine ⟨?_, ?_, ?_, ?_⟩ <;> omega)]
theorem seqG_l {g : Gd} {ρ : List Dt} {ds : List Dt} (h : g ρ = .ok (.list ds)) : gSeq g ρ = .ok ds := by unfold gSeq; rw [h]; rfl
theorem allB_map : ∀ xs : List Bool, allB (xs.map .bool) = some xs
  | [] => rfl
  | x :: xs => by rw [List.map_cons]; unfold allB; rw [allB_map xs]; rfl
theorem canLay_ints : ∀ xs : List Int, PyData.canLayAll0 (xs.map .int) = true
  | [] => by simp [PyData.canLayAll0]
  | x :: xs => by simp [PyData.canLayAll0, PyData.canLay0, canLay_ints xs]
theorem depth_ints : ∀ xs : List Int, PyData.depthAll (xs.map .int) = 0
  | [] => by simp [PyData.depthAll]
  | x :: xs => by simp [PyData.depthAll, PyData.depth, depth_ints xs]
theorem shaped_ints (xs : List Int) : SeqAt.shaped (.list (xs.map .int)) = true := by simp [SeqAt.shaped, PyData.canLay0, PyData.depth, canLay_ints, depth_ints]
theorem eqvAll_ints : ∀ xs ys : List Int, PyData.eqvAll (xs.map .int) (ys.map .int) = decide (xs = ys)
  | [], [] => by simp [PyData.eqvAll]
  | [], _ :: _ => by simp [PyData.eqvAll]
  | _ :: _, [] => by simp [PyData.eqvAll]
  | x :: xs, y :: ys => by
    simp only [List.map_cons, PyData.eqvAll, PyData.eqv, eqvAll_ints xs ys]
    by_cases h1 : x = y <;> by_cases h2 : xs = ys <;> simp [h1, h2]
theorem hNe_ints (xs ys : List Int) : hNe (.list (xs.map .int)) (.list (ys.map .int)) = .ok (.bool (!decide (xs = ys))) := by
  unfold hNe; rw [shaped_ints, shaped_ints]; simp only [PyData.eqv, eqvAll_ints, Bool.and_self, if_true]
theorem any_ints (i : Int) : ∀ xs : List Int, ((xs.map PyData.int).any fun z => PyData.eqv z (.int i)) = decide (i ∈ xs)
  | [] => by simp
  | x :: xs => by
    rw [List.map_cons, List.any_cons, any_ints i xs]
    simp only [PyData.eqv, List.mem_cons]
    by_cases h : x = i
    · subst h; simp
    · have h' : ¬ i = x := fun e => h e.symm
      simp [h, h']
theorem hIn_ints (i : Int) (xs : List Int) : hIn (.int i) (.list (xs.map .int)) = .ok (.bool (decide (i ∈ xs))) := by
  unfold hIn; simp only [shaped_int, shaped_ints, Bool.and_self, if_true, any_ints]
theorem hNotIn_ints (i : Int) (xs : List Int) : hNotIn (.int i) (.list (xs.map .int)) = .ok (.bool (!decide (i ∈ xs))) := by
  unfold hNotIn; simp only [shaped_int, shaped_ints, Bool.and_self, if_true, any_ints]
theorem pureA_ints : ∀ xs : List Int, pureA (xs.map .int) = true
  | [] => rfl
  | x :: xs => by rw [List.map_cons]; unfold pureA; rw [pureA_ints xs]; rfl
theorem atI_map {α β : Type} (f : α → β) {xs : List α} {i : Int} (h0 : 0 ≤ i) (h1 : i < xs.length) : L2.atI (xs.map f) i = some (f (xs[i.toNat]'(by omega))) := by
  obtain ⟨j, rfl⟩ : ∃ j : Nat, i = j := ⟨i.toNat, by omega⟩
  have hj : j < xs.length := by omega
  refine L2.atI_nat ?_
  rw [List.getElem?_map, List.getElem?_eq_getElem hj]
  rfl
theorem hIx_l {ds : List Dt} {i : Int} {z : Dt} (h : L2.atI ds i = some z) : hIx (.list ds) (.int i) = .ok z := by unfold hIx; simp only [h]
theorem hIx_ints {xs : List Int} {i : Int} (h0 : 0 ≤ i) (h1 : i < xs.length) : hIx (.list (xs.map .int)) (.int i) = .ok (.int (xs[i.toNat]'(by omega))) := hIx_l (atI_map _ h0 h1)
theorem sIx_none (n d : Nat) : HT.sIx n d none = d := rfl
theorem cutD_from {α : Type} (f : α → Dt) (xs : List α) (k : Nat) : cutD (xs.map f) (some (k : Int)) none = (xs.drop k).map f := by
  unfold cutD
  rw [HT.sIx_nat, sIx_none, List.length_map]
  rcases Nat.lt_or_ge k xs.length with h | h
  · rw [Nat.min_eq_left (Nat.le_of_lt h), ← List.map_drop, List.take_of_length_le (by rw [List.length_map, List.length_drop]; omega)]
  · rw [Nat.min_eq_right h, List.drop_of_length_le (by rw [List.length_map]; omega), List.drop_of_length_le h]
    simp
theorem cutD_to {α : Type} (f : α → Dt) (xs : List α) (k : Nat) : cutD (xs.map f) none (some (k : Int)) = (xs.take k).map f := by
  unfold cutD
  rw [HT.sIx_nat, sIx_none, List.length_map, List.drop_zero, Nat.sub_zero, ← List.map_take]
  rcases Nat.lt_or_ge k xs.length with h | h
  · rw [Nat.min_eq_left (Nat.le_of_lt h)]
  · rw [Nat.min_eq_right h, List.take_of_length_le (Nat.le_refl _), List.take_of_length_le h]
theorem hSl_from {α : Type} (f : α → Dt) (xs : List α) (k : Nat) : hSl (.list (xs.map f)) (some (k : Int)) none = .ok (.list ((xs.drop k).map f)) := by unfold hSl; rw [← cutD_from]
theorem hSl_to {α : Type} (f : α → Dt) (xs : List α) (k : Nat) : hSl (.list (xs.map f)) none (some (k : Int)) = .ok (.list ((xs.take k).map f)) := by unfold hSl; rw [← cutD_to]
theorem hCat_l {xs ys : List Dt} (h : xs.length + ys.length ≤ 100000) : hCat (.list xs) (.list ys) = .ok (.list (xs ++ ys)) := by unfold hCat; simp only [h, if_true]
theorem hCat_map {α : Type} (f : α → Dt) (xs ys : List α) (h : xs.length + ys.length ≤ 100000) : hCat (.list (xs.map f)) (.list (ys.map f)) = .ok (.list ((xs ++ ys).map f)) := by
  rw [hCat_l (by rw [List.length_map, List.length_map]; exact h), List.map_append]
theorem hRep_l {xs : List Dt} {k : Int} (h0 : 0 ≤ k) (h1 : k < 100) (h : xs.length ≤ 1000) : hRep (.list xs) (.int k) = .ok (.list (List.replicate k.toNat xs).flatten) := by
  unfold hRep
  simp only
  rw [if_pos]
  refine ⟨by omega, by omega, ?_⟩
  have : xs.length * k.toNat ≤ 1000 * 100 := Nat.mul_le_mul h (by omega)
  omega
theorem seq_step {a b : Gs} {ρ ρ' : List Dt} {z : O Fl} (h : a ρ = .ok (.nx ρ')) (k : b ρ' = z) : gSeqS a b ρ = z := by rw [seq_nx h]; exact k
theorem gCallN_def (n : Nat) (g : List Dt → O Dt) (gA : List Dt → O (List Dt)) (ρ : List Dt) : gCallN n g gA ρ = bnd (gA ρ) fun ds => if ds.length = n then (match g ds with | .ok d => .ok d | _ => .bad) else .bad := rfl
theorem gAsg_def (g : Gd) (h : Dt → List Dt → O (List Dt)) (ρ : List Dt) : gAsg g h ρ = bnd (g ρ) fun d => match h d ρ with | .ok ρ' => .ok (.nx ρ') | _ => .bad := rfl
theorem gSl_def (h : Dt → Option Int → Option Int → O Dt) (g : Gd) (gl gh : List Dt → O (Option Int)) (ρ : List Dt) : gSl h g gl gh ρ = bnd (g ρ) fun d => bnd (gl ρ) fun lo => bnd (gh ρ) fun hi => h d lo hi := rfl
theorem gNoPart_def (ρ : List Dt) : gNoPart ρ = .ok none := rfl
theorem gPart_def (g : Gd) (ρ : List Dt) : gPart g ρ = bnd (g ρ) fun d => match d with | .int i => .ok (some i) | _ => .bad := rfl
theorem hSl_from' {α : Type} (f : α → Dt) (xs : List α) {k : Int} (h : 0 ≤ k) : hSl (.list (xs.map f)) (some k) none = .ok (.list ((xs.drop k.toNat).map f)) := by
  have := hSl_from f xs k.toNat
  rwa [show ((k.toNat : Nat) : Int) = k by omega] at this
theorem hSl_to' {α : Type} (f : α → Dt) (xs : List α) {k : Int} (h : 0 ≤ k) : hSl (.list (xs.map f)) none (some k) = .ok (.list ((xs.take k.toNat).map f)) := by
  have := hSl_to f xs k.toNat
  rwa [show ((k.toNat : Nat) : Int) = k by omega] at this
def pl (n : Int) : List Int := (List.range n.toNat).map fun (i : Nat) => (i : Int)
theorem rangeD_pl (n : Int) : rangeD 0 n = (pl n).map .int := by
  unfold rangeD pl
  rw [List.map_map, Int.sub_zero]
  apply List.map_congr_left
  intro i _
  show PyData.int (0 + (i : Int)) = PyData.int (i : Int)
  rw [Int.zero_add]
theorem pl_len (n : Int) : (pl n).length = n.toNat := by unfold pl; rw [List.length_map, List.length_range]
end Sim
end T_SimP
section T_SimI
set_option Elab.async false
set_option linter.all false
set_option maxRecDepth 100000
namespace Sim
open PySem PySem.Spec L2
open PyProof.Rows hiding St
section
variable {prog : Program} {w : World} {A : Around} {E : Value → Shared → Prop} {s : Shared}
theorem extend_rev {R : Result → Shared → Prop} {it l : Addr} {items : Array Value} (hh : A.handled = none) (hit : s.heap.IsRevIter it l ((items.size : Int) - 1)) (hl : s.heap.IsList l items) (hne : l ≠ it) (hn : items.size ≤ sizeLine)
    (S : Addr) (res : Value) {c₀ : Nat} (hS : s.heap.get? S = some { cls := .type "list", data := .seq #[] c₀ })
    (hSi : S ≠ it) (hSl : S ≠ l)
    (hR : ∀ h' tk acc' c', (∀ b o, b ≠ S → b ≠ it → s.heap.get? b = some o → h'.get? b = some o) → h'.get? S = some { cls := .type "list", dict := none, data := .seq acc' c', slots := #[] } →
      ItemsOf (fun i v => items[items.size - 1 - i]? = some v) acc' items.size → R (.ok (.ret res)) { s with heap := h', toks := tk }) :
    wpAny (model prog w) A.in1 (Builtin.List.listExtendWith (.ref S) (.ref it) res)
      (fun fin s' => match fin with | .done f => R (.ok f) s' | .again c' => c'.quiet = true ∧ codeAny (model prog w) A c' R s') (fun e s' => R (.error e) s') s := by
  have W := (Walks.listRev (prog := prog) (w := w) (A := A.in1) hh it l hne items).toS
  have hSf : S ∉ [it, l] := by simp only [List.mem_cons, List.not_mem_nil, or_false, not_or]; exact ⟨hSi, hSl⟩
  have hT : s.TypeIs (.ref it) "list_reverseiterator" := hit.typeIs
  have h1 : Builtin.List.listSameRef (.ref S) (.ref it) = false := by simp [Builtin.List.listSameRef, hSi]
  unfold Builtin.List.listExtendWith
  refine wpAny_bind (wpAny_typeOf hT ?_)
  rw [if_neg (by rw [h1]; decide)]
  refine wpAny_bind (wpAny_pyIter_revIter hit ?_)
  refine wpAny_bind (wpAny_holding ?_)
  unfold Builtin.List.listLengthHint
  refine wpAny_bind (wpAny_specialOf hT RT.nolen_lri ?_)
  show wpAny _ A.in1 (specialOf (Value.ref it) (Str.ofString "__length_hint__") >>= _) _ _ _
  refine wpAny_bind (wpAny_specialOf hT RT.hint_lri ?_)
  generalize hid : ("list_reverseiterator.__length_hint__" : String) = id0
  wp_delta
  rw [show splitId id0 = some ("list_reverseiterator", "__length_hint__") from by subst hid; decide +kernel]
  subst hid
  refine wpAny_bind (wpAny_isInstance (b := true) hT (by rw [isSubtype_type]; kernel_rfl) ?_)
  refine wpAny_pure ?_
  rw [if_neg (by decide)]
  have e0 : ((items.size : Nat) : Int) - 1 - ((0 : Nat) : Int) = (items.size : Int) - 1 := by omega
  refine wpAny_pure ⟨plainId_quiet F.plain_extend_loop _, codeAny_extend_loopS W hn _ hSf _ items.size 0 _ _ _ rfl (Nat.zero_le _) ⟨Nat.zero_le _, by rw [e0]; exact hit, hl⟩ hS (ItemsOf.nil _) fun s' acc' c' hm hS' hacc => ?_⟩
  rw [Moved.eq_with hm]
  refine hR s'.heap s'.toks acc' c' (fun b o hb hb2 e => hm.heap b o (fun hmem => ?_) e) hS' hacc
  rcases List.mem_cons.mp hmem with e' | hmem
  · exact hb e'
  · exact hb2 (List.mem_singleton.mp hmem)
theorem list_init_rev {R : Result → Shared → Prop} {it l : Addr} {items : Array Value} (hh : A.handled = none) (hit : s.heap.IsRevIter it l ((items.size : Int) - 1)) (hl : s.heap.IsList l items) (hne : l ≠ it) (hn : items.size ≤ sizeLine)
    (S : Addr) (hS : s.heap.get? S = some { cls := .type "list", data := .seq #[] }) (hSi : S ≠ it) (hSl : S ≠ l)
    (hR : ∀ h' tk acc' c', (∀ b o, b ≠ S → b ≠ it → s.heap.get? b = some o → h'.get? b = some o) → h'.get? S = some { cls := .type "list", dict := none, data := .seq acc' c', slots := #[] } →
      ItemsOf (fun i v => items[items.size - 1 - i]? = some v) acc' items.size → R (.ok (.ret .none)) { s with heap := h', toks := tk }) :
    wpAny (model prog w) A.in1 (Builtin.«list.__init__» ⟨[.ref S, .ref it], []⟩)
      (fun fin s' => match fin with | .done f => R (.ok f) s' | .again c' => c'.quiet = true ∧ codeAny (model prog w) A c' R s') (fun e s' => R (.error e) s') s := by
  show wpAny _ _ (do let old ← Builtin.List.listItems (.ref S); Builtin.List.listUpdate (.ref S) (fun _ => #[]); letGo old.toList.reverse; Builtin.List.listExtendWith (.ref S) (.ref it) .none) _ _ s
  refine wpAny_bind ?_
  unfold Builtin.List.listItems
  refine wpAny_bind (wpAny_seqItems hS rfl (wpAny_pure ?_))
  show wpAny _ _ (updateSeq S (fun _ => #[]) >>= fun _ => letGo (#[] : Array Value).toList.reverse >>= fun _ => Builtin.List.listExtendWith (.ref S) (.ref it) .none) _ _ s
  refine wpAny_bind (wpAny_updateSeq hS rfl ?_)
  have hS₂ := Heap.get?_update_self (Obj.mapSeq (fun _ => (#[] : Array Value))) hS rfl
  have oth : ∀ b o, b ≠ S → s.heap.get? b = some o → (s.heap.update S (Obj.mapSeq (fun _ => (#[] : Array Value)))).get? b = some o :=
    fun b o hb e => (Heap.get?_update_other _ _ (Ne.symm hb)).trans e
  refine wpAny_bind (wpAny_letGo ?_)
  exact extend_rev (s := { s with heap := s.heap.update S (Obj.mapSeq (fun _ => (#[] : Array Value))) }) hh (hit.at fun o e => oth it o (Ne.symm hSi) e) (hl.at fun o e => oth l o (Ne.symm hSl) e) hne hn S .none hS₂ hSi hSl fun h' tk acc' c' hk hS' hacc =>
    hR h' tk acc' c' (fun b o hb hb2 e => hk b o hb hb2 (oth b o hb e)) hS' hacc
theorem call_list_rev {it l : Addr} {items : Array Value} {Q : Value → Shared → Prop} (hh : A.handled = none) (hit : s.heap.IsRevIter it l ((items.size : Int) - 1)) (hl : s.heap.IsList l items) (hne : l ≠ it) (hn : items.size ≤ sizeLine)
    (hQ : ∀ h' tk acc' c', (∀ b o, b ≠ it → s.heap.get? b = some o → h'.get? b = some o) →
      h'.get? s.heap.objs.size = some { cls := .type "list", dict := none, data := .seq acc' c', slots := #[] } → ItemsOf (fun i v => items[items.size - 1 - i]? = some v) acc' items.size → Q (.ref s.heap.objs.size) { s with heap := h', toks := tk }) :
    wpAny (model prog w) A (call (.type "list") [.ref it]) Q E s := by
  refine callType_codes (Q₁ := fun obj s₁ => obj = .ref s.heap.objs.size ∧ s₁ = { s with heap := s.heap.push { cls := .type "list", data := .seq #[] } }) F.called_list (F.typeCall_list_1 _) F.entry_list_init
    (code_list_new _ ⟨rfl, rfl⟩) fun obj s₁ h₁ => ?_
  obtain ⟨rfl, rfl⟩ := h₁
  have hS : (s.heap.push { cls := .type "list", data := .seq #[] }).get? s.heap.objs.size = some { cls := .type "list", data := .seq #[] } := Heap.get?_push_size _ rfl
  obtain ⟨oi, hoi, _⟩ := id hit
  obtain ⟨ol, hol, _⟩ := id hl
  refine ⟨⟨_, hS, rfl⟩, F.args_list_init_2 _ _, list_init_rev (A := A.in1) (s := { s with heap := s.heap.push { cls := .type "list", data := .seq #[] } }) hh (hit.at fun o e => Heap.get?_push_of_some _ e) (hl.push _) hne hn _ hS (Nat.ne_of_gt (Heap.lt_size hoi)) (Nat.ne_of_gt (Heap.lt_size hol)) fun h' tk acc' c' hk hS' hacc => ?_⟩
  exact ⟨rfl, hQ h' tk acc' c' (fun b o hb e => hk b o (Nat.ne_of_lt (Heap.lt_size e)) hb (Heap.get?_push_of_some _ e)) hS' hacc⟩
end
def tLstRev (K : PySem.W.Frag) (te : TE) : TE := fun σ H Q => te σ H fun v H1 => ∃ (a : Addr) (xs : List V), v = .ref a ∧ SqL K H1 a xs ∧ ∀ q, H1 q = none → Q (.ref q) (upd H1 q (.lst xs.reverse))
section
variable {X : Cx}
theorem pe_lstRev {e : Expr} {te : TE} {p p2 pos pos2 : Pos} (hc : X.calm = true) (hg : Gl X "list") (hm : X.mg "list" = none) (hg2 : Gl X "reversed") (hm2 : X.mg "reversed" = none) (he : PE X e te)
    (hs : starEach [e] X.env = (false, eval e X.env) :: starEach [] X.env := by rfl)
    (hs2 : starEach [.Call (.Name "reversed" p2) [e] [] pos2] X.env = (false, eval (.Call (.Name "reversed" p2) [e] [] pos2) X.env) :: starEach [] X.env := by rfl) :
    PE X (.Call (.Name "list" p) [.Call (.Name "reversed" p2) [e] [] pos2] [] pos) (tLstRev X.K te) := by
  refine ⟨fun pins s σ H Q I h => ?_⟩
  refine Call_ (ld_blt I hg hm boot_list (PyProof.Rows.callWith_type1 (args_cons (Call_ (ld_blt I hg2 hm2 PyProof.Rows.boot_reversed (PyProof.Rows.callWith_type1 (args_cons (thn (he.run pins s σ H _ I h) fun u s1 ⟨v, H1, I1, r1, q1⟩ => args_nil ?_) hs) hs rfl))) hs2) hs2 rfl))
  obtain ⟨a, xs, ev, hq, q⟩ := q1
  subst ev
  obtain rfl : u = Value.ref a := r1
  obtain ⟨its, rv, p', hz⟩ := I1.list hq
  refine call_reversed_list p'.isList (args_nil ?_)
  have k0 : ∀ b o, s1.heap.get? b = some o → (s1.heap.push (revObj a ((its.toArray.size : Int) - 1))).get? b = some o := fun b o e => Heap.get?_push_of_some _ e
  have I2 : Inv X pins σ H1 { s1 with heap := s1.heap.push (revObj a ((its.toArray.size : Int) - 1)) } := I1.kept (t' := s1.toks) k0
  obtain ⟨f0, f1, f2, f3, f4, f5⟩ := I1.fpOk (H' := H1) (b := s1.heap.objs.size) (Nat.le_refl _) (I1.hok.fresh (Nat.le_refl _))
  have hl := p'.isList
  obtain ⟨ol, hol, _⟩ := id hl
  have hne : a ≠ s1.heap.objs.size := Nat.ne_of_lt (Heap.lt_size hol)
  have hn : its.toArray.size ≤ sizeLine := by rw [List.size_toArray, ← rv.length]; exact hz
  refine call_list_rev (s := { s1 with heap := s1.heap.push (revObj a ((its.toArray.size : Int) - 1)) }) (I1.ok.hd hc) ⟨_, Heap.get?_push_size _ rfl, rfl, rfl⟩ (hl.push _) hne hn fun h' tk acc c' hk he' hi => ?_
  have I3 : Inv X pins σ H1 { s1 with heap := h', toks := tk } := I2.turned (t' := tk) (fun b o hb e => hk b o hb e) f0 f1 f3 f4 f5
  refine ⟨.ref (s1.heap.push (revObj a ((its.toArray.size : Int) - 1))).objs.size, upd H1 (s1.heap.push (revObj a ((its.toArray.size : Int) - 1))).objs.size (.lst xs.reverse), ?_, rfl, q _ (I2.hok.fresh (Nat.le_refl _))⟩
  refine I2.turnedNew (t' := tk) (ch := [s1.heap.objs.size]) (fun b o hb e => hk b o (fun z => hb (by simp [z])) e) (fun b hb => ?_) (Nat.le_refl _) (show ObjOk X.prog X.w _ _ _ (.lst xs.reverse) from ⟨by rw [List.length_reverse]; exact hz, acc.toList, c', RT.vals_rev rv hi, ?_⟩)
  · have e : b = s1.heap.objs.size := by simpa using hb
    subst e
    exact ⟨f0, f1, f2, f3, f4, f5⟩
  · rw [Array.toArray_toList]; exact he'
end
inductive Ty5 where
  | int | bool | str | list | tuple
def Ty5.nm : Ty5 → String
  | .int => "int"
  | .bool => "bool"
  | .str => "str"
  | .list => "list"
  | .tuple => "tuple"
def isaB (T : Ty5) : Dt → Option Bool
  | .none => some false
  | .bool _ => some (match T with | .bool => true | .int => true | _ => false)
  | .int _ => some (match T with | .int => true | _ => false)
  | .str _ => some (match T with | .str => true | _ => false)
  | .list _ => some (match T with | .list => true | _ => false)
  | .tuple _ => some (match T with | .tuple => true | _ => false)
  | .dict es => if exnL es then none else some false
def hIsa (T : Ty5) : Dt → O Dt := fun d => match isaB T d with
  | some b => .ok (.bool b)
  | none => .bad
section
variable {K : PySem.W.Frag} {W : Wt} {Δ : List Kd} {te : TE} {g : Gd} {av fr : Bool} {T : Ty5}
theorem kit_non : PySem.W.kitOne K (.type "NoneType") (.type T.nm) = some false := by cases T <;> exact kit_ty (by decide +kernel)
theorem kit_bl : PySem.W.kitOne K (.type "bool") (.type T.nm) = some (match T with | .bool => true | .int => true | _ => false) := by cases T <;> exact kit_ty (by decide +kernel)
theorem kit_int : PySem.W.kitOne K (.type "int") (.type T.nm) = some (match T with | .int => true | _ => false) := by cases T <;> exact kit_ty (by decide +kernel)
theorem kit_str : PySem.W.kitOne K (.type "str") (.type T.nm) = some (match T with | .str => true | _ => false) := by cases T <;> exact kit_ty (by decide +kernel)
theorem kit_list : PySem.W.kitOne K (.type "list") (.type T.nm) = some (match T with | .list => true | _ => false) := by cases T <;> exact kit_ty (by decide +kernel)
theorem kit_dict : PySem.W.kitOne K (.type "dict") (.type T.nm) = some false := by cases T <;> exact kit_ty (by decide +kernel)
theorem kit_tuple : PySem.W.kitOne K (.type "tuple") (.type T.nm) = some (match T with | .tuple => true | _ => false) := by cases T <;> exact kit_ty (by decide +kernel)
theorem rp_isa {F : Addr → Prop} {H : Hp} {v : V} {d : Dt} {b : Bool} (h : Rp K F H v d) (e : isaB T d = some b) : ∃ t, TyX K H v t ∧ PySem.W.kitOne K t (.type T.nm) = some b := by
  cases h with
  | non => cases e; exact ⟨_, .base .non, kit_non⟩
  | bl x => cases e; exact ⟨_, .base (.bl x), kit_bl⟩
  | int x => cases e; exact ⟨_, .base (.int x), kit_int⟩
  | str x => cases e; exact ⟨_, .base (.str x), kit_str⟩
  | lst hp _ _ => cases e; exact ⟨_, .base (.lst hp), kit_list⟩
  | fz hp _ => cases e
  | tup hp _ =>
    cases e
    rcases hp with (hp | ⟨o, hp⟩) | ⟨o, its, n, hp, hc, _⟩
    · exact ⟨_, .base (.tup hp), kit_tuple⟩
    · exact ⟨_, .fTuple hp, kit_tuple⟩
    · exact ⟨_, .kTuple hp hc, kit_tuple⟩
  | @dic _ _ es hp _ _ _ =>
    have e : (if exnL es = true then none else some false) = some b := e
    cases hx : exnL es with
    | true => rw [hx] at e; cases e
    | false => rw [hx] at e; cases e; exact ⟨_, .base (.dK hp), kit_dict⟩
  | exn _ _ _ => cases e
theorem se_isa (ha : SE K W Δ te (.v av fr) g) : SE K W Δ (tCB (rIsi K) (tCons te (tCons (tC (.ty T.nm)) tNil))) (.v true true) (gUn (hIsa T) g) := fun f ρ σ H Q R q => by
  refine ha f ρ σ H _ R ?_
  unfold gUn at q
  cases e1 : g ρ with
  | bad => rw [e1] at q; exact q
  | ex z => rw [e1] at q; exact q
  | ok d =>
    rw [e1, bnd_ok] at q
    intro v H1 s1 x1
    unfold hIsa at q
    cases e2 : isaB T d with
    | none => rw [e2] at q; exact q.elim
    | some b =>
      rw [e2] at q
      obtain ⟨t, h1, h2⟩ := rp_isa x1 e2
      exact ⟨v, .ty T.nm, t, .type T.nm, b, rfl, .ty _, h1, h2, q _ H1 s1 (.bl b)⟩
end
section
variable {X : Cx} {K : PySem.W.Frag} {W : Wt} {Δ Δn Δb Δc : List Kd} {a b e : Expr} {es : List Expr} {ta tb te : TE} {tA : TA} {g ga : Gd} {gA : List Dt → O (List Dt)} {av fr : Bool} {L : Lk} {pos : Pos} {st : Stmt}
theorem x_isa (T : Ty5) {x : Str} {p p2 : Pos} (hm : X.mg "isinstance" = none) (hm2 : X.mg x = none) (h : PD X K W Δ e te (.v av fr) g) (hv : bootBuiltins x = some (.type T.nm) := by decide +kernel) (hg2 : Gl X x := by rfl) (hn : x ≠ "__name__" := by decide) (hdb : (x == ("__debug__" : Str)) = false := by decide)
    (hg : Gl X "isinstance" := by rfl)
    (he : starEach [e, .Name x p2] X.env = (false, eval e X.env) :: starEach [.Name x p2] X.env := by rfl) (he2 : starEach [.Name x p2] X.env = (false, eval (.Name x p2) X.env) :: starEach [] X.env := by rfl) (hpl : (backTo pos (starEach [.Name x p2] X.env)).any (·.1) = false := by rfl) :
    PD X K W Δ (.Call (.Name "isinstance" p) [e, .Name x p2] [] pos) (tCB (rIsi K) (tCons te (tCons (tC (.ty T.nm)) tNil))) (.v true true) (gUn (hIsa T) g) :=
  ⟨pe_callB (by have q := call_isi (X := X); rw [h.hK] at q; exact q) hg hm (by decide +kernel) (pa_cons h.pe (pa_cons (pe_bltn hg2 hm2 hv rfl hn hdb) pa_nil he2) he) (by decide) (by decide) he hpl, h.hK, se_isa h.se⟩
def gBad : Gs := fun _ => .bad
theorem z_never (hK : X.K = K := by rfl) : SD X K W L Δ Δn Δb Δc st tNever gBad := ⟨ps_never, hK, fun f ρ σ H E r q => q.elim⟩
def lst1 : List Dt → Option (List Dt)
  | [.list es] => some es
  | _ => none
def lst2 : List Dt → Option (List Dt × List Dt)
  | [.list es, .list es2] => some (es, es2)
  | _ => none
theorem lst1_inv {ds es : List Dt} (h : lst1 ds = some es) : ds = [.list es] := by
  unfold lst1 at h
  split at h
  · cases h; rfl
  · cases h
theorem lst2_inv {ds : List Dt} {p : List Dt × List Dt} (h : lst2 ds = some p) : ds = [.list p.1, .list p.2] := by
  unfold lst2 at h
  split at h
  · cases h; rfl
  · cases h
def enumD (es : List Dt) : List Dt := es.zipIdx.map fun p => .tuple [.int (p.2 : Nat), p.1]
def zipD (es es2 : List Dt) : List Dt := (es.zip es2).map fun p => .tuple [p.1, p.2]
def gEnum (gA : List Dt → O (List Dt)) : List Dt → O (List Dt) := fun ρ => bnd (gA ρ) fun ds => match lst1 ds with
  | some es => .ok (enumD es)
  | none => .bad
def gRev (gA : List Dt → O (List Dt)) : List Dt → O (List Dt) := fun ρ => bnd (gA ρ) fun ds => match lst1 ds with
  | some es => .ok es.reverse
  | none => .bad
def gZip (gA : List Dt → O (List Dt)) : List Dt → O (List Dt) := fun ρ => bnd (gA ρ) fun ds => match lst2 ds with
  | some p => .ok (zipD p.1 p.2)
  | none => .bad
theorem sc_enum {c : Addr} {es : List Dt} : Sc K (Ite K c) none [.ref c] [.list es] (enumD es) where
  goes := fun i H hi ⟨_, F, r⟩ => by
    cases r with
    | cons h _ =>
      obtain ⟨b, xs, e, hs, r⟩ := h.sql
      cases e
      have hx : i < xs.length := by rw [r.length]; unfold enumD at hi; simpa using hi
      exact ⟨xs, xs[i], hs, List.getElem?_eq_getElem hx⟩
  stops := fun H ⟨_, F, r⟩ => by
    cases r with
    | cons h _ =>
      obtain ⟨b, xs, e, hs, r⟩ := h.sql
      cases e
      exact ⟨xs, hs, by rw [r.length]; unfold enumD; simp⟩
  yields := fun i H x H' hi _ y => by
    obtain ⟨T, z, e, nT, eH, y⟩ := y
    subst e eH
    refine ⟨same_upd nT, fun F r => ?_⟩
    cases r with
    | cons h _ =>
      obtain ⟨b, xs, e, hs, r⟩ := h.sql
      cases e
      obtain ⟨d, h1, h2⟩ := r.get (y xs hs)
      refine ⟨.tuple [.int (i : Nat), d], ?_, .tup (.inl (.inl upd_same)) (.cons (.int _) (.cons (h2.same (same_upd nT)) .nil))⟩
      unfold enumD
      rw [List.getElem?_map, List.getElem?_zipIdx, h1]
      simp
theorem sc_rev {c : Addr} {es : List Dt} {n : Nat} (hn : n = es.length) : Sc K (Itv K c n) none [.ref c] [.list es] es.reverse where
  goes := fun i H hi ⟨_, F, r⟩ => by
    cases r with
    | cons h _ =>
      obtain ⟨b, xs, e, hs, r⟩ := h.sql
      cases e
      rw [List.length_reverse] at hi
      have hx : n - 1 - i < xs.length := by rw [r.length]; omega
      exact ⟨by omega, xs, _, hs, List.getElem?_eq_getElem hx⟩
  stops := fun H _ => by rw [List.length_reverse]; exact Nat.le_of_eq hn
  yields := fun i H x H' hi _ y => by
    obtain ⟨e, y⟩ := y
    subst e
    refine ⟨Same.refl _, fun F r => ?_⟩
    cases r with
    | cons h _ =>
      obtain ⟨b, xs, e, hs, r⟩ := h.sql
      cases e
      obtain ⟨d, h1, h2⟩ := r.get (y xs hs)
      rw [List.length_reverse] at hi
      exact ⟨d, by rw [List.getElem?_reverse hi, ← hn]; exact h1, h2⟩
theorem sc_zip {c c2 : Addr} {es es2 : List Dt} : Sc K (Itz K c c2) none [.ref c, .ref c2] [.list es, .list es2] (zipD es es2) where
  goes := fun i H hi ⟨_, F, r⟩ => by
    cases r with
    | cons h r2 =>
      cases r2 with
      | cons h2 _ =>
        obtain ⟨b, xs, e, hs, r⟩ := h.sql
        cases e
        obtain ⟨b, xs2, e, hs2, r2⟩ := h2.sql
        cases e
        have hl : i < es.length ∧ i < es2.length := by unfold zipD at hi; rw [List.length_map, List.length_zip] at hi; omega
        exact ⟨xs, xs2, _, _, hs, hs2, List.getElem?_eq_getElem (by rw [r.length]; exact hl.1), List.getElem?_eq_getElem (by rw [r2.length]; exact hl.2)⟩
  stops := fun H ⟨_, F, r⟩ => by
    cases r with
    | cons h r2 =>
      cases r2 with
      | cons h2 _ =>
        obtain ⟨b, xs, e, hs, r⟩ := h.sql
        cases e
        obtain ⟨b, xs2, e, hs2, r2⟩ := h2.sql
        cases e
        refine ⟨xs, xs2, hs, hs2, ?_⟩
        unfold zipD
        rw [List.length_map, List.length_zip, r.length, r2.length]
        omega
  yields := fun i H x H' hi _ y => by
    obtain ⟨T, z, z2, e, nT, eH, y, y2⟩ := y
    subst e eH
    refine ⟨same_upd nT, fun F r => ?_⟩
    cases r with
    | cons h r2 =>
      cases r2 with
      | cons h2 _ =>
        obtain ⟨b, xs, e, hs, r⟩ := h.sql
        cases e
        obtain ⟨b, xs2, e, hs2, r2⟩ := h2.sql
        cases e
        obtain ⟨d, h1, h1'⟩ := r.get (y xs hs)
        obtain ⟨d2, h2, h2'⟩ := r2.get (y2 xs2 hs2)
        refine ⟨.tuple [d, d2], ?_, .tup (.inl (.inl upd_same)) (.cons (h1'.same (same_upd nT)) (.cons (h2'.same (same_upd nT)) .nil))⟩
        unfold zipD
        rw [List.getElem?_map, List.getElem?_zip_eq_some (z := (d, d2)) |>.mpr ⟨h1, h2⟩]
        rfl
theorem si_enum (h : SA K W Δ tA true fr gA) : SI K W Δ (iEnum K tA) false fr (gEnum gA) := fun f ρ σ H Rk R q => by
  refine h f ρ σ H _ R ?_
  unfold gEnum at q
  cases e1 : gA ρ with
  | bad => rw [e1] at q; exact q
  | ex z => rw [e1] at q; exact q
  | ok ds =>
    rw [e1, bnd_ok] at q
    intro vs H1 s1 x1
    cases er : lst1 ds with
    | none => rw [er] at q; exact q.elim
    | some es =>
      rw [er] at q
      have e := lst1_inv er
      subst e
      have x0 := x1
      cases x1 with
      | cons x1 xr =>
        cases xr
        obtain ⟨c, xs, rfl, hs, r⟩ := x1.sql
        exact ⟨c, xs, rfl, hs, q _ H1 none [.ref c] [.list es] s1 (fun _ => rfl) (fun _ e => nomatch e) x0 sc_enum⟩
theorem si_rev (h : SA K W Δ tA true fr gA) : SI K W Δ (iRev K tA) false fr (gRev gA) := fun f ρ σ H Rk R q => by
  refine h f ρ σ H _ R ?_
  unfold gRev at q
  cases e1 : gA ρ with
  | bad => rw [e1] at q; exact q
  | ex z => rw [e1] at q; exact q
  | ok ds =>
    rw [e1, bnd_ok] at q
    intro vs H1 s1 x1
    cases er : lst1 ds with
    | none => rw [er] at q; exact q.elim
    | some es =>
      rw [er] at q
      have e := lst1_inv er
      subst e
      have x0 := x1
      cases x1 with
      | cons x1 xr =>
        cases xr
        obtain ⟨c, xs, rfl, hs, r⟩ := x1.sql
        exact ⟨c, xs, rfl, hs, q _ H1 none [.ref c] [.list es] s1 (fun _ => rfl) (fun _ e => nomatch e) x0 (sc_rev r.length)⟩
theorem si_zip (h : SA K W Δ tA true fr gA) : SI K W Δ (iZip K tA) false fr (gZip gA) := fun f ρ σ H Rk R q => by
  refine h f ρ σ H _ R ?_
  unfold gZip at q
  cases e1 : gA ρ with
  | bad => rw [e1] at q; exact q
  | ex z => rw [e1] at q; exact q
  | ok ds =>
    rw [e1, bnd_ok] at q
    intro vs H1 s1 x1
    cases er : lst2 ds with
    | none => rw [er] at q; exact q.elim
    | some p =>
      rw [er] at q
      have e := lst2_inv er
      subst e
      have x0 := x1
      cases x1 with
      | cons x1 xr =>
        cases xr with
        | cons x2 xr =>
          cases xr
          obtain ⟨c, xs, rfl, hs, r⟩ := x1.sql
          obtain ⟨c2, xs2, rfl, hs2, r2⟩ := x2.sql
          exact ⟨c, c2, xs, xs2, rfl, hs, hs2, q _ H1 none [.ref c, .ref c2] [.list p.1, .list p.2] s1 (fun _ => rfl) (fun _ e => nomatch e) x0 sc_zip⟩
theorem i_enum {p tpos : Pos} {elts : List Expr} {kk : Nat} (hm : X.mg "enumerate" = none) (h : AD X K W Δ [a] tA true fr gA) (hg : Gl X "enumerate" := by rfl) (hs : starEach [a] X.env = [(false, eval a X.env)] := by rfl) : ID X K W Δ (.Tuple elts kk tpos) (.Call (.Name "enumerate" p) [a] [] pos) (iEnum K tA) false fr (gEnum gA) :=
  ⟨by have q := pi_enum (X := X) (tpos := tpos) (elts := elts) (kk := kk) (p := p) (pos := pos) hg hm h.pa hs; rw [h.hK] at q; exact q, h.hK, si_enum h.sa⟩
theorem i_rev {tg : Expr} {p : Pos} (hm : X.mg "reversed" = none) (h : AD X K W Δ [a] tA true fr gA) (hg : Gl X "reversed" := by rfl) (hs : starEach [a] X.env = [(false, eval a X.env)] := by rfl) : ID X K W Δ tg (.Call (.Name "reversed" p) [a] [] pos) (iRev K tA) false fr (gRev gA) :=
  ⟨by have q := pi_reversed (X := X) (tg := tg) (p := p) (pos := pos) hg hm h.pa hs; rw [h.hK] at q; exact q, h.hK, si_rev h.sa⟩
theorem i_zip {p tpos : Pos} {elts : List Expr} {kk : Nat} (hm : X.mg "zip" = none) (h : AD X K W Δ [a, b] tA true fr gA) (hg : Gl X "zip" := by rfl) (hs : starEach [a, b] X.env = (false, eval a X.env) :: starEach [b] X.env := by rfl) (hpl : (backTo pos (starEach [b] X.env)).any (·.1) = false := by rfl) : ID X K W Δ (.Tuple elts kk tpos) (.Call (.Name "zip" p) [a, b] [] pos) (iZip K tA) false fr (gZip gA) :=
  ⟨by have q := pi_zip (X := X) (tpos := tpos) (elts := elts) (kk := kk) (p := p) (pos := pos) hg hm h.pa hs hpl; rw [h.hK] at q; exact q, h.hK, si_zip h.sa⟩
def gLsI (gI : List Dt → O (List Dt)) : Gd := fun ρ => bnd (gI ρ) fun ds => if ds.length ≤ 100000 then .ok (.list ds) else .bad
theorem rpA_mapInt {F : Addr → Prop} {H : Hp} {α : Type} (f : α → Int) : ∀ l : List α, RpA K F H (l.map fun i => V.int (f i)) (l.map fun i => PyData.int (f i))
  | [] => .nil
  | x :: l => .cons (.int _) (rpA_mapInt f l)
theorem se_lrng1 (ha : SE K W Δ te (.v av fr) g) : SE K W Δ (tLstRg (tRg1 te)) (.new .l true) (gLsI (gRng1 (gCons g gNil))) := fun f ρ σ H Q R q => by
  refine ha f ρ σ H _ R ?_
  unfold gLsI gRng1 gCons gNil at q
  cases e1 : g ρ with
  | bad => rw [e1] at q; exact q
  | ex z => rw [e1] at q; exact q
  | ok d =>
    rw [e1, bnd_ok, bnd_ok, bnd_ok] at q
    intro v H1 s1 x1
    cases er : rng1 [d] with
    | none => rw [er] at q; exact q.elim
    | some p =>
      rw [er] at q
      unfold rng1 at er
      split at er
      · split at er
        · rename_i hj
          obtain ⟨e, e'⟩ := List.cons.inj ‹[d] = _›
          rename_i j h2
          cases er
          subst e
          rw [rpInt x1]
          simp only [bnd_ok] at q
          by_cases l : (rangeD 0 j).length ≤ 100000
          · rw [if_pos l] at q
            rw [rangeD_len] at l
            refine ⟨j, rfl, ⟨by omega, by omega, hj.1, hj.2, by omega⟩, fun p np => q p _ (s1.free np) (s1.trans (same_upd np)) ⟨_, _, rfl, upd_same, ?_⟩⟩
            exact rpA_mapInt _ _
          · rw [if_neg l] at q
            exact q.elim
        · cases er
      · cases er
theorem se_lrev (ha : SE K W Δ te (.v true fr) g) : SE K W Δ (tLstRev K te) (.new .l fr) (gLsI (gRev (gCons g gNil))) := fun f ρ σ H Q R q => by
  refine ha f ρ σ H _ R ?_
  unfold gLsI gRev gCons gNil at q
  cases e1 : g ρ with
  | bad => rw [e1] at q; exact q
  | ex z => rw [e1] at q; exact q
  | ok d =>
    rw [e1, bnd_ok, bnd_ok, bnd_ok] at q
    intro v H1 s1 x1
    cases er : lst1 [d] with
    | none => rw [er] at q; exact q.elim
    | some es =>
      rw [er] at q
      have e := List.cons.inj (lst1_inv er)
      cases e.1
      simp only [bnd_ok] at q
      by_cases l : es.reverse.length ≤ 100000
      · rw [if_pos l] at q
        obtain ⟨c, xs, rfl, hs, r⟩ := x1.sql
        exact ⟨c, xs, rfl, hs, fun p np => q p _ (s1.free np) (s1.trans (same_upd np)) ⟨_, _, rfl, upd_same, r.reverse.mono (same_upd np) fun a y z => ⟨y, fun e => z (e ▸ np)⟩⟩⟩
      · rw [if_neg l] at q
        exact q.elim
theorem se_lrevO (ha : SE K W Δ te (.o fr) g) : SE K W Δ (tLstRev K te) (.new .l fr) (gLsI (gRev (gCons g gNil))) := fun f ρ σ H Q R q => by
  refine ha f ρ σ H _ R ?_
  unfold gLsI gRev gCons gNil at q
  cases e1 : g ρ with
  | bad => rw [e1] at q; exact q
  | ex z => rw [e1] at q; exact q
  | ok d =>
    rw [e1, bnd_ok, bnd_ok, bnd_ok] at q
    intro p H1 vs ds ed s1 hp gp x1
    subst ed
    simp only [bnd_ok, lst1] at q
    by_cases l : ds.reverse.length ≤ 100000
    · rw [if_pos l] at q
      exact ⟨p, vs, rfl, .inl (.inl hp), fun p np => q p _ (s1.free np) (s1.trans (same_upd np)) ⟨_, _, rfl, upd_same, x1.reverse.mono (same_upd np) fun a y z => ⟨y, fun e => z (e ▸ np)⟩⟩⟩
    · rw [if_neg l] at q
      exact q.elim
theorem x_lrng1 {p p2 pos2 : Pos} (hm : X.mg "list" = none) (hm2 : X.mg "range" = none) (h : PD X K W Δ a ta (.v av fr) ga) (hc : X.calm = true := by rfl) (hg : Gl X "list" := by rfl) (hg2 : Gl X "range" := by rfl)
    (na : starEach [a] X.env = (false, eval a X.env) :: starEach [] X.env := by rfl) (na2 : starEach [.Call (.Name "range" p2) [a] [] pos2] X.env = (false, eval (.Call (.Name "range" p2) [a] [] pos2) X.env) :: starEach [] X.env := by rfl) :
    PD X K W Δ (.Call (.Name "list" p) [.Call (.Name "range" p2) [a] [] pos2] [] pos) (tLstRg (tRg1 ta)) (.new .l true) (gLsI (gRng1 (gCons ga gNil))) := ⟨pe_listRg hc hg hm (prg_1 hg2 hm2 h.pe na) na2, h.hK, se_lrng1 h.se⟩
theorem x_lrev {p p2 pos2 : Pos} (hm : X.mg "list" = none) (hm2 : X.mg "reversed" = none) (h : PD X K W Δ a ta (.v true fr) ga) (hc : X.calm = true := by rfl) (hg : Gl X "list" := by rfl) (hg2 : Gl X "reversed" := by rfl)
    (na : starEach [a] X.env = (false, eval a X.env) :: starEach [] X.env := by rfl) (na2 : starEach [.Call (.Name "reversed" p2) [a] [] pos2] X.env = (false, eval (.Call (.Name "reversed" p2) [a] [] pos2) X.env) :: starEach [] X.env := by rfl) :
    PD X K W Δ (.Call (.Name "list" p) [.Call (.Name "reversed" p2) [a] [] pos2] [] pos) (tLstRev K ta) (.new .l fr) (gLsI (gRev (gCons ga gNil))) := ⟨by have q := pe_lstRev (X := X) (p := p) (p2 := p2) (pos := pos) (pos2 := pos2) hc hg hm hg2 hm2 h.pe na na2; rw [h.hK] at q; exact q, h.hK, se_lrev h.se⟩
theorem x_lrevO {p p2 pos2 : Pos} (hm : X.mg "list" = none) (hm2 : X.mg "reversed" = none) (h : PD X K W Δ a ta (.o fr) ga) (hc : X.calm = true := by rfl) (hg : Gl X "list" := by rfl) (hg2 : Gl X "reversed" := by rfl)
    (na : starEach [a] X.env = (false, eval a X.env) :: starEach [] X.env := by rfl) (na2 : starEach [.Call (.Name "reversed" p2) [a] [] pos2] X.env = (false, eval (.Call (.Name "reversed" p2) [a] [] pos2) X.env) :: starEach [] X.env := by rfl) :
    PD X K W Δ (.Call (.Name "list" p) [.Call (.Name "reversed" p2) [a] [] pos2] [] pos) (tLstRev K ta) (.new .l fr) (gLsI (gRev (gCons ga gNil))) := ⟨by have q := pe_lstRev (X := X) (p := p) (p2 := p2) (pos := pos) (pos2 := pos2) hc hg hm hg2 hm2 h.pe na na2; rw [h.hK] at q; exact q, h.hK, se_lrevO h.se⟩
end
def rng3 : List Dt → Option (Int × Int)
  | [.int i, .int j, .int c] => if c = -1 ∧ -(2 ^ 62) ≤ i ∧ i < 2 ^ 62 ∧ -(2 ^ 62) ≤ j ∧ j < 2 ^ 62 then some (i, j) else none
  | _ => none
theorem rng3_inv {ds : List Dt} {p : Int × Int} (h : rng3 ds = some p) : ds = [.int p.1, .int p.2, .int (-1)] ∧ -(2 ^ 62) ≤ p.1 ∧ p.1 < 2 ^ 62 ∧ -(2 ^ 62) ≤ p.2 ∧ p.2 < 2 ^ 62 := by
  unfold rng3 at h
  split at h
  · split at h
    · rename_i c
      cases h
      obtain ⟨e, c⟩ := c
      subst e
      exact ⟨rfl, c⟩
    · cases h
  · cases h
def downD (i j : Int) : List Dt := (List.range (i - j).toNat).map fun (k : Nat) => .int (i - (k : Int))
def gRng3 (g : List Dt → O (List Dt)) : List Dt → O (List Dt) := fun ρ => bnd (g ρ) fun ds => match rng3 ds with
  | some p => .ok (downD p.1 p.2)
  | none => .bad
section
variable {K : PySem.W.Frag} {W : Wt} {Δ : List Kd}
theorem downD_len (i j : Int) : (downD i j).length = (i - j).toNat := by unfold downD; simp
theorem sc_down {i j : Int} : Sc K (Itc i (-1) (i - j).toNat) none [] [] (downD i j) where
  goes := fun k H hi' _ => by rw [downD_len] at hi'; exact hi'
  stops := fun H _ => by rw [downD_len]; exact Nat.le_refl _
  yields := fun k H x H' hi' _ y => by
    obtain ⟨e, y⟩ := y
    subst e y
    refine ⟨Same.refl _, fun F r => ⟨_, ?_, .int _⟩⟩
    rw [downD_len] at hi'
    unfold downD
    rw [List.getElem?_map, List.getElem?_range hi']
    have e : i - (k : Int) = i + (k : Nat) * (-1) := by omega
    rw [← e]
    rfl
theorem si_rng3 {tA : TA} {gA : List Dt → O (List Dt)} {av fr : Bool} (h : SA K W Δ tA av fr gA) : SI K W Δ (iRng3 tA) false true (gRng3 gA) := fun f ρ σ H Rk R q => by
  refine h f ρ σ H _ R ?_
  unfold gRng3 at q
  cases e1 : gA ρ with
  | bad => rw [e1] at q; exact q
  | ex z => rw [e1] at q; exact q
  | ok ds =>
    rw [e1, bnd_ok] at q
    intro vs H1 s1 x1
    cases er : rng3 ds with
    | none => rw [er] at q; exact q.elim
    | some p =>
      rw [er] at q
      obtain ⟨e, b1, b2, b3, b4⟩ := rng3_inv er
      subst e
      cases x1 with
      | cons x1 xr =>
        cases xr with
        | cons x2 xr =>
          cases xr with
          | cons x3 xr =>
            cases xr
            rw [rpInt x1, rpInt x2, rpInt x3]
            exact ⟨p.1, p.2, -1, (p.1 - p.2).toNat, rfl, RgC.neg b1 b2 b3 b4, q _ H1 none [] [] s1 (fun _ => rfl) (fun _ e => nomatch e) .nil sc_down⟩
theorem i_rng3 {X : Cx} {tg a b c : Expr} {tA : TA} {gA : List Dt → O (List Dt)} {av fr : Bool} {pos p : Pos} (hm : X.mg "range" = none) (h : AD X K W Δ [a, b, c] tA av fr gA) (hg : Gl X "range" := by rfl)
    (hs : starEach [a, b, c] X.env = (false, eval a X.env) :: starEach [b, c] X.env := by rfl) (hpl : (backTo pos (starEach [b, c] X.env)).any (·.1) = false := by rfl) : ID X K W Δ tg (.Call (.Name "range" p) [a, b, c] [] pos) (iRng3 tA) false true (gRng3 gA) := ⟨pi_range3 hg hm h.pa hs hpl, h.hK, si_rng3 h.sa⟩
end
theorem gChain_def (h h' : Dt → Dt → O Dt) (ga gb gc : Gd) (ρ : List Dt) : gChain h h' ga gb gc ρ = bnd (ga ρ) fun x => bnd (gb ρ) fun y => bnd (h x y) fun z => bnd (asB z) fun c => if c then bnd (gc ρ) fun w => h' y w else .ok (.bool false) := rfl
theorem hIsa_int (i : Int) : hIsa .int (.int i) = .ok (.bool true) := rfl
theorem hIsa_intb (i : Int) : hIsa .bool (.int i) = .ok (.bool false) := rfl
theorem hIsa_list (x : List Dt) : hIsa .list (.list x) = .ok (.bool true) := rfl
theorem hIsa_tuple (x : List Dt) : hIsa .tuple (.tuple x) = .ok (.bool true) := rfl
theorem gDrop_def (g : Gd) (ρ : List Dt) : gDrop g ρ = bnd (g ρ) fun _ => .ok (.nx ρ) := rfl
theorem fnN_nx {m : Nat} {g : Gs} {ds ρ : List Dt} (h : g (ds ++ List.replicate (m - ds.length) .none) = .ok (.nx ρ)) : fnN m g ds = .ok .none := by unfold fnN; rw [h]
theorem lsI_ok {gI : List Dt → O (List Dt)} {ρ ds : List Dt} (h : gI ρ = .ok ds) (hl : ds.length ≤ 100000) : gLsI gI ρ = .ok (.list ds) := by unfold gLsI; rw [h, bnd_ok, if_pos hl]
theorem rev_ok {gA : List Dt → O (List Dt)} {ρ es : List Dt} (h : gA ρ = .ok [.list es]) : gRev gA ρ = .ok es.reverse := by unfold gRev; rw [h]; rfl
theorem enum_ok {gA : List Dt → O (List Dt)} {ρ es : List Dt} (h : gA ρ = .ok [.list es]) : gEnum gA ρ = .ok (enumD es) := by unfold gEnum; rw [h]; rfl
theorem zip_ok {gA : List Dt → O (List Dt)} {ρ es fs : List Dt} (h : gA ρ = .ok [.list es, .list fs]) : gZip gA ρ = .ok (zipD es fs) := by unfold gZip; rw [h]; rfl
theorem rng3_ok {g : List Dt → O (List Dt)} {ρ : List Dt} {i j : Int} (h : g ρ = .ok [.int i, .int j, .int (-1)]) (h1 : -4611686018427387904 ≤ j) (h2 : j < 4611686018427387904) (h3 : -4611686018427387904 ≤ i) (h4 : i < 4611686018427387904) : gRng3 g ρ = .ok (downD i j) := by
  unfold gRng3
  rw [h, bnd_ok]
  unfold rng3
  simp only
  rw [if_pos ⟨trivial, by omega, by omega, by omega, by omega⟩]
theorem hAll_b (xs : List Bool) : hAll [.list (xs.map .bool)] = .ok (.bool (xs.all id)) := by
  unfold hAll
  simp only [allB_map]
theorem setI_ok {i : Nat} {ge gi : Gd} {ρ ds : List Dt} {d : Dt} {j : Int} (h1 : ge ρ = .ok d) (h2 : ρ[i]? = some (.list ds)) (h3 : gi ρ = .ok (.int j)) (j0 : 0 ≤ j) (j1 : j < ds.length) : gSetI i ge gi ρ = .ok (.nx (ρ.set i (.list (ds.set j.toNat d)))) := by
  unfold gSetI
  have e : ixN ds.length j = some j.toNat := by
    unfold ixN
    repeat (first | rw [if_pos (by omega)] | rw [if_neg (by omega)])
  rw [h1, bnd_ok, h2]
  simp only
  rw [h3, bnd_ok]
  simp only [e]
theorem enumD_map {α : Type} (f : α → Dt) (xs : List α) : enumD (xs.map f) = (xs.zipIdx.map fun p => .tuple [.int (p.2 : Nat), f p.1]) := by
  unfold enumD
  rw [List.zipIdx_map, List.map_map]
  rfl
theorem zipD_map {α β : Type} (f : α → Dt) (g : β → Dt) (xs : List α) (ys : List β) : zipD (xs.map f) (ys.map g) = ((xs.zip ys).map fun p => .tuple [f p.1, g p.2]) := by
  unfold zipD
  rw [List.zip_map, List.map_map]
  rfl
end Sim
end T_SimI
section T_SimJ
set_option Elab.async false
set_option linter.all false
set_option maxRecDepth 100000
namespace Sim
open PySem PySem.Spec L2
open PyProof.Rows hiding St
def isK : Key → Dt → Bool
  | .inl i, .int j => decide (j = i)
  | .inr x, .str y => decide (y = x)
  | _, _ => false
def dGet (es : List (Dt × Dt)) (k : Key) : Option Dt := (es.find? fun e => isK k e.1).map (·.2)
def dPut (es : List (Dt × Dt)) (k : Key) (v : Dt) : List (Dt × Dt) := if (es.any fun e => isK k e.1) = true then es.map (fun e => if isK k e.1 = true then (e.1, v) else e) else es ++ [(keyD k, v)]
def dDrop (es : List (Dt × Dt)) (k : Key) : List (Dt × Dt) := es.filter fun e => !isK k e.1
section
variable {K : PySem.W.Frag} {F F' : Addr → Prop} {H H' : Hp}
theorem isK_keyD (k k' : Key) : isK k (keyD k') = decide (k' = k) := by
  cases k <;> cases k' <;> simp [isK, keyD]
theorem KvA.length : ∀ {kvs : List (Key × V)} {es : List (Dt × Dt)}, KvA K F H kvs es → kvs.length = es.length
  | _, _, .nil => rfl
  | _, _, .cons _ r => by rw [List.length_cons, List.length_cons, r.length]
theorem KvA.get (k : Key) : ∀ {kvs : List (Key × V)} {es : List (Dt × Dt)}, KvA K F H kvs es → (valV kvs k = none ∧ dGet es k = none) ∨ ∃ v d, valV kvs k = some v ∧ dGet es k = some d ∧ Rp K F H v d
  | _, _, .nil => .inl ⟨rfl, rfl⟩
  | _, _, .cons (k := k') (v := v) (d := d) (kvs := kvs) (es := es) h r => by
    by_cases c : k' = k
    · refine .inr ⟨v, d, valV_pos c, ?_, h⟩
      unfold dGet
      rw [List.find?_cons_of_pos (by rw [isK_keyD]; simpa using c)]
      rfl
    · rw [valV_neg c]
      have e : dGet ((keyD k', d) :: es) k = dGet es k := by
        unfold dGet
        rw [List.find?_cons_of_neg (by rw [isK_keyD]; simpa using c)]
      rw [e]
      exact r.get k
theorem KvA.any (k : Key) : ∀ {kvs : List (Key × V)} {es : List (Dt × Dt)}, KvA K F H kvs es → (kvs.any fun kv => decide (kv.1 = k)) = es.any fun e => isK k e.1
  | _, _, .nil => rfl
  | _, _, .cons h r => by rw [List.any_cons, List.any_cons, r.any k, isK_keyD]
theorem KvA.snoc {k : Key} {v : V} {d : Dt} (x : Rp K F H v d) : ∀ {kvs : List (Key × V)} {es : List (Dt × Dt)}, KvA K F H kvs es → KvA K F H (kvs ++ [(k, v)]) (es ++ [(keyD k, d)])
  | _, _, .nil => .cons x .nil
  | _, _, .cons h r => .cons h (r.snoc x)
theorem KvA.over {k : Key} {v : V} {d : Dt} (x : Rp K F H v d) : ∀ {kvs : List (Key × V)} {es : List (Dt × Dt)}, KvA K F H kvs es → KvA K F H (kvs.map fun kv => if kv.1 = k then (kv.1, v) else kv) (es.map fun e => if isK k e.1 = true then (e.1, d) else e)
  | _, _, .nil => .nil
  | _, _, .cons (k := k') h r => by
    rw [List.map_cons, List.map_cons, isK_keyD]
    by_cases c : k' = k
    · rw [if_pos c, if_pos (by simpa using c)]
      exact .cons x (r.over x)
    · rw [if_neg c, if_neg (by simpa using c)]
      exact .cons h (r.over x)
theorem KvA.put {k : Key} {v : V} {d : Dt} (x : Rp K F H v d) {kvs : List (Key × V)} {es : List (Dt × Dt)} (h : KvA K F H kvs es) : KvA K F H (putK kvs k v) (dPut es k d) := by
  unfold putK dPut
  rw [h.any k]
  split
  · exact h.over x
  · exact h.snoc x
theorem KvA.drop (k : Key) : ∀ {kvs : List (Key × V)} {es : List (Dt × Dt)}, KvA K F H kvs es → KvA K F H (dropK kvs k) (dDrop es k)
  | _, _, .nil => .nil
  | _, _, .cons (k := k') h r => by
    unfold dropK dDrop
    rw [List.filter_cons, List.filter_cons, isK_keyD]
    by_cases c : k' = k
    · rw [if_neg (by simpa using c), if_neg (by simpa using c)]
      exact r.drop k
    · rw [if_pos (by simpa using c), if_pos (by simpa using c)]
      exact .cons h (r.drop k)
end
def gDNew : Gd := fun _ => .ok (.dict [])
section
variable {K : PySem.W.Frag} {W : Wt} {Δ Δb Δc : List Kd} {te ti : TE} {g ge gk : Gd} {fr fr' av : Bool} {L : Lk} {i : Nat}
theorem se_dnew : SE K W Δ tDNewK (.new .dk true) gDNew := fun f ρ σ H Q r q => fun p np => q p _ np (same_upd np) ⟨[], [], rfl, upd_same, .nil⟩
end
section
variable {X : Cx} {K : PySem.W.Frag} {W : Wt} {Δ Δb Δc : List Kd} {a b e tg : Expr} {te ti : TE} {g ge gk : Gd} {fr fr' av av' : Bool} {L : Lk} {pos p pos' : Pos} {x : Str} {m : Nat}
theorem x_dnew (hK : X.K = K := by rfl) : PD X K W Δ (.Dict [] [] pos) tDNewK (.new .dk true) gDNew := ⟨pe_dnewK, hK, se_dnew⟩
def hNotB : Dt → Dt → O Dt := fun d e => match d, e with
  | .bool a, .bool b => .ok (.bool (!decide (a = b)))
  | _, _ => .bad
theorem scl_notB : Scl2 hNotB := fun d e => by cases d <;> cases e <;> first | exact .inr rfl | exact .inl ⟨_, rfl, rfl⟩
theorem osc_notB : OSc K rNotB hNotB := fun H x y d e Q hx hy h => by
  cases hx <;> cases hy <;> first | exact h.elim | exact ⟨_, _, rfl, rfl, h.2 _ (.bl _)⟩
theorem or_notB : OR X K .IsNot rNotB hNotB := ⟨op_notBl, scl_notB, osc_notB⟩
end
section
variable {X : Cx} {K : PySem.W.Frag} {W : Wt} {Δ : List Kd} {a : Expr} {ta te : TE} {g : Gd} {av fr : Bool} {p p2 q pos : Pos}
end
end Sim
end T_SimJ
section T_SimS
set_option Elab.async false
set_option linter.all false
set_option maxRecDepth 100000
namespace Sim
end Sim
namespace TS
open PySem PyProof.Rows Sim
section
variable {prog : Program} {w : World} {A : Around} {E : Value → Shared → Prop} {s : Shared} {Q : Bool → Shared → Prop}
end
def TupsL (h : Heap) (vs : List Value) : Prop := ∀ v, v ∈ vs → ∃ ns, TupInts h v ns ∧ ns ≠ []
theorem TupsL.keeps {h h' : Heap} {vs : List Value} (x : TupsL h vs) (k : ∀ b o, h.get? b = some o → o.cls = .type "tuple" → h'.get? b = some o) : TupsL h' vs := fun v hv =>
  let ⟨ns, t, r⟩ := x v hv; ⟨ns, t.keeps k, r⟩
section
variable {prog : Program} {w : World} {A : Around} {E : Value → Shared → Prop} {s : Shared}
end
end TS
end T_SimS
section T_SimT
set_option Elab.async false
set_option linter.all false
set_option maxRecDepth 100000
namespace L2
open PySem PySem.Spec PyProof.Rows Sim
section
variable {P : Program} {w : World} {A : Around} {E : Value → Shared → Prop} {s : Shared}
set_option maxHeartbeats 3200000 in
end
end L2
namespace Sim
open PySem PySem.Spec L2
open PyProof.Rows hiding St
section
variable {X : Cx}
variable {a : Expr} {ta te : TE} {p p2 q pos : Pos}
end
end Sim
end T_SimT
section T_SimU
set_option Elab.async false
set_option linter.all false
set_option maxRecDepth 100000
namespace Sim
open PySem PySem.Spec L2
open PyProof.Rows hiding St
def encL (ns : List Int) : Dt := .tuple (ns.map .int)
def dd {α : Type} [DecidableEq α] : List α → List α
  | [] => []
  | x :: xs => if x ∈ xs then dd xs else x :: dd xs
section
variable {K : PySem.W.Frag} {W : Wt} {Δ : List Kd}
variable {X : Cx} {a e : Expr} {es : List Expr} {te : TE} {tA : TA} {g : Gd} {gA : List Dt → O (List Dt)} {av fr : Bool} {p p2 q pos : Pos}
end
end Sim
end T_SimU
section T_SimV
set_option Elab.async false
set_option linter.all false
set_option maxRecDepth 100000
namespace Sim
open PySem PySem.Spec L2
open PyProof.Rows hiding St
section
variable {K : PySem.W.Frag} {W : Wt} {Δ : List Kd} {tk tv ti ta tb : TE} {gk gv ga gb g : Gd} {fr fr' av : Bool} {i : Nat}
end
section
variable {X : Cx} {a : Expr} {ta te : TE} {p p2 q pos : Pos}
end
section
variable {X : Cx} {K : PySem.W.Frag} {W : Wt} {Δ : List Kd} {a b e : Expr} {te ti tk tv ta tb : TE} {g gk gv ga gb : Gd} {fr fr' av : Bool} {pos p p2 q apos cpos : Pos} {x : Str} {m : Nat}
end
end Sim
end T_SimV
section T_SimW
set_option Elab.async false
set_option linter.all false
set_option maxRecDepth 100000
namespace L2
open PySem PySem.Spec PyProof.Rows
section
variable {X : Cx} {e : Expr} {te : TE} {k k' : Nat} {p1 p2 p3 pos : Pos}
end
end L2
namespace Sim
open PySem PySem.Spec L2
open PyProof.Rows hiding St
section
variable {K : PySem.W.Frag} {F : Addr → Prop} {H : Hp}
end
def isT (ns : List Int) (d : Dt) : Bool := match d with
  | .tuple xs => decide (allI xs = some ns)
  | _ => false
def tPut (es : List (Dt × Dt)) (ns : List Int) (v : Dt) : List (Dt × Dt) := if (es.any fun e => isT ns e.1) = true then es.map (fun e => if isT ns e.1 = true then (e.1, v) else e) else es ++ [(encL ns, v)]
theorem allI_int (i : Int) (ds : List Dt) : allI (.int i :: ds) = (allI ds).map fun ns => i :: ns := by
  conv => lhs; unfold allI
  first
  | done
  | (cases allI ds <;> rfl)
theorem allI_str (x : Str) (ds : List Dt) : allI (.str x :: ds) = none := rfl
theorem allI_keyD : ∀ {k : List Key} {ns : List Int}, allI (k.map keyD) = some ns ↔ k = ns.map Sum.inl
  | [], [] => by simp [allI]
  | [], _ :: _ => by simp [allI]
  | .inl i :: k, [] => by
    rw [List.map_cons]
    show allI (.int i :: k.map keyD) = some [] ↔ _
    rw [allI_int]
    cases allI (k.map keyD) <;> simp
  | .inl i :: k, n :: ns => by
    have ih := @allI_keyD k ns
    rw [List.map_cons]
    show allI (.int i :: k.map keyD) = some (n :: ns) ↔ _
    rw [allI_int, List.map_cons]
    constructor
    · intro z
      cases e : allI (k.map keyD) with
      | none => rw [e] at z; cases z
      | some ms =>
        rw [e] at z
        injection z with z
        injection z with z1 z2
        rw [z2] at e
        rw [ih.mp e, z1]
    · intro z
      injection z with z1 z2
      injection z1 with z1
      rw [ih.mpr z2, z1]
      rfl
  | .inr x :: k, ns => by
    rw [List.map_cons]
    show allI (.str x :: k.map keyD) = some ns ↔ _
    rw [allI_str]
    constructor
    · intro z; cases z
    · intro z
      cases ns with
      | nil => cases z
      | cons n ns => injection z with z1 z2; cases z1
theorem isT_keyD (ns : List Int) (k : List Key) : isT ns (.tuple (k.map keyD)) = decide (k = ns.map Sum.inl) := by
  show decide (allI (k.map keyD) = some ns) = _
  exact decide_eq_decide.mpr allI_keyD
section
variable {K : PySem.W.Frag} {F : Addr → Prop} {H : Hp}
theorem KtA.length : ∀ {kvs : List (List Key × V)} {es : List (Dt × Dt)}, KtA K F H kvs es → kvs.length = es.length
  | _, _, .nil => rfl
  | _, _, .cons _ r => by rw [List.length_cons, List.length_cons, r.length]
theorem KtA.any (ns : List Int) : ∀ {kvs : List (List Key × V)} {es : List (Dt × Dt)}, KtA K F H kvs es → (kvs.any fun kv => decide (kv.1 = ns.map Sum.inl)) = es.any fun e => isT ns e.1
  | _, _, .nil => rfl
  | _, _, .cons h r => by rw [List.any_cons, List.any_cons, r.any ns, isT_keyD]
theorem keyD_ints (ns : List Int) : (ns.map Sum.inl : List Key).map keyD = ns.map PyData.int := by rw [List.map_map]; rfl
theorem KtA.snoc {ns : List Int} {v : V} {d : Dt} (x : Rp K F H v d) : ∀ {kvs : List (List Key × V)} {es : List (Dt × Dt)}, KtA K F H kvs es → KtA K F H (kvs ++ [(ns.map Sum.inl, v)]) (es ++ [(encL ns, d)])
  | _, _, .nil => by
    have := KtA.cons (k := ns.map Sum.inl) x (KtA.nil (K := K) (F := F) (H := H))
    rw [keyD_ints] at this
    exact this
  | _, _, .cons h r => .cons h (r.snoc x)
theorem KtA.over {ns : List Int} {v : V} {d : Dt} (x : Rp K F H v d) : ∀ {kvs : List (List Key × V)} {es : List (Dt × Dt)}, KtA K F H kvs es → KtA K F H (kvs.map fun kv => if kv.1 = ns.map Sum.inl then (kv.1, v) else kv) (es.map fun e => if isT ns e.1 = true then (e.1, d) else e)
  | _, _, .nil => .nil
  | _, _, .cons (k := k') h r => by
    rw [List.map_cons, List.map_cons, isT_keyD]
    by_cases c : k' = ns.map Sum.inl
    · rw [if_pos c, if_pos (by simpa using c)]
      exact .cons x (r.over x)
    · rw [if_neg c, if_neg (by simpa using c)]
      exact .cons h (r.over x)
theorem KtA.put {ns : List Int} {v : V} {d : Dt} (x : Rp K F H v d) {kvs : List (List Key × V)} {es : List (Dt × Dt)} (h : KtA K F H kvs es) : KtA K F H (putK kvs (ns.map Sum.inl) v) (tPut es ns d) := by
  unfold putK tPut
  rw [h.any ns]
  split
  · exact h.over x
  · exact h.snoc x
end
section
variable {K : PySem.W.Frag} {W : Wt} {Δ Δb Δc : List Kd} {te : TE} {tA : TA} {ge g : Gd} {gA : List Dt → O (List Dt)} {fr fr' av fr2 : Bool} {L : Lk} {i : Nat}
end
section
variable {X : Cx} {K : PySem.W.Frag} {W : Wt} {Δ Δb Δc : List Kd} {a b e : Expr} {es : List Expr} {te : TE} {tA : TA} {g ge : Gd} {gA : List Dt → O (List Dt)} {fr fr' fr2 av : Bool} {L : Lk} {pos pos' p p1 p2 p3 pT : Pos} {x : Str} {k k' m : Nat}
end
end Sim
end T_SimW
section T_SimM
set_option Elab.async false
set_option linter.all false
set_option maxRecDepth 100000
namespace Sim
open PySem PySem.Spec L2
open PyProof.Rows hiding St
abbrev Gx := List Dt → O (Dt × List Dt)
def PoX (K : PySem.W.Frag) (f : Fm) (Δ : List Kd) (σ : L2.St) (k : Rk) (o : O (Dt × List Dt)) (Q : VK) : Prop := match o with
  | .ok (d, ρ') => (match k with
    | .v av fr => ∀ v H', R K f Δ ρ' σ H' → Rp K (FM f Δ σ av fr) H' v d → Q v H'
    | .new c fr => ∀ p H', R K (f.pn p) Δ ρ' σ H' → p ∉ f.P → f.H0 p = none → OwC K c (FM (f.pn p) Δ σ true fr) H' p d → Q (.ref p) H'
    | .o _ => False)
  | _ => False
def SX (K : PySem.W.Frag) (Δ : List Kd) (te : TE) (k : Rk) (g : Gx) : Prop := ∀ f ρ σ H Q, R K f Δ ρ σ H → PoX K f Δ σ k (g ρ) Q → te σ H Q
def PoXA (K : PySem.W.Frag) (f : Fm) (Δ : List Kd) (σ : L2.St) (av fr : Bool) (o : O (List Dt × List Dt)) (Q : List V → Hp → Prop) : Prop := match o with
  | .ok (ds, ρ') => ∀ vs H', R K f Δ ρ' σ H' → RpA K (FM f Δ σ av fr) H' vs ds → Q vs H'
  | _ => False
def SXA (K : PySem.W.Frag) (Δ : List Kd) (ta : TA) (av fr : Bool) (g : List Dt → O (List Dt × List Dt)) : Prop := ∀ f ρ σ H Q, R K f Δ ρ σ H → PoXA K f Δ σ av fr (g ρ) Q → ta σ H Q
def PoXT (K : PySem.W.Frag) (f : Fm) (Δ : List Kd) (σ : L2.St) (o : O (Bool × List Dt)) (Q : Bool → Hp → Prop) : Prop := match o with
  | .ok (b, ρ') => ∀ H', R K f Δ ρ' σ H' → Q b H'
  | _ => False
def SXT (K : PySem.W.Frag) (Δ : List Kd) (tt : TT) (g : List Dt → O (Bool × List Dt)) : Prop := ∀ f ρ σ H Q, R K f Δ ρ σ H → PoXT K f Δ σ (g ρ) Q → tt σ H Q
def xP (g : Gd) : Gx := fun ρ => bnd (g ρ) fun d => .ok (d, ρ)
def xPA (g : List Dt → O (List Dt)) : List Dt → O (List Dt × List Dt) := fun ρ => bnd (g ρ) fun d => .ok (d, ρ)
def xPT (g : List Dt → O Bool) : List Dt → O (Bool × List Dt) := fun ρ => bnd (g ρ) fun d => .ok (d, ρ)
def xOp (h : Dt → Dt → O Dt) (a b : Gx) : Gx := fun ρ => bnd (a ρ) fun x => bnd (b x.2) fun y => bnd (h x.1 y.1) fun z => .ok (z, y.2)
def xNil : List Dt → O (List Dt × List Dt) := fun ρ => .ok ([], ρ)
def xCons (a : Gx) (b : List Dt → O (List Dt × List Dt)) : List Dt → O (List Dt × List Dt) := fun ρ => bnd (a ρ) fun x => bnd (b x.2) fun y => .ok (x.1 :: y.1, y.2)
def xCB (h : List Dt → O Dt) (a : List Dt → O (List Dt × List Dt)) : Gx := fun ρ => bnd (a ρ) fun x => bnd (h x.1) fun z => .ok (z, x.2)
def xTup (a : List Dt → O (List Dt × List Dt)) : Gx := fun ρ => bnd (a ρ) fun x => if x.1.length ≤ 100000 then .ok (.tuple x.1, x.2) else .bad
def xLst (a : List Dt → O (List Dt × List Dt)) : Gx := fun ρ => bnd (a ρ) fun x => if x.1.length ≤ 100000 then .ok (.list x.1, x.2) else .bad
def xTest (a : Gx) : List Dt → O (Bool × List Dt) := fun ρ => bnd (a ρ) fun x => bnd (asB x.1) fun b => .ok (b, x.2)
def xNot (t : List Dt → O (Bool × List Dt)) : List Dt → O (Bool × List Dt) := fun ρ => bnd (t ρ) fun x => .ok (!x.1, x.2)
def xAnd (t u : List Dt → O (Bool × List Dt)) : List Dt → O (Bool × List Dt) := fun ρ => bnd (t ρ) fun x => if x.1 then u x.2 else .ok (false, x.2)
def xOr (t u : List Dt → O (Bool × List Dt)) : List Dt → O (Bool × List Dt) := fun ρ => bnd (t ρ) fun x => if x.1 then .ok (true, x.2) else u x.2
def xIxO (i : Nat) (b : Gx) : Gx := fun ρ => bnd (b ρ) fun y => match y.2[i]? with
  | some a => bnd (hIx a y.1) fun z => .ok (z, y.2)
  | none => .bad
def xCallN (n : Nat) (g : List Dt → O Dt) (gA : List Dt → O (List Dt × List Dt)) : Gx := fun ρ => bnd (gA ρ) fun x => if x.1.length = n then (match g x.1 with
  | .ok d => .ok (d, x.2)
  | _ => .bad) else .bad
def argK : Ct → Dt → Bool
  | .la, .list es => sclA es
  | .ka, .dict es => sclV es
  | _, _ => false
def xCallM (c : Ct) (n : Nat) (g : List Dt → O Dt) (i : Nat) (gA : List Dt → O (List Dt × List Dt)) : Gx := fun ρ => bnd (gA ρ) fun x => if x.1.length + 1 = n then (match x.2[i]? with
  | some a => if argK c a then (match g (a :: x.1) with
    | .ok (.tuple [r, e]) => if argK c e then .ok (r, x.2.set i e) else .bad
    | _ => .bad) else .bad
  | none => .bad) else .bad
def bx {α β : Type} (x : O α) (f : α → O β) : O β := match x with
  | .ok a => f a
  | _ => .bad
def xSet (i : Nat) (g : Gx) : Gs := fun ρ => bx (g ρ) fun x => .ok (.nx (x.2.set i x.1))
def xAsg (g : Gx) (h : Dt → List Dt → O (List Dt)) : Gs := fun ρ => bx (g ρ) fun x => match h x.1 x.2 with
  | .ok ρ' => .ok (.nx ρ')
  | _ => .bad
def xIfS (t : List Dt → O (Bool × List Dt)) (a b : Gs) : Gs := fun ρ => bx (t ρ) fun x => if x.1 then a x.2 else b x.2
def argD : Dt → Bool
  | .list es => sclA es
  | .dict es => sclV es
  | _ => false
def xRetM (g : Gx) : Gs := fun ρ => bx (g ρ) fun x => match x.2[0]? with
  | some e => if argD e then .ok (.rt (.tuple [x.1, e])) else .bad
  | none => .bad
def xFor (gi : List Dt → O (List Dt × List Dt)) (h : Dt → List Dt → O (List Dt)) (b : Gs) : Gs := fun ρ => bx (gi ρ) fun x => forE h b x.1 x.2
theorem sclA_any {K : PySem.W.Frag} {F F' : Addr → Prop} {H H' : Hp} : ∀ {vs : List V} {ds : List Dt}, RpA K F H vs ds → sclA ds = true → RpA K F' H' vs ds
  | _, _, .nil, _ => .nil
  | _, _, .cons h r, e => by
    unfold sclA at e
    rw [Bool.and_eq_true] at e
    exact .cons (h.scl_any e.1) (sclA_any r e.2)
theorem sclV_any {K : PySem.W.Frag} {F F' : Addr → Prop} {H H' : Hp} : ∀ {vs : List (L2.Key × V)} {ds : List (Dt × Dt)}, KvA K F H vs ds → sclV ds = true → KvA K F' H' vs ds
  | _, _, .nil, _ => .nil
  | _, _, .cons h r, e => by
    unfold sclV at e
    rw [Bool.and_eq_true] at e
    exact .cons (h.scl_any e.1) (sclV_any r e.2)
section
variable {K : PySem.W.Frag} {f : Fm} {Δ : List Kd} {ρ : List Dt} {σ : L2.St} {H H' : Hp} {p : Addr} {d : Dt} {i : Nat}
theorem R.pinNew (r : R K f Δ ρ σ H) (np : H p = none) (e : Same H H') (m : ∃ o, H' p = some o ∧ Mutb o) : R K (f.pn p) Δ ρ σ H' := by
  obtain ⟨f1, f2, f3⟩ := r.fresh np
  have key : ∀ {fr : Bool} {v : V} {d : Dt}, Rp K (FM f Δ σ true fr) H v d → Rp K (FM (f.pn p) Δ σ true fr) H' v d := fun h =>
    h.mono e fun a fa na => ⟨fun _ => ⟨(fa.1 rfl).1, fun z => by
      rcases List.mem_cons.mp z with e | h
      · exact na (e ▸ np)
      · exact (fa.1 rfl).2 h⟩, fa.2⟩
  refine ⟨r.ext.trans e, r.g0, r.lσ, r.lρ, r.inj, fun a ha => ?_, fun g hg => (r.gh g hg).map fun _ _ x => key x, fun i fr h => ?_, fun i c fr h => ?_, r.ar, r.sp, fun i t h => let ⟨v, d, h1, h2, h3⟩ := r.sl i t h; ⟨v, d, h1, h2, h3.same e⟩⟩
  · rcases List.mem_cons.mp ha with q | h
    · subst q
      exact ⟨m, f1⟩
    · obtain ⟨⟨u, hu, mu⟩, no⟩ := r.pin a h
      exact ⟨⟨u, e _ _ hu, mu⟩, no⟩
  · obtain ⟨v, d, h1, h2, h3⟩ := r.im i fr h
    exact ⟨v, d, h1, h2, key h3⟩
  · obtain ⟨v, d, h1, h2, h3, h4⟩ := r.ow i c fr h
    exact ⟨v, d, h1, h2, h3, h4.map (fun o q => e _ _ q) fun _ _ x => key x⟩
theorem R.dropP (r : R K (f.pn p) Δ ρ σ H) : R K f Δ ρ σ H := by
  have key : ∀ {fr : Bool} {v : V} {d : Dt}, Rp K (FM (f.pn p) Δ σ true fr) H v d → Rp K (FM f Δ σ true fr) H v d := fun h =>
    h.weak fun a fa => ⟨fun _ => ⟨(fa.1 rfl).1, fun z => (fa.1 rfl).2 (List.mem_cons_of_mem _ z)⟩, fa.2⟩
  refine ⟨r.ext, r.g0, r.lσ, r.lρ, r.inj, fun a ha => r.pin a (List.mem_cons_of_mem _ ha), fun g hg => (r.gh g hg).map fun _ _ x => key x, fun i fr h => ?_, fun i c fr h => ?_, r.ar, r.sp, r.sl⟩
  · obtain ⟨v, d, h1, h2, h3⟩ := r.im i fr h
    exact ⟨v, d, h1, h2, key h3⟩
  · obtain ⟨v, d, h1, h2, h3, h4⟩ := r.ow i c fr h
    exact ⟨v, d, h1, h2, h3, h4.map (fun o q => q) fun _ _ x => key x⟩
theorem R.setOwnP {c : Ct} {fr : Bool} (r : R K (f.pn p) Δ ρ σ H) (hi : i < Δ.length) (h0 : f.H0 p = none) (hP : p ∉ f.P) (h : OwC K c (FM (f.pn p) Δ σ true fr) H p d) (hc : isArg c = false := by rfl) :
    R K f (Δ.set i (.own c fr)) (ρ.set i d) (σ.set i (some (.ref p))) H := by
  have np : ¬ Ow Δ σ p := (r.pin p List.mem_cons_self).2
  have ow' : ∀ a, Ow (Δ.set i (.own c fr)) (σ.set i (some (.ref p))) a → Ow Δ σ a ∨ a = p := fun a => by
    rintro ⟨j, cj, fj, h1, h2⟩
    by_cases z : i = j
    · subst z
      rw [List.getElem?_set_self (by rw [r.lσ]; exact hi)] at h2
      cases h2
      exact .inr rfl
    · rw [List.getElem?_set_ne z] at h1 h2
      exact .inl ⟨j, cj, fj, h1, h2⟩
  have key : ∀ {fr' : Bool} {v' : V} {d' : Dt}, Rp K (FM (f.pn p) Δ σ true fr') H v' d' → Rp K (FM f (Δ.set i (.own c fr)) (σ.set i (some (.ref p))) true fr') H v' d' := fun h =>
    h.weak fun a fa => ⟨fun _ => ⟨fun z => by
      rcases ow' a z with z | z
      · exact (fa.1 rfl).1 z
      · exact (fa.1 rfl).2 (z ▸ List.mem_cons_self), fun z => (fa.1 rfl).2 (List.mem_cons_of_mem _ z)⟩, fa.2⟩
  refine ⟨r.ext, r.g0, by rw [List.length_set, List.length_set]; exact r.lσ, by rw [List.length_set, List.length_set]; exact r.lρ, ?_, fun a ha => ⟨(r.pin a (List.mem_cons_of_mem _ ha)).1, fun z => ?_⟩, fun g hg => (r.gh g hg).map fun _ _ x => key x, fun j fj h' => ?_, fun j cj fj h' => ?_, fun j cj fj h' ha => ?_, r.sp, fun j t h' => by
    by_cases z : i = j
    · subst z
      rw [List.getElem?_set_self hi] at h'
      cases h'
    · rw [List.getElem?_set_ne z] at h'
      obtain ⟨v, d, h1, h2, h3⟩ := r.sl j t h'
      exact ⟨v, d, by rw [List.getElem?_set_ne z]; exact h1, by rw [List.getElem?_set_ne z]; exact h2, h3⟩⟩
  · have g : ∀ {j : Nat} {cj : Ct} {fj : Bool} {q : Addr}, (Δ.set i (Kd.own c fr))[j]? = some (Kd.own cj fj) → (σ.set i (some (V.ref p)))[j]? = some (some (V.ref q)) → (i = j ∧ q = p) ∨ (i ≠ j ∧ Δ[j]? = some (Kd.own cj fj) ∧ σ[j]? = some (some (V.ref q)) ∧ q ≠ p) := fun {j cj fj q} h h2 => by
      by_cases z : i = j
      · subst z
        rw [List.getElem?_set_self (by rw [r.lσ]; exact hi)] at h2
        cases h2
        exact .inl ⟨rfl, rfl⟩
      · rw [List.getElem?_set_ne z] at h h2
        exact .inr ⟨z, h, h2, fun y => np ⟨j, cj, fj, h, y ▸ h2⟩⟩
    intro j k cj fj ck fk q h1 h2 h3 h4
    rcases g h1 h3 with ⟨a1, b1⟩ | ⟨a1, b1, c1, d1⟩
    · rcases g h2 h4 with ⟨a2, b2⟩ | ⟨a2, b2, c2, d2⟩
      · exact a1 ▸ a2
      · exact (d2 b1).elim
    · rcases g h2 h4 with ⟨a2, b2⟩ | ⟨a2, b2, c2, d2⟩
      · exact (d1 b2).elim
      · exact r.inj j k _ _ _ _ q b1 b2 c1 c2
  · rcases ow' a z with z | z
    · exact (r.pin a (List.mem_cons_of_mem _ ha)).2 z
    · exact hP (z ▸ ha)
  · by_cases z : i = j
    · subst z
      rw [List.getElem?_set_self hi] at h'
      cases h'
    · rw [List.getElem?_set_ne z] at h'
      obtain ⟨v', d', h1, h2, h3⟩ := r.im j fj h'
      exact ⟨v', d', by rw [List.getElem?_set_ne z]; exact h1, by rw [List.getElem?_set_ne z]; exact h2, key h3⟩
  · by_cases z : i = j
    · subst z
      rw [List.getElem?_set_self hi] at h'
      cases h'
      exact ⟨p, d, by rw [List.getElem?_set_self (by rw [r.lσ]; exact hi)], by rw [List.getElem?_set_self (by rw [r.lρ]; exact hi)], h0, h.map (fun o e => e) fun _ _ x => key x⟩
    · rw [List.getElem?_set_ne z] at h'
      obtain ⟨q, d', h1, h2, h3, h4⟩ := r.ow j cj fj h'
      exact ⟨q, d', by rw [List.getElem?_set_ne z]; exact h1, by rw [List.getElem?_set_ne z]; exact h2, h3, h4.map (fun u x => x) fun _ _ x => key x⟩
  · by_cases z : i = j
    · subst z
      rw [List.getElem?_set_self hi] at h'
      cases h'
      rw [hc] at ha
      cases ha
    · rw [List.getElem?_set_ne z] at h'
      obtain ⟨q, h1, h2⟩ := r.ar j cj fj h' ha
      exact ⟨q, h1, by rw [List.getElem?_set_ne z]; exact h2⟩
end
section
variable {K : PySem.W.Frag} {W : Wt} {Δ Δn Δb Δc : List Kd} {ta tb te : TE} {tt tu : TT} {tA : TA} {g : Gd} {ga gb gx : Gx} {gt gu : List Dt → O (Bool × List Dt)} {gA : List Dt → O (List Dt × List Dt)} {k : Rk} {av fr av' fr' : Bool} {L : Lk} {i : Nat} {t u : TS} {g1 g2 : Gs}
theorem SX.of (h : SE K W0 Δ te (.v av fr) g) : SX K Δ te (.v av fr) (xP g) := fun f ρ σ H Q r q => h f ρ σ H Q r <| by
  unfold xP at q
  cases e : g ρ with
  | bad => rw [e] at q; exact q.elim
  | ex z => rw [e] at q; exact q.elim
  | ok d => rw [e] at q; exact fun v H' s x => q v H' (r.mono s) x
theorem SX.ofN {c : Ct} (h : SE K W0 Δ te (.new c fr) g) : SX K Δ te (.new c fr) (xP g) := fun f ρ σ H Q r q => h f ρ σ H Q r <| by
  unfold xP at q
  cases e : g ρ with
  | bad => rw [e] at q; exact q.elim
  | ex z => rw [e] at q; exact q.elim
  | ok d =>
    rw [e] at q
    intro p H' np s x
    obtain ⟨f1, f2, f3⟩ := r.fresh np
    refine q p H' (r.pinNew np s x.mutb) f2 f3 (x.map (fun _ e => e) fun _ _ y => y.weak fun a fa => ⟨fun _ => ⟨(fa.1.1 rfl).1, fun z => ?_⟩, fa.1.2⟩)
    rcases List.mem_cons.mp z with z | z
    · exact fa.2 z
    · exact (fa.1.1 rfl).2 z
theorem SXA.of {gA : List Dt → O (List Dt)} (h : SA K W0 Δ tA av fr gA) : SXA K Δ tA av fr (xPA gA) := fun f ρ σ H Q r q => h f ρ σ H Q r <| by
  unfold xPA at q
  cases e : gA ρ with
  | bad => rw [e] at q; exact q.elim
  | ex z => rw [e] at q; exact q.elim
  | ok d => rw [e] at q; exact fun v H' s x => q v H' (r.mono s) x
theorem SXT.of {gt : List Dt → O Bool} (h : ST K W0 Δ tt gt) : SXT K Δ tt (xPT gt) := fun f ρ σ H Q r q => h f ρ σ H Q r <| by
  unfold xPT at q
  cases e : gt ρ with
  | bad => rw [e] at q; exact q.elim
  | ex z => rw [e] at q; exact q.elim
  | ok d => rw [e] at q; exact fun H' s => q H' (r.mono s)
theorem SX.wk (h : SX K Δ te (.v av fr) gx) (h1 : av' = true → av = true := by decide) (h2 : fr' = true → fr = true := by decide) : SX K Δ te (.v av' fr') gx := fun f ρ σ H Q r q => h f ρ σ H Q r <| by
  cases e : gx ρ with
  | bad => rw [e] at q; exact q.elim
  | ex z => rw [e] at q; exact q.elim
  | ok d => rw [e] at q; exact fun v H' s x => q v H' s (x.fm h1 h2)
theorem SX.nv (h : SX K Δ te (.new .l fr) gx) : SX K Δ te (.v true fr) gx := fun f ρ σ H Q r q => h f ρ σ H Q r <| by
  cases e : gx ρ with
  | bad => rw [e] at q; exact q.elim
  | ex z => rw [e] at q; exact q.elim
  | ok d =>
    rw [e] at q
    intro p H' r' hP h0 x
    obtain ⟨vs, ds, ed, hp, x⟩ := x
    have no := (r'.pin p List.mem_cons_self).2
    have q : ∀ v H', R K f Δ d.2 σ H' → Rp K (FM f Δ σ true fr) H' v d.1 → Q v H' := q
    rw [ed] at q
    exact q _ H' r'.dropP (.lst hp ⟨fun _ => ⟨no, hP⟩, fun _ => r'.g0 p h0⟩ (x.weak fun a fa => ⟨fun _ => ⟨(fa.1 rfl).1, fun z => (fa.1 rfl).2 (List.mem_cons_of_mem _ z)⟩, fa.2⟩))
theorem bnd_inv' {α β : Type} {x : O α} {k : α → O β} {P : O β → Prop} (hb : ¬ P .bad) (he : ∀ e, ¬ P (.ex e)) (h : P (bnd x k)) : ∃ a, x = .ok a ∧ P (k a) := by
  cases x with
  | bad => exact (hb h).elim
  | ex e => exact (he e h).elim
  | ok a => exact ⟨a, rfl, h⟩
theorem sx_op {r : R2} {h : Dt → Dt → O Dt} (hs : Scl2 h) (ho : OSc K r h) (ha : SX K Δ ta (.v true fr) ga) (hb : SX K Δ tb (.v av' fr') gb) : SX K Δ (tOp r ta tb) (.v true true) (xOp h ga gb) := fun f ρ σ H Q R q => by
  refine ha f ρ σ H _ R ?_
  unfold xOp at q
  obtain ⟨⟨d, ρ1⟩, e1, q⟩ := bnd_inv' (P := fun o => PoX K f Δ σ (.v true true) o Q) id (fun _ => id) q
  rw [e1]
  intro v H1 R1 x1
  have R1' := R1.addG (fr := fr) (.cons x1 .nil)
  refine hb _ ρ1 σ H1 _ R1' ?_
  obtain ⟨⟨d2, ρ2⟩, e2, q⟩ := bnd_inv' (P := fun o => PoX K f Δ σ (.v true true) o Q) id (fun _ => id) q
  have e2 : gb ρ1 = _ := e2
  rw [e2]
  intro v2 H2 R2 x2
  have x1' : Rp K (FM f Δ σ true fr) H2 v d := by
    cases R2.gh _ List.mem_cons_self with
    | cons h _ => exact h
  have q : PoX K f Δ σ (.v true true) (bnd (h d d2) fun z => .ok (z, ρ2)) Q := q
  refine ho H2 v v2 d d2 Q (x1'.weak fun _ _ => trivial) (x2.weak fun _ _ => trivial) ?_
  rcases hs d d2 with ⟨z, ez, sz⟩ | ez
  · rw [ez] at q ⊢
    exact ⟨sz, fun w x => q w H2 R2.dropG (x.scl_any sz)⟩
  · rw [ez] at q
    exact q.elim
theorem sxa_nil : SXA K Δ tNil true true xNil := fun f ρ σ H Q r q => q [] H r .nil
theorem sxa_cons (ha : SX K Δ ta (.v true fr) ga) (hr : SXA K Δ tA true fr' gA) : SXA K Δ (tCons ta tA) true (fr && fr') (xCons ga gA) := fun f ρ σ H Q R q => by
  refine ha f ρ σ H _ R ?_
  unfold xCons at q
  obtain ⟨⟨d, ρ1⟩, e1, q⟩ := bnd_inv' (P := fun o => PoXA K f Δ σ true (fr && fr') o Q) id (fun _ => id) q
  rw [e1]
  intro v H1 R1 x1
  have R1' := R1.addG (fr := fr) (.cons x1 .nil)
  refine hr _ ρ1 σ H1 _ R1' ?_
  obtain ⟨⟨ds, ρ2⟩, e2, q⟩ := bnd_inv' (P := fun o => PoXA K f Δ σ true (fr && fr') o Q) id (fun _ => id) q
  have e2 : gA ρ1 = _ := e2
  rw [e2]
  intro vs H2 R2 x2
  have x1' : Rp K (FM f Δ σ true fr) H2 v d := by
    cases R2.gh _ List.mem_cons_self with
    | cons h _ => exact h
  exact q (v :: vs) H2 R2.dropG (.cons (x1'.fm id fun h => (Bool.and_eq_true_iff.mp h).1) (x2.weak fun _ y => y.weak id fun h => (Bool.and_eq_true_iff.mp h).2))
theorem SXA.wk (h : SXA K Δ tA av fr gA) (h1 : av' = true → av = true := by decide) (h2 : fr' = true → fr = true := by decide) : SXA K Δ tA av' fr' gA := fun f ρ σ H Q r q => h f ρ σ H Q r <| by
  cases e : gA ρ with
  | bad => rw [e] at q; exact q.elim
  | ex z => rw [e] at q; exact q.elim
  | ok d => rw [e] at q; exact fun v H' s x => q v H' s (x.weak fun _ y => y.weak h1 h2)
theorem sx_lst (ha : SXA K Δ tA true fr gA) : SX K Δ (tLst tA) (.new .l fr) (xLst gA) := fun f ρ σ H Q R q => by
  refine ha f ρ σ H _ R ?_
  unfold xLst at q
  obtain ⟨⟨ds, ρ1⟩, e1, q⟩ := bnd_inv' (P := fun o => PoX K f Δ σ (.new .l fr) o Q) id (fun _ => id) q
  rw [e1]
  intro vs H1 R1 x1
  simp only at q
  by_cases l : ds.length ≤ 100000
  · rw [if_pos l] at q
    refine ⟨by rw [x1.length]; exact sz_le l, fun p np => ?_⟩
    obtain ⟨f1, f2, f3⟩ := R1.fresh np
    exact q p _ (R1.pinNew np (same_upd np) ⟨_, upd_same, trivial⟩) f2 f3 ⟨vs, ds, rfl, upd_same, x1.mono (same_upd np) fun a fa na => ⟨fun _ => ⟨(fa.1 rfl).1, fun z => by
      rcases List.mem_cons.mp z with e | h
      · exact na (e ▸ np)
      · exact (fa.1 rfl).2 h⟩, fa.2⟩⟩
  · rw [if_neg l] at q
    exact q.elim
theorem rix_of {F : Addr → Prop} {H : Hp} {v v2 : V} {d d2 z : Dt} {Q : VK} (x : Rp K F H v d) (x2 : Rp K (fun _ => True) H v2 d2) (h : hIx d d2 = .ok z) (q : ∀ w, Rp K F H w z → Q w H) : rIx K v v2 H Q := by
  unfold hIx at h
  split at h
  · split at h
    · rename_i z hz
      cases h
      obtain ⟨a, xs, rfl, hs, r⟩ := x.sql
      obtain ⟨w, hw, rw'⟩ := r.ixN hz
      rw [rpInt x2]
      exact .inl ⟨a, xs, _, w, rfl, rfl, hs, hw, q w rw'⟩
    · cases h
  · split at h
    · rename_i z hz
      cases h
      obtain ⟨a, xs, rfl, hs, r⟩ := x.sqt
      obtain ⟨w, hw, rw'⟩ := r.ixN hz
      rw [rpInt x2]
      exact .inr (.inl ⟨a, xs, _, w, rfl, rfl, hs, hw, q w rw'⟩)
    · cases h
  · split at h
    · rename_i hl
      split at h
      · rename_i c hc
        cases h
        rw [rpInt x2]
        cases x
        exact .inr (.inr ⟨_, _, c, rfl, rfl, sz_le hl, hc, q _ (.str _)⟩)
      · cases h
    · cases h
  · cases h
theorem sx_ix (ha : SX K Δ ta (.v true fr) ga) (hb : SX K Δ tb (.v av' fr') gb) : SX K Δ (tOp (rIx K) ta tb) (.v true fr) (xOp hIx ga gb) := fun f ρ σ H Q R q => by
  refine ha f ρ σ H _ R ?_
  unfold xOp at q
  obtain ⟨⟨d, ρ1⟩, e1, q⟩ := bnd_inv' (P := fun o => PoX K f Δ σ (.v true fr) o Q) id (fun _ => id) q
  rw [e1]
  intro v H1 R1 x1
  have R1' := R1.addG (fr := fr) (.cons x1 .nil)
  refine hb _ ρ1 σ H1 _ R1' ?_
  obtain ⟨⟨d2, ρ2⟩, e2, q⟩ := bnd_inv' (P := fun o => PoX K f Δ σ (.v true fr) o Q) id (fun _ => id) q
  have e2 : gb ρ1 = _ := e2
  rw [e2]
  intro v2 H2 R2 x2
  have x1' : Rp K (FM f Δ σ true fr) H2 v d := by
    cases R2.gh _ List.mem_cons_self with
    | cons h _ => exact h
  obtain ⟨z, ez, q⟩ := bnd_inv' (P := fun o => PoX K f Δ σ (.v true fr) o Q) id (fun _ => id) q
  exact rix_of x1' (x2.weak fun _ _ => trivial) ez fun w y => q w H2 R2.dropG y
theorem sx_ixO (hk : Δ[i]? = some (.own .l fr)) (hb : SX K Δ tb (.v av' fr') gb) : SX K Δ (tOp (rIx K) (tVar i) tb) (.v true fr) (xIxO i gb) := fun f ρ σ H Q R q => by
  obtain ⟨p, d0, h1, _, _, _⟩ := R.ow i .l fr hk
  refine ⟨_, h1, hb f ρ σ H _ R ?_⟩
  unfold xIxO at q
  obtain ⟨⟨d2, ρ2⟩, e2, q⟩ := bnd_inv' (P := fun o => PoX K f Δ σ (.v true fr) o Q) id (fun _ => id) q
  rw [e2]
  intro v2 H2 R2 x2
  obtain ⟨p', d, h1', h2, h3, vs, ds, ed, h4, h5⟩ := R2.ow i .l fr hk
  rw [h1] at h1'
  cases h1'
  subst ed
  simp only [h2] at q
  obtain ⟨z, ez, q2⟩ := bnd_inv' (P := fun o => PoX K f Δ σ (.v true fr) o Q) id (fun _ => id) q
  clear q
  unfold hIx at ez
  cases d2 with
  | int i' =>
    simp only at ez
    cases ea : L2.atI ds i' with
    | none => rw [ea] at ez; cases ez
    | some z' =>
      rw [ea] at ez
      cases ez
      obtain ⟨w, hw, rw'⟩ := h5.ixN ea
      rw [rpInt x2]
      exact .inl ⟨p, vs, _, w, rfl, rfl, .inl (.inl h4), hw, q2 w H2 R2 rw'⟩
  | _ => cases ez
theorem sxt_test (ha : SX K Δ te (.v av fr) gx) : SXT K Δ (tTest te) (xTest gx) := fun f ρ σ H Q R q => by
  refine ha f ρ σ H _ R ?_
  unfold xTest at q
  obtain ⟨⟨d, ρ1⟩, e1, q⟩ := bnd_inv' (P := fun o => PoXT K f Δ σ o Q) id (fun _ => id) q
  rw [e1]
  intro v H1 R1 x1
  obtain ⟨b, eb, q⟩ := bnd_inv' (P := fun o => PoXT K f Δ σ o Q) id (fun _ => id) q
  cases d with
  | bool b' =>
    cases eb
    cases x1
    exact ⟨b, rfl, q H1 R1⟩
  | _ => cases eb
theorem sxt_not (h : SXT K Δ tt gt) : SXT K Δ (tNot tt) (xNot gt) := fun f ρ σ H Q R q => by
  refine h f ρ σ H _ R ?_
  unfold xNot at q
  obtain ⟨⟨b, ρ1⟩, e1, q⟩ := bnd_inv' (P := fun o => PoXT K f Δ σ o Q) id (fun _ => id) q
  rw [e1]
  exact q
theorem sxt_and (h : SXT K Δ tt gt) (h2 : SXT K Δ tu gu) : SXT K Δ (tAnd tt tu) (xAnd gt gu) := fun f ρ σ H Q R q => by
  refine h f ρ σ H _ R ?_
  unfold xAnd at q
  obtain ⟨⟨b, ρ1⟩, e1, q⟩ := bnd_inv' (P := fun o => PoXT K f Δ σ o Q) id (fun _ => id) q
  rw [e1]
  intro H1 R1
  cases b with
  | false => exact q H1 R1
  | true => exact h2 f ρ1 σ H1 Q R1 q
theorem sxt_or (h : SXT K Δ tt gt) (h2 : SXT K Δ tu gu) : SXT K Δ (tOr tt tu) (xOr gt gu) := fun f ρ σ H Q R q => by
  refine h f ρ σ H _ R ?_
  unfold xOr at q
  obtain ⟨⟨b, ρ1⟩, e1, q⟩ := bnd_inv' (P := fun o => PoXT K f Δ σ o Q) id (fun _ => id) q
  rw [e1]
  intro H1 R1
  cases b with
  | true => exact q H1 R1
  | false => exact h2 f ρ1 σ H1 Q R1 q
theorem sx_callN {mg : Str → Option Value} {n : Nat} {g : List Dt → O Dt} (h : SXA K Δ tA av fr gA) : SX K Δ (tCall (spG K mg n g) [] E0 tA) (.v true true) (xCallN n g gA) := fun f ρ σ H Q r q => h f ρ σ H _ r <| by
  unfold xCallN at q
  obtain ⟨⟨ds, ρ1⟩, e1, q⟩ := bnd_inv' (P := fun o => PoX K f Δ σ (.v true true) o Q) id (fun _ => id) q
  rw [e1]
  intro vs H1 r1 x1
  simp only at q
  by_cases hn : ds.length = n
  · rw [if_pos hn] at q
    rw [List.append_nil]
    refine ⟨ds, by rw [x1.length]; exact hn, x1.weak fun _ _ => trivial, ?_⟩
    cases e2 : g ds with
    | bad => rw [e2] at q; exact q.elim
    | ex z => rw [e2] at q; exact q.elim
    | ok d =>
      rw [e2] at q
      intro v H2 s2 x2
      refine q v H2 (r1.mono s2) (x2.weak fun a na => ?_)
      obtain ⟨f1, f2, f3⟩ := r1.fresh na
      exact ⟨fun _ => ⟨f1, f2⟩, fun _ => r1.g0 a f3⟩
  · rw [if_neg hn] at q
    exact q.elim
def argOf : Ct → Ct
  | .l => .la
  | .dk => .ka
  | c => c
def spM (K : PySem.W.Frag) (c : Ct) (n : Nat) (g : List Dt → O Dt) : Sp := fun vs H Q _ => ∃ a vs' d ds', vs = .ref a :: vs' ∧ vs.length = n ∧ argK c d = true ∧ ArgAt K H a d ∧ RpA K (fun b => b ≠ a) H vs' ds' ∧ (match g (d :: ds') with
  | .ok (.tuple [r, e]) => ∀ v H', (∀ b o, b ≠ a → H b = some o → H' b = some o) → ArgAt K H' a e → Rp K (fun b => H b = none) H' v r → Q v H'
  | _ => False)
def spML (K : PySem.W.Frag) (c : Ct) (n : Nat) (g : List Dt → O Dt) : Sp := fun vs H Q _ => ∃ a vs' d ds', vs = .ref a :: vs' ∧ vs.length = n ∧ argK c d = true ∧ ArgAt K H a d ∧ RpA K (fun b => b ≠ a) H vs' ds' ∧ (match g (d :: ds') with
  | .ok (.tuple [r, e]) => ∀ p H', p ≠ a → H p = none → (∀ b o, b ≠ a → H b = some o → H' b = some o) → ArgAt K H' a e → OwC K .l (fun b => H b = none ∧ b ≠ p) H' p r → Q (.ref p) H'
  | _ => False)
theorem argAt_of {c c' : Ct} {F : Addr → Prop} {H : Hp} {p : Addr} {d : Dt} (hc : argOf c' = c) (h : OwC K c' F H p d) (ha : argK c d = true) : ArgAt K H p d := by
  subst hc
  cases c' with
  | l => obtain ⟨vs, ds, rfl, h1, h2⟩ := h; exact ⟨ha, vs, h1, sclA_any h2 ha⟩
  | la => obtain ⟨vs, ds, rfl, h1, h2⟩ := h; exact ⟨ha, vs, h1, sclA_any h2 ha⟩
  | dk => obtain ⟨vs, ds, rfl, h1, h2⟩ := h; exact ⟨ha, vs, h1, sclV_any h2 ha⟩
  | ka => obtain ⟨vs, ds, rfl, h1, h2⟩ := h; exact ⟨ha, vs, h1, sclV_any h2 ha⟩
  | dt => cases ha
theorem owC_of {c c' : Ct} {F : Addr → Prop} {H : Hp} {p : Addr} {d : Dt} (hc : argOf c' = c) (h : ArgAt K H p d) (ha : argK c d = true) : ∃ o, H p = some o ∧ Mutb o ∧ ∀ H2 : Hp, H2 p = some o → OwC K c' F H2 p d := by
  subst hc
  cases c' with
  | l => cases d with
    | list es => obtain ⟨s, ws, h1, h2⟩ := h; exact ⟨_, h1, trivial, fun H2 e => ⟨ws, es, rfl, e, sclA_any h2 s⟩⟩
    | _ => cases ha
  | la => cases d with
    | list es => obtain ⟨s, ws, h1, h2⟩ := h; exact ⟨_, h1, trivial, fun H2 e => ⟨ws, es, rfl, e, sclA_any h2 s⟩⟩
    | _ => cases ha
  | dk => cases d with
    | dict es => obtain ⟨s, ws, h1, h2⟩ := h; exact ⟨_, h1, trivial, fun H2 e => ⟨ws, es, rfl, e, sclV_any h2 s⟩⟩
    | _ => cases ha
  | ka => cases d with
    | dict es => obtain ⟨s, ws, h1, h2⟩ := h; exact ⟨_, h1, trivial, fun H2 e => ⟨ws, es, rfl, e, sclV_any h2 s⟩⟩
    | _ => cases ha
  | dt => cases ha
theorem R.argNew {f : Fm} {ρ : List Dt} {σ : L2.St} {H H' : Hp} {c c' : Ct} {p : Addr} {e : Dt} (r : R K f Δ ρ σ H) (hk : Δ[i]? = some (.own c' fr)) (hs : σ[i]? = some (some (V.ref p))) (hc : argOf c' = c) (keep : ∀ b o, b ≠ p → H b = some o → H' b = some o) (h : ArgAt K H' p e) (ha : argK c e = true) :
    R K f Δ (ρ.set i e) σ H' := by
  obtain ⟨o, ho, mo, hw⟩ := owC_of (F := FM f Δ σ true fr) hc h ha
  have r1 := r.updOwn (o' := o) hk hs mo (fr' := fr) (c' := c') (hw _ upd_same) (fun h => h)
  have eΔ : Δ.set i (.own c' fr) = Δ := by
    apply List.ext_getElem?
    intro j
    by_cases z : i = j
    · subst z
      rw [List.getElem?_set_self (List.getElem?_eq_some_iff.mp hk).1, hk]
    · rw [List.getElem?_set_ne z]
  rw [eΔ] at r1
  refine r1.mono fun b u e => ?_
  by_cases z : b = p
  · subst z
    rw [upd_same] at e
    cases e
    exact ho
  · rw [upd_ne z] at e
    exact keep b u z e
def PoB (K : PySem.W.Frag) (σ : L2.St) (i : Nat) (H : Hp) (o : O (List Dt)) (Q : List V → Hp → Prop) : Prop := match o with
  | .ok ds => ∀ vs H', Same H H' → RpA K (fun b => σ[i]? ≠ some (some (V.ref b))) H' vs ds → Q vs H'
  | _ => False
def SB (K : PySem.W.Frag) (Δ : List Kd) (i : Nat) (ta : TA) (g : List Dt → O (List Dt)) : Prop := ∀ f ρ σ H Q, R K f Δ ρ σ H → PoB K σ i H (g ρ) Q → ta σ H Q
def PoXB (K : PySem.W.Frag) (f : Fm) (Δ : List Kd) (σ : L2.St) (i : Nat) (o : O (List Dt × List Dt)) (Q : List V → Hp → Prop) : Prop := match o with
  | .ok (ds, ρ') => ∀ vs H', R K f Δ ρ' σ H' → RpA K (fun b => σ[i]? ≠ some (some (V.ref b))) H' vs ds → Q vs H'
  | _ => False
def SXB (K : PySem.W.Frag) (Δ : List Kd) (i : Nat) (ta : TA) (g : List Dt → O (List Dt × List Dt)) : Prop := ∀ f ρ σ H Q, R K f Δ ρ σ H → PoXB K f Δ σ i (g ρ) Q → ta σ H Q
theorem sb_nil : SB K Δ i tNil gNil := fun f ρ σ H Q R q => q [] H (Same.refl H) .nil
theorem sb_cons {ga : Gd} {gA : List Dt → O (List Dt)} {c' : Ct} (hk : Δ[i]? = some (.own c' fr')) (ha : SE K W0 Δ ta (.v true fr) ga) (hr : SB K Δ i tA gA) : SB K Δ i (tCons ta tA) (gCons ga gA) := fun f ρ σ H Q R q => by
  refine ha f ρ σ H _ R ?_
  unfold gCons at q
  obtain ⟨d, e1, q⟩ := bnd_inv' (P := fun o => PoB K σ i H o Q) id (fun _ => id) q
  rw [e1]
  intro v H1 s1 x1
  refine hr f ρ σ H1 _ (R.mono s1) ?_
  obtain ⟨ds, e2, q⟩ := bnd_inv' (P := fun o => PoB K σ i H o Q) id (fun _ => id) q
  rw [e2]
  intro vs H2 s2 x2
  exact q (v :: vs) H2 (s1.trans s2) (.cons ((x1.same s2).weak fun a fa z => (fa.1 rfl).1 ⟨i, c', fr', hk, z⟩) x2)
theorem sb_own {gA : List Dt → O (List Dt)} {c' : Ct} {j : Nat} (hj : Δ[j]? = some (.own .l fr)) (hk : Δ[i]? = some (.own c' fr')) (hij : i ≠ j) (hr : SB K Δ i tA gA) : SB K Δ i (tCons (tVar j) tA) (gCons (gVar j) gA) := fun f ρ σ H Q R q => by
  obtain ⟨p, d, h1, h2, h3, vs0, ds0, ed, h4, h5⟩ := R.ow j .l fr hj
  refine ⟨_, h1, ?_⟩
  unfold gCons gVar at q
  rw [h2, bnd_ok] at q
  refine hr f ρ σ H _ R ?_
  obtain ⟨ds, e2, q⟩ := bnd_inv' (P := fun o => PoB K σ i H o Q) id (fun _ => id) q
  rw [e2]
  intro vs H2 s2 x2
  subst ed
  refine q _ H2 s2 (.cons (.lst (s2 _ _ h4) (fun z => hij (R.inj i j _ _ _ _ p hk hj z h1)) ((h5.same s2).weak fun a fa z => (fa.1 rfl).1 ⟨i, c', fr', hk, z⟩)) x2)
theorem sxb_of {gA : List Dt → O (List Dt)} (h : SB K Δ i tA gA) : SXB K Δ i tA (xPA gA) := fun f ρ σ H Q r q => h f ρ σ H Q r <| by
  unfold xPA at q
  cases e : gA ρ with
  | bad => rw [e] at q; exact q.elim
  | ex z => rw [e] at q; exact q.elim
  | ok d => rw [e] at q; exact fun v H' s x => q v H' (r.mono s) x
theorem sxb_a {c' : Ct} (hk : Δ[i]? = some (.own c' fr')) (h : SXA K Δ tA true fr gA) : SXB K Δ i tA gA := fun f ρ σ H Q r q => h f ρ σ H Q r <| by
  cases e : gA ρ with
  | bad => rw [e] at q; exact q.elim
  | ex z => rw [e] at q; exact q.elim
  | ok d => rw [e] at q; exact fun v H' r' x => q v H' r' (x.weak fun a fa z => (fa.1 rfl).1 ⟨i, c', fr', hk, z⟩)
theorem sx_callM {c c' : Ct} {n : Nat} {g : List Dt → O Dt} (hk : Δ[i]? = some (.own c' fr')) (hc : argOf c' = c) (h : SXB K Δ i tA gA) : SX K Δ (tCall (spM K c n g) [] E0 (tCons (tVar i) tA)) (.v true true) (xCallM c n g i gA) := fun f ρ σ H Q r q => by
  obtain ⟨p, d0, h1, _, _, _⟩ := r.ow i c' fr' hk
  refine ⟨_, h1, h f ρ σ H _ r ?_⟩
  unfold xCallM at q
  obtain ⟨⟨ds, ρ1⟩, e1, q⟩ := bnd_inv' (P := fun o => PoX K f Δ σ (.v true true) o Q) id (fun _ => id) q
  rw [e1]
  intro vs H1 r1 x1
  obtain ⟨p', d, h1', h2, h3, h4⟩ := r1.ow i c' fr' hk
  rw [h1] at h1'
  cases h1'
  simp only at q
  by_cases hn : ds.length + 1 = n
  · rw [if_pos hn, h2] at q
    simp only at q
    by_cases ha : argK c d = true
    · rw [if_pos ha] at q
      rw [List.append_nil]
      refine ⟨p, vs, d, ds, rfl, by rw [List.length_cons, x1.length]; exact hn, ha, argAt_of hc h4 ha, x1.weak fun b fb z => fb (z ▸ h1), ?_⟩
      cases e2 : g (d :: ds) with
      | bad => rw [e2] at q; exact q.elim
      | ex z => rw [e2] at q; exact q.elim
      | ok z =>
        rw [e2] at q
        split at q
        · rename_i r' e ez
          cases ez
          by_cases hae : argK c e = true
          · rw [if_pos hae] at q
            intro v H' keep arg x2
            refine q v H' (r1.argNew hk h1 hc keep arg hae) (x2.weak fun b nb => ?_)
            obtain ⟨f1, f2, f3⟩ := r1.fresh nb
            exact ⟨fun _ => ⟨f1, f2⟩, fun _ => r1.g0 b f3⟩
          · rw [if_neg hae] at q
            exact q.elim
        · exact q.elim
    · rw [if_neg ha] at q
      exact q.elim
  · rw [if_neg hn] at q
    exact q.elim
theorem sx_callML {c c' : Ct} {n : Nat} {g : List Dt → O Dt} (hk : Δ[i]? = some (.own c' fr')) (hc : argOf c' = c) (h : SXB K Δ i tA gA) : SX K Δ (tCall (spML K c n g) [] E0 (tCons (tVar i) tA)) (.new .l true) (xCallM c n g i gA) := fun f ρ σ H Q r q => by
  obtain ⟨p, d0, h1, _, _, _⟩ := r.ow i c' fr' hk
  refine ⟨_, h1, h f ρ σ H _ r ?_⟩
  unfold xCallM at q
  obtain ⟨⟨ds, ρ1⟩, e1, q⟩ := bnd_inv' (P := fun o => PoX K f Δ σ (.new .l true) o Q) id (fun _ => id) q
  rw [e1]
  intro vs H1 r1 x1
  obtain ⟨p', d, h1', h2, h3, h4⟩ := r1.ow i c' fr' hk
  rw [h1] at h1'
  cases h1'
  simp only at q
  by_cases hn : ds.length + 1 = n
  · rw [if_pos hn, h2] at q
    simp only at q
    by_cases ha : argK c d = true
    · rw [if_pos ha] at q
      rw [List.append_nil]
      refine ⟨p, vs, d, ds, rfl, by rw [List.length_cons, x1.length]; exact hn, ha, argAt_of hc h4 ha, x1.weak fun b fb z => fb (z ▸ h1), ?_⟩
      cases e2 : g (d :: ds) with
      | bad => rw [e2] at q; exact q.elim
      | ex z => rw [e2] at q; exact q.elim
      | ok z =>
        rw [e2] at q
        split at q
        · rename_i r' e ez
          cases ez
          by_cases hae : argK c e = true
          · rw [if_pos hae] at q
            intro l H' nla nl keep arg x2
            obtain ⟨f1, f2, f3⟩ := r1.fresh nl
            -- the state without the new list, then with it
            obtain ⟨o, ho, mo, hw⟩ := owC_of (F := FM f Δ σ true fr') hc arg hae
            have nlp : l ≠ p := nla
            have r2 : R K f Δ (ρ1.set i e) σ (upd H1 p o) := r1.argNew hk h1 hc (fun b u nb eb => by rw [upd_ne nb]; exact eb) (by
              cases e with
              | list es => obtain ⟨s, ws, w1, w2⟩ := arg; rw [ho] at w1; cases w1; exact ⟨s, ws, upd_same, sclA_any w2 s⟩
              | dict es => obtain ⟨s, ws, w1, w2⟩ := arg; rw [ho] at w1; cases w1; exact ⟨s, ws, upd_same, sclV_any w2 s⟩
              | _ => exact arg.elim) hae
            have s2 : Same (upd H1 p o) H' := fun b u eb => by
              by_cases z : b = p
              · subst z
                rw [upd_same] at eb
                cases eb
                exact ho
              · rw [upd_ne z] at eb
                exact keep b u z eb
            refine q l H' (r2.pinNew (by rw [upd_ne nlp]; exact nl) s2 x2.mutb) f2 f3 (x2.map (fun _ e => e) fun _ _ y => y.weak fun b nb => ?_)
            obtain ⟨g1, g2, g3⟩ := r1.fresh nb.1
            exact ⟨fun _ => ⟨g1, fun z => by
              rcases List.mem_cons.mp z with z | z
              · exact nb.2 z
              · exact g2 z⟩, fun _ => r1.g0 b g3⟩
          · rw [if_neg hae] at q
            exact q.elim
        · exact q.elim
    · rw [if_neg ha] at q
      exact q.elim
  · rw [if_neg hn] at q
    exact q.elim
theorem bx_inv {α β : Type} {x : O α} {k : α → O β} {P : O β → Prop} (hb : ¬ P .bad) (h : P (bx x k)) : ∃ a, x = .ok a ∧ P (k a) := by
  cases x with
  | bad => exact (hb h).elim
  | ex e => exact (hb h).elim
  | ok a => exact ⟨a, rfl, h⟩
theorem s_setX (hi : i < Δ.length) (h : SX K Δ te (.v true fr) gx) : SS K W L Δ (Δ.set i (.im fr)) Δb Δc (tAsg te (gName i)) (xSet i gx) := fun f ρ σ H E r q => h f ρ σ H _ r <| by
  obtain ⟨⟨d, ρ1⟩, e1, q⟩ := bx_inv (P := fun o => PoS K W L f _ Δb Δc o E) id q
  rw [e1]
  exact fun v H' r' x => q _ H' (r'.setIm hi x)
theorem s_setOX {c : Ct} (hi : i < Δ.length) (h : SX K Δ te (.new c fr) gx) (hc : isArg c = false := by rfl) : SS K W L Δ (Δ.set i (.own c fr)) Δb Δc (tAsg te (gName i)) (xSet i gx) := fun f ρ σ H E r q => h f ρ σ H _ r <| by
  obtain ⟨⟨d, ρ1⟩, e1, q⟩ := bx_inv (P := fun o => PoS K W L f _ Δb Δc o E) id q
  rw [e1]
  exact fun p H' r' hP h0 x => q _ H' (r'.setOwnP hi h0 hP x hc)
theorem s_asgX {gg : TG} {sl : List Nat} {n : Nat} {hh : Dt → List Dt → O (List Dt)} {TK : Bool → List Kd → List Kd} (hn : Δ.length = n) (h : SX K Δ te (.v true fr) gx) (hg : GJ K n gg sl hh TK) : SS K W L Δ (TK fr Δ) Δb Δc (tAsg te gg) (xAsg gx hh) := fun f ρ σ H E r q => h f ρ σ H _ r <| by
  obtain ⟨⟨d, ρ1⟩, e1, q⟩ := bx_inv (P := fun o => PoS K W L f _ Δb Δc o E) id q
  rw [e1]
  intro v H' r' x
  refine hg f Δ ρ1 σ H' v d fr _ hn r' x ?_
  simp only at q
  cases e2 : hh d ρ1 with
  | bad => rw [e2] at q; exact q.elim
  | ex z => rw [e2] at q; exact q.elim
  | ok ρ' =>
    rw [e2] at q
    exact fun σ' t => q σ' H' t.r
theorem s_ifX (h : SXT K Δ tt gt) (h1 : SS K W L Δ Δn Δb Δc t g1) (h2 : SS K W L Δ Δn Δb Δc u g2) : SS K W L Δ Δn Δb Δc (tIfS tt t u) (xIfS gt g1 g2) := fun f ρ σ H E r q => h f ρ σ H _ r <| by
  obtain ⟨⟨b, ρ1⟩, e1, q⟩ := bx_inv (P := fun o => PoS K W L f _ Δb Δc o E) id q
  rw [e1]
  intro H1 r1
  cases b with
  | true => exact h1 f ρ1 σ H1 E r1 q
  | false => exact h2 f ρ1 σ H1 E r1 q
theorem argAt_ow {c : Ct} {F : Addr → Prop} {H : Hp} {p : Addr} {e : Dt} (hc : isArg c = true) (h : OwC K c F H p e) (ha : argD e = true) : ArgAt K H p e := by
  cases c with
  | la => obtain ⟨vs, ds, rfl, h1, h2⟩ := h; exact ⟨ha, vs, h1, sclA_any h2 ha⟩
  | ka => obtain ⟨vs, ds, rfl, h1, h2⟩ := h; exact ⟨ha, vs, h1, sclV_any h2 ha⟩
  | _ => cases hc
theorem s_retM {c : Ct} {fr0 : Bool} (hk : Δ[0]? = some (.own c fr0)) (hc : isArg c = true) (h : SX K Δ te (.v true true) gx) : SS K W .m Δ Δn Δb Δc (tRet te) (xRetM gx) := fun f ρ σ H E r q => h f ρ σ H _ r <| by
  obtain ⟨⟨d, ρ1⟩, e1, q⟩ := bx_inv (P := fun o => PoS K W .m f _ Δb Δc o E) id q
  rw [e1]
  intro v H' r' x
  obtain ⟨p, hA, hs⟩ := r'.ar 0 c fr0 hk hc
  obtain ⟨p', e, hs', h2, h3, h4⟩ := r'.ow 0 c fr0 hk
  rw [hs] at hs'
  cases hs'
  simp only [h2] at q
  by_cases ha : argD e = true
  · rw [if_pos ha] at q
    unfold PoS at q
    simp only [hA] at q
    refine q v H' r'.ext ?_ (x.weak fun a fa => ⟨fa.2 rfl, fun z => (fa.1 rfl).1 (z ▸ ⟨0, c, fr0, hk, hs⟩)⟩)
    exact argAt_ow hc h4 ha
  · rw [if_neg ha] at q
    exact q.elim
def xRetMO (i : Nat) : Gs := fun ρ => match ρ[i]?, ρ[0]? with
  | some d, some e => if argD e then .ok (.rt (.tuple [d, e])) else .bad
  | _, _ => .bad
theorem s_retMO {c : Ct} {fr0 : Bool} (hk : Δ[0]? = some (.own c fr0)) (hc : isArg c = true) (hi : Δ[i]? = some (.own .l true)) : SS K W .ml Δ Δn Δb Δc (tRet (tVar i)) (xRetMO i) := fun f ρ σ H E r q => by
  obtain ⟨p, hA, hs⟩ := r.ar 0 c fr0 hk hc
  obtain ⟨p', e, hs', h2, h3, h4⟩ := r.ow 0 c fr0 hk
  rw [hs] at hs'
  cases hs'
  obtain ⟨l, d, g1, g2, g3, g4⟩ := r.ow i .l true hi
  have n0 : i ≠ 0 := fun z => by
    subst z
    rw [hk] at hi
    cases hi
    cases hc
  have nl : l ≠ p := fun z => n0 (r.inj i 0 _ _ _ _ p hi hk (z ▸ g1) hs)
  unfold xRetMO at q
  simp only [g2, h2] at q
  by_cases ha : argD e = true
  · rw [if_pos ha] at q
    unfold PoS at q
    simp only [hA] at q
    refine ⟨_, g1, q l H nl g3 r.ext ?_ (g4.map (fun _ e => e) fun _ _ y => y.weak fun a fa => ⟨⟨fa.2 rfl, fun z => (fa.1 rfl).1 (z ▸ ⟨0, c, fr0, hk, hs⟩)⟩, fun z => (fa.1 rfl).1 (z ▸ ⟨i, .l, true, hi, g1⟩)⟩)⟩
    exact argAt_ow hc h4 ha
  · rw [if_neg ha] at q
    exact q.elim
end
end Sim
end T_SimM
section T_SimN
set_option Elab.async false
set_option linter.all false
set_option maxRecDepth 100000
namespace Sim
open PySem PySem.Spec L2
open PyProof.Rows hiding St
def xRng1 (g : List Dt → O (List Dt × List Dt)) : List Dt → O (List Dt × List Dt) := fun ρ => bx (g ρ) fun x => match rng1 x.1 with
  | some (lo, hi) => .ok (rangeD lo hi, x.2)
  | none => .bad
section
variable {K : PySem.W.Frag} {f : Fm} {Δ : List Kd} {ρ ρ' : List Dt} {σ σ' : L2.St} {H H' : Hp} {p : Addr} {d : Dt} {i : Nat}
end
section
variable {K : PySem.W.Frag} {W : Wt} {Δ Δn Δb Δc : List Kd} {ta tb te ti : TE} {tt tu : TT} {tA : TA} {g : Gd} {ga gb gx : Gx} {gA : List Dt → O (List Dt × List Dt)} {k : Rk} {av fr av' fr' : Bool} {L : Lk} {i : Nat} {t u : TS} {g1 g2 : Gs}
theorem s_forX {gg : TG} {sl : List Nat} {n : Nat} {hh : Dt → List Dt → O (List Dt)} {TK : Bool → List Kd → List Kd} (hn : Δ.length = n) (h : SXA K Δ tA av fr gA) (hg : GJ K n gg sl hh TK) (hb : SS K W L (TK true Δ) Δ Δ Δ t g1) :
    SS K W L Δ Δ Δb Δc (tFor (iRng1 tA) gg t) (xFor (xRng1 gA) hh g1) := fun f ρ σ H E r q => by
  refine h f ρ σ H _ r ?_
  obtain ⟨⟨ds, ρ1⟩, e1, q⟩ := bx_inv (P := fun o => PoS K W L f _ Δb Δc o E) id q
  obtain ⟨⟨vs, ρ0⟩, e2, e1⟩ := bx_inv (P := fun o => o = .ok (ds, ρ1)) (fun z => nomatch z) e1
  rw [e2]
  intro ws H1 r1 x1
  simp only at e1
  split at e1
  · rename_i lo hi er
    cases e1
    unfold rng1 at er
    split at er
    · split at er
      · rename_i j c
        injection er with er
        rw [Prod.mk.injEq] at er
        obtain ⟨ea, eb⟩ := er
        subst ea eb
        cases x1 with
        | cons x1 xr =>
          cases xr
          rw [rpInt x1]
          refine ⟨j, rfl, c.1, c.2, ?_⟩
          have key := s_for (W := W) (Δb := Δb) (Δc := Δc) (wi := fun σ H Rk => Rk (Itr 0 (j - 0).toNat) H) (gI := fun _ => .ok (rangeD 0 j)) (fr := true) hn
            (fun f' ρ' σ' H' Rk r' q' => q' _ H' none [] [] (Same.refl H') (fun _ => rfl) (fun _ e => nomatch e) .nil sc_range) hg hb f ρ1 σ H1 E r1 q
          have key : tFor (fun σ H Rk => Rk (Itr 0 (j - 0).toNat) H) gg t E σ H1 := key
          rw [Int.sub_zero] at key
          exact key
      · cases er
    · cases er
  · cases e1
theorem se_ownA (hk : Δ[i]? = some (.own .la fr)) : SE K W Δ (tVar i) (.o fr) (gVar i) := fun f ρ σ H Q r q => by
  obtain ⟨p, d, h1, h2, h3, vs, ds, e, h4, h5⟩ := r.ow i .la fr hk
  subst e
  unfold gVar at q
  rw [h2] at q
  exact ⟨_, h1, q p H vs ds rfl (Same.refl H) h4 (r.g0 p h3) h5⟩
theorem s_setIA {ge gi : Gd} (hk : Δ[i]? = some (.own .la fr)) (h : SE K W Δ te (.v true fr') ge) (h2 : SE K W Δ ti (.v av av') gi) : SS K W L Δ (Δ.set i (.own .la (fr && fr'))) Δb Δc (tAsg te (gSub (tVar i) ti rSetL)) (gSetI i ge gi) := fun f ρ σ H E r q => h f ρ σ H _ r <| by
  obtain ⟨p, d, g1, g2, g3, vs, ds, ed, g4, g5⟩ := r.ow i .la fr hk
  subst ed
  unfold gSetI at q
  cases e : ge ρ with
  | bad => rw [e] at q; exact q
  | ex z => rw [e] at q; exact fun H' s => q σ H' (r.ext.trans s)
  | ok d =>
    rw [e, bnd_ok, g2] at q
    simp only at q
    intro v H1 s x
    refine ⟨_, g1, h2 f ρ σ H1 _ (r.mono s) ?_⟩
    cases e2 : gi ρ with
    | bad => rw [e2] at q; exact q
    | ex z => rw [e2] at q; exact fun H' s2 => q σ H' ((r.ext.trans s).trans s2)
    | ok k =>
      rw [e2, bnd_ok] at q
      intro kv H2 s2 xk
      cases k with
      | int k =>
        simp only at q
        cases ej : ixN ds.length k with
        | none => rw [ej] at q; exact q.elim
        | some j =>
          rw [ej] at q
          rw [rpInt xk]
          have s12 := s.trans s2
          have hp := s12 _ _ g4
          refine ⟨p, vs, k, j, rfl, rfl, hp, by rw [g5.length]; exact ej, q σ _ ?_⟩
          refine (r.mono s12).updOwn hk g1 (c' := .la) (show Mutb (.lst _) from trivial) ⟨_, _, rfl, upd_same, ?_⟩
          have nf : ∀ {fr : Bool} (a : Addr), FM f Δ σ true fr a → a ≠ p := fun a fa z => (fa.1 rfl).1 (z ▸ ⟨i, .la, _, hk, g1⟩)
          exact RpA.set ((Rp.updM hp trivial (fun a fa => nf a fa) (x.same s2)).weak fun a y => y.weak id fun h => (Bool.and_eq_true_iff.mp h).2) j
            (((g5.same s12).updM hp trivial fun a fa => nf a fa).weak fun a y => y.weak id fun h => (Bool.and_eq_true_iff.mp h).1)
      | _ => exact q.elim
end
def kdM (c : Ct) (n m : Nat) : List Kd := .own c true :: (List.replicate (n - 1) (.im false) ++ List.replicate (m - n) .no)
theorem r_startM {K : PySem.W.Frag} {H : Hp} {a : Addr} {vs : List V} {d : Dt} {ds : List Dt} {c : Ct} {n m : Nat} {N : List Str} (hv : vs.length + 1 = n) (hN : N.length = m) (hm : n ≤ m) (hc : isArg c = true) (ha : argK c d = true) (hd : ArgAt K H a d) (x : RpA K (fun b => b ≠ a) H vs ds) :
    R K ⟨fun b => if b = a then none else H b, fun b => H b = none ∨ b = a, [], [], some a, [], fun _ h => nomatch h⟩ (kdM c n m) ((d :: ds) ++ List.replicate (m - (d :: ds).length) .none) (L2.start N (.ref a :: vs)) H := by
  have ld : ds.length + 1 = n := by rw [← x.length]; exact hv
  have hn1 : n - 1 = vs.length := by omega
  have own0 : ∀ (i : Nat) (c' : Ct) (fr' : Bool), (kdM c n m)[i]? = some (.own c' fr') → i = 0 ∧ c' = c ∧ fr' = true := fun i c' fr' e => by
    cases i with
    | zero => cases e; exact ⟨rfl, rfl, rfl⟩
    | succ i =>
      unfold kdM at e
      rw [List.getElem?_cons_succ] at e
      rcases List.mem_append.mp (List.mem_of_getElem? e) with h | h
      · cases List.eq_of_mem_replicate h
      · cases List.eq_of_mem_replicate h
  have s0 : (L2.start N (.ref a :: vs))[0]? = some (some (V.ref a)) := rfl
  have ow : ∀ b, Ow (kdM c n m) (L2.start N (.ref a :: vs)) b → b = a := fun b ⟨i, c', fr', h1, h2⟩ => by
    obtain ⟨rfl, _, _⟩ := own0 i c' fr' h1
    rw [s0] at h2
    cases h2
    rfl
  obtain ⟨o, ho, mo, hw⟩ := owC_of (c' := c) (F := FM ⟨fun b => if b = a then none else H b, fun b => H b = none ∨ b = a, [], [], some a, [], fun _ h => nomatch h⟩ (kdM c n m) (L2.start N (.ref a :: vs)) true true) (by cases c <;> first | rfl | cases hc) hd ha
  have noSl0 : ∀ (i : Nat) (t : Bool), (kdM c n m)[i]? ≠ some (.sl t) := fun i t e => by
    cases i with
    | zero => cases e
    | succ i =>
      unfold kdM at e
      rw [List.getElem?_cons_succ] at e
      rcases List.mem_append.mp (List.mem_of_getElem? e) with h | h
      · cases List.eq_of_mem_replicate h
      · cases List.eq_of_mem_replicate h
  refine ⟨fun b u e => ?_, fun b e => ?_, ?_, ?_, ?_, fun b hb => absurd hb (by simp), fun g hg => absurd hg (by simp), fun i fr' h => ?_, fun i c' fr' h => ?_, fun i c' fr' h h' => ?_, fun a ha => (nomatch ha), fun i t h => absurd h (noSl0 i t)⟩
  · have e : (if b = a then none else H b) = some u := e
    by_cases z : b = a
    · rw [if_pos z] at e; cases e
    · rw [if_neg z] at e; exact e
  · have e : (if b = a then none else H b) = none := e
    by_cases z : b = a
    · exact .inr z
    · rw [if_neg z] at e; exact .inl e
  · unfold L2.start kdM
    simp only [List.length_append, List.length_map, List.length_replicate, List.length_cons, hN]
    omega
  · unfold kdM
    simp only [List.length_append, List.length_replicate, List.length_cons]
    omega
  · intro i j ci fi cj fj p h1 h2 _ _
    obtain ⟨rfl, _, _⟩ := own0 i ci fi h1
    obtain ⟨rfl, _, _⟩ := own0 j cj fj h2
    rfl
  · cases i with
    | zero => cases h
    | succ i =>
      unfold kdM at h
      rw [List.getElem?_cons_succ] at h
      by_cases hi : i < n - 1
      · rw [List.getElem?_append_left (by rw [List.length_replicate]; exact hi)] at h
        have efr : fr' = false := by
          have := List.eq_of_mem_replicate (List.mem_of_getElem? h)
          cases this; rfl
        subst efr
        have hi' : i < vs.length := by omega
        obtain ⟨d', h1, h2⟩ := x.get (List.getElem?_eq_getElem hi')
        refine ⟨vs[i], d', ?_, ?_, h2.weak fun b nb => ⟨fun _ => ⟨fun z => nb (ow b z), by simp⟩, fun e => nomatch e⟩⟩
        · unfold L2.start
          rw [List.getElem?_append_left (by rw [List.length_map, List.length_cons]; omega), List.getElem?_map, List.getElem?_cons_succ, List.getElem?_eq_getElem hi']
          rfl
        · rw [List.cons_append, List.getElem?_cons_succ, List.getElem?_append_left (by omega)]
          exact h1
      · rw [List.getElem?_append_right (by rw [List.length_replicate]; omega)] at h
        cases List.eq_of_mem_replicate (List.mem_of_getElem? h)
  · obtain ⟨rfl, rfl, rfl⟩ := own0 i c' fr' h
    exact ⟨a, d, s0, rfl, if_pos rfl, hw _ ho⟩
  · obtain ⟨rfl, rfl, rfl⟩ := own0 i c' fr' h
    exact ⟨a, rfl, s0⟩
section
variable {P : Program} {w : World} {K : PySem.W.Frag} {mg : Str → Option Value} {base : Heap} {x qual : Str} {st : Stmt} {fa : Addr} {fd : FuncData} {N ps : List Str} {k n m : Nat} {Δn : List Kd} {g : Gs} {c : Ct}
theorem fn_okM (F : L2.Fun K x qual st fa fd) (S : FnScope N ps (defScope st)) (hn : ps.length = n) (hm : N.length = m) (hnm : n ≤ m) (hc : isArg c = true)
    (hb : ∀ (cdv : Value) (A : Around) (outer : List Env) (s : Shared) (H : Hp) (E : XK), Room k (A.deeper (envOfC qual (defScope st) s.heap.objs.size fa cdv)) → ∃ ts, BD (cxOf CX0 P w K mg base N qual (defScope st) fa cdv A outer s H E).nox K W0 .m (kdM c n m) Δn (kdM c n m) (kdM c n m) (defBody st) ts g) :
    FnOk P w K mg base CX0 (k + 1) fa fd ps (spM K c n (fnN m g)) := by
  refine F.ok S (fun vs H Q E h => ?_) (fun cdv A outer s H vs Q E hr h => ?_)
  · obtain ⟨a, vs', d, ds', rfl, h1, _⟩ := h
    rw [h1, hn]
  · obtain ⟨a, vs', d, ds', rfl, h1, h2, h3, h4, h5⟩ := h
    obtain ⟨ts, B⟩ := hb cdv A outer s H E hr
    refine ⟨ts, B.ps, B.ss _ _ _ H _ (r_startM (by rw [List.length_cons] at h1; exact h1) hm hnm hc h2 h3 h4) ?_⟩
    unfold fnN at h5
    cases e : g ((d :: ds') ++ List.replicate (m - (d :: ds').length) .none) with
    | bad => rw [e] at h5; exact h5.elim
    | ex z => rw [e] at h5; exact h5.elim
    | ok fl =>
      rw [e] at h5
      cases fl with
      | nx ρ => exact h5.elim
      | rt z =>
        unfold PoS
        simp only
        have h5 : (match (O.ok z : O Dt) with
          | .ok (.tuple [r, e]) => ∀ v H', (∀ b o, b ≠ a → H b = some o → H' b = some o) → ArgAt K H' a e → Rp K (fun b => H b = none) H' v r → Q v H'
          | _ => False) := h5
        split at h5
        · rename_i r e ez
          cases ez
          simp only
          refine fun v H' s arg x => h5 v H' (fun b o nb eb => s b o ?_) arg (x.weak fun b fb => ?_)
          · show (if b = a then none else H b) = some o
            rw [if_neg nb]
            exact eb
          · rcases fb.1 with q | q
            · exact q
            · exact absurd q fb.2
        · exact h5.elim
      | bk ρ => exact h5.elim
      | ct ρ => exact h5.elim
theorem fn_okML (F : L2.Fun K x qual st fa fd) (S : FnScope N ps (defScope st)) (hn : ps.length = n) (hm : N.length = m) (hnm : n ≤ m) (hc : isArg c = true)
    (hb : ∀ (cdv : Value) (A : Around) (outer : List Env) (s : Shared) (H : Hp) (E : XK), Room k (A.deeper (envOfC qual (defScope st) s.heap.objs.size fa cdv)) → ∃ ts, BD (cxOf CX0 P w K mg base N qual (defScope st) fa cdv A outer s H E).nox K W0 .ml (kdM c n m) Δn (kdM c n m) (kdM c n m) (defBody st) ts g) :
    FnOk P w K mg base CX0 (k + 1) fa fd ps (spML K c n (fnL m g)) := by
  refine F.ok S (fun vs H Q E h => ?_) (fun cdv A outer s H vs Q E hr h => ?_)
  · obtain ⟨a, vs', d, ds', rfl, h1, _⟩ := h
    rw [h1, hn]
  · obtain ⟨a, vs', d, ds', rfl, h1, h2, h3, h4, h5⟩ := h
    obtain ⟨ts, B⟩ := hb cdv A outer s H E hr
    refine ⟨ts, B.ps, B.ss _ _ _ H _ (r_startM (by rw [List.length_cons] at h1; exact h1) hm hnm hc h2 h3 h4) ?_⟩
    unfold fnL at h5
    cases e : g ((d :: ds') ++ List.replicate (m - (d :: ds').length) .none) with
    | bad => rw [e] at h5; exact h5.elim
    | ex z => rw [e] at h5; exact h5.elim
    | ok fl =>
      rw [e] at h5
      cases fl with
      | nx ρ => exact h5.elim
      | rt z =>
        unfold PoS
        simp only
        have h5 : (match (O.ok z : O Dt) with
          | .ok (.tuple [r, e]) => ∀ p H', p ≠ a → H p = none → (∀ b o, b ≠ a → H b = some o → H' b = some o) → ArgAt K H' a e → OwC K .l (fun b => H b = none ∧ b ≠ p) H' p r → Q (.ref p) H'
          | _ => False) := h5
        split at h5
        · rename_i r e ez
          cases ez
          simp only
          refine fun p H' npa np s arg x => h5 p H' npa ?_ (fun b o nb eb => s b o ?_) arg (x.map (fun _ e => e) fun _ _ y => y.weak fun b fb => ⟨?_, fb.2⟩)
          · have np : (if p = a then none else H p) = none := np
            rw [if_neg npa] at np
            exact np
          · show (if b = a then none else H b) = some o
            rw [if_neg nb]
            exact eb
          · rcases fb.1.1 with q | q
            · exact q
            · exact absurd q fb.1.2
        · exact h5.elim
      | bk ρ => exact h5.elim
      | ct ρ => exact h5.elim
end
end Sim
end T_SimN
section T_SimO
set_option Elab.async false
set_option linter.all false
set_option maxRecDepth 100000
namespace Sim
open PySem PySem.Spec L2
open PyProof.Rows hiding St
def hAbs : List Dt → O Dt := fun ds => match ds with
  | [.int i] => .ok (.int (if i < 0 then -i else i))
  | _ => .bad
section
variable {K : PySem.W.Frag} {W : Wt} {Δ : List Kd} {ti tx : TE} {gk gx : Gd} {fr fr' fr2 av av2 : Bool} {i : Nat}
theorem csc_abs : CSc K (fun xs H Q => ∃ i, xs = [.int i] ∧ Q (.int (if i < 0 then -i else i)) H) hAbs := fun H xs ds Q hx h => by
  cases hx with
  | nil => exact h.elim
  | cons x r =>
    cases r with
    | nil =>
      cases x with
      | int i => exact ⟨i, rfl, h.2 _ (.int _)⟩
      | _ => exact h.elim
    | cons y r => cases x <;> exact h.elim
theorem scl_abs : SclA hAbs := fun ds => by
  unfold hAbs
  split
  · exact .inl ⟨_, rfl, rfl⟩
  · exact .inr rfl
end
def xPur (g : Gx) : Gx := fun ρ => bx (g ρ) fun x => if pure1 x.1 then .ok x else .bad
theorem SX.pur {K : PySem.W.Frag} {Δ : List Kd} {te : TE} {gx : Gx} {av fr : Bool} (h : SX K Δ te (.v av fr) gx) : SX K Δ te (.v true true) (xPur gx) := fun f ρ σ H Q r q => h f ρ σ H Q r <| by
  obtain ⟨⟨d, ρ1⟩, e1, q⟩ := bx_inv (P := fun o => PoX K f Δ σ (.v true true) o Q) id q
  rw [e1]
  intro v H' r' x
  by_cases p : pure1 d = true
  · simp only [p, if_true] at q
    exact q v H' r' (x.pure p)
  · simp only [p, if_false] at q
    exact q.elim
structure XD (X : Cx) (K : PySem.W.Frag) (Δ : List Kd) (e : Expr) (te : TE) (k : Rk) (g : Gx) : Prop where
  pe : PE X e te
  hK : X.K = K
  sx : SX K Δ te k g
structure XTD (X : Cx) (K : PySem.W.Frag) (Δ : List Kd) (e : Expr) (tt : TT) (g : List Dt → O (Bool × List Dt)) : Prop where
  pt : PT X e tt
  hK : X.K = K
  st : SXT K Δ tt g
structure XWD (X : Cx) (K : PySem.W.Frag) (Δ : List Kd) (e : Expr) (tt : TT) (g : List Dt → O (Bool × List Dt)) : Prop where
  pw : PW X e tt
  hK : X.K = K
  st : SXT K Δ tt g
structure XAD (X : Cx) (K : PySem.W.Frag) (Δ : List Kd) (es : List Expr) (ta : TA) (av fr : Bool) (g : List Dt → O (List Dt × List Dt)) : Prop where
  pa : PA X es ta
  hK : X.K = K
  sa : SXA K Δ ta av fr g
structure BDp (X : Cx) (K : PySem.W.Frag) (Δ : List Kd) (i : Nat) (es : List Expr) (ta : TA) (g : List Dt → O (List Dt)) : Prop where
  pa : PA X es ta
  hK : X.K = K
  sb : SB K Δ i ta g
structure XBD (X : Cx) (K : PySem.W.Frag) (Δ : List Kd) (i : Nat) (es : List Expr) (ta : TA) (g : List Dt → O (List Dt × List Dt)) : Prop where
  pa : PA X es ta
  hK : X.K = K
  sb : SXB K Δ i ta g
section
variable {X : Cx} {K : PySem.W.Frag} {W : Wt} {Δ Δ1 Δn Δb Δc : List Kd} {a b c e f elt tg iter : Expr} {es ifs : List Expr} {ta tb tc te ti tx : TE} {tt tu : TT} {tA : TA} {g gk gx0 ge gi : Gd} {ga gb gx : Gx} {gt0 : List Dt → O Bool} {gt gu : List Dt → O (Bool × List Dt)} {gA : List Dt → O (List Dt × List Dt)} {gA0 gI : List Dt → O (List Dt)} {k : Rk} {av fr av' fr' av2 fr2 : Bool} {L : Lk} {pos pos' : Pos} {t u : TS} {g1 g2 : Gs} {sts sts2 : List Stmt} {i : Nat}
theorem x_abs {x : Str} {p : Pos} (hm : X.mg x = none) (h : AD X K W Δ (e :: es) tA av fr gA0) (hv : bootBuiltins x = some (.builtin "abs") := by decide +kernel) (hg : Gl X x := by rfl) (hn : x ≠ "__name__" := by decide) (hdb : (x == ("__debug__" : Str)) = false := by decide)
    (he : starEach (e :: es) X.env = (false, eval e X.env) :: starEach es X.env := by rfl) (hpl : (backTo pos (starEach es X.env)).any (·.1) = false := by rfl) :
    PD X K W Δ (.Call (.Name x p) (e :: es) [] pos) (tCB (fun xs H Q => ∃ i, xs = [.int i] ∧ Q (.int (if i < 0 then -i else i)) H) tA) (.v true true) (gCB hAbs gA0) := ⟨pe_callB call_abs hg hm hv h.pa hn hdb he hpl, h.hK, se_cb scl_abs csc_abs h.sa⟩
theorem xd_of (h : PD X K W0 Δ e te (.v av fr) g) : XD X K Δ e te (.v av fr) (xP g) := ⟨h.pe, h.hK, SX.of h.se⟩
theorem xd_ofN {ct : Ct} (h : PD X K W0 Δ e te (.new ct fr) g) : XD X K Δ e te (.new ct fr) (xP g) := ⟨h.pe, h.hK, SX.ofN h.se⟩
theorem XD.wk (h : XD X K Δ e te (.v av fr) gx) (h1 : av' = true → av = true := by decide) (h2 : fr' = true → fr = true := by decide) : XD X K Δ e te (.v av' fr') gx := ⟨h.pe, h.hK, h.sx.wk h1 h2⟩
theorem XD.pur (h : XD X K Δ e te (.v av fr) gx) : XD X K Δ e te (.v true true) (xPur gx) := ⟨h.pe, h.hK, h.sx.pur⟩
theorem XD.nv (h : XD X K Δ e te (.new .l fr) gx) : XD X K Δ e te (.v true fr) gx := ⟨h.pe, h.hK, h.sx.nv⟩
theorem xa_nil (hK : X.K = K := by rfl) : XAD X K Δ [] tNil true true xNil := ⟨pa_nil, hK, sxa_nil⟩
theorem xa_cons (ha : XD X K Δ a ta (.v true fr) ga) (hr : XAD X K Δ es tA true fr' gA) (hs : starEach (a :: es) X.env = (false, eval a X.env) :: starEach es X.env := by rfl) : XAD X K Δ (a :: es) (tCons ta tA) true (fr && fr') (xCons ga gA) := ⟨pa_cons ha.pe hr.pa hs, ha.hK, sxa_cons ha.sx hr.sa⟩
theorem XAD.to (av' fr' : Bool) (h : XAD X K Δ es tA av fr gA) (h1 : av' = true → av = true := by decide) (h2 : fr' = true → fr = true := by decide) : XAD X K Δ es tA av' fr' gA := ⟨h.pa, h.hK, h.sa.wk h1 h2⟩
theorem yb_nil (hK : X.K = K := by rfl) : BDp X K Δ i [] tNil gNil := ⟨pa_nil, hK, sb_nil⟩
theorem yb_cons {c' : Ct} {g0 : Gd} (ha : PD X K W0 Δ a ta (.v true fr) g0) (hr : BDp X K Δ i es tA gA0) (hk : Δ[i]? = some (.own c' fr') := by rfl) (hs : starEach (a :: es) X.env = (false, eval a X.env) :: starEach es X.env := by rfl) : BDp X K Δ i (a :: es) (tCons ta tA) (gCons g0 gA0) := ⟨pa_cons ha.pe hr.pa hs, ha.hK, sb_cons hk ha.se hr.sb⟩
theorem yb_own {c' : Ct} (j : Nat) {x : Str} {p : Pos} (hr : BDp X K Δ i es tA gA0) (hj : Δ[j]? = some (.own .l fr) := by rfl) (hk : Δ[i]? = some (.own c' fr') := by rfl) (hij : i ≠ j := by decide) (hN : X.N[j]? = some x := by rfl) (hv : Vis X.env.scope x := by first | exact Or.inl rfl | exact Or.inr (Or.inl rfl) | exact Or.inr (Or.inr rfl)) (hd : (x == ("__debug__" : Str)) = false := by decide)
    (hcd : (x == ("__classdict__" : Str)) = false := by decide) (hs : starEach (.Name x p :: es) X.env = (false, eval (.Name x p) X.env) :: starEach es X.env := by rfl) : BDp X K Δ i (.Name x p :: es) (tCons (tVar j) tA) (gCons (gVar j) gA0) := ⟨pa_cons (pe_var hN hv hd hcd) hr.pa hs, hr.hK, sb_own hj hk hij hr.sb⟩
theorem xb_p (h : BDp X K Δ i es tA gA0) : XBD X K Δ i es tA (xPA gA0) := ⟨h.pa, h.hK, sxb_of h.sb⟩
theorem xb_a {c' : Ct} (h : XAD X K Δ es tA true fr gA) (hk : Δ[i]? = some (.own c' fr') := by rfl) : XBD X K Δ i es tA gA := ⟨h.pa, h.hK, sxb_a hk h.sa⟩
theorem xd_add (ha : XD X K Δ a ta (.v true fr) ga) (hb : XD X K Δ b tb (.v av' fr') gb) : XD X K Δ (.BinOp a .Add b pos) (tOp (rI0 fun i j => .int (i + j)) ta tb) (.v true true) (xOp hAdd ga gb) := ⟨pe_op op_add ha.pe hb.pe, ha.hK, sx_op scl_I0 osc_I0 ha.sx hb.sx⟩
theorem xd_sub (ha : XD X K Δ a ta (.v true fr) ga) (hb : XD X K Δ b tb (.v av' fr') gb) : XD X K Δ (.BinOp a .Sub b pos) (tOp (rI0 fun i j => .int (i - j)) ta tb) (.v true true) (xOp hSub ga gb) := ⟨pe_op op_sub ha.pe hb.pe, ha.hK, sx_op scl_I0 osc_I0 ha.sx hb.sx⟩
theorem xt_cmp {op : CmpOp} {r : R2} {h : Dt → Dt → O Dt} (o : OR X K op r h) (ha : XD X K Δ a ta (.v true fr) ga) (hb : XD X K Δ b tb (.v av' fr') gb) (hm : behindInMarks op b = false := by first | exact nobehind _ (by decide) (by decide) | rfl) : XTD X K Δ (.Compare a [op] [b] pos) (tTest (tOp r ta tb)) (xTest (xOp h ga gb)) := ⟨pt_cmpR o.ho ha.pe hb.pe hm, ha.hK, sxt_test (sx_op o.scl o.osc ha.sx hb.sx)⟩
theorem xd_ix (ha : XD X K Δ a ta (.v true fr) ga) (hb : XD X K Δ b tb (.v av' fr') gb) (hs : PlainIx b := by exact fun _ _ => rfl) : XD X K Δ (.Subscript a b pos) (tOp (rIx K) ta tb) (.v true fr) (xOp hIx ga gb) :=
  ⟨pe_ix (by have q := ix_seq (X := X); rw [ha.hK] at q; exact q) ha.pe hb.pe hs, ha.hK, sx_ix ha.sx hb.sx⟩
theorem xd_ixO (i : Nat) {x : Str} {p : Pos} (hb : XD X K Δ b tb (.v av' fr') gb) (hk : Δ[i]? = some (.own .l fr) := by rfl) (hN : X.N[i]? = some x := by rfl) (hv : Vis X.env.scope x := by first | exact Or.inl rfl | exact Or.inr (Or.inl rfl) | exact Or.inr (Or.inr rfl)) (hd : (x == ("__debug__" : Str)) = false := by decide)
    (hcd : (x == ("__classdict__" : Str)) = false := by decide) (hs : PlainIx b := by exact fun _ _ => rfl) : XD X K Δ (.Subscript (.Name x p) b pos) (tOp (rIx K) (tVar i) tb) (.v true fr) (xIxO i gb) :=
  ⟨pe_ix (by have q := ix_seq (X := X); rw [hb.hK] at q; exact q) (pe_var hN hv hd hcd) hb.pe hs, hb.hK, sx_ixO hk hb.sx⟩
theorem xd_lst (h : XAD X K Δ es tA true fr gA) : XD X K Δ (.List es pos) (tLst tA) (.new .l fr) (xLst gA) := ⟨pe_lst h.pa, h.hK, sx_lst h.sa⟩
theorem xt_of (h : TD X K W0 Δ e tt gt0) : XTD X K Δ e tt (xPT gt0) := ⟨h.pt, h.hK, SXT.of h.st⟩
theorem xt_val (h : XD X K Δ e te (.v av fr) gx) (he : ∀ whole, isTrue e X.env whole = (do let v ← whole; standAt e.pos; holding [v] (truthy v)) := by intro _; rfl) : XTD X K Δ e (tB te) (xTest gx) := ⟨pt_val h.pe he, h.hK, sxt_test h.sx⟩
theorem xt_not (h : XTD X K Δ a tt gt) : XTD X K Δ (.UnaryOp .Not a pos) (tNot tt) (xNot gt) := ⟨pt_not h.pt, h.hK, sxt_not h.st⟩
theorem xw_and1 (h : XTD X K Δ a tt gt) : XWD X K Δ (.BoolOp .And [a] pos) tt gt := ⟨pw_and1 h.pt, h.hK, h.st⟩
theorem xw_or1 (h : XTD X K Δ a tt gt) : XWD X K Δ (.BoolOp .Or [a] pos) tt gt := ⟨pw_or1 h.pt, h.hK, h.st⟩
theorem xw_and (h : XTD X K Δ a tt gt) (h2 : XWD X K Δ (.BoolOp .And (b :: es) pos) tu gu) : XWD X K Δ (.BoolOp .And (a :: b :: es) pos) (tAnd tt tu) (xAnd gt gu) := ⟨pw_and h.pt h2.pw, h.hK, sxt_and h.st h2.st⟩
theorem xw_or (h : XTD X K Δ a tt gt) (h2 : XWD X K Δ (.BoolOp .Or (b :: es) pos) tu gu) : XWD X K Δ (.BoolOp .Or (a :: b :: es) pos) (tOr tt tu) (xOr gt gu) := ⟨pw_or h.pt h2.pw, h.hK, sxt_or h.st h2.st⟩
theorem xt_w (h : XWD X K Δ e tt gt) : XTD X K Δ e tt gt := ⟨h.pw.pt, h.hK, h.st⟩
theorem xd_callN {x : Str} {p : Pos} {CXT' : CXT} {kk nn : Nat} {fa : Addr} {fd : FuncData} {ps : List Str} {gg : List Dt → O Dt} {mg : Str → Option Value} (F : FnOk X.prog X.w X.K X.mg X.base CXT' kk fa fd ps (spG K mg nn gg)) (hr : Room kk X.A) (hm : X.mg x = some (.ref fa)) (hk : PySem.W.keepIn X.K (.ref fa) = true) (hb : Binds X.K fd ps [])
    (hx : Passes CXT' X E0) (h : XAD X K Δ (e :: es) tA av fr gA) (hg : Gl X x := by rfl) (hdb : (x == ("__debug__" : Str)) = false := by decide) (he : starEach (e :: es) X.env = (false, eval e X.env) :: starEach es X.env := by rfl) (hpl : (backTo pos (starEach es X.env)).any (·.1) = false := by rfl) :
    XD X K Δ (.Call (.Name x p) (e :: es) [] pos) (tCall (spG K mg nn gg) [] E0 tA) (.v true true) (xCallN nn gg gA) := ⟨pe_call F hr hg hm hk hb .nil hx h.pa hdb he hpl, h.hK, sx_callN h.sa⟩
theorem xd_callM (i : Nat) {ct c' : Ct} {x y : Str} {p py : Pos} {CXT' : CXT} {kk nn : Nat} {fa : Addr} {fd : FuncData} {ps : List Str} {gg : List Dt → O Dt} (F : FnOk X.prog X.w X.K X.mg X.base CXT' kk fa fd ps (spM K ct nn gg)) (hr : Room kk X.A) (hm : X.mg x = some (.ref fa)) (hk : PySem.W.keepIn X.K (.ref fa) = true) (hb : Binds X.K fd ps [])
    (hx : Passes CXT' X E0) (h : XBD X K Δ i es tA gA) (hi : Δ[i]? = some (.own c' fr') := by rfl) (hc : argOf c' = ct := by rfl) (hN : X.N[i]? = some y := by rfl) (hv : Vis X.env.scope y := by first | exact Or.inl rfl | exact Or.inr (Or.inl rfl) | exact Or.inr (Or.inr rfl)) (hd : (y == ("__debug__" : Str)) = false := by decide) (hcd : (y == ("__classdict__" : Str)) = false := by decide)
    (hg : Gl X x := by rfl) (hdb : (x == ("__debug__" : Str)) = false := by decide) (he : starEach (.Name y py :: es) X.env = (false, eval (.Name y py) X.env) :: starEach es X.env := by rfl) (hpl : (backTo pos (starEach es X.env)).any (·.1) = false := by rfl) :
    XD X K Δ (.Call (.Name x p) (.Name y py :: es) [] pos) (tCall (spM K ct nn gg) [] E0 (tCons (tVar i) tA)) (.v true true) (xCallM ct nn gg i gA) := ⟨pe_call F hr hg hm hk hb .nil hx (pa_cons (pe_var hN hv hd hcd) h.pa he) hdb he hpl, h.hK, sx_callM hi hc h.sb⟩
theorem xd_callML (i : Nat) {ct c' : Ct} {x y : Str} {p py : Pos} {CXT' : CXT} {kk nn : Nat} {fa : Addr} {fd : FuncData} {ps : List Str} {gg : List Dt → O Dt} (F : FnOk X.prog X.w X.K X.mg X.base CXT' kk fa fd ps (spML K ct nn gg)) (hr : Room kk X.A) (hm : X.mg x = some (.ref fa)) (hk : PySem.W.keepIn X.K (.ref fa) = true) (hb : Binds X.K fd ps [])
    (hx : Passes CXT' X E0) (h : XBD X K Δ i es tA gA) (hi : Δ[i]? = some (.own c' fr') := by rfl) (hc : argOf c' = ct := by rfl) (hN : X.N[i]? = some y := by rfl) (hv : Vis X.env.scope y := by first | exact Or.inl rfl | exact Or.inr (Or.inl rfl) | exact Or.inr (Or.inr rfl)) (hd : (y == ("__debug__" : Str)) = false := by decide) (hcd : (y == ("__classdict__" : Str)) = false := by decide)
    (hg : Gl X x := by rfl) (hdb : (x == ("__debug__" : Str)) = false := by decide) (he : starEach (.Name y py :: es) X.env = (false, eval (.Name y py) X.env) :: starEach es X.env := by rfl) (hpl : (backTo pos (starEach es X.env)).any (·.1) = false := by rfl) :
    XD X K Δ (.Call (.Name x p) (.Name y py :: es) [] pos) (tCall (spML K ct nn gg) [] E0 (tCons (tVar i) tA)) (.new .l true) (xCallM ct nn gg i gA) := ⟨pe_call F hr hg hm hk hb .nil hx (pa_cons (pe_var hN hv hd hcd) h.pa he) hdb he hpl, h.hK, sx_callML hi hc h.sb⟩
theorem x_ownA (i : Nat) {x : Str} (hk : Δ[i]? = some (.own .la fr) := by rfl) (hN : X.N[i]? = some x := by rfl) (hv : Vis X.env.scope x := by first | exact Or.inl rfl | exact Or.inr (Or.inl rfl) | exact Or.inr (Or.inr rfl)) (hd : (x == ("__debug__" : Str)) = false := by decide)
    (hcd : (x == ("__classdict__" : Str)) = false := by decide) (hK : X.K = K := by rfl) : PD X K W Δ (.Name x pos) (tVar i) (.o fr) (gVar i) := ⟨pe_var hN hv hd hcd, hK, se_ownA hk⟩
theorem z_setIA (i : Nat) {x : Str} {p : Pos} {ix : Expr} {sp : Pos} (h : PD X K W Δ e te (.v true fr') ge) (h2 : PD X K W Δ ix ti (.v av av') gi) (hk : Δ[i]? = some (.own .la fr) := by rfl) (hv : Vis X.env.scope x := by first | exact Or.inl rfl | exact Or.inr (Or.inl rfl) | exact Or.inr (Or.inr rfl)) (hN : X.N[i]? = some x := by rfl) (hd : (x == ("__debug__" : Str)) = false := by decide) (hcd : (x == ("__classdict__" : Str)) = false := by decide)
    (ha : ∀ v, assign (.Subscript (.Name x p) ix sp) X.env v = (do
      let ov ← holding [v] (eval (.Name x p) X.env)
      let iv ← holding [v, ov] (eval ix X.env)
      standAt sp
      holding [v, ov, iv] (setItem ov iv v)
      release [v, ov, iv] []) := by intro _; rfl) (hs : swapsWithSole [.Subscript (.Name x p) ix sp] e pos.line X.env = pure false := by rfl) (hw : swappedStores [.Subscript (.Name x p) ix sp] e X.env = pure none := by rfl)
    (h1 : (assignEach [.Subscript (.Name x p) ix sp] X.env).map (·.2) = [assign (.Subscript (.Name x p) ix sp) X.env] := by rfl) :
    SD X K W L Δ (Δ.set i (.own .la (fr && fr'))) Δb Δc (.Assign [.Subscript (.Name x p) ix sp] e pos) (tAsg te (gSub (tVar i) ti rSetL)) (gSetI i ge gi) := ⟨ps_asg h.pe (pg_sub (pe_var hN hv hd hcd) h2.pe set_list ha) hs hw h1, h.hK, s_setIA hk h.se h2.se⟩
theorem zx_set (i : Nat) {x : Str} (hN : X.N.Nodup) (h : XD X K Δ e te (.v true fr) gx) (hn : i < Δ.length := by decide) (hi : X.N[i]? = some x := by rfl) (hx : Loc X.env.scope x := by first | exact .inl rfl | exact .inr rfl) (hs : swapsWith e (some (.Name x pos')) pos.line X.env = pure false := by rfl) (hf : X.fn x = true ∨ X.env.scope.names.lookup x = some .local := by first | exact .inl rfl | exact .inr rfl) :
    SD X K W L Δ (Δ.set i (.im fr)) Δb Δc (.Assign [.Name x pos'] e pos) (tAsg te (gName i)) (xSet i gx) := ⟨ps_set hN hi hx h.pe hs hf, h.hK, s_setX hn h.sx⟩
theorem zx_setO (i : Nat) {x : Str} {ct : Ct} (hN : X.N.Nodup) (h : XD X K Δ e te (.new ct fr) gx) (hn : i < Δ.length := by decide) (hct : isArg ct = false := by rfl) (hi : X.N[i]? = some x := by rfl) (hx : Loc X.env.scope x := by first | exact .inl rfl | exact .inr rfl) (hs : swapsWith e (some (.Name x pos')) pos.line X.env = pure false := by rfl) (hf : X.fn x = true ∨ X.env.scope.names.lookup x = some .local := by first | exact .inl rfl | exact .inr rfl) :
    SD X K W L Δ (Δ.set i (.own ct fr)) Δb Δc (.Assign [.Name x pos'] e pos) (tAsg te (gName i)) (xSet i gx) := ⟨ps_set hN hi hx h.pe hs hf, h.hK, s_setOX hn h.sx hct⟩
theorem zx_asg {n : Nat} {gg : TG} {sl : List Nat} {hh : Dt → List Dt → O (List Dt)} {TK : Bool → List Kd → List Kd} (h : XD X K Δ e te (.v true fr) gx) (hg : GD X K n tg gg sl hh TK) (hn : Δ.length = n := by rfl) (hs : swapsWithSole [tg] e pos.line X.env = pure false := by rfl) (hw : swappedStores [tg] e X.env = pure none := by rfl)
    (h1 : (assignEach [tg] X.env).map (·.2) = [assign tg X.env] := by rfl) : SD X K W L Δ (TK fr Δ) Δb Δc (.Assign [tg] e pos) (tAsg te gg) (xAsg gx hh) := ⟨ps_asg h.pe hg.pg hs hw h1, h.hK, s_asgX hn h.sx hg.gj⟩
theorem zx_if (h : XTD X K Δ c tt gt) (h1 : BD X K W L Δ Δn Δb Δc sts t g1) (h2 : BD X K W L Δ Δn Δb Δc sts2 u g2) : SD X K W L Δ Δn Δb Δc (.If c sts sts2 pos) (tIfS tt t u) (xIfS gt g1 g2) := ⟨ps_if h.pt h1.ps h2.ps, h.hK, s_ifX h.st h1.ss h2.ss⟩
theorem zx_retM {ct : Ct} {fr0 : Bool} (h : XD X K Δ e te (.v true true) gx) (hk : Δ[0]? = some (.own ct fr0) := by rfl) (hc : isArg ct = true := by rfl) : SD X K W .m Δ Δn Δb Δc (.Return (some e) pos) (tRet te) (xRetM gx) := ⟨ps_ret h.pe, h.hK, s_retM hk hc h.sx⟩
theorem zx_retMO (i : Nat) {ct : Ct} {fr0 : Bool} {x : Str} {p : Pos} (hi : Δ[i]? = some (.own .l true) := by rfl) (hk : Δ[0]? = some (.own ct fr0) := by rfl) (hc : isArg ct = true := by rfl) (hN : X.N[i]? = some x := by rfl) (hv : Vis X.env.scope x := by first | exact Or.inl rfl | exact Or.inr (Or.inl rfl) | exact Or.inr (Or.inr rfl)) (hd : (x == ("__debug__" : Str)) = false := by decide)
    (hcd : (x == ("__classdict__" : Str)) = false := by decide) (hK : X.K = K := by rfl) : SD X K W .ml Δ Δn Δb Δc (.Return (some (.Name x p)) pos) (tRet (tVar i)) (xRetMO i) := ⟨ps_ret (pe_var hN hv hd hcd), hK, s_retMO hk hc hi⟩
theorem zx_for1 {n : Nat} {gg : TG} {sl : List Nat} {hh : Dt → List Dt → O (List Dt)} {TK : Bool → List Kd → List Kd} {p : Pos} (hp : PassesOwn (model X.prog X.w) X.A X.env X.xe) (hm : X.mg "range" = none) (h : XAD X K Δ [a] tA av fr gA) (hg : GD X K n tg gg sl hh TK) (hb : BD X K W L (TK true Δ) Δ Δ Δ sts t g1) (hn : Δ.length = n := by rfl) (hc : X.calm = true := by rfl)
    (hgl : Gl X "range" := by rfl) (hst : starEach [a] X.env = [(false, eval a X.env)] := by rfl) (hs : ∀ x, foldedSetIterable (.Call (.Name "range" p) [a] [] pos') X.env x = pure x := by intro _; rfl) : SD X K W L Δ Δ Δb Δc (.For tg (.Call (.Name "range" p) [a] [] pos') sts [] pos) (tFor (iRng1 tA) gg t) (xFor (xRng1 gA) hh g1) :=
  ⟨ps_for hp hc (pi_range1 hgl hm h.pa hst) hg.pg hb.ps hs, h.hK, s_forX hn h.sa hg.gj hb.ss⟩
end
theorem bx_ok {α β : Type} (a : α) (f : α → O β) : bx (.ok a) f = f a := rfl
theorem xP_def (g : Gd) (ρ : List Dt) : xP g ρ = bnd (g ρ) fun d => .ok (d, ρ) := rfl
theorem xPT_def (g : List Dt → O Bool) (ρ : List Dt) : xPT g ρ = bnd (g ρ) fun d => .ok (d, ρ) := rfl
theorem xOp_def (h : Dt → Dt → O Dt) (a b : Gx) (ρ : List Dt) : xOp h a b ρ = bnd (a ρ) fun x => bnd (b x.2) fun y => bnd (h x.1 y.1) fun z => .ok (z, y.2) := rfl
theorem xCons_def (a : Gx) (b : List Dt → O (List Dt × List Dt)) (ρ : List Dt) : xCons a b ρ = bnd (a ρ) fun x => bnd (b x.2) fun y => .ok (x.1 :: y.1, y.2) := rfl
theorem xTest_def (a : Gx) (ρ : List Dt) : xTest a ρ = bnd (a ρ) fun x => bnd (asB x.1) fun b => .ok (b, x.2) := rfl
theorem xNot_def (t : List Dt → O (Bool × List Dt)) (ρ : List Dt) : xNot t ρ = bnd (t ρ) fun x => .ok (!x.1, x.2) := rfl
theorem xAnd_def (t u : List Dt → O (Bool × List Dt)) (ρ : List Dt) : xAnd t u ρ = bnd (t ρ) fun x => if x.1 then u x.2 else .ok (false, x.2) := rfl
theorem xOr_def (t u : List Dt → O (Bool × List Dt)) (ρ : List Dt) : xOr t u ρ = bnd (t ρ) fun x => if x.1 then .ok (true, x.2) else u x.2 := rfl
theorem xIf_t {t : List Dt → O (Bool × List Dt)} {a b : Gs} {ρ ρ' : List Dt} (h : t ρ = .ok (true, ρ')) : xIfS t a b ρ = a ρ' := by unfold xIfS; rw [h]; rfl
theorem xIf_f {t : List Dt → O (Bool × List Dt)} {a b : Gs} {ρ ρ' : List Dt} (h : t ρ = .ok (false, ρ')) : xIfS t a b ρ = b ρ' := by unfold xIfS; rw [h]; rfl
theorem xset_ok {i : Nat} {g : Gx} {ρ ρ' : List Dt} {d : Dt} (h : g ρ = .ok (d, ρ')) : xSet i g ρ = .ok (.nx (ρ'.set i d)) := by unfold xSet; rw [h]; rfl
theorem xasg_ok {g : Gx} {h : Dt → List Dt → O (List Dt)} {ρ ρ1 ρ2 : List Dt} {d : Dt} (h1 : g ρ = .ok (d, ρ1)) (h2 : h d ρ1 = .ok ρ2) : xAsg g h ρ = .ok (.nx ρ2) := by
  unfold xAsg
  rw [h1, bx_ok, h2]
theorem xret_ok {g : Gx} {ρ ρ' : List Dt} {d e : Dt} (h : g ρ = .ok (d, ρ')) (h2 : ρ'[0]? = some e) (h3 : argD e = true) : xRetM g ρ = .ok (.rt (.tuple [d, e])) := by
  unfold xRetM
  rw [h, bx_ok]
  simp only [h2, h3, if_true]
theorem xretO_ok {i : Nat} {ρ : List Dt} {d e : Dt} (h : ρ[i]? = some d) (h2 : ρ[0]? = some e) (h3 : argD e = true) : xRetMO i ρ = .ok (.rt (.tuple [d, e])) := by
  unfold xRetMO
  simp only [h, h2, h3, if_true]
theorem xcallM_ok {c : Ct} {n : Nat} {g : List Dt → O Dt} {i : Nat} {gA : List Dt → O (List Dt × List Dt)} {ρ ρ' ds : List Dt} {a r e : Dt} (h1 : gA ρ = .ok (ds, ρ')) (h2 : ds.length + 1 = n) (h3 : ρ'[i]? = some a) (h4 : argK c a = true) (h5 : g (a :: ds) = .ok (.tuple [r, e])) (h6 : argK c e = true) :
    xCallM c n g i gA ρ = .ok (r, ρ'.set i e) := by
  unfold xCallM
  rw [h1, bnd_ok]
  simp only [h2, h3, h4, h5, h6, if_true]
theorem xcallN_ok {n : Nat} {g : List Dt → O Dt} {gA : List Dt → O (List Dt × List Dt)} {ρ ρ' ds : List Dt} {d : Dt} (h1 : gA ρ = .ok (ds, ρ')) (h2 : ds.length = n) (h3 : g ds = .ok d) : xCallN n g gA ρ = .ok (d, ρ') := by
  unfold xCallN
  rw [h1, bnd_ok]
  simp only [h2, h3, if_true]
theorem xfor_ok {gi : List Dt → O (List Dt × List Dt)} {h : Dt → List Dt → O (List Dt)} {b : Gs} {ρ ρ' ds : List Dt} {z : O Fl} (h1 : gi ρ = .ok (ds, ρ')) (h2 : forE h b ds ρ' = z) : xFor gi h b ρ = z := by unfold xFor; rw [h1, bx_ok, h2]
theorem xrng1_ok {g : List Dt → O (List Dt × List Dt)} {ρ ρ' : List Dt} {j : Int} (h : g ρ = .ok ([.int j], ρ')) (h1 : -4611686018427387904 ≤ j) (h2 : j < 4611686018427387904) : xRng1 g ρ = .ok (rangeD 0 j, ρ') := by
  unfold xRng1
  rw [h, bx_ok]
  unfold rng1
  simp only
  rw [if_pos (by constructor <;> omega)]
end Sim
end T_SimO
section T_SimQ
set_option Elab.async false
set_option linter.all false
set_option maxRecDepth 100000
namespace Sim
open PySem PySem.Spec L2
open PyProof.Rows hiding St
section
variable {K : PySem.W.Frag} {W : Wt} {Δ : List Kd}
end
section
variable {K : PySem.W.Frag} {W : Wt} {Δ : List Kd} {ta : TE} {tA : TA} {ga : Gd} {gA : List Dt → O (List Dt)} {fr fr' : Bool} {n : Nat} {g : List Dt → O Dt}
end
section
variable {X : Cx} {K : PySem.W.Frag} {W : Wt} {Δ : List Kd} {e : Expr} {es : List Expr} {ta : TE} {tA : TA} {ga : Gd} {gA : List Dt → O (List Dt)} {fr fr' : Bool} {pos : Pos}
end
end Sim
end T_SimQ
section T_SimR
set_option Elab.async false
set_option linter.all false
set_option maxRecDepth 100000
namespace Sim
open PySem PySem.Spec L2
open PyProof.Rows hiding St
section
variable {K : PySem.W.Frag} {W : Wt} {L : Lk} {Δ Δb Δc : List Kd} {te : TE} {g : Gd} {fr av fr' : Bool} {i : Nat}
end
section
variable {X : Cx} {K : PySem.W.Frag} {W : Wt} {Δ Δb Δc : List Kd} {e : Expr} {te : TE} {g : Gd} {av fr fr' : Bool} {L : Lk} {pos : Pos}
end
section
variable {K : PySem.W.Frag} {W : Wt} {Δ : List Kd} {ta tb tc td : TE} {ga gb gc gd : Gd} {av fr av' fr' av2 fr2 av3 fr3 : Bool}
end
section
variable {X : Cx} {K : PySem.W.Frag} {W : Wt} {Δ : List Kd} {a b c d : Expr} {ta tb tc td : TE} {ga gb gc gd : Gd} {av fr av' fr' av2 fr2 av3 fr3 : Bool} {pos : Pos} {op op' op'' : CmpOp} {r r' r'' : R2} {h h' h'' : Dt → Dt → O Dt}
end
section
variable {K : PySem.W.Frag} {W : Wt} {L : Lk} {Δ Δb Δc : List Kd} {te ti : TE} {ge gi : Gd} {fr av fr' av2 fr2 : Bool} {i : Nat}
end
section
variable {X : Cx} {K : PySem.W.Frag} {W : Wt} {Δ Δb Δc : List Kd} {e ix : Expr} {te ti : TE} {ge gi : Gd} {av fr av2 fr2 fr' : Bool} {L : Lk} {pos : Pos}
end
section
variable {K : PySem.W.Frag} {W : Wt} {L : Lk} {Δ Δb Δc : List Kd} {te : TE} {gx : Gx} {gg : TG} {sl : List Nat} {n : Nat} {hh : Dt → List Dt → O (List Dt)} {TK : Bool → List Kd → List Kd} {t : TS} {gb : Gs} {fr av : Bool}
end
section
variable {X : Cx} {K : PySem.W.Frag} {W : Wt} {Δ Δb Δc : List Kd} {e tg : Expr} {te : TE} {gx : Gx} {g1 : Gs} {t : TS} {sts : List Stmt} {fr : Bool} {L : Lk} {pos : Pos}
end
section
variable {P : Program} {w : World} {K : PySem.W.Frag} {mg : Str → Option Value} {base : Heap} {x qual : Str} {st : Stmt} {fa : Addr} {fd : FuncData} {N ps : List Str} {k n m : Nat} {Δn : List Kd} {g : Gs} {dvs : List V} {kws : List (Str × V)}
end
end Sim
end T_SimR
section T_SimY
set_option Elab.async false
set_option linter.all false
set_option maxRecDepth 100000
namespace Sim
open PySem PySem.Spec L2
open PyProof.Rows hiding St
section
variable {K : PySem.W.Frag} {W : Wt} {L : Lk} {Δ Δb Δc : List Kd} {to te : TE} {ga gb g : Gd} {fr av fr' av' : Bool} {i : Nat}
end
section
variable {K : PySem.W.Frag} {W : Wt} {Δ : List Kd} {ta tk : TA} {gA gK : List Dt → O (List Dt)} {av fr av' fr' : Bool} {mg : Str → Option Value} {m n : Nat} {g : List Dt → O Dt}
end
section
variable {X : Cx} {K : PySem.W.Frag} {W : Wt} {Δ Δb Δc : List Kd} {o e : Expr} {es : List Expr} {to te : TE} {tA tK : TA} {ga gb g : Gd} {gA gK : List Dt → O (List Dt)} {av fr av' fr' : Bool} {L : Lk} {pos : Pos}
end
section
variable {X : Cx} {K : PySem.W.Frag} {W : Wt} {Δ : List Kd} {e e2 : Expr} {es : List Expr} {te2 : TE} {tA : TA} {gk : Gd} {gA : List Dt → O (List Dt)} {av fr av' fr' : Bool} {pos : Pos}
end
end Sim
end T_SimY
section T_SimZ
set_option Elab.async false
set_option linter.all false
set_option maxRecDepth 100000
namespace Sim
open PySem PySem.Spec L2
open PyProof.Rows hiding St
section
variable {K : PySem.W.Frag} {F : Addr → Prop} {H : Hp} {p : Addr} {d : Dt} {c : Ct} {v : V}
theorem kvA_of : ∀ {kvs : List (Key × V)} {es : List (Dt × Dt)}, kvs.map (fun kv => keyD kv.1) = es.map (fun e => e.1) → RpA K F H (kvs.map fun kv => kv.2) (es.map fun e => e.2) → KvA K F H kvs es
  | [], [], _, _ => .nil
  | [], _ :: _, h, _ => by simp at h
  | _ :: _, [], h, _ => by simp at h
  | (k, v) :: kvs, (e1, e2) :: es, h, r => by
    rw [List.map_cons, List.map_cons] at h
    injection h with h1 h2
    have h1 : keyD k = e1 := h1
    subst h1
    cases r with
    | cons x r => exact .cons x (kvA_of h2 r)
theorem Rp.dict {es : List (Dt × Dt)} (h : Rp K F H v (.dict es)) (n : exnL es = false) : ∃ p kvs, v = .ref p ∧ H p = some (.dK kvs) ∧ KvA K F H kvs es := by
  cases h with
  | dic h fa hk r => exact ⟨_, _, rfl, h, kvA_of hk r⟩
  | exn => cases n
  | fz => cases n
end
section
variable {K : PySem.W.Frag} {W : Wt} {Δ Δb Δc : List Kd} {te ti ta : TE} {g ge gk ga : Gd} {fr fr' av av' : Bool} {L : Lk} {i : Nat} {c : Ct}
end
section
variable {P : Program} {w : World} {K : PySem.W.Frag} {mg : Str → Option Value} {base : Heap} {x qual : Str} {st : Stmt} {fa : Addr} {fd : FuncData} {N ps : List Str} {k n m : Nat} {Δn : List Kd} {g : Gs} {c : Ct} {fr0 : Bool}
end
section
variable {X : Cx} {K : PySem.W.Frag} {W : Wt} {Δ Δb Δc : List Kd} {a b e o : Expr} {es : List Expr} {te ti ta : TE} {tA : TA} {g ge gk ga : Gd} {gA : List Dt → O (List Dt)} {fr fr' av av' : Bool} {L : Lk} {pos p pos' : Pos} {x : Str} {m : Nat} {c : Ct}
end
section
variable {K : PySem.W.Frag} {W : Wt} {Δ : List Kd} {ta : TA} {gA : List Dt → O (List Dt)} {av fr : Bool} {mg : Str → Option Value} {n : Nat} {g : List Dt → O Dt}
end
section
variable {X : Cx} {K : PySem.W.Frag} {W : Wt} {Δ : List Kd} {e : Expr} {es : List Expr} {tA : TA} {gA : List Dt → O (List Dt)} {fr av : Bool} {pos : Pos}
end
end Sim
end T_SimZ
section T_FamL
set_option linter.all false
namespace FamL
open PySem Sim
def g_is_whole : Gs := gRet (gAndV (gUn (hIsa .int) (gVar 0)) (gNotV (gUn (hIsa .bool) (gVar 0))))
def f_is_whole : List Dt → O Dt := fnN 1 g_is_whole
def g_joined : Gs := gSeqS (gSet 3 (gCB hMin2 (gCons (gOp hIx (gVar 0) (gVar 1)) (gCons (gOp hIx (gVar 0) (gVar 2)) (gNil))))) (gSeqS (gSet 4 (gCB hMax2 (gCons (gOp hIx (gVar 0) (gVar 1)) (gCons (gOp hIx (gVar 0) (gVar 2)) (gNil))))) (gRet (gPurN (gLc (gSeq (gVar 0)) (tgN 5) (gYes) (gIf (gTest (gOp hEq (gVar 5) (gVar 4))) (gVar 3) (gVar 5))))))
def f_joined : List Dt → O Dt := fnL 6 g_joined
def g_is_depth : Gs := gRet (gAndV (gCallN 1 f_is_whole (gCons (gVar 0) (gNil))) (gChain hLe hLe (gC (.int (1))) (gVar 0) (gC (.int (6)))))
def f_is_depth : List Dt → O Dt := fnN 1 g_is_depth
def g_look_at_layers : Gs := gIfS (gNot (gTest (gCallN 1 f_is_depth (gCons (gVar 0) (gNil))))) (gBad) (gNext)
def f_look_at_layers : List Dt → O Dt := fnN 1 g_look_at_layers
def g_layer_for_L1 : Gs := gIfS (gTest (gOp hNe (gOp hIx (gVar 4) (gVar 1)) (gOp hIx (gVar 4) (gVar 2)))) (gRet (gOp hAdd (gVar 3) (gC (.int (1))))) (gNext)
def g_layer_for : Gs := gSeqS (gFor (gEnum (gCons (gVar 0) (gNil))) (tgT (tgCons (tgN 3) (tgCons (tgN 4) (tgNil)))) g_layer_for_L1) (gRet (gC (.int (0))))
def f_layer_for : List Dt → O Dt := fnN 5 g_layer_for
def g_layered_L1 : Gs := gSeqS (gSet 4 (gCallN 3 f_layer_for (gCons (gVar 3) (gCons (gVar 7) (gCons (gVar 8) (gNil)))))) (gSeqS (gIfS (gTest (gOp hGt (gVar 4) (gC (.int (0))))) (gSetI 3 (gCallN 3 f_joined (gCons (gOp hIx (gVar 3) (gOp hSub (gVar 4) (gC (.int (1))))) (gCons (gVar 7) (gCons (gVar 8) (gNil))))) (gOp hSub (gVar 4) (gC (.int (1))))) (gNext)) (gApp 5 (gVar 4)))
def g_layered : Gs := gSeqS (gDrop (gCallN 1 f_look_at_layers (gCons (gVar 2) (gNil)))) (gSeqS (gSet 3 (gLc (gRng1 (gCons (gVar 2) (gNil))) (tgN 4) (gYes) (gLsI (gRng1 (gCons (gVar 0) gNil))))) (gSeqS (gSet 5 (gLst (gNil))) (gSeqS (gFor (gRev (gCons (gVar 1) (gNil))) (tgT (tgCons (tgN 6) (tgCons (tgN 7) (tgCons (tgN 8) (tgNil))))) g_layered_L1) (gRet (gLsI (gRev (gCons (gVar 5) gNil)))))))
def f_layered : List Dt → O Dt := fnL 9 g_layered
def g_l_depth : Gs := gRet (gOp hIx (gLst (gCons (gOp hAdd (gC (.int (1))) (gOp hMod (gVar 0) (gC (.int (4))))) (gCons (gOp hAdd (gC (.int (1))) (gOp hMod (gOp hDiv (gVar 0) (gC (.int (32)))) (gC (.int (6))))) (gNil)))) (gCB hInt1 (gCons (gOp hEq (gOp hMod (gVar 0) (gC (.int (8)))) (gC (.int (1)))) (gNil))))
def f_l_depth : List Dt → O Dt := fnN 1 g_l_depth
end FamL
end T_FamL
section T_FamB
set_option linter.all false
namespace FamB
open PySem Sim
def g_l_folded_L1 : Gs := gSetI 2 (gOp hAdd (gOp hMul (gOp hIx (gVar 2) (gOp hMod (gVar 3) (gCB hLen (gCons (gVar 2) (gNil))))) (gC (.int (7)))) (gVar 4)) (gOp hMod (gVar 3) (gCB hLen (gCons (gVar 2) (gNil))))
def g_l_folded : Gs := gSeqS (gSet 2 (gOp hRep (gLst (gCons (gC (.int (0))) (gNil))) (gCB hMin2 (gCons (gVar 1) (gCons (gCB hMax2 (gCons (gC (.int (1))) (gCons (gCB hLen (gCons (gVar 0) (gNil))) (gNil)))) (gNil)))))) (gSeqS (gFor (gEnum (gCons (gVar 0) (gNil))) (tgT (tgCons (tgN 3) (tgCons (tgN 4) (tgNil)))) g_l_folded_L1) (gRet (gVar 2)))
def f_l_folded : List Dt → O Dt := fnL 5 g_l_folded
def g_l_begun : Gs := gSeqS (gSet 1 (gC (.int (0)))) (gSeqS (gIfS (gTest (gOp hGe (gCB hAbs (gCons (gVar 0) (gNil))) (gOp hPow (gC (.int (10))) (gC (.int (18)))))) (gSet 1 (gOp hAdd (gOp hSub (gCB hAbs (gCons (gVar 0) (gNil))) (gOp hPow (gC (.int (10))) (gC (.int (18))))) (gC (.int (1))))) (gNext)) (gRet (gLst (gCons (gVar 1) (gCons (gC (.int (0))) (gCons (gOp hMod (gVar 0) (gC (.int (2147483647)))) (gNil)))))))
def f_l_begun : List Dt → O Dt := fnL 2 g_l_begun
def g_l_take : Gs := gSeqS (gIfS (gTest (gOp hGt (gOp hIx (gVar 0) (gC (.int (0)))) (gC (.int (0))))) (gSeqS (gSet 2 (gOp hMod (gOp hIx (gVar 0) (gC (.int (0)))) (gVar 1))) (gSeqS (gSetI 0 (gOp hDiv (gOp hIx (gVar 0) (gC (.int (0)))) (gVar 1)) (gC (.int (0)))) (xRetM (xP (gVar 2))))) (gNext)) (gSeqS (gSetI 0 (gOp hAdd (gOp hIx (gVar 0) (gC (.int (1)))) (gC (.int (1)))) (gC (.int (1)))) (gSeqS (gSet 3 (gOp hMod (gOp hAdd (gOp hAdd (gOp hAdd (gOp hIx (gVar 0) (gC (.int (2)))) (gOp hMul (gOp hMul (gC (.int (977))) (gOp hIx (gVar 0) (gC (.int (1))))) (gOp hIx (gVar 0) (gC (.int (1)))))) (gOp hMul (gC (.int (40693))) (gOp hIx (gVar 0) (gC (.int (1)))))) (gC (.int (1)))) (gC (.int (2147483647))))) (gSeqS (gSet 3 (gOp hMod (gOp hMul (gOp hMod (gOp hMul (gVar 3) (gVar 3)) (gC (.int (1000000007)))) (gC (.int (48271)))) (gC (.int (998244353))))) (xRetM (xP (gOp hMod (gOp hDiv (gVar 3) (gC (.int (8)))) (gVar 1)))))))
def f_l_take : List Dt → O Dt := fnN 4 g_l_take
def g_l_wide_L1 : Gs := xSet 2 (xOp hAdd (xP (gOp hMul (gVar 2) (gC (.int (1000003))))) (xCallM .la 2 f_l_take 0 (xCons (xP (gC (.int (1000003)))) (xNil))))
def g_l_wide : Gs := gSeqS (gIfS (gOr (gTest (gOp hGt (gOp hIx (gVar 0) (gC (.int (0)))) (gC (.int (0))))) (gTest (gOp hLt (gVar 1) (gOp hPow (gC (.int (10))) (gC (.int (6))))))) (xRetM (xCallM .la 2 f_l_take 0 (xCons (xP (gVar 1)) (xNil)))) (gNext)) (gSeqS (gSet 2 (gC (.int (0)))) (gSeqS (gFor (gRng1 (gCons (gC (.int (5))) (gNil))) (tgN 3) g_l_wide_L1) (xRetM (xP (gOp hMod (gVar 2) (gVar 1))))))
def f_l_wide : List Dt → O Dt := fnN 4 g_l_wide
def g_l_places : Gs := xRetM (xOp hAdd (xP (gC (.int (1)))) (xCallM .la 2 f_l_take 0 (xCons (xOp hIx (xP (gLst (gCons (gC (.int (6))) (gCons (gC (.int (5))) (gCons (gC (.int (6))) (gCons (gC (.int (4))) (gCons (gC (.int (6))) (gCons (gC (.int (3))) (gCons (gC (.int (5))) (gCons (gC (.int (10))) (gNil))))))))))) (xCallM .la 2 f_l_take 0 (xCons (xP (gC (.int (8)))) (xNil)))) (xNil))))
def f_l_places : List Dt → O Dt := fnN 1 g_l_places
def g_l_depth : Gs := xRetM (xOp hAdd (xP (gC (.int (1)))) (xCallM .la 2 f_l_take 0 (xCons (xOp hIx (xP (gLst (gCons (gC (.int (3))) (gCons (gC (.int (4))) (gCons (gC (.int (2))) (gCons (gC (.int (6))) (gNil))))))) (xCallM .la 2 f_l_take 0 (xCons (xP (gC (.int (4)))) (xNil)))) (xNil))))
def f_l_depth : List Dt → O Dt := fnN 1 g_l_depth
def g_l_ends : Gs := gSeqS (xSet 3 (xCallM .la 2 f_l_take 0 (xCons (xP (gVar 1)) (xNil)))) (gSeqS (xSet 4 (xCallM .la 2 f_l_take 0 (xCons (xP (gVar 1)) (xNil)))) (gSeqS (xIfS (xAnd (xPT (gTest (gOp hNe (gVar 2) (gLst (gNil))))) (xTest (xOp hEq (xCallM .la 2 f_l_take 0 (xCons (xP (gC (.int (4)))) (xNil))) (xP (gC (.int (0))))))) (xAsg (xOp hIx (xP (gVar 2)) (xCallM .la 2 f_l_take 0 (xCons (xP (gCB hLen (gCons (gVar 2) (gNil)))) (xNil)))) (tgT (tgCons (tgN 5) (tgCons (tgN 3) (tgCons (tgN 4) (tgNil)))))) (gNext)) (xRetM (xP (gTup (gCons (gCB hMin2 (gCons (gVar 3) (gCons (gVar 4) (gNil)))) (gCons (gCB hMax2 (gCons (gVar 3) (gCons (gVar 4) (gNil)))) (gNil))))))))
def f_l_ends : List Dt → O Dt := fnN 6 g_l_ends
def g_l_drawn_ties_L1 : Gs := gSeqS (xSet 6 (xCallM .la 2 f_l_take 0 (xCons (xP (gC (.int (5)))) (xNil)))) (gSeqS (gSet 3 (gOp hAdd (gOp hAdd (gVar 3) (gC (.int (1)))) (gOp hDiv (gVar 6) (gC (.int (2)))))) (gSeqS (gIfS (gTest (gOp hEq (gVar 6) (gC (.int (4))))) (xSet 3 (xOp hAdd (xP (gVar 3)) (xCallM .la 2 f_l_wide 0 (xCons (xP (gOp hPow (gC (.int (10))) (gC (.int (27))))) (xNil))))) (gNext)) (gSeqS (xAsg (xCallM .la 3 f_l_ends 0 (xPA (gCons (gVar 1) (gCons (gVar 4) (gNil))))) (tgT (tgCons (tgN 7) (tgCons (tgN 8) (tgNil))))) (gApp 4 (gTup (gCons (gVar 3) (gCons (gVar 7) (gCons (gVar 8) (gNil)))))))))
def g_l_drawn_ties : Gs := gSeqS (xSet 3 (xOp hSub (xCallM .la 2 f_l_take 0 (xCons (xP (gC (.int (3)))) (xNil))) (xP (gC (.int (1)))))) (gSeqS (gSet 4 (gLst (gNil))) (gSeqS (xFor (xRng1 (xCons (xCallM .la 2 f_l_take 0 (xCons (xP (gOp hAdd (gVar 2) (gC (.int (1))))) (xNil))) (xNil))) (tgN 5) g_l_drawn_ties_L1) (xRetMO 4)))
def f_l_drawn_ties : List Dt → O Dt := fnL 9 g_l_drawn_ties
def g_l_most : Gs := xRetM (xOp hIx (xP (gLst (gCons (gC (.int (4))) (gCons (gC (.int (8))) (gCons (gC (.int (12))) (gCons (gC (.int (6))) (gCons (gC (.int (10))) (gCons (gC (.int (12))) (gCons (gC (.int (16))) (gCons (gC (.int (40))) (gNil))))))))))) (xCallM .la 2 f_l_take 0 (xCons (xP (gC (.int (8)))) (xNil))))
def f_l_most : List Dt → O Dt := fnN 1 g_l_most
end FamB
end T_FamB
section T_SimX
set_option Elab.async false
set_option linter.all false
set_option maxRecDepth 100000
namespace Sim
open PySem PySem.Spec L2
open PyProof.Rows hiding St
section
variable {X : Cx} {pins : List (Addr × Obj)} {σ : L2.St} {H : Hp} {s : Shared}
end
section
variable {X : Cx} {x n : Str} {c : Value} {i : Nat} {body suite : List Stmt} {b₀ : Stmt} {np pos pos' : Pos} {tb : WX → TS} {ts : TS} {Wout : WX}
end
end Sim
end T_SimX
section T_SimXB
set_option Elab.async false
set_option linter.all false
set_option maxRecDepth 100000
namespace Sim
open PySem PySem.Spec L2
open PyProof.Rows hiding St
section
variable {K : PySem.W.Frag} {Δ : List Kd} {ta : TA} {gA : List Dt → O (List Dt)} {av fr : Bool} {mg : Str → Option Value} {n : Nat} {g : List Dt → O Dt} {Wx : WX}
end
section
variable {X : Cx} {K : PySem.W.Frag} {Δ : List Kd} {e : Expr} {es : List Expr} {tA : TA} {gA : List Dt → O (List Dt)} {av fr : Bool} {pos p : Pos} {mg : Str → Option Value} {Wx : WX} {x : Str} {kk nn : Nat} {fa : Addr} {fd : FuncData} {ps : List Str} {gg : List Dt → O Dt}
end
section
variable {P : Program} {w : World} {K : PySem.W.Frag} {mg : Str → Option Value} {base : Heap} {x qual : Str} {st : Stmt} {fa : Addr} {fd : FuncData} {N ps : List Str} {k n m : Nat} {Δn : List Kd} {g : Gs}
end
def PoSx (K : PySem.W.Frag) (W : Wt) (L : Lk) (f : Fm) (Δn Δb Δc : List Kd) (σ : L2.St) (H : Hp) (o : O Fl) (E : Ends) : Prop := match o with
  | .ex e => ∀ H', Same H H' → W e σ H'
  | .ok a => PoS K W L f Δn Δb Δc (.ok a) E
  | .bad => False
def SSx (K : PySem.W.Frag) (W : Wt) (L : Lk) (Δ Δn Δb Δc : List Kd) (ts : TS) (g : Gs) : Prop := ∀ f ρ σ H E, R K f Δ ρ σ H → PoSx K W L f Δn Δb Δc σ H (g ρ) E → ts E σ H
structure BDx (X : Cx) (K : PySem.W.Frag) (W : Wt) (L : Lk) (Δ Δn Δb Δc : List Kd) (sts : List Stmt) (ts : TS) (g : Gs) : Prop where
  ps : PSs X sts ts
  hK : X.K = K
  ss : SSx K W L Δ Δn Δb Δc ts g
section
variable {K : PySem.W.Frag} {f : Fm} {Δ : List Kd} {ρ : List Dt} {σ : L2.St} {H : Hp} {i : Nat}
end
section
variable {K : PySem.W.Frag} {W : Wt} {L : Lk} {Δ Δ1 Δn Δb Δc : List Kd} {te : TE} {tt : TT} {t u ts : TS} {g : Gd} {gt : List Dt → O Bool} {ga gb gh : Gs} {fr av : Bool} {k : Rk} {i : Nat} {mg : Str → Option Value}
theorem SSx.post {Δn' : List Kd} (h : SSx K W L Δ Δn Δb Δc t ga) (ln : leA Δn Δn' = true) : SSx K W L Δ Δn' Δb Δc t ga := fun f ρ σ H E r q => h f ρ σ H E r <| by
  cases e : ga ρ with
  | bad => rw [e] at q; exact q
  | ex z => rw [e] at q; exact q
  | ok fl =>
    rw [e] at q
    cases fl with
    | nx ρ' => exact fun σ' H' r => q σ' H' (r.weak ln)
    | rt d => exact q
    | bk ρ' => exact q
    | ct ρ' => exact q
end
section
variable {X : Cx} {K : PySem.W.Frag} {W : Wt} {L : Lk} {Δ Δ1 Δn Δb Δc : List Kd} {e c : Expr} {te : TE} {tt : TT} {t u ts : TS} {g : Gd} {gt : List Dt → O Bool} {ga gb gh g1 g2 : Gs} {fr av : Bool} {k : Rk} {mg : Str → Option Value} {st : Stmt} {sts sts2 : List Stmt} {pos pos' : Pos}
theorem BDx.to (Δn' : List Kd) (h : BDx X K W L Δ Δn Δb Δc sts t g1) (l : leA Δn Δn' = true := by rfl) : BDx X K W L Δ Δn' Δb Δc sts t g1 := ⟨h.ps, h.hK, h.ss.post l⟩
end
section
variable {X : Cx} {K : PySem.W.Frag} {W : Wt} {Δ : List Kd} {e : Expr} {te : TE} {g : Gd} {av fr : Bool} {pos p p2 : Pos} {mg : Str → Option Value} {tab : List (Str × Bool)}
end
theorem SE.nvD {K : PySem.W.Frag} {W : Wt} {Δ : List Kd} {te : TE} {g : Gd} {fr : Bool} (h : SE K W Δ te (.new .dk fr) g) : SE K W Δ te (.v true fr) g := fun f ρ σ H Q r q =>
  h f ρ σ H Q r <| by
    cases e : g ρ with
    | bad => rw [e] at q; exact q
    | ex z => rw [e] at q; exact q
    | ok d =>
      rw [e] at q
      intro p H' np s x
      obtain ⟨kvs, es, ed, hp, x⟩ := x
      subst ed
      obtain ⟨f1, f2, f3⟩ := r.fresh np
      have ks : ∀ {kvs : List (Key × V)} {es : List (Dt × Dt)}, KvA K (fun a => FM f Δ σ true fr a ∧ a ≠ p) H' kvs es → kvs.map (fun kv => keyD kv.1) = es.map (fun e => e.1) := fun {kvs es} x => by
        induction x with
        | nil => rfl
        | cons h r ih => rw [List.map_cons, List.map_cons, ih]
      have vs : ∀ {kvs : List (Key × V)} {es : List (Dt × Dt)}, KvA K (fun a => FM f Δ σ true fr a ∧ a ≠ p) H' kvs es → RpA K (FM f Δ σ true fr) H' (kvs.map fun kv => kv.2) (es.map fun e => e.2) := fun {kvs es} x => by
        induction x with
        | nil => exact .nil
        | cons h r ih => exact .cons (h.weak fun _ y => y.1) ih
      exact q _ H' s (.dic hp ⟨fun _ => ⟨f1, f2⟩, fun _ => r.g0 p f3⟩ (ks x) (vs x))
theorem PD.nvD {X : Cx} {K : PySem.W.Frag} {W : Wt} {Δ : List Kd} {e : Expr} {te : TE} {g : Gd} {fr : Bool} (h : PD X K W Δ e te (.new .dk fr) g) : PD X K W Δ e te (.v true fr) g := ⟨h.pe, h.hK, h.se.nvD⟩
end Sim
end T_SimXB
section T_SimXC
set_option Elab.async false
set_option linter.all false
set_option maxRecDepth 100000
namespace Sim
open PySem PySem.Spec L2
open PyProof.Rows hiding St
def spMA (K : PySem.W.Frag) (c : Ct) (n : Nat) (g : List Dt → O Dt) : Sp := fun vs H Q _ => ∃ a vs' d ds' F, vs = .ref a :: vs' ∧ vs.length = n ∧ argK c d = true ∧ ArgAt K H a d ∧ ¬ F a ∧ RpA K F H vs' ds' ∧ (match g (d :: ds') with
  | .ok (.tuple [r, e]) => ∀ v H', (∀ b o, b ≠ a → H b = some o → H' b = some o) → ArgAt K H' a e → Rp K (fun b => F b ∨ H b = none) H' v r → Q v H'
  | _ => False)
def kdMA (c : Ct) (n m : Nat) : List Kd := .own c true :: (List.replicate (n - 1) (.im true) ++ List.replicate (m - n) .no)
theorem r_startMA {K : PySem.W.Frag} {H : Hp} {a : Addr} {vs : List V} {d : Dt} {ds : List Dt} {c : Ct} {n m : Nat} {N : List Str} (hv : vs.length + 1 = n) (hN : N.length = m) (hm : n ≤ m) (hc : isArg c = true) (ha : argK c d = true) (hd : ArgAt K H a d) {F : Addr → Prop} (nF : ¬ F a) (x : RpA K F H vs ds) :
    R K ⟨fun b => if b = a then none else H b, fun b => H b = none ∨ b = a ∨ F b, [], [], some a, [], fun _ h => nomatch h⟩ (kdMA c n m) ((d :: ds) ++ List.replicate (m - (d :: ds).length) .none) (L2.start N (.ref a :: vs)) H := by
  have ld : ds.length + 1 = n := by rw [← x.length]; exact hv
  have hn1 : n - 1 = vs.length := by omega
  have own0 : ∀ (i : Nat) (c' : Ct) (fr' : Bool), (kdMA c n m)[i]? = some (.own c' fr') → i = 0 ∧ c' = c ∧ fr' = true := fun i c' fr' e => by
    cases i with
    | zero => cases e; exact ⟨rfl, rfl, rfl⟩
    | succ i =>
      unfold kdMA at e
      rw [List.getElem?_cons_succ] at e
      rcases List.mem_append.mp (List.mem_of_getElem? e) with h | h
      · cases List.eq_of_mem_replicate h
      · cases List.eq_of_mem_replicate h
  have s0 : (L2.start N (.ref a :: vs))[0]? = some (some (V.ref a)) := rfl
  have ow : ∀ b, Ow (kdMA c n m) (L2.start N (.ref a :: vs)) b → b = a := fun b ⟨i, c', fr', h1, h2⟩ => by
    obtain ⟨rfl, _, _⟩ := own0 i c' fr' h1
    rw [s0] at h2
    cases h2
    rfl
  obtain ⟨o, ho, mo, hw⟩ := owC_of (c' := c) (F := FM ⟨fun b => if b = a then none else H b, fun b => H b = none ∨ b = a ∨ F b, [], [], some a, [], fun _ h => nomatch h⟩ (kdMA c n m) (L2.start N (.ref a :: vs)) true true) (by cases c <;> first | rfl | cases hc) hd ha
  have noSl0 : ∀ (i : Nat) (t : Bool), (kdMA c n m)[i]? ≠ some (.sl t) := fun i t e => by
    cases i with
    | zero => cases e
    | succ i =>
      unfold kdMA at e
      rw [List.getElem?_cons_succ] at e
      rcases List.mem_append.mp (List.mem_of_getElem? e) with h | h
      · cases List.eq_of_mem_replicate h
      · cases List.eq_of_mem_replicate h
  refine ⟨fun b u e => ?_, fun b e => ?_, ?_, ?_, ?_, fun b hb => absurd hb (by simp), fun g hg => absurd hg (by simp), fun i fr' h => ?_, fun i c' fr' h => ?_, fun i c' fr' h h' => ?_, fun a ha => (nomatch ha), fun i t h => absurd h (noSl0 i t)⟩
  · have e : (if b = a then none else H b) = some u := e
    by_cases z : b = a
    · rw [if_pos z] at e; cases e
    · rw [if_neg z] at e; exact e
  · have e : (if b = a then none else H b) = none := e
    by_cases z : b = a
    · exact .inr (.inl z)
    · rw [if_neg z] at e; exact .inl e
  · unfold L2.start kdMA
    simp only [List.length_append, List.length_map, List.length_replicate, List.length_cons, hN]
    omega
  · unfold kdMA
    simp only [List.length_append, List.length_replicate, List.length_cons]
    omega
  · intro i j ci fi cj fj p h1 h2 _ _
    obtain ⟨rfl, _, _⟩ := own0 i ci fi h1
    obtain ⟨rfl, _, _⟩ := own0 j cj fj h2
    rfl
  · cases i with
    | zero => cases h
    | succ i =>
      unfold kdMA at h
      rw [List.getElem?_cons_succ] at h
      by_cases hi : i < n - 1
      · rw [List.getElem?_append_left (by rw [List.length_replicate]; exact hi)] at h
        have efr : fr' = true := by
          have := List.eq_of_mem_replicate (List.mem_of_getElem? h)
          cases this; rfl
        subst efr
        have hi' : i < vs.length := by omega
        obtain ⟨d', h1, h2⟩ := x.get (List.getElem?_eq_getElem hi')
        refine ⟨vs[i], d', ?_, ?_, h2.weak fun b nb => ⟨fun _ => ⟨fun z => nF (ow b z ▸ nb), by simp⟩, fun e => .inr (.inr nb)⟩⟩
        · unfold L2.start
          rw [List.getElem?_append_left (by rw [List.length_map, List.length_cons]; omega), List.getElem?_map, List.getElem?_cons_succ, List.getElem?_eq_getElem hi']
          rfl
        · rw [List.cons_append, List.getElem?_cons_succ, List.getElem?_append_left (by omega)]
          exact h1
      · rw [List.getElem?_append_right (by rw [List.length_replicate]; omega)] at h
        cases List.eq_of_mem_replicate (List.mem_of_getElem? h)
  · obtain ⟨rfl, rfl, rfl⟩ := own0 i c' fr' h
    exact ⟨a, d, s0, rfl, if_pos rfl, hw _ ho⟩
  · obtain ⟨rfl, rfl, rfl⟩ := own0 i c' fr' h
    exact ⟨a, rfl, s0⟩
section
variable {P : Program} {w : World} {K : PySem.W.Frag} {mg : Str → Option Value} {base : Heap} {x qual : Str} {st : Stmt} {fa : Addr} {fd : FuncData} {N ps : List Str} {k n m : Nat} {Δn : List Kd} {g : Gs} {c : Ct}
theorem fn_okMA (F : L2.Fun K x qual st fa fd) (S : FnScope N ps (defScope st)) (hn : ps.length = n) (hm : N.length = m) (hnm : n ≤ m) (hc : isArg c = true)
    (hb : ∀ (cdv : Value) (A : Around) (outer : List Env) (s : Shared) (H : Hp) (E : XK), Room k (A.deeper (envOfC qual (defScope st) s.heap.objs.size fa cdv)) → ∃ ts, BD (cxOf CX0 P w K mg base N qual (defScope st) fa cdv A outer s H E).nox K W0 .m (kdMA c n m) Δn (kdMA c n m) (kdMA c n m) (defBody st) ts g) :
    FnOk P w K mg base CX0 (k + 1) fa fd ps (spMA K c n (fnN m g)) := by
  refine F.ok S (fun vs H Q E h => ?_) (fun cdv A outer s H vs Q E hr h => ?_)
  · obtain ⟨a, vs', d, ds', F, rfl, h1, _⟩ := h
    rw [h1, hn]
  · obtain ⟨a, vs', d, ds', F, rfl, h1, h2, h3, nF, h4, h5⟩ := h
    obtain ⟨ts, B⟩ := hb cdv A outer s H E hr
    refine ⟨ts, B.ps, B.ss _ _ _ H _ (r_startMA (by rw [List.length_cons] at h1; exact h1) hm hnm hc h2 h3 nF h4) ?_⟩
    unfold fnN at h5
    cases e : g ((d :: ds') ++ List.replicate (m - (d :: ds').length) .none) with
    | bad => rw [e] at h5; exact h5.elim
    | ex z => rw [e] at h5; exact h5.elim
    | ok fl =>
      rw [e] at h5
      cases fl with
      | nx ρ => exact h5.elim
      | rt z =>
        unfold PoS
        simp only
        have h5 : (match (O.ok z : O Dt) with
          | .ok (.tuple [r, e]) => ∀ v H', (∀ b o, b ≠ a → H b = some o → H' b = some o) → ArgAt K H' a e → Rp K (fun b => F b ∨ H b = none) H' v r → Q v H'
          | _ => False) := h5
        split at h5
        · rename_i r e ez
          cases ez
          simp only
          refine fun v H' s arg x => h5 v H' (fun b o nb eb => s b o ?_) arg (x.weak fun b fb => ?_)
          · show (if b = a then none else H b) = some o
            rw [if_neg nb]
            exact eb
          · rcases fb.1 with q | q | q
            · exact .inr q
            · exact absurd q fb.2
            · exact .inl q
        · exact h5.elim
      | bk ρ => exact h5.elim
      | ct ρ => exact h5.elim
end
section
variable {K : PySem.W.Frag} {W : Wt} {Δ Δn Δb Δc : List Kd} {ta tb te : TE} {tt tu : TT} {tA : TA} {g : Gd} {ga gb gx : Gx} {gt gu : List Dt → O (Bool × List Dt)} {gA : List Dt → O (List Dt × List Dt)} {k : Rk} {av fr av' fr' : Bool} {L : Lk} {i : Nat} {t u : TS} {g1 g2 : Gs}
theorem sx_callMA {c c' : Ct} {n : Nat} {g : List Dt → O Dt} (hk : Δ[i]? = some (.own c' fr')) (hc : argOf c' = c) (h : SXA K Δ tA true fr gA) : SX K Δ (tCall (spMA K c n g) [] E0 (tCons (tVar i) tA)) (.v true fr) (xCallM c n g i gA) := fun f ρ σ H Q r q => by
  obtain ⟨p, d0, h1, _, _, _⟩ := r.ow i c' fr' hk
  refine ⟨_, h1, h f ρ σ H _ r ?_⟩
  unfold xCallM at q
  obtain ⟨⟨ds, ρ1⟩, e1, q⟩ := bnd_inv' (P := fun o => PoX K f Δ σ (.v true fr) o Q) id (fun _ => id) q
  rw [e1]
  intro vs H1 r1 x1
  obtain ⟨p', d, h1', h2, h3, h4⟩ := r1.ow i c' fr' hk
  rw [h1] at h1'
  cases h1'
  simp only at q
  by_cases hn : ds.length + 1 = n
  · rw [if_pos hn, h2] at q
    simp only at q
    by_cases ha : argK c d = true
    · rw [if_pos ha] at q
      rw [List.append_nil]
      refine ⟨p, vs, d, ds, _, rfl, by rw [List.length_cons, x1.length]; exact hn, ha, argAt_of hc h4 ha, fun z => (z.1 rfl).1 ⟨i, c', fr', hk, h1⟩, x1, ?_⟩
      cases e2 : g (d :: ds) with
      | bad => rw [e2] at q; exact q.elim
      | ex z => rw [e2] at q; exact q.elim
      | ok z =>
        rw [e2] at q
        split at q
        · rename_i r' e ez
          cases ez
          by_cases hae : argK c e = true
          · rw [if_pos hae] at q
            intro v H' keep arg x2
            refine q v H' (r1.argNew hk h1 hc keep arg hae) (x2.weak fun b nb => ?_)
            rcases nb with nb | nb
            · exact nb
            · obtain ⟨f1, f2, f3⟩ := r1.fresh nb
              exact ⟨fun _ => ⟨f1, f2⟩, fun _ => r1.g0 b f3⟩
          · rw [if_neg hae] at q
            exact q.elim
        · exact q.elim
    · rw [if_neg ha] at q
      exact q.elim
  · rw [if_neg hn] at q
    exact q.elim
end
section
variable {X : Cx} {K : PySem.W.Frag} {W : Wt} {Δ Δ1 Δn Δb Δc : List Kd} {a b c e f elt tg iter : Expr} {es ifs : List Expr} {ta tb tc te ti tx : TE} {tt tu : TT} {tA : TA} {g gk gx0 ge gi : Gd} {ga gb gx : Gx} {gt0 : List Dt → O Bool} {gt gu : List Dt → O (Bool × List Dt)} {gA : List Dt → O (List Dt × List Dt)} {gA0 gI : List Dt → O (List Dt)} {k : Rk} {av fr av' fr' av2 fr2 : Bool} {L : Lk} {pos pos' : Pos} {t u : TS} {g1 g2 : Gs} {sts sts2 : List Stmt} {i : Nat}
theorem xd_callMA (i : Nat) {ct c' : Ct} {x y : Str} {p py : Pos} {CXT' : CXT} {kk nn : Nat} {fa : Addr} {fd : FuncData} {ps : List Str} {gg : List Dt → O Dt} (F : FnOk X.prog X.w X.K X.mg X.base CXT' kk fa fd ps (spMA K ct nn gg)) (hr : Room kk X.A) (hm : X.mg x = some (.ref fa)) (hk : PySem.W.keepIn X.K (.ref fa) = true) (hb : Binds X.K fd ps [])
    (hx : Passes CXT' X E0) (h : XAD X K Δ es tA true fr gA) (hi : Δ[i]? = some (.own c' fr') := by rfl) (hc : argOf c' = ct := by rfl) (hN : X.N[i]? = some y := by rfl) (hv : Vis X.env.scope y := by first | exact Or.inl rfl | exact Or.inr (Or.inl rfl) | exact Or.inr (Or.inr rfl)) (hd : (y == ("__debug__" : Str)) = false := by decide) (hcd : (y == ("__classdict__" : Str)) = false := by decide)
    (hg : Gl X x := by rfl) (hdb : (x == ("__debug__" : Str)) = false := by decide) (he : starEach (.Name y py :: es) X.env = (false, eval (.Name y py) X.env) :: starEach es X.env := by rfl) (hpl : (backTo pos (starEach es X.env)).any (·.1) = false := by rfl) :
    XD X K Δ (.Call (.Name x p) (.Name y py :: es) [] pos) (tCall (spMA K ct nn gg) [] E0 (tCons (tVar i) tA)) (.v true fr) (xCallM ct nn gg i gA) := ⟨pe_call F hr hg hm hk hb .nil hx (pa_cons (pe_var hN hv hd hcd) h.pa he) hdb he hpl, h.hK, sx_callMA hi hc h.sa⟩
end
end Sim
end T_SimXC
section T_SimXE
set_option Elab.async false
set_option linter.all false
set_option maxRecDepth 100000
namespace Sim
open PySem PySem.Spec L2
open PyProof.Rows hiding St
section
variable {K : PySem.W.Frag} {W : Wt} {Δ Δb Δc : List Kd} {te ta tb : TE} {g ga gb : Gd} {fr fr' av' : Bool} {L : Lk} {i : Nat}
end
section
variable {X : Cx} {K : PySem.W.Frag} {W : Wt} {L : Lk} {Δ Δb Δc : List Kd} {a b e : Expr} {ta tb te : TE} {ga gb g : Gd} {fr fr' av' : Bool} {pos : Pos}
end
end Sim
end T_SimXE
section T_SimFz
set_option Elab.async false
set_option linter.all false
set_option maxRecDepth 100000
namespace Sim
open PySem PySem.Spec L2
open PyProof.Rows hiding St
def unfz : Dt → Option (List Dt)
  | .dict [(.bool true, .list xs)] => some xs
  | _ => none
theorem unfz_eq {d : Dt} {xs : List Dt} (h : unfz d = some xs) : d = frzD xs := by
  unfold unfz at h
  split at h
  · cases h; rfl
  · cases h
section
variable {K : PySem.W.Frag} {W : Wt} {Δ : List Kd} {F : Addr → Prop} {H : Hp} {te ta tb : TE} {g ga gb : Gd} {av fr av' fr' : Bool} {tl th : TOp} {gl gh : List Dt → O (Option Int)}
theorem Rp.sqF {v : V} {d : Dt} {xs : List Dt} (x : Rp K F H v d) (h : unfz d = some xs) : ∃ a ys, v = .ref a ∧ SqL K H a ys ∧ RpA K F H ys xs := by
  rw [unfz_eq h] at x
  cases x with
  | fz h r => exact ⟨_, _, rfl, h.sql, r⟩
  | @dic a kvs es h fa hk r =>
    cases kvs with
    | nil => cases hk
    | cons kv kvs =>
      obtain ⟨k, w⟩ := kv
      rw [List.map_cons, List.map_cons] at hk
      injection hk with h1 h2
      cases k <;> cases h1
def hLenF : List Dt → O Dt := fun ds => match ds with
  | [d] => match unfz d with
    | some xs => .ok (.int xs.length)
    | none => .bad
  | _ => .bad
theorem csc_lenF : CSc K (fun xs H Q => ∃ x n, xs = [x] ∧ LenV K x H n ∧ Q (.int n) H) hLenF := fun H xs ds Q hx h => by
  unfold hLenF at h
  split at h
  · rename_i e
    split at e
    · split at e
      · rename_i u
        cases e
        cases hx with
        | cons h1 h2 =>
          cases h2
          obtain ⟨a, ys, rfl, hs, r⟩ := h1.sqF u
          exact ⟨_, _, rfl, .inl ⟨_, hs, by first | exact r.length | exact r.length.symm⟩, h.2 _ (.int _)⟩
      · cases e
    · cases e
  · exact h.elim
theorem scl_lenF : SclA hLenF := fun ds => by
  unfold hLenF
  split
  · split
    · exact .inl ⟨_, rfl, rfl⟩
    · exact .inr rfl
  · exact .inr rfl
def gEnumF (gA : List Dt → O (List Dt)) : List Dt → O (List Dt) := fun ρ => bnd (gA ρ) fun ds => match ds with
  | [d] => match unfz d with
    | some es => .ok (enumD es)
    | none => .bad
  | _ => .bad
theorem sc_enumF {c : Addr} {d : Dt} {es : List Dt} (u : unfz d = some es) : Sc K (Ite K c) none [.ref c] [d] (enumD es) where
  goes := fun i H hi ⟨_, F, r⟩ => by
    cases r with
    | cons h _ =>
      obtain ⟨b, xs, e, hs, r⟩ := h.sqF u
      cases e
      have hx : i < xs.length := by rw [r.length]; unfold enumD at hi; simpa using hi
      exact ⟨xs, xs[i], hs, List.getElem?_eq_getElem hx⟩
  stops := fun H ⟨_, F, r⟩ => by
    cases r with
    | cons h _ =>
      obtain ⟨b, xs, e, hs, r⟩ := h.sqF u
      cases e
      exact ⟨xs, hs, by rw [r.length]; unfold enumD; simp⟩
  yields := fun i H x H' hi _ y => by
    obtain ⟨T, z, e, nT, eH, y⟩ := y
    subst e eH
    refine ⟨same_upd nT, fun F r => ?_⟩
    cases r with
    | cons h _ =>
      obtain ⟨b, xs, e, hs, r⟩ := h.sqF u
      cases e
      obtain ⟨d, h1, h2⟩ := r.get (y xs hs)
      refine ⟨.tuple [.int (i : Nat), d], ?_, .tup (.inl (.inl upd_same)) (.cons (.int _) (.cons (h2.same (same_upd nT)) .nil))⟩
      unfold enumD
      rw [List.getElem?_map, List.getElem?_zipIdx, h1]
      simp
theorem si_enumF {tA : TA} {gA : List Dt → O (List Dt)} (h : SA K W Δ tA true fr gA) : SI K W Δ (iEnum K tA) false fr (gEnumF gA) := fun f ρ σ H Rk R q => by
  refine h f ρ σ H _ R ?_
  unfold gEnumF at q
  cases e1 : gA ρ with
  | bad => rw [e1] at q; exact q
  | ex z => rw [e1] at q; exact q
  | ok ds =>
    rw [e1, bnd_ok] at q
    intro vs H1 s1 x1
    cases ds with
    | nil => exact q.elim
    | cons d ds =>
      cases ds with
      | cons d2 ds => exact q.elim
      | nil =>
        simp only at q
        cases u : unfz d with
        | none => rw [u] at q; exact q.elim
        | some es =>
          rw [u] at q
          have x0 := x1
          cases x1 with
          | cons x1 xr =>
            cases xr
            obtain ⟨c, xs, rfl, hs, r⟩ := x1.sqF u
            exact ⟨c, xs, rfl, hs, q _ H1 none [.ref c] [d] s1 (fun _ => rfl) (fun _ e => nomatch e) x0 (sc_enumF u)⟩
end
section
variable {X : Cx} {K : PySem.W.Frag} {W : Wt} {Δ : List Kd} {a b e tg : Expr} {es : List Expr} {te ta tb : TE} {tA : TA} {g ga gb : Gd} {gA : List Dt → O (List Dt)} {av fr av' fr' : Bool} {pos : Pos}
theorem x_lenF {x : Str} {p : Pos} (hm : X.mg x = none) (h : AD X K W Δ (e :: es) tA av fr gA) (hv : bootBuiltins x = some (.builtin "len") := by decide +kernel) (hg : Gl X x := by rfl) (hn : x ≠ "__name__" := by decide) (hdb : (x == ("__debug__" : Str)) = false := by decide)
    (he : starEach (e :: es) X.env = (false, eval e X.env) :: starEach es X.env := by rfl) (hpl : (backTo pos (starEach es X.env)).any (·.1) = false := by rfl) :
    PD X K W Δ (.Call (.Name x p) (e :: es) [] pos) (tCB (fun xs H Q => ∃ x n, xs = [x] ∧ LenV K x H n ∧ Q (.int n) H) tA) (.v true true) (gCB hLenF gA) := ⟨pe_callB (by have q := call_len (X := X); rw [h.hK] at q; exact q) hg hm hv h.pa hn hdb he hpl, h.hK, se_cb scl_lenF csc_lenF h.sa⟩
theorem i_enumF {p tpos : Pos} {elts : List Expr} {kk : Nat} (hm : X.mg "enumerate" = none) (h : AD X K W Δ [a] tA true fr gA) (hg : Gl X "enumerate" := by rfl) (hs : starEach [a] X.env = [(false, eval a X.env)] := by rfl) : ID X K W Δ (.Tuple elts kk tpos) (.Call (.Name "enumerate" p) [a] [] pos) (iEnum K tA) false fr (gEnumF gA) :=
  ⟨by have q := pi_enum (X := X) (tpos := tpos) (elts := elts) (kk := kk) (p := p) (pos := pos) hg hm h.pa hs; rw [h.hK] at q; exact q, h.hK, si_enumF h.sa⟩
end
end Sim
end T_SimFz
section T_SimSl
set_option Elab.async false
set_option linter.all false
set_option maxRecDepth 100000
namespace Sim
open PySem PySem.Spec L2
open PyProof.Rows hiding St
section
variable {K : PySem.W.Frag} {f : Fm} {Δ Δn Δb Δc : List Kd} {ρ : List Dt} {σ : L2.St} {H H1 : Hp} {i : Nat} {v : V} {d : Dt} {W : Wt} {L : Lk}
def SEn (K : PySem.W.Frag) (W : Wt) (Δ : List Kd) (te : TE) (g : Gd) : Prop := ∀ f ρ σ H Q, R K f Δ ρ σ H → (match g ρ with
  | .bad => False
  | .ex e => ∀ H', Same H H' → W e σ H'
  | .ok d => ∀ v H', Same H H' → Rp K (fun a => H a = none) H' v d → Q v H') → te σ H Q
theorem SEn.se {te : TE} {g : Gd} (h : SEn K W Δ te g) : SE K W Δ te (.v true true) g := fun f ρ σ H Q r q => h f ρ σ H Q r <| by
  cases e : g ρ with
  | bad => rw [e] at q; exact q
  | ex z => rw [e] at q; exact q
  | ok d =>
    rw [e] at q
    refine fun v H' s x => q v H' s (x.weak fun a na => ?_)
    obtain ⟨f1, f2, f3⟩ := r.fresh na
    exact ⟨fun _ => ⟨f1, f2⟩, fun _ => r.g0 a f3⟩
def noSl (Δ : List Kd) : Bool := Δ.all fun k => match k with
  | .sl _ => false
  | _ => true
end
end Sim
end T_SimSl
section T_SimSm
set_option Elab.async false
set_option linter.all false
set_option maxRecDepth 100000
namespace Sim
open PySem PySem.Spec L2
open PyProof.Rows hiding St
section
variable {K : PySem.W.Frag} {f : Fm} {Δ Δn Δb Δc : List Kd} {ρ : List Dt} {σ : L2.St} {H H1 : Hp} {i w : Nat} {v : V} {d : Dt} {W : Wt} {L : Lk} {p : Addr}
end
section
variable {X : Cx} {K : PySem.W.Frag} {W : Wt} {Δ Δn Δb Δc : List Kd} {e : Expr} {es : List Expr} {te : TE} {tA : TA} {g : Gd} {pos pos' : Pos} {L : Lk} {sts : List Stmt} {u : TS} {gb : Gs}
end
end Sim
end T_SimSm
section T_SimSt
set_option Elab.async false
set_option linter.all false
set_option maxRecDepth 100000
set_option maxHeartbeats 2000000
namespace Sim
open PySem PySem.Spec L2
open PyProof.Rows hiding St
def okStr (d : Dt) : Bool := (match d with | .list _ => true | .tuple _ => true | _ => false) && PyData.canLay0 d && !PyData.hasDict d && PyData.showable d && decide (d.depth ≤ 60) && decide (d.shown.length ≤ sizeLine)
def hStr : List Dt → O Dt := fun ds => match ds with
  | [d] => if okStr d then .ok (.str d.shown) else .bad
  | _ => .bad
def rStr (K : PySem.W.Frag) : List V → Hp → VK → Prop := fun xs H Q => ∃ x d, xs = [x] ∧ Dp K H x d ∧ okStr d = true ∧ Q (.str d.shown) H
section
variable {X : Cx} {K : PySem.W.Frag} {W : Wt} {Δ : List Kd} {e : Expr} {es : List Expr} {tA : TA} {gA : List Dt → O (List Dt)} {av fr : Bool} {pos : Pos}
theorem scl_str : SclA hStr := fun ds => by
  unfold hStr
  split
  · split
    · exact .inl ⟨_, rfl, rfl⟩
    · exact .inr rfl
  · exact .inr rfl
theorem csc_str : CSc K (rStr K) hStr := fun H xs ds Q hx h => by
  unfold hStr at h
  split at h
  · rename_i e
    split at e
    · split at e
      · rename_i c
        cases hx with
        | cons h1 h2 =>
          cases h2
          cases e
          have c2 := c
          unfold okStr at c2
          simp only [Bool.and_eq_true] at c2
          exact ⟨_, _, rfl, h1.dp c2.1.1.1.1.2, c, h.2 _ (.str _)⟩
      · cases e
    · cases e
  · exact h.elim
theorem call_str {m : Nat} (hg : X.A.guards = some []) (hr : Room m X.A) : CallR X (.type "str") (rStr X.K) := by
  intro pins s σ H vs us Q I r ⟨x, d, e, hx, ok, q⟩
  subst e
  cases r with
  | cons r1 r2 =>
    cases r2
    obtain ⟨as, rd⟩ := Dp.reads I d _ _ hx r1
    have c := ok
    unfold okStr at c
    simp only [Bool.and_eq_true, decide_eq_true_eq] at c
    obtain ⟨⟨⟨⟨⟨c1, c2⟩, c3⟩, c4⟩, c5⟩, c6⟩ := c
    have nd : d.hasDict = true → sysModules ∉ as := fun z => by rw [z] at c3; exact absurd c3 (by decide)
    have un := hr.un
    have go : ∀ a, PySem.Reads s.heap (.ref a) d as → wpAny (model X.prog X.w) X.A (call (.type "str") [.ref a]) (EP X pins σ Q) X.xe s := fun a rd =>
      str_of_reads rd c4 nd hg (by omega) (fun _ _ e => e) (fun h' u tk hk => ⟨.str d.shown, H, I.kept hk, ⟨u, rfl⟩, q⟩) c6
    cases hx with
    | lst _ _ => cases r1; exact go _ rd
    | tup _ _ => cases r1; exact go _ rd
    | non => exact absurd c1 (by simp)
    | bl _ => exact absurd c1 (by simp)
    | int _ => exact absurd c1 (by simp)
    | str _ => exact absurd c1 (by simp)
theorem x_strOf {m : Nat} {x : Str} {p : Pos} (hgd : X.A.guards = some []) (hr : Room m X.A) (hm : X.mg x = none) (h : AD X K W Δ (e :: es) tA av fr gA) (hv : bootBuiltins x = some (.type "str") := by decide +kernel) (hg : Gl X x := by rfl) (hn : x ≠ "__name__" := by decide) (hdb : (x == ("__debug__" : Str)) = false := by decide)
    (he : starEach (e :: es) X.env = (false, eval e X.env) :: starEach es X.env := by rfl) (hpl : (backTo pos (starEach es X.env)).any (·.1) = false := by rfl) :
    PD X K W Δ (.Call (.Name x p) (e :: es) [] pos) (tCB (rStr K) tA) (.v true true) (gCB hStr gA) :=
  ⟨pe_callTy (by have q := call_str (X := X) hgd hr; rw [h.hK] at q; exact q) hg hm hv h.pa hn hdb he hpl, h.hK, se_cb scl_str csc_str h.sa⟩
end
structure FnG (P : Program) (w : World) (K : PySem.W.Frag) (mg : Str → Option Value) (base : Heap) (k : Nat) (f : Addr) (fd : FuncData) (ps : List Str) (sp : Sp) : Prop where
  len : ∀ vs H Q E, sp vs H Q E → vs.length = ps.length
  run : ∀ (A : Around) (outer : List Env) (s : Shared) (H : Hp) (args : Args) (us : List Value) (vs : List V) (Q : VK) (E : XK), A.guards = some [] → Room k A → Env0 P w K mg base A outer s H → BindsTo s fd args (ps.zip us) → Vals vs us → sp vs H Q E →
    codeAny (model P w) A (.call (.ref f) args) (CR CX0 outer P w H s Q E) s
theorem fn_ofG {P : Program} {w : World} {K : PySem.W.Frag} {mg : Str → Option Value} {base : Heap} {x qual : Str} {st : Stmt} {f : Addr} {fd : FuncData} {N ps : List Str} {k : Nat} {sp : Sp} (F : L2.Fun K x qual st f fd) (S : FnScope N ps (defScope st)) (len : ∀ vs H Q E, sp vs H Q E → vs.length = ps.length)
    (hb : ∀ (cdv : Value) (A : Around) (outer : List Env) (s : Shared) (H : Hp) (vs : List V) (Q : VK) (E : XK), A.guards = some [] → Room k (A.deeper (envOfC qual (defScope st) s.heap.objs.size f cdv)) → sp vs H Q E →
      ∃ t, PSs (cxOf CX0 P w K mg base N qual (defScope st) f cdv A outer s H E).nox (defBody st) t ∧ t { nx := fun _ H' => Q .non H', rt := Q } (L2.start N vs) H) : FnG P w K mg base (k + 1) f fd ps sp := by
  obtain ⟨oc, od, kV, doc, pm, an, cdv, ct, osl, rfl, lk, hcd⟩ := F.ex
  refine ⟨len, fun A outer s H args us vs Q E gd hr en bn rv hs => ?_⟩
  obtain ⟨t, tp, tq⟩ := hb cdv A outer s H vs Q E gd (hr.deeper _) hs
  have inb : ∀ b o, base.get? b = some o → s.heap.get? b = some o := fun b o e => (en.bs b o e).1
  have kin : K.In s.heap := en.mod.kin.keeps inb
  refine codeAny_call_function hr.depth (kin _ _ lk) rfl S.co S.gen rfl (PySem.W.codeRec_of kin hcd) (bn _ _ _ _ (wpAny_newFunctionEnv_cells S.kind (fun y hy => ?_) fun env he s1 z => ?_))
  · obtain ⟨nm, v⟩ := y
    exact (S.par nm (List.of_mem_zip hy).1).imp id fun q => ⟨q, PySem.W.cellsFrom_some _ _ _ (.inl q)⟩
  · subst he
    refine ⟨(en.mod.nolimit.keeps inb).keeps z.toInCall.keep, codeAny_func (wpAny_mono (tp.nox.run [] s1 (L2.start N vs) H _ (inv_start S hr.hd en (len _ _ _ _ hs) rv z) tq) (fun fl s' y => ?_) fun _ _ y => y)⟩
    cases fl with
    | ret u => obtain ⟨v, _, H', J, r, q⟩ := y; exact ⟨v, H', J.os, J.bare, J.base, J.hok, r, q⟩
    | next => obtain ⟨_, H', J, q⟩ := y; exact ⟨.non, H', J.os, J.bare, J.base, J.hok, rfl, q⟩
    | brk => obtain ⟨_, _, _, q⟩ := y; exact q.elim
    | cont => obtain ⟨_, _, _, q⟩ := y; exact q.elim
section
variable {P : Program} {w : World} {K : PySem.W.Frag} {mg : Str → Option Value} {base : Heap} {x qual : Str} {st : Stmt} {fa : Addr} {fd : FuncData} {N ps : List Str} {k n m : Nat} {Δn : List Kd} {g : Gs}
theorem fn_okNG (F : L2.Fun K x qual st fa fd) (S : FnScope N ps (defScope st)) (hn : ps.length = n) (hm : N.length = m) (hnm : n ≤ m)
    (hb : ∀ (cdv : Value) (A : Around) (outer : List Env) (s : Shared) (H : Hp) (E : XK), A.guards = some [] → Room k (A.deeper (envOfC qual (defScope st) s.heap.objs.size fa cdv)) → ∃ ts, BD (cxOf CX0 P w K mg base N qual (defScope st) fa cdv A outer s H E).nox K W0 .n (kd0 n m false) Δn (kd0 n m false) (kd0 n m false) (defBody st) ts g) :
    FnG P w K mg base (k + 1) fa fd ps (spG K mg n (fnN m g)) := by
  refine fn_ofG F S (fun vs H Q E h => ?_) (fun cdv A outer s H vs Q E gd hr h => ?_)
  · obtain ⟨ds, h1, _⟩ := h
    rw [h1, hn]
  · obtain ⟨ds, h1, h2, h3⟩ := h
    obtain ⟨ts, B⟩ := hb cdv A outer s H E gd hr
    refine ⟨ts, B.ps, B.ss ⟨H, fun a => H a = none, [], [], none, [], fun _ h => nomatch h⟩ _ _ H _ (r_start h1 hm hnm h2 (fun _ h => h) (fun e => nomatch e)) ?_⟩
    unfold fnN at h3
    cases e : g (ds ++ List.replicate (m - ds.length) .none) with
    | bad => rw [e] at h3; exact h3.elim
    | ex z => rw [e] at h3; exact h3.elim
    | ok fl =>
      rw [e] at h3
      cases fl with
      | nx ρ => exact fun σ' H' r => h3 .non H' r.ext .non
      | rt d => exact fun v H' s x => h3 v H' s x
      | bk ρ => exact h3.elim
      | ct ρ => exact h3.elim
end
section
variable {P : Program} {w : World} {K : PySem.W.Frag} {mg mb : Str → Option Value} {k : Nat} {fa a : Addr} {fd : FuncData} {s₁ : Shared} {vs : List Value} {ns : List Int} {g : List Dt → O Dt}
theorem law_runG {H : Hp} {ob : Obj} {xs : List V} (KX : K.In s₁.heap) (hns : s₁.heap.Ns mainGlobals mg) (hb : s₁.heap.Ns builtinsNs mb) (hbb : ∀ x : Str, x ≠ "__name__" → mb x = bootBuiltins x) (hlim : s₁.heap.NoLimit) (hg : s₁.gens = #[])
    (hr : Room k callerA) (F : ∀ base : Heap, K.In base → base.Ns mainGlobals mg → FnG P w K mg base k fa fd ["script"] (spG K mg 1 g)) (hbind : ∀ (s : Shared) (u : Value), BindsTo s fd ⟨[u], []⟩ [("script", u)])
    (hH : ∀ b u, H b = some u → b = a ∧ u = .frz ob (.lst xs)) (hob : s₁.heap.get? a = some ob) (hnd : ∀ es ep, ob.data ≠ .dict es ep) (hKa : ∀ u, H a = some u → K.lookup a = none) (hok : HOk P w H s₁.heap) (hS : SqL K H a (ns.map V.int)) (ht : g [frzD (ns.map .int)] = .ok (.bool true)) :
    codeAny (model P w) callerA (.call (.ref fa) ⟨[.ref a], []⟩) (fun r s' => r = .ok (.ret (.bool true)) ∧ OldK s₁.heap s'.heap ∧ s'.os = s₁.os ∧ AllBare s'.gens) s₁ := by
  have free : ∀ b o, s₁.heap.get? b = some o → (H b = none ∨ (b = a ∧ o = ob ∧ H b = some (.frz ob (.lst xs)))) := fun b o e => by
    cases q : H b with
    | none => exact .inl rfl
    | some u =>
      obtain ⟨rfl, rfl⟩ := hH b u q
      rw [hob] at e
      cases e
      exact .inr ⟨rfl, rfl, rfl⟩
  have dict : ∀ {b : Addr} {m : Str → Option Value}, s₁.heap.Ns b m → (hidT s₁.heap H).Ns b m := fun {b m} ⟨o, es, ep, e, d, r⟩ => by
    rcases free b o e with z | ⟨_, rfl, _⟩
    · exact ⟨o, es, ep, hidT_get e z, d, r⟩
    · exact absurd d (hnd es ep)
  have kin : K.In (hidT s₁.heap H) := fun b o e => by
    rcases free b o (KX b o e) with z | ⟨rfl, _, z⟩
    · exact hidT_get (KX b o e) z
    · rw [hKa _ z] at e
      cases e
  have md : L2.Mod K mg (hidT s₁.heap H) := ⟨kin, dict hns, ⟨mb, dict hb, hbb⟩, by obtain ⟨mc, h1, h2⟩ := hlim; exact ⟨mc, dict h1, h2⟩⟩
  have en : Env0 P w K mg (hidT s₁.heap H) callerA [] s₁ H := ⟨rfl, md, fun b o e => of_hidT e, Nat.le_of_eq (hidT_size _ _), trivial, fun b z => (by cases z), hok, .of_eq hg⟩
  have rp : RpA K (fun _ => True) H [V.ref a] [frzD (ns.map .int)] := by
    refine .cons (.fz ?_ (rpA_ints ns)) .nil
    rcases hS with (h | ⟨o, h⟩) | h
    · obtain ⟨_, z⟩ := hH _ _ h
      cases z
    · exact .inl ⟨o, h⟩
    · exact .inr h
  have sp : spG K mg 1 g [.ref a] H (fun v _ => v = .bl true) (fun _ _ _ => False) := ⟨_, rfl, rp, by
    rw [ht]
    intro v H' s x
    cases x
    rfl⟩
  refine codeAny_mono ((F _ kin (dict hns)).run callerA [] s₁ H ⟨[.ref a], []⟩ [.ref a] [.ref a] _ _ rfl hr en (hbind s₁ (.ref a)) (.cons rfl .nil) sp) fun r s' y => ?_
  cases r with
  | error e => exact False.elim y
  | ok fl =>
    cases fl with
    | next => exact False.elim y
    | brk => exact False.elim y
    | cont => exact False.elim y
    | ret u =>
      obtain ⟨v, H', os, bare, un, hok', rv, q⟩ := y
      subst q
      cases rv
      refine ⟨rfl, OldK.of_keep fun b o e => ?_, os, bare⟩
      rcases free b o e with z | ⟨rfl, rfl, z⟩
      · exact un.keep b o e z (fun z => by cases z) (fun z => by cases z)
      · exact (hok' _ _ (un.frzs _ _ _ z)).1
theorem law_callG (KX : K.In s₁.heap) (hns : s₁.heap.Ns mainGlobals mg) (hb : s₁.heap.Ns builtinsNs mb) (hbb : ∀ x : Str, x ≠ "__name__" → mb x = bootBuiltins x) (hlim : s₁.heap.NoLimit) (hg : s₁.gens = #[])
    (ha : s₁.heap.get? a = some { cls := .type "list", data := .seq vs.toArray }) (hi : IntsAre vs ns) (hl : ns.length ≤ sizeLine) (hr : Room k callerA)
    (F : ∀ base : Heap, K.In base → base.Ns mainGlobals mg → FnG P w K mg base k fa fd ["script"] (spG K mg 1 g)) (hbind : ∀ (s : Shared) (u : Value), BindsTo s fd ⟨[u], []⟩ [("script", u)]) (ht : g [frzD (ns.map .int)] = .ok (.bool true)) :
    codeAny (model P w) callerA (.call (.ref fa) ⟨[.ref a], []⟩) (fun r s' => r = .ok (.ret (.bool true)) ∧ OldK s₁.heap s'.heap ∧ s'.os = s₁.os ∧ AllBare s'.gens) s₁ := by
  have rv := vals_ints hi
  have nd : ∀ es ep, (({ cls := .type "list", data := .seq vs.toArray } : Obj).data) ≠ .dict es ep := fun es ep z => by
    have z2 : Data.seq vs.toArray _ = Data.dict es ep := z
    cases z2
  by_cases hk : K.lookup a = none
  · refine law_runG (H := fun b => if b = a then some (.frz { cls := .type "list", data := .seq vs.toArray } (.lst (ns.map V.int))) else none) (ob := { cls := .type "list", data := .seq vs.toArray }) (xs := ns.map V.int) KX hns hb hbb hlim hg hr F hbind (fun b u z => ?_) ha nd (fun _ _ => hk) (fun b u z => ?_) (.inl (.inr ⟨_, if_pos rfl⟩)) ht
    · by_cases c : b = a
      · rw [if_pos c] at z
        cases z
        exact ⟨c, rfl⟩
      · rw [if_neg c] at z
        cases z
    · dsimp only at z
      by_cases c : b = a
      · rw [if_pos c] at z
        cases z
        subst c
        exact ⟨ha, by rw [List.length_map]; exact hl, vs, _, rv, ha⟩
      · rw [if_neg c] at z
        cases z
  · obtain ⟨o, e⟩ := Option.ne_none_iff_exists'.mp hk
    have e2 := KX a o e
    rw [ha] at e2
    cases e2
    exact law_runG (H := fun _ => none) (ob := { cls := .type "list", data := .seq vs.toArray }) (xs := []) KX hns hb hbb hlim hg hr F hbind (fun b u z => nomatch z) ha nd (fun _ z => nomatch z) (fun b u z => nomatch z)
      (.inr ⟨_, vs.toArray, _, e, rfl, rfl, rfl, by rw [List.size_toArray, hi.length]; exact hl, by simpa using rv⟩) ht
end
theorem walk_ofG {l : PySem.W.OpenLaw} {n k : Nat} {q : Program} {loose : List Str} {XP : (Str → Option Value) → Heap → Prop} {YP : World → Heap → Prop} {d : DefRec} {K : Params → PySem.W.Frag} {g : List Dt → O Dt}
    (hn : l.most = some n) (hn2 : n ≤ sizeLine) (hdf : d.params.defaults = []) (hr : Room k callerA) (hY : ∀ (w : World) (h : Heap), YP w h → (K w.params).In h)
    (F : ∀ (w : World) (mg : Str → Option Value) (fa : Addr) (h : Heap), (K w.params).In h → h.Ns mainGlobals mg → mg d.name = some (.ref fa) →
      ∃ fd : FuncData, (∀ (s : Shared) (u : Value), BindsTo s fd ⟨[u], []⟩ [("script", u)]) ∧ ∀ base : Heap, (K w.params).In base → base.Ns mainGlobals mg → FnG l.prog w (K w.params) mg base k fa fd ["script"] (spG (K w.params) mg 1 g))
    (ht : ∀ ns : List Int, ns.length ≤ n → (∀ z ∈ ns, Builtin.Int.intBits z ≤ 1048576) → g [frzD (ns.map .int)] = .ok (.bool true)) :
    PySem.W.WalkO q loose XP YP l.row.toRowW d [] (fun f vs => PySem.call f vs) := by
  refine Att.attach_callB hn hdf fun w s₀ s₁ mg mb fa o pm cd doc a vs ns G Y ho hd hcd hmg hobj hints hlen hbits hg => ?_
  have KX := hY w _ Y
  obtain ⟨fd, hb, hF⟩ := F w mg fa _ KX G.T.g hmg
  exact law_callG KX G.T.g G.T.b G.T.builtins G.T.nolimit hg hobj hints (Nat.le_trans hlen hn2) hr hF hb (ht ns hlen hbits)
end Sim
end T_SimSt
section T_SimSg
set_option Elab.async false
set_option linter.all false
set_option maxRecDepth 100000
namespace Sim
open PySem PySem.Spec L2
open PyProof.Rows hiding St
section
variable {X : Cx} {K : PySem.W.Frag} {W : Wt} {Δ : List Kd} {e : Expr} {es : List Expr} {t tA : TA} {gA0 : List Dt → O (List Dt)} {gA : List Dt → O (List Dt × List Dt)} {av fr : Bool} {pos p : Pos} {k : Nat} {f : Addr} {fd : FuncData} {ps : List Str} {sp : Sp} {x : Str}
theorem pe_callG (F : FnG X.prog X.w X.K X.mg X.base k f fd ps sp) (gd : X.A.guards = some []) (hr : Room k X.A) (hg : Gl X x) (hm : X.mg x = some (.ref f)) (hk : PySem.W.keepIn X.K (.ref f) = true) (hb : Binds X.K fd ps []) (ha : PA X (e :: es) t)
    (hdb : (x == ("__debug__" : Str)) = false := by decide) (he : starEach (e :: es) X.env = (false, eval e X.env) :: starEach es X.env := by rfl) (hpl : (backTo pos (starEach es X.env)).any (·.1) = false := by rfl) : PE X (.Call (.Name x p) (e :: es) [] pos) (tCall sp [] E0 t) :=
  ⟨fun pins s σ H Q I h => wpAny_Call_Name_kw (ld_glob I hg hm (PySem.W.callWith_K (h₀ := X.base) I.ok.mod.kin hk (thn (ha.run pos pins s σ H _ I h) fun us s1 ⟨vs, H1, I1, r, q⟩ => ⟨I1.kIn, by
    have q : sp (vs ++ []) H1 Q E0 := q
    rw [List.append_nil] at q
    have hl : us.length = ps.length := by rw [← r.length]; exact F.len _ _ _ _ q
    have b := hb s1 us I1.kIn (by rw [List.append_nil]; exact hl)
    rw [List.append_nil] at b
    refine wpAny_call (codeAny_mono (F.run X.A X.stack s1 H1 ⟨us, []⟩ us vs Q E0 gd hr I1.env0 b r q) fun o s' y => ?_)
    cases o with
    | error z => exact False.elim y
    | ok fl =>
      cases fl with
      | ret u => exact I1.after y
      | next => exact False.elim y
      | brk => exact False.elim y
      | cont => exact False.elim y⟩) he hpl) hdb)⟩
theorem x_callNG {nn : Nat} {gg : List Dt → O Dt} {mg : Str → Option Value} (gd : X.A.guards = some []) (F : FnG X.prog X.w X.K X.mg X.base k f fd ps (spG K mg nn gg)) (hr : Room k X.A) (hm : X.mg x = some (.ref f)) (hk : PySem.W.keepIn X.K (.ref f) = true) (hb : Binds X.K fd ps [])
    (h : AD X K W Δ (e :: es) tA av fr gA0) (hg : Gl X x := by rfl) (hdb : (x == ("__debug__" : Str)) = false := by decide) (he : starEach (e :: es) X.env = (false, eval e X.env) :: starEach es X.env := by rfl) (hpl : (backTo pos (starEach es X.env)).any (·.1) = false := by rfl) :
    PD X K W Δ (.Call (.Name x p) (e :: es) [] pos) (tCall (spG K mg nn gg) [] E0 tA) (.v true true) (gCallN nn gg gA0) := ⟨pe_callG F gd hr hg hm hk hb h.pa hdb he hpl, h.hK, se_callN h.sa⟩
theorem xd_callNG {nn : Nat} {gg : List Dt → O Dt} {mg : Str → Option Value} (gd : X.A.guards = some []) (F : FnG X.prog X.w X.K X.mg X.base k f fd ps (spG K mg nn gg)) (hr : Room k X.A) (hm : X.mg x = some (.ref f)) (hk : PySem.W.keepIn X.K (.ref f) = true) (hb : Binds X.K fd ps [])
    (h : XAD X K Δ (e :: es) tA av fr gA) (hg : Gl X x := by rfl) (hdb : (x == ("__debug__" : Str)) = false := by decide) (he : starEach (e :: es) X.env = (false, eval e X.env) :: starEach es X.env := by rfl) (hpl : (backTo pos (starEach es X.env)).any (·.1) = false := by rfl) :
    XD X K Δ (.Call (.Name x p) (e :: es) [] pos) (tCall (spG K mg nn gg) [] E0 tA) (.v true true) (xCallN nn gg gA) := ⟨pe_callG F gd hr hg hm hk hb h.pa hdb he hpl, h.hK, sx_callN h.sa⟩
end
end Sim
end T_SimSg
section T_SimSk
set_option Elab.async false
set_option linter.all false
set_option maxRecDepth 100000
namespace Sim
open PySem PySem.Spec L2
open PyProof.Rows hiding St
open PySem.W (alike alikeAll dataLe AllAlike Sortable EachIs keyH_end KeepsBut KeyedOut keyedOut_each SortsAt dataKind copyHeap copyHeap_at copyHeap_old sorted_of_sort)
def isTc : Dt → Bool
  | .tuple (_ :: _) => true
  | _ => false
def notTN : Dt → Bool
  | .tuple _ => false
  | .none => false
  | _ => true
def sortK {α : Type} (xs : List α) (ks : List Dt) : List α := ((xs.zip ks).mergeSort (dataLe false Prod.snd)).map Prod.fst
section
variable {K : PySem.W.Frag} {F F' : Addr → Prop} {H H' : Hp} {q : Addr}
theorem canA_iff : ∀ {ds : List Dt}, (∀ d ∈ ds, PyData.canLay0 d = true) → PyData.canLayAll0 ds = true
  | [], _ => by simp [PyData.canLayAll0]
  | d :: ds, h => by
    have q := canA_iff fun e he => h e (List.mem_cons_of_mem _ he)
    simp [PyData.canLayAll0, h d List.mem_cons_self, q]
end
section
variable {X : Cx} {pins : List (Addr × Obj)} {σ : L2.St} {H : Hp} {s : Shared}
theorem vals_each : ∀ {vs : List V} {us : List Value}, Vals vs us → ∀ {ks : List Dt}, ks.length = vs.length → EachIs (fun u (p : V × Dt) => RelV p.1 u) us (vs.zip ks)
  | [], _, r, ks, _ => by cases r; exact .nil
  | v :: vs, _, r, [], h => by simp at h
  | v :: vs, _, r, k :: ks, h => by
    cases r with
    | cons h1 h2 => exact .cons h1 (vals_each h2 (by simpa using h))
theorem each_vals : ∀ {us : List Value} {ps : List (V × Dt)}, EachIs (fun u (p : V × Dt) => RelV p.1 u) us ps → Vals (ps.map (·.1)) us
  | _, _, .nil => .nil
  | _, _, .cons h t => .cons h (each_vals t)
theorem zip_snd : ∀ {xs : List V} {ks : List Dt}, ks.length = xs.length → (xs.zip ks).map Prod.snd = ks
  | [], [], _ => rfl
  | [], _ :: _, h => by simp at h
  | _ :: _, [], h => by simp at h
  | x :: xs, k :: ks, h => by rw [List.zip_cons_cons, List.map_cons, zip_snd (by simpa using h)]
end
theorem sortK_rp {K : PySem.W.Frag} {F : Addr → Prop} {H : Hp} {xs : List V} {ds ks : List Dt} (h : RpA K F H xs ds) (hl : ks.length = ds.length) : RpA K F H (sortK xs ks) (sortK ds ks) := by
  let L : List (V × Dt × Dt) := xs.zip (ds.zip ks)
  have hx := h.length
  have e1 : xs.zip ks = L.map fun t => (t.1, t.2.2) := by
    apply List.ext_getElem?
    intro i
    simp only [L, List.getElem?_map, List.getElem?_zip_eq_some, List.zip_eq_zipWith, List.getElem?_zipWith]
    cases a : xs[i]? <;> cases b : ds[i]? <;> cases c : ks[i]? <;> simp
    · have := List.getElem?_eq_none_iff.mp b
      have := (List.getElem?_eq_some_iff.mp a).1
      omega
  have e2 : ds.zip ks = L.map fun t => (t.2.1, t.2.2) := by
    apply List.ext_getElem?
    intro i
    simp only [L, List.getElem?_map, List.zip_eq_zipWith, List.getElem?_zipWith]
    cases a : xs[i]? <;> cases b : ds[i]? <;> cases c : ks[i]? <;> simp
    · have := List.getElem?_eq_none_iff.mp a
      have := (List.getElem?_eq_some_iff.mp b).1
      omega
  have m : ∀ t ∈ L, Rp K F H t.1 t.2.1 := fun t ht => by
    obtain ⟨i, hi, e⟩ := List.getElem_of_mem ht
    have h0 : L[i]? = some t := by rw [List.getElem?_eq_getElem hi, e]
    simp only [L, List.zip_eq_zipWith, List.getElem?_zipWith] at h0
    cases a : xs[i]? with
    | none => rw [a] at h0; simp at h0
    | some x =>
      obtain ⟨d, hd, hr⟩ := h.get a
      rw [a, hd] at h0
      cases c : ks[i]? with
      | none => rw [c] at h0; simp at h0
      | some k =>
        rw [c] at h0
        simp at h0
        rw [← h0]
        exact hr
  have q : ∀ T : List (V × Dt × Dt), (∀ t ∈ T, Rp K F H t.1 t.2.1) → RpA K F H (T.map (·.1)) (T.map fun t => t.2.1) := fun T => by
    induction T with
    | nil => exact fun _ => .nil
    | cons t T ih => exact fun hT => .cons (hT t List.mem_cons_self) (ih fun t ht => hT t (List.mem_cons_of_mem _ ht))
  have s1 : sortK xs ks = (L.mergeSort fun a b => PySem.W.dataLe false (fun t : V × Dt × Dt => t.2.2) a b).map (·.1) := by
    unfold sortK
    rw [e1, ← List.map_mergeSort (f := fun t : V × Dt × Dt => (t.1, t.2.2)) (r := fun a b => PySem.W.dataLe false (fun t : V × Dt × Dt => t.2.2) a b) (s := PySem.W.dataLe false Prod.snd) (fun a _ b _ => rfl), List.map_map]
    rfl
  have s2 : sortK ds ks = (L.mergeSort fun a b => PySem.W.dataLe false (fun t : V × Dt × Dt => t.2.2) a b).map fun t => t.2.1 := by
    unfold sortK
    rw [e2, ← List.map_mergeSort (f := fun t : V × Dt × Dt => (t.2.1, t.2.2)) (r := fun a b => PySem.W.dataLe false (fun t : V × Dt × Dt => t.2.2) a b) (s := PySem.W.dataLe false Prod.snd) (fun a _ b _ => rfl), List.map_map]
    rfl
  rw [s1, s2]
  exact q _ fun t ht => m t (List.mem_mergeSort.mp ht)
section
variable {X : Cx} {K : PySem.W.Frag} {W : Wt} {Δ : List Kd} {e : Expr} {tA : TA} {gA : List Dt → O (List Dt)} {fr : Bool} {pos : Pos}
end
def okData (ks : List Dt) : Bool := (ks.all fun d => ks.all fun e => alike d e) && (ks.all isTc || ks.all notTN) && ks.all fun d => PyData.canLay0 d && decide (d.depth ≤ 50)
theorem okData_al {ks : List Dt} (h : okData ks = true) : AllAlike ks := by
  unfold okData at h
  rw [Bool.and_eq_true, Bool.and_eq_true] at h
  intro d hd e he
  exact List.all_eq_true.mp (List.all_eq_true.mp h.1.1 d hd) e he
theorem okData_so {ks : List Dt} (h : okData ks = true) : Sortable ks := by
  unfold okData at h
  rw [Bool.and_eq_true, Bool.and_eq_true, Bool.or_eq_true] at h
  rcases h.1.2 with h | h
  · refine .inl fun d hd => ?_
    have q := List.all_eq_true.mp h d hd
    unfold isTc at q
    split at q
    · exact ⟨_, _, rfl⟩
    · cases q
  · refine .inr fun d hd => ?_
    have q := List.all_eq_true.mp h d hd
    refine ⟨fun e => ?_, fun xs e => ?_⟩
    · subst e; cases q
    · subst e; cases q
theorem okData_of {ks : List Dt} (h : okData ks = true) : ∀ d ∈ ks, PyData.canLay0 d = true ∧ d.depth ≤ 50 := by
  unfold okData at h
  rw [Bool.and_eq_true, Bool.and_eq_true] at h
  intro d hd
  have q := List.all_eq_true.mp h.2 d hd
  rw [Bool.and_eq_true, decide_eq_true_eq] at q
  exact q
def rSortD (K : PySem.W.Frag) : List V → Hp → VK → Prop := fun vs H Q => ∃ (a : Addr) (xs : List V) (ds : List Dt), vs = [V.ref a] ∧ SqL K H a xs ∧ DpAll K H xs ds ∧ ds.length = xs.length ∧ okData ds = true ∧ ∀ p, H p = none → Q (.ref p) (upd H p (.lst (sortK xs ds)))
def hSortD : Dt → O Dt := fun d => match d with
  | .list ds => if okData ds then .ok (.list (sortK ds ds)) else .bad
  | _ => .bad
section
variable {X : Cx} {K : PySem.W.Frag} {W : Wt} {Δ : List Kd} {e : Expr} {es : List Expr} {tA : TA} {gA : List Dt → O (List Dt)} {fr : Bool} {pos : Pos}
theorem cr_sortD {k : Nat} (hr : Room k X.A) : CallR X (.builtin "sorted") (rSortD X.K) := by
  intro pins s σ H vs us Q I r h
  obtain ⟨a, xs, ds, rfl, hs, hdp, hl, hk, q⟩ := h
  rw [Vals.ref1 r]
  obtain ⟨its, rv, hpl, hz⟩ := I.list hs
  obtain ⟨as, hrd⟩ := Dp.readsAll I _ _ _ hdp rv
  have hvl := rv.length
  have hbs : (xs.zip ds).map Prod.snd = ds := zip_snd hl
  have hlz : (xs.zip ds).length = its.length := by
    rw [List.length_zip]
    omega
  refine PySem.W.sorted_data (enc := Prod.snd) (bs := xs.zip ds) hpl.isList (vals_each rv hl) (PySem.W.readsAll_each Prod.snd (by rw [hbs]; exact hrd)) (by rw [hbs]; exact okData_al hk) (by rw [hbs]; exact okData_so hk) (by rw [hlz, ← hvl]; exact hz) (fun b hb => ?_) fun out lo eo => ?_
  · have := (okData_of hk b.2 (by rw [← hbs]; exact List.mem_map.mpr ⟨b, hb, rfl⟩)).2
    have := hr.un
    omega
  · obtain ⟨ep, he'⟩ := PyProof.Rows.sortedAll_at s.heap its out.toArray
    have ls : (sortK xs ds).length = its.length := by
      unfold sortK
      rw [List.length_map, List.length_mergeSort, hlz]
    exact ⟨.ref _, upd H (s.heap.objs.size + 1) (.lst (sortK xs ds)), I.laid (t' := s.toks) (fun _ _ => PyProof.Rows.sortedAll_old) (Nat.le_succ _) ⟨by rw [ls, ← hvl]; exact hz, out, ep, each_vals eo, he'⟩, rfl, q _ (I.hok.fresh (Nat.le_succ _))⟩
end
end Sim
end T_SimSk
section T_SimTs
set_option Elab.async false
set_option linter.all false
set_option maxRecDepth 100000
namespace Sim
open PySem PySem.Spec L2
open PyProof.Rows hiding St
section
variable {K : PySem.W.Frag} {W : Wt} {Δ : List Kd}
end
section
variable {X : Cx} {K : PySem.W.Frag} {W : Wt} {Δ : List Kd} {e : Expr} {es : List Expr} {tA : TA} {gA : List Dt → O (List Dt)} {av fr : Bool} {pos : Pos}
end
end Sim
end T_SimTs
section T_SimTk
set_option Elab.async false
set_option linter.all false
set_option maxRecDepth 100000
namespace Sim
open PySem PySem.Spec L2
open PyProof.Rows hiding St
section
variable {K : PySem.W.Frag} {Δ : List Kd} {ta : TE} {tA : TA} {ga : Gd} {gA : List Dt → O (List Dt × List Dt)} {fr fr' : Bool} {n : Nat} {g : List Dt → O Dt}
end
section
variable {X : Cx} {K : PySem.W.Frag} {Δ : List Kd} {e : Expr} {es : List Expr} {ta : TE} {tA : TA} {ga : Gd} {gA : List Dt → O (List Dt × List Dt)} {fr fr' : Bool} {pos : Pos}
end
end Sim
end T_SimTk
section T_SimCt
set_option Elab.async false
set_option linter.all false
set_option maxRecDepth 100000
namespace Sim
open PySem PySem.Spec L2
open PyProof.Rows hiding St
theorem SX.wkNew {K : PySem.W.Frag} {Δ : List Kd} {ta : TE} {ga : Gx} {fr fr' : Bool} (h : SX K Δ ta (.new .l fr) ga) (hw : fr' = true → fr = true) : SX K Δ ta (.new .l fr') ga := fun f ρ σ H Q r q => h f ρ σ H Q r <| by
  cases e : ga ρ with
  | bad => rw [e] at q; exact q.elim
  | ex z => rw [e] at q; exact q.elim
  | ok d =>
    rw [e] at q
    exact fun p H' r np h0 x => q p H' r np h0 (x.map (fun _ e => e) fun _ _ y => y.weak fun a fa => fa.weak id hw)
end Sim
end T_SimCt
section T_SimSa
set_option Elab.async false
set_option linter.all false
set_option maxRecDepth 100000
namespace L2
open PySem PySem.Spec PyProof.Rows
section
variable {prog : Program} {w : World} {A : Around} {E : Value → Shared → Prop} {s : Shared}
theorem bounds_clip {a c n : Nat} (hac : a ≤ c) (ha : a ≤ n) : sliceBounds (some (a : Int)) (some (c : Int)) none n = ((a : Int), ((min c n : Nat) : Int), 1) := by
  simp only [sliceBounds, Option.getD_none]
  have h1 : ¬ ((a : Int) < 0) := by omega
  have h2 : ¬ ((c : Int) < 0) := by omega
  simp only [h1, h2, if_false, show (1 : Int) > 0 by decide, if_true]
  congr 1
  · omega
  · congr 1; omega
set_option maxRecDepth 100000 in
theorem setItem_clip {l b sl : Addr} {items new : Array Value} {n n2 : Nat} {vl vu : Value} {a c d : Nat} {Q : Unit → Shared → Prop}
    (e : s.heap.get? l = some { cls := .type "list", data := .seq items n }) (e2 : s.heap.get? b = some { cls := .type "list", data := .seq new n2 }) (hne : l ≠ b)
    (hs : s.heap.IsSliceOf sl vl vu .none) (pl : IsPart vl (some (a : Int))) (pu : IsPart vu (some (c : Int))) (hac : a ≤ c) (ha : a ≤ items.size) (hd : d = min c items.size)
    (hsz : items.size + new.size ≤ sizeLine) (h : Q () { s with heap := s.heap.update l (Obj.mapSeq fun xs => xs.extract 0 a ++ new ++ xs.extract d xs.size) }) :
    wpAny (model prog w) A (setItem (.ref l) (.ref sl) (.ref b)) Q E s := by
  have hl : s.heap.IsList l items := PySem.IsL.isList e
  have hb : s.heap.IsList b new := PySem.IsL.isList e2
  obtain ⟨os, hos, hcs, hds⟩ := id hs
  have hTs : s.TypeIs (.ref sl) "slice" := ⟨os, hos, hcs⟩
  have hstep : ¬ ((rawPart none == rawInt 0) = true) := Bool.false_ne_true
  have hsame : Builtin.List.listSameRef (.ref l) (.ref b) = false := beq_eq_false_iff_ne.mpr hne
  have hmax : (max (a : Int) (d : Int)).toNat = d := by omega
  have hz' : ((fun xs : Array Value => xs.extract 0 a ++ new ++ xs.extract d xs.size) items).size ≤ sizeLine + 1 := by
    simp only [Array.size_append, Array.size_extract]
    omega
  unfold setItem
  try with_reducible refine wpAny_holding ?_
  first | refine wpAny_bind (wpAny_pure ?_) | skip
  refine wpAny_bind (wpAny_sequenceKey hl.typeIs (by decide) ?_)
  refine wpAny_bind (wpAny_callSpecial?_slot (name := Str.ofString "__setitem__") hl.typeIs slot_list_setitem
    (wpAny_call_entry slot_list_setitem hl.typeIs entry_list_setitem ?_ (args_list_setitem _ _ _)))
  show wpAny _ _ (Builtin.List.listSubscript? (.ref sl) >>= _) _ _ s
  refine wpAny_bind ?_
  unfold Builtin.List.listSubscript?
  refine wpAny_bind (wpAny_specialOf hTs slice_no_index ?_)
  simp only [Option.isNone_none, if_true]
  refine wpAny_pure ?_
  show wpAny _ _ (typeOf (.ref sl) >>= _) _ _ s
  refine wpAny_bind (wpAny_typeOf hTs ?_)
  first
    | rw [if_neg (by decide)]
    | refine PySem.W.KFB.if_not (by decide) ?_
  rw [listSliceParts_eq]
  refine wpAny_bind (wpAny_bind (wpAny_field hos hds (x := .none) rfl (wpAny_bind (wpAny_listPart .none ?_))))
  rw [if_neg hstep]
  refine wpAny_bind (wpAny_field hos hds (x := vl) rfl (wpAny_bind (wpAny_listPart pl ?_)))
  refine wpAny_bind (wpAny_field hos hds (x := vu) rfl (wpAny_bind (wpAny_listPart pu (wpAny_pure ?_))))
  first
    | simp only [hsame, Bool.false_eq_true, if_false]
    | refine PySem.W.KFB.if_not hsame ?_
    | (dsimp only
       rw [if_neg (by rw [hsame]; exact Bool.false_ne_true)])
  refine wpAny_bind (m := Builtin.List.listAllItems (.ref b) "must assign iterable to extended slice") ?_
  unfold Builtin.List.listAllItems
  refine wpAny_bind (wpAny_typeOf hb.typeIs ?_)
  first
    | refine PySem.W.KFB.if_so (by decide) ?_
    | rw [if_pos (by decide)]
    | simp only [beq_self_eq_true, Bool.true_or, if_true]
  unfold Builtin.List.listItems
  refine wpAny_bind (wpAny_seqItems e2 rfl (wpAny_pure ?_))
  refine wpAny_bind (wpAny_bind (wpAny_seqItems e rfl (wpAny_pure ?_)))
  refine wpAny_bind (wpAny_of_eq ((sliceIndices_raw (some (a : Int)) (some (c : Int)) none items.size (by simp)).trans (congrArg (pure : Int × Int × Int → Sem (Int × Int × Int)) (bounds_clip hac ha))) ?_)
  rw [← hd]
  show wpAny _ _ (if ((1 : Int) == 1) = true then _ else _) _ _ s
  rw [if_pos (by decide)]
  refine wpAny_bind (wpAny_rule ?_)
  first
    | simp only [notLongL hsz, Bool.false_eq_true, if_false]
    | refine PySem.W.KFB.if_not (notLongL hsz) ?_
  first | refine wpAny_bind (wpAny_pure ?_) | skip
  show wpAny _ _ (updateSeq l (fun xs => xs.extract 0 ((a : Int)).toNat ++ new ++ xs.extract (max (a : Int) (d : Int)).toNat xs.size) >>= _) _ _ s
  rw [hmax, Int.toNat_natCast]
  refine wpAny_bind (wpAny_updateSeq (hz := Nat.le_trans (Nat.le_add_right _ _) hsz) (_hz' := hz') e rfl ?_)
  refine wpAny_bind (wpAny_letGo ?_)
  first
    | exact wpAny_bind (wpAny_pure (wpAny_pure ⟨.none, rfl, wpAny_pure h⟩))
    | exact wpAny_pure ⟨.none, rfl, wpAny_pure h⟩
end
section
variable {X : Cx}
theorem set_sliceC {pins : List (Addr × Obj)} {s : Shared} {σ : St} {H : Hp} {l b sl : Addr} {xs ys : List V} {a c : Int} {vl vu : Value} {Q : Unit → Shared → Prop} (I : Inv X pins σ H s)
    (hH : H l = some (.lst xs)) (hB : H b = some (.lst ys)) (hne : l ≠ b) (hs : s.heap.IsSliceOf sl vl vu .none) (ra : IsPart vl (some a)) (rc : IsPart vu (some c)) (h0 : 0 ≤ a) (hac : a ≤ c) (hc : a ≤ xs.length)
    (hz : xs.length + ys.length ≤ sizeLine) (h : ∀ s', Inv X pins σ (upd H l (.lst (xs.take a.toNat ++ ys ++ xs.drop c.toNat))) s' → Q () s') :
    wpAny (model X.prog X.w) X.A (setItem (.ref l) (.ref sl) (.ref b)) Q X.xe s := by
  obtain ⟨z, its, n, r, hl, e⟩ := I.lstM hH
  obtain ⟨z2, its2, n2, r2, hl2, e2⟩ := I.lstM hB
  obtain ⟨a', rfl⟩ := Int.eq_ofNat_of_zero_le h0
  obtain ⟨c', rfl⟩ := Int.eq_ofNat_of_zero_le (Int.le_trans h0 hac)
  simp only [Int.toNat_natCast] at h
  have hsz : its.toArray.size = its.length := List.size_toArray
  refine setItem_clip (a := a') (c := c') (d := min c' its.length) e e2 hne hs ra rc (by omega) (by rw [hsz]; omega) (by rw [hsz]) (by rw [List.size_toArray, List.size_toArray]; omega) (h _ ?_)
  have ed : its.drop (min c' its.length) = its.drop c' := by
    by_cases q : c' ≤ its.length
    · rw [Nat.min_eq_left q]
    · rw [Nat.min_eq_right (by omega), List.drop_length, List.drop_eq_nil_of_le (by omega)]
  refine I.lset (its' := its.take a' ++ its2 ++ its.drop c') (t' := s.toks) hH e ?_ (Vals.append (Vals.append (r.take _) r2) (r.drop _)) ?_
  · rw [← ed]
    exact splice_eq its its2 a' _
  · rw [List.length_append, List.length_append, List.length_take, List.length_drop]
    omega
def gSubSl (to : TE) (tl th : TO) : TG := fun v σ H Q => to σ H fun o H1 => tl σ H1 fun a H2 => th σ H2 fun c H3 =>
  ∃ p b xs ys i j, o = .ref p ∧ a = some i ∧ c = some j ∧ v = .ref b ∧ H3 p = some (.lst xs) ∧ H3 b = some (.lst ys) ∧ p ≠ b ∧ 0 ≤ i ∧ i ≤ j ∧ i ≤ xs.length ∧ xs.length + ys.length ≤ sizeLine ∧
    Q σ (upd H3 p (.lst (xs.take i.toNat ++ ys ++ xs.drop j.toNat)))
theorem pg_subSl {o lo hi : Expr} {to : TE} {tl th : TO} {pos p2 : Pos} (ho : PE X o to) (hl : PO X (some lo) tl) (hu : PO X (some hi) th)
    (ha : ∀ v, assign (.Subscript o (.Slice (some lo) (some hi) none p2) pos) X.env v = (do
      let ov ← holding [v] (eval o X.env)
      let iv ← holding [v, ov] (eval (.Slice (some lo) (some hi) none p2) X.env)
      standAt pos
      holding [v, ov, iv] (setItem ov iv v)
      release [iv, v, ov] []) := by intro _; rfl) : PG X (.Subscript o (.Slice (some lo) (some hi) none p2) pos) (gSubSl to tl th) := by
  refine ⟨fun pins s σ H v u Q I r h => ?_⟩
  rw [ha]
  refine wpAny_bind (wpAny_holding (thn (ho.run pins s σ H _ I h) fun ov s1 ⟨x, H1, I1, r1, q1⟩ => ?_))
  refine wpAny_bind (wpAny_holding ?_)
  refine wpAny_Slice (thn (hl.run pins s1 σ H1 _ I1 q1) fun vl s2 ⟨l, H2, I2, pl, q2⟩ => thn (hu.run pins s2 σ H2 _ I2 q2) fun vu s3 ⟨c, H3, I3, pu, q3⟩ => ?_)
  rw [evalPart_none]
  refine wpAny_pure ?_
  have I4 : Inv X pins σ H3 { s3 with heap := s3.heap.push { cls := .type "slice", data := .fields #[vl, vu, .none] } } := I3.kept (t' := s3.toks) fun b ob q => Heap.get?_push_of_some _ q
  obtain ⟨p, b, xs, ys, i, j, rfl, rfl, rfl, rfl, e1, e2, ne, i0, ij, il, hz, q⟩ := q3
  cases r1
  cases r
  refine wpAny_bind (wpAny_standAt (wpAny_bind (wpAny_holding ?_)))
  refine set_sliceC I4 e1 e2 ne (Heap.IsSliceOf.new ..) pl pu i0 ij il hz fun s' I' => ?_
  exact wpAny_release ⟨σ, _, I', q⟩
end
end L2
namespace Sim
open PySem PySem.Spec L2
open PyProof.Rows hiding St
def gSetS (i : Nat) (ge gl gh : Gd) : Gs := fun ρ => bnd (ge ρ) fun d => match ρ[i]? with
  | some (.list ds) => bnd (gl ρ) fun a => (match a with
    | .int a => bnd (gh ρ) fun c => (match d, c with
      | .list es, .int c => if 0 ≤ a ∧ a ≤ c ∧ a ≤ ds.length ∧ ds.length + es.length ≤ 100000 then .ok (.nx (ρ.set i (.list (ds.take a.toNat ++ es ++ ds.drop c.toNat)))) else .bad
      | _, _ => .bad)
    | _ => .bad)
  | _ => .bad
section
variable {X : Cx} {K : PySem.W.Frag} {W : Wt} {L : Lk} {Δ Δb Δc : List Kd} {te tl th : TE} {ge gl gh : Gd} {i : Nat} {fr fr' av1 fr1 av2 fr2 : Bool} {e : Expr} {pos : Pos}
theorem s_setS (hk : Δ[i]? = some (.own .l fr)) (h : SE K W Δ te (.new .l fr') ge) (h1 : SE K W Δ tl (.v av1 fr1) gl) (h2 : SE K W Δ th (.v av2 fr2) gh) : SS K W L Δ (Δ.set i (.own .l (fr && fr'))) Δb Δc (tAsg te (gSubSl (tVar i) (tPart tl) (tPart th))) (gSetS i ge gl gh) := fun f ρ σ H E r q => h f ρ σ H _ r <| by
  obtain ⟨p, d, g1, g2, g3, vs, ds, ed, g4, g5⟩ := r.ow i .l fr hk
  subst ed
  unfold gSetS at q
  cases e : ge ρ with
  | bad => rw [e] at q; exact q
  | ex z => rw [e] at q; exact fun H' s => q σ H' (r.ext.trans s)
  | ok d =>
    rw [e, bnd_ok, g2] at q
    simp only at q
    intro b H1 nb s x
    obtain ⟨ws, es, ed, hb, x⟩ := x
    subst ed
    have hne : p ≠ b := fun z => by
      subst z
      rw [nb] at g4
      cases g4
    refine ⟨_, g1, h1 f ρ σ H1 _ (r.mono s) ?_⟩
    cases e2 : gl ρ with
    | bad => rw [e2] at q; exact q
    | ex z => rw [e2] at q; exact fun H' s2 => q σ H' ((r.ext.trans s).trans s2)
    | ok k =>
      rw [e2, bnd_ok] at q
      intro kv H2 s2 xk
      cases k with
      | int a =>
        simp only at q
        rw [rpInt xk]
        refine ⟨a, rfl, h2 f ρ σ H2 _ (r.mono (s.trans s2)) ?_⟩
        cases e3 : gh ρ with
        | bad => rw [e3] at q; exact q.elim
        | ex z => rw [e3] at q; exact fun H' s3 => q σ H' (((r.ext.trans s).trans s2).trans s3)
        | ok k2 =>
          rw [e3, bnd_ok] at q
          intro kv2 H3 s3 xk2
          cases k2 with
          | int c =>
            simp only at q
            by_cases hc : 0 ≤ a ∧ a ≤ c ∧ a ≤ ds.length ∧ ds.length + es.length ≤ 100000
            · rw [if_pos hc] at q
              rw [rpInt xk2]
              obtain ⟨c1, c2, c3, c4⟩ := hc
              have s13 := s2.trans s3
              have s03 := s.trans s13
              have hp := s03 _ _ g4
              have hb3 := s13 _ _ hb
              refine ⟨c, rfl, p, b, vs, ws, a, c, rfl, rfl, rfl, rfl, hp, hb3, hne, c1, c2, by rw [g5.length]; exact c3, by rw [g5.length, x.length]; exact sz_le c4, q σ _ ?_⟩
              refine (r.mono s03).updOwn hk g1 (c' := .l) (show Mutb (.lst _) from trivial) ⟨_, _, rfl, upd_same, ?_⟩
              have nf : ∀ {fr : Bool} (a : Addr), FM f Δ σ true fr a → a ≠ p := fun a fa z => (fa.1 rfl).1 (z ▸ ⟨i, .l, _, hk, g1⟩)
              have y1 := ((g5.same s03).updM (o' := .lst (vs.take a.toNat ++ ws ++ vs.drop c.toNat)) hp trivial fun a fa => nf a fa).weak (F' := FM f Δ σ true (fr && fr')) fun a y => y.weak id fun h => (Bool.and_eq_true_iff.mp h).1
              have y2 := (((x.same s13).weak fun a y => y.1).updM (o' := .lst (vs.take a.toNat ++ ws ++ vs.drop c.toNat)) hp trivial (fun a fa => nf a fa)).weak (F' := FM f Δ σ true (fr && fr')) fun a y => y.weak id fun h => (Bool.and_eq_true_iff.mp h).2
              exact ((y1.take _).append y2).append (y1.drop _)
            · rw [if_neg hc] at q
              exact q.elim
          | _ => exact q.elim
      | _ => exact q.elim
theorem z_setS (i : Nat) {x : Str} {p : Pos} {lo hi : Expr} {sp p2 : Pos} (h : PD X K W Δ e te (.new .l fr') ge) (h1 : PD X K W Δ lo tl (.v av1 fr1) gl) (h2 : PD X K W Δ hi th (.v av2 fr2) gh) (hk : Δ[i]? = some (.own .l fr) := by rfl) (hv : Vis X.env.scope x := by first | exact Or.inl rfl | exact Or.inr (Or.inl rfl) | exact Or.inr (Or.inr rfl)) (hN : X.N[i]? = some x := by rfl) (hd : (x == ("__debug__" : Str)) = false := by decide) (hcd : (x == ("__classdict__" : Str)) = false := by decide)
    (ha : ∀ v, assign (.Subscript (.Name x p) (.Slice (some lo) (some hi) none p2) sp) X.env v = (do
      let ov ← holding [v] (eval (.Name x p) X.env)
      let iv ← holding [v, ov] (eval (.Slice (some lo) (some hi) none p2) X.env)
      standAt sp
      holding [v, ov, iv] (setItem ov iv v)
      release [iv, v, ov] []) := by intro _; rfl) (hs : swapsWithSole [.Subscript (.Name x p) (.Slice (some lo) (some hi) none p2) sp] e pos.line X.env = pure false := by rfl) (hw : swappedStores [.Subscript (.Name x p) (.Slice (some lo) (some hi) none p2) sp] e X.env = pure none := by rfl)
    (h3 : (assignEach [.Subscript (.Name x p) (.Slice (some lo) (some hi) none p2) sp] X.env).map (·.2) = [assign (.Subscript (.Name x p) (.Slice (some lo) (some hi) none p2) sp) X.env] := by rfl) :
    SD X K W L Δ (Δ.set i (.own .l (fr && fr'))) Δb Δc (.Assign [.Subscript (.Name x p) (.Slice (some lo) (some hi) none p2) sp] e pos) (tAsg te (gSubSl (tVar i) (tPart tl) (tPart th))) (gSetS i ge gl gh) :=
  ⟨ps_asg h.pe (pg_subSl (pe_var hN hv hd hcd) (po_some h1.pe) (po_some h2.pe) ha) hs hw h3, h.hK, s_setS hk h.se h1.se h2.se⟩
end
def xCatO (i : Nat) (b : Gx) : Gx := fun ρ => bnd (b ρ) fun y => match y.2[i]? with
  | some d => bnd (hCat d y.1) fun z => .ok (z, y.2)
  | none => .bad
section
variable {K : PySem.W.Frag} {Δ : List Kd} {tb : TE} {gb : Gx} {fr fr' : Bool} {i : Nat}
theorem sx_catO (hk : Δ[i]? = some (.own .l fr)) (hb : SX K Δ tb (.v true fr') gb) : SX K Δ (tOp (rCatS K) (tVar i) tb) (.new .l (fr && fr')) (xCatO i gb) := fun f ρ σ H Q R q => by
  obtain ⟨p, d0, h1, _, _, _⟩ := R.ow i .l fr hk
  refine ⟨_, h1, hb f ρ σ H _ R ?_⟩
  unfold xCatO at q
  obtain ⟨⟨d2, ρ2⟩, e2, q⟩ := bnd_inv' (P := fun o => PoX K f Δ σ (.new .l (fr && fr')) o Q) id (fun _ => id) q
  rw [e2]
  intro v2 H2 R2 x2
  obtain ⟨p', d, h1', h2, h3, vs, ds, ed, h4, h5⟩ := R2.ow i .l fr hk
  rw [h1] at h1'
  cases h1'
  subst ed
  simp only [h2] at q
  have q : PoX K f Δ σ (.new .l (fr && fr')) (bnd (hCat (.list ds) d2) fun z => .ok (z, ρ2)) Q := q
  unfold hCat at q
  split at q
  · rename_i ds' es' e3 e4
    cases e3
    split at q
    · rename_i hz
      obtain ⟨b, ys, rfl, hs2, r2⟩ := x2.sql
      refine ⟨p, b, vs, ys, rfl, rfl, .inl (.inl h4), hs2, sz_le (by rw [h5.length, r2.length]; exact hz), fun p np => ?_⟩
      obtain ⟨f1, f2, f3⟩ := R2.fresh np
      rw [bnd_ok] at q
      refine q p _ (R2.pinNew np (same_upd np) ⟨_, upd_same, trivial⟩) f2 f3 ⟨_, _, rfl, upd_same, ?_⟩
      exact (h5.mono (same_upd np) fun a fa na => ⟨fun _ => ⟨(fa.1 rfl).1, fun z => by
        rcases List.mem_cons.mp z with e | h
        · exact na (e ▸ np)
        · exact (fa.1 rfl).2 h⟩, fun h => fa.2 (Bool.and_eq_true_iff.mp h).1⟩).append (r2.mono (same_upd np) fun a fa na => ⟨fun _ => ⟨(fa.1 rfl).1, fun z => by
        rcases List.mem_cons.mp z with e | h
        · exact na (e ▸ np)
        · exact (fa.1 rfl).2 h⟩, fun h => fa.2 (Bool.and_eq_true_iff.mp h).2⟩)
    · exact q.elim
  · exact q.elim
end
theorem xd_catO {X : Cx} {b : Expr} {pos : Pos} {K : PySem.W.Frag} {Δ : List Kd} {tb : TE} {gb : Gx} {fr fr' : Bool} (i : Nat) (fr2 : Bool) {x : Str} {p : Pos} (hb : XD X K Δ b tb (.v true fr') gb) (hk : Δ[i]? = some (.own .l fr) := by rfl) (hw : fr2 = true → (fr && fr') = true := by decide) (hN : X.N[i]? = some x := by rfl) (hv : Vis X.env.scope x := by first | exact Or.inl rfl | exact Or.inr (Or.inl rfl) | exact Or.inr (Or.inr rfl)) (hd : (x == ("__debug__" : Str)) = false := by decide)
    (hcd : (x == ("__classdict__" : Str)) = false := by decide) : XD X K Δ (.BinOp (.Name x p) .Add b pos) (tOp (rCatS K) (tVar i) tb) (.new .l fr2) (xCatO i gb) :=
  ⟨pe_op (by have q := op_catS (X := X); rw [hb.hK] at q; exact q) (pe_var hN hv hd hcd) hb.pe, hb.hK, (sx_catO hk hb.sx).wkNew hw⟩
theorem xCatO_ok {i : Nat} {b : Gx} {ρ ρ' : List Dt} {ds es : List Dt} (h : b ρ = .ok (.list es, ρ')) (h2 : ρ'[i]? = some (.list ds)) (hl : ds.length + es.length ≤ 100000) : xCatO i b ρ = .ok (.list (ds ++ es), ρ') := by
  unfold xCatO
  rw [h, bnd_ok]
  simp only [h2]
  unfold hCat
  simp only [hl, if_true]
  rfl
theorem setS_ok {i : Nat} {ge gl gh : Gd} {ρ : List Dt} {ds es : List Dt} {a c : Int} (h : ge ρ = .ok (.list es)) (h0 : ρ[i]? = some (.list ds)) (h1 : gl ρ = .ok (.int a)) (h2 : gh ρ = .ok (.int c)) (c1 : 0 ≤ a) (c2 : a ≤ c) (c3 : a ≤ ds.length) (c4 : ds.length + es.length ≤ 100000) :
    gSetS i ge gl gh ρ = .ok (.nx (ρ.set i (.list (ds.take a.toNat ++ es ++ ds.drop c.toNat)))) := by
  unfold gSetS
  rw [h, bnd_ok, h0]
  simp only [h1, h2, bnd_ok]
  exact if_pos ⟨c1, c2, c3, c4⟩
end Sim
end T_SimSa
section T_SimSb
set_option Elab.async false
set_option linter.all false
set_option maxRecDepth 100000
namespace Sim
open PySem PySem.Spec L2
open PyProof.Rows hiding St
section
variable {K : PySem.W.Frag} {Δ : List Kd} {tA : TA} {gA : List Dt → O (List Dt × List Dt)} {fr : Bool}
theorem sx_sortD (ha : SXA K Δ tA true fr gA) : SX K Δ (tCB (rSortD K) tA) (.new .l fr) (xCB (one hSortD) gA) := fun f ρ σ H Q R q => by
  refine ha f ρ σ H _ R ?_
  unfold xCB at q
  obtain ⟨⟨ds, ρ1⟩, e1, q⟩ := bnd_inv' (P := fun o => PoX K f Δ σ (.new .l fr) o Q) id (fun _ => id) q
  rw [e1]
  intro vs H1 R1 x1
  have q : PoX K f Δ σ (.new .l fr) (bnd (one hSortD ds) fun z => .ok (z, ρ1)) Q := q
  rcases one_eq (h := hSortD) (ds := ds) with ⟨d, rfl, e⟩ | e
  · rw [e] at q
    cases x1 with
    | cons x1 xr =>
      cases xr
      cases d with
      | list es =>
        obtain ⟨a, xs, rfl, hs, r⟩ := x1.sql
        unfold hSortD at q
        simp only at q
        by_cases hk : okData es = true
        · rw [if_pos hk] at q
          refine ⟨a, xs, es, rfl, hs, r.dp (canA_iff fun d hd => (okData_of hk d hd).1), r.length.symm, hk, fun p np => ?_⟩
          obtain ⟨f1, f2, f3⟩ := R1.fresh np
          refine q p _ (R1.pinNew np (same_upd np) ⟨_, upd_same, trivial⟩) f2 f3 ⟨_, _, rfl, upd_same, (sortK_rp r rfl).mono (same_upd np) fun a fa na => ⟨fun _ => ⟨(fa.1 rfl).1, fun z => by
            rcases List.mem_cons.mp z with e | h
            · exact na (e ▸ np)
            · exact (fa.1 rfl).2 h⟩, fa.2⟩⟩
        · rw [if_neg hk] at q
          exact q.elim
      | _ => exact q.elim
  · rw [e] at q
    exact q.elim
end
section
variable {X : Cx} {K : PySem.W.Frag} {Δ : List Kd} {e : Expr} {es : List Expr} {tA : TA} {gA : List Dt → O (List Dt × List Dt)} {fr : Bool} {pos : Pos}
theorem xd_sortD {k : Nat} {x : Str} {p : Pos} (hr : Room k X.A) (hm : X.mg x = none) (h : XAD X K Δ (e :: es) tA true fr gA) (hv : bootBuiltins x = some (.builtin "sorted") := by decide +kernel) (hg : Gl X x := by rfl) (hn : x ≠ "__name__" := by decide) (hdb : (x == ("__debug__" : Str)) = false := by decide)
    (he : starEach (e :: es) X.env = (false, eval e X.env) :: starEach es X.env := by rfl) (hpl : (backTo pos (starEach es X.env)).any (·.1) = false := by rfl) :
    XD X K Δ (.Call (.Name x p) (e :: es) [] pos) (tCB (rSortD K) tA) (.new .l fr) (xCB (one hSortD) gA) :=
  ⟨pe_callB (by have q := cr_sortD (X := X) hr; rw [h.hK] at q; exact q) hg hm hv h.pa hn hdb he hpl, h.hK, sx_sortD h.sa⟩
end
end Sim
end T_SimSb
section T_K18
set_option Elab.async false
set_option linter.all false
set_option maxRecDepth 100000
set_option maxHeartbeats 4000000
namespace K18
open PySem PySem.Spec L2 Sim
open PyProof.Rows hiding St
def topS (i : Nat) : Stmt := PySem.Challenge.pw_sinceply_k18_nets_known.main.body.getD i (.Pass ⟨0, 0, 0, 0⟩)
abbrev st_is_whole : Stmt := topS 6
theorem sc_is_whole : FnScope ["thing"] ["thing"] (defScope st_is_whole) := ⟨rfl, rfl, rfl, by decide +kernel, rfl, by decide +kernel, by decide +kernel⟩
abbrev st_is_place : Stmt := topS 7
theorem sc_is_place : FnScope ["n", "thing"] ["n", "thing"] (defScope st_is_place) := ⟨rfl, rfl, rfl, by decide +kernel, rfl, by decide +kernel, by decide +kernel⟩
abbrev st_is_moment : Stmt := topS 8
theorem sc_is_moment : FnScope ["thing"] ["thing"] (defScope st_is_moment) := ⟨rfl, rfl, rfl, by decide +kernel, rfl, by decide +kernel, by decide +kernel⟩
abbrev st_is_meeting : Stmt := topS 9
theorem sc_is_meeting : FnScope ["n", "thing"] ["n", "thing"] (defScope st_is_meeting) := ⟨rfl, rfl, rfl, by decide +kernel, rfl, by decide +kernel, by decide +kernel⟩
abbrev st_is_tie : Stmt := topS 10
theorem sc_is_tie : FnScope ["n", "thing"] ["n", "thing"] (defScope st_is_tie) := ⟨rfl, rfl, rfl, by decide +kernel, rfl, by decide +kernel, by decide +kernel⟩
abbrev st_is_record : Stmt := topS 11
theorem sc_is_record : FnScope ["n", "thing", "tie", "at"] ["n", "thing"] (defScope st_is_record) := ⟨rfl, rfl, rfl, by decide +kernel, rfl, by decide +kernel, by decide +kernel⟩
abbrev st_joined : Stmt := topS 13
theorem sc_joined : FnScope ["marks", "a", "b", "low", "high", "mark"] ["marks", "a", "b"] (defScope st_joined) := ⟨rfl, rfl, rfl, by decide +kernel, rfl, by decide +kernel, by decide +kernel⟩
abbrev st_is_depth : Stmt := topS 16
theorem sc_is_depth : FnScope ["thing"] ["thing"] (defScope st_is_depth) := ⟨rfl, rfl, rfl, by decide +kernel, rfl, by decide +kernel, by decide +kernel⟩
abbrev st_look_at_layers : Stmt := topS 17
theorem sc_look_at_layers : FnScope ["k"] ["k"] (defScope st_look_at_layers) := ⟨rfl, rfl, rfl, by decide +kernel, rfl, by decide +kernel, by decide +kernel⟩
abbrev st_layer_for : Stmt := topS 18
theorem sc_layer_for : FnScope ["marks", "a", "b", "j", "row"] ["marks", "a", "b"] (defScope st_layer_for) := ⟨rfl, rfl, rfl, by decide +kernel, rfl, by decide +kernel, by decide +kernel⟩
abbrev st_layered : Stmt := topS 19
theorem sc_layered : FnScope ["n", "record", "k", "marks", "j", "numbers", "moment", "a", "b"] ["n", "record", "k"] (defScope st_layered) := ⟨rfl, rfl, rfl, by decide +kernel, rfl, by decide +kernel, by decide +kernel⟩
abbrev st_is_count : Stmt := topS 23
theorem sc_is_count : FnScope ["thing", "most"] ["thing", "most"] (defScope st_is_count) := ⟨rfl, rfl, rfl, by decide +kernel, rfl, by decide +kernel, by decide +kernel⟩
abbrev st_is_net : Stmt := topS 24
theorem sc_is_net : FnScope ["thing", "n", "k", "ties"] ["thing"] (defScope st_is_net) := ⟨rfl, rfl, rfl, by decide +kernel, rfl, by decide +kernel, by decide +kernel⟩
abbrev st_l_folded : Stmt := topS 26
theorem sc_l_folded : FnScope ["cells", "many", "found", "k", "cell"] ["cells", "many"] (defScope st_l_folded) := ⟨rfl, rfl, rfl, by decide +kernel, rfl, by decide +kernel, by decide +kernel⟩
abbrev st_l_begun : Stmt := topS 27
theorem sc_l_begun : FnScope ["cell", "rest"] ["cell"] (defScope st_l_begun) := ⟨rfl, rfl, rfl, by decide +kernel, rfl, by decide +kernel, by decide +kernel⟩
abbrev st_l_take : Stmt := topS 28
theorem sc_l_take : FnScope ["pot", "size", "digit", "mixed"] ["pot", "size"] (defScope st_l_take) := ⟨rfl, rfl, rfl, by decide +kernel, rfl, by decide +kernel, by decide +kernel⟩
abbrev st_l_wide : Stmt := topS 29
theorem sc_l_wide : FnScope ["pot", "size", "number", "turn"] ["pot", "size"] (defScope st_l_wide) := ⟨rfl, rfl, rfl, by decide +kernel, rfl, by decide +kernel, by decide +kernel⟩
abbrev st_l_places : Stmt := topS 30
theorem sc_l_places : FnScope ["pot"] ["pot"] (defScope st_l_places) := ⟨rfl, rfl, rfl, by decide +kernel, rfl, by decide +kernel, by decide +kernel⟩
abbrev st_l_depth : Stmt := topS 31
theorem sc_l_depth : FnScope ["pot"] ["pot"] (defScope st_l_depth) := ⟨rfl, rfl, rfl, by decide +kernel, rfl, by decide +kernel, by decide +kernel⟩
abbrev st_l_ends : Stmt := topS 32
theorem sc_l_ends : FnScope ["pot", "n", "ties", "a", "b", "moment"] ["pot", "n", "ties"] (defScope st_l_ends) := ⟨rfl, rfl, rfl, by decide +kernel, rfl, by decide +kernel, by decide +kernel⟩
abbrev st_l_drawn_ties : Stmt := topS 33
theorem sc_l_drawn_ties : FnScope ["pot", "n", "most", "moment", "found", "turn", "step", "a", "b"] ["pot", "n", "most"] (defScope st_l_drawn_ties) := ⟨rfl, rfl, rfl, by decide +kernel, rfl, by decide +kernel, by decide +kernel⟩
abbrev st_l_most : Stmt := topS 34
theorem sc_l_most : FnScope ["pot"] ["pot"] (defScope st_l_most) := ⟨rfl, rfl, rfl, by decide +kernel, rfl, by decide +kernel, by decide +kernel⟩
abbrev st_l_layers_of : Stmt := topS 35
theorem sc_l_layers_of : FnScope ["n", "ties", "k", "labels", "layer", "numbers", "at", "moment", "a", "b", "old", "new", "one"] ["n", "ties", "k"] (defScope st_l_layers_of) := ⟨rfl, rfl, rfl, by decide +kernel, rfl, by decide +kernel, by decide +kernel⟩
abbrev st_l_net_of : Stmt := topS 36
theorem sc_l_net_of : FnScope ["n", "ties", "k", "numbers", "tie", "number"] ["n", "ties", "k"] (defScope st_l_net_of) := ⟨rfl, rfl, rfl, by decide +kernel, rfl, by decide +kernel, by decide +kernel⟩
abbrev st_l_drawn_net : Stmt := topS 37
theorem sc_l_drawn_net : FnScope ["pot", "n", "k"] ["pot"] (defScope st_l_drawn_net) := ⟨rfl, rfl, rfl, by decide +kernel, rfl, by decide +kernel, by decide +kernel⟩
abbrev st_l_new_tie : Stmt := topS 38
theorem sc_l_new_tie : FnScope ["pot", "n", "ties", "some", "tie", "moment", "turn", "a", "b"] ["pot", "n", "ties"] (defScope st_l_new_tie) := ⟨rfl, rfl, rfl, by decide +kernel, rfl, by decide +kernel, by decide +kernel⟩
abbrev st_l_whole : Stmt := topS 39
theorem sc_l_whole : FnScope ["thing"] ["thing"] (defScope st_l_whole) := ⟨rfl, rfl, rfl, by decide +kernel, rfl, by decide +kernel, by decide +kernel⟩
abbrev st_l_is_tie : Stmt := topS 40
theorem sc_l_is_tie : FnScope ["n", "thing", "part"] ["n", "thing"] (defScope st_l_is_tie) := ⟨rfl, rfl, rfl, by decide +kernel, rfl, by decide +kernel, by decide +kernel⟩
abbrev st_l_is_net : Stmt := topS 41
theorem sc_l_is_net : FnScope ["thing", "n", "k", "ties", "tie", "at"] ["thing"] (defScope st_l_is_net) := ⟨rfl, rfl, rfl, by decide +kernel, rfl, by decide +kernel, by decide +kernel⟩
abbrev st_l_odd_net : Stmt := topS 42
theorem sc_l_odd_net : FnScope ["pot", "net", "n", "k", "ties", "some", "tie"] ["pot", "net"] (defScope st_l_odd_net) := ⟨rfl, rfl, rfl, by decide +kernel, rfl, by decide +kernel, by decide +kernel⟩
abbrev st_l_spoilt : Stmt := topS 43
theorem sc_l_spoilt : FnScope ["pot", "net", "n", "k", "ties", "places", "made", "turn", "at", "a", "b"] ["pot", "net"] (defScope st_l_spoilt) := ⟨rfl, rfl, rfl, by decide +kernel, rfl, by decide +kernel, by decide +kernel⟩
abbrev st_l_right : Stmt := topS 44
theorem sc_l_right : FnScope ["thing", "kept", "found"] ["thing"] (defScope st_l_right) := ⟨rfl, rfl, rfl, by decide +kernel, rfl, by decide +kernel, by decide +kernel⟩
abbrev st_law : Stmt := topS 45
theorem sc_law : FnScope ["script", "cell", "pot", "net"] ["script"] (defScope st_law) := ⟨rfl, rfl, rfl, by decide +kernel, rfl, by decide +kernel, by decide +kernel⟩
structure Tx (K : PySem.W.Frag) (mg : Str → Option Value) where
  a_is_whole : Addr
  d_is_whole : FuncData
  F_is_whole : L2.Fun K "is_whole" "is_whole" st_is_whole a_is_whole d_is_whole
  m_is_whole : mg "is_whole" = some (.ref a_is_whole)
  b_is_whole : Binds K d_is_whole ["thing"] []
  a_is_place : Addr
  d_is_place : FuncData
  F_is_place : L2.Fun K "is_place" "is_place" st_is_place a_is_place d_is_place
  m_is_place : mg "is_place" = some (.ref a_is_place)
  b_is_place : Binds K d_is_place ["n", "thing"] []
  a_is_moment : Addr
  d_is_moment : FuncData
  F_is_moment : L2.Fun K "is_moment" "is_moment" st_is_moment a_is_moment d_is_moment
  m_is_moment : mg "is_moment" = some (.ref a_is_moment)
  b_is_moment : Binds K d_is_moment ["thing"] []
  a_is_meeting : Addr
  d_is_meeting : FuncData
  F_is_meeting : L2.Fun K "is_meeting" "is_meeting" st_is_meeting a_is_meeting d_is_meeting
  m_is_meeting : mg "is_meeting" = some (.ref a_is_meeting)
  b_is_meeting : Binds K d_is_meeting ["n", "thing"] []
  a_is_tie : Addr
  d_is_tie : FuncData
  F_is_tie : L2.Fun K "is_tie" "is_tie" st_is_tie a_is_tie d_is_tie
  m_is_tie : mg "is_tie" = some (.ref a_is_tie)
  b_is_tie : Binds K d_is_tie ["n", "thing"] []
  a_is_record : Addr
  d_is_record : FuncData
  F_is_record : L2.Fun K "is_record" "is_record" st_is_record a_is_record d_is_record
  m_is_record : mg "is_record" = some (.ref a_is_record)
  b_is_record : Binds K d_is_record ["n", "thing"] []
  a_joined : Addr
  d_joined : FuncData
  F_joined : L2.Fun K "joined" "joined" st_joined a_joined d_joined
  m_joined : mg "joined" = some (.ref a_joined)
  b_joined : Binds K d_joined ["marks", "a", "b"] []
  a_is_depth : Addr
  d_is_depth : FuncData
  F_is_depth : L2.Fun K "is_depth" "is_depth" st_is_depth a_is_depth d_is_depth
  m_is_depth : mg "is_depth" = some (.ref a_is_depth)
  b_is_depth : Binds K d_is_depth ["thing"] []
  a_look_at_layers : Addr
  d_look_at_layers : FuncData
  F_look_at_layers : L2.Fun K "look_at_layers" "look_at_layers" st_look_at_layers a_look_at_layers d_look_at_layers
  m_look_at_layers : mg "look_at_layers" = some (.ref a_look_at_layers)
  b_look_at_layers : Binds K d_look_at_layers ["k"] []
  a_layer_for : Addr
  d_layer_for : FuncData
  F_layer_for : L2.Fun K "layer_for" "layer_for" st_layer_for a_layer_for d_layer_for
  m_layer_for : mg "layer_for" = some (.ref a_layer_for)
  b_layer_for : Binds K d_layer_for ["marks", "a", "b"] []
  a_layered : Addr
  d_layered : FuncData
  F_layered : L2.Fun K "layered" "layered" st_layered a_layered d_layered
  m_layered : mg "layered" = some (.ref a_layered)
  b_layered : Binds K d_layered ["n", "record", "k"] []
  a_is_count : Addr
  d_is_count : FuncData
  F_is_count : L2.Fun K "is_count" "is_count" st_is_count a_is_count d_is_count
  m_is_count : mg "is_count" = some (.ref a_is_count)
  b_is_count : Binds K d_is_count ["thing", "most"] []
  a_is_net : Addr
  d_is_net : FuncData
  F_is_net : L2.Fun K "is_net" "is_net" st_is_net a_is_net d_is_net
  m_is_net : mg "is_net" = some (.ref a_is_net)
  b_is_net : Binds K d_is_net ["thing"] []
  a_l_folded : Addr
  d_l_folded : FuncData
  F_l_folded : L2.Fun K "_law_folded" "_law_folded" st_l_folded a_l_folded d_l_folded
  m_l_folded : mg "_law_folded" = some (.ref a_l_folded)
  b_l_folded : Binds K d_l_folded ["cells", "many"] []
  a_l_begun : Addr
  d_l_begun : FuncData
  F_l_begun : L2.Fun K "_law_begun" "_law_begun" st_l_begun a_l_begun d_l_begun
  m_l_begun : mg "_law_begun" = some (.ref a_l_begun)
  b_l_begun : Binds K d_l_begun ["cell"] []
  a_l_take : Addr
  d_l_take : FuncData
  F_l_take : L2.Fun K "_law_take" "_law_take" st_l_take a_l_take d_l_take
  m_l_take : mg "_law_take" = some (.ref a_l_take)
  b_l_take : Binds K d_l_take ["pot", "size"] []
  a_l_wide : Addr
  d_l_wide : FuncData
  F_l_wide : L2.Fun K "_law_wide" "_law_wide" st_l_wide a_l_wide d_l_wide
  m_l_wide : mg "_law_wide" = some (.ref a_l_wide)
  b_l_wide : Binds K d_l_wide ["pot", "size"] []
  a_l_places : Addr
  d_l_places : FuncData
  F_l_places : L2.Fun K "_law_places" "_law_places" st_l_places a_l_places d_l_places
  m_l_places : mg "_law_places" = some (.ref a_l_places)
  b_l_places : Binds K d_l_places ["pot"] []
  a_l_depth : Addr
  d_l_depth : FuncData
  F_l_depth : L2.Fun K "_law_depth" "_law_depth" st_l_depth a_l_depth d_l_depth
  m_l_depth : mg "_law_depth" = some (.ref a_l_depth)
  b_l_depth : Binds K d_l_depth ["pot"] []
  a_l_ends : Addr
  d_l_ends : FuncData
  F_l_ends : L2.Fun K "_law_ends" "_law_ends" st_l_ends a_l_ends d_l_ends
  m_l_ends : mg "_law_ends" = some (.ref a_l_ends)
  b_l_ends : Binds K d_l_ends ["pot", "n", "ties"] []
  a_l_drawn_ties : Addr
  d_l_drawn_ties : FuncData
  F_l_drawn_ties : L2.Fun K "_law_drawn_ties" "_law_drawn_ties" st_l_drawn_ties a_l_drawn_ties d_l_drawn_ties
  m_l_drawn_ties : mg "_law_drawn_ties" = some (.ref a_l_drawn_ties)
  b_l_drawn_ties : Binds K d_l_drawn_ties ["pot", "n", "most"] []
  a_l_most : Addr
  d_l_most : FuncData
  F_l_most : L2.Fun K "_law_most" "_law_most" st_l_most a_l_most d_l_most
  m_l_most : mg "_law_most" = some (.ref a_l_most)
  b_l_most : Binds K d_l_most ["pot"] []
  a_l_layers_of : Addr
  d_l_layers_of : FuncData
  F_l_layers_of : L2.Fun K "_law_layers_of" "_law_layers_of" st_l_layers_of a_l_layers_of d_l_layers_of
  m_l_layers_of : mg "_law_layers_of" = some (.ref a_l_layers_of)
  b_l_layers_of : Binds K d_l_layers_of ["n", "ties", "k"] []
  a_l_net_of : Addr
  d_l_net_of : FuncData
  F_l_net_of : L2.Fun K "_law_net_of" "_law_net_of" st_l_net_of a_l_net_of d_l_net_of
  m_l_net_of : mg "_law_net_of" = some (.ref a_l_net_of)
  b_l_net_of : Binds K d_l_net_of ["n", "ties", "k"] []
  a_l_drawn_net : Addr
  d_l_drawn_net : FuncData
  F_l_drawn_net : L2.Fun K "_law_drawn_net" "_law_drawn_net" st_l_drawn_net a_l_drawn_net d_l_drawn_net
  m_l_drawn_net : mg "_law_drawn_net" = some (.ref a_l_drawn_net)
  b_l_drawn_net : Binds K d_l_drawn_net ["pot"] []
  a_l_new_tie : Addr
  d_l_new_tie : FuncData
  F_l_new_tie : L2.Fun K "_law_new_tie" "_law_new_tie" st_l_new_tie a_l_new_tie d_l_new_tie
  m_l_new_tie : mg "_law_new_tie" = some (.ref a_l_new_tie)
  b_l_new_tie : Binds K d_l_new_tie ["pot", "n", "ties"] []
  a_l_whole : Addr
  d_l_whole : FuncData
  F_l_whole : L2.Fun K "_law_whole" "_law_whole" st_l_whole a_l_whole d_l_whole
  m_l_whole : mg "_law_whole" = some (.ref a_l_whole)
  b_l_whole : Binds K d_l_whole ["thing"] []
  a_l_is_tie : Addr
  d_l_is_tie : FuncData
  F_l_is_tie : L2.Fun K "_law_is_tie" "_law_is_tie" st_l_is_tie a_l_is_tie d_l_is_tie
  m_l_is_tie : mg "_law_is_tie" = some (.ref a_l_is_tie)
  b_l_is_tie : Binds K d_l_is_tie ["n", "thing"] []
  a_l_is_net : Addr
  d_l_is_net : FuncData
  F_l_is_net : L2.Fun K "_law_is_net" "_law_is_net" st_l_is_net a_l_is_net d_l_is_net
  m_l_is_net : mg "_law_is_net" = some (.ref a_l_is_net)
  b_l_is_net : Binds K d_l_is_net ["thing"] []
  a_l_odd_net : Addr
  d_l_odd_net : FuncData
  F_l_odd_net : L2.Fun K "_law_odd_net" "_law_odd_net" st_l_odd_net a_l_odd_net d_l_odd_net
  m_l_odd_net : mg "_law_odd_net" = some (.ref a_l_odd_net)
  b_l_odd_net : Binds K d_l_odd_net ["pot", "net"] []
  a_l_spoilt : Addr
  d_l_spoilt : FuncData
  F_l_spoilt : L2.Fun K "_law_spoilt" "_law_spoilt" st_l_spoilt a_l_spoilt d_l_spoilt
  m_l_spoilt : mg "_law_spoilt" = some (.ref a_l_spoilt)
  b_l_spoilt : Binds K d_l_spoilt ["pot", "net"] []
  a_l_right : Addr
  d_l_right : FuncData
  F_l_right : L2.Fun K "_law_right" "_law_right" st_l_right a_l_right d_l_right
  m_l_right : mg "_law_right" = some (.ref a_l_right)
  b_l_right : Binds K d_l_right ["thing"] []
  a_law : Addr
  d_law : FuncData
  F_law : L2.Fun K "law" "law" st_law a_law d_law
  m_law : mg "law" = some (.ref a_law)
  b_law : Binds K d_law ["script"] []
  n_isinstance : mg "isinstance" = none
  n_int : mg "int" = none
  n_bool : mg "bool" = none
  n_tuple : mg "tuple" = none
  n_len : mg "len" = none
  n_list : mg "list" = none
  n_all : mg "all" = none
  n_range : mg "range" = none
  n_min : mg "min" = none
  n_max : mg "max" = none
  n_enumerate : mg "enumerate" = none
  n_reversed : mg "reversed" = none
  n_abs : mg "abs" = none
  n_zip : mg "zip" = none
  n_sorted : mg "sorted" = none
  n_str : mg "str" = none
  c_LAST_MOMENT : ∃ tk, mg "LAST_MOMENT" = some (.int (1000000000000000000000000000000) tk)
  c_MOST_TIES : ∃ tk, mg "MOST_TIES" = some (.int (60) tk)
  c_MOST_LAYERS_layers : ∃ tk, mg "MOST_LAYERS_layers" = some (.int (6) tk)
  c_MOST_PLACES : ∃ tk, mg "MOST_PLACES" = some (.int (10) tk)
  c_MOST_LAYERS_nets : ∃ tk, mg "MOST_LAYERS_nets" = some (.int (6) tk)
section
variable {P : Program} {w : World} {K : PySem.W.Frag} {mg : Str → Option Value} {base : Heap}
abbrev g_is_whole : Gs := FamL.g_is_whole
abbrev f_is_whole : List Dt → O Dt := FamL.f_is_whole
theorem ok_is_whole (t : Tx K mg) : FnOk P w K mg base CX0 1 t.a_is_whole t.d_is_whole ["thing"] (spG K mg 1 f_is_whole) := by
  have nd : (["thing"] : List Str).Nodup := by decide +kernel
  exact fn_okN t.F_is_whole (Δn := [.im false]) sc_is_whole rfl rfl (by decide) fun cdv A outer s H E hr => ⟨_, BD.frm [.im false] (Δb := kd0 1 1 false) (Δc := kd0 1 1 false)
    (b_one (z_ret (x_and (x_isa .int t.n_isinstance t.n_int (x_var 0)) (x_one (x_not (x_isa .bool t.n_isinstance t.n_bool (x_var 0))))))) rfl⟩
def g_is_place : Gs := gRet (gAndV (gCallN 1 f_is_whole (gCons (gVar 1) (gNil))) (gChain hLe hLt (gC (.int (0))) (gVar 1) (gVar 0)))
def f_is_place : List Dt → O Dt := fnN 2 g_is_place
theorem ok_is_place (t : Tx K mg) : FnOk P w K mg base CX0 2 t.a_is_place t.d_is_place ["n", "thing"] (spG K mg 2 f_is_place) := by
  have G_is_whole := ok_is_whole (P := P) (w := w) (base := base) t
  have nd : (["n", "thing"] : List Str).Nodup := by decide +kernel
  exact fn_okN t.F_is_place (Δn := [.im false, .im false]) sc_is_place rfl rfl (by decide) fun cdv A outer s H E hr => ⟨_, BD.frm [.im false, .im false] (Δb := kd0 2 2 false) (Δc := kd0 2 2 false)
    (b_one (z_ret (x_and (x_callN G_is_whole (hr.mono (by decide)) t.m_is_whole t.F_is_whole.kp t.b_is_whole pass0 (AD.to true false (a_cons (x_var 1) (a_nil)))) (x_one (x_chain or_le or_lt (x_int) (x_var 1) (x_var 0)))))) rfl⟩
def g_is_moment : Gs := gRet (gAndV (gCallN 1 f_is_whole (gCons (gVar 0) (gNil))) (gChain hLe hLe (gC (.int (0))) (gVar 0) (gC (.int (1000000000000000000000000000000)))))
def f_is_moment : List Dt → O Dt := fnN 1 g_is_moment
theorem ok_is_moment (t : Tx K mg) : FnOk P w K mg base CX0 2 t.a_is_moment t.d_is_moment ["thing"] (spG K mg 1 f_is_moment) := by
  obtain ⟨_, h_LAST_MOMENT⟩ := t.c_LAST_MOMENT
  have G_is_whole := ok_is_whole (P := P) (w := w) (base := base) t
  have nd : (["thing"] : List Str).Nodup := by decide +kernel
  exact fn_okN t.F_is_moment (Δn := [.im false]) sc_is_moment rfl rfl (by decide) fun cdv A outer s H E hr => ⟨_, BD.frm [.im false] (Δb := kd0 1 1 false) (Δc := kd0 1 1 false)
    (b_one (z_ret (x_and (x_callN G_is_whole (hr.mono (by decide)) t.m_is_whole t.F_is_whole.kp t.b_is_whole pass0 (AD.to true false (a_cons (x_var 0) (a_nil)))) (x_one (x_chain or_le or_le (x_int) (x_var 0) (x_glob (v := .int (1000000000000000000000000000000)) h_LAST_MOMENT ⟨_, rfl⟩ (.int _))))))) rfl⟩
def g_is_meeting : Gs := gSeqS (gIfS (gOr (gNot (gTest (gUn (hIsa .tuple) (gVar 1)))) (gOr (gTest (gOp hNe (gCB hLen (gCons (gVar 1) (gNil))) (gC (.int (3))))) (gNot (gTest (gCallN 1 f_is_moment (gCons (gOp hIx (gVar 1) (gC (.int (0)))) (gNil))))))) (gRet (gC (.bool false))) (gNext)) (gRet (gAndV (gCallN 2 f_is_place (gCons (gVar 0) (gCons (gOp hIx (gVar 1) (gC (.int (1)))) (gNil)))) (gCallN 2 f_is_place (gCons (gVar 0) (gCons (gOp hIx (gVar 1) (gC (.int (2)))) (gNil))))))
def f_is_meeting : List Dt → O Dt := fnN 2 g_is_meeting
theorem ok_is_meeting (t : Tx K mg) : FnOk P w K mg base CX0 3 t.a_is_meeting t.d_is_meeting ["n", "thing"] (spG K mg 2 f_is_meeting) := by
  have G_is_moment := ok_is_moment (P := P) (w := w) (base := base) t
  have G_is_place := ok_is_place (P := P) (w := w) (base := base) t
  have nd : (["n", "thing"] : List Str).Nodup := by decide +kernel
  exact fn_okN t.F_is_meeting (Δn := [.im false, .im false]) sc_is_meeting rfl rfl (by decide) fun cdv A outer s H E hr => ⟨_, BD.frm [.im false, .im false] (Δb := kd0 2 2 false) (Δc := kd0 2 2 false)
    (b_cons (z_if (Δn := [.im false, .im false]) (c_w (w_or (c_not (c_val (x_isa .tuple t.n_isinstance t.n_tuple (x_var 1)))) (w_or (c_cmp (or_ne hr) (x_len t.n_len (AD.to true false (a_cons (x_var 1) (a_nil)))) (x_int)) (w_or1 (c_not (c_val (x_callN G_is_moment (hr.mono (by decide)) t.m_is_moment t.F_is_moment.kp t.b_is_moment pass0 (AD.to true false (a_cons (x_ix (x_var 1) (x_int)) (a_nil))))))))))
    (b_one (z_ret (x_bl)))
    ((b_nil).to [.im false, .im false]))
    (b_one (z_ret (x_and (x_callN G_is_place (hr.mono (by decide)) t.m_is_place t.F_is_place.kp t.b_is_place pass0 (AD.to true false (a_cons (x_var 0) (a_cons (x_ix (x_var 1) (x_int)) (a_nil))))) (x_one (x_callN G_is_place (hr.mono (by decide)) t.m_is_place t.F_is_place.kp t.b_is_place pass0 (AD.to true false (a_cons (x_var 0) (a_cons (x_ix (x_var 1) (x_int)) (a_nil)))))))))) rfl⟩
def g_is_tie : Gs := gRet (gAndV (gCallN 2 f_is_meeting (gCons (gVar 0) (gCons (gVar 1) (gNil)))) (gOp hLe (gOp hIx (gVar 1) (gC (.int (1)))) (gOp hIx (gVar 1) (gC (.int (2))))))
def f_is_tie : List Dt → O Dt := fnN 2 g_is_tie
theorem ok_is_tie (t : Tx K mg) : FnOk P w K mg base CX0 4 t.a_is_tie t.d_is_tie ["n", "thing"] (spG K mg 2 f_is_tie) := by
  have G_is_meeting := ok_is_meeting (P := P) (w := w) (base := base) t
  have nd : (["n", "thing"] : List Str).Nodup := by decide +kernel
  exact fn_okN t.F_is_tie (Δn := [.im false, .im false]) sc_is_tie rfl rfl (by decide) fun cdv A outer s H E hr => ⟨_, BD.frm [.im false, .im false] (Δb := kd0 2 2 false) (Δc := kd0 2 2 false)
    (b_one (z_ret (x_and (x_callN G_is_meeting (hr.mono (by decide)) t.m_is_meeting t.F_is_meeting.kp t.b_is_meeting pass0 (AD.to true false (a_cons (x_var 0) (a_cons (x_var 1) (a_nil))))) (x_one (x_cmp or_le (x_ix (x_var 1) (x_int)) (x_ix (x_var 1) (x_int))))))) rfl⟩
def g_is_record : Gs := gSeqS (gIfS (gOr (gNot (gTest (gUn (hIsa .list) (gVar 1)))) (gTest (gOp hGt (gCB hLen (gCons (gVar 1) (gNil))) (gC (.int (60)))))) (gRet (gC (.bool false))) (gNext)) (gSeqS (gIfS (gNot (gTest (gCB hAll (gCons (gLc (gSeq (gVar 1)) (tgN 2) (gYes) (gCallN 2 f_is_tie (gCons (gVar 0) (gCons (gVar 2) (gNil))))) (gNil))))) (gRet (gC (.bool false))) (gNext)) (gRet (gCB hAll (gCons (gLc (gRng2 (gCons (gC (.int (1))) (gCons (gCB hLen (gCons (gVar 1) (gNil))) (gNil)))) (tgN 3) (gYes) (gOp hLt (gOp hIx (gOp hIx (gVar 1) (gOp hSub (gVar 3) (gC (.int (1))))) (gC (.int (0)))) (gOp hIx (gOp hIx (gVar 1) (gVar 3)) (gC (.int (0)))))) (gNil)))))
def f_is_record : List Dt → O Dt := fnN 4 g_is_record
theorem ok_is_record (t : Tx K mg) : FnOk P w K mg base CX0 5 t.a_is_record t.d_is_record ["n", "thing"] (spG K mg 2 f_is_record) := by
  obtain ⟨_, h_MOST_TIES⟩ := t.c_MOST_TIES
  have G_is_tie := ok_is_tie (P := P) (w := w) (base := base) t
  have nd : (["n", "thing", "tie", "at"] : List Str).Nodup := by decide +kernel
  exact fn_okN t.F_is_record (Δn := [.im false, .im false, .no, .no]) sc_is_record rfl rfl (by decide) fun cdv A outer s H E hr => ⟨_, BD.frm [.im false, .im false, .no, .no] (Δb := kd0 2 4 false) (Δc := kd0 2 4 false)
    (b_cons (z_if (Δn := [.im false, .im false, .no, .no]) (c_w (w_or (c_not (c_val (x_isa .list t.n_isinstance t.n_list (x_var 1)))) (w_or1 (c_cmp or_gt (x_len t.n_len (AD.to true false (a_cons (x_var 1) (a_nil)))) (x_glob (v := .int (60)) h_MOST_TIES ⟨_, rfl⟩ (.int _))))))
    (b_one (z_ret (x_bl)))
    ((b_nil).to [.im false, .im false, .no, .no]))
    (b_cons (z_if (Δn := [.im false, .im false, .no, .no]) (c_not (c_val (x_all t.n_all (AD.to true true (a_cons ((x_lc (n := 4) [("tie", 2)] nd (i_seq (x_var 1)) (blk_fx (N := ["n", "thing", "tie", "at"]) (sc := defScope st_is_record) (by decide +kernel)) (fun _ _ _ _ _ => g_name 2 nd) (fun _ _ _ _ _ => t_nil) (fun _ _ _ _ _ => x_callN G_is_tie (hr.mono (by decide)) t.m_is_tie t.F_is_tie.kp t.b_is_tie pass0 (AD.to true false (a_cons (x_var 0) (a_cons (x_var 2) (a_nil)))))).nv) (a_nil))))))
    (b_one (z_ret (x_bl)))
    ((b_nil).to [.im false, .im false, .no, .no]))
    (b_one (z_ret (x_all t.n_all (AD.to true true (a_cons ((x_lc (n := 4) [("at", 3)] nd (i_rng2 t.n_range (AD.to true true (a_cons (x_int) (a_cons (x_len t.n_len (AD.to true false (a_cons (x_var 1) (a_nil)))) (a_nil))))) (blk_fx (N := ["n", "thing", "tie", "at"]) (sc := defScope st_is_record) (by decide +kernel)) (fun _ _ _ _ _ => g_name 3 nd) (fun _ _ _ _ _ => t_nil) (fun _ _ _ _ _ => x_cmp or_lt (x_ix (x_ix (x_var 1) (x_sub (x_var 3) (x_int))) (x_int)) (x_ix (x_ix (x_var 1) (x_var 3)) (x_int)))).nv) (a_nil)))))))) rfl⟩
abbrev g_joined : Gs := FamL.g_joined
abbrev f_joined : List Dt → O Dt := FamL.f_joined
theorem ok_joined (t : Tx K mg) : FnOk P w K mg base CX0 1 t.a_joined t.d_joined ["marks", "a", "b"] (spL K mg 3 f_joined) := by
  have nd : (["marks", "a", "b", "low", "high", "mark"] : List Str).Nodup := by decide +kernel
  exact fn_okL t.F_joined (Δn := [.im false, .im false, .im false, .no, .no, .no]) sc_joined rfl rfl (by decide) fun cdv A outer s H E hr => ⟨_, BD.frm [.im false, .im false, .im false, .no, .no, .no] (Δb := kd0 3 6 false) (Δc := kd0 3 6 false)
    (b_cons ((z_set 3 nd (x_min2 t.n_min (AD.to true false (a_cons (x_ix (x_var 0) (x_var 1)) (a_cons (x_ix (x_var 0) (x_var 2)) (a_nil)))))).to [.im false, .im false, .im false, .im true, .no, .no])
    (b_cons ((z_set 4 nd (x_max2 t.n_max (AD.to true false (a_cons (x_ix (x_var 0) (x_var 1)) (a_cons (x_ix (x_var 0) (x_var 2)) (a_nil)))))).to [.im false, .im false, .im false, .im true, .im true, .no])
    (b_one (z_retL (PD.purN (x_lc (n := 6) [("mark", 5)] nd (i_seq (x_var 0)) (blk_fx (N := ["marks", "a", "b", "low", "high", "mark"]) (sc := defScope st_joined) (by decide +kernel)) (fun _ _ _ _ _ => g_name 5 nd) (fun _ _ _ _ _ => t_nil) (fun _ _ _ _ _ => x_ifE (c_cmp (or_eq hr) (x_var 5) (x_var 4)) ((x_var 3).wk (av' := true) (fr' := false)) (x_var 5)))))))) rfl⟩
abbrev g_is_depth : Gs := FamL.g_is_depth
abbrev f_is_depth : List Dt → O Dt := FamL.f_is_depth
theorem ok_is_depth (t : Tx K mg) : FnOk P w K mg base CX0 2 t.a_is_depth t.d_is_depth ["thing"] (spG K mg 1 f_is_depth) := by
  obtain ⟨_, h_MOST_LAYERS_layers⟩ := t.c_MOST_LAYERS_layers
  have G_is_whole := ok_is_whole (P := P) (w := w) (base := base) t
  have nd : (["thing"] : List Str).Nodup := by decide +kernel
  exact fn_okN t.F_is_depth (Δn := [.im false]) sc_is_depth rfl rfl (by decide) fun cdv A outer s H E hr => ⟨_, BD.frm [.im false] (Δb := kd0 1 1 false) (Δc := kd0 1 1 false)
    (b_one (z_ret (x_and (x_callN G_is_whole (hr.mono (by decide)) t.m_is_whole t.F_is_whole.kp t.b_is_whole pass0 (AD.to true false (a_cons (x_var 0) (a_nil)))) (x_one (x_chain or_le or_le (x_int) (x_var 0) (x_glob (v := .int (6)) h_MOST_LAYERS_layers ⟨_, rfl⟩ (.int _))))))) rfl⟩
abbrev g_look_at_layers : Gs := FamL.g_look_at_layers
abbrev f_look_at_layers : List Dt → O Dt := FamL.f_look_at_layers
theorem ok_look_at_layers (t : Tx K mg) : FnOk P w K mg base CX0 3 t.a_look_at_layers t.d_look_at_layers ["k"] (spG K mg 1 f_look_at_layers) := by
  have G_is_depth := ok_is_depth (P := P) (w := w) (base := base) t
  have nd : (["k"] : List Str).Nodup := by decide +kernel
  exact fn_okN t.F_look_at_layers (Δn := [.im false]) sc_look_at_layers rfl rfl (by decide) fun cdv A outer s H E hr => ⟨_, BD.frm [.im false] (Δb := kd0 1 1 false) (Δc := kd0 1 1 false)
    (BD.to [.im false] (b_one (z_if (Δn := [.im false]) (c_not (c_val (x_callN G_is_depth (hr.mono (by decide)) t.m_is_depth t.F_is_depth.kp t.b_is_depth pass0 (AD.to true false (a_cons (x_var 0) (a_nil))))))
    (b_one (z_never))
    ((b_nil).to [.im false])))) rfl⟩
abbrev g_layer_for : Gs := FamL.g_layer_for
abbrev f_layer_for : List Dt → O Dt := FamL.f_layer_for
theorem ok_layer_for (t : Tx K mg) : FnOk P w K mg base CX0 1 t.a_layer_for t.d_layer_for ["marks", "a", "b"] (spG K mg 3 f_layer_for) := by
  have nd : (["marks", "a", "b", "j", "row"] : List Str).Nodup := by decide +kernel
  exact fn_okN t.F_layer_for (Δn := [.im false, .im false, .im false, .no, .no]) sc_layer_for rfl rfl (by decide) fun cdv A outer s H E hr => ⟨_, BD.frm [.im false, .im false, .im false, .no, .no] (Δb := kd0 3 5 false) (Δc := kd0 3 5 false)
    (b_cons (z_for (n := 5) .never (i_enum t.n_enumerate (AD.to true false (a_cons (x_var 0) (a_nil)))) (g_tup (m := 2) rfl (g_cons (g_name 3 nd) (g_cons (g_name 4 nd) (g_nil))) (tgCons_len (tgCons_len tgNil_len)))
    ((b_one (z_if (Δn := [.im false, .im false, .im false, .im false, .im false]) (c_cmp (or_ne hr) (x_ix (x_var 4) (x_var 1)) (x_ix (x_var 4) (x_var 2)))
    (b_one (z_ret (x_add (x_var 3) (x_int))))
    ((b_nil).to [.im false, .im false, .im false, .im false, .im false]))).to [.im false, .im false, .im false, .no, .no]))
    (b_one (z_ret (x_int)))) rfl⟩
abbrev g_layered : Gs := FamL.g_layered
abbrev f_layered : List Dt → O Dt := FamL.f_layered
theorem ok_layered (t : Tx K mg) : FnOk P w K mg base CX0 4 t.a_layered t.d_layered ["n", "record", "k"] (spL K mg 3 f_layered) := by
  have G_look_at_layers := ok_look_at_layers (P := P) (w := w) (base := base) t
  have G_layer_for := ok_layer_for (P := P) (w := w) (base := base) t
  have G_joined := ok_joined (P := P) (w := w) (base := base) t
  have nd : (["n", "record", "k", "marks", "j", "numbers", "moment", "a", "b"] : List Str).Nodup := by decide +kernel
  exact fn_okL t.F_layered (Δn := [.im false, .im false, .im false, .no, .no, .no, .no, .no, .no]) sc_layered rfl rfl (by decide) fun cdv A outer s H E hr => ⟨_, BD.frm [.im false, .im false, .im false, .no, .no, .no, .no, .no, .no] (Δb := kd0 3 9 false) (Δc := kd0 3 9 false)
    (b_cons ((z_expr (x_callN G_look_at_layers (hr.mono (by decide)) t.m_look_at_layers t.F_look_at_layers.kp t.b_look_at_layers pass0 (AD.to true false (a_cons (x_var 2) (a_nil))))).to [.im false, .im false, .im false, .no, .no, .no, .no, .no, .no])
    (b_cons ((z_setLc 3 (n := 9) [("j", 4)] nd (i_rng1 t.n_range (AD.to true false (a_cons (x_var 2) (a_nil)))) (blk_fx (N := ["n", "record", "k", "marks", "j", "numbers", "moment", "a", "b"]) (sc := defScope st_layered) (by decide +kernel)) (fun _ _ _ _ _ => g_name 4 nd) (fun _ _ _ _ _ => t_nil) (fun _ _ _ _ _ => (x_lrng1 t.n_list t.n_range (x_var 0)).nv) (sw_true rfl rfl rfl (by decide +kernel))).to [.im false, .im false, .im false, .own .l true, .no, .no, .no, .no, .no])
    (b_cons ((z_setO 5 nd (x_lst (a_nil))).to [.im false, .im false, .im false, .own .l true, .no, .own .l true, .no, .no, .no])
    (b_cons (z_for (n := 9) .never (i_rev t.n_reversed (AD.to true false (a_cons (x_var 1) (a_nil)))) (g_tup (m := 3) rfl (g_cons (g_name 6 nd) (g_cons (g_name 7 nd) (g_cons (g_name 8 nd) (g_nil)))) (tgCons_len (tgCons_len (tgCons_len tgNil_len))))
    ((b_cons ((z_set 4 nd (x_callN G_layer_for (hr.mono (by decide)) t.m_layer_for t.F_layer_for.kp t.b_layer_for pass0 (AD.to false false (a_cons ((x_own 3).ov) (a_cons (x_var 7) (a_cons (x_var 8) (a_nil))))))).to [.im false, .im false, .im false, .own .l true, .im true, .own .l true, .im false, .im false, .im false])
    (b_cons (z_if (Δn := [.im false, .im false, .im false, .own .l true, .im true, .own .l true, .im false, .im false, .im false]) (c_cmp or_gt (x_var 4) (x_int))
    ((b_one ((z_setI 3 ((x_callL G_joined (hr.mono (by decide)) t.m_joined t.F_joined.kp t.b_joined pass0 (AD.to true false (a_cons (x_ixO (x_own 3) (x_sub (x_var 4) (x_int))) (a_cons (x_var 7) (a_cons (x_var 8) (a_nil)))))).nv) (x_sub (x_var 4) (x_int))).to [.im false, .im false, .im false, .own .l true, .im true, .own .l true, .im false, .im false, .im false])).to [.im false, .im false, .im false, .own .l true, .im true, .own .l true, .im false, .im false, .im false])
    ((b_nil).to [.im false, .im false, .im false, .own .l true, .im true, .own .l true, .im false, .im false, .im false]))
    (b_one ((z_app 5 (x_var 4)).to [.im false, .im false, .im false, .own .l true, .im true, .own .l true, .im false, .im false, .im false])))).to [.im false, .im false, .im false, .own .l true, .no, .own .l true, .no, .no, .no]))
    (b_one (z_retL (x_lrevO t.n_list t.n_reversed (x_own 5)))))))) rfl⟩
def g_is_count : Gs := gRet (gAndV (gUn (hIsa .int) (gVar 0)) (gAndV (gNotV (gUn (hIsa .bool) (gVar 0))) (gChain hLe hLe (gC (.int (1))) (gVar 0) (gVar 1))))
def f_is_count : List Dt → O Dt := fnN 2 g_is_count
theorem ok_is_count (t : Tx K mg) : FnOk P w K mg base CX0 1 t.a_is_count t.d_is_count ["thing", "most"] (spG K mg 2 f_is_count) := by
  have nd : (["thing", "most"] : List Str).Nodup := by decide +kernel
  exact fn_okN t.F_is_count (Δn := [.im false, .im false]) sc_is_count rfl rfl (by decide) fun cdv A outer s H E hr => ⟨_, BD.frm [.im false, .im false] (Δb := kd0 2 2 false) (Δc := kd0 2 2 false)
    (b_one (z_ret (x_and (x_isa .int t.n_isinstance t.n_int (x_var 0)) (x_and (x_not (x_isa .bool t.n_isinstance t.n_bool (x_var 0))) (x_one (x_chain or_le or_le (x_int) (x_var 0) (x_var 1))))))) rfl⟩
def g_is_net : Gs := gSeqS (gIfS (gOr (gNot (gTest (gUn (hIsa .tuple) (gVar 0)))) (gTest (gOp hNe (gCB hLen (gCons (gVar 0) (gNil))) (gC (.int (3)))))) (gRet (gC (.bool false))) (gNext)) (gSeqS (gAsg (gVar 0) (tgT (tgCons (tgN 1) (tgCons (tgN 2) (tgCons (tgN 3) (tgNil)))))) (gSeqS (gIfS (gOr (gNot (gTest (gCallN 2 f_is_count (gCons (gVar 1) (gCons (gC (.int (10))) (gNil)))))) (gOr (gNot (gTest (gCallN 2 f_is_count (gCons (gVar 2) (gCons (gC (.int (6))) (gNil)))))) (gNot (gTest (gCallN 2 f_is_record (gCons (gVar 1) (gCons (gVar 3) (gNil)))))))) (gRet (gC (.bool false))) (gNext)) (gRet (gOp hNotIn (gC (.int (0))) (gCallN 3 f_layered (gCons (gVar 1) (gCons (gVar 3) (gCons (gVar 2) (gNil)))))))))
def f_is_net : List Dt → O Dt := fnN 4 g_is_net
theorem ok_is_net (t : Tx K mg) : FnOk P w K mg base CX0 6 t.a_is_net t.d_is_net ["thing"] (spG K mg 1 f_is_net) := by
  obtain ⟨_, h_MOST_PLACES⟩ := t.c_MOST_PLACES
  obtain ⟨_, h_MOST_LAYERS_nets⟩ := t.c_MOST_LAYERS_nets
  have G_is_count := ok_is_count (P := P) (w := w) (base := base) t
  have G_is_record := ok_is_record (P := P) (w := w) (base := base) t
  have G_layered := ok_layered (P := P) (w := w) (base := base) t
  have nd : (["thing", "n", "k", "ties"] : List Str).Nodup := by decide +kernel
  exact fn_okN t.F_is_net (Δn := [.im false, .no, .no, .no]) sc_is_net rfl rfl (by decide) fun cdv A outer s H E hr => ⟨_, BD.frm [.im false, .no, .no, .no] (Δb := kd0 1 4 false) (Δc := kd0 1 4 false)
    (b_cons (z_if (Δn := [.im false, .no, .no, .no]) (c_w (w_or (c_not (c_val (x_isa .tuple t.n_isinstance t.n_tuple (x_var 0)))) (w_or1 (c_cmp (or_ne hr) (x_len t.n_len (AD.to true false (a_cons (x_var 0) (a_nil)))) (x_int)))))
    (b_one (z_ret (x_bl)))
    ((b_nil).to [.im false, .no, .no, .no]))
    (b_cons ((z_asg (n := 4) (x_var 0) (g_tup (m := 3) rfl (g_cons (g_name 1 nd) (g_cons (g_name 2 nd) (g_cons (g_name 3 nd) (g_nil)))) (tgCons_len (tgCons_len (tgCons_len tgNil_len))))).to [.im false, .im false, .im false, .im false])
    (b_cons (z_if (Δn := [.im false, .im false, .im false, .im false]) (c_w (w_or (c_not (c_val (x_callN G_is_count (hr.mono (by decide)) t.m_is_count t.F_is_count.kp t.b_is_count pass0 (AD.to true false (a_cons (x_var 1) (a_cons (x_glob (v := .int (10)) h_MOST_PLACES ⟨_, rfl⟩ (.int _)) (a_nil))))))) (w_or (c_not (c_val (x_callN G_is_count (hr.mono (by decide)) t.m_is_count t.F_is_count.kp t.b_is_count pass0 (AD.to true false (a_cons (x_var 2) (a_cons (x_glob (v := .int (6)) h_MOST_LAYERS_nets ⟨_, rfl⟩ (.int _)) (a_nil))))))) (w_or1 (c_not (c_val (x_callN G_is_record (hr.mono (by decide)) t.m_is_record t.F_is_record.kp t.b_is_record pass0 (AD.to true false (a_cons (x_var 1) (a_cons (x_var 3) (a_nil)))))))))))
    (b_one (z_ret (x_bl)))
    ((b_nil).to [.im false, .im false, .im false, .im false]))
    (b_one (z_ret (x_cmp (or_notIn hr) (x_int) ((x_callL G_layered (hr.mono (by decide)) t.m_layered t.F_layered.kp t.b_layered pass0 (AD.to true false (a_cons (x_var 1) (a_cons (x_var 3) (a_cons (x_var 2) (a_nil)))))).nv))))))) rfl⟩
def g_l_folded_L1 : Gs := gSetI 2 (gOp hAdd (gOp hMul (gOp hIx (gVar 2) (gOp hMod (gVar 3) (gCB hLen (gCons (gVar 2) (gNil))))) (gC (.int (7)))) (gVar 4)) (gOp hMod (gVar 3) (gCB hLen (gCons (gVar 2) (gNil))))
def g_l_folded : Gs := gSeqS (gSet 2 (gOp hRep (gLst (gCons (gC (.int (0))) (gNil))) (gCB hMin2 (gCons (gVar 1) (gCons (gCB hMax2 (gCons (gC (.int (1))) (gCons (gCB hLenF (gCons (gVar 0) (gNil))) (gNil)))) (gNil)))))) (gSeqS (gFor (gEnumF (gCons (gVar 0) (gNil))) (tgT (tgCons (tgN 3) (tgCons (tgN 4) (tgNil)))) g_l_folded_L1) (gRet (gVar 2)))
def f_l_folded : List Dt → O Dt := fnL 5 g_l_folded
theorem ok_l_folded (t : Tx K mg) : FnOk P w K mg base CX0 1 t.a_l_folded t.d_l_folded ["cells", "many"] (spL K mg 2 f_l_folded) := by
  have nd : (["cells", "many", "found", "k", "cell"] : List Str).Nodup := by decide +kernel
  exact fn_okL t.F_l_folded (Δn := [.im false, .im false, .no, .no, .no]) sc_l_folded rfl rfl (by decide) fun cdv A outer s H E hr => ⟨_, BD.frm [.im false, .im false, .no, .no, .no] (Δb := kd0 2 5 false) (Δc := kd0 2 5 false)
    (b_cons ((z_setO 2 nd (x_rep (x_lst (AD.to true true (a_cons (x_int) (a_nil)))) (x_min2 t.n_min (AD.to true false (a_cons (x_var 1) (a_cons (x_max2 t.n_max (AD.to true true (a_cons (x_int) (a_cons (x_lenF t.n_len (AD.to true false (a_cons (x_var 0) (a_nil)))) (a_nil))))) (a_nil))))))).to [.im false, .im false, .own .l true, .no, .no])
    (b_cons (z_for (n := 5) .never (i_enumF t.n_enumerate (AD.to true false (a_cons (x_var 0) (a_nil)))) (g_tup (m := 2) rfl (g_cons (g_name 3 nd) (g_cons (g_name 4 nd) (g_nil))) (tgCons_len (tgCons_len tgNil_len)))
    ((b_one ((z_setI 2 (x_add (x_mul (x_ixO (x_own 2) (x_mod (x_var 3) (x_len t.n_len (AD.to false true (a_cons ((x_own 2).ov) (a_nil)))))) (x_int)) (x_var 4)) (x_mod (x_var 3) (x_len t.n_len (AD.to false true (a_cons ((x_own 2).ov) (a_nil)))))).to [.im false, .im false, .own .l true, .im false, .im false])).to [.im false, .im false, .own .l true, .no, .no]))
    (b_one (z_retO 2)))) rfl⟩
abbrev g_l_begun : Gs := FamB.g_l_begun
abbrev f_l_begun : List Dt → O Dt := FamB.f_l_begun
theorem ok_l_begun (t : Tx K mg) : FnOk P w K mg base CX0 1 t.a_l_begun t.d_l_begun ["cell"] (spL K mg 1 f_l_begun) := by
  have nd : (["cell", "rest"] : List Str).Nodup := by decide +kernel
  exact fn_okL t.F_l_begun (Δn := [.im false, .no]) sc_l_begun rfl rfl (by decide) fun cdv A outer s H E hr => ⟨_, BD.frm [.im false, .no] (Δb := kd0 1 2 false) (Δc := kd0 1 2 false)
    (b_cons ((z_set 1 nd (x_int)).to [.im false, .im true])
    (b_cons (z_if (Δn := [.im false, .im true]) (c_cmp or_ge (x_abs t.n_abs (AD.to true false (a_cons (x_var 0) (a_nil)))) (x_pow (x_int) (x_int)))
    ((b_one ((z_set 1 nd (x_add (x_sub (x_abs t.n_abs (AD.to true false (a_cons (x_var 0) (a_nil)))) (x_pow (x_int) (x_int))) (x_int))).to [.im false, .im true])).to [.im false, .im true])
    ((b_nil).to [.im false, .im true]))
    (b_one (z_retL (x_lst (AD.to true true (a_cons (x_var 1) (a_cons (x_int) (a_cons (x_mod (x_var 0) (x_int)) (a_nil)))))))))) rfl⟩
abbrev g_l_take : Gs := FamB.g_l_take
abbrev f_l_take : List Dt → O Dt := FamB.f_l_take
theorem ok_l_take (t : Tx K mg) : FnOk P w K mg base CX0 1 t.a_l_take t.d_l_take ["pot", "size"] (spM K .la 2 f_l_take) := by
  have nd : (["pot", "size", "digit", "mixed"] : List Str).Nodup := by decide +kernel
  exact fn_okM t.F_l_take (Δn := [.own .la true, .im false, .no, .no]) sc_l_take rfl rfl (by decide) rfl fun cdv A outer s H E hr => ⟨_, BD.frm [.own .la true, .im false, .no, .no] (Δb := kdM .la 2 4) (Δc := kdM .la 2 4)
    (b_cons (z_if (Δn := [.own .la true, .im false, .no, .no]) (c_cmp or_gt (x_ixO (x_ownA 0) (x_int)) (x_int))
    (b_cons ((z_set 2 nd (x_mod (x_ixO (x_ownA 0) (x_int)) (x_var 1))).to [.own .la true, .im false, .im true, .no])
    (b_cons ((z_setIA 0 (x_div (x_ixO (x_ownA 0) (x_int)) (x_var 1)) (x_int)).to [.own .la true, .im false, .im true, .no])
    (b_one (zx_retM (xd_of (x_var 2))))))
    ((b_nil).to [.own .la true, .im false, .no, .no]))
    (b_cons ((z_setIA 0 (x_add (x_ixO (x_ownA 0) (x_int)) (x_int)) (x_int)).to [.own .la true, .im false, .no, .no])
    (b_cons ((z_set 3 nd (x_mod (x_add (x_add (x_add (x_ixO (x_ownA 0) (x_int)) (x_mul (x_mul (x_int) (x_ixO (x_ownA 0) (x_int))) (x_ixO (x_ownA 0) (x_int)))) (x_mul (x_int) (x_ixO (x_ownA 0) (x_int)))) (x_int)) (x_int))).to [.own .la true, .im false, .no, .im true])
    (b_cons ((z_set 3 nd (x_mod (x_mul (x_mod (x_mul (x_var 3) (x_var 3)) (x_int)) (x_int)) (x_int))).to [.own .la true, .im false, .no, .im true])
    (b_one (zx_retM (xd_of (x_mod (x_div (x_var 3) (x_int)) (x_var 1))))))))) rfl⟩
abbrev g_l_wide : Gs := FamB.g_l_wide
abbrev f_l_wide : List Dt → O Dt := FamB.f_l_wide
theorem ok_l_wide (t : Tx K mg) : FnOk P w K mg base CX0 2 t.a_l_wide t.d_l_wide ["pot", "size"] (spM K .la 2 f_l_wide) := by
  have G_l_take := ok_l_take (P := P) (w := w) (base := base) t
  have nd : (["pot", "size", "number", "turn"] : List Str).Nodup := by decide +kernel
  exact fn_okM t.F_l_wide (Δn := [.own .la true, .im false, .no, .no]) sc_l_wide rfl rfl (by decide) rfl fun cdv A outer s H E hr => ⟨_, BD.frm [.own .la true, .im false, .no, .no] (Δb := kdM .la 2 4) (Δc := kdM .la 2 4)
    (b_cons (z_if (Δn := [.own .la true, .im false, .no, .no]) (c_w (w_or (c_cmp or_gt (x_ixO (x_ownA 0) (x_int)) (x_int)) (w_or1 (c_cmp or_lt (x_var 1) (x_pow (x_int) (x_int))))))
    (b_one (zx_retM (xd_callM 0 G_l_take (hr.mono (by decide)) t.m_l_take t.F_l_take.kp t.b_l_take pass0 (xb_a (XAD.to true false (xa_cons (xd_of (x_var 1)) (xa_nil)))))))
    ((b_nil).to [.own .la true, .im false, .no, .no]))
    (b_cons ((z_set 2 nd (x_int)).to [.own .la true, .im false, .im true, .no])
    (b_cons (z_for (n := 4) .never (i_rng1 t.n_range (AD.to true true (a_cons (x_int) (a_nil)))) (g_name 3 nd)
    ((b_one ((zx_set 2 nd (xd_add (xd_of (x_mul (x_var 2) (x_int))) (xd_callM 0 G_l_take (hr.mono (by decide)) t.m_l_take t.F_l_take.kp t.b_l_take pass0 (xb_a (XAD.to true true (xa_cons (xd_of (x_int)) (xa_nil))))))).to [.own .la true, .im false, .im true, .im true])).to [.own .la true, .im false, .im true, .no]))
    (b_one (zx_retM (xd_of (x_mod (x_var 2) (x_var 1)))))))) rfl⟩
abbrev g_l_places : Gs := FamB.g_l_places
abbrev f_l_places : List Dt → O Dt := FamB.f_l_places
theorem ok_l_places (t : Tx K mg) : FnOk P w K mg base CX0 2 t.a_l_places t.d_l_places ["pot"] (spM K .la 1 f_l_places) := by
  have G_l_take := ok_l_take (P := P) (w := w) (base := base) t
  have nd : (["pot"] : List Str).Nodup := by decide +kernel
  exact fn_okM t.F_l_places (Δn := [.own .la true]) sc_l_places rfl rfl (by decide) rfl fun cdv A outer s H E hr => ⟨_, BD.frm [.own .la true] (Δb := kdM .la 1 1) (Δc := kdM .la 1 1)
    (b_one (zx_retM (xd_add (xd_of (x_int)) (xd_callM 0 G_l_take (hr.mono (by decide)) t.m_l_take t.F_l_take.kp t.b_l_take pass0 (xb_a (XAD.to true true (xa_cons (xd_ix ((xd_ofN (x_lst (AD.to true true (a_cons (x_int) (a_cons (x_int) (a_cons (x_int) (a_cons (x_int) (a_cons (x_int) (a_cons (x_int) (a_cons (x_int) (a_cons (x_int) (a_nil)))))))))))).nv) (xd_callM 0 G_l_take (hr.mono (by decide)) t.m_l_take t.F_l_take.kp t.b_l_take pass0 (xb_a (XAD.to true true (xa_cons (xd_of (x_int)) (xa_nil)))))) (xa_nil)))))))) rfl⟩
abbrev g_l_depth : Gs := FamB.g_l_depth
abbrev f_l_depth : List Dt → O Dt := FamB.f_l_depth
theorem ok_l_depth (t : Tx K mg) : FnOk P w K mg base CX0 2 t.a_l_depth t.d_l_depth ["pot"] (spM K .la 1 f_l_depth) := by
  have G_l_take := ok_l_take (P := P) (w := w) (base := base) t
  have nd : (["pot"] : List Str).Nodup := by decide +kernel
  exact fn_okM t.F_l_depth (Δn := [.own .la true]) sc_l_depth rfl rfl (by decide) rfl fun cdv A outer s H E hr => ⟨_, BD.frm [.own .la true] (Δb := kdM .la 1 1) (Δc := kdM .la 1 1)
    (b_one (zx_retM (xd_add (xd_of (x_int)) (xd_callM 0 G_l_take (hr.mono (by decide)) t.m_l_take t.F_l_take.kp t.b_l_take pass0 (xb_a (XAD.to true true (xa_cons (xd_ix ((xd_ofN (x_lst (AD.to true true (a_cons (x_int) (a_cons (x_int) (a_cons (x_int) (a_cons (x_int) (a_nil)))))))).nv) (xd_callM 0 G_l_take (hr.mono (by decide)) t.m_l_take t.F_l_take.kp t.b_l_take pass0 (xb_a (XAD.to true true (xa_cons (xd_of (x_int)) (xa_nil)))))) (xa_nil)))))))) rfl⟩
abbrev g_l_ends : Gs := FamB.g_l_ends
abbrev f_l_ends : List Dt → O Dt := FamB.f_l_ends
theorem ok_l_ends (t : Tx K mg) : FnOk P w K mg base CX0 2 t.a_l_ends t.d_l_ends ["pot", "n", "ties"] (spM K .la 3 f_l_ends) := by
  have G_l_take := ok_l_take (P := P) (w := w) (base := base) t
  have nd : (["pot", "n", "ties", "a", "b", "moment"] : List Str).Nodup := by decide +kernel
  exact fn_okM t.F_l_ends (Δn := [.own .la true, .im false, .im false, .no, .no, .no]) sc_l_ends rfl rfl (by decide) rfl fun cdv A outer s H E hr => ⟨_, BD.frm [.own .la true, .im false, .im false, .no, .no, .no] (Δb := kdM .la 3 6) (Δc := kdM .la 3 6)
    (b_cons ((zx_set 3 nd (xd_callM 0 G_l_take (hr.mono (by decide)) t.m_l_take t.F_l_take.kp t.b_l_take pass0 (xb_a (XAD.to true false (xa_cons (xd_of (x_var 1)) (xa_nil)))))).to [.own .la true, .im false, .im false, .im true, .no, .no])
    (b_cons ((zx_set 4 nd (xd_callM 0 G_l_take (hr.mono (by decide)) t.m_l_take t.F_l_take.kp t.b_l_take pass0 (xb_a (XAD.to true false (xa_cons (xd_of (x_var 1)) (xa_nil)))))).to [.own .la true, .im false, .im false, .im true, .im true, .no])
    (b_cons (zx_if (Δn := [.own .la true, .im false, .im false, .im false, .im false, .no]) (xt_w (xw_and (xt_of (c_cmp (or_ne hr) (x_var 2) ((x_lst (a_nil)).nv))) (xw_and1 (xt_cmp (or_eq hr) (xd_callM 0 G_l_take (hr.mono (by decide)) t.m_l_take t.F_l_take.kp t.b_l_take pass0 (xb_a (XAD.to true true (xa_cons (xd_of (x_int)) (xa_nil))))) (xd_of (x_int))))))
    ((b_one ((zx_asg (n := 6) (xd_ix (xd_of (x_var 2)) (xd_callM 0 G_l_take (hr.mono (by decide)) t.m_l_take t.F_l_take.kp t.b_l_take pass0 (xb_a (XAD.to true true (xa_cons (xd_of (x_len t.n_len (AD.to true false (a_cons (x_var 2) (a_nil))))) (xa_nil)))))) (g_tup (m := 3) rfl (g_cons (g_name 5 nd) (g_cons (g_name 3 nd) (g_cons (g_name 4 nd) (g_nil)))) (tgCons_len (tgCons_len (tgCons_len tgNil_len))))).to [.own .la true, .im false, .im false, .im false, .im false, .im false])).to [.own .la true, .im false, .im false, .im false, .im false, .no])
    ((b_nil).to [.own .la true, .im false, .im false, .im false, .im false, .no]))
    (b_one (zx_retM (xd_of (x_tup (AD.to true true (a_cons (x_min2 t.n_min (AD.to true false (a_cons (x_var 3) (a_cons (x_var 4) (a_nil))))) (a_cons (x_max2 t.n_max (AD.to true false (a_cons (x_var 3) (a_cons (x_var 4) (a_nil))))) (a_nil))))))))))) rfl⟩
abbrev g_l_drawn_ties : Gs := FamB.g_l_drawn_ties
abbrev f_l_drawn_ties : List Dt → O Dt := FamB.f_l_drawn_ties
theorem ok_l_drawn_ties (t : Tx K mg) : FnOk P w K mg base CX0 3 t.a_l_drawn_ties t.d_l_drawn_ties ["pot", "n", "most"] (spML K .la 3 f_l_drawn_ties) := by
  have G_l_take := ok_l_take (P := P) (w := w) (base := base) t
  have G_l_wide := ok_l_wide (P := P) (w := w) (base := base) t
  have G_l_ends := ok_l_ends (P := P) (w := w) (base := base) t
  have nd : (["pot", "n", "most", "moment", "found", "turn", "step", "a", "b"] : List Str).Nodup := by decide +kernel
  exact fn_okML t.F_l_drawn_ties (Δn := [.own .la true, .im false, .im false, .no, .no, .no, .no, .no, .no]) sc_l_drawn_ties rfl rfl (by decide) rfl fun cdv A outer s H E hr => ⟨_, BD.frm [.own .la true, .im false, .im false, .no, .no, .no, .no, .no, .no] (Δb := kdM .la 3 9) (Δc := kdM .la 3 9)
    (b_cons ((zx_set 3 nd (xd_sub (xd_callM 0 G_l_take (hr.mono (by decide)) t.m_l_take t.F_l_take.kp t.b_l_take pass0 (xb_a (XAD.to true true (xa_cons (xd_of (x_int)) (xa_nil))))) (xd_of (x_int)))).to [.own .la true, .im false, .im false, .im true, .no, .no, .no, .no, .no])
    (b_cons ((z_setO 4 nd (x_lst (a_nil))).to [.own .la true, .im false, .im false, .im true, .own .l true, .no, .no, .no, .no])
    (b_cons (zx_for1 (n := 9) .never t.n_range (XAD.to true true (xa_cons (xd_callM 0 G_l_take (hr.mono (by decide)) t.m_l_take t.F_l_take.kp t.b_l_take pass0 (xb_a (XAD.to true true (xa_cons (xd_of (x_add (x_var 2) (x_int))) (xa_nil))))) (xa_nil))) (g_name 5 nd)
    ((b_cons ((zx_set 6 nd (xd_callM 0 G_l_take (hr.mono (by decide)) t.m_l_take t.F_l_take.kp t.b_l_take pass0 (xb_a (XAD.to true true (xa_cons (xd_of (x_int)) (xa_nil)))))).to [.own .la true, .im false, .im false, .im true, .own .l true, .im true, .im true, .no, .no])
    (b_cons ((z_set 3 nd (x_add (x_add (x_var 3) (x_int)) (x_div (x_var 6) (x_int)))).to [.own .la true, .im false, .im false, .im true, .own .l true, .im true, .im true, .no, .no])
    (b_cons (z_if (Δn := [.own .la true, .im false, .im false, .im true, .own .l true, .im true, .im true, .no, .no]) (c_cmp (or_eq hr) (x_var 6) (x_int))
    ((b_one ((zx_set 3 nd (xd_add (xd_of (x_var 3)) (xd_callM 0 G_l_wide (hr.mono (by decide)) t.m_l_wide t.F_l_wide.kp t.b_l_wide pass0 (xb_a (XAD.to true true (xa_cons (xd_of (x_pow (x_int) (x_int))) (xa_nil))))))).to [.own .la true, .im false, .im false, .im true, .own .l true, .im true, .im true, .no, .no])).to [.own .la true, .im false, .im false, .im true, .own .l true, .im true, .im true, .no, .no])
    ((b_nil).to [.own .la true, .im false, .im false, .im true, .own .l true, .im true, .im true, .no, .no]))
    (b_cons ((zx_asg (n := 9) (xd_callM 0 G_l_ends (hr.mono (by decide)) t.m_l_ends t.F_l_ends.kp t.b_l_ends pass0 (xb_p (yb_cons (x_var 1) (yb_own 4 (yb_nil))))) (g_tup (m := 2) rfl (g_cons (g_name 7 nd) (g_cons (g_name 8 nd) (g_nil))) (tgCons_len (tgCons_len tgNil_len)))).to [.own .la true, .im false, .im false, .im true, .own .l true, .im true, .im true, .im true, .im true])
    (b_one ((z_app 4 (x_tup (AD.to true true (a_cons (x_var 3) (a_cons (x_var 7) (a_cons (x_var 8) (a_nil))))))).to [.own .la true, .im false, .im false, .im true, .own .l true, .im true, .im true, .im true, .im true])))))).to [.own .la true, .im false, .im false, .im true, .own .l true, .no, .no, .no, .no]))
    (b_one (zx_retMO 4))))) rfl⟩
abbrev g_l_most : Gs := FamB.g_l_most
abbrev f_l_most : List Dt → O Dt := FamB.f_l_most
theorem ok_l_most (t : Tx K mg) : FnOk P w K mg base CX0 2 t.a_l_most t.d_l_most ["pot"] (spM K .la 1 f_l_most) := by
  have G_l_take := ok_l_take (P := P) (w := w) (base := base) t
  have nd : (["pot"] : List Str).Nodup := by decide +kernel
  exact fn_okM t.F_l_most (Δn := [.own .la true]) sc_l_most rfl rfl (by decide) rfl fun cdv A outer s H E hr => ⟨_, BD.frm [.own .la true] (Δb := kdM .la 1 1) (Δc := kdM .la 1 1)
    (b_one (zx_retM (xd_ix ((xd_ofN (x_lst (AD.to true true (a_cons (x_int) (a_cons (x_int) (a_cons (x_int) (a_cons (x_int) (a_cons (x_int) (a_cons (x_int) (a_cons (x_int) (a_cons (x_int) (a_nil)))))))))))).nv) (xd_callM 0 G_l_take (hr.mono (by decide)) t.m_l_take t.F_l_take.kp t.b_l_take pass0 (xb_a (XAD.to true true (xa_cons (xd_of (x_int)) (xa_nil)))))))) rfl⟩
def g_l_layers_of_L1 : Gs := gSeqS (gSet 10 (gOp hIx (gOp hIx (gVar 3) (gVar 4)) (gVar 8))) (gSeqS (gSet 11 (gOp hIx (gOp hIx (gVar 3) (gVar 4)) (gVar 9))) (gIfS (gAnd (gTest (gOp hEq (gOp hIx (gVar 5) (gVar 6)) (gC (.int (0))))) (gTest (gOp hNe (gVar 10) (gVar 11)))) (gSeqS (gSetI 5 (gOp hAdd (gVar 4) (gC (.int (1)))) (gVar 6)) (gSetI 3 (gLc (gSeq (gOp hIx (gVar 3) (gVar 4))) (tgN 12) (gYes) (gOp hIx (gLst (gCons (gVar 12) (gCons (gVar 11) (gNil)))) (gCB hInt1 (gCons (gOp hEq (gVar 12) (gVar 10)) (gNil))))) (gVar 4))) (gNext)))
def g_l_layers_of_L2 : Gs := gSeqS (gAsg (gOp hIx (gVar 1) (gVar 6)) (tgT (tgCons (tgN 7) (tgCons (tgN 8) (tgCons (tgN 9) (tgNil)))))) (gFor (gRng1 (gCons (gVar 2) (gNil))) (tgN 4) g_l_layers_of_L1)
def g_l_layers_of : Gs := gSeqS (gSet 3 (gLc (gRng1 (gCons (gVar 2) (gNil))) (tgN 4) (gYes) (gLsI (gRng1 (gCons (gVar 0) gNil))))) (gSeqS (gSet 5 (gOp hRep (gLst (gCons (gC (.int (0))) (gNil))) (gCB hLen (gCons (gVar 1) (gNil))))) (gSeqS (gFor (gRng3 (gCons (gOp hSub (gCB hLen (gCons (gVar 1) (gNil))) (gC (.int (1)))) (gCons (gUn (hU fun i => -i) (gC (.int (1)))) (gCons (gUn (hU fun i => -i) (gC (.int (1)))) (gNil))))) (tgN 6) g_l_layers_of_L2) (gRet (gVar 5))))
def f_l_layers_of : List Dt → O Dt := fnL 13 g_l_layers_of
theorem ok_l_layers_of (t : Tx K mg) : FnOk P w K mg base CX0 1 t.a_l_layers_of t.d_l_layers_of ["n", "ties", "k"] (spL K mg 3 f_l_layers_of) := by
  have nd : (["n", "ties", "k", "labels", "layer", "numbers", "at", "moment", "a", "b", "old", "new", "one"] : List Str).Nodup := by decide +kernel
  exact fn_okL t.F_l_layers_of (Δn := [.im false, .im false, .im false, .no, .no, .no, .no, .no, .no, .no, .no, .no, .no]) sc_l_layers_of rfl rfl (by decide) fun cdv A outer s H E hr => ⟨_, BD.frm [.im false, .im false, .im false, .no, .no, .no, .no, .no, .no, .no, .no, .no, .no] (Δb := kd0 3 13 false) (Δc := kd0 3 13 false)
    (b_cons ((z_setLc 3 (n := 13) [("layer", 4)] nd (i_rng1 t.n_range (AD.to true false (a_cons (x_var 2) (a_nil)))) (blk_fx (N := ["n", "ties", "k", "labels", "layer", "numbers", "at", "moment", "a", "b", "old", "new", "one"]) (sc := defScope st_l_layers_of) (by decide +kernel)) (fun _ _ _ _ _ => g_name 4 nd) (fun _ _ _ _ _ => t_nil) (fun _ _ _ _ _ => (x_lrng1 t.n_list t.n_range (x_var 0)).nv) (sw_true rfl rfl rfl (by decide +kernel))).to [.im false, .im false, .im false, .own .l true, .no, .no, .no, .no, .no, .no, .no, .no, .no])
    (b_cons ((z_setO 5 nd (x_rep (x_lst (AD.to true true (a_cons (x_int) (a_nil)))) (x_len t.n_len (AD.to true false (a_cons (x_var 1) (a_nil)))))).to [.im false, .im false, .im false, .own .l true, .no, .own .l true, .no, .no, .no, .no, .no, .no, .no])
    (b_cons (z_for (n := 13) .never (i_rng3 t.n_range (AD.to true true (a_cons (x_sub (x_len t.n_len (AD.to true false (a_cons (x_var 1) (a_nil)))) (x_int)) (a_cons (x_neg (x_int)) (a_cons (x_neg (x_int)) (a_nil)))))) (g_name 6 nd)
    ((b_cons ((z_asg (n := 13) (x_ix (x_var 1) (x_var 6)) (g_tup (m := 3) rfl (g_cons (g_name 7 nd) (g_cons (g_name 8 nd) (g_cons (g_name 9 nd) (g_nil)))) (tgCons_len (tgCons_len (tgCons_len tgNil_len))))).to [.im false, .im false, .im false, .own .l true, .no, .own .l true, .im true, .im false, .im false, .im false, .no, .no, .no])
    (b_one (z_for (n := 13) .never (i_rng1 t.n_range (AD.to true false (a_cons (x_var 2) (a_nil)))) (g_name 4 nd)
    ((b_cons ((z_set 10 nd (x_ix (x_ixO (x_own 3) (x_var 4)) (x_var 8))).to [.im false, .im false, .im false, .own .l true, .im true, .own .l true, .im true, .im false, .im false, .im false, .im true, .no, .no])
    (b_cons ((z_set 11 nd (x_ix (x_ixO (x_own 3) (x_var 4)) (x_var 9))).to [.im false, .im false, .im false, .own .l true, .im true, .own .l true, .im true, .im false, .im false, .im false, .im true, .im true, .no])
    (b_one (z_if (Δn := [.im false, .im false, .im false, .own .l true, .im true, .own .l true, .im true, .im false, .im false, .im false, .im true, .im true, .no]) (c_w (w_and (c_cmp (or_eq hr) (x_ixO (x_own 5) (x_var 6)) (x_int)) (w_and1 (c_cmp (or_ne hr) (x_var 10) (x_var 11)))))
    ((b_cons ((z_setI 5 (x_add (x_var 4) (x_int)) (x_var 6)).to [.im false, .im false, .im false, .own .l true, .im true, .own .l true, .im true, .im false, .im false, .im false, .im true, .im true, .no])
    (b_one ((z_setI 3 ((x_lc (n := 13) [("one", 12)] nd (i_seq (x_ixO (x_own 3) (x_var 4))) (blk_fx (N := ["n", "ties", "k", "labels", "layer", "numbers", "at", "moment", "a", "b", "old", "new", "one"]) (sc := defScope st_l_layers_of) (by decide +kernel)) (fun _ _ _ _ _ => g_name 12 nd) (fun _ _ _ _ _ => t_nil) (fun _ _ _ _ _ => x_ix ((x_lst (AD.to true true (a_cons (x_var 12) (a_cons (x_var 11) (a_nil))))).nv) (x_int1 t.n_int (AD.to true true (a_cons (x_cmp (or_eq hr) (x_var 12) (x_var 10)) (a_nil)))))).nv) (x_var 4)).to [.im false, .im false, .im false, .own .l true, .im true, .own .l true, .im true, .im false, .im false, .im false, .im true, .im true, .no]))).to [.im false, .im false, .im false, .own .l true, .im true, .own .l true, .im true, .im false, .im false, .im false, .im true, .im true, .no])
    ((b_nil).to [.im false, .im false, .im false, .own .l true, .im true, .own .l true, .im true, .im false, .im false, .im false, .im true, .im true, .no]))))).to [.im false, .im false, .im false, .own .l true, .no, .own .l true, .im true, .im false, .im false, .im false, .no, .no, .no])))).to [.im false, .im false, .im false, .own .l true, .no, .own .l true, .no, .no, .no, .no, .no, .no, .no]))
    (b_one (z_retO 5))))) rfl⟩
def g_l_net_of : Gs := gSeqS (gSet 3 (gCallN 3 f_l_layers_of (gCons (gVar 0) (gCons (gVar 1) (gCons (gVar 2) (gNil)))))) (gRet (gTup (gCons (gPur (gVar 0)) (gCons (gPur (gVar 2)) (gCons (gPurN (gLc (gZip (gCons (gVar 1) (gCons (gVar 3) (gNil)))) (tgT (tgCons (tgN 4) (tgCons (tgN 5) (tgNil)))) (gTest (gOp hGt (gVar 5) (gC (.int (0))))) (gVar 4))) (gNil))))))
def f_l_net_of : List Dt → O Dt := fnN 6 g_l_net_of
theorem ok_l_net_of (t : Tx K mg) : FnOk P w K mg base CX0 2 t.a_l_net_of t.d_l_net_of ["n", "ties", "k"] (spG K mg 3 f_l_net_of) := by
  have G_l_layers_of := ok_l_layers_of (P := P) (w := w) (base := base) t
  have nd : (["n", "ties", "k", "numbers", "tie", "number"] : List Str).Nodup := by decide +kernel
  exact fn_okN t.F_l_net_of (Δn := [.im false, .im false, .im false, .no, .no, .no]) sc_l_net_of rfl rfl (by decide) fun cdv A outer s H E hr => ⟨_, BD.frm [.im false, .im false, .im false, .no, .no, .no] (Δb := kd0 3 6 false) (Δc := kd0 3 6 false)
    (b_cons ((z_set 3 nd ((x_callL G_l_layers_of (hr.mono (by decide)) t.m_l_layers_of t.F_l_layers_of.kp t.b_l_layers_of pass0 (AD.to true false (a_cons (x_var 0) (a_cons (x_var 1) (a_cons (x_var 2) (a_nil)))))).nv)).to [.im false, .im false, .im false, .im true, .no, .no])
    (b_one (z_ret (x_tup (AD.to true true (a_cons (PD.pur (x_var 0)) (a_cons (PD.pur (x_var 2)) (a_cons ((PD.purN (x_lc (n := 6) [("tie", 4), ("number", 5)] nd (i_zip t.n_zip (AD.to true false (a_cons (x_var 1) (a_cons (x_var 3) (a_nil))))) (blk_fx (N := ["n", "ties", "k", "numbers", "tie", "number"]) (sc := defScope st_l_net_of) (by decide +kernel)) (fun _ _ _ _ _ => g_tup (m := 2) rfl (g_cons (g_name 4 nd) (g_cons (g_name 5 nd) (g_nil))) (tgCons_len (tgCons_len tgNil_len))) (fun _ _ _ _ _ => t_one (c_cmp or_gt (x_var 5) (x_int))) (fun _ _ _ _ _ => x_var 4))).nv) (a_nil))))))))) rfl⟩
def g_l_drawn_net : Gs := gSeqS (xSet 1 (xCallM .la 1 f_l_places 0 (xNil))) (gSeqS (xSet 2 (xCallM .la 1 f_l_depth 0 (xNil))) (xRetM (xCallN 3 f_l_net_of (xCons (xP (gVar 1)) (xCons (xCallM .la 3 f_l_drawn_ties 0 (xCons (xP (gVar 1)) (xCons (xCallM .la 1 f_l_most 0 (xNil)) (xNil)))) (xCons (xP (gVar 2)) (xNil)))))))
def f_l_drawn_net : List Dt → O Dt := fnN 3 g_l_drawn_net
theorem ok_l_drawn_net (t : Tx K mg) : FnOk P w K mg base CX0 4 t.a_l_drawn_net t.d_l_drawn_net ["pot"] (spM K .la 1 f_l_drawn_net) := by
  have G_l_places := ok_l_places (P := P) (w := w) (base := base) t
  have G_l_depth := ok_l_depth (P := P) (w := w) (base := base) t
  have G_l_net_of := ok_l_net_of (P := P) (w := w) (base := base) t
  have G_l_drawn_ties := ok_l_drawn_ties (P := P) (w := w) (base := base) t
  have G_l_most := ok_l_most (P := P) (w := w) (base := base) t
  have nd : (["pot", "n", "k"] : List Str).Nodup := by decide +kernel
  exact fn_okM t.F_l_drawn_net (Δn := [.own .la true, .no, .no]) sc_l_drawn_net rfl rfl (by decide) rfl fun cdv A outer s H E hr => ⟨_, BD.frm [.own .la true, .no, .no] (Δb := kdM .la 1 3) (Δc := kdM .la 1 3)
    (b_cons ((zx_set 1 nd (xd_callM 0 G_l_places (hr.mono (by decide)) t.m_l_places t.F_l_places.kp t.b_l_places pass0 (xb_a (xa_nil)))).to [.own .la true, .im true, .no])
    (b_cons ((zx_set 2 nd (xd_callM 0 G_l_depth (hr.mono (by decide)) t.m_l_depth t.F_l_depth.kp t.b_l_depth pass0 (xb_a (xa_nil)))).to [.own .la true, .im true, .im true])
    (b_one (zx_retM (xd_callN G_l_net_of (hr.mono (by decide)) t.m_l_net_of t.F_l_net_of.kp t.b_l_net_of pass0 (XAD.to true true (xa_cons (xd_of (x_var 1)) (xa_cons ((xd_callML 0 G_l_drawn_ties (hr.mono (by decide)) t.m_l_drawn_ties t.F_l_drawn_ties.kp t.b_l_drawn_ties pass0 (xb_a (XAD.to true true (xa_cons (xd_of (x_var 1)) (xa_cons (xd_callM 0 G_l_most (hr.mono (by decide)) t.m_l_most t.F_l_most.kp t.b_l_most pass0 (xb_a (xa_nil))) (xa_nil)))))).nv) (xa_cons (xd_of (x_var 2)) (xa_nil)))))))))) rfl⟩
def g_l_new_tie_L1 : Gs := gSet 5 (gOp hAdd (gVar 5) (gCB hInt1 (gCons (gOp hIn (gVar 5) (gVar 3)) (gNil))))
def g_l_new_tie : Gs := gSeqS (gSet 3 (gLc (gSeq (gVar 2)) (tgN 4) (gYes) (gOp hIx (gVar 4) (gC (.int (0)))))) (gSeqS (xSet 5 (xCallM .la 2 f_l_take 0 (xCons (xP (gC (.int (3)))) (xNil)))) (gSeqS (xIfS (xAnd (xPT (gTest (gOp hNe (gVar 3) (gLst (gNil))))) (xTest (xOp hGt (xCallM .la 2 f_l_take 0 (xCons (xP (gC (.int (4)))) (xNil))) (xP (gC (.int (0))))))) (xSet 5 (xOp hAdd (xOp hIx (xP (gVar 3)) (xCallM .la 2 f_l_take 0 (xCons (xP (gCB hLen (gCons (gVar 3) (gNil)))) (xNil)))) (xCallM .la 2 f_l_take 0 (xCons (xP (gC (.int (2)))) (xNil))))) (gNext)) (gSeqS (gFor (gRng1 (gCons (gOp hAdd (gCB hLen (gCons (gVar 3) (gNil))) (gC (.int (1)))) (gNil))) (tgN 6) g_l_new_tie_L1) (gSeqS (xAsg (xCallM .la 3 f_l_ends 0 (xCons (xP (gVar 1)) (xCons (xP (gVar 2)) (xNil)))) (tgT (tgCons (tgN 7) (tgCons (tgN 8) (tgNil))))) (xRetM (xP (gTup (gCons (gVar 5) (gCons (gVar 7) (gCons (gVar 8) (gNil)))))))))))
def f_l_new_tie : List Dt → O Dt := fnN 9 g_l_new_tie
theorem ok_l_new_tie (t : Tx K mg) : FnOk P w K mg base CX0 3 t.a_l_new_tie t.d_l_new_tie ["pot", "n", "ties"] (spM K .la 3 f_l_new_tie) := by
  have G_l_take := ok_l_take (P := P) (w := w) (base := base) t
  have G_l_ends := ok_l_ends (P := P) (w := w) (base := base) t
  have nd : (["pot", "n", "ties", "some", "tie", "moment", "turn", "a", "b"] : List Str).Nodup := by decide +kernel
  exact fn_okM t.F_l_new_tie (Δn := [.own .la true, .im false, .im false, .no, .no, .no, .no, .no, .no]) sc_l_new_tie rfl rfl (by decide) rfl fun cdv A outer s H E hr => ⟨_, BD.frm [.own .la true, .im false, .im false, .no, .no, .no, .no, .no, .no] (Δb := kdM .la 3 9) (Δc := kdM .la 3 9)
    (b_cons ((z_setLc 3 (n := 9) [("tie", 4)] nd (i_seq (x_var 2)) (blk_fx (N := ["pot", "n", "ties", "some", "tie", "moment", "turn", "a", "b"]) (sc := defScope st_l_new_tie) (by decide +kernel)) (fun _ _ _ _ _ => g_name 4 nd) (fun _ _ _ _ _ => t_nil) (fun _ _ _ _ _ => x_ix (x_var 4) (x_int)) (sw_true rfl rfl rfl (by decide +kernel))).to [.own .la true, .im false, .im false, .im false, .no, .no, .no, .no, .no])
    (b_cons ((zx_set 5 nd (xd_callM 0 G_l_take (hr.mono (by decide)) t.m_l_take t.F_l_take.kp t.b_l_take pass0 (xb_a (XAD.to true true (xa_cons (xd_of (x_int)) (xa_nil)))))).to [.own .la true, .im false, .im false, .im false, .no, .im true, .no, .no, .no])
    (b_cons (zx_if (Δn := [.own .la true, .im false, .im false, .im false, .no, .im true, .no, .no, .no]) (xt_w (xw_and (xt_of (c_cmp (or_ne hr) (x_var 3) ((x_lst (a_nil)).nv))) (xw_and1 (xt_cmp or_gt (xd_callM 0 G_l_take (hr.mono (by decide)) t.m_l_take t.F_l_take.kp t.b_l_take pass0 (xb_a (XAD.to true true (xa_cons (xd_of (x_int)) (xa_nil))))) (xd_of (x_int))))))
    ((b_one ((zx_set 5 nd (xd_add (xd_ix (xd_of (x_var 3)) (xd_callM 0 G_l_take (hr.mono (by decide)) t.m_l_take t.F_l_take.kp t.b_l_take pass0 (xb_a (XAD.to true true (xa_cons (xd_of (x_len t.n_len (AD.to true false (a_cons (x_var 3) (a_nil))))) (xa_nil)))))) (xd_callM 0 G_l_take (hr.mono (by decide)) t.m_l_take t.F_l_take.kp t.b_l_take pass0 (xb_a (XAD.to true true (xa_cons (xd_of (x_int)) (xa_nil))))))).to [.own .la true, .im false, .im false, .im false, .no, .im true, .no, .no, .no])).to [.own .la true, .im false, .im false, .im false, .no, .im true, .no, .no, .no])
    ((b_nil).to [.own .la true, .im false, .im false, .im false, .no, .im true, .no, .no, .no]))
    (b_cons (z_for (n := 9) .never (i_rng1 t.n_range (AD.to true true (a_cons (x_add (x_len t.n_len (AD.to true false (a_cons (x_var 3) (a_nil)))) (x_int)) (a_nil)))) (g_name 6 nd)
    ((b_one ((z_set 5 nd (x_add (x_var 5) (x_int1 t.n_int (AD.to true true (a_cons (x_cmp (or_in hr) (x_var 5) (x_var 3)) (a_nil)))))).to [.own .la true, .im false, .im false, .im false, .no, .im true, .im true, .no, .no])).to [.own .la true, .im false, .im false, .im false, .no, .im true, .no, .no, .no]))
    (b_cons ((zx_asg (n := 9) (xd_callM 0 G_l_ends (hr.mono (by decide)) t.m_l_ends t.F_l_ends.kp t.b_l_ends pass0 (xb_a (XAD.to true false (xa_cons (xd_of (x_var 1)) (xa_cons (xd_of (x_var 2)) (xa_nil)))))) (g_tup (m := 2) rfl (g_cons (g_name 7 nd) (g_cons (g_name 8 nd) (g_nil))) (tgCons_len (tgCons_len tgNil_len)))).to [.own .la true, .im false, .im false, .im false, .no, .im true, .no, .im true, .im true])
    (b_one (zx_retM (xd_of (x_tup (AD.to true true (a_cons (x_var 5) (a_cons (x_var 7) (a_cons (x_var 8) (a_nil)))))))))))))) rfl⟩
def g_l_whole : Gs := gRet (gAndV (gUn (hIsa .int) (gVar 0)) (gNotV (gUn (hIsa .bool) (gVar 0))))
def f_l_whole : List Dt → O Dt := fnN 1 g_l_whole
theorem ok_l_whole (t : Tx K mg) : FnOk P w K mg base CX0 1 t.a_l_whole t.d_l_whole ["thing"] (spG K mg 1 f_l_whole) := by
  have nd : (["thing"] : List Str).Nodup := by decide +kernel
  exact fn_okN t.F_l_whole (Δn := [.im false]) sc_l_whole rfl rfl (by decide) fun cdv A outer s H E hr => ⟨_, BD.frm [.im false] (Δb := kd0 1 1 false) (Δc := kd0 1 1 false)
    (b_one (z_ret (x_and (x_isa .int t.n_isinstance t.n_int (x_var 0)) (x_one (x_not (x_isa .bool t.n_isinstance t.n_bool (x_var 0))))))) rfl⟩
def g_l_is_tie : Gs := gSeqS (gIfS (gOr (gNot (gTest (gUn (hIsa .tuple) (gVar 1)))) (gOr (gTest (gOp hNe (gCB hLen (gCons (gVar 1) (gNil))) (gC (.int (3))))) (gNot (gTest (gCB hAll (gCons (gLc (gSeq (gVar 1)) (tgN 2) (gYes) (gCallN 1 f_l_whole (gCons (gVar 2) (gNil)))) (gNil))))))) (gRet (gC (.bool false))) (gNext)) (gRet (gAndV (gChain hLe hLe (gC (.int (0))) (gOp hIx (gVar 1) (gC (.int (0)))) (gOp hPow (gC (.int (10))) (gC (.int (30))))) (gAndV (gOp hLe (gC (.int (0))) (gOp hIx (gVar 1) (gC (.int (1))))) (gAndV (gOp hLe (gOp hIx (gVar 1) (gC (.int (1)))) (gOp hIx (gVar 1) (gC (.int (2))))) (gOp hLt (gOp hIx (gVar 1) (gC (.int (2)))) (gVar 0))))))
def f_l_is_tie : List Dt → O Dt := fnN 3 g_l_is_tie
theorem ok_l_is_tie (t : Tx K mg) : FnOk P w K mg base CX0 2 t.a_l_is_tie t.d_l_is_tie ["n", "thing"] (spG K mg 2 f_l_is_tie) := by
  have G_l_whole := ok_l_whole (P := P) (w := w) (base := base) t
  have nd : (["n", "thing", "part"] : List Str).Nodup := by decide +kernel
  exact fn_okN t.F_l_is_tie (Δn := [.im false, .im false, .no]) sc_l_is_tie rfl rfl (by decide) fun cdv A outer s H E hr => ⟨_, BD.frm [.im false, .im false, .no] (Δb := kd0 2 3 false) (Δc := kd0 2 3 false)
    (b_cons (z_if (Δn := [.im false, .im false, .no]) (c_w (w_or (c_not (c_val (x_isa .tuple t.n_isinstance t.n_tuple (x_var 1)))) (w_or (c_cmp (or_ne hr) (x_len t.n_len (AD.to true false (a_cons (x_var 1) (a_nil)))) (x_int)) (w_or1 (c_not (c_val (x_all t.n_all (AD.to true true (a_cons ((x_lc (n := 3) [("part", 2)] nd (i_seq (x_var 1)) (blk_fx (N := ["n", "thing", "part"]) (sc := defScope st_l_is_tie) (by decide +kernel)) (fun _ _ _ _ _ => g_name 2 nd) (fun _ _ _ _ _ => t_nil) (fun _ _ _ _ _ => x_callN G_l_whole (hr.mono (by decide)) t.m_l_whole t.F_l_whole.kp t.b_l_whole pass0 (AD.to true false (a_cons (x_var 2) (a_nil))))).nv) (a_nil))))))))))
    (b_one (z_ret (x_bl)))
    ((b_nil).to [.im false, .im false, .no]))
    (b_one (z_ret (x_and (x_chain or_le or_le (x_int) (x_ix (x_var 1) (x_int)) (x_pow (x_int) (x_int))) (x_and (x_cmp or_le (x_int) (x_ix (x_var 1) (x_int))) (x_and (x_cmp or_le (x_ix (x_var 1) (x_int)) (x_ix (x_var 1) (x_int))) (x_one (x_cmp or_lt (x_ix (x_var 1) (x_int)) (x_var 0))))))))) rfl⟩
def g_l_is_net : Gs := gSeqS (gIfS (gOr (gNot (gTest (gUn (hIsa .tuple) (gVar 0)))) (gOr (gTest (gOp hNe (gCB hLen (gCons (gVar 0) (gNil))) (gC (.int (3))))) (gOr (gNot (gTest (gCallN 1 f_l_whole (gCons (gOp hIx (gVar 0) (gC (.int (0)))) (gNil))))) (gNot (gTest (gCallN 1 f_l_whole (gCons (gOp hIx (gVar 0) (gC (.int (1)))) (gNil)))))))) (gRet (gC (.bool false))) (gNext)) (gSeqS (gAsg (gVar 0) (tgT (tgCons (tgN 1) (tgCons (tgN 2) (tgCons (tgN 3) (tgNil)))))) (gSeqS (gIfS (gOr (gNot (gTest (gChain hLe hLe (gC (.int (1))) (gVar 1) (gC (.int (10)))))) (gOr (gNot (gTest (gChain hLe hLe (gC (.int (1))) (gVar 2) (gC (.int (6)))))) (gOr (gNot (gTest (gUn (hIsa .list) (gVar 3)))) (gTest (gOp hGt (gCB hLen (gCons (gVar 3) (gNil))) (gC (.int (60)))))))) (gRet (gC (.bool false))) (gNext)) (gSeqS (gIfS (gNot (gTest (gCB hAll (gCons (gLc (gSeq (gVar 3)) (tgN 4) (gYes) (gCallN 2 f_l_is_tie (gCons (gVar 1) (gCons (gVar 4) (gNil))))) (gNil))))) (gRet (gC (.bool false))) (gNext)) (gSeqS (gIfS (gNot (gTest (gCB hAll (gCons (gLc (gRng2 (gCons (gC (.int (1))) (gCons (gCB hLen (gCons (gVar 3) (gNil))) (gNil)))) (tgN 5) (gYes) (gOp hLt (gOp hIx (gOp hIx (gVar 3) (gOp hSub (gVar 5) (gC (.int (1))))) (gC (.int (0)))) (gOp hIx (gOp hIx (gVar 3) (gVar 5)) (gC (.int (0)))))) (gNil))))) (gRet (gC (.bool false))) (gNext)) (gRet (gOp hNotIn (gC (.int (0))) (gCallN 3 f_l_layers_of (gCons (gVar 1) (gCons (gVar 3) (gCons (gVar 2) (gNil)))))))))))
def f_l_is_net : List Dt → O Dt := fnN 6 g_l_is_net
theorem ok_l_is_net (t : Tx K mg) : FnOk P w K mg base CX0 3 t.a_l_is_net t.d_l_is_net ["thing"] (spG K mg 1 f_l_is_net) := by
  have G_l_whole := ok_l_whole (P := P) (w := w) (base := base) t
  have G_l_is_tie := ok_l_is_tie (P := P) (w := w) (base := base) t
  have G_l_layers_of := ok_l_layers_of (P := P) (w := w) (base := base) t
  have nd : (["thing", "n", "k", "ties", "tie", "at"] : List Str).Nodup := by decide +kernel
  exact fn_okN t.F_l_is_net (Δn := [.im false, .no, .no, .no, .no, .no]) sc_l_is_net rfl rfl (by decide) fun cdv A outer s H E hr => ⟨_, BD.frm [.im false, .no, .no, .no, .no, .no] (Δb := kd0 1 6 false) (Δc := kd0 1 6 false)
    (b_cons (z_if (Δn := [.im false, .no, .no, .no, .no, .no]) (c_w (w_or (c_not (c_val (x_isa .tuple t.n_isinstance t.n_tuple (x_var 0)))) (w_or (c_cmp (or_ne hr) (x_len t.n_len (AD.to true false (a_cons (x_var 0) (a_nil)))) (x_int)) (w_or (c_not (c_val (x_callN G_l_whole (hr.mono (by decide)) t.m_l_whole t.F_l_whole.kp t.b_l_whole pass0 (AD.to true false (a_cons (x_ix (x_var 0) (x_int)) (a_nil)))))) (w_or1 (c_not (c_val (x_callN G_l_whole (hr.mono (by decide)) t.m_l_whole t.F_l_whole.kp t.b_l_whole pass0 (AD.to true false (a_cons (x_ix (x_var 0) (x_int)) (a_nil)))))))))))
    (b_one (z_ret (x_bl)))
    ((b_nil).to [.im false, .no, .no, .no, .no, .no]))
    (b_cons ((z_asg (n := 6) (x_var 0) (g_tup (m := 3) rfl (g_cons (g_name 1 nd) (g_cons (g_name 2 nd) (g_cons (g_name 3 nd) (g_nil)))) (tgCons_len (tgCons_len (tgCons_len tgNil_len))))).to [.im false, .im false, .im false, .im false, .no, .no])
    (b_cons (z_if (Δn := [.im false, .im false, .im false, .im false, .no, .no]) (c_w (w_or (c_not (c_chain or_le or_le (x_int) (x_var 1) (x_int))) (w_or (c_not (c_chain or_le or_le (x_int) (x_var 2) (x_int))) (w_or (c_not (c_val (x_isa .list t.n_isinstance t.n_list (x_var 3)))) (w_or1 (c_cmp or_gt (x_len t.n_len (AD.to true false (a_cons (x_var 3) (a_nil)))) (x_int)))))))
    (b_one (z_ret (x_bl)))
    ((b_nil).to [.im false, .im false, .im false, .im false, .no, .no]))
    (b_cons (z_if (Δn := [.im false, .im false, .im false, .im false, .no, .no]) (c_not (c_val (x_all t.n_all (AD.to true true (a_cons ((x_lc (n := 6) [("tie", 4)] nd (i_seq (x_var 3)) (blk_fx (N := ["thing", "n", "k", "ties", "tie", "at"]) (sc := defScope st_l_is_net) (by decide +kernel)) (fun _ _ _ _ _ => g_name 4 nd) (fun _ _ _ _ _ => t_nil) (fun _ _ _ _ _ => x_callN G_l_is_tie (hr.mono (by decide)) t.m_l_is_tie t.F_l_is_tie.kp t.b_l_is_tie pass0 (AD.to true false (a_cons (x_var 1) (a_cons (x_var 4) (a_nil)))))).nv) (a_nil))))))
    (b_one (z_ret (x_bl)))
    ((b_nil).to [.im false, .im false, .im false, .im false, .no, .no]))
    (b_cons (z_if (Δn := [.im false, .im false, .im false, .im false, .no, .no]) (c_not (c_val (x_all t.n_all (AD.to true true (a_cons ((x_lc (n := 6) [("at", 5)] nd (i_rng2 t.n_range (AD.to true true (a_cons (x_int) (a_cons (x_len t.n_len (AD.to true false (a_cons (x_var 3) (a_nil)))) (a_nil))))) (blk_fx (N := ["thing", "n", "k", "ties", "tie", "at"]) (sc := defScope st_l_is_net) (by decide +kernel)) (fun _ _ _ _ _ => g_name 5 nd) (fun _ _ _ _ _ => t_nil) (fun _ _ _ _ _ => x_cmp or_lt (x_ix (x_ix (x_var 3) (x_sub (x_var 5) (x_int))) (x_int)) (x_ix (x_ix (x_var 3) (x_var 5)) (x_int)))).nv) (a_nil))))))
    (b_one (z_ret (x_bl)))
    ((b_nil).to [.im false, .im false, .im false, .im false, .no, .no]))
    (b_one (z_ret (x_cmp (or_notIn hr) (x_int) ((x_callL G_l_layers_of (hr.mono (by decide)) t.m_l_layers_of t.F_l_layers_of.kp t.b_l_layers_of pass0 (AD.to true false (a_cons (x_var 1) (a_cons (x_var 3) (a_cons (x_var 2) (a_nil)))))).nv))))))))) rfl⟩
def g_l_odd_net_L1 : Gs := gApp 5 (gTup (gCons (gVar 2) (gCons (gVar 3) (gCons (gLst (gCons (gVar 6) (gNil))) (gNil)))))
def g_l_odd_net : Gs := gSeqS (gAsg (gVar 1) (tgT (tgCons (tgN 2) (tgCons (tgN 3) (tgCons (tgN 4) (tgNil)))))) (gSeqS (gSet 5 (gLst (gCons (gC .none) (gCons (gC (.int (5))) (gCons (gC (.str "3 2 none")) (gCons (gLst (gCons (gVar 2) (gCons (gVar 3) (gCons (gVar 4) (gNil))))) (gCons (gTup (gCons (gVar 2) (gCons (gVar 3) (gNil)))) (gCons (gTup (gCons (gVar 2) (gCons (gVar 3) (gCons (gVar 4) (gCons (gC (.int (0))) (gNil)))))) (gCons (gTup (gCons (gC (.int (0))) (gCons (gVar 3) (gCons (gLst (gNil)) (gNil))))) (gCons (gTup (gCons (gC (.int (11))) (gCons (gVar 3) (gCons (gLst (gNil)) (gNil))))) (gCons (gTup (gCons (gC (.bool true)) (gCons (gC (.int (1))) (gCons (gLst (gNil)) (gNil))))) (gNil)))))))))))) (gSeqS (gSet 5 (gOp hCat (gVar 5) (gLst (gCons (gTup (gCons (gVar 2) (gCons (gC (.int (0))) (gCons (gLst (gNil)) (gNil))))) (gCons (gTup (gCons (gVar 2) (gCons (gC (.int (7))) (gCons (gLst (gNil)) (gNil))))) (gCons (gTup (gCons (gVar 2) (gCons (gC (.bool true)) (gCons (gLst (gNil)) (gNil))))) (gCons (gTup (gCons (gVar 2) (gCons (gVar 3) (gCons (gCB (one hTupOf) (gCons (gVar 4) (gNil))) (gNil))))) (gCons (gTup (gCons (gVar 2) (gCons (gVar 3) (gCons (gC .none) (gNil))))) (gCons (gTup (gCons (gVar 2) (gCons (gVar 3) (gCons (gLst (gCons (gTup (gCons (gC (.int (5))) (gCons (gC (.int (0))) (gCons (gVar 2) (gNil))))) (gNil))) (gNil))))) (gNil)))))))))) (gSeqS (gSet 5 (gOp hCat (gVar 5) (gLst (gCons (gTup (gCons (gVar 2) (gCons (gVar 3) (gCons (gLst (gCons (gTup (gCons (gC (.int (5))) (gCons (gC (.int (0))) (gCons (gC (.int (0))) (gNil))))) (gNil))) (gNil))))) (gCons (gTup (gCons (gVar 2) (gCons (gVar 3) (gCons (gLst (gCons (gLst (gCons (gC (.int (5))) (gCons (gC (.int (0))) (gCons (gC (.int (0))) (gNil))))) (gNil))) (gNil))))) (gCons (gTup (gCons (gVar 2) (gCons (gVar 3) (gCons (gLst (gCons (gTup (gCons (gC (.int (7))) (gCons (gC (.int (0))) (gCons (gC (.int (0))) (gNil))))) (gCons (gTup (gCons (gC (.int (5))) (gCons (gC (.int (0))) (gCons (gC (.int (0))) (gNil))))) (gNil)))) (gNil))))) (gCons (gTup (gCons (gC (.str "3")) (gCons (gC (.int (2))) (gCons (gLst (gNil)) (gNil))))) (gCons (gTup (gCons (gVar 2) (gCons (gC (.str "2")) (gCons (gLst (gNil)) (gNil))))) (gNil))))))))) (gSeqS (gSet 5 (gOp hCat (gVar 5) (gLst (gCons (gTup (gCons (gVar 2) (gCons (gVar 3) (gCons (gDNew) (gNil))))) (gCons (gTup (gCons (gVar 2) (gCons (gVar 3) (gCons (gLst (gCons (gTup (gCons (gC (.int (5))) (gCons (gUn (hU fun i => -i) (gC (.int (1)))) (gCons (gC (.int (0))) (gNil))))) (gNil))) (gNil))))) (gCons (gTup (gCons (gVar 2) (gCons (gVar 3) (gCons (gLst (gCons (gTup (gCons (gUn (hU fun i => -i) (gC (.int (1)))) (gCons (gC (.int (0))) (gCons (gC (.int (0))) (gNil))))) (gNil))) (gNil))))) (gCons (gTup (gCons (gVar 2) (gCons (gVar 3) (gCons (gLst (gCons (gTup (gCons (gOp hAdd (gOp hPow (gC (.int (10))) (gC (.int (30)))) (gC (.int (1)))) (gCons (gC (.int (0))) (gCons (gC (.int (0))) (gNil))))) (gNil))) (gNil))))) (gCons (gDNew) (gCons (gTup (gNil)) (gNil)))))))))) (gSeqS (gFor (gSeq (gLst (gCons (gTup (gCons (gC (.bool true)) (gCons (gC (.int (0))) (gCons (gOp hSub (gVar 2) (gC (.int (1)))) (gNil))))) (gCons (gTup (gCons (gC (.int (5))) (gCons (gC (.bool false)) (gCons (gOp hSub (gVar 2) (gC (.int (1)))) (gNil))))) (gCons (gTup (gCons (gC (.int (5))) (gCons (gC (.int (0))) (gCons (gC (.str "1")) (gNil))))) (gCons (gTup (gCons (gC (.int (5))) (gCons (gC (.int (0))) (gCons (gC .none) (gNil))))) (gCons (gTup (gCons (gC (.str "5")) (gCons (gC (.int (0))) (gCons (gOp hSub (gVar 2) (gC (.int (1)))) (gNil))))) (gCons (gTup (gCons (gC (.int (5))) (gCons (gTup (gCons (gC (.int (0))) (gNil))) (gCons (gOp hSub (gVar 2) (gC (.int (1)))) (gNil))))) (gNil))))))))) (tgN 6) g_l_odd_net_L1) (xRetM (xIxO 5 (xCallM .la 2 f_l_take 0 (xCons (xP (gCB hLen (gCons (gVar 5) (gNil)))) (xNil))))))))))
def f_l_odd_net : List Dt → O Dt := fnN 7 g_l_odd_net
theorem ok_l_odd_net (t : Tx K mg) : FnOk P w K mg base CX0 2 t.a_l_odd_net t.d_l_odd_net ["pot", "net"] (spMA K .la 2 f_l_odd_net) := by
  have G_l_take := ok_l_take (P := P) (w := w) (base := base) t
  have nd : (["pot", "net", "n", "k", "ties", "some", "tie"] : List Str).Nodup := by decide +kernel
  exact fn_okMA t.F_l_odd_net (Δn := [.own .la true, .im true, .no, .no, .no, .no, .no]) sc_l_odd_net rfl rfl (by decide) rfl fun cdv A outer s H E hr => ⟨_, BD.frm [.own .la true, .im true, .no, .no, .no, .no, .no] (Δb := kdMA .la 2 7) (Δc := kdMA .la 2 7)
    (b_cons ((z_asg (n := 7) (x_var 1) (g_tup (m := 3) rfl (g_cons (g_name 2 nd) (g_cons (g_name 3 nd) (g_cons (g_name 4 nd) (g_nil)))) (tgCons_len (tgCons_len (tgCons_len tgNil_len))))).to [.own .la true, .im true, .im true, .im true, .im true, .no, .no])
    (b_cons ((z_setO 5 nd (x_lst (AD.to true true (a_cons (x_non) (a_cons (x_int) (a_cons (x_str) (a_cons ((x_lst (AD.to true true (a_cons (x_var 2) (a_cons (x_var 3) (a_cons (x_var 4) (a_nil)))))).nv) (a_cons (x_tup (AD.to true true (a_cons (x_var 2) (a_cons (x_var 3) (a_nil))))) (a_cons (x_tup (AD.to true true (a_cons (x_var 2) (a_cons (x_var 3) (a_cons (x_var 4) (a_cons (x_int) (a_nil))))))) (a_cons (x_tup (AD.to true true (a_cons (x_int) (a_cons (x_var 3) (a_cons ((x_lst (a_nil)).nv) (a_nil)))))) (a_cons (x_tup (AD.to true true (a_cons (x_int) (a_cons (x_var 3) (a_cons ((x_lst (a_nil)).nv) (a_nil)))))) (a_cons (x_tup (AD.to true true (a_cons (x_bl) (a_cons (x_int) (a_cons ((x_lst (a_nil)).nv) (a_nil)))))) (a_nil))))))))))))).to [.own .la true, .im true, .im true, .im true, .im true, .own .l true, .no])
    (b_cons ((z_setO 5 nd (PD.wkN true (x_catO (x_own 5) ((x_lst (AD.to true true (a_cons (x_tup (AD.to true true (a_cons (x_var 2) (a_cons (x_int) (a_cons ((x_lst (a_nil)).nv) (a_nil)))))) (a_cons (x_tup (AD.to true true (a_cons (x_var 2) (a_cons (x_int) (a_cons ((x_lst (a_nil)).nv) (a_nil)))))) (a_cons (x_tup (AD.to true true (a_cons (x_var 2) (a_cons (x_bl) (a_cons ((x_lst (a_nil)).nv) (a_nil)))))) (a_cons (x_tup (AD.to true true (a_cons (x_var 2) (a_cons (x_var 3) (a_cons (x_tuple t.n_tuple (AD.to true true (a_cons (x_var 4) (a_nil)))) (a_nil)))))) (a_cons (x_tup (AD.to true true (a_cons (x_var 2) (a_cons (x_var 3) (a_cons (x_non) (a_nil)))))) (a_cons (x_tup (AD.to true true (a_cons (x_var 2) (a_cons (x_var 3) (a_cons ((x_lst (AD.to true true (a_cons (x_tup (AD.to true true (a_cons (x_int) (a_cons (x_int) (a_cons (x_var 2) (a_nil)))))) (a_nil)))).nv) (a_nil)))))) (a_nil))))))))).nv)))).to [.own .la true, .im true, .im true, .im true, .im true, .own .l true, .no])
    (b_cons ((z_setO 5 nd (PD.wkN true (x_catO (x_own 5) ((x_lst (AD.to true true (a_cons (x_tup (AD.to true true (a_cons (x_var 2) (a_cons (x_var 3) (a_cons ((x_lst (AD.to true true (a_cons (x_tup (AD.to true true (a_cons (x_int) (a_cons (x_int) (a_cons (x_int) (a_nil)))))) (a_nil)))).nv) (a_nil)))))) (a_cons (x_tup (AD.to true true (a_cons (x_var 2) (a_cons (x_var 3) (a_cons ((x_lst (AD.to true true (a_cons ((x_lst (AD.to true true (a_cons (x_int) (a_cons (x_int) (a_cons (x_int) (a_nil)))))).nv) (a_nil)))).nv) (a_nil)))))) (a_cons (x_tup (AD.to true true (a_cons (x_var 2) (a_cons (x_var 3) (a_cons ((x_lst (AD.to true true (a_cons (x_tup (AD.to true true (a_cons (x_int) (a_cons (x_int) (a_cons (x_int) (a_nil)))))) (a_cons (x_tup (AD.to true true (a_cons (x_int) (a_cons (x_int) (a_cons (x_int) (a_nil)))))) (a_nil))))).nv) (a_nil)))))) (a_cons (x_tup (AD.to true true (a_cons (x_str) (a_cons (x_int) (a_cons ((x_lst (a_nil)).nv) (a_nil)))))) (a_cons (x_tup (AD.to true true (a_cons (x_var 2) (a_cons (x_str) (a_cons ((x_lst (a_nil)).nv) (a_nil)))))) (a_nil)))))))).nv)))).to [.own .la true, .im true, .im true, .im true, .im true, .own .l true, .no])
    (b_cons ((z_setO 5 nd (PD.wkN true (x_catO (x_own 5) ((x_lst (AD.to true true (a_cons (x_tup (AD.to true true (a_cons (x_var 2) (a_cons (x_var 3) (a_cons ((x_dnew).nvD) (a_nil)))))) (a_cons (x_tup (AD.to true true (a_cons (x_var 2) (a_cons (x_var 3) (a_cons ((x_lst (AD.to true true (a_cons (x_tup (AD.to true true (a_cons (x_int) (a_cons (x_neg (x_int)) (a_cons (x_int) (a_nil)))))) (a_nil)))).nv) (a_nil)))))) (a_cons (x_tup (AD.to true true (a_cons (x_var 2) (a_cons (x_var 3) (a_cons ((x_lst (AD.to true true (a_cons (x_tup (AD.to true true (a_cons (x_neg (x_int)) (a_cons (x_int) (a_cons (x_int) (a_nil)))))) (a_nil)))).nv) (a_nil)))))) (a_cons (x_tup (AD.to true true (a_cons (x_var 2) (a_cons (x_var 3) (a_cons ((x_lst (AD.to true true (a_cons (x_tup (AD.to true true (a_cons (x_add (x_pow (x_int) (x_int)) (x_int)) (a_cons (x_int) (a_cons (x_int) (a_nil)))))) (a_nil)))).nv) (a_nil)))))) (a_cons ((x_dnew).nvD) (a_cons (x_tup (a_nil)) (a_nil))))))))).nv)))).to [.own .la true, .im true, .im true, .im true, .im true, .own .l true, .no])
    (b_cons (z_for (n := 7) .never (i_seq ((x_lst (AD.to true true (a_cons (x_tup (AD.to true true (a_cons (x_bl) (a_cons (x_int) (a_cons (x_sub (x_var 2) (x_int)) (a_nil)))))) (a_cons (x_tup (AD.to true true (a_cons (x_int) (a_cons (x_bl) (a_cons (x_sub (x_var 2) (x_int)) (a_nil)))))) (a_cons (x_tup (AD.to true true (a_cons (x_int) (a_cons (x_int) (a_cons (x_str) (a_nil)))))) (a_cons (x_tup (AD.to true true (a_cons (x_int) (a_cons (x_int) (a_cons (x_non) (a_nil)))))) (a_cons (x_tup (AD.to true true (a_cons (x_str) (a_cons (x_int) (a_cons (x_sub (x_var 2) (x_int)) (a_nil)))))) (a_cons (x_tup (AD.to true true (a_cons (x_int) (a_cons (x_tup (AD.to true true (a_cons (x_int) (a_nil)))) (a_cons (x_sub (x_var 2) (x_int)) (a_nil)))))) (a_nil))))))))).nv)) (g_name 6 nd)
    ((b_one ((z_app 5 (x_tup (AD.to true true (a_cons (x_var 2) (a_cons (x_var 3) (a_cons ((x_lst (AD.to true true (a_cons (x_var 6) (a_nil)))).nv) (a_nil))))))).to [.own .la true, .im true, .im true, .im true, .im true, .own .l true, .im true])).to [.own .la true, .im true, .im true, .im true, .im true, .own .l true, .no]))
    (b_one (zx_retM (xd_ixO 5 (xd_callM 0 G_l_take (hr.mono (by decide)) t.m_l_take t.F_l_take.kp t.b_l_take pass0 (xb_a (XAD.to true true (xa_cons (xd_of (x_len t.n_len (AD.to false true (a_cons ((x_own 5).ov) (a_nil))))) (xa_nil)))))))))))))) rfl⟩
def g_l_spoilt : Gs := gSeqS (gAsg (gVar 1) (tgT (tgCons (tgN 2) (tgCons (tgN 3) (tgCons (tgN 4) (tgNil)))))) (gSeqS (gSet 5 (gCB hMax2 (gCons (gC (.int (1))) (gCons (gVar 2) (gNil))))) (gSeqS (gSet 6 (gPurN (gCB (one hListOf) (gCons (gVar 4) gNil)))) (gSeqS (xSet 7 (xCallM .la 2 f_l_take 0 (xCons (xP (gC (.int (9)))) (xNil)))) (gSeqS (xSet 8 (xCallM .la 2 f_l_take 0 (xCons (xP (gCB hMax2 (gCons (gC (.int (1))) (gCons (gCB hLen (gCons (gVar 6) (gNil))) (gNil))))) (xNil)))) (gSeqS (gIfS (gTest (gOp hEq (gVar 7) (gC (.int (0))))) (xSet 6 (xCB (one hSortD) (xCons (xCatO 6 (xLst (xCons (xCallM .la 3 f_l_new_tie 0 (xPA (gCons (gVar 5) (gCons (gVar 6) (gNil))))) (xNil)))) (xNil)))) (gNext)) (gSeqS (gIfS (gTest (gOp hEq (gVar 7) (gC (.int (1))))) (gSet 6 (gOp hCat (gSl hSl (gVar 6) (gNoPart) (gPart (gVar 8))) (gSl hSl (gVar 6) (gPart (gOp hAdd (gVar 8) (gC (.int (1))))) (gNoPart)))) (gNext)) (gSeqS (gIfS (gAnd (gTest (gOp hEq (gVar 7) (gC (.int (2))))) (gTest (gOp hNe (gVar 6) (gLst (gNil))))) (gSeqS (xAsg (xCallM .la 3 f_l_ends 0 (xPA (gCons (gVar 5) (gCons (gVar 6) (gNil))))) (tgT (tgCons (tgN 9) (tgCons (tgN 10) (tgNil))))) (gSetI 6 (gTup (gCons (gOp hIx (gOp hIx (gVar 6) (gVar 8)) (gC (.int (0)))) (gCons (gVar 9) (gCons (gVar 10) (gNil))))) (gVar 8))) (gNext)) (gSeqS (gIfS (gTest (gOp hEq (gVar 7) (gC (.int (3))))) (gSet 6 (gOp hCat (gSl hSl (gVar 6) (gNoPart) (gPart (gOp hAdd (gVar 8) (gC (.int (1)))))) (gSl hSl (gVar 6) (gPart (gVar 8)) (gNoPart)))) (gNext)) (gSeqS (gIfS (gTest (gOp hEq (gVar 7) (gC (.int (4))))) (gSetS 6 (gLsI (gRev (gCons (gSl hSl (gVar 6) (gPart (gVar 8)) (gPart (gOp hAdd (gVar 8) (gC (.int (2)))))) gNil))) (gVar 8) (gOp hAdd (gVar 8) (gC (.int (2))))) (gNext)) (gSeqS (gIfS (gTest (gOp hGt (gVar 7) (gC (.int (6))))) (xRetM (xP (gTup (gCons (gVar 2) (gCons (gCB hMax2 (gCons (gC (.int (1))) (gCons (gCB hMin2 (gCons (gC (.int (6))) (gCons (gOp hSub (gOp hAdd (gVar 3) (gOp hMul (gC (.int (2))) (gVar 7))) (gC (.int (15)))) (gNil)))) (gNil)))) (gCons (gVar 6) (gNil))))))) (gNext)) (xRetM (xP (gTup (gCons (gOp hSub (gOp hAdd (gVar 2) (gCB hInt1 (gCons (gOp hEq (gVar 7) (gC (.int (5)))) (gNil)))) (gCB hInt1 (gCons (gOp hEq (gVar 7) (gC (.int (6)))) (gNil)))) (gCons (gVar 3) (gCons (gVar 6) (gNil)))))))))))))))))
def f_l_spoilt : List Dt → O Dt := fnN 11 g_l_spoilt
theorem ok_l_spoilt (t : Tx K mg) : FnOk P w K mg base CX0 4 t.a_l_spoilt t.d_l_spoilt ["pot", "net"] (spMA K .la 2 f_l_spoilt) := by
  have G_l_take := ok_l_take (P := P) (w := w) (base := base) t
  have G_l_new_tie := ok_l_new_tie (P := P) (w := w) (base := base) t
  have G_l_ends := ok_l_ends (P := P) (w := w) (base := base) t
  have nd : (["pot", "net", "n", "k", "ties", "places", "made", "turn", "at", "a", "b"] : List Str).Nodup := by decide +kernel
  exact fn_okMA t.F_l_spoilt (Δn := [.own .la true, .im true, .no, .no, .no, .no, .no, .no, .no, .no, .no]) sc_l_spoilt rfl rfl (by decide) rfl fun cdv A outer s H E hr => ⟨_, BD.frm [.own .la true, .im true, .no, .no, .no, .no, .no, .no, .no, .no, .no] (Δb := kdMA .la 2 11) (Δc := kdMA .la 2 11)
    (b_cons ((z_asg (n := 11) (x_var 1) (g_tup (m := 3) rfl (g_cons (g_name 2 nd) (g_cons (g_name 3 nd) (g_cons (g_name 4 nd) (g_nil)))) (tgCons_len (tgCons_len (tgCons_len tgNil_len))))).to [.own .la true, .im true, .im true, .im true, .im true, .no, .no, .no, .no, .no, .no])
    (b_cons ((z_set 5 nd (x_max2 t.n_max (AD.to true true (a_cons (x_int) (a_cons (x_var 2) (a_nil)))))).to [.own .la true, .im true, .im true, .im true, .im true, .im true, .no, .no, .no, .no, .no])
    (b_cons ((z_setO 6 nd (PD.purN (x_list t.n_list (a_cons (x_var 4) a_nil)))).to [.own .la true, .im true, .im true, .im true, .im true, .im true, .own .l true, .no, .no, .no, .no])
    (b_cons ((zx_set 7 nd (xd_callM 0 G_l_take (hr.mono (by decide)) t.m_l_take t.F_l_take.kp t.b_l_take pass0 (xb_a (XAD.to true true (xa_cons (xd_of (x_int)) (xa_nil)))))).to [.own .la true, .im true, .im true, .im true, .im true, .im true, .own .l true, .im true, .no, .no, .no])
    (b_cons ((zx_set 8 nd (xd_callM 0 G_l_take (hr.mono (by decide)) t.m_l_take t.F_l_take.kp t.b_l_take pass0 (xb_a (XAD.to true true (xa_cons (xd_of (x_max2 t.n_max (AD.to true true (a_cons (x_int) (a_cons (x_len t.n_len (AD.to false true (a_cons ((x_own 6).ov) (a_nil)))) (a_nil)))))) (xa_nil)))))).to [.own .la true, .im true, .im true, .im true, .im true, .im true, .own .l true, .im true, .im true, .no, .no])
    (b_cons (z_if (Δn := [.own .la true, .im true, .im true, .im true, .im true, .im true, .own .l true, .im true, .im true, .no, .no]) (c_cmp (or_eq hr) (x_var 7) (x_int))
    ((b_one ((zx_setO 6 nd (xd_sortD hr t.n_sorted (XAD.to true true (xa_cons ((xd_catO 6 true ((xd_lst (XAD.to true true (xa_cons (xd_callM 0 G_l_new_tie (hr.mono (by decide)) t.m_l_new_tie t.F_l_new_tie.kp t.b_l_new_tie pass0 (xb_p (yb_cons (x_var 5) (yb_own 6 (yb_nil))))) (xa_nil)))).nv)).nv) (xa_nil))))).to [.own .la true, .im true, .im true, .im true, .im true, .im true, .own .l true, .im true, .im true, .no, .no])).to [.own .la true, .im true, .im true, .im true, .im true, .im true, .own .l true, .im true, .im true, .no, .no])
    ((b_nil).to [.own .la true, .im true, .im true, .im true, .im true, .im true, .own .l true, .im true, .im true, .no, .no]))
    (b_cons (z_if (Δn := [.own .la true, .im true, .im true, .im true, .im true, .im true, .own .l true, .im true, .im true, .no, .no]) (c_cmp (or_eq hr) (x_var 7) (x_int))
    ((b_one ((z_setO 6 nd (PD.wkN true (x_cat ((x_slO (x_own 6) (o_none) (o_some (x_var 8))).nv) ((x_slO (x_own 6) (o_some (x_add (x_var 8) (x_int))) (o_none)).nv)))).to [.own .la true, .im true, .im true, .im true, .im true, .im true, .own .l true, .im true, .im true, .no, .no])).to [.own .la true, .im true, .im true, .im true, .im true, .im true, .own .l true, .im true, .im true, .no, .no])
    ((b_nil).to [.own .la true, .im true, .im true, .im true, .im true, .im true, .own .l true, .im true, .im true, .no, .no]))
    (b_cons (z_if (Δn := [.own .la true, .im true, .im true, .im true, .im true, .im true, .own .l true, .im true, .im true, .no, .no]) (c_w (w_and (c_cmp (or_eq hr) (x_var 7) (x_int)) (w_and1 (c_cmp (or_ne hr) ((x_own 6).ov) ((x_lst (a_nil)).nv)))))
    ((b_cons ((zx_asg (n := 11) (xd_callM 0 G_l_ends (hr.mono (by decide)) t.m_l_ends t.F_l_ends.kp t.b_l_ends pass0 (xb_p (yb_cons (x_var 5) (yb_own 6 (yb_nil))))) (g_tup (m := 2) rfl (g_cons (g_name 9 nd) (g_cons (g_name 10 nd) (g_nil))) (tgCons_len (tgCons_len tgNil_len)))).to [.own .la true, .im true, .im true, .im true, .im true, .im true, .own .l true, .im true, .im true, .im true, .im true])
    (b_one ((z_setI 6 (x_tup (AD.to true true (a_cons (x_ix (x_ixO (x_own 6) (x_var 8)) (x_int)) (a_cons (x_var 9) (a_cons (x_var 10) (a_nil)))))) (x_var 8)).to [.own .la true, .im true, .im true, .im true, .im true, .im true, .own .l true, .im true, .im true, .im true, .im true]))).to [.own .la true, .im true, .im true, .im true, .im true, .im true, .own .l true, .im true, .im true, .no, .no])
    ((b_nil).to [.own .la true, .im true, .im true, .im true, .im true, .im true, .own .l true, .im true, .im true, .no, .no]))
    (b_cons (z_if (Δn := [.own .la true, .im true, .im true, .im true, .im true, .im true, .own .l true, .im true, .im true, .no, .no]) (c_cmp (or_eq hr) (x_var 7) (x_int))
    ((b_one ((z_setO 6 nd (PD.wkN true (x_cat ((x_slO (x_own 6) (o_none) (o_some (x_add (x_var 8) (x_int)))).nv) ((x_slO (x_own 6) (o_some (x_var 8)) (o_none)).nv)))).to [.own .la true, .im true, .im true, .im true, .im true, .im true, .own .l true, .im true, .im true, .no, .no])).to [.own .la true, .im true, .im true, .im true, .im true, .im true, .own .l true, .im true, .im true, .no, .no])
    ((b_nil).to [.own .la true, .im true, .im true, .im true, .im true, .im true, .own .l true, .im true, .im true, .no, .no]))
    (b_cons (z_if (Δn := [.own .la true, .im true, .im true, .im true, .im true, .im true, .own .l true, .im true, .im true, .no, .no]) (c_cmp (or_eq hr) (x_var 7) (x_int))
    ((b_one ((z_setS 6 (x_lrev t.n_list t.n_reversed ((x_slO (x_own 6) (o_some (x_var 8)) (o_some (x_add (x_var 8) (x_int)))).nv)) (x_var 8) (x_add (x_var 8) (x_int))).to [.own .la true, .im true, .im true, .im true, .im true, .im true, .own .l true, .im true, .im true, .no, .no])).to [.own .la true, .im true, .im true, .im true, .im true, .im true, .own .l true, .im true, .im true, .no, .no])
    ((b_nil).to [.own .la true, .im true, .im true, .im true, .im true, .im true, .own .l true, .im true, .im true, .no, .no]))
    (b_cons (z_if (Δn := [.own .la true, .im true, .im true, .im true, .im true, .im true, .own .l true, .im true, .im true, .no, .no]) (c_cmp or_gt (x_var 7) (x_int))
    (b_one (SD.frm [.own .la true, .im true, .im true, .im true, .im true, .im true, .im true, .im true, .im true, .no, .no] (zx_retM (xd_of (x_tup (AD.to true true (a_cons (x_var 2) (a_cons (x_max2 t.n_max (AD.to true true (a_cons (x_int) (a_cons (x_min2 t.n_min (AD.to true true (a_cons (x_int) (a_cons (x_sub (x_add (x_var 3) (x_mul (x_int) (x_var 7))) (x_int)) (a_nil))))) (a_nil))))) (a_cons (x_var 6) (a_nil))))))))))
    ((b_nil).to [.own .la true, .im true, .im true, .im true, .im true, .im true, .own .l true, .im true, .im true, .no, .no]))
    (b_one (SD.frm [.own .la true, .im true, .im true, .im true, .im true, .im true, .im true, .im true, .im true, .no, .no] (zx_retM (xd_of (x_tup (AD.to true true (a_cons (x_sub (x_add (x_var 2) (x_int1 t.n_int (AD.to true true (a_cons (x_cmp (or_eq hr) (x_var 7) (x_int)) (a_nil))))) (x_int1 t.n_int (AD.to true true (a_cons (x_cmp (or_eq hr) (x_var 7) (x_int)) (a_nil))))) (a_cons (x_var 3) (a_cons (x_var 6) (a_nil))))))))))))))))))))) rfl⟩
def g_l_right : Gs := gSeqS (gSet 1 (gCB hStr (gCons (gVar 0) (gNil)))) (gSeqS (gSet 2 (gCallN 1 f_is_net (gCons (gVar 0) (gNil)))) (gRet (gAndV (gUn (hIsa .bool) (gVar 2)) (gAndV (gOp hEq (gVar 2) (gCallN 1 f_l_is_net (gCons (gVar 0) (gNil)))) (gOp hEq (gCB hStr (gCons (gVar 0) (gNil))) (gVar 1))))))
def f_l_right : List Dt → O Dt := fnN 3 g_l_right
theorem ok_l_right (t : Tx K mg) : FnG P w K mg base 7 t.a_l_right t.d_l_right ["thing"] (spG K mg 1 f_l_right) := by
  have G_is_net := ok_is_net (P := P) (w := w) (base := base) t
  have G_l_is_net := ok_l_is_net (P := P) (w := w) (base := base) t
  have nd : (["thing", "kept", "found"] : List Str).Nodup := by decide +kernel
  exact fn_okNG t.F_l_right (Δn := [.im false, .no, .no]) sc_l_right rfl rfl (by decide) fun cdv A outer s H E gd hr => ⟨_, BD.frm [.im false, .no, .no] (Δb := kd0 1 3 false) (Δc := kd0 1 3 false)
    (b_cons ((z_set 1 nd (x_strOf gd hr t.n_str (AD.to true false (a_cons (x_var 0) (a_nil))))).to [.im false, .im true, .no])
    (b_cons ((z_set 2 nd (x_callN G_is_net (hr.mono (by decide)) t.m_is_net t.F_is_net.kp t.b_is_net pass0 (AD.to true false (a_cons (x_var 0) (a_nil))))).to [.im false, .im true, .im true])
    (b_one (z_ret (x_and (x_isa .bool t.n_isinstance t.n_bool (x_var 2)) (x_and (x_cmp (or_eq hr) (x_var 2) (x_callN G_l_is_net (hr.mono (by decide)) t.m_l_is_net t.F_l_is_net.kp t.b_l_is_net pass0 (AD.to true false (a_cons (x_var 0) (a_nil))))) (x_one (x_cmp (or_eq hr) (x_strOf gd hr t.n_str (AD.to true false (a_cons (x_var 0) (a_nil)))) (x_var 1))))))))) rfl⟩
def g_law_L1 : Gs := gSeqS (gSet 2 (gCallN 1 f_l_begun (gCons (gVar 1) (gNil)))) (gSeqS (xSet 3 (xCallM .la 1 f_l_drawn_net 2 (xNil))) (gSeqS (xIfS (xOr (xPT (gTest (gOp hNotB (gCallN 1 f_is_net (gCons (gVar 3) (gNil))) (gC (.bool true))))) (xNot (xTest (xCallN 1 f_l_right (xCons (xCallM .la 2 f_l_spoilt 2 (xCons (xP (gVar 3)) (xNil))) (xNil)))))) (gRet (gC (.bool false))) (gNext)) (gSeqS (gIfS (gNot (gTest (gCallN 1 f_l_right (gCons (gTup (gCons (gOp hIx (gVar 3) (gC (.int (0)))) (gCons (gOp hIx (gVar 3) (gC (.int (1)))) (gCons (gOp hCat (gSl hSl (gOp hIx (gVar 3) (gC (.int (2)))) (gNoPart) (gPart (gC (.int (2))))) (gLst (gCons (gTup (gCons (gOp hPow (gC (.int (10))) (gC (.int (30)))) (gCons (gC (.int (0))) (gCons (gOp hSub (gOp hIx (gVar 3) (gC (.int (0)))) (gC (.int (1)))) (gNil))))) (gNil)))) (gNil))))) (gNil))))) (gRet (gC (.bool false))) (gNext)) (xIfS (xOr (xNot (xTest (xCallN 1 f_l_right (xCons (xCallM .la 2 f_l_spoilt 2 (xCons (xCallM .la 2 f_l_spoilt 2 (xCons (xP (gVar 3)) (xNil))) (xNil))) (xNil))))) (xTest (xOp hNotB (xCallN 1 f_is_net (xCons (xCallM .la 2 f_l_odd_net 2 (xCons (xP (gVar 3)) (xNil))) (xNil))) (xP (gC (.bool false)))))) (gRet (gC (.bool false))) (gNext)))))
def g_law : Gs := gSeqS (gFor (gSeq (gCallN 2 f_l_folded (gCons (gVar 0) (gCons (gC (.int (6))) (gNil))))) (tgN 1) g_law_L1) (gRet (gC (.bool true)))
def f_law : List Dt → O Dt := fnN 4 g_law
theorem ok_law (t : Tx K mg) : FnG P w K mg base 8 t.a_law t.d_law ["script"] (spG K mg 1 f_law) := by
  have G_l_folded := ok_l_folded (P := P) (w := w) (base := base) t
  have G_l_begun := ok_l_begun (P := P) (w := w) (base := base) t
  have G_l_drawn_net := ok_l_drawn_net (P := P) (w := w) (base := base) t
  have G_is_net := ok_is_net (P := P) (w := w) (base := base) t
  have G_l_right := ok_l_right (P := P) (w := w) (base := base) t
  have G_l_spoilt := ok_l_spoilt (P := P) (w := w) (base := base) t
  have G_l_odd_net := ok_l_odd_net (P := P) (w := w) (base := base) t
  have nd : (["script", "cell", "pot", "net"] : List Str).Nodup := by decide +kernel
  exact fn_okNG t.F_law (Δn := [.im false, .no, .no, .no]) sc_law rfl rfl (by decide) fun cdv A outer s H E gd hr => ⟨_, BD.frm [.im false, .no, .no, .no] (Δb := kd0 1 4 false) (Δc := kd0 1 4 false)
    (b_cons (z_for (n := 4) .never (i_seq ((x_callL G_l_folded (hr.mono (by decide)) t.m_l_folded t.F_l_folded.kp t.b_l_folded pass0 (AD.to true false (a_cons (x_var 0) (a_cons (x_int) (a_nil))))).nv)) (g_name 1 nd)
    ((b_cons ((z_setO 2 nd (x_callL G_l_begun (hr.mono (by decide)) t.m_l_begun t.F_l_begun.kp t.b_l_begun pass0 (AD.to true true (a_cons (x_var 1) (a_nil))))).to [.im false, .im true, .own .l true, .no])
    (b_cons ((zx_set 3 nd (xd_callM 2 G_l_drawn_net (hr.mono (by decide)) t.m_l_drawn_net t.F_l_drawn_net.kp t.b_l_drawn_net pass0 (xb_a (xa_nil)))).to [.im false, .im true, .own .l true, .im true])
    (b_cons (zx_if (Δn := [.im false, .im true, .own .l true, .im true]) (xt_w (xw_or (xt_of (c_cmp or_notB (x_callN G_is_net (hr.mono (by decide)) t.m_is_net t.F_is_net.kp t.b_is_net pass0 (AD.to true true (a_cons (x_var 3) (a_nil)))) (x_bl))) (xw_or1 (xt_not (xt_val (xd_callNG gd G_l_right (hr.mono (by decide)) t.m_l_right t.F_l_right.kp t.b_l_right (XAD.to true true (xa_cons (xd_callMA 2 G_l_spoilt (hr.mono (by decide)) t.m_l_spoilt t.F_l_spoilt.kp t.b_l_spoilt pass0 (XAD.to true true (xa_cons (xd_of (x_var 3)) (xa_nil)))) (xa_nil)))))))))
    (b_one (z_ret (x_bl)))
    ((b_nil).to [.im false, .im true, .own .l true, .im true]))
    (b_cons (z_if (Δn := [.im false, .im true, .own .l true, .im true]) (c_not (c_val (x_callNG gd G_l_right (hr.mono (by decide)) t.m_l_right t.F_l_right.kp t.b_l_right (AD.to true true (a_cons (x_tup (AD.to true true (a_cons (x_ix (x_var 3) (x_int)) (a_cons (x_ix (x_var 3) (x_int)) (a_cons ((PD.wkN true (x_cat ((x_sl (x_ix (x_var 3) (x_int)) (o_none) (o_some (x_int))).nv) ((x_lst (AD.to true true (a_cons (x_tup (AD.to true true (a_cons (x_pow (x_int) (x_int)) (a_cons (x_int) (a_cons (x_sub (x_ix (x_var 3) (x_int)) (x_int)) (a_nil)))))) (a_nil)))).nv))).nv) (a_nil)))))) (a_nil))))))
    (b_one (z_ret (x_bl)))
    ((b_nil).to [.im false, .im true, .own .l true, .im true]))
    (b_one (zx_if (Δn := [.im false, .im true, .own .l true, .im true]) (xt_w (xw_or (xt_not (xt_val (xd_callNG gd G_l_right (hr.mono (by decide)) t.m_l_right t.F_l_right.kp t.b_l_right (XAD.to true true (xa_cons (xd_callMA 2 G_l_spoilt (hr.mono (by decide)) t.m_l_spoilt t.F_l_spoilt.kp t.b_l_spoilt pass0 (XAD.to true true (xa_cons (xd_callMA 2 G_l_spoilt (hr.mono (by decide)) t.m_l_spoilt t.F_l_spoilt.kp t.b_l_spoilt pass0 (XAD.to true true (xa_cons (xd_of (x_var 3)) (xa_nil)))) (xa_nil)))) (xa_nil)))))) (xw_or1 (xt_cmp or_notB (xd_callN G_is_net (hr.mono (by decide)) t.m_is_net t.F_is_net.kp t.b_is_net pass0 (XAD.to true true (xa_cons (xd_callMA 2 G_l_odd_net (hr.mono (by decide)) t.m_l_odd_net t.F_l_odd_net.kp t.b_l_odd_net pass0 (XAD.to true true (xa_cons (xd_of (x_var 3)) (xa_nil)))) (xa_nil)))) (xd_of (x_bl))))))
    (b_one (z_ret (x_bl)))
    ((b_nil).to [.im false, .im true, .own .l true, .im true]))))))).to [.im false, .no, .no, .no]))
    (b_one (z_ret (x_bl)))) rfl⟩
end
section
variable {w : World} {K : PySem.W.Frag} {h : Heap} {mg : Str → Option Value}
def mkTx (X : K.In h) (G : h.Ns mainGlobals mg)
    {f0 : Addr} {od0 an0 : Option Addr} {sl0 : Array (Option Value)} {oc0 kV0 dc0 pm0 cd0 ct0 : Value}
        (a0 : PySem.W.nsIn K mainGlobals "is_whole" = some (some (.ref f0))) (l0 : K.lookup f0 = some ⟨oc0, od0, .func (PySem.W.fnOf "is_whole" "is_whole" (defArgs st_is_whole) (defBody st_is_whole) (defScope st_is_whole) .none kV0 dc0 pm0 an0 cd0 ct0), sl0⟩) (c0 : PySem.W.codeIn K cd0 "is_whole" = true) (k0 : PySem.W.keepIn K (.ref f0) = true)
    {f1 : Addr} {od1 an1 : Option Addr} {sl1 : Array (Option Value)} {oc1 kV1 dc1 pm1 cd1 ct1 : Value}
        (a1 : PySem.W.nsIn K mainGlobals "is_place" = some (some (.ref f1))) (l1 : K.lookup f1 = some ⟨oc1, od1, .func (PySem.W.fnOf "is_place" "is_place" (defArgs st_is_place) (defBody st_is_place) (defScope st_is_place) .none kV1 dc1 pm1 an1 cd1 ct1), sl1⟩) (c1 : PySem.W.codeIn K cd1 "is_place" = true) (k1 : PySem.W.keepIn K (.ref f1) = true)
    {f2 : Addr} {od2 an2 : Option Addr} {sl2 : Array (Option Value)} {oc2 kV2 dc2 pm2 cd2 ct2 : Value}
        (a2 : PySem.W.nsIn K mainGlobals "is_moment" = some (some (.ref f2))) (l2 : K.lookup f2 = some ⟨oc2, od2, .func (PySem.W.fnOf "is_moment" "is_moment" (defArgs st_is_moment) (defBody st_is_moment) (defScope st_is_moment) .none kV2 dc2 pm2 an2 cd2 ct2), sl2⟩) (c2 : PySem.W.codeIn K cd2 "is_moment" = true) (k2 : PySem.W.keepIn K (.ref f2) = true)
    {f3 : Addr} {od3 an3 : Option Addr} {sl3 : Array (Option Value)} {oc3 kV3 dc3 pm3 cd3 ct3 : Value}
        (a3 : PySem.W.nsIn K mainGlobals "is_meeting" = some (some (.ref f3))) (l3 : K.lookup f3 = some ⟨oc3, od3, .func (PySem.W.fnOf "is_meeting" "is_meeting" (defArgs st_is_meeting) (defBody st_is_meeting) (defScope st_is_meeting) .none kV3 dc3 pm3 an3 cd3 ct3), sl3⟩) (c3 : PySem.W.codeIn K cd3 "is_meeting" = true) (k3 : PySem.W.keepIn K (.ref f3) = true)
    {f4 : Addr} {od4 an4 : Option Addr} {sl4 : Array (Option Value)} {oc4 kV4 dc4 pm4 cd4 ct4 : Value}
        (a4 : PySem.W.nsIn K mainGlobals "is_tie" = some (some (.ref f4))) (l4 : K.lookup f4 = some ⟨oc4, od4, .func (PySem.W.fnOf "is_tie" "is_tie" (defArgs st_is_tie) (defBody st_is_tie) (defScope st_is_tie) .none kV4 dc4 pm4 an4 cd4 ct4), sl4⟩) (c4 : PySem.W.codeIn K cd4 "is_tie" = true) (k4 : PySem.W.keepIn K (.ref f4) = true)
    {f5 : Addr} {od5 an5 : Option Addr} {sl5 : Array (Option Value)} {oc5 kV5 dc5 pm5 cd5 ct5 : Value}
        (a5 : PySem.W.nsIn K mainGlobals "is_record" = some (some (.ref f5))) (l5 : K.lookup f5 = some ⟨oc5, od5, .func (PySem.W.fnOf "is_record" "is_record" (defArgs st_is_record) (defBody st_is_record) (defScope st_is_record) .none kV5 dc5 pm5 an5 cd5 ct5), sl5⟩) (c5 : PySem.W.codeIn K cd5 "is_record" = true) (k5 : PySem.W.keepIn K (.ref f5) = true)
    {f6 : Addr} {od6 an6 : Option Addr} {sl6 : Array (Option Value)} {oc6 kV6 dc6 pm6 cd6 ct6 : Value}
        (a6 : PySem.W.nsIn K mainGlobals "joined" = some (some (.ref f6))) (l6 : K.lookup f6 = some ⟨oc6, od6, .func (PySem.W.fnOf "joined" "joined" (defArgs st_joined) (defBody st_joined) (defScope st_joined) .none kV6 dc6 pm6 an6 cd6 ct6), sl6⟩) (c6 : PySem.W.codeIn K cd6 "joined" = true) (k6 : PySem.W.keepIn K (.ref f6) = true)
    {f7 : Addr} {od7 an7 : Option Addr} {sl7 : Array (Option Value)} {oc7 kV7 dc7 pm7 cd7 ct7 : Value}
        (a7 : PySem.W.nsIn K mainGlobals "is_depth" = some (some (.ref f7))) (l7 : K.lookup f7 = some ⟨oc7, od7, .func (PySem.W.fnOf "is_depth" "is_depth" (defArgs st_is_depth) (defBody st_is_depth) (defScope st_is_depth) .none kV7 dc7 pm7 an7 cd7 ct7), sl7⟩) (c7 : PySem.W.codeIn K cd7 "is_depth" = true) (k7 : PySem.W.keepIn K (.ref f7) = true)
    {f8 : Addr} {od8 an8 : Option Addr} {sl8 : Array (Option Value)} {oc8 kV8 dc8 pm8 cd8 ct8 : Value}
        (a8 : PySem.W.nsIn K mainGlobals "look_at_layers" = some (some (.ref f8))) (l8 : K.lookup f8 = some ⟨oc8, od8, .func (PySem.W.fnOf "look_at_layers" "look_at_layers" (defArgs st_look_at_layers) (defBody st_look_at_layers) (defScope st_look_at_layers) .none kV8 dc8 pm8 an8 cd8 ct8), sl8⟩) (c8 : PySem.W.codeIn K cd8 "look_at_layers" = true) (k8 : PySem.W.keepIn K (.ref f8) = true)
    {f9 : Addr} {od9 an9 : Option Addr} {sl9 : Array (Option Value)} {oc9 kV9 dc9 pm9 cd9 ct9 : Value}
        (a9 : PySem.W.nsIn K mainGlobals "layer_for" = some (some (.ref f9))) (l9 : K.lookup f9 = some ⟨oc9, od9, .func (PySem.W.fnOf "layer_for" "layer_for" (defArgs st_layer_for) (defBody st_layer_for) (defScope st_layer_for) .none kV9 dc9 pm9 an9 cd9 ct9), sl9⟩) (c9 : PySem.W.codeIn K cd9 "layer_for" = true) (k9 : PySem.W.keepIn K (.ref f9) = true)
    {f10 : Addr} {od10 an10 : Option Addr} {sl10 : Array (Option Value)} {oc10 kV10 dc10 pm10 cd10 ct10 : Value}
        (a10 : PySem.W.nsIn K mainGlobals "layered" = some (some (.ref f10))) (l10 : K.lookup f10 = some ⟨oc10, od10, .func (PySem.W.fnOf "layered" "layered" (defArgs st_layered) (defBody st_layered) (defScope st_layered) .none kV10 dc10 pm10 an10 cd10 ct10), sl10⟩) (c10 : PySem.W.codeIn K cd10 "layered" = true) (k10 : PySem.W.keepIn K (.ref f10) = true)
    {f11 : Addr} {od11 an11 : Option Addr} {sl11 : Array (Option Value)} {oc11 kV11 dc11 pm11 cd11 ct11 : Value}
        (a11 : PySem.W.nsIn K mainGlobals "is_count" = some (some (.ref f11))) (l11 : K.lookup f11 = some ⟨oc11, od11, .func (PySem.W.fnOf "is_count" "is_count" (defArgs st_is_count) (defBody st_is_count) (defScope st_is_count) .none kV11 dc11 pm11 an11 cd11 ct11), sl11⟩) (c11 : PySem.W.codeIn K cd11 "is_count" = true) (k11 : PySem.W.keepIn K (.ref f11) = true)
    {f12 : Addr} {od12 an12 : Option Addr} {sl12 : Array (Option Value)} {oc12 kV12 dc12 pm12 cd12 ct12 : Value}
        (a12 : PySem.W.nsIn K mainGlobals "is_net" = some (some (.ref f12))) (l12 : K.lookup f12 = some ⟨oc12, od12, .func (PySem.W.fnOf "is_net" "is_net" (defArgs st_is_net) (defBody st_is_net) (defScope st_is_net) .none kV12 dc12 pm12 an12 cd12 ct12), sl12⟩) (c12 : PySem.W.codeIn K cd12 "is_net" = true) (k12 : PySem.W.keepIn K (.ref f12) = true)
    {f13 : Addr} {od13 an13 : Option Addr} {sl13 : Array (Option Value)} {oc13 kV13 dc13 pm13 cd13 ct13 : Value}
        (a13 : PySem.W.nsIn K mainGlobals "_law_folded" = some (some (.ref f13))) (l13 : K.lookup f13 = some ⟨oc13, od13, .func (PySem.W.fnOf "_law_folded" "_law_folded" (defArgs st_l_folded) (defBody st_l_folded) (defScope st_l_folded) .none kV13 dc13 pm13 an13 cd13 ct13), sl13⟩) (c13 : PySem.W.codeIn K cd13 "_law_folded" = true) (k13 : PySem.W.keepIn K (.ref f13) = true)
    {f14 : Addr} {od14 an14 : Option Addr} {sl14 : Array (Option Value)} {oc14 kV14 dc14 pm14 cd14 ct14 : Value}
        (a14 : PySem.W.nsIn K mainGlobals "_law_begun" = some (some (.ref f14))) (l14 : K.lookup f14 = some ⟨oc14, od14, .func (PySem.W.fnOf "_law_begun" "_law_begun" (defArgs st_l_begun) (defBody st_l_begun) (defScope st_l_begun) .none kV14 dc14 pm14 an14 cd14 ct14), sl14⟩) (c14 : PySem.W.codeIn K cd14 "_law_begun" = true) (k14 : PySem.W.keepIn K (.ref f14) = true)
    {f15 : Addr} {od15 an15 : Option Addr} {sl15 : Array (Option Value)} {oc15 kV15 dc15 pm15 cd15 ct15 : Value}
        (a15 : PySem.W.nsIn K mainGlobals "_law_take" = some (some (.ref f15))) (l15 : K.lookup f15 = some ⟨oc15, od15, .func (PySem.W.fnOf "_law_take" "_law_take" (defArgs st_l_take) (defBody st_l_take) (defScope st_l_take) .none kV15 dc15 pm15 an15 cd15 ct15), sl15⟩) (c15 : PySem.W.codeIn K cd15 "_law_take" = true) (k15 : PySem.W.keepIn K (.ref f15) = true)
    {f16 : Addr} {od16 an16 : Option Addr} {sl16 : Array (Option Value)} {oc16 kV16 dc16 pm16 cd16 ct16 : Value}
        (a16 : PySem.W.nsIn K mainGlobals "_law_wide" = some (some (.ref f16))) (l16 : K.lookup f16 = some ⟨oc16, od16, .func (PySem.W.fnOf "_law_wide" "_law_wide" (defArgs st_l_wide) (defBody st_l_wide) (defScope st_l_wide) .none kV16 dc16 pm16 an16 cd16 ct16), sl16⟩) (c16 : PySem.W.codeIn K cd16 "_law_wide" = true) (k16 : PySem.W.keepIn K (.ref f16) = true)
    {f17 : Addr} {od17 an17 : Option Addr} {sl17 : Array (Option Value)} {oc17 kV17 dc17 pm17 cd17 ct17 : Value}
        (a17 : PySem.W.nsIn K mainGlobals "_law_places" = some (some (.ref f17))) (l17 : K.lookup f17 = some ⟨oc17, od17, .func (PySem.W.fnOf "_law_places" "_law_places" (defArgs st_l_places) (defBody st_l_places) (defScope st_l_places) .none kV17 dc17 pm17 an17 cd17 ct17), sl17⟩) (c17 : PySem.W.codeIn K cd17 "_law_places" = true) (k17 : PySem.W.keepIn K (.ref f17) = true)
    {f18 : Addr} {od18 an18 : Option Addr} {sl18 : Array (Option Value)} {oc18 kV18 dc18 pm18 cd18 ct18 : Value}
        (a18 : PySem.W.nsIn K mainGlobals "_law_depth" = some (some (.ref f18))) (l18 : K.lookup f18 = some ⟨oc18, od18, .func (PySem.W.fnOf "_law_depth" "_law_depth" (defArgs st_l_depth) (defBody st_l_depth) (defScope st_l_depth) .none kV18 dc18 pm18 an18 cd18 ct18), sl18⟩) (c18 : PySem.W.codeIn K cd18 "_law_depth" = true) (k18 : PySem.W.keepIn K (.ref f18) = true)
    {f19 : Addr} {od19 an19 : Option Addr} {sl19 : Array (Option Value)} {oc19 kV19 dc19 pm19 cd19 ct19 : Value}
        (a19 : PySem.W.nsIn K mainGlobals "_law_ends" = some (some (.ref f19))) (l19 : K.lookup f19 = some ⟨oc19, od19, .func (PySem.W.fnOf "_law_ends" "_law_ends" (defArgs st_l_ends) (defBody st_l_ends) (defScope st_l_ends) .none kV19 dc19 pm19 an19 cd19 ct19), sl19⟩) (c19 : PySem.W.codeIn K cd19 "_law_ends" = true) (k19 : PySem.W.keepIn K (.ref f19) = true)
    {f20 : Addr} {od20 an20 : Option Addr} {sl20 : Array (Option Value)} {oc20 kV20 dc20 pm20 cd20 ct20 : Value}
        (a20 : PySem.W.nsIn K mainGlobals "_law_drawn_ties" = some (some (.ref f20))) (l20 : K.lookup f20 = some ⟨oc20, od20, .func (PySem.W.fnOf "_law_drawn_ties" "_law_drawn_ties" (defArgs st_l_drawn_ties) (defBody st_l_drawn_ties) (defScope st_l_drawn_ties) .none kV20 dc20 pm20 an20 cd20 ct20), sl20⟩) (c20 : PySem.W.codeIn K cd20 "_law_drawn_ties" = true) (k20 : PySem.W.keepIn K (.ref f20) = true)
    {f21 : Addr} {od21 an21 : Option Addr} {sl21 : Array (Option Value)} {oc21 kV21 dc21 pm21 cd21 ct21 : Value}
        (a21 : PySem.W.nsIn K mainGlobals "_law_most" = some (some (.ref f21))) (l21 : K.lookup f21 = some ⟨oc21, od21, .func (PySem.W.fnOf "_law_most" "_law_most" (defArgs st_l_most) (defBody st_l_most) (defScope st_l_most) .none kV21 dc21 pm21 an21 cd21 ct21), sl21⟩) (c21 : PySem.W.codeIn K cd21 "_law_most" = true) (k21 : PySem.W.keepIn K (.ref f21) = true)
    {f22 : Addr} {od22 an22 : Option Addr} {sl22 : Array (Option Value)} {oc22 kV22 dc22 pm22 cd22 ct22 : Value}
        (a22 : PySem.W.nsIn K mainGlobals "_law_layers_of" = some (some (.ref f22))) (l22 : K.lookup f22 = some ⟨oc22, od22, .func (PySem.W.fnOf "_law_layers_of" "_law_layers_of" (defArgs st_l_layers_of) (defBody st_l_layers_of) (defScope st_l_layers_of) .none kV22 dc22 pm22 an22 cd22 ct22), sl22⟩) (c22 : PySem.W.codeIn K cd22 "_law_layers_of" = true) (k22 : PySem.W.keepIn K (.ref f22) = true)
    {f23 : Addr} {od23 an23 : Option Addr} {sl23 : Array (Option Value)} {oc23 kV23 dc23 pm23 cd23 ct23 : Value}
        (a23 : PySem.W.nsIn K mainGlobals "_law_net_of" = some (some (.ref f23))) (l23 : K.lookup f23 = some ⟨oc23, od23, .func (PySem.W.fnOf "_law_net_of" "_law_net_of" (defArgs st_l_net_of) (defBody st_l_net_of) (defScope st_l_net_of) .none kV23 dc23 pm23 an23 cd23 ct23), sl23⟩) (c23 : PySem.W.codeIn K cd23 "_law_net_of" = true) (k23 : PySem.W.keepIn K (.ref f23) = true)
    {f24 : Addr} {od24 an24 : Option Addr} {sl24 : Array (Option Value)} {oc24 kV24 dc24 pm24 cd24 ct24 : Value}
        (a24 : PySem.W.nsIn K mainGlobals "_law_drawn_net" = some (some (.ref f24))) (l24 : K.lookup f24 = some ⟨oc24, od24, .func (PySem.W.fnOf "_law_drawn_net" "_law_drawn_net" (defArgs st_l_drawn_net) (defBody st_l_drawn_net) (defScope st_l_drawn_net) .none kV24 dc24 pm24 an24 cd24 ct24), sl24⟩) (c24 : PySem.W.codeIn K cd24 "_law_drawn_net" = true) (k24 : PySem.W.keepIn K (.ref f24) = true)
    {f25 : Addr} {od25 an25 : Option Addr} {sl25 : Array (Option Value)} {oc25 kV25 dc25 pm25 cd25 ct25 : Value}
        (a25 : PySem.W.nsIn K mainGlobals "_law_new_tie" = some (some (.ref f25))) (l25 : K.lookup f25 = some ⟨oc25, od25, .func (PySem.W.fnOf "_law_new_tie" "_law_new_tie" (defArgs st_l_new_tie) (defBody st_l_new_tie) (defScope st_l_new_tie) .none kV25 dc25 pm25 an25 cd25 ct25), sl25⟩) (c25 : PySem.W.codeIn K cd25 "_law_new_tie" = true) (k25 : PySem.W.keepIn K (.ref f25) = true)
    {f26 : Addr} {od26 an26 : Option Addr} {sl26 : Array (Option Value)} {oc26 kV26 dc26 pm26 cd26 ct26 : Value}
        (a26 : PySem.W.nsIn K mainGlobals "_law_whole" = some (some (.ref f26))) (l26 : K.lookup f26 = some ⟨oc26, od26, .func (PySem.W.fnOf "_law_whole" "_law_whole" (defArgs st_l_whole) (defBody st_l_whole) (defScope st_l_whole) .none kV26 dc26 pm26 an26 cd26 ct26), sl26⟩) (c26 : PySem.W.codeIn K cd26 "_law_whole" = true) (k26 : PySem.W.keepIn K (.ref f26) = true)
    {f27 : Addr} {od27 an27 : Option Addr} {sl27 : Array (Option Value)} {oc27 kV27 dc27 pm27 cd27 ct27 : Value}
        (a27 : PySem.W.nsIn K mainGlobals "_law_is_tie" = some (some (.ref f27))) (l27 : K.lookup f27 = some ⟨oc27, od27, .func (PySem.W.fnOf "_law_is_tie" "_law_is_tie" (defArgs st_l_is_tie) (defBody st_l_is_tie) (defScope st_l_is_tie) .none kV27 dc27 pm27 an27 cd27 ct27), sl27⟩) (c27 : PySem.W.codeIn K cd27 "_law_is_tie" = true) (k27 : PySem.W.keepIn K (.ref f27) = true)
    {f28 : Addr} {od28 an28 : Option Addr} {sl28 : Array (Option Value)} {oc28 kV28 dc28 pm28 cd28 ct28 : Value}
        (a28 : PySem.W.nsIn K mainGlobals "_law_is_net" = some (some (.ref f28))) (l28 : K.lookup f28 = some ⟨oc28, od28, .func (PySem.W.fnOf "_law_is_net" "_law_is_net" (defArgs st_l_is_net) (defBody st_l_is_net) (defScope st_l_is_net) .none kV28 dc28 pm28 an28 cd28 ct28), sl28⟩) (c28 : PySem.W.codeIn K cd28 "_law_is_net" = true) (k28 : PySem.W.keepIn K (.ref f28) = true)
    {f29 : Addr} {od29 an29 : Option Addr} {sl29 : Array (Option Value)} {oc29 kV29 dc29 pm29 cd29 ct29 : Value}
        (a29 : PySem.W.nsIn K mainGlobals "_law_odd_net" = some (some (.ref f29))) (l29 : K.lookup f29 = some ⟨oc29, od29, .func (PySem.W.fnOf "_law_odd_net" "_law_odd_net" (defArgs st_l_odd_net) (defBody st_l_odd_net) (defScope st_l_odd_net) .none kV29 dc29 pm29 an29 cd29 ct29), sl29⟩) (c29 : PySem.W.codeIn K cd29 "_law_odd_net" = true) (k29 : PySem.W.keepIn K (.ref f29) = true)
    {f30 : Addr} {od30 an30 : Option Addr} {sl30 : Array (Option Value)} {oc30 kV30 dc30 pm30 cd30 ct30 : Value}
        (a30 : PySem.W.nsIn K mainGlobals "_law_spoilt" = some (some (.ref f30))) (l30 : K.lookup f30 = some ⟨oc30, od30, .func (PySem.W.fnOf "_law_spoilt" "_law_spoilt" (defArgs st_l_spoilt) (defBody st_l_spoilt) (defScope st_l_spoilt) .none kV30 dc30 pm30 an30 cd30 ct30), sl30⟩) (c30 : PySem.W.codeIn K cd30 "_law_spoilt" = true) (k30 : PySem.W.keepIn K (.ref f30) = true)
    {f31 : Addr} {od31 an31 : Option Addr} {sl31 : Array (Option Value)} {oc31 kV31 dc31 pm31 cd31 ct31 : Value}
        (a31 : PySem.W.nsIn K mainGlobals "_law_right" = some (some (.ref f31))) (l31 : K.lookup f31 = some ⟨oc31, od31, .func (PySem.W.fnOf "_law_right" "_law_right" (defArgs st_l_right) (defBody st_l_right) (defScope st_l_right) .none kV31 dc31 pm31 an31 cd31 ct31), sl31⟩) (c31 : PySem.W.codeIn K cd31 "_law_right" = true) (k31 : PySem.W.keepIn K (.ref f31) = true)
    {f32 : Addr} {od32 an32 : Option Addr} {sl32 : Array (Option Value)} {oc32 kV32 dc32 pm32 cd32 ct32 : Value}
        (a32 : PySem.W.nsIn K mainGlobals "law" = some (some (.ref f32))) (l32 : K.lookup f32 = some ⟨oc32, od32, .func (PySem.W.fnOf "law" "law" (defArgs st_law) (defBody st_law) (defScope st_law) .none kV32 dc32 pm32 an32 cd32 ct32), sl32⟩) (c32 : PySem.W.codeIn K cd32 "law" = true) (k32 : PySem.W.keepIn K (.ref f32) = true)
        (z_isinstance : PySem.W.nsIn K mainGlobals "isinstance" = some none)
        (z_int : PySem.W.nsIn K mainGlobals "int" = some none)
        (z_bool : PySem.W.nsIn K mainGlobals "bool" = some none)
        (z_tuple : PySem.W.nsIn K mainGlobals "tuple" = some none)
        (z_len : PySem.W.nsIn K mainGlobals "len" = some none)
        (z_list : PySem.W.nsIn K mainGlobals "list" = some none)
        (z_all : PySem.W.nsIn K mainGlobals "all" = some none)
        (z_range : PySem.W.nsIn K mainGlobals "range" = some none)
        (z_min : PySem.W.nsIn K mainGlobals "min" = some none)
        (z_max : PySem.W.nsIn K mainGlobals "max" = some none)
        (z_enumerate : PySem.W.nsIn K mainGlobals "enumerate" = some none)
        (z_reversed : PySem.W.nsIn K mainGlobals "reversed" = some none)
        (z_abs : PySem.W.nsIn K mainGlobals "abs" = some none)
        (z_zip : PySem.W.nsIn K mainGlobals "zip" = some none)
        (z_sorted : PySem.W.nsIn K mainGlobals "sorted" = some none)
        (z_str : PySem.W.nsIn K mainGlobals "str" = some none)
        {tk_LAST_MOMENT : Tok} (y_LAST_MOMENT : PySem.W.nsIn K mainGlobals "LAST_MOMENT" = some (some (.int (1000000000000000000000000000000) tk_LAST_MOMENT)))
        {tk_MOST_TIES : Tok} (y_MOST_TIES : PySem.W.nsIn K mainGlobals "MOST_TIES" = some (some (.int (60) tk_MOST_TIES)))
        {tk_MOST_LAYERS_layers : Tok} (y_MOST_LAYERS_layers : PySem.W.nsIn K mainGlobals "MOST_LAYERS_layers" = some (some (.int (6) tk_MOST_LAYERS_layers)))
        {tk_MOST_PLACES : Tok} (y_MOST_PLACES : PySem.W.nsIn K mainGlobals "MOST_PLACES" = some (some (.int (10) tk_MOST_PLACES)))
        {tk_MOST_LAYERS_nets : Tok} (y_MOST_LAYERS_nets : PySem.W.nsIn K mainGlobals "MOST_LAYERS_nets" = some (some (.int (6) tk_MOST_LAYERS_nets))) : Tx K mg where
  a_is_whole := f0
  d_is_whole := _
  F_is_whole := fun_mk (st := st_is_whole) l0 c0 k0
  m_is_whole := PySem.W.mg_of X G a0
  b_is_whole := (fun_mk (st := st_is_whole) l0 c0 k0).binds fun _ _ _ _ _ _ us hl => match us, hl with | [_], _ => rfl
  a_is_place := f1
  d_is_place := _
  F_is_place := fun_mk (st := st_is_place) l1 c1 k1
  m_is_place := PySem.W.mg_of X G a1
  b_is_place := (fun_mk (st := st_is_place) l1 c1 k1).binds fun _ _ _ _ _ _ us hl => match us, hl with | [_, _], _ => rfl
  a_is_moment := f2
  d_is_moment := _
  F_is_moment := fun_mk (st := st_is_moment) l2 c2 k2
  m_is_moment := PySem.W.mg_of X G a2
  b_is_moment := (fun_mk (st := st_is_moment) l2 c2 k2).binds fun _ _ _ _ _ _ us hl => match us, hl with | [_], _ => rfl
  a_is_meeting := f3
  d_is_meeting := _
  F_is_meeting := fun_mk (st := st_is_meeting) l3 c3 k3
  m_is_meeting := PySem.W.mg_of X G a3
  b_is_meeting := (fun_mk (st := st_is_meeting) l3 c3 k3).binds fun _ _ _ _ _ _ us hl => match us, hl with | [_, _], _ => rfl
  a_is_tie := f4
  d_is_tie := _
  F_is_tie := fun_mk (st := st_is_tie) l4 c4 k4
  m_is_tie := PySem.W.mg_of X G a4
  b_is_tie := (fun_mk (st := st_is_tie) l4 c4 k4).binds fun _ _ _ _ _ _ us hl => match us, hl with | [_, _], _ => rfl
  a_is_record := f5
  d_is_record := _
  F_is_record := fun_mk (st := st_is_record) l5 c5 k5
  m_is_record := PySem.W.mg_of X G a5
  b_is_record := (fun_mk (st := st_is_record) l5 c5 k5).binds fun _ _ _ _ _ _ us hl => match us, hl with | [_, _], _ => rfl
  a_joined := f6
  d_joined := _
  F_joined := fun_mk (st := st_joined) l6 c6 k6
  m_joined := PySem.W.mg_of X G a6
  b_joined := (fun_mk (st := st_joined) l6 c6 k6).binds fun _ _ _ _ _ _ us hl => match us, hl with | [_, _, _], _ => rfl
  a_is_depth := f7
  d_is_depth := _
  F_is_depth := fun_mk (st := st_is_depth) l7 c7 k7
  m_is_depth := PySem.W.mg_of X G a7
  b_is_depth := (fun_mk (st := st_is_depth) l7 c7 k7).binds fun _ _ _ _ _ _ us hl => match us, hl with | [_], _ => rfl
  a_look_at_layers := f8
  d_look_at_layers := _
  F_look_at_layers := fun_mk (st := st_look_at_layers) l8 c8 k8
  m_look_at_layers := PySem.W.mg_of X G a8
  b_look_at_layers := (fun_mk (st := st_look_at_layers) l8 c8 k8).binds fun _ _ _ _ _ _ us hl => match us, hl with | [_], _ => rfl
  a_layer_for := f9
  d_layer_for := _
  F_layer_for := fun_mk (st := st_layer_for) l9 c9 k9
  m_layer_for := PySem.W.mg_of X G a9
  b_layer_for := (fun_mk (st := st_layer_for) l9 c9 k9).binds fun _ _ _ _ _ _ us hl => match us, hl with | [_, _, _], _ => rfl
  a_layered := f10
  d_layered := _
  F_layered := fun_mk (st := st_layered) l10 c10 k10
  m_layered := PySem.W.mg_of X G a10
  b_layered := (fun_mk (st := st_layered) l10 c10 k10).binds fun _ _ _ _ _ _ us hl => match us, hl with | [_, _, _], _ => rfl
  a_is_count := f11
  d_is_count := _
  F_is_count := fun_mk (st := st_is_count) l11 c11 k11
  m_is_count := PySem.W.mg_of X G a11
  b_is_count := (fun_mk (st := st_is_count) l11 c11 k11).binds fun _ _ _ _ _ _ us hl => match us, hl with | [_, _], _ => rfl
  a_is_net := f12
  d_is_net := _
  F_is_net := fun_mk (st := st_is_net) l12 c12 k12
  m_is_net := PySem.W.mg_of X G a12
  b_is_net := (fun_mk (st := st_is_net) l12 c12 k12).binds fun _ _ _ _ _ _ us hl => match us, hl with | [_], _ => rfl
  a_l_folded := f13
  d_l_folded := _
  F_l_folded := fun_mk (st := st_l_folded) l13 c13 k13
  m_l_folded := PySem.W.mg_of X G a13
  b_l_folded := (fun_mk (st := st_l_folded) l13 c13 k13).binds fun _ _ _ _ _ _ us hl => match us, hl with | [_, _], _ => rfl
  a_l_begun := f14
  d_l_begun := _
  F_l_begun := fun_mk (st := st_l_begun) l14 c14 k14
  m_l_begun := PySem.W.mg_of X G a14
  b_l_begun := (fun_mk (st := st_l_begun) l14 c14 k14).binds fun _ _ _ _ _ _ us hl => match us, hl with | [_], _ => rfl
  a_l_take := f15
  d_l_take := _
  F_l_take := fun_mk (st := st_l_take) l15 c15 k15
  m_l_take := PySem.W.mg_of X G a15
  b_l_take := (fun_mk (st := st_l_take) l15 c15 k15).binds fun _ _ _ _ _ _ us hl => match us, hl with | [_, _], _ => rfl
  a_l_wide := f16
  d_l_wide := _
  F_l_wide := fun_mk (st := st_l_wide) l16 c16 k16
  m_l_wide := PySem.W.mg_of X G a16
  b_l_wide := (fun_mk (st := st_l_wide) l16 c16 k16).binds fun _ _ _ _ _ _ us hl => match us, hl with | [_, _], _ => rfl
  a_l_places := f17
  d_l_places := _
  F_l_places := fun_mk (st := st_l_places) l17 c17 k17
  m_l_places := PySem.W.mg_of X G a17
  b_l_places := (fun_mk (st := st_l_places) l17 c17 k17).binds fun _ _ _ _ _ _ us hl => match us, hl with | [_], _ => rfl
  a_l_depth := f18
  d_l_depth := _
  F_l_depth := fun_mk (st := st_l_depth) l18 c18 k18
  m_l_depth := PySem.W.mg_of X G a18
  b_l_depth := (fun_mk (st := st_l_depth) l18 c18 k18).binds fun _ _ _ _ _ _ us hl => match us, hl with | [_], _ => rfl
  a_l_ends := f19
  d_l_ends := _
  F_l_ends := fun_mk (st := st_l_ends) l19 c19 k19
  m_l_ends := PySem.W.mg_of X G a19
  b_l_ends := (fun_mk (st := st_l_ends) l19 c19 k19).binds fun _ _ _ _ _ _ us hl => match us, hl with | [_, _, _], _ => rfl
  a_l_drawn_ties := f20
  d_l_drawn_ties := _
  F_l_drawn_ties := fun_mk (st := st_l_drawn_ties) l20 c20 k20
  m_l_drawn_ties := PySem.W.mg_of X G a20
  b_l_drawn_ties := (fun_mk (st := st_l_drawn_ties) l20 c20 k20).binds fun _ _ _ _ _ _ us hl => match us, hl with | [_, _, _], _ => rfl
  a_l_most := f21
  d_l_most := _
  F_l_most := fun_mk (st := st_l_most) l21 c21 k21
  m_l_most := PySem.W.mg_of X G a21
  b_l_most := (fun_mk (st := st_l_most) l21 c21 k21).binds fun _ _ _ _ _ _ us hl => match us, hl with | [_], _ => rfl
  a_l_layers_of := f22
  d_l_layers_of := _
  F_l_layers_of := fun_mk (st := st_l_layers_of) l22 c22 k22
  m_l_layers_of := PySem.W.mg_of X G a22
  b_l_layers_of := (fun_mk (st := st_l_layers_of) l22 c22 k22).binds fun _ _ _ _ _ _ us hl => match us, hl with | [_, _, _], _ => rfl
  a_l_net_of := f23
  d_l_net_of := _
  F_l_net_of := fun_mk (st := st_l_net_of) l23 c23 k23
  m_l_net_of := PySem.W.mg_of X G a23
  b_l_net_of := (fun_mk (st := st_l_net_of) l23 c23 k23).binds fun _ _ _ _ _ _ us hl => match us, hl with | [_, _, _], _ => rfl
  a_l_drawn_net := f24
  d_l_drawn_net := _
  F_l_drawn_net := fun_mk (st := st_l_drawn_net) l24 c24 k24
  m_l_drawn_net := PySem.W.mg_of X G a24
  b_l_drawn_net := (fun_mk (st := st_l_drawn_net) l24 c24 k24).binds fun _ _ _ _ _ _ us hl => match us, hl with | [_], _ => rfl
  a_l_new_tie := f25
  d_l_new_tie := _
  F_l_new_tie := fun_mk (st := st_l_new_tie) l25 c25 k25
  m_l_new_tie := PySem.W.mg_of X G a25
  b_l_new_tie := (fun_mk (st := st_l_new_tie) l25 c25 k25).binds fun _ _ _ _ _ _ us hl => match us, hl with | [_, _, _], _ => rfl
  a_l_whole := f26
  d_l_whole := _
  F_l_whole := fun_mk (st := st_l_whole) l26 c26 k26
  m_l_whole := PySem.W.mg_of X G a26
  b_l_whole := (fun_mk (st := st_l_whole) l26 c26 k26).binds fun _ _ _ _ _ _ us hl => match us, hl with | [_], _ => rfl
  a_l_is_tie := f27
  d_l_is_tie := _
  F_l_is_tie := fun_mk (st := st_l_is_tie) l27 c27 k27
  m_l_is_tie := PySem.W.mg_of X G a27
  b_l_is_tie := (fun_mk (st := st_l_is_tie) l27 c27 k27).binds fun _ _ _ _ _ _ us hl => match us, hl with | [_, _], _ => rfl
  a_l_is_net := f28
  d_l_is_net := _
  F_l_is_net := fun_mk (st := st_l_is_net) l28 c28 k28
  m_l_is_net := PySem.W.mg_of X G a28
  b_l_is_net := (fun_mk (st := st_l_is_net) l28 c28 k28).binds fun _ _ _ _ _ _ us hl => match us, hl with | [_], _ => rfl
  a_l_odd_net := f29
  d_l_odd_net := _
  F_l_odd_net := fun_mk (st := st_l_odd_net) l29 c29 k29
  m_l_odd_net := PySem.W.mg_of X G a29
  b_l_odd_net := (fun_mk (st := st_l_odd_net) l29 c29 k29).binds fun _ _ _ _ _ _ us hl => match us, hl with | [_, _], _ => rfl
  a_l_spoilt := f30
  d_l_spoilt := _
  F_l_spoilt := fun_mk (st := st_l_spoilt) l30 c30 k30
  m_l_spoilt := PySem.W.mg_of X G a30
  b_l_spoilt := (fun_mk (st := st_l_spoilt) l30 c30 k30).binds fun _ _ _ _ _ _ us hl => match us, hl with | [_, _], _ => rfl
  a_l_right := f31
  d_l_right := _
  F_l_right := fun_mk (st := st_l_right) l31 c31 k31
  m_l_right := PySem.W.mg_of X G a31
  b_l_right := (fun_mk (st := st_l_right) l31 c31 k31).binds fun _ _ _ _ _ _ us hl => match us, hl with | [_], _ => rfl
  a_law := f32
  d_law := _
  F_law := fun_mk (st := st_law) l32 c32 k32
  m_law := PySem.W.mg_of X G a32
  b_law := (fun_mk (st := st_law) l32 c32 k32).binds fun _ _ _ _ _ _ us hl => match us, hl with | [_], _ => rfl
  n_isinstance := PySem.W.mg_none_of X G z_isinstance
  n_int := PySem.W.mg_none_of X G z_int
  n_bool := PySem.W.mg_none_of X G z_bool
  n_tuple := PySem.W.mg_none_of X G z_tuple
  n_len := PySem.W.mg_none_of X G z_len
  n_list := PySem.W.mg_none_of X G z_list
  n_all := PySem.W.mg_none_of X G z_all
  n_range := PySem.W.mg_none_of X G z_range
  n_min := PySem.W.mg_none_of X G z_min
  n_max := PySem.W.mg_none_of X G z_max
  n_enumerate := PySem.W.mg_none_of X G z_enumerate
  n_reversed := PySem.W.mg_none_of X G z_reversed
  n_abs := PySem.W.mg_none_of X G z_abs
  n_zip := PySem.W.mg_none_of X G z_zip
  n_sorted := PySem.W.mg_none_of X G z_sorted
  n_str := PySem.W.mg_none_of X G z_str
  c_LAST_MOMENT := ⟨tk_LAST_MOMENT, PySem.W.mg_of X G y_LAST_MOMENT⟩
  c_MOST_TIES := ⟨tk_MOST_TIES, PySem.W.mg_of X G y_MOST_TIES⟩
  c_MOST_LAYERS_layers := ⟨tk_MOST_LAYERS_layers, PySem.W.mg_of X G y_MOST_LAYERS_layers⟩
  c_MOST_PLACES := ⟨tk_MOST_PLACES, PySem.W.mg_of X G y_MOST_PLACES⟩
  c_MOST_LAYERS_nets := ⟨tk_MOST_LAYERS_nets, PySem.W.mg_of X G y_MOST_LAYERS_nets⟩
theorem all_mk {l : PySem.W.OpenLaw} {fa : Addr} (X : K.In h) (G : h.Ns mainGlobals mg) (hfa : mg "law" = some (.ref fa))
    {f0 : Addr} {od0 an0 : Option Addr} {sl0 : Array (Option Value)} {oc0 kV0 dc0 pm0 cd0 ct0 : Value}
        (a0 : PySem.W.nsIn K mainGlobals "is_whole" = some (some (.ref f0))) (l0 : K.lookup f0 = some ⟨oc0, od0, .func (PySem.W.fnOf "is_whole" "is_whole" (defArgs st_is_whole) (defBody st_is_whole) (defScope st_is_whole) .none kV0 dc0 pm0 an0 cd0 ct0), sl0⟩) (c0 : PySem.W.codeIn K cd0 "is_whole" = true) (k0 : PySem.W.keepIn K (.ref f0) = true)
    {f1 : Addr} {od1 an1 : Option Addr} {sl1 : Array (Option Value)} {oc1 kV1 dc1 pm1 cd1 ct1 : Value}
        (a1 : PySem.W.nsIn K mainGlobals "is_place" = some (some (.ref f1))) (l1 : K.lookup f1 = some ⟨oc1, od1, .func (PySem.W.fnOf "is_place" "is_place" (defArgs st_is_place) (defBody st_is_place) (defScope st_is_place) .none kV1 dc1 pm1 an1 cd1 ct1), sl1⟩) (c1 : PySem.W.codeIn K cd1 "is_place" = true) (k1 : PySem.W.keepIn K (.ref f1) = true)
    {f2 : Addr} {od2 an2 : Option Addr} {sl2 : Array (Option Value)} {oc2 kV2 dc2 pm2 cd2 ct2 : Value}
        (a2 : PySem.W.nsIn K mainGlobals "is_moment" = some (some (.ref f2))) (l2 : K.lookup f2 = some ⟨oc2, od2, .func (PySem.W.fnOf "is_moment" "is_moment" (defArgs st_is_moment) (defBody st_is_moment) (defScope st_is_moment) .none kV2 dc2 pm2 an2 cd2 ct2), sl2⟩) (c2 : PySem.W.codeIn K cd2 "is_moment" = true) (k2 : PySem.W.keepIn K (.ref f2) = true)
    {f3 : Addr} {od3 an3 : Option Addr} {sl3 : Array (Option Value)} {oc3 kV3 dc3 pm3 cd3 ct3 : Value}
        (a3 : PySem.W.nsIn K mainGlobals "is_meeting" = some (some (.ref f3))) (l3 : K.lookup f3 = some ⟨oc3, od3, .func (PySem.W.fnOf "is_meeting" "is_meeting" (defArgs st_is_meeting) (defBody st_is_meeting) (defScope st_is_meeting) .none kV3 dc3 pm3 an3 cd3 ct3), sl3⟩) (c3 : PySem.W.codeIn K cd3 "is_meeting" = true) (k3 : PySem.W.keepIn K (.ref f3) = true)
    {f4 : Addr} {od4 an4 : Option Addr} {sl4 : Array (Option Value)} {oc4 kV4 dc4 pm4 cd4 ct4 : Value}
        (a4 : PySem.W.nsIn K mainGlobals "is_tie" = some (some (.ref f4))) (l4 : K.lookup f4 = some ⟨oc4, od4, .func (PySem.W.fnOf "is_tie" "is_tie" (defArgs st_is_tie) (defBody st_is_tie) (defScope st_is_tie) .none kV4 dc4 pm4 an4 cd4 ct4), sl4⟩) (c4 : PySem.W.codeIn K cd4 "is_tie" = true) (k4 : PySem.W.keepIn K (.ref f4) = true)
    {f5 : Addr} {od5 an5 : Option Addr} {sl5 : Array (Option Value)} {oc5 kV5 dc5 pm5 cd5 ct5 : Value}
        (a5 : PySem.W.nsIn K mainGlobals "is_record" = some (some (.ref f5))) (l5 : K.lookup f5 = some ⟨oc5, od5, .func (PySem.W.fnOf "is_record" "is_record" (defArgs st_is_record) (defBody st_is_record) (defScope st_is_record) .none kV5 dc5 pm5 an5 cd5 ct5), sl5⟩) (c5 : PySem.W.codeIn K cd5 "is_record" = true) (k5 : PySem.W.keepIn K (.ref f5) = true)
    {f6 : Addr} {od6 an6 : Option Addr} {sl6 : Array (Option Value)} {oc6 kV6 dc6 pm6 cd6 ct6 : Value}
        (a6 : PySem.W.nsIn K mainGlobals "joined" = some (some (.ref f6))) (l6 : K.lookup f6 = some ⟨oc6, od6, .func (PySem.W.fnOf "joined" "joined" (defArgs st_joined) (defBody st_joined) (defScope st_joined) .none kV6 dc6 pm6 an6 cd6 ct6), sl6⟩) (c6 : PySem.W.codeIn K cd6 "joined" = true) (k6 : PySem.W.keepIn K (.ref f6) = true)
    {f7 : Addr} {od7 an7 : Option Addr} {sl7 : Array (Option Value)} {oc7 kV7 dc7 pm7 cd7 ct7 : Value}
        (a7 : PySem.W.nsIn K mainGlobals "is_depth" = some (some (.ref f7))) (l7 : K.lookup f7 = some ⟨oc7, od7, .func (PySem.W.fnOf "is_depth" "is_depth" (defArgs st_is_depth) (defBody st_is_depth) (defScope st_is_depth) .none kV7 dc7 pm7 an7 cd7 ct7), sl7⟩) (c7 : PySem.W.codeIn K cd7 "is_depth" = true) (k7 : PySem.W.keepIn K (.ref f7) = true)
    {f8 : Addr} {od8 an8 : Option Addr} {sl8 : Array (Option Value)} {oc8 kV8 dc8 pm8 cd8 ct8 : Value}
        (a8 : PySem.W.nsIn K mainGlobals "look_at_layers" = some (some (.ref f8))) (l8 : K.lookup f8 = some ⟨oc8, od8, .func (PySem.W.fnOf "look_at_layers" "look_at_layers" (defArgs st_look_at_layers) (defBody st_look_at_layers) (defScope st_look_at_layers) .none kV8 dc8 pm8 an8 cd8 ct8), sl8⟩) (c8 : PySem.W.codeIn K cd8 "look_at_layers" = true) (k8 : PySem.W.keepIn K (.ref f8) = true)
    {f9 : Addr} {od9 an9 : Option Addr} {sl9 : Array (Option Value)} {oc9 kV9 dc9 pm9 cd9 ct9 : Value}
        (a9 : PySem.W.nsIn K mainGlobals "layer_for" = some (some (.ref f9))) (l9 : K.lookup f9 = some ⟨oc9, od9, .func (PySem.W.fnOf "layer_for" "layer_for" (defArgs st_layer_for) (defBody st_layer_for) (defScope st_layer_for) .none kV9 dc9 pm9 an9 cd9 ct9), sl9⟩) (c9 : PySem.W.codeIn K cd9 "layer_for" = true) (k9 : PySem.W.keepIn K (.ref f9) = true)
    {f10 : Addr} {od10 an10 : Option Addr} {sl10 : Array (Option Value)} {oc10 kV10 dc10 pm10 cd10 ct10 : Value}
        (a10 : PySem.W.nsIn K mainGlobals "layered" = some (some (.ref f10))) (l10 : K.lookup f10 = some ⟨oc10, od10, .func (PySem.W.fnOf "layered" "layered" (defArgs st_layered) (defBody st_layered) (defScope st_layered) .none kV10 dc10 pm10 an10 cd10 ct10), sl10⟩) (c10 : PySem.W.codeIn K cd10 "layered" = true) (k10 : PySem.W.keepIn K (.ref f10) = true)
    {f11 : Addr} {od11 an11 : Option Addr} {sl11 : Array (Option Value)} {oc11 kV11 dc11 pm11 cd11 ct11 : Value}
        (a11 : PySem.W.nsIn K mainGlobals "is_count" = some (some (.ref f11))) (l11 : K.lookup f11 = some ⟨oc11, od11, .func (PySem.W.fnOf "is_count" "is_count" (defArgs st_is_count) (defBody st_is_count) (defScope st_is_count) .none kV11 dc11 pm11 an11 cd11 ct11), sl11⟩) (c11 : PySem.W.codeIn K cd11 "is_count" = true) (k11 : PySem.W.keepIn K (.ref f11) = true)
    {f12 : Addr} {od12 an12 : Option Addr} {sl12 : Array (Option Value)} {oc12 kV12 dc12 pm12 cd12 ct12 : Value}
        (a12 : PySem.W.nsIn K mainGlobals "is_net" = some (some (.ref f12))) (l12 : K.lookup f12 = some ⟨oc12, od12, .func (PySem.W.fnOf "is_net" "is_net" (defArgs st_is_net) (defBody st_is_net) (defScope st_is_net) .none kV12 dc12 pm12 an12 cd12 ct12), sl12⟩) (c12 : PySem.W.codeIn K cd12 "is_net" = true) (k12 : PySem.W.keepIn K (.ref f12) = true)
    {f13 : Addr} {od13 an13 : Option Addr} {sl13 : Array (Option Value)} {oc13 kV13 dc13 pm13 cd13 ct13 : Value}
        (a13 : PySem.W.nsIn K mainGlobals "_law_folded" = some (some (.ref f13))) (l13 : K.lookup f13 = some ⟨oc13, od13, .func (PySem.W.fnOf "_law_folded" "_law_folded" (defArgs st_l_folded) (defBody st_l_folded) (defScope st_l_folded) .none kV13 dc13 pm13 an13 cd13 ct13), sl13⟩) (c13 : PySem.W.codeIn K cd13 "_law_folded" = true) (k13 : PySem.W.keepIn K (.ref f13) = true)
    {f14 : Addr} {od14 an14 : Option Addr} {sl14 : Array (Option Value)} {oc14 kV14 dc14 pm14 cd14 ct14 : Value}
        (a14 : PySem.W.nsIn K mainGlobals "_law_begun" = some (some (.ref f14))) (l14 : K.lookup f14 = some ⟨oc14, od14, .func (PySem.W.fnOf "_law_begun" "_law_begun" (defArgs st_l_begun) (defBody st_l_begun) (defScope st_l_begun) .none kV14 dc14 pm14 an14 cd14 ct14), sl14⟩) (c14 : PySem.W.codeIn K cd14 "_law_begun" = true) (k14 : PySem.W.keepIn K (.ref f14) = true)
    {f15 : Addr} {od15 an15 : Option Addr} {sl15 : Array (Option Value)} {oc15 kV15 dc15 pm15 cd15 ct15 : Value}
        (a15 : PySem.W.nsIn K mainGlobals "_law_take" = some (some (.ref f15))) (l15 : K.lookup f15 = some ⟨oc15, od15, .func (PySem.W.fnOf "_law_take" "_law_take" (defArgs st_l_take) (defBody st_l_take) (defScope st_l_take) .none kV15 dc15 pm15 an15 cd15 ct15), sl15⟩) (c15 : PySem.W.codeIn K cd15 "_law_take" = true) (k15 : PySem.W.keepIn K (.ref f15) = true)
    {f16 : Addr} {od16 an16 : Option Addr} {sl16 : Array (Option Value)} {oc16 kV16 dc16 pm16 cd16 ct16 : Value}
        (a16 : PySem.W.nsIn K mainGlobals "_law_wide" = some (some (.ref f16))) (l16 : K.lookup f16 = some ⟨oc16, od16, .func (PySem.W.fnOf "_law_wide" "_law_wide" (defArgs st_l_wide) (defBody st_l_wide) (defScope st_l_wide) .none kV16 dc16 pm16 an16 cd16 ct16), sl16⟩) (c16 : PySem.W.codeIn K cd16 "_law_wide" = true) (k16 : PySem.W.keepIn K (.ref f16) = true)
    {f17 : Addr} {od17 an17 : Option Addr} {sl17 : Array (Option Value)} {oc17 kV17 dc17 pm17 cd17 ct17 : Value}
        (a17 : PySem.W.nsIn K mainGlobals "_law_places" = some (some (.ref f17))) (l17 : K.lookup f17 = some ⟨oc17, od17, .func (PySem.W.fnOf "_law_places" "_law_places" (defArgs st_l_places) (defBody st_l_places) (defScope st_l_places) .none kV17 dc17 pm17 an17 cd17 ct17), sl17⟩) (c17 : PySem.W.codeIn K cd17 "_law_places" = true) (k17 : PySem.W.keepIn K (.ref f17) = true)
    {f18 : Addr} {od18 an18 : Option Addr} {sl18 : Array (Option Value)} {oc18 kV18 dc18 pm18 cd18 ct18 : Value}
        (a18 : PySem.W.nsIn K mainGlobals "_law_depth" = some (some (.ref f18))) (l18 : K.lookup f18 = some ⟨oc18, od18, .func (PySem.W.fnOf "_law_depth" "_law_depth" (defArgs st_l_depth) (defBody st_l_depth) (defScope st_l_depth) .none kV18 dc18 pm18 an18 cd18 ct18), sl18⟩) (c18 : PySem.W.codeIn K cd18 "_law_depth" = true) (k18 : PySem.W.keepIn K (.ref f18) = true)
    {f19 : Addr} {od19 an19 : Option Addr} {sl19 : Array (Option Value)} {oc19 kV19 dc19 pm19 cd19 ct19 : Value}
        (a19 : PySem.W.nsIn K mainGlobals "_law_ends" = some (some (.ref f19))) (l19 : K.lookup f19 = some ⟨oc19, od19, .func (PySem.W.fnOf "_law_ends" "_law_ends" (defArgs st_l_ends) (defBody st_l_ends) (defScope st_l_ends) .none kV19 dc19 pm19 an19 cd19 ct19), sl19⟩) (c19 : PySem.W.codeIn K cd19 "_law_ends" = true) (k19 : PySem.W.keepIn K (.ref f19) = true)
    {f20 : Addr} {od20 an20 : Option Addr} {sl20 : Array (Option Value)} {oc20 kV20 dc20 pm20 cd20 ct20 : Value}
        (a20 : PySem.W.nsIn K mainGlobals "_law_drawn_ties" = some (some (.ref f20))) (l20 : K.lookup f20 = some ⟨oc20, od20, .func (PySem.W.fnOf "_law_drawn_ties" "_law_drawn_ties" (defArgs st_l_drawn_ties) (defBody st_l_drawn_ties) (defScope st_l_drawn_ties) .none kV20 dc20 pm20 an20 cd20 ct20), sl20⟩) (c20 : PySem.W.codeIn K cd20 "_law_drawn_ties" = true) (k20 : PySem.W.keepIn K (.ref f20) = true)
    {f21 : Addr} {od21 an21 : Option Addr} {sl21 : Array (Option Value)} {oc21 kV21 dc21 pm21 cd21 ct21 : Value}
        (a21 : PySem.W.nsIn K mainGlobals "_law_most" = some (some (.ref f21))) (l21 : K.lookup f21 = some ⟨oc21, od21, .func (PySem.W.fnOf "_law_most" "_law_most" (defArgs st_l_most) (defBody st_l_most) (defScope st_l_most) .none kV21 dc21 pm21 an21 cd21 ct21), sl21⟩) (c21 : PySem.W.codeIn K cd21 "_law_most" = true) (k21 : PySem.W.keepIn K (.ref f21) = true)
    {f22 : Addr} {od22 an22 : Option Addr} {sl22 : Array (Option Value)} {oc22 kV22 dc22 pm22 cd22 ct22 : Value}
        (a22 : PySem.W.nsIn K mainGlobals "_law_layers_of" = some (some (.ref f22))) (l22 : K.lookup f22 = some ⟨oc22, od22, .func (PySem.W.fnOf "_law_layers_of" "_law_layers_of" (defArgs st_l_layers_of) (defBody st_l_layers_of) (defScope st_l_layers_of) .none kV22 dc22 pm22 an22 cd22 ct22), sl22⟩) (c22 : PySem.W.codeIn K cd22 "_law_layers_of" = true) (k22 : PySem.W.keepIn K (.ref f22) = true)
    {f23 : Addr} {od23 an23 : Option Addr} {sl23 : Array (Option Value)} {oc23 kV23 dc23 pm23 cd23 ct23 : Value}
        (a23 : PySem.W.nsIn K mainGlobals "_law_net_of" = some (some (.ref f23))) (l23 : K.lookup f23 = some ⟨oc23, od23, .func (PySem.W.fnOf "_law_net_of" "_law_net_of" (defArgs st_l_net_of) (defBody st_l_net_of) (defScope st_l_net_of) .none kV23 dc23 pm23 an23 cd23 ct23), sl23⟩) (c23 : PySem.W.codeIn K cd23 "_law_net_of" = true) (k23 : PySem.W.keepIn K (.ref f23) = true)
    {f24 : Addr} {od24 an24 : Option Addr} {sl24 : Array (Option Value)} {oc24 kV24 dc24 pm24 cd24 ct24 : Value}
        (a24 : PySem.W.nsIn K mainGlobals "_law_drawn_net" = some (some (.ref f24))) (l24 : K.lookup f24 = some ⟨oc24, od24, .func (PySem.W.fnOf "_law_drawn_net" "_law_drawn_net" (defArgs st_l_drawn_net) (defBody st_l_drawn_net) (defScope st_l_drawn_net) .none kV24 dc24 pm24 an24 cd24 ct24), sl24⟩) (c24 : PySem.W.codeIn K cd24 "_law_drawn_net" = true) (k24 : PySem.W.keepIn K (.ref f24) = true)
    {f25 : Addr} {od25 an25 : Option Addr} {sl25 : Array (Option Value)} {oc25 kV25 dc25 pm25 cd25 ct25 : Value}
        (a25 : PySem.W.nsIn K mainGlobals "_law_new_tie" = some (some (.ref f25))) (l25 : K.lookup f25 = some ⟨oc25, od25, .func (PySem.W.fnOf "_law_new_tie" "_law_new_tie" (defArgs st_l_new_tie) (defBody st_l_new_tie) (defScope st_l_new_tie) .none kV25 dc25 pm25 an25 cd25 ct25), sl25⟩) (c25 : PySem.W.codeIn K cd25 "_law_new_tie" = true) (k25 : PySem.W.keepIn K (.ref f25) = true)
    {f26 : Addr} {od26 an26 : Option Addr} {sl26 : Array (Option Value)} {oc26 kV26 dc26 pm26 cd26 ct26 : Value}
        (a26 : PySem.W.nsIn K mainGlobals "_law_whole" = some (some (.ref f26))) (l26 : K.lookup f26 = some ⟨oc26, od26, .func (PySem.W.fnOf "_law_whole" "_law_whole" (defArgs st_l_whole) (defBody st_l_whole) (defScope st_l_whole) .none kV26 dc26 pm26 an26 cd26 ct26), sl26⟩) (c26 : PySem.W.codeIn K cd26 "_law_whole" = true) (k26 : PySem.W.keepIn K (.ref f26) = true)
    {f27 : Addr} {od27 an27 : Option Addr} {sl27 : Array (Option Value)} {oc27 kV27 dc27 pm27 cd27 ct27 : Value}
        (a27 : PySem.W.nsIn K mainGlobals "_law_is_tie" = some (some (.ref f27))) (l27 : K.lookup f27 = some ⟨oc27, od27, .func (PySem.W.fnOf "_law_is_tie" "_law_is_tie" (defArgs st_l_is_tie) (defBody st_l_is_tie) (defScope st_l_is_tie) .none kV27 dc27 pm27 an27 cd27 ct27), sl27⟩) (c27 : PySem.W.codeIn K cd27 "_law_is_tie" = true) (k27 : PySem.W.keepIn K (.ref f27) = true)
    {f28 : Addr} {od28 an28 : Option Addr} {sl28 : Array (Option Value)} {oc28 kV28 dc28 pm28 cd28 ct28 : Value}
        (a28 : PySem.W.nsIn K mainGlobals "_law_is_net" = some (some (.ref f28))) (l28 : K.lookup f28 = some ⟨oc28, od28, .func (PySem.W.fnOf "_law_is_net" "_law_is_net" (defArgs st_l_is_net) (defBody st_l_is_net) (defScope st_l_is_net) .none kV28 dc28 pm28 an28 cd28 ct28), sl28⟩) (c28 : PySem.W.codeIn K cd28 "_law_is_net" = true) (k28 : PySem.W.keepIn K (.ref f28) = true)
    {f29 : Addr} {od29 an29 : Option Addr} {sl29 : Array (Option Value)} {oc29 kV29 dc29 pm29 cd29 ct29 : Value}
        (a29 : PySem.W.nsIn K mainGlobals "_law_odd_net" = some (some (.ref f29))) (l29 : K.lookup f29 = some ⟨oc29, od29, .func (PySem.W.fnOf "_law_odd_net" "_law_odd_net" (defArgs st_l_odd_net) (defBody st_l_odd_net) (defScope st_l_odd_net) .none kV29 dc29 pm29 an29 cd29 ct29), sl29⟩) (c29 : PySem.W.codeIn K cd29 "_law_odd_net" = true) (k29 : PySem.W.keepIn K (.ref f29) = true)
    {f30 : Addr} {od30 an30 : Option Addr} {sl30 : Array (Option Value)} {oc30 kV30 dc30 pm30 cd30 ct30 : Value}
        (a30 : PySem.W.nsIn K mainGlobals "_law_spoilt" = some (some (.ref f30))) (l30 : K.lookup f30 = some ⟨oc30, od30, .func (PySem.W.fnOf "_law_spoilt" "_law_spoilt" (defArgs st_l_spoilt) (defBody st_l_spoilt) (defScope st_l_spoilt) .none kV30 dc30 pm30 an30 cd30 ct30), sl30⟩) (c30 : PySem.W.codeIn K cd30 "_law_spoilt" = true) (k30 : PySem.W.keepIn K (.ref f30) = true)
    {f31 : Addr} {od31 an31 : Option Addr} {sl31 : Array (Option Value)} {oc31 kV31 dc31 pm31 cd31 ct31 : Value}
        (a31 : PySem.W.nsIn K mainGlobals "_law_right" = some (some (.ref f31))) (l31 : K.lookup f31 = some ⟨oc31, od31, .func (PySem.W.fnOf "_law_right" "_law_right" (defArgs st_l_right) (defBody st_l_right) (defScope st_l_right) .none kV31 dc31 pm31 an31 cd31 ct31), sl31⟩) (c31 : PySem.W.codeIn K cd31 "_law_right" = true) (k31 : PySem.W.keepIn K (.ref f31) = true)
    {f32 : Addr} {od32 an32 : Option Addr} {sl32 : Array (Option Value)} {oc32 kV32 dc32 pm32 cd32 ct32 : Value}
        (a32 : PySem.W.nsIn K mainGlobals "law" = some (some (.ref f32))) (l32 : K.lookup f32 = some ⟨oc32, od32, .func (PySem.W.fnOf "law" "law" (defArgs st_law) (defBody st_law) (defScope st_law) .none kV32 dc32 pm32 an32 cd32 ct32), sl32⟩) (c32 : PySem.W.codeIn K cd32 "law" = true) (k32 : PySem.W.keepIn K (.ref f32) = true)
        (z_isinstance : PySem.W.nsIn K mainGlobals "isinstance" = some none)
        (z_int : PySem.W.nsIn K mainGlobals "int" = some none)
        (z_bool : PySem.W.nsIn K mainGlobals "bool" = some none)
        (z_tuple : PySem.W.nsIn K mainGlobals "tuple" = some none)
        (z_len : PySem.W.nsIn K mainGlobals "len" = some none)
        (z_list : PySem.W.nsIn K mainGlobals "list" = some none)
        (z_all : PySem.W.nsIn K mainGlobals "all" = some none)
        (z_range : PySem.W.nsIn K mainGlobals "range" = some none)
        (z_min : PySem.W.nsIn K mainGlobals "min" = some none)
        (z_max : PySem.W.nsIn K mainGlobals "max" = some none)
        (z_enumerate : PySem.W.nsIn K mainGlobals "enumerate" = some none)
        (z_reversed : PySem.W.nsIn K mainGlobals "reversed" = some none)
        (z_abs : PySem.W.nsIn K mainGlobals "abs" = some none)
        (z_zip : PySem.W.nsIn K mainGlobals "zip" = some none)
        (z_sorted : PySem.W.nsIn K mainGlobals "sorted" = some none)
        (z_str : PySem.W.nsIn K mainGlobals "str" = some none)
        {tk_LAST_MOMENT : Tok} (y_LAST_MOMENT : PySem.W.nsIn K mainGlobals "LAST_MOMENT" = some (some (.int (1000000000000000000000000000000) tk_LAST_MOMENT)))
        {tk_MOST_TIES : Tok} (y_MOST_TIES : PySem.W.nsIn K mainGlobals "MOST_TIES" = some (some (.int (60) tk_MOST_TIES)))
        {tk_MOST_LAYERS_layers : Tok} (y_MOST_LAYERS_layers : PySem.W.nsIn K mainGlobals "MOST_LAYERS_layers" = some (some (.int (6) tk_MOST_LAYERS_layers)))
        {tk_MOST_PLACES : Tok} (y_MOST_PLACES : PySem.W.nsIn K mainGlobals "MOST_PLACES" = some (some (.int (10) tk_MOST_PLACES)))
        {tk_MOST_LAYERS_nets : Tok} (y_MOST_LAYERS_nets : PySem.W.nsIn K mainGlobals "MOST_LAYERS_nets" = some (some (.int (6) tk_MOST_LAYERS_nets))) :
    ∃ fd : FuncData, (∀ (s : Shared) (v : Value), BindsTo s fd ⟨[v], []⟩ [("script", v)]) ∧ ∀ base : Heap, K.In base → base.Ns mainGlobals mg → FnG l.prog w K mg base 8 fa fd ["script"] (spG K mg 1 f_law) := by
  have e := hfa.symm.trans (PySem.W.mg_of X G a32)
  cases e
  exact ⟨_, fun s v => .of_eq rfl, fun base _ _ => ok_law (mkTx X G a0 l0 c0 k0 a1 l1 c1 k1 a2 l2 c2 k2 a3 l3 c3 k3 a4 l4 c4 k4 a5 l5 c5 k5 a6 l6 c6 k6 a7 l7 c7 k7 a8 l8 c8 k8 a9 l9 c9 k9 a10 l10 c10 k10 a11 l11 c11 k11 a12 l12 c12 k12 a13 l13 c13 k13 a14 l14 c14 k14 a15 l15 c15 k15 a16 l16 c16 k16 a17 l17 c17 k17 a18 l18 c18 k18 a19 l19 c19 k19 a20 l20 c20 k20 a21 l21 c21 k21 a22 l22 c22 k22 a23 l23 c23 k23 a24 l24 c24 k24 a25 l25 c25 k25 a26 l26 c26 k26 a27 l27 c27 k27 a28 l28 c28 k28 a29 l29 c29 k29 a30 l30 c30 k30 a31 l31 c31 k31 a32 l32 c32 k32 z_isinstance z_int z_bool z_tuple z_len z_list z_all z_range z_min z_max z_enumerate z_reversed z_abs z_zip z_sorted z_str y_LAST_MOMENT y_MOST_TIES y_MOST_LAYERS_layers y_MOST_PLACES y_MOST_LAYERS_nets)⟩
end
end K18
end T_K18
section T_FamA
set_option linter.all false
namespace FamA
open PySem Sim
def g_l_ends : Gs := gSeqS (gSet 4 (gOp hMod (gVar 2) (gVar 0))) (gSeqS (gIfS (gTest (gOp hEq (gVar 1) (gC (.int (0))))) (gRet (gTup (gCons (gVar 4) (gCons (gOp hMod (gVar 3) (gVar 0)) (gNil))))) (gNext)) (gSeqS (gIfS (gTest (gOp hEq (gVar 1) (gC (.int (1))))) (gRet (gTup (gCons (gOp hMod (gVar 2) (gCB hMin2 (gCons (gVar 0) (gCons (gC (.int (3))) (gNil))))) (gCons (gOp hMod (gVar 3) (gCB hMin2 (gCons (gVar 0) (gCons (gC (.int (2))) (gNil))))) (gNil))))) (gNext)) (gSeqS (gIfS (gTest (gOp hEq (gVar 1) (gC (.int (2))))) (gRet (gTup (gCons (gVar 4) (gCons (gOp hMod (gOp hAdd (gOp hAdd (gVar 4) (gC (.int (1)))) (gOp hDiv (gOp hMod (gVar 3) (gC (.int (5)))) (gC (.int (4))))) (gVar 0)) (gNil))))) (gNext)) (gRet (gTup (gCons (gVar 4) (gCons (gOp hMod (gOp hAdd (gVar 4) (gOp hMul (gC (.int (2))) (gOp hMod (gVar 3) (gVar 0)))) (gVar 0)) (gNil))))))))
def f_l_ends : List Dt → O Dt := fnN 5 g_l_ends
end FamA
end T_FamA
section T_FamAP
set_option linter.all false
set_option maxRecDepth 100000
namespace FamA
open PySem Sim
abbrev B30 : Int := 1000000000000000000000000000000
theorem ends_ok (n kind one other : Int) (hn : 1 ≤ n) : ∃ a b, f_l_ends [.int n, .int kind, .int one, .int other] = .ok (.tuple [.int a, .int b]) ∧ 0 ≤ a ∧ a < n ∧ 0 ≤ b ∧ b < n := by
  unfold f_l_ends fnN g_l_ends
  have m0 := fun x : Int => Int.emod_nonneg x (show n ≠ 0 by omega)
  have m1 := fun x : Int => Int.emod_lt_of_pos x (show 0 < n by omega)
  by_cases h0 : kind = 0
  · subst h0
    simp (disch := omega) only [bnd_ok, gVar_def, gC_def, gOp_def, gUn_def, gNil_def, gCons_def, gIf_def, gTest_def, gNot_def, gAnd_def, gOr_def, gAndV_def, gOrV_def, gNotV_def, gCB_def, asB_b, hAdd_i, hSub_i, hLt_i, hLe_i, hGt_i, hGe_i, hMul_r, hMul_l, hMod_i, hDiv_s, hBand_i, hShr_i, hPow_10_18, hPow_10_27, hPow_10_28, hPow_10_29, hPow_10_30, hEq_i, hNe_i, hLen_l, hLen_t, hMin2_i, hMax2_i, hMin3_i, hInt1_b, hInt1_i, hBits_i, hListOf_l, hListOf_t, hTupOf_l, hTupOf_t, gSeqS_def, gSet_def, gRet_def, gIfS_def, gNext_def, gTup_def, gLst_def, List.getElem?_cons_zero, List.getElem?_cons_succ, List.set_cons_zero, List.set_cons_succ, List.length_cons, List.length_nil, Nat.zero_add, Nat.reduceAdd, Nat.reduceLeDiff, Nat.reduceSub, Nat.reduceMul, if_true, if_false, Bool.false_eq_true, List.replicate_succ, List.replicate_zero, List.cons_append, List.nil_append, tgN, tgT, tgCons, tgNil, Int.reducePow, Int.reduceAdd, Int.reduceSub, Int.reduceMul, decide_true, decide_false, Bool.not_true, Bool.not_false, gChain_def, hIsa_int, hIsa_intb, hIsa_list, hIsa_tuple, gDrop_def, beq_self_eq_true]
    exact ⟨_, _, rfl, m0 _, m1 _, m0 _, m1 _⟩
  · have e0 : (kind == 0) = false := beq_eq_false_iff_ne.mpr h0
    by_cases h1 : kind = 1
    · subst h1
      have q3 : 0 < (if (3 : Int) < n then 3 else n) := by split <;> omega
      have q2 : 0 < (if (2 : Int) < n then 2 else n) := by split <;> omega
      have q3' : (if (3 : Int) < n then 3 else n) ≤ n := by split <;> omega
      have q2' : (if (2 : Int) < n then 2 else n) ≤ n := by split <;> omega
      have p0 := Int.emod_nonneg one (show (if (3 : Int) < n then 3 else n) ≠ 0 by omega)
      have p1 := Int.emod_lt_of_pos one q3
      have p2 := Int.emod_nonneg other (show (if (2 : Int) < n then 2 else n) ≠ 0 by omega)
      have p3 := Int.emod_lt_of_pos other q2
      simp (disch := first | assumption | omega) only [bnd_ok, gVar_def, gC_def, gOp_def, gUn_def, gNil_def, gCons_def, gIf_def, gTest_def, gNot_def, gAnd_def, gOr_def, gAndV_def, gOrV_def, gNotV_def, gCB_def, asB_b, hAdd_i, hSub_i, hLt_i, hLe_i, hGt_i, hGe_i, hMul_r, hMul_l, hMod_i, hDiv_s, hBand_i, hShr_i, hPow_10_18, hPow_10_27, hPow_10_28, hPow_10_29, hPow_10_30, hEq_i, hNe_i, hLen_l, hLen_t, hMin2_i, hMax2_i, hMin3_i, hInt1_b, hInt1_i, hBits_i, hListOf_l, hListOf_t, hTupOf_l, hTupOf_t, gSeqS_def, gSet_def, gRet_def, gIfS_def, gNext_def, gTup_def, gLst_def, List.getElem?_cons_zero, List.getElem?_cons_succ, List.set_cons_zero, List.set_cons_succ, List.length_cons, List.length_nil, Nat.zero_add, Nat.reduceAdd, Nat.reduceLeDiff, Nat.reduceSub, Nat.reduceMul, if_true, if_false, Bool.false_eq_true, List.replicate_succ, List.replicate_zero, List.cons_append, List.nil_append, tgN, tgT, tgCons, tgNil, Int.reducePow, Int.reduceAdd, Int.reduceSub, Int.reduceMul, decide_true, decide_false, Bool.not_true, Bool.not_false, gChain_def, hIsa_int, hIsa_intb, hIsa_list, hIsa_tuple, gDrop_def, beq_self_eq_true, e0]
      exact ⟨_, _, rfl, p0, Int.lt_of_lt_of_le p1 q3', p2, Int.lt_of_lt_of_le p3 q2'⟩
    · have e1 : (kind == 1) = false := beq_eq_false_iff_ne.mpr h1
      by_cases h2 : kind = 2
      · subst h2
        simp (disch := omega) only [bnd_ok, gVar_def, gC_def, gOp_def, gUn_def, gNil_def, gCons_def, gIf_def, gTest_def, gNot_def, gAnd_def, gOr_def, gAndV_def, gOrV_def, gNotV_def, gCB_def, asB_b, hAdd_i, hSub_i, hLt_i, hLe_i, hGt_i, hGe_i, hMul_r, hMul_l, hMod_i, hDiv_s, hBand_i, hShr_i, hPow_10_18, hPow_10_27, hPow_10_28, hPow_10_29, hPow_10_30, hEq_i, hNe_i, hLen_l, hLen_t, hMin2_i, hMax2_i, hMin3_i, hInt1_b, hInt1_i, hBits_i, hListOf_l, hListOf_t, hTupOf_l, hTupOf_t, gSeqS_def, gSet_def, gRet_def, gIfS_def, gNext_def, gTup_def, gLst_def, List.getElem?_cons_zero, List.getElem?_cons_succ, List.set_cons_zero, List.set_cons_succ, List.length_cons, List.length_nil, Nat.zero_add, Nat.reduceAdd, Nat.reduceLeDiff, Nat.reduceSub, Nat.reduceMul, if_true, if_false, Bool.false_eq_true, List.replicate_succ, List.replicate_zero, List.cons_append, List.nil_append, tgN, tgT, tgCons, tgNil, Int.reducePow, Int.reduceAdd, Int.reduceSub, Int.reduceMul, decide_true, decide_false, Bool.not_true, Bool.not_false, gChain_def, hIsa_int, hIsa_intb, hIsa_list, hIsa_tuple, gDrop_def, beq_self_eq_true, e0, e1]
        exact ⟨_, _, rfl, m0 _, m1 _, m0 _, m1 _⟩
      · have e2 : (kind == 2) = false := beq_eq_false_iff_ne.mpr h2
        simp (disch := omega) only [bnd_ok, gVar_def, gC_def, gOp_def, gUn_def, gNil_def, gCons_def, gIf_def, gTest_def, gNot_def, gAnd_def, gOr_def, gAndV_def, gOrV_def, gNotV_def, gCB_def, asB_b, hAdd_i, hSub_i, hLt_i, hLe_i, hGt_i, hGe_i, hMul_r, hMul_l, hMod_i, hDiv_s, hBand_i, hShr_i, hPow_10_18, hPow_10_27, hPow_10_28, hPow_10_29, hPow_10_30, hEq_i, hNe_i, hLen_l, hLen_t, hMin2_i, hMax2_i, hMin3_i, hInt1_b, hInt1_i, hBits_i, hListOf_l, hListOf_t, hTupOf_l, hTupOf_t, gSeqS_def, gSet_def, gRet_def, gIfS_def, gNext_def, gTup_def, gLst_def, List.getElem?_cons_zero, List.getElem?_cons_succ, List.set_cons_zero, List.set_cons_succ, List.length_cons, List.length_nil, Nat.zero_add, Nat.reduceAdd, Nat.reduceLeDiff, Nat.reduceSub, Nat.reduceMul, if_true, if_false, Bool.false_eq_true, List.replicate_succ, List.replicate_zero, List.cons_append, List.nil_append, tgN, tgT, tgCons, tgNil, Int.reducePow, Int.reduceAdd, Int.reduceSub, Int.reduceMul, decide_true, decide_false, Bool.not_true, Bool.not_false, gChain_def, hIsa_int, hIsa_intb, hIsa_list, hIsa_tuple, gDrop_def, e0, e1, e2]
        exact ⟨_, _, rfl, m0 _, m1 _, m0 _, m1 _⟩
abbrev T3 := Int × Int × Int
def enc3 (t : T3) : Dt := .tuple [.int t.1, .int t.2.1, .int t.2.2]
structure TieOk (n : Int) (t : T3) : Prop where
  m0 : 0 ≤ t.1
  m1 : t.1 < B30
  a0 : 0 ≤ t.2.1
  ab : t.2.1 ≤ t.2.2
  bn : t.2.2 < n
structure RecOk (n : Int) (r : List T3) : Prop where
  len : r.length ≤ 60
  ties : ∀ t ∈ r, TieOk n t
  ord : r.Pairwise fun s t => s.1 < t.1
theorem map3_snoc (r : List T3) (t : T3) : r.map enc3 ++ [enc3 t] = (r ++ [t]).map enc3 := by rw [List.map_append]; rfl
theorem rec_snoc {n : Int} {r : List T3} {t : T3} (h : ∀ t ∈ r, TieOk n t) (o : r.Pairwise fun s t => s.1 < t.1) (ht : TieOk n t) (hlt : ∀ s ∈ r, s.1 < t.1) : (∀ s ∈ r ++ [t], TieOk n s) ∧ (r ++ [t]).Pairwise fun s t => s.1 < t.1 := by
  refine ⟨fun s hs => ?_, List.pairwise_append.mpr ⟨o, List.pairwise_singleton _ _, fun a ha b hb => ?_⟩⟩
  · rcases List.mem_append.mp hs with h' | h'
    · exact h s h'
    · rw [List.mem_singleton.mp h']; exact ht
  · rw [List.mem_singleton.mp hb]
    exact hlt a ha
end FamA
end T_FamAP
section T_ConnP
set_option linter.all false
set_option maxRecDepth 100000
namespace Lay
open PySem Sim FamA
def E2 (ts : List T3) (b c : Int) : Prop := ∃ t ∈ ts, (t.2.1 = b ∧ t.2.2 = c) ∨ (t.2.1 = c ∧ t.2.2 = b)
inductive Conn (ts : List T3) : Int → Int → Prop
  | refl (a : Int) : Conn ts a a
  | step {a b c : Int} : Conn ts a b → E2 ts b c → Conn ts a c
section
variable {ts ts' : List T3} {a b c p q n : Int} {t : T3} {ms : List Int}
theorem E2.symm (h : E2 ts b c) : E2 ts c b := by
  obtain ⟨t, h1, h2⟩ := h
  exact ⟨t, h1, h2.symm⟩
theorem Conn.one (h : E2 ts a b) : Conn ts a b := .step (.refl a) h
theorem Conn.trans (h : Conn ts a b) (k : Conn ts b c) : Conn ts a c := by
  induction k with
  | refl => exact h
  | step _ e ih => exact .step ih e
theorem Conn.symm (h : Conn ts a b) : Conn ts b a := by
  induction h with
  | refl => exact .refl _
  | step _ e ih => exact (Conn.one e.symm).trans ih
theorem Conn.mono (h : ∀ b c, E2 ts b c → Conn ts' b c) (k : Conn ts a b) : Conn ts' a b := by
  induction k with
  | refl => exact .refl _
  | step _ e ih => exact ih.trans (h _ _ e)
theorem Conn.sub (h : ∀ t ∈ ts, t ∈ ts') (k : Conn ts a b) : Conn ts' a b := k.mono fun b c ⟨t, h1, h2⟩ => .one ⟨t, h t h1, h2⟩
theorem conn_mem (h : ∀ t, t ∈ ts ↔ t ∈ ts') : Conn ts a b ↔ Conn ts' a b := ⟨fun k => k.sub fun t => (h t).mp, fun k => k.sub fun t => (h t).mpr⟩
theorem conn_nil : Conn [] a b ↔ a = b := by
  constructor
  · intro h
    cases h with
    | refl => rfl
    | step _ e => obtain ⟨t, h1, _⟩ := e; cases h1
  · rintro rfl; exact .refl _
theorem conn_cons : Conn (t :: ts) p q ↔ Conn ts p q ∨ (Conn ts p t.2.1 ∧ Conn ts t.2.2 q) ∨ (Conn ts p t.2.2 ∧ Conn ts t.2.1 q) := by
  constructor
  · intro h
    induction h with
    | refl => exact .inl (.refl _)
    | step _ e ih =>
      obtain ⟨s, hs, e⟩ := e
      rcases List.mem_cons.mp hs with rfl | hs
      · rcases e with ⟨rfl, rfl⟩ | ⟨rfl, rfl⟩
        · rcases ih with h | ⟨h, _⟩ | ⟨h, _⟩
          · exact .inr (.inl ⟨h, .refl _⟩)
          · exact .inr (.inl ⟨h, .refl _⟩)
          · exact .inl h
        · rcases ih with h | ⟨h, _⟩ | ⟨h, _⟩
          · exact .inr (.inr ⟨h, .refl _⟩)
          · exact .inl h
          · exact .inr (.inr ⟨h, .refl _⟩)
      · have e := Conn.one (ts := ts) ⟨s, hs, e⟩
        rcases ih with h | ⟨h, k⟩ | ⟨h, k⟩
        · exact .inl (h.trans e)
        · exact .inr (.inl ⟨h, k.trans e⟩)
        · exact .inr (.inr ⟨h, k.trans e⟩)
  · have up : ∀ {x y}, Conn ts x y → Conn (t :: ts) x y := fun h => h.sub fun _ => List.mem_cons_of_mem _
    have e : Conn (t :: ts) t.2.1 t.2.2 := .one ⟨t, List.mem_cons_self, .inl ⟨rfl, rfl⟩⟩
    rintro (h | ⟨h, k⟩ | ⟨h, k⟩)
    · exact up h
    · exact (up h).trans (e.trans (up k))
    · exact (up h).trans (e.symm.trans (up k))
def gx (ms : List Int) (a : Int) : Int := ms.getD a.toNat 0
structure MK (n : Int) (ms : List Int) (ts : List T3) : Prop where
  len : ms.length = n.toNat
  ker : ∀ a b, 0 ≤ a → a < n → 0 ≤ b → b < n → (gx ms a = gx ms b ↔ Conn ts a b)
theorem gx_map (f : Int → Int) (h0 : 0 ≤ a) (h1 : a.toNat < ms.length) : gx (ms.map f) a = f (gx ms a) := by
  unfold gx
  rw [List.getD_eq_getElem?_getD, List.getD_eq_getElem?_getD, List.getElem?_map, List.getElem?_eq_getElem h1]
  rfl
theorem gx_pl (h0 : 0 ≤ a) (h1 : a < n) : gx (pl n) a = a := by
  unfold gx pl
  rw [List.getD_eq_getElem?_getD, List.getElem?_map, List.getElem?_range (by omega)]
  show ((a.toNat : Nat) : Int) = a
  omega
theorem MK.zero : MK n (pl n) [] := ⟨pl_len n, fun a b a0 an b0 bn => by rw [gx_pl a0 an, gx_pl b0 bn, conn_nil]⟩
theorem MK.step (h : MK n ms ts) (a0 : 0 ≤ t.2.1) (a1 : t.2.1 < n) (b0 : 0 ≤ t.2.2) (b1 : t.2.2 < n) {x y : Int}
    (hxy : (x = gx ms t.2.1 ∧ y = gx ms t.2.2) ∨ (x = gx ms t.2.2 ∧ y = gx ms t.2.1)) : MK n (ms.map fun m => if m = x then y else m) (t :: ts) := by
  refine ⟨by rw [List.length_map]; exact h.len, fun p q p0 pn q0 qn => ?_⟩
  rw [gx_map _ p0 (by rw [h.len]; omega), gx_map _ q0 (by rw [h.len]; omega), conn_cons, ← h.ker p q p0 pn q0 qn, ← h.ker p _ p0 pn a0 a1, ← h.ker _ q b0 b1 q0 qn, ← h.ker p _ p0 pn b0 b1, ← h.ker _ q a0 a1 q0 qn]
  generalize gx ms p = u at *
  generalize gx ms q = v at *
  generalize gx ms t.2.1 = A at *
  generalize gx ms t.2.2 = B at *
  rcases hxy with ⟨rfl, rfl⟩ | ⟨rfl, rfl⟩
  · split <;> split <;> constructor <;> intro h <;> omega
  · split <;> split <;> constructor <;> intro h <;> omega
theorem MK.mem (h : MK n ms ts) (e : ∀ t, t ∈ ts ↔ t ∈ ts') : MK n ms ts' := ⟨h.len, fun a b a0 an b0 bn => (h.ker a b a0 an b0 bn).trans (conn_mem e)⟩
def layer (j : Int) (s : List T3) (ns : List Int) : List T3 := ((s.zip ns).filter fun p => p.2 == j).map (·.1)
open Classical in
noncomputable def fj (p : Nat → Prop) (lo : Nat) : Nat → Int
  | 0 => 0
  | m + 1 => if p lo then (lo : Int) + 1 else fj p (lo + 1) m
noncomputable def num (k : Nat) (s : List T3) (ns : List Int) (a b : Int) : Int := fj (fun j => ¬ Conn (layer ((j : Int) + 1) s ns) a b) 0 k
noncomputable def lay (k : Nat) : List T3 → List Int
  | [] => []
  | t :: s => num k s (lay k s) t.2.1 t.2.2 :: lay k s
theorem lay_len (k : Nat) : ∀ r, (lay k r).length = r.length
  | [] => rfl
  | t :: s => by unfold lay; rw [List.length_cons, List.length_cons, lay_len k s]
theorem lay_cons (k : Nat) (t : T3) (s : List T3) : lay k (t :: s) = num k s (lay k s) t.2.1 t.2.2 :: lay k s := rfl
theorem layer_cons (j x : Int) (t : T3) (s : List T3) (ns : List Int) : layer j (t :: s) (x :: ns) = if x = j then t :: layer j s ns else layer j s ns := by
  unfold layer
  rw [List.zip_cons_cons, List.filter_cons]
  by_cases h : x = j
  · simp [h]
  · simp [h]
theorem fj_t {p : Nat → Prop} {lo : Nat} (m : Nat) (h : p lo) : fj p lo (m + 1) = (lo : Int) + 1 := by unfold fj; rw [if_pos h]
theorem fj_f {p : Nat → Prop} {lo : Nat} (m : Nat) (h : ¬ p lo) : fj p lo (m + 1) = fj p (lo + 1) m := by
  conv => lhs; unfold fj
  exact if_neg h
theorem fj_range (p : Nat → Prop) : ∀ (m lo : Nat), fj p lo m = 0 ∨ ((lo : Int) < fj p lo m ∧ fj p lo m ≤ (lo : Int) + m)
  | 0, _ => .inl rfl
  | m + 1, lo => by
    by_cases h : p lo
    · rw [fj_t m h]; exact .inr ⟨by omega, by omega⟩
    · rw [fj_f m h]
      rcases fj_range p m (lo + 1) with e | ⟨e1, e2⟩
      · exact .inl e
      · exact .inr ⟨by omega, by omega⟩
theorem fj_congr {p q : Nat → Prop} : ∀ (m lo : Nat), (∀ i, lo ≤ i → i < lo + m → (p i ↔ q i)) → fj p lo m = fj q lo m
  | 0, _, _ => rfl
  | m + 1, lo, h => by
    have e := fj_congr (p := p) (q := q) m (lo + 1) fun i h1 h2 => h i (by omega) (by omega)
    by_cases c : p lo
    · rw [fj_t m c, fj_t m ((h lo (by omega) (by omega)).mp c)]
    · rw [fj_f m c, fj_f m (fun z => c ((h lo (by omega) (by omega)).mpr z)), e]
theorem num_range (k : Nat) (s : List T3) (ns : List Int) (a b : Int) : 0 ≤ num k s ns a b ∧ num k s ns a b ≤ k := by
  unfold num
  rcases fj_range (fun j => ¬ Conn (layer ((j : Int) + 1) s ns) a b) k 0 with e | ⟨e1, e2⟩
  · rw [e]; omega
  · omega
theorem lay_range (k : Nat) : ∀ (r : List T3) (x : Int), x ∈ lay k r → 0 ≤ x ∧ x ≤ k
  | t :: s, x, h => by
    rw [lay_cons] at h
    rcases List.mem_cons.mp h with rfl | h
    · exact num_range k s _ _ _
    · exact lay_range k s x h
def lfr (a b : Int) : List (List Int) → Nat → Int
  | [], _ => 0
  | ms :: rows, lo => if gx ms a = gx ms b then lfr a b rows (lo + 1) else (lo : Int) + 1
theorem lfr_fj (p : Nat → Prop) : ∀ (rows : List (List Int)) (lo : Nat), (∀ i (h : i < rows.length), gx rows[i] a = gx rows[i] b ↔ ¬ p (lo + i)) → lfr a b rows lo = fj p lo rows.length
  | [], _, _ => rfl
  | ms :: rows, lo, h => by
    have h0 := h 0 (by rw [List.length_cons]; omega)
    have e := lfr_fj p rows (lo + 1) fun i hi => by
      have := h (i + 1) (by rw [List.length_cons]; omega)
      rw [List.getElem_cons_succ] at this
      rw [this, show lo + 1 + i = lo + (i + 1) by omega]
    rw [List.getElem_cons_zero, Nat.add_zero] at h0
    unfold lfr
    rw [List.length_cons]
    by_cases c : gx ms a = gx ms b
    · rw [if_pos c, fj_f _ (h0.mp c), e]
    · rw [if_neg c, fj_t _ (Classical.byContradiction fun z => c (h0.mpr z))]
structure RowsOk (n : Int) (k : Nat) (rows : List (List Int)) (s : List T3) : Prop where
  len : rows.length = k
  mkr : ∀ j (h : j < rows.length), MK n rows[j] (layer ((j : Int) + 1) s (lay k s))
theorem RowsOk.zero {k : Nat} : RowsOk n k (List.replicate k (pl n)) [] := ⟨List.length_replicate .., fun j h => by
  rw [List.getElem_replicate]
  exact MK.zero⟩
theorem RowsOk.num {k : Nat} {rows : List (List Int)} {s : List T3} (h : RowsOk n k rows s) (a0 : 0 ≤ a) (an : a < n) (b0 : 0 ≤ b) (bn : b < n) : lfr a b rows 0 = num k s (lay k s) a b := by
  rw [lfr_fj (fun j => ¬ Conn (layer ((j : Int) + 1) s (lay k s)) a b) rows 0 fun i hi => ?_, h.len]
  · rfl
  · rw [Nat.zero_add, Classical.not_not]
    exact (h.mkr i hi).ker a b a0 an b0 bn
theorem RowsOk.stay {k : Nat} {rows : List (List Int)} {s : List T3} (h : RowsOk n k rows s) (e : Lay.num k s (lay k s) t.2.1 t.2.2 = 0) : RowsOk n k rows (t :: s) := ⟨h.len, fun j hj => by
  rw [lay_cons, layer_cons, if_neg (by omega)]
  exact h.mkr j hj⟩
theorem RowsOk.put {k : Nat} {rows : List (List Int)} {s : List T3} (h : RowsOk n k rows s) (a0 : 0 ≤ t.2.1) (a1 : t.2.1 < n) (b0 : 0 ≤ t.2.2) (b1 : t.2.2 < n) {j : Nat} (hj : j < rows.length) (e : Lay.num k s (lay k s) t.2.1 t.2.2 = (j : Int) + 1) {x y : Int}
    (hxy : (x = gx rows[j] t.2.1 ∧ y = gx rows[j] t.2.2) ∨ (x = gx rows[j] t.2.2 ∧ y = gx rows[j] t.2.1)) : RowsOk n k (rows.set j (rows[j].map fun m => if m = x then y else m)) (t :: s) := ⟨by rw [List.length_set]; exact h.len, fun i hi => by
  rw [List.length_set] at hi
  rw [lay_cons, layer_cons, e]
  by_cases c : j = i
  · subst c
    rw [List.getElem_set_self, if_pos rfl]
    exact (h.mkr j hj).step a0 a1 b0 b1 hxy
  · rw [List.getElem_set_ne c, if_neg (by omega)]
    exact h.mkr i hi⟩
end
end Lay
end T_ConnP
section T_FamLP
set_option linter.all false
set_option maxRecDepth 100000
set_option maxHeartbeats 1000000
namespace FamL
open PySem Sim FamA Lay
def encI (ms : List Int) : Dt := .list (ms.map .int)
theorem hIx_gx {ms : List Int} {a : Int} (h0 : 0 ≤ a) (h1 : a.toNat < ms.length) : hIx (.list (ms.map .int)) (.int a) = .ok (.int (gx ms a)) := by
  rw [hIx_ints h0 (by omega)]
  unfold gx
  rw [List.getD_eq_getElem?_getD, List.getElem?_eq_getElem h1]
  rfl
theorem joined_ok {ms : List Int} {a b : Int} (a0 : 0 ≤ a) (a1 : a.toNat < ms.length) (b0 : 0 ≤ b) (b1 : b.toNat < ms.length) (hl : ms.length ≤ 1000) :
    ∃ x y, f_joined [encI ms, .int a, .int b] = .ok (encI (ms.map fun m => if m = x then y else m)) ∧ ((x = gx ms a ∧ y = gx ms b) ∨ (x = gx ms b ∧ y = gx ms a)) := by
  refine ⟨if gx ms b > gx ms a then gx ms b else gx ms a, if gx ms b < gx ms a then gx ms b else gx ms a, ?_, ?_⟩
  · refine fnL_rt ?_
    show g_joined [.list (ms.map .int), .int a, .int b, .none, .none, .none] = _
    unfold g_joined
    have i1 := hIx_gx a0 a1
    have i2 := hIx_gx b0 b1
    apply seq_step
    · simp (disch := first | omega | with_unfolding_all rfl | assumption | decide | (simp only [List.length_cons, List.length_nil]; omega)) only [bnd_ok, gVar_def, gC_def, gOp_def, gUn_def, gNil_def, gCons_def, gIf_def, gTest_def, gNot_def, gAnd_def, gOr_def, gAndV_def, gOrV_def, gNotV_def, gCB_def, asB_b, hAdd_i, hSub_i, hLt_i, hLe_i, hGt_i, hGe_i, hMul_r, hMul_l, hMod_i, hDiv_s, hBand_i, hShr_i, hPow_10_18, hPow_10_27, hPow_10_28, hPow_10_29, hPow_10_30, hEq_i, hNe_i, hLen_l, hLen_t, hMin2_i, hMax2_i, hMin3_i, hInt1_b, hInt1_i, hBits_i, hListOf_l, hListOf_t, hTupOf_l, hTupOf_t, gSeqS_def, gSet_def, gRet_def, gIfS_def, gNext_def, gTup_def, gLst_def, List.getElem?_cons_zero, List.getElem?_cons_succ, List.set_cons_zero, List.set_cons_succ, List.length_cons, List.length_nil, Nat.zero_add, Nat.reduceAdd, Nat.reduceLeDiff, Nat.reduceSub, Nat.reduceMul, if_true, if_false, Bool.false_eq_true, List.replicate_succ, List.replicate_zero, List.cons_append, List.nil_append, tgN, tgT, tgCons, tgNil, Int.reducePow, Int.reduceAdd, Int.reduceSub, Int.reduceMul, decide_true, decide_false, Bool.not_true, Bool.not_false, gChain_def, hIsa_int, hIsa_intb, hIsa_list, hIsa_tuple, gDrop_def, gCallN_def, gAsg_def, gSl_def, gNoPart_def, gPart_def, hSl_from', hSl_to', i1, i2]
      rfl
    apply seq_step
    · simp (disch := first | omega | with_unfolding_all rfl | assumption | decide | (simp only [List.length_cons, List.length_nil]; omega)) only [bnd_ok, gVar_def, gC_def, gOp_def, gUn_def, gNil_def, gCons_def, gIf_def, gTest_def, gNot_def, gAnd_def, gOr_def, gAndV_def, gOrV_def, gNotV_def, gCB_def, asB_b, hAdd_i, hSub_i, hLt_i, hLe_i, hGt_i, hGe_i, hMul_r, hMul_l, hMod_i, hDiv_s, hBand_i, hShr_i, hPow_10_18, hPow_10_27, hPow_10_28, hPow_10_29, hPow_10_30, hEq_i, hNe_i, hLen_l, hLen_t, hMin2_i, hMax2_i, hMin3_i, hInt1_b, hInt1_i, hBits_i, hListOf_l, hListOf_t, hTupOf_l, hTupOf_t, gSeqS_def, gSet_def, gRet_def, gIfS_def, gNext_def, gTup_def, gLst_def, List.getElem?_cons_zero, List.getElem?_cons_succ, List.set_cons_zero, List.set_cons_succ, List.length_cons, List.length_nil, Nat.zero_add, Nat.reduceAdd, Nat.reduceLeDiff, Nat.reduceSub, Nat.reduceMul, if_true, if_false, Bool.false_eq_true, List.replicate_succ, List.replicate_zero, List.cons_append, List.nil_append, tgN, tgT, tgCons, tgNil, Int.reducePow, Int.reduceAdd, Int.reduceSub, Int.reduceMul, decide_true, decide_false, Bool.not_true, Bool.not_false, gChain_def, hIsa_int, hIsa_intb, hIsa_list, hIsa_tuple, gDrop_def, gCallN_def, gAsg_def, gSl_def, gNoPart_def, gPart_def, hSl_from', hSl_to', i1, i2]
      rfl
    have h := gLc_map PyData.int (fun _ => true) (fun m => PyData.int (if m = (if gx ms b > gx ms a then gx ms b else gx ms a) then (if gx ms b < gx ms a then gx ms b else gx ms a) else m)) (gi := gSeq (gVar 0)) (h := tgN 5) (gt := gYes) (ge := gIf (gTest (gOp hEq (gVar 5) (gVar 4))) (gVar 3) (gVar 5))
      (ρ := [.list (ms.map .int), .int a, .int b, .int (if gx ms b < gx ms a then gx ms b else gx ms a), .int (if gx ms b > gx ms a then gx ms b else gx ms a), .none]) (xs := ms) rfl (by omega) (fun m _ => ⟨_, rfl, rfl, fun _ => by
        simp only [bnd_ok, gVar_def, gC_def, gOp_def, gUn_def, gNil_def, gCons_def, gIf_def, gTest_def, gNot_def, gAnd_def, gOr_def, gAndV_def, gOrV_def, gNotV_def, gCB_def, asB_b, hAdd_i, hSub_i, hLt_i, hLe_i, hGt_i, hGe_i, hMul_r, hMul_l, hMod_i, hDiv_s, hBand_i, hShr_i, hPow_10_18, hPow_10_27, hPow_10_28, hPow_10_29, hPow_10_30, hEq_i, hNe_i, hLen_l, hLen_t, hMin2_i, hMax2_i, hMin3_i, hInt1_b, hInt1_i, hBits_i, hListOf_l, hListOf_t, hTupOf_l, hTupOf_t, gSeqS_def, gSet_def, gRet_def, gIfS_def, gNext_def, gTup_def, gLst_def, List.getElem?_cons_zero, List.getElem?_cons_succ, List.set_cons_zero, List.set_cons_succ, List.length_cons, List.length_nil, Nat.zero_add, Nat.reduceAdd, Nat.reduceLeDiff, Nat.reduceSub, Nat.reduceMul, if_true, if_false, Bool.false_eq_true, List.replicate_succ, List.replicate_zero, List.cons_append, List.nil_append, tgN, tgT, tgCons, tgNil, Int.reducePow, Int.reduceAdd, Int.reduceSub, Int.reduceMul, decide_true, decide_false, Bool.not_true, Bool.not_false, gChain_def, hIsa_int, hIsa_intb, hIsa_list, hIsa_tuple, gDrop_def]
        by_cases c : m = (if gx ms b > gx ms a then gx ms b else gx ms a)
        · simp only [c, if_true, beq_self_eq_true]
        · simp only [c, if_false, beq_iff_eq]⟩)
    rw [List.filter_eq_self.mpr (fun _ _ => rfl)] at h
    have e : (ms.map fun m => PyData.int (if m = (if gx ms b > gx ms a then gx ms b else gx ms a) then (if gx ms b < gx ms a then gx ms b else gx ms a) else m)) = (ms.map fun m => if m = (if gx ms b > gx ms a then gx ms b else gx ms a) then (if gx ms b < gx ms a then gx ms b else gx ms a) else m).map PyData.int := by rw [List.map_map]; rfl
    simp only [gRet_def, gPurN_def, h, bnd_ok, pureIn, e, pureA_ints, if_true]
    rfl
  · by_cases c1 : gx ms b > gx ms a <;> by_cases c2 : gx ms b < gx ms a
    · omega
    · rw [if_pos c1, if_neg c2]; exact .inr ⟨rfl, rfl⟩
    · rw [if_neg c1, if_pos c2]; exact .inl ⟨rfl, rfl⟩
    · rw [if_neg c1, if_neg c2]; exact .inl ⟨rfl, by omega⟩
def encP (p : List Int × Nat) : Dt := .tuple [.int (p.2 : Nat), encI p.1]
theorem lf_loop {a b : Int} {m : Nat} (M : Dt) (a0 : 0 ≤ a) (a1 : a.toNat < m) (b0 : 0 ≤ b) (b1 : b.toNat < m) : ∀ (rows : List (List Int)) (lo : Nat) (x y : Dt), (∀ ms ∈ rows, ms.length = m) →
    (forE (tgT (tgCons (tgN 3) (tgCons (tgN 4) (tgNil)))) g_layer_for_L1 ((rows.zipIdx lo).map encP) [M, .int a, .int b, x, y] = .ok (.rt (.int (lfr a b rows lo)))) ∨
      ((∃ x' y', forE (tgT (tgCons (tgN 3) (tgCons (tgN 4) (tgNil)))) g_layer_for_L1 ((rows.zipIdx lo).map encP) [M, .int a, .int b, x, y] = .ok (.nx [M, .int a, .int b, x', y'])) ∧ lfr a b rows lo = 0)
  | [], lo, x, y, _ => .inr ⟨⟨x, y, rfl⟩, rfl⟩
  | ms :: rows, lo, x, y, h => by
    have l := h ms List.mem_cons_self
    have i1 := hIx_gx (ms := ms) a0 (by omega)
    have i2 := hIx_gx (ms := ms) b0 (by omega)
    have ih := lf_loop M a0 a1 b0 b1 rows (lo + 1) (.int lo) (encI ms) fun ms hm => h ms (List.mem_cons_of_mem _ hm)
    rw [List.zipIdx_cons, List.map_cons]
    unfold forE
    have e1 : tgT (tgCons (tgN 3) (tgCons (tgN 4) (tgNil))) (encP (ms, lo)) [M, .int a, .int b, x, y] = .ok [M, .int a, .int b, .int lo, .list (ms.map .int)] := rfl
    have e2 : g_layer_for_L1 [M, .int a, .int b, .int lo, .list (ms.map .int)] = if gx ms a = gx ms b then .ok (.nx [M, .int a, .int b, .int lo, .list (ms.map .int)]) else .ok (.rt (.int ((lo : Int) + 1))) := by
      unfold g_layer_for_L1
      simp only [bnd_ok, gVar_def, gC_def, gOp_def, gUn_def, gNil_def, gCons_def, gIf_def, gTest_def, gNot_def, gAnd_def, gOr_def, gAndV_def, gOrV_def, gNotV_def, gCB_def, asB_b, hAdd_i, hSub_i, hLt_i, hLe_i, hGt_i, hGe_i, hMul_r, hMul_l, hMod_i, hDiv_s, hBand_i, hShr_i, hPow_10_18, hPow_10_27, hPow_10_28, hPow_10_29, hPow_10_30, hEq_i, hNe_i, hLen_l, hLen_t, hMin2_i, hMax2_i, hMin3_i, hInt1_b, hInt1_i, hBits_i, hListOf_l, hListOf_t, hTupOf_l, hTupOf_t, gSeqS_def, gSet_def, gRet_def, gIfS_def, gNext_def, gTup_def, gLst_def, List.getElem?_cons_zero, List.getElem?_cons_succ, List.set_cons_zero, List.set_cons_succ, List.length_cons, List.length_nil, Nat.zero_add, Nat.reduceAdd, Nat.reduceLeDiff, Nat.reduceSub, Nat.reduceMul, if_true, if_false, Bool.false_eq_true, List.replicate_succ, List.replicate_zero, List.cons_append, List.nil_append, tgN, tgT, tgCons, tgNil, Int.reducePow, Int.reduceAdd, Int.reduceSub, Int.reduceMul, decide_true, decide_false, Bool.not_true, Bool.not_false, gChain_def, hIsa_int, hIsa_intb, hIsa_list, hIsa_tuple, gDrop_def, i1, i2]
      by_cases c : gx ms a = gx ms b
      · simp [c]
      · simp [c]
    rw [e1]
    simp only [e2]
    unfold lfr
    by_cases c : gx ms a = gx ms b
    · rw [if_pos c, if_pos c]
      exact ih
    · rw [if_neg c, if_neg c]
      exact .inl rfl
theorem layer_for_ok {a b : Int} {m : Nat} {rows : List (List Int)} (a0 : 0 ≤ a) (a1 : a.toNat < m) (b0 : 0 ≤ b) (b1 : b.toNat < m) (h : ∀ ms ∈ rows, ms.length = m) : f_layer_for [.list (rows.map encI), .int a, .int b] = .ok (.int (lfr a b rows 0)) := by
  refine fnN_rt ?_
  show g_layer_for [.list (rows.map encI), .int a, .int b, .none, .none] = _
  unfold g_layer_for
  have e : gEnum (gCons (gVar 0) (gNil)) [.list (rows.map encI), .int a, .int b, .none, .none] = .ok ((rows.zipIdx 0).map encP) := by
    refine (enum_ok (es := rows.map encI) (by rfl)).trans ?_
    rw [enumD_map]
    rfl
  rcases lf_loop (.list (rows.map encI)) a0 a1 b0 b1 rows 0 .none .none h with q | ⟨⟨x, y, q⟩, z⟩
  · exact seq_rt (for_ok e q)
  · rw [z]
    exact seq_step (for_ok e q) rfl
theorem look_ok {k : Int} (k1 : 1 ≤ k) (k6 : k ≤ 6) : f_look_at_layers [.int k] = .ok .none := by
  have e1 : f_is_whole [.int k] = .ok (.bool true) := rfl
  have e2 : f_is_depth [.int k] = .ok (.bool true) := by
    refine fnN_rt ?_
    show g_is_depth [.int k] = _
    unfold g_is_depth
    simp only [bnd_ok, gVar_def, gC_def, gOp_def, gUn_def, gNil_def, gCons_def, gIf_def, gTest_def, gNot_def, gAnd_def, gOr_def, gAndV_def, gOrV_def, gNotV_def, gCB_def, asB_b, hAdd_i, hSub_i, hLt_i, hLe_i, hGt_i, hGe_i, hMul_r, hMul_l, hMod_i, hDiv_s, hBand_i, hShr_i, hPow_10_18, hPow_10_27, hPow_10_28, hPow_10_29, hPow_10_30, hEq_i, hNe_i, hLen_l, hLen_t, hMin2_i, hMax2_i, hMin3_i, hInt1_b, hInt1_i, hBits_i, hListOf_l, hListOf_t, hTupOf_l, hTupOf_t, gSeqS_def, gSet_def, gRet_def, gIfS_def, gNext_def, gTup_def, gLst_def, List.getElem?_cons_zero, List.getElem?_cons_succ, List.set_cons_zero, List.set_cons_succ, List.length_cons, List.length_nil, Nat.zero_add, Nat.reduceAdd, Nat.reduceLeDiff, Nat.reduceSub, Nat.reduceMul, if_true, if_false, Bool.false_eq_true, List.replicate_succ, List.replicate_zero, List.cons_append, List.nil_append, tgN, tgT, tgCons, tgNil, Int.reducePow, Int.reduceAdd, Int.reduceSub, Int.reduceMul, decide_true, decide_false, Bool.not_true, Bool.not_false, gChain_def, hIsa_int, hIsa_intb, hIsa_list, hIsa_tuple, gDrop_def, gCallN_def, gAsg_def, gSl_def, gNoPart_def, gPart_def, hSl_from', hSl_to', e1, k1, k6]
  refine fnN_nx (ρ := [.int k]) ?_
  show g_look_at_layers [.int k] = _
  unfold g_look_at_layers
  simp only [bnd_ok, gVar_def, gC_def, gOp_def, gUn_def, gNil_def, gCons_def, gIf_def, gTest_def, gNot_def, gAnd_def, gOr_def, gAndV_def, gOrV_def, gNotV_def, gCB_def, asB_b, hAdd_i, hSub_i, hLt_i, hLe_i, hGt_i, hGe_i, hMul_r, hMul_l, hMod_i, hDiv_s, hBand_i, hShr_i, hPow_10_18, hPow_10_27, hPow_10_28, hPow_10_29, hPow_10_30, hEq_i, hNe_i, hLen_l, hLen_t, hMin2_i, hMax2_i, hMin3_i, hInt1_b, hInt1_i, hBits_i, hListOf_l, hListOf_t, hTupOf_l, hTupOf_t, gSeqS_def, gSet_def, gRet_def, gIfS_def, gNext_def, gTup_def, gLst_def, List.getElem?_cons_zero, List.getElem?_cons_succ, List.set_cons_zero, List.set_cons_succ, List.length_cons, List.length_nil, Nat.zero_add, Nat.reduceAdd, Nat.reduceLeDiff, Nat.reduceSub, Nat.reduceMul, if_true, if_false, Bool.false_eq_true, List.replicate_succ, List.replicate_zero, List.cons_append, List.nil_append, tgN, tgT, tgCons, tgNil, Int.reducePow, Int.reduceAdd, Int.reduceSub, Int.reduceMul, decide_true, decide_false, Bool.not_true, Bool.not_false, gChain_def, hIsa_int, hIsa_intb, hIsa_list, hIsa_tuple, gDrop_def, gCallN_def, gAsg_def, gSl_def, gNoPart_def, gPart_def, hSl_from', hSl_to', e2]
def InN (n : Int) (r : List T3) : Prop := ∀ t ∈ r, (0 ≤ t.2.1 ∧ t.2.1 < n) ∧ 0 ≤ t.2.2 ∧ t.2.2 < n
theorem set_map_enc (rows : List (List Int)) (j : Nat) (ms : List Int) : (rows.map encI).set j (encI ms) = (rows.set j ms).map encI := (List.map_set ..).symm
theorem layered_ok {n : Int} {k : Nat} {r : List T3} (hr : InN n r) (hl : r.length ≤ 1000) (n1 : 1 ≤ n) (n10 : n ≤ 10) (k1 : 1 ≤ k) (k6 : k ≤ 6) :
    f_layered [.int n, .list (r.map enc3), .int (k : Nat)] = .ok (.list ((lay k r).map .int)) := by
  refine fnL_rt ?_
  show g_layered [.int n, .list (r.map enc3), .int (k : Nat), .none, .none, .none, .none, .none, .none] = _
  unfold g_layered
  have hlook := look_ok (k := k) (by omega) (by omega)
  have rg : ∀ x, gLsI (gRng1 (gCons (gVar 0) gNil)) [.int n, .list (r.map enc3), .int (k : Nat), .none, .int x, .none, .none, .none, .none] = .ok (encI (pl n)) := fun x => by
    rw [lsI_ok (ds := (pl n).map .int) (by rw [rng1_ok (show gCons (gVar 0) gNil _ = .ok [.int n] from rfl) (by omega) (by omega), rangeD_pl]) (by rw [List.length_map, pl_len]; omega)]
    rfl
  have hrows : gLc (gRng1 (gCons (gVar 2) (gNil))) (tgN 4) (gYes) (gLsI (gRng1 (gCons (gVar 0) gNil))) [.int n, .list (r.map enc3), .int (k : Nat), .none, .none, .none, .none, .none, .none] = .ok (.list ((List.replicate k (pl n)).map encI)) := by
    rw [gLc_map PyData.int (fun _ => true) (fun _ => encI (pl n)) (xs := pl k) (by rw [rng1_ok (show gCons (gVar 2) gNil _ = .ok [.int (k : Nat)] from rfl) (by omega) (by omega), rangeD_pl]) (by rw [pl_len]; omega) fun x _ => ⟨_, rfl, rfl, fun _ => rg x⟩]
    rw [List.filter_eq_self.mpr (fun _ _ => rfl), List.map_const', pl_len, List.map_replicate]
    rfl
  apply seq_step
  · simp (disch := first | omega | with_unfolding_all rfl | assumption | decide | (simp only [List.length_cons, List.length_nil]; omega)) only [bnd_ok, gVar_def, gC_def, gOp_def, gUn_def, gNil_def, gCons_def, gIf_def, gTest_def, gNot_def, gAnd_def, gOr_def, gAndV_def, gOrV_def, gNotV_def, gCB_def, asB_b, hAdd_i, hSub_i, hLt_i, hLe_i, hGt_i, hGe_i, hMul_r, hMul_l, hMod_i, hDiv_s, hBand_i, hShr_i, hPow_10_18, hPow_10_27, hPow_10_28, hPow_10_29, hPow_10_30, hEq_i, hNe_i, hLen_l, hLen_t, hMin2_i, hMax2_i, hMin3_i, hInt1_b, hInt1_i, hBits_i, hListOf_l, hListOf_t, hTupOf_l, hTupOf_t, gSeqS_def, gSet_def, gRet_def, gIfS_def, gNext_def, gTup_def, gLst_def, List.getElem?_cons_zero, List.getElem?_cons_succ, List.set_cons_zero, List.set_cons_succ, List.length_cons, List.length_nil, Nat.zero_add, Nat.reduceAdd, Nat.reduceLeDiff, Nat.reduceSub, Nat.reduceMul, if_true, if_false, Bool.false_eq_true, List.replicate_succ, List.replicate_zero, List.cons_append, List.nil_append, tgN, tgT, tgCons, tgNil, Int.reducePow, Int.reduceAdd, Int.reduceSub, Int.reduceMul, decide_true, decide_false, Bool.not_true, Bool.not_false, gChain_def, hIsa_int, hIsa_intb, hIsa_list, hIsa_tuple, gDrop_def, gCallN_def, gAsg_def, gSl_def, gNoPart_def, gPart_def, hSl_from', hSl_to', hlook]
    rfl
  apply seq_step
  · simp (disch := first | omega | with_unfolding_all rfl | assumption | decide | (simp only [List.length_cons, List.length_nil]; omega)) only [bnd_ok, gVar_def, gC_def, gOp_def, gUn_def, gNil_def, gCons_def, gIf_def, gTest_def, gNot_def, gAnd_def, gOr_def, gAndV_def, gOrV_def, gNotV_def, gCB_def, asB_b, hAdd_i, hSub_i, hLt_i, hLe_i, hGt_i, hGe_i, hMul_r, hMul_l, hMod_i, hDiv_s, hBand_i, hShr_i, hPow_10_18, hPow_10_27, hPow_10_28, hPow_10_29, hPow_10_30, hEq_i, hNe_i, hLen_l, hLen_t, hMin2_i, hMax2_i, hMin3_i, hInt1_b, hInt1_i, hBits_i, hListOf_l, hListOf_t, hTupOf_l, hTupOf_t, gSeqS_def, gSet_def, gRet_def, gIfS_def, gNext_def, gTup_def, gLst_def, List.getElem?_cons_zero, List.getElem?_cons_succ, List.set_cons_zero, List.set_cons_succ, List.length_cons, List.length_nil, Nat.zero_add, Nat.reduceAdd, Nat.reduceLeDiff, Nat.reduceSub, Nat.reduceMul, if_true, if_false, Bool.false_eq_true, List.replicate_succ, List.replicate_zero, List.cons_append, List.nil_append, tgN, tgT, tgCons, tgNil, Int.reducePow, Int.reduceAdd, Int.reduceSub, Int.reduceMul, decide_true, decide_false, Bool.not_true, Bool.not_false, gChain_def, hIsa_int, hIsa_intb, hIsa_list, hIsa_tuple, gDrop_def, gCallN_def, gAsg_def, gSl_def, gNoPart_def, gPart_def, hSl_from', hSl_to', hrows]
    rfl
  apply seq_step
  · simp (disch := first | omega | with_unfolding_all rfl | assumption | decide | (simp only [List.length_cons, List.length_nil]; omega)) only [bnd_ok, gVar_def, gC_def, gOp_def, gUn_def, gNil_def, gCons_def, gIf_def, gTest_def, gNot_def, gAnd_def, gOr_def, gAndV_def, gOrV_def, gNotV_def, gCB_def, asB_b, hAdd_i, hSub_i, hLt_i, hLe_i, hGt_i, hGe_i, hMul_r, hMul_l, hMod_i, hDiv_s, hBand_i, hShr_i, hPow_10_18, hPow_10_27, hPow_10_28, hPow_10_29, hPow_10_30, hEq_i, hNe_i, hLen_l, hLen_t, hMin2_i, hMax2_i, hMin3_i, hInt1_b, hInt1_i, hBits_i, hListOf_l, hListOf_t, hTupOf_l, hTupOf_t, gSeqS_def, gSet_def, gRet_def, gIfS_def, gNext_def, gTup_def, gLst_def, List.getElem?_cons_zero, List.getElem?_cons_succ, List.set_cons_zero, List.set_cons_succ, List.length_cons, List.length_nil, Nat.zero_add, Nat.reduceAdd, Nat.reduceLeDiff, Nat.reduceSub, Nat.reduceMul, if_true, if_false, Bool.false_eq_true, List.replicate_succ, List.replicate_zero, List.cons_append, List.nil_append, tgN, tgT, tgCons, tgNil, Int.reducePow, Int.reduceAdd, Int.reduceSub, Int.reduceMul, decide_true, decide_false, Bool.not_true, Bool.not_false, gChain_def, hIsa_int, hIsa_intb, hIsa_list, hIsa_tuple, gDrop_def, gCallN_def, gAsg_def, gSl_def, gNoPart_def, gPart_def, hSl_from', hSl_to', Nat.zero_le]
    rfl
  obtain ⟨ρ', hf, rows, x4, x6, x7, x8, rfl, hR⟩ := forE_ix enc3 (h := tgT (tgCons (tgN 6) (tgCons (tgN 7) (tgCons (tgN 8) (tgNil))))) (b := g_layered_L1) r.reverse
    (fun i ρ => ∃ rows x4 x6 x7 x8, ρ = [.int n, .list (r.map enc3), .int (k : Nat), .list (rows.map encI), x4, .list ((lay k (r.reverse.take i).reverse).reverse.map .int), x6, x7, x8] ∧ RowsOk n k rows (r.reverse.take i).reverse)
    (ρ := [.int n, .list (r.map enc3), .int (k : Nat), .list ((List.replicate k (pl n)).map encI), .none, .list [], .none, .none, .none]) ⟨_, _, _, _, _, rfl, RowsOk.zero⟩ (by
      rintro i ρ hi ⟨rows, x4, x6, x7, x8, rfl, hR⟩
      have ht := hr r.reverse[i] (List.mem_reverse.mp (List.getElem_mem hi))
      have es : (r.reverse.take (i + 1)).reverse = r.reverse[i] :: (r.reverse.take i).reverse := by
        rw [List.take_add_one, List.getElem?_eq_getElem hi, List.reverse_append]
        rfl
      rw [es, lay_cons]
      generalize hs : (r.reverse.take i).reverse = s at *
      have ls : s.length = i := by rw [← hs, List.length_reverse, List.length_take]; omega
      generalize r.reverse[i] = t at *
      obtain ⟨⟨a0, a1⟩, b0, b1⟩ := ht
      have hm : ∀ ms ∈ rows, ms.length = n.toNat := fun ms h => by
        obtain ⟨j, hj, e⟩ := List.getElem_of_mem h
        rw [← e]
        exact (hR.mkr j hj).len
      have e4 := layer_for_ok (rows := rows) a0 (by omega : t.2.1.toNat < n.toNat) b0 (by omega : t.2.2.toNat < n.toNat) hm
      have e5 := hR.num a0 a1 b0 b1
      rw [e5] at e4
      obtain ⟨c0, c1⟩ := num_range k s (lay k s) t.2.1 t.2.2
      have lrev : ((lay k s).reverse.map PyData.int).length < 100000 := by
        rw [List.length_map, List.length_reverse, lay_len]
        rw [List.length_reverse] at hi
        omega
      have eapp : ∀ x : Int, (lay k s).reverse.map PyData.int ++ [.int x] = (x :: lay k s).reverse.map PyData.int := fun x => by rw [List.reverse_cons, List.map_append]; rfl
      have etg : tgT (tgCons (tgN 6) (tgCons (tgN 7) (tgCons (tgN 8) (tgNil)))) (enc3 t) [.int n, .list (r.map enc3), .int (k : Nat), .list (rows.map encI), x4, .list ((lay k s).reverse.map .int), x6, x7, x8] = .ok [.int n, .list (r.map enc3), .int (k : Nat), .list (rows.map encI), x4, .list ((lay k s).reverse.map .int), .int t.1, .int t.2.1, .int t.2.2] := rfl
      by_cases c : num k s (lay k s) t.2.1 t.2.2 = 0
      · refine ⟨_, _, etg, .inl ?_, rows, .int 0, .int t.1, .int t.2.1, .int t.2.2, rfl, hR.stay c⟩
        unfold g_layered_L1
        rw [c] at e4 ⊢
        apply seq_step
        · simp (disch := first | omega | with_unfolding_all rfl | assumption | decide | (simp only [List.length_cons, List.length_nil]; omega)) only [bnd_ok, gVar_def, gC_def, gOp_def, gUn_def, gNil_def, gCons_def, gIf_def, gTest_def, gNot_def, gAnd_def, gOr_def, gAndV_def, gOrV_def, gNotV_def, gCB_def, asB_b, hAdd_i, hSub_i, hLt_i, hLe_i, hGt_i, hGe_i, hMul_r, hMul_l, hMod_i, hDiv_s, hBand_i, hShr_i, hPow_10_18, hPow_10_27, hPow_10_28, hPow_10_29, hPow_10_30, hEq_i, hNe_i, hLen_l, hLen_t, hMin2_i, hMax2_i, hMin3_i, hInt1_b, hInt1_i, hBits_i, hListOf_l, hListOf_t, hTupOf_l, hTupOf_t, gSeqS_def, gSet_def, gRet_def, gIfS_def, gNext_def, gTup_def, gLst_def, List.getElem?_cons_zero, List.getElem?_cons_succ, List.set_cons_zero, List.set_cons_succ, List.length_cons, List.length_nil, Nat.zero_add, Nat.reduceAdd, Nat.reduceLeDiff, Nat.reduceSub, Nat.reduceMul, if_true, if_false, Bool.false_eq_true, List.replicate_succ, List.replicate_zero, List.cons_append, List.nil_append, tgN, tgT, tgCons, tgNil, Int.reducePow, Int.reduceAdd, Int.reduceSub, Int.reduceMul, decide_true, decide_false, Bool.not_true, Bool.not_false, gChain_def, hIsa_int, hIsa_intb, hIsa_list, hIsa_tuple, gDrop_def, gCallN_def, gAsg_def, gSl_def, gNoPart_def, gPart_def, hSl_from', hSl_to', e4]
          rfl
        apply seq_step
        · simp (disch := first | omega | with_unfolding_all rfl | assumption | decide | (simp only [List.length_cons, List.length_nil]; omega)) only [bnd_ok, gVar_def, gC_def, gOp_def, gUn_def, gNil_def, gCons_def, gIf_def, gTest_def, gNot_def, gAnd_def, gOr_def, gAndV_def, gOrV_def, gNotV_def, gCB_def, asB_b, hAdd_i, hSub_i, hLt_i, hLe_i, hGt_i, hGe_i, hMul_r, hMul_l, hMod_i, hDiv_s, hBand_i, hShr_i, hPow_10_18, hPow_10_27, hPow_10_28, hPow_10_29, hPow_10_30, hEq_i, hNe_i, hLen_l, hLen_t, hMin2_i, hMax2_i, hMin3_i, hInt1_b, hInt1_i, hBits_i, hListOf_l, hListOf_t, hTupOf_l, hTupOf_t, gSeqS_def, gSet_def, gRet_def, gIfS_def, gNext_def, gTup_def, gLst_def, List.getElem?_cons_zero, List.getElem?_cons_succ, List.set_cons_zero, List.set_cons_succ, List.length_cons, List.length_nil, Nat.zero_add, Nat.reduceAdd, Nat.reduceLeDiff, Nat.reduceSub, Nat.reduceMul, if_true, if_false, Bool.false_eq_true, List.replicate_succ, List.replicate_zero, List.cons_append, List.nil_append, tgN, tgT, tgCons, tgNil, Int.reducePow, Int.reduceAdd, Int.reduceSub, Int.reduceMul, decide_true, decide_false, Bool.not_true, Bool.not_false, gChain_def, hIsa_int, hIsa_intb, hIsa_list, hIsa_tuple, gDrop_def, gCallN_def, gAsg_def, gSl_def, gNoPart_def, gPart_def, hSl_from', hSl_to', Int.lt_irrefl]
          rfl
        rw [gApp_l rfl rfl lrev, eapp]
        rfl
      · obtain ⟨j, ej⟩ : ∃ j : Nat, num k s (lay k s) t.2.1 t.2.2 = (j : Int) + 1 := ⟨(num k s (lay k s) t.2.1 t.2.2 - 1).toNat, by omega⟩
        have hj : j < rows.length := by rw [hR.len]; omega
        have lj := (hR.mkr j hj).len
        obtain ⟨x, y, hj1, hj2⟩ := joined_ok (ms := rows[j]) a0 (by omega : t.2.1.toNat < rows[j].length) b0 (by omega) (by omega)
        refine ⟨_, _, etg, .inl ?_, _, .int ((j : Int) + 1), .int t.1, .int t.2.1, .int t.2.2, rfl, hR.put a0 a1 b0 b1 hj ej hj2⟩
        unfold g_layered_L1
        rw [ej] at e4 ⊢
        have p1 : (0 : Int) < (j : Int) + 1 := by omega
        have es : (j : Int) + 1 - 1 = (j : Int) := by omega
        have eix : hIx (.list (rows.map encI)) (.int (j : Int)) = .ok (encI rows[j]) := hIx_l (by rw [atI_map _ (by omega) (by omega)]; rfl)
        apply seq_step
        · simp (disch := first | omega | with_unfolding_all rfl | assumption | decide | (simp only [List.length_cons, List.length_nil]; omega)) only [bnd_ok, gVar_def, gC_def, gOp_def, gUn_def, gNil_def, gCons_def, gIf_def, gTest_def, gNot_def, gAnd_def, gOr_def, gAndV_def, gOrV_def, gNotV_def, gCB_def, asB_b, hAdd_i, hSub_i, hLt_i, hLe_i, hGt_i, hGe_i, hMul_r, hMul_l, hMod_i, hDiv_s, hBand_i, hShr_i, hPow_10_18, hPow_10_27, hPow_10_28, hPow_10_29, hPow_10_30, hEq_i, hNe_i, hLen_l, hLen_t, hMin2_i, hMax2_i, hMin3_i, hInt1_b, hInt1_i, hBits_i, hListOf_l, hListOf_t, hTupOf_l, hTupOf_t, gSeqS_def, gSet_def, gRet_def, gIfS_def, gNext_def, gTup_def, gLst_def, List.getElem?_cons_zero, List.getElem?_cons_succ, List.set_cons_zero, List.set_cons_succ, List.length_cons, List.length_nil, Nat.zero_add, Nat.reduceAdd, Nat.reduceLeDiff, Nat.reduceSub, Nat.reduceMul, if_true, if_false, Bool.false_eq_true, List.replicate_succ, List.replicate_zero, List.cons_append, List.nil_append, tgN, tgT, tgCons, tgNil, Int.reducePow, Int.reduceAdd, Int.reduceSub, Int.reduceMul, decide_true, decide_false, Bool.not_true, Bool.not_false, gChain_def, hIsa_int, hIsa_intb, hIsa_list, hIsa_tuple, gDrop_def, gCallN_def, gAsg_def, gSl_def, gNoPart_def, gPart_def, hSl_from', hSl_to', e4]
          rfl
        apply seq_step
        · rw [if_t (by simp only [bnd_ok, gVar_def, gC_def, gOp_def, gUn_def, gNil_def, gCons_def, gIf_def, gTest_def, gNot_def, gAnd_def, gOr_def, gAndV_def, gOrV_def, gNotV_def, gCB_def, asB_b, hAdd_i, hSub_i, hLt_i, hLe_i, hGt_i, hGe_i, hMul_r, hMul_l, hMod_i, hDiv_s, hBand_i, hShr_i, hPow_10_18, hPow_10_27, hPow_10_28, hPow_10_29, hPow_10_30, hEq_i, hNe_i, hLen_l, hLen_t, hMin2_i, hMax2_i, hMin3_i, hInt1_b, hInt1_i, hBits_i, hListOf_l, hListOf_t, hTupOf_l, hTupOf_t, gSeqS_def, gSet_def, gRet_def, gIfS_def, gNext_def, gTup_def, gLst_def, List.getElem?_cons_zero, List.getElem?_cons_succ, List.set_cons_zero, List.set_cons_succ, List.length_cons, List.length_nil, Nat.zero_add, Nat.reduceAdd, Nat.reduceLeDiff, Nat.reduceSub, Nat.reduceMul, if_true, if_false, Bool.false_eq_true, List.replicate_succ, List.replicate_zero, List.cons_append, List.nil_append, tgN, tgT, tgCons, tgNil, Int.reducePow, Int.reduceAdd, Int.reduceSub, Int.reduceMul, decide_true, decide_false, Bool.not_true, Bool.not_false, gChain_def, hIsa_int, hIsa_intb, hIsa_list, hIsa_tuple, gDrop_def, p1])]
          refine setI_ok (ds := rows.map encI) (d := encI (rows[j].map fun m => if m = x then y else m)) (j := (j : Int)) ?_ rfl ?_ (by omega) (by rw [List.length_map]; omega)
          · simp only [bnd_ok, gVar_def, gC_def, gOp_def, gUn_def, gNil_def, gCons_def, gIf_def, gTest_def, gNot_def, gAnd_def, gOr_def, gAndV_def, gOrV_def, gNotV_def, gCB_def, asB_b, hAdd_i, hSub_i, hLt_i, hLe_i, hGt_i, hGe_i, hMul_r, hMul_l, hMod_i, hDiv_s, hBand_i, hShr_i, hPow_10_18, hPow_10_27, hPow_10_28, hPow_10_29, hPow_10_30, hEq_i, hNe_i, hLen_l, hLen_t, hMin2_i, hMax2_i, hMin3_i, hInt1_b, hInt1_i, hBits_i, hListOf_l, hListOf_t, hTupOf_l, hTupOf_t, gSeqS_def, gSet_def, gRet_def, gIfS_def, gNext_def, gTup_def, gLst_def, List.getElem?_cons_zero, List.getElem?_cons_succ, List.set_cons_zero, List.set_cons_succ, List.length_cons, List.length_nil, Nat.zero_add, Nat.reduceAdd, Nat.reduceLeDiff, Nat.reduceSub, Nat.reduceMul, if_true, if_false, Bool.false_eq_true, List.replicate_succ, List.replicate_zero, List.cons_append, List.nil_append, tgN, tgT, tgCons, tgNil, Int.reducePow, Int.reduceAdd, Int.reduceSub, Int.reduceMul, decide_true, decide_false, Bool.not_true, Bool.not_false, gChain_def, hIsa_int, hIsa_intb, hIsa_list, hIsa_tuple, gDrop_def, gCallN_def, gAsg_def, gSl_def, gNoPart_def, gPart_def, hSl_from', hSl_to', es, eix, hj1]
          · simp only [bnd_ok, gVar_def, gC_def, gOp_def, gUn_def, gNil_def, gCons_def, gIf_def, gTest_def, gNot_def, gAnd_def, gOr_def, gAndV_def, gOrV_def, gNotV_def, gCB_def, asB_b, hAdd_i, hSub_i, hLt_i, hLe_i, hGt_i, hGe_i, hMul_r, hMul_l, hMod_i, hDiv_s, hBand_i, hShr_i, hPow_10_18, hPow_10_27, hPow_10_28, hPow_10_29, hPow_10_30, hEq_i, hNe_i, hLen_l, hLen_t, hMin2_i, hMax2_i, hMin3_i, hInt1_b, hInt1_i, hBits_i, hListOf_l, hListOf_t, hTupOf_l, hTupOf_t, gSeqS_def, gSet_def, gRet_def, gIfS_def, gNext_def, gTup_def, gLst_def, List.getElem?_cons_zero, List.getElem?_cons_succ, List.set_cons_zero, List.set_cons_succ, List.length_cons, List.length_nil, Nat.zero_add, Nat.reduceAdd, Nat.reduceLeDiff, Nat.reduceSub, Nat.reduceMul, if_true, if_false, Bool.false_eq_true, List.replicate_succ, List.replicate_zero, List.cons_append, List.nil_append, tgN, tgT, tgCons, tgNil, Int.reducePow, Int.reduceAdd, Int.reduceSub, Int.reduceMul, decide_true, decide_false, Bool.not_true, Bool.not_false, gChain_def, hIsa_int, hIsa_intb, hIsa_list, hIsa_tuple, gDrop_def, es]
        · rw [Int.toNat_natCast, set_map_enc]
          simp only [bnd_ok, gVar_def, gC_def, gOp_def, gUn_def, gNil_def, gCons_def, gIf_def, gTest_def, gNot_def, gAnd_def, gOr_def, gAndV_def, gOrV_def, gNotV_def, gCB_def, asB_b, hAdd_i, hSub_i, hLt_i, hLe_i, hGt_i, hGe_i, hMul_r, hMul_l, hMod_i, hDiv_s, hBand_i, hShr_i, hPow_10_18, hPow_10_27, hPow_10_28, hPow_10_29, hPow_10_30, hEq_i, hNe_i, hLen_l, hLen_t, hMin2_i, hMax2_i, hMin3_i, hInt1_b, hInt1_i, hBits_i, hListOf_l, hListOf_t, hTupOf_l, hTupOf_t, gSeqS_def, gSet_def, gRet_def, gIfS_def, gNext_def, gTup_def, gLst_def, List.getElem?_cons_zero, List.getElem?_cons_succ, List.set_cons_zero, List.set_cons_succ, List.length_cons, List.length_nil, Nat.zero_add, Nat.reduceAdd, Nat.reduceLeDiff, Nat.reduceSub, Nat.reduceMul, if_true, if_false, Bool.false_eq_true, List.replicate_succ, List.replicate_zero, List.cons_append, List.nil_append, tgN, tgT, tgCons, tgNil, Int.reducePow, Int.reduceAdd, Int.reduceSub, Int.reduceMul, decide_true, decide_false, Bool.not_true, Bool.not_false, gChain_def, hIsa_int, hIsa_intb, hIsa_list, hIsa_tuple, gDrop_def]
          rw [gApp_l rfl rfl lrev, eapp]
          rfl)
  refine seq_step (for_ok (ds := r.reverse.map enc3) ?_ hf) ?_
  · refine (rev_ok (es := r.map enc3) (by rfl)).trans ?_
    rw [List.map_reverse]
  · rw [List.take_length, List.reverse_reverse] 
    refine ret_ok ?_
    refine (lsI_ok (rev_ok (es := (lay k r).reverse.map .int) (by rfl)) (by rw [List.length_reverse, List.length_map, List.length_reverse, lay_len]; omega)).trans ?_
    rw [← List.map_reverse, List.reverse_reverse]
theorem depth_ok {x : Int} (h0 : 0 ≤ x) : ∃ k : Nat, f_l_depth [.int x] = .ok (.int (k : Nat)) ∧ 1 ≤ k ∧ k ≤ 6 := by
  have h : f_l_depth [.int x] = .ok (.int (if x % 8 = 1 then 1 + x / 32 % 6 else 1 + x % 4)) := by
    refine fnN_rt ?_
    show g_l_depth [.int x] = _
    unfold g_l_depth
    by_cases c : x % 8 = 1
    · have e : (x % 8 == 1) = true := by simp [c]
      have e2 : hIx (.list [.int (1 + x % 4), .int (1 + x / 32 % 6)]) (.int 1) = .ok (.int (1 + x / 32 % 6)) := rfl
      rw [if_pos c]
      simp (disch := first | omega | decide) only [bnd_ok, gVar_def, gC_def, gOp_def, gUn_def, gNil_def, gCons_def, gIf_def, gTest_def, gNot_def, gAnd_def, gOr_def, gAndV_def, gOrV_def, gNotV_def, gCB_def, asB_b, hAdd_i, hSub_i, hLt_i, hLe_i, hGt_i, hGe_i, hMul_r, hMul_l, hMod_i, hDiv_s, hBand_i, hShr_i, hPow_10_18, hPow_10_27, hPow_10_28, hPow_10_29, hPow_10_30, hEq_i, hNe_i, hLen_l, hLen_t, hMin2_i, hMax2_i, hMin3_i, hInt1_b, hInt1_i, hBits_i, hListOf_l, hListOf_t, hTupOf_l, hTupOf_t, gSeqS_def, gSet_def, gRet_def, gIfS_def, gNext_def, gTup_def, gLst_def, List.getElem?_cons_zero, List.getElem?_cons_succ, List.set_cons_zero, List.set_cons_succ, List.length_cons, List.length_nil, Nat.zero_add, Nat.reduceAdd, Nat.reduceLeDiff, Nat.reduceSub, Nat.reduceMul, if_true, if_false, Bool.false_eq_true, List.replicate_succ, List.replicate_zero, List.cons_append, List.nil_append, tgN, tgT, tgCons, tgNil, Int.reducePow, Int.reduceAdd, Int.reduceSub, Int.reduceMul, decide_true, decide_false, Bool.not_true, Bool.not_false, gChain_def, hIsa_int, hIsa_intb, hIsa_list, hIsa_tuple, gDrop_def, e, e2]
    · have e : (x % 8 == 1) = false := by simp [c]
      have e2 : hIx (.list [.int (1 + x % 4), .int (1 + x / 32 % 6)]) (.int 0) = .ok (.int (1 + x % 4)) := rfl
      rw [if_neg c]
      simp (disch := first | omega | decide) only [bnd_ok, gVar_def, gC_def, gOp_def, gUn_def, gNil_def, gCons_def, gIf_def, gTest_def, gNot_def, gAnd_def, gOr_def, gAndV_def, gOrV_def, gNotV_def, gCB_def, asB_b, hAdd_i, hSub_i, hLt_i, hLe_i, hGt_i, hGe_i, hMul_r, hMul_l, hMod_i, hDiv_s, hBand_i, hShr_i, hPow_10_18, hPow_10_27, hPow_10_28, hPow_10_29, hPow_10_30, hEq_i, hNe_i, hLen_l, hLen_t, hMin2_i, hMax2_i, hMin3_i, hInt1_b, hInt1_i, hBits_i, hListOf_l, hListOf_t, hTupOf_l, hTupOf_t, gSeqS_def, gSet_def, gRet_def, gIfS_def, gNext_def, gTup_def, gLst_def, List.getElem?_cons_zero, List.getElem?_cons_succ, List.set_cons_zero, List.set_cons_succ, List.length_cons, List.length_nil, Nat.zero_add, Nat.reduceAdd, Nat.reduceLeDiff, Nat.reduceSub, Nat.reduceMul, if_true, if_false, Bool.false_eq_true, List.replicate_succ, List.replicate_zero, List.cons_append, List.nil_append, tgN, tgT, tgCons, tgNil, Int.reducePow, Int.reduceAdd, Int.reduceSub, Int.reduceMul, decide_true, decide_false, Bool.not_true, Bool.not_false, gChain_def, hIsa_int, hIsa_intb, hIsa_list, hIsa_tuple, gDrop_def, e, e2]
  refine ⟨(if x % 8 = 1 then 1 + x / 32 % 6 else 1 + x % 4).toNat, ?_, ?_, ?_⟩
  · rw [h]
    congr 2
    split <;> omega
  · split <;> omega
  · split <;> omega
end FamL
end T_FamLP
section T_K10M
set_option linter.all false
set_option maxRecDepth 100000
namespace K10
open PySem Sim FamA FamL Lay
def kp (r : List T3) (ns : List Int) : List T3 := ((r.zip ns).filter fun q => decide (0 < q.2)).map (·.1)
theorem kp_cons (t : T3) (s : List T3) (x : Int) (ns : List Int) : kp (t :: s) (x :: ns) = if 0 < x then t :: kp s ns else kp s ns := by
  unfold kp
  rw [List.zip_cons_cons, List.filter_cons]
  by_cases c : 0 < x
  · simp [c]
  · simp [c]
theorem cut {P : Int → Int} {ts : List T3} {a b : Int} (h : Conn ts a b) (hab : P a ≠ P b) : ∃ w ∈ ts, P w.2.1 ≠ P w.2.2 := by
  induction h with
  | refl => exact absurd rfl hab
  | step h e ih =>
    rename_i u v
    by_cases c : P a = P u
    · obtain ⟨w, hw, e⟩ := e
      refine ⟨w, hw, ?_⟩
      rw [c] at hab
      rcases e with ⟨e1, e2⟩ | ⟨e1, e2⟩
      · rw [e1, e2]; exact hab
      · rw [e1, e2]; exact fun z => hab z.symm
    · exact ih c
def ovP (P : Int → Int) (t : Int) (w : T3) : Bool := decide (t ≤ w.1) && !(P w.2.1 == P w.2.2)
def over (P : Int → Int) (t : Int) (ts : List T3) : List Int := (ts.filter (ovP P t)).map (·.1)
end K10
end T_K10M
section T_K12M
set_option linter.all false
set_option maxRecDepth 100000
namespace K12
open PySem Sim FamA FamL Lay
def msk {α : Type} (p : Nat → Bool) : List α → List α
  | [] => []
  | x :: xs => if p 0 then x :: msk (fun i => p (i + 1)) xs else msk (fun i => p (i + 1)) xs
theorem msk_cons {α : Type} (p : Nat → Bool) (x : α) (xs : List α) : msk p (x :: xs) = if p 0 then x :: msk (fun i => p (i + 1)) xs else msk (fun i => p (i + 1)) xs := rfl
theorem fj_spec (p : Nat → Prop) : ∀ (m lo : Nat), (fj p lo m = 0 ∧ ∀ i, lo ≤ i → i < lo + m → ¬ p i) ∨ ∃ i, lo ≤ i ∧ i < lo + m ∧ fj p lo m = (i : Int) + 1 ∧ p i ∧ ∀ i', lo ≤ i' → i' < i → ¬ p i'
  | 0, lo => .inl ⟨rfl, fun i h1 h2 => by omega⟩
  | m + 1, lo => by
    by_cases c : p lo
    · exact .inr ⟨lo, Nat.le_refl _, by omega, fj_t m c, c, fun i' h1 h2 => by omega⟩
    · rw [fj_f m c]
      rcases fj_spec p m (lo + 1) with ⟨h1, h2⟩ | ⟨i, h1, h2, h3, h4, h5⟩
      · refine .inl ⟨h1, fun i i1 i2 => ?_⟩
        by_cases e : i = lo
        · rw [e]; exact c
        · exact h2 i (by omega) (by omega)
      · refine .inr ⟨i, by omega, by omega, h3, h4, fun i' i1 i2 => ?_⟩
        by_cases e : i' = lo
        · rw [e]; exact c
        · exact h5 i' (by omega) i2
theorem lay_gone (k : Nat) : ∀ (r : List T3) (p : Nat → Bool), (∀ i, i < r.length → p i = false → (lay k r).getD i 0 = 0) →
    lay k (msk p r) = msk p (lay k r) ∧ ∀ j : Int, 1 ≤ j → layer j (msk p r) (msk p (lay k r)) = layer j r (lay k r)
  | [], _, _ => ⟨rfl, fun _ _ => rfl⟩
  | t :: s, p, h => by
    obtain ⟨ih1, ih2⟩ := lay_gone k s (fun i => p (i + 1)) fun i hi hp => by
      have := h (i + 1) (by rw [List.length_cons]; omega) hp
      rw [lay_cons, List.getD_cons_succ] at this
      exact this
    have e : num k (msk (fun i => p (i + 1)) s) (lay k (msk (fun i => p (i + 1)) s)) t.2.1 t.2.2 = num k s (lay k s) t.2.1 t.2.2 := by
      unfold num
      refine fj_congr k 0 fun i h1 h2 => ?_
      rw [ih1, ih2 _ (by omega)]
    rw [lay_cons, msk_cons, msk_cons]
    by_cases c : p 0 = true
    · rw [if_pos c, if_pos c, lay_cons, e, ih1]
      refine ⟨rfl, fun j hj => ?_⟩
      rw [layer_cons, layer_cons, ih2 j hj]
    · rw [if_neg c, if_neg c]
      have z := h 0 (by rw [List.length_cons]; omega) (by simpa using c)
      rw [lay_cons, List.getD_cons_zero] at z
      refine ⟨ih1, fun j hj => ?_⟩
      rw [layer_cons, if_neg (by omega)]
      exact ih2 j hj
def Rot (f : Int → Int) : List T3 → List T3 → Prop
  | [], [] => True
  | t' :: s', t :: s => ((t'.2.1 = f t.2.1 ∧ t'.2.2 = f t.2.2) ∨ (t'.2.1 = f t.2.2 ∧ t'.2.2 = f t.2.1)) ∧ Rot f s' s
  | _, _ => False
theorem Rot.len {f : Int → Int} : ∀ {s' s : List T3}, Rot f s' s → s'.length = s.length
  | [], [], _ => rfl
  | _ :: _, _ :: _, h => by rw [List.length_cons, List.length_cons, Rot.len h.2]
  | [], _ :: _, h => h.elim
  | _ :: _, [], h => h.elim
theorem Rot.snoc {f : Int → Int} {t' t : T3} (ht : (t'.2.1 = f t.2.1 ∧ t'.2.2 = f t.2.2) ∨ (t'.2.1 = f t.2.2 ∧ t'.2.2 = f t.2.1)) : ∀ {s' s : List T3}, Rot f s' s → Rot f (s' ++ [t']) (s ++ [t])
  | [], [], _ => ⟨ht, trivial⟩
  | _ :: _, _ :: _, h => ⟨h.1, Rot.snoc ht h.2⟩
  | [], _ :: _, h => h.elim
  | _ :: _, [], h => h.elim
theorem Rot.layer {f : Int → Int} (j : Int) : ∀ {s' s : List T3} (ns : List Int), Rot f s' s → Rot f (layer j s' ns) (Lay.layer j s ns)
  | [], [], _, _ => trivial
  | _ :: _, _ :: _, [], _ => trivial
  | t' :: s', t :: s, x :: ns, h => by
    rw [layer_cons, layer_cons]
    have ih := Rot.layer j ns h.2
    split
    · exact ⟨h.1, ih⟩
    · exact ih
  | [], _ :: _, _, h => h.elim
  | _ :: _, [], _, h => h.elim
end K12
end T_K12M
section T_K24M
set_option linter.all false
set_option maxRecDepth 100000
namespace K24
open PySem Sim FamA FamL Lay
noncomputable def KP (k : Nat) (r : List T3) : List T3 := K10.kp r (lay k r)
def pm (ms : List Int) : Nat → Bool := fun i => decide (0 < ms.getD i 0)
theorem msk_pm : ∀ (r : List T3) (ms : List Int), r.length = ms.length → K12.msk (pm ms) r = K10.kp r ms
  | [], [], _ => rfl
  | t :: r, m :: ms, h => by
    have ih := msk_pm r ms (by simpa using h)
    rw [K12.msk_cons, K10.kp_cons]
    have e : (fun i => pm (m :: ms) (i + 1)) = pm ms := rfl
    have e0 : pm (m :: ms) 0 = decide (0 < m) := rfl
    rw [e, ih, e0]
    simp only [decide_eq_true_eq]
theorem pm_pos : ∀ (ns : List Int) (x : Int), x ∈ K12.msk (pm ns) ns → 0 < x
  | m :: ms, x, h => by
    rw [K12.msk_cons] at h
    have e : (fun i => pm (m :: ms) (i + 1)) = pm ms := rfl
    have e0 : pm (m :: ms) 0 = decide (0 < m) := rfl
    rw [e, e0] at h
    by_cases c : 0 < m
    · rw [if_pos (by simpa using c)] at h
      rcases List.mem_cons.mp h with rfl | h
      · exact c
      · exact pm_pos ms x h
    · rw [if_neg (by simpa using c)] at h
      exact pm_pos ms x h
theorem kept_pos (k : Nat) (r : List T3) : ∀ x ∈ lay k (KP k r), 0 < x := by
  have hrange := fun x => lay_range k r x
  have hl := lay_len k r
  have e := (K12.lay_gone k r (pm (lay k r)) fun i hi hp => by
    unfold pm at hp
    rw [decide_eq_false_iff_not] at hp
    have g : i < (lay k r).length := by omega
    rw [List.getD_eq_getElem?_getD, List.getElem?_eq_getElem g] at hp ⊢
    have hp : ¬ 0 < (lay k r)[i] := hp
    have h0 := (hrange _ (List.getElem_mem g)).1
    show (lay k r)[i] = 0
    omega).1
  unfold KP
  rw [← msk_pm r (lay k r) hl.symm, e]
  exact pm_pos _
theorem kp_sub : ∀ (r : List T3) (ns : List Int), (K10.kp r ns).Sublist r
  | [], ns => by unfold K10.kp; simp
  | t :: r, [] => by unfold K10.kp; simp
  | t :: r, n :: ns => by
    rw [K10.kp_cons]
    split
    · exact (kp_sub r ns).cons₂ t
    · exact (kp_sub r ns).cons t
end K24
end T_K24M
section T_K18N
set_option linter.all false
set_option maxRecDepth 100000
set_option maxHeartbeats 4000000
namespace K18.N
open PySem Sim FamA FamL Lay K24
theorem whole_int (z : Int) : f_is_whole [.int z] = .ok (.bool true) := rfl
theorem place_ok (n z : Int) : f_is_place [.int n, .int z] = .ok (.bool (decide (0 ≤ z) && decide (z < n))) := by
  refine fnN_rt ?_
  show g_is_place [.int n, .int z] = _
  unfold g_is_place
  have e : gCallN 1 f_is_whole (gCons (gVar 1) (gNil)) [.int n, .int z] = .ok (.bool true) := callN_ok (ds := [.int z]) rfl rfl (whole_int z)
  simp only [bnd_ok, gVar_def, gC_def, gOp_def, gUn_def, gNil_def, gCons_def, gIf_def, gTest_def, gNot_def, gAnd_def, gOr_def, gAndV_def, gOrV_def, gNotV_def, gCB_def, asB_b, hAdd_i, hSub_i, hLt_i, hLe_i, hGt_i, hGe_i, hMul_r, hMul_l, hMod_i, hDiv_s, hBand_i, hShr_i, hPow_10_18, hPow_10_27, hPow_10_28, hPow_10_29, hPow_10_30, hEq_i, hNe_i, hLen_l, hLen_t, hMin2_i, hMax2_i, hMin3_i, hInt1_b, hInt1_i, hBits_i, hListOf_l, hListOf_t, hTupOf_l, hTupOf_t, gSeqS_def, gSet_def, gRet_def, gIfS_def, gNext_def, gTup_def, gLst_def, List.getElem?_cons_zero, List.getElem?_cons_succ, List.set_cons_zero, List.set_cons_succ, List.length_cons, List.length_nil, Nat.zero_add, Nat.reduceAdd, Nat.reduceLeDiff, Nat.reduceSub, Nat.reduceMul, if_true, if_false, Bool.false_eq_true, List.replicate_succ, List.replicate_zero, List.cons_append, List.nil_append, tgN, tgT, tgCons, tgNil, Int.reducePow, Int.reduceAdd, Int.reduceSub, Int.reduceMul, decide_true, decide_false, Bool.not_true, Bool.not_false, gChain_def, hIsa_int, hIsa_intb, hIsa_list, hIsa_tuple, gDrop_def, e]
  cases decide (0 ≤ z) <;> rfl
theorem moment_int (z : Int) : f_is_moment [.int z] = .ok (.bool (decide (0 ≤ z) && decide (z ≤ 1000000000000000000000000000000))) := by
  refine fnN_rt ?_
  show g_is_moment [.int z] = _
  unfold g_is_moment
  have e : gCallN 1 f_is_whole (gCons (gVar 0) (gNil)) [.int z] = .ok (.bool true) := callN_ok (ds := [.int z]) rfl rfl (whole_int z)
  simp only [bnd_ok, gVar_def, gC_def, gOp_def, gUn_def, gNil_def, gCons_def, gIf_def, gTest_def, gNot_def, gAnd_def, gOr_def, gAndV_def, gOrV_def, gNotV_def, gCB_def, asB_b, hAdd_i, hSub_i, hLt_i, hLe_i, hGt_i, hGe_i, hMul_r, hMul_l, hMod_i, hDiv_s, hBand_i, hShr_i, hPow_10_18, hPow_10_27, hPow_10_28, hPow_10_29, hPow_10_30, hEq_i, hNe_i, hLen_l, hLen_t, hMin2_i, hMax2_i, hMin3_i, hInt1_b, hInt1_i, hBits_i, hListOf_l, hListOf_t, hTupOf_l, hTupOf_t, gSeqS_def, gSet_def, gRet_def, gIfS_def, gNext_def, gTup_def, gLst_def, List.getElem?_cons_zero, List.getElem?_cons_succ, List.set_cons_zero, List.set_cons_succ, List.length_cons, List.length_nil, Nat.zero_add, Nat.reduceAdd, Nat.reduceLeDiff, Nat.reduceSub, Nat.reduceMul, if_true, if_false, Bool.false_eq_true, List.replicate_succ, List.replicate_zero, List.cons_append, List.nil_append, tgN, tgT, tgCons, tgNil, Int.reducePow, Int.reduceAdd, Int.reduceSub, Int.reduceMul, decide_true, decide_false, Bool.not_true, Bool.not_false, gChain_def, hIsa_int, hIsa_intb, hIsa_list, hIsa_tuple, gDrop_def, e]
  cases decide (0 ≤ z) <;> rfl
def tieB (n a b c : Int) : Bool := (decide (0 ≤ a) && decide (a ≤ 1000000000000000000000000000000)) && ((decide (0 ≤ b) && decide (b < n)) && (decide (0 ≤ c) && decide (c < n))) && decide (b ≤ c)
theorem meeting_int (n a b c : Int) : f_is_meeting [.int n, .tuple [.int a, .int b, .int c]] = .ok (.bool ((decide (0 ≤ a) && decide (a ≤ 1000000000000000000000000000000)) && ((decide (0 ≤ b) && decide (b < n)) && (decide (0 ≤ c) && decide (c < n))))) := by
  refine fnN_rt ?_
  show g_is_meeting [.int n, .tuple [.int a, .int b, .int c]] = _
  unfold g_is_meeting
  have e0 : gCallN 1 f_is_moment (gCons (gOp hIx (gVar 1) (gC (.int (0)))) (gNil)) [.int n, .tuple [.int a, .int b, .int c]] = _ := callN_ok (ds := [.int a]) rfl rfl (moment_int a)
  have e1 : gCallN 2 f_is_place (gCons (gVar 0) (gCons (gOp hIx (gVar 1) (gC (.int (1)))) (gNil))) [.int n, .tuple [.int a, .int b, .int c]] = _ := callN_ok (ds := [.int n, .int b]) rfl rfl (place_ok n b)
  have e2 : gCallN 2 f_is_place (gCons (gVar 0) (gCons (gOp hIx (gVar 1) (gC (.int (2)))) (gNil))) [.int n, .tuple [.int a, .int b, .int c]] = _ := callN_ok (ds := [.int n, .int c]) rfl rfl (place_ok n c)
  have e3 : gTest (gUn (hIsa .tuple) (gVar 1)) [.int n, .tuple [.int a, .int b, .int c]] = .ok true := rfl
  have e4 : gTest (gOp hNe (gCB hLen (gCons (gVar 1) (gNil))) (gC (.int (3)))) [.int n, .tuple [.int a, .int b, .int c]] = .ok false := by
    rw [gTest_def, gOp_def]
    show bnd (hNe (.int 3) (.int 3)) asB = _
    rw [hNe_i]
    rfl
  cases hm : (decide (0 ≤ a) && decide (a ≤ 1000000000000000000000000000000)) with
  | false =>
    rw [hm] at e0
    refine seq_rt (Eq.trans (if_t ?_) rfl)
    simp only [gOr_def, gNot_def, e3, e4, gTest_def, e0, bnd_ok, asB_b, Bool.not_true, Bool.not_false, Bool.false_eq_true, if_false, if_true]
  | true =>
    rw [hm] at e0
    refine seq_step (Eq.trans (if_f ?_) rfl) ?_
    · simp only [gOr_def, gNot_def, e3, e4, gTest_def, e0, bnd_ok, asB_b, Bool.not_true, Bool.not_false, Bool.false_eq_true, if_false, if_true]
    · refine ret_ok ?_
      rw [gAndV_def, e1, bnd_ok, asB_b, bnd_ok, e2]
      cases (decide (0 ≤ b) && decide (b < n)) <;> rfl
theorem tie_int (n a b c : Int) : f_is_tie [.int n, .tuple [.int a, .int b, .int c]] = .ok (.bool (tieB n a b c)) := by
  refine fnN_rt ?_
  show g_is_tie [.int n, .tuple [.int a, .int b, .int c]] = _
  unfold g_is_tie
  have e0 : gCallN 2 f_is_meeting (gCons (gVar 0) (gCons (gVar 1) (gNil))) [.int n, .tuple [.int a, .int b, .int c]] = _ := callN_ok (ds := [.int n, .tuple [.int a, .int b, .int c]]) rfl rfl (meeting_int n a b c)
  have e1 : gOp hLe (gOp hIx (gVar 1) (gC (.int (1)))) (gOp hIx (gVar 1) (gC (.int (2)))) [.int n, .tuple [.int a, .int b, .int c]] = .ok (.bool (decide (b ≤ c))) := rfl
  refine ret_ok ?_
  rw [gAndV_def, e0, bnd_ok, asB_b, bnd_ok, e1]
  unfold tieB
  cases (decide (0 ≤ a) && decide (a ≤ 1000000000000000000000000000000)) && ((decide (0 ≤ b) && decide (b < n)) && (decide (0 ≤ c) && decide (c < n))) <;> rfl
theorem all_ties {n : Int} {ds : List Dt} {p : Dt → Bool} (x2 x3 : Dt) (hl : ds.length ≤ 1000) (h : ∀ d ∈ ds, f_is_tie [.int n, d] = .ok (.bool (p d))) :
    gLc (gSeq (gVar 1)) (tgN 2) (gYes) (gCallN 2 f_is_tie (gCons (gVar 0) (gCons (gVar 2) (gNil)))) [.int n, .list ds, x2, x3] = .ok (.list ((ds.map p).map .bool)) := by
  have hq := gLc_map (fun d : Dt => d) (fun _ => true) (fun d => PyData.bool (p d)) (gi := gSeq (gVar 1)) (h := tgN 2) (gt := gYes) (ge := gCallN 2 f_is_tie (gCons (gVar 0) (gCons (gVar 2) (gNil)))) (ρ := [.int n, .list ds, x2, x3]) (xs := ds) (by rw [List.map_id']; rfl) (by omega) fun d hd => ⟨_, rfl, rfl, fun _ => callN_ok (ds := [.int n, d]) rfl rfl (h d hd)⟩
  rw [hq, List.filter_eq_self.mpr (fun _ _ => rfl), List.map_map]
  rfl
def okT (n : Int) (t : T3) : Bool := tieB n t.1 t.2.1 t.2.2
theorem pairs_lc {n : Int} {r : List T3} (x2 x3 : Dt) (hl : r.length ≤ 1000) :
    gLc (gRng2 (gCons (gC (.int (1))) (gCons (gCB hLen (gCons (gVar 1) (gNil))) (gNil)))) (tgN 3) (gYes) (gOp hLt (gOp hIx (gOp hIx (gVar 1) (gOp hSub (gVar 3) (gC (.int (1))))) (gC (.int (0)))) (gOp hIx (gOp hIx (gVar 1) (gVar 3)) (gC (.int (0))))) [.int n, .list (r.map enc3), x2, x3]
      = .ok (.list (((List.range (r.length - 1)).map fun i => decide ((r.getD i (0, 0, 0)).1 < (r.getD (i + 1) (0, 0, 0)).1)).map .bool)) := by
  have at_r : ∀ {i : Nat}, i < r.length → hIx (.list (r.map enc3)) (.int (i : Nat)) = .ok (enc3 (r.getD i (0, 0, 0))) := fun {i} h => by
    refine hIx_l ?_
    have hlt : ((i : Nat) : Int) < (r.length : Int) := by omega
    rw [atI_map enc3 (by omega) hlt, List.getD_eq_getElem?_getD, List.getElem?_eq_getElem h]
    simp only [Int.toNat_natCast]
    rfl
  have ix0 : ∀ t : T3, hIx (enc3 t) (.int 0) = .ok (.int t.1) := fun _ => rfl
  have hq := gLc_map (fun (i : Nat) => PyData.int (1 + (i : Int))) (fun _ => true) (fun (i : Nat) => PyData.bool (decide ((r.getD i (0, 0, 0)).1 < (r.getD (i + 1) (0, 0, 0)).1))) (gi := gRng2 (gCons (gC (.int (1))) (gCons (gCB hLen (gCons (gVar 1) (gNil))) (gNil)))) (h := tgN 3) (gt := gYes)
    (ge := gOp hLt (gOp hIx (gOp hIx (gVar 1) (gOp hSub (gVar 3) (gC (.int (1))))) (gC (.int (0)))) (gOp hIx (gOp hIx (gVar 1) (gVar 3)) (gC (.int (0))))) (ρ := [.int n, .list (r.map enc3), x2, x3]) (xs := List.range (r.length - 1)) ?_ (by rw [List.length_range]; omega) fun i hi => ⟨_, rfl, rfl, fun _ => ?_⟩
  · rw [hq, List.filter_eq_self.mpr (fun _ _ => rfl), List.map_map]
    rfl
  · have e : gCons (gC (.int (1))) (gCons (gCB hLen (gCons (gVar 1) (gNil))) (gNil)) [.int n, .list (r.map enc3), x2, x3] = .ok [.int 1, .int (r.length : Nat)] := by
      simp only [bnd_ok, gVar_def, gC_def, gOp_def, gUn_def, gNil_def, gCons_def, gIf_def, gTest_def, gNot_def, gAnd_def, gOr_def, gAndV_def, gOrV_def, gNotV_def, gCB_def, asB_b, hAdd_i, hSub_i, hLt_i, hLe_i, hGt_i, hGe_i, hMul_r, hMul_l, hMod_i, hDiv_s, hBand_i, hShr_i, hPow_10_18, hPow_10_27, hPow_10_28, hPow_10_29, hPow_10_30, hEq_i, hNe_i, hLen_l, hLen_t, hMin2_i, hMax2_i, hMin3_i, hInt1_b, hInt1_i, hBits_i, hListOf_l, hListOf_t, hTupOf_l, hTupOf_t, gSeqS_def, gSet_def, gRet_def, gIfS_def, gNext_def, gTup_def, gLst_def, List.getElem?_cons_zero, List.getElem?_cons_succ, List.set_cons_zero, List.set_cons_succ, List.length_cons, List.length_nil, Nat.zero_add, Nat.reduceAdd, Nat.reduceLeDiff, Nat.reduceSub, Nat.reduceMul, if_true, if_false, Bool.false_eq_true, List.replicate_succ, List.replicate_zero, List.cons_append, List.nil_append, tgN, tgT, tgCons, tgNil, Int.reducePow, Int.reduceAdd, Int.reduceSub, Int.reduceMul, decide_true, decide_false, Bool.not_true, Bool.not_false, gChain_def, hIsa_int, hIsa_intb, hIsa_list, hIsa_tuple, gDrop_def, List.length_map]
    refine (rng2_ok (by exact e) (by omega) (by omega) (by omega) (by omega)).trans ?_
    unfold rangeD
    have e2 : ((r.length : Int) - 1).toNat = r.length - 1 := by omega
    rw [e2]
  · have hi := List.mem_range.mp hi
    have e1 : (1 + (i : Int)) - 1 = ((i : Nat) : Int) := by omega
    have e2 : (1 + (i : Int)) = ((i + 1 : Nat) : Int) := by omega
    have a1 := at_r (i := i) (by omega)
    have a2 := at_r (i := i + 1) (by omega)
    simp only [bnd_ok, gVar_def, gC_def, gOp_def, gUn_def, gNil_def, gCons_def, gIf_def, gTest_def, gNot_def, gAnd_def, gOr_def, gAndV_def, gOrV_def, gNotV_def, gCB_def, asB_b, hAdd_i, hSub_i, hLt_i, hLe_i, hGt_i, hGe_i, hMul_r, hMul_l, hMod_i, hDiv_s, hBand_i, hShr_i, hPow_10_18, hPow_10_27, hPow_10_28, hPow_10_29, hPow_10_30, hEq_i, hNe_i, hLen_l, hLen_t, hMin2_i, hMax2_i, hMin3_i, hInt1_b, hInt1_i, hBits_i, hListOf_l, hListOf_t, hTupOf_l, hTupOf_t, gSeqS_def, gSet_def, gRet_def, gIfS_def, gNext_def, gTup_def, gLst_def, List.getElem?_cons_zero, List.getElem?_cons_succ, List.set_cons_zero, List.set_cons_succ, List.length_cons, List.length_nil, Nat.zero_add, Nat.reduceAdd, Nat.reduceLeDiff, Nat.reduceSub, Nat.reduceMul, if_true, if_false, Bool.false_eq_true, List.replicate_succ, List.replicate_zero, List.cons_append, List.nil_append, tgN, tgT, tgCons, tgNil, Int.reducePow, Int.reduceAdd, Int.reduceSub, Int.reduceMul, decide_true, decide_false, Bool.not_true, Bool.not_false, gChain_def, hIsa_int, hIsa_intb, hIsa_list, hIsa_tuple, gDrop_def, e1, a1, ix0]
    rw [e2, a2, bnd_ok, ix0]
    rfl
def ordB (r : List T3) : Bool := ((List.range (r.length - 1)).map fun i => decide ((r.getD i (0, 0, 0)).1 < (r.getD (i + 1) (0, 0, 0)).1)).all id
theorem rec_enc {n : Int} {r : List T3} (hl : r.length ≤ 60) : f_is_record [.int n, .list (r.map enc3)] = .ok (.bool (r.all (okT n) && ordB r)) := by
  have hall := all_ties (n := n) (ds := r.map enc3) (p := fun d => match d with | .tuple [.int a, .int b, .int c] => tieB n a b c | _ => false) .none .none (by rw [List.length_map]; omega) (fun d hd => by
    obtain ⟨t, _, rfl⟩ := List.mem_map.mp hd
    exact tie_int n t.1 t.2.1 t.2.2)
  have e0 : ((r.map enc3).map fun d => match d with | .tuple [.int a, .int b, .int c] => tieB n a b c | _ => false) = r.map (okT n) := by rw [List.map_map]; rfl
  rw [e0] at hall
  have hb := hAll_b (r.map (okT n))
  have e1 : (r.map (okT n)).all id = r.all (okT n) := by rw [List.all_map]; rfl
  rw [e1] at hb
  refine fnN_rt ?_
  show g_is_record [.int n, .list (r.map enc3), .none, .none] = _
  unfold g_is_record
  have e : decide ((60 : Int) < (r.length : Int)) = false := by rw [decide_eq_false_iff_not]; omega
  refine seq_step (Eq.trans (if_f (by simp only [bnd_ok, gVar_def, gC_def, gOp_def, gUn_def, gNil_def, gCons_def, gIf_def, gTest_def, gNot_def, gAnd_def, gOr_def, gAndV_def, gOrV_def, gNotV_def, gCB_def, asB_b, hAdd_i, hSub_i, hLt_i, hLe_i, hGt_i, hGe_i, hMul_r, hMul_l, hMod_i, hDiv_s, hBand_i, hShr_i, hPow_10_18, hPow_10_27, hPow_10_28, hPow_10_29, hPow_10_30, hEq_i, hNe_i, hLen_l, hLen_t, hMin2_i, hMax2_i, hMin3_i, hInt1_b, hInt1_i, hBits_i, hListOf_l, hListOf_t, hTupOf_l, hTupOf_t, gSeqS_def, gSet_def, gRet_def, gIfS_def, gNext_def, gTup_def, gLst_def, List.getElem?_cons_zero, List.getElem?_cons_succ, List.set_cons_zero, List.set_cons_succ, List.length_cons, List.length_nil, Nat.zero_add, Nat.reduceAdd, Nat.reduceLeDiff, Nat.reduceSub, Nat.reduceMul, if_true, if_false, Bool.false_eq_true, List.replicate_succ, List.replicate_zero, List.cons_append, List.nil_append, tgN, tgT, tgCons, tgNil, Int.reducePow, Int.reduceAdd, Int.reduceSub, Int.reduceMul, decide_true, decide_false, Bool.not_true, Bool.not_false, gChain_def, hIsa_int, hIsa_intb, hIsa_list, hIsa_tuple, gDrop_def, List.length_map, e])) rfl) ?_
  cases hc : r.all (okT n) with
  | false =>
    rw [hc] at hb
    refine seq_rt (Eq.trans (if_t ?_) rfl)
    simp only [bnd_ok, gVar_def, gC_def, gOp_def, gUn_def, gNil_def, gCons_def, gIf_def, gTest_def, gNot_def, gAnd_def, gOr_def, gAndV_def, gOrV_def, gNotV_def, gCB_def, asB_b, hAdd_i, hSub_i, hLt_i, hLe_i, hGt_i, hGe_i, hMul_r, hMul_l, hMod_i, hDiv_s, hBand_i, hShr_i, hPow_10_18, hPow_10_27, hPow_10_28, hPow_10_29, hPow_10_30, hEq_i, hNe_i, hLen_l, hLen_t, hMin2_i, hMax2_i, hMin3_i, hInt1_b, hInt1_i, hBits_i, hListOf_l, hListOf_t, hTupOf_l, hTupOf_t, gSeqS_def, gSet_def, gRet_def, gIfS_def, gNext_def, gTup_def, gLst_def, List.getElem?_cons_zero, List.getElem?_cons_succ, List.set_cons_zero, List.set_cons_succ, List.length_cons, List.length_nil, Nat.zero_add, Nat.reduceAdd, Nat.reduceLeDiff, Nat.reduceSub, Nat.reduceMul, if_true, if_false, Bool.false_eq_true, List.replicate_succ, List.replicate_zero, List.cons_append, List.nil_append, tgN, tgT, tgCons, tgNil, Int.reducePow, Int.reduceAdd, Int.reduceSub, Int.reduceMul, decide_true, decide_false, Bool.not_true, Bool.not_false, gChain_def, hIsa_int, hIsa_intb, hIsa_list, hIsa_tuple, gDrop_def, hall, hb]
  | true =>
    rw [hc] at hb
    refine seq_step (Eq.trans (if_f ?_) rfl) ?_
    · simp only [bnd_ok, gVar_def, gC_def, gOp_def, gUn_def, gNil_def, gCons_def, gIf_def, gTest_def, gNot_def, gAnd_def, gOr_def, gAndV_def, gOrV_def, gNotV_def, gCB_def, asB_b, hAdd_i, hSub_i, hLt_i, hLe_i, hGt_i, hGe_i, hMul_r, hMul_l, hMod_i, hDiv_s, hBand_i, hShr_i, hPow_10_18, hPow_10_27, hPow_10_28, hPow_10_29, hPow_10_30, hEq_i, hNe_i, hLen_l, hLen_t, hMin2_i, hMax2_i, hMin3_i, hInt1_b, hInt1_i, hBits_i, hListOf_l, hListOf_t, hTupOf_l, hTupOf_t, gSeqS_def, gSet_def, gRet_def, gIfS_def, gNext_def, gTup_def, gLst_def, List.getElem?_cons_zero, List.getElem?_cons_succ, List.set_cons_zero, List.set_cons_succ, List.length_cons, List.length_nil, Nat.zero_add, Nat.reduceAdd, Nat.reduceLeDiff, Nat.reduceSub, Nat.reduceMul, if_true, if_false, Bool.false_eq_true, List.replicate_succ, List.replicate_zero, List.cons_append, List.nil_append, tgN, tgT, tgCons, tgNil, Int.reducePow, Int.reduceAdd, Int.reduceSub, Int.reduceMul, decide_true, decide_false, Bool.not_true, Bool.not_false, gChain_def, hIsa_int, hIsa_intb, hIsa_list, hIsa_tuple, gDrop_def, hall, hb]
    · have hp := pairs_lc (n := n) (r := r) .none .none (by omega)
      have hb2 := hAll_b ((List.range (r.length - 1)).map fun i => decide ((r.getD i (0, 0, 0)).1 < (r.getD (i + 1) (0, 0, 0)).1))
      refine ret_ok ?_
      rw [gCB_def, gCons_def, hp, bnd_ok, gNil_def, bnd_ok, bnd_ok, hb2]
      rfl
theorem ordB_iff (r : List T3) : ordB r = true ↔ ∀ i (h : i + 1 < r.length), r[i].1 < r[i + 1].1 := by
  unfold ordB
  rw [List.all_map, List.all_eq_true]
  constructor
  · intro h i hi
    have := h i (List.mem_range.mpr (by omega))
    simp only [Function.comp, id, decide_eq_true_eq] at this
    rw [List.getD_eq_getElem?_getD, List.getD_eq_getElem?_getD, List.getElem?_eq_getElem (show i < r.length by omega), List.getElem?_eq_getElem hi] at this
    exact this
  · intro h i hi
    have hi := List.mem_range.mp hi
    have := h i (by omega)
    simp only [Function.comp, id, decide_eq_true_eq]
    rw [List.getD_eq_getElem?_getD, List.getD_eq_getElem?_getD, List.getElem?_eq_getElem (show i < r.length by omega), List.getElem?_eq_getElem (show i + 1 < r.length by omega)]
    exact this
structure Good (n : Int) (r : List T3) : Prop where
  len : r.length ≤ 60
  ok : ∀ t ∈ r, okT n t = true
  ord : r.Pairwise fun s t => s.1 < t.1
theorem rec_good {n : Int} {r : List T3} (h : Good n r) : f_is_record [.int n, .list (r.map enc3)] = .ok (.bool true) := by
  rw [rec_enc h.len, List.all_eq_true.mpr h.ok, (ordB_iff r).mpr fun i hi => List.pairwise_iff_getElem.mp h.ord i (i + 1) (by omega) hi (by omega)]
  rfl
theorem ix3_0 (t : T3) : hIx (enc3 t) (.int 0) = .ok (.int t.1) := rfl
theorem ix3_1 (t : T3) : hIx (enc3 t) (.int 1) = .ok (.int t.2.1) := rfl
theorem ix3_2 (t : T3) : hIx (enc3 t) (.int 2) = .ok (.int t.2.2) := rfl
def toL (t : T3) : List Int := [t.1, t.2.1, t.2.2]
theorem toL_inj {s t : T3} (h : toL s = toL t) : s = t := by
  obtain ⟨a, b, c⟩ := s
  obtain ⟨a', b', c'⟩ := t
  unfold toL at h
  simp only [List.cons.injEq] at h
  obtain ⟨rfl, rfl, rfl, _⟩ := h
  rfl
def netD (n : Int) (k : Nat) (r : List T3) : Dt := .tuple [.int n, .int (k : Nat), .list (r.map enc3)]
theorem pure3 : ∀ r : List T3, pureA (r.map enc3) = true
  | [] => rfl
  | t :: r => by
    rw [List.map_cons]
    unfold pureA
    rw [pure3 r]
    rfl
theorem kp_lc {n : Int} {k : Nat} {r : List T3} (hl : r.length ≤ 1000) (x4 x5 : Dt) :
    gPurN (gLc (gZip (gCons (gVar 1) (gCons (gVar 3) (gNil)))) (tgT (tgCons (tgN 4) (tgCons (tgN 5) (tgNil)))) (gTest (gOp hGt (gVar 5) (gC (.int (0))))) (gVar 4)) [.int n, .list (r.map enc3), .int (k : Nat), .list ((lay k r).map .int), x4, x5] = .ok (.list ((KP k r).map enc3)) := by
  have hz : gZip (gCons (gVar 1) (gCons (gVar 3) (gNil))) [.int n, .list (r.map enc3), .int (k : Nat), .list ((lay k r).map .int), x4, x5] = .ok ((r.zip (lay k r)).map fun p => .tuple [enc3 p.1, .int p.2]) := by
    rw [zip_ok (es := r.map enc3) (fs := (lay k r).map .int) (by rfl), zipD_map]
  have hlc := gLc_map (fun (p : T3 × Int) => PyData.tuple [enc3 p.1, .int p.2]) (fun p => decide (0 < p.2)) (fun p => enc3 p.1) (h := tgT (tgCons (tgN 4) (tgCons (tgN 5) (tgNil)))) (gt := gTest (gOp hGt (gVar 5) (gC (.int (0))))) (ge := gVar 4) hz (by rw [List.length_zip]; omega) fun p hp => ⟨_, rfl, rfl, fun _ => rfl⟩
  have e : ((r.zip (lay k r)).filter fun p => decide (0 < p.2)).map (fun p => enc3 p.1) = (KP k r).map enc3 := by
    unfold KP K10.kp
    rw [List.map_map]
    rfl
  rw [e] at hlc
  rw [gPurN_def, hlc, bnd_ok]
  exact if_pos (pure3 _)
theorem count_ok (z m : Int) : f_is_count [.int z, .int m] = .ok (.bool (decide (1 ≤ z) && decide (z ≤ m))) := by
  refine fnN_rt ?_
  show g_is_count [.int z, .int m] = _
  unfold g_is_count
  simp only [bnd_ok, gVar_def, gC_def, gOp_def, gUn_def, gNil_def, gCons_def, gIf_def, gTest_def, gNot_def, gAnd_def, gOr_def, gAndV_def, gOrV_def, gNotV_def, gCB_def, asB_b, hAdd_i, hSub_i, hLt_i, hLe_i, hGt_i, hGe_i, hMul_r, hMul_l, hMod_i, hDiv_s, hBand_i, hShr_i, hPow_10_18, hPow_10_27, hPow_10_28, hPow_10_29, hPow_10_30, hEq_i, hNe_i, hLen_l, hLen_t, hMin2_i, hMax2_i, hMin3_i, hInt1_b, hInt1_i, hBits_i, hListOf_l, hListOf_t, hTupOf_l, hTupOf_t, gSeqS_def, gSet_def, gRet_def, gIfS_def, gNext_def, gTup_def, gLst_def, List.getElem?_cons_zero, List.getElem?_cons_succ, List.set_cons_zero, List.set_cons_succ, List.length_cons, List.length_nil, Nat.zero_add, Nat.reduceAdd, Nat.reduceLeDiff, Nat.reduceSub, Nat.reduceMul, if_true, if_false, Bool.false_eq_true, List.replicate_succ, List.replicate_zero, List.cons_append, List.nil_append, tgN, tgT, tgCons, tgNil, Int.reducePow, Int.reduceAdd, Int.reduceSub, Int.reduceMul, decide_true, decide_false, Bool.not_true, Bool.not_false, gChain_def, hIsa_int, hIsa_intb, hIsa_list, hIsa_tuple, gDrop_def]
  cases decide (1 ≤ z) <;> rfl
theorem is_net_ok {n : Int} {k : Nat} {r : List T3} (hg : Good n r) (hr : InN n r) (n1 : 1 ≤ n) (n10 : n ≤ 10) (k1 : 1 ≤ k) (k6 : k ≤ 6) (hp : ∀ x ∈ lay k r, 0 < x) : f_is_net [netD n k r] = .ok (.bool true) := by
  have hlen := hg.len
  refine fnN_rt ?_
  show g_is_net [netD n k r, .none, .none, .none] = _
  unfold g_is_net
  have t1 : gTest (gUn (hIsa .tuple) (gVar 0)) [netD n k r, .none, .none, .none] = .ok true := rfl
  have t2 : gTest (gOp hNe (gCB hLen (gCons (gVar 0) (gNil))) (gC (.int (3)))) [netD n k r, .none, .none, .none] = .ok false := by
    rw [gTest_def, gOp_def]
    show bnd (hNe (.int 3) (.int 3)) asB = _
    rw [hNe_i]
    rfl
  refine seq_step ((if_f (by simp only [gOr_def, gNot_def, t1, t2, bnd_ok, Bool.not_true, Bool.false_eq_true, if_false])).trans rfl) ?_
  refine seq_step (ρ' := [netD n k r, .int n, .int (k : Nat), .list (r.map enc3)]) (asg_ok (by rfl) (by rfl)) ?_
  have c1 : gCallN 2 f_is_count (gCons (gVar 1) (gCons (gC (.int (10))) (gNil))) [netD n k r, .int n, .int (k : Nat), .list (r.map enc3)] = .ok (.bool true) := by
    refine callN_ok (ds := [.int n, .int 10]) rfl rfl ?_
    rw [count_ok, decide_eq_true n1, decide_eq_true n10]
    rfl
  have c2 : gCallN 2 f_is_count (gCons (gVar 2) (gCons (gC (.int (6))) (gNil))) [netD n k r, .int n, .int (k : Nat), .list (r.map enc3)] = .ok (.bool true) := by
    refine callN_ok (ds := [.int (k : Nat), .int 6]) rfl rfl ?_
    rw [count_ok, decide_eq_true (by omega), decide_eq_true (by omega)]
    rfl
  have c3 : gCallN 2 f_is_record (gCons (gVar 1) (gCons (gVar 3) (gNil))) [netD n k r, .int n, .int (k : Nat), .list (r.map enc3)] = .ok (.bool true) := callN_ok (ds := [.int n, .list (r.map enc3)]) rfl rfl (rec_good hg)
  refine seq_step ((if_f (by simp only [gOr_def, gNot_def, gTest_def, c1, c2, c3, bnd_ok, asB_b, Bool.not_true, Bool.false_eq_true, if_false])).trans rfl) ?_
  refine ret_ok ?_
  have c4 : gCallN 3 f_layered (gCons (gVar 1) (gCons (gVar 3) (gCons (gVar 2) (gNil)))) [netD n k r, .int n, .int (k : Nat), .list (r.map enc3)] = .ok (.list ((lay k r).map .int)) := callN_ok (ds := [.int n, .list (r.map enc3), .int (k : Nat)]) rfl rfl (layered_ok hr (by omega) n1 n10 k1 k6)
  have hz : decide ((0 : Int) ∈ lay k r) = false := decide_eq_false fun z => by have := hp 0 z; omega
  rw [gOp_def, gC_def, c4, bnd_ok, bnd_ok, hNotIn_ints, hz]
  rfl
theorem okT_of {n : Int} {t : T3} (h : TieOk n t) : okT n t = true := by
  unfold okT tieB
  have := h.m0; have := h.a0; have := h.ab; have := h.bn
  have m1 : t.1 < 1000000000000000000000000000000 := h.m1
  rw [decide_eq_true (by omega), decide_eq_true (by omega), decide_eq_true (by omega), decide_eq_true (by omega), decide_eq_true (by omega), decide_eq_true (by omega), decide_eq_true (by omega)]
  rfl
end K18.N
end T_K18N
section T_FamBP
set_option linter.all false
set_option maxRecDepth 100000
set_option maxHeartbeats 4000000
namespace FamB
open PySem Sim FamA FamL
def potD (r c s : Int) : Dt := .list [.int r, .int c, .int s]
def PotOk (m : Int) (p : Dt) : Prop := ∃ r c s : Int, p = potD r c s ∧ 0 ≤ r ∧ 0 ≤ c ∧ c ≤ m ∧ 0 ≤ s ∧ s < 2147483647
theorem PotOk.mono {m m' : Int} {p : Dt} (h : PotOk m p) (hm : m ≤ m') : PotOk m' p := by
  obtain ⟨r, c, s, h1, h2, h3, h4, h5, h6⟩ := h
  exact ⟨r, c, s, h1, h2, h3, by omega, h5, h6⟩
theorem PotOk.arg {m : Int} {p : Dt} (h : PotOk m p) : argK .la p = true := by
  obtain ⟨r, c, s, rfl, _⟩ := h
  rfl
theorem PotOk.argD {m : Int} {p : Dt} (h : PotOk m p) : argD p = true := by
  obtain ⟨r, c, s, rfl, _⟩ := h
  rfl
theorem ixp0 (r c s : Int) : hIx (potD r c s) (.int 0) = .ok (.int r) := rfl
theorem ixp1 (r c s : Int) : hIx (potD r c s) (.int 1) = .ok (.int c) := rfl
theorem ixp2 (r c s : Int) : hIx (potD r c s) (.int 2) = .ok (.int s) := rfl
theorem take_ok {m size : Int} {p : Dt} (hp : PotOk m p) (hm : m < 1099511627776) (hs : 0 < size) (hs2 : size < 1000000000000000000000000000000000) :
    ∃ d p', f_l_take [p, .int size] = .ok (.tuple [.int d, p']) ∧ 0 ≤ d ∧ d < size ∧ PotOk (m + 1) p' := by
  obtain ⟨r, c, s, rfl, r0, c0, cm, s0, s1⟩ := hp
  have hdv := hDiv_s (i := r) hs hs2
  have hmd := hMod_i (i := r) hs
  by_cases h : 0 < r
  · refine ⟨r % size, potD (r / size) c s, fnN_rt ?_, Int.emod_nonneg _ (by omega), Int.emod_lt_of_pos _ hs, _, _, _, rfl, Int.ediv_nonneg r0 (by omega), c0, by omega, s0, s1⟩
    show g_l_take [potD r c s, .int size, .none, .none] = _
    unfold g_l_take
    refine seq_rt ((if_t (by simp only [bnd_ok, gVar_def, gC_def, gOp_def, gUn_def, gNil_def, gCons_def, gIf_def, gTest_def, gNot_def, gAnd_def, gOr_def, gAndV_def, gOrV_def, gNotV_def, gCB_def, asB_b, hAdd_i, hSub_i, hLt_i, hLe_i, hGt_i, hGe_i, hMul_r, hMul_l, hMod_i, hDiv_s, hBand_i, hShr_i, hPow_10_18, hPow_10_27, hPow_10_28, hPow_10_29, hPow_10_30, hEq_i, hNe_i, hLen_l, hLen_t, hMin2_i, hMax2_i, hMin3_i, hInt1_b, hInt1_i, hBits_i, hListOf_l, hListOf_t, hTupOf_l, hTupOf_t, gSeqS_def, gSet_def, gRet_def, gIfS_def, gNext_def, gTup_def, gLst_def, List.getElem?_cons_zero, List.getElem?_cons_succ, List.set_cons_zero, List.set_cons_succ, List.length_cons, List.length_nil, Nat.zero_add, Nat.reduceAdd, Nat.reduceLeDiff, Nat.reduceSub, Nat.reduceMul, if_true, if_false, Bool.false_eq_true, List.replicate_succ, List.replicate_zero, List.cons_append, List.nil_append, tgN, tgT, tgCons, tgNil, Int.reducePow, Int.reduceAdd, Int.reduceSub, Int.reduceMul, decide_true, decide_false, Bool.not_true, Bool.not_false, gChain_def, hIsa_int, hIsa_intb, hIsa_list, hIsa_tuple, gDrop_def, ixp0, h])).trans ?_)
    refine seq_step (set_ok (d := .int (r % size)) (by simp only [bnd_ok, gVar_def, gC_def, gOp_def, gUn_def, gNil_def, gCons_def, gIf_def, gTest_def, gNot_def, gAnd_def, gOr_def, gAndV_def, gOrV_def, gNotV_def, gCB_def, asB_b, hAdd_i, hSub_i, hLt_i, hLe_i, hGt_i, hGe_i, hMul_r, hMul_l, hMod_i, hDiv_s, hBand_i, hShr_i, hPow_10_18, hPow_10_27, hPow_10_28, hPow_10_29, hPow_10_30, hEq_i, hNe_i, hLen_l, hLen_t, hMin2_i, hMax2_i, hMin3_i, hInt1_b, hInt1_i, hBits_i, hListOf_l, hListOf_t, hTupOf_l, hTupOf_t, gSeqS_def, gSet_def, gRet_def, gIfS_def, gNext_def, gTup_def, gLst_def, List.getElem?_cons_zero, List.getElem?_cons_succ, List.set_cons_zero, List.set_cons_succ, List.length_cons, List.length_nil, Nat.zero_add, Nat.reduceAdd, Nat.reduceLeDiff, Nat.reduceSub, Nat.reduceMul, if_true, if_false, Bool.false_eq_true, List.replicate_succ, List.replicate_zero, List.cons_append, List.nil_append, tgN, tgT, tgCons, tgNil, Int.reducePow, Int.reduceAdd, Int.reduceSub, Int.reduceMul, decide_true, decide_false, Bool.not_true, Bool.not_false, gChain_def, hIsa_int, hIsa_intb, hIsa_list, hIsa_tuple, gDrop_def, ixp0, hmd])) ?_
    dsimp only [List.set]
    refine seq_step (setI_ok (ds := [.int r, .int c, .int s]) (d := .int (r / size)) (j := 0) (by simp only [bnd_ok, gVar_def, gC_def, gOp_def, gUn_def, gNil_def, gCons_def, gIf_def, gTest_def, gNot_def, gAnd_def, gOr_def, gAndV_def, gOrV_def, gNotV_def, gCB_def, asB_b, hAdd_i, hSub_i, hLt_i, hLe_i, hGt_i, hGe_i, hMul_r, hMul_l, hMod_i, hDiv_s, hBand_i, hShr_i, hPow_10_18, hPow_10_27, hPow_10_28, hPow_10_29, hPow_10_30, hEq_i, hNe_i, hLen_l, hLen_t, hMin2_i, hMax2_i, hMin3_i, hInt1_b, hInt1_i, hBits_i, hListOf_l, hListOf_t, hTupOf_l, hTupOf_t, gSeqS_def, gSet_def, gRet_def, gIfS_def, gNext_def, gTup_def, gLst_def, List.getElem?_cons_zero, List.getElem?_cons_succ, List.set_cons_zero, List.set_cons_succ, List.length_cons, List.length_nil, Nat.zero_add, Nat.reduceAdd, Nat.reduceLeDiff, Nat.reduceSub, Nat.reduceMul, if_true, if_false, Bool.false_eq_true, List.replicate_succ, List.replicate_zero, List.cons_append, List.nil_append, tgN, tgT, tgCons, tgNil, Int.reducePow, Int.reduceAdd, Int.reduceSub, Int.reduceMul, decide_true, decide_false, Bool.not_true, Bool.not_false, gChain_def, hIsa_int, hIsa_intb, hIsa_list, hIsa_tuple, gDrop_def, ixp0, hdv]) rfl rfl (by omega) (by simp)) ?_
    exact xret_ok (ρ' := [potD (r / size) c s, .int size, .int (r % size), .none]) (d := .int (r % size)) (e := potD (r / size) c s) (by rfl) rfl rfl
  · have e1 : ∀ x : Int, ∃ v : Int, gOp hMod (gOp hAdd (gOp hAdd (gOp hAdd (gOp hIx (gVar 0) (gC (.int (2)))) (gOp hMul (gOp hMul (gC (.int (977))) (gOp hIx (gVar 0) (gC (.int (1))))) (gOp hIx (gVar 0) (gC (.int (1)))))) (gOp hMul (gC (.int (40693))) (gOp hIx (gVar 0) (gC (.int (1)))))) (gC (.int (1)))) (gC (.int (2147483647))) [potD r (c + 1) s, .int size, .none, .none] = .ok (.int v) ∧ 0 ≤ v ∧ v < 2147483647 := fun _ => by
      refine ⟨(s + 977 * (c + 1) * (c + 1) + 40693 * (c + 1) + 1) % 2147483647, by simp (disch := omega) only [bnd_ok, gVar_def, gC_def, gOp_def, gUn_def, gNil_def, gCons_def, gIf_def, gTest_def, gNot_def, gAnd_def, gOr_def, gAndV_def, gOrV_def, gNotV_def, gCB_def, asB_b, hAdd_i, hSub_i, hLt_i, hLe_i, hGt_i, hGe_i, hMul_r, hMul_l, hMod_i, hDiv_s, hBand_i, hShr_i, hPow_10_18, hPow_10_27, hPow_10_28, hPow_10_29, hPow_10_30, hEq_i, hNe_i, hLen_l, hLen_t, hMin2_i, hMax2_i, hMin3_i, hInt1_b, hInt1_i, hBits_i, hListOf_l, hListOf_t, hTupOf_l, hTupOf_t, gSeqS_def, gSet_def, gRet_def, gIfS_def, gNext_def, gTup_def, gLst_def, List.getElem?_cons_zero, List.getElem?_cons_succ, List.set_cons_zero, List.set_cons_succ, List.length_cons, List.length_nil, Nat.zero_add, Nat.reduceAdd, Nat.reduceLeDiff, Nat.reduceSub, Nat.reduceMul, if_true, if_false, Bool.false_eq_true, List.replicate_succ, List.replicate_zero, List.cons_append, List.nil_append, tgN, tgT, tgCons, tgNil, Int.reducePow, Int.reduceAdd, Int.reduceSub, Int.reduceMul, decide_true, decide_false, Bool.not_true, Bool.not_false, gChain_def, hIsa_int, hIsa_intb, hIsa_list, hIsa_tuple, gDrop_def, ixp1, ixp2], by omega, by omega⟩
    obtain ⟨v, e1, v0, v1⟩ := e1 0
    have e2 : ∃ u : Int, gOp hMod (gOp hMul (gOp hMod (gOp hMul (gVar 3) (gVar 3)) (gC (.int (1000000007)))) (gC (.int (48271)))) (gC (.int (998244353))) [potD r (c + 1) s, .int size, .none, .int v] = .ok (.int u) ∧ 0 ≤ u := by
      refine ⟨v * v % 1000000007 * 48271 % 998244353, by simp (disch := omega) only [bnd_ok, gVar_def, gC_def, gOp_def, gUn_def, gNil_def, gCons_def, gIf_def, gTest_def, gNot_def, gAnd_def, gOr_def, gAndV_def, gOrV_def, gNotV_def, gCB_def, asB_b, hAdd_i, hSub_i, hLt_i, hLe_i, hGt_i, hGe_i, hMul_r, hMul_l, hMod_i, hDiv_s, hBand_i, hShr_i, hPow_10_18, hPow_10_27, hPow_10_28, hPow_10_29, hPow_10_30, hEq_i, hNe_i, hLen_l, hLen_t, hMin2_i, hMax2_i, hMin3_i, hInt1_b, hInt1_i, hBits_i, hListOf_l, hListOf_t, hTupOf_l, hTupOf_t, gSeqS_def, gSet_def, gRet_def, gIfS_def, gNext_def, gTup_def, gLst_def, List.getElem?_cons_zero, List.getElem?_cons_succ, List.set_cons_zero, List.set_cons_succ, List.length_cons, List.length_nil, Nat.zero_add, Nat.reduceAdd, Nat.reduceLeDiff, Nat.reduceSub, Nat.reduceMul, if_true, if_false, Bool.false_eq_true, List.replicate_succ, List.replicate_zero, List.cons_append, List.nil_append, tgN, tgT, tgCons, tgNil, Int.reducePow, Int.reduceAdd, Int.reduceSub, Int.reduceMul, decide_true, decide_false, Bool.not_true, Bool.not_false, gChain_def, hIsa_int, hIsa_intb, hIsa_list, hIsa_tuple, gDrop_def], by omega⟩
    obtain ⟨u, e2, u0⟩ := e2
    have hm2 := hMod_i (i := u / 8) hs
    refine ⟨u / 8 % size, potD r (c + 1) s, fnN_rt ?_, Int.emod_nonneg _ (by omega), Int.emod_lt_of_pos _ hs, _, _, _, rfl, r0, by omega, by omega, s0, s1⟩
    show g_l_take [potD r c s, .int size, .none, .none] = _
    unfold g_l_take
    refine seq_step ((if_f (by simp only [bnd_ok, gVar_def, gC_def, gOp_def, gUn_def, gNil_def, gCons_def, gIf_def, gTest_def, gNot_def, gAnd_def, gOr_def, gAndV_def, gOrV_def, gNotV_def, gCB_def, asB_b, hAdd_i, hSub_i, hLt_i, hLe_i, hGt_i, hGe_i, hMul_r, hMul_l, hMod_i, hDiv_s, hBand_i, hShr_i, hPow_10_18, hPow_10_27, hPow_10_28, hPow_10_29, hPow_10_30, hEq_i, hNe_i, hLen_l, hLen_t, hMin2_i, hMax2_i, hMin3_i, hInt1_b, hInt1_i, hBits_i, hListOf_l, hListOf_t, hTupOf_l, hTupOf_t, gSeqS_def, gSet_def, gRet_def, gIfS_def, gNext_def, gTup_def, gLst_def, List.getElem?_cons_zero, List.getElem?_cons_succ, List.set_cons_zero, List.set_cons_succ, List.length_cons, List.length_nil, Nat.zero_add, Nat.reduceAdd, Nat.reduceLeDiff, Nat.reduceSub, Nat.reduceMul, if_true, if_false, Bool.false_eq_true, List.replicate_succ, List.replicate_zero, List.cons_append, List.nil_append, tgN, tgT, tgCons, tgNil, Int.reducePow, Int.reduceAdd, Int.reduceSub, Int.reduceMul, decide_true, decide_false, Bool.not_true, Bool.not_false, gChain_def, hIsa_int, hIsa_intb, hIsa_list, hIsa_tuple, gDrop_def, ixp0, h])).trans rfl) ?_
    refine seq_step (setI_ok (ds := [.int r, .int c, .int s]) (d := .int (c + 1)) (j := 1) (by simp only [bnd_ok, gVar_def, gC_def, gOp_def, gUn_def, gNil_def, gCons_def, gIf_def, gTest_def, gNot_def, gAnd_def, gOr_def, gAndV_def, gOrV_def, gNotV_def, gCB_def, asB_b, hAdd_i, hSub_i, hLt_i, hLe_i, hGt_i, hGe_i, hMul_r, hMul_l, hMod_i, hDiv_s, hBand_i, hShr_i, hPow_10_18, hPow_10_27, hPow_10_28, hPow_10_29, hPow_10_30, hEq_i, hNe_i, hLen_l, hLen_t, hMin2_i, hMax2_i, hMin3_i, hInt1_b, hInt1_i, hBits_i, hListOf_l, hListOf_t, hTupOf_l, hTupOf_t, gSeqS_def, gSet_def, gRet_def, gIfS_def, gNext_def, gTup_def, gLst_def, List.getElem?_cons_zero, List.getElem?_cons_succ, List.set_cons_zero, List.set_cons_succ, List.length_cons, List.length_nil, Nat.zero_add, Nat.reduceAdd, Nat.reduceLeDiff, Nat.reduceSub, Nat.reduceMul, if_true, if_false, Bool.false_eq_true, List.replicate_succ, List.replicate_zero, List.cons_append, List.nil_append, tgN, tgT, tgCons, tgNil, Int.reducePow, Int.reduceAdd, Int.reduceSub, Int.reduceMul, decide_true, decide_false, Bool.not_true, Bool.not_false, gChain_def, hIsa_int, hIsa_intb, hIsa_list, hIsa_tuple, gDrop_def, ixp1]) rfl rfl (by omega) (by simp)) ?_
    show gSeqS _ _ [potD r (c + 1) s, .int size, .none, .none] = _
    refine seq_step (set_ok e1) ?_
    dsimp only [List.set]
    refine seq_step (set_ok e2) ?_
    dsimp only [List.set]
    exact xret_ok (ρ' := [potD r (c + 1) s, .int size, .none, .int u]) (d := .int (u / 8 % size)) (e := potD r (c + 1) s) (by rw [xP_def]; simp (disch := omega) only [bnd_ok, gVar_def, gC_def, gOp_def, gUn_def, gNil_def, gCons_def, gIf_def, gTest_def, gNot_def, gAnd_def, gOr_def, gAndV_def, gOrV_def, gNotV_def, gCB_def, asB_b, hAdd_i, hSub_i, hLt_i, hLe_i, hGt_i, hGe_i, hMul_r, hMul_l, hMod_i, hDiv_s, hBand_i, hShr_i, hPow_10_18, hPow_10_27, hPow_10_28, hPow_10_29, hPow_10_30, hEq_i, hNe_i, hLen_l, hLen_t, hMin2_i, hMax2_i, hMin3_i, hInt1_b, hInt1_i, hBits_i, hListOf_l, hListOf_t, hTupOf_l, hTupOf_t, gSeqS_def, gSet_def, gRet_def, gIfS_def, gNext_def, gTup_def, gLst_def, List.getElem?_cons_zero, List.getElem?_cons_succ, List.set_cons_zero, List.set_cons_succ, List.length_cons, List.length_nil, Nat.zero_add, Nat.reduceAdd, Nat.reduceLeDiff, Nat.reduceSub, Nat.reduceMul, if_true, if_false, Bool.false_eq_true, List.replicate_succ, List.replicate_zero, List.cons_append, List.nil_append, tgN, tgT, tgCons, tgNil, Int.reducePow, Int.reduceAdd, Int.reduceSub, Int.reduceMul, decide_true, decide_false, Bool.not_true, Bool.not_false, gChain_def, hIsa_int, hIsa_intb, hIsa_list, hIsa_tuple, gDrop_def, hm2]) rfl rfl
theorem tk_ok {m size : Int} {p : Dt} {i : Nat} {gA : List Dt → O (List Dt × List Dt)} {ρ ρ' : List Dt} (h1 : gA ρ = .ok ([.int size], ρ')) (h3 : ρ'[i]? = some p) (hp : PotOk m p) (hm : m < 1099511627776) (hs : 0 < size) (hs2 : size < 1000000000000000000000000000000000) :
    ∃ d p', xCallM .la 2 f_l_take i gA ρ = .ok (.int d, ρ'.set i p') ∧ 0 ≤ d ∧ d < size ∧ PotOk (m + 1) p' := by
  obtain ⟨d, p', h, d0, d1, hp'⟩ := take_ok hp hm hs hs2
  exact ⟨d, p', xcallM_ok h1 rfl h3 hp.arg h hp'.arg, d0, d1, hp'⟩
theorem wide_ok {m size : Int} {p : Dt} (hp : PotOk m p) (hm : m < 1099511627700) (hs : 0 < size) (hs2 : size < 1000000000000000000000000000000000) :
    ∃ d p', f_l_wide [p, .int size] = .ok (.tuple [.int d, p']) ∧ 0 ≤ d ∧ d < size ∧ PotOk (m + 5) p' := by
  obtain ⟨r, c, s, hpe, _⟩ := id hp
  have h6 : hPow (.int 10) (.int 6) = .ok (.int 1000000) := by
    show (if cPow 10 6 then O.ok (PyData.int ((10 : Int) ^ (6 : Int).toNat)) else .bad) = _
    rw [if_pos (by decide)]
    rfl
  have ht : ∃ b, gOr (gTest (gOp hGt (gOp hIx (gVar 0) (gC (.int (0)))) (gC (.int (0))))) (gTest (gOp hLt (gVar 1) (gOp hPow (gC (.int (10))) (gC (.int (6)))))) [p, .int size, .none, .none] = .ok b := by
    subst hpe
    rw [gOr_def]
    by_cases h : 0 < r
    · exact ⟨true, by simp only [bnd_ok, gVar_def, gC_def, gOp_def, gUn_def, gNil_def, gCons_def, gIf_def, gTest_def, gNot_def, gAnd_def, gOr_def, gAndV_def, gOrV_def, gNotV_def, gCB_def, asB_b, hAdd_i, hSub_i, hLt_i, hLe_i, hGt_i, hGe_i, hMul_r, hMul_l, hMod_i, hDiv_s, hBand_i, hShr_i, hPow_10_18, hPow_10_27, hPow_10_28, hPow_10_29, hPow_10_30, hEq_i, hNe_i, hLen_l, hLen_t, hMin2_i, hMax2_i, hMin3_i, hInt1_b, hInt1_i, hBits_i, hListOf_l, hListOf_t, hTupOf_l, hTupOf_t, gSeqS_def, gSet_def, gRet_def, gIfS_def, gNext_def, gTup_def, gLst_def, List.getElem?_cons_zero, List.getElem?_cons_succ, List.set_cons_zero, List.set_cons_succ, List.length_cons, List.length_nil, Nat.zero_add, Nat.reduceAdd, Nat.reduceLeDiff, Nat.reduceSub, Nat.reduceMul, if_true, if_false, Bool.false_eq_true, List.replicate_succ, List.replicate_zero, List.cons_append, List.nil_append, tgN, tgT, tgCons, tgNil, Int.reducePow, Int.reduceAdd, Int.reduceSub, Int.reduceMul, decide_true, decide_false, Bool.not_true, Bool.not_false, gChain_def, hIsa_int, hIsa_intb, hIsa_list, hIsa_tuple, gDrop_def, ixp0, h]⟩
    · exact ⟨decide (size < 1000000), by simp only [bnd_ok, gVar_def, gC_def, gOp_def, gUn_def, gNil_def, gCons_def, gIf_def, gTest_def, gNot_def, gAnd_def, gOr_def, gAndV_def, gOrV_def, gNotV_def, gCB_def, asB_b, hAdd_i, hSub_i, hLt_i, hLe_i, hGt_i, hGe_i, hMul_r, hMul_l, hMod_i, hDiv_s, hBand_i, hShr_i, hPow_10_18, hPow_10_27, hPow_10_28, hPow_10_29, hPow_10_30, hEq_i, hNe_i, hLen_l, hLen_t, hMin2_i, hMax2_i, hMin3_i, hInt1_b, hInt1_i, hBits_i, hListOf_l, hListOf_t, hTupOf_l, hTupOf_t, gSeqS_def, gSet_def, gRet_def, gIfS_def, gNext_def, gTup_def, gLst_def, List.getElem?_cons_zero, List.getElem?_cons_succ, List.set_cons_zero, List.set_cons_succ, List.length_cons, List.length_nil, Nat.zero_add, Nat.reduceAdd, Nat.reduceLeDiff, Nat.reduceSub, Nat.reduceMul, if_true, if_false, Bool.false_eq_true, List.replicate_succ, List.replicate_zero, List.cons_append, List.nil_append, tgN, tgT, tgCons, tgNil, Int.reducePow, Int.reduceAdd, Int.reduceSub, Int.reduceMul, decide_true, decide_false, Bool.not_true, Bool.not_false, gChain_def, hIsa_int, hIsa_intb, hIsa_list, hIsa_tuple, gDrop_def, ixp0, h, h6]⟩
  obtain ⟨b, ht⟩ := ht
  cases b with
  | true =>
    obtain ⟨d, p', h, d0, d1, hp'⟩ := tk_ok (i := 0) (gA := xCons (xP (gVar 1)) xNil) (ρ := [p, .int size, .none, .none]) (ρ' := [p, .int size, .none, .none]) rfl rfl hp (by omega) hs hs2
    refine ⟨d, p', fnN_rt ?_, d0, d1, hp'.mono (by omega)⟩
    show g_l_wide [p, .int size, .none, .none] = _
    unfold g_l_wide
    exact seq_rt ((if_t ht).trans (xret_ok h rfl hp'.argD))
  | false =>
    obtain ⟨ρ', hf, x, p', x3, rfl, hp'⟩ := forE_ix (fun (j : Nat) => PyData.int (0 + (j : Int))) (h := tgN 3) (b := g_l_wide_L1) (List.range 5)
      (fun i ρ => ∃ (x : Int) (p' x3 : Dt), ρ = [p', .int size, .int x, x3] ∧ PotOk (m + i) p') (ρ := [p, .int size, .int 0, .none]) ⟨0, p, .none, rfl, hp.mono (by omega)⟩ (by
        rintro i ρ hi ⟨x, p', x3, rfl, hp'⟩
        rw [List.length_range] at hi
        obtain ⟨d, p'', h, d0, d1, hp''⟩ := tk_ok (i := 0) (gA := xCons (xP (gC (.int (1000003)))) xNil) (ρ := [p', .int size, .int x, .int (0 + ((List.range 5)[i] : Nat))]) rfl rfl hp' (by omega) (by omega : (0 : Int) < 1000003) (by omega)
        refine ⟨[p', .int size, .int x, .int (0 + ((List.range 5)[i] : Nat))], _, rfl, .inl ?_, x * 1000003 + d, p'', .int (0 + ((List.range 5)[i] : Nat)), rfl, hp''.mono (by omega)⟩
        unfold g_l_wide_L1
        refine xset_ok (ρ' := [p'', .int size, .int x, .int (0 + ((List.range 5)[i] : Nat))]) (d := .int (x * 1000003 + d)) ?_
        rw [xOp_def, xP_def]
        have e : gOp hMul (gVar 2) (gC (.int (1000003))) [p', .int size, .int x, .int (0 + ((List.range 5)[i] : Nat))] = .ok (.int (x * 1000003)) := by simp (disch := omega) only [bnd_ok, gVar_def, gC_def, gOp_def, gUn_def, gNil_def, gCons_def, gIf_def, gTest_def, gNot_def, gAnd_def, gOr_def, gAndV_def, gOrV_def, gNotV_def, gCB_def, asB_b, hAdd_i, hSub_i, hLt_i, hLe_i, hGt_i, hGe_i, hMul_r, hMul_l, hMod_i, hDiv_s, hBand_i, hShr_i, hPow_10_18, hPow_10_27, hPow_10_28, hPow_10_29, hPow_10_30, hEq_i, hNe_i, hLen_l, hLen_t, hMin2_i, hMax2_i, hMin3_i, hInt1_b, hInt1_i, hBits_i, hListOf_l, hListOf_t, hTupOf_l, hTupOf_t, gSeqS_def, gSet_def, gRet_def, gIfS_def, gNext_def, gTup_def, gLst_def, List.getElem?_cons_zero, List.getElem?_cons_succ, List.set_cons_zero, List.set_cons_succ, List.length_cons, List.length_nil, Nat.zero_add, Nat.reduceAdd, Nat.reduceLeDiff, Nat.reduceSub, Nat.reduceMul, if_true, if_false, Bool.false_eq_true, List.replicate_succ, List.replicate_zero, List.cons_append, List.nil_append, tgN, tgT, tgCons, tgNil, Int.reducePow, Int.reduceAdd, Int.reduceSub, Int.reduceMul, decide_true, decide_false, Bool.not_true, Bool.not_false, gChain_def, hIsa_int, hIsa_intb, hIsa_list, hIsa_tuple, gDrop_def]
        rw [e, bnd_ok, bnd_ok, h]
        rfl)
    rw [List.length_range] at hp'
    have hm2 := hMod_i (i := x) hs
    refine ⟨x % size, p', fnN_rt ?_, Int.emod_nonneg _ (by omega), Int.emod_lt_of_pos _ hs, hp'⟩
    show g_l_wide [p, .int size, .none, .none] = _
    unfold g_l_wide
    refine seq_step ((if_f ht).trans rfl) ?_
    refine seq_step (set_ok (d := .int 0) rfl) ?_
    dsimp only [List.set]
    refine seq_step (for_ok (ds := (List.range 5).map fun (j : Nat) => PyData.int (0 + (j : Int))) ?_ hf) ?_
    · rw [rng1_ok (j := 5) (by rfl) (by omega) (by omega)]
      rfl
    · exact xret_ok (d := .int (x % size)) (ρ' := [p', .int size, .int x, x3]) (by rw [xP_def]; simp (disch := omega) only [bnd_ok, gVar_def, gC_def, gOp_def, gUn_def, gNil_def, gCons_def, gIf_def, gTest_def, gNot_def, gAnd_def, gOr_def, gAndV_def, gOrV_def, gNotV_def, gCB_def, asB_b, hAdd_i, hSub_i, hLt_i, hLe_i, hGt_i, hGe_i, hMul_r, hMul_l, hMod_i, hDiv_s, hBand_i, hShr_i, hPow_10_18, hPow_10_27, hPow_10_28, hPow_10_29, hPow_10_30, hEq_i, hNe_i, hLen_l, hLen_t, hMin2_i, hMax2_i, hMin3_i, hInt1_b, hInt1_i, hBits_i, hListOf_l, hListOf_t, hTupOf_l, hTupOf_t, gSeqS_def, gSet_def, gRet_def, gIfS_def, gNext_def, gTup_def, gLst_def, List.getElem?_cons_zero, List.getElem?_cons_succ, List.set_cons_zero, List.set_cons_succ, List.length_cons, List.length_nil, Nat.zero_add, Nat.reduceAdd, Nat.reduceLeDiff, Nat.reduceSub, Nat.reduceMul, if_true, if_false, Bool.false_eq_true, List.replicate_succ, List.replicate_zero, List.cons_append, List.nil_append, tgN, tgT, tgCons, tgNil, Int.reducePow, Int.reduceAdd, Int.reduceSub, Int.reduceMul, decide_true, decide_false, Bool.not_true, Bool.not_false, gChain_def, hIsa_int, hIsa_intb, hIsa_list, hIsa_tuple, gDrop_def, hm2]) rfl hp'.argD
theorem ix_list {xs : List Int} {i lo hi : Int} (h0 : 0 ≤ i) (h1 : i < xs.length) (hx : ∀ x ∈ xs, lo ≤ x ∧ x ≤ hi) : ∃ x, hIx (.list (xs.map .int)) (.int i) = .ok (.int x) ∧ lo ≤ x ∧ x ≤ hi :=
  ⟨_, hIx_ints h0 h1, hx _ (List.getElem_mem _)⟩
theorem places_ok {m : Int} {p : Dt} (hp : PotOk m p) (hm : m < 1099511627700) : ∃ n p', f_l_places [p] = .ok (.tuple [.int n, p']) ∧ 1 ≤ n ∧ n ≤ 10 ∧ PotOk (m + 2) p' := by
  obtain ⟨d, p1, h, d0, d1, hp1⟩ := tk_ok (i := 0) (gA := xCons (xP (gC (.int (8)))) xNil) (ρ := [p]) rfl rfl hp (by omega) (by omega : (0 : Int) < 8) (by omega)
  obtain ⟨x, hx, x0, x1⟩ := ix_list (xs := [6, 5, 6, 4, 6, 3, 5, 10]) (lo := 3) (hi := 10) d0 d1 (by decide)
  obtain ⟨e, p2, h2, e0, e1, hp2⟩ := tk_ok (i := 0) (gA := xCons (xOp hIx (xP (gLst (gCons (gC (.int (6))) (gCons (gC (.int (5))) (gCons (gC (.int (6))) (gCons (gC (.int (4))) (gCons (gC (.int (6))) (gCons (gC (.int (3))) (gCons (gC (.int (5))) (gCons (gC (.int (10))) (gNil))))))))))) (xCallM .la 2 f_l_take 0 (xCons (xP (gC (.int (8)))) (xNil)))) (xNil)) (ρ := [p]) (ρ' := [p1]) (size := x) (by
    rw [xCons_def, xOp_def]
    have e : xP (gLst (gCons (gC (.int (6))) (gCons (gC (.int (5))) (gCons (gC (.int (6))) (gCons (gC (.int (4))) (gCons (gC (.int (6))) (gCons (gC (.int (3))) (gCons (gC (.int (5))) (gCons (gC (.int (10))) (gNil)))))))))) [p] = .ok (.list ([6, 5, 6, 4, 6, 3, 5, 10].map .int), [p]) := rfl
    rw [e, bnd_ok, h, bnd_ok, hx]
    rfl) rfl hp1 (by omega) (by omega) (by omega)
  refine ⟨1 + e, p2, fnN_rt ?_, by omega, by omega, hp2.mono (by omega)⟩
  show g_l_places [p] = _
  unfold g_l_places
  refine xret_ok (d := .int (1 + e)) (ρ' := [p2]) ?_ rfl hp2.argD
  rw [xOp_def, xP_def, gC_def, bnd_ok, bnd_ok, h2]
  rfl
theorem depth_ok {m : Int} {p : Dt} (hp : PotOk m p) (hm : m < 1099511627700) : ∃ (k : Nat) (p' : Dt), f_l_depth [p] = .ok (.tuple [.int (k : Nat), p']) ∧ 1 ≤ k ∧ k ≤ 6 ∧ PotOk (m + 2) p' := by
  obtain ⟨d, p1, h, d0, d1, hp1⟩ := tk_ok (i := 0) (gA := xCons (xP (gC (.int (4)))) xNil) (ρ := [p]) rfl rfl hp (by omega) (by omega : (0 : Int) < 4) (by omega)
  obtain ⟨x, hx, x0, x1⟩ := ix_list (xs := [3, 4, 2, 6]) (lo := 2) (hi := 6) d0 d1 (by decide)
  obtain ⟨e, p2, h2, e0, e1, hp2⟩ := tk_ok (i := 0) (gA := xCons (xOp hIx (xP (gLst (gCons (gC (.int (3))) (gCons (gC (.int (4))) (gCons (gC (.int (2))) (gCons (gC (.int (6))) (gNil))))))) (xCallM .la 2 f_l_take 0 (xCons (xP (gC (.int (4)))) (xNil)))) (xNil)) (ρ := [p]) (ρ' := [p1]) (size := x) (by
    rw [xCons_def, xOp_def]
    have e : xP (gLst (gCons (gC (.int (3))) (gCons (gC (.int (4))) (gCons (gC (.int (2))) (gCons (gC (.int (6))) (gNil)))))) [p] = .ok (.list ([3, 4, 2, 6].map .int), [p]) := rfl
    rw [e, bnd_ok, h, bnd_ok, hx]
    rfl) rfl hp1 (by omega) (by omega) (by omega)
  refine ⟨(1 + e).toNat, p2, ?_, by omega, by omega, hp2.mono (by omega)⟩
  rw [show (((1 + e).toNat : Nat) : Int) = 1 + e by omega]
  refine fnN_rt ?_
  show g_l_depth [p] = _
  unfold g_l_depth
  refine xret_ok (d := .int (1 + e)) (ρ' := [p2]) ?_ rfl hp2.argD
  rw [xOp_def, xP_def, gC_def, bnd_ok, bnd_ok, h2]
  rfl
theorem most_ok {m : Int} {p : Dt} (hp : PotOk m p) (hm : m < 1099511627700) : ∃ x p', f_l_most [p] = .ok (.tuple [.int x, p']) ∧ 4 ≤ x ∧ x ≤ 40 ∧ PotOk (m + 1) p' := by
  obtain ⟨d, p1, h, d0, d1, hp1⟩ := tk_ok (i := 0) (gA := xCons (xP (gC (.int (8)))) xNil) (ρ := [p]) rfl rfl hp (by omega) (by omega : (0 : Int) < 8) (by omega)
  obtain ⟨x, hx, x0, x1⟩ := ix_list (xs := [4, 8, 12, 6, 10, 12, 16, 40]) (lo := 4) (hi := 40) d0 d1 (by decide)
  refine ⟨x, p1, fnN_rt ?_, x0, x1, hp1⟩
  show g_l_most [p] = _
  unfold g_l_most
  refine xret_ok (d := .int x) (ρ' := [p1]) ?_ rfl hp1.argD
  rw [xOp_def]
  have e : xP (gLst (gCons (gC (.int (4))) (gCons (gC (.int (8))) (gCons (gC (.int (12))) (gCons (gC (.int (6))) (gCons (gC (.int (10))) (gCons (gC (.int (12))) (gCons (gC (.int (16))) (gCons (gC (.int (40))) (gNil)))))))))) [p] = .ok (.list ([4, 8, 12, 6, 10, 12, 16, 40].map .int), [p]) := rfl
  rw [e, bnd_ok, h, bnd_ok, hx]
  rfl
theorem enc_canLay : ∀ r : List T3, PyData.canLayAll0 (r.map enc3) = true
  | [] => rfl
  | t :: r => by
    rw [List.map_cons]
    unfold PyData.canLayAll0
    rw [enc_canLay r]
    rfl
theorem enc_depth : ∀ r : List T3, PyData.depthAll (r.map enc3) ≤ 1
  | [] => by simp [PyData.depthAll]
  | t :: r => by
    rw [List.map_cons]
    unfold PyData.depthAll
    have := enc_depth r
    have e : (enc3 t).depth = 1 := rfl
    rw [e]
    omega
theorem enc_shaped (r : List T3) : SeqAt.shaped (.list (r.map enc3)) = true := by
  have := enc_depth r
  simp [SeqAt.shaped, PyData.canLay0, PyData.depth, enc_canLay]
  omega
theorem hNe_nil (r : List T3) : hNe (.list (r.map enc3)) (.list []) = .ok (.bool (!r.isEmpty)) := by
  have e := enc_shaped []
  rw [List.map_nil] at e
  unfold hNe
  rw [enc_shaped, e]
  cases r with
  | nil => simp [PyData.eqv, PyData.eqvAll]
  | cons t r => simp [PyData.eqv, PyData.eqvAll]
theorem ends_ok {m n : Int} {p : Dt} {r : List T3} (hp : PotOk m p) (hm : m < 1099511627700) (n1 : 1 ≤ n) (n10 : n ≤ 1000) (hr : InN n r) (hl : r.length ≤ 1000) :
    ∃ a b p', f_l_ends [p, .int n, .list (r.map enc3)] = .ok (.tuple [.tuple [.int a, .int b], p']) ∧ 0 ≤ a ∧ a ≤ b ∧ b < n ∧ PotOk (m + 4) p' := by
  obtain ⟨a, p1, h1, a0, a1, hp1⟩ := tk_ok (i := 0) (gA := xCons (xP (gVar 1)) xNil) (ρ := [p, .int n, .list (r.map enc3), .none, .none, .none]) rfl rfl hp (by omega) (by omega : 0 < n) (by omega)
  obtain ⟨b, p2, h2, b0, b1, hp2⟩ := tk_ok (i := 0) (gA := xCons (xP (gVar 1)) xNil) (ρ := [p1, .int n, .list (r.map enc3), .int a, .none, .none]) rfl rfl hp1 (by omega) (by omega : 0 < n) (by omega)
  have fin : ∀ (a b : Int) (p' x5 : Dt), 0 ≤ a → a < n → 0 ≤ b → b < n → PotOk (m + 4) p' → ∃ a' b', xRetM (xP (gTup (gCons (gCB hMin2 (gCons (gVar 3) (gCons (gVar 4) (gNil)))) (gCons (gCB hMax2 (gCons (gVar 3) (gCons (gVar 4) (gNil)))) (gNil))))) [p', .int n, .list (r.map enc3), .int a, .int b, x5] = .ok (.rt (.tuple [.tuple [.int a', .int b'], p'])) ∧ 0 ≤ a' ∧ a' ≤ b' ∧ b' < n := fun a b p' x5 a0 a1 b0 b1 hp' => by
    refine ⟨if b < a then b else a, if b > a then b else a, xret_ok (ρ' := [p', .int n, .list (r.map enc3), .int a, .int b, x5]) (d := .tuple [.int (if b < a then b else a), .int (if b > a then b else a)]) (by rw [xP_def]; simp only [bnd_ok, gVar_def, gC_def, gOp_def, gUn_def, gNil_def, gCons_def, gIf_def, gTest_def, gNot_def, gAnd_def, gOr_def, gAndV_def, gOrV_def, gNotV_def, gCB_def, asB_b, hAdd_i, hSub_i, hLt_i, hLe_i, hGt_i, hGe_i, hMul_r, hMul_l, hMod_i, hDiv_s, hBand_i, hShr_i, hPow_10_18, hPow_10_27, hPow_10_28, hPow_10_29, hPow_10_30, hEq_i, hNe_i, hLen_l, hLen_t, hMin2_i, hMax2_i, hMin3_i, hInt1_b, hInt1_i, hBits_i, hListOf_l, hListOf_t, hTupOf_l, hTupOf_t, gSeqS_def, gSet_def, gRet_def, gIfS_def, gNext_def, gTup_def, gLst_def, List.getElem?_cons_zero, List.getElem?_cons_succ, List.set_cons_zero, List.set_cons_succ, List.length_cons, List.length_nil, Nat.zero_add, Nat.reduceAdd, Nat.reduceLeDiff, Nat.reduceSub, Nat.reduceMul, if_true, if_false, Bool.false_eq_true, List.replicate_succ, List.replicate_zero, List.cons_append, List.nil_append, tgN, tgT, tgCons, tgNil, Int.reducePow, Int.reduceAdd, Int.reduceSub, Int.reduceMul, decide_true, decide_false, Bool.not_true, Bool.not_false, gChain_def, hIsa_int, hIsa_intb, hIsa_list, hIsa_tuple, gDrop_def]) rfl hp'.argD, ?_, ?_, ?_⟩
    · split <;> omega
    · split <;> split <;> omega
    · split <;> omega
  have hpre : ∀ z, gSeqS (xSet 3 (xCallM .la 2 f_l_take 0 (xCons (xP (gVar 1)) (xNil)))) (gSeqS (xSet 4 (xCallM .la 2 f_l_take 0 (xCons (xP (gVar 1)) (xNil)))) z) [p, .int n, .list (r.map enc3), .none, .none, .none] = z [p2, .int n, .list (r.map enc3), .int a, .int b, .none] := fun z =>
    seq_step (xset_ok h1) (seq_step (xset_ok h2) rfl)
  suffices hmid : ∃ (a' b' : Int) (p' x5 : Dt), xIfS (xAnd (xPT (gTest (gOp hNe (gVar 2) (gLst (gNil))))) (xTest (xOp hEq (xCallM .la 2 f_l_take 0 (xCons (xP (gC (.int (4)))) (xNil))) (xP (gC (.int (0))))))) (xAsg (xOp hIx (xP (gVar 2)) (xCallM .la 2 f_l_take 0 (xCons (xP (gCB hLen (gCons (gVar 2) (gNil)))) (xNil)))) (tgT (tgCons (tgN 5) (tgCons (tgN 3) (tgCons (tgN 4) (tgNil)))))) (gNext) [p2, .int n, .list (r.map enc3), .int a, .int b, .none]
      = .ok (.nx [p', .int n, .list (r.map enc3), .int a', .int b', x5]) ∧ 0 ≤ a' ∧ a' < n ∧ 0 ≤ b' ∧ b' < n ∧ PotOk (m + 4) p' by
    obtain ⟨a', b', p', x5, hm', q0, q1, q2, q3, hp'⟩ := hmid
    obtain ⟨a2, b2, hf, w0, w1, w2⟩ := fin a' b' p' x5 q0 q1 q2 q3 hp'
    refine ⟨a2, b2, p', fnN_rt ?_, w0, w1, w2, hp'⟩
    show g_l_ends [p, .int n, .list (r.map enc3), .none, .none, .none] = _
    unfold g_l_ends
    rw [hpre]
    exact seq_step hm' hf
  have hne := hNe_nil r
  have hL : ∀ ρ, gLst gNil ρ = .ok (.list []) := fun ρ => by rw [gLst_def, gNil_def, bnd_ok, if_pos (by simp)]
  have ht : ∀ z, (!r.isEmpty) = z → xPT (gTest (gOp hNe (gVar 2) (gLst (gNil)))) [p2, .int n, .list (r.map enc3), .int a, .int b, .none] = .ok (z, [p2, .int n, .list (r.map enc3), .int a, .int b, .none]) := fun z e => by
    rw [xPT_def, gTest_def, gOp_def, hL]
    simp only [gVar_def, List.getElem?_cons_zero, List.getElem?_cons_succ, bnd_ok, hne, asB_b, e]
  by_cases c : r = []
  · refine ⟨a, b, p2, .none, (xIf_f ?_).trans rfl, a0, a1, b0, b1, hp2.mono (by omega)⟩
    rw [xAnd_def, ht false (by rw [c]; rfl)]
    rfl
  · have hpos : 0 < r.length := List.length_pos_iff.mpr c
    obtain ⟨d, p3, h3, d0, d1, hp3⟩ := tk_ok (i := 0) (gA := xCons (xP (gC (.int (4)))) xNil) (ρ := [p2, .int n, .list (r.map enc3), .int a, .int b, .none]) rfl rfl hp2 (by omega) (by omega : (0 : Int) < 4) (by omega)
    have h3 : xCallM .la 2 f_l_take 0 (xCons (xP (gC (.int (4)))) xNil) [p2, .int n, .list (r.map enc3), .int a, .int b, .none] = .ok (.int d, [p3, .int n, .list (r.map enc3), .int a, .int b, .none]) := h3
    have htest : xAnd (xPT (gTest (gOp hNe (gVar 2) (gLst (gNil))))) (xTest (xOp hEq (xCallM .la 2 f_l_take 0 (xCons (xP (gC (.int (4)))) (xNil))) (xP (gC (.int (0)))))) [p2, .int n, .list (r.map enc3), .int a, .int b, .none] = .ok (d == 0, [p3, .int n, .list (r.map enc3), .int a, .int b, .none]) := by
      rw [xAnd_def, ht true (by cases r with | nil => exact absurd rfl c | cons => rfl)]
      show xTest _ _ = _
      rw [xTest_def, xOp_def, h3]
      simp only [bnd_ok, xP_def, gC_def, hEq_i, asB_b]
    cases e : (d == 0) with
    | false =>
      rw [e] at htest
      exact ⟨a, b, p3, .none, (xIf_f htest).trans rfl, a0, a1, b0, b1, hp3.mono (by omega)⟩
    | true =>
      rw [e] at htest
      obtain ⟨j, p4, h4, j0, j1, hp4⟩ := tk_ok (i := 0) (gA := xCons (xP (gCB hLen (gCons (gVar 2) (gNil)))) xNil) (ρ := [p3, .int n, .list (r.map enc3), .int a, .int b, .none]) (ρ' := [p3, .int n, .list (r.map enc3), .int a, .int b, .none]) (size := (r.length : Int)) (by
        rw [xCons_def, xP_def]
        simp only [bnd_ok, gVar_def, gC_def, gOp_def, gUn_def, gNil_def, gCons_def, gIf_def, gTest_def, gNot_def, gAnd_def, gOr_def, gAndV_def, gOrV_def, gNotV_def, gCB_def, asB_b, hAdd_i, hSub_i, hLt_i, hLe_i, hGt_i, hGe_i, hMul_r, hMul_l, hMod_i, hDiv_s, hBand_i, hShr_i, hPow_10_18, hPow_10_27, hPow_10_28, hPow_10_29, hPow_10_30, hEq_i, hNe_i, hLen_l, hLen_t, hMin2_i, hMax2_i, hMin3_i, hInt1_b, hInt1_i, hBits_i, hListOf_l, hListOf_t, hTupOf_l, hTupOf_t, gSeqS_def, gSet_def, gRet_def, gIfS_def, gNext_def, gTup_def, gLst_def, List.getElem?_cons_zero, List.getElem?_cons_succ, List.set_cons_zero, List.set_cons_succ, List.length_cons, List.length_nil, Nat.zero_add, Nat.reduceAdd, Nat.reduceLeDiff, Nat.reduceSub, Nat.reduceMul, if_true, if_false, Bool.false_eq_true, List.replicate_succ, List.replicate_zero, List.cons_append, List.nil_append, tgN, tgT, tgCons, tgNil, Int.reducePow, Int.reduceAdd, Int.reduceSub, Int.reduceMul, decide_true, decide_false, Bool.not_true, Bool.not_false, gChain_def, hIsa_int, hIsa_intb, hIsa_list, hIsa_tuple, gDrop_def, List.length_map]
        rfl) rfl hp3 (by omega) (by omega) (by omega)
      have h4 : xCallM .la 2 f_l_take 0 (xCons (xP (gCB hLen (gCons (gVar 2) (gNil)))) xNil) [p3, .int n, .list (r.map enc3), .int a, .int b, .none] = .ok (.int j, [p4, .int n, .list (r.map enc3), .int a, .int b, .none]) := h4
      have hj : j.toNat < r.length := by omega
      have hix : hIx (.list (r.map enc3)) (.int j) = .ok (enc3 r[j.toNat]) := hIx_l (atI_map enc3 j0 (by omega))
      obtain ⟨⟨t0, t1⟩, u0, u1⟩ := hr r[j.toNat] (List.getElem_mem hj)
      refine ⟨r[j.toNat].2.1, r[j.toNat].2.2, p4, .int r[j.toNat].1, (xIf_t htest).trans (xasg_ok (d := enc3 r[j.toNat]) (ρ1 := [p4, .int n, .list (r.map enc3), .int a, .int b, .none]) ?_ rfl), t0, t1, u0, u1, hp4.mono (by omega)⟩
      rw [xOp_def, xP_def, gVar_def]
      show bnd (bnd (O.ok (PyData.list (r.map enc3))) _) _ = _
      rw [bnd_ok, bnd_ok, h4, bnd_ok, hix]
      rfl
theorem drawn_okS {m n most : Int} {p : Dt} (hp : PotOk m p) (hm : m < 1099511620000) (n1 : 1 ≤ n) (n10 : n ≤ 10) (m0 : 0 ≤ most) (m40 : most ≤ 50) :
    ∃ r p', f_l_drawn_ties [p, .int n, .int most] = .ok (.tuple [.list (r.map enc3), p']) ∧ RecOk n r ∧ (∀ t ∈ r, t.1 ≤ 100000000000000000000000000000) ∧ (r.length : Int) ≤ most ∧ PotOk (m + 1000) p' := by
  obtain ⟨s, p1, h1, s0, s1, hp1⟩ := tk_ok (i := 0) (gA := xCons (xP (gC (.int (3)))) xNil) (ρ := [p, .int n, .int most, .none, .none, .none, .none, .none, .none]) rfl rfl hp (by omega) (by omega : (0 : Int) < 3) (by omega)
  have h1 : xCallM .la 2 f_l_take 0 (xCons (xP (gC (.int (3)))) xNil) [p, .int n, .int most, .none, .none, .none, .none, .none, .none] = .ok (.int s, [p1, .int n, .int most, .none, .none, .none, .none, .none, .none]) := h1
  obtain ⟨w, p2, h2, w0, w1, hp2⟩ := tk_ok (i := 0) (gA := xCons (xP (gOp hAdd (gVar 2) (gC (.int (1))))) xNil) (ρ := [p1, .int n, .int most, .int (s - 1), .list [], .none, .none, .none, .none]) (ρ' := [p1, .int n, .int most, .int (s - 1), .list [], .none, .none, .none, .none]) (size := most + 1) rfl rfl hp1 (by omega) (by omega) (by omega)
  have h2 : xCallM .la 2 f_l_take 0 (xCons (xP (gOp hAdd (gVar 2) (gC (.int (1))))) xNil) [p1, .int n, .int most, .int (s - 1), .list [], .none, .none, .none, .none] = .ok (.int w, [p2, .int n, .int most, .int (s - 1), .list [], .none, .none, .none, .none]) := h2
  obtain ⟨ρ', hf, r, p', mo, x5, x6, x7, x8, rfl, hp', hl, ht, ho, hlt, q0, q1⟩ := forE_ix (fun (j : Nat) => PyData.int (0 + (j : Int))) (h := tgN 5) (b := g_l_drawn_ties_L1) (List.range w.toNat)
    (fun i ρ => ∃ (r : List T3) (p' : Dt) (mo : Int) (x5 x6 x7 x8 : Dt), ρ = [p', .int n, .int most, .int mo, .list (r.map enc3), x5, x6, x7, x8] ∧ PotOk (m + 2 + 10 * i) p' ∧ r.length = i ∧ (∀ t ∈ r, TieOk n t) ∧ (r.Pairwise fun s t => s.1 < t.1) ∧ (∀ t ∈ r, t.1 ≤ mo) ∧ -1 ≤ mo ∧ mo ≤ 2 + i * 1000000000000000000000000003)
    (ρ := [p2, .int n, .int most, .int (s - 1), .list [], .none, .none, .none, .none]) ⟨[], p2, s - 1, _, _, _, _, rfl, hp2.mono (by omega), rfl, (fun t h => nomatch h), .nil, (fun t h => nomatch h), by omega, by omega⟩ (by
      rintro i ρ hi ⟨r, p', mo, x5, x6, x7, x8, rfl, hp', hl, ht, ho, hlt, q0, q1⟩
      rw [List.length_range] at hi
      generalize hgj : (0 : Int) + ((List.range w.toNat)[i] : Nat) = jj
      obtain ⟨st, p3, h3, st0, st1, hp3⟩ := tk_ok (i := 0) (gA := xCons (xP (gC (.int (5)))) xNil) (ρ := [p', .int n, .int most, .int mo, .list (r.map enc3), .int jj, x6, x7, x8]) rfl rfl hp' (by omega) (by omega : (0 : Int) < 5) (by omega)
      have h3 : xCallM .la 2 f_l_take 0 (xCons (xP (gC (.int (5)))) xNil) [p', .int n, .int most, .int mo, .list (r.map enc3), .int jj, x6, x7, x8] = .ok (.int st, [p3, .int n, .int most, .int mo, .list (r.map enc3), .int jj, x6, x7, x8]) := h3
      have hd2 := hDiv_s (i := st) (show (0 : Int) < 2 by omega) (by omega)
      obtain ⟨mo2, p4, h4, hp4, r0, r1⟩ : ∃ (mo2 : Int) (p4 : Dt), gIfS (gTest (gOp hEq (gVar 6) (gC (.int (4))))) (xSet 3 (xOp hAdd (xP (gVar 3)) (xCallM .la 2 f_l_wide 0 (xCons (xP (gOp hPow (gC (.int (10))) (gC (.int (27))))) (xNil))))) (gNext)
          [p3, .int n, .int most, .int (mo + 1 + st / 2), .list (r.map enc3), .int jj, .int st, x7, x8] = .ok (.nx [p4, .int n, .int most, .int mo2, .list (r.map enc3), .int jj, .int st, x7, x8]) ∧ PotOk (m + 2 + 10 * i + 6) p4 ∧ mo + 1 ≤ mo2 ∧ mo2 ≤ mo + 3 + 1000000000000000000000000000 := by
        by_cases c : st = 4
        · obtain ⟨u, p4, h4, u0, u1, hp4⟩ := wide_ok (size := 1000000000000000000000000000) hp3 (by omega) (by omega) (by omega)
          refine ⟨mo + 1 + st / 2 + u, p4, (if_t (by simp [gTest_def, gOp_def, gVar_def, gC_def, hEq_i, c, asB_b])).trans ?_, hp4.mono (by omega), by omega, by omega⟩
          refine xset_ok (ρ' := [p4, .int n, .int most, .int (mo + 1 + st / 2), .list (r.map enc3), .int jj, .int st, x7, x8]) (d := .int (mo + 1 + st / 2 + u)) ?_
          have hcall : xCallM .la 2 f_l_wide 0 (xCons (xP (gOp hPow (gC (.int (10))) (gC (.int (27))))) (xNil)) [p3, .int n, .int most, .int (mo + 1 + st / 2), .list (r.map enc3), .int jj, .int st, x7, x8] = .ok (.int u, [p4, .int n, .int most, .int (mo + 1 + st / 2), .list (r.map enc3), .int jj, .int st, x7, x8]) :=
            xcallM_ok (ds := [.int 1000000000000000000000000000]) (ρ' := [p3, .int n, .int most, .int (mo + 1 + st / 2), .list (r.map enc3), .int jj, .int st, x7, x8]) (by rw [xCons_def, xP_def]; simp only [bnd_ok, gVar_def, gC_def, gOp_def, gUn_def, gNil_def, gCons_def, gIf_def, gTest_def, gNot_def, gAnd_def, gOr_def, gAndV_def, gOrV_def, gNotV_def, gCB_def, asB_b, hAdd_i, hSub_i, hLt_i, hLe_i, hGt_i, hGe_i, hMul_r, hMul_l, hMod_i, hDiv_s, hBand_i, hShr_i, hPow_10_18, hPow_10_27, hPow_10_28, hPow_10_29, hPow_10_30, hEq_i, hNe_i, hLen_l, hLen_t, hMin2_i, hMax2_i, hMin3_i, hInt1_b, hInt1_i, hBits_i, hListOf_l, hListOf_t, hTupOf_l, hTupOf_t, gSeqS_def, gSet_def, gRet_def, gIfS_def, gNext_def, gTup_def, gLst_def, List.getElem?_cons_zero, List.getElem?_cons_succ, List.set_cons_zero, List.set_cons_succ, List.length_cons, List.length_nil, Nat.zero_add, Nat.reduceAdd, Nat.reduceLeDiff, Nat.reduceSub, Nat.reduceMul, if_true, if_false, Bool.false_eq_true, List.replicate_succ, List.replicate_zero, List.cons_append, List.nil_append, tgN, tgT, tgCons, tgNil, Int.reducePow, Int.reduceAdd, Int.reduceSub, Int.reduceMul, decide_true, decide_false, Bool.not_true, Bool.not_false, gChain_def, hIsa_int, hIsa_intb, hIsa_list, hIsa_tuple, gDrop_def]; rfl) rfl rfl hp3.arg h4 hp4.arg
          rw [xOp_def, xP_def, gVar_def]
          show bnd (bnd (O.ok (PyData.int (mo + 1 + st / 2))) _) _ = _
          rw [bnd_ok, bnd_ok, hcall]
          rfl
        · refine ⟨mo + 1 + st / 2, p3, (if_f (by simp [gTest_def, gOp_def, gVar_def, gC_def, hEq_i, c, asB_b])).trans rfl, hp3.mono (by omega), by omega, by omega⟩
      have hin : InN n r := fun t h => by
        have q := ht t h
        have := q.a0; have := q.ab; have := q.bn
        exact ⟨⟨by omega, by omega⟩, by omega, by omega⟩
      obtain ⟨a, b, p5, h5, a0, ab, bn, hp5⟩ := ends_ok hp4 (by omega) n1 (by omega) hin (by omega)
      have hcall : xCallM .la 3 f_l_ends 0 (xPA (gCons (gVar 1) (gCons (gVar 4) (gNil)))) [p4, .int n, .int most, .int mo2, .list (r.map enc3), .int jj, .int st, x7, x8] = .ok (.tuple [.int a, .int b], [p5, .int n, .int most, .int mo2, .list (r.map enc3), .int jj, .int st, x7, x8]) :=
        xcallM_ok (ds := [.int n, .list (r.map enc3)]) (ρ' := [p4, .int n, .int most, .int mo2, .list (r.map enc3), .int jj, .int st, x7, x8]) rfl rfl rfl hp4.arg h5 hp5.arg
      have tok : TieOk n (mo2, a, b) := ⟨by show 0 ≤ mo2; omega, by show mo2 < B30; unfold B30; omega, a0, ab, bn⟩
      obtain ⟨k1, k2⟩ := rec_snoc (t := (mo2, a, b)) ht ho tok fun u hu => by
        have := hlt u hu
        show u.1 < mo2
        omega
      refine ⟨[p', .int n, .int most, .int mo, .list (r.map enc3), .int jj, x6, x7, x8], [p5, .int n, .int most, .int mo2, .list ((r ++ [(mo2, a, b)]).map enc3), .int jj, .int st, .int a, .int b], rfl, .inl ?_, r ++ [(mo2, a, b)], p5, mo2, _, _, _, _, rfl, hp5.mono (by omega), by rw [List.length_append, hl]; rfl, k1, k2, fun u hu => ?_, by omega, by omega⟩
      · unfold g_l_drawn_ties_L1
        refine seq_step (xset_ok h3) ?_
        dsimp only [List.set]
        refine seq_step (set_ok (d := .int (mo + 1 + st / 2)) (by simp only [bnd_ok, gVar_def, gC_def, gOp_def, gUn_def, gNil_def, gCons_def, gIf_def, gTest_def, gNot_def, gAnd_def, gOr_def, gAndV_def, gOrV_def, gNotV_def, gCB_def, asB_b, hAdd_i, hSub_i, hLt_i, hLe_i, hGt_i, hGe_i, hMul_r, hMul_l, hMod_i, hDiv_s, hBand_i, hShr_i, hPow_10_18, hPow_10_27, hPow_10_28, hPow_10_29, hPow_10_30, hEq_i, hNe_i, hLen_l, hLen_t, hMin2_i, hMax2_i, hMin3_i, hInt1_b, hInt1_i, hBits_i, hListOf_l, hListOf_t, hTupOf_l, hTupOf_t, gSeqS_def, gSet_def, gRet_def, gIfS_def, gNext_def, gTup_def, gLst_def, List.getElem?_cons_zero, List.getElem?_cons_succ, List.set_cons_zero, List.set_cons_succ, List.length_cons, List.length_nil, Nat.zero_add, Nat.reduceAdd, Nat.reduceLeDiff, Nat.reduceSub, Nat.reduceMul, if_true, if_false, Bool.false_eq_true, List.replicate_succ, List.replicate_zero, List.cons_append, List.nil_append, tgN, tgT, tgCons, tgNil, Int.reducePow, Int.reduceAdd, Int.reduceSub, Int.reduceMul, decide_true, decide_false, Bool.not_true, Bool.not_false, gChain_def, hIsa_int, hIsa_intb, hIsa_list, hIsa_tuple, gDrop_def, hd2])) ?_
        dsimp only [List.set]
        refine seq_step h4 ?_
        refine seq_step (xasg_ok hcall (by rfl)) ?_
        refine Eq.trans (gApp_l (i := 4) (ds := r.map enc3) (d := enc3 (mo2, a, b)) rfl (by rfl) (by rw [List.length_map]; omega)) ?_
        rw [map3_snoc]
        rfl
      · rcases List.mem_append.mp hu with h | h
        · have := hlt u h
          omega
        · rw [List.mem_singleton.mp h]
          exact Int.le_refl _)
  rw [List.length_range] at hl hp' q1
  refine ⟨r, p', fnL_rt ?_, ⟨by omega, ht, ho⟩, fun t h => by have := hlt t h; omega, by omega, hp'.mono (by omega)⟩
  show g_l_drawn_ties [p, .int n, .int most, .none, .none, .none, .none, .none, .none] = _
  unfold g_l_drawn_ties
  refine seq_step (xset_ok (ρ' := [p1, .int n, .int most, .none, .none, .none, .none, .none, .none]) (d := .int (s - 1)) ?_) ?_
  · rw [xOp_def, h1, bnd_ok]
    rfl
  dsimp only [List.set]
  refine seq_step (set_ok (d := .list []) (by rfl)) ?_
  dsimp only [List.set]
  refine seq_step (xfor_ok (ds := (List.range w.toNat).map fun (j : Nat) => PyData.int (0 + (j : Int))) (ρ' := [p2, .int n, .int most, .int (s - 1), .list [], .none, .none, .none, .none]) ?_ hf) ?_
  · refine (xrng1_ok (j := w) (by rw [xCons_def, h2]; rfl) (by omega) (by omega)).trans ?_
    unfold rangeD
    rw [Int.sub_zero]
  · exact xretO_ok rfl rfl hp'.argD
theorem begun_ok (c : Int) : ∃ p, f_l_begun [.int c] = .ok p ∧ PotOk 0 p := by
  have key : ∀ rest : Int, 0 ≤ rest → ∃ p, gRet (gLst (gCons (gVar 1) (gCons (gC (.int (0))) (gCons (gOp hMod (gVar 0) (gC (.int (2147483647)))) (gNil))))) [.int c, .int rest] = .ok (.rt p) ∧ PotOk 0 p := fun rest h =>
    ⟨potD rest 0 (c % 2147483647), by simp (disch := omega) only [bnd_ok, gVar_def, gC_def, gOp_def, gUn_def, gNil_def, gCons_def, gIf_def, gTest_def, gNot_def, gAnd_def, gOr_def, gAndV_def, gOrV_def, gNotV_def, gCB_def, asB_b, hAdd_i, hSub_i, hLt_i, hLe_i, hGt_i, hGe_i, hMul_r, hMul_l, hMod_i, hDiv_s, hBand_i, hShr_i, hPow_10_18, hPow_10_27, hPow_10_28, hPow_10_29, hPow_10_30, hEq_i, hNe_i, hLen_l, hLen_t, hMin2_i, hMax2_i, hMin3_i, hInt1_b, hInt1_i, hBits_i, hListOf_l, hListOf_t, hTupOf_l, hTupOf_t, gSeqS_def, gSet_def, gRet_def, gIfS_def, gNext_def, gTup_def, gLst_def, List.getElem?_cons_zero, List.getElem?_cons_succ, List.set_cons_zero, List.set_cons_succ, List.length_cons, List.length_nil, Nat.zero_add, Nat.reduceAdd, Nat.reduceLeDiff, Nat.reduceSub, Nat.reduceMul, if_true, if_false, Bool.false_eq_true, List.replicate_succ, List.replicate_zero, List.cons_append, List.nil_append, tgN, tgT, tgCons, tgNil, Int.reducePow, Int.reduceAdd, Int.reduceSub, Int.reduceMul, decide_true, decide_false, Bool.not_true, Bool.not_false, gChain_def, hIsa_int, hIsa_intb, hIsa_list, hIsa_tuple, gDrop_def]; rfl, _, _, _, rfl, h, by omega, by omega, by omega, by omega⟩
  have ha : ∀ x, gCB hAbs (gCons (gVar 0) (gNil)) [.int c, x] = .ok (.int (if c < 0 then -c else c)) := fun _ => rfl
  by_cases h : 1000000000000000000 ≤ (if c < 0 then -c else c)
  · obtain ⟨p, h1, h2⟩ := key ((if c < 0 then -c else c) - 1000000000000000000 + 1) (by omega)
    refine ⟨p, fnL_rt ?_, h2⟩
    show g_l_begun [.int c, .none] = _
    unfold g_l_begun
    refine seq_step (set_ok (d := .int 0) rfl) ?_
    dsimp only [List.set]
    refine seq_step ((if_t ?_).trans (set_ok (d := .int ((if c < 0 then -c else c) - 1000000000000000000 + 1)) ?_)) h1
    · rw [gTest_def, gOp_def, ha]
      simp only [bnd_ok, gVar_def, gC_def, gOp_def, gUn_def, gNil_def, gCons_def, gIf_def, gTest_def, gNot_def, gAnd_def, gOr_def, gAndV_def, gOrV_def, gNotV_def, gCB_def, asB_b, hAdd_i, hSub_i, hLt_i, hLe_i, hGt_i, hGe_i, hMul_r, hMul_l, hMod_i, hDiv_s, hBand_i, hShr_i, hPow_10_18, hPow_10_27, hPow_10_28, hPow_10_29, hPow_10_30, hEq_i, hNe_i, hLen_l, hLen_t, hMin2_i, hMax2_i, hMin3_i, hInt1_b, hInt1_i, hBits_i, hListOf_l, hListOf_t, hTupOf_l, hTupOf_t, gSeqS_def, gSet_def, gRet_def, gIfS_def, gNext_def, gTup_def, gLst_def, List.getElem?_cons_zero, List.getElem?_cons_succ, List.set_cons_zero, List.set_cons_succ, List.length_cons, List.length_nil, Nat.zero_add, Nat.reduceAdd, Nat.reduceLeDiff, Nat.reduceSub, Nat.reduceMul, if_true, if_false, Bool.false_eq_true, List.replicate_succ, List.replicate_zero, List.cons_append, List.nil_append, tgN, tgT, tgCons, tgNil, Int.reducePow, Int.reduceAdd, Int.reduceSub, Int.reduceMul, decide_true, decide_false, Bool.not_true, Bool.not_false, gChain_def, hIsa_int, hIsa_intb, hIsa_list, hIsa_tuple, gDrop_def, h]
    · rw [gOp_def, gOp_def, ha]
      simp only [bnd_ok, gVar_def, gC_def, gOp_def, gUn_def, gNil_def, gCons_def, gIf_def, gTest_def, gNot_def, gAnd_def, gOr_def, gAndV_def, gOrV_def, gNotV_def, gCB_def, asB_b, hAdd_i, hSub_i, hLt_i, hLe_i, hGt_i, hGe_i, hMul_r, hMul_l, hMod_i, hDiv_s, hBand_i, hShr_i, hPow_10_18, hPow_10_27, hPow_10_28, hPow_10_29, hPow_10_30, hEq_i, hNe_i, hLen_l, hLen_t, hMin2_i, hMax2_i, hMin3_i, hInt1_b, hInt1_i, hBits_i, hListOf_l, hListOf_t, hTupOf_l, hTupOf_t, gSeqS_def, gSet_def, gRet_def, gIfS_def, gNext_def, gTup_def, gLst_def, List.getElem?_cons_zero, List.getElem?_cons_succ, List.set_cons_zero, List.set_cons_succ, List.length_cons, List.length_nil, Nat.zero_add, Nat.reduceAdd, Nat.reduceLeDiff, Nat.reduceSub, Nat.reduceMul, if_true, if_false, Bool.false_eq_true, List.replicate_succ, List.replicate_zero, List.cons_append, List.nil_append, tgN, tgT, tgCons, tgNil, Int.reducePow, Int.reduceAdd, Int.reduceSub, Int.reduceMul, decide_true, decide_false, Bool.not_true, Bool.not_false, gChain_def, hIsa_int, hIsa_intb, hIsa_list, hIsa_tuple, gDrop_def]
  · obtain ⟨p, h1, h2⟩ := key 0 (by omega)
    refine ⟨p, fnL_rt ?_, h2⟩
    show g_l_begun [.int c, .none] = _
    unfold g_l_begun
    refine seq_step (set_ok (d := .int 0) rfl) ?_
    dsimp only [List.set]
    refine seq_step ((if_f ?_).trans rfl) h1
    rw [gTest_def, gOp_def, ha]
    simp only [bnd_ok, gVar_def, gC_def, gOp_def, gUn_def, gNil_def, gCons_def, gIf_def, gTest_def, gNot_def, gAnd_def, gOr_def, gAndV_def, gOrV_def, gNotV_def, gCB_def, asB_b, hAdd_i, hSub_i, hLt_i, hLe_i, hGt_i, hGe_i, hMul_r, hMul_l, hMod_i, hDiv_s, hBand_i, hShr_i, hPow_10_18, hPow_10_27, hPow_10_28, hPow_10_29, hPow_10_30, hEq_i, hNe_i, hLen_l, hLen_t, hMin2_i, hMax2_i, hMin3_i, hInt1_b, hInt1_i, hBits_i, hListOf_l, hListOf_t, hTupOf_l, hTupOf_t, gSeqS_def, gSet_def, gRet_def, gIfS_def, gNext_def, gTup_def, gLst_def, List.getElem?_cons_zero, List.getElem?_cons_succ, List.set_cons_zero, List.set_cons_succ, List.length_cons, List.length_nil, Nat.zero_add, Nat.reduceAdd, Nat.reduceLeDiff, Nat.reduceSub, Nat.reduceMul, if_true, if_false, Bool.false_eq_true, List.replicate_succ, List.replicate_zero, List.cons_append, List.nil_append, tgN, tgT, tgCons, tgNil, Int.reducePow, Int.reduceAdd, Int.reduceSub, Int.reduceMul, decide_true, decide_false, Bool.not_true, Bool.not_false, gChain_def, hIsa_int, hIsa_intb, hIsa_list, hIsa_tuple, gDrop_def, h]
theorem hRep_0 {j : Int} (h0 : 0 ≤ j) (h1 : j < 100) : hRep (.list [.int 0]) (.int j) = .ok (.list ((List.replicate j.toNat (0 : Int)).map .int)) := by
  rw [hRep_l h0 h1 (by simp)]
  congr 2
  rw [List.map_replicate]
  induction j.toNat with
  | zero => rfl
  | succ k ih => rw [List.replicate_succ, List.flatten_cons, ih, List.replicate_succ]; rfl
theorem folded_ok (cs : List Int) (many : Int) (hl : cs.length ≤ 63) (m1 : 1 ≤ many) (m2 : many ≤ 60) : ∃ L : List Int, f_l_folded [.list (cs.map .int), .int many] = .ok (.list (L.map .int)) ∧ (L.length : Int) ≤ many := by
  generalize hj : (if (if (cs.length : Int) > 1 then (cs.length : Int) else 1) < many then (if (cs.length : Int) > 1 then (cs.length : Int) else 1) else many) = j
  have j1 : 1 ≤ j ∧ j ≤ many := by split at hj <;> (try split at hj) <;> omega
  have hstart : gOp hRep (gLst (gCons (gC (.int (0))) (gNil))) (gCB hMin2 (gCons (gVar 1) (gCons (gCB hMax2 (gCons (gC (.int (1))) (gCons (gCB hLen (gCons (gVar 0) (gNil))) (gNil)))) (gNil)))) [.list (cs.map .int), .int many, .none, .none, .none] = .ok (.list ((List.replicate j.toNat (0 : Int)).map .int)) := by
    have e1 : gCB hMin2 (gCons (gVar 1) (gCons (gCB hMax2 (gCons (gC (.int (1))) (gCons (gCB hLen (gCons (gVar 0) (gNil))) (gNil)))) (gNil))) [.list (cs.map .int), .int many, .none, .none, .none] = .ok (.int j) := by
      simp only [bnd_ok, gVar_def, gC_def, gOp_def, gUn_def, gNil_def, gCons_def, gIf_def, gTest_def, gNot_def, gAnd_def, gOr_def, gAndV_def, gOrV_def, gNotV_def, gCB_def, asB_b, hAdd_i, hSub_i, hLt_i, hLe_i, hGt_i, hGe_i, hMul_r, hMul_l, hMod_i, hDiv_s, hBand_i, hShr_i, hPow_10_18, hPow_10_27, hPow_10_28, hPow_10_29, hPow_10_30, hEq_i, hNe_i, hLen_l, hLen_t, hMin2_i, hMax2_i, hMin3_i, hInt1_b, hInt1_i, hBits_i, hListOf_l, hListOf_t, hTupOf_l, hTupOf_t, gSeqS_def, gSet_def, gRet_def, gIfS_def, gNext_def, gTup_def, gLst_def, List.getElem?_cons_zero, List.getElem?_cons_succ, List.set_cons_zero, List.set_cons_succ, List.length_cons, List.length_nil, Nat.zero_add, Nat.reduceAdd, Nat.reduceLeDiff, Nat.reduceSub, Nat.reduceMul, if_true, if_false, Bool.false_eq_true, List.replicate_succ, List.replicate_zero, List.cons_append, List.nil_append, tgN, tgT, tgCons, tgNil, Int.reducePow, Int.reduceAdd, Int.reduceSub, Int.reduceMul, decide_true, decide_false, Bool.not_true, Bool.not_false, gChain_def, hIsa_int, hIsa_intb, hIsa_list, hIsa_tuple, gDrop_def, List.length_map, hj]
    have e2 : gLst (gCons (gC (.int (0))) (gNil)) [.list (cs.map .int), .int many, .none, .none, .none] = .ok (.list [.int 0]) := rfl
    rw [gOp_def, e1, e2, bnd_ok, bnd_ok, hRep_0 (by omega) (by omega)]
  obtain ⟨ρ', hf, L, x3, x4, rfl, hL⟩ := forE_ix (fun (q : Int × Nat) => PyData.tuple [.int (q.2 : Nat), .int q.1]) (h := tgT (tgCons (tgN 3) (tgCons (tgN 4) (tgNil)))) (b := g_l_folded_L1) cs.zipIdx
    (fun _ ρ => ∃ (L : List Int) (x3 x4 : Dt), ρ = [.list (cs.map .int), .int many, .list (L.map .int), x3, x4] ∧ L.length = j.toNat)
    (ρ := [.list (cs.map .int), .int many, .list ((List.replicate j.toNat (0 : Int)).map .int), .none, .none]) ⟨_, _, _, rfl, List.length_replicate ..⟩ (by
      rintro i ρ hi ⟨L, x3, x4, rfl, hL⟩
      generalize cs.zipIdx[i] = q at *
      obtain ⟨c, k⟩ := q
      have hlpos : (0 : Int) < (L.length : Int) := by omega
      have hmod := hMod_i (i := (k : Int)) hlpos
      have q0 := Int.emod_nonneg (k : Int) (show (L.length : Int) ≠ 0 by omega)
      have q1 := Int.emod_lt_of_pos (k : Int) hlpos
      generalize (k : Int) % (L.length : Int) = z at *
      have hix := hIx_ints (xs := L) q0 q1
      generalize L[z.toNat]'(by omega) = y at hix
      refine ⟨[.list (cs.map .int), .int many, .list (L.map .int), .int (k : Nat), .int c], _, rfl, .inl (setI_ok (ds := L.map .int) (d := .int (y * 7 + c)) (j := z) ?_ rfl ?_ q0 (by rw [List.length_map]; omega)), L.set z.toNat (y * 7 + c), .int (k : Nat), .int c, ?_, by rw [List.length_set]; exact hL⟩
      · simp (disch := omega) only [bnd_ok, gVar_def, gC_def, gOp_def, gUn_def, gNil_def, gCons_def, gIf_def, gTest_def, gNot_def, gAnd_def, gOr_def, gAndV_def, gOrV_def, gNotV_def, gCB_def, asB_b, hAdd_i, hSub_i, hLt_i, hLe_i, hGt_i, hGe_i, hMul_r, hMul_l, hMod_i, hDiv_s, hBand_i, hShr_i, hPow_10_18, hPow_10_27, hPow_10_28, hPow_10_29, hPow_10_30, hEq_i, hNe_i, hLen_l, hLen_t, hMin2_i, hMax2_i, hMin3_i, hInt1_b, hInt1_i, hBits_i, hListOf_l, hListOf_t, hTupOf_l, hTupOf_t, gSeqS_def, gSet_def, gRet_def, gIfS_def, gNext_def, gTup_def, gLst_def, List.getElem?_cons_zero, List.getElem?_cons_succ, List.set_cons_zero, List.set_cons_succ, List.length_cons, List.length_nil, Nat.zero_add, Nat.reduceAdd, Nat.reduceLeDiff, Nat.reduceSub, Nat.reduceMul, if_true, if_false, Bool.false_eq_true, List.replicate_succ, List.replicate_zero, List.cons_append, List.nil_append, tgN, tgT, tgCons, tgNil, Int.reducePow, Int.reduceAdd, Int.reduceSub, Int.reduceMul, decide_true, decide_false, Bool.not_true, Bool.not_false, gChain_def, hIsa_int, hIsa_intb, hIsa_list, hIsa_tuple, gDrop_def, List.length_map, hmod, hix]
      · simp (disch := omega) only [bnd_ok, gVar_def, gC_def, gOp_def, gUn_def, gNil_def, gCons_def, gIf_def, gTest_def, gNot_def, gAnd_def, gOr_def, gAndV_def, gOrV_def, gNotV_def, gCB_def, asB_b, hAdd_i, hSub_i, hLt_i, hLe_i, hGt_i, hGe_i, hMul_r, hMul_l, hMod_i, hDiv_s, hBand_i, hShr_i, hPow_10_18, hPow_10_27, hPow_10_28, hPow_10_29, hPow_10_30, hEq_i, hNe_i, hLen_l, hLen_t, hMin2_i, hMax2_i, hMin3_i, hInt1_b, hInt1_i, hBits_i, hListOf_l, hListOf_t, hTupOf_l, hTupOf_t, gSeqS_def, gSet_def, gRet_def, gIfS_def, gNext_def, gTup_def, gLst_def, List.getElem?_cons_zero, List.getElem?_cons_succ, List.set_cons_zero, List.set_cons_succ, List.length_cons, List.length_nil, Nat.zero_add, Nat.reduceAdd, Nat.reduceLeDiff, Nat.reduceSub, Nat.reduceMul, if_true, if_false, Bool.false_eq_true, List.replicate_succ, List.replicate_zero, List.cons_append, List.nil_append, tgN, tgT, tgCons, tgNil, Int.reducePow, Int.reduceAdd, Int.reduceSub, Int.reduceMul, decide_true, decide_false, Bool.not_true, Bool.not_false, gChain_def, hIsa_int, hIsa_intb, hIsa_list, hIsa_tuple, gDrop_def, List.length_map, hmod]
      · rw [List.map_set]
        rfl)
  refine ⟨L, fnL_rt ?_, by omega⟩
  show g_l_folded [.list (cs.map .int), .int many, .none, .none, .none] = _
  unfold g_l_folded
  refine seq_step (set_ok hstart) ?_
  dsimp only [List.set]
  refine seq_step (for_ok (ds := cs.zipIdx.map fun (q : Int × Nat) => PyData.tuple [.int (q.2 : Nat), .int q.1]) ?_ hf) ?_
  · refine (enum_ok (es := cs.map .int) (by rfl)).trans ?_
    rw [enumD_map]
  · rfl
end FamB
end T_FamBP
section T_LayIff
set_option linter.all false
set_option maxRecDepth 100000
namespace Lay
open PySem Sim FamA
theorem fj_spec {p : Nat → Prop} : ∀ (m lo : Nat), (fj p lo m = 0 ∧ ∀ i, i < m → ¬ p (lo + i)) ∨ (∃ i, i < m ∧ fj p lo m = (lo : Int) + i + 1 ∧ p (lo + i) ∧ ∀ i', i' < i → ¬ p (lo + i'))
  | 0, lo => .inl ⟨rfl, fun i hi => by omega⟩
  | m + 1, lo => by
    by_cases h : p lo
    · exact .inr ⟨0, by omega, by rw [fj_t m h]; omega, h, fun i hi => by omega⟩
    · rw [fj_f m h]
      have sh : ∀ i, lo + 1 + i = lo + (i + 1) := fun i => by omega
      rcases fj_spec (p := p) m (lo + 1) with ⟨e, q⟩ | ⟨i, hi, e, q, r⟩
      · refine .inl ⟨e, fun i hi => ?_⟩
        cases i with
        | zero => exact h
        | succ i => rw [← sh]; exact q i (by omega)
      · refine .inr ⟨i + 1, by omega, by rw [e]; omega, by rw [← sh]; exact q, fun i' hi' => ?_⟩
        cases i' with
        | zero => exact h
        | succ i' => rw [← sh]; exact r i' (by omega)
end Lay
end T_LayIff
section T_K18L
set_option linter.all false
set_option maxRecDepth 100000
set_option maxHeartbeats 4000000
namespace K18
open PySem Sim FamA FamL Lay
theorem down_nat (i j : Int) : downD i j = (List.range (i - j).toNat).map fun (k : Nat) => PyData.int (i - (k : Int)) := rfl
def NB (p : Nat) (ns : List Int) : List Int := List.replicate p 0 ++ ns
theorem NB_len (p : Nat) (ns : List Int) : (NB p ns).length = p + ns.length := by unfold NB; rw [List.length_append, List.length_replicate]
theorem NB_at (p : Nat) (x : Int) (ns : List Int) : hIx (.list ((NB p (x :: ns)).map .int)) (.int (p : Nat)) = .ok (.int x) := by
  have hlt : p < ((NB p (x :: ns)).map PyData.int).length := by rw [List.length_map, NB_len, List.length_cons]; omega
  refine (hIx_l (z := ((NB p (x :: ns)).map PyData.int)[p]) ?_).trans ?_
  · exact L2.atI_nat (List.getElem?_eq_getElem hlt)
  · congr 1
    unfold NB
    simp
theorem NB_set (p : Nat) (x y : Int) (ns : List Int) : ((NB p (x :: ns)).map PyData.int).set p (.int y) = (NB p (y :: ns)).map .int := by
  rw [← List.map_set]
  congr 1
  unfold NB
  rw [List.set_append_right _ _ (by rw [List.length_replicate]; exact Nat.le_refl _), List.length_replicate, Nat.sub_self]
  rfl
theorem gx_ix {row : List Int} {a : Int} (h0 : 0 ≤ a) (h1 : a.toNat < row.length) : hIx (encI row) (.int a) = .ok (.int (gx row a)) := by
  refine (hIx_ints h0 (by omega)).trans ?_
  unfold gx
  rw [List.getD_eq_getElem?_getD, List.getElem?_eq_getElem h1]
  rfl
def rlb (x y : Int) (row : List Int) : List Int := row.map fun m => if m = x then y else m
def Inv (rows : List (List Int)) (a b : Int) (i : Nat) (rows' : List (List Int)) (x : Int) : Prop :=
  (x = 0 ∧ rows' = rows ∧ ∀ j (h : j < rows.length), j < i → gx rows[j] a = gx rows[j] b) ∨
  (∃ m, ∃ hm : m < rows.length, m < i ∧ x = (m : Int) + 1 ∧ rows' = rows.set m (rlb (gx rows[m] a) (gx rows[m] b) rows[m]) ∧ (∀ j (h : j < rows.length), j < m → gx rows[j] a = gx rows[j] b) ∧ gx rows[m] a ≠ gx rows[m] b)
theorem inv_len {rows rows' : List (List Int)} {a b : Int} {i : Nat} {x : Int} (h : Inv rows a b i rows' x) : rows'.length = rows.length := by
  rcases h with ⟨_, rfl, _⟩ | ⟨m, hm, _, _, rfl, _⟩
  · rfl
  · rw [List.length_set]
theorem lay_turn {n a b : Int} {k i p L : Nat} {rows rows' : List (List Int)} {x : Int} {ns : List Int} (hk : rows.length = k) (hi : i < k) (hm : ∀ ms ∈ rows, ms.length = n.toNat) (hI : Inv rows a b i rows' x) (a0 : 0 ≤ a) (a1 : a < n) (b0 : 0 ≤ b) (b1 : b < n) (n10 : n ≤ 10)
    (d0 d1 d7 x10 x11 x12 : Dt) :
    ∃ rows2 x2 y10 y11, g_l_layers_of_L1 [d0, d1, .int (k : Nat), .list (rows'.map encI), .int (i : Nat), .list ((NB p (x :: ns)).map .int), .int (p : Nat), d7, .int a, .int b, x10, x11, x12]
      = .ok (.nx [d0, d1, .int (k : Nat), .list (rows2.map encI), .int (i : Nat), .list ((NB p (x2 :: ns)).map .int), .int (p : Nat), d7, .int a, .int b, y10, y11, x12]) ∧ Inv rows a b (i + 1) rows2 x2 := by
  have hl := inv_len hI
  have hi' : i < rows'.length := by omega
  have hlen : rows'[i].length = n.toNat := by
    have hir : i < rows.length := by omega
    have h0 := hm _ (List.getElem_mem hir)
    rcases hI with ⟨_, e, _⟩ | ⟨m, hmm, hmi, _, e, _⟩
    · simp only [e]
      exact h0
    · subst e
      rw [List.getElem_set_ne (by omega)]
      exact h0
  have eix : hIx (.list (rows'.map encI)) (.int (i : Nat)) = .ok (encI rows'[i]) := hIx_l (by rw [atI_map _ (by omega) (by omega)]; rfl)
  have ea := gx_ix (row := rows'[i]) a0 (by omega)
  have eb := gx_ix (row := rows'[i]) b0 (by omega)
  generalize hro : rows'[i] = row at *
  have enb := NB_at p x ns
  have q1 : gOp hIx (gOp hIx (gVar 3) (gVar 4)) (gVar 8) [d0, d1, .int (k : Nat), .list (rows'.map encI), .int (i : Nat), .list ((NB p (x :: ns)).map .int), .int (p : Nat), d7, .int a, .int b, x10, x11, x12] = .ok (.int (gx row a)) := by
    simp only [bnd_ok, gVar_def, gC_def, gOp_def, gUn_def, gNil_def, gCons_def, gIf_def, gTest_def, gNot_def, gAnd_def, gOr_def, gAndV_def, gOrV_def, gNotV_def, gCB_def, asB_b, hAdd_i, hSub_i, hLt_i, hLe_i, hGt_i, hGe_i, hMul_r, hMul_l, hMod_i, hDiv_s, hBand_i, hShr_i, hPow_10_18, hPow_10_27, hPow_10_28, hPow_10_29, hPow_10_30, hEq_i, hNe_i, hLen_l, hLen_t, hMin2_i, hMax2_i, hMin3_i, hInt1_b, hInt1_i, hBits_i, hListOf_l, hListOf_t, hTupOf_l, hTupOf_t, gSeqS_def, gSet_def, gRet_def, gIfS_def, gNext_def, gTup_def, gLst_def, List.getElem?_cons_zero, List.getElem?_cons_succ, List.set_cons_zero, List.set_cons_succ, List.length_cons, List.length_nil, Nat.zero_add, Nat.reduceAdd, Nat.reduceLeDiff, Nat.reduceSub, Nat.reduceMul, if_true, if_false, Bool.false_eq_true, List.replicate_succ, List.replicate_zero, List.cons_append, List.nil_append, tgN, tgT, tgCons, tgNil, Int.reducePow, Int.reduceAdd, Int.reduceSub, Int.reduceMul, decide_true, decide_false, Bool.not_true, Bool.not_false, gChain_def, hIsa_int, hIsa_intb, hIsa_list, hIsa_tuple, gDrop_def, eix, ea]
  have q2 : gOp hIx (gOp hIx (gVar 3) (gVar 4)) (gVar 9) [d0, d1, .int (k : Nat), .list (rows'.map encI), .int (i : Nat), .list ((NB p (x :: ns)).map .int), .int (p : Nat), d7, .int a, .int b, .int (gx row a), x11, x12] = .ok (.int (gx row b)) := by
    simp only [bnd_ok, gVar_def, gC_def, gOp_def, gUn_def, gNil_def, gCons_def, gIf_def, gTest_def, gNot_def, gAnd_def, gOr_def, gAndV_def, gOrV_def, gNotV_def, gCB_def, asB_b, hAdd_i, hSub_i, hLt_i, hLe_i, hGt_i, hGe_i, hMul_r, hMul_l, hMod_i, hDiv_s, hBand_i, hShr_i, hPow_10_18, hPow_10_27, hPow_10_28, hPow_10_29, hPow_10_30, hEq_i, hNe_i, hLen_l, hLen_t, hMin2_i, hMax2_i, hMin3_i, hInt1_b, hInt1_i, hBits_i, hListOf_l, hListOf_t, hTupOf_l, hTupOf_t, gSeqS_def, gSet_def, gRet_def, gIfS_def, gNext_def, gTup_def, gLst_def, List.getElem?_cons_zero, List.getElem?_cons_succ, List.set_cons_zero, List.set_cons_succ, List.length_cons, List.length_nil, Nat.zero_add, Nat.reduceAdd, Nat.reduceLeDiff, Nat.reduceSub, Nat.reduceMul, if_true, if_false, Bool.false_eq_true, List.replicate_succ, List.replicate_zero, List.cons_append, List.nil_append, tgN, tgT, tgCons, tgNil, Int.reducePow, Int.reduceAdd, Int.reduceSub, Int.reduceMul, decide_true, decide_false, Bool.not_true, Bool.not_false, gChain_def, hIsa_int, hIsa_intb, hIsa_list, hIsa_tuple, gDrop_def, eix, eb]
  have t1 : gTest (gOp hEq (gOp hIx (gVar 5) (gVar 6)) (gC (.int (0)))) [d0, d1, .int (k : Nat), .list (rows'.map encI), .int (i : Nat), .list ((NB p (x :: ns)).map .int), .int (p : Nat), d7, .int a, .int b, .int (gx row a), .int (gx row b), x12] = .ok (x == 0) := by
    simp only [bnd_ok, gVar_def, gC_def, gOp_def, gUn_def, gNil_def, gCons_def, gIf_def, gTest_def, gNot_def, gAnd_def, gOr_def, gAndV_def, gOrV_def, gNotV_def, gCB_def, asB_b, hAdd_i, hSub_i, hLt_i, hLe_i, hGt_i, hGe_i, hMul_r, hMul_l, hMod_i, hDiv_s, hBand_i, hShr_i, hPow_10_18, hPow_10_27, hPow_10_28, hPow_10_29, hPow_10_30, hEq_i, hNe_i, hLen_l, hLen_t, hMin2_i, hMax2_i, hMin3_i, hInt1_b, hInt1_i, hBits_i, hListOf_l, hListOf_t, hTupOf_l, hTupOf_t, gSeqS_def, gSet_def, gRet_def, gIfS_def, gNext_def, gTup_def, gLst_def, List.getElem?_cons_zero, List.getElem?_cons_succ, List.set_cons_zero, List.set_cons_succ, List.length_cons, List.length_nil, Nat.zero_add, Nat.reduceAdd, Nat.reduceLeDiff, Nat.reduceSub, Nat.reduceMul, if_true, if_false, Bool.false_eq_true, List.replicate_succ, List.replicate_zero, List.cons_append, List.nil_append, tgN, tgT, tgCons, tgNil, Int.reducePow, Int.reduceAdd, Int.reduceSub, Int.reduceMul, decide_true, decide_false, Bool.not_true, Bool.not_false, gChain_def, hIsa_int, hIsa_intb, hIsa_list, hIsa_tuple, gDrop_def, enb]
  have t2 : gTest (gOp hNe (gVar 10) (gVar 11)) [d0, d1, .int (k : Nat), .list (rows'.map encI), .int (i : Nat), .list ((NB p (x :: ns)).map .int), .int (p : Nat), d7, .int a, .int b, .int (gx row a), .int (gx row b), x12] = .ok (!(gx row a == gx row b)) := by
    simp only [bnd_ok, gVar_def, gC_def, gOp_def, gUn_def, gNil_def, gCons_def, gIf_def, gTest_def, gNot_def, gAnd_def, gOr_def, gAndV_def, gOrV_def, gNotV_def, gCB_def, asB_b, hAdd_i, hSub_i, hLt_i, hLe_i, hGt_i, hGe_i, hMul_r, hMul_l, hMod_i, hDiv_s, hBand_i, hShr_i, hPow_10_18, hPow_10_27, hPow_10_28, hPow_10_29, hPow_10_30, hEq_i, hNe_i, hLen_l, hLen_t, hMin2_i, hMax2_i, hMin3_i, hInt1_b, hInt1_i, hBits_i, hListOf_l, hListOf_t, hTupOf_l, hTupOf_t, gSeqS_def, gSet_def, gRet_def, gIfS_def, gNext_def, gTup_def, gLst_def, List.getElem?_cons_zero, List.getElem?_cons_succ, List.set_cons_zero, List.set_cons_succ, List.length_cons, List.length_nil, Nat.zero_add, Nat.reduceAdd, Nat.reduceLeDiff, Nat.reduceSub, Nat.reduceMul, if_true, if_false, Bool.false_eq_true, List.replicate_succ, List.replicate_zero, List.cons_append, List.nil_append, tgN, tgT, tgCons, tgNil, Int.reducePow, Int.reduceAdd, Int.reduceSub, Int.reduceMul, decide_true, decide_false, Bool.not_true, Bool.not_false, gChain_def, hIsa_int, hIsa_intb, hIsa_list, hIsa_tuple, gDrop_def]
  by_cases c : x = 0 ∧ gx row a ≠ gx row b
  · obtain ⟨cx, cd⟩ := c
    subst cx
    obtain ⟨e, he⟩ : rows' = rows ∧ ∀ j (h : j < rows.length), j < i → gx rows[j] a = gx rows[j] b := by
      rcases hI with ⟨_, e, he⟩ | ⟨m, hmm, hmi, ex, _⟩
      · exact ⟨e, he⟩
      · omega
    subst e
    have hlc := gLc_map PyData.int (fun _ => true) (fun m => PyData.int (if m = gx row a then gx row b else m)) (gi := gSeq (gOp hIx (gVar 3) (gVar 4))) (h := tgN 12) (gt := gYes) (ge := gOp hIx (gLst (gCons (gVar 12) (gCons (gVar 11) (gNil)))) (gCB hInt1 (gCons (gOp hEq (gVar 12) (gVar 10)) (gNil))))
      (ρ := [d0, d1, .int (k : Nat), .list (rows'.map encI), .int (i : Nat), .list ((NB p (((i : Int) + 1) :: ns)).map .int), .int (p : Nat), d7, .int a, .int b, .int (gx row a), .int (gx row b), x12]) (xs := row) (seqG_l (by simp only [bnd_ok, gVar_def, gC_def, gOp_def, gUn_def, gNil_def, gCons_def, gIf_def, gTest_def, gNot_def, gAnd_def, gOr_def, gAndV_def, gOrV_def, gNotV_def, gCB_def, asB_b, hAdd_i, hSub_i, hLt_i, hLe_i, hGt_i, hGe_i, hMul_r, hMul_l, hMod_i, hDiv_s, hBand_i, hShr_i, hPow_10_18, hPow_10_27, hPow_10_28, hPow_10_29, hPow_10_30, hEq_i, hNe_i, hLen_l, hLen_t, hMin2_i, hMax2_i, hMin3_i, hInt1_b, hInt1_i, hBits_i, hListOf_l, hListOf_t, hTupOf_l, hTupOf_t, gSeqS_def, gSet_def, gRet_def, gIfS_def, gNext_def, gTup_def, gLst_def, List.getElem?_cons_zero, List.getElem?_cons_succ, List.set_cons_zero, List.set_cons_succ, List.length_cons, List.length_nil, Nat.zero_add, Nat.reduceAdd, Nat.reduceLeDiff, Nat.reduceSub, Nat.reduceMul, if_true, if_false, Bool.false_eq_true, List.replicate_succ, List.replicate_zero, List.cons_append, List.nil_append, tgN, tgT, tgCons, tgNil, Int.reducePow, Int.reduceAdd, Int.reduceSub, Int.reduceMul, decide_true, decide_false, Bool.not_true, Bool.not_false, gChain_def, hIsa_int, hIsa_intb, hIsa_list, hIsa_tuple, gDrop_def, eix]; rfl)) (by omega) (fun m _ => ⟨[d0, d1, .int (k : Nat), .list (rows'.map encI), .int (i : Nat), .list ((NB p (((i : Int) + 1) :: ns)).map .int), .int (p : Nat), d7, .int a, .int b, .int (gx row a), .int (gx row b), .int m], rfl, rfl, fun _ => by
        have el : gLst (gCons (gVar 12) (gCons (gVar 11) (gNil))) [d0, d1, .int (k : Nat), .list (rows'.map encI), .int (i : Nat), .list ((NB p (((i : Int) + 1) :: ns)).map .int), .int (p : Nat), d7, .int a, .int b, .int (gx row a), .int (gx row b), .int m] = .ok (.list [.int m, .int (gx row b)]) := rfl
        have ei : gCB hInt1 (gCons (gOp hEq (gVar 12) (gVar 10)) (gNil)) [d0, d1, .int (k : Nat), .list (rows'.map encI), .int (i : Nat), .list ((NB p (((i : Int) + 1) :: ns)).map .int), .int (p : Nat), d7, .int a, .int b, .int (gx row a), .int (gx row b), .int m] = .ok (.int (if m == gx row a then 1 else 0)) := by simp only [bnd_ok, gVar_def, gC_def, gOp_def, gUn_def, gNil_def, gCons_def, gIf_def, gTest_def, gNot_def, gAnd_def, gOr_def, gAndV_def, gOrV_def, gNotV_def, gCB_def, asB_b, hAdd_i, hSub_i, hLt_i, hLe_i, hGt_i, hGe_i, hMul_r, hMul_l, hMod_i, hDiv_s, hBand_i, hShr_i, hPow_10_18, hPow_10_27, hPow_10_28, hPow_10_29, hPow_10_30, hEq_i, hNe_i, hLen_l, hLen_t, hMin2_i, hMax2_i, hMin3_i, hInt1_b, hInt1_i, hBits_i, hListOf_l, hListOf_t, hTupOf_l, hTupOf_t, gSeqS_def, gSet_def, gRet_def, gIfS_def, gNext_def, gTup_def, gLst_def, List.getElem?_cons_zero, List.getElem?_cons_succ, List.set_cons_zero, List.set_cons_succ, List.length_cons, List.length_nil, Nat.zero_add, Nat.reduceAdd, Nat.reduceLeDiff, Nat.reduceSub, Nat.reduceMul, if_true, if_false, Bool.false_eq_true, List.replicate_succ, List.replicate_zero, List.cons_append, List.nil_append, tgN, tgT, tgCons, tgNil, Int.reducePow, Int.reduceAdd, Int.reduceSub, Int.reduceMul, decide_true, decide_false, Bool.not_true, Bool.not_false, gChain_def, hIsa_int, hIsa_intb, hIsa_list, hIsa_tuple, gDrop_def]
        rw [gOp_def, el, ei, bnd_ok, bnd_ok]
        by_cases z : m = gx row a
        · rw [if_pos z, beq_iff_eq.mpr z]; rfl
        · rw [if_neg z, beq_eq_false_iff_ne.mpr z]; rfl⟩)
    have hmm : ((row.filter fun _ => true).map fun m => PyData.int (if m = gx row a then gx row b else m)) = (rlb (gx row a) (gx row b) row).map .int := by
      rw [List.filter_eq_self.mpr (fun _ _ => rfl)]
      unfold rlb
      rw [List.map_map]
      rfl
    rw [hmm] at hlc
    refine ⟨rows'.set i (rlb (gx row a) (gx row b) row), (i : Int) + 1, .int (gx row a), .int (gx row b), ?_, .inr ⟨i, hi', by omega, rfl, by rw [hro], fun j h hj => he j h hj, by rw [hro]; exact cd⟩⟩
    unfold g_l_layers_of_L1
    refine seq_step (set_ok q1) ?_
    dsimp only [List.set]
    refine seq_step (set_ok q2) ?_
    dsimp only [List.set]
    refine (if_t ?_).trans ?_
    · rw [gAnd_def, t1, t2, beq_eq_false_iff_ne.mpr cd]
      rfl
    refine seq_step (setI_ok (ds := (NB p (0 :: ns)).map .int) (d := .int ((i : Int) + 1)) (j := (p : Int)) (by simp only [bnd_ok, gVar_def, gC_def, gOp_def, gUn_def, gNil_def, gCons_def, gIf_def, gTest_def, gNot_def, gAnd_def, gOr_def, gAndV_def, gOrV_def, gNotV_def, gCB_def, asB_b, hAdd_i, hSub_i, hLt_i, hLe_i, hGt_i, hGe_i, hMul_r, hMul_l, hMod_i, hDiv_s, hBand_i, hShr_i, hPow_10_18, hPow_10_27, hPow_10_28, hPow_10_29, hPow_10_30, hEq_i, hNe_i, hLen_l, hLen_t, hMin2_i, hMax2_i, hMin3_i, hInt1_b, hInt1_i, hBits_i, hListOf_l, hListOf_t, hTupOf_l, hTupOf_t, gSeqS_def, gSet_def, gRet_def, gIfS_def, gNext_def, gTup_def, gLst_def, List.getElem?_cons_zero, List.getElem?_cons_succ, List.set_cons_zero, List.set_cons_succ, List.length_cons, List.length_nil, Nat.zero_add, Nat.reduceAdd, Nat.reduceLeDiff, Nat.reduceSub, Nat.reduceMul, if_true, if_false, Bool.false_eq_true, List.replicate_succ, List.replicate_zero, List.cons_append, List.nil_append, tgN, tgT, tgCons, tgNil, Int.reducePow, Int.reduceAdd, Int.reduceSub, Int.reduceMul, decide_true, decide_false, Bool.not_true, Bool.not_false, gChain_def, hIsa_int, hIsa_intb, hIsa_list, hIsa_tuple, gDrop_def]) rfl rfl (by omega) (by rw [List.length_map, NB_len, List.length_cons]; omega)) ?_
    rw [Int.toNat_natCast, NB_set]
    dsimp only [List.set]
    refine (setI_ok (ds := rows'.map encI) (d := encI (rlb (gx row a) (gx row b) row)) (j := (i : Int)) hlc rfl rfl (by omega) (by rw [List.length_map]; omega)).trans ?_
    rw [Int.toNat_natCast, set_map_enc]
    rfl
  · refine ⟨rows', x, .int (gx row a), .int (gx row b), ?_, ?_⟩
    · unfold g_l_layers_of_L1
      refine seq_step (set_ok q1) ?_
      dsimp only [List.set]
      refine seq_step (set_ok q2) ?_
      dsimp only [List.set]
      refine (if_f ?_).trans rfl
      rw [gAnd_def, t1, t2]
      by_cases z : x = 0
      · have : gx row a = gx row b := Classical.byContradiction fun y => c ⟨z, y⟩
        rw [beq_iff_eq.mpr z, beq_iff_eq.mpr this]
        rfl
      · rw [beq_eq_false_iff_ne.mpr z]
        rfl
    · rcases hI with ⟨e0, e, he⟩ | ⟨m, hmm, hmi, ex, er, he, hd⟩
      · refine .inl ⟨e0, e, fun j h hj => ?_⟩
        subst e
        by_cases z : j = i
        · subst z
          rw [hro]
          exact Classical.byContradiction fun y => c ⟨e0, y⟩
        · exact he j h (by omega)
      · exact .inr ⟨m, hmm, by omega, ex, er, he, hd⟩
theorem inv_end {n : Int} {k : Nat} {s : List T3} {t : T3} {rows rows' : List (List Int)} {x : Int} (hR : RowsOk n k rows s) (a0 : 0 ≤ t.2.1) (a1 : t.2.1 < n) (b0 : 0 ≤ t.2.2) (b1 : t.2.2 < n) (h : Inv rows t.2.1 t.2.2 k rows' x) :
    x = num k s (lay k s) t.2.1 t.2.2 ∧ RowsOk n k rows' (t :: s) := by
  have hker : ∀ j (h : j < rows.length), gx rows[j] t.2.1 = gx rows[j] t.2.2 ↔ Conn (layer ((j : Int) + 1) s (lay k s)) t.2.1 t.2.2 := fun j h => (hR.mkr j h).ker _ _ a0 a1 b0 b1
  have hl := hR.len
  rcases h with ⟨e0, e, he⟩ | ⟨m, hm, hmk, ex, e, he, hd⟩
  · have hn : num k s (lay k s) t.2.1 t.2.2 = 0 := by
      unfold num
      rcases fj_spec (p := fun j => ¬ Conn (layer ((j : Int) + 1) s (lay k s)) t.2.1 t.2.2) k 0 with ⟨h1, _⟩ | ⟨i, hi, _, hp, _⟩
      · exact h1
      · rw [Nat.zero_add] at hp
        exact absurd ((hker i (by omega)).mp (he i (by omega) hi)) hp
    rw [e0, hn, e]
    exact ⟨rfl, hR.stay hn⟩
  · have hn : num k s (lay k s) t.2.1 t.2.2 = (m : Int) + 1 := by
      unfold num
      have hpm : ¬ Conn (layer ((m : Int) + 1) s (lay k s)) t.2.1 t.2.2 := fun z => hd ((hker m hm).mpr z)
      rcases fj_spec (p := fun j => ¬ Conn (layer ((j : Int) + 1) s (lay k s)) t.2.1 t.2.2) k 0 with ⟨_, h2⟩ | ⟨i, hi, h1, hp, hq⟩
      · have := h2 m hmk
        rw [Nat.zero_add] at this
        exact absurd hpm this
      · rw [Nat.zero_add] at hp
        have e1 : i = m := by
          rcases Nat.lt_trichotomy i m with z | z | z
          · exact absurd ((hker i (by omega)).mp (he i (by omega) z)) hp
          · exact z
          · have := hq m z
            rw [Nat.zero_add] at this
            exact absurd hpm this
        rw [h1, e1]
        omega
    rw [ex, hn, e]
    exact ⟨rfl, hR.put a0 a1 b0 b1 hm hn (.inl ⟨rfl, rfl⟩)⟩
theorem layers_of_ok {n : Int} {k : Nat} {r : List T3} (hr : InN n r) (hl : r.length ≤ 90) (n1 : 1 ≤ n) (n10 : n ≤ 10) (k6 : k ≤ 6) :
    f_l_layers_of [.int n, .list (r.map enc3), .int (k : Nat)] = .ok (.list ((lay k r).map .int)) := by
  refine fnL_rt ?_
  show g_l_layers_of [.int n, .list (r.map enc3), .int (k : Nat), .none, .none, .none, .none, .none, .none, .none, .none, .none, .none] = _
  unfold g_l_layers_of
  have rg : ∀ x, gLsI (gRng1 (gCons (gVar 0) gNil)) [.int n, .list (r.map enc3), .int (k : Nat), .none, .int x, .none, .none, .none, .none, .none, .none, .none, .none] = .ok (encI (pl n)) := fun x =>
    lsI_ok (ds := (pl n).map .int) (by rw [rng1_ok (show gCons (gVar 0) gNil _ = .ok [.int n] from rfl) (by omega) (by omega), rangeD_pl]) (by rw [List.length_map, pl_len]; omega)
  have hrows : gLc (gRng1 (gCons (gVar 2) (gNil))) (tgN 4) (gYes) (gLsI (gRng1 (gCons (gVar 0) gNil))) [.int n, .list (r.map enc3), .int (k : Nat), .none, .none, .none, .none, .none, .none, .none, .none, .none, .none] = .ok (.list ((List.replicate k (pl n)).map encI)) := by
    rw [gLc_map PyData.int (fun _ => true) (fun _ => encI (pl n)) (xs := pl k) (by rw [rng1_ok (show gCons (gVar 2) gNil _ = .ok [.int (k : Nat)] from rfl) (by omega) (by omega), rangeD_pl]) (by rw [pl_len]; omega) fun x _ => ⟨_, rfl, rfl, fun _ => rg x⟩]
    rw [List.filter_eq_self.mpr (fun _ _ => rfl), List.map_const', pl_len, List.map_replicate]
    rfl
  have hrep : hRep (.list [.int 0]) (.int (r.length : Nat)) = .ok (.list ((NB r.length []).map .int)) := by
    have h := FamB.hRep_0 (j := (r.length : Int)) (by omega) (by omega)
    rw [Int.toNat_natCast] at h
    rw [h]
    unfold NB
    rw [List.append_nil]
  refine seq_step (set_ok hrows) ?_
  dsimp only [List.set]
  refine seq_step (set_ok (d := .list ((NB r.length []).map .int)) ?_) ?_
  · have e1 : gLst (gCons (gC (.int (0))) (gNil)) [.int n, .list (r.map enc3), .int (k : Nat), .list ((List.replicate k (pl n)).map encI), .none, .none, .none, .none, .none, .none, .none, .none, .none] = .ok (.list [.int 0]) := rfl
    have e2 : gCB hLen (gCons (gVar 1) (gNil)) [.int n, .list (r.map enc3), .int (k : Nat), .list ((List.replicate k (pl n)).map encI), .none, .none, .none, .none, .none, .none, .none, .none, .none] = .ok (.int (r.length : Nat)) := by
      show hLen [.list (r.map enc3)] = _
      rw [hLen_l, List.length_map]
    rw [gOp_def, e1, bnd_ok, e2, bnd_ok, hrep]
  dsimp only [List.set]
  obtain ⟨ρ', hf, rows, x4, x6, x7, x8, x9, x10, x11, rfl, hR⟩ := forE_ix (fun (i : Nat) => PyData.int ((r.length : Int) - 1 - (i : Int))) (h := tgN 6) (b := g_l_layers_of_L2) (List.range r.length)
    (fun i ρ => ∃ rows x4 x6 x7 x8 x9 x10 x11, ρ = [.int n, .list (r.map enc3), .int (k : Nat), .list (rows.map encI), x4, .list ((NB (r.length - i) (lay k (r.drop (r.length - i)))).map .int), x6, x7, x8, x9, x10, x11, .none] ∧ RowsOk n k rows (r.drop (r.length - i)))
    (ρ := [.int n, .list (r.map enc3), .int (k : Nat), .list ((List.replicate k (pl n)).map encI), .none, .list ((NB r.length []).map .int), .none, .none, .none, .none, .none, .none, .none]) ⟨_, _, _, _, _, _, _, _, by rw [Nat.sub_zero, List.drop_length]; rfl, by rw [Nat.sub_zero, List.drop_length]; exact RowsOk.zero⟩ (by
      rintro i ρ hi ⟨rows, x4, x6, x7, x8, x9, x10, x11, rfl, hR⟩
      have hi' := hi
      rw [List.length_range] at hi'
      rw [List.getElem_range]
      obtain ⟨p, ep⟩ : ∃ p, r.length = p + 1 + i := ⟨r.length - 1 - i, by omega⟩
      have e1 : r.length - i = p + 1 := by omega
      have e2 : r.length - (i + 1) = p := by omega
      have e3 : (r.length : Int) - 1 - (i : Int) = (p : Int) := by omega
      have hp : p < r.length := by omega
      rw [e1] at hR ⊢
      rw [e2, e3]
      have ed : r.drop p = r[p] :: r.drop (p + 1) := List.drop_eq_getElem_cons hp
      have eix : hIx (.list (r.map enc3)) (.int (p : Nat)) = .ok (enc3 r[p]) := hIx_l (by rw [atI_map _ (by omega) (by omega)]; rfl)
      obtain ⟨⟨a0, a1⟩, b0, b1⟩ := hr r[p] (List.getElem_mem hp)
      rw [ed, lay_cons]
      generalize r[p] = t at *
      generalize r.drop (p + 1) = s at *
      have e0 : NB (p + 1) (lay k s) = NB p (0 :: lay k s) := by
        unfold NB
        rw [List.replicate_succ', List.append_assoc]
        rfl
      rw [e0]
      have hm : ∀ ms ∈ rows, ms.length = n.toNat := fun ms h => by
        obtain ⟨j, hj, e⟩ := List.getElem_of_mem h
        rw [← e]
        exact (hR.mkr j hj).len
      obtain ⟨ρ2, hf2, rows2, x, z4, z10, z11, rfl, hI⟩ := forE_ix (fun (j : Nat) => PyData.int (j : Int)) (h := tgN 4) (b := g_l_layers_of_L1) (List.range k)
        (fun j ρ => ∃ rows2 x z4 z10 z11, ρ = [.int n, .list (r.map enc3), .int (k : Nat), .list (rows2.map encI), z4, .list ((NB p (x :: lay k s)).map .int), .int (p : Nat), .int t.1, .int t.2.1, .int t.2.2, z10, z11, .none] ∧ Inv rows t.2.1 t.2.2 j rows2 x)
        (ρ := [.int n, .list (r.map enc3), .int (k : Nat), .list (rows.map encI), x4, .list ((NB p (0 :: lay k s)).map .int), .int (p : Nat), .int t.1, .int t.2.1, .int t.2.2, x10, x11, .none]) ⟨rows, 0, x4, x10, x11, rfl, .inl ⟨rfl, rfl, fun j _ h => by omega⟩⟩ (by
          rintro j ρ hj ⟨rows2, x, z4, z10, z11, rfl, hI⟩
          rw [List.length_range] at hj
          rw [List.getElem_range]
          obtain ⟨rows3, x3, y10, y11, hb, hI2⟩ := lay_turn (p := p) (L := 0) (ns := lay k s) hR.len hj hm hI a0 a1 b0 b1 n10 (.int n) (.list (r.map enc3)) (.int t.1) z10 z11 .none
          exact ⟨_, _, rfl, .inl hb, rows3, x3, .int (j : Nat), y10, y11, rfl, hI2⟩)
      rw [List.length_range] at hI
      obtain ⟨hx, hR2⟩ := inv_end hR a0 a1 b0 b1 hI
      subst hx
      refine ⟨_, _, rfl, .inl ?_, rows2, z4, .int (p : Nat), .int t.1, .int t.2.1, .int t.2.2, z10, z11, rfl, hR2⟩
      show g_l_layers_of_L2 [.int n, .list (r.map enc3), .int (k : Nat), .list (rows.map encI), x4, .list ((NB p (0 :: lay k s)).map .int), .int (p : Nat), x7, x8, x9, x10, x11, .none] = _
      unfold g_l_layers_of_L2
      refine seq_step (asg_ok (d := enc3 t) (ρ' := [.int n, .list (r.map enc3), .int (k : Nat), .list (rows.map encI), x4, .list ((NB p (0 :: lay k s)).map .int), .int (p : Nat), .int t.1, .int t.2.1, .int t.2.2, x10, x11, .none]) (by simp only [bnd_ok, gVar_def, gC_def, gOp_def, gUn_def, gNil_def, gCons_def, gIf_def, gTest_def, gNot_def, gAnd_def, gOr_def, gAndV_def, gOrV_def, gNotV_def, gCB_def, asB_b, hAdd_i, hSub_i, hLt_i, hLe_i, hGt_i, hGe_i, hMul_r, hMul_l, hMod_i, hDiv_s, hBand_i, hShr_i, hPow_10_18, hPow_10_27, hPow_10_28, hPow_10_29, hPow_10_30, hEq_i, hNe_i, hLen_l, hLen_t, hMin2_i, hMax2_i, hMin3_i, hInt1_b, hInt1_i, hBits_i, hListOf_l, hListOf_t, hTupOf_l, hTupOf_t, gSeqS_def, gSet_def, gRet_def, gIfS_def, gNext_def, gTup_def, gLst_def, List.getElem?_cons_zero, List.getElem?_cons_succ, List.set_cons_zero, List.set_cons_succ, List.length_cons, List.length_nil, Nat.zero_add, Nat.reduceAdd, Nat.reduceLeDiff, Nat.reduceSub, Nat.reduceMul, if_true, if_false, Bool.false_eq_true, List.replicate_succ, List.replicate_zero, List.cons_append, List.nil_append, tgN, tgT, tgCons, tgNil, Int.reducePow, Int.reduceAdd, Int.reduceSub, Int.reduceMul, decide_true, decide_false, Bool.not_true, Bool.not_false, gChain_def, hIsa_int, hIsa_intb, hIsa_list, hIsa_tuple, gDrop_def, eix]) rfl) ?_
      refine for_ok (ds := (List.range k).map fun (j : Nat) => PyData.int (j : Int)) ?_ hf2
      refine (rng1_ok (j := (k : Int)) rfl (by omega) (by omega)).trans ?_
      unfold rangeD
      simp)
  rw [List.length_range, Nat.sub_self] at hf
  refine seq_step (for_ok (ds := (List.range r.length).map fun (i : Nat) => PyData.int ((r.length : Int) - 1 - (i : Int))) ?_ hf) ?_
  · have e : gCons (gOp hSub (gCB hLen (gCons (gVar 1) (gNil))) (gC (.int (1)))) (gCons (gUn (hU fun i => -i) (gC (.int (1)))) (gCons (gUn (hU fun i => -i) (gC (.int (1)))) (gNil))) [.int n, .list (r.map enc3), .int (k : Nat), .list ((List.replicate k (pl n)).map encI), .none, .list ((NB r.length []).map .int), .none, .none, .none, .none, .none, .none, .none] = .ok [.int ((r.length : Int) - 1), .int (-1), .int (-1)] := by
      simp only [bnd_ok, gVar_def, gC_def, gOp_def, gUn_def, gNil_def, gCons_def, gIf_def, gTest_def, gNot_def, gAnd_def, gOr_def, gAndV_def, gOrV_def, gNotV_def, gCB_def, asB_b, hAdd_i, hSub_i, hLt_i, hLe_i, hGt_i, hGe_i, hMul_r, hMul_l, hMod_i, hDiv_s, hBand_i, hShr_i, hPow_10_18, hPow_10_27, hPow_10_28, hPow_10_29, hPow_10_30, hEq_i, hNe_i, hLen_l, hLen_t, hMin2_i, hMax2_i, hMin3_i, hInt1_b, hInt1_i, hBits_i, hListOf_l, hListOf_t, hTupOf_l, hTupOf_t, gSeqS_def, gSet_def, gRet_def, gIfS_def, gNext_def, gTup_def, gLst_def, List.getElem?_cons_zero, List.getElem?_cons_succ, List.set_cons_zero, List.set_cons_succ, List.length_cons, List.length_nil, Nat.zero_add, Nat.reduceAdd, Nat.reduceLeDiff, Nat.reduceSub, Nat.reduceMul, if_true, if_false, Bool.false_eq_true, List.replicate_succ, List.replicate_zero, List.cons_append, List.nil_append, tgN, tgT, tgCons, tgNil, Int.reducePow, Int.reduceAdd, Int.reduceSub, Int.reduceMul, decide_true, decide_false, Bool.not_true, Bool.not_false, gChain_def, hIsa_int, hIsa_intb, hIsa_list, hIsa_tuple, gDrop_def, List.length_map]
      rfl
    refine (rng3_ok (by exact e) (by omega) (by omega) (by omega) (by omega)).trans ?_
    rw [down_nat]
    have e2 : ((r.length : Int) - 1 - -1).toNat = r.length := by omega
    rw [e2]
  · have e : NB 0 (lay k (r.drop 0)) = lay k r := by
      rw [List.drop_zero]
      unfold NB
      rw [List.replicate_zero, List.nil_append]
    rw [e]
    exact ret_ok rfl
end K18
end T_K18L
section T_EqP
set_option linter.all false
set_option maxRecDepth 100000
namespace Sim
open PySem
mutual
theorem eqv_self : ∀ d : PyData, PyData.canLay0 d = true → PyData.eqv d d = true
  | .none, _ => by unfold PyData.eqv; rfl
  | .bool b, _ => by unfold PyData.eqv; simp
  | .int i, _ => by unfold PyData.eqv; simp
  | .str x, _ => by unfold PyData.eqv; simp
  | .list xs, h => by
    unfold PyData.eqv
    unfold PyData.canLay0 at h
    exact eqvAll_self xs h
  | .tuple xs, h => by
    unfold PyData.eqv
    unfold PyData.canLay0 at h
    exact eqvAll_self xs h
  | .dict es, h => by unfold PyData.canLay0 at h; cases h
theorem eqvAll_self : ∀ ds : List PyData, PyData.canLayAll0 ds = true → PyData.eqvAll ds ds = true
  | [], _ => by unfold PyData.eqvAll; rfl
  | d :: ds, h => by
    unfold PyData.eqvAll
    unfold PyData.canLayAll0 at h
    rw [Bool.and_eq_true] at h ⊢
    exact ⟨eqv_self d h.1, eqvAll_self ds h.2⟩
end
theorem hEq_self {d : PyData} (h : SeqAt.shaped d = true) : hEq d d = .ok (.bool true) := by
  unfold hEq
  rw [h, eqv_self d (SeqAt.canLay_of_shaped h)]
  rfl
theorem hNe_self {d : PyData} (h : SeqAt.shaped d = true) : hNe d d = .ok (.bool false) := by
  unfold hNe
  rw [h, eqv_self d (SeqAt.canLay_of_shaped h)]
  rfl
theorem layA_of {ds : List PyData} (h : ∀ d ∈ ds, PyData.canLay0 d = true) : PyData.canLayAll0 ds = true := by
  induction ds with
  | nil => rfl
  | cons d ds ih =>
    unfold PyData.canLayAll0
    rw [h d List.mem_cons_self, ih fun e he => h e (List.mem_cons_of_mem _ he)]
    rfl
theorem depA_of {ds : List PyData} {m : Nat} (h : ∀ d ∈ ds, PyData.depth d ≤ m) : PyData.depthAll ds ≤ m := by
  induction ds with
  | nil => unfold PyData.depthAll; omega
  | cons d ds ih =>
    unfold PyData.depthAll
    have h1 := h d List.mem_cons_self
    have h2 := ih fun e he => h e (List.mem_cons_of_mem _ he)
    omega
def Shp (m : Nat) (d : PyData) : Prop := PyData.canLay0 d = true ∧ PyData.depth d ≤ m
theorem Shp.shaped {m : Nat} {d : PyData} (h : Shp m d) (hm : m ≤ 64) : SeqAt.shaped d = true := by
  unfold SeqAt.shaped
  rw [h.1, decide_eq_true (by have := h.2; omega)]
  rfl
theorem shp_int (i : Int) (m : Nat) : Shp m (.int i) := ⟨rfl, by unfold PyData.depth; omega⟩
theorem shp_list {ds : List PyData} {m : Nat} (h : ∀ d ∈ ds, Shp m d) : Shp (m + 1) (.list ds) := ⟨by unfold PyData.canLay0; exact layA_of fun d hd => (h d hd).1, by
  unfold PyData.depth
  have := depA_of fun d hd => (h d hd).2
  omega⟩
theorem shp_tup {ds : List PyData} {m : Nat} (h : ∀ d ∈ ds, Shp m d) : Shp (m + 1) (.tuple ds) := ⟨by unfold PyData.canLay0; exact layA_of fun d hd => (h d hd).1, by
  unfold PyData.depth
  have := depA_of fun d hd => (h d hd).2
  omega⟩
theorem Shp.mono {m k : Nat} {d : PyData} (h : Shp m d) (hm : m ≤ k) : Shp k d := ⟨h.1, Nat.le_trans h.2 hm⟩
theorem shp_intsT (xs : List Int) (m : Nat) : Shp (m + 1) (.tuple (xs.map .int)) := shp_tup fun d hd => by
  obtain ⟨x, _, rfl⟩ := List.mem_map.mp hd
  exact shp_int x m
end Sim
end T_EqP
section T_NetM
set_option linter.all false
set_option maxRecDepth 100000
namespace Nets
open PySem Sim FamA FamL Lay K24
noncomputable def N (k : Nat) (R : List T3) (p : T3 → Bool) : List T3 := KP k (R.filter p)
end Nets
end T_NetM
section T_K18D
set_option linter.all false
set_option maxRecDepth 100000
set_option maxHeartbeats 4000000
namespace K18
open PySem Sim FamA FamB FamL Lay K24 Nets
open N (netD)
def BadNet (d : Dt) : Prop := f_is_net [d] = .ok (.bool false)
theorem bn_not {d : Dt} (h : hIsa .tuple d = .ok (.bool false)) : BadNet d := by
  refine fnN_rt ?_
  show g_is_net [d, .none, .none, .none] = _
  unfold g_is_net
  refine seq_rt ((if_t ?_).trans rfl)
  simp only [gOr_def, gNot_def, gTest_def, gUn_def, gVar_def, List.getElem?_cons_zero, bnd_ok, h, asB_b, Bool.not_false, if_true]
theorem bn_len {ds : List Dt} (h : ((ds.length : Int) == 3) = false) : BadNet (.tuple ds) := by
  refine fnN_rt ?_
  show g_is_net [.tuple ds, .none, .none, .none] = _
  unfold g_is_net
  refine seq_rt ((if_t ?_).trans rfl)
  simp only [bnd_ok, gVar_def, gC_def, gOp_def, gUn_def, gNil_def, gCons_def, gIf_def, gTest_def, gNot_def, gAnd_def, gOr_def, gAndV_def, gOrV_def, gNotV_def, gCB_def, asB_b, hAdd_i, hSub_i, hLt_i, hLe_i, hGt_i, hGe_i, hMul_r, hMul_l, hMod_i, hDiv_s, hBand_i, hShr_i, hPow_10_18, hPow_10_27, hPow_10_28, hPow_10_29, hPow_10_30, hEq_i, hNe_i, hLen_l, hLen_t, hMin2_i, hMax2_i, hMin3_i, hInt1_b, hInt1_i, hBits_i, hListOf_l, hListOf_t, hTupOf_l, hTupOf_t, gSeqS_def, gSet_def, gRet_def, gIfS_def, gNext_def, gTup_def, gLst_def, List.getElem?_cons_zero, List.getElem?_cons_succ, List.set_cons_zero, List.set_cons_succ, List.length_cons, List.length_nil, Nat.zero_add, Nat.reduceAdd, Nat.reduceLeDiff, Nat.reduceSub, Nat.reduceMul, if_true, if_false, Bool.false_eq_true, List.replicate_succ, List.replicate_zero, List.cons_append, List.nil_append, tgN, tgT, tgCons, tgNil, Int.reducePow, Int.reduceAdd, Int.reduceSub, Int.reduceMul, decide_true, decide_false, Bool.not_true, Bool.not_false, gChain_def, hIsa_int, hIsa_intb, hIsa_list, hIsa_tuple, gDrop_def, h]
theorem bn_3 {x y z : Dt} {c : Bool} (h : (f_is_count [x, .int 10] = .ok (.bool false)) ∨ (f_is_count [x, .int 10] = .ok (.bool true) ∧ (f_is_count [y, .int 6] = .ok (.bool false) ∨ (f_is_count [y, .int 6] = .ok (.bool true) ∧ (f_is_record [x, z] = .ok (.bool false) ∨ (f_is_record [x, z] = .ok (.bool true) ∧ ∃ L : List Int, f_layered [x, z, y] = .ok (.list (L.map .int)) ∧ (0 : Int) ∈ L)))))) : BadNet (.tuple [x, y, z]) := by
  refine fnN_rt ?_
  show g_is_net [.tuple [x, y, z], .none, .none, .none] = _
  unfold g_is_net
  have t1 : gTest (gUn (hIsa .tuple) (gVar 0)) [.tuple [x, y, z], .none, .none, .none] = .ok true := rfl
  have t2 : gTest (gOp hNe (gCB hLen (gCons (gVar 0) (gNil))) (gC (.int (3)))) [.tuple [x, y, z], .none, .none, .none] = .ok false := by
    rw [gTest_def, gOp_def]
    show bnd (hNe (.int 3) (.int 3)) asB = _
    rw [hNe_i]
    rfl
  refine seq_step ((if_f (by simp only [gOr_def, gNot_def, t1, t2, bnd_ok, Bool.not_true, Bool.false_eq_true, if_false])).trans rfl) ?_
  refine seq_step (ρ' := [.tuple [x, y, z], x, y, z]) (asg_ok (by rfl) (by rfl)) ?_
  have c1 : ∀ v, f_is_count [x, .int 10] = .ok (.bool v) → gCallN 2 f_is_count (gCons (gVar 1) (gCons (gC (.int (10))) (gNil))) [.tuple [x, y, z], x, y, z] = .ok (.bool v) := fun v h => callN_ok (ds := [x, .int 10]) rfl rfl h
  have c2 : ∀ v, f_is_count [y, .int 6] = .ok (.bool v) → gCallN 2 f_is_count (gCons (gVar 2) (gCons (gC (.int (6))) (gNil))) [.tuple [x, y, z], x, y, z] = .ok (.bool v) := fun v h => callN_ok (ds := [y, .int 6]) rfl rfl h
  have c3 : ∀ v, f_is_record [x, z] = .ok (.bool v) → gCallN 2 f_is_record (gCons (gVar 1) (gCons (gVar 3) (gNil))) [.tuple [x, y, z], x, y, z] = .ok (.bool v) := fun v h => callN_ok (ds := [x, z]) rfl rfl h
  rcases h with h | ⟨h, h2 | ⟨h2, h3 | ⟨h3, L, h4, h5⟩⟩⟩
  · refine seq_rt ((if_t ?_).trans rfl)
    simp only [gOr_def, gNot_def, gTest_def, c1 _ h, bnd_ok, asB_b, Bool.not_false, if_true]
  · refine seq_rt ((if_t ?_).trans rfl)
    simp only [gOr_def, gNot_def, gTest_def, c1 _ h, c2 _ h2, bnd_ok, asB_b, Bool.not_false, Bool.not_true, if_true, if_false, Bool.false_eq_true]
  · refine seq_rt ((if_t ?_).trans rfl)
    simp only [gOr_def, gNot_def, gTest_def, c1 _ h, c2 _ h2, c3 _ h3, bnd_ok, asB_b, Bool.not_false, Bool.not_true, if_true, if_false, Bool.false_eq_true]
  · refine seq_step ((if_f (by simp only [gOr_def, gNot_def, gTest_def, c1 _ h, c2 _ h2, c3 _ h3, bnd_ok, asB_b, Bool.not_true, Bool.false_eq_true, if_false])).trans rfl) ?_
    refine ret_ok ?_
    have c4 : gCallN 3 f_layered (gCons (gVar 1) (gCons (gVar 3) (gCons (gVar 2) (gNil)))) [.tuple [x, y, z], x, y, z] = .ok (.list (L.map .int)) := callN_ok (ds := [x, z, y]) rfl rfl h4
    have hz : decide ((0 : Int) ∈ L) = true := decide_eq_true h5
    rw [gOp_def, gC_def, c4, bnd_ok, bnd_ok, hNotIn_ints, hz]
    rfl
theorem cnt_yes {z m : Int} (h : 1 ≤ z ∧ z ≤ m) : f_is_count [.int z, .int m] = .ok (.bool true) := by
  rw [N.count_ok, decide_eq_true h.1, decide_eq_true h.2]
  rfl
theorem cnt_no {z m : Int} (h : ¬ (1 ≤ z ∧ z ≤ m)) : f_is_count [.int z, .int m] = .ok (.bool false) := by
  rw [N.count_ok]
  have : (decide (1 ≤ z) && decide (z ≤ m)) = false := by simpa using h
  rw [this]
theorem rec_not {n : Int} {z : Dt} (h : hIsa .list z = .ok (.bool false)) : f_is_record [.int n, z] = .ok (.bool false) := by
  refine fnN_rt ?_
  show g_is_record [.int n, z, .none, .none] = _
  unfold g_is_record
  refine seq_rt ((if_t ?_).trans rfl)
  simp only [gOr_def, gNot_def, gTest_def, gUn_def, gVar_def, List.getElem?_cons_zero, List.getElem?_cons_succ, bnd_ok, h, asB_b, Bool.not_false, if_true]
theorem rec_odd {n : Int} {t : T3} (h : N.okT n t = false) : f_is_record [.int n, .list [enc3 t]] = .ok (.bool false) := by
  have := N.rec_enc (n := n) (r := [t]) (by simp)
  rw [List.all_cons, h] at this
  exact this
theorem num_refl (k : Nat) (s : List T3) (ns : List Int) (a : Int) : num k s ns a a = 0 := by
  unfold num
  have : ∀ (m lo : Nat), fj (fun j => ¬ Conn (layer ((j : Int) + 1) s ns) a a) lo m = 0 := by
    intro m
    induction m with
    | zero => intro lo; rfl
    | succ m ih =>
      intro lo
      unfold fj
      rw [if_neg (fun z => z (.refl a))]
      exact ih _
  exact this _ _
theorem ok1 {n m : Int} (h : 1 ≤ n) (hm : 0 ≤ m ∧ m ≤ 100) : N.okT n (m, 0, 0) = true := by
  unfold N.okT N.tieB
  rw [decide_eq_true (show (0 : Int) ≤ m by omega), decide_eq_true (show m ≤ 1000000000000000000000000000000 by omega), decide_eq_true (show (0 : Int) ≤ 0 by omega), decide_eq_true (show (0 : Int) < n by omega)]
  rfl
end K18
end T_K18D
section T_XevP
set_option linter.all false
set_option maxRecDepth 100000
namespace Sim
open PySem
theorem vx_nil {ρ : List Dt} : xNil ρ = .ok ([], ρ) := rfl
theorem vx_cons {a : Gx} {b : List Dt → O (List Dt × List Dt)} {ρ ρ1 ρ2 : List Dt} {x : Dt} {xs : List Dt} (h1 : a ρ = .ok (x, ρ1)) (h2 : b ρ1 = .ok (xs, ρ2)) : xCons a b ρ = .ok (x :: xs, ρ2) := by
  rw [xCons_def, h1, bnd_ok]
  show bnd (b ρ1) _ = _
  rw [h2, bnd_ok]
theorem vx_p {g : Gd} {ρ : List Dt} {d : Dt} (h : g ρ = .ok d) : xP g ρ = .ok (d, ρ) := by rw [xP_def, h, bnd_ok]
theorem vx_lst {a : List Dt → O (List Dt × List Dt)} {ρ ρ' : List Dt} {xs : List Dt} (h : a ρ = .ok (xs, ρ')) (hl : xs.length ≤ 100000) : xLst a ρ = .ok (.list xs, ρ') := by
  unfold xLst
  rw [h, bnd_ok, if_pos hl]
theorem vx_op {h : Dt → Dt → O Dt} {a b : Gx} {ρ ρ1 ρ2 : List Dt} {x y z : Dt} (h1 : a ρ = .ok (x, ρ1)) (h2 : b ρ1 = .ok (y, ρ2)) (h3 : h x y = .ok z) : xOp h a b ρ = .ok (z, ρ2) := by
  rw [xOp_def, h1, bnd_ok]
  show bnd (b ρ1) _ = _
  rw [h2, bnd_ok]
  show bnd (h x y) _ = _
  rw [h3, bnd_ok]
theorem vx_test {g : Gx} {ρ ρ' : List Dt} {b : Bool} (h : g ρ = .ok (.bool b, ρ')) : xTest g ρ = .ok (b, ρ') := by
  rw [xTest_def, h, bnd_ok]
  rfl
theorem vx_not {t : List Dt → O (Bool × List Dt)} {ρ ρ' : List Dt} {b : Bool} (h : t ρ = .ok (b, ρ')) : xNot t ρ = .ok (!b, ρ') := by
  rw [xNot_def, h, bnd_ok]
theorem vx_pt {t : List Dt → O Bool} {ρ : List Dt} {b : Bool} (h : t ρ = .ok b) : xPT t ρ = .ok (b, ρ) := by rw [xPT_def, h, bnd_ok]
theorem vx_orF {t u : List Dt → O (Bool × List Dt)} {ρ ρ' : List Dt} {z : O (Bool × List Dt)} (h : t ρ = .ok (false, ρ')) (k : u ρ' = z) : xOr t u ρ = z := by
  rw [xOr_def, h, bnd_ok]
  simpa using k
end Sim
namespace Sim
open PySem
theorem vg_cons {a : Gd} {b : List Dt → O (List Dt)} {ρ : List Dt} {x : Dt} {xs : List Dt} (h1 : a ρ = .ok x) (h2 : b ρ = .ok xs) : gCons a b ρ = .ok (x :: xs) := by rw [gCons_def, h1, bnd_ok, h2, bnd_ok]
theorem vg_op {h : Dt → Dt → O Dt} {a b : Gd} {ρ : List Dt} {x y z : Dt} (h1 : a ρ = .ok x) (h2 : b ρ = .ok y) (h3 : h x y = .ok z) : gOp h a b ρ = .ok z := by rw [gOp_def, h1, bnd_ok, h2, bnd_ok, h3]
theorem vg_test {a : Gd} {ρ : List Dt} {b : Bool} (h : a ρ = .ok (.bool b)) : gTest a ρ = .ok b := by rw [gTest_def, h]; rfl
theorem vg_not {t : List Dt → O Bool} {ρ : List Dt} {b : Bool} (h : t ρ = .ok b) : gNot t ρ = .ok (!b) := by rw [gNot_def, h]; rfl
theorem vg_orF {t u : List Dt → O Bool} {ρ : List Dt} {z : O Bool} (h : t ρ = .ok false) (k : u ρ = z) : gOr t u ρ = z := by
  rw [gOr_def, h, bnd_ok]
  simpa using k
theorem vg_orT {t u : List Dt → O Bool} {ρ : List Dt} (h : t ρ = .ok true) : gOr t u ρ = .ok true := by
  rw [gOr_def, h, bnd_ok]
  simp
theorem vg_andT {t u : List Dt → O Bool} {ρ : List Dt} {z : O Bool} (h : t ρ = .ok true) (k : u ρ = z) : gAnd t u ρ = z := by
  rw [gAnd_def, h, bnd_ok]
  simpa using k
theorem vg_andF {t u : List Dt → O Bool} {ρ : List Dt} (h : t ρ = .ok false) : gAnd t u ρ = .ok false := by
  rw [gAnd_def, h, bnd_ok]
  simp
theorem vs_not {ga : Gd} {ρ : List Dt} (h1 : ga ρ = .ok (.bool true)) : gIfS (gNot (gTest ga)) (gRet (gC (.bool false))) (gNext) ρ = .ok (.nx ρ) := (if_f (vg_not (vg_test h1))).trans rfl
end Sim
end T_XevP
section T_FlowM
set_option linter.all false
set_option maxRecDepth 100000
namespace Flow
open PySem Sim FamA
def upd (φ : Int → Int) (m z : Int) : Int → Int := fun x => if x = m then z else φ x
theorem upd_ne {φ : Int → Int} {m z x : Int} (h : x ≠ m) : upd φ m z x = φ x := if_neg h
def rimB (S : Int → Bool) (t : T3) : Bool := S t.2.1 != S t.2.2
def rimN (ts : List T3) (S : Int → Bool) : Nat := (ts.filter (rimB S)).length
def goT (φ : Int → Int) (t : T3) (h : Int) : Option Int :=
  if t.2.1 = t.2.2 then none else if h = t.2.1 ∧ φ t.1 < 1 then some t.2.2 else if h = t.2.2 ∧ -1 < φ t.1 then some t.2.1 else none
theorem goT_end {φ : Int → Int} {t : T3} {h p : Int} (e : goT φ t h = some p) : (h = t.2.1 ∧ p = t.2.2 ∧ φ t.1 < 1 ∨ h = t.2.2 ∧ p = t.2.1 ∧ -1 < φ t.1) ∧ t.2.1 ≠ t.2.2 := by
  unfold goT at e
  by_cases c0 : t.2.1 = t.2.2
  · rw [if_pos c0] at e; cases e
  · rw [if_neg c0] at e
    by_cases c1 : h = t.2.1 ∧ φ t.1 < 1
    · rw [if_pos c1] at e
      cases e
      exact ⟨.inl ⟨c1.1, rfl, c1.2⟩, c0⟩
    · rw [if_neg c1] at e
      by_cases c2 : h = t.2.2 ∧ -1 < φ t.1
      · rw [if_pos c2] at e
        cases e
        exact ⟨.inr ⟨c2.1, rfl, c2.2⟩, c0⟩
      · rw [if_neg c2] at e; cases e
abbrev CL := List (Int × Option (Int × T3))
def kys (cs : CL) : List Int := cs.map (·.1)
inductive Came (φ : Int → Int) (ts : List T3) (s : Int) : CL → Prop
  | one : Came φ ts s [(s, none)]
  | snoc {cs : CL} {h p : Int} {t : T3} : Came φ ts s cs → h ∈ kys cs → t ∈ ts → goT φ t h = some p → p ∉ kys cs → Came φ ts s (cs ++ [(p, some (h, t))])
theorem kys_snoc (cs : CL) (x : Int × Option (Int × T3)) : kys (cs ++ [x]) = kys cs ++ [x.1] := by unfold kys; rw [List.map_append]; rfl
theorem Came.first {φ : Int → Int} {ts : List T3} {s : Int} {cs : CL} (h : Came φ ts s cs) : s ∈ kys cs := by
  induction h with
  | one => exact List.mem_singleton.mpr rfl
  | snoc _ _ _ _ _ ih => rw [kys_snoc]; exact List.mem_append_left _ ih
theorem Came.inN {φ : Int → Int} {ts : List T3} {s n : Int} {cs : CL} (h : Came φ ts s cs) (hs : 0 ≤ s ∧ s < n) (ht : ∀ t ∈ ts, (0 ≤ t.2.1 ∧ t.2.1 < n) ∧ 0 ≤ t.2.2 ∧ t.2.2 < n) : ∀ p ∈ kys cs, 0 ≤ p ∧ p < n := by
  induction h with
  | one => intro p hp; rw [List.mem_singleton.mp hp]; exact hs
  | snoc _ _ hm hg _ ih =>
    intro p hp
    rw [kys_snoc] at hp
    rcases List.mem_append.mp hp with hp | hp
    · exact ih p hp
    · rw [List.mem_singleton.mp hp]
      rcases (goT_end hg).1 with ⟨_, e, _⟩ | ⟨_, e, _⟩
      · rw [e]; exact (ht _ hm).2
      · rw [e]; exact (ht _ hm).1
theorem nodup_sub : ∀ {l m : List Int}, l.Nodup → (∀ p ∈ l, p ∈ m) → l.length ≤ m.length
  | [], _, _, _ => Nat.zero_le _
  | x :: l, m, h, hs => by
    obtain ⟨h1, h2⟩ := List.nodup_cons.mp h
    have hx := hs x List.mem_cons_self
    have := nodup_sub (l := l) (m := m.erase x) h2 fun p hp => (List.mem_erase_of_ne (fun e : p = x => h1 (e ▸ hp))).mpr (hs p (List.mem_cons_of_mem _ hp))
    rw [List.length_erase_of_mem hx] at this
    have := List.length_pos_of_mem hx
    rw [List.length_cons]
    omega
end Flow
end T_FlowM
section T_K18E
set_option linter.all false
set_option maxRecDepth 100000
set_option maxHeartbeats 4000000
namespace K18
open PySem Sim FamA FamL FamB Lay
theorem ends_in {m n N : Int} {p : Dt} {r : List T3} (hp : PotOk m p) (hm : m < 1099511627700) (n1 : 1 ≤ n) (n10 : n ≤ 1000) (hN : n ≤ N) (hr : InN N r) (hl : r.length ≤ 1000) :
    ∃ a b p', f_l_ends [p, .int n, .list (r.map enc3)] = .ok (.tuple [.tuple [.int a, .int b], p']) ∧ 0 ≤ a ∧ a ≤ b ∧ b < N ∧ PotOk (m + 4) p' := by
  obtain ⟨a, p1, h1, a0, a1, hp1⟩ := tk_ok (i := 0) (gA := xCons (xP (gVar 1)) xNil) (ρ := [p, .int n, .list (r.map enc3), .none, .none, .none]) rfl rfl hp (by omega) (by omega : 0 < n) (by omega)
  obtain ⟨b, p2, h2, b0, b1, hp2⟩ := tk_ok (i := 0) (gA := xCons (xP (gVar 1)) xNil) (ρ := [p1, .int n, .list (r.map enc3), .int a, .none, .none]) rfl rfl hp1 (by omega) (by omega : 0 < n) (by omega)
  have fin : ∀ (a b : Int) (p' x5 : Dt), 0 ≤ a → a < N → 0 ≤ b → b < N → PotOk (m + 4) p' → ∃ a' b', xRetM (xP (gTup (gCons (gCB hMin2 (gCons (gVar 3) (gCons (gVar 4) (gNil)))) (gCons (gCB hMax2 (gCons (gVar 3) (gCons (gVar 4) (gNil)))) (gNil))))) [p', .int n, .list (r.map enc3), .int a, .int b, x5] = .ok (.rt (.tuple [.tuple [.int a', .int b'], p'])) ∧ 0 ≤ a' ∧ a' ≤ b' ∧ b' < N := fun a b p' x5 a0 a1 b0 b1 hp' => by
    refine ⟨if b < a then b else a, if b > a then b else a, xret_ok (ρ' := [p', .int n, .list (r.map enc3), .int a, .int b, x5]) (d := .tuple [.int (if b < a then b else a), .int (if b > a then b else a)]) (by rw [xP_def]; simp only [bnd_ok, gVar_def, gC_def, gOp_def, gUn_def, gNil_def, gCons_def, gIf_def, gTest_def, gNot_def, gAnd_def, gOr_def, gAndV_def, gOrV_def, gNotV_def, gCB_def, asB_b, hAdd_i, hSub_i, hLt_i, hLe_i, hGt_i, hGe_i, hMul_r, hMul_l, hMod_i, hDiv_s, hBand_i, hShr_i, hPow_10_18, hPow_10_27, hPow_10_28, hPow_10_29, hPow_10_30, hEq_i, hNe_i, hLen_l, hLen_t, hMin2_i, hMax2_i, hMin3_i, hInt1_b, hInt1_i, hBits_i, hListOf_l, hListOf_t, hTupOf_l, hTupOf_t, gSeqS_def, gSet_def, gRet_def, gIfS_def, gNext_def, gTup_def, gLst_def, List.getElem?_cons_zero, List.getElem?_cons_succ, List.set_cons_zero, List.set_cons_succ, List.length_cons, List.length_nil, Nat.zero_add, Nat.reduceAdd, Nat.reduceLeDiff, Nat.reduceSub, Nat.reduceMul, if_true, if_false, Bool.false_eq_true, List.replicate_succ, List.replicate_zero, List.cons_append, List.nil_append, tgN, tgT, tgCons, tgNil, Int.reducePow, Int.reduceAdd, Int.reduceSub, Int.reduceMul, decide_true, decide_false, Bool.not_true, Bool.not_false, gChain_def, hIsa_int, hIsa_intb, hIsa_list, hIsa_tuple, gDrop_def]) rfl hp'.argD, ?_, ?_, ?_⟩
    · split <;> omega
    · split <;> split <;> omega
    · split <;> omega
  have hpre : ∀ z, gSeqS (xSet 3 (xCallM .la 2 f_l_take 0 (xCons (xP (gVar 1)) (xNil)))) (gSeqS (xSet 4 (xCallM .la 2 f_l_take 0 (xCons (xP (gVar 1)) (xNil)))) z) [p, .int n, .list (r.map enc3), .none, .none, .none] = z [p2, .int n, .list (r.map enc3), .int a, .int b, .none] := fun z =>
    seq_step (xset_ok h1) (seq_step (xset_ok h2) rfl)
  suffices hmid : ∃ (a' b' : Int) (p' x5 : Dt), xIfS (xAnd (xPT (gTest (gOp hNe (gVar 2) (gLst (gNil))))) (xTest (xOp hEq (xCallM .la 2 f_l_take 0 (xCons (xP (gC (.int (4)))) (xNil))) (xP (gC (.int (0))))))) (xAsg (xOp hIx (xP (gVar 2)) (xCallM .la 2 f_l_take 0 (xCons (xP (gCB hLen (gCons (gVar 2) (gNil)))) (xNil)))) (tgT (tgCons (tgN 5) (tgCons (tgN 3) (tgCons (tgN 4) (tgNil)))))) (gNext) [p2, .int n, .list (r.map enc3), .int a, .int b, .none]
      = .ok (.nx [p', .int n, .list (r.map enc3), .int a', .int b', x5]) ∧ 0 ≤ a' ∧ a' < N ∧ 0 ≤ b' ∧ b' < N ∧ PotOk (m + 4) p' by
    obtain ⟨a', b', p', x5, hm', q0, q1, q2, q3, hp'⟩ := hmid
    obtain ⟨a2, b2, hf, w0, w1, w2⟩ := fin a' b' p' x5 q0 q1 q2 q3 hp'
    refine ⟨a2, b2, p', fnN_rt ?_, w0, w1, w2, hp'⟩
    show g_l_ends [p, .int n, .list (r.map enc3), .none, .none, .none] = _
    unfold g_l_ends FamB.g_l_ends
    rw [hpre]
    exact seq_step hm' hf
  have hne := hNe_nil r
  have hL : ∀ ρ, gLst gNil ρ = .ok (.list []) := fun ρ => by rw [gLst_def, gNil_def, bnd_ok, if_pos (by simp)]
  have ht : ∀ z, (!r.isEmpty) = z → xPT (gTest (gOp hNe (gVar 2) (gLst (gNil)))) [p2, .int n, .list (r.map enc3), .int a, .int b, .none] = .ok (z, [p2, .int n, .list (r.map enc3), .int a, .int b, .none]) := fun z e => by
    rw [xPT_def, gTest_def, gOp_def, hL]
    simp only [gVar_def, List.getElem?_cons_zero, List.getElem?_cons_succ, bnd_ok, hne, asB_b, e]
  by_cases c : r = []
  · refine ⟨a, b, p2, .none, (xIf_f ?_).trans rfl, a0, by omega, b0, by omega, hp2.mono (by omega)⟩
    rw [xAnd_def, ht false (by rw [c]; rfl)]
    rfl
  · have hpos : 0 < r.length := List.length_pos_iff.mpr c
    obtain ⟨d, p3, h3, d0, d1, hp3⟩ := tk_ok (i := 0) (gA := xCons (xP (gC (.int (4)))) xNil) (ρ := [p2, .int n, .list (r.map enc3), .int a, .int b, .none]) rfl rfl hp2 (by omega) (by omega : (0 : Int) < 4) (by omega)
    have h3 : xCallM .la 2 f_l_take 0 (xCons (xP (gC (.int (4)))) xNil) [p2, .int n, .list (r.map enc3), .int a, .int b, .none] = .ok (.int d, [p3, .int n, .list (r.map enc3), .int a, .int b, .none]) := h3
    have htest : xAnd (xPT (gTest (gOp hNe (gVar 2) (gLst (gNil))))) (xTest (xOp hEq (xCallM .la 2 f_l_take 0 (xCons (xP (gC (.int (4)))) (xNil))) (xP (gC (.int (0)))))) [p2, .int n, .list (r.map enc3), .int a, .int b, .none] = .ok (d == 0, [p3, .int n, .list (r.map enc3), .int a, .int b, .none]) := by
      rw [xAnd_def, ht true (by cases r with | nil => exact absurd rfl c | cons => rfl)]
      show xTest _ _ = _
      rw [xTest_def, xOp_def, h3]
      simp only [bnd_ok, xP_def, gC_def, hEq_i, asB_b]
    cases e : (d == 0) with
    | false =>
      rw [e] at htest
      exact ⟨a, b, p3, .none, (xIf_f htest).trans rfl, a0, by omega, b0, by omega, hp3.mono (by omega)⟩
    | true =>
      rw [e] at htest
      obtain ⟨j, p4, h4, j0, j1, hp4⟩ := tk_ok (i := 0) (gA := xCons (xP (gCB hLen (gCons (gVar 2) (gNil)))) xNil) (ρ := [p3, .int n, .list (r.map enc3), .int a, .int b, .none]) (ρ' := [p3, .int n, .list (r.map enc3), .int a, .int b, .none]) (size := (r.length : Int)) (by
        rw [xCons_def, xP_def]
        simp only [bnd_ok, gVar_def, gC_def, gOp_def, gUn_def, gNil_def, gCons_def, gIf_def, gTest_def, gNot_def, gAnd_def, gOr_def, gAndV_def, gOrV_def, gNotV_def, gCB_def, asB_b, hAdd_i, hSub_i, hLt_i, hLe_i, hGt_i, hGe_i, hMul_r, hMul_l, hMod_i, hDiv_s, hBand_i, hShr_i, hPow_10_18, hPow_10_27, hPow_10_28, hPow_10_29, hPow_10_30, hEq_i, hNe_i, hLen_l, hLen_t, hMin2_i, hMax2_i, hMin3_i, hInt1_b, hInt1_i, hBits_i, hListOf_l, hListOf_t, hTupOf_l, hTupOf_t, gSeqS_def, gSet_def, gRet_def, gIfS_def, gNext_def, gTup_def, gLst_def, List.getElem?_cons_zero, List.getElem?_cons_succ, List.set_cons_zero, List.set_cons_succ, List.length_cons, List.length_nil, Nat.zero_add, Nat.reduceAdd, Nat.reduceLeDiff, Nat.reduceSub, Nat.reduceMul, if_true, if_false, Bool.false_eq_true, List.replicate_succ, List.replicate_zero, List.cons_append, List.nil_append, tgN, tgT, tgCons, tgNil, Int.reducePow, Int.reduceAdd, Int.reduceSub, Int.reduceMul, decide_true, decide_false, Bool.not_true, Bool.not_false, gChain_def, hIsa_int, hIsa_intb, hIsa_list, hIsa_tuple, gDrop_def, List.length_map]
        rfl) rfl hp3 (by omega) (by omega) (by omega)
      have h4 : xCallM .la 2 f_l_take 0 (xCons (xP (gCB hLen (gCons (gVar 2) (gNil)))) xNil) [p3, .int n, .list (r.map enc3), .int a, .int b, .none] = .ok (.int j, [p4, .int n, .list (r.map enc3), .int a, .int b, .none]) := h4
      have hj : j.toNat < r.length := by omega
      have hix : hIx (.list (r.map enc3)) (.int j) = .ok (enc3 r[j.toNat]) := hIx_l (atI_map enc3 j0 (by omega))
      obtain ⟨⟨t0, t1⟩, u0, u1⟩ := hr r[j.toNat] (List.getElem_mem hj)
      refine ⟨r[j.toNat].2.1, r[j.toNat].2.2, p4, .int r[j.toNat].1, (xIf_t htest).trans (xasg_ok (d := enc3 r[j.toNat]) (ρ1 := [p4, .int n, .list (r.map enc3), .int a, .int b, .none]) ?_ rfl), t0, t1, u0, u1, hp4.mono (by omega)⟩
      rw [xOp_def, xP_def, gVar_def]
      show bnd (bnd (O.ok (PyData.list (r.map enc3))) _) _ = _
      rw [bnd_ok, bnd_ok, h4, bnd_ok, hix]
      rfl
theorem nodup_subI : ∀ {l m : List Int}, l.Nodup → (∀ p ∈ l, p ∈ m) → l.length ≤ m.length := Flow.nodup_sub
theorem far {ms : List Int} {z : Int} (h : ∀ e : Nat, e < ms.length + 1 → z + (e : Int) ∈ ms) : False := by
  have hn : ((List.range (ms.length + 1)).map fun (e : Nat) => z + (e : Int)).Nodup := List.pairwise_map.mpr (List.nodup_range.imp fun {a b} h e => h (by have : z + (a : Int) = z + (b : Int) := e; omega))
  have := nodup_subI hn (m := ms) fun p hp => by
    obtain ⟨e, he, rfl⟩ := List.mem_map.mp hp
    exact h e (List.mem_range.mp he)
  rw [List.length_map, List.length_range] at this
  omega
theorem up_for {ms : List Int} {z n : Int} {p R x4 x6 x7 x8 : Dt} (hl : ms.length ≤ 1000) : ∃ z' y6, gFor (gRng1 (gCons (gOp hAdd (gCB hLen (gCons (gVar 3) (gNil))) (gC (.int (1)))) (gNil))) (tgN 6) g_l_new_tie_L1 [p, .int n, R, .list (ms.map .int), x4, .int z, x6, x7, x8] = .ok (.nx [p, .int n, R, .list (ms.map .int), x4, .int z', y6, x7, x8]) ∧ z ≤ z' ∧ z' ≤ z + ms.length + 1 ∧ z' ∉ ms := by
  obtain ⟨ρ', hf, z', y6, rfl, h1, h2, h3⟩ := forE_ix (fun (j : Nat) => PyData.int (0 + (j : Int))) (h := tgN 6) (b := g_l_new_tie_L1) (List.range (ms.length + 1))
    (fun i ρ => ∃ (z' : Int) (y6 : Dt), ρ = [p, .int n, R, .list (ms.map .int), x4, .int z', y6, x7, x8] ∧ z ≤ z' ∧ z' ≤ z + i ∧ (z' ∉ ms ∨ (z' = z + i ∧ ∀ e : Nat, e < i → z + (e : Int) ∈ ms)))
    (ρ := [p, .int n, R, .list (ms.map .int), x4, .int z, x6, x7, x8]) ⟨z, x6, rfl, by omega, by omega, .inr ⟨by omega, fun e he => by omega⟩⟩ (by
      rintro i ρ hi ⟨z', y6, rfl, h1, h2, h3⟩
      generalize hgj : (0 : Int) + ((List.range (ms.length + 1))[i] : Nat) = jj
      refine ⟨[p, .int n, R, .list (ms.map .int), x4, .int z', .int jj, x7, x8], [p, .int n, R, .list (ms.map .int), x4, .int (z' + (if decide (z' ∈ ms) then 1 else 0)), .int jj, x7, x8], rfl, .inl ?_, _, _, rfl, ?_, ?_, ?_⟩
      · unfold g_l_new_tie_L1
        refine (set_ok (d := .int (z' + (if decide (z' ∈ ms) then 1 else 0))) ?_).trans rfl
        simp only [bnd_ok, gVar_def, gC_def, gOp_def, gUn_def, gNil_def, gCons_def, gIf_def, gTest_def, gNot_def, gAnd_def, gOr_def, gAndV_def, gOrV_def, gNotV_def, gCB_def, asB_b, hAdd_i, hSub_i, hLt_i, hLe_i, hGt_i, hGe_i, hMul_r, hMul_l, hMod_i, hDiv_s, hBand_i, hShr_i, hPow_10_18, hPow_10_27, hPow_10_28, hPow_10_29, hPow_10_30, hEq_i, hNe_i, hLen_l, hLen_t, hMin2_i, hMax2_i, hMin3_i, hInt1_b, hInt1_i, hBits_i, hListOf_l, hListOf_t, hTupOf_l, hTupOf_t, gSeqS_def, gSet_def, gRet_def, gIfS_def, gNext_def, gTup_def, gLst_def, List.getElem?_cons_zero, List.getElem?_cons_succ, List.set_cons_zero, List.set_cons_succ, List.length_cons, List.length_nil, Nat.zero_add, Nat.reduceAdd, Nat.reduceLeDiff, Nat.reduceSub, Nat.reduceMul, if_true, if_false, Bool.false_eq_true, List.replicate_succ, List.replicate_zero, List.cons_append, List.nil_append, tgN, tgT, tgCons, tgNil, Int.reducePow, Int.reduceAdd, Int.reduceSub, Int.reduceMul, decide_true, decide_false, Bool.not_true, Bool.not_false, gChain_def, hIsa_int, hIsa_intb, hIsa_list, hIsa_tuple, gDrop_def, hIn_ints]
      · by_cases c : z' ∈ ms
        · simp only [c, decide_true, if_true]; omega
        · simp only [c, decide_false, Bool.false_eq_true, if_false]; omega
      · by_cases c : z' ∈ ms
        · simp only [c, decide_true, if_true]; omega
        · simp only [c, decide_false, Bool.false_eq_true, if_false]; omega
      · by_cases c : z' ∈ ms
        · simp only [c, decide_true, if_true]
          rcases h3 with h3 | ⟨h3, h4⟩
          · exact absurd c h3
          · refine .inr ⟨by omega, fun e he => ?_⟩
            by_cases y : e = i
            · subst y; rw [← h3]; exact c
            · exact h4 e (by omega)
        · simp only [c, decide_false, Bool.false_eq_true, if_false, Int.add_zero]
          exact .inl (by simpa using c))
  rw [List.length_range] at h2 h3
  refine ⟨z', y6, for_ok (ds := (List.range (ms.length + 1)).map fun (j : Nat) => PyData.int (0 + (j : Int))) ?_ hf, h1, by omega, ?_⟩
  · refine (rng1_ok (j := (ms.length : Int) + 1) ?_ (by omega) (by omega)).trans ?_
    · simp only [bnd_ok, gVar_def, gC_def, gOp_def, gUn_def, gNil_def, gCons_def, gIf_def, gTest_def, gNot_def, gAnd_def, gOr_def, gAndV_def, gOrV_def, gNotV_def, gCB_def, asB_b, hAdd_i, hSub_i, hLt_i, hLe_i, hGt_i, hGe_i, hMul_r, hMul_l, hMod_i, hDiv_s, hBand_i, hShr_i, hPow_10_18, hPow_10_27, hPow_10_28, hPow_10_29, hPow_10_30, hEq_i, hNe_i, hLen_l, hLen_t, hMin2_i, hMax2_i, hMin3_i, hInt1_b, hInt1_i, hBits_i, hListOf_l, hListOf_t, hTupOf_l, hTupOf_t, gSeqS_def, gSet_def, gRet_def, gIfS_def, gNext_def, gTup_def, gLst_def, List.getElem?_cons_zero, List.getElem?_cons_succ, List.set_cons_zero, List.set_cons_succ, List.length_cons, List.length_nil, Nat.zero_add, Nat.reduceAdd, Nat.reduceLeDiff, Nat.reduceSub, Nat.reduceMul, if_true, if_false, Bool.false_eq_true, List.replicate_succ, List.replicate_zero, List.cons_append, List.nil_append, tgN, tgT, tgCons, tgNil, Int.reducePow, Int.reduceAdd, Int.reduceSub, Int.reduceMul, decide_true, decide_false, Bool.not_true, Bool.not_false, gChain_def, hIsa_int, hIsa_intb, hIsa_list, hIsa_tuple, gDrop_def, List.length_map]
    · unfold rangeD
      rw [show ((ms.length : Int) + 1 - 0).toNat = ms.length + 1 by omega]
  · rcases h3 with h3 | ⟨_, h4⟩
    · exact h3
    · exact (far h4).elim
theorem new_in {m n N M : Int} {p : Dt} {r : List T3} (hp : PotOk m p) (hm : m < 1099511627600) (n1 : 1 ≤ n) (n10 : n ≤ 20) (hN : n ≤ N) (hr : InN N r) (M0 : 2 ≤ M) (hl : r.length ≤ 50) (h0 : ∀ t ∈ r, 0 ≤ t.1 ∧ t.1 ≤ M) :
    ∃ t p', f_l_new_tie [p, .int n, .list (r.map enc3)] = .ok (.tuple [enc3 t, p']) ∧ 0 ≤ t.1 ∧ t.1 ≤ M + 60 ∧ 0 ≤ t.2.1 ∧ t.2.1 ≤ t.2.2 ∧ t.2.2 < N ∧ PotOk (m + 8) p' := by
  have hlc := gLc_map enc3 (fun _ => true) (fun t => PyData.int t.1) (gi := gSeq (gVar 2)) (h := tgN 4) (gt := gYes) (ge := gOp hIx (gVar 4) (gC (.int (0)))) (ρ := [p, .int n, .list (r.map enc3), .none, .none, .none, .none, .none, .none]) (xs := r) (seqG_l rfl) (by omega) fun p hp => ⟨_, rfl, rfl, fun _ => rfl⟩
  rw [List.filter_eq_self.mpr (fun _ _ => rfl), show r.map (fun t => PyData.int t.1) = (r.map (·.1)).map .int from by rw [List.map_map]; rfl] at hlc
  obtain ⟨s, p1, h1, s0, s1, hp1⟩ := tk_ok (i := 0) (gA := xCons (xP (gC (.int (3)))) xNil) (ρ := [p, .int n, .list (r.map enc3), .list ((r.map (·.1)).map .int), .none, .none, .none, .none, .none]) rfl rfl hp (by omega) (by omega : (0 : Int) < 3) (by omega)
  have h1 : xCallM .la 2 f_l_take 0 (xCons (xP (gC (.int (3)))) xNil) [p, .int n, .list (r.map enc3), .list ((r.map (·.1)).map .int), .none, .none, .none, .none, .none] = .ok (.int s, [p1, .int n, .list (r.map enc3), .list ((r.map (·.1)).map .int), .none, .none, .none, .none, .none]) := h1
  -- the moment begun with
  obtain ⟨z, p2, h2, z0, z1, hp2⟩ : ∃ (z : Int) (p2 : Dt), xIfS (xAnd (xPT (gTest (gOp hNe (gVar 3) (gLst (gNil))))) (xTest (xOp hGt (xCallM .la 2 f_l_take 0 (xCons (xP (gC (.int (4)))) (xNil))) (xP (gC (.int (0))))))) (xSet 5 (xOp hAdd (xOp hIx (xP (gVar 3)) (xCallM .la 2 f_l_take 0 (xCons (xP (gCB hLen (gCons (gVar 3) (gNil)))) (xNil)))) (xCallM .la 2 f_l_take 0 (xCons (xP (gC (.int (2)))) (xNil))))) (gNext)
      [p1, .int n, .list (r.map enc3), .list ((r.map (·.1)).map .int), .none, .int s, .none, .none, .none] = .ok (.nx [p2, .int n, .list (r.map enc3), .list ((r.map (·.1)).map .int), .none, .int z, .none, .none, .none]) ∧ 0 ≤ z ∧ z ≤ M + 2 ∧ PotOk (m + 4) p2 := by
    have hT : ∀ b, decide (r.map (·.1) ≠ []) = b → xPT (gTest (gOp hNe (gVar 3) (gLst (gNil)))) [p1, .int n, .list (r.map enc3), .list ((r.map (·.1)).map .int), .none, .int s, .none, .none, .none] = .ok (b, [p1, .int n, .list (r.map enc3), .list ((r.map (·.1)).map .int), .none, .int s, .none, .none, .none]) := fun b e => by
      have : gTest (gOp hNe (gVar 3) (gLst (gNil))) [p1, .int n, .list (r.map enc3), .list ((r.map (·.1)).map .int), .none, .int s, .none, .none, .none] = .ok b := by
        rw [gTest_def, gOp_def]
        show bnd (hNe (.list ((r.map (·.1)).map .int)) (.list (([] : List Int).map .int))) asB = _
        rw [hNe_ints, bnd_ok, asB_b, ← e]
        congr 1
        by_cases c : r.map (·.1) = [] <;> simp [c]
      rw [xPT_def, this]
      rfl
    by_cases c : r = []
    · refine ⟨s, p1, (xIf_f (ρ' := [p1, .int n, .list (r.map enc3), .list ((r.map (·.1)).map .int), .none, .int s, .none, .none, .none]) ?_).trans rfl, by omega, by omega, hp1.mono (by omega)⟩
      rw [xAnd_def, hT false (by simp [c])]
      rfl
    · have hpos : 0 < r.length := List.length_pos_iff.mpr c
      obtain ⟨d, p3, h3, d0, d1, hp3⟩ := tk_ok (i := 0) (gA := xCons (xP (gC (.int (4)))) xNil) (ρ := [p1, .int n, .list (r.map enc3), .list ((r.map (·.1)).map .int), .none, .int s, .none, .none, .none]) rfl rfl hp1 (by omega) (by omega : (0 : Int) < 4) (by omega)
      have h3 : xCallM .la 2 f_l_take 0 (xCons (xP (gC (.int (4)))) xNil) [p1, .int n, .list (r.map enc3), .list ((r.map (·.1)).map .int), .none, .int s, .none, .none, .none] = .ok (.int d, [p3, .int n, .list (r.map enc3), .list ((r.map (·.1)).map .int), .none, .int s, .none, .none, .none]) := h3
      have htest : xAnd (xPT (gTest (gOp hNe (gVar 3) (gLst (gNil))))) (xTest (xOp hGt (xCallM .la 2 f_l_take 0 (xCons (xP (gC (.int (4)))) (xNil))) (xP (gC (.int (0)))))) [p1, .int n, .list (r.map enc3), .list ((r.map (·.1)).map .int), .none, .int s, .none, .none, .none] = .ok (decide (0 < d), [p3, .int n, .list (r.map enc3), .list ((r.map (·.1)).map .int), .none, .int s, .none, .none, .none]) := by
        rw [xAnd_def, hT true (by simp [c]), bnd_ok]
        simp only [if_true]
        rw [xTest_def, xOp_def, h3]
        simp only [bnd_ok, xP_def, gC_def, hGt_i, asB_b]
      by_cases e : 0 < d
      · rw [decide_eq_true e] at htest
        obtain ⟨j, p4, h4, j0, j1, hp4⟩ := tk_ok (i := 0) (gA := xCons (xP (gCB hLen (gCons (gVar 3) (gNil)))) xNil) (ρ := [p3, .int n, .list (r.map enc3), .list ((r.map (·.1)).map .int), .none, .int s, .none, .none, .none]) (ρ' := [p3, .int n, .list (r.map enc3), .list ((r.map (·.1)).map .int), .none, .int s, .none, .none, .none]) (size := (r.length : Int)) (by
          rw [xCons_def, xP_def]
          simp only [bnd_ok, gVar_def, gC_def, gOp_def, gUn_def, gNil_def, gCons_def, gIf_def, gTest_def, gNot_def, gAnd_def, gOr_def, gAndV_def, gOrV_def, gNotV_def, gCB_def, asB_b, hAdd_i, hSub_i, hLt_i, hLe_i, hGt_i, hGe_i, hMul_r, hMul_l, hMod_i, hDiv_s, hBand_i, hShr_i, hPow_10_18, hPow_10_27, hPow_10_28, hPow_10_29, hPow_10_30, hEq_i, hNe_i, hLen_l, hLen_t, hMin2_i, hMax2_i, hMin3_i, hInt1_b, hInt1_i, hBits_i, hListOf_l, hListOf_t, hTupOf_l, hTupOf_t, gSeqS_def, gSet_def, gRet_def, gIfS_def, gNext_def, gTup_def, gLst_def, List.getElem?_cons_zero, List.getElem?_cons_succ, List.set_cons_zero, List.set_cons_succ, List.length_cons, List.length_nil, Nat.zero_add, Nat.reduceAdd, Nat.reduceLeDiff, Nat.reduceSub, Nat.reduceMul, if_true, if_false, Bool.false_eq_true, List.replicate_succ, List.replicate_zero, List.cons_append, List.nil_append, tgN, tgT, tgCons, tgNil, Int.reducePow, Int.reduceAdd, Int.reduceSub, Int.reduceMul, decide_true, decide_false, Bool.not_true, Bool.not_false, gChain_def, hIsa_int, hIsa_intb, hIsa_list, hIsa_tuple, gDrop_def, List.length_map]
          rfl) rfl hp3 (by omega) (by omega) (by omega)
        have h4 : xCallM .la 2 f_l_take 0 (xCons (xP (gCB hLen (gCons (gVar 3) (gNil)))) xNil) [p3, .int n, .list (r.map enc3), .list ((r.map (·.1)).map .int), .none, .int s, .none, .none, .none] = .ok (.int j, [p4, .int n, .list (r.map enc3), .list ((r.map (·.1)).map .int), .none, .int s, .none, .none, .none]) := h4
        obtain ⟨w, p5, h5, w0, w1, hp5⟩ := tk_ok (i := 0) (gA := xCons (xP (gC (.int (2)))) xNil) (ρ := [p4, .int n, .list (r.map enc3), .list ((r.map (·.1)).map .int), .none, .int s, .none, .none, .none]) rfl rfl hp4 (by omega) (by omega : (0 : Int) < 2) (by omega)
        have h5 : xCallM .la 2 f_l_take 0 (xCons (xP (gC (.int (2)))) xNil) [p4, .int n, .list (r.map enc3), .list ((r.map (·.1)).map .int), .none, .int s, .none, .none, .none] = .ok (.int w, [p5, .int n, .list (r.map enc3), .list ((r.map (·.1)).map .int), .none, .int s, .none, .none, .none]) := h5
        have hlm : (r.map (·.1)).length = r.length := List.length_map ..
        have hix := hIx_ints (xs := r.map (·.1)) (i := j) j0 (by omega)
        have hy : (r.map (·.1))[j.toNat]'(by omega) ∈ r.map (·.1) := List.getElem_mem _
        generalize (r.map (·.1))[j.toNat]'(by omega) = y at *
        obtain ⟨g, hg, rfl⟩ := List.mem_map.mp hy
        have hb := h0 g hg
        refine ⟨g.1 + w, p5, (xIf_t htest).trans ((xset_ok (d := .int (g.1 + w)) (ρ' := [p5, .int n, .list (r.map enc3), .list ((r.map (·.1)).map .int), .none, .int s, .none, .none, .none]) ?_).trans rfl), by omega, by omega, hp5.mono (by omega)⟩
        have e1 : xOp hIx (xP (gVar 3)) (xCallM .la 2 f_l_take 0 (xCons (xP (gCB hLen (gCons (gVar 3) (gNil)))) (xNil))) [p3, .int n, .list (r.map enc3), .list ((r.map (·.1)).map .int), .none, .int s, .none, .none, .none] = .ok (.int g.1, [p4, .int n, .list (r.map enc3), .list ((r.map (·.1)).map .int), .none, .int s, .none, .none, .none]) := by
          rw [xOp_def, xP_def, gVar_def]
          simp only [List.getElem?_cons_zero, List.getElem?_cons_succ, bnd_ok, h4, hix]
        have e2 : xOp hAdd (xOp hIx (xP (gVar 3)) (xCallM .la 2 f_l_take 0 (xCons (xP (gCB hLen (gCons (gVar 3) (gNil)))) (xNil)))) (xCallM .la 2 f_l_take 0 (xCons (xP (gC (.int (2)))) (xNil))) [p3, .int n, .list (r.map enc3), .list ((r.map (·.1)).map .int), .none, .int s, .none, .none, .none] = .ok (.int (g.1 + w), [p5, .int n, .list (r.map enc3), .list ((r.map (·.1)).map .int), .none, .int s, .none, .none, .none]) := by
          rw [xOp_def, e1, bnd_ok, h5]
          simp only [bnd_ok, hAdd_i]
        exact e2
      · rw [decide_eq_false e] at htest
        exact ⟨s, p3, (xIf_f htest).trans rfl, by omega, by omega, hp3.mono (by omega)⟩
  obtain ⟨z', y6, h3, w0, w1, w2⟩ := up_for (ms := r.map (·.1)) (z := z) (n := n) (p := p2) (R := .list (r.map enc3)) (x4 := .none) (x6 := .none) (x7 := .none) (x8 := .none) (by rw [List.length_map]; omega)
  rw [List.length_map] at w1
  obtain ⟨a, b, p5, h5, a0, ab, bn, hp5⟩ := ends_in hp2 (by omega) n1 (by omega) hN hr (by omega)
  have hcall : xCallM .la 3 f_l_ends 0 (xPA (gCons (gVar 1) (gCons (gVar 2) (gNil)))) [p2, .int n, .list (r.map enc3), .list ((r.map (·.1)).map .int), .none, .int z', y6, .none, .none] = .ok (.tuple [.int a, .int b], [p5, .int n, .list (r.map enc3), .list ((r.map (·.1)).map .int), .none, .int z', y6, .none, .none]) :=
    xcallM_ok (ds := [.int n, .list (r.map enc3)]) (ρ' := [p2, .int n, .list (r.map enc3), .list ((r.map (·.1)).map .int), .none, .int z', y6, .none, .none]) rfl rfl rfl hp2.arg h5 hp5.arg
  refine ⟨(z', a, b), p5, fnN_rt ?_, by show 0 ≤ z'; omega, by show z' ≤ _; omega, a0, ab, bn, hp5.mono (by omega)⟩
  show g_l_new_tie [p, .int n, .list (r.map enc3), .none, .none, .none, .none, .none, .none] = _
  unfold g_l_new_tie
  refine seq_step (set_ok hlc) ?_
  dsimp only [List.set]
  refine seq_step (xset_ok h1) ?_
  dsimp only [List.set]
  refine seq_step h2 ?_
  refine seq_step h3 ?_
  refine seq_step (xasg_ok (ρ2 := [p5, .int n, .list (r.map enc3), .list ((r.map (·.1)).map .int), .none, .int z', y6, .int a, .int b]) hcall (by rfl)) ?_
  exact xret_ok (ρ' := [p5, .int n, .list (r.map enc3), .list ((r.map (·.1)).map .int), .none, .int z', y6, .int a, .int b]) (d := enc3 (z', a, b)) rfl rfl hp5.argD
end K18
end T_K18E
section T_XpM
set_option linter.all false
set_option maxRecDepth 100000
namespace Xp
open PySem Sim
theorem ds {ds : List Dt} {i : Int} (h0 : 0 ≤ i) (h1 : i.toNat < ds.length) : hIx (.list ds) (.int i) = .ok ds[i.toNat] := by
  have e : i = ((i.toNat : Nat) : Int) := by omega
  conv => lhs; rw [e]
  exact hIx_l (L2.atI_nat (List.getElem?_eq_getElem h1))
theorem cons {a : Gx} {b : List Dt → O (List Dt × List Dt)} {ρ ρ1 ρ2 : List Dt} {x : Dt} {xs : List Dt} (h1 : a ρ = .ok (x, ρ1)) (h2 : b ρ1 = .ok (xs, ρ2)) : xCons a b ρ = .ok (x :: xs, ρ2) := by
  rw [xCons_def, h1, bnd_ok]
  show bnd (b ρ1) _ = _
  rw [h2, bnd_ok]
theorem pur {g : Gd} {ρ : List Dt} {d : Dt} (h : g ρ = .ok d) : xP g ρ = .ok (d, ρ) := by
  rw [xP_def, h, bnd_ok]
theorem lst {a : List Dt → O (List Dt × List Dt)} {ρ ρ' : List Dt} {xs : List Dt} (h : a ρ = .ok (xs, ρ')) (hl : xs.length ≤ 100000) : xLst a ρ = .ok (.list xs, ρ') := by
  unfold xLst
  rw [h, bnd_ok, if_pos hl]
theorem tup {a : List Dt → O (List Dt × List Dt)} {ρ ρ' : List Dt} {xs : List Dt} (h : a ρ = .ok (xs, ρ')) (hl : xs.length ≤ 100000) : xTup a ρ = .ok (.tuple xs, ρ') := by
  unfold xTup
  rw [h, bnd_ok, if_pos hl]
theorem op {h : Dt → Dt → O Dt} {a b : Gx} {ρ ρ1 ρ2 : List Dt} {x y z : Dt} (h1 : a ρ = .ok (x, ρ1)) (h2 : b ρ1 = .ok (y, ρ2)) (h3 : h x y = .ok z) : xOp h a b ρ = .ok (z, ρ2) := by
  rw [xOp_def, h1, bnd_ok]
  show bnd (b ρ1) _ = _
  rw [h2, bnd_ok]
  show bnd (h x y) _ = _
  rw [h3, bnd_ok]
end Xp
end T_XpM
section T_K18F
set_option linter.all false
set_option maxRecDepth 100000
set_option maxHeartbeats 4000000
namespace K18
open PySem Sim FamA FamL FamB Lay
open N (okT ordB tieB rec_enc)
def ntD (n k : Int) (r : List T3) : Dt := .tuple [.int n, .int k, .list (r.map enc3)]
noncomputable def isNt (n k : Int) (r : List T3) : Bool := (decide (1 ≤ n) && decide (n ≤ 10)) && ((decide (1 ≤ k) && decide (k ≤ 6)) && ((r.all (okT n) && ordB r) && !decide ((0 : Int) ∈ lay k.toNat r)))
variable {n k : Int} {r : List T3}
theorem inN_all (h : r.all (okT n) = true) : InN n r := fun t ht => by
  have q := List.all_eq_true.mp h t ht
  unfold okT tieB at q
  simp only [Bool.and_eq_true, decide_eq_true_eq] at q
  obtain ⟨⟨_, ⟨a, b⟩, c, d⟩, e⟩ := q
  exact ⟨⟨a, b⟩, c, d⟩
theorem net_yes {j : Nat} (hl : r.length ≤ 60) (n1 : 1 ≤ n) (n10 : n ≤ 10) (k1 : 1 ≤ j) (k6 : j ≤ 6) (hrec : f_is_record [.int n, .list (r.map enc3)] = .ok (.bool true)) (hr : InN n r) (hz : ¬ (0 : Int) ∈ lay j r) : f_is_net [ntD n j r] = .ok (.bool true) := by
  refine fnN_rt ?_
  show g_is_net [ntD n j r, .none, .none, .none] = _
  unfold g_is_net
  have t1 : gTest (gUn (hIsa .tuple) (gVar 0)) [ntD n j r, .none, .none, .none] = .ok true := rfl
  have t2 : gTest (gOp hNe (gCB hLen (gCons (gVar 0) (gNil))) (gC (.int (3)))) [ntD n j r, .none, .none, .none] = .ok false := by
    rw [gTest_def, gOp_def]
    show bnd (hNe (.int 3) (.int 3)) asB = _
    rw [hNe_i]
    rfl
  refine seq_step ((if_f (by simp only [gOr_def, gNot_def, t1, t2, bnd_ok, Bool.not_true, Bool.false_eq_true, if_false])).trans rfl) ?_
  refine seq_step (ρ' := [ntD n j r, .int n, .int (j : Nat), .list (r.map enc3)]) (asg_ok (by rfl) (by rfl)) ?_
  have c1 : gCallN 2 f_is_count (gCons (gVar 1) (gCons (gC (.int (10))) (gNil))) [ntD n j r, .int n, .int (j : Nat), .list (r.map enc3)] = .ok (.bool true) := callN_ok (ds := [.int n, .int 10]) rfl rfl (cnt_yes ⟨n1, n10⟩)
  have c2 : gCallN 2 f_is_count (gCons (gVar 2) (gCons (gC (.int (6))) (gNil))) [ntD n j r, .int n, .int (j : Nat), .list (r.map enc3)] = .ok (.bool true) := callN_ok (ds := [.int (j : Nat), .int 6]) rfl rfl (cnt_yes ⟨by omega, by omega⟩)
  have c3 : gCallN 2 f_is_record (gCons (gVar 1) (gCons (gVar 3) (gNil))) [ntD n j r, .int n, .int (j : Nat), .list (r.map enc3)] = .ok (.bool true) := callN_ok (ds := [.int n, .list (r.map enc3)]) rfl rfl hrec
  refine seq_step ((if_f (by simp only [gOr_def, gNot_def, gTest_def, c1, c2, c3, bnd_ok, asB_b, Bool.not_true, Bool.false_eq_true, if_false])).trans rfl) ?_
  refine ret_ok ?_
  have c4 : gCallN 3 f_layered (gCons (gVar 1) (gCons (gVar 3) (gCons (gVar 2) (gNil)))) [ntD n j r, .int n, .int (j : Nat), .list (r.map enc3)] = .ok (.list ((lay j r).map .int)) := callN_ok (ds := [.int n, .list (r.map enc3), .int (j : Nat)]) rfl rfl (layered_ok hr (by omega) n1 n10 k1 k6)
  have hz : decide ((0 : Int) ∈ lay j r) = false := decide_eq_false hz
  rw [gOp_def, gC_def, c4, bnd_ok, bnd_ok, hNotIn_ints, hz]
  rfl
theorem net_any (hl : r.length ≤ 60) : f_is_net [ntD n k r] = .ok (.bool (isNt n k r)) := by
  by_cases hn : 1 ≤ n ∧ n ≤ 10
  · by_cases hk : 1 ≤ k ∧ k ≤ 6
    · obtain ⟨j, rfl⟩ : ∃ j : Nat, k = (j : Int) := ⟨k.toNat, by omega⟩
      have cn := cnt_yes (z := n) (m := 10) hn
      have ck := cnt_yes (z := (j : Int)) (m := 6) hk
      have hrec := rec_enc (n := n) (r := r) hl
      cases hr : (r.all (okT n) && ordB r) with
      | false =>
        have e : isNt n j r = false := by
          unfold isNt
          rw [hr]
          simp
        rw [e]
        rw [hr] at hrec
        exact bn_3 (c := true) (.inr ⟨cn, .inr ⟨ck, .inl hrec⟩⟩)
      | true =>
        rw [hr] at hrec
        have hin := inN_all (Bool.and_eq_true_iff.mp hr).1
        by_cases hz : (0 : Int) ∈ lay j r
        · have e : isNt n j r = false := by
            unfold isNt
            rw [Int.toNat_natCast, decide_eq_true hz]
            simp
          rw [e]
          exact bn_3 (c := true) (.inr ⟨cn, .inr ⟨ck, .inr ⟨hrec, lay j r, layered_ok hin (by omega) hn.1 hn.2 (by omega) (by omega), hz⟩⟩⟩)
        · have e : isNt n j r = true := by
            unfold isNt
            rw [hr, Int.toNat_natCast, decide_eq_true hn.1, decide_eq_true hn.2, decide_eq_true hk.1, decide_eq_true hk.2, decide_eq_false hz]
            rfl
          rw [e]
          exact net_yes hl hn.1 hn.2 (by omega) (by omega) hrec hin hz
    · have e : isNt n k r = false := by
        unfold isNt
        have : (decide (1 ≤ k) && decide (k ≤ 6)) = false := by simpa using hk
        rw [this]
        simp
      rw [e]
      exact bn_3 (c := true) (.inr ⟨cnt_yes hn, .inl (cnt_no hk)⟩)
  · have e : isNt n k r = false := by
      unfold isNt
      have : (decide (1 ≤ n) && decide (n ≤ 10)) = false := by simpa using hn
      rw [this]
      rfl
    rw [e]
    exact bn_3 (c := true) (.inl (cnt_no hn))
theorem chain_i {ga gb gc : Gd} {ρ : List Dt} {a b c : Int} (h1 : ga ρ = .ok (.int a)) (h2 : gb ρ = .ok (.int b)) (h3 : gc ρ = .ok (.int c)) : gChain hLe hLe ga gb gc ρ = .ok (.bool (decide (a ≤ b) && decide (b ≤ c))) := by
  rw [gChain_def, h1, bnd_ok, h2, bnd_ok, hLe_i, bnd_ok, asB_b, bnd_ok]
  cases decide (a ≤ b) with
  | false => rfl
  | true => rw [if_pos rfl, h3, bnd_ok, hLe_i]; rfl
theorem and_b {ga gb : Gd} {ρ : List Dt} {a b : Bool} (h1 : ga ρ = .ok (.bool a)) (h2 : gb ρ = .ok (.bool b)) : gAndV ga gb ρ = .ok (.bool (a && b)) := by
  rw [gAndV_def, h1, bnd_ok, asB_b, bnd_ok]
  cases a with
  | false => rfl
  | true => rw [if_pos rfl, h2]; rfl
theorem l_tie (n : Int) (t : T3) : f_l_is_tie [.int n, enc3 t] = .ok (.bool (okT n t)) := by
  refine fnN_rt ?_
  show g_l_is_tie [.int n, .tuple [.int t.1, .int t.2.1, .int t.2.2], .none] = _
  unfold g_l_is_tie
  refine seq_step ((if_f (by rfl)).trans rfl) (ret_ok ?_)
  have i0 : gOp hIx (gVar 1) (gC (.int (0))) [.int n, .tuple [.int t.1, .int t.2.1, .int t.2.2], .none] = .ok (.int t.1) := rfl
  have i1 : gOp hIx (gVar 1) (gC (.int (1))) [.int n, .tuple [.int t.1, .int t.2.1, .int t.2.2], .none] = .ok (.int t.2.1) := rfl
  have i2 : gOp hIx (gVar 1) (gC (.int (2))) [.int n, .tuple [.int t.1, .int t.2.1, .int t.2.2], .none] = .ok (.int t.2.2) := rfl
  have ip : gOp hPow (gC (.int (10))) (gC (.int (30))) [.int n, .tuple [.int t.1, .int t.2.1, .int t.2.2], .none] = .ok (.int 1000000000000000000000000000000) := vg_op rfl rfl hPow_10_30
  have key := and_b (chain_i (ga := gC (.int (0))) rfl i0 ip) (and_b (vg_op (a := gC (.int (0))) rfl i1 (hLe_i _ _)) (and_b (vg_op i1 i2 (hLe_i _ _)) (vg_op (b := gVar 0) i2 rfl (hLt_i _ _))))
  refine key.trans ?_
  congr 2
  unfold okT tieB
  rw [Bool.eq_iff_iff]
  simp only [Bool.and_eq_true, decide_eq_true_eq]
  omega
theorem l_all {A K x5 : Dt} (hl : r.length ≤ 60) : gTest (gCB hAll (gCons (gLc (gSeq (gVar 3)) (tgN 4) (gYes) (gCallN 2 f_l_is_tie (gCons (gVar 1) (gCons (gVar 4) (gNil))))) (gNil))) [A, .int n, K, .list (r.map enc3), .none, x5] = .ok (r.all (okT n)) := by
  have hq := gLc_map enc3 (fun _ => true) (fun t => PyData.bool (okT n t)) (gi := gSeq (gVar 3)) (h := tgN 4) (gt := gYes) (ge := gCallN 2 f_l_is_tie (gCons (gVar 1) (gCons (gVar 4) (gNil)))) (ρ := [A, .int n, K, .list (r.map enc3), .none, x5]) (xs := r) rfl (by omega) fun t _ => ⟨_, rfl, rfl, fun _ => callN_ok (ds := [.int n, enc3 t]) rfl rfl (l_tie n t)⟩
  rw [List.filter_eq_self.mpr (fun _ _ => rfl), show r.map (fun t => PyData.bool (okT n t)) = (r.map (okT n)).map .bool from by rw [List.map_map]; rfl] at hq
  have hb := hAll_b (r.map (okT n))
  rw [gTest_def, gCB_def, gCons_def, hq, bnd_ok, gNil_def, bnd_ok, bnd_ok, hb, bnd_ok, asB_b, List.all_map]
  rfl
theorem l_ord {A N0 K x4 : Dt} (hl : r.length ≤ 60) : gTest (gCB hAll (gCons (gLc (gRng2 (gCons (gC (.int (1))) (gCons (gCB hLen (gCons (gVar 3) (gNil))) (gNil)))) (tgN 5) (gYes) (gOp hLt (gOp hIx (gOp hIx (gVar 3) (gOp hSub (gVar 5) (gC (.int (1))))) (gC (.int (0)))) (gOp hIx (gOp hIx (gVar 3) (gVar 5)) (gC (.int (0)))))) (gNil))) [A, N0, K, .list (r.map enc3), x4, .none] = .ok (ordB r) := by
  have at_r : ∀ {i : Nat}, i < r.length → hIx (.list (r.map enc3)) (.int (i : Nat)) = .ok (enc3 (r.getD i (0, 0, 0))) := fun {i} h => by
    refine hIx_l ?_
    have hlt : ((i : Nat) : Int) < (r.length : Int) := by omega
    rw [atI_map enc3 (by omega) hlt, List.getD_eq_getElem?_getD, List.getElem?_eq_getElem h]
    simp only [Int.toNat_natCast]
    rfl
  have ix0 : ∀ t : T3, hIx (enc3 t) (.int 0) = .ok (.int t.1) := fun _ => rfl
  have hq := gLc_map (fun (i : Nat) => PyData.int (1 + (i : Int))) (fun _ => true) (fun (i : Nat) => PyData.bool (decide ((r.getD i (0, 0, 0)).1 < (r.getD (i + 1) (0, 0, 0)).1))) (gi := gRng2 (gCons (gC (.int (1))) (gCons (gCB hLen (gCons (gVar 3) (gNil))) (gNil)))) (h := tgN 5) (gt := gYes)
    (ge := gOp hLt (gOp hIx (gOp hIx (gVar 3) (gOp hSub (gVar 5) (gC (.int (1))))) (gC (.int (0)))) (gOp hIx (gOp hIx (gVar 3) (gVar 5)) (gC (.int (0))))) (ρ := [A, N0, K, .list (r.map enc3), x4, .none]) (xs := List.range (r.length - 1)) ?_ (by rw [List.length_range]; omega) fun i hi => ⟨_, rfl, rfl, fun _ => ?_⟩
  · rw [List.filter_eq_self.mpr (fun _ _ => rfl), show (List.range (r.length - 1)).map (fun (i : Nat) => PyData.bool (decide ((r.getD i (0, 0, 0)).1 < (r.getD (i + 1) (0, 0, 0)).1))) = ((List.range (r.length - 1)).map fun i => decide ((r.getD i (0, 0, 0)).1 < (r.getD (i + 1) (0, 0, 0)).1)).map .bool from by rw [List.map_map]; rfl] at hq
    have hb2 := hAll_b ((List.range (r.length - 1)).map fun i => decide ((r.getD i (0, 0, 0)).1 < (r.getD (i + 1) (0, 0, 0)).1))
    rw [gTest_def, gCB_def, gCons_def, hq, bnd_ok, gNil_def, bnd_ok, bnd_ok, hb2]
    rfl
  · have e : gCons (gC (.int (1))) (gCons (gCB hLen (gCons (gVar 3) (gNil))) (gNil)) [A, N0, K, .list (r.map enc3), x4, .none] = .ok [.int 1, .int (r.length : Nat)] := by
      simp only [bnd_ok, gVar_def, gC_def, gOp_def, gUn_def, gNil_def, gCons_def, gIf_def, gTest_def, gNot_def, gAnd_def, gOr_def, gAndV_def, gOrV_def, gNotV_def, gCB_def, asB_b, hAdd_i, hSub_i, hLt_i, hLe_i, hGt_i, hGe_i, hMul_r, hMul_l, hMod_i, hDiv_s, hBand_i, hShr_i, hPow_10_18, hPow_10_27, hPow_10_28, hPow_10_29, hPow_10_30, hEq_i, hNe_i, hLen_l, hLen_t, hMin2_i, hMax2_i, hMin3_i, hInt1_b, hInt1_i, hBits_i, hListOf_l, hListOf_t, hTupOf_l, hTupOf_t, gSeqS_def, gSet_def, gRet_def, gIfS_def, gNext_def, gTup_def, gLst_def, List.getElem?_cons_zero, List.getElem?_cons_succ, List.set_cons_zero, List.set_cons_succ, List.length_cons, List.length_nil, Nat.zero_add, Nat.reduceAdd, Nat.reduceLeDiff, Nat.reduceSub, Nat.reduceMul, if_true, if_false, Bool.false_eq_true, List.replicate_succ, List.replicate_zero, List.cons_append, List.nil_append, tgN, tgT, tgCons, tgNil, Int.reducePow, Int.reduceAdd, Int.reduceSub, Int.reduceMul, decide_true, decide_false, Bool.not_true, Bool.not_false, gChain_def, hIsa_int, hIsa_intb, hIsa_list, hIsa_tuple, gDrop_def, List.length_map]
    refine (rng2_ok (by exact e) (by omega) (by omega) (by omega) (by omega)).trans ?_
    unfold rangeD
    have e2 : ((r.length : Int) - 1).toNat = r.length - 1 := by omega
    rw [e2]
  · have hi := List.mem_range.mp hi
    have e1 : (1 + (i : Int)) - 1 = ((i : Nat) : Int) := by omega
    have e2 : (1 + (i : Int)) = ((i + 1 : Nat) : Int) := by omega
    have a1 := at_r (i := i) (by omega)
    have a2 := at_r (i := i + 1) (by omega)
    simp only [bnd_ok, gVar_def, gC_def, gOp_def, gUn_def, gNil_def, gCons_def, gIf_def, gTest_def, gNot_def, gAnd_def, gOr_def, gAndV_def, gOrV_def, gNotV_def, gCB_def, asB_b, hAdd_i, hSub_i, hLt_i, hLe_i, hGt_i, hGe_i, hMul_r, hMul_l, hMod_i, hDiv_s, hBand_i, hShr_i, hPow_10_18, hPow_10_27, hPow_10_28, hPow_10_29, hPow_10_30, hEq_i, hNe_i, hLen_l, hLen_t, hMin2_i, hMax2_i, hMin3_i, hInt1_b, hInt1_i, hBits_i, hListOf_l, hListOf_t, hTupOf_l, hTupOf_t, gSeqS_def, gSet_def, gRet_def, gIfS_def, gNext_def, gTup_def, gLst_def, List.getElem?_cons_zero, List.getElem?_cons_succ, List.set_cons_zero, List.set_cons_succ, List.length_cons, List.length_nil, Nat.zero_add, Nat.reduceAdd, Nat.reduceLeDiff, Nat.reduceSub, Nat.reduceMul, if_true, if_false, Bool.false_eq_true, List.replicate_succ, List.replicate_zero, List.cons_append, List.nil_append, tgN, tgT, tgCons, tgNil, Int.reducePow, Int.reduceAdd, Int.reduceSub, Int.reduceMul, decide_true, decide_false, Bool.not_true, Bool.not_false, gChain_def, hIsa_int, hIsa_intb, hIsa_list, hIsa_tuple, gDrop_def, e1, a1, ix0]
    rw [e2, a2, bnd_ok, ix0]
    rfl
theorem l_net (hl : r.length ≤ 60) : f_l_is_net [ntD n k r] = .ok (.bool (isNt n k r)) := by
  refine fnN_rt ?_
  obtain ⟨A, hA⟩ : ∃ A, A = ntD n k r := ⟨_, rfl⟩
  rw [← hA]
  show g_l_is_net [A, .none, .none, .none, .none, .none] = _
  unfold g_l_is_net
  refine seq_step ((if_f (by rw [hA]; rfl)).trans rfl) ?_
  refine seq_step (ρ' := [A, .int n, .int k, .list (r.map enc3), .none, .none]) (asg_ok (by rfl) (by rw [hA]; rfl)) ?_
  have cn := chain_i (ga := gC (.int (1))) (gb := gVar 1) (gc := gC (.int (10))) (ρ := [A, .int n, .int k, .list (r.map enc3), .none, .none]) rfl rfl rfl
  have ck := chain_i (ga := gC (.int (1))) (gb := gVar 2) (gc := gC (.int (6))) (ρ := [A, .int n, .int k, .list (r.map enc3), .none, .none]) rfl rfl rfl
  have cl : gTest (gUn (hIsa .list) (gVar 3)) [A, .int n, .int k, .list (r.map enc3), .none, .none] = .ok true := rfl
  have cg : gTest (gOp hGt (gCB hLen (gCons (gVar 3) (gNil))) (gC (.int (60)))) [A, .int n, .int k, .list (r.map enc3), .none, .none] = .ok false := by
    have : decide ((60 : Int) < (r.length : Int)) = false := decide_eq_false (by omega)
    simp only [bnd_ok, gVar_def, gC_def, gOp_def, gUn_def, gNil_def, gCons_def, gIf_def, gTest_def, gNot_def, gAnd_def, gOr_def, gAndV_def, gOrV_def, gNotV_def, gCB_def, asB_b, hAdd_i, hSub_i, hLt_i, hLe_i, hGt_i, hGe_i, hMul_r, hMul_l, hMod_i, hDiv_s, hBand_i, hShr_i, hPow_10_18, hPow_10_27, hPow_10_28, hPow_10_29, hPow_10_30, hEq_i, hNe_i, hLen_l, hLen_t, hMin2_i, hMax2_i, hMin3_i, hInt1_b, hInt1_i, hBits_i, hListOf_l, hListOf_t, hTupOf_l, hTupOf_t, gSeqS_def, gSet_def, gRet_def, gIfS_def, gNext_def, gTup_def, gLst_def, List.getElem?_cons_zero, List.getElem?_cons_succ, List.set_cons_zero, List.set_cons_succ, List.length_cons, List.length_nil, Nat.zero_add, Nat.reduceAdd, Nat.reduceLeDiff, Nat.reduceSub, Nat.reduceMul, if_true, if_false, Bool.false_eq_true, List.replicate_succ, List.replicate_zero, List.cons_append, List.nil_append, tgN, tgT, tgCons, tgNil, Int.reducePow, Int.reduceAdd, Int.reduceSub, Int.reduceMul, decide_true, decide_false, Bool.not_true, Bool.not_false, gChain_def, hIsa_int, hIsa_intb, hIsa_list, hIsa_tuple, gDrop_def, List.length_map, this]
  unfold isNt
  cases e1 : (decide (1 ≤ n) && decide (n ≤ 10)) with
  | false =>
    rw [e1] at cn
    exact seq_rt ((if_t (vg_orT (vg_not (vg_test cn)))).trans rfl)
  | true =>
    rw [e1] at cn
    cases e2 : (decide (1 ≤ k) && decide (k ≤ 6)) with
    | false =>
      rw [e2] at ck
      exact seq_rt ((if_t (vg_orF (vg_not (vg_test cn)) (vg_orT (vg_not (vg_test ck))))).trans rfl)
    | true =>
      rw [e2] at ck
      refine seq_step ((if_f (vg_orF (vg_not (vg_test cn)) (vg_orF (vg_not (vg_test ck)) (vg_orF (vg_not cl) cg)))).trans rfl) ?_
      have ha := l_all (A := A) (K := .int k) (n := n) (x5 := .none) hl
      have ho := l_ord (A := A) (N0 := .int n) (K := .int k) (x4 := .none) hl
      cases e3 : r.all (okT n) with
      | false =>
        rw [e3] at ha
        exact seq_rt ((if_t (vg_not ha)).trans rfl)
      | true =>
        rw [e3] at ha
        refine seq_step ((if_f (vg_not ha)).trans rfl) ?_
        cases e4 : ordB r with
        | false =>
          rw [e4] at ho
          exact seq_rt ((if_t (vg_not ho)).trans rfl)
        | true =>
          rw [e4] at ho
          refine seq_step ((if_f (vg_not ho)).trans rfl) ?_
          simp only [Bool.and_eq_true, decide_eq_true_eq] at e1 e2
          obtain ⟨j, rfl⟩ : ∃ j : Nat, k = (j : Int) := ⟨k.toNat, by omega⟩
          have c4 : gCallN 3 f_l_layers_of (gCons (gVar 1) (gCons (gVar 3) (gCons (gVar 2) (gNil)))) [A, .int n, .int (j : Nat), .list (r.map enc3), .none, .none] = .ok (.list ((lay j r).map .int)) := callN_ok (ds := [.int n, .list (r.map enc3), .int (j : Nat)]) rfl rfl (layers_of_ok (inN_all e3) (by omega) e1.1 e1.2 (by omega))
          refine ret_ok ?_
          rw [gOp_def, gC_def, c4, bnd_ok, bnd_ok, hNotIn_ints, Int.toNat_natCast]
          rfl
end K18
end T_K18F
section T_ShwP
set_option linter.all false
set_option maxRecDepth 100000
namespace Sim
open PySem
def CpOk (x : Str) : Prop := ∀ c ∈ x.cps.toList, c < 0x110000
theorem CpOk.app {x y : Str} (hx : CpOk x) (hy : CpOk y) : CpOk (x ++ y) := fun c hc => by
  have e : (x ++ y).cps = x.cps ++ y.cps := rfl
  rw [e, Array.toList_append] at hc
  rcases List.mem_append.mp hc with h | h
  · exact hx c h
  · exact hy c h
theorem so_of (s : String) : CpOk (Str.ofString s) := fun c hc => by
  rw [Str.ofString_eq_toList] at hc
  simp only [List.mem_map] at hc
  obtain ⟨a, _, rfl⟩ := hc
  have := a.valid
  unfold UInt32.isValidChar Nat.isValidChar at this
  show a.val.toNat < _
  omega
theorem so_empty : CpOk Str.empty := fun c hc => by
  have : c ∈ ([] : List Nat) := hc
  cases this
theorem so_textFrom : ∀ (ts : List Str) (k : Nat) (acc : Str), CpOk acc → (∀ t ∈ ts, CpOk t) → CpOk (textFrom k acc ts)
  | [], _, _, h, _ => h
  | t :: r, k, acc, h, ht => by
    show CpOk (textFrom (k + 1) (acc ++ (if k > 0 then ", " else "" : String) ++ t) r)
    exact so_textFrom r (k + 1) _ ((h.app (so_of _)).app (ht t List.mem_cons_self)) fun u hu => ht u (List.mem_cons_of_mem _ hu)
theorem so_listText {ts : List Str} (h : ∀ t ∈ ts, CpOk t) : CpOk (listText ts) := (so_textFrom ts 0 _ (so_of _) h).app (so_of _)
theorem so_join : ∀ {ts : List Str}, (∀ t ∈ ts, CpOk t) → CpOk (Str.join ", " ts)
  | [], _ => so_empty
  | [x], h => h x List.mem_cons_self
  | x :: y :: r, h => ((h x List.mem_cons_self).app (so_of _)).app (so_join fun t ht => h t (List.mem_cons_of_mem _ ht))
theorem so_tupleText {ts : List Str} (h : ∀ t ∈ ts, CpOk t) : CpOk (tupleText ts) := ((so_of _).app (so_join h)).app (so_of _)
theorem so_all {ds : List PyData} (h : ∀ d ∈ ds, CpOk d.shown) : ∀ t ∈ PyData.shownAll ds, CpOk t := by
  induction ds with
  | nil => intro t ht; cases ht
  | cons d ds ih =>
    intro t ht
    unfold PyData.shownAll at ht
    rcases List.mem_cons.mp ht with rfl | ht
    · exact h d List.mem_cons_self
    · exact ih (fun e he => h e (List.mem_cons_of_mem _ he)) t ht
theorem CpOk.shaped {x : Str} (h : CpOk x) : SeqAt.shaped (.str x) = true := by
  unfold SeqAt.shaped
  have e : PyData.canLay0 (.str x) = true := by
    unfold PyData.canLay0 PyData.strOk
    rw [Array.all_eq_true_iff_forall_mem]
    intro c hc
    exact decide_eq_true (h c (Array.mem_toList_iff.mpr hc))
  rw [e]
  unfold PyData.depth
  rfl
structure Shw (m w : Nat) (d : PyData) : Prop where
  shp : Shp m d
  nd : d.hasDict = false
  sh : d.showable = true
  ls : d.leavesShort 34 = true
  wt : d.weight ≤ w
  so : CpOk d.shown
theorem Shw.mono {m k w v : Nat} {d : PyData} (h : Shw m w d) (hm : m ≤ k) (hw : w ≤ v) : Shw k v d := ⟨h.shp.mono hm, h.nd, h.sh, h.ls, Nat.le_trans h.wt hw, h.so⟩
theorem shw_int {i : Int} (m : Nat) (h : i.natAbs < 1000000000000000000000000000000000) : Shw m 110 (.int i) := by
  have hl : ∀ k : Nat, i.natAbs < 2 ^ k → i.natAbs ≠ 0 → i.natAbs.log2 < k := fun k z nz => (Nat.log2_lt nz).mpr z
  have h110 : i.natAbs < 2 ^ 110 := Nat.lt_trans h (by decide)
  refine ⟨shp_int i m, rfl, ?_, ?_, ?_, so_of _⟩
  · unfold PyData.showable
    rw [decide_eq_true_eq]
    by_cases c : i.natAbs = 0
    · rw [c]; decide
    · have := hl 110 h110 c; omega
  · unfold PyData.leavesShort
    rw [decide_eq_true_eq]
    have e := int_text_length_le10 (a := i) (k := 33) (by decide) (by omega)
    show (Str.ofString (toString i)).length ≤ 34
    rw [ofString_length]
    exact e
  · unfold PyData.weight
    split
    · omega
    · rename_i c
      have nz : i.natAbs ≠ 0 := fun z => c (by rw [beq_iff_eq]; omega)
      have := hl 110 h110 nz
      omega
theorem hasDictAll_of {ds : List PyData} (h : ∀ d ∈ ds, d.hasDict = false) : PyData.hasDictAll ds = false := by
  induction ds with
  | nil => rfl
  | cons d ds ih =>
    unfold PyData.hasDictAll
    rw [h d List.mem_cons_self, ih fun e he => h e (List.mem_cons_of_mem _ he)]
    rfl
theorem showableAll_of {ds : List PyData} (h : ∀ d ∈ ds, d.showable = true) : PyData.showableAll ds = true := by
  induction ds with
  | nil => rfl
  | cons d ds ih =>
    unfold PyData.showableAll
    rw [h d List.mem_cons_self, ih fun e he => h e (List.mem_cons_of_mem _ he)]
    rfl
theorem leavesShortAll_of {ds : List PyData} (h : ∀ d ∈ ds, d.leavesShort 34 = true) : PyData.leavesShortAll 34 ds = true := by
  induction ds with
  | nil => rfl
  | cons d ds ih =>
    unfold PyData.leavesShortAll
    rw [h d List.mem_cons_self, ih fun e he => h e (List.mem_cons_of_mem _ he)]
    rfl
theorem weightAll_of {w : Nat} {ds : List PyData} (h : ∀ d ∈ ds, d.weight ≤ w) : PyData.weightAll ds ≤ (w + 1) * ds.length := by
  induction ds with
  | nil => exact Nat.le_refl 0
  | cons d ds ih =>
    unfold PyData.weightAll
    have h1 := h d List.mem_cons_self
    have h2 := ih fun e he => h e (List.mem_cons_of_mem _ he)
    rw [List.length_cons, Nat.mul_succ]
    omega
theorem shw_list {m w k : Nat} {ds : List PyData} (h : ∀ d ∈ ds, Shw m w d) (hk : ds.length ≤ k) : Shw (m + 1) ((w + 1) * k) (.list ds) := by
  refine ⟨shp_list fun d hd => (h d hd).shp, ?_, ?_, ?_, ?_, by unfold PyData.shown; exact so_listText (so_all fun d hd => (h d hd).so)⟩
  · unfold PyData.hasDict; exact hasDictAll_of fun d hd => (h d hd).nd
  · unfold PyData.showable; exact showableAll_of fun d hd => (h d hd).sh
  · unfold PyData.leavesShort; exact leavesShortAll_of fun d hd => (h d hd).ls
  · unfold PyData.weight; exact Nat.le_trans (weightAll_of fun d hd => (h d hd).wt) (Nat.mul_le_mul (Nat.le_refl _) hk)
theorem shw_tup {m w k : Nat} {ds : List PyData} (h : ∀ d ∈ ds, Shw m w d) (hk : ds.length ≤ k) : Shw (m + 1) ((w + 1) * k) (.tuple ds) := by
  refine ⟨shp_tup fun d hd => (h d hd).shp, ?_, ?_, ?_, ?_, by unfold PyData.shown; exact so_tupleText (so_all fun d hd => (h d hd).so)⟩
  · unfold PyData.hasDict; exact hasDictAll_of fun d hd => (h d hd).nd
  · unfold PyData.showable; exact showableAll_of fun d hd => (h d hd).sh
  · unfold PyData.leavesShort; exact leavesShortAll_of fun d hd => (h d hd).ls
  · unfold PyData.weight; exact Nat.le_trans (weightAll_of fun d hd => (h d hd).wt) (Nat.mul_le_mul (Nat.le_refl _) hk)
theorem Shw.str {m w : Nat} {d : PyData} (h : Shw m w d) (hm : m ≤ 60) (hw : w ≤ 400000) (hs : (∃ ds, d = .list ds) ∨ ∃ ds, d = .tuple ds) : okStr d = true := by
  have h1 := PyData.shown_le 34 (by decide) d h.ls
  have h2 := h.wt
  have h3 : d.shown.length ≤ sizeLine := by
    rw [sizeLine_eq]
    omega
  unfold okStr
  obtain ⟨c, dp⟩ := h.shp
  rw [c, h.nd, h.sh, decide_eq_true (by omega), decide_eq_true h3]
  rcases hs with ⟨ds, rfl⟩ | ⟨ds, rfl⟩ <;> rfl
theorem Shw.hNe {m w : Nat} {d : PyData} (h : Shw m w d) : Sim.hNe (.str d.shown) (.str d.shown) = .ok (.bool false) := hNe_self h.so.shaped
end Sim
end T_ShwP
section T_FlowN
set_option linter.all false
set_option maxRecDepth 100000
namespace Flow
open PySem Sim FamA
structure Good (n : Int) (r : List T3) : Prop where
  len : r.length ≤ 60
  ok : ∀ t ∈ r, (0 ≤ t.1 ∧ t.1 ≤ 1000000000000000000000000000000) ∧ 0 ≤ t.2.1 ∧ t.2.1 ≤ t.2.2 ∧ t.2.2 < n
  ord : r.Pairwise fun s t => s.1 < t.1
theorem Good.sub {n : Int} {q r : List T3} (h : Good n r) (s : q.Sublist r) : Good n q := ⟨Nat.le_trans s.length_le h.len, fun t ht => h.ok t (s.subset ht), h.ord.sublist s⟩
theorem Good.filter {n : Int} {r : List T3} (h : Good n r) (p : T3 → Bool) : Good n (r.filter p) := h.sub List.filter_sublist
theorem Good.inN {n : Int} {r : List T3} (h : Good n r) : ∀ t ∈ r, (0 ≤ t.2.1 ∧ t.2.1 < n) ∧ 0 ≤ t.2.2 ∧ t.2.2 < n := fun t ht => by
  obtain ⟨_, h1, h2, h3⟩ := h.ok t ht
  exact ⟨⟨h1, by omega⟩, by omega, h3⟩
theorem rimN_sub {q r : List T3} (s : q.Sublist r) (S : Int → Bool) : rimN q S ≤ rimN r S := (s.filter _).length_le
def oth (r : List T3) (t : T3) : List T3 := r.filter fun s => !(s.1 == t.1)
theorem oth_mono {q r : List T3} (s : q.Sublist r) (t : T3) : (oth q t).Sublist (oth r t) := s.filter _
def Strong (ts : List T3) (a b : Int) (k : Nat) : Prop := ∀ S : Int → Bool, S a ≠ S b → k ≤ rimN ts S
def Need (k : Nat) (K : List T3) (t : T3) : Prop := t.2.1 ≠ t.2.2 ∧ ¬ Strong (oth K t) t.2.1 t.2.2 k
theorem Need.mono {k : Nat} {q r : List T3} {t : T3} (s : q.Sublist r) (h : Need k r t) : Need k q t := ⟨h.1, fun z => h.2 fun S hS => Nat.le_trans (z S hS) (rimN_sub (oth_mono s t) S)⟩
end Flow
end T_FlowN
section T_FlowS
set_option linter.all false
set_option maxRecDepth 100000
namespace Flow
open PySem Sim FamA
end Flow
end T_FlowS
section T_FlowT
set_option linter.all false
set_option maxRecDepth 100000
namespace Flow
open PySem Sim FamA
end Flow
end T_FlowT
section T_K70M
set_option linter.all false
set_option maxRecDepth 100000
namespace Flow
open PySem Sim FamA Lay K24
end Flow
end T_K70M
section T_CutsP
set_option linter.all false
set_option maxRecDepth 100000
namespace Cuts
open PySem Sim Flow FamA Lay K24
open PySem.W (alike alikeAll dataLe dataLt AllAlike)
def cutD (s : List Int) (m : List Int) : Dt := .tuple [encL s, .list (m.map .int)]
theorem alk : ∀ xs ys : List Int, alikeAll (xs.map PyData.int) (ys.map PyData.int) = true := PySem.W.alike_ints
theorem alk_L (s t : List Int) : alike (encL s) (encL t) = true := by
  unfold encL
  rw [alike]
  exact alk s t
theorem shp_L (s : List Int) : Shp 1 (encL s) := shp_intsT s 0
end Cuts
end T_CutsP
section T_K18G
set_option linter.all false
set_option maxRecDepth 100000
set_option maxHeartbeats 4000000
namespace K18
open PySem Sim FamA FamL FamB Lay
open N (toL toL_inj pure3)
open PySem.W (dataLe)
structure Sm (M : Int) (t : T3) : Prop where
  m0 : 0 ≤ t.1
  m1 : t.1 ≤ M
  a0 : 0 ≤ t.2.1
  a1 : t.2.1 < 11
  b0 : 0 ≤ t.2.2
  b1 : t.2.2 < 11
def SmA (M : Int) (r : List T3) : Prop := ∀ t ∈ r, Sm M t
theorem Sm.mono {M M' : Int} {t : T3} (h : Sm M t) (w : M ≤ M') : Sm M' t := ⟨h.m0, by have := h.m1; omega, h.a0, h.a1, h.b0, h.b1⟩
theorem SmA.mono {M M' : Int} {r : List T3} (h : SmA M r) (w : M ≤ M') : SmA M' r := fun t ht => (h t ht).mono w
theorem SmA.inN {M : Int} {r : List T3} (h : SmA M r) : InN 11 r := fun t ht => ⟨⟨(h t ht).a0, (h t ht).a1⟩, (h t ht).b0, (h t ht).b1⟩
theorem SmA.sub {M : Int} {r s : List T3} (h : SmA M r) (hs : ∀ t ∈ s, t ∈ r) : SmA M s := fun t ht => h t (hs t ht)
theorem okD3 (L : List T3) : okData (L.map enc3) = true := by
  unfold okData
  rw [Bool.and_eq_true, Bool.and_eq_true, Bool.or_eq_true]
  refine ⟨⟨List.all_eq_true.mpr fun d hd => List.all_eq_true.mpr fun e he => ?_, .inl (List.all_eq_true.mpr fun d hd => ?_)⟩, List.all_eq_true.mpr fun d hd => ?_⟩
  · obtain ⟨s, _, rfl⟩ := List.mem_map.mp hd
    obtain ⟨t, _, rfl⟩ := List.mem_map.mp he
    exact Cuts.alk_L (toL s) (toL t)
  · obtain ⟨s, _, rfl⟩ := List.mem_map.mp hd
    rfl
  · obtain ⟨s, _, rfl⟩ := List.mem_map.mp hd
    rw [Bool.and_eq_true, decide_eq_true_eq]
    have q := Cuts.shp_L (toL s)
    exact ⟨q.1, Nat.le_trans q.2 (by omega)⟩
theorem sortK_enc (L : List T3) : sortK (L.map enc3) (L.map enc3) = (L.mergeSort (dataLe false enc3)).map enc3 := by
  unfold sortK
  have e : (L.map enc3).zip (L.map enc3) = L.map fun s => (enc3 s, enc3 s) := by
    induction L with
    | nil => rfl
    | cons x L ih => rw [List.map_cons, List.zip_cons_cons, ih, List.map_cons]
  rw [e, ← List.map_mergeSort (f := fun s => (enc3 s, enc3 s)) (r := dataLe false enc3) (s := dataLe false Prod.snd) (fun a _ b _ => rfl), List.map_map]
  rfl
theorem sortD_ok (D : List T3) : ∃ G : List T3, one hSortD [.list (D.map enc3)] = .ok (.list (G.map enc3)) ∧ G.Perm D := by
  refine ⟨D.mergeSort (dataLe false enc3), ?_, List.mergeSort_perm _ _⟩
  unfold one hSortD
  simp only
  rw [if_pos (okD3 D), sortK_enc]
section
variable {NT RD x9 x10 : Dt} {n k pl tn a m M : Int} {r made : List T3} {p : Dt}
abbrev SS (p NT : Dt) (n k : Int) (RD : Dt) (pl : Int) (made : List T3) (tn a : Int) (x9 x10 : Dt) : List Dt := [p, NT, .int n, .int k, RD, .int pl, .list (made.map enc3), .int tn, .int a, x9, x10]
theorem eqT (v : Int) : gTest (gOp hEq (gVar 7) (gC (.int (v)))) (SS p NT n k RD pl made tn a x9 x10) = .ok (tn == v) := vg_test (vg_op rfl rfl (hEq_i _ _))
structure Jv (i M : Int) (tn : Int) (r made : List T3) : Prop where
  eq : made = r ∨ tn < i
  sm : SmA (M + 60) made
  len : made.length ≤ r.length + 1
theorem Jv.up {i : Int} (h : Jv i M tn r made) : Jv (i + 1) M tn r made := ⟨h.eq.imp id fun h => by omega, h.sm, h.len⟩
theorem Jv.at {i : Int} (h : Jv i M tn r made) (e : tn = i) : made = r := h.eq.elim id fun z => by omega
theorem sp0 (hp : PotOk m p) (hm : m < 1099511600000) (p1 : 1 ≤ pl) (p11 : pl ≤ 11) (hr : SmA M r) (M0 : 2 ≤ M) (hl : r.length ≤ 50) :
    ∃ (made : List T3) (p' : Dt), gIfS (gTest (gOp hEq (gVar 7) (gC (.int (0))))) (xSet 6 (xCB (one hSortD) (xCons (xCatO 6 (xLst (xCons (xCallM .la 3 f_l_new_tie 0 (xPA (gCons (gVar 5) (gCons (gVar 6) (gNil))))) (xNil)))) (xNil)))) (gNext) (SS p NT n k RD pl r tn a x9 x10) = .ok (.nx (SS p' NT n k RD pl made tn a x9 x10)) ∧ (0 ≤ tn → Jv 1 M tn r made) ∧ PotOk (m + 8) p' := by
  cases e : tn == 0 with
  | false => exact ⟨r, p, (if_f ((eqT 0).trans (by rw [e]))).trans rfl, fun _ => ⟨.inl rfl, hr.mono (by omega), by omega⟩, hp.mono (by omega)⟩
  | true =>
    have e' : tn = 0 := by simpa using e
    obtain ⟨t, p', h1, q1, q2, q3, q4, q5, hp'⟩ := new_in (N := 11) (M := M) hp (by omega) p1 (by omega) p11 hr.inN M0 hl fun t ht => ⟨(hr t ht).m0, (hr t ht).m1⟩
    obtain ⟨G, h2, h3⟩ := sortD_ok (r ++ [t])
    refine ⟨G, p', (if_t ((eqT 0).trans (by rw [e]))).trans ?_, fun _ => ⟨.inr (by omega), fun s hs => ?_, ?_⟩, hp'⟩
    · have c1 : xCallM .la 3 f_l_new_tie 0 (xPA (gCons (gVar 5) (gCons (gVar 6) (gNil)))) (SS p NT n k RD pl r tn a x9 x10) = .ok (enc3 t, SS p' NT n k RD pl r tn a x9 x10) := xcallM_ok (ds := [.int pl, .list (r.map enc3)]) (ρ' := SS p NT n k RD pl r tn a x9 x10) rfl rfl rfl hp.arg h1 hp'.arg
      have c2 : xLst (xCons (xCallM .la 3 f_l_new_tie 0 (xPA (gCons (gVar 5) (gCons (gVar 6) (gNil))))) (xNil)) (SS p NT n k RD pl r tn a x9 x10) = .ok (.list [enc3 t], SS p' NT n k RD pl r tn a x9 x10) := vx_lst (vx_cons c1 vx_nil) (by simp)
      have c3 := xCatO_ok (i := 6) (ds := r.map enc3) c2 rfl (by simp; omega)
      have e2 : r.map enc3 ++ [enc3 t] = (r ++ [t]).map enc3 := by rw [List.map_append]; rfl
      rw [e2] at c3
      have c4 : xCB (one hSortD) (xCons (xCatO 6 (xLst (xCons (xCallM .la 3 f_l_new_tie 0 (xPA (gCons (gVar 5) (gCons (gVar 6) (gNil))))) (xNil)))) (xNil)) (SS p NT n k RD pl r tn a x9 x10) = .ok (.list (G.map enc3), SS p' NT n k RD pl r tn a x9 x10) := by
        unfold xCB
        rw [vx_cons c3 vx_nil, bnd_ok]
        show bnd (one hSortD [.list ((r ++ [t]).map enc3)]) _ = _
        rw [h2, bnd_ok]
      exact (xset_ok c4).trans rfl
    · rcases List.mem_append.mp (h3.mem_iff.mp hs) with hs | hs
      · exact (hr s hs).mono (by omega)
      · rw [List.mem_singleton.mp hs]
        exact ⟨q1, q2, q3, by omega, by omega, q5⟩
    · rw [h3.length_eq, List.length_append]
      simp
theorem sp1 (h : Jv 1 M tn r made) (a0 : 0 ≤ a) (hl : r.length ≤ 50) :
    ∃ made' : List T3, gIfS (gTest (gOp hEq (gVar 7) (gC (.int (1))))) (gSet 6 (gOp hCat (gSl hSl (gVar 6) (gNoPart) (gPart (gVar 8))) (gSl hSl (gVar 6) (gPart (gOp hAdd (gVar 8) (gC (.int (1))))) (gNoPart)))) (gNext) (SS p NT n k RD pl made tn a x9 x10) = .ok (.nx (SS p NT n k RD pl made' tn a x9 x10)) ∧ Jv 2 M tn r made' := by
  cases e : tn == 1 with
  | false => exact ⟨made, (if_f ((eqT 1).trans (by rw [e]))).trans rfl, h.up⟩
  | true =>
    have e' : tn = 1 := by simpa using e
    have s1 : gSl hSl (gVar 6) (gNoPart) (gPart (gVar 8)) (SS p NT n k RD pl made tn a x9 x10) = .ok (.list ((made.take a.toNat).map enc3)) := hSl_to' enc3 made a0
    have s2 : gSl hSl (gVar 6) (gPart (gOp hAdd (gVar 8) (gC (.int (1))))) (gNoPart) (SS p NT n k RD pl made tn a x9 x10) = .ok (.list ((made.drop (a + 1).toNat).map enc3)) := hSl_from' enc3 made (k := a + 1) (by omega)
    have hl' := h.len
    have l1 : (made.take a.toNat).length + (made.drop (a + 1).toNat).length ≤ r.length + 1 := by
      rw [List.length_take, List.length_drop]
      omega
    refine ⟨made.take a.toNat ++ made.drop (a + 1).toNat, (if_t ((eqT 1).trans (by rw [e]))).trans ((set_ok (vg_op s1 s2 (hCat_map enc3 _ _ (by omega)))).trans rfl), ⟨.inr (by omega), h.sm.sub fun t ht => ?_, by rw [List.length_append]; exact l1⟩⟩
    rcases List.mem_append.mp ht with ht | ht
    · exact List.mem_of_mem_take ht
    · exact List.mem_of_mem_drop ht
theorem sp3 (h : Jv 3 M tn r made) (a0 : 0 ≤ a) (hl : r.length ≤ 50) :
    ∃ made' : List T3, gIfS (gTest (gOp hEq (gVar 7) (gC (.int (3))))) (gSet 6 (gOp hCat (gSl hSl (gVar 6) (gNoPart) (gPart (gOp hAdd (gVar 8) (gC (.int (1)))))) (gSl hSl (gVar 6) (gPart (gVar 8)) (gNoPart)))) (gNext) (SS p NT n k RD pl made tn a x9 x10) = .ok (.nx (SS p NT n k RD pl made' tn a x9 x10)) ∧ Jv 4 M tn r made' := by
  cases e : tn == 3 with
  | false => exact ⟨made, (if_f ((eqT 3).trans (by rw [e]))).trans rfl, h.up⟩
  | true =>
    have e' : tn = 3 := by simpa using e
    have er := h.at e'
    have s1 : gSl hSl (gVar 6) (gNoPart) (gPart (gOp hAdd (gVar 8) (gC (.int (1))))) (SS p NT n k RD pl made tn a x9 x10) = .ok (.list ((made.take (a + 1).toNat).map enc3)) := hSl_to' enc3 made (k := a + 1) (by omega)
    have s2 : gSl hSl (gVar 6) (gPart (gVar 8)) (gNoPart) (SS p NT n k RD pl made tn a x9 x10) = .ok (.list ((made.drop a.toNat).map enc3)) := hSl_from' enc3 made a0
    have l1 : (made.take (a + 1).toNat).length + (made.drop a.toNat).length ≤ r.length + 1 := by
      rw [List.length_take, List.length_drop, er]
      omega
    refine ⟨made.take (a + 1).toNat ++ made.drop a.toNat, (if_t ((eqT 3).trans (by rw [e]))).trans ((set_ok (vg_op s1 s2 (hCat_map enc3 _ _ (by omega)))).trans rfl), ⟨.inr (by omega), h.sm.sub fun t ht => ?_, by rw [List.length_append]; exact l1⟩⟩
    rcases List.mem_append.mp ht with ht | ht
    · exact List.mem_of_mem_take ht
    · exact List.mem_of_mem_drop ht
theorem sp2 (h : Jv 2 M tn r made) (hp : PotOk m p) (hm : m < 1099511600000) (p1 : 1 ≤ pl) (p11 : pl ≤ 11) (hl : r.length ≤ 50) (a0 : 0 ≤ a) (a1 : r ≠ [] → a < r.length) :
    ∃ (made' : List T3) (p' y9 y10 : Dt), gIfS (gAnd (gTest (gOp hEq (gVar 7) (gC (.int (2))))) (gTest (gOp hNe (gVar 6) (gLst (gNil))))) (gSeqS (xAsg (xCallM .la 3 f_l_ends 0 (xPA (gCons (gVar 5) (gCons (gVar 6) (gNil))))) (tgT (tgCons (tgN 9) (tgCons (tgN 10) (tgNil))))) (gSetI 6 (gTup (gCons (gOp hIx (gOp hIx (gVar 6) (gVar 8)) (gC (.int (0)))) (gCons (gVar 9) (gCons (gVar 10) (gNil))))) (gVar 8))) (gNext) (SS p NT n k RD pl made tn a x9 x10) = .ok (.nx (SS p' NT n k RD pl made' tn a y9 y10)) ∧ Jv 3 M tn r made' ∧ PotOk (m + 4) p' := by
  have tn0 : gTest (gOp hNe (gVar 6) (gLst (gNil))) (SS p NT n k RD pl made tn a x9 x10) = .ok (!made.isEmpty) := vg_test (vg_op (x := .list (made.map enc3)) (y := .list []) rfl rfl (FamB.hNe_nil made))
  cases e : tn == 2 with
  | false => exact ⟨made, p, x9, x10, (if_f (vg_andF ((eqT 2).trans (by rw [e])))).trans rfl, h.up, hp.mono (by omega)⟩
  | true =>
    have e' : tn = 2 := by simpa using e
    have er := h.at e'
    have t2 : gTest (gOp hEq (gVar 7) (gC (.int (2)))) (SS p NT n k RD pl made tn a x9 x10) = .ok true := (eqT 2).trans (by rw [e])
    cases ec : made.isEmpty with
    | true =>
      rw [ec] at tn0
      exact ⟨made, p, x9, x10, (if_f (vg_andT t2 tn0)).trans rfl, h.up, hp.mono (by omega)⟩
    | false =>
      rw [ec] at tn0
      have hne : made ≠ [] := fun z => by rw [z] at ec; cases ec
      have ha : a < made.length := by rw [er]; exact a1 (er ▸ hne)
      have hl' := h.len
      obtain ⟨x, y, p', h1, x0, xy, y1, hp'⟩ := ends_in (N := 11) hp (by omega) p1 (by omega) p11 h.sm.inN (by omega)
      have hix : hIx (.list (made.map enc3)) (.int a) = .ok (enc3 (made[a.toNat]'(by omega))) := hIx_l (atI_map enc3 a0 ha)
      have hmem := List.getElem_mem (l := made) (n := a.toNat) (by omega)
      generalize made[a.toNat]'(by omega) = t at *
      refine ⟨made.set a.toNat (t.1, x, y), p', .int x, .int y, (if_t (vg_andT t2 tn0)).trans ?_, ⟨.inr (by omega), fun s hs => ?_, by rw [List.length_set]; exact h.len⟩, hp'⟩
      · have c1 : xCallM .la 3 f_l_ends 0 (xPA (gCons (gVar 5) (gCons (gVar 6) (gNil)))) (SS p NT n k RD pl made tn a x9 x10) = .ok (.tuple [.int x, .int y], SS p' NT n k RD pl made tn a x9 x10) := xcallM_ok (ds := [.int pl, .list (made.map enc3)]) (ρ' := SS p NT n k RD pl made tn a x9 x10) rfl rfl rfl hp.arg h1 hp'.arg
        refine seq_step (xasg_ok (ρ2 := SS p' NT n k RD pl made tn a (.int x) (.int y)) c1 rfl) ?_
        have i0 : gOp hIx (gOp hIx (gVar 6) (gVar 8)) (gC (.int (0))) (SS p' NT n k RD pl made tn a (.int x) (.int y)) = .ok (.int t.1) := vg_op (vg_op (x := .list (made.map enc3)) (y := .int a) rfl rfl hix) rfl rfl
        have tp : gTup (gCons (gOp hIx (gOp hIx (gVar 6) (gVar 8)) (gC (.int (0)))) (gCons (gVar 9) (gCons (gVar 10) (gNil)))) (SS p' NT n k RD pl made tn a (.int x) (.int y)) = .ok (enc3 (t.1, x, y)) := gTup_ok (xs := [.int t.1, .int x, .int y]) (vg_cons i0 (vg_cons rfl (vg_cons rfl rfl))) (by simp)
        rw [setI_ok (ds := made.map enc3) tp rfl (j := a) rfl a0 (by rw [List.length_map]; omega)]
        have e9 : (made.map enc3).set a.toNat (enc3 (t.1, x, y)) = (made.set a.toNat (t.1, x, y)).map enc3 := by rw [List.map_set]
        rw [e9]
        rfl
      · rcases List.mem_or_eq_of_mem_set hs with hs | hs
        · exact h.sm s hs
        · subst hs
          have := h.sm t hmem
          exact ⟨this.m0, this.m1, x0, by show x < 11; omega, by show 0 ≤ y; omega, y1⟩
theorem sp4 (h : Jv 4 M tn r made) (hl : r.length ≤ 50) (a0 : 0 ≤ a) (a1 : r ≠ [] → a < r.length) (a2 : r = [] → a = 0) :
    ∃ made' : List T3, gIfS (gTest (gOp hEq (gVar 7) (gC (.int (4))))) (gSetS 6 (gLsI (gRev (gCons (gSl hSl (gVar 6) (gPart (gVar 8)) (gPart (gOp hAdd (gVar 8) (gC (.int (2)))))) gNil))) (gVar 8) (gOp hAdd (gVar 8) (gC (.int (2))))) (gNext) (SS p NT n k RD pl made tn a x9 x10) = .ok (.nx (SS p NT n k RD pl made' tn a x9 x10)) ∧ Jv 5 M tn r made' := by
  cases e : tn == 4 with
  | false => exact ⟨made, (if_f ((eqT 4).trans (by rw [e]))).trans rfl, h.up⟩
  | true =>
    have e' : tn = 4 := by simpa using e
    have er := h.at e'
    have hl' := h.len
    have ha : a ≤ made.length := by
      by_cases c : r = []
      · rw [a2 c]; omega
      · have := a1 c; rw [er]; omega
    have cm : ∀ (u v : Option Int), cutD (made.map enc3) u v = (((made.drop (HT.sIx made.length 0 u)).take (HT.sIx made.length made.length v - HT.sIx made.length 0 u))).map enc3 := fun u v => by
      unfold cutD
      rw [List.length_map, List.map_take, List.map_drop]
    obtain ⟨C, hC, hCs, hCl⟩ : ∃ C : List T3, hSl (.list (made.map enc3)) (some a) (some (a + 2)) = .ok (.list (C.map enc3)) ∧ (∀ t ∈ C, t ∈ made) ∧ C.length ≤ (made.drop a.toNat).length - (made.drop (a + 2).toNat).length := by
      refine ⟨_, (show O.ok (PyData.list (cutD (made.map enc3) (some a) (some (a + 2)))) = _ by rw [cm]), fun t ht => List.mem_of_mem_drop (List.mem_of_mem_take ht), ?_⟩
      rw [List.length_take, List.length_drop, List.length_drop, List.length_drop]
      unfold HT.sIx
      simp only
      split <;> split <;> omega
    have s1 : gSl hSl (gVar 6) (gPart (gVar 8)) (gPart (gOp hAdd (gVar 8) (gC (.int (2))))) (SS p NT n k RD pl made tn a x9 x10) = .ok (.list (C.map enc3)) := hC
    have s2 : gLsI (gRev (gCons (gSl hSl (gVar 6) (gPart (gVar 8)) (gPart (gOp hAdd (gVar 8) (gC (.int (2)))))) gNil)) (SS p NT n k RD pl made tn a x9 x10) = .ok (.list (C.reverse.map enc3)) := by
      rw [List.map_reverse]
      refine lsI_ok (rev_ok (vg_cons s1 rfl)) ?_
      rw [List.length_reverse, List.length_map]
      have := List.length_drop (i := a.toNat) (l := made)
      omega
    have hlC : C.length ≤ made.length := by
      have := List.length_drop (i := a.toNat) (l := made)
      omega
    have s3 := setS_ok (i := 6) (ρ := SS p NT n k RD pl made tn a x9 x10) (ds := made.map enc3) (gl := gVar 8) (gh := gOp hAdd (gVar 8) (gC (.int (2)))) (a := a) (c := a + 2) s2 rfl rfl rfl a0 (by omega) (by rw [List.length_map]; omega) (by rw [List.length_map, List.length_map, List.length_reverse]; omega)
    have e2 : (made.map enc3).take a.toNat ++ C.reverse.map enc3 ++ (made.map enc3).drop (a + 2).toNat = (made.take a.toNat ++ C.reverse ++ made.drop (a + 2).toNat).map enc3 := by
      rw [List.map_append, List.map_append, List.map_take, List.map_drop]
    rw [e2] at s3
    refine ⟨made.take a.toNat ++ C.reverse ++ made.drop (a + 2).toNat, (if_t ((eqT 4).trans (by rw [e]))).trans (s3.trans rfl), ⟨.inr (by omega), h.sm.sub fun t ht => ?_, ?_⟩⟩
    · rcases List.mem_append.mp ht with ht | ht
      · rcases List.mem_append.mp ht with ht | ht
        · exact List.mem_of_mem_take ht
        · exact hCs t (List.mem_reverse.mp ht)
      · exact List.mem_of_mem_drop ht
    · rw [List.length_append, List.length_append, List.length_reverse, List.length_take]
      rw [List.length_drop, List.length_drop] at hCl
      rw [List.length_drop]
      omega
end
end K18
end T_K18G
section T_K18A
set_option linter.all false
set_option maxRecDepth 100000
set_option maxHeartbeats 4000000
namespace K18
open PySem Sim FamA FamL FamB Lay
theorem pure3 : ∀ r : List T3, pureA (r.map enc3) = true
  | [] => rfl
  | t :: r => by
    rw [List.map_cons]
    unfold pureA
    rw [pure3 r]
    rfl
theorem hLenF_f (xs : List Dt) : hLenF [frzD xs] = .ok (.int xs.length) := rfl
theorem enumF_ok {gA : List Dt → O (List Dt)} {ρ es : List Dt} (h : gA ρ = .ok [frzD es]) : gEnumF gA ρ = .ok (enumD es) := by
  unfold gEnumF
  rw [h]
  rfl
theorem folded_ok (cs : List Int) (many : Int) (hl : cs.length ≤ 63) (m1 : 1 ≤ many) (m2 : many ≤ 60) : ∃ L : List Int, f_l_folded [frzD (cs.map .int), .int many] = .ok (.list (L.map .int)) ∧ (L.length : Int) ≤ many := by
  generalize hj : (if (if (cs.length : Int) > 1 then (cs.length : Int) else 1) < many then (if (cs.length : Int) > 1 then (cs.length : Int) else 1) else many) = j
  have j1 : 1 ≤ j ∧ j ≤ many := by split at hj <;> (try split at hj) <;> omega
  have hstart : gOp hRep (gLst (gCons (gC (.int (0))) (gNil))) (gCB hMin2 (gCons (gVar 1) (gCons (gCB hMax2 (gCons (gC (.int (1))) (gCons (gCB hLenF (gCons (gVar 0) (gNil))) (gNil)))) (gNil)))) [frzD (cs.map .int), .int many, .none, .none, .none] = .ok (.list ((List.replicate j.toNat (0 : Int)).map .int)) := by
    have e1 : gCB hMin2 (gCons (gVar 1) (gCons (gCB hMax2 (gCons (gC (.int (1))) (gCons (gCB hLenF (gCons (gVar 0) (gNil))) (gNil)))) (gNil))) [frzD (cs.map .int), .int many, .none, .none, .none] = .ok (.int j) := by
      simp only [bnd_ok, gVar_def, gC_def, gOp_def, gUn_def, gNil_def, gCons_def, gIf_def, gTest_def, gNot_def, gAnd_def, gOr_def, gAndV_def, gOrV_def, gNotV_def, gCB_def, asB_b, hAdd_i, hSub_i, hLt_i, hLe_i, hGt_i, hGe_i, hMul_r, hMul_l, hMod_i, hDiv_s, hBand_i, hShr_i, hPow_10_18, hPow_10_27, hPow_10_28, hPow_10_29, hPow_10_30, hEq_i, hNe_i, hLen_l, hLen_t, hMin2_i, hMax2_i, hMin3_i, hInt1_b, hInt1_i, hBits_i, hListOf_l, hListOf_t, hTupOf_l, hTupOf_t, gSeqS_def, gSet_def, gRet_def, gIfS_def, gNext_def, gTup_def, gLst_def, List.getElem?_cons_zero, List.getElem?_cons_succ, List.set_cons_zero, List.set_cons_succ, List.length_cons, List.length_nil, Nat.zero_add, Nat.reduceAdd, Nat.reduceLeDiff, Nat.reduceSub, Nat.reduceMul, if_true, if_false, Bool.false_eq_true, List.replicate_succ, List.replicate_zero, List.cons_append, List.nil_append, tgN, tgT, tgCons, tgNil, Int.reducePow, Int.reduceAdd, Int.reduceSub, Int.reduceMul, decide_true, decide_false, Bool.not_true, Bool.not_false, gChain_def, hIsa_int, hIsa_intb, hIsa_list, hIsa_tuple, gDrop_def, hLenF_f, List.length_map, hj]
    have e2 : gLst (gCons (gC (.int (0))) (gNil)) [frzD (cs.map .int), .int many, .none, .none, .none] = .ok (.list [.int 0]) := rfl
    rw [gOp_def, e1, e2, bnd_ok, bnd_ok, hRep_0 (by omega) (by omega)]
  obtain ⟨ρ', hf, L, x3, x4, rfl, hL⟩ := forE_ix (fun (q : Int × Nat) => PyData.tuple [.int (q.2 : Nat), .int q.1]) (h := tgT (tgCons (tgN 3) (tgCons (tgN 4) (tgNil)))) (b := g_l_folded_L1) cs.zipIdx
    (fun _ ρ => ∃ (L : List Int) (x3 x4 : Dt), ρ = [frzD (cs.map .int), .int many, .list (L.map .int), x3, x4] ∧ L.length = j.toNat)
    (ρ := [frzD (cs.map .int), .int many, .list ((List.replicate j.toNat (0 : Int)).map .int), .none, .none]) ⟨_, _, _, rfl, List.length_replicate ..⟩ (by
      rintro i ρ hi ⟨L, x3, x4, rfl, hL⟩
      generalize cs.zipIdx[i] = q at *
      obtain ⟨c, k⟩ := q
      have hlpos : (0 : Int) < (L.length : Int) := by omega
      have hmod := hMod_i (i := (k : Int)) hlpos
      have q0 := Int.emod_nonneg (k : Int) (show (L.length : Int) ≠ 0 by omega)
      have q1 := Int.emod_lt_of_pos (k : Int) hlpos
      generalize (k : Int) % (L.length : Int) = z at *
      have hix := hIx_ints (xs := L) q0 q1
      generalize L[z.toNat]'(by omega) = y at hix
      refine ⟨[frzD (cs.map .int), .int many, .list (L.map .int), .int (k : Nat), .int c], _, rfl, .inl (setI_ok (ds := L.map .int) (d := .int (y * 7 + c)) (j := z) ?_ rfl ?_ q0 (by rw [List.length_map]; omega)), L.set z.toNat (y * 7 + c), .int (k : Nat), .int c, ?_, by rw [List.length_set]; exact hL⟩
      · simp (disch := omega) only [bnd_ok, gVar_def, gC_def, gOp_def, gUn_def, gNil_def, gCons_def, gIf_def, gTest_def, gNot_def, gAnd_def, gOr_def, gAndV_def, gOrV_def, gNotV_def, gCB_def, asB_b, hAdd_i, hSub_i, hLt_i, hLe_i, hGt_i, hGe_i, hMul_r, hMul_l, hMod_i, hDiv_s, hBand_i, hShr_i, hPow_10_18, hPow_10_27, hPow_10_28, hPow_10_29, hPow_10_30, hEq_i, hNe_i, hLen_l, hLen_t, hMin2_i, hMax2_i, hMin3_i, hInt1_b, hInt1_i, hBits_i, hListOf_l, hListOf_t, hTupOf_l, hTupOf_t, gSeqS_def, gSet_def, gRet_def, gIfS_def, gNext_def, gTup_def, gLst_def, List.getElem?_cons_zero, List.getElem?_cons_succ, List.set_cons_zero, List.set_cons_succ, List.length_cons, List.length_nil, Nat.zero_add, Nat.reduceAdd, Nat.reduceLeDiff, Nat.reduceSub, Nat.reduceMul, if_true, if_false, Bool.false_eq_true, List.replicate_succ, List.replicate_zero, List.cons_append, List.nil_append, tgN, tgT, tgCons, tgNil, Int.reducePow, Int.reduceAdd, Int.reduceSub, Int.reduceMul, decide_true, decide_false, Bool.not_true, Bool.not_false, gChain_def, hIsa_int, hIsa_intb, hIsa_list, hIsa_tuple, gDrop_def, List.length_map, hmod, hix]
      · simp (disch := omega) only [bnd_ok, gVar_def, gC_def, gOp_def, gUn_def, gNil_def, gCons_def, gIf_def, gTest_def, gNot_def, gAnd_def, gOr_def, gAndV_def, gOrV_def, gNotV_def, gCB_def, asB_b, hAdd_i, hSub_i, hLt_i, hLe_i, hGt_i, hGe_i, hMul_r, hMul_l, hMod_i, hDiv_s, hBand_i, hShr_i, hPow_10_18, hPow_10_27, hPow_10_28, hPow_10_29, hPow_10_30, hEq_i, hNe_i, hLen_l, hLen_t, hMin2_i, hMax2_i, hMin3_i, hInt1_b, hInt1_i, hBits_i, hListOf_l, hListOf_t, hTupOf_l, hTupOf_t, gSeqS_def, gSet_def, gRet_def, gIfS_def, gNext_def, gTup_def, gLst_def, List.getElem?_cons_zero, List.getElem?_cons_succ, List.set_cons_zero, List.set_cons_succ, List.length_cons, List.length_nil, Nat.zero_add, Nat.reduceAdd, Nat.reduceLeDiff, Nat.reduceSub, Nat.reduceMul, if_true, if_false, Bool.false_eq_true, List.replicate_succ, List.replicate_zero, List.cons_append, List.nil_append, tgN, tgT, tgCons, tgNil, Int.reducePow, Int.reduceAdd, Int.reduceSub, Int.reduceMul, decide_true, decide_false, Bool.not_true, Bool.not_false, gChain_def, hIsa_int, hIsa_intb, hIsa_list, hIsa_tuple, gDrop_def, List.length_map, hmod]
      · rw [List.map_set]
        rfl)
  refine ⟨L, fnL_rt ?_, by omega⟩
  show g_l_folded [frzD (cs.map .int), .int many, .none, .none, .none] = _
  unfold g_l_folded
  refine seq_step (set_ok hstart) ?_
  dsimp only [List.set]
  refine seq_step (for_ok (ds := cs.zipIdx.map fun (q : Int × Nat) => PyData.tuple [.int (q.2 : Nat), .int q.1]) ?_ hf) ?_
  · refine (enumF_ok (es := cs.map .int) (by rfl)).trans ?_
    rw [enumD_map]
  · rfl
end K18
end T_K18A
section T_LeP
set_option linter.all false
set_option maxRecDepth 100000
namespace Sim
open PySem
def OLe {α : Type} (a b : O α) : Prop := ∀ r, a = .ok r → b = .ok r
theorem OLe.refl {α : Type} (a : O α) : OLe a a := fun _ h => h
theorem hIx_ds {ds : List Dt} {i : Nat} (h : i < ds.length) : hIx (.list ds) (.int (i : Nat)) = .ok ds[i] := by
  have q := hIx_l (atI_map id (xs := ds) (i := (i : Int)) (by omega) (by omega))
  rw [List.map_id] at q
  exact q
end Sim
end T_LeP
section T_K18O
set_option linter.all false
set_option maxRecDepth 100000
set_option maxHeartbeats 4000000
namespace K18
open PySem Sim FamA FamB FamL Lay K24
open N (netD Good toL toL_inj pure3 ix3_0 ix3_1 ix3_2 okT_of)
theorem rec_one {n : Int} {T : Dt} (h : f_is_tie [.int n, T] = .ok (.bool false)) : f_is_record [.int n, .list [T]] = .ok (.bool false) := by
  have hall := N.all_ties (n := n) (ds := [T]) (p := fun _ => false) .none .none (by simp) (fun d hd => by
    rw [List.mem_singleton.mp hd]
    exact h)
  have hb := hAll_b (([T]).map fun _ => false)
  refine fnN_rt ?_
  show g_is_record [.int n, .list [T], .none, .none] = _
  unfold g_is_record
  have e : decide ((60 : Int) < 1) = false := by decide
  refine seq_step (Eq.trans (if_f (by simp only [bnd_ok, gVar_def, gC_def, gOp_def, gUn_def, gNil_def, gCons_def, gIf_def, gTest_def, gNot_def, gAnd_def, gOr_def, gAndV_def, gOrV_def, gNotV_def, gCB_def, asB_b, hAdd_i, hSub_i, hLt_i, hLe_i, hGt_i, hGe_i, hMul_r, hMul_l, hMod_i, hDiv_s, hBand_i, hShr_i, hPow_10_18, hPow_10_27, hPow_10_28, hPow_10_29, hPow_10_30, hEq_i, hNe_i, hLen_l, hLen_t, hMin2_i, hMax2_i, hMin3_i, hInt1_b, hInt1_i, hBits_i, hListOf_l, hListOf_t, hTupOf_l, hTupOf_t, gSeqS_def, gSet_def, gRet_def, gIfS_def, gNext_def, gTup_def, gLst_def, List.getElem?_cons_zero, List.getElem?_cons_succ, List.set_cons_zero, List.set_cons_succ, List.length_cons, List.length_nil, Nat.zero_add, Nat.reduceAdd, Nat.reduceLeDiff, Nat.reduceSub, Nat.reduceMul, if_true, if_false, Bool.false_eq_true, List.replicate_succ, List.replicate_zero, List.cons_append, List.nil_append, tgN, tgT, tgCons, tgNil, Int.reducePow, Int.reduceAdd, Int.reduceSub, Int.reduceMul, decide_true, decide_false, Bool.not_true, Bool.not_false, gChain_def, hIsa_int, hIsa_intb, hIsa_list, hIsa_tuple, gDrop_def, e]; rfl)) rfl) ?_
  refine seq_rt (Eq.trans (if_t ?_) rfl)
  simp only [bnd_ok, gVar_def, gC_def, gOp_def, gUn_def, gNil_def, gCons_def, gIf_def, gTest_def, gNot_def, gAnd_def, gOr_def, gAndV_def, gOrV_def, gNotV_def, gCB_def, asB_b, hAdd_i, hSub_i, hLt_i, hLe_i, hGt_i, hGe_i, hMul_r, hMul_l, hMod_i, hDiv_s, hBand_i, hShr_i, hPow_10_18, hPow_10_27, hPow_10_28, hPow_10_29, hPow_10_30, hEq_i, hNe_i, hLen_l, hLen_t, hMin2_i, hMax2_i, hMin3_i, hInt1_b, hInt1_i, hBits_i, hListOf_l, hListOf_t, hTupOf_l, hTupOf_t, gSeqS_def, gSet_def, gRet_def, gIfS_def, gNext_def, gTup_def, gLst_def, List.getElem?_cons_zero, List.getElem?_cons_succ, List.set_cons_zero, List.set_cons_succ, List.length_cons, List.length_nil, Nat.zero_add, Nat.reduceAdd, Nat.reduceLeDiff, Nat.reduceSub, Nat.reduceMul, if_true, if_false, Bool.false_eq_true, List.replicate_succ, List.replicate_zero, List.cons_append, List.nil_append, tgN, tgT, tgCons, tgNil, Int.reducePow, Int.reduceAdd, Int.reduceSub, Int.reduceMul, decide_true, decide_false, Bool.not_true, Bool.not_false, gChain_def, hIsa_int, hIsa_intb, hIsa_list, hIsa_tuple, gDrop_def, hall, hb]
  rfl
theorem tie_of {n : Int} {T : Dt} (h : f_is_meeting [.int n, T] = .ok (.bool false)) : f_is_tie [.int n, T] = .ok (.bool false) := by
  refine fnN_rt ?_
  show g_is_tie [.int n, T] = _
  unfold g_is_tie
  have c : gCallN 2 f_is_meeting (gCons (gVar 0) (gCons (gVar 1) (gNil))) [.int n, T] = .ok (.bool false) := callN_ok (ds := [.int n, T]) rfl rfl h
  refine ret_ok ?_
  rw [gAndV_def, c]
  rfl
theorem moment5 : f_is_moment [.int 5] = .ok (.bool true) := by rw [N.moment_int]; rfl
theorem meet_0 {n : Int} {x y z : Dt} (h : f_is_moment [x] = .ok (.bool false)) : f_is_meeting [.int n, .tuple [x, y, z]] = .ok (.bool false) := by
  refine fnN_rt ?_
  show g_is_meeting [.int n, .tuple [x, y, z]] = _
  unfold g_is_meeting
  have t1 : gTest (gUn (hIsa .tuple) (gVar 1)) [.int n, .tuple [x, y, z]] = .ok true := rfl
  have t2 : gTest (gOp hNe (gCB hLen (gCons (gVar 1) (gNil))) (gC (.int (3)))) [.int n, .tuple [x, y, z]] = .ok false := by
    rw [gTest_def, gOp_def]
    show bnd (hNe (.int 3) (.int 3)) asB = _
    rw [hNe_i]
    rfl
  have c : gCallN 1 f_is_moment (gCons (gOp hIx (gVar 1) (gC (.int (0)))) (gNil)) [.int n, .tuple [x, y, z]] = .ok (.bool false) := callN_ok (ds := [x]) rfl rfl h
  refine seq_rt ((if_t ?_).trans rfl)
  simp only [gOr_def, gNot_def, t1, t2, gTest_def, c, bnd_ok, asB_b, Bool.not_true, Bool.not_false, Bool.false_eq_true, if_false, if_true]
theorem meet_1 {n : Int} {x y z : Dt} (h0 : f_is_moment [x] = .ok (.bool true)) (h : f_is_place [.int n, y] = .ok (.bool false) ∨ f_is_place [.int n, y] = .ok (.bool true) ∧ f_is_place [.int n, z] = .ok (.bool false)) : f_is_meeting [.int n, .tuple [x, y, z]] = .ok (.bool false) := by
  refine fnN_rt ?_
  show g_is_meeting [.int n, .tuple [x, y, z]] = _
  unfold g_is_meeting
  have t1 : gTest (gUn (hIsa .tuple) (gVar 1)) [.int n, .tuple [x, y, z]] = .ok true := rfl
  have t2 : gTest (gOp hNe (gCB hLen (gCons (gVar 1) (gNil))) (gC (.int (3)))) [.int n, .tuple [x, y, z]] = .ok false := by
    rw [gTest_def, gOp_def]
    show bnd (hNe (.int 3) (.int 3)) asB = _
    rw [hNe_i]
    rfl
  have t3 : gTest (gCallN 1 f_is_moment (gCons (gOp hIx (gVar 1) (gC (.int (0)))) (gNil))) [.int n, .tuple [x, y, z]] = .ok true := by
    have c : gCallN 1 f_is_moment (gCons (gOp hIx (gVar 1) (gC (.int (0)))) (gNil)) [.int n, .tuple [x, y, z]] = .ok (.bool true) := callN_ok (ds := [x]) rfl rfl h0
    rw [gTest_def, c]
    rfl
  refine seq_step ((if_f ?_).trans rfl) (ret_ok ?_)
  · simp only [gOr_def, gNot_def, t1, t2, t3, bnd_ok, Bool.not_true, Bool.false_eq_true, if_false]
  have p1 : ∀ v, f_is_place [.int n, y] = .ok v → gCallN 2 f_is_place (gCons (gVar 0) (gCons (gOp hIx (gVar 1) (gC (.int (1)))) (gNil))) [.int n, .tuple [x, y, z]] = .ok v := fun v h => callN_ok (ds := [.int n, y]) rfl rfl h
  have p2 : ∀ v, f_is_place [.int n, z] = .ok v → gCallN 2 f_is_place (gCons (gVar 0) (gCons (gOp hIx (gVar 1) (gC (.int (2)))) (gNil))) [.int n, .tuple [x, y, z]] = .ok v := fun v h => callN_ok (ds := [.int n, z]) rfl rfl h
  rcases h with h | ⟨h, h2⟩
  · rw [gAndV_def, p1 _ h]
    rfl
  · rw [gAndV_def, p1 _ h, bnd_ok, asB_b, bnd_ok, if_pos rfl]
    exact p2 _ h2
def o1 (n : Int) (k : Nat) (r : List T3) : List Dt := [.none, .int 5, .str "3 2 none", .list [.int n, .int (k : Nat), .list (r.map enc3)], .tuple [.int n, .int (k : Nat)], .tuple [.int n, .int (k : Nat), .list (r.map enc3), .int 0], .tuple [.int 0, .int (k : Nat), .list []], .tuple [.int 11, .int (k : Nat), .list []], .tuple [.bool true, .int 1, .list []]]
def o2 (n : Int) (k : Nat) (r : List T3) : List Dt := [.tuple [.int n, .int 0, .list []], .tuple [.int n, .int 7, .list []], .tuple [.int n, .bool true, .list []], .tuple [.int n, .int (k : Nat), .tuple (r.map enc3)], .tuple [.int n, .int (k : Nat), .none], .tuple [.int n, .int (k : Nat), .list [enc3 (5, 0, n)]]]
def o3 (n : Int) (k : Nat) : List Dt := [.tuple [.int n, .int (k : Nat), .list [enc3 (5, 0, 0)]], .tuple [.int n, .int (k : Nat), .list [.list [.int 5, .int 0, .int 0]]], .tuple [.int n, .int (k : Nat), .list [enc3 (7, 0, 0), enc3 (5, 0, 0)]], .tuple [.str "3", .int 2, .list []], .tuple [.int n, .str "2", .list []]]
def o4 (n : Int) (k : Nat) : List Dt := [.tuple [.int n, .int (k : Nat), .dict []], .tuple [.int n, .int (k : Nat), .list [enc3 (5, -1, 0)]], .tuple [.int n, .int (k : Nat), .list [enc3 (-1, 0, 0)]], .tuple [.int n, .int (k : Nat), .list [enc3 (1000000000000000000000000000001, 0, 0)]], .dict [], .tuple []]
def oT (n : Int) : List Dt := [.tuple [.bool true, .int 0, .int (n - 1)], .tuple [.int 5, .bool false, .int (n - 1)], .tuple [.int 5, .int 0, .str "1"], .tuple [.int 5, .int 0, .none], .tuple [.str "5", .int 0, .int (n - 1)], .tuple [.int 5, .tuple [.int 0], .int (n - 1)]]
def o5 (n : Int) (k : Nat) : List Dt := (oT n).map fun T => .tuple [.int n, .int (k : Nat), .list [T]]
def oAll (n : Int) (k : Nat) (r : List T3) : List Dt := o1 n k r ++ o2 n k r ++ o3 n k ++ o4 n k ++ o5 n k
theorem place_0 {n : Int} (n1 : 1 ≤ n) : f_is_place [.int n, .int 0] = .ok (.bool true) := by
  rw [N.place_ok, decide_eq_true (show (0 : Int) ≤ 0 by omega), decide_eq_true (show (0 : Int) < n by omega)]
  rfl
theorem bad_T {n : Int} (n1 : 1 ≤ n) : ∀ T ∈ oT n, f_is_meeting [.int n, T] = .ok (.bool false) := by
  intro T hT
  simp only [oT, List.mem_cons, List.not_mem_nil, or_false] at hT
  rcases hT with rfl | rfl | rfl | rfl | rfl | rfl
  · exact meet_0 rfl
  · exact meet_1 moment5 (.inl rfl)
  · exact meet_1 moment5 (.inr ⟨place_0 n1, rfl⟩)
  · exact meet_1 moment5 (.inr ⟨place_0 n1, rfl⟩)
  · exact meet_0 rfl
  · exact meet_1 moment5 (.inl rfl)
theorem bad_all {n : Int} {k : Nat} {r : List T3} (n1 : 1 ≤ n) (n10 : n ≤ 10) (k1 : 1 ≤ k) (k6 : k ≤ 6) : ∀ d ∈ oAll n k r, BadNet d := by
  have cn := cnt_yes (z := n) (m := 10) ⟨n1, n10⟩
  have ck := cnt_yes (z := (k : Int)) (m := 6) ⟨by omega, by omega⟩
  intro d hd
  rcases List.mem_append.mp hd with hd | hd
  · simp only [o1, o2, o3, o4, List.mem_append, List.mem_cons, List.not_mem_nil, or_false] at hd
    rcases hd with (((rfl | rfl | rfl | rfl | rfl | rfl | rfl | rfl | rfl) | (rfl | rfl | rfl | rfl | rfl | rfl)) | (rfl | rfl | rfl | rfl | rfl)) | (rfl | rfl | rfl | rfl | rfl | rfl)
    · exact bn_not rfl
    · exact bn_not rfl
    · exact bn_not rfl
    · exact bn_not rfl
    · exact bn_len rfl
    · exact bn_len rfl
    · exact bn_3 (c := true) (.inl (cnt_no (by omega)))
    · exact bn_3 (c := true) (.inl (cnt_no (by omega)))
    · exact bn_3 (c := true) (.inl rfl)
    · exact bn_3 (c := true) (.inr ⟨cn, .inl (cnt_no (by omega))⟩)
    · exact bn_3 (c := true) (.inr ⟨cn, .inl (cnt_no (by omega))⟩)
    · exact bn_3 (c := true) (.inr ⟨cn, .inl rfl⟩)
    · exact bn_3 (c := true) (.inr ⟨cn, .inr ⟨ck, .inl (rec_not rfl)⟩⟩)
    · exact bn_3 (c := true) (.inr ⟨cn, .inr ⟨ck, .inl (rec_not rfl)⟩⟩)
    · refine bn_3 (c := true) (.inr ⟨cn, .inr ⟨ck, .inl (rec_odd ?_)⟩⟩)
      unfold N.okT N.tieB
      simp
    · refine bn_3 (c := true) (.inr ⟨cn, .inr ⟨ck, .inr ⟨?_, lay k [(5, 0, 0)], layered_ok (r := [(5, 0, 0)]) (fun t ht => ?_) (by simp) n1 n10 k1 k6, ?_⟩⟩⟩)
      · have := N.rec_enc (n := n) (r := [(5, 0, 0)]) (by simp)
        rw [List.all_cons, ok1 n1 (by omega)] at this
        exact this
      · rw [List.mem_singleton.mp ht]
        exact ⟨⟨by show (0 : Int) ≤ 0; omega, by show (0 : Int) < n; omega⟩, by show (0 : Int) ≤ 0; omega, by show (0 : Int) < n; omega⟩
      · rw [lay_cons]
        exact List.mem_cons.mpr (.inl (num_refl _ _ _ _).symm)
    · exact bn_3 (c := true) (.inr ⟨cn, .inr ⟨ck, .inl (rec_one rfl)⟩⟩)
    · refine bn_3 (c := true) (.inr ⟨cn, .inr ⟨ck, .inl ?_⟩⟩)
      have := N.rec_enc (n := n) (r := [(7, 0, 0), (5, 0, 0)]) (by simp)
      have hb : N.ordB [((7 : Int), (0 : Int), (0 : Int)), (5, 0, 0)] = false := rfl
      rw [hb, Bool.and_false] at this
      exact this
    · exact bn_3 (c := true) (.inl rfl)
    · exact bn_3 (c := true) (.inr ⟨cn, .inl rfl⟩)
    · exact bn_3 (c := true) (.inr ⟨cn, .inr ⟨ck, .inl (rec_not rfl)⟩⟩)
    · refine bn_3 (c := true) (.inr ⟨cn, .inr ⟨ck, .inl (rec_odd ?_)⟩⟩)
      unfold N.okT N.tieB
      simp
    · refine bn_3 (c := true) (.inr ⟨cn, .inr ⟨ck, .inl (rec_odd ?_)⟩⟩)
      unfold N.okT N.tieB
      simp
    · refine bn_3 (c := true) (.inr ⟨cn, .inr ⟨ck, .inl (rec_odd ?_)⟩⟩)
      unfold N.okT N.tieB
      simp
    · exact bn_not rfl
    · exact bn_len rfl
  · obtain ⟨T, hT, rfl⟩ := List.mem_map.mp hd
    exact bn_3 (c := true) (.inr ⟨cn, .inr ⟨ck, .inl (rec_one (tie_of (bad_T n1 T hT)))⟩⟩)
theorem odd_turn {p N0 R x6 : Dt} {n : Int} {k : Nat} {xs : List Dt} {T : Dt} (hl : xs.length ≤ 1000) :
    g_l_odd_net_L1 [p, N0, .int n, .int (k : Nat), R, .list xs, T] = .ok (.nx [p, N0, .int n, .int (k : Nat), R, .list (xs ++ [.tuple [.int n, .int (k : Nat), .list [T]]]), T]) := by
  unfold g_l_odd_net_L1
  exact gApp_l (ds := xs) (d := .tuple [.int n, .int (k : Nat), .list [T]]) rfl rfl (by omega)
theorem odd_loop {p N0 R : Dt} {n : Int} {k : Nat} : ∀ (Ts : List Dt) (xs : List Dt) (x6 : Dt), xs.length + Ts.length ≤ 1000 →
    ∃ y6, forE (tgN 6) g_l_odd_net_L1 Ts [p, N0, .int n, .int (k : Nat), R, .list xs, x6] = .ok (.nx [p, N0, .int n, .int (k : Nat), R, .list (xs ++ Ts.map fun T => .tuple [.int n, .int (k : Nat), .list [T]]), y6])
  | [], xs, x6, _ => ⟨x6, by rw [List.map_nil, List.append_nil]; rfl⟩
  | T :: Ts, xs, x6, hl => by
    rw [List.length_cons] at hl
    obtain ⟨y6, h⟩ := odd_loop (p := p) (N0 := N0) (R := R) (n := n) (k := k) Ts (xs ++ [.tuple [.int n, .int (k : Nat), .list [T]]]) T (by rw [List.length_append, List.length_singleton]; omega)
    refine ⟨y6, ?_⟩
    rw [forE]
    have g1 : tgN 6 T [p, N0, .int n, .int (k : Nat), R, .list xs, x6] = .ok [p, N0, .int n, .int (k : Nat), R, .list xs, T] := rfl
    simp only [g1, odd_turn (p := p) (N0 := N0) (R := R) (n := n) (k := k) (xs := xs) (T := T) (x6 := x6) (by omega), bnd_ok]
    rw [h, List.map_cons, List.append_assoc]
    rfl
theorem p30 : hPow (.int 10) (.int 30) = .ok (.int 1000000000000000000000000000000) := by
  show (if cPow 10 30 then O.ok (PyData.int ((10 : Int) ^ (30 : Int).toNat)) else .bad) = _
  rw [if_pos (by decide)]
  rfl
theorem odd_net_ok {m n : Int} {k : Nat} {r : List T3} {p : Dt} (hp : PotOk m p) (hm : m < 1099511500000) (hl : r.length ≤ 1000) (n1 : 1 ≤ n) (n10 : n ≤ 10) (k1 : 1 ≤ k) (k6 : k ≤ 6) : ∃ d p', f_l_odd_net [p, netD n k r] = .ok (.tuple [d, p']) ∧ PotOk (m + 1) p' ∧ BadNet d := by
  have h32 : (oAll n k r).length = 32 := rfl
  obtain ⟨RD, hRD⟩ : ∃ D, D = PyData.list (r.map enc3) := ⟨_, rfl⟩
  obtain ⟨y6, hloop⟩ := odd_loop (p := p) (N0 := netD n k r) (R := RD) (n := n) (k := k) (oT n) (o1 n k r ++ o2 n k r ++ o3 n k ++ o4 n k) .none (by simp [o1, o2, o3, o4, oT])
  have hfin : (o1 n k r ++ o2 n k r ++ o3 n k ++ o4 n k) ++ (oT n).map (fun T => .tuple [.int n, .int (k : Nat), .list [T]]) = oAll n k r := rfl
  rw [hfin] at hloop
  obtain ⟨i, p3, e3, i0, i1, hp3⟩ := tk_ok (i := 0) (size := 32) (gA := xCons (xP (gCB hLen (gCons (gVar 5) (gNil)))) (xNil)) (ρ := [p, netD n k r, .int n, .int (k : Nat), RD, .list (oAll n k r), y6]) (ρ' := [p, netD n k r, .int n, .int (k : Nat), RD, .list (oAll n k r), y6]) (by
    rw [xCons_def, xP_def]
    simp only [bnd_ok, gVar_def, gC_def, gOp_def, gUn_def, gNil_def, gCons_def, gIf_def, gTest_def, gNot_def, gAnd_def, gOr_def, gAndV_def, gOrV_def, gNotV_def, gCB_def, asB_b, hAdd_i, hSub_i, hLt_i, hLe_i, hGt_i, hGe_i, hMul_r, hMul_l, hMod_i, hDiv_s, hBand_i, hShr_i, hPow_10_18, hPow_10_27, hPow_10_28, hPow_10_29, hPow_10_30, hEq_i, hNe_i, hLen_l, hLen_t, hMin2_i, hMax2_i, hMin3_i, hInt1_b, hInt1_i, hBits_i, hListOf_l, hListOf_t, hTupOf_l, hTupOf_t, gSeqS_def, gSet_def, gRet_def, gIfS_def, gNext_def, gTup_def, gLst_def, List.getElem?_cons_zero, List.getElem?_cons_succ, List.set_cons_zero, List.set_cons_succ, List.length_cons, List.length_nil, Nat.zero_add, Nat.reduceAdd, Nat.reduceLeDiff, Nat.reduceSub, Nat.reduceMul, if_true, if_false, Bool.false_eq_true, List.replicate_succ, List.replicate_zero, List.cons_append, List.nil_append, tgN, tgT, tgCons, tgNil, Int.reducePow, Int.reduceAdd, Int.reduceSub, Int.reduceMul, decide_true, decide_false, Bool.not_true, Bool.not_false, gChain_def, hIsa_int, hIsa_intb, hIsa_list, hIsa_tuple, gDrop_def, h32]
    rfl) rfl hp (by omega) (by omega) (by omega)
  have e3 : xCallM .la 2 f_l_take 0 (xCons (xP (gCB hLen (gCons (gVar 5) (gNil)))) (xNil)) [p, netD n k r, .int n, .int (k : Nat), RD, .list (oAll n k r), y6] = .ok (.int i, [p3, netD n k r, .int n, .int (k : Nat), RD, .list (oAll n k r), y6]) := e3
  have hlt : i.toNat < (oAll n k r).length := by rw [h32]; omega
  refine ⟨(oAll n k r)[i.toNat], p3, fnN_rt ?_, hp3, bad_all n1 n10 k1 k6 _ (List.getElem_mem _)⟩
  show g_l_odd_net [p, netD n k r, .none, .none, .none, .none, .none] = _
  unfold g_l_odd_net
  refine seq_step (ρ' := [p, netD n k r, .int n, .int (k : Nat), RD, .none, .none]) (asg_ok (by rfl) (by rw [hRD]; rfl)) ?_
  have a1 : (gLst (gCons (gC .none) (gCons (gC (.int (5))) (gCons (gC (.str "3 2 none")) (gCons (gLst (gCons (gVar 2) (gCons (gVar 3) (gCons (gVar 4) (gNil))))) (gCons (gTup (gCons (gVar 2) (gCons (gVar 3) (gNil)))) (gCons (gTup (gCons (gVar 2) (gCons (gVar 3) (gCons (gVar 4) (gCons (gC (.int (0))) (gNil)))))) (gCons (gTup (gCons (gC (.int (0))) (gCons (gVar 3) (gCons (gLst (gNil)) (gNil))))) (gCons (gTup (gCons (gC (.int (11))) (gCons (gVar 3) (gCons (gLst (gNil)) (gNil))))) (gCons (gTup (gCons (gC (.bool true)) (gCons (gC (.int (1))) (gCons (gLst (gNil)) (gNil))))) (gNil))))))))))) [p, netD n k r, .int n, .int (k : Nat), RD, .none, .none] = .ok (.list (o1 n k r)) := by rw [hRD]; rfl
  refine seq_step (set_ok a1) ?_
  dsimp only [List.set]
  have a2 : ∀ x, (gLst (gCons (gTup (gCons (gVar 2) (gCons (gC (.int (0))) (gCons (gLst (gNil)) (gNil))))) (gCons (gTup (gCons (gVar 2) (gCons (gC (.int (7))) (gCons (gLst (gNil)) (gNil))))) (gCons (gTup (gCons (gVar 2) (gCons (gC (.bool true)) (gCons (gLst (gNil)) (gNil))))) (gCons (gTup (gCons (gVar 2) (gCons (gVar 3) (gCons (gCB (one hTupOf) (gCons (gVar 4) (gNil))) (gNil))))) (gCons (gTup (gCons (gVar 2) (gCons (gVar 3) (gCons (gC .none) (gNil))))) (gCons (gTup (gCons (gVar 2) (gCons (gVar 3) (gCons (gLst (gCons (gTup (gCons (gC (.int (5))) (gCons (gC (.int (0))) (gCons (gVar 2) (gNil))))) (gNil))) (gNil))))) (gNil)))))))) [p, netD n k r, .int n, .int (k : Nat), RD, x, .none] = .ok (.list (o2 n k r)) := fun x => by rw [hRD]; rfl
  refine seq_step (set_ok (d := .list (o1 n k r ++ o2 n k r)) ?_) ?_
  · rw [gOp_def, a2]
    rfl
  dsimp only [List.set]
  have a3 : ∀ x, (gLst (gCons (gTup (gCons (gVar 2) (gCons (gVar 3) (gCons (gLst (gCons (gTup (gCons (gC (.int (5))) (gCons (gC (.int (0))) (gCons (gC (.int (0))) (gNil))))) (gNil))) (gNil))))) (gCons (gTup (gCons (gVar 2) (gCons (gVar 3) (gCons (gLst (gCons (gLst (gCons (gC (.int (5))) (gCons (gC (.int (0))) (gCons (gC (.int (0))) (gNil))))) (gNil))) (gNil))))) (gCons (gTup (gCons (gVar 2) (gCons (gVar 3) (gCons (gLst (gCons (gTup (gCons (gC (.int (7))) (gCons (gC (.int (0))) (gCons (gC (.int (0))) (gNil))))) (gCons (gTup (gCons (gC (.int (5))) (gCons (gC (.int (0))) (gCons (gC (.int (0))) (gNil))))) (gNil)))) (gNil))))) (gCons (gTup (gCons (gC (.str "3")) (gCons (gC (.int (2))) (gCons (gLst (gNil)) (gNil))))) (gCons (gTup (gCons (gVar 2) (gCons (gC (.str "2")) (gCons (gLst (gNil)) (gNil))))) (gNil))))))) [p, netD n k r, .int n, .int (k : Nat), RD, x, .none] = .ok (.list (o3 n k)) := fun x => by rfl
  refine seq_step (set_ok (d := .list (o1 n k r ++ o2 n k r ++ o3 n k)) ?_) ?_
  · rw [gOp_def, a3]
    rfl
  dsimp only [List.set]
  have a4 : ∀ x, (gLst (gCons (gTup (gCons (gVar 2) (gCons (gVar 3) (gCons (gDNew) (gNil))))) (gCons (gTup (gCons (gVar 2) (gCons (gVar 3) (gCons (gLst (gCons (gTup (gCons (gC (.int (5))) (gCons (gUn (hU fun i => -i) (gC (.int (1)))) (gCons (gC (.int (0))) (gNil))))) (gNil))) (gNil))))) (gCons (gTup (gCons (gVar 2) (gCons (gVar 3) (gCons (gLst (gCons (gTup (gCons (gUn (hU fun i => -i) (gC (.int (1)))) (gCons (gC (.int (0))) (gCons (gC (.int (0))) (gNil))))) (gNil))) (gNil))))) (gCons (gTup (gCons (gVar 2) (gCons (gVar 3) (gCons (gLst (gCons (gTup (gCons (gOp hAdd (gOp hPow (gC (.int (10))) (gC (.int (30)))) (gC (.int (1)))) (gCons (gC (.int (0))) (gCons (gC (.int (0))) (gNil))))) (gNil))) (gNil))))) (gCons (gDNew) (gCons (gTup (gNil)) (gNil)))))))) [p, netD n k r, .int n, .int (k : Nat), RD, x, .none] = .ok (.list (o4 n k)) := fun x => by
    have q : gOp hAdd (gOp hPow (gC (.int (10))) (gC (.int (30)))) (gC (.int (1))) [p, netD n k r, .int n, .int (k : Nat), RD, x, .none] = .ok (.int 1000000000000000000000000000001) := by
      have e : gOp hPow (gC (.int (10))) (gC (.int (30))) [p, netD n k r, .int n, .int (k : Nat), RD, x, .none] = .ok (.int 1000000000000000000000000000000) := p30
      rw [gOp_def, e]
      rfl
    generalize gOp hAdd (gOp hPow (gC (.int (10))) (gC (.int (30)))) (gC (.int (1))) = G at q
    simp only [bnd_ok, gVar_def, gC_def, gOp_def, gUn_def, gNil_def, gCons_def, gIf_def, gTest_def, gNot_def, gAnd_def, gOr_def, gAndV_def, gOrV_def, gNotV_def, gCB_def, asB_b, hAdd_i, hSub_i, hLt_i, hLe_i, hGt_i, hGe_i, hMul_r, hMul_l, hMod_i, hDiv_s, hBand_i, hShr_i, hPow_10_18, hPow_10_27, hPow_10_28, hPow_10_29, hPow_10_30, hEq_i, hNe_i, hLen_l, hLen_t, hMin2_i, hMax2_i, hMin3_i, hInt1_b, hInt1_i, hBits_i, hListOf_l, hListOf_t, hTupOf_l, hTupOf_t, gSeqS_def, gSet_def, gRet_def, gIfS_def, gNext_def, gTup_def, gLst_def, List.getElem?_cons_zero, List.getElem?_cons_succ, List.set_cons_zero, List.set_cons_succ, List.length_cons, List.length_nil, Nat.zero_add, Nat.reduceAdd, Nat.reduceLeDiff, Nat.reduceSub, Nat.reduceMul, if_true, if_false, Bool.false_eq_true, List.replicate_succ, List.replicate_zero, List.cons_append, List.nil_append, tgN, tgT, tgCons, tgNil, Int.reducePow, Int.reduceAdd, Int.reduceSub, Int.reduceMul, decide_true, decide_false, Bool.not_true, Bool.not_false, gChain_def, hIsa_int, hIsa_intb, hIsa_list, hIsa_tuple, gDrop_def, q]
    rfl
  refine seq_step (set_ok (d := .list (o1 n k r ++ o2 n k r ++ o3 n k ++ o4 n k)) ?_) ?_
  · rw [gOp_def, a4]
    rfl
  dsimp only [List.set]
  have a5 : (gLst (gCons (gTup (gCons (gC (.bool true)) (gCons (gC (.int (0))) (gCons (gOp hSub (gVar 2) (gC (.int (1)))) (gNil))))) (gCons (gTup (gCons (gC (.int (5))) (gCons (gC (.bool false)) (gCons (gOp hSub (gVar 2) (gC (.int (1)))) (gNil))))) (gCons (gTup (gCons (gC (.int (5))) (gCons (gC (.int (0))) (gCons (gC (.str "1")) (gNil))))) (gCons (gTup (gCons (gC (.int (5))) (gCons (gC (.int (0))) (gCons (gC .none) (gNil))))) (gCons (gTup (gCons (gC (.str "5")) (gCons (gC (.int (0))) (gCons (gOp hSub (gVar 2) (gC (.int (1)))) (gNil))))) (gCons (gTup (gCons (gC (.int (5))) (gCons (gTup (gCons (gC (.int (0))) (gNil))) (gCons (gOp hSub (gVar 2) (gC (.int (1)))) (gNil))))) (gNil)))))))) [p, netD n k r, .int n, .int (k : Nat), RD, .list (o1 n k r ++ o2 n k r ++ o3 n k ++ o4 n k), .none] = .ok (.list (oT n)) := rfl
  refine seq_step (for_ok (ds := oT n) (seqG_l a5) hloop) ?_
  have hix := hIx_ds hlt
  have ei : ((i.toNat : Nat) : Int) = i := by omega
  rw [ei] at hix
  refine xret_ok (ρ' := [p3, netD n k r, .int n, .int (k : Nat), RD, .list (oAll n k r), y6]) (e := p3) ?_ rfl hp3.argD
  unfold xIxO
  rw [e3, bnd_ok]
  show bnd (hIx (.list (oAll n k r)) (.int i)) _ = _
  rw [hix]
  rfl
end K18
end T_K18O
section T_K18H
set_option linter.all false
set_option maxRecDepth 100000
set_option maxHeartbeats 4000000
namespace K18
open PySem Sim FamA FamL FamB Lay K24
open N (toL toL_inj pure3 netD okT_of)
theorem cb1 {h : List Dt → O Dt} {a : Gd} {ρ : List Dt} {x z : Dt} (h1 : a ρ = .ok x) (h3 : h [x] = .ok z) : gCB h (gCons a (gNil)) ρ = .ok z := by
  rw [gCB_def, gCons_def, h1, bnd_ok, gNil_def, bnd_ok, bnd_ok, h3]
theorem cb2 {h : List Dt → O Dt} {a b : Gd} {ρ : List Dt} {x y z : Dt} (h1 : a ρ = .ok x) (h2 : b ρ = .ok y) (h3 : h [x, y] = .ok z) : gCB h (gCons a (gCons b (gNil))) ρ = .ok z := by
  rw [gCB_def, gCons_def, h1, bnd_ok, gCons_def, h2, bnd_ok, gNil_def, bnd_ok, bnd_ok, bnd_ok, h3]
theorem hint_b (b : Bool) : hInt1 [.bool b] = .ok (.int (if b then 1 else 0)) := by cases b <;> rfl
theorem spoilt_ok {n k m M : Int} {r : List T3} {p : Dt} (hp : PotOk m p) (hm : m < 1099511500000) (n0 : 0 ≤ n) (n11 : n ≤ 11) (k0 : 0 ≤ k) (k6 : k ≤ 6) (hr : SmA M r) (M0 : 2 ≤ M) (hl : r.length ≤ 50) :
    ∃ (n' k' : Int) (made : List T3) (p' : Dt), f_l_spoilt [p, ntD n k r] = .ok (.tuple [ntD n' k' made, p']) ∧ n - 1 ≤ n' ∧ n' ≤ n + 1 ∧ 0 ≤ k' ∧ k' ≤ 6 ∧ SmA (M + 60) made ∧ made.length ≤ r.length + 1 ∧ PotOk (m + 20) p' := by
  obtain ⟨NT, hNT⟩ : ∃ A, A = ntD n k r := ⟨_, rfl⟩
  obtain ⟨RD, hRD⟩ : ∃ A, A = PyData.list (r.map enc3) := ⟨_, rfl⟩
  obtain ⟨pl, hpl⟩ : ∃ z, z = (if n > 1 then n else 1) := ⟨_, rfl⟩
  have pl1 : 1 ≤ pl ∧ pl ≤ 11 := by rw [hpl]; split <;> omega
  obtain ⟨tn, p1, h1, t0, t1, hp1⟩ := tk_ok (i := 0) (gA := xCons (xP (gC (.int (9)))) xNil) (ρ := [p, NT, .int n, .int k, RD, .int pl, .list (r.map enc3), .none, .none, .none, .none]) rfl rfl hp (by omega) (by omega : (0 : Int) < 9) (by omega)
  have h1 : xCallM .la 2 f_l_take 0 (xCons (xP (gC (.int (9)))) xNil) [p, NT, .int n, .int k, RD, .int pl, .list (r.map enc3), .none, .none, .none, .none] = .ok (.int tn, [p1, NT, .int n, .int k, RD, .int pl, .list (r.map enc3), .none, .none, .none, .none]) := h1
  obtain ⟨sz, hsz⟩ : ∃ z, z = (if (r.length : Int) > 1 then (r.length : Int) else 1) := ⟨_, rfl⟩
  have sz1 : 1 ≤ sz ∧ sz ≤ 60 := by rw [hsz]; split <;> omega
  have eL : gCB hLen (gCons (gVar 6) (gNil)) [p1, NT, .int n, .int k, RD, .int pl, .list (r.map enc3), .int tn, .none, .none, .none] = .ok (.int (r.length : Nat)) := by
    show hLen [.list (r.map enc3)] = _
    rw [hLen_l, List.length_map]
  have eM : gCB hMax2 (gCons (gC (.int (1))) (gCons (gCB hLen (gCons (gVar 6) (gNil))) (gNil))) [p1, NT, .int n, .int k, RD, .int pl, .list (r.map enc3), .int tn, .none, .none, .none] = .ok (.int sz) := by
    rw [hsz]
    exact cb2 rfl eL (hMax2_i 1 _)
  obtain ⟨a, p2, h2, a0, a1, hp2⟩ := tk_ok (i := 0) (gA := xCons (xP (gCB hMax2 (gCons (gC (.int (1))) (gCons (gCB hLen (gCons (gVar 6) (gNil))) (gNil))))) xNil) (ρ := [p1, NT, .int n, .int k, RD, .int pl, .list (r.map enc3), .int tn, .none, .none, .none]) (ρ' := [p1, NT, .int n, .int k, RD, .int pl, .list (r.map enc3), .int tn, .none, .none, .none]) (size := sz) (vx_cons (vx_p eM) vx_nil) rfl hp1 (by omega) (by omega) (by omega)
  have h2 : xCallM .la 2 f_l_take 0 (xCons (xP (gCB hMax2 (gCons (gC (.int (1))) (gCons (gCB hLen (gCons (gVar 6) (gNil))) (gNil))))) xNil) [p1, NT, .int n, .int k, RD, .int pl, .list (r.map enc3), .int tn, .none, .none, .none] = .ok (.int a, [p2, NT, .int n, .int k, RD, .int pl, .list (r.map enc3), .int tn, .none, .none, .none]) := h2
  have q1 : r ≠ [] → a < r.length := fun c => by
    have := List.length_pos_iff.mpr c
    rw [hsz] at a1
    split at a1 <;> omega
  have q2 : r = [] → a = 0 := fun c => by
    rw [hsz, c] at a1
    have : a < 1 := a1
    omega
  obtain ⟨m0, p3, e0, j0, hp3⟩ := sp0 (NT := NT) (RD := RD) (n := n) (k := k) (tn := tn) (a := a) (x9 := .none) (x10 := .none) hp2 (by omega) pl1.1 pl1.2 hr M0 hl
  obtain ⟨m1, e1, j1⟩ := sp1 (NT := NT) (RD := RD) (n := n) (k := k) (pl := pl) (x9 := .none) (x10 := .none) (p := p3) (j0 t0) a0 hl
  obtain ⟨m2, p4, y9, y10, e2, j2, hp4⟩ := sp2 (NT := NT) (RD := RD) (n := n) (k := k) (x9 := .none) (x10 := .none) j1 hp3 (by omega) pl1.1 pl1.2 hl a0 q1
  obtain ⟨m3, e3, j3⟩ := sp3 (NT := NT) (RD := RD) (n := n) (k := k) (pl := pl) (x9 := y9) (x10 := y10) (p := p4) j2 a0 hl
  obtain ⟨m4, e4, j4⟩ := sp4 (NT := NT) (RD := RD) (n := n) (k := k) (pl := pl) (x9 := y9) (x10 := y10) (p := p4) j3 hl a0 q1 q2
  have walk : ∀ z, gSeqS (gIfS (gTest (gOp hGt (gVar 7) (gC (.int (6))))) (xRetM (xP (gTup (gCons (gVar 2) (gCons (gCB hMax2 (gCons (gC (.int (1))) (gCons (gCB hMin2 (gCons (gC (.int (6))) (gCons (gOp hSub (gOp hAdd (gVar 3) (gOp hMul (gC (.int (2))) (gVar 7))) (gC (.int (15)))) (gNil)))) (gNil)))) (gCons (gVar 6) (gNil))))))) (gNext)) (xRetM (xP (gTup (gCons (gOp hSub (gOp hAdd (gVar 2) (gCB hInt1 (gCons (gOp hEq (gVar 7) (gC (.int (5)))) (gNil)))) (gCB hInt1 (gCons (gOp hEq (gVar 7) (gC (.int (6)))) (gNil)))) (gCons (gVar 3) (gCons (gVar 6) (gNil))))))) (SS p4 NT n k RD pl m4 tn a y9 y10) = z → g_l_spoilt [p, NT, .none, .none, .none, .none, .none, .none, .none, .none, .none] = z := fun z hz => by
    unfold g_l_spoilt
    refine seq_step (ρ' := [p, NT, .int n, .int k, RD, .none, .none, .none, .none, .none, .none]) (asg_ok (by rfl) (by rw [hNT, hRD]; rfl)) ?_
    refine seq_step (set_ok (d := .int pl) (by rw [hpl]; rfl)) ?_
    dsimp only [List.set]
    refine seq_step (set_ok (d := .list (r.map enc3)) ?_) ?_
    · rw [gPurN_def, hRD]
      show (if pureIn (.list (r.map enc3)) = true then O.ok _ else O.bad) = _
      exact if_pos (pure3 r)
    dsimp only [List.set]
    refine seq_step (xset_ok h1) ?_
    dsimp only [List.set]
    refine seq_step (xset_ok h2) ?_
    dsimp only [List.set]
    refine seq_step e0 ?_
    refine seq_step e1 ?_
    refine seq_step e2 ?_
    refine seq_step e3 ?_
    exact seq_step e4 hz
  have tg : gTest (gOp hGt (gVar 7) (gC (.int (6)))) (SS p4 NT n k RD pl m4 tn a y9 y10) = .ok (decide (6 < tn)) := vg_test (vg_op rfl rfl (hGt_i _ _))
  by_cases c : 6 < tn
  · rw [decide_eq_true c] at tg
    have ey : gOp hSub (gOp hAdd (gVar 3) (gOp hMul (gC (.int (2))) (gVar 7))) (gC (.int (15))) (SS p4 NT n k RD pl m4 tn a y9 y10) = .ok (.int (k + 2 * tn - 15)) := vg_op (vg_op rfl (vg_op rfl rfl (hMul_l (by omega) (by omega))) (hAdd_i _ _)) rfl (hSub_i _ _)
    have ex : gCB hMin2 (gCons (gC (.int (6))) (gCons (gOp hSub (gOp hAdd (gVar 3) (gOp hMul (gC (.int (2))) (gVar 7))) (gC (.int (15)))) (gNil))) (SS p4 NT n k RD pl m4 tn a y9 y10) = .ok (.int (if k + 2 * tn - 15 < 6 then k + 2 * tn - 15 else 6)) := cb2 rfl ey (hMin2_i 6 _)
    obtain ⟨x, hx⟩ : ∃ x, x = (if k + 2 * tn - 15 < 6 then k + 2 * tn - 15 else 6) := ⟨_, rfl⟩
    rw [← hx] at ex
    have ez : gCB hMax2 (gCons (gC (.int (1))) (gCons (gCB hMin2 (gCons (gC (.int (6))) (gCons (gOp hSub (gOp hAdd (gVar 3) (gOp hMul (gC (.int (2))) (gVar 7))) (gC (.int (15)))) (gNil)))) (gNil))) (SS p4 NT n k RD pl m4 tn a y9 y10) = .ok (.int (if x > 1 then x else 1)) := cb2 rfl ex (hMax2_i 1 _)
    have xb : x ≤ 6 := by rw [hx]; split <;> omega
    refine ⟨n, if x > 1 then x else 1, m4, p4, fnN_rt ?_, by omega, by omega, by split <;> omega, by split <;> omega, j4.sm, j4.len, hp4.mono (by omega)⟩
    rw [← hNT]
    refine walk _ ?_
    refine seq_rt ((if_t tg).trans ?_)
    exact xret_ok (d := ntD n (if x > 1 then x else 1) m4) (vx_p (gTup_ok (xs := [.int n, .int (if x > 1 then x else 1), .list (m4.map enc3)]) (vg_cons rfl (vg_cons ez (vg_cons rfl rfl))) (by simp))) rfl hp4.argD
  · rw [decide_eq_false c] at tg
    have i5 : ∀ v : Int, gCB hInt1 (gCons (gOp hEq (gVar 7) (gC (.int (v)))) (gNil)) (SS p4 NT n k RD pl m4 tn a y9 y10) = .ok (.int (if (tn == v) then 1 else 0)) := fun v => cb1 (vg_op rfl rfl (hEq_i _ _)) (hint_b _)
    have en : gOp hSub (gOp hAdd (gVar 2) (gCB hInt1 (gCons (gOp hEq (gVar 7) (gC (.int (5)))) (gNil)))) (gCB hInt1 (gCons (gOp hEq (gVar 7) (gC (.int (6)))) (gNil))) (SS p4 NT n k RD pl m4 tn a y9 y10) = .ok (.int (n + (if (tn == 5) then 1 else 0) - (if (tn == 6) then 1 else 0))) := vg_op (vg_op rfl (i5 5) (hAdd_i _ _)) (i5 6) (hSub_i _ _)
    have nb : n - 1 ≤ n + (if (tn == 5) then 1 else 0) - (if (tn == 6) then 1 else 0) ∧ n + (if (tn == 5) then 1 else 0) - (if (tn == 6) then 1 else 0) ≤ n + 1 := by
      split <;> split <;> omega
    generalize n + (if (tn == 5) then 1 else 0) - (if (tn == 6) then 1 else 0) = n' at *
    refine ⟨n', k, m4, p4, fnN_rt ?_, nb.1, nb.2, k0, k6, j4.sm, j4.len, hp4.mono (by omega)⟩
    rw [← hNT]
    refine walk _ ?_
    refine seq_step ((if_f tg).trans rfl) ?_
    exact xret_ok (d := ntD n' k m4) (vx_p (gTup_ok (xs := [.int n', .int k, .list (m4.map enc3)]) (vg_cons en (vg_cons rfl (vg_cons rfl rfl))) (by simp))) rfl hp4.argD
theorem ntD_shw {n k M : Int} {r : List T3} (hn : n.natAbs ≤ 100) (hk : k.natAbs ≤ 100) (hr : SmA M r) (hM : M ≤ 10000000000000000000000000000000) (hl : r.length ≤ 60) : Shw 3 100000 (ntD n k r) := by
  refine (shw_tup (m := 2) (w := 30000) (k := 3) ?_ (by simp)).mono (by omega) (by omega)
  intro d hd
  simp only [List.mem_cons, List.not_mem_nil, or_false] at hd
  rcases hd with rfl | rfl | rfl
  · exact (shw_int 2 (by omega)).mono (by omega) (by omega)
  · exact (shw_int 2 (by omega)).mono (by omega) (by omega)
  · refine (shw_list (m := 1) (w := 400) (k := 60) (fun d hd => ?_) (by rw [List.length_map]; exact hl)).mono (by omega) (by omega)
    obtain ⟨t, ht, rfl⟩ := List.mem_map.mp hd
    obtain ⟨m0, m1, a0, a1, b0, b1⟩ := hr t ht
    refine (shw_tup (m := 0) (w := 110) (k := 3) ?_ (by simp)).mono (by omega) (by omega)
    intro d hd
    simp only [List.mem_cons, List.not_mem_nil, or_false] at hd
    rcases hd with rfl | rfl | rfl
    · exact shw_int 0 (by omega)
    · exact shw_int 0 (by omega)
    · exact shw_int 0 (by omega)
theorem hEq_bb (b : Bool) : hEq (.bool b) (.bool b) = .ok (.bool true) := by cases b <;> rfl
theorem right_ok {n k M : Int} {r : List T3} (hn : n.natAbs ≤ 100) (hk : k.natAbs ≤ 100) (hr : SmA M r) (hM : M ≤ 10000000000000000000000000000000) (hl : r.length ≤ 60) : f_l_right [ntD n k r] = .ok (.bool true) := by
  have sh := ntD_shw (n := n) (k := k) hn hk hr hM hl
  have hs := sh.str (by omega) (by omega) (.inr ⟨_, rfl⟩)
  have he := hEq_self sh.so.shaped
  have h1 := net_any (n := n) (k := k) hl
  have h2 := l_net (n := n) (k := k) hl
  generalize isNt n k r = b at *
  generalize ntD n k r = A at *
  refine fnN_rt ?_
  show g_l_right [A, .none, .none] = _
  unfold g_l_right
  have st : ∀ x y : Dt, gCB hStr (gCons (gVar 0) (gNil)) [A, x, y] = .ok (.str A.shown) := fun x y => by
    show hStr [A] = _
    unfold hStr
    simp only [hs, if_true]
  refine seq_step (set_ok (st _ _)) ?_
  dsimp only [List.set]
  refine seq_step (set_ok (callN_ok (ds := [A]) rfl rfl h1)) ?_
  dsimp only [List.set]
  refine ret_ok ?_
  have c1 : gCallN 1 f_l_is_net (gCons (gVar 0) (gNil)) [A, .str A.shown, .bool b] = .ok (.bool b) := callN_ok (ds := [A]) rfl rfl h2
  exact and_b (a := true) (b := true) rfl (and_b (a := true) (b := true) (vg_op rfl c1 (hEq_bb b)) (vg_op (st _ _) rfl he))
end K18
end T_K18H
section T_K18Q
set_option linter.all false
set_option maxRecDepth 100000
set_option maxHeartbeats 4000000
namespace K18
open PySem Sim FamA FamB FamL Lay K24
open N (netD toL toL_inj pure3 okT_of)
theorem inN_of {n : Int} {r : List T3} (h : ∀ t ∈ r, TieOk n t) : InN n r := fun t ht => by
  have q := h t ht
  have := q.a0; have := q.ab; have := q.bn
  exact ⟨⟨by omega, by omega⟩, by omega, by omega⟩
theorem lnet_ok {n : Int} {k : Nat} {r : List T3} (hr : InN n r) (hl : r.length ≤ 90) (n1 : 1 ≤ n) (n10 : n ≤ 10) (k6 : k ≤ 6) :
    f_l_net_of [.int n, .list (r.map enc3), .int (k : Nat)] = .ok (netD n k (KP k r)) := by
  refine fnN_rt ?_
  show g_l_net_of [.int n, .list (r.map enc3), .int (k : Nat), .none, .none, .none] = _
  unfold g_l_net_of
  refine seq_step (set_ok (callN_ok (ds := [.int n, .list (r.map enc3), .int (k : Nat)]) rfl rfl (layers_of_ok hr hl n1 n10 k6))) ?_
  dsimp only [List.set]
  refine ret_ok (gTup_ok (xs := [.int n, .int (k : Nat), .list ((KP k r).map enc3)]) ?_ (by simp))
  have e0 : ∀ x4 x5, gPur (gVar 0) [.int n, .list (r.map enc3), .int (k : Nat), .list ((lay k r).map .int), x4, x5] = .ok (.int n) := fun _ _ => rfl
  have e2 : ∀ x4 x5, gPur (gVar 2) [.int n, .list (r.map enc3), .int (k : Nat), .list ((lay k r).map .int), x4, x5] = .ok (.int (k : Nat)) := fun _ _ => rfl
  rw [gCons_def, e0, bnd_ok, gCons_def, e2, bnd_ok, gCons_def, N.kp_lc (by omega)]
  rfl
theorem drawn_net_ok {m : Int} {p : Dt} (hp : PotOk m p) (hm : m < 1099511610000) : ∃ (n : Int) (k : Nat) (K : List T3) (p' : Dt), f_l_drawn_net [p] = .ok (.tuple [netD n k K, p']) ∧ 1 ≤ n ∧ n ≤ 10 ∧ 1 ≤ k ∧ k ≤ 6 ∧ K.length ≤ 40 ∧ SmA 100000000000000000000000000000 K ∧ f_is_net [netD n k K] = .ok (.bool true) ∧ PotOk (m + 1005) p' := by
  obtain ⟨n, p1, h1, n1, n10, hp1⟩ := places_ok hp (by omega)
  obtain ⟨k, p2, h2, k1, k6, hp2⟩ := FamB.depth_ok hp1 (by omega)
  obtain ⟨mo, p3, h3, mo0, mo1, hp3⟩ := most_ok hp2 (by omega)
  obtain ⟨r, p4, h4, hrec, hsm, hlen, hp4⟩ := drawn_okS (most := mo) hp3 (by omega) n1 n10 (by omega) (by omega)
  have hl := hrec.len
  have hin := inN_of hrec.ties
  have hnet := lnet_ok (k := k) hin (by omega) n1 n10 k6
  have hs := kp_sub r (lay k r)
  have hs : (KP k r).Sublist r := hs
  have hsl := hs.length_le
  have ht : ∀ t ∈ KP k r, TieOk n t := fun t h => hrec.ties t (hs.mem h)
  have hg : N.Good n (KP k r) := ⟨by omega, fun t h => okT_of (ht t h), hrec.ord.sublist hs⟩
  refine ⟨n, k, KP k r, p4, fnN_rt ?_, n1, n10, k1, k6, by omega, fun t h => ?_, N.is_net_ok hg (inN_of ht) n1 n10 k1 k6 (kept_pos k _), hp4.mono (by omega)⟩
  · show g_l_drawn_net [p, .none, .none] = _
    unfold g_l_drawn_net
    refine seq_step (xset_ok (xcallM_ok (ds := []) (ρ' := [p, .none, .none]) rfl rfl rfl hp.arg h1 hp1.arg)) ?_
    dsimp only [List.set]
    refine seq_step (xset_ok (xcallM_ok (ds := []) (ρ' := [p1, .int n, .none]) rfl rfl rfl hp1.arg h2 hp2.arg)) ?_
    dsimp only [List.set]
    have c3 : xCallM .la 1 f_l_most 0 (xNil) [p2, .int n, .int (k : Nat)] = .ok (.int mo, [p3, .int n, .int (k : Nat)]) := xcallM_ok (ds := []) (ρ' := [p2, .int n, .int (k : Nat)]) rfl rfl rfl hp2.arg h3 hp3.arg
    have c4 : xCallM .la 3 f_l_drawn_ties 0 (xCons (xP (gVar 1)) (xCons (xCallM .la 1 f_l_most 0 (xNil)) (xNil))) [p2, .int n, .int (k : Nat)] = .ok (.list (r.map enc3), [p4, .int n, .int (k : Nat)]) :=
      xcallM_ok (ds := [.int n, .int mo]) (ρ' := [p3, .int n, .int (k : Nat)]) (vx_cons (vx_p rfl) (vx_cons c3 vx_nil)) rfl rfl hp3.arg h4 hp4.arg
    exact xret_ok (xcallN_ok (ds := [.int n, .list (r.map enc3), .int (k : Nat)]) (vx_cons (vx_p rfl) (vx_cons c4 (vx_cons (vx_p rfl) vx_nil))) rfl hnet) rfl hp4.argD
  · have q := ht t h
    have := q.a0; have := q.ab; have := q.bn
    exact ⟨q.m0, hsm t (hs.mem h), by omega, by omega, by omega, by omega⟩
theorem nb_tt : hNotB (.bool true) (.bool true) = .ok (.bool false) := rfl
theorem nb_ff : hNotB (.bool false) (.bool false) = .ok (.bool false) := rfl
theorem body_ok (sc : Dt) (cell : Int) (x2 x3 : Dt) : ∃ y2 y3, g_law_L1 [sc, .int cell, x2, x3] = .ok (.nx [sc, .int cell, y2, y3]) := by
  obtain ⟨p0, h0, hp0⟩ := begun_ok cell
  obtain ⟨n, k, K, p1, h1, n1, n10, k1, k6, hl, hs, hyes, hp1⟩ := drawn_net_ok hp0 (by omega)
  have eW : ntD n (k : Nat) K = netD n k K := rfl
  obtain ⟨n2, k2, r2, p2, h2, a1, a2, a3, a4, s2, l2, hp2⟩ := spoilt_ok (n := n) (k := (k : Nat)) hp1 (by omega) (by omega) (by omega) (by omega) (by omega) hs (by omega) (by omega)
  have w1 := right_ok (n := n2) (k := k2) (by omega) (by omega) s2 (by omega) (by omega)
  have s3 : SmA 10000000000000000000000000000000 (K.take 2 ++ [((1000000000000000000000000000000 : Int), (0 : Int), n - 1)]) := fun t ht => by
    rcases List.mem_append.mp ht with ht | ht
    · exact (hs t (List.mem_of_mem_take ht)).mono (by omega)
    · rw [List.mem_singleton.mp ht]
      exact ⟨by show (0 : Int) ≤ 1000000000000000000000000000000; omega, by show (1000000000000000000000000000000 : Int) ≤ 10000000000000000000000000000000; omega, by show (0 : Int) ≤ 0; omega, by show (0 : Int) < 11; omega, by show 0 ≤ n - 1; omega, by show n - 1 < 11; omega⟩
  have w2 := right_ok (n := n) (k := (k : Nat)) (by omega) (by omega) s3 (by omega) (by rw [List.length_append, List.length_take]; simp; omega)
  obtain ⟨n4, k4, r4, p4, h4, b1, b2, b3, b4, s4, l4, hp4⟩ := spoilt_ok (n := n) (k := (k : Nat)) hp2 (by omega) (by omega) (by omega) (by omega) (by omega) hs (by omega) (by omega)
  obtain ⟨n5, k5, r5, p5, h5, c1, c2, c3, c4, s5, l5, hp5⟩ := spoilt_ok (n := n4) (k := k4) hp4 (by omega) (by omega) (by omega) (by omega) (by omega) s4 (by omega) (by omega)
  have w3 := right_ok (n := n5) (k := k5) (by omega) (by omega) s5 (by omega) (by omega)
  obtain ⟨o, p6, h6, hp6, hbad⟩ := odd_net_ok (k := k) (r := K) hp5 (by omega) (by omega) n1 n10 k1 k6
  have hbad : f_is_net [o] = .ok (.bool false) := hbad
  rw [eW] at h2 h4
  have tk2 : hSl (.list (K.map enc3)) none (some 2) = .ok (.list ((K.take 2).map enc3)) := hSl_to enc3 K 2
  obtain ⟨W, hW⟩ : ∃ A, A = netD n k K := ⟨_, rfl⟩
  have i0 : hIx W (.int 0) = .ok (.int n) := by rw [hW]; rfl
  have i1 : hIx W (.int 1) = .ok (.int (k : Nat)) := by rw [hW]; rfl
  have i2 : hIx W (.int 2) = .ok (.list (K.map enc3)) := by rw [hW]; rfl
  rw [← hW] at h1 hyes h2 h4 h6
  refine ⟨p6, W, ?_⟩
  unfold g_law_L1
  refine seq_step (set_ok (callN_ok (ds := [.int cell]) rfl rfl h0)) ?_
  dsimp only [List.set]
  refine seq_step (xset_ok (xcallM_ok (ds := []) (ρ' := [sc, .int cell, p0, x3]) rfl rfl rfl hp0.arg h1 hp1.arg)) ?_
  dsimp only [List.set]
  have v1 : gCallN 1 f_is_net (gCons (gVar 3) (gNil)) [sc, .int cell, p1, W] = .ok (.bool true) := callN_ok (ds := [W]) rfl rfl hyes
  have v2 : xCallM .la 2 f_l_spoilt 2 (xCons (xP (gVar 3)) (xNil)) [sc, .int cell, p1, W] = .ok (ntD n2 k2 r2, [sc, .int cell, p2, W]) := xcallM_ok (ds := [W]) (ρ' := [sc, .int cell, p1, W]) (vx_cons (vx_p rfl) vx_nil) rfl rfl hp1.arg h2 hp2.arg
  have v3 : xCallN 1 f_l_right (xCons (xCallM .la 2 f_l_spoilt 2 (xCons (xP (gVar 3)) (xNil))) (xNil)) [sc, .int cell, p1, W] = .ok (.bool true, [sc, .int cell, p2, W]) := xcallN_ok (ds := [ntD n2 k2 r2]) (vx_cons v2 vx_nil) rfl w1
  refine seq_step ((xIf_f (ρ' := [sc, .int cell, p2, W]) ?_).trans rfl) ?_
  · refine vx_orF (vx_pt (vg_test (vg_op (y := .bool true) v1 rfl nb_tt))) ?_
    exact vx_not (vx_test v3)
  have v4 : gTup (gCons (gOp hIx (gVar 3) (gC (.int (0)))) (gCons (gOp hIx (gVar 3) (gC (.int (1)))) (gCons (gOp hCat (gSl hSl (gOp hIx (gVar 3) (gC (.int (2)))) (gNoPart) (gPart (gC (.int (2))))) (gLst (gCons (gTup (gCons (gOp hPow (gC (.int (10))) (gC (.int (30)))) (gCons (gC (.int (0))) (gCons (gOp hSub (gOp hIx (gVar 3) (gC (.int (0)))) (gC (.int (1)))) (gNil))))) (gNil)))) (gNil)))) [sc, .int cell, p2, W] = .ok (ntD n (k : Nat) (K.take 2 ++ [((1000000000000000000000000000000 : Int), (0 : Int), n - 1)])) := by
    have u0 : gOp hIx (gVar 3) (gC (.int (0))) [sc, .int cell, p2, W] = .ok (.int n) := vg_op rfl rfl i0
    have u1 : gOp hIx (gVar 3) (gC (.int (1))) [sc, .int cell, p2, W] = .ok (.int (k : Nat)) := vg_op rfl rfl i1
    have u2 : gOp hIx (gVar 3) (gC (.int (2))) [sc, .int cell, p2, W] = .ok (.list (K.map enc3)) := vg_op rfl rfl i2
    have u3 : gSl hSl (gOp hIx (gVar 3) (gC (.int (2)))) (gNoPart) (gPart (gC (.int (2)))) [sc, .int cell, p2, W] = .ok (.list ((K.take 2).map enc3)) := by
      rw [gSl_def, u2, bnd_ok]
      exact tk2
    have u4 : gTup (gCons (gOp hPow (gC (.int (10))) (gC (.int (30)))) (gCons (gC (.int (0))) (gCons (gOp hSub (gOp hIx (gVar 3) (gC (.int (0)))) (gC (.int (1)))) (gNil)))) [sc, .int cell, p2, W] = .ok (enc3 ((1000000000000000000000000000000 : Int), (0 : Int), n - 1)) :=
      gTup_ok (xs := [.int 1000000000000000000000000000000, .int 0, .int (n - 1)]) (vg_cons (vg_op rfl rfl hPow_10_30) (vg_cons rfl (vg_cons (vg_op u0 rfl (hSub_i _ _)) rfl))) (by simp)
    have u5 : gLst (gCons (gTup (gCons (gOp hPow (gC (.int (10))) (gC (.int (30)))) (gCons (gC (.int (0))) (gCons (gOp hSub (gOp hIx (gVar 3) (gC (.int (0)))) (gC (.int (1)))) (gNil))))) (gNil)) [sc, .int cell, p2, W] = .ok (.list ([((1000000000000000000000000000000 : Int), (0 : Int), n - 1)].map enc3)) := by
      rw [gLst_def, gCons_def, u4, bnd_ok, gNil_def, bnd_ok, bnd_ok]
      rfl
    have u6 := vg_op u3 u5 (hCat_map enc3 (K.take 2) [((1000000000000000000000000000000 : Int), (0 : Int), n - 1)] (by rw [List.length_take]; simp; omega))
    exact gTup_ok (xs := [.int n, .int (k : Nat), .list ((K.take 2 ++ [((1000000000000000000000000000000 : Int), (0 : Int), n - 1)]).map enc3)]) (vg_cons u0 (vg_cons u1 (vg_cons u6 rfl))) (by simp)
  refine seq_step (vs_not (callN_ok (ds := [ntD n (k : Nat) (K.take 2 ++ [((1000000000000000000000000000000 : Int), (0 : Int), n - 1)])]) (vg_cons v4 rfl) rfl w2)) ?_
  have v5 : xCallM .la 2 f_l_spoilt 2 (xCons (xP (gVar 3)) (xNil)) [sc, .int cell, p2, W] = .ok (ntD n4 k4 r4, [sc, .int cell, p4, W]) := xcallM_ok (ds := [W]) (ρ' := [sc, .int cell, p2, W]) (vx_cons (vx_p rfl) vx_nil) rfl rfl hp2.arg h4 hp4.arg
  have v6 : xCallM .la 2 f_l_spoilt 2 (xCons (xCallM .la 2 f_l_spoilt 2 (xCons (xP (gVar 3)) (xNil))) (xNil)) [sc, .int cell, p2, W] = .ok (ntD n5 k5 r5, [sc, .int cell, p5, W]) := xcallM_ok (ds := [ntD n4 k4 r4]) (ρ' := [sc, .int cell, p4, W]) (vx_cons v5 vx_nil) rfl rfl hp4.arg h5 hp5.arg
  have v7 : xCallN 1 f_l_right (xCons (xCallM .la 2 f_l_spoilt 2 (xCons (xCallM .la 2 f_l_spoilt 2 (xCons (xP (gVar 3)) (xNil))) (xNil))) (xNil)) [sc, .int cell, p2, W] = .ok (.bool true, [sc, .int cell, p5, W]) := xcallN_ok (ds := [ntD n5 k5 r5]) (vx_cons v6 vx_nil) rfl w3
  have v8 : xCallM .la 2 f_l_odd_net 2 (xCons (xP (gVar 3)) (xNil)) [sc, .int cell, p5, W] = .ok (o, [sc, .int cell, p6, W]) := xcallM_ok (ds := [W]) (ρ' := [sc, .int cell, p5, W]) (vx_cons (vx_p rfl) vx_nil) rfl rfl hp5.arg h6 hp6.arg
  have v9 : xCallN 1 f_is_net (xCons (xCallM .la 2 f_l_odd_net 2 (xCons (xP (gVar 3)) (xNil))) (xNil)) [sc, .int cell, p5, W] = .ok (.bool false, [sc, .int cell, p6, W]) := xcallN_ok (ds := [o]) (vx_cons v8 vx_nil) rfl hbad
  refine (xIf_f (ρ' := [sc, .int cell, p6, W]) ?_).trans rfl
  exact vx_orF (vx_not (vx_test v7)) (vx_test (vx_op v9 (vx_p rfl) nb_ff))
theorem law_true (ns : List Int) (hl : ns.length ≤ 63) (_ : ∀ z ∈ ns, Builtin.Int.intBits z ≤ 1048576) : f_law [frzD (ns.map .int)] = .ok (.bool true) := by
  obtain ⟨L, hL, hLl⟩ := folded_ok ns 6 hl (by omega) (by omega)
  refine fnN_rt ?_
  obtain ⟨ρ', hf, e1, e2, e3, rfl⟩ := forE_ix PyData.int (h := tgN 1) (b := g_law_L1) L
    (fun _ ρ => ∃ e1 e2 e3, ρ = [frzD (ns.map .int), e1, e2, e3])
    (ρ := [frzD (ns.map .int), .none, .none, .none]) ⟨_, _, _, rfl⟩ (by
      rintro i ρ hi ⟨e1, e2, e3, rfl⟩
      obtain ⟨f2, f3, h1⟩ := body_ok (frzD (ns.map .int)) L[i] e2 e3
      exact ⟨_, _, rfl, .inl h1, _, f2, f3, rfl⟩)
  show g_law [frzD (ns.map .int), .none, .none, .none] = _
  unfold g_law
  exact seq_step (for_ok (seqG_l (callN_ok (ds := [frzD (ns.map .int), .int 6]) rfl rfl hL)) hf) rfl
end K18
end T_K18Q
open PySem PySem.W PyProof.Rows
set_option maxRecDepth 100000 in
set_option maxHeartbeats 0 in
theorem PySem.Challenge.cw_sinceply_k18_nets_known_holds : PySem.Challenge.rw_sinceply_k18_nets_known.Holds := by
  w_on; o_law; k_head; (case hw => w_witness2)
  k_fill
  refine Sim.walk_ofG (l := PySem.Challenge.rw_sinceply_k18_nets_known) (n := 63) (k := 8) (g := K18.f_law) rfl (by decide) rfl ⟨rfl, by decide, by decide⟩ (fun w h Y => PySem.W.kIn_of Y) ?F K18.law_true
  case F =>
    intro w mg fa h KX G hmg
    refine' (K18.all_mk KX G hmg ?a0 ?l0 ?c0 ?k0 ?a1 ?l1 ?c1 ?k1 ?a2 ?l2 ?c2 ?k2 ?a3 ?l3 ?c3 ?k3 ?a4 ?l4 ?c4 ?k4 ?a5 ?l5 ?c5 ?k5 ?a6 ?l6 ?c6 ?k6 ?a7 ?l7 ?c7 ?k7 ?a8 ?l8 ?c8 ?k8 ?a9 ?l9 ?c9 ?k9 ?a10 ?l10 ?c10 ?k10 ?a11 ?l11 ?c11 ?k11 ?a12 ?l12 ?c12 ?k12 ?a13 ?l13 ?c13 ?k13 ?a14 ?l14 ?c14 ?k14 ?a15 ?l15 ?c15 ?k15 ?a16 ?l16 ?c16 ?k16 ?a17 ?l17 ?c17 ?k17 ?a18 ?l18 ?c18 ?k18 ?a19 ?l19 ?c19 ?k19 ?a20 ?l20 ?c20 ?k20 ?a21 ?l21 ?c21 ?k21 ?a22 ?l22 ?c22 ?k22 ?a23 ?l23 ?c23 ?k23 ?a24 ?l24 ?c24 ?k24 ?a25 ?l25 ?c25 ?k25 ?a26 ?l26 ?c26 ?k26 ?a27 ?l27 ?c27 ?k27 ?a28 ?l28 ?c28 ?k28 ?a29 ?l29 ?c29 ?k29 ?a30 ?l30 ?c30 ?k30 ?a31 ?l31 ?c31 ?k31 ?a32 ?l32 ?c32 ?k32 ?z_isinstance ?z_int ?z_bool ?z_tuple ?z_len ?z_list ?z_all ?z_range ?z_min ?z_max ?z_enumerate ?z_reversed ?z_abs ?z_zip ?z_sorted ?z_str ?y_LAST_MOMENT ?y_MOST_TIES ?y_MOST_LAYERS_layers ?y_MOST_PLACES ?y_MOST_LAYERS_nets)
    (case a0 => k_is); (case l0 => k_is); (case c0 => k_is); (case k0 => k_is); (case a1 => k_is); (case l1 => k_is); (case c1 => k_is); (case k1 => k_is); (case a2 => k_is); (case l2 => k_is); (case c2 => k_is); (case k2 => k_is); (case a3 => k_is); (case l3 => k_is); (case c3 => k_is); (case k3 => k_is); (case a4 => k_is); (case l4 => k_is); (case c4 => k_is); (case k4 => k_is); (case a5 => k_is); (case l5 => k_is); (case c5 => k_is); (case k5 => k_is); (case a6 => k_is); (case l6 => k_is); (case c6 => k_is); (case k6 => k_is); (case a7 => k_is); (case l7 => k_is); (case c7 => k_is); (case k7 => k_is); (case a8 => k_is); (case l8 => k_is); (case c8 => k_is); (case k8 => k_is); (case a9 => k_is); (case l9 => k_is); (case c9 => k_is); (case k9 => k_is); (case a10 => k_is); (case l10 => k_is); (case c10 => k_is); (case k10 => k_is); (case a11 => k_is); (case l11 => k_is); (case c11 => k_is); (case k11 => k_is); (case a12 => k_is); (case l12 => k_is); (case c12 => k_is); (case k12 => k_is); (case a13 => k_is); (case l13 => k_is); (case c13 => k_is); (case k13 => k_is); (case a14 => k_is); (case l14 => k_is); (case c14 => k_is); (case k14 => k_is); (case a15 => k_is); (case l15 => k_is); (case c15 => k_is); (case k15 => k_is); (case a16 => k_is); (case l16 => k_is); (case c16 => k_is); (case k16 => k_is); (case a17 => k_is); (case l17 => k_is); (case c17 => k_is); (case k17 => k_is); (case a18 => k_is); (case l18 => k_is); (case c18 => k_is); (case k18 => k_is); (case a19 => k_is); (case l19 => k_is); (case c19 => k_is); (case k19 => k_is); (case a20 => k_is); (case l20 => k_is); (case c20 => k_is); (case k20 => k_is); (case a21 => k_is); (case l21 => k_is); (case c21 => k_is); (case k21 => k_is); (case a22 => k_is); (case l22 => k_is); (case c22 => k_is); (case k22 => k_is); (case a23 => k_is); (case l23 => k_is); (case c23 => k_is); (case k23 => k_is); (case a24 => k_is); (case l24 => k_is); (case c24 => k_is); (case k24 => k_is); (case a25 => k_is); (case l25 => k_is); (case c25 => k_is); (case k25 => k_is); (case a26 => k_is); (case l26 => k_is); (case c26 => k_is); (case k26 => k_is); (case a27 => k_is); (case l27 => k_is); (case c27 => k_is); (case k27 => k_is); (case a28 => k_is); (case l28 => k_is); (case c28 => k_is); (case k28 => k_is); (case a29 => k_is); (case l29 => k_is); (case c29 => k_is); (case k29 => k_is); (case a30 => k_is); (case l30 => k_is); (case c30 => k_is); (case k30 => k_is); (case a31 => k_is); (case l31 => k_is); (case c31 => k_is); (case k31 => k_is); (case a32 => k_is); (case l32 => k_is); (case c32 => k_is); (case k32 => k_is); (case z_isinstance => k_is); (case z_int => k_is); (case z_bool => k_is); (case z_tuple => k_is); (case z_len => k_is); (case z_list => k_is); (case z_all => k_is); (case z_range => k_is); (case z_min => k_is); (case z_max => k_is); (case z_enumerate => k_is); (case z_reversed => k_is); (case z_abs => k_is); (case z_zip => k_is); (case z_sorted => k_is); (case z_str => k_is); (case y_LAST_MOMENT => k_is); (case y_MOST_TIES => k_is); (case y_MOST_LAYERS_layers => k_is); (case y_MOST_PLACES => k_is); (case y_MOST_LAYERS_nets => k_is)
