import PyProof.Rows.All
import Wide.All
import OpenK.AllK
import Wide.FinOn
import HandS.EndBits
import HandS.ForMost
import HandS.Walk
import HandS.Wide
import HandS.ForExc
import HandS.ExcValue
import HandS.ExcCtx
import HandS.SortInts
import HandS.Deep
import HandS.WideBits
import HandS.TupAny
import HandS.IsInst
import HandS.Iter
import HandS.Rev
import HandS.RevTup
import HandS.Conv
import PyProof.ListRange
import HandS.Dict
import HandS.Style
import HandS.TupSets
import HandS.SetFor
import HandS.Defaults
import HandS.ExcIs
import PyProof.StrBlock2
import KE.KTupSum
import PySem.Challenge.RW_sinceply_k57_nets_misread
import PyProof.StrLawsChain
import PyProof.Rows.StrNews2
import KE.IntText
import PyProof.ReprRoads
import PyProof.ReprLen
section T_SimA
set_option Elab.async false
set_option linter.all false
set_option maxRecDepth 100000
namespace Sim
open PySem PySem.Spec L2
open PyProof.Rows hiding St
abbrev Dt := PyData
def Fz (K : PySem.W.Frag) (H : Hp) (a : Addr) (xs : List V) : Prop :=
  (∃ o, H a = some (.frz o (.lst xs))) ∨
    ∃ (o : Obj) (its : Array Value) (n : Nat), K.lookup a = some o ∧ o.cls = .type "list" ∧ o.dict = none ∧ o.data = .seq its n ∧ its.size ≤ sizeLine ∧ Vals xs its.toList
def keyD : Key → Dt
  | .inl i => .int i
  | .inr x => .str x
abbrev exnM : Option Int → Dt
  | none => .none
  | some i => .int i
abbrev exnD (cls : Str) (m : Option Int) : Dt := .dict [(.none, .str cls), (.none, exnM m)]
abbrev frzD (ds : List Dt) : Dt := .dict [(.bool true, .list ds)]
def exnL : List (Dt × Dt) → Bool
  | (.none, _) :: _ => true
  | (.bool _, _) :: _ => true
  | _ => false
def ExH (C : Value) (d : Option Addr) (a : Addr) : HO := .ext fun h => ∃ (oe : Obj) (vs : Array Value), h.get? a = some oe ∧ L2N.Zn C d oe ∧ oe.data = .fields vs
def XdAt (H : Hp) (d : Option Addr) (m : Option Int) : Prop := match m with
  | none => d = none
  | some i => ∃ dd, d = some dd ∧ H dd = some (.xd [("moment", .int i)])
mutual
inductive Rp (K : PySem.W.Frag) (F : Addr → Prop) (H : Hp) : V → Dt → Prop
  | non : Rp K F H .non .none
  | bl (b : Bool) : Rp K F H (.bl b) (.bool b)
  | int (i : Int) : Rp K F H (.int i) (.int i)
  | str (x : Str) : Rp K F H (.str x) (.str x)
  | lst {a : Addr} {xs : List V} {ds : List Dt} : H a = some (.lst xs) → F a → RpA K F H xs ds → Rp K F H (.ref a) (.list ds)
  | fz {a : Addr} {xs : List V} {ds : List Dt} : Fz K H a xs → RpA K F H xs ds → Rp K F H (.ref a) (.dict [(.bool true, .list ds)])
  | tup {a : Addr} {xs : List V} {ds : List Dt} : SqT K H a xs → RpA K F H xs ds → Rp K F H (.ref a) (.tuple ds)
  | dic {a : Addr} {kvs : List (Key × V)} {es : List (Dt × Dt)} : H a = some (.dK kvs) → F a → kvs.map (fun kv => keyD kv.1) = es.map (fun e => e.1) → RpA K F H (kvs.map fun kv => kv.2) (es.map fun e => e.2) → Rp K F H (.ref a) (.dict es)
  | exn {a C : Addr} {cls : Str} {d : Option Addr} {m : Option Int} : PySem.W.nsIn K mainGlobals cls = some (some (.ref C)) → H a = some (ExH (.ref C) d a) → XdAt H d m → Rp K F H (.ref a) (.dict [(.none, .str cls), (.none, exnM m)])
inductive RpA (K : PySem.W.Frag) (F : Addr → Prop) (H : Hp) : List V → List Dt → Prop
  | nil : RpA K F H [] []
  | cons {v : V} {vs : List V} {d : Dt} {ds : List Dt} : Rp K F H v d → RpA K F H vs ds → RpA K F H (v :: vs) (d :: ds)
end
section
variable {K : PySem.W.Frag} {F F' : Addr → Prop} {H H' : Hp} {v : V} {d : Dt} {vs : List V} {ds : List Dt} {a p : Addr} {xs : List V}
theorem Fz.same (e : Same H H') (h : Fz K H a xs) : Fz K H' a xs := by
  rcases h with ⟨o, h⟩ | h
  · exact .inl ⟨o, e _ _ h⟩
  · exact .inr h
theorem Fz.sql (h : Fz K H a xs) : SqL K H a xs := by
  rcases h with ⟨o, h⟩ | h
  · exact .inl (.inr ⟨o, h⟩)
  · exact .inr h
theorem sqt_same (e : Same H H') (h : SqT K H a xs) : SqT K H' a xs := by
  rcases h with (h | ⟨o, h⟩) | h
  · exact .inl (.inl (e _ _ h))
  · exact .inl (.inr ⟨o, e _ _ h⟩)
  · exact .inr h
theorem XdAt.same {d : Option Addr} {m : Option Int} (e : Same H H') (x : XdAt H d m) : XdAt H' d m := by
  cases m with
  | none => exact x
  | some i =>
    obtain ⟨dd, h1, h2⟩ := x
    exact ⟨dd, h1, e _ _ h2⟩
mutual
theorem Rp.mono (e : Same H H') (f : ∀ a, F a → H a ≠ none → F' a) : ∀ {v : V} {d : Dt}, Rp K F H v d → Rp K F' H' v d
  | _, _, .non => .non
  | _, _, .bl b => .bl b
  | _, _, .int i => .int i
  | _, _, .str x => .str x
  | _, _, .lst h fa r => .lst (e _ _ h) (f _ fa (by rw [h]; exact fun z => nomatch z)) (RpA.mono e f r)
  | _, _, .fz h r => .fz (h.same e) (RpA.mono e f r)
  | _, _, .tup h r => .tup (sqt_same e h) (RpA.mono e f r)
  | _, _, .dic h fa hk r => .dic (e _ _ h) (f _ fa (by rw [h]; exact fun z => nomatch z)) hk (RpA.mono e f r)
  | _, _, .exn n h x => .exn n (e _ _ h) (x.same e)
theorem RpA.mono (e : Same H H') (f : ∀ a, F a → H a ≠ none → F' a) : ∀ {vs : List V} {ds : List Dt}, RpA K F H vs ds → RpA K F' H' vs ds
  | _, _, .nil => .nil
  | _, _, .cons h r => .cons (Rp.mono e f h) (RpA.mono e f r)
end
def Mutb (o : HO) : Prop := match o with
  | .lst _ => True
  | .dK _ => True
  | .dT _ => True
  | _ => False
theorem exH_ne {o : HO} {C : Value} {d : Option Addr} (hp : H p = some o) (m : Mutb o) (h : H a = some (ExH C d a)) : a ≠ p := fun z => by
  subst z
  rw [hp] at h
  cases h
  exact m
theorem XdAt.updM {o o' : HO} {d : Option Addr} {m : Option Int} (hp : H p = some o) (mu : Mutb o) (x : XdAt H d m) : XdAt (upd H p o') d m := by
  cases m with
  | none => exact x
  | some i =>
    obtain ⟨dd, h1, h2⟩ := x
    refine ⟨dd, h1, ?_⟩
    rw [upd_ne ?_]
    · exact h2
    · intro z
      subst z
      rw [hp] at h2
      cases h2
      exact mu
theorem Fz.updM {o o' : HO} (hp : H p = some o) (m : Mutb o) (h : Fz K H a xs) : Fz K (upd H p o') a xs := by
  rcases h with ⟨q, h⟩ | h
  · refine .inl ⟨q, ?_⟩
    rw [upd_ne ?_]
    · exact h
    · intro z
      subst z
      rw [hp] at h
      cases h
      exact m
  · exact .inr h
theorem sqt_updM {o o' : HO} (hp : H p = some o) (m : Mutb o) (h : SqT K H a xs) : SqT K (upd H p o') a xs := by
  rcases h with (h | ⟨q, h⟩) | h
  · refine .inl (.inl ?_)
    rw [upd_ne ?_]
    · exact h
    · intro z
      subst z
      rw [hp] at h
      cases h
      exact m
  · refine .inl (.inr ⟨q, ?_⟩)
    rw [upd_ne ?_]
    · exact h
    · intro z
      subst z
      rw [hp] at h
      cases h
      exact m
  · exact .inr h
mutual
theorem Rp.updM {o o' : HO} (hp : H p = some o) (m : Mutb o) (nf : ∀ a, F a → a ≠ p) : ∀ {v : V} {d : Dt}, Rp K F H v d → Rp K F (upd H p o') v d
  | _, _, .non => .non
  | _, _, .bl b => .bl b
  | _, _, .int i => .int i
  | _, _, .str x => .str x
  | _, _, .lst h fa r => .lst (by rw [upd_ne (nf _ fa)]; exact h) fa (RpA.updM hp m nf r)
  | _, _, .fz h r => .fz (h.updM hp m) (RpA.updM hp m nf r)
  | _, _, .tup h r => .tup (sqt_updM hp m h) (RpA.updM hp m nf r)
  | _, _, .dic h fa hk r => .dic (by rw [upd_ne (nf _ fa)]; exact h) fa hk (RpA.updM hp m nf r)
  | _, _, .exn n h x => .exn n (by rw [upd_ne (exH_ne hp m h)]; exact h) (x.updM hp m)
theorem RpA.updM {o o' : HO} (hp : H p = some o) (m : Mutb o) (nf : ∀ a, F a → a ≠ p) : ∀ {vs : List V} {ds : List Dt}, RpA K F H vs ds → RpA K F (upd H p o') vs ds
  | _, _, .nil => .nil
  | _, _, .cons h r => .cons (Rp.updM hp m nf h) (RpA.updM hp m nf r)
end
mutual
theorem Rp.dp : ∀ {v : V} {d : Dt}, Rp K F H v d → PyData.canLay0 d = true → Dp K H v d
  | _, _, .non, _ => .non
  | _, _, .bl b, _ => .bl b
  | _, _, .int i, _ => .int i
  | _, _, .str x, _ => .str x
  | _, _, .lst h _ r, c => .lst (.inl (.inl h)) (RpA.dp r (by simpa [PyData.canLay0] using c))
  | _, _, .fz _ _, c => by simp [PyData.canLay0] at c
  | _, _, .tup h r, c => .tup h (RpA.dp r (by simpa [PyData.canLay0] using c))
  | _, _, .dic _ _ _ _, c => by simp [PyData.canLay0] at c
  | _, _, .exn _ _ _, c => by simp [PyData.canLay0] at c
theorem RpA.dp : ∀ {vs : List V} {ds : List Dt}, RpA K F H vs ds → PyData.canLayAll0 ds = true → DpAll K H vs ds
  | _, _, .nil, _ => .nil
  | _, _, .cons h r, c => by
    unfold PyData.canLayAll0 at c
    rw [Bool.and_eq_true] at c
    exact .cons (Rp.dp h c.1) (RpA.dp r c.2)
end
theorem shaped_lay {d : Dt} (h : SeqAt.shaped d = true) : PyData.canLay0 d = true := by
  unfold SeqAt.shaped at h
  rw [Bool.and_eq_true] at h
  exact h.1
theorem RpA.length : ∀ {vs : List V} {ds : List Dt}, RpA K F H vs ds → vs.length = ds.length
  | _, _, .nil => rfl
  | _, _, .cons _ r => by rw [List.length_cons, List.length_cons, r.length]
theorem RpA.get : ∀ {vs : List V} {ds : List Dt} {i : Nat} {v : V}, RpA K F H vs ds → vs[i]? = some v → ∃ d, ds[i]? = some d ∧ Rp K F H v d
  | _, _, _, _, .nil, e => by simp at e
  | _, _, 0, _, .cons h _, e => by simp at e; subst e; exact ⟨_, rfl, h⟩
  | _, _, i + 1, v, .cons _ r, e => by
    obtain ⟨d, h1, h2⟩ := RpA.get (i := i) (v := v) r (by simpa using e)
    exact ⟨d, by simpa using h1, h2⟩
theorem RpA.get' : ∀ {vs : List V} {ds : List Dt} {i : Nat} {d : Dt}, RpA K F H vs ds → ds[i]? = some d → ∃ v, vs[i]? = some v ∧ Rp K F H v d
  | _, _, _, _, .nil, e => by simp at e
  | _, _, 0, _, .cons h _, e => by simp at e; subst e; exact ⟨_, rfl, h⟩
  | _, _, i + 1, d, .cons _ r, e => by
    obtain ⟨v, h1, h2⟩ := RpA.get' (i := i) (d := d) r (by simpa using e)
    exact ⟨v, by simpa using h1, h2⟩
theorem RpA.append : ∀ {xs ys : List V} {ds es : List Dt}, RpA K F H xs ds → RpA K F H ys es → RpA K F H (xs ++ ys) (ds ++ es)
  | _, _, _, _, .nil, s => s
  | _, _, _, _, .cons h r, s => .cons h (RpA.append r s)
theorem RpA.take : ∀ {xs : List V} {ds : List Dt} (n : Nat), RpA K F H xs ds → RpA K F H (xs.take n) (ds.take n)
  | _, _, 0, _ => .nil
  | _, _, _ + 1, .nil => .nil
  | _, _, n + 1, .cons h r => .cons h (RpA.take n r)
theorem RpA.drop : ∀ {xs : List V} {ds : List Dt} (n : Nat), RpA K F H xs ds → RpA K F H (xs.drop n) (ds.drop n)
  | _, _, 0, r => r
  | _, _, _ + 1, .nil => .nil
  | _, _, n + 1, .cons _ r => RpA.drop n r
theorem RpA.set {x : V} {d : Dt} (h : Rp K F H x d) : ∀ {xs : List V} {ds : List Dt} (i : Nat), RpA K F H xs ds → RpA K F H (xs.set i x) (ds.set i d)
  | _, _, _, .nil => .nil
  | _, _, 0, .cons _ r => .cons h r
  | _, _, i + 1, .cons q r => .cons q (RpA.set h i r)
theorem RpA.reverse {xs : List V} {ds : List Dt} (h : RpA K F H xs ds) : RpA K F H xs.reverse ds.reverse := by
  induction xs generalizing ds with
  | nil => cases h; exact .nil
  | cons x xs ih =>
    cases h with
    | cons q r =>
      rw [List.reverse_cons, List.reverse_cons]
      exact (ih r).append (.cons q .nil)
theorem RpA.flat {xs : List V} {ds : List Dt} (h : RpA K F H xs ds) : ∀ k : Nat, RpA K F H (List.replicate k xs).flatten (List.replicate k ds).flatten
  | 0 => .nil
  | k + 1 => by
    rw [List.replicate_succ, List.replicate_succ, List.flatten_cons, List.flatten_cons]
    exact h.append (RpA.flat h k)
mutual
def pure1 : Dt → Bool
  | .list _ => false
  | .dict _ => false
  | .tuple xs => pureA xs
  | _ => true
def pureA : List Dt → Bool
  | [] => true
  | x :: xs => pure1 x && pureA xs
end
mutual
theorem Rp.pure : ∀ {v : V} {d : Dt}, Rp K F H v d → pure1 d = true → Rp K F' H v d
  | _, _, .non, _ => .non
  | _, _, .bl b, _ => .bl b
  | _, _, .int i, _ => .int i
  | _, _, .str x, _ => .str x
  | _, _, .lst h _ r, e => by rw [pure1] at e; cases e
  | _, _, .fz h r, e => by rw [pure1] at e; cases e
  | _, _, .tup h r, e => .tup h (RpA.pure r (by rw [pure1] at e; exact e))
  | _, _, .dic h _ _ r, e => by rw [pure1] at e; cases e
  | _, _, .exn n h x, _ => .exn n h x
theorem RpA.pure : ∀ {vs : List V} {ds : List Dt}, RpA K F H vs ds → pureA ds = true → RpA K F' H vs ds
  | _, _, .nil, _ => .nil
  | _, _, .cons h r, e => by
    rw [pureA, Bool.and_eq_true] at e
    exact .cons (Rp.pure h e.1) (RpA.pure r e.2)
end
theorem Rp.weak (f : ∀ a, F a → F' a) (h : Rp K F H v d) : Rp K F' H v d := h.mono (Same.refl H) fun a fa _ => f a fa
theorem RpA.weak (f : ∀ a, F a → F' a) (h : RpA K F H vs ds) : RpA K F' H vs ds := h.mono (Same.refl H) fun a fa _ => f a fa
theorem Rp.same (e : Same H H') (h : Rp K F H v d) : Rp K F H' v d := h.mono e fun a fa _ => fa
theorem RpA.same (e : Same H H') (h : RpA K F H vs ds) : RpA K F H' vs ds := h.mono e fun a fa _ => fa
end
mutual
inductive Tr (K : PySem.W.Frag) (S : Addr → Prop) (H : Hp) : V → Dt → List Addr → Prop
  | leaf {v : V} {d : Dt} : Rp K (fun _ => False) H v d → Tr K S H v d []
  | lst {a : Addr} {xs : List V} {ds : List Dt} {L : List Addr} : H a = some (.lst xs) → S a → a ∉ L → TrA K S H xs ds L → Tr K S H (.ref a) (.list ds) (a :: L)
  | tup {a : Addr} {xs : List V} {ds : List Dt} {L : List Addr} : SqT K H a xs → TrA K S H xs ds L → Tr K S H (.ref a) (.tuple ds) L
inductive TrA (K : PySem.W.Frag) (S : Addr → Prop) (H : Hp) : List V → List Dt → List Addr → Prop
  | nil : TrA K S H [] [] []
  | cons {v : V} {vs : List V} {d : Dt} {ds : List Dt} {L M : List Addr} : Tr K S H v d L → TrA K S H vs ds M → (∀ a ∈ L, a ∉ M) → TrA K S H (v :: vs) (d :: ds) (L ++ M)
end
section
variable {K : PySem.W.Frag} {S S' : Addr → Prop} {H H' : Hp} {p : Addr}
mutual
theorem Tr.mono (e : Same H H') (f : ∀ a, S a → H a ≠ none → S' a) : ∀ {v : V} {d : Dt} {L : List Addr}, Tr K S H v d L → Tr K S' H' v d L
  | _, _, _, .leaf h => .leaf (h.mono e fun _ z _ => z)
  | _, _, _, .lst h sa n r => .lst (e _ _ h) (f _ sa (by rw [h]; exact fun z => nomatch z)) n (TrA.mono e f r)
  | _, _, _, .tup h r => .tup (sqt_same e h) (TrA.mono e f r)
theorem TrA.mono (e : Same H H') (f : ∀ a, S a → H a ≠ none → S' a) : ∀ {vs : List V} {ds : List Dt} {L : List Addr}, TrA K S H vs ds L → TrA K S' H' vs ds L
  | _, _, _, .nil => .nil
  | _, _, _, .cons h r n => .cons (Tr.mono e f h) (TrA.mono e f r) n
end
mutual
/-- an update elsewhere -/
theorem Tr.updN {o o' : HO} (hp : H p = some o) (m : Mutb o) : ∀ {v : V} {d : Dt} {L : List Addr}, Tr K S H v d L → p ∉ L → Tr K S (upd H p o') v d L
  | _, _, _, .leaf h, _ => .leaf (h.updM hp m fun _ z => z.elim)
  | _, _, _, .lst (a := a) h sa n r, np => .lst (by rw [upd_ne (fun z : a = p => np (by rw [z]; exact List.mem_cons_self))]; exact h) sa n (TrA.updN hp m r fun z => np (List.mem_cons_of_mem _ z))
  | _, _, _, .tup h r, np => .tup (sqt_updM hp m h) (TrA.updN hp m r np)
theorem TrA.updN {o o' : HO} (hp : H p = some o) (m : Mutb o) : ∀ {vs : List V} {ds : List Dt} {L : List Addr}, TrA K S H vs ds L → p ∉ L → TrA K S (upd H p o') vs ds L
  | _, _, _, .nil, _ => .nil
  | _, _, _, .cons h r n, np => .cons (Tr.updN hp m h fun z => np (List.mem_append_left _ z)) (TrA.updN hp m r fun z => np (List.mem_append_right _ z)) n
end
mutual
theorem Tr.mem : ∀ {v : V} {d : Dt} {L : List Addr}, Tr K S H v d L → ∀ a ∈ L, S a ∧ ∃ xs, H a = some (.lst xs)
  | _, _, _, .leaf _ => fun _ z => nomatch z
  | _, _, _, .lst h sa _ r => fun b hb => by
    rcases List.mem_cons.mp hb with z | z
    · subst z; exact ⟨sa, _, h⟩
    · exact TrA.mem r b z
  | _, _, _, .tup _ r => TrA.mem r
theorem TrA.mem : ∀ {vs : List V} {ds : List Dt} {L : List Addr}, TrA K S H vs ds L → ∀ a ∈ L, S a ∧ ∃ xs, H a = some (.lst xs)
  | _, _, _, .nil => fun _ z => nomatch z
  | _, _, _, .cons h r _ => fun b hb => by
    rcases List.mem_append.mp hb with z | z
    · exact Tr.mem h b z
    · exact TrA.mem r b z
end
theorem Tr.same (e : Same H H') {v : V} {d : Dt} {L : List Addr} (h : Tr K S H v d L) : Tr K S H' v d L := h.mono e fun _ z _ => z
theorem Tr.updM {o o' : HO} (hp : H p = some o) (m : Mutb o) (nf : ∀ a, S a → a ≠ p) {v : V} {d : Dt} {L : List Addr} (h : Tr K S H v d L) : Tr K S (upd H p o') v d L := h.updN hp m fun z => nf p (h.mem p z).1 rfl
end
structure Exn where
  cls : Str
  arg : Option Int
inductive O (α : Type) where
  | bad | ok (a : α) | ex (e : Exn)
def bnd {α β : Type} (x : O α) (f : α → O β) : O β := match x with
  | .bad => .bad
  | .ok a => f a
  | .ex e => .ex e
@[simp] theorem bnd_ok {α β : Type} (a : α) (f : α → O β) : bnd (.ok a) f = f a := rfl
@[simp] theorem bnd_bad {α β : Type} (f : α → O β) : bnd .bad f = .bad := rfl
@[simp] theorem bnd_ex {α β : Type} (e : Exn) (f : α → O β) : bnd (.ex e) f = .ex e := rfl
inductive Ct where
  | l | dk | dt | la | ka
def isArg : Ct → Bool
  | .la => true
  | .ka => true
  | _ => false
inductive Kd where
  | no | im (fr : Bool) | own (c : Ct) (fr : Bool) | sl (t : Bool := false)
structure Fm where
  H0 : Hp
  G : Addr → Prop
  Γ : List (List V × List Dt × Bool)
  P : List Addr
  A : Option Addr := none
  /-- the lists of what is sealed -/
  S : List Addr := []
  hS : ∀ a ∈ S, a ∈ P := by exact fun a h => nomatch h
def SlC (K : PySem.W.Frag) (f : Fm) (t : Bool) (H : Hp) (v : V) (d : Dt) : Prop := Rp K (fun a => a ∈ f.S) H v d ∧ (t = true → ∃ L, Tr K (fun a => a ∈ f.S) H v d L)
theorem SlC.same {K : PySem.W.Frag} {f : Fm} {t : Bool} {H H' : Hp} {v : V} {d : Dt} (h : SlC K f t H v d) (e : Same H H') : SlC K f t H' v d := ⟨h.1.same e, fun t => let ⟨L, x⟩ := h.2 t; ⟨L, x.same e⟩⟩
theorem SlC.updM {K : PySem.W.Frag} {f : Fm} {t : Bool} {H : Hp} {p : Addr} {o o' : HO} {v : V} {d : Dt} (h : SlC K f t H v d) (hp : H p = some o) (m : Mutb o) (nf : ∀ a, a ∈ f.S → a ≠ p) : SlC K f t (upd H p o') v d := ⟨h.1.updM hp m nf, fun t => let ⟨L, x⟩ := h.2 t; ⟨L, x.updM hp m nf⟩⟩
def Ow (Δ : List Kd) (σ : St) (a : Addr) : Prop := ∃ (i : Nat) (c : Ct) (fr : Bool), Δ[i]? = some (Kd.own c fr) ∧ σ[i]? = some (some (V.ref a))
def FM (f : Fm) (Δ : List Kd) (σ : St) (av fr : Bool) (a : Addr) : Prop := (av = true → ¬ Ow Δ σ a ∧ a ∉ f.P) ∧ (fr = true → f.G a)
inductive KvA (K : PySem.W.Frag) (F : Addr → Prop) (H : Hp) : List (Key × V) → List (Dt × Dt) → Prop
  | nil : KvA K F H [] []
  | cons {k : Key} {v : V} {d : Dt} {kvs : List (Key × V)} {es : List (Dt × Dt)} : Rp K F H v d → KvA K F H kvs es → KvA K F H ((k, v) :: kvs) ((keyD k, d) :: es)
inductive KtA (K : PySem.W.Frag) (F : Addr → Prop) (H : Hp) : List (List Key × V) → List (Dt × Dt) → Prop
  | nil : KtA K F H [] []
  | cons {k : List Key} {v : V} {d : Dt} {kvs : List (List Key × V)} {es : List (Dt × Dt)} : Rp K F H v d → KtA K F H kvs es → KtA K F H ((k, v) :: kvs) ((.tuple (k.map keyD), d) :: es)
def OwC (K : PySem.W.Frag) (c : Ct) (F : Addr → Prop) (H : Hp) (p : Addr) (d : Dt) : Prop := match c with
  | .l => ∃ vs ds, d = .list ds ∧ H p = some (.lst vs) ∧ RpA K F H vs ds
  | .dk => ∃ kvs es, d = .dict es ∧ H p = some (.dK kvs) ∧ KvA K F H kvs es
  | .dt => ∃ kvs es, d = .dict es ∧ H p = some (.dT kvs) ∧ KtA K F H kvs es
  | .la => ∃ vs ds, d = .list ds ∧ H p = some (.lst vs) ∧ RpA K F H vs ds
  | .ka => ∃ kvs es, d = .dict es ∧ H p = some (.dK kvs) ∧ KvA K F H kvs es
section
variable {K : PySem.W.Frag} {F F' : Addr → Prop} {H H' : Hp} {p q : Addr} {d : Dt} {c : Ct}
theorem KvA.map {kvs es} (f : ∀ v d, Rp K F H v d → Rp K F' H' v d) : KvA K F H kvs es → KvA K F' H' kvs es
  | .nil => .nil
  | .cons h r => .cons (f _ _ h) (KvA.map f r)
theorem KtA.map {kvs es} (f : ∀ v d, Rp K F H v d → Rp K F' H' v d) : KtA K F H kvs es → KtA K F' H' kvs es
  | .nil => .nil
  | .cons h r => .cons (f _ _ h) (KtA.map f r)
theorem RpA.map {vs ds} (f : ∀ v d, Rp K F H v d → Rp K F' H' v d) : RpA K F H vs ds → RpA K F' H' vs ds
  | .nil => .nil
  | .cons h r => .cons (f _ _ h) (RpA.map f r)
theorem OwC.map (hp : ∀ o, H p = some o → H' p = some o) (f : ∀ v d, Rp K F H v d → Rp K F' H' v d) (h : OwC K c F H p d) : OwC K c F' H' p d := by
  cases c with
  | l => obtain ⟨vs, ds, e, h1, h2⟩ := h; exact ⟨vs, ds, e, hp _ h1, h2.map f⟩
  | dk => obtain ⟨vs, ds, e, h1, h2⟩ := h; exact ⟨vs, ds, e, hp _ h1, h2.map f⟩
  | dt => obtain ⟨vs, ds, e, h1, h2⟩ := h; exact ⟨vs, ds, e, hp _ h1, h2.map f⟩
  | la => obtain ⟨vs, ds, e, h1, h2⟩ := h; exact ⟨vs, ds, e, hp _ h1, h2.map f⟩
  | ka => obtain ⟨vs, ds, e, h1, h2⟩ := h; exact ⟨vs, ds, e, hp _ h1, h2.map f⟩
theorem OwC.mutb (h : OwC K c F H p d) : ∃ o, H p = some o ∧ Mutb o := by
  cases c with
  | l => obtain ⟨vs, ds, e, h1, h2⟩ := h; exact ⟨_, h1, trivial⟩
  | dk => obtain ⟨vs, ds, e, h1, h2⟩ := h; exact ⟨_, h1, trivial⟩
  | dt => obtain ⟨vs, ds, e, h1, h2⟩ := h; exact ⟨_, h1, trivial⟩
  | la => obtain ⟨vs, ds, e, h1, h2⟩ := h; exact ⟨_, h1, trivial⟩
  | ka => obtain ⟨vs, ds, e, h1, h2⟩ := h; exact ⟨_, h1, trivial⟩
theorem OwC.there (h : OwC K c F H p d) : H p ≠ none := by
  obtain ⟨o, e, _⟩ := h.mutb
  rw [e]
  exact fun z => nomatch z
end
structure R (K : PySem.W.Frag) (f : Fm) (Δ : List Kd) (ρ : List Dt) (σ : St) (H : Hp) : Prop where
  ext : Same f.H0 H
  g0 : ∀ a, f.H0 a = none → f.G a
  lσ : σ.length = Δ.length
  lρ : ρ.length = Δ.length
  inj : ∀ (i j : Nat) (ci : Ct) (fi : Bool) (cj : Ct) (fj : Bool) (p : Addr), Δ[i]? = some (Kd.own ci fi) → Δ[j]? = some (Kd.own cj fj) → σ[i]? = some (some (V.ref p)) → σ[j]? = some (some (V.ref p)) → i = j
  pin : ∀ a ∈ f.P, (∃ o, H a = some o ∧ Mutb o) ∧ ¬ Ow Δ σ a
  gh : ∀ g ∈ f.Γ, RpA K (FM f Δ σ true g.2.2) H g.1 g.2.1
  im : ∀ (i : Nat) (fr : Bool), Δ[i]? = some (Kd.im fr) → ∃ v d, σ[i]? = some (some v) ∧ ρ[i]? = some d ∧ Rp K (FM f Δ σ true fr) H v d
  ow : ∀ (i : Nat) (c : Ct) (fr : Bool), Δ[i]? = some (Kd.own c fr) → ∃ p d, σ[i]? = some (some (V.ref p)) ∧ ρ[i]? = some d ∧ f.H0 p = none ∧ OwC K c (FM f Δ σ true fr) H p d
  ar : ∀ (i : Nat) (c : Ct) (fr : Bool), Δ[i]? = some (Kd.own c fr) → isArg c = true → ∃ p, f.A = some p ∧ σ[i]? = some (some (V.ref p))
  sp : ∀ a ∈ f.S, f.H0 a = none ∧ f.G a
  sl : ∀ (i : Nat) (t : Bool), Δ[i]? = some (Kd.sl t) → ∃ v d, σ[i]? = some (some v) ∧ ρ[i]? = some d ∧ SlC K f t H v d
section
variable {K : PySem.W.Frag} {f : Fm} {Δ : List Kd} {ρ : List Dt} {σ : St} {H H' : Hp} {v : V} {d : Dt} {i : Nat} {p : Addr}
theorem FM.weak {av fr av' fr' : Bool} (h1 : av' = true → av = true) (h2 : fr' = true → fr = true) {a : Addr} (h : FM f Δ σ av fr a) : FM f Δ σ av' fr' a := ⟨fun e => h.1 (h1 e), fun e => h.2 (h2 e)⟩
theorem R.mono (r : R K f Δ ρ σ H) (e : Same H H') : R K f Δ ρ σ H' where
  ext := r.ext.trans e
  g0 := r.g0
  lσ := r.lσ
  lρ := r.lρ
  inj := r.inj
  pin := fun a ha => let ⟨⟨o, h1, h2⟩, h3⟩ := r.pin a ha; ⟨⟨o, e _ _ h1, h2⟩, h3⟩
  gh := fun g hg => (r.gh g hg).same e
  im := fun i fr h => let ⟨v, d, h1, h2, h3⟩ := r.im i fr h; ⟨v, d, h1, h2, h3.same e⟩
  ow := fun i c fr h => let ⟨p, d, h1, h2, h3, h4⟩ := r.ow i c fr h; ⟨p, d, h1, h2, h3, h4.map (fun o => e p o) fun _ _ q => q.same e⟩
  ar := r.ar
  sp := r.sp
  sl := fun i t h => let ⟨v, d, h1, h2, h3⟩ := r.sl i t h; ⟨v, d, h1, h2, h3.same e⟩
theorem R.owOf (r : R K f Δ ρ σ H) {a : Addr} (h : Ow Δ σ a) : (∃ o, H a = some o ∧ Mutb o) ∧ f.H0 a = none := by
  obtain ⟨i, c, fr, h1, h2⟩ := h
  obtain ⟨p, d, e1, _, e3, e4⟩ := r.ow i c fr h1
  rw [h2] at e1
  cases e1
  exact ⟨e4.mutb, e3⟩
theorem R.fresh (r : R K f Δ ρ σ H) (h : H p = none) : ¬ Ow Δ σ p ∧ p ∉ f.P ∧ f.H0 p = none := by
  refine ⟨fun z => ?_, fun z => ?_, ?_⟩
  · obtain ⟨⟨o, e, _⟩, _⟩ := r.owOf z
    rw [h] at e; cases e
  · obtain ⟨⟨o, e, _⟩, _⟩ := r.pin p z
    rw [h] at e; cases e
  · cases q : f.H0 p with
    | none => rfl
    | some o => rw [r.ext p o q] at h; cases h
theorem R.updAt {o o' : HO} (r : R K f Δ ρ σ H) (hp : H p = some o) (m : Mutb o) (m' : Mutb o') (h0 : f.H0 p = none) (no : ¬ Ow Δ σ p) (hP : p ∈ f.P) (hs : ∀ (i : Nat) (t : Bool), Δ[i]? = some (Kd.sl t) → p ∉ f.S) : R K f Δ ρ σ (upd H p o') := by
  have key : ∀ {fr : Bool} {v : V} {d : Dt}, Rp K (FM f Δ σ true fr) H v d → Rp K (FM f Δ σ true fr) (upd H p o') v d := fun h =>
    h.updM hp m fun a fa z => (fa.1 rfl).2 (z ▸ hP)
  refine ⟨fun b u e => ?_, r.g0, r.lσ, r.lρ, r.inj, fun a ha => ⟨?_, (r.pin a ha).2⟩, fun g hg => (r.gh g hg).map fun _ _ x => key x, fun i fr h => ?_, fun i c fr h => ?_, r.ar, r.sp, fun i t h => let ⟨v, d, h1, h2, h3⟩ := r.sl i t h; ⟨v, d, h1, h2, h3.updM hp m fun a fa z => hs i t h (z ▸ fa)⟩⟩
  · have : b ≠ p := fun z => by subst z; rw [h0] at e; cases e
    rw [upd_ne this]
    exact r.ext b u e
  · by_cases z : a = p
    · subst z
      exact ⟨o', upd_same, m'⟩
    · rw [upd_ne z]
      exact (r.pin a ha).1
  · obtain ⟨v, d, h1, h2, h3⟩ := r.im i fr h
    exact ⟨v, d, h1, h2, key h3⟩
  · obtain ⟨q, d, h1, h2, h3, h4⟩ := r.ow i c fr h
    have nq : q ≠ p := fun z => no ⟨i, c, fr, h, z ▸ h1⟩
    exact ⟨q, d, h1, h2, h3, h4.map (fun u e => by rw [upd_ne nq]; exact e) fun _ _ x => key x⟩
theorem R.updOwn {o' : HO} {c : Ct} {fr : Bool} (r : R K f Δ ρ σ H) (hk : Δ[i]? = some (Kd.own c fr)) (hs : σ[i]? = some (some (V.ref p)))
    {fr' : Bool} (m' : Mutb o') {c' : Ct} (new : OwC K c' (FM f Δ σ true fr') (upd H p o') p d) (hc : isArg c' = true → isArg c = true := by intro h; first | exact h | cases h) : R K f (Δ.set i (.own c' fr')) (ρ.set i d) σ (upd H p o') := by
  obtain ⟨p', d', e1, e2, e3, e4⟩ := r.ow i c fr hk
  rw [hs] at e1
  cases e1
  obtain ⟨o, ho, mo⟩ := e4.mutb
  have hi : i < Δ.length := (List.getElem?_eq_some_iff.mp hk).1
  have owp : Ow Δ σ p := ⟨i, c, fr, hk, hs⟩
  have ow' : ∀ a, Ow (Δ.set i (.own c' fr')) σ a ↔ Ow Δ σ a := fun a => by
    constructor
    · rintro ⟨j, cj, fj, h1, h2⟩
      by_cases z : i = j
      · subst z
        rw [hs] at h2
        cases h2
        exact owp
      · rw [List.getElem?_set_ne z] at h1
        exact ⟨j, cj, fj, h1, h2⟩
    · rintro ⟨j, cj, fj, h1, h2⟩
      by_cases z : i = j
      · subst z
        exact ⟨i, c', fr', by rw [List.getElem?_set_self hi], h2⟩
      · exact ⟨j, cj, fj, by rw [List.getElem?_set_ne z]; exact h1, h2⟩
  have key : ∀ {fr : Bool} {v : V} {d : Dt}, Rp K (FM f Δ σ true fr) H v d → Rp K (FM f (Δ.set i (.own c' fr')) σ true fr) (upd H p o') v d := fun h =>
    (h.updM ho mo fun a fa z => (fa.1 rfl).1 (z ▸ owp)).weak fun a fa => ⟨fun _ => ⟨fun z => (fa.1 rfl).1 ((ow' a).mp z), (fa.1 rfl).2⟩, fa.2⟩
  have key2 : ∀ {fr : Bool} {v : V} {d : Dt}, Rp K (FM f Δ σ true fr) (upd H p o') v d → Rp K (FM f (Δ.set i (.own c' fr')) σ true fr) (upd H p o') v d := fun h =>
    h.weak fun a fa => ⟨fun _ => ⟨fun z => (fa.1 rfl).1 ((ow' a).mp z), (fa.1 rfl).2⟩, fa.2⟩
  refine ⟨fun b u e => ?_, r.g0, by rw [List.length_set]; exact r.lσ, by rw [List.length_set, List.length_set]; exact r.lρ, ?_, fun a ha => ?_, fun g hg => (r.gh g hg).map fun _ _ x => key x, fun j fj h => ?_, fun j cj fj h => ?_, fun j cj fj h ha => ?_, r.sp, fun j t h => by
    by_cases z : i = j
    · subst z
      rw [List.getElem?_set_self hi] at h
      cases h
    · rw [List.getElem?_set_ne z] at h
      obtain ⟨v, d, h1, h2, h3⟩ := r.sl j t h
      exact ⟨v, d, h1, by rw [List.getElem?_set_ne z]; exact h2, h3.updM ho mo fun a fa y => (r.pin a (f.hS a fa)).2 (y ▸ owp)⟩⟩
  · have : b ≠ p := fun z => by subst z; rw [e3] at e; cases e
    rw [upd_ne this]
    exact r.ext b u e
  · intro j k cj fj ck fk q h1 h2 h3 h4
    have g : ∀ {j : Nat} {cj : Ct} {fj : Bool}, (Δ.set i (Kd.own c' fr'))[j]? = some (Kd.own cj fj) → ∃ (cj : Ct) (fj : Bool), Δ[j]? = some (Kd.own cj fj) := fun {j cj fj} h => by
      by_cases z : i = j
      · subst z; exact ⟨_, _, hk⟩
      · rw [List.getElem?_set_ne z] at h; exact ⟨_, _, h⟩
    obtain ⟨_, _, g1⟩ := g h1
    obtain ⟨_, _, g2⟩ := g h2
    exact r.inj j k _ _ _ _ q g1 g2 h3 h4
  · obtain ⟨⟨u, hu, mu⟩, no⟩ := r.pin a ha
    have na : a ≠ p := fun z => no (z ▸ owp)
    exact ⟨⟨u, by rw [upd_ne na]; exact hu, mu⟩, fun z => no ((ow' a).mp z)⟩
  · by_cases z : i = j
    · subst z
      rw [List.getElem?_set_self hi] at h
      cases h
    · rw [List.getElem?_set_ne z] at h
      obtain ⟨v, d, h1, h2, h3⟩ := r.im j fj h
      exact ⟨v, d, h1, by rw [List.getElem?_set_ne z]; exact h2, key h3⟩
  · by_cases z : i = j
    · subst z
      rw [List.getElem?_set_self hi] at h
      cases h
      exact ⟨p, d, hs, by rw [List.getElem?_set_self (by rw [r.lρ]; exact hi)], e3, new.map (fun o e => e) fun _ _ x => key2 x⟩
    · rw [List.getElem?_set_ne z] at h
      obtain ⟨q, d, h1, h2, h3, h4⟩ := r.ow j cj fj h
      have nq : q ≠ p := fun y => z (r.inj i j _ _ _ _ p hk h hs (y ▸ h1))
      exact ⟨q, d, h1, by rw [List.getElem?_set_ne z]; exact h2, h3, h4.map (fun u e => by rw [upd_ne nq]; exact e) fun _ _ x => key x⟩
  · by_cases z : i = j
    · subst z
      rw [List.getElem?_set_self hi] at h
      cases h
      exact r.ar i c fr hk (hc ha)
    · rw [List.getElem?_set_ne z] at h
      exact r.ar j cj fj h ha
theorem R.setIm {fr : Bool} (r : R K f Δ ρ σ H) (hi : i < Δ.length) (h : Rp K (FM f Δ σ true fr) H v d) : R K f (Δ.set i (.im fr)) (ρ.set i d) (σ.set i (some v)) H := by
  have ow' : ∀ a, Ow (Δ.set i (.im fr)) (σ.set i (some v)) a → Ow Δ σ a := fun a => by
    rintro ⟨j, cj, fj, h1, h2⟩
    by_cases z : i = j
    · subst z
      rw [List.getElem?_set_self hi] at h1
      cases h1
    · rw [List.getElem?_set_ne z] at h1 h2
      exact ⟨j, cj, fj, h1, h2⟩
  have key : ∀ {fr' : Bool} {v' : V} {d' : Dt}, Rp K (FM f Δ σ true fr') H v' d' → Rp K (FM f (Δ.set i (.im fr)) (σ.set i (some v)) true fr') H v' d' := fun h =>
    h.weak fun a fa => ⟨fun _ => ⟨fun z => (fa.1 rfl).1 (ow' a z), (fa.1 rfl).2⟩, fa.2⟩
  refine ⟨r.ext, r.g0, by rw [List.length_set, List.length_set]; exact r.lσ, by rw [List.length_set, List.length_set]; exact r.lρ, ?_, fun a ha => ⟨(r.pin a ha).1, fun z => (r.pin a ha).2 (ow' a z)⟩, fun g hg => (r.gh g hg).map fun _ _ x => key x, fun j fj h' => ?_, fun j cj fj h' => ?_, fun j cj fj h' ha => ?_, r.sp, fun j t h' => by
    by_cases z : i = j
    · subst z
      rw [List.getElem?_set_self hi] at h'
      cases h'
    · rw [List.getElem?_set_ne z] at h'
      obtain ⟨v, d, h1, h2, h3⟩ := r.sl j t h'
      exact ⟨v, d, by rw [List.getElem?_set_ne z]; exact h1, by rw [List.getElem?_set_ne z]; exact h2, h3⟩⟩
  · intro j k cj fj ck fk q h1 h2 h3 h4
    have g : ∀ {j : Nat} {cj : Ct} {fj : Bool}, (Δ.set i (Kd.im fr))[j]? = some (Kd.own cj fj) → i ≠ j ∧ Δ[j]? = some (Kd.own cj fj) := fun {j cj fj} h => by
      by_cases z : i = j
      · subst z; rw [List.getElem?_set_self hi] at h; cases h
      · rw [List.getElem?_set_ne z] at h; exact ⟨z, h⟩
    obtain ⟨z1, g1⟩ := g h1
    obtain ⟨z2, g2⟩ := g h2
    rw [List.getElem?_set_ne z1] at h3
    rw [List.getElem?_set_ne z2] at h4
    exact r.inj j k _ _ _ _ q g1 g2 h3 h4
  · by_cases z : i = j
    · subst z
      rw [List.getElem?_set_self hi] at h'
      cases h'
      exact ⟨v, d, by rw [List.getElem?_set_self (by rw [r.lσ]; exact hi)], by rw [List.getElem?_set_self (by rw [r.lρ]; exact hi)], key h⟩
    · rw [List.getElem?_set_ne z] at h'
      obtain ⟨v', d', h1, h2, h3⟩ := r.im j fj h'
      exact ⟨v', d', by rw [List.getElem?_set_ne z]; exact h1, by rw [List.getElem?_set_ne z]; exact h2, key h3⟩
  · by_cases z : i = j
    · subst z
      rw [List.getElem?_set_self hi] at h'
      cases h'
    · rw [List.getElem?_set_ne z] at h'
      obtain ⟨q, d', h1, h2, h3, h4⟩ := r.ow j cj fj h'
      exact ⟨q, d', by rw [List.getElem?_set_ne z]; exact h1, by rw [List.getElem?_set_ne z]; exact h2, h3, h4.map (fun u e => e) fun _ _ x => key x⟩
  · by_cases z : i = j
    · subst z
      rw [List.getElem?_set_self hi] at h'
      cases h'
    · rw [List.getElem?_set_ne z] at h'
      obtain ⟨p, h1, h2⟩ := r.ar j cj fj h' ha
      exact ⟨p, h1, by rw [List.getElem?_set_ne z]; exact h2⟩
theorem R.setOwn {c : Ct} {fr : Bool} (r0 : R K f Δ ρ σ H) (hi : i < Δ.length) (hp : H p = none) (e : Same H H') (h : OwC K c (fun a => FM f Δ σ true fr a ∧ a ≠ p) H' p d) (hc : isArg c = false := by rfl) :
    R K f (Δ.set i (.own c fr)) (ρ.set i d) (σ.set i (some (.ref p))) H' := by
  have r := r0.mono e
  obtain ⟨f1, f2, f3⟩ := r0.fresh hp
  have ow' : ∀ a, Ow (Δ.set i (.own c fr)) (σ.set i (some (.ref p))) a → Ow Δ σ a ∨ a = p := fun a => by
    rintro ⟨j, cj, fj, h1, h2⟩
    by_cases z : i = j
    · subst z
      rw [List.getElem?_set_self (by rw [r.lσ]; exact hi)] at h2
      cases h2
      exact .inr rfl
    · rw [List.getElem?_set_ne z] at h1 h2
      exact .inl ⟨j, cj, fj, h1, h2⟩
  have key : ∀ {fr' : Bool} {v' : V} {d' : Dt}, Rp K (FM f Δ σ true fr') H v' d' → Rp K (FM f (Δ.set i (.own c fr)) (σ.set i (some (.ref p))) true fr') H' v' d' := fun h =>
    h.mono e fun a fa na => ⟨fun _ => ⟨fun z => by
      rcases ow' a z with z | z
      · exact (fa.1 rfl).1 z
      · exact na (z ▸ hp), (fa.1 rfl).2⟩, fa.2⟩
  have keyN : ∀ {fr' : Bool} {v' : V} {d' : Dt}, Rp K (fun a => FM f Δ σ true fr' a ∧ a ≠ p) H' v' d' → Rp K (FM f (Δ.set i (.own c fr)) (σ.set i (some (.ref p))) true fr') H' v' d' := fun h =>
    h.weak fun a fa => ⟨fun _ => ⟨fun z => by
      rcases ow' a z with z | z
      · exact (fa.1.1 rfl).1 z
      · exact fa.2 z, (fa.1.1 rfl).2⟩, fa.1.2⟩
  refine ⟨r.ext, r.g0, by rw [List.length_set, List.length_set]; exact r.lσ, by rw [List.length_set, List.length_set]; exact r.lρ, ?_, fun a ha => ⟨(r.pin a ha).1, fun z => ?_⟩, fun g hg => (r0.gh g hg).map fun _ _ x => key x, fun j fj h' => ?_, fun j cj fj h' => ?_, fun j cj fj h' ha => ?_, r.sp, fun j t h' => by
    by_cases z : i = j
    · subst z
      rw [List.getElem?_set_self hi] at h'
      cases h'
    · rw [List.getElem?_set_ne z] at h'
      obtain ⟨v, d, h1, h2, h3⟩ := r.sl j t h'
      exact ⟨v, d, by rw [List.getElem?_set_ne z]; exact h1, by rw [List.getElem?_set_ne z]; exact h2, h3⟩⟩
  · have g : ∀ {j : Nat} {cj : Ct} {fj : Bool} {q : Addr}, (Δ.set i (Kd.own c fr))[j]? = some (Kd.own cj fj) → (σ.set i (some (V.ref p)))[j]? = some (some (V.ref q)) → (i = j ∧ q = p) ∨ (i ≠ j ∧ Δ[j]? = some (Kd.own cj fj) ∧ σ[j]? = some (some (V.ref q)) ∧ q ≠ p) := fun {j cj fj q} h h2 => by
      by_cases z : i = j
      · subst z
        rw [List.getElem?_set_self (by rw [r.lσ]; exact hi)] at h2
        cases h2
        exact .inl ⟨rfl, rfl⟩
      · rw [List.getElem?_set_ne z] at h h2
        exact .inr ⟨z, h, h2, fun y => f1 ⟨j, cj, fj, h, y ▸ h2⟩⟩
    intro j k cj fj ck fk q h1 h2 h3 h4
    rcases g h1 h3 with ⟨a1, b1⟩ | ⟨a1, b1, c1, d1⟩
    · rcases g h2 h4 with ⟨a2, b2⟩ | ⟨a2, b2, c2, d2⟩
      · exact a1 ▸ a2
      · exact (d2 b1).elim
    · rcases g h2 h4 with ⟨a2, b2⟩ | ⟨a2, b2, c2, d2⟩
      · exact (d1 b2).elim
      · exact r.inj j k _ _ _ _ q b1 b2 c1 c2
  · rcases ow' a z with z | z
    · exact (r0.pin a ha).2 z
    · exact f2 (z ▸ ha)
  · by_cases z : i = j
    · subst z
      rw [List.getElem?_set_self hi] at h'
      cases h'
    · rw [List.getElem?_set_ne z] at h'
      obtain ⟨v', d', h1, h2, h3⟩ := r0.im j fj h'
      exact ⟨v', d', by rw [List.getElem?_set_ne z]; exact h1, by rw [List.getElem?_set_ne z]; exact h2, key h3⟩
  · by_cases z : i = j
    · subst z
      rw [List.getElem?_set_self hi] at h'
      cases h'
      exact ⟨p, d, by rw [List.getElem?_set_self (by rw [r.lσ]; exact hi)], by rw [List.getElem?_set_self (by rw [r.lρ]; exact hi)], f3, h.map (fun o e => e) fun _ _ x => keyN x⟩
    · rw [List.getElem?_set_ne z] at h'
      obtain ⟨q, d', h1, h2, h3, h4⟩ := r0.ow j cj fj h'
      exact ⟨q, d', by rw [List.getElem?_set_ne z]; exact h1, by rw [List.getElem?_set_ne z]; exact h2, h3, h4.map (fun u x => e _ _ x) fun _ _ x => key x⟩
  · by_cases z : i = j
    · subst z
      rw [List.getElem?_set_self hi] at h'
      cases h'
      rw [hc] at ha
      cases ha
    · rw [List.getElem?_set_ne z] at h'
      obtain ⟨p, h1, h2⟩ := r0.ar j cj fj h' ha
      exact ⟨p, h1, by rw [List.getElem?_set_ne z]; exact h2⟩
end
end Sim
end T_SimA
section T_SimB
set_option Elab.async false
set_option linter.all false
set_option maxRecDepth 100000
namespace Sim
open PySem PySem.Spec L2
open PyProof.Rows hiding St
abbrev Wt := Exn → L2.St → Hp → Prop
abbrev Gd := List Dt → O Dt
inductive Rk where
  | v (av fr : Bool) | o (fr : Bool) | new (c : Ct) (fr : Bool)
def PoE (K : PySem.W.Frag) (W : Wt) (f : Fm) (Δ : List Kd) (σ : L2.St) (H : Hp) (k : Rk) (o : O Dt) (Q : VK) : Prop := match o with
  | .bad => False
  | .ex e => ∀ H', Same H H' → W e σ H'
  | .ok d => match k with
    | .v av fr => ∀ v H', Same H H' → Rp K (FM f Δ σ av fr) H' v d → Q v H'
    | .o fr => ∀ p H' vs ds, d = .list ds → Same H H' → H' p = some (.lst vs) → f.G p → RpA K (FM f Δ σ true fr) H' vs ds → Q (.ref p) H'
    | .new c fr => ∀ p H', H p = none → Same H H' → OwC K c (fun a => FM f Δ σ true fr a ∧ a ≠ p) H' p d → Q (.ref p) H'
def SE (K : PySem.W.Frag) (W : Wt) (Δ : List Kd) (te : TE) (k : Rk) (g : Gd) : Prop := ∀ f ρ σ H Q, R K f Δ ρ σ H → PoE K W f Δ σ H k (g ρ) Q → te σ H Q
def PoT (W : Wt) (σ : L2.St) (H : Hp) (o : O Bool) (Q : Bool → Hp → Prop) : Prop := match o with
  | .bad => False
  | .ex e => ∀ H', Same H H' → W e σ H'
  | .ok b => ∀ H', Same H H' → Q b H'
def ST (K : PySem.W.Frag) (W : Wt) (Δ : List Kd) (tt : TT) (g : List Dt → O Bool) : Prop := ∀ f ρ σ H Q, R K f Δ ρ σ H → PoT W σ H (g ρ) Q → tt σ H Q
def PoA (K : PySem.W.Frag) (W : Wt) (f : Fm) (Δ : List Kd) (σ : L2.St) (H : Hp) (av fr : Bool) (o : O (List Dt)) (Q : List V → Hp → Prop) : Prop := match o with
  | .bad => False
  | .ex e => ∀ H', Same H H' → W e σ H'
  | .ok ds => ∀ vs H', Same H H' → RpA K (FM f Δ σ av fr) H' vs ds → Q vs H'
def SA (K : PySem.W.Frag) (W : Wt) (Δ : List Kd) (ta : TA) (av fr : Bool) (g : List Dt → O (List Dt)) : Prop := ∀ f ρ σ H Q, R K f Δ ρ σ H → PoA K W f Δ σ H av fr (g ρ) Q → ta σ H Q
def gVar (i : Nat) : Gd := fun ρ => match ρ[i]? with
  | some d => .ok d
  | none => .bad
def gC (d : Dt) : Gd := fun _ => .ok d
def gOp (h : Dt → Dt → O Dt) (a b : Gd) : Gd := fun ρ => bnd (a ρ) fun x => bnd (b ρ) fun y => h x y
def gUn (h : Dt → O Dt) (a : Gd) : Gd := fun ρ => bnd (a ρ) h
def gNil : List Dt → O (List Dt) := fun _ => .ok []
def gCons (a : Gd) (b : List Dt → O (List Dt)) : List Dt → O (List Dt) := fun ρ => bnd (a ρ) fun x => bnd (b ρ) fun xs => .ok (x :: xs)
def gTup (a : List Dt → O (List Dt)) : Gd := fun ρ => bnd (a ρ) fun xs => if xs.length ≤ 100000 then .ok (.tuple xs) else .bad
def gLst (a : List Dt → O (List Dt)) : Gd := fun ρ => bnd (a ρ) fun xs => if xs.length ≤ 100000 then .ok (.list xs) else .bad
def pureIn : Dt → Bool
  | .list xs => pureA xs
  | d => pure1 d
def gPurN (a : Gd) : Gd := fun ρ => bnd (a ρ) fun d => if pureIn d then .ok d else .bad
def gIf (t : List Dt → O Bool) (a b : Gd) : Gd := fun ρ => bnd (t ρ) fun c => if c then a ρ else b ρ
def asB : Dt → O Bool
  | .bool b => .ok b
  | _ => .bad
def gTest (a : Gd) : List Dt → O Bool := fun ρ => bnd (a ρ) asB
def gNot (t : List Dt → O Bool) : List Dt → O Bool := fun ρ => bnd (t ρ) fun b => .ok (!b)
def gAnd (t u : List Dt → O Bool) : List Dt → O Bool := fun ρ => bnd (t ρ) fun b => if b then u ρ else .ok false
def gOr (t u : List Dt → O Bool) : List Dt → O Bool := fun ρ => bnd (t ρ) fun b => if b then .ok true else u ρ
def gAndV (a b : Gd) : Gd := fun ρ => bnd (a ρ) fun x => bnd (asB x) fun c => if c then b ρ else .ok (.bool false)
def gOrV (a b : Gd) : Gd := fun ρ => bnd (a ρ) fun x => bnd (asB x) fun c => if c then .ok (.bool true) else b ρ
def gNotV (a : Gd) : Gd := fun ρ => bnd (a ρ) fun x => bnd (asB x) fun c => .ok (.bool (!c))
def gCB (h : List Dt → O Dt) (a : List Dt → O (List Dt)) : Gd := fun ρ => bnd (a ρ) h
def scl : Dt → Bool
  | .none => true
  | .bool _ => true
  | .int _ => true
  | .str _ => true
  | _ => false
section
variable {K : PySem.W.Frag} {W : Wt} {Δ : List Kd} {ta tb te : TE} {tt tu : TT} {tA tB' : TA} {ga gb g : Gd} {gt gu : List Dt → O Bool} {gA : List Dt → O (List Dt)} {k k1 k2 : Rk} {av fr av' fr' : Bool}
theorem Rp.scl_any {F F' : Addr → Prop} {H H' : Hp} {v : V} {d : Dt} (h : Rp K F H v d) (s : scl d = true) : Rp K F' H' v d := by
  cases h with
  | non => exact .non
  | bl b => exact .bl b
  | int i => exact .int i
  | str x => exact .str x
  | lst => cases s
  | fz => cases s
  | tup => cases s
  | dic => cases s
  | exn => cases s
theorem se_var {i : Nat} (hk : Δ[i]? = some (.im fr)) : SE K W Δ (tVar i) (.v true fr) (gVar i) := fun f ρ σ H Q r q => by
  obtain ⟨v, d, h1, h2, h3⟩ := r.im i fr hk
  unfold gVar at q
  rw [h2] at q
  exact ⟨v, h1, q v H (Same.refl H) h3⟩
theorem se_own {i : Nat} (hk : Δ[i]? = some (.own .l fr)) : SE K W Δ (tVar i) (.o fr) (gVar i) := fun f ρ σ H Q r q => by
  obtain ⟨p, d, h1, h2, h3, vs, ds, e, h4, h5⟩ := r.ow i .l fr hk
  subst e
  unfold gVar at q
  rw [h2] at q
  exact ⟨_, h1, q p H vs ds rfl (Same.refl H) h4 (r.g0 p h3) h5⟩
theorem se_c {v : V} {d : Dt} (h : Rp K (fun _ => False) (fun _ => none) v d) (s : scl d = true) : SE K W Δ (tC v) (.v true true) (gC d) := fun f ρ σ H Q r q =>
  q v H (Same.refl H) (h.scl_any s)
theorem se_int {i : Int} : SE K W Δ (tC (.int i)) (.v true true) (gC (.int i)) := se_c (.int i) rfl
theorem se_str {x : Str} : SE K W Δ (tC (.str x)) (.v true true) (gC (.str x)) := se_c (.str x) rfl
theorem se_bl {b : Bool} : SE K W Δ (tC (.bl b)) (.v true true) (gC (.bool b)) := se_c (.bl b) rfl
theorem se_non : SE K W Δ (tC .non) (.v true true) (gC .none) := se_c .non rfl
theorem Rp.fm {f : Fm} {σ : L2.St} {H : Hp} {v : V} {d : Dt} (h1 : av' = true → av = true) (h2 : fr' = true → fr = true) (h : Rp K (FM f Δ σ av fr) H v d) : Rp K (FM f Δ σ av' fr') H v d := h.weak fun _ x => x.weak h1 h2
theorem SE.wk (h : SE K W Δ te (.v av fr) g) (h1 : av' = true → av = true := by decide) (h2 : fr' = true → fr = true := by decide) : SE K W Δ te (.v av' fr') g := fun f ρ σ H Q r q =>
  h f ρ σ H Q r <| by
    cases e : g ρ with
    | bad => rw [e] at q; exact q
    | ex z => rw [e] at q; exact q
    | ok d => rw [e] at q; exact fun v H' s x => q v H' s (x.fm h1 h2)
theorem SE.ov (h : SE K W Δ te (.o fr) g) : SE K W Δ te (.v false fr) g := fun f ρ σ H Q r q =>
  h f ρ σ H Q r <| by
    cases e : g ρ with
    | bad => rw [e] at q; exact q
    | ex z => rw [e] at q; exact q
    | ok d =>
      rw [e] at q
      intro p H' vs ds ed s hp gp x
      subst ed
      exact q _ H' s (.lst hp ⟨(nomatch ·), fun _ => gp⟩ (x.weak fun _ y => y.weak (fun _ => rfl) id))
theorem SE.nv (h : SE K W Δ te (.new .l fr) g) : SE K W Δ te (.v true fr) g := fun f ρ σ H Q r q =>
  h f ρ σ H Q r <| by
    cases e : g ρ with
    | bad => rw [e] at q; exact q
    | ex z => rw [e] at q; exact q
    | ok d =>
      rw [e] at q
      intro p H' np s x
      obtain ⟨vs, ds, ed, hp, x⟩ := x
      subst ed
      obtain ⟨f1, f2, f3⟩ := r.fresh np
      exact q _ H' s (.lst hp ⟨fun _ => ⟨f1, f2⟩, fun _ => r.g0 p f3⟩ (x.weak fun _ y => y.1))
theorem SE.no (h : SE K W Δ te (.new .l fr) g) : SE K W Δ te (.o fr) g := fun f ρ σ H Q r q =>
  h f ρ σ H Q r <| by
    cases e : g ρ with
    | bad => rw [e] at q; exact q
    | ex z => rw [e] at q; exact q
    | ok d =>
      rw [e] at q
      intro p H' np s x
      obtain ⟨vs, ds, ed, hp, x⟩ := x
      subst ed
      obtain ⟨f1, f2, f3⟩ := r.fresh np
      exact q _ H' vs ds rfl s hp (r.g0 p f3) (x.weak fun _ y => y.1)
theorem pureIn_list {ds : List Dt} : pureIn (.list ds) = pureA ds := rfl
theorem SE.purN (h : SE K W Δ te (.new .l fr) g) : SE K W Δ te (.new .l true) (gPurN g) := fun f ρ σ H Q r q =>
  h f ρ σ H Q r <| by
    unfold gPurN at q
    cases e : g ρ with
    | bad => rw [e] at q; exact q
    | ex z => rw [e] at q; exact q
    | ok d =>
      rw [e, bnd_ok] at q
      intro p H' np s x
      obtain ⟨vs, ds, ed, hp, x⟩ := x
      subst ed
      rw [pureIn_list] at q
      by_cases pp : pureA ds = true
      · rw [if_pos pp] at q
        exact q p H' np s ⟨vs, ds, rfl, hp, x.pure pp⟩
      · rw [if_neg pp] at q
        exact q.elim
def OSc (K : PySem.W.Frag) (r : R2) (h : Dt → Dt → O Dt) : Prop := ∀ H x y d e Q, Rp K (fun _ => True) H x d → Rp K (fun _ => True) H y e →
  (match h d e with | .ok z => scl z = true ∧ (∀ v, Rp K (fun _ => False) (fun _ => none) v z → Q v H) | _ => False) → r x y H Q
def USc (K : PySem.W.Frag) (r : V → Hp → VK → Prop) (h : Dt → O Dt) : Prop := ∀ H x d Q, Rp K (fun _ => True) H x d →
  (match h d with | .ok z => scl z = true ∧ (∀ v, Rp K (fun _ => False) (fun _ => none) v z → Q v H) | _ => False) → r x H Q
def CSc (K : PySem.W.Frag) (r : List V → Hp → VK → Prop) (h : List Dt → O Dt) : Prop := ∀ H xs ds Q, RpA K (fun _ => True) H xs ds →
  (match h ds with | .ok z => scl z = true ∧ (∀ v, Rp K (fun _ => False) (fun _ => none) v z → Q v H) | _ => False) → r xs H Q
def Scl2 (h : Dt → Dt → O Dt) : Prop := ∀ d e, (∃ z, h d e = .ok z ∧ scl z = true) ∨ h d e = .bad
def Scl1 (h : Dt → O Dt) : Prop := ∀ d, (∃ z, h d = .ok z ∧ scl z = true) ∨ h d = .bad
def SclA (h : List Dt → O Dt) : Prop := ∀ d, (∃ z, h d = .ok z ∧ scl z = true) ∨ h d = .bad
theorem se_op {r : R2} {h : Dt → Dt → O Dt} (hs : Scl2 h) (ho : OSc K r h) (ha : SE K W Δ ta (.v av fr) ga) (hb : SE K W Δ tb (.v av' fr') gb) : SE K W Δ (tOp r ta tb) (.v true true) (gOp h ga gb) := fun f ρ σ H Q R q => by
  refine ha f ρ σ H _ R ?_
  unfold gOp at q
  cases e1 : ga ρ with
  | bad => rw [e1] at q; exact q
  | ex z => rw [e1] at q; exact q
  | ok d =>
    rw [e1, bnd_ok] at q
    intro v H1 s1 x1
    refine hb f ρ σ H1 _ (R.mono s1) ?_
    cases e2 : gb ρ with
    | bad => rw [e2] at q; exact q
    | ex z => rw [e2] at q; exact fun H' s => q H' (s1.trans s)
    | ok d2 =>
      rw [e2, bnd_ok] at q
      intro v2 H2 s2 x2
      refine ho H2 v v2 d d2 Q ((x1.same s2).weak fun _ _ => trivial) (x2.weak fun _ _ => trivial) ?_
      rcases hs d d2 with ⟨z, ez, sz⟩ | ez
      · rw [ez] at q ⊢
        exact ⟨sz, fun w x => q w H2 (s1.trans s2) (x.scl_any sz)⟩
      · rw [ez] at q
        exact q.elim
theorem se_un {r : V → Hp → VK → Prop} {h : Dt → O Dt} (hs : Scl1 h) (ho : USc K r h) (ha : SE K W Δ ta (.v av fr) ga) : SE K W Δ (tUn r ta) (.v true true) (gUn h ga) := fun f ρ σ H Q R q => by
  refine ha f ρ σ H _ R ?_
  unfold gUn at q
  cases e1 : ga ρ with
  | bad => rw [e1] at q; exact q
  | ex z => rw [e1] at q; exact q
  | ok d =>
    rw [e1, bnd_ok] at q
    intro v H1 s1 x1
    refine ho H1 v d Q (x1.weak fun _ _ => trivial) ?_
    rcases hs d with ⟨z, ez, sz⟩ | ez
    · rw [ez] at q ⊢
      exact ⟨sz, fun w x => q w H1 s1 (x.scl_any sz)⟩
    · rw [ez] at q
      exact q.elim
theorem se_cb {r : List V → Hp → VK → Prop} {h : List Dt → O Dt} (hs : SclA h) (ho : CSc K r h) (ha : SA K W Δ tA av fr gA) : SE K W Δ (tCB r tA) (.v true true) (gCB h gA) := fun f ρ σ H Q R q => by
  refine ha f ρ σ H _ R ?_
  unfold gCB at q
  cases e1 : gA ρ with
  | bad => rw [e1] at q; exact q
  | ex z => rw [e1] at q; exact q
  | ok d =>
    rw [e1, bnd_ok] at q
    intro v H1 s1 x1
    refine ho H1 v d Q (x1.weak fun _ _ => trivial) ?_
    rcases hs d with ⟨z, ez, sz⟩ | ez
    · rw [ez] at q ⊢
      exact ⟨sz, fun w x => q w H1 s1 (x.scl_any sz)⟩
    · rw [ez] at q
      exact q.elim
theorem sa_nil : SA K W Δ tNil true true gNil := fun f ρ σ H Q R q => q [] H (Same.refl H) .nil
theorem sa_cons (ha : SE K W Δ ta (.v av fr) ga) (hr : SA K W Δ tA av' fr' gA) : SA K W Δ (tCons ta tA) (av && av') (fr && fr') (gCons ga gA) := fun f ρ σ H Q R q => by
  refine ha f ρ σ H _ R ?_
  unfold gCons at q
  cases e1 : ga ρ with
  | bad => rw [e1] at q; exact q
  | ex z => rw [e1] at q; exact q
  | ok d =>
    rw [e1, bnd_ok] at q
    intro v H1 s1 x1
    refine hr f ρ σ H1 _ (R.mono s1) ?_
    cases e2 : gA ρ with
    | bad => rw [e2] at q; exact q
    | ex z => rw [e2] at q; exact fun H' s => q H' (s1.trans s)
    | ok ds =>
      rw [e2, bnd_ok] at q
      intro vs H2 s2 x2
      exact q (v :: vs) H2 (s1.trans s2) (.cons ((x1.same s2).fm (fun h => (Bool.and_eq_true_iff.mp h).1) fun h => (Bool.and_eq_true_iff.mp h).1)
        (x2.weak fun _ y => y.weak (fun h => (Bool.and_eq_true_iff.mp h).2) fun h => (Bool.and_eq_true_iff.mp h).2))
theorem SA.wk (h : SA K W Δ tA av fr gA) (h1 : av' = true → av = true := by decide) (h2 : fr' = true → fr = true := by decide) : SA K W Δ tA av' fr' gA := fun f ρ σ H Q R q =>
  h f ρ σ H Q R <| by
    cases e : gA ρ with
    | bad => rw [e] at q; exact q
    | ex z => rw [e] at q; exact q
    | ok d => rw [e] at q; exact fun v H' s x => q v H' s (x.weak fun _ y => y.weak h1 h2)
theorem sz_le {n : Nat} (h : n ≤ 100000) : n ≤ sizeLine := Nat.le_trans h (by decide)
theorem same_upd {H : Hp} {p : Addr} {o : HO} (h : H p = none) : Same H (upd H p o) := fun b x e => by
  rw [upd_ne (ne_of_none e h)]
  exact e
theorem se_tup (ha : SA K W Δ tA av fr gA) : SE K W Δ (tTup tA) (.v av fr) (gTup gA) := fun f ρ σ H Q R q => by
  refine ha f ρ σ H _ R ?_
  unfold gTup at q
  cases e1 : gA ρ with
  | bad => rw [e1] at q; exact q
  | ex z => rw [e1] at q; exact q
  | ok ds =>
    rw [e1, bnd_ok] at q
    intro vs H1 s1 x1
    by_cases l : ds.length ≤ 100000
    · rw [if_pos l] at q
      refine ⟨by rw [x1.length]; exact sz_le l, fun p np => ?_⟩
      exact q _ _ (s1.trans (same_upd np)) (.tup (.inl (.inl upd_same)) (x1.same (same_upd np)))
    · rw [if_neg l] at q
      exact q.elim
theorem se_lst (ha : SA K W Δ tA true fr gA) : SE K W Δ (tLst tA) (.new .l fr) (gLst gA) := fun f ρ σ H Q R q => by
  refine ha f ρ σ H _ R ?_
  unfold gLst at q
  cases e1 : gA ρ with
  | bad => rw [e1] at q; exact q
  | ex z => rw [e1] at q; exact q
  | ok ds =>
    rw [e1, bnd_ok] at q
    intro vs H1 s1 x1
    by_cases l : ds.length ≤ 100000
    · rw [if_pos l] at q
      refine ⟨by rw [x1.length]; exact sz_le l, fun p np => ?_⟩
      refine q p _ (s1.free np) (s1.trans (same_upd np)) ⟨vs, ds, rfl, upd_same, x1.mono (same_upd np) fun a y z => ⟨y, fun e => z (e ▸ np)⟩⟩
    · rw [if_neg l] at q
      exact q.elim
theorem st_test (ha : SE K W Δ te (.v av fr) g) : ST K W Δ (tTest te) (gTest g) := fun f ρ σ H Q R q => by
  refine ha f ρ σ H _ R ?_
  unfold gTest at q
  cases e1 : g ρ with
  | bad => rw [e1] at q; exact q
  | ex z => rw [e1] at q; exact q
  | ok d =>
    rw [e1, bnd_ok] at q
    intro v H1 s1 x1
    cases x1 with
    | bl b => exact ⟨b, rfl, q H1 s1⟩
    | non => exact q.elim
    | int => exact q.elim
    | str => exact q.elim
    | lst => exact q.elim
    | fz => exact q.elim
    | tup => exact q.elim
    | dic => exact q.elim
    | exn => exact q.elim
theorem st_B (ha : SE K W Δ te (.v av fr) g) : ST K W Δ (tB te) (gTest g) := st_test ha
theorem st_not (h : ST K W Δ tt gt) : ST K W Δ (tNot tt) (gNot gt) := fun f ρ σ H Q R q => by
  refine h f ρ σ H _ R ?_
  unfold gNot at q
  cases e1 : gt ρ with
  | bad => rw [e1] at q; exact q
  | ex z => rw [e1] at q; exact q
  | ok d => rw [e1, bnd_ok] at q; exact q
theorem st_and (h : ST K W Δ tt gt) (h2 : ST K W Δ tu gu) : ST K W Δ (tAnd tt tu) (gAnd gt gu) := fun f ρ σ H Q R q => by
  refine h f ρ σ H _ R ?_
  unfold gAnd at q
  cases e1 : gt ρ with
  | bad => rw [e1] at q; exact q
  | ex z => rw [e1] at q; exact q
  | ok b =>
    rw [e1, bnd_ok] at q
    intro H1 s1
    cases b with
    | false => exact q H1 s1
    | true =>
      refine h2 f ρ σ H1 _ (R.mono s1) ?_
      have q : PoT W σ H (gu ρ) Q := q
      cases e2 : gu ρ with
      | bad => rw [e2] at q; exact q
      | ex z => rw [e2] at q; exact fun H' s => q H' (s1.trans s)
      | ok b => rw [e2] at q; exact fun H' s => q H' (s1.trans s)
theorem st_or (h : ST K W Δ tt gt) (h2 : ST K W Δ tu gu) : ST K W Δ (tOr tt tu) (gOr gt gu) := fun f ρ σ H Q R q => by
  refine h f ρ σ H _ R ?_
  unfold gOr at q
  cases e1 : gt ρ with
  | bad => rw [e1] at q; exact q
  | ex z => rw [e1] at q; exact q
  | ok b =>
    rw [e1, bnd_ok] at q
    intro H1 s1
    cases b with
    | true => exact q H1 s1
    | false =>
      refine h2 f ρ σ H1 _ (R.mono s1) ?_
      have q : PoT W σ H (gu ρ) Q := q
      cases e2 : gu ρ with
      | bad => rw [e2] at q; exact q
      | ex z => rw [e2] at q; exact fun H' s => q H' (s1.trans s)
      | ok b => rw [e2] at q; exact fun H' s => q H' (s1.trans s)
theorem PoE.mono {f : Fm} {σ : L2.St} {H H' : Hp} {o : O Dt} {Q : VK} (s : Same H H') (h : PoE K W f Δ σ H k o Q) : PoE K W f Δ σ H' k o Q := by
  cases o with
  | bad => exact h
  | ex z => exact fun H2 s2 => h H2 (s.trans s2)
  | ok d =>
    cases k with
    | v av fr => exact fun v H2 s2 => h v H2 (s.trans s2)
    | o fr => exact fun p H2 vs ds e s2 => h p H2 vs ds e (s.trans s2)
    | new c fr => exact fun p H2 np s2 => h p H2 (s.free np) (s.trans s2)
theorem se_if (h : ST K W Δ tt gt) (ha : SE K W Δ ta k ga) (hb : SE K W Δ tb k gb) : SE K W Δ (tIf tt ta tb) k (gIf gt ga gb) := fun f ρ σ H Q R q => by
  refine h f ρ σ H _ R ?_
  unfold gIf at q
  cases e1 : gt ρ with
  | bad => rw [e1] at q; exact q
  | ex z => rw [e1] at q; exact q
  | ok b =>
    rw [e1, bnd_ok] at q
    intro H1 s1
    cases b with
    | true => exact ha f ρ σ H1 Q (R.mono s1) (PoE.mono s1 q)
    | false => exact hb f ρ σ H1 Q (R.mono s1) (PoE.mono s1 q)
theorem se_andV (ha : SE K W Δ ta (.v av fr) ga) (hb : SE K W Δ tb (.v true true) gb) : SE K W Δ (tAndV ta tb) (.v true true) (gAndV ga gb) := fun f ρ σ H Q R q => by
  refine ha f ρ σ H _ R ?_
  unfold gAndV at q
  cases e1 : ga ρ with
  | bad => rw [e1] at q; exact q
  | ex z => rw [e1] at q; exact q
  | ok d =>
    rw [e1, bnd_ok] at q
    intro v H1 s1 x1
    cases x1 with
    | bl b =>
      refine ⟨b, rfl, ?_⟩
      cases b with
      | true => exact hb f ρ σ H1 Q (R.mono s1) (PoE.mono s1 q)
      | false => exact q _ H1 s1 (.bl false)
    | non => exact q.elim
    | int => exact q.elim
    | str => exact q.elim
    | lst => exact q.elim
    | fz => exact q.elim
    | tup => exact q.elim
    | dic => exact q.elim
    | exn => exact q.elim
theorem se_notV (ha : SE K W Δ ta (.v av fr) ga) : SE K W Δ (tNotV ta) (.v true true) (gNotV ga) := fun f ρ σ H Q R q => by
  refine ha f ρ σ H _ R ?_
  unfold gNotV at q
  cases e1 : ga ρ with
  | bad => rw [e1] at q; exact q
  | ex z => rw [e1] at q; exact q
  | ok d =>
    rw [e1, bnd_ok] at q
    intro v H1 s1 x1
    cases x1 with
    | bl b => exact ⟨b, rfl, q _ H1 s1 (.bl _)⟩
    | non => exact q.elim
    | int => exact q.elim
    | str => exact q.elim
    | lst => exact q.elim
    | fz => exact q.elim
    | tup => exact q.elim
    | dic => exact q.elim
    | exn => exact q.elim
end
end Sim
end T_SimB
section T_SimC
set_option Elab.async false
set_option linter.all false
set_option maxRecDepth 100000
namespace Sim
open PySem PySem.Spec L2
open PyProof.Rows hiding St
structure PD (X : Cx) (K : PySem.W.Frag) (W : Wt) (Δ : List Kd) (e : Expr) (te : TE) (k : Rk) (g : Gd) : Prop where
  pe : PE X e te
  hK : X.K = K
  se : SE K W Δ te k g
structure TD (X : Cx) (K : PySem.W.Frag) (W : Wt) (Δ : List Kd) (e : Expr) (tt : TT) (g : List Dt → O Bool) : Prop where
  pt : PT X e tt
  hK : X.K = K
  st : ST K W Δ tt g
structure WD (X : Cx) (K : PySem.W.Frag) (W : Wt) (Δ : List Kd) (e : Expr) (tt : TT) (g : List Dt → O Bool) : Prop where
  pw : PW X e tt
  hK : X.K = K
  st : ST K W Δ tt g
structure AD (X : Cx) (K : PySem.W.Frag) (W : Wt) (Δ : List Kd) (es : List Expr) (ta : TA) (av fr : Bool) (g : List Dt → O (List Dt)) : Prop where
  pa : PA X es ta
  hK : X.K = K
  sa : SA K W Δ ta av fr g
def hI0 (g : Int → Int → Int) : Dt → Dt → O Dt := fun d e => match d, e with
  | .int i, .int j => .ok (.int (g i j))
  | _, _ => .bad
def hI (C : Int → Int → Bool) (g : Int → Int → Int) : Dt → Dt → O Dt := fun d e => match d, e with
  | .int i, .int j => if C i j then .ok (.int (g i j)) else .bad
  | _, _ => .bad
def hB0 (p : Int → Int → Bool) : Dt → Dt → O Dt := fun d e => match d, e with
  | .int i, .int j => .ok (.bool (p i j))
  | _, _ => .bad
def hU (g : Int → Int) : Dt → O Dt := fun d => match d with
  | .int i => .ok (.int (g i))
  | _ => .bad
def hAdd := hI0 fun i j => i + j
def hSub := hI0 fun i j => i - j
def cMul (i j : Int) : Bool := decide (i.natAbs < 2 ^ 64) || decide (j.natAbs < 2 ^ 64)
def hMul := hI cMul fun i j => i * j
def cDiv (_ j : Int) : Bool := decide (0 < j) && decide (j.natAbs < 2 ^ 400)
def hDiv := hI cDiv fun i j => i / j
def cMod (_ j : Int) : Bool := decide (0 < j)
def hMod := hI cMod fun i j => i % j
def cPow (i j : Int) : Bool := decide (0 ≤ j) && decide (j ≤ 1000000) && decide (i.natAbs < 2 ^ 64)
def hPow := hI cPow fun i j => i ^ j.toNat
def cShr (_ j : Int) : Bool := decide (0 ≤ j)
def hShr := hI cShr fun i j => i / 2 ^ j.toNat
def hBand := hI0 fun i j => Builtin.bitAnd i j
def hLt := hB0 fun i j => decide (i < j)
def hLe := hB0 fun i j => decide (i ≤ j)
def hGt := hB0 fun i j => decide (j < i)
def hGe := hB0 fun i j => decide (j ≤ i)
def hEq : Dt → Dt → O Dt := fun d e => if SeqAt.shaped d && SeqAt.shaped e then .ok (.bool (PyData.eqv d e)) else .bad
def hNe : Dt → Dt → O Dt := fun d e => if SeqAt.shaped d && SeqAt.shaped e then .ok (.bool (!PyData.eqv d e)) else .bad
def hIs : Dt → Dt → O Dt := fun d e => match e with
  | .none => .ok (.bool (match d with | .none => true | _ => false))
  | _ => .bad
def hIsNot : Dt → Dt → O Dt := fun d e => match e with
  | .none => .ok (.bool (match d with | .none => false | _ => true))
  | _ => .bad
def hIn : Dt → Dt → O Dt := fun d e => match e with
  | .list ds => if SeqAt.shaped d && SeqAt.shaped e then .ok (.bool (ds.any fun z => PyData.eqv z d)) else .bad
  | .tuple ds => if SeqAt.shaped d && SeqAt.shaped e then .ok (.bool (ds.any fun z => PyData.eqv z d)) else .bad
  | _ => .bad
def hNotIn : Dt → Dt → O Dt := fun d e => match e with
  | .list ds => if SeqAt.shaped d && SeqAt.shaped e then .ok (.bool (!ds.any fun z => PyData.eqv z d)) else .bad
  | .tuple ds => if SeqAt.shaped d && SeqAt.shaped e then .ok (.bool (!ds.any fun z => PyData.eqv z d)) else .bad
  | _ => .bad
def hLen : List Dt → O Dt := fun ds => match ds with
  | [.list xs] => .ok (.int xs.length)
  | [.tuple xs] => .ok (.int xs.length)
  | [.str x] => if x.length ≤ 100000 then .ok (.int x.length) else .bad
  | _ => .bad
def hMin2 : List Dt → O Dt := fun ds => match ds with
  | [.int i, .int j] => .ok (.int (if j < i then j else i))
  | _ => .bad
def hMax2 : List Dt → O Dt := fun ds => match ds with
  | [.int i, .int j] => .ok (.int (if j > i then j else i))
  | _ => .bad
def hMin3 : List Dt → O Dt := fun ds => match ds with
  | [.int i, .int j, .int k] => .ok (.int (if j < i then (if k < j then k else j) else (if k < i then k else i)))
  | _ => .bad
def hBits : Dt → O Dt := fun d => match d with
  | .int i => .ok (.int (Builtin.Int.intBits i : Nat))
  | _ => .bad
def hInt1 : List Dt → O Dt := fun ds => match ds with
  | [.int i] => .ok (.int i)
  | [.bool k] => .ok (.int (if k then 1 else 0))
  | _ => .bad
def allB : List Dt → Option (List Bool)
  | [] => some []
  | .bool b :: r => (allB r).map (b :: ·)
  | _ => none
def allI : List Dt → Option (List Int)
  | [] => some []
  | .int b :: r => (allI r).map (b :: ·)
  | _ => none
def hAll : List Dt → O Dt := fun ds => match ds with
  | [.list xs] => match allB xs with
    | some bs => .ok (.bool (bs.all id))
    | none => .bad
  | _ => .bad
def hAny : List Dt → O Dt := fun ds => match ds with
  | [.list xs] => match allB xs with
    | some bs => .ok (.bool (bs.any id))
    | none => .bad
  | _ => .bad
section
variable {K : PySem.W.Frag}
theorem scl_I0 {g} : Scl2 (hI0 g) := fun d e => by cases d <;> cases e <;> first | exact .inr rfl | exact .inl ⟨_, rfl, rfl⟩
theorem scl_B0 {g} : Scl2 (hB0 g) := fun d e => by cases d <;> cases e <;> first | exact .inr rfl | exact .inl ⟨_, rfl, rfl⟩
theorem scl_I {C g} : Scl2 (hI C g) := fun d e => by
  cases d <;> cases e <;> first | exact .inr rfl | skip
  unfold hI
  simp only
  split
  · exact .inl ⟨_, rfl, rfl⟩
  · exact .inr rfl
theorem osc_I0 {g : Int → Int → Int} : OSc K (rI0 fun i j => .int (g i j)) (hI0 g) := fun H x y d e Q hx hy h => by
  cases hx <;> first | exact h.elim | skip
  cases hy <;> first | exact h.elim | skip
  exact ⟨_, _, rfl, rfl, h.2 _ (.int _)⟩
theorem osc_B0 {g : Int → Int → Bool} : OSc K (rI0 fun i j => .bl (g i j)) (hB0 g) := fun H x y d e Q hx hy h => by
  cases hx <;> first | exact h.elim | skip
  cases hy <;> first | exact h.elim | skip
  exact ⟨_, _, rfl, rfl, h.2 _ (.bl _)⟩
theorem osc_I {C : Int → Int → Bool} {C' : Int → Int → Prop} {g : Int → Int → Int} (hc : ∀ i j, C i j = true → C' i j) : OSc K (rI C' fun i j => .int (g i j)) (hI C g) := fun H x y d e Q hx hy h => by
  cases hx <;> first | exact h.elim | skip
  cases hy <;> first | exact h.elim | skip
  rename_i i j
  unfold hI at h
  simp only at h
  by_cases c : C i j = true
  · rw [if_pos c] at h
    exact ⟨_, _, rfl, rfl, hc _ _ c, h.2 _ (.int _)⟩
  · rw [if_neg c] at h
    exact h.elim
theorem usc_U {g : Int → Int} : USc K (rU fun i => .int (g i)) (hU g) := fun H x d Q hx h => by
  cases hx <;> first | exact h.elim | skip
  exact ⟨_, rfl, h.2 _ (.int _)⟩
theorem scl_U {g} : Scl1 (hU g) := fun d => by cases d <;> first | exact .inr rfl | exact .inl ⟨_, rfl, rfl⟩
theorem cMul_ok {i j : Int} (h : cMul i j = true) : CMul i j := by
  unfold cMul at h
  rw [Bool.or_eq_true, decide_eq_true_eq, decide_eq_true_eq] at h
  rcases h with h | h
  · exact .inl (by omega)
  · exact .inr (by omega)
theorem cDiv_ok {i j : Int} (h : cDiv i j = true) : CDivW i j := by
  unfold cDiv at h
  rw [Bool.and_eq_true, decide_eq_true_eq, decide_eq_true_eq] at h
  exact wide_div h.1 h.2 (by decide) (by decide)
theorem cMod_ok {i j : Int} (h : cMod i j = true) : 0 < j := by
  unfold cMod at h
  rw [decide_eq_true_eq] at h
  exact h
theorem cPow_ok {i j : Int} (h : cPow i j = true) : CPow i j := by
  unfold cPow at h
  rw [Bool.and_eq_true, Bool.and_eq_true, decide_eq_true_eq, decide_eq_true_eq, decide_eq_true_eq] at h
  exact ⟨h.1.1, h.1.2, h.2⟩
theorem scl_eq : Scl2 hEq := fun d e => by
  unfold hEq
  split
  · exact .inl ⟨_, rfl, rfl⟩
  · exact .inr rfl
theorem scl_ne : Scl2 hNe := fun d e => by
  unfold hNe
  split
  · exact .inl ⟨_, rfl, rfl⟩
  · exact .inr rfl
theorem osc_eq : OSc K (rEqD K) hEq := fun H x y d e Q hx hy h => by
  unfold hEq at h
  by_cases c : (SeqAt.shaped d && SeqAt.shaped e) = true
  · rw [if_pos c] at h
    rw [Bool.and_eq_true] at c
    exact ⟨d, e, hx.dp (shaped_lay c.1), hy.dp (shaped_lay c.2), c.1, c.2, h.2 _ (.bl _)⟩
  · rw [if_neg c] at h
    exact h.elim
theorem osc_ne : OSc K (rNeD K) hNe := fun H x y d e Q hx hy h => by
  unfold hNe at h
  by_cases c : (SeqAt.shaped d && SeqAt.shaped e) = true
  · rw [if_pos c] at h
    rw [Bool.and_eq_true] at c
    exact ⟨d, e, hx.dp (shaped_lay c.1), hy.dp (shaped_lay c.2), c.1, c.2, h.2 _ (.bl _)⟩
  · rw [if_neg c] at h
    exact h.elim
theorem scl_is : Scl2 hIs := fun d e => by cases e <;> first | exact .inr rfl | exact .inl ⟨_, rfl, rfl⟩
theorem scl_isNot : Scl2 hIsNot := fun d e => by cases e <;> first | exact .inr rfl | exact .inl ⟨_, rfl, rfl⟩
theorem osc_is : OSc K (fun x y H Q => y = .non ∧ Q (.bl (decide (x = .non))) H) hIs := fun H x y d e Q hx hy h => by
  cases hy <;> first | exact h.elim | skip
  refine ⟨rfl, h.2 _ ?_⟩
  cases hx <;> exact .bl _
theorem osc_isNot : OSc K (fun x y H Q => y = .non ∧ Q (.bl (!decide (x = .non))) H) hIsNot := fun H x y d e Q hx hy h => by
  cases hy <;> first | exact h.elim | skip
  refine ⟨rfl, h.2 _ ?_⟩
  cases hx <;> exact .bl _
def rInDT (K : PySem.W.Frag) (neg : Bool) : R2 := fun x y H Q => ∃ d e ds, Dp K H x d ∧ Dp K H y e ∧ (e = .list ds ∨ e = .tuple ds) ∧ SeqAt.shaped d = true ∧ SeqAt.shaped e = true ∧ Q (.bl (if neg then !ds.any fun z => PyData.eqv z d else ds.any fun z => PyData.eqv z d)) H
theorem room_in_any {A : Around} {d e : PyData} {ds : List PyData} (sd : SeqAt.shaped d = true) (hu : A.units + 65 < cLine) : A.units + 1 + min (PyData.depthAll ds) d.depth < cLine := by
  have h1 := SeqAt.depth_of_shaped sd
  have h2 : min (PyData.depthAll ds) d.depth ≤ d.depth := Nat.min_le_right _ _
  omega
theorem op_inDT {X : Cx} (hu : X.A.units + 65 < cLine) : OpR X (compareOp .In) (rInDT X.K false) := by
  intro pins s σ H x y v u Q I rx ry h
  obtain ⟨d, e, ds, hd, he, ee, sd, se, q⟩ := h
  obtain ⟨as, r1⟩ := Dp.reads I d x v hd rx
  obtain ⟨bs, r2⟩ := Dp.reads I e y u he ry
  rcases ee with rfl | rfl
  · exact SeqAt.in_list_reads r2 r1 (SeqAt.canLay_of_shaped se) (SeqAt.canLay_of_shaped sd) (room_in_any (e := d) sd hu) ⟨.bl _, H, I, rfl, q⟩
  · exact SeqAt.in_tuple_reads r2 r1 (SeqAt.canLay_of_shaped se) (SeqAt.canLay_of_shaped sd) (room_in_any (e := d) sd hu) ⟨.bl _, H, I, rfl, q⟩
theorem op_notInDT {X : Cx} (hu : X.A.units + 65 < cLine) : OpR X (compareOp .NotIn) (rInDT X.K true) := by
  intro pins s σ H x y v u Q I rx ry h
  obtain ⟨d, e, ds, hd, he, ee, sd, se, q⟩ := h
  obtain ⟨as, r1⟩ := Dp.reads I d x v hd rx
  obtain ⟨bs, r2⟩ := Dp.reads I e y u he ry
  rcases ee with rfl | rfl
  · exact SeqAt.notIn_list_reads r2 r1 (SeqAt.canLay_of_shaped se) (SeqAt.canLay_of_shaped sd) (room_in_any (e := d) sd hu) ⟨.bl _, H, I, rfl, q⟩
  · exact SeqAt.notIn_tuple_reads r2 r1 (SeqAt.canLay_of_shaped se) (SeqAt.canLay_of_shaped sd) (room_in_any (e := d) sd hu) ⟨.bl _, H, I, rfl, q⟩
theorem scl_in : Scl2 hIn := fun d e => by
  unfold hIn
  cases e <;> first | exact .inr rfl | (simp only; split <;> first | exact .inl ⟨_, rfl, rfl⟩ | exact .inr rfl)
theorem scl_notIn : Scl2 hNotIn := fun d e => by
  unfold hNotIn
  cases e <;> first | exact .inr rfl | (simp only; split <;> first | exact .inl ⟨_, rfl, rfl⟩ | exact .inr rfl)
theorem osc_in : OSc K (rInDT K false) hIn := fun H x y d e Q hx hy h => by
  unfold hIn at h
  cases e <;> first | exact h.elim | skip
  all_goals rename_i ds
  · simp only at h
    generalize he : (PyData.list ds : PyData) = e at h hy
    by_cases c : (SeqAt.shaped d && SeqAt.shaped e) = true
    · rw [if_pos c] at h
      rw [Bool.and_eq_true] at c
      exact ⟨d, e, ds, hx.dp (shaped_lay c.1), hy.dp (shaped_lay c.2), .inl he.symm, c.1, c.2, h.2 _ (.bl _)⟩
    · rw [if_neg c] at h
      exact h.elim
  · simp only at h
    generalize he : (PyData.tuple ds : PyData) = e at h hy
    by_cases c : (SeqAt.shaped d && SeqAt.shaped e) = true
    · rw [if_pos c] at h
      rw [Bool.and_eq_true] at c
      exact ⟨d, e, ds, hx.dp (shaped_lay c.1), hy.dp (shaped_lay c.2), .inr he.symm, c.1, c.2, h.2 _ (.bl _)⟩
    · rw [if_neg c] at h
      exact h.elim
theorem osc_notIn : OSc K (rInDT K true) hNotIn := fun H x y d e Q hx hy h => by
  unfold hNotIn at h
  cases e <;> first | exact h.elim | skip
  all_goals rename_i ds
  · simp only at h
    generalize he : (PyData.list ds : PyData) = e at h hy
    by_cases c : (SeqAt.shaped d && SeqAt.shaped e) = true
    · rw [if_pos c] at h
      rw [Bool.and_eq_true] at c
      exact ⟨d, e, ds, hx.dp (shaped_lay c.1), hy.dp (shaped_lay c.2), .inl he.symm, c.1, c.2, h.2 _ (.bl _)⟩
    · rw [if_neg c] at h
      exact h.elim
  · simp only at h
    generalize he : (PyData.tuple ds : PyData) = e at h hy
    by_cases c : (SeqAt.shaped d && SeqAt.shaped e) = true
    · rw [if_pos c] at h
      rw [Bool.and_eq_true] at c
      exact ⟨d, e, ds, hx.dp (shaped_lay c.1), hy.dp (shaped_lay c.2), .inr he.symm, c.1, c.2, h.2 _ (.bl _)⟩
    · rw [if_neg c] at h
      exact h.elim
theorem Rp.lenV {F : Addr → Prop} {H : Hp} {v : V} {xs : List Dt} (h : Rp K F H v (.list xs)) : LenV K v H xs.length := by
  cases h with
  | lst h _ r => exact .inl ⟨_, .inl (.inl h), by first | exact r.length | exact r.length.symm⟩
theorem Rp.lenVt {F : Addr → Prop} {H : Hp} {v : V} {xs : List Dt} (h : Rp K F H v (.tuple xs)) : LenV K v H xs.length := by
  cases h with
  | tup h r => exact .inr ⟨_, h, by first | exact r.length | exact r.length.symm⟩
theorem csc_len : CSc K (fun xs H Q => ∃ x n, xs = [x] ∧ LenV K x H n ∧ Q (.int n) H) hLen := fun H xs ds Q hx h => by
  unfold hLen at h
  split at h
  · rename_i e
    split at e
    · cases hx with
      | cons h1 h2 =>
        cases h2
        cases e
        exact ⟨_, _, rfl, h1.lenV, h.2 _ (.int _)⟩
    · cases hx with
      | cons h1 h2 =>
        cases h2
        cases e
        exact ⟨_, _, rfl, h1.lenVt, h.2 _ (.int _)⟩
    · split at e
      · rename_i c
        cases e
        cases hx with
        | cons h1 h2 =>
          cases h2
          cases h1
          exact ⟨_, _, rfl, ⟨sz_le c, rfl⟩, h.2 _ (.int _)⟩
      · cases e
    · cases e
  · exact h.elim
theorem scl_len : SclA hLen := fun ds => by
  unfold hLen
  split
  · exact .inl ⟨_, rfl, rfl⟩
  · exact .inl ⟨_, rfl, rfl⟩
  · split
    · exact .inl ⟨_, rfl, rfl⟩
    · exact .inr rfl
  · exact .inr rfl
theorem rpInt {F : Addr → Prop} {H : Hp} {v : V} {i : Int} (h : Rp K F H v (.int i)) : v = .int i := by cases h; rfl
theorem rpBl {F : Addr → Prop} {H : Hp} {v : V} {i : Bool} (h : Rp K F H v (.bool i)) : v = .bl i := by cases h; rfl
theorem csc_min2 : CSc K (fun xs H Q => ∃ i j, xs = [.int i, .int j] ∧ Q (.int (if j < i then j else i)) H) hMin2 := fun H xs ds Q hx h => by
  unfold hMin2 at h
  split at h
  · rename_i e
    split at e
    · cases hx with
      | cons h1 h2 =>
        cases h2 with
        | cons h2 h3 =>
          cases h3
          cases e
          rw [rpInt h1, rpInt h2]
          exact ⟨_, _, rfl, h.2 _ (.int _)⟩
    · cases e
  · exact h.elim
theorem scl_min2 : SclA hMin2 := fun ds => by
  unfold hMin2
  split
  · exact .inl ⟨_, rfl, rfl⟩
  · exact .inr rfl
theorem csc_max2 : CSc K (fun xs H Q => ∃ i j, xs = [.int i, .int j] ∧ Q (.int (if j > i then j else i)) H) hMax2 := fun H xs ds Q hx h => by
  unfold hMax2 at h
  split at h
  · rename_i e
    split at e
    · cases hx with
      | cons h1 h2 =>
        cases h2 with
        | cons h2 h3 =>
          cases h3
          cases e
          rw [rpInt h1, rpInt h2]
          exact ⟨_, _, rfl, h.2 _ (.int _)⟩
    · cases e
  · exact h.elim
theorem scl_max2 : SclA hMax2 := fun ds => by
  unfold hMax2
  split
  · exact .inl ⟨_, rfl, rfl⟩
  · exact .inr rfl
def rMin3 : List V → Hp → VK → Prop := fun xs H Q => ∃ i j k, xs = [.int i, .int j, .int k] ∧ Q (.int (if j < i then (if k < j then k else j) else (if k < i then k else i))) H
theorem call_min3 {X : Cx} (hc : X.calm = true) : CallR X (.builtin "min") rMin3 := by
  intro pins s σ H xs us Q I r h
  obtain ⟨i, j, k, rfl, q⟩ := h
  cases r with
  | cons r1 r =>
    cases r with
    | cons r2 r =>
      cases r with
      | cons r3 r =>
        cases r
        obtain ⟨t1, rfl⟩ := r1
        obtain ⟨t2, rfl⟩ := r2
        obtain ⟨t3, rfl⟩ := r3
        refine min_three_ints (I.ok.hd hc) fun h' tk k => ⟨_, H, I.kept k, ?_, q⟩
        split
        · split <;> exact ⟨_, rfl⟩
        · split <;> exact ⟨_, rfl⟩
theorem csc_min3 : CSc K rMin3 hMin3 := fun H xs ds Q hx h => by
  unfold hMin3 at h
  split at h
  · rename_i e
    split at e
    · cases hx with
      | cons h1 h2 =>
        cases h2 with
        | cons h2 h3 =>
          cases h3 with
          | cons h3 h4 =>
            cases h4
            cases e
            rw [rpInt h1, rpInt h2, rpInt h3]
            exact ⟨_, _, _, rfl, h.2 _ (.int _)⟩
    · cases e
  · exact h.elim
theorem scl_min3 : SclA hMin3 := fun ds => by
  unfold hMin3
  split
  · exact .inl ⟨_, rfl, rfl⟩
  · exact .inr rfl
theorem csc_int1 : CSc K (fun xs H Q => (∃ i, xs = [.int i] ∧ Q (.int i) H) ∨ ∃ k, xs = [.bl k] ∧ Q (.int (if k then 1 else 0)) H) hInt1 := fun H xs ds Q hx h => by
  unfold hInt1 at h
  split at h
  · rename_i e
    split at e
    · cases hx with
      | cons h1 h2 =>
        cases h2
        cases e
        rw [rpInt h1]
        exact .inl ⟨_, rfl, h.2 _ (.int _)⟩
    · cases hx with
      | cons h1 h2 =>
        cases h2
        cases e
        rw [rpBl h1]
        exact .inr ⟨_, rfl, h.2 _ (.int _)⟩
    · cases e
  · exact h.elim
theorem scl_int1 : SclA hInt1 := fun ds => by
  unfold hInt1
  split
  · exact .inl ⟨_, rfl, rfl⟩
  · exact .inl ⟨_, rfl, rfl⟩
  · exact .inr rfl
theorem rp_bools {F : Addr → Prop} {H : Hp} : ∀ {xs : List V} {ds : List Dt} {bs : List Bool}, RpA K F H xs ds → allB ds = some bs → xs = bs.map V.bl
  | _, _, _, .nil, e => by cases e; rfl
  | _, _, bs, .cons (d := d) h r, e => by
    cases h <;> first | (cases e; done) | skip
    rename_i b _ _
    unfold allB at e
    cases q : allB _ with
    | none => rw [q] at e; cases e
    | some cs =>
      rw [q] at e
      cases e
      rw [rp_bools r q]
      rfl
theorem Rp.sql {F : Addr → Prop} {H : Hp} {v : V} {ds : List Dt} (h : Rp K F H v (.list ds)) : ∃ a xs, v = .ref a ∧ SqL K H a xs ∧ RpA K F H xs ds := by
  cases h with
  | lst h _ r => exact ⟨_, _, rfl, .inl (.inl h), r⟩
theorem csc_all : CSc K (rAll K) hAll := fun H xs ds Q hx h => by
  unfold hAll at h
  split at h
  · rename_i e
    split at e
    · split at e
      · rename_i bs eb
        cases e
        cases hx with
        | cons h1 h2 =>
          cases h2
          obtain ⟨a, ys, rfl, hs, r⟩ := h1.sql
          rw [rp_bools r eb] at hs
          exact ⟨a, bs, rfl, hs, h.2 _ (.bl _)⟩
      · cases e
    · cases e
  · exact h.elim
theorem scl_all : SclA hAll := fun ds => by
  unfold hAll
  split
  · split
    · exact .inl ⟨_, rfl, rfl⟩
    · exact .inr rfl
  · exact .inr rfl
theorem scl_any : SclA hAny := fun ds => by
  unfold hAny
  split
  · split
    · exact .inl ⟨_, rfl, rfl⟩
    · exact .inr rfl
  · exact .inr rfl
theorem usc_bits : USc K (fun x H Q => ∃ i, x = .int i ∧ Q (.int (Builtin.Int.intBits i : Nat)) H) hBits := fun H x d Q hx h => by
  cases hx <;> first | exact h.elim | skip
  exact ⟨_, rfl, h.2 _ (.int _)⟩
theorem scl_bits : Scl1 hBits := fun d => by cases d <;> first | exact .inr rfl | exact .inl ⟨_, rfl, rfl⟩
end
section
variable {X : Cx} {K : PySem.W.Frag} {W : Wt} {Δ : List Kd} {a b c e : Expr} {es : List Expr} {ta tb tc te : TE} {tt tu : TT} {tA : TA} {ga gb gc g : Gd} {gt gu : List Dt → O Bool} {gA : List Dt → O (List Dt)} {k k1 k2 : Rk} {av fr av' fr' : Bool} {pos : Pos}
theorem x_var (i : Nat) {x : Str} (hk : Δ[i]? = some (.im fr) := by rfl) (hN : X.N[i]? = some x := by rfl) (hv : Vis X.env.scope x := by first | exact Or.inl rfl | exact Or.inr (Or.inl rfl) | exact Or.inr (Or.inr rfl)) (hd : (x == ("__debug__" : Str)) = false := by decide)
    (hcd : (x == ("__classdict__" : Str)) = false := by decide) (hK : X.K = K := by rfl) : PD X K W Δ (.Name x pos) (tVar i) (.v true fr) (gVar i) := ⟨pe_var hN hv hd hcd, hK, se_var hk⟩
theorem x_own (i : Nat) {x : Str} (hk : Δ[i]? = some (.own .l fr) := by rfl) (hN : X.N[i]? = some x := by rfl) (hv : Vis X.env.scope x := by first | exact Or.inl rfl | exact Or.inr (Or.inl rfl) | exact Or.inr (Or.inr rfl)) (hd : (x == ("__debug__" : Str)) = false := by decide)
    (hcd : (x == ("__classdict__" : Str)) = false := by decide) (hK : X.K = K := by rfl) : PD X K W Δ (.Name x pos) (tVar i) (.o fr) (gVar i) := ⟨pe_var hN hv hd hcd, hK, se_own hk⟩
theorem x_int {i : Int} {j} (hK : X.K = K := by rfl) : PD X K W Δ (.Constant (.int i) j pos) (tC (.int i)) (.v true true) (gC (.int i)) := ⟨pe_int, hK, se_int⟩
theorem x_bl {i : Bool} {j} (hK : X.K = K := by rfl) : PD X K W Δ (.Constant (.bool i) j pos) (tC (.bl i)) (.v true true) (gC (.bool i)) := ⟨pe_bl, hK, se_bl⟩
theorem x_non {j} (hK : X.K = K := by rfl) : PD X K W Δ (.Constant .none j pos) (tC .non) (.v true true) (gC .none) := ⟨pe_non, hK, se_non⟩
theorem x_str {x : Str} {j} (hK : X.K = K := by rfl) : PD X K W Δ (.Constant (.str x) j pos) (tC (.str x)) (.v true true) (gC (.str x)) := ⟨pe_str, hK, se_str⟩
theorem x_glob {x : Str} {v : V} {u : Value} {d : Dt} (hm : X.mg x = some u) (r : RelV v u) (hr : Rp K (fun _ => False) (fun _ => none) v d) (s : scl d = true := by rfl) (hg : Gl X x := by rfl) (hd : (x == ("__debug__" : Str)) = false := by decide) (hK : X.K = K := by rfl) :
    PD X K W Δ (.Name x pos) (tC v) (.v true true) (gC d) := ⟨pe_glob hg hm r hd, hK, se_c hr s⟩
theorem PD.wk (h : PD X K W Δ e te (.v av fr) g) (h1 : av' = true → av = true := by decide) (h2 : fr' = true → fr = true := by decide) : PD X K W Δ e te (.v av' fr') g := ⟨h.pe, h.hK, h.se.wk h1 h2⟩
theorem PD.ov (h : PD X K W Δ e te (.o fr) g) : PD X K W Δ e te (.v false fr) g := ⟨h.pe, h.hK, h.se.ov⟩
theorem PD.nv (h : PD X K W Δ e te (.new .l fr) g) : PD X K W Δ e te (.v true fr) g := ⟨h.pe, h.hK, h.se.nv⟩
theorem PD.no (h : PD X K W Δ e te (.new .l fr) g) : PD X K W Δ e te (.o fr) g := ⟨h.pe, h.hK, h.se.no⟩
theorem PD.purN (h : PD X K W Δ e te (.new .l fr) g) : PD X K W Δ e te (.new .l true) (gPurN g) := ⟨h.pe, h.hK, h.se.purN⟩
theorem x_add (ha : PD X K W Δ a ta (.v av fr) ga) (hb : PD X K W Δ b tb (.v av' fr') gb) : PD X K W Δ (.BinOp a .Add b pos) (tOp (rI0 fun i j => .int (i + j)) ta tb) (.v true true) (gOp hAdd ga gb) := ⟨pe_op op_add ha.pe hb.pe, ha.hK, se_op scl_I0 osc_I0 ha.se hb.se⟩
theorem x_sub (ha : PD X K W Δ a ta (.v av fr) ga) (hb : PD X K W Δ b tb (.v av' fr') gb) : PD X K W Δ (.BinOp a .Sub b pos) (tOp (rI0 fun i j => .int (i - j)) ta tb) (.v true true) (gOp hSub ga gb) := ⟨pe_op op_sub ha.pe hb.pe, ha.hK, se_op scl_I0 osc_I0 ha.se hb.se⟩
theorem x_mul (ha : PD X K W Δ a ta (.v av fr) ga) (hb : PD X K W Δ b tb (.v av' fr') gb) : PD X K W Δ (.BinOp a .Mult b pos) (tOp (rI CMul fun i j => .int (i * j)) ta tb) (.v true true) (gOp hMul ga gb) := ⟨pe_op op_mul ha.pe hb.pe, ha.hK, se_op scl_I (osc_I fun _ _ => cMul_ok) ha.se hb.se⟩
theorem x_div (ha : PD X K W Δ a ta (.v av fr) ga) (hb : PD X K W Δ b tb (.v av' fr') gb) : PD X K W Δ (.BinOp a .FloorDiv b pos) (tOp (rI CDivW fun i j => .int (i / j)) ta tb) (.v true true) (gOp hDiv ga gb) := ⟨pe_op op_fdivW ha.pe hb.pe, ha.hK, se_op scl_I (osc_I fun _ _ => cDiv_ok) ha.se hb.se⟩
theorem x_mod (ha : PD X K W Δ a ta (.v av fr) ga) (hb : PD X K W Δ b tb (.v av' fr') gb) : PD X K W Δ (.BinOp a .Mod b pos) (tOp (rI (fun _ j => 0 < j) fun i j => .int (i % j)) ta tb) (.v true true) (gOp hMod ga gb) := ⟨pe_op op_mod ha.pe hb.pe, ha.hK, se_op scl_I (osc_I fun _ _ => cMod_ok) ha.se hb.se⟩
theorem x_pow (ha : PD X K W Δ a ta (.v av fr) ga) (hb : PD X K W Δ b tb (.v av' fr') gb) : PD X K W Δ (.BinOp a .Pow b pos) (tOp (rI CPow fun i j => .int (i ^ j.toNat)) ta tb) (.v true true) (gOp hPow ga gb) := ⟨pe_op op_pow ha.pe hb.pe, ha.hK, se_op scl_I (osc_I fun _ _ => cPow_ok) ha.se hb.se⟩
theorem x_neg (ha : PD X K W Δ a ta (.v av fr) ga) : PD X K W Δ (.UnaryOp .USub a pos) (tUn (rU fun i => .int (-i)) ta) (.v true true) (gUn (hU fun i => -i) ga) := ⟨pe_un un_neg ha.pe, ha.hK, se_un scl_U usc_U ha.se⟩
theorem x_bits {apos : Pos} (ha : PD X K W Δ a ta (.v av fr) ga) (hbase : attributeBase a "bit_length" X.env (eval a X.env) = eval a X.env := by rfl) (hline : (apos.endLine == pos.line) = true := by rfl) :
    PD X K W Δ (.Call (.Attribute a "bit_length" apos) [] [] pos) (tBits ta) (.v true true) (gUn hBits ga) := ⟨pe_bits ha.pe hbase hline, ha.hK, se_un scl_bits usc_bits ha.se⟩
theorem c_val (h : PD X K W Δ e te (.v av fr) g) (he : ∀ whole, isTrue e X.env whole = (do let v ← whole; standAt e.pos; holding [v] (truthy v)) := by intro _; rfl) : TD X K W Δ e (tB te) (gTest g) := ⟨pt_val h.pe he, h.hK, st_B h.se⟩
theorem c_not (h : TD X K W Δ a tt gt) : TD X K W Δ (.UnaryOp .Not a pos) (tNot tt) (gNot gt) := ⟨pt_not h.pt, h.hK, st_not h.st⟩
theorem w_and1 (h : TD X K W Δ a tt gt) : WD X K W Δ (.BoolOp .And [a] pos) tt gt := ⟨pw_and1 h.pt, h.hK, h.st⟩
theorem w_or1 (h : TD X K W Δ a tt gt) : WD X K W Δ (.BoolOp .Or [a] pos) tt gt := ⟨pw_or1 h.pt, h.hK, h.st⟩
theorem w_and (h : TD X K W Δ a tt gt) (h2 : WD X K W Δ (.BoolOp .And (b :: es) pos) tu gu) : WD X K W Δ (.BoolOp .And (a :: b :: es) pos) (tAnd tt tu) (gAnd gt gu) := ⟨pw_and h.pt h2.pw, h.hK, st_and h.st h2.st⟩
theorem w_or (h : TD X K W Δ a tt gt) (h2 : WD X K W Δ (.BoolOp .Or (b :: es) pos) tu gu) : WD X K W Δ (.BoolOp .Or (a :: b :: es) pos) (tOr tt tu) (gOr gt gu) := ⟨pw_or h.pt h2.pw, h.hK, st_or h.st h2.st⟩
theorem c_w (h : WD X K W Δ e tt gt) : TD X K W Δ e tt gt := ⟨h.pw.pt, h.hK, h.st⟩
theorem x_ifE (h : TD X K W Δ c tt gt) (ha : PD X K W Δ a ta k ga) (hb : PD X K W Δ b tb k gb) : PD X K W Δ (.IfExp c a b pos) (tIf tt ta tb) k (gIf gt ga gb) := ⟨pe_ifExp h.pt ha.pe hb.pe, h.hK, se_if h.st ha.se hb.se⟩
theorem x_one {op} (h : PD X K W Δ a ta k ga) : PD X K W Δ (.BoolOp op [a] pos) ta k ga := ⟨pe_one h.pe, h.hK, h.se⟩
theorem x_and (ha : PD X K W Δ a ta (.v av fr) ga) (hb : PD X K W Δ (.BoolOp .And (b :: es) pos) tb (.v true true) gb) : PD X K W Δ (.BoolOp .And (a :: b :: es) pos) (tAndV ta tb) (.v true true) (gAndV ga gb) := ⟨pe_and ha.pe hb.pe, ha.hK, se_andV ha.se hb.se⟩
theorem x_not (ha : PD X K W Δ a ta (.v av fr) ga) : PD X K W Δ (.UnaryOp .Not a pos) (tNotV ta) (.v true true) (gNotV ga) := ⟨pe_not ha.pe, ha.hK, se_notV ha.se⟩
theorem a_nil (hK : X.K = K := by rfl) : AD X K W Δ [] tNil true true gNil := ⟨pa_nil, hK, sa_nil⟩
theorem a_cons (ha : PD X K W Δ a ta (.v av fr) ga) (hr : AD X K W Δ es tA av' fr' gA) (hs : starEach (a :: es) X.env = (false, eval a X.env) :: starEach es X.env := by rfl) : AD X K W Δ (a :: es) (tCons ta tA) (av && av') (fr && fr') (gCons ga gA) := ⟨pa_cons ha.pe hr.pa hs, ha.hK, sa_cons ha.se hr.sa⟩
theorem AD.wk (h : AD X K W Δ es tA av fr gA) (h1 : av' = true → av = true := by decide) (h2 : fr' = true → fr = true := by decide) : AD X K W Δ es tA av' fr' gA := ⟨h.pa, h.hK, h.sa.wk h1 h2⟩
theorem x_tup {x1} (h : AD X K W Δ es tA av fr gA) : PD X K W Δ (.Tuple es x1 pos) (tTup tA) (.v av fr) (gTup gA) := ⟨pe_tup h.pa, h.hK, se_tup h.sa⟩
theorem x_lst (h : AD X K W Δ es tA true fr gA) : PD X K W Δ (.List es pos) (tLst tA) (.new .l fr) (gLst gA) := ⟨pe_lst h.pa, h.hK, se_lst h.sa⟩
theorem x_len {x : Str} {p : Pos} (hm : X.mg x = none) (h : AD X K W Δ (e :: es) tA av fr gA) (hv : bootBuiltins x = some (.builtin "len") := by decide +kernel) (hg : Gl X x := by rfl) (hn : x ≠ "__name__" := by decide) (hdb : (x == ("__debug__" : Str)) = false := by decide)
    (he : starEach (e :: es) X.env = (false, eval e X.env) :: starEach es X.env := by rfl) (hpl : (backTo pos (starEach es X.env)).any (·.1) = false := by rfl) :
    PD X K W Δ (.Call (.Name x p) (e :: es) [] pos) (tCB (fun xs H Q => ∃ x n, xs = [x] ∧ LenV K x H n ∧ Q (.int n) H) tA) (.v true true) (gCB hLen gA) :=
  ⟨pe_callB (by have q := call_len (X := X); rw [h.hK] at q; exact q) hg hm hv h.pa hn hdb he hpl, h.hK, se_cb scl_len csc_len h.sa⟩
theorem x_min2 {x : Str} {p : Pos} (hm : X.mg x = none) (h : AD X K W Δ (e :: es) tA av fr gA) (hc : X.calm = true := by rfl) (hv : bootBuiltins x = some (.builtin "min") := by decide +kernel) (hg : Gl X x := by rfl) (hn : x ≠ "__name__" := by decide) (hdb : (x == ("__debug__" : Str)) = false := by decide)
    (he : starEach (e :: es) X.env = (false, eval e X.env) :: starEach es X.env := by rfl) (hpl : (backTo pos (starEach es X.env)).any (·.1) = false := by rfl) :
    PD X K W Δ (.Call (.Name x p) (e :: es) [] pos) (tCB (fun xs H Q => ∃ i j, xs = [.int i, .int j] ∧ Q (.int (if j < i then j else i)) H) tA) (.v true true) (gCB hMin2 gA) := ⟨pe_callB (call_min2 hc) hg hm hv h.pa hn hdb he hpl, h.hK, se_cb scl_min2 csc_min2 h.sa⟩
theorem x_max2 {x : Str} {p : Pos} (hm : X.mg x = none) (h : AD X K W Δ (e :: es) tA av fr gA) (hc : X.calm = true := by rfl) (hv : bootBuiltins x = some (.builtin "max") := by decide +kernel) (hg : Gl X x := by rfl) (hn : x ≠ "__name__" := by decide) (hdb : (x == ("__debug__" : Str)) = false := by decide)
    (he : starEach (e :: es) X.env = (false, eval e X.env) :: starEach es X.env := by rfl) (hpl : (backTo pos (starEach es X.env)).any (·.1) = false := by rfl) :
    PD X K W Δ (.Call (.Name x p) (e :: es) [] pos) (tCB (fun xs H Q => ∃ i j, xs = [.int i, .int j] ∧ Q (.int (if j > i then j else i)) H) tA) (.v true true) (gCB hMax2 gA) := ⟨pe_callB (call_max2 hc) hg hm hv h.pa hn hdb he hpl, h.hK, se_cb scl_max2 csc_max2 h.sa⟩
theorem x_min3 {x : Str} {p : Pos} (hm : X.mg x = none) (h : AD X K W Δ (e :: es) tA av fr gA) (hc : X.calm = true := by rfl) (hv : bootBuiltins x = some (.builtin "min") := by decide +kernel) (hg : Gl X x := by rfl) (hn : x ≠ "__name__" := by decide) (hdb : (x == ("__debug__" : Str)) = false := by decide)
    (he : starEach (e :: es) X.env = (false, eval e X.env) :: starEach es X.env := by rfl) (hpl : (backTo pos (starEach es X.env)).any (·.1) = false := by rfl) :
    PD X K W Δ (.Call (.Name x p) (e :: es) [] pos) (tCB rMin3 tA) (.v true true) (gCB hMin3 gA) := ⟨pe_callB (call_min3 hc) hg hm hv h.pa hn hdb he hpl, h.hK, se_cb scl_min3 csc_min3 h.sa⟩
theorem x_int1 {x : Str} {p : Pos} (hm : X.mg x = none) (h : AD X K W Δ (e :: es) tA av fr gA) (hv : bootBuiltins x = some (.type "int") := by decide +kernel) (hg : Gl X x := by rfl) (hn : x ≠ "__name__" := by decide) (hdb : (x == ("__debug__" : Str)) = false := by decide)
    (he : starEach (e :: es) X.env = (false, eval e X.env) :: starEach es X.env := by rfl) (hpl : (backTo pos (starEach es X.env)).any (·.1) = false := by rfl) :
    PD X K W Δ (.Call (.Name x p) (e :: es) [] pos) (tCB (fun xs H Q => (∃ i, xs = [.int i] ∧ Q (.int i) H) ∨ ∃ k, xs = [.bl k] ∧ Q (.int (if k then 1 else 0)) H) tA) (.v true true) (gCB hInt1 gA) := ⟨pe_callTy call_int1 hg hm hv h.pa hn hdb he hpl, h.hK, se_cb scl_int1 csc_int1 h.sa⟩
theorem x_all {x : Str} {p : Pos} (hm : X.mg x = none) (h : AD X K W Δ (e :: es) tA av fr gA) (hc : X.calm = true := by rfl) (hv : bootBuiltins x = some (.builtin "all") := by decide +kernel) (hg : Gl X x := by rfl) (hn : x ≠ "__name__" := by decide) (hdb : (x == ("__debug__" : Str)) = false := by decide)
    (he : starEach (e :: es) X.env = (false, eval e X.env) :: starEach es X.env := by rfl) (hpl : (backTo pos (starEach es X.env)).any (·.1) = false := by rfl) :
    PD X K W Δ (.Call (.Name x p) (e :: es) [] pos) (tCB (rAll K) tA) (.v true true) (gCB hAll gA) := ⟨pe_callB (by have q := cr_all (X := X) hc; rw [h.hK] at q; exact q) hg hm hv h.pa hn hdb he hpl, h.hK, se_cb scl_all csc_all h.sa⟩
end
end Sim
end T_SimC
section T_SimD
set_option Elab.async false
set_option linter.all false
set_option maxRecDepth 100000
namespace Sim
open PySem PySem.Spec L2
open PyProof.Rows hiding St
def cutD (xs : List Dt) (lo hi : Option Int) : List Dt := (xs.drop (HT.sIx xs.length 0 lo)).take (HT.sIx xs.length xs.length hi - HT.sIx xs.length 0 lo)
def hIx : Dt → Dt → O Dt := fun d e => match d, e with
  | .list ds, .int i => match atI ds i with
    | some z => .ok z
    | none => .bad
  | .tuple ds, .int i => match atI ds i with
    | some z => .ok z
    | none => .bad
  | .str z, .int i => if z.length ≤ 100000 then (match atI z.cps.toList i with
    | some c => .ok (.str ⟨#[c]⟩)
    | none => .bad) else .bad
  | _, _ => .bad
def hSl : Dt → Option Int → Option Int → O Dt := fun d lo hi => match d with
  | .list ds => .ok (.list (cutD ds lo hi))
  | _ => .bad
def gSl (h : Dt → Option Int → Option Int → O Dt) (g : Gd) (gl gh : List Dt → O (Option Int)) : Gd := fun ρ => bnd (g ρ) fun d => bnd (gl ρ) fun lo => bnd (gh ρ) fun hi => h d lo hi
def gNoPart : List Dt → O (Option Int) := fun _ => .ok none
def gPart (g : Gd) : List Dt → O (Option Int) := fun ρ => bnd (g ρ) fun d => match d with
  | .int i => .ok (some i)
  | _ => .bad
def hCat : Dt → Dt → O Dt := fun d e => match d, e with
  | .list xs, .list ys => if xs.length + ys.length ≤ 100000 then .ok (.list (xs ++ ys)) else .bad
  | _, _ => .bad
def hRep : Dt → Dt → O Dt := fun d e => match d, e with
  | .list xs, .int k => if -(2 ^ 63) ≤ k ∧ k < 2 ^ 63 ∧ xs.length * k.toNat ≤ 100000 then .ok (.list (List.replicate k.toNat xs).flatten) else .bad
  | _, _ => .bad
def hListOf : Dt → O Dt := fun d => match d with
  | .list xs => .ok (.list xs)
  | .tuple xs => .ok (.list xs)
  | _ => .bad
def hTupOf : Dt → O Dt := fun d => match d with
  | .list xs => .ok (.tuple xs)
  | .tuple xs => .ok (.tuple xs)
  | _ => .bad
def one (h : Dt → O Dt) : List Dt → O Dt := fun ds => match ds with
  | [d] => h d
  | _ => .bad
section
variable {K : PySem.W.Frag} {W : Wt} {Δ : List Kd} {F : Addr → Prop} {H : Hp}
theorem RpA.ixN {vs : List V} {ds : List Dt} {i : Int} {z : Dt} (r : RpA K F H vs ds) (h : atI ds i = some z) : ∃ v, atI vs i = some v ∧ Rp K F H v z := by
  unfold atI at h ⊢
  rw [r.length]
  cases e : L2.ixN ds.length i with
  | none => rw [e] at h; cases h
  | some j =>
    rw [e] at h
    exact r.get' h
theorem Rp.sqt {v : V} {ds : List Dt} (h : Rp K F H v (.tuple ds)) : ∃ a xs, v = .ref a ∧ SqT K H a xs ∧ RpA K F H xs ds := by
  cases h with
  | tup h r => exact ⟨_, _, rfl, h, r⟩
theorem RpA.cut {vs : List V} {ds : List Dt} {lo hi : Option Int} (r : RpA K F H vs ds) : RpA K F H (cutV vs lo hi) (cutD ds lo hi) := by
  unfold cutV cutD
  rw [r.length]
  exact (r.drop _).take _
theorem se_ix {ta tb : TE} {ga gb : Gd} {av fr av' fr' : Bool} (ha : SE K W Δ ta (.v av fr) ga) (hb : SE K W Δ tb (.v av' fr') gb) : SE K W Δ (tOp (rIx K) ta tb) (.v av fr) (gOp hIx ga gb) := fun f ρ σ H Q R q => by
  refine ha f ρ σ H _ R ?_
  unfold gOp at q
  cases e1 : ga ρ with
  | bad => rw [e1] at q; exact q
  | ex z => rw [e1] at q; exact q
  | ok d =>
    rw [e1, bnd_ok] at q
    intro v H1 s1 x1
    refine hb f ρ σ H1 _ (R.mono s1) ?_
    cases e2 : gb ρ with
    | bad => rw [e2] at q; exact q
    | ex z => rw [e2] at q; exact fun H' s => q H' (s1.trans s)
    | ok d2 =>
      rw [e2, bnd_ok] at q
      intro v2 H2 s2 x2
      unfold hIx at q
      split at q
      · split at q
        · rename_i z hz
          obtain ⟨a, xs, rfl, hs, r⟩ := (x1.same s2).sql
          obtain ⟨w, hw, rw'⟩ := r.ixN hz
          rw [rpInt x2]
          exact .inl ⟨a, xs, _, w, rfl, rfl, hs, hw, q w H2 (s1.trans s2) rw'⟩
        · exact q.elim
      · split at q
        · rename_i z hz
          obtain ⟨a, xs, rfl, hs, r⟩ := (x1.same s2).sqt
          obtain ⟨w, hw, rw'⟩ := r.ixN hz
          rw [rpInt x2]
          exact .inr (.inl ⟨a, xs, _, w, rfl, rfl, hs, hw, q w H2 (s1.trans s2) rw'⟩)
        · exact q.elim
      · split at q
        · rename_i hl
          split at q
          · rename_i c hc
            rw [rpInt x2]
            cases x1
            exact .inr (.inr ⟨_, _, c, rfl, rfl, sz_le hl, hc, q _ H2 (s1.trans s2) (.str _)⟩)
          · exact q.elim
        · exact q.elim
      · exact q.elim
theorem se_ixO {ta tb : TE} {ga gb : Gd} {fr av' fr' : Bool} (ha : SE K W Δ ta (.o fr) ga) (hb : SE K W Δ tb (.v av' fr') gb) : SE K W Δ (tOp (rIx K) ta tb) (.v true fr) (gOp hIx ga gb) := fun f ρ σ H Q R q => by
  refine ha f ρ σ H _ R ?_
  unfold gOp at q
  cases e1 : ga ρ with
  | bad => rw [e1] at q; exact q
  | ex z => rw [e1] at q; exact q
  | ok d =>
    rw [e1, bnd_ok] at q
    intro p H1 vs ds ed s1 hp gp x1
    subst ed
    refine hb f ρ σ H1 _ (R.mono s1) ?_
    cases e2 : gb ρ with
    | bad => rw [e2] at q; exact q
    | ex z => rw [e2] at q; exact fun H' s => q H' (s1.trans s)
    | ok d2 =>
      rw [e2, bnd_ok] at q
      intro v2 H2 s2 x2
      unfold hIx at q
      cases d2 with
      | int i =>
        simp only at q
        cases hz : atI ds i with
        | some z =>
          rw [hz] at q
          obtain ⟨w, hw, rw'⟩ := (x1.same s2).ixN hz
          rw [rpInt x2]
          exact .inl ⟨p, vs, _, w, rfl, rfl, .inl (.inl (s2 _ _ hp)), hw, q w H2 (s1.trans s2) rw'⟩
        | none => rw [hz] at q; exact q.elim
      | _ => exact q.elim
abbrev TOp := L2.St → Hp → (Option Int → Hp → Prop) → Prop
def SO (K : PySem.W.Frag) (W : Wt) (Δ : List Kd) (to : TOp) (g : List Dt → O (Option Int)) : Prop := ∀ f ρ σ H Q, R K f Δ ρ σ H →
  (match g ρ with | .bad => False | .ex e => ∀ H', Same H H' → W e σ H' | .ok o => ∀ H', Same H H' → Q o H') → to σ H Q
theorem so_none : SO K W Δ tNoPart gNoPart := fun f ρ σ H Q R q => q H (Same.refl H)
theorem so_some {te : TE} {g : Gd} {av fr : Bool} (h : SE K W Δ te (.v av fr) g) : SO K W Δ (tPart te) (gPart g) := fun f ρ σ H Q R q => by
  refine h f ρ σ H _ R ?_
  unfold gPart at q
  cases e1 : g ρ with
  | bad => rw [e1] at q; exact q
  | ex z => rw [e1] at q; exact q
  | ok d =>
    rw [e1, bnd_ok] at q
    intro v H1 s1 x1
    cases d with
    | int i => rw [rpInt x1]; exact ⟨i, rfl, q H1 s1⟩
    | _ => exact q.elim
theorem se_sl {te : TE} {tl th : TOp} {g : Gd} {gl gh : List Dt → O (Option Int)} {fr : Bool} (h : SE K W Δ te (.v true fr) g) (h1 : SO K W Δ tl gl) (h2 : SO K W Δ th gh) : SE K W Δ (tSl (rSlL K) te tl th) (.new .l fr) (gSl hSl g gl gh) := fun f ρ σ H Q R q => by
  refine h f ρ σ H _ R ?_
  unfold gSl at q
  cases e1 : g ρ with
  | bad => rw [e1] at q; exact q
  | ex z => rw [e1] at q; exact q
  | ok d =>
    rw [e1, bnd_ok] at q
    intro v H1 s1 x1
    refine h1 f ρ σ H1 _ (R.mono s1) ?_
    cases e2 : gl ρ with
    | bad => rw [e2] at q; exact q
    | ex z => rw [e2] at q; exact fun H' s => q H' (s1.trans s)
    | ok lo =>
      rw [e2, bnd_ok] at q
      intro H2 s2
      refine h2 f ρ σ H2 _ ((R.mono s1).mono s2) ?_
      cases e3 : gh ρ with
      | bad => rw [e3] at q; exact q
      | ex z => rw [e3] at q; exact fun H' s => q H' ((s1.trans s2).trans s)
      | ok hi =>
        rw [e3, bnd_ok] at q
        intro H3 s3
        cases d with
        | list ds =>
          obtain ⟨a, xs, rfl, hs, r⟩ := (x1.same (s2.trans s3)).sql
          refine ⟨a, xs, rfl, hs, fun p np => ?_⟩
          have s123 := (s1.trans s2).trans s3
          exact q p _ (s123.free np) (s123.trans (same_upd np)) ⟨_, _, rfl, upd_same, (r.mono (same_upd np) fun a y z => ⟨y, fun e => z (e ▸ np)⟩).cut⟩
        | _ => exact q.elim
def rCatS (K : PySem.W.Frag) : R2 := fun x y H Q => ∃ l b xs zs, x = .ref l ∧ y = .ref b ∧ SqL K H l xs ∧ SqL K H b zs ∧ xs.length + zs.length ≤ sizeLine ∧ ∀ p, H p = none → Q (.ref p) (upd H p (.lst (xs ++ zs)))
theorem op_catS {X : Cx} : OpR X (binaryOp .Add) (rCatS X.K) := by
  intro pins s σ H x y v u Q I rx ry h
  obtain ⟨l, b, xs, zs, rfl, rfl, hH, hB, hz, q⟩ := h
  cases rx
  cases ry
  obtain ⟨its, r, ⟨⟨cls, dd, data, sl⟩, n, ho, hc, hd, hdt⟩, hl⟩ := I.list hH
  obtain ⟨its2, r2, ⟨⟨cls2, dd2, data2, sl2⟩, n2, ho2, hc2, hd2, hdt2⟩, hl2⟩ := I.list hB
  simp only at hc hdt hc2 hdt2
  subst hc hdt hc2 hdt2
  have ea : its.toArray ++ its2.toArray = (its ++ its2).toArray := by simp
  have e1 := r.length
  have e2 := r2.length
  refine concat_meets ⟨_, ho, rfl⟩ ⟨_, ho2, rfl⟩ noFill_list_add seq_list_add PySem.F.slot_list_add PySem.F.entry_list_add (PySem.F.args_list_add_2 _ _) (PyProof.Rows.list_addW l b its.toArray its2.toArray n n2 dd dd2 sl sl2 (by rw [List.size_toArray, List.size_toArray]; omega)) ⟨ho, ho2, ?_⟩
  rw [ea]
  exact ⟨.ref _, _, I.lnew (t' := s.toks) (r.append r2) (by rw [List.length_append]; omega), rfl, q _ I.fresh⟩
theorem se_cat {ta tb : TE} {ga gb : Gd} {fr fr' : Bool} (ha : SE K W Δ ta (.v true fr) ga) (hb : SE K W Δ tb (.v true fr') gb) : SE K W Δ (tOp (rCatS K) ta tb) (.new .l (fr && fr')) (gOp hCat ga gb) := fun f ρ σ H Q R q => by
  refine ha f ρ σ H _ R ?_
  unfold gOp at q
  cases e1 : ga ρ with
  | bad => rw [e1] at q; exact q
  | ex z => rw [e1] at q; exact q
  | ok d =>
    rw [e1, bnd_ok] at q
    intro v H1 s1 x1
    refine hb f ρ σ H1 _ (R.mono s1) ?_
    cases e2 : gb ρ with
    | bad => rw [e2] at q; exact q
    | ex z => rw [e2] at q; exact fun H' s => q H' (s1.trans s)
    | ok d2 =>
      rw [e2, bnd_ok] at q
      intro v2 H2 s2 x2
      unfold hCat at q
      split at q
      · split at q
        · rename_i hz
          obtain ⟨a, xs, rfl, hs, r⟩ := (x1.same s2).sql
          obtain ⟨b, ys, rfl, hs2, r2⟩ := x2.sql
          refine ⟨a, b, xs, ys, rfl, rfl, hs, hs2, sz_le (by rw [r.length, r2.length]; exact hz), fun p np => ?_⟩
          have s12 := s1.trans s2
          refine q p _ (s12.free np) (s12.trans (same_upd np)) ⟨_, _, rfl, upd_same, ?_⟩
          exact (r.mono (same_upd np) fun a y z => ⟨y.weak id (fun h => (Bool.and_eq_true_iff.mp h).1), fun e => z (e ▸ np)⟩).append
            (r2.mono (same_upd np) fun a y z => ⟨y.weak id (fun h => (Bool.and_eq_true_iff.mp h).2), fun e => z (e ▸ np)⟩)
        · exact q.elim
      · exact q.elim
theorem se_catO {ta tb : TE} {ga gb : Gd} {fr fr' : Bool} (ha : SE K W Δ ta (.o fr) ga) (hb : SE K W Δ tb (.v true fr') gb) : SE K W Δ (tOp (rCatS K) ta tb) (.new .l (fr && fr')) (gOp hCat ga gb) := fun f ρ σ H Q R q => by
  refine ha f ρ σ H _ R ?_
  unfold gOp at q
  cases e1 : ga ρ with
  | bad => rw [e1] at q; exact q
  | ex z => rw [e1] at q; exact q
  | ok d =>
    rw [e1, bnd_ok] at q
    intro pp H1 vs ds ed s1 hp gp x1
    subst ed
    refine hb f ρ σ H1 _ (R.mono s1) ?_
    cases e2 : gb ρ with
    | bad => rw [e2] at q; exact q
    | ex z => rw [e2] at q; exact fun H' s => q H' (s1.trans s)
    | ok d2 =>
      rw [e2, bnd_ok] at q
      intro v2 H2 s2 x2
      cases d2 with
      | list es =>
        unfold hCat at q
        simp only at q
        by_cases hz : ds.length + es.length ≤ 100000
        · rw [if_pos hz] at q
          obtain ⟨b, ys, rfl, hs2, r2⟩ := x2.sql
          have r := x1.same s2
          refine ⟨pp, b, vs, ys, rfl, rfl, .inl (.inl (s2 _ _ hp)), hs2, sz_le (by rw [r.length, r2.length]; exact hz), fun p np => ?_⟩
          have s12 := s1.trans s2
          refine q p _ (s12.free np) (s12.trans (same_upd np)) ⟨_, _, rfl, upd_same, ?_⟩
          exact (r.mono (same_upd np) fun a y z => ⟨y.weak id (fun h => (Bool.and_eq_true_iff.mp h).1), fun e => z (e ▸ np)⟩).append
            (r2.mono (same_upd np) fun a y z => ⟨y.weak id (fun h => (Bool.and_eq_true_iff.mp h).2), fun e => z (e ▸ np)⟩)
        · rw [if_neg hz] at q
          exact q.elim
      | _ => exact q.elim
theorem se_rep {ta tb : TE} {ga gb : Gd} {fr av' fr' : Bool} (ha : SE K W Δ ta (.new .l fr) ga) (hb : SE K W Δ tb (.v av' fr') gb) : SE K W Δ (tOp rRep ta tb) (.new .l fr) (gOp hRep ga gb) := fun f ρ σ H Q R q => by
  refine ha f ρ σ H _ R ?_
  unfold gOp at q
  cases e1 : ga ρ with
  | bad => rw [e1] at q; exact q
  | ex z => rw [e1] at q; exact q
  | ok d =>
    rw [e1, bnd_ok] at q
    intro pp H1 npp s1 x1
    obtain ⟨vs, ds, ed, hp, x1⟩ := x1
    subst ed
    refine hb f ρ σ H1 _ (R.mono s1) ?_
    cases e2 : gb ρ with
    | bad => rw [e2] at q; exact q
    | ex z => rw [e2] at q; exact fun H' s => q H' (s1.trans s)
    | ok d2 =>
      rw [e2, bnd_ok] at q
      intro v2 H2 s2 x2
      cases d2 with
      | int k =>
        unfold hRep at q
        simp only at q
        by_cases hz : -(2 ^ 63) ≤ k ∧ k < 2 ^ 63 ∧ ds.length * k.toNat ≤ 100000
        · rw [if_pos hz] at q
          have r := x1.same s2
          rw [rpInt x2]
          refine ⟨pp, k, vs, rfl, rfl, s2 _ _ hp, hz.1, hz.2.1, sz_le (by rw [r.length]; exact hz.2.2), fun p np => ?_⟩
          have s12 := s1.trans s2
          exact q p _ (s12.free np) (s12.trans (same_upd np)) ⟨_, _, rfl, upd_same, (r.mono (same_upd np) fun a y z => ⟨y.1, fun e => z (e ▸ np)⟩).flat _⟩
        · rw [if_neg hz] at q
          exact q.elim
      | _ => exact q.elim
theorem one_eq {h : Dt → O Dt} {ds : List Dt} : (∃ d, ds = [d] ∧ one h ds = h d) ∨ one h ds = .bad := by
  match ds with
  | [] => exact .inr rfl
  | [d] => exact .inl ⟨d, rfl, rfl⟩
  | _ :: _ :: _ => exact .inr rfl
def rListOf (K : PySem.W.Frag) : List V → Hp → VK → Prop := fun xs H Q => ∃ p ys, xs = [.ref p] ∧ (SqL K H p ys ∨ SqT K H p ys) ∧ ∀ l, H l = none → Q (.ref l) (upd H l (.lst ys))
theorem se_listOf {tA : TA} {gA : List Dt → O (List Dt)} {fr : Bool} (ha : SA K W Δ tA true fr gA) : SE K W Δ (tCB (rListOf K) tA) (.new .l fr) (gCB (one hListOf) gA) := fun f ρ σ H Q R q => by
  refine ha f ρ σ H _ R ?_
  unfold gCB at q
  cases e1 : gA ρ with
  | bad => rw [e1] at q; exact q
  | ex z => rw [e1] at q; exact q
  | ok ds =>
    rw [e1, bnd_ok] at q
    intro vs H1 s1 x1
    rcases one_eq (h := hListOf) (ds := ds) with ⟨d, rfl, e⟩ | e
    · rw [e] at q
      cases x1 with
      | cons x1 xr =>
        cases xr
        cases d with
        | list es =>
          obtain ⟨a, xs, rfl, hs, r⟩ := x1.sql
          exact ⟨a, xs, rfl, .inl hs, fun l nl => q l _ (s1.free nl) (s1.trans (same_upd nl)) ⟨_, _, rfl, upd_same, r.mono (same_upd nl) fun a y z => ⟨y, fun e => z (e ▸ nl)⟩⟩⟩
        | tuple es =>
          obtain ⟨a, xs, rfl, hs, r⟩ := x1.sqt
          exact ⟨a, xs, rfl, .inr hs, fun l nl => q l _ (s1.free nl) (s1.trans (same_upd nl)) ⟨_, _, rfl, upd_same, r.mono (same_upd nl) fun a y z => ⟨y, fun e => z (e ▸ nl)⟩⟩⟩
        | _ => exact q.elim
    · rw [e] at q
      exact q.elim
theorem se_tupOf {tA : TA} {gA : List Dt → O (List Dt)} {av fr : Bool} (ha : SA K W Δ tA av fr gA) : SE K W Δ (tCB (fun xs H Q => ∃ p ys, xs = [.ref p] ∧ ((SqL K H p ys ∧ ∀ l, H l = none → Q (.ref l) (upd H l (.tup ys))) ∨ (SqT K H p ys ∧ Q (.ref p) H))) tA) (.v av fr) (gCB (one hTupOf) gA) := fun f ρ σ H Q R q => by
  refine ha f ρ σ H _ R ?_
  unfold gCB at q
  cases e1 : gA ρ with
  | bad => rw [e1] at q; exact q
  | ex z => rw [e1] at q; exact q
  | ok ds =>
    rw [e1, bnd_ok] at q
    intro vs H1 s1 x1
    rcases one_eq (h := hTupOf) (ds := ds) with ⟨d, rfl, e⟩ | e
    · rw [e] at q
      cases x1 with
      | cons x1 xr =>
        cases xr
        cases d with
        | list es =>
          obtain ⟨a, xs, rfl, hs, r⟩ := x1.sql
          exact ⟨a, xs, rfl, .inl ⟨hs, fun l nl => q _ _ (s1.trans (same_upd nl)) (.tup (.inl (.inl upd_same)) (r.same (same_upd nl)))⟩⟩
        | tuple es =>
          obtain ⟨a, xs, rfl, hs, r⟩ := x1.sqt
          exact ⟨a, xs, rfl, .inr ⟨hs, q _ _ s1 (.tup hs r)⟩⟩
        | _ => exact q.elim
    · rw [e] at q
      exact q.elim
theorem rpA_ints {F : Addr → Prop} {H : Hp} : ∀ ns : List Int, RpA K F H (ns.map V.int) (ns.map PyData.int)
  | [] => .nil
  | n :: ns => .cons (.int n) (rpA_ints ns)
end
def Sc (K : PySem.W.Frag) (J : It) (pf : Option (Addr × HO)) (vs : List V) (es ds : List Dt) : Prop :=
  Walk J ds.length (fun H => (∀ q, pf = some q → H q.1 = some q.2) ∧ ∃ F, RpA K F H vs es) (fun i H x H' => Same H H' ∧ ∀ F, RpA K F H vs es → ∃ e, ds[i]? = some e ∧ Rp K F H' x e)
def SI (K : PySem.W.Frag) (W : Wt) (Δ : List Kd) (wi : TI) (b fr : Bool) (g : List Dt → O (List Dt)) : Prop := ∀ f ρ σ H Rk, R K f Δ ρ σ H →
  (match g ρ with
    | .bad => False
    | .ex e => ∀ H', Same H H' → W e σ H'
    | .ok ds => ∀ J H' pf vs es, Same H H' → (b = false → pf = none) → (∀ q, pf = some q → H' q.1 = some q.2) → RpA K (FM f Δ σ true fr) H' vs es → Sc K J pf vs es ds → Rk J H') → wi σ H Rk
structure ID (X : Cx) (K : PySem.W.Frag) (W : Wt) (Δ : List Kd) (tg iter : Expr) (wi : TI) (b fr : Bool) (g : List Dt → O (List Dt)) : Prop where
  pi : PI X tg iter wi
  hK : X.K = K
  si : SI K W Δ wi b fr g
def gSeq (g : Gd) : List Dt → O (List Dt) := fun ρ => bnd (g ρ) fun d => match d with
  | .list ds => .ok ds
  | .tuple ds => .ok ds
  | _ => .bad
def rangeD (lo hi : Int) : List Dt := (List.range (hi - lo).toNat).map fun (i : Nat) => .int (lo + (i : Int))
def rng1 : List Dt → Option (Int × Int)
  | [.int j] => if -(2 ^ 62) ≤ j ∧ j < 2 ^ 62 then some (0, j) else none
  | _ => none
def rng2 : List Dt → Option (Int × Int)
  | [.int i, .int j] => if -(2 ^ 62) ≤ i ∧ i < 2 ^ 62 ∧ -(2 ^ 62) ≤ j ∧ j < 2 ^ 62 then some (i, j) else none
  | _ => none
def gRng1 (g : List Dt → O (List Dt)) : List Dt → O (List Dt) := fun ρ => bnd (g ρ) fun ds => match rng1 ds with
  | some p => .ok (rangeD p.1 p.2)
  | none => .bad
def gRng2 (g : List Dt → O (List Dt)) : List Dt → O (List Dt) := fun ρ => bnd (g ρ) fun ds => match rng2 ds with
  | some p => .ok (rangeD p.1 p.2)
  | none => .bad
def iSeq (K : PySem.W.Frag) (tl : TE) : TI := fun σ H R => tl σ H fun x H1 => ∃ a, x = .ref a ∧ (((∃ xs, SqL K H1 a xs) ∧ R (Itl K a) H1) ∨ ((∃ xs, SqT K H1 a xs) ∧ R (Itt K a) H1))
theorem pi_seq {X : Cx} {tg l : Expr} {tl : TE} (hl : PE X l tl) : PI X tg l (iSeq X.K tl) := by
  refine ⟨fun pins s σ H R I h => ?_⟩
  refine thn (hl.run pins s σ H _ I h) fun v s1 ⟨x, H1, I1, r1, q1⟩ => ?_
  obtain ⟨a, e, q⟩ := q1
  subst e
  cases r1
  rcases q with ⟨⟨xs, hq⟩, q⟩ | ⟨⟨xs, hq⟩, q⟩
  · obtain ⟨its, rv, p, hz⟩ := I1.list hq
    refine wpAny_pyIter_list p.isList ?_
    refine ⟨s1.heap.objs.size, [s1.heap.objs.size], _, _, H1, rfl, I1.kept (t' := s1.toks) fun b o e => Heap.get?_push_of_some _ e, turn_list a _, ⟨_, Heap.get?_push_size _ rfl, rfl, rfl⟩, fun b hb => ?_, q⟩
    have e : b = s1.heap.objs.size := by simpa using hb
    subst e
    exact I1.fpOk (Nat.le_refl _) (I1.hok.fresh (Nat.le_refl _))
  · obtain ⟨its, rv, p, hz⟩ := I1.tuple hq
    refine wpAny_pyIter_tuple (show s1.heap.IsTuple a its.toArray from p) ?_
    refine ⟨s1.heap.objs.size, [s1.heap.objs.size], _, _, H1, rfl, I1.kept (t' := s1.toks) fun b o e => Heap.get?_push_of_some _ e, turn_tuple a _, ⟨_, Heap.get?_push_size _ rfl, rfl, rfl⟩, fun b hb => ?_, q⟩
    have e : b = s1.heap.objs.size := by simpa using hb
    subst e
    exact I1.fpOk (Nat.le_refl _) (I1.hok.fresh (Nat.le_refl _))
section
variable {K : PySem.W.Frag} {W : Wt} {Δ : List Kd}
theorem sc_list {a : Addr} {ds : List Dt} : Sc K (Itl K a) none [.ref a] [.list ds] ds where
  goes := fun i H hi ⟨_, F, r⟩ => by
    cases r with
    | cons h _ =>
      obtain ⟨b, xs, e, hs, r⟩ := h.sql
      cases e
      have hx : i < xs.length := by rw [r.length]; exact hi
      exact ⟨xs, xs[i], hs, List.getElem?_eq_getElem hx⟩
  stops := fun H ⟨_, F, r⟩ => by
    cases r with
    | cons h _ =>
      obtain ⟨b, xs, e, hs, r⟩ := h.sql
      cases e
      exact ⟨xs, hs, Nat.le_of_eq r.length⟩
  yields := fun i H x H' hi _ y => by
    obtain ⟨e, y⟩ := y
    subst e
    refine ⟨Same.refl _, fun F r => ?_⟩
    cases r with
    | cons h _ =>
      obtain ⟨b, xs, e, hs, r⟩ := h.sql
      cases e
      exact r.get (y xs hs)
theorem sc_tup {a : Addr} {ds : List Dt} : Sc K (Itt K a) none [.ref a] [.tuple ds] ds where
  goes := fun i H hi ⟨_, F, r⟩ => by
    cases r with
    | cons h _ =>
      obtain ⟨b, xs, e, hs, r⟩ := h.sqt
      cases e
      have hx : i < xs.length := by rw [r.length]; exact hi
      exact ⟨xs, xs[i], hs, List.getElem?_eq_getElem hx⟩
  stops := fun H ⟨_, F, r⟩ => by
    cases r with
    | cons h _ =>
      obtain ⟨b, xs, e, hs, r⟩ := h.sqt
      cases e
      exact ⟨xs, hs, Nat.le_of_eq r.length⟩
  yields := fun i H x H' hi _ y => by
    obtain ⟨e, y⟩ := y
    subst e
    refine ⟨Same.refl _, fun F r => ?_⟩
    cases r with
    | cons h _ =>
      obtain ⟨b, xs, e, hs, r⟩ := h.sqt
      cases e
      exact r.get (y xs hs)
theorem rangeD_len (lo hi : Int) : (rangeD lo hi).length = (hi - lo).toNat := by unfold rangeD; simp
theorem sc_range {lo hi : Int} : Sc K (Itr lo (hi - lo).toNat) none [] [] (rangeD lo hi) where
  goes := fun i H hi' _ => by rw [rangeD_len] at hi'; exact hi'
  stops := fun H _ => by rw [rangeD_len]; exact Nat.le_refl _
  yields := fun i H x H' hi' _ y => by
    obtain ⟨e, y⟩ := y
    subst e y
    refine ⟨Same.refl _, fun F r => ⟨_, ?_, .int _⟩⟩
    rw [rangeD_len] at hi'
    unfold rangeD
    rw [List.getElem?_map, List.getElem?_range hi']
    rfl
theorem si_seq {te : TE} {g : Gd} {fr : Bool} (h : SE K W Δ te (.v true fr) g) : SI K W Δ (iSeq K te) false fr (gSeq g) := fun f ρ σ H Rk R q => by
  refine h f ρ σ H _ R ?_
  unfold gSeq at q
  cases e1 : g ρ with
  | bad => rw [e1] at q; exact q
  | ex z => rw [e1] at q; exact q
  | ok d =>
    rw [e1, bnd_ok] at q
    intro v H1 s1 x1
    cases d with
    | list ds =>
      obtain ⟨a, xs, rfl, hs, r⟩ := x1.sql
      exact ⟨a, rfl, .inl ⟨⟨xs, hs⟩, q _ H1 none [.ref a] [.list ds] s1 (fun _ => rfl) (fun _ e => nomatch e) (.cons x1 .nil) sc_list⟩⟩
    | tuple ds =>
      obtain ⟨a, xs, rfl, hs, r⟩ := x1.sqt
      exact ⟨a, rfl, .inr ⟨⟨xs, hs⟩, q _ H1 none [.ref a] [.tuple ds] s1 (fun _ => rfl) (fun _ e => nomatch e) (.cons x1 .nil) sc_tup⟩⟩
    | _ => exact q.elim
theorem si_rng1 {tA : TA} {gA : List Dt → O (List Dt)} {av fr : Bool} (h : SA K W Δ tA av fr gA) : SI K W Δ (iRng1 tA) false true (gRng1 gA) := fun f ρ σ H Rk R q => by
  refine h f ρ σ H _ R ?_
  unfold gRng1 at q
  cases e1 : gA ρ with
  | bad => rw [e1] at q; exact q
  | ex z => rw [e1] at q; exact q
  | ok ds =>
    rw [e1, bnd_ok] at q
    intro vs H1 s1 x1
    cases er : rng1 ds with
    | none => rw [er] at q; exact q.elim
    | some p =>
      rw [er] at q
      unfold rng1 at er
      split at er
      · split at er
        · rename_i j c
          cases er
          cases x1 with
          | cons x1 xr =>
            cases xr
            rw [rpInt x1]
            refine ⟨j, rfl, c.1, c.2, ?_⟩
            have w := q (Itr 0 (j - 0).toNat) H1 none [] [] s1 (fun _ => rfl) (fun _ e => nomatch e) .nil sc_range
            rw [Int.sub_zero] at w
            exact w
        · cases er
      · cases er
theorem si_rng2 {tA : TA} {gA : List Dt → O (List Dt)} {av fr : Bool} (h : SA K W Δ tA av fr gA) : SI K W Δ (iRng2 tA) false true (gRng2 gA) := fun f ρ σ H Rk R q => by
  refine h f ρ σ H _ R ?_
  unfold gRng2 at q
  cases e1 : gA ρ with
  | bad => rw [e1] at q; exact q
  | ex z => rw [e1] at q; exact q
  | ok ds =>
    rw [e1, bnd_ok] at q
    intro vs H1 s1 x1
    cases er : rng2 ds with
    | none => rw [er] at q; exact q.elim
    | some p =>
      rw [er] at q
      unfold rng2 at er
      split at er
      · split at er
        · rename_i i j c
          cases er
          cases x1 with
          | cons x1 xr =>
            cases xr with
            | cons x2 xr =>
              cases xr
              rw [rpInt x1, rpInt x2]
              exact ⟨i, j, rfl, c, q (Itr i (j - i).toNat) H1 none [] [] s1 (fun _ => rfl) (fun _ e => nomatch e) .nil sc_range⟩
        · cases er
      · cases er
end
end Sim
end T_SimD
section T_SimE
set_option Elab.async false
set_option linter.all false
set_option maxRecDepth 100000
namespace Sim
open PySem PySem.Spec L2
open PyProof.Rows hiding St
def bLe (a b : Bool) : Bool := !b || a
def kLe : Kd → Kd → Bool
  | _, .no => true
  | .im a, .im b => bLe a b
  | .own .l a, .im b => bLe a b
  | .own .l a, .own .l b => bLe a b
  | .own .dk a, .own .dk b => bLe a b
  | .own .dt a, .own .dt b => bLe a b
  | .own .la a, .own .la b => bLe a b
  | .own .ka a, .own .ka b => bLe a b
  | .sl a, .sl b => a == b
  | _, _ => false
def leA : List Kd → List Kd → Bool
  | [], [] => true
  | k :: ks, l :: ls => kLe k l && leA ks ls
  | _, _ => false
theorem bLe_imp {a b : Bool} (h : bLe a b = true) : b = true → a = true := fun e => by subst e; cases a; cases h; rfl
theorem leA_len : ∀ {Δ Δ' : List Kd}, leA Δ Δ' = true → Δ.length = Δ'.length
  | [], [], _ => rfl
  | [], _ :: _, h => by cases h
  | _ :: _, [], h => by cases h
  | k :: ks, l :: ls, h => by
    unfold leA at h
    rw [Bool.and_eq_true] at h
    rw [List.length_cons, List.length_cons, leA_len h.2]
theorem leA_get : ∀ {Δ Δ' : List Kd}, leA Δ Δ' = true → ∀ {i : Nat} {k' : Kd}, Δ'[i]? = some k' → ∃ k, Δ[i]? = some k ∧ kLe k k' = true
  | [], [], _, i, k', h => by simp at h
  | [], _ :: _, h, _, _, _ => by cases h
  | _ :: _, [], h, _, _, _ => by cases h
  | k :: ks, l :: ls, h, 0, k', e => by
    unfold leA at h
    rw [Bool.and_eq_true] at h
    simp at e; subst e
    exact ⟨k, rfl, h.1⟩
  | k :: ks, l :: ls, h, i + 1, k', e => by
    unfold leA at h
    rw [Bool.and_eq_true] at h
    obtain ⟨q, h1, h2⟩ := leA_get h.2 (i := i) (k' := k') (by simpa using e)
    exact ⟨q, by simpa using h1, h2⟩
theorem kLe_own {k : Kd} {c : Ct} {fr : Bool} (h : kLe k (.own c fr) = true) : ∃ fr', k = .own c fr' ∧ (fr = true → fr' = true) := by
  cases k with
  | no => cases c <;> cases h
  | im a => cases c <;> cases h
  | sl => cases c <;> cases h
  | own c' a => cases c' <;> cases c <;> first | (cases h; done) | exact ⟨a, rfl, bLe_imp h⟩
theorem kLe_sl {k : Kd} {t : Bool} (h : kLe k (.sl t) = true) : k = .sl t := by
  cases k with
  | no => cases h
  | im a => cases h
  | sl a => simp [kLe] at h; rw [h]
  | own c' a => cases c' <;> cases h
theorem kLe_im {k : Kd} {fr : Bool} (h : kLe k (.im fr) = true) : (∃ fr', k = .im fr' ∧ (fr = true → fr' = true)) ∨ ∃ fr', k = .own .l fr' ∧ (fr = true → fr' = true) := by
  cases k with
  | no => cases h
  | im a => exact .inl ⟨a, rfl, bLe_imp h⟩
  | sl => cases h
  | own c' a => cases c' <;> first | (cases h; done) | exact .inr ⟨a, rfl, bLe_imp h⟩
section
variable {K : PySem.W.Frag} {f : Fm} {Δ Δ' : List Kd} {ρ : List Dt} {σ σ' : L2.St} {H : Hp}
theorem R.weak (r : R K f Δ ρ σ H) (h : leA Δ Δ' = true) : R K f Δ' ρ σ H := by
  have ow' : ∀ a, Ow Δ' σ a → Ow Δ σ a := fun a ⟨i, c, fr, h1, h2⟩ => by
    obtain ⟨k, e, hk⟩ := leA_get h h1
    obtain ⟨fr', rfl, _⟩ := kLe_own hk
    exact ⟨i, c, fr', e, h2⟩
  have key : ∀ {fr fr' : Bool} {v : V} {d : Dt}, (fr' = true → fr = true) → Rp K (FM f Δ σ true fr) H v d → Rp K (FM f Δ' σ true fr') H v d := fun hf h =>
    h.weak fun a fa => ⟨fun _ => ⟨fun z => (fa.1 rfl).1 (ow' a z), (fa.1 rfl).2⟩, fun e => fa.2 (hf e)⟩
  refine ⟨r.ext, r.g0, by rw [r.lσ, leA_len h], by rw [r.lρ, leA_len h], ?_, fun a ha => ⟨(r.pin a ha).1, fun z => (r.pin a ha).2 (ow' a z)⟩, fun g hg => (r.gh g hg).map fun _ _ x => key id x, fun i fr h' => ?_, fun i c fr h' => ?_, fun i c fr h' ha => ?_, r.sp, fun i t h' => by
    obtain ⟨k, e, hk⟩ := leA_get h h'
    rw [kLe_sl hk] at e
    exact r.sl i t e⟩
  · intro i j ci fi cj fj p h1 h2 h3 h4
    obtain ⟨k, e, hk⟩ := leA_get h h1
    obtain ⟨fr', rfl, _⟩ := kLe_own hk
    obtain ⟨k2, e2, hk2⟩ := leA_get h h2
    obtain ⟨fr2, rfl, _⟩ := kLe_own hk2
    exact r.inj i j _ _ _ _ p e e2 h3 h4
  · obtain ⟨k, e, hk⟩ := leA_get h h'
    rcases kLe_im hk with ⟨fr', rfl, hf⟩ | ⟨fr', rfl, hf⟩
    · obtain ⟨v, d, h1, h2, h3⟩ := r.im i fr' e
      exact ⟨v, d, h1, h2, key hf h3⟩
    · obtain ⟨p, d, h1, h2, h3, vs, ds, ed, hp, h4⟩ := r.ow i .l fr' e
      subst ed
      refine ⟨.ref p, _, h1, h2, .lst hp ⟨fun _ => ⟨fun z => ?_, fun z => ?_⟩, fun _ => r.g0 p h3⟩ (h4.map fun _ _ x => key hf x)⟩
      · obtain ⟨j, c, frj, g1, g2⟩ := z
        obtain ⟨k2, e2, hk2⟩ := leA_get h g1
        obtain ⟨fr2, rfl, _⟩ := kLe_own hk2
        have ij := r.inj i j _ _ _ _ p e e2 h1 g2
        subst ij
        rw [h'] at g1
        cases g1
      · exact (r.pin p z).2 ⟨i, .l, fr', e, h1⟩
  · obtain ⟨k, e, hk⟩ := leA_get h h'
    obtain ⟨fr', rfl, hf⟩ := kLe_own hk
    obtain ⟨p, d, h1, h2, h3, h4⟩ := r.ow i c fr' e
    exact ⟨p, d, h1, h2, h3, h4.map (fun o e => e) fun _ _ x => key hf x⟩
  · obtain ⟨k, e, hk⟩ := leA_get h h'
    obtain ⟨fr', rfl, hf⟩ := kLe_own hk
    exact r.ar i c fr' e ha
structure TgOk (K : PySem.W.Frag) (f : Fm) (Δ Δ' : List Kd) (ρ' : List Dt) (σ σ' : L2.St) (H : Hp) (sl : List Nat) : Prop where
  r : R K f Δ' ρ' σ' H
  keep : ∀ i, i ∉ sl → Δ'[i]? = Δ[i]? ∧ σ'[i]? = σ[i]?
  im : ∀ i, i ∈ sl → ∃ fr, Δ'[i]? = some (.im fr)
  len : Δ'.length = Δ.length
theorem TgOk.ow {ρ' : List Dt} {sl : List Nat} (t : TgOk K f Δ Δ' ρ' σ σ' H sl) {a : Addr} (h : Ow Δ' σ' a) : Ow Δ σ a := by
  obtain ⟨i, c, fr, h1, h2⟩ := h
  by_cases z : i ∈ sl
  · obtain ⟨fr', e⟩ := t.im i z
    rw [e] at h1; cases h1
  · obtain ⟨e1, e2⟩ := t.keep i z
    exact ⟨i, c, fr, e1 ▸ h1, e2 ▸ h2⟩
theorem TgOk.ow' {ρ' : List Dt} {sl : List Nat} (t : TgOk K f Δ Δ' ρ' σ σ' H sl) (no : ∀ i ∈ sl, ∀ c fr, Δ[i]? ≠ some (.own c fr)) {a : Addr} (h : Ow Δ σ a) : Ow Δ' σ' a := by
  obtain ⟨i, c, fr, h1, h2⟩ := h
  by_cases z : i ∈ sl
  · exact absurd h1 (no i z c fr)
  · obtain ⟨e1, e2⟩ := t.keep i z
    exact ⟨i, c, fr, e1 ▸ h1, e2 ▸ h2⟩
theorem TgOk.fm {ρ' : List Dt} {sl : List Nat} (t : TgOk K f Δ Δ' ρ' σ σ' H sl) {av fr : Bool} {a : Addr} (h : FM f Δ σ av fr a) : FM f Δ' σ' av fr a := ⟨fun e => ⟨fun z => (h.1 e).1 (t.ow z), (h.1 e).2⟩, h.2⟩
theorem TgOk.fm' {ρ' : List Dt} {sl : List Nat} (t : TgOk K f Δ Δ' ρ' σ σ' H sl) (no : ∀ i ∈ sl, ∀ c fr, Δ[i]? ≠ some (.own c fr)) {av fr : Bool} {a : Addr} (h : FM f Δ' σ' av fr a) : FM f Δ σ av fr a := ⟨fun e => ⟨fun z => (h.1 e).1 (t.ow' no z), (h.1 e).2⟩, h.2⟩
theorem TgOk.refl (r : R K f Δ ρ σ H) : TgOk K f Δ Δ ρ σ σ H [] := ⟨r, fun _ _ => ⟨rfl, rfl⟩, fun _ h => absurd h (by simp), rfl⟩
theorem TgOk.trans {Δ1 Δ2 : List Kd} {ρ1 ρ2 : List Dt} {σ1 σ2 : L2.St} {s1 s2 : List Nat} (t : TgOk K f Δ Δ1 ρ1 σ σ1 H s1) (u : TgOk K f Δ1 Δ2 ρ2 σ1 σ2 H s2) : TgOk K f Δ Δ2 ρ2 σ σ2 H (s1 ++ s2) := by
  refine ⟨u.r, fun i h => ?_, fun i h => ?_, u.len.trans t.len⟩
  · rw [List.mem_append, not_or] at h
    obtain ⟨a1, a2⟩ := t.keep i h.1
    obtain ⟨b1, b2⟩ := u.keep i h.2
    exact ⟨b1.trans a1, b2.trans a2⟩
  · by_cases z : i ∈ s2
    · exact u.im i z
    · rcases List.mem_append.mp h with h | h
      · obtain ⟨fr, e⟩ := t.im i h
        exact ⟨fr, (u.keep i z).1.trans e⟩
      · exact absurd h z
end
def GJ (K : PySem.W.Frag) (n : Nat) (g : TG) (sl : List Nat) (h : Dt → List Dt → O (List Dt)) (TK : Bool → List Kd → List Kd) : Prop := ∀ f Δ ρ σ H v d fr Q, Δ.length = n → R K f Δ ρ σ H → Rp K (FM f Δ σ true fr) H v d →
  (match h d ρ with | .ok ρ' => ∀ σ', TgOk K f Δ (TK fr Δ) ρ' σ σ' H sl → Q σ' H | _ => False) → g v σ H Q
def GJs (K : PySem.W.Frag) (n : Nat) (g : TGs) (sl : List Nat) (h : List Dt → List Dt → O (List Dt)) (TK : Bool → List Kd → List Kd) : Prop := ∀ f Δ ρ σ H vs ds fr Q, Δ.length = n → R K f Δ ρ σ H → RpA K (FM f Δ σ true fr) H vs ds →
  (match h ds ρ with | .ok ρ' => ∀ σ', TgOk K f Δ (TK fr Δ) ρ' σ σ' H sl → Q σ' H | _ => False) → g vs σ H Q
structure GD (X : Cx) (K : PySem.W.Frag) (n : Nat) (tg : Expr) (g : TG) (sl : List Nat) (h : Dt → List Dt → O (List Dt)) (TK : Bool → List Kd → List Kd) : Prop where
  pg : PG X tg g
  hK : X.K = K
  gj : GJ K n g sl h TK
structure GDs (X : Cx) (K : PySem.W.Frag) (n : Nat) (tg : List Expr) (g : TGs) (sl : List Nat) (h : List Dt → List Dt → O (List Dt)) (TK : Bool → List Kd → List Kd) : Prop where
  pg : PGs X tg g
  hK : X.K = K
  gj : GJs K n g sl h TK
def tgN (i : Nat) : Dt → List Dt → O (List Dt) := fun d ρ => .ok (ρ.set i d)
def tgT (h : List Dt → List Dt → O (List Dt)) : Dt → List Dt → O (List Dt) := fun d ρ => match d with
  | .tuple ds => h ds ρ
  | _ => .bad
def tgNil : List Dt → List Dt → O (List Dt) := fun ds ρ => match ds with
  | [] => .ok ρ
  | _ => .bad
def tgCons (h : Dt → List Dt → O (List Dt)) (u : List Dt → List Dt → O (List Dt)) : List Dt → List Dt → O (List Dt) := fun ds ρ => match ds with
  | d :: r => (match h d ρ with
    | .ok ρ' => u r ρ'
    | _ => .bad)
  | [] => .bad
def TKN (i : Nat) : Bool → List Kd → List Kd := fun fr Δ => Δ.set i (.im fr)
def TK0 : Bool → List Kd → List Kd := fun _ Δ => Δ
def TKC (a b : Bool → List Kd → List Kd) : Bool → List Kd → List Kd := fun fr Δ => b fr (a fr Δ)
section
variable {K : PySem.W.Frag} {n : Nat}
theorem gj_name {i : Nat} (hi : i < n) : GJ K n (gName i) [i] (tgN i) (TKN i) := fun f Δ ρ σ H v d fr Q hl R x q => by
  have hi' : i < Δ.length := by rw [hl]; exact hi
  refine q (σ.set i (some v)) ⟨R.setIm hi' x, fun j h => ?_, fun j h => ?_, by unfold TKN; rw [List.length_set]⟩
  · have : i ≠ j := fun e => h (by rw [e]; exact List.mem_singleton.mpr rfl)
    unfold TKN
    exact ⟨List.getElem?_set_ne this, List.getElem?_set_ne this⟩
  · have : j = i := List.mem_singleton.mp h
    subst this
    unfold TKN
    exact ⟨fr, List.getElem?_set_self hi'⟩
theorem gj_nil : GJs K n L2.gNil [] tgNil TK0 := fun f Δ ρ σ H vs ds fr Q hl R x q => by
  cases x with
  | nil => exact ⟨rfl, q σ (.refl R)⟩
  | cons => exact q.elim
theorem gj_cons {g : TG} {gs : TGs} {s1 s2 : List Nat} {h : Dt → List Dt → O (List Dt)} {u : List Dt → List Dt → O (List Dt)} {T1 T2 : Bool → List Kd → List Kd} (a : GJ K n g s1 h T1) (b : GJs K n gs s2 u T2) :
    GJs K n (L2.gCons g gs) (s1 ++ s2) (tgCons h u) (TKC T1 T2) := fun f Δ ρ σ H vs ds fr Q hl R x q => by
  cases x with
  | nil => exact q.elim
  | cons x r =>
    refine ⟨_, _, rfl, ?_⟩
    unfold tgCons at q
    refine a f Δ ρ σ H _ _ fr _ hl R x ?_
    simp only at q
    revert q
    cases e : h _ ρ with
    | bad => exact fun q => q.elim
    | ex z => exact fun q => q.elim
    | ok ρ1 =>
      intro q σ1 t1
      refine b f _ ρ1 σ1 H _ _ fr _ (t1.len.trans hl) t1.r (r.weak fun _ y => t1.fm y) ?_
      simp only at q
      revert q
      cases e2 : u _ ρ1 with
      | bad => exact fun q => q.elim
      | ex z => exact fun q => q.elim
      | ok ρ2 => exact fun q σ2 t2 => q σ2 (t1.trans t2)
theorem gj_tup {m : Nat} {gs : TGs} {sl : List Nat} {u : List Dt → List Dt → O (List Dt)} {T : Bool → List Kd → List Kd} (b : GJs K n gs sl u T) (hm : ∀ ds ρ, ds.length ≠ m → ∀ z, u ds ρ ≠ .ok z) :
    GJ K n (L2.gTup K m gs) sl (tgT u) T := fun f Δ ρ σ H v d fr Q hl R x q => by
  cases d with
  | tuple ds =>
    obtain ⟨a, xs, rfl, hs, r⟩ := x.sqt
    have q : (match u ds ρ with | .ok ρ' => ∀ σ', TgOk K f Δ (T fr Δ) ρ' σ σ' H sl → Q σ' H | _ => False) := q
    refine ⟨a, xs, rfl, hs, ?_, b f Δ ρ σ H xs ds fr Q hl R r q⟩
    by_cases e : ds.length = m
    · rw [r.length]; exact e
    · cases eu : u ds ρ with
      | ok z => exact absurd eu (hm ds ρ e z)
      | bad => rw [eu] at q; exact q.elim
      | ex z => rw [eu] at q; exact q.elim
  | _ => exact q.elim
theorem tgNil_len : ∀ ds ρ, ds.length ≠ 0 → ∀ z, tgNil ds ρ ≠ .ok z
  | [], _, h, _ => absurd rfl h
  | _ :: _, _, _, _ => fun e => by cases e
theorem tgCons_len {m : Nat} {h : Dt → List Dt → O (List Dt)} {u : List Dt → List Dt → O (List Dt)} (hu : ∀ ds ρ, ds.length ≠ m → ∀ z, u ds ρ ≠ .ok z) : ∀ ds ρ, ds.length ≠ m + 1 → ∀ z, tgCons h u ds ρ ≠ .ok z
  | [], _, _, _ => fun e => by cases e
  | d :: r, ρ, hl, z => fun e => by
    unfold tgCons at e
    simp only at e
    cases eh : h d ρ with
    | bad => rw [eh] at e; cases e
    | ex y => rw [eh] at e; cases e
    | ok ρ' =>
      rw [eh] at e
      exact hu r ρ' (fun q => hl (by rw [List.length_cons, q])) z e
end
section
variable {X : Cx} {K : PySem.W.Frag} {n : Nat} {pos : Pos}
theorem g_name (i : Nat) {x : Str} (hN : X.N.Nodup) (hn : i < n := by decide) (hi : X.N[i]? = some x := by rfl) (hx : Loc X.env.scope x := by first | exact .inl rfl | exact .inr rfl) (hf : X.fn x = true ∨ X.env.scope.names.lookup x = some .local := by first | exact .inl rfl | exact .inr rfl) (hK : X.K = K := by rfl) :
    GD X K n (.Name x pos) (gName i) [i] (tgN i) (TKN i) := ⟨pg_name hN hi hx hf, hK, gj_name hn⟩
theorem g_nil (hK : X.K = K := by rfl) : GDs X K n [] L2.gNil [] tgNil TK0 := ⟨pgs_nil, hK, gj_nil⟩
theorem g_cons {e : Expr} {es : List Expr} {g : TG} {gs : TGs} {s1 s2 : List Nat} {h : Dt → List Dt → O (List Dt)} {u : List Dt → List Dt → O (List Dt)} {T1 T2 : Bool → List Kd → List Kd} (a : GD X K n e g s1 h T1) (b : GDs X K n es gs s2 u T2)
    (hs : (assignEach (e :: es) X.env).map (·.2) = assign e X.env :: (assignEach es X.env).map (·.2) := by rfl) : GDs X K n (e :: es) (L2.gCons g gs) (s1 ++ s2) (tgCons h u) (TKC T1 T2) := ⟨pgs_cons a.pg b.pg hs, a.hK, gj_cons a.gj b.gj⟩
end
abbrev W0 : Wt := fun _ _ _ => False
def wipeK (Δ : List Kd) : List Nat → List Kd
  | [] => Δ
  | v :: vs => (wipeK Δ vs).set v .no
def noOwn (Δ : List Kd) (vs : List Nat) : Bool := vs.all fun i => match Δ[i]? with
  | some (.own _ _) => false
  | _ => true
theorem wipeK_len (Δ : List Kd) : ∀ vs, (wipeK Δ vs).length = Δ.length
  | [] => rfl
  | v :: vs => by unfold wipeK; rw [List.length_set, wipeK_len Δ vs]
theorem wipeK_out {Δ : List Kd} {i : Nat} : ∀ {vs : List Nat}, i ∉ vs → (wipeK Δ vs)[i]? = Δ[i]?
  | [], _ => rfl
  | v :: vs, h => by
    unfold wipeK
    rw [List.getElem?_set_ne (fun e => h (by rw [e]; exact List.mem_cons_self)), wipeK_out fun z => h (List.mem_cons_of_mem _ z)]
theorem wipeK_in {Δ : List Kd} {i : Nat} : ∀ {vs : List Nat}, i ∈ vs → ∀ k, (wipeK Δ vs)[i]? = some k → k = .no
  | [], h, _, _ => absurd h (by simp)
  | v :: vs, h, k, e => by
    unfold wipeK at e
    by_cases z : v = i
    · subst z
      by_cases hv : v < (wipeK Δ vs).length
      · rw [List.getElem?_set_self hv] at e
        exact (Option.some.inj e).symm
      · rw [List.getElem?_eq_none (by rw [List.length_set]; omega)] at e
        cases e
    · rw [List.getElem?_set_ne z] at e
      rcases List.mem_cons.mp h with q | q
      · exact absurd q.symm z
      · exact wipeK_in q k e
theorem wipe_out {σ : L2.St} {i : Nat} : ∀ {vs : List Nat}, i ∉ vs → (wipe σ vs)[i]? = σ[i]?
  | [], _ => rfl
  | v :: vs, h => by
    unfold wipe
    rw [List.getElem?_set_ne (fun e => h (by rw [e]; exact List.mem_cons_self)), wipe_out fun z => h (List.mem_cons_of_mem _ z)]
theorem wipe_in {σ : L2.St} {i : Nat} : ∀ {vs : List Nat}, i ∈ vs → i < σ.length → (wipe σ vs)[i]? = some none
  | [], h, _ => absurd h (by simp)
  | v :: vs, h, hl => by
    unfold wipe
    by_cases z : v = i
    · subst z
      rw [List.getElem?_set_self (by rw [wipe_length]; exact hl)]
    · rw [List.getElem?_set_ne z]
      rcases List.mem_cons.mp h with q | q
      · exact absurd q.symm z
      · exact wipe_in q hl
theorem wipe_eq {σ σ' : L2.St} {vs : List Nat} (hl : σ'.length = σ.length) (h : ∀ i, i ∉ vs → σ'[i]? = σ[i]?) : wipe σ' vs = wipe σ vs := by
  apply List.ext_getElem?
  intro i
  by_cases z : i ∈ vs
  · by_cases q : i < σ.length
    · rw [wipe_in z (by rw [hl]; exact q), wipe_in z q]
    · rw [List.getElem?_eq_none (by rw [wipe_length, hl]; omega), List.getElem?_eq_none (by rw [wipe_length]; omega)]
  · rw [wipe_out z, wipe_out z]
    exact h i z
theorem noOwn_get {Δ : List Kd} {vs : List Nat} (h : noOwn Δ vs = true) {i : Nat} (hi : i ∈ vs) {c : Ct} {fr : Bool} : Δ[i]? ≠ some (.own c fr) := fun e => by
  have q := List.all_eq_true.mp h i hi
  rw [e] at q
  cases q
section
variable {K : PySem.W.Frag} {f : Fm} {Δ : List Kd} {ρ : List Dt} {σ : L2.St} {H : Hp}
theorem ow_wipe {vs : List Nat} (h : noOwn Δ vs = true) {a : Addr} : Ow (wipeK Δ vs) (wipe σ vs) a ↔ Ow Δ σ a := by
  constructor
  · rintro ⟨i, c, fr, h1, h2⟩
    have z : i ∉ vs := fun z => by cases wipeK_in z _ h1
    exact ⟨i, c, fr, by rw [← wipeK_out z]; exact h1, by rw [← wipe_out z]; exact h2⟩
  · rintro ⟨i, c, fr, h1, h2⟩
    have z : i ∉ vs := fun z => noOwn_get h z h1
    exact ⟨i, c, fr, by rw [wipeK_out z]; exact h1, by rw [wipe_out z]; exact h2⟩
theorem fm_wipe {vs : List Nat} (h : noOwn Δ vs = true) {av fr : Bool} {a : Addr} : FM f (wipeK Δ vs) (wipe σ vs) av fr a ↔ FM f Δ σ av fr a := by
  unfold FM
  rw [ow_wipe h]
theorem R.wipe {vs : List Nat} (h : noOwn Δ vs = true) (r : R K f Δ ρ σ H) : R K f (wipeK Δ vs) ρ (L2.wipe σ vs) H := by
  refine ⟨r.ext, r.g0, by rw [wipe_length, wipeK_len]; exact r.lσ, by rw [wipeK_len]; exact r.lρ, ?_, fun a ha => ⟨(r.pin a ha).1, fun z => (r.pin a ha).2 ((ow_wipe h).mp z)⟩, fun g hg => (r.gh g hg).weak fun a y => (fm_wipe h).mpr y, fun i fr h' => ?_, fun i c fr h' => ?_, fun i c fr h' ha => ?_, r.sp, fun i t h' => by
    have z1 : i ∉ vs := fun z => by cases wipeK_in z _ h'
    rw [wipeK_out z1] at h'
    obtain ⟨v, d, h1, h2, h3⟩ := r.sl i t h'
    exact ⟨v, d, by rw [wipe_out z1]; exact h1, h2, h3⟩⟩
  · intro i j ci fi cj fj p h1 h2 h3 h4
    have z1 : i ∉ vs := fun z => by cases wipeK_in z _ h1
    have z2 : j ∉ vs := fun z => by cases wipeK_in z _ h2
    rw [wipeK_out z1] at h1
    rw [wipeK_out z2] at h2
    rw [wipe_out z1] at h3
    rw [wipe_out z2] at h4
    exact r.inj i j _ _ _ _ p h1 h2 h3 h4
  · have z1 : i ∉ vs := fun z => by cases wipeK_in z _ h'
    rw [wipeK_out z1] at h'
    obtain ⟨v, d, h1, h2, h3⟩ := r.im i fr h'
    exact ⟨v, d, by rw [wipe_out z1]; exact h1, h2, h3.weak fun a y => (fm_wipe h).mpr y⟩
  · have z1 : i ∉ vs := fun z => by cases wipeK_in z _ h'
    rw [wipeK_out z1] at h'
    obtain ⟨v, d, h1, h2, h3, h4⟩ := r.ow i c fr h'
    exact ⟨v, d, by rw [wipe_out z1]; exact h1, h2, h3, h4.map (fun o e => e) fun _ _ x => x.weak fun a y => (fm_wipe h).mpr y⟩
  · have z1 : i ∉ vs := fun z => by cases wipeK_in z _ h'
    rw [wipeK_out z1] at h'
    obtain ⟨p, h1, h2⟩ := r.ar i c fr h' ha
    exact ⟨p, h1, by rw [wipe_out z1]; exact h2⟩
def Fm.with (f : Fm) (P : List Addr) (g : List (List V × List Dt × Bool)) : Fm := { f with P := P ++ f.P, Γ := g ++ f.Γ, hS := fun a h => List.mem_append_right _ (f.hS a h) }
theorem R.addG {vs : List V} {es : List Dt} {fr : Bool} (r : R K f Δ ρ σ H) (x : RpA K (FM f Δ σ true fr) H vs es) : R K { f with Γ := (vs, es, fr) :: f.Γ } Δ ρ σ H := by
  refine ⟨r.ext, r.g0, r.lσ, r.lρ, r.inj, r.pin, fun g hg => ?_, r.im, r.ow, r.ar, r.sp, r.sl⟩
  rcases List.mem_cons.mp hg with e | h
  · subst e; exact x
  · exact r.gh g h
theorem R.dropG {g : List V × List Dt × Bool} {Γ : List (List V × List Dt × Bool)} (r : R K { f with Γ := g :: Γ } Δ ρ σ H) : R K { f with Γ := Γ } Δ ρ σ H :=
  ⟨r.ext, r.g0, r.lσ, r.lρ, r.inj, r.pin, fun g hg => r.gh g (List.mem_cons_of_mem _ hg), r.im, r.ow, r.ar, r.sp, r.sl⟩
abbrev Fm.pn (f : Fm) (p : Addr) : Fm := { f with P := p :: f.P, hS := fun a h => List.mem_cons_of_mem _ (f.hS a h) }
theorem R.addP {p : Addr} {o : HO} (r : R K f Δ ρ σ H) (np : H p = none) (m : Mutb o) : R K (f.pn p) Δ ρ σ (upd H p o) := by
  obtain ⟨f1, f2, f3⟩ := r.fresh np
  have key : ∀ {fr : Bool} {v : V} {d : Dt}, Rp K (FM f Δ σ true fr) H v d → Rp K (FM (f.pn p) Δ σ true fr) (upd H p o) v d := fun h =>
    h.mono (same_upd np) fun a fa na => ⟨fun _ => ⟨(fa.1 rfl).1, fun z => by
      rcases List.mem_cons.mp z with e | h
      · exact na (e ▸ np)
      · exact (fa.1 rfl).2 h⟩, fa.2⟩
  refine ⟨r.ext.trans (same_upd np), r.g0, r.lσ, r.lρ, r.inj, fun a ha => ?_, fun g hg => (r.gh g hg).map fun _ _ x => key x, fun i fr h => ?_, fun i c fr h => ?_, r.ar, r.sp, fun i t h => let ⟨v, d, h1, h2, h3⟩ := r.sl i t h; ⟨v, d, h1, h2, h3.same (same_upd np)⟩⟩
  · rcases List.mem_cons.mp ha with e | h
    · subst e
      exact ⟨⟨o, upd_same, m⟩, f1⟩
    · obtain ⟨⟨u, hu, mu⟩, no⟩ := r.pin a h
      exact ⟨⟨u, same_upd np _ _ hu, mu⟩, no⟩
  · obtain ⟨v, d, h1, h2, h3⟩ := r.im i fr h
    exact ⟨v, d, h1, h2, key h3⟩
  · obtain ⟨v, d, h1, h2, h3, h4⟩ := r.ow i c fr h
    exact ⟨v, d, h1, h2, h3, h4.map (fun o e => same_upd np _ _ e) fun _ _ x => key x⟩
end
def lcE (h : Dt → List Dt → O (List Dt)) (gt : List Dt → O Bool) (ge : Gd) (ρ : List Dt) : List Dt → O (List Dt)
  | [] => .ok []
  | d :: ds => bnd (h d ρ) fun ρ' => bnd (gt ρ') fun b => if b then bnd (ge ρ') fun e => bnd (lcE h gt ge ρ ds) fun es => .ok (e :: es) else lcE h gt ge ρ ds
def gLc (gi : List Dt → O (List Dt)) (h : Dt → List Dt → O (List Dt)) (gt : List Dt → O Bool) (ge : Gd) : Gd := fun ρ => bnd (gi ρ) fun ds => if ds.length ≤ 100000 then (match lcE h gt ge ρ ds with
  | .ok es => .ok (.list es)
  | _ => .bad) else .bad
def gYes : List Dt → O Bool := fun _ => .ok true
theorem bnd_inv {α β : Type} {x : O α} {k : α → O β} {z : β} (h : bnd x k = .ok z) : ∃ a, x = .ok a ∧ k a = .ok z := by
  cases x with
  | bad => cases h
  | ex e => cases h
  | ok a => exact ⟨a, rfl, h⟩
theorem se_lc {K : PySem.W.Frag} {W : Wt} {Δ : List Kd} {wi : TI} {g : TG} {tt : TT} {te : TE} {vs sl : List Nat} {b fr fr' : Bool} {gi : List Dt → O (List Dt)} {h : Dt → List Dt → O (List Dt)} {TK : Bool → List Kd → List Kd} {gt : List Dt → O Bool} {ge : Gd} {n : Nat}
    (hi : SI K W Δ wi b fr gi) (hg : GJ K n g sl h TK) (hn : Δ.length = n) (hsl : ∀ i ∈ sl, i ∈ vs) (no : noOwn Δ vs = true) (ht : ST K W0 (TK fr (wipeK Δ vs)) tt gt) (he : SE K W0 (TK fr (wipeK Δ vs)) te (.v true fr') ge) :
    SE K W Δ (tLc wi g tt te vs) (.new .l fr') (gLc gi h gt ge) := fun f ρ σ H Q r q => by
  refine hi f ρ σ H _ r ?_
  unfold gLc at q
  cases e1 : gi ρ with
  | bad => rw [e1] at q; exact q
  | ex z => rw [e1] at q; exact q
  | ok ds =>
    rw [e1, bnd_ok] at q
    by_cases hl : ds.length ≤ 100000
    · rw [if_pos hl] at q
      cases ea : lcE h gt ge ρ ds with
      | bad => rw [ea] at q; exact q.elim
      | ex z => rw [ea] at q; exact q.elim
      | ok all =>
        rw [ea] at q
        intro J H1 pf gv ge0 s1 hb hpf x1 sc D nD
        -- the frame within
        have r1 := (((r.mono s1).addP (o := .lst []) nD trivial).addG (fr := fr) (x1.mono (same_upd nD) fun a fa na => ⟨fun _ => ⟨(fa.1 rfl).1, fun z => by
          rcases List.mem_cons.mp z with e | h
          · exact na (e ▸ nD)
          · exact (fa.1 rfl).2 h⟩, fa.2⟩))
        generalize hf1 : ({ f.pn D with Γ := (gv, ge0, fr) :: f.Γ } : Fm) = f1 at r1
        have r1 : R K f1 Δ ρ σ (upd H1 D (.lst [])) := by rw [← hf1]; rw [← hf1] at r1; exact r1
        have dP : D ∈ f1.P := by rw [← hf1]; exact List.mem_cons_self
        have gG : (gv, ge0, fr) ∈ f1.Γ := by rw [← hf1]; exact List.mem_cons_self
        have h0 : f1.H0 D = none := by rw [← hf1]; exact ((r.mono s1).fresh nD).2.2
        have fmf : ∀ {fr : Bool} {a : Addr}, FM f1 Δ σ true fr a → FM f Δ σ true fr a ∧ a ≠ D := fun {fr a} y => by
          rw [← hf1] at y
          exact ⟨⟨fun e => ⟨(y.1 e).1, fun z => (y.1 e).2 (List.mem_cons_of_mem _ z)⟩, y.2⟩, fun z => (y.1 rfl).2 (z ▸ List.mem_cons_self)⟩
        have hDS : D ∉ f1.S := by
          rw [← hf1]
          exact fun z => ((r.mono s1).fresh nD).2.1 (f.hS D z)
        have noSl : ∀ i ∈ sl, ∀ c fr, (wipeK Δ vs)[i]? ≠ some (.own c fr) := fun i hi c fr e => by cases wipeK_in (hsl i hi) _ e
        refine ⟨fun i m H' => m = ds.length - i ∧ i ≤ ds.length ∧ ∃ acc es rest, H' D = some (.lst acc) ∧ R K f1 Δ ρ σ H' ∧ RpA K (FM f1 Δ σ true fr') H' acc es ∧ acc.length ≤ i ∧ lcE h gt ge ρ (ds.drop i) = .ok rest ∧ all = es ++ rest ∧ Same H H' ∧ (∀ q, pf = some q → H' q.1 = some q.2),
          ⟨ds.length, by simp, Nat.zero_le _, [], [], all, upd_same, r1, .nil, Nat.le_refl _, ea, rfl, s1.trans (same_upd nD), fun q eq => same_upd nD _ _ (hpf q eq)⟩, ?_⟩
        rintro i m H2 ⟨rfl, hi2, acc, es, rest, hD, r2, x2, la, er, eall, sHH, hpf2⟩
        have stand : (∀ q, pf = some q → H2 q.1 = some q.2) ∧ ∃ F, RpA K F H2 gv ge0 := ⟨hpf2, _, r2.gh _ gG⟩
        by_cases hlt : i < ds.length
        · refine .inr ⟨sc.goes i H2 hlt stand, fun H' => i + 1 ≤ ds.length ∧ ∃ acc es rest, H' D = some (.lst acc) ∧ R K f1 Δ ρ σ H' ∧ RpA K (FM f1 Δ σ true fr') H' acc es ∧ acc.length ≤ i + 1 ∧ lcE h gt ge ρ (ds.drop (i + 1)) = .ok rest ∧ all = es ++ rest ∧ Same H H' ∧ (∀ q, pf = some q → H' q.1 = some q.2),
            fun H' w => ⟨ds.length - (i + 1), by omega, rfl, w⟩, fun x H3 hy => ?_⟩
          obtain ⟨s3, hx⟩ := sc.yields i H2 x H3 hlt stand hy
          obtain ⟨d, hd, x3⟩ := hx _ (r2.gh _ gG)
          have edrop : ds.drop i = d :: ds.drop (i + 1) := by
            have hd' := (List.getElem?_eq_some_iff.mp hd).2
            rw [List.drop_eq_getElem_cons hlt, hd']
          rw [edrop] at er
          unfold lcE at er
          obtain ⟨ρ', eh, er⟩ := bnd_inv er
          obtain ⟨c, ec, er⟩ := bnd_inv er
          have r3 := r2.mono s3
          refine hg f1 (wipeK Δ vs) ρ (wipe σ vs) H3 x d fr _ (by rw [wipeK_len]; exact hn) (r3.wipe no) (x3.weak fun a y => (fm_wipe no).mpr y) ?_
          rw [eh]
          intro σ4 t4
          refine ⟨?_, ?_⟩
          · rw [wipe_eq (σ' := σ4) (σ := wipe σ vs) (by rw [t4.r.lσ, t4.len, wipeK_len, wipe_length, r.lσ]) fun i hi => (t4.keep i fun z => hi (hsl i z)).2]
            exact wipe_eq (wipe_length σ vs) fun i hi => wipe_out hi
          · refine ht f1 ρ' σ4 H3 _ t4.r ?_
            rw [ec]
            intro H4 s4
            cases c with
            | false =>
              show (if false = true then _ else _)
              rw [if_neg Bool.false_ne_true]
              have er : lcE h gt ge ρ (ds.drop (i + 1)) = .ok rest := er
              have s24 := s3.trans s4
              exact ⟨hlt, acc, es, rest, s24 _ _ hD, r2.mono s24, x2.same s24, by omega, er, eall, sHH.trans s24, fun q eq => s24 _ _ (hpf2 q eq)⟩
            | true =>
              show (if true = true then _ else _)
              rw [if_pos rfl]
              have er : bnd (ge ρ') (fun e => bnd (lcE h gt ge ρ (ds.drop (i + 1))) fun es => .ok (e :: es)) = .ok rest := er
              obtain ⟨e, ee, er⟩ := bnd_inv er
              obtain ⟨es', ees, er⟩ := bnd_inv er
              cases er
              refine he f1 ρ' σ4 H4 _ (t4.r.mono s4) ?_
              rw [ee]
              intro y H5 s5 x5
              have s25 := (s3.trans s4).trans s5
              have hD5 := s25 _ _ hD
              refine ⟨acc, hD5, Nat.lt_of_lt_of_le (show acc.length < 100001 by omega) (by decide), hlt, acc ++ [y], es ++ [e], es', upd_same, (r2.mono s25).updAt hD5 trivial trivial h0 (fun z => ((r2.pin D dP).2 z)) dP (fun _ _ _ => hDS), ?_, by rw [List.length_append, List.length_singleton]; omega, ees, by rw [eall]; simp, ?_, fun q eq => ?_⟩
              · refine ((x2.same s25).updM hD5 trivial fun a y z => (y.1 rfl).2 (z ▸ dP)).append (.cons ?_ .nil)
                refine Rp.updM hD5 trivial (fun a y z => (y.1 rfl).2 (z ▸ dP)) (x5.weak fun a y => (fm_wipe no).mp (t4.fm' noSl y))
              · intro a o ha
                have na : a ≠ D := fun z => by
                  have z1 := s1 _ _ ha
                  rw [z, nD] at z1
                  cases z1
                rw [upd_ne na]
                exact s25 _ _ (sHH _ _ ha)
              · have nq : q.1 ≠ D := fun z => by
                  have z1 := hpf q eq
                  rw [z, nD] at z1
                  cases z1
                rw [upd_ne nq]
                exact s25 _ _ (hpf2 q eq)
        · have ei : i = ds.length := by omega
          subst ei
          refine .inl ⟨sc.stops H2 stand, ?_⟩
          rw [List.drop_length] at er
          cases er
          rw [List.append_nil] at eall
          subst eall
          refine q D H2 (s1.free nD) sHH ⟨acc, _, rfl, hD, x2.weak fun a y => fmf y⟩
    · rw [if_neg hl] at q
      exact q.elim
end Sim
end T_SimE
section T_SimF
set_option Elab.async false
set_option linter.all false
set_option maxRecDepth 100000
namespace Sim
open PySem PySem.Spec L2
open PyProof.Rows hiding St
inductive Fl where
  | nx (ρ : List Dt) | rt (d : Dt) | bk (ρ : List Dt) | ct (ρ : List Dt)
abbrev Gs := List Dt → O Fl
inductive Lk where
  | n | l | m | ml | t
def sclA : List Dt → Bool
  | [] => true
  | d :: ds => scl d && sclA ds
def sclV : List (Dt × Dt) → Bool
  | [] => true
  | d :: ds => scl d.2 && sclV ds
def ArgAt (K : PySem.W.Frag) (H : Hp) (a : Addr) (d : Dt) : Prop := match d with
  | .list es => sclA es = true ∧ ∃ ws, H a = some (.lst ws) ∧ RpA K (fun _ => False) H ws es
  | .dict es => sclV es = true ∧ ∃ kvs, H a = some (.dK kvs) ∧ KvA K (fun _ => False) H kvs es
  | _ => False
def PoS (K : PySem.W.Frag) (W : Wt) (L : Lk) (f : Fm) (Δn Δb Δc : List Kd) (o : O Fl) (E : Ends) : Prop := match o with
  | .bad => False
  | .ex e => ∀ σ' H', Same f.H0 H' → W e σ' H'
  | .ok (.nx ρ) => ∀ σ' H', R K f Δn ρ σ' H' → E.nx σ' H'
  | .ok (.rt d) => (match L with
    | .l => ∀ p H', f.H0 p = none → Same f.H0 H' → OwC K .l (fun a => f.G a ∧ a ≠ p) H' p d → E.rt (.ref p) H'
    | .n => ∀ v H', Same f.H0 H' → Rp K f.G H' v d → E.rt v H'
    | .t => ∀ v H' L, Same f.H0 H' → Tr K f.G H' v d L → E.rt v H'
    | .m => (match f.A, d with
      | some a, .tuple [r, e] => ∀ v H', Same f.H0 H' → ArgAt K H' a e → Rp K (fun b => f.G b ∧ b ≠ a) H' v r → E.rt v H'
      | _, _ => False)
    | .ml => (match f.A, d with
      | some a, .tuple [r, e] => ∀ p H', p ≠ a → f.H0 p = none → Same f.H0 H' → ArgAt K H' a e → OwC K .l (fun b => (f.G b ∧ b ≠ a) ∧ b ≠ p) H' p r → E.rt (.ref p) H'
      | _, _ => False))
  | .ok (.bk ρ) => ∀ σ' H', R K f Δb ρ σ' H' → E.bk σ' H'
  | .ok (.ct ρ) => ∀ σ' H', R K f Δc ρ σ' H' → E.ct σ' H'
def SS (K : PySem.W.Frag) (W : Wt) (L : Lk) (Δ Δn Δb Δc : List Kd) (ts : TS) (g : Gs) : Prop := ∀ f ρ σ H E, R K f Δ ρ σ H → PoS K W L f Δn Δb Δc (g ρ) E → ts E σ H
def gNext : Gs := fun ρ => .ok (.nx ρ)
def gSeqS (a b : Gs) : Gs := fun ρ => match a ρ with
  | .ok (.nx ρ') => b ρ'
  | o => o
def gRet (g : Gd) : Gs := fun ρ => bnd (g ρ) fun d => .ok (.rt d)
def gAsg (g : Gd) (h : Dt → List Dt → O (List Dt)) : Gs := fun ρ => bnd (g ρ) fun d => match h d ρ with
  | .ok ρ' => .ok (.nx ρ')
  | _ => .bad
def gSet (i : Nat) (g : Gd) : Gs := fun ρ => bnd (g ρ) fun d => .ok (.nx (ρ.set i d))
def gDrop (g : Gd) : Gs := fun ρ => bnd (g ρ) fun _ => .ok (.nx ρ)
def gApp (i : Nat) (g : Gd) : Gs := fun ρ => match ρ[i]? with
  | some (.list ds) => bnd (g ρ) fun d => if ds.length < 100000 then .ok (.nx (ρ.set i (.list (ds ++ [d])))) else .bad
  | _ => .bad
def gSetI (i : Nat) (ge gi : Gd) : Gs := fun ρ => bnd (ge ρ) fun d => match ρ[i]? with
  | some (.list ds) => bnd (gi ρ) fun k => (match k with
    | .int k => (match ixN ds.length k with
      | some j => .ok (.nx (ρ.set i (.list (ds.set j d))))
      | none => .bad)
    | _ => .bad)
  | _ => .bad
def gIfS (t : List Dt → O Bool) (a b : Gs) : Gs := fun ρ => bnd (t ρ) fun c => if c then a ρ else b ρ
def gWhile (t : List Dt → O Bool) (b : Gs) : Nat → Gs
  | 0 => fun _ => .bad
  | n + 1 => fun ρ => bnd (t ρ) fun c => if c then (bnd (b ρ) fun fl => match fl with
    | .nx ρ' => gWhile t b n ρ'
    | .ct ρ' => gWhile t b n ρ'
    | .bk ρ' => .ok (.nx ρ')
    | .rt d => .ok (.rt d)) else .ok (.nx ρ)
def forE (h : Dt → List Dt → O (List Dt)) (b : Gs) : List Dt → Gs
  | [] => fun ρ => .ok (.nx ρ)
  | d :: ds => fun ρ => match h d ρ with
    | .ok ρ1 => bnd (b ρ1) fun fl => (match fl with
      | .nx ρ' => forE h b ds ρ'
      | .ct ρ' => forE h b ds ρ'
      | .bk ρ' => .ok (.nx ρ')
      | .rt d => .ok (.rt d))
    | _ => .bad
def gFor (gi : List Dt → O (List Dt)) (h : Dt → List Dt → O (List Dt)) (b : Gs) : Gs := fun ρ => bnd (gi ρ) fun ds => forE h b ds ρ
section
variable {K : PySem.W.Frag} {W : Wt} {Δ Δ1 Δ2 Δn Δb Δc : List Kd} {te ti : TE} {tt : TT} {t u : TS} {ta : TA} {g ge gi : Gd} {gt : List Dt → O Bool} {gA : List Dt → O (List Dt)} {ga gb : Gs} {fr fr' av av' : Bool} {L : Lk} {i j : Nat}
theorem SS.pre (h : SS K W L Δ1 Δn Δb Δc t ga) (l : leA Δ Δ1 = true) : SS K W L Δ Δn Δb Δc t ga := fun f ρ σ H E r q => h f ρ σ H E (r.weak l) q
theorem SS.post {Δn' Δb' Δc' : List Kd} (h : SS K W L Δ Δn Δb Δc t ga) (ln : leA Δn Δn' = true) (lb : leA Δb Δb' = true) (lc : leA Δc Δc' = true) : SS K W L Δ Δn' Δb' Δc' t ga := fun f ρ σ H E r q => h f ρ σ H E r <| by
  cases e : ga ρ with
  | bad => rw [e] at q; exact q
  | ex z => rw [e] at q; exact q
  | ok fl =>
    rw [e] at q
    cases fl with
    | nx ρ' => exact fun σ' H' r => q σ' H' (r.weak ln)
    | rt d => exact q
    | bk ρ' => exact fun σ' H' r => q σ' H' (r.weak lb)
    | ct ρ' => exact fun σ' H' r => q σ' H' (r.weak lc)
theorem s_next : SS K W L Δ Δ Δb Δc tNext gNext := fun f ρ σ H E r q => q σ H r
theorem s_seq (h1 : SS K W L Δ Δ1 Δb Δc t ga) (h2 : SS K W L Δ1 Δn Δb Δc u gb) : SS K W L Δ Δn Δb Δc (tSeq t u) (gSeqS ga gb) := fun f ρ σ H E r q => h1 f ρ σ H _ r <| by
  unfold gSeqS at q
  cases e : ga ρ with
  | bad => rw [e] at q; exact q
  | ex z => rw [e] at q; exact q
  | ok fl =>
    rw [e] at q
    cases fl with
    | nx ρ' => exact fun σ' H' r' => h2 f ρ' σ' H' E r' q
    | rt d => exact q
    | bk ρ' => exact q
    | ct ρ' => exact q
theorem s_ret (h : SE K W Δ te (.v av true) g) : SS K W .n Δ Δn Δb Δc (tRet te) (gRet g) := fun f ρ σ H E r q => h f ρ σ H _ r <| by
  unfold gRet at q
  cases e : g ρ with
  | bad => rw [e] at q; exact q
  | ex z => rw [e] at q; exact fun H' s => q σ H' (r.ext.trans s)
  | ok d =>
    rw [e] at q
    exact fun v H' s x => q v H' (r.ext.trans s) (x.weak fun a fa => fa.2 rfl)
theorem s_retL (h : SE K W Δ te (.new .l true) g) : SS K W .l Δ Δn Δb Δc (tRet te) (gRet g) := fun f ρ σ H E r q => h f ρ σ H _ r <| by
  unfold gRet at q
  cases e : g ρ with
  | bad => rw [e] at q; exact q
  | ex z => rw [e] at q; exact fun H' s => q σ H' (r.ext.trans s)
  | ok d =>
    rw [e] at q
    exact fun p H' np s x => q p H' (r.fresh np).2.2 (r.ext.trans s) (x.map (fun _ e => e) fun _ _ y => y.weak fun a fa => ⟨fa.1.2 rfl, fa.2⟩)
theorem s_retO (hk : Δ[i]? = some (.own .l true)) : SS K W .l Δ Δn Δb Δc (tRet (tVar i)) (gRet (gVar i)) := fun f ρ σ H E r q => by
  obtain ⟨p, d, h1, h2, h3, h4⟩ := r.ow i .l true hk
  unfold gRet gVar at q
  rw [h2, bnd_ok] at q
  exact ⟨_, h1, q p H h3 r.ext (h4.map (fun _ e => e) fun _ _ y => y.weak fun a fa => ⟨fa.2 rfl, fun z => (fa.1 rfl).1 (z ▸ ⟨i, .l, true, hk, h1⟩)⟩)⟩
theorem s_drop {k : Rk} (h : SE K W Δ te k g) : SS K W L Δ Δ Δb Δc (tDrop te) (gDrop g) := fun f ρ σ H E r q => h f ρ σ H _ r <| by
  unfold gDrop at q
  cases e : g ρ with
  | bad => rw [e] at q; exact q
  | ex z => rw [e] at q; exact fun H' s => q σ H' (r.ext.trans s)
  | ok d =>
    rw [e] at q
    cases k with
    | v av fr => exact fun v H' s x => q σ H' (r.mono s)
    | o fr => exact fun p H' vs ds e s _ _ _ => q σ H' (r.mono s)
    | new c fr => exact fun p H' np s x => q σ H' (r.mono s)
theorem s_set (hi : i < Δ.length) (h : SE K W Δ te (.v true fr) g) : SS K W L Δ (Δ.set i (.im fr)) Δb Δc (tAsg te (gName i)) (gSet i g) := fun f ρ σ H E r q => h f ρ σ H _ r <| by
  unfold gSet at q
  cases e : g ρ with
  | bad => rw [e] at q; exact q
  | ex z => rw [e] at q; exact fun H' s => q σ H' (r.ext.trans s)
  | ok d =>
    rw [e] at q
    exact fun v H' s x => q _ H' ((r.mono s).setIm hi x)
theorem s_setO {c : Ct} (hi : i < Δ.length) (h : SE K W Δ te (.new c fr) g) (hc : isArg c = false := by rfl) : SS K W L Δ (Δ.set i (.own c fr)) Δb Δc (tAsg te (gName i)) (gSet i g) := fun f ρ σ H E r q => h f ρ σ H _ r <| by
  unfold gSet at q
  cases e : g ρ with
  | bad => rw [e] at q; exact q
  | ex z => rw [e] at q; exact fun H' s => q σ H' (r.ext.trans s)
  | ok d =>
    rw [e] at q
    exact fun p H' np s x => q _ H' (r.setOwn hi np s x hc)
theorem s_asg {gg : TG} {sl : List Nat} {n : Nat} {hh : Dt → List Dt → O (List Dt)} {TK : Bool → List Kd → List Kd} (hn : Δ.length = n) (h : SE K W Δ te (.v true fr) g) (hg : GJ K n gg sl hh TK) : SS K W L Δ (TK fr Δ) Δb Δc (tAsg te gg) (gAsg g hh) := fun f ρ σ H E r q => h f ρ σ H _ r <| by
  unfold gAsg at q
  cases e : g ρ with
  | bad => rw [e] at q; exact q
  | ex z => rw [e] at q; exact fun H' s => q σ H' (r.ext.trans s)
  | ok d =>
    rw [e, bnd_ok] at q
    intro v H' s x
    refine hg f Δ ρ σ H' v d fr _ hn (r.mono s) x ?_
    cases e2 : hh d ρ with
    | bad => rw [e2] at q; exact q.elim
    | ex z => rw [e2] at q; exact q.elim
    | ok ρ' =>
      rw [e2] at q
      exact fun σ' t => q σ' H' t.r
theorem s_app (hk : Δ[i]? = some (.own .l fr)) (h : SE K W Δ te (.v true fr') g) : SS K W L Δ (Δ.set i (.own .l (fr && fr'))) Δb Δc (tDrop (tBM K "list" rAppend (tVar i) (tCons te tNil))) (gApp i g) := fun f ρ σ H E r q => by
  obtain ⟨p, d, h1, h2, h3, vs, ds, ed, h4, h5⟩ := r.ow i .l fr hk
  subst ed
  unfold gApp at q
  rw [h2] at q
  simp only at q
  refine ⟨_, h1, .inl ⟨rfl, _, .inl (.inl h4)⟩, h f ρ σ H _ r ?_⟩
  cases e : g ρ with
  | bad => rw [e] at q; exact q
  | ex z => rw [e] at q; exact fun H' s => q σ H' (r.ext.trans s)
  | ok d =>
    rw [e, bnd_ok] at q
    intro v H1 s x
    by_cases hl : ds.length < 100000
    · rw [if_pos hl] at q
      have hp := s _ _ h4
      have hl2 : vs.length < sizeLine := by rw [h5.length]; exact Nat.lt_of_lt_of_le hl (by decide)
      refine ⟨p, vs, v, rfl, rfl, hp, hl2, q σ _ ?_⟩
      refine (r.mono s).updOwn hk h1 (c' := .l) (show Mutb (.lst _) from trivial) ⟨_, _, rfl, upd_same, ?_⟩
      have nf : ∀ {fr : Bool} (a : Addr), FM f Δ σ true fr a → a ≠ p := fun a fa z => (fa.1 rfl).1 (z ▸ ⟨i, .l, _, hk, h1⟩)
      exact (((h5.same s).updM hp trivial fun a fa => nf a fa).weak fun a y => y.weak id fun h => (Bool.and_eq_true_iff.mp h).1).append
        (.cons ((Rp.updM hp trivial (fun a fa => nf a fa) x).weak fun a y => y.weak id fun h => (Bool.and_eq_true_iff.mp h).2) .nil)
    · rw [if_neg hl] at q
      exact q.elim
theorem s_setI (hk : Δ[i]? = some (.own .l fr)) (h : SE K W Δ te (.v true fr') ge) (h2 : SE K W Δ ti (.v av av') gi) : SS K W L Δ (Δ.set i (.own .l (fr && fr'))) Δb Δc (tAsg te (gSub (tVar i) ti rSetL)) (gSetI i ge gi) := fun f ρ σ H E r q => h f ρ σ H _ r <| by
  obtain ⟨p, d, g1, g2, g3, vs, ds, ed, g4, g5⟩ := r.ow i .l fr hk
  subst ed
  unfold gSetI at q
  cases e : ge ρ with
  | bad => rw [e] at q; exact q
  | ex z => rw [e] at q; exact fun H' s => q σ H' (r.ext.trans s)
  | ok d =>
    rw [e, bnd_ok, g2] at q
    simp only at q
    intro v H1 s x
    refine ⟨_, g1, h2 f ρ σ H1 _ (r.mono s) ?_⟩
    cases e2 : gi ρ with
    | bad => rw [e2] at q; exact q
    | ex z => rw [e2] at q; exact fun H' s2 => q σ H' ((r.ext.trans s).trans s2)
    | ok k =>
      rw [e2, bnd_ok] at q
      intro kv H2 s2 xk
      cases k with
      | int k =>
        simp only at q
        cases ej : ixN ds.length k with
        | none => rw [ej] at q; exact q.elim
        | some j =>
          rw [ej] at q
          rw [rpInt xk]
          have s12 := s.trans s2
          have hp := s12 _ _ g4
          refine ⟨p, vs, k, j, rfl, rfl, hp, by rw [g5.length]; exact ej, q σ _ ?_⟩
          refine (r.mono s12).updOwn hk g1 (c' := .l) (show Mutb (.lst _) from trivial) ⟨_, _, rfl, upd_same, ?_⟩
          have nf : ∀ {fr : Bool} (a : Addr), FM f Δ σ true fr a → a ≠ p := fun a fa z => (fa.1 rfl).1 (z ▸ ⟨i, .l, _, hk, g1⟩)
          exact RpA.set ((Rp.updM hp trivial (fun a fa => nf a fa) (x.same s2)).weak fun a y => y.weak id fun h => (Bool.and_eq_true_iff.mp h).2) j
            (((g5.same s12).updM hp trivial fun a fa => nf a fa).weak fun a y => y.weak id fun h => (Bool.and_eq_true_iff.mp h).1)
      | _ => exact q.elim
theorem s_if (h : ST K W Δ tt gt) (h1 : SS K W L Δ Δn Δb Δc t ga) (h2 : SS K W L Δ Δn Δb Δc u gb) : SS K W L Δ Δn Δb Δc (tIfS tt t u) (gIfS gt ga gb) := fun f ρ σ H E r q => h f ρ σ H _ r <| by
  unfold gIfS at q
  cases e : gt ρ with
  | bad => rw [e] at q; exact q
  | ex z => rw [e] at q; exact fun H' s => q σ H' (r.ext.trans s)
  | ok c =>
    rw [e, bnd_ok] at q
    intro H1 s
    cases c with
    | true => exact h1 f ρ σ H1 E (r.mono s) q
    | false => exact h2 f ρ σ H1 E (r.mono s) q
theorem s_while (n : Nat) (h : ST K W Δ tt gt) (hb : SS K W L Δ Δ Δ Δ t gb) : SS K W L Δ Δ Δb Δc (tWhile tt t) (gWhile gt gb n) := fun f ρ σ H E r q => by
  refine ⟨fun m σ H => ∃ ρ, R K f Δ ρ σ H ∧ PoS K W L f Δ Δb Δc (gWhile gt gb m ρ) E, ⟨n, ρ, r, q⟩, ?_⟩
  rintro m σ1 H1 ⟨ρ1, r1, q1⟩
  cases m with
  | zero => exact q1.elim
  | succ m =>
    refine h f ρ1 σ1 H1 _ r1 ?_
    unfold gWhile at q1
    cases e : gt ρ1 with
    | bad => rw [e] at q1; exact q1
    | ex z => rw [e] at q1; exact fun H' s => q1 σ1 H' (r1.ext.trans s)
    | ok c =>
      rw [e, bnd_ok] at q1
      intro H2 s2
      cases c with
      | false => exact q1 σ1 H2 (r1.mono s2)
      | true =>
        show (if true = true then _ else _)
        rw [if_pos rfl]
        refine ⟨fun σ' H' => ∃ ρ', R K f Δ ρ' σ' H' ∧ PoS K W L f Δ Δb Δc (gWhile gt gb m ρ') E, fun σ' H' w => ⟨m, Nat.lt_succ_self m, w⟩, hb f ρ1 σ1 H2 _ (r1.mono s2) ?_⟩
        have q1 : PoS K W L f Δ Δb Δc (bnd (gb ρ1) fun fl => match fl with | .nx ρ' => gWhile gt gb m ρ' | .ct ρ' => gWhile gt gb m ρ' | .bk ρ' => .ok (.nx ρ') | .rt d => .ok (.rt d)) E := q1
        cases e2 : gb ρ1 with
        | bad => rw [e2] at q1; exact q1
        | ex z => rw [e2] at q1; exact q1
        | ok fl =>
          rw [e2, bnd_ok] at q1
          cases fl with
          | nx ρ' => exact fun σ' H' r' => ⟨ρ', r', q1⟩
          | ct ρ' => exact fun σ' H' r' => ⟨ρ', r', q1⟩
          | bk ρ' => exact q1
          | rt d => exact q1
theorem PoS.toG {f : Fm} {gg : List V × List Dt × Bool} {o : O Fl} {E : Ends} (q : PoS K W L f Δn Δb Δc o E) : PoS K W L { f with Γ := gg :: f.Γ } Δn Δb Δc o E := by
  cases o with
  | bad => exact q
  | ex z => exact q
  | ok fl =>
    cases fl with
    | nx ρ => exact fun σ' H' r => q σ' H' r.dropG
    | rt d => exact q
    | bk ρ => exact fun σ' H' r => q σ' H' r.dropG
    | ct ρ => exact fun σ' H' r => q σ' H' r.dropG
theorem s_for {wi : TI} {gg : TG} {sl : List Nat} {n : Nat} {hh : Dt → List Dt → O (List Dt)} {TK : Bool → List Kd → List Kd} {gI : List Dt → O (List Dt)} (hn : Δ.length = n) (h : SI K W Δ wi false fr gI) (hg : GJ K n gg sl hh TK) (hb : SS K W L (TK fr Δ) Δ Δ Δ t gb) :
    SS K W L Δ Δ Δb Δc (tFor wi gg t) (gFor gI hh gb) := fun f ρ σ H E r q => h f ρ σ H _ r <| by
  unfold gFor at q
  cases e : gI ρ with
  | bad => rw [e] at q; exact q
  | ex z => rw [e] at q; exact fun H' s => q σ H' (r.ext.trans s)
  | ok ds =>
    rw [e, bnd_ok] at q
    intro J H1 pf vs es s1 hpf _ x sc
    have hpf := hpf rfl
    subst hpf
    have r1 := (r.mono s1).addG (fr := fr) x
    have q1 := q.toG (gg := (vs, es, fr))
    generalize hf1 : ({ f with Γ := (vs, es, fr) :: f.Γ } : Fm) = f1 at r1 q1
    have gG : (vs, es, fr) ∈ f1.Γ := by rw [← hf1]; exact List.mem_cons_self
    refine ⟨fun i m σ H => m = ds.length - i ∧ i ≤ ds.length ∧ ∃ ρ, R K f1 Δ ρ σ H ∧ PoS K W L f1 Δ Δb Δc (forE hh gb (ds.drop i) ρ) E, ⟨ds.length, by simp, Nat.zero_le _, ρ, r1, q1⟩, ?_⟩
    rintro i m σ2 H2 ⟨rfl, hi, ρ2, r2, q2⟩
    have stand : (∀ q, (none : Option (Addr × HO)) = some q → H2 q.1 = some q.2) ∧ ∃ F, RpA K F H2 vs es := ⟨fun _ e => (nomatch e), _, r2.gh _ gG⟩
    by_cases hlt : i < ds.length
    · refine .inr ⟨sc.goes i H2 hlt stand, fun σ' H' => i + 1 ≤ ds.length ∧ ∃ ρ, R K f1 Δ ρ σ' H' ∧ PoS K W L f1 Δ Δb Δc (forE hh gb (ds.drop (i + 1)) ρ) E, fun σ' H' w => ⟨ds.length - (i + 1), by omega, rfl, w⟩, fun x H3 hy => ?_⟩
      obtain ⟨s3, hx⟩ := sc.yields i H2 x H3 hlt stand hy
      obtain ⟨d, hd, x3⟩ := hx _ (r2.gh _ gG)
      have edrop : ds.drop i = d :: ds.drop (i + 1) := by
        have hd' := (List.getElem?_eq_some_iff.mp hd).2
        rw [List.drop_eq_getElem_cons hlt, hd']
      rw [edrop] at q2
      unfold forE at q2
      refine hg f1 Δ ρ2 σ2 H3 x d fr _ hn (r2.mono s3) x3 ?_
      cases eh : hh d ρ2 with
      | bad => rw [eh] at q2; exact q2.elim
      | ex z => rw [eh] at q2; exact q2.elim
      | ok ρ3 =>
        rw [eh] at q2
        simp only at q2
        intro σ4 t4
        refine hb f1 ρ3 σ4 H3 _ t4.r ?_
        cases e2 : gb ρ3 with
        | bad => rw [e2] at q2; exact q2
        | ex z => rw [e2] at q2; exact q2
        | ok fl =>
          rw [e2, bnd_ok] at q2
          cases fl with
          | nx ρ' => exact fun σ' H' r' => ⟨hlt, ρ', r', q2⟩
          | ct ρ' => exact fun σ' H' r' => ⟨hlt, ρ', r', q2⟩
          | bk ρ' => exact q2
          | rt d => exact q2
    · have ei : i = ds.length := by omega
      subst ei
      rw [List.drop_length] at q2
      exact .inl ⟨sc.stops H2 stand, q2 σ2 H2 r2⟩
end
def Wcls (mg : Str → Option Value) (e : Exn) (E : XK) (H' : Hp) : Prop := ∀ C, mg e.cls = some (.ref C) → match e.arg with
  | none => E (.ref C) none H'
  | some m => ∀ d, H' d = some (.xd [("moment", .int m)]) → E (.ref C) (some d) H'
def spG (K : PySem.W.Frag) (mg : Str → Option Value) (n : Nat) (g : List Dt → O Dt) : Sp := fun vs H Q E => ∃ ds, vs.length = n ∧ RpA K (fun _ => True) H vs ds ∧ (match g ds with
  | .bad => False
  | .ex e => ∀ H', Same H H' → Wcls mg e E H'
  | .ok d => ∀ v H', Same H H' → Rp K (fun a => H a = none) H' v d → Q v H')
def spA (K : PySem.W.Frag) (mg : Str → Option Value) (n : Nat) (g : List Dt → O Dt) : Sp := fun vs H Q E => ∃ ds F, vs.length = n ∧ RpA K F H vs ds ∧ (match g ds with
  | .bad => False
  | .ex e => ∀ H', Same H H' → Wcls mg e E H'
  | .ok d => ∀ v H', Same H H' → Rp K (fun a => F a ∨ H a = none) H' v d → Q v H')
def spL (K : PySem.W.Frag) (mg : Str → Option Value) (n : Nat) (g : List Dt → O Dt) : Sp := fun vs H Q E => ∃ ds, vs.length = n ∧ RpA K (fun _ => True) H vs ds ∧ (match g ds with
  | .bad => False
  | .ex e => ∀ H', Same H H' → Wcls mg e E H'
  | .ok d => ∀ p H', H p = none → Same H H' → OwC K .l (fun a => H a = none ∧ a ≠ p) H' p d → Q (.ref p) H')
def gCallN (n : Nat) (g : List Dt → O Dt) (gA : List Dt → O (List Dt)) : Gd := fun ρ => bnd (gA ρ) fun ds => if ds.length = n then (match g ds with
  | .ok d => .ok d
  | _ => .bad) else .bad
section
variable {K : PySem.W.Frag} {W : Wt} {Δ : List Kd} {ta : TA} {gA : List Dt → O (List Dt)} {av fr : Bool} {mg : Str → Option Value} {n : Nat} {g : List Dt → O Dt}
theorem se_callN (h : SA K W Δ ta av fr gA) : SE K W Δ (tCall (spG K mg n g) [] E0 ta) (.v true true) (gCallN n g gA) := fun f ρ σ H Q r q => h f ρ σ H _ r <| by
  unfold gCallN at q
  cases e : gA ρ with
  | bad => rw [e] at q; exact q
  | ex z => rw [e] at q; exact q
  | ok ds =>
    rw [e, bnd_ok] at q
    intro vs H1 s1 x1
    by_cases hn : ds.length = n
    · rw [if_pos hn] at q
      rw [List.append_nil]
      refine ⟨ds, by rw [x1.length]; exact hn, x1.weak fun _ _ => trivial, ?_⟩
      cases e2 : g ds with
      | bad => rw [e2] at q; exact q.elim
      | ex z => rw [e2] at q; exact q.elim
      | ok d =>
        rw [e2] at q
        intro v H2 s2 x2
        refine q v H2 (s1.trans s2) (x2.weak fun a na => ?_)
        obtain ⟨f1, f2, f3⟩ := (r.mono s1).fresh na
        exact ⟨fun _ => ⟨f1, f2⟩, fun _ => r.g0 a f3⟩
    · rw [if_neg hn] at q
      exact q.elim
theorem se_callL (h : SA K W Δ ta av fr gA) : SE K W Δ (tCall (spL K mg n g) [] E0 ta) (.new .l true) (gCallN n g gA) := fun f ρ σ H Q r q => h f ρ σ H _ r <| by
  unfold gCallN at q
  cases e : gA ρ with
  | bad => rw [e] at q; exact q
  | ex z => rw [e] at q; exact q
  | ok ds =>
    rw [e, bnd_ok] at q
    intro vs H1 s1 x1
    by_cases hn : ds.length = n
    · rw [if_pos hn] at q
      rw [List.append_nil]
      refine ⟨ds, by rw [x1.length]; exact hn, x1.weak fun _ _ => trivial, ?_⟩
      cases e2 : g ds with
      | bad => rw [e2] at q; exact q.elim
      | ex z => rw [e2] at q; exact q.elim
      | ok d =>
        rw [e2] at q
        intro p H2 np s2 x2
        refine q p H2 (s1.free np) (s1.trans s2) (x2.map (fun _ e => e) fun _ _ y => y.weak fun a na => ?_)
        obtain ⟨f1, f2, f3⟩ := (r.mono s1).fresh na.1
        exact ⟨⟨fun _ => ⟨f1, f2⟩, fun _ => r.g0 a f3⟩, na.2⟩
    · rw [if_neg hn] at q
      exact q.elim
theorem se_callA (h : SA K W Δ ta av fr gA) : SE K W Δ (tCall (spA K mg n g) [] E0 ta) (.v av fr) (gCallN n g gA) := fun f ρ σ H Q r q => h f ρ σ H _ r <| by
  unfold gCallN at q
  cases e : gA ρ with
  | bad => rw [e] at q; exact q
  | ex z => rw [e] at q; exact q
  | ok ds =>
    rw [e, bnd_ok] at q
    intro vs H1 s1 x1
    by_cases hn : ds.length = n
    · rw [if_pos hn] at q
      rw [List.append_nil]
      refine ⟨ds, _, by rw [x1.length]; exact hn, x1, ?_⟩
      cases e2 : g ds with
      | bad => rw [e2] at q; exact q.elim
      | ex z => rw [e2] at q; exact q.elim
      | ok d =>
        rw [e2] at q
        intro v H2 s2 x2
        refine q v H2 (s1.trans s2) (x2.weak fun a na => ?_)
        rcases na with na | na
        · exact na
        · obtain ⟨f1, f2, f3⟩ := (r.mono s1).fresh na
          exact ⟨fun _ => ⟨f1, f2⟩, fun _ => r.g0 a f3⟩
    · rw [if_neg hn] at q
      exact q.elim
end
end Sim
end T_SimF
section T_SimG
set_option Elab.async false
set_option linter.all false
set_option maxRecDepth 100000
namespace Sim
open PySem PySem.Spec L2
open PyProof.Rows hiding St
section
variable {X : Cx} {K : PySem.W.Frag} {W : Wt} {Δ Δ1 Δn Δb Δc : List Kd} {a b c e elt tg iter : Expr} {es ifs : List Expr} {ta tb tc te : TE} {tt tu : TT} {tA : TA} {ga gb gc g ge gi : Gd} {gt gu : List Dt → O Bool} {gA gI : List Dt → O (List Dt)} {k k1 k2 : Rk} {av fr av' fr' : Bool} {L : Lk} {pos : Pos} {t u : TS} {g1 g2 : Gs}
theorem x_ix (ha : PD X K W Δ a ta (.v av fr) ga) (hb : PD X K W Δ b tb (.v av' fr') gb) (hs : PlainIx b := by exact fun _ _ => rfl) : PD X K W Δ (.Subscript a b pos) (tOp (rIx K) ta tb) (.v av fr) (gOp hIx ga gb) :=
  ⟨pe_ix (by have q := ix_seq (X := X); rw [ha.hK] at q; exact q) ha.pe hb.pe hs, ha.hK, se_ix ha.se hb.se⟩
theorem x_ixO (ha : PD X K W Δ a ta (.o fr) ga) (hb : PD X K W Δ b tb (.v av' fr') gb) (hs : PlainIx b := by exact fun _ _ => rfl) : PD X K W Δ (.Subscript a b pos) (tOp (rIx K) ta tb) (.v true fr) (gOp hIx ga gb) :=
  ⟨pe_ix (by have q := ix_seq (X := X); rw [ha.hK] at q; exact q) ha.pe hb.pe hs, ha.hK, se_ixO ha.se hb.se⟩
structure OD (X : Cx) (K : PySem.W.Frag) (W : Wt) (Δ : List Kd) (e : Option Expr) (to : TOp) (g : List Dt → O (Option Int)) : Prop where
  po : PO X e to
  so : SO K W Δ to g
theorem o_none : OD X K W Δ none tNoPart gNoPart := ⟨po_none, so_none⟩
theorem o_some (h : PD X K W Δ e te (.v av fr) g) : OD X K W Δ (some e) (tPart te) (gPart g) := ⟨po_some h.pe, so_some h.se⟩
theorem x_sl {lo hi : Option Expr} {tl th : TOp} {gl gh : List Dt → O (Option Int)} {p2 : Pos} (h : PD X K W Δ e te (.v true fr) g) (h1 : OD X K W Δ lo tl gl) (h2 : OD X K W Δ hi th gh) : PD X K W Δ (.Subscript e (.Slice lo hi none p2) pos) (tSl (rSlL K) te tl th) (.new .l fr) (gSl hSl g gl gh) :=
  ⟨pe_slice (by have q := sl_list (X := X); rw [h.hK] at q; exact q) h.pe h1.po h2.po, h.hK, se_sl h.se h1.so h2.so⟩
theorem x_cat (ha : PD X K W Δ a ta (.v true fr) ga) (hb : PD X K W Δ b tb (.v true fr') gb) : PD X K W Δ (.BinOp a .Add b pos) (tOp (rCatS K) ta tb) (.new .l (fr && fr')) (gOp hCat ga gb) :=
  ⟨pe_op (by have q := op_catS (X := X); rw [ha.hK] at q; exact q) ha.pe hb.pe, ha.hK, se_cat ha.se hb.se⟩
theorem x_catO (ha : PD X K W Δ a ta (.o fr) ga) (hb : PD X K W Δ b tb (.v true fr') gb) : PD X K W Δ (.BinOp a .Add b pos) (tOp (rCatS K) ta tb) (.new .l (fr && fr')) (gOp hCat ga gb) :=
  ⟨pe_op (by have q := op_catS (X := X); rw [ha.hK] at q; exact q) ha.pe hb.pe, ha.hK, se_catO ha.se hb.se⟩
theorem x_rep (ha : PD X K W Δ a ta (.new .l fr) ga) (hb : PD X K W Δ b tb (.v av' fr') gb) : PD X K W Δ (.BinOp a .Mult b pos) (tOp rRep ta tb) (.new .l fr) (gOp hRep ga gb) := ⟨pe_op op_rep ha.pe hb.pe, ha.hK, se_rep ha.se hb.se⟩
theorem x_list {x : Str} {p : Pos} (hm : X.mg x = none) (h : AD X K W Δ (e :: es) tA true fr gA) (hv : bootBuiltins x = some (.type "list") := by decide +kernel) (hg : Gl X x := by rfl) (hn : x ≠ "__name__" := by decide) (hdb : (x == ("__debug__" : Str)) = false := by decide)
    (he : starEach (e :: es) X.env = (false, eval e X.env) :: starEach es X.env := by rfl) (hpl : (backTo pos (starEach es X.env)).any (·.1) = false := by rfl) :
    PD X K W Δ (.Call (.Name x p) (e :: es) [] pos) (tCB (rListOf K) tA) (.new .l fr) (gCB (one hListOf) gA) :=
  ⟨pe_callTy (by have q := call_list_of (X := X); rw [h.hK] at q; exact q) hg hm hv h.pa hn hdb he hpl, h.hK, se_listOf h.sa⟩
theorem x_tuple {x : Str} {p : Pos} (hm : X.mg x = none) (h : AD X K W Δ (e :: es) tA av fr gA) (hv : bootBuiltins x = some (.type "tuple") := by decide +kernel) (hg : Gl X x := by rfl) (hn : x ≠ "__name__" := by decide) (hdb : (x == ("__debug__" : Str)) = false := by decide)
    (he : starEach (e :: es) X.env = (false, eval e X.env) :: starEach es X.env := by rfl) (hpl : (backTo pos (starEach es X.env)).any (·.1) = false := by rfl) :
    PD X K W Δ (.Call (.Name x p) (e :: es) [] pos) (tCB (fun xs H Q => ∃ p ys, xs = [.ref p] ∧ ((SqL K H p ys ∧ ∀ l, H l = none → Q (.ref l) (upd H l (.tup ys))) ∨ (SqT K H p ys ∧ Q (.ref p) H))) tA) (.v av fr) (gCB (one hTupOf) gA) :=
  ⟨pe_callTy (by have q := call_tuple_of (X := X); rw [h.hK] at q; exact q) hg hm hv h.pa hn hdb he hpl, h.hK, se_tupOf h.sa⟩
theorem i_seq (h : PD X K W Δ e te (.v true fr) g) : ID X K W Δ tg e (iSeq K te) false fr (gSeq g) := ⟨by have q := pi_seq (tg := tg) h.pe; rw [h.hK] at q; exact q, h.hK, si_seq h.se⟩
theorem i_rng1 {p : Pos} (hm : X.mg "range" = none) (h : AD X K W Δ [a] tA av fr gA) (hg : Gl X "range" := by rfl) (hs : starEach [a] X.env = [(false, eval a X.env)] := by rfl) : ID X K W Δ tg (.Call (.Name "range" p) [a] [] pos) (iRng1 tA) false true (gRng1 gA) := ⟨pi_range1 hg hm h.pa hs, h.hK, si_rng1 h.sa⟩
theorem i_rng2 {p : Pos} (hm : X.mg "range" = none) (h : AD X K W Δ [a, b] tA av fr gA) (hg : Gl X "range" := by rfl) (hs : starEach [a, b] X.env = [(false, eval a X.env), (false, eval b X.env)] := by rfl) (hs2 : starEach [b] X.env = [(false, eval b X.env)] := by rfl) :
    ID X K W Δ tg (.Call (.Name "range" p) [a, b] [] pos) (iRng2 tA) false true (gRng2 gA) := ⟨pi_range2 hg hm h.pa hs hs2, h.hK, si_rng2 h.sa⟩
theorem g_tup {n m kk : Nat} {gs : TGs} {sl : List Nat} {u : List Dt → List Dt → O (List Dt)} {T : Bool → List Kd → List Kd} (hc : X.calm = true) (h : GDs X K n es gs sl u T) (hm : ∀ ds ρ, ds.length ≠ m → ∀ z, u ds ρ ≠ .ok z) (hl : (assignEach es X.env).length = m := by rfl) (hst : List.findIdx? (fun x => x.fst) (assignEach es X.env) = none := by rfl) :
    GD X K n (.Tuple es kk pos) (L2.gTup K m gs) sl (tgT u) T := ⟨by have q := pg_tup (X := X) (k := kk) (n := m) (pos := pos) hc h.pg hl hst; rw [h.hK] at q; exact q, h.hK, gj_tup h.gj hm⟩
structure TsD (X : Cx) (K : PySem.W.Frag) (Δ : List Kd) (ifs : List Expr) (tt : TT) (g : List Dt → O Bool) : Prop where
  pts : PTs X ifs tt
  st : ST K W0 Δ tt g
theorem t_nil : TsD X K Δ [] tYes gYes := ⟨pts_nil, fun f ρ σ H Q r q => q H (Same.refl H)⟩
theorem t_one (h : TD X K W0 Δ c tt gt) : TsD X K Δ [c] tt gt := ⟨pts_one h.pt, h.st⟩
theorem x_lc {n : Nat} {scope : Scope} (own : List (Str × Nat)) {wi : TI} {gg : TG} {sl : List Nat} {hh : Dt → List Dt → O (List Dt)} {TK : Bool → List Kd → List Kd} {bb : Bool} (hN : X.N.Nodup) (hi : ID X K W Δ tg iter wi bb fr gI) (ok : blkC X.N X.env.scope scope own = true)
    (hg : ∀ (s : Shared) (H : Hp) (C : Addr) (cl : List (Str × Addr)) (fp : List Addr), GD (X.blk s H scope (compEnvC scope cl C X.env) fp) K n tg gg sl hh TK)
    (ht : ∀ (s : Shared) (H : Hp) (C : Addr) (cl : List (Str × Addr)) (fp : List Addr), TsD (X.blk s H scope (compEnvC scope cl C X.env) fp) K (TK fr (wipeK Δ (own.map (·.2)))) ifs tt gt)
    (he : ∀ (s : Shared) (H : Hp) (C : Addr) (cl : List (Str × Addr)) (fp : List Addr), PD (X.blk s H scope (compEnvC scope cl C X.env) fp) K W0 (TK fr (wipeK Δ (own.map (·.2)))) elt te (.v true fr') ge)
    (hn : Δ.length = n := by rfl) (hsl : ∀ i ∈ sl, i ∈ own.map (·.2) := by decide) (no : noOwn Δ (own.map (·.2)) = true := by rfl) (hc : X.calm = true := by rfl) (hs : ∀ x, foldedSetIterable iter X.env x = pure x := by intro _; rfl) :
    PD X K W Δ (.ListComp elt [⟨tg, iter, ifs, 0⟩] scope pos) (tLc wi gg tt te (own.map (·.2))) (.new .l fr') (gLc gI hh gt ge) :=
  ⟨pe_lc hc hN hi.pi (blkOk_by ok) (fun s H C cl fp => (hg s H C cl fp).pg) (fun s H C cl fp => (ht s H C cl fp).pts) (fun s H C cl fp => (he s H C cl fp).pe) hs, hi.hK,
    se_lc hi.si (hg X.s_0 X.H_0 0 [] []).gj hn hsl no (ht X.s_0 X.H_0 0 [] []).st (he X.s_0 X.H_0 0 [] []).se⟩
theorem x_callN {x : Str} {p : Pos} {CXT' : CXT} {kk nn : Nat} {fa : Addr} {fd : FuncData} {ps : List Str} {gg : List Dt → O Dt} {mg : Str → Option Value} (F : FnOk X.prog X.w X.K X.mg X.base CXT' kk fa fd ps (spG K mg nn gg)) (hr : Room kk X.A) (hm : X.mg x = some (.ref fa)) (hk : PySem.W.keepIn X.K (.ref fa) = true) (hb : Binds X.K fd ps [])
    (hx : Passes CXT' X E0) (h : AD X K W Δ (e :: es) tA av fr gA) (hg : Gl X x := by rfl) (hdb : (x == ("__debug__" : Str)) = false := by decide) (he : starEach (e :: es) X.env = (false, eval e X.env) :: starEach es X.env := by rfl) (hpl : (backTo pos (starEach es X.env)).any (·.1) = false := by rfl) :
    PD X K W Δ (.Call (.Name x p) (e :: es) [] pos) (tCall (spG K mg nn gg) [] E0 tA) (.v true true) (gCallN nn gg gA) := ⟨pe_call F hr hg hm hk hb .nil hx h.pa hdb he hpl, h.hK, se_callN h.sa⟩
theorem x_callL {x : Str} {p : Pos} {CXT' : CXT} {kk nn : Nat} {fa : Addr} {fd : FuncData} {ps : List Str} {gg : List Dt → O Dt} {mg : Str → Option Value} (F : FnOk X.prog X.w X.K X.mg X.base CXT' kk fa fd ps (spL K mg nn gg)) (hr : Room kk X.A) (hm : X.mg x = some (.ref fa)) (hk : PySem.W.keepIn X.K (.ref fa) = true) (hb : Binds X.K fd ps [])
    (hx : Passes CXT' X E0) (h : AD X K W Δ (e :: es) tA av fr gA) (hg : Gl X x := by rfl) (hdb : (x == ("__debug__" : Str)) = false := by decide) (he : starEach (e :: es) X.env = (false, eval e X.env) :: starEach es X.env := by rfl) (hpl : (backTo pos (starEach es X.env)).any (·.1) = false := by rfl) :
    PD X K W Δ (.Call (.Name x p) (e :: es) [] pos) (tCall (spL K mg nn gg) [] E0 tA) (.new .l true) (gCallN nn gg gA) := ⟨pe_call F hr hg hm hk hb .nil hx h.pa hdb he hpl, h.hK, se_callL h.sa⟩
theorem x_callA {x : Str} {p : Pos} {CXT' : CXT} {kk nn : Nat} {fa : Addr} {fd : FuncData} {ps : List Str} {gg : List Dt → O Dt} {mg : Str → Option Value} (F : FnOk X.prog X.w X.K X.mg X.base CXT' kk fa fd ps (spA K mg nn gg)) (hr : Room kk X.A) (hm : X.mg x = some (.ref fa)) (hk : PySem.W.keepIn X.K (.ref fa) = true) (hb : Binds X.K fd ps [])
    (hx : Passes CXT' X E0) (h : AD X K W Δ (e :: es) tA av fr gA) (hg : Gl X x := by rfl) (hdb : (x == ("__debug__" : Str)) = false := by decide) (he : starEach (e :: es) X.env = (false, eval e X.env) :: starEach es X.env := by rfl) (hpl : (backTo pos (starEach es X.env)).any (·.1) = false := by rfl) :
    PD X K W Δ (.Call (.Name x p) (e :: es) [] pos) (tCall (spA K mg nn gg) [] E0 tA) (.v av fr) (gCallN nn gg gA) := ⟨pe_call F hr hg hm hk hb .nil hx h.pa hdb he hpl, h.hK, se_callA h.sa⟩
end
structure SD (X : Cx) (K : PySem.W.Frag) (W : Wt) (L : Lk) (Δ Δn Δb Δc : List Kd) (st : Stmt) (ts : TS) (g : Gs) : Prop where
  ps : PS X st ts
  hK : X.K = K
  ss : SS K W L Δ Δn Δb Δc ts g
structure BD (X : Cx) (K : PySem.W.Frag) (W : Wt) (L : Lk) (Δ Δn Δb Δc : List Kd) (sts : List Stmt) (ts : TS) (g : Gs) : Prop where
  ps : PSs X sts ts
  hK : X.K = K
  ss : SS K W L Δ Δn Δb Δc ts g
section
variable {X : Cx} {K : PySem.W.Frag} {W : Wt} {Δ Δ1 Δ2 Δn Δb Δc : List Kd} {a b c e elt tg iter : Expr} {es ifs : List Expr} {ta tb tc te ti : TE} {tt tu : TT} {tA : TA} {ga gb gc g ge gi : Gd} {gt gu : List Dt → O Bool} {gA gI : List Dt → O (List Dt)} {k k1 k2 : Rk} {av fr av' fr' : Bool} {L : Lk} {pos pos' : Pos} {t u : TS} {g1 g2 : Gs} {st : Stmt} {sts sts2 : List Stmt}
theorem SD.pre (h : SD X K W L Δ1 Δn Δb Δc st t g1) (l : leA Δ Δ1 = true := by rfl) : SD X K W L Δ Δn Δb Δc st t g1 := ⟨h.ps, h.hK, h.ss.pre l⟩
theorem BD.post {Δn' Δb' Δc' : List Kd} (h : BD X K W L Δ Δn Δb Δc sts t g1) (ln : leA Δn Δn' = true := by rfl) (lb : leA Δb Δb' = true := by rfl) (lc : leA Δc Δc' = true := by rfl) : BD X K W L Δ Δn' Δb' Δc' sts t g1 := ⟨h.ps, h.hK, h.ss.post ln lb lc⟩
theorem b_nil (hK : X.K = K := by rfl) : BD X K W L Δ Δ Δb Δc [] tNext gNext := ⟨pss_nil, hK, s_next⟩
theorem b_one (h : SD X K W L Δ Δn Δb Δc st t g1) : BD X K W L Δ Δn Δb Δc [st] t g1 := ⟨pss_one h.ps, h.hK, h.ss⟩
theorem b_cons (h : SD X K W L Δ Δ1 Δb Δc st t g1) (h2 : BD X K W L Δ1 Δn Δb Δc sts u g2) : BD X K W L Δ Δn Δb Δc (st :: sts) (tSeq t u) (gSeqS g1 g2) := ⟨pss_cons h.ps h2.ps, h.hK, s_seq h.ss h2.ss⟩
theorem z_ret (h : PD X K W Δ e te (.v av true) g) : SD X K W .n Δ Δn Δb Δc (.Return (some e) pos) (tRet te) (gRet g) := ⟨ps_ret h.pe, h.hK, s_ret h.se⟩
theorem z_retL (h : PD X K W Δ e te (.new .l true) g) : SD X K W .l Δ Δn Δb Δc (.Return (some e) pos) (tRet te) (gRet g) := ⟨ps_ret h.pe, h.hK, s_retL h.se⟩
theorem z_retO (i : Nat) {x : Str} {p : Pos} (hk : Δ[i]? = some (.own .l true) := by rfl) (hN : X.N[i]? = some x := by rfl) (hv : Vis X.env.scope x := by first | exact Or.inl rfl | exact Or.inr (Or.inl rfl) | exact Or.inr (Or.inr rfl)) (hd : (x == ("__debug__" : Str)) = false := by decide)
    (hcd : (x == ("__classdict__" : Str)) = false := by decide) (hK : X.K = K := by rfl) : SD X K W .l Δ Δn Δb Δc (.Return (some (.Name x p)) pos) (tRet (tVar i)) (gRet (gVar i)) := ⟨ps_ret (pe_var hN hv hd hcd), hK, s_retO hk⟩
theorem z_expr (h : PD X K W Δ e te k g) (hs : swapsWith e none pos.line X.env = pure false := by rfl) : SD X K W L Δ Δ Δb Δc (.Expr e pos) (tDrop te) (gDrop g) := ⟨ps_expr h.pe hs, h.hK, s_drop h.se⟩
theorem z_set (i : Nat) {x : Str} (hN : X.N.Nodup) (h : PD X K W Δ e te (.v true fr) g) (hn : i < Δ.length := by decide) (hi : X.N[i]? = some x := by rfl) (hx : Loc X.env.scope x := by first | exact .inl rfl | exact .inr rfl) (hs : swapsWith e (some (.Name x pos')) pos.line X.env = pure false := by rfl) (hf : X.fn x = true ∨ X.env.scope.names.lookup x = some .local := by first | exact .inl rfl | exact .inr rfl) :
    SD X K W L Δ (Δ.set i (.im fr)) Δb Δc (.Assign [.Name x pos'] e pos) (tAsg te (gName i)) (gSet i g) := ⟨ps_set hN hi hx h.pe hs hf, h.hK, s_set hn h.se⟩
theorem z_setO (i : Nat) {x : Str} {ct : Ct} (hN : X.N.Nodup) (h : PD X K W Δ e te (.new ct fr) g) (hn : i < Δ.length := by decide) (hct : isArg ct = false := by rfl) (hi : X.N[i]? = some x := by rfl) (hx : Loc X.env.scope x := by first | exact .inl rfl | exact .inr rfl) (hs : swapsWith e (some (.Name x pos')) pos.line X.env = pure false := by rfl) (hf : X.fn x = true ∨ X.env.scope.names.lookup x = some .local := by first | exact .inl rfl | exact .inr rfl) :
    SD X K W L Δ (Δ.set i (.own ct fr)) Δb Δc (.Assign [.Name x pos'] e pos) (tAsg te (gName i)) (gSet i g) := ⟨ps_set hN hi hx h.pe hs hf, h.hK, s_setO hn h.se hct⟩
theorem z_setLc (i : Nat) {y : Str} {py : Pos} {n : Nat} {scope : Scope} (own : List (Str × Nat)) {wi : TI} {gg : TG} {sl : List Nat} {hh : Dt → List Dt → O (List Dt)} {TK : Bool → List Kd → List Kd} {bb : Bool} (hN : X.N.Nodup) (hi : ID X K W Δ tg iter wi bb fr gI) (ok : blkC X.N X.env.scope scope own = true)
    (hg : ∀ (s : Shared) (H : Hp) (C : Addr) (cl : List (Str × Addr)) (fp : List Addr), GD (X.blk s H scope (compEnvC scope cl C X.env) fp) K n tg gg sl hh TK)
    (ht : ∀ (s : Shared) (H : Hp) (C : Addr) (cl : List (Str × Addr)) (fp : List Addr), TsD (X.blk s H scope (compEnvC scope cl C X.env) fp) K (TK fr (wipeK Δ (own.map (·.2)))) ifs tt gt)
    (he : ∀ (s : Shared) (H : Hp) (C : Addr) (cl : List (Str × Addr)) (fp : List Addr), PD (X.blk s H scope (compEnvC scope cl C X.env) fp) K W0 (TK fr (wipeK Δ (own.map (·.2)))) elt te (.v true fr') ge)
    (hsw : swapsWith (.ListComp elt [⟨tg, iter, ifs, 0⟩] scope pos) (some (.Name y py)) pos'.line X.env = pure true) (hin : i < Δ.length := by decide) (hy : X.N[i]? = some y := by rfl) (hyl : X.env.scope.names.lookup y = some .local := by rfl)
    (hn : Δ.length = n := by rfl) (hsl : ∀ i ∈ sl, i ∈ own.map (·.2) := by decide) (no : noOwn Δ (own.map (·.2)) = true := by rfl) (hc : X.calm = true := by rfl) (hs : ∀ x, foldedSetIterable iter X.env x = pure x := by intro _; rfl) :
    SD X K W L Δ (Δ.set i (.own .l fr')) Δb Δc (.Assign [.Name y py] (.ListComp elt [⟨tg, iter, ifs, 0⟩] scope pos) pos') (tAsg (tLc wi gg tt te (own.map (·.2))) (gName i)) (gSet i (gLc gI hh gt ge)) :=
  ⟨ps_setLc hc hN hy hyl hsw hi.pi (blkOk_by ok) (fun s H C cl fp => (hg s H C cl fp).pg) (fun s H C cl fp => (ht s H C cl fp).pts) (fun s H C cl fp => (he s H C cl fp).pe) hs, hi.hK,
    s_setO hin (se_lc hi.si (hg X.s_0 X.H_0 0 [] []).gj hn hsl no (ht X.s_0 X.H_0 0 [] []).st (he X.s_0 X.H_0 0 [] []).se)⟩
theorem z_asg {n : Nat} {gg : TG} {sl : List Nat} {hh : Dt → List Dt → O (List Dt)} {TK : Bool → List Kd → List Kd} (h : PD X K W Δ e te (.v true fr) g) (hg : GD X K n tg gg sl hh TK) (hn : Δ.length = n := by rfl) (hs : swapsWithSole [tg] e pos.line X.env = pure false := by rfl) (hw : swappedStores [tg] e X.env = pure none := by rfl)
    (h1 : (assignEach [tg] X.env).map (·.2) = [assign tg X.env] := by rfl) : SD X K W L Δ (TK fr Δ) Δb Δc (.Assign [tg] e pos) (tAsg te gg) (gAsg g hh) := ⟨ps_asg h.pe hg.pg hs hw h1, h.hK, s_asg hn h.se hg.gj⟩
theorem z_app (i : Nat) {x : Str} {p p1 p2 : Pos} (h : PD X K W Δ e te (.v true fr') g) (hk : Δ[i]? = some (.own .l fr) := by rfl) (hv : Vis X.env.scope x := by first | exact Or.inl rfl | exact Or.inr (Or.inl rfl) | exact Or.inr (Or.inr rfl)) (hN : X.N[i]? = some x := by rfl) (hd : (x == ("__debug__" : Str)) = false := by decide) (hcd : (x == ("__classdict__" : Str)) = false := by decide)
    (hbase : attributeBase (.Name x p) "append" X.env (eval (.Name x p) X.env) = eval (.Name x p) X.env := by rfl)
    (hfew : ((backTo p2 (starEach [e] X.env)).all (fun x => !x.1) && (backToKw p2 (keywordEach [] X.env)).all (fun x => x.1.isSome)
      && decide ([e].length + ([] : List Keyword).length + (if ([] : List Keyword).isEmpty then 0 else 1) < 30)) = true := by rfl)
    (hline : (p1.endLine == p2.line) = true := by rfl) (hst : starEach [e] X.env = (false, eval e X.env) :: starEach [] X.env := by rfl) (hplain : (backTo p2 (starEach [] X.env)).any (·.1) = false := by rfl)
    (hs : swapsWith (.Call (.Attribute (.Name x p) "append" p1) [e] [] p2) none pos.line X.env = pure false := by rfl) :
    SD X K W L Δ (Δ.set i (.own .l (fr && fr'))) Δb Δc (.Expr (.Call (.Attribute (.Name x p) "append" p1) [e] [] p2) pos) (tDrop (tBM K "list" rAppend (tVar i) (tCons te tNil))) (gApp i g) :=
  ⟨by have q := ps_expr (pos := pos) (pe_bm PySem.F.plainAttrs_list PySem.F.slot_list_append PySem.F.type_list_append mt_append (pe_var hN hv hd hcd) (pa_cons h.pe pa_nil hst) hbase hfew hline hst hplain) hs; rw [h.hK] at q; exact q, h.hK, s_app hk h.se⟩
theorem z_setI (i : Nat) {x : Str} {p : Pos} {ix : Expr} {sp : Pos} (h : PD X K W Δ e te (.v true fr') ge) (h2 : PD X K W Δ ix ti (.v av av') gi) (hk : Δ[i]? = some (.own .l fr) := by rfl) (hv : Vis X.env.scope x := by first | exact Or.inl rfl | exact Or.inr (Or.inl rfl) | exact Or.inr (Or.inr rfl)) (hN : X.N[i]? = some x := by rfl) (hd : (x == ("__debug__" : Str)) = false := by decide) (hcd : (x == ("__classdict__" : Str)) = false := by decide)
    (ha : ∀ v, assign (.Subscript (.Name x p) ix sp) X.env v = (do
      let ov ← holding [v] (eval (.Name x p) X.env)
      let iv ← holding [v, ov] (eval ix X.env)
      standAt sp
      holding [v, ov, iv] (setItem ov iv v)
      release [v, ov, iv] []) := by intro _; rfl) (hs : swapsWithSole [.Subscript (.Name x p) ix sp] e pos.line X.env = pure false := by rfl) (hw : swappedStores [.Subscript (.Name x p) ix sp] e X.env = pure none := by rfl)
    (h1 : (assignEach [.Subscript (.Name x p) ix sp] X.env).map (·.2) = [assign (.Subscript (.Name x p) ix sp) X.env] := by rfl) :
    SD X K W L Δ (Δ.set i (.own .l (fr && fr'))) Δb Δc (.Assign [.Subscript (.Name x p) ix sp] e pos) (tAsg te (gSub (tVar i) ti rSetL)) (gSetI i ge gi) := ⟨ps_asg h.pe (pg_sub (pe_var hN hv hd hcd) h2.pe set_list ha) hs hw h1, h.hK, s_setI hk h.se h2.se⟩
theorem z_if (h : TD X K W Δ c tt gt) (h1 : BD X K W L Δ Δn Δb Δc sts t g1) (h2 : BD X K W L Δ Δn Δb Δc sts2 u g2) : SD X K W L Δ Δn Δb Δc (.If c sts sts2 pos) (tIfS tt t u) (gIfS gt g1 g2) := ⟨ps_if h.pt h1.ps h2.ps, h.hK, s_if h.st h1.ss h2.ss⟩
theorem z_while (n : Nat) (hp : PassesOwn (model X.prog X.w) X.A X.env X.xe) (h : TD X K W Δ c tt gt) (hb : BD X K W L Δ Δ Δ Δ sts t g1) : SD X K W L Δ Δ Δb Δc (.While c sts [] pos) (tWhile tt t) (gWhile gt g1 n) := ⟨ps_while hp h.pt hb.ps, h.hK, s_while n h.st hb.ss⟩
theorem z_for {n : Nat} {wi : TI} {gg : TG} {sl : List Nat} {hh : Dt → List Dt → O (List Dt)} {TK : Bool → List Kd → List Kd} (hp : PassesOwn (model X.prog X.w) X.A X.env X.xe) (hi : ID X K W Δ tg iter wi false fr gI) (hg : GD X K n tg gg sl hh TK) (hb : BD X K W L (TK fr Δ) Δ Δ Δ sts t g1) (hn : Δ.length = n := by rfl) (hc : X.calm = true := by rfl)
    (hs : ∀ x, foldedSetIterable iter X.env x = pure x := by intro _; rfl) : SD X K W L Δ Δ Δb Δc (.For tg iter sts [] pos) (tFor wi gg t) (gFor gI hh g1) := ⟨ps_for hp hc hi.pi hg.pg hb.ps hs, hi.hK, s_for hn hi.si hg.gj hb.ss⟩
end
def fnN (m : Nat) (g : Gs) : List Dt → O Dt := fun ds => match g (ds ++ List.replicate (m - ds.length) .none) with
  | .ok (.rt d) => .ok d
  | .ok (.nx _) => .ok .none
  | _ => .bad
def fnL (m : Nat) (g : Gs) : List Dt → O Dt := fun ds => match g (ds ++ List.replicate (m - ds.length) .none) with
  | .ok (.rt d) => .ok d
  | _ => .bad
def kd0 (n m : Nat) (fr : Bool) : List Kd := List.replicate n (.im fr) ++ List.replicate (m - n) .no
theorem r_start {K : PySem.W.Frag} {H : Hp} {F G : Addr → Prop} {vs : List V} {ds : List Dt} {n m : Nat} {fr : Bool} {N : List Str} (hv : vs.length = n) (hN : N.length = m) (hm : n ≤ m) (x : RpA K F H vs ds) (hg : ∀ a, H a = none → G a) (hF : fr = true → ∀ a, F a → G a) :
    R K ⟨H, G, [], [], none, [], fun _ h => nomatch h⟩ (kd0 n m fr) (ds ++ List.replicate (m - ds.length) .none) (L2.start N vs) H := by
  have hd : ds.length = n := by rw [← x.length]; exact hv
  have noOw : ∀ (i : Nat) (c : Ct) (fr' : Bool), (kd0 n m fr)[i]? ≠ some (.own c fr') := fun i c fr' e => by
    unfold kd0 at e
    have := List.mem_of_getElem? e
    rcases List.mem_append.mp this with h | h
    · cases List.eq_of_mem_replicate h
    · cases List.eq_of_mem_replicate h
  have noSl0 : ∀ (i : Nat) (t : Bool), (kd0 n m fr)[i]? ≠ some (.sl t) := fun i t e => by
    unfold kd0 at e
    have := List.mem_of_getElem? e
    rcases List.mem_append.mp this with h | h
    · cases List.eq_of_mem_replicate h
    · cases List.eq_of_mem_replicate h
  refine ⟨Same.refl H, hg, ?_, ?_, fun i j ci fi cj fj p h1 => absurd h1 (noOw i ci fi), fun a ha => absurd ha (by simp), fun g hg => absurd hg (by simp), fun i fr' h => ?_, fun i c fr' h => absurd h (noOw i c fr'), fun i c fr' h => absurd h (noOw i c fr'), fun a ha => (nomatch ha), fun i t h => absurd h (noSl0 i t)⟩
  · unfold L2.start kd0
    rw [List.length_append, List.length_append, List.length_map, List.length_replicate, List.length_replicate, List.length_replicate, hv, hN]
  · unfold kd0
    rw [List.length_append, List.length_append, List.length_replicate, List.length_replicate, List.length_replicate, hd]
  · unfold kd0 at h
    by_cases hi : i < n
    · rw [List.getElem?_append_left (by rw [List.length_replicate]; exact hi)] at h
      have efr : fr' = fr := by
        have := List.eq_of_mem_replicate (List.mem_of_getElem? h)
        cases this; rfl
      subst efr
      have hi' : i < vs.length := by rw [hv]; exact hi
      obtain ⟨d, h1, h2⟩ := x.get (List.getElem?_eq_getElem hi')
      refine ⟨vs[i], d, ?_, ?_, h2.weak fun a fa => ⟨fun _ => ⟨fun z => ?_, by simp⟩, fun e => hF e a fa⟩⟩
      · unfold L2.start
        rw [List.getElem?_append_left (by rw [List.length_map]; exact hi'), List.getElem?_map, List.getElem?_eq_getElem hi']
        rfl
      · rw [List.getElem?_append_left (by rw [hd]; exact hi)]
        exact h1
      · obtain ⟨j, c, frj, g1, _⟩ := z
        exact noOw j c frj g1
    · rw [List.getElem?_append_right (by rw [List.length_replicate]; omega)] at h
      cases List.eq_of_mem_replicate (List.mem_of_getElem? h)
section
variable {P : Program} {w : World} {K : PySem.W.Frag} {mg : Str → Option Value} {base : Heap} {x qual : Str} {st : Stmt} {fa : Addr} {fd : FuncData} {N ps : List Str} {k n m : Nat} {Δn : List Kd} {g : Gs}
theorem fn_okN (F : L2.Fun K x qual st fa fd) (S : FnScope N ps (defScope st)) (hn : ps.length = n) (hm : N.length = m) (hnm : n ≤ m)
    (hb : ∀ (cdv : Value) (A : Around) (outer : List Env) (s : Shared) (H : Hp) (E : XK), Room k (A.deeper (envOfC qual (defScope st) s.heap.objs.size fa cdv)) → ∃ ts, BD (cxOf CX0 P w K mg base N qual (defScope st) fa cdv A outer s H E).nox K W0 .n (kd0 n m false) Δn (kd0 n m false) (kd0 n m false) (defBody st) ts g) :
    FnOk P w K mg base CX0 (k + 1) fa fd ps (spG K mg n (fnN m g)) := by
  refine F.ok S (fun vs H Q E h => ?_) (fun cdv A outer s H vs Q E hr h => ?_)
  · obtain ⟨ds, h1, _⟩ := h
    rw [h1, hn]
  · obtain ⟨ds, h1, h2, h3⟩ := h
    obtain ⟨ts, B⟩ := hb cdv A outer s H E hr
    refine ⟨ts, B.ps, B.ss ⟨H, fun a => H a = none, [], [], none, [], fun _ h => nomatch h⟩ _ _ H _ (r_start h1 hm hnm h2 (fun _ h => h) (fun e => nomatch e)) ?_⟩
    unfold fnN at h3
    cases e : g (ds ++ List.replicate (m - ds.length) .none) with
    | bad => rw [e] at h3; exact h3.elim
    | ex z => rw [e] at h3; exact h3.elim
    | ok fl =>
      rw [e] at h3
      cases fl with
      | nx ρ => exact fun σ' H' r => h3 .non H' r.ext .non
      | rt d => exact fun v H' s x => h3 v H' s x
      | bk ρ => exact h3.elim
      | ct ρ => exact h3.elim
theorem fn_okL (F : L2.Fun K x qual st fa fd) (S : FnScope N ps (defScope st)) (hn : ps.length = n) (hm : N.length = m) (hnm : n ≤ m)
    (hb : ∀ (cdv : Value) (A : Around) (outer : List Env) (s : Shared) (H : Hp) (E : XK), Room k (A.deeper (envOfC qual (defScope st) s.heap.objs.size fa cdv)) → ∃ ts, BD (cxOf CX0 P w K mg base N qual (defScope st) fa cdv A outer s H E).nox K W0 .l (kd0 n m false) Δn (kd0 n m false) (kd0 n m false) (defBody st) ts g) :
    FnOk P w K mg base CX0 (k + 1) fa fd ps (spL K mg n (fnL m g)) := by
  refine F.ok S (fun vs H Q E h => ?_) (fun cdv A outer s H vs Q E hr h => ?_)
  · obtain ⟨ds, h1, _⟩ := h
    rw [h1, hn]
  · obtain ⟨ds, h1, h2, h3⟩ := h
    obtain ⟨ts, B⟩ := hb cdv A outer s H E hr
    refine ⟨ts, B.ps, B.ss ⟨H, fun a => H a = none, [], [], none, [], fun _ h => nomatch h⟩ _ _ H _ (r_start h1 hm hnm h2 (fun _ h => h) (fun e => nomatch e)) ?_⟩
    unfold fnL at h3
    cases e : g (ds ++ List.replicate (m - ds.length) .none) with
    | bad => rw [e] at h3; exact h3.elim
    | ex z => rw [e] at h3; exact h3.elim
    | ok fl =>
      rw [e] at h3
      cases fl with
      | nx ρ => exact h3.elim
      | rt d => exact fun p H' np s x => h3 p H' np s x
      | bk ρ => exact h3.elim
      | ct ρ => exact h3.elim
theorem fn_okA (F : L2.Fun K x qual st fa fd) (S : FnScope N ps (defScope st)) (hn : ps.length = n) (hm : N.length = m) (hnm : n ≤ m)
    (hb : ∀ (cdv : Value) (A : Around) (outer : List Env) (s : Shared) (H : Hp) (E : XK), Room k (A.deeper (envOfC qual (defScope st) s.heap.objs.size fa cdv)) → ∃ ts, BD (cxOf CX0 P w K mg base N qual (defScope st) fa cdv A outer s H E).nox K W0 .n (kd0 n m true) Δn (kd0 n m true) (kd0 n m true) (defBody st) ts g) :
    FnOk P w K mg base CX0 (k + 1) fa fd ps (spA K mg n (fnN m g)) := by
  refine F.ok S (fun vs H Q E h => ?_) (fun cdv A outer s H vs Q E hr h => ?_)
  · obtain ⟨ds, F, h1, _⟩ := h
    rw [h1, hn]
  · obtain ⟨ds, F, h1, h2, h3⟩ := h
    obtain ⟨ts, B⟩ := hb cdv A outer s H E hr
    refine ⟨ts, B.ps, B.ss ⟨H, fun a => F a ∨ H a = none, [], [], none, [], fun _ h => nomatch h⟩ _ _ H _ (r_start h1 hm hnm h2 (fun _ h => .inr h) (fun _ a h => .inl h)) ?_⟩
    unfold fnN at h3
    cases e : g (ds ++ List.replicate (m - ds.length) .none) with
    | bad => rw [e] at h3; exact h3.elim
    | ex z => rw [e] at h3; exact h3.elim
    | ok fl =>
      rw [e] at h3
      cases fl with
      | nx ρ => exact fun σ' H' r => h3 .non H' r.ext .non
      | rt d => exact fun v H' s x => h3 v H' s x
      | bk ρ => exact h3.elim
      | ct ρ => exact h3.elim
end
end Sim
end T_SimG
section T_SimH
set_option Elab.async false
set_option linter.all false
set_option maxRecDepth 100000
namespace Sim
open PySem PySem.Spec L2
open PyProof.Rows hiding St
structure OR (X : Cx) (K : PySem.W.Frag) (op : CmpOp) (r : R2) (h : Dt → Dt → O Dt) : Prop where
  ho : OpR X (compareOp op) r
  scl : Scl2 h
  osc : OSc K r h
section
variable {X : Cx} {K : PySem.W.Frag} {W : Wt} {n : Nat}
theorem or_lt : OR X K .Lt (rI0 fun i j => .bl (decide (i < j))) hLt := ⟨op_lt, scl_B0, osc_B0⟩
theorem or_le : OR X K .LtE (rI0 fun i j => .bl (decide (i ≤ j))) hLe := ⟨op_le, scl_B0, osc_B0⟩
theorem or_gt : OR X K .Gt (rI0 fun i j => .bl (decide (j < i))) hGt := ⟨op_gt, scl_B0, osc_B0⟩
theorem or_ge : OR X K .GtE (rI0 fun i j => .bl (decide (j ≤ i))) hGe := ⟨op_ge, scl_B0, osc_B0⟩
theorem or_eq (hr : Room n X.A) (hK : X.K = K := by rfl) : OR X K .Eq (rEqD K) hEq := ⟨by have q := op_eqD (X := X) (by have := hr.un; omega); rw [hK] at q; exact q, scl_eq, osc_eq⟩
theorem or_ne (hr : Room n X.A) (hK : X.K = K := by rfl) : OR X K .NotEq (rNeD K) hNe := ⟨by have q := op_neD (X := X) (by have := hr.un; omega); rw [hK] at q; exact q, scl_ne, osc_ne⟩
theorem or_in (hr : Room n X.A) (hK : X.K = K := by rfl) : OR X K .In (rInDT K false) hIn := ⟨by have q := op_inDT (X := X) (by have := hr.un; omega); rw [hK] at q; exact q, scl_in, osc_in⟩
theorem or_notIn (hr : Room n X.A) (hK : X.K = K := by rfl) : OR X K .NotIn (rInDT K true) hNotIn := ⟨by have q := op_notInDT (X := X) (by have := hr.un; omega); rw [hK] at q; exact q, scl_notIn, osc_notIn⟩
theorem or_isN : OR X K .Is (fun x y H Q => y = .non ∧ Q (.bl (decide (x = .non))) H) hIs := ⟨op_isN, scl_is, osc_is⟩
theorem or_notN : OR X K .IsNot (fun x y H Q => y = .non ∧ Q (.bl (!decide (x = .non))) H) hIsNot := ⟨op_notN, scl_isNot, osc_isNot⟩
end
def gChain (h h' : Dt → Dt → O Dt) (ga gb gc : Gd) : Gd := fun ρ => bnd (ga ρ) fun x => bnd (gb ρ) fun y => bnd (h x y) fun z => bnd (asB z) fun c => if c then bnd (gc ρ) fun w => h' y w else .ok (.bool false)
section
variable {K : PySem.W.Frag} {W : Wt} {Δ : List Kd} {ta tb tc : TE} {ga gb gc : Gd} {av fr av' fr' av2 fr2 : Bool}
theorem se_chain {r r' : R2} {h h' : Dt → Dt → O Dt} (hs : Scl2 h) (ho : OSc K r h) (hs' : Scl2 h') (ho' : OSc K r' h') (ha : SE K W Δ ta (.v av fr) ga) (hb : SE K W Δ tb (.v av' fr') gb) (hc : SE K W Δ tc (.v av2 fr2) gc) :
    SE K W Δ (tChain r r' ta tb tc) (.v true true) (gChain h h' ga gb gc) := fun f ρ σ H Q R q => by
  refine ha f ρ σ H _ R ?_
  unfold gChain at q
  cases e1 : ga ρ with
  | bad => rw [e1] at q; exact q
  | ex z => rw [e1] at q; exact q
  | ok d =>
    rw [e1, bnd_ok] at q
    intro v H1 s1 x1
    refine hb f ρ σ H1 _ (R.mono s1) ?_
    cases e2 : gb ρ with
    | bad => rw [e2] at q; exact q
    | ex z => rw [e2] at q; exact fun H' s => q H' (s1.trans s)
    | ok d2 =>
      rw [e2, bnd_ok] at q
      intro v2 H2 s2 x2
      refine ho H2 v v2 d d2 _ ((x1.same s2).weak fun _ _ => trivial) (x2.weak fun _ _ => trivial) ?_
      rcases hs d d2 with ⟨z, ez, sz⟩ | ez
      · rw [ez] at q ⊢
        rw [bnd_ok] at q
        refine ⟨sz, fun w x => ?_⟩
        cases x with
        | bl c =>
          refine ⟨c, rfl, ?_⟩
          cases c with
          | false =>
            show (if false = true then _ else _)
            rw [if_neg Bool.false_ne_true]
            exact q _ H2 (s1.trans s2) (.bl false)
          | true =>
            show (if true = true then _ else _)
            rw [if_pos rfl]
            have q : PoE K W f Δ σ H (.v true true) (bnd (gc ρ) fun w => h' d2 w) Q := q
            refine hc f ρ σ H2 _ ((R.mono s1).mono s2) ?_
            cases e3 : gc ρ with
            | bad => rw [e3] at q; exact q
            | ex z => rw [e3] at q; exact fun H' s => q H' ((s1.trans s2).trans s)
            | ok d3 =>
              rw [e3, bnd_ok] at q
              intro v3 H3 s3 x3
              refine ho' H3 v2 v3 d2 d3 Q ((x2.same s3).weak fun _ _ => trivial) (x3.weak fun _ _ => trivial) ?_
              rcases hs' d2 d3 with ⟨z, ez, sz⟩ | ez
              · rw [ez] at q ⊢
                exact ⟨sz, fun w x => q w H3 ((s1.trans s2).trans s3) (x.scl_any sz)⟩
              · rw [ez] at q
                exact q.elim
        | non => exact q.elim
        | int => exact q.elim
        | str => exact q.elim
        | lst => cases sz
        | fz => cases sz
        | tup => cases sz
        | dic => cases sz
        | exn => cases sz
      · rw [ez] at q
        exact q.elim
end
section
variable {X : Cx} {K : PySem.W.Frag} {W : Wt} {Δ Δ1 Δn Δb Δc : List Kd} {a b c e : Expr} {es : List Expr} {ta tb tc te : TE} {tA : TA} {ga gb gc g : Gd} {av fr av' fr' av2 fr2 : Bool} {L : Lk} {pos : Pos} {op op' : CmpOp} {r r' : R2} {h h' : Dt → Dt → O Dt} {t : TS} {g1 : Gs} {st : Stmt} {sts : List Stmt}
theorem x_cmp (o : OR X K op r h) (ha : PD X K W Δ a ta (.v av fr) ga) (hb : PD X K W Δ b tb (.v av' fr') gb) (hm : behindInMarks op b = false := by first | exact nobehind _ (by decide) (by decide) | rfl) : PD X K W Δ (.Compare a [op] [b] pos) (tOp r ta tb) (.v true true) (gOp h ga gb) := ⟨pe_cmpR o.ho ha.pe hb.pe hm, ha.hK, se_op o.scl o.osc ha.se hb.se⟩
theorem c_cmp (o : OR X K op r h) (ha : PD X K W Δ a ta (.v av fr) ga) (hb : PD X K W Δ b tb (.v av' fr') gb) (hm : behindInMarks op b = false := by first | exact nobehind _ (by decide) (by decide) | rfl) : TD X K W Δ (.Compare a [op] [b] pos) (tTest (tOp r ta tb)) (gTest (gOp h ga gb)) := ⟨pt_cmpR o.ho ha.pe hb.pe hm, ha.hK, st_test (se_op o.scl o.osc ha.se hb.se)⟩
theorem x_chain (o : OR X K op r h) (o' : OR X K op' r' h') (ha : PD X K W Δ a ta (.v av fr) ga) (hb : PD X K W Δ b tb (.v av' fr') gb) (hc : PD X K W Δ c tc (.v av2 fr2) gc) (hm : lastMarks [op, op'] [b, c] = false := by with_unfolding_all rfl) : PD X K W Δ (.Compare a [op, op'] [b, c] pos) (tChain r r' ta tb tc) (.v true true) (gChain h h' ga gb gc) :=
  ⟨pe_chain o.ho o'.ho ha.pe hb.pe hc.pe hm, ha.hK, se_chain o.scl o.osc o'.scl o'.osc ha.se hb.se hc.se⟩
theorem c_chain (o : OR X K op r h) (o' : OR X K op' r' h') (ha : PD X K W Δ a ta (.v av fr) ga) (hb : PD X K W Δ b tb (.v av' fr') gb) (hc : PD X K W Δ c tc (.v av2 fr2) gc) (hm : lastMarks [op, op'] [b, c] = false := by with_unfolding_all rfl) : TD X K W Δ (.Compare a [op, op'] [b, c] pos) (tTest (tChain r r' ta tb tc)) (gTest (gChain h h' ga gb gc)) :=
  ⟨pt_chain o.ho o'.ho ha.pe hb.pe hc.pe hm, ha.hK, st_test (se_chain o.scl o.osc o'.scl o'.osc ha.se hb.se hc.se)⟩
theorem SD.to (Δn' : List Kd) (h : SD X K W L Δ Δn Δb Δc st t g1) (l : leA Δn Δn' = true := by rfl) : SD X K W L Δ Δn' Δb Δc st t g1 := ⟨h.ps, h.hK, fun f ρ σ H E r q => h.ss f ρ σ H E r <| by
  cases e : g1 ρ with
  | bad => rw [e] at q; exact q
  | ex z => rw [e] at q; exact q
  | ok fl =>
    rw [e] at q
    cases fl with
    | nx ρ' => exact fun σ' H' r => q σ' H' (r.weak l)
    | rt d => exact q
    | bk ρ' => exact q
    | ct ρ' => exact q⟩
theorem SD.frm (Δ0 : List Kd) (h : SD X K W L Δ0 Δn Δb Δc st t g1) (l : leA Δ Δ0 = true := by rfl) : SD X K W L Δ Δn Δb Δc st t g1 := ⟨h.ps, h.hK, h.ss.pre l⟩
theorem BD.to (Δn' : List Kd) (h : BD X K W L Δ Δn Δb Δc sts t g1) (l : leA Δn Δn' = true := by rfl) : BD X K W L Δ Δn' Δb Δc sts t g1 := ⟨h.ps, h.hK, fun f ρ σ H E r q => h.ss f ρ σ H E r <| by
  cases e : g1 ρ with
  | bad => rw [e] at q; exact q
  | ex z => rw [e] at q; exact q
  | ok fl =>
    rw [e] at q
    cases fl with
    | nx ρ' => exact fun σ' H' r => q σ' H' (r.weak l)
    | rt d => exact q
    | bk ρ' => exact q
    | ct ρ' => exact q⟩
theorem BD.frm (Δ0 : List Kd) (h : BD X K W L Δ0 Δn Δb Δc sts t g1) (l : leA Δ Δ0 = true := by rfl) : BD X K W L Δ Δn Δb Δc sts t g1 := ⟨h.ps, h.hK, h.ss.pre l⟩
end
section
variable {X : Cx} {K : PySem.W.Frag} {W : Wt} {Δ : List Kd} {e : Expr} {te : TE} {g : Gd} {c : Ct} {fr fr' : Bool}
theorem SE.wkN (h : SE K W Δ te (.new c fr) g) (h2 : fr' = true → fr = true) : SE K W Δ te (.new c fr') g := fun f ρ σ H Q r q =>
  h f ρ σ H Q r <| by
    cases e : g ρ with
    | bad => rw [e] at q; exact q
    | ex z => rw [e] at q; exact q
    | ok d => rw [e] at q; exact fun p H' np s x => q p H' np s (x.map (fun _ e => e) fun _ _ y => y.weak fun a fa => ⟨fa.1.weak id h2, fa.2⟩)
theorem PD.wkN (fr' : Bool) (h : PD X K W Δ e te (.new c fr) g) (h2 : fr' = true → fr = true := by decide) : PD X K W Δ e te (.new c fr') g := ⟨h.pe, h.hK, SE.wkN h.se h2⟩
theorem AD.to {es : List Expr} {tA : TA} {av fr : Bool} {gA : List Dt → O (List Dt)} (av' fr' : Bool) (h : AD X K W Δ es tA av fr gA) (h1 : av' = true → av = true := by decide) (h2 : fr' = true → fr = true := by decide) : AD X K W Δ es tA av' fr' gA := h.wk h1 h2
theorem blk_fx {N : List Str} {sc scope : Scope} {own : List (Str × Nat)} (h : blkC N sc scope own = true) (e1 : X.N = N := by rfl) (e2 : X.env.scope = sc := by rfl) : blkC X.N X.env.scope scope own = true := by
  rw [e1, e2]
  exact h
end
def spLaw (K : PySem.W.Frag) (g : List Dt → O Dt) : Sp := fun vs H Q _ => ∃ ds, vs.length = 1 ∧ RpA K (fun _ => True) H vs ds ∧ g ds = .ok (.bool true) ∧ ∀ H', Q (.bl true) H'
theorem spLaw_of {K : PySem.W.Frag} {H : Hp} {a : Addr} {ns : List Int} {g : List Dt → O Dt} (hO : L2.Only H) (hS : SqL K H a (ns.map V.int)) (h : g [frzD (ns.map .int)] = .ok (.bool true)) : spLaw K g [.ref a] H (fun v _ => v = .bl true) fun _ _ _ => False := by
  refine ⟨_, rfl, .cons ?_ .nil, h, fun _ => rfl⟩
  rcases hS with (h | ⟨o, h⟩) | h
  · rcases hO a with e | ⟨o, xs, e⟩
    · rw [h] at e; cases e
    · rw [h] at e; cases e
  · exact .fz (.inl ⟨o, h⟩) (rpA_ints ns)
  · exact .fz (.inr h) (rpA_ints ns)
theorem okLaw_of {P : Program} {w : World} {K : PySem.W.Frag} {mg : Str → Option Value} {CX : CXT} {k : Nat} {fa : Addr} {g : List Dt → O Dt}
    (h : ∃ fd : FuncData, (∀ (s : Shared) (v : Value), BindsTo s fd ⟨[v], []⟩ [("script", v)]) ∧ ∀ base : Heap, K.In base → base.Ns mainGlobals mg → FnOk P w K mg base CX k fa fd ["script"] (spG K mg 1 g)) :
    ∃ fd : FuncData, (∀ (s : Shared) (v : Value), BindsTo s fd ⟨[v], []⟩ [("script", v)]) ∧ ∀ base : Heap, K.In base → base.Ns mainGlobals mg → FnOk P w K mg base CX k fa fd ["script"] (spLaw K g) := by
  obtain ⟨fd, h1, h2⟩ := h
  have key : ∀ vs H Q E, spLaw K g vs H Q E → spG K mg 1 g vs H Q E := fun vs H Q E ⟨ds, a, b, c, d⟩ => ⟨ds, a, b, by
    rw [c]
    intro v H' s x
    cases x
    exact d H'⟩
  refine ⟨fd, h1, fun base a b => ?_⟩
  obtain ⟨len, run⟩ := h2 base a b
  exact ⟨fun vs H Q E x => len vs H Q E (key vs H Q E x), fun A outer s H args us vs Q E hr e0 hb r x => run A outer s H args us vs Q E hr e0 hb r (key vs H Q E x)⟩
end Sim
end T_SimH
section T_SimP
set_option Elab.async false
set_option linter.all false
set_option maxRecDepth 100000
namespace Sim
open PySem
theorem gVar_def (i : Nat) (ρ : List Dt) : gVar i ρ = match ρ[i]? with | some d => .ok d | none => .bad := rfl
theorem gC_def (d : Dt) (ρ : List Dt) : gC d ρ = .ok d := rfl
theorem gOp_def (h : Dt → Dt → O Dt) (a b : Gd) (ρ : List Dt) : gOp h a b ρ = bnd (a ρ) fun x => bnd (b ρ) fun y => h x y := rfl
theorem gUn_def (h : Dt → O Dt) (a : Gd) (ρ : List Dt) : gUn h a ρ = bnd (a ρ) h := rfl
theorem gNil_def (ρ : List Dt) : gNil ρ = .ok [] := rfl
theorem gCons_def (a : Gd) (b : List Dt → O (List Dt)) (ρ : List Dt) : gCons a b ρ = bnd (a ρ) fun x => bnd (b ρ) fun xs => .ok (x :: xs) := rfl
theorem gTup_ok {a : List Dt → O (List Dt)} {ρ : List Dt} {xs : List Dt} (h : a ρ = .ok xs) (hl : xs.length ≤ 100000) : gTup a ρ = .ok (.tuple xs) := by unfold gTup; rw [h, bnd_ok, if_pos hl]
theorem gTup_def (a : List Dt → O (List Dt)) (ρ : List Dt) : gTup a ρ = bnd (a ρ) fun xs => if xs.length ≤ 100000 then .ok (.tuple xs) else .bad := rfl
theorem gLst_def (a : List Dt → O (List Dt)) (ρ : List Dt) : gLst a ρ = bnd (a ρ) fun xs => if xs.length ≤ 100000 then .ok (.list xs) else .bad := rfl
theorem gIf_def (t : List Dt → O Bool) (a b : Gd) (ρ : List Dt) : gIf t a b ρ = bnd (t ρ) fun c => if c then a ρ else b ρ := rfl
theorem gTest_def (a : Gd) (ρ : List Dt) : gTest a ρ = bnd (a ρ) asB := rfl
theorem gNot_def (t : List Dt → O Bool) (ρ : List Dt) : gNot t ρ = bnd (t ρ) fun b => .ok (!b) := rfl
theorem gAnd_def (t u : List Dt → O Bool) (ρ : List Dt) : gAnd t u ρ = bnd (t ρ) fun b => if b then u ρ else .ok false := rfl
theorem gOr_def (t u : List Dt → O Bool) (ρ : List Dt) : gOr t u ρ = bnd (t ρ) fun b => if b then .ok true else u ρ := rfl
theorem gAndV_def (a b : Gd) (ρ : List Dt) : gAndV a b ρ = bnd (a ρ) fun x => bnd (asB x) fun c => if c then b ρ else .ok (.bool false) := rfl
theorem gOrV_def (a b : Gd) (ρ : List Dt) : gOrV a b ρ = bnd (a ρ) fun x => bnd (asB x) fun c => if c then .ok (.bool true) else b ρ := rfl
theorem gNotV_def (a : Gd) (ρ : List Dt) : gNotV a ρ = bnd (a ρ) fun x => bnd (asB x) fun c => .ok (.bool (!c)) := rfl
theorem gCB_def (h : List Dt → O Dt) (a : List Dt → O (List Dt)) (ρ : List Dt) : gCB h a ρ = bnd (a ρ) h := rfl
theorem gPurN_def (a : Gd) (ρ : List Dt) : gPurN a ρ = bnd (a ρ) fun d => if pureIn d then .ok d else .bad := rfl
theorem asB_b (b : Bool) : asB (.bool b) = .ok b := rfl
theorem hAdd_i (i j : Int) : hAdd (.int i) (.int j) = .ok (.int (i + j)) := rfl
theorem hSub_i (i j : Int) : hSub (.int i) (.int j) = .ok (.int (i - j)) := rfl
theorem hLt_i (i j : Int) : hLt (.int i) (.int j) = .ok (.bool (decide (i < j))) := rfl
theorem hLe_i (i j : Int) : hLe (.int i) (.int j) = .ok (.bool (decide (i ≤ j))) := rfl
theorem hGt_i (i j : Int) : hGt (.int i) (.int j) = .ok (.bool (decide (j < i))) := rfl
theorem hGe_i (i j : Int) : hGe (.int i) (.int j) = .ok (.bool (decide (j ≤ i))) := rfl
theorem hBand_i (i j : Int) : hBand (.int i) (.int j) = .ok (.int (Builtin.bitAnd i j)) := rfl
theorem hMul_r {i j : Int} (h1 : -18446744073709551616 < j) (h2 : j < 18446744073709551616) : hMul (.int i) (.int j) = .ok (.int (i * j)) := by
  show (if cMul i j then O.ok (PyData.int (i * j)) else .bad) = _
  rw [if_pos]
  unfold cMul
  rw [Bool.or_eq_true, decide_eq_true_eq, decide_eq_true_eq]
  right; omega
theorem hMul_l {i j : Int} (h1 : -18446744073709551616 < i) (h2 : i < 18446744073709551616) : hMul (.int i) (.int j) = .ok (.int (i * j)) := by
  show (if cMul i j then O.ok (PyData.int (i * j)) else .bad) = _
  rw [if_pos]
  unfold cMul
  rw [Bool.or_eq_true, decide_eq_true_eq, decide_eq_true_eq]
  left; omega
theorem hMod_i {i j : Int} (h : 0 < j) : hMod (.int i) (.int j) = .ok (.int (i % j)) := by
  show (if cMod i j then O.ok (PyData.int (i % j)) else .bad) = _
  rw [if_pos]
  unfold cMod
  exact decide_eq_true h
theorem hDiv_i {i j : Int} (h : 0 < j) (h2 : j.natAbs < 2 ^ 400) : hDiv (.int i) (.int j) = .ok (.int (i / j)) := by
  show (if cDiv i j then O.ok (PyData.int (i / j)) else .bad) = _
  rw [if_pos]
  unfold cDiv
  rw [Bool.and_eq_true]
  exact ⟨decide_eq_true h, decide_eq_true h2⟩
theorem hDiv_s {i j : Int} (h : 0 < j) (h2 : j < 1000000000000000000000000000000000) : hDiv (.int i) (.int j) = .ok (.int (i / j)) := hDiv_i h (by omega)
theorem hShr_i {i j : Int} (h : 0 ≤ j) : hShr (.int i) (.int j) = .ok (.int (i / 2 ^ j.toNat)) := by
  show (if cShr i j then O.ok (PyData.int (i / 2 ^ j.toNat)) else .bad) = _
  rw [if_pos]
  exact decide_eq_true h
theorem hPow_10_18 : hPow (.int 10) (.int 18) = .ok (.int 1000000000000000000) := by
  show (if cPow 10 18 then O.ok (PyData.int ((10 : Int) ^ (18 : Int).toNat)) else .bad) = _
  rw [if_pos (by decide)]
  rfl
theorem hPow_10_27 : hPow (.int 10) (.int 27) = .ok (.int 1000000000000000000000000000) := by
  show (if cPow 10 27 then O.ok (PyData.int ((10 : Int) ^ (27 : Int).toNat)) else .bad) = _
  rw [if_pos (by decide)]
  rfl
theorem hPow_10_28 : hPow (.int 10) (.int 28) = .ok (.int 10000000000000000000000000000) := by
  show (if cPow 10 28 then O.ok (PyData.int ((10 : Int) ^ (28 : Int).toNat)) else .bad) = _
  rw [if_pos (by decide)]
  rfl
theorem hPow_10_29 : hPow (.int 10) (.int 29) = .ok (.int 100000000000000000000000000000) := by
  show (if cPow 10 29 then O.ok (PyData.int ((10 : Int) ^ (29 : Int).toNat)) else .bad) = _
  rw [if_pos (by decide)]
  rfl
theorem hPow_10_30 : hPow (.int 10) (.int 30) = .ok (.int 1000000000000000000000000000000) := by
  show (if cPow 10 30 then O.ok (PyData.int ((10 : Int) ^ (30 : Int).toNat)) else .bad) = _
  rw [if_pos (by decide)]
  rfl
theorem shaped_int (i : Int) : SeqAt.shaped (.int i) = true := by simp [SeqAt.shaped, PyData.canLay0, PyData.depth]
theorem shaped_none : SeqAt.shaped .none = true := by simp [SeqAt.shaped, PyData.canLay0, PyData.depth]
theorem hEq_i (i j : Int) : hEq (.int i) (.int j) = .ok (.bool (i == j)) := by unfold hEq; rw [shaped_int, shaped_int]; simp [PyData.eqv]
theorem hNe_i (i j : Int) : hNe (.int i) (.int j) = .ok (.bool (!(i == j))) := by unfold hNe; rw [shaped_int, shaped_int]; simp [PyData.eqv]
theorem hLen_l (xs : List Dt) : hLen [.list xs] = .ok (.int xs.length) := rfl
theorem hLen_t (xs : List Dt) : hLen [.tuple xs] = .ok (.int xs.length) := rfl
theorem hMin2_i (i j : Int) : hMin2 [.int i, .int j] = .ok (.int (if j < i then j else i)) := rfl
theorem hMax2_i (i j : Int) : hMax2 [.int i, .int j] = .ok (.int (if j > i then j else i)) := rfl
theorem hMin3_i (i j k : Int) : hMin3 [.int i, .int j, .int k] = .ok (.int (if j < i then (if k < j then k else j) else (if k < i then k else i))) := rfl
theorem hInt1_b (k : Bool) : hInt1 [.bool k] = .ok (.int (if k then 1 else 0)) := rfl
theorem hInt1_i (k : Int) : hInt1 [.int k] = .ok (.int k) := rfl
theorem hBits_i (i : Int) : hBits (.int i) = .ok (.int (Builtin.Int.intBits i : Nat)) := rfl
theorem hListOf_l (xs : List Dt) : one hListOf [.list xs] = .ok (.list xs) := rfl
theorem hListOf_t (xs : List Dt) : one hListOf [.tuple xs] = .ok (.list xs) := rfl
theorem hTupOf_l (xs : List Dt) : one hTupOf [.list xs] = .ok (.tuple xs) := rfl
theorem hTupOf_t (xs : List Dt) : one hTupOf [.tuple xs] = .ok (.tuple xs) := rfl
theorem seq_nx {a b : Gs} {ρ ρ' : List Dt} (h : a ρ = .ok (.nx ρ')) : gSeqS a b ρ = b ρ' := by unfold gSeqS; rw [h]
theorem seq_rt {a b : Gs} {ρ : List Dt} {d : Dt} (h : a ρ = .ok (.rt d)) : gSeqS a b ρ = .ok (.rt d) := by unfold gSeqS; rw [h]
theorem set_ok {i : Nat} {g : Gd} {ρ : List Dt} {d : Dt} (h : g ρ = .ok d) : gSet i g ρ = .ok (.nx (ρ.set i d)) := by unfold gSet; rw [h]; rfl
theorem ret_ok {g : Gd} {ρ : List Dt} {d : Dt} (h : g ρ = .ok d) : gRet g ρ = .ok (.rt d) := by unfold gRet; rw [h]; rfl
theorem if_t {t : List Dt → O Bool} {a b : Gs} {ρ : List Dt} (h : t ρ = .ok true) : gIfS t a b ρ = a ρ := by unfold gIfS; rw [h]; rfl
theorem if_f {t : List Dt → O Bool} {a b : Gs} {ρ : List Dt} (h : t ρ = .ok false) : gIfS t a b ρ = b ρ := by unfold gIfS; rw [h]; rfl
theorem gSeqS_def (a b : Gs) (ρ : List Dt) : gSeqS a b ρ = match a ρ with | .ok (.nx ρ') => b ρ' | o => o := rfl
theorem gSet_def (i : Nat) (g : Gd) (ρ : List Dt) : gSet i g ρ = bnd (g ρ) fun d => .ok (.nx (ρ.set i d)) := rfl
theorem gRet_def (g : Gd) (ρ : List Dt) : gRet g ρ = bnd (g ρ) fun d => .ok (.rt d) := rfl
theorem gIfS_def (t : List Dt → O Bool) (a b : Gs) (ρ : List Dt) : gIfS t a b ρ = bnd (t ρ) fun c => if c then a ρ else b ρ := rfl
theorem gNext_def (ρ : List Dt) : gNext ρ = .ok (.nx ρ) := rfl
theorem gApp_l {i : Nat} {g : Gd} {ρ : List Dt} {ds : List Dt} {d : Dt} (h1 : ρ[i]? = some (.list ds)) (h2 : g ρ = .ok d) (h3 : ds.length < 100000) : gApp i g ρ = .ok (.nx (ρ.set i (.list (ds ++ [d])))) := by
  unfold gApp
  rw [h1]
  simp only [h2, bnd_ok]
  rw [if_pos h3]
theorem callN_ok {n : Nat} {g : List Dt → O Dt} {gA : List Dt → O (List Dt)} {ρ ds : List Dt} {d : Dt} (h1 : gA ρ = .ok ds) (h2 : ds.length = n) (h3 : g ds = .ok d) : gCallN n g gA ρ = .ok d := by
  unfold gCallN
  rw [h1, bnd_ok, if_pos h2, h3]
theorem asg_ok {g : Gd} {h : Dt → List Dt → O (List Dt)} {ρ ρ' : List Dt} {d : Dt} (h1 : g ρ = .ok d) (h2 : h d ρ = .ok ρ') : gAsg g h ρ = .ok (.nx ρ') := by
  unfold gAsg
  rw [h1, bnd_ok, h2]
theorem fnN_rt {m : Nat} {g : Gs} {ds : List Dt} {d : Dt} (h : g (ds ++ List.replicate (m - ds.length) .none) = .ok (.rt d)) : fnN m g ds = .ok d := by unfold fnN; rw [h]
theorem fnL_rt {m : Nat} {g : Gs} {ds : List Dt} {d : Dt} (h : g (ds ++ List.replicate (m - ds.length) .none) = .ok (.rt d)) : fnL m g ds = .ok d := by unfold fnL; rw [h]
theorem lcE_map {α : Type} (enc : α → Dt) (p : α → Bool) (q : α → Dt) {h : Dt → List Dt → O (List Dt)} {gt : List Dt → O Bool} {ge : Gd} {ρ : List Dt} : ∀ (xs : List α), (∀ x ∈ xs, ∃ ρ', h (enc x) ρ = .ok ρ' ∧ gt ρ' = .ok (p x) ∧ (p x = true → ge ρ' = .ok (q x))) →
    lcE h gt ge ρ (xs.map enc) = .ok ((xs.filter p).map q)
  | [], _ => rfl
  | x :: xs, H => by
    obtain ⟨ρ', h1, h2, h3⟩ := H x List.mem_cons_self
    have ih := lcE_map enc p q xs fun y hy => H y (List.mem_cons_of_mem _ hy)
    rw [List.map_cons]
    unfold lcE
    rw [h1, bnd_ok, h2, bnd_ok]
    cases hp : p x with
    | true => rw [if_pos rfl, h3 hp, bnd_ok, ih, bnd_ok, List.filter_cons_of_pos hp, List.map_cons]
    | false => rw [if_neg Bool.false_ne_true, ih, List.filter_cons_of_neg (by rw [hp]; exact Bool.false_ne_true)]
theorem gLc_map {α : Type} (enc : α → Dt) (p : α → Bool) (q : α → Dt) {gi : List Dt → O (List Dt)} {h : Dt → List Dt → O (List Dt)} {gt : List Dt → O Bool} {ge : Gd} {ρ : List Dt} {xs : List α} (h1 : gi ρ = .ok (xs.map enc)) (h2 : xs.length ≤ 100000)
    (H : ∀ x ∈ xs, ∃ ρ', h (enc x) ρ = .ok ρ' ∧ gt ρ' = .ok (p x) ∧ (p x = true → ge ρ' = .ok (q x))) : gLc gi h gt ge ρ = .ok (.list ((xs.filter p).map q)) := by
  unfold gLc
  rw [h1, bnd_ok, if_pos (by rw [List.length_map]; exact h2), lcE_map enc p q xs H]
theorem forE_ix {α : Type} (enc : α → Dt) {h : Dt → List Dt → O (List Dt)} {b : Gs} (xs : List α) (I : Nat → List Dt → Prop) {ρ : List Dt} (h0 : I 0 ρ)
    (H : ∀ i ρ (hi : i < xs.length), I i ρ → ∃ ρ1 ρ2, h (enc xs[i]) ρ = .ok ρ1 ∧ (b ρ1 = .ok (.nx ρ2) ∨ b ρ1 = .ok (.ct ρ2)) ∧ I (i + 1) ρ2) :
    ∃ ρ', forE h b (xs.map enc) ρ = .ok (.nx ρ') ∧ I xs.length ρ' := by
  have key : ∀ n i ρ, i + n = xs.length → I i ρ → ∃ ρ', forE h b ((xs.drop i).map enc) ρ = .ok (.nx ρ') ∧ I xs.length ρ' := by
    intro n
    induction n with
    | zero =>
      intro i ρ e hi
      have e : i = xs.length := by omega
      subst e
      rw [List.drop_length]
      exact ⟨ρ, rfl, hi⟩
    | succ n ih =>
      intro i ρ e hi
      have hlt : i < xs.length := by omega
      obtain ⟨ρ1, ρ2, h1, h2, h3⟩ := H i ρ hlt hi
      obtain ⟨ρ', q1, q2⟩ := ih (i + 1) ρ2 (by omega) h3
      refine ⟨ρ', ?_, q2⟩
      rw [List.drop_eq_getElem_cons hlt, List.map_cons]
      unfold forE
      rw [h1]
      simp only
      rcases h2 with h2 | h2
      · rw [h2, bnd_ok]; exact q1
      · rw [h2, bnd_ok]; exact q1
  have := key xs.length 0 ρ (by omega) h0
  rwa [List.drop_zero] at this
theorem for_ok {gi : List Dt → O (List Dt)} {h : Dt → List Dt → O (List Dt)} {b : Gs} {ρ : List Dt} {ds : List Dt} {z : O Fl} (h1 : gi ρ = .ok ds) (h2 : forE h b ds ρ = z) : gFor gi h b ρ = z := by unfold gFor; rw [h1, bnd_ok, h2]
theorem while_f {t : List Dt → O Bool} {b : Gs} {n : Nat} {ρ : List Dt} (h : t ρ = .ok false) (hn : n ≠ 0 := by decide) : gWhile t b n ρ = .ok (.nx ρ) := by
  cases n with
  | zero => exact absurd rfl hn
  | succ n => unfold gWhile; rw [h]; rfl
theorem while_t {t : List Dt → O Bool} {b : Gs} {n : Nat} {ρ ρ' : List Dt} (h : t ρ = .ok true) (h2 : b ρ = .ok (.nx ρ')) : gWhile t b (n + 1) ρ = gWhile t b n ρ' := by
  conv => lhs; unfold gWhile
  simp only [h, bnd_ok, if_true, h2]
theorem rng1_ok {g : List Dt → O (List Dt)} {ρ : List Dt} {j : Int} (h : g ρ = .ok [.int j]) (h1 : -4611686018427387904 ≤ j) (h2 : j < 4611686018427387904) : gRng1 g ρ = .ok (rangeD 0 j) := by
  unfold gRng1
  rw [h, bnd_ok]
  unfold rng1
  simp only
  rw [if_pos (by constructor <;> omega)]
theorem rng2_ok {g : List Dt → O (List Dt)} {ρ : List Dt} {i j : Int} (h : g ρ = .ok [.int i, .int j]) (h1 : -4611686018427387904 ≤ j) (h2 : j < 4611686018427387904) (h3 : -4611686018427387904 ≤ i) (h4 : i < 4611686018427387904) : gRng2 g ρ = .ok (rangeD i j) := by
  unfold gRng2
  rw [h, bnd_ok]
  unfold rng2
  simp only
  rw [if_pos (by refine ⟨?_, ?_, ?_, ?_⟩ <;> omega)]
theorem rangeD_nat (n : Nat) : rangeD 0 (n : Int) = (List.range n).map fun (i : Nat) => PyData.int (i : Int) := by
  unfold rangeD
  rw [Int.sub_zero, Int.toNat_natCast]
  apply List.map_congr_left
  intro i _
  rw [Int.zero_add]
theorem seqG_l {g : Gd} {ρ : List Dt} {ds : List Dt} (h : g ρ = .ok (.list ds)) : gSeq g ρ = .ok ds := by unfold gSeq; rw [h]; rfl
theorem allB_map : ∀ xs : List Bool, allB (xs.map .bool) = some xs
  | [] => rfl
  | x :: xs => by rw [List.map_cons]; unfold allB; rw [allB_map xs]; rfl
theorem canLay_ints : ∀ xs : List Int, PyData.canLayAll0 (xs.map .int) = true
  | [] => by simp [PyData.canLayAll0]
  | x :: xs => by simp [PyData.canLayAll0, PyData.canLay0, canLay_ints xs]
theorem depth_ints : ∀ xs : List Int, PyData.depthAll (xs.map .int) = 0
  | [] => by simp [PyData.depthAll]
  | x :: xs => by simp [PyData.depthAll, PyData.depth, depth_ints xs]
theorem shaped_ints (xs : List Int) : SeqAt.shaped (.list (xs.map .int)) = true := by simp [SeqAt.shaped, PyData.canLay0, PyData.depth, canLay_ints, depth_ints]
theorem any_ints (i : Int) : ∀ xs : List Int, ((xs.map PyData.int).any fun z => PyData.eqv z (.int i)) = decide (i ∈ xs)
  | [] => by simp
  | x :: xs => by
    rw [List.map_cons, List.any_cons, any_ints i xs]
    simp only [PyData.eqv, List.mem_cons]
    by_cases h : x = i
    · subst h; simp
    · have h' : ¬ i = x := fun e => h e.symm
      simp [h, h']
theorem hIn_ints (i : Int) (xs : List Int) : hIn (.int i) (.list (xs.map .int)) = .ok (.bool (decide (i ∈ xs))) := by
  unfold hIn; simp only [shaped_int, shaped_ints, Bool.and_self, if_true, any_ints]
theorem hNotIn_ints (i : Int) (xs : List Int) : hNotIn (.int i) (.list (xs.map .int)) = .ok (.bool (!decide (i ∈ xs))) := by
  unfold hNotIn; simp only [shaped_int, shaped_ints, Bool.and_self, if_true, any_ints]
theorem pureA_ints : ∀ xs : List Int, pureA (xs.map .int) = true
  | [] => rfl
  | x :: xs => by rw [List.map_cons]; unfold pureA; rw [pureA_ints xs]; rfl
theorem atI_map {α β : Type} (f : α → β) {xs : List α} {i : Int} (h0 : 0 ≤ i) (h1 : i < xs.length) : L2.atI (xs.map f) i = some (f (xs[i.toNat]'(by omega))) := by
  obtain ⟨j, rfl⟩ : ∃ j : Nat, i = j := ⟨i.toNat, by omega⟩
  have hj : j < xs.length := by omega
  refine L2.atI_nat ?_
  rw [List.getElem?_map, List.getElem?_eq_getElem hj]
  rfl
theorem hIx_l {ds : List Dt} {i : Int} {z : Dt} (h : L2.atI ds i = some z) : hIx (.list ds) (.int i) = .ok z := by unfold hIx; simp only [h]
theorem hIx_ints {xs : List Int} {i : Int} (h0 : 0 ≤ i) (h1 : i < xs.length) : hIx (.list (xs.map .int)) (.int i) = .ok (.int (xs[i.toNat]'(by omega))) := hIx_l (atI_map _ h0 h1)
theorem sIx_none (n d : Nat) : HT.sIx n d none = d := rfl
theorem cutD_from {α : Type} (f : α → Dt) (xs : List α) (k : Nat) : cutD (xs.map f) (some (k : Int)) none = (xs.drop k).map f := by
  unfold cutD
  rw [HT.sIx_nat, sIx_none, List.length_map]
  rcases Nat.lt_or_ge k xs.length with h | h
  · rw [Nat.min_eq_left (Nat.le_of_lt h), ← List.map_drop, List.take_of_length_le (by rw [List.length_map, List.length_drop]; omega)]
  · rw [Nat.min_eq_right h, List.drop_of_length_le (by rw [List.length_map]; omega), List.drop_of_length_le h]
    simp
theorem cutD_to {α : Type} (f : α → Dt) (xs : List α) (k : Nat) : cutD (xs.map f) none (some (k : Int)) = (xs.take k).map f := by
  unfold cutD
  rw [HT.sIx_nat, sIx_none, List.length_map, List.drop_zero, Nat.sub_zero, ← List.map_take]
  rcases Nat.lt_or_ge k xs.length with h | h
  · rw [Nat.min_eq_left (Nat.le_of_lt h)]
  · rw [Nat.min_eq_right h, List.take_of_length_le (Nat.le_refl _), List.take_of_length_le h]
theorem hSl_from {α : Type} (f : α → Dt) (xs : List α) (k : Nat) : hSl (.list (xs.map f)) (some (k : Int)) none = .ok (.list ((xs.drop k).map f)) := by unfold hSl; rw [← cutD_from]
theorem hSl_to {α : Type} (f : α → Dt) (xs : List α) (k : Nat) : hSl (.list (xs.map f)) none (some (k : Int)) = .ok (.list ((xs.take k).map f)) := by unfold hSl; rw [← cutD_to]
theorem hCat_l {xs ys : List Dt} (h : xs.length + ys.length ≤ 100000) : hCat (.list xs) (.list ys) = .ok (.list (xs ++ ys)) := by unfold hCat; simp only [h, if_true]
theorem hCat_map {α : Type} (f : α → Dt) (xs ys : List α) (h : xs.length + ys.length ≤ 100000) : hCat (.list (xs.map f)) (.list (ys.map f)) = .ok (.list ((xs ++ ys).map f)) := by
  rw [hCat_l (by rw [List.length_map, List.length_map]; exact h), List.map_append]
theorem hRep_l {xs : List Dt} {k : Int} (h0 : 0 ≤ k) (h1 : k < 100) (h : xs.length ≤ 1000) : hRep (.list xs) (.int k) = .ok (.list (List.replicate k.toNat xs).flatten) := by
  unfold hRep
  simp only
  rw [if_pos]
  refine ⟨by omega, by omega, ?_⟩
  have : xs.length * k.toNat ≤ 1000 * 100 := Nat.mul_le_mul h (by omega)
  omega
theorem seq_step {a b : Gs} {ρ ρ' : List Dt} {z : O Fl} (h : a ρ = .ok (.nx ρ')) (k : b ρ' = z) : gSeqS a b ρ = z := by rw [seq_nx h]; exact k
theorem gCallN_def (n : Nat) (g : List Dt → O Dt) (gA : List Dt → O (List Dt)) (ρ : List Dt) : gCallN n g gA ρ = bnd (gA ρ) fun ds => if ds.length = n then (match g ds with | .ok d => .ok d | _ => .bad) else .bad := rfl
theorem gAsg_def (g : Gd) (h : Dt → List Dt → O (List Dt)) (ρ : List Dt) : gAsg g h ρ = bnd (g ρ) fun d => match h d ρ with | .ok ρ' => .ok (.nx ρ') | _ => .bad := rfl
theorem gSl_def (h : Dt → Option Int → Option Int → O Dt) (g : Gd) (gl gh : List Dt → O (Option Int)) (ρ : List Dt) : gSl h g gl gh ρ = bnd (g ρ) fun d => bnd (gl ρ) fun lo => bnd (gh ρ) fun hi => h d lo hi := rfl
theorem gNoPart_def (ρ : List Dt) : gNoPart ρ = .ok none := rfl
theorem gPart_def (g : Gd) (ρ : List Dt) : gPart g ρ = bnd (g ρ) fun d => match d with | .int i => .ok (some i) | _ => .bad := rfl
theorem hSl_from' {α : Type} (f : α → Dt) (xs : List α) {k : Int} (h : 0 ≤ k) : hSl (.list (xs.map f)) (some k) none = .ok (.list ((xs.drop k.toNat).map f)) := by
  have := hSl_from f xs k.toNat
  rwa [show ((k.toNat : Nat) : Int) = k by omega] at this
theorem hSl_to' {α : Type} (f : α → Dt) (xs : List α) {k : Int} (h : 0 ≤ k) : hSl (.list (xs.map f)) none (some k) = .ok (.list ((xs.take k.toNat).map f)) := by
  have := hSl_to f xs k.toNat
  rwa [show ((k.toNat : Nat) : Int) = k by omega] at this
def pl (n : Int) : List Int := (List.range n.toNat).map fun (i : Nat) => (i : Int)
theorem rangeD_pl (n : Int) : rangeD 0 n = (pl n).map .int := by
  unfold rangeD pl
  rw [List.map_map, Int.sub_zero]
  apply List.map_congr_left
  intro i _
  show PyData.int (0 + (i : Int)) = PyData.int (i : Int)
  rw [Int.zero_add]
theorem pl_len (n : Int) : (pl n).length = n.toNat := by unfold pl; rw [List.length_map, List.length_range]
theorem map_snoc (xs : List Int) (z : Int) : xs.map PyData.int ++ [PyData.int z] = (xs ++ [z]).map PyData.int := by rw [List.map_append]; rfl
end Sim
end T_SimP
section T_SimI
set_option Elab.async false
set_option linter.all false
set_option maxRecDepth 100000
namespace Sim
open PySem PySem.Spec L2
open PyProof.Rows hiding St
section
variable {prog : Program} {w : World} {A : Around} {E : Value → Shared → Prop} {s : Shared}
theorem extend_rev {R : Result → Shared → Prop} {it l : Addr} {items : Array Value} (hh : A.handled = none) (hit : s.heap.IsRevIter it l ((items.size : Int) - 1)) (hl : s.heap.IsList l items) (hne : l ≠ it) (hn : items.size ≤ sizeLine)
    (S : Addr) (res : Value) {c₀ : Nat} (hS : s.heap.get? S = some { cls := .type "list", data := .seq #[] c₀ })
    (hSi : S ≠ it) (hSl : S ≠ l)
    (hR : ∀ h' tk acc' c', (∀ b o, b ≠ S → b ≠ it → s.heap.get? b = some o → h'.get? b = some o) → h'.get? S = some { cls := .type "list", dict := none, data := .seq acc' c', slots := #[] } →
      ItemsOf (fun i v => items[items.size - 1 - i]? = some v) acc' items.size → R (.ok (.ret res)) { s with heap := h', toks := tk }) :
    wpAny (model prog w) A.in1 (Builtin.List.listExtendWith (.ref S) (.ref it) res)
      (fun fin s' => match fin with | .done f => R (.ok f) s' | .again c' => c'.quiet = true ∧ codeAny (model prog w) A c' R s') (fun e s' => R (.error e) s') s := by
  have W := (Walks.listRev (prog := prog) (w := w) (A := A.in1) hh it l hne items).toS
  have hSf : S ∉ [it, l] := by simp only [List.mem_cons, List.not_mem_nil, or_false, not_or]; exact ⟨hSi, hSl⟩
  have hT : s.TypeIs (.ref it) "list_reverseiterator" := hit.typeIs
  have h1 : Builtin.List.listSameRef (.ref S) (.ref it) = false := by simp [Builtin.List.listSameRef, hSi]
  unfold Builtin.List.listExtendWith
  refine wpAny_bind (wpAny_typeOf hT ?_)
  rw [if_neg (by rw [h1]; decide)]
  refine wpAny_bind (wpAny_pyIter_revIter hit ?_)
  refine wpAny_bind (wpAny_holding ?_)
  unfold Builtin.List.listLengthHint
  refine wpAny_bind (wpAny_specialOf hT RT.nolen_lri ?_)
  show wpAny _ A.in1 (specialOf (Value.ref it) (Str.ofString "__length_hint__") >>= _) _ _ _
  refine wpAny_bind (wpAny_specialOf hT RT.hint_lri ?_)
  generalize hid : ("list_reverseiterator.__length_hint__" : String) = id0
  wp_delta
  rw [show splitId id0 = some ("list_reverseiterator", "__length_hint__") from by subst hid; decide +kernel]
  subst hid
  refine wpAny_bind (wpAny_isInstance (b := true) hT (by rw [isSubtype_type]; kernel_rfl) ?_)
  refine wpAny_pure ?_
  rw [if_neg (by decide)]
  have e0 : ((items.size : Nat) : Int) - 1 - ((0 : Nat) : Int) = (items.size : Int) - 1 := by omega
  refine wpAny_pure ⟨plainId_quiet F.plain_extend_loop _, codeAny_extend_loopS W hn _ hSf _ items.size 0 _ _ _ rfl (Nat.zero_le _) ⟨Nat.zero_le _, by rw [e0]; exact hit, hl⟩ hS (ItemsOf.nil _) fun s' acc' c' hm hS' hacc => ?_⟩
  rw [Moved.eq_with hm]
  refine hR s'.heap s'.toks acc' c' (fun b o hb hb2 e => hm.heap b o (fun hmem => ?_) e) hS' hacc
  rcases List.mem_cons.mp hmem with e' | hmem
  · exact hb e'
  · exact hb2 (List.mem_singleton.mp hmem)
theorem list_init_rev {R : Result → Shared → Prop} {it l : Addr} {items : Array Value} (hh : A.handled = none) (hit : s.heap.IsRevIter it l ((items.size : Int) - 1)) (hl : s.heap.IsList l items) (hne : l ≠ it) (hn : items.size ≤ sizeLine)
    (S : Addr) (hS : s.heap.get? S = some { cls := .type "list", data := .seq #[] }) (hSi : S ≠ it) (hSl : S ≠ l)
    (hR : ∀ h' tk acc' c', (∀ b o, b ≠ S → b ≠ it → s.heap.get? b = some o → h'.get? b = some o) → h'.get? S = some { cls := .type "list", dict := none, data := .seq acc' c', slots := #[] } →
      ItemsOf (fun i v => items[items.size - 1 - i]? = some v) acc' items.size → R (.ok (.ret .none)) { s with heap := h', toks := tk }) :
    wpAny (model prog w) A.in1 (Builtin.«list.__init__» ⟨[.ref S, .ref it], []⟩)
      (fun fin s' => match fin with | .done f => R (.ok f) s' | .again c' => c'.quiet = true ∧ codeAny (model prog w) A c' R s') (fun e s' => R (.error e) s') s := by
  show wpAny _ _ (do let old ← Builtin.List.listItems (.ref S); Builtin.List.listUpdate (.ref S) (fun _ => #[]); letGo old.toList.reverse; Builtin.List.listExtendWith (.ref S) (.ref it) .none) _ _ s
  refine wpAny_bind ?_
  unfold Builtin.List.listItems
  refine wpAny_bind (wpAny_seqItems hS rfl (wpAny_pure ?_))
  show wpAny _ _ (updateSeq S (fun _ => #[]) >>= fun _ => letGo (#[] : Array Value).toList.reverse >>= fun _ => Builtin.List.listExtendWith (.ref S) (.ref it) .none) _ _ s
  refine wpAny_bind (wpAny_updateSeq hS rfl ?_)
  have hS₂ := Heap.get?_update_self (Obj.mapSeq (fun _ => (#[] : Array Value))) hS rfl
  have oth : ∀ b o, b ≠ S → s.heap.get? b = some o → (s.heap.update S (Obj.mapSeq (fun _ => (#[] : Array Value)))).get? b = some o :=
    fun b o hb e => (Heap.get?_update_other _ _ (Ne.symm hb)).trans e
  refine wpAny_bind (wpAny_letGo ?_)
  exact extend_rev (s := { s with heap := s.heap.update S (Obj.mapSeq (fun _ => (#[] : Array Value))) }) hh (hit.at fun o e => oth it o (Ne.symm hSi) e) (hl.at fun o e => oth l o (Ne.symm hSl) e) hne hn S .none hS₂ hSi hSl fun h' tk acc' c' hk hS' hacc =>
    hR h' tk acc' c' (fun b o hb hb2 e => hk b o hb hb2 (oth b o hb e)) hS' hacc
theorem call_list_rev {it l : Addr} {items : Array Value} {Q : Value → Shared → Prop} (hh : A.handled = none) (hit : s.heap.IsRevIter it l ((items.size : Int) - 1)) (hl : s.heap.IsList l items) (hne : l ≠ it) (hn : items.size ≤ sizeLine)
    (hQ : ∀ h' tk acc' c', (∀ b o, b ≠ it → s.heap.get? b = some o → h'.get? b = some o) →
      h'.get? s.heap.objs.size = some { cls := .type "list", dict := none, data := .seq acc' c', slots := #[] } → ItemsOf (fun i v => items[items.size - 1 - i]? = some v) acc' items.size → Q (.ref s.heap.objs.size) { s with heap := h', toks := tk }) :
    wpAny (model prog w) A (call (.type "list") [.ref it]) Q E s := by
  refine callType_codes (Q₁ := fun obj s₁ => obj = .ref s.heap.objs.size ∧ s₁ = { s with heap := s.heap.push { cls := .type "list", data := .seq #[] } }) F.called_list (F.typeCall_list_1 _) F.entry_list_init
    (code_list_new _ ⟨rfl, rfl⟩) fun obj s₁ h₁ => ?_
  obtain ⟨rfl, rfl⟩ := h₁
  have hS : (s.heap.push { cls := .type "list", data := .seq #[] }).get? s.heap.objs.size = some { cls := .type "list", data := .seq #[] } := Heap.get?_push_size _ rfl
  obtain ⟨oi, hoi, _⟩ := id hit
  obtain ⟨ol, hol, _⟩ := id hl
  refine ⟨⟨_, hS, rfl⟩, F.args_list_init_2 _ _, list_init_rev (A := A.in1) (s := { s with heap := s.heap.push { cls := .type "list", data := .seq #[] } }) hh (hit.at fun o e => Heap.get?_push_of_some _ e) (hl.push _) hne hn _ hS (Nat.ne_of_gt (Heap.lt_size hoi)) (Nat.ne_of_gt (Heap.lt_size hol)) fun h' tk acc' c' hk hS' hacc => ?_⟩
  exact ⟨rfl, hQ h' tk acc' c' (fun b o hb e => hk b o (Nat.ne_of_lt (Heap.lt_size e)) hb (Heap.get?_push_of_some _ e)) hS' hacc⟩
end
def tLstRev (K : PySem.W.Frag) (te : TE) : TE := fun σ H Q => te σ H fun v H1 => ∃ (a : Addr) (xs : List V), v = .ref a ∧ SqL K H1 a xs ∧ ∀ q, H1 q = none → Q (.ref q) (upd H1 q (.lst xs.reverse))
section
variable {X : Cx}
theorem pe_lstRev {e : Expr} {te : TE} {p p2 pos pos2 : Pos} (hc : X.calm = true) (hg : Gl X "list") (hm : X.mg "list" = none) (hg2 : Gl X "reversed") (hm2 : X.mg "reversed" = none) (he : PE X e te)
    (hs : starEach [e] X.env = (false, eval e X.env) :: starEach [] X.env := by rfl)
    (hs2 : starEach [.Call (.Name "reversed" p2) [e] [] pos2] X.env = (false, eval (.Call (.Name "reversed" p2) [e] [] pos2) X.env) :: starEach [] X.env := by rfl) :
    PE X (.Call (.Name "list" p) [.Call (.Name "reversed" p2) [e] [] pos2] [] pos) (tLstRev X.K te) := by
  refine ⟨fun pins s σ H Q I h => ?_⟩
  refine Call_ (ld_blt I hg hm boot_list (PyProof.Rows.callWith_type1 (args_cons (Call_ (ld_blt I hg2 hm2 PyProof.Rows.boot_reversed (PyProof.Rows.callWith_type1 (args_cons (thn (he.run pins s σ H _ I h) fun u s1 ⟨v, H1, I1, r1, q1⟩ => args_nil ?_) hs) hs rfl))) hs2) hs2 rfl))
  obtain ⟨a, xs, ev, hq, q⟩ := q1
  subst ev
  obtain rfl : u = Value.ref a := r1
  obtain ⟨its, rv, p', hz⟩ := I1.list hq
  refine call_reversed_list p'.isList (args_nil ?_)
  have k0 : ∀ b o, s1.heap.get? b = some o → (s1.heap.push (revObj a ((its.toArray.size : Int) - 1))).get? b = some o := fun b o e => Heap.get?_push_of_some _ e
  have I2 : Inv X pins σ H1 { s1 with heap := s1.heap.push (revObj a ((its.toArray.size : Int) - 1)) } := I1.kept (t' := s1.toks) k0
  obtain ⟨f0, f1, f2, f3, f4, f5⟩ := I1.fpOk (H' := H1) (b := s1.heap.objs.size) (Nat.le_refl _) (I1.hok.fresh (Nat.le_refl _))
  have hl := p'.isList
  obtain ⟨ol, hol, _⟩ := id hl
  have hne : a ≠ s1.heap.objs.size := Nat.ne_of_lt (Heap.lt_size hol)
  have hn : its.toArray.size ≤ sizeLine := by rw [List.size_toArray, ← rv.length]; exact hz
  refine call_list_rev (s := { s1 with heap := s1.heap.push (revObj a ((its.toArray.size : Int) - 1)) }) (I1.ok.hd hc) ⟨_, Heap.get?_push_size _ rfl, rfl, rfl⟩ (hl.push _) hne hn fun h' tk acc c' hk he' hi => ?_
  have I3 : Inv X pins σ H1 { s1 with heap := h', toks := tk } := I2.turned (t' := tk) (fun b o hb e => hk b o hb e) f0 f1 f3 f4 f5
  refine ⟨.ref (s1.heap.push (revObj a ((its.toArray.size : Int) - 1))).objs.size, upd H1 (s1.heap.push (revObj a ((its.toArray.size : Int) - 1))).objs.size (.lst xs.reverse), ?_, rfl, q _ (I2.hok.fresh (Nat.le_refl _))⟩
  refine I2.turnedNew (t' := tk) (ch := [s1.heap.objs.size]) (fun b o hb e => hk b o (fun z => hb (by simp [z])) e) (fun b hb => ?_) (Nat.le_refl _) (show ObjOk X.prog X.w _ _ _ (.lst xs.reverse) from ⟨by rw [List.length_reverse]; exact hz, acc.toList, c', RT.vals_rev rv hi, ?_⟩)
  · have e : b = s1.heap.objs.size := by simpa using hb
    subst e
    exact ⟨f0, f1, f2, f3, f4, f5⟩
  · rw [Array.toArray_toList]; exact he'
end
inductive Ty5 where
  | int | bool | str | list | tuple
def Ty5.nm : Ty5 → String
  | .int => "int"
  | .bool => "bool"
  | .str => "str"
  | .list => "list"
  | .tuple => "tuple"
def isaB (T : Ty5) : Dt → Option Bool
  | .none => some false
  | .bool _ => some (match T with | .bool => true | .int => true | _ => false)
  | .int _ => some (match T with | .int => true | _ => false)
  | .str _ => some (match T with | .str => true | _ => false)
  | .list _ => some (match T with | .list => true | _ => false)
  | .tuple _ => some (match T with | .tuple => true | _ => false)
  | .dict es => if exnL es then none else some false
def hIsa (T : Ty5) : Dt → O Dt := fun d => match isaB T d with
  | some b => .ok (.bool b)
  | none => .bad
section
variable {K : PySem.W.Frag} {W : Wt} {Δ : List Kd} {te : TE} {g : Gd} {av fr : Bool} {T : Ty5}
theorem kit_non : PySem.W.kitOne K (.type "NoneType") (.type T.nm) = some false := by cases T <;> exact kit_ty (by decide +kernel)
theorem kit_bl : PySem.W.kitOne K (.type "bool") (.type T.nm) = some (match T with | .bool => true | .int => true | _ => false) := by cases T <;> exact kit_ty (by decide +kernel)
theorem kit_int : PySem.W.kitOne K (.type "int") (.type T.nm) = some (match T with | .int => true | _ => false) := by cases T <;> exact kit_ty (by decide +kernel)
theorem kit_str : PySem.W.kitOne K (.type "str") (.type T.nm) = some (match T with | .str => true | _ => false) := by cases T <;> exact kit_ty (by decide +kernel)
theorem kit_list : PySem.W.kitOne K (.type "list") (.type T.nm) = some (match T with | .list => true | _ => false) := by cases T <;> exact kit_ty (by decide +kernel)
theorem kit_dict : PySem.W.kitOne K (.type "dict") (.type T.nm) = some false := by cases T <;> exact kit_ty (by decide +kernel)
theorem kit_tuple : PySem.W.kitOne K (.type "tuple") (.type T.nm) = some (match T with | .tuple => true | _ => false) := by cases T <;> exact kit_ty (by decide +kernel)
theorem rp_isa {F : Addr → Prop} {H : Hp} {v : V} {d : Dt} {b : Bool} (h : Rp K F H v d) (e : isaB T d = some b) : ∃ t, TyX K H v t ∧ PySem.W.kitOne K t (.type T.nm) = some b := by
  cases h with
  | non => cases e; exact ⟨_, .base .non, kit_non⟩
  | bl x => cases e; exact ⟨_, .base (.bl x), kit_bl⟩
  | int x => cases e; exact ⟨_, .base (.int x), kit_int⟩
  | str x => cases e; exact ⟨_, .base (.str x), kit_str⟩
  | lst hp _ _ => cases e; exact ⟨_, .base (.lst hp), kit_list⟩
  | fz hp _ => cases e
  | tup hp _ =>
    cases e
    rcases hp with (hp | ⟨o, hp⟩) | ⟨o, its, n, hp, hc, _⟩
    · exact ⟨_, .base (.tup hp), kit_tuple⟩
    · exact ⟨_, .fTuple hp, kit_tuple⟩
    · exact ⟨_, .kTuple hp hc, kit_tuple⟩
  | @dic _ _ es hp _ _ _ =>
    have e : (if exnL es = true then none else some false) = some b := e
    cases hx : exnL es with
    | true => rw [hx] at e; cases e
    | false => rw [hx] at e; cases e; exact ⟨_, .base (.dK hp), kit_dict⟩
  | exn _ _ _ => cases e
theorem se_isa (ha : SE K W Δ te (.v av fr) g) : SE K W Δ (tCB (rIsi K) (tCons te (tCons (tC (.ty T.nm)) tNil))) (.v true true) (gUn (hIsa T) g) := fun f ρ σ H Q R q => by
  refine ha f ρ σ H _ R ?_
  unfold gUn at q
  cases e1 : g ρ with
  | bad => rw [e1] at q; exact q
  | ex z => rw [e1] at q; exact q
  | ok d =>
    rw [e1, bnd_ok] at q
    intro v H1 s1 x1
    unfold hIsa at q
    cases e2 : isaB T d with
    | none => rw [e2] at q; exact q.elim
    | some b =>
      rw [e2] at q
      obtain ⟨t, h1, h2⟩ := rp_isa x1 e2
      exact ⟨v, .ty T.nm, t, .type T.nm, b, rfl, .ty _, h1, h2, q _ H1 s1 (.bl b)⟩
end
section
variable {X : Cx} {K : PySem.W.Frag} {W : Wt} {Δ Δn Δb Δc : List Kd} {a b e : Expr} {es : List Expr} {ta tb te : TE} {tA : TA} {g ga : Gd} {gA : List Dt → O (List Dt)} {av fr : Bool} {L : Lk} {pos : Pos} {st : Stmt}
theorem x_isa (T : Ty5) {x : Str} {p p2 : Pos} (hm : X.mg "isinstance" = none) (hm2 : X.mg x = none) (h : PD X K W Δ e te (.v av fr) g) (hv : bootBuiltins x = some (.type T.nm) := by decide +kernel) (hg2 : Gl X x := by rfl) (hn : x ≠ "__name__" := by decide) (hdb : (x == ("__debug__" : Str)) = false := by decide)
    (hg : Gl X "isinstance" := by rfl)
    (he : starEach [e, .Name x p2] X.env = (false, eval e X.env) :: starEach [.Name x p2] X.env := by rfl) (he2 : starEach [.Name x p2] X.env = (false, eval (.Name x p2) X.env) :: starEach [] X.env := by rfl) (hpl : (backTo pos (starEach [.Name x p2] X.env)).any (·.1) = false := by rfl) :
    PD X K W Δ (.Call (.Name "isinstance" p) [e, .Name x p2] [] pos) (tCB (rIsi K) (tCons te (tCons (tC (.ty T.nm)) tNil))) (.v true true) (gUn (hIsa T) g) :=
  ⟨pe_callB (by have q := call_isi (X := X); rw [h.hK] at q; exact q) hg hm (by decide +kernel) (pa_cons h.pe (pa_cons (pe_bltn hg2 hm2 hv rfl hn hdb) pa_nil he2) he) (by decide) (by decide) he hpl, h.hK, se_isa h.se⟩
def gBad : Gs := fun _ => .bad
theorem z_never (hK : X.K = K := by rfl) : SD X K W L Δ Δn Δb Δc st tNever gBad := ⟨ps_never, hK, fun f ρ σ H E r q => q.elim⟩
def lst1 : List Dt → Option (List Dt)
  | [.list es] => some es
  | _ => none
def lst2 : List Dt → Option (List Dt × List Dt)
  | [.list es, .list es2] => some (es, es2)
  | _ => none
theorem lst1_inv {ds es : List Dt} (h : lst1 ds = some es) : ds = [.list es] := by
  unfold lst1 at h
  split at h
  · cases h; rfl
  · cases h
theorem lst2_inv {ds : List Dt} {p : List Dt × List Dt} (h : lst2 ds = some p) : ds = [.list p.1, .list p.2] := by
  unfold lst2 at h
  split at h
  · cases h; rfl
  · cases h
def enumD (es : List Dt) : List Dt := es.zipIdx.map fun p => .tuple [.int (p.2 : Nat), p.1]
def zipD (es es2 : List Dt) : List Dt := (es.zip es2).map fun p => .tuple [p.1, p.2]
def gEnum (gA : List Dt → O (List Dt)) : List Dt → O (List Dt) := fun ρ => bnd (gA ρ) fun ds => match lst1 ds with
  | some es => .ok (enumD es)
  | none => .bad
def gRev (gA : List Dt → O (List Dt)) : List Dt → O (List Dt) := fun ρ => bnd (gA ρ) fun ds => match lst1 ds with
  | some es => .ok es.reverse
  | none => .bad
def gZip (gA : List Dt → O (List Dt)) : List Dt → O (List Dt) := fun ρ => bnd (gA ρ) fun ds => match lst2 ds with
  | some p => .ok (zipD p.1 p.2)
  | none => .bad
theorem sc_enum {c : Addr} {es : List Dt} : Sc K (Ite K c) none [.ref c] [.list es] (enumD es) where
  goes := fun i H hi ⟨_, F, r⟩ => by
    cases r with
    | cons h _ =>
      obtain ⟨b, xs, e, hs, r⟩ := h.sql
      cases e
      have hx : i < xs.length := by rw [r.length]; unfold enumD at hi; simpa using hi
      exact ⟨xs, xs[i], hs, List.getElem?_eq_getElem hx⟩
  stops := fun H ⟨_, F, r⟩ => by
    cases r with
    | cons h _ =>
      obtain ⟨b, xs, e, hs, r⟩ := h.sql
      cases e
      exact ⟨xs, hs, by rw [r.length]; unfold enumD; simp⟩
  yields := fun i H x H' hi _ y => by
    obtain ⟨T, z, e, nT, eH, y⟩ := y
    subst e eH
    refine ⟨same_upd nT, fun F r => ?_⟩
    cases r with
    | cons h _ =>
      obtain ⟨b, xs, e, hs, r⟩ := h.sql
      cases e
      obtain ⟨d, h1, h2⟩ := r.get (y xs hs)
      refine ⟨.tuple [.int (i : Nat), d], ?_, .tup (.inl (.inl upd_same)) (.cons (.int _) (.cons (h2.same (same_upd nT)) .nil))⟩
      unfold enumD
      rw [List.getElem?_map, List.getElem?_zipIdx, h1]
      simp
theorem sc_rev {c : Addr} {es : List Dt} {n : Nat} (hn : n = es.length) : Sc K (Itv K c n) none [.ref c] [.list es] es.reverse where
  goes := fun i H hi ⟨_, F, r⟩ => by
    cases r with
    | cons h _ =>
      obtain ⟨b, xs, e, hs, r⟩ := h.sql
      cases e
      rw [List.length_reverse] at hi
      have hx : n - 1 - i < xs.length := by rw [r.length]; omega
      exact ⟨by omega, xs, _, hs, List.getElem?_eq_getElem hx⟩
  stops := fun H _ => by rw [List.length_reverse]; exact Nat.le_of_eq hn
  yields := fun i H x H' hi _ y => by
    obtain ⟨e, y⟩ := y
    subst e
    refine ⟨Same.refl _, fun F r => ?_⟩
    cases r with
    | cons h _ =>
      obtain ⟨b, xs, e, hs, r⟩ := h.sql
      cases e
      obtain ⟨d, h1, h2⟩ := r.get (y xs hs)
      rw [List.length_reverse] at hi
      exact ⟨d, by rw [List.getElem?_reverse hi, ← hn]; exact h1, h2⟩
theorem sc_zip {c c2 : Addr} {es es2 : List Dt} : Sc K (Itz K c c2) none [.ref c, .ref c2] [.list es, .list es2] (zipD es es2) where
  goes := fun i H hi ⟨_, F, r⟩ => by
    cases r with
    | cons h r2 =>
      cases r2 with
      | cons h2 _ =>
        obtain ⟨b, xs, e, hs, r⟩ := h.sql
        cases e
        obtain ⟨b, xs2, e, hs2, r2⟩ := h2.sql
        cases e
        have hl : i < es.length ∧ i < es2.length := by unfold zipD at hi; rw [List.length_map, List.length_zip] at hi; omega
        exact ⟨xs, xs2, _, _, hs, hs2, List.getElem?_eq_getElem (by rw [r.length]; exact hl.1), List.getElem?_eq_getElem (by rw [r2.length]; exact hl.2)⟩
  stops := fun H ⟨_, F, r⟩ => by
    cases r with
    | cons h r2 =>
      cases r2 with
      | cons h2 _ =>
        obtain ⟨b, xs, e, hs, r⟩ := h.sql
        cases e
        obtain ⟨b, xs2, e, hs2, r2⟩ := h2.sql
        cases e
        refine ⟨xs, xs2, hs, hs2, ?_⟩
        unfold zipD
        rw [List.length_map, List.length_zip, r.length, r2.length]
        omega
  yields := fun i H x H' hi _ y => by
    obtain ⟨T, z, z2, e, nT, eH, y, y2⟩ := y
    subst e eH
    refine ⟨same_upd nT, fun F r => ?_⟩
    cases r with
    | cons h r2 =>
      cases r2 with
      | cons h2 _ =>
        obtain ⟨b, xs, e, hs, r⟩ := h.sql
        cases e
        obtain ⟨b, xs2, e, hs2, r2⟩ := h2.sql
        cases e
        obtain ⟨d, h1, h1'⟩ := r.get (y xs hs)
        obtain ⟨d2, h2, h2'⟩ := r2.get (y2 xs2 hs2)
        refine ⟨.tuple [d, d2], ?_, .tup (.inl (.inl upd_same)) (.cons (h1'.same (same_upd nT)) (.cons (h2'.same (same_upd nT)) .nil))⟩
        unfold zipD
        rw [List.getElem?_map, List.getElem?_zip_eq_some (z := (d, d2)) |>.mpr ⟨h1, h2⟩]
        rfl
theorem si_enum (h : SA K W Δ tA true fr gA) : SI K W Δ (iEnum K tA) false fr (gEnum gA) := fun f ρ σ H Rk R q => by
  refine h f ρ σ H _ R ?_
  unfold gEnum at q
  cases e1 : gA ρ with
  | bad => rw [e1] at q; exact q
  | ex z => rw [e1] at q; exact q
  | ok ds =>
    rw [e1, bnd_ok] at q
    intro vs H1 s1 x1
    cases er : lst1 ds with
    | none => rw [er] at q; exact q.elim
    | some es =>
      rw [er] at q
      have e := lst1_inv er
      subst e
      have x0 := x1
      cases x1 with
      | cons x1 xr =>
        cases xr
        obtain ⟨c, xs, rfl, hs, r⟩ := x1.sql
        exact ⟨c, xs, rfl, hs, q _ H1 none [.ref c] [.list es] s1 (fun _ => rfl) (fun _ e => nomatch e) x0 sc_enum⟩
theorem si_rev (h : SA K W Δ tA true fr gA) : SI K W Δ (iRev K tA) false fr (gRev gA) := fun f ρ σ H Rk R q => by
  refine h f ρ σ H _ R ?_
  unfold gRev at q
  cases e1 : gA ρ with
  | bad => rw [e1] at q; exact q
  | ex z => rw [e1] at q; exact q
  | ok ds =>
    rw [e1, bnd_ok] at q
    intro vs H1 s1 x1
    cases er : lst1 ds with
    | none => rw [er] at q; exact q.elim
    | some es =>
      rw [er] at q
      have e := lst1_inv er
      subst e
      have x0 := x1
      cases x1 with
      | cons x1 xr =>
        cases xr
        obtain ⟨c, xs, rfl, hs, r⟩ := x1.sql
        exact ⟨c, xs, rfl, hs, q _ H1 none [.ref c] [.list es] s1 (fun _ => rfl) (fun _ e => nomatch e) x0 (sc_rev r.length)⟩
theorem si_zip (h : SA K W Δ tA true fr gA) : SI K W Δ (iZip K tA) false fr (gZip gA) := fun f ρ σ H Rk R q => by
  refine h f ρ σ H _ R ?_
  unfold gZip at q
  cases e1 : gA ρ with
  | bad => rw [e1] at q; exact q
  | ex z => rw [e1] at q; exact q
  | ok ds =>
    rw [e1, bnd_ok] at q
    intro vs H1 s1 x1
    cases er : lst2 ds with
    | none => rw [er] at q; exact q.elim
    | some p =>
      rw [er] at q
      have e := lst2_inv er
      subst e
      have x0 := x1
      cases x1 with
      | cons x1 xr =>
        cases xr with
        | cons x2 xr =>
          cases xr
          obtain ⟨c, xs, rfl, hs, r⟩ := x1.sql
          obtain ⟨c2, xs2, rfl, hs2, r2⟩ := x2.sql
          exact ⟨c, c2, xs, xs2, rfl, hs, hs2, q _ H1 none [.ref c, .ref c2] [.list p.1, .list p.2] s1 (fun _ => rfl) (fun _ e => nomatch e) x0 sc_zip⟩
theorem i_enum {p tpos : Pos} {elts : List Expr} {kk : Nat} (hm : X.mg "enumerate" = none) (h : AD X K W Δ [a] tA true fr gA) (hg : Gl X "enumerate" := by rfl) (hs : starEach [a] X.env = [(false, eval a X.env)] := by rfl) : ID X K W Δ (.Tuple elts kk tpos) (.Call (.Name "enumerate" p) [a] [] pos) (iEnum K tA) false fr (gEnum gA) :=
  ⟨by have q := pi_enum (X := X) (tpos := tpos) (elts := elts) (kk := kk) (p := p) (pos := pos) hg hm h.pa hs; rw [h.hK] at q; exact q, h.hK, si_enum h.sa⟩
theorem i_rev {tg : Expr} {p : Pos} (hm : X.mg "reversed" = none) (h : AD X K W Δ [a] tA true fr gA) (hg : Gl X "reversed" := by rfl) (hs : starEach [a] X.env = [(false, eval a X.env)] := by rfl) : ID X K W Δ tg (.Call (.Name "reversed" p) [a] [] pos) (iRev K tA) false fr (gRev gA) :=
  ⟨by have q := pi_reversed (X := X) (tg := tg) (p := p) (pos := pos) hg hm h.pa hs; rw [h.hK] at q; exact q, h.hK, si_rev h.sa⟩
theorem i_zip {p tpos : Pos} {elts : List Expr} {kk : Nat} (hm : X.mg "zip" = none) (h : AD X K W Δ [a, b] tA true fr gA) (hg : Gl X "zip" := by rfl) (hs : starEach [a, b] X.env = (false, eval a X.env) :: starEach [b] X.env := by rfl) (hpl : (backTo pos (starEach [b] X.env)).any (·.1) = false := by rfl) : ID X K W Δ (.Tuple elts kk tpos) (.Call (.Name "zip" p) [a, b] [] pos) (iZip K tA) false fr (gZip gA) :=
  ⟨by have q := pi_zip (X := X) (tpos := tpos) (elts := elts) (kk := kk) (p := p) (pos := pos) hg hm h.pa hs hpl; rw [h.hK] at q; exact q, h.hK, si_zip h.sa⟩
def gLsI (gI : List Dt → O (List Dt)) : Gd := fun ρ => bnd (gI ρ) fun ds => if ds.length ≤ 100000 then .ok (.list ds) else .bad
theorem rpA_mapInt {F : Addr → Prop} {H : Hp} {α : Type} (f : α → Int) : ∀ l : List α, RpA K F H (l.map fun i => V.int (f i)) (l.map fun i => PyData.int (f i))
  | [] => .nil
  | x :: l => .cons (.int _) (rpA_mapInt f l)
theorem se_lrng1 (ha : SE K W Δ te (.v av fr) g) : SE K W Δ (tLstRg (tRg1 te)) (.new .l true) (gLsI (gRng1 (gCons g gNil))) := fun f ρ σ H Q R q => by
  refine ha f ρ σ H _ R ?_
  unfold gLsI gRng1 gCons gNil at q
  cases e1 : g ρ with
  | bad => rw [e1] at q; exact q
  | ex z => rw [e1] at q; exact q
  | ok d =>
    rw [e1, bnd_ok, bnd_ok, bnd_ok] at q
    intro v H1 s1 x1
    cases er : rng1 [d] with
    | none => rw [er] at q; exact q.elim
    | some p =>
      rw [er] at q
      unfold rng1 at er
      split at er
      · split at er
        · rename_i hj
          obtain ⟨e, e'⟩ := List.cons.inj ‹[d] = _›
          rename_i j h2
          cases er
          subst e
          rw [rpInt x1]
          simp only [bnd_ok] at q
          by_cases l : (rangeD 0 j).length ≤ 100000
          · rw [if_pos l] at q
            rw [rangeD_len] at l
            refine ⟨j, rfl, ⟨by omega, by omega, hj.1, hj.2, by omega⟩, fun p np => q p _ (s1.free np) (s1.trans (same_upd np)) ⟨_, _, rfl, upd_same, ?_⟩⟩
            exact rpA_mapInt _ _
          · rw [if_neg l] at q
            exact q.elim
        · cases er
      · cases er
theorem se_lrevO (ha : SE K W Δ te (.o fr) g) : SE K W Δ (tLstRev K te) (.new .l fr) (gLsI (gRev (gCons g gNil))) := fun f ρ σ H Q R q => by
  refine ha f ρ σ H _ R ?_
  unfold gLsI gRev gCons gNil at q
  cases e1 : g ρ with
  | bad => rw [e1] at q; exact q
  | ex z => rw [e1] at q; exact q
  | ok d =>
    rw [e1, bnd_ok, bnd_ok, bnd_ok] at q
    intro p H1 vs ds ed s1 hp gp x1
    subst ed
    simp only [bnd_ok, lst1] at q
    by_cases l : ds.reverse.length ≤ 100000
    · rw [if_pos l] at q
      exact ⟨p, vs, rfl, .inl (.inl hp), fun p np => q p _ (s1.free np) (s1.trans (same_upd np)) ⟨_, _, rfl, upd_same, x1.reverse.mono (same_upd np) fun a y z => ⟨y, fun e => z (e ▸ np)⟩⟩⟩
    · rw [if_neg l] at q
      exact q.elim
theorem x_lrng1 {p p2 pos2 : Pos} (hm : X.mg "list" = none) (hm2 : X.mg "range" = none) (h : PD X K W Δ a ta (.v av fr) ga) (hc : X.calm = true := by rfl) (hg : Gl X "list" := by rfl) (hg2 : Gl X "range" := by rfl)
    (na : starEach [a] X.env = (false, eval a X.env) :: starEach [] X.env := by rfl) (na2 : starEach [.Call (.Name "range" p2) [a] [] pos2] X.env = (false, eval (.Call (.Name "range" p2) [a] [] pos2) X.env) :: starEach [] X.env := by rfl) :
    PD X K W Δ (.Call (.Name "list" p) [.Call (.Name "range" p2) [a] [] pos2] [] pos) (tLstRg (tRg1 ta)) (.new .l true) (gLsI (gRng1 (gCons ga gNil))) := ⟨pe_listRg hc hg hm (prg_1 hg2 hm2 h.pe na) na2, h.hK, se_lrng1 h.se⟩
theorem x_lrevO {p p2 pos2 : Pos} (hm : X.mg "list" = none) (hm2 : X.mg "reversed" = none) (h : PD X K W Δ a ta (.o fr) ga) (hc : X.calm = true := by rfl) (hg : Gl X "list" := by rfl) (hg2 : Gl X "reversed" := by rfl)
    (na : starEach [a] X.env = (false, eval a X.env) :: starEach [] X.env := by rfl) (na2 : starEach [.Call (.Name "reversed" p2) [a] [] pos2] X.env = (false, eval (.Call (.Name "reversed" p2) [a] [] pos2) X.env) :: starEach [] X.env := by rfl) :
    PD X K W Δ (.Call (.Name "list" p) [.Call (.Name "reversed" p2) [a] [] pos2] [] pos) (tLstRev K ta) (.new .l fr) (gLsI (gRev (gCons ga gNil))) := ⟨by have q := pe_lstRev (X := X) (p := p) (p2 := p2) (pos := pos) (pos2 := pos2) hc hg hm hg2 hm2 h.pe na na2; rw [h.hK] at q; exact q, h.hK, se_lrevO h.se⟩
end
def rng3 : List Dt → Option (Int × Int)
  | [.int i, .int j, .int c] => if c = -1 ∧ -(2 ^ 62) ≤ i ∧ i < 2 ^ 62 ∧ -(2 ^ 62) ≤ j ∧ j < 2 ^ 62 then some (i, j) else none
  | _ => none
theorem rng3_inv {ds : List Dt} {p : Int × Int} (h : rng3 ds = some p) : ds = [.int p.1, .int p.2, .int (-1)] ∧ -(2 ^ 62) ≤ p.1 ∧ p.1 < 2 ^ 62 ∧ -(2 ^ 62) ≤ p.2 ∧ p.2 < 2 ^ 62 := by
  unfold rng3 at h
  split at h
  · split at h
    · rename_i c
      cases h
      obtain ⟨e, c⟩ := c
      subst e
      exact ⟨rfl, c⟩
    · cases h
  · cases h
def downD (i j : Int) : List Dt := (List.range (i - j).toNat).map fun (k : Nat) => .int (i - (k : Int))
def gRng3 (g : List Dt → O (List Dt)) : List Dt → O (List Dt) := fun ρ => bnd (g ρ) fun ds => match rng3 ds with
  | some p => .ok (downD p.1 p.2)
  | none => .bad
section
variable {K : PySem.W.Frag} {W : Wt} {Δ : List Kd}
theorem downD_len (i j : Int) : (downD i j).length = (i - j).toNat := by unfold downD; simp
theorem sc_down {i j : Int} : Sc K (Itc i (-1) (i - j).toNat) none [] [] (downD i j) where
  goes := fun k H hi' _ => by rw [downD_len] at hi'; exact hi'
  stops := fun H _ => by rw [downD_len]; exact Nat.le_refl _
  yields := fun k H x H' hi' _ y => by
    obtain ⟨e, y⟩ := y
    subst e y
    refine ⟨Same.refl _, fun F r => ⟨_, ?_, .int _⟩⟩
    rw [downD_len] at hi'
    unfold downD
    rw [List.getElem?_map, List.getElem?_range hi']
    have e : i - (k : Int) = i + (k : Nat) * (-1) := by omega
    rw [← e]
    rfl
theorem si_rng3 {tA : TA} {gA : List Dt → O (List Dt)} {av fr : Bool} (h : SA K W Δ tA av fr gA) : SI K W Δ (iRng3 tA) false true (gRng3 gA) := fun f ρ σ H Rk R q => by
  refine h f ρ σ H _ R ?_
  unfold gRng3 at q
  cases e1 : gA ρ with
  | bad => rw [e1] at q; exact q
  | ex z => rw [e1] at q; exact q
  | ok ds =>
    rw [e1, bnd_ok] at q
    intro vs H1 s1 x1
    cases er : rng3 ds with
    | none => rw [er] at q; exact q.elim
    | some p =>
      rw [er] at q
      obtain ⟨e, b1, b2, b3, b4⟩ := rng3_inv er
      subst e
      cases x1 with
      | cons x1 xr =>
        cases xr with
        | cons x2 xr =>
          cases xr with
          | cons x3 xr =>
            cases xr
            rw [rpInt x1, rpInt x2, rpInt x3]
            exact ⟨p.1, p.2, -1, (p.1 - p.2).toNat, rfl, RgC.neg b1 b2 b3 b4, q _ H1 none [] [] s1 (fun _ => rfl) (fun _ e => nomatch e) .nil sc_down⟩
theorem i_rng3 {X : Cx} {tg a b c : Expr} {tA : TA} {gA : List Dt → O (List Dt)} {av fr : Bool} {pos p : Pos} (hm : X.mg "range" = none) (h : AD X K W Δ [a, b, c] tA av fr gA) (hg : Gl X "range" := by rfl)
    (hs : starEach [a, b, c] X.env = (false, eval a X.env) :: starEach [b, c] X.env := by rfl) (hpl : (backTo pos (starEach [b, c] X.env)).any (·.1) = false := by rfl) : ID X K W Δ tg (.Call (.Name "range" p) [a, b, c] [] pos) (iRng3 tA) false true (gRng3 gA) := ⟨pi_range3 hg hm h.pa hs hpl, h.hK, si_rng3 h.sa⟩
end
theorem gChain_def (h h' : Dt → Dt → O Dt) (ga gb gc : Gd) (ρ : List Dt) : gChain h h' ga gb gc ρ = bnd (ga ρ) fun x => bnd (gb ρ) fun y => bnd (h x y) fun z => bnd (asB z) fun c => if c then bnd (gc ρ) fun w => h' y w else .ok (.bool false) := rfl
theorem hIsa_int (i : Int) : hIsa .int (.int i) = .ok (.bool true) := rfl
theorem hIsa_intb (i : Int) : hIsa .bool (.int i) = .ok (.bool false) := rfl
theorem hIsa_list (x : List Dt) : hIsa .list (.list x) = .ok (.bool true) := rfl
theorem hIsa_tuple (x : List Dt) : hIsa .tuple (.tuple x) = .ok (.bool true) := rfl
theorem gDrop_def (g : Gd) (ρ : List Dt) : gDrop g ρ = bnd (g ρ) fun _ => .ok (.nx ρ) := rfl
theorem fnN_nx {m : Nat} {g : Gs} {ds ρ : List Dt} (h : g (ds ++ List.replicate (m - ds.length) .none) = .ok (.nx ρ)) : fnN m g ds = .ok .none := by unfold fnN; rw [h]
theorem lsI_ok {gI : List Dt → O (List Dt)} {ρ ds : List Dt} (h : gI ρ = .ok ds) (hl : ds.length ≤ 100000) : gLsI gI ρ = .ok (.list ds) := by unfold gLsI; rw [h, bnd_ok, if_pos hl]
theorem rev_ok {gA : List Dt → O (List Dt)} {ρ es : List Dt} (h : gA ρ = .ok [.list es]) : gRev gA ρ = .ok es.reverse := by unfold gRev; rw [h]; rfl
theorem enum_ok {gA : List Dt → O (List Dt)} {ρ es : List Dt} (h : gA ρ = .ok [.list es]) : gEnum gA ρ = .ok (enumD es) := by unfold gEnum; rw [h]; rfl
theorem zip_ok {gA : List Dt → O (List Dt)} {ρ es fs : List Dt} (h : gA ρ = .ok [.list es, .list fs]) : gZip gA ρ = .ok (zipD es fs) := by unfold gZip; rw [h]; rfl
theorem rng3_ok {g : List Dt → O (List Dt)} {ρ : List Dt} {i j : Int} (h : g ρ = .ok [.int i, .int j, .int (-1)]) (h1 : -4611686018427387904 ≤ j) (h2 : j < 4611686018427387904) (h3 : -4611686018427387904 ≤ i) (h4 : i < 4611686018427387904) : gRng3 g ρ = .ok (downD i j) := by
  unfold gRng3
  rw [h, bnd_ok]
  unfold rng3
  simp only
  rw [if_pos ⟨trivial, by omega, by omega, by omega, by omega⟩]
theorem hAll_b (xs : List Bool) : hAll [.list (xs.map .bool)] = .ok (.bool (xs.all id)) := by
  unfold hAll
  simp only [allB_map]
theorem setI_ok {i : Nat} {ge gi : Gd} {ρ ds : List Dt} {d : Dt} {j : Int} (h1 : ge ρ = .ok d) (h2 : ρ[i]? = some (.list ds)) (h3 : gi ρ = .ok (.int j)) (j0 : 0 ≤ j) (j1 : j < ds.length) : gSetI i ge gi ρ = .ok (.nx (ρ.set i (.list (ds.set j.toNat d)))) := by
  unfold gSetI
  have e : ixN ds.length j = some j.toNat := by
    unfold ixN
    repeat (first | rw [if_pos (by omega)] | rw [if_neg (by omega)])
  rw [h1, bnd_ok, h2]
  simp only
  rw [h3, bnd_ok]
  simp only [e]
theorem enumD_map {α : Type} (f : α → Dt) (xs : List α) : enumD (xs.map f) = (xs.zipIdx.map fun p => .tuple [.int (p.2 : Nat), f p.1]) := by
  unfold enumD
  rw [List.zipIdx_map, List.map_map]
  rfl
theorem zipD_map {α β : Type} (f : α → Dt) (g : β → Dt) (xs : List α) (ys : List β) : zipD (xs.map f) (ys.map g) = ((xs.zip ys).map fun p => .tuple [f p.1, g p.2]) := by
  unfold zipD
  rw [List.zip_map, List.map_map]
  rfl
end Sim
end T_SimI
section T_SimJ
set_option Elab.async false
set_option linter.all false
set_option maxRecDepth 100000
namespace Sim
open PySem PySem.Spec L2
open PyProof.Rows hiding St
def isK : Key → Dt → Bool
  | .inl i, .int j => decide (j = i)
  | .inr x, .str y => decide (y = x)
  | _, _ => false
def dGet (es : List (Dt × Dt)) (k : Key) : Option Dt := (es.find? fun e => isK k e.1).map (·.2)
def dPut (es : List (Dt × Dt)) (k : Key) (v : Dt) : List (Dt × Dt) := if (es.any fun e => isK k e.1) = true then es.map (fun e => if isK k e.1 = true then (e.1, v) else e) else es ++ [(keyD k, v)]
def dDrop (es : List (Dt × Dt)) (k : Key) : List (Dt × Dt) := es.filter fun e => !isK k e.1
section
variable {K : PySem.W.Frag} {F F' : Addr → Prop} {H H' : Hp}
theorem isK_keyD (k k' : Key) : isK k (keyD k') = decide (k' = k) := by
  cases k <;> cases k' <;> simp [isK, keyD]
theorem KvA.length : ∀ {kvs : List (Key × V)} {es : List (Dt × Dt)}, KvA K F H kvs es → kvs.length = es.length
  | _, _, .nil => rfl
  | _, _, .cons _ r => by rw [List.length_cons, List.length_cons, r.length]
theorem KvA.get (k : Key) : ∀ {kvs : List (Key × V)} {es : List (Dt × Dt)}, KvA K F H kvs es → (valV kvs k = none ∧ dGet es k = none) ∨ ∃ v d, valV kvs k = some v ∧ dGet es k = some d ∧ Rp K F H v d
  | _, _, .nil => .inl ⟨rfl, rfl⟩
  | _, _, .cons (k := k') (v := v) (d := d) (kvs := kvs) (es := es) h r => by
    by_cases c : k' = k
    · refine .inr ⟨v, d, valV_pos c, ?_, h⟩
      unfold dGet
      rw [List.find?_cons_of_pos (by rw [isK_keyD]; simpa using c)]
      rfl
    · rw [valV_neg c]
      have e : dGet ((keyD k', d) :: es) k = dGet es k := by
        unfold dGet
        rw [List.find?_cons_of_neg (by rw [isK_keyD]; simpa using c)]
      rw [e]
      exact r.get k
theorem KvA.any (k : Key) : ∀ {kvs : List (Key × V)} {es : List (Dt × Dt)}, KvA K F H kvs es → (kvs.any fun kv => decide (kv.1 = k)) = es.any fun e => isK k e.1
  | _, _, .nil => rfl
  | _, _, .cons h r => by rw [List.any_cons, List.any_cons, r.any k, isK_keyD]
theorem KvA.snoc {k : Key} {v : V} {d : Dt} (x : Rp K F H v d) : ∀ {kvs : List (Key × V)} {es : List (Dt × Dt)}, KvA K F H kvs es → KvA K F H (kvs ++ [(k, v)]) (es ++ [(keyD k, d)])
  | _, _, .nil => .cons x .nil
  | _, _, .cons h r => .cons h (r.snoc x)
theorem KvA.over {k : Key} {v : V} {d : Dt} (x : Rp K F H v d) : ∀ {kvs : List (Key × V)} {es : List (Dt × Dt)}, KvA K F H kvs es → KvA K F H (kvs.map fun kv => if kv.1 = k then (kv.1, v) else kv) (es.map fun e => if isK k e.1 = true then (e.1, d) else e)
  | _, _, .nil => .nil
  | _, _, .cons (k := k') h r => by
    rw [List.map_cons, List.map_cons, isK_keyD]
    by_cases c : k' = k
    · rw [if_pos c, if_pos (by simpa using c)]
      exact .cons x (r.over x)
    · rw [if_neg c, if_neg (by simpa using c)]
      exact .cons h (r.over x)
theorem KvA.put {k : Key} {v : V} {d : Dt} (x : Rp K F H v d) {kvs : List (Key × V)} {es : List (Dt × Dt)} (h : KvA K F H kvs es) : KvA K F H (putK kvs k v) (dPut es k d) := by
  unfold putK dPut
  rw [h.any k]
  split
  · exact h.over x
  · exact h.snoc x
theorem KvA.drop (k : Key) : ∀ {kvs : List (Key × V)} {es : List (Dt × Dt)}, KvA K F H kvs es → KvA K F H (dropK kvs k) (dDrop es k)
  | _, _, .nil => .nil
  | _, _, .cons (k := k') h r => by
    unfold dropK dDrop
    rw [List.filter_cons, List.filter_cons, isK_keyD]
    by_cases c : k' = k
    · rw [if_neg (by simpa using c), if_neg (by simpa using c)]
      exact r.drop k
    · rw [if_pos (by simpa using c), if_pos (by simpa using c)]
      exact .cons h (r.drop k)
end
section
variable {K : PySem.W.Frag} {W : Wt} {Δ Δb Δc : List Kd} {te ti : TE} {g ge gk : Gd} {fr fr' av : Bool} {L : Lk} {i : Nat}
end
section
variable {X : Cx} {K : PySem.W.Frag} {W : Wt} {Δ Δb Δc : List Kd} {a b e tg : Expr} {te ti : TE} {g ge gk : Gd} {fr fr' av av' : Bool} {L : Lk} {pos p pos' : Pos} {x : Str} {m : Nat}
end
section
variable {X : Cx} {K : PySem.W.Frag} {W : Wt} {Δ : List Kd} {a : Expr} {ta te : TE} {g : Gd} {av fr : Bool} {p p2 q pos : Pos}
end
end Sim
end T_SimJ
section T_SimS
set_option Elab.async false
set_option linter.all false
set_option maxRecDepth 100000
namespace Sim
end Sim
namespace TS
open PySem PyProof.Rows Sim
section
variable {prog : Program} {w : World} {A : Around} {E : Value → Shared → Prop} {s : Shared} {Q : Bool → Shared → Prop}
end
section
variable {prog : Program} {w : World} {A : Around} {E : Value → Shared → Prop} {s : Shared}
end
end TS
end T_SimS
section T_SimT
set_option Elab.async false
set_option linter.all false
set_option maxRecDepth 100000
namespace L2
open PySem PySem.Spec PyProof.Rows Sim
section
variable {P : Program} {w : World} {A : Around} {E : Value → Shared → Prop} {s : Shared}
set_option maxHeartbeats 3200000 in
end
end L2
namespace Sim
open PySem PySem.Spec L2
open PyProof.Rows hiding St
section
variable {X : Cx}
variable {a : Expr} {ta te : TE} {p p2 q pos : Pos}
end
end Sim
end T_SimT
section T_SimU
set_option Elab.async false
set_option linter.all false
set_option maxRecDepth 100000
namespace Sim
open PySem PySem.Spec L2
open PyProof.Rows hiding St
def encL (ns : List Int) : Dt := .tuple (ns.map .int)
def dd {α : Type} [DecidableEq α] : List α → List α
  | [] => []
  | x :: xs => if x ∈ xs then dd xs else x :: dd xs
section
variable {K : PySem.W.Frag} {W : Wt} {Δ : List Kd}
variable {X : Cx} {a e : Expr} {es : List Expr} {te : TE} {tA : TA} {g : Gd} {gA : List Dt → O (List Dt)} {av fr : Bool} {p p2 q pos : Pos}
end
end Sim
end T_SimU
section T_SimV
set_option Elab.async false
set_option linter.all false
set_option maxRecDepth 100000
namespace Sim
open PySem PySem.Spec L2
open PyProof.Rows hiding St
section
variable {K : PySem.W.Frag} {W : Wt} {Δ : List Kd} {tk tv ti ta tb : TE} {gk gv ga gb g : Gd} {fr fr' av : Bool} {i : Nat}
end
section
variable {X : Cx} {a : Expr} {ta te : TE} {p p2 q pos : Pos}
end
section
variable {X : Cx} {K : PySem.W.Frag} {W : Wt} {Δ : List Kd} {a b e : Expr} {te ti tk tv ta tb : TE} {g gk gv ga gb : Gd} {fr fr' av : Bool} {pos p p2 q apos cpos : Pos} {x : Str} {m : Nat}
end
end Sim
end T_SimV
section T_SimW
set_option Elab.async false
set_option linter.all false
set_option maxRecDepth 100000
namespace L2
open PySem PySem.Spec PyProof.Rows
section
variable {X : Cx} {e : Expr} {te : TE} {k k' : Nat} {p1 p2 p3 pos : Pos}
end
end L2
namespace Sim
open PySem PySem.Spec L2
open PyProof.Rows hiding St
section
variable {K : PySem.W.Frag} {F : Addr → Prop} {H : Hp}
end
def isT (ns : List Int) (d : Dt) : Bool := match d with
  | .tuple xs => decide (allI xs = some ns)
  | _ => false
def tPut (es : List (Dt × Dt)) (ns : List Int) (v : Dt) : List (Dt × Dt) := if (es.any fun e => isT ns e.1) = true then es.map (fun e => if isT ns e.1 = true then (e.1, v) else e) else es ++ [(encL ns, v)]
theorem allI_int (i : Int) (ds : List Dt) : allI (.int i :: ds) = (allI ds).map fun ns => i :: ns := by
  conv => lhs; unfold allI
  first
  | done
  | (cases allI ds <;> rfl)
theorem allI_str (x : Str) (ds : List Dt) : allI (.str x :: ds) = none := rfl
theorem allI_keyD : ∀ {k : List Key} {ns : List Int}, allI (k.map keyD) = some ns ↔ k = ns.map Sum.inl
  | [], [] => by simp [allI]
  | [], _ :: _ => by simp [allI]
  | .inl i :: k, [] => by
    rw [List.map_cons]
    show allI (.int i :: k.map keyD) = some [] ↔ _
    rw [allI_int]
    cases allI (k.map keyD) <;> simp
  | .inl i :: k, n :: ns => by
    have ih := @allI_keyD k ns
    rw [List.map_cons]
    show allI (.int i :: k.map keyD) = some (n :: ns) ↔ _
    rw [allI_int, List.map_cons]
    constructor
    · intro z
      cases e : allI (k.map keyD) with
      | none => rw [e] at z; cases z
      | some ms =>
        rw [e] at z
        injection z with z
        injection z with z1 z2
        rw [z2] at e
        rw [ih.mp e, z1]
    · intro z
      injection z with z1 z2
      injection z1 with z1
      rw [ih.mpr z2, z1]
      rfl
  | .inr x :: k, ns => by
    rw [List.map_cons]
    show allI (.str x :: k.map keyD) = some ns ↔ _
    rw [allI_str]
    constructor
    · intro z; cases z
    · intro z
      cases ns with
      | nil => cases z
      | cons n ns => injection z with z1 z2; cases z1
theorem isT_keyD (ns : List Int) (k : List Key) : isT ns (.tuple (k.map keyD)) = decide (k = ns.map Sum.inl) := by
  show decide (allI (k.map keyD) = some ns) = _
  exact decide_eq_decide.mpr allI_keyD
section
variable {K : PySem.W.Frag} {F : Addr → Prop} {H : Hp}
theorem KtA.length : ∀ {kvs : List (List Key × V)} {es : List (Dt × Dt)}, KtA K F H kvs es → kvs.length = es.length
  | _, _, .nil => rfl
  | _, _, .cons _ r => by rw [List.length_cons, List.length_cons, r.length]
theorem KtA.any (ns : List Int) : ∀ {kvs : List (List Key × V)} {es : List (Dt × Dt)}, KtA K F H kvs es → (kvs.any fun kv => decide (kv.1 = ns.map Sum.inl)) = es.any fun e => isT ns e.1
  | _, _, .nil => rfl
  | _, _, .cons h r => by rw [List.any_cons, List.any_cons, r.any ns, isT_keyD]
theorem keyD_ints (ns : List Int) : (ns.map Sum.inl : List Key).map keyD = ns.map PyData.int := by rw [List.map_map]; rfl
theorem KtA.snoc {ns : List Int} {v : V} {d : Dt} (x : Rp K F H v d) : ∀ {kvs : List (List Key × V)} {es : List (Dt × Dt)}, KtA K F H kvs es → KtA K F H (kvs ++ [(ns.map Sum.inl, v)]) (es ++ [(encL ns, d)])
  | _, _, .nil => by
    have := KtA.cons (k := ns.map Sum.inl) x (KtA.nil (K := K) (F := F) (H := H))
    rw [keyD_ints] at this
    exact this
  | _, _, .cons h r => .cons h (r.snoc x)
theorem KtA.over {ns : List Int} {v : V} {d : Dt} (x : Rp K F H v d) : ∀ {kvs : List (List Key × V)} {es : List (Dt × Dt)}, KtA K F H kvs es → KtA K F H (kvs.map fun kv => if kv.1 = ns.map Sum.inl then (kv.1, v) else kv) (es.map fun e => if isT ns e.1 = true then (e.1, d) else e)
  | _, _, .nil => .nil
  | _, _, .cons (k := k') h r => by
    rw [List.map_cons, List.map_cons, isT_keyD]
    by_cases c : k' = ns.map Sum.inl
    · rw [if_pos c, if_pos (by simpa using c)]
      exact .cons x (r.over x)
    · rw [if_neg c, if_neg (by simpa using c)]
      exact .cons h (r.over x)
theorem KtA.put {ns : List Int} {v : V} {d : Dt} (x : Rp K F H v d) {kvs : List (List Key × V)} {es : List (Dt × Dt)} (h : KtA K F H kvs es) : KtA K F H (putK kvs (ns.map Sum.inl) v) (tPut es ns d) := by
  unfold putK tPut
  rw [h.any ns]
  split
  · exact h.over x
  · exact h.snoc x
end
section
variable {K : PySem.W.Frag} {W : Wt} {Δ Δb Δc : List Kd} {te : TE} {tA : TA} {ge g : Gd} {gA : List Dt → O (List Dt)} {fr fr' av fr2 : Bool} {L : Lk} {i : Nat}
end
section
variable {X : Cx} {K : PySem.W.Frag} {W : Wt} {Δ Δb Δc : List Kd} {a b e : Expr} {es : List Expr} {te : TE} {tA : TA} {g ge : Gd} {gA : List Dt → O (List Dt)} {fr fr' fr2 av : Bool} {L : Lk} {pos pos' p p1 p2 p3 pT : Pos} {x : Str} {k k' m : Nat}
end
end Sim
end T_SimW
section T_SimM
set_option Elab.async false
set_option linter.all false
set_option maxRecDepth 100000
namespace Sim
open PySem PySem.Spec L2
open PyProof.Rows hiding St
abbrev Gx := List Dt → O (Dt × List Dt)
def PoX (K : PySem.W.Frag) (f : Fm) (Δ : List Kd) (σ : L2.St) (k : Rk) (o : O (Dt × List Dt)) (Q : VK) : Prop := match o with
  | .ok (d, ρ') => (match k with
    | .v av fr => ∀ v H', R K f Δ ρ' σ H' → Rp K (FM f Δ σ av fr) H' v d → Q v H'
    | .new c fr => ∀ p H', R K (f.pn p) Δ ρ' σ H' → p ∉ f.P → f.H0 p = none → OwC K c (FM (f.pn p) Δ σ true fr) H' p d → Q (.ref p) H'
    | .o _ => False)
  | _ => False
def SX (K : PySem.W.Frag) (Δ : List Kd) (te : TE) (k : Rk) (g : Gx) : Prop := ∀ f ρ σ H Q, R K f Δ ρ σ H → PoX K f Δ σ k (g ρ) Q → te σ H Q
def PoXA (K : PySem.W.Frag) (f : Fm) (Δ : List Kd) (σ : L2.St) (av fr : Bool) (o : O (List Dt × List Dt)) (Q : List V → Hp → Prop) : Prop := match o with
  | .ok (ds, ρ') => ∀ vs H', R K f Δ ρ' σ H' → RpA K (FM f Δ σ av fr) H' vs ds → Q vs H'
  | _ => False
def SXA (K : PySem.W.Frag) (Δ : List Kd) (ta : TA) (av fr : Bool) (g : List Dt → O (List Dt × List Dt)) : Prop := ∀ f ρ σ H Q, R K f Δ ρ σ H → PoXA K f Δ σ av fr (g ρ) Q → ta σ H Q
def PoXT (K : PySem.W.Frag) (f : Fm) (Δ : List Kd) (σ : L2.St) (o : O (Bool × List Dt)) (Q : Bool → Hp → Prop) : Prop := match o with
  | .ok (b, ρ') => ∀ H', R K f Δ ρ' σ H' → Q b H'
  | _ => False
def SXT (K : PySem.W.Frag) (Δ : List Kd) (tt : TT) (g : List Dt → O (Bool × List Dt)) : Prop := ∀ f ρ σ H Q, R K f Δ ρ σ H → PoXT K f Δ σ (g ρ) Q → tt σ H Q
def xP (g : Gd) : Gx := fun ρ => bnd (g ρ) fun d => .ok (d, ρ)
def xPA (g : List Dt → O (List Dt)) : List Dt → O (List Dt × List Dt) := fun ρ => bnd (g ρ) fun d => .ok (d, ρ)
def xPT (g : List Dt → O Bool) : List Dt → O (Bool × List Dt) := fun ρ => bnd (g ρ) fun d => .ok (d, ρ)
section
variable {K : PySem.W.Frag} {f : Fm} {Δ : List Kd} {ρ : List Dt} {σ : L2.St} {H H' : Hp} {p : Addr} {d : Dt} {i : Nat}
theorem R.dropP (r : R K (f.pn p) Δ ρ σ H) : R K f Δ ρ σ H := by
  have key : ∀ {fr : Bool} {v : V} {d : Dt}, Rp K (FM (f.pn p) Δ σ true fr) H v d → Rp K (FM f Δ σ true fr) H v d := fun h =>
    h.weak fun a fa => ⟨fun _ => ⟨(fa.1 rfl).1, fun z => (fa.1 rfl).2 (List.mem_cons_of_mem _ z)⟩, fa.2⟩
  refine ⟨r.ext, r.g0, r.lσ, r.lρ, r.inj, fun a ha => r.pin a (List.mem_cons_of_mem _ ha), fun g hg => (r.gh g hg).map fun _ _ x => key x, fun i fr h => ?_, fun i c fr h => ?_, r.ar, r.sp, r.sl⟩
  · obtain ⟨v, d, h1, h2, h3⟩ := r.im i fr h
    exact ⟨v, d, h1, h2, key h3⟩
  · obtain ⟨v, d, h1, h2, h3, h4⟩ := r.ow i c fr h
    exact ⟨v, d, h1, h2, h3, h4.map (fun o q => q) fun _ _ x => key x⟩
end
section
variable {K : PySem.W.Frag} {W : Wt} {Δ Δn Δb Δc : List Kd} {ta tb te : TE} {tt tu : TT} {tA : TA} {g : Gd} {ga gb gx : Gx} {gt gu : List Dt → O (Bool × List Dt)} {gA : List Dt → O (List Dt × List Dt)} {k : Rk} {av fr av' fr' : Bool} {L : Lk} {i : Nat} {t u : TS} {g1 g2 : Gs}
theorem SX.of (h : SE K W0 Δ te (.v av fr) g) : SX K Δ te (.v av fr) (xP g) := fun f ρ σ H Q r q => h f ρ σ H Q r <| by
  unfold xP at q
  cases e : g ρ with
  | bad => rw [e] at q; exact q.elim
  | ex z => rw [e] at q; exact q.elim
  | ok d => rw [e] at q; exact fun v H' s x => q v H' (r.mono s) x
theorem SXA.of {gA : List Dt → O (List Dt)} (h : SA K W0 Δ tA av fr gA) : SXA K Δ tA av fr (xPA gA) := fun f ρ σ H Q r q => h f ρ σ H Q r <| by
  unfold xPA at q
  cases e : gA ρ with
  | bad => rw [e] at q; exact q.elim
  | ex z => rw [e] at q; exact q.elim
  | ok d => rw [e] at q; exact fun v H' s x => q v H' (r.mono s) x
theorem SXT.of {gt : List Dt → O Bool} (h : ST K W0 Δ tt gt) : SXT K Δ tt (xPT gt) := fun f ρ σ H Q r q => h f ρ σ H Q r <| by
  unfold xPT at q
  cases e : gt ρ with
  | bad => rw [e] at q; exact q.elim
  | ex z => rw [e] at q; exact q.elim
  | ok d => rw [e] at q; exact fun H' s => q H' (r.mono s)
theorem SX.wk (h : SX K Δ te (.v av fr) gx) (h1 : av' = true → av = true := by decide) (h2 : fr' = true → fr = true := by decide) : SX K Δ te (.v av' fr') gx := fun f ρ σ H Q r q => h f ρ σ H Q r <| by
  cases e : gx ρ with
  | bad => rw [e] at q; exact q.elim
  | ex z => rw [e] at q; exact q.elim
  | ok d => rw [e] at q; exact fun v H' s x => q v H' s (x.fm h1 h2)
theorem SX.nv (h : SX K Δ te (.new .l fr) gx) : SX K Δ te (.v true fr) gx := fun f ρ σ H Q r q => h f ρ σ H Q r <| by
  cases e : gx ρ with
  | bad => rw [e] at q; exact q.elim
  | ex z => rw [e] at q; exact q.elim
  | ok d =>
    rw [e] at q
    intro p H' r' hP h0 x
    obtain ⟨vs, ds, ed, hp, x⟩ := x
    have no := (r'.pin p List.mem_cons_self).2
    have q : ∀ v H', R K f Δ d.2 σ H' → Rp K (FM f Δ σ true fr) H' v d.1 → Q v H' := q
    rw [ed] at q
    exact q _ H' r'.dropP (.lst hp ⟨fun _ => ⟨no, hP⟩, fun _ => r'.g0 p h0⟩ (x.weak fun a fa => ⟨fun _ => ⟨(fa.1 rfl).1, fun z => (fa.1 rfl).2 (List.mem_cons_of_mem _ z)⟩, fa.2⟩))
theorem SXA.wk (h : SXA K Δ tA av fr gA) (h1 : av' = true → av = true := by decide) (h2 : fr' = true → fr = true := by decide) : SXA K Δ tA av' fr' gA := fun f ρ σ H Q r q => h f ρ σ H Q r <| by
  cases e : gA ρ with
  | bad => rw [e] at q; exact q.elim
  | ex z => rw [e] at q; exact q.elim
  | ok d => rw [e] at q; exact fun v H' s x => q v H' s (x.weak fun _ y => y.weak h1 h2)
end
end Sim
end T_SimM
section T_SimN
set_option Elab.async false
set_option linter.all false
set_option maxRecDepth 100000
namespace Sim
open PySem PySem.Spec L2
open PyProof.Rows hiding St
section
variable {K : PySem.W.Frag} {f : Fm} {Δ : List Kd} {ρ ρ' : List Dt} {σ σ' : L2.St} {H H' : Hp} {p : Addr} {d : Dt} {i : Nat}
end
section
variable {K : PySem.W.Frag} {W : Wt} {Δ Δn Δb Δc : List Kd} {ta tb te ti : TE} {tt tu : TT} {tA : TA} {g : Gd} {ga gb gx : Gx} {gA : List Dt → O (List Dt × List Dt)} {k : Rk} {av fr av' fr' : Bool} {L : Lk} {i : Nat} {t u : TS} {g1 g2 : Gs}
end
section
variable {P : Program} {w : World} {K : PySem.W.Frag} {mg : Str → Option Value} {base : Heap} {x qual : Str} {st : Stmt} {fa : Addr} {fd : FuncData} {N ps : List Str} {k n m : Nat} {Δn : List Kd} {g : Gs} {c : Ct}
end
end Sim
end T_SimN
section T_SimO
set_option Elab.async false
set_option linter.all false
set_option maxRecDepth 100000
namespace Sim
open PySem PySem.Spec L2
open PyProof.Rows hiding St
section
variable {K : PySem.W.Frag} {W : Wt} {Δ : List Kd} {ti tx : TE} {gk gx : Gd} {fr fr' fr2 av av2 : Bool} {i : Nat}
end
structure XD (X : Cx) (K : PySem.W.Frag) (Δ : List Kd) (e : Expr) (te : TE) (k : Rk) (g : Gx) : Prop where
  pe : PE X e te
  hK : X.K = K
  sx : SX K Δ te k g
structure XAD (X : Cx) (K : PySem.W.Frag) (Δ : List Kd) (es : List Expr) (ta : TA) (av fr : Bool) (g : List Dt → O (List Dt × List Dt)) : Prop where
  pa : PA X es ta
  hK : X.K = K
  sa : SXA K Δ ta av fr g
section
variable {X : Cx} {K : PySem.W.Frag} {W : Wt} {Δ Δ1 Δn Δb Δc : List Kd} {a b c e f elt tg iter : Expr} {es ifs : List Expr} {ta tb tc te ti tx : TE} {tt tu : TT} {tA : TA} {g gk gx0 ge gi : Gd} {ga gb gx : Gx} {gt0 : List Dt → O Bool} {gt gu : List Dt → O (Bool × List Dt)} {gA : List Dt → O (List Dt × List Dt)} {gA0 gI : List Dt → O (List Dt)} {k : Rk} {av fr av' fr' av2 fr2 : Bool} {L : Lk} {pos pos' : Pos} {t u : TS} {g1 g2 : Gs} {sts sts2 : List Stmt} {i : Nat}
theorem XD.wk (h : XD X K Δ e te (.v av fr) gx) (h1 : av' = true → av = true := by decide) (h2 : fr' = true → fr = true := by decide) : XD X K Δ e te (.v av' fr') gx := ⟨h.pe, h.hK, h.sx.wk h1 h2⟩
theorem XD.nv (h : XD X K Δ e te (.new .l fr) gx) : XD X K Δ e te (.v true fr) gx := ⟨h.pe, h.hK, h.sx.nv⟩
theorem XAD.to (av' fr' : Bool) (h : XAD X K Δ es tA av fr gA) (h1 : av' = true → av = true := by decide) (h2 : fr' = true → fr = true := by decide) : XAD X K Δ es tA av' fr' gA := ⟨h.pa, h.hK, h.sa.wk h1 h2⟩
end
end Sim
end T_SimO
section T_SimQ
set_option Elab.async false
set_option linter.all false
set_option maxRecDepth 100000
namespace Sim
open PySem PySem.Spec L2
open PyProof.Rows hiding St
section
variable {K : PySem.W.Frag} {W : Wt} {Δ : List Kd}
end
section
variable {K : PySem.W.Frag} {W : Wt} {Δ : List Kd} {ta : TE} {tA : TA} {ga : Gd} {gA : List Dt → O (List Dt)} {fr fr' : Bool} {n : Nat} {g : List Dt → O Dt}
end
section
variable {X : Cx} {K : PySem.W.Frag} {W : Wt} {Δ : List Kd} {e : Expr} {es : List Expr} {ta : TE} {tA : TA} {ga : Gd} {gA : List Dt → O (List Dt)} {fr fr' : Bool} {pos : Pos}
end
end Sim
end T_SimQ
section T_SimR
set_option Elab.async false
set_option linter.all false
set_option maxRecDepth 100000
namespace Sim
open PySem PySem.Spec L2
open PyProof.Rows hiding St
section
variable {K : PySem.W.Frag} {W : Wt} {L : Lk} {Δ Δb Δc : List Kd} {te : TE} {g : Gd} {fr av fr' : Bool} {i : Nat}
end
section
variable {X : Cx} {K : PySem.W.Frag} {W : Wt} {Δ Δb Δc : List Kd} {e : Expr} {te : TE} {g : Gd} {av fr fr' : Bool} {L : Lk} {pos : Pos}
end
section
variable {K : PySem.W.Frag} {W : Wt} {Δ : List Kd} {ta tb tc td : TE} {ga gb gc gd : Gd} {av fr av' fr' av2 fr2 av3 fr3 : Bool}
end
section
variable {X : Cx} {K : PySem.W.Frag} {W : Wt} {Δ : List Kd} {a b c d : Expr} {ta tb tc td : TE} {ga gb gc gd : Gd} {av fr av' fr' av2 fr2 av3 fr3 : Bool} {pos : Pos} {op op' op'' : CmpOp} {r r' r'' : R2} {h h' h'' : Dt → Dt → O Dt}
end
section
variable {K : PySem.W.Frag} {W : Wt} {L : Lk} {Δ Δb Δc : List Kd} {te ti : TE} {ge gi : Gd} {fr av fr' av2 fr2 : Bool} {i : Nat}
end
section
variable {X : Cx} {K : PySem.W.Frag} {W : Wt} {Δ Δb Δc : List Kd} {e ix : Expr} {te ti : TE} {ge gi : Gd} {av fr av2 fr2 fr' : Bool} {L : Lk} {pos : Pos}
end
section
variable {K : PySem.W.Frag} {W : Wt} {L : Lk} {Δ Δb Δc : List Kd} {te : TE} {gx : Gx} {gg : TG} {sl : List Nat} {n : Nat} {hh : Dt → List Dt → O (List Dt)} {TK : Bool → List Kd → List Kd} {t : TS} {gb : Gs} {fr av : Bool}
end
section
variable {X : Cx} {K : PySem.W.Frag} {W : Wt} {Δ Δb Δc : List Kd} {e tg : Expr} {te : TE} {gx : Gx} {g1 : Gs} {t : TS} {sts : List Stmt} {fr : Bool} {L : Lk} {pos : Pos}
end
section
variable {P : Program} {w : World} {K : PySem.W.Frag} {mg : Str → Option Value} {base : Heap} {x qual : Str} {st : Stmt} {fa : Addr} {fd : FuncData} {N ps : List Str} {k n m : Nat} {Δn : List Kd} {g : Gs} {dvs : List V} {kws : List (Str × V)}
end
end Sim
end T_SimR
section T_SimY
set_option Elab.async false
set_option linter.all false
set_option maxRecDepth 100000
namespace Sim
open PySem PySem.Spec L2
open PyProof.Rows hiding St
section
variable {K : PySem.W.Frag} {W : Wt} {L : Lk} {Δ Δb Δc : List Kd} {to te : TE} {ga gb g : Gd} {fr av fr' av' : Bool} {i : Nat}
theorem RpA.dropLast {F : Addr → Prop} {H : Hp} : ∀ {xs : List V} {ds : List Dt}, RpA K F H xs ds → RpA K F H xs.dropLast ds.dropLast
  | _, _, .nil => .nil
  | _, _, .cons _ .nil => .nil
  | _, _, .cons x (.cons y r) => .cons x (RpA.dropLast (.cons y r))
end
section
variable {K : PySem.W.Frag} {W : Wt} {Δ : List Kd} {ta tk : TA} {gA gK : List Dt → O (List Dt)} {av fr av' fr' : Bool} {mg : Str → Option Value} {m n : Nat} {g : List Dt → O Dt}
end
section
variable {X : Cx} {K : PySem.W.Frag} {W : Wt} {Δ Δb Δc : List Kd} {o e : Expr} {es : List Expr} {to te : TE} {tA tK : TA} {ga gb g : Gd} {gA gK : List Dt → O (List Dt)} {av fr av' fr' : Bool} {L : Lk} {pos : Pos}
end
section
variable {X : Cx} {K : PySem.W.Frag} {W : Wt} {Δ : List Kd} {e e2 : Expr} {es : List Expr} {te2 : TE} {tA : TA} {gk : Gd} {gA : List Dt → O (List Dt)} {av fr av' fr' : Bool} {pos : Pos}
end
end Sim
end T_SimY
section T_SimZ
set_option Elab.async false
set_option linter.all false
set_option maxRecDepth 100000
namespace Sim
open PySem PySem.Spec L2
open PyProof.Rows hiding St
section
variable {K : PySem.W.Frag} {F : Addr → Prop} {H : Hp} {p : Addr} {d : Dt} {c : Ct} {v : V}
theorem kvA_of : ∀ {kvs : List (Key × V)} {es : List (Dt × Dt)}, kvs.map (fun kv => keyD kv.1) = es.map (fun e => e.1) → RpA K F H (kvs.map fun kv => kv.2) (es.map fun e => e.2) → KvA K F H kvs es
  | [], [], _, _ => .nil
  | [], _ :: _, h, _ => by simp at h
  | _ :: _, [], h, _ => by simp at h
  | (k, v) :: kvs, (e1, e2) :: es, h, r => by
    rw [List.map_cons, List.map_cons] at h
    injection h with h1 h2
    have h1 : keyD k = e1 := h1
    subst h1
    cases r with
    | cons x r => exact .cons x (kvA_of h2 r)
theorem Rp.dict {es : List (Dt × Dt)} (h : Rp K F H v (.dict es)) (n : exnL es = false) : ∃ p kvs, v = .ref p ∧ H p = some (.dK kvs) ∧ KvA K F H kvs es := by
  cases h with
  | dic h fa hk r => exact ⟨_, _, rfl, h, kvA_of hk r⟩
  | exn => cases n
  | fz => cases n
end
section
variable {K : PySem.W.Frag} {W : Wt} {Δ Δb Δc : List Kd} {te ti ta : TE} {g ge gk ga : Gd} {fr fr' av av' : Bool} {L : Lk} {i : Nat} {c : Ct}
end
section
variable {P : Program} {w : World} {K : PySem.W.Frag} {mg : Str → Option Value} {base : Heap} {x qual : Str} {st : Stmt} {fa : Addr} {fd : FuncData} {N ps : List Str} {k n m : Nat} {Δn : List Kd} {g : Gs} {c : Ct} {fr0 : Bool}
end
section
variable {X : Cx} {K : PySem.W.Frag} {W : Wt} {Δ Δb Δc : List Kd} {a b e o : Expr} {es : List Expr} {te ti ta : TE} {tA : TA} {g ge gk ga : Gd} {gA : List Dt → O (List Dt)} {fr fr' av av' : Bool} {L : Lk} {pos p pos' : Pos} {x : Str} {m : Nat} {c : Ct}
end
section
variable {K : PySem.W.Frag} {W : Wt} {Δ : List Kd} {ta : TA} {gA : List Dt → O (List Dt)} {av fr : Bool} {mg : Str → Option Value} {n : Nat} {g : List Dt → O Dt}
end
section
variable {X : Cx} {K : PySem.W.Frag} {W : Wt} {Δ : List Kd} {e : Expr} {es : List Expr} {tA : TA} {gA : List Dt → O (List Dt)} {fr av : Bool} {pos : Pos}
end
end Sim
end T_SimZ
section T_FamA
set_option linter.all false
namespace FamA
open PySem Sim
def g_l_mixed : Gs := gSeqS (gSet 2 (gOp hMod (gOp hMul (gOp hAdd (gOp hAdd (gOp hMod (gVar 0) (gC (.int (2147483629)))) (gOp hMul (gC (.int (7919))) (gVar 1))) (gC (.int (11)))) (gC (.int (48271)))) (gC (.int (2147483647))))) (gSeqS (gSet 2 (gOp hMod (gOp hAdd (gOp hMod (gOp hMul (gVar 2) (gVar 2)) (gC (.int (2147483629)))) (gOp hMul (gC (.int (104729))) (gVar 1))) (gC (.int (2147483629))))) (gRet (gOp hMod (gOp hMul (gVar 2) (gC (.int (39373)))) (gC (.int (2147483647))))))
def f_l_mixed : List Dt → O Dt := fnN 3 g_l_mixed
def g_l_numbers_L1 : Gs := gSeqS (gSet 6 (gOp hAdd (gOp hMul (gVar 6) (gC (.int (2147483647)))) (gCallN 2 f_l_mixed (gCons (gVar 0) (gCons (gOp hAdd (gOp hMul (gC (.int (8))) (gVar 5)) (gVar 7)) (gNil)))))) (gSet 7 (gOp hAdd (gVar 7) (gC (.int (1)))))
def g_l_numbers_T1 : List Dt → O Bool := gTest (gOp hLt (gOp hMul (gVar 7) (gC (.int (30)))) (gOp hAdd (gUn hBits (gVar 2)) (gC (.int (8)))))
def g_l_numbers_L2 : Gs := gSeqS (gSet 6 (gVar 4)) (gSeqS (gIfS (gTest (gOp hGt (gVar 4) (gC (.int (0))))) (gSet 4 (gOp hDiv (gVar 4) (gVar 2))) (gSeqS (gSet 6 (gC (.int (0)))) (gSeqS (gSet 7 (gC (.int (0)))) (gWhile g_l_numbers_T1 g_l_numbers_L1 100)))) (gApp 3 (gOp hMod (gVar 6) (gVar 2))))
def g_l_numbers : Gs := gSeqS (gSet 3 (gLst (gNil))) (gSeqS (gSet 4 (gOp hSub (gVar 0) (gOp hPow (gC (.int (10))) (gC (.int (18)))))) (gSeqS (gFor (gRng1 (gCons (gVar 1) (gNil))) (tgN 5) g_l_numbers_L2) (gRet (gVar 3))))
def f_l_numbers : List Dt → O Dt := fnL 8 g_l_numbers
def g_l_ends : Gs := gSeqS (gSet 4 (gOp hMod (gVar 2) (gVar 0))) (gSeqS (gIfS (gTest (gOp hEq (gVar 1) (gC (.int (0))))) (gRet (gTup (gCons (gVar 4) (gCons (gOp hMod (gVar 3) (gVar 0)) (gNil))))) (gNext)) (gSeqS (gIfS (gTest (gOp hEq (gVar 1) (gC (.int (1))))) (gRet (gTup (gCons (gOp hMod (gVar 2) (gCB hMin2 (gCons (gVar 0) (gCons (gC (.int (3))) (gNil))))) (gCons (gOp hMod (gVar 3) (gCB hMin2 (gCons (gVar 0) (gCons (gC (.int (2))) (gNil))))) (gNil))))) (gNext)) (gSeqS (gIfS (gTest (gOp hEq (gVar 1) (gC (.int (2))))) (gRet (gTup (gCons (gVar 4) (gCons (gOp hMod (gOp hAdd (gOp hAdd (gVar 4) (gC (.int (1)))) (gOp hDiv (gOp hMod (gVar 3) (gC (.int (5)))) (gC (.int (4))))) (gVar 0)) (gNil))))) (gNext)) (gRet (gTup (gCons (gVar 4) (gCons (gOp hMod (gOp hAdd (gVar 4) (gOp hMul (gC (.int (2))) (gOp hMod (gVar 3) (gVar 0)))) (gVar 0)) (gNil))))))))
def f_l_ends : List Dt → O Dt := fnN 5 g_l_ends
def g_l_record_L1 : Gs := gSeqS (gAsg (gCallN 4 f_l_ends (gCons (gVar 2) (gCons (gOp hMod (gOp hIx (gVar 0) (gC (.int (3)))) (gC (.int (4)))) (gCons (gOp hIx (gVar 0) (gOp hAdd (gC (.int (4))) (gOp hMul (gC (.int (3))) (gVar 7)))) (gCons (gOp hIx (gVar 0) (gOp hAdd (gC (.int (5))) (gOp hMul (gC (.int (3))) (gVar 7)))) (gNil)))))) (tgT (tgCons (tgN 8) (tgCons (tgN 9) (tgNil))))) (gSeqS (gApp 6 (gTup (gCons (gVar 5) (gCons (gCB hMin2 (gCons (gVar 8) (gCons (gVar 9) (gNil)))) (gCons (gCB hMax2 (gCons (gVar 8) (gCons (gVar 9) (gNil)))) (gNil)))))) (gSet 5 (gOp hAdd (gOp hAdd (gVar 5) (gC (.int (1)))) (gOp hMod (gOp hIx (gVar 0) (gOp hAdd (gC (.int (6))) (gOp hMul (gC (.int (3))) (gVar 7)))) (gVar 4)))))
def g_l_record : Gs := gSeqS (gSet 2 (gOp hAdd (gC (.int (1))) (gOp hMod (gOp hIx (gVar 0) (gC (.int (0)))) (gC (.int (6)))))) (gSeqS (gIfS (gTest (gOp hEq (gOp hMod (gOp hDiv (gOp hIx (gVar 0) (gC (.int (0)))) (gC (.int (6)))) (gC (.int (8)))) (gC (.int (1))))) (gSet 2 (gOp hAdd (gC (.int (7))) (gOp hMod (gOp hDiv (gOp hIx (gVar 0) (gC (.int (0)))) (gC (.int (48)))) (gC (.int (4)))))) (gNext)) (gSeqS (gSet 3 (gOp hMod (gOp hIx (gVar 0) (gC (.int (1)))) (gC (.int (13))))) (gSeqS (gIfS (gTest (gOp hEq (gOp hMod (gOp hDiv (gOp hIx (gVar 0) (gC (.int (1)))) (gC (.int (13)))) (gC (.int (8)))) (gC (.int (1))))) (gSet 3 (gOp hAdd (gC (.int (13))) (gOp hMod (gOp hDiv (gOp hIx (gVar 0) (gC (.int (1)))) (gC (.int (104)))) (gC (.int (48)))))) (gNext)) (gSeqS (gSet 4 (gOp hIx (gLst (gCons (gC (.int (1))) (gCons (gC (.int (4))) (gCons (gOp hPow (gC (.int (10))) (gC (.int (28)))) (gNil))))) (gOp hMod (gOp hIx (gVar 0) (gC (.int (2)))) (gC (.int (3)))))) (gSeqS (gSet 5 (gOp hIx (gLst (gCons (gC (.int (0))) (gCons (gOp hMod (gOp hDiv (gOp hIx (gVar 0) (gC (.int (2)))) (gC (.int (12)))) (gC (.int (100)))) (gCons (gOp hMod (gOp hIx (gVar 0) (gC (.int (3)))) (gOp hPow (gC (.int (10))) (gC (.int (29))))) (gNil))))) (gOp hMod (gOp hDiv (gOp hIx (gVar 0) (gC (.int (2)))) (gC (.int (3)))) (gC (.int (3)))))) (gSeqS (gSet 6 (gLst (gNil))) (gSeqS (gFor (gRng1 (gCons (gCB hMin3 (gCons (gVar 3) (gCons (gVar 1) (gCons (gOp hDiv (gOp hSub (gCB hLen (gCons (gVar 0) (gNil))) (gC (.int (4)))) (gC (.int (3)))) (gNil))))) (gNil))) (tgN 7) g_l_record_L1) (gRet (gTup (gCons (gVar 2) (gCons (gVar 6) (gNil))))))))))))
def f_l_record : List Dt → O Dt := fnN 10 g_l_record
end FamA
end T_FamA
section T_FamL
set_option linter.all false
namespace FamL
open PySem Sim
def g_is_whole : Gs := gRet (gAndV (gUn (hIsa .int) (gVar 0)) (gNotV (gUn (hIsa .bool) (gVar 0))))
def f_is_whole : List Dt → O Dt := fnN 1 g_is_whole
def g_joined : Gs := gSeqS (gSet 3 (gCB hMin2 (gCons (gOp hIx (gVar 0) (gVar 1)) (gCons (gOp hIx (gVar 0) (gVar 2)) (gNil))))) (gSeqS (gSet 4 (gCB hMax2 (gCons (gOp hIx (gVar 0) (gVar 1)) (gCons (gOp hIx (gVar 0) (gVar 2)) (gNil))))) (gRet (gPurN (gLc (gSeq (gVar 0)) (tgN 5) (gYes) (gIf (gTest (gOp hEq (gVar 5) (gVar 4))) (gVar 3) (gVar 5))))))
def f_joined : List Dt → O Dt := fnL 6 g_joined
def g_is_depth : Gs := gRet (gAndV (gCallN 1 f_is_whole (gCons (gVar 0) (gNil))) (gChain hLe hLe (gC (.int (1))) (gVar 0) (gC (.int (6)))))
def f_is_depth : List Dt → O Dt := fnN 1 g_is_depth
def g_look_at_layers : Gs := gIfS (gNot (gTest (gCallN 1 f_is_depth (gCons (gVar 0) (gNil))))) (gBad) (gNext)
def f_look_at_layers : List Dt → O Dt := fnN 1 g_look_at_layers
def g_layer_for_L1 : Gs := gIfS (gTest (gOp hNe (gOp hIx (gVar 4) (gVar 1)) (gOp hIx (gVar 4) (gVar 2)))) (gRet (gOp hAdd (gVar 3) (gC (.int (1))))) (gNext)
def g_layer_for : Gs := gSeqS (gFor (gEnum (gCons (gVar 0) (gNil))) (tgT (tgCons (tgN 3) (tgCons (tgN 4) (tgNil)))) g_layer_for_L1) (gRet (gC (.int (0))))
def f_layer_for : List Dt → O Dt := fnN 5 g_layer_for
def g_layered_L1 : Gs := gSeqS (gSet 4 (gCallN 3 f_layer_for (gCons (gVar 3) (gCons (gVar 7) (gCons (gVar 8) (gNil)))))) (gSeqS (gIfS (gTest (gOp hGt (gVar 4) (gC (.int (0))))) (gSetI 3 (gCallN 3 f_joined (gCons (gOp hIx (gVar 3) (gOp hSub (gVar 4) (gC (.int (1))))) (gCons (gVar 7) (gCons (gVar 8) (gNil))))) (gOp hSub (gVar 4) (gC (.int (1))))) (gNext)) (gApp 5 (gVar 4)))
def g_layered : Gs := gSeqS (gDrop (gCallN 1 f_look_at_layers (gCons (gVar 2) (gNil)))) (gSeqS (gSet 3 (gLc (gRng1 (gCons (gVar 2) (gNil))) (tgN 4) (gYes) (gLsI (gRng1 (gCons (gVar 0) gNil))))) (gSeqS (gSet 5 (gLst (gNil))) (gSeqS (gFor (gRev (gCons (gVar 1) (gNil))) (tgT (tgCons (tgN 6) (tgCons (tgN 7) (tgCons (tgN 8) (tgNil))))) g_layered_L1) (gRet (gLsI (gRev (gCons (gVar 5) gNil)))))))
def f_layered : List Dt → O Dt := fnL 9 g_layered
def g_l_depth : Gs := gRet (gOp hIx (gLst (gCons (gOp hAdd (gC (.int (1))) (gOp hMod (gVar 0) (gC (.int (4))))) (gCons (gOp hAdd (gC (.int (1))) (gOp hMod (gOp hDiv (gVar 0) (gC (.int (32)))) (gC (.int (6))))) (gNil)))) (gCB hInt1 (gCons (gOp hEq (gOp hMod (gVar 0) (gC (.int (8)))) (gC (.int (1)))) (gNil))))
def f_l_depth : List Dt → O Dt := fnN 1 g_l_depth
end FamL
end T_FamL
section T_SimX
set_option Elab.async false
set_option linter.all false
set_option maxRecDepth 100000
namespace Sim
open PySem PySem.Spec L2
open PyProof.Rows hiding St
theorem takesN {X : Cx} : L2N.Takes X (fun _ _ _ _ => False) := fun _ _ x => by
  obtain ⟨_, _, _, _, _, _, _, _, _, _, _, _, _, _, _, _, z⟩ := x
  exact z.elim
theorem fun_okG {P : Program} {w : World} {K : PySem.W.Frag} {mg : Str → Option Value} {base : Heap} {CXt : CXT} {x qual : Str} {st : Stmt} {f : Addr} {fd : FuncData} {N ps : List Str} {k : Nat} {sp : Sp} (F : L2.Fun K x qual st f fd) (S : FnScope N ps (defScope st)) (len : ∀ vs H Q E, sp vs H Q E → vs.length = ps.length)
    (hbody : ∀ (cdv : Value) (A : Around) (outer : List Env) (s : Shared) (H : Hp) (vs : List V) (Q : VK) (E : XK), Room k (A.deeper (envOfC qual (defScope st) s.heap.objs.size f cdv)) → sp vs H Q E →
      ∃ t, PSs (cxOf CXt P w K mg base N qual (defScope st) f cdv A outer s H E) (defBody st) t ∧ t { nx := fun _ H' => Q .non H', rt := Q } (start N vs) H) : FnOk P w K mg base CXt (k + 1) f fd ps sp := by
  obtain ⟨oc, od, kV, doc, pm, an, cdv, ct, osl, rfl, lk, hcd⟩ := F.ex
  exact fn_of lk hcd S len fun A outer s H vs Q E hr hsp => hbody cdv A outer s H vs Q E hr hsp
theorem exH_ok {P : Program} {w : World} {H : Hp} {h : Heap} {a : Addr} {cls : Value} {d : Option Addr} {oe : Obj} {vs : Array Value} (e : h.get? a = some oe) (z : L2N.Zn cls d oe) (dd : oe.data = .fields vs) : ObjOk P w H h a (ExH cls d a) :=
  ⟨⟨oe, vs, e, z, dd⟩, ⟨oe, e⟩, fun _ _ ⟨o, v, q, r⟩ k => ⟨o, v, k o q, r⟩⟩
section
variable {X : Cx} {pins : List (Addr × Obj)} {σ : L2.St} {H : Hp} {s : Shared}
theorem inv_note {a : Addr} {oe : Obj} {vs : Array Value} {cls : Value} {d : Option Addr} (I : Inv X pins σ H s) (he : s.heap.get? a = some oe) (hz : L2N.Zn cls d oe) (hd : oe.data = .fields vs) (na : H a = none)
    (n0 : X.s_0.heap.get? a = none) (nL : a ≠ X.env.locals) (np : ∀ p ∈ X.pn ++ pins, p.1 ≠ a) : Inv X pins σ (upd H a (ExH cls d a)) s := by
  refine ⟨I.ok, I.os, I.bare, ⟨I.base.keep, I.base.slot, fun b o e n hx => ?_, I.base.there, fun b xs e => ?_, fun b o u e => ?_, fun b ps e => ?_⟩, I.loc, I.cell, ?_, fun x c e => ?_, fun p hp => ?_, I.hok.laidN (fun _ _ q => q) na (exH_ok he hz hd), I.len⟩
  · rw [upd_ne (fun z => by rw [z, n0] at e; cases e)]
    exact I.base.free b o e n hx
  · have q := I.base.tups b xs e
    rw [upd_ne (ne_of_none q na)]
    exact q
  · have q := I.base.frzs b o u e
    rw [upd_ne (ne_of_none q na)]
    exact q
  · obtain ⟨m, q⟩ := I.base.tbls b ps e
    exact ⟨m, by rw [upd_ne (ne_of_none q na)]; exact q⟩
  · rw [upd_ne (Ne.symm nL)]
    exact I.free
  · rw [upd_ne ?_]
    · exact I.freeC x c e
    · intro z
      obtain ⟨v, o, ho, hdd⟩ := I.cell x c e
      rw [z, he] at ho
      cases ho
      rw [hd] at hdd
      cases hdd
  · obtain ⟨e, n, ne, nf, d⟩ := I.pin p hp
    exact ⟨e, by rw [upd_ne (np p hp)]; exact n, ne, nf, d⟩
theorem inv_suite (I : Inv X pins σ H s) (a : Addr) : Inv (X.suite a (X.pn ++ pins)) [] σ H s :=
  ⟨I.ok.suite _ _, I.os, I.bare, I.base, I.loc, I.cell, I.free, I.freeC, fun p hp => I.pin p (by rw [List.append_nil] at hp; exact hp), I.hok, I.len⟩
theorem inv_unsuite {a : Addr} {pn' : List (Addr × Obj)} (I : Inv (X.suite a (X.pn ++ pins)) pn' σ H s) (ok : X.Ok) : Inv X pins σ H s :=
  ⟨ok, I.os, I.bare, I.base, I.loc, I.cell, I.free, I.freeC, fun p hp => I.pin p (List.mem_append_left _ hp), I.hok, I.len⟩
end
def goneE (i : Nat) (D : Ends) : Ends := { nx := fun σ H => D.nx (σ.set i none) H, rt := D.rt, bk := fun σ H => D.bk (σ.set i none) H, ct := fun σ H => D.ct (σ.set i none) H }
def wX (K : PySem.W.Frag) (c : Value) (i : Nat) (ts : TS) (Wout : WX) (D : Ends) : WX := fun cls d σ H =>
  ∃ b, PySem.W.exmOne K cls c = some b ∧ (b = true → ∀ a, H a = none → ts (goneE i D) (σ.set i (some (.ref a))) (upd H a (ExH cls d a))) ∧ (b = false → Wout cls d σ H)
section
variable {X : Cx} {x n : Str} {c : Value} {i : Nat} {body suite : List Stmt} {b₀ : Stmt} {np pos pos' : Pos} {tb : WX → TS} {ts : TS} {Wout : WX}
theorem ps_tryX (hs : X.stack = X.env :: X.outer) (hf : X.env.frame = some X.env.locals) (hex : X.ex = []) (hN : X.N.Nodup) (hi : X.N[i]? = some n) (hln : X.env.kindOf n = some .local) (hc : Names X x c) (tk : L2N.Takes X Wout)
    (hb : ∀ (W : WX) (pn : List (Addr × Obj)) (xe : Value → Shared → Prop), L2N.Takes (X.tr pn xe) W → PSs (X.tr pn xe) body (tb W))
    (hsu : ∀ (a : Addr) (pn : List (Addr × Obj)), PSs (X.suite a pn) (b₀ :: suite) ts) :
    PS X (.Try body [.ExceptHandler (some (.Name x np)) (some n) (b₀ :: suite) pos'] [] [] pos) (fun D σ H => tb (wX X.K c i ts Wout D) D σ H) := by
  refine ⟨fun pins s σ H D I h => wpAny_Try_except ?_⟩
  have ok := I.ok
  have hfr : X.A.frames = some (X.env :: X.outer) := by rw [ok.frames, hs]
  have caught : L2N.Takes (X.tr (X.pn ++ pins) (fun e s₁ => wpAny (model X.prog X.w) X.A (noteFrame e X.env) (fun _ s₂ => wpAny (model X.prog X.w) X.A (setFlight e none) (fun _ s₃ =>
      wpAny (model X.prog X.w) X.A (handleBy e X.env [.ExceptHandler (some (.Name x np)) (some n) (b₀ :: suite) pos']) (SP X pins D) X.xe s₃) X.xe s₂) X.xe s₁)) (wX X.K c i ts Wout D) := by
    rintro u s' ⟨a, B, sI, pins', σ', H', cls, d, rfl, J', nb, up, sky, na, os, ag, b, hb1, hyes, hno⟩
    have J : Inv X pins σ' H' sI := J'.ofTry ok
    have sky' : Sky B (X.env :: X.outer) a (L2N.Zn cls d) X.env.locals s'.heap := by rw [← hs]; exact sky
    show wpAny _ X.A (noteFrame (.ref a) X.env) _ _ _
    refine L2N.Sky.land L2N.Zn.steady hfr hf sky' fun h3 fl3 up3 => ?_
    have J3 : Inv X pins σ' H' { s' with heap := h3 } := J.landed nb fl3.1 (up.trans up3) os ag
    obtain ⟨oe3, vs3, he3, hz3, hd3⟩ := fl3.there
    have nfr : a ∉ frs (X.env :: X.outer) := fun hm => by
      obtain ⟨_, o', e', hnf⟩ := fl3.2.2.1.mem hm
      rw [he3] at e'; cases e'
      exact hnf _ hd3
    have nL : a ≠ X.env.locals := fun z => nfr (List.mem_filterMap.mpr ⟨X.env, List.mem_cons_self, by rw [hf, z]⟩)
    have nB : B.get? a = none := fl3.2.1
    have inB : ∀ {y : Addr} {o : Obj}, sI.heap.get? y = some o → y = a → False := fun {y o} e z => by
      subst z
      have := nb y o e (by rw [hs]; exact nfr)
      rw [nB] at this; cases this
    have n0 : X.s_0.heap.get? a = none := by
      cases e : X.s_0.heap.get? a with
      | none => rfl
      | some o =>
        obtain ⟨o', q⟩ := J.base.there a o e (by rw [hex]; simp)
        exact (inB q rfl).elim
    have npin : ∀ p ∈ X.pn ++ pins, p.1 ≠ a := fun p hp z => inB (J.pin p hp).1 z
    have test : ∀ {Q : Value → Shared → Prop} {E : Value → Shared → Prop}, Q c { s' with heap := h3 } → wpAny (model X.prog X.w) (X.A.mark (some (.ref a))) (eval (.Name x np) X.env) Q E { s' with heap := h3 } := fun {Q E} q => by
      obtain ⟨hg, hdbg, hm | ⟨hm, hv, hnn⟩⟩ := hc
      · exact ld_glob (X := X.suite a (X.pn ++ pins)) (inv_suite J3 a) hg hm q hdbg
      · exact ld_blt (X := X.suite a (X.pn ++ pins)) (inv_suite J3 a) hg hm hv q hnn hdbg
    have LT : PySem.W.Looks (model X.prog X.w) h3 (typeOf (.ref a)) cls := fun A Q E s k q => wpAny_typeOf_ref (k _ _ he3) (by rw [hz3.1]; exact q)
    refine wpAny_handleBy_cons (codeAny_handlers_test (test ((PySem.W.exm_one (M := model X.prog X.w) J3.kIn LT hb1).here ?_))) (by intro q; cases q)
    cases b with
    | true =>
      refine codeAny_handlers_suite_as (HandSPX.lands_againZ fl3 fun h4 fl4 up4 => ?_)
      have J4 : Inv X pins σ' H' { s' with heap := h4 } := J.landed nb fl4.1 ((up.trans up3).trans up4) os ag
      obtain ⟨oe4, vs4, he4, hz4, hd4⟩ := fl4.there
      have J5 := inv_suite (inv_note J4 he4 hz4 hd4 na n0 nL npin) a
      refine store_ok (X := X.suite a (X.pn ++ pins)) (v := .ref a) J5 hN hi (.inl hln) rfl (fun s5 S5 => ?_) (.inr hln)
      refine wpAny_mono ((hsu a (X.pn ++ pins)).run [] s5 _ _ _ S5 (hyes rfl a na)) (fun f s6 hsp => ?_) (fun _ _ z => False.elim z)
      have fin : ∀ {σ6 : L2.St} {H6 : Hp} {Q : Shared → Prop}, Inv (X.suite a (X.pn ++ pins)) [] σ6 H6 s6 → (∀ s7, Inv X pins (σ6.set i none) H6 s7 → Q s7) →
          wpAny (model X.prog X.w) X.A (do bindName X.env n .none; unbindBehindTheSuite X.env n pos') (fun _ s7 => Q s7) X.xe s6 := fun {σ6 H6 Q} S6 hq => gone_ok (inv_unsuite S6 ok) hN hi hln hq
      cases f with
      | next =>
        obtain ⟨σ6, H6, S6, q6⟩ := hsp
        exact fin S6 fun s7 J7 => ⟨_, _, J7, q6⟩
      | brk =>
        obtain ⟨σ6, H6, S6, q6⟩ := hsp
        exact fin S6 fun s7 J7 => ⟨_, _, J7, q6⟩
      | cont =>
        obtain ⟨σ6, H6, S6, q6⟩ := hsp
        exact fin S6 fun s7 J7 => ⟨_, _, J7, q6⟩
      | ret u =>
        obtain ⟨v6, σ6, H6, S6, r6, q6⟩ := hsp
        exact fin S6 fun s7 J7 => ⟨_, _, _, J7, r6, q6⟩
    | false =>
      show wpAny _ X.A (handleBy (.ref a) X.env []) _ _ _
      refine wpAny_handleBy_nil ?_
      obtain ⟨k1, k2, k3, oe, vs, T, oT, ts', he, hz, hd, h1, hr⟩ := id fl3
      unfold PySem.passOn
      refine wpAny_bind (wpAny_field he hd h1 ?_)
      rw [if_neg (show ¬ ((Value.ref T == Value.none) = true) from by simp)]
      have on : wpAny (model X.prog X.w) X.A (setFlight (.ref a) X.env.frame) (fun _ s4 => wpAny (model X.prog X.w) X.A (throw (.ref a) : Sem Flow) (SP X pins D) X.xe s4) X.xe { s' with heap := h3 } := by
        rw [hf]
        refine HandSPX.setFlight_upZ fl3 fun h4 hh4 up4 => wpAny_throw (tk _ _ ?_)
        exact ⟨a, B, sI, pins, σ', H', cls, d, rfl, J, nb, (up.trans up3).trans up4, .inr (.inr (by rw [hs]; exact hh4)), na, os, ag, hno rfl⟩
      first
        | exact wpAny_bind (wpAny_pure (wpAny_bind on))
        | exact wpAny_bind on
  refine wpAny_mono ((hb _ (X.pn ++ pins) _ caught).run [] s σ H D (I.toTry _) h) (fun f s1 hsp => ?_) (fun e s1 he => he)
  cases f with
  | next =>
    obtain ⟨σ', H', J', q⟩ := hsp
    exact wpAny_execs_nil ⟨σ', H', J'.ofTry ok, q⟩
  | brk =>
    obtain ⟨σ', H', J', q⟩ := hsp
    exact ⟨σ', H', J'.ofTry ok, q⟩
  | cont =>
    obtain ⟨σ', H', J', q⟩ := hsp
    exact ⟨σ', H', J'.ofTry ok, q⟩
  | ret u =>
    obtain ⟨v, σ', H', J', r, q⟩ := hsp
    exact ⟨v, σ', H', J'.ofTry ok, r, q⟩
end
theorem pmk_own0 {X : Cx} {C : Addr} {bmB : List Value} {B newId initId : String} {x : Str} {p pos : Pos} (F : ExcBaseFacts B newId initId bmB) (q : PySem.W.excIn X.K C bmB newId = true) (gC : X.mg x = some (.ref C)) (kC : PySem.W.keepIn X.K (.ref C) = true)
    (r : Raises X (.ref C)) (hg : Gl X x) (hdb : (x == ("__debug__" : Str)) = false := by decide) : L2N.PMk X (.Call (.Name x p) [] [] pos) (fun _ H Q => Q (.ref C) none H) := by
  intro pins s σ H Q I h
  refine wpAny_Call_Name_kw (ld_glob I hg gC ?_ hdb)
  refine PySem.W.callWith_K0 I.kIn kC ?_
  show wpAny _ _ (call (.ref C) []) _ _ _
  obtain ⟨bm, N, nm, qn, bs, hdct, sn, sub, ab, col, dd, k0, k1, k2, k3, k5, mN, hC, hN, hni, T⟩ := exc_obj I.kIn q
  refine wpAny_call_exc_subT F T hC hN hni (fun h' e hm => ?_) (Nat.zero_le _)
  exact L2N.mk_of I hm r h (I.hok.gone hm.new)
end Sim
end T_SimX
section T_SimXB
set_option Elab.async false
set_option linter.all false
set_option maxRecDepth 100000
namespace Sim
open PySem PySem.Spec L2
open PyProof.Rows hiding St
abbrev wtOf (mg : Str → Option Value) (Wx : WX) : Wt := fun e σ H => Wcls mg e (WE Wx σ) H
abbrev veB : List Value := [.type "ValueError", .type "Exception", .type "BaseException", .type "object"]
structure ExT (K : PySem.W.Frag) (mg : Str → Option Value) (c : Str) (C : Addr) : Prop where
  g : mg c = some (.ref C)
  n : PySem.W.nsIn K mainGlobals c = some (some (.ref C))
  k : PySem.W.keepIn K (.ref C) = true
  t : PySem.W.typeIn K (.ref C) = some (.type "type")
  x : ExcC K C
def gRaise (c : Str) : Gs := fun _ => .ex ⟨c, none⟩
theorem z_raise0 {X : Cx} {K : PySem.W.Frag} {L : Lk} {Δ Δn Δb Δc : List Kd} {Wx : WX} {mg : Str → Option Value} {c : Str} {C : Addr} {p pos pos' : Pos} (tk : L2N.Takes X Wx) (T : ExT K mg c C) (q : PySem.W.excIn K C veB "ValueError.__new__" = true)
    (hmg : X.mg = mg := by rfl) (hK : X.K = K := by rfl) (hc : X.calm = true := by rfl) (hg : Gl X c := by rfl) (hdb : (c == ("__debug__" : Str)) = false := by decide) :
    SD X K (wtOf mg Wx) L Δ Δn Δb Δc (.Raise (some (.Call (.Name c p) [] [] pos)) none pos') (fun _ σ H => Wx (.ref C) none σ H) (gRaise c) := by
  subst hK hmg
  exact ⟨L2N.ps_raise hc tk (pmk_own0 PySem.F.excBase_ValueError q T.g T.k (raises_own T.x.hs T.t) hg hdb), rfl, fun f ρ σ H E r q => q σ H r.ext C T.g⟩
def gCallX (n : Nat) (g : List Dt → O Dt) (gA : List Dt → O (List Dt)) : Gd := fun ρ => bnd (gA ρ) fun ds => if ds.length = n then g ds else .bad
section
variable {K : PySem.W.Frag} {Δ : List Kd} {ta : TA} {gA : List Dt → O (List Dt)} {av fr : Bool} {mg : Str → Option Value} {n : Nat} {g : List Dt → O Dt} {Wx : WX}
theorem se_callXN (h : SA K (wtOf mg Wx) Δ ta av fr gA) : SE K (wtOf mg Wx) Δ (tCallS (spG K mg n g) (WE Wx) ta) (.v true true) (gCallX n g gA) := fun f ρ σ H Q r q => h f ρ σ H _ r <| by
  unfold gCallX at q
  cases e : gA ρ with
  | bad => rw [e] at q; exact q
  | ex z => rw [e] at q; exact q
  | ok ds =>
    rw [e, bnd_ok] at q
    intro vs H1 s1 x1
    by_cases hn : ds.length = n
    · rw [if_pos hn] at q
      refine ⟨ds, by rw [x1.length]; exact hn, x1.weak fun _ _ => trivial, ?_⟩
      cases e2 : g ds with
      | bad => rw [e2] at q; exact q.elim
      | ex z => rw [e2] at q; exact fun H2 s2 => q H2 (s1.trans s2)
      | ok d =>
        rw [e2] at q
        intro v H2 s2 x2
        refine q v H2 (s1.trans s2) (x2.weak fun a na => ?_)
        obtain ⟨f1, f2, f3⟩ := (r.mono s1).fresh na
        exact ⟨fun _ => ⟨f1, f2⟩, fun _ => r.g0 a f3⟩
    · rw [if_neg hn] at q
      exact q.elim
theorem se_callXL (h : SA K (wtOf mg Wx) Δ ta av fr gA) : SE K (wtOf mg Wx) Δ (tCallS (spL K mg n g) (WE Wx) ta) (.new .l true) (gCallX n g gA) := fun f ρ σ H Q r q => h f ρ σ H _ r <| by
  unfold gCallX at q
  cases e : gA ρ with
  | bad => rw [e] at q; exact q
  | ex z => rw [e] at q; exact q
  | ok ds =>
    rw [e, bnd_ok] at q
    intro vs H1 s1 x1
    by_cases hn : ds.length = n
    · rw [if_pos hn] at q
      refine ⟨ds, by rw [x1.length]; exact hn, x1.weak fun _ _ => trivial, ?_⟩
      cases e2 : g ds with
      | bad => rw [e2] at q; exact q.elim
      | ex z => rw [e2] at q; exact fun H2 s2 => q H2 (s1.trans s2)
      | ok d =>
        rw [e2] at q
        intro p H2 np s2 x2
        refine q p H2 (s1.free np) (s1.trans s2) (x2.map (fun _ e => e) fun _ _ y => y.weak fun a na => ?_)
        obtain ⟨f1, f2, f3⟩ := (r.mono s1).fresh na.1
        exact ⟨⟨fun _ => ⟨f1, f2⟩, fun _ => r.g0 a f3⟩, na.2⟩
    · rw [if_neg hn] at q
      exact q.elim
end
section
variable {X : Cx} {K : PySem.W.Frag} {Δ : List Kd} {e : Expr} {es : List Expr} {tA : TA} {gA : List Dt → O (List Dt)} {av fr : Bool} {pos p : Pos} {mg : Str → Option Value} {Wx : WX} {x : Str} {kk nn : Nat} {fa : Addr} {fd : FuncData} {ps : List Str} {gg : List Dt → O Dt}
theorem x_callXN (tk : L2N.Takes X Wx) (F : FnOk X.prog X.w X.K X.mg X.base (L2N.CX X.prog X.w) kk fa fd ps (spG K mg nn gg)) (hr : Room kk X.A) (hm : X.mg x = some (.ref fa)) (hk : PySem.W.keepIn X.K (.ref fa) = true) (hb : Binds X.K fd ps [])
    (h : AD X K (wtOf mg Wx) Δ (e :: es) tA av fr gA) (hg : Gl X x := by rfl) (hdb : (x == ("__debug__" : Str)) = false := by decide) (he : starEach (e :: es) X.env = (false, eval e X.env) :: starEach es X.env := by rfl) (hpl : (backTo pos (starEach es X.env)).any (·.1) = false := by rfl) :
    PD X K (wtOf mg Wx) Δ (.Call (.Name x p) (e :: es) [] pos) (tCallS (spG K mg nn gg) (WE Wx) tA) (.v true true) (gCallX nn gg gA) := ⟨pe_callS F hr hg hm hk hb (fun σ => L2N.passAt tk σ) h.pa hdb he hpl, h.hK, se_callXN h.sa⟩
theorem x_callXL (tk : L2N.Takes X Wx) (F : FnOk X.prog X.w X.K X.mg X.base (L2N.CX X.prog X.w) kk fa fd ps (spL K mg nn gg)) (hr : Room kk X.A) (hm : X.mg x = some (.ref fa)) (hk : PySem.W.keepIn X.K (.ref fa) = true) (hb : Binds X.K fd ps [])
    (h : AD X K (wtOf mg Wx) Δ (e :: es) tA av fr gA) (hg : Gl X x := by rfl) (hdb : (x == ("__debug__" : Str)) = false := by decide) (he : starEach (e :: es) X.env = (false, eval e X.env) :: starEach es X.env := by rfl) (hpl : (backTo pos (starEach es X.env)).any (·.1) = false := by rfl) :
    PD X K (wtOf mg Wx) Δ (.Call (.Name x p) (e :: es) [] pos) (tCallS (spL K mg nn gg) (WE Wx) tA) (.new .l true) (gCallX nn gg gA) := ⟨pe_callS F hr hg hm hk hb (fun σ => L2N.passAt tk σ) h.pa hdb he hpl, h.hK, se_callXL h.sa⟩
end
def fnNX (m : Nat) (g : Gs) : List Dt → O Dt := fun ds => match g (ds ++ List.replicate (m - ds.length) .none) with
  | .ok (.rt d) => .ok d
  | .ok (.nx _) => .ok .none
  | .ex e => .ex e
  | _ => .bad
def fnLX (m : Nat) (g : Gs) : List Dt → O Dt := fun ds => match g (ds ++ List.replicate (m - ds.length) .none) with
  | .ok (.rt d) => .ok d
  | .ex e => .ex e
  | _ => .bad
abbrev wE (E : XK) : WX := fun cls d _ H => E cls d H
section
variable {P : Program} {w : World} {K : PySem.W.Frag} {mg : Str → Option Value} {base : Heap} {x qual : Str} {st : Stmt} {fa : Addr} {fd : FuncData} {N ps : List Str} {k n m : Nat} {Δn : List Kd} {g : Gs}
theorem fn_okNX (F : L2.Fun K x qual st fa fd) (S : FnScope N ps (defScope st)) (hn : ps.length = n) (hm : N.length = m) (hnm : n ≤ m)
    (hb : ∀ (cdv : Value) (A : Around) (outer : List Env) (s : Shared) (H : Hp) (E : XK), Room k (A.deeper (envOfC qual (defScope st) s.heap.objs.size fa cdv)) →
      L2N.Takes (cxOf (L2N.CX P w) P w K mg base N qual (defScope st) fa cdv A outer s H E) (wE E) → PassesOwn (model P w) (cxOf (L2N.CX P w) P w K mg base N qual (defScope st) fa cdv A outer s H E).A (cxOf (L2N.CX P w) P w K mg base N qual (defScope st) fa cdv A outer s H E).env (cxOf (L2N.CX P w) P w K mg base N qual (defScope st) fa cdv A outer s H E).xe →
      ∃ ts, BD (cxOf (L2N.CX P w) P w K mg base N qual (defScope st) fa cdv A outer s H E) K (wtOf mg (wE E)) .n (kd0 n m false) Δn (kd0 n m false) (kd0 n m false) (defBody st) ts g) :
    FnOk P w K mg base (L2N.CX P w) (k + 1) fa fd ps (spG K mg n (fnNX m g)) := by
  refine fun_okG F S (fun vs H Q E h => ?_) (fun cdv A outer s H vs Q E hr h => ?_)
  · obtain ⟨ds, h1, _⟩ := h
    rw [h1, hn]
  · obtain ⟨ds, h1, h2, h3⟩ := h
    obtain ⟨ts, B⟩ := hb cdv A outer s H E hr (L2N.takes_of rfl rfl rfl rfl) (passes_of (X := cxOf (L2N.CX P w) P w K mg base N qual (defScope st) fa cdv A outer s H E) rfl)
    refine ⟨ts, B.ps, B.ss ⟨H, fun a => H a = none, [], [], none, [], fun _ h => nomatch h⟩ _ _ H _ (r_start h1 hm hnm h2 (fun _ h => h) (fun e => nomatch e)) ?_⟩
    unfold fnNX at h3
    cases e : g (ds ++ List.replicate (m - ds.length) .none) with
    | bad => rw [e] at h3; exact h3.elim
    | ex z => rw [e] at h3; exact fun σ' H' s => h3 H' s
    | ok fl =>
      rw [e] at h3
      cases fl with
      | nx ρ => exact fun σ' H' r => h3 .non H' r.ext .non
      | rt d => exact fun v H' s x => h3 v H' s x
      | bk ρ => exact h3.elim
      | ct ρ => exact h3.elim
theorem fn_okLX (F : L2.Fun K x qual st fa fd) (S : FnScope N ps (defScope st)) (hn : ps.length = n) (hm : N.length = m) (hnm : n ≤ m)
    (hb : ∀ (cdv : Value) (A : Around) (outer : List Env) (s : Shared) (H : Hp) (E : XK), Room k (A.deeper (envOfC qual (defScope st) s.heap.objs.size fa cdv)) →
      L2N.Takes (cxOf (L2N.CX P w) P w K mg base N qual (defScope st) fa cdv A outer s H E) (wE E) → PassesOwn (model P w) (cxOf (L2N.CX P w) P w K mg base N qual (defScope st) fa cdv A outer s H E).A (cxOf (L2N.CX P w) P w K mg base N qual (defScope st) fa cdv A outer s H E).env (cxOf (L2N.CX P w) P w K mg base N qual (defScope st) fa cdv A outer s H E).xe →
      ∃ ts, BD (cxOf (L2N.CX P w) P w K mg base N qual (defScope st) fa cdv A outer s H E) K (wtOf mg (wE E)) .l (kd0 n m false) Δn (kd0 n m false) (kd0 n m false) (defBody st) ts g) :
    FnOk P w K mg base (L2N.CX P w) (k + 1) fa fd ps (spL K mg n (fnLX m g)) := by
  refine fun_okG F S (fun vs H Q E h => ?_) (fun cdv A outer s H vs Q E hr h => ?_)
  · obtain ⟨ds, h1, _⟩ := h
    rw [h1, hn]
  · obtain ⟨ds, h1, h2, h3⟩ := h
    obtain ⟨ts, B⟩ := hb cdv A outer s H E hr (L2N.takes_of rfl rfl rfl rfl) (passes_of (X := cxOf (L2N.CX P w) P w K mg base N qual (defScope st) fa cdv A outer s H E) rfl)
    refine ⟨ts, B.ps, B.ss ⟨H, fun a => H a = none, [], [], none, [], fun _ h => nomatch h⟩ _ _ H _ (r_start h1 hm hnm h2 (fun _ h => h) (fun e => nomatch e)) ?_⟩
    unfold fnLX at h3
    cases e : g (ds ++ List.replicate (m - ds.length) .none) with
    | bad => rw [e] at h3; exact h3.elim
    | ex z => rw [e] at h3; exact fun σ' H' s => h3 H' s
    | ok fl =>
      rw [e] at h3
      cases fl with
      | nx ρ => exact h3.elim
      | rt d => exact fun p H' np s x => h3 p H' np s x
      | bk ρ => exact h3.elim
      | ct ρ => exact h3.elim
end
def noX (o : O Fl) : O Fl := match o with
  | .ex _ => .bad
  | .ok a => .ok a
  | .bad => .bad
def gTry (gb : Gs) (yes no : List Str) (i : Nat) (gh : Gs) : Gs := fun ρ => match gb ρ with
  | .ex e => if yes.contains e.cls then noX (gh (ρ.set i (exnD e.cls e.arg))) else if no.contains e.cls then .ex e else .bad
  | .ok a => .ok a
  | .bad => .bad
def PoSx (K : PySem.W.Frag) (W : Wt) (L : Lk) (f : Fm) (Δn Δb Δc : List Kd) (σ : L2.St) (H : Hp) (o : O Fl) (E : Ends) : Prop := match o with
  | .ex e => ∀ H', Same H H' → W e σ H'
  | .ok a => PoS K W L f Δn Δb Δc (.ok a) E
  | .bad => False
def SSx (K : PySem.W.Frag) (W : Wt) (L : Lk) (Δ Δn Δb Δc : List Kd) (ts : TS) (g : Gs) : Prop := ∀ f ρ σ H E, R K f Δ ρ σ H → PoSx K W L f Δn Δb Δc σ H (g ρ) E → ts E σ H
structure SDx (X : Cx) (K : PySem.W.Frag) (W : Wt) (L : Lk) (Δ Δn Δb Δc : List Kd) (st : Stmt) (ts : TS) (g : Gs) : Prop where
  ps : PS X st ts
  hK : X.K = K
  ss : SSx K W L Δ Δn Δb Δc ts g
structure BDx (X : Cx) (K : PySem.W.Frag) (W : Wt) (L : Lk) (Δ Δn Δb Δc : List Kd) (sts : List Stmt) (ts : TS) (g : Gs) : Prop where
  ps : PSs X sts ts
  hK : X.K = K
  ss : SSx K W L Δ Δn Δb Δc ts g
section
variable {K : PySem.W.Frag} {f : Fm} {Δ : List Kd} {ρ : List Dt} {σ : L2.St} {H : Hp} {i : Nat}
theorem R.gone (r : R K f Δ ρ σ H) (h : Δ[i]? = some .no) : R K f Δ ρ (σ.set i none) H := by
  have ne : ∀ {j : Nat} {k : Kd}, Δ[j]? = some k → k ≠ .no → i ≠ j := fun {j k} e n z => by
    subst z
    rw [h] at e
    cases e
    exact n rfl
  have ow' : ∀ a, Ow Δ (σ.set i none) a → Ow Δ σ a := fun a ⟨j, c, fr, h1, h2⟩ => by
    rw [List.getElem?_set_ne (ne h1 (fun z => nomatch z))] at h2
    exact ⟨j, c, fr, h1, h2⟩
  have key : ∀ {fr : Bool} {v : V} {d : Dt}, Rp K (FM f Δ σ true fr) H v d → Rp K (FM f Δ (σ.set i none) true fr) H v d := fun h =>
    h.weak fun a fa => ⟨fun _ => ⟨fun z => (fa.1 rfl).1 (ow' a z), (fa.1 rfl).2⟩, fa.2⟩
  refine ⟨r.ext, r.g0, by rw [List.length_set]; exact r.lσ, r.lρ, fun j l cj fj cl fl p h1 h2 h3 h4 => ?_, fun a ha => ⟨(r.pin a ha).1, fun z => (r.pin a ha).2 (ow' a z)⟩, fun g hg => (r.gh g hg).map fun _ _ x => key x, fun j fr h' => ?_, fun j c fr h' => ?_, fun j c fr h' ha => ?_, r.sp, fun j t h' => by
    obtain ⟨v, d, h1, h2, h3⟩ := r.sl j t h'
    exact ⟨v, d, by rw [List.getElem?_set_ne (ne h' (fun z => nomatch z))]; exact h1, h2, h3⟩⟩
  · rw [List.getElem?_set_ne (ne h1 (fun z => nomatch z))] at h3
    rw [List.getElem?_set_ne (ne h2 (fun z => nomatch z))] at h4
    exact r.inj j l cj fj cl fl p h1 h2 h3 h4
  · obtain ⟨v, d, h1, h2, h3⟩ := r.im j fr h'
    exact ⟨v, d, by rw [List.getElem?_set_ne (ne h' (fun z => nomatch z))]; exact h1, h2, key h3⟩
  · obtain ⟨p, d, h1, h2, h3, h4⟩ := r.ow j c fr h'
    exact ⟨p, d, by rw [List.getElem?_set_ne (ne h' (fun z => nomatch z))]; exact h1, h2, h3, h4.map (fun o e => e) fun _ _ x => key x⟩
  · obtain ⟨p, h1, h2⟩ := r.ar j c fr h' ha
    exact ⟨p, h1, by rw [List.getElem?_set_ne (ne h' (fun z => nomatch z))]; exact h2⟩
end
section
variable {K : PySem.W.Frag} {W : Wt} {L : Lk} {Δ Δ1 Δn Δb Δc : List Kd} {te : TE} {tt : TT} {t u ts : TS} {g : Gd} {gt : List Dt → O Bool} {ga gb gh : Gs} {fr av : Bool} {k : Rk} {i : Nat} {mg : Str → Option Value}
theorem sx_drop (h : SE K W Δ te k g) : SSx K W L Δ Δ Δb Δc (tDrop te) (gDrop g) := fun f ρ σ H E r q => h f ρ σ H _ r <| by
  unfold gDrop at q
  cases e : g ρ with
  | bad => rw [e] at q; exact q
  | ex z => rw [e] at q; exact q
  | ok d =>
    rw [e] at q
    cases k with
    | v av fr => exact fun v H' s x => q σ H' (r.mono s)
    | o fr => exact fun p H' vs ds e s _ _ _ => q σ H' (r.mono s)
    | new c fr => exact fun p H' np s x => q σ H' (r.mono s)
theorem sx_set (hi : i < Δ.length) (h : SE K W Δ te (.v true fr) g) : SSx K W L Δ (Δ.set i (.im fr)) Δb Δc (tAsg te (gName i)) (gSet i g) := fun f ρ σ H E r q => h f ρ σ H _ r <| by
  unfold gSet at q
  cases e : g ρ with
  | bad => rw [e] at q; exact q
  | ex z => rw [e] at q; exact q
  | ok d =>
    rw [e] at q
    exact fun v H' s x => q _ H' ((r.mono s).setIm hi x)
theorem SSx.post {Δn' : List Kd} (h : SSx K W L Δ Δn Δb Δc t ga) (ln : leA Δn Δn' = true) : SSx K W L Δ Δn' Δb Δc t ga := fun f ρ σ H E r q => h f ρ σ H E r <| by
  cases e : ga ρ with
  | bad => rw [e] at q; exact q
  | ex z => rw [e] at q; exact q
  | ok fl =>
    rw [e] at q
    cases fl with
    | nx ρ' => exact fun σ' H' r => q σ' H' (r.weak ln)
    | rt d => exact q
    | bk ρ' => exact q
    | ct ρ' => exact q
theorem s_tryX {C : Addr} {c : Str} {yes no : List Str} {tb : WX → TS} {Wout : WX} (T : ExT K mg c C)
    (hyes : ∀ y ∈ yes, ∃ D, PySem.W.nsIn K mainGlobals y = some (some (.ref D)) ∧ mg y = some (.ref D) ∧ PySem.W.subIn K (.ref D) (.ref C) = some true)
    (hno : ∀ y ∈ no, ∃ D, PySem.W.nsIn K mainGlobals y = some (some (.ref D)) ∧ mg y = some (.ref D) ∧ PySem.W.subIn K (.ref D) (.ref C) = some false)
    (hW : ∀ e σ H, W e σ H → wtOf mg Wout e σ H) (hi : i < Δ.length) (en : Δn[i]? = some .no) (eb : Δb[i]? = some .no) (ec : Δc[i]? = some .no)
    (hb : ∀ Wx : WX, SSx K (wtOf mg Wx) L Δ Δn Δb Δc (tb Wx) gb) (hsu : SS K W0 L (Δ.set i (.im true)) Δn Δb Δc ts gh) :
    SS K W L Δ Δn Δb Δc (fun D σ H => tb (wX K (.ref C) i ts Wout D) D σ H) (gTry gb yes no i gh) := fun f ρ σ H E r q => hb _ f ρ σ H E r <| by
  unfold gTry at q
  cases e : gb ρ with
  | bad => rw [e] at q; exact q
  | ok a =>
    rw [e] at q
    cases a with
    | nx ρ' => exact q
    | rt d => exact q
    | bk ρ' => exact q
    | ct ρ' => exact q
  | ex z =>
    rw [e] at q
    have q : PoS K W L f Δn Δb Δc (if yes.contains z.cls then noX (gh (ρ.set i (exnD z.cls z.arg))) else if no.contains z.cls then .ex z else .bad) E := q
    intro H' s C' hC'
    by_cases hy : yes.contains z.cls = true
    · rw [if_pos hy] at q
      obtain ⟨D, h1, h2, h3⟩ := hyes z.cls (by simpa using hy)
      rw [h2] at hC'
      cases hC'
      have key : ∀ d, XdAt H' d z.arg → wX K (.ref C) i ts Wout E (.ref C') d σ H' := fun d hd => by
        refine ⟨true, PySem.W.exm_ref T.x.hs T.x.hd T.t h3, fun _ a na => ?_, (fun z => nomatch z)⟩
        refine hsu f (ρ.set i (exnD z.cls z.arg)) _ _ (goneE i E) ((r.mono (s.trans (same_upd na))).setIm hi (.exn h1 upd_same (hd.same (same_upd na)))) ?_
        cases e2 : gh (ρ.set i (exnD z.cls z.arg)) with
        | bad => rw [e2] at q; exact q
        | ex y => rw [e2] at q; exact q.elim
        | ok fl =>
          rw [e2] at q
          cases fl with
          | nx ρ' => exact fun σ' H2 r' => q _ H2 (r'.gone en)
          | rt d => exact q
          | bk ρ' => exact fun σ' H2 r' => q _ H2 (r'.gone eb)
          | ct ρ' => exact fun σ' H2 r' => q _ H2 (r'.gone ec)
      cases ea : z.arg with
      | none => exact key none (by rw [ea]; exact rfl)
      | some m => exact fun d hd => key (some d) (by rw [ea]; exact ⟨d, rfl, hd⟩)
    · rw [if_neg hy] at q
      by_cases hn : no.contains z.cls = true
      · rw [if_pos hn] at q
        obtain ⟨D, h1, h2, h3⟩ := hno z.cls (by simpa using hn)
        have w := hW z σ H' (q σ H' (r.ext.trans s)) C' hC'
        rw [h2] at hC'
        cases hC'
        have key : ∀ d, Wout (.ref C') d σ H' → wX K (.ref C) i ts Wout E (.ref C') d σ H' := fun d w => ⟨false, PySem.W.exm_ref T.x.hs T.x.hd T.t h3, (fun z => nomatch z), fun _ => w⟩
        cases ea : z.arg with
        | none => rw [ea] at w; exact key none w
        | some m => rw [ea] at w; exact fun d hd => key (some d) (w d hd)
      · rw [if_neg hn] at q
        exact q.elim
end
section
variable {X : Cx} {K : PySem.W.Frag} {W : Wt} {L : Lk} {Δ Δ1 Δn Δb Δc : List Kd} {e c : Expr} {te : TE} {tt : TT} {t u ts : TS} {g : Gd} {gt : List Dt → O Bool} {ga gb gh g1 g2 : Gs} {fr av : Bool} {k : Rk} {mg : Str → Option Value} {st : Stmt} {sts sts2 : List Stmt} {pos pos' : Pos}
theorem y_drop (h : PD X K W Δ e te k g) (hs : swapsWith e none pos.line X.env = pure false := by rfl) : SDx X K W L Δ Δ Δb Δc (.Expr e pos) (tDrop te) (gDrop g) := ⟨ps_expr h.pe hs, h.hK, sx_drop h.se⟩
theorem y_set (i : Nat) {x : Str} (hN : X.N.Nodup) (h : PD X K W Δ e te (.v true fr) g) (hn : i < Δ.length := by decide) (hi : X.N[i]? = some x := by rfl) (hx : Loc X.env.scope x := by first | exact .inl rfl | exact .inr rfl) (hs : swapsWith e (some (.Name x pos')) pos.line X.env = pure false := by rfl)
    (hf : X.fn x = true ∨ X.env.scope.names.lookup x = some .local := by first | exact .inl rfl | exact .inr rfl) : SDx X K W L Δ (Δ.set i (.im fr)) Δb Δc (.Assign [.Name x pos'] e pos) (tAsg te (gName i)) (gSet i g) :=
  ⟨(z_set (L := .n) (Δb := []) (Δc := []) i hN h hn hi hx hs hf).ps, h.hK, sx_set hn h.se⟩
theorem y_one (h : SDx X K W L Δ Δn Δb Δc st t g1) : BDx X K W L Δ Δn Δb Δc [st] t g1 := ⟨pss_one h.ps, h.hK, h.ss⟩
theorem BDx.to (Δn' : List Kd) (h : BDx X K W L Δ Δn Δb Δc sts t g1) (l : leA Δn Δn' = true := by rfl) : BDx X K W L Δ Δn' Δb Δc sts t g1 := ⟨h.ps, h.hK, h.ss.post l⟩
theorem z_tryX {C : Addr} {x n : Str} {yes no : List Str} {tb : WX → TS} {Wout : WX} {b₀ : Stmt} {np ph : Pos} {body suite : List Stmt} (i : Nat) (T : ExT K mg x C) (tk : L2N.Takes X Wout)
    (hyes : ∀ y ∈ yes, ∃ D, PySem.W.nsIn K mainGlobals y = some (some (.ref D)) ∧ mg y = some (.ref D) ∧ PySem.W.subIn K (.ref D) (.ref C) = some true)
    (hno : ∀ y ∈ no, ∃ D, PySem.W.nsIn K mainGlobals y = some (some (.ref D)) ∧ mg y = some (.ref D) ∧ PySem.W.subIn K (.ref D) (.ref C) = some false)
    (hW : ∀ e σ H, W e σ H → wtOf mg Wout e σ H) (hN : X.N.Nodup)
    (hb : ∀ (Wx : WX) (pn : List (Addr × Obj)) (xe : Value → Shared → Prop), L2N.Takes (X.tr pn xe) Wx → BDx (X.tr pn xe) K (wtOf mg Wx) L Δ Δn Δb Δc body (tb Wx) gb)
    (hsu : ∀ (a : Addr) (pn : List (Addr × Obj)), BD (X.suite a pn) K W0 L (Δ.set i (.im true)) Δn Δb Δc (b₀ :: suite) ts gh)
    (hi : i < Δ.length := by decide) (en : Δn[i]? = some .no := by rfl) (eb : Δb[i]? = some .no := by rfl) (ec : Δc[i]? = some .no := by rfl)
    (hn : X.N[i]? = some n := by rfl) (hln : X.env.kindOf n = some .local := by rfl) (hmg : X.mg = mg := by rfl) (hK : X.K = K := by rfl) (hs : X.stack = X.env :: X.outer := by rfl) (hf : X.env.frame = some X.env.locals := by rfl) (hex : X.ex = [] := by rfl)
    (hg : Gl X x := by rfl) (hdb : (x == ("__debug__" : Str)) = false := by decide) :
    SD X K W L Δ Δn Δb Δc (.Try body [.ExceptHandler (some (.Name x np)) (some n) (b₀ :: suite) ph] [] [] pos) (fun D σ H => tb (wX K (.ref C) i ts Wout D) D σ H) (gTry gb yes no i gh) := by
  subst hK hmg
  exact ⟨ps_tryX hs hf hex hN hn hln ⟨hg, hdb, .inl T.g⟩ tk (fun W pn xe tk => (hb W pn xe tk).ps) (fun a pn => (hsu a pn).ps), rfl, s_tryX T hyes hno hW hi en eb ec (fun Wx => (hb Wx [] (fun _ _ => True) (fun _ _ _ => trivial)).ss) (hsu 0 []).ss⟩
end
theorem co_nil {K : PySem.W.Frag} {mg : Str → Option Value} {C : Addr} {b : Bool} : ∀ y ∈ ([] : List Str), ∃ D, PySem.W.nsIn K mainGlobals y = some (some (.ref D)) ∧ mg y = some (.ref D) ∧ PySem.W.subIn K (.ref D) (.ref C) = some b := fun y h => nomatch h
theorem co_cons {K : PySem.W.Frag} {mg : Str → Option Value} {C D : Addr} {b : Bool} {y : Str} {ys : List Str} (T : ExT K mg y D) (e : PySem.W.subIn K (.ref D) (.ref C) = some b) (h : ∀ y ∈ ys, ∃ D, PySem.W.nsIn K mainGlobals y = some (some (.ref D)) ∧ mg y = some (.ref D) ∧ PySem.W.subIn K (.ref D) (.ref C) = some b) :
    ∀ z ∈ y :: ys, ∃ D, PySem.W.nsIn K mainGlobals z = some (some (.ref D)) ∧ mg z = some (.ref D) ∧ PySem.W.subIn K (.ref D) (.ref C) = some b := fun z hz => by
  rcases List.mem_cons.mp hz with rfl | hz
  · exact ⟨D, T.n, T.g, e⟩
  · exact h z hz
def isxTab (tab : List (Str × Bool)) (c : Str) : Option Bool := (tab.find? fun p => p.1 == c).map (·.2)
def hIsX (tab : List (Str × Bool)) : Dt → O Dt := fun d => match d with
  | .dict [(.none, .str c), (.none, .none)] => (match isxTab tab c with
    | some b => .ok (.bool b)
    | none => .bad)
  | _ => .bad
def TabOk (K : PySem.W.Frag) (tab : List (Str × Bool)) (ans : Addr → Option Bool) : Prop := ∀ p ∈ tab, ∃ D, PySem.W.nsIn K mainGlobals p.1 = some (some (.ref D)) ∧ ExcC K D ∧ ans D = some p.2
theorem tab_nil {K : PySem.W.Frag} {ans : Addr → Option Bool} : TabOk K [] ans := fun p h => nomatch h
theorem tab_cons {K : PySem.W.Frag} {mg : Str → Option Value} {ans : Addr → Option Bool} {c : Str} {b : Bool} {D : Addr} {tab : List (Str × Bool)} (T : ExT K mg c D) (e : ans D = some b) (h : TabOk K tab ans) : TabOk K ((c, b) :: tab) ans := fun p hp => by
  rcases List.mem_cons.mp hp with rfl | hp
  · exact ⟨D, T.n, T.x, e⟩
  · exact h p hp
theorem kit_ref {K : PySem.W.Frag} {mg : Str → Option Value} {c : Str} {C D : Addr} {b : Bool} (T : ExT K mg c C) (e : PySem.W.subIn K (.ref D) (.ref C) = some b) (ed : D = C → b = true) : PySem.W.kitOne K (.ref D) (.ref C) = some b := by
  unfold PySem.W.kitOne PySem.W.kitCls
  by_cases h : (Value.ref D == Value.ref C) = true
  · rw [if_pos h, ed (Value.ref.inj (beq_iff_eq.mp h))]
  · rw [if_neg h]
    have e1 : ((PySem.W.clsIn K C).isSome && PySem.W.typeIn K (.ref C) == some (.type "type")) = true := by
      obtain ⟨cd, hc, _⟩ := PySem.W.any_some T.x.hd
      rw [hc, T.t]
      rfl
    show (if ((PySem.W.clsIn K C).isSome && PySem.W.typeIn K (.ref C) == some (.type "type")) = true then PySem.W.subIn K (.ref D) (.ref C) else none) = some b
    rw [if_pos e1]
    exact e
theorem kit_bi {K : PySem.W.Frag} {D : Addr} {n : String} {b : Bool} (e : PySem.W.subIn K (.ref D) (.type n) = some b) (hm : PySem.W.kitMeta n = true := by decide +kernel) : PySem.W.kitOne K (.ref D) (.type n) = some b := by
  unfold PySem.W.kitOne PySem.W.kitCls
  rw [if_neg (show ¬ (Value.ref D == Value.type n) = true from by simp)]
  show (if PySem.W.kitMeta n = true then PySem.W.subIn K (.ref D) (.type n) else none) = some b
  rw [if_pos hm]
  exact e
def rIsX (K : PySem.W.Frag) : List V → Hp → VK → Prop := fun xs H Q => ∃ (a D : Addr) (c : V) (cv : Value) (b : Bool), xs = [.ref a, c] ∧ H a = some (ExH (.ref D) none a) ∧ ExcC K D ∧ (∀ u, RelV c u → u = cv) ∧ PySem.W.kitOne K (.ref D) cv = some b ∧ Q (.bl b) H
theorem call_isX {X : Cx} : CallR X (.builtin "isinstance") (rIsX X.K) := by
  intro pins s σ H xs us Q I r h
  obtain ⟨a, D, c, cv, b, rfl, ha, C, hcv, e, q⟩ := h
  cases r with
  | cons rx rr =>
    cases rr with
    | cons rt rr =>
      cases rr
      cases rx
      have ec := hcv _ rt
      subst ec
      obtain ⟨⟨oe, vs, ho, hz, hv⟩, _, _⟩ := I.hok a _ ha
      have J : PySem.W.InstAt s.heap a oe D none := by
        obtain ⟨oc, od, oda, osl⟩ := oe
        obtain ⟨h1, h2, _⟩ := hz
        dsimp only at h1 h2 hv
        subst h1 h2 hv
        exact ⟨ho, rfl, rfl, trivial⟩
      exact PySem.W.kia_one (PySem.W.handS_kitx_exc C.hg C.hk C.hs C.hd C.ha C.hn C.ht C.hm) I.kIn J e (fun z => nomatch z) fun tk => ⟨.bl b, H, I.kept (t' := tk) fun _ _ z => z, rfl, q⟩
theorem rp_exn {K : PySem.W.Frag} {F : Addr → Prop} {H : Hp} {v : V} {c : Str} (x : Rp K F H v (.dict [(.none, .str c), (.none, .none)])) : ∃ a C, v = .ref a ∧ PySem.W.nsIn K mainGlobals c = some (some (.ref C)) ∧ H a = some (ExH (.ref C) none a) := by
  generalize ed : PyData.dict [(.none, .str c), (.none, .none)] = d at x
  cases x with
  | dic h fa hk r =>
    rename_i a kvs es
    injection ed with ed
    subst ed
    cases kvs with
    | nil => cases hk
    | cons kv kvs =>
      rw [List.map_cons, List.map_cons] at hk
      injection hk with h1 h2
      obtain ⟨k, w⟩ := kv
      cases k <;> cases h1
  | exn n h hx =>
    rename_i a C cls d m
    injection ed with ed
    injection ed with e1 e2
    injection e1 with _ e1
    injection e1 with e1
    injection e2 with e2 _
    injection e2 with _ e2
    subst e1
    cases m with
    | none =>
      have hx : d = none := hx
      subst hx
      exact ⟨a, C, rfl, n, h⟩
    | some i => cases e2
  | _ => cases ed
theorem se_isX {K : PySem.W.Frag} {W : Wt} {Δ : List Kd} {te : TE} {g : Gd} {av fr : Bool} {c : V} {cv : Value} {tab : List (Str × Bool)} (hcv : ∀ u, RelV c u → u = cv) (ht : TabOk K tab fun D => PySem.W.kitOne K (.ref D) cv) (ha : SE K W Δ te (.v av fr) g) :
    SE K W Δ (tCB (rIsX K) (tCons te (tCons (tC c) tNil))) (.v true true) (gUn (hIsX tab) g) := fun f ρ σ H Q R q => by
  refine ha f ρ σ H _ R ?_
  unfold gUn at q
  cases e1 : g ρ with
  | bad => rw [e1] at q; exact q
  | ex z => rw [e1] at q; exact q
  | ok d =>
    rw [e1, bnd_ok] at q
    intro v H1 s1 x1
    unfold hIsX at q
    split at q
    · rename_i cn
      obtain ⟨a, C, rfl, hn, hp⟩ := rp_exn x1
      cases et : isxTab tab cn with
      | none => rw [et] at q; exact q.elim
      | some b =>
        rw [et] at q
        unfold isxTab at et
        obtain ⟨p, ep, eb⟩ := Option.map_eq_some_iff.mp et
        have h1 := List.mem_of_find?_eq_some ep
        have h2 := List.find?_some ep
        have h2 : p.1 = cn := by simpa using h2
        obtain ⟨D, k1, k2, k3⟩ := ht p h1
        rw [h2, hn] at k1
        cases k1
        subst eb
        exact ⟨a, C, c, cv, p.2, rfl, hp, k2, hcv, k3, q _ H1 s1 (.bl _)⟩
    · exact q.elim
theorem pe_cls {X : Cx} {x : Str} {C : Addr} {p : Pos} (hm : X.mg x = some (.ref C)) (hg : Gl X x) (hdb : (x == ("__debug__" : Str)) = false) : PE X (.Name x p) (tC (.ref C)) := ⟨fun pins s σ H Q I h => ld_glob I hg hm ⟨.ref C, H, I, rfl, h⟩ hdb⟩
section
variable {X : Cx} {K : PySem.W.Frag} {W : Wt} {Δ : List Kd} {e : Expr} {te : TE} {g : Gd} {av fr : Bool} {pos p p2 : Pos} {mg : Str → Option Value} {tab : List (Str × Bool)}
theorem x_isX {x : Str} {C : Addr} (hm : X.mg "isinstance" = none) (hx : X.mg x = some (.ref C)) (ht : TabOk K tab fun D => PySem.W.kitOne K (.ref D) (.ref C)) (h : PD X K W Δ e te (.v av fr) g) (hg2 : Gl X x := by rfl) (hdb : (x == ("__debug__" : Str)) = false := by decide)
    (hg : Gl X "isinstance" := by rfl)
    (he : starEach [e, .Name x p2] X.env = (false, eval e X.env) :: starEach [.Name x p2] X.env := by rfl) (he2 : starEach [.Name x p2] X.env = (false, eval (.Name x p2) X.env) :: starEach [] X.env := by rfl) (hpl : (backTo pos (starEach [.Name x p2] X.env)).any (·.1) = false := by rfl) :
    PD X K W Δ (.Call (.Name "isinstance" p) [e, .Name x p2] [] pos) (tCB (rIsX K) (tCons te (tCons (tC (.ref C)) tNil))) (.v true true) (gUn (hIsX tab) g) :=
  ⟨pe_callB (by have q := call_isX (X := X); rw [h.hK] at q; exact q) hg hm (by decide +kernel) (pa_cons h.pe (pa_cons (pe_cls hx hg2 hdb) pa_nil he2) he) (by decide) (by decide) he hpl, h.hK, se_isX (fun u r => r) ht h.se⟩
theorem x_isXB {x : Str} {T : String} (hm : X.mg "isinstance" = none) (hm2 : X.mg x = none) (ht : TabOk K tab fun D => PySem.W.kitOne K (.ref D) (.type T)) (h : PD X K W Δ e te (.v av fr) g) (hv : bootBuiltins x = some (.type T) := by decide +kernel) (hg2 : Gl X x := by rfl) (hn : x ≠ "__name__" := by decide) (hdb : (x == ("__debug__" : Str)) = false := by decide)
    (hg : Gl X "isinstance" := by rfl)
    (he : starEach [e, .Name x p2] X.env = (false, eval e X.env) :: starEach [.Name x p2] X.env := by rfl) (he2 : starEach [.Name x p2] X.env = (false, eval (.Name x p2) X.env) :: starEach [] X.env := by rfl) (hpl : (backTo pos (starEach [.Name x p2] X.env)).any (·.1) = false := by rfl) :
    PD X K W Δ (.Call (.Name "isinstance" p) [e, .Name x p2] [] pos) (tCB (rIsX K) (tCons te (tCons (tC (.ty T)) tNil))) (.v true true) (gUn (hIsX tab) g) :=
  ⟨pe_callB (by have q := call_isX (X := X); rw [h.hK] at q; exact q) hg hm (by decide +kernel) (pa_cons h.pe (pa_cons (pe_bltn hg2 hm2 hv rfl hn hdb) pa_nil he2) he) (by decide) (by decide) he hpl, h.hK, se_isX (fun u r => r) ht h.se⟩
end
def rIsXT (K : PySem.W.Frag) (cvs : List Value) : List V → Hp → VK → Prop := fun xs H Q => ∃ (a D t : Addr) (cs : List V) (b : Bool), xs = [.ref a, .ref t] ∧ H a = some (ExH (.ref D) none a) ∧ H t = some (.tup cs) ∧ ExcC K D ∧ (∀ us, Vals cs us → us = cvs) ∧ PySem.W.kitAny K (.ref D) cvs = some b ∧ Q (.bl b) H
theorem call_isXT {X : Cx} {cvs : List Value} : CallR X (.builtin "isinstance") (rIsXT X.K cvs) := by
  intro pins s σ H xs us Q I r h
  obtain ⟨a, D, t, cs, b, rfl, ha, ht, C, hcv, e, q⟩ := h
  cases r with
  | cons rx rr =>
    cases rr with
    | cons rt rr =>
      cases rr
      cases rx
      cases rt
      obtain ⟨⟨oe, vs, ho, hz, hv⟩, _, _⟩ := I.hok a _ ha
      obtain ⟨_, its, rv, ot, hot, hc, n, hdt⟩ := I.hok t _ ht
      have ev := hcv _ rv
      subst ev
      have J : PySem.W.InstAt s.heap a oe D none := by
        obtain ⟨oc, od, oda, osl⟩ := oe
        obtain ⟨h1, h2, _⟩ := hz
        dsimp only at h1 h2 hv
        subst h1 h2 hv
        exact ⟨ho, rfl, rfl, trivial⟩
      obtain ⟨otc, otd, otdata, otsl⟩ := ot
      dsimp only at hc hdt
      subst hc hdt
      exact PySem.W.kia_tup (PySem.W.handS_kitx_exc C.hg C.hk C.hs C.hd C.ha C.hn C.ht C.hm) I.kIn J hot e (fun z => nomatch z) fun tk => ⟨.bl b, H, I.kept (t' := tk) fun _ _ z => z, rfl, q⟩
structure ClsA (X : Cx) (es : List Expr) (vs : List V) (cvs : List Value) (tA : TA) : Prop where
  pa : PA X es tA
  run : ∀ σ H Q, Q vs H → tA σ H Q
  un : ∀ us, Vals vs us → us = cvs
theorem ca_nil {X : Cx} : ClsA X [] [] [] tNil := ⟨pa_nil, fun _ _ _ q => q, fun us r => by cases r; rfl⟩
theorem ca_cons {X : Cx} {x : Str} {C : Addr} {p : Pos} {es : List Expr} {vs : List V} {cvs : List Value} {tA : TA} (hm : X.mg x = some (.ref C)) (h : ClsA X es vs cvs tA) (hg : Gl X x := by rfl) (hdb : (x == ("__debug__" : Str)) = false := by decide)
    (he : starEach (.Name x p :: es) X.env = (false, eval (.Name x p) X.env) :: starEach es X.env := by rfl) : ClsA X (.Name x p :: es) (.ref C :: vs) (.ref C :: cvs) (tCons (tC (.ref C)) tA) :=
  ⟨pa_cons (pe_cls hm hg hdb) h.pa he, fun σ H Q q => h.run σ H _ q, fun us r => by
    cases r with
    | cons r1 r2 =>
      cases r1
      rw [h.un _ r2]⟩
theorem kany_cons {K : PySem.W.Frag} {t c : Value} {cs : List Value} {b b' : Bool} (h : PySem.W.kitOne K t c = some b) (h2 : PySem.W.kitAny K t cs = some b') : PySem.W.kitAny K t (c :: cs) = some (b || b') := by
  unfold PySem.W.kitAny
  rw [h]
  cases b with
  | true => rfl
  | false => exact h2
theorem se_isXT {K : PySem.W.Frag} {W : Wt} {Δ : List Kd} {te : TE} {tA : TA} {g : Gd} {av fr : Bool} {vs : List V} {cvs : List Value} {tab : List (Str × Bool)} (hrun : ∀ σ H Q, Q vs H → tA σ H Q) (hlen : vs.length ≤ 100000) (hcv : ∀ us, Vals vs us → us = cvs)
    (ht : TabOk K tab fun D => PySem.W.kitAny K (.ref D) cvs) (ha : SE K W Δ te (.v av fr) g) : SE K W Δ (tCB (rIsXT K cvs) (tCons te (tCons (tTup tA) tNil))) (.v true true) (gUn (hIsX tab) g) := fun f ρ σ H Q R q => by
  refine ha f ρ σ H _ R ?_
  unfold gUn at q
  cases e1 : g ρ with
  | bad => rw [e1] at q; exact q
  | ex z => rw [e1] at q; exact q
  | ok d =>
    rw [e1, bnd_ok] at q
    intro v H1 s1 x1
    unfold hIsX at q
    split at q
    · rename_i cn
      obtain ⟨a, C, rfl, hn, hp⟩ := rp_exn x1
      cases et : isxTab tab cn with
      | none => rw [et] at q; exact q.elim
      | some b =>
        rw [et] at q
        unfold isxTab at et
        obtain ⟨p, ep, eb⟩ := Option.map_eq_some_iff.mp et
        have h1 := List.mem_of_find?_eq_some ep
        have h2 := List.find?_some ep
        have h2 : p.1 = cn := by simpa using h2
        obtain ⟨D, k1, k2, k3⟩ := ht p h1
        rw [h2, hn] at k1
        cases k1
        subst eb
        refine hrun _ _ _ ⟨sz_le hlen, fun t nt => ?_⟩
        exact ⟨a, C, t, vs, p.2, rfl, same_upd nt _ _ hp, upd_same, k2, hcv, k3, q _ _ (s1.trans (same_upd nt)) (.bl _)⟩
    · exact q.elim
theorem x_isXT {X : Cx} {K : PySem.W.Frag} {W : Wt} {Δ : List Kd} {e : Expr} {es : List Expr} {te : TE} {tA : TA} {g : Gd} {av fr : Bool} {pos p p2 : Pos} {k2 : Nat} {vs : List V} {cvs : List Value} {tab : List (Str × Bool)} (hm : X.mg "isinstance" = none) (hc : ClsA X es vs cvs tA) (ht : TabOk K tab fun D => PySem.W.kitAny K (.ref D) cvs)
    (h : PD X K W Δ e te (.v av fr) g) (hlen : vs.length ≤ 100000 := by exact Nat.le_of_ble_eq_true rfl) (hg : Gl X "isinstance" := by rfl)
    (he : starEach [e, .Tuple es k2 p2] X.env = (false, eval e X.env) :: starEach [.Tuple es k2 p2] X.env := by rfl) (he2 : starEach [.Tuple es k2 p2] X.env = (false, eval (.Tuple es k2 p2) X.env) :: starEach [] X.env := by rfl) (hpl : (backTo pos (starEach [.Tuple es k2 p2] X.env)).any (·.1) = false := by rfl) :
    PD X K W Δ (.Call (.Name "isinstance" p) [e, .Tuple es k2 p2] [] pos) (tCB (rIsXT K cvs) (tCons te (tCons (tTup tA) tNil))) (.v true true) (gUn (hIsX tab) g) :=
  ⟨pe_callB (by have q := call_isXT (X := X) (cvs := cvs); rw [h.hK] at q; exact q) hg hm (by decide +kernel) (pa_cons h.pe (pa_cons (pe_tup hc.pa) pa_nil he2) he) (by decide) (by decide) he hpl, h.hK, se_isXT hc.run hlen hc.un ht h.se⟩
theorem kit_yes {K : PySem.W.Frag} {mg : Str → Option Value} {c : Str} {C D : Addr} (T : ExT K mg c C) (e : PySem.W.subIn K (.ref D) (.ref C) = some true) : PySem.W.kitOne K (.ref D) (.ref C) = some true := kit_ref T e fun _ => rfl
theorem kit_no {K : PySem.W.Frag} {mg : Str → Option Value} {c : Str} {C D : Addr} (T : ExT K mg c C) (e : PySem.W.subIn K (.ref D) (.ref C) = some false) (s : PySem.W.subIn K (.ref D) (.ref D) = some true) : PySem.W.kitOne K (.ref D) (.ref C) = some false := kit_ref T e fun ed => by
  subst ed
  rw [s] at e
  cases e
end Sim
end T_SimXB
section T_SimLx
set_option Elab.async false
set_option linter.all false
set_option maxRecDepth 100000
set_option maxHeartbeats 1000000
namespace Sim
open PySem PySem.Spec L2
open PyProof.Rows hiding St
def outOf (X : Cx) (C : Addr) (fr : Option Addr) (x : Value) (u : Shared) : Prop :=
  ∃ m, u.heap.Ns C m ∧ ∀ g, Heap.SameBut C u.heap g → ∀ v : Env, v.locals = C → v.frame = fr →
    wpAny (model X.prog X.w) X.A (passOn "comprehension.variables-let-go" x v : Sem Value) (fun _ _ => False) X.xe { u with heap := g }
def blkEnd (X : Cx) (use : Option (Value → Sem Unit)) (Q : Value → Shared → Prop) (acc : Value) (C : Addr) (fr : Option Addr) (r : Result) (u : Shared) : Prop :=
  match r with
  | .ok _ => compPost (model X.prog X.w) X.A X.xe use Q acc C (.ok .next) u
  | .error x => outOf X C fr x u
section
variable {X : Cx} {Wx : WX}
theorem grounded {pb : List (Addr × Obj)} {σb : L2.St} {Hb : Hp} {s s' : Shared} {e : Value} {E : XK} (Ib : Inv X pb σb Hb s) (c : L2N.CX X.prog X.w X.stack Hb s E e s') :
    ∃ (a : Addr) (B : Heap) (cls : Value) (d : Option Addr) (H2 : Hp) (sI : Shared), e = .ref a ∧ HandSPX.FlyingZ B X.stack a (L2N.Zn cls d) s'.heap ∧ Inv X pb σb H2 sI ∧
      (∀ b o, sI.heap.get? b = some o → b ∉ frs X.stack → B.get? b = some o) ∧ sI.heap.UpToSlots s'.heap ∧ H2 a = none ∧ s'.os = sI.os ∧ AllBare s'.gens ∧ E cls d H2 := by
  obtain ⟨a, B, H2, cls, d, he, hfly, hk, hub, hna, hos, hbare, hE⟩ := c
  let keep : Addr → Bool := fun b => (B.get? b).isSome || decide (b ∈ frs X.stack)
  obtain ⟨G, gyes, gno⟩ := restrict s'.heap keep
  have inB : ∀ b o, B.get? b = some o → G.get? b = some o := fun b o q => by
    have : keep b = true := by simp [keep, q]
    rw [gyes b this]
    exact hfly.1 b o q
  have inF : ∀ b, b ∈ frs X.stack → G.get? b = s'.heap.get? b := fun b hb => gyes b (by simp [keep, hb])
  have inG : ∀ b o, G.get? b = some o → s'.heap.get? b = some o ∧ ((∃ o', B.get? b = some o') ∨ b ∈ frs X.stack) := fun b o q => by
    cases z : keep b with
    | true =>
      rw [gyes b z] at q
      refine ⟨q, ?_⟩
      simp only [keep, Bool.or_eq_true, decide_eq_true_eq] at z
      exact z.imp Option.isSome_iff_exists.mp id
    | false =>
      rw [gno b z] at q
      cases q
  refine ⟨a, B, cls, d, H2, { s with heap := G, gens := s'.gens, drawn := s'.drawn, toks := s'.toks }, he, hfly, ?_, ?_, ?_, hna, hos, hbare, hE⟩
  · have un : Un (frs X.stack) [] Hb H2 s.heap G := by
      refine ⟨fun b o q n nf _ => inB b o (hub.keep b o q n nf), fun b o q n mf _ => ?_, fun b o q n _ => hub.free b o q n, fun b o q _ => ?_, hub.tups, hub.frzs, hub.tbls⟩
      · obtain ⟨sl, z⟩ := hub.slot b o q mf
        exact ⟨sl, (inF b mf).trans z⟩
      · by_cases mf : b ∈ frs X.stack
        · obtain ⟨sl, z⟩ := hub.slot b o q mf
          exact ⟨_, (inF b mf).trans z⟩
        · obtain ⟨o', z⟩ := hub.there b o q mf
          exact ⟨o', inB b o' z⟩
    exact Ib.call (ch := []) un (hk.kept inB) hbare (fun _ z => nomatch z)
  · intro b o q nf
    obtain ⟨q2, ⟨o', z⟩ | z⟩ := inG b o q
    · have e2 := hfly.1 b o' z
      rw [q2] at e2
      injection e2 with e2
      rw [e2]
      exact z
    · exact (nf z).elim
  · exact Heap.UpToSlots.of_keeps fun b o q => (inG b o q).1
theorem frames_but {B g h : Heap} {C : Addr} (sb : Heap.SameBut C h g) : ∀ {l : List Env}, h.FunFrames B l → (∀ b ∈ frs l, b ≠ C) → g.FunFrames (PySem.W.hideAll B [C]) l
  | [], _, _ => trivial
  | env :: l, hl, hn => by
    obtain ⟨h1, ⟨L, o, e1, e2, e3, e4⟩, h3⟩ := hl
    have hL : L ≠ C := hn L (List.mem_filterMap.mpr ⟨env, List.mem_cons_self, e1⟩)
    refine ⟨h1, ⟨L, o, e1, ?_, (sb.2 L hL).trans e3, e4⟩, frames_but sb h3 fun b hb => ?_⟩
    · cases q : (PySem.W.hideAll B [C]).get? L with
      | none => rfl
      | some u =>
        have z := PySem.W.of_hideAll _ q
        rw [e2] at z
        cases z
    · obtain ⟨v, hv, q⟩ := List.mem_filterMap.mp hb
      exact hn b (List.mem_filterMap.mpr ⟨v, List.mem_cons_of_mem _ hv, q⟩)
theorem note_same {e : Value} {ce env : Env} (h : ce.frame = env.frame) : noteFrame e ce = noteFrame e env := by
  unfold noteFrame PySem.frameOf
  rw [h]
theorem blk_exc (hst : X.stack = X.env :: X.outer) (hfr : X.env.frame = some X.env.locals) (tk : L2N.Takes X Wx) {pins : List (Addr × Obj)} {σ : L2.St} {H3 : Hp} {s3 : Shared} (I3 : Inv X pins σ H3 s3)
    {fp : List Addr} (hfp : ∀ b ∈ fp, FpOk X pins H3 b) {scope : Scope} {ce : Env} (hcl : ce.locals = s3.heap.objs.size) (hcf : ce.frame = X.env.frame) {xe : Value → Shared → Prop}
    {pb : List (Addr × Obj)} {σb : L2.St} {Hb : Hp} {s s' : Shared} {e : Value} (Ib : Inv ({ X.blk s3 H3 scope ce fp with xe := xe }) pb σb Hb s) (c : L2N.CX X.prog X.w X.stack Hb s (fun cls d H' => Wx cls d σ H') e s') {E : Value → Shared → Prop} :
    wpAny (model X.prog X.w) X.A (noteFrame e ce) (fun _ u => outOf X ce.locals ce.frame e u) E s' := by
  obtain ⟨a, B, cls, d, H2, sI, rfl, hfly, J, nb, up, na, os, ag, w⟩ := grounded (X := { X.blk s3 H3 scope ce fp with xe := xe }) Ib c
  have hfly : HandSPX.FlyingZ B X.stack a (L2N.Zn cls d) s'.heap := hfly
  have nb : ∀ b o, sI.heap.get? b = some o → b ∉ frs X.stack → B.get? b = some o := nb
  rw [note_same hcf]
  have hAf : X.A.frames = some (X.env :: X.outer) := by rw [I3.ok.frames, hst]
  rw [hst] at hfly
  refine PXN.looks_onZ L2N.Zn.steady hAf hfr hfly fun h1 held up1 => ?_
  have J1 : Inv ({ X.blk s3 H3 scope ce fp with xe := xe }) pb σb H2 { s' with heap := h1 } := J.landed nb held.1 (up.trans up1) os ag
  obtain ⟨m, hns, _⟩ := J1.loc
  have hns : h1.Ns ce.locals m := hns
  refine ⟨m, hns, fun g sb v vl vf => ?_⟩
  -- the block's variables are no part of what the def knows
  have nC : H2 ce.locals = none := J.free
  have I7 : Inv X pins σ H2 sI := I3.call' (ch := fp) J.os J.base J.hok J.bare fun b hb => ⟨(hfp b hb).2.2.2.1, (hfp b hb).2.1, (hfp b hb).2.2.2.2.1, (hfp b hb).2.2.2.2.2⟩
  have fpC : FpOk X pins H2 ce.locals := I3.fpOk (Nat.le_of_eq hcl.symm) nC
  have hid : ∀ (h : Heap) b o, b ≠ ce.locals → h.get? b = some o → (PySem.W.hideAll h [ce.locals]).get? b = some o := fun h b o hb q => PySem.W.hideAll_get _ q (by simpa using hb)
  have hid2 : ∀ (h : Heap) b o, (PySem.W.hideAll h [ce.locals]).get? b = some o → b ≠ ce.locals ∧ h.get? b = some o := fun h b o q => by
    refine ⟨fun z => ?_, PySem.W.of_hideAll _ q⟩
    rw [z, PySem.W.hideAll_none _ (by simp)] at q
    cases q
  have I8 : Inv X pins σ H2 { sI with heap := PySem.W.hideAll sI.heap [ce.locals] } :=
    I7.turned (it := ce.locals) (t' := sI.toks) (fun b o hb q => hid _ b o hb q) nC fpC.2.1 fpC.2.2.2.1 fpC.2.2.2.2.1 fpC.2.2.2.2.2
  obtain ⟨hB, hBa, hF, oe, vs, T, oT, ts, ea, hz, hd, hv1, hBT, hTa, eT, hdT, ht3⟩ := held
  obtain ⟨oc, es, ep, ec, hdc, _⟩ := hns
  have aC : a ≠ ce.locals := fun z => by
    rw [z, ec] at ea
    cases ea
    rw [hdc] at hd
    cases hd
  have tC : T ≠ ce.locals := fun z => by
    rw [z, ec] at eT
    cases eT
    rw [hdc] at hdT
    cases hdT
  have ga : g.get? a = some oe := (sb.2 a aC).trans ea
  have gT : g.get? T = some oT := (sb.2 T tC).trans eT
  have hideN : ∀ b, B.get? b = none → (PySem.W.hideAll B [ce.locals]).get? b = none := fun b q => by
    cases z : (PySem.W.hideAll B [ce.locals]).get? b with
    | none => rfl
    | some o =>
      have := (hid2 B b o z).2
      rw [q] at this
      cases this
  have stays : (PySem.W.hideAll B [ce.locals]).StaysIn g := fun b o q => by
    obtain ⟨q1, q2⟩ := hid2 B b o q
    exact (sb.2 b q1).trans (hB b o q2)
  have frC : ∀ b ∈ frs (X.env :: X.outer), b ≠ ce.locals := fun b hb z => by
    rw [← hst] at hb
    obtain ⟨_, o, q, _⟩ := I3.stack.mem hb
    have q2 : b < s3.heap.objs.size := Heap.lt_size q
    rw [z, hcl] at q2
    exact absurd q2 (Nat.lt_irrefl _)
  have tr : HandSPX.TracedZ g (PySem.W.hideAll B [ce.locals]) a (L2N.Zn cls d) (rawInt X.env.locals) := ⟨oe, vs, T, oT, ts, ga, hz, hd, hv1, hideN T hBT, hTa, gT, hdT, ht3⟩
  unfold PySem.passOn
  refine wpAny_bind (wpAny_field ga hd hv1 ?_)
  rw [if_neg (show ¬ ((Value.ref T == Value.none) = true) from by simp)]
  have goes : wpAny (model X.prog X.w) X.A (setFlight (.ref a) v.frame) (fun _ u => wpAny (model X.prog X.w) X.A (throw (.ref a) : Sem Value) (fun _ _ => False) X.xe u) X.xe { s' with heap := g } := by
    rw [vf, hcf, hfr]
    refine HandSPX.setFlight_anyZ (fr := some X.env.locals) stays (frames_but sb hF frC) tr fun h2 k1 k2 k3 k4 => wpAny_throw (tk _ _ ?_)
    refine ⟨a, PySem.W.hideAll B [ce.locals], { sI with heap := PySem.W.hideAll sI.heap [ce.locals] }, pins, σ, H2, cls, d, rfl, I8, fun b o q nf => ?_, fun b o q nd => ?_, .inr (.inr ⟨k1, hideN a hBa, by rw [hst]; exact k2, k3⟩), na, os, ag, w⟩
    · obtain ⟨q1, q2⟩ := hid2 _ b o q
      exact hid B b o q1 (nb b o q2 nf)
    · obtain ⟨q1, q2⟩ := hid2 _ b o q
      obtain ⟨sl, q3⟩ := (up.trans up1) b o q2 nd
      have q4 : g.get? b = some { o with slots := sl } := (sb.2 b q1).trans q3
      obtain ⟨sl2, q5⟩ := k4 b { o with slots := sl } q4 nd
      exact ⟨sl2, q5⟩
  first
    | exact wpAny_bind (wpAny_pure (wpAny_bind goes))
    | exact wpAny_bind goes
theorem comp_any {ex : Expr} {scope : Scope} {pos : Pos} {mkAcc fst : Sem Value} {c₀ : Comprehension} {cr : List Comprehension} {cells : List (Str × Addr)} {use : Option (Value → Sem Unit)} {Q : Value → Shared → Prop}
    (h1 : clausesOf ex = c₀ :: cr) (h2 : ∀ x, foldedSetIterable c₀.iter X.env x = pure x) (h3 : closureFor scope X.env = pure cells) (h4 : scope.kind = .function) (h5 : ∀ y ∈ scope.names, y.2 = .local → scope.names.lookup y.1 = some .local)
    {s : Shared} (h : wpAny (model X.prog X.w) X.A fst (fun v u1 => wpAny (model X.prog X.w) X.A (pyIter v) (fun itr u2 => wpAny (model X.prog X.w) X.A mkAcc (fun acc u3 =>
      wpAny (model X.prog X.w) X.A (newFunctionEnv scope X.env.globals cells [] X.env.qual none .none (some X.env)) (fun be u4 =>
        codeAny (model X.prog X.w) X.A (.compStart ex 0 itr acc { be with scope := relabel scope X.env }) (blkEnd X use Q acc be.locals be.frame) u4) X.xe u3) X.xe u2) X.xe u1) X.xe s) :
    wpAny (model X.prog X.w) X.A (comprehension ex scope X.env pos mkAcc false fst use) Q X.xe s := by
  have nx : ∀ {α : Type} {t : Sem α} {P P' : α → Shared → Prop} {u : Shared}, wpAny (model X.prog X.w) X.A t P X.xe u → (∀ a v, P a v → P' a v) → wpAny (model X.prog X.w) X.A t P' X.xe u := fun a b => wpAny_mono a b fun _ _ z => z
  unfold comprehension
  rw [h3, h1]
  apply wpAny_bind
  refine nx h fun v u1 k1 => ?_
  apply wpAny_bind
  apply wpAny_standAt
  apply wpAny_bind
  refine wpAny_of_eq (h2 v) ?_
  apply wpAny_bind
  refine wpAny_holding (nx k1 fun itr u2 k2 => ?_)
  apply wpAny_standIf
  apply wpAny_bind
  refine nx k2 fun acc u3 k3 => ?_
  apply wpAny_bind
  apply wpAny_pure
  apply wpAny_bind
  refine nx k3 fun be u4 k4 => ?_
  dsimp only
  have kinds : ∀ y ∈ (scope.names.filter fun z => (z.2 == .local || z.2 == .cell) && z.1 != (".0" : Str)).reverse, y.2 = .local → Env.kindOf ({ be with scope := relabel scope X.env } : Env) y.1 = some .local := fun y hy hl => lookup_relabel_local (h5 y (List.mem_filter.mp (List.mem_reverse.mp hy)).1 hl)
  have kinds2 : ∀ y ∈ (scope.names.filter fun z => (z.2 == .local || z.2 == .cell) && z.1 != (".0" : Str)).reverse.drop 1 ++ (scope.names.filter fun z => (z.2 == .local || z.2 == .cell) && z.1 != (".0" : Str)).reverse.take 1, y.2 = .local → Env.kindOf ({ be with scope := relabel scope X.env } : Env) y.1 = some .local := fun y hy hl =>
    (List.mem_append.mp hy).elim (fun z => kinds y (List.mem_of_mem_drop z) hl) fun z => kinds y (List.mem_of_mem_take z) hl
  apply wpAny_holding
  apply wpAny_bind
  refine wpAny_attempt (wpAny_holding (wpAny_run (codeAny_mono k4 fun r u5 k5 => ?_)))
  cases r with
  | error x =>
    have k5 : outOf X be.locals be.frame x u5 := k5
    obtain ⟨m, hn, k6⟩ := k5
    refine wpAny_bind (wpAny_holding (wpAny_comp_letGo (cenv := ({ be with scope := relabel scope X.env } : Env)) h4 _ u5 m kinds hn fun g mm _ sb => ?_))
    exact wpAny_mono (k6 g sb ({ be with scope := relabel scope X.env } : Env) rfl rfl) (fun _ _ z => z.elim) fun _ _ z => z
  | ok fl =>
    have k5 : compPost (model X.prog X.w) X.A X.xe use Q acc be.locals (.ok .next) u5 := k5
    cases use with
    | none =>
      obtain ⟨m, hn, k6⟩ := k5
      exact wpAny_bind (wpAny_holding (wpAny_comp_letGo (cenv := ({ be with scope := relabel scope X.env } : Env)) h4 _ u5 m kinds hn fun g mm _ sb => wpAny_pure (k6 g sb)))
    | some put =>
      apply wpAny_bind
      apply wpAny_rule
      apply wpAny_bind
      refine wpAny_holding (nx k5 fun _ u6 k6 => ?_)
      obtain ⟨m, hn, k7⟩ := k6
      exact wpAny_bind (wpAny_comp_letGo (cenv := ({ be with scope := relabel scope X.env } : Env)) h4 _ u6 m kinds2 hn fun g mm _ sb => wpAny_pure (k7 g sb))
abbrev elX (X : Cx) (s : Shared) (H : Hp) (scope : Scope) (ce : Env) (fp : List Addr) (xe : Value → Shared → Prop) : Cx := { X.blk s H scope ce fp with xe := xe }
def tLcX (wi : TI) (gg : TG) (tt : TT) (te : WX → TE) (Wx : WX) (vs : List Nat) : TE := fun σ H Q => tLc wi gg tt (te fun cls d _ H' => Wx cls d σ H') vs σ H Q
def ElOk (X : Cx) (scope : Scope) (elt : Expr) (te : WX → TE) : Prop := ∀ (s : Shared) (H : Hp) (C : Addr) (cl : List (Str × Addr)) (fp : List Addr) (xe : Value → Shared → Prop) (W : WX),
  (∀ σ, PassesAt (L2N.CX X.prog X.w) (elX X s H scope (compEnvC scope cl C X.env) fp xe) σ (WE W σ)) → PE (elX X s H scope (compEnvC scope cl C X.env) fp xe) elt (te W)
theorem lcX_run {pins : List (Addr × Obj)} {s : Shared} {σ : L2.St} {H : Hp} {Q : VK} {elt tg iter : Expr} {ifs : List Expr} {scope : Scope} {own : List (Str × Nat)} {pos pos' : Pos} {wi : TI} {gg : TG} {tt : TT} {te : WX → TE} {use : Option (Value → Sem Unit)} {Qf : Value → Shared → Prop}
    (hst : X.stack = X.env :: X.outer) (hfr : X.env.frame = some X.env.locals) (tk : L2N.Takes X Wx) (calm : X.calm = true) (nd : X.N.Nodup) (I : Inv X pins σ H s) (hi : PI X tg iter wi) (ok : BlkOk X.N X.env.scope scope own)
    (hg : ∀ (s : Shared) (H : Hp) (C : Addr) (cl : List (Str × Addr)) (fp : List Addr), PG (X.blk s H scope (compEnvC scope cl C X.env) fp) tg gg)
    (ht : ∀ (s : Shared) (H : Hp) (C : Addr) (cl : List (Str × Addr)) (fp : List Addr), PTs (X.blk s H scope (compEnvC scope cl C X.env) fp) ifs tt)
    (he : ElOk X scope elt te) (fold : ∀ x, foldedSetIterable iter X.env x = pure x) (h : tLcX wi gg tt te Wx (own.map (·.2)) σ H Q)
    (fin : ∀ D C u m H', Inv X pins σ H' u → Q (.ref D) H' → u.heap.Ns C m → FpOk X pins H' C → compPost (model X.prog X.w) X.A X.xe use Qf (.ref D) C (.ok .next) u) :
    wpAny (model X.prog X.w) X.A (comprehension (.ListComp elt [⟨tg, iter, ifs, 0⟩] scope pos) scope X.env pos' (newList []) false (eval iter X.env) use) Qf X.xe s := by
  have cells : ∀ y ∈ scope.names, y.2 = .free → ∃ c, X.env.cells.lookup y.1 = some c := fun y hy e => I.ok.has _ (by
    rcases ok.free y hy e with k | k
    · exact .inl k
    · exact .inr k)
  refine comp_any rfl fold (closure_ok cells) ok.kind (fun y hy e => (ok.uniq y hy).trans (by rw [e])) ?_
  refine thn (hi.run pins s σ H _ I h) fun xv u1 k1 => thn k1 fun itv u2 ⟨it, fp, tn, J, H2, e, I2, T, stn, ff, q⟩ => ?_
  subst e
  refine wpAny_newObj_type (newEnv_comp ?_) (Nat.zero_le _)
  generalize hD : u2.heap.objs.size = D
  have freeD : H2 D = none := I2.hok.fresh (Nat.le_of_eq hD)
  obtain ⟨M, ⟨m0, begin0⟩, turn⟩ := q D freeD
  generalize hu3 : ({ u2 with heap := u2.heap.push { cls := .type "list", data := .seq ([] : List Value).toArray } } : Shared) = u3
  have hp3 : u3.heap = u2.heap.push { cls := .type "list", data := .seq ([] : List Value).toArray } := by rw [← hu3]
  have keep3 : ∀ b o, u2.heap.get? b = some o → u3.heap.get? b = some o := fun b o z => by
    rw [hp3]
    exact Heap.get?_push_of_some _ z
  have I3 : Inv X pins σ (upd H2 D (.lst [])) u3 := by
    rw [← hu3]
    refine I2.laid (t' := u2.toks) (fun b o z => Heap.get?_push_of_some _ z) (Nat.le_of_eq hD) ⟨Nat.zero_le _, [], 0, .nil, ?_⟩
    rw [← hD]
    exact Heap.get?_push_size _ rfl
  have old : ∀ b ∈ fp, b < u2.heap.objs.size := fun b hb => by
    obtain ⟨o, z, _⟩ := T.obj _ _ stn b hb
    exact Heap.lt_size z
  have fp3 : ∀ b ∈ fp, FpOk X pins (upd H2 D (.lst [])) b := fun b hb => by
    refine ⟨?_, (ff b hb).2⟩
    rw [upd_ne (fun z => absurd (old b hb) (by rw [z, ← hD]; exact Nat.lt_irrefl _))]
    exact (ff b hb).1
  have lt3 : ∀ b ∈ fp, b < u3.heap.objs.size := fun b hb => by
    rw [hp3, Heap.size_push]
    exact Nat.lt_succ_of_lt (old b hb)
  have I4 := block_start I3 ok nd fun b hb => ⟨fp3 b hb, lt3 b hb⟩
  generalize hcl : cellsFrom (u3.heap.objs.size + 1) scope.names (cloFrom X.env.cells scope.names []) = cl at I4
  generalize hH3 : upd H2 D (.lst []) = H3 at I3 I4 fp3 begin0
  have pg := hg u3 H3 u3.heap.objs.size cl fp
  have pt := ht u3 H3 u3.heap.objs.size cl fp
  have el := he u3 H3 u3.heap.objs.size cl fp
  show codeAny _ _ (.compStart (.ListComp elt [⟨tg, iter, ifs, 0⟩] scope pos) 0 (.ref it) (.ref D) (compEnvC scope cl u3.heap.objs.size X.env)) (blkEnd X use Qf (.ref D) u3.heap.objs.size X.env.frame) _
  generalize hce : compEnvC scope cl u3.heap.objs.size X.env = ce at I4 pg pt el ⊢
  have ceL : ce.locals = u3.heap.objs.size := by rw [← hce]; rfl
  have ceF : ce.frame = X.env.frame := by rw [← hce]; rfl
  generalize hu4 : ({ u3 with heap := pushCells (u3.heap.push { cls := .type "dict", data := .dict #[] }) scope.names } : Shared) = u4 at I4
  have st4 : tn 0 u4.heap := T.keep _ _ _ stn fun b _ o z => by
    rw [← hu4]
    exact pushCells_keeps _ _ _ _ (Heap.get?_push_of_some _ (keep3 b o z))
  -- what the element's exceptions do
  let R : Result → Shared → Prop := blkEnd X use Qf (.ref D) u3.heap.objs.size X.env.frame
  let nE : Value → Shared → Prop := notedBy (model X.prog X.w) X.A ce fun x u => R (.error x) u
  have pe := el nE (fun cls d _ H' => Wx cls d σ H') fun σb pb Hb u x u' Ib c => by
    have z := blk_exc (E := fun x u => R (.error x) u) hst hfr tk I3 fp3 ceL ceF Ib c
    rw [ceL, ceF] at z
    exact wpAny_mono z (fun _ _ y => y) fun x2 u2 y => y
  have okAt : ∀ {σ' : L2.St} {H' : Hp} {u : Shared}, Inv (X.blk u3 H3 scope ce fp) [] σ' H' u → (∀ b ∈ fp, H' b = none) → ∀ b ∈ fp, FpOk (X.blk u3 H3 scope ce fp) [] H' b := fun {σ' H' u} I' hn b hb =>
    ⟨hn b hb, (I'.ok.exf b hb).1, I'.ok.exfs b hb, .inl hb, fun x c z => (I'.ok.exf b hb).2 x c z, fun p hp => by simp at hp⟩
  have run : codeAny (model X.prog X.w) X.A (.compLoop (.ListComp elt [⟨tg, iter, ifs, 0⟩] scope pos) 0 (.ref it) (.ref D) ce) R u4 := by
    refine compLoop_any (fun left u => ∃ k Hk, Inv (X.blk u3 H3 scope ce fp) [] (wipe σ (own.map (·.2))) Hk u ∧ tn k u.heap ∧ (∀ b ∈ fp, Hk b = none) ∧ M k left Hk) ?_ m0 ⟨0, H3, I4, st4, fun b hb => (fp3 b hb).1, begin0⟩
    rintro left u5 ⟨k, Hk, Ik, stk, nk, mk⟩
    rcases turn k left Hk mk with ⟨stop, atEnd⟩ | ⟨go, Nx, again, step⟩
    · refine thnF (T.done (X.blk u3 H3 scope ce fp) rfl rfl rfl calm k [] u5 _ Hk (fun _ _ => False) Ik (okAt Ik nk) stk stop) fun r u6 ⟨hr, I6⟩ => ?_
      subst hr
      have I7 : Inv X pins σ Hk u6 := I3.call' (ch := fp) I6.os I6.base I6.hok I6.bare fun b hb => by
        obtain ⟨_, z1, _, z2, z3, z4⟩ := fp3 b hb
        exact ⟨z2, z1, z3, z4⟩
      have freeC : Hk u3.heap.objs.size = none := by
        have z : Hk ce.locals = none := I6.free
        exact ceL ▸ z
      obtain ⟨m, hn, _⟩ := I6.loc
      have hn : u6.heap.Ns u3.heap.objs.size m := by
        have z : u6.heap.Ns ce.locals m := hn
        exact ceL ▸ z
      exact fin D u3.heap.objs.size u6 m Hk I7 atEnd hn (I3.fpOk (Nat.le_refl _) freeC)
    · refine thnF (T.item (X.blk u3 H3 scope ce fp) rfl rfl rfl calm k [] u5 _ Hk (fun _ _ => False) Ik (okAt Ik nk) stk go) fun r u6 ⟨val, hr, k6⟩ => ?_
      subst hr
      refine thnF k6 fun _ u7 ⟨x, H7, I7, r7, y7, st7, n7⟩ => ?_
      have I7p := I7.pinned (okAt I7 n7) (T.obj _ _ st7)
      refine thnF (pg.run _ u7 _ H7 x val _ I7p r7 (step x H7 y7)) fun _ u8 ⟨σ8, H8, I8, same8, q8⟩ => ?_
      refine thnF (pt.run _ u8 σ8 H8 _ I8 q8) fun yes u9 ⟨H9, I9, q9⟩ => ?_
      have next : ∀ {u : Shared} {H' : Hp}, Inv (X.blk u3 H3 scope ce fp) ([] ++ pinsAt fp u7.heap) σ8 H' u → Nx H' → ∃ less, less < left ∧ ∃ k Hk, Inv (X.blk u3 H3 scope ce fp) [] (wipe σ (own.map (·.2))) Hk u ∧ tn k u.heap ∧ (∀ b ∈ fp, Hk b = none) ∧ M k less Hk := fun {u H'} I' nx => by
        obtain ⟨less, hl, z⟩ := again H' nx
        have there : ∀ b ∈ fp, ∀ o, u7.heap.get? b = some o → u.heap.get? b = some o ∧ H' b = none := fun b hb o e => by
          have y := I'.pin (b, o) (List.mem_append_right _ (List.mem_append_right _ (mem_pinsAt hb e)))
          exact ⟨y.1, y.2.1⟩
        refine ⟨less, hl, k + 1, H', Inv.weak (Inv.unpinned (pins := []) I') ?_ fun j v e => ?_, T.keep _ _ _ st7 fun b hb o e => (there b hb o e).1, fun b hb => ?_, z⟩
        · rw [← same8, wipe_length]
        · rw [← same8] at e
          exact (wipe_some e).1
        · obtain ⟨o, e, _⟩ := T.obj _ _ st7 b hb
          exact (there b hb o e).2
      cases yes with
      | false =>
        rw [if_neg Bool.false_ne_true] at q9 ⊢
        exact next I9 q9
      | true =>
        rw [if_pos rfl] at q9 ⊢
        have I9x : Inv (elX X u3 H3 scope ce fp nE) ([] ++ pinsAt fp u7.heap) σ8 H9 u9 := I9.wish nE
        refine wpAny_mono (pe.run _ u9 σ8 H9 _ I9x q9) (fun z u10 ⟨yv, H10, I10, r10, acc, d10, z10, nx⟩ => ?_) fun _ _ y => y
        have I10 : Inv (X.blk u3 H3 scope ce fp) ([] ++ pinsAt fp u7.heap) σ8 H10 u10 := Inv.unwish (X := X.blk u3 H3 scope ce fp) (E := nE) I10
        exact app_ok (X := X.blk u3 H3 scope ce fp) I10 d10 z10 r10 fun u11 I11 => next I11 nx
  exact codeAny_compStart_list run (T.self X.A 0 _ _ _ st4 run)
end
end Sim
end T_SimLx
section T_SimLy
set_option Elab.async false
set_option linter.all false
set_option maxRecDepth 100000
set_option maxHeartbeats 1000000
namespace Sim
open PySem PySem.Spec L2
open PyProof.Rows hiding St
def lcY (h : Dt → List Dt → O (List Dt)) (gt : List Dt → O Bool) (ge : Gd) (ρ : List Dt) : List Dt → O (List Dt)
  | [] => .ok []
  | d :: ds => match h d ρ with
    | .ok ρ' => (match gt ρ' with
      | .ok true => bnd (ge ρ') fun e => bnd (lcY h gt ge ρ ds) fun es => .ok (e :: es)
      | .ok false => lcY h gt ge ρ ds
      | _ => .bad)
    | _ => .bad
def gLcX (gi : List Dt → O (List Dt)) (h : Dt → List Dt → O (List Dt)) (gt : List Dt → O Bool) (ge : Gd) : Gd := fun ρ => bnd (gi ρ) fun ds => if ds.length ≤ 100000 then bnd (lcY h gt ge ρ ds) fun es => .ok (.list es) else .bad
def Left (tot : O (List Dt)) (es : List Dt) (o : O (List Dt)) : Prop := match tot with
  | .bad => False
  | .ex z => o = .ex z
  | .ok all => ∃ rest, o = .ok rest ∧ all = es ++ rest
theorem Left.bad {tot : O (List Dt)} {es : List Dt} (h : Left tot es .bad) : False := by
  unfold Left at h
  cases tot with
  | bad => exact h
  | ex z => cases h
  | ok all =>
    obtain ⟨r, e, _⟩ := h
    cases e
theorem Left.ex {tot : O (List Dt)} {es : List Dt} {z : Exn} (h : Left tot es (.ex z)) : tot = .ex z := by
  unfold Left at h
  cases tot with
  | bad => exact h.elim
  | ex y => cases h; rfl
  | ok all =>
    obtain ⟨r, e, _⟩ := h
    cases e
theorem Left.nil {tot : O (List Dt)} {es : List Dt} (h : Left tot es (.ok [])) : tot = .ok es := by
  unfold Left at h
  cases tot with
  | bad => exact h.elim
  | ex y => cases h
  | ok all =>
    obtain ⟨r, e, k⟩ := h
    cases e
    rw [k, List.append_nil]
theorem Left.cons {tot o : O (List Dt)} {es : List Dt} {e : Dt} (h : Left tot es (bnd o fun xs => .ok (e :: xs))) : Left tot (es ++ [e]) o := by
  unfold Left at h ⊢
  cases tot with
  | bad => exact h
  | ex y =>
    cases o with
    | bad => cases h
    | ex w => exact h
    | ok xs => cases h
  | ok all =>
    obtain ⟨r, e1, k⟩ := h
    cases o with
    | bad => cases e1
    | ex w => cases e1
    | ok xs =>
      cases e1
      exact ⟨xs, rfl, by rw [k]; simp⟩
theorem se_lcX {K : PySem.W.Frag} {mg : Str → Option Value} {Wx : WX} {Δ : List Kd} {wi : TI} {g : TG} {tt : TT} {te : WX → TE} {vs sl : List Nat} {b fr fr' : Bool} {gi : List Dt → O (List Dt)} {h : Dt → List Dt → O (List Dt)} {TK : Bool → List Kd → List Kd} {gt : List Dt → O Bool} {ge : Gd} {n : Nat}
    (hi : SI K (wtOf mg Wx) Δ wi b fr gi) (hg : GJ K n g sl h TK) (hn : Δ.length = n) (hsl : ∀ i ∈ sl, i ∈ vs) (no : noOwn Δ vs = true) (ht : ST K W0 (TK fr (wipeK Δ vs)) tt gt) (he : ∀ W : WX, SE K (wtOf mg W) (TK fr (wipeK Δ vs)) (te W) (.v true fr') ge) :
    SE K (wtOf mg Wx) Δ (tLcX wi g tt te Wx vs) (.new .l fr') (gLcX gi h gt ge) := fun f ρ σ H Q r q => by
  refine hi f ρ σ H _ r ?_
  unfold gLcX at q
  cases e1 : gi ρ with
  | bad => rw [e1] at q; exact q
  | ex z => rw [e1] at q; exact q
  | ok ds =>
    rw [e1, bnd_ok] at q
    by_cases hl : ds.length ≤ 100000
    · rw [if_pos hl] at q
      generalize etot : lcY h gt ge ρ ds = tot at q
      have ntot : tot ≠ .bad := fun z => by rw [z] at q; exact q.elim
      have left0 : Left tot [] (lcY h gt ge ρ ds) := by
        rw [etot]
        cases tot with
        | bad => exact ntot rfl
        | ex z => rfl
        | ok all => exact ⟨all, rfl, rfl⟩
      intro J H1 pf gv ge0 s1 hb hpf x1 sc D nD
      -- the frame within
      have r1 := (((r.mono s1).addP (o := .lst []) nD trivial).addG (fr := fr) (x1.mono (same_upd nD) fun a fa na => ⟨fun _ => ⟨(fa.1 rfl).1, fun z => by
        rcases List.mem_cons.mp z with e | h
        · exact na (e ▸ nD)
        · exact (fa.1 rfl).2 h⟩, fa.2⟩))
      generalize hf1 : ({ f.pn D with Γ := (gv, ge0, fr) :: f.Γ } : Fm) = f1 at r1
      have r1 : R K f1 Δ ρ σ (upd H1 D (.lst [])) := by rw [← hf1]; rw [← hf1] at r1; exact r1
      have dP : D ∈ f1.P := by rw [← hf1]; exact List.mem_cons_self
      have gG : (gv, ge0, fr) ∈ f1.Γ := by rw [← hf1]; exact List.mem_cons_self
      have h0 : f1.H0 D = none := by rw [← hf1]; exact ((r.mono s1).fresh nD).2.2
      have fmf : ∀ {fr : Bool} {a : Addr}, FM f1 Δ σ true fr a → FM f Δ σ true fr a ∧ a ≠ D := fun {fr a} y => by
        rw [← hf1] at y
        exact ⟨⟨fun e => ⟨(y.1 e).1, fun z => (y.1 e).2 (List.mem_cons_of_mem _ z)⟩, y.2⟩, fun z => (y.1 rfl).2 (z ▸ List.mem_cons_self)⟩
      have hDS : D ∉ f1.S := by
        rw [← hf1]
        exact fun z => ((r.mono s1).fresh nD).2.1 (f.hS D z)
      have noSl : ∀ i ∈ sl, ∀ c fr, (wipeK Δ vs)[i]? ≠ some (.own c fr) := fun i hi c fr e => by cases wipeK_in (hsl i hi) _ e
      refine ⟨fun i m H' => m = ds.length - i ∧ i ≤ ds.length ∧ ∃ acc es, H' D = some (.lst acc) ∧ R K f1 Δ ρ σ H' ∧ RpA K (FM f1 Δ σ true fr') H' acc es ∧ acc.length ≤ i ∧ Left tot es (lcY h gt ge ρ (ds.drop i)) ∧ Same H H' ∧ (∀ q, pf = some q → H' q.1 = some q.2),
        ⟨ds.length, by simp, Nat.zero_le _, [], [], upd_same, r1, .nil, Nat.le_refl _, left0, s1.trans (same_upd nD), fun q eq => same_upd nD _ _ (hpf q eq)⟩, ?_⟩
      rintro i m H2 ⟨rfl, hi2, acc, es, hD, r2, x2, la, er, sHH, hpf2⟩
      have stand : (∀ q, pf = some q → H2 q.1 = some q.2) ∧ ∃ F, RpA K F H2 gv ge0 := ⟨hpf2, _, r2.gh _ gG⟩
      by_cases hlt : i < ds.length
      · refine .inr ⟨sc.goes i H2 hlt stand, fun H' => i + 1 ≤ ds.length ∧ ∃ acc es, H' D = some (.lst acc) ∧ R K f1 Δ ρ σ H' ∧ RpA K (FM f1 Δ σ true fr') H' acc es ∧ acc.length ≤ i + 1 ∧ Left tot es (lcY h gt ge ρ (ds.drop (i + 1))) ∧ Same H H' ∧ (∀ q, pf = some q → H' q.1 = some q.2),
          fun H' w => ⟨ds.length - (i + 1), by omega, rfl, w⟩, fun x H3 hy => ?_⟩
        obtain ⟨s3, hx⟩ := sc.yields i H2 x H3 hlt stand hy
        obtain ⟨d, hd, x3⟩ := hx _ (r2.gh _ gG)
        have edrop : ds.drop i = d :: ds.drop (i + 1) := by
          have hd' := (List.getElem?_eq_some_iff.mp hd).2
          rw [List.drop_eq_getElem_cons hlt, hd']
        rw [edrop] at er
        unfold lcY at er
        cases eh : h d ρ with
        | bad => rw [eh] at er; exact er.bad.elim
        | ex z => rw [eh] at er; exact er.bad.elim
        | ok ρ' =>
          rw [eh] at er
          cases ec : gt ρ' with
          | bad => simp only [ec] at er; exact er.bad.elim
          | ex z => simp only [ec] at er; exact er.bad.elim
          | ok c =>
            simp only [ec] at er
            have r3 := r2.mono s3
            refine hg f1 (wipeK Δ vs) ρ (wipe σ vs) H3 x d fr _ (by rw [wipeK_len]; exact hn) (r3.wipe no) (x3.weak fun a y => (fm_wipe no).mpr y) ?_
            rw [eh]
            intro σ4 t4
            refine ⟨?_, ?_⟩
            · rw [wipe_eq (σ' := σ4) (σ := wipe σ vs) (by rw [t4.r.lσ, t4.len, wipeK_len, wipe_length, r.lσ]) fun i hi => (t4.keep i fun z => hi (hsl i z)).2]
              exact wipe_eq (wipe_length σ vs) fun i hi => wipe_out hi
            · refine ht f1 ρ' σ4 H3 _ t4.r ?_
              rw [ec]
              intro H4 s4
              cases c with
              | false =>
                show (if false = true then _ else _)
                rw [if_neg Bool.false_ne_true]
                have s24 := s3.trans s4
                exact ⟨hlt, acc, es, s24 _ _ hD, r2.mono s24, x2.same s24, by omega, er, sHH.trans s24, fun q eq => s24 _ _ (hpf2 q eq)⟩
              | true =>
                show (if true = true then _ else _)
                rw [if_pos rfl]
                refine he (fun cls d _ H' => Wx cls d σ H') f1 ρ' σ4 H4 _ (t4.r.mono s4) ?_
                have s24 := s3.trans s4
                cases ee : ge ρ' with
                | bad => simp only [ee] at er; exact er.bad.elim
                | ex z =>
                  simp only [ee] at er
                  have et := Left.ex er
                  rw [et] at q
                  exact fun H5 s5 => q H5 ((sHH.trans s24).trans s5)
                | ok e =>
                  simp only [ee, bnd_ok] at er
                  intro y H5 s5 x5
                  have s25 := s24.trans s5
                  have hD5 := s25 _ _ hD
                  refine ⟨acc, hD5, Nat.lt_of_lt_of_le (show acc.length < 100001 by omega) (by decide), hlt, acc ++ [y], es ++ [e], upd_same, (r2.mono s25).updAt hD5 trivial trivial h0 (fun z => ((r2.pin D dP).2 z)) dP (fun _ _ _ => hDS), ?_, by rw [List.length_append, List.length_singleton]; omega, er.cons, ?_, fun q eq => ?_⟩
                  · refine ((x2.same s25).updM hD5 trivial fun a y z => (y.1 rfl).2 (z ▸ dP)).append (.cons ?_ .nil)
                    refine Rp.updM hD5 trivial (fun a y z => (y.1 rfl).2 (z ▸ dP)) (x5.weak fun a y => (fm_wipe no).mp (t4.fm' noSl y))
                  · intro a o ha
                    have na : a ≠ D := fun z => by
                      have z1 := s1 _ _ ha
                      rw [z, nD] at z1
                      cases z1
                    rw [upd_ne na]
                    exact s25 _ _ (sHH _ _ ha)
                  · have nq : q.1 ≠ D := fun z => by
                      have z1 := hpf q eq
                      rw [z, nD] at z1
                      cases z1
                    rw [upd_ne nq]
                    exact s25 _ _ (hpf2 q eq)
      · have ei : i = ds.length := by omega
        subst ei
        refine .inl ⟨sc.stops H2 stand, ?_⟩
        rw [List.drop_length] at er
        have et := Left.nil er
        rw [et] at q
        exact q D H2 (s1.free nD) sHH ⟨acc, _, rfl, hD, x2.weak fun a y => fmf y⟩
    · rw [if_neg hl] at q
      exact q.elim
section
variable {X : Cx} {K : PySem.W.Frag} {Δ Δb Δc : List Kd} {L : Lk} {e elt tg iter : Expr} {es ifs : List Expr} {tt : TT} {tA : TA} {ge : Gd} {gt : List Dt → O Bool} {gA gI : List Dt → O (List Dt)} {av fr fr' : Bool} {pos p pos' : Pos} {mg : Str → Option Value} {Wx : WX}
theorem x_callXC {x : Str} {kk nn : Nat} {fa : Addr} {fd : FuncData} {ps : List Str} {gg : List Dt → O Dt} (pass : ∀ σ, PassesAt (L2N.CX X.prog X.w) X σ (WE Wx σ)) (F : FnOk X.prog X.w X.K X.mg X.base (L2N.CX X.prog X.w) kk fa fd ps (spG K mg nn gg)) (hr : Room kk X.A) (hm : X.mg x = some (.ref fa)) (hk : PySem.W.keepIn X.K (.ref fa) = true) (hb : Binds X.K fd ps [])
    (h : AD X K (wtOf mg Wx) Δ (e :: es) tA av fr gA) (hg : Gl X x := by rfl) (hdb : (x == ("__debug__" : Str)) = false := by decide) (he : starEach (e :: es) X.env = (false, eval e X.env) :: starEach es X.env := by rfl) (hpl : (backTo pos (starEach es X.env)).any (·.1) = false := by rfl) :
    PD X K (wtOf mg Wx) Δ (.Call (.Name x p) (e :: es) [] pos) (tCallS (spG K mg nn gg) (WE Wx) tA) (.v true true) (gCallX nn gg gA) := ⟨pe_callS F hr hg hm hk hb pass h.pa hdb he hpl, h.hK, se_callXN h.sa⟩
def EY (X : Cx) (K : PySem.W.Frag) (mg : Str → Option Value) (scope : Scope) (Δ : List Kd) (elt : Expr) (te : WX → TE) (fr : Bool) (ge : Gd) : Prop := ∀ (s : Shared) (H : Hp) (C : Addr) (cl : List (Str × Addr)) (fp : List Addr) (xe : Value → Shared → Prop) (W : WX),
  (∀ σ, PassesAt (L2N.CX X.prog X.w) (elX X s H scope (compEnvC scope cl C X.env) fp xe) σ (WE W σ)) → PD (elX X s H scope (compEnvC scope cl C X.env) fp xe) K (wtOf mg W) Δ elt (te W) (.v true fr) ge
theorem EY.el {scope : Scope} {te : WX → TE} {fr : Bool} (h : EY X K mg scope Δ elt te fr ge) : ElOk X scope elt te := fun s H C cl fp xe W hp => (h s H C cl fp xe W hp).pe
theorem EY.se {scope : Scope} {te : WX → TE} {fr : Bool} (h : EY X K mg scope Δ elt te fr ge) (W : WX) : SE K (wtOf mg W) Δ (te W) (.v true fr) ge := (h X.s_0 X.H_0 0 [] [] (fun _ _ => True) W (fun _ _ _ _ _ _ _ _ => trivial)).se
theorem ps_setLcX {i : Nat} {y : Str} {py : Pos} {scope : Scope} {own : List (Str × Nat)} {wi : TI} {g : TG} {te : WX → TE} (hst : X.stack = X.env :: X.outer) (hfr : X.env.frame = some X.env.locals) (tk : L2N.Takes X Wx) (hc : X.calm = true) (hN : X.N.Nodup) (hy : X.N[i]? = some y) (hyl : X.env.scope.names.lookup y = some .local)
    (hsw : swapsWith (.ListComp elt [⟨tg, iter, ifs, 0⟩] scope pos) (some (.Name y py)) pos'.line X.env = pure true) (hi : PI X tg iter wi) (ok : BlkOk X.N X.env.scope scope own)
    (hg : ∀ (s : Shared) (H : Hp) (C : Addr) (cl : List (Str × Addr)) (fp : List Addr), PG (X.blk s H scope (compEnvC scope cl C X.env) fp) tg g) (ht : ∀ (s : Shared) (H : Hp) (C : Addr) (cl : List (Str × Addr)) (fp : List Addr), PTs (X.blk s H scope (compEnvC scope cl C X.env) fp) ifs tt)
    (he : ElOk X scope elt te) (fold : ∀ x, foldedSetIterable iter X.env x = pure x) :
    PS X (.Assign [.Name y py] (.ListComp elt [⟨tg, iter, ifs, 0⟩] scope pos) pos') (tAsg (tLcX wi g tt te Wx (own.map (·.2))) (gName i)) := by
  refine ⟨fun pins s σ H D I h => ?_⟩
  rw [exec_Assign_Name_used _ _ _ _ hsw]
  apply wpAny_bind
  apply wpAny_standAt
  apply wpAny_bind
  have store : ∀ D' C u m H', Inv X pins σ H' u → D.nx (σ.set i (some (.ref D'))) H' → u.heap.Ns C m → FpOk X pins H' C → compPost (model X.prog X.w) X.A X.xe (some (assign (.Name y py) X.env)) (fun _ u' => SP X pins D .next u') (.ref D') C (.ok .next) u := fun D' C u m H' I' q hn f => by
    show wpAny _ _ (assign (.Name y py) X.env (.ref D')) _ _ _
    refine wpAny_assign_Name (store_ok2 (v := V.ref D') I' hN hy (.inl hyl) rfl (fun u2 I2 ⟨b, sb, hb⟩ => ?_) (.inr hyl))
    obtain ⟨f0, f1, _, f3, f4, f5⟩ := f
    have nb : C ≠ b := by
      rcases hb with z | z
      · exact z ▸ f1
      · exact fun e => f4 y b z e.symm
    exact ⟨m, hn.sameBut sb nb, fun g3 sb3 => ⟨_, H', I2.turned (t' := u2.toks) (fun c o hb e => (sb3.2 c hb).trans e) f0 f1 f3 f4 f5, q⟩⟩
  refine wpAny_bind (thn (lcX_run (use := some (assign (.Name y py) X.env)) (Qf := fun _ u' => SP X pins D .next u') hst hfr tk hc hN I hi ok hg ht he fold h store) fun _ u' hq => ?_)
  exact wpAny_pure (wpAny_pure hq)
theorem z_setLcX (i : Nat) {y : Str} {py : Pos} {n : Nat} {scope : Scope} (own : List (Str × Nat)) {wi : TI} {gg : TG} {sl : List Nat} {hh : Dt → List Dt → O (List Dt)} {TK : Bool → List Kd → List Kd} {bb : Bool} {te : WX → TE} (tk : L2N.Takes X Wx) (hN : X.N.Nodup) (hi : ID X K (wtOf mg Wx) Δ tg iter wi bb fr gI) (ok : blkC X.N X.env.scope scope own = true)
    (hg : ∀ (s : Shared) (H : Hp) (C : Addr) (cl : List (Str × Addr)) (fp : List Addr), GD (X.blk s H scope (compEnvC scope cl C X.env) fp) K n tg gg sl hh TK)
    (ht : ∀ (s : Shared) (H : Hp) (C : Addr) (cl : List (Str × Addr)) (fp : List Addr), TsD (X.blk s H scope (compEnvC scope cl C X.env) fp) K (TK fr (wipeK Δ (own.map (·.2)))) ifs tt gt)
    (he : EY X K mg scope (TK fr (wipeK Δ (own.map (·.2)))) elt te fr' ge)
    (hsw : swapsWith (.ListComp elt [⟨tg, iter, ifs, 0⟩] scope pos) (some (.Name y py)) pos'.line X.env = pure true) (hin : i < Δ.length := by decide) (hy : X.N[i]? = some y := by rfl) (hyl : X.env.scope.names.lookup y = some .local := by rfl)
    (hst : X.stack = X.env :: X.outer := by rfl) (hfr : X.env.frame = some X.env.locals := by rfl)
    (hn : Δ.length = n := by rfl) (hsl : ∀ i ∈ sl, i ∈ own.map (·.2) := by decide) (no : noOwn Δ (own.map (·.2)) = true := by rfl) (hc : X.calm = true := by rfl) (hs : ∀ x, foldedSetIterable iter X.env x = pure x := by intro _; rfl) :
    SD X K (wtOf mg Wx) L Δ (Δ.set i (.own .l fr')) Δb Δc (.Assign [.Name y py] (.ListComp elt [⟨tg, iter, ifs, 0⟩] scope pos) pos') (tAsg (tLcX wi gg tt te Wx (own.map (·.2))) (gName i)) (gSet i (gLcX gI hh gt ge)) :=
  ⟨ps_setLcX hst hfr tk hc hN hy hyl hsw hi.pi (blkOk_by ok) (fun s H C cl fp => (hg s H C cl fp).pg) (fun s H C cl fp => (ht s H C cl fp).pts) he.el hs, hi.hK,
    s_setO hin (se_lcX hi.si (hg X.s_0 X.H_0 0 [] []).gj hn hsl no (ht X.s_0 X.H_0 0 [] []).st he.se)⟩
end
end Sim
end T_SimLy
section T_SimTx
set_option Elab.async false
set_option linter.all false
set_option maxRecDepth 100000
namespace Sim
open PySem PySem.Spec L2
open PyProof.Rows hiding St
def hAddS : Dt → Dt → O Dt := fun d e => match d, e with
  | .str a, .str b => if a.length + b.length ≤ 100000 then .ok (.str (a ++ b)) else .bad
  | _, _ => .bad
def inS (i j : Str) : Bool := !(Builtin.Str.occurrences j i 0 j.length 1).isEmpty
def hNotInS : Dt → Dt → O Dt := fun d e => match d, e with
  | .str a, .str b => .ok (.bool (!inS a b))
  | _, _ => .bad
def hIntS : List Dt → O Dt := fun ds => match ds with
  | [.str a] => (match PySem.intText? a with
    | some n => if a.length ≤ 640 then .ok (.int n) else .bad
    | none => .bad)
  | _ => .bad
def rAddS : R2 := fun x y H Q => ∃ i j, x = .str i ∧ y = .str j ∧ i.length + j.length ≤ sizeLine ∧ Q (.str (i ++ j)) H
def rNotInS : R2 := fun x y H Q => ∃ i j, x = .str i ∧ y = .str j ∧ Q (.bl (!(!(Builtin.Str.occurrences j i 0 j.length 1).isEmpty))) H
def rIntS : List V → Hp → VK → Prop := fun xs H Q => ∃ a n, xs = [.str a] ∧ PySem.intText? a = some n ∧ a.length ≤ 640 ∧ Q (.int n) H
section
variable {X : Cx} {K : PySem.W.Frag} {W : Wt} {Δ : List Kd} {a b e : Expr} {es : List Expr} {ta tb : TE} {ga gb : Gd} {tA : TA} {gA : List Dt → O (List Dt)} {av fr av' fr' : Bool} {pos : Pos}
theorem scl_addS : Scl2 hAddS := fun d e => by
  unfold hAddS
  split
  · split
    · exact .inl ⟨_, rfl, rfl⟩
    · exact .inr rfl
  · exact .inr rfl
theorem osc_addS : OSc K rAddS hAddS := fun H x y d e Q hx hy h => by
  unfold hAddS at h
  split at h
  · rename_i z ez
    split at ez
    · split at ez
      · rename_i hl
        cases ez
        cases hx
        cases hy
        exact ⟨_, _, rfl, rfl, sz_le hl, h.2 _ (.str _)⟩
      · cases ez
    · cases ez
  · exact h.elim
theorem scl_notInS : Scl2 hNotInS := fun d e => by
  unfold hNotInS
  split
  · exact .inl ⟨_, rfl, rfl⟩
  · exact .inr rfl
theorem osc_notInS : OSc K rNotInS hNotInS := fun H x y d e Q hx hy h => by
  unfold hNotInS at h
  split at h
  · rename_i z ez
    split at ez
    · cases ez
      cases hx
      cases hy
      exact ⟨_, _, rfl, rfl, h.2 _ (.bl _)⟩
    · cases ez
  · exact h.elim
theorem or_notInS : OR X K .NotIn rNotInS hNotInS := ⟨op_notin_str, scl_notInS, osc_notInS⟩
theorem x_addS (ha : PD X K W Δ a ta (.v av fr) ga) (hb : PD X K W Δ b tb (.v av' fr') gb) : PD X K W Δ (.BinOp a .Add b pos) (tOp rAddS ta tb) (.v true true) (gOp hAddS ga gb) :=
  ⟨pe_op op_add_str ha.pe hb.pe, ha.hK, se_op scl_addS osc_addS ha.se hb.se⟩
theorem scl_intS : SclA hIntS := fun ds => by
  unfold hIntS
  split
  · split
    · split
      · exact .inl ⟨_, rfl, rfl⟩
      · exact .inr rfl
    · exact .inr rfl
  · exact .inr rfl
theorem csc_intS : CSc K rIntS hIntS := fun H xs ds Q hx h => by
  unfold hIntS at h
  split at h
  · rename_i z ez
    split at ez
    · split at ez
      · rename_i n hn
        split at ez
        · rename_i hl
          cases ez
          cases hx with
          | cons h1 h2 =>
            cases h2
            cases h1
            exact ⟨_, n, rfl, hn, hl, h.2 _ (.int _)⟩
        · cases ez
      · cases ez
    · cases ez
  · exact h.elim
theorem x_intS {x : Str} {p : Pos} (hm : X.mg x = none) (h : AD X K W Δ (e :: es) tA av fr gA) (hv : bootBuiltins x = some (.type "int") := by decide +kernel) (hg : Gl X x := by rfl) (hn : x ≠ "__name__" := by decide) (hdb : (x == ("__debug__" : Str)) = false := by decide)
    (he : starEach (e :: es) X.env = (false, eval e X.env) :: starEach es X.env := by rfl) (hpl : (backTo pos (starEach es X.env)).any (·.1) = false := by rfl) :
    PD X K W Δ (.Call (.Name x p) (e :: es) [] pos) (tCB rIntS tA) (.v true true) (gCB hIntS gA) :=
  ⟨pe_callTy call_int_str hg hm hv h.pa hn hdb he hpl, h.hK, se_cb scl_intS csc_intS h.sa⟩
end
end Sim
end T_SimTx
section T_SimTy
set_option Elab.async false
set_option linter.all false
set_option maxRecDepth 100000
namespace Sim
open PySem PySem.Spec L2
open PyProof.Rows hiding St
def gM1 (h : Str → Dt → O Dt) (ga gb : Gd) : Gd := fun ρ => bnd (ga ρ) fun d => match d with
  | .str a => bnd (gb ρ) fun e => h a e
  | _ => .bad
def hPart (a : Str) : Dt → O Dt := fun e => match e with
  | .str b => if (b.length == 0) = false ∧ a.length ≤ 100000 then .ok (.tuple [.str (Txt.partition a b).1, .str (Txt.partition a b).2.1, .str (Txt.partition a b).2.2]) else .bad
  | _ => .bad
def hSplit (a : Str) : Dt → O Dt := fun e => match e with
  | .str b => if (b.length == 0) = false ∧ a.length ≤ 100000 then .ok (.list ((Txt.split a b).map .str)) else .bad
  | _ => .bad
def strsD : List Dt → Option (List Str)
  | [] => some []
  | .str a :: ds => (strsD ds).map (a :: ·)
  | _ :: _ => none
theorem strsD_map : ∀ ys : List Str, strsD (ys.map .str) = some ys
  | [] => rfl
  | y :: ys => by
    show (strsD (ys.map .str)).map (y :: ·) = _
    rw [strsD_map ys]
    rfl
theorem strsD_eq : ∀ {ds : List Dt} {ys : List Str}, strsD ds = some ys → ds = ys.map .str
  | [], _, h => by cases h; rfl
  | d :: ds, ys, h => by
    cases d with
    | str a =>
      simp only [strsD] at h
      cases e : strsD ds with
      | none => rw [e] at h; cases h
      | some zs =>
        rw [e] at h
        cases h
        rw [strsD_eq e]
        rfl
    | _ => simp [strsD] at h
def hJoin (a : Str) : Dt → O Dt := fun e => match e with
  | .list ds => (match strsD ds with
    | some ys => if (ys.map (·.length)).sum + ys.length * a.length ≤ 16777216 then .ok (.str (Txt.join a ys)) else .bad
    | none => .bad)
  | _ => .bad
theorem rpA_strs {K : PySem.W.Frag} {F : Addr → Prop} {H : Hp} : ∀ ys : List Str, RpA K F H (ys.map V.str) (ys.map PyData.str)
  | [] => .nil
  | _ :: ys => .cons (.str _) (rpA_strs ys)
theorem rpA_strs_eq {K : PySem.W.Frag} {F : Addr → Prop} {H : Hp} : ∀ {ys : List Str} {vs : List V}, RpA K F H vs (ys.map PyData.str) → vs = ys.map V.str
  | [], _, h => by cases h; rfl
  | y :: ys, _, h => by
    cases h with
    | cons h1 h2 =>
      cases h1
      rw [rpA_strs_eq h2]
      rfl
def rPart : V → List V → Hp → VK → Prop := fun x xs H Q => ∃ a b, x = .str a ∧ xs = [.str b] ∧ (b.length == 0) = false ∧ a.length ≤ sizeLine ∧
      ∀ p, H p = none → Q (.ref p) (upd H p (.tup [.str (Txt.partition a b).1, .str (Txt.partition a b).2.1, .str (Txt.partition a b).2.2]))
def rSplit : V → List V → Hp → VK → Prop := fun x xs H Q => ∃ a b, x = .str a ∧ xs = [.str b] ∧ (b.length == 0) = false ∧ a.length + 2 ≤ sizeLine ∧ rNewStrs (Txt.split a b) H Q
def rJoin (K : PySem.W.Frag) : V → List V → Hp → VK → Prop := fun x xs H Q => ∃ a p, ∃ ys : List Str, x = .str a ∧ xs = [.ref p] ∧ (SqL K H p (ys.map V.str) ∨ SqT K H p (ys.map V.str)) ∧
      (ys.map (·.length)).sum + ys.length * a.length ≤ 16777216 ∧ Q (.str (Txt.join a ys)) H
theorem sz2 {n : Nat} (h : n ≤ 100000) : n + 2 ≤ sizeLine := Nat.le_trans (Nat.add_le_add_right h 2) (by rw [sizeLine_eq]; decide)
section
variable {X : Cx} {K : PySem.W.Frag} {W : Wt} {Δ : List Kd} {a b : Expr} {ta tb : TE} {ga gb : Gd} {av fr av' fr' : Bool} {pos apos : Pos}
theorem se_part (ha : SE K W Δ ta (.v av fr) ga) (hb : SE K W Δ tb (.v av' fr') gb) : SE K W Δ (tM1 rPart ta tb) (.v true true) (gM1 hPart ga gb) := fun f ρ σ H Q R q => by
  refine ha f ρ σ H _ R ?_
  unfold gM1 at q
  cases e1 : ga ρ with
  | bad => rw [e1] at q; exact q
  | ex z => rw [e1] at q; exact q
  | ok d =>
    rw [e1, bnd_ok] at q
    intro v H1 s1 x1
    cases d with
    | str x =>
      cases x1
      refine ⟨⟨_, rfl⟩, hb f ρ σ H1 _ (R.mono s1) ?_⟩
      simp only at q
      cases e2 : gb ρ with
      | bad => rw [e2] at q; exact q
      | ex z => rw [e2] at q; exact fun H' s => q H' (s1.trans s)
      | ok d2 =>
        rw [e2, bnd_ok] at q
        intro v2 H2 s2 x2
        cases d2 with
        | str y =>
          cases x2
          unfold hPart at q
          simp only at q
          by_cases hl : (y.length == 0) = false ∧ x.length ≤ 100000
          · rw [if_pos hl] at q
            refine ⟨x, y, rfl, rfl, hl.1, sz_le hl.2, fun p np => ?_⟩
            exact q _ _ ((s1.trans s2).trans (same_upd np)) (.tup (.inl (.inl upd_same)) (.cons (.str _) (.cons (.str _) (.cons (.str _) .nil))))
          · rw [if_neg hl] at q
            exact q.elim
        | _ => exact q.elim
    | _ => exact q.elim
theorem se_split (ha : SE K W Δ ta (.v av fr) ga) (hb : SE K W Δ tb (.v av' fr') gb) : SE K W Δ (tM1 rSplit ta tb) (.new .l true) (gM1 hSplit ga gb) := fun f ρ σ H Q R q => by
  refine ha f ρ σ H _ R ?_
  unfold gM1 at q
  cases e1 : ga ρ with
  | bad => rw [e1] at q; exact q
  | ex z => rw [e1] at q; exact q
  | ok d =>
    rw [e1, bnd_ok] at q
    intro v H1 s1 x1
    cases d with
    | str x =>
      cases x1
      refine ⟨⟨_, rfl⟩, hb f ρ σ H1 _ (R.mono s1) ?_⟩
      simp only at q
      cases e2 : gb ρ with
      | bad => rw [e2] at q; exact q
      | ex z => rw [e2] at q; exact fun H' s => q H' (s1.trans s)
      | ok d2 =>
        rw [e2, bnd_ok] at q
        intro v2 H2 s2 x2
        cases d2 with
        | str y =>
          cases x2
          unfold hSplit at q
          simp only at q
          by_cases hl : (y.length == 0) = false ∧ x.length ≤ 100000
          · rw [if_pos hl] at q
            refine ⟨x, y, rfl, rfl, hl.1, sz2 hl.2, fun p np => ?_⟩
            exact q p _ ((s1.trans s2).free np) ((s1.trans s2).trans (same_upd np)) ⟨_, _, rfl, upd_same, rpA_strs _⟩
          · rw [if_neg hl] at q
            exact q.elim
        | _ => exact q.elim
    | _ => exact q.elim
theorem se_join (ha : SE K W Δ ta (.v av fr) ga) (hb : SE K W Δ tb (.v true fr') gb) : SE K W Δ (tM1 (rJoin K) ta tb) (.v true true) (gM1 hJoin ga gb) := fun f ρ σ H Q R q => by
  refine ha f ρ σ H _ R ?_
  unfold gM1 at q
  cases e1 : ga ρ with
  | bad => rw [e1] at q; exact q
  | ex z => rw [e1] at q; exact q
  | ok d =>
    rw [e1, bnd_ok] at q
    intro v H1 s1 x1
    cases d with
    | str x =>
      cases x1
      refine ⟨⟨_, rfl⟩, hb f ρ σ H1 _ (R.mono s1) ?_⟩
      simp only at q
      cases e2 : gb ρ with
      | bad => rw [e2] at q; exact q
      | ex z => rw [e2] at q; exact fun H' s => q H' (s1.trans s)
      | ok d2 =>
        rw [e2, bnd_ok] at q
        intro v2 H2 s2 x2
        cases d2 with
        | list ds =>
          unfold hJoin at q
          simp only at q
          cases e3 : strsD ds with
          | none => rw [e3] at q; exact q.elim
          | some ys =>
            rw [e3] at q
            simp only at q
            by_cases hl : (ys.map (·.length)).sum + ys.length * x.length ≤ 16777216
            · rw [if_pos hl] at q
              obtain ⟨p, vs, rfl, hs, r⟩ := x2.sql
              rw [strsD_eq e3] at r
              have ev := rpA_strs_eq r
              subst ev
              exact ⟨x, p, ys, rfl, rfl, .inl hs, hl, q _ _ (s1.trans s2) (.str _)⟩
            · rw [if_neg hl] at q
              exact q.elim
        | _ => exact q.elim
    | _ => exact q.elim
theorem x_part (ha : PD X K W Δ a ta (.v av fr) ga) (hb : PD X K W Δ b tb (.v av' fr') gb) (hs : starEach [b] X.env = [(false, eval b X.env)] := by rfl) (hbase : attributeBase a "partition" X.env (eval a X.env) = eval a X.env := by rfl) (hline : (apos.endLine == pos.line) = true := by rfl) :
    PD X K W Δ (.Call (.Attribute a "partition" apos) [b] [] pos) (tM1 rPart ta tb) (.v true true) (gM1 hPart ga gb) := ⟨pe_partition ha.pe hb.pe hs hbase hline, ha.hK, se_part ha.se hb.se⟩
theorem x_split (ha : PD X K W Δ a ta (.v av fr) ga) (hb : PD X K W Δ b tb (.v av' fr') gb) (hs : starEach [b] X.env = [(false, eval b X.env)] := by rfl) (hbase : attributeBase a "split" X.env (eval a X.env) = eval a X.env := by rfl) (hline : (apos.endLine == pos.line) = true := by rfl) :
    PD X K W Δ (.Call (.Attribute a "split" apos) [b] [] pos) (tM1 rSplit ta tb) (.new .l true) (gM1 hSplit ga gb) := ⟨pe_split ha.pe hb.pe hs hbase hline, ha.hK, se_split ha.se hb.se⟩
theorem x_join (ha : PD X K W Δ a ta (.v av fr) ga) (hb : PD X K W Δ b tb (.v true fr') gb) (hs : starEach [b] X.env = [(false, eval b X.env)] := by rfl) (hbase : attributeBase a "join" X.env (eval a X.env) = eval a X.env := by rfl) (hline : (apos.endLine == pos.line) = true := by rfl) :
    PD X K W Δ (.Call (.Attribute a "join" apos) [b] [] pos) (tM1 (rJoin K) ta tb) (.v true true) (gM1 hJoin ga gb) := ⟨by have q := pe_join (X := X) ha.pe hb.pe hs hbase hline; rw [ha.hK] at q; exact q, ha.hK, se_join ha.se hb.se⟩
end
end Sim
end T_SimTy
section T_SimTz
set_option Elab.async false
set_option linter.all false
set_option maxRecDepth 100000
namespace Sim
open PySem PySem.Spec L2
open PyProof.Rows hiding St
def signs (x : Str) : List Dt := x.cps.toList.map fun c => .str ⟨#[c]⟩
def gSigns (g : Gd) : List Dt → O (List Dt) := fun ρ => bnd (g ρ) fun d => match d with
  | .str x => .ok (signs x)
  | _ => .bad
def hStrI : List Dt → O Dt := fun ds => match ds with
  | [.int i] => if i.natAbs.log2 < 1920 then .ok (.str (toString i)) else .bad
  | _ => .bad
def rStrI : List V → Hp → VK → Prop := fun xs H Q => ∃ i, xs = [.int i] ∧ i.natAbs.log2 < 1920 ∧ Q (.str (toString i)) H
section
variable {X : Cx} {K : PySem.W.Frag} {W : Wt} {Δ : List Kd} {tg e : Expr} {es : List Expr} {te : TE} {g : Gd} {tA : TA} {gA : List Dt → O (List Dt)} {av fr : Bool} {pos : Pos}
theorem sc_str {x : Str} : Sc K (Its x) none [] [] (signs x) where
  goes := fun i H hi' _ => by
    unfold signs at hi'
    rw [List.length_map] at hi'
    exact hi'
  stops := fun H _ => by
    unfold signs
    rw [List.length_map]
    exact Nat.le_refl _
  yields := fun i H y H' hi' _ z => by
    obtain ⟨e, c, hc, hy⟩ := z
    subst e hy
    refine ⟨Same.refl _, fun F r => ⟨_, ?_, .str _⟩⟩
    unfold signs
    rw [List.getElem?_map, Array.getElem?_toList, hc]
    rfl
theorem si_str (h : SE K W Δ te (.v av fr) g) : SI K W Δ (iStr te) false true (gSigns g) := fun f ρ σ H Rk R q => by
  refine h f ρ σ H _ R ?_
  unfold gSigns at q
  cases e1 : g ρ with
  | bad => rw [e1] at q; exact q
  | ex z => rw [e1] at q; exact q
  | ok d =>
    rw [e1, bnd_ok] at q
    intro v H1 s1 x1
    cases d with
    | str x =>
      cases x1
      exact ⟨x, rfl, q _ H1 none [] [] s1 (fun _ => rfl) (fun _ e => nomatch e) .nil sc_str⟩
    | _ => exact q.elim
theorem i_str (h : PD X K W Δ e te (.v av fr) g) : ID X K W Δ tg e (iStr te) false true (gSigns g) := ⟨pi_str h.pe, h.hK, si_str h.se⟩
theorem scl_strI : SclA hStrI := fun ds => by
  unfold hStrI
  split
  · split
    · exact .inl ⟨_, rfl, rfl⟩
    · exact .inr rfl
  · exact .inr rfl
theorem csc_strI : CSc K rStrI hStrI := fun H xs ds Q hx h => by
  unfold hStrI at h
  split at h
  · rename_i z ez
    split at ez
    · split at ez
      · rename_i hl
        cases ez
        cases hx with
        | cons h1 h2 =>
          cases h2
          cases h1
          exact ⟨_, rfl, hl, h.2 _ (.str _)⟩
      · cases ez
    · cases ez
  · exact h.elim
theorem x_strI {x : Str} {p : Pos} (hm : X.mg x = none) (h : AD X K W Δ (e :: es) tA av fr gA) (hv : bootBuiltins x = some (.type "str") := by decide +kernel) (hg : Gl X x := by rfl) (hn : x ≠ "__name__" := by decide) (hdb : (x == ("__debug__" : Str)) = false := by decide)
    (he : starEach (e :: es) X.env = (false, eval e X.env) :: starEach es X.env := by rfl) (hpl : (backTo pos (starEach es X.env)).any (·.1) = false := by rfl) :
    PD X K W Δ (.Call (.Name x p) (e :: es) [] pos) (tCB rStrI tA) (.v true true) (gCB hStrI gA) :=
  ⟨pe_callTy call_str_int hg hm hv h.pa hn hdb he hpl, h.hK, se_cb scl_strI csc_strI h.sa⟩
end
end Sim
end T_SimTz
section T_SimTl
set_option Elab.async false
set_option linter.all false
set_option maxRecDepth 100000
namespace Sim
open PySem PySem.Spec L2
open PyProof.Rows hiding St
section
variable {X : Cx} {K : PySem.W.Frag} {W : Wt} {Δ : List Kd} {e : Expr} {te : TE} {g : Gd} {av fr : Bool} {pos p2 : Pos}
end
end Sim
end T_SimTl
section T_SimTm
set_option Elab.async false
set_option linter.all false
set_option maxRecDepth 100000
namespace Sim
open PySem PySem.Spec L2
open PyProof.Rows hiding St
instance decMulOk (x : Str) (n : Int) : Decidable (MulOk x n) := by
  unfold MulOk
  infer_instance
section
variable {X : Cx} {K : PySem.W.Frag} {W : Wt} {Δ : List Kd} {a b : Expr} {ta tb : TE} {ga gb : Gd} {av fr av' fr' : Bool} {pos : Pos}
end
end Sim
end T_SimTm
section T_SimXC
set_option Elab.async false
set_option linter.all false
set_option maxRecDepth 100000
namespace Sim
open PySem PySem.Spec L2
open PyProof.Rows hiding St
section
variable {P : Program} {w : World} {K : PySem.W.Frag} {mg : Str → Option Value} {base : Heap} {x qual : Str} {st : Stmt} {fa : Addr} {fd : FuncData} {N ps : List Str} {k n m : Nat} {Δn : List Kd} {g : Gs} {c : Ct}
end
section
variable {K : PySem.W.Frag} {W : Wt} {Δ Δn Δb Δc : List Kd} {ta tb te : TE} {tt tu : TT} {tA : TA} {g : Gd} {ga gb gx : Gx} {gt gu : List Dt → O (Bool × List Dt)} {gA : List Dt → O (List Dt × List Dt)} {k : Rk} {av fr av' fr' : Bool} {L : Lk} {i : Nat} {t u : TS} {g1 g2 : Gs}
end
section
variable {X : Cx} {K : PySem.W.Frag} {W : Wt} {Δ Δ1 Δn Δb Δc : List Kd} {a b c e f elt tg iter : Expr} {es ifs : List Expr} {ta tb tc te ti tx : TE} {tt tu : TT} {tA : TA} {g gk gx0 ge gi : Gd} {ga gb gx : Gx} {gt0 : List Dt → O Bool} {gt gu : List Dt → O (Bool × List Dt)} {gA : List Dt → O (List Dt × List Dt)} {gA0 gI : List Dt → O (List Dt)} {k : Rk} {av fr av' fr' av2 fr2 : Bool} {L : Lk} {pos pos' : Pos} {t u : TS} {g1 g2 : Gs} {sts sts2 : List Stmt} {i : Nat}
end
end Sim
end T_SimXC
section T_SimXE
set_option Elab.async false
set_option linter.all false
set_option maxRecDepth 100000
namespace Sim
open PySem PySem.Spec L2
open PyProof.Rows hiding St
section
variable {K : PySem.W.Frag} {W : Wt} {Δ Δb Δc : List Kd} {te ta tb : TE} {g ga gb : Gd} {fr fr' av' : Bool} {L : Lk} {i : Nat}
end
section
variable {X : Cx} {K : PySem.W.Frag} {W : Wt} {L : Lk} {Δ Δb Δc : List Kd} {a b e : Expr} {ta tb te : TE} {ga gb g : Gd} {fr fr' av' : Bool} {pos : Pos}
end
end Sim
end T_SimXE
section T_SimTs
set_option Elab.async false
set_option linter.all false
set_option maxRecDepth 100000
namespace Sim
open PySem PySem.Spec L2
open PyProof.Rows hiding St
section
variable {K : PySem.W.Frag} {W : Wt} {Δ : List Kd}
end
section
variable {X : Cx} {K : PySem.W.Frag} {W : Wt} {Δ : List Kd} {e : Expr} {es : List Expr} {tA : TA} {gA : List Dt → O (List Dt)} {av fr : Bool} {pos : Pos}
end
end Sim
end T_SimTs
section T_SimFz
set_option Elab.async false
set_option linter.all false
set_option maxRecDepth 100000
namespace Sim
open PySem PySem.Spec L2
open PyProof.Rows hiding St
def unfz : Dt → Option (List Dt)
  | .dict [(.bool true, .list xs)] => some xs
  | _ => none
theorem unfz_eq {d : Dt} {xs : List Dt} (h : unfz d = some xs) : d = frzD xs := by
  unfold unfz at h
  split at h
  · cases h; rfl
  · cases h
section
variable {K : PySem.W.Frag} {W : Wt} {Δ : List Kd} {F : Addr → Prop} {H : Hp} {te ta tb : TE} {g ga gb : Gd} {av fr av' fr' : Bool} {tl th : TOp} {gl gh : List Dt → O (Option Int)}
theorem Rp.sqF {v : V} {d : Dt} {xs : List Dt} (x : Rp K F H v d) (h : unfz d = some xs) : ∃ a ys, v = .ref a ∧ SqL K H a ys ∧ RpA K F H ys xs := by
  rw [unfz_eq h] at x
  cases x with
  | fz h r => exact ⟨_, _, rfl, h.sql, r⟩
  | @dic a kvs es h fa hk r =>
    cases kvs with
    | nil => cases hk
    | cons kv kvs =>
      obtain ⟨k, w⟩ := kv
      rw [List.map_cons, List.map_cons] at hk
      injection hk with h1 h2
      cases k <;> cases h1
def hLenF : List Dt → O Dt := fun ds => match ds with
  | [d] => match unfz d with
    | some xs => .ok (.int xs.length)
    | none => .bad
  | _ => .bad
theorem csc_lenF : CSc K (fun xs H Q => ∃ x n, xs = [x] ∧ LenV K x H n ∧ Q (.int n) H) hLenF := fun H xs ds Q hx h => by
  unfold hLenF at h
  split at h
  · rename_i e
    split at e
    · split at e
      · rename_i u
        cases e
        cases hx with
        | cons h1 h2 =>
          cases h2
          obtain ⟨a, ys, rfl, hs, r⟩ := h1.sqF u
          exact ⟨_, _, rfl, .inl ⟨_, hs, by first | exact r.length | exact r.length.symm⟩, h.2 _ (.int _)⟩
      · cases e
    · cases e
  · exact h.elim
theorem scl_lenF : SclA hLenF := fun ds => by
  unfold hLenF
  split
  · split
    · exact .inl ⟨_, rfl, rfl⟩
    · exact .inr rfl
  · exact .inr rfl
def hSlF : Dt → Option Int → Option Int → O Dt := fun d lo hi => match unfz d with
  | some ds => .ok (.list (cutD ds lo hi))
  | none => .bad
theorem se_slF (h : SE K W Δ te (.v true fr) g) (h1 : SO K W Δ tl gl) (h2 : SO K W Δ th gh) : SE K W Δ (tSl (rSlL K) te tl th) (.new .l fr) (gSl hSlF g gl gh) := fun f ρ σ H Q R q => by
  refine h f ρ σ H _ R ?_
  unfold gSl at q
  cases e1 : g ρ with
  | bad => rw [e1] at q; exact q
  | ex z => rw [e1] at q; exact q
  | ok d =>
    rw [e1, bnd_ok] at q
    intro v H1 s1 x1
    refine h1 f ρ σ H1 _ (R.mono s1) ?_
    cases e2 : gl ρ with
    | bad => rw [e2] at q; exact q
    | ex z => rw [e2] at q; exact fun H' s => q H' (s1.trans s)
    | ok lo =>
      rw [e2, bnd_ok] at q
      intro H2 s2
      refine h2 f ρ σ H2 _ ((R.mono s1).mono s2) ?_
      cases e3 : gh ρ with
      | bad => rw [e3] at q; exact q
      | ex z => rw [e3] at q; exact fun H' s => q H' ((s1.trans s2).trans s)
      | ok hi =>
        rw [e3, bnd_ok] at q
        intro H3 s3
        unfold hSlF at q
        split at q
        · rename_i u
          obtain ⟨a, xs, rfl, hs, r⟩ := (x1.same (s2.trans s3)).sqF u
          refine ⟨a, xs, rfl, hs, fun p np => ?_⟩
          have s123 := (s1.trans s2).trans s3
          exact q p _ (s123.free np) (s123.trans (same_upd np)) ⟨_, _, rfl, upd_same, (r.mono (same_upd np) fun a y z => ⟨y, fun e => z (e ▸ np)⟩).cut⟩
        · exact q.elim
end
section
variable {X : Cx} {K : PySem.W.Frag} {W : Wt} {Δ : List Kd} {a b e tg : Expr} {es : List Expr} {te ta tb : TE} {tA : TA} {g ga gb : Gd} {gA : List Dt → O (List Dt)} {av fr av' fr' : Bool} {pos : Pos}
theorem x_lenF {x : Str} {p : Pos} (hm : X.mg x = none) (h : AD X K W Δ (e :: es) tA av fr gA) (hv : bootBuiltins x = some (.builtin "len") := by decide +kernel) (hg : Gl X x := by rfl) (hn : x ≠ "__name__" := by decide) (hdb : (x == ("__debug__" : Str)) = false := by decide)
    (he : starEach (e :: es) X.env = (false, eval e X.env) :: starEach es X.env := by rfl) (hpl : (backTo pos (starEach es X.env)).any (·.1) = false := by rfl) :
    PD X K W Δ (.Call (.Name x p) (e :: es) [] pos) (tCB (fun xs H Q => ∃ x n, xs = [x] ∧ LenV K x H n ∧ Q (.int n) H) tA) (.v true true) (gCB hLenF gA) := ⟨pe_callB (by have q := call_len (X := X); rw [h.hK] at q; exact q) hg hm hv h.pa hn hdb he hpl, h.hK, se_cb scl_lenF csc_lenF h.sa⟩
theorem x_slF {lo hi : Option Expr} {tl th : TOp} {gl gh : List Dt → O (Option Int)} {p2 : Pos} (h : PD X K W Δ e te (.v true fr) g) (h1 : OD X K W Δ lo tl gl) (h2 : OD X K W Δ hi th gh) : PD X K W Δ (.Subscript e (.Slice lo hi none p2) pos) (tSl (rSlL K) te tl th) (.new .l fr) (gSl hSlF g gl gh) :=
  ⟨pe_slice (by have q := sl_list (X := X); rw [h.hK] at q; exact q) h.pe h1.po h2.po, h.hK, se_slF h.se h1.so h2.so⟩
end
end Sim
end T_SimFz
section T_SimSl
set_option Elab.async false
set_option linter.all false
set_option maxRecDepth 100000
namespace Sim
open PySem PySem.Spec L2
open PyProof.Rows hiding St
section
variable {K : PySem.W.Frag} {f : Fm} {Δ Δn Δb Δc : List Kd} {ρ : List Dt} {σ : L2.St} {H H1 : Hp} {i : Nat} {v : V} {d : Dt} {W : Wt} {L : Lk}
def SEn (K : PySem.W.Frag) (W : Wt) (Δ : List Kd) (te : TE) (g : Gd) : Prop := ∀ f ρ σ H Q, R K f Δ ρ σ H → (match g ρ with
  | .bad => False
  | .ex e => ∀ H', Same H H' → W e σ H'
  | .ok d => ∀ v H', Same H H' → Rp K (fun a => H a = none) H' v d → Q v H') → te σ H Q
theorem SEn.se {te : TE} {g : Gd} (h : SEn K W Δ te g) : SE K W Δ te (.v true true) g := fun f ρ σ H Q r q => h f ρ σ H Q r <| by
  cases e : g ρ with
  | bad => rw [e] at q; exact q
  | ex z => rw [e] at q; exact q
  | ok d =>
    rw [e] at q
    refine fun v H' s x => q v H' s (x.weak fun a na => ?_)
    obtain ⟨f1, f2, f3⟩ := r.fresh na
    exact ⟨fun _ => ⟨f1, f2⟩, fun _ => r.g0 a f3⟩
def noSl (Δ : List Kd) : Bool := Δ.all fun k => match k with
  | .sl _ => false
  | _ => true
end
end Sim
end T_SimSl
section T_SimSm
set_option Elab.async false
set_option linter.all false
set_option maxRecDepth 100000
namespace Sim
open PySem PySem.Spec L2
open PyProof.Rows hiding St
section
variable {K : PySem.W.Frag} {f : Fm} {Δ Δn Δb Δc : List Kd} {ρ : List Dt} {σ : L2.St} {H H1 : Hp} {i w : Nat} {v : V} {d : Dt} {W : Wt} {L : Lk} {p : Addr}
end
section
variable {X : Cx} {K : PySem.W.Frag} {W : Wt} {Δ Δn Δb Δc : List Kd} {e : Expr} {es : List Expr} {te : TE} {tA : TA} {g : Gd} {pos pos' : Pos} {L : Lk} {sts : List Stmt} {u : TS} {gb : Gs}
end
end Sim
end T_SimSm
section T_K57
set_option Elab.async false
set_option linter.all false
set_option maxRecDepth 100000
set_option maxHeartbeats 4000000
namespace K57
open PySem PySem.Spec L2 Sim
open PyProof.Rows hiding St
def topS (i : Nat) : Stmt := PySem.Challenge.pw_sinceply_k57_nets_misread.main.body.getD i (.Pass ⟨0, 0, 0, 0⟩)
abbrev st_is_whole : Stmt := topS 12
theorem sc_is_whole : FnScope ["thing"] ["thing"] (defScope st_is_whole) := ⟨rfl, rfl, rfl, by decide +kernel, rfl, by decide +kernel, by decide +kernel⟩
abbrev st_is_many : Stmt := topS 13
theorem sc_is_many : FnScope ["thing"] ["thing"] (defScope st_is_many) := ⟨rfl, rfl, rfl, by decide +kernel, rfl, by decide +kernel, by decide +kernel⟩
abbrev st_is_place : Stmt := topS 14
theorem sc_is_place : FnScope ["n", "thing"] ["n", "thing"] (defScope st_is_place) := ⟨rfl, rfl, rfl, by decide +kernel, rfl, by decide +kernel, by decide +kernel⟩
abbrev st_is_moment : Stmt := topS 15
theorem sc_is_moment : FnScope ["thing"] ["thing"] (defScope st_is_moment) := ⟨rfl, rfl, rfl, by decide +kernel, rfl, by decide +kernel, by decide +kernel⟩
abbrev st_is_meeting : Stmt := topS 16
theorem sc_is_meeting : FnScope ["n", "thing"] ["n", "thing"] (defScope st_is_meeting) := ⟨rfl, rfl, rfl, by decide +kernel, rfl, by decide +kernel, by decide +kernel⟩
abbrev st_is_tie : Stmt := topS 17
theorem sc_is_tie : FnScope ["n", "thing"] ["n", "thing"] (defScope st_is_tie) := ⟨rfl, rfl, rfl, by decide +kernel, rfl, by decide +kernel, by decide +kernel⟩
abbrev st_is_record : Stmt := topS 18
theorem sc_is_record : FnScope ["n", "thing", "tie", "at"] ["n", "thing"] (defScope st_is_record) := ⟨rfl, rfl, rfl, by decide +kernel, rfl, by decide +kernel, by decide +kernel⟩
abbrev st_joined : Stmt := topS 20
theorem sc_joined : FnScope ["marks", "a", "b", "low", "high", "mark"] ["marks", "a", "b"] (defScope st_joined) := ⟨rfl, rfl, rfl, by decide +kernel, rfl, by decide +kernel, by decide +kernel⟩
abbrev st_is_depth : Stmt := topS 23
theorem sc_is_depth : FnScope ["thing"] ["thing"] (defScope st_is_depth) := ⟨rfl, rfl, rfl, by decide +kernel, rfl, by decide +kernel, by decide +kernel⟩
abbrev st_look_at_layers : Stmt := topS 24
theorem sc_look_at_layers : FnScope ["k"] ["k"] (defScope st_look_at_layers) := ⟨rfl, rfl, rfl, by decide +kernel, rfl, by decide +kernel, by decide +kernel⟩
abbrev st_layer_for : Stmt := topS 25
theorem sc_layer_for : FnScope ["marks", "a", "b", "j", "row"] ["marks", "a", "b"] (defScope st_layer_for) := ⟨rfl, rfl, rfl, by decide +kernel, rfl, by decide +kernel, by decide +kernel⟩
abbrev st_layered : Stmt := topS 26
theorem sc_layered : FnScope ["n", "record", "k", "marks", "j", "numbers", "moment", "a", "b"] ["n", "record", "k"] (defScope st_layered) := ⟨rfl, rfl, rfl, by decide +kernel, rfl, by decide +kernel, by decide +kernel⟩
abbrev st_is_count : Stmt := topS 30
theorem sc_is_count : FnScope ["thing", "most"] ["thing", "most"] (defScope st_is_count) := ⟨rfl, rfl, rfl, by decide +kernel, rfl, by decide +kernel, by decide +kernel⟩
abbrev st_is_net : Stmt := topS 31
theorem sc_is_net : FnScope ["thing", "n", "k", "ties"] ["thing"] (defScope st_is_net) := ⟨rfl, rfl, rfl, by decide +kernel, rfl, by decide +kernel, by decide +kernel⟩
abbrev st_tie_text : Stmt := topS 36
theorem sc_tie_text : FnScope ["tie", "moment", "a", "b"] ["tie"] (defScope st_tie_text) := ⟨rfl, rfl, rfl, by decide +kernel, rfl, by decide +kernel, by decide +kernel⟩
abbrev st_record_text : Stmt := topS 37
theorem sc_record_text : FnScope ["record", "tie"] ["record"] (defScope st_record_text) := ⟨rfl, rfl, rfl, by decide +kernel, rfl, by decide +kernel, by decide +kernel⟩
abbrev st_net_text : Stmt := topS 38
theorem sc_net_text : FnScope ["net", "n", "k", "ties"] ["net"] (defScope st_net_text) := ⟨rfl, rfl, rfl, by decide +kernel, rfl, by decide +kernel, by decide +kernel⟩
abbrev st_number_in : Stmt := topS 39
theorem sc_number_in : FnScope ["text", "sign"] ["text"] (defScope st_number_in) := ⟨rfl, rfl, rfl, by decide +kernel, rfl, by decide +kernel, by decide +kernel⟩
abbrev st_tie_in : Stmt := topS 40
theorem sc_tie_in : FnScope ["text", "moment", "colon", "ends", "a", "dash", "b"] ["text"] (defScope st_tie_in) := ⟨rfl, rfl, rfl, by decide +kernel, rfl, by decide +kernel, by decide +kernel⟩
abbrev st_read_record : Stmt := topS 41
theorem sc_read_record : FnScope ["n", "text", "record", "part"] ["n", "text"] (defScope st_read_record) := ⟨rfl, rfl, rfl, by decide +kernel, rfl, by decide +kernel, by decide +kernel⟩
abbrev st_read_net : Stmt := topS 42
theorem sc_read_net : FnScope ["text", "places", "blank", "rest", "layers", "gap", "ties", "n", "k", "net"] ["text"] (defScope st_read_net) := ⟨rfl, rfl, rfl, by decide +kernel, rfl, by decide +kernel, by decide +kernel⟩
abbrev st_l_mixed : Stmt := topS 44
theorem sc_l_mixed : FnScope ["cell", "k", "number"] ["cell", "k"] (defScope st_l_mixed) := ⟨rfl, rfl, rfl, by decide +kernel, rfl, by decide +kernel, by decide +kernel⟩
abbrev st_l_numbers : Stmt := topS 45
theorem sc_l_numbers : FnScope ["cell", "many", "base", "found", "left", "k", "number", "turns"] ["cell", "many", "base"] (defScope st_l_numbers) := ⟨rfl, rfl, rfl, by decide +kernel, rfl, by decide +kernel, by decide +kernel⟩
abbrev st_l_ends : Stmt := topS 46
theorem sc_l_ends : FnScope ["n", "kind", "one", "other", "a"] ["n", "kind", "one", "other"] (defScope st_l_ends) := ⟨rfl, rfl, rfl, by decide +kernel, rfl, by decide +kernel, by decide +kernel⟩
abbrev st_l_record : Stmt := topS 47
theorem sc_l_record : FnScope ["numbers", "most", "n", "many", "wide", "moment", "record", "k", "a", "b"] ["numbers", "most"] (defScope st_l_record) := ⟨rfl, rfl, rfl, by decide +kernel, rfl, by decide +kernel, by decide +kernel⟩
abbrev st_l_depth : Stmt := topS 48
theorem sc_l_depth : FnScope ["number"] ["number"] (defScope st_l_depth) := ⟨rfl, rfl, rfl, by decide +kernel, rfl, by decide +kernel, by decide +kernel⟩
abbrev st_l_joined : Stmt := topS 49
theorem sc_l_joined : FnScope ["n", "ties", "a", "b", "marks", "moment", "one", "other", "old", "new", "mark"] ["n", "ties", "a", "b"] (defScope st_l_joined) := ⟨rfl, rfl, rfl, by decide +kernel, rfl, by decide +kernel, by decide +kernel⟩
abbrev st_l_numbered : Stmt := topS 50
theorem sc_l_numbered : FnScope ["n", "record", "k", "numbers", "at", "j", "ties", "later"] ["n", "record", "k"] (defScope st_l_numbered) := ⟨rfl, rfl, rfl, by decide +kernel, rfl, by decide +kernel, by decide +kernel⟩
abbrev st_l_text : Stmt := topS 51
theorem sc_l_text : FnScope ["record", "tie"] ["record"] (defScope st_l_text) := ⟨rfl, rfl, rfl, by decide +kernel, rfl, by decide +kernel, by decide +kernel⟩
abbrev st_l_read : Stmt := topS 52
theorem sc_l_read : FnScope ["text", "caught", "found", "e"] ["text"] (defScope st_l_read) := ⟨rfl, rfl, rfl, by decide +kernel, rfl, by decide +kernel, by decide +kernel⟩
abbrev st_l_due : Stmt := topS 53
theorem sc_l_due : FnScope ["n", "k", "ties", "tie"] ["n", "k", "ties"] (defScope st_l_due) := ⟨rfl, rfl, rfl, by decide +kernel, rfl, by decide +kernel, by decide +kernel⟩
abbrev st_l_bad : Stmt := topS 54
theorem sc_l_bad : FnScope ["n", "k", "ties", "number", "text", "some"] ["n", "k", "ties", "number"] (defScope st_l_bad) := ⟨rfl, rfl, rfl, by decide +kernel, rfl, by decide +kernel, by decide +kernel⟩
abbrev st_l_no_net : Stmt := topS 55
theorem sc_l_no_net : FnScope ["n", "k", "ties", "record", "number", "some"] ["n", "k", "ties", "record", "number"] (defScope st_l_no_net) := ⟨rfl, rfl, rfl, by decide +kernel, rfl, by decide +kernel, by decide +kernel⟩
abbrev st_l_unwritten : Stmt := topS 56
theorem sc_l_unwritten : FnScope ["thing", "caught", "e"] ["thing"] (defScope st_l_unwritten) := ⟨rfl, rfl, rfl, by decide +kernel, rfl, by decide +kernel, by decide +kernel⟩
abbrev st_law : Stmt := topS 57
theorem sc_law : FnScope ["script", "cell", "numbers", "n", "record", "k", "told", "ties", "tie", "number", "places", "layers", "some", "text"] ["script"] (defScope st_law) := ⟨rfl, rfl, rfl, by decide +kernel, rfl, by decide +kernel, by decide +kernel⟩
structure Tx (K : PySem.W.Frag) (mg : Str → Option Value) where
  a_is_whole : Addr
  d_is_whole : FuncData
  F_is_whole : L2.Fun K "is_whole" "is_whole" st_is_whole a_is_whole d_is_whole
  m_is_whole : mg "is_whole" = some (.ref a_is_whole)
  b_is_whole : Binds K d_is_whole ["thing"] []
  a_is_many : Addr
  d_is_many : FuncData
  F_is_many : L2.Fun K "is_many" "is_many" st_is_many a_is_many d_is_many
  m_is_many : mg "is_many" = some (.ref a_is_many)
  b_is_many : Binds K d_is_many ["thing"] []
  a_is_place : Addr
  d_is_place : FuncData
  F_is_place : L2.Fun K "is_place" "is_place" st_is_place a_is_place d_is_place
  m_is_place : mg "is_place" = some (.ref a_is_place)
  b_is_place : Binds K d_is_place ["n", "thing"] []
  a_is_moment : Addr
  d_is_moment : FuncData
  F_is_moment : L2.Fun K "is_moment" "is_moment" st_is_moment a_is_moment d_is_moment
  m_is_moment : mg "is_moment" = some (.ref a_is_moment)
  b_is_moment : Binds K d_is_moment ["thing"] []
  a_is_meeting : Addr
  d_is_meeting : FuncData
  F_is_meeting : L2.Fun K "is_meeting" "is_meeting" st_is_meeting a_is_meeting d_is_meeting
  m_is_meeting : mg "is_meeting" = some (.ref a_is_meeting)
  b_is_meeting : Binds K d_is_meeting ["n", "thing"] []
  a_is_tie : Addr
  d_is_tie : FuncData
  F_is_tie : L2.Fun K "is_tie" "is_tie" st_is_tie a_is_tie d_is_tie
  m_is_tie : mg "is_tie" = some (.ref a_is_tie)
  b_is_tie : Binds K d_is_tie ["n", "thing"] []
  a_is_record : Addr
  d_is_record : FuncData
  F_is_record : L2.Fun K "is_record" "is_record" st_is_record a_is_record d_is_record
  m_is_record : mg "is_record" = some (.ref a_is_record)
  b_is_record : Binds K d_is_record ["n", "thing"] []
  a_joined : Addr
  d_joined : FuncData
  F_joined : L2.Fun K "joined" "joined" st_joined a_joined d_joined
  m_joined : mg "joined" = some (.ref a_joined)
  b_joined : Binds K d_joined ["marks", "a", "b"] []
  a_is_depth : Addr
  d_is_depth : FuncData
  F_is_depth : L2.Fun K "is_depth" "is_depth" st_is_depth a_is_depth d_is_depth
  m_is_depth : mg "is_depth" = some (.ref a_is_depth)
  b_is_depth : Binds K d_is_depth ["thing"] []
  a_look_at_layers : Addr
  d_look_at_layers : FuncData
  F_look_at_layers : L2.Fun K "look_at_layers" "look_at_layers" st_look_at_layers a_look_at_layers d_look_at_layers
  m_look_at_layers : mg "look_at_layers" = some (.ref a_look_at_layers)
  b_look_at_layers : Binds K d_look_at_layers ["k"] []
  a_layer_for : Addr
  d_layer_for : FuncData
  F_layer_for : L2.Fun K "layer_for" "layer_for" st_layer_for a_layer_for d_layer_for
  m_layer_for : mg "layer_for" = some (.ref a_layer_for)
  b_layer_for : Binds K d_layer_for ["marks", "a", "b"] []
  a_layered : Addr
  d_layered : FuncData
  F_layered : L2.Fun K "layered" "layered" st_layered a_layered d_layered
  m_layered : mg "layered" = some (.ref a_layered)
  b_layered : Binds K d_layered ["n", "record", "k"] []
  a_is_count : Addr
  d_is_count : FuncData
  F_is_count : L2.Fun K "is_count" "is_count" st_is_count a_is_count d_is_count
  m_is_count : mg "is_count" = some (.ref a_is_count)
  b_is_count : Binds K d_is_count ["thing", "most"] []
  a_is_net : Addr
  d_is_net : FuncData
  F_is_net : L2.Fun K "is_net" "is_net" st_is_net a_is_net d_is_net
  m_is_net : mg "is_net" = some (.ref a_is_net)
  b_is_net : Binds K d_is_net ["thing"] []
  a_tie_text : Addr
  d_tie_text : FuncData
  F_tie_text : L2.Fun K "tie_text" "tie_text" st_tie_text a_tie_text d_tie_text
  m_tie_text : mg "tie_text" = some (.ref a_tie_text)
  b_tie_text : Binds K d_tie_text ["tie"] []
  a_record_text : Addr
  d_record_text : FuncData
  F_record_text : L2.Fun K "record_text" "record_text" st_record_text a_record_text d_record_text
  m_record_text : mg "record_text" = some (.ref a_record_text)
  b_record_text : Binds K d_record_text ["record"] []
  a_net_text : Addr
  d_net_text : FuncData
  F_net_text : L2.Fun K "net_text" "net_text" st_net_text a_net_text d_net_text
  m_net_text : mg "net_text" = some (.ref a_net_text)
  b_net_text : Binds K d_net_text ["net"] []
  a_number_in : Addr
  d_number_in : FuncData
  F_number_in : L2.Fun K "number_in" "number_in" st_number_in a_number_in d_number_in
  m_number_in : mg "number_in" = some (.ref a_number_in)
  b_number_in : Binds K d_number_in ["text"] []
  a_tie_in : Addr
  d_tie_in : FuncData
  F_tie_in : L2.Fun K "tie_in" "tie_in" st_tie_in a_tie_in d_tie_in
  m_tie_in : mg "tie_in" = some (.ref a_tie_in)
  b_tie_in : Binds K d_tie_in ["text"] []
  a_read_record : Addr
  d_read_record : FuncData
  F_read_record : L2.Fun K "read_record" "read_record" st_read_record a_read_record d_read_record
  m_read_record : mg "read_record" = some (.ref a_read_record)
  b_read_record : Binds K d_read_record ["n", "text"] []
  a_read_net : Addr
  d_read_net : FuncData
  F_read_net : L2.Fun K "read_net" "read_net" st_read_net a_read_net d_read_net
  m_read_net : mg "read_net" = some (.ref a_read_net)
  b_read_net : Binds K d_read_net ["text"] []
  a_l_mixed : Addr
  d_l_mixed : FuncData
  F_l_mixed : L2.Fun K "_law_mixed" "_law_mixed" st_l_mixed a_l_mixed d_l_mixed
  m_l_mixed : mg "_law_mixed" = some (.ref a_l_mixed)
  b_l_mixed : Binds K d_l_mixed ["cell", "k"] []
  a_l_numbers : Addr
  d_l_numbers : FuncData
  F_l_numbers : L2.Fun K "_law_numbers" "_law_numbers" st_l_numbers a_l_numbers d_l_numbers
  m_l_numbers : mg "_law_numbers" = some (.ref a_l_numbers)
  b_l_numbers : Binds K d_l_numbers ["cell", "many", "base"] []
  a_l_ends : Addr
  d_l_ends : FuncData
  F_l_ends : L2.Fun K "_law_ends" "_law_ends" st_l_ends a_l_ends d_l_ends
  m_l_ends : mg "_law_ends" = some (.ref a_l_ends)
  b_l_ends : Binds K d_l_ends ["n", "kind", "one", "other"] []
  a_l_record : Addr
  d_l_record : FuncData
  F_l_record : L2.Fun K "_law_record" "_law_record" st_l_record a_l_record d_l_record
  m_l_record : mg "_law_record" = some (.ref a_l_record)
  b_l_record : Binds K d_l_record ["numbers", "most"] []
  a_l_depth : Addr
  d_l_depth : FuncData
  F_l_depth : L2.Fun K "_law_depth" "_law_depth" st_l_depth a_l_depth d_l_depth
  m_l_depth : mg "_law_depth" = some (.ref a_l_depth)
  b_l_depth : Binds K d_l_depth ["number"] []
  a_l_joined : Addr
  d_l_joined : FuncData
  F_l_joined : L2.Fun K "_law_joined" "_law_joined" st_l_joined a_l_joined d_l_joined
  m_l_joined : mg "_law_joined" = some (.ref a_l_joined)
  b_l_joined : Binds K d_l_joined ["n", "ties", "a", "b"] []
  a_l_numbered : Addr
  d_l_numbered : FuncData
  F_l_numbered : L2.Fun K "_law_numbered" "_law_numbered" st_l_numbered a_l_numbered d_l_numbered
  m_l_numbered : mg "_law_numbered" = some (.ref a_l_numbered)
  b_l_numbered : Binds K d_l_numbered ["n", "record", "k"] []
  a_l_text : Addr
  d_l_text : FuncData
  F_l_text : L2.Fun K "_law_text" "_law_text" st_l_text a_l_text d_l_text
  m_l_text : mg "_law_text" = some (.ref a_l_text)
  b_l_text : Binds K d_l_text ["record"] []
  a_l_read : Addr
  d_l_read : FuncData
  F_l_read : L2.Fun K "_law_read" "_law_read" st_l_read a_l_read d_l_read
  m_l_read : mg "_law_read" = some (.ref a_l_read)
  b_l_read : Binds K d_l_read ["text"] []
  a_l_due : Addr
  d_l_due : FuncData
  F_l_due : L2.Fun K "_law_due" "_law_due" st_l_due a_l_due d_l_due
  m_l_due : mg "_law_due" = some (.ref a_l_due)
  b_l_due : Binds K d_l_due ["n", "k", "ties"] []
  a_l_bad : Addr
  d_l_bad : FuncData
  F_l_bad : L2.Fun K "_law_bad" "_law_bad" st_l_bad a_l_bad d_l_bad
  m_l_bad : mg "_law_bad" = some (.ref a_l_bad)
  b_l_bad : Binds K d_l_bad ["n", "k", "ties", "number"] []
  a_l_no_net : Addr
  d_l_no_net : FuncData
  F_l_no_net : L2.Fun K "_law_no_net" "_law_no_net" st_l_no_net a_l_no_net d_l_no_net
  m_l_no_net : mg "_law_no_net" = some (.ref a_l_no_net)
  b_l_no_net : Binds K d_l_no_net ["n", "k", "ties", "record", "number"] []
  a_l_unwritten : Addr
  d_l_unwritten : FuncData
  F_l_unwritten : L2.Fun K "_law_unwritten" "_law_unwritten" st_l_unwritten a_l_unwritten d_l_unwritten
  m_l_unwritten : mg "_law_unwritten" = some (.ref a_l_unwritten)
  b_l_unwritten : Binds K d_l_unwritten ["thing"] []
  a_law : Addr
  d_law : FuncData
  F_law : L2.Fun K "law" "law" st_law a_law d_law
  m_law : mg "law" = some (.ref a_law)
  b_law : Binds K d_law ["script"] []
  n_isinstance : mg "isinstance" = none
  n_int : mg "int" = none
  n_bool : mg "bool" = none
  n_tuple : mg "tuple" = none
  n_len : mg "len" = none
  n_list : mg "list" = none
  n_all : mg "all" = none
  n_range : mg "range" = none
  n_min : mg "min" = none
  n_max : mg "max" = none
  n_enumerate : mg "enumerate" = none
  n_reversed : mg "reversed" = none
  n_str : mg "str" = none
  n_ValueError : mg "ValueError" = none
  n_zip : mg "zip" = none
  C_NoNet : Addr
  E_NoNet : ExT K mg "NoNet" C_NoNet
  Q_NoNet : PySem.W.excIn K C_NoNet veB "ValueError.__new__" = true
  C_NoText : Addr
  E_NoText : ExT K mg "NoText" C_NoText
  Q_NoText : PySem.W.excIn K C_NoText veB "ValueError.__new__" = true
  C_PlyError : Addr
  E_PlyError : ExT K mg "PlyError" C_PlyError
  C_NoTies : Addr
  E_NoTies : ExT K mg "NoTies" C_NoTies
  C_NoPlaces : Addr
  E_NoPlaces : ExT K mg "NoPlaces" C_NoPlaces
  C_NoLayers : Addr
  E_NoLayers : ExT K mg "NoLayers" C_NoLayers
  C_Clash : Addr
  E_Clash : ExT K mg "Clash" C_Clash
  S_NoText_PlyError : PySem.W.subIn K (.ref C_NoText) (.ref C_PlyError) = some true
  S_NoNet_PlyError : PySem.W.subIn K (.ref C_NoNet) (.ref C_PlyError) = some true
  S_NoText_NoText : PySem.W.subIn K (.ref C_NoText) (.ref C_NoText) = some true
  S_NoNet_NoText : PySem.W.subIn K (.ref C_NoNet) (.ref C_NoText) = some false
  S_NoNet_NoNet : PySem.W.subIn K (.ref C_NoNet) (.ref C_NoNet) = some true
  S_NoText_NoTies : PySem.W.subIn K (.ref C_NoText) (.ref C_NoTies) = some false
  S_NoText_NoPlaces : PySem.W.subIn K (.ref C_NoText) (.ref C_NoPlaces) = some false
  S_NoText_NoNet : PySem.W.subIn K (.ref C_NoText) (.ref C_NoNet) = some false
  S_NoText_NoLayers : PySem.W.subIn K (.ref C_NoText) (.ref C_NoLayers) = some false
  S_NoText_Clash : PySem.W.subIn K (.ref C_NoText) (.ref C_Clash) = some false
  S_NoNet_NoTies : PySem.W.subIn K (.ref C_NoNet) (.ref C_NoTies) = some false
  S_NoNet_NoPlaces : PySem.W.subIn K (.ref C_NoNet) (.ref C_NoPlaces) = some false
  S_NoNet_NoLayers : PySem.W.subIn K (.ref C_NoNet) (.ref C_NoLayers) = some false
  S_NoNet_Clash : PySem.W.subIn K (.ref C_NoNet) (.ref C_Clash) = some false
  S_NoText_ValueError : PySem.W.subIn K (.ref C_NoText) (.type "ValueError") = some true
  S_NoNet_ValueError : PySem.W.subIn K (.ref C_NoNet) (.type "ValueError") = some true
  c_MOST_PLACES_records : ∃ tk, mg "MOST_PLACES_records" = some (.int (10) tk)
  c_LAST_MOMENT : ∃ tk, mg "LAST_MOMENT" = some (.int (1000000000000000000000000000000) tk)
  c_MOST_TIES : ∃ tk, mg "MOST_TIES" = some (.int (60) tk)
  c_MOST_LAYERS_layers : ∃ tk, mg "MOST_LAYERS_layers" = some (.int (6) tk)
  c_MOST_PLACES_nets : ∃ tk, mg "MOST_PLACES_nets" = some (.int (10) tk)
  c_MOST_LAYERS_nets : ∃ tk, mg "MOST_LAYERS_nets" = some (.int (6) tk)
  c_NOTHING : ∃ tk, mg "NOTHING" = some (.str "none" tk)
  c_MOST_FIGURES : ∃ tk, mg "MOST_FIGURES" = some (.int (60) tk)
  c_FIGURES : ∃ tk, mg "FIGURES" = some (.str "0123456789" tk)
section
variable {P : Program} {w : World} {K : PySem.W.Frag} {mg : Str → Option Value} {base : Heap}
abbrev g_is_whole : Gs := FamL.g_is_whole
abbrev f_is_whole : List Dt → O Dt := FamL.f_is_whole
theorem ok_is_whole (t : Tx K mg) : FnOk P w K mg base CX0 1 t.a_is_whole t.d_is_whole ["thing"] (spG K mg 1 f_is_whole) := by
  have nd : (["thing"] : List Str).Nodup := by decide +kernel
  exact fn_okN t.F_is_whole (Δn := [.im false]) sc_is_whole rfl rfl (by decide) fun cdv A outer s H E hr => ⟨_, BD.frm [.im false] (Δb := kd0 1 1 false) (Δc := kd0 1 1 false)
    (b_one (z_ret (x_and (x_isa .int t.n_isinstance t.n_int (x_var 0)) (x_one (x_not (x_isa .bool t.n_isinstance t.n_bool (x_var 0))))))) rfl⟩
def g_is_many : Gs := gRet (gAndV (gCallN 1 f_is_whole (gCons (gVar 0) (gNil))) (gChain hLe hLe (gC (.int (1))) (gVar 0) (gC (.int (10)))))
def f_is_many : List Dt → O Dt := fnN 1 g_is_many
theorem ok_is_many (t : Tx K mg) : FnOk P w K mg base CX0 2 t.a_is_many t.d_is_many ["thing"] (spG K mg 1 f_is_many) := by
  obtain ⟨_, h_MOST_PLACES_records⟩ := t.c_MOST_PLACES_records
  have G_is_whole := ok_is_whole (P := P) (w := w) (base := base) t
  have nd : (["thing"] : List Str).Nodup := by decide +kernel
  exact fn_okN t.F_is_many (Δn := [.im false]) sc_is_many rfl rfl (by decide) fun cdv A outer s H E hr => ⟨_, BD.frm [.im false] (Δb := kd0 1 1 false) (Δc := kd0 1 1 false)
    (b_one (z_ret (x_and (x_callN G_is_whole (hr.mono (by decide)) t.m_is_whole t.F_is_whole.kp t.b_is_whole pass0 (AD.to true false (a_cons (x_var 0) (a_nil)))) (x_one (x_chain or_le or_le (x_int) (x_var 0) (x_glob (v := .int (10)) h_MOST_PLACES_records ⟨_, rfl⟩ (.int _))))))) rfl⟩
def g_is_place : Gs := gRet (gAndV (gCallN 1 f_is_whole (gCons (gVar 1) (gNil))) (gChain hLe hLt (gC (.int (0))) (gVar 1) (gVar 0)))
def f_is_place : List Dt → O Dt := fnN 2 g_is_place
theorem ok_is_place (t : Tx K mg) : FnOk P w K mg base CX0 2 t.a_is_place t.d_is_place ["n", "thing"] (spG K mg 2 f_is_place) := by
  have G_is_whole := ok_is_whole (P := P) (w := w) (base := base) t
  have nd : (["n", "thing"] : List Str).Nodup := by decide +kernel
  exact fn_okN t.F_is_place (Δn := [.im false, .im false]) sc_is_place rfl rfl (by decide) fun cdv A outer s H E hr => ⟨_, BD.frm [.im false, .im false] (Δb := kd0 2 2 false) (Δc := kd0 2 2 false)
    (b_one (z_ret (x_and (x_callN G_is_whole (hr.mono (by decide)) t.m_is_whole t.F_is_whole.kp t.b_is_whole pass0 (AD.to true false (a_cons (x_var 1) (a_nil)))) (x_one (x_chain or_le or_lt (x_int) (x_var 1) (x_var 0)))))) rfl⟩
def g_is_moment : Gs := gRet (gAndV (gCallN 1 f_is_whole (gCons (gVar 0) (gNil))) (gChain hLe hLe (gC (.int (0))) (gVar 0) (gC (.int (1000000000000000000000000000000)))))
def f_is_moment : List Dt → O Dt := fnN 1 g_is_moment
theorem ok_is_moment (t : Tx K mg) : FnOk P w K mg base CX0 2 t.a_is_moment t.d_is_moment ["thing"] (spG K mg 1 f_is_moment) := by
  obtain ⟨_, h_LAST_MOMENT⟩ := t.c_LAST_MOMENT
  have G_is_whole := ok_is_whole (P := P) (w := w) (base := base) t
  have nd : (["thing"] : List Str).Nodup := by decide +kernel
  exact fn_okN t.F_is_moment (Δn := [.im false]) sc_is_moment rfl rfl (by decide) fun cdv A outer s H E hr => ⟨_, BD.frm [.im false] (Δb := kd0 1 1 false) (Δc := kd0 1 1 false)
    (b_one (z_ret (x_and (x_callN G_is_whole (hr.mono (by decide)) t.m_is_whole t.F_is_whole.kp t.b_is_whole pass0 (AD.to true false (a_cons (x_var 0) (a_nil)))) (x_one (x_chain or_le or_le (x_int) (x_var 0) (x_glob (v := .int (1000000000000000000000000000000)) h_LAST_MOMENT ⟨_, rfl⟩ (.int _))))))) rfl⟩
def g_is_meeting : Gs := gSeqS (gIfS (gOr (gNot (gTest (gUn (hIsa .tuple) (gVar 1)))) (gOr (gTest (gOp hNe (gCB hLen (gCons (gVar 1) (gNil))) (gC (.int (3))))) (gNot (gTest (gCallN 1 f_is_moment (gCons (gOp hIx (gVar 1) (gC (.int (0)))) (gNil))))))) (gRet (gC (.bool false))) (gNext)) (gRet (gAndV (gCallN 2 f_is_place (gCons (gVar 0) (gCons (gOp hIx (gVar 1) (gC (.int (1)))) (gNil)))) (gCallN 2 f_is_place (gCons (gVar 0) (gCons (gOp hIx (gVar 1) (gC (.int (2)))) (gNil))))))
def f_is_meeting : List Dt → O Dt := fnN 2 g_is_meeting
theorem ok_is_meeting (t : Tx K mg) : FnOk P w K mg base CX0 3 t.a_is_meeting t.d_is_meeting ["n", "thing"] (spG K mg 2 f_is_meeting) := by
  have G_is_moment := ok_is_moment (P := P) (w := w) (base := base) t
  have G_is_place := ok_is_place (P := P) (w := w) (base := base) t
  have nd : (["n", "thing"] : List Str).Nodup := by decide +kernel
  exact fn_okN t.F_is_meeting (Δn := [.im false, .im false]) sc_is_meeting rfl rfl (by decide) fun cdv A outer s H E hr => ⟨_, BD.frm [.im false, .im false] (Δb := kd0 2 2 false) (Δc := kd0 2 2 false)
    (b_cons (z_if (Δn := [.im false, .im false]) (c_w (w_or (c_not (c_val (x_isa .tuple t.n_isinstance t.n_tuple (x_var 1)))) (w_or (c_cmp (or_ne hr) (x_len t.n_len (AD.to true false (a_cons (x_var 1) (a_nil)))) (x_int)) (w_or1 (c_not (c_val (x_callN G_is_moment (hr.mono (by decide)) t.m_is_moment t.F_is_moment.kp t.b_is_moment pass0 (AD.to true false (a_cons (x_ix (x_var 1) (x_int)) (a_nil))))))))))
    (b_one (z_ret (x_bl)))
    ((b_nil).to [.im false, .im false]))
    (b_one (z_ret (x_and (x_callN G_is_place (hr.mono (by decide)) t.m_is_place t.F_is_place.kp t.b_is_place pass0 (AD.to true false (a_cons (x_var 0) (a_cons (x_ix (x_var 1) (x_int)) (a_nil))))) (x_one (x_callN G_is_place (hr.mono (by decide)) t.m_is_place t.F_is_place.kp t.b_is_place pass0 (AD.to true false (a_cons (x_var 0) (a_cons (x_ix (x_var 1) (x_int)) (a_nil)))))))))) rfl⟩
def g_is_tie : Gs := gRet (gAndV (gCallN 2 f_is_meeting (gCons (gVar 0) (gCons (gVar 1) (gNil)))) (gOp hLe (gOp hIx (gVar 1) (gC (.int (1)))) (gOp hIx (gVar 1) (gC (.int (2))))))
def f_is_tie : List Dt → O Dt := fnN 2 g_is_tie
theorem ok_is_tie (t : Tx K mg) : FnOk P w K mg base CX0 4 t.a_is_tie t.d_is_tie ["n", "thing"] (spG K mg 2 f_is_tie) := by
  have G_is_meeting := ok_is_meeting (P := P) (w := w) (base := base) t
  have nd : (["n", "thing"] : List Str).Nodup := by decide +kernel
  exact fn_okN t.F_is_tie (Δn := [.im false, .im false]) sc_is_tie rfl rfl (by decide) fun cdv A outer s H E hr => ⟨_, BD.frm [.im false, .im false] (Δb := kd0 2 2 false) (Δc := kd0 2 2 false)
    (b_one (z_ret (x_and (x_callN G_is_meeting (hr.mono (by decide)) t.m_is_meeting t.F_is_meeting.kp t.b_is_meeting pass0 (AD.to true false (a_cons (x_var 0) (a_cons (x_var 1) (a_nil))))) (x_one (x_cmp or_le (x_ix (x_var 1) (x_int)) (x_ix (x_var 1) (x_int))))))) rfl⟩
def g_is_record : Gs := gSeqS (gIfS (gOr (gNot (gTest (gUn (hIsa .list) (gVar 1)))) (gTest (gOp hGt (gCB hLen (gCons (gVar 1) (gNil))) (gC (.int (60)))))) (gRet (gC (.bool false))) (gNext)) (gSeqS (gIfS (gNot (gTest (gCB hAll (gCons (gLc (gSeq (gVar 1)) (tgN 2) (gYes) (gCallN 2 f_is_tie (gCons (gVar 0) (gCons (gVar 2) (gNil))))) (gNil))))) (gRet (gC (.bool false))) (gNext)) (gRet (gCB hAll (gCons (gLc (gRng2 (gCons (gC (.int (1))) (gCons (gCB hLen (gCons (gVar 1) (gNil))) (gNil)))) (tgN 3) (gYes) (gOp hLt (gOp hIx (gOp hIx (gVar 1) (gOp hSub (gVar 3) (gC (.int (1))))) (gC (.int (0)))) (gOp hIx (gOp hIx (gVar 1) (gVar 3)) (gC (.int (0)))))) (gNil)))))
def f_is_record : List Dt → O Dt := fnN 4 g_is_record
theorem ok_is_record (t : Tx K mg) : FnOk P w K mg base CX0 5 t.a_is_record t.d_is_record ["n", "thing"] (spG K mg 2 f_is_record) := by
  obtain ⟨_, h_MOST_TIES⟩ := t.c_MOST_TIES
  have G_is_tie := ok_is_tie (P := P) (w := w) (base := base) t
  have nd : (["n", "thing", "tie", "at"] : List Str).Nodup := by decide +kernel
  exact fn_okN t.F_is_record (Δn := [.im false, .im false, .no, .no]) sc_is_record rfl rfl (by decide) fun cdv A outer s H E hr => ⟨_, BD.frm [.im false, .im false, .no, .no] (Δb := kd0 2 4 false) (Δc := kd0 2 4 false)
    (b_cons (z_if (Δn := [.im false, .im false, .no, .no]) (c_w (w_or (c_not (c_val (x_isa .list t.n_isinstance t.n_list (x_var 1)))) (w_or1 (c_cmp or_gt (x_len t.n_len (AD.to true false (a_cons (x_var 1) (a_nil)))) (x_glob (v := .int (60)) h_MOST_TIES ⟨_, rfl⟩ (.int _))))))
    (b_one (z_ret (x_bl)))
    ((b_nil).to [.im false, .im false, .no, .no]))
    (b_cons (z_if (Δn := [.im false, .im false, .no, .no]) (c_not (c_val (x_all t.n_all (AD.to true true (a_cons ((x_lc (n := 4) [("tie", 2)] nd (i_seq (x_var 1)) (blk_fx (N := ["n", "thing", "tie", "at"]) (sc := defScope st_is_record) (by decide +kernel)) (fun _ _ _ _ _ => g_name 2 nd) (fun _ _ _ _ _ => t_nil) (fun _ _ _ _ _ => x_callN G_is_tie (hr.mono (by decide)) t.m_is_tie t.F_is_tie.kp t.b_is_tie pass0 (AD.to true false (a_cons (x_var 0) (a_cons (x_var 2) (a_nil)))))).nv) (a_nil))))))
    (b_one (z_ret (x_bl)))
    ((b_nil).to [.im false, .im false, .no, .no]))
    (b_one (z_ret (x_all t.n_all (AD.to true true (a_cons ((x_lc (n := 4) [("at", 3)] nd (i_rng2 t.n_range (AD.to true true (a_cons (x_int) (a_cons (x_len t.n_len (AD.to true false (a_cons (x_var 1) (a_nil)))) (a_nil))))) (blk_fx (N := ["n", "thing", "tie", "at"]) (sc := defScope st_is_record) (by decide +kernel)) (fun _ _ _ _ _ => g_name 3 nd) (fun _ _ _ _ _ => t_nil) (fun _ _ _ _ _ => x_cmp or_lt (x_ix (x_ix (x_var 1) (x_sub (x_var 3) (x_int))) (x_int)) (x_ix (x_ix (x_var 1) (x_var 3)) (x_int)))).nv) (a_nil)))))))) rfl⟩
abbrev g_joined : Gs := FamL.g_joined
abbrev f_joined : List Dt → O Dt := FamL.f_joined
theorem ok_joined (t : Tx K mg) : FnOk P w K mg base CX0 1 t.a_joined t.d_joined ["marks", "a", "b"] (spL K mg 3 f_joined) := by
  have nd : (["marks", "a", "b", "low", "high", "mark"] : List Str).Nodup := by decide +kernel
  exact fn_okL t.F_joined (Δn := [.im false, .im false, .im false, .no, .no, .no]) sc_joined rfl rfl (by decide) fun cdv A outer s H E hr => ⟨_, BD.frm [.im false, .im false, .im false, .no, .no, .no] (Δb := kd0 3 6 false) (Δc := kd0 3 6 false)
    (b_cons ((z_set 3 nd (x_min2 t.n_min (AD.to true false (a_cons (x_ix (x_var 0) (x_var 1)) (a_cons (x_ix (x_var 0) (x_var 2)) (a_nil)))))).to [.im false, .im false, .im false, .im true, .no, .no])
    (b_cons ((z_set 4 nd (x_max2 t.n_max (AD.to true false (a_cons (x_ix (x_var 0) (x_var 1)) (a_cons (x_ix (x_var 0) (x_var 2)) (a_nil)))))).to [.im false, .im false, .im false, .im true, .im true, .no])
    (b_one (z_retL (PD.purN (x_lc (n := 6) [("mark", 5)] nd (i_seq (x_var 0)) (blk_fx (N := ["marks", "a", "b", "low", "high", "mark"]) (sc := defScope st_joined) (by decide +kernel)) (fun _ _ _ _ _ => g_name 5 nd) (fun _ _ _ _ _ => t_nil) (fun _ _ _ _ _ => x_ifE (c_cmp (or_eq hr) (x_var 5) (x_var 4)) ((x_var 3).wk (av' := true) (fr' := false)) (x_var 5)))))))) rfl⟩
abbrev g_is_depth : Gs := FamL.g_is_depth
abbrev f_is_depth : List Dt → O Dt := FamL.f_is_depth
theorem ok_is_depth (t : Tx K mg) : FnOk P w K mg base CX0 2 t.a_is_depth t.d_is_depth ["thing"] (spG K mg 1 f_is_depth) := by
  obtain ⟨_, h_MOST_LAYERS_layers⟩ := t.c_MOST_LAYERS_layers
  have G_is_whole := ok_is_whole (P := P) (w := w) (base := base) t
  have nd : (["thing"] : List Str).Nodup := by decide +kernel
  exact fn_okN t.F_is_depth (Δn := [.im false]) sc_is_depth rfl rfl (by decide) fun cdv A outer s H E hr => ⟨_, BD.frm [.im false] (Δb := kd0 1 1 false) (Δc := kd0 1 1 false)
    (b_one (z_ret (x_and (x_callN G_is_whole (hr.mono (by decide)) t.m_is_whole t.F_is_whole.kp t.b_is_whole pass0 (AD.to true false (a_cons (x_var 0) (a_nil)))) (x_one (x_chain or_le or_le (x_int) (x_var 0) (x_glob (v := .int (6)) h_MOST_LAYERS_layers ⟨_, rfl⟩ (.int _))))))) rfl⟩
abbrev g_look_at_layers : Gs := FamL.g_look_at_layers
abbrev f_look_at_layers : List Dt → O Dt := FamL.f_look_at_layers
theorem ok_look_at_layers (t : Tx K mg) : FnOk P w K mg base CX0 3 t.a_look_at_layers t.d_look_at_layers ["k"] (spG K mg 1 f_look_at_layers) := by
  have G_is_depth := ok_is_depth (P := P) (w := w) (base := base) t
  have nd : (["k"] : List Str).Nodup := by decide +kernel
  exact fn_okN t.F_look_at_layers (Δn := [.im false]) sc_look_at_layers rfl rfl (by decide) fun cdv A outer s H E hr => ⟨_, BD.frm [.im false] (Δb := kd0 1 1 false) (Δc := kd0 1 1 false)
    (BD.to [.im false] (b_one (z_if (Δn := [.im false]) (c_not (c_val (x_callN G_is_depth (hr.mono (by decide)) t.m_is_depth t.F_is_depth.kp t.b_is_depth pass0 (AD.to true false (a_cons (x_var 0) (a_nil))))))
    (b_one (z_never))
    ((b_nil).to [.im false])))) rfl⟩
abbrev g_layer_for : Gs := FamL.g_layer_for
abbrev f_layer_for : List Dt → O Dt := FamL.f_layer_for
theorem ok_layer_for (t : Tx K mg) : FnOk P w K mg base CX0 1 t.a_layer_for t.d_layer_for ["marks", "a", "b"] (spG K mg 3 f_layer_for) := by
  have nd : (["marks", "a", "b", "j", "row"] : List Str).Nodup := by decide +kernel
  exact fn_okN t.F_layer_for (Δn := [.im false, .im false, .im false, .no, .no]) sc_layer_for rfl rfl (by decide) fun cdv A outer s H E hr => ⟨_, BD.frm [.im false, .im false, .im false, .no, .no] (Δb := kd0 3 5 false) (Δc := kd0 3 5 false)
    (b_cons (z_for (n := 5) .never (i_enum t.n_enumerate (AD.to true false (a_cons (x_var 0) (a_nil)))) (g_tup (m := 2) rfl (g_cons (g_name 3 nd) (g_cons (g_name 4 nd) (g_nil))) (tgCons_len (tgCons_len tgNil_len)))
    ((b_one (z_if (Δn := [.im false, .im false, .im false, .im false, .im false]) (c_cmp (or_ne hr) (x_ix (x_var 4) (x_var 1)) (x_ix (x_var 4) (x_var 2)))
    (b_one (z_ret (x_add (x_var 3) (x_int))))
    ((b_nil).to [.im false, .im false, .im false, .im false, .im false]))).to [.im false, .im false, .im false, .no, .no]))
    (b_one (z_ret (x_int)))) rfl⟩
abbrev g_layered : Gs := FamL.g_layered
abbrev f_layered : List Dt → O Dt := FamL.f_layered
theorem ok_layered (t : Tx K mg) : FnOk P w K mg base CX0 4 t.a_layered t.d_layered ["n", "record", "k"] (spL K mg 3 f_layered) := by
  have G_look_at_layers := ok_look_at_layers (P := P) (w := w) (base := base) t
  have G_layer_for := ok_layer_for (P := P) (w := w) (base := base) t
  have G_joined := ok_joined (P := P) (w := w) (base := base) t
  have nd : (["n", "record", "k", "marks", "j", "numbers", "moment", "a", "b"] : List Str).Nodup := by decide +kernel
  exact fn_okL t.F_layered (Δn := [.im false, .im false, .im false, .no, .no, .no, .no, .no, .no]) sc_layered rfl rfl (by decide) fun cdv A outer s H E hr => ⟨_, BD.frm [.im false, .im false, .im false, .no, .no, .no, .no, .no, .no] (Δb := kd0 3 9 false) (Δc := kd0 3 9 false)
    (b_cons ((z_expr (x_callN G_look_at_layers (hr.mono (by decide)) t.m_look_at_layers t.F_look_at_layers.kp t.b_look_at_layers pass0 (AD.to true false (a_cons (x_var 2) (a_nil))))).to [.im false, .im false, .im false, .no, .no, .no, .no, .no, .no])
    (b_cons ((z_setLc 3 (n := 9) [("j", 4)] nd (i_rng1 t.n_range (AD.to true false (a_cons (x_var 2) (a_nil)))) (blk_fx (N := ["n", "record", "k", "marks", "j", "numbers", "moment", "a", "b"]) (sc := defScope st_layered) (by decide +kernel)) (fun _ _ _ _ _ => g_name 4 nd) (fun _ _ _ _ _ => t_nil) (fun _ _ _ _ _ => (x_lrng1 t.n_list t.n_range (x_var 0)).nv) (sw_true rfl rfl rfl (by decide +kernel))).to [.im false, .im false, .im false, .own .l true, .no, .no, .no, .no, .no])
    (b_cons ((z_setO 5 nd (x_lst (a_nil))).to [.im false, .im false, .im false, .own .l true, .no, .own .l true, .no, .no, .no])
    (b_cons (z_for (n := 9) .never (i_rev t.n_reversed (AD.to true false (a_cons (x_var 1) (a_nil)))) (g_tup (m := 3) rfl (g_cons (g_name 6 nd) (g_cons (g_name 7 nd) (g_cons (g_name 8 nd) (g_nil)))) (tgCons_len (tgCons_len (tgCons_len tgNil_len))))
    ((b_cons ((z_set 4 nd (x_callN G_layer_for (hr.mono (by decide)) t.m_layer_for t.F_layer_for.kp t.b_layer_for pass0 (AD.to false false (a_cons ((x_own 3).ov) (a_cons (x_var 7) (a_cons (x_var 8) (a_nil))))))).to [.im false, .im false, .im false, .own .l true, .im true, .own .l true, .im false, .im false, .im false])
    (b_cons (z_if (Δn := [.im false, .im false, .im false, .own .l true, .im true, .own .l true, .im false, .im false, .im false]) (c_cmp or_gt (x_var 4) (x_int))
    ((b_one ((z_setI 3 ((x_callL G_joined (hr.mono (by decide)) t.m_joined t.F_joined.kp t.b_joined pass0 (AD.to true false (a_cons (x_ixO (x_own 3) (x_sub (x_var 4) (x_int))) (a_cons (x_var 7) (a_cons (x_var 8) (a_nil)))))).nv) (x_sub (x_var 4) (x_int))).to [.im false, .im false, .im false, .own .l true, .im true, .own .l true, .im false, .im false, .im false])).to [.im false, .im false, .im false, .own .l true, .im true, .own .l true, .im false, .im false, .im false])
    ((b_nil).to [.im false, .im false, .im false, .own .l true, .im true, .own .l true, .im false, .im false, .im false]))
    (b_one ((z_app 5 (x_var 4)).to [.im false, .im false, .im false, .own .l true, .im true, .own .l true, .im false, .im false, .im false])))).to [.im false, .im false, .im false, .own .l true, .no, .own .l true, .no, .no, .no]))
    (b_one (z_retL (x_lrevO t.n_list t.n_reversed (x_own 5)))))))) rfl⟩
def g_is_count : Gs := gRet (gAndV (gUn (hIsa .int) (gVar 0)) (gAndV (gNotV (gUn (hIsa .bool) (gVar 0))) (gChain hLe hLe (gC (.int (1))) (gVar 0) (gVar 1))))
def f_is_count : List Dt → O Dt := fnN 2 g_is_count
theorem ok_is_count (t : Tx K mg) : FnOk P w K mg base CX0 1 t.a_is_count t.d_is_count ["thing", "most"] (spG K mg 2 f_is_count) := by
  have nd : (["thing", "most"] : List Str).Nodup := by decide +kernel
  exact fn_okN t.F_is_count (Δn := [.im false, .im false]) sc_is_count rfl rfl (by decide) fun cdv A outer s H E hr => ⟨_, BD.frm [.im false, .im false] (Δb := kd0 2 2 false) (Δc := kd0 2 2 false)
    (b_one (z_ret (x_and (x_isa .int t.n_isinstance t.n_int (x_var 0)) (x_and (x_not (x_isa .bool t.n_isinstance t.n_bool (x_var 0))) (x_one (x_chain or_le or_le (x_int) (x_var 0) (x_var 1))))))) rfl⟩
def g_is_net : Gs := gSeqS (gIfS (gOr (gNot (gTest (gUn (hIsa .tuple) (gVar 0)))) (gTest (gOp hNe (gCB hLen (gCons (gVar 0) (gNil))) (gC (.int (3)))))) (gRet (gC (.bool false))) (gNext)) (gSeqS (gAsg (gVar 0) (tgT (tgCons (tgN 1) (tgCons (tgN 2) (tgCons (tgN 3) (tgNil)))))) (gSeqS (gIfS (gOr (gNot (gTest (gCallN 2 f_is_count (gCons (gVar 1) (gCons (gC (.int (10))) (gNil)))))) (gOr (gNot (gTest (gCallN 2 f_is_count (gCons (gVar 2) (gCons (gC (.int (6))) (gNil)))))) (gNot (gTest (gCallN 2 f_is_record (gCons (gVar 1) (gCons (gVar 3) (gNil)))))))) (gRet (gC (.bool false))) (gNext)) (gRet (gOp hNotIn (gC (.int (0))) (gCallN 3 f_layered (gCons (gVar 1) (gCons (gVar 3) (gCons (gVar 2) (gNil)))))))))
def f_is_net : List Dt → O Dt := fnN 4 g_is_net
theorem ok_is_net (t : Tx K mg) : FnOk P w K mg base CX0 6 t.a_is_net t.d_is_net ["thing"] (spG K mg 1 f_is_net) := by
  obtain ⟨_, h_MOST_PLACES_nets⟩ := t.c_MOST_PLACES_nets
  obtain ⟨_, h_MOST_LAYERS_nets⟩ := t.c_MOST_LAYERS_nets
  have G_is_count := ok_is_count (P := P) (w := w) (base := base) t
  have G_is_record := ok_is_record (P := P) (w := w) (base := base) t
  have G_layered := ok_layered (P := P) (w := w) (base := base) t
  have nd : (["thing", "n", "k", "ties"] : List Str).Nodup := by decide +kernel
  exact fn_okN t.F_is_net (Δn := [.im false, .no, .no, .no]) sc_is_net rfl rfl (by decide) fun cdv A outer s H E hr => ⟨_, BD.frm [.im false, .no, .no, .no] (Δb := kd0 1 4 false) (Δc := kd0 1 4 false)
    (b_cons (z_if (Δn := [.im false, .no, .no, .no]) (c_w (w_or (c_not (c_val (x_isa .tuple t.n_isinstance t.n_tuple (x_var 0)))) (w_or1 (c_cmp (or_ne hr) (x_len t.n_len (AD.to true false (a_cons (x_var 0) (a_nil)))) (x_int)))))
    (b_one (z_ret (x_bl)))
    ((b_nil).to [.im false, .no, .no, .no]))
    (b_cons ((z_asg (n := 4) (x_var 0) (g_tup (m := 3) rfl (g_cons (g_name 1 nd) (g_cons (g_name 2 nd) (g_cons (g_name 3 nd) (g_nil)))) (tgCons_len (tgCons_len (tgCons_len tgNil_len))))).to [.im false, .im false, .im false, .im false])
    (b_cons (z_if (Δn := [.im false, .im false, .im false, .im false]) (c_w (w_or (c_not (c_val (x_callN G_is_count (hr.mono (by decide)) t.m_is_count t.F_is_count.kp t.b_is_count pass0 (AD.to true false (a_cons (x_var 1) (a_cons (x_glob (v := .int (10)) h_MOST_PLACES_nets ⟨_, rfl⟩ (.int _)) (a_nil))))))) (w_or (c_not (c_val (x_callN G_is_count (hr.mono (by decide)) t.m_is_count t.F_is_count.kp t.b_is_count pass0 (AD.to true false (a_cons (x_var 2) (a_cons (x_glob (v := .int (6)) h_MOST_LAYERS_nets ⟨_, rfl⟩ (.int _)) (a_nil))))))) (w_or1 (c_not (c_val (x_callN G_is_record (hr.mono (by decide)) t.m_is_record t.F_is_record.kp t.b_is_record pass0 (AD.to true false (a_cons (x_var 1) (a_cons (x_var 3) (a_nil)))))))))))
    (b_one (z_ret (x_bl)))
    ((b_nil).to [.im false, .im false, .im false, .im false]))
    (b_one (z_ret (x_cmp (or_notIn hr) (x_int) ((x_callL G_layered (hr.mono (by decide)) t.m_layered t.F_layered.kp t.b_layered pass0 (AD.to true false (a_cons (x_var 1) (a_cons (x_var 3) (a_cons (x_var 2) (a_nil)))))).nv))))))) rfl⟩
def g_tie_text : Gs := gSeqS (gAsg (gVar 0) (tgT (tgCons (tgN 1) (tgCons (tgN 2) (tgCons (tgN 3) (tgNil)))))) (gRet (gOp hAddS (gOp hAddS (gOp hAddS (gOp hAddS (gCB hStrI (gCons (gVar 1) (gNil))) (gC (.str ":"))) (gCB hStrI (gCons (gVar 2) (gNil)))) (gC (.str "-"))) (gCB hStrI (gCons (gVar 3) (gNil)))))
def f_tie_text : List Dt → O Dt := fnN 4 g_tie_text
theorem ok_tie_text (t : Tx K mg) : FnOk P w K mg base CX0 1 t.a_tie_text t.d_tie_text ["tie"] (spG K mg 1 f_tie_text) := by
  have nd : (["tie", "moment", "a", "b"] : List Str).Nodup := by decide +kernel
  exact fn_okN t.F_tie_text (Δn := [.im false, .no, .no, .no]) sc_tie_text rfl rfl (by decide) fun cdv A outer s H E hr => ⟨_, BD.frm [.im false, .no, .no, .no] (Δb := kd0 1 4 false) (Δc := kd0 1 4 false)
    (b_cons ((z_asg (n := 4) (x_var 0) (g_tup (m := 3) rfl (g_cons (g_name 1 nd) (g_cons (g_name 2 nd) (g_cons (g_name 3 nd) (g_nil)))) (tgCons_len (tgCons_len (tgCons_len tgNil_len))))).to [.im false, .im false, .im false, .im false])
    (b_one (z_ret (x_addS (x_addS (x_addS (x_addS (x_strI t.n_str (AD.to true false (a_cons (x_var 1) (a_nil)))) (x_str)) (x_strI t.n_str (AD.to true false (a_cons (x_var 2) (a_nil))))) (x_str)) (x_strI t.n_str (AD.to true false (a_cons (x_var 3) (a_nil)))))))) rfl⟩
def g_record_text : Gs := gSeqS (gIfS (gTest (gOp hEq (gVar 0) (gLst (gNil)))) (gRet (gC (.str "none"))) (gNext)) (gRet (gM1 hJoin (gC (.str "; ")) (gLc (gSeq (gVar 0)) (tgN 1) (gYes) (gCallN 1 f_tie_text (gCons (gVar 1) (gNil))))))
def f_record_text : List Dt → O Dt := fnN 2 g_record_text
theorem ok_record_text (t : Tx K mg) : FnOk P w K mg base CX0 2 t.a_record_text t.d_record_text ["record"] (spG K mg 1 f_record_text) := by
  obtain ⟨_, h_NOTHING⟩ := t.c_NOTHING
  have G_tie_text := ok_tie_text (P := P) (w := w) (base := base) t
  have nd : (["record", "tie"] : List Str).Nodup := by decide +kernel
  exact fn_okN t.F_record_text (Δn := [.im false, .no]) sc_record_text rfl rfl (by decide) fun cdv A outer s H E hr => ⟨_, BD.frm [.im false, .no] (Δb := kd0 1 2 false) (Δc := kd0 1 2 false)
    (b_cons (z_if (Δn := [.im false, .no]) (c_cmp (or_eq hr) (x_var 0) ((x_lst (a_nil)).nv))
    (b_one (z_ret (x_glob (v := .str "none") h_NOTHING ⟨_, rfl⟩ (.str _))))
    ((b_nil).to [.im false, .no]))
    (b_one (z_ret (x_join (x_str) ((x_lc (n := 2) [("tie", 1)] nd (i_seq (x_var 0)) (blk_fx (N := ["record", "tie"]) (sc := defScope st_record_text) (by decide +kernel)) (fun _ _ _ _ _ => g_name 1 nd) (fun _ _ _ _ _ => t_nil) (fun _ _ _ _ _ => x_callN G_tie_text (hr.mono (by decide)) t.m_tie_text t.F_tie_text.kp t.b_tie_text pass0 (AD.to true false (a_cons (x_var 1) (a_nil))))).nv))))) rfl⟩
def g_net_text : Gs := gSeqS (gIfS (gNot (gTest (gCallN 1 f_is_net (gCons (gVar 0) (gNil))))) (gRaise "NoNet") (gNext)) (gSeqS (gAsg (gVar 0) (tgT (tgCons (tgN 1) (tgCons (tgN 2) (tgCons (tgN 3) (tgNil)))))) (gRet (gOp hAddS (gOp hAddS (gOp hAddS (gOp hAddS (gCB hStrI (gCons (gVar 1) (gNil))) (gC (.str " "))) (gCB hStrI (gCons (gVar 2) (gNil)))) (gC (.str " "))) (gCallN 1 f_record_text (gCons (gVar 3) (gNil))))))
def f_net_text : List Dt → O Dt := fnNX 4 g_net_text
theorem ok_net_text (t : Tx K mg) : FnOk P w K mg base (L2N.CX P w) 7 t.a_net_text t.d_net_text ["net"] (spG K mg 1 f_net_text) := by
  have G_is_net := ok_is_net (P := P) (w := w) (base := base) t
  have G_record_text := ok_record_text (P := P) (w := w) (base := base) t
  have nd : (["net", "n", "k", "ties"] : List Str).Nodup := by decide +kernel
  exact fn_okNX t.F_net_text (Δn := [.im false, .no, .no, .no]) sc_net_text rfl rfl (by decide) fun cdv A outer s H E hr tk hp => ⟨_, BD.frm [.im false, .no, .no, .no] (Δb := kd0 1 4 false) (Δc := kd0 1 4 false)
    (b_cons (z_if (Δn := [.im false, .no, .no, .no]) (c_not (c_val (x_callN G_is_net (hr.mono (by decide)) t.m_is_net t.F_is_net.kp t.b_is_net pass0 (AD.to true false (a_cons (x_var 0) (a_nil))))))
    (b_one (z_raise0 tk t.E_NoNet t.Q_NoNet))
    ((b_nil).to [.im false, .no, .no, .no]))
    (b_cons ((z_asg (n := 4) (x_var 0) (g_tup (m := 3) rfl (g_cons (g_name 1 nd) (g_cons (g_name 2 nd) (g_cons (g_name 3 nd) (g_nil)))) (tgCons_len (tgCons_len (tgCons_len tgNil_len))))).to [.im false, .im false, .im false, .im false])
    (b_one (z_ret (x_addS (x_addS (x_addS (x_addS (x_strI t.n_str (AD.to true false (a_cons (x_var 1) (a_nil)))) (x_str)) (x_strI t.n_str (AD.to true false (a_cons (x_var 2) (a_nil))))) (x_str)) (x_callN G_record_text (hr.mono (by decide)) t.m_record_text t.F_record_text.kp t.b_record_text pass0 (AD.to true false (a_cons (x_var 3) (a_nil))))))))) rfl⟩
def g_number_in_L1 : Gs := gIfS (gTest (gOp hNotInS (gVar 1) (gC (.str "0123456789")))) (gRaise "NoText") (gNext)
def g_number_in : Gs := gSeqS (gIfS (gOr (gNot (gTest (gChain hLe hLe (gC (.int (1))) (gCB hLen (gCons (gVar 0) (gNil))) (gC (.int (60)))))) (gAnd (gTest (gOp hEq (gOp hIx (gVar 0) (gC (.int (0)))) (gC (.str "0")))) (gTest (gOp hNe (gVar 0) (gC (.str "0")))))) (gRaise "NoText") (gNext)) (gSeqS (gFor (gSigns (gVar 0)) (tgN 1) g_number_in_L1) (gRet (gCB hIntS (gCons (gVar 0) (gNil)))))
def f_number_in : List Dt → O Dt := fnNX 2 g_number_in
theorem ok_number_in (t : Tx K mg) : FnOk P w K mg base (L2N.CX P w) 1 t.a_number_in t.d_number_in ["text"] (spG K mg 1 f_number_in) := by
  obtain ⟨_, h_MOST_FIGURES⟩ := t.c_MOST_FIGURES
  obtain ⟨_, h_FIGURES⟩ := t.c_FIGURES
  have nd : (["text", "sign"] : List Str).Nodup := by decide +kernel
  exact fn_okNX t.F_number_in (Δn := [.im false, .no]) sc_number_in rfl rfl (by decide) fun cdv A outer s H E hr tk hp => ⟨_, BD.frm [.im false, .no] (Δb := kd0 1 2 false) (Δc := kd0 1 2 false)
    (b_cons (z_if (Δn := [.im false, .no]) (c_w (w_or (c_not (c_chain or_le or_le (x_int) (x_len t.n_len (AD.to true false (a_cons (x_var 0) (a_nil)))) (x_glob (v := .int (60)) h_MOST_FIGURES ⟨_, rfl⟩ (.int _)))) (w_or1 (c_w (w_and (c_cmp (or_eq hr) (x_ix (x_var 0) (x_int)) (x_str)) (w_and1 (c_cmp (or_ne hr) (x_var 0) (x_str))))))))
    (b_one (z_raise0 tk t.E_NoText t.Q_NoText))
    ((b_nil).to [.im false, .no]))
    (b_cons (z_for (n := 2) hp (i_str (x_var 0)) (g_name 1 nd)
    ((b_one (z_if (Δn := [.im false, .im true]) (c_cmp or_notInS (x_var 1) (x_glob (v := .str "0123456789") h_FIGURES ⟨_, rfl⟩ (.str _)))
    (b_one (z_raise0 tk t.E_NoText t.Q_NoText))
    ((b_nil).to [.im false, .im true]))).to [.im false, .no]))
    (b_one (z_ret (x_intS t.n_int (AD.to true false (a_cons (x_var 0) (a_nil)))))))) rfl⟩
def g_tie_in : Gs := gSeqS (gAsg (gM1 hPart (gVar 0) (gC (.str ":"))) (tgT (tgCons (tgN 1) (tgCons (tgN 2) (tgCons (tgN 3) (tgNil)))))) (gSeqS (gAsg (gM1 hPart (gVar 3) (gC (.str "-"))) (tgT (tgCons (tgN 4) (tgCons (tgN 5) (tgCons (tgN 6) (tgNil)))))) (gRet (gTup (gCons (gCallX 1 f_number_in (gCons (gVar 1) (gNil))) (gCons (gCallX 1 f_number_in (gCons (gVar 4) (gNil))) (gCons (gCallX 1 f_number_in (gCons (gVar 6) (gNil))) (gNil)))))))
def f_tie_in : List Dt → O Dt := fnNX 7 g_tie_in
theorem ok_tie_in (t : Tx K mg) : FnOk P w K mg base (L2N.CX P w) 2 t.a_tie_in t.d_tie_in ["text"] (spG K mg 1 f_tie_in) := by
  have G_number_in := ok_number_in (P := P) (w := w) (base := base) t
  have nd : (["text", "moment", "colon", "ends", "a", "dash", "b"] : List Str).Nodup := by decide +kernel
  exact fn_okNX t.F_tie_in (Δn := [.im false, .no, .no, .no, .no, .no, .no]) sc_tie_in rfl rfl (by decide) fun cdv A outer s H E hr tk hp => ⟨_, BD.frm [.im false, .no, .no, .no, .no, .no, .no] (Δb := kd0 1 7 false) (Δc := kd0 1 7 false)
    (b_cons ((z_asg (n := 7) (x_part (x_var 0) (x_str)) (g_tup (m := 3) rfl (g_cons (g_name 1 nd) (g_cons (g_name 2 nd) (g_cons (g_name 3 nd) (g_nil)))) (tgCons_len (tgCons_len (tgCons_len tgNil_len))))).to [.im false, .im true, .im true, .im true, .no, .no, .no])
    (b_cons ((z_asg (n := 7) (x_part (x_var 3) (x_str)) (g_tup (m := 3) rfl (g_cons (g_name 4 nd) (g_cons (g_name 5 nd) (g_cons (g_name 6 nd) (g_nil)))) (tgCons_len (tgCons_len (tgCons_len tgNil_len))))).to [.im false, .im true, .im true, .im true, .im true, .im true, .im true])
    (b_one (z_ret (x_tup (AD.to true true (a_cons (x_callXN tk G_number_in (hr.mono (by decide)) t.m_number_in t.F_number_in.kp t.b_number_in (AD.to true true (a_cons (x_var 1) (a_nil)))) (a_cons (x_callXN tk G_number_in (hr.mono (by decide)) t.m_number_in t.F_number_in.kp t.b_number_in (AD.to true true (a_cons (x_var 4) (a_nil)))) (a_cons (x_callXN tk G_number_in (hr.mono (by decide)) t.m_number_in t.F_number_in.kp t.b_number_in (AD.to true true (a_cons (x_var 6) (a_nil)))) (a_nil)))))))))) rfl⟩
def g_read_record : Gs := gSeqS (gIfS (gTest (gOp hEq (gVar 1) (gC (.str "none")))) (gRet (gLst (gNil))) (gNext)) (gSeqS (gSet 2 (gLcX (gSeq (gM1 hSplit (gVar 1) (gC (.str "; ")))) (tgN 3) (gYes) (gCallX 1 f_tie_in (gCons (gVar 3) (gNil))))) (gSeqS (gIfS (gNot (gTest (gCallN 2 f_is_record (gCons (gVar 0) (gCons (gVar 2) (gNil)))))) (gRaise "NoText") (gNext)) (gRet (gVar 2))))
def f_read_record : List Dt → O Dt := fnLX 4 g_read_record
theorem ok_read_record (t : Tx K mg) : FnOk P w K mg base (L2N.CX P w) 6 t.a_read_record t.d_read_record ["n", "text"] (spL K mg 2 f_read_record) := by
  obtain ⟨_, h_NOTHING⟩ := t.c_NOTHING
  have G_tie_in := ok_tie_in (P := P) (w := w) (base := base) t
  have G_is_record := ok_is_record (P := P) (w := w) (base := base) t
  have nd : (["n", "text", "record", "part"] : List Str).Nodup := by decide +kernel
  exact fn_okLX t.F_read_record (Δn := [.im false, .im false, .no, .no]) sc_read_record rfl rfl (by decide) fun cdv A outer s H E hr tk hp => ⟨_, BD.frm [.im false, .im false, .no, .no] (Δb := kd0 2 4 false) (Δc := kd0 2 4 false)
    (b_cons (z_if (Δn := [.im false, .im false, .no, .no]) (c_cmp (or_eq hr) (x_var 1) (x_glob (v := .str "none") h_NOTHING ⟨_, rfl⟩ (.str _)))
    (b_one (z_retL (x_lst (a_nil))))
    ((b_nil).to [.im false, .im false, .no, .no]))
    (b_cons ((z_setLcX 2 (n := 4) [("part", 3)] tk nd (i_seq ((x_split (x_var 1) (x_str)).nv)) (blk_fx (N := ["n", "text", "record", "part"]) (sc := defScope st_read_record) (by decide +kernel)) (fun _ _ _ _ _ => g_name 3 nd) (fun _ _ _ _ _ => t_nil) (fun _ _ _ _ _ _ _ hpC => x_callXC hpC G_tie_in (hr.mono (by decide)) t.m_tie_in t.F_tie_in.kp t.b_tie_in (AD.to true true (a_cons (x_var 3) (a_nil)))) (sw_true rfl rfl rfl (by decide +kernel))).to [.im false, .im false, .own .l true, .no])
    (b_cons (z_if (Δn := [.im false, .im false, .own .l true, .no]) (c_not (c_val (x_callN G_is_record (hr.mono (by decide)) t.m_is_record t.F_is_record.kp t.b_is_record pass0 (AD.to false false (a_cons (x_var 0) (a_cons ((x_own 2).ov) (a_nil)))))))
    (b_one (z_raise0 tk t.E_NoText t.Q_NoText))
    ((b_nil).to [.im false, .im false, .own .l true, .no]))
    (b_one (z_retO 2))))) rfl⟩
def g_read_net : Gs := gSeqS (gAsg (gM1 hPart (gVar 0) (gC (.str " "))) (tgT (tgCons (tgN 1) (tgCons (tgN 2) (tgCons (tgN 3) (tgNil)))))) (gSeqS (gAsg (gM1 hPart (gVar 3) (gC (.str " "))) (tgT (tgCons (tgN 4) (tgCons (tgN 5) (tgCons (tgN 6) (tgNil)))))) (gSeqS (gSet 7 (gCallX 1 f_number_in (gCons (gVar 1) (gNil)))) (gSeqS (gSet 8 (gCallX 1 f_number_in (gCons (gVar 4) (gNil)))) (gSeqS (gIfS (gNot (gTest (gCallN 1 f_is_many (gCons (gVar 7) (gNil))))) (gRaise "NoText") (gNext)) (gSeqS (gSet 9 (gTup (gCons (gVar 7) (gCons (gVar 8) (gCons (gCallX 2 f_read_record (gCons (gVar 7) (gCons (gVar 6) (gNil)))) (gNil)))))) (gSeqS (gIfS (gNot (gTest (gCallN 1 f_is_net (gCons (gVar 9) (gNil))))) (gRaise "NoText") (gNext)) (gRet (gVar 9))))))))
def f_read_net : List Dt → O Dt := fnNX 10 g_read_net
theorem ok_read_net (t : Tx K mg) : FnOk P w K mg base (L2N.CX P w) 7 t.a_read_net t.d_read_net ["text"] (spG K mg 1 f_read_net) := by
  have G_number_in := ok_number_in (P := P) (w := w) (base := base) t
  have G_is_many := ok_is_many (P := P) (w := w) (base := base) t
  have G_read_record := ok_read_record (P := P) (w := w) (base := base) t
  have G_is_net := ok_is_net (P := P) (w := w) (base := base) t
  have nd : (["text", "places", "blank", "rest", "layers", "gap", "ties", "n", "k", "net"] : List Str).Nodup := by decide +kernel
  exact fn_okNX t.F_read_net (Δn := [.im false, .no, .no, .no, .no, .no, .no, .no, .no, .no]) sc_read_net rfl rfl (by decide) fun cdv A outer s H E hr tk hp => ⟨_, BD.frm [.im false, .no, .no, .no, .no, .no, .no, .no, .no, .no] (Δb := kd0 1 10 false) (Δc := kd0 1 10 false)
    (b_cons ((z_asg (n := 10) (x_part (x_var 0) (x_str)) (g_tup (m := 3) rfl (g_cons (g_name 1 nd) (g_cons (g_name 2 nd) (g_cons (g_name 3 nd) (g_nil)))) (tgCons_len (tgCons_len (tgCons_len tgNil_len))))).to [.im false, .im true, .im true, .im true, .no, .no, .no, .no, .no, .no])
    (b_cons ((z_asg (n := 10) (x_part (x_var 3) (x_str)) (g_tup (m := 3) rfl (g_cons (g_name 4 nd) (g_cons (g_name 5 nd) (g_cons (g_name 6 nd) (g_nil)))) (tgCons_len (tgCons_len (tgCons_len tgNil_len))))).to [.im false, .im true, .im true, .im true, .im true, .im true, .im true, .no, .no, .no])
    (b_cons ((z_set 7 nd (x_callXN tk G_number_in (hr.mono (by decide)) t.m_number_in t.F_number_in.kp t.b_number_in (AD.to true true (a_cons (x_var 1) (a_nil))))).to [.im false, .im true, .im true, .im true, .im true, .im true, .im true, .im true, .no, .no])
    (b_cons ((z_set 8 nd (x_callXN tk G_number_in (hr.mono (by decide)) t.m_number_in t.F_number_in.kp t.b_number_in (AD.to true true (a_cons (x_var 4) (a_nil))))).to [.im false, .im true, .im true, .im true, .im true, .im true, .im true, .im true, .im true, .no])
    (b_cons (z_if (Δn := [.im false, .im true, .im true, .im true, .im true, .im true, .im true, .im true, .im true, .no]) (c_not (c_val (x_callN G_is_many (hr.mono (by decide)) t.m_is_many t.F_is_many.kp t.b_is_many pass0 (AD.to true true (a_cons (x_var 7) (a_nil))))))
    (b_one (z_raise0 tk t.E_NoText t.Q_NoText))
    ((b_nil).to [.im false, .im true, .im true, .im true, .im true, .im true, .im true, .im true, .im true, .no]))
    (b_cons ((z_set 9 nd (x_tup (AD.to true true (a_cons (x_var 7) (a_cons (x_var 8) (a_cons ((x_callXL tk G_read_record (hr.mono (by decide)) t.m_read_record t.F_read_record.kp t.b_read_record (AD.to true true (a_cons (x_var 7) (a_cons (x_var 6) (a_nil))))).nv) (a_nil))))))).to [.im false, .im true, .im true, .im true, .im true, .im true, .im true, .im true, .im true, .im true])
    (b_cons (z_if (Δn := [.im false, .im true, .im true, .im true, .im true, .im true, .im true, .im true, .im true, .im true]) (c_not (c_val (x_callN G_is_net (hr.mono (by decide)) t.m_is_net t.F_is_net.kp t.b_is_net pass0 (AD.to true true (a_cons (x_var 9) (a_nil))))))
    (b_one (z_raise0 tk t.E_NoText t.Q_NoText))
    ((b_nil).to [.im false, .im true, .im true, .im true, .im true, .im true, .im true, .im true, .im true, .im true]))
    (b_one (z_ret (x_var 9)))))))))) rfl⟩
abbrev g_l_mixed : Gs := FamA.g_l_mixed
abbrev f_l_mixed : List Dt → O Dt := FamA.f_l_mixed
theorem ok_l_mixed (t : Tx K mg) : FnOk P w K mg base CX0 1 t.a_l_mixed t.d_l_mixed ["cell", "k"] (spG K mg 2 f_l_mixed) := by
  have nd : (["cell", "k", "number"] : List Str).Nodup := by decide +kernel
  exact fn_okN t.F_l_mixed (Δn := [.im false, .im false, .no]) sc_l_mixed rfl rfl (by decide) fun cdv A outer s H E hr => ⟨_, BD.frm [.im false, .im false, .no] (Δb := kd0 2 3 false) (Δc := kd0 2 3 false)
    (b_cons ((z_set 2 nd (x_mod (x_mul (x_add (x_add (x_mod (x_var 0) (x_int)) (x_mul (x_int) (x_var 1))) (x_int)) (x_int)) (x_int))).to [.im false, .im false, .im true])
    (b_cons ((z_set 2 nd (x_mod (x_add (x_mod (x_mul (x_var 2) (x_var 2)) (x_int)) (x_mul (x_int) (x_var 1))) (x_int))).to [.im false, .im false, .im true])
    (b_one (z_ret (x_mod (x_mul (x_var 2) (x_int)) (x_int)))))) rfl⟩
abbrev g_l_numbers : Gs := FamA.g_l_numbers
abbrev f_l_numbers : List Dt → O Dt := FamA.f_l_numbers
theorem ok_l_numbers (t : Tx K mg) : FnOk P w K mg base CX0 2 t.a_l_numbers t.d_l_numbers ["cell", "many", "base"] (spL K mg 3 f_l_numbers) := by
  have G_l_mixed := ok_l_mixed (P := P) (w := w) (base := base) t
  have nd : (["cell", "many", "base", "found", "left", "k", "number", "turns"] : List Str).Nodup := by decide +kernel
  exact fn_okL t.F_l_numbers (Δn := [.im false, .im false, .im false, .no, .no, .no, .no, .no]) sc_l_numbers rfl rfl (by decide) fun cdv A outer s H E hr => ⟨_, BD.frm [.im false, .im false, .im false, .no, .no, .no, .no, .no] (Δb := kd0 3 8 false) (Δc := kd0 3 8 false)
    (b_cons ((z_setO 3 nd (x_lst (a_nil))).to [.im false, .im false, .im false, .own .l true, .no, .no, .no, .no])
    (b_cons ((z_set 4 nd (x_sub (x_var 0) (x_pow (x_int) (x_int)))).to [.im false, .im false, .im false, .own .l true, .im true, .no, .no, .no])
    (b_cons (z_for (n := 8) .never (i_rng1 t.n_range (AD.to true false (a_cons (x_var 1) (a_nil)))) (g_name 5 nd)
    ((b_cons ((z_set 6 nd (x_var 4)).to [.im false, .im false, .im false, .own .l true, .im true, .im true, .im true, .no])
    (b_cons (z_if (Δn := [.im false, .im false, .im false, .own .l true, .im true, .im true, .im true, .no]) (c_cmp or_gt (x_var 4) (x_int))
    ((b_one ((z_set 4 nd (x_div (x_var 4) (x_var 2))).to [.im false, .im false, .im false, .own .l true, .im true, .im true, .im true, .no])).to [.im false, .im false, .im false, .own .l true, .im true, .im true, .im true, .no])
    ((b_cons ((z_set 6 nd (x_int)).to [.im false, .im false, .im false, .own .l true, .im true, .im true, .im true, .no])
    (b_cons ((z_set 7 nd (x_int)).to [.im false, .im false, .im false, .own .l true, .im true, .im true, .im true, .im true])
    (b_one (z_while 100 .never (c_cmp or_lt (x_mul (x_var 7) (x_int)) (x_add (x_bits (x_var 2)) (x_int)))
    ((b_cons ((z_set 6 nd (x_add (x_mul (x_var 6) (x_int)) (x_callN G_l_mixed (hr.mono (by decide)) t.m_l_mixed t.F_l_mixed.kp t.b_l_mixed pass0 (AD.to true false (a_cons (x_var 0) (a_cons (x_add (x_mul (x_int) (x_var 5)) (x_var 7)) (a_nil))))))).to [.im false, .im false, .im false, .own .l true, .im true, .im true, .im true, .im true])
    (b_one ((z_set 7 nd (x_add (x_var 7) (x_int))).to [.im false, .im false, .im false, .own .l true, .im true, .im true, .im true, .im true]))).to [.im false, .im false, .im false, .own .l true, .im true, .im true, .im true, .im true]))))).to [.im false, .im false, .im false, .own .l true, .im true, .im true, .im true, .no]))
    (b_one ((z_app 3 (x_mod (x_var 6) (x_var 2))).to [.im false, .im false, .im false, .own .l true, .im true, .im true, .im true, .no])))).to [.im false, .im false, .im false, .own .l true, .im true, .no, .no, .no]))
    (b_one (z_retO 3))))) rfl⟩
abbrev g_l_ends : Gs := FamA.g_l_ends
abbrev f_l_ends : List Dt → O Dt := FamA.f_l_ends
theorem ok_l_ends (t : Tx K mg) : FnOk P w K mg base CX0 1 t.a_l_ends t.d_l_ends ["n", "kind", "one", "other"] (spG K mg 4 f_l_ends) := by
  have nd : (["n", "kind", "one", "other", "a"] : List Str).Nodup := by decide +kernel
  exact fn_okN t.F_l_ends (Δn := [.im false, .im false, .im false, .im false, .no]) sc_l_ends rfl rfl (by decide) fun cdv A outer s H E hr => ⟨_, BD.frm [.im false, .im false, .im false, .im false, .no] (Δb := kd0 4 5 false) (Δc := kd0 4 5 false)
    (b_cons ((z_set 4 nd (x_mod (x_var 2) (x_var 0))).to [.im false, .im false, .im false, .im false, .im true])
    (b_cons (z_if (Δn := [.im false, .im false, .im false, .im false, .im true]) (c_cmp (or_eq hr) (x_var 1) (x_int))
    (b_one (z_ret (x_tup (AD.to true true (a_cons (x_var 4) (a_cons (x_mod (x_var 3) (x_var 0)) (a_nil)))))))
    ((b_nil).to [.im false, .im false, .im false, .im false, .im true]))
    (b_cons (z_if (Δn := [.im false, .im false, .im false, .im false, .im true]) (c_cmp (or_eq hr) (x_var 1) (x_int))
    (b_one (z_ret (x_tup (AD.to true true (a_cons (x_mod (x_var 2) (x_min2 t.n_min (AD.to true false (a_cons (x_var 0) (a_cons (x_int) (a_nil)))))) (a_cons (x_mod (x_var 3) (x_min2 t.n_min (AD.to true false (a_cons (x_var 0) (a_cons (x_int) (a_nil)))))) (a_nil)))))))
    ((b_nil).to [.im false, .im false, .im false, .im false, .im true]))
    (b_cons (z_if (Δn := [.im false, .im false, .im false, .im false, .im true]) (c_cmp (or_eq hr) (x_var 1) (x_int))
    (b_one (z_ret (x_tup (AD.to true true (a_cons (x_var 4) (a_cons (x_mod (x_add (x_add (x_var 4) (x_int)) (x_div (x_mod (x_var 3) (x_int)) (x_int))) (x_var 0)) (a_nil)))))))
    ((b_nil).to [.im false, .im false, .im false, .im false, .im true]))
    (b_one (z_ret (x_tup (AD.to true true (a_cons (x_var 4) (a_cons (x_mod (x_add (x_var 4) (x_mul (x_int) (x_mod (x_var 3) (x_var 0)))) (x_var 0)) (a_nil))))))))))) rfl⟩
abbrev g_l_record : Gs := FamA.g_l_record
abbrev f_l_record : List Dt → O Dt := FamA.f_l_record
theorem ok_l_record (t : Tx K mg) : FnOk P w K mg base CX0 2 t.a_l_record t.d_l_record ["numbers", "most"] (spG K mg 2 f_l_record) := by
  have G_l_ends := ok_l_ends (P := P) (w := w) (base := base) t
  have nd : (["numbers", "most", "n", "many", "wide", "moment", "record", "k", "a", "b"] : List Str).Nodup := by decide +kernel
  exact fn_okN t.F_l_record (Δn := [.im false, .im false, .no, .no, .no, .no, .no, .no, .no, .no]) sc_l_record rfl rfl (by decide) fun cdv A outer s H E hr => ⟨_, BD.frm [.im false, .im false, .no, .no, .no, .no, .no, .no, .no, .no] (Δb := kd0 2 10 false) (Δc := kd0 2 10 false)
    (b_cons ((z_set 2 nd (x_add (x_int) (x_mod (x_ix (x_var 0) (x_int)) (x_int)))).to [.im false, .im false, .im true, .no, .no, .no, .no, .no, .no, .no])
    (b_cons (z_if (Δn := [.im false, .im false, .im true, .no, .no, .no, .no, .no, .no, .no]) (c_cmp (or_eq hr) (x_mod (x_div (x_ix (x_var 0) (x_int)) (x_int)) (x_int)) (x_int))
    ((b_one ((z_set 2 nd (x_add (x_int) (x_mod (x_div (x_ix (x_var 0) (x_int)) (x_int)) (x_int)))).to [.im false, .im false, .im true, .no, .no, .no, .no, .no, .no, .no])).to [.im false, .im false, .im true, .no, .no, .no, .no, .no, .no, .no])
    ((b_nil).to [.im false, .im false, .im true, .no, .no, .no, .no, .no, .no, .no]))
    (b_cons ((z_set 3 nd (x_mod (x_ix (x_var 0) (x_int)) (x_int))).to [.im false, .im false, .im true, .im true, .no, .no, .no, .no, .no, .no])
    (b_cons (z_if (Δn := [.im false, .im false, .im true, .im true, .no, .no, .no, .no, .no, .no]) (c_cmp (or_eq hr) (x_mod (x_div (x_ix (x_var 0) (x_int)) (x_int)) (x_int)) (x_int))
    ((b_one ((z_set 3 nd (x_add (x_int) (x_mod (x_div (x_ix (x_var 0) (x_int)) (x_int)) (x_int)))).to [.im false, .im false, .im true, .im true, .no, .no, .no, .no, .no, .no])).to [.im false, .im false, .im true, .im true, .no, .no, .no, .no, .no, .no])
    ((b_nil).to [.im false, .im false, .im true, .im true, .no, .no, .no, .no, .no, .no]))
    (b_cons ((z_set 4 nd (x_ix ((x_lst (AD.to true true (a_cons (x_int) (a_cons (x_int) (a_cons (x_pow (x_int) (x_int)) (a_nil)))))).nv) (x_mod (x_ix (x_var 0) (x_int)) (x_int)))).to [.im false, .im false, .im true, .im true, .im true, .no, .no, .no, .no, .no])
    (b_cons ((z_set 5 nd (x_ix ((x_lst (AD.to true true (a_cons (x_int) (a_cons (x_mod (x_div (x_ix (x_var 0) (x_int)) (x_int)) (x_int)) (a_cons (x_mod (x_ix (x_var 0) (x_int)) (x_pow (x_int) (x_int))) (a_nil)))))).nv) (x_mod (x_div (x_ix (x_var 0) (x_int)) (x_int)) (x_int)))).to [.im false, .im false, .im true, .im true, .im true, .im true, .no, .no, .no, .no])
    (b_cons ((z_setO 6 nd (x_lst (a_nil))).to [.im false, .im false, .im true, .im true, .im true, .im true, .own .l true, .no, .no, .no])
    (b_cons (z_for (n := 10) .never (i_rng1 t.n_range (AD.to true true (a_cons (x_min3 t.n_min (AD.to true false (a_cons (x_var 3) (a_cons (x_var 1) (a_cons (x_div (x_sub (x_len t.n_len (AD.to true false (a_cons (x_var 0) (a_nil)))) (x_int)) (x_int)) (a_nil)))))) (a_nil)))) (g_name 7 nd)
    ((b_cons ((z_asg (n := 10) (x_callN G_l_ends (hr.mono (by decide)) t.m_l_ends t.F_l_ends.kp t.b_l_ends pass0 (AD.to true false (a_cons (x_var 2) (a_cons (x_mod (x_ix (x_var 0) (x_int)) (x_int)) (a_cons (x_ix (x_var 0) (x_add (x_int) (x_mul (x_int) (x_var 7)))) (a_cons (x_ix (x_var 0) (x_add (x_int) (x_mul (x_int) (x_var 7)))) (a_nil))))))) (g_tup (m := 2) rfl (g_cons (g_name 8 nd) (g_cons (g_name 9 nd) (g_nil))) (tgCons_len (tgCons_len tgNil_len)))).to [.im false, .im false, .im true, .im true, .im true, .im true, .own .l true, .im true, .im true, .im true])
    (b_cons ((z_app 6 (x_tup (AD.to true true (a_cons (x_var 5) (a_cons (x_min2 t.n_min (AD.to true true (a_cons (x_var 8) (a_cons (x_var 9) (a_nil))))) (a_cons (x_max2 t.n_max (AD.to true true (a_cons (x_var 8) (a_cons (x_var 9) (a_nil))))) (a_nil))))))).to [.im false, .im false, .im true, .im true, .im true, .im true, .own .l true, .im true, .im true, .im true])
    (b_one ((z_set 5 nd (x_add (x_add (x_var 5) (x_int)) (x_mod (x_ix (x_var 0) (x_add (x_int) (x_mul (x_int) (x_var 7)))) (x_var 4)))).to [.im false, .im false, .im true, .im true, .im true, .im true, .own .l true, .im true, .im true, .im true])))).to [.im false, .im false, .im true, .im true, .im true, .im true, .own .l true, .no, .no, .no]))
    (b_one (z_ret (x_tup (AD.to false true (a_cons (x_var 2) (a_cons ((x_own 6).ov) (a_nil))))))))))))))) rfl⟩
abbrev g_l_depth : Gs := FamL.g_l_depth
abbrev f_l_depth : List Dt → O Dt := FamL.f_l_depth
theorem ok_l_depth (t : Tx K mg) : FnOk P w K mg base CX0 1 t.a_l_depth t.d_l_depth ["number"] (spG K mg 1 f_l_depth) := by
  have nd : (["number"] : List Str).Nodup := by decide +kernel
  exact fn_okN t.F_l_depth (Δn := [.im false]) sc_l_depth rfl rfl (by decide) fun cdv A outer s H E hr => ⟨_, BD.frm [.im false] (Δb := kd0 1 1 false) (Δc := kd0 1 1 false)
    (b_one (z_ret (x_ix ((x_lst (AD.to true true (a_cons (x_add (x_int) (x_mod (x_var 0) (x_int))) (a_cons (x_add (x_int) (x_mod (x_div (x_var 0) (x_int)) (x_int))) (a_nil))))).nv) (x_int1 t.n_int (AD.to true true (a_cons (x_cmp (or_eq hr) (x_mod (x_var 0) (x_int)) (x_int)) (a_nil))))))) rfl⟩
def g_l_joined_L1 : Gs := gSeqS (gSet 8 (gOp hIx (gVar 4) (gVar 6))) (gSeqS (gSet 9 (gOp hIx (gVar 4) (gVar 7))) (gSet 4 (gLc (gSeq (gVar 4)) (tgN 10) (gYes) (gIf (gTest (gOp hEq (gVar 10) (gVar 8))) (gVar 9) (gVar 10)))))
def g_l_joined : Gs := gSeqS (gSet 4 (gLsI (gRng1 (gCons (gVar 0) gNil)))) (gSeqS (gFor (gSeq (gVar 1)) (tgT (tgCons (tgN 5) (tgCons (tgN 6) (tgCons (tgN 7) (tgNil))))) g_l_joined_L1) (gRet (gOp hEq (gOp hIx (gVar 4) (gVar 2)) (gOp hIx (gVar 4) (gVar 3)))))
def f_l_joined : List Dt → O Dt := fnN 11 g_l_joined
theorem ok_l_joined (t : Tx K mg) : FnOk P w K mg base CX0 1 t.a_l_joined t.d_l_joined ["n", "ties", "a", "b"] (spG K mg 4 f_l_joined) := by
  have nd : (["n", "ties", "a", "b", "marks", "moment", "one", "other", "old", "new", "mark"] : List Str).Nodup := by decide +kernel
  exact fn_okN t.F_l_joined (Δn := [.im false, .im false, .im false, .im false, .no, .no, .no, .no, .no, .no, .no]) sc_l_joined rfl rfl (by decide) fun cdv A outer s H E hr => ⟨_, BD.frm [.im false, .im false, .im false, .im false, .no, .no, .no, .no, .no, .no, .no] (Δb := kd0 4 11 false) (Δc := kd0 4 11 false)
    (b_cons ((z_set 4 nd ((x_lrng1 t.n_list t.n_range (x_var 0)).nv)).to [.im false, .im false, .im false, .im false, .im true, .no, .no, .no, .no, .no, .no])
    (b_cons (z_for (n := 11) .never (i_seq (x_var 1)) (g_tup (m := 3) rfl (g_cons (g_name 5 nd) (g_cons (g_name 6 nd) (g_cons (g_name 7 nd) (g_nil)))) (tgCons_len (tgCons_len (tgCons_len tgNil_len))))
    ((b_cons ((z_set 8 nd (x_ix (x_var 4) (x_var 6))).to [.im false, .im false, .im false, .im false, .im true, .im false, .im false, .im false, .im true, .no, .no])
    (b_cons ((z_set 9 nd (x_ix (x_var 4) (x_var 7))).to [.im false, .im false, .im false, .im false, .im true, .im false, .im false, .im false, .im true, .im true, .no])
    (b_one ((z_setLc 4 (n := 11) [("mark", 10)] nd (i_seq (x_var 4)) (blk_fx (N := ["n", "ties", "a", "b", "marks", "moment", "one", "other", "old", "new", "mark"]) (sc := defScope st_l_joined) (by decide +kernel)) (fun _ _ _ _ _ => g_name 10 nd) (fun _ _ _ _ _ => t_nil) (fun _ _ _ _ _ => x_ifE (c_cmp (or_eq hr) (x_var 10) (x_var 8)) (x_var 9) (x_var 10)) (sw_true rfl rfl rfl (by decide +kernel))).to [.im false, .im false, .im false, .im false, .im true, .im false, .im false, .im false, .im true, .im true, .no])))).to [.im false, .im false, .im false, .im false, .im true, .no, .no, .no, .no, .no, .no]))
    (b_one (z_ret (x_cmp (or_eq hr) (x_ix (x_var 4) (x_var 2)) (x_ix (x_var 4) (x_var 3))))))) rfl⟩
def g_l_numbered_L1 : Gs := gSeqS (gSet 6 (gLc (gRng2 (gCons (gOp hAdd (gVar 4) (gC (.int (1)))) (gCons (gCB hLen (gCons (gVar 1) (gNil))) (gNil)))) (tgN 7) (gTest (gOp hEq (gOp hIx (gVar 3) (gVar 7)) (gVar 5))) (gOp hIx (gVar 1) (gVar 7)))) (gIfS (gNot (gTest (gCallN 4 f_l_joined (gCons (gVar 0) (gCons (gVar 6) (gCons (gOp hIx (gOp hIx (gVar 1) (gVar 4)) (gC (.int (1)))) (gCons (gOp hIx (gOp hIx (gVar 1) (gVar 4)) (gC (.int (2)))) (gNil)))))))) (gSetI 3 (gVar 5) (gVar 4)) (gNext))
def g_l_numbered_L2 : Gs := gFor (gRng3 (gCons (gVar 2) (gCons (gC (.int (0))) (gCons (gUn (hU fun i => -i) (gC (.int (1)))) (gNil))))) (tgN 5) g_l_numbered_L1
def g_l_numbered : Gs := gSeqS (gSet 3 (gOp hRep (gLst (gCons (gC (.int (0))) (gNil))) (gCB hLen (gCons (gVar 1) (gNil))))) (gSeqS (gFor (gRng3 (gCons (gOp hSub (gCB hLen (gCons (gVar 1) (gNil))) (gC (.int (1)))) (gCons (gUn (hU fun i => -i) (gC (.int (1)))) (gCons (gUn (hU fun i => -i) (gC (.int (1)))) (gNil))))) (tgN 4) g_l_numbered_L2) (gRet (gVar 3)))
def f_l_numbered : List Dt → O Dt := fnL 8 g_l_numbered
theorem ok_l_numbered (t : Tx K mg) : FnOk P w K mg base CX0 2 t.a_l_numbered t.d_l_numbered ["n", "record", "k"] (spL K mg 3 f_l_numbered) := by
  have G_l_joined := ok_l_joined (P := P) (w := w) (base := base) t
  have nd : (["n", "record", "k", "numbers", "at", "j", "ties", "later"] : List Str).Nodup := by decide +kernel
  exact fn_okL t.F_l_numbered (Δn := [.im false, .im false, .im false, .no, .no, .no, .no, .no]) sc_l_numbered rfl rfl (by decide) fun cdv A outer s H E hr => ⟨_, BD.frm [.im false, .im false, .im false, .no, .no, .no, .no, .no] (Δb := kd0 3 8 false) (Δc := kd0 3 8 false)
    (b_cons ((z_setO 3 nd (x_rep (x_lst (AD.to true true (a_cons (x_int) (a_nil)))) (x_len t.n_len (AD.to true false (a_cons (x_var 1) (a_nil)))))).to [.im false, .im false, .im false, .own .l true, .no, .no, .no, .no])
    (b_cons (z_for (n := 8) .never (i_rng3 t.n_range (AD.to true true (a_cons (x_sub (x_len t.n_len (AD.to true false (a_cons (x_var 1) (a_nil)))) (x_int)) (a_cons (x_neg (x_int)) (a_cons (x_neg (x_int)) (a_nil)))))) (g_name 4 nd)
    ((b_one (z_for (n := 8) .never (i_rng3 t.n_range (AD.to true false (a_cons (x_var 2) (a_cons (x_int) (a_cons (x_neg (x_int)) (a_nil)))))) (g_name 5 nd)
    ((b_cons ((z_setLc 6 (n := 8) [("later", 7)] nd (i_rng2 t.n_range (AD.to true true (a_cons (x_add (x_var 4) (x_int)) (a_cons (x_len t.n_len (AD.to true false (a_cons (x_var 1) (a_nil)))) (a_nil))))) (blk_fx (N := ["n", "record", "k", "numbers", "at", "j", "ties", "later"]) (sc := defScope st_l_numbered) (by decide +kernel)) (fun _ _ _ _ _ => g_name 7 nd) (fun _ _ _ _ _ => t_one (c_cmp (or_eq hr) (x_ixO (x_own 3) (x_var 7)) (x_var 5))) (fun _ _ _ _ _ => x_ix (x_var 1) (x_var 7)) (sw_true rfl rfl rfl (by decide +kernel))).to [.im false, .im false, .im false, .own .l true, .im true, .im true, .im false, .no])
    (b_one (z_if (Δn := [.im false, .im false, .im false, .own .l true, .im true, .im true, .im false, .no]) (c_not (c_val (x_callN G_l_joined (hr.mono (by decide)) t.m_l_joined t.F_l_joined.kp t.b_l_joined pass0 (AD.to true false (a_cons (x_var 0) (a_cons (x_var 6) (a_cons (x_ix (x_ix (x_var 1) (x_var 4)) (x_int)) (a_cons (x_ix (x_ix (x_var 1) (x_var 4)) (x_int)) (a_nil)))))))))
    ((b_one ((z_setI 3 (x_var 5) (x_var 4)).to [.im false, .im false, .im false, .own .l true, .im true, .im true, .im false, .no])).to [.im false, .im false, .im false, .own .l true, .im true, .im true, .im false, .no])
    ((b_nil).to [.im false, .im false, .im false, .own .l true, .im true, .im true, .im false, .no])))).to [.im false, .im false, .im false, .own .l true, .im true, .no, .no, .no]))).to [.im false, .im false, .im false, .own .l true, .no, .no, .no, .no]))
    (b_one (z_retO 3)))) rfl⟩
def g_l_text : Gs := gSeqS (gIfS (gTest (gOp hEq (gVar 0) (gLst (gNil)))) (gRet (gC (.str "none"))) (gNext)) (gRet (gM1 hJoin (gC (.str "; ")) (gLc (gSeq (gVar 0)) (tgN 1) (gYes) (gOp hAddS (gOp hAddS (gOp hAddS (gOp hAddS (gCB hStrI (gCons (gOp hIx (gVar 1) (gC (.int (0)))) (gNil))) (gC (.str ":"))) (gCB hStrI (gCons (gOp hIx (gVar 1) (gC (.int (1)))) (gNil)))) (gC (.str "-"))) (gCB hStrI (gCons (gOp hIx (gVar 1) (gC (.int (2)))) (gNil)))))))
def f_l_text : List Dt → O Dt := fnN 2 g_l_text
theorem ok_l_text (t : Tx K mg) : FnOk P w K mg base CX0 1 t.a_l_text t.d_l_text ["record"] (spG K mg 1 f_l_text) := by
  have nd : (["record", "tie"] : List Str).Nodup := by decide +kernel
  exact fn_okN t.F_l_text (Δn := [.im false, .no]) sc_l_text rfl rfl (by decide) fun cdv A outer s H E hr => ⟨_, BD.frm [.im false, .no] (Δb := kd0 1 2 false) (Δc := kd0 1 2 false)
    (b_cons (z_if (Δn := [.im false, .no]) (c_cmp (or_eq hr) (x_var 0) ((x_lst (a_nil)).nv))
    (b_one (z_ret (x_str)))
    ((b_nil).to [.im false, .no]))
    (b_one (z_ret (x_join (x_str) ((x_lc (n := 2) [("tie", 1)] nd (i_seq (x_var 0)) (blk_fx (N := ["record", "tie"]) (sc := defScope st_l_text) (by decide +kernel)) (fun _ _ _ _ _ => g_name 1 nd) (fun _ _ _ _ _ => t_nil) (fun _ _ _ _ _ => x_addS (x_addS (x_addS (x_addS (x_strI t.n_str (AD.to true false (a_cons (x_ix (x_var 1) (x_int)) (a_nil)))) (x_str)) (x_strI t.n_str (AD.to true false (a_cons (x_ix (x_var 1) (x_int)) (a_nil))))) (x_str)) (x_strI t.n_str (AD.to true false (a_cons (x_ix (x_var 1) (x_int)) (a_nil)))))).nv))))) rfl⟩
def g_l_read : Gs := gSeqS (gSet 1 (gC .none)) (gSeqS (gSet 2 (gC .none)) (gSeqS (gTry (gSet 2 (gCallX 1 f_read_net (gCons (gVar 0) (gNil)))) ["NoNet", "NoText"] [] 3 (gSet 1 (gVar 3))) (gSeqS (gIfS (gTest (gOp hIs (gVar 1) (gC .none))) (gRet (gVar 2)) (gNext)) (gSeqS (gIfS (gOr (gNot (gTest (gUn (hIsX [("NoNet", false), ("NoText", true)]) (gVar 1)))) (gTest (gUn (hIsX [("NoNet", true), ("NoText", false)]) (gVar 1)))) (gRet (gC (.str "odd"))) (gNext)) (gRet (gC .none))))))
def f_l_read : List Dt → O Dt := fnN 4 g_l_read
theorem ok_l_read (t : Tx K mg) : FnOk P w K mg base CX0 8 t.a_l_read t.d_l_read ["text"] (spG K mg 1 f_l_read) := by
  have G_read_net := ok_read_net (P := P) (w := w) (base := base) t
  have nd : (["text", "caught", "found", "e"] : List Str).Nodup := by decide +kernel
  exact fn_okN t.F_l_read (Δn := [.im false, .no, .no, .no]) sc_l_read rfl rfl (by decide) fun cdv A outer s H E hr => ⟨_, BD.frm [.im false, .no, .no, .no] (Δb := kd0 1 4 false) (Δc := kd0 1 4 false)
    (b_cons ((z_set 1 nd (x_non)).to [.im false, .im true, .no, .no])
    (b_cons ((z_set 2 nd (x_non)).to [.im false, .im true, .im true, .no])
    (b_cons (z_tryX (Δn := [.im false, .im true, .im true, .no]) (yes := ["NoNet", "NoText"]) (no := []) 3 t.E_PlyError takesN (co_cons t.E_NoNet t.S_NoNet_PlyError (co_cons t.E_NoText t.S_NoText_PlyError (co_nil))) (co_nil) (fun _ _ _ z => z.elim) nd (fun Wx pn xe tkk => BDx.to [.im false, .im true, .im true, .no] (BDx.to [.im false, .im true, .im true, .no] (y_one (y_set 2 nd (x_callXN tkk G_read_net (hr.mono (by decide)) t.m_read_net t.F_read_net.kp t.b_read_net (AD.to true false (a_cons (x_var 0) (a_nil)))))))) (fun a pn => (b_one ((z_set 1 nd (x_var 3)).to [.im false, .im true, .im true, .im true])).to [.im false, .im true, .im true, .no]))
    (b_cons (z_if (Δn := [.im false, .im true, .im true, .no]) (c_cmp or_isN (x_var 1) (x_non))
    (b_one (z_ret (x_var 2)))
    ((b_nil).to [.im false, .im true, .im true, .no]))
    (b_cons (z_if (Δn := [.im false, .im true, .im true, .no]) (c_w (w_or (c_not (c_val (x_isX t.n_isinstance t.E_NoText.g (tab_cons t.E_NoNet (kit_no t.E_NoText t.S_NoNet_NoText t.S_NoNet_NoNet) (tab_cons t.E_NoText (kit_yes t.E_NoText t.S_NoText_NoText) (tab_nil))) (x_var 1)))) (w_or1 (c_val (x_isXT t.n_isinstance (ca_cons t.E_Clash.g (ca_cons t.E_NoLayers.g (ca_cons t.E_NoNet.g (ca_cons t.E_NoPlaces.g (ca_cons t.E_NoTies.g (ca_nil)))))) (tab_cons t.E_NoNet (kany_cons (kit_no t.E_Clash t.S_NoNet_Clash t.S_NoNet_NoNet) (kany_cons (kit_no t.E_NoLayers t.S_NoNet_NoLayers t.S_NoNet_NoNet) (kany_cons (kit_yes t.E_NoNet t.S_NoNet_NoNet) (kany_cons (kit_no t.E_NoPlaces t.S_NoNet_NoPlaces t.S_NoNet_NoNet) (kany_cons (kit_no t.E_NoTies t.S_NoNet_NoTies t.S_NoNet_NoNet) (rfl)))))) (tab_cons t.E_NoText (kany_cons (kit_no t.E_Clash t.S_NoText_Clash t.S_NoText_NoText) (kany_cons (kit_no t.E_NoLayers t.S_NoText_NoLayers t.S_NoText_NoText) (kany_cons (kit_no t.E_NoNet t.S_NoText_NoNet t.S_NoText_NoText) (kany_cons (kit_no t.E_NoPlaces t.S_NoText_NoPlaces t.S_NoText_NoText) (kany_cons (kit_no t.E_NoTies t.S_NoText_NoTies t.S_NoText_NoText) (rfl)))))) (tab_nil))) (x_var 1))))))
    (b_one (z_ret (x_str)))
    ((b_nil).to [.im false, .im true, .im true, .no]))
    (b_one (z_ret (x_non)))))))) rfl⟩
def g_l_due_L1 : Gs := gIfS (gTest (gOp hGe (gOp hIx (gVar 3) (gC (.int (2)))) (gVar 0))) (gRet (gC .none)) (gNext)
def g_l_due : Gs := gSeqS (gIfS (gOr (gNot (gTest (gChain hLe hLe (gC (.int (1))) (gVar 0) (gC (.int (10)))))) (gNot (gTest (gChain hLe hLe (gC (.int (1))) (gVar 1) (gC (.int (6))))))) (gRet (gC .none)) (gNext)) (gSeqS (gFor (gSeq (gVar 2)) (tgN 3) g_l_due_L1) (gSeqS (gIfS (gTest (gOp hIn (gC (.int (0))) (gCallN 3 f_l_numbered (gCons (gVar 0) (gCons (gVar 2) (gCons (gVar 1) (gNil))))))) (gRet (gC .none)) (gNext)) (gRet (gTup (gCons (gVar 0) (gCons (gVar 1) (gCons (gVar 2) (gNil))))))))
def f_l_due : List Dt → O Dt := fnN 4 g_l_due
theorem ok_l_due (t : Tx K mg) : FnOk P w K mg base CX0 3 t.a_l_due t.d_l_due ["n", "k", "ties"] (spA K mg 3 f_l_due) := by
  have G_l_numbered := ok_l_numbered (P := P) (w := w) (base := base) t
  have nd : (["n", "k", "ties", "tie"] : List Str).Nodup := by decide +kernel
  exact fn_okA t.F_l_due (Δn := [.im true, .im true, .im true, .no]) sc_l_due rfl rfl (by decide) fun cdv A outer s H E hr => ⟨_, BD.frm [.im true, .im true, .im true, .no] (Δb := kd0 3 4 true) (Δc := kd0 3 4 true)
    (b_cons (z_if (Δn := [.im true, .im true, .im true, .no]) (c_w (w_or (c_not (c_chain or_le or_le (x_int) (x_var 0) (x_int))) (w_or1 (c_not (c_chain or_le or_le (x_int) (x_var 1) (x_int))))))
    (b_one (z_ret (x_non)))
    ((b_nil).to [.im true, .im true, .im true, .no]))
    (b_cons (z_for (n := 4) .never (i_seq (x_var 2)) (g_name 3 nd)
    ((b_one (z_if (Δn := [.im true, .im true, .im true, .im true]) (c_cmp or_ge (x_ix (x_var 3) (x_int)) (x_var 0))
    (b_one (z_ret (x_non)))
    ((b_nil).to [.im true, .im true, .im true, .im true]))).to [.im true, .im true, .im true, .no]))
    (b_cons (z_if (Δn := [.im true, .im true, .im true, .no]) (c_cmp (or_in hr) (x_int) ((x_callL G_l_numbered (hr.mono (by decide)) t.m_l_numbered t.F_l_numbered.kp t.b_l_numbered pass0 (AD.to true true (a_cons (x_var 0) (a_cons (x_var 2) (a_cons (x_var 1) (a_nil)))))).nv))
    (b_one (z_ret (x_non)))
    ((b_nil).to [.im true, .im true, .im true, .no]))
    (b_one (z_ret (x_tup (AD.to true true (a_cons (x_var 0) (a_cons (x_var 1) (a_cons (x_var 2) (a_nil))))))))))) rfl⟩
def g_l_bad : Gs := gSeqS (gSet 4 (gCallN 1 f_l_text (gCons (gVar 2) (gNil)))) (gSeqS (gSet 5 (gLst (gCons (gOp hAddS (gOp hAddS (gCB hStrI (gCons (gVar 0) (gNil))) (gC (.str " "))) (gCB hStrI (gCons (gVar 1) (gNil)))) (gCons (gOp hAddS (gOp hAddS (gOp hAddS (gOp hAddS (gCB hStrI (gCons (gVar 0) (gNil))) (gC (.str "  "))) (gCB hStrI (gCons (gVar 1) (gNil)))) (gC (.str " "))) (gVar 4)) (gCons (gVar 4) (gCons (gOp hAddS (gOp hAddS (gCB hStrI (gCons (gVar 1) (gNil))) (gC (.str " "))) (gVar 4)) (gNil))))))) (gSeqS (gSet 5 (gOp hCat (gVar 5) (gLst (gCons (gC (.str "")) (gCons (gC (.str "none")) (gCons (gC (.str "3 2")) (gCons (gC (.str "3 2 ")) (gNil)))))))) (gSeqS (gSet 5 (gOp hCat (gVar 5) (gLst (gCons (gOp hAddS (gOp hAddS (gOp hAddS (gC (.str "0")) (gCB hStrI (gCons (gVar 0) (gNil)))) (gC (.str " 1 "))) (gVar 4)) (gCons (gOp hAddS (gCB hStrI (gCons (gVar 0) (gNil))) (gC (.str " 01 none"))) (gCons (gC (.str "1 0 none")) (gCons (gC (.str "11 2 none")) (gCons (gC (.str "-1 2 none")) (gCons (gC (.str "2 7 none")) (gNil)))))))))) (gRet (gOp hIx (gOp hCat (gVar 5) (gLst (gCons (gOp hAddS (gOp hAddS (gOp hAddS (gOp hAddS (gOp hAddS (gCB hStrI (gCons (gVar 0) (gNil))) (gC (.str " "))) (gCB hStrI (gCons (gVar 1) (gNil)))) (gC (.str " "))) (gVar 4)) (gC (.str " "))) (gCons (gC (.str "1 1 0:0-0")) (gNil))))) (gOp hMod (gVar 3) (gC (.int (16)))))))))
def f_l_bad : List Dt → O Dt := fnN 6 g_l_bad
theorem ok_l_bad (t : Tx K mg) : FnOk P w K mg base CX0 2 t.a_l_bad t.d_l_bad ["n", "k", "ties", "number"] (spG K mg 4 f_l_bad) := by
  have G_l_text := ok_l_text (P := P) (w := w) (base := base) t
  have nd : (["n", "k", "ties", "number", "text", "some"] : List Str).Nodup := by decide +kernel
  exact fn_okN t.F_l_bad (Δn := [.im false, .im false, .im false, .im false, .no, .no]) sc_l_bad rfl rfl (by decide) fun cdv A outer s H E hr => ⟨_, BD.frm [.im false, .im false, .im false, .im false, .no, .no] (Δb := kd0 4 6 false) (Δc := kd0 4 6 false)
    (b_cons ((z_set 4 nd (x_callN G_l_text (hr.mono (by decide)) t.m_l_text t.F_l_text.kp t.b_l_text pass0 (AD.to true false (a_cons (x_var 2) (a_nil))))).to [.im false, .im false, .im false, .im false, .im true, .no])
    (b_cons ((z_set 5 nd ((x_lst (AD.to true true (a_cons (x_addS (x_addS (x_strI t.n_str (AD.to true false (a_cons (x_var 0) (a_nil)))) (x_str)) (x_strI t.n_str (AD.to true false (a_cons (x_var 1) (a_nil))))) (a_cons (x_addS (x_addS (x_addS (x_addS (x_strI t.n_str (AD.to true false (a_cons (x_var 0) (a_nil)))) (x_str)) (x_strI t.n_str (AD.to true false (a_cons (x_var 1) (a_nil))))) (x_str)) (x_var 4)) (a_cons (x_var 4) (a_cons (x_addS (x_addS (x_strI t.n_str (AD.to true false (a_cons (x_var 1) (a_nil)))) (x_str)) (x_var 4)) (a_nil))))))).nv)).to [.im false, .im false, .im false, .im false, .im true, .im true])
    (b_cons ((z_set 5 nd ((PD.wkN true (x_cat (x_var 5) ((x_lst (AD.to true true (a_cons (x_str) (a_cons (x_str) (a_cons (x_str) (a_cons (x_str) (a_nil))))))).nv))).nv)).to [.im false, .im false, .im false, .im false, .im true, .im true])
    (b_cons ((z_set 5 nd ((PD.wkN true (x_cat (x_var 5) ((x_lst (AD.to true true (a_cons (x_addS (x_addS (x_addS (x_str) (x_strI t.n_str (AD.to true false (a_cons (x_var 0) (a_nil))))) (x_str)) (x_var 4)) (a_cons (x_addS (x_strI t.n_str (AD.to true false (a_cons (x_var 0) (a_nil)))) (x_str)) (a_cons (x_str) (a_cons (x_str) (a_cons (x_str) (a_cons (x_str) (a_nil))))))))).nv))).nv)).to [.im false, .im false, .im false, .im false, .im true, .im true])
    (b_one (z_ret (x_ix ((PD.wkN true (x_cat (x_var 5) ((x_lst (AD.to true true (a_cons (x_addS (x_addS (x_addS (x_addS (x_addS (x_strI t.n_str (AD.to true false (a_cons (x_var 0) (a_nil)))) (x_str)) (x_strI t.n_str (AD.to true false (a_cons (x_var 1) (a_nil))))) (x_str)) (x_var 4)) (x_str)) (a_cons (x_str) (a_nil))))).nv))).nv) (x_mod (x_var 3) (x_int))))))))) rfl⟩
def g_l_no_net : Gs := gSeqS (gSet 5 (gLst (gCons (gTup (gCons (gVar 0) (gCons (gVar 1) (gNil)))) (gCons (gTup (gCons (gVar 0) (gCons (gVar 1) (gCons (gVar 2) (gCons (gC (.int (0))) (gNil)))))) (gCons (gLst (gCons (gVar 0) (gCons (gVar 1) (gCons (gCB (one hListOf) (gCons (gVar 2) gNil)) (gNil))))) (gCons (gTup (gCons (gVar 0) (gCons (gVar 1) (gCons (gCB (one hTupOf) (gCons (gVar 2) (gNil))) (gNil))))) (gCons (gC .none) (gCons (gC (.str "3 2 none")) (gCons (gTup (gCons (gC (.int (11))) (gCons (gVar 1) (gCons (gVar 2) (gNil))))) (gNil)))))))))) (gSeqS (gSet 5 (gOp hCat (gVar 5) (gLst (gCons (gTup (gCons (gVar 0) (gCons (gC (.int (7))) (gCons (gVar 2) (gNil))))) (gCons (gTup (gCons (gVar 0) (gCons (gC (.int (0))) (gCons (gVar 2) (gNil))))) (gCons (gTup (gCons (gC (.int (0))) (gCons (gVar 1) (gCons (gLst (gNil)) (gNil))))) (gCons (gTup (gCons (gVar 0) (gCons (gVar 1) (gCons (gC .none) (gNil))))) (gCons (gTup (gCons (gC (.bool true)) (gCons (gVar 1) (gCons (gLst (gNil)) (gNil))))) (gCons (gTup (gCons (gVar 0) (gCons (gC (.bool true)) (gCons (gVar 2) (gNil))))) (gNil)))))))))) (gSeqS (gSet 5 (gOp hCat (gVar 5) (gLst (gCons (gTup (gCons (gVar 0) (gCons (gVar 1) (gCons (gOp hCat (gVar 2) (gLst (gCons (gC .none) (gNil)))) (gNil))))) (gCons (gTup (gCons (gVar 0) (gCons (gVar 1) (gCons (gOp hCat (gVar 2) (gLst (gCons (gTup (gCons (gOp hPow (gC (.int (10))) (gC (.int (30)))) (gCons (gC (.int (0))) (gCons (gC (.int (0))) (gNil))))) (gNil)))) (gNil))))) (gCons (gTup (gCons (gVar 0) (gCons (gVar 1) (gCons (gLst (gCons (gTup (gCons (gC (.int (1))) (gCons (gC (.int (0))) (gCons (gVar 0) (gNil))))) (gNil))) (gNil))))) (gCons (gC (.int (7))) (gCons (gTup (gNil)) (gNil))))))))) (gSeqS (gIfS (gTest (gOp hGt (gCB hLen (gCons (gVar 3) (gNil))) (gCB hLen (gCons (gVar 2) (gNil))))) (gApp 5 (gTup (gCons (gVar 0) (gCons (gVar 1) (gCons (gVar 3) (gNil)))))) (gNext)) (gRet (gOp hIx (gVar 5) (gOp hMod (gVar 4) (gCB hLen (gCons (gVar 5) (gNil)))))))))
def f_l_no_net : List Dt → O Dt := fnN 6 g_l_no_net
theorem ok_l_no_net (t : Tx K mg) : FnOk P w K mg base CX0 1 t.a_l_no_net t.d_l_no_net ["n", "k", "ties", "record", "number"] (spA K mg 5 f_l_no_net) := by
  have nd : (["n", "k", "ties", "record", "number", "some"] : List Str).Nodup := by decide +kernel
  exact fn_okA t.F_l_no_net (Δn := [.im true, .im true, .im true, .im true, .im true, .no]) sc_l_no_net rfl rfl (by decide) fun cdv A outer s H E hr => ⟨_, BD.frm [.im true, .im true, .im true, .im true, .im true, .no] (Δb := kd0 5 6 true) (Δc := kd0 5 6 true)
    (b_cons ((z_setO 5 nd (x_lst (AD.to true true (a_cons (x_tup (AD.to true true (a_cons (x_var 0) (a_cons (x_var 1) (a_nil))))) (a_cons (x_tup (AD.to true true (a_cons (x_var 0) (a_cons (x_var 1) (a_cons (x_var 2) (a_cons (x_int) (a_nil))))))) (a_cons ((x_lst (AD.to true true (a_cons (x_var 0) (a_cons (x_var 1) (a_cons ((x_list t.n_list (a_cons (x_var 2) a_nil)).nv) (a_nil)))))).nv) (a_cons (x_tup (AD.to true true (a_cons (x_var 0) (a_cons (x_var 1) (a_cons (x_tuple t.n_tuple (AD.to true true (a_cons (x_var 2) (a_nil)))) (a_nil)))))) (a_cons (x_non) (a_cons (x_str) (a_cons (x_tup (AD.to true true (a_cons (x_int) (a_cons (x_var 1) (a_cons (x_var 2) (a_nil)))))) (a_nil))))))))))).to [.im true, .im true, .im true, .im true, .im true, .own .l true])
    (b_cons ((z_setO 5 nd (PD.wkN true (x_catO (x_own 5) ((x_lst (AD.to true true (a_cons (x_tup (AD.to true true (a_cons (x_var 0) (a_cons (x_int) (a_cons (x_var 2) (a_nil)))))) (a_cons (x_tup (AD.to true true (a_cons (x_var 0) (a_cons (x_int) (a_cons (x_var 2) (a_nil)))))) (a_cons (x_tup (AD.to true true (a_cons (x_int) (a_cons (x_var 1) (a_cons ((x_lst (a_nil)).nv) (a_nil)))))) (a_cons (x_tup (AD.to true true (a_cons (x_var 0) (a_cons (x_var 1) (a_cons (x_non) (a_nil)))))) (a_cons (x_tup (AD.to true true (a_cons (x_bl) (a_cons (x_var 1) (a_cons ((x_lst (a_nil)).nv) (a_nil)))))) (a_cons (x_tup (AD.to true true (a_cons (x_var 0) (a_cons (x_bl) (a_cons (x_var 2) (a_nil)))))) (a_nil))))))))).nv)))).to [.im true, .im true, .im true, .im true, .im true, .own .l true])
    (b_cons ((z_setO 5 nd (PD.wkN true (x_catO (x_own 5) ((x_lst (AD.to true true (a_cons (x_tup (AD.to true true (a_cons (x_var 0) (a_cons (x_var 1) (a_cons ((PD.wkN true (x_cat (x_var 2) ((x_lst (AD.to true true (a_cons (x_non) (a_nil)))).nv))).nv) (a_nil)))))) (a_cons (x_tup (AD.to true true (a_cons (x_var 0) (a_cons (x_var 1) (a_cons ((PD.wkN true (x_cat (x_var 2) ((x_lst (AD.to true true (a_cons (x_tup (AD.to true true (a_cons (x_pow (x_int) (x_int)) (a_cons (x_int) (a_cons (x_int) (a_nil)))))) (a_nil)))).nv))).nv) (a_nil)))))) (a_cons (x_tup (AD.to true true (a_cons (x_var 0) (a_cons (x_var 1) (a_cons ((x_lst (AD.to true true (a_cons (x_tup (AD.to true true (a_cons (x_int) (a_cons (x_int) (a_cons (x_var 0) (a_nil)))))) (a_nil)))).nv) (a_nil)))))) (a_cons (x_int) (a_cons (x_tup (a_nil)) (a_nil)))))))).nv)))).to [.im true, .im true, .im true, .im true, .im true, .own .l true])
    (b_cons (z_if (Δn := [.im true, .im true, .im true, .im true, .im true, .own .l true]) (c_cmp or_gt (x_len t.n_len (AD.to true true (a_cons (x_var 3) (a_nil)))) (x_len t.n_len (AD.to true true (a_cons (x_var 2) (a_nil)))))
    ((b_one ((z_app 5 (x_tup (AD.to true true (a_cons (x_var 0) (a_cons (x_var 1) (a_cons (x_var 3) (a_nil))))))).to [.im true, .im true, .im true, .im true, .im true, .own .l true])).to [.im true, .im true, .im true, .im true, .im true, .own .l true])
    ((b_nil).to [.im true, .im true, .im true, .im true, .im true, .own .l true]))
    (b_one (z_ret (x_ixO (x_own 5) (x_mod (x_var 4) (x_len t.n_len (AD.to false true (a_cons ((x_own 5).ov) (a_nil)))))))))))) rfl⟩
def g_l_unwritten : Gs := gSeqS (gSet 1 (gC .none)) (gSeqS (gTry (gDrop (gCallX 1 f_net_text (gCons (gVar 0) (gNil)))) ["NoNet", "NoText"] [] 2 (gSet 1 (gVar 2))) (gSeqS (gIfS (gOr (gNot (gTest (gUn (hIsX [("NoNet", true), ("NoText", false)]) (gVar 1)))) (gNot (gTest (gUn (hIsX [("NoNet", true), ("NoText", true)]) (gVar 1))))) (gRet (gC (.bool false))) (gNext)) (gRet (gNotV (gUn (hIsX [("NoNet", false), ("NoText", true)]) (gVar 1))))))
def f_l_unwritten : List Dt → O Dt := fnN 3 g_l_unwritten
theorem ok_l_unwritten (t : Tx K mg) : FnOk P w K mg base CX0 8 t.a_l_unwritten t.d_l_unwritten ["thing"] (spG K mg 1 f_l_unwritten) := by
  have G_net_text := ok_net_text (P := P) (w := w) (base := base) t
  have nd : (["thing", "caught", "e"] : List Str).Nodup := by decide +kernel
  exact fn_okN t.F_l_unwritten (Δn := [.im false, .no, .no]) sc_l_unwritten rfl rfl (by decide) fun cdv A outer s H E hr => ⟨_, BD.frm [.im false, .no, .no] (Δb := kd0 1 3 false) (Δc := kd0 1 3 false)
    (b_cons ((z_set 1 nd (x_non)).to [.im false, .im true, .no])
    (b_cons (z_tryX (Δn := [.im false, .im true, .no]) (yes := ["NoNet", "NoText"]) (no := []) 2 t.E_PlyError takesN (co_cons t.E_NoNet t.S_NoNet_PlyError (co_cons t.E_NoText t.S_NoText_PlyError (co_nil))) (co_nil) (fun _ _ _ z => z.elim) nd (fun Wx pn xe tkk => BDx.to [.im false, .im true, .no] (y_one (y_drop (x_callXN tkk G_net_text (hr.mono (by decide)) t.m_net_text t.F_net_text.kp t.b_net_text (AD.to true false (a_cons (x_var 0) (a_nil))))))) (fun a pn => (b_one ((z_set 1 nd (x_var 2)).to [.im false, .im true, .im true])).to [.im false, .im true, .no]))
    (b_cons (z_if (Δn := [.im false, .im true, .no]) (c_w (w_or (c_not (c_val (x_isX t.n_isinstance t.E_NoNet.g (tab_cons t.E_NoNet (kit_yes t.E_NoNet t.S_NoNet_NoNet) (tab_cons t.E_NoText (kit_no t.E_NoNet t.S_NoText_NoNet t.S_NoText_NoText) (tab_nil))) (x_var 1)))) (w_or1 (c_not (c_val (x_isXB t.n_isinstance t.n_ValueError (tab_cons t.E_NoNet (kit_bi t.S_NoNet_ValueError) (tab_cons t.E_NoText (kit_bi t.S_NoText_ValueError) (tab_nil))) (x_var 1)))))))
    (b_one (z_ret (x_bl)))
    ((b_nil).to [.im false, .im true, .no]))
    (b_one (z_ret (x_not (x_isXT t.n_isinstance (ca_cons t.E_Clash.g (ca_cons t.E_NoLayers.g (ca_cons t.E_NoPlaces.g (ca_cons t.E_NoText.g (ca_cons t.E_NoTies.g (ca_nil)))))) (tab_cons t.E_NoNet (kany_cons (kit_no t.E_Clash t.S_NoNet_Clash t.S_NoNet_NoNet) (kany_cons (kit_no t.E_NoLayers t.S_NoNet_NoLayers t.S_NoNet_NoNet) (kany_cons (kit_no t.E_NoPlaces t.S_NoNet_NoPlaces t.S_NoNet_NoNet) (kany_cons (kit_no t.E_NoText t.S_NoNet_NoText t.S_NoNet_NoNet) (kany_cons (kit_no t.E_NoTies t.S_NoNet_NoTies t.S_NoNet_NoNet) (rfl)))))) (tab_cons t.E_NoText (kany_cons (kit_no t.E_Clash t.S_NoText_Clash t.S_NoText_NoText) (kany_cons (kit_no t.E_NoLayers t.S_NoText_NoLayers t.S_NoText_NoText) (kany_cons (kit_no t.E_NoPlaces t.S_NoText_NoPlaces t.S_NoText_NoText) (kany_cons (kit_yes t.E_NoText t.S_NoText_NoText) (kany_cons (kit_no t.E_NoTies t.S_NoText_NoTies t.S_NoText_NoText) (rfl)))))) (tab_nil))) (x_var 1)))))))) rfl⟩
def g_law_L1 : Gs := gSeqS (gSet 13 (gOp hAddS (gOp hAddS (gOp hAddS (gOp hAddS (gCB hStrI (gCons (gVar 10) (gNil))) (gC (.str " "))) (gCB hStrI (gCons (gVar 11) (gNil)))) (gC (.str " "))) (gCallN 1 f_l_text (gCons (gVar 12) (gNil))))) (gIfS (gTest (gOp hNe (gCallN 1 f_l_read (gCons (gVar 13) (gNil))) (gCallN 3 f_l_due (gCons (gVar 10) (gCons (gVar 11) (gCons (gVar 12) (gNil))))))) (gRet (gC (.bool false))) (gNext))
def g_law_L2 : Gs := gSeqS (gSet 2 (gCallN 3 f_l_numbers (gCons (gVar 1) (gCons (gC (.int (48))) (gCons (gOp hPow (gC (.int (10))) (gC (.int (30)))) (gNil)))))) (gSeqS (gAsg (gCallN 2 f_l_record (gCons (gSl hSl (gVar 2) (gPart (gC (.int (8)))) (gNoPart)) (gCons (gC (.int (12))) (gNil)))) (tgT (tgCons (tgN 3) (tgCons (tgN 4) (tgNil))))) (gSeqS (gSet 5 (gCallN 1 f_l_depth (gCons (gOp hIx (gVar 2) (gC (.int (0)))) (gNil)))) (gSeqS (gSet 6 (gCallN 3 f_l_numbered (gCons (gVar 3) (gCons (gVar 4) (gCons (gVar 5) (gNil)))))) (gSeqS (gSet 7 (gLc (gZip (gCons (gVar 4) (gCons (gVar 6) (gNil)))) (tgT (tgCons (tgN 8) (tgCons (tgN 9) (tgNil)))) (gTest (gOp hGt (gVar 9) (gC (.int (0))))) (gVar 8))) (gSeqS (gFor (gSeq (gLst (gCons (gTup (gCons (gVar 3) (gCons (gVar 5) (gCons (gVar 7) (gNil))))) (gCons (gTup (gCons (gVar 3) (gCons (gVar 5) (gCons (gVar 4) (gNil))))) (gCons (gTup (gCons (gVar 3) (gCons (gOp hAdd (gC (.int (1))) (gOp hMod (gOp hIx (gVar 2) (gC (.int (1)))) (gC (.int (6))))) (gCons (gVar 7) (gNil))))) (gNil)))))) (tgT (tgCons (tgN 10) (tgCons (tgN 11) (tgCons (tgN 12) (tgNil))))) g_law_L1) (gSeqS (gSet 10 (gOp hMod (gOp hIx (gVar 2) (gC (.int (2)))) (gC (.int (13))))) (gSeqS (gSet 13 (gOp hAddS (gOp hAddS (gOp hAddS (gOp hAddS (gCB hStrI (gCons (gVar 10) (gNil))) (gC (.str " "))) (gCB hStrI (gCons (gVar 5) (gNil)))) (gC (.str " "))) (gCallN 1 f_l_text (gCons (gVar 7) (gNil))))) (gSeqS (gIfS (gTest (gOp hNe (gCallN 1 f_l_read (gCons (gVar 13) (gNil))) (gCallN 3 f_l_due (gCons (gVar 10) (gCons (gVar 5) (gCons (gVar 7) (gNil))))))) (gRet (gC (.bool false))) (gNext)) (gSeqS (gIfS (gTest (gOp hIsNot (gCallN 1 f_l_read (gCons (gCallN 4 f_l_bad (gCons (gVar 3) (gCons (gVar 5) (gCons (gVar 7) (gCons (gOp hIx (gVar 2) (gC (.int (3)))) (gNil)))))) (gNil))) (gC .none))) (gRet (gC (.bool false))) (gNext)) (gIfS (gNot (gTest (gCallN 1 f_l_unwritten (gCons (gCallN 5 f_l_no_net (gCons (gVar 3) (gCons (gVar 5) (gCons (gVar 7) (gCons (gVar 4) (gCons (gOp hIx (gVar 2) (gC (.int (4)))) (gNil))))))) (gNil))))) (gRet (gC (.bool false))) (gNext)))))))))))
def g_law : Gs := gSeqS (gFor (gSeq (gOp hCat (gSl hSlF (gVar 0) (gNoPart) (gPart (gC (.int (10))))) (gLst (gCons (gCB hLenF (gCons (gVar 0) (gNil))) (gNil))))) (tgN 1) g_law_L2) (gRet (gC (.bool true)))
def f_law : List Dt → O Dt := fnN 14 g_law
theorem ok_law (t : Tx K mg) : FnOk P w K mg base CX0 9 t.a_law t.d_law ["script"] (spG K mg 1 f_law) := by
  have G_l_numbers := ok_l_numbers (P := P) (w := w) (base := base) t
  have G_l_record := ok_l_record (P := P) (w := w) (base := base) t
  have G_l_depth := ok_l_depth (P := P) (w := w) (base := base) t
  have G_l_numbered := ok_l_numbered (P := P) (w := w) (base := base) t
  have G_l_text := ok_l_text (P := P) (w := w) (base := base) t
  have G_l_read := ok_l_read (P := P) (w := w) (base := base) t
  have G_l_due := ok_l_due (P := P) (w := w) (base := base) t
  have G_l_bad := ok_l_bad (P := P) (w := w) (base := base) t
  have G_l_unwritten := ok_l_unwritten (P := P) (w := w) (base := base) t
  have G_l_no_net := ok_l_no_net (P := P) (w := w) (base := base) t
  have nd : (["script", "cell", "numbers", "n", "record", "k", "told", "ties", "tie", "number", "places", "layers", "some", "text"] : List Str).Nodup := by decide +kernel
  exact fn_okN t.F_law (Δn := [.im false, .no, .no, .no, .no, .no, .no, .no, .no, .no, .no, .no, .no, .no]) sc_law rfl rfl (by decide) fun cdv A outer s H E hr => ⟨_, BD.frm [.im false, .no, .no, .no, .no, .no, .no, .no, .no, .no, .no, .no, .no, .no] (Δb := kd0 1 14 false) (Δc := kd0 1 14 false)
    (b_cons (z_for (n := 14) .never (i_seq ((PD.wkN false (x_cat ((x_slF (x_var 0) (o_none) (o_some (x_int))).nv) ((x_lst (AD.to true true (a_cons (x_lenF t.n_len (AD.to true false (a_cons (x_var 0) (a_nil)))) (a_nil)))).nv))).nv)) (g_name 1 nd)
    ((b_cons ((z_set 2 nd ((x_callL G_l_numbers (hr.mono (by decide)) t.m_l_numbers t.F_l_numbers.kp t.b_l_numbers pass0 (AD.to true false (a_cons (x_var 1) (a_cons (x_int) (a_cons (x_pow (x_int) (x_int)) (a_nil)))))).nv)).to [.im false, .im false, .im true, .no, .no, .no, .no, .no, .no, .no, .no, .no, .no, .no])
    (b_cons ((z_asg (n := 14) (x_callN G_l_record (hr.mono (by decide)) t.m_l_record t.F_l_record.kp t.b_l_record pass0 (AD.to true true (a_cons ((x_sl (x_var 2) (o_some (x_int)) (o_none)).nv) (a_cons (x_int) (a_nil))))) (g_tup (m := 2) rfl (g_cons (g_name 3 nd) (g_cons (g_name 4 nd) (g_nil))) (tgCons_len (tgCons_len tgNil_len)))).to [.im false, .im false, .im true, .im true, .im true, .no, .no, .no, .no, .no, .no, .no, .no, .no])
    (b_cons ((z_set 5 nd (x_callN G_l_depth (hr.mono (by decide)) t.m_l_depth t.F_l_depth.kp t.b_l_depth pass0 (AD.to true true (a_cons (x_ix (x_var 2) (x_int)) (a_nil))))).to [.im false, .im false, .im true, .im true, .im true, .im true, .no, .no, .no, .no, .no, .no, .no, .no])
    (b_cons ((z_set 6 nd ((x_callL G_l_numbered (hr.mono (by decide)) t.m_l_numbered t.F_l_numbered.kp t.b_l_numbered pass0 (AD.to true true (a_cons (x_var 3) (a_cons (x_var 4) (a_cons (x_var 5) (a_nil)))))).nv)).to [.im false, .im false, .im true, .im true, .im true, .im true, .im true, .no, .no, .no, .no, .no, .no, .no])
    (b_cons ((z_setLc 7 (n := 14) [("tie", 8), ("number", 9)] nd (i_zip t.n_zip (AD.to true true (a_cons (x_var 4) (a_cons (x_var 6) (a_nil))))) (blk_fx (N := ["script", "cell", "numbers", "n", "record", "k", "told", "ties", "tie", "number", "places", "layers", "some", "text"]) (sc := defScope st_law) (by decide +kernel)) (fun _ _ _ _ _ => g_tup (m := 2) rfl (g_cons (g_name 8 nd) (g_cons (g_name 9 nd) (g_nil))) (tgCons_len (tgCons_len tgNil_len))) (fun _ _ _ _ _ => t_one (c_cmp or_gt (x_var 9) (x_int))) (fun _ _ _ _ _ => x_var 8) (sw_true rfl rfl rfl (by decide +kernel))).to [.im false, .im false, .im true, .im true, .im true, .im true, .im true, .im true, .no, .no, .no, .no, .no, .no])
    (b_cons (z_for (n := 14) .never (i_seq ((x_lst (AD.to true true (a_cons (x_tup (AD.to true true (a_cons (x_var 3) (a_cons (x_var 5) (a_cons (x_var 7) (a_nil)))))) (a_cons (x_tup (AD.to true true (a_cons (x_var 3) (a_cons (x_var 5) (a_cons (x_var 4) (a_nil)))))) (a_cons (x_tup (AD.to true true (a_cons (x_var 3) (a_cons (x_add (x_int) (x_mod (x_ix (x_var 2) (x_int)) (x_int))) (a_cons (x_var 7) (a_nil)))))) (a_nil)))))).nv)) (g_tup (m := 3) rfl (g_cons (g_name 10 nd) (g_cons (g_name 11 nd) (g_cons (g_name 12 nd) (g_nil)))) (tgCons_len (tgCons_len (tgCons_len tgNil_len))))
    ((b_cons ((z_set 13 nd (x_addS (x_addS (x_addS (x_addS (x_strI t.n_str (AD.to true true (a_cons (x_var 10) (a_nil)))) (x_str)) (x_strI t.n_str (AD.to true true (a_cons (x_var 11) (a_nil))))) (x_str)) (x_callN G_l_text (hr.mono (by decide)) t.m_l_text t.F_l_text.kp t.b_l_text pass0 (AD.to true true (a_cons (x_var 12) (a_nil)))))).to [.im false, .im false, .im true, .im true, .im true, .im true, .im true, .im true, .no, .no, .im true, .im true, .im true, .im true])
    (b_one (z_if (Δn := [.im false, .im false, .im true, .im true, .im true, .im true, .im true, .im true, .no, .no, .im true, .im true, .im true, .im true]) (c_cmp (or_ne hr) (x_callN G_l_read (hr.mono (by decide)) t.m_l_read t.F_l_read.kp t.b_l_read pass0 (AD.to true true (a_cons (x_var 13) (a_nil)))) (x_callA G_l_due (hr.mono (by decide)) t.m_l_due t.F_l_due.kp t.b_l_due pass0 (AD.to true true (a_cons (x_var 10) (a_cons (x_var 11) (a_cons (x_var 12) (a_nil)))))))
    (b_one (z_ret (x_bl)))
    ((b_nil).to [.im false, .im false, .im true, .im true, .im true, .im true, .im true, .im true, .no, .no, .im true, .im true, .im true, .im true])))).to [.im false, .im false, .im true, .im true, .im true, .im true, .im true, .im true, .no, .no, .no, .no, .no, .no]))
    (b_cons ((z_set 10 nd (x_mod (x_ix (x_var 2) (x_int)) (x_int))).to [.im false, .im false, .im true, .im true, .im true, .im true, .im true, .im true, .no, .no, .im true, .no, .no, .no])
    (b_cons ((z_set 13 nd (x_addS (x_addS (x_addS (x_addS (x_strI t.n_str (AD.to true true (a_cons (x_var 10) (a_nil)))) (x_str)) (x_strI t.n_str (AD.to true true (a_cons (x_var 5) (a_nil))))) (x_str)) (x_callN G_l_text (hr.mono (by decide)) t.m_l_text t.F_l_text.kp t.b_l_text pass0 (AD.to true true (a_cons (x_var 7) (a_nil)))))).to [.im false, .im false, .im true, .im true, .im true, .im true, .im true, .im true, .no, .no, .im true, .no, .no, .im true])
    (b_cons (z_if (Δn := [.im false, .im false, .im true, .im true, .im true, .im true, .im true, .im true, .no, .no, .im true, .no, .no, .im true]) (c_cmp (or_ne hr) (x_callN G_l_read (hr.mono (by decide)) t.m_l_read t.F_l_read.kp t.b_l_read pass0 (AD.to true true (a_cons (x_var 13) (a_nil)))) (x_callA G_l_due (hr.mono (by decide)) t.m_l_due t.F_l_due.kp t.b_l_due pass0 (AD.to true true (a_cons (x_var 10) (a_cons (x_var 5) (a_cons (x_var 7) (a_nil)))))))
    (b_one (z_ret (x_bl)))
    ((b_nil).to [.im false, .im false, .im true, .im true, .im true, .im true, .im true, .im true, .no, .no, .im true, .no, .no, .im true]))
    (b_cons (z_if (Δn := [.im false, .im false, .im true, .im true, .im true, .im true, .im true, .im true, .no, .no, .im true, .no, .no, .im true]) (c_cmp or_notN (x_callN G_l_read (hr.mono (by decide)) t.m_l_read t.F_l_read.kp t.b_l_read pass0 (AD.to true true (a_cons (x_callN G_l_bad (hr.mono (by decide)) t.m_l_bad t.F_l_bad.kp t.b_l_bad pass0 (AD.to true true (a_cons (x_var 3) (a_cons (x_var 5) (a_cons (x_var 7) (a_cons (x_ix (x_var 2) (x_int)) (a_nil))))))) (a_nil)))) (x_non))
    (b_one (z_ret (x_bl)))
    ((b_nil).to [.im false, .im false, .im true, .im true, .im true, .im true, .im true, .im true, .no, .no, .im true, .no, .no, .im true]))
    (b_one (z_if (Δn := [.im false, .im false, .im true, .im true, .im true, .im true, .im true, .im true, .no, .no, .im true, .no, .no, .im true]) (c_not (c_val (x_callN G_l_unwritten (hr.mono (by decide)) t.m_l_unwritten t.F_l_unwritten.kp t.b_l_unwritten pass0 (AD.to true true (a_cons (x_callA G_l_no_net (hr.mono (by decide)) t.m_l_no_net t.F_l_no_net.kp t.b_l_no_net pass0 (AD.to true true (a_cons (x_var 3) (a_cons (x_var 5) (a_cons (x_var 7) (a_cons (x_var 4) (a_cons (x_ix (x_var 2) (x_int)) (a_nil)))))))) (a_nil))))))
    (b_one (z_ret (x_bl)))
    ((b_nil).to [.im false, .im false, .im true, .im true, .im true, .im true, .im true, .im true, .no, .no, .im true, .no, .no, .im true]))))))))))))).to [.im false, .no, .no, .no, .no, .no, .no, .no, .no, .no, .no, .no, .no, .no]))
    (b_one (z_ret (x_bl)))) rfl⟩
end
section
variable {w : World} {K : PySem.W.Frag} {h : Heap} {mg : Str → Option Value}
def mkTx (X : K.In h) (G : h.Ns mainGlobals mg)
    {f0 : Addr} {od0 an0 : Option Addr} {sl0 : Array (Option Value)} {oc0 kV0 dc0 pm0 cd0 ct0 : Value}
        (a0 : PySem.W.nsIn K mainGlobals "is_whole" = some (some (.ref f0))) (l0 : K.lookup f0 = some ⟨oc0, od0, .func (PySem.W.fnOf "is_whole" "is_whole" (defArgs st_is_whole) (defBody st_is_whole) (defScope st_is_whole) .none kV0 dc0 pm0 an0 cd0 ct0), sl0⟩) (c0 : PySem.W.codeIn K cd0 "is_whole" = true) (k0 : PySem.W.keepIn K (.ref f0) = true)
    {f1 : Addr} {od1 an1 : Option Addr} {sl1 : Array (Option Value)} {oc1 kV1 dc1 pm1 cd1 ct1 : Value}
        (a1 : PySem.W.nsIn K mainGlobals "is_many" = some (some (.ref f1))) (l1 : K.lookup f1 = some ⟨oc1, od1, .func (PySem.W.fnOf "is_many" "is_many" (defArgs st_is_many) (defBody st_is_many) (defScope st_is_many) .none kV1 dc1 pm1 an1 cd1 ct1), sl1⟩) (c1 : PySem.W.codeIn K cd1 "is_many" = true) (k1 : PySem.W.keepIn K (.ref f1) = true)
    {f2 : Addr} {od2 an2 : Option Addr} {sl2 : Array (Option Value)} {oc2 kV2 dc2 pm2 cd2 ct2 : Value}
        (a2 : PySem.W.nsIn K mainGlobals "is_place" = some (some (.ref f2))) (l2 : K.lookup f2 = some ⟨oc2, od2, .func (PySem.W.fnOf "is_place" "is_place" (defArgs st_is_place) (defBody st_is_place) (defScope st_is_place) .none kV2 dc2 pm2 an2 cd2 ct2), sl2⟩) (c2 : PySem.W.codeIn K cd2 "is_place" = true) (k2 : PySem.W.keepIn K (.ref f2) = true)
    {f3 : Addr} {od3 an3 : Option Addr} {sl3 : Array (Option Value)} {oc3 kV3 dc3 pm3 cd3 ct3 : Value}
        (a3 : PySem.W.nsIn K mainGlobals "is_moment" = some (some (.ref f3))) (l3 : K.lookup f3 = some ⟨oc3, od3, .func (PySem.W.fnOf "is_moment" "is_moment" (defArgs st_is_moment) (defBody st_is_moment) (defScope st_is_moment) .none kV3 dc3 pm3 an3 cd3 ct3), sl3⟩) (c3 : PySem.W.codeIn K cd3 "is_moment" = true) (k3 : PySem.W.keepIn K (.ref f3) = true)
    {f4 : Addr} {od4 an4 : Option Addr} {sl4 : Array (Option Value)} {oc4 kV4 dc4 pm4 cd4 ct4 : Value}
        (a4 : PySem.W.nsIn K mainGlobals "is_meeting" = some (some (.ref f4))) (l4 : K.lookup f4 = some ⟨oc4, od4, .func (PySem.W.fnOf "is_meeting" "is_meeting" (defArgs st_is_meeting) (defBody st_is_meeting) (defScope st_is_meeting) .none kV4 dc4 pm4 an4 cd4 ct4), sl4⟩) (c4 : PySem.W.codeIn K cd4 "is_meeting" = true) (k4 : PySem.W.keepIn K (.ref f4) = true)
    {f5 : Addr} {od5 an5 : Option Addr} {sl5 : Array (Option Value)} {oc5 kV5 dc5 pm5 cd5 ct5 : Value}
        (a5 : PySem.W.nsIn K mainGlobals "is_tie" = some (some (.ref f5))) (l5 : K.lookup f5 = some ⟨oc5, od5, .func (PySem.W.fnOf "is_tie" "is_tie" (defArgs st_is_tie) (defBody st_is_tie) (defScope st_is_tie) .none kV5 dc5 pm5 an5 cd5 ct5), sl5⟩) (c5 : PySem.W.codeIn K cd5 "is_tie" = true) (k5 : PySem.W.keepIn K (.ref f5) = true)
    {f6 : Addr} {od6 an6 : Option Addr} {sl6 : Array (Option Value)} {oc6 kV6 dc6 pm6 cd6 ct6 : Value}
        (a6 : PySem.W.nsIn K mainGlobals "is_record" = some (some (.ref f6))) (l6 : K.lookup f6 = some ⟨oc6, od6, .func (PySem.W.fnOf "is_record" "is_record" (defArgs st_is_record) (defBody st_is_record) (defScope st_is_record) .none kV6 dc6 pm6 an6 cd6 ct6), sl6⟩) (c6 : PySem.W.codeIn K cd6 "is_record" = true) (k6 : PySem.W.keepIn K (.ref f6) = true)
    {f7 : Addr} {od7 an7 : Option Addr} {sl7 : Array (Option Value)} {oc7 kV7 dc7 pm7 cd7 ct7 : Value}
        (a7 : PySem.W.nsIn K mainGlobals "joined" = some (some (.ref f7))) (l7 : K.lookup f7 = some ⟨oc7, od7, .func (PySem.W.fnOf "joined" "joined" (defArgs st_joined) (defBody st_joined) (defScope st_joined) .none kV7 dc7 pm7 an7 cd7 ct7), sl7⟩) (c7 : PySem.W.codeIn K cd7 "joined" = true) (k7 : PySem.W.keepIn K (.ref f7) = true)
    {f8 : Addr} {od8 an8 : Option Addr} {sl8 : Array (Option Value)} {oc8 kV8 dc8 pm8 cd8 ct8 : Value}
        (a8 : PySem.W.nsIn K mainGlobals "is_depth" = some (some (.ref f8))) (l8 : K.lookup f8 = some ⟨oc8, od8, .func (PySem.W.fnOf "is_depth" "is_depth" (defArgs st_is_depth) (defBody st_is_depth) (defScope st_is_depth) .none kV8 dc8 pm8 an8 cd8 ct8), sl8⟩) (c8 : PySem.W.codeIn K cd8 "is_depth" = true) (k8 : PySem.W.keepIn K (.ref f8) = true)
    {f9 : Addr} {od9 an9 : Option Addr} {sl9 : Array (Option Value)} {oc9 kV9 dc9 pm9 cd9 ct9 : Value}
        (a9 : PySem.W.nsIn K mainGlobals "look_at_layers" = some (some (.ref f9))) (l9 : K.lookup f9 = some ⟨oc9, od9, .func (PySem.W.fnOf "look_at_layers" "look_at_layers" (defArgs st_look_at_layers) (defBody st_look_at_layers) (defScope st_look_at_layers) .none kV9 dc9 pm9 an9 cd9 ct9), sl9⟩) (c9 : PySem.W.codeIn K cd9 "look_at_layers" = true) (k9 : PySem.W.keepIn K (.ref f9) = true)
    {f10 : Addr} {od10 an10 : Option Addr} {sl10 : Array (Option Value)} {oc10 kV10 dc10 pm10 cd10 ct10 : Value}
        (a10 : PySem.W.nsIn K mainGlobals "layer_for" = some (some (.ref f10))) (l10 : K.lookup f10 = some ⟨oc10, od10, .func (PySem.W.fnOf "layer_for" "layer_for" (defArgs st_layer_for) (defBody st_layer_for) (defScope st_layer_for) .none kV10 dc10 pm10 an10 cd10 ct10), sl10⟩) (c10 : PySem.W.codeIn K cd10 "layer_for" = true) (k10 : PySem.W.keepIn K (.ref f10) = true)
    {f11 : Addr} {od11 an11 : Option Addr} {sl11 : Array (Option Value)} {oc11 kV11 dc11 pm11 cd11 ct11 : Value}
        (a11 : PySem.W.nsIn K mainGlobals "layered" = some (some (.ref f11))) (l11 : K.lookup f11 = some ⟨oc11, od11, .func (PySem.W.fnOf "layered" "layered" (defArgs st_layered) (defBody st_layered) (defScope st_layered) .none kV11 dc11 pm11 an11 cd11 ct11), sl11⟩) (c11 : PySem.W.codeIn K cd11 "layered" = true) (k11 : PySem.W.keepIn K (.ref f11) = true)
    {f12 : Addr} {od12 an12 : Option Addr} {sl12 : Array (Option Value)} {oc12 kV12 dc12 pm12 cd12 ct12 : Value}
        (a12 : PySem.W.nsIn K mainGlobals "is_count" = some (some (.ref f12))) (l12 : K.lookup f12 = some ⟨oc12, od12, .func (PySem.W.fnOf "is_count" "is_count" (defArgs st_is_count) (defBody st_is_count) (defScope st_is_count) .none kV12 dc12 pm12 an12 cd12 ct12), sl12⟩) (c12 : PySem.W.codeIn K cd12 "is_count" = true) (k12 : PySem.W.keepIn K (.ref f12) = true)
    {f13 : Addr} {od13 an13 : Option Addr} {sl13 : Array (Option Value)} {oc13 kV13 dc13 pm13 cd13 ct13 : Value}
        (a13 : PySem.W.nsIn K mainGlobals "is_net" = some (some (.ref f13))) (l13 : K.lookup f13 = some ⟨oc13, od13, .func (PySem.W.fnOf "is_net" "is_net" (defArgs st_is_net) (defBody st_is_net) (defScope st_is_net) .none kV13 dc13 pm13 an13 cd13 ct13), sl13⟩) (c13 : PySem.W.codeIn K cd13 "is_net" = true) (k13 : PySem.W.keepIn K (.ref f13) = true)
    {f14 : Addr} {od14 an14 : Option Addr} {sl14 : Array (Option Value)} {oc14 kV14 dc14 pm14 cd14 ct14 : Value}
        (a14 : PySem.W.nsIn K mainGlobals "tie_text" = some (some (.ref f14))) (l14 : K.lookup f14 = some ⟨oc14, od14, .func (PySem.W.fnOf "tie_text" "tie_text" (defArgs st_tie_text) (defBody st_tie_text) (defScope st_tie_text) .none kV14 dc14 pm14 an14 cd14 ct14), sl14⟩) (c14 : PySem.W.codeIn K cd14 "tie_text" = true) (k14 : PySem.W.keepIn K (.ref f14) = true)
    {f15 : Addr} {od15 an15 : Option Addr} {sl15 : Array (Option Value)} {oc15 kV15 dc15 pm15 cd15 ct15 : Value}
        (a15 : PySem.W.nsIn K mainGlobals "record_text" = some (some (.ref f15))) (l15 : K.lookup f15 = some ⟨oc15, od15, .func (PySem.W.fnOf "record_text" "record_text" (defArgs st_record_text) (defBody st_record_text) (defScope st_record_text) .none kV15 dc15 pm15 an15 cd15 ct15), sl15⟩) (c15 : PySem.W.codeIn K cd15 "record_text" = true) (k15 : PySem.W.keepIn K (.ref f15) = true)
    {f16 : Addr} {od16 an16 : Option Addr} {sl16 : Array (Option Value)} {oc16 kV16 dc16 pm16 cd16 ct16 : Value}
        (a16 : PySem.W.nsIn K mainGlobals "net_text" = some (some (.ref f16))) (l16 : K.lookup f16 = some ⟨oc16, od16, .func (PySem.W.fnOf "net_text" "net_text" (defArgs st_net_text) (defBody st_net_text) (defScope st_net_text) .none kV16 dc16 pm16 an16 cd16 ct16), sl16⟩) (c16 : PySem.W.codeIn K cd16 "net_text" = true) (k16 : PySem.W.keepIn K (.ref f16) = true)
    {f17 : Addr} {od17 an17 : Option Addr} {sl17 : Array (Option Value)} {oc17 kV17 dc17 pm17 cd17 ct17 : Value}
        (a17 : PySem.W.nsIn K mainGlobals "number_in" = some (some (.ref f17))) (l17 : K.lookup f17 = some ⟨oc17, od17, .func (PySem.W.fnOf "number_in" "number_in" (defArgs st_number_in) (defBody st_number_in) (defScope st_number_in) .none kV17 dc17 pm17 an17 cd17 ct17), sl17⟩) (c17 : PySem.W.codeIn K cd17 "number_in" = true) (k17 : PySem.W.keepIn K (.ref f17) = true)
    {f18 : Addr} {od18 an18 : Option Addr} {sl18 : Array (Option Value)} {oc18 kV18 dc18 pm18 cd18 ct18 : Value}
        (a18 : PySem.W.nsIn K mainGlobals "tie_in" = some (some (.ref f18))) (l18 : K.lookup f18 = some ⟨oc18, od18, .func (PySem.W.fnOf "tie_in" "tie_in" (defArgs st_tie_in) (defBody st_tie_in) (defScope st_tie_in) .none kV18 dc18 pm18 an18 cd18 ct18), sl18⟩) (c18 : PySem.W.codeIn K cd18 "tie_in" = true) (k18 : PySem.W.keepIn K (.ref f18) = true)
    {f19 : Addr} {od19 an19 : Option Addr} {sl19 : Array (Option Value)} {oc19 kV19 dc19 pm19 cd19 ct19 : Value}
        (a19 : PySem.W.nsIn K mainGlobals "read_record" = some (some (.ref f19))) (l19 : K.lookup f19 = some ⟨oc19, od19, .func (PySem.W.fnOf "read_record" "read_record" (defArgs st_read_record) (defBody st_read_record) (defScope st_read_record) .none kV19 dc19 pm19 an19 cd19 ct19), sl19⟩) (c19 : PySem.W.codeIn K cd19 "read_record" = true) (k19 : PySem.W.keepIn K (.ref f19) = true)
    {f20 : Addr} {od20 an20 : Option Addr} {sl20 : Array (Option Value)} {oc20 kV20 dc20 pm20 cd20 ct20 : Value}
        (a20 : PySem.W.nsIn K mainGlobals "read_net" = some (some (.ref f20))) (l20 : K.lookup f20 = some ⟨oc20, od20, .func (PySem.W.fnOf "read_net" "read_net" (defArgs st_read_net) (defBody st_read_net) (defScope st_read_net) .none kV20 dc20 pm20 an20 cd20 ct20), sl20⟩) (c20 : PySem.W.codeIn K cd20 "read_net" = true) (k20 : PySem.W.keepIn K (.ref f20) = true)
    {f21 : Addr} {od21 an21 : Option Addr} {sl21 : Array (Option Value)} {oc21 kV21 dc21 pm21 cd21 ct21 : Value}
        (a21 : PySem.W.nsIn K mainGlobals "_law_mixed" = some (some (.ref f21))) (l21 : K.lookup f21 = some ⟨oc21, od21, .func (PySem.W.fnOf "_law_mixed" "_law_mixed" (defArgs st_l_mixed) (defBody st_l_mixed) (defScope st_l_mixed) .none kV21 dc21 pm21 an21 cd21 ct21), sl21⟩) (c21 : PySem.W.codeIn K cd21 "_law_mixed" = true) (k21 : PySem.W.keepIn K (.ref f21) = true)
    {f22 : Addr} {od22 an22 : Option Addr} {sl22 : Array (Option Value)} {oc22 kV22 dc22 pm22 cd22 ct22 : Value}
        (a22 : PySem.W.nsIn K mainGlobals "_law_numbers" = some (some (.ref f22))) (l22 : K.lookup f22 = some ⟨oc22, od22, .func (PySem.W.fnOf "_law_numbers" "_law_numbers" (defArgs st_l_numbers) (defBody st_l_numbers) (defScope st_l_numbers) .none kV22 dc22 pm22 an22 cd22 ct22), sl22⟩) (c22 : PySem.W.codeIn K cd22 "_law_numbers" = true) (k22 : PySem.W.keepIn K (.ref f22) = true)
    {f23 : Addr} {od23 an23 : Option Addr} {sl23 : Array (Option Value)} {oc23 kV23 dc23 pm23 cd23 ct23 : Value}
        (a23 : PySem.W.nsIn K mainGlobals "_law_ends" = some (some (.ref f23))) (l23 : K.lookup f23 = some ⟨oc23, od23, .func (PySem.W.fnOf "_law_ends" "_law_ends" (defArgs st_l_ends) (defBody st_l_ends) (defScope st_l_ends) .none kV23 dc23 pm23 an23 cd23 ct23), sl23⟩) (c23 : PySem.W.codeIn K cd23 "_law_ends" = true) (k23 : PySem.W.keepIn K (.ref f23) = true)
    {f24 : Addr} {od24 an24 : Option Addr} {sl24 : Array (Option Value)} {oc24 kV24 dc24 pm24 cd24 ct24 : Value}
        (a24 : PySem.W.nsIn K mainGlobals "_law_record" = some (some (.ref f24))) (l24 : K.lookup f24 = some ⟨oc24, od24, .func (PySem.W.fnOf "_law_record" "_law_record" (defArgs st_l_record) (defBody st_l_record) (defScope st_l_record) .none kV24 dc24 pm24 an24 cd24 ct24), sl24⟩) (c24 : PySem.W.codeIn K cd24 "_law_record" = true) (k24 : PySem.W.keepIn K (.ref f24) = true)
    {f25 : Addr} {od25 an25 : Option Addr} {sl25 : Array (Option Value)} {oc25 kV25 dc25 pm25 cd25 ct25 : Value}
        (a25 : PySem.W.nsIn K mainGlobals "_law_depth" = some (some (.ref f25))) (l25 : K.lookup f25 = some ⟨oc25, od25, .func (PySem.W.fnOf "_law_depth" "_law_depth" (defArgs st_l_depth) (defBody st_l_depth) (defScope st_l_depth) .none kV25 dc25 pm25 an25 cd25 ct25), sl25⟩) (c25 : PySem.W.codeIn K cd25 "_law_depth" = true) (k25 : PySem.W.keepIn K (.ref f25) = true)
    {f26 : Addr} {od26 an26 : Option Addr} {sl26 : Array (Option Value)} {oc26 kV26 dc26 pm26 cd26 ct26 : Value}
        (a26 : PySem.W.nsIn K mainGlobals "_law_joined" = some (some (.ref f26))) (l26 : K.lookup f26 = some ⟨oc26, od26, .func (PySem.W.fnOf "_law_joined" "_law_joined" (defArgs st_l_joined) (defBody st_l_joined) (defScope st_l_joined) .none kV26 dc26 pm26 an26 cd26 ct26), sl26⟩) (c26 : PySem.W.codeIn K cd26 "_law_joined" = true) (k26 : PySem.W.keepIn K (.ref f26) = true)
    {f27 : Addr} {od27 an27 : Option Addr} {sl27 : Array (Option Value)} {oc27 kV27 dc27 pm27 cd27 ct27 : Value}
        (a27 : PySem.W.nsIn K mainGlobals "_law_numbered" = some (some (.ref f27))) (l27 : K.lookup f27 = some ⟨oc27, od27, .func (PySem.W.fnOf "_law_numbered" "_law_numbered" (defArgs st_l_numbered) (defBody st_l_numbered) (defScope st_l_numbered) .none kV27 dc27 pm27 an27 cd27 ct27), sl27⟩) (c27 : PySem.W.codeIn K cd27 "_law_numbered" = true) (k27 : PySem.W.keepIn K (.ref f27) = true)
    {f28 : Addr} {od28 an28 : Option Addr} {sl28 : Array (Option Value)} {oc28 kV28 dc28 pm28 cd28 ct28 : Value}
        (a28 : PySem.W.nsIn K mainGlobals "_law_text" = some (some (.ref f28))) (l28 : K.lookup f28 = some ⟨oc28, od28, .func (PySem.W.fnOf "_law_text" "_law_text" (defArgs st_l_text) (defBody st_l_text) (defScope st_l_text) .none kV28 dc28 pm28 an28 cd28 ct28), sl28⟩) (c28 : PySem.W.codeIn K cd28 "_law_text" = true) (k28 : PySem.W.keepIn K (.ref f28) = true)
    {f29 : Addr} {od29 an29 : Option Addr} {sl29 : Array (Option Value)} {oc29 kV29 dc29 pm29 cd29 ct29 : Value}
        (a29 : PySem.W.nsIn K mainGlobals "_law_read" = some (some (.ref f29))) (l29 : K.lookup f29 = some ⟨oc29, od29, .func (PySem.W.fnOf "_law_read" "_law_read" (defArgs st_l_read) (defBody st_l_read) (defScope st_l_read) .none kV29 dc29 pm29 an29 cd29 ct29), sl29⟩) (c29 : PySem.W.codeIn K cd29 "_law_read" = true) (k29 : PySem.W.keepIn K (.ref f29) = true)
    {f30 : Addr} {od30 an30 : Option Addr} {sl30 : Array (Option Value)} {oc30 kV30 dc30 pm30 cd30 ct30 : Value}
        (a30 : PySem.W.nsIn K mainGlobals "_law_due" = some (some (.ref f30))) (l30 : K.lookup f30 = some ⟨oc30, od30, .func (PySem.W.fnOf "_law_due" "_law_due" (defArgs st_l_due) (defBody st_l_due) (defScope st_l_due) .none kV30 dc30 pm30 an30 cd30 ct30), sl30⟩) (c30 : PySem.W.codeIn K cd30 "_law_due" = true) (k30 : PySem.W.keepIn K (.ref f30) = true)
    {f31 : Addr} {od31 an31 : Option Addr} {sl31 : Array (Option Value)} {oc31 kV31 dc31 pm31 cd31 ct31 : Value}
        (a31 : PySem.W.nsIn K mainGlobals "_law_bad" = some (some (.ref f31))) (l31 : K.lookup f31 = some ⟨oc31, od31, .func (PySem.W.fnOf "_law_bad" "_law_bad" (defArgs st_l_bad) (defBody st_l_bad) (defScope st_l_bad) .none kV31 dc31 pm31 an31 cd31 ct31), sl31⟩) (c31 : PySem.W.codeIn K cd31 "_law_bad" = true) (k31 : PySem.W.keepIn K (.ref f31) = true)
    {f32 : Addr} {od32 an32 : Option Addr} {sl32 : Array (Option Value)} {oc32 kV32 dc32 pm32 cd32 ct32 : Value}
        (a32 : PySem.W.nsIn K mainGlobals "_law_no_net" = some (some (.ref f32))) (l32 : K.lookup f32 = some ⟨oc32, od32, .func (PySem.W.fnOf "_law_no_net" "_law_no_net" (defArgs st_l_no_net) (defBody st_l_no_net) (defScope st_l_no_net) .none kV32 dc32 pm32 an32 cd32 ct32), sl32⟩) (c32 : PySem.W.codeIn K cd32 "_law_no_net" = true) (k32 : PySem.W.keepIn K (.ref f32) = true)
    {f33 : Addr} {od33 an33 : Option Addr} {sl33 : Array (Option Value)} {oc33 kV33 dc33 pm33 cd33 ct33 : Value}
        (a33 : PySem.W.nsIn K mainGlobals "_law_unwritten" = some (some (.ref f33))) (l33 : K.lookup f33 = some ⟨oc33, od33, .func (PySem.W.fnOf "_law_unwritten" "_law_unwritten" (defArgs st_l_unwritten) (defBody st_l_unwritten) (defScope st_l_unwritten) .none kV33 dc33 pm33 an33 cd33 ct33), sl33⟩) (c33 : PySem.W.codeIn K cd33 "_law_unwritten" = true) (k33 : PySem.W.keepIn K (.ref f33) = true)
    {f34 : Addr} {od34 an34 : Option Addr} {sl34 : Array (Option Value)} {oc34 kV34 dc34 pm34 cd34 ct34 : Value}
        (a34 : PySem.W.nsIn K mainGlobals "law" = some (some (.ref f34))) (l34 : K.lookup f34 = some ⟨oc34, od34, .func (PySem.W.fnOf "law" "law" (defArgs st_law) (defBody st_law) (defScope st_law) .none kV34 dc34 pm34 an34 cd34 ct34), sl34⟩) (c34 : PySem.W.codeIn K cd34 "law" = true) (k34 : PySem.W.keepIn K (.ref f34) = true)
        (z_isinstance : PySem.W.nsIn K mainGlobals "isinstance" = some none)
        (z_int : PySem.W.nsIn K mainGlobals "int" = some none)
        (z_bool : PySem.W.nsIn K mainGlobals "bool" = some none)
        (z_tuple : PySem.W.nsIn K mainGlobals "tuple" = some none)
        (z_len : PySem.W.nsIn K mainGlobals "len" = some none)
        (z_list : PySem.W.nsIn K mainGlobals "list" = some none)
        (z_all : PySem.W.nsIn K mainGlobals "all" = some none)
        (z_range : PySem.W.nsIn K mainGlobals "range" = some none)
        (z_min : PySem.W.nsIn K mainGlobals "min" = some none)
        (z_max : PySem.W.nsIn K mainGlobals "max" = some none)
        (z_enumerate : PySem.W.nsIn K mainGlobals "enumerate" = some none)
        (z_reversed : PySem.W.nsIn K mainGlobals "reversed" = some none)
        (z_str : PySem.W.nsIn K mainGlobals "str" = some none)
        (z_ValueError : PySem.W.nsIn K mainGlobals "ValueError" = some none)
        (z_zip : PySem.W.nsIn K mainGlobals "zip" = some none)
        {tk_MOST_PLACES_records : Tok} (y_MOST_PLACES_records : PySem.W.nsIn K mainGlobals "MOST_PLACES_records" = some (some (.int (10) tk_MOST_PLACES_records)))
        {tk_LAST_MOMENT : Tok} (y_LAST_MOMENT : PySem.W.nsIn K mainGlobals "LAST_MOMENT" = some (some (.int (1000000000000000000000000000000) tk_LAST_MOMENT)))
        {tk_MOST_TIES : Tok} (y_MOST_TIES : PySem.W.nsIn K mainGlobals "MOST_TIES" = some (some (.int (60) tk_MOST_TIES)))
        {tk_MOST_LAYERS_layers : Tok} (y_MOST_LAYERS_layers : PySem.W.nsIn K mainGlobals "MOST_LAYERS_layers" = some (some (.int (6) tk_MOST_LAYERS_layers)))
        {tk_MOST_PLACES_nets : Tok} (y_MOST_PLACES_nets : PySem.W.nsIn K mainGlobals "MOST_PLACES_nets" = some (some (.int (10) tk_MOST_PLACES_nets)))
        {tk_MOST_LAYERS_nets : Tok} (y_MOST_LAYERS_nets : PySem.W.nsIn K mainGlobals "MOST_LAYERS_nets" = some (some (.int (6) tk_MOST_LAYERS_nets)))
        {tk_NOTHING : Tok} (y_NOTHING : PySem.W.nsIn K mainGlobals "NOTHING" = some (some (.str "none" tk_NOTHING)))
        {tk_MOST_FIGURES : Tok} (y_MOST_FIGURES : PySem.W.nsIn K mainGlobals "MOST_FIGURES" = some (some (.int (60) tk_MOST_FIGURES)))
        {tk_FIGURES : Tok} (y_FIGURES : PySem.W.nsIn K mainGlobals "FIGURES" = some (some (.str "0123456789" tk_FIGURES)))
        {C_NoNet : Addr} (u1_NoNet : PySem.W.nsIn K mainGlobals "NoNet" = some (some (.ref C_NoNet))) (u2_NoNet : PySem.W.keepIn K (.ref C_NoNet) = true) (u3_NoNet : PySem.W.typeIn K (.ref C_NoNet) = some (.type "type"))
        (u4_NoNet : PySem.W.findIn K (.ref C_NoNet) "__getattribute__" = some (some (.builtin "BaseException.__getattribute__"))) (u5_NoNet : PySem.W.findIn K (.ref C_NoNet) "__getattr__" = some none) (u6_NoNet : PySem.W.subIn K (.ref C_NoNet) (.type "BaseException") = some true) (u7_NoNet : PySem.W.hasDictIn K C_NoNet = true) (u8_NoNet : PySem.W.findIn K (.ref C_NoNet) "__class__" = some (some (.builtin "object.__class__"))) (u9_NoNet : PySem.W.mroIn K C_NoNet (.type "object") = some true)
        (uQ_NoNet : PySem.W.excIn K C_NoNet veB "ValueError.__new__" = true)
        {C_NoText : Addr} (u1_NoText : PySem.W.nsIn K mainGlobals "NoText" = some (some (.ref C_NoText))) (u2_NoText : PySem.W.keepIn K (.ref C_NoText) = true) (u3_NoText : PySem.W.typeIn K (.ref C_NoText) = some (.type "type"))
        (u4_NoText : PySem.W.findIn K (.ref C_NoText) "__getattribute__" = some (some (.builtin "BaseException.__getattribute__"))) (u5_NoText : PySem.W.findIn K (.ref C_NoText) "__getattr__" = some none) (u6_NoText : PySem.W.subIn K (.ref C_NoText) (.type "BaseException") = some true) (u7_NoText : PySem.W.hasDictIn K C_NoText = true) (u8_NoText : PySem.W.findIn K (.ref C_NoText) "__class__" = some (some (.builtin "object.__class__"))) (u9_NoText : PySem.W.mroIn K C_NoText (.type "object") = some true)
        (uQ_NoText : PySem.W.excIn K C_NoText veB "ValueError.__new__" = true)
        {C_PlyError : Addr} (u1_PlyError : PySem.W.nsIn K mainGlobals "PlyError" = some (some (.ref C_PlyError))) (u2_PlyError : PySem.W.keepIn K (.ref C_PlyError) = true) (u3_PlyError : PySem.W.typeIn K (.ref C_PlyError) = some (.type "type"))
        (u4_PlyError : PySem.W.findIn K (.ref C_PlyError) "__getattribute__" = some (some (.builtin "BaseException.__getattribute__"))) (u5_PlyError : PySem.W.findIn K (.ref C_PlyError) "__getattr__" = some none) (u6_PlyError : PySem.W.subIn K (.ref C_PlyError) (.type "BaseException") = some true) (u7_PlyError : PySem.W.hasDictIn K C_PlyError = true) (u8_PlyError : PySem.W.findIn K (.ref C_PlyError) "__class__" = some (some (.builtin "object.__class__"))) (u9_PlyError : PySem.W.mroIn K C_PlyError (.type "object") = some true)
        {C_NoTies : Addr} (u1_NoTies : PySem.W.nsIn K mainGlobals "NoTies" = some (some (.ref C_NoTies))) (u2_NoTies : PySem.W.keepIn K (.ref C_NoTies) = true) (u3_NoTies : PySem.W.typeIn K (.ref C_NoTies) = some (.type "type"))
        (u4_NoTies : PySem.W.findIn K (.ref C_NoTies) "__getattribute__" = some (some (.builtin "BaseException.__getattribute__"))) (u5_NoTies : PySem.W.findIn K (.ref C_NoTies) "__getattr__" = some none) (u6_NoTies : PySem.W.subIn K (.ref C_NoTies) (.type "BaseException") = some true) (u7_NoTies : PySem.W.hasDictIn K C_NoTies = true) (u8_NoTies : PySem.W.findIn K (.ref C_NoTies) "__class__" = some (some (.builtin "object.__class__"))) (u9_NoTies : PySem.W.mroIn K C_NoTies (.type "object") = some true)
        {C_NoPlaces : Addr} (u1_NoPlaces : PySem.W.nsIn K mainGlobals "NoPlaces" = some (some (.ref C_NoPlaces))) (u2_NoPlaces : PySem.W.keepIn K (.ref C_NoPlaces) = true) (u3_NoPlaces : PySem.W.typeIn K (.ref C_NoPlaces) = some (.type "type"))
        (u4_NoPlaces : PySem.W.findIn K (.ref C_NoPlaces) "__getattribute__" = some (some (.builtin "BaseException.__getattribute__"))) (u5_NoPlaces : PySem.W.findIn K (.ref C_NoPlaces) "__getattr__" = some none) (u6_NoPlaces : PySem.W.subIn K (.ref C_NoPlaces) (.type "BaseException") = some true) (u7_NoPlaces : PySem.W.hasDictIn K C_NoPlaces = true) (u8_NoPlaces : PySem.W.findIn K (.ref C_NoPlaces) "__class__" = some (some (.builtin "object.__class__"))) (u9_NoPlaces : PySem.W.mroIn K C_NoPlaces (.type "object") = some true)
        {C_NoLayers : Addr} (u1_NoLayers : PySem.W.nsIn K mainGlobals "NoLayers" = some (some (.ref C_NoLayers))) (u2_NoLayers : PySem.W.keepIn K (.ref C_NoLayers) = true) (u3_NoLayers : PySem.W.typeIn K (.ref C_NoLayers) = some (.type "type"))
        (u4_NoLayers : PySem.W.findIn K (.ref C_NoLayers) "__getattribute__" = some (some (.builtin "BaseException.__getattribute__"))) (u5_NoLayers : PySem.W.findIn K (.ref C_NoLayers) "__getattr__" = some none) (u6_NoLayers : PySem.W.subIn K (.ref C_NoLayers) (.type "BaseException") = some true) (u7_NoLayers : PySem.W.hasDictIn K C_NoLayers = true) (u8_NoLayers : PySem.W.findIn K (.ref C_NoLayers) "__class__" = some (some (.builtin "object.__class__"))) (u9_NoLayers : PySem.W.mroIn K C_NoLayers (.type "object") = some true)
        {C_Clash : Addr} (u1_Clash : PySem.W.nsIn K mainGlobals "Clash" = some (some (.ref C_Clash))) (u2_Clash : PySem.W.keepIn K (.ref C_Clash) = true) (u3_Clash : PySem.W.typeIn K (.ref C_Clash) = some (.type "type"))
        (u4_Clash : PySem.W.findIn K (.ref C_Clash) "__getattribute__" = some (some (.builtin "BaseException.__getattribute__"))) (u5_Clash : PySem.W.findIn K (.ref C_Clash) "__getattr__" = some none) (u6_Clash : PySem.W.subIn K (.ref C_Clash) (.type "BaseException") = some true) (u7_Clash : PySem.W.hasDictIn K C_Clash = true) (u8_Clash : PySem.W.findIn K (.ref C_Clash) "__class__" = some (some (.builtin "object.__class__"))) (u9_Clash : PySem.W.mroIn K C_Clash (.type "object") = some true)
        (un : PySem.W.specialIn K (.builtin "object.__class__") "__get__" = some (some (.builtin "getset_descriptor.__get__"))) (ut : PySem.W.takesIn K (.builtin "object.__class__") = some true)
        (uS_NoText_PlyError : PySem.W.subIn K (.ref C_NoText) (.ref C_PlyError) = some true)
        (uS_NoNet_PlyError : PySem.W.subIn K (.ref C_NoNet) (.ref C_PlyError) = some true)
        (uS_NoText_NoText : PySem.W.subIn K (.ref C_NoText) (.ref C_NoText) = some true)
        (uS_NoNet_NoText : PySem.W.subIn K (.ref C_NoNet) (.ref C_NoText) = some false)
        (uS_NoNet_NoNet : PySem.W.subIn K (.ref C_NoNet) (.ref C_NoNet) = some true)
        (uS_NoText_NoTies : PySem.W.subIn K (.ref C_NoText) (.ref C_NoTies) = some false)
        (uS_NoText_NoPlaces : PySem.W.subIn K (.ref C_NoText) (.ref C_NoPlaces) = some false)
        (uS_NoText_NoNet : PySem.W.subIn K (.ref C_NoText) (.ref C_NoNet) = some false)
        (uS_NoText_NoLayers : PySem.W.subIn K (.ref C_NoText) (.ref C_NoLayers) = some false)
        (uS_NoText_Clash : PySem.W.subIn K (.ref C_NoText) (.ref C_Clash) = some false)
        (uS_NoNet_NoTies : PySem.W.subIn K (.ref C_NoNet) (.ref C_NoTies) = some false)
        (uS_NoNet_NoPlaces : PySem.W.subIn K (.ref C_NoNet) (.ref C_NoPlaces) = some false)
        (uS_NoNet_NoLayers : PySem.W.subIn K (.ref C_NoNet) (.ref C_NoLayers) = some false)
        (uS_NoNet_Clash : PySem.W.subIn K (.ref C_NoNet) (.ref C_Clash) = some false)
        (uS_NoText_ValueError : PySem.W.subIn K (.ref C_NoText) (.type "ValueError") = some true)
        (uS_NoNet_ValueError : PySem.W.subIn K (.ref C_NoNet) (.type "ValueError") = some true) : Tx K mg where
  a_is_whole := f0
  d_is_whole := _
  F_is_whole := fun_mk (st := st_is_whole) l0 c0 k0
  m_is_whole := PySem.W.mg_of X G a0
  b_is_whole := (fun_mk (st := st_is_whole) l0 c0 k0).binds fun _ _ _ _ _ _ us hl => match us, hl with | [_], _ => rfl
  a_is_many := f1
  d_is_many := _
  F_is_many := fun_mk (st := st_is_many) l1 c1 k1
  m_is_many := PySem.W.mg_of X G a1
  b_is_many := (fun_mk (st := st_is_many) l1 c1 k1).binds fun _ _ _ _ _ _ us hl => match us, hl with | [_], _ => rfl
  a_is_place := f2
  d_is_place := _
  F_is_place := fun_mk (st := st_is_place) l2 c2 k2
  m_is_place := PySem.W.mg_of X G a2
  b_is_place := (fun_mk (st := st_is_place) l2 c2 k2).binds fun _ _ _ _ _ _ us hl => match us, hl with | [_, _], _ => rfl
  a_is_moment := f3
  d_is_moment := _
  F_is_moment := fun_mk (st := st_is_moment) l3 c3 k3
  m_is_moment := PySem.W.mg_of X G a3
  b_is_moment := (fun_mk (st := st_is_moment) l3 c3 k3).binds fun _ _ _ _ _ _ us hl => match us, hl with | [_], _ => rfl
  a_is_meeting := f4
  d_is_meeting := _
  F_is_meeting := fun_mk (st := st_is_meeting) l4 c4 k4
  m_is_meeting := PySem.W.mg_of X G a4
  b_is_meeting := (fun_mk (st := st_is_meeting) l4 c4 k4).binds fun _ _ _ _ _ _ us hl => match us, hl with | [_, _], _ => rfl
  a_is_tie := f5
  d_is_tie := _
  F_is_tie := fun_mk (st := st_is_tie) l5 c5 k5
  m_is_tie := PySem.W.mg_of X G a5
  b_is_tie := (fun_mk (st := st_is_tie) l5 c5 k5).binds fun _ _ _ _ _ _ us hl => match us, hl with | [_, _], _ => rfl
  a_is_record := f6
  d_is_record := _
  F_is_record := fun_mk (st := st_is_record) l6 c6 k6
  m_is_record := PySem.W.mg_of X G a6
  b_is_record := (fun_mk (st := st_is_record) l6 c6 k6).binds fun _ _ _ _ _ _ us hl => match us, hl with | [_, _], _ => rfl
  a_joined := f7
  d_joined := _
  F_joined := fun_mk (st := st_joined) l7 c7 k7
  m_joined := PySem.W.mg_of X G a7
  b_joined := (fun_mk (st := st_joined) l7 c7 k7).binds fun _ _ _ _ _ _ us hl => match us, hl with | [_, _, _], _ => rfl
  a_is_depth := f8
  d_is_depth := _
  F_is_depth := fun_mk (st := st_is_depth) l8 c8 k8
  m_is_depth := PySem.W.mg_of X G a8
  b_is_depth := (fun_mk (st := st_is_depth) l8 c8 k8).binds fun _ _ _ _ _ _ us hl => match us, hl with | [_], _ => rfl
  a_look_at_layers := f9
  d_look_at_layers := _
  F_look_at_layers := fun_mk (st := st_look_at_layers) l9 c9 k9
  m_look_at_layers := PySem.W.mg_of X G a9
  b_look_at_layers := (fun_mk (st := st_look_at_layers) l9 c9 k9).binds fun _ _ _ _ _ _ us hl => match us, hl with | [_], _ => rfl
  a_layer_for := f10
  d_layer_for := _
  F_layer_for := fun_mk (st := st_layer_for) l10 c10 k10
  m_layer_for := PySem.W.mg_of X G a10
  b_layer_for := (fun_mk (st := st_layer_for) l10 c10 k10).binds fun _ _ _ _ _ _ us hl => match us, hl with | [_, _, _], _ => rfl
  a_layered := f11
  d_layered := _
  F_layered := fun_mk (st := st_layered) l11 c11 k11
  m_layered := PySem.W.mg_of X G a11
  b_layered := (fun_mk (st := st_layered) l11 c11 k11).binds fun _ _ _ _ _ _ us hl => match us, hl with | [_, _, _], _ => rfl
  a_is_count := f12
  d_is_count := _
  F_is_count := fun_mk (st := st_is_count) l12 c12 k12
  m_is_count := PySem.W.mg_of X G a12
  b_is_count := (fun_mk (st := st_is_count) l12 c12 k12).binds fun _ _ _ _ _ _ us hl => match us, hl with | [_, _], _ => rfl
  a_is_net := f13
  d_is_net := _
  F_is_net := fun_mk (st := st_is_net) l13 c13 k13
  m_is_net := PySem.W.mg_of X G a13
  b_is_net := (fun_mk (st := st_is_net) l13 c13 k13).binds fun _ _ _ _ _ _ us hl => match us, hl with | [_], _ => rfl
  a_tie_text := f14
  d_tie_text := _
  F_tie_text := fun_mk (st := st_tie_text) l14 c14 k14
  m_tie_text := PySem.W.mg_of X G a14
  b_tie_text := (fun_mk (st := st_tie_text) l14 c14 k14).binds fun _ _ _ _ _ _ us hl => match us, hl with | [_], _ => rfl
  a_record_text := f15
  d_record_text := _
  F_record_text := fun_mk (st := st_record_text) l15 c15 k15
  m_record_text := PySem.W.mg_of X G a15
  b_record_text := (fun_mk (st := st_record_text) l15 c15 k15).binds fun _ _ _ _ _ _ us hl => match us, hl with | [_], _ => rfl
  a_net_text := f16
  d_net_text := _
  F_net_text := fun_mk (st := st_net_text) l16 c16 k16
  m_net_text := PySem.W.mg_of X G a16
  b_net_text := (fun_mk (st := st_net_text) l16 c16 k16).binds fun _ _ _ _ _ _ us hl => match us, hl with | [_], _ => rfl
  a_number_in := f17
  d_number_in := _
  F_number_in := fun_mk (st := st_number_in) l17 c17 k17
  m_number_in := PySem.W.mg_of X G a17
  b_number_in := (fun_mk (st := st_number_in) l17 c17 k17).binds fun _ _ _ _ _ _ us hl => match us, hl with | [_], _ => rfl
  a_tie_in := f18
  d_tie_in := _
  F_tie_in := fun_mk (st := st_tie_in) l18 c18 k18
  m_tie_in := PySem.W.mg_of X G a18
  b_tie_in := (fun_mk (st := st_tie_in) l18 c18 k18).binds fun _ _ _ _ _ _ us hl => match us, hl with | [_], _ => rfl
  a_read_record := f19
  d_read_record := _
  F_read_record := fun_mk (st := st_read_record) l19 c19 k19
  m_read_record := PySem.W.mg_of X G a19
  b_read_record := (fun_mk (st := st_read_record) l19 c19 k19).binds fun _ _ _ _ _ _ us hl => match us, hl with | [_, _], _ => rfl
  a_read_net := f20
  d_read_net := _
  F_read_net := fun_mk (st := st_read_net) l20 c20 k20
  m_read_net := PySem.W.mg_of X G a20
  b_read_net := (fun_mk (st := st_read_net) l20 c20 k20).binds fun _ _ _ _ _ _ us hl => match us, hl with | [_], _ => rfl
  a_l_mixed := f21
  d_l_mixed := _
  F_l_mixed := fun_mk (st := st_l_mixed) l21 c21 k21
  m_l_mixed := PySem.W.mg_of X G a21
  b_l_mixed := (fun_mk (st := st_l_mixed) l21 c21 k21).binds fun _ _ _ _ _ _ us hl => match us, hl with | [_, _], _ => rfl
  a_l_numbers := f22
  d_l_numbers := _
  F_l_numbers := fun_mk (st := st_l_numbers) l22 c22 k22
  m_l_numbers := PySem.W.mg_of X G a22
  b_l_numbers := (fun_mk (st := st_l_numbers) l22 c22 k22).binds fun _ _ _ _ _ _ us hl => match us, hl with | [_, _, _], _ => rfl
  a_l_ends := f23
  d_l_ends := _
  F_l_ends := fun_mk (st := st_l_ends) l23 c23 k23
  m_l_ends := PySem.W.mg_of X G a23
  b_l_ends := (fun_mk (st := st_l_ends) l23 c23 k23).binds fun _ _ _ _ _ _ us hl => match us, hl with | [_, _, _, _], _ => rfl
  a_l_record := f24
  d_l_record := _
  F_l_record := fun_mk (st := st_l_record) l24 c24 k24
  m_l_record := PySem.W.mg_of X G a24
  b_l_record := (fun_mk (st := st_l_record) l24 c24 k24).binds fun _ _ _ _ _ _ us hl => match us, hl with | [_, _], _ => rfl
  a_l_depth := f25
  d_l_depth := _
  F_l_depth := fun_mk (st := st_l_depth) l25 c25 k25
  m_l_depth := PySem.W.mg_of X G a25
  b_l_depth := (fun_mk (st := st_l_depth) l25 c25 k25).binds fun _ _ _ _ _ _ us hl => match us, hl with | [_], _ => rfl
  a_l_joined := f26
  d_l_joined := _
  F_l_joined := fun_mk (st := st_l_joined) l26 c26 k26
  m_l_joined := PySem.W.mg_of X G a26
  b_l_joined := (fun_mk (st := st_l_joined) l26 c26 k26).binds fun _ _ _ _ _ _ us hl => match us, hl with | [_, _, _, _], _ => rfl
  a_l_numbered := f27
  d_l_numbered := _
  F_l_numbered := fun_mk (st := st_l_numbered) l27 c27 k27
  m_l_numbered := PySem.W.mg_of X G a27
  b_l_numbered := (fun_mk (st := st_l_numbered) l27 c27 k27).binds fun _ _ _ _ _ _ us hl => match us, hl with | [_, _, _], _ => rfl
  a_l_text := f28
  d_l_text := _
  F_l_text := fun_mk (st := st_l_text) l28 c28 k28
  m_l_text := PySem.W.mg_of X G a28
  b_l_text := (fun_mk (st := st_l_text) l28 c28 k28).binds fun _ _ _ _ _ _ us hl => match us, hl with | [_], _ => rfl
  a_l_read := f29
  d_l_read := _
  F_l_read := fun_mk (st := st_l_read) l29 c29 k29
  m_l_read := PySem.W.mg_of X G a29
  b_l_read := (fun_mk (st := st_l_read) l29 c29 k29).binds fun _ _ _ _ _ _ us hl => match us, hl with | [_], _ => rfl
  a_l_due := f30
  d_l_due := _
  F_l_due := fun_mk (st := st_l_due) l30 c30 k30
  m_l_due := PySem.W.mg_of X G a30
  b_l_due := (fun_mk (st := st_l_due) l30 c30 k30).binds fun _ _ _ _ _ _ us hl => match us, hl with | [_, _, _], _ => rfl
  a_l_bad := f31
  d_l_bad := _
  F_l_bad := fun_mk (st := st_l_bad) l31 c31 k31
  m_l_bad := PySem.W.mg_of X G a31
  b_l_bad := (fun_mk (st := st_l_bad) l31 c31 k31).binds fun _ _ _ _ _ _ us hl => match us, hl with | [_, _, _, _], _ => rfl
  a_l_no_net := f32
  d_l_no_net := _
  F_l_no_net := fun_mk (st := st_l_no_net) l32 c32 k32
  m_l_no_net := PySem.W.mg_of X G a32
  b_l_no_net := (fun_mk (st := st_l_no_net) l32 c32 k32).binds fun _ _ _ _ _ _ us hl => match us, hl with | [_, _, _, _, _], _ => rfl
  a_l_unwritten := f33
  d_l_unwritten := _
  F_l_unwritten := fun_mk (st := st_l_unwritten) l33 c33 k33
  m_l_unwritten := PySem.W.mg_of X G a33
  b_l_unwritten := (fun_mk (st := st_l_unwritten) l33 c33 k33).binds fun _ _ _ _ _ _ us hl => match us, hl with | [_], _ => rfl
  a_law := f34
  d_law := _
  F_law := fun_mk (st := st_law) l34 c34 k34
  m_law := PySem.W.mg_of X G a34
  b_law := (fun_mk (st := st_law) l34 c34 k34).binds fun _ _ _ _ _ _ us hl => match us, hl with | [_], _ => rfl
  n_isinstance := PySem.W.mg_none_of X G z_isinstance
  n_int := PySem.W.mg_none_of X G z_int
  n_bool := PySem.W.mg_none_of X G z_bool
  n_tuple := PySem.W.mg_none_of X G z_tuple
  n_len := PySem.W.mg_none_of X G z_len
  n_list := PySem.W.mg_none_of X G z_list
  n_all := PySem.W.mg_none_of X G z_all
  n_range := PySem.W.mg_none_of X G z_range
  n_min := PySem.W.mg_none_of X G z_min
  n_max := PySem.W.mg_none_of X G z_max
  n_enumerate := PySem.W.mg_none_of X G z_enumerate
  n_reversed := PySem.W.mg_none_of X G z_reversed
  n_str := PySem.W.mg_none_of X G z_str
  n_ValueError := PySem.W.mg_none_of X G z_ValueError
  n_zip := PySem.W.mg_none_of X G z_zip
  c_MOST_PLACES_records := ⟨tk_MOST_PLACES_records, PySem.W.mg_of X G y_MOST_PLACES_records⟩
  c_LAST_MOMENT := ⟨tk_LAST_MOMENT, PySem.W.mg_of X G y_LAST_MOMENT⟩
  c_MOST_TIES := ⟨tk_MOST_TIES, PySem.W.mg_of X G y_MOST_TIES⟩
  c_MOST_LAYERS_layers := ⟨tk_MOST_LAYERS_layers, PySem.W.mg_of X G y_MOST_LAYERS_layers⟩
  c_MOST_PLACES_nets := ⟨tk_MOST_PLACES_nets, PySem.W.mg_of X G y_MOST_PLACES_nets⟩
  c_MOST_LAYERS_nets := ⟨tk_MOST_LAYERS_nets, PySem.W.mg_of X G y_MOST_LAYERS_nets⟩
  c_NOTHING := ⟨tk_NOTHING, PySem.W.mg_of X G y_NOTHING⟩
  c_MOST_FIGURES := ⟨tk_MOST_FIGURES, PySem.W.mg_of X G y_MOST_FIGURES⟩
  c_FIGURES := ⟨tk_FIGURES, PySem.W.mg_of X G y_FIGURES⟩
  C_NoNet := C_NoNet
  E_NoNet := ⟨PySem.W.mg_of X G u1_NoNet, u1_NoNet, u2_NoNet, u3_NoNet, ⟨u4_NoNet, u5_NoNet, u6_NoNet, u7_NoNet, u8_NoNet, un, ut, u9_NoNet⟩⟩
  Q_NoNet := uQ_NoNet
  C_NoText := C_NoText
  E_NoText := ⟨PySem.W.mg_of X G u1_NoText, u1_NoText, u2_NoText, u3_NoText, ⟨u4_NoText, u5_NoText, u6_NoText, u7_NoText, u8_NoText, un, ut, u9_NoText⟩⟩
  Q_NoText := uQ_NoText
  C_PlyError := C_PlyError
  E_PlyError := ⟨PySem.W.mg_of X G u1_PlyError, u1_PlyError, u2_PlyError, u3_PlyError, ⟨u4_PlyError, u5_PlyError, u6_PlyError, u7_PlyError, u8_PlyError, un, ut, u9_PlyError⟩⟩
  C_NoTies := C_NoTies
  E_NoTies := ⟨PySem.W.mg_of X G u1_NoTies, u1_NoTies, u2_NoTies, u3_NoTies, ⟨u4_NoTies, u5_NoTies, u6_NoTies, u7_NoTies, u8_NoTies, un, ut, u9_NoTies⟩⟩
  C_NoPlaces := C_NoPlaces
  E_NoPlaces := ⟨PySem.W.mg_of X G u1_NoPlaces, u1_NoPlaces, u2_NoPlaces, u3_NoPlaces, ⟨u4_NoPlaces, u5_NoPlaces, u6_NoPlaces, u7_NoPlaces, u8_NoPlaces, un, ut, u9_NoPlaces⟩⟩
  C_NoLayers := C_NoLayers
  E_NoLayers := ⟨PySem.W.mg_of X G u1_NoLayers, u1_NoLayers, u2_NoLayers, u3_NoLayers, ⟨u4_NoLayers, u5_NoLayers, u6_NoLayers, u7_NoLayers, u8_NoLayers, un, ut, u9_NoLayers⟩⟩
  C_Clash := C_Clash
  E_Clash := ⟨PySem.W.mg_of X G u1_Clash, u1_Clash, u2_Clash, u3_Clash, ⟨u4_Clash, u5_Clash, u6_Clash, u7_Clash, u8_Clash, un, ut, u9_Clash⟩⟩
  S_NoText_PlyError := uS_NoText_PlyError
  S_NoNet_PlyError := uS_NoNet_PlyError
  S_NoText_NoText := uS_NoText_NoText
  S_NoNet_NoText := uS_NoNet_NoText
  S_NoNet_NoNet := uS_NoNet_NoNet
  S_NoText_NoTies := uS_NoText_NoTies
  S_NoText_NoPlaces := uS_NoText_NoPlaces
  S_NoText_NoNet := uS_NoText_NoNet
  S_NoText_NoLayers := uS_NoText_NoLayers
  S_NoText_Clash := uS_NoText_Clash
  S_NoNet_NoTies := uS_NoNet_NoTies
  S_NoNet_NoPlaces := uS_NoNet_NoPlaces
  S_NoNet_NoLayers := uS_NoNet_NoLayers
  S_NoNet_Clash := uS_NoNet_Clash
  S_NoText_ValueError := uS_NoText_ValueError
  S_NoNet_ValueError := uS_NoNet_ValueError
theorem all_mk {l : PySem.W.OpenLaw} {fa : Addr} (X : K.In h) (G : h.Ns mainGlobals mg) (hfa : mg "law" = some (.ref fa))
    {f0 : Addr} {od0 an0 : Option Addr} {sl0 : Array (Option Value)} {oc0 kV0 dc0 pm0 cd0 ct0 : Value}
        (a0 : PySem.W.nsIn K mainGlobals "is_whole" = some (some (.ref f0))) (l0 : K.lookup f0 = some ⟨oc0, od0, .func (PySem.W.fnOf "is_whole" "is_whole" (defArgs st_is_whole) (defBody st_is_whole) (defScope st_is_whole) .none kV0 dc0 pm0 an0 cd0 ct0), sl0⟩) (c0 : PySem.W.codeIn K cd0 "is_whole" = true) (k0 : PySem.W.keepIn K (.ref f0) = true)
    {f1 : Addr} {od1 an1 : Option Addr} {sl1 : Array (Option Value)} {oc1 kV1 dc1 pm1 cd1 ct1 : Value}
        (a1 : PySem.W.nsIn K mainGlobals "is_many" = some (some (.ref f1))) (l1 : K.lookup f1 = some ⟨oc1, od1, .func (PySem.W.fnOf "is_many" "is_many" (defArgs st_is_many) (defBody st_is_many) (defScope st_is_many) .none kV1 dc1 pm1 an1 cd1 ct1), sl1⟩) (c1 : PySem.W.codeIn K cd1 "is_many" = true) (k1 : PySem.W.keepIn K (.ref f1) = true)
    {f2 : Addr} {od2 an2 : Option Addr} {sl2 : Array (Option Value)} {oc2 kV2 dc2 pm2 cd2 ct2 : Value}
        (a2 : PySem.W.nsIn K mainGlobals "is_place" = some (some (.ref f2))) (l2 : K.lookup f2 = some ⟨oc2, od2, .func (PySem.W.fnOf "is_place" "is_place" (defArgs st_is_place) (defBody st_is_place) (defScope st_is_place) .none kV2 dc2 pm2 an2 cd2 ct2), sl2⟩) (c2 : PySem.W.codeIn K cd2 "is_place" = true) (k2 : PySem.W.keepIn K (.ref f2) = true)
    {f3 : Addr} {od3 an3 : Option Addr} {sl3 : Array (Option Value)} {oc3 kV3 dc3 pm3 cd3 ct3 : Value}
        (a3 : PySem.W.nsIn K mainGlobals "is_moment" = some (some (.ref f3))) (l3 : K.lookup f3 = some ⟨oc3, od3, .func (PySem.W.fnOf "is_moment" "is_moment" (defArgs st_is_moment) (defBody st_is_moment) (defScope st_is_moment) .none kV3 dc3 pm3 an3 cd3 ct3), sl3⟩) (c3 : PySem.W.codeIn K cd3 "is_moment" = true) (k3 : PySem.W.keepIn K (.ref f3) = true)
    {f4 : Addr} {od4 an4 : Option Addr} {sl4 : Array (Option Value)} {oc4 kV4 dc4 pm4 cd4 ct4 : Value}
        (a4 : PySem.W.nsIn K mainGlobals "is_meeting" = some (some (.ref f4))) (l4 : K.lookup f4 = some ⟨oc4, od4, .func (PySem.W.fnOf "is_meeting" "is_meeting" (defArgs st_is_meeting) (defBody st_is_meeting) (defScope st_is_meeting) .none kV4 dc4 pm4 an4 cd4 ct4), sl4⟩) (c4 : PySem.W.codeIn K cd4 "is_meeting" = true) (k4 : PySem.W.keepIn K (.ref f4) = true)
    {f5 : Addr} {od5 an5 : Option Addr} {sl5 : Array (Option Value)} {oc5 kV5 dc5 pm5 cd5 ct5 : Value}
        (a5 : PySem.W.nsIn K mainGlobals "is_tie" = some (some (.ref f5))) (l5 : K.lookup f5 = some ⟨oc5, od5, .func (PySem.W.fnOf "is_tie" "is_tie" (defArgs st_is_tie) (defBody st_is_tie) (defScope st_is_tie) .none kV5 dc5 pm5 an5 cd5 ct5), sl5⟩) (c5 : PySem.W.codeIn K cd5 "is_tie" = true) (k5 : PySem.W.keepIn K (.ref f5) = true)
    {f6 : Addr} {od6 an6 : Option Addr} {sl6 : Array (Option Value)} {oc6 kV6 dc6 pm6 cd6 ct6 : Value}
        (a6 : PySem.W.nsIn K mainGlobals "is_record" = some (some (.ref f6))) (l6 : K.lookup f6 = some ⟨oc6, od6, .func (PySem.W.fnOf "is_record" "is_record" (defArgs st_is_record) (defBody st_is_record) (defScope st_is_record) .none kV6 dc6 pm6 an6 cd6 ct6), sl6⟩) (c6 : PySem.W.codeIn K cd6 "is_record" = true) (k6 : PySem.W.keepIn K (.ref f6) = true)
    {f7 : Addr} {od7 an7 : Option Addr} {sl7 : Array (Option Value)} {oc7 kV7 dc7 pm7 cd7 ct7 : Value}
        (a7 : PySem.W.nsIn K mainGlobals "joined" = some (some (.ref f7))) (l7 : K.lookup f7 = some ⟨oc7, od7, .func (PySem.W.fnOf "joined" "joined" (defArgs st_joined) (defBody st_joined) (defScope st_joined) .none kV7 dc7 pm7 an7 cd7 ct7), sl7⟩) (c7 : PySem.W.codeIn K cd7 "joined" = true) (k7 : PySem.W.keepIn K (.ref f7) = true)
    {f8 : Addr} {od8 an8 : Option Addr} {sl8 : Array (Option Value)} {oc8 kV8 dc8 pm8 cd8 ct8 : Value}
        (a8 : PySem.W.nsIn K mainGlobals "is_depth" = some (some (.ref f8))) (l8 : K.lookup f8 = some ⟨oc8, od8, .func (PySem.W.fnOf "is_depth" "is_depth" (defArgs st_is_depth) (defBody st_is_depth) (defScope st_is_depth) .none kV8 dc8 pm8 an8 cd8 ct8), sl8⟩) (c8 : PySem.W.codeIn K cd8 "is_depth" = true) (k8 : PySem.W.keepIn K (.ref f8) = true)
    {f9 : Addr} {od9 an9 : Option Addr} {sl9 : Array (Option Value)} {oc9 kV9 dc9 pm9 cd9 ct9 : Value}
        (a9 : PySem.W.nsIn K mainGlobals "look_at_layers" = some (some (.ref f9))) (l9 : K.lookup f9 = some ⟨oc9, od9, .func (PySem.W.fnOf "look_at_layers" "look_at_layers" (defArgs st_look_at_layers) (defBody st_look_at_layers) (defScope st_look_at_layers) .none kV9 dc9 pm9 an9 cd9 ct9), sl9⟩) (c9 : PySem.W.codeIn K cd9 "look_at_layers" = true) (k9 : PySem.W.keepIn K (.ref f9) = true)
    {f10 : Addr} {od10 an10 : Option Addr} {sl10 : Array (Option Value)} {oc10 kV10 dc10 pm10 cd10 ct10 : Value}
        (a10 : PySem.W.nsIn K mainGlobals "layer_for" = some (some (.ref f10))) (l10 : K.lookup f10 = some ⟨oc10, od10, .func (PySem.W.fnOf "layer_for" "layer_for" (defArgs st_layer_for) (defBody st_layer_for) (defScope st_layer_for) .none kV10 dc10 pm10 an10 cd10 ct10), sl10⟩) (c10 : PySem.W.codeIn K cd10 "layer_for" = true) (k10 : PySem.W.keepIn K (.ref f10) = true)
    {f11 : Addr} {od11 an11 : Option Addr} {sl11 : Array (Option Value)} {oc11 kV11 dc11 pm11 cd11 ct11 : Value}
        (a11 : PySem.W.nsIn K mainGlobals "layered" = some (some (.ref f11))) (l11 : K.lookup f11 = some ⟨oc11, od11, .func (PySem.W.fnOf "layered" "layered" (defArgs st_layered) (defBody st_layered) (defScope st_layered) .none kV11 dc11 pm11 an11 cd11 ct11), sl11⟩) (c11 : PySem.W.codeIn K cd11 "layered" = true) (k11 : PySem.W.keepIn K (.ref f11) = true)
    {f12 : Addr} {od12 an12 : Option Addr} {sl12 : Array (Option Value)} {oc12 kV12 dc12 pm12 cd12 ct12 : Value}
        (a12 : PySem.W.nsIn K mainGlobals "is_count" = some (some (.ref f12))) (l12 : K.lookup f12 = some ⟨oc12, od12, .func (PySem.W.fnOf "is_count" "is_count" (defArgs st_is_count) (defBody st_is_count) (defScope st_is_count) .none kV12 dc12 pm12 an12 cd12 ct12), sl12⟩) (c12 : PySem.W.codeIn K cd12 "is_count" = true) (k12 : PySem.W.keepIn K (.ref f12) = true)
    {f13 : Addr} {od13 an13 : Option Addr} {sl13 : Array (Option Value)} {oc13 kV13 dc13 pm13 cd13 ct13 : Value}
        (a13 : PySem.W.nsIn K mainGlobals "is_net" = some (some (.ref f13))) (l13 : K.lookup f13 = some ⟨oc13, od13, .func (PySem.W.fnOf "is_net" "is_net" (defArgs st_is_net) (defBody st_is_net) (defScope st_is_net) .none kV13 dc13 pm13 an13 cd13 ct13), sl13⟩) (c13 : PySem.W.codeIn K cd13 "is_net" = true) (k13 : PySem.W.keepIn K (.ref f13) = true)
    {f14 : Addr} {od14 an14 : Option Addr} {sl14 : Array (Option Value)} {oc14 kV14 dc14 pm14 cd14 ct14 : Value}
        (a14 : PySem.W.nsIn K mainGlobals "tie_text" = some (some (.ref f14))) (l14 : K.lookup f14 = some ⟨oc14, od14, .func (PySem.W.fnOf "tie_text" "tie_text" (defArgs st_tie_text) (defBody st_tie_text) (defScope st_tie_text) .none kV14 dc14 pm14 an14 cd14 ct14), sl14⟩) (c14 : PySem.W.codeIn K cd14 "tie_text" = true) (k14 : PySem.W.keepIn K (.ref f14) = true)
    {f15 : Addr} {od15 an15 : Option Addr} {sl15 : Array (Option Value)} {oc15 kV15 dc15 pm15 cd15 ct15 : Value}
        (a15 : PySem.W.nsIn K mainGlobals "record_text" = some (some (.ref f15))) (l15 : K.lookup f15 = some ⟨oc15, od15, .func (PySem.W.fnOf "record_text" "record_text" (defArgs st_record_text) (defBody st_record_text) (defScope st_record_text) .none kV15 dc15 pm15 an15 cd15 ct15), sl15⟩) (c15 : PySem.W.codeIn K cd15 "record_text" = true) (k15 : PySem.W.keepIn K (.ref f15) = true)
    {f16 : Addr} {od16 an16 : Option Addr} {sl16 : Array (Option Value)} {oc16 kV16 dc16 pm16 cd16 ct16 : Value}
        (a16 : PySem.W.nsIn K mainGlobals "net_text" = some (some (.ref f16))) (l16 : K.lookup f16 = some ⟨oc16, od16, .func (PySem.W.fnOf "net_text" "net_text" (defArgs st_net_text) (defBody st_net_text) (defScope st_net_text) .none kV16 dc16 pm16 an16 cd16 ct16), sl16⟩) (c16 : PySem.W.codeIn K cd16 "net_text" = true) (k16 : PySem.W.keepIn K (.ref f16) = true)
    {f17 : Addr} {od17 an17 : Option Addr} {sl17 : Array (Option Value)} {oc17 kV17 dc17 pm17 cd17 ct17 : Value}
        (a17 : PySem.W.nsIn K mainGlobals "number_in" = some (some (.ref f17))) (l17 : K.lookup f17 = some ⟨oc17, od17, .func (PySem.W.fnOf "number_in" "number_in" (defArgs st_number_in) (defBody st_number_in) (defScope st_number_in) .none kV17 dc17 pm17 an17 cd17 ct17), sl17⟩) (c17 : PySem.W.codeIn K cd17 "number_in" = true) (k17 : PySem.W.keepIn K (.ref f17) = true)
    {f18 : Addr} {od18 an18 : Option Addr} {sl18 : Array (Option Value)} {oc18 kV18 dc18 pm18 cd18 ct18 : Value}
        (a18 : PySem.W.nsIn K mainGlobals "tie_in" = some (some (.ref f18))) (l18 : K.lookup f18 = some ⟨oc18, od18, .func (PySem.W.fnOf "tie_in" "tie_in" (defArgs st_tie_in) (defBody st_tie_in) (defScope st_tie_in) .none kV18 dc18 pm18 an18 cd18 ct18), sl18⟩) (c18 : PySem.W.codeIn K cd18 "tie_in" = true) (k18 : PySem.W.keepIn K (.ref f18) = true)
    {f19 : Addr} {od19 an19 : Option Addr} {sl19 : Array (Option Value)} {oc19 kV19 dc19 pm19 cd19 ct19 : Value}
        (a19 : PySem.W.nsIn K mainGlobals "read_record" = some (some (.ref f19))) (l19 : K.lookup f19 = some ⟨oc19, od19, .func (PySem.W.fnOf "read_record" "read_record" (defArgs st_read_record) (defBody st_read_record) (defScope st_read_record) .none kV19 dc19 pm19 an19 cd19 ct19), sl19⟩) (c19 : PySem.W.codeIn K cd19 "read_record" = true) (k19 : PySem.W.keepIn K (.ref f19) = true)
    {f20 : Addr} {od20 an20 : Option Addr} {sl20 : Array (Option Value)} {oc20 kV20 dc20 pm20 cd20 ct20 : Value}
        (a20 : PySem.W.nsIn K mainGlobals "read_net" = some (some (.ref f20))) (l20 : K.lookup f20 = some ⟨oc20, od20, .func (PySem.W.fnOf "read_net" "read_net" (defArgs st_read_net) (defBody st_read_net) (defScope st_read_net) .none kV20 dc20 pm20 an20 cd20 ct20), sl20⟩) (c20 : PySem.W.codeIn K cd20 "read_net" = true) (k20 : PySem.W.keepIn K (.ref f20) = true)
    {f21 : Addr} {od21 an21 : Option Addr} {sl21 : Array (Option Value)} {oc21 kV21 dc21 pm21 cd21 ct21 : Value}
        (a21 : PySem.W.nsIn K mainGlobals "_law_mixed" = some (some (.ref f21))) (l21 : K.lookup f21 = some ⟨oc21, od21, .func (PySem.W.fnOf "_law_mixed" "_law_mixed" (defArgs st_l_mixed) (defBody st_l_mixed) (defScope st_l_mixed) .none kV21 dc21 pm21 an21 cd21 ct21), sl21⟩) (c21 : PySem.W.codeIn K cd21 "_law_mixed" = true) (k21 : PySem.W.keepIn K (.ref f21) = true)
    {f22 : Addr} {od22 an22 : Option Addr} {sl22 : Array (Option Value)} {oc22 kV22 dc22 pm22 cd22 ct22 : Value}
        (a22 : PySem.W.nsIn K mainGlobals "_law_numbers" = some (some (.ref f22))) (l22 : K.lookup f22 = some ⟨oc22, od22, .func (PySem.W.fnOf "_law_numbers" "_law_numbers" (defArgs st_l_numbers) (defBody st_l_numbers) (defScope st_l_numbers) .none kV22 dc22 pm22 an22 cd22 ct22), sl22⟩) (c22 : PySem.W.codeIn K cd22 "_law_numbers" = true) (k22 : PySem.W.keepIn K (.ref f22) = true)
    {f23 : Addr} {od23 an23 : Option Addr} {sl23 : Array (Option Value)} {oc23 kV23 dc23 pm23 cd23 ct23 : Value}
        (a23 : PySem.W.nsIn K mainGlobals "_law_ends" = some (some (.ref f23))) (l23 : K.lookup f23 = some ⟨oc23, od23, .func (PySem.W.fnOf "_law_ends" "_law_ends" (defArgs st_l_ends) (defBody st_l_ends) (defScope st_l_ends) .none kV23 dc23 pm23 an23 cd23 ct23), sl23⟩) (c23 : PySem.W.codeIn K cd23 "_law_ends" = true) (k23 : PySem.W.keepIn K (.ref f23) = true)
    {f24 : Addr} {od24 an24 : Option Addr} {sl24 : Array (Option Value)} {oc24 kV24 dc24 pm24 cd24 ct24 : Value}
        (a24 : PySem.W.nsIn K mainGlobals "_law_record" = some (some (.ref f24))) (l24 : K.lookup f24 = some ⟨oc24, od24, .func (PySem.W.fnOf "_law_record" "_law_record" (defArgs st_l_record) (defBody st_l_record) (defScope st_l_record) .none kV24 dc24 pm24 an24 cd24 ct24), sl24⟩) (c24 : PySem.W.codeIn K cd24 "_law_record" = true) (k24 : PySem.W.keepIn K (.ref f24) = true)
    {f25 : Addr} {od25 an25 : Option Addr} {sl25 : Array (Option Value)} {oc25 kV25 dc25 pm25 cd25 ct25 : Value}
        (a25 : PySem.W.nsIn K mainGlobals "_law_depth" = some (some (.ref f25))) (l25 : K.lookup f25 = some ⟨oc25, od25, .func (PySem.W.fnOf "_law_depth" "_law_depth" (defArgs st_l_depth) (defBody st_l_depth) (defScope st_l_depth) .none kV25 dc25 pm25 an25 cd25 ct25), sl25⟩) (c25 : PySem.W.codeIn K cd25 "_law_depth" = true) (k25 : PySem.W.keepIn K (.ref f25) = true)
    {f26 : Addr} {od26 an26 : Option Addr} {sl26 : Array (Option Value)} {oc26 kV26 dc26 pm26 cd26 ct26 : Value}
        (a26 : PySem.W.nsIn K mainGlobals "_law_joined" = some (some (.ref f26))) (l26 : K.lookup f26 = some ⟨oc26, od26, .func (PySem.W.fnOf "_law_joined" "_law_joined" (defArgs st_l_joined) (defBody st_l_joined) (defScope st_l_joined) .none kV26 dc26 pm26 an26 cd26 ct26), sl26⟩) (c26 : PySem.W.codeIn K cd26 "_law_joined" = true) (k26 : PySem.W.keepIn K (.ref f26) = true)
    {f27 : Addr} {od27 an27 : Option Addr} {sl27 : Array (Option Value)} {oc27 kV27 dc27 pm27 cd27 ct27 : Value}
        (a27 : PySem.W.nsIn K mainGlobals "_law_numbered" = some (some (.ref f27))) (l27 : K.lookup f27 = some ⟨oc27, od27, .func (PySem.W.fnOf "_law_numbered" "_law_numbered" (defArgs st_l_numbered) (defBody st_l_numbered) (defScope st_l_numbered) .none kV27 dc27 pm27 an27 cd27 ct27), sl27⟩) (c27 : PySem.W.codeIn K cd27 "_law_numbered" = true) (k27 : PySem.W.keepIn K (.ref f27) = true)
    {f28 : Addr} {od28 an28 : Option Addr} {sl28 : Array (Option Value)} {oc28 kV28 dc28 pm28 cd28 ct28 : Value}
        (a28 : PySem.W.nsIn K mainGlobals "_law_text" = some (some (.ref f28))) (l28 : K.lookup f28 = some ⟨oc28, od28, .func (PySem.W.fnOf "_law_text" "_law_text" (defArgs st_l_text) (defBody st_l_text) (defScope st_l_text) .none kV28 dc28 pm28 an28 cd28 ct28), sl28⟩) (c28 : PySem.W.codeIn K cd28 "_law_text" = true) (k28 : PySem.W.keepIn K (.ref f28) = true)
    {f29 : Addr} {od29 an29 : Option Addr} {sl29 : Array (Option Value)} {oc29 kV29 dc29 pm29 cd29 ct29 : Value}
        (a29 : PySem.W.nsIn K mainGlobals "_law_read" = some (some (.ref f29))) (l29 : K.lookup f29 = some ⟨oc29, od29, .func (PySem.W.fnOf "_law_read" "_law_read" (defArgs st_l_read) (defBody st_l_read) (defScope st_l_read) .none kV29 dc29 pm29 an29 cd29 ct29), sl29⟩) (c29 : PySem.W.codeIn K cd29 "_law_read" = true) (k29 : PySem.W.keepIn K (.ref f29) = true)
    {f30 : Addr} {od30 an30 : Option Addr} {sl30 : Array (Option Value)} {oc30 kV30 dc30 pm30 cd30 ct30 : Value}
        (a30 : PySem.W.nsIn K mainGlobals "_law_due" = some (some (.ref f30))) (l30 : K.lookup f30 = some ⟨oc30, od30, .func (PySem.W.fnOf "_law_due" "_law_due" (defArgs st_l_due) (defBody st_l_due) (defScope st_l_due) .none kV30 dc30 pm30 an30 cd30 ct30), sl30⟩) (c30 : PySem.W.codeIn K cd30 "_law_due" = true) (k30 : PySem.W.keepIn K (.ref f30) = true)
    {f31 : Addr} {od31 an31 : Option Addr} {sl31 : Array (Option Value)} {oc31 kV31 dc31 pm31 cd31 ct31 : Value}
        (a31 : PySem.W.nsIn K mainGlobals "_law_bad" = some (some (.ref f31))) (l31 : K.lookup f31 = some ⟨oc31, od31, .func (PySem.W.fnOf "_law_bad" "_law_bad" (defArgs st_l_bad) (defBody st_l_bad) (defScope st_l_bad) .none kV31 dc31 pm31 an31 cd31 ct31), sl31⟩) (c31 : PySem.W.codeIn K cd31 "_law_bad" = true) (k31 : PySem.W.keepIn K (.ref f31) = true)
    {f32 : Addr} {od32 an32 : Option Addr} {sl32 : Array (Option Value)} {oc32 kV32 dc32 pm32 cd32 ct32 : Value}
        (a32 : PySem.W.nsIn K mainGlobals "_law_no_net" = some (some (.ref f32))) (l32 : K.lookup f32 = some ⟨oc32, od32, .func (PySem.W.fnOf "_law_no_net" "_law_no_net" (defArgs st_l_no_net) (defBody st_l_no_net) (defScope st_l_no_net) .none kV32 dc32 pm32 an32 cd32 ct32), sl32⟩) (c32 : PySem.W.codeIn K cd32 "_law_no_net" = true) (k32 : PySem.W.keepIn K (.ref f32) = true)
    {f33 : Addr} {od33 an33 : Option Addr} {sl33 : Array (Option Value)} {oc33 kV33 dc33 pm33 cd33 ct33 : Value}
        (a33 : PySem.W.nsIn K mainGlobals "_law_unwritten" = some (some (.ref f33))) (l33 : K.lookup f33 = some ⟨oc33, od33, .func (PySem.W.fnOf "_law_unwritten" "_law_unwritten" (defArgs st_l_unwritten) (defBody st_l_unwritten) (defScope st_l_unwritten) .none kV33 dc33 pm33 an33 cd33 ct33), sl33⟩) (c33 : PySem.W.codeIn K cd33 "_law_unwritten" = true) (k33 : PySem.W.keepIn K (.ref f33) = true)
    {f34 : Addr} {od34 an34 : Option Addr} {sl34 : Array (Option Value)} {oc34 kV34 dc34 pm34 cd34 ct34 : Value}
        (a34 : PySem.W.nsIn K mainGlobals "law" = some (some (.ref f34))) (l34 : K.lookup f34 = some ⟨oc34, od34, .func (PySem.W.fnOf "law" "law" (defArgs st_law) (defBody st_law) (defScope st_law) .none kV34 dc34 pm34 an34 cd34 ct34), sl34⟩) (c34 : PySem.W.codeIn K cd34 "law" = true) (k34 : PySem.W.keepIn K (.ref f34) = true)
        (z_isinstance : PySem.W.nsIn K mainGlobals "isinstance" = some none)
        (z_int : PySem.W.nsIn K mainGlobals "int" = some none)
        (z_bool : PySem.W.nsIn K mainGlobals "bool" = some none)
        (z_tuple : PySem.W.nsIn K mainGlobals "tuple" = some none)
        (z_len : PySem.W.nsIn K mainGlobals "len" = some none)
        (z_list : PySem.W.nsIn K mainGlobals "list" = some none)
        (z_all : PySem.W.nsIn K mainGlobals "all" = some none)
        (z_range : PySem.W.nsIn K mainGlobals "range" = some none)
        (z_min : PySem.W.nsIn K mainGlobals "min" = some none)
        (z_max : PySem.W.nsIn K mainGlobals "max" = some none)
        (z_enumerate : PySem.W.nsIn K mainGlobals "enumerate" = some none)
        (z_reversed : PySem.W.nsIn K mainGlobals "reversed" = some none)
        (z_str : PySem.W.nsIn K mainGlobals "str" = some none)
        (z_ValueError : PySem.W.nsIn K mainGlobals "ValueError" = some none)
        (z_zip : PySem.W.nsIn K mainGlobals "zip" = some none)
        {tk_MOST_PLACES_records : Tok} (y_MOST_PLACES_records : PySem.W.nsIn K mainGlobals "MOST_PLACES_records" = some (some (.int (10) tk_MOST_PLACES_records)))
        {tk_LAST_MOMENT : Tok} (y_LAST_MOMENT : PySem.W.nsIn K mainGlobals "LAST_MOMENT" = some (some (.int (1000000000000000000000000000000) tk_LAST_MOMENT)))
        {tk_MOST_TIES : Tok} (y_MOST_TIES : PySem.W.nsIn K mainGlobals "MOST_TIES" = some (some (.int (60) tk_MOST_TIES)))
        {tk_MOST_LAYERS_layers : Tok} (y_MOST_LAYERS_layers : PySem.W.nsIn K mainGlobals "MOST_LAYERS_layers" = some (some (.int (6) tk_MOST_LAYERS_layers)))
        {tk_MOST_PLACES_nets : Tok} (y_MOST_PLACES_nets : PySem.W.nsIn K mainGlobals "MOST_PLACES_nets" = some (some (.int (10) tk_MOST_PLACES_nets)))
        {tk_MOST_LAYERS_nets : Tok} (y_MOST_LAYERS_nets : PySem.W.nsIn K mainGlobals "MOST_LAYERS_nets" = some (some (.int (6) tk_MOST_LAYERS_nets)))
        {tk_NOTHING : Tok} (y_NOTHING : PySem.W.nsIn K mainGlobals "NOTHING" = some (some (.str "none" tk_NOTHING)))
        {tk_MOST_FIGURES : Tok} (y_MOST_FIGURES : PySem.W.nsIn K mainGlobals "MOST_FIGURES" = some (some (.int (60) tk_MOST_FIGURES)))
        {tk_FIGURES : Tok} (y_FIGURES : PySem.W.nsIn K mainGlobals "FIGURES" = some (some (.str "0123456789" tk_FIGURES)))
        {C_NoNet : Addr} (u1_NoNet : PySem.W.nsIn K mainGlobals "NoNet" = some (some (.ref C_NoNet))) (u2_NoNet : PySem.W.keepIn K (.ref C_NoNet) = true) (u3_NoNet : PySem.W.typeIn K (.ref C_NoNet) = some (.type "type"))
        (u4_NoNet : PySem.W.findIn K (.ref C_NoNet) "__getattribute__" = some (some (.builtin "BaseException.__getattribute__"))) (u5_NoNet : PySem.W.findIn K (.ref C_NoNet) "__getattr__" = some none) (u6_NoNet : PySem.W.subIn K (.ref C_NoNet) (.type "BaseException") = some true) (u7_NoNet : PySem.W.hasDictIn K C_NoNet = true) (u8_NoNet : PySem.W.findIn K (.ref C_NoNet) "__class__" = some (some (.builtin "object.__class__"))) (u9_NoNet : PySem.W.mroIn K C_NoNet (.type "object") = some true)
        (uQ_NoNet : PySem.W.excIn K C_NoNet veB "ValueError.__new__" = true)
        {C_NoText : Addr} (u1_NoText : PySem.W.nsIn K mainGlobals "NoText" = some (some (.ref C_NoText))) (u2_NoText : PySem.W.keepIn K (.ref C_NoText) = true) (u3_NoText : PySem.W.typeIn K (.ref C_NoText) = some (.type "type"))
        (u4_NoText : PySem.W.findIn K (.ref C_NoText) "__getattribute__" = some (some (.builtin "BaseException.__getattribute__"))) (u5_NoText : PySem.W.findIn K (.ref C_NoText) "__getattr__" = some none) (u6_NoText : PySem.W.subIn K (.ref C_NoText) (.type "BaseException") = some true) (u7_NoText : PySem.W.hasDictIn K C_NoText = true) (u8_NoText : PySem.W.findIn K (.ref C_NoText) "__class__" = some (some (.builtin "object.__class__"))) (u9_NoText : PySem.W.mroIn K C_NoText (.type "object") = some true)
        (uQ_NoText : PySem.W.excIn K C_NoText veB "ValueError.__new__" = true)
        {C_PlyError : Addr} (u1_PlyError : PySem.W.nsIn K mainGlobals "PlyError" = some (some (.ref C_PlyError))) (u2_PlyError : PySem.W.keepIn K (.ref C_PlyError) = true) (u3_PlyError : PySem.W.typeIn K (.ref C_PlyError) = some (.type "type"))
        (u4_PlyError : PySem.W.findIn K (.ref C_PlyError) "__getattribute__" = some (some (.builtin "BaseException.__getattribute__"))) (u5_PlyError : PySem.W.findIn K (.ref C_PlyError) "__getattr__" = some none) (u6_PlyError : PySem.W.subIn K (.ref C_PlyError) (.type "BaseException") = some true) (u7_PlyError : PySem.W.hasDictIn K C_PlyError = true) (u8_PlyError : PySem.W.findIn K (.ref C_PlyError) "__class__" = some (some (.builtin "object.__class__"))) (u9_PlyError : PySem.W.mroIn K C_PlyError (.type "object") = some true)
        {C_NoTies : Addr} (u1_NoTies : PySem.W.nsIn K mainGlobals "NoTies" = some (some (.ref C_NoTies))) (u2_NoTies : PySem.W.keepIn K (.ref C_NoTies) = true) (u3_NoTies : PySem.W.typeIn K (.ref C_NoTies) = some (.type "type"))
        (u4_NoTies : PySem.W.findIn K (.ref C_NoTies) "__getattribute__" = some (some (.builtin "BaseException.__getattribute__"))) (u5_NoTies : PySem.W.findIn K (.ref C_NoTies) "__getattr__" = some none) (u6_NoTies : PySem.W.subIn K (.ref C_NoTies) (.type "BaseException") = some true) (u7_NoTies : PySem.W.hasDictIn K C_NoTies = true) (u8_NoTies : PySem.W.findIn K (.ref C_NoTies) "__class__" = some (some (.builtin "object.__class__"))) (u9_NoTies : PySem.W.mroIn K C_NoTies (.type "object") = some true)
        {C_NoPlaces : Addr} (u1_NoPlaces : PySem.W.nsIn K mainGlobals "NoPlaces" = some (some (.ref C_NoPlaces))) (u2_NoPlaces : PySem.W.keepIn K (.ref C_NoPlaces) = true) (u3_NoPlaces : PySem.W.typeIn K (.ref C_NoPlaces) = some (.type "type"))
        (u4_NoPlaces : PySem.W.findIn K (.ref C_NoPlaces) "__getattribute__" = some (some (.builtin "BaseException.__getattribute__"))) (u5_NoPlaces : PySem.W.findIn K (.ref C_NoPlaces) "__getattr__" = some none) (u6_NoPlaces : PySem.W.subIn K (.ref C_NoPlaces) (.type "BaseException") = some true) (u7_NoPlaces : PySem.W.hasDictIn K C_NoPlaces = true) (u8_NoPlaces : PySem.W.findIn K (.ref C_NoPlaces) "__class__" = some (some (.builtin "object.__class__"))) (u9_NoPlaces : PySem.W.mroIn K C_NoPlaces (.type "object") = some true)
        {C_NoLayers : Addr} (u1_NoLayers : PySem.W.nsIn K mainGlobals "NoLayers" = some (some (.ref C_NoLayers))) (u2_NoLayers : PySem.W.keepIn K (.ref C_NoLayers) = true) (u3_NoLayers : PySem.W.typeIn K (.ref C_NoLayers) = some (.type "type"))
        (u4_NoLayers : PySem.W.findIn K (.ref C_NoLayers) "__getattribute__" = some (some (.builtin "BaseException.__getattribute__"))) (u5_NoLayers : PySem.W.findIn K (.ref C_NoLayers) "__getattr__" = some none) (u6_NoLayers : PySem.W.subIn K (.ref C_NoLayers) (.type "BaseException") = some true) (u7_NoLayers : PySem.W.hasDictIn K C_NoLayers = true) (u8_NoLayers : PySem.W.findIn K (.ref C_NoLayers) "__class__" = some (some (.builtin "object.__class__"))) (u9_NoLayers : PySem.W.mroIn K C_NoLayers (.type "object") = some true)
        {C_Clash : Addr} (u1_Clash : PySem.W.nsIn K mainGlobals "Clash" = some (some (.ref C_Clash))) (u2_Clash : PySem.W.keepIn K (.ref C_Clash) = true) (u3_Clash : PySem.W.typeIn K (.ref C_Clash) = some (.type "type"))
        (u4_Clash : PySem.W.findIn K (.ref C_Clash) "__getattribute__" = some (some (.builtin "BaseException.__getattribute__"))) (u5_Clash : PySem.W.findIn K (.ref C_Clash) "__getattr__" = some none) (u6_Clash : PySem.W.subIn K (.ref C_Clash) (.type "BaseException") = some true) (u7_Clash : PySem.W.hasDictIn K C_Clash = true) (u8_Clash : PySem.W.findIn K (.ref C_Clash) "__class__" = some (some (.builtin "object.__class__"))) (u9_Clash : PySem.W.mroIn K C_Clash (.type "object") = some true)
        (un : PySem.W.specialIn K (.builtin "object.__class__") "__get__" = some (some (.builtin "getset_descriptor.__get__"))) (ut : PySem.W.takesIn K (.builtin "object.__class__") = some true)
        (uS_NoText_PlyError : PySem.W.subIn K (.ref C_NoText) (.ref C_PlyError) = some true)
        (uS_NoNet_PlyError : PySem.W.subIn K (.ref C_NoNet) (.ref C_PlyError) = some true)
        (uS_NoText_NoText : PySem.W.subIn K (.ref C_NoText) (.ref C_NoText) = some true)
        (uS_NoNet_NoText : PySem.W.subIn K (.ref C_NoNet) (.ref C_NoText) = some false)
        (uS_NoNet_NoNet : PySem.W.subIn K (.ref C_NoNet) (.ref C_NoNet) = some true)
        (uS_NoText_NoTies : PySem.W.subIn K (.ref C_NoText) (.ref C_NoTies) = some false)
        (uS_NoText_NoPlaces : PySem.W.subIn K (.ref C_NoText) (.ref C_NoPlaces) = some false)
        (uS_NoText_NoNet : PySem.W.subIn K (.ref C_NoText) (.ref C_NoNet) = some false)
        (uS_NoText_NoLayers : PySem.W.subIn K (.ref C_NoText) (.ref C_NoLayers) = some false)
        (uS_NoText_Clash : PySem.W.subIn K (.ref C_NoText) (.ref C_Clash) = some false)
        (uS_NoNet_NoTies : PySem.W.subIn K (.ref C_NoNet) (.ref C_NoTies) = some false)
        (uS_NoNet_NoPlaces : PySem.W.subIn K (.ref C_NoNet) (.ref C_NoPlaces) = some false)
        (uS_NoNet_NoLayers : PySem.W.subIn K (.ref C_NoNet) (.ref C_NoLayers) = some false)
        (uS_NoNet_Clash : PySem.W.subIn K (.ref C_NoNet) (.ref C_Clash) = some false)
        (uS_NoText_ValueError : PySem.W.subIn K (.ref C_NoText) (.type "ValueError") = some true)
        (uS_NoNet_ValueError : PySem.W.subIn K (.ref C_NoNet) (.type "ValueError") = some true) :
    ∃ fd : FuncData, (∀ (s : Shared) (v : Value), BindsTo s fd ⟨[v], []⟩ [("script", v)]) ∧ ∀ base : Heap, K.In base → base.Ns mainGlobals mg → FnOk l.prog w K mg base CX0 9 fa fd ["script"] (spG K mg 1 f_law) := by
  have e := hfa.symm.trans (PySem.W.mg_of X G a34)
  cases e
  exact ⟨_, fun s v => .of_eq rfl, fun base _ _ => ok_law (mkTx X G a0 l0 c0 k0 a1 l1 c1 k1 a2 l2 c2 k2 a3 l3 c3 k3 a4 l4 c4 k4 a5 l5 c5 k5 a6 l6 c6 k6 a7 l7 c7 k7 a8 l8 c8 k8 a9 l9 c9 k9 a10 l10 c10 k10 a11 l11 c11 k11 a12 l12 c12 k12 a13 l13 c13 k13 a14 l14 c14 k14 a15 l15 c15 k15 a16 l16 c16 k16 a17 l17 c17 k17 a18 l18 c18 k18 a19 l19 c19 k19 a20 l20 c20 k20 a21 l21 c21 k21 a22 l22 c22 k22 a23 l23 c23 k23 a24 l24 c24 k24 a25 l25 c25 k25 a26 l26 c26 k26 a27 l27 c27 k27 a28 l28 c28 k28 a29 l29 c29 k29 a30 l30 c30 k30 a31 l31 c31 k31 a32 l32 c32 k32 a33 l33 c33 k33 a34 l34 c34 k34 z_isinstance z_int z_bool z_tuple z_len z_list z_all z_range z_min z_max z_enumerate z_reversed z_str z_ValueError z_zip y_MOST_PLACES_records y_LAST_MOMENT y_MOST_TIES y_MOST_LAYERS_layers y_MOST_PLACES_nets y_MOST_LAYERS_nets y_NOTHING y_MOST_FIGURES y_FIGURES u1_NoNet u2_NoNet u3_NoNet u4_NoNet u5_NoNet u6_NoNet u7_NoNet u8_NoNet u9_NoNet uQ_NoNet u1_NoText u2_NoText u3_NoText u4_NoText u5_NoText u6_NoText u7_NoText u8_NoText u9_NoText uQ_NoText u1_PlyError u2_PlyError u3_PlyError u4_PlyError u5_PlyError u6_PlyError u7_PlyError u8_PlyError u9_PlyError u1_NoTies u2_NoTies u3_NoTies u4_NoTies u5_NoTies u6_NoTies u7_NoTies u8_NoTies u9_NoTies u1_NoPlaces u2_NoPlaces u3_NoPlaces u4_NoPlaces u5_NoPlaces u6_NoPlaces u7_NoPlaces u8_NoPlaces u9_NoPlaces u1_NoLayers u2_NoLayers u3_NoLayers u4_NoLayers u5_NoLayers u6_NoLayers u7_NoLayers u8_NoLayers u9_NoLayers u1_Clash u2_Clash u3_Clash u4_Clash u5_Clash u6_Clash u7_Clash u8_Clash u9_Clash un ut uS_NoText_PlyError uS_NoNet_PlyError uS_NoText_NoText uS_NoNet_NoText uS_NoNet_NoNet uS_NoText_NoTies uS_NoText_NoPlaces uS_NoText_NoNet uS_NoText_NoLayers uS_NoText_Clash uS_NoNet_NoTies uS_NoNet_NoPlaces uS_NoNet_NoLayers uS_NoNet_Clash uS_NoText_ValueError uS_NoNet_ValueError)⟩
end
end K57
end T_K57
section T_FamAP
set_option linter.all false
set_option maxRecDepth 100000
namespace FamA
open PySem Sim
abbrev B30 : Int := 1000000000000000000000000000000
theorem mixed_ok (cell k : Int) : ∃ z, f_l_mixed [.int cell, .int k] = .ok (.int z) ∧ 0 ≤ z ∧ z < 2147483647 := by
  unfold f_l_mixed fnN g_l_mixed
  simp (disch := omega) only [bnd_ok, gVar_def, gC_def, gOp_def, gUn_def, gNil_def, gCons_def, gIf_def, gTest_def, gNot_def, gAnd_def, gOr_def, gAndV_def, gOrV_def, gNotV_def, gCB_def, asB_b, hAdd_i, hSub_i, hLt_i, hLe_i, hGt_i, hGe_i, hMul_r, hMul_l, hMod_i, hDiv_s, hBand_i, hShr_i, hPow_10_18, hPow_10_27, hPow_10_28, hPow_10_29, hPow_10_30, hEq_i, hNe_i, hLen_l, hLen_t, hMin2_i, hMax2_i, hMin3_i, hInt1_b, hInt1_i, hBits_i, hListOf_l, hListOf_t, hTupOf_l, hTupOf_t, gSeqS_def, gSet_def, gRet_def, gIfS_def, gNext_def, gTup_def, gLst_def, List.getElem?_cons_zero, List.getElem?_cons_succ, List.set_cons_zero, List.set_cons_succ, List.length_cons, List.length_nil, Nat.zero_add, Nat.reduceAdd, Nat.reduceLeDiff, Nat.reduceSub, Nat.reduceMul, if_true, if_false, Bool.false_eq_true, List.replicate_succ, List.replicate_zero, List.cons_append, List.nil_append, tgN, tgT, tgCons, tgNil, Int.reducePow, Int.reduceAdd, Int.reduceSub, Int.reduceMul, decide_true, decide_false, Bool.not_true, Bool.not_false, gChain_def, hIsa_int, hIsa_intb, hIsa_list, hIsa_tuple, gDrop_def]
  exact ⟨_, rfl, by omega, by omega⟩
theorem ends_ok (n kind one other : Int) (hn : 1 ≤ n) : ∃ a b, f_l_ends [.int n, .int kind, .int one, .int other] = .ok (.tuple [.int a, .int b]) ∧ 0 ≤ a ∧ a < n ∧ 0 ≤ b ∧ b < n := by
  unfold f_l_ends fnN g_l_ends
  have m0 := fun x : Int => Int.emod_nonneg x (show n ≠ 0 by omega)
  have m1 := fun x : Int => Int.emod_lt_of_pos x (show 0 < n by omega)
  by_cases h0 : kind = 0
  · subst h0
    simp (disch := omega) only [bnd_ok, gVar_def, gC_def, gOp_def, gUn_def, gNil_def, gCons_def, gIf_def, gTest_def, gNot_def, gAnd_def, gOr_def, gAndV_def, gOrV_def, gNotV_def, gCB_def, asB_b, hAdd_i, hSub_i, hLt_i, hLe_i, hGt_i, hGe_i, hMul_r, hMul_l, hMod_i, hDiv_s, hBand_i, hShr_i, hPow_10_18, hPow_10_27, hPow_10_28, hPow_10_29, hPow_10_30, hEq_i, hNe_i, hLen_l, hLen_t, hMin2_i, hMax2_i, hMin3_i, hInt1_b, hInt1_i, hBits_i, hListOf_l, hListOf_t, hTupOf_l, hTupOf_t, gSeqS_def, gSet_def, gRet_def, gIfS_def, gNext_def, gTup_def, gLst_def, List.getElem?_cons_zero, List.getElem?_cons_succ, List.set_cons_zero, List.set_cons_succ, List.length_cons, List.length_nil, Nat.zero_add, Nat.reduceAdd, Nat.reduceLeDiff, Nat.reduceSub, Nat.reduceMul, if_true, if_false, Bool.false_eq_true, List.replicate_succ, List.replicate_zero, List.cons_append, List.nil_append, tgN, tgT, tgCons, tgNil, Int.reducePow, Int.reduceAdd, Int.reduceSub, Int.reduceMul, decide_true, decide_false, Bool.not_true, Bool.not_false, gChain_def, hIsa_int, hIsa_intb, hIsa_list, hIsa_tuple, gDrop_def, beq_self_eq_true]
    exact ⟨_, _, rfl, m0 _, m1 _, m0 _, m1 _⟩
  · have e0 : (kind == 0) = false := beq_eq_false_iff_ne.mpr h0
    by_cases h1 : kind = 1
    · subst h1
      have q3 : 0 < (if (3 : Int) < n then 3 else n) := by split <;> omega
      have q2 : 0 < (if (2 : Int) < n then 2 else n) := by split <;> omega
      have q3' : (if (3 : Int) < n then 3 else n) ≤ n := by split <;> omega
      have q2' : (if (2 : Int) < n then 2 else n) ≤ n := by split <;> omega
      have p0 := Int.emod_nonneg one (show (if (3 : Int) < n then 3 else n) ≠ 0 by omega)
      have p1 := Int.emod_lt_of_pos one q3
      have p2 := Int.emod_nonneg other (show (if (2 : Int) < n then 2 else n) ≠ 0 by omega)
      have p3 := Int.emod_lt_of_pos other q2
      simp (disch := first | assumption | omega) only [bnd_ok, gVar_def, gC_def, gOp_def, gUn_def, gNil_def, gCons_def, gIf_def, gTest_def, gNot_def, gAnd_def, gOr_def, gAndV_def, gOrV_def, gNotV_def, gCB_def, asB_b, hAdd_i, hSub_i, hLt_i, hLe_i, hGt_i, hGe_i, hMul_r, hMul_l, hMod_i, hDiv_s, hBand_i, hShr_i, hPow_10_18, hPow_10_27, hPow_10_28, hPow_10_29, hPow_10_30, hEq_i, hNe_i, hLen_l, hLen_t, hMin2_i, hMax2_i, hMin3_i, hInt1_b, hInt1_i, hBits_i, hListOf_l, hListOf_t, hTupOf_l, hTupOf_t, gSeqS_def, gSet_def, gRet_def, gIfS_def, gNext_def, gTup_def, gLst_def, List.getElem?_cons_zero, List.getElem?_cons_succ, List.set_cons_zero, List.set_cons_succ, List.length_cons, List.length_nil, Nat.zero_add, Nat.reduceAdd, Nat.reduceLeDiff, Nat.reduceSub, Nat.reduceMul, if_true, if_false, Bool.false_eq_true, List.replicate_succ, List.replicate_zero, List.cons_append, List.nil_append, tgN, tgT, tgCons, tgNil, Int.reducePow, Int.reduceAdd, Int.reduceSub, Int.reduceMul, decide_true, decide_false, Bool.not_true, Bool.not_false, gChain_def, hIsa_int, hIsa_intb, hIsa_list, hIsa_tuple, gDrop_def, beq_self_eq_true, e0]
      exact ⟨_, _, rfl, p0, Int.lt_of_lt_of_le p1 q3', p2, Int.lt_of_lt_of_le p3 q2'⟩
    · have e1 : (kind == 1) = false := beq_eq_false_iff_ne.mpr h1
      by_cases h2 : kind = 2
      · subst h2
        simp (disch := omega) only [bnd_ok, gVar_def, gC_def, gOp_def, gUn_def, gNil_def, gCons_def, gIf_def, gTest_def, gNot_def, gAnd_def, gOr_def, gAndV_def, gOrV_def, gNotV_def, gCB_def, asB_b, hAdd_i, hSub_i, hLt_i, hLe_i, hGt_i, hGe_i, hMul_r, hMul_l, hMod_i, hDiv_s, hBand_i, hShr_i, hPow_10_18, hPow_10_27, hPow_10_28, hPow_10_29, hPow_10_30, hEq_i, hNe_i, hLen_l, hLen_t, hMin2_i, hMax2_i, hMin3_i, hInt1_b, hInt1_i, hBits_i, hListOf_l, hListOf_t, hTupOf_l, hTupOf_t, gSeqS_def, gSet_def, gRet_def, gIfS_def, gNext_def, gTup_def, gLst_def, List.getElem?_cons_zero, List.getElem?_cons_succ, List.set_cons_zero, List.set_cons_succ, List.length_cons, List.length_nil, Nat.zero_add, Nat.reduceAdd, Nat.reduceLeDiff, Nat.reduceSub, Nat.reduceMul, if_true, if_false, Bool.false_eq_true, List.replicate_succ, List.replicate_zero, List.cons_append, List.nil_append, tgN, tgT, tgCons, tgNil, Int.reducePow, Int.reduceAdd, Int.reduceSub, Int.reduceMul, decide_true, decide_false, Bool.not_true, Bool.not_false, gChain_def, hIsa_int, hIsa_intb, hIsa_list, hIsa_tuple, gDrop_def, beq_self_eq_true, e0, e1]
        exact ⟨_, _, rfl, m0 _, m1 _, m0 _, m1 _⟩
      · have e2 : (kind == 2) = false := beq_eq_false_iff_ne.mpr h2
        simp (disch := omega) only [bnd_ok, gVar_def, gC_def, gOp_def, gUn_def, gNil_def, gCons_def, gIf_def, gTest_def, gNot_def, gAnd_def, gOr_def, gAndV_def, gOrV_def, gNotV_def, gCB_def, asB_b, hAdd_i, hSub_i, hLt_i, hLe_i, hGt_i, hGe_i, hMul_r, hMul_l, hMod_i, hDiv_s, hBand_i, hShr_i, hPow_10_18, hPow_10_27, hPow_10_28, hPow_10_29, hPow_10_30, hEq_i, hNe_i, hLen_l, hLen_t, hMin2_i, hMax2_i, hMin3_i, hInt1_b, hInt1_i, hBits_i, hListOf_l, hListOf_t, hTupOf_l, hTupOf_t, gSeqS_def, gSet_def, gRet_def, gIfS_def, gNext_def, gTup_def, gLst_def, List.getElem?_cons_zero, List.getElem?_cons_succ, List.set_cons_zero, List.set_cons_succ, List.length_cons, List.length_nil, Nat.zero_add, Nat.reduceAdd, Nat.reduceLeDiff, Nat.reduceSub, Nat.reduceMul, if_true, if_false, Bool.false_eq_true, List.replicate_succ, List.replicate_zero, List.cons_append, List.nil_append, tgN, tgT, tgCons, tgNil, Int.reducePow, Int.reduceAdd, Int.reduceSub, Int.reduceMul, decide_true, decide_false, Bool.not_true, Bool.not_false, gChain_def, hIsa_int, hIsa_intb, hIsa_list, hIsa_tuple, gDrop_def, e0, e1, e2]
        exact ⟨_, _, rfl, m0 _, m1 _, m0 _, m1 _⟩
theorem bits30 : Builtin.Int.intBits 1000000000000000000000000000000 = 100 := by decide +kernel
def wB : Gs := gSeqS (gSet 6 (gOp hAdd (gOp hMul (gVar 6) (gC (.int (2147483647)))) (gCallN 2 f_l_mixed (gCons (gVar 0) (gCons (gOp hAdd (gOp hMul (gC (.int (8))) (gVar 5)) (gVar 7)) (gNil)))))) (gSet 7 (gOp hAdd (gVar 7) (gC (.int (1)))))
def wT : List Dt → O Bool := gTest (gOp hLt (gOp hMul (gVar 7) (gC (.int (30)))) (gOp hAdd (gUn hBits (gVar 2)) (gC (.int (8)))))
theorem wB_ok (c k x t : Int) (a f l : Dt) : ∃ y, wB [.int c, a, .int B30, f, l, .int k, .int x, .int t] = .ok (.nx [.int c, a, .int B30, f, l, .int k, .int y, .int (t + 1)]) := by
  obtain ⟨z, hz, _, _⟩ := mixed_ok c (8 * k + t)
  unfold wB
  have h1 : gCallN 2 f_l_mixed (gCons (gVar 0) (gCons (gOp hAdd (gOp hMul (gC (.int (8))) (gVar 5)) (gVar 7)) (gNil))) [.int c, a, .int B30, f, l, .int k, .int x, .int t] = .ok (.int z) := by
    refine callN_ok (ds := [.int c, .int (8 * k + t)]) ?_ rfl hz
    simp (disch := omega) only [bnd_ok, gVar_def, gC_def, gOp_def, gUn_def, gNil_def, gCons_def, gIf_def, gTest_def, gNot_def, gAnd_def, gOr_def, gAndV_def, gOrV_def, gNotV_def, gCB_def, asB_b, hAdd_i, hSub_i, hLt_i, hLe_i, hGt_i, hGe_i, hMul_r, hMul_l, hMod_i, hDiv_s, hBand_i, hShr_i, hPow_10_18, hPow_10_27, hPow_10_28, hPow_10_29, hPow_10_30, hEq_i, hNe_i, hLen_l, hLen_t, hMin2_i, hMax2_i, hMin3_i, hInt1_b, hInt1_i, hBits_i, hListOf_l, hListOf_t, hTupOf_l, hTupOf_t, gSeqS_def, gSet_def, gRet_def, gIfS_def, gNext_def, gTup_def, gLst_def, List.getElem?_cons_zero, List.getElem?_cons_succ, List.set_cons_zero, List.set_cons_succ, List.length_cons, List.length_nil, Nat.zero_add, Nat.reduceAdd, Nat.reduceLeDiff, Nat.reduceSub, Nat.reduceMul, if_true, if_false, Bool.false_eq_true, List.replicate_succ, List.replicate_zero, List.cons_append, List.nil_append, tgN, tgT, tgCons, tgNil, Int.reducePow, Int.reduceAdd, Int.reduceSub, Int.reduceMul, decide_true, decide_false, Bool.not_true, Bool.not_false, gChain_def, hIsa_int, hIsa_intb, hIsa_list, hIsa_tuple, gDrop_def]
  simp (disch := omega) only [bnd_ok, gVar_def, gC_def, gOp_def, gUn_def, gNil_def, gCons_def, gIf_def, gTest_def, gNot_def, gAnd_def, gOr_def, gAndV_def, gOrV_def, gNotV_def, gCB_def, asB_b, hAdd_i, hSub_i, hLt_i, hLe_i, hGt_i, hGe_i, hMul_r, hMul_l, hMod_i, hDiv_s, hBand_i, hShr_i, hPow_10_18, hPow_10_27, hPow_10_28, hPow_10_29, hPow_10_30, hEq_i, hNe_i, hLen_l, hLen_t, hMin2_i, hMax2_i, hMin3_i, hInt1_b, hInt1_i, hBits_i, hListOf_l, hListOf_t, hTupOf_l, hTupOf_t, gSeqS_def, gSet_def, gRet_def, gIfS_def, gNext_def, gTup_def, gLst_def, List.getElem?_cons_zero, List.getElem?_cons_succ, List.set_cons_zero, List.set_cons_succ, List.length_cons, List.length_nil, Nat.zero_add, Nat.reduceAdd, Nat.reduceLeDiff, Nat.reduceSub, Nat.reduceMul, if_true, if_false, Bool.false_eq_true, List.replicate_succ, List.replicate_zero, List.cons_append, List.nil_append, tgN, tgT, tgCons, tgNil, Int.reducePow, Int.reduceAdd, Int.reduceSub, Int.reduceMul, decide_true, decide_false, Bool.not_true, Bool.not_false, gChain_def, hIsa_int, hIsa_intb, hIsa_list, hIsa_tuple, gDrop_def, h1]
  exact ⟨_, rfl⟩
theorem wT_ok (c k x t : Int) (a f l : Dt) : wT [.int c, a, .int B30, f, l, .int k, .int x, .int t] = .ok (decide (t * 30 < 108)) := by
  unfold wT
  simp (disch := omega) only [bnd_ok, gVar_def, gC_def, gOp_def, gUn_def, gNil_def, gCons_def, gIf_def, gTest_def, gNot_def, gAnd_def, gOr_def, gAndV_def, gOrV_def, gNotV_def, gCB_def, asB_b, hAdd_i, hSub_i, hLt_i, hLe_i, hGt_i, hGe_i, hMul_r, hMul_l, hMod_i, hDiv_s, hBand_i, hShr_i, hPow_10_18, hPow_10_27, hPow_10_28, hPow_10_29, hPow_10_30, hEq_i, hNe_i, hLen_l, hLen_t, hMin2_i, hMax2_i, hMin3_i, hInt1_b, hInt1_i, hBits_i, hListOf_l, hListOf_t, hTupOf_l, hTupOf_t, gSeqS_def, gSet_def, gRet_def, gIfS_def, gNext_def, gTup_def, gLst_def, List.getElem?_cons_zero, List.getElem?_cons_succ, List.set_cons_zero, List.set_cons_succ, List.length_cons, List.length_nil, Nat.zero_add, Nat.reduceAdd, Nat.reduceLeDiff, Nat.reduceSub, Nat.reduceMul, if_true, if_false, Bool.false_eq_true, List.replicate_succ, List.replicate_zero, List.cons_append, List.nil_append, tgN, tgT, tgCons, tgNil, Int.reducePow, Int.reduceAdd, Int.reduceSub, Int.reduceMul, decide_true, decide_false, Bool.not_true, Bool.not_false, gChain_def, hIsa_int, hIsa_intb, hIsa_list, hIsa_tuple, gDrop_def, bits30]
  rfl
theorem wh_ok (c k : Int) (a f l : Dt) : ∃ y, gWhile wT wB 100 [.int c, a, .int B30, f, l, .int k, .int 0, .int 0] = .ok (.nx [.int c, a, .int B30, f, l, .int k, .int y, .int 4]) := by
  obtain ⟨y1, h1⟩ := wB_ok c k 0 0 a f l
  obtain ⟨y2, h2⟩ := wB_ok c k y1 1 a f l
  obtain ⟨y3, h3⟩ := wB_ok c k y2 2 a f l
  obtain ⟨y4, h4⟩ := wB_ok c k y3 3 a f l
  refine ⟨y4, ?_⟩
  rw [while_t (n := 99) (wT_ok c k 0 0 a f l) h1]
  show gWhile wT wB 99 [.int c, a, .int B30, f, l, .int k, .int y1, .int 1] = _
  rw [while_t (n := 98) (wT_ok c k y1 1 a f l) h2]
  show gWhile wT wB 98 [.int c, a, .int B30, f, l, .int k, .int y2, .int 2] = _
  rw [while_t (n := 97) (wT_ok c k y2 2 a f l) h3]
  show gWhile wT wB 97 [.int c, a, .int B30, f, l, .int k, .int y3, .int 3] = _
  rw [while_t (n := 96) (wT_ok c k y3 3 a f l) h4]
  exact while_f (wT_ok c k y4 4 a f l)
theorem numbers_ok (cell many : Int) (h0 : 0 ≤ many) (h1 : many ≤ 1000) : ∃ xs : List Int, f_l_numbers [.int cell, .int many, .int B30] = .ok (.list (xs.map .int)) ∧ xs.length = many.toNat ∧ ∀ x ∈ xs, 0 ≤ x ∧ x < B30 := by
  obtain ⟨n, rfl⟩ : ∃ n : Nat, many = n := ⟨many.toNat, by omega⟩
  obtain ⟨ρ', hf, xs, l, d5, d6, d7, rfl, hl, hx⟩ := forE_ix (fun (k : Nat) => PyData.int (k : Int)) (h := tgN 5)
    (b := gSeqS (gSet 6 (gVar 4)) (gSeqS (gIfS (gTest (gOp hGt (gVar 4) (gC (.int (0))))) (gSet 4 (gOp hDiv (gVar 4) (gVar 2))) (gSeqS (gSet 6 (gC (.int (0)))) (gSeqS (gSet 7 (gC (.int (0)))) (gWhile wT wB 100)))) (gApp 3 (gOp hMod (gVar 6) (gVar 2)))))
    (List.range n) (fun i ρ => ∃ (xs : List Int) (l : Int) (d5 d6 d7 : Dt), ρ = [.int cell, .int n, .int B30, .list (xs.map .int), .int l, d5, d6, d7] ∧ xs.length = i ∧ ∀ x ∈ xs, 0 ≤ x ∧ x < B30)
    (ρ := [.int cell, .int n, .int B30, .list [], .int (cell - 1000000000000000000), .none, .none, .none]) ⟨[], _, _, _, _, rfl, rfl, by simp⟩ (by
      rintro i ρ hi ⟨xs, l, d5, d6, d7, rfl, hl, hx⟩
      rw [List.getElem_range]
      rw [List.length_range] at hi
      have app : ∀ (l x : Int) (d7 : Dt), gApp 3 (gOp hMod (gVar 6) (gVar 2)) [.int cell, .int n, .int B30, .list (xs.map .int), .int l, .int i, .int x, d7] = .ok (.nx [.int cell, .int n, .int B30, .list ((xs ++ [x % B30]).map .int), .int l, .int i, .int x, d7]) := fun l x d7 => by
        refine (gApp_l (ds := xs.map .int) (d := .int (x % B30)) rfl ?_ (by rw [List.length_map]; omega)).trans ?_
        · simp (disch := first | omega | decide) only [bnd_ok, gVar_def, gC_def, gOp_def, gUn_def, gNil_def, gCons_def, gIf_def, gTest_def, gNot_def, gAnd_def, gOr_def, gAndV_def, gOrV_def, gNotV_def, gCB_def, asB_b, hAdd_i, hSub_i, hLt_i, hLe_i, hGt_i, hGe_i, hMul_r, hMul_l, hMod_i, hDiv_s, hBand_i, hShr_i, hPow_10_18, hPow_10_27, hPow_10_28, hPow_10_29, hPow_10_30, hEq_i, hNe_i, hLen_l, hLen_t, hMin2_i, hMax2_i, hMin3_i, hInt1_b, hInt1_i, hBits_i, hListOf_l, hListOf_t, hTupOf_l, hTupOf_t, gSeqS_def, gSet_def, gRet_def, gIfS_def, gNext_def, gTup_def, gLst_def, List.getElem?_cons_zero, List.getElem?_cons_succ, List.set_cons_zero, List.set_cons_succ, List.length_cons, List.length_nil, Nat.zero_add, Nat.reduceAdd, Nat.reduceLeDiff, Nat.reduceSub, Nat.reduceMul, if_true, if_false, Bool.false_eq_true, List.replicate_succ, List.replicate_zero, List.cons_append, List.nil_append, tgN, tgT, tgCons, tgNil, Int.reducePow, Int.reduceAdd, Int.reduceSub, Int.reduceMul, decide_true, decide_false, Bool.not_true, Bool.not_false, gChain_def, hIsa_int, hIsa_intb, hIsa_list, hIsa_tuple, gDrop_def]
        · rw [map_snoc]; rfl
      have fin : ∀ (x : Int), ∀ y ∈ xs ++ [x % B30], 0 ≤ y ∧ y < B30 := fun x y hy => by
        rcases List.mem_append.mp hy with h | h
        · exact hx y h
        · have := List.mem_singleton.mp h
          subst this
          unfold B30
          constructor <;> omega
      by_cases hp : 0 < l
      · refine ⟨_, _, rfl, .inl ?_, xs ++ [l % B30], l / B30, .int i, .int l, d7, rfl, by rw [List.length_append, hl]; rfl, fin l⟩
        have e : decide (0 < l) = true := decide_eq_true hp
        simp (disch := first | omega | decide) only [bnd_ok, gVar_def, gC_def, gOp_def, gUn_def, gNil_def, gCons_def, gIf_def, gTest_def, gNot_def, gAnd_def, gOr_def, gAndV_def, gOrV_def, gNotV_def, gCB_def, asB_b, hAdd_i, hSub_i, hLt_i, hLe_i, hGt_i, hGe_i, hMul_r, hMul_l, hMod_i, hDiv_s, hBand_i, hShr_i, hPow_10_18, hPow_10_27, hPow_10_28, hPow_10_29, hPow_10_30, hEq_i, hNe_i, hLen_l, hLen_t, hMin2_i, hMax2_i, hMin3_i, hInt1_b, hInt1_i, hBits_i, hListOf_l, hListOf_t, hTupOf_l, hTupOf_t, gSeqS_def, gSet_def, gRet_def, gIfS_def, gNext_def, gTup_def, gLst_def, List.getElem?_cons_zero, List.getElem?_cons_succ, List.set_cons_zero, List.set_cons_succ, List.length_cons, List.length_nil, Nat.zero_add, Nat.reduceAdd, Nat.reduceLeDiff, Nat.reduceSub, Nat.reduceMul, if_true, if_false, Bool.false_eq_true, List.replicate_succ, List.replicate_zero, List.cons_append, List.nil_append, tgN, tgT, tgCons, tgNil, Int.reducePow, Int.reduceAdd, Int.reduceSub, Int.reduceMul, decide_true, decide_false, Bool.not_true, Bool.not_false, gChain_def, hIsa_int, hIsa_intb, hIsa_list, hIsa_tuple, gDrop_def, e, app]
      · obtain ⟨y, hy⟩ := wh_ok cell i (.int n) (.list (xs.map .int)) (.int l)
        refine ⟨_, _, rfl, .inl ?_, xs ++ [y % B30], l, .int i, .int y, .int 4, rfl, by rw [List.length_append, hl]; rfl, fin y⟩
        have e : decide (0 < l) = false := decide_eq_false hp
        simp (disch := first | omega | decide) only [bnd_ok, gVar_def, gC_def, gOp_def, gUn_def, gNil_def, gCons_def, gIf_def, gTest_def, gNot_def, gAnd_def, gOr_def, gAndV_def, gOrV_def, gNotV_def, gCB_def, asB_b, hAdd_i, hSub_i, hLt_i, hLe_i, hGt_i, hGe_i, hMul_r, hMul_l, hMod_i, hDiv_s, hBand_i, hShr_i, hPow_10_18, hPow_10_27, hPow_10_28, hPow_10_29, hPow_10_30, hEq_i, hNe_i, hLen_l, hLen_t, hMin2_i, hMax2_i, hMin3_i, hInt1_b, hInt1_i, hBits_i, hListOf_l, hListOf_t, hTupOf_l, hTupOf_t, gSeqS_def, gSet_def, gRet_def, gIfS_def, gNext_def, gTup_def, gLst_def, List.getElem?_cons_zero, List.getElem?_cons_succ, List.set_cons_zero, List.set_cons_succ, List.length_cons, List.length_nil, Nat.zero_add, Nat.reduceAdd, Nat.reduceLeDiff, Nat.reduceSub, Nat.reduceMul, if_true, if_false, Bool.false_eq_true, List.replicate_succ, List.replicate_zero, List.cons_append, List.nil_append, tgN, tgT, tgCons, tgNil, Int.reducePow, Int.reduceAdd, Int.reduceSub, Int.reduceMul, decide_true, decide_false, Bool.not_true, Bool.not_false, gChain_def, hIsa_int, hIsa_intb, hIsa_list, hIsa_tuple, gDrop_def, e, hy, app])
  refine ⟨xs, ?_, by rw [hl, List.length_range]; omega, hx⟩
  refine fnL_rt ?_
  show g_l_numbers [.int cell, .int n, .int B30, .none, .none, .none, .none, .none] = _
  unfold g_l_numbers
  have e1 : gSet 3 (gLst gNil) [.int cell, .int n, .int B30, .none, .none, .none, .none, .none] = .ok (.nx [.int cell, .int n, .int B30, .list [], .none, .none, .none, .none]) := by
    simp (disch := first | omega | decide) only [bnd_ok, gVar_def, gC_def, gOp_def, gUn_def, gNil_def, gCons_def, gIf_def, gTest_def, gNot_def, gAnd_def, gOr_def, gAndV_def, gOrV_def, gNotV_def, gCB_def, asB_b, hAdd_i, hSub_i, hLt_i, hLe_i, hGt_i, hGe_i, hMul_r, hMul_l, hMod_i, hDiv_s, hBand_i, hShr_i, hPow_10_18, hPow_10_27, hPow_10_28, hPow_10_29, hPow_10_30, hEq_i, hNe_i, hLen_l, hLen_t, hMin2_i, hMax2_i, hMin3_i, hInt1_b, hInt1_i, hBits_i, hListOf_l, hListOf_t, hTupOf_l, hTupOf_t, gSeqS_def, gSet_def, gRet_def, gIfS_def, gNext_def, gTup_def, gLst_def, List.getElem?_cons_zero, List.getElem?_cons_succ, List.set_cons_zero, List.set_cons_succ, List.length_cons, List.length_nil, Nat.zero_add, Nat.reduceAdd, Nat.reduceLeDiff, Nat.reduceSub, Nat.reduceMul, if_true, if_false, Bool.false_eq_true, List.replicate_succ, List.replicate_zero, List.cons_append, List.nil_append, tgN, tgT, tgCons, tgNil, Int.reducePow, Int.reduceAdd, Int.reduceSub, Int.reduceMul, decide_true, decide_false, Bool.not_true, Bool.not_false, gChain_def, hIsa_int, hIsa_intb, hIsa_list, hIsa_tuple, gDrop_def, Nat.zero_le]
  rw [seq_nx e1]
  have e2 : gSet 4 (gOp hSub (gVar 0) (gOp hPow (gC (.int 10)) (gC (.int 18)))) [.int cell, .int n, .int B30, .list [], .none, .none, .none, .none] = .ok (.nx [.int cell, .int n, .int B30, .list [], .int (cell - 1000000000000000000), .none, .none, .none]) := by
    simp (disch := first | omega | decide) only [bnd_ok, gVar_def, gC_def, gOp_def, gUn_def, gNil_def, gCons_def, gIf_def, gTest_def, gNot_def, gAnd_def, gOr_def, gAndV_def, gOrV_def, gNotV_def, gCB_def, asB_b, hAdd_i, hSub_i, hLt_i, hLe_i, hGt_i, hGe_i, hMul_r, hMul_l, hMod_i, hDiv_s, hBand_i, hShr_i, hPow_10_18, hPow_10_27, hPow_10_28, hPow_10_29, hPow_10_30, hEq_i, hNe_i, hLen_l, hLen_t, hMin2_i, hMax2_i, hMin3_i, hInt1_b, hInt1_i, hBits_i, hListOf_l, hListOf_t, hTupOf_l, hTupOf_t, gSeqS_def, gSet_def, gRet_def, gIfS_def, gNext_def, gTup_def, gLst_def, List.getElem?_cons_zero, List.getElem?_cons_succ, List.set_cons_zero, List.set_cons_succ, List.length_cons, List.length_nil, Nat.zero_add, Nat.reduceAdd, Nat.reduceLeDiff, Nat.reduceSub, Nat.reduceMul, if_true, if_false, Bool.false_eq_true, List.replicate_succ, List.replicate_zero, List.cons_append, List.nil_append, tgN, tgT, tgCons, tgNil, Int.reducePow, Int.reduceAdd, Int.reduceSub, Int.reduceMul, decide_true, decide_false, Bool.not_true, Bool.not_false, gChain_def, hIsa_int, hIsa_intb, hIsa_list, hIsa_tuple, gDrop_def]
  rw [seq_nx e2]
  have e3 : gRng1 (gCons (gVar 1) gNil) [.int cell, .int n, .int B30, .list [], .int (cell - 1000000000000000000), .none, .none, .none] = .ok ((List.range n).map fun (k : Nat) => PyData.int (k : Int)) := by
    rw [← rangeD_nat]
    refine rng1_ok ?_ (by omega) (by omega)
    simp (disch := first | omega | decide) only [bnd_ok, gVar_def, gC_def, gOp_def, gUn_def, gNil_def, gCons_def, gIf_def, gTest_def, gNot_def, gAnd_def, gOr_def, gAndV_def, gOrV_def, gNotV_def, gCB_def, asB_b, hAdd_i, hSub_i, hLt_i, hLe_i, hGt_i, hGe_i, hMul_r, hMul_l, hMod_i, hDiv_s, hBand_i, hShr_i, hPow_10_18, hPow_10_27, hPow_10_28, hPow_10_29, hPow_10_30, hEq_i, hNe_i, hLen_l, hLen_t, hMin2_i, hMax2_i, hMin3_i, hInt1_b, hInt1_i, hBits_i, hListOf_l, hListOf_t, hTupOf_l, hTupOf_t, gSeqS_def, gSet_def, gRet_def, gIfS_def, gNext_def, gTup_def, gLst_def, List.getElem?_cons_zero, List.getElem?_cons_succ, List.set_cons_zero, List.set_cons_succ, List.length_cons, List.length_nil, Nat.zero_add, Nat.reduceAdd, Nat.reduceLeDiff, Nat.reduceSub, Nat.reduceMul, if_true, if_false, Bool.false_eq_true, List.replicate_succ, List.replicate_zero, List.cons_append, List.nil_append, tgN, tgT, tgCons, tgNil, Int.reducePow, Int.reduceAdd, Int.reduceSub, Int.reduceMul, decide_true, decide_false, Bool.not_true, Bool.not_false, gChain_def, hIsa_int, hIsa_intb, hIsa_list, hIsa_tuple, gDrop_def]
  exact (seq_nx (b := gRet (gVar 3)) (for_ok e3 hf)).trans rfl
abbrev T3 := Int × Int × Int
def enc3 (t : T3) : Dt := .tuple [.int t.1, .int t.2.1, .int t.2.2]
structure TieOk (n : Int) (t : T3) : Prop where
  m0 : 0 ≤ t.1
  m1 : t.1 < B30
  a0 : 0 ≤ t.2.1
  ab : t.2.1 ≤ t.2.2
  bn : t.2.2 < n
structure RecOk (n : Int) (r : List T3) : Prop where
  len : r.length ≤ 60
  ties : ∀ t ∈ r, TieOk n t
  ord : r.Pairwise fun s t => s.1 < t.1
theorem ix_ok {ns : List Int} (hns : ∀ x ∈ ns, 0 ≤ x ∧ x < B30) {i : Int} (h0 : 0 ≤ i) (h1 : i < ns.length) : ∃ x, hIx (.list (ns.map .int)) (.int i) = .ok (.int x) ∧ 0 ≤ x ∧ x < B30 :=
  ⟨_, hIx_ints h0 h1, hns _ (List.getElem_mem _)⟩
theorem ix3 (a b c i : Int) (h0 : 0 ≤ i) (h1 : i < 3) : hIx (.list [.int a, .int b, .int c]) (.int i) = .ok (.int (if i = 0 then a else if i = 1 then b else c)) := by
  have : i = 0 ∨ i = 1 ∨ i = 2 := by omega
  rcases this with rfl | rfl | rfl <;> rfl
theorem map3_snoc (r : List T3) (t : T3) : r.map enc3 ++ [enc3 t] = (r ++ [t]).map enc3 := by rw [List.map_append]; rfl
def rB : Gs := (gSeqS (gAsg (gCallN 4 f_l_ends (gCons (gVar 2) (gCons (gOp hMod (gOp hIx (gVar 0) (gC (.int (3)))) (gC (.int (4)))) (gCons (gOp hIx (gVar 0) (gOp hAdd (gC (.int (4))) (gOp hMul (gC (.int (3))) (gVar 7)))) (gCons (gOp hIx (gVar 0) (gOp hAdd (gC (.int (5))) (gOp hMul (gC (.int (3))) (gVar 7)))) (gNil)))))) (tgT (tgCons (tgN 8) (tgCons (tgN 9) (tgNil))))) (gSeqS (gApp 6 (gTup (gCons (gVar 5) (gCons (gCB hMin2 (gCons (gVar 8) (gCons (gVar 9) (gNil)))) (gCons (gCB hMax2 (gCons (gVar 8) (gCons (gVar 9) (gNil)))) (gNil)))))) (gSet 5 (gOp hAdd (gOp hAdd (gVar 5) (gC (.int (1)))) (gOp hMod (gOp hIx (gVar 0) (gOp hAdd (gC (.int (6))) (gOp hMul (gC (.int (3))) (gVar 7)))) (gVar 4))))))
theorem rB_ok {ns : List Int} (hns : ∀ x ∈ ns, 0 ≤ x ∧ x < B30) (hl : 4 ≤ ns.length) {k : Nat} (hk : 3 * k + 6 < ns.length) {n : Int} (hn : 1 ≤ n) {wd m : Int} (hw : 0 < wd) (hm : 0 ≤ m) {r : List T3} (hr : r.length < 100) (mo : Dt) (c d8 d9 : Dt) :
    ∃ t m' q8 q9, rB [.list (ns.map .int), mo, .int n, c, .int wd, .int m, .list (r.map enc3), .int k, d8, d9] = .ok (.nx [.list (ns.map .int), mo, .int n, c, .int wd, .int m', .list ((r ++ [t]).map enc3), .int k, q8, q9])
      ∧ t.1 = m ∧ 0 ≤ t.2.1 ∧ t.2.1 ≤ t.2.2 ∧ t.2.2 < n ∧ m < m' ∧ m' ≤ m + wd := by
  obtain ⟨x3, e3, _⟩ := ix_ok hns (i := 3) (by omega) (by omega)
  obtain ⟨x4, e4, _⟩ := ix_ok hns (i := 4 + 3 * (k : Int)) (by omega) (by omega)
  obtain ⟨x5, e5, _⟩ := ix_ok hns (i := 5 + 3 * (k : Int)) (by omega) (by omega)
  obtain ⟨x6, e6, _⟩ := ix_ok hns (i := 6 + 3 * (k : Int)) (by omega) (by omega)
  obtain ⟨a, b, he, ha0, ha, hb0, hb⟩ := ends_ok n (x3 % 4) x4 x5 hn
  have w0 := Int.emod_nonneg x6 (show wd ≠ 0 by omega)
  have w1 := Int.emod_lt_of_pos x6 hw
  have c1 : gAsg (gCallN 4 f_l_ends (gCons (gVar 2) (gCons (gOp hMod (gOp hIx (gVar 0) (gC (.int (3)))) (gC (.int (4)))) (gCons (gOp hIx (gVar 0) (gOp hAdd (gC (.int (4))) (gOp hMul (gC (.int (3))) (gVar 7)))) (gCons (gOp hIx (gVar 0) (gOp hAdd (gC (.int (5))) (gOp hMul (gC (.int (3))) (gVar 7)))) (gNil)))))) (tgT (tgCons (tgN 8) (tgCons (tgN 9) (tgNil))))
      [.list (ns.map .int), mo, .int n, c, .int wd, .int m, .list (r.map enc3), .int k, d8, d9] = .ok (.nx [.list (ns.map .int), mo, .int n, c, .int wd, .int m, .list (r.map enc3), .int k, .int a, .int b]) := by
    refine asg_ok (callN_ok (ds := [.int n, .int (x3 % 4), .int x4, .int x5]) ?_ rfl he) ?_
    · simp (disch := omega) only [bnd_ok, gVar_def, gC_def, gOp_def, gUn_def, gNil_def, gCons_def, gIf_def, gTest_def, gNot_def, gAnd_def, gOr_def, gAndV_def, gOrV_def, gNotV_def, gCB_def, asB_b, hAdd_i, hSub_i, hLt_i, hLe_i, hGt_i, hGe_i, hMul_r, hMul_l, hMod_i, hDiv_s, hBand_i, hShr_i, hPow_10_18, hPow_10_27, hPow_10_28, hPow_10_29, hPow_10_30, hEq_i, hNe_i, hLen_l, hLen_t, hMin2_i, hMax2_i, hMin3_i, hInt1_b, hInt1_i, hBits_i, hListOf_l, hListOf_t, hTupOf_l, hTupOf_t, gSeqS_def, gSet_def, gRet_def, gIfS_def, gNext_def, gTup_def, gLst_def, List.getElem?_cons_zero, List.getElem?_cons_succ, List.set_cons_zero, List.set_cons_succ, List.length_cons, List.length_nil, Nat.zero_add, Nat.reduceAdd, Nat.reduceLeDiff, Nat.reduceSub, Nat.reduceMul, if_true, if_false, Bool.false_eq_true, List.replicate_succ, List.replicate_zero, List.cons_append, List.nil_append, tgN, tgT, tgCons, tgNil, Int.reducePow, Int.reduceAdd, Int.reduceSub, Int.reduceMul, decide_true, decide_false, Bool.not_true, Bool.not_false, gChain_def, hIsa_int, hIsa_intb, hIsa_list, hIsa_tuple, gDrop_def, e3, e4, e5]
    · simp only [bnd_ok, gVar_def, gC_def, gOp_def, gUn_def, gNil_def, gCons_def, gIf_def, gTest_def, gNot_def, gAnd_def, gOr_def, gAndV_def, gOrV_def, gNotV_def, gCB_def, asB_b, hAdd_i, hSub_i, hLt_i, hLe_i, hGt_i, hGe_i, hMul_r, hMul_l, hMod_i, hDiv_s, hBand_i, hShr_i, hPow_10_18, hPow_10_27, hPow_10_28, hPow_10_29, hPow_10_30, hEq_i, hNe_i, hLen_l, hLen_t, hMin2_i, hMax2_i, hMin3_i, hInt1_b, hInt1_i, hBits_i, hListOf_l, hListOf_t, hTupOf_l, hTupOf_t, gSeqS_def, gSet_def, gRet_def, gIfS_def, gNext_def, gTup_def, gLst_def, List.getElem?_cons_zero, List.getElem?_cons_succ, List.set_cons_zero, List.set_cons_succ, List.length_cons, List.length_nil, Nat.zero_add, Nat.reduceAdd, Nat.reduceLeDiff, Nat.reduceSub, Nat.reduceMul, if_true, if_false, Bool.false_eq_true, List.replicate_succ, List.replicate_zero, List.cons_append, List.nil_append, tgN, tgT, tgCons, tgNil, Int.reducePow, Int.reduceAdd, Int.reduceSub, Int.reduceMul, decide_true, decide_false, Bool.not_true, Bool.not_false, gChain_def, hIsa_int, hIsa_intb, hIsa_list, hIsa_tuple, gDrop_def]
  have c2 : gApp 6 (gTup (gCons (gVar 5) (gCons (gCB hMin2 (gCons (gVar 8) (gCons (gVar 9) (gNil)))) (gCons (gCB hMax2 (gCons (gVar 8) (gCons (gVar 9) (gNil)))) (gNil)))))
      [.list (ns.map .int), mo, .int n, c, .int wd, .int m, .list (r.map enc3), .int k, .int a, .int b] = .ok (.nx [.list (ns.map .int), mo, .int n, c, .int wd, .int m, .list ((r ++ [(m, (if b < a then b else a), (if b > a then b else a))]).map enc3), .int k, .int a, .int b]) := by
    refine (gApp_l (ds := r.map enc3) (d := enc3 (m, (if b < a then b else a), (if b > a then b else a))) rfl ?_ (by rw [List.length_map]; omega)).trans ?_
    · simp (disch := omega) only [bnd_ok, gVar_def, gC_def, gOp_def, gUn_def, gNil_def, gCons_def, gIf_def, gTest_def, gNot_def, gAnd_def, gOr_def, gAndV_def, gOrV_def, gNotV_def, gCB_def, asB_b, hAdd_i, hSub_i, hLt_i, hLe_i, hGt_i, hGe_i, hMul_r, hMul_l, hMod_i, hDiv_s, hBand_i, hShr_i, hPow_10_18, hPow_10_27, hPow_10_28, hPow_10_29, hPow_10_30, hEq_i, hNe_i, hLen_l, hLen_t, hMin2_i, hMax2_i, hMin3_i, hInt1_b, hInt1_i, hBits_i, hListOf_l, hListOf_t, hTupOf_l, hTupOf_t, gSeqS_def, gSet_def, gRet_def, gIfS_def, gNext_def, gTup_def, gLst_def, List.getElem?_cons_zero, List.getElem?_cons_succ, List.set_cons_zero, List.set_cons_succ, List.length_cons, List.length_nil, Nat.zero_add, Nat.reduceAdd, Nat.reduceLeDiff, Nat.reduceSub, Nat.reduceMul, if_true, if_false, Bool.false_eq_true, List.replicate_succ, List.replicate_zero, List.cons_append, List.nil_append, tgN, tgT, tgCons, tgNil, Int.reducePow, Int.reduceAdd, Int.reduceSub, Int.reduceMul, decide_true, decide_false, Bool.not_true, Bool.not_false, gChain_def, hIsa_int, hIsa_intb, hIsa_list, hIsa_tuple, gDrop_def]
      rfl
    · rw [map3_snoc]; rfl
  unfold rB
  rw [seq_nx c1, seq_nx c2]
  refine ⟨(m, (if b < a then b else a), (if b > a then b else a)), m + 1 + x6 % wd, .int a, .int b, ?_, rfl, ?_, ?_, ?_, by omega, by omega⟩
  · simp (disch := omega) only [bnd_ok, gVar_def, gC_def, gOp_def, gUn_def, gNil_def, gCons_def, gIf_def, gTest_def, gNot_def, gAnd_def, gOr_def, gAndV_def, gOrV_def, gNotV_def, gCB_def, asB_b, hAdd_i, hSub_i, hLt_i, hLe_i, hGt_i, hGe_i, hMul_r, hMul_l, hMod_i, hDiv_s, hBand_i, hShr_i, hPow_10_18, hPow_10_27, hPow_10_28, hPow_10_29, hPow_10_30, hEq_i, hNe_i, hLen_l, hLen_t, hMin2_i, hMax2_i, hMin3_i, hInt1_b, hInt1_i, hBits_i, hListOf_l, hListOf_t, hTupOf_l, hTupOf_t, gSeqS_def, gSet_def, gRet_def, gIfS_def, gNext_def, gTup_def, gLst_def, List.getElem?_cons_zero, List.getElem?_cons_succ, List.set_cons_zero, List.set_cons_succ, List.length_cons, List.length_nil, Nat.zero_add, Nat.reduceAdd, Nat.reduceLeDiff, Nat.reduceSub, Nat.reduceMul, if_true, if_false, Bool.false_eq_true, List.replicate_succ, List.replicate_zero, List.cons_append, List.nil_append, tgN, tgT, tgCons, tgNil, Int.reducePow, Int.reduceAdd, Int.reduceSub, Int.reduceMul, decide_true, decide_false, Bool.not_true, Bool.not_false, gChain_def, hIsa_int, hIsa_intb, hIsa_list, hIsa_tuple, gDrop_def, e6]
  · show 0 ≤ (if b < a then b else a)
    split <;> omega
  · show (if b < a then b else a) ≤ (if b > a then b else a)
    split <;> split <;> omega
  · show (if b > a then b else a) < n
    split <;> omega
theorem rec_snoc {n : Int} {r : List T3} {t : T3} (h : ∀ t ∈ r, TieOk n t) (o : r.Pairwise fun s t => s.1 < t.1) (ht : TieOk n t) (hlt : ∀ s ∈ r, s.1 < t.1) : (∀ s ∈ r ++ [t], TieOk n s) ∧ (r ++ [t]).Pairwise fun s t => s.1 < t.1 := by
  refine ⟨fun s hs => ?_, List.pairwise_append.mpr ⟨o, List.pairwise_singleton _ _, fun a ha b hb => ?_⟩⟩
  · rcases List.mem_append.mp hs with h' | h'
    · exact h s h'
    · rw [List.mem_singleton.mp h']; exact ht
  · rw [List.mem_singleton.mp hb]
    exact hlt a ha
theorem record_ok {ns : List Int} {most : Int} (hns : ∀ x ∈ ns, 0 ≤ x ∧ x < B30) (hl : 4 ≤ ns.length) (hl2 : ns.length ≤ 1000) (h0 : 0 ≤ most) (h1 : most ≤ 60) :
    ∃ n r, f_l_record [.list (ns.map .int), .int most] = .ok (.tuple [.int n, .list (r.map enc3)]) ∧ 1 ≤ n ∧ n ≤ 10 ∧ RecOk n r ∧ (r.length : Int) ≤ most := by
  obtain ⟨x0, e0, b0⟩ := ix_ok hns (i := 0) (by omega) (by omega)
  obtain ⟨x1, e1, b1⟩ := ix_ok hns (i := 1) (by omega) (by omega)
  obtain ⟨x2, e2, b2⟩ := ix_ok hns (i := 2) (by omega) (by omega)
  obtain ⟨x3, e3, b3⟩ := ix_ok hns (i := 3) (by omega) (by omega)
  suffices h : ∃ n r, g_l_record [.list (ns.map .int), .int most, .none, .none, .none, .none, .none, .none, .none, .none] = .ok (.rt (.tuple [.int n, .list (r.map enc3)])) ∧ 1 ≤ n ∧ n ≤ 10 ∧ RecOk n r ∧ (r.length : Int) ≤ most by
    obtain ⟨n, r, h, q⟩ := h
    exact ⟨n, r, fnN_rt h, q⟩
  unfold g_l_record
  -- n
  rw [seq_nx (ρ' := [.list (ns.map .int), .int most, .int (1 + x0 % 6), .none, .none, .none, .none, .none, .none, .none]) (by simp (disch := omega) only [bnd_ok, gVar_def, gC_def, gOp_def, gUn_def, gNil_def, gCons_def, gIf_def, gTest_def, gNot_def, gAnd_def, gOr_def, gAndV_def, gOrV_def, gNotV_def, gCB_def, asB_b, hAdd_i, hSub_i, hLt_i, hLe_i, hGt_i, hGe_i, hMul_r, hMul_l, hMod_i, hDiv_s, hBand_i, hShr_i, hPow_10_18, hPow_10_27, hPow_10_28, hPow_10_29, hPow_10_30, hEq_i, hNe_i, hLen_l, hLen_t, hMin2_i, hMax2_i, hMin3_i, hInt1_b, hInt1_i, hBits_i, hListOf_l, hListOf_t, hTupOf_l, hTupOf_t, gSeqS_def, gSet_def, gRet_def, gIfS_def, gNext_def, gTup_def, gLst_def, List.getElem?_cons_zero, List.getElem?_cons_succ, List.set_cons_zero, List.set_cons_succ, List.length_cons, List.length_nil, Nat.zero_add, Nat.reduceAdd, Nat.reduceLeDiff, Nat.reduceSub, Nat.reduceMul, if_true, if_false, Bool.false_eq_true, List.replicate_succ, List.replicate_zero, List.cons_append, List.nil_append, tgN, tgT, tgCons, tgNil, Int.reducePow, Int.reduceAdd, Int.reduceSub, Int.reduceMul, decide_true, decide_false, Bool.not_true, Bool.not_false, gChain_def, hIsa_int, hIsa_intb, hIsa_list, hIsa_tuple, gDrop_def, e0])]
  obtain ⟨n, hn, n1, n10⟩ : ∃ n, gIfS (gTest (gOp hEq (gOp hMod (gOp hDiv (gOp hIx (gVar 0) (gC (.int (0)))) (gC (.int (6)))) (gC (.int (8)))) (gC (.int (1))))) (gSet 2 (gOp hAdd (gC (.int (7))) (gOp hMod (gOp hDiv (gOp hIx (gVar 0) (gC (.int (0)))) (gC (.int (48)))) (gC (.int (4)))))) gNext
      [.list (ns.map .int), .int most, .int (1 + x0 % 6), .none, .none, .none, .none, .none, .none, .none] = .ok (.nx [.list (ns.map .int), .int most, .int n, .none, .none, .none, .none, .none, .none, .none]) ∧ 1 ≤ n ∧ n ≤ 10 := by
    by_cases c : x0 / 6 % 8 = 1
    · exact ⟨7 + x0 / 48 % 4, by simp (disch := omega) only [bnd_ok, gVar_def, gC_def, gOp_def, gUn_def, gNil_def, gCons_def, gIf_def, gTest_def, gNot_def, gAnd_def, gOr_def, gAndV_def, gOrV_def, gNotV_def, gCB_def, asB_b, hAdd_i, hSub_i, hLt_i, hLe_i, hGt_i, hGe_i, hMul_r, hMul_l, hMod_i, hDiv_s, hBand_i, hShr_i, hPow_10_18, hPow_10_27, hPow_10_28, hPow_10_29, hPow_10_30, hEq_i, hNe_i, hLen_l, hLen_t, hMin2_i, hMax2_i, hMin3_i, hInt1_b, hInt1_i, hBits_i, hListOf_l, hListOf_t, hTupOf_l, hTupOf_t, gSeqS_def, gSet_def, gRet_def, gIfS_def, gNext_def, gTup_def, gLst_def, List.getElem?_cons_zero, List.getElem?_cons_succ, List.set_cons_zero, List.set_cons_succ, List.length_cons, List.length_nil, Nat.zero_add, Nat.reduceAdd, Nat.reduceLeDiff, Nat.reduceSub, Nat.reduceMul, if_true, if_false, Bool.false_eq_true, List.replicate_succ, List.replicate_zero, List.cons_append, List.nil_append, tgN, tgT, tgCons, tgNil, Int.reducePow, Int.reduceAdd, Int.reduceSub, Int.reduceMul, decide_true, decide_false, Bool.not_true, Bool.not_false, gChain_def, hIsa_int, hIsa_intb, hIsa_list, hIsa_tuple, gDrop_def, e0, c, beq_self_eq_true], by omega, by omega⟩
    · have c' : (x0 / 6 % 8 == 1) = false := beq_eq_false_iff_ne.mpr c
      exact ⟨1 + x0 % 6, by simp (disch := omega) only [bnd_ok, gVar_def, gC_def, gOp_def, gUn_def, gNil_def, gCons_def, gIf_def, gTest_def, gNot_def, gAnd_def, gOr_def, gAndV_def, gOrV_def, gNotV_def, gCB_def, asB_b, hAdd_i, hSub_i, hLt_i, hLe_i, hGt_i, hGe_i, hMul_r, hMul_l, hMod_i, hDiv_s, hBand_i, hShr_i, hPow_10_18, hPow_10_27, hPow_10_28, hPow_10_29, hPow_10_30, hEq_i, hNe_i, hLen_l, hLen_t, hMin2_i, hMax2_i, hMin3_i, hInt1_b, hInt1_i, hBits_i, hListOf_l, hListOf_t, hTupOf_l, hTupOf_t, gSeqS_def, gSet_def, gRet_def, gIfS_def, gNext_def, gTup_def, gLst_def, List.getElem?_cons_zero, List.getElem?_cons_succ, List.set_cons_zero, List.set_cons_succ, List.length_cons, List.length_nil, Nat.zero_add, Nat.reduceAdd, Nat.reduceLeDiff, Nat.reduceSub, Nat.reduceMul, if_true, if_false, Bool.false_eq_true, List.replicate_succ, List.replicate_zero, List.cons_append, List.nil_append, tgN, tgT, tgCons, tgNil, Int.reducePow, Int.reduceAdd, Int.reduceSub, Int.reduceMul, decide_true, decide_false, Bool.not_true, Bool.not_false, gChain_def, hIsa_int, hIsa_intb, hIsa_list, hIsa_tuple, gDrop_def, e0, c'], by omega, by omega⟩
  rw [seq_nx hn]
  -- many
  rw [seq_nx (ρ' := [.list (ns.map .int), .int most, .int n, .int (x1 % 13), .none, .none, .none, .none, .none, .none]) (by simp (disch := omega) only [bnd_ok, gVar_def, gC_def, gOp_def, gUn_def, gNil_def, gCons_def, gIf_def, gTest_def, gNot_def, gAnd_def, gOr_def, gAndV_def, gOrV_def, gNotV_def, gCB_def, asB_b, hAdd_i, hSub_i, hLt_i, hLe_i, hGt_i, hGe_i, hMul_r, hMul_l, hMod_i, hDiv_s, hBand_i, hShr_i, hPow_10_18, hPow_10_27, hPow_10_28, hPow_10_29, hPow_10_30, hEq_i, hNe_i, hLen_l, hLen_t, hMin2_i, hMax2_i, hMin3_i, hInt1_b, hInt1_i, hBits_i, hListOf_l, hListOf_t, hTupOf_l, hTupOf_t, gSeqS_def, gSet_def, gRet_def, gIfS_def, gNext_def, gTup_def, gLst_def, List.getElem?_cons_zero, List.getElem?_cons_succ, List.set_cons_zero, List.set_cons_succ, List.length_cons, List.length_nil, Nat.zero_add, Nat.reduceAdd, Nat.reduceLeDiff, Nat.reduceSub, Nat.reduceMul, if_true, if_false, Bool.false_eq_true, List.replicate_succ, List.replicate_zero, List.cons_append, List.nil_append, tgN, tgT, tgCons, tgNil, Int.reducePow, Int.reduceAdd, Int.reduceSub, Int.reduceMul, decide_true, decide_false, Bool.not_true, Bool.not_false, gChain_def, hIsa_int, hIsa_intb, hIsa_list, hIsa_tuple, gDrop_def, e1])]
  obtain ⟨many, hm, m0, m60⟩ : ∃ n', gIfS (gTest (gOp hEq (gOp hMod (gOp hDiv (gOp hIx (gVar 0) (gC (.int (1)))) (gC (.int (13)))) (gC (.int (8)))) (gC (.int (1))))) (gSet 3 (gOp hAdd (gC (.int (13))) (gOp hMod (gOp hDiv (gOp hIx (gVar 0) (gC (.int (1)))) (gC (.int (104)))) (gC (.int (48)))))) gNext
      [.list (ns.map .int), .int most, .int n, .int (x1 % 13), .none, .none, .none, .none, .none, .none] = .ok (.nx [.list (ns.map .int), .int most, .int n, .int n', .none, .none, .none, .none, .none, .none]) ∧ 0 ≤ n' ∧ n' ≤ 60 := by
    by_cases c : x1 / 13 % 8 = 1
    · exact ⟨13 + x1 / 104 % 48, by simp (disch := omega) only [bnd_ok, gVar_def, gC_def, gOp_def, gUn_def, gNil_def, gCons_def, gIf_def, gTest_def, gNot_def, gAnd_def, gOr_def, gAndV_def, gOrV_def, gNotV_def, gCB_def, asB_b, hAdd_i, hSub_i, hLt_i, hLe_i, hGt_i, hGe_i, hMul_r, hMul_l, hMod_i, hDiv_s, hBand_i, hShr_i, hPow_10_18, hPow_10_27, hPow_10_28, hPow_10_29, hPow_10_30, hEq_i, hNe_i, hLen_l, hLen_t, hMin2_i, hMax2_i, hMin3_i, hInt1_b, hInt1_i, hBits_i, hListOf_l, hListOf_t, hTupOf_l, hTupOf_t, gSeqS_def, gSet_def, gRet_def, gIfS_def, gNext_def, gTup_def, gLst_def, List.getElem?_cons_zero, List.getElem?_cons_succ, List.set_cons_zero, List.set_cons_succ, List.length_cons, List.length_nil, Nat.zero_add, Nat.reduceAdd, Nat.reduceLeDiff, Nat.reduceSub, Nat.reduceMul, if_true, if_false, Bool.false_eq_true, List.replicate_succ, List.replicate_zero, List.cons_append, List.nil_append, tgN, tgT, tgCons, tgNil, Int.reducePow, Int.reduceAdd, Int.reduceSub, Int.reduceMul, decide_true, decide_false, Bool.not_true, Bool.not_false, gChain_def, hIsa_int, hIsa_intb, hIsa_list, hIsa_tuple, gDrop_def, e1, c, beq_self_eq_true], by omega, by omega⟩
    · have c' : (x1 / 13 % 8 == 1) = false := beq_eq_false_iff_ne.mpr c
      exact ⟨x1 % 13, by simp (disch := omega) only [bnd_ok, gVar_def, gC_def, gOp_def, gUn_def, gNil_def, gCons_def, gIf_def, gTest_def, gNot_def, gAnd_def, gOr_def, gAndV_def, gOrV_def, gNotV_def, gCB_def, asB_b, hAdd_i, hSub_i, hLt_i, hLe_i, hGt_i, hGe_i, hMul_r, hMul_l, hMod_i, hDiv_s, hBand_i, hShr_i, hPow_10_18, hPow_10_27, hPow_10_28, hPow_10_29, hPow_10_30, hEq_i, hNe_i, hLen_l, hLen_t, hMin2_i, hMax2_i, hMin3_i, hInt1_b, hInt1_i, hBits_i, hListOf_l, hListOf_t, hTupOf_l, hTupOf_t, gSeqS_def, gSet_def, gRet_def, gIfS_def, gNext_def, gTup_def, gLst_def, List.getElem?_cons_zero, List.getElem?_cons_succ, List.set_cons_zero, List.set_cons_succ, List.length_cons, List.length_nil, Nat.zero_add, Nat.reduceAdd, Nat.reduceLeDiff, Nat.reduceSub, Nat.reduceMul, if_true, if_false, Bool.false_eq_true, List.replicate_succ, List.replicate_zero, List.cons_append, List.nil_append, tgN, tgT, tgCons, tgNil, Int.reducePow, Int.reduceAdd, Int.reduceSub, Int.reduceMul, decide_true, decide_false, Bool.not_true, Bool.not_false, gChain_def, hIsa_int, hIsa_intb, hIsa_list, hIsa_tuple, gDrop_def, e1, c'], by omega, by omega⟩
  rw [seq_nx hm]
  -- wide, moment
  obtain ⟨wd, hw, w0, w1⟩ : ∃ wd, gSet 4 (gOp hIx (gLst (gCons (gC (.int (1))) (gCons (gC (.int (4))) (gCons (gOp hPow (gC (.int (10))) (gC (.int (28)))) (gNil))))) (gOp hMod (gOp hIx (gVar 0) (gC (.int (2)))) (gC (.int (3)))))
      [.list (ns.map .int), .int most, .int n, .int many, .none, .none, .none, .none, .none, .none] = .ok (.nx [.list (ns.map .int), .int most, .int n, .int many, .int wd, .none, .none, .none, .none, .none]) ∧ 0 < wd ∧ wd ≤ 10000000000000000000000000000 := by
    refine ⟨if x2 % 3 = 0 then 1 else if x2 % 3 = 1 then 4 else 10000000000000000000000000000, by simp (disch := omega) only [bnd_ok, gVar_def, gC_def, gOp_def, gUn_def, gNil_def, gCons_def, gIf_def, gTest_def, gNot_def, gAnd_def, gOr_def, gAndV_def, gOrV_def, gNotV_def, gCB_def, asB_b, hAdd_i, hSub_i, hLt_i, hLe_i, hGt_i, hGe_i, hMul_r, hMul_l, hMod_i, hDiv_s, hBand_i, hShr_i, hPow_10_18, hPow_10_27, hPow_10_28, hPow_10_29, hPow_10_30, hEq_i, hNe_i, hLen_l, hLen_t, hMin2_i, hMax2_i, hMin3_i, hInt1_b, hInt1_i, hBits_i, hListOf_l, hListOf_t, hTupOf_l, hTupOf_t, gSeqS_def, gSet_def, gRet_def, gIfS_def, gNext_def, gTup_def, gLst_def, List.getElem?_cons_zero, List.getElem?_cons_succ, List.set_cons_zero, List.set_cons_succ, List.length_cons, List.length_nil, Nat.zero_add, Nat.reduceAdd, Nat.reduceLeDiff, Nat.reduceSub, Nat.reduceMul, if_true, if_false, Bool.false_eq_true, List.replicate_succ, List.replicate_zero, List.cons_append, List.nil_append, tgN, tgT, tgCons, tgNil, Int.reducePow, Int.reduceAdd, Int.reduceSub, Int.reduceMul, decide_true, decide_false, Bool.not_true, Bool.not_false, gChain_def, hIsa_int, hIsa_intb, hIsa_list, hIsa_tuple, gDrop_def, e2, ix3], ?_, ?_⟩
    · split <;> (try split) <;> omega
    · split <;> (try split) <;> omega
  rw [seq_nx hw]
  obtain ⟨mo, hmo, mo0, mo1⟩ : ∃ mo, gSet 5 (gOp hIx (gLst (gCons (gC (.int (0))) (gCons (gOp hMod (gOp hDiv (gOp hIx (gVar 0) (gC (.int (2)))) (gC (.int (12)))) (gC (.int (100)))) (gCons (gOp hMod (gOp hIx (gVar 0) (gC (.int (3)))) (gOp hPow (gC (.int (10))) (gC (.int (29))))) (gNil))))) (gOp hMod (gOp hDiv (gOp hIx (gVar 0) (gC (.int (2)))) (gC (.int (3)))) (gC (.int (3)))))
      [.list (ns.map .int), .int most, .int n, .int many, .int wd, .none, .none, .none, .none, .none] = .ok (.nx [.list (ns.map .int), .int most, .int n, .int many, .int wd, .int mo, .none, .none, .none, .none]) ∧ 0 ≤ mo ∧ mo ≤ 100000000000000000000000000000 := by
    refine ⟨if x2 / 3 % 3 = 0 then 0 else if x2 / 3 % 3 = 1 then x2 / 12 % 100 else x3 % 100000000000000000000000000000, by simp (disch := omega) only [bnd_ok, gVar_def, gC_def, gOp_def, gUn_def, gNil_def, gCons_def, gIf_def, gTest_def, gNot_def, gAnd_def, gOr_def, gAndV_def, gOrV_def, gNotV_def, gCB_def, asB_b, hAdd_i, hSub_i, hLt_i, hLe_i, hGt_i, hGe_i, hMul_r, hMul_l, hMod_i, hDiv_s, hBand_i, hShr_i, hPow_10_18, hPow_10_27, hPow_10_28, hPow_10_29, hPow_10_30, hEq_i, hNe_i, hLen_l, hLen_t, hMin2_i, hMax2_i, hMin3_i, hInt1_b, hInt1_i, hBits_i, hListOf_l, hListOf_t, hTupOf_l, hTupOf_t, gSeqS_def, gSet_def, gRet_def, gIfS_def, gNext_def, gTup_def, gLst_def, List.getElem?_cons_zero, List.getElem?_cons_succ, List.set_cons_zero, List.set_cons_succ, List.length_cons, List.length_nil, Nat.zero_add, Nat.reduceAdd, Nat.reduceLeDiff, Nat.reduceSub, Nat.reduceMul, if_true, if_false, Bool.false_eq_true, List.replicate_succ, List.replicate_zero, List.cons_append, List.nil_append, tgN, tgT, tgCons, tgNil, Int.reducePow, Int.reduceAdd, Int.reduceSub, Int.reduceMul, decide_true, decide_false, Bool.not_true, Bool.not_false, gChain_def, hIsa_int, hIsa_intb, hIsa_list, hIsa_tuple, gDrop_def, e2, e3, ix3], ?_, ?_⟩
    · split <;> (try split) <;> omega
    · split <;> (try split) <;> omega
  rw [seq_nx hmo]
  rw [seq_nx (ρ' := [.list (ns.map .int), .int most, .int n, .int many, .int wd, .int mo, .list [], .none, .none, .none]) (by simp (disch := omega) only [bnd_ok, gVar_def, gC_def, gOp_def, gUn_def, gNil_def, gCons_def, gIf_def, gTest_def, gNot_def, gAnd_def, gOr_def, gAndV_def, gOrV_def, gNotV_def, gCB_def, asB_b, hAdd_i, hSub_i, hLt_i, hLe_i, hGt_i, hGe_i, hMul_r, hMul_l, hMod_i, hDiv_s, hBand_i, hShr_i, hPow_10_18, hPow_10_27, hPow_10_28, hPow_10_29, hPow_10_30, hEq_i, hNe_i, hLen_l, hLen_t, hMin2_i, hMax2_i, hMin3_i, hInt1_b, hInt1_i, hBits_i, hListOf_l, hListOf_t, hTupOf_l, hTupOf_t, gSeqS_def, gSet_def, gRet_def, gIfS_def, gNext_def, gTup_def, gLst_def, List.getElem?_cons_zero, List.getElem?_cons_succ, List.set_cons_zero, List.set_cons_succ, List.length_cons, List.length_nil, Nat.zero_add, Nat.reduceAdd, Nat.reduceLeDiff, Nat.reduceSub, Nat.reduceMul, if_true, if_false, Bool.false_eq_true, List.replicate_succ, List.replicate_zero, List.cons_append, List.nil_append, tgN, tgT, tgCons, tgNil, Int.reducePow, Int.reduceAdd, Int.reduceSub, Int.reduceMul, decide_true, decide_false, Bool.not_true, Bool.not_false, gChain_def, hIsa_int, hIsa_intb, hIsa_list, hIsa_tuple, gDrop_def, Nat.zero_le])]
  -- the loop
  obtain ⟨cnt, hc, c0, c1, c2⟩ : ∃ cnt : Nat, gRng1 (gCons (gCB hMin3 (gCons (gVar 3) (gCons (gVar 1) (gCons (gOp hDiv (gOp hSub (gCB hLen (gCons (gVar 0) (gNil))) (gC (.int (4)))) (gC (.int (3)))) (gNil))))) (gNil))
      [.list (ns.map .int), .int most, .int n, .int many, .int wd, .int mo, .list [], .none, .none, .none] = .ok ((List.range cnt).map fun (k : Nat) => PyData.int (k : Int)) ∧ (cnt : Int) ≤ most ∧ cnt ≤ 60 ∧ 3 * cnt + 4 ≤ ns.length := by
    generalize hq : (if most < many then (if ((ns.length : Int) - 4) / 3 < most then ((ns.length : Int) - 4) / 3 else most) else (if ((ns.length : Int) - 4) / 3 < many then ((ns.length : Int) - 4) / 3 else many)) = q
    have q0 : 0 ≤ q ∧ q ≤ most ∧ q ≤ 60 ∧ 3 * q + 4 ≤ ns.length := by
      split at hq <;> split at hq <;> omega
    refine ⟨q.toNat, ?_, by omega, by omega, by omega⟩
    rw [← rangeD_nat, show ((q.toNat : Nat) : Int) = q by omega]
    refine rng1_ok ?_ (by omega) (by omega)
    simp (disch := omega) only [bnd_ok, gVar_def, gC_def, gOp_def, gUn_def, gNil_def, gCons_def, gIf_def, gTest_def, gNot_def, gAnd_def, gOr_def, gAndV_def, gOrV_def, gNotV_def, gCB_def, asB_b, hAdd_i, hSub_i, hLt_i, hLe_i, hGt_i, hGe_i, hMul_r, hMul_l, hMod_i, hDiv_s, hBand_i, hShr_i, hPow_10_18, hPow_10_27, hPow_10_28, hPow_10_29, hPow_10_30, hEq_i, hNe_i, hLen_l, hLen_t, hMin2_i, hMax2_i, hMin3_i, hInt1_b, hInt1_i, hBits_i, hListOf_l, hListOf_t, hTupOf_l, hTupOf_t, gSeqS_def, gSet_def, gRet_def, gIfS_def, gNext_def, gTup_def, gLst_def, List.getElem?_cons_zero, List.getElem?_cons_succ, List.set_cons_zero, List.set_cons_succ, List.length_cons, List.length_nil, Nat.zero_add, Nat.reduceAdd, Nat.reduceLeDiff, Nat.reduceSub, Nat.reduceMul, if_true, if_false, Bool.false_eq_true, List.replicate_succ, List.replicate_zero, List.cons_append, List.nil_append, tgN, tgT, tgCons, tgNil, Int.reducePow, Int.reduceAdd, Int.reduceSub, Int.reduceMul, decide_true, decide_false, Bool.not_true, Bool.not_false, gChain_def, hIsa_int, hIsa_intb, hIsa_list, hIsa_tuple, gDrop_def, List.length_map, hq]
  obtain ⟨ρ', hf, r, m', d7, d8, d9, rfl, hl', hm', hm2, ht, ho, hlt⟩ := forE_ix (fun (k : Nat) => PyData.int (k : Int)) (h := tgN 7) (b := rB) (List.range cnt)
    (fun i ρ => ∃ (r : List T3) (m : Int) (d7 d8 d9 : Dt), ρ = [.list (ns.map .int), .int most, .int n, .int many, .int wd, .int m, .list (r.map enc3), d7, d8, d9] ∧ r.length = i ∧ 0 ≤ m ∧ m ≤ 100000000000000000000000000000 + i * 10000000000000000000000000000 ∧ (∀ t ∈ r, TieOk n t) ∧ (r.Pairwise fun s t => s.1 < t.1) ∧ ∀ t ∈ r, t.1 < m)
    (ρ := [.list (ns.map .int), .int most, .int n, .int many, .int wd, .int mo, .list [], .none, .none, .none]) ⟨[], mo, _, _, _, rfl, rfl, mo0, by omega, by simp, .nil, by simp⟩ (by
      rintro i ρ hi ⟨r, m, d7, d8, d9, rfl, hl', hm', hm2, ht, ho, hlt⟩
      rw [List.getElem_range]
      rw [List.length_range] at hi
      obtain ⟨t, m2, e8, e9, hB, t1, t2, t3, t4, t5, t6⟩ := rB_ok hns hl (k := i) (by omega) n1 w0 hm' (r := r) (by omega) (.int most) (.int many) d8 d9
      have tok : TieOk n t := ⟨by omega, by unfold B30; omega, t2, t3, t4⟩
      obtain ⟨s1, s2⟩ := rec_snoc ht ho tok (fun s hs => by rw [t1]; exact hlt s hs)
      refine ⟨_, _, rfl, .inl hB, r ++ [t], m2, _, _, _, rfl, by rw [List.length_append, hl']; rfl, by omega, by omega, s1, s2, fun s hs => ?_⟩
      rcases List.mem_append.mp hs with h | h
      · have := hlt s h; omega
      · rw [List.mem_singleton.mp h]; omega)
  rw [List.length_range] at hl'
  refine ⟨n, r, (seq_nx (b := gRet (gTup (gCons (gVar 2) (gCons (gVar 6) gNil)))) (for_ok hc hf)).trans ?_, n1, n10, ⟨by omega, ht, ho⟩, by omega⟩
  simp only [bnd_ok, gVar_def, gC_def, gOp_def, gUn_def, gNil_def, gCons_def, gIf_def, gTest_def, gNot_def, gAnd_def, gOr_def, gAndV_def, gOrV_def, gNotV_def, gCB_def, asB_b, hAdd_i, hSub_i, hLt_i, hLe_i, hGt_i, hGe_i, hMul_r, hMul_l, hMod_i, hDiv_s, hBand_i, hShr_i, hPow_10_18, hPow_10_27, hPow_10_28, hPow_10_29, hPow_10_30, hEq_i, hNe_i, hLen_l, hLen_t, hMin2_i, hMax2_i, hMin3_i, hInt1_b, hInt1_i, hBits_i, hListOf_l, hListOf_t, hTupOf_l, hTupOf_t, gSeqS_def, gSet_def, gRet_def, gIfS_def, gNext_def, gTup_def, gLst_def, List.getElem?_cons_zero, List.getElem?_cons_succ, List.set_cons_zero, List.set_cons_succ, List.length_cons, List.length_nil, Nat.zero_add, Nat.reduceAdd, Nat.reduceLeDiff, Nat.reduceSub, Nat.reduceMul, if_true, if_false, Bool.false_eq_true, List.replicate_succ, List.replicate_zero, List.cons_append, List.nil_append, tgN, tgT, tgCons, tgNil, Int.reducePow, Int.reduceAdd, Int.reduceSub, Int.reduceMul, decide_true, decide_false, Bool.not_true, Bool.not_false, gChain_def, hIsa_int, hIsa_intb, hIsa_list, hIsa_tuple, gDrop_def]
end FamA
end T_FamAP
section T_ConnP
set_option linter.all false
set_option maxRecDepth 100000
namespace Lay
open PySem Sim FamA
def E2 (ts : List T3) (b c : Int) : Prop := ∃ t ∈ ts, (t.2.1 = b ∧ t.2.2 = c) ∨ (t.2.1 = c ∧ t.2.2 = b)
inductive Conn (ts : List T3) : Int → Int → Prop
  | refl (a : Int) : Conn ts a a
  | step {a b c : Int} : Conn ts a b → E2 ts b c → Conn ts a c
section
variable {ts ts' : List T3} {a b c p q n : Int} {t : T3} {ms : List Int}
theorem E2.symm (h : E2 ts b c) : E2 ts c b := by
  obtain ⟨t, h1, h2⟩ := h
  exact ⟨t, h1, h2.symm⟩
theorem Conn.one (h : E2 ts a b) : Conn ts a b := .step (.refl a) h
theorem Conn.trans (h : Conn ts a b) (k : Conn ts b c) : Conn ts a c := by
  induction k with
  | refl => exact h
  | step _ e ih => exact .step ih e
theorem Conn.symm (h : Conn ts a b) : Conn ts b a := by
  induction h with
  | refl => exact .refl _
  | step _ e ih => exact (Conn.one e.symm).trans ih
theorem Conn.mono (h : ∀ b c, E2 ts b c → Conn ts' b c) (k : Conn ts a b) : Conn ts' a b := by
  induction k with
  | refl => exact .refl _
  | step _ e ih => exact ih.trans (h _ _ e)
theorem Conn.sub (h : ∀ t ∈ ts, t ∈ ts') (k : Conn ts a b) : Conn ts' a b := k.mono fun b c ⟨t, h1, h2⟩ => .one ⟨t, h t h1, h2⟩
theorem conn_mem (h : ∀ t, t ∈ ts ↔ t ∈ ts') : Conn ts a b ↔ Conn ts' a b := ⟨fun k => k.sub fun t => (h t).mp, fun k => k.sub fun t => (h t).mpr⟩
theorem conn_nil : Conn [] a b ↔ a = b := by
  constructor
  · intro h
    cases h with
    | refl => rfl
    | step _ e => obtain ⟨t, h1, _⟩ := e; cases h1
  · rintro rfl; exact .refl _
theorem conn_cons : Conn (t :: ts) p q ↔ Conn ts p q ∨ (Conn ts p t.2.1 ∧ Conn ts t.2.2 q) ∨ (Conn ts p t.2.2 ∧ Conn ts t.2.1 q) := by
  constructor
  · intro h
    induction h with
    | refl => exact .inl (.refl _)
    | step _ e ih =>
      obtain ⟨s, hs, e⟩ := e
      rcases List.mem_cons.mp hs with rfl | hs
      · rcases e with ⟨rfl, rfl⟩ | ⟨rfl, rfl⟩
        · rcases ih with h | ⟨h, _⟩ | ⟨h, _⟩
          · exact .inr (.inl ⟨h, .refl _⟩)
          · exact .inr (.inl ⟨h, .refl _⟩)
          · exact .inl h
        · rcases ih with h | ⟨h, _⟩ | ⟨h, _⟩
          · exact .inr (.inr ⟨h, .refl _⟩)
          · exact .inl h
          · exact .inr (.inr ⟨h, .refl _⟩)
      · have e := Conn.one (ts := ts) ⟨s, hs, e⟩
        rcases ih with h | ⟨h, k⟩ | ⟨h, k⟩
        · exact .inl (h.trans e)
        · exact .inr (.inl ⟨h, k.trans e⟩)
        · exact .inr (.inr ⟨h, k.trans e⟩)
  · have up : ∀ {x y}, Conn ts x y → Conn (t :: ts) x y := fun h => h.sub fun _ => List.mem_cons_of_mem _
    have e : Conn (t :: ts) t.2.1 t.2.2 := .one ⟨t, List.mem_cons_self, .inl ⟨rfl, rfl⟩⟩
    rintro (h | ⟨h, k⟩ | ⟨h, k⟩)
    · exact up h
    · exact (up h).trans (e.trans (up k))
    · exact (up h).trans (e.symm.trans (up k))
def gx (ms : List Int) (a : Int) : Int := ms.getD a.toNat 0
structure MK (n : Int) (ms : List Int) (ts : List T3) : Prop where
  len : ms.length = n.toNat
  ker : ∀ a b, 0 ≤ a → a < n → 0 ≤ b → b < n → (gx ms a = gx ms b ↔ Conn ts a b)
theorem gx_map (f : Int → Int) (h0 : 0 ≤ a) (h1 : a.toNat < ms.length) : gx (ms.map f) a = f (gx ms a) := by
  unfold gx
  rw [List.getD_eq_getElem?_getD, List.getD_eq_getElem?_getD, List.getElem?_map, List.getElem?_eq_getElem h1]
  rfl
theorem gx_pl (h0 : 0 ≤ a) (h1 : a < n) : gx (pl n) a = a := by
  unfold gx pl
  rw [List.getD_eq_getElem?_getD, List.getElem?_map, List.getElem?_range (by omega)]
  show ((a.toNat : Nat) : Int) = a
  omega
theorem MK.zero : MK n (pl n) [] := ⟨pl_len n, fun a b a0 an b0 bn => by rw [gx_pl a0 an, gx_pl b0 bn, conn_nil]⟩
theorem MK.step (h : MK n ms ts) (a0 : 0 ≤ t.2.1) (a1 : t.2.1 < n) (b0 : 0 ≤ t.2.2) (b1 : t.2.2 < n) {x y : Int}
    (hxy : (x = gx ms t.2.1 ∧ y = gx ms t.2.2) ∨ (x = gx ms t.2.2 ∧ y = gx ms t.2.1)) : MK n (ms.map fun m => if m = x then y else m) (t :: ts) := by
  refine ⟨by rw [List.length_map]; exact h.len, fun p q p0 pn q0 qn => ?_⟩
  rw [gx_map _ p0 (by rw [h.len]; omega), gx_map _ q0 (by rw [h.len]; omega), conn_cons, ← h.ker p q p0 pn q0 qn, ← h.ker p _ p0 pn a0 a1, ← h.ker _ q b0 b1 q0 qn, ← h.ker p _ p0 pn b0 b1, ← h.ker _ q a0 a1 q0 qn]
  generalize gx ms p = u at *
  generalize gx ms q = v at *
  generalize gx ms t.2.1 = A at *
  generalize gx ms t.2.2 = B at *
  rcases hxy with ⟨rfl, rfl⟩ | ⟨rfl, rfl⟩
  · split <;> split <;> constructor <;> intro h <;> omega
  · split <;> split <;> constructor <;> intro h <;> omega
theorem MK.mem (h : MK n ms ts) (e : ∀ t, t ∈ ts ↔ t ∈ ts') : MK n ms ts' := ⟨h.len, fun a b a0 an b0 bn => (h.ker a b a0 an b0 bn).trans (conn_mem e)⟩
def layer (j : Int) (s : List T3) (ns : List Int) : List T3 := ((s.zip ns).filter fun p => p.2 == j).map (·.1)
open Classical in
noncomputable def fj (p : Nat → Prop) (lo : Nat) : Nat → Int
  | 0 => 0
  | m + 1 => if p lo then (lo : Int) + 1 else fj p (lo + 1) m
noncomputable def num (k : Nat) (s : List T3) (ns : List Int) (a b : Int) : Int := fj (fun j => ¬ Conn (layer ((j : Int) + 1) s ns) a b) 0 k
noncomputable def lay (k : Nat) : List T3 → List Int
  | [] => []
  | t :: s => num k s (lay k s) t.2.1 t.2.2 :: lay k s
theorem lay_len (k : Nat) : ∀ r, (lay k r).length = r.length
  | [] => rfl
  | t :: s => by unfold lay; rw [List.length_cons, List.length_cons, lay_len k s]
theorem lay_cons (k : Nat) (t : T3) (s : List T3) : lay k (t :: s) = num k s (lay k s) t.2.1 t.2.2 :: lay k s := rfl
theorem layer_cons (j x : Int) (t : T3) (s : List T3) (ns : List Int) : layer j (t :: s) (x :: ns) = if x = j then t :: layer j s ns else layer j s ns := by
  unfold layer
  rw [List.zip_cons_cons, List.filter_cons]
  by_cases h : x = j
  · simp [h]
  · simp [h]
theorem fj_t {p : Nat → Prop} {lo : Nat} (m : Nat) (h : p lo) : fj p lo (m + 1) = (lo : Int) + 1 := by unfold fj; rw [if_pos h]
theorem fj_f {p : Nat → Prop} {lo : Nat} (m : Nat) (h : ¬ p lo) : fj p lo (m + 1) = fj p (lo + 1) m := by
  conv => lhs; unfold fj
  exact if_neg h
theorem fj_range (p : Nat → Prop) : ∀ (m lo : Nat), fj p lo m = 0 ∨ ((lo : Int) < fj p lo m ∧ fj p lo m ≤ (lo : Int) + m)
  | 0, _ => .inl rfl
  | m + 1, lo => by
    by_cases h : p lo
    · rw [fj_t m h]; exact .inr ⟨by omega, by omega⟩
    · rw [fj_f m h]
      rcases fj_range p m (lo + 1) with e | ⟨e1, e2⟩
      · exact .inl e
      · exact .inr ⟨by omega, by omega⟩
theorem num_range (k : Nat) (s : List T3) (ns : List Int) (a b : Int) : 0 ≤ num k s ns a b ∧ num k s ns a b ≤ k := by
  unfold num
  rcases fj_range (fun j => ¬ Conn (layer ((j : Int) + 1) s ns) a b) k 0 with e | ⟨e1, e2⟩
  · rw [e]; omega
  · omega
theorem lay_range (k : Nat) : ∀ (r : List T3) (x : Int), x ∈ lay k r → 0 ≤ x ∧ x ≤ k
  | t :: s, x, h => by
    rw [lay_cons] at h
    rcases List.mem_cons.mp h with rfl | h
    · exact num_range k s _ _ _
    · exact lay_range k s x h
def lfr (a b : Int) : List (List Int) → Nat → Int
  | [], _ => 0
  | ms :: rows, lo => if gx ms a = gx ms b then lfr a b rows (lo + 1) else (lo : Int) + 1
theorem lfr_fj (p : Nat → Prop) : ∀ (rows : List (List Int)) (lo : Nat), (∀ i (h : i < rows.length), gx rows[i] a = gx rows[i] b ↔ ¬ p (lo + i)) → lfr a b rows lo = fj p lo rows.length
  | [], _, _ => rfl
  | ms :: rows, lo, h => by
    have h0 := h 0 (by rw [List.length_cons]; omega)
    have e := lfr_fj p rows (lo + 1) fun i hi => by
      have := h (i + 1) (by rw [List.length_cons]; omega)
      rw [List.getElem_cons_succ] at this
      rw [this, show lo + 1 + i = lo + (i + 1) by omega]
    rw [List.getElem_cons_zero, Nat.add_zero] at h0
    unfold lfr
    rw [List.length_cons]
    by_cases c : gx ms a = gx ms b
    · rw [if_pos c, fj_f _ (h0.mp c), e]
    · rw [if_neg c, fj_t _ (Classical.byContradiction fun z => c (h0.mpr z))]
structure RowsOk (n : Int) (k : Nat) (rows : List (List Int)) (s : List T3) : Prop where
  len : rows.length = k
  mkr : ∀ j (h : j < rows.length), MK n rows[j] (layer ((j : Int) + 1) s (lay k s))
theorem RowsOk.zero {k : Nat} : RowsOk n k (List.replicate k (pl n)) [] := ⟨List.length_replicate .., fun j h => by
  rw [List.getElem_replicate]
  exact MK.zero⟩
theorem RowsOk.num {k : Nat} {rows : List (List Int)} {s : List T3} (h : RowsOk n k rows s) (a0 : 0 ≤ a) (an : a < n) (b0 : 0 ≤ b) (bn : b < n) : lfr a b rows 0 = num k s (lay k s) a b := by
  rw [lfr_fj (fun j => ¬ Conn (layer ((j : Int) + 1) s (lay k s)) a b) rows 0 fun i hi => ?_, h.len]
  · rfl
  · rw [Nat.zero_add, Classical.not_not]
    exact (h.mkr i hi).ker a b a0 an b0 bn
theorem RowsOk.stay {k : Nat} {rows : List (List Int)} {s : List T3} (h : RowsOk n k rows s) (e : Lay.num k s (lay k s) t.2.1 t.2.2 = 0) : RowsOk n k rows (t :: s) := ⟨h.len, fun j hj => by
  rw [lay_cons, layer_cons, if_neg (by omega)]
  exact h.mkr j hj⟩
theorem RowsOk.put {k : Nat} {rows : List (List Int)} {s : List T3} (h : RowsOk n k rows s) (a0 : 0 ≤ t.2.1) (a1 : t.2.1 < n) (b0 : 0 ≤ t.2.2) (b1 : t.2.2 < n) {j : Nat} (hj : j < rows.length) (e : Lay.num k s (lay k s) t.2.1 t.2.2 = (j : Int) + 1) {x y : Int}
    (hxy : (x = gx rows[j] t.2.1 ∧ y = gx rows[j] t.2.2) ∨ (x = gx rows[j] t.2.2 ∧ y = gx rows[j] t.2.1)) : RowsOk n k (rows.set j (rows[j].map fun m => if m = x then y else m)) (t :: s) := ⟨by rw [List.length_set]; exact h.len, fun i hi => by
  rw [List.length_set] at hi
  rw [lay_cons, layer_cons, e]
  by_cases c : j = i
  · subst c
    rw [List.getElem_set_self, if_pos rfl]
    exact (h.mkr j hj).step a0 a1 b0 b1 hxy
  · rw [List.getElem_set_ne c, if_neg (by omega)]
    exact h.mkr i hi⟩
end
end Lay
end T_ConnP
section T_FamLP
set_option linter.all false
set_option maxRecDepth 100000
set_option maxHeartbeats 1000000
namespace FamL
open PySem Sim FamA Lay
def encI (ms : List Int) : Dt := .list (ms.map .int)
theorem hIx_gx {ms : List Int} {a : Int} (h0 : 0 ≤ a) (h1 : a.toNat < ms.length) : hIx (.list (ms.map .int)) (.int a) = .ok (.int (gx ms a)) := by
  rw [hIx_ints h0 (by omega)]
  unfold gx
  rw [List.getD_eq_getElem?_getD, List.getElem?_eq_getElem h1]
  rfl
theorem joined_ok {ms : List Int} {a b : Int} (a0 : 0 ≤ a) (a1 : a.toNat < ms.length) (b0 : 0 ≤ b) (b1 : b.toNat < ms.length) (hl : ms.length ≤ 1000) :
    ∃ x y, f_joined [encI ms, .int a, .int b] = .ok (encI (ms.map fun m => if m = x then y else m)) ∧ ((x = gx ms a ∧ y = gx ms b) ∨ (x = gx ms b ∧ y = gx ms a)) := by
  refine ⟨if gx ms b > gx ms a then gx ms b else gx ms a, if gx ms b < gx ms a then gx ms b else gx ms a, ?_, ?_⟩
  · refine fnL_rt ?_
    show g_joined [.list (ms.map .int), .int a, .int b, .none, .none, .none] = _
    unfold g_joined
    have i1 := hIx_gx a0 a1
    have i2 := hIx_gx b0 b1
    apply seq_step
    · simp (disch := first | omega | with_unfolding_all rfl | assumption | decide | (simp only [List.length_cons, List.length_nil]; omega)) only [bnd_ok, gVar_def, gC_def, gOp_def, gUn_def, gNil_def, gCons_def, gIf_def, gTest_def, gNot_def, gAnd_def, gOr_def, gAndV_def, gOrV_def, gNotV_def, gCB_def, asB_b, hAdd_i, hSub_i, hLt_i, hLe_i, hGt_i, hGe_i, hMul_r, hMul_l, hMod_i, hDiv_s, hBand_i, hShr_i, hPow_10_18, hPow_10_27, hPow_10_28, hPow_10_29, hPow_10_30, hEq_i, hNe_i, hLen_l, hLen_t, hMin2_i, hMax2_i, hMin3_i, hInt1_b, hInt1_i, hBits_i, hListOf_l, hListOf_t, hTupOf_l, hTupOf_t, gSeqS_def, gSet_def, gRet_def, gIfS_def, gNext_def, gTup_def, gLst_def, List.getElem?_cons_zero, List.getElem?_cons_succ, List.set_cons_zero, List.set_cons_succ, List.length_cons, List.length_nil, Nat.zero_add, Nat.reduceAdd, Nat.reduceLeDiff, Nat.reduceSub, Nat.reduceMul, if_true, if_false, Bool.false_eq_true, List.replicate_succ, List.replicate_zero, List.cons_append, List.nil_append, tgN, tgT, tgCons, tgNil, Int.reducePow, Int.reduceAdd, Int.reduceSub, Int.reduceMul, decide_true, decide_false, Bool.not_true, Bool.not_false, gChain_def, hIsa_int, hIsa_intb, hIsa_list, hIsa_tuple, gDrop_def, gCallN_def, gAsg_def, gSl_def, gNoPart_def, gPart_def, hSl_from', hSl_to', i1, i2]
      rfl
    apply seq_step
    · simp (disch := first | omega | with_unfolding_all rfl | assumption | decide | (simp only [List.length_cons, List.length_nil]; omega)) only [bnd_ok, gVar_def, gC_def, gOp_def, gUn_def, gNil_def, gCons_def, gIf_def, gTest_def, gNot_def, gAnd_def, gOr_def, gAndV_def, gOrV_def, gNotV_def, gCB_def, asB_b, hAdd_i, hSub_i, hLt_i, hLe_i, hGt_i, hGe_i, hMul_r, hMul_l, hMod_i, hDiv_s, hBand_i, hShr_i, hPow_10_18, hPow_10_27, hPow_10_28, hPow_10_29, hPow_10_30, hEq_i, hNe_i, hLen_l, hLen_t, hMin2_i, hMax2_i, hMin3_i, hInt1_b, hInt1_i, hBits_i, hListOf_l, hListOf_t, hTupOf_l, hTupOf_t, gSeqS_def, gSet_def, gRet_def, gIfS_def, gNext_def, gTup_def, gLst_def, List.getElem?_cons_zero, List.getElem?_cons_succ, List.set_cons_zero, List.set_cons_succ, List.length_cons, List.length_nil, Nat.zero_add, Nat.reduceAdd, Nat.reduceLeDiff, Nat.reduceSub, Nat.reduceMul, if_true, if_false, Bool.false_eq_true, List.replicate_succ, List.replicate_zero, List.cons_append, List.nil_append, tgN, tgT, tgCons, tgNil, Int.reducePow, Int.reduceAdd, Int.reduceSub, Int.reduceMul, decide_true, decide_false, Bool.not_true, Bool.not_false, gChain_def, hIsa_int, hIsa_intb, hIsa_list, hIsa_tuple, gDrop_def, gCallN_def, gAsg_def, gSl_def, gNoPart_def, gPart_def, hSl_from', hSl_to', i1, i2]
      rfl
    have h := gLc_map PyData.int (fun _ => true) (fun m => PyData.int (if m = (if gx ms b > gx ms a then gx ms b else gx ms a) then (if gx ms b < gx ms a then gx ms b else gx ms a) else m)) (gi := gSeq (gVar 0)) (h := tgN 5) (gt := gYes) (ge := gIf (gTest (gOp hEq (gVar 5) (gVar 4))) (gVar 3) (gVar 5))
      (ρ := [.list (ms.map .int), .int a, .int b, .int (if gx ms b < gx ms a then gx ms b else gx ms a), .int (if gx ms b > gx ms a then gx ms b else gx ms a), .none]) (xs := ms) rfl (by omega) (fun m _ => ⟨_, rfl, rfl, fun _ => by
        simp only [bnd_ok, gVar_def, gC_def, gOp_def, gUn_def, gNil_def, gCons_def, gIf_def, gTest_def, gNot_def, gAnd_def, gOr_def, gAndV_def, gOrV_def, gNotV_def, gCB_def, asB_b, hAdd_i, hSub_i, hLt_i, hLe_i, hGt_i, hGe_i, hMul_r, hMul_l, hMod_i, hDiv_s, hBand_i, hShr_i, hPow_10_18, hPow_10_27, hPow_10_28, hPow_10_29, hPow_10_30, hEq_i, hNe_i, hLen_l, hLen_t, hMin2_i, hMax2_i, hMin3_i, hInt1_b, hInt1_i, hBits_i, hListOf_l, hListOf_t, hTupOf_l, hTupOf_t, gSeqS_def, gSet_def, gRet_def, gIfS_def, gNext_def, gTup_def, gLst_def, List.getElem?_cons_zero, List.getElem?_cons_succ, List.set_cons_zero, List.set_cons_succ, List.length_cons, List.length_nil, Nat.zero_add, Nat.reduceAdd, Nat.reduceLeDiff, Nat.reduceSub, Nat.reduceMul, if_true, if_false, Bool.false_eq_true, List.replicate_succ, List.replicate_zero, List.cons_append, List.nil_append, tgN, tgT, tgCons, tgNil, Int.reducePow, Int.reduceAdd, Int.reduceSub, Int.reduceMul, decide_true, decide_false, Bool.not_true, Bool.not_false, gChain_def, hIsa_int, hIsa_intb, hIsa_list, hIsa_tuple, gDrop_def]
        by_cases c : m = (if gx ms b > gx ms a then gx ms b else gx ms a)
        · simp only [c, if_true, beq_self_eq_true]
        · simp only [c, if_false, beq_iff_eq]⟩)
    rw [List.filter_eq_self.mpr (fun _ _ => rfl)] at h
    have e : (ms.map fun m => PyData.int (if m = (if gx ms b > gx ms a then gx ms b else gx ms a) then (if gx ms b < gx ms a then gx ms b else gx ms a) else m)) = (ms.map fun m => if m = (if gx ms b > gx ms a then gx ms b else gx ms a) then (if gx ms b < gx ms a then gx ms b else gx ms a) else m).map PyData.int := by rw [List.map_map]; rfl
    simp only [gRet_def, gPurN_def, h, bnd_ok, pureIn, e, pureA_ints, if_true]
    rfl
  · by_cases c1 : gx ms b > gx ms a <;> by_cases c2 : gx ms b < gx ms a
    · omega
    · rw [if_pos c1, if_neg c2]; exact .inr ⟨rfl, rfl⟩
    · rw [if_neg c1, if_pos c2]; exact .inl ⟨rfl, rfl⟩
    · rw [if_neg c1, if_neg c2]; exact .inl ⟨rfl, by omega⟩
def encP (p : List Int × Nat) : Dt := .tuple [.int (p.2 : Nat), encI p.1]
theorem lf_loop {a b : Int} {m : Nat} (M : Dt) (a0 : 0 ≤ a) (a1 : a.toNat < m) (b0 : 0 ≤ b) (b1 : b.toNat < m) : ∀ (rows : List (List Int)) (lo : Nat) (x y : Dt), (∀ ms ∈ rows, ms.length = m) →
    (forE (tgT (tgCons (tgN 3) (tgCons (tgN 4) (tgNil)))) g_layer_for_L1 ((rows.zipIdx lo).map encP) [M, .int a, .int b, x, y] = .ok (.rt (.int (lfr a b rows lo)))) ∨
      ((∃ x' y', forE (tgT (tgCons (tgN 3) (tgCons (tgN 4) (tgNil)))) g_layer_for_L1 ((rows.zipIdx lo).map encP) [M, .int a, .int b, x, y] = .ok (.nx [M, .int a, .int b, x', y'])) ∧ lfr a b rows lo = 0)
  | [], lo, x, y, _ => .inr ⟨⟨x, y, rfl⟩, rfl⟩
  | ms :: rows, lo, x, y, h => by
    have l := h ms List.mem_cons_self
    have i1 := hIx_gx (ms := ms) a0 (by omega)
    have i2 := hIx_gx (ms := ms) b0 (by omega)
    have ih := lf_loop M a0 a1 b0 b1 rows (lo + 1) (.int lo) (encI ms) fun ms hm => h ms (List.mem_cons_of_mem _ hm)
    rw [List.zipIdx_cons, List.map_cons]
    unfold forE
    have e1 : tgT (tgCons (tgN 3) (tgCons (tgN 4) (tgNil))) (encP (ms, lo)) [M, .int a, .int b, x, y] = .ok [M, .int a, .int b, .int lo, .list (ms.map .int)] := rfl
    have e2 : g_layer_for_L1 [M, .int a, .int b, .int lo, .list (ms.map .int)] = if gx ms a = gx ms b then .ok (.nx [M, .int a, .int b, .int lo, .list (ms.map .int)]) else .ok (.rt (.int ((lo : Int) + 1))) := by
      unfold g_layer_for_L1
      simp only [bnd_ok, gVar_def, gC_def, gOp_def, gUn_def, gNil_def, gCons_def, gIf_def, gTest_def, gNot_def, gAnd_def, gOr_def, gAndV_def, gOrV_def, gNotV_def, gCB_def, asB_b, hAdd_i, hSub_i, hLt_i, hLe_i, hGt_i, hGe_i, hMul_r, hMul_l, hMod_i, hDiv_s, hBand_i, hShr_i, hPow_10_18, hPow_10_27, hPow_10_28, hPow_10_29, hPow_10_30, hEq_i, hNe_i, hLen_l, hLen_t, hMin2_i, hMax2_i, hMin3_i, hInt1_b, hInt1_i, hBits_i, hListOf_l, hListOf_t, hTupOf_l, hTupOf_t, gSeqS_def, gSet_def, gRet_def, gIfS_def, gNext_def, gTup_def, gLst_def, List.getElem?_cons_zero, List.getElem?_cons_succ, List.set_cons_zero, List.set_cons_succ, List.length_cons, List.length_nil, Nat.zero_add, Nat.reduceAdd, Nat.reduceLeDiff, Nat.reduceSub, Nat.reduceMul, if_true, if_false, Bool.false_eq_true, List.replicate_succ, List.replicate_zero, List.cons_append, List.nil_append, tgN, tgT, tgCons, tgNil, Int.reducePow, Int.reduceAdd, Int.reduceSub, Int.reduceMul, decide_true, decide_false, Bool.not_true, Bool.not_false, gChain_def, hIsa_int, hIsa_intb, hIsa_list, hIsa_tuple, gDrop_def, i1, i2]
      by_cases c : gx ms a = gx ms b
      · simp [c]
      · simp [c]
    rw [e1]
    simp only [e2]
    unfold lfr
    by_cases c : gx ms a = gx ms b
    · rw [if_pos c, if_pos c]
      exact ih
    · rw [if_neg c, if_neg c]
      exact .inl rfl
theorem layer_for_ok {a b : Int} {m : Nat} {rows : List (List Int)} (a0 : 0 ≤ a) (a1 : a.toNat < m) (b0 : 0 ≤ b) (b1 : b.toNat < m) (h : ∀ ms ∈ rows, ms.length = m) : f_layer_for [.list (rows.map encI), .int a, .int b] = .ok (.int (lfr a b rows 0)) := by
  refine fnN_rt ?_
  show g_layer_for [.list (rows.map encI), .int a, .int b, .none, .none] = _
  unfold g_layer_for
  have e : gEnum (gCons (gVar 0) (gNil)) [.list (rows.map encI), .int a, .int b, .none, .none] = .ok ((rows.zipIdx 0).map encP) := by
    refine (enum_ok (es := rows.map encI) (by rfl)).trans ?_
    rw [enumD_map]
    rfl
  rcases lf_loop (.list (rows.map encI)) a0 a1 b0 b1 rows 0 .none .none h with q | ⟨⟨x, y, q⟩, z⟩
  · exact seq_rt (for_ok e q)
  · rw [z]
    exact seq_step (for_ok e q) rfl
theorem look_ok {k : Int} (k1 : 1 ≤ k) (k6 : k ≤ 6) : f_look_at_layers [.int k] = .ok .none := by
  have e1 : f_is_whole [.int k] = .ok (.bool true) := rfl
  have e2 : f_is_depth [.int k] = .ok (.bool true) := by
    refine fnN_rt ?_
    show g_is_depth [.int k] = _
    unfold g_is_depth
    simp only [bnd_ok, gVar_def, gC_def, gOp_def, gUn_def, gNil_def, gCons_def, gIf_def, gTest_def, gNot_def, gAnd_def, gOr_def, gAndV_def, gOrV_def, gNotV_def, gCB_def, asB_b, hAdd_i, hSub_i, hLt_i, hLe_i, hGt_i, hGe_i, hMul_r, hMul_l, hMod_i, hDiv_s, hBand_i, hShr_i, hPow_10_18, hPow_10_27, hPow_10_28, hPow_10_29, hPow_10_30, hEq_i, hNe_i, hLen_l, hLen_t, hMin2_i, hMax2_i, hMin3_i, hInt1_b, hInt1_i, hBits_i, hListOf_l, hListOf_t, hTupOf_l, hTupOf_t, gSeqS_def, gSet_def, gRet_def, gIfS_def, gNext_def, gTup_def, gLst_def, List.getElem?_cons_zero, List.getElem?_cons_succ, List.set_cons_zero, List.set_cons_succ, List.length_cons, List.length_nil, Nat.zero_add, Nat.reduceAdd, Nat.reduceLeDiff, Nat.reduceSub, Nat.reduceMul, if_true, if_false, Bool.false_eq_true, List.replicate_succ, List.replicate_zero, List.cons_append, List.nil_append, tgN, tgT, tgCons, tgNil, Int.reducePow, Int.reduceAdd, Int.reduceSub, Int.reduceMul, decide_true, decide_false, Bool.not_true, Bool.not_false, gChain_def, hIsa_int, hIsa_intb, hIsa_list, hIsa_tuple, gDrop_def, gCallN_def, gAsg_def, gSl_def, gNoPart_def, gPart_def, hSl_from', hSl_to', e1, k1, k6]
  refine fnN_nx (ρ := [.int k]) ?_
  show g_look_at_layers [.int k] = _
  unfold g_look_at_layers
  simp only [bnd_ok, gVar_def, gC_def, gOp_def, gUn_def, gNil_def, gCons_def, gIf_def, gTest_def, gNot_def, gAnd_def, gOr_def, gAndV_def, gOrV_def, gNotV_def, gCB_def, asB_b, hAdd_i, hSub_i, hLt_i, hLe_i, hGt_i, hGe_i, hMul_r, hMul_l, hMod_i, hDiv_s, hBand_i, hShr_i, hPow_10_18, hPow_10_27, hPow_10_28, hPow_10_29, hPow_10_30, hEq_i, hNe_i, hLen_l, hLen_t, hMin2_i, hMax2_i, hMin3_i, hInt1_b, hInt1_i, hBits_i, hListOf_l, hListOf_t, hTupOf_l, hTupOf_t, gSeqS_def, gSet_def, gRet_def, gIfS_def, gNext_def, gTup_def, gLst_def, List.getElem?_cons_zero, List.getElem?_cons_succ, List.set_cons_zero, List.set_cons_succ, List.length_cons, List.length_nil, Nat.zero_add, Nat.reduceAdd, Nat.reduceLeDiff, Nat.reduceSub, Nat.reduceMul, if_true, if_false, Bool.false_eq_true, List.replicate_succ, List.replicate_zero, List.cons_append, List.nil_append, tgN, tgT, tgCons, tgNil, Int.reducePow, Int.reduceAdd, Int.reduceSub, Int.reduceMul, decide_true, decide_false, Bool.not_true, Bool.not_false, gChain_def, hIsa_int, hIsa_intb, hIsa_list, hIsa_tuple, gDrop_def, gCallN_def, gAsg_def, gSl_def, gNoPart_def, gPart_def, hSl_from', hSl_to', e2]
def InN (n : Int) (r : List T3) : Prop := ∀ t ∈ r, (0 ≤ t.2.1 ∧ t.2.1 < n) ∧ 0 ≤ t.2.2 ∧ t.2.2 < n
theorem set_map_enc (rows : List (List Int)) (j : Nat) (ms : List Int) : (rows.map encI).set j (encI ms) = (rows.set j ms).map encI := (List.map_set ..).symm
theorem layered_ok {n : Int} {k : Nat} {r : List T3} (hr : InN n r) (hl : r.length ≤ 1000) (n1 : 1 ≤ n) (n10 : n ≤ 10) (k1 : 1 ≤ k) (k6 : k ≤ 6) :
    f_layered [.int n, .list (r.map enc3), .int (k : Nat)] = .ok (.list ((lay k r).map .int)) := by
  refine fnL_rt ?_
  show g_layered [.int n, .list (r.map enc3), .int (k : Nat), .none, .none, .none, .none, .none, .none] = _
  unfold g_layered
  have hlook := look_ok (k := k) (by omega) (by omega)
  have rg : ∀ x, gLsI (gRng1 (gCons (gVar 0) gNil)) [.int n, .list (r.map enc3), .int (k : Nat), .none, .int x, .none, .none, .none, .none] = .ok (encI (pl n)) := fun x => by
    rw [lsI_ok (ds := (pl n).map .int) (by rw [rng1_ok (show gCons (gVar 0) gNil _ = .ok [.int n] from rfl) (by omega) (by omega), rangeD_pl]) (by rw [List.length_map, pl_len]; omega)]
    rfl
  have hrows : gLc (gRng1 (gCons (gVar 2) (gNil))) (tgN 4) (gYes) (gLsI (gRng1 (gCons (gVar 0) gNil))) [.int n, .list (r.map enc3), .int (k : Nat), .none, .none, .none, .none, .none, .none] = .ok (.list ((List.replicate k (pl n)).map encI)) := by
    rw [gLc_map PyData.int (fun _ => true) (fun _ => encI (pl n)) (xs := pl k) (by rw [rng1_ok (show gCons (gVar 2) gNil _ = .ok [.int (k : Nat)] from rfl) (by omega) (by omega), rangeD_pl]) (by rw [pl_len]; omega) fun x _ => ⟨_, rfl, rfl, fun _ => rg x⟩]
    rw [List.filter_eq_self.mpr (fun _ _ => rfl), List.map_const', pl_len, List.map_replicate]
    rfl
  apply seq_step
  · simp (disch := first | omega | with_unfolding_all rfl | assumption | decide | (simp only [List.length_cons, List.length_nil]; omega)) only [bnd_ok, gVar_def, gC_def, gOp_def, gUn_def, gNil_def, gCons_def, gIf_def, gTest_def, gNot_def, gAnd_def, gOr_def, gAndV_def, gOrV_def, gNotV_def, gCB_def, asB_b, hAdd_i, hSub_i, hLt_i, hLe_i, hGt_i, hGe_i, hMul_r, hMul_l, hMod_i, hDiv_s, hBand_i, hShr_i, hPow_10_18, hPow_10_27, hPow_10_28, hPow_10_29, hPow_10_30, hEq_i, hNe_i, hLen_l, hLen_t, hMin2_i, hMax2_i, hMin3_i, hInt1_b, hInt1_i, hBits_i, hListOf_l, hListOf_t, hTupOf_l, hTupOf_t, gSeqS_def, gSet_def, gRet_def, gIfS_def, gNext_def, gTup_def, gLst_def, List.getElem?_cons_zero, List.getElem?_cons_succ, List.set_cons_zero, List.set_cons_succ, List.length_cons, List.length_nil, Nat.zero_add, Nat.reduceAdd, Nat.reduceLeDiff, Nat.reduceSub, Nat.reduceMul, if_true, if_false, Bool.false_eq_true, List.replicate_succ, List.replicate_zero, List.cons_append, List.nil_append, tgN, tgT, tgCons, tgNil, Int.reducePow, Int.reduceAdd, Int.reduceSub, Int.reduceMul, decide_true, decide_false, Bool.not_true, Bool.not_false, gChain_def, hIsa_int, hIsa_intb, hIsa_list, hIsa_tuple, gDrop_def, gCallN_def, gAsg_def, gSl_def, gNoPart_def, gPart_def, hSl_from', hSl_to', hlook]
    rfl
  apply seq_step
  · simp (disch := first | omega | with_unfolding_all rfl | assumption | decide | (simp only [List.length_cons, List.length_nil]; omega)) only [bnd_ok, gVar_def, gC_def, gOp_def, gUn_def, gNil_def, gCons_def, gIf_def, gTest_def, gNot_def, gAnd_def, gOr_def, gAndV_def, gOrV_def, gNotV_def, gCB_def, asB_b, hAdd_i, hSub_i, hLt_i, hLe_i, hGt_i, hGe_i, hMul_r, hMul_l, hMod_i, hDiv_s, hBand_i, hShr_i, hPow_10_18, hPow_10_27, hPow_10_28, hPow_10_29, hPow_10_30, hEq_i, hNe_i, hLen_l, hLen_t, hMin2_i, hMax2_i, hMin3_i, hInt1_b, hInt1_i, hBits_i, hListOf_l, hListOf_t, hTupOf_l, hTupOf_t, gSeqS_def, gSet_def, gRet_def, gIfS_def, gNext_def, gTup_def, gLst_def, List.getElem?_cons_zero, List.getElem?_cons_succ, List.set_cons_zero, List.set_cons_succ, List.length_cons, List.length_nil, Nat.zero_add, Nat.reduceAdd, Nat.reduceLeDiff, Nat.reduceSub, Nat.reduceMul, if_true, if_false, Bool.false_eq_true, List.replicate_succ, List.replicate_zero, List.cons_append, List.nil_append, tgN, tgT, tgCons, tgNil, Int.reducePow, Int.reduceAdd, Int.reduceSub, Int.reduceMul, decide_true, decide_false, Bool.not_true, Bool.not_false, gChain_def, hIsa_int, hIsa_intb, hIsa_list, hIsa_tuple, gDrop_def, gCallN_def, gAsg_def, gSl_def, gNoPart_def, gPart_def, hSl_from', hSl_to', hrows]
    rfl
  apply seq_step
  · simp (disch := first | omega | with_unfolding_all rfl | assumption | decide | (simp only [List.length_cons, List.length_nil]; omega)) only [bnd_ok, gVar_def, gC_def, gOp_def, gUn_def, gNil_def, gCons_def, gIf_def, gTest_def, gNot_def, gAnd_def, gOr_def, gAndV_def, gOrV_def, gNotV_def, gCB_def, asB_b, hAdd_i, hSub_i, hLt_i, hLe_i, hGt_i, hGe_i, hMul_r, hMul_l, hMod_i, hDiv_s, hBand_i, hShr_i, hPow_10_18, hPow_10_27, hPow_10_28, hPow_10_29, hPow_10_30, hEq_i, hNe_i, hLen_l, hLen_t, hMin2_i, hMax2_i, hMin3_i, hInt1_b, hInt1_i, hBits_i, hListOf_l, hListOf_t, hTupOf_l, hTupOf_t, gSeqS_def, gSet_def, gRet_def, gIfS_def, gNext_def, gTup_def, gLst_def, List.getElem?_cons_zero, List.getElem?_cons_succ, List.set_cons_zero, List.set_cons_succ, List.length_cons, List.length_nil, Nat.zero_add, Nat.reduceAdd, Nat.reduceLeDiff, Nat.reduceSub, Nat.reduceMul, if_true, if_false, Bool.false_eq_true, List.replicate_succ, List.replicate_zero, List.cons_append, List.nil_append, tgN, tgT, tgCons, tgNil, Int.reducePow, Int.reduceAdd, Int.reduceSub, Int.reduceMul, decide_true, decide_false, Bool.not_true, Bool.not_false, gChain_def, hIsa_int, hIsa_intb, hIsa_list, hIsa_tuple, gDrop_def, gCallN_def, gAsg_def, gSl_def, gNoPart_def, gPart_def, hSl_from', hSl_to', Nat.zero_le]
    rfl
  obtain ⟨ρ', hf, rows, x4, x6, x7, x8, rfl, hR⟩ := forE_ix enc3 (h := tgT (tgCons (tgN 6) (tgCons (tgN 7) (tgCons (tgN 8) (tgNil))))) (b := g_layered_L1) r.reverse
    (fun i ρ => ∃ rows x4 x6 x7 x8, ρ = [.int n, .list (r.map enc3), .int (k : Nat), .list (rows.map encI), x4, .list ((lay k (r.reverse.take i).reverse).reverse.map .int), x6, x7, x8] ∧ RowsOk n k rows (r.reverse.take i).reverse)
    (ρ := [.int n, .list (r.map enc3), .int (k : Nat), .list ((List.replicate k (pl n)).map encI), .none, .list [], .none, .none, .none]) ⟨_, _, _, _, _, rfl, RowsOk.zero⟩ (by
      rintro i ρ hi ⟨rows, x4, x6, x7, x8, rfl, hR⟩
      have ht := hr r.reverse[i] (List.mem_reverse.mp (List.getElem_mem hi))
      have es : (r.reverse.take (i + 1)).reverse = r.reverse[i] :: (r.reverse.take i).reverse := by
        rw [List.take_add_one, List.getElem?_eq_getElem hi, List.reverse_append]
        rfl
      rw [es, lay_cons]
      generalize hs : (r.reverse.take i).reverse = s at *
      have ls : s.length = i := by rw [← hs, List.length_reverse, List.length_take]; omega
      generalize r.reverse[i] = t at *
      obtain ⟨⟨a0, a1⟩, b0, b1⟩ := ht
      have hm : ∀ ms ∈ rows, ms.length = n.toNat := fun ms h => by
        obtain ⟨j, hj, e⟩ := List.getElem_of_mem h
        rw [← e]
        exact (hR.mkr j hj).len
      have e4 := layer_for_ok (rows := rows) a0 (by omega : t.2.1.toNat < n.toNat) b0 (by omega : t.2.2.toNat < n.toNat) hm
      have e5 := hR.num a0 a1 b0 b1
      rw [e5] at e4
      obtain ⟨c0, c1⟩ := num_range k s (lay k s) t.2.1 t.2.2
      have lrev : ((lay k s).reverse.map PyData.int).length < 100000 := by
        rw [List.length_map, List.length_reverse, lay_len]
        rw [List.length_reverse] at hi
        omega
      have eapp : ∀ x : Int, (lay k s).reverse.map PyData.int ++ [.int x] = (x :: lay k s).reverse.map PyData.int := fun x => by rw [List.reverse_cons, List.map_append]; rfl
      have etg : tgT (tgCons (tgN 6) (tgCons (tgN 7) (tgCons (tgN 8) (tgNil)))) (enc3 t) [.int n, .list (r.map enc3), .int (k : Nat), .list (rows.map encI), x4, .list ((lay k s).reverse.map .int), x6, x7, x8] = .ok [.int n, .list (r.map enc3), .int (k : Nat), .list (rows.map encI), x4, .list ((lay k s).reverse.map .int), .int t.1, .int t.2.1, .int t.2.2] := rfl
      by_cases c : num k s (lay k s) t.2.1 t.2.2 = 0
      · refine ⟨_, _, etg, .inl ?_, rows, .int 0, .int t.1, .int t.2.1, .int t.2.2, rfl, hR.stay c⟩
        unfold g_layered_L1
        rw [c] at e4 ⊢
        apply seq_step
        · simp (disch := first | omega | with_unfolding_all rfl | assumption | decide | (simp only [List.length_cons, List.length_nil]; omega)) only [bnd_ok, gVar_def, gC_def, gOp_def, gUn_def, gNil_def, gCons_def, gIf_def, gTest_def, gNot_def, gAnd_def, gOr_def, gAndV_def, gOrV_def, gNotV_def, gCB_def, asB_b, hAdd_i, hSub_i, hLt_i, hLe_i, hGt_i, hGe_i, hMul_r, hMul_l, hMod_i, hDiv_s, hBand_i, hShr_i, hPow_10_18, hPow_10_27, hPow_10_28, hPow_10_29, hPow_10_30, hEq_i, hNe_i, hLen_l, hLen_t, hMin2_i, hMax2_i, hMin3_i, hInt1_b, hInt1_i, hBits_i, hListOf_l, hListOf_t, hTupOf_l, hTupOf_t, gSeqS_def, gSet_def, gRet_def, gIfS_def, gNext_def, gTup_def, gLst_def, List.getElem?_cons_zero, List.getElem?_cons_succ, List.set_cons_zero, List.set_cons_succ, List.length_cons, List.length_nil, Nat.zero_add, Nat.reduceAdd, Nat.reduceLeDiff, Nat.reduceSub, Nat.reduceMul, if_true, if_false, Bool.false_eq_true, List.replicate_succ, List.replicate_zero, List.cons_append, List.nil_append, tgN, tgT, tgCons, tgNil, Int.reducePow, Int.reduceAdd, Int.reduceSub, Int.reduceMul, decide_true, decide_false, Bool.not_true, Bool.not_false, gChain_def, hIsa_int, hIsa_intb, hIsa_list, hIsa_tuple, gDrop_def, gCallN_def, gAsg_def, gSl_def, gNoPart_def, gPart_def, hSl_from', hSl_to', e4]
          rfl
        apply seq_step
        · simp (disch := first | omega | with_unfolding_all rfl | assumption | decide | (simp only [List.length_cons, List.length_nil]; omega)) only [bnd_ok, gVar_def, gC_def, gOp_def, gUn_def, gNil_def, gCons_def, gIf_def, gTest_def, gNot_def, gAnd_def, gOr_def, gAndV_def, gOrV_def, gNotV_def, gCB_def, asB_b, hAdd_i, hSub_i, hLt_i, hLe_i, hGt_i, hGe_i, hMul_r, hMul_l, hMod_i, hDiv_s, hBand_i, hShr_i, hPow_10_18, hPow_10_27, hPow_10_28, hPow_10_29, hPow_10_30, hEq_i, hNe_i, hLen_l, hLen_t, hMin2_i, hMax2_i, hMin3_i, hInt1_b, hInt1_i, hBits_i, hListOf_l, hListOf_t, hTupOf_l, hTupOf_t, gSeqS_def, gSet_def, gRet_def, gIfS_def, gNext_def, gTup_def, gLst_def, List.getElem?_cons_zero, List.getElem?_cons_succ, List.set_cons_zero, List.set_cons_succ, List.length_cons, List.length_nil, Nat.zero_add, Nat.reduceAdd, Nat.reduceLeDiff, Nat.reduceSub, Nat.reduceMul, if_true, if_false, Bool.false_eq_true, List.replicate_succ, List.replicate_zero, List.cons_append, List.nil_append, tgN, tgT, tgCons, tgNil, Int.reducePow, Int.reduceAdd, Int.reduceSub, Int.reduceMul, decide_true, decide_false, Bool.not_true, Bool.not_false, gChain_def, hIsa_int, hIsa_intb, hIsa_list, hIsa_tuple, gDrop_def, gCallN_def, gAsg_def, gSl_def, gNoPart_def, gPart_def, hSl_from', hSl_to', Int.lt_irrefl]
          rfl
        rw [gApp_l rfl rfl lrev, eapp]
        rfl
      · obtain ⟨j, ej⟩ : ∃ j : Nat, num k s (lay k s) t.2.1 t.2.2 = (j : Int) + 1 := ⟨(num k s (lay k s) t.2.1 t.2.2 - 1).toNat, by omega⟩
        have hj : j < rows.length := by rw [hR.len]; omega
        have lj := (hR.mkr j hj).len
        obtain ⟨x, y, hj1, hj2⟩ := joined_ok (ms := rows[j]) a0 (by omega : t.2.1.toNat < rows[j].length) b0 (by omega) (by omega)
        refine ⟨_, _, etg, .inl ?_, _, .int ((j : Int) + 1), .int t.1, .int t.2.1, .int t.2.2, rfl, hR.put a0 a1 b0 b1 hj ej hj2⟩
        unfold g_layered_L1
        rw [ej] at e4 ⊢
        have p1 : (0 : Int) < (j : Int) + 1 := by omega
        have es : (j : Int) + 1 - 1 = (j : Int) := by omega
        have eix : hIx (.list (rows.map encI)) (.int (j : Int)) = .ok (encI rows[j]) := hIx_l (by rw [atI_map _ (by omega) (by omega)]; rfl)
        apply seq_step
        · simp (disch := first | omega | with_unfolding_all rfl | assumption | decide | (simp only [List.length_cons, List.length_nil]; omega)) only [bnd_ok, gVar_def, gC_def, gOp_def, gUn_def, gNil_def, gCons_def, gIf_def, gTest_def, gNot_def, gAnd_def, gOr_def, gAndV_def, gOrV_def, gNotV_def, gCB_def, asB_b, hAdd_i, hSub_i, hLt_i, hLe_i, hGt_i, hGe_i, hMul_r, hMul_l, hMod_i, hDiv_s, hBand_i, hShr_i, hPow_10_18, hPow_10_27, hPow_10_28, hPow_10_29, hPow_10_30, hEq_i, hNe_i, hLen_l, hLen_t, hMin2_i, hMax2_i, hMin3_i, hInt1_b, hInt1_i, hBits_i, hListOf_l, hListOf_t, hTupOf_l, hTupOf_t, gSeqS_def, gSet_def, gRet_def, gIfS_def, gNext_def, gTup_def, gLst_def, List.getElem?_cons_zero, List.getElem?_cons_succ, List.set_cons_zero, List.set_cons_succ, List.length_cons, List.length_nil, Nat.zero_add, Nat.reduceAdd, Nat.reduceLeDiff, Nat.reduceSub, Nat.reduceMul, if_true, if_false, Bool.false_eq_true, List.replicate_succ, List.replicate_zero, List.cons_append, List.nil_append, tgN, tgT, tgCons, tgNil, Int.reducePow, Int.reduceAdd, Int.reduceSub, Int.reduceMul, decide_true, decide_false, Bool.not_true, Bool.not_false, gChain_def, hIsa_int, hIsa_intb, hIsa_list, hIsa_tuple, gDrop_def, gCallN_def, gAsg_def, gSl_def, gNoPart_def, gPart_def, hSl_from', hSl_to', e4]
          rfl
        apply seq_step
        · rw [if_t (by simp only [bnd_ok, gVar_def, gC_def, gOp_def, gUn_def, gNil_def, gCons_def, gIf_def, gTest_def, gNot_def, gAnd_def, gOr_def, gAndV_def, gOrV_def, gNotV_def, gCB_def, asB_b, hAdd_i, hSub_i, hLt_i, hLe_i, hGt_i, hGe_i, hMul_r, hMul_l, hMod_i, hDiv_s, hBand_i, hShr_i, hPow_10_18, hPow_10_27, hPow_10_28, hPow_10_29, hPow_10_30, hEq_i, hNe_i, hLen_l, hLen_t, hMin2_i, hMax2_i, hMin3_i, hInt1_b, hInt1_i, hBits_i, hListOf_l, hListOf_t, hTupOf_l, hTupOf_t, gSeqS_def, gSet_def, gRet_def, gIfS_def, gNext_def, gTup_def, gLst_def, List.getElem?_cons_zero, List.getElem?_cons_succ, List.set_cons_zero, List.set_cons_succ, List.length_cons, List.length_nil, Nat.zero_add, Nat.reduceAdd, Nat.reduceLeDiff, Nat.reduceSub, Nat.reduceMul, if_true, if_false, Bool.false_eq_true, List.replicate_succ, List.replicate_zero, List.cons_append, List.nil_append, tgN, tgT, tgCons, tgNil, Int.reducePow, Int.reduceAdd, Int.reduceSub, Int.reduceMul, decide_true, decide_false, Bool.not_true, Bool.not_false, gChain_def, hIsa_int, hIsa_intb, hIsa_list, hIsa_tuple, gDrop_def, p1])]
          refine setI_ok (ds := rows.map encI) (d := encI (rows[j].map fun m => if m = x then y else m)) (j := (j : Int)) ?_ rfl ?_ (by omega) (by rw [List.length_map]; omega)
          · simp only [bnd_ok, gVar_def, gC_def, gOp_def, gUn_def, gNil_def, gCons_def, gIf_def, gTest_def, gNot_def, gAnd_def, gOr_def, gAndV_def, gOrV_def, gNotV_def, gCB_def, asB_b, hAdd_i, hSub_i, hLt_i, hLe_i, hGt_i, hGe_i, hMul_r, hMul_l, hMod_i, hDiv_s, hBand_i, hShr_i, hPow_10_18, hPow_10_27, hPow_10_28, hPow_10_29, hPow_10_30, hEq_i, hNe_i, hLen_l, hLen_t, hMin2_i, hMax2_i, hMin3_i, hInt1_b, hInt1_i, hBits_i, hListOf_l, hListOf_t, hTupOf_l, hTupOf_t, gSeqS_def, gSet_def, gRet_def, gIfS_def, gNext_def, gTup_def, gLst_def, List.getElem?_cons_zero, List.getElem?_cons_succ, List.set_cons_zero, List.set_cons_succ, List.length_cons, List.length_nil, Nat.zero_add, Nat.reduceAdd, Nat.reduceLeDiff, Nat.reduceSub, Nat.reduceMul, if_true, if_false, Bool.false_eq_true, List.replicate_succ, List.replicate_zero, List.cons_append, List.nil_append, tgN, tgT, tgCons, tgNil, Int.reducePow, Int.reduceAdd, Int.reduceSub, Int.reduceMul, decide_true, decide_false, Bool.not_true, Bool.not_false, gChain_def, hIsa_int, hIsa_intb, hIsa_list, hIsa_tuple, gDrop_def, gCallN_def, gAsg_def, gSl_def, gNoPart_def, gPart_def, hSl_from', hSl_to', es, eix, hj1]
          · simp only [bnd_ok, gVar_def, gC_def, gOp_def, gUn_def, gNil_def, gCons_def, gIf_def, gTest_def, gNot_def, gAnd_def, gOr_def, gAndV_def, gOrV_def, gNotV_def, gCB_def, asB_b, hAdd_i, hSub_i, hLt_i, hLe_i, hGt_i, hGe_i, hMul_r, hMul_l, hMod_i, hDiv_s, hBand_i, hShr_i, hPow_10_18, hPow_10_27, hPow_10_28, hPow_10_29, hPow_10_30, hEq_i, hNe_i, hLen_l, hLen_t, hMin2_i, hMax2_i, hMin3_i, hInt1_b, hInt1_i, hBits_i, hListOf_l, hListOf_t, hTupOf_l, hTupOf_t, gSeqS_def, gSet_def, gRet_def, gIfS_def, gNext_def, gTup_def, gLst_def, List.getElem?_cons_zero, List.getElem?_cons_succ, List.set_cons_zero, List.set_cons_succ, List.length_cons, List.length_nil, Nat.zero_add, Nat.reduceAdd, Nat.reduceLeDiff, Nat.reduceSub, Nat.reduceMul, if_true, if_false, Bool.false_eq_true, List.replicate_succ, List.replicate_zero, List.cons_append, List.nil_append, tgN, tgT, tgCons, tgNil, Int.reducePow, Int.reduceAdd, Int.reduceSub, Int.reduceMul, decide_true, decide_false, Bool.not_true, Bool.not_false, gChain_def, hIsa_int, hIsa_intb, hIsa_list, hIsa_tuple, gDrop_def, es]
        · rw [Int.toNat_natCast, set_map_enc]
          simp only [bnd_ok, gVar_def, gC_def, gOp_def, gUn_def, gNil_def, gCons_def, gIf_def, gTest_def, gNot_def, gAnd_def, gOr_def, gAndV_def, gOrV_def, gNotV_def, gCB_def, asB_b, hAdd_i, hSub_i, hLt_i, hLe_i, hGt_i, hGe_i, hMul_r, hMul_l, hMod_i, hDiv_s, hBand_i, hShr_i, hPow_10_18, hPow_10_27, hPow_10_28, hPow_10_29, hPow_10_30, hEq_i, hNe_i, hLen_l, hLen_t, hMin2_i, hMax2_i, hMin3_i, hInt1_b, hInt1_i, hBits_i, hListOf_l, hListOf_t, hTupOf_l, hTupOf_t, gSeqS_def, gSet_def, gRet_def, gIfS_def, gNext_def, gTup_def, gLst_def, List.getElem?_cons_zero, List.getElem?_cons_succ, List.set_cons_zero, List.set_cons_succ, List.length_cons, List.length_nil, Nat.zero_add, Nat.reduceAdd, Nat.reduceLeDiff, Nat.reduceSub, Nat.reduceMul, if_true, if_false, Bool.false_eq_true, List.replicate_succ, List.replicate_zero, List.cons_append, List.nil_append, tgN, tgT, tgCons, tgNil, Int.reducePow, Int.reduceAdd, Int.reduceSub, Int.reduceMul, decide_true, decide_false, Bool.not_true, Bool.not_false, gChain_def, hIsa_int, hIsa_intb, hIsa_list, hIsa_tuple, gDrop_def]
          rw [gApp_l rfl rfl lrev, eapp]
          rfl)
  refine seq_step (for_ok (ds := r.reverse.map enc3) ?_ hf) ?_
  · refine (rev_ok (es := r.map enc3) (by rfl)).trans ?_
    rw [List.map_reverse]
  · rw [List.take_length, List.reverse_reverse] 
    refine ret_ok ?_
    refine (lsI_ok (rev_ok (es := (lay k r).reverse.map .int) (by rfl)) (by rw [List.length_reverse, List.length_map, List.length_reverse, lay_len]; omega)).trans ?_
    rw [← List.map_reverse, List.reverse_reverse]
theorem depth_ok {x : Int} (h0 : 0 ≤ x) : ∃ k : Nat, f_l_depth [.int x] = .ok (.int (k : Nat)) ∧ 1 ≤ k ∧ k ≤ 6 := by
  have h : f_l_depth [.int x] = .ok (.int (if x % 8 = 1 then 1 + x / 32 % 6 else 1 + x % 4)) := by
    refine fnN_rt ?_
    show g_l_depth [.int x] = _
    unfold g_l_depth
    by_cases c : x % 8 = 1
    · have e : (x % 8 == 1) = true := by simp [c]
      have e2 : hIx (.list [.int (1 + x % 4), .int (1 + x / 32 % 6)]) (.int 1) = .ok (.int (1 + x / 32 % 6)) := rfl
      rw [if_pos c]
      simp (disch := first | omega | decide) only [bnd_ok, gVar_def, gC_def, gOp_def, gUn_def, gNil_def, gCons_def, gIf_def, gTest_def, gNot_def, gAnd_def, gOr_def, gAndV_def, gOrV_def, gNotV_def, gCB_def, asB_b, hAdd_i, hSub_i, hLt_i, hLe_i, hGt_i, hGe_i, hMul_r, hMul_l, hMod_i, hDiv_s, hBand_i, hShr_i, hPow_10_18, hPow_10_27, hPow_10_28, hPow_10_29, hPow_10_30, hEq_i, hNe_i, hLen_l, hLen_t, hMin2_i, hMax2_i, hMin3_i, hInt1_b, hInt1_i, hBits_i, hListOf_l, hListOf_t, hTupOf_l, hTupOf_t, gSeqS_def, gSet_def, gRet_def, gIfS_def, gNext_def, gTup_def, gLst_def, List.getElem?_cons_zero, List.getElem?_cons_succ, List.set_cons_zero, List.set_cons_succ, List.length_cons, List.length_nil, Nat.zero_add, Nat.reduceAdd, Nat.reduceLeDiff, Nat.reduceSub, Nat.reduceMul, if_true, if_false, Bool.false_eq_true, List.replicate_succ, List.replicate_zero, List.cons_append, List.nil_append, tgN, tgT, tgCons, tgNil, Int.reducePow, Int.reduceAdd, Int.reduceSub, Int.reduceMul, decide_true, decide_false, Bool.not_true, Bool.not_false, gChain_def, hIsa_int, hIsa_intb, hIsa_list, hIsa_tuple, gDrop_def, e, e2]
    · have e : (x % 8 == 1) = false := by simp [c]
      have e2 : hIx (.list [.int (1 + x % 4), .int (1 + x / 32 % 6)]) (.int 0) = .ok (.int (1 + x % 4)) := rfl
      rw [if_neg c]
      simp (disch := first | omega | decide) only [bnd_ok, gVar_def, gC_def, gOp_def, gUn_def, gNil_def, gCons_def, gIf_def, gTest_def, gNot_def, gAnd_def, gOr_def, gAndV_def, gOrV_def, gNotV_def, gCB_def, asB_b, hAdd_i, hSub_i, hLt_i, hLe_i, hGt_i, hGe_i, hMul_r, hMul_l, hMod_i, hDiv_s, hBand_i, hShr_i, hPow_10_18, hPow_10_27, hPow_10_28, hPow_10_29, hPow_10_30, hEq_i, hNe_i, hLen_l, hLen_t, hMin2_i, hMax2_i, hMin3_i, hInt1_b, hInt1_i, hBits_i, hListOf_l, hListOf_t, hTupOf_l, hTupOf_t, gSeqS_def, gSet_def, gRet_def, gIfS_def, gNext_def, gTup_def, gLst_def, List.getElem?_cons_zero, List.getElem?_cons_succ, List.set_cons_zero, List.set_cons_succ, List.length_cons, List.length_nil, Nat.zero_add, Nat.reduceAdd, Nat.reduceLeDiff, Nat.reduceSub, Nat.reduceMul, if_true, if_false, Bool.false_eq_true, List.replicate_succ, List.replicate_zero, List.cons_append, List.nil_append, tgN, tgT, tgCons, tgNil, Int.reducePow, Int.reduceAdd, Int.reduceSub, Int.reduceMul, decide_true, decide_false, Bool.not_true, Bool.not_false, gChain_def, hIsa_int, hIsa_intb, hIsa_list, hIsa_tuple, gDrop_def, e, e2]
  refine ⟨(if x % 8 = 1 then 1 + x / 32 % 6 else 1 + x % 4).toNat, ?_, ?_, ?_⟩
  · rw [h]
    congr 2
    split <;> omega
  · split <;> omega
  · split <;> omega
end FamL
end T_FamLP
section T_K10M
set_option linter.all false
set_option maxRecDepth 100000
namespace K10
open PySem Sim FamA FamL Lay
def kp (r : List T3) (ns : List Int) : List T3 := ((r.zip ns).filter fun q => decide (0 < q.2)).map (·.1)
theorem kp_cons (t : T3) (s : List T3) (x : Int) (ns : List Int) : kp (t :: s) (x :: ns) = if 0 < x then t :: kp s ns else kp s ns := by
  unfold kp
  rw [List.zip_cons_cons, List.filter_cons]
  by_cases c : 0 < x
  · simp [c]
  · simp [c]
theorem cut {P : Int → Int} {ts : List T3} {a b : Int} (h : Conn ts a b) (hab : P a ≠ P b) : ∃ w ∈ ts, P w.2.1 ≠ P w.2.2 := by
  induction h with
  | refl => exact absurd rfl hab
  | step h e ih =>
    rename_i u v
    by_cases c : P a = P u
    · obtain ⟨w, hw, e⟩ := e
      refine ⟨w, hw, ?_⟩
      rw [c] at hab
      rcases e with ⟨e1, e2⟩ | ⟨e1, e2⟩
      · rw [e1, e2]; exact hab
      · rw [e1, e2]; exact fun z => hab z.symm
    · exact ih c
def ovP (P : Int → Int) (t : Int) (w : T3) : Bool := decide (t ≤ w.1) && !(P w.2.1 == P w.2.2)
def over (P : Int → Int) (t : Int) (ts : List T3) : List Int := (ts.filter (ovP P t)).map (·.1)
end K10
end T_K10M
section T_K12M
set_option linter.all false
set_option maxRecDepth 100000
namespace K12
open PySem Sim FamA FamL Lay
def Rot (f : Int → Int) : List T3 → List T3 → Prop
  | [], [] => True
  | t' :: s', t :: s => ((t'.2.1 = f t.2.1 ∧ t'.2.2 = f t.2.2) ∨ (t'.2.1 = f t.2.2 ∧ t'.2.2 = f t.2.1)) ∧ Rot f s' s
  | _, _ => False
theorem Rot.len {f : Int → Int} : ∀ {s' s : List T3}, Rot f s' s → s'.length = s.length
  | [], [], _ => rfl
  | _ :: _, _ :: _, h => by rw [List.length_cons, List.length_cons, Rot.len h.2]
  | [], _ :: _, h => h.elim
  | _ :: _, [], h => h.elim
theorem Rot.snoc {f : Int → Int} {t' t : T3} (ht : (t'.2.1 = f t.2.1 ∧ t'.2.2 = f t.2.2) ∨ (t'.2.1 = f t.2.2 ∧ t'.2.2 = f t.2.1)) : ∀ {s' s : List T3}, Rot f s' s → Rot f (s' ++ [t']) (s ++ [t])
  | [], [], _ => ⟨ht, trivial⟩
  | _ :: _, _ :: _, h => ⟨h.1, Rot.snoc ht h.2⟩
  | [], _ :: _, h => h.elim
  | _ :: _, [], h => h.elim
theorem Rot.layer {f : Int → Int} (j : Int) : ∀ {s' s : List T3} (ns : List Int), Rot f s' s → Rot f (layer j s' ns) (Lay.layer j s ns)
  | [], [], _, _ => trivial
  | _ :: _, _ :: _, [], _ => trivial
  | t' :: s', t :: s, x :: ns, h => by
    rw [layer_cons, layer_cons]
    have ih := Rot.layer j ns h.2
    split
    · exact ⟨h.1, ih⟩
    · exact ih
  | [], _ :: _, _, h => h.elim
  | _ :: _, [], _, h => h.elim
end K12
end T_K12M
section T_K24M
set_option linter.all false
set_option maxRecDepth 100000
namespace K24
open PySem Sim FamA FamL Lay
noncomputable def KP (k : Nat) (r : List T3) : List T3 := K10.kp r (lay k r)
def pm (ms : List Int) : Nat → Bool := fun i => decide (0 < ms.getD i 0)
theorem kp_sub : ∀ (r : List T3) (ns : List Int), (K10.kp r ns).Sublist r
  | [], ns => by unfold K10.kp; simp
  | t :: r, [] => by unfold K10.kp; simp
  | t :: r, n :: ns => by
    rw [K10.kp_cons]
    split
    · exact (kp_sub r ns).cons₂ t
    · exact (kp_sub r ns).cons t
end K24
end T_K24M
section T_K57N
set_option linter.all false
set_option maxRecDepth 100000
set_option maxHeartbeats 4000000
namespace K57
open PySem Sim FamA FamL Lay K24
theorem whole_int (z : Int) : f_is_whole [.int z] = .ok (.bool true) := rfl
theorem place_ok (n z : Int) : f_is_place [.int n, .int z] = .ok (.bool (decide (0 ≤ z) && decide (z < n))) := by
  refine fnN_rt ?_
  show g_is_place [.int n, .int z] = _
  unfold g_is_place
  have e : gCallN 1 f_is_whole (gCons (gVar 1) (gNil)) [.int n, .int z] = .ok (.bool true) := callN_ok (ds := [.int z]) rfl rfl (whole_int z)
  simp only [bnd_ok, gVar_def, gC_def, gOp_def, gUn_def, gNil_def, gCons_def, gIf_def, gTest_def, gNot_def, gAnd_def, gOr_def, gAndV_def, gOrV_def, gNotV_def, gCB_def, asB_b, hAdd_i, hSub_i, hLt_i, hLe_i, hGt_i, hGe_i, hMul_r, hMul_l, hMod_i, hDiv_s, hBand_i, hShr_i, hPow_10_18, hPow_10_27, hPow_10_28, hPow_10_29, hPow_10_30, hEq_i, hNe_i, hLen_l, hLen_t, hMin2_i, hMax2_i, hMin3_i, hInt1_b, hInt1_i, hBits_i, hListOf_l, hListOf_t, hTupOf_l, hTupOf_t, gSeqS_def, gSet_def, gRet_def, gIfS_def, gNext_def, gTup_def, gLst_def, List.getElem?_cons_zero, List.getElem?_cons_succ, List.set_cons_zero, List.set_cons_succ, List.length_cons, List.length_nil, Nat.zero_add, Nat.reduceAdd, Nat.reduceLeDiff, Nat.reduceSub, Nat.reduceMul, if_true, if_false, Bool.false_eq_true, List.replicate_succ, List.replicate_zero, List.cons_append, List.nil_append, tgN, tgT, tgCons, tgNil, Int.reducePow, Int.reduceAdd, Int.reduceSub, Int.reduceMul, decide_true, decide_false, Bool.not_true, Bool.not_false, gChain_def, hIsa_int, hIsa_intb, hIsa_list, hIsa_tuple, gDrop_def, e]
  cases decide (0 ≤ z) <;> rfl
theorem moment_int (z : Int) : f_is_moment [.int z] = .ok (.bool (decide (0 ≤ z) && decide (z ≤ 1000000000000000000000000000000))) := by
  refine fnN_rt ?_
  show g_is_moment [.int z] = _
  unfold g_is_moment
  have e : gCallN 1 f_is_whole (gCons (gVar 0) (gNil)) [.int z] = .ok (.bool true) := callN_ok (ds := [.int z]) rfl rfl (whole_int z)
  simp only [bnd_ok, gVar_def, gC_def, gOp_def, gUn_def, gNil_def, gCons_def, gIf_def, gTest_def, gNot_def, gAnd_def, gOr_def, gAndV_def, gOrV_def, gNotV_def, gCB_def, asB_b, hAdd_i, hSub_i, hLt_i, hLe_i, hGt_i, hGe_i, hMul_r, hMul_l, hMod_i, hDiv_s, hBand_i, hShr_i, hPow_10_18, hPow_10_27, hPow_10_28, hPow_10_29, hPow_10_30, hEq_i, hNe_i, hLen_l, hLen_t, hMin2_i, hMax2_i, hMin3_i, hInt1_b, hInt1_i, hBits_i, hListOf_l, hListOf_t, hTupOf_l, hTupOf_t, gSeqS_def, gSet_def, gRet_def, gIfS_def, gNext_def, gTup_def, gLst_def, List.getElem?_cons_zero, List.getElem?_cons_succ, List.set_cons_zero, List.set_cons_succ, List.length_cons, List.length_nil, Nat.zero_add, Nat.reduceAdd, Nat.reduceLeDiff, Nat.reduceSub, Nat.reduceMul, if_true, if_false, Bool.false_eq_true, List.replicate_succ, List.replicate_zero, List.cons_append, List.nil_append, tgN, tgT, tgCons, tgNil, Int.reducePow, Int.reduceAdd, Int.reduceSub, Int.reduceMul, decide_true, decide_false, Bool.not_true, Bool.not_false, gChain_def, hIsa_int, hIsa_intb, hIsa_list, hIsa_tuple, gDrop_def, e]
  cases decide (0 ≤ z) <;> rfl
def tieB (n a b c : Int) : Bool := (decide (0 ≤ a) && decide (a ≤ 1000000000000000000000000000000)) && ((decide (0 ≤ b) && decide (b < n)) && (decide (0 ≤ c) && decide (c < n))) && decide (b ≤ c)
theorem meeting_int (n a b c : Int) : f_is_meeting [.int n, .tuple [.int a, .int b, .int c]] = .ok (.bool ((decide (0 ≤ a) && decide (a ≤ 1000000000000000000000000000000)) && ((decide (0 ≤ b) && decide (b < n)) && (decide (0 ≤ c) && decide (c < n))))) := by
  refine fnN_rt ?_
  show g_is_meeting [.int n, .tuple [.int a, .int b, .int c]] = _
  unfold g_is_meeting
  have e0 : gCallN 1 f_is_moment (gCons (gOp hIx (gVar 1) (gC (.int (0)))) (gNil)) [.int n, .tuple [.int a, .int b, .int c]] = _ := callN_ok (ds := [.int a]) rfl rfl (moment_int a)
  have e1 : gCallN 2 f_is_place (gCons (gVar 0) (gCons (gOp hIx (gVar 1) (gC (.int (1)))) (gNil))) [.int n, .tuple [.int a, .int b, .int c]] = _ := callN_ok (ds := [.int n, .int b]) rfl rfl (place_ok n b)
  have e2 : gCallN 2 f_is_place (gCons (gVar 0) (gCons (gOp hIx (gVar 1) (gC (.int (2)))) (gNil))) [.int n, .tuple [.int a, .int b, .int c]] = _ := callN_ok (ds := [.int n, .int c]) rfl rfl (place_ok n c)
  have e3 : gTest (gUn (hIsa .tuple) (gVar 1)) [.int n, .tuple [.int a, .int b, .int c]] = .ok true := rfl
  have e4 : gTest (gOp hNe (gCB hLen (gCons (gVar 1) (gNil))) (gC (.int (3)))) [.int n, .tuple [.int a, .int b, .int c]] = .ok false := by
    rw [gTest_def, gOp_def]
    show bnd (hNe (.int 3) (.int 3)) asB = _
    rw [hNe_i]
    rfl
  cases hm : (decide (0 ≤ a) && decide (a ≤ 1000000000000000000000000000000)) with
  | false =>
    rw [hm] at e0
    refine seq_rt (Eq.trans (if_t ?_) rfl)
    simp only [gOr_def, gNot_def, e3, e4, gTest_def, e0, bnd_ok, asB_b, Bool.not_true, Bool.not_false, Bool.false_eq_true, if_false, if_true]
  | true =>
    rw [hm] at e0
    refine seq_step (Eq.trans (if_f ?_) rfl) ?_
    · simp only [gOr_def, gNot_def, e3, e4, gTest_def, e0, bnd_ok, asB_b, Bool.not_true, Bool.not_false, Bool.false_eq_true, if_false, if_true]
    · refine ret_ok ?_
      rw [gAndV_def, e1, bnd_ok, asB_b, bnd_ok, e2]
      cases (decide (0 ≤ b) && decide (b < n)) <;> rfl
theorem tie_int (n a b c : Int) : f_is_tie [.int n, .tuple [.int a, .int b, .int c]] = .ok (.bool (tieB n a b c)) := by
  refine fnN_rt ?_
  show g_is_tie [.int n, .tuple [.int a, .int b, .int c]] = _
  unfold g_is_tie
  have e0 : gCallN 2 f_is_meeting (gCons (gVar 0) (gCons (gVar 1) (gNil))) [.int n, .tuple [.int a, .int b, .int c]] = _ := callN_ok (ds := [.int n, .tuple [.int a, .int b, .int c]]) rfl rfl (meeting_int n a b c)
  have e1 : gOp hLe (gOp hIx (gVar 1) (gC (.int (1)))) (gOp hIx (gVar 1) (gC (.int (2)))) [.int n, .tuple [.int a, .int b, .int c]] = .ok (.bool (decide (b ≤ c))) := rfl
  refine ret_ok ?_
  rw [gAndV_def, e0, bnd_ok, asB_b, bnd_ok, e1]
  unfold tieB
  cases (decide (0 ≤ a) && decide (a ≤ 1000000000000000000000000000000)) && ((decide (0 ≤ b) && decide (b < n)) && (decide (0 ≤ c) && decide (c < n))) <;> rfl
theorem all_ties {n : Int} {ds : List Dt} {p : Dt → Bool} (x2 x3 : Dt) (hl : ds.length ≤ 1000) (h : ∀ d ∈ ds, f_is_tie [.int n, d] = .ok (.bool (p d))) :
    gLc (gSeq (gVar 1)) (tgN 2) (gYes) (gCallN 2 f_is_tie (gCons (gVar 0) (gCons (gVar 2) (gNil)))) [.int n, .list ds, x2, x3] = .ok (.list ((ds.map p).map .bool)) := by
  have hq := gLc_map (fun d : Dt => d) (fun _ => true) (fun d => PyData.bool (p d)) (gi := gSeq (gVar 1)) (h := tgN 2) (gt := gYes) (ge := gCallN 2 f_is_tie (gCons (gVar 0) (gCons (gVar 2) (gNil)))) (ρ := [.int n, .list ds, x2, x3]) (xs := ds) (by rw [List.map_id']; rfl) (by omega) fun d hd => ⟨_, rfl, rfl, fun _ => callN_ok (ds := [.int n, d]) rfl rfl (h d hd)⟩
  rw [hq, List.filter_eq_self.mpr (fun _ _ => rfl), List.map_map]
  rfl
def okT (n : Int) (t : T3) : Bool := tieB n t.1 t.2.1 t.2.2
theorem pairs_lc {n : Int} {r : List T3} (x2 x3 : Dt) (hl : r.length ≤ 1000) :
    gLc (gRng2 (gCons (gC (.int (1))) (gCons (gCB hLen (gCons (gVar 1) (gNil))) (gNil)))) (tgN 3) (gYes) (gOp hLt (gOp hIx (gOp hIx (gVar 1) (gOp hSub (gVar 3) (gC (.int (1))))) (gC (.int (0)))) (gOp hIx (gOp hIx (gVar 1) (gVar 3)) (gC (.int (0))))) [.int n, .list (r.map enc3), x2, x3]
      = .ok (.list (((List.range (r.length - 1)).map fun i => decide ((r.getD i (0, 0, 0)).1 < (r.getD (i + 1) (0, 0, 0)).1)).map .bool)) := by
  have at_r : ∀ {i : Nat}, i < r.length → hIx (.list (r.map enc3)) (.int (i : Nat)) = .ok (enc3 (r.getD i (0, 0, 0))) := fun {i} h => by
    refine hIx_l ?_
    have hlt : ((i : Nat) : Int) < (r.length : Int) := by omega
    rw [atI_map enc3 (by omega) hlt, List.getD_eq_getElem?_getD, List.getElem?_eq_getElem h]
    simp only [Int.toNat_natCast]
    rfl
  have ix0 : ∀ t : T3, hIx (enc3 t) (.int 0) = .ok (.int t.1) := fun _ => rfl
  have hq := gLc_map (fun (i : Nat) => PyData.int (1 + (i : Int))) (fun _ => true) (fun (i : Nat) => PyData.bool (decide ((r.getD i (0, 0, 0)).1 < (r.getD (i + 1) (0, 0, 0)).1))) (gi := gRng2 (gCons (gC (.int (1))) (gCons (gCB hLen (gCons (gVar 1) (gNil))) (gNil)))) (h := tgN 3) (gt := gYes)
    (ge := gOp hLt (gOp hIx (gOp hIx (gVar 1) (gOp hSub (gVar 3) (gC (.int (1))))) (gC (.int (0)))) (gOp hIx (gOp hIx (gVar 1) (gVar 3)) (gC (.int (0))))) (ρ := [.int n, .list (r.map enc3), x2, x3]) (xs := List.range (r.length - 1)) ?_ (by rw [List.length_range]; omega) fun i hi => ⟨_, rfl, rfl, fun _ => ?_⟩
  · rw [hq, List.filter_eq_self.mpr (fun _ _ => rfl), List.map_map]
    rfl
  · have e : gCons (gC (.int (1))) (gCons (gCB hLen (gCons (gVar 1) (gNil))) (gNil)) [.int n, .list (r.map enc3), x2, x3] = .ok [.int 1, .int (r.length : Nat)] := by
      simp only [bnd_ok, gVar_def, gC_def, gOp_def, gUn_def, gNil_def, gCons_def, gIf_def, gTest_def, gNot_def, gAnd_def, gOr_def, gAndV_def, gOrV_def, gNotV_def, gCB_def, asB_b, hAdd_i, hSub_i, hLt_i, hLe_i, hGt_i, hGe_i, hMul_r, hMul_l, hMod_i, hDiv_s, hBand_i, hShr_i, hPow_10_18, hPow_10_27, hPow_10_28, hPow_10_29, hPow_10_30, hEq_i, hNe_i, hLen_l, hLen_t, hMin2_i, hMax2_i, hMin3_i, hInt1_b, hInt1_i, hBits_i, hListOf_l, hListOf_t, hTupOf_l, hTupOf_t, gSeqS_def, gSet_def, gRet_def, gIfS_def, gNext_def, gTup_def, gLst_def, List.getElem?_cons_zero, List.getElem?_cons_succ, List.set_cons_zero, List.set_cons_succ, List.length_cons, List.length_nil, Nat.zero_add, Nat.reduceAdd, Nat.reduceLeDiff, Nat.reduceSub, Nat.reduceMul, if_true, if_false, Bool.false_eq_true, List.replicate_succ, List.replicate_zero, List.cons_append, List.nil_append, tgN, tgT, tgCons, tgNil, Int.reducePow, Int.reduceAdd, Int.reduceSub, Int.reduceMul, decide_true, decide_false, Bool.not_true, Bool.not_false, gChain_def, hIsa_int, hIsa_intb, hIsa_list, hIsa_tuple, gDrop_def, List.length_map]
    refine (rng2_ok (by exact e) (by omega) (by omega) (by omega) (by omega)).trans ?_
    unfold rangeD
    have e2 : ((r.length : Int) - 1).toNat = r.length - 1 := by omega
    rw [e2]
  · have hi := List.mem_range.mp hi
    have e1 : (1 + (i : Int)) - 1 = ((i : Nat) : Int) := by omega
    have e2 : (1 + (i : Int)) = ((i + 1 : Nat) : Int) := by omega
    have a1 := at_r (i := i) (by omega)
    have a2 := at_r (i := i + 1) (by omega)
    simp only [bnd_ok, gVar_def, gC_def, gOp_def, gUn_def, gNil_def, gCons_def, gIf_def, gTest_def, gNot_def, gAnd_def, gOr_def, gAndV_def, gOrV_def, gNotV_def, gCB_def, asB_b, hAdd_i, hSub_i, hLt_i, hLe_i, hGt_i, hGe_i, hMul_r, hMul_l, hMod_i, hDiv_s, hBand_i, hShr_i, hPow_10_18, hPow_10_27, hPow_10_28, hPow_10_29, hPow_10_30, hEq_i, hNe_i, hLen_l, hLen_t, hMin2_i, hMax2_i, hMin3_i, hInt1_b, hInt1_i, hBits_i, hListOf_l, hListOf_t, hTupOf_l, hTupOf_t, gSeqS_def, gSet_def, gRet_def, gIfS_def, gNext_def, gTup_def, gLst_def, List.getElem?_cons_zero, List.getElem?_cons_succ, List.set_cons_zero, List.set_cons_succ, List.length_cons, List.length_nil, Nat.zero_add, Nat.reduceAdd, Nat.reduceLeDiff, Nat.reduceSub, Nat.reduceMul, if_true, if_false, Bool.false_eq_true, List.replicate_succ, List.replicate_zero, List.cons_append, List.nil_append, tgN, tgT, tgCons, tgNil, Int.reducePow, Int.reduceAdd, Int.reduceSub, Int.reduceMul, decide_true, decide_false, Bool.not_true, Bool.not_false, gChain_def, hIsa_int, hIsa_intb, hIsa_list, hIsa_tuple, gDrop_def, e1, a1, ix0]
    rw [e2, a2, bnd_ok, ix0]
    rfl
def ordB (r : List T3) : Bool := ((List.range (r.length - 1)).map fun i => decide ((r.getD i (0, 0, 0)).1 < (r.getD (i + 1) (0, 0, 0)).1)).all id
theorem rec_enc {n : Int} {r : List T3} (hl : r.length ≤ 60) : f_is_record [.int n, .list (r.map enc3)] = .ok (.bool (r.all (okT n) && ordB r)) := by
  have hall := all_ties (n := n) (ds := r.map enc3) (p := fun d => match d with | .tuple [.int a, .int b, .int c] => tieB n a b c | _ => false) .none .none (by rw [List.length_map]; omega) (fun d hd => by
    obtain ⟨t, _, rfl⟩ := List.mem_map.mp hd
    exact tie_int n t.1 t.2.1 t.2.2)
  have e0 : ((r.map enc3).map fun d => match d with | .tuple [.int a, .int b, .int c] => tieB n a b c | _ => false) = r.map (okT n) := by rw [List.map_map]; rfl
  rw [e0] at hall
  have hb := hAll_b (r.map (okT n))
  have e1 : (r.map (okT n)).all id = r.all (okT n) := by rw [List.all_map]; rfl
  rw [e1] at hb
  refine fnN_rt ?_
  show g_is_record [.int n, .list (r.map enc3), .none, .none] = _
  unfold g_is_record
  have e : decide ((60 : Int) < (r.length : Int)) = false := by rw [decide_eq_false_iff_not]; omega
  refine seq_step (Eq.trans (if_f (by simp only [bnd_ok, gVar_def, gC_def, gOp_def, gUn_def, gNil_def, gCons_def, gIf_def, gTest_def, gNot_def, gAnd_def, gOr_def, gAndV_def, gOrV_def, gNotV_def, gCB_def, asB_b, hAdd_i, hSub_i, hLt_i, hLe_i, hGt_i, hGe_i, hMul_r, hMul_l, hMod_i, hDiv_s, hBand_i, hShr_i, hPow_10_18, hPow_10_27, hPow_10_28, hPow_10_29, hPow_10_30, hEq_i, hNe_i, hLen_l, hLen_t, hMin2_i, hMax2_i, hMin3_i, hInt1_b, hInt1_i, hBits_i, hListOf_l, hListOf_t, hTupOf_l, hTupOf_t, gSeqS_def, gSet_def, gRet_def, gIfS_def, gNext_def, gTup_def, gLst_def, List.getElem?_cons_zero, List.getElem?_cons_succ, List.set_cons_zero, List.set_cons_succ, List.length_cons, List.length_nil, Nat.zero_add, Nat.reduceAdd, Nat.reduceLeDiff, Nat.reduceSub, Nat.reduceMul, if_true, if_false, Bool.false_eq_true, List.replicate_succ, List.replicate_zero, List.cons_append, List.nil_append, tgN, tgT, tgCons, tgNil, Int.reducePow, Int.reduceAdd, Int.reduceSub, Int.reduceMul, decide_true, decide_false, Bool.not_true, Bool.not_false, gChain_def, hIsa_int, hIsa_intb, hIsa_list, hIsa_tuple, gDrop_def, List.length_map, e])) rfl) ?_
  cases hc : r.all (okT n) with
  | false =>
    rw [hc] at hb
    refine seq_rt (Eq.trans (if_t ?_) rfl)
    simp only [bnd_ok, gVar_def, gC_def, gOp_def, gUn_def, gNil_def, gCons_def, gIf_def, gTest_def, gNot_def, gAnd_def, gOr_def, gAndV_def, gOrV_def, gNotV_def, gCB_def, asB_b, hAdd_i, hSub_i, hLt_i, hLe_i, hGt_i, hGe_i, hMul_r, hMul_l, hMod_i, hDiv_s, hBand_i, hShr_i, hPow_10_18, hPow_10_27, hPow_10_28, hPow_10_29, hPow_10_30, hEq_i, hNe_i, hLen_l, hLen_t, hMin2_i, hMax2_i, hMin3_i, hInt1_b, hInt1_i, hBits_i, hListOf_l, hListOf_t, hTupOf_l, hTupOf_t, gSeqS_def, gSet_def, gRet_def, gIfS_def, gNext_def, gTup_def, gLst_def, List.getElem?_cons_zero, List.getElem?_cons_succ, List.set_cons_zero, List.set_cons_succ, List.length_cons, List.length_nil, Nat.zero_add, Nat.reduceAdd, Nat.reduceLeDiff, Nat.reduceSub, Nat.reduceMul, if_true, if_false, Bool.false_eq_true, List.replicate_succ, List.replicate_zero, List.cons_append, List.nil_append, tgN, tgT, tgCons, tgNil, Int.reducePow, Int.reduceAdd, Int.reduceSub, Int.reduceMul, decide_true, decide_false, Bool.not_true, Bool.not_false, gChain_def, hIsa_int, hIsa_intb, hIsa_list, hIsa_tuple, gDrop_def, hall, hb]
  | true =>
    rw [hc] at hb
    refine seq_step (Eq.trans (if_f ?_) rfl) ?_
    · simp only [bnd_ok, gVar_def, gC_def, gOp_def, gUn_def, gNil_def, gCons_def, gIf_def, gTest_def, gNot_def, gAnd_def, gOr_def, gAndV_def, gOrV_def, gNotV_def, gCB_def, asB_b, hAdd_i, hSub_i, hLt_i, hLe_i, hGt_i, hGe_i, hMul_r, hMul_l, hMod_i, hDiv_s, hBand_i, hShr_i, hPow_10_18, hPow_10_27, hPow_10_28, hPow_10_29, hPow_10_30, hEq_i, hNe_i, hLen_l, hLen_t, hMin2_i, hMax2_i, hMin3_i, hInt1_b, hInt1_i, hBits_i, hListOf_l, hListOf_t, hTupOf_l, hTupOf_t, gSeqS_def, gSet_def, gRet_def, gIfS_def, gNext_def, gTup_def, gLst_def, List.getElem?_cons_zero, List.getElem?_cons_succ, List.set_cons_zero, List.set_cons_succ, List.length_cons, List.length_nil, Nat.zero_add, Nat.reduceAdd, Nat.reduceLeDiff, Nat.reduceSub, Nat.reduceMul, if_true, if_false, Bool.false_eq_true, List.replicate_succ, List.replicate_zero, List.cons_append, List.nil_append, tgN, tgT, tgCons, tgNil, Int.reducePow, Int.reduceAdd, Int.reduceSub, Int.reduceMul, decide_true, decide_false, Bool.not_true, Bool.not_false, gChain_def, hIsa_int, hIsa_intb, hIsa_list, hIsa_tuple, gDrop_def, hall, hb]
    · have hp := pairs_lc (n := n) (r := r) .none .none (by omega)
      have hb2 := hAll_b ((List.range (r.length - 1)).map fun i => decide ((r.getD i (0, 0, 0)).1 < (r.getD (i + 1) (0, 0, 0)).1))
      refine ret_ok ?_
      rw [gCB_def, gCons_def, hp, bnd_ok, gNil_def, bnd_ok, bnd_ok, hb2]
      rfl
theorem ordB_iff (r : List T3) : ordB r = true ↔ ∀ i (h : i + 1 < r.length), r[i].1 < r[i + 1].1 := by
  unfold ordB
  rw [List.all_map, List.all_eq_true]
  constructor
  · intro h i hi
    have := h i (List.mem_range.mpr (by omega))
    simp only [Function.comp, id, decide_eq_true_eq] at this
    rw [List.getD_eq_getElem?_getD, List.getD_eq_getElem?_getD, List.getElem?_eq_getElem (show i < r.length by omega), List.getElem?_eq_getElem hi] at this
    exact this
  · intro h i hi
    have hi := List.mem_range.mp hi
    have := h i (by omega)
    simp only [Function.comp, id, decide_eq_true_eq]
    rw [List.getD_eq_getElem?_getD, List.getD_eq_getElem?_getD, List.getElem?_eq_getElem (show i < r.length by omega), List.getElem?_eq_getElem (show i + 1 < r.length by omega)]
    exact this
theorem ix3_1 (t : T3) : hIx (enc3 t) (.int 1) = .ok (.int t.2.1) := rfl
theorem ix3_2 (t : T3) : hIx (enc3 t) (.int 2) = .ok (.int t.2.2) := rfl
theorem count_ok (z m : Int) : f_is_count [.int z, .int m] = .ok (.bool (decide (1 ≤ z) && decide (z ≤ m))) := by
  refine fnN_rt ?_
  show g_is_count [.int z, .int m] = _
  unfold g_is_count
  simp only [bnd_ok, gVar_def, gC_def, gOp_def, gUn_def, gNil_def, gCons_def, gIf_def, gTest_def, gNot_def, gAnd_def, gOr_def, gAndV_def, gOrV_def, gNotV_def, gCB_def, asB_b, hAdd_i, hSub_i, hLt_i, hLe_i, hGt_i, hGe_i, hMul_r, hMul_l, hMod_i, hDiv_s, hBand_i, hShr_i, hPow_10_18, hPow_10_27, hPow_10_28, hPow_10_29, hPow_10_30, hEq_i, hNe_i, hLen_l, hLen_t, hMin2_i, hMax2_i, hMin3_i, hInt1_b, hInt1_i, hBits_i, hListOf_l, hListOf_t, hTupOf_l, hTupOf_t, gSeqS_def, gSet_def, gRet_def, gIfS_def, gNext_def, gTup_def, gLst_def, List.getElem?_cons_zero, List.getElem?_cons_succ, List.set_cons_zero, List.set_cons_succ, List.length_cons, List.length_nil, Nat.zero_add, Nat.reduceAdd, Nat.reduceLeDiff, Nat.reduceSub, Nat.reduceMul, if_true, if_false, Bool.false_eq_true, List.replicate_succ, List.replicate_zero, List.cons_append, List.nil_append, tgN, tgT, tgCons, tgNil, Int.reducePow, Int.reduceAdd, Int.reduceSub, Int.reduceMul, decide_true, decide_false, Bool.not_true, Bool.not_false, gChain_def, hIsa_int, hIsa_intb, hIsa_list, hIsa_tuple, gDrop_def]
  cases decide (1 ≤ z) <;> rfl
theorem okT_of {n : Int} {t : T3} (h : TieOk n t) : okT n t = true := by
  unfold okT tieB
  have := h.m0; have := h.a0; have := h.ab; have := h.bn
  have m1 : t.1 < 1000000000000000000000000000000 := h.m1
  rw [decide_eq_true (by omega), decide_eq_true (by omega), decide_eq_true (by omega), decide_eq_true (by omega), decide_eq_true (by omega), decide_eq_true (by omega), decide_eq_true (by omega)]
  rfl
end K57
end T_K57N
section T_K57L
set_option linter.all false
set_option maxRecDepth 100000
set_option maxHeartbeats 4000000
namespace K57
open PySem Sim FamA FamL Lay
theorem ljoined_ok {n a b : Int} {ts : List T3} (hr : InN n ts) (n1 : 1 ≤ n) (n10 : n ≤ 10) (a0 : 0 ≤ a) (an : a < n) (b0 : 0 ≤ b) (bn : b < n) :
    ∃ c : Bool, f_l_joined [.int n, .list (ts.map enc3), .int a, .int b] = .ok (.bool c) ∧ (c = true ↔ Conn ts a b) := by
  obtain ⟨ρ', hf, ms, x5, x6, x7, x8, x9, x10, rfl, hM⟩ := forE_ix enc3 (h := tgT (tgCons (tgN 5) (tgCons (tgN 6) (tgCons (tgN 7) (tgNil))))) (b := g_l_joined_L1) ts
    (fun i ρ => ∃ ms x5 x6 x7 x8 x9 x10, ρ = [.int n, .list (ts.map enc3), .int a, .int b, .list (ms.map .int), x5, x6, x7, x8, x9, x10] ∧ MK n ms (ts.take i).reverse)
    (ρ := [.int n, .list (ts.map enc3), .int a, .int b, .list ((pl n).map .int), .none, .none, .none, .none, .none, .none]) ⟨_, _, _, _, _, _, _, rfl, MK.zero⟩ (by
      rintro i ρ hi ⟨ms, x5, x6, x7, x8, x9, x10, rfl, hM⟩
      have ht := hr ts[i] (List.getElem_mem hi)
      have es : (ts.take (i + 1)).reverse = ts[i] :: (ts.take i).reverse := by
        rw [List.take_add_one, List.getElem?_eq_getElem hi, List.reverse_append]
        rfl
      rw [es]
      generalize (ts.take i).reverse = s at *
      generalize ts[i] = t at *
      obtain ⟨⟨c0, c1⟩, d0, d1⟩ := ht
      have lm := hM.len
      have i1 := hIx_gx (ms := ms) c0 (by omega)
      have i2 := hIx_gx (ms := ms) d0 (by omega)
      refine ⟨_, _, rfl, .inl ?_, ms.map (fun m => if m = gx ms t.2.1 then gx ms t.2.2 else m), .int t.1, .int t.2.1, .int t.2.2, .int (gx ms t.2.1), .int (gx ms t.2.2), x10, rfl, hM.step c0 c1 d0 d1 (.inl ⟨rfl, rfl⟩)⟩
      unfold g_l_joined_L1
      have h := gLc_map PyData.int (fun _ => true) (fun m => PyData.int (if m = gx ms t.2.1 then gx ms t.2.2 else m)) (gi := gSeq (gVar 4)) (h := tgN 10) (gt := gYes) (ge := gIf (gTest (gOp hEq (gVar 10) (gVar 8))) (gVar 9) (gVar 10))
        (ρ := [.int n, .list (ts.map enc3), .int a, .int b, .list (ms.map .int), .int t.1, .int t.2.1, .int t.2.2, .int (gx ms t.2.1), .int (gx ms t.2.2), x10]) (xs := ms) rfl (by omega) (fun m _ => ⟨_, rfl, rfl, fun _ => by
          simp only [bnd_ok, gVar_def, gC_def, gOp_def, gUn_def, gNil_def, gCons_def, gIf_def, gTest_def, gNot_def, gAnd_def, gOr_def, gAndV_def, gOrV_def, gNotV_def, gCB_def, asB_b, hAdd_i, hSub_i, hLt_i, hLe_i, hGt_i, hGe_i, hMul_r, hMul_l, hMod_i, hDiv_s, hBand_i, hShr_i, hPow_10_18, hPow_10_27, hPow_10_28, hPow_10_29, hPow_10_30, hEq_i, hNe_i, hLen_l, hLen_t, hMin2_i, hMax2_i, hMin3_i, hInt1_b, hInt1_i, hBits_i, hListOf_l, hListOf_t, hTupOf_l, hTupOf_t, gSeqS_def, gSet_def, gRet_def, gIfS_def, gNext_def, gTup_def, gLst_def, List.getElem?_cons_zero, List.getElem?_cons_succ, List.set_cons_zero, List.set_cons_succ, List.length_cons, List.length_nil, Nat.zero_add, Nat.reduceAdd, Nat.reduceLeDiff, Nat.reduceSub, Nat.reduceMul, if_true, if_false, Bool.false_eq_true, List.replicate_succ, List.replicate_zero, List.cons_append, List.nil_append, tgN, tgT, tgCons, tgNil, Int.reducePow, Int.reduceAdd, Int.reduceSub, Int.reduceMul, decide_true, decide_false, Bool.not_true, Bool.not_false, gChain_def, hIsa_int, hIsa_intb, hIsa_list, hIsa_tuple, gDrop_def]
          by_cases c : m = gx ms t.2.1
          · simp only [c, if_true, beq_self_eq_true]
          · simp only [c, if_false, beq_iff_eq]⟩)
      rw [List.filter_eq_self.mpr (fun _ _ => rfl)] at h
      have e : (ms.map fun m => PyData.int (if m = gx ms t.2.1 then gx ms t.2.2 else m)) = (ms.map fun m => if m = gx ms t.2.1 then gx ms t.2.2 else m).map PyData.int := by rw [List.map_map]; rfl
      rw [e] at h
      apply seq_step
      · simp (disch := first | omega | with_unfolding_all rfl | assumption | decide | (simp only [List.length_cons, List.length_nil]; omega)) only [bnd_ok, gVar_def, gC_def, gOp_def, gUn_def, gNil_def, gCons_def, gIf_def, gTest_def, gNot_def, gAnd_def, gOr_def, gAndV_def, gOrV_def, gNotV_def, gCB_def, asB_b, hAdd_i, hSub_i, hLt_i, hLe_i, hGt_i, hGe_i, hMul_r, hMul_l, hMod_i, hDiv_s, hBand_i, hShr_i, hPow_10_18, hPow_10_27, hPow_10_28, hPow_10_29, hPow_10_30, hEq_i, hNe_i, hLen_l, hLen_t, hMin2_i, hMax2_i, hMin3_i, hInt1_b, hInt1_i, hBits_i, hListOf_l, hListOf_t, hTupOf_l, hTupOf_t, gSeqS_def, gSet_def, gRet_def, gIfS_def, gNext_def, gTup_def, gLst_def, List.getElem?_cons_zero, List.getElem?_cons_succ, List.set_cons_zero, List.set_cons_succ, List.length_cons, List.length_nil, Nat.zero_add, Nat.reduceAdd, Nat.reduceLeDiff, Nat.reduceSub, Nat.reduceMul, if_true, if_false, Bool.false_eq_true, List.replicate_succ, List.replicate_zero, List.cons_append, List.nil_append, tgN, tgT, tgCons, tgNil, Int.reducePow, Int.reduceAdd, Int.reduceSub, Int.reduceMul, decide_true, decide_false, Bool.not_true, Bool.not_false, gChain_def, hIsa_int, hIsa_intb, hIsa_list, hIsa_tuple, gDrop_def, gCallN_def, gAsg_def, gSl_def, gNoPart_def, gPart_def, hSl_from', hSl_to', i1]
        rfl
      apply seq_step
      · simp (disch := first | omega | with_unfolding_all rfl | assumption | decide | (simp only [List.length_cons, List.length_nil]; omega)) only [bnd_ok, gVar_def, gC_def, gOp_def, gUn_def, gNil_def, gCons_def, gIf_def, gTest_def, gNot_def, gAnd_def, gOr_def, gAndV_def, gOrV_def, gNotV_def, gCB_def, asB_b, hAdd_i, hSub_i, hLt_i, hLe_i, hGt_i, hGe_i, hMul_r, hMul_l, hMod_i, hDiv_s, hBand_i, hShr_i, hPow_10_18, hPow_10_27, hPow_10_28, hPow_10_29, hPow_10_30, hEq_i, hNe_i, hLen_l, hLen_t, hMin2_i, hMax2_i, hMin3_i, hInt1_b, hInt1_i, hBits_i, hListOf_l, hListOf_t, hTupOf_l, hTupOf_t, gSeqS_def, gSet_def, gRet_def, gIfS_def, gNext_def, gTup_def, gLst_def, List.getElem?_cons_zero, List.getElem?_cons_succ, List.set_cons_zero, List.set_cons_succ, List.length_cons, List.length_nil, Nat.zero_add, Nat.reduceAdd, Nat.reduceLeDiff, Nat.reduceSub, Nat.reduceMul, if_true, if_false, Bool.false_eq_true, List.replicate_succ, List.replicate_zero, List.cons_append, List.nil_append, tgN, tgT, tgCons, tgNil, Int.reducePow, Int.reduceAdd, Int.reduceSub, Int.reduceMul, decide_true, decide_false, Bool.not_true, Bool.not_false, gChain_def, hIsa_int, hIsa_intb, hIsa_list, hIsa_tuple, gDrop_def, gCallN_def, gAsg_def, gSl_def, gNoPart_def, gPart_def, hSl_from', hSl_to', i2]
        rfl
      rw [set_ok h]
      rfl)
  rw [List.take_length] at hM
  have lm := hM.len
  refine ⟨gx ms a == gx ms b, ?_, ?_⟩
  · refine fnN_rt ?_
    show g_l_joined [.int n, .list (ts.map enc3), .int a, .int b, .none, .none, .none, .none, .none, .none, .none] = _
    unfold g_l_joined
    apply seq_step
    · refine set_ok (d := .list ((pl n).map .int)) (lsI_ok ?_ (by rw [List.length_map, pl_len]; omega))
      rw [rng1_ok (show gCons (gVar 0) gNil _ = .ok [.int n] from rfl) (by omega) (by omega), rangeD_pl]
    · refine seq_step (for_ok (ds := ts.map enc3) rfl hf) ?_
      have i1 := hIx_gx (ms := ms) a0 (by omega)
      have i2 := hIx_gx (ms := ms) b0 (by omega)
      simp only [bnd_ok, gVar_def, gC_def, gOp_def, gUn_def, gNil_def, gCons_def, gIf_def, gTest_def, gNot_def, gAnd_def, gOr_def, gAndV_def, gOrV_def, gNotV_def, gCB_def, asB_b, hAdd_i, hSub_i, hLt_i, hLe_i, hGt_i, hGe_i, hMul_r, hMul_l, hMod_i, hDiv_s, hBand_i, hShr_i, hPow_10_18, hPow_10_27, hPow_10_28, hPow_10_29, hPow_10_30, hEq_i, hNe_i, hLen_l, hLen_t, hMin2_i, hMax2_i, hMin3_i, hInt1_b, hInt1_i, hBits_i, hListOf_l, hListOf_t, hTupOf_l, hTupOf_t, gSeqS_def, gSet_def, gRet_def, gIfS_def, gNext_def, gTup_def, gLst_def, List.getElem?_cons_zero, List.getElem?_cons_succ, List.set_cons_zero, List.set_cons_succ, List.length_cons, List.length_nil, Nat.zero_add, Nat.reduceAdd, Nat.reduceLeDiff, Nat.reduceSub, Nat.reduceMul, if_true, if_false, Bool.false_eq_true, List.replicate_succ, List.replicate_zero, List.cons_append, List.nil_append, tgN, tgT, tgCons, tgNil, Int.reducePow, Int.reduceAdd, Int.reduceSub, Int.reduceMul, decide_true, decide_false, Bool.not_true, Bool.not_false, gChain_def, hIsa_int, hIsa_intb, hIsa_list, hIsa_tuple, gDrop_def, i1, i2]
  · rw [beq_iff_eq, hM.ker a b a0 an b0 bn]
    exact conn_mem fun t => List.mem_reverse
theorem lay_pick {α : Type} (f : T3 → α) (d : T3) (j : Int) : ∀ (s : List T3) (ns : List Int), ns.length = s.length → ((List.range s.length).filter fun i => ns.getD i 0 == j).map (fun i => f (s.getD i d)) = (layer j s ns).map f
  | [], [], _ => rfl
  | t :: s, x :: ns, h => by
    have ih := lay_pick f d j s ns (by simpa using h)
    rw [layer_cons, List.length_cons, List.range_succ_eq_map, List.filter_cons, List.filter_map]
    have e1 : ((fun i => (x :: ns).getD i 0 == j) ∘ Nat.succ) = fun i => ns.getD i 0 == j := by funext i; simp
    have e2 : ((fun i => f ((t :: s).getD i d)) ∘ Nat.succ) = fun i => f (s.getD i d) := by funext i; simp
    rw [e1]
    by_cases c : x = j
    · rw [if_pos c, if_pos (by simp [c]), List.map_cons, List.map_map, e2, ih]
      rfl
    · rw [if_neg c, if_neg (by simp [c]), List.map_map, e2, ih]
theorem down_nat (i j : Int) : downD i j = (List.range (i - j).toNat).map fun (k : Nat) => PyData.int (i - (k : Int)) := rfl
def NB (p : Nat) (ns : List Int) : List Int := List.replicate p 0 ++ ns
theorem NB_len (p : Nat) (ns : List Int) : (NB p ns).length = p + ns.length := by unfold NB; rw [List.length_append, List.length_replicate]
theorem turn_ok {n : Int} {k : Nat} {r s : List T3} {t : T3} {p : Nat} (hr : InN n r) (hl : r.length ≤ 60) (n1 : 1 ≤ n) (n10 : n ≤ 10) (hp : p + 1 + s.length = r.length) (hs : ∀ i, i < s.length → r[p + 1 + i]? = s[i]?) (htt : r[p]? = some t) (x : Int) (j : Int) (x6 x7 : Dt) :
    ∃ (c : Bool) (y6 : Dt), (c = true ↔ Conn (layer j s (lay k s)) t.2.1 t.2.2) ∧ g_l_numbered_L1 [.int n, .list (r.map enc3), .int (k : Nat), .list ((NB p (x :: lay k s)).map .int), .int (p : Nat), .int j, x6, x7]
      = .ok (.nx [.int n, .list (r.map enc3), .int (k : Nat), .list ((NB p ((if c then x else j) :: lay k s)).map .int), .int (p : Nat), .int j, y6, x7]) := by
  have lk := lay_len k s
  have ht : t ∈ r := List.mem_of_getElem? htt
  have hss : ∀ u ∈ s, u ∈ r := fun u hu => by
    obtain ⟨i, hi, e⟩ := List.getElem_of_mem hu
    have := hs i hi
    rw [List.getElem?_eq_getElem hi, e] at this
    exact List.mem_of_getElem? this
  obtain ⟨⟨a0, a1⟩, b0, b1⟩ := hr t ht
  have hL : InN n (layer j s (lay k s)) := fun u hu => by
    unfold layer at hu
    obtain ⟨q, hq, e⟩ := List.mem_map.mp hu
    have := (List.mem_filter.mp hq).1
    rw [← e]
    exact hr _ (hss _ (List.of_mem_zip this).1)
  obtain ⟨c, hc, hc2⟩ := ljoined_ok hL n1 n10 a0 a1 b0 b1
  refine ⟨c, .list ((layer j s (lay k s)).map enc3), hc2, ?_⟩
  have hlc : gLc (gRng2 (gCons (gOp hAdd (gVar 4) (gC (.int (1)))) (gCons (gCB hLen (gCons (gVar 1) (gNil))) (gNil)))) (tgN 7) (gTest (gOp hEq (gOp hIx (gVar 3) (gVar 7)) (gVar 5))) (gOp hIx (gVar 1) (gVar 7))
      [.int n, .list (r.map enc3), .int (k : Nat), .list ((NB p (x :: lay k s)).map .int), .int (p : Nat), .int j, x6, x7] = .ok (.list ((layer j s (lay k s)).map enc3)) := by
    rw [← lay_pick enc3 (0, 0, 0) j s (lay k s) lk]
    refine gLc_map (fun (i : Nat) => PyData.int ((p : Int) + 1 + (i : Int))) (fun i => (lay k s).getD i 0 == j) (fun i => enc3 (s.getD i (0, 0, 0))) (xs := List.range s.length) ?_ (by rw [List.length_range]; omega) fun i hi => ⟨_, rfl, ?_, fun _ => ?_⟩
    · have e : gCons (gOp hAdd (gVar 4) (gC (.int (1)))) (gCons (gCB hLen (gCons (gVar 1) (gNil))) (gNil)) [.int n, .list (r.map enc3), .int (k : Nat), .list ((NB p (x :: lay k s)).map .int), .int (p : Nat), .int j, x6, x7] = .ok [.int ((p : Int) + 1), .int (r.length : Nat)] := by
        simp only [bnd_ok, gVar_def, gC_def, gOp_def, gUn_def, gNil_def, gCons_def, gIf_def, gTest_def, gNot_def, gAnd_def, gOr_def, gAndV_def, gOrV_def, gNotV_def, gCB_def, asB_b, hAdd_i, hSub_i, hLt_i, hLe_i, hGt_i, hGe_i, hMul_r, hMul_l, hMod_i, hDiv_s, hBand_i, hShr_i, hPow_10_18, hPow_10_27, hPow_10_28, hPow_10_29, hPow_10_30, hEq_i, hNe_i, hLen_l, hLen_t, hMin2_i, hMax2_i, hMin3_i, hInt1_b, hInt1_i, hBits_i, hListOf_l, hListOf_t, hTupOf_l, hTupOf_t, gSeqS_def, gSet_def, gRet_def, gIfS_def, gNext_def, gTup_def, gLst_def, List.getElem?_cons_zero, List.getElem?_cons_succ, List.set_cons_zero, List.set_cons_succ, List.length_cons, List.length_nil, Nat.zero_add, Nat.reduceAdd, Nat.reduceLeDiff, Nat.reduceSub, Nat.reduceMul, if_true, if_false, Bool.false_eq_true, List.replicate_succ, List.replicate_zero, List.cons_append, List.nil_append, tgN, tgT, tgCons, tgNil, Int.reducePow, Int.reduceAdd, Int.reduceSub, Int.reduceMul, decide_true, decide_false, Bool.not_true, Bool.not_false, gChain_def, hIsa_int, hIsa_intb, hIsa_list, hIsa_tuple, gDrop_def, List.length_map]
      rw [rng2_ok e (by omega) (by omega) (by omega) (by omega)]
      unfold rangeD
      have e2 : ((r.length : Int) - ((p : Int) + 1)).toNat = s.length := by omega
      rw [e2]
    · have hi := List.mem_range.mp hi
      have e : hIx (.list ((NB p (x :: lay k s)).map .int)) (.int ((p : Int) + 1 + (i : Int))) = .ok (.int ((lay k s).getD i 0)) := by
        have hlt : ((p : Int) + 1 + (i : Int)) < ((NB p (x :: lay k s)).length : Int) := by rw [NB_len, List.length_cons]; omega
        rw [hIx_ints (by omega) hlt]
        congr 2
        have e1 : ((p : Int) + 1 + (i : Int)).toNat = p + (1 + i) := by omega
        simp only [e1]
        unfold NB
        rw [List.getElem_append_right (by rw [List.length_replicate]; omega)]
        have e3 : p + (1 + i) - (List.replicate p (0 : Int)).length = i + 1 := by rw [List.length_replicate]; omega
        simp only [e3, List.getElem_cons_succ]
        rw [List.getD_eq_getElem?_getD, List.getElem?_eq_getElem (by omega)]
        rfl
      simp only [bnd_ok, gVar_def, gC_def, gOp_def, gUn_def, gNil_def, gCons_def, gIf_def, gTest_def, gNot_def, gAnd_def, gOr_def, gAndV_def, gOrV_def, gNotV_def, gCB_def, asB_b, hAdd_i, hSub_i, hLt_i, hLe_i, hGt_i, hGe_i, hMul_r, hMul_l, hMod_i, hDiv_s, hBand_i, hShr_i, hPow_10_18, hPow_10_27, hPow_10_28, hPow_10_29, hPow_10_30, hEq_i, hNe_i, hLen_l, hLen_t, hMin2_i, hMax2_i, hMin3_i, hInt1_b, hInt1_i, hBits_i, hListOf_l, hListOf_t, hTupOf_l, hTupOf_t, gSeqS_def, gSet_def, gRet_def, gIfS_def, gNext_def, gTup_def, gLst_def, List.getElem?_cons_zero, List.getElem?_cons_succ, List.set_cons_zero, List.set_cons_succ, List.length_cons, List.length_nil, Nat.zero_add, Nat.reduceAdd, Nat.reduceLeDiff, Nat.reduceSub, Nat.reduceMul, if_true, if_false, Bool.false_eq_true, List.replicate_succ, List.replicate_zero, List.cons_append, List.nil_append, tgN, tgT, tgCons, tgNil, Int.reducePow, Int.reduceAdd, Int.reduceSub, Int.reduceMul, decide_true, decide_false, Bool.not_true, Bool.not_false, gChain_def, hIsa_int, hIsa_intb, hIsa_list, hIsa_tuple, gDrop_def, e]
    · have hi := List.mem_range.mp hi
      have hlt : ((p : Int) + 1 + (i : Int)) < (r.length : Int) := by omega
      have e : hIx (.list (r.map enc3)) (.int ((p : Int) + 1 + (i : Int))) = .ok (enc3 (s.getD i (0, 0, 0))) := by
        refine hIx_l ?_
        rw [atI_map enc3 (by omega) hlt]
        congr 2
        have e1 : ((p : Int) + 1 + (i : Int)).toNat = p + 1 + i := by omega
        simp only [e1]
        have h1 := hs i hi
        rw [List.getElem?_eq_getElem (show p + 1 + i < r.length by omega)] at h1
        rw [List.getD_eq_getElem?_getD, ← h1]
        rfl
      simp only [bnd_ok, gVar_def, gC_def, gOp_def, gUn_def, gNil_def, gCons_def, gIf_def, gTest_def, gNot_def, gAnd_def, gOr_def, gAndV_def, gOrV_def, gNotV_def, gCB_def, asB_b, hAdd_i, hSub_i, hLt_i, hLe_i, hGt_i, hGe_i, hMul_r, hMul_l, hMod_i, hDiv_s, hBand_i, hShr_i, hPow_10_18, hPow_10_27, hPow_10_28, hPow_10_29, hPow_10_30, hEq_i, hNe_i, hLen_l, hLen_t, hMin2_i, hMax2_i, hMin3_i, hInt1_b, hInt1_i, hBits_i, hListOf_l, hListOf_t, hTupOf_l, hTupOf_t, gSeqS_def, gSet_def, gRet_def, gIfS_def, gNext_def, gTup_def, gLst_def, List.getElem?_cons_zero, List.getElem?_cons_succ, List.set_cons_zero, List.set_cons_succ, List.length_cons, List.length_nil, Nat.zero_add, Nat.reduceAdd, Nat.reduceLeDiff, Nat.reduceSub, Nat.reduceMul, if_true, if_false, Bool.false_eq_true, List.replicate_succ, List.replicate_zero, List.cons_append, List.nil_append, tgN, tgT, tgCons, tgNil, Int.reducePow, Int.reduceAdd, Int.reduceSub, Int.reduceMul, decide_true, decide_false, Bool.not_true, Bool.not_false, gChain_def, hIsa_int, hIsa_intb, hIsa_list, hIsa_tuple, gDrop_def, e]
  have eat : hIx (.list (r.map enc3)) (.int (p : Nat)) = .ok (enc3 t) := by
    refine hIx_l ?_
    have hlt : ((p : Nat) : Int) < (r.length : Int) := by omega
    rw [atI_map enc3 (by omega) hlt]
    rw [List.getElem?_eq_getElem (show p < r.length by omega)] at htt
    have e := Option.some.inj htt
    simp only [Int.toNat_natCast, e]
  unfold g_l_numbered_L1
  apply seq_step
  · simp (disch := first | omega | with_unfolding_all rfl | assumption | decide | (simp only [List.length_cons, List.length_nil]; omega)) only [bnd_ok, gVar_def, gC_def, gOp_def, gUn_def, gNil_def, gCons_def, gIf_def, gTest_def, gNot_def, gAnd_def, gOr_def, gAndV_def, gOrV_def, gNotV_def, gCB_def, asB_b, hAdd_i, hSub_i, hLt_i, hLe_i, hGt_i, hGe_i, hMul_r, hMul_l, hMod_i, hDiv_s, hBand_i, hShr_i, hPow_10_18, hPow_10_27, hPow_10_28, hPow_10_29, hPow_10_30, hEq_i, hNe_i, hLen_l, hLen_t, hMin2_i, hMax2_i, hMin3_i, hInt1_b, hInt1_i, hBits_i, hListOf_l, hListOf_t, hTupOf_l, hTupOf_t, gSeqS_def, gSet_def, gRet_def, gIfS_def, gNext_def, gTup_def, gLst_def, List.getElem?_cons_zero, List.getElem?_cons_succ, List.set_cons_zero, List.set_cons_succ, List.length_cons, List.length_nil, Nat.zero_add, Nat.reduceAdd, Nat.reduceLeDiff, Nat.reduceSub, Nat.reduceMul, if_true, if_false, Bool.false_eq_true, List.replicate_succ, List.replicate_zero, List.cons_append, List.nil_append, tgN, tgT, tgCons, tgNil, Int.reducePow, Int.reduceAdd, Int.reduceSub, Int.reduceMul, decide_true, decide_false, Bool.not_true, Bool.not_false, gChain_def, hIsa_int, hIsa_intb, hIsa_list, hIsa_tuple, gDrop_def, gCallN_def, gAsg_def, gSl_def, gNoPart_def, gPart_def, hSl_from', hSl_to', hlc]
    rfl
  cases c with
  | true =>
    rw [if_f (by simp only [bnd_ok, gVar_def, gC_def, gOp_def, gUn_def, gNil_def, gCons_def, gIf_def, gTest_def, gNot_def, gAnd_def, gOr_def, gAndV_def, gOrV_def, gNotV_def, gCB_def, asB_b, hAdd_i, hSub_i, hLt_i, hLe_i, hGt_i, hGe_i, hMul_r, hMul_l, hMod_i, hDiv_s, hBand_i, hShr_i, hPow_10_18, hPow_10_27, hPow_10_28, hPow_10_29, hPow_10_30, hEq_i, hNe_i, hLen_l, hLen_t, hMin2_i, hMax2_i, hMin3_i, hInt1_b, hInt1_i, hBits_i, hListOf_l, hListOf_t, hTupOf_l, hTupOf_t, gSeqS_def, gSet_def, gRet_def, gIfS_def, gNext_def, gTup_def, gLst_def, List.getElem?_cons_zero, List.getElem?_cons_succ, List.set_cons_zero, List.set_cons_succ, List.length_cons, List.length_nil, Nat.zero_add, Nat.reduceAdd, Nat.reduceLeDiff, Nat.reduceSub, Nat.reduceMul, if_true, if_false, Bool.false_eq_true, List.replicate_succ, List.replicate_zero, List.cons_append, List.nil_append, tgN, tgT, tgCons, tgNil, Int.reducePow, Int.reduceAdd, Int.reduceSub, Int.reduceMul, decide_true, decide_false, Bool.not_true, Bool.not_false, gChain_def, hIsa_int, hIsa_intb, hIsa_list, hIsa_tuple, gDrop_def, gCallN_def, gAsg_def, gSl_def, gNoPart_def, gPart_def, hSl_from', hSl_to', eat, ix3_1, ix3_2, hc])]
    rfl
  | false =>
    rw [if_t (by simp only [bnd_ok, gVar_def, gC_def, gOp_def, gUn_def, gNil_def, gCons_def, gIf_def, gTest_def, gNot_def, gAnd_def, gOr_def, gAndV_def, gOrV_def, gNotV_def, gCB_def, asB_b, hAdd_i, hSub_i, hLt_i, hLe_i, hGt_i, hGe_i, hMul_r, hMul_l, hMod_i, hDiv_s, hBand_i, hShr_i, hPow_10_18, hPow_10_27, hPow_10_28, hPow_10_29, hPow_10_30, hEq_i, hNe_i, hLen_l, hLen_t, hMin2_i, hMax2_i, hMin3_i, hInt1_b, hInt1_i, hBits_i, hListOf_l, hListOf_t, hTupOf_l, hTupOf_t, gSeqS_def, gSet_def, gRet_def, gIfS_def, gNext_def, gTup_def, gLst_def, List.getElem?_cons_zero, List.getElem?_cons_succ, List.set_cons_zero, List.set_cons_succ, List.length_cons, List.length_nil, Nat.zero_add, Nat.reduceAdd, Nat.reduceLeDiff, Nat.reduceSub, Nat.reduceMul, if_true, if_false, Bool.false_eq_true, List.replicate_succ, List.replicate_zero, List.cons_append, List.nil_append, tgN, tgT, tgCons, tgNil, Int.reducePow, Int.reduceAdd, Int.reduceSub, Int.reduceMul, decide_true, decide_false, Bool.not_true, Bool.not_false, gChain_def, hIsa_int, hIsa_intb, hIsa_list, hIsa_tuple, gDrop_def, gCallN_def, gAsg_def, gSl_def, gNoPart_def, gPart_def, hSl_from', hSl_to', eat, ix3_1, ix3_2, hc])]
    rw [setI_ok (ds := (NB p (x :: lay k s)).map .int) (d := .int j) (j := (p : Int)) rfl rfl rfl (by omega) (by rw [List.length_map, NB_len, List.length_cons]; omega)]
    have e : ((NB p (x :: lay k s)).map PyData.int).set ((p : Int).toNat) (.int j) = (NB p (j :: lay k s)).map PyData.int := by
      rw [← List.map_set, Int.toNat_natCast]
      unfold NB
      rw [List.set_append_right _ _ (by rw [List.length_replicate]; exact Nat.le_refl _), List.length_replicate, Nat.sub_self]
      rfl
    rw [e]
    rfl
theorem turns_ok {n : Int} {k : Nat} {r s : List T3} {t : T3} {p : Nat} (hr : InN n r) (hl : r.length ≤ 60) (n1 : 1 ≤ n) (n10 : n ≤ 10) (k6 : k ≤ 6) (hp : p + 1 + s.length = r.length) (hsx : ∀ i, i < s.length → r[p + 1 + i]? = s[i]?) (htt : r[p]? = some t) (x5 x6 x7 : Dt) :
    ∃ y5 y6, g_l_numbered_L2 [.int n, .list (r.map enc3), .int (k : Nat), .list ((NB p (0 :: lay k s)).map .int), .int (p : Nat), x5, x6, x7]
      = .ok (.nx [.int n, .list (r.map enc3), .int (k : Nat), .list ((NB p (num k s (lay k s) t.2.1 t.2.2 :: lay k s)).map .int), .int (p : Nat), y5, y6, x7]) := by
  obtain ⟨ρ2, hf2, y5, y6, rfl⟩ := forE_ix (fun (i : Nat) => PyData.int (((k : Nat) : Int) - (i : Int))) (h := tgN 5) (b := g_l_numbered_L1) (List.range k)
    (fun i ρ => ∃ y5 y6, ρ = [.int n, .list (r.map enc3), .int (k : Nat), .list ((NB p (fj (fun j => ¬ Conn (layer ((j : Int) + 1) s (lay k s)) t.2.1 t.2.2) (k - i) i :: lay k s)).map .int), .int (p : Nat), y5, y6, x7])
    (ρ := [.int n, .list (r.map enc3), .int (k : Nat), .list ((NB p (0 :: lay k s)).map .int), .int (p : Nat), x5, x6, x7]) ⟨_, _, rfl⟩ (by
      rintro i2 ρ hi2 ⟨y5, y6, rfl⟩
      rw [List.length_range] at hi2
      rw [List.getElem_range]
      obtain ⟨c, z6, hc, hb⟩ := turn_ok (k := k) (s := s) (t := t) (p := p) hr hl n1 n10 hp hsx htt (fj (fun j => ¬ Conn (layer ((j : Int) + 1) s (lay k s)) t.2.1 t.2.2) (k - i2) i2) (((k : Nat) : Int) - (i2 : Int)) y6 x7
      refine ⟨_, _, rfl, .inl hb, .int (((k : Nat) : Int) - (i2 : Int)), z6, ?_⟩
      have e5 : ((k - (i2 + 1) : Nat) : Int) + 1 = ((k : Nat) : Int) - (i2 : Int) := by omega
      have e6 : fj (fun j => ¬ Conn (layer ((j : Int) + 1) s (lay k s)) t.2.1 t.2.2) (k - (i2 + 1)) (i2 + 1) = if c then fj (fun j => ¬ Conn (layer ((j : Int) + 1) s (lay k s)) t.2.1 t.2.2) (k - i2) i2 else ((k : Nat) : Int) - (i2 : Int) := by
        cases c with
        | true =>
          rw [fj_f _ (by rw [e5, Classical.not_not]; exact hc.mp rfl), show k - (i2 + 1) + 1 = k - i2 by omega]
          rfl
        | false =>
          rw [fj_t _ (by rw [e5]; exact fun z => Bool.false_ne_true (hc.mpr z)), e5]
          rfl
      rw [e6])
  rw [List.length_range, Nat.sub_self] at hf2
  have e7 : fj (fun j => ¬ Conn (layer ((j : Int) + 1) s (lay k s)) t.2.1 t.2.2) 0 k = num k s (lay k s) t.2.1 t.2.2 := rfl
  rw [e7] at hf2
  refine ⟨y5, y6, ?_⟩
  unfold g_l_numbered_L2
  refine for_ok (ds := (List.range k).map fun (i : Nat) => PyData.int (((k : Nat) : Int) - (i : Int))) ?_ hf2
  refine (rng3_ok (i := ((k : Nat) : Int)) (j := 0) (by rfl) (by omega) (by omega) (by omega) (by omega)).trans ?_
  rw [down_nat, Int.sub_zero, Int.toNat_natCast]
theorem numbered_ok {n : Int} {k : Nat} {r : List T3} (hr : InN n r) (hl : r.length ≤ 60) (n1 : 1 ≤ n) (n10 : n ≤ 10) (k6 : k ≤ 6) :
    f_l_numbered [.int n, .list (r.map enc3), .int (k : Nat)] = .ok (.list ((lay k r).map .int)) := by
  refine fnL_rt ?_
  show g_l_numbered [.int n, .list (r.map enc3), .int (k : Nat), .none, .none, .none, .none, .none] = _
  unfold g_l_numbered
  have hrep : hRep (.list [.int 0]) (.int (r.length : Nat)) = .ok (.list ((NB r.length []).map .int)) := by
    rw [hRep_l (by omega) (by omega) (by simp)]
    unfold NB
    rw [Int.toNat_natCast, List.append_nil, List.map_replicate]
    congr 2
    generalize r.length = m
    induction m with
    | zero => rfl
    | succ m ih => rw [List.replicate_succ, List.flatten_cons, ih]; rfl
  obtain ⟨ρ', hf, x4, x5, x6, x7, rfl⟩ := forE_ix (fun (i : Nat) => PyData.int ((r.length : Int) - 1 - (i : Int))) (h := tgN 4) (b := g_l_numbered_L2) (List.range r.length)
    (fun i ρ => ∃ x4 x5 x6 x7, ρ = [.int n, .list (r.map enc3), .int (k : Nat), .list ((NB (r.length - i) (lay k (r.drop (r.length - i)))).map .int), x4, x5, x6, x7])
    (ρ := [.int n, .list (r.map enc3), .int (k : Nat), .list ((NB r.length []).map .int), .none, .none, .none, .none]) ⟨_, _, _, _, by rw [Nat.sub_zero, List.drop_length]; rfl⟩ (by
      rintro i ρ hi ⟨x4, x5, x6, x7, rfl⟩
      have hi' := hi
      rw [List.length_range] at hi'
      rw [List.getElem_range]
      obtain ⟨p, ep⟩ : ∃ p, r.length = p + 1 + i := ⟨r.length - 1 - i, by omega⟩
      have e1 : r.length - i = p + 1 := by omega
      have e2 : r.length - (i + 1) = p := by omega
      have e3 : (r.length : Int) - 1 - (i : Int) = (p : Int) := by omega
      have hp : p < r.length := by omega
      rw [e1, e2, e3]
      have ed : r.drop p = r[p] :: r.drop (p + 1) := List.drop_eq_getElem_cons hp
      have hsl : (r.drop (p + 1)).length = i := by rw [List.length_drop]; omega
      generalize hs : r.drop (p + 1) = s at *
      have hsx : ∀ i, i < s.length → r[p + 1 + i]? = s[i]? := fun i hi => by rw [← hs, List.getElem?_drop]
      have e0 : NB (p + 1) (lay k s) = NB p (0 :: lay k s) := by
        unfold NB
        rw [List.replicate_succ', List.append_assoc]
        rfl
      rw [e0]
      obtain ⟨y5, y6, hb⟩ := turns_ok (k := k) (s := s) (t := r[p]) (p := p) hr hl n1 n10 k6 (by omega) hsx (List.getElem?_eq_getElem hp) x5 x6 x7
      rw [ed, lay_cons]
      exact ⟨_, _, rfl, .inl hb, .int (p : Nat), y5, y6, x7, rfl⟩)
  apply seq_step
  · refine set_ok (d := .list ((NB r.length []).map .int)) ?_
    have e1 : ∀ ρ, gLst (gCons (gC (.int (0))) (gNil)) ρ = .ok (.list [.int 0]) := fun ρ => by
      rw [gLst_def, gCons_def, gC_def, gNil_def, bnd_ok, bnd_ok, bnd_ok, if_pos (by rw [List.length_singleton]; omega)]
    have e2 : gCB hLen (gCons (gVar 1) (gNil)) [.int n, .list (r.map enc3), .int (k : Nat), .none, .none, .none, .none, .none] = .ok (.int (r.length : Nat)) := by
      show hLen [.list (r.map enc3)] = _
      rw [hLen_l, List.length_map]
    rw [gOp_def, e1, bnd_ok, e2, bnd_ok, hrep]
  · rw [List.length_range, Nat.sub_self] at hf
    refine seq_step (for_ok (ds := (List.range r.length).map fun (i : Nat) => PyData.int ((r.length : Int) - 1 - (i : Int))) ?_ hf) ?_
    · have e : gCons (gOp hSub (gCB hLen (gCons (gVar 1) (gNil))) (gC (.int (1)))) (gCons (gUn (hU fun i => -i) (gC (.int (1)))) (gCons (gUn (hU fun i => -i) (gC (.int (1)))) (gNil))) [.int n, .list (r.map enc3), .int (k : Nat), .list ((NB r.length []).map .int), .none, .none, .none, .none] = .ok [.int ((r.length : Int) - 1), .int (-1), .int (-1)] := by
        simp only [bnd_ok, gVar_def, gC_def, gOp_def, gUn_def, gNil_def, gCons_def, gIf_def, gTest_def, gNot_def, gAnd_def, gOr_def, gAndV_def, gOrV_def, gNotV_def, gCB_def, asB_b, hAdd_i, hSub_i, hLt_i, hLe_i, hGt_i, hGe_i, hMul_r, hMul_l, hMod_i, hDiv_s, hBand_i, hShr_i, hPow_10_18, hPow_10_27, hPow_10_28, hPow_10_29, hPow_10_30, hEq_i, hNe_i, hLen_l, hLen_t, hMin2_i, hMax2_i, hMin3_i, hInt1_b, hInt1_i, hBits_i, hListOf_l, hListOf_t, hTupOf_l, hTupOf_t, gSeqS_def, gSet_def, gRet_def, gIfS_def, gNext_def, gTup_def, gLst_def, List.getElem?_cons_zero, List.getElem?_cons_succ, List.set_cons_zero, List.set_cons_succ, List.length_cons, List.length_nil, Nat.zero_add, Nat.reduceAdd, Nat.reduceLeDiff, Nat.reduceSub, Nat.reduceMul, if_true, if_false, Bool.false_eq_true, List.replicate_succ, List.replicate_zero, List.cons_append, List.nil_append, tgN, tgT, tgCons, tgNil, Int.reducePow, Int.reduceAdd, Int.reduceSub, Int.reduceMul, decide_true, decide_false, Bool.not_true, Bool.not_false, gChain_def, hIsa_int, hIsa_intb, hIsa_list, hIsa_tuple, gDrop_def, List.length_map]
        rfl
      refine (rng3_ok (by exact e) (by omega) (by omega) (by omega) (by omega)).trans ?_
      rw [down_nat]
      have e2 : ((r.length : Int) - 1 - -1).toNat = r.length := by omega
      rw [e2]
    · unfold NB
      rw [List.drop_zero]
      rfl
end K57
end T_K57L
section T_TxtP
set_option linter.all false
set_option maxRecDepth 100000
namespace TxtP
open PySem PySem.Builtin PySem.Builtin.Str PySem.StrLaws
abbrev cs (x : Str) : List Nat := x.cps.toList
abbrev mk (l : List Nat) : Str := ⟨l.toArray⟩
theorem cs_mk (l : List Nat) : cs (mk l) = l := rfl
theorem mk_cs (x : Str) : mk (cs x) = x := by
  apply Str.ext'
  exact Array.toArray_toList
theorem cs_inj {x y : Str} (h : cs x = cs y) : x = y := by rw [← mk_cs x, ← mk_cs y, h]
theorem cs_app (x y : Str) : cs (x ++ y) = cs x ++ cs y := by
  show (x.cps ++ y.cps).toList = _
  rw [Array.toList_append]
theorem len_cs (x : Str) : x.length = (cs x).length := by
  unfold Str.length
  exact Array.length_toList.symm
theorem mk_app (l r : List Nat) : mk l ++ mk r = mk (l ++ r) := cs_inj (by rw [cs_app])
theorem mk_len (l : List Nat) : (mk l).length = l.length := by rw [len_cs]
def pt (c : Nat) : List Nat → List Nat × Bool × List Nat
  | [] => ([], false, [])
  | d :: r => if d = c then ([], true, r) else (d :: (pt c r).1, (pt c r).2.1, (pt c r).2.2)
theorem pt_none {c : Nat} : ∀ {l : List Nat}, c ∉ l → pt c l = (l, false, [])
  | [], _ => rfl
  | d :: r, h => by
    have h1 : ¬ d = c := fun z => h (z ▸ List.mem_cons_self)
    have h2 : c ∉ r := fun z => h (List.mem_cons_of_mem _ z)
    rw [pt, if_neg h1, pt_none h2]
theorem pt_app {c : Nat} : ∀ {p r : List Nat}, c ∉ p → pt c (p ++ c :: r) = (p, true, r)
  | [], r, _ => by
    rw [List.nil_append, pt, if_pos rfl]
  | d :: p, r, h => by
    have h1 : ¬ d = c := fun z => h (z ▸ List.mem_cons_self)
    have h2 : c ∉ p := fun z => h (List.mem_cons_of_mem _ z)
    rw [List.cons_append, pt, if_neg h1, pt_app h2]
theorem pt_cut {c : Nat} {l : List Nat} {i : Nat} (h : l[i]? = some c) (hn : ∀ k, k < i → l[k]? ≠ some c) : pt c l = (l.take i, true, l.drop (i + 1)) := by
  induction l generalizing i with
  | nil => simp at h
  | cons d r ih =>
    cases i with
    | zero =>
      simp at h
      rw [pt, if_pos h]
      rfl
    | succ i =>
      have h1 : ¬ d = c := fun z => hn 0 (Nat.zero_lt_succ _) (by simp [z])
      rw [pt, if_neg h1, ih (by simpa using h) (fun k hk => by simpa using hn (k + 1) (Nat.succ_lt_succ hk))]
      rfl
theorem pt_len (c : Nat) : ∀ l : List Nat, (pt c l).1.length ≤ l.length ∧ (pt c l).2.2.length ≤ l.length
  | [] => ⟨Nat.le_refl _, Nat.le_refl _⟩
  | d :: r => by
    have ih := pt_len c r
    rw [pt]
    split
    · exact ⟨Nat.zero_le _, Nat.le_succ _⟩
    · exact ⟨Nat.succ_le_succ ih.1, Nat.le_succ_of_le ih.2⟩
theorem pt_sum (c : Nat) : ∀ l : List Nat, (pt c l).1 ++ (if (pt c l).2.1 = true then [c] else []) ++ (pt c l).2.2 = l
  | [] => rfl
  | d :: r => by
    have ih := pt_sum c r
    rw [pt]
    split
    · rename_i h
      subst h
      rfl
    · simp only [List.cons_append] at ih ⊢
      rw [ih]
theorem part_eq (x : Str) (c : Nat) : Txt.partition x (mk [c]) = (mk (pt c (cs x)).1, mk (if (pt c (cs x)).2.1 = true then [c] else []), mk (pt c (cs x)).2.2) := by
  unfold Txt.partition
  rcases occ_head x (mk [c]) 1 (Nat.le_refl _) with ⟨h, hn⟩ | ⟨i, r, h, ha, hn⟩
  · rw [h]
    have nc : c ∉ cs x := fun z => by
      obtain ⟨i, hi⟩ := List.mem_iff_getElem?.mp z
      exact hn i ((subAt_one x c i).mpr hi)
    rw [pt_none nc, mk_cs]
    rfl
  · rw [h]
    have hi := (subAt_one x c i).mp ha
    rw [pt_cut hi fun k hk z => hn k hk ((subAt_one x c k).mpr z)]
    have hl : i < (cs x).length := (List.getElem?_eq_some_iff.mp hi).1
    refine Prod.ext ?_ (Prod.ext rfl ?_)
    · apply cs_inj
      show cs (strSub x 0 i) = (cs x).take i
      unfold cs
      rw [strSub_toList, List.drop_zero, Nat.sub_zero]
    · apply cs_inj
      show cs (strSub x (i + 1) x.length) = (cs x).drop (i + 1)
      unfold cs
      rw [strSub_toList]
      exact List.take_of_length_le (by rw [List.length_drop, len_cs]; exact Nat.le_refl _)
def occL (y : List Nat) : Nat → List Nat → Nat → List Nat
  | _, [], _ => []
  | 0, c :: r, i => if y.isPrefixOf (c :: r) then i :: occL y (y.length - 1) r (i + 1) else occL y 0 r (i + 1)
  | k + 1, _ :: r, i => occL y k r (i + 1)
def hd0 (c : Nat) : List (List Nat) → List (List Nat)
  | [] => [[c]]
  | p :: r => (c :: p) :: r
def sp (y : List Nat) : Nat → List Nat → List (List Nat)
  | _, [] => [[]]
  | 0, c :: r => if y.isPrefixOf (c :: r) then [] :: sp y (y.length - 1) r else hd0 c (sp y 0 r)
  | k + 1, _ :: r => sp y k r
theorem sp_ne (y : List Nat) : ∀ (k : Nat) (l : List Nat), ∃ p r, sp y k l = p :: r
  | 0, [] => ⟨_, _, rfl⟩
  | _ + 1, [] => ⟨_, _, rfl⟩
  | 0, c :: r => by
    unfold sp
    split
    · exact ⟨_, _, rfl⟩
    · obtain ⟨p, q, e⟩ := sp_ne y 0 r
      rw [e]
      exact ⟨_, _, rfl⟩
  | k + 1, _ :: r => by
    unfold sp
    exact sp_ne y k r
theorem at_iff {x y : Str} {i : Nat} : At x y x.length i ↔ (cs y).isPrefixOf ((cs x).drop i) = true ∧ i + y.length ≤ x.length := by
  unfold At
  rw [subAt_eq]
  have e : y.length = (cs y).length := len_cs y
  constructor
  · rintro ⟨h1, h2⟩
    refine ⟨?_, h1⟩
    rw [List.isPrefixOf_iff_prefix]
    have h3 := eq_of_beq h2
    exact ⟨((cs x).drop i).drop y.length, by
      have h3 : ((cs x).drop i).take y.length = cs y := h3
      rw [← h3]
      exact List.take_append_drop _ _⟩
  · rintro ⟨h1, h2⟩
    refine ⟨h2, ?_⟩
    rw [List.isPrefixOf_iff_prefix] at h1
    obtain ⟨t, ht⟩ := h1
    rw [beq_iff_eq]
    show ((cs x).drop i).take y.length = cs y
    rw [← ht, e, List.take_left]
theorem occ_go {x y : Str} (hy : 1 ≤ y.length) : ∀ (m i k : Nat) (acc : Array Nat), i + m = x.length + 1 → acc.size ≤ i →
    (forIn (List.range' i m) (acc, i + k) (occBody x y x.length (x.length + 1))).run.fst.toList = acc.toList ++ occL (cs y) k ((cs x).drop i) i
  | 0, i, k, acc, h, _ => by
    have e : (cs x).drop i = [] := List.drop_eq_nil_of_le (by rw [← len_cs]; omega)
    rw [e]
    cases k <;> simp [occL]
  | m + 1, i, k, acc, h, ha => by
    have hl : (cs x).length = x.length := (len_cs x).symm
    show (forIn (i :: List.range' (i + 1) m) (acc, i + k) (occBody x y x.length (x.length + 1))).run.fst.toList = _
    rw [List.forIn_cons]
    unfold occBody
    cases k with
    | succ k =>
      have nc : ¬ (((((acc, i + (k + 1)) : Array Nat × Nat).fst.size < x.length + 1 ∧ ((acc, i + (k + 1)) : Array Nat × Nat).snd ≤ i) ∧ i + y.length ≤ x.length) ∧ subAt x y i = true) := fun z => by
        have z2 : i + (k + 1) ≤ i := z.1.1.2
        omega
      rw [if_neg nc]
      have ih := occ_go (x := x) hy m (i + 1) k acc (by omega) (by omega)
      rw [show i + 1 + k = i + (k + 1) by omega] at ih
      refine ih.trans ?_
      congr 1
      by_cases c : i < (cs x).length
      · rw [List.drop_eq_getElem_cons c]
        rfl
      · rw [List.drop_eq_nil_of_le (by omega), List.drop_eq_nil_of_le (by omega)]
        cases k <;> rfl
    | zero =>
      by_cases hc : At x y x.length i
      · have h2 := at_iff.mp hc
        have hlt : i < (cs x).length := by rw [hl]; omega
        have c1 : ((((acc, i + 0) : Array Nat × Nat).fst.size < x.length + 1 ∧ ((acc, i + 0) : Array Nat × Nat).snd ≤ i) ∧ i + y.length ≤ x.length) ∧ subAt x y i = true := ⟨⟨⟨show acc.size < x.length + 1 by omega, show i + 0 ≤ i by omega⟩, hc.1⟩, hc.2⟩
        rw [if_pos c1]
        have ih := occ_go (x := x) hy m (i + 1) (y.length - 1) (acc.push i) (by omega) (by rw [Array.size_push]; omega)
        rw [show i + 1 + (y.length - 1) = i + y.length by omega] at ih
        refine ih.trans ?_
        rw [Array.toList_push, List.append_assoc]
        congr 1
        rw [List.drop_eq_getElem_cons hlt, occL]
        rw [List.drop_eq_getElem_cons hlt] at h2
        rw [if_pos h2.1, ← len_cs]
        rfl
      · have nc : ¬ (((((acc, i + 0) : Array Nat × Nat).fst.size < x.length + 1 ∧ ((acc, i + 0) : Array Nat × Nat).snd ≤ i) ∧ i + y.length ≤ x.length) ∧ subAt x y i = true) := fun z => hc ⟨z.1.2, z.2⟩
        rw [if_neg nc]
        have ih := occ_go (x := x) hy m (i + 1) 0 acc (by omega) (by omega)
        by_cases hlt : i < (cs x).length
        · have np : ¬ (cs y).isPrefixOf ((cs x)[i] :: (cs x).drop (i + 1)) = true := fun z => by
            rw [← List.drop_eq_getElem_cons hlt] at z
            refine hc (at_iff.mpr ⟨z, ?_⟩)
            rw [List.isPrefixOf_iff_prefix] at z
            have := z.length_le
            rw [List.length_drop, ← len_cs, ← len_cs] at this
            omega
          rw [List.drop_eq_getElem_cons hlt, occL, if_neg np]
          -- the state is (acc, i) still, one place further
          have st : ∀ (l : List Nat), (∀ j ∈ l, i + 1 ≤ j) → ∀ (a : Array Nat),
              (forIn l ((a, i + 0) : Array Nat × Nat) (occBody x y x.length (x.length + 1))).run.fst = (forIn l ((a, i + 1) : Array Nat × Nat) (occBody x y x.length (x.length + 1))).run.fst := fun l => by
            induction l with
            | nil => intro _ _; rfl
            | cons j l ihl =>
              intro hj a
              have j1 := hj j List.mem_cons_self
              rw [List.forIn_cons, List.forIn_cons]
              by_cases q : ((a.size < x.length + 1) ∧ j + y.length ≤ x.length) ∧ subAt x y j = true
              · have q1 : ((((a, i + 0) : Array Nat × Nat).fst.size < x.length + 1 ∧ ((a, i + 0) : Array Nat × Nat).snd ≤ j) ∧ j + y.length ≤ x.length) ∧ subAt x y j = true := ⟨⟨⟨q.1.1, show i + 0 ≤ j by omega⟩, q.1.2⟩, q.2⟩
                have q2 : ((((a, i + 1) : Array Nat × Nat).fst.size < x.length + 1 ∧ ((a, i + 1) : Array Nat × Nat).snd ≤ j) ∧ j + y.length ≤ x.length) ∧ subAt x y j = true := ⟨⟨⟨q.1.1, show i + 1 ≤ j by omega⟩, q.1.2⟩, q.2⟩
                unfold occBody
                rw [if_pos q1, if_pos q2]
              · have q1 : ¬ (((((a, i + 0) : Array Nat × Nat).fst.size < x.length + 1 ∧ ((a, i + 0) : Array Nat × Nat).snd ≤ j) ∧ j + y.length ≤ x.length) ∧ subAt x y j = true) := fun z => q ⟨⟨z.1.1.1, z.1.2⟩, z.2⟩
                have q2 : ¬ (((((a, i + 1) : Array Nat × Nat).fst.size < x.length + 1 ∧ ((a, i + 1) : Array Nat × Nat).snd ≤ j) ∧ j + y.length ≤ x.length) ∧ subAt x y j = true) := fun z => q ⟨⟨z.1.1.1, z.1.2⟩, z.2⟩
                have b1 : occBody x y x.length (x.length + 1) j (a, i + 0) = pure (ForInStep.yield (a, i + 0)) := by
                  unfold occBody
                  exact if_neg q1
                have b2 : occBody x y x.length (x.length + 1) j (a, i + 1) = pure (ForInStep.yield (a, i + 1)) := by
                  unfold occBody
                  exact if_neg q2
                rw [b1, b2]
                exact ihl (fun z hz => hj z (List.mem_cons_of_mem _ hz)) a
          have key := st (List.range' (i + 1) m) (fun j hj => (List.mem_range'_1.mp hj).1) acc
          refine (congrArg Array.toList key).trans ?_
          exact ih
        · have hd : (cs x).drop i = [] := List.drop_eq_nil_of_le (by omega)
          have hm : m = 0 := by omega
          subst hm
          rw [hd]
          simp [occL]
theorem occ_all (x y : Str) (hy : 1 ≤ y.length) : occurrences x y 0 x.length (x.length + 1) = occL (cs y) 0 (cs x) 0 := by
  rw [occ_eq]
  have h := occ_go (x := x) hy (x.length + 1) 0 0 #[] (by omega) (by simp)
  simpa using h
theorem strSub_cs (x : Str) (i j : Nat) : cs (strSub x i j) = ((cs x).drop i).take (j - i) := strSub_toList x i j
theorem parts_sp (x : Str) (y : List Nat) (hy : 1 ≤ y.length) : ∀ (m i k a : Nat), i + m = x.length → (k = 0 → a ≤ i) → (0 < k → a = i + k) → i + k ≤ x.length →
    (partsFrom x y.length a (occL y k ((cs x).drop i) i)).map cs = (match sp y k ((cs x).drop i) with
      | [] => []
      | p :: r => (((cs x).drop a).take (i - a) ++ p) :: r)
  | 0, i, k, a, h, h0, h1, hk => by
    have e : (cs x).drop i = [] := List.drop_eq_nil_of_le (by rw [← len_cs]; omega)
    have k0 : k = 0 := by omega
    subst k0
    rw [e]
    simp only [occL, sp, partsFrom, List.map_cons, List.map_nil, List.append_nil]
    rw [strSub_cs, show x.length = i by omega]
  | m + 1, i, k, a, h, h0, h1, hk => by
    have hl : (cs x).length = x.length := (len_cs x).symm
    have hlt : i < (cs x).length := by omega
    have ed := List.drop_eq_getElem_cons hlt
    cases k with
    | succ k =>
      have ea := h1 (Nat.zero_lt_succ _)
      have ih := parts_sp x y hy m (i + 1) k a (by omega) (by omega) (by omega) (by omega)
      rw [ed]
      simp only [occL, sp]
      rw [ih]
      have z1 : ((cs x).drop a).take (i + 1 - a) = [] := by rw [show i + 1 - a = 0 by omega]; rfl
      have z2 : ((cs x).drop a).take (i - a) = [] := by rw [show i - a = 0 by omega]; rfl
      rw [z1, z2]
    | zero =>
      have ha := h0 rfl
      rw [ed]
      by_cases hp : y.isPrefixOf ((cs x)[i] :: (cs x).drop (i + 1)) = true
      · have hlen : i + y.length ≤ x.length := by
          rw [← ed, List.isPrefixOf_iff_prefix] at hp
          have := hp.length_le
          rw [List.length_drop] at this
          omega
        have ih := parts_sp x y hy m (i + 1) (y.length - 1) (i + y.length) (by omega) (by omega) (by omega) (by omega)
        simp only [occL, sp, if_pos hp, partsFrom, List.map_cons]
        rw [ih, strSub_cs]
        have z1 : ((cs x).drop (i + y.length)).take (i + 1 - (i + y.length)) = [] := by rw [show i + 1 - (i + y.length) = 0 by omega]; rfl
        obtain ⟨p, r, e⟩ := sp_ne y (y.length - 1) ((cs x).drop (i + 1))
        rw [e, z1, List.append_nil]
        rfl
      · have ih := parts_sp x y hy m (i + 1) 0 a (by omega) (by omega) (by omega) (by omega)
        simp only [occL, sp, if_neg hp]
        rw [ih]
        obtain ⟨p, r, e⟩ := sp_ne y 0 ((cs x).drop (i + 1))
        rw [e]
        simp only [hd0]
        congr 1
        rw [show i + 1 - a = (i - a) + 1 by omega, List.take_succ, List.append_assoc]
        congr 1
        rw [List.getElem?_drop, show a + (i - a) = i by omega, List.getElem?_eq_getElem hlt]
        rfl
theorem kind_ok {x y : Str} (h : ∀ c ∈ cs y, c < 256) : decide (PySem.Builtin.Str.strKind x < PySem.Builtin.Str.strKind y) = false := by
  have hy : PySem.Builtin.Str.strKind y = 1 := by
    unfold PySem.Builtin.Str.strKind
    rw [if_pos]
    rw [Array.all_eq_true_iff_forall_mem]
    intro c hc
    exact decide_eq_true (h c (Array.mem_toList_iff.mpr hc))
  have hx : 1 ≤ PySem.Builtin.Str.strKind x := by
    unfold PySem.Builtin.Str.strKind
    split
    · exact Nat.le_refl _
    · split <;> omega
  rw [hy]
  exact decide_eq_false (by omega)
theorem occL_len {y : List Nat} (hy : 1 ≤ y.length) : ∀ (l : List Nat) (k i : Nat), l.length < y.length → occL y k l i = []
  | [], k, i, _ => by cases k <;> rfl
  | c :: r, 0, i, h => by
    have np : ¬ y.isPrefixOf (c :: r) = true := fun z => by
      rw [List.isPrefixOf_iff_prefix] at z
      have := z.length_le
      omega
    rw [occL, if_neg np]
    exact occL_len hy r 0 (i + 1) (by rw [List.length_cons] at h; omega)
  | c :: r, k + 1, i, h => by
    rw [occL]
    exact occL_len hy r k (i + 1) (by rw [List.length_cons] at h; omega)
theorem split_eq (x : Str) (y : List Nat) (hy : 1 ≤ y.length) (h : ∀ c ∈ y, c < 256) : Txt.split x (mk y) = (sp y 0 (cs x)).map mk := by
  have ym : 1 ≤ (mk y).length := by rw [mk_len]; exact hy
  have key := parts_sp x y hy x.length 0 0 0 (by omega) (by omega) (by omega) (by omega)
  obtain ⟨p, r, e⟩ := sp_ne y 0 (cs x)
  rw [List.drop_zero, e] at key
  have key2 : partsFrom x y.length 0 (occL y 0 (cs x) 0) = (sp y 0 (cs x)).map mk := by
    rw [e]
    have : (partsFrom x y.length 0 (occL y 0 (cs x) 0)).map cs = p :: r := by
      rw [key]
      rfl
    rw [← this, List.map_map]
    refine (List.map_id'' (f := mk ∘ cs) (fun z => mk_cs z) _).symm
  have hocc : occurrences x (mk y) 0 x.length (x.length + 1) = occL y 0 (cs x) 0 := occ_all x (mk y) ym
  unfold Txt.split
  rw [kind_ok (x := x) (y := mk y) (by rw [cs_mk]; exact h), Bool.or_false]
  have whole : occL y 0 (cs x) 0 = [] → [x] = (sp y 0 (cs x)).map mk := fun z => by
    rw [← key2, z]
    show [x] = [strSub x 0 x.length]
    rw [sub_whole]
  by_cases c : x.length < (mk y).length
  · rw [if_pos (decide_eq_true c)]
    exact whole (occL_len hy _ _ _ (by rw [← len_cs, ← mk_len y]; exact c))
  · rw [if_neg (by rw [decide_eq_false c]; exact Bool.false_ne_true), hocc]
    split
    · rename_i z
      exact whole (by simpa using z)
    · rw [partsBetween_eq, mk_len]
      exact key2
theorem sp_skip (y r : List Nat) : ∀ (q : List Nat), sp y q.length (q ++ r) = sp y 0 r
  | [] => rfl
  | c :: q => by
    show sp y (q.length + 1) (c :: (q ++ r)) = _
    rw [sp]
    exact sp_skip y r q
theorem sp_sep (y r : List Nat) (hy : 1 ≤ y.length) : sp y 0 (y ++ r) = [] :: sp y 0 r := by
  cases y with
  | nil => cases hy
  | cons c q =>
    rw [List.cons_append, sp, if_pos (by rw [List.isPrefixOf_iff_prefix]; exact ⟨r, rfl⟩)]
    show [] :: sp (c :: q) q.length (q ++ r) = _
    rw [sp_skip]
theorem sp_part {c : Nat} {q r : List Nat} : ∀ {p : List Nat}, c ∉ p → sp (c :: q) 0 (p ++ ((c :: q) ++ r)) = p :: sp (c :: q) 0 r
  | [], _ => sp_sep (c :: q) r (Nat.succ_le_succ (Nat.zero_le _))
  | d :: p, h => by
    have h1 : ¬ d = c := fun z => h (z ▸ List.mem_cons_self)
    have h2 : c ∉ p := fun z => h (List.mem_cons_of_mem _ z)
    have np : ¬ (c :: q).isPrefixOf (d :: (p ++ ((c :: q) ++ r))) = true := fun z => by
      rw [List.isPrefixOf_iff_prefix] at z
      obtain ⟨t, ht⟩ := z
      exact h1 (List.cons.inj ht).1.symm
    rw [List.cons_append, sp, if_neg np, sp_part h2]
    rfl
theorem sp_last {c : Nat} {q : List Nat} : ∀ {p : List Nat}, c ∉ p → sp (c :: q) 0 p = [p]
  | [], _ => rfl
  | d :: p, h => by
    have h1 : ¬ d = c := fun z => h (z ▸ List.mem_cons_self)
    have h2 : c ∉ p := fun z => h (List.mem_cons_of_mem _ z)
    have np : ¬ (c :: q).isPrefixOf (d :: p) = true := fun z => by
      rw [List.isPrefixOf_iff_prefix] at z
      obtain ⟨t, ht⟩ := z
      exact h1 (List.cons.inj ht).1.symm
    rw [sp, if_neg np, sp_last h2]
    rfl
def jn (y : List Nat) : List (List Nat) → List Nat
  | [] => []
  | [p] => p
  | p :: q :: r => p ++ y ++ jn y (q :: r)
theorem jn_cons (y p : List Nat) {ps : List (List Nat)} (h : ps ≠ []) : jn y (p :: ps) = p ++ (y ++ jn y ps) := by
  cases ps with
  | nil => exact (h rfl).elim
  | cons q r => rw [jn, List.append_assoc]
theorem join_eq (y : List Nat) (ps : List (List Nat)) : Txt.join (mk y) (ps.map mk) = mk (jn y ps) := by
  unfold Txt.join
  rw [glued_eq_join]
  induction ps with
  | nil => rfl
  | cons p r ih =>
    cases r with
    | nil => rfl
    | cons q r =>
      show mk p ++ mk y ++ Str.join (mk y) ((q :: r).map mk) = _
      rw [ih, mk_app, mk_app]
      rfl
theorem sp_jn {c : Nat} {q : List Nat} : ∀ {ps : List (List Nat)}, ps ≠ [] → (∀ p ∈ ps, c ∉ p) → sp (c :: q) 0 (jn (c :: q) ps) = ps
  | [], h, _ => (h rfl).elim
  | [p], _, h => sp_last (h p List.mem_cons_self)
  | p :: p2 :: r, _, h => by
    rw [jn_cons _ _ (List.cons_ne_nil _ _), sp_part (h p List.mem_cons_self), sp_jn (List.cons_ne_nil _ _) fun z hz => h z (List.mem_cons_of_mem _ hz)]
theorem jn_sp (y : List Nat) (hy : 1 ≤ y.length) (h : ∀ c ∈ y, c < 256) (l : List Nat) : jn y (sp y 0 l) = l := by
  have e := join_split (mk l) (mk y)
  rw [split_eq (mk l) y hy h] at e
  have e2 := join_eq y (sp y 0 l)
  unfold Txt.join at e2
  rw [glued_eq_join] at e2
  rw [cs_mk] at e
  rw [e] at e2
  have := congrArg cs e2
  simpa using this.symm
theorem sp_len (y : List Nat) : ∀ (l : List Nat) (k : Nat) (p : List Nat), p ∈ sp y k l → p.length ≤ l.length
  | [], k, p, h => by
    have : p = [] := by cases k <;> simpa [sp] using h
    rw [this]
    exact Nat.le_refl _
  | c :: r, 0, p, h => by
    rw [sp] at h
    split at h
    · rcases List.mem_cons.mp h with h | h
      · rw [h]; exact Nat.zero_le _
      · exact Nat.le_succ_of_le (sp_len y r _ p h)
    · obtain ⟨p2, r2, e⟩ := sp_ne y 0 r
      rw [e] at h
      have ih : ∀ q ∈ p2 :: r2, q.length ≤ r.length := fun q hq => sp_len y r 0 q (e ▸ hq)
      rcases List.mem_cons.mp h with h | h
      · rw [h]
        exact Nat.succ_le_succ (ih p2 List.mem_cons_self)
      · exact Nat.le_succ_of_le (ih p (List.mem_cons_of_mem _ h))
  | c :: r, k + 1, p, h => by
    rw [sp] at h
    exact Nat.le_succ_of_le (sp_len y r k p h)
theorem sp_many (y : List Nat) : ∀ (l : List Nat) (k : Nat), (sp y k l).length ≤ l.length + 1
  | [], k => by cases k <;> exact Nat.le_refl _
  | c :: r, 0 => by
    rw [sp]
    split
    · exact Nat.succ_le_succ (sp_many y r _)
    · have ih := sp_many y r 0
      obtain ⟨p2, r2, e⟩ := sp_ne y 0 r
      rw [e] at ih ⊢
      exact Nat.le_succ_of_le ih
  | c :: r, k + 1 => by
    rw [sp]
    exact Nat.le_succ_of_le (sp_many y r k)
end TxtP
end T_TxtP
section T_NumP
set_option linter.all false
set_option maxRecDepth 100000
namespace TxtP
open PySem
def dg (n : Nat) : List Nat := (Nat.toDigits 10 n).map Char.toNat
def vl (l : List Nat) : Nat := l.foldl (fun acc c => acc * 10 + (c - 48)) 0
abbrev Fig (c : Nat) : Prop := 48 ≤ c ∧ c ≤ 57
theorem dchar {d : Nat} (h : d < 10) : (Nat.digitChar d).toNat = 48 + d := by
  have : d = 0 ∨ d = 1 ∨ d = 2 ∨ d = 3 ∨ d = 4 ∨ d = 5 ∨ d = 6 ∨ d = 7 ∨ d = 8 ∨ d = 9 := by omega
  rcases this with rfl | rfl | rfl | rfl | rfl | rfl | rfl | rfl | rfl | rfl <;> rfl
theorem dg_lt {n : Nat} (h : n < 10) : dg n = [48 + n] := by
  unfold dg
  rw [Nat.toDigits_of_lt_base h]
  show [(Nat.digitChar n).toNat] = _
  rw [dchar h]
theorem dg_ge {n : Nat} (h : 10 ≤ n) : dg n = dg (n / 10) ++ [48 + n % 10] := by
  unfold dg
  rw [Nat.toDigits_of_base_le (by decide) h, List.map_append]
  show _ ++ [(Nat.digitChar (n % 10)).toNat] = _
  rw [dchar (Nat.mod_lt _ (by decide))]
theorem dg_ind {P : Nat → Prop} (h1 : ∀ n, n < 10 → P n) (h2 : ∀ n, 10 ≤ n → P (n / 10) → P n) (n : Nat) : P n := by
  induction n using Nat.strongRecOn with
  | _ n ih =>
    by_cases h : n < 10
    · exact h1 n h
    · exact h2 n (by omega) (ih (n / 10) (by omega))
theorem dg_fig (n : Nat) : ∀ c ∈ dg n, Fig c := by
  induction n using dg_ind with
  | h1 n h =>
    rw [dg_lt h]
    intro c hc
    have := List.mem_singleton.mp hc
    unfold Fig
    omega
  | h2 n h ih =>
    rw [dg_ge h]
    intro c hc
    rcases List.mem_append.mp hc with z | z
    · exact ih c z
    · have := List.mem_singleton.mp z
      unfold Fig
      omega
theorem dg_ne (n : Nat) : dg n ≠ [] := by
  induction n using dg_ind with
  | h1 n h => rw [dg_lt h]; exact List.cons_ne_nil _ _
  | h2 n h ih => rw [dg_ge h]; simp
theorem dg_len {n k : Nat} (hk : 0 < k) (h : n < 10 ^ k) : (dg n).length ≤ k := by
  unfold dg
  rw [List.length_map]
  exact (Nat.length_toDigits_le_iff (by decide) hk).mpr h
theorem dg_pos (n : Nat) : 1 ≤ (dg n).length := by
  cases e : dg n with
  | nil => exact (dg_ne n e).elim
  | cons a r => rw [List.length_cons]; omega
theorem vl_snoc (l : List Nat) (c : Nat) : vl (l ++ [c]) = vl l * 10 + (c - 48) := by
  unfold vl
  rw [List.foldl_append]
  rfl
theorem vl_dg (n : Nat) : vl (dg n) = n := by
  induction n using dg_ind with
  | h1 n h =>
    rw [dg_lt h]
    show 0 * 10 + (48 + n - 48) = n
    omega
  | h2 n h ih =>
    rw [dg_ge h, vl_snoc, ih]
    omega
abbrev Plain (l : List Nat) : Prop := l.head? ≠ some 48 ∨ l = [48]
theorem dg_plain (n : Nat) : Plain (dg n) := by
  have key : 1 ≤ n → (dg n).head? ≠ some 48 := by
    induction n using dg_ind with
    | h1 n h =>
      intro hn
      rw [dg_lt h]
      intro z
      have : 48 + n = 48 := by simpa using z
      omega
    | h2 n h ih =>
      intro hn
      rw [dg_ge h, List.head?_append]
      have := ih (by omega)
      cases e : (dg (n / 10)).head? with
      | none => exact (dg_ne _ (List.head?_eq_none_iff.mp e)).elim
      | some a =>
        rw [e] at this
        exact this
  by_cases h : 1 ≤ n
  · exact .inl (key h)
  · have : n = 0 := by omega
    subst this
    exact .inr (by rw [dg_lt (by decide)])
theorem str_nat (n : Nat) : Str.ofString (toString ((n : Nat) : Int)) = mk (dg n) := by
  rw [Str.ofString_eq_toList]
  have e : toString ((n : Nat) : Int) = toString n := rfl
  rw [e, Nat.toString_eq_ofList_toDigits, String.toList_ofList]
  rfl
open PySem.NumText in
theorem steps {l : List Nat} (hf : ∀ c ∈ l, Fig c) : ∀ (acc : Array Nat) (b : Bool), l ≠ [] → l.foldlM (NumText.step 10) (acc, b) = some (acc ++ (l.map (· - 48)).toArray, true) := by
  induction l with
  | nil => intro _ _ h; exact (h rfl).elim
  | cons c r ih =>
    intro acc b _
    have hc := hf c List.mem_cons_self
    have e : NumText.step 10 (acc, b) c = some (acc.push (c - 48), true) := by
      unfold NumText.step
      unfold Fig at hc
      have n95 : (c == 95) = false := beq_eq_false_iff_ne.mpr (by omega)
      rw [n95]
      have d : digit? c = some (c - 48) := by
        unfold digit?
        rw [if_pos (by simp; omega)]
      rw [d]
      simp only [Bool.false_eq_true, if_false]
      rw [if_pos (by omega)]
    rw [List.foldlM_cons, e]
    show r.foldlM (NumText.step 10) (acc.push (c - 48), true) = _
    cases r with
    | nil =>
      show some _ = some _
      congr 2
    | cons d r =>
      rw [ih (fun z hz => hf z (List.mem_cons_of_mem _ hz)) _ _ (List.cons_ne_nil _ _)]
      congr 2
      apply Array.toList_inj.mp
      simp
open PySem.NumText in
theorem int_text {l : List Nat} (h0 : l ≠ []) (hf : ∀ c ∈ l, Fig c) (hl : l.length ≤ 640) : intText? (mk l) = some ((vl l : Nat) : Int) := by
  have all : (mk l).cps.all (· < 128) = true := by
    rw [Array.all_eq_true_iff_forall_mem]
    intro c hc
    have := hf c (Array.mem_toList_iff.mpr hc)
    unfold Fig at this
    exact decide_eq_true (by omega)
  have et : numTextOf (mk l) = l := by
    unfold numTextOf
    rw [if_pos all]
  have es : numSeenOf (mk l) = l := by
    unfold numSeenOf
    rw [et]
    have : ∀ (q : List Nat), (∀ c ∈ q, Fig c) → q.takeWhile (· != 0) = q := by
      intro q
      induction q with
      | nil => intro _; rfl
      | cons c r ih =>
        intro hq
        have := hq c List.mem_cons_self
        unfold Fig at this
        rw [List.takeWhile_cons, if_pos (by simp; omega), ih fun z hz => hq z (List.mem_cons_of_mem _ hz)]
    exact this l hf
  have nb : ∀ c ∈ l, blank c = false := fun c hc => by
    have := hf c hc
    unfold Fig at this
    unfold blank
    simp
    omega
  have dw : ∀ (q : List Nat), (∀ c ∈ q, blank c = false) → q.dropWhile blank = q := fun q hq => by
    cases q with
    | nil => rfl
    | cons c r => rw [List.dropWhile_cons, if_neg (by rw [hq c List.mem_cons_self]; exact Bool.false_ne_true)]
  have sg : ∀ (q : List Nat), (∀ c ∈ q, Fig c) → sign q = (false, q) := fun q hq => by
    cases q with
    | nil => rfl
    | cons c r =>
      have := hq c List.mem_cons_self
      unfold Fig at this
      unfold sign
      split
      · rename_i z
        have := (List.cons.inj z).1
        omega
      · rename_i z
        have := (List.cons.inj z).1
        omega
      · rfl
  have ec : core l = l := by
    unfold core
    rw [dw l nb, sg l hf, dw l.reverse (fun c hc => nb c (List.mem_reverse.mp hc)), List.reverse_reverse]
  have ed : digits? 10 l = some (l.map (· - 48)).toArray := by
    unfold digits?
    rw [steps hf #[] false h0]
    simp
  unfold intText?
  rw [es, et, if_pos (by simp), ec, ed]
  simp only
  rw [if_pos (by simp; omega), dw l nb, sg l hf]
  unfold worth vl
  congr 1
  simp [List.foldl_map]
def isNum (l : List Nat) : Bool := decide (1 ≤ l.length) && decide (l.length ≤ 60) && l.all (fun c => decide (48 ≤ c) && decide (c ≤ 57)) && (decide (l.head? ≠ some 48) || decide (l = [48]))
theorem isNum_iff {l : List Nat} : isNum l = true ↔ (1 ≤ l.length ∧ l.length ≤ 60) ∧ (∀ c ∈ l, Fig c) ∧ Plain l := by
  unfold isNum
  simp only [Bool.and_eq_true, Bool.or_eq_true, decide_eq_true_eq, List.all_eq_true]
  constructor
  · rintro ⟨⟨⟨a, b⟩, c⟩, d⟩
    exact ⟨⟨a, b⟩, c, d⟩
  · rintro ⟨⟨a, b⟩, c, d⟩
    exact ⟨⟨⟨a, b⟩, c⟩, d⟩
theorem isNum_dg {n : Nat} (h : n < 10 ^ 60) : isNum (dg n) = true := isNum_iff.mpr ⟨⟨dg_pos n, dg_len (by decide) h⟩, dg_fig n, dg_plain n⟩
end TxtP
end T_NumP
section T_EqP
set_option linter.all false
set_option maxRecDepth 100000
namespace Sim
open PySem
mutual
theorem eqv_self : ∀ d : PyData, PyData.canLay0 d = true → PyData.eqv d d = true
  | .none, _ => by unfold PyData.eqv; rfl
  | .bool b, _ => by unfold PyData.eqv; simp
  | .int i, _ => by unfold PyData.eqv; simp
  | .str x, _ => by unfold PyData.eqv; simp
  | .list xs, h => by
    unfold PyData.eqv
    unfold PyData.canLay0 at h
    exact eqvAll_self xs h
  | .tuple xs, h => by
    unfold PyData.eqv
    unfold PyData.canLay0 at h
    exact eqvAll_self xs h
  | .dict es, h => by unfold PyData.canLay0 at h; cases h
theorem eqvAll_self : ∀ ds : List PyData, PyData.canLayAll0 ds = true → PyData.eqvAll ds ds = true
  | [], _ => by unfold PyData.eqvAll; rfl
  | d :: ds, h => by
    unfold PyData.eqvAll
    unfold PyData.canLayAll0 at h
    rw [Bool.and_eq_true] at h ⊢
    exact ⟨eqv_self d h.1, eqvAll_self ds h.2⟩
end
theorem hNe_self {d : PyData} (h : SeqAt.shaped d = true) : hNe d d = .ok (.bool false) := by
  unfold hNe
  rw [h, eqv_self d (SeqAt.canLay_of_shaped h)]
  rfl
theorem layA_of {ds : List PyData} (h : ∀ d ∈ ds, PyData.canLay0 d = true) : PyData.canLayAll0 ds = true := by
  induction ds with
  | nil => rfl
  | cons d ds ih =>
    unfold PyData.canLayAll0
    rw [h d List.mem_cons_self, ih fun e he => h e (List.mem_cons_of_mem _ he)]
    rfl
theorem depA_of {ds : List PyData} {m : Nat} (h : ∀ d ∈ ds, PyData.depth d ≤ m) : PyData.depthAll ds ≤ m := by
  induction ds with
  | nil => unfold PyData.depthAll; omega
  | cons d ds ih =>
    unfold PyData.depthAll
    have h1 := h d List.mem_cons_self
    have h2 := ih fun e he => h e (List.mem_cons_of_mem _ he)
    omega
def Shp (m : Nat) (d : PyData) : Prop := PyData.canLay0 d = true ∧ PyData.depth d ≤ m
theorem Shp.shaped {m : Nat} {d : PyData} (h : Shp m d) (hm : m ≤ 64) : SeqAt.shaped d = true := by
  unfold SeqAt.shaped
  rw [h.1, decide_eq_true (by have := h.2; omega)]
  rfl
theorem shp_int (i : Int) (m : Nat) : Shp m (.int i) := ⟨rfl, by unfold PyData.depth; omega⟩
theorem shp_list {ds : List PyData} {m : Nat} (h : ∀ d ∈ ds, Shp m d) : Shp (m + 1) (.list ds) := ⟨by unfold PyData.canLay0; exact layA_of fun d hd => (h d hd).1, by
  unfold PyData.depth
  have := depA_of fun d hd => (h d hd).2
  omega⟩
theorem shp_tup {ds : List PyData} {m : Nat} (h : ∀ d ∈ ds, Shp m d) : Shp (m + 1) (.tuple ds) := ⟨by unfold PyData.canLay0; exact layA_of fun d hd => (h d hd).1, by
  unfold PyData.depth
  have := depA_of fun d hd => (h d hd).2
  omega⟩
theorem Shp.mono {m k : Nat} {d : PyData} (h : Shp m d) (hm : m ≤ k) : Shp k d := ⟨h.1, Nat.le_trans h.2 hm⟩
theorem shp_intsT (xs : List Int) (m : Nat) : Shp (m + 1) (.tuple (xs.map .int)) := shp_tup fun d hd => by
  obtain ⟨x, _, rfl⟩ := List.mem_map.mp hd
  exact shp_int x m
end Sim
end T_EqP
section T_SimSt
set_option Elab.async false
set_option linter.all false
set_option maxRecDepth 100000
set_option maxHeartbeats 2000000
namespace Sim
open PySem PySem.Spec L2
open PyProof.Rows hiding St
def okStr (d : Dt) : Bool := (match d with | .list _ => true | .tuple _ => true | _ => false) && PyData.canLay0 d && !PyData.hasDict d && PyData.showable d && decide (d.depth ≤ 60) && decide (d.shown.length ≤ sizeLine)
section
variable {X : Cx} {K : PySem.W.Frag} {W : Wt} {Δ : List Kd} {e : Expr} {es : List Expr} {tA : TA} {gA : List Dt → O (List Dt)} {av fr : Bool} {pos : Pos}
end
section
variable {P : Program} {w : World} {K : PySem.W.Frag} {mg : Str → Option Value} {base : Heap} {x qual : Str} {st : Stmt} {fa : Addr} {fd : FuncData} {N ps : List Str} {k n m : Nat} {Δn : List Kd} {g : Gs}
end
section
variable {P : Program} {w : World} {K : PySem.W.Frag} {mg mb : Str → Option Value} {k : Nat} {fa a : Addr} {fd : FuncData} {s₁ : Shared} {vs : List Value} {ns : List Int} {g : List Dt → O Dt}
end
end Sim
end T_SimSt
section T_ShwP
set_option linter.all false
set_option maxRecDepth 100000
namespace Sim
open PySem
def CpOk (x : Str) : Prop := ∀ c ∈ x.cps.toList, c < 0x110000
theorem CpOk.app {x y : Str} (hx : CpOk x) (hy : CpOk y) : CpOk (x ++ y) := fun c hc => by
  have e : (x ++ y).cps = x.cps ++ y.cps := rfl
  rw [e, Array.toList_append] at hc
  rcases List.mem_append.mp hc with h | h
  · exact hx c h
  · exact hy c h
theorem CpOk.shaped {x : Str} (h : CpOk x) : SeqAt.shaped (.str x) = true := by
  unfold SeqAt.shaped
  have e : PyData.canLay0 (.str x) = true := by
    unfold PyData.canLay0 PyData.strOk
    rw [Array.all_eq_true_iff_forall_mem]
    intro c hc
    exact decide_eq_true (h c (Array.mem_toList_iff.mpr hc))
  rw [e]
  unfold PyData.depth
  rfl
structure Shw (m w : Nat) (d : PyData) : Prop where
  shp : Shp m d
  nd : d.hasDict = false
  sh : d.showable = true
  ls : d.leavesShort 34 = true
  wt : d.weight ≤ w
  so : CpOk d.shown
theorem Shw.mono {m k w v : Nat} {d : PyData} (h : Shw m w d) (hm : m ≤ k) (hw : w ≤ v) : Shw k v d := ⟨h.shp.mono hm, h.nd, h.sh, h.ls, Nat.le_trans h.wt hw, h.so⟩
theorem Shw.str {m w : Nat} {d : PyData} (h : Shw m w d) (hm : m ≤ 60) (hw : w ≤ 400000) (hs : (∃ ds, d = .list ds) ∨ ∃ ds, d = .tuple ds) : okStr d = true := by
  have h1 := PyData.shown_le 34 (by decide) d h.ls
  have h2 := h.wt
  have h3 : d.shown.length ≤ sizeLine := by
    rw [sizeLine_eq]
    omega
  unfold okStr
  obtain ⟨c, dp⟩ := h.shp
  rw [c, h.nd, h.sh, decide_eq_true (by omega), decide_eq_true h3]
  rcases hs with ⟨ds, rfl⟩ | ⟨ds, rfl⟩ <;> rfl
theorem Shw.hNe {m w : Nat} {d : PyData} (h : Shw m w d) : Sim.hNe (.str d.shown) (.str d.shown) = .ok (.bool false) := hNe_self h.so.shaped
end Sim
end T_ShwP
section T_TxtQ
set_option linter.all false
set_option maxRecDepth 100000
set_option maxHeartbeats 1000000
namespace TxtP
open PySem Sim FamA
abbrev sD (l : List Nat) : Dt := .str (mk l)
def Asc (l : List Nat) : Prop := ∀ c ∈ l, c < 256
theorem Asc.app {l r : List Nat} (h : Asc l) (k : Asc r) : Asc (l ++ r) := fun c hc => (List.mem_append.mp hc).elim (h c) (k c)
theorem Asc.cp {l : List Nat} (h : Asc l) : CpOk (mk l) := fun c hc => by
  have hc : c ∈ l := hc
  have := h c hc
  omega
theorem asc_fig {l : List Nat} (h : ∀ c ∈ l, Fig c) : Asc l := fun c hc => by
  have := h c hc
  unfold Fig at this
  omega
theorem asc_dg (n : Nat) : Asc (dg n) := asc_fig (dg_fig n)
theorem asc_sub {l r : List Nat} (h : Asc l) (k : ∀ c ∈ r, c ∈ l) : Asc r := fun c hc => h c (k c hc)
theorem mk_inj {l r : List Nat} (h : mk l = mk r) : l = r := by
  have := congrArg cs h
  exact this
theorem hEq_s {l r : List Nat} (hl : Asc l) (hr : Asc r) : hEq (sD l) (sD r) = .ok (.bool (decide (l = r))) := by
  unfold hEq
  rw [hl.cp.shaped, hr.cp.shaped]
  simp only [Bool.and_self, if_true]
  unfold PyData.eqv
  congr 2
  by_cases c : l = r
  · rw [c]; simp
  · have : mk l ≠ mk r := fun z => c (mk_inj z)
    rw [decide_eq_false c]
    exact beq_eq_false_iff_ne.mpr this
theorem hNe_s {l r : List Nat} (hl : Asc l) (hr : Asc r) : hNe (sD l) (sD r) = .ok (.bool (!decide (l = r))) := by
  have h := hEq_s hl hr
  unfold hEq at h
  unfold hNe
  rw [hl.cp.shaped, hr.cp.shaped] at h ⊢
  simp only [Bool.and_self, if_true] at h ⊢
  injection h with h
  injection h with h
  rw [h]
theorem hAddS_s {l r : List Nat} (h : l.length + r.length ≤ 100000) : hAddS (sD l) (sD r) = .ok (sD (l ++ r)) := by
  unfold hAddS
  simp only [mk_len]
  rw [if_pos h, mk_app]
theorem hLen_s {l : List Nat} (h : l.length ≤ 100000) : hLen [sD l] = .ok (.int (l.length : Nat)) := by
  unfold hLen
  simp only [mk_len]
  rw [if_pos h]
theorem hIx_s {c : Nat} {l : List Nat} (h : (c :: l).length ≤ 100000) : hIx (sD (c :: l)) (.int 0) = .ok (sD [c]) := by
  unfold hIx
  simp only [mk_len]
  rw [if_pos h]
  have : L2.atI (mk (c :: l)).cps.toList 0 = some c := by
    show L2.atI (c :: l) 0 = some c
    unfold L2.atI L2.ixN
    simp
  rw [this]
theorem natAbs_log {i : Int} (h : i < 1000000000000000000000000000000000000000000000000000000000000) (h0 : 0 ≤ i) : i.natAbs.log2 < 1920 := by
  by_cases c : i.natAbs = 0
  · rw [c]; decide
  · have h2 : i.natAbs < 2 ^ 1920 := by
      have e : (1000000000000000000000000000000000000000000000000000000000000 : Nat) < 2 ^ 1920 := by decide +kernel
      omega
    exact (Nat.log2_lt c).mpr h2
theorem hStrI_s {i : Int} (h0 : 0 ≤ i) (h : i < 1000000000000000000000000000000000000000000000000000000000000) : hStrI [.int i] = .ok (sD (dg i.toNat)) := by
  unfold hStrI
  simp only [natAbs_log h h0, if_true]
  have e : i = ((i.toNat : Nat) : Int) := by omega
  rw [e, Int.toNat_natCast]
  exact congrArg (fun z => O.ok (PyData.str z)) (str_nat i.toNat)
theorem hIntS_s {l : List Nat} (h : isNum l = true) : hIntS [sD l] = .ok (.int (vl l : Nat)) := by
  obtain ⟨⟨h1, h2⟩, h3, h4⟩ := isNum_iff.mp h
  unfold hIntS
  simp only
  rw [int_text (fun z => by rw [z] at h1; simp at h1) h3 (by omega)]
  simp only [mk_len]
  rw [if_pos (by omega)]
theorem hPart_s {l : List Nat} {c : Nat} (h : l.length ≤ 100000) : hPart (mk l) (sD [c]) = .ok (.tuple [sD (pt c l).1, sD (if (pt c l).2.1 = true then [c] else []), sD (pt c l).2.2]) := by
  unfold hPart
  simp only [mk_len]
  rw [if_pos ⟨rfl, h⟩, part_eq]
theorem hSplit_s {l y : List Nat} (h : l.length ≤ 100000) (hy : 1 ≤ y.length) (ha : Asc y) : hSplit (mk l) (sD y) = .ok (.list ((sp y 0 l).map sD)) := by
  unfold hSplit
  simp only [mk_len]
  rw [if_pos ⟨by simp; intro z; rw [z] at hy; simp at hy, h⟩, split_eq (mk l) y hy ha, List.map_map]
  rfl
theorem sum_le {ps : List (List Nat)} {B : Nat} (h : ∀ p ∈ ps, p.length ≤ B) : ((ps.map mk).map (·.length)).sum ≤ ps.length * B := by
  induction ps with
  | nil => simp
  | cons p r ih =>
    have h1 := h p List.mem_cons_self
    have h2 := ih fun q hq => h q (List.mem_cons_of_mem _ hq)
    rw [List.map_cons, List.map_cons, List.sum_cons, List.length_cons, Nat.succ_mul, mk_len]
    omega
theorem hJoin_s {y : List Nat} {ps : List (List Nat)} (hp : ps.length ≤ 1000) (h : ∀ p ∈ ps, p.length ≤ 1000) (hy : y.length ≤ 10) : hJoin (mk y) (.list (ps.map sD)) = .ok (sD (jn y ps)) := by
  unfold hJoin
  simp only
  have e : strsD (ps.map sD) = some (ps.map mk) := by
    have := strsD_map (ps.map mk)
    rw [List.map_map] at this
    exact this
  rw [e]
  simp only
  have s := sum_le h
  have : ((ps.map mk).map (·.length)).sum + (ps.map mk).length * (mk y).length ≤ 16777216 := by
    rw [List.length_map, mk_len]
    have h1 : ps.length * 1000 ≤ 1000 * 1000 := Nat.mul_le_mul_right _ hp
    have h2 : ps.length * y.length ≤ 1000 * 10 := Nat.mul_le_mul hp hy
    omega
  rw [if_pos this, join_eq]
theorem gM1_s {h : Str → Dt → O Dt} {ga gb : Gd} {ρ : List Dt} {l : List Nat} {e z : Dt} (h1 : ga ρ = .ok (sD l)) (h2 : gb ρ = .ok e) (h3 : h (mk l) e = .ok z) : gM1 h ga gb ρ = .ok z := by
  unfold gM1
  rw [h1, bnd_ok]
  simp only
  rw [h2, bnd_ok, h3]
theorem gSigns_s {g : Gd} {ρ : List Dt} {l : List Nat} (h : g ρ = .ok (sD l)) : gSigns g ρ = .ok (l.map fun c => sD [c]) := by
  unfold gSigns
  rw [h, bnd_ok]
  rfl
theorem inS_one (c : Nat) (y : Str) : inS (mk [c]) y = decide (c ∈ cs y) := StrLaws.found_one y c
abbrev FIG : Str := "0123456789"
theorem fig_cs : cs FIG = [48, 49, 50, 51, 52, 53, 54, 55, 56, 57] := by decide +kernel
theorem hNotInF (c : Nat) : hNotInS (sD [c]) (.str FIG) = .ok (.bool (!(decide (48 ≤ c) && decide (c ≤ 57)))) := by
  unfold hNotInS
  simp only
  rw [inS_one, fig_cs]
  congr 3
  rw [Bool.eq_iff_iff, Bool.and_eq_true, decide_eq_true_eq, decide_eq_true_eq, decide_eq_true_eq]
  simp only [List.mem_cons, List.not_mem_nil, or_false]
  omega
theorem lit_none : (("none" : String) : Str) = mk [110, 111, 110, 101] := by decide +kernel
theorem lit_semi : (("; " : String) : Str) = mk [59, 32] := by decide +kernel
theorem lit_colon : ((":" : String) : Str) = mk [58] := by decide +kernel
theorem lit_dash : (("-" : String) : Str) = mk [45] := by decide +kernel
theorem lit_blank : ((" " : String) : Str) = mk [32] := by decide +kernel
theorem lit_0 : (("0" : String) : Str) = mk [48] := by decide +kernel
abbrev noneL : List Nat := [110, 111, 110, 101]
theorem asc_none : Asc noneL := fun c hc => by
  simp at hc
  omega
theorem asc_one {c : Nat} (h : c < 256) : Asc [c] := fun d hd => by rw [List.mem_singleton.mp hd]; exact h
theorem asc_cons {c : Nat} {l : List Nat} (h : c < 256) (k : Asc l) : Asc (c :: l) := fun d hd => (List.mem_cons.mp hd).elim (fun e => e ▸ h) (k d)
theorem asc_nil : Asc [] := fun c hc => nomatch hc
def tieL (t : T3) : List Nat := dg t.1.toNat ++ 58 :: (dg t.2.1.toNat ++ 45 :: dg t.2.2.toNat)
def recL (r : List T3) : List Nat := if r = [] then noneL else jn [59, 32] (r.map tieL)
theorem nd {c n : Nat} (h : ¬ Fig c) : c ∉ dg n := fun z => h (dg_fig n c z)
theorem tieL_59 (t : T3) : 59 ∉ tieL t := by
  unfold tieL
  intro z
  rcases List.mem_append.mp z with z | z
  · exact nd (by unfold Fig; omega) z
  · rcases List.mem_cons.mp z with z | z
    · cases z
    · rcases List.mem_append.mp z with z | z
      · exact nd (by unfold Fig; omega) z
      · rcases List.mem_cons.mp z with z | z
        · cases z
        · exact nd (by unfold Fig; omega) z
theorem tieL_pt (t : T3) : pt 58 (tieL t) = (dg t.1.toNat, true, dg t.2.1.toNat ++ 45 :: dg t.2.2.toNat) := pt_app (nd (by unfold Fig; omega))
theorem tieL_pt2 (t : T3) : pt 45 (dg t.2.1.toNat ++ 45 :: dg t.2.2.toNat) = (dg t.2.1.toNat, true, dg t.2.2.toNat) := pt_app (nd (by unfold Fig; omega))
theorem asc_tie (t : T3) : Asc (tieL t) := (asc_dg _).app (asc_cons (by omega) ((asc_dg _).app (asc_cons (by omega) (asc_dg _))))
theorem asc_jn {y : List Nat} (hy : Asc y) : ∀ {ps : List (List Nat)}, (∀ p ∈ ps, Asc p) → Asc (jn y ps)
  | [], _ => asc_nil
  | [p], h => h p List.mem_cons_self
  | p :: q :: r, h => by
    rw [jn]
    exact ((h p List.mem_cons_self).app hy).app (asc_jn hy fun z hz => h z (List.mem_cons_of_mem _ hz))
theorem asc_semi : Asc [59, 32] := asc_cons (by omega) (asc_one (by omega))
theorem asc_rec (r : List T3) : Asc (recL r) := by
  unfold recL
  split
  · exact asc_none
  · exact asc_jn asc_semi fun p hp => by
      obtain ⟨t, _, rfl⟩ := List.mem_map.mp hp
      exact asc_tie t
theorem recL_sp {r : List T3} (h : r ≠ []) : sp [59, 32] 0 (recL r) = r.map tieL := by
  unfold recL
  rw [if_neg h]
  exact sp_jn (by simpa using h) fun p hp => by
    obtain ⟨t, _, rfl⟩ := List.mem_map.mp hp
    exact tieL_59 t
theorem tieL_head (t : T3) : ∃ c q, tieL t = c :: q ∧ Fig c := by
  unfold tieL
  cases e : dg t.1.toNat with
  | nil => exact (dg_ne _ e).elim
  | cons c q => exact ⟨c, _, rfl, dg_fig t.1.toNat c (by rw [e]; exact List.mem_cons_self)⟩
theorem recL_head {r : List T3} (h : r ≠ []) : ∃ c q, recL r = c :: q ∧ Fig c := by
  unfold recL
  rw [if_neg h]
  cases r with
  | nil => exact (h rfl).elim
  | cons t r =>
    obtain ⟨c, q, e, f⟩ := tieL_head t
    rw [List.map_cons]
    cases r with
    | nil => exact ⟨c, q, by rw [List.map_nil, jn, e], f⟩
    | cons u r => exact ⟨c, _, by rw [List.map_cons, jn, e]; rfl, f⟩
theorem recL_ne {r : List T3} (h : r ≠ []) : recL r ≠ noneL := fun z => by
  obtain ⟨c, q, e, f⟩ := recL_head h
  rw [e] at z
  injection z with z1
  unfold Fig at f
  omega
theorem jn_len {y : List Nat} {B : Nat} : ∀ {ps : List (List Nat)}, (∀ p ∈ ps, p.length ≤ B) → (jn y ps).length ≤ ps.length * (B + y.length)
  | [], _ => Nat.zero_le _
  | [p], h => by
    have := h p List.mem_cons_self
    show p.length ≤ 1 * (B + y.length)
    omega
  | p :: q :: r, h => by
    have h1 := h p List.mem_cons_self
    have ih := jn_len (y := y) (ps := q :: r) fun z hz => h z (List.mem_cons_of_mem _ hz)
    rw [jn, List.length_append, List.length_append, List.length_cons, Nat.succ_mul]
    omega
structure Sm (t : T3) : Prop where
  m0 : 0 ≤ t.1
  m1 : t.1 < 1000000000000000000000000000000000000000000000000000000000000
  a0 : 0 ≤ t.2.1
  a1 : t.2.1 < 1000000000000000000000000000000000000000000000000000000000000
  b0 : 0 ≤ t.2.2
  b1 : t.2.2 < 1000000000000000000000000000000000000000000000000000000000000
theorem dg_60 {i : Int} (h : i < 1000000000000000000000000000000000000000000000000000000000000) : (dg i.toNat).length ≤ 60 := dg_len (by decide) (by
  have e : (10 : Nat) ^ 60 = 1000000000000000000000000000000000000000000000000000000000000 := by decide
  rw [e]
  omega)
theorem num_60 {i : Int} (h : i < 1000000000000000000000000000000000000000000000000000000000000) : isNum (dg i.toNat) = true := isNum_dg (by
  have e : (10 : Nat) ^ 60 = 1000000000000000000000000000000000000000000000000000000000000 := by decide
  rw [e]
  omega)
theorem tieL_len {t : T3} (h : Sm t) : (tieL t).length ≤ 182 := by
  have h1 := dg_60 h.m1
  have h2 := dg_60 h.a1
  have h3 := dg_60 h.b1
  unfold tieL
  simp only [List.length_append, List.length_cons]
  omega
theorem recL_len {r : List T3} (h : ∀ t ∈ r, Sm t) (hl : r.length ≤ 100) : (recL r).length ≤ 18400 := by
  unfold recL
  split
  · simp
  · have := jn_len (y := [59, 32]) (B := 182) (ps := r.map tieL) fun p hp => by
      obtain ⟨t, ht, rfl⟩ := List.mem_map.mp hp
      exact tieL_len (h t ht)
    rw [List.length_map] at this
    have h2 : r.length * (182 + [59, 32].length) ≤ 100 * 184 := Nat.mul_le_mul_right _ hl
    omega
end TxtP
end T_TxtQ
section T_TxtR
set_option linter.all false
set_option maxRecDepth 100000
set_option maxHeartbeats 1000000
namespace TxtP
open PySem Sim FamA
theorem op_addS {ga gb : Gd} {ρ : List Dt} {a b : List Nat} (h1 : ga ρ = .ok (sD a)) (h2 : gb ρ = .ok (sD b)) (h : a.length + b.length ≤ 100000) : gOp hAddS ga gb ρ = .ok (sD (a ++ b)) := by
  rw [gOp_def, h1, bnd_ok, h2, bnd_ok, hAddS_s h]
theorem c_s {x : Str} {l : List Nat} (h : x = mk l) (ρ : List Dt) : gC (.str x) ρ = .ok (sD l) := by rw [h]; rfl
theorem cb1s {h : List Dt → O Dt} {ga : Gd} {ρ : List Dt} {d z : Dt} (h1 : ga ρ = .ok d) (h2 : h [d] = .ok z) : gCB h (gCons ga gNil) ρ = .ok z := by
  rw [gCB_def, gCons_def, h1, bnd_ok, gNil_def, bnd_ok, bnd_ok, h2]
def numL (gb : Gs) : Gs := gIfS (gTest (gOp hNotInS (gVar 1) (gC (.str "0123456789")))) gb (gNext)
def numG (gb : Gs) : Gs := gSeqS (gIfS (gOr (gNot (gTest (gChain hLe hLe (gC (.int (1))) (gCB hLen (gCons (gVar 0) (gNil))) (gC (.int (60)))))) (gAnd (gTest (gOp hEq (gOp hIx (gVar 0) (gC (.int (0)))) (gC (.str "0")))) (gTest (gOp hNe (gVar 0) (gC (.str "0")))))) gb (gNext)) (gSeqS (gFor (gSigns (gVar 0)) (tgN 1) (numL gb)) (gRet (gCB hIntS (gCons (gVar 0) (gNil)))))
theorem numL_fig (gb : Gs) (x : Dt) {c : Nat} (h : Fig c) : numL gb [x, sD [c]] = .ok (.nx [x, sD [c]]) := by
  unfold numL
  refine (if_f ?_).trans rfl
  rw [gTest_def, gOp_def]
  show bnd (hNotInS (sD [c]) (.str FIG)) asB = _
  rw [hNotInF, decide_eq_true h.1, decide_eq_true h.2]
  rfl
theorem numL_no (gb : Gs) (x : Dt) {c : Nat} (h : ¬ Fig c) : numL gb [x, sD [c]] = gb [x, sD [c]] := by
  unfold numL
  refine if_t ?_
  rw [gTest_def, gOp_def]
  show bnd (hNotInS (sD [c]) (.str FIG)) asB = _
  rw [hNotInF]
  have : (decide (48 ≤ c) && decide (c ≤ 57)) = false := by
    unfold Fig at h
    rw [Bool.and_eq_false_iff, decide_eq_false_iff_not, decide_eq_false_iff_not]
    omega
  rw [this]
  rfl
theorem num_loop (gb : Gs) (x : Dt) : ∀ {l : List Nat} (z : Dt), (∀ c ∈ l, Fig c) → ∃ z', forE (tgN 1) (numL gb) (l.map fun c => sD [c]) [x, z] = .ok (.nx [x, z'])
  | [], z, _ => ⟨z, rfl⟩
  | c :: l, z, h => by
    obtain ⟨z', ih⟩ := num_loop gb x (l := l) (sD [c]) fun d hd => h d (List.mem_cons_of_mem _ hd)
    refine ⟨z', ?_⟩
    rw [List.map_cons, forE]
    have e : tgN 1 (sD [c]) [x, z] = .ok [x, sD [c]] := rfl
    simp only [e, numL_fig gb x (h c List.mem_cons_self), bnd_ok]
    exact ih
theorem num_loopX {gb : Gs} {e : Exn} (hb : ∀ ρ, gb ρ = .ex e) (x : Dt) : ∀ {l : List Nat} (z : Dt), ¬ (∀ c ∈ l, Fig c) → forE (tgN 1) (numL gb) (l.map fun c => sD [c]) [x, z] = .ex e
  | [], z, h => (h fun _ hc => nomatch hc).elim
  | c :: l, z, h => by
    rw [List.map_cons, forE]
    have e1 : tgN 1 (sD [c]) [x, z] = .ok [x, sD [c]] := rfl
    by_cases hc : Fig c
    · simp only [e1, numL_fig gb x hc, bnd_ok]
      exact num_loopX hb x (sD [c]) fun k => h fun d hd => (List.mem_cons.mp hd).elim (fun e => e ▸ hc) (k d)
    · simp only [e1, numL_no gb x hc, hb]
      rfl
def numT : List Dt → O Bool := gOr (gNot (gTest (gChain hLe hLe (gC (.int (1))) (gCB hLen (gCons (gVar 0) (gNil))) (gC (.int (60)))))) (gAnd (gTest (gOp hEq (gOp hIx (gVar 0) (gC (.int (0)))) (gC (.str "0")))) (gTest (gOp hNe (gVar 0) (gC (.str "0")))))
theorem numT_ok {l : List Nat} (x : Dt) (hl : l.length ≤ 100000) (ha : Asc l) : numT [sD l, x] = .ok (!(decide (1 ≤ l.length) && decide (l.length ≤ 60) && (decide (l.head? ≠ some 48) || decide (l = [48])))) := by
  unfold numT
  have e1 : gTest (gChain hLe hLe (gC (.int (1))) (gCB hLen (gCons (gVar 0) (gNil))) (gC (.int (60)))) [sD l, x] = .ok (decide (1 ≤ l.length) && decide (l.length ≤ 60)) := by
    have e0 : gCB hLen (gCons (gVar 0) (gNil)) [sD l, x] = .ok (.int (l.length : Nat)) := cb1s rfl (hLen_s hl)
    simp only [gTest_def, gChain_def, gC_def, e0, bnd_ok, hLe_i, asB_b]
    have q1 : decide ((1 : Int) ≤ ((l.length : Nat) : Int)) = decide (1 ≤ l.length) := by
      by_cases c : 1 ≤ l.length
      · rw [decide_eq_true c, decide_eq_true (by omega)]
      · rw [decide_eq_false c, decide_eq_false (by omega)]
    have q2 : decide (((l.length : Nat) : Int) ≤ (60 : Int)) = decide (l.length ≤ 60) := by
      by_cases c : l.length ≤ 60
      · rw [decide_eq_true c, decide_eq_true (by omega)]
      · rw [decide_eq_false c, decide_eq_false (by omega)]
    rw [q1, q2]
    cases decide (1 ≤ l.length)
    · rfl
    · show asB (.bool (decide (l.length ≤ 60))) = _
      rw [asB_b, Bool.true_and]
  rw [gOr_def, gNot_def, e1]
  simp only [bnd_ok]
  by_cases c : 1 ≤ l.length ∧ l.length ≤ 60
  · rw [decide_eq_true c.1, decide_eq_true c.2]
    simp only [Bool.and_self, Bool.not_true, Bool.false_eq_true, if_false, Bool.true_and]
    obtain ⟨d, q, rfl⟩ : ∃ d q, l = d :: q := by
      cases l with
      | nil => have := c.1; simp at this
      | cons d q => exact ⟨d, q, rfl⟩
    have e2 : gTest (gOp hEq (gOp hIx (gVar 0) (gC (.int (0)))) (gC (.str "0"))) [sD (d :: q), x] = .ok (decide (d = 48)) := by
      have e0 : gOp hIx (gVar 0) (gC (.int (0))) [sD (d :: q), x] = .ok (sD [d]) := by
        rw [gOp_def]
        show hIx (sD (d :: q)) (.int 0) = _
        exact hIx_s hl
      rw [gTest_def, gOp_def, e0, bnd_ok, c_s lit_0, bnd_ok, hEq_s (asc_one (ha d List.mem_cons_self)) (asc_one (by omega))]
      show O.ok (decide ([d] = [48])) = _
      congr 1
      by_cases z : d = 48
      · rw [z]; rfl
      · rw [decide_eq_false z, decide_eq_false (fun y => z (List.cons.inj y).1)]
    have e3 : gTest (gOp hNe (gVar 0) (gC (.str "0"))) [sD (d :: q), x] = .ok (!decide (d :: q = [48])) := by
      rw [gTest_def, gOp_def, c_s lit_0]
      show bnd (hNe (sD (d :: q)) (sD [48])) asB = _
      rw [hNe_s ha (asc_one (by omega))]
      rfl
    rw [gAnd_def, e2, bnd_ok, e3]
    have e4 : decide ((d :: q).head? ≠ some 48) = !decide (d = 48) := by
      by_cases z : d = 48
      · subst z; simp
      · rw [decide_eq_false z]; simp [z]
    rw [e4]
    by_cases z : d = 48
    · rw [decide_eq_true z]
      simp
    · rw [decide_eq_false z]
      simp
  · have : (decide (1 ≤ l.length) && decide (l.length ≤ 60)) = false := by
      rw [Bool.and_eq_false_iff, decide_eq_false_iff_not, decide_eq_false_iff_not]
      omega
    rw [this]
    simp
theorem numG_ok (gb : Gs) (x : Dt) {l : List Nat} (h : isNum l = true) : numG gb [sD l, x] = .ok (.rt (.int (vl l : Nat))) := by
  obtain ⟨⟨h1, h2⟩, h3, h4⟩ := isNum_iff.mp h
  unfold numG
  have t := numT_ok x (by omega) (asc_fig h3)
  rw [decide_eq_true h1, decide_eq_true h2] at t
  have h5 : (decide (l.head? ≠ some 48) || decide (l = [48])) = true := by
    rcases h4 with h4 | h4
    · rw [decide_eq_true h4]; rfl
    · rw [decide_eq_true h4, Bool.or_true]
  rw [h5] at t
  refine seq_step ((if_f t).trans rfl) ?_
  obtain ⟨z', hz⟩ := num_loop gb (sD l) x h3
  refine seq_step (for_ok (gSigns_s rfl) hz) ?_
  exact ret_ok (cb1s rfl (hIntS_s h))
theorem numG_no {gb : Gs} {e : Exn} (hb : ∀ ρ, gb ρ = .ex e) (x : Dt) {l : List Nat} (hl : l.length ≤ 100000) (ha : Asc l) (h : isNum l = false) : numG gb [sD l, x] = .ex e := by
  unfold numG
  have t := numT_ok x hl ha
  cases c : (decide (1 ≤ l.length) && decide (l.length ≤ 60) && (decide (l.head? ≠ some 48) || decide (l = [48]))) with
  | false =>
    rw [c] at t
    have e1 : gIfS numT gb gNext [sD l, x] = .ex e := (if_t t).trans (hb _)
    have e2 : gIfS (gOr (gNot (gTest (gChain hLe hLe (gC (.int (1))) (gCB hLen (gCons (gVar 0) (gNil))) (gC (.int (60)))))) (gAnd (gTest (gOp hEq (gOp hIx (gVar 0) (gC (.int (0)))) (gC (.str "0")))) (gTest (gOp hNe (gVar 0) (gC (.str "0")))))) gb gNext [sD l, x] = .ex e := e1
    rw [gSeqS_def, e2]
  | true =>
    rw [c] at t
    have nf : ¬ ∀ c ∈ l, Fig c := fun k => by
      have : isNum l = true := by
        unfold isNum
        rw [Bool.and_eq_true] at c ⊢
        refine ⟨?_, c.2⟩
        rw [Bool.and_eq_true]
        refine ⟨c.1, ?_⟩
        rw [List.all_eq_true]
        intro d hd
        rw [Bool.and_eq_true, decide_eq_true_eq, decide_eq_true_eq]
        exact k d hd
      rw [h] at this
      cases this
    refine seq_step ((if_f t).trans rfl) ?_
    have e2 : gFor (gSigns (gVar 0)) (tgN 1) (numL gb) [sD l, x] = .ex e := for_ok (gSigns_s rfl) (num_loopX hb (sD l) x nf)
    rw [gSeqS_def, e2]
end TxtP
end T_TxtR
section T_LeP
set_option linter.all false
set_option maxRecDepth 100000
namespace Sim
open PySem
def OLe {α : Type} (a b : O α) : Prop := ∀ r, a = .ok r → b = .ok r
theorem OLe.refl {α : Type} (a : O α) : OLe a a := fun _ h => h
theorem callX_ok {n : Nat} {g : List Dt → O Dt} {gA : List Dt → O (List Dt)} {ρ ds : List Dt} {d : Dt} (h1 : gA ρ = .ok ds) (h2 : ds.length = n) (h3 : g ds = .ok d) : gCallX n g gA ρ = .ok d := by
  unfold gCallX
  rw [h1, bnd_ok, if_pos h2, h3]
theorem callX_ex {n : Nat} {g : List Dt → O Dt} {gA : List Dt → O (List Dt)} {ρ ds : List Dt} {e : Exn} (h1 : gA ρ = .ok ds) (h2 : ds.length = n) (h3 : g ds = .ex e) : gCallX n g gA ρ = .ex e := by
  unfold gCallX
  rw [h1, bnd_ok, if_pos h2, h3]
theorem set_ex {i : Nat} {g : Gd} {ρ : List Dt} {e : Exn} (h : g ρ = .ex e) : gSet i g ρ = .ex e := by unfold gSet; rw [h]; rfl
theorem ret_ex {g : Gd} {ρ : List Dt} {e : Exn} (h : g ρ = .ex e) : gRet g ρ = .ex e := by unfold gRet; rw [h]; rfl
theorem seq_ex {a b : Gs} {ρ : List Dt} {e : Exn} (h : a ρ = .ex e) : gSeqS a b ρ = .ex e := by unfold gSeqS; rw [h]
theorem fnNX_ex {m : Nat} {g : Gs} {ds : List Dt} {e : Exn} (h : g (ds ++ List.replicate (m - ds.length) .none) = .ex e) : fnNX m g ds = .ex e := by unfold fnNX; rw [h]
theorem fnLX_ex {m : Nat} {g : Gs} {ds : List Dt} {e : Exn} (h : g (ds ++ List.replicate (m - ds.length) .none) = .ex e) : fnLX m g ds = .ex e := by unfold fnLX; rw [h]
theorem fnNX_rt {m : Nat} {g : Gs} {ds : List Dt} {d : Dt} (h : g (ds ++ List.replicate (m - ds.length) .none) = .ok (.rt d)) : fnNX m g ds = .ok d := by unfold fnNX; rw [h]
theorem fnLX_rt {m : Nat} {g : Gs} {ds : List Dt} {d : Dt} (h : g (ds ++ List.replicate (m - ds.length) .none) = .ok (.rt d)) : fnLX m g ds = .ok d := by unfold fnLX; rw [h]
end Sim
end T_LeP
section T_K57T
set_option linter.all false
set_option maxRecDepth 100000
set_option maxHeartbeats 4000000
namespace K57
open PySem Sim FamA FamL Lay K24 TxtP
abbrev NT : Exn := ⟨"NoText", none⟩
theorem number_ok {l : List Nat} (h : isNum l = true) : f_number_in [sD l] = .ok (.int (vl l : Nat)) := fnNX_rt (numG_ok (gRaise "NoText") .none h)
theorem number_no {l : List Nat} (hl : l.length ≤ 100000) (ha : Asc l) (h : isNum l = false) : f_number_in [sD l] = .ex NT := fnNX_ex (numG_no (fun _ => rfl) .none hl ha h)
def triL (l : List Nat) : Option T3 :=
  if isNum (pt 58 l).1 && isNum (pt 45 (pt 58 l).2.2).1 && isNum (pt 45 (pt 58 l).2.2).2.2 then some ((vl (pt 58 l).1 : Nat), (vl (pt 45 (pt 58 l).2.2).1 : Nat), (vl (pt 45 (pt 58 l).2.2).2.2 : Nat)) else none
theorem part_ok {ρ : List Dt} {g : Gd} {l : List Nat} {x : Str} {c : Nat} (h : g ρ = .ok (sD l)) (hx : x = mk [c]) (hl : l.length ≤ 100000) : gM1 hPart g (gC (.str x)) ρ = .ok (.tuple [sD (pt c l).1, sD (if (pt c l).2.1 = true then [c] else []), sD (pt c l).2.2]) := gM1_s h (c_s hx _) (hPart_s hl)
theorem pt_sub1 {c d : Nat} {l : List Nat} (h : d ∈ (pt c l).1) : d ∈ l := by
  have e := pt_sum c l
  rw [← e]
  exact List.mem_append_left _ (List.mem_append_left _ h)
theorem pt_sub2 {c d : Nat} {l : List Nat} (h : d ∈ (pt c l).2.2) : d ∈ l := by
  have e := pt_sum c l
  rw [← e]
  exact List.mem_append_right _ h
theorem cons_ex {a : Gd} {b : List Dt → O (List Dt)} {ρ : List Dt} {e : Exn} (h : a ρ = .ex e) : gCons a b ρ = .ex e := by rw [gCons_def, h]; rfl
theorem cons_ok_ex {a : Gd} {b : List Dt → O (List Dt)} {ρ : List Dt} {e : Exn} {x : Dt} (h : a ρ = .ok x) (k : b ρ = .ex e) : gCons a b ρ = .ex e := by rw [gCons_def, h, bnd_ok, k]; rfl
theorem ret_ex {g : Gd} {ρ : List Dt} {e : Exn} (h : g ρ = .ex e) : gRet g ρ = .ex e := by rw [gRet_def, h]; rfl
theorem tup_ex {g : List Dt → O (List Dt)} {ρ : List Dt} {e : Exn} (h : g ρ = .ex e) : gTup g ρ = .ex e := by rw [gTup_def, h]; rfl
theorem tie_in_at {l : List Nat} (hl : l.length ≤ 100000) (z : O Fl) (h : gRet (gTup (gCons (gCallX 1 f_number_in (gCons (gVar 1) (gNil))) (gCons (gCallX 1 f_number_in (gCons (gVar 4) (gNil))) (gCons (gCallX 1 f_number_in (gCons (gVar 6) (gNil))) (gNil)))))
    [sD l, sD (pt 58 l).1, sD (if (pt 58 l).2.1 = true then [58] else []), sD (pt 58 l).2.2, sD (pt 45 (pt 58 l).2.2).1, sD (if (pt 45 (pt 58 l).2.2).2.1 = true then [45] else []), sD (pt 45 (pt 58 l).2.2).2.2] = z) :
    g_tie_in [sD l, .none, .none, .none, .none, .none, .none] = z := by
  unfold g_tie_in
  have l2 := (pt_len 58 l).2
  have p1 := part_ok (ρ := [sD l, .none, .none, .none, .none, .none, .none]) (g := gVar 0) (l := l) rfl lit_colon hl
  refine seq_step (asg_ok p1 (ρ' := [sD l, sD (pt 58 l).1, sD (if (pt 58 l).2.1 = true then [58] else []), sD (pt 58 l).2.2, .none, .none, .none]) rfl) ?_
  have p2 := part_ok (ρ := [sD l, sD (pt 58 l).1, sD (if (pt 58 l).2.1 = true then [58] else []), sD (pt 58 l).2.2, .none, .none, .none]) (g := gVar 3) (l := (pt 58 l).2.2) rfl lit_dash (by omega)
  exact seq_step (asg_ok p2 rfl) h
theorem tie_in_ok {l : List Nat} {t : T3} (hl : l.length ≤ 100000) (h : triL l = some t) : f_tie_in [sD l] = .ok (enc3 t) := by
  refine fnNX_rt (tie_in_at hl _ ?_)
  unfold triL at h
  split at h
  · rename_i c
    rw [Bool.and_eq_true, Bool.and_eq_true] at c
    injection h with h
    subst h
    refine ret_ok (gTup_ok (xs := [.int (vl (pt 58 l).1 : Nat), .int (vl (pt 45 (pt 58 l).2.2).1 : Nat), .int (vl (pt 45 (pt 58 l).2.2).2.2 : Nat)]) ?_ (by simp))
    have c1 : gCallX 1 f_number_in (gCons (gVar 1) (gNil)) [sD l, sD (pt 58 l).1, sD (if (pt 58 l).2.1 = true then [58] else []), sD (pt 58 l).2.2, sD (pt 45 (pt 58 l).2.2).1, sD (if (pt 45 (pt 58 l).2.2).2.1 = true then [45] else []), sD (pt 45 (pt 58 l).2.2).2.2] = .ok (.int (vl (pt 58 l).1 : Nat)) := callX_ok (ds := [sD (pt 58 l).1]) rfl rfl (number_ok c.1.1)
    have c2 : gCallX 1 f_number_in (gCons (gVar 4) (gNil)) [sD l, sD (pt 58 l).1, sD (if (pt 58 l).2.1 = true then [58] else []), sD (pt 58 l).2.2, sD (pt 45 (pt 58 l).2.2).1, sD (if (pt 45 (pt 58 l).2.2).2.1 = true then [45] else []), sD (pt 45 (pt 58 l).2.2).2.2] = .ok (.int (vl (pt 45 (pt 58 l).2.2).1 : Nat)) := callX_ok (ds := [sD (pt 45 (pt 58 l).2.2).1]) rfl rfl (number_ok c.1.2)
    have c3 : gCallX 1 f_number_in (gCons (gVar 6) (gNil)) [sD l, sD (pt 58 l).1, sD (if (pt 58 l).2.1 = true then [58] else []), sD (pt 58 l).2.2, sD (pt 45 (pt 58 l).2.2).1, sD (if (pt 45 (pt 58 l).2.2).2.1 = true then [45] else []), sD (pt 45 (pt 58 l).2.2).2.2] = .ok (.int (vl (pt 45 (pt 58 l).2.2).2.2 : Nat)) := callX_ok (ds := [sD (pt 45 (pt 58 l).2.2).2.2]) rfl rfl (number_ok c.2)
    rw [gCons_def, c1, bnd_ok, gCons_def, c2, bnd_ok, gCons_def, c3]
    rfl
  · cases h
theorem tie_in_no {l : List Nat} (hl : l.length ≤ 100000) (ha : Asc l) (h : triL l = none) : f_tie_in [sD l] = .ex NT := by
  refine fnNX_ex (tie_in_at hl _ (ret_ex (tup_ex ?_)))
  have a1 : Asc (pt 58 l).1 := asc_sub ha fun c hc => pt_sub1 hc
  have a2 : Asc (pt 45 (pt 58 l).2.2).1 := asc_sub ha fun c hc => pt_sub2 (pt_sub1 hc)
  have a3 : Asc (pt 45 (pt 58 l).2.2).2.2 := asc_sub ha fun c hc => pt_sub2 (pt_sub2 hc)
  have l1 := pt_len 58 l
  have l2 := pt_len 45 (pt 58 l).2.2
  unfold triL at h
  cases q1 : isNum (pt 58 l).1 with
  | false => exact cons_ex (callX_ex (ds := [sD (pt 58 l).1]) rfl rfl (number_no (by omega) a1 q1))
  | true =>
    refine cons_ok_ex (callX_ok (ds := [sD (pt 58 l).1]) rfl rfl (number_ok q1)) ?_
    cases q2 : isNum (pt 45 (pt 58 l).2.2).1 with
    | false => exact cons_ex (callX_ex (ds := [sD (pt 45 (pt 58 l).2.2).1]) rfl rfl (number_no (by omega) a2 q2))
    | true =>
      refine cons_ok_ex (callX_ok (ds := [sD (pt 45 (pt 58 l).2.2).1]) rfl rfl (number_ok q2)) ?_
      cases q3 : isNum (pt 45 (pt 58 l).2.2).2.2 with
      | false => exact cons_ex (callX_ex (ds := [sD (pt 45 (pt 58 l).2.2).2.2]) rfl rfl (number_no (by omega) a3 q3))
      | true =>
        rw [q1, q2, q3] at h
        cases h
def val (l : List Nat) : T3 := (triL l).getD (0, 0, 0)
def okD (n : Int) (l : List Nat) : Bool := match triL l with
  | some t => okT n t
  | none => false
def dueR (n : Int) (l : List Nat) : Option (List T3) :=
  if l = noneL then some [] else if (sp [59, 32] 0 l).all (okD n) && decide ((sp [59, 32] 0 l).length ≤ 60) && ordB ((sp [59, 32] 0 l).map val) then some ((sp [59, 32] 0 l).map val) else none
theorem lcY_map {α : Type} (enc : α → Dt) (q : α → Dt) {h : Dt → List Dt → O (List Dt)} {ge : Gd} {ρ : List Dt} : ∀ {xs : List α}, (∀ x ∈ xs, ∃ ρ', h (enc x) ρ = .ok ρ' ∧ ge ρ' = .ok (q x)) → lcY h gYes ge ρ (xs.map enc) = .ok (xs.map q)
  | [], _ => rfl
  | x :: xs, hx => by
    obtain ⟨ρ', e1, e2⟩ := hx x List.mem_cons_self
    have ih := lcY_map enc q (h := h) (ge := ge) (ρ := ρ) (xs := xs) fun y hy => hx y (List.mem_cons_of_mem _ hy)
    rw [List.map_cons, List.map_cons, lcY, e1]
    simp only [gYes, e2, bnd_ok, ih]
theorem lcY_ex {α : Type} (enc : α → Dt) {h : Dt → List Dt → O (List Dt)} {ge : Gd} {ρ : List Dt} {e : Exn} : ∀ {xs : List α}, (∀ x ∈ xs, ∃ ρ', h (enc x) ρ = .ok ρ' ∧ ((∃ d, ge ρ' = .ok d) ∨ ge ρ' = .ex e)) → (∃ x ∈ xs, ∀ ρ', h (enc x) ρ = .ok ρ' → ge ρ' = .ex e) → lcY h gYes ge ρ (xs.map enc) = .ex e
  | [], _, hx => by
    obtain ⟨x, hx, _⟩ := hx
    cases hx
  | x :: xs, hx, hn => by
    obtain ⟨ρ', e1, e2⟩ := hx x List.mem_cons_self
    rw [List.map_cons, lcY, e1]
    simp only [gYes]
    rcases e2 with ⟨d, e2⟩ | e2
    · rw [e2, bnd_ok]
      have hn2 : ∃ y ∈ xs, ∀ ρ', h (enc y) ρ = .ok ρ' → ge ρ' = .ex e := by
        obtain ⟨y, hy, k⟩ := hn
        rcases List.mem_cons.mp hy with z | z
        · subst z
          have := k ρ' e1
          rw [e2] at this
          cases this
        · exact ⟨y, z, k⟩
      rw [lcY_ex enc (fun y hy => hx y (List.mem_cons_of_mem _ hy)) hn2]
      rfl
    · rw [e2]
      rfl
theorem gLcX_ok {gi : List Dt → O (List Dt)} {h : Dt → List Dt → O (List Dt)} {ge : Gd} {ρ ds es : List Dt} (h1 : gi ρ = .ok ds) (h2 : ds.length ≤ 100000) (h3 : lcY h gYes ge ρ ds = .ok es) : gLcX gi h gYes ge ρ = .ok (.list es) := by
  unfold gLcX
  rw [h1, bnd_ok, if_pos h2, h3, bnd_ok]
theorem gLcX_ex {gi : List Dt → O (List Dt)} {h : Dt → List Dt → O (List Dt)} {ge : Gd} {ρ ds : List Dt} {e : Exn} (h1 : gi ρ = .ok ds) (h2 : ds.length ≤ 100000) (h3 : lcY h gYes ge ρ ds = .ex e) : gLcX gi h gYes ge ρ = .ex e := by
  unfold gLcX
  rw [h1, bnd_ok, if_pos h2, h3]
  rfl
theorem seq_ex {a b : Gs} {ρ : List Dt} {e : Exn} (h : a ρ = .ex e) : gSeqS a b ρ = .ex e := by rw [gSeqS_def, h]
theorem set_ex {i : Nat} {g : Gd} {ρ : List Dt} {e : Exn} (h : g ρ = .ex e) : gSet i g ρ = .ex e := by rw [gSet_def, h]; rfl
theorem rec_long {n : Int} {ds : List Dt} (h : 60 < ds.length) : f_is_record [.int n, .list ds] = .ok (.bool false) := by
  refine fnN_rt ?_
  show g_is_record [.int n, .list ds, .none, .none] = _
  unfold g_is_record
  have e1 : gTest (gUn (hIsa .list) (gVar 1)) [.int n, .list ds, .none, .none] = .ok true := rfl
  have e2 : gTest (gOp hGt (gCB hLen (gCons (gVar 1) (gNil))) (gC (.int (60)))) [.int n, .list ds, .none, .none] = .ok true := by
    have : decide ((60 : Int) < ds.length) = true := decide_eq_true (by omega)
    simp only [bnd_ok, gVar_def, gC_def, gOp_def, gUn_def, gNil_def, gCons_def, gIf_def, gTest_def, gNot_def, gAnd_def, gOr_def, gAndV_def, gOrV_def, gNotV_def, gCB_def, asB_b, hAdd_i, hSub_i, hLt_i, hLe_i, hGt_i, hGe_i, hMul_r, hMul_l, hMod_i, hDiv_s, hBand_i, hShr_i, hPow_10_18, hPow_10_27, hPow_10_28, hPow_10_29, hPow_10_30, hEq_i, hNe_i, hLen_l, hLen_t, hMin2_i, hMax2_i, hMin3_i, hInt1_b, hInt1_i, hBits_i, hListOf_l, hListOf_t, hTupOf_l, hTupOf_t, gSeqS_def, gSet_def, gRet_def, gIfS_def, gNext_def, gTup_def, gLst_def, List.getElem?_cons_zero, List.getElem?_cons_succ, List.set_cons_zero, List.set_cons_succ, List.length_cons, List.length_nil, Nat.zero_add, Nat.reduceAdd, Nat.reduceLeDiff, Nat.reduceSub, Nat.reduceMul, if_true, if_false, Bool.false_eq_true, List.replicate_succ, List.replicate_zero, List.cons_append, List.nil_append, tgN, tgT, tgCons, tgNil, Int.reducePow, Int.reduceAdd, Int.reduceSub, Int.reduceMul, decide_true, decide_false, Bool.not_true, Bool.not_false, gChain_def, hIsa_int, hIsa_intb, hIsa_list, hIsa_tuple, gDrop_def, this]
  refine seq_rt ((if_t ?_).trans rfl)
  simp only [gOr_def, gNot_def, e1, e2, bnd_ok, Bool.not_true, Bool.false_eq_true, if_false]
theorem sp_asc {l : List Nat} (ha : Asc l) : ∀ (k : Nat) (p : List Nat), p ∈ sp [59, 32] k l → Asc p := by
  induction l with
  | nil =>
    intro k p hp
    have : p = [] := by cases k <;> simpa [sp] using hp
    rw [this]
    exact asc_nil
  | cons c r ih =>
    have hr : Asc r := fun d hd => ha d (List.mem_cons_of_mem _ hd)
    intro k p hp
    cases k with
    | succ k => exact ih hr k p (by rw [sp] at hp; exact hp)
    | zero =>
      rw [sp] at hp
      split at hp
      · rcases List.mem_cons.mp hp with e | hp
        · rw [e]; exact asc_nil
        · exact ih hr _ p hp
      · obtain ⟨q, s, e⟩ := sp_ne [59, 32] 0 r
        have ih0 := ih hr 0
        rw [e] at hp ih0
        rcases List.mem_cons.mp hp with e2 | hp
        · rw [e2]
          exact asc_cons (ha c List.mem_cons_self) (ih0 q List.mem_cons_self)
        · exact ih0 p (List.mem_cons_of_mem _ hp)
theorem read_ok {n : Int} {l : List Nat} (hl : l.length ≤ 90000) (ha : Asc l) : f_read_record [.int n, sD l] = (match dueR n l with
    | some r => .ok (.list (r.map enc3))
    | none => .ex NT) := by
  have t : gTest (gOp hEq (gVar 1) (gC (.str "none"))) [.int n, sD l, .none, .none] = .ok (decide (l = noneL)) := by
    rw [gTest_def, gOp_def, c_s lit_none]
    show bnd (hEq (sD l) (sD noneL)) asB = _
    rw [hEq_s ha asc_none]
    rfl
  unfold dueR
  by_cases c : l = noneL
  · rw [if_pos c]
    rw [decide_eq_true c] at t
    refine fnLX_rt ?_
    show g_read_record [.int n, sD l, .none, .none] = _
    unfold g_read_record
    exact seq_rt ((if_t t).trans rfl)
  · rw [if_neg c]
    rw [decide_eq_false c] at t
    have hm := sp_many [59, 32] l 0
    have hlen := sp_len [59, 32] l 0
    have hasc := sp_asc ha 0
    have hsp : gSeq (gM1 hSplit (gVar 1) (gC (.str "; "))) [.int n, sD l, .none, .none] = .ok ((sp [59, 32] 0 l).map sD) := by
      refine seqG_l (gM1_s (l := l) rfl (c_s lit_semi _) ?_)
      exact hSplit_s (by omega) (by simp) asc_semi
    generalize sp [59, 32] 0 l = ps at *
    by_cases q : ∀ p ∈ ps, (triL p).isSome = true
    · have hlc : gLcX (gSeq (gM1 hSplit (gVar 1) (gC (.str "; ")))) (tgN 3) (gYes) (gCallX 1 f_tie_in (gCons (gVar 3) (gNil))) [.int n, sD l, .none, .none] = .ok (.list (ps.map fun p => enc3 (val p))) := by
        refine gLcX_ok hsp (by rw [List.length_map]; omega) (lcY_map sD (fun p => enc3 (val p)) fun p hp => ⟨_, rfl, ?_⟩)
        obtain ⟨t, ht⟩ := Option.isSome_iff_exists.mp (q p hp)
        have : val p = t := by unfold val; rw [ht]; rfl
        rw [this]
        exact callX_ok (ds := [sD p]) rfl rfl (tie_in_ok (by have := hlen p hp; omega) ht)
      have em : (ps.map fun p => enc3 (val p)) = (ps.map val).map enc3 := by rw [List.map_map]; rfl
      rw [em] at hlc
      have hall : ps.all (okD n) = (ps.map val).all (okT n) := by
        rw [List.all_map, Bool.eq_iff_iff, List.all_eq_true, List.all_eq_true]
        refine forall_congr' fun p => forall_congr' fun hp => ?_
        obtain ⟨t, ht⟩ := Option.isSome_iff_exists.mp (q p hp)
        have : val p = t := by unfold val; rw [ht]; rfl
        show okD n p = true ↔ okT n (val p) = true
        rw [this]
        unfold okD
        rw [ht]
      have hrec : f_is_record [.int n, .list ((ps.map val).map enc3)] = .ok (.bool (ps.all (okD n) && decide (ps.length ≤ 60) && ordB (ps.map val))) := by
        by_cases z : ps.length ≤ 60
        · rw [rec_enc (by rw [List.length_map]; exact z), hall, decide_eq_true z, Bool.and_true]
        · rw [rec_long (by rw [List.length_map, List.length_map]; omega), decide_eq_false z, Bool.and_false, Bool.false_and]
      have c1 : gCallN 2 f_is_record (gCons (gVar 0) (gCons (gVar 2) (gNil))) [.int n, sD l, .list ((ps.map val).map enc3), .none] = _ := callN_ok (ds := [.int n, .list ((ps.map val).map enc3)]) rfl rfl hrec
      cases b : (ps.all (okD n) && decide (ps.length ≤ 60) && ordB (ps.map val)) with
      | true =>
        rw [b] at c1
        refine fnLX_rt ?_
        show g_read_record [.int n, sD l, .none, .none] = _
        unfold g_read_record
        refine seq_step ((if_f t).trans rfl) (seq_step (set_ok hlc) ?_)
        dsimp only [List.set]
        refine seq_step ((if_f (by rw [gNot_def, gTest_def, c1]; rfl)).trans rfl) rfl
      | false =>
        rw [b] at c1
        refine fnLX_ex ?_
        show g_read_record [.int n, sD l, .none, .none] = _
        unfold g_read_record
        refine seq_step ((if_f t).trans rfl) (seq_step (set_ok hlc) ?_)
        dsimp only [List.set]
        exact seq_ex ((if_t (by rw [gNot_def, gTest_def, c1]; rfl)).trans rfl)
    · have q' : ∃ p ∈ ps, triL p = none := by
        refine Classical.byContradiction fun z => q fun p hp => ?_
        cases e : triL p with
        | some t => rfl
        | none => exact (z ⟨p, hp, e⟩).elim
      obtain ⟨p0, hp0, e0⟩ := q'
      have hall : ps.all (okD n) = false := by
        rw [List.all_eq_false]
        refine ⟨p0, hp0, ?_⟩
        unfold okD
        rw [e0]
        exact Bool.false_ne_true
      rw [hall, Bool.false_and, Bool.false_and]
      have hlc : gLcX (gSeq (gM1 hSplit (gVar 1) (gC (.str "; ")))) (tgN 3) (gYes) (gCallX 1 f_tie_in (gCons (gVar 3) (gNil))) [.int n, sD l, .none, .none] = .ex NT := by
        refine gLcX_ex hsp (by rw [List.length_map]; omega) (lcY_ex sD (fun p hp => ⟨_, rfl, ?_⟩) ⟨p0, hp0, fun ρ' er => ?_⟩)
        · have lp : p.length ≤ 100000 := by have := hlen p hp; omega
          cases e : triL p with
          | some t => exact .inl ⟨_, callX_ok (ds := [sD p]) rfl rfl (tie_in_ok lp e)⟩
          | none => exact .inr (callX_ex (ds := [sD p]) rfl rfl (tie_in_no lp (hasc p hp) e))
        · have er : [PyData.int n, sD l, .none, sD p0] = ρ' := by injection er
          rw [← er]
          exact callX_ex (ds := [sD p0]) rfl rfl (tie_in_no (by have := hlen p0 hp0; omega) (hasc p0 hp0) e0)
      refine fnLX_ex ?_
      show g_read_record [.int n, sD l, .none, .none] = _
      unfold g_read_record
      refine seq_step ((if_f t).trans rfl) (seq_ex (set_ex hlc))
theorem txt_tie {t : T3} {ρ : List Dt} (h : Sm t) (hv : ρ[1]? = some (enc3 t)) : gOp hAddS (gOp hAddS (gOp hAddS (gOp hAddS (gCB hStrI (gCons (gOp hIx (gVar 1) (gC (.int (0)))) (gNil))) (gC (.str ":"))) (gCB hStrI (gCons (gOp hIx (gVar 1) (gC (.int (1)))) (gNil)))) (gC (.str "-"))) (gCB hStrI (gCons (gOp hIx (gVar 1) (gC (.int (2)))) (gNil))) ρ = .ok (sD (tieL t)) := by
  have l1 := dg_60 h.m1
  have l2 := dg_60 h.a1
  have l3 := dg_60 h.b1
  have v : gVar 1 ρ = .ok (enc3 t) := by rw [gVar_def, hv]
  have s1 : gCB hStrI (gCons (gOp hIx (gVar 1) (gC (.int (0)))) (gNil)) ρ = .ok (sD (dg t.1.toNat)) := cb1s (d := .int t.1) (by rw [gOp_def, v]; rfl) (hStrI_s h.m0 h.m1)
  have s2 : gCB hStrI (gCons (gOp hIx (gVar 1) (gC (.int (1)))) (gNil)) ρ = .ok (sD (dg t.2.1.toNat)) := cb1s (d := .int t.2.1) (by rw [gOp_def, v]; rfl) (hStrI_s h.a0 h.a1)
  have s3 : gCB hStrI (gCons (gOp hIx (gVar 1) (gC (.int (2)))) (gNil)) ρ = .ok (sD (dg t.2.2.toNat)) := cb1s (d := .int t.2.2) (by rw [gOp_def, v]; rfl) (hStrI_s h.b0 h.b1)
  have q1 := op_addS s1 (c_s lit_colon _) (by simp; omega)
  have q2 := op_addS q1 s2 (by simp; omega)
  have q3 := op_addS q2 (c_s lit_dash _) (by simp; omega)
  have q4 := op_addS q3 s3 (by simp; omega)
  rw [q4]
  unfold tieL
  simp
theorem eq_nil {r : List T3} : hEq (.list (r.map enc3)) (.list []) = .ok (.bool (decide (r = []))) := by
  have h1 : SeqAt.shaped (.list (r.map enc3)) = true := (shp_list fun d hd => by
    obtain ⟨t, _, rfl⟩ := List.mem_map.mp hd
    exact shp_intsT [t.1, t.2.1, t.2.2] 0).shaped (m := 2) (by omega)
  unfold hEq
  rw [h1]
  have h2 : SeqAt.shaped (.list []) = true := by
    simp [SeqAt.shaped, PyData.canLay0, PyData.canLayAll0, PyData.depth, PyData.depthAll]
  rw [h2]
  simp only [Bool.and_self, if_true]
  cases r with
  | nil => simp [PyData.eqv, PyData.eqvAll]
  | cons t r => simp [PyData.eqv, PyData.eqvAll]
theorem lst_nil (ρ : List Dt) : gLst gNil ρ = .ok (.list []) := rfl
theorem join_ok {r : List T3} {ge : Gd} (hs : ∀ t ∈ r, Sm t) (hl : r.length ≤ 100) (h0 : r ≠ []) (x : Dt) (he : ∀ t ∈ r, ge [.list (r.map enc3), enc3 t] = .ok (sD (tieL t))) :
    gM1 hJoin (gC (.str "; ")) (gLc (gSeq (gVar 0)) (tgN 1) (gYes) ge) [.list (r.map enc3), x] = .ok (sD (recL r)) := by
  have hlc : gLc (gSeq (gVar 0)) (tgN 1) (gYes) ge [.list (r.map enc3), x] = .ok (.list ((r.map tieL).map sD)) := by
    have q := gLc_map enc3 (fun _ => true) (fun t => sD (tieL t)) (gi := gSeq (gVar 0)) (h := tgN 1) (gt := gYes) (ge := ge) (ρ := [.list (r.map enc3), x]) (xs := r) rfl (by omega) (fun t ht => ⟨_, rfl, rfl, fun _ => he t ht⟩)
    rw [List.filter_eq_self.mpr (fun _ _ => rfl)] at q
    rw [q, List.map_map]
    rfl
  refine gM1_s (c_s lit_semi _) hlc ?_
  rw [hJoin_s (by rw [List.length_map]; omega) (fun p hp => by
    obtain ⟨t, ht, rfl⟩ := List.mem_map.mp hp
    have := tieL_len (hs t ht)
    omega) (by simp)]
  unfold recL
  rw [if_neg h0]
theorem l_text_ok {r : List T3} (hs : ∀ t ∈ r, Sm t) (hl : r.length ≤ 100) : f_l_text [.list (r.map enc3)] = .ok (sD (recL r)) := by
  refine fnN_rt ?_
  show g_l_text [.list (r.map enc3), .none] = _
  unfold g_l_text
  have t : gTest (gOp hEq (gVar 0) (gLst (gNil))) [.list (r.map enc3), .none] = .ok (decide (r = [])) := by
    rw [gTest_def, gOp_def, lst_nil]
    show bnd (hEq (.list (r.map enc3)) (.list [])) asB = _
    rw [eq_nil]
    rfl
  by_cases c : r = []
  · rw [decide_eq_true c] at t
    refine seq_rt ((if_t t).trans ?_)
    refine ret_ok ?_
    rw [c_s lit_none]
    unfold recL
    rw [if_pos c]
  · rw [decide_eq_false c] at t
    refine seq_step ((if_f t).trans rfl) (ret_ok ?_)
    exact join_ok hs hl c .none fun u hu => txt_tie (hs u hu) rfl
def netL (n : Int) (k : Nat) (r : List T3) : List Nat := dg n.toNat ++ 32 :: (dg k ++ 32 :: recL r)
theorem tri_tie {t : T3} (h : Sm t) : triL (tieL t) = some t := by
  unfold triL
  have e1 := tieL_pt t
  have e2 := tieL_pt2 t
  rw [e1]
  simp only
  rw [e2]
  simp only
  rw [num_60 h.m1, num_60 h.a1, num_60 h.b1, vl_dg, vl_dg, vl_dg]
  simp only [Bool.and_self, if_true]
  congr 1
  refine Prod.ext ?_ (Prod.ext ?_ ?_)
  · have := h.m0
    show ((t.1.toNat : Nat) : Int) = t.1
    omega
  · have := h.a0
    show ((t.2.1.toNat : Nat) : Int) = t.2.1
    omega
  · have := h.b0
    show ((t.2.2.toNat : Nat) : Int) = t.2.2
    omega
theorem ok_ends {n : Int} {p : List Nat} (h : okD n p = true) : (∃ c q, p = c :: q ∧ Fig c) ∧ ∃ c q, p = q ++ [c] ∧ Fig c := by
  unfold okD triL at h
  split at h
  · rename_i t ht
    split at ht
    · rename_i b
      rw [Bool.and_eq_true, Bool.and_eq_true] at b
      obtain ⟨⟨b1, _⟩, b3⟩ := b
      have s1 := pt_sum 58 p
      have s2 := pt_sum 45 (pt 58 p).2.2
      generalize (pt 45 (pt 58 p).2.2).2.2 = w3 at *
      generalize (pt 45 (pt 58 p).2.2).1 ++ (if (pt 45 (pt 58 p).2.2).2.1 = true then [45] else []) = x2 at *
      generalize (pt 58 p).2.2 = rest at *
      generalize (if (pt 58 p).2.1 = true then [58] else []) = x1 at *
      generalize (pt 58 p).1 = w1 at *
      obtain ⟨⟨h1, _⟩, f1, _⟩ := isNum_iff.mp b1
      obtain ⟨⟨h3, _⟩, f3, _⟩ := isNum_iff.mp b3
      constructor
      · cases w1 with
        | nil => simp at h1
        | cons c q => exact ⟨c, q ++ x1 ++ rest, by rw [← s1]; rfl, f1 c List.mem_cons_self⟩
      · have h0 : w3 ≠ [] := fun z => by rw [z] at h3; simp at h3
        have e := (List.dropLast_concat_getLast h0).symm
        refine ⟨w3.getLast h0, w1 ++ x1 ++ (x2 ++ w3.dropLast), ?_, f3 _ (List.getLast_mem h0)⟩
        rw [← s1, ← s2]
        conv => lhs; rw [e]
        simp
    · cases ht
  · cases h
theorem jn_last {y : List Nat} : ∀ {ps : List (List Nat)}, (∀ p ∈ ps, ∃ c q, p = q ++ [c] ∧ Fig c) → ps ≠ [] → ∃ c q, jn y ps = q ++ [c] ∧ Fig c
  | [], _, h0 => (h0 rfl).elim
  | [p], h, _ => h p List.mem_cons_self
  | p :: p2 :: r, h, _ => by
    obtain ⟨c, q, e, f⟩ := jn_last (y := y) (ps := p2 :: r) (fun z hz => h z (List.mem_cons_of_mem _ hz)) (List.cons_ne_nil _ _)
    exact ⟨c, p ++ y ++ q, by rw [jn, e]; simp, f⟩
theorem due_last {n : Int} {l : List Nat} : dueR n (l ++ [32]) = none := by
  unfold dueR
  have c : l ++ [32] ≠ noneL := fun z => by
    have := congrArg List.getLast? z
    simp at this
  rw [if_neg c]
  have e := jn_sp [59, 32] (by simp) asc_semi (l ++ [32])
  have ne : sp [59, 32] 0 (l ++ [32]) ≠ [] := fun z => by
    obtain ⟨p, r, e⟩ := sp_ne [59, 32] 0 (l ++ [32])
    rw [z] at e
    cases e
  cases h : (sp [59, 32] 0 (l ++ [32])).all (okD n) with
  | false => rw [Bool.false_and, Bool.false_and]; rfl
  | true =>
    obtain ⟨d, q, e2, f⟩ := jn_last (y := [59, 32]) (fun p hp => (ok_ends (List.all_eq_true.mp h p hp)).2) ne
    rw [e] at e2
    have := List.append_inj_right' e2 rfl
    injection this with this
    unfold Fig at f
    omega
end K57
end T_K57T
section T_K57D
set_option linter.all false
set_option maxRecDepth 100000
set_option maxHeartbeats 4000000
namespace K57
open PySem Sim FamA FamL Lay K24 TxtP
def BadNet (d : Dt) : Prop := f_is_net [d] = .ok (.bool false)
theorem bn_not {d : Dt} (h : hIsa .tuple d = .ok (.bool false)) : BadNet d := by
  refine fnN_rt ?_
  show g_is_net [d, .none, .none, .none] = _
  unfold g_is_net
  refine seq_rt ((if_t ?_).trans rfl)
  simp only [gOr_def, gNot_def, gTest_def, gUn_def, gVar_def, List.getElem?_cons_zero, bnd_ok, h, asB_b, Bool.not_false, if_true]
theorem bn_len {ds : List Dt} (h : ((ds.length : Int) == 3) = false) : BadNet (.tuple ds) := by
  refine fnN_rt ?_
  show g_is_net [.tuple ds, .none, .none, .none] = _
  unfold g_is_net
  refine seq_rt ((if_t ?_).trans rfl)
  simp only [bnd_ok, gVar_def, gC_def, gOp_def, gUn_def, gNil_def, gCons_def, gIf_def, gTest_def, gNot_def, gAnd_def, gOr_def, gAndV_def, gOrV_def, gNotV_def, gCB_def, asB_b, hAdd_i, hSub_i, hLt_i, hLe_i, hGt_i, hGe_i, hMul_r, hMul_l, hMod_i, hDiv_s, hBand_i, hShr_i, hPow_10_18, hPow_10_27, hPow_10_28, hPow_10_29, hPow_10_30, hEq_i, hNe_i, hLen_l, hLen_t, hMin2_i, hMax2_i, hMin3_i, hInt1_b, hInt1_i, hBits_i, hListOf_l, hListOf_t, hTupOf_l, hTupOf_t, gSeqS_def, gSet_def, gRet_def, gIfS_def, gNext_def, gTup_def, gLst_def, List.getElem?_cons_zero, List.getElem?_cons_succ, List.set_cons_zero, List.set_cons_succ, List.length_cons, List.length_nil, Nat.zero_add, Nat.reduceAdd, Nat.reduceLeDiff, Nat.reduceSub, Nat.reduceMul, if_true, if_false, Bool.false_eq_true, List.replicate_succ, List.replicate_zero, List.cons_append, List.nil_append, tgN, tgT, tgCons, tgNil, Int.reducePow, Int.reduceAdd, Int.reduceSub, Int.reduceMul, decide_true, decide_false, Bool.not_true, Bool.not_false, gChain_def, hIsa_int, hIsa_intb, hIsa_list, hIsa_tuple, gDrop_def, h]
theorem bn_3 {x y z : Dt} {c : Bool} (h : (f_is_count [x, .int 10] = .ok (.bool false)) ∨ (f_is_count [x, .int 10] = .ok (.bool true) ∧ (f_is_count [y, .int 6] = .ok (.bool false) ∨ (f_is_count [y, .int 6] = .ok (.bool true) ∧ (f_is_record [x, z] = .ok (.bool false) ∨ (f_is_record [x, z] = .ok (.bool true) ∧ ∃ L : List Int, f_layered [x, z, y] = .ok (.list (L.map .int)) ∧ (0 : Int) ∈ L)))))) : BadNet (.tuple [x, y, z]) := by
  refine fnN_rt ?_
  show g_is_net [.tuple [x, y, z], .none, .none, .none] = _
  unfold g_is_net
  have t1 : gTest (gUn (hIsa .tuple) (gVar 0)) [.tuple [x, y, z], .none, .none, .none] = .ok true := rfl
  have t2 : gTest (gOp hNe (gCB hLen (gCons (gVar 0) (gNil))) (gC (.int (3)))) [.tuple [x, y, z], .none, .none, .none] = .ok false := by
    rw [gTest_def, gOp_def]
    show bnd (hNe (.int 3) (.int 3)) asB = _
    rw [hNe_i]
    rfl
  refine seq_step ((if_f (by simp only [gOr_def, gNot_def, t1, t2, bnd_ok, Bool.not_true, Bool.false_eq_true, if_false])).trans rfl) ?_
  refine seq_step (ρ' := [.tuple [x, y, z], x, y, z]) (asg_ok (by rfl) (by rfl)) ?_
  have c1 : ∀ v, f_is_count [x, .int 10] = .ok (.bool v) → gCallN 2 f_is_count (gCons (gVar 1) (gCons (gC (.int (10))) (gNil))) [.tuple [x, y, z], x, y, z] = .ok (.bool v) := fun v h => callN_ok (ds := [x, .int 10]) rfl rfl h
  have c2 : ∀ v, f_is_count [y, .int 6] = .ok (.bool v) → gCallN 2 f_is_count (gCons (gVar 2) (gCons (gC (.int (6))) (gNil))) [.tuple [x, y, z], x, y, z] = .ok (.bool v) := fun v h => callN_ok (ds := [y, .int 6]) rfl rfl h
  have c3 : ∀ v, f_is_record [x, z] = .ok (.bool v) → gCallN 2 f_is_record (gCons (gVar 1) (gCons (gVar 3) (gNil))) [.tuple [x, y, z], x, y, z] = .ok (.bool v) := fun v h => callN_ok (ds := [x, z]) rfl rfl h
  rcases h with h | ⟨h, h2 | ⟨h2, h3 | ⟨h3, L, h4, h5⟩⟩⟩
  · refine seq_rt ((if_t ?_).trans rfl)
    simp only [gOr_def, gNot_def, gTest_def, c1 _ h, bnd_ok, asB_b, Bool.not_false, if_true]
  · refine seq_rt ((if_t ?_).trans rfl)
    simp only [gOr_def, gNot_def, gTest_def, c1 _ h, c2 _ h2, bnd_ok, asB_b, Bool.not_false, Bool.not_true, if_true, if_false, Bool.false_eq_true]
  · refine seq_rt ((if_t ?_).trans rfl)
    simp only [gOr_def, gNot_def, gTest_def, c1 _ h, c2 _ h2, c3 _ h3, bnd_ok, asB_b, Bool.not_false, Bool.not_true, if_true, if_false, Bool.false_eq_true]
  · refine seq_step ((if_f (by simp only [gOr_def, gNot_def, gTest_def, c1 _ h, c2 _ h2, c3 _ h3, bnd_ok, asB_b, Bool.not_true, Bool.false_eq_true, if_false])).trans rfl) ?_
    refine ret_ok ?_
    have c4 : gCallN 3 f_layered (gCons (gVar 1) (gCons (gVar 3) (gCons (gVar 2) (gNil)))) [.tuple [x, y, z], x, y, z] = .ok (.list (L.map .int)) := callN_ok (ds := [x, z, y]) rfl rfl h4
    have hz : decide ((0 : Int) ∈ L) = true := decide_eq_true h5
    rw [gOp_def, gC_def, c4, bnd_ok, bnd_ok, hNotIn_ints, hz]
    rfl
theorem cnt_yes {z m : Int} (h : 1 ≤ z ∧ z ≤ m) : f_is_count [.int z, .int m] = .ok (.bool true) := by
  rw [count_ok, decide_eq_true h.1, decide_eq_true h.2]
  rfl
theorem cnt_no {z m : Int} (h : ¬ (1 ≤ z ∧ z ≤ m)) : f_is_count [.int z, .int m] = .ok (.bool false) := by
  rw [count_ok]
  have : (decide (1 ≤ z) && decide (z ≤ m)) = false := by simpa using h
  rw [this]
theorem rec_not {n : Int} {z : Dt} (h : hIsa .list z = .ok (.bool false)) : f_is_record [.int n, z] = .ok (.bool false) := by
  refine fnN_rt ?_
  show g_is_record [.int n, z, .none, .none] = _
  unfold g_is_record
  refine seq_rt ((if_t ?_).trans rfl)
  simp only [gOr_def, gNot_def, gTest_def, gUn_def, gVar_def, List.getElem?_cons_zero, List.getElem?_cons_succ, bnd_ok, h, asB_b, Bool.not_false, if_true]
theorem num_refl (k : Nat) (s : List T3) (ns : List Int) (a : Int) : num k s ns a a = 0 := by
  unfold num
  have : ∀ (m lo : Nat), fj (fun j => ¬ Conn (layer ((j : Int) + 1) s ns) a a) lo m = 0 := by
    intro m
    induction m with
    | zero => intro lo; rfl
    | succ m ih =>
      intro lo
      unfold fj
      rw [if_neg (fun z => z (.refl a))]
      exact ih _
  exact this _ _
def ntD (n k : Int) (r : List T3) : Dt := .tuple [.int n, .int k, .list (r.map enc3)]
noncomputable def isNt (n k : Int) (r : List T3) : Bool := (decide (1 ≤ n) && decide (n ≤ 10)) && ((decide (1 ≤ k) && decide (k ≤ 6)) && ((r.all (okT n) && ordB r) && !decide ((0 : Int) ∈ lay k.toNat r)))
section
variable {n k : Int} {r : List T3}
theorem inN_all (h : r.all (okT n) = true) : InN n r := fun t ht => by
  have q := List.all_eq_true.mp h t ht
  unfold okT tieB at q
  simp only [Bool.and_eq_true, decide_eq_true_eq] at q
  obtain ⟨⟨_, ⟨a, b⟩, c, d⟩, e⟩ := q
  exact ⟨⟨a, b⟩, c, d⟩
theorem net_yes {j : Nat} (hl : r.length ≤ 60) (n1 : 1 ≤ n) (n10 : n ≤ 10) (k1 : 1 ≤ j) (k6 : j ≤ 6) (hrec : f_is_record [.int n, .list (r.map enc3)] = .ok (.bool true)) (hr : InN n r) (hz : ¬ (0 : Int) ∈ lay j r) : f_is_net [ntD n j r] = .ok (.bool true) := by
  refine fnN_rt ?_
  show g_is_net [ntD n j r, .none, .none, .none] = _
  unfold g_is_net
  have t1 : gTest (gUn (hIsa .tuple) (gVar 0)) [ntD n j r, .none, .none, .none] = .ok true := rfl
  have t2 : gTest (gOp hNe (gCB hLen (gCons (gVar 0) (gNil))) (gC (.int (3)))) [ntD n j r, .none, .none, .none] = .ok false := by
    rw [gTest_def, gOp_def]
    show bnd (hNe (.int 3) (.int 3)) asB = _
    rw [hNe_i]
    rfl
  refine seq_step ((if_f (by simp only [gOr_def, gNot_def, t1, t2, bnd_ok, Bool.not_true, Bool.false_eq_true, if_false])).trans rfl) ?_
  refine seq_step (ρ' := [ntD n j r, .int n, .int (j : Nat), .list (r.map enc3)]) (asg_ok (by rfl) (by rfl)) ?_
  have c1 : gCallN 2 f_is_count (gCons (gVar 1) (gCons (gC (.int (10))) (gNil))) [ntD n j r, .int n, .int (j : Nat), .list (r.map enc3)] = .ok (.bool true) := callN_ok (ds := [.int n, .int 10]) rfl rfl (cnt_yes ⟨n1, n10⟩)
  have c2 : gCallN 2 f_is_count (gCons (gVar 2) (gCons (gC (.int (6))) (gNil))) [ntD n j r, .int n, .int (j : Nat), .list (r.map enc3)] = .ok (.bool true) := callN_ok (ds := [.int (j : Nat), .int 6]) rfl rfl (cnt_yes ⟨by omega, by omega⟩)
  have c3 : gCallN 2 f_is_record (gCons (gVar 1) (gCons (gVar 3) (gNil))) [ntD n j r, .int n, .int (j : Nat), .list (r.map enc3)] = .ok (.bool true) := callN_ok (ds := [.int n, .list (r.map enc3)]) rfl rfl hrec
  refine seq_step ((if_f (by simp only [gOr_def, gNot_def, gTest_def, c1, c2, c3, bnd_ok, asB_b, Bool.not_true, Bool.false_eq_true, if_false])).trans rfl) ?_
  refine ret_ok ?_
  have c4 : gCallN 3 f_layered (gCons (gVar 1) (gCons (gVar 3) (gCons (gVar 2) (gNil)))) [ntD n j r, .int n, .int (j : Nat), .list (r.map enc3)] = .ok (.list ((lay j r).map .int)) := callN_ok (ds := [.int n, .list (r.map enc3), .int (j : Nat)]) rfl rfl (layered_ok hr (by omega) n1 n10 k1 k6)
  have hz : decide ((0 : Int) ∈ lay j r) = false := decide_eq_false hz
  rw [gOp_def, gC_def, c4, bnd_ok, bnd_ok, hNotIn_ints, hz]
  rfl
theorem net_any (hl : r.length ≤ 60) : f_is_net [ntD n k r] = .ok (.bool (isNt n k r)) := by
  by_cases hn : 1 ≤ n ∧ n ≤ 10
  · by_cases hk : 1 ≤ k ∧ k ≤ 6
    · obtain ⟨j, rfl⟩ : ∃ j : Nat, k = (j : Int) := ⟨k.toNat, by omega⟩
      have cn := cnt_yes (z := n) (m := 10) hn
      have ck := cnt_yes (z := (j : Int)) (m := 6) hk
      have hrec := rec_enc (n := n) (r := r) hl
      cases hr : (r.all (okT n) && ordB r) with
      | false =>
        have e : isNt n j r = false := by
          unfold isNt
          rw [hr]
          simp
        rw [e]
        rw [hr] at hrec
        exact bn_3 (c := true) (.inr ⟨cn, .inr ⟨ck, .inl hrec⟩⟩)
      | true =>
        rw [hr] at hrec
        have hin := inN_all (Bool.and_eq_true_iff.mp hr).1
        by_cases hz : (0 : Int) ∈ lay j r
        · have e : isNt n j r = false := by
            unfold isNt
            rw [Int.toNat_natCast, decide_eq_true hz]
            simp
          rw [e]
          exact bn_3 (c := true) (.inr ⟨cn, .inr ⟨ck, .inr ⟨hrec, lay j r, layered_ok hin (by omega) hn.1 hn.2 (by omega) (by omega), hz⟩⟩⟩)
        · have e : isNt n j r = true := by
            unfold isNt
            rw [hr, Int.toNat_natCast, decide_eq_true hn.1, decide_eq_true hn.2, decide_eq_true hk.1, decide_eq_true hk.2, decide_eq_false hz]
            rfl
          rw [e]
          exact net_yes hl hn.1 hn.2 (by omega) (by omega) hrec hin hz
    · have e : isNt n k r = false := by
        unfold isNt
        have : (decide (1 ≤ k) && decide (k ≤ 6)) = false := by simpa using hk
        rw [this]
        simp
      rw [e]
      exact bn_3 (c := true) (.inr ⟨cnt_yes hn, .inl (cnt_no hk)⟩)
  · have e : isNt n k r = false := by
      unfold isNt
      have : (decide (1 ≤ n) && decide (n ≤ 10)) = false := by simpa using hn
      rw [this]
      rfl
    rw [e]
    exact bn_3 (c := true) (.inl (cnt_no hn))
end
noncomputable def netR (l : List Nat) : Option (Int × Int × List T3) :=
  if isNum (pt 32 l).1 && isNum (pt 32 (pt 32 l).2.2).1 then
    (if 1 ≤ vl (pt 32 l).1 ∧ vl (pt 32 l).1 ≤ 10 then
      (match dueR (vl (pt 32 l).1 : Nat) (pt 32 (pt 32 l).2.2).2.2 with
        | some r => if isNt (vl (pt 32 l).1 : Nat) (vl (pt 32 (pt 32 l).2.2).1 : Nat) r then some ((vl (pt 32 l).1 : Nat), (vl (pt 32 (pt 32 l).2.2).1 : Nat), r) else none
        | none => none) else none) else none
def netX : Option (Int × Int × List T3) → Dt
  | some (n, k, r) => ntD n k r
  | none => .none
theorem many_ok (z : Int) : f_is_many [.int z] = .ok (.bool (decide (1 ≤ z) && decide (z ≤ 10))) := by
  refine fnN_rt ?_
  show g_is_many [.int z] = _
  unfold g_is_many
  have e : gCallN 1 f_is_whole (gCons (gVar 0) (gNil)) [.int z] = .ok (.bool true) := callN_ok (ds := [.int z]) rfl rfl (whole_int z)
  simp only [bnd_ok, gVar_def, gC_def, gOp_def, gUn_def, gNil_def, gCons_def, gIf_def, gTest_def, gNot_def, gAnd_def, gOr_def, gAndV_def, gOrV_def, gNotV_def, gCB_def, asB_b, hAdd_i, hSub_i, hLt_i, hLe_i, hGt_i, hGe_i, hMul_r, hMul_l, hMod_i, hDiv_s, hBand_i, hShr_i, hPow_10_18, hPow_10_27, hPow_10_28, hPow_10_29, hPow_10_30, hEq_i, hNe_i, hLen_l, hLen_t, hMin2_i, hMax2_i, hMin3_i, hInt1_b, hInt1_i, hBits_i, hListOf_l, hListOf_t, hTupOf_l, hTupOf_t, gSeqS_def, gSet_def, gRet_def, gIfS_def, gNext_def, gTup_def, gLst_def, List.getElem?_cons_zero, List.getElem?_cons_succ, List.set_cons_zero, List.set_cons_succ, List.length_cons, List.length_nil, Nat.zero_add, Nat.reduceAdd, Nat.reduceLeDiff, Nat.reduceSub, Nat.reduceMul, if_true, if_false, Bool.false_eq_true, List.replicate_succ, List.replicate_zero, List.cons_append, List.nil_append, tgN, tgT, tgCons, tgNil, Int.reducePow, Int.reduceAdd, Int.reduceSub, Int.reduceMul, decide_true, decide_false, Bool.not_true, Bool.not_false, gChain_def, hIsa_int, hIsa_intb, hIsa_list, hIsa_tuple, gDrop_def, e]
  cases decide (1 ≤ z) <;> rfl
theorem due_len {n : Int} {l : List Nat} {r : List T3} (h : dueR n l = some r) : r.length ≤ 60 := by
  unfold dueR at h
  split at h
  · cases h; simp
  · split at h
    · rename_i c
      cases h
      rw [Bool.and_eq_true, Bool.and_eq_true, decide_eq_true_eq] at c
      rw [List.length_map]
      exact c.1.2
    · cases h
theorem read_net_ok {l : List Nat} (hl : l.length ≤ 90000) (ha : Asc l) : f_read_net [sD l] = (match netR l with
    | some x => .ok (netX (some x))
    | none => .ex NT) := by
  have l1 := pt_len 32 l
  have l2 := pt_len 32 (pt 32 l).2.2
  have a1 : Asc (pt 32 l).1 := asc_sub ha fun c hc => pt_sub1 hc
  have a2 : Asc (pt 32 (pt 32 l).2.2).1 := asc_sub ha fun c hc => pt_sub2 (pt_sub1 hc)
  have a3 : Asc (pt 32 (pt 32 l).2.2).2.2 := asc_sub ha fun c hc => pt_sub2 (pt_sub2 hc)
  have p1 := part_ok (ρ := [sD l, .none, .none, .none, .none, .none, .none, .none, .none, .none]) (g := gVar 0) (l := l) rfl lit_blank (by omega)
  have p2 := part_ok (ρ := [sD l, sD (pt 32 l).1, sD (if (pt 32 l).2.1 = true then [32] else []), sD (pt 32 l).2.2, .none, .none, .none, .none, .none, .none]) (g := gVar 3) (l := (pt 32 l).2.2) rfl lit_blank (by omega)
  have start : ∀ z : O Fl, (gSeqS (gSet 7 (gCallX 1 f_number_in (gCons (gVar 1) (gNil)))) (gSeqS (gSet 8 (gCallX 1 f_number_in (gCons (gVar 4) (gNil)))) (gSeqS (gIfS (gNot (gTest (gCallN 1 f_is_many (gCons (gVar 7) (gNil))))) (gRaise "NoText") (gNext)) (gSeqS (gSet 9 (gTup (gCons (gVar 7) (gCons (gVar 8) (gCons (gCallX 2 f_read_record (gCons (gVar 7) (gCons (gVar 6) (gNil)))) (gNil)))))) (gSeqS (gIfS (gNot (gTest (gCallN 1 f_is_net (gCons (gVar 9) (gNil))))) (gRaise "NoText") (gNext)) (gRet (gVar 9)))))))
      [sD l, sD (pt 32 l).1, sD (if (pt 32 l).2.1 = true then [32] else []), sD (pt 32 l).2.2, sD (pt 32 (pt 32 l).2.2).1, sD (if (pt 32 (pt 32 l).2.2).2.1 = true then [32] else []), sD (pt 32 (pt 32 l).2.2).2.2, .none, .none, .none] = z → g_read_net [sD l, .none, .none, .none, .none, .none, .none, .none, .none, .none] = z := fun z h => by
    unfold g_read_net
    exact seq_step (asg_ok p1 rfl) (seq_step (asg_ok p2 rfl) h)
  unfold netR
  generalize (pt 32 l).2.1 = f1 at *
  generalize (pt 32 l).1 = w1 at *
  generalize (pt 32 (pt 32 l).2.2).2.1 = f2 at *
  generalize (pt 32 (pt 32 l).2.2).2.2 = w3 at *
  generalize (pt 32 (pt 32 l).2.2).1 = w2 at *
  generalize (pt 32 l).2.2 = rest at *
  cases b1 : isNum w1 with
  | false => exact fnNX_ex (start _ (seq_ex (set_ex (callX_ex (ds := [sD w1]) rfl rfl (number_no (by omega) a1 b1)))))
  | true =>
    have s1 : gSet 7 (gCallX 1 f_number_in (gCons (gVar 1) (gNil))) [sD l, sD w1, sD (if f1 = true then [32] else []), sD rest, sD w2, sD (if f2 = true then [32] else []), sD w3, .none, .none, .none] = .ok (.nx [sD l, sD w1, sD (if f1 = true then [32] else []), sD rest, sD w2, sD (if f2 = true then [32] else []), sD w3, .int (vl w1 : Nat), .none, .none]) := set_ok (callX_ok (ds := [sD w1]) rfl rfl (number_ok b1))
    cases b2 : isNum w2 with
    | false => exact fnNX_ex (start _ (seq_step s1 (seq_ex (set_ex (callX_ex (ds := [sD w2]) rfl rfl (number_no (by omega) a2 b2))))))
    | true =>
      have s2 : gSet 8 (gCallX 1 f_number_in (gCons (gVar 4) (gNil))) [sD l, sD w1, sD (if f1 = true then [32] else []), sD rest, sD w2, sD (if f2 = true then [32] else []), sD w3, .int (vl w1 : Nat), .none, .none] = .ok (.nx [sD l, sD w1, sD (if f1 = true then [32] else []), sD rest, sD w2, sD (if f2 = true then [32] else []), sD w3, .int (vl w1 : Nat), .int (vl w2 : Nat), .none]) := set_ok (callX_ok (ds := [sD w2]) rfl rfl (number_ok b2))
      have hm := many_ok (vl w1 : Nat)
      have cm : gCallN 1 f_is_many (gCons (gVar 7) (gNil)) [sD l, sD w1, sD (if f1 = true then [32] else []), sD rest, sD w2, sD (if f2 = true then [32] else []), sD w3, .int (vl w1 : Nat), .int (vl w2 : Nat), .none] = _ := callN_ok (ds := [.int (vl w1 : Nat)]) rfl rfl hm
      by_cases hn : 1 ≤ vl w1 ∧ vl w1 ≤ 10
      · rw [decide_eq_true (show (1 : Int) ≤ ((vl w1 : Nat) : Int) by omega), decide_eq_true (show ((vl w1 : Nat) : Int) ≤ 10 by omega)] at cm
        have tm : gNot (gTest (gCallN 1 f_is_many (gCons (gVar 7) (gNil)))) [sD l, sD w1, sD (if f1 = true then [32] else []), sD rest, sD w2, sD (if f2 = true then [32] else []), sD w3, .int (vl w1 : Nat), .int (vl w2 : Nat), .none] = .ok false := by rw [gNot_def, gTest_def, cm]; rfl
        have s3 : gIfS (gNot (gTest (gCallN 1 f_is_many (gCons (gVar 7) (gNil))))) (gRaise "NoText") (gNext) [sD l, sD w1, sD (if f1 = true then [32] else []), sD rest, sD w2, sD (if f2 = true then [32] else []), sD w3, .int (vl w1 : Nat), .int (vl w2 : Nat), .none] = .ok (.nx [sD l, sD w1, sD (if f1 = true then [32] else []), sD rest, sD w2, sD (if f2 = true then [32] else []), sD w3, .int (vl w1 : Nat), .int (vl w2 : Nat), .none]) := (if_f tm).trans rfl
        have rd := read_ok (n := (vl w1 : Nat)) (l := w3) (by omega) a3
        simp only [Bool.and_self, if_true, hn, and_self]
        cases hd : dueR ((vl w1 : Nat) : Int) w3 with
        | none =>
          rw [hd] at rd
          refine fnNX_ex (start _ (seq_step s1 (seq_step s2 (seq_step s3 (seq_ex (set_ex (tup_ex ?_)))))))
          exact cons_ok_ex rfl (cons_ok_ex rfl (cons_ex (callX_ex (ds := [.int (vl w1 : Nat), sD w3]) rfl rfl rd)))
        | some r =>
          rw [hd] at rd
          have c4 : gCallX 2 f_read_record (gCons (gVar 7) (gCons (gVar 6) (gNil))) [sD l, sD w1, sD (if f1 = true then [32] else []), sD rest, sD w2, sD (if f2 = true then [32] else []), sD w3, .int (vl w1 : Nat), .int (vl w2 : Nat), .none] = .ok (.list (r.map enc3)) := callX_ok (ds := [.int (vl w1 : Nat), sD w3]) rfl rfl rd
          have s4 : gSet 9 (gTup (gCons (gVar 7) (gCons (gVar 8) (gCons (gCallX 2 f_read_record (gCons (gVar 7) (gCons (gVar 6) (gNil)))) (gNil))))) [sD l, sD w1, sD (if f1 = true then [32] else []), sD rest, sD w2, sD (if f2 = true then [32] else []), sD w3, .int (vl w1 : Nat), .int (vl w2 : Nat), .none] = .ok (.nx [sD l, sD w1, sD (if f1 = true then [32] else []), sD rest, sD w2, sD (if f2 = true then [32] else []), sD w3, .int (vl w1 : Nat), .int (vl w2 : Nat), ntD (vl w1 : Nat) (vl w2 : Nat) r]) := by
            refine set_ok (gTup_ok (xs := [.int (vl w1 : Nat), .int (vl w2 : Nat), .list (r.map enc3)]) ?_ (by simp))
            simp only [gCons_def, c4, gNil_def, bnd_ok]
            rfl
          have hnet := net_any (n := (vl w1 : Nat)) (k := (vl w2 : Nat)) (r := r) (due_len hd)
          have c5 : gCallN 1 f_is_net (gCons (gVar 9) (gNil)) [sD l, sD w1, sD (if f1 = true then [32] else []), sD rest, sD w2, sD (if f2 = true then [32] else []), sD w3, .int (vl w1 : Nat), .int (vl w2 : Nat), ntD (vl w1 : Nat) (vl w2 : Nat) r] = _ := callN_ok (ds := [ntD (vl w1 : Nat) (vl w2 : Nat) r]) rfl rfl hnet
          simp only
          cases hi : isNt ((vl w1 : Nat) : Int) ((vl w2 : Nat) : Int) r with
          | true =>
            rw [hi] at c5
            refine fnNX_rt (start _ (seq_step s1 (seq_step s2 (seq_step s3 (seq_step s4 (seq_step ((if_f (by rw [gNot_def, gTest_def, c5]; rfl)).trans rfl) ?_))))))
            rfl
          | false =>
            rw [hi] at c5
            exact fnNX_ex (start _ (seq_step s1 (seq_step s2 (seq_step s3 (seq_step s4 (seq_ex ((if_t (by rw [gNot_def, gTest_def, c5]; rfl)).trans rfl)))))))
      · have e : (decide ((1 : Int) ≤ ((vl w1 : Nat) : Int)) && decide (((vl w1 : Nat) : Int) ≤ 10)) = false := by
          rw [Bool.and_eq_false_iff, decide_eq_false_iff_not, decide_eq_false_iff_not]
          omega
        rw [e] at cm
        simp only [Bool.and_self, if_true, hn, if_false]
        exact fnNX_ex (start _ (seq_step s1 (seq_step s2 (seq_ex ((if_t (by rw [gNot_def, gTest_def, cm]; rfl)).trans rfl)))))
theorem lread_ok {l : List Nat} (hl : l.length ≤ 90000) (ha : Asc l) : f_l_read [sD l] = .ok (netX (netR l)) := by
  refine fnN_rt ?_
  show g_l_read [sD l, .none, .none, .none] = _
  unfold g_l_read
  refine seq_step (ρ' := [sD l, .none, .none, .none]) rfl (seq_step (ρ' := [sD l, .none, .none, .none]) rfl ?_)
  have hr := read_net_ok hl ha
  cases q : netR l with
  | some x =>
    rw [q] at hr
    have hr : f_read_net [sD l] = .ok (netX (some x)) := hr
    have ht : gTry (gSet 2 (gCallX 1 f_read_net (gCons (gVar 0) (gNil)))) ["NoNet", "NoText"] [] 3 (gSet 1 (gVar 3)) [sD l, .none, .none, .none] = .ok (.nx [sD l, .none, netX (some x), .none]) := by
      have e : gSet 2 (gCallX 1 f_read_net (gCons (gVar 0) (gNil))) [sD l, .none, .none, .none] = .ok (.nx [sD l, .none, netX (some x), .none]) := set_ok (callX_ok (ds := [sD l]) rfl rfl hr)
      unfold gTry
      rw [e]
    refine seq_step ht ?_
    exact seq_rt ((if_t rfl).trans rfl)
  | none =>
    rw [q] at hr
    have hr : f_read_net [sD l] = .ex NT := hr
    have ht : gTry (gSet 2 (gCallX 1 f_read_net (gCons (gVar 0) (gNil)))) ["NoNet", "NoText"] [] 3 (gSet 1 (gVar 3)) [sD l, .none, .none, .none] = .ok (.nx [sD l, exnD "NoText" none, .none, exnD "NoText" none]) := by
      have e : gSet 2 (gCallX 1 f_read_net (gCons (gVar 0) (gNil))) [sD l, .none, .none, .none] = .ex NT := set_ex (callX_ex (ds := [sD l]) rfl rfl hr)
      have hc : (["NoNet", "NoText"] : List Str).contains "NoText" = true := by decide +kernel
      unfold gTry
      rw [e]
      simp only [hc, if_true]
      rfl
    refine seq_step ht ?_
    refine seq_step (ρ' := [sD l, exnD "NoText" none, .none, exnD "NoText" none]) ((if_f rfl).trans rfl) ?_
    have h1 : hIsX [("NoNet", false), ("NoText", true)] (exnD "NoText" none) = .ok (.bool true) := by kernel_rfl
    have h2 : hIsX [("NoNet", true), ("NoText", false)] (exnD "NoText" none) = .ok (.bool false) := by kernel_rfl
    have v2 : gTest (gUn (hIsX [("NoNet", false), ("NoText", true)]) (gVar 1)) [sD l, exnD "NoText" none, .none, exnD "NoText" none] = .ok true := by
      rw [gTest_def, gUn_def]
      show bnd (hIsX [("NoNet", false), ("NoText", true)] (exnD "NoText" none)) asB = _
      rw [h1]
      rfl
    have v3 : gTest (gUn (hIsX [("NoNet", true), ("NoText", false)]) (gVar 1)) [sD l, exnD "NoText" none, .none, exnD "NoText" none] = .ok false := by
      rw [gTest_def, gUn_def]
      show bnd (hIsX [("NoNet", true), ("NoText", false)] (exnD "NoText" none)) asB = _
      rw [h2]
      rfl
    refine seq_step ((if_f (by rw [gOr_def, gNot_def, v2]; exact v3)).trans rfl) rfl
structure Rec (r : List T3) : Prop where
  len : r.length ≤ 60
  m : ∀ t ∈ r, (0 ≤ t.1 ∧ t.1 ≤ 1000000000000000000000000000000) ∧ 0 ≤ t.2.1 ∧ t.2.1 ≤ t.2.2 ∧ t.2.2 ≤ 1000
  ord : ordB r = true
theorem Rec.sm {r : List T3} (h : Rec r) : ∀ t ∈ r, Sm t := fun t ht => by
  obtain ⟨⟨a, b⟩, c, d, e⟩ := h.m t ht
  exact ⟨a, by omega, c, by omega, by omega, by omega⟩
theorem Rec.okT {r : List T3} (h : Rec r) {t : T3} (ht : t ∈ r) (n : Int) : okT n t = decide (t.2.2 < n) := by
  obtain ⟨⟨a, b⟩, c, d, e⟩ := h.m t ht
  unfold K57.okT tieB
  rw [decide_eq_true a, decide_eq_true b, decide_eq_true c, decide_eq_true d, decide_eq_true (show (0 : Int) ≤ t.2.2 by omega)]
  by_cases q : t.2.2 < n
  · rw [decide_eq_true q, decide_eq_true (show t.2.1 < n by omega)]
    rfl
  · rw [decide_eq_false q]
    simp
theorem due_any {n : Int} {r : List T3} (h : Rec r) : dueR n (recL r) = if r.all (okT n) then some r else none := by
  unfold dueR
  have hs := h.sm
  by_cases c : r = []
  · have : recL r = noneL := by unfold recL; rw [if_pos c]
    rw [if_pos this, c]
    rfl
  · rw [if_neg (recL_ne c), recL_sp c]
    have ev : (r.map tieL).map val = r := by
      rw [List.map_map]
      conv => rhs; rw [← List.map_id r]
      refine List.map_congr_left fun t ht => ?_
      show val (tieL t) = t
      unfold val
      rw [tri_tie (hs t ht)]
      rfl
    have eo : (r.map tieL).all (okD n) = r.all (okT n) := by
      rw [List.all_map, Bool.eq_iff_iff, List.all_eq_true, List.all_eq_true]
      refine forall_congr' fun t => forall_congr' fun ht => ?_
      show okD n (tieL t) = true ↔ _
      unfold okD
      rw [tri_tie (hs t ht)]
    rw [ev, eo, h.ord, List.length_map, decide_eq_true h.len, Bool.and_true, Bool.and_true]
theorem nd32 (n : Nat) : 32 ∉ dg n := nd (by unfold Fig; omega)
theorem netR_net {n : Int} {k : Nat} {r : List T3} (n0 : 0 ≤ n) (n12 : n ≤ 100) (k6 : k ≤ 100) (h : Rec r) : netR (netL n k r) = if isNt n k r then some (n, (k : Int), r) else none := by
  have e1 : pt 32 (netL n k r) = (dg n.toNat, true, dg k ++ 32 :: recL r) := pt_app (nd32 _)
  have e2 : pt 32 (dg k ++ 32 :: recL r) = (dg k, true, recL r) := pt_app (nd32 _)
  have q1 := num_60 (i := n) (by omega)
  have q2 := num_60 (i := ((k : Nat) : Int)) (by omega)
  rw [Int.toNat_natCast] at q2
  unfold netR
  rw [e1]
  simp only
  rw [e2]
  simp only
  rw [q1, q2, vl_dg, vl_dg]
  simp only [Bool.and_self, if_true]
  have en : ((n.toNat : Nat) : Int) = n := by omega
  by_cases hn : 1 ≤ n.toNat ∧ n.toNat ≤ 10
  · rw [if_pos hn, en, due_any h]
    cases hr : r.all (okT n) with
    | true =>
      simp only [if_true]
    | false =>
      have : isNt n k r = false := by
        unfold isNt
        rw [hr]
        simp
      rw [this]
      rfl
  · rw [if_neg hn]
    have : isNt n k r = false := by
      unfold isNt
      have z : (decide (1 ≤ n) && decide (n ≤ 10)) = false := by
        rw [Bool.and_eq_false_iff, decide_eq_false_iff_not, decide_eq_false_iff_not]
        omega
      rw [z]
      rfl
    rw [this]
    rfl
theorem due_walk {n : Int} {a b : Dt} : ∀ {r : List T3} (z : Dt) (x : Dt), (r.all (fun t => decide (t.2.2 < n)) = true → ∃ z', forE (tgN 3) g_l_due_L1 (r.map enc3) [.int n, a, x, z] = .ok (.nx [.int n, a, x, z'])) ∧ (r.all (fun t => decide (t.2.2 < n)) = false → forE (tgN 3) g_l_due_L1 (r.map enc3) [.int n, a, x, z] = .ok (.rt .none))
  | [], z, x => ⟨fun _ => ⟨z, rfl⟩, fun h => by simp at h⟩
  | t :: r, z, x => by
    have ih := due_walk (n := n) (a := a) (b := b) (r := r) (enc3 t) x
    have e : tgN 3 (enc3 t) [.int n, a, x, z] = .ok [.int n, a, x, enc3 t] := rfl
    have hb : g_l_due_L1 [.int n, a, x, enc3 t] = if t.2.2 < n then .ok (.nx [.int n, a, x, enc3 t]) else .ok (.rt .none) := by
      have tt : gTest (gOp hGe (gOp hIx (gVar 3) (gC (.int (2)))) (gVar 0)) [.int n, a, x, enc3 t] = .ok (decide (n ≤ t.2.2)) := rfl
      unfold g_l_due_L1
      by_cases c : t.2.2 < n
      · rw [if_pos c]
        rw [decide_eq_false (by omega)] at tt
        exact (if_f tt).trans rfl
      · rw [if_neg c]
        rw [decide_eq_true (by omega)] at tt
        exact (if_t tt).trans rfl
    rw [List.map_cons, List.all_cons]
    by_cases c : t.2.2 < n
    · rw [if_pos c] at hb
      rw [decide_eq_true c, Bool.true_and]
      refine ⟨fun k => ?_, fun k => ?_⟩
      · obtain ⟨z', hz⟩ := ih.1 k
        refine ⟨z', ?_⟩
        rw [forE]
        simp only [e, hb, bnd_ok]
        exact hz
      · rw [forE]
        simp only [e, hb, bnd_ok]
        exact ih.2 k
    · rw [if_neg c] at hb
      rw [decide_eq_false c, Bool.false_and]
      refine ⟨fun k => (nomatch k), fun _ => ?_⟩
      rw [forE]
      simp only [e, hb, bnd_ok]
theorem chain_ii {ga gb gc : Gd} {ρ : List Dt} {a b c : Int} (h1 : ga ρ = .ok (.int a)) (h2 : gb ρ = .ok (.int b)) (h3 : gc ρ = .ok (.int c)) : gTest (gChain hLe hLe ga gb gc) ρ = .ok (decide (a ≤ b) && decide (b ≤ c)) := by
  rw [gTest_def, gChain_def, h1, bnd_ok, h2, bnd_ok, hLe_i, bnd_ok, asB_b, bnd_ok]
  cases decide (a ≤ b) with
  | false => rfl
  | true => rw [if_pos rfl, h3, bnd_ok, hLe_i]; rfl
theorem ldue_ok {n : Int} {k : Nat} {r : List T3} (h : Rec r) : f_l_due [.int n, .int (k : Nat), .list (r.map enc3)] = .ok (netX (if isNt n k r then some (n, (k : Int), r) else none)) := by
  refine fnN_rt ?_
  show g_l_due [.int n, .int (k : Nat), .list (r.map enc3), .none] = _
  unfold g_l_due
  have t1 : gTest (gChain hLe hLe (gC (.int (1))) (gVar 0) (gC (.int (10)))) [.int n, .int (k : Nat), .list (r.map enc3), .none] = .ok (decide (1 ≤ n) && decide (n ≤ 10)) := chain_ii rfl rfl rfl
  have t2 : gTest (gChain hLe hLe (gC (.int (1))) (gVar 1) (gC (.int (6)))) [.int n, .int (k : Nat), .list (r.map enc3), .none] = .ok (decide ((1 : Int) ≤ ((k : Nat) : Int)) && decide (((k : Nat) : Int) ≤ 6)) := chain_ii rfl rfl rfl
  cases b1 : (decide (1 ≤ n) && decide (n ≤ 10)) with
  | false =>
    rw [b1] at t1
    have : isNt n k r = false := by
      unfold isNt
      rw [b1]
      rfl
    rw [this]
    exact seq_rt ((if_t (by rw [gOr_def, gNot_def, t1]; rfl)).trans rfl)
  | true =>
    rw [b1] at t1
    cases b2 : (decide ((1 : Int) ≤ ((k : Nat) : Int)) && decide (((k : Nat) : Int) ≤ 6)) with
    | false =>
      rw [b2] at t2
      have : isNt n k r = false := by
        unfold isNt
        rw [b1, b2]
        rfl
      rw [this]
      exact seq_rt ((if_t (by rw [gOr_def, gNot_def, t1]; show gNot _ _ = _; rw [gNot_def, t2]; rfl)).trans rfl)
    | true =>
      rw [b2] at t2
      refine seq_step ((if_f (by rw [gOr_def, gNot_def, t1]; show gNot _ _ = _; rw [gNot_def, t2]; rfl)).trans rfl) ?_
      have ea : r.all (okT n) = r.all fun t => decide (t.2.2 < n) := by
        rw [Bool.eq_iff_iff, List.all_eq_true, List.all_eq_true]
        refine forall_congr' fun t => forall_congr' fun ht => ?_
        rw [h.okT ht]
      have w := due_walk (n := n) (a := .int (k : Nat)) (b := .none) (r := r) .none (.list (r.map enc3))
      rw [← ea] at w
      cases b3 : r.all (okT n) with
      | false =>
        have : isNt n k r = false := by
          unfold isNt
          rw [b3]
          simp
        rw [this]
        exact seq_rt (for_ok (seqG_l rfl) (w.2 b3))
      | true =>
        obtain ⟨z', hz⟩ := w.1 b3
        refine seq_step (for_ok (seqG_l rfl) hz) ?_
        have hin := inN_all b3
        rw [Bool.and_eq_true, decide_eq_true_eq, decide_eq_true_eq] at b1 b2
        have nb := numbered_ok hin h.len b1.1 b1.2 (k := k) (by omega)
        have c1 : gCallN 3 f_l_numbered (gCons (gVar 0) (gCons (gVar 2) (gCons (gVar 1) (gNil)))) [.int n, .int (k : Nat), .list (r.map enc3), z'] = .ok (.list ((lay k r).map .int)) := callN_ok (ds := [.int n, .list (r.map enc3), .int (k : Nat)]) rfl rfl nb
        have t3 : gTest (gOp hIn (gC (.int (0))) (gCallN 3 f_l_numbered (gCons (gVar 0) (gCons (gVar 2) (gCons (gVar 1) (gNil)))))) [.int n, .int (k : Nat), .list (r.map enc3), z'] = .ok (decide ((0 : Int) ∈ lay k r)) := by
          rw [gTest_def, gOp_def, c1, gC_def, bnd_ok, bnd_ok, hIn_ints]
          rfl
        have ei : isNt n k r = !decide ((0 : Int) ∈ lay k r) := by
          unfold isNt
          rw [b3, h.ord, Int.toNat_natCast, decide_eq_true b1.1, decide_eq_true b1.2, decide_eq_true b2.1, decide_eq_true b2.2]
          rfl
        rw [ei]
        by_cases z : (0 : Int) ∈ lay k r
        · rw [decide_eq_true z] at t3 ⊢
          exact seq_rt ((if_t t3).trans rfl)
        · rw [decide_eq_false z] at t3 ⊢
          exact seq_step ((if_f t3).trans rfl) rfl
end K57
end T_K57D
section T_K57B
set_option linter.all false
set_option maxRecDepth 100000
set_option maxHeartbeats 4000000
namespace K57
open PySem Sim FamA FamL Lay K24 TxtP
theorem nr1 {l : List Nat} (h : isNum (pt 32 l).1 = false) : netR l = none := by
  unfold netR
  rw [h]
  rfl
theorem nr2 {l : List Nat} (h : isNum (pt 32 (pt 32 l).2.2).1 = false) : netR l = none := by
  unfold netR
  rw [h, Bool.and_false]
  rfl
theorem nrN {l : List Nat} (h : ¬ (1 ≤ vl (pt 32 l).1 ∧ vl (pt 32 l).1 ≤ 10)) : netR l = none := by
  unfold netR
  cases isNum (pt 32 l).1 && isNum (pt 32 (pt 32 l).2.2).1 with
  | true => rw [if_pos rfl, if_neg h]
  | false => rfl
theorem nrZ {l : List Nat} (h : ∀ r, dueR (vl (pt 32 l).1 : Nat) (pt 32 (pt 32 l).2.2).2.2 = some r → isNt (vl (pt 32 l).1 : Nat) (vl (pt 32 (pt 32 l).2.2).1 : Nat) r = false) : netR l = none := by
  unfold netR
  split
  · split
    · cases e : dueR ((vl (pt 32 l).1 : Nat) : Int) (pt 32 (pt 32 l).2.2).2.2 with
      | none => rfl
      | some r =>
        simp only
        rw [h r e]
        rfl
    · rfl
  · rfl
theorem nrD {l : List Nat} (h : dueR (vl (pt 32 l).1 : Nat) (pt 32 (pt 32 l).2.2).2.2 = none) : netR l = none := nrZ fun r e => by rw [h] at e; cases e
theorem nrK {l : List Nat} (h : ¬ (1 ≤ vl (pt 32 (pt 32 l).2.2).1 ∧ vl (pt 32 (pt 32 l).2.2).1 ≤ 6)) : netR l = none := nrZ fun r _ => by
  unfold isNt
  have : (decide ((1 : Int) ≤ ((vl (pt 32 (pt 32 l).2.2).1 : Nat) : Int)) && decide (((vl (pt 32 (pt 32 l).2.2).1 : Nat) : Int) ≤ 6)) = false := by
    rw [Bool.and_eq_false_iff, decide_eq_false_iff_not, decide_eq_false_iff_not]
    omega
  rw [this]
  simp
theorem pt_pre {c : Nat} : ∀ {p r : List Nat}, c ∉ p → (pt c (p ++ r)).1 = p ++ (pt c r).1
  | [], _, _ => rfl
  | d :: p, r, h => by
    have h1 : ¬ d = c := fun z => h (z ▸ List.mem_cons_self)
    have h2 : c ∉ p := fun z => h (List.mem_cons_of_mem _ z)
    rw [List.cons_append, pt, if_neg h1, pt_pre h2]
    rfl
theorem tieL_32 (t : T3) : 32 ∉ tieL t := by
  unfold tieL
  intro z
  rcases List.mem_append.mp z with z | z
  · exact nd32 _ z
  · rcases List.mem_cons.mp z with z | z
    · cases z
    · rcases List.mem_append.mp z with z | z
      · exact nd32 _ z
      · rcases List.mem_cons.mp z with z | z
        · cases z
        · exact nd32 _ z
theorem not_num {l : List Nat} {c : Nat} (h : c ∈ l) (hc : ¬ Fig c) : isNum l = false := by
  cases e : isNum l with
  | false => rfl
  | true => exact (hc ((isNum_iff.mp e).2.1 c h)).elim
theorem first_word (r : List T3) : isNum (pt 32 (recL r)).1 = false := by
  cases r with
  | nil => exact (by decide +kernel : isNum (pt 32 noneL).1 = false)
  | cons t r =>
    have h58 : 58 ∈ tieL t := by
      unfold tieL
      exact List.mem_append_right _ List.mem_cons_self
    have e : ∃ q, recL (t :: r) = tieL t ++ q := by
      unfold recL
      rw [if_neg (List.cons_ne_nil _ _), List.map_cons]
      cases r with
      | nil => exact ⟨[], by rw [List.map_nil, jn, List.append_nil]⟩
      | cons u r => exact ⟨[59, 32] ++ jn [59, 32] ((u :: r).map tieL), by rw [List.map_cons, jn, List.append_assoc]⟩
    obtain ⟨q, e⟩ := e
    rw [e, pt_pre (tieL_32 t)]
    exact not_num (List.mem_append_left _ h58) (by unfold Fig; omega)
def BadT (d : Dt) : Prop := ∃ l, d = sD l ∧ Asc l ∧ l.length ≤ 60000 ∧ netR l = none
theorem bt_lit {x : Str} (ha : (cs x).all (fun c => decide (c < 256)) = true) (hl : (cs x).length ≤ 60000) (h : netR (cs x) = none) : BadT (.str x) := ⟨cs x, congrArg PyData.str (mk_cs x).symm, fun c hc => by
  have := List.all_eq_true.mp ha c hc
  simpa using this, hl, h⟩
theorem cat_l {a b : Gd} {ρ xs ys : List Dt} (h1 : a ρ = .ok (.list xs)) (h2 : b ρ = .ok (.list ys)) (h : xs.length + ys.length ≤ 100000) : gOp hCat a b ρ = .ok (.list (xs ++ ys)) := by
  rw [gOp_def, h1, bnd_ok, h2, bnd_ok, hCat_l h]
theorem op_ix {a b : Gd} {ρ : List Dt} {x y z : Dt} (h1 : a ρ = .ok x) (h2 : b ρ = .ok y) (h3 : hIx x y = .ok z) : gOp hIx a b ρ = .ok z := by rw [gOp_def, h1, bnd_ok, h2, bnd_ok, h3]
theorem ix_lst {ds : List Dt} {i : Int} (h0 : 0 ≤ i) (h1 : i < ds.length) : ∃ d, hIx (.list ds) (.int i) = .ok d ∧ d ∈ ds := by
  refine ⟨ds[i.toNat]'(by omega), hIx_l ?_, List.getElem_mem _⟩
  have := atI_map (id : Dt → Dt) (xs := ds) h0 h1
  rw [List.map_id] at this
  exact this
theorem lst_cons {a : Gd} {b : List Dt → O (List Dt)} {ρ : List Dt} {x : Dt} {xs : List Dt} (h1 : a ρ = .ok x) (h2 : b ρ = .ok xs) : gCons a b ρ = .ok (x :: xs) := by rw [gCons_def, h1, bnd_ok, h2, bnd_ok]
theorem lst_ok {g : List Dt → O (List Dt)} {ρ xs : List Dt} (h : g ρ = .ok xs) (hl : xs.length ≤ 100000) : gLst g ρ = .ok (.list xs) := by rw [gLst_def, h, bnd_ok, if_pos hl]
theorem bad_ok {n : Int} {k : Nat} {r : List T3} {x : Int} (n1 : 1 ≤ n) (n10 : n ≤ 10) (k1 : 1 ≤ k) (k6 : k ≤ 6) (h : Rec r) (x0 : 0 ≤ x) : ∃ d, f_l_bad [.int n, .int (k : Nat), .list (r.map enc3), .int x] = .ok d ∧ BadT d := by
  have tx := l_text_ok h.sm (by have := h.len; omega)
  have hT := recL_len h.sm (by have := h.len; omega)
  have aT := asc_rec r
  have fw := first_word r
  have dl : dueR n (recL r ++ [32]) = none := due_last
  have hns : ∀ (x4 x5 : Dt), gCB hStrI (gCons (gVar 0) (gNil)) [.int n, .int (k : Nat), .list (r.map enc3), .int x, x4, x5] = .ok (sD (dg n.toNat)) := fun _ _ => cb1s rfl (hStrI_s (by omega) (by omega))
  have hks : ∀ (x4 x5 : Dt), gCB hStrI (gCons (gVar 1) (gNil)) [.int n, .int (k : Nat), .list (r.map enc3), .int x, x4, x5] = .ok (sD (dg k)) := fun _ _ => cb1s rfl (by
    have q := hStrI_s (i := ((k : Nat) : Int)) (by omega) (by omega)
    rw [Int.toNat_natCast] at q
    exact q)
  have ln := dg_60 (i := n) (by omega)
  have lk : (dg k).length ≤ 60 := dg_60 (i := ((k : Nat) : Int)) (by omega)
  have nn : isNum (dg n.toNat) = true := num_60 (i := n) (by omega)
  have nk : isNum (dg k) = true := by
    have q := num_60 (i := ((k : Nat) : Int)) (by omega)
    rw [Int.toNat_natCast] at q
    exact q
  generalize hTT : recL r = T at *
  have an := asc_dg n.toNat
  have ak := asc_dg k
  have b32 : Asc [32] := asc_one (by omega)
  suffices hs : ∃ d, g_l_bad [.int n, .int (k : Nat), .list (r.map enc3), .int x, .none, .none] = .ok (.rt d) ∧ BadT d by
    obtain ⟨d, h1, h2⟩ := hs
    exact ⟨d, fnN_rt h1, h2⟩
  unfold g_l_bad
  have s0 : gSet 4 (gCallN 1 f_l_text (gCons (gVar 2) (gNil))) [.int n, .int (k : Nat), .list (r.map enc3), .int x, .none, .none] = .ok (.nx [.int n, .int (k : Nat), .list (r.map enc3), .int x, sD T, .none]) := set_ok (callN_ok (ds := [.list (r.map enc3)]) rfl rfl tx)
  rw [seq_nx s0]
  have v4 : ∀ x5 : Dt, gVar 4 [.int n, .int (k : Nat), .list (r.map enc3), .int x, sD T, x5] = .ok (sD T) := fun _ => rfl
  have e2b : ((("  " : String) : Str) = mk [32, 32]) := by decide +kernel
  have e1b : (((" 1 " : String) : Str) = mk [32, 49, 32]) := by decide +kernel
  have e01 : (((" 01 none" : String) : Str) = mk [32, 48, 49, 32, 110, 111, 110, 101]) := by decide +kernel
  -- the first four
  obtain ⟨L1, l1, p1, z1⟩ : ∃ L1 : List Dt, gLst (gCons (gOp hAddS (gOp hAddS (gCB hStrI (gCons (gVar 0) (gNil))) (gC (.str " "))) (gCB hStrI (gCons (gVar 1) (gNil)))) (gCons (gOp hAddS (gOp hAddS (gOp hAddS (gOp hAddS (gCB hStrI (gCons (gVar 0) (gNil))) (gC (.str "  "))) (gCB hStrI (gCons (gVar 1) (gNil)))) (gC (.str " "))) (gVar 4)) (gCons (gVar 4) (gCons (gOp hAddS (gOp hAddS (gCB hStrI (gCons (gVar 1) (gNil))) (gC (.str " "))) (gVar 4)) (gNil))))) [.int n, .int (k : Nat), .list (r.map enc3), .int x, sD T, .none] = .ok (.list L1) ∧ (∀ d ∈ L1, BadT d) ∧ L1.length = 4 := by
    have q1 := op_addS (op_addS (hns (sD T) .none) (c_s lit_blank _) (by simp; omega)) (hks (sD T) .none) (by simp; omega)
    have q2 := op_addS (op_addS (op_addS (op_addS (hns (sD T) .none) (c_s e2b _) (by simp; omega)) (hks (sD T) .none) (by simp; omega)) (c_s lit_blank _) (by simp; omega)) (v4 .none) (by simp; omega)
    have q4 := op_addS (op_addS (hks (sD T) .none) (c_s lit_blank _) (by simp; omega)) (v4 .none) (by simp; omega)
    refine ⟨_, lst_ok (lst_cons q1 (lst_cons q2 (lst_cons (v4 _) (lst_cons q4 rfl)))) (by simp), fun d hd => ?_, rfl⟩
    simp only [List.mem_cons, List.not_mem_nil, or_false] at hd
    rcases hd with rfl | rfl | rfl | rfl
    · refine ⟨_, rfl, (an.app b32).app ak, by simp; omega, nrD ?_⟩
      have e1 : pt 32 (dg n.toNat ++ [32] ++ dg k) = (dg n.toNat, true, dg k) := by rw [List.append_assoc]; exact pt_app (nd32 _)
      rw [e1, pt_none (nd32 _)]
      rfl
    · refine ⟨_, rfl, (((an.app (fun d hd => by simp at hd; omega)).app ak).app b32).app aT, by simp; omega, nr2 ?_⟩
      have e1 : pt 32 (dg n.toNat ++ [32, 32] ++ dg k ++ [32] ++ T) = (dg n.toNat, true, 32 :: (dg k ++ [32] ++ T)) := by
        have : dg n.toNat ++ [32, 32] ++ dg k ++ [32] ++ T = dg n.toNat ++ 32 :: (32 :: (dg k ++ [32] ++ T)) := by simp
        rw [this]
        exact pt_app (nd32 _)
      rw [e1]
      simp only [pt, if_true]
      decide
    · exact ⟨_, rfl, aT, by omega, nr1 fw⟩
    · refine ⟨_, rfl, (ak.app b32).app aT, by simp; omega, nr2 ?_⟩
      have e1 : pt 32 (dg k ++ [32] ++ T) = (dg k, true, T) := by rw [List.append_assoc]; exact pt_app (nd32 _)
      rw [e1]
      exact fw
  rw [seq_nx (set_ok l1)]
  dsimp only [List.set]
  have l2 : gLst (gCons (gC (.str "")) (gCons (gC (.str "none")) (gCons (gC (.str "3 2")) (gCons (gC (.str "3 2 ")) (gNil))))) [.int n, .int (k : Nat), .list (r.map enc3), .int x, sD T, .list L1] = .ok (.list [.str "", .str "none", .str "3 2", .str "3 2 "]) := rfl
  have p2 : ∀ d ∈ ([.str "", .str "none", .str "3 2", .str "3 2 "] : List Dt), BadT d := fun d hd => by
    simp only [List.mem_cons, List.not_mem_nil, or_false] at hd
    rcases hd with rfl | rfl | rfl | rfl
    · exact bt_lit (by decide +kernel) (by decide +kernel) (nr1 (by decide +kernel))
    · exact bt_lit (by decide +kernel) (by decide +kernel) (nr1 (by decide +kernel))
    · exact bt_lit (by decide +kernel) (by decide +kernel) (nrD (by decide +kernel))
    · exact bt_lit (by decide +kernel) (by decide +kernel) (nrD (by decide +kernel))
  have z2 : ([.str "", .str "none", .str "3 2", .str "3 2 "] : List Dt).length = 4 := rfl
  generalize ([.str "", .str "none", .str "3 2", .str "3 2 "] : List Dt) = L2 at l2 p2 z2
  rw [seq_nx (set_ok (cat_l rfl l2 (by omega)))]
  dsimp only [List.set]
  obtain ⟨L3, l3, p3, z3⟩ : ∃ L3 : List Dt, gLst (gCons (gOp hAddS (gOp hAddS (gOp hAddS (gC (.str "0")) (gCB hStrI (gCons (gVar 0) (gNil)))) (gC (.str " 1 "))) (gVar 4)) (gCons (gOp hAddS (gCB hStrI (gCons (gVar 0) (gNil))) (gC (.str " 01 none"))) (gCons (gC (.str "1 0 none")) (gCons (gC (.str "11 2 none")) (gCons (gC (.str "-1 2 none")) (gCons (gC (.str "2 7 none")) (gNil))))))) [.int n, .int (k : Nat), .list (r.map enc3), .int x, sD T, .list (L1 ++ L2)] = .ok (.list L3) ∧ (∀ d ∈ L3, BadT d) ∧ L3.length = 6 := by
    have q1 := op_addS (op_addS (op_addS (c_s lit_0 _) (hns (sD T) (.list (L1 ++ L2))) (by simp; omega)) (c_s e1b _) (by simp; omega)) (v4 (.list (L1 ++ L2))) (by simp; omega)
    have q2 := op_addS (hns (sD T) (.list (L1 ++ L2))) (c_s e01 _) (by simp; omega)
    refine ⟨_, lst_ok (lst_cons q1 (lst_cons q2 (lst_cons rfl (lst_cons rfl (lst_cons rfl (lst_cons rfl rfl)))))) (by simp), fun d hd => ?_, rfl⟩
    simp only [List.mem_cons, List.not_mem_nil, or_false] at hd
    rcases hd with rfl | rfl | rfl | rfl | rfl | rfl
    · refine ⟨_, rfl, (((asc_one (by omega)).app an).app fun d hd => by simp at hd; omega).app aT, by simp; omega, nr1 ?_⟩
      have h32 : 32 ∉ 48 :: dg n.toNat := fun z => by
        rcases List.mem_cons.mp z with z | z
        · cases z
        · exact nd32 _ z
      have e1 : pt 32 ([48] ++ dg n.toNat ++ [32, 49, 32] ++ T) = (48 :: dg n.toNat, true, 49 :: 32 :: T) := by
        have : [48] ++ dg n.toNat ++ [32, 49, 32] ++ T = (48 :: dg n.toNat) ++ 32 :: (49 :: 32 :: T) := by simp
        rw [this]
        exact pt_app h32
      rw [e1]
      cases e : isNum (48 :: dg n.toNat) with
      | false => rfl
      | true =>
        have := (isNum_iff.mp e).2.2
        rcases this with z | z
        · exact (z rfl).elim
        · injection z with _ z
          exact (dg_ne _ z).elim
    · refine ⟨_, rfl, an.app fun d hd => by simp at hd; omega, by simp; omega, nr2 ?_⟩
      have e1 : pt 32 (dg n.toNat ++ [32, 48, 49, 32, 110, 111, 110, 101]) = (dg n.toNat, true, [48, 49, 32, 110, 111, 110, 101]) := pt_app (nd32 _)
      rw [e1]
      exact (by decide : isNum (pt 32 [48, 49, 32, 110, 111, 110, 101]).1 = false)
    · exact bt_lit (by decide +kernel) (by decide +kernel) (nrK (by decide +kernel))
    · exact bt_lit (by decide +kernel) (by decide +kernel) (nrN (by decide +kernel))
    · exact bt_lit (by decide +kernel) (by decide +kernel) (nr1 (by decide +kernel))
    · exact bt_lit (by decide +kernel) (by decide +kernel) (nrK (by decide +kernel))
  rw [seq_nx (set_ok (cat_l rfl l3 (by rw [List.length_append]; omega)))]
  dsimp only [List.set]
  obtain ⟨L4, l4, p4, z4⟩ : ∃ L4 : List Dt, gLst (gCons (gOp hAddS (gOp hAddS (gOp hAddS (gOp hAddS (gOp hAddS (gCB hStrI (gCons (gVar 0) (gNil))) (gC (.str " "))) (gCB hStrI (gCons (gVar 1) (gNil)))) (gC (.str " "))) (gVar 4)) (gC (.str " "))) (gCons (gC (.str "1 1 0:0-0")) (gNil))) [.int n, .int (k : Nat), .list (r.map enc3), .int x, sD T, .list (L1 ++ L2 ++ L3)] = .ok (.list L4) ∧ (∀ d ∈ L4, BadT d) ∧ L4.length = 2 := by
    have q1 := op_addS (op_addS (op_addS (op_addS (op_addS (hns (sD T) (.list (L1 ++ L2 ++ L3))) (c_s lit_blank _) (by simp; omega)) (hks (sD T) (.list (L1 ++ L2 ++ L3))) (by simp; omega)) (c_s lit_blank _) (by simp; omega)) (v4 (.list (L1 ++ L2 ++ L3))) (by simp; omega)) (c_s lit_blank _) (by simp; omega)
    refine ⟨_, lst_ok (lst_cons q1 (lst_cons rfl rfl)) (by simp), fun d hd => ?_, rfl⟩
    simp only [List.mem_cons, List.not_mem_nil, or_false] at hd
    rcases hd with rfl | rfl
    · refine ⟨_, rfl, ((((an.app b32).app ak).app b32).app aT).app b32, by simp; omega, nrD ?_⟩
      have e1 : pt 32 (dg n.toNat ++ [32] ++ dg k ++ [32] ++ T ++ [32]) = (dg n.toNat, true, dg k ++ 32 :: (T ++ [32])) := by
        have : dg n.toNat ++ [32] ++ dg k ++ [32] ++ T ++ [32] = dg n.toNat ++ 32 :: (dg k ++ 32 :: (T ++ [32])) := by simp
        rw [this]
        exact pt_app (nd32 _)
      have e2 : pt 32 (dg k ++ 32 :: (T ++ [32])) = (dg k, true, T ++ [32]) := pt_app (nd32 _)
      rw [e1]
      simp only
      rw [e2]
      exact due_last
    · refine bt_lit (by decide +kernel) (by decide +kernel) (nrZ fun r' e => ?_)
      have e1 : dueR ((vl (pt 32 (cs "1 1 0:0-0")).1 : Nat) : Int) (pt 32 (pt 32 (cs "1 1 0:0-0")).2.2).2.2 = some [(0, 0, 0)] := by decide +kernel
      rw [e1] at e
      cases e
      have ek : vl (pt 32 (pt 32 (cs "1 1 0:0-0")).2.2).1 = 1 := by decide +kernel
      rw [ek]
      unfold isNt
      have : decide ((0 : Int) ∈ lay ((1 : Nat) : Int).toNat [((0 : Int), (0 : Int), (0 : Int))]) = true := by
        rw [decide_eq_true_eq]
        show (0 : Int) ∈ lay 1 [((0 : Int), (0 : Int), (0 : Int))]
        rw [lay_cons, num_refl]
        exact List.mem_cons_self
      rw [this]
      simp
  have zl : (L1 ++ L2 ++ L3 ++ L4).length = 16 := by simp only [List.length_append, z1, z2, z3, z4]
  have pl : ∀ d ∈ L1 ++ L2 ++ L3 ++ L4, BadT d := fun d hd => by
    rcases List.mem_append.mp hd with hd | hd
    · rcases List.mem_append.mp hd with hd | hd
      · rcases List.mem_append.mp hd with hd | hd
        · exact p1 d hd
        · exact p2 d hd
      · exact p3 d hd
    · exact p4 d hd
  have hc := cat_l (a := gVar 5) (xs := L1 ++ L2 ++ L3) rfl l4 (by simp only [List.length_append]; omega)
  generalize L1 ++ L2 ++ L3 ++ L4 = LL at zl pl hc
  have m0 := Int.emod_nonneg x (show (16 : Int) ≠ 0 by omega)
  have m1 := Int.emod_lt_of_pos x (show (0 : Int) < 16 by omega)
  have m16 := hMod_i (i := x) (show (0 : Int) < 16 by omega)
  obtain ⟨d, hd, hm⟩ := ix_lst (ds := LL) (i := x % 16) m0 (by omega)
  refine ⟨d, ret_ok (op_ix hc (y := .int (x % 16)) ?_ hd), pl d hm⟩
  simp only [bnd_ok, gVar_def, gC_def, gOp_def, gUn_def, gNil_def, gCons_def, gIf_def, gTest_def, gNot_def, gAnd_def, gOr_def, gAndV_def, gOrV_def, gNotV_def, gCB_def, asB_b, hAdd_i, hSub_i, hLt_i, hLe_i, hGt_i, hGe_i, hMul_r, hMul_l, hMod_i, hDiv_s, hBand_i, hShr_i, hPow_10_18, hPow_10_27, hPow_10_28, hPow_10_29, hPow_10_30, hEq_i, hNe_i, hLen_l, hLen_t, hMin2_i, hMax2_i, hMin3_i, hInt1_b, hInt1_i, hBits_i, hListOf_l, hListOf_t, hTupOf_l, hTupOf_t, gSeqS_def, gSet_def, gRet_def, gIfS_def, gNext_def, gTup_def, gLst_def, List.getElem?_cons_zero, List.getElem?_cons_succ, List.set_cons_zero, List.set_cons_succ, List.length_cons, List.length_nil, Nat.zero_add, Nat.reduceAdd, Nat.reduceLeDiff, Nat.reduceSub, Nat.reduceMul, if_true, if_false, Bool.false_eq_true, List.replicate_succ, List.replicate_zero, List.cons_append, List.nil_append, tgN, tgT, tgCons, tgNil, Int.reducePow, Int.reduceAdd, Int.reduceSub, Int.reduceMul, decide_true, decide_false, Bool.not_true, Bool.not_false, gChain_def, hIsa_int, hIsa_intb, hIsa_list, hIsa_tuple, gDrop_def, m16]
end K57
end T_K57B
section T_LayIff
set_option linter.all false
set_option maxRecDepth 100000
namespace Lay
open PySem Sim FamA
theorem lay_app (k : Nat) (v : List T3) : ∀ u : List T3, ∃ w, lay k (u ++ v) = w ++ lay k v ∧ w.length = u.length
  | [] => ⟨[], rfl, rfl⟩
  | t :: u => by
    obtain ⟨w, e, l⟩ := lay_app k v u
    rw [List.cons_append, lay_cons, e]
    exact ⟨_ :: w, rfl, by rw [List.length_cons, List.length_cons, l]⟩
end Lay
end T_LayIff
section T_K57H
set_option linter.all false
set_option maxRecDepth 100000
set_option maxHeartbeats 4000000
namespace K57
open PySem Sim FamA FamL Lay K24 TxtP
theorem rec_bad {n : Int} {ds : List Dt} {p : Dt → Bool} (h : ∀ d ∈ ds, f_is_tie [.int n, d] = .ok (.bool (p d))) {d : Dt} (hd : d ∈ ds) (hp : p d = false) : f_is_record [.int n, .list ds] = .ok (.bool false) := by
  by_cases hl : 60 < ds.length
  · exact rec_long hl
  · refine fnN_rt ?_
    show g_is_record [.int n, .list ds, .none, .none] = _
    unfold g_is_record
    have e : decide ((60 : Int) < (ds.length : Int)) = false := by rw [decide_eq_false_iff_not]; omega
    refine seq_step (Eq.trans (if_f (by simp only [bnd_ok, gVar_def, gC_def, gOp_def, gUn_def, gNil_def, gCons_def, gIf_def, gTest_def, gNot_def, gAnd_def, gOr_def, gAndV_def, gOrV_def, gNotV_def, gCB_def, asB_b, hAdd_i, hSub_i, hLt_i, hLe_i, hGt_i, hGe_i, hMul_r, hMul_l, hMod_i, hDiv_s, hBand_i, hShr_i, hPow_10_18, hPow_10_27, hPow_10_28, hPow_10_29, hPow_10_30, hEq_i, hNe_i, hLen_l, hLen_t, hMin2_i, hMax2_i, hMin3_i, hInt1_b, hInt1_i, hBits_i, hListOf_l, hListOf_t, hTupOf_l, hTupOf_t, gSeqS_def, gSet_def, gRet_def, gIfS_def, gNext_def, gTup_def, gLst_def, List.getElem?_cons_zero, List.getElem?_cons_succ, List.set_cons_zero, List.set_cons_succ, List.length_cons, List.length_nil, Nat.zero_add, Nat.reduceAdd, Nat.reduceLeDiff, Nat.reduceSub, Nat.reduceMul, if_true, if_false, Bool.false_eq_true, List.replicate_succ, List.replicate_zero, List.cons_append, List.nil_append, tgN, tgT, tgCons, tgNil, Int.reducePow, Int.reduceAdd, Int.reduceSub, Int.reduceMul, decide_true, decide_false, Bool.not_true, Bool.not_false, gChain_def, hIsa_int, hIsa_intb, hIsa_list, hIsa_tuple, gDrop_def, e])) rfl) ?_
    refine seq_rt (Eq.trans (if_t ?_) rfl)
    have ha := all_ties .none .none (by omega) h
    have hb := hAll_b (ds.map p)
    have hc : (ds.map p).all id = false := by
      rw [List.all_eq_false]
      exact ⟨p d, List.mem_map.mpr ⟨d, hd, rfl⟩, by rw [hp]; exact Bool.false_ne_true⟩
    rw [hc] at hb
    simp only [bnd_ok, gVar_def, gC_def, gOp_def, gUn_def, gNil_def, gCons_def, gIf_def, gTest_def, gNot_def, gAnd_def, gOr_def, gAndV_def, gOrV_def, gNotV_def, gCB_def, asB_b, hAdd_i, hSub_i, hLt_i, hLe_i, hGt_i, hGe_i, hMul_r, hMul_l, hMod_i, hDiv_s, hBand_i, hShr_i, hPow_10_18, hPow_10_27, hPow_10_28, hPow_10_29, hPow_10_30, hEq_i, hNe_i, hLen_l, hLen_t, hMin2_i, hMax2_i, hMin3_i, hInt1_b, hInt1_i, hBits_i, hListOf_l, hListOf_t, hTupOf_l, hTupOf_t, gSeqS_def, gSet_def, gRet_def, gIfS_def, gNext_def, gTup_def, gLst_def, List.getElem?_cons_zero, List.getElem?_cons_succ, List.set_cons_zero, List.set_cons_succ, List.length_cons, List.length_nil, Nat.zero_add, Nat.reduceAdd, Nat.reduceLeDiff, Nat.reduceSub, Nat.reduceMul, if_true, if_false, Bool.false_eq_true, List.replicate_succ, List.replicate_zero, List.cons_append, List.nil_append, tgN, tgT, tgCons, tgNil, Int.reducePow, Int.reduceAdd, Int.reduceSub, Int.reduceMul, decide_true, decide_false, Bool.not_true, Bool.not_false, gChain_def, hIsa_int, hIsa_intb, hIsa_list, hIsa_tuple, gDrop_def, ha, hb]
theorem kp_all : ∀ (r : List T3) (ns : List Int), r.length = ns.length → (∀ x ∈ ns, 0 < x) → K10.kp r ns = r
  | [], [], _, _ => rfl
  | t :: r, x :: ns, h, hx => by
    rw [K10.kp_cons, if_pos (hx x List.mem_cons_self), kp_all r ns (by simpa using h) fun y hy => hx y (List.mem_cons_of_mem _ hy)]
theorem lay_zero {k : Nat} {r : List T3} (h : (KP k r).length < r.length) : (0 : Int) ∈ lay k r := by
  refine Classical.byContradiction fun z => ?_
  have : KP k r = r := kp_all r (lay k r) (lay_len k r).symm fun x hx => by
    have := (lay_range k r x hx).1
    have : x ≠ 0 := fun y => z (y ▸ hx)
    omega
  rw [this] at h
  omega
theorem un_ok {d : Dt} (h : BadNet d) : f_l_unwritten [d] = .ok (.bool true) := by
  refine fnN_rt ?_
  show g_l_unwritten [d, .none, .none] = _
  unfold g_l_unwritten
  refine seq_step (ρ' := [d, .none, .none]) rfl ?_
  have h : f_is_net [d] = .ok (.bool false) := h
  have hn : f_net_text [d] = .ex ⟨"NoNet", none⟩ := by
    refine fnNX_ex ?_
    show g_net_text [d, .none, .none, .none] = _
    unfold g_net_text
    have c1 : gCallN 1 f_is_net (gCons (gVar 0) (gNil)) [d, .none, .none, .none] = .ok (.bool false) := callN_ok (ds := [d]) rfl rfl h
    exact seq_ex ((if_t (by rw [gNot_def, gTest_def, c1]; rfl)).trans rfl)
  have ht : gTry (gDrop (gCallX 1 f_net_text (gCons (gVar 0) (gNil)))) ["NoNet", "NoText"] [] 2 (gSet 1 (gVar 2)) [d, .none, .none] = .ok (.nx [d, exnD "NoNet" none, exnD "NoNet" none]) := by
    have e : gDrop (gCallX 1 f_net_text (gCons (gVar 0) (gNil))) [d, .none, .none] = .ex ⟨"NoNet", none⟩ := by
      have q : gCallX 1 f_net_text (gCons (gVar 0) (gNil)) [d, .none, .none] = .ex ⟨"NoNet", none⟩ := callX_ex (ds := [d]) rfl rfl hn
      rw [gDrop_def, q]
      rfl
    have hc : (["NoNet", "NoText"] : List Str).contains "NoNet" = true := by decide +kernel
    unfold gTry
    rw [e]
    simp only [hc, if_true]
    rfl
  refine seq_step ht ?_
  have h1 : hIsX [("NoNet", true), ("NoText", false)] (exnD "NoNet" none) = .ok (.bool true) := by kernel_rfl
  have h2 : hIsX [("NoNet", true), ("NoText", true)] (exnD "NoNet" none) = .ok (.bool true) := by kernel_rfl
  have h3 : hIsX [("NoNet", false), ("NoText", true)] (exnD "NoNet" none) = .ok (.bool false) := by kernel_rfl
  have v : ∀ {T : List (Str × Bool)} {b : Bool}, hIsX T (exnD "NoNet" none) = .ok (.bool b) → gUn (hIsX T) (gVar 1) [d, exnD "NoNet" none, exnD "NoNet" none] = .ok (.bool b) := fun {T b} e => by
    rw [gUn_def]
    show bnd (O.ok (exnD "NoNet" none)) (hIsX T) = _
    rw [bnd_ok, e]
  refine seq_step ((if_f (by rw [gOr_def, gNot_def, gTest_def, v h1, gNot_def, gTest_def, v h2]; rfl)).trans rfl) ?_
  refine ret_ok ?_
  rw [gNotV_def, v h3]
  rfl
theorem no_net_ok {n : Int} {k : Nat} {R : List T3} {x : Int} (n1 : 1 ≤ n) (n10 : n ≤ 10) (k1 : 1 ≤ k) (k6 : k ≤ 6) (hR : RecOk n R) (hl : R.length ≤ 12) (x0 : 0 ≤ x) : ∃ d, f_l_no_net [.int n, .int (k : Nat), .list ((KP k R).map enc3), .list (R.map enc3), .int x] = .ok d ∧ BadNet d := by
  have hs : (KP k R).Sublist R := kp_sub _ _
  have hlen : (KP k R).length ≤ 12 := Nat.le_trans hs.length_le hl
  have hm : ∀ t ∈ KP k R, TieOk n t := fun t ht => hR.ties t (hs.subset ht)
  have hord : (KP k R).Pairwise fun s t => s.1 < t.1 := hR.ord.sublist hs
  have hz : (KP k R).length < R.length → (0 : Int) ∈ lay k R := lay_zero
  generalize KP k R = r at *
  have cn := cnt_yes (z := n) (m := 10) ⟨n1, n10⟩
  have ck := cnt_yes (z := (k : Int)) (m := 6) ⟨by omega, by omega⟩
  suffices h : ∃ d, g_l_no_net [.int n, .int (k : Nat), .list (r.map enc3), .list (R.map enc3), .int x, .none] = .ok (.rt d) ∧ BadNet d by
    obtain ⟨d, h1, h2⟩ := h
    exact ⟨d, fnN_rt h1, h2⟩
  unfold g_l_no_net
  have bt : f_is_count [.bool true, .int 10] = .ok (.bool false) := by kernel_rfl
  have bt6 : f_is_count [.bool true, .int 6] = .ok (.bool false) := by kernel_rfl
  have l1 : gLst (gCons (gTup (gCons (gVar 0) (gCons (gVar 1) (gNil)))) (gCons (gTup (gCons (gVar 0) (gCons (gVar 1) (gCons (gVar 2) (gCons (gC (.int (0))) (gNil)))))) (gCons (gLst (gCons (gVar 0) (gCons (gVar 1) (gCons (gCB (one hListOf) (gCons (gVar 2) gNil)) (gNil))))) (gCons (gTup (gCons (gVar 0) (gCons (gVar 1) (gCons (gCB (one hTupOf) (gCons (gVar 2) (gNil))) (gNil))))) (gCons (gC .none) (gCons (gC (.str "3 2 none")) (gCons (gTup (gCons (gC (.int (11))) (gCons (gVar 1) (gCons (gVar 2) (gNil))))) (gNil)))))))) [.int n, .int (k : Nat), .list (r.map enc3), .list (R.map enc3), .int x, .none] = .ok (.list [.tuple [.int n, .int (k : Nat)], .tuple [.int n, .int (k : Nat), .list (r.map enc3), .int 0], .list [.int n, .int (k : Nat), .list (r.map enc3)], .tuple [.int n, .int (k : Nat), .tuple (r.map enc3)], .none, .str "3 2 none", .tuple [.int 11, .int (k : Nat), .list (r.map enc3)]]) := rfl
  have p1 : ∀ d ∈ ([.tuple [.int n, .int (k : Nat)], .tuple [.int n, .int (k : Nat), .list (r.map enc3), .int 0], .list [.int n, .int (k : Nat), .list (r.map enc3)], .tuple [.int n, .int (k : Nat), .tuple (r.map enc3)], .none, .str "3 2 none", .tuple [.int 11, .int (k : Nat), .list (r.map enc3)]] : List Dt), BadNet d := fun d hd => by
    simp only [List.mem_cons, List.not_mem_nil, or_false] at hd
    rcases hd with rfl | rfl | rfl | rfl | rfl | rfl | rfl
    · exact bn_len rfl
    · exact bn_len rfl
    · exact bn_not rfl
    · exact bn_3 (c := true) (.inr ⟨cn, .inr ⟨ck, .inl (rec_not rfl)⟩⟩)
    · exact bn_not rfl
    · exact bn_not rfl
    · exact bn_3 (c := true) (.inl (cnt_no (by omega)))
  have z1 : ([.tuple [.int n, .int (k : Nat)], .tuple [.int n, .int (k : Nat), .list (r.map enc3), .int 0], .list [.int n, .int (k : Nat), .list (r.map enc3)], .tuple [.int n, .int (k : Nat), .tuple (r.map enc3)], .none, .str "3 2 none", .tuple [.int 11, .int (k : Nat), .list (r.map enc3)]] : List Dt).length = 7 := rfl
  generalize ([.tuple [.int n, .int (k : Nat)], .tuple [.int n, .int (k : Nat), .list (r.map enc3), .int 0], .list [.int n, .int (k : Nat), .list (r.map enc3)], .tuple [.int n, .int (k : Nat), .tuple (r.map enc3)], .none, .str "3 2 none", .tuple [.int 11, .int (k : Nat), .list (r.map enc3)]] : List Dt) = L1 at l1 p1 z1
  rw [seq_nx (set_ok l1)]
  dsimp only [List.set]
  have l2 : gLst (gCons (gTup (gCons (gVar 0) (gCons (gC (.int (7))) (gCons (gVar 2) (gNil))))) (gCons (gTup (gCons (gVar 0) (gCons (gC (.int (0))) (gCons (gVar 2) (gNil))))) (gCons (gTup (gCons (gC (.int (0))) (gCons (gVar 1) (gCons (gLst (gNil)) (gNil))))) (gCons (gTup (gCons (gVar 0) (gCons (gVar 1) (gCons (gC .none) (gNil))))) (gCons (gTup (gCons (gC (.bool true)) (gCons (gVar 1) (gCons (gLst (gNil)) (gNil))))) (gCons (gTup (gCons (gVar 0) (gCons (gC (.bool true)) (gCons (gVar 2) (gNil))))) (gNil))))))) [.int n, .int (k : Nat), .list (r.map enc3), .list (R.map enc3), .int x, .list L1] = .ok (.list [.tuple [.int n, .int 7, .list (r.map enc3)], .tuple [.int n, .int 0, .list (r.map enc3)], .tuple [.int 0, .int (k : Nat), .list []], .tuple [.int n, .int (k : Nat), .none], .tuple [.bool true, .int (k : Nat), .list []], .tuple [.int n, .bool true, .list (r.map enc3)]]) := rfl
  have p2 : ∀ d ∈ ([.tuple [.int n, .int 7, .list (r.map enc3)], .tuple [.int n, .int 0, .list (r.map enc3)], .tuple [.int 0, .int (k : Nat), .list []], .tuple [.int n, .int (k : Nat), .none], .tuple [.bool true, .int (k : Nat), .list []], .tuple [.int n, .bool true, .list (r.map enc3)]] : List Dt), BadNet d := fun d hd => by
    simp only [List.mem_cons, List.not_mem_nil, or_false] at hd
    rcases hd with rfl | rfl | rfl | rfl | rfl | rfl
    · exact bn_3 (c := true) (.inr ⟨cn, .inl (cnt_no (by omega))⟩)
    · exact bn_3 (c := true) (.inr ⟨cn, .inl (cnt_no (by omega))⟩)
    · exact bn_3 (c := true) (.inl (cnt_no (by omega)))
    · exact bn_3 (c := true) (.inr ⟨cn, .inr ⟨ck, .inl (rec_not rfl)⟩⟩)
    · exact bn_3 (c := true) (.inl bt)
    · exact bn_3 (c := true) (.inr ⟨cn, .inl bt6⟩)
  have z2 : ([.tuple [.int n, .int 7, .list (r.map enc3)], .tuple [.int n, .int 0, .list (r.map enc3)], .tuple [.int 0, .int (k : Nat), .list []], .tuple [.int n, .int (k : Nat), .none], .tuple [.bool true, .int (k : Nat), .list []], .tuple [.int n, .bool true, .list (r.map enc3)]] : List Dt).length = 6 := rfl
  generalize ([.tuple [.int n, .int 7, .list (r.map enc3)], .tuple [.int n, .int 0, .list (r.map enc3)], .tuple [.int 0, .int (k : Nat), .list []], .tuple [.int n, .int (k : Nat), .none], .tuple [.bool true, .int (k : Nat), .list []], .tuple [.int n, .bool true, .list (r.map enc3)]] : List Dt) = L2 at l2 p2 z2
  rw [seq_nx (set_ok (cat_l rfl l2 (by omega)))]
  dsimp only [List.set]
  obtain ⟨L3, l3, p3, z3⟩ : ∃ L3 : List Dt, gLst (gCons (gTup (gCons (gVar 0) (gCons (gVar 1) (gCons (gOp hCat (gVar 2) (gLst (gCons (gC .none) (gNil)))) (gNil))))) (gCons (gTup (gCons (gVar 0) (gCons (gVar 1) (gCons (gOp hCat (gVar 2) (gLst (gCons (gTup (gCons (gOp hPow (gC (.int (10))) (gC (.int (30)))) (gCons (gC (.int (0))) (gCons (gC (.int (0))) (gNil))))) (gNil)))) (gNil))))) (gCons (gTup (gCons (gVar 0) (gCons (gVar 1) (gCons (gLst (gCons (gTup (gCons (gC (.int (1))) (gCons (gC (.int (0))) (gCons (gVar 0) (gNil))))) (gNil))) (gNil))))) (gCons (gC (.int (7))) (gCons (gTup (gNil)) (gNil)))))) [.int n, .int (k : Nat), .list (r.map enc3), .list (R.map enc3), .int x, .list (L1 ++ L2)] = .ok (.list L3) ∧ (∀ d ∈ L3, BadNet d) ∧ L3.length = 5 := by
    have c1 : gOp hCat (gVar 2) (gLst (gCons (gC .none) (gNil))) [.int n, .int (k : Nat), .list (r.map enc3), .list (R.map enc3), .int x, .list (L1 ++ L2)] = .ok (.list (r.map enc3 ++ [.none])) := cat_l rfl rfl (by rw [List.length_map]; simp; omega)
    have e30 : gLst (gCons (gTup (gCons (gOp hPow (gC (.int (10))) (gC (.int (30)))) (gCons (gC (.int (0))) (gCons (gC (.int (0))) (gNil))))) (gNil)) [.int n, .int (k : Nat), .list (r.map enc3), .list (R.map enc3), .int x, .list (L1 ++ L2)] = .ok (.list [enc3 (1000000000000000000000000000000, 0, 0)]) := by
      simp only [bnd_ok, gVar_def, gC_def, gOp_def, gUn_def, gNil_def, gCons_def, gIf_def, gTest_def, gNot_def, gAnd_def, gOr_def, gAndV_def, gOrV_def, gNotV_def, gCB_def, asB_b, hAdd_i, hSub_i, hLt_i, hLe_i, hGt_i, hGe_i, hMul_r, hMul_l, hMod_i, hDiv_s, hBand_i, hShr_i, hPow_10_18, hPow_10_27, hPow_10_28, hPow_10_29, hPow_10_30, hEq_i, hNe_i, hLen_l, hLen_t, hMin2_i, hMax2_i, hMin3_i, hInt1_b, hInt1_i, hBits_i, hListOf_l, hListOf_t, hTupOf_l, hTupOf_t, gSeqS_def, gSet_def, gRet_def, gIfS_def, gNext_def, gTup_def, gLst_def, List.getElem?_cons_zero, List.getElem?_cons_succ, List.set_cons_zero, List.set_cons_succ, List.length_cons, List.length_nil, Nat.zero_add, Nat.reduceAdd, Nat.reduceLeDiff, Nat.reduceSub, Nat.reduceMul, if_true, if_false, Bool.false_eq_true, List.replicate_succ, List.replicate_zero, List.cons_append, List.nil_append, tgN, tgT, tgCons, tgNil, Int.reducePow, Int.reduceAdd, Int.reduceSub, Int.reduceMul, decide_true, decide_false, Bool.not_true, Bool.not_false, gChain_def, hIsa_int, hIsa_intb, hIsa_list, hIsa_tuple, gDrop_def, gLst_def]
      rfl
    have c2 : gOp hCat (gVar 2) (gLst (gCons (gTup (gCons (gOp hPow (gC (.int (10))) (gC (.int (30)))) (gCons (gC (.int (0))) (gCons (gC (.int (0))) (gNil))))) (gNil))) [.int n, .int (k : Nat), .list (r.map enc3), .list (R.map enc3), .int x, .list (L1 ++ L2)] = .ok (.list ((r ++ [(1000000000000000000000000000000, 0, 0)]).map enc3)) := by
      rw [cat_l (ys := [enc3 (1000000000000000000000000000000, 0, 0)]) rfl e30 (by rw [List.length_map]; simp; omega), List.map_append]
      rfl
    have t1 : gTup (gCons (gVar 0) (gCons (gVar 1) (gCons (gOp hCat (gVar 2) (gLst (gCons (gC .none) (gNil)))) (gNil)))) [.int n, .int (k : Nat), .list (r.map enc3), .list (R.map enc3), .int x, .list (L1 ++ L2)] = .ok (.tuple [.int n, .int (k : Nat), .list (r.map enc3 ++ [.none])]) := gTup_ok (lst_cons rfl (lst_cons rfl (lst_cons c1 rfl))) (by simp)
    have t2 : gTup (gCons (gVar 0) (gCons (gVar 1) (gCons (gOp hCat (gVar 2) (gLst (gCons (gTup (gCons (gOp hPow (gC (.int (10))) (gC (.int (30)))) (gCons (gC (.int (0))) (gCons (gC (.int (0))) (gNil))))) (gNil)))) (gNil)))) [.int n, .int (k : Nat), .list (r.map enc3), .list (R.map enc3), .int x, .list (L1 ++ L2)] = .ok (ntD n k (r ++ [(1000000000000000000000000000000, 0, 0)])) := gTup_ok (lst_cons rfl (lst_cons rfl (lst_cons c2 rfl))) (by simp)
    refine ⟨_, lst_ok (lst_cons t1 (lst_cons t2 (lst_cons (x := ntD n k [(1, 0, n)]) rfl (lst_cons rfl (lst_cons (x := .tuple []) rfl rfl))))) (by simp), fun d hd => ?_, rfl⟩
    simp only [List.mem_cons, List.not_mem_nil, or_false] at hd
    rcases hd with rfl | rfl | rfl | rfl | rfl
    · refine bn_3 (c := true) (.inr ⟨cn, .inr ⟨ck, .inl (rec_bad (p := fun d => match d with | .none => false | _ => true) (fun d hd => ?_) (d := .none) (by simp) rfl)⟩⟩)
      rcases List.mem_append.mp hd with hd | hd
      · obtain ⟨t, ht, rfl⟩ := List.mem_map.mp hd
        have q := tie_int n t.1 t.2.1 t.2.2
        have o := okT_of (hm t ht)
        unfold okT at o
        rw [o] at q
        exact q
      · rw [List.mem_singleton.mp hd]
        have hmt : f_is_meeting [.int n, .none] = .ok (.bool false) := by
          refine fnN_rt ?_
          show g_is_meeting [.int n, .none] = _
          unfold g_is_meeting
          exact seq_rt ((if_t rfl).trans rfl)
        refine fnN_rt ?_
        show g_is_tie [.int n, .none] = _
        unfold g_is_tie
        have c : gCallN 2 f_is_meeting (gCons (gVar 0) (gCons (gVar 1) (gNil))) [.int n, .none] = .ok (.bool false) := callN_ok (ds := [.int n, .none]) rfl rfl hmt
        refine ret_ok ?_
        rw [gAndV_def, c]
        rfl
    · have q := net_any (n := n) (k := k) (r := r ++ [(1000000000000000000000000000000, 0, 0)]) (by rw [List.length_append, List.length_singleton]; omega)
      have : isNt n k (r ++ [(1000000000000000000000000000000, 0, 0)]) = false := by
        unfold isNt
        have : decide ((0 : Int) ∈ lay ((k : Nat) : Int).toNat (r ++ [(1000000000000000000000000000000, 0, 0)])) = true := by
          rw [decide_eq_true_eq, Int.toNat_natCast]
          obtain ⟨w, e, _⟩ := lay_app k [((1000000000000000000000000000000 : Int), (0 : Int), (0 : Int))] r
          rw [e, lay_cons, num_refl]
          exact List.mem_append_right _ List.mem_cons_self
        rw [this]
        simp
      rw [this] at q
      exact q
    · have q := net_any (n := n) (k := k) (r := [(1, 0, n)]) (by simp)
      have : isNt n k [(1, 0, n)] = false := by
        unfold isNt
        have : ([(1, 0, n)] : List T3).all (okT n) = false := by
          rw [List.all_cons]
          have : okT n (1, 0, n) = false := by
            unfold okT tieB
            rw [decide_eq_false (show ¬ n < n by omega)]
            simp
          rw [this]
          rfl
        rw [this]
        simp
      rw [this] at q
      exact q
    · exact bn_not rfl
    · exact bn_len rfl
  rw [seq_nx (set_ok (cat_l rfl l3 (by rw [List.length_append]; omega)))]
  dsimp only [List.set]
  have zl : (L1 ++ L2 ++ L3).length = 18 := by simp only [List.length_append, z1, z2, z3]
  have pl : ∀ d ∈ L1 ++ L2 ++ L3, BadNet d := fun d hd => by
    rcases List.mem_append.mp hd with hd | hd
    · rcases List.mem_append.mp hd with hd | hd
      · exact p1 d hd
      · exact p2 d hd
    · exact p3 d hd
  generalize L1 ++ L2 ++ L3 = LL at zl pl
  obtain ⟨LM, hif, zm, pm, zp⟩ : ∃ LM : List Dt, gIfS (gTest (gOp hGt (gCB hLen (gCons (gVar 3) (gNil))) (gCB hLen (gCons (gVar 2) (gNil))))) (gApp 5 (gTup (gCons (gVar 0) (gCons (gVar 1) (gCons (gVar 3) (gNil)))))) (gNext) [.int n, .int (k : Nat), .list (r.map enc3), .list (R.map enc3), .int x, .list LL] = .ok (.nx [.int n, .int (k : Nat), .list (r.map enc3), .list (R.map enc3), .int x, .list LM]) ∧ LM.length ≤ 19 ∧ (∀ d ∈ LM, BadNet d) ∧ 1 ≤ LM.length := by
    have t : gTest (gOp hGt (gCB hLen (gCons (gVar 3) (gNil))) (gCB hLen (gCons (gVar 2) (gNil)))) [.int n, .int (k : Nat), .list (r.map enc3), .list (R.map enc3), .int x, .list LL] = .ok (decide (((r.length : Nat) : Int) < ((R.length : Nat) : Int))) := by
      simp only [bnd_ok, gVar_def, gC_def, gOp_def, gUn_def, gNil_def, gCons_def, gIf_def, gTest_def, gNot_def, gAnd_def, gOr_def, gAndV_def, gOrV_def, gNotV_def, gCB_def, asB_b, hAdd_i, hSub_i, hLt_i, hLe_i, hGt_i, hGe_i, hMul_r, hMul_l, hMod_i, hDiv_s, hBand_i, hShr_i, hPow_10_18, hPow_10_27, hPow_10_28, hPow_10_29, hPow_10_30, hEq_i, hNe_i, hLen_l, hLen_t, hMin2_i, hMax2_i, hMin3_i, hInt1_b, hInt1_i, hBits_i, hListOf_l, hListOf_t, hTupOf_l, hTupOf_t, gSeqS_def, gSet_def, gRet_def, gIfS_def, gNext_def, gTup_def, gLst_def, List.getElem?_cons_zero, List.getElem?_cons_succ, List.set_cons_zero, List.set_cons_succ, List.length_cons, List.length_nil, Nat.zero_add, Nat.reduceAdd, Nat.reduceLeDiff, Nat.reduceSub, Nat.reduceMul, if_true, if_false, Bool.false_eq_true, List.replicate_succ, List.replicate_zero, List.cons_append, List.nil_append, tgN, tgT, tgCons, tgNil, Int.reducePow, Int.reduceAdd, Int.reduceSub, Int.reduceMul, decide_true, decide_false, Bool.not_true, Bool.not_false, gChain_def, hIsa_int, hIsa_intb, hIsa_list, hIsa_tuple, gDrop_def, List.length_map]
    by_cases c : r.length < R.length
    · rw [decide_eq_true (by omega)] at t
      refine ⟨LL ++ [ntD n k R], (if_t t).trans (gApp_l (ds := LL) rfl rfl (by omega)), by rw [List.length_append, List.length_singleton]; omega, fun d hd => ?_, by rw [List.length_append, List.length_singleton]; omega⟩
      rcases List.mem_append.mp hd with hd | hd
      · exact pl d hd
      · rw [List.mem_singleton.mp hd]
        have q := net_any (n := n) (k := k) (r := R) hR.len
        have : isNt n k R = false := by
          unfold isNt
          rw [Int.toNat_natCast, decide_eq_true (hz c)]
          simp
        rw [this] at q
        exact q
    · rw [decide_eq_false (by omega)] at t
      exact ⟨LL, (if_f t).trans rfl, by omega, pl, by omega⟩
  rw [seq_nx hif]
  have m0 := Int.emod_nonneg x (show ((LM.length : Nat) : Int) ≠ 0 by omega)
  have m1 := Int.emod_lt_of_pos x (show (0 : Int) < ((LM.length : Nat) : Int) by omega)
  have mm := hMod_i (i := x) (show (0 : Int) < ((LM.length : Nat) : Int) by omega)
  obtain ⟨d, hd, hm⟩ := ix_lst (ds := LM) (i := x % ((LM.length : Nat) : Int)) m0 m1
  refine ⟨d, ret_ok (op_ix (x := .list LM) rfl (y := .int (x % ((LM.length : Nat) : Int))) ?_ hd), pm d hm⟩
  simp only [bnd_ok, gVar_def, gC_def, gOp_def, gUn_def, gNil_def, gCons_def, gIf_def, gTest_def, gNot_def, gAnd_def, gOr_def, gAndV_def, gOrV_def, gNotV_def, gCB_def, asB_b, hAdd_i, hSub_i, hLt_i, hLe_i, hGt_i, hGe_i, hMul_r, hMul_l, hMod_i, hDiv_s, hBand_i, hShr_i, hPow_10_18, hPow_10_27, hPow_10_28, hPow_10_29, hPow_10_30, hEq_i, hNe_i, hLen_l, hLen_t, hMin2_i, hMax2_i, hMin3_i, hInt1_b, hInt1_i, hBits_i, hListOf_l, hListOf_t, hTupOf_l, hTupOf_t, gSeqS_def, gSet_def, gRet_def, gIfS_def, gNext_def, gTup_def, gLst_def, List.getElem?_cons_zero, List.getElem?_cons_succ, List.set_cons_zero, List.set_cons_succ, List.length_cons, List.length_nil, Nat.zero_add, Nat.reduceAdd, Nat.reduceLeDiff, Nat.reduceSub, Nat.reduceMul, if_true, if_false, Bool.false_eq_true, List.replicate_succ, List.replicate_zero, List.cons_append, List.nil_append, tgN, tgT, tgCons, tgNil, Int.reducePow, Int.reduceAdd, Int.reduceSub, Int.reduceMul, decide_true, decide_false, Bool.not_true, Bool.not_false, gChain_def, hIsa_int, hIsa_intb, hIsa_list, hIsa_tuple, gDrop_def, mm]
theorem net_strW {ga gb gc : Gd} {ρ : List Dt} {n : Int} {k : Nat} {r : List T3} (n1 : 0 ≤ n) (n10 : n ≤ 100) (k6 : k ≤ 100) (hr : (recL r).length ≤ 18400) (h1 : ga ρ = .ok (.int n)) (h2 : gb ρ = .ok (.int (k : Nat))) (h3 : gc ρ = .ok (sD (recL r))) :
    gOp hAddS (gOp hAddS (gOp hAddS (gOp hAddS (gCB hStrI (gCons ga (gNil))) (gC (.str " "))) (gCB hStrI (gCons gb (gNil)))) (gC (.str " "))) gc ρ = .ok (sD (netL n k r)) := by
  have s1 : gCB hStrI (gCons ga (gNil)) ρ = .ok (sD (dg n.toNat)) := cb1s h1 (hStrI_s n1 (by omega))
  have s2 : gCB hStrI (gCons gb (gNil)) ρ = .ok (sD (dg k)) := cb1s h2 (hStrI_s (by omega) (by omega))
  have l1 := dg_60 (i := n) (by omega)
  have l2 : (dg k).length ≤ 60 := dg_60 (i := ((k : Nat) : Int)) (by omega)
  have q1 := op_addS s1 (c_s lit_blank _) (by simp; omega)
  have q2 := op_addS q1 s2 (by simp; omega)
  have q3 := op_addS q2 (c_s lit_blank _) (by simp; omega)
  have q4 := op_addS q3 h3 (by simp; omega)
  rw [q4]
  unfold netL
  simp
theorem netX_shp (o : Option (Int × Int × List T3)) : SeqAt.shaped (netX o) = true := by
  cases o with
  | none => exact shaped_none
  | some x =>
    obtain ⟨n, k, r⟩ := x
    exact (shp_tup fun d hd => by
      rcases List.mem_cons.mp hd with rfl | hd
      · exact shp_int n 2
      rcases List.mem_cons.mp hd with rfl | hd
      · exact shp_int k 2
      rw [List.mem_singleton.mp hd]
      exact shp_list fun d hd => by
        obtain ⟨t, _, rfl⟩ := List.mem_map.mp hd
        exact shp_intsT [t.1, t.2.1, t.2.2] 0).shaped (m := 3) (by omega)
theorem ne_f {a b : Gd} {ρ : List Dt} {x y : Dt} (h1 : a ρ = .ok x) (h2 : b ρ = .ok y) (h3 : hNe x y = .ok (.bool false)) : gTest (gOp hNe a b) ρ = .ok false := by
  rw [gTest_def, gOp_def, h1, bnd_ok, h2, bnd_ok, h3]
  rfl
theorem is_none {a : Gd} {ρ : List Dt} (h1 : a ρ = .ok .none) : gTest (gOp hIsNot a (gC .none)) ρ = .ok false := by
  rw [gTest_def, gOp_def, h1]
  rfl
theorem ord_of {r : List T3} (h : r.Pairwise fun s t => s.1 < t.1) : ordB r = true := (ordB_iff r).mpr fun i hi => List.pairwise_iff_getElem.mp h i (i + 1) (by omega) hi (by omega)
theorem rec_of {n : Int} {r : List T3} (n10 : n ≤ 10) (h : RecOk n r) : Rec r := ⟨h.len, fun t ht => by
  have q := h.ties t ht
  have m1 : t.1 < 1000000000000000000000000000000 := q.m1
  have := q.bn
  exact ⟨⟨q.m0, by omega⟩, q.a0, q.ab, by omega⟩, ord_of h.ord⟩
theorem asc_netL (n : Int) (k : Nat) (r : List T3) : Asc (netL n k r) := (asc_dg _).app (asc_cons (by omega) ((asc_dg _).app (asc_cons (by omega) (asc_rec r))))
theorem netL_len {n : Int} {k : Nat} {r : List T3} (n12 : n ≤ 100) (k6 : k ≤ 100) (h : Rec r) : (netL n k r).length ≤ 20000 := by
  have h1 := dg_60 (i := n) (by omega)
  have h2 : (dg k).length ≤ 60 := dg_60 (i := ((k : Nat) : Int)) (by omega)
  have h3 := recL_len h.sm (by have := h.len; omega)
  unfold netL
  simp
  omega
theorem both_ok {n : Int} {k : Nat} {r : List T3} (n0 : 0 ≤ n) (n12 : n ≤ 100) (k6 : k ≤ 100) (h : Rec r) : ∃ o, f_l_read [sD (netL n k r)] = .ok (netX o) ∧ f_l_due [.int n, .int (k : Nat), .list (r.map enc3)] = .ok (netX o) := by
  have h1 := lread_ok (l := netL n k r) (by have := netL_len (n := n) (k := k) n12 k6 h; omega) (asc_netL n k r)
  rw [netR_net n0 n12 k6 h] at h1
  exact ⟨_, h1, ldue_ok h⟩
theorem turn1 {s : List Dt} {n : Int} {k : Nat} {r : List T3} {x13 : Dt} (hs : s.length = 10) (n0 : 0 ≤ n) (n12 : n ≤ 100) (k6 : k ≤ 100) (h : Rec r) : g_law_L1 (s ++ [.int n, .int (k : Nat), .list (r.map enc3), x13]) = .ok (.nx (s ++ [.int n, .int (k : Nat), .list (r.map enc3), sD (netL n k r)])) := by
  obtain ⟨o, h1, h2⟩ := both_ok n0 n12 k6 h
  have tx := l_text_ok h.sm (by have := h.len; omega)
  have hl := recL_len h.sm (by have := h.len; omega)
  obtain ⟨y0, y1, y2, y3, y4, y5, y6, y7, y8, y9, rfl⟩ : ∃ y0 y1 y2 y3 y4 y5 y6 y7 y8 y9, s = [y0, y1, y2, y3, y4, y5, y6, y7, y8, y9] := by
    match s, hs with
    | [y0, y1, y2, y3, y4, y5, y6, y7, y8, y9], _ => exact ⟨_, _, _, _, _, _, _, _, _, _, rfl⟩
  show g_law_L1 [y0, y1, y2, y3, y4, y5, y6, y7, y8, y9, .int n, .int (k : Nat), .list (r.map enc3), x13] = _
  unfold g_law_L1
  have q := net_strW (ga := gVar 10) (gb := gVar 11) (gc := gCallN 1 f_l_text (gCons (gVar 12) (gNil))) (ρ := [y0, y1, y2, y3, y4, y5, y6, y7, y8, y9, .int n, .int (k : Nat), .list (r.map enc3), x13]) n0 n12 k6 hl rfl rfl (callN_ok (ds := [.list (r.map enc3)]) rfl rfl tx)
  refine seq_step (set_ok q) ?_
  dsimp only [List.set]
  have c1 : gCallN 1 f_l_read (gCons (gVar 13) (gNil)) [y0, y1, y2, y3, y4, y5, y6, y7, y8, y9, .int n, .int (k : Nat), .list (r.map enc3), sD (netL n k r)] = .ok (netX o) := callN_ok (ds := [sD (netL n k r)]) rfl rfl h1
  have c2 : gCallN 3 f_l_due (gCons (gVar 10) (gCons (gVar 11) (gCons (gVar 12) (gNil)))) [y0, y1, y2, y3, y4, y5, y6, y7, y8, y9, .int n, .int (k : Nat), .list (r.map enc3), sD (netL n k r)] = .ok (netX o) := callN_ok (ds := [.int n, .int (k : Nat), .list (r.map enc3)]) rfl rfl h2
  exact (if_f (ne_f c1 c2 (hNe_self (netX_shp o)))).trans rfl
theorem body_ok (sc : Dt) (cell : Int) (d2 d3 d4 d5 d6 d7 d8 d9 d10 d11 d12 d13 : Dt) :
    ∃ e2 e3 e4 e5 e6 e7 e8 e9 e10 e11 e12 e13, g_law_L2 [sc, .int cell, d2, d3, d4, d5, d6, d7, d8, d9, d10, d11, d12, d13] = .ok (.nx [sc, .int cell, e2, e3, e4, e5, e6, e7, e8, e9, e10, e11, e12, e13]) := by
  obtain ⟨N, hN, lN, bN⟩ := numbers_ok cell 48 (by omega) (by omega)
  have hN : f_l_numbers [.int cell, .int 48, .int 1000000000000000000000000000000] = .ok (.list (N.map .int)) := hN
  have lN : N.length = 48 := lN
  obtain ⟨x0, i0, b0⟩ := ix_ok bN (i := 0) (by omega) (by omega)
  obtain ⟨x1, i1, b1⟩ := ix_ok bN (i := 1) (by omega) (by omega)
  obtain ⟨x2, i2, b2⟩ := ix_ok bN (i := 2) (by omega) (by omega)
  obtain ⟨x3, i3, b3⟩ := ix_ok bN (i := 3) (by omega) (by omega)
  obtain ⟨x4, i4, b4⟩ := ix_ok bN (i := 4) (by omega) (by omega)
  have bD : ∀ y ∈ N.drop 8, 0 ≤ y ∧ y < B30 := fun x hx => bN x (List.mem_of_mem_drop hx)
  obtain ⟨n, r, hR, n1, n10, hrec, hr12⟩ := record_ok (ns := N.drop 8) (most := 12) bD (by rw [List.length_drop]; omega) (by rw [List.length_drop]; omega) (by omega) (by omega)
  have hr12 : r.length ≤ 12 := by omega
  obtain ⟨k, hk, k1, k6⟩ := depth_ok b0.1
  have hin : InN n r := fun t ht => by
    have q := hrec.ties t ht
    have := q.a0; have := q.ab; have := q.bn
    exact ⟨⟨by omega, by omega⟩, by omega, by omega⟩
  have nb := numbered_ok hin (by omega) n1 n10 k6
  have rR := rec_of n10 hrec
  have hsub : (KP k r).Sublist r := kp_sub _ _
  have rK : Rec (KP k r) := ⟨Nat.le_trans hsub.length_le rR.len, fun t ht => rR.m t (hsub.subset ht), ord_of (hrec.ord.sublist hsub)⟩
  have hsl : hSl (.list (N.map .int)) (some 8) none = .ok (.list ((N.drop 8).map .int)) := hSl_from PyData.int N 8
  obtain ⟨dB, hB, lB, rfl, aB, bB, nB⟩ := bad_ok (n := n) (k := k) (r := KP k r) (x := x3) n1 n10 k1 k6 rK b3.1
  have rdB := lread_ok (l := lB) (by omega) aB
  rw [nB] at rdB
  obtain ⟨dU, hU, uU⟩ := no_net_ok (n := n) (k := k) (R := r) (x := x4) n1 n10 k1 k6 hrec hr12 b4.1
  have unU := un_ok uU
  have m6 := hMod_i (i := x1) (show (0 : Int) < 6 by omega)
  have m60 := Int.emod_nonneg x1 (show (6 : Int) ≠ 0 by omega)
  have m61 := Int.emod_lt_of_pos x1 (show (0 : Int) < 6 by omega)
  obtain ⟨k2, hk2⟩ : ∃ k2 : Nat, 1 + x1 % 6 = (k2 : Int) := ⟨(1 + x1 % 6).toNat, by omega⟩
  have m13 := hMod_i (i := x2) (show (0 : Int) < 13 by omega)
  have p0 := Int.emod_nonneg x2 (show (13 : Int) ≠ 0 by omega)
  have p1 := Int.emod_lt_of_pos x2 (show (0 : Int) < 13 by omega)
  generalize x2 % 13 = pl at *
  obtain ⟨o, hr1, hr2⟩ := both_ok (n := pl) (k := k) (r := KP k r) p0 (by omega) (by omega) rK
  have txK := l_text_ok rK.sm (by have := rK.len; omega)
  have hlK := recL_len rK.sm (by have := rK.len; omega)
  refine ⟨.list (N.map .int), .int n, .list (r.map enc3), .int (k : Nat), .list ((lay k r).map .int), .list ((KP k r).map enc3), d8, d9, .int pl, .int (k2 : Nat), .list ((KP k r).map enc3), sD (netL pl k (KP k r)), ?_⟩
  unfold g_law_L2
  apply seq_step
  · simp (disch := first | omega | with_unfolding_all rfl | assumption | decide | (simp only [List.length_cons, List.length_nil]; omega)) only [bnd_ok, gVar_def, gC_def, gOp_def, gUn_def, gNil_def, gCons_def, gIf_def, gTest_def, gNot_def, gAnd_def, gOr_def, gAndV_def, gOrV_def, gNotV_def, gCB_def, asB_b, hAdd_i, hSub_i, hLt_i, hLe_i, hGt_i, hGe_i, hMul_r, hMul_l, hMod_i, hDiv_s, hBand_i, hShr_i, hPow_10_18, hPow_10_27, hPow_10_28, hPow_10_29, hPow_10_30, hEq_i, hNe_i, hLen_l, hLen_t, hMin2_i, hMax2_i, hMin3_i, hInt1_b, hInt1_i, hBits_i, hListOf_l, hListOf_t, hTupOf_l, hTupOf_t, gSeqS_def, gSet_def, gRet_def, gIfS_def, gNext_def, gTup_def, gLst_def, List.getElem?_cons_zero, List.getElem?_cons_succ, List.set_cons_zero, List.set_cons_succ, List.length_cons, List.length_nil, Nat.zero_add, Nat.reduceAdd, Nat.reduceLeDiff, Nat.reduceSub, Nat.reduceMul, if_true, if_false, Bool.false_eq_true, List.replicate_succ, List.replicate_zero, List.cons_append, List.nil_append, tgN, tgT, tgCons, tgNil, Int.reducePow, Int.reduceAdd, Int.reduceSub, Int.reduceMul, decide_true, decide_false, Bool.not_true, Bool.not_false, gChain_def, hIsa_int, hIsa_intb, hIsa_list, hIsa_tuple, gDrop_def, gCallN_def, gAsg_def, gSl_def, gNoPart_def, gPart_def, hSl_from', hSl_to', hN]
    rfl
  refine seq_step (asg_ok (d := .tuple [.int n, .list (r.map enc3)]) (ρ' := [sc, .int cell, .list (N.map .int), .int n, .list (r.map enc3), d5, d6, d7, d8, d9, d10, d11, d12, d13]) (callN_ok (ds := [.list ((N.drop 8).map .int), .int 12]) (by simp only [bnd_ok, gVar_def, gC_def, gOp_def, gUn_def, gNil_def, gCons_def, gIf_def, gTest_def, gNot_def, gAnd_def, gOr_def, gAndV_def, gOrV_def, gNotV_def, gCB_def, asB_b, hAdd_i, hSub_i, hLt_i, hLe_i, hGt_i, hGe_i, hMul_r, hMul_l, hMod_i, hDiv_s, hBand_i, hShr_i, hPow_10_18, hPow_10_27, hPow_10_28, hPow_10_29, hPow_10_30, hEq_i, hNe_i, hLen_l, hLen_t, hMin2_i, hMax2_i, hMin3_i, hInt1_b, hInt1_i, hBits_i, hListOf_l, hListOf_t, hTupOf_l, hTupOf_t, gSeqS_def, gSet_def, gRet_def, gIfS_def, gNext_def, gTup_def, gLst_def, List.getElem?_cons_zero, List.getElem?_cons_succ, List.set_cons_zero, List.set_cons_succ, List.length_cons, List.length_nil, Nat.zero_add, Nat.reduceAdd, Nat.reduceLeDiff, Nat.reduceSub, Nat.reduceMul, if_true, if_false, Bool.false_eq_true, List.replicate_succ, List.replicate_zero, List.cons_append, List.nil_append, tgN, tgT, tgCons, tgNil, Int.reducePow, Int.reduceAdd, Int.reduceSub, Int.reduceMul, decide_true, decide_false, Bool.not_true, Bool.not_false, gChain_def, hIsa_int, hIsa_intb, hIsa_list, hIsa_tuple, gDrop_def, gSl_def, gPart_def, gNoPart_def, hsl]) rfl hR) rfl) ?_
  apply seq_step
  · simp (disch := first | omega | with_unfolding_all rfl | assumption | decide | (simp only [List.length_cons, List.length_nil]; omega)) only [bnd_ok, gVar_def, gC_def, gOp_def, gUn_def, gNil_def, gCons_def, gIf_def, gTest_def, gNot_def, gAnd_def, gOr_def, gAndV_def, gOrV_def, gNotV_def, gCB_def, asB_b, hAdd_i, hSub_i, hLt_i, hLe_i, hGt_i, hGe_i, hMul_r, hMul_l, hMod_i, hDiv_s, hBand_i, hShr_i, hPow_10_18, hPow_10_27, hPow_10_28, hPow_10_29, hPow_10_30, hEq_i, hNe_i, hLen_l, hLen_t, hMin2_i, hMax2_i, hMin3_i, hInt1_b, hInt1_i, hBits_i, hListOf_l, hListOf_t, hTupOf_l, hTupOf_t, gSeqS_def, gSet_def, gRet_def, gIfS_def, gNext_def, gTup_def, gLst_def, List.getElem?_cons_zero, List.getElem?_cons_succ, List.set_cons_zero, List.set_cons_succ, List.length_cons, List.length_nil, Nat.zero_add, Nat.reduceAdd, Nat.reduceLeDiff, Nat.reduceSub, Nat.reduceMul, if_true, if_false, Bool.false_eq_true, List.replicate_succ, List.replicate_zero, List.cons_append, List.nil_append, tgN, tgT, tgCons, tgNil, Int.reducePow, Int.reduceAdd, Int.reduceSub, Int.reduceMul, decide_true, decide_false, Bool.not_true, Bool.not_false, gChain_def, hIsa_int, hIsa_intb, hIsa_list, hIsa_tuple, gDrop_def, gCallN_def, gAsg_def, gSl_def, gNoPart_def, gPart_def, hSl_from', hSl_to', i0, hk]
    rfl
  refine seq_step (set_ok (callN_ok (ds := [.int n, .list (r.map enc3), .int (k : Nat)]) rfl rfl nb)) ?_
  dsimp only [List.set]
  have hz : gZip (gCons (gVar 4) (gCons (gVar 6) (gNil))) [sc, .int cell, .list (N.map .int), .int n, .list (r.map enc3), .int (k : Nat), .list ((lay k r).map .int), d7, d8, d9, d10, d11, d12, d13] = .ok ((r.zip (lay k r)).map fun p => .tuple [enc3 p.1, .int p.2]) := by
    rw [zip_ok (es := r.map enc3) (fs := (lay k r).map .int) (by rfl), zipD_map]
  have hlc : gLc (gZip (gCons (gVar 4) (gCons (gVar 6) (gNil)))) (tgT (tgCons (tgN 8) (tgCons (tgN 9) (tgNil)))) (gTest (gOp hGt (gVar 9) (gC (.int (0))))) (gVar 8) [sc, .int cell, .list (N.map .int), .int n, .list (r.map enc3), .int (k : Nat), .list ((lay k r).map .int), d7, d8, d9, d10, d11, d12, d13] = .ok (.list ((KP k r).map enc3)) := by
    rw [gLc_map (fun (p : T3 × Int) => .tuple [enc3 p.1, .int p.2]) (fun p => decide (0 < p.2)) (fun p => enc3 p.1) hz (by rw [List.length_zip]; omega) fun p hp => ⟨_, rfl, rfl, fun _ => rfl⟩]
    unfold KP K10.kp
    rw [List.map_map]
    rfl
  refine seq_step (set_ok hlc) ?_
  dsimp only [List.set]
  have hlst : gLst (gCons (gTup (gCons (gVar 3) (gCons (gVar 5) (gCons (gVar 7) (gNil))))) (gCons (gTup (gCons (gVar 3) (gCons (gVar 5) (gCons (gVar 4) (gNil))))) (gCons (gTup (gCons (gVar 3) (gCons (gOp hAdd (gC (.int (1))) (gOp hMod (gOp hIx (gVar 2) (gC (.int (1)))) (gC (.int (6))))) (gCons (gVar 7) (gNil))))) (gNil)))) [sc, .int cell, .list (N.map .int), .int n, .list (r.map enc3), .int (k : Nat), .list ((lay k r).map .int), .list ((KP k r).map enc3), d8, d9, d10, d11, d12, d13] = .ok (.list [.tuple [.int n, .int (k : Nat), .list ((KP k r).map enc3)], .tuple [.int n, .int (k : Nat), .list (r.map enc3)], .tuple [.int n, .int (k2 : Nat), .list ((KP k r).map enc3)]]) := by
    have e : gOp hAdd (gC (.int (1))) (gOp hMod (gOp hIx (gVar 2) (gC (.int (1)))) (gC (.int (6)))) [sc, .int cell, .list (N.map .int), .int n, .list (r.map enc3), .int (k : Nat), .list ((lay k r).map .int), .list ((KP k r).map enc3), d8, d9, d10, d11, d12, d13] = .ok (.int (k2 : Nat)) := by
      rw [← hk2]
      simp only [bnd_ok, gVar_def, gC_def, gOp_def, gUn_def, gNil_def, gCons_def, gIf_def, gTest_def, gNot_def, gAnd_def, gOr_def, gAndV_def, gOrV_def, gNotV_def, gCB_def, asB_b, hAdd_i, hSub_i, hLt_i, hLe_i, hGt_i, hGe_i, hMul_r, hMul_l, hMod_i, hDiv_s, hBand_i, hShr_i, hPow_10_18, hPow_10_27, hPow_10_28, hPow_10_29, hPow_10_30, hEq_i, hNe_i, hLen_l, hLen_t, hMin2_i, hMax2_i, hMin3_i, hInt1_b, hInt1_i, hBits_i, hListOf_l, hListOf_t, hTupOf_l, hTupOf_t, gSeqS_def, gSet_def, gRet_def, gIfS_def, gNext_def, gTup_def, gLst_def, List.getElem?_cons_zero, List.getElem?_cons_succ, List.set_cons_zero, List.set_cons_succ, List.length_cons, List.length_nil, Nat.zero_add, Nat.reduceAdd, Nat.reduceLeDiff, Nat.reduceSub, Nat.reduceMul, if_true, if_false, Bool.false_eq_true, List.replicate_succ, List.replicate_zero, List.cons_append, List.nil_append, tgN, tgT, tgCons, tgNil, Int.reducePow, Int.reduceAdd, Int.reduceSub, Int.reduceMul, decide_true, decide_false, Bool.not_true, Bool.not_false, gChain_def, hIsa_int, hIsa_intb, hIsa_list, hIsa_tuple, gDrop_def, i1, m6]
    have t3 := gTup_ok (a := gCons (gVar 3) (gCons (gOp hAdd (gC (.int (1))) (gOp hMod (gOp hIx (gVar 2) (gC (.int (1)))) (gC (.int (6))))) (gCons (gVar 7) (gNil)))) (lst_cons (ρ := [sc, .int cell, .list (N.map .int), .int n, .list (r.map enc3), .int (k : Nat), .list ((lay k r).map .int), .list ((KP k r).map enc3), d8, d9, d10, d11, d12, d13]) rfl (lst_cons e (lst_cons rfl rfl))) (by simp)
    exact lst_ok (lst_cons rfl (lst_cons rfl (lst_cons t3 rfl))) (by simp)
  have hfor : gFor (gSeq (gLst (gCons (gTup (gCons (gVar 3) (gCons (gVar 5) (gCons (gVar 7) (gNil))))) (gCons (gTup (gCons (gVar 3) (gCons (gVar 5) (gCons (gVar 4) (gNil))))) (gCons (gTup (gCons (gVar 3) (gCons (gOp hAdd (gC (.int (1))) (gOp hMod (gOp hIx (gVar 2) (gC (.int (1)))) (gC (.int (6))))) (gCons (gVar 7) (gNil))))) (gNil)))))) (tgT (tgCons (tgN 10) (tgCons (tgN 11) (tgCons (tgN 12) (tgNil))))) g_law_L1 [sc, .int cell, .list (N.map .int), .int n, .list (r.map enc3), .int (k : Nat), .list ((lay k r).map .int), .list ((KP k r).map enc3), d8, d9, d10, d11, d12, d13] = .ok (.nx [sc, .int cell, .list (N.map .int), .int n, .list (r.map enc3), .int (k : Nat), .list ((lay k r).map .int), .list ((KP k r).map enc3), d8, d9, .int n, .int (k2 : Nat), .list ((KP k r).map enc3), sD (netL n k2 (KP k r))]) := by
    refine for_ok (seqG_l hlst) ?_
    have t1 := fun x13 => turn1 (s := [sc, .int cell, .list (N.map .int), .int n, .list (r.map enc3), .int (k : Nat), .list ((lay k r).map .int), .list ((KP k r).map enc3), d8, d9]) (n := n) (k := k) (r := KP k r) (x13 := x13) rfl (by omega) (by omega) (by omega) rK
    have t2 := fun x13 => turn1 (s := [sc, .int cell, .list (N.map .int), .int n, .list (r.map enc3), .int (k : Nat), .list ((lay k r).map .int), .list ((KP k r).map enc3), d8, d9]) (n := n) (k := k) (r := r) (x13 := x13) rfl (by omega) (by omega) (by omega) rR
    have t3 := fun x13 => turn1 (s := [sc, .int cell, .list (N.map .int), .int n, .list (r.map enc3), .int (k : Nat), .list ((lay k r).map .int), .list ((KP k r).map enc3), d8, d9]) (n := n) (k := k2) (r := KP k r) (x13 := x13) rfl (by omega) (by omega) (by omega) rK
    simp only [List.cons_append, List.nil_append] at t1 t2 t3
    have g : ∀ (a b c x10 x11 x12 x13 : Dt), tgT (tgCons (tgN 10) (tgCons (tgN 11) (tgCons (tgN 12) (tgNil)))) (.tuple [a, b, c]) [sc, .int cell, .list (N.map .int), .int n, .list (r.map enc3), .int (k : Nat), .list ((lay k r).map .int), .list ((KP k r).map enc3), d8, d9, x10, x11, x12, x13] = .ok [sc, .int cell, .list (N.map .int), .int n, .list (r.map enc3), .int (k : Nat), .list ((lay k r).map .int), .list ((KP k r).map enc3), d8, d9, a, b, c, x13] := fun _ _ _ _ _ _ _ => rfl
    rw [forE]
    simp only [g, t1, bnd_ok]
    rw [forE]
    simp only [g, t2, bnd_ok]
    rw [forE]
    simp only [g, t3, bnd_ok]
    rfl
  refine seq_step hfor ?_
  refine seq_step (set_ok (d := .int pl) (by simp only [bnd_ok, gVar_def, gC_def, gOp_def, gUn_def, gNil_def, gCons_def, gIf_def, gTest_def, gNot_def, gAnd_def, gOr_def, gAndV_def, gOrV_def, gNotV_def, gCB_def, asB_b, hAdd_i, hSub_i, hLt_i, hLe_i, hGt_i, hGe_i, hMul_r, hMul_l, hMod_i, hDiv_s, hBand_i, hShr_i, hPow_10_18, hPow_10_27, hPow_10_28, hPow_10_29, hPow_10_30, hEq_i, hNe_i, hLen_l, hLen_t, hMin2_i, hMax2_i, hMin3_i, hInt1_b, hInt1_i, hBits_i, hListOf_l, hListOf_t, hTupOf_l, hTupOf_t, gSeqS_def, gSet_def, gRet_def, gIfS_def, gNext_def, gTup_def, gLst_def, List.getElem?_cons_zero, List.getElem?_cons_succ, List.set_cons_zero, List.set_cons_succ, List.length_cons, List.length_nil, Nat.zero_add, Nat.reduceAdd, Nat.reduceLeDiff, Nat.reduceSub, Nat.reduceMul, if_true, if_false, Bool.false_eq_true, List.replicate_succ, List.replicate_zero, List.cons_append, List.nil_append, tgN, tgT, tgCons, tgNil, Int.reducePow, Int.reduceAdd, Int.reduceSub, Int.reduceMul, decide_true, decide_false, Bool.not_true, Bool.not_false, gChain_def, hIsa_int, hIsa_intb, hIsa_list, hIsa_tuple, gDrop_def, i2, m13])) ?_
  dsimp only [List.set]
  have q := net_strW (ga := gVar 10) (gb := gVar 5) (gc := gCallN 1 f_l_text (gCons (gVar 7) (gNil))) (ρ := [sc, .int cell, .list (N.map .int), .int n, .list (r.map enc3), .int (k : Nat), .list ((lay k r).map .int), .list ((KP k r).map enc3), d8, d9, .int pl, .int (k2 : Nat), .list ((KP k r).map enc3), sD (netL n k2 (KP k r))]) (n := pl) (k := k) (r := KP k r) p0 (by omega) (by omega) hlK rfl rfl (callN_ok (ds := [.list ((KP k r).map enc3)]) rfl rfl txK)
  refine seq_step (set_ok q) ?_
  dsimp only [List.set]
  generalize hST : ([sc, .int cell, .list (N.map .int), .int n, .list (r.map enc3), .int (k : Nat), .list ((lay k r).map .int), .list ((KP k r).map enc3), d8, d9, .int pl, .int (k2 : Nat), .list ((KP k r).map enc3), sD (netL pl k (KP k r))] : List Dt) = ST
  have c1 : gCallN 1 f_l_read (gCons (gVar 13) (gNil)) ST = .ok (netX o) := by rw [← hST]; exact callN_ok (ds := [sD (netL pl k (KP k r))]) rfl rfl hr1
  have c2 : gCallN 3 f_l_due (gCons (gVar 10) (gCons (gVar 5) (gCons (gVar 7) (gNil)))) ST = .ok (netX o) := by rw [← hST]; exact callN_ok (ds := [.int pl, .int (k : Nat), .list ((KP k r).map enc3)]) rfl rfl hr2
  refine seq_step ((if_f (ne_f c1 c2 (hNe_self (netX_shp o)))).trans rfl) ?_
  have a3 : gCallN 4 f_l_bad (gCons (gVar 3) (gCons (gVar 5) (gCons (gVar 7) (gCons (gOp hIx (gVar 2) (gC (.int (3)))) (gNil))))) ST = .ok (sD lB) := by
    rw [← hST]
    exact callN_ok (ds := [.int n, .int (k : Nat), .list ((KP k r).map enc3), .int x3]) (by simp only [bnd_ok, gVar_def, gC_def, gOp_def, gUn_def, gNil_def, gCons_def, gIf_def, gTest_def, gNot_def, gAnd_def, gOr_def, gAndV_def, gOrV_def, gNotV_def, gCB_def, asB_b, hAdd_i, hSub_i, hLt_i, hLe_i, hGt_i, hGe_i, hMul_r, hMul_l, hMod_i, hDiv_s, hBand_i, hShr_i, hPow_10_18, hPow_10_27, hPow_10_28, hPow_10_29, hPow_10_30, hEq_i, hNe_i, hLen_l, hLen_t, hMin2_i, hMax2_i, hMin3_i, hInt1_b, hInt1_i, hBits_i, hListOf_l, hListOf_t, hTupOf_l, hTupOf_t, gSeqS_def, gSet_def, gRet_def, gIfS_def, gNext_def, gTup_def, gLst_def, List.getElem?_cons_zero, List.getElem?_cons_succ, List.set_cons_zero, List.set_cons_succ, List.length_cons, List.length_nil, Nat.zero_add, Nat.reduceAdd, Nat.reduceLeDiff, Nat.reduceSub, Nat.reduceMul, if_true, if_false, Bool.false_eq_true, List.replicate_succ, List.replicate_zero, List.cons_append, List.nil_append, tgN, tgT, tgCons, tgNil, Int.reducePow, Int.reduceAdd, Int.reduceSub, Int.reduceMul, decide_true, decide_false, Bool.not_true, Bool.not_false, gChain_def, hIsa_int, hIsa_intb, hIsa_list, hIsa_tuple, gDrop_def, i3]) rfl hB
  have c3 : gCallN 1 f_l_read (gCons (gCallN 4 f_l_bad (gCons (gVar 3) (gCons (gVar 5) (gCons (gVar 7) (gCons (gOp hIx (gVar 2) (gC (.int (3)))) (gNil)))))) (gNil)) ST = .ok .none := callN_ok (n := 1) (lst_cons a3 rfl) rfl rdB
  refine seq_step ((if_f (is_none c3)).trans rfl) ?_
  have a4 : gCallN 5 f_l_no_net (gCons (gVar 3) (gCons (gVar 5) (gCons (gVar 7) (gCons (gVar 4) (gCons (gOp hIx (gVar 2) (gC (.int (4)))) (gNil)))))) ST = .ok dU := by
    rw [← hST]
    exact callN_ok (ds := [.int n, .int (k : Nat), .list ((KP k r).map enc3), .list (r.map enc3), .int x4]) (by simp only [bnd_ok, gVar_def, gC_def, gOp_def, gUn_def, gNil_def, gCons_def, gIf_def, gTest_def, gNot_def, gAnd_def, gOr_def, gAndV_def, gOrV_def, gNotV_def, gCB_def, asB_b, hAdd_i, hSub_i, hLt_i, hLe_i, hGt_i, hGe_i, hMul_r, hMul_l, hMod_i, hDiv_s, hBand_i, hShr_i, hPow_10_18, hPow_10_27, hPow_10_28, hPow_10_29, hPow_10_30, hEq_i, hNe_i, hLen_l, hLen_t, hMin2_i, hMax2_i, hMin3_i, hInt1_b, hInt1_i, hBits_i, hListOf_l, hListOf_t, hTupOf_l, hTupOf_t, gSeqS_def, gSet_def, gRet_def, gIfS_def, gNext_def, gTup_def, gLst_def, List.getElem?_cons_zero, List.getElem?_cons_succ, List.set_cons_zero, List.set_cons_succ, List.length_cons, List.length_nil, Nat.zero_add, Nat.reduceAdd, Nat.reduceLeDiff, Nat.reduceSub, Nat.reduceMul, if_true, if_false, Bool.false_eq_true, List.replicate_succ, List.replicate_zero, List.cons_append, List.nil_append, tgN, tgT, tgCons, tgNil, Int.reducePow, Int.reduceAdd, Int.reduceSub, Int.reduceMul, decide_true, decide_false, Bool.not_true, Bool.not_false, gChain_def, hIsa_int, hIsa_intb, hIsa_list, hIsa_tuple, gDrop_def, i4]) rfl hU
  have c4 : gCallN 1 f_l_unwritten (gCons (gCallN 5 f_l_no_net (gCons (gVar 3) (gCons (gVar 5) (gCons (gVar 7) (gCons (gVar 4) (gCons (gOp hIx (gVar 2) (gC (.int (4)))) (gNil))))))) (gNil)) ST = .ok (.bool true) := callN_ok (n := 1) (lst_cons a4 rfl) rfl unU
  exact (if_f (by rw [gNot_def, gTest_def, c4]; rfl)).trans rfl
theorem hLenF_f (xs : List Dt) : hLenF [frzD xs] = .ok (.int xs.length) := rfl
theorem law_true (ns : List Int) (hl : ns.length ≤ 63) (_ : ∀ z ∈ ns, Builtin.Int.intBits z ≤ 1048576) : f_law [frzD (ns.map .int)] = .ok (.bool true) := by
  refine fnN_rt ?_
  obtain ⟨ρ', hf, e1, e2, e3, e4, e5, e6, e7, e8, e9, e10, e11, e12, e13, rfl⟩ := forE_ix PyData.int (h := tgN 1) (b := g_law_L2) (ns.take 10 ++ [(ns.length : Int)])
    (fun _ ρ => ∃ e1 e2 e3 e4 e5 e6 e7 e8 e9 e10 e11 e12 e13, ρ = [frzD (ns.map .int), e1, e2, e3, e4, e5, e6, e7, e8, e9, e10, e11, e12, e13])
    (ρ := [frzD (ns.map .int), .none, .none, .none, .none, .none, .none, .none, .none, .none, .none, .none, .none, .none]) ⟨_, _, _, _, _, _, _, _, _, _, _, _, _, rfl⟩ (by
      rintro i ρ hi ⟨e1, e2, e3, e4, e5, e6, e7, e8, e9, e10, e11, e12, e13, rfl⟩
      obtain ⟨f2, f3, f4, f5, f6, f7, f8, f9, f10, f11, f12, f13, h1⟩ := body_ok (frzD (ns.map .int)) (ns.take 10 ++ [(ns.length : Int)])[i] e2 e3 e4 e5 e6 e7 e8 e9 e10 e11 e12 e13
      exact ⟨_, _, rfl, .inl h1, _, f2, f3, f4, f5, f6, f7, f8, f9, f10, f11, f12, f13, rfl⟩)
  show g_law [frzD (ns.map .int), .none, .none, .none, .none, .none, .none, .none, .none, .none, .none, .none, .none, .none] = _
  unfold g_law
  have hc : hCat (.list ((ns.take 10).map .int)) (.list [.int ns.length]) = .ok (.list ((ns.take 10 ++ [(ns.length : Int)]).map .int)) := hCat_map PyData.int (ns.take 10) [(ns.length : Int)] (by rw [List.length_take, List.length_singleton]; omega)
  have hs : hSlF (frzD (ns.map .int)) none (some 10) = .ok (.list ((ns.take 10).map .int)) := hSl_to PyData.int ns 10
  refine seq_step (for_ok (ds := (ns.take 10 ++ [(ns.length : Int)]).map .int) (seqG_l ?_) hf) rfl
  simp only [bnd_ok, gVar_def, gC_def, gOp_def, gUn_def, gNil_def, gCons_def, gIf_def, gTest_def, gNot_def, gAnd_def, gOr_def, gAndV_def, gOrV_def, gNotV_def, gCB_def, asB_b, hAdd_i, hSub_i, hLt_i, hLe_i, hGt_i, hGe_i, hMul_r, hMul_l, hMod_i, hDiv_s, hBand_i, hShr_i, hPow_10_18, hPow_10_27, hPow_10_28, hPow_10_29, hPow_10_30, hEq_i, hNe_i, hLen_l, hLen_t, hMin2_i, hMax2_i, hMin3_i, hInt1_b, hInt1_i, hBits_i, hListOf_l, hListOf_t, hTupOf_l, hTupOf_t, gSeqS_def, gSet_def, gRet_def, gIfS_def, gNext_def, gTup_def, gLst_def, List.getElem?_cons_zero, List.getElem?_cons_succ, List.set_cons_zero, List.set_cons_succ, List.length_cons, List.length_nil, Nat.zero_add, Nat.reduceAdd, Nat.reduceLeDiff, Nat.reduceSub, Nat.reduceMul, if_true, if_false, Bool.false_eq_true, List.replicate_succ, List.replicate_zero, List.cons_append, List.nil_append, tgN, tgT, tgCons, tgNil, Int.reducePow, Int.reduceAdd, Int.reduceSub, Int.reduceMul, decide_true, decide_false, Bool.not_true, Bool.not_false, gChain_def, hIsa_int, hIsa_intb, hIsa_list, hIsa_tuple, gDrop_def, gSl_def, gNoPart_def, gPart_def, hs, hLenF_f, List.length_map, hc]
end K57
end T_K57H
open PySem PySem.W PyProof.Rows
set_option maxRecDepth 100000 in
set_option maxHeartbeats 0 in
theorem PySem.Challenge.cw_sinceply_k57_nets_misread_holds : PySem.Challenge.rw_sinceply_k57_nets_misread.Holds := by
  w_on; o_law; k_head; (case hw => w_witness2)
  k_fill
  refine L2.walk_ofB (l := PySem.Challenge.rw_sinceply_k57_nets_misread) (n := 63) (k := 9) (x := "script") (CX := fun _ => L2.CX0) (sp := fun w => Sim.spLaw _ K57.f_law) rfl (by decide) rfl ⟨rfl, by decide, by decide⟩ (fun w h Y => PySem.W.kIn_of Y) ?F (fun _ _ a ns hl hb hO hS => Sim.spLaw_of hO hS (K57.law_true ns hl hb)) (fun _ _ _ _ _ h => h)
  case F =>
    intro w mg fa h KX G hmg
    refine' Sim.okLaw_of (K57.all_mk KX G hmg ?a0 ?l0 ?c0 ?k0 ?a1 ?l1 ?c1 ?k1 ?a2 ?l2 ?c2 ?k2 ?a3 ?l3 ?c3 ?k3 ?a4 ?l4 ?c4 ?k4 ?a5 ?l5 ?c5 ?k5 ?a6 ?l6 ?c6 ?k6 ?a7 ?l7 ?c7 ?k7 ?a8 ?l8 ?c8 ?k8 ?a9 ?l9 ?c9 ?k9 ?a10 ?l10 ?c10 ?k10 ?a11 ?l11 ?c11 ?k11 ?a12 ?l12 ?c12 ?k12 ?a13 ?l13 ?c13 ?k13 ?a14 ?l14 ?c14 ?k14 ?a15 ?l15 ?c15 ?k15 ?a16 ?l16 ?c16 ?k16 ?a17 ?l17 ?c17 ?k17 ?a18 ?l18 ?c18 ?k18 ?a19 ?l19 ?c19 ?k19 ?a20 ?l20 ?c20 ?k20 ?a21 ?l21 ?c21 ?k21 ?a22 ?l22 ?c22 ?k22 ?a23 ?l23 ?c23 ?k23 ?a24 ?l24 ?c24 ?k24 ?a25 ?l25 ?c25 ?k25 ?a26 ?l26 ?c26 ?k26 ?a27 ?l27 ?c27 ?k27 ?a28 ?l28 ?c28 ?k28 ?a29 ?l29 ?c29 ?k29 ?a30 ?l30 ?c30 ?k30 ?a31 ?l31 ?c31 ?k31 ?a32 ?l32 ?c32 ?k32 ?a33 ?l33 ?c33 ?k33 ?a34 ?l34 ?c34 ?k34 ?z_isinstance ?z_int ?z_bool ?z_tuple ?z_len ?z_list ?z_all ?z_range ?z_min ?z_max ?z_enumerate ?z_reversed ?z_str ?z_ValueError ?z_zip ?y_MOST_PLACES_records ?y_LAST_MOMENT ?y_MOST_TIES ?y_MOST_LAYERS_layers ?y_MOST_PLACES_nets ?y_MOST_LAYERS_nets ?y_NOTHING ?y_MOST_FIGURES ?y_FIGURES ?u1_NoNet ?u2_NoNet ?u3_NoNet ?u4_NoNet ?u5_NoNet ?u6_NoNet ?u7_NoNet ?u8_NoNet ?u9_NoNet ?uQ_NoNet ?u1_NoText ?u2_NoText ?u3_NoText ?u4_NoText ?u5_NoText ?u6_NoText ?u7_NoText ?u8_NoText ?u9_NoText ?uQ_NoText ?u1_PlyError ?u2_PlyError ?u3_PlyError ?u4_PlyError ?u5_PlyError ?u6_PlyError ?u7_PlyError ?u8_PlyError ?u9_PlyError ?u1_NoTies ?u2_NoTies ?u3_NoTies ?u4_NoTies ?u5_NoTies ?u6_NoTies ?u7_NoTies ?u8_NoTies ?u9_NoTies ?u1_NoPlaces ?u2_NoPlaces ?u3_NoPlaces ?u4_NoPlaces ?u5_NoPlaces ?u6_NoPlaces ?u7_NoPlaces ?u8_NoPlaces ?u9_NoPlaces ?u1_NoLayers ?u2_NoLayers ?u3_NoLayers ?u4_NoLayers ?u5_NoLayers ?u6_NoLayers ?u7_NoLayers ?u8_NoLayers ?u9_NoLayers ?u1_Clash ?u2_Clash ?u3_Clash ?u4_Clash ?u5_Clash ?u6_Clash ?u7_Clash ?u8_Clash ?u9_Clash ?un ?ut ?uS_NoText_PlyError ?uS_NoNet_PlyError ?uS_NoText_NoText ?uS_NoNet_NoText ?uS_NoNet_NoNet ?uS_NoText_NoTies ?uS_NoText_NoPlaces ?uS_NoText_NoNet ?uS_NoText_NoLayers ?uS_NoText_Clash ?uS_NoNet_NoTies ?uS_NoNet_NoPlaces ?uS_NoNet_NoLayers ?uS_NoNet_Clash ?uS_NoText_ValueError ?uS_NoNet_ValueError)
    (case a0 => k_is); (case l0 => k_is); (case c0 => k_is); (case k0 => k_is); (case a1 => k_is); (case l1 => k_is); (case c1 => k_is); (case k1 => k_is); (case a2 => k_is); (case l2 => k_is); (case c2 => k_is); (case k2 => k_is); (case a3 => k_is); (case l3 => k_is); (case c3 => k_is); (case k3 => k_is); (case a4 => k_is); (case l4 => k_is); (case c4 => k_is); (case k4 => k_is); (case a5 => k_is); (case l5 => k_is); (case c5 => k_is); (case k5 => k_is); (case a6 => k_is); (case l6 => k_is); (case c6 => k_is); (case k6 => k_is); (case a7 => k_is); (case l7 => k_is); (case c7 => k_is); (case k7 => k_is); (case a8 => k_is); (case l8 => k_is); (case c8 => k_is); (case k8 => k_is); (case a9 => k_is); (case l9 => k_is); (case c9 => k_is); (case k9 => k_is); (case a10 => k_is); (case l10 => k_is); (case c10 => k_is); (case k10 => k_is); (case a11 => k_is); (case l11 => k_is); (case c11 => k_is); (case k11 => k_is); (case a12 => k_is); (case l12 => k_is); (case c12 => k_is); (case k12 => k_is); (case a13 => k_is); (case l13 => k_is); (case c13 => k_is); (case k13 => k_is); (case a14 => k_is); (case l14 => k_is); (case c14 => k_is); (case k14 => k_is); (case a15 => k_is); (case l15 => k_is); (case c15 => k_is); (case k15 => k_is); (case a16 => k_is); (case l16 => k_is); (case c16 => k_is); (case k16 => k_is); (case a17 => k_is); (case l17 => k_is); (case c17 => k_is); (case k17 => k_is); (case a18 => k_is); (case l18 => k_is); (case c18 => k_is); (case k18 => k_is); (case a19 => k_is); (case l19 => k_is); (case c19 => k_is); (case k19 => k_is); (case a20 => k_is); (case l20 => k_is); (case c20 => k_is); (case k20 => k_is); (case a21 => k_is); (case l21 => k_is); (case c21 => k_is); (case k21 => k_is); (case a22 => k_is); (case l22 => k_is); (case c22 => k_is); (case k22 => k_is); (case a23 => k_is); (case l23 => k_is); (case c23 => k_is); (case k23 => k_is); (case a24 => k_is); (case l24 => k_is); (case c24 => k_is); (case k24 => k_is); (case a25 => k_is); (case l25 => k_is); (case c25 => k_is); (case k25 => k_is); (case a26 => k_is); (case l26 => k_is); (case c26 => k_is); (case k26 => k_is); (case a27 => k_is); (case l27 => k_is); (case c27 => k_is); (case k27 => k_is); (case a28 => k_is); (case l28 => k_is); (case c28 => k_is); (case k28 => k_is); (case a29 => k_is); (case l29 => k_is); (case c29 => k_is); (case k29 => k_is); (case a30 => k_is); (case l30 => k_is); (case c30 => k_is); (case k30 => k_is); (case a31 => k_is); (case l31 => k_is); (case c31 => k_is); (case k31 => k_is); (case a32 => k_is); (case l32 => k_is); (case c32 => k_is); (case k32 => k_is); (case a33 => k_is); (case l33 => k_is); (case c33 => k_is); (case k33 => k_is); (case a34 => k_is); (case l34 => k_is); (case c34 => k_is); (case k34 => k_is); (case z_isinstance => k_is); (case z_int => k_is); (case z_bool => k_is); (case z_tuple => k_is); (case z_len => k_is); (case z_list => k_is); (case z_all => k_is); (case z_range => k_is); (case z_min => k_is); (case z_max => k_is); (case z_enumerate => k_is); (case z_reversed => k_is); (case z_str => k_is); (case z_ValueError => k_is); (case z_zip => k_is); (case y_MOST_PLACES_records => k_is); (case y_LAST_MOMENT => k_is); (case y_MOST_TIES => k_is); (case y_MOST_LAYERS_layers => k_is); (case y_MOST_PLACES_nets => k_is); (case y_MOST_LAYERS_nets => k_is); (case y_NOTHING => k_is); (case y_MOST_FIGURES => k_is); (case y_FIGURES => k_is); (case u1_NoNet => k_is); (case u2_NoNet => k_is); (case u3_NoNet => k_is); (case u4_NoNet => k_is); (case u5_NoNet => k_is); (case u6_NoNet => k_is); (case u7_NoNet => k_is); (case u8_NoNet => k_is); (case u9_NoNet => k_is); (case uQ_NoNet => k_exc); (case u1_NoText => k_is); (case u2_NoText => k_is); (case u3_NoText => k_is); (case u4_NoText => k_is); (case u5_NoText => k_is); (case u6_NoText => k_is); (case u7_NoText => k_is); (case u8_NoText => k_is); (case u9_NoText => k_is); (case uQ_NoText => k_exc); (case u1_PlyError => k_is); (case u2_PlyError => k_is); (case u3_PlyError => k_is); (case u4_PlyError => k_is); (case u5_PlyError => k_is); (case u6_PlyError => k_is); (case u7_PlyError => k_is); (case u8_PlyError => k_is); (case u9_PlyError => k_is); (case u1_NoTies => k_is); (case u2_NoTies => k_is); (case u3_NoTies => k_is); (case u4_NoTies => k_is); (case u5_NoTies => k_is); (case u6_NoTies => k_is); (case u7_NoTies => k_is); (case u8_NoTies => k_is); (case u9_NoTies => k_is); (case u1_NoPlaces => k_is); (case u2_NoPlaces => k_is); (case u3_NoPlaces => k_is); (case u4_NoPlaces => k_is); (case u5_NoPlaces => k_is); (case u6_NoPlaces => k_is); (case u7_NoPlaces => k_is); (case u8_NoPlaces => k_is); (case u9_NoPlaces => k_is); (case u1_NoLayers => k_is); (case u2_NoLayers => k_is); (case u3_NoLayers => k_is); (case u4_NoLayers => k_is); (case u5_NoLayers => k_is); (case u6_NoLayers => k_is); (case u7_NoLayers => k_is); (case u8_NoLayers => k_is); (case u9_NoLayers => k_is); (case u1_Clash => k_is); (case u2_Clash => k_is); (case u3_Clash => k_is); (case u4_Clash => k_is); (case u5_Clash => k_is); (case u6_Clash => k_is); (case u7_Clash => k_is); (case u8_Clash => k_is); (case u9_Clash => k_is); (case un => k_is); (case ut => k_is); (case uS_NoText_PlyError => k_is); (case uS_NoNet_PlyError => k_is); (case uS_NoText_NoText => k_is); (case uS_NoNet_NoText => k_is); (case uS_NoNet_NoNet => k_is); (case uS_NoText_NoTies => k_is); (case uS_NoText_NoPlaces => k_is); (case uS_NoText_NoNet => k_is); (case uS_NoText_NoLayers => k_is); (case uS_NoText_Clash => k_is); (case uS_NoNet_NoTies => k_is); (case uS_NoNet_NoPlaces => k_is); (case uS_NoNet_NoLayers => k_is); (case uS_NoNet_Clash => k_is); (case uS_NoText_ValueError => k_is); (case uS_NoNet_ValueError => k_is)
