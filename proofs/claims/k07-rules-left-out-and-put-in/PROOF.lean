import PyProof.Rows.All
import Wide.All
import OpenK.AllK
import Wide.FinOn
import PySem.Challenge.RW_tightranges_k07_rules_left_out_and_put_i
import HandS.ForMost
import HandS.Exc
import HandS.Wide
import HandS.TupAny
import HandS.Text
import PyProof.ReprRoads
import HandS.Conv
import HandS.Codes
import HandS.Defaults
import HandS.Words
import HandS.Ends
import HandS.HeadEnd
import HandS.Walk
import HandS.Zip
import KE.GoesMore
import HandS.NoneIn
import HandS.Iter
import HandS.DictComp
import HandS.Property
import HandS.Style
import HandS.Star
import PyProof.Rows.StrMeet
import HandS.IsInst
import HandS.OwnEq
import HandS.More
import HandS.Steps
import KE.IntBitsLaws
import KE.KStateDown
import Lean
import HandS.WordsExc
import HandS.Head0
import HandS.Head1
import HandS.Head2
import HandS.HeadHook1
import HandS.HeadHook2
set_option Elab.async false
set_option linter.all false
set_option maxRecDepth 100000
section
set_option maxHeartbeats 200000
namespace Pv
open PySem PySem.Spec PyProof.Rows L2

/-- data without addresses -/
inductive D where
  | non | bl (b : Bool) | int (i : Int) | str (s : Str)
  | tup (l : List D) | lst (l : List D)
  | dct (l : List (Key × D))
  | ins (c : Str) (l : List (Str × D))
  | rng
  | scr (ns : List Int)

structure Rc where
  K : PySem.W.Frag
  cls : Str → Addr
  g : List Addr
def Rc.r (c : Rc) : Addr := c.g.headD 0

/-- a list that is never written: locked, or of the written part -/
def SqF (K : PySem.W.Frag) (H : Hp) (a : Addr) (xs : List V) : Prop := (∃ o, H a = some (.frz o (.lst xs))) ∨ ∃ (o : Obj) (its : Array Value) (n : Nat), K.lookup a = some o ∧ o.cls = .type "list" ∧ o.dict = none ∧ o.data = .seq its n ∧ its.size ≤ sizeLine ∧ Vals xs its.toList
theorem SqF.sq {K : PySem.W.Frag} {H : Hp} {a : Addr} {xs : List V} (h : SqF K H a xs) : SqL K H a xs := h.elim (fun h => .inl (.inr h)) .inr
mutual
def Rp (c : Rc) (A : Addr → Prop) (H : Hp) : D → V → Prop
  | .non, v => v = .non
  | .bl b, v => v = .bl b
  | .int i, v => v = .int i
  | .str s, v => v = .str s
  | .tup ds, v => ∃ a xs, v = .ref a ∧ SqT c.K H a xs ∧ Rps c A H ds xs
  | .lst ds, v => ∃ a xs, v = .ref a ∧ H a = some (.lst xs) ∧ ¬ A a ∧ ds.length ≤ sizeLine ∧ Rps c A H ds xs
  | .dct kvs, v => ∃ a ks, v = .ref a ∧ Rd H a (.dK ks) ∧ ¬ A a ∧ Rpk c A H kvs ks
  | .ins n fs, v => ∃ a dx gs, v = .ref a ∧ H a = some (.ins (c.cls n) dx gs) ∧ ¬ A a ∧ Rpf c A H fs gs
  | .rng, v => v = .ref c.r
  | .scr ns, v => ∃ a, v = .ref a ∧ SqF c.K H a (ns.map V.int)
def Rps (c : Rc) (A : Addr → Prop) (H : Hp) : List D → List V → Prop
  | [], vs => vs = []
  | d :: ds, vs => ∃ v ws, vs = v :: ws ∧ Rp c A H d v ∧ Rps c A H ds ws
def Rpk (c : Rc) (A : Addr → Prop) (H : Hp) : List (Key × D) → List (Key × V) → Prop
  | [], vs => vs = []
  | (k, d) :: ds, vs => ∃ v ws, vs = (k, v) :: ws ∧ Rp c A H d v ∧ Rpk c A H ds ws
def Rpf (c : Rc) (A : Addr → Prop) (H : Hp) : List (Str × D) → List (Str × V) → Prop
  | [], vs => vs = []
  | (k, d) :: ds, vs => ∃ v ws, vs = (k, v) :: ws ∧ Rp c A H d v ∧ Rpf c A H ds ws
end

/-! ### heaps that go on -/
def isT : HO → Prop
  | .tup _ => True
  | .frz _ _ => True
  | _ => False
/-- all that is tracked stays, but what stands at W (tuples stay there too) -/
def Ext (W : Addr → Prop) (H H' : Hp) : Prop := ∀ b o, H b = some o → (¬ W b ∨ isT o) → H' b = some o
theorem Ext.refl {W : Addr → Prop} {H : Hp} : Ext W H H := fun _ _ h _ => h
theorem Ext.trans {W : Addr → Prop} {H H1 H2 : Hp} (a : Ext W H H1) (b : Ext W H1 H2) : Ext W H H2 := fun c o h w => b c o (a c o h w) w
theorem Ext.more {W W' : Addr → Prop} {H H' : Hp} (a : Ext W H H') (h : ∀ b, W b → W' b) : Ext W' H H' := fun c o e w => a c o e (w.imp (fun n z => n (h c z)) id)
theorem Ext.new {W : Addr → Prop} {H : Hp} {p : Addr} {o : HO} (h : H p = none) : Ext W H (upd H p o) := fun b u e _ => by rw [upd_ne (ne_of_none e h)]; exact e
theorem Ext.same {W : Addr → Prop} {H H' : Hp} (s : Same H H') : Ext W H H' := fun b o e _ => s b o e
theorem Ext.put {W : Addr → Prop} {H : Hp} {p : Addr} {o u : HO} (w : W p) (h : H p = some u) (n : ¬ isT u) : Ext W H (upd H p o) := fun b v e z => by
  have hb : b ≠ p := fun q => by
    subst q
    rw [h] at e
    cases e
    exact z.elim (fun k => k w) n
  rw [upd_ne hb]; exact e
theorem Ext.rd {W : Addr → Prop} {H H' : Hp} (e : Ext W H H') {a : Addr} {u : HO} (h : Rd H a u) (n : ¬ W a) : Rd H' a u := h.imp (fun h => e a _ h (.inl n)) fun ⟨o, h⟩ => ⟨o, e a _ h (.inl n)⟩
theorem Ext.sqt {W : Addr → Prop} {K : PySem.W.Frag} {H H' : Hp} (e : Ext W H H') {a : Addr} {xs : List V} (h : SqT K H a xs) : SqT K H' a xs := by
  rcases h with (h | ⟨o, h⟩) | h
  · exact .inl (.inl (e a _ h (.inr trivial)))
  · exact .inl (.inr ⟨o, e a _ h (.inr trivial)⟩)
  · exact .inr h
theorem Ext.sqf {W : Addr → Prop} {K : PySem.W.Frag} {H H' : Hp} (e : Ext W H H') {a : Addr} {xs : List V} (h : SqF K H a xs) : SqF K H' a xs :=
  h.imp (fun ⟨o, h⟩ => ⟨o, e a _ h (.inr trivial)⟩) id
theorem Rd.there {H : Hp} {a : Addr} {u : HO} (h : Rd H a u) : H a ≠ none := fun z => by
  rcases h with h | ⟨o, h⟩ <;> rw [z] at h <;> cases h

section
variable {c : Rc} {A A' W : Addr → Prop} {H H' : Hp}
mutual
theorem Rp.mono (e : Ext W H H') (w : ∀ a, W a → A a) (n : ∀ a, A' a → A a ∨ H a = none) : ∀ (d : D) (v : V), Rp c A H d v → Rp c A' H' d v
  | .non, _, h => h
  | .bl _, _, h => h
  | .int _, _, h => h
  | .str _, _, h => h
  | .rng, _, h => h
  | .scr ns, _, h => by
    obtain ⟨a, e1, e2⟩ := h
    exact ⟨a, e1, e.sqf e2⟩
  | .tup ds, v, h => by
    obtain ⟨a, xs, e1, e2, e3⟩ := h
    exact ⟨a, xs, e1, e.sqt e2, Rps.mono e w n ds xs e3⟩
  | .lst ds, v, h => by
    obtain ⟨a, xs, e1, e2, e3, e5, e4⟩ := h
    exact ⟨a, xs, e1, e a _ e2 (.inl fun z => e3 (w a z)), (fun z => (n a z).elim e3 fun y => by (rw [y] at e2; cases e2)), e5, Rps.mono e w n ds xs e4⟩
  | .dct ds, v, h => by
    obtain ⟨a, xs, e1, e2, e3, e4⟩ := h
    exact ⟨a, xs, e1, e.rd e2 fun z => e3 (w a z), fun z => (n a z).elim e3 (Rd.there e2), Rpk.mono e w n ds xs e4⟩
  | .ins q ds, v, h => by
    obtain ⟨a, dx, xs, e1, e2, e3, e4⟩ := h
    exact ⟨a, dx, xs, e1, e a _ e2 (.inl fun z => e3 (w a z)), (fun z => (n a z).elim e3 fun y => by (rw [y] at e2; cases e2)), Rpf.mono e w n ds xs e4⟩
theorem Rps.mono (e : Ext W H H') (w : ∀ a, W a → A a) (n : ∀ a, A' a → A a ∨ H a = none) : ∀ (ds : List D) (vs : List V), Rps c A H ds vs → Rps c A' H' ds vs
  | [], _, h => h
  | d :: ds, vs, h => by
    obtain ⟨v, ws, e1, e2, e3⟩ := h
    exact ⟨v, ws, e1, Rp.mono e w n d v e2, Rps.mono e w n ds ws e3⟩
theorem Rpk.mono (e : Ext W H H') (w : ∀ a, W a → A a) (n : ∀ a, A' a → A a ∨ H a = none) : ∀ (ds : List (Key × D)) (vs : List (Key × V)), Rpk c A H ds vs → Rpk c A' H' ds vs
  | [], _, h => h
  | (k, d) :: ds, vs, h => by
    obtain ⟨v, ws, e1, e2, e3⟩ := h
    exact ⟨v, ws, e1, Rp.mono e w n d v e2, Rpk.mono e w n ds ws e3⟩
theorem Rpf.mono (e : Ext W H H') (w : ∀ a, W a → A a) (n : ∀ a, A' a → A a ∨ H a = none) : ∀ (ds : List (Str × D)) (vs : List (Str × V)), Rpf c A H ds vs → Rpf c A' H' ds vs
  | [], _, h => h
  | (k, d) :: ds, vs, h => by
    obtain ⟨v, ws, e1, e2, e3⟩ := h
    exact ⟨v, ws, e1, Rp.mono e w n d v e2, Rpf.mono e w n ds ws e3⟩
end
theorem Rp.ext (e : Ext W H H') (w : ∀ a, W a → A a) {d : D} {v : V} (h : Rp c A H d v) : Rp c A H' d v := Rp.mono e w (fun _ z => .inl z) d v h
theorem Rps.ext (e : Ext W H H') (w : ∀ a, W a → A a) {d : List D} {v : List V} (h : Rps c A H d v) : Rps c A H' d v := Rps.mono e w (fun _ z => .inl z) d v h
theorem Rps.length : ∀ {ds : List D} {vs : List V}, Rps c A H ds vs → vs.length = ds.length
  | [], vs, h => by have h : vs = [] := h; rw [h]; rfl
  | d :: ds, vs, h => by
    obtain ⟨v, ws, e1, e2, e3⟩ := h
    rw [e1, List.length_cons, List.length_cons, Rps.length e3]
theorem Rps.get : ∀ {ds : List D} {vs : List V} {i : Nat} {v : V}, Rps c A H ds vs → vs[i]? = some v → ∃ d, ds[i]? = some d ∧ Rp c A H d v
  | [], _, i, v, h, e => by have h : _ = [] := h; rw [h] at e; simp at e
  | d :: ds, vs, i, v, h, e => by
    obtain ⟨w, ws, e1, e2, e3⟩ := h
    subst e1
    cases i with
    | zero => simp at e; subst e; exact ⟨d, rfl, e2⟩
    | succ i => exact Rps.get (i := i) e3 (by simpa using e)
theorem Rps.getD : ∀ {ds : List D} {vs : List V} {i : Nat} {d : D}, Rps c A H ds vs → ds[i]? = some d → ∃ v, vs[i]? = some v ∧ Rp c A H d v
  | [], _, i, v, h, e => by simp at e
  | d :: ds, vs, i, v, h, e => by
    obtain ⟨w, ws, e1, e2, e3⟩ := h
    subst e1
    cases i with
    | zero => simp at e; subst e; exact ⟨w, rfl, e2⟩
    | succ i => exact Rps.getD (i := i) e3 (by simpa using e)
theorem Rps.append : ∀ {ds es : List D} {vs ws : List V}, Rps c A H ds vs → Rps c A H es ws → Rps c A H (ds ++ es) (vs ++ ws)
  | [], _, vs, _, h, k => by have h : vs = [] := h; rw [h]; exact k
  | d :: ds, es, vs, ws, h, k => by
    obtain ⟨w, us, e1, e2, e3⟩ := h
    subst e1
    exact ⟨w, us ++ ws, rfl, e2, Rps.append e3 k⟩
theorem Rps.one {d : D} {v : V} (h : Rp c A H d v) : Rps c A H [d] [v] := ⟨v, [], rfl, h, rfl⟩
theorem Rps.cons {d : D} {v : V} {ds : List D} {vs : List V} (h : Rp c A H d v) (k : Rps c A H ds vs) : Rps c A H (d :: ds) (v :: vs) := ⟨v, vs, rfl, h, k⟩
theorem Rps.take : ∀ {ds : List D} {vs : List V} (n : Nat), Rps c A H ds vs → Rps c A H (ds.take n) (vs.take n)
  | [], vs, n, h => by have h : vs = [] := h; rw [h]; simp; exact rfl
  | d :: ds, vs, 0, h => by simp; exact rfl
  | d :: ds, vs, n + 1, h => by
    obtain ⟨w, us, e1, e2, e3⟩ := h
    subst e1
    exact ⟨w, us.take n, rfl, e2, Rps.take n e3⟩
theorem Rps.drop : ∀ {ds : List D} {vs : List V} (n : Nat), Rps c A H ds vs → Rps c A H (ds.drop n) (vs.drop n)
  | [], vs, n, h => by have h : vs = [] := h; rw [h]; simp; exact rfl
  | d :: ds, vs, 0, h => by simpa using h
  | d :: ds, vs, n + 1, h => by
    obtain ⟨w, us, e1, e2, e3⟩ := h
    subst e1
    exact Rps.drop n e3
theorem Rps.reverse {ds : List D} {vs : List V} (h : Rps c A H ds vs) : Rps c A H ds.reverse vs.reverse := by
  induction ds generalizing vs with
  | nil => have h : vs = [] := h; rw [h]; exact rfl
  | cons d ds ih =>
    obtain ⟨w, us, e1, e2, e3⟩ := h
    subst e1
    rw [List.reverse_cons, List.reverse_cons]
    exact (ih e3).append (.one e2)
theorem Rps.set : ∀ {ds : List D} {vs : List V} (i : Nat) {d : D} {v : V}, Rps c A H ds vs → Rp c A H d v → Rps c A H (ds.set i d) (vs.set i v)
  | [], vs, i, d, v, h, k => by have h : vs = [] := h; rw [h]; simp; exact rfl
  | e :: ds, vs, 0, d, v, h, k => by
    obtain ⟨w, us, e1, e2, e3⟩ := h
    subst e1
    exact ⟨v, us, rfl, k, e3⟩
  | e :: ds, vs, i + 1, d, v, h, k => by
    obtain ⟨w, us, e1, e2, e3⟩ := h
    subst e1
    exact ⟨w, us.set i v, rfl, e2, Rps.set i e3 k⟩
theorem Rps.eraseIdx : ∀ {ds : List D} {vs : List V} (i : Nat), Rps c A H ds vs → Rps c A H (ds.eraseIdx i) (vs.eraseIdx i)
  | [], vs, i, h => by have h : vs = [] := h; rw [h]; simp; exact rfl
  | e :: ds, vs, 0, h => by
    obtain ⟨w, us, e1, e2, e3⟩ := h
    subst e1
    exact e3
  | e :: ds, vs, i + 1, h => by
    obtain ⟨w, us, e1, e2, e3⟩ := h
    subst e1
    exact ⟨w, us.eraseIdx i, rfl, e2, Rps.eraseIdx i e3⟩
end

/-! ### data as the library's data: == -/
mutual
def toP : D → PyData
  | .non => .none
  | .bl b => .bool b
  | .int i => .int i
  | .str s => .str s
  | .tup l => .tuple (toPs l)
  | .lst l => .list (toPs l)
  | _ => .dict []
def toPs : List D → List PyData
  | [] => []
  | d :: ds => toP d :: toPs ds
end
mutual
def pureD : D → Bool
  | .non => true
  | .bl _ => true
  | .int _ => true
  | .str s => PyData.canLay0 (.str s)
  | .tup l => pureDs l
  | .lst l => pureDs l
  | _ => false
def pureDs : List D → Bool
  | [] => true
  | d :: ds => pureD d && pureDs ds
end
def okEq (d : D) : Bool := pureD d && decide ((toP d).depth ≤ 64)
mutual
theorem canLay_of_pure : ∀ d, pureD d = true → (toP d).canLay0 = true
  | .non, _ => by simp [toP, PyData.canLay0]
  | .bl _, _ => by simp [toP, PyData.canLay0]
  | .int _, _ => by simp [toP, PyData.canLay0]
  | .str s, h => by simpa [toP, pureD] using h
  | .tup l, h => by simpa [toP, PyData.canLay0] using canLays_of_pure l (by simpa [pureD] using h)
  | .lst l, h => by simpa [toP, PyData.canLay0] using canLays_of_pure l (by simpa [pureD] using h)
  | .dct _, h => by simp [pureD] at h
  | .ins _ _, h => by simp [pureD] at h
  | .rng, h => by simp [pureD] at h
  | .scr _, h => by simp [pureD] at h
theorem canLays_of_pure : ∀ ds, pureDs ds = true → PyData.canLayAll0 (toPs ds) = true
  | [], _ => by simp [toPs, PyData.canLayAll0]
  | d :: ds, h => by
    have h : (pureD d && pureDs ds) = true := by simpa [pureDs] using h
    rw [Bool.and_eq_true] at h
    simp [toPs, PyData.canLayAll0, canLay_of_pure d h.1, canLays_of_pure ds h.2]
end
theorem shaped_of_okEq {d : D} (h : okEq d = true) : SeqAt.shaped (toP d) = true := by
  unfold okEq at h
  rw [Bool.and_eq_true] at h
  unfold SeqAt.shaped
  rw [canLay_of_pure d h.1, h.2]
  rfl
section
variable {c : Rc} {A : Addr → Prop} {H : Hp}
mutual
theorem Rp.dp : ∀ (d : D) (v : V), Rp c A H d v → pureD d = true → Dp c.K H v (toP d)
  | .non, v, h, _ => by have h : v = .non := h; rw [h]; exact .non
  | .bl b, v, h, _ => by have h : v = .bl b := h; rw [h]; exact .bl b
  | .int b, v, h, _ => by have h : v = .int b := h; rw [h]; exact .int b
  | .str b, v, h, _ => by have h : v = .str b := h; rw [h]; exact .str b
  | .tup l, v, h, p => by
    obtain ⟨a, xs, e1, e2, e3⟩ := h
    rw [e1]
    exact .tup e2 (Rps.dp l xs e3 (by simpa [pureD] using p))
  | .lst l, v, h, p => by
    obtain ⟨a, xs, e1, e2, e3, e5, e4⟩ := h
    rw [e1]
    exact .lst (.inl (.inl e2)) (Rps.dp l xs e4 (by simpa [pureD] using p))
  | .dct _, _, _, h => by simp [pureD] at h
  | .ins _ _, _, _, h => by simp [pureD] at h
  | .rng, _, _, h => by simp [pureD] at h
  | .scr _, _, _, h => by simp [pureD] at h
theorem Rps.dp : ∀ (ds : List D) (vs : List V), Rps c A H ds vs → pureDs ds = true → DpAll c.K H vs (toPs ds)
  | [], vs, h, _ => by have h : vs = [] := h; rw [h]; exact .nil
  | d :: ds, vs, h, p => by
    obtain ⟨w, us, e1, e2, e3⟩ := h
    subst e1
    have p : (pureD d && pureDs ds) = true := by simpa [pureDs] using p
    rw [Bool.and_eq_true] at p
    exact .cons (Rp.dp d w e2 p.1) (Rps.dp ds us e3 p.2)
end
end
end Pv
end
section
set_option maxHeartbeats 200000
namespace Pv
open PySem PySem.Spec PyProof.Rows L2

/-! ### results -/
inductive Res (S α : Type) where
  | ok (a : α) (s : S)
  | er (c : Str) (d : D) (s : S)
  | bad
def M (S α : Type) : Type := S → Res S α
section
variable {S α β : Type}
@[inline] def M.pure (a : α) : M S α := fun s => .ok a s
@[inline] def M.bind (m : M S α) (f : α → M S β) : M S β := fun s => match m s with
  | .ok a s' => f a s'
  | .er c d s' => .er c d s'
  | .bad => .bad
instance : Monad (M S) where
  pure := M.pure
  bind := M.bind
def bad : M S α := fun _ => .bad
def opt : Option α → M S α
  | some a => Pure.pure a
  | none => bad
theorem bind_def (m : M S α) (f : α → M S β) (s : S) : (m >>= f) s = (match m s with | .ok a s' => f a s' | .er c d s' => .er c d s' | .bad => .bad) := rfl
theorem pure_def (a : α) (s : S) : (Pure.pure a : M S α) s = .ok a s := rfl
@[simp] theorem pure_bind' (a : α) (f : α → M S β) : (Pure.pure a >>= f) = f a := rfl
@[simp] theorem bad_bind (f : α → M S β) : (bad >>= f) = bad := rfl
@[simp] theorem opt_some (a : α) : (opt (some a) : M S α) = Pure.pure a := rfl
@[simp] theorem opt_none : (opt none : M S α) = bad := rfl
@[simp] theorem bind_assoc' {γ : Type} (m : M S α) (f : α → M S β) (g : β → M S γ) : ((m >>= f) >>= g) = m >>= fun a => f a >>= g := by
  funext s
  simp only [bind_def]
  cases m s <;> rfl
@[simp] theorem bind_pure' (m : M S α) : (m >>= Pure.pure) = m := by
  funext s
  simp only [bind_def]
  cases m s <;> rfl
end

/-! ### operators by values -/
def mulOk (i j : Int) : Bool := decide (i.natAbs < 2 ^ 64) || decide (j.natAbs < 2 ^ 64) || decide (i.natAbs.log2 + j.natAbs.log2 < 1000000)
def powOk (i j : Int) : Bool := decide (0 ≤ j ∧ j ≤ 1000000 ∧ i.natAbs < 2 ^ 64)
def opBin : Operator → D → D → Option D
  | .Add, .int i, .int j => some (.int (i + j))
  | .Add, .str a, .str b => if a.length + b.length ≤ sizeLine then some (.str (a ++ b)) else none
  | .Add, .lst a, .lst b => if a.length + b.length ≤ sizeLine then some (.lst (a ++ b)) else none
  | .Sub, .int i, .int j => some (.int (i - j))
  | .Mult, .int i, .int j => if mulOk i j then some (.int (i * j)) else none
  | .Mult, .lst a, .int k => if -(2 ^ 63) ≤ k ∧ k < 2 ^ 63 ∧ a.length * k.toNat ≤ sizeLine then some (.lst (List.replicate k.toNat a).flatten) else none
  | .FloorDiv, .int i, .int j => if 0 < j ∧ j.natAbs.log2 < 9000 then some (.int (i / j)) else none
  | .Mod, .int i, .int j => if 0 < j then some (.int (i % j)) else none
  | .Pow, .int i, .int j => if powOk i j then some (.int (i ^ j.toNat)) else none
  | _, _, _ => none
def toV : D → V
  | .bl b => .bl b
  | .int i => .int i
  | .str s => .str s
  | _ => .non
def flatD : D → Bool
  | .non => true
  | .bl _ => true
  | .int _ => true
  | .str _ => true
  | _ => false
def inD (x : D) (ys : List D) : Option Bool := if flatD x && ys.all flatD then some (inV (toV x) (ys.map toV)) else none
def inSub (a b : Str) : Bool := !(Builtin.Str.occurrences b a 0 b.length 1).isEmpty
def isNon : D → Bool
  | .non => true
  | _ => false
def opCmp : CmpOp → D → D → Option Bool
  | .Eq, .str a, .str b => some (decide (a = b))
  | .NotEq, .str a, .str b => some (!decide (a = b))
  | .Eq, a, b => if okEq a && okEq b then some (PyData.eqv (toP a) (toP b)) else none
  | .NotEq, a, b => if okEq a && okEq b then some (!PyData.eqv (toP a) (toP b)) else none
  | .Lt, .int i, .int j => some (decide (i < j))
  | .LtE, .int i, .int j => some (decide (i ≤ j))
  | .Gt, .int i, .int j => some (decide (j < i))
  | .GtE, .int i, .int j => some (decide (j ≤ i))
  | .Is, a, .non => some (isNon a)
  | .IsNot, a, .non => some (!isNon a)
  | .In, x, .lst ys => inD x ys
  | .In, x, .tup ys => inD x ys
  | .In, .str a, .str b => some (inSub a b)
  | .NotIn, x, .lst ys => (inD x ys).map (!·)
  | .NotIn, x, .tup ys => (inD x ys).map (!·)
  | .NotIn, .str a, .str b => some (!inSub a b)
  | _, _, _ => none
def keyOf : D → Option Key
  | .int i => some (.inl i)
  | .str z => some (.inr z)
  | _ => none
def keyD : Key → D
  | .inl i => .int i
  | .inr z => .str z
def valD (kvs : List (Key × D)) (k : Key) : Option D := (kvs.find? fun kv => decide (kv.1 = k)).map (·.2)
def putD (kvs : List (Key × D)) (k : Key) (d : D) : List (Key × D) :=
  if (kvs.any fun kv => decide (kv.1 = k)) = true then kvs.map (fun kv => if kv.1 = k then (kv.1, d) else kv) else kvs ++ [(k, d)]
def opIdx : D → D → Option D
  | .lst l, .int i => atI l i
  | .tup l, .int i => atI l i
  | .dct kvs, k => (keyOf k).bind (valD kvs)
  | _, _ => none
/-- texts in order -/
def insS (x : Str) : List Str → List Str
  | [] => [x]
  | y :: ys => if ltCps y.cps.toList x.cps.toList = true then y :: insS x ys else x :: y :: ys
def srtS : List Str → List Str
  | [] => []
  | x :: xs => insS x (srtS xs)
def strsOf : List D → Option (List Str)
  | [] => some []
  | .str z :: r => (strsOf r).map (z :: ·)
  | _ :: _ => none
def keysOf : List (Key × D) → Option (List Str)
  | [] => some []
  | (.inr z, _) :: r => (keysOf r).map (z :: ·)
  | _ :: _ => none
def srtD : D → Option D
  | .lst l => (strsOf l).bind fun zs => if zs.length < 64 then some (.lst ((srtS zs).map D.str)) else none
  | .dct l => (keysOf l).bind fun zs => if zs.length < 64 then some (.lst ((srtS zs).map D.str)) else none
  | _ => none
/-- a text's signs -/
def charsD (z : Str) : List D := z.cps.toList.map fun c => .str ⟨#[c]⟩
def enumL : Nat → List D → List D
  | _, [] => []
  | n, d :: ds => .tup [.int n, d] :: enumL (n + 1) ds
def zipL (l m : List D) : List D := List.zipWith (fun a b => .tup [a, b]) l m
def opZip : D → D → Option (List D)
  | .lst l, .lst m => some (zipL l m)
  | .tup l, .tup m => some (zipL l m)
  | _, _ => none
inductive Bi where
  | len | int | abs | max | min | list | tuple | all | repr | sorted | dict
deriving DecidableEq
/-- the pairs of a list, put one after another -/
def pairsD : List D → List (Key × D) → Option (List (Key × D))
  | [], acc => some acc
  | .tup [k, d] :: r, acc => (keyOf k).bind fun k => pairsD r (putD acc k d)
  | _ :: _, _ => none
def dofD : D → Option D
  | .dct l => some (.dct l)
  | .lst l => (pairsD l []).map .dct
  | _ => none
def intsOf : List D → Option (List Int)
  | [] => some []
  | .int i :: r => (intsOf r).map (i :: ·)
  | _ :: _ => none
def maxI : List Int → Option Int
  | [] => none
  | i :: r => some (r.foldl (fun a b => if b > a then b else a) i)
def minI : List Int → Option Int
  | [] => none
  | i :: r => some (r.foldl (fun a b => if b < a then b else a) i)
def boolsOf : List D → Option (List Bool)
  | [] => some []
  | .bl b :: r => (boolsOf r).map (b :: ·)
  | _ :: _ => none
/-- what repr may show -/
def reprOk (d : D) : Bool := pureD d && (PyData.showable (toP d) && (!PyData.hasDict (toP d) && (decide ((toP d).depth ≤ 60) && decide ((PyData.shown (toP d)).length ≤ sizeLine))))
def opBi : Bi → List D → Option D
  | .repr, [.lst l] => if reprOk (.lst l) then some (.str (PyData.shown (toP (.lst l)))) else none
  | .repr, [.tup l] => if reprOk (.tup l) then some (.str (PyData.shown (toP (.tup l)))) else none
  | .len, [.lst l] => some (.int l.length)
  | .len, [.tup l] => some (.int l.length)
  | .len, [.scr l] => some (.int l.length)
  | .len, [.str s] => if s.length ≤ sizeLine then some (.int s.length) else none
  | .int, [.int i] => some (.int i)
  | .int, [.bl b] => some (.int (if b then 1 else 0))
  | .abs, [.int i] => some (.int (if i < 0 then -i else i))
  | .max, [.int i, .int j] => some (.int (if j > i then j else i))
  | .min, [.int i, .int j] => some (.int (if j < i then j else i))
  | .max, [.lst l] => (intsOf l).bind fun ns => (maxI ns).map D.int
  | .min, [.lst l] => (intsOf l).bind fun ns => (minI ns).map D.int
  | .list, [.lst l] => some (.lst l)
  | .list, [.tup l] => if l.length ≤ sizeLine then some (.lst l) else none
  | .tuple, [.lst l] => some (.tup l)
  | .tuple, [.tup l] => some (.tup l)
  | .sorted, [x] => srtD x
  | .dict, [x] => dofD x
  | .all, [.lst l] => (boolsOf l).map fun bs => .bl (bs.all id)
  | _, _ => none

/-! ### the inner language -/
/-- a target: a name, names of a tuple, a name and names of a tuple in it -/
inductive Tg where
  | nm (i : Nat) | tu (is : List Nat) | nt (i : Nat) (is : List Nat)
deriving DecidableEq
def Tg.slots : Tg → List Nat
  | .nm i => [i]
  | .tu is => is
  | .nt i is => i :: is
inductive IE where
  | var (i : Nat) | bor (i : Nat)
  | cst (d : D)
  | glb (k : Nat)
  | neg (a : IE) | not (a : IE)
  | bin (o : Operator) (a b : IE)
  | cmp (o : CmpOp) (a b : IE)
  | chn (o1 o2 : CmpOp) (a b c : IE)
  | and (a b : IE) | or (a b : IE)
  | ite (c a b : IE)
  | tup (es : List IE) | lst (es : List IE)
  | idx (a i : IE)
  | call (f : Nat) (fr : Bool) (es : List IE)
  | callK (f : Nat) (fr : Bool) (pos : List IE) (kws : List IE) (perm : List Nat)
  | bi (f : Bi) (es : List IE)
  | lc (i : Nat) (src : IE) (body : IE)
  | lci (i : Nat) (src : IE) (cond : IE) (body : IE)
  | lrng (a b : IE)
  | lcr (i : Nat) (a b cond body : IE)
  | slc (bl bh : Bool) (a lo hi : IE)
  | enm (e : IE) | zip (a b : IE) | chs (e : IE)
  | lcg (tg : Tg) (src c body : IE)
  | fld (c : Str) (a : IE) (n : Str)
  | mth (f : Nat) (fr : Bool) (cl m : Str) (a : IE) (es : List IE)
  | mthK (f : Nat) (fr : Bool) (cl m : Str) (a : IE) (kws : List IE) (perm : List Nat)
  | prp (f : Nat) (fr : Bool) (cl : Str) (a : IE)
  | ctor (f : Nat) (es : List IE)
  | ctorK (f : Nat) (kws : List IE) (perm : List Nat)
  | lenO (f : Nat) (cl : Str) (a : IE)
  | eqO (f : Nat) (cl : Str) (a b : IE)
  | rev (e : IE)
  | tupS (st : List Bool) (es : List IE) | lstS (st : List Bool) (es : List IE)
  | dnew | dc (tg : Tg) (src k v : IE) | dlit (ks : List Key) (vs : List IE)
  | dgt (d k x : IE)
  | isi (a : IE) (c : Str)

/-- how far a value is known: read alone, whole, new -/
inductive Md where
  | rp | bor | fr
deriving DecidableEq
def md : IE → Md
  | .bor _ => .bor
  | .lst _ => .fr
  | .lc _ _ _ => .fr
  | .lci _ _ _ _ => .fr
  | .lrng _ _ => .fr
  | .lcr _ _ _ _ _ => .fr
  | .slc _ _ _ _ _ => .fr
  | .bin .Add _ _ => .fr
  | .bin .Mult _ _ => .fr
  | .bi .list _ => .fr
  | .bi .sorted _ => .fr
  | .bi .dict _ => .fr
  | .call _ true _ => .fr
  | .callK _ true _ _ _ => .fr
  | .lcg _ _ _ _ => .fr
  | .mth _ true _ _ _ _ => .fr
  | .mthK _ true _ _ _ _ _ => .fr
  | .prp _ true _ _ => .fr
  | .rev _ => .fr
  | .lstS _ _ => .fr
  | .dnew => .fr
  | .dc _ _ _ _ => .fr
  | .dlit _ _ => .fr
  | _ => .rp
/-- a slot: data; whole | lent by the caller, read alone | the def's own, held by a loop | the def's own -/
inductive Fl where
  | frz | lent | held | own
deriving DecidableEq
abbrev IEnv := List (Option (D × Fl))
/-- a def of the module; a class's __init__; a method; a property -/
inductive Kd where
  | fn | ini | mth | prp
deriving DecidableEq
structure Sig where
  lend : List Bool
  fr : Bool := false
  kd : Kd := .fn
  cl : Str := ""
structure Gm (S : Type) where
  fns : List (List D → M S D)
  cons : List D := []
section
variable {S : Type} (Γ : Gm S)
def truth : D → M S Bool
  | .bl b => pure b
  | _ => bad
/-- a slot that holds no object of the def's own -/
def okSlot (env : IEnv) (i : Nat) : Bool := match (env[i]?).join with
  | some (_, .held) => false
  | some (_, .own) => false
  | _ => true
def getI (env : IEnv) (i : Nat) : Option (D × Fl) := (env[i]?).join
def callF (f : Nat) (ds : List D) : M S D := match Γ.fns[f]? with
  | some F => F ds
  | none => bad
/-- nothing may be raised within -/
def calm {α : Type} (m : M S α) : M S α := fun s => match m s with
  | .ok a s' => .ok a s'
  | _ => .bad
def mapL (f : D → M S D) : List D → M S (List D)
  | [] => pure []
  | d :: ds => do
    let x ← f d
    let r ← mapL f ds
    pure (x :: r)
def filtL (p : D → M S Bool) (f : D → M S D) : List D → M S (List D)
  | [] => pure []
  | d :: ds => do
    let b ← p d
    if b = true then do
      let x ← f d
      let r ← filtL p f ds
      pure (x :: r)
    else filtL p f ds
def seqOf : D → Option (List D)
  | .lst l => some l
  | .tup l => if l.length ≤ sizeLine then some l else none
  | _ => none
def put (env : IEnv) (i : Nat) (d : D) (f : Fl) : IEnv := env.set i (some (d, f))
def puts (env : IEnv) : List Nat → List D → IEnv
  | i :: is, d :: ds => puts (put env i d .frz) is ds
  | _, _ => env
/-- the data that the slots get -/
def flatT : Tg → D → Option (List D)
  | .nm _, d => some [d]
  | .tu is, .tup l => if is.length = l.length then some l else none
  | .tu is, .lst l => if is.length = l.length then some l else none
  | .nt _ is, .tup [d, .tup l] => if is.length = l.length then some (d :: l) else none
  | _, _ => none
def bindT (tg : Tg) (d : D) (env : IEnv) : Option IEnv := (flatT tg d).map (puts env tg.slots)
def chsM : D → M S D
  | .str z => pure (.tup (charsD z))
  | _ => bad
def okSlots (env : IEnv) (is : List Nat) : Bool := is.all (okSlot env)
/-- the items, those of the starred ones spread -/
def spread : List Bool → List D → Option (List D)
  | [], [] => some []
  | true :: bs, .lst l :: ds => (spread bs ds).map (l ++ ·)
  | true :: bs, .tup l :: ds => (spread bs ds).map (l ++ ·)
  | false :: bs, d :: ds => (spread bs ds).map (d :: ·)
  | _, _ => none
def spreadOk (st : List Bool) (ds : List D) : Option (List D) := (spread st ds).bind fun l => if l.length ≤ sizeLine then some l else none
/-- the pairs of a comprehension, one after another -/
def dcL (f : D → M S (D × D)) : List D → List (Key × D) → M S (List (Key × D))
  | [], acc => pure acc
  | d :: ds, acc => do
    let p ← f d
    let k ← opt (keyOf p.1)
    dcL f ds (putD acc k p.2)
def onT (tg : Tg) (d : D) (env : IEnv) {α : Type} (m : IEnv → M S α) : M S α := match bindT tg d env with
  | some e => m e
  | none => bad
def dlitD (ks : List Key) (ds : List D) : D := .dct ((ks.zip ds).foldl (fun acc p => putD acc p.1 p.2) [])
def insC (cl : Str) : D → Bool
  | .ins c _ => decide (c = cl)
  | _ => false
/-- an instance of the class without an attribute of that name -/
def insM (cl m : Str) : D → Bool
  | .ins c fs => decide (c = cl) && decide (fs.lookup m = none)
  | _ => false
def isiD (c : Str) : D → Option Bool
  | .ins n _ => if n = c then some true else none
  | .rng => none
  | .scr _ => none
  | _ => some false
def rngL (a b : Int) : List D := (List.range (b - a).toNat).map fun i => D.int (a + (i : Nat))
/-- the items of a slice -/
def cutD {α : Type} (l : List α) (lo hi : Option Int) : List α := (l.drop (HT.sIx l.length 0 lo)).take (HT.sIx l.length l.length hi - HT.sIx l.length 0 lo)
def opSl : D → Option Int → Option Int → Option D
  | .lst l, lo, hi => some (.lst (cutD l lo hi))
  | .scr ns, lo, hi => if ns.length ≤ sizeLine then some (.lst ((cutD ns lo hi).map D.int)) else none
  | .tup l, lo, hi => some (.tup (cutD l lo hi))
  | .str z, lo, hi => if z.length ≤ sizeLine then some (.str (cutS z lo hi)) else none
  | _, _, _ => none
def evPart (b : Bool) (m : M S D) : M S (Option Int) := if b = true then do
    let d ← m
    match d with
    | .int i => pure (some i)
    | _ => bad
  else pure none
def rngOf : D → D → Option (Int × Int)
  | .int i, .int j => if -(2 ^ 62) ≤ i ∧ i < 2 ^ 62 ∧ -(2 ^ 62) ≤ j ∧ j < 2 ^ 62 ∧ (j - i).toNat ≤ 16777216 then some (i, j) else none
  | _, _ => none
mutual
def ev : IE → IEnv → M S D
  | .var i, env => match getI env i with
    | some (d, .frz) => pure d
    | _ => bad
  | .bor i, env => match getI env i with
    | some (d, _) => pure d
    | none => bad
  | .cst d, _ => pure d
  | .glb k, _ => opt (Γ.cons[k]?)
  | .neg a, env => do
    let x ← ev a env
    match x with
    | .int i => pure (.int (-i))
    | _ => bad
  | .not a, env => do
    let b ← ev a env >>= truth
    pure (.bl (!b))
  | .bin o a b, env => do
    let x ← ev a env
    let y ← ev b env
    opt (opBin o x y)
  | .cmp o a b, env => do
    let x ← ev a env
    let y ← ev b env
    let r ← opt (opCmp o x y)
    pure (.bl r)
  | .chn o1 o2 a b c, env => do
    let x ← ev a env
    let y ← ev b env
    let r ← opt (opCmp o1 x y)
    if r = true then do
      let z ← ev c env
      let q ← opt (opCmp o2 y z)
      pure (.bl q)
    else pure (.bl false)
  | .and a b, env => do
    let x ← ev a env >>= truth
    if x = true then ev b env else pure (.bl false)
  | .or a b, env => do
    let x ← ev a env >>= truth
    if x = true then pure (.bl true) else ev b env
  | .ite c a b, env => do
    let x ← ev c env >>= truth
    if x = true then ev a env else ev b env
  | .tup es, env => do
    let ds ← evs es env
    pure (.tup ds)
  | .lst es, env => do
    let ds ← evs es env
    pure (.lst ds)
  | .idx a i, env => do
    let x ← ev a env
    let y ← ev i env
    opt (opIdx x y)
  | .call f _ es, env => do
    let ds ← evs es env
    callF Γ f ds
  | .callK f _ es ks perm, env => do
    let ds ← evs es env
    let kd ← evs ks env
    callF Γ f (ds ++ perm.filterMap fun i => kd[i]?)
  | .bi f es, env => do
    let ds ← evs es env
    opt (opBi f ds)
  | .lc i src body, env => do
    let x ← ev src env
    let l ← opt (seqOf x)
    if okSlot env i = true then do
      let r ← calm (mapL (fun d => ev body (put env i d .frz)) l)
      pure (.lst r)
    else bad
  | .lci i src cond body, env => do
    let x ← ev src env
    let l ← opt (seqOf x)
    if okSlot env i = true then do
      let r ← calm (filtL (fun d => ev cond (put env i d .frz) >>= truth) (fun d => ev body (put env i d .frz)) l)
      pure (.lst r)
    else bad
  | .lrng a b, env => do
    let x ← ev a env
    let y ← ev b env
    match x, y with
    | .int i, .int j => if -(2 ^ 62) ≤ i ∧ i < 2 ^ 62 ∧ -(2 ^ 62) ≤ j ∧ j < 2 ^ 62 ∧ (j - i).toNat ≤ 16777216 then pure (.lst (rngL i j)) else bad
    | _, _ => bad
  | .lcr i a b cond body, env => do
    let x ← ev a env
    let y ← ev b env
    let l ← opt (rngOf x y)
    if okSlot env i = true then do
      let r ← calm (filtL (fun d => ev cond (put env i d .frz) >>= truth) (fun d => ev body (put env i d .frz)) (rngL l.1 l.2))
      pure (.lst r)
    else bad
  | .slc bl bh a lo hi, env => do
    let x ← ev a env
    let l ← evPart bl (ev lo env)
    let u ← evPart bh (ev hi env)
    opt (opSl x l u)
  | .enm e, env => do
    let x ← ev e env
    let l ← opt (seqOf x)
    pure (.tup (enumL 0 l))
  | .chs e, env => do
    let x ← ev e env
    chsM x
  | .zip a b, env => do
    let x ← ev a env
    let y ← ev b env
    opt ((opZip x y).map .tup)
  | .lcg tg src c body, env => do
    let x ← ev src env
    let l ← opt (seqOf x)
    if okSlots env tg.slots = true then do
      let r ← calm (filtL (fun d => onT tg d env fun e => ev c e >>= truth) (fun d => onT tg d env fun e => ev body e) l)
      pure (.lst r)
    else bad
  | .fld c a n, env => do
    let x ← ev a env
    match x with
    | .ins q fs => if q = c then opt (fs.lookup n) else bad
    | _ => bad
  | .mth f _ cl m a es, env => do
    let x ← ev a env
    if insM cl m x = true then do
      let ds ← evs es env
      callF Γ f (x :: ds)
    else bad
  | .mthK f _ cl m a ks perm, env => do
    let x ← ev a env
    if insM cl m x = true then do
      let kd ← evs ks env
      callF Γ f (x :: perm.filterMap fun i => kd[i]?)
    else bad
  | .prp f _ cl a, env => do
    let x ← ev a env
    if insC cl x = true then callF Γ f [x] else bad
  | .ctor f es, env => do
    let ds ← evs es env
    callF Γ f ds
  | .ctorK f ks perm, env => do
    let kd ← evs ks env
    callF Γ f (perm.filterMap fun i => kd[i]?)
  | .lenO f cl a, env => do
    let x ← ev a env
    if insC cl x = true then do
      let r ← callF Γ f [x]
      match r with
      | .int n => if 0 ≤ n ∧ n < 2 ^ 63 then pure (.int n) else bad
      | _ => bad
    else bad
  | .eqO f cl a b, env => do
    let x ← ev a env
    let y ← ev b env
    if insC cl x = true ∧ insC cl y = true then do
      let r ← callF Γ f [x, y] >>= truth
      pure (.bl r)
    else bad
  | .rev e, env => do
    let x ← ev e env
    match x with
    | .lst l => pure (.lst l.reverse)
    | _ => bad
  | .tupS st es, env => do
    let ds ← evs es env
    let l ← opt (spreadOk st ds)
    pure (.tup l)
  | .lstS st es, env => do
    let ds ← evs es env
    let l ← opt (spreadOk st ds)
    pure (.lst l)
  | .dnew, _ => pure (.dct [])
  | .dc tg src k v, env => do
    let x ← ev src env
    let l ← opt (seqOf x)
    if okSlots env tg.slots = true then do
      let r ← calm (dcL (fun d => onT tg d env fun e => do
        let a ← ev k e
        let b ← ev v e
        pure (a, b)) l [])
      pure (.dct r)
    else bad
  | .dlit ks vs, env => do
    let ds ← evs vs env
    pure (dlitD ks ds)
  | .dgt d k x, env => do
    let m ← ev d env
    let a ← ev k env
    let b ← ev x env
    match m with
    | .dct kvs => do
      let q ← opt (keyOf a)
      pure ((valD kvs q).getD b)
    | _ => bad
  | .isi a c, env => do
    let x ← ev a env
    let b ← opt (isiD c x)
    pure (.bl b)
def evs : List IE → IEnv → M S (List D)
  | [], _ => pure []
  | e :: es, env => do
    let x ← ev e env
    let r ← evs es env
    pure (x :: r)
end

/-- what is walked while the body may write is none of the def's own -/
def ltI (env : IEnv) (i : Nat) : Bool := match getI env i with
  | some (_, .lent) => true
  | some (_, .frz) => true
  | _ => false
def lts (env : IEnv) : IE → Bool
  | .bor i => ltI env i
  | .enm (.bor i) => ltI env i
  | _ => true
def isLD : D → Bool
  | .lst _ => true
  | .dct _ => true
  | _ => false
/-- l.append(m.pop(z)) -/
def popApp (a b : Option (D × Fl)) (z : D) : Option (List D × List D) := match a, b, z with
  | some (.lst l, .own), some (.lst m, .own), .int z => (ixN m.length z).bind fun n => (m[n]?).bind fun d => if l.length < sizeLine ∧ -(2 ^ 63) ≤ z ∧ z < 2 ^ 63 then some (l ++ [d], m.eraseIdx n) else none
  | _, _, _ => none
inductive IS where
  | set (i : Nat) (own : Bool) (e : IE)
  | par (is : List Nat) (es : List IE)
  | unp (is : List Nat) (e : IE)
  | frz (i : Nat)
  | app (i : Nat) (e : IE)
  | setIx (i : Nat) (k e : IE)
  | exp (e : IE)
  | ret (e : IE)
  | retO (i : Nat)
  | retN
  | ite (c : IE) (a b : List IS)
  | forL (i : Nat) (src : IE) (hold : Option Nat) (body : List IS)
  | forR (i : Nat) (lo : Option IE) (hi : IE) (body : List IS)
  | whl (c : IE) (body : List IS)
  | brk | cnt | pas
  | never
  | forG (tg : Tg) (src : IE) (body : List IS)
  | appPop (i j : Nat) (e : IE)
  | ext (i : Nat) (e : IE)
  | parO (i j : Nat) (o : Bool) (a b : IE)
  | unpG (tg : Tg) (e : IE)
inductive Out where
  | nx (env : IEnv) | ret (d : D) (fr : Bool) | bk (env : IEnv) | ct (env : IEnv)
def setFl (env : IEnv) (i : Nat) (f : Fl) : IEnv := match getI env i with
  | some (d, _) => put env i d f
  | none => env
/-- the loop over items -/
def forD (step : D → IEnv → M S Out) : List D → IEnv → M S Out
  | [], env => pure (.nx env)
  | d :: ds, env => do
    let o ← step d env
    match o with
    | .nx e => forD step ds e
    | .ct e => forD step ds e
    | .bk e => pure (.nx e)
    | .ret v f => pure (.ret v f)
def whlN (step : IEnv → M S (Option Out)) : Nat → IEnv → M S Out
  | 0, _ => bad
  | n + 1, env => do
    let o ← step env
    match o with
    | none => pure (.nx env)
    | some (.nx e) => whlN step n e
    | some (.ct e) => whlN step n e
    | some (.bk e) => pure (.nx e)
    | some (.ret v f) => pure (.ret v f)
def holdOn (env : IEnv) : Option Nat → Option IEnv
  | none => some env
  | some i => match getI env i with
    | some (d, .own) => some (put env i d .held)
    | some (_, .frz) => some env
    | some (_, .lent) => some env
    | _ => none
def holdOff (was : IEnv) (hold : Option Nat) : Out → Option Out
  | .nx env => match hold with
    | none => some (.nx env)
    | some i => match getI was i, getI env i with
      | some (_, .own), some (d, .held) => some (.nx (put env i d .own))
      | some (_, .own), _ => none
      | _, _ => some (.nx env)
  | .ret d f => some (.ret d f)
  | _ => none
variable (N : Nat)
mutual
def ex : IS → IEnv → M S Out
  | .set i own e, env => do
    let d ← ev Γ e env
    match own, d with
    | true, .lst l => pure (.nx (put env i (.lst l) .own))
    | true, .dct l => pure (.nx (put env i (.dct l) .own))
    | true, _ => bad
    | false, d => pure (.nx (put env i d .frz))
  | .par is es, env => do
    let ds ← evs Γ es env
    if is.length = ds.length then pure (.nx (puts env is ds)) else bad
  | .unp is e, env => do
    let d ← ev Γ e env
    match d with
    | .tup l => if is.length = l.length then pure (.nx (puts env is l)) else bad
    | .lst l => if is.length = l.length then pure (.nx (puts env is l)) else bad
    | _ => bad
  | .frz i, env => match getI env i with
    | some (d, .own) => pure (.nx (put env i d .frz))
    | some (_, .frz) => pure (.nx env)
    | _ => bad
  | .app i e, env => do
    let d ← ev Γ e env
    match getI env i with
    | some (.lst l, .own) => if l.length < sizeLine then pure (.nx (put env i (.lst (l ++ [d])) .own)) else bad
    | _ => bad
  | .setIx i k e, env => do
    let d ← ev Γ e env
    let x ← ev Γ k env
    match getI env i, x with
    | some (.dct l, .own), k => match keyOf k with
      | some q => if l.length < sizeLine then pure (.nx (put env i (.dct (putD l q d)) .own)) else bad
      | none => bad
    | _, _ => bad
  | .exp e, env => do
    let _ ← ev Γ e env
    pure (.nx env)
  | .ret e, env => do
    let d ← ev Γ e env
    pure (.ret d (decide (md e = .fr)))
  | .retO i, env => match getI env i with
    | some (d, .own) => pure (.ret d true)
    | _ => bad
  | .retN, _ => pure (.ret .non false)
  | .ite c a b, env => do
    let x ← ev Γ c env >>= truth
    if x = true then exs a env else exs b env
  | .forL i src hold body, env => do
    let x ← ev Γ src env
    let l ← opt (seqOf x)
    let env1 ← opt (holdOn env hold)
    let o ← forD (fun d e => exs body (put e i d .frz)) l env1
    opt (holdOff env hold o)
  | .forR i lo hi body, env => do
    let x ← (match lo with | some a => ev Γ a env | none => pure (.int 0))
    let y ← ev Γ hi env
    match x, y with
    | .int a, .int b => if -(2 ^ 62) ≤ a ∧ a < 2 ^ 62 ∧ -(2 ^ 62) ≤ b ∧ b < 2 ^ 62 then forD (fun d e => exs body (put e i d .frz)) (rngL a b) env else bad
    | _, _ => bad
  | .whl c body, env => whlN (fun e => do
      let x ← ev Γ c e >>= truth
      if x = true then do
        let o ← exs body e
        pure (some o)
      else pure none) N env
  | .brk, env => pure (.bk env)
  | .cnt, env => pure (.ct env)
  | .pas, env => pure (.nx env)
  | .never, _ => bad
  | .forG tg src body, env => do
    let _ ← (if lts env src = true then pure () else bad : M S Unit)
    let x ← ev Γ src env
    let l ← opt (seqOf x)
    forD (fun d e => onT tg d e fun e => exs body e) l env
  | .appPop i j e, env => do
    let x ← ev Γ e env
    match popApp (getI env i) (getI env j) x with
    | some (l, m) => if i ≠ j then pure (.nx (put (put env j (.lst m) .own) i (.lst l) .own)) else bad
    | none => bad
  | .ext i e, env => do
    let x ← ev Γ e env
    match getI env i, x with
    | some (.lst l, .own), .lst m => if l.length + m.length ≤ sizeLine then pure (.nx (put env i (.lst (l ++ m)) .own)) else bad
    | _, _ => bad
  | .parO i j o a b, env => do
    let d ← ev Γ a env
    let e ← ev Γ b env
    match o, d, e with
    | true, .lst m, .lst l => if i ≠ j then pure (.nx (put (put env i (.lst m) .own) j (.lst l) .own)) else bad
    | true, .dct m, .lst l => if i ≠ j then pure (.nx (put (put env i (.dct m) .own) j (.lst l) .own)) else bad
    | false, d, .lst l => if i ≠ j then pure (.nx (put (put env i d .frz) j (.lst l) .own)) else bad
    | _, _, _ => bad
  | .unpG tg e, env => do
    let d ← ev Γ e env
    match bindT tg d env with
    | some e => pure (.nx e)
    | none => bad
def exs : List IS → IEnv → M S Out
  | [], env => pure (.nx env)
  | s :: r, env => do
    let o ← ex s env
    match o with
    | .nx e => exs r e
    | o => pure o
end
/-- a def: how many slots, its body -/
structure IF where
  n : Nat
  body : List IS
def startE (n : Nat) (lend : List Bool) (ds : List D) : IEnv := (ds.zip lend).map (fun p => some (p.1, if p.2 then Fl.lent else Fl.frz)) ++ List.replicate (n - ds.length) none
def isBox : D → Bool
  | .lst _ => true
  | .dct _ => true
  | .ins _ _ => true
  | _ => false
def runF (sg : Sig) (f : IF) (ds : List D) : M S D := do
  if ds.length = sg.lend.length then
    let o ← exs Γ N f.body (startE f.n sg.lend ds)
    match o with
    | .nx _ => pure .non
    | .ret d b => if sg.fr && isBox d && !b then bad else pure d
    | _ => bad
  else bad
/-- the fields that an __init__ sets, one after another -/
def fldsE (env : IEnv) : List (Str × IE) → List (Str × D) → M S (List (Str × D))
  | [], acc => pure acc
  | (n, e) :: r, acc => do
    let d ← ev Γ e env
    if acc.length < 1000 ∧ acc.lookup n = none then fldsE env r (acc ++ [(n, d)]) else bad
/-- an __init__: its statements, then the fields; slot 0: self -/
def runI (cl : Str) (lend : List Bool) (n : Nat) (pre : List IS) (fl : List (Str × IE)) (ds : List D) : M S D := do
  if ds.length = lend.length then
    let o ← exs Γ N pre (none :: startE (n - 1) lend ds)
    match o with
    | .nx e => do
      let fs ← fldsE Γ e fl []
      pure (.ins cl fs)
    | _ => bad
  else bad
end
end Pv
end
section
set_option maxHeartbeats 200000
namespace Pv
open PySem PySem.Spec PyProof.Rows L2

/-! ### what stands where -/
def Held (env : IEnv) (σ : L2.St) (a : Addr) : Prop := ∃ (i : Nat) (d : D) (f : Fl), env[i]? = some (some (d, f)) ∧ (f = .held ∨ f = .own) ∧ σ[i]? = some (some (.ref a))
def Av (A0 : Addr → Prop) (env : IEnv) (σ : L2.St) (a : Addr) : Prop := A0 a ∨ Held env σ a
def Gv (c : Rc) (a : Addr) : Prop := a ∈ c.g
def Owns (env : IEnv) (σ : L2.St) (a : Addr) : Prop := ∃ (i : Nat) (d : D), env[i]? = some (some (d, Fl.own)) ∧ σ[i]? = some (some (.ref a))
def Wr (c : Rc) (env : IEnv) (σ : L2.St) (a : Addr) : Prop := Gv c a ∨ Owns env σ a
/-- besides p -/
def Plus (A : Addr → Prop) (p : Addr) (a : Addr) : Prop := A a ∨ a = p
def CellAt (c : Rc) (A : Addr → Prop) (H : Hp) (a : Addr) : D → Prop
  | .lst ds => ∃ xs, H a = some (.lst xs) ∧ ds.length ≤ sizeLine ∧ Rps c A H ds xs
  | .dct kvs => ∃ ks, H a = some (.dK ks) ∧ Rpk c A H kvs ks
  | .ins n fs => ∃ dx gs, H a = some (.ins (c.cls n) dx gs) ∧ Rpf c A H fs gs
  | _ => False
/-- known for reading alone -/
def Lb (c : Rc) (A : Addr → Prop) (H : Hp) (d : D) (v : V) : Prop := Rp c A H d v ∨ ∃ a, v = .ref a ∧ ¬ Gv c a ∧ CellAt c A H a d
/-- lent by a caller: besides it is none of those that the def holds -/
def Lt (c : Rc) (A Hd : Addr → Prop) (H : Hp) (d : D) (v : V) : Prop := Rp c A H d v ∨ ∃ a, v = .ref a ∧ ¬ Gv c a ∧ ¬ Hd a ∧ CellAt c A H a d
/-- new since H0 -/
def Fr (c : Rc) (A : Addr → Prop) (H0 H : Hp) (d : D) (v : V) : Prop := (isBox d = false ∧ Rp c A H d v) ∨ ∃ a, v = .ref a ∧ H0 a = none ∧ CellAt c (Plus A a) H a d
def Rm (m : Md) (c : Rc) (A : Addr → Prop) (H0 H : Hp) (d : D) (v : V) : Prop := match m with
  | .rp => Rp c A H d v
  | .bor => Lb c A H d v
  | .fr => Fr c A H0 H d v

section
variable {c : Rc} {A A' : Addr → Prop} {H H' H0 : Hp} {a : Addr} {d : D} {v : V}
theorem CellAt.box (h : CellAt c A H a d) : isBox d = true := by cases d <;> first | rfl | exact h.elim
theorem CellAt.there (h : CellAt c A H a d) : H a ≠ none := by
  cases d with
  | lst l => obtain ⟨xs, e, _⟩ := h; rw [e]; simp
  | dct l => obtain ⟨xs, e, _⟩ := h; rw [e]; simp
  | ins n l => obtain ⟨dx, xs, e, _⟩ := h; rw [e]; simp
  | _ => exact h.elim
theorem CellAt.mono {W : Addr → Prop} (h : CellAt c A H a d) (e : Ext W H H') (w : ∀ a, W a → A a) (n : ∀ a, A' a → A a ∨ H a = none) (k : ¬ W a) : CellAt c A' H' a d := by
  cases d with
  | lst l => obtain ⟨xs, e1, e2, e3⟩ := h; exact ⟨xs, e a _ e1 (.inl k), e2, Rps.mono e w n _ _ e3⟩
  | dct l => obtain ⟨xs, e1, e3⟩ := h; exact ⟨xs, e a _ e1 (.inl k), Rpk.mono e w n _ _ e3⟩
  | ins m l => obtain ⟨dx, xs, e1, e3⟩ := h; exact ⟨dx, xs, e a _ e1 (.inl k), Rpf.mono e w n _ _ e3⟩
  | _ => exact h.elim
theorem Rps.plus {ds : List D} {vs : List V} {p : Addr} (h : Rps c A H ds vs) (hp : H p = none) : Rps c (Plus A p) H ds vs := Rps.mono (Ext.refl (W := fun _ => False)) (fun _ z => z.elim) (fun a z => z.imp id fun e => by rw [e]; exact hp) _ _ h
theorem CellAt.rp (h : CellAt c A H a d) (n : ¬ A a) : Rp c A H d (.ref a) := by
  cases d with
  | lst l => obtain ⟨xs, e1, e2, e3⟩ := h; exact ⟨a, xs, rfl, e1, n, e2, e3⟩
  | dct l => obtain ⟨xs, e1, e3⟩ := h; exact ⟨a, xs, rfl, .inl e1, n, e3⟩
  | ins m l => obtain ⟨dx, xs, e1, e3⟩ := h; exact ⟨a, dx, xs, rfl, e1, n, e3⟩
  | _ => exact h.elim
theorem Lb.mono (h : Lb c A H d v) (e : Ext (Gv c) H H') (w : ∀ a, Gv c a → A a) : Lb c A H' d v := by
  rcases h with h | ⟨a, e1, n, k⟩
  · exact .inl (h.ext e w)
  · exact .inr ⟨a, e1, n, k.mono e w (fun _ z => .inl z) n⟩
theorem Fr.rp (h : Fr c A H0 H d v) (n : ∀ a, A a → H0 a ≠ none) : Rp c A H d v := by
  rcases h with h | ⟨a, e1, e2, k⟩
  · exact h.2
  · rw [e1]
    exact (k.mono (A' := A) (Ext.refl (W := fun _ => False)) (fun _ z => z.elim) (fun _ z => .inl (.inl z)) id).rp fun z => n a z e2
theorem Fr.mono (h : Fr c A H0 H d v) (e : Ext (Gv c) H H') (w : ∀ a, Gv c a → A a) (n : ∀ a, A a → H0 a ≠ none) : Fr c A H0 H' d v := by
  rcases h with h | ⟨a, e1, e2, k⟩
  · exact .inl ⟨h.1, h.2.ext e w⟩
  · exact .inr ⟨a, e1, e2, k.mono e (fun b z => .inl (w b z)) (fun _ z => .inl z) fun z => n a (w a z) e2⟩
theorem Rm.lb {m : Md} (h : Rm m c A H0 H d v) (w : ∀ a, Gv c a → A a) (n : ∀ a, A a → H0 a ≠ none) : Lb c A H d v := by
  cases m with
  | rp => exact .inl h
  | bor => exact h
  | fr => exact .inl (Fr.rp h n)
theorem Rm.rp {m : Md} (hm : m ≠ .bor) (h : Rm m c A H0 H d v) (n : ∀ a, A a → H0 a ≠ none) : Rp c A H d v := by
  cases m with
  | rp => exact h
  | bor => exact absurd rfl hm
  | fr => exact Fr.rp h n
end

/-- the slots and the heap bear the data -/
structure EnvOk (c : Rc) (A0 : Addr → Prop) (H : Hp) (σ : L2.St) (env : IEnv) : Prop where
  len : env.length = σ.length
  tr : ∀ a, A0 a → H a ≠ none
  g : ∀ a, Gv c a → A0 a
  frz : ∀ (i : Nat) (d : D), env[i]? = some (some (d, .frz)) → ∃ v, σ[i]? = some (some v) ∧ Rp c (Av A0 env σ) H d v
  lent : ∀ (i : Nat) (d : D), env[i]? = some (some (d, .lent)) → ∃ v, σ[i]? = some (some v) ∧ Lt c (Av A0 env σ) (Held env σ) H d v
  hld : ∀ (i : Nat) (d : D) (f : Fl), env[i]? = some (some (d, f)) → f = .held ∨ f = .own → ∃ a, σ[i]? = some (some (.ref a)) ∧ ¬ A0 a ∧ CellAt c (Av A0 env σ) H a d
  inj : ∀ (i j : Nat) (d e : D) (f h : Fl) (a : Addr), env[i]? = some (some (d, f)) → f = .held ∨ f = .own → env[j]? = some (some (e, h)) → h = .held ∨ h = .own → σ[i]? = some (some (.ref a)) → σ[j]? = some (some (.ref a)) → i = j
section
variable {c : Rc} {A0 : Addr → Prop} {H H' : Hp} {σ : L2.St} {env : IEnv}
theorem EnvOk.gA (k : EnvOk c A0 H σ env) : ∀ a, Gv c a → Av A0 env σ a := fun a h => .inl (k.g a h)
theorem EnvOk.trA (k : EnvOk c A0 H σ env) : ∀ a, Av A0 env σ a → H a ≠ none := fun a h => by
  rcases h with h | ⟨i, d, f, e1, e2, e3⟩
  · exact k.tr a h
  · obtain ⟨b, q1, q2, q3⟩ := k.hld i d f e1 e2
    rw [e3] at q1
    cases q1
    exact q3.there
theorem Ext.some {W : Addr → Prop} (e : Ext W H H') {a : Addr} (h : H a ≠ none) (w : ¬ W a) : H' a ≠ none := by
  cases q : H a with
  | none => exact absurd q h
  | some o => rw [e a o q (.inl w)]; simp
theorem EnvOk.ext (k : EnvOk c A0 H σ env) (e : Ext (Gv c) H H') (hg : ∀ a, Gv c a → H' a ≠ none) : EnvOk c A0 H' σ env where
  len := k.len
  tr := fun a h => by
    by_cases hw : Gv c a
    · exact hg a hw
    · exact e.some (k.tr a h) hw
  g := k.g
  frz := fun i d h => by
    obtain ⟨v, e1, e2⟩ := k.frz i d h
    exact ⟨v, e1, e2.ext e k.gA⟩
  lent := fun i d h => by
    obtain ⟨v, e1, e2⟩ := k.lent i d h
    refine ⟨v, e1, ?_⟩
    rcases e2 with e2 | ⟨a, q1, q2, q3, q4⟩
    · exact .inl (e2.ext e k.gA)
    · exact .inr ⟨a, q1, q2, q3, q4.mono e k.gA (fun _ z => .inl z) q2⟩
  hld := fun i d f h hf => by
    obtain ⟨a, e1, e2, e3⟩ := k.hld i d f h hf
    exact ⟨a, e1, e2, e3.mono e k.gA (fun _ z => .inl z) fun z => e2 (k.g a z)⟩
  inj := k.inj
theorem EnvOk.get (k : EnvOk c A0 H σ env) {i : Nat} {d : D} {f : Fl} (h : getI env i = some (d, f)) : ∃ v, σ[i]? = some (some v) ∧ Lb c (Av A0 env σ) H d v := by
  have h' : env[i]? = some (some (d, f)) := by
    unfold getI at h
    cases q : env[i]? with
    | none => rw [q] at h; cases h
    | some o => rw [q] at h; cases o with
      | none => cases h
      | some p => have h : some p = some (d, f) := h; rw [Option.some.inj h]
  cases f with
  | frz => obtain ⟨v, e1, e2⟩ := k.frz i d h'; exact ⟨v, e1, .inl e2⟩
  | lent =>
    obtain ⟨v, e1, e2⟩ := k.lent i d h'
    refine ⟨v, e1, ?_⟩
    rcases e2 with e2 | ⟨a, q1, q2, q3, q4⟩
    · exact .inl e2
    · exact .inr ⟨a, q1, q2, q4⟩
  | held => obtain ⟨a, e1, e2, e3⟩ := k.hld i d _ h' (.inl rfl); exact ⟨_, e1, .inr ⟨a, rfl, fun z => e2 (k.g a z), e3⟩⟩
  | own => obtain ⟨a, e1, e2, e3⟩ := k.hld i d _ h' (.inr rfl); exact ⟨_, e1, .inr ⟨a, rfl, fun z => e2 (k.g a z), e3⟩⟩
theorem getI_eq {i : Nat} {p : D × Fl} (h : getI env i = some p) : env[i]? = some (some p) := by
  unfold getI at h
  cases q : env[i]? with
  | none => rw [q] at h; cases h
  | some o => rw [q] at h; cases o with
    | none => cases h
    | some p' => have h : some p' = some p := h; rw [Option.some.inj h]
end

/-- the draws' state: by the addresses g, where the handle is the first one -/
structure RS where
  S : Type
  ok : List Addr → S → Hp → Prop
  stay : ∀ {g s H H'}, (∀ a, a ∈ g → ∀ o, H a = some o → H' a = some o) → ok g s H → ok g s H'
  there : ∀ {g s H}, ok g s H → ∀ a, a ∈ g → ∃ o, H a = some o ∧ ¬ isT o

/-! ### what a term of the inner language promises of an expression -/
section
variable (R : RS) (cls : Str → Addr)
def rc (X : Cx) (g : List Addr) : Rc := ⟨X.K, cls, g⟩
def PostE (m : Md) (c : Rc) (A : Addr → Prop) (H : Hp) (r : Res R.S D) (Q : VK) : Prop := match r with
  | .ok d s => ∀ v H', Ext (Gv c) H H' → R.ok c.g s H' → Rm m c A H H' d v → Q v H'
  | _ => False
def SE (Γ : Gm R.S) (X : Cx) (e : Expr) (ie : IE) : Prop :=
  ∃ t, PE X e t ∧ ∀ σ H Q g A0 env s, EnvOk (rc cls X g) A0 H σ env → R.ok g s H → PostE R (md ie) (rc cls X g) (Av A0 env σ) H (ev Γ ie env s) Q → t σ H Q
def PostT (c : Rc) (H : Hp) (r : Res R.S Bool) (Q : Bool → Hp → Prop) : Prop := match r with
  | .ok b s => ∀ H', Ext (Gv c) H H' → R.ok c.g s H' → Q b H'
  | _ => False
def ST (Γ : Gm R.S) (X : Cx) (e : Expr) (ie : IE) : Prop :=
  ∃ t, PT X e t ∧ ∀ σ H Q g A0 env s, EnvOk (rc cls X g) A0 H σ env → R.ok g s H → PostT R (rc cls X g) H ((ev Γ ie env >>= truth) s) Q → t σ H Q
/-- by modes -/
def Rms (c : Rc) (A : Addr → Prop) (H0 H : Hp) : List IE → List D → List V → Prop
  | [], ds, vs => ds = [] ∧ vs = []
  | e :: es, ds, vs => ∃ d ds' v vs', ds = d :: ds' ∧ vs = v :: vs' ∧ (if md e = .bor then Lb c A H d v else Rp c A H d v) ∧ Rms c A H0 H es ds' vs'
def PostA (es : List IE) (c : Rc) (A : Addr → Prop) (H : Hp) (r : Res R.S (List D)) (Q : List V → Hp → Prop) : Prop := match r with
  | .ok ds s => ∀ vs H', Ext (Gv c) H H' → R.ok c.g s H' → Rms c A H H' es ds vs → Q vs H'
  | _ => False
def SA (Γ : Gm R.S) (X : Cx) (es : List Expr) (ies : List IE) : Prop :=
  ∃ t, PA X es t ∧ ∀ σ H Q g A0 env s, EnvOk (rc cls X g) A0 H σ env → R.ok g s H → PostA R ies (rc cls X g) (Av A0 env σ) H (evs Γ ies env s) Q → t σ H Q
end
section
variable {R : RS} {cls : Str → Addr} {Γ : Gm R.S} {X : Cx}
theorem EnvOk.next {g : List Addr} {A0 : Addr → Prop} {H H' : Hp} {σ : L2.St} {env : IEnv} {s : R.S} (k : EnvOk (rc cls X g) A0 H σ env) (e : Ext (Gv (rc cls X g)) H H') (o : R.ok g s H') : EnvOk (rc cls X g) A0 H' σ env :=
  k.ext e fun a h => by
    obtain ⟨u, h, _⟩ := R.there o a h
    rw [h]; simp

/-- two in a row: what the second one is asked -/
theorem Rms.nil {c : Rc} {A : Addr → Prop} {H0 H : Hp} : Rms c A H0 H [] [] [] := ⟨rfl, rfl⟩
theorem Rms.rps {c : Rc} {A : Addr → Prop} {H0 H : Hp} : ∀ {es : List IE} {ds : List D} {vs : List V}, (∀ e ∈ es, md e ≠ .bor) → Rms c A H0 H es ds vs → Rps c A H ds vs
  | [], ds, vs, _, h => by rw [h.1, h.2]; exact rfl
  | e :: es, ds, vs, n, h => by
    obtain ⟨d, ds', v, vs', rfl, rfl, h1, h2⟩ := h
    rw [if_neg (n e (List.mem_cons_self ..))] at h1
    exact ⟨v, vs', rfl, h1, Rms.rps (fun e he => n e (List.mem_cons_of_mem _ he)) h2⟩

theorem sa_nil : SA R cls Γ X [] [] := ⟨tNil, pa_nil, fun σ H Q g A0 env s k o h => h [] H Ext.refl o ⟨rfl, rfl⟩⟩
theorem sa_cons {e : Expr} {es : List Expr} {ie : IE} {ies : List IE} (h1 : SE R cls Γ X e ie) (h2 : SA R cls Γ X es ies) (hs : starEach (e :: es) X.env = (false, eval e X.env) :: starEach es X.env) : SA R cls Γ X (e :: es) (ie :: ies) := by
  obtain ⟨t1, p1, q1⟩ := h1
  obtain ⟨t2, p2, q2⟩ := h2
  refine ⟨tCons t1 t2, pa_cons p1 p2 hs, fun σ H Q g A0 env s k o h => ?_⟩
  refine q1 σ H _ g A0 env s k o ?_
  unfold evs at h
  rw [bind_def] at h
  cases q : ev Γ ie env s with
  | bad => rw [q] at h; exact h
  | er a b c => rw [q] at h; exact h
  | ok d s1 =>
    rw [q] at h
    dsimp only at h
    intro v H1 x1 o1 r1
    refine q2 σ H1 _ g A0 env s1 (k.next x1 o1) o1 ?_
    rw [bind_def] at h
    cases q' : evs Γ ies env s1 with
    | bad => rw [q'] at h; exact h
    | er a b c => rw [q'] at h; exact h
    | ok ds s2 =>
      rw [q'] at h
      intro vs H2 x2 o2 r2
      refine h _ H2 (x1.trans x2) o2 ⟨d, ds, v, vs, rfl, rfl, ?_, ?_⟩
      · split
        · exact (r1.lb k.gA k.trA).mono x2 k.gA
        · rename_i hm
          exact (r1.rp hm k.trA).ext x2 k.gA
      · have w : ∀ {es : List IE} {ds : List D} {vs : List V}, Rms (rc cls X g) (Av A0 env σ) H1 H2 es ds vs → Rms (rc cls X g) (Av A0 env σ) H H2 es ds vs := by
          intro es
          induction es with
          | nil => intro ds vs h; exact h
          | cons e es ih =>
            intro ds vs h
            obtain ⟨d, ds', v, vs', a1, a2, a3, a4⟩ := h
            exact ⟨d, ds', v, vs', a1, a2, a3, ih a4⟩
        exact w r2
end
end Pv
end
section
set_option maxHeartbeats 200000
namespace Pv
open PySem PySem.Spec PyProof.Rows L2

section
variable {R : RS} {cls : Str → Addr} {Γ : Gm R.S} {X : Cx}
theorem PostE.from {m : Md} {c : Rc} {A : Addr → Prop} {H H1 : Hp} {r : Res R.S D} {Q : VK} (h : PostE R m c A H r Q) (e : Ext (Gv c) H H1) (hg : ∀ a, Gv c a → H1 a ≠ none) : PostE R m c A H1 r Q := by
  cases r with
  | bad => exact h
  | er _ _ _ => exact h
  | ok d s =>
    intro v H' x o k
    refine h v H' (e.trans x) o ?_
    cases m with
    | rp => exact k
    | bor => exact k
    | fr =>
      rcases k with k | ⟨a, e1, e2, k⟩
      · exact .inl k
      · refine .inr ⟨a, e1, ?_, k⟩
        cases q : H a with
        | none => rfl
        | some u =>
          by_cases ha : Gv c a
          · exact absurd e2 (hg a ha)
          · rw [e a u q (.inl ha)] at e2; cases e2
/-- the rest behind an expression -/
theorem SE.bind {ie : IE} {t : TE} (q : ∀ σ H Q g A0 env s, EnvOk (rc cls X g) A0 H σ env → R.ok g s H → PostE R (md ie) (rc cls X g) (Av A0 env σ) H (ev Γ ie env s) Q → t σ H Q)
    {σ : L2.St} {H : Hp} {g : List Addr} {A0 : Addr → Prop} {env : IEnv} {s : R.S} (k : EnvOk (rc cls X g) A0 H σ env) (o : R.ok g s H) {β : Type} {f : D → M R.S β} {P : Res R.S β → Prop} (hb : ¬ P .bad) (he : ∀ c d s, ¬ P (.er c d s))
    (h : P ((ev Γ ie env >>= f) s)) {K : VK} (hk : ∀ d s1 v H1, Ext (Gv (rc cls X g)) H H1 → R.ok g s1 H1 → Rm (md ie) (rc cls X g) (Av A0 env σ) H H1 d v → EnvOk (rc cls X g) A0 H1 σ env → P (f d s1) → K v H1) : t σ H K := by
  refine q σ H K g A0 env s k o ?_
  rw [bind_def] at h
  cases z : ev Γ ie env s with
  | bad => rw [z] at h; exact absurd h hb
  | er _ _ _ => rw [z] at h; exact absurd h (he _ _ _)
  | ok d s1 =>
    rw [z] at h
    intro v H1 x1 o1 r1
    exact hk d s1 v H1 x1 o1 r1 (k.next x1 o1) h
theorem ST.bind {ie : IE} {t : TT} (q : ∀ σ H Q g A0 env s, EnvOk (rc cls X g) A0 H σ env → R.ok g s H → PostT R (rc cls X g) H ((ev Γ ie env >>= truth) s) Q → t σ H Q)
    {σ : L2.St} {H : Hp} {g : List Addr} {A0 : Addr → Prop} {env : IEnv} {s : R.S} (k : EnvOk (rc cls X g) A0 H σ env) (o : R.ok g s H) {β : Type} {f : Bool → M R.S β} {P : Res R.S β → Prop} (hb : ¬ P .bad) (he : ∀ c d s, ¬ P (.er c d s))
    (h : P (((ev Γ ie env >>= truth) >>= f) s)) {K : Bool → Hp → Prop} (hk : ∀ d s1 H1, Ext (Gv (rc cls X g)) H H1 → R.ok g s1 H1 → EnvOk (rc cls X g) A0 H1 σ env → P (f d s1) → K d H1) : t σ H K := by
  refine q σ H K g A0 env s k o ?_
  rw [bind_def] at h
  cases z : (ev Γ ie env >>= truth) s with
  | bad => rw [z] at h; exact absurd h hb
  | er _ _ _ => rw [z] at h; exact absurd h (he _ _ _)
  | ok d s1 =>
    rw [z] at h
    intro H1 x1 o1
    exact hk d s1 H1 x1 o1 (k.next x1 o1) h
theorem SA.bind {ies : List IE} {t : TA} (q : ∀ σ H Q g A0 env s, EnvOk (rc cls X g) A0 H σ env → R.ok g s H → PostA R ies (rc cls X g) (Av A0 env σ) H (evs Γ ies env s) Q → t σ H Q)
    {σ : L2.St} {H : Hp} {g : List Addr} {A0 : Addr → Prop} {env : IEnv} {s : R.S} (k : EnvOk (rc cls X g) A0 H σ env) (o : R.ok g s H) {β : Type} {f : List D → M R.S β} {P : Res R.S β → Prop} (hb : ¬ P .bad) (he : ∀ c d s, ¬ P (.er c d s))
    (h : P ((evs Γ ies env >>= f) s)) {K : List V → Hp → Prop} (hk : ∀ d s1 v H1, Ext (Gv (rc cls X g)) H H1 → R.ok g s1 H1 → Rms (rc cls X g) (Av A0 env σ) H H1 ies d v → EnvOk (rc cls X g) A0 H1 σ env → P (f d s1) → K v H1) : t σ H K := by
  refine q σ H K g A0 env s k o ?_
  rw [bind_def] at h
  cases z : evs Γ ies env s with
  | bad => rw [z] at h; exact absurd h hb
  | er _ _ _ => rw [z] at h; exact absurd h (he _ _ _)
  | ok d s1 =>
    rw [z] at h
    intro v H1 x1 o1 r1
    exact hk d s1 v H1 x1 o1 r1 (k.next x1 o1) h
theorem postE_bad {m : Md} {c : Rc} {A : Addr → Prop} {H : Hp} {Q : VK} : ¬ PostE R m c A H .bad Q := id
theorem postE_er {m : Md} {c : Rc} {A : Addr → Prop} {H : Hp} {Q : VK} : ∀ x d s, ¬ PostE R m c A H (.er x d s) Q := fun _ _ _ => id
theorem postT_bad {c : Rc} {H : Hp} {Q : Bool → Hp → Prop} : ¬ PostT R c H .bad Q := id
theorem postT_er {c : Rc} {H : Hp} {Q : Bool → Hp → Prop} : ∀ x d s, ¬ PostT R c H (.er x d s) Q := fun _ _ _ => id
/-- an option -/
theorem opt_of {α β : Type} {x : Option α} {f : α → M R.S β} {s : R.S} {P : Res R.S β → Prop} (hb : ¬ P .bad) (h : P ((opt x >>= f) s)) : ∃ a, x = some a ∧ P (f a s) := by
  cases x with
  | none => exact absurd h hb
  | some a => exact ⟨a, rfl, h⟩
theorem opt_of' {α : Type} {x : Option α} {s : R.S} {P : Res R.S α → Prop} (hb : ¬ P .bad) (h : P (opt x s)) : ∃ a, x = some a ∧ P (.ok a s) := by
  cases x with
  | none => exact absurd h hb
  | some a => exact ⟨a, rfl, h⟩
theorem truth_of {β : Type} {d : D} {f : Bool → M R.S β} {s : R.S} {P : Res R.S β → Prop} (hb : ¬ P .bad) (h : P ((truth d >>= f) s)) : ∃ b, d = .bl b ∧ P (f b s) := by
  cases d <;> first | exact absurd h hb | exact ⟨_, rfl, h⟩
theorem truth_of' {d : D} {s : R.S} {P : Res R.S Bool → Prop} (hb : ¬ P .bad) (h : P ((truth d : M R.S Bool) s)) : ∃ b, d = .bl b ∧ P (.ok b s) := by
  cases d <;> first | exact absurd h hb | exact ⟨_, rfl, h⟩
theorem Rm.bl {m : Md} {c : Rc} {A : Addr → Prop} {H0 H : Hp} {b : Bool} {v : V} (h : Rm m c A H0 H (.bl b) v) : v = .bl b := by
  cases m with
  | rp => exact h
  | bor =>
    rcases h with h | ⟨a, _, _, h⟩
    · exact h
    · exact h.elim
  | fr =>
    rcases h with h | ⟨a, _, _, h⟩
    · exact h.2
    · exact h.elim
theorem Lb.flat {c : Rc} {A : Addr → Prop} {H : Hp} {d : D} {v : V} (h : Lb c A H d v) (n : isBox d = false) : Rp c A H d v := by
  rcases h with h | ⟨a, _, _, h⟩
  · exact h
  · rw [h.box] at n; cases n
theorem Rm.flat {m : Md} {c : Rc} {A : Addr → Prop} {H0 H : Hp} {d : D} {v : V} (h : Rm m c A H0 H d v) (n : isBox d = false) : Rp c A H d v := by
  cases m with
  | rp => exact h
  | bor => exact Lb.flat h n
  | fr =>
    rcases h with h | ⟨a, _, _, h⟩
    · exact h.2
    · rw [h.box] at n; cases n
/-- flat data, whatever the mode -/
theorem Rm.of_flat {m : Md} {c : Rc} {A : Addr → Prop} {H0 H : Hp} {d : D} {v : V} (h : Rp c A H d v) (n : isBox d = false) : Rm m c A H0 H d v := by
  cases m with
  | rp => exact h
  | bor => exact .inl h
  | fr => exact .inl ⟨n, h⟩

section
variable {ie : IE} {t : TE} {tt : TT} {ies : List IE} {ta : TA} {σ : L2.St} {H : Hp} {g : List Addr} {A0 : Addr → Prop} {env : IEnv} {s : R.S} {m : Md} {c : Rc} {A : Addr → Prop} {H0 : Hp} {Q : VK} {QT : Bool → Hp → Prop}
theorem SE.bindE (q : ∀ σ H Q g A0 env s, EnvOk (rc cls X g) A0 H σ env → R.ok g s H → PostE R (md ie) (rc cls X g) (Av A0 env σ) H (ev Γ ie env s) Q → t σ H Q) (k : EnvOk (rc cls X g) A0 H σ env) (o : R.ok g s H) {f : D → M R.S D} (h : PostE R m c A H0 ((ev Γ ie env >>= f) s) Q)
    {K : VK} (hk : ∀ d s1 v H1, Ext (Gv (rc cls X g)) H H1 → R.ok g s1 H1 → Rm (md ie) (rc cls X g) (Av A0 env σ) H H1 d v → EnvOk (rc cls X g) A0 H1 σ env → PostE R m c A H0 (f d s1) Q → K v H1) : t σ H K := SE.bind (P := fun r => PostE R m c A H0 r Q) q k o postE_bad postE_er h hk
theorem SE.bindT (q : ∀ σ H Q g A0 env s, EnvOk (rc cls X g) A0 H σ env → R.ok g s H → PostE R (md ie) (rc cls X g) (Av A0 env σ) H (ev Γ ie env s) Q → t σ H Q) (k : EnvOk (rc cls X g) A0 H σ env) (o : R.ok g s H) {f : D → M R.S Bool} (h : PostT R c H0 ((ev Γ ie env >>= f) s) QT)
    {K : VK} (hk : ∀ d s1 v H1, Ext (Gv (rc cls X g)) H H1 → R.ok g s1 H1 → Rm (md ie) (rc cls X g) (Av A0 env σ) H H1 d v → EnvOk (rc cls X g) A0 H1 σ env → PostT R c H0 (f d s1) QT → K v H1) : t σ H K := SE.bind (P := fun r => PostT R c H0 r QT) q k o postT_bad postT_er h hk
theorem ST.bindE (q : ∀ σ H Q g A0 env s, EnvOk (rc cls X g) A0 H σ env → R.ok g s H → PostT R (rc cls X g) H ((ev Γ ie env >>= truth) s) Q → tt σ H Q) (k : EnvOk (rc cls X g) A0 H σ env) (o : R.ok g s H) {f : Bool → M R.S D} (h : PostE R m c A H0 (((ev Γ ie env >>= truth) >>= f) s) Q)
    {K : Bool → Hp → Prop} (hk : ∀ d s1 H1, Ext (Gv (rc cls X g)) H H1 → R.ok g s1 H1 → EnvOk (rc cls X g) A0 H1 σ env → PostE R m c A H0 (f d s1) Q → K d H1) : tt σ H K := ST.bind (P := fun r => PostE R m c A H0 r Q) q k o postE_bad postE_er h hk
theorem ST.bindT (q : ∀ σ H Q g A0 env s, EnvOk (rc cls X g) A0 H σ env → R.ok g s H → PostT R (rc cls X g) H ((ev Γ ie env >>= truth) s) Q → tt σ H Q) (k : EnvOk (rc cls X g) A0 H σ env) (o : R.ok g s H) {f : Bool → M R.S Bool} (h : PostT R c H0 (((ev Γ ie env >>= truth) >>= f) s) QT)
    {K : Bool → Hp → Prop} (hk : ∀ d s1 H1, Ext (Gv (rc cls X g)) H H1 → R.ok g s1 H1 → EnvOk (rc cls X g) A0 H1 σ env → PostT R c H0 (f d s1) QT → K d H1) : tt σ H K := ST.bind (P := fun r => PostT R c H0 r QT) q k o postT_bad postT_er h hk
theorem SA.bindE (q : ∀ σ H Q g A0 env s, EnvOk (rc cls X g) A0 H σ env → R.ok g s H → PostA R ies (rc cls X g) (Av A0 env σ) H (evs Γ ies env s) Q → ta σ H Q) (k : EnvOk (rc cls X g) A0 H σ env) (o : R.ok g s H) {f : List D → M R.S D} (h : PostE R m c A H0 ((evs Γ ies env >>= f) s) Q)
    {K : List V → Hp → Prop} (hk : ∀ d s1 v H1, Ext (Gv (rc cls X g)) H H1 → R.ok g s1 H1 → Rms (rc cls X g) (Av A0 env σ) H H1 ies d v → EnvOk (rc cls X g) A0 H1 σ env → PostE R m c A H0 (f d s1) Q → K v H1) : ta σ H K := SA.bind (P := fun r => PostE R m c A H0 r Q) q k o postE_bad postE_er h hk
theorem opt_ofE {α : Type} {x : Option α} {f : α → M R.S D} (h : PostE R m c A H0 ((opt x >>= f) s) Q) : ∃ a, x = some a ∧ PostE R m c A H0 (f a s) Q := opt_of (P := fun r => PostE R m c A H0 r Q) postE_bad h
theorem opt_ofT {α : Type} {x : Option α} {f : α → M R.S Bool} (h : PostT R c H0 ((opt x >>= f) s) QT) : ∃ a, x = some a ∧ PostT R c H0 (f a s) QT := opt_of (P := fun r => PostT R c H0 r QT) postT_bad h
theorem opt_ofE' {x : Option D} (h : PostE R m c A H0 (opt x s) Q) : ∃ a, x = some a ∧ PostE R m c A H0 (.ok a s) Q := opt_of' (P := fun r => PostE R m c A H0 r Q) postE_bad h
end
/-! ### one rule a form -/
theorem se_var {x : Str} {pos : Pos} {i : Nat} {b : Bool} (hN : X.N[i]? = some x) (hv : Vis X.env.scope x) (hd : (x == ("__debug__" : Str)) = false) (hcd : (x == ("__classdict__" : Str)) = false) : SE R cls Γ X (.Name x pos) (if b then .bor i else .var i) := by
  refine ⟨tVar i, pe_var hN hv hd hcd, fun σ H Q g A0 env s k o h => ?_⟩
  cases b with
  | true =>
    have h : PostE R .bor (rc cls X g) (Av A0 env σ) H (ev Γ (.bor i) env s) Q := h
    unfold ev at h
    cases q : getI env i with
    | none => rw [q] at h; exact h.elim
    | some p =>
      obtain ⟨d, f⟩ := p
      rw [q] at h
      obtain ⟨v, e1, e2⟩ := k.get q
      exact ⟨v, e1, h v H Ext.refl o e2⟩
  | false =>
    have h : PostE R .rp (rc cls X g) (Av A0 env σ) H (ev Γ (.var i) env s) Q := h
    unfold ev at h
    cases q : getI env i with
    | none => rw [q] at h; exact h.elim
    | some p =>
      obtain ⟨d, f⟩ := p
      rw [q] at h
      cases f with
      | frz =>
        obtain ⟨v, e1, e2⟩ := k.frz i d (getI_eq q)
        exact ⟨v, e1, h v H Ext.refl o e2⟩
      | _ => exact h.elim
theorem se_const {e : Expr} {d : D} {v : V} (he : PE X e (tC v)) (hr : ∀ c A H, Rp c A H d v) : SE R cls Γ X e (.cst d) :=
  ⟨tC v, he, fun σ H Q g A0 env s k o h => h v H Ext.refl o (hr _ _ _)⟩
theorem se_neg {e : Expr} {ie : IE} {pos : Pos} (h1 : SE R cls Γ X e ie) : SE R cls Γ X (.UnaryOp .USub e pos) (.neg ie) := by
  obtain ⟨t1, p1, q1⟩ := h1
  refine ⟨_, pe_un un_neg p1, fun σ H Q g A0 env s k o h => ?_⟩
  unfold ev at h
  refine SE.bindE q1 k o h fun d s1 v H1 x1 o1 r1 k1 h => ?_
  cases d with
  | int i =>
    have e : v = .int i := Rm.flat r1 rfl
    exact ⟨i, e, h _ H1 x1 o1 rfl⟩
  | _ => exact h.elim
theorem se_bin {a b : Expr} {ia ib : IE} {op : Operator} {pos : Pos} {r : R2} (ho : OpR X (binaryOp op) r)
    (hr : ∀ g A H0 H d e v w z Q, (∀ a, Gv (rc cls X g) a → A a) → (∀ a, Gv (rc cls X g) a → H a ≠ none) → Ext (Gv (rc cls X g)) H0 H → Lb (rc cls X g) A H d v → Lb (rc cls X g) A H e w → opBin op d e = some z →
      (∀ v H', Ext (Gv (rc cls X g)) H H' → (∀ g' s, g' = g → R.ok g' s H → R.ok g' s H') → Rm (md (.bin op ia ib)) (rc cls X g) A H0 H' z v → Q v H') → r v w H Q)
    (h1 : SE R cls Γ X a ia) (h2 : SE R cls Γ X b ib) : SE R cls Γ X (.BinOp a op b pos) (.bin op ia ib) := by
  obtain ⟨t1, p1, q1⟩ := h1
  obtain ⟨t2, p2, q2⟩ := h2
  refine ⟨_, pe_op ho p1 p2, fun σ H Q g A0 env s k o h => ?_⟩
  unfold ev at h
  refine SE.bindE q1 k o h fun d s1 v H1 x1 o1 r1 k1 h => ?_
  refine SE.bindE q2 k1 o1 h fun e s2 w H2 x2 o2 r2 k2 h => ?_
  obtain ⟨z, hz, h⟩ := opt_ofE' h
  refine hr g (Av A0 env σ) H H2 d e v w z Q k.gA (fun a ha => k2.tr a (k2.g a ha)) (x1.trans x2) ((r1.lb k.gA k.trA).mono x2 k.gA) (r2.lb k1.gA k1.trA) hz fun u H3 x3 o3 r3 => ?_
  exact h u H3 ((x1.trans x2).trans x3) (o3 g s2 rfl o2) r3
/-- a comparison by its rule -/
def CmpR (R : RS) (cls : Str → Addr) (X : Cx) (op : CmpOp) (r : R2) : Prop := OpR X (compareOp op) r ∧ ∀ g A H d e v w z Q, Lb (rc cls X g) A H d v → Lb (rc cls X g) A H e w → opCmp op d e = some z → Q (.bl z) H → r v w H Q
theorem se_cmp {a b : Expr} {ia ib : IE} {op : CmpOp} {pos : Pos} {r : R2} (ho : CmpR R cls X op r) (hm : behindInMarks op b = false) (h1 : SE R cls Γ X a ia) (h2 : SE R cls Γ X b ib) : SE R cls Γ X (.Compare a [op] [b] pos) (.cmp op ia ib) := by
  obtain ⟨t1, p1, q1⟩ := h1
  obtain ⟨t2, p2, q2⟩ := h2
  refine ⟨_, pe_cmpR ho.1 p1 p2 hm, fun σ H Q g A0 env s k o h => ?_⟩
  unfold ev at h
  refine SE.bindE q1 k o h fun d s1 v H1 x1 o1 r1 k1 h => ?_
  refine SE.bindE q2 k1 o1 h fun e s2 w H2 x2 o2 r2 k2 h => ?_
  obtain ⟨z, hz, h⟩ := opt_ofE h
  exact ho.2 g (Av A0 env σ) H2 d e v w z Q ((r1.lb k.gA k.trA).mono x2 k.gA) (r2.lb k1.gA k1.trA) hz (h _ H2 (x1.trans x2) o2 rfl)
theorem st_cmp {a b : Expr} {ia ib : IE} {op : CmpOp} {pos : Pos} {r : R2} (ho : CmpR R cls X op r) (hm : behindInMarks op b = false) (h1 : SE R cls Γ X a ia) (h2 : SE R cls Γ X b ib) : ST R cls Γ X (.Compare a [op] [b] pos) (.cmp op ia ib) := by
  obtain ⟨t1, p1, q1⟩ := h1
  obtain ⟨t2, p2, q2⟩ := h2
  refine ⟨_, pt_cmpR ho.1 p1 p2 hm, fun σ H Q g A0 env s k o h => ?_⟩
  unfold ev at h
  simp only [bind_assoc'] at h
  refine SE.bindT q1 k o h fun d s1 v H1 x1 o1 r1 k1 h => ?_
  refine SE.bindT q2 k1 o1 h fun e s2 w H2 x2 o2 r2 k2 h => ?_
  obtain ⟨z, hz, h⟩ := opt_ofT h
  exact ho.2 g (Av A0 env σ) H2 d e v w z _ ((r1.lb k.gA k.trA).mono x2 k.gA) (r2.lb k1.gA k1.trA) hz ⟨z, rfl, h H2 (x1.trans x2) o2⟩
theorem se_chn {a b c : Expr} {ia ib ic : IE} {op op' : CmpOp} {pos : Pos} {r r' : R2} (ho : CmpR R cls X op r) (ho' : CmpR R cls X op' r') (hm : lastMarks [op, op'] [b, c] = false) (h1 : SE R cls Γ X a ia) (h2 : SE R cls Γ X b ib) (h3 : SE R cls Γ X c ic) :
    SE R cls Γ X (.Compare a [op, op'] [b, c] pos) (.chn op op' ia ib ic) := by
  obtain ⟨t1, p1, q1⟩ := h1
  obtain ⟨t2, p2, q2⟩ := h2
  obtain ⟨t3, p3, q3⟩ := h3
  refine ⟨_, pe_chain ho.1 ho'.1 p1 p2 p3 hm, fun σ H Q g A0 env s k o h => ?_⟩
  unfold ev at h
  refine SE.bindE q1 k o h fun d s1 v H1 x1 o1 r1 k1 h => ?_
  refine SE.bindE q2 k1 o1 h fun e s2 w H2 x2 o2 r2 k2 h => ?_
  obtain ⟨z, hz, h⟩ := opt_ofE h
  refine ho.2 g (Av A0 env σ) H2 d e v w z _ ((r1.lb k.gA k.trA).mono x2 k.gA) (r2.lb k1.gA k1.trA) hz ⟨z, rfl, ?_⟩
  cases z with
  | false => exact iteF (h _ H2 (x1.trans x2) o2 rfl)
  | true =>
    rw [if_pos rfl] at h ⊢
    refine SE.bindE q3 k2 o2 h fun f s3 u H3 x3 o3 r3 k3 h => ?_
    obtain ⟨y, hy, h⟩ := opt_ofE h
    exact ho'.2 g (Av A0 env σ) H3 e f w u y _ ((r2.lb k1.gA k1.trA).mono x3 k.gA) (r3.lb k2.gA k2.trA) hy (h _ H3 ((x1.trans x2).trans x3) o3 rfl)
theorem st_chn {a b c : Expr} {ia ib ic : IE} {op op' : CmpOp} {pos : Pos} {r r' : R2} (ho : CmpR R cls X op r) (ho' : CmpR R cls X op' r') (hm : lastMarks [op, op'] [b, c] = false) (h1 : SE R cls Γ X a ia) (h2 : SE R cls Γ X b ib) (h3 : SE R cls Γ X c ic) :
    ST R cls Γ X (.Compare a [op, op'] [b, c] pos) (.chn op op' ia ib ic) := by
  obtain ⟨t1, p1, q1⟩ := h1
  obtain ⟨t2, p2, q2⟩ := h2
  obtain ⟨t3, p3, q3⟩ := h3
  refine ⟨_, pt_chain ho.1 ho'.1 p1 p2 p3 hm, fun σ H Q g A0 env s k o h => ?_⟩
  unfold ev at h
  simp only [bind_assoc'] at h
  refine SE.bindT q1 k o h fun d s1 v H1 x1 o1 r1 k1 h => ?_
  refine SE.bindT q2 k1 o1 h fun e s2 w H2 x2 o2 r2 k2 h => ?_
  obtain ⟨z, hz, h⟩ := opt_ofT h
  refine ho.2 g (Av A0 env σ) H2 d e v w z _ ((r1.lb k.gA k.trA).mono x2 k.gA) (r2.lb k1.gA k1.trA) hz ⟨z, rfl, ?_⟩
  cases z with
  | false => exact iteF ⟨_, rfl, h H2 (x1.trans x2) o2⟩
  | true =>
    rw [if_pos rfl] at h ⊢
    simp only [bind_assoc'] at h
    refine SE.bindT q3 k2 o2 h fun f s3 u H3 x3 o3 r3 k3 h => ?_
    obtain ⟨y, hy, h⟩ := opt_ofT h
    exact ho'.2 g (Av A0 env σ) H3 e f w u y _ ((r2.lb k1.gA k1.trA).mono x3 k.gA) (r3.lb k2.gA k2.trA) hy ⟨_, rfl, h H3 ((x1.trans x2).trans x3) o3⟩
end
end Pv
end
section
set_option maxHeartbeats 200000
namespace Pv
open PySem PySem.Spec PyProof.Rows L2

section
variable {R : RS} {cls : Str → Addr} {Γ : Gm R.S} {X : Cx}
theorem EnvOk.gTr {c : Rc} {A0 : Addr → Prop} {H : Hp} {σ : L2.St} {env : IEnv} (k : EnvOk c A0 H σ env) : ∀ a, Gv c a → H a ≠ none := fun a h => k.tr a (k.g a h)
theorem RS.new {g : List Addr} {s : R.S} {H : Hp} {p : Addr} {u : HO} (o : R.ok g s H) (hp : H p = none) : R.ok g s (upd H p u) := R.stay (fun a ha w e => by rw [upd_ne (ne_of_none e hp)]; exact e) o
theorem Ext.back {W : Addr → Prop} {H H' : Hp} (e : Ext W H H') (hg : ∀ a, W a → H' a ≠ none) {p : Addr} (h : H' p = none) : H p = none := by
  cases q : H p with
  | none => rfl
  | some u =>
    by_cases w : W p
    · exact absurd h (hg p w)
    · rw [e p u q (.inl w)] at h; cases h
/-! ### truth -/
theorem st_val {e : Expr} {ie : IE} (h1 : SE R cls Γ X e ie) (he : ∀ whole, isTrue e X.env whole = (do let v ← whole; standAt e.pos; holding [v] (truthy v))) : ST R cls Γ X e ie := by
  obtain ⟨t1, p1, q1⟩ := h1
  refine ⟨_, pt_val p1 he, fun σ H Q g A0 env s k o h => ?_⟩
  refine SE.bindT q1 k o h fun d s1 v H1 x1 o1 r1 k1 h => ?_
  obtain ⟨b, rfl, h'⟩ := truth_of' (P := fun r => PostT R _ _ r _) postT_bad h
  clear h
  have h := h'
  clear h'
  exact ⟨b, r1.bl, h H1 x1 o1⟩
theorem st_not {e : Expr} {ie : IE} {pos : Pos} (h1 : ST R cls Γ X e ie) : ST R cls Γ X (.UnaryOp .Not e pos) (.not ie) := by
  obtain ⟨t1, p1, q1⟩ := h1
  refine ⟨_, pt_not p1, fun σ H Q g A0 env s k o h => ?_⟩
  unfold ev at h
  rw [bind_assoc'] at h
  exact ST.bindT q1 k o h fun d s1 H1 x1 o1 k1 h => h H1 x1 o1
theorem se_not {e : Expr} {ie : IE} {pos : Pos} (h1 : SE R cls Γ X e ie) : SE R cls Γ X (.UnaryOp .Not e pos) (.not ie) := by
  obtain ⟨t1, p1, q1⟩ := h1
  refine ⟨_, pe_not p1, fun σ H Q g A0 env s k o h => ?_⟩
  unfold ev at h
  rw [bind_assoc'] at h
  refine SE.bindE q1 k o h fun d s1 v H1 x1 o1 r1 k1 h => ?_
  obtain ⟨b, rfl, h'⟩ := truth_of (P := fun r => PostE R _ _ _ _ r _) postE_bad h
  clear h
  have h := h'
  clear h'
  exact ⟨b, r1.bl, h _ H1 x1 o1 rfl⟩
theorem se_and {a b : Expr} {ia ib : IE} {rest : List Expr} {pos : Pos} (h1 : SE R cls Γ X a ia) (h2 : SE R cls Γ X (.BoolOp .And (b :: rest) pos) ib) (hm : md ib ≠ .bor) : SE R cls Γ X (.BoolOp .And (a :: b :: rest) pos) (.and ia ib) := by
  obtain ⟨t1, p1, q1⟩ := h1
  obtain ⟨t2, p2, q2⟩ := h2
  refine ⟨_, pe_and p1 p2, fun σ H Q g A0 env s k o h => ?_⟩
  unfold ev at h
  rw [bind_assoc'] at h
  refine SE.bindE q1 k o h fun d s1 v H1 x1 o1 r1 k1 h => ?_
  obtain ⟨b, rfl, h'⟩ := truth_of (P := fun r => PostE R _ _ _ _ r _) postE_bad h
  clear h
  have h := h'
  clear h'
  refine ⟨b, r1.bl, ?_⟩
  cases b with
  | false => exact iteF (h _ H1 x1 o1 rfl)
  | true =>
    rw [if_pos rfl] at h ⊢
    refine q2 σ H1 Q g A0 env s1 k1 o1 ?_
    have h := h.from x1 k1.gTr
    cases z : ev Γ ib env s1 with
    | bad => rw [z] at h; exact h
    | er _ _ _ => rw [z] at h; exact h
    | ok d s2 =>
      rw [z] at h
      intro v H2 x2 o2 r2
      exact h v H2 x2 o2 (r2.rp hm k1.trA)
theorem se_or {a b : Expr} {ia ib : IE} {rest : List Expr} {pos : Pos} (h1 : SE R cls Γ X a ia) (h2 : SE R cls Γ X (.BoolOp .Or (b :: rest) pos) ib) (hm : md ib ≠ .bor) : SE R cls Γ X (.BoolOp .Or (a :: b :: rest) pos) (.or ia ib) := by
  obtain ⟨t1, p1, q1⟩ := h1
  obtain ⟨t2, p2, q2⟩ := h2
  refine ⟨_, pe_or p1 p2, fun σ H Q g A0 env s k o h => ?_⟩
  unfold ev at h
  rw [bind_assoc'] at h
  refine SE.bindE q1 k o h fun d s1 v H1 x1 o1 r1 k1 h => ?_
  obtain ⟨b, rfl, h'⟩ := truth_of (P := fun r => PostE R _ _ _ _ r _) postE_bad h
  clear h
  have h := h'
  clear h'
  refine ⟨b, r1.bl, ?_⟩
  cases b with
  | true => exact iteT (h _ H1 x1 o1 rfl)
  | false =>
    rw [if_neg Bool.false_ne_true] at h ⊢
    refine q2 σ H1 Q g A0 env s1 k1 o1 ?_
    have h := h.from x1 k1.gTr
    cases z : ev Γ ib env s1 with
    | bad => rw [z] at h; exact h
    | er _ _ _ => rw [z] at h; exact h
    | ok d s2 =>
      rw [z] at h
      intro v H2 x2 o2 r2
      exact h v H2 x2 o2 (r2.rp hm k1.trA)
theorem se_one {a : Expr} {ia : IE} {op : BoolOp} {pos : Pos} (h1 : SE R cls Γ X a ia) : SE R cls Γ X (.BoolOp op [a] pos) ia := by
  obtain ⟨t1, p1, q1⟩ := h1
  exact ⟨_, pe_one p1, q1⟩
/-- a test in a chain -/
def SW (R : RS) (cls : Str → Addr) (Γ : Gm R.S) (X : Cx) (e : Expr) (ie : IE) : Prop :=
  ∃ t, PW X e t ∧ ∀ σ H Q g A0 env s, EnvOk (rc cls X g) A0 H σ env → R.ok g s H → PostT R (rc cls X g) H ((ev Γ ie env >>= truth) s) Q → t σ H Q
theorem SW.st {e : Expr} {ie : IE} (h : SW R cls Γ X e ie) : ST R cls Γ X e ie := by
  obtain ⟨t, p, q⟩ := h
  exact ⟨t, p.pt, q⟩
theorem sw_and1 {a : Expr} {ia : IE} {pos : Pos} (h : ST R cls Γ X a ia) : SW R cls Γ X (.BoolOp .And [a] pos) ia := by
  obtain ⟨t, p, q⟩ := h
  exact ⟨t, pw_and1 p, q⟩
theorem sw_or1 {a : Expr} {ia : IE} {pos : Pos} (h : ST R cls Γ X a ia) : SW R cls Γ X (.BoolOp .Or [a] pos) ia := by
  obtain ⟨t, p, q⟩ := h
  exact ⟨t, pw_or1 p, q⟩
theorem PostT.from {c : Rc} {H H1 : Hp} {r : Res R.S Bool} {Q : Bool → Hp → Prop} (h : PostT R c H r Q) (e : Ext (Gv c) H H1) : PostT R c H1 r Q := by
  cases r with
  | bad => exact h
  | er _ _ _ => exact h
  | ok d s => exact fun H' x o => h H' (e.trans x) o
theorem sw_and {a b : Expr} {ia ib : IE} {rest : List Expr} {pos : Pos} (h1 : ST R cls Γ X a ia) (h2 : SW R cls Γ X (.BoolOp .And (b :: rest) pos) ib) : SW R cls Γ X (.BoolOp .And (a :: b :: rest) pos) (.and ia ib) := by
  obtain ⟨t1, p1, q1⟩ := h1
  obtain ⟨t2, p2, q2⟩ := h2
  refine ⟨_, pw_and p1 p2, fun σ H Q g A0 env s k o h => ?_⟩
  unfold ev at h
  rw [bind_assoc'] at h
  refine ST.bindT q1 k o h fun b s1 H1 x1 o1 k1 h => ?_
  cases b with
  | false => exact iteF (h H1 x1 o1)
  | true =>
    rw [if_pos rfl] at h ⊢
    exact q2 σ H1 Q g A0 env s1 k1 o1 (h.from x1)
theorem sw_or {a b : Expr} {ia ib : IE} {rest : List Expr} {pos : Pos} (h1 : ST R cls Γ X a ia) (h2 : SW R cls Γ X (.BoolOp .Or (b :: rest) pos) ib) : SW R cls Γ X (.BoolOp .Or (a :: b :: rest) pos) (.or ia ib) := by
  obtain ⟨t1, p1, q1⟩ := h1
  obtain ⟨t2, p2, q2⟩ := h2
  refine ⟨_, pw_or p1 p2, fun σ H Q g A0 env s k o h => ?_⟩
  unfold ev at h
  rw [bind_assoc'] at h
  refine ST.bindT q1 k o h fun b s1 H1 x1 o1 k1 h => ?_
  cases b with
  | true => exact iteT (h H1 x1 o1)
  | false =>
    rw [if_neg Bool.false_ne_true] at h ⊢
    exact q2 σ H1 Q g A0 env s1 k1 o1 (h.from x1)
theorem se_ite {c a b : Expr} {ic ia ib : IE} {pos : Pos} (h0 : ST R cls Γ X c ic) (h1 : SE R cls Γ X a ia) (h2 : SE R cls Γ X b ib) (m1 : md ia ≠ .bor) (m2 : md ib ≠ .bor) : SE R cls Γ X (.IfExp c a b pos) (.ite ic ia ib) := by
  obtain ⟨t0, p0, q0⟩ := h0
  obtain ⟨t1, p1, q1⟩ := h1
  obtain ⟨t2, p2, q2⟩ := h2
  refine ⟨_, pe_ifExp p0 p1 p2, fun σ H Q g A0 env s k o h => ?_⟩
  unfold ev at h
  refine ST.bindE q0 k o h fun z s1 H1 x1 o1 k1 h => ?_
  have go : ∀ {ie : IE} {t : TE}, md ie ≠ .bor → (∀ σ H Q g A0 env s, EnvOk (rc cls X g) A0 H σ env → R.ok g s H → PostE R (md ie) (rc cls X g) (Av A0 env σ) H (ev Γ ie env s) Q → t σ H Q) →
      PostE R (md (.ite ic ia ib)) (rc cls X g) (Av A0 env σ) H (ev Γ ie env s1) Q → t σ H1 Q := by
    intro ie t hm q h
    refine q σ H1 Q g A0 env s1 k1 o1 ?_
    have h := h.from x1 k1.gTr
    cases z : ev Γ ie env s1 with
    | bad => rw [z] at h; exact h
    | er _ _ _ => rw [z] at h; exact h
    | ok d s2 =>
      rw [z] at h
      intro v H2 x2 o2 r2
      exact h v H2 x2 o2 (r2.rp hm k1.trA)
  cases z with
  | true =>
    rw [if_pos rfl] at h ⊢
    exact go m1 q1 h
  | false =>
    rw [if_neg Bool.false_ne_true] at h ⊢
    exact go m2 q2 h

/-! ### displays -/
theorem Rps.len_le {c : Rc} {A : Addr → Prop} {H : Hp} {ds : List D} {vs : List V} (h : Rps c A H ds vs) {n : Nat} (e : vs.length ≤ n) : ds.length ≤ n := by rw [← h.length]; exact e
theorem Rms.length {c : Rc} {A : Addr → Prop} {H0 H : Hp} : ∀ {es : List IE} {ds : List D} {vs : List V}, Rms c A H0 H es ds vs → ds.length = es.length ∧ vs.length = es.length
  | [], ds, vs, h => by rw [h.1, h.2]; exact ⟨rfl, rfl⟩
  | e :: es, ds, vs, h => by
    obtain ⟨d, ds', v, vs', rfl, rfl, h1, h2⟩ := h
    have q := Rms.length h2
    rw [List.length_cons, List.length_cons, List.length_cons, q.1, q.2]
    exact ⟨rfl, rfl⟩
theorem se_tup {es : List Expr} {ies : List IE} {x1 : Nat} {pos : Pos} (h : SA R cls Γ X es ies) (hm : ∀ e ∈ ies, md e ≠ .bor) (hl : ies.length ≤ 1000) : SE R cls Γ X (.Tuple es x1 pos) (.tup ies) := by
  obtain ⟨t, p, q⟩ := h
  refine ⟨_, pe_tup p, fun σ H Q g A0 env s k o h => ?_⟩
  unfold ev at h
  refine SA.bindE q k o h fun ds s1 vs H1 x1 o1 r1 k1 h => ?_
  have l := r1.length
  have r := Rms.rps hm r1
  refine ⟨by rw [l.2, sizeLine_eq]; omega, fun p hp => ?_⟩
  have x2 : Ext (Gv (rc cls X g)) H1 (upd H1 p (.tup vs)) := Ext.new hp
  exact h _ _ (x1.trans x2) (R.new o1 hp) ⟨p, vs, rfl, .inl (.inl upd_same), r.ext x2 k.gA⟩
theorem se_lst {es : List Expr} {ies : List IE} {pos : Pos} (h : SA R cls Γ X es ies) (hm : ∀ e ∈ ies, md e ≠ .bor) (hl : ies.length ≤ 1000) : SE R cls Γ X (.List es pos) (.lst ies) := by
  obtain ⟨t, p, q⟩ := h
  refine ⟨_, pe_lst p, fun σ H Q g A0 env s k o h => ?_⟩
  unfold ev at h
  refine SA.bindE q k o h fun ds s1 vs H1 x1 o1 r1 k1 h => ?_
  have l := r1.length
  have r := Rms.rps hm r1
  have z : ies.length ≤ sizeLine := by rw [sizeLine_eq]; omega
  refine ⟨by rw [l.2]; exact z, fun p hp => ?_⟩
  have x2 : Ext (Gv (rc cls X g)) H1 (upd H1 p (.lst vs)) := Ext.new hp
  exact h _ _ (x1.trans x2) (R.new o1 hp) (.inr ⟨p, rfl, x1.back k1.gTr hp, vs, upd_same, by rw [l.1]; exact z, (r.plus hp).ext x2 fun a h => .inl (k.gA a h)⟩)
theorem Lb.lst {c : Rc} {A : Addr → Prop} {H : Hp} {l : List D} {v : V} (w : ∀ a, Gv c a → A a) (h : Lb c A H (.lst l) v) : ∃ a xs, v = .ref a ∧ H a = some (.lst xs) ∧ l.length ≤ sizeLine ∧ Rps c A H l xs ∧ ¬ Gv c a := by
  rcases h with ⟨a, xs, e1, e2, e3, e4, e5⟩ | ⟨a, e1, n, xs, e2, e3, e4⟩
  · exact ⟨a, xs, e1, e2, e4, e5, fun z => e3 (w a z)⟩
  · exact ⟨a, xs, e1, e2, e3, e4, n⟩
theorem Lb.tup {c : Rc} {A : Addr → Prop} {H : Hp} {l : List D} {v : V} (h : Lb c A H (.tup l) v) : ∃ a xs, v = .ref a ∧ SqT c.K H a xs ∧ Rps c A H l xs := Lb.flat h rfl
theorem Rps.atI {c : Rc} {A : Addr → Prop} {H : Hp} {l : List D} {xs : List V} (h : Rps c A H l xs) {i : Int} {d : D} (e : L2.atI l i = some d) : ∃ v, L2.atI xs i = some v ∧ Rp c A H d v := by
  unfold L2.atI at e ⊢
  rw [h.length]
  cases q : ixN l.length i with
  | none => rw [q] at e; cases e
  | some j =>
    rw [q] at e
    have e : l[j]? = some d := e
    obtain ⟨v, e1, e2⟩ := h.getD e
    exact ⟨v, e1, e2⟩
theorem ix_dct {X : Cx} (hu : X.A.units + 1 < cLine) : IxR X (fun x y H Q => ∃ a v, x = .ref a ∧ DGet H a y (some v) ∧ Q v H) := by
  intro value slice pins s σ H x y v u Q I rx ry h hs
  obtain ⟨a, w, rfl, g, q⟩ := h
  obtain rfl : v = Value.ref a := rx
  exact tail_any (dict_typeIs I g) PySem.F.slot_dict_getitem.lookup (d_getItem hu I g ry fun w' s' I' r => ⟨w, H, I', r, q⟩) hs
theorem Rpk.val {c : Rc} {A : Addr → Prop} {H : Hp} {k : Key} : ∀ {kvs : List (Key × D)} {ks : List (Key × V)}, Rpk c A H kvs ks → (∀ d, valD kvs k = some d → ∃ v, valV ks k = some v ∧ Rp c A H d v) ∧ (valD kvs k = none → valV ks k = none)
  | [], ks, h => by
    have h : ks = [] := h
    subst h
    exact ⟨fun d e => (by cases e), fun _ => rfl⟩
  | (q, d) :: r, ks, h => by
    obtain ⟨v, ws, rfl, h1, h2⟩ := h
    have ih := Rpk.val (k := k) h2
    by_cases e : q = k
    · subst e
      refine ⟨fun d' z => ?_, fun z => ?_⟩
      · simp only [valD, List.find?_cons, decide_true, Option.map_some, Option.some.injEq] at z
        subst z
        exact ⟨v, valV_pos rfl, h1⟩
      · simp only [valD, List.find?_cons, decide_true, Option.map_some] at z
        cases z
    · have q1 : valD ((q, d) :: r) k = valD r k := by simp [valD, List.find?_cons, e]
      have q2 : valV ((q, v) :: ws) k = valV ws k := valV_neg e
      rw [q1, q2]
      exact ih
theorem keyOf_rp {c : Rc} {A : Addr → Prop} {H : Hp} {d : D} {v : V} {k : Key} (e : keyOf d = some k) (h : Rp c A H d v) : v = kV k := by
  cases d with
  | int i => cases e; exact h
  | str i => cases e; exact h
  | _ => cases e
theorem keyOf_flat {d : D} {k : Key} (e : keyOf d = some k) : isBox d = false := by cases d <;> first | rfl | cases e
/-- a dict that is known for reading -/
theorem Lb.dct {c : Rc} {A : Addr → Prop} {H : Hp} {l : List (Key × D)} {v : V} (h : Lb c A H (.dct l) v) : ∃ a ks, v = .ref a ∧ Rd H a (.dK ks) ∧ Rpk c A H l ks := by
  rcases h with ⟨a, ks, e1, e2, _, e4⟩ | ⟨a, e1, _, ks, e2, e3⟩
  · exact ⟨a, ks, e1, e2, e4⟩
  · exact ⟨a, ks, e1, .inl e2, e3⟩
theorem se_idx {a b : Expr} {ia ib : IE} {pos : Pos} (hu : X.A.units + 1 < cLine) (hs : PlainIx b) (h1 : SE R cls Γ X a ia) (h2 : SE R cls Γ X b ib) : SE R cls Γ X (.Subscript a b pos) (.idx ia ib) := by
  obtain ⟨t1, p1, q1⟩ := h1
  obtain ⟨t2, p2, q2⟩ := h2
  refine ⟨_, pe_ix (ix_seq.or (ix_dct hu)) p1 p2 hs, fun σ H Q g A0 env s k o h => ?_⟩
  unfold ev at h
  refine SE.bindE q1 k o h fun d s1 v H1 x1 o1 r1 k1 h => ?_
  refine SE.bindE q2 k1 o1 h fun e s2 w H2 x2 o2 r2 k2 h => ?_
  obtain ⟨z, hz, hq⟩ := opt_ofE' h
  clear h
  have l1 := (r1.lb k.gA k.trA).mono x2 k.gA
  have dk : ∀ l, d = .dct l → ∃ a v', v = .ref a ∧ DGet H2 a w (some v') ∧ Q v' H2 := by
    rintro l rfl
    have hz : ((keyOf e).bind (valD l)) = some z := by cases e <;> exact hz
    obtain ⟨q, hq1, hq2⟩ := Option.bind_eq_some_iff.mp hz
    obtain ⟨p, ks, e1, e2, e3⟩ := l1.dct
    obtain ⟨u, f1, f2⟩ := (Rpk.val (k := q) e3).1 z hq2
    have ew : w = kV q := keyOf_rp hq1 (Rm.flat r2 (keyOf_flat hq1))
    exact ⟨p, u, e1, .inl ⟨ks, q, e2, ew, f1.symm⟩, hq u H2 (x1.trans x2) o2 f2⟩
  cases d with
  | dct l => exact .inr (dk l rfl)
  | lst l =>
    cases e with
    | int i =>
      have ew : w = .int i := Rm.flat r2 rfl
      obtain ⟨p, xs, e1, e2, e3, e4, e5⟩ := l1.lst k.gA
      have hz : atI l i = some z := hz
      obtain ⟨u, e6, e7⟩ := e4.atI hz
      exact .inl (.inl ⟨p, xs, i, u, e1, ew, .inl (.inl e2), e6, hq u H2 (x1.trans x2) o2 e7⟩)
    | _ => cases hz
  | tup l =>
    cases e with
    | int i =>
      have ew : w = .int i := Rm.flat r2 rfl
      obtain ⟨p, xs, e1, e2, e4⟩ := l1.tup
      have hz : atI l i = some z := hz
      obtain ⟨u, e6, e7⟩ := e4.atI hz
      exact .inl (.inr (.inl ⟨p, xs, i, u, e1, ew, e2, e6, hq u H2 (x1.trans x2) o2 e7⟩))
    | _ => cases hz
  | _ => cases hz
end
end Pv
end
section
set_option maxHeartbeats 200000
namespace Pv
open PySem PySem.Spec PyProof.Rows L2

section
variable {R : RS} {cls : Str → Addr} {Γ : Gm R.S} {X : Cx}
/-! ### values -/
theorem flat_toV {c : Rc} {A : Addr → Prop} {H : Hp} {d : D} {v : V} (h : Lb c A H d v) (f : flatD d = true) : v = toV d ∧ flatV v = true := by
  cases d with
  | non => have e : v = .non := Lb.flat h rfl; subst e; exact ⟨rfl, rfl⟩
  | bl b => have e : v = .bl b := Lb.flat h rfl; subst e; exact ⟨rfl, rfl⟩
  | int b => have e : v = .int b := Lb.flat h rfl; subst e; exact ⟨rfl, rfl⟩
  | str b => have e : v = .str b := Lb.flat h rfl; subst e; exact ⟨rfl, rfl⟩
  | _ => cases f
theorem flats_toV {c : Rc} {A : Addr → Prop} {H : Hp} : ∀ {ds : List D} {vs : List V}, Rps c A H ds vs → ds.all flatD = true → vs = ds.map toV ∧ vs.all flatV = true
  | [], vs, h, _ => by have h : vs = [] := h; subst h; exact ⟨rfl, rfl⟩
  | d :: ds, vs, h, f => by
    obtain ⟨w, ws, e1, e2, e3⟩ := h
    subst e1
    rw [List.all_cons, Bool.and_eq_true] at f
    obtain ⟨a1, a2⟩ := flat_toV (.inl e2) f.1
    obtain ⟨b1, b2⟩ := flats_toV e3 f.2
    rw [a1, b1] at *
    exact ⟨rfl, by rw [List.all_cons, a2, b2]; rfl⟩
theorem Lb.isN {c : Rc} {A : Addr → Prop} {H : Hp} {d : D} {v : V} (h : Lb c A H d v) : decide (v = .non) = isNon d := by
  rcases h with h | ⟨a, e, _, k⟩
  · cases d with
    | non => have h : v = .non := h; rw [h]; rfl
    | bl b => have h : v = .bl b := h; rw [h]; rfl
    | int b => have h : v = .int b := h; rw [h]; rfl
    | str b => have h : v = .str b := h; rw [h]; rfl
    | tup l => obtain ⟨a, xs, e, _⟩ := h; rw [e]; rfl
    | lst l => obtain ⟨a, xs, e, _⟩ := h; rw [e]; rfl
    | dct l => obtain ⟨a, xs, e, _⟩ := h; rw [e]; rfl
    | ins n l => obtain ⟨a, dx, xs, e, _⟩ := h; rw [e]; rfl
    | rng => have h : v = .ref c.r := h; rw [h]; rfl
    | scr n => obtain ⟨a, e, _⟩ := h; rw [e]; rfl
  · rw [e]
    cases d <;> first | rfl | exact k.elim
theorem Lb.dp {c : Rc} {A : Addr → Prop} {H : Hp} {d : D} {v : V} (h : Lb c A H d v) (p : pureD d = true) : Dp c.K H v (toP d) := by
  rcases h with h | ⟨a, e, _, k⟩
  · exact Rp.dp d v h p
  · subst e
    cases d with
    | lst l =>
      obtain ⟨xs, e1, _, e2⟩ := k
      exact .lst (.inl (.inl e1)) (Rps.dp l xs e2 (by simpa [pureD] using p))
    | dct l => simp [pureD] at p
    | ins n l => simp [pureD] at p
    | _ => exact k.elim
theorem pure_of_okEq {d : D} (h : okEq d = true) : pureD d = true := by
  unfold okEq at h
  rw [Bool.and_eq_true] at h
  exact h.1

/-! ### comparisons -/
theorem Lb.int {c : Rc} {A : Addr → Prop} {H : Hp} {i : Int} {v : V} (h : Lb c A H (.int i) v) : v = .int i := Lb.flat h rfl
theorem Lb.str {c : Rc} {A : Addr → Prop} {H : Hp} {i : Str} {v : V} (h : Lb c A H (.str i) v) : v = .str i := Lb.flat h rfl
theorem opr_or {f : Value → Value → Sem Value} {r1 r2 : R2} (h1 : OpR X f r1) (h2 : OpR X f r2) : OpR X f (fun x y H Q => r1 x y H Q ∨ r2 x y H Q) := fun pins s σ H x y v u Q I rx ry h => h.elim (h1 pins s σ H x y v u Q I rx ry) (h2 pins s σ H x y v u Q I rx ry)
theorem cmpEq_or {d e : D} {z : Bool} (h : opCmp .Eq d e = some z) : (∃ a b, d = .str a ∧ e = .str b ∧ z = decide (a = b)) ∨ (if (okEq d && okEq e) = true then some (PyData.eqv (toP d) (toP e)) else none) = some z := by
  cases d <;> cases e <;> first | exact .inr h | (cases h; exact .inl ⟨_, _, rfl, rfl, rfl⟩)
theorem cmpNe_or {d e : D} {z : Bool} (h : opCmp .NotEq d e = some z) : (∃ a b, d = .str a ∧ e = .str b ∧ z = !decide (a = b)) ∨ (if (okEq d && okEq e) = true then some (!PyData.eqv (toP d) (toP e)) else none) = some z := by
  cases d <;> cases e <;> first | exact .inr h | (cases h; exact .inl ⟨_, _, rfl, rfl, rfl⟩)
theorem dec_strV {a b : Str} : decide (V.str a = V.str b) = decide (a = b) := by
  by_cases h : a = b
  · subst h; simp
  · have : ¬ V.str a = V.str b := fun z => h (V.str.inj z)
    simp [h, this]
theorem cmp_eq (hu : X.A.units + 64 < cLine) : CmpR R cls X .Eq (fun x y H Q => rEqD X.K x y H Q ∨ rEq x y H Q) := ⟨opr_or (op_eqD hu) op_eq, fun g A H d e v w z Q l1 l2 h q => by
  rcases cmpEq_or h with ⟨a, b, rfl, rfl, rfl⟩ | h
  · rw [l1.str, l2.str]
    exact .inr ⟨rfl, by rw [dec_strV]; exact q⟩
  · split at h
    · rename_i k
      rw [Bool.and_eq_true] at k
      cases h
      exact .inl ⟨_, _, l1.dp (pure_of_okEq k.1), l2.dp (pure_of_okEq k.2), shaped_of_okEq k.1, shaped_of_okEq k.2, q⟩
    · cases h⟩
theorem cmp_ne (hu : X.A.units + 64 < cLine) : CmpR R cls X .NotEq (fun x y H Q => rNeD X.K x y H Q ∨ rNe x y H Q) := ⟨opr_or (op_neD hu) op_ne, fun g A H d e v w z Q l1 l2 h q => by
  rcases cmpNe_or h with ⟨a, b, rfl, rfl, rfl⟩ | h
  · rw [l1.str, l2.str]
    exact .inr ⟨rfl, by rw [dec_strV]; exact q⟩
  · split at h
    · rename_i k
      rw [Bool.and_eq_true] at k
      cases h
      exact .inl ⟨_, _, l1.dp (pure_of_okEq k.1), l2.dp (pure_of_okEq k.2), shaped_of_okEq k.1, shaped_of_okEq k.2, q⟩
    · cases h⟩
theorem cmp_lt : CmpR R cls X .Lt (rI0 fun i j => .bl (decide (i < j))) := ⟨op_lt, fun g A H d e v w z Q l1 l2 h q => by
  cases d <;> cases e <;> first | cases h; exact ⟨_, _, l1.int, l2.int, q⟩ | cases h⟩
theorem cmp_le : CmpR R cls X .LtE (rI0 fun i j => .bl (decide (i ≤ j))) := ⟨op_le, fun g A H d e v w z Q l1 l2 h q => by
  cases d <;> cases e <;> first | cases h; exact ⟨_, _, l1.int, l2.int, q⟩ | cases h⟩
theorem cmp_gt : CmpR R cls X .Gt (rI0 fun i j => .bl (decide (j < i))) := ⟨op_gt, fun g A H d e v w z Q l1 l2 h q => by
  cases d <;> cases e <;> first | cases h; exact ⟨_, _, l1.int, l2.int, q⟩ | cases h⟩
theorem cmp_ge : CmpR R cls X .GtE (rI0 fun i j => .bl (decide (j ≤ i))) := ⟨op_ge, fun g A H d e v w z Q l1 l2 h q => by
  cases d <;> cases e <;> first | cases h; exact ⟨_, _, l1.int, l2.int, q⟩ | cases h⟩
theorem cmp_is : CmpR R cls X .Is (fun x y H Q => y = .non ∧ Q (.bl (decide (x = .non))) H) := ⟨op_isN, fun g A H d e v w z Q l1 l2 h q => by
  cases e with
  | non =>
    have h : some (isNon d) = some z := by cases d <;> exact h
    cases h
    exact ⟨Lb.flat l2 rfl, by rw [l1.isN]; exact q⟩
  | _ => cases d <;> cases h⟩
theorem cmp_isnot : CmpR R cls X .IsNot (fun x y H Q => y = .non ∧ Q (.bl (!decide (x = .non))) H) := ⟨op_notN, fun g A H d e v w z Q l1 l2 h q => by
  cases e with
  | non =>
    have h : some (!isNon d) = some z := by cases d <;> exact h
    cases h
    exact ⟨Lb.flat l2 rfl, by rw [l1.isN]; exact q⟩
  | _ => cases d <;> cases h⟩
theorem inD_of {c : Rc} {A : Addr → Prop} {H : Hp} {d : D} {v : V} {l : List D} {xs : List V} {z : Bool} (h : inD d l = some z) (l1 : Lb c A H d v) (r : Rps c A H l xs) : flatV v = true ∧ xs.all flatV = true ∧ inV v xs = z := by
  unfold inD at h
  split at h
  · rename_i k
    rw [Bool.and_eq_true] at k
    cases h
    obtain ⟨a1, a2⟩ := flat_toV l1 k.1
    obtain ⟨b1, b2⟩ := flats_toV r k.2
    exact ⟨a2, b2, by rw [a1, b1]⟩
  · cases h
theorem cmp_in : CmpR R cls X .In (fun x y H Q => rIn X.K false x y H Q ∨ (fun x y H Q => ∃ i j, x = .str i ∧ y = .str j ∧ Q (.bl (!(Builtin.Str.occurrences j i 0 j.length 1).isEmpty)) H) x y H Q) := ⟨op_in_seq.or op_in_str, fun g A H d e v w z Q l1 l2 h q => by
  cases e with
  | lst l =>
    have h : inD d l = some z := by cases d <;> exact h
    rcases l2 with ⟨a, xs, e1, e2, _, _, e5⟩ | ⟨a, e1, _, xs, e2, _, e5⟩
    · obtain ⟨f1, f2, f3⟩ := inD_of h l1 e5
      exact .inl ⟨a, xs, e1, .inl (.inl (.inl e2)), f1, f2, by rw [if_neg Bool.false_ne_true, f3]; exact q⟩
    · obtain ⟨f1, f2, f3⟩ := inD_of h l1 e5
      exact .inl ⟨a, xs, e1, .inl (.inl (.inl e2)), f1, f2, by rw [if_neg Bool.false_ne_true, f3]; exact q⟩
  | tup l =>
    have h : inD d l = some z := by cases d <;> exact h
    obtain ⟨a, xs, e1, e2, e5⟩ := l2.tup
    obtain ⟨f1, f2, f3⟩ := inD_of h l1 e5
    exact .inl ⟨a, xs, e1, .inr e2, f1, f2, by rw [if_neg Bool.false_ne_true, f3]; exact q⟩
  | str b =>
    cases d with
    | str a => cases h; exact .inr ⟨a, b, l1.str, l2.str, q⟩
    | _ => cases h
  | _ => cases d <;> cases h⟩
theorem cmp_notin : CmpR R cls X .NotIn (fun x y H Q => rIn X.K true x y H Q ∨ (fun x y H Q => ∃ i j, x = .str i ∧ y = .str j ∧ Q (.bl (!(!(Builtin.Str.occurrences j i 0 j.length 1).isEmpty))) H) x y H Q) := ⟨op_notIn_seq.or op_notIn_str, fun g A H d e v w z Q l1 l2 h q => by
  cases e with
  | lst l =>
    have h : (inD d l).map (!·) = some z := by cases d <;> exact h
    obtain ⟨y, hb, rfl⟩ := Option.map_eq_some_iff.mp h
    clear h
    have h := hb
    rcases l2 with ⟨a, xs, e1, e2, _, _, e5⟩ | ⟨a, e1, _, xs, e2, _, e5⟩
    · obtain ⟨f1, f2, f3⟩ := inD_of h l1 e5
      exact .inl ⟨a, xs, e1, .inl (.inl (.inl e2)), f1, f2, by rw [if_pos rfl, f3]; exact q⟩
    · obtain ⟨f1, f2, f3⟩ := inD_of h l1 e5
      exact .inl ⟨a, xs, e1, .inl (.inl (.inl e2)), f1, f2, by rw [if_pos rfl, f3]; exact q⟩
  | tup l =>
    have h : (inD d l).map (!·) = some z := by cases d <;> exact h
    obtain ⟨y, hb, rfl⟩ := Option.map_eq_some_iff.mp h
    clear h
    have h := hb
    obtain ⟨a, xs, e1, e2, e5⟩ := l2.tup
    obtain ⟨f1, f2, f3⟩ := inD_of h l1 e5
    exact .inl ⟨a, xs, e1, .inr e2, f1, f2, by rw [if_pos rfl, f3]; exact q⟩
  | str b =>
    cases d with
    | str a => cases h; exact .inr ⟨a, b, l1.str, l2.str, q⟩
    | _ => cases h
  | _ => cases d <;> cases h⟩

/-! ### arithmetic -/
def BinR (R : RS) (cls : Str → Addr) (X : Cx) (op : Operator) (m : Md) (r : R2) : Prop := OpR X (binaryOp op) r ∧
  ∀ g A H0 H d e v w z Q, (∀ a, Gv (rc cls X g) a → A a) → (∀ a, Gv (rc cls X g) a → H a ≠ none) → Ext (Gv (rc cls X g)) H0 H → Lb (rc cls X g) A H d v → Lb (rc cls X g) A H e w → opBin op d e = some z →
      (∀ v H', Ext (Gv (rc cls X g)) H H' → (∀ g' s, g' = g → R.ok g' s H → R.ok g' s H') → Rm m (rc cls X g) A H0 H' z v → Q v H') → r v w H Q
theorem bin_add : BinR R cls X .Add .fr (fun x y H Q => rI0 (fun i j => .int (i + j)) x y H Q ∨ (fun x y H Q => (fun x y H Q => ∃ i j, x = .str i ∧ y = .str j ∧ i.length + j.length ≤ sizeLine ∧ Q (.str (i ++ j)) H) x y H Q ∨ rCat x y H Q) x y H Q) :=
  ⟨op_add.or (op_add_str.or op_cat), fun g A H0 H d e v w z Q hg ht x0 l1 l2 h q => by
    cases d with
    | int i =>
      cases e with
      | int j => cases h; exact .inl ⟨i, j, l1.int, l2.int, q _ H Ext.refl (fun _ _ _ o => o) (Rm.of_flat rfl rfl)⟩
      | _ => cases h
    | str i =>
      cases e with
      | str j =>
        have h : (if i.length + j.length ≤ sizeLine then some (D.str (i ++ j)) else none) = some z := h
        split at h
        · cases h
          exact .inr (.inl ⟨i, j, l1.str, l2.str, by assumption, q _ H Ext.refl (fun _ _ _ o => o) (Rm.of_flat rfl rfl)⟩)
        · cases h
      | _ => cases h
    | lst i =>
      cases e with
      | lst j =>
        have h : (if i.length + j.length ≤ sizeLine then some (D.lst (i ++ j)) else none) = some z := h
        split at h
        · rename_i hl
          cases h
          obtain ⟨a, xs, e1, e2, e3, e4, e5⟩ := l1.lst hg
          obtain ⟨b, ys, f1, f2, f3, f4, f5⟩ := l2.lst hg
          refine .inr (.inr ⟨a, b, xs, ys, e1, f1, e2, f2, by rw [e4.length, f4.length]; exact hl, fun p hp => ?_⟩)
          have x2 : Ext (Gv (rc cls X g)) H (upd H p (.lst (xs ++ ys))) := Ext.new hp
          exact q _ _ x2 (fun g' s e o => RS.new o hp) (.inr ⟨p, rfl, x0.back ht hp, _, upd_same, by rw [List.length_append]; exact hl, ((e4.append f4).plus hp).ext x2 fun a h => .inl (hg a h)⟩)
        · cases h
      | _ => cases h
    | _ => cases e <;> cases h⟩
theorem Rps.reps {c : Rc} {A : Addr → Prop} {H : Hp} {ds : List D} {vs : List V} (h : Rps c A H ds vs) : ∀ n : Nat, Rps c A H (List.replicate n ds).flatten (List.replicate n vs).flatten
  | 0 => rfl
  | n + 1 => by
    rw [List.replicate_succ, List.replicate_succ, List.flatten_cons, List.flatten_cons]
    exact h.append (Rps.reps h n)
def rMul : R2 := fun x y H Q => (fun x y H Q => rI CMul (fun i j => .int (i * j)) x y H Q ∨ rI CMulW (fun i j => .int (i * j)) x y H Q) x y H Q ∨ rRep x y H Q
theorem bin_mul : BinR R cls X .Mult .fr rMul := ⟨(op_mul.or op_mulW).or op_rep, fun g A H0 H d e v w z Q hg ht x0 l1 l2 h q => by
  cases d with
  | int i =>
    cases e with
    | int j =>
      have h : (if mulOk i j = true then some (D.int (i * j)) else none) = some z := h
      split at h
      · rename_i k
        cases h
        have q := q _ H Ext.refl (fun _ _ _ o => o) (Rm.of_flat rfl rfl)
        unfold mulOk at k
        rw [Bool.or_eq_true, Bool.or_eq_true] at k
        rcases k with (k | k) | k
        · have k := of_decide_eq_true k
          exact .inl (.inl ⟨i, j, l1.int, l2.int, .inl (by omega), q⟩)
        · have k := of_decide_eq_true k
          exact .inl (.inl ⟨i, j, l1.int, l2.int, .inr (by omega), q⟩)
        · have k := of_decide_eq_true k
          exact .inl (.inr ⟨i, j, l1.int, l2.int, k, q⟩)
      · cases h
    | _ => cases h
  | lst l =>
    cases e with
    | int j =>
      have h : (if -(2 ^ 63) ≤ j ∧ j < 2 ^ 63 ∧ l.length * j.toNat ≤ sizeLine then some (D.lst (List.replicate j.toNat l).flatten) else none) = some z := h
      split at h
      · rename_i k
        cases h
        obtain ⟨a, xs, e1, e2, e3, e4, e5⟩ := l1.lst hg
        refine .inr ⟨a, j, xs, e1, l2.int, e2, k.1, k.2.1, by rw [e4.length]; exact k.2.2, fun p hp => ?_⟩
        have x2 : Ext (Gv (rc cls X g)) H (upd H p (.lst (List.replicate j.toNat xs).flatten)) := Ext.new hp
        have lr : (List.replicate j.toNat l).flatten.length ≤ sizeLine := by
          rw [PyProof.Rows.lm_len_rep_flat, Nat.mul_comm]
          exact k.2.2
        exact q _ _ x2 (fun g' s e o => RS.new o hp) (.inr ⟨p, rfl, x0.back ht hp, _, upd_same, lr, ((e4.reps j.toNat).plus hp).ext x2 fun a h => .inl (hg a h)⟩)
      · cases h
    | _ => cases h
  | _ => cases e <;> cases h⟩
theorem bin_sub : BinR R cls X .Sub .rp (rI0 fun i j => .int (i - j)) := ⟨op_sub, fun g A H0 H d e v w z Q hg ht x0 l1 l2 h q => by
  cases d with
  | int i =>
    cases e with
    | int j => cases h; exact ⟨i, j, l1.int, l2.int, q _ H Ext.refl (fun _ _ _ o => o) (Rm.of_flat rfl rfl)⟩
    | _ => cases h
  | _ => cases e <;> cases h⟩
theorem bin_fdiv : BinR R cls X .FloorDiv .rp (rI CDivW fun i j => .int (i / j)) := ⟨op_fdivW, fun g A H0 H d e v w z Q hg ht x0 l1 l2 h q => by
  cases d with
  | int i =>
    cases e with
    | int j =>
      have h : (if 0 < j ∧ j.natAbs.log2 < 9000 then some (D.int (i / j)) else none) = some z := h
      split at h
      · rename_i k
        cases h
        exact ⟨i, j, l1.int, l2.int, k, q _ H Ext.refl (fun _ _ _ o => o) (Rm.of_flat rfl rfl)⟩
      · cases h
    | _ => cases h
  | _ => cases e <;> cases h⟩
theorem bin_mod : BinR R cls X .Mod .rp (rI (fun _ j => 0 < j) fun i j => .int (i % j)) := ⟨op_mod, fun g A H0 H d e v w z Q hg ht x0 l1 l2 h q => by
  cases d with
  | int i =>
    cases e with
    | int j =>
      have h : (if 0 < j then some (D.int (i % j)) else none) = some z := h
      split at h
      · rename_i k
        cases h
        exact ⟨i, j, l1.int, l2.int, k, q _ H Ext.refl (fun _ _ _ o => o) (Rm.of_flat rfl rfl)⟩
      · cases h
    | _ => cases h
  | _ => cases e <;> cases h⟩
theorem bin_pow : BinR R cls X .Pow .rp (rI CPow fun i j => .int (i ^ j.toNat)) := ⟨op_pow, fun g A H0 H d e v w z Q hg ht x0 l1 l2 h q => by
  cases d with
  | int i =>
    cases e with
    | int j =>
      have h : (if powOk i j = true then some (D.int (i ^ j.toNat)) else none) = some z := h
      split at h
      · rename_i k
        cases h
        unfold powOk at k
        have k := of_decide_eq_true k
        exact ⟨i, j, l1.int, l2.int, k, q _ H Ext.refl (fun _ _ _ o => o) (Rm.of_flat rfl rfl)⟩
      · cases h
    | _ => cases h
  | _ => cases e <;> cases h⟩

/-! ### built-ins -/
def Lbs (c : Rc) (A : Addr → Prop) (H : Hp) : List D → List V → Prop
  | [], vs => vs = []
  | d :: ds, vs => ∃ v ws, vs = v :: ws ∧ Lb c A H d v ∧ Lbs c A H ds ws
theorem Rms.lbs {c : Rc} {A : Addr → Prop} {H0 H : Hp} : ∀ {es : List IE} {ds : List D} {vs : List V}, Rms c A H0 H es ds vs → Lbs c A H ds vs
  | [], ds, vs, h => by rw [h.1, h.2]; exact rfl
  | e :: es, ds, vs, h => by
    obtain ⟨d, ds', v, vs', rfl, rfl, h1, h2⟩ := h
    refine ⟨v, vs', rfl, ?_, Rms.lbs h2⟩
    split at h1
    · exact h1
    · exact .inl h1
theorem Lbs.one {c : Rc} {A : Addr → Prop} {H : Hp} {d : D} {vs : List V} (h : Lbs c A H [d] vs) : ∃ v, vs = [v] ∧ Lb c A H d v := by
  obtain ⟨v, ws, e, l, k⟩ := h
  have k : ws = [] := k
  subst k
  exact ⟨v, e, l⟩
theorem Lbs.two {c : Rc} {A : Addr → Prop} {H : Hp} {d e : D} {vs : List V} (h : Lbs c A H [d, e] vs) : ∃ v w, vs = [v, w] ∧ Lb c A H d v ∧ Lb c A H e w := by
  obtain ⟨v, ws, e1, l, k⟩ := h
  obtain ⟨w, e2, l2⟩ := Lbs.one k
  subst e2
  exact ⟨v, w, e1, l, l2⟩
theorem spl {es : List Expr} {env : PySem.Env} {pos : Pos} (h : es.all (fun e => match e with | .Starred .. => false | _ => true) = true) : (backTo pos (starEach es env)).any (·.1) = false := by
  induction es with
  | nil => rfl
  | cons e es ih =>
    rw [List.all_cons, Bool.and_eq_true] at h
    have q := ih h.2
    cases e <;> first | exact q | (have z := h.1; cases z)
def noStar (e : Expr) : Bool := match e with
  | .Starred .. => false
  | _ => true
theorem star_cons {e : Expr} {es : List Expr} {env : PySem.Env} (h : noStar e = true) : starEach (e :: es) env = (false, eval e env) :: starEach es env := by
  cases e <;> first | rfl | cases h
/-- a built-in, by its rule -/
def BiR (R : RS) (cls : Str → Addr) (X : Cx) (f : Bi) (v : Value) (m : Md) : Prop := ∃ r : List V → Hp → VK → Prop, CallR X v r ∧
  ∀ g A H0 H ds vs z Q, (∀ a, Gv (rc cls X g) a → A a) → (∀ a, Gv (rc cls X g) a → H a ≠ none) → Ext (Gv (rc cls X g)) H0 H → Lbs (rc cls X g) A H ds vs → opBi f ds = some z →
      (∀ v H', Ext (Gv (rc cls X g)) H H' → (∀ g' s, g' = g → R.ok g' s H → R.ok g' s H') → Rm m (rc cls X g) A H0 H' z v → Q v H') → r vs H Q
theorem se_biB {x : Str} {p pos : Pos} {e : Expr} {es : List Expr} {ies : List IE} {f : Bi} {id : String} (hc : BiR R cls X f (.builtin id) (md (.bi f ies))) (hg : Gl X x) (hm : X.mg x = none) (hv : bootBuiltins x = some (.builtin id)) (h : SA R cls Γ X (e :: es) ies)
    (hn : x ≠ "__name__") (hdb : (x == ("__debug__" : Str)) = false) (hs : noStar e = true) (hss : es.all noStar = true) : SE R cls Γ X (.Call (.Name x p) (e :: es) [] pos) (.bi f ies) := by
  obtain ⟨r, hr, hk⟩ := hc
  obtain ⟨t, pa, q⟩ := h
  refine ⟨_, pe_callB hr hg hm hv pa hn hdb (star_cons hs) (spl hss), fun σ H Q g A0 env s k o h => ?_⟩
  unfold ev at h
  refine SA.bindE q k o h fun ds s1 vs H1 x1 o1 r1 k1 h => ?_
  obtain ⟨z, hz, hq⟩ := opt_ofE' h
  exact hk g (Av A0 env σ) H H1 ds vs z Q k.gA k1.gTr x1 r1.lbs hz fun v H2 x2 o2 r2 => hq v H2 (x1.trans x2) (o2 g s1 rfl o1) r2
theorem se_biT {x : Str} {p pos : Pos} {e : Expr} {es : List Expr} {ies : List IE} {f : Bi} {id : String} (hc : BiR R cls X f (.type id) (md (.bi f ies))) (hg : Gl X x) (hm : X.mg x = none) (hv : bootBuiltins x = some (.type id)) (h : SA R cls Γ X (e :: es) ies)
    (hn : x ≠ "__name__") (hdb : (x == ("__debug__" : Str)) = false) (hs : noStar e = true) (hss : es.all noStar = true) : SE R cls Γ X (.Call (.Name x p) (e :: es) [] pos) (.bi f ies) := by
  obtain ⟨r, hr, hk⟩ := hc
  obtain ⟨t, pa, q⟩ := h
  refine ⟨_, pe_callTy hr hg hm hv pa hn hdb (star_cons hs) (spl hss), fun σ H Q g A0 env s k o h => ?_⟩
  unfold ev at h
  refine SA.bindE q k o h fun ds s1 vs H1 x1 o1 r1 k1 h => ?_
  obtain ⟨z, hz, hq⟩ := opt_ofE' h
  exact hk g (Av A0 env σ) H H1 ds vs z Q k.gA k1.gTr x1 r1.lbs hz fun v H2 x2 o2 r2 => hq v H2 (x1.trans x2) (o2 g s1 rfl o1) r2
theorem bi_len {m : Md} : BiR R cls X .len (.builtin "len") m := ⟨_, call_len_seq.or call_len_str, fun g A H0 H ds vs z Q hg ht x0 l h q => by
  match ds, h with
  | [.lst l'], h =>
    obtain ⟨v, rfl, l1⟩ := l.one
    cases h
    obtain ⟨a, xs, e1, e2, _, e4, _⟩ := l1.lst hg
    exact .inl ⟨a, xs, by rw [e1], .inl (.inl (.inl e2)), by rw [e4.length]; exact q _ H Ext.refl (fun _ _ _ o => o) (Rm.of_flat rfl rfl)⟩
  | [.tup l'], h =>
    obtain ⟨v, rfl, l1⟩ := l.one
    cases h
    obtain ⟨a, xs, e1, e2, e4⟩ := l1.tup
    exact .inl ⟨a, xs, by rw [e1], .inr e2, by rw [e4.length]; exact q _ H Ext.refl (fun _ _ _ o => o) (Rm.of_flat rfl rfl)⟩
  | [.scr l'], h =>
    obtain ⟨v, rfl, l1⟩ := l.one
    cases h
    obtain ⟨a, e1, e2⟩ : Rp (rc cls X g) A H (.scr l') v := Lb.flat l1 rfl
    exact .inl ⟨a, _, by rw [e1], .inl e2.sq, by rw [List.length_map]; exact q _ H Ext.refl (fun _ _ _ o => o) (Rm.of_flat rfl rfl)⟩
  | [.str s], h =>
    obtain ⟨v, rfl, l1⟩ := l.one
    have h : (if s.length ≤ sizeLine then some (D.int s.length) else none) = some z := h
    split at h
    · cases h
      exact .inr ⟨s, by rw [l1.str], by assumption, q _ H Ext.refl (fun _ _ _ o => o) (Rm.of_flat rfl rfl)⟩
    · cases h⟩
theorem bi_int {m : Md} : BiR R cls X .int (.type "int") m := ⟨_, call_int1, fun g A H0 H ds vs z Q hg ht x0 l h q => by
  match ds, h with
  | [.int i], h =>
    obtain ⟨v, rfl, l1⟩ := l.one
    cases h
    exact .inl ⟨i, by rw [l1.int], q _ H Ext.refl (fun _ _ _ o => o) (Rm.of_flat rfl rfl)⟩
  | [.bl b], h =>
    obtain ⟨v, rfl, l1⟩ := l.one
    cases h
    have e : v = .bl b := Lb.flat l1 rfl
    exact .inr ⟨b, by rw [e], q _ H Ext.refl (fun _ _ _ o => o) (Rm.of_flat rfl rfl)⟩⟩
theorem bi_abs {m : Md} : BiR R cls X .abs (.builtin "abs") m := ⟨_, call_abs, fun g A H0 H ds vs z Q hg ht x0 l h q => by
  match ds, h with
  | [.int i], h =>
    obtain ⟨v, rfl, l1⟩ := l.one
    cases h
    exact ⟨i, by rw [l1.int], q _ H Ext.refl (fun _ _ _ o => o) (Rm.of_flat rfl rfl)⟩⟩
theorem intsOf_rps {c : Rc} {A : Addr → Prop} {H : Hp} : ∀ {l : List D} {ns : List Int} {xs : List V}, intsOf l = some ns → Rps c A H l xs → xs = ns.map V.int
  | [], ns, xs, e, h => by
    cases e
    exact h
  | .int i :: r, ns, xs, e, h => by
    obtain ⟨v, ws, rfl, h1, h2⟩ := h
    unfold intsOf at e
    cases q : intsOf r with
    | none => rw [q] at e; cases e
    | some m =>
      rw [q] at e
      cases e
      have h1 : v = .int i := h1
      rw [h1, intsOf_rps q h2]
      rfl
  | .non :: _, _, _, e, _ => by cases e
  | .bl _ :: _, _, _, e, _ => by cases e
  | .str _ :: _, _, _, e, _ => by cases e
  | .tup _ :: _, _, _, e, _ => by cases e
  | .lst _ :: _, _, _, e, _ => by cases e
  | .dct _ :: _, _, _, e, _ => by cases e
  | .ins _ _ :: _, _, _, e, _ => by cases e
  | .rng :: _, _, _, e, _ => by cases e
  | .scr _ :: _, _, _, e, _ => by cases e
theorem foldMax : ∀ (r : List Int) (i : Int), (r.foldl (fun a b => if b > a then b else a) i = i ∨ r.foldl (fun a b => if b > a then b else a) i ∈ r) ∧ i ≤ r.foldl (fun a b => if b > a then b else a) i ∧ ∀ y ∈ r, y ≤ r.foldl (fun a b => if b > a then b else a) i
  | [], i => ⟨.inl rfl, Int.le_refl _, fun y h => nomatch h⟩
  | x :: r, i => by
    obtain ⟨a, b, c⟩ := foldMax r (if x > i then x else i)
    rw [List.foldl_cons]
    refine ⟨?_, ?_, fun y hy => ?_⟩
    · rcases a with a | a
      · rw [a]
        split
        · exact .inr (List.mem_cons_self ..)
        · exact .inl rfl
      · exact .inr (List.mem_cons_of_mem _ a)
    · refine Int.le_trans ?_ b
      split <;> omega
    · rcases List.mem_cons.mp hy with rfl | hy
      · refine Int.le_trans ?_ b
        split <;> omega
      · exact c y hy
theorem foldMin : ∀ (r : List Int) (i : Int), (r.foldl (fun a b => if b < a then b else a) i = i ∨ r.foldl (fun a b => if b < a then b else a) i ∈ r) ∧ r.foldl (fun a b => if b < a then b else a) i ≤ i ∧ ∀ y ∈ r, r.foldl (fun a b => if b < a then b else a) i ≤ y
  | [], i => ⟨.inl rfl, Int.le_refl _, fun y h => nomatch h⟩
  | x :: r, i => by
    obtain ⟨a, b, c⟩ := foldMin r (if x < i then x else i)
    rw [List.foldl_cons]
    refine ⟨?_, ?_, fun y hy => ?_⟩
    · rcases a with a | a
      · rw [a]
        split
        · exact .inr (List.mem_cons_self ..)
        · exact .inl rfl
      · exact .inr (List.mem_cons_of_mem _ a)
    · refine Int.le_trans b ?_
      split <;> omega
    · rcases List.mem_cons.mp hy with rfl | hy
      · refine Int.le_trans b ?_
        split <;> omega
      · exact c y hy
theorem maxI_ok {ns : List Int} {m : Int} (h : maxI ns = some m) : 0 < ns.length ∧ m ∈ ns ∧ ∀ y ∈ ns, y ≤ m := by
  cases ns with
  | nil => cases h
  | cons i r =>
    cases h
    obtain ⟨a, b, c⟩ := foldMax r i
    refine ⟨by simp, ?_, fun y hy => ?_⟩
    · rcases a with a | a
      · rw [a]; exact List.mem_cons_self ..
      · exact List.mem_cons_of_mem _ a
    · rcases List.mem_cons.mp hy with rfl | hy
      · exact b
      · exact c y hy
theorem minI_ok {ns : List Int} {m : Int} (h : minI ns = some m) : 0 < ns.length ∧ m ∈ ns ∧ ∀ y ∈ ns, m ≤ y := by
  cases ns with
  | nil => cases h
  | cons i r =>
    cases h
    obtain ⟨a, b, c⟩ := foldMin r i
    refine ⟨by simp, ?_, fun y hy => ?_⟩
    · rcases a with a | a
      · rw [a]; exact List.mem_cons_self ..
      · exact List.mem_cons_of_mem _ a
    · rcases List.mem_cons.mp hy with rfl | hy
      · exact b
      · exact c y hy
theorem bi_max {m : Md} (hc : X.calm = true) : BiR R cls X .max (.builtin "max") m := ⟨_, (call_max2 hc).or (cr_max hc), fun g A H0 H ds vs z Q hg ht x0 l h q => by
  match ds, h with
  | [.int i, .int j], h =>
    obtain ⟨v, w, rfl, l1, l2⟩ := l.two
    cases h
    exact .inl ⟨i, j, by rw [l1.int, l2.int], q _ H Ext.refl (fun _ _ _ o => o) (Rm.of_flat rfl rfl)⟩
  | [.lst l'], h =>
    obtain ⟨v, rfl, l1⟩ := l.one
    have h : ((intsOf l').bind fun ns => (maxI ns).map D.int) = some z := h
    obtain ⟨ns, h1, h2⟩ := Option.bind_eq_some_iff.mp h
    obtain ⟨mm, h3, rfl⟩ := Option.map_eq_some_iff.mp h2
    obtain ⟨a, xs, e1, e2, e3, e4, _⟩ := l1.lst hg
    obtain ⟨w1, w2, w3⟩ := maxI_ok h3
    have ex := intsOf_rps h1 e4
    subst ex
    refine .inr ⟨a, ns, by rw [e1], .inl (.inl e2), w1, fun m2 z1 z2 => ?_⟩
    have : m2 = mm := Int.le_antisymm (w3 m2 z1) (z2 mm w2)
    subst this
    exact q _ H Ext.refl (fun _ _ _ o => o) (Rm.of_flat rfl rfl)⟩
theorem bi_min {m : Md} (hc : X.calm = true) : BiR R cls X .min (.builtin "min") m := ⟨_, (call_min2 hc).or (cr_min hc), fun g A H0 H ds vs z Q hg ht x0 l h q => by
  match ds, h with
  | [.int i, .int j], h =>
    obtain ⟨v, w, rfl, l1, l2⟩ := l.two
    cases h
    exact .inl ⟨i, j, by rw [l1.int, l2.int], q _ H Ext.refl (fun _ _ _ o => o) (Rm.of_flat rfl rfl)⟩
  | [.lst l'], h =>
    obtain ⟨v, rfl, l1⟩ := l.one
    have h : ((intsOf l').bind fun ns => (minI ns).map D.int) = some z := h
    obtain ⟨ns, h1, h2⟩ := Option.bind_eq_some_iff.mp h
    obtain ⟨mm, h3, rfl⟩ := Option.map_eq_some_iff.mp h2
    obtain ⟨a, xs, e1, e2, e3, e4, _⟩ := l1.lst hg
    obtain ⟨w1, w2, w3⟩ := minI_ok h3
    have ex := intsOf_rps h1 e4
    subst ex
    refine .inr ⟨a, ns, by rw [e1], .inl (.inl e2), w1, fun m2 z1 z2 => ?_⟩
    have : m2 = mm := Int.le_antisymm (z2 mm w2) (w3 m2 z1)
    subst this
    exact q _ H Ext.refl (fun _ _ _ o => o) (Rm.of_flat rfl rfl)⟩
theorem bi_list : BiR R cls X .list (.type "list") .fr := ⟨_, call_list_of, fun g A H0 H ds vs z Q hg ht x0 l h q => by
  match ds, h with
  | [.lst l'], h =>
    obtain ⟨v, rfl, l1⟩ := l.one
    cases h
    obtain ⟨a, xs, e1, e2, e3, e4, _⟩ := l1.lst hg
    refine ⟨a, xs, by rw [e1], .inl (.inl (.inl e2)), fun p hp => ?_⟩
    have x2 : Ext (Gv (rc cls X g)) H (upd H p (.lst xs)) := Ext.new hp
    exact q _ _ x2 (fun g' s e o => RS.new o hp) (.inr ⟨p, rfl, x0.back ht hp, _, upd_same, e3, (e4.plus hp).ext x2 fun a h => .inl (hg a h)⟩)
  | [.tup l'], h =>
    obtain ⟨v, rfl, l1⟩ := l.one
    have h : (if l'.length ≤ sizeLine then some (D.lst l') else none) = some z := h
    split at h
    · rename_i hl
      cases h
      obtain ⟨a, xs, e1, e2, e4⟩ := l1.tup
      refine ⟨a, xs, by rw [e1], .inr e2, fun p hp => ?_⟩
      have x2 : Ext (Gv (rc cls X g)) H (upd H p (.lst xs)) := Ext.new hp
      exact q _ _ x2 (fun g' s e o => RS.new o hp) (.inr ⟨p, rfl, x0.back ht hp, _, upd_same, hl, (e4.plus hp).ext x2 fun a h => .inl (hg a h)⟩)
    · cases h⟩
theorem bi_tuple : BiR R cls X .tuple (.type "tuple") .rp := ⟨_, call_tuple_of, fun g A H0 H ds vs z Q hg ht x0 l h q => by
  match ds, h with
  | [.lst l'], h =>
    obtain ⟨v, rfl, l1⟩ := l.one
    cases h
    obtain ⟨a, xs, e1, e2, e3, e4, _⟩ := l1.lst hg
    refine ⟨a, xs, by rw [e1], .inl ⟨.inl (.inl e2), fun p hp => ?_⟩⟩
    have x2 : Ext (Gv (rc cls X g)) H (upd H p (.tup xs)) := Ext.new hp
    exact q _ _ x2 (fun g' s e o => RS.new o hp) ⟨p, xs, rfl, .inl (.inl upd_same), e4.ext x2 hg⟩
  | [.tup l'], h =>
    obtain ⟨v, rfl, l1⟩ := l.one
    cases h
    obtain ⟨a, xs, e1, e2, e4⟩ := l1.tup
    exact ⟨a, xs, by rw [e1], .inr ⟨e2, q _ H Ext.refl (fun _ _ _ o => o) ⟨a, xs, rfl, e2, e4⟩⟩⟩⟩
theorem boolsOf_rps {c : Rc} {A : Addr → Prop} {H : Hp} : ∀ {l : List D} {bs : List Bool} {xs : List V}, boolsOf l = some bs → Rps c A H l xs → xs = bs.map V.bl
  | [], bs, xs, h, r => by cases h; exact r
  | d :: l, bs, xs, h, r => by
    obtain ⟨v, ws, e1, e2, e3⟩ := r
    cases d with
    | bl b =>
      have h : (boolsOf l).map (b :: ·) = some bs := h
      obtain ⟨y, hb, rfl⟩ := Option.map_eq_some_iff.mp h
      have e2 : v = .bl b := e2
      rw [e1, e2, boolsOf_rps hb e3]
      rfl
    | _ => cases h
theorem bi_all {m : Md} (hc : X.calm = true) : BiR R cls X .all (.builtin "all") m := ⟨_, cr_all hc, fun g A H0 H ds vs z Q hg ht x0 l h q => by
  match ds, h with
  | [.lst l'], h =>
    obtain ⟨v, rfl, l1⟩ := l.one
    have h : ((boolsOf l').map fun bs => D.bl (bs.all id)) = some z := h
    obtain ⟨bs, hb, rfl⟩ := Option.map_eq_some_iff.mp h
    obtain ⟨a, xs, e1, e2, e3, e4, _⟩ := l1.lst hg
    exact ⟨a, bs, by rw [e1], by rw [← boolsOf_rps hb e4]; exact .inl (.inl e2), q _ H Ext.refl (fun _ _ _ o => o) (Rm.of_flat rfl rfl)⟩⟩
/-- repr of a list, a tuple -/
def rRepr (K : PySem.W.Frag) : List V → Hp → VK → Prop := fun vs H Q => ∃ a d, vs = [.ref a] ∧ Dp K H (.ref a) d ∧ PyData.showable d = true ∧ PyData.hasDict d = false ∧ d.depth ≤ 60 ∧ (PyData.shown d).length ≤ sizeLine ∧ Q (.str (PyData.shown d)) H
theorem call_reprD (gu : X.A.guards = some []) (hu : X.A.units + 64 < cLine) : CallR X (.builtin "repr") (rRepr X.K) := by
  intro pins s σ H xs us Q I rel want
  obtain ⟨a, d, rfl, hd, hs, hn, hp, hz, q⟩ := want
  cases rel with
  | cons r rr =>
    cases rr
    obtain ⟨as, rd⟩ := Dp.reads I d _ _ hd r
    cases r
    exact PySem.repr_of_reads' rd hs (PyData.noDict_hsm hn) gu (by omega) (fun _ _ e => e) (fun h' u tk hk => ⟨.str (PyData.shown d), H, I.kept (t' := tk) hk, ⟨u, rfl⟩, q⟩) hz
theorem bi_repr {m : Md} (gu : X.A.guards = some []) (hu : X.A.units + 64 < cLine) : BiR R cls X .repr (.builtin "repr") m := ⟨_, call_reprD gu hu, fun g A H0 H ds vs z Q hg ht x0 l h q => by
  have fin : ∀ {d : D} {v : V}, Lb (rc cls X g) A H d v → vs = [v] → (∃ a, v = .ref a) → reprOk d = true → z = .str (PyData.shown (toP d)) → rRepr X.K vs H Q := by
    rintro d v l1 rfl ⟨a, rfl⟩ ok rfl
    unfold reprOk at ok
    rw [Bool.and_eq_true, Bool.and_eq_true, Bool.and_eq_true, Bool.and_eq_true] at ok
    obtain ⟨o1, o2, o3, o4, o5⟩ := ok
    exact ⟨a, toP d, rfl, l1.dp o1, o2, by simpa using o3, of_decide_eq_true o4, of_decide_eq_true o5, q _ H Ext.refl (fun _ _ _ o => o) (Rm.of_flat rfl rfl)⟩
  match ds, h with
  | [.lst l'], h =>
    obtain ⟨v, e, l1⟩ := l.one
    have h : (if reprOk (.lst l') then some (D.str (PyData.shown (toP (.lst l')))) else none) = some z := h
    split at h
    · rename_i ok
      obtain ⟨a, xs, e1, _⟩ := l1.lst hg
      exact fin l1 e ⟨a, e1⟩ ok (Option.some.inj h).symm
    · cases h
  | [.tup l'], h =>
    obtain ⟨v, e, l1⟩ := l.one
    have h : (if reprOk (.tup l') then some (D.str (PyData.shown (toP (.tup l')))) else none) = some z := h
    split at h
    · rename_i ok
      obtain ⟨a, xs, e1, _⟩ := l1.tup
      exact fin l1 e ⟨a, e1⟩ ok (Option.some.inj h).symm
    · cases h⟩
end
end Pv
end
section
set_option maxHeartbeats 4000000
namespace Pv
open PySem PySem.Spec PyProof.Rows L2

/-! ### a def's promise where nothing is being shown: repr may be asked within -/
structure FnG (P : Program) (w : World) (K : PySem.W.Frag) (mg : Str → Option Value) (base : Heap) (k : Nat) (f : Addr) (fd : FuncData) (ps : List Str) (sp : Sp) : Prop where
  len : ∀ vs H Q E, sp vs H Q E → vs.length = ps.length
  run : ∀ (A : Around) (outer : List PySem.Env) (s : Shared) (H : Hp) (args : Args) (us : List Value) (vs : List V) (Q : VK) (E : XK), A.guards = some [] → Room k A → Env0 P w K mg base A outer s H → BindsTo s fd args (ps.zip us) → Vals vs us →
    sp vs H Q E → codeAny (model P w) A (.call (.ref f) args) (CR CX0 outer P w H s Q E) s
section
variable {P : Program} {w : World} {K : PySem.W.Frag} {mg : Str → Option Value} {base : Heap} {k : Nat} {f : Addr} {fd : FuncData} {ps : List Str} {sp : Sp}
theorem FnG.mono {j : Nat} (F : FnG P w K mg base j f fd ps sp) (h : j ≤ k) : FnG P w K mg base k f fd ps sp :=
  ⟨F.len, fun A outer s H args us vs Q E g r => F.run A outer s H args us vs Q E g (r.mono h)⟩
theorem FnG.of (F : FnOk P w K mg base CX0 k f fd ps sp) : FnG P w K mg base k f fd ps sp :=
  ⟨F.len, fun A outer s H args us vs Q E _ r => F.run A outer s H args us vs Q E r⟩
/-- by its body -/
theorem fnG_def {x qual : Str} {params : Arguments} {body : List Stmt} {scope : Scope} {N : List Str} (D0 : FunD K x qual params body scope [] [] f fd) (S : FnScope N ps scope) (len : ∀ vs H Q E, sp vs H Q E → vs.length = ps.length)
    (hb : ∀ (cd : Value) (A : Around) (outer : List PySem.Env) (s : Shared) (H : Hp) (vs : List V) (Q : VK) (E : XK), A.guards = some [] → Room k (A.deeper (envOfC qual scope s.heap.objs.size f cd)) → sp vs H Q E →
      ∃ t, PSs (cxOf CX0 P w K mg base N qual scope f cd A outer s H E) body t ∧ t { nx := fun _ H' => Q .non H', rt := Q } (L2.start N vs) H) : FnG P w K mg base (k + 1) f fd ps sp := by
  obtain ⟨oc, od, dV, kV, doc, pm, an, cd, ct, sl, rfl, lk, code, _, _⟩ := D0.ex
  constructor
  · exact len
  · intro A outer s H args us vs Q E gu room en bt rel want
    have vl := len vs H Q E want
    have kin : K.In s.heap := en.mod.kin.keeps fun b o z => (en.bs b o z).1
    have nolim : s.heap.NoLimit := en.mod.nolimit.keeps fun b o z => (en.bs b o z).1
    have kinds : ∀ y ∈ ps.zip us, scope.names.lookup y.1 = some .local ∨ (scope.names.lookup y.1 = some .cell ∧ ((cellsFrom (s.heap.objs.size + 1) scope.names []).lookup y.1).isSome = true) := by
      rintro ⟨n, v⟩ hy
      exact (S.par n (List.of_mem_zip hy).1).imp id fun q => ⟨q, PySem.W.cellsFrom_some _ _ _ (.inl q)⟩
    apply codeAny_call_function room.depth (kin _ _ lk) rfl S.co S.gen rfl (PySem.W.codeRec_of kin code)
    refine bt _ _ _ _ (wpAny_newFunctionEnv_cells S.kind kinds fun env he s1 x1 => ?_)
    subst he
    refine ⟨nolim.keeps x1.toInCall.keep, codeAny_func ?_⟩
    obtain ⟨t, pt, tq⟩ := hb cd A outer s H vs Q E gu (room.deeper _) want
    refine wpAny_mono (pt.run [] s1 (L2.start N vs) H _ (inv_start S room.hd en vl rel x1) tq) (fun fl s2 out => ?_) fun _ _ z => z
    match fl, out with
    | .ret u, ⟨v, σ2, H2, J, rv, q⟩ => exact ⟨v, H2, J.os, J.bare, J.base, J.hok, rv, q⟩
    | .next, ⟨σ2, H2, J, q⟩ => exact ⟨.non, H2, J.os, J.bare, J.base, J.hok, rfl, q⟩
    | .brk, ⟨_, _, _, q⟩ => exact q.elim
    | .cont, ⟨_, _, _, q⟩ => exact q.elim
end
section
variable {X : Cx} {k : Nat} {f : Addr} {fd : FuncData} {ps : List Str} {sp : Sp} {E : XK} {x : Str} {p pos : Pos} {e : Expr} {es : List Expr} {t : TA}
theorem FnG.end_ {pins : List (Addr × Obj)} {σ : L2.St} {H : Hp} {s : Shared} {Q : VK} {args : Args} {us : List Value} {vs : List V} (F : FnG X.prog X.w X.K X.mg X.base k f fd ps sp) (gu : X.A.guards = some []) (room : Room k X.A)
    (I : Inv X pins σ H s) (bt : BindsTo s fd args (ps.zip us)) (rel : Vals vs us) (want : sp vs H Q E) : wpAny (model X.prog X.w) X.A (call (.ref f) args.pos args.kw) (EP X pins σ Q) X.xe s := by
  refine wpAny_call (codeAny_mono (F.run X.A X.stack s H args us vs Q E gu room I.env0 bt rel want) fun r s2 out => ?_)
  match r, out with
  | .error _, z => exact z.elim
  | .ok (.ret u), z => exact I.after z
  | .ok .next, z => exact z.elim
  | .ok .brk, z => exact z.elim
  | .ok .cont, z => exact z.elim
theorem pe_callG (F : FnG X.prog X.w X.K X.mg X.base k f fd ps sp) (gu : X.A.guards = some []) (room : Room k X.A) (gl : Gl X x) (at_ : X.mg x = some (.ref f)) (kp : PySem.W.keepIn X.K (.ref f) = true) (bd : Binds X.K fd ps []) (pa : PA X (e :: es) t)
    (nd : (x == ("__debug__" : Str)) = false) (st : starEach (e :: es) X.env = (false, eval e X.env) :: starEach es X.env) (pl : (backTo pos (starEach es X.env)).any (·.1) = false) : PE X (.Call (.Name x p) (e :: es) [] pos) (tCall sp [] L2.E0 t) := by
  constructor
  intro pins s σ H Q I want
  apply wpAny_Call_Name_kw
  refine ld_glob I gl at_ (PySem.W.callWith_K (h₀ := X.base) I.ok.mod.kin kp (thn (pa.run pos pins s σ H _ I want) fun us s1 ⟨vs, H1, J, rel, q⟩ => ⟨J.kIn, ?_⟩) st pl) nd
  have rel2 : Vals (vs ++ []) (us ++ []) := rel.append .nil
  have q : sp (vs ++ []) H1 Q L2.E0 := q
  have bt := bd s1 us J.kIn (by rw [← rel2.length]; exact F.len _ _ _ _ q)
  exact F.end_ (args := ⟨us, []⟩) gu room J bt rel2 q
theorem pe_callKG {ks : List Str} {kws : List Keyword} {tk : TA} {g : List Value → List Value → List Value} {gV : List V → List V → List V}
    (F : FnG X.prog X.w X.K X.mg X.base k f fd ps sp) (gu : X.A.guards = some []) (room : Room k X.A) (gl : Gl X x) (at_ : X.mg x = some (.ref f)) (kp : PySem.W.keepIn X.K (.ref f) = true) (bd : KBn X.K fd ps 0 ks g gV)
    (pk : PK X kws tk) (hall : (backToKw pos (keywordEach kws X.env)).all (·.1.isSome) = true) (hks : (backToKw pos (keywordEach kws X.env)).filterMap (·.1) = ks)
    (nd : (x == ("__debug__" : Str)) = false) (pl : ((backTo pos (starEach [] X.env)).any (·.1) || (backToKw pos (keywordEach kws X.env)).any (·.1.isNone)) = false) :
    PE X (.Call (.Name x p) [] kws pos) (tCallN 0 ks.length sp gV L2.E0 tNil tk) := by
  constructor
  intro pins s σ H Q I want
  apply wpAny_Call_Name_kw
  refine ld_glob I gl at_ (PySem.W.callWith_KW0 (h₀ := X.base) I.ok.mod.kin kp hall (thn (pk.run pos pins s σ H _ I want) fun ws s2 ⟨zs, H2, J, rz, l1, l2, q⟩ => ⟨J.kIn, ?_⟩) pl) nd
  rw [hks]
  have rel2 := bd.rel .nil rz
  exact F.end_ (args := ⟨[], ks.zip ws⟩) gu room J (bd.to s2 [] ws J.kIn rfl (rz.length.symm.trans l2)) rel2 q
end
end Pv
end
section
set_option maxHeartbeats 200000
namespace Pv
open PySem PySem.Spec PyProof.Rows L2

/-! ### calls of defs -/
def ArgsOk (c : Rc) (A : Addr → Prop) (H : Hp) : List Bool → List D → List V → Prop
  | [], ds, vs => ds = [] ∧ vs = []
  | l :: ls, ds, vs => ∃ d ds' v vs', ds = d :: ds' ∧ vs = v :: vs' ∧ (if l then Lb c A H d v else Rp c A H d v) ∧ ArgsOk c A H ls ds' vs'
def frM (b : Bool) : Md := if b then .fr else .rp
/-- what a def promises: F by values, by its signature -/
def spF (R : RS) (K : PySem.W.Frag) (cls : Str → Addr) (sg : Sig) (F : List D → M R.S D) : Sp := fun vs H Q _ => ∃ g A ds s, (∀ a, A a → H a ≠ none) ∧ (∀ a, a ∈ g → A a) ∧ R.ok g s H ∧ ArgsOk ⟨K, cls, g⟩ A H sg.lend ds vs ∧
  PostE R (frM sg.fr) ⟨K, cls, g⟩ A H (F ds s) Q
theorem ArgsOk.length {c : Rc} {A : Addr → Prop} {H : Hp} : ∀ {ls : List Bool} {ds : List D} {vs : List V}, ArgsOk c A H ls ds vs → ds.length = ls.length ∧ vs.length = ls.length
  | [], ds, vs, h => by rw [h.1, h.2]; exact ⟨rfl, rfl⟩
  | l :: ls, ds, vs, h => by
    obtain ⟨d, ds', v, vs', rfl, rfl, h1, h2⟩ := h
    have q := ArgsOk.length h2
    rw [List.length_cons, List.length_cons, List.length_cons, q.1, q.2]
    exact ⟨rfl, rfl⟩
/-- a def of the module as it stands in a body's context -/
structure FnAt (R : RS) (cls : Str → Addr) (X : Cx) (x : Str) (sg : Sig) (F : List D → M R.S D) : Prop where
  mk ::
  ex : sg.kd = .fn → ∃ k f fd ps, X.mg x = some (.ref f) ∧ PySem.W.keepIn X.K (.ref f) = true ∧ Binds X.K fd ps [] ∧ FnG X.prog X.w X.K X.mg X.base k f fd ps (spF R X.K cls sg F) ∧ Room k X.A ∧ X.A.guards = some []
/-- which modes an argument may have -/
def lendOk : List Bool → List IE → Bool
  | [], [] => true
  | l :: ls, e :: es => (l || decide (md e ≠ .bor)) && lendOk ls es
  | _, _ => false
section
variable {R : RS} {cls : Str → Addr} {Γ : Gm R.S} {X : Cx}
theorem Rms.args {c : Rc} {A : Addr → Prop} {H0 H : Hp} : ∀ {ls : List Bool} {es : List IE} {ds : List D} {vs : List V}, lendOk ls es = true → Rms c A H0 H es ds vs → ArgsOk c A H ls ds vs
  | [], [], ds, vs, _, h => h
  | [], e :: es, ds, vs, k, _ => by cases k
  | l :: ls, [], ds, vs, k, _ => by cases k
  | l :: ls, e :: es, ds, vs, k, h => by
    obtain ⟨d, ds', v, vs', rfl, rfl, h1, h2⟩ := h
    have k : ((l || decide (md e ≠ .bor)) && lendOk ls es) = true := k
    rw [Bool.and_eq_true] at k
    refine ⟨d, ds', v, vs', rfl, rfl, ?_, Rms.args k.2 h2⟩
    by_cases hm : md e = .bor
    · rw [if_pos hm] at h1
      cases l with
      | true => exact h1
      | false =>
        have z := k.1
        rw [Bool.false_or] at z
        exact absurd hm (of_decide_eq_true z)
    · rw [if_neg hm] at h1
      cases l with
      | true => exact .inl h1
      | false => exact h1
theorem se_call {x : Str} {p pos : Pos} {e : Expr} {es : List Expr} {ies : List IE} {f : Nat} {sg : Sig} {F : List D → M R.S D} (hkd : sg.kd = .fn) (hF : FnAt R cls X x sg F) (hΓ : Γ.fns[f]? = some F) (hg : Gl X x) (h : SA R cls Γ X (e :: es) ies) (hl : lendOk sg.lend ies = true)
    (hdb : (x == ("__debug__" : Str)) = false) (hs : noStar e = true) (hss : es.all noStar = true) : SE R cls Γ X (.Call (.Name x p) (e :: es) [] pos) (.call f sg.fr ies) := by
  obtain ⟨k0, fa, fd, ps, e1, e2, e3, e4, e5, e6⟩ := hF.ex hkd
  obtain ⟨t, pa, q⟩ := h
  refine ⟨_, pe_callG e4 e6 e5 hg e1 e2 e3 pa hdb (star_cons hs) (spl hss), fun σ H Q g A0 env s k o h => ?_⟩
  unfold ev callF at h
  rw [hΓ] at h
  refine SA.bindE q k o h fun ds s1 vs H1 x1 o1 r1 k1 h => ?_
  rw [List.append_nil]
  refine ⟨g, Av A0 env σ, ds, s1, k1.trA, fun a ha => k.gA a ha, o1, r1.args hl, ?_⟩
  have m : md (.call f sg.fr ies) = frM sg.fr := by cases sg.fr <;> rfl
  rw [m] at h
  exact h.from x1 k1.gTr
/-- by keywords: the values in the parameters' order -/
structure KwAt (R : RS) (cls : Str → Addr) (X : Cx) (x : Str) (sg : Sig) (F : List D → M R.S D) (n : Nat) (ks : List Str) (perm : List Nat) : Prop where
  mk ::
  ex : ∃ k f fd ps, X.mg x = some (.ref f) ∧ PySem.W.keepIn X.K (.ref f) = true ∧ KBinds X.K fd ps ks (fun us ws => us ++ perm.filterMap fun i => ws[i]?) (fun us ws => us ++ perm.filterMap fun i => ws[i]?) ∧ FnG X.prog X.w X.K X.mg X.base k f fd ps (spF R X.K cls sg F) ∧ Room k X.A

/-! ### a slot stored -/
theorem Held.put {env : IEnv} {σ : L2.St} {i : Nat} {d : D} {v : V} {a : Addr} (h : Held (put env i d .frz) (σ.set i (some v)) a) : Held env σ a := by
  obtain ⟨j, e, f, h1, h2, h3⟩ := h
  unfold Pv.put at h1
  by_cases hij : i = j
  · subst hij
    by_cases hl : i < env.length
    · rw [List.getElem?_set_self hl] at h1
      cases h1
      rcases h2 with h2 | h2 <;> cases h2
    · rw [List.getElem?_eq_none (by simpa using hl)] at h1
      cases h1
  · rw [List.getElem?_set_ne hij] at h1 h3
    exact ⟨j, e, f, h1, h2, h3⟩
theorem held_put {env : IEnv} {σ : L2.St} {i : Nat} {d : D} {v : V} {a : Addr} (ok : okSlot env i = true) (h : Held env σ a) : Held (put env i d .frz) (σ.set i (some v)) a := by
  obtain ⟨j, e, f, h1, h2, h3⟩ := h
  have hij : i ≠ j := by
    intro z
    subst z
    unfold okSlot at ok
    rw [h1] at ok
    rcases h2 with rfl | rfl <;> cases ok
  unfold Pv.put
  exact ⟨j, e, f, by rw [List.getElem?_set_ne hij]; exact h1, h2, by rw [List.getElem?_set_ne hij]; exact h3⟩
theorem EnvOk.put {c : Rc} {A0 : Addr → Prop} {H : Hp} {σ : L2.St} {env : IEnv} {i : Nat} {d : D} {v : V} (k : EnvOk c A0 H σ env) (r : Rp c (Av A0 env σ) H d v) : EnvOk c A0 H (σ.set i (some v)) (put env i d .frz) := by
  have anti : ∀ a, Av A0 (Pv.put env i d .frz) (σ.set i (some v)) a → Av A0 env σ a := fun a h => h.imp id Held.put
  have rp : ∀ {e : D} {w : V}, Rp c (Av A0 env σ) H e w → Rp c (Av A0 (Pv.put env i d .frz) (σ.set i (some v))) H e w := fun {e w} h => Rp.mono (Ext.refl (W := fun _ => False)) (fun _ z => z.elim) (fun a z => .inl (anti a z)) e w h
  have ca : ∀ {e : D} {a : Addr}, CellAt c (Av A0 env σ) H a e → CellAt c (Av A0 (Pv.put env i d .frz) (σ.set i (some v))) H a e := fun {e a} h => h.mono (Ext.refl (W := fun _ => False)) (fun _ z => z.elim) (fun a z => .inl (anti a z)) id
  have old : ∀ {j : Nat} {e : D} {f : Fl}, (Pv.put env i d .frz)[j]? = some (some (e, f)) → (i = j ∧ e = d ∧ f = .frz ∧ j < env.length) ∨ (i ≠ j ∧ env[j]? = some (some (e, f))) := fun {j e f} h => by
    unfold Pv.put at h
    by_cases hij : i = j
    · subst hij
      by_cases hl : i < env.length
      · rw [List.getElem?_set_self hl] at h
        cases h
        exact .inl ⟨rfl, rfl, rfl, hl⟩
      · rw [List.getElem?_eq_none (by simpa using hl)] at h
        cases h
    · rw [List.getElem?_set_ne hij] at h
      exact .inr ⟨hij, h⟩
  refine ⟨by unfold Pv.put; rw [List.length_set, List.length_set]; exact k.len, k.tr, k.g, fun j e h => ?_, fun j e h => ?_, fun j e f h hf => ?_, fun j l e e' f f' a h1 f1 h2 f2 s1 s2 => ?_⟩
  · rcases old h with ⟨rfl, rfl, _, hl⟩ | ⟨hij, h⟩
    · exact ⟨v, by rw [List.getElem?_set_self (by rw [← k.len]; exact hl)], rp r⟩
    · obtain ⟨w, e1, e2⟩ := k.frz j e h
      exact ⟨w, by rw [List.getElem?_set_ne hij]; exact e1, rp e2⟩
  · rcases old h with ⟨rfl, rfl, z, _⟩ | ⟨hij, h⟩
    · cases z
    · obtain ⟨w, e1, e2⟩ := k.lent j e h
      refine ⟨w, by rw [List.getElem?_set_ne hij]; exact e1, ?_⟩
      rcases e2 with e2 | ⟨a, q1, q2, q3, q4⟩
      · exact .inl (rp e2)
      · exact .inr ⟨a, q1, q2, fun z => q3 z.put, ca q4⟩
  · rcases old h with ⟨rfl, rfl, z, _⟩ | ⟨hij, h⟩
    · rw [z] at hf; rcases hf with hf | hf <;> cases hf
    · obtain ⟨a, e1, e2, e3⟩ := k.hld j e f h hf
      exact ⟨a, by rw [List.getElem?_set_ne hij]; exact e1, e2, ca e3⟩
  · rcases old h1 with ⟨_, _, z, _⟩ | ⟨hij, h1⟩
    · rw [z] at f1; rcases f1 with f1 | f1 <;> cases f1
    · rcases old h2 with ⟨_, _, z, _⟩ | ⟨hil, h2⟩
      · rw [z] at f2; rcases f2 with f2 | f2 <;> cases f2
      · rw [List.getElem?_set_ne hij] at s1
        rw [List.getElem?_set_ne hil] at s2
        exact k.inj j l e e' f f' a h1 f1 h2 f2 s1 s2

/-! ### what is walked: a list or a tuple -/
def iSeq (K : PySem.W.Frag) (tl : TE) : TI := fun σ H R => tl σ H fun x H1 => ∃ a, x = .ref a ∧ (((∃ xs, SqL K H1 a xs) ∧ R (Itl K a) H1) ∨ ((∃ xs, SqT K H1 a xs) ∧ R (Itt K a) H1))
theorem pi_seq {tg l : Expr} {tl : TE} (hl : PE X l tl) : PI X tg l (iSeq X.K tl) := by
  refine ⟨fun pins s σ H R I h => ?_⟩
  refine thn (hl.run pins s σ H _ I h) fun v s1 ⟨x, H1, I1, r1, q1⟩ => ?_
  obtain ⟨a, e, q1⟩ := q1
  subst e
  cases r1
  rcases q1 with ⟨⟨xs, hq⟩, q⟩ | ⟨⟨xs, hq⟩, q⟩
  · obtain ⟨its, rv, p, hz⟩ := I1.list hq
    refine wpAny_pyIter_list p.isList ?_
    refine ⟨s1.heap.objs.size, [s1.heap.objs.size], _, _, H1, rfl, I1.kept (t' := s1.toks) fun b o e => Heap.get?_push_of_some _ e, turn_list a _, ⟨_, Heap.get?_push_size _ rfl, rfl, rfl⟩, fun b hb => ?_, q⟩
    have e : b = s1.heap.objs.size := by simpa using hb
    subst e
    exact I1.fpOk (Nat.le_refl _) (I1.hok.fresh (Nat.le_refl _))
  · obtain ⟨its, rv, p, hz⟩ := I1.tuple hq
    refine wpAny_pyIter_tuple (show s1.heap.IsTuple a its.toArray from p) ?_
    refine ⟨s1.heap.objs.size, [s1.heap.objs.size], _, _, H1, rfl, I1.kept (t' := s1.toks) fun b o e => Heap.get?_push_of_some _ e, turn_tuple a _, ⟨_, Heap.get?_push_size _ rfl, rfl, rfl⟩, fun b hb => ?_, q⟩
    have e : b = s1.heap.objs.size := by simpa using hb
    subst e
    exact I1.fpOk (Nat.le_refl _) (I1.hok.fresh (Nat.le_refl _))

/-! ### comprehensions -/
theorem calm_ok {α : Type} {m : M R.S α} {s : R.S} {P : Res R.S α → Prop} (hb : ¬ P .bad) (h : P (calm m s)) : ∃ a s', m s = .ok a s' ∧ P (.ok a s') := by
  unfold calm at h
  cases q : m s with
  | ok a s' => rw [q] at h; exact ⟨a, s', rfl, h⟩
  | er _ _ _ => rw [q] at h; exact absurd h hb
  | bad => rw [q] at h; exact absurd h hb
theorem bind_ok {S α β : Type} {m : M S α} {f : α → M S β} {s s2 : S} {b : β} (h : (m >>= f) s = .ok b s2) : ∃ a s1, m s = .ok a s1 ∧ f a s1 = .ok b s2 := by
  rw [bind_def] at h
  cases q : m s with
  | ok a s' => rw [q] at h; exact ⟨a, s', rfl, h⟩
  | er _ _ _ => rw [q] at h; cases h
  | bad => rw [q] at h; cases h
theorem ok_inj {S α : Type} {a b : α} {s t : S} (h : (Res.ok a s : Res S α) = .ok b t) : a = b ∧ s = t := by cases h; exact ⟨rfl, rfl⟩

/-! ### the readings as such -/
def rdE (R : RS) (cls : Str → Addr) (Γ : Gm R.S) (K : PySem.W.Frag) (ie : IE) : TE := fun σ H Q => ∃ g A0 env s, EnvOk ⟨K, cls, g⟩ A0 H σ env ∧ R.ok g s H ∧ PostE R (md ie) ⟨K, cls, g⟩ (Av A0 env σ) H (ev Γ ie env s) Q
def rdT (R : RS) (cls : Str → Addr) (Γ : Gm R.S) (K : PySem.W.Frag) (ie : IE) : TT := fun σ H Q => ∃ g A0 env s, EnvOk ⟨K, cls, g⟩ A0 H σ env ∧ R.ok g s H ∧ PostT R ⟨K, cls, g⟩ H ((ev Γ ie env >>= truth) s) Q
theorem SE.pe {e : Expr} {ie : IE} (h : SE R cls Γ X e ie) : PE X e (rdE R cls Γ X.K ie) := by
  obtain ⟨t, p, q⟩ := h
  exact ⟨fun pins s σ H Q I ⟨g, A0, env, s', k, o, z⟩ => p.run pins s σ H Q I (q σ H Q g A0 env s' k o z)⟩
theorem ST.pt {e : Expr} {ie : IE} (h : ST R cls Γ X e ie) : PT X e (rdT R cls Γ X.K ie) := by
  obtain ⟨t, p, q⟩ := h
  exact ⟨fun pins s σ H Q I ⟨g, A0, env, s', k, o, z⟩ => p.run pins s σ H Q I (q σ H Q g A0 env s' k o z)⟩
theorem filtL_nil {p : D → M R.S Bool} {f : D → M R.S D} {s s2 : R.S} {r : List D} (h : filtL p f [] s = .ok r s2) : r = [] ∧ s = s2 := by
  obtain ⟨a, b⟩ := ok_inj (show (Res.ok [] s : Res R.S (List D)) = .ok r s2 from h)
  exact ⟨a.symm, b⟩
theorem filtL_cons {p : D → M R.S Bool} {f : D → M R.S D} {d : D} {ds : List D} {s s2 : R.S} {r : List D} (h : filtL p f (d :: ds) s = .ok r s2) :
    ∃ b s1, p d s = .ok b s1 ∧ ((b = true ∧ ∃ x s3 r', f d s1 = .ok x s3 ∧ filtL p f ds s3 = .ok r' s2 ∧ r = x :: r') ∨ (b = false ∧ filtL p f ds s1 = .ok r s2)) := by
  unfold filtL at h
  obtain ⟨b, s1, e1, h⟩ := bind_ok h
  refine ⟨b, s1, e1, ?_⟩
  cases b with
  | true =>
    rw [if_pos rfl] at h
    obtain ⟨x, s3, e2, h⟩ := bind_ok h
    obtain ⟨r', s4, e3, h⟩ := bind_ok h
    obtain ⟨a, b⟩ := ok_inj (show (Res.ok (x :: r') s4 : Res R.S (List D)) = .ok r s2 from h)
    subst a b
    exact .inl ⟨rfl, x, s3, r', e2, e3, rfl⟩
  | false =>
    rw [if_neg Bool.false_ne_true] at h
    exact .inr ⟨rfl, h⟩
theorem mapL_filt {f : D → M R.S D} : ∀ l, mapL f l = filtL (fun _ => pure true) f l
  | [] => rfl
  | d :: ds => by
    unfold mapL filtL
    rw [pure_bind', if_pos rfl, mapL_filt ds]
theorem Ext.over {W : Addr → Prop} {H H' : Hp} {p : Addr} {u : HO} (e : Ext W H H') (hp : H p = none) : Ext W H (upd H' p u) := fun b o h w => by
  rw [upd_ne (ne_of_none h hp)]
  exact e b o h w
/-- a new object to be kept apart -/
theorem EnvOk.plus {c : Rc} {A0 : Addr → Prop} {H H' : Hp} {σ : L2.St} {env : IEnv} {p : Addr} (k : EnvOk c A0 H σ env) (hp : H p = none) (e : Ext (Gv c) H H') (hg : ∀ a, Gv c a → H' a ≠ none) (hp' : H' p ≠ none) : EnvOk c (Plus A0 p) H' σ env := by
  have n : ∀ a, Av (Plus A0 p) env σ a → Av A0 env σ a ∨ H a = none := fun a h => by
    rcases h with (h | h) | h
    · exact .inl (.inl h)
    · rw [h]; exact .inr hp
    · exact .inl (.inr h)
  refine ⟨k.len, fun a h => ?_, fun a h => .inl (k.g a h), fun i d h => ?_, fun i d h => ?_, fun i d f h hf => ?_, k.inj⟩
  · rcases h with h | h
    · by_cases hw : Gv c a
      · exact hg a hw
      · exact e.some (k.tr a h) hw
    · rw [h]; exact hp'
  · obtain ⟨v, e1, e2⟩ := k.frz i d h
    exact ⟨v, e1, Rp.mono e k.gA n d v e2⟩
  · obtain ⟨v, e1, e2⟩ := k.lent i d h
    refine ⟨v, e1, ?_⟩
    rcases e2 with e2 | ⟨a, q1, q2, q3, q4⟩
    · exact .inl (Rp.mono e k.gA n d v e2)
    · exact .inr ⟨a, q1, q2, q3, q4.mono e k.gA n q2⟩
  · obtain ⟨a, e1, e2, e3⟩ := k.hld i d f h hf
    refine ⟨a, e1, fun z => ?_, e3.mono e k.gA n fun z => e2 (k.g a z)⟩
    rcases z with z | z
    · exact e2 z
    · exact e3.there (by rw [z]; exact hp)
/-- the test, then the item -/
theorem lc_run {c : Rc} {A0 : Addr → Prop} {env : IEnv} {σ : L2.St} {i : Nat} {s2 : R.S} {body : IE} {tt : TT} {p : D → M R.S Bool} {xs : List V} {l : List D} {r : List D} {H1 : Hp} {D0 : Addr} {Q : VK} (hok : okSlot env i = true) (hb : md body ≠ .bor)
    (htt : ∀ (A0 : Addr → Prop) (d : D) (v : V) (s s1 : R.S) (b : Bool) (H : Hp) (K : Bool → Hp → Prop), EnvOk c A0 H (σ.set i (some v)) (put env i d .frz) → R.ok c.g s H → p d s = .ok b s1 → (∀ H', Ext (Gv c) H H' → R.ok c.g s1 H' → K b H') → tt (σ.set i (some v)) H K)
    (k1 : EnvOk c A0 H1 σ env) (hx : Rps c (Av A0 env σ) H1 l xs) (hlen : l.length ≤ sizeLine) (hD : H1 D0 = none) {s1 : R.S} (o1 : R.ok c.g s1 H1) (hrun : filtL p (fun d => ev Γ body (put env i d .frz)) l s1 = .ok r s2)
    (hq : ∀ H' ws, Ext (Gv c) H1 H' → R.ok c.g s2 H' → H' D0 = some (.lst ws) → r.length ≤ sizeLine → Rps c (Plus (Av A0 env σ) D0) H' r ws → Q (.ref D0) H')
    {P : Prop}
    (hP : ∀ Pv : Nat → Hp → Prop, Pv 0 (upd H1 D0 (.lst [])) → (∀ n H, n ≤ xs.length → Pv n H → Ext (Gv c) H1 H) → (∀ n x H, xs[n]? = some x → Pv n H → gName i x (wipe σ [i]) H fun σ2 H2 => wipe σ2 [i] = wipe σ [i] ∧ tt σ2 H2 fun b H3 =>
      if b = true then rdE R cls Γ c.K body σ2 H3 fun y H4 => ∃ acc, H4 D0 = some (.lst acc) ∧ acc.length < sizeLine ∧ Pv (n + 1) (upd H4 D0 (.lst (acc ++ [y]))) else Pv (n + 1) H3) → (∀ H, Pv xs.length H → Q (.ref D0) H) → P) (hcls : c.cls = cls) : P := by
  have hxl : xs.length = l.length := hx.length
  have nG : ¬ Gv c D0 := fun z => k1.gTr _ z hD
  have lift : ∀ {H : Hp} {s : R.S}, Ext (Gv c) H1 H → R.ok c.g s H → H D0 ≠ none → EnvOk c (Plus A0 D0) H σ env := fun {H s} x o h => k1.plus hD x (fun a ha => by
    obtain ⟨u, h, _⟩ := R.there o a ha
    rw [h]; simp) h
  have n0 : ∀ a, Av (Plus A0 D0) env σ a → Av A0 env σ a ∨ H1 a = none := fun a h => by
    rcases h with (h | h) | h
    · exact .inl (.inl h)
    · rw [h]; exact .inr hD
    · exact .inl (.inr h)
  refine hP (fun n H' => ∃ rs ws s r', H' D0 = some (.lst ws) ∧ Rps c (Av (Plus A0 D0) env σ) H' rs ws ∧ rs.length ≤ n ∧ Ext (Gv c) H1 H' ∧ R.ok c.g s H' ∧ filtL p (fun d => ev Γ body (put env i d .frz)) (l.drop n) s = .ok r' s2 ∧ r = rs ++ r') ?_ ?_ ?_ ?_
  · exact ⟨[], [], s1, r, upd_same, rfl, Nat.le_refl _, Ext.new hD, RS.new o1 hD, by rw [List.drop_zero]; exact hrun, rfl⟩
  · rintro n H _ ⟨_, _, _, _, _, _, _, x, _⟩
    exact x
  · rintro n x H hn ⟨rs, ws, s, r', e1, e2, e3, e4, e5, e6, e7⟩
    obtain ⟨d, hd, rd⟩ := hx.get hn
    have k2 := lift e4 e5 (by rw [e1]; simp)
    have rd2 := Rp.mono e4 k1.gA n0 d x rd
    have k3 := k2.put (i := i) rd2
    have hl : l.drop n = d :: l.drop (n + 1) := by
      rw [List.drop_eq_getElem_cons (List.getElem?_eq_some_iff.mp hd).1, (List.getElem?_eq_some_iff.mp hd).2]
    have hnl : n < l.length := (List.getElem?_eq_some_iff.mp hd).1
    rw [hl] at e6
    have hσ : (wipe σ [i]).set i (some x) = σ.set i (some x) := by
      show ((σ.set i none).set i (some x)) = _
      rw [List.set_set]
    show wipe ((wipe σ [i]).set i (some x)) [i] = wipe σ [i] ∧ _
    rw [hσ]
    refine ⟨by show (σ.set i (some x)).set i none = σ.set i none; rw [List.set_set], ?_⟩
    obtain ⟨b, s3, f1, f2⟩ := filtL_cons e6
    refine htt _ d x s s3 b H _ k3 e5 f1 fun H3 x3 o3 => ?_
    have D3 : H3 D0 = some (.lst ws) := x3 _ _ e1 (.inl nG)
    rcases f2 with ⟨rfl, y, s4, r2, g1, g2, g3⟩ | ⟨rfl, g2⟩
    · rw [if_pos rfl]
      have k4 : EnvOk c (Plus A0 D0) H3 (σ.set i (some x)) (put env i d .frz) := k3.ext x3 fun a ha => by
        obtain ⟨u, h, _⟩ := R.there o3 a ha
        rw [h]; simp
      obtain ⟨cK, ccls, cg⟩ := c
      subst hcls
      refine ⟨cg, Plus A0 D0, put env i d .frz, s3, k4, o3, ?_⟩
      rw [g1]
      intro w H4 x4 o4 r4
      have r4 := r4.rp hb k4.trA
      have D4 : H4 D0 = some (.lst ws) := x4 _ _ D3 (.inl nG)
      have hws : ws.length < sizeLine := by rw [e2.length]; omega
      have aw : Ext (fun a => Gv ⟨cK, ccls, cg⟩ a ∨ a = D0) H4 (upd H4 D0 (.lst (ws ++ [w]))) := Ext.put (.inr rfl) D4 id
      have ga : ∀ a, (Gv ⟨cK, ccls, cg⟩ a ∨ a = D0) → Av (Plus A0 D0) env σ a := fun a h => h.elim (fun h => .inl (.inl (k1.g a h))) fun h => .inl (.inr h)
      have ga0 : ∀ a, Gv ⟨cK, ccls, cg⟩ a → Av (Plus A0 D0) env σ a := fun a h => ga a (.inl h)
      refine ⟨ws, D4, hws, rs ++ [y], ws ++ [w], s4, r2, upd_same, ?_, by rw [List.length_append, List.length_singleton]; omega, ?_, ?_, g2, by rw [List.append_assoc]; exact e7.trans (by rw [g3]; rfl)⟩
      · refine ((e2.ext x3 ga0).ext x4 ga0).ext aw ga |>.append (.one ?_)
        refine Rp.mono aw (fun a h => ?_) (fun a h => .inl ?_) y w r4
        · rcases ga a h with h | h
          · exact .inl h
          · exact .inr (held_put hok h)
        · rcases h with h | h
          · exact .inl h
          · exact .inr (held_put hok h)
      · exact ((e4.trans x3).trans x4).over hD
      · exact R.stay (fun a ha o e => by rw [upd_ne (fun z => nG (by rw [← z]; exact ha))]; exact e) o4
    · rw [if_neg Bool.false_ne_true]
      exact ⟨rs, ws, s3, r', D3, e2.ext x3 (fun a h => .inl (.inl (k1.g a h))), by omega, e4.trans x3, o3, g2, e7⟩
  · rintro H ⟨rs, ws, s, r', e1, e2, e3, e4, e5, e6, e7⟩
    rw [hxl, List.drop_length] at e6
    obtain ⟨z1, z2⟩ := filtL_nil e6
    subst z1 z2
    rw [List.append_nil] at e7
    subst e7
    exact hq H ws e4 e5 e1 (by omega) (Rps.mono (Ext.refl (W := fun _ => False)) (fun _ z => z.elim) (fun a h => .inl (h.elim (fun h => h.elim (fun h => .inl (.inl h)) .inr) (fun h => .inl (.inr h)))) _ _ e2)
end
section
variable {R : RS} {cls : Str → Addr} {Γ : Gm R.S} {X : Cx}
theorem seqOf_le {d : D} {l : List D} {c : Rc} {A : Addr → Prop} {H : Hp} {v : V} (hg : ∀ a, Gv c a → A a) (h : seqOf d = some l) (r : Lb c A H d v) :
    l.length ≤ sizeLine ∧ ∃ a xs, v = .ref a ∧ Rps c A H l xs ∧ ((H a = some (.lst xs) ∧ ¬ Gv c a) ∨ SqT c.K H a xs) := by
  cases d with
  | lst l' =>
    cases h
    obtain ⟨a, xs, e1, e2, e3, e4, e5⟩ := r.lst hg
    exact ⟨e3, a, xs, e1, e4, .inl ⟨e2, e5⟩⟩
  | tup l' =>
    have h : (if l'.length ≤ sizeLine then some l' else none) = some l := h
    split at h
    · cases h
      obtain ⟨a, xs, e1, e2, e4⟩ := r.tup
      exact ⟨by assumption, a, xs, e1, e4, .inr e2⟩
    · cases h
  | _ => cases h
/-- a comprehension: as a value, and stored within its own block -/
def SL (R : RS) (cls : Str → Addr) (Γ : Gm R.S) (X : Cx) (e : Expr) (ie : IE) : Prop :=
  ∃ t, PE X e t ∧ (∀ {y : Str} {py spos : Pos} {i : Nat}, X.N[i]? = some y → X.env.scope.names.lookup y = some .local → swapsWith e (some (.Name y py)) spos.line X.env = pure true → PS X (.Assign [.Name y py] e spos) (tAsg t (gName i))) ∧
    ∀ σ H Q g A0 env s, EnvOk (rc cls X g) A0 H σ env → R.ok g s H → PostE R (md ie) (rc cls X g) (Av A0 env σ) H (ev Γ ie env s) Q → t σ H Q
theorem SL.se {e : Expr} {ie : IE} (h : SL R cls Γ X e ie) : SE R cls Γ X e ie := by
  obtain ⟨t, a, _, b⟩ := h
  exact ⟨t, a, b⟩
theorem sl_lc0 {elt iter : Expr} {ifs : List Expr} {scope : Scope} {pos tpos : Pos} {x : Str} {i : Nat} {src body ie : IE} {tt : TT} {p : IEnv → D → M R.S Bool} (hm : md ie = .fr)
    (hev : ∀ env, ev Γ ie env = (ev Γ src env >>= fun d => opt (seqOf d) >>= fun l => if okSlot env i = true then calm (filtL (p env) (fun d => ev Γ body (put env i d .frz)) l) >>= fun r => pure (.lst r) else bad))
    (hc : X.calm = true) (hN : X.N.Nodup) (ok : BlkOk X.N X.env.scope scope [(x, i)]) (hi : SE R cls Γ X iter src) (hix : X.N[i]? = some x)
    (hl : (relS scope X.env.scope).names.lookup x = some .local)
    (htt : ∀ (s : Shared) (H : Hp) (C : Addr) (cl : List (Str × Addr)) (fp : List Addr), PTs (X.blk s H scope (compEnvC scope cl C X.env) fp) ifs tt)
    (ht2 : ∀ (g : List Addr) (A0 : Addr → Prop) (σ : L2.St) (env : IEnv) (d : D) (v : V) (s s1 : R.S) (b : Bool) (H : Hp) (K : Bool → Hp → Prop), EnvOk (rc cls X g) A0 H (σ.set i (some v)) (put env i d .frz) → R.ok g s H → p env d s = .ok b s1 → (∀ H', Ext (Gv (rc cls X g)) H H' → R.ok g s1 H' → K b H') → tt (σ.set i (some v)) H K)
    (he : ∀ (s : Shared) (H : Hp) (C : Addr) (cl : List (Str × Addr)) (fp : List Addr), SE R cls Γ (X.blk s H scope (compEnvC scope cl C X.env) fp) elt body) (hb : md body ≠ .bor) (hs : ∀ x, foldedSetIterable iter X.env x = pure x) :
    SL R cls Γ X (.ListComp elt [⟨.Name x tpos, iter, ifs, 0⟩] scope pos) ie := by
  obtain ⟨t, pe, q⟩ := hi
  refine ⟨_, pe_lc (own := [(x, i)]) (g := gName i) (tt := tt) (te := rdE R cls Γ X.K body) hc hN (pi_seq pe) ok (fun s H C cl fp => pg_name (i := i) hN hix (.inl hl) (.inr hl)) htt (fun s H C cl fp => (he s H C cl fp).pe) hs, fun hy hyl hsw => ps_setLc (own := [(x, i)]) (g := gName i) (tt := tt) (te := rdE R cls Γ X.K body) hc hN hy hyl hsw (pi_seq pe) ok (fun s H C cl fp => pg_name (i := i) hN hix (.inl hl) (.inr hl)) htt (fun s H C cl fp => (he s H C cl fp).pe) hs, fun σ H Q g A0 env s k o h => ?_⟩
  rw [hev, hm] at h
  refine SE.bindE q k o h fun d s1 v H1 x1 o1 r1 k1 h => ?_
  obtain ⟨l, hl', h2⟩ := opt_ofE h
  clear h
  by_cases hok : okSlot env i = true
  · rw [if_pos hok] at h2
    rw [bind_def] at h2
    unfold calm at h2
    cases hrun : filtL (p env) (fun d => ev Γ body (put env i d .frz)) l s1 with
    | bad => rw [hrun] at h2; exact h2.elim
    | er _ _ _ => rw [hrun] at h2; exact h2.elim
    | ok r s2 =>
      rw [hrun] at h2
      obtain ⟨hlen, a, xs, e1, e2, e3⟩ := seqOf_le k.gA hl' (r1.lb k.gA k.trA)
      have fin : ∀ {D0 : Addr}, H1 D0 = none → ∀ H' ws, Ext (Gv (rc cls X g)) H1 H' → R.ok g s2 H' → H' D0 = some (.lst ws) → r.length ≤ sizeLine → Rps (rc cls X g) (Plus (Av A0 env σ) D0) H' r ws → Q (.ref D0) H' := fun {D0} hD H' ws x o h1 h3 h4 =>
        h2 (.ref D0) H' (x1.trans x) o (.inr ⟨D0, rfl, x1.back k1.gTr hD, ws, h1, h3, h4⟩)
      refine ⟨a, e1, ?_⟩
      rcases e3 with ⟨e3, e4⟩ | e3
      · refine .inl ⟨⟨xs, .inl (.inl e3)⟩, fun D0 hD => ?_⟩
        exact lc_run (c := rc cls X g) hok hb (fun A0 => ht2 g A0 σ env) k1 e2 hlen hD o1 hrun (fin hD) (fun Pv h0 hx hs hd => lc_list (K := X.K) (a := a) (xs := xs) Pv h0 (fun n H hn hp => .inl (.inl (hx n H hn hp a _ e3 (.inl e4)))) hs hd) rfl
      · refine .inr ⟨⟨xs, e3⟩, fun D0 hD => ?_⟩
        exact lc_run (c := rc cls X g) hok hb (fun A0 => ht2 g A0 σ env) k1 e2 hlen hD o1 hrun (fin hD) (fun Pv h0 hx hs hd => lc_tup (K := X.K) (a := a) (xs := xs) Pv h0 (fun n H hn hp => (hx n H hn hp).sqt e3) hs hd) rfl
  · rw [if_neg hok] at h2
    exact h2.elim
theorem sl_lc {elt iter : Expr} {scope : Scope} {pos tpos : Pos} {x : Str} {i : Nat} {src body : IE}
    (hc : X.calm = true) (hN : X.N.Nodup) (ok : BlkOk X.N X.env.scope scope [(x, i)]) (hi : SE R cls Γ X iter src) (hix : X.N[i]? = some x) (hl : (relS scope X.env.scope).names.lookup x = some .local)
    (he : ∀ (s : Shared) (H : Hp) (C : Addr) (cl : List (Str × Addr)) (fp : List Addr), SE R cls Γ (X.blk s H scope (compEnvC scope cl C X.env) fp) elt body) (hb : md body ≠ .bor) (hs : ∀ x, foldedSetIterable iter X.env x = pure x) :
    SL R cls Γ X (.ListComp elt [⟨.Name x tpos, iter, [], 0⟩] scope pos) (.lc i src body) :=
  sl_lc0 (tt := tYes) (p := fun _ _ => pure true) rfl (fun env => by
    conv => lhs; unfold ev
    simp only [mapL_filt]) hc hN ok hi hix hl (fun _ _ _ _ _ => pts_nil) (fun g A0 σ env d v s s1 b H K k o h hK => by
    obtain ⟨a, b'⟩ := ok_inj (show (Res.ok true s : Res R.S Bool) = .ok b s1 from h)
    subst a b'
    exact hK H Ext.refl o) he hb hs
theorem sl_lci {elt iter cond : Expr} {scope : Scope} {pos tpos : Pos} {x : Str} {i : Nat} {src body ic : IE}
    (hc : X.calm = true) (hN : X.N.Nodup) (ok : BlkOk X.N X.env.scope scope [(x, i)]) (hi : SE R cls Γ X iter src) (hix : X.N[i]? = some x) (hl : (relS scope X.env.scope).names.lookup x = some .local)
    (ht : ∀ (s : Shared) (H : Hp) (C : Addr) (cl : List (Str × Addr)) (fp : List Addr), ST R cls Γ (X.blk s H scope (compEnvC scope cl C X.env) fp) cond ic)
    (he : ∀ (s : Shared) (H : Hp) (C : Addr) (cl : List (Str × Addr)) (fp : List Addr), SE R cls Γ (X.blk s H scope (compEnvC scope cl C X.env) fp) elt body) (hb : md body ≠ .bor) (hs : ∀ x, foldedSetIterable iter X.env x = pure x) :
    SL R cls Γ X (.ListComp elt [⟨.Name x tpos, iter, [cond], 0⟩] scope pos) (.lci i src ic body) :=
  sl_lc0 (tt := rdT R cls Γ X.K ic) (p := fun env d => ev Γ ic (put env i d .frz) >>= truth) rfl (fun env => by
    conv => lhs; unfold ev) hc hN ok hi hix hl (fun s H C cl fp => pts_one (ht s H C cl fp).pt) (fun g A0 σ env d v s s1 b H K k o h hK => by
    refine ⟨g, A0, _, s, k, o, ?_⟩
    rw [h]
    exact hK) he hb hs
theorem se_lc {elt iter : Expr} {scope : Scope} {pos tpos : Pos} {x : Str} {i : Nat} {src body : IE}
    (hc : X.calm = true) (hN : X.N.Nodup) (ok : BlkOk X.N X.env.scope scope [(x, i)]) (hi : SE R cls Γ X iter src) (hix : X.N[i]? = some x) (hl : (relS scope X.env.scope).names.lookup x = some .local)
    (he : ∀ (s : Shared) (H : Hp) (C : Addr) (cl : List (Str × Addr)) (fp : List Addr), SE R cls Γ (X.blk s H scope (compEnvC scope cl C X.env) fp) elt body) (hb : md body ≠ .bor) (hs : ∀ x, foldedSetIterable iter X.env x = pure x) :
    SE R cls Γ X (.ListComp elt [⟨.Name x tpos, iter, [], 0⟩] scope pos) (.lc i src body) :=
  (sl_lc hc hN ok hi hix hl he hb hs).se
theorem se_lci {elt iter cond : Expr} {scope : Scope} {pos tpos : Pos} {x : Str} {i : Nat} {src body ic : IE}
    (hc : X.calm = true) (hN : X.N.Nodup) (ok : BlkOk X.N X.env.scope scope [(x, i)]) (hi : SE R cls Γ X iter src) (hix : X.N[i]? = some x) (hl : (relS scope X.env.scope).names.lookup x = some .local)
    (ht : ∀ (s : Shared) (H : Hp) (C : Addr) (cl : List (Str × Addr)) (fp : List Addr), ST R cls Γ (X.blk s H scope (compEnvC scope cl C X.env) fp) cond ic)
    (he : ∀ (s : Shared) (H : Hp) (C : Addr) (cl : List (Str × Addr)) (fp : List Addr), SE R cls Γ (X.blk s H scope (compEnvC scope cl C X.env) fp) elt body) (hb : md body ≠ .bor) (hs : ∀ x, foldedSetIterable iter X.env x = pure x) :
    SE R cls Γ X (.ListComp elt [⟨.Name x tpos, iter, [cond], 0⟩] scope pos) (.lci i src ic body) :=
  (sl_lci hc hN ok hi hix hl ht he hb hs).se
/-- list(range(a, b)), list(range(b)) -/
theorem rng_rps {c : Rc} {A : Addr → Prop} {H : Hp} (a b : Int) : Rps c A H (rngL a b) (rgV a b) := by
  unfold rngL rgV
  generalize List.range (b - a).toNat = l
  induction l with
  | nil => exact rfl
  | cons n l ih => exact ⟨_, _, rfl, rfl, ih⟩
theorem se_lrng {a b : Expr} {ia ib : IE} {p p2 pos pos2 : Pos} (hc : X.calm = true) (hg : Gl X "range") (hm : X.mg "range" = none) (hg2 : Gl X "list") (hm2 : X.mg "list" = none) (h1 : SE R cls Γ X a ia) (h2 : SE R cls Γ X b ib) (n1 : noStar a = true) (n2 : noStar b = true) :
    SE R cls Γ X (.Call (.Name "list" p) [.Call (.Name "range" p2) [a, b] [] pos2] [] pos) (.lrng ia ib) := by
  obtain ⟨t1, p1, q1⟩ := h1
  obtain ⟨t2, p2', q2⟩ := h2
  refine ⟨_, pe_listRg hc hg2 hm2 (prg_2 hg hm p1 p2' (star_cons n1) (star_cons n2) (by rw [star_cons n2]; rfl)), fun σ H Q g A0 env s k o h => ?_⟩
  unfold ev at h
  refine SE.bindE q1 k o h fun d s1 v H1 x1 o1 r1 k1 h => ?_
  refine SE.bindE q2 k1 o1 h fun e s2 w H2 x2 o2 r2 k2 h => ?_
  cases d with
  | int i =>
    cases e with
    | int j =>
      have h : PostE R (md (.lrng ia ib)) (rc cls X g) (Av A0 env σ) H ((if -(2 ^ 62) ≤ i ∧ i < 2 ^ 62 ∧ -(2 ^ 62) ≤ j ∧ j < 2 ^ 62 ∧ (j - i).toNat ≤ 16777216 then (pure (.lst (rngL i j)) : M R.S D) else bad) s2) Q := h
      split at h
      · rename_i z
        refine ⟨i, j, Rm.flat r1 rfl, Rm.flat r2 rfl, ⟨z.1, z.2.1, z.2.2.1, z.2.2.2.1, z.2.2.2.2⟩, fun q hq => ?_⟩
        have l : (rngL i j).length ≤ sizeLine := by
          unfold rngL
          rw [List.length_map, List.length_range, sizeLine_eq]
          exact z.2.2.2.2
        exact h _ _ ((x1.trans x2).trans (Ext.new hq)) (RS.new o2 hq) (.inr ⟨q, rfl, (x1.trans x2).back k2.gTr hq, _, upd_same, l, rng_rps i j⟩)
      · exact h.elim
    | _ => exact h.elim
  | _ => exact h.elim

/-- over a range -/
theorem rgV_get {a b : Int} {n : Nat} (h : n < (b - a).toNat) : (rgV a b)[n]? = some (.int (a + (n : Nat))) := by
  unfold rgV
  rw [List.getElem?_map, List.getElem?_range h]
  rfl
theorem rgV_len {a b : Int} : (rgV a b).length = (b - a).toNat := by
  unfold rgV
  rw [List.length_map, List.length_range]
theorem sl_lcr0 {elt iter : Expr} {ifs : List Expr} {scope : Scope} {pos tpos : Pos} {x : Str} {i : Nat} {ia ib ic body : IE} {tt : TT} {wi : TI}
    (hc : X.calm = true) (hN : X.N.Nodup) (ok : BlkOk X.N X.env.scope scope [(x, i)]) (pi : PI X (.Name x tpos) iter wi) (hix : X.N[i]? = some x)
    (hwi : ∀ {σ : L2.St} {H : Hp} {g : List Addr} {A0 : Addr → Prop} {env : IEnv} {s : R.S} {f : Int × Int → M R.S D} {Q : VK} {W : It → Hp → Prop}, EnvOk (rc cls X g) A0 H σ env → R.ok g s H → PostE R .fr (rc cls X g) (Av A0 env σ) H ((ev Γ ia env >>= fun x => ev Γ ib env >>= fun y => opt (rngOf x y) >>= f) s) Q →
      (∀ (a b : Int) (s1 : R.S) (H1 : Hp), Ext (Gv (rc cls X g)) H H1 → R.ok g s1 H1 → EnvOk (rc cls X g) A0 H1 σ env → (b - a).toNat ≤ 16777216 → PostE R .fr (rc cls X g) (Av A0 env σ) H (f (a, b) s1) Q → W (Itr a (b - a).toNat) H1) → wi σ H W)
    (hl : (relS scope X.env.scope).names.lookup x = some .local)
    (htt : ∀ (s : Shared) (H : Hp) (C : Addr) (cl : List (Str × Addr)) (fp : List Addr), PTs (X.blk s H scope (compEnvC scope cl C X.env) fp) ifs tt)
    (ht2 : ∀ (g : List Addr) (A0 : Addr → Prop) (σ : L2.St) (env : IEnv) (d : D) (v : V) (s s1 : R.S) (b : Bool) (H : Hp) (K : Bool → Hp → Prop), EnvOk (rc cls X g) A0 H (σ.set i (some v)) (put env i d .frz) → R.ok g s H → (ev Γ ic (put env i d .frz) >>= truth) s = .ok b s1 → (∀ H', Ext (Gv (rc cls X g)) H H' → R.ok g s1 H' → K b H') → tt (σ.set i (some v)) H K)
    (he : ∀ (s : Shared) (H : Hp) (C : Addr) (cl : List (Str × Addr)) (fp : List Addr), SE R cls Γ (X.blk s H scope (compEnvC scope cl C X.env) fp) elt body) (hb : md body ≠ .bor) (hs : ∀ x, foldedSetIterable iter X.env x = pure x) :
    SL R cls Γ X (.ListComp elt [⟨.Name x tpos, iter, ifs, 0⟩] scope pos) (.lcr i ia ib ic body) := by
  refine ⟨_, pe_lc (own := [(x, i)]) (g := gName i) (tt := tt) (te := rdE R cls Γ X.K body) hc hN pi ok (fun s H C cl fp => pg_name (i := i) hN hix (.inl hl) (.inr hl)) htt (fun s H C cl fp => (he s H C cl fp).pe) hs, fun hy hyl hsw => ps_setLc (own := [(x, i)]) (g := gName i) (tt := tt) (te := rdE R cls Γ X.K body) hc hN hy hyl hsw pi ok (fun s H C cl fp => pg_name (i := i) hN hix (.inl hl) (.inr hl)) htt (fun s H C cl fp => (he s H C cl fp).pe) hs, fun σ H Q g A0 env s k o h => ?_⟩
  unfold ev at h
  refine hwi k o h fun a b s1 H1 x1 o1 k1 hlen h2 => ?_
  by_cases hok : okSlot env i = true
  · rw [if_pos hok] at h2
    rw [bind_def] at h2
    unfold calm at h2
    cases hrun : filtL (fun d => ev Γ ic (put env i d .frz) >>= truth) (fun d => ev Γ body (put env i d .frz)) (rngL a b) s1 with
    | bad => rw [hrun] at h2; exact h2.elim
    | er _ _ _ => rw [hrun] at h2; exact h2.elim
    | ok r s2 =>
      rw [hrun] at h2
      have fin : ∀ {D0 : Addr}, H1 D0 = none → ∀ H' ws, Ext (Gv (rc cls X g)) H1 H' → R.ok g s2 H' → H' D0 = some (.lst ws) → r.length ≤ sizeLine → Rps (rc cls X g) (Plus (Av A0 env σ) D0) H' r ws → Q (.ref D0) H' := fun {D0} hD H' ws x o h1 h3 h4 =>
        h2 (.ref D0) H' (x1.trans x) o (.inr ⟨D0, rfl, x1.back k1.gTr hD, ws, h1, h3, h4⟩)
      have hln : (rngL a b).length ≤ sizeLine := by
        unfold rngL
        rw [List.length_map, List.length_range, sizeLine_eq]
        exact hlen
      refine fun D0 hD => ?_
      exact lc_run (c := rc cls X g) (xs := rgV a b) hok hb (fun A0 => ht2 g A0 σ env) k1 (rng_rps a b) hln hD o1 hrun (fin hD) (fun Pv h0 hx hs hd => lc_range Pv h0 (fun n H hn hp => hs n _ H (rgV_get hn) hp) (fun H hp => hd H (by rw [rgV_len]; exact hp))) rfl
  · rw [if_neg hok] at h2
    exact h2.elim

/-- slices -/
def SO (R : RS) (cls : Str → Addr) (Γ : Gm R.S) (X : Cx) (e : Option Expr) (b : Bool) (ie : IE) : Prop :=
  ∃ t, PO X e t ∧ ∀ {σ : L2.St} {H : Hp} {g : List Addr} {A0 : Addr → Prop} {env : IEnv} {s : R.S} {m : Md} {H0 : Hp} {A1 : Addr → Prop} {f : Option Int → M R.S D} {Q : VK} {K : Option Int → Hp → Prop}, EnvOk (rc cls X g) A0 H σ env → R.ok g s H → PostE R m (rc cls X g) A1 H0 ((evPart b (ev Γ ie env) >>= f) s) Q →
    (∀ (o : Option Int) (s1 : R.S) (H1 : Hp), Ext (Gv (rc cls X g)) H H1 → R.ok g s1 H1 → EnvOk (rc cls X g) A0 H1 σ env → PostE R m (rc cls X g) A1 H0 (f o s1) Q → K o H1) → t σ H K
theorem so_none {ie : IE} : SO R cls Γ X none false ie := by
  refine ⟨tNoPart, po_none, fun {σ H g A0 env s m H0 A1 f Q K} k o h hK => ?_⟩
  exact hK none s H Ext.refl o k h
theorem so_some {e : Expr} {ie : IE} (h : SE R cls Γ X e ie) : SO R cls Γ X (some e) true ie := by
  obtain ⟨t, pe, q⟩ := h
  refine ⟨_, po_some pe, fun {σ H g A0 env s m H0 A1 f Q K} k o h hK => ?_⟩
  have h : PostE R m (rc cls X g) A1 H0 (((ev Γ ie env >>= fun d => (match d with | .int i => pure (some i) | _ => bad : M R.S (Option Int))) >>= f) s) Q := h
  rw [bind_assoc'] at h
  refine SE.bindE q k o h fun d s1 v H1 x1 o1 r1 k1 h => ?_
  cases d with
  | int i => exact ⟨i, Rm.flat r1 rfl, hK (some i) s1 H1 x1 o1 k1 h⟩
  | _ => exact h.elim
theorem cutV_rps {c : Rc} {A : Addr → Prop} {H : Hp} {ds : List D} {vs : List V} (h : Rps c A H ds vs) (lo hi : Option Int) : Rps c A H (cutD ds lo hi) (cutV vs lo hi) := by
  unfold cutD cutV
  rw [h.length]
  exact (h.drop _).take _
theorem cutD_length {α : Type} (xs : List α) (lo hi : Option Int) : (cutD xs lo hi).length ≤ xs.length := by
  unfold cutD
  rw [List.length_take, List.length_drop]
  omega
theorem scr_rps {c : Rc} {A : Addr → Prop} {H : Hp} : ∀ (ns : List Int), Rps c A H (ns.map D.int) (ns.map V.int)
  | [] => rfl
  | n :: ns => ⟨_, _, rfl, rfl, scr_rps ns⟩
theorem se_slc {a : Expr} {lo hi : Option Expr} {bl bh : Bool} {ia il ih : IE} {p2 pos : Pos} (h1 : SE R cls Γ X a ia) (h2 : SO R cls Γ X lo bl il) (h3 : SO R cls Γ X hi bh ih) : SE R cls Γ X (.Subscript a (.Slice lo hi none p2) pos) (.slc bl bh ia il ih) := by
  obtain ⟨t1, p1, q1⟩ := h1
  obtain ⟨t2, p2', q2⟩ := h2
  obtain ⟨t3, p3', q3⟩ := h3
  refine ⟨_, pe_slice (sl_list.or (sl_tupA.or sl_str)) p1 p2' p3', fun σ H Q g A0 env s k o h => ?_⟩
  unfold ev at h
  refine SE.bindE q1 k o h fun d s1 v H1 x1 o1 r1 k1 h => ?_
  refine q2 k1 o1 h fun l s2 H2 x2 o2 k2 h => ?_
  refine q3 k2 o2 h fun u s3 H3 x3 o3 k3 h => ?_
  obtain ⟨z, hz, hq⟩ := opt_ofE' h
  clear h
  have x13 := x2.trans x3
  have l1 := (r1.lb k.gA k.trA).mono x13 k.gA
  have x03 := x1.trans x13
  have new : ∀ {ds : List D} {vs : List V}, Rps (rc cls X g) (Av A0 env σ) H3 ds vs → ds.length ≤ sizeLine → z = .lst ds → ∀ p, H3 p = none → Q (.ref p) (upd H3 p (.lst vs)) := fun {ds vs} r hl e p hp => by
    subst e
    refine hq _ _ (x03.trans (Ext.new hp)) (RS.new o3 hp) (.inr ⟨p, rfl, x03.back k3.gTr hp, _, upd_same, hl, (r.plus hp).ext (Ext.new hp) fun a h => .inl (k.gA a h)⟩)
  cases d with
  | lst ds =>
    cases hz
    obtain ⟨p, xs, e1, e2, e3, e4, e5⟩ := l1.lst k.gA
    exact .inl ⟨p, xs, e1, .inl (.inl e2), new (cutV_rps e4 l u) (Nat.le_trans (cutD_length _ _ _) e3) rfl⟩
  | scr ns =>
    have hz : (if ns.length ≤ sizeLine then some (.lst ((cutD ns l u).map D.int)) else none) = some z := hz
    split at hz
    · rename_i hl
      cases hz
      have l2 : Rp (rc cls X g) (Av A0 env σ) H3 (.scr ns) v := l1.elim id fun ⟨_, _, _, z⟩ => z.elim
      obtain ⟨p, e1, e2⟩ := l2
      have e : cutV (ns.map V.int) l u = (cutD ns l u).map V.int := by
        unfold cutV cutD
        rw [List.length_map, List.map_take, List.map_drop]
      refine .inl ⟨p, _, e1, e2.sq, ?_⟩
      rw [e]
      exact new (scr_rps _) (by rw [List.length_map]; exact Nat.le_trans (cutD_length _ _ _) hl) rfl
    · cases hz
  | tup ds =>
    cases hz
    obtain ⟨p, xs, e1, e2, e4⟩ := l1.tup
    refine .inr (.inl ⟨p, xs, e1, e2, fun hw => ?_, fun hw p2 hp => ?_⟩)
    · refine hq _ _ x03 o3 (.inl ⟨rfl, p, xs, rfl, e2, ?_⟩)
      have e : cutD ds l u = ds := by
        unfold cutD
        rw [← e4.length, hw.1, hw.2, Nat.sub_zero, List.drop_zero, e4.length, List.take_length]
      rw [e]
      exact e4
    · refine hq _ _ (x03.trans (Ext.new hp)) (RS.new o3 hp) (.inl ⟨rfl, p2, _, rfl, .inl (.inl upd_same), (cutV_rps e4 l u).ext (Ext.new hp) k.gA⟩)
  | str y =>
    have hz : (if y.length ≤ sizeLine then some (D.str (cutS y l u)) else none) = some z := hz
    split at hz
    · rename_i hl
      cases hz
      exact .inr (.inr ⟨y, l1.str, hl, hq _ _ x03 o3 (Rm.of_flat rfl rfl)⟩)
    · cases hz
  | _ => cases hz
end
end Pv
end
section
set_option maxHeartbeats 1000000
namespace Pv
open PySem PySem.Spec PyProof.Rows L2
open PySem.AutoSeq1 (wpAny_loadPart')
open RZ

/-! ### enumerate(tuple) -/
theorem meets_enum_newT (l : Addr) (items : Array Value) (n : Nat) (dct : Option Addr) (sl : Array (Option Value)) :
    Meets (Builtin.«enumerate.__new__» ⟨[.type "enumerate", .ref l], []⟩) (fun _ R s => s.heap.get? l = some { cls := .type "tuple", dict := dct, data := .seq items n, slots := sl } ∧
      R (.ok (.ret (.ref (s.heap.push { cls := .type "tuple_iterator", data := .fields #[.ref l, .int 0 0] }).objs.size)))
        { s with heap := (s.heap.push { cls := .type "tuple_iterator", data := .fields #[.ref l, .int 0 0] }).push { cls := .type "enumerate", data := .fields #[.none, .bool false, .ref s.heap.objs.size, rawInt 0, .none, .none] } }) :=
  .of_wp fun prog w A R s h => by
    obtain ⟨hp, g, d, tk, os⟩ := s; obtain ⟨hl, h⟩ := h
    have hsub := sub_enumerate
    have hL : Heap.IsTuple (Shared.heap ⟨hp, g, d, tk, os⟩) l items := ⟨_, hl, rfl, n, rfl⟩
    wp_walk using wpAny_loadPart' hl
    refine wpAny_stack_any fun st => wpAny_pure ?_
    split
    · rename_i c _ _ _ _ _
      cases (c == Value.type "enumerate")
      · wp_walk using wpAny_loadPart' hl, wpAny_pyIter_tuple hL
        exact ⟨_, rfl, h⟩
      · wp_walk using wpAny_loadPart' hl, wpAny_pyIter_tuple hL
        exact ⟨_, rfl, h⟩
    · wp_walk using wpAny_loadPart' hl, wpAny_pyIter_tuple hL
      exact ⟨_, rfl, h⟩
section
variable {prog : Program} {w : World} {A : Around} {E : Value → Shared → Prop} {s : Shared}
theorem call_enum_tup {l : Addr} {items : Array Value} {Q : Value → Shared → Prop} (hL : s.heap.IsTuple l items)
    (h : ∀ h', IsEnum h' (s.heap.objs.size + 1) s.heap.objs.size 0 .none → h'.IsTupleIter s.heap.objs.size l 0 → h'.objs.size = s.heap.objs.size + 2 →
      (∀ b o, s.heap.get? b = some o → h'.get? b = some o) → Q (.ref (s.heap.objs.size + 1)) { s with heap := h' }) :
    wpAny (model prog w) A (call (.type "enumerate") [.ref l]) Q E s := by
  obtain ⟨⟨c, dct, dt, sl⟩, hl, hc, n, hd⟩ := hL
  replace hc : c = .type "tuple" := hc
  replace hd : dt = .seq items n := hd
  subst hc hd
  refine callType_new F.called_enumerate (by decide) (F.typeCall_enumerate_1 _) (F.newCall_enumerate_1 _) (fun obj => F.args_object_init_2 obj _) F.entry_enumerate_new
    (meets_enum_newT l items n dct sl) ⟨hl, ?_⟩
  have hz : (s.heap.push { cls := .type "tuple_iterator", data := .fields #[.ref l, .int 0 0] }).objs.size = s.heap.objs.size + 1 := Heap.size_push ..
  show _ ∧ _
  rw [hz]
  have he : IsEnum ((s.heap.push { cls := .type "tuple_iterator", data := .fields #[.ref l, .int 0 0] }).push
      { cls := .type "enumerate", data := .fields #[.none, .bool false, .ref s.heap.objs.size, rawInt 0, .none, .none] }) (s.heap.objs.size + 1) s.heap.objs.size 0 .none := by
    have := Heap.get?_push_size (s.heap.push { cls := .type "tuple_iterator", data := .fields #[.ref l, .int 0 0] })
      (o := { cls := .type "enumerate", data := .fields #[.none, .bool false, .ref s.heap.objs.size, rawInt 0, .none, .none] }) rfl
    rw [hz] at this; exact this
  refine ⟨⟨_, he, rfl⟩, h _ he ⟨_, Heap.get?_push_of_some _ (Heap.get?_push_size _ rfl), rfl, rfl⟩ (by rw [Heap.size_push, hz]) fun b o x => Heap.get?_push_of_some _ (Heap.get?_push_of_some _ x)⟩
end
/-- the tuple at a, each item in a new pair -/
def ItE2 (K : PySem.W.Frag) (a : Addr) : It :=
  ⟨fun i H => ∃ (xs : List V) (x : V), SqT K H a xs ∧ xs[i]? = some x, fun i H v H' => ∃ T x, v = .ref T ∧ H T = none ∧ H' = upd H T (.tup [.int (i : Nat), x]) ∧ ∀ xs, SqT K H a xs → xs[i]? = some x, fun i H => ∃ xs : List V, SqT K H a xs ∧ xs.length ≤ i⟩
theorem tit_ne {h : Heap} {it a : Addr} {i : Nat} {items : Array Value} (x : h.IsTupleIter it a i) (y : h.IsTuple a items) : a ≠ it := fun e => by
  subst e
  obtain ⟨o, e1, c1, _⟩ := x
  obtain ⟨o', e2, c2, _⟩ := y
  rw [e1] at e2
  cases e2
  rw [c1] at c2
  exact absurd c2 (by decide)
theorem turn_enumT {P : Program} {w : World} {K : PySem.W.Frag} {elts : List Expr} {kk : Nat} {tpos : Pos} (a e it : Addr) :
    Turn P w K (.Tuple elts kk tpos) (ItE2 K a) [e, it] e (fun i h => (∃ old, IsEnum h e it ((i : Nat) : Int) old) ∧ h.IsTupleIter it a i ∧ e ≠ it) where
  mem := by simp
  obj := fun i h st b hb => by
    obtain ⟨⟨old, he⟩, ⟨o, ho, hc, hd⟩, _⟩ := st
    have e' : b = e ∨ b = it := by simpa using hb
    rcases e' with z | z
    · rw [z]; exact ⟨_, he, fun v q => nomatch q⟩
    · rw [z]; exact ⟨o, ho, fun v q => by rw [hd] at q; cases q⟩
  keep := fun i h h' st k => let ⟨⟨old, he⟩, hi, hne⟩ := st; ⟨⟨old, k e (by simp) _ he⟩, hi.at fun o q => k it (by simp) o q, hne⟩
  item := by
    intro X hP hw hK hc i pins s σ H E I hf st hg
    subst hP hw hK
    obtain ⟨⟨old, he⟩, hit, hne⟩ := st
    obtain ⟨xs, x, hq, hx⟩ := hg
    obtain ⟨its, rv, p, hz⟩ := I.tuple hq
    have p : s.heap.IsTuple a its.toArray := p
    obtain ⟨u, hu, ru⟩ := rv.get hx
    have hel : e < s.heap.objs.size := Heap.lt_size he
    have hil : it < s.heap.objs.size := by obtain ⟨_, q, _⟩ := hit; exact Heap.lt_size q
    have hai := tit_ne hit p
    have hae : e ≠ a := fun z => by
      obtain ⟨o', e2, c2, _⟩ := p
      rw [← z, he] at e2
      cases e2
      exact absurd (show Value.type "enumerate" = Value.type "tuple" from c2) (by decide)
    have hix : i < its.toArray.size := by
      have := (List.getElem?_eq_some_iff.mp hu).1
      simpa using this
    refine wpAny_pyNext_enum_itemD (Draws.tuple (A := X.A.in1) (I.ok.hd hc) it a hai its.toArray) he ⟨hit, p⟩ hix hne (by simp [hne, hae]) fun x' h' tk hP ho hit' hT hsz hk => ?_
    have hxu : x' = u := by
      have hP : its.toArray[i]? = some x' := hP
      have hu' : its.toArray[i]? = some u := by simpa using hu
      rw [hu'] at hP
      exact (Option.some.inj hP).symm
    subst hxu
    refine ⟨_, rfl, wpAny_letOwnedTupleGo_enum (s := { s with heap := h', toks := tk + 1 }) ho fun h'' he' sb => ?_⟩
    have hT2 : h''.get? s.heap.objs.size = some { cls := .type "tuple", data := .seq #[.int i tk, x'] } := (sb.2 _ (Nat.ne_of_gt hel)).trans hT
    have new : ObjOk X.prog X.w (upd H s.heap.objs.size (.tup [.int (i : Nat), x])) h'' s.heap.objs.size (.tup [.int (i : Nat), x]) :=
      ⟨by show 2 ≤ sizeLine; decide, [.int i tk, x'], .cons ⟨_, rfl⟩ (.cons ru .nil), ⟨_, hT2, rfl, _, rfl⟩⟩
    have I1 : Inv X pins σ (upd H s.heap.objs.size (.tup [.int (i : Nat), x])) { s with heap := h'', toks := tk + 1 } :=
      I.turnedNew (ch := [e, it]) (fun b ob hb q => (sb.2 b (fun z => hb (by simp [z]))).trans (hk b ob (fun z => hb (by simp [z])) (fun z => hb (by simp [z])) q)) hf (Nat.le_refl _) new
    refine ⟨.ref s.heap.objs.size, _, I1, rfl, ⟨_, x, rfl, I.hok.fresh (Nat.le_refl _), rfl, fun ys hy => by rw [I.tuple_inj hy hq]; exact hx⟩, ⟨⟨x', ?_⟩, hit'.1.at fun o q => (sb.2 it (Ne.symm hne)).trans q, hne⟩, fun b hb => ?_⟩
    · have e1 : ((i + 1 : Nat) : Int) = (i : Int) + 1 := by omega
      rw [e1]; exact he'
    · have hb' : b < s.heap.objs.size := by
        have e' : b = e ∨ b = it := by simpa using hb
        rcases e' with z | z
        · rw [z]; exact hel
        · rw [z]; exact hil
      rw [upd_ne (Nat.ne_of_lt hb')]
      exact (hf b hb).1
  done := by
    intro X hP hw hK hc i pins s σ H E I hf st hg
    subst hP hw hK
    obtain ⟨⟨old, he⟩, hit, hne⟩ := st
    obtain ⟨xs, hq, hx⟩ := hg
    obtain ⟨its, rv, p, hz⟩ := I.tuple hq
    have p : s.heap.IsTuple a its.toArray := p
    obtain ⟨f0, f1, f2, f3, f4, f5⟩ := hf it (by simp)
    have hl := rv.length
    unfold pyNext
    refine wpAny_bind (wpAny_attempt (wpAny_callSpecial?_slot (name := Str.ofString "__next__") ⟨_, he, rfl⟩ F.slot_enumerate_next
      (wpAny_call_entry F.slot_enumerate_next ⟨_, he, rfl⟩ F.entry_enumerate_next ?_ (F.args_enumerate_next_1 _))))
    show wpAny _ _ (field (.ref e) 2 >>= _) _ _ _
    refine wpAny_bind (wpAny_field he rfl (x := .ref it) rfl ?_)
    refine wpAny_bind (wpAny_nextOf_tuple_end (by exact I.ok.hd hc) hit p (by simp; omega) fun h' x hk' hx' => ?_)
    obtain ⟨o, ho, hc⟩ := hx'
    refine wpAny_bind (wpAny_isInstance (T := "StopIteration") (b := true) ⟨o, ho, hc⟩ isSubtype_stop ?_)
    exact wpAny_pure ⟨rfl, I.turned (t' := s.toks) (fun b o hb q => hk' b o hb q) f0 f1 f3 f4 f5⟩
  self := fun A i s Q E st h => let ⟨⟨_, he⟩, _⟩ := st; wpAny_pyIter_enum he h
/-- enumerate(e), e a list or a tuple -/
def iEnumA (K : PySem.W.Frag) (ta : TA) : TI := fun σ H R => ta σ H fun vs H1 => ∃ a, vs = [.ref a] ∧ (((∃ xs, SqL K H1 a xs) ∧ R (Ite K a) H1) ∨ ((∃ xs, SqT K H1 a xs) ∧ R (ItE2 K a) H1))
theorem pi_enumA {X : Cx} {e : Expr} {ta : TA} {p pos tpos : Pos} {elts : List Expr} {kk : Nat} (hg : Gl X "enumerate") (hm : X.mg "enumerate" = none) (ha : PA X [e] ta) (hs : starEach [e] X.env = [(false, eval e X.env)]) :
    PI X (.Tuple elts kk tpos) (.Call (.Name "enumerate" p) [e] [] pos) (iEnumA X.K ta) := by
  refine ⟨fun pins s σ H R I h => ?_⟩
  refine Call_ (ld_blt I hg hm boot_enumerate (PyProof.Rows.callWith_type1 (thn (ha.run pos pins s σ H _ I h) fun us s1 ⟨vs, H1, I1, r1, q1⟩ => ?_) hs rfl))
  obtain ⟨a, ex, q⟩ := q1
  subst ex
  cases r1 with
  | cons r rr =>
    cases rr
    cases r
    rcases q with ⟨⟨xs, hq⟩, q⟩ | ⟨⟨xs, hq⟩, q⟩
    · obtain ⟨its, rv, p', hz⟩ := I1.list hq
      refine call_enumerate_list p'.isList fun h' he hit hsz hk => wpAny_pyIter_enum he ?_
      have I2 : Inv X pins σ H1 { s1 with heap := h' } := I1.kept (t' := s1.toks) hk
      refine ⟨s1.heap.objs.size + 1, [s1.heap.objs.size + 1, s1.heap.objs.size], _, _, H1, rfl, I2, turn_enum a (s1.heap.objs.size + 1) s1.heap.objs.size, ⟨⟨.none, he⟩, hit, Nat.succ_ne_self _⟩, fun b hb => ?_, q⟩
      have e' : b = s1.heap.objs.size + 1 ∨ b = s1.heap.objs.size := by simpa using hb
      have hle : s1.heap.objs.size ≤ b := by
        rcases e' with z | z
        · rw [z]; exact Nat.le_add_right _ _
        · rw [z]; exact Nat.le_refl _
      exact I1.fpOk hle (I1.hok.fresh hle)
    · obtain ⟨its, rv, p', hz⟩ := I1.tuple hq
      refine call_enum_tup p' fun h' he hit hsz hk => wpAny_pyIter_enum he ?_
      have I2 : Inv X pins σ H1 { s1 with heap := h' } := I1.kept (t' := s1.toks) hk
      refine ⟨s1.heap.objs.size + 1, [s1.heap.objs.size + 1, s1.heap.objs.size], _, _, H1, rfl, I2, turn_enumT a (s1.heap.objs.size + 1) s1.heap.objs.size, ⟨⟨.none, he⟩, hit, Nat.succ_ne_self _⟩, fun b hb => ?_, q⟩
      have e' : b = s1.heap.objs.size + 1 ∨ b = s1.heap.objs.size := by simpa using hb
      have hle : s1.heap.objs.size ≤ b := by
        rcases e' with z | z
        · rw [z]; exact Nat.le_add_right _ _
        · rw [z]; exact Nat.le_refl _
      exact I1.fpOk hle (I1.hok.fresh hle)
theorem walk_enumT {K : PySem.W.Frag} {a : Addr} {xs : List V} : Walk (ItE2 K a) xs.length (fun H => SqT K H a xs) (YPair (fun i => some (.int (i : Nat))) (fun i => xs[i]?)) := by
  refine ⟨fun i _ hi q => ⟨xs, xs[i], q, by simp [hi]⟩, fun _ q => ⟨xs, q, Nat.le_refl _⟩, fun i H v H' _ q y => ?_⟩
  obtain ⟨T, x, h1, h2, h3, h4⟩ := y
  exact ⟨T, .int (i : Nat), x, h1, h2, h3, rfl, h4 xs q⟩
theorem walk_zipT {K : PySem.W.Frag} {a b : Addr} {xs ys : List V} {n : Nat} (hn : n = min xs.length ys.length) : Walk (ItzT K a b) n (fun H => SqT K H a xs ∧ SqT K H b ys) (YPair (fun i => xs[i]?) (fun i => ys[i]?)) := by
  subst hn
  refine ⟨fun i _ hi q => ?_, fun _ q => ⟨xs, ys, q.1, q.2, by omega⟩, fun i H v H' _ q y => ?_⟩
  · have h1 : i < xs.length := by omega
    have h2 : i < ys.length := by omega
    exact ⟨xs, ys, xs[i], ys[i], q.1, q.2, by simp [h1], by simp [h2]⟩
  · obtain ⟨T, x, z, h1, h2, h3, h4, h5⟩ := y
    exact ⟨T, x, z, h1, h2, h3, h4 xs q.1, h5 ys q.2⟩
end Pv
end
section
set_option maxHeartbeats 1000000
namespace Pv
open PySem PySem.Spec PyProof.Rows L2

/-! ### targets -/
def setS (σ : L2.St) : List Nat → List V → L2.St
  | i :: is, v :: vs => setS (σ.set i (some v)) is vs
  | _, _ => σ
theorem Rps.anti {c : Rc} {A A' : Addr → Prop} {H : Hp} {ds : List D} {vs : List V} (h : Rps c A H ds vs) (n : ∀ a, A' a → A a) : Rps c A' H ds vs := Rps.mono (Ext.refl (W := fun _ => False)) (fun _ z => z.elim) (fun a z => .inl (n a z)) _ _ h
theorem Rp.anti {c : Rc} {A A' : Addr → Prop} {H : Hp} {d : D} {v : V} (h : Rp c A H d v) (n : ∀ a, A' a → A a) : Rp c A' H d v := Rp.mono (Ext.refl (W := fun _ => False)) (fun _ z => z.elim) (fun a z => .inl (n a z)) _ _ h
theorem CellAt.anti {c : Rc} {A A' : Addr → Prop} {H : Hp} {d : D} {a : Addr} (h : CellAt c A H a d) (n : ∀ a, A' a → A a) : CellAt c A' H a d := h.mono (Ext.refl (W := fun _ => False)) (fun _ z => z.elim) (fun a z => .inl (n a z)) id
theorem EnvOk.puts {c : Rc} {A0 : Addr → Prop} {H1 : Hp} : ∀ {is : List Nat} {ds : List D} {vs : List V} {σ : L2.St} {env : IEnv}, EnvOk c A0 H1 σ env → Rps c (Av A0 env σ) H1 ds vs → is.length = ds.length → EnvOk c A0 H1 (setS σ is vs) (Pv.puts env is ds)
  | [], [], vs, σ, env, k, r, _ => by
    have r : vs = [] := r
    subst r
    exact k
  | [], _ :: _, _, _, _, _, _, h => by simp at h
  | _ :: _, [], _, _, _, _, _, h => by simp at h
  | i :: is, d :: ds, vs, σ, env, k, r, h => by
    obtain ⟨v, ws, rfl, r1, r2⟩ := r
    show EnvOk c A0 H1 (setS (σ.set i (some v)) is ws) (Pv.puts (Pv.put env i d .frz) is ds)
    exact EnvOk.puts (k.put r1) (r2.anti fun b z => z.imp id Held.put) (by simpa using h)
theorem Held.puts : ∀ {is : List Nat} {ds : List D} {vs : List V} {σ : L2.St} {env : IEnv} {a : Addr}, is.length = ds.length → is.length = vs.length → Held (Pv.puts env is ds) (setS σ is vs) a → Held env σ a
  | [], _, _, _, _, _, _, _, h => h
  | i :: is, [], _, _, _, _, h, _, _ => by simp at h
  | i :: is, _ :: _, [], _, _, _, _, h, _ => by simp at h
  | i :: is, d :: ds, v :: vs, σ, env, a, h1, h2, h => Held.put (Held.puts (is := is) (ds := ds) (vs := vs) (by simpa using h1) (by simpa using h2) h)
theorem okSlot_put {env : IEnv} {i j : Nat} {d : D} (h : okSlot env j = true) : okSlot (put env i d .frz) j = true := by
  unfold okSlot put at *
  by_cases hij : i = j
  · subst hij
    by_cases hl : i < env.length
    · rw [List.getElem?_set_self hl]
      rfl
    · rw [List.getElem?_eq_none (by simpa using hl)]
      rfl
  · rw [List.getElem?_set_ne hij]
    exact h
theorem okSlots_put {env : IEnv} {i : Nat} {d : D} {is : List Nat} (h : okSlots env is = true) : okSlots (put env i d .frz) is = true :=
  List.all_eq_true.mpr fun j hj => okSlot_put (List.all_eq_true.mp h j hj)
theorem held_puts : ∀ {is : List Nat} {ds : List D} {vs : List V} {σ : L2.St} {env : IEnv} {a : Addr}, okSlots env is = true → Held env σ a → Held (puts env is ds) (setS σ is vs) a
  | [], _, _, _, _, _, _, h => h
  | i :: is, [], vs, σ, env, a, ok, h => by
    cases vs with
    | nil => exact h
    | cons v vs =>
      have ok' := ok
      unfold okSlots at ok'
      rw [List.all_cons, Bool.and_eq_true] at ok'
      -- no datum: the slots stay
      have aux : ∀ (is : List Nat) (vs : List V) (σ : L2.St), okSlots env is = true → Held env σ a → Held env (setS σ is vs) a := by
        intro is
        induction is with
        | nil => intro vs σ _ h; exact h
        | cons i is ih =>
          intro vs σ ok h
          cases vs with
          | nil => exact h
          | cons v vs =>
            unfold okSlots at ok
            rw [List.all_cons, Bool.and_eq_true] at ok
            refine ih vs _ ok.2 ?_
            obtain ⟨j, e, f, h1, h2, h3⟩ := h
            have hij : i ≠ j := by
              intro z
              subst z
              have ok1 := ok.1
              unfold okSlot at ok1
              rw [h1] at ok1
              rcases h2 with rfl | rfl <;> cases ok1
            exact ⟨j, e, f, h1, h2, by rw [List.getElem?_set_ne hij]; exact h3⟩
      exact aux (i :: is) (v :: vs) σ ok h
  | i :: is, d :: ds, [], σ, env, a, ok, h => by
    -- no value: only data change
    have aux : ∀ (is : List Nat) (ds : List D) (env : IEnv), okSlots env is = true → Held env σ a → Held (puts env is ds) σ a := by
      intro is
      induction is with
      | nil => intro ds env _ h; exact h
      | cons i is ih =>
        intro ds env ok h
        cases ds with
        | nil => exact h
        | cons d ds =>
          unfold okSlots at ok
          rw [List.all_cons, Bool.and_eq_true] at ok
          refine ih ds _ (okSlots_put ok.2) ?_
          obtain ⟨j, e, f, h1, h2, h3⟩ := h
          have hij : i ≠ j := by
            intro z
            subst z
            have ok1 := ok.1
            unfold okSlot at ok1
            rw [h1] at ok1
            rcases h2 with rfl | rfl <;> cases ok1
          exact ⟨j, e, f, by unfold put; rw [List.getElem?_set_ne hij]; exact h1, h2, h3⟩
    exact aux (i :: is) (d :: ds) env ok h
  | i :: is, d :: ds, v :: vs, σ, env, a, ok, h => by
    unfold okSlots at ok
    rw [List.all_cons, Bool.and_eq_true] at ok
    exact held_puts (is := is) (okSlots_put ok.2) (held_put ok.1 h)
/-! the block's names forgotten -/
theorem wipe_get (σ : L2.St) : ∀ (is : List Nat) (j : Nat), (wipe σ is)[j]? = if j ∈ is then σ[j]?.map (fun _ => none) else σ[j]?
  | [], j => by simp [wipe]
  | i :: is, j => by
    unfold wipe
    by_cases hij : i = j
    · subst hij
      rw [if_pos (List.mem_cons_self ..), List.getElem?_set]
      rw [if_pos rfl, wipe_length]
      by_cases hl : i < σ.length
      · rw [if_pos hl, List.getElem?_eq_getElem hl]
        rfl
      · rw [if_neg hl, List.getElem?_eq_none (by omega)]
        rfl
    · rw [List.getElem?_set_ne hij, wipe_get σ is j]
      by_cases hj : j ∈ is
      · rw [if_pos hj, if_pos (List.mem_cons_of_mem _ hj)]
      · rw [if_neg hj, if_neg (fun z => (List.mem_cons.mp z).elim (fun q => hij q.symm) hj)]
theorem setS_length : ∀ (is : List Nat) (vs : List V) (σ : L2.St), (setS σ is vs).length = σ.length
  | [], _, _ => rfl
  | _ :: _, [], _ => rfl
  | i :: is, v :: vs, σ => by
    show (setS (σ.set i (some v)) is vs).length = _
    rw [setS_length, List.length_set]
theorem setS_get : ∀ (is : List Nat) (vs : List V) (σ : L2.St) (j : Nat), j ∉ is → (setS σ is vs)[j]? = σ[j]?
  | [], _, _, _, _ => rfl
  | _ :: _, [], _, _, _ => rfl
  | i :: is, v :: vs, σ, j, h => by
    show (setS (σ.set i (some v)) is vs)[j]? = _
    rw [setS_get is vs _ j fun z => h (List.mem_cons_of_mem _ z), List.getElem?_set_ne fun z => h (by rw [z]; exact List.mem_cons_self ..)]
theorem setS_congr : ∀ (is : List Nat) (vs : List V) (σ τ : L2.St), σ.length = τ.length → vs.length = is.length → (∀ j, j ∉ is → σ[j]? = τ[j]?) → setS σ is vs = setS τ is vs
  | [], vs, σ, τ, hl, hv, h => by
    cases vs with
    | nil => exact List.ext_getElem? fun j => h j (by simp)
    | cons v vs => simp at hv
  | i :: is, [], σ, τ, hl, hv, h => by simp at hv
  | i :: is, v :: vs, σ, τ, hl, hv, h => by
    show setS (σ.set i (some v)) is vs = setS (τ.set i (some v)) is vs
    refine setS_congr is vs _ _ (by rw [List.length_set, List.length_set]; exact hl) (by simpa using hv) fun j hj => ?_
    by_cases hij : i = j
    · subst hij
      rw [List.getElem?_set, List.getElem?_set, if_pos rfl, if_pos rfl, hl]
    · rw [List.getElem?_set_ne hij, List.getElem?_set_ne hij]
      exact h j fun z => (List.mem_cons.mp z).elim (fun q => hij q.symm) hj
theorem setS_wipe {is : List Nat} {vs : List V} {σ : L2.St} (hv : vs.length = is.length) : setS (wipe σ is) is vs = setS σ is vs :=
  setS_congr is vs _ _ (wipe_length _ _) hv fun j hj => by rw [wipe_get, if_neg hj]
theorem wipe_setS {is : List Nat} {vs : List V} {σ : L2.St} : wipe (setS σ is vs) is = wipe σ is := List.ext_getElem? fun j => by
  rw [wipe_get, wipe_get]
  by_cases hj : j ∈ is
  · rw [if_pos hj, if_pos hj]
    by_cases hl : j < σ.length
    · rw [List.getElem?_eq_getElem hl, List.getElem?_eq_getElem (by rw [setS_length]; exact hl)]
      rfl
    · rw [List.getElem?_eq_none (l := setS σ is vs) (by rw [setS_length]; omega), List.getElem?_eq_none (l := σ) (by omega)]
  · rw [if_neg hj, if_neg hj, setS_get _ _ _ _ hj]

/-- names as targets -/
def gNames : List Nat → TGs
  | [] => gNil
  | i :: is => gCons (gName i) (gNames is)
theorem gNames_ok : ∀ {is : List Nat} {vs : List V} {σ : L2.St} {H : Hp} {Q : L2.St → Hp → Prop}, vs.length = is.length → Q (setS σ is vs) H → gNames is vs σ H Q
  | [], [], _, _, _, _, q => ⟨rfl, q⟩
  | [], _ :: _, _, _, _, h, _ => by simp at h
  | _ :: _, [], _, _, _, h, _ => by simp at h
  | i :: is, v :: vs, σ, H, Q, h, q => ⟨v, vs, rfl, gNames_ok (is := is) (by simpa using h) q⟩
/-- what a name must be to be stored -/
def nmL (vis : Str → Bool) (Ns : List Str) (i : Nat) (x : Str) : Bool := decide (Ns[i]? = some x) && vis x
def tgNs (vis : Str → Bool) (Ns : List Str) : List Nat → List Expr → Bool
  | [], es => es.isEmpty
  | i :: is, es => match es with
    | .Name x _ :: es => nmL vis Ns i x && tgNs vis Ns is es
    | _ => false
def tgX (vis : Str → Bool) (Ns : List Str) : Tg → Expr → Bool
  | .nm i, .Name x _ => nmL vis Ns i x
  | .tu is, .Tuple ts _ _ => tgNs vis Ns is ts
  | .nt i is, .Tuple [.Name x _, .Tuple ts _ _] _ _ => nmL vis Ns i x && tgNs vis Ns is ts
  | _, _ => false
def gTg (K : PySem.W.Frag) : Tg → TG
  | .nm i => gName i
  | .tu is => fun v σ H Q => ∃ a xs, v = .ref a ∧ (SqT K H a xs ∨ SqL K H a xs) ∧ xs.length = is.length ∧ gNames is xs σ H Q
  | .nt i is => gTup K 2 (gCons (gName i) (gCons (fun v σ H Q => ∃ a xs, v = .ref a ∧ (SqT K H a xs ∨ SqL K H a xs) ∧ xs.length = is.length ∧ gNames is xs σ H Q) gNil))
def VisOk (X : Cx) (vis : Str → Bool) : Prop := ∀ x, vis x = true → Loc X.env.scope x ∧ (X.fn x = true ∨ X.env.scope.names.lookup x = some .local)
section
variable {X : Cx} {vis : Str → Bool}
theorem pgs_vis (nd : X.N.Nodup) (hv : VisOk X vis) : ∀ {is : List Nat} {es : List Expr}, tgNs vis X.N is es = true → PGs X es (gNames is) ∧ (assignEach es X.env).length = is.length ∧ (assignEach es X.env).findIdx? (·.1) = none
  | [], es, h => by
    cases es with
    | nil => exact ⟨pgs_nil, rfl, rfl⟩
    | cons e es => cases h
  | i :: is, es, h => by
    unfold tgNs at h
    split at h
    · obtain ⟨h1, h3⟩ := Bool.and_eq_true_iff.mp h
      obtain ⟨h1, h2⟩ := Bool.and_eq_true_iff.mp h1
      obtain ⟨p1, p2, p3⟩ := pgs_vis nd hv h3
      refine ⟨pgs_cons (pg_name nd (of_decide_eq_true h1) (hv _ h2).1 (hv _ h2).2) p1 rfl, ?_, ?_⟩
      · show (assignEach _ X.env).length + 1 = is.length + 1
        rw [p2]
      · show List.findIdx? (·.1) ((false, _) :: assignEach _ X.env) = none
        rw [List.findIdx?_cons, p3]
        rfl
    · cases h
/-- a, b = e, e a tuple or a list -/
theorem pg_tl {es : List Expr} {k : Nat} {t : TGs} {n : Nat} {pos : Pos} (hc : X.calm = true) (h : PGs X es t) (hn : (assignEach es X.env).length = n) (hst : (assignEach es X.env).findIdx? (·.1) = none) :
    PG X (.Tuple es k pos) (fun v σ H Q => ∃ a xs, v = .ref a ∧ (SqT X.K H a xs ∨ SqL X.K H a xs) ∧ xs.length = n ∧ t xs σ H Q) := by
  refine ⟨fun pins s σ H v u Q I r ⟨a, xs, e1, e2, e3, e4⟩ => ?_⟩
  rcases e2 with e2 | e2
  · exact (pg_tup hc h hn hst).run pins s σ H v u Q I r ⟨a, xs, e1, e2, e3, e4⟩
  · exact (pg_unl hc h hn hst).run pins s σ H v u Q I r ⟨a, xs, e1, e2, e3, e4⟩
theorem pg_tg (hc : X.calm = true) (nd : X.N.Nodup) (hv : VisOk X vis) {tg : Tg} {e : Expr} (h : tgX vis X.N tg e = true) : PG X e (gTg X.K tg) := by
  unfold tgX at h
  split at h
  · obtain ⟨h1, h2⟩ := Bool.and_eq_true_iff.mp h
    exact pg_name nd (of_decide_eq_true h1) (hv _ h2).1 (hv _ h2).2
  · obtain ⟨p1, p2, p3⟩ := pgs_vis nd hv h
    exact pg_tl hc p1 p2 p3
  · obtain ⟨h0, h⟩ := Bool.and_eq_true_iff.mp h
    obtain ⟨h1, h2⟩ := Bool.and_eq_true_iff.mp h0
    obtain ⟨p1, p2, p3⟩ := pgs_vis nd hv h
    exact pg_tup hc (pgs_cons (pg_name nd (of_decide_eq_true h1) (hv _ h2).1 (hv _ h2).2) (pgs_cons (pg_tl hc p1 p2 p3) pgs_nil rfl) rfl) rfl rfl
  · cases h
end
theorem bindT_flat (tg : Tg) (d : D) (env : IEnv) : bindT tg d env = (flatT tg d).map (puts env tg.slots) := rfl
theorem flatT_len {tg : Tg} {d : D} {ds : List D} (h : flatT tg d = some ds) : tg.slots.length = ds.length := by
  unfold flatT at h
  split at h
  · cases h; rfl
  · split at h <;> cases h
    assumption
  · split at h <;> cases h
    assumption
  · split at h <;> cases h
    rename_i e
    show _ + 1 = _ + 1
    rw [e]
  · cases h
/-- a target takes its item -/
theorem tg_read {c : Rc} {A : Addr → Prop} {H : Hp} {tg : Tg} {d : D} {v : V} {ds : List D} (h : flatT tg d = some ds) (r : Rp c A H d v) :
    ∃ vs, Rps c A H ds vs ∧ vs.length = tg.slots.length ∧ ∀ (σ : L2.St) (Q : L2.St → Hp → Prop), Q (setS σ tg.slots vs) H → gTg c.K tg v σ H Q := by
  unfold flatT at h
  split at h
  · cases h
    exact ⟨[v], .one r, rfl, fun σ Q q => q⟩
  · rename_i is l
    split at h <;> cases h
    rename_i hl
    obtain ⟨a, xs, e1, e2, e3⟩ := r
    exact ⟨xs, e3, by rw [e3.length]; exact hl.symm, fun σ Q q => ⟨a, xs, e1, .inl e2, by rw [e3.length, hl], gNames_ok (by rw [e3.length, hl]) q⟩⟩
  · rename_i is l
    split at h <;> cases h
    rename_i hl
    obtain ⟨a, xs, e1, e2, _, _, e3⟩ := r
    exact ⟨xs, e3, by rw [e3.length]; exact hl.symm, fun σ Q q => ⟨a, xs, e1, .inr (.inl (.inl e2)), by rw [e3.length, hl], gNames_ok (by rw [e3.length, hl]) q⟩⟩
  · rename_i i is d l
    split at h <;> cases h
    rename_i hl
    obtain ⟨a, xs, e1, e2, w1, ws, e3, e4, w2, ws2, e5, e6, e7⟩ := r
    have e7 : ws2 = [] := e7
    subst e7 e5 e3
    obtain ⟨b, ys, f1, f2, f3⟩ := e6
    exact ⟨w1 :: ys, .cons e4 f3, by show ys.length + 1 = is.length + 1; rw [f3.length, hl], fun σ Q q => ⟨a, _, e1, e2, rfl, w1, _, rfl, w2, _, rfl, b, ys, f1, .inl f2, by rw [f3.length, hl], gNames_ok (by rw [f3.length, hl]) ⟨rfl, q⟩⟩⟩
  · cases h
end Pv
end
section
set_option maxHeartbeats 1000000
namespace Pv
open PySem PySem.Spec PyProof.Rows L2
open RZ

/-! ### what is walked -/
/-- an item as it comes: from the heap as it was, or a new pair -/
def Yd (c : Rc) (A : Addr → Prop) (H1 : Hp) (d : D) (H : Hp) (x : V) (H' : Hp) : Prop :=
  (H' = H ∧ Rp c A H1 d x) ∨ ∃ T v1 v2 d1 d2, x = .ref T ∧ H T = none ∧ H' = upd H T (.tup [v1, v2]) ∧ d = .tup [d1, d2] ∧ Rp c A H1 d1 v1 ∧ Rp c A H1 d2 v2
theorem Yd.use {c : Rc} {A A' : Addr → Prop} {W : Addr → Prop} {H1 H H' : Hp} {d : D} {x : V} (y : Yd c A H1 d H x H') (e : Ext W H1 H) (w : ∀ a, W a → A a) (n : ∀ a, A' a → A a ∨ H1 a = none) : Rp c A' H' d x ∧ (∀ a o, H a = some o → H' a = some o) := by
  rcases y with ⟨rfl, r⟩ | ⟨T, v1, v2, d1, d2, rfl, hT, rfl, rfl, r1, r2⟩
  · exact ⟨Rp.mono e w n _ _ r, fun _ _ z => z⟩
  · have e2 : Ext W H1 (upd H T (.tup [v1, v2])) := e.trans (Ext.new hT)
    refine ⟨⟨T, _, rfl, .inl (.inl upd_same), .cons (Rp.mono e2 w n _ _ r1) (.one (Rp.mono e2 w n _ _ r2))⟩, fun a o z => ?_⟩
    rw [upd_ne (ne_of_none z hT)]
    exact z
/-- a walk over the data l -/
structure IW (c : Rc) (A Wt : Addr → Prop) (H1 : Hp) (l : List D) (J : It) : Prop where
  ex : ∃ G Y, Walk J l.length G Y ∧ (∀ H', Ext Wt H1 H' → G H') ∧ ∀ i H x H', i < l.length → Y i H x H' → ∃ d, l[i]? = some d ∧ Yd c A H1 d H x H'
section
variable {R : RS} {cls : Str → Addr} {Γ : Gm R.S} {X : Cx}
def PostI (R : RS) (c : Rc) (A Wt : Addr → Prop) (H : Hp) (r : Res R.S (List D)) (Rk : It → Hp → Prop) : Prop := match r with
  | .ok l s => ∀ J H1, Ext (Gv c) H H1 → R.ok c.g s H1 → l.length ≤ sizeLine → IW c A Wt H1 l J → Rk J H1
  | _ => False
def wtA (b : Bool) (c : Rc) (A : Addr → Prop) (a : Addr) : Prop := if b = true then A a else Gv c a
/-- b: whether the body may write what is held apart -/
def SI (R : RS) (cls : Str → Addr) (Γ : Gm R.S) (X : Cx) (b : Bool) (tg it : Expr) (src : IE) : Prop :=
  ∃ wi, PI X tg it wi ∧ ∀ σ H Rk g A0 env s, (b = true → lts env src = true) → EnvOk (rc cls X g) A0 H σ env → R.ok g s H → PostI R (rc cls X g) (Av A0 env σ) (wtA b (rc cls X g) (Wr (rc cls X g) env σ)) H ((ev Γ src env >>= fun d => opt (seqOf d)) s) Rk → wi σ H Rk
theorem postI_bad {c : Rc} {A Wt : Addr → Prop} {H : Hp} {Rk : It → Hp → Prop} : ¬ PostI R c A Wt H .bad Rk := id
theorem postI_er {c : Rc} {A Wt : Addr → Prop} {H : Hp} {Rk : It → Hp → Prop} : ∀ x d s, ¬ PostI R c A Wt H (.er x d s) Rk := fun _ _ _ => id
theorem wr_in {c : Rc} {A0 : Addr → Prop} {H : Hp} {σ : L2.St} {env : IEnv} {a : Addr} (k : EnvOk c A0 H σ env) (w : Wr c env σ a) : Av A0 env σ a := by
  rcases w with w | ⟨j, e, w1, w2⟩
  · exact k.gA a w
  · exact .inr ⟨j, e, _, w1, .inr rfl, w2⟩
/-- a list or a tuple where it may be read, its items, and what stays of it -/
theorem seq_stay {b : Bool} {m : Md} {c : Rc} {A W : Addr → Prop} {H0 H : Hp} {d : D} {v : V} {l : List D} (hw : ∀ a, W a → A a) (hb : b = true → m ≠ .bor) (hg : ∀ a, Gv c a → A a) (ht : ∀ a, A a → H0 a ≠ none) (r : Rm m c A H0 H d v) (h : seqOf d = some l) :
    l.length ≤ sizeLine ∧ ∃ a xs, v = .ref a ∧ Rps c A H l xs ∧ ((∀ H', Ext (wtA b c W) H H' → SqL c.K H' a xs) ∨ (∀ H', Ext (wtA b c W) H H' → SqT c.K H' a xs)) ∧ (SqL c.K H a xs ∨ SqT c.K H a xs) := by
  have lb := r.lb hg ht
  cases d with
  | lst l' =>
    cases h
    cases b with
    | true =>
      obtain ⟨a, xs, e1, e2, e3, e4, e5⟩ := r.rp (hb rfl) ht
      exact ⟨e4, a, xs, e1, e5, .inl fun H' x => .inl (.inl (x a _ e2 (.inl fun z => e3 (hw a z)))), .inl (.inl (.inl e2))⟩
    | false =>
      obtain ⟨a, xs, e1, e2, e3, e4, e5⟩ := lb.lst hg
      exact ⟨e3, a, xs, e1, e4, .inl fun H' x => .inl (.inl (x a _ e2 (.inl e5))), .inl (.inl (.inl e2))⟩
  | tup l' =>
    have h : (if l'.length ≤ sizeLine then some l' else none) = some l := h
    split at h
    · cases h
      obtain ⟨a, xs, e1, e2, e4⟩ := lb.tup
      exact ⟨by assumption, a, xs, e1, e4, .inr fun H' x => x.sqt e2, .inr e2⟩
    · cases h
  | _ => cases h
theorem lst_stay {b : Bool} {m : Md} {c : Rc} {A W : Addr → Prop} {H0 H : Hp} {v : V} {l : List D} (hw : ∀ a, W a → A a) (hb : b = true → m ≠ .bor) (hg : ∀ a, Gv c a → A a) (ht : ∀ a, A a → H0 a ≠ none) (r : Rm m c A H0 H (.lst l) v) :
    ∃ a xs, v = .ref a ∧ Rps c A H l xs ∧ ∀ H', Ext (wtA b c W) H H' → SqL c.K H' a xs := by
  cases b with
  | true =>
    obtain ⟨a, xs, e1, e2, e3, e4, e5⟩ := r.rp (hb rfl) ht
    exact ⟨a, xs, e1, e5, fun H' x => .inl (.inl (x a _ e2 (.inl fun z => e3 (hw a z))))⟩
  | false =>
    obtain ⟨a, xs, e1, e2, e3, e4, e5⟩ := (r.lb hg ht).lst hg
    exact ⟨a, xs, e1, e4, fun H' x => .inl (.inl (x a _ e2 (.inl e5)))⟩
theorem tup_stay {b : Bool} {c : Rc} {A W : Addr → Prop} {H : Hp} {v : V} {l : List D} (r : Lb c A H (.tup l) v) : ∃ a xs, v = .ref a ∧ Rps c A H l xs ∧ ∀ H', Ext (wtA b c W) H H' → SqT c.K H' a xs := by
  obtain ⟨a, xs, e1, e2, e4⟩ := r.tup
  exact ⟨a, xs, e1, e4, fun H' x => x.sqt e2⟩
theorem si_seq {b : Bool} {tg it : Expr} {src : IE} (h : SE R cls Γ X it src) (hb : b = true → md src ≠ .bor) : SI R cls Γ X b tg it src := by
  obtain ⟨t, p, q⟩ := h
  refine ⟨_, pi_seq p, fun σ H Rk g A0 env s _ k o h => ?_⟩
  refine SE.bind (P := fun r => PostI R (rc cls X g) (Av A0 env σ) (wtA b (rc cls X g) (Wr (rc cls X g) env σ)) H r Rk) q k o postI_bad postI_er h fun d s1 v H1 x1 o1 r1 k1 h => ?_
  cases hl : seqOf d with
  | none => rw [hl] at h; exact h.elim
  | some l =>
    rw [hl] at h
    obtain ⟨hlen, a, xs, e1, e2, e3, e4⟩ := seq_stay (W := Wr (rc cls X g) env σ) (fun a z => wr_in k z) hb k.gA k.trA r1 hl
    have hxl : xs.length = l.length := e2.length
    have ite : ∀ i H x H', i < l.length → YAt xs i H x H' → ∃ d, l[i]? = some d ∧ Yd (rc cls X g) (Av A0 env σ) H1 d H x H' := fun i H x H' hi y => by
      obtain ⟨d, hd, rd⟩ := e2.get y.2
      exact ⟨d, hd, .inl ⟨y.1, rd⟩⟩
    refine ⟨a, e1, ?_⟩
    rcases e3 with e3 | e3
    · exact .inl ⟨⟨xs, e3 H1 Ext.refl⟩, h _ H1 x1 o1 hlen ⟨_, _, by rw [← hxl]; exact walk_list, e3, ite⟩⟩
    · exact .inr ⟨⟨xs, e3 H1 Ext.refl⟩, h _ H1 x1 o1 hlen ⟨_, _, by rw [← hxl]; exact walk_tup, e3, ite⟩⟩
/-- a slot that is none of the def's own: what it holds stays while the body writes -/
theorem slot_stay {c : Rc} {A0 : Addr → Prop} {H : Hp} {σ : L2.St} {env : IEnv} {j : Nat} {d : D} {f : Fl} {l : List D} (k : EnvOk c A0 H σ env) (hl0 : ltI env j = true) (q : getI env j = some (d, f)) (h : seqOf d = some l) :
    ∃ v a xs, σ[j]? = some (some v) ∧ v = .ref a ∧ l.length ≤ sizeLine ∧ Rps c (Av A0 env σ) H l xs ∧ ((∀ H', Ext (wtA true c (Wr c env σ)) H H' → SqL c.K H' a xs) ∨ (∀ H', Ext (wtA true c (Wr c env σ)) H H' → SqT c.K H' a xs)) := by
  have z := getI_eq q
  have byRp : ∀ {v : V}, σ[j]? = some (some v) → Rp c (Av A0 env σ) H d v → ∃ v a xs, σ[j]? = some (some v) ∧ v = .ref a ∧ l.length ≤ sizeLine ∧ Rps c (Av A0 env σ) H l xs ∧ ((∀ H', Ext (wtA true c (Wr c env σ)) H H' → SqL c.K H' a xs) ∨ (∀ H', Ext (wtA true c (Wr c env σ)) H H' → SqT c.K H' a xs)) := fun {v} e0 r => by
    obtain ⟨hlen, a, xs, e1, e2, e3, _⟩ := seq_stay (b := true) (m := .rp) (W := Wr c env σ) (H0 := H) (fun a z => wr_in k z) (fun _ => by decide) k.gA k.trA (show Rm .rp c (Av A0 env σ) H H d v from r) h
    exact ⟨v, a, xs, e0, e1, hlen, e2, e3⟩
  unfold ltI at hl0
  rw [q] at hl0
  cases f with
  | frz =>
    obtain ⟨v, e0, r⟩ := k.frz j d z
    exact byRp e0 r
  | lent =>
    obtain ⟨v, e0, r⟩ := k.lent j d z
    rcases r with r | ⟨a, e1, n1, n2, cc⟩
    · exact byRp e0 r
    · subst e1
      cases d with
      | lst l' =>
        cases h
        obtain ⟨xs, e2, e3, e4⟩ := cc
        refine ⟨_, a, xs, e0, rfl, e3, e4, .inl fun H' x => .inl (.inl (x a _ e2 (.inl fun w => ?_)))⟩
        have w : Wr c env σ a := by
          unfold wtA at w
          rw [if_pos rfl] at w
          exact w
        rcases w with w | ⟨j', e, z1, z2⟩
        · exact n1 w
        · exact n2 ⟨j', e, _, z1, .inr rfl, z2⟩
      | dct l' => cases h
      | ins _ l' => cases h
      | _ => exact cc.elim
  | held => cases hl0
  | own => cases hl0
theorem wt_false {c : Rc} {W : Addr → Prop} {H H' : Hp} (hw : ∀ a, Gv c a → W a) (b : Bool) (x : Ext (wtA b c W) H H') : Ext (wtA true c W) H H' := x.more fun a z => by
  unfold wtA at z ⊢
  rw [if_pos rfl]
  split at z
  · exact z
  · exact hw a z
theorem enumL_get : ∀ (l : List D) (n i : Nat), (enumL n l)[i]? = l[i]?.map fun d => D.tup [.int ((n + i : Nat) : Int), d]
  | [], n, i => by simp [enumL]
  | d :: ds, n, 0 => by simp [enumL]
  | d :: ds, n, i + 1 => by
    unfold enumL
    rw [List.getElem?_cons_succ, List.getElem?_cons_succ, enumL_get ds (n + 1) i]
    have e : n + 1 + i = n + (i + 1) := by omega
    rw [e]
theorem enumL_len : ∀ (l : List D) (n : Nat), (enumL n l).length = l.length
  | [], _ => rfl
  | d :: ds, n => by
    unfold enumL
    rw [List.length_cons, List.length_cons, enumL_len]
theorem seqOf_enum {l : List D} {m : List D} (h : seqOf (.tup (enumL 0 l)) = some m) : m = enumL 0 l ∧ l.length ≤ sizeLine := by
  have h : (if (enumL 0 l).length ≤ sizeLine then some (enumL 0 l) else none) = some m := h
  rw [enumL_len] at h
  split at h <;> cases h
  exact ⟨rfl, by assumption⟩
/-- enumerate -/
theorem si_enm {b : Bool} {elts : List Expr} {kk : Nat} {tpos p pos : Pos} {it : Expr} {src : IE} (hg : Gl X "enumerate") (hm : X.mg "enumerate" = none) (ns : noStar it = true) (h : SE R cls Γ X it src) (hb : b = true → md src ≠ .bor) :
    SI R cls Γ X b (.Tuple elts kk tpos) (.Call (.Name "enumerate" p) [it] [] pos) (.enm src) := by
  obtain ⟨t, pe, q⟩ := h
  refine ⟨_, pi_enumA hg hm (pa_cons pe pa_nil (star_cons ns)) (star_cons ns), fun σ H Rk g A0 env s _ k o h => ?_⟩
  have h : PostI R (rc cls X g) (Av A0 env σ) (wtA b (rc cls X g) (Wr (rc cls X g) env σ)) H ((ev Γ src env >>= fun x => opt (seqOf x) >>= fun l => opt (seqOf (.tup (enumL 0 l)))) s) Rk := by
    conv at h => arg 6; unfold ev
    simpa using h
  refine SE.bind (P := fun r => PostI R (rc cls X g) (Av A0 env σ) (wtA b (rc cls X g) (Wr (rc cls X g) env σ)) H r Rk) q k o postI_bad postI_er h fun d s1 v H1 x1 o1 r1 k1 h => ?_
  cases hl : seqOf d with
  | none => rw [hl] at h; exact h.elim
  | some l =>
    rw [hl] at h
    have h : PostI R (rc cls X g) (Av A0 env σ) (wtA b (rc cls X g) (Wr (rc cls X g) env σ)) H ((opt (seqOf (.tup (enumL 0 l))) : M R.S (List D)) s1) Rk := h
    cases hm' : seqOf (.tup (enumL 0 l)) with
    | none => rw [hm'] at h; exact h.elim
    | some m =>
      rw [hm'] at h
      obtain ⟨rfl, _⟩ := seqOf_enum hm'
      obtain ⟨hlen, a, xs, e1, e2, e3, e4⟩ := seq_stay (W := Wr (rc cls X g) env σ) (fun a z => wr_in k z) hb k.gA k.trA r1 hl
      have hxl : xs.length = l.length := e2.length
      have ite : ∀ i H x H', i < (enumL 0 l).length → YPair (fun i => some (.int (i : Nat))) (fun i => xs[i]?) i H x H' → ∃ d, (enumL 0 l)[i]? = some d ∧ Yd (rc cls X g) (Av A0 env σ) H1 d H x H' := fun i H x H' hi y => by
        obtain ⟨T, v1, v2, rfl, hT, rfl, z1, z2⟩ := y
        obtain ⟨d, hd, rd⟩ := e2.get z2
        cases z1
        exact ⟨_, by rw [enumL_get, hd]; rfl, .inr ⟨T, _, _, _, _, rfl, hT, rfl, rfl, by rw [Nat.zero_add]; exact rfl, rd⟩⟩
      show ∃ a, [v] = [V.ref a] ∧ _
      refine ⟨a, by rw [e1], ?_⟩
      rcases e3 with e3 | e3
      · exact .inl ⟨⟨xs, e3 H1 Ext.refl⟩, h _ H1 x1 o1 (by rw [enumL_len]; exact hlen) ⟨_, _, by rw [enumL_len, ← hxl]; exact walk_enum, e3, ite⟩⟩
      · exact .inr ⟨⟨xs, e3 H1 Ext.refl⟩, h _ H1 x1 o1 (by rw [enumL_len]; exact hlen) ⟨_, _, by rw [enumL_len, ← hxl]; exact walk_enumT, e3, ite⟩⟩
theorem si_bor {y : Str} {j : Nat} {p : Pos} {tg : Expr} (hN : X.N[j]? = some y) (hv : Vis X.env.scope y) (hd : (y == ("__debug__" : Str)) = false) (hcd : (y == ("__classdict__" : Str)) = false) : SI R cls Γ X true tg (.Name y p) (.bor j) := by
  refine ⟨_, pi_seq (pe_var hN hv hd hcd), fun σ H Rk g A0 env s hl k o h => ?_⟩
  have hl0 : ltI env j = true := hl rfl
  have h : PostI R (rc cls X g) (Av A0 env σ) (wtA true (rc cls X g) (Wr (rc cls X g) env σ)) H ((ev Γ (.bor j) env >>= fun x => opt (seqOf x)) s) Rk := h
  unfold ev at h
  cases q : getI env j with
  | none => rw [q] at h; exact h.elim
  | some pp =>
    obtain ⟨d, f⟩ := pp
    rw [q] at h
    have h : PostI R (rc cls X g) (Av A0 env σ) (wtA true (rc cls X g) (Wr (rc cls X g) env σ)) H ((opt (seqOf d) : M R.S (List D)) s) Rk := h
    cases hs : seqOf d with
    | none => rw [hs] at h; exact h.elim
    | some l =>
      rw [hs] at h
      obtain ⟨v, a, xs, e0, e1, hlen, e2, e3⟩ := slot_stay k hl0 q hs
      have hxl : xs.length = l.length := e2.length
      have ite : ∀ i H' x H'', i < l.length → YAt xs i H' x H'' → ∃ d, l[i]? = some d ∧ Yd (rc cls X g) (Av A0 env σ) H d H' x H'' := fun i H' x H'' hi y => by
        obtain ⟨d, hd, rd⟩ := e2.get y.2
        exact ⟨d, hd, .inl ⟨y.1, rd⟩⟩
      refine ⟨v, e0, a, e1, ?_⟩
      rcases e3 with e3 | e3
      · exact .inl ⟨⟨xs, e3 H Ext.refl⟩, h _ H Ext.refl o hlen ⟨_, _, by rw [← hxl]; exact walk_list, e3, ite⟩⟩
      · exact .inr ⟨⟨xs, e3 H Ext.refl⟩, h _ H Ext.refl o hlen ⟨_, _, by rw [← hxl]; exact walk_tup, e3, ite⟩⟩
theorem si_enmB {y : Str} {j : Nat} {elts : List Expr} {kk : Nat} {tpos p pos p2 : Pos} (hg : Gl X "enumerate") (hm : X.mg "enumerate" = none) (hN : X.N[j]? = some y) (hv : Vis X.env.scope y) (hd : (y == ("__debug__" : Str)) = false) (hcd : (y == ("__classdict__" : Str)) = false) :
    SI R cls Γ X true (.Tuple elts kk tpos) (.Call (.Name "enumerate" p) [.Name y p2] [] pos) (.enm (.bor j)) := by
  refine ⟨_, pi_enumA hg hm (pa_cons (pe_var hN hv hd hcd) pa_nil) rfl, fun σ H Rk g A0 env s hl k o h => ?_⟩
  have hl0 : ltI env j = true := hl rfl
  have h : PostI R (rc cls X g) (Av A0 env σ) (wtA true (rc cls X g) (Wr (rc cls X g) env σ)) H ((ev Γ (.bor j) env >>= fun x => opt (seqOf x) >>= fun l => opt (seqOf (.tup (enumL 0 l)))) s) Rk := by
    conv at h => arg 6; unfold ev
    simpa using h
  unfold ev at h
  cases q : getI env j with
  | none => rw [q] at h; exact h.elim
  | some pp =>
    obtain ⟨d, f⟩ := pp
    rw [q] at h
    have h : PostI R (rc cls X g) (Av A0 env σ) (wtA true (rc cls X g) (Wr (rc cls X g) env σ)) H ((opt (seqOf d) >>= fun l => opt (seqOf (.tup (enumL 0 l))) : M R.S (List D)) s) Rk := h
    cases hs : seqOf d with
    | none => rw [hs] at h; exact h.elim
    | some l =>
      rw [hs] at h
      have h : PostI R (rc cls X g) (Av A0 env σ) (wtA true (rc cls X g) (Wr (rc cls X g) env σ)) H ((opt (seqOf (.tup (enumL 0 l))) : M R.S (List D)) s) Rk := h
      cases hm' : seqOf (.tup (enumL 0 l)) with
      | none => rw [hm'] at h; exact h.elim
      | some m =>
        rw [hm'] at h
        obtain ⟨rfl, _⟩ := seqOf_enum hm'
        obtain ⟨v, a, xs, e0, e1, hlen, e2, e3⟩ := slot_stay k hl0 q hs
        have hxl : xs.length = l.length := e2.length
        have ite : ∀ i H' x H'', i < (enumL 0 l).length → YPair (fun i => some (.int (i : Nat))) (fun i => xs[i]?) i H' x H'' → ∃ d, (enumL 0 l)[i]? = some d ∧ Yd (rc cls X g) (Av A0 env σ) H d H' x H'' := fun i H' x H'' hi y => by
          obtain ⟨T, v1, v2, rfl, hT, rfl, z1, z2⟩ := y
          obtain ⟨d, hd, rd⟩ := e2.get z2
          cases z1
          exact ⟨_, by rw [enumL_get, hd]; rfl, .inr ⟨T, _, _, _, _, rfl, hT, rfl, rfl, by rw [Nat.zero_add]; exact rfl, rd⟩⟩
        refine ⟨v, e0, ?_⟩
        show ∃ a, [v] = [V.ref a] ∧ _
        refine ⟨a, by rw [e1], ?_⟩
        rcases e3 with e3 | e3
        · exact .inl ⟨⟨xs, e3 H Ext.refl⟩, h _ H Ext.refl o (by rw [enumL_len]; exact hlen) ⟨_, _, by rw [enumL_len, ← hxl]; exact walk_enum, e3, ite⟩⟩
        · exact .inr ⟨⟨xs, e3 H Ext.refl⟩, h _ H Ext.refl o (by rw [enumL_len]; exact hlen) ⟨_, _, by rw [enumL_len, ← hxl]; exact walk_enumT, e3, ite⟩⟩
/-- a text, sign by sign -/
theorem si_chs {b : Bool} {tg it : Expr} {src : IE} (h : SE R cls Γ X it src) : SI R cls Γ X b tg it (.chs src) := by
  obtain ⟨t, p, q⟩ := h
  refine ⟨_, pi_str p, fun σ H Rk g A0 env s _ k o h => ?_⟩
  have h : PostI R (rc cls X g) (Av A0 env σ) (wtA b (rc cls X g) (Wr (rc cls X g) env σ)) H ((ev Γ src env >>= fun x => chsM x >>= fun d => opt (seqOf d)) s) Rk := by
    conv at h => arg 6; unfold ev
    simpa using h
  refine SE.bind (P := fun r => PostI R (rc cls X g) (Av A0 env σ) (wtA b (rc cls X g) (Wr (rc cls X g) env σ)) H r Rk) q k o postI_bad postI_er h fun d s1 v H1 x1 o1 r1 k1 h => ?_
  cases d with
  | str z =>
    have hv : v = .str z := Lb.flat (r1.lb k.gA k.trA) rfl
    have h : PostI R (rc cls X g) (Av A0 env σ) (wtA b (rc cls X g) (Wr (rc cls X g) env σ)) H ((opt (seqOf (.tup (charsD z))) : M R.S (List D)) s1) Rk := h
    cases hs : seqOf (.tup (charsD z)) with
    | none => rw [hs] at h; exact h.elim
    | some l =>
      rw [hs] at h
      have hs : (if (charsD z).length ≤ sizeLine then some (charsD z) else none) = some l := hs
      split at hs
      · rename_i hlen
        cases hs
        have hsz : z.cps.size = (charsD z).length := by unfold charsD; simp
        refine ⟨z, hv, h _ H1 x1 o1 hlen ⟨_, _, by rw [← hsz]; exact walk_str, fun _ _ => trivial, fun i H x H' hi y => ?_⟩⟩
        obtain ⟨y1, c, y2, y3⟩ := y
        refine ⟨.str ⟨#[c]⟩, ?_, .inl ⟨y1, y3⟩⟩
        unfold charsD
        rw [List.getElem?_map, Array.getElem?_toList, y2]
        rfl
      · cases hs
  | _ => exact h.elim
theorem zipL_get (l m : List D) (i : Nat) : (zipL l m)[i]? = (l[i]?).bind fun a => (m[i]?).map fun b => D.tup [a, b] := by
  unfold zipL
  rw [List.getElem?_zipWith]
  cases l[i]? <;> cases m[i]? <;> rfl
theorem zipL_len (l m : List D) : (zipL l m).length = min l.length m.length := List.length_zipWith ..
theorem PostI.from {c : Rc} {A Wt : Addr → Prop} {H H1 : Hp} {r : Res R.S (List D)} {Rk : It → Hp → Prop} (h : PostI R c A Wt H r Rk) (x : Ext (Gv c) H H1) : PostI R c A Wt H1 r Rk := by
  cases r with
  | bad => exact h
  | er _ _ _ => exact h
  | ok l s => exact fun J H2 x2 o n w => h J H2 (x.trans x2) o n w
theorem seqOf_tup {l m : List D} (h : seqOf (.tup l) = some m) : m = l ∧ l.length ≤ sizeLine := by
  have h : (if l.length ≤ sizeLine then some l else none) = some m := h
  split at h <;> cases h
  exact ⟨rfl, by assumption⟩
theorem si_zip {b : Bool} {elts : List Expr} {kk : Nat} {tpos p pos : Pos} {e1 e2 : Expr} {s1 s2 : IE} (hg : Gl X "zip") (hm : X.mg "zip" = none) (n1 : noStar e1 = true) (n2 : noStar e2 = true) (h1 : SE R cls Γ X e1 s1) (h2 : SE R cls Γ X e2 s2) (hb1 : b = true → md s1 ≠ .bor) (hb2 : b = true → md s2 ≠ .bor) :
    SI R cls Γ X b (.Tuple elts kk tpos) (.Call (.Name "zip" p) [e1, e2] [] pos) (.zip s1 s2) := by
  obtain ⟨t1, p1, q1⟩ := h1
  obtain ⟨t2, p2, q2⟩ := h2
  refine ⟨_, pi_zipA hg hm (pa_cons p1 (pa_cons p2 pa_nil (star_cons n2)) (star_cons n1)) (star_cons n1) (by rw [star_cons n2]; rfl), fun σ H Rk g A0 env s _ k o h => ?_⟩
  have h : PostI R (rc cls X g) (Av A0 env σ) (wtA b (rc cls X g) (Wr (rc cls X g) env σ)) H ((ev Γ s1 env >>= fun x => ev Γ s2 env >>= fun y => opt ((opZip x y).map .tup) >>= fun d => opt (seqOf d)) s) Rk := by
    conv at h => arg 6; unfold ev
    simpa using h
  refine SE.bind (P := fun r => PostI R (rc cls X g) (Av A0 env σ) (wtA b (rc cls X g) (Wr (rc cls X g) env σ)) H r Rk) q1 k o postI_bad postI_er h fun x s1' v H1 x1 o1 r1 k1 h => ?_
  refine SE.bind (P := fun r => PostI R (rc cls X g) (Av A0 env σ) (wtA b (rc cls X g) (Wr (rc cls X g) env σ)) H r Rk) q2 k1 o1 postI_bad postI_er h fun y s2' w H2 x2 o2 r2 k2 h => ?_
  cases hz : opZip x y with
  | none => rw [hz] at h; exact h.elim
  | some z =>
    rw [hz] at h
    have hh : PostI R (rc cls X g) (Av A0 env σ) (wtA b (rc cls X g) (Wr (rc cls X g) env σ)) H ((opt (seqOf (.tup z)) : M R.S (List D)) s2') Rk := h
    cases hm' : seqOf (.tup z) with
    | none => rw [hm'] at hh; exact hh.elim
    | some m =>
      rw [hm'] at hh
      clear h
      obtain ⟨rfl, hzl⟩ := seqOf_tup hm'
      have wg : ∀ a, Gv (rc cls X g) a → wtA b (rc cls X g) (Wr (rc cls X g) env σ) a := fun a z => by
        unfold wtA
        split
        · exact .inl z
        · exact z
      have ite : ∀ {l1 l2 : List D} {xs ys : List V}, Rps (rc cls X g) (Av A0 env σ) H2 l1 xs → Rps (rc cls X g) (Av A0 env σ) H2 l2 ys → ∀ i H x H', i < (zipL l1 l2).length → YPair (fun i => xs[i]?) (fun i => ys[i]?) i H x H' → ∃ d, (zipL l1 l2)[i]? = some d ∧ Yd (rc cls X g) (Av A0 env σ) H2 d H x H' := by
        intro l1 l2 xs ys f1 f2 i H x H' hi yy
        obtain ⟨T, v1, v2, rfl, hT, rfl, z1, z2⟩ := yy
        obtain ⟨d1, g1, rd1⟩ := f1.get z1
        obtain ⟨d2, g2, rd2⟩ := f2.get z2
        exact ⟨_, by rw [zipL_get, g1, g2]; rfl, .inr ⟨T, _, _, _, _, rfl, hT, rfl, rfl, rd1, rd2⟩⟩
      show ∃ a b xs ys, [v, w] = [V.ref a, V.ref b] ∧ _
      cases x with
      | lst l1 => cases y with
        | lst l2 =>
          cases hz
          obtain ⟨a1, xs, f1, f2, f3⟩ := lst_stay (W := Wr (rc cls X g) env σ) (fun a z => wr_in k z) hb1 k.gA k.trA r1
          obtain ⟨a2, ys, g1, g2, g3⟩ := lst_stay (W := Wr (rc cls X g) env σ) (fun a z => wr_in k z) hb2 k1.gA k1.trA r2
          have f2 := f2.ext x2 k.gA
          have f3 : ∀ H', Ext (wtA b (rc cls X g) (Wr (rc cls X g) env σ)) H2 H' → SqL X.K H' a1 xs := fun H' z => f3 H' ((x2.more wg).trans z)
          refine ⟨a1, a2, xs, ys, by rw [f1, g1], .inl ⟨f3 H2 Ext.refl, g3 H2 Ext.refl, hh _ H2 (x1.trans x2) o2 hzl ⟨_, _, walk_zip (by rw [zipL_len, f2.length, g2.length]), fun H' z => ⟨f3 H' z, g3 H' z⟩, ite f2 g2⟩⟩⟩
        | _ => cases hz
      | tup l1 => cases y with
        | tup l2 =>
          cases hz
          obtain ⟨a1, xs, f1, f2, f3⟩ := tup_stay (b := b) (W := Wr (rc cls X g) env σ) (r1.lb k.gA k.trA)
          obtain ⟨a2, ys, g1, g2, g3⟩ := tup_stay (b := b) (W := Wr (rc cls X g) env σ) (r2.lb k1.gA k1.trA)
          have f2 := f2.ext x2 k.gA
          have f3 : ∀ H', Ext (wtA b (rc cls X g) (Wr (rc cls X g) env σ)) H2 H' → SqT X.K H' a1 xs := fun H' z => f3 H' ((x2.more wg).trans z)
          refine ⟨a1, a2, xs, ys, by rw [f1, g1], .inr ⟨f3 H2 Ext.refl, g3 H2 Ext.refl, hh _ H2 (x1.trans x2) o2 hzl ⟨_, _, walk_zipT (by rw [zipL_len, f2.length, g2.length]), fun H' z => ⟨f3 H' z, g3 H' z⟩, ite f2 g2⟩⟩⟩
        | _ => cases hz
      | _ => cases hz
end
end Pv
end
section
set_option maxHeartbeats 1000000
namespace Pv
open PySem PySem.Spec PyProof.Rows L2

/-! ### comprehensions over anything that is walked -/
section
variable {R : RS} {cls : Str → Addr} {Γ : Gm R.S}
theorem onT_ok {tg : Tg} {d : D} {env : IEnv} {α : Type} {m : IEnv → M R.S α} {s s1 : R.S} {a : α} (h : onT tg d env m s = .ok a s1) : ∃ ds, flatT tg d = some ds ∧ m (puts env tg.slots ds) s = .ok a s1 := by
  unfold onT at h
  rw [bindT_flat] at h
  cases q : flatT tg d with
  | none => rw [q] at h; cases h
  | some ds => rw [q] at h; exact ⟨ds, rfl, h⟩
theorem onT_some {tg : Tg} {d : D} {env : IEnv} {α : Type} {m : IEnv → M R.S α} {ds : List D} (h : flatT tg d = some ds) : onT tg d env m = m (puts env tg.slots ds) := by
  unfold onT
  rw [bindT_flat, h]
  rfl
/-- one turn of a block: the item is stored -/
theorem blk_turn {c : Rc} {A0 : Addr → Prop} {env : IEnv} {σ : L2.St} {tg : Tg} {H1 H H' : Hp} {D0 : Addr} {d : D} {x : V} {ds : List D} (k1 : EnvOk c A0 H1 σ env) (hD : H1 D0 = none)
    (e : Ext (Gv c) H1 H) (hg : ∀ a, Gv c a → H a ≠ none) (hD' : H D0 ≠ none) (y : Yd c (Av A0 env σ) H1 d H x H') (hf : flatT tg d = some ds) :
    EnvOk c (Plus A0 D0) H' σ env ∧ (∀ a o, H a = some o → H' a = some o) ∧ ∃ vs, vs.length = tg.slots.length ∧ EnvOk c (Plus A0 D0) H' (setS σ tg.slots vs) (puts env tg.slots ds) ∧ ∀ Q : L2.St → Hp → Prop, Q (setS σ tg.slots vs) H' → gTg c.K tg x (wipe σ tg.slots) H' Q := by
  have n0 : ∀ a, Av (Plus A0 D0) env σ a → Av A0 env σ a ∨ H1 a = none := fun a h => by
    rcases h with (h | h) | h
    · exact .inl (.inl h)
    · rw [h]; exact .inr hD
    · exact .inl (.inr h)
  obtain ⟨rd, keep⟩ := y.use e k1.gA n0
  have eH : Ext (Gv c) H1 H' := fun a o z w => keep a o (e a o z w)
  have hne : ∀ a, H a ≠ none → H' a ≠ none := fun a z => by
    cases q : H a with
    | none => exact absurd q z
    | some o => rw [keep a o q]; simp
  have k2 : EnvOk c (Plus A0 D0) H' σ env := k1.plus hD eH (fun a ha => hne a (hg a ha)) (hne _ hD')
  obtain ⟨vs, rv, hv, hq⟩ := tg_read hf rd
  refine ⟨k2, keep, vs, hv, k2.puts rv (flatT_len hf), fun Q q => hq _ Q ?_⟩
  rw [setS_wipe hv]
  exact q
theorem ext_keep {W : Addr → Prop} {H1 H H' : Hp} (e : Ext W H1 H) (k : ∀ a o, H a = some o → H' a = some o) : Ext W H1 H' := fun a o z w => k a o (e a o z w)
theorem puts_length : ∀ (is : List Nat) (ds : List D) (env : IEnv), (puts env is ds).length = env.length
  | [], _, _ => rfl
  | _ :: _, [], _ => rfl
  | i :: is, d :: ds, env => by
    show (puts (put env i d .frz) is ds).length = _
    rw [puts_length]
    exact List.length_set ..
variable {X : Cx}
theorem sl_lcg {elt tgE iter : Expr} {ifs : List Expr} {scope : Scope} {pos : Pos} {own : List (Str × Nat)} {tg : Tg} {src ic body : IE} {tt : TT}
    (hc : X.calm = true) (hN : X.N.Nodup) (ok : BlkOk X.N X.env.scope scope own) (hown : own.map (·.2) = tg.slots) (hi : SI R cls Γ X false tgE iter src)
    (hg : ∀ (s : Shared) (H : Hp) (C : Addr) (cl : List (Str × Addr)) (fp : List Addr), PG (X.blk s H scope (compEnvC scope cl C X.env) fp) tgE (gTg X.K tg))
    (htt : ∀ (s : Shared) (H : Hp) (C : Addr) (cl : List (Str × Addr)) (fp : List Addr), PTs (X.blk s H scope (compEnvC scope cl C X.env) fp) ifs tt)
    (ht2 : ∀ (g : List Addr) (A0 : Addr → Prop) (σ : L2.St) (env : IEnv) (s : R.S) (H : Hp) (K : Bool → Hp → Prop), EnvOk (rc cls X g) A0 H σ env → R.ok g s H → PostT R (rc cls X g) H ((ev Γ ic env >>= truth) s) K → tt σ H K)
    (he : ∀ (s : Shared) (H : Hp) (C : Addr) (cl : List (Str × Addr)) (fp : List Addr), SE R cls Γ (X.blk s H scope (compEnvC scope cl C X.env) fp) elt body) (hb : md body ≠ .bor) (hs : ∀ x, foldedSetIterable iter X.env x = pure x) :
    SL R cls Γ X (.ListComp elt [⟨tgE, iter, ifs, 0⟩] scope pos) (.lcg tg src ic body) := by
  obtain ⟨wi, pe, q⟩ := hi
  refine ⟨_, pe_lc (own := own) (g := gTg X.K tg) (tt := tt) (te := rdE R cls Γ X.K body) hc hN pe ok hg htt (fun s H C cl fp => (he s H C cl fp).pe) hs, fun hy hyl hsw => ps_setLc (own := own) (g := gTg X.K tg) (tt := tt) (te := rdE R cls Γ X.K body) hc hN hy hyl hsw pe ok hg htt (fun s H C cl fp => (he s H C cl fp).pe) hs, fun σ H Q g A0 env s k o h => ?_⟩
  rw [hown]
  have h : PostE R .fr (rc cls X g) (Av A0 env σ) H (((ev Γ src env >>= fun d => opt (seqOf d)) >>= fun l => if okSlots env tg.slots = true then calm (filtL (fun d => onT tg d env fun e => ev Γ ic e >>= truth) (fun d => onT tg d env fun e => ev Γ body e) l) >>= fun r => (pure (.lst r) : M R.S D) else bad) s) Q := by
    replace h : PostE R .fr (rc cls X g) (Av A0 env σ) H (ev Γ (.lcg tg src ic body) env s) Q := h
    conv at h => arg 6; unfold ev
    simpa using h
  show wi σ H _
  refine q σ H _ g A0 env s (fun z => nomatch z) k o ?_
  rw [bind_def] at h
  cases hq : (ev Γ src env >>= fun d => opt (seqOf d)) s with
  | bad => rw [hq] at h; exact h
  | er _ _ _ => rw [hq] at h; exact h
  | ok l s1 =>
    rw [hq] at h
    dsimp only at h
    intro J H1 x1 o1 hlen w D0 hD
    by_cases hok : okSlots env tg.slots = true
    · rw [if_pos hok, bind_def] at h
      unfold calm at h
      cases hrun : filtL (fun d => onT tg d env fun e => ev Γ ic e >>= truth) (fun d => onT tg d env fun e => ev Γ body e) l s1 with
      | bad => rw [hrun] at h; exact h.elim
      | er _ _ _ => rw [hrun] at h; exact h.elim
      | ok r s2 =>
        rw [hrun] at h
        obtain ⟨G, Y, wk, hG, hY⟩ := w.ex
        have k1 := k.next x1 o1
        have nG : ¬ Gv (rc cls X g) D0 := fun z => k1.gTr _ z hD
        refine lc_it wk (fun n H' => ∃ rs ws s r', H' D0 = some (.lst ws) ∧ Rps (rc cls X g) (Av (Plus A0 D0) env σ) H' rs ws ∧ rs.length ≤ n ∧ Ext (Gv (rc cls X g)) H1 H' ∧ R.ok g s H' ∧ filtL (fun d => onT tg d env fun e => ev Γ ic e >>= truth) (fun d => onT tg d env fun e => ev Γ body e) (l.drop n) s = .ok r' s2 ∧ r = rs ++ r') ?_ ?_ ?_ ?_
        · exact ⟨[], [], s1, r, upd_same, rfl, Nat.le_refl _, Ext.new hD, RS.new o1 hD, by rw [List.drop_zero]; exact hrun, rfl⟩
        · rintro n H' _ ⟨_, _, _, _, _, _, _, x, _⟩
          exact hG H' x
        · rintro n x H H' hn ⟨rs, ws, s, r', e1, e2, e3, e4, e5, e6, e7⟩ y
          obtain ⟨d, hd, yd⟩ := hY n H x H' hn y
          have hl : l.drop n = d :: l.drop (n + 1) := by
            rw [List.drop_eq_getElem_cons (List.getElem?_eq_some_iff.mp hd).1, (List.getElem?_eq_some_iff.mp hd).2]
          rw [hl] at e6
          obtain ⟨b, s3, f1, f2⟩ := filtL_cons e6
          obtain ⟨ds, hf, f1⟩ := onT_ok f1
          have hgH : ∀ a, Gv (rc cls X g) a → H a ≠ none := fun a ha => by
            obtain ⟨u, h, _⟩ := R.there e5 a ha
            rw [h]; simp
          obtain ⟨k2, keep, vs, hv, k3, hset⟩ := blk_turn k1 hD e4 hgH (by rw [e1]; simp) yd hf
          have e4' := ext_keep e4 keep
          have e5' : R.ok g s H' := R.stay (fun a _ o e => keep a o e) e5
          have e1' := keep _ _ e1
          have e2' : Rps (rc cls X g) (Av (Plus A0 D0) env σ) H' rs ws := Rps.mono (W := fun _ => False) (fun a o z _ => keep a o z) (fun _ z => z.elim) (fun _ z => .inl z) _ _ e2
          refine hset _ ⟨wipe_setS, ht2 g _ _ _ s H' _ k3 e5' ?_⟩
          rw [f1]
          intro H3 x3 o3
          have D3 : H3 D0 = some (.lst ws) := x3 _ _ e1' (.inl nG)
          rcases f2 with ⟨rfl, y, s4, r2, g1, g2, g3⟩ | ⟨rfl, g2⟩
          · rw [if_pos rfl]
            have k4 : EnvOk (rc cls X g) (Plus A0 D0) H3 (setS σ tg.slots vs) (puts env tg.slots ds) := k3.ext x3 fun a ha => by
              obtain ⟨u, h, _⟩ := R.there o3 a ha
              rw [h]; simp
            refine ⟨g, Plus A0 D0, puts env tg.slots ds, s3, k4, o3, ?_⟩
            rw [onT_some hf] at g1
            rw [g1]
            intro w' H4 x4 o4 r4
            have r4 := r4.rp hb k4.trA
            have D4 : H4 D0 = some (.lst ws) := x4 _ _ D3 (.inl nG)
            have hws : ws.length < sizeLine := by rw [e2.length]; omega
            have aw : Ext (fun a => Gv (rc cls X g) a ∨ a = D0) H4 (upd H4 D0 (.lst (ws ++ [w']))) := Ext.put (.inr rfl) D4 id
            have ga : ∀ a, (Gv (rc cls X g) a ∨ a = D0) → Av (Plus A0 D0) env σ a := fun a h => h.elim (fun h => .inl (.inl (k1.g a h))) fun h => .inl (.inr h)
            have ga0 : ∀ a, Gv (rc cls X g) a → Av (Plus A0 D0) env σ a := fun a h => ga a (.inl h)
            have up : ∀ a, Av (Plus A0 D0) env σ a → Av (Plus A0 D0) (puts env tg.slots ds) (setS σ tg.slots vs) a := fun a h => h.imp id (held_puts hok)
            refine ⟨ws, D4, hws, rs ++ [y], ws ++ [w'], s4, r2, upd_same, ?_, by rw [List.length_append, List.length_singleton]; omega, ?_, ?_, g2, by rw [List.append_assoc]; exact e7.trans (by rw [g3]; rfl)⟩
            · refine ((e2'.ext x3 ga0).ext x4 ga0).ext aw ga |>.append (.one ?_)
              exact Rp.mono aw (fun a h => up a (ga a h)) (fun a h => .inl (up a h)) y w' r4
            · exact ((e4'.trans x3).trans x4).over hD
            · exact R.stay (fun a ha o e => by rw [upd_ne (fun z => nG (by rw [← z]; exact ha))]; exact e) o4
          · rw [if_neg Bool.false_ne_true]
            exact ⟨rs, ws, s3, r', D3, e2'.ext x3 (fun a h => .inl (.inl (k1.g a h))), by omega, e4'.trans x3, o3, g2, e7⟩
        · rintro H' ⟨rs, ws, s, r', e1, e2, e3, e4, e5, e6, e7⟩
          rw [List.drop_length] at e6
          obtain ⟨z1, z2⟩ := filtL_nil e6
          subst z1 z2
          rw [List.append_nil] at e7
          subst e7
          exact h (.ref D0) H' (x1.trans e4) e5 (.inr ⟨D0, rfl, x1.back k1.gTr hD, ws, e1, by omega, Rps.mono (Ext.refl (W := fun _ => False)) (fun _ z => z.elim) (fun a h => .inl (h.elim (fun h => h.elim (fun h => .inl (.inl h)) .inr) (fun h => .inl (.inr h)))) _ _ e2⟩)
    · rw [if_neg hok] at h
      exact h.elim
/-! ### dict comprehensions -/
theorem ps_setDc {i : Nat} {y : Str} {py : Pos} {kx vx tg iter : Expr} {ifs : List Expr} {scope : Scope} {own : List (Str × Nat)} {pos spos : Pos} {wi : TI} {g : TG} {tt : TT} {tk tv : TE} (hc : X.calm = true) (hN : X.N.Nodup) (hy : X.N[i]? = some y) (hyl : X.env.scope.names.lookup y = some .local)
    (hsw : swapsWith (.DictComp kx vx [⟨tg, iter, ifs, 0⟩] scope pos) (some (.Name y py)) spos.line X.env = pure true) (hi : PI X tg iter wi) (ok : BlkOk X.N X.env.scope scope own)
    (hg : ∀ (s : Shared) (H : Hp) (C : Addr) (cl : List (Str × Addr)) (fp : List Addr), PG (X.blk s H scope (compEnvC scope cl C X.env) fp) tg g) (ht : ∀ (s : Shared) (H : Hp) (C : Addr) (cl : List (Str × Addr)) (fp : List Addr), PTs (X.blk s H scope (compEnvC scope cl C X.env) fp) ifs tt)
    (hk : ∀ (s : Shared) (H : Hp) (C : Addr) (cl : List (Str × Addr)) (fp : List Addr), PE (X.blk s H scope (compEnvC scope cl C X.env) fp) kx tk)
    (he : ∀ (s : Shared) (H : Hp) (C : Addr) (cl : List (Str × Addr)) (fp : List Addr), PE (X.blk s H scope (compEnvC scope cl C X.env) fp) vx tv) (hs : ∀ x, foldedSetIterable iter X.env x = pure x) :
    PS X (.Assign [.Name y py] (.DictComp kx vx [⟨tg, iter, ifs, 0⟩] scope pos) spos) (tAsg (tDc wi g tt tk tv (own.map (·.2))) (gName i)) := by
  refine ⟨fun pins s σ H D I h => ?_⟩
  rw [exec_Assign_Name_used _ _ _ _ hsw]
  refine wpAny_bind (wpAny_standAt (wpAny_bind ?_))
  show wpAny _ X.A (do let _ ← comprehension (.DictComp kx vx [⟨tg, iter, ifs, 0⟩] scope pos) scope X.env (firstIterPos [⟨tg, iter, ifs, 0⟩] pos) newDict false (eval iter X.env) (some (assign (.Name y py) X.env))) _ _ s
  have h : tDc wi g tt tk tv (own.map (·.2)) σ H (fun x H1 => gName i x σ H1 D.nx) := h
  refine wpAny_bind (thn (dc_core (Qf := fun _ s' => SP X pins D .next s') hc hN I hi ok hg ht hk he hs h fun L C s' m H' I' q hn f => ?_) fun _ s' hq => wpAny_pure (wpAny_pure hq))
  show wpAny _ _ (assign (.Name y py) X.env (.ref L)) _ _ _
  refine wpAny_assign_Name (store_ok2 (v := V.ref L) I' hN hy (.inl hyl) rfl (fun s2 I2 ⟨a, sb, ha⟩ => ?_) (.inr hyl))
  obtain ⟨f0, f1, f2, f3, f4, f5⟩ := f
  have haC : C ≠ a := by
    rcases ha with z | z
    · rw [z]; exact f1
    · exact fun e => f4 y a z e.symm
  refine ⟨m, hn.sameBut sb haC, fun h3 sb3 => ?_⟩
  exact ⟨_, H', I2.turned (t' := s2.toks) (fun b o hb e => (sb3.2 b hb).trans e) f0 f1 f3 f4 f5, q⟩
theorem dc_it {J : It} {n : Nat} {G : Hp → Prop} {Y : Nat → Hp → V → Hp → Prop} (w : Walk J n G Y) {g : TG} {tt : TT} {tk tv : TE} {vs : List Nat} {σ : L2.St} {H1 : Hp} {D : Addr} {Qd : Hp → Prop} (Pv : Nat → Hp → Prop) (h0 : Pv 0 (upd H1 D (.dK []))) (hG : ∀ i H, i ≤ n → Pv i H → G H)
    (hs : ∀ i x H H', i < n → Pv i H → Y i H x H' → g x (wipe σ vs) H' fun σ2 H2 => wipe σ2 vs = wipe σ vs ∧ tt σ2 H2 fun b H3 =>
      if b = true then tk σ2 H3 fun y H4 => tv σ2 H4 fun z H5 => ∃ kvs k, y = kV k ∧ H5 D = some (.dK kvs) ∧ kvs.length < sizeLine ∧ Pv (i + 1) (upd H5 D (.dK (putK kvs k z))) else Pv (i + 1) H3) (hd : ∀ H, Pv n H → Qd H) :
    ∃ W : Nat → Nat → Hp → Prop, (∃ m, W 0 m (upd H1 D (.dK []))) ∧ ∀ i m H, W i m H →
      (J.stop i H ∧ Qd H) ∨ (J.go i H ∧ ∃ Nx : Hp → Prop, (∀ H', Nx H' → ∃ m', m' < m ∧ W (i + 1) m' H') ∧ ∀ x H', J.yld i H x H' → g x (wipe σ vs) H' fun σ2 H2 => wipe σ2 vs = wipe σ vs ∧ tt σ2 H2 fun b H3 =>
        if b = true then tk σ2 H3 fun y H4 => tv σ2 H4 fun z H5 => ∃ kvs k, y = kV k ∧ H5 D = some (.dK kvs) ∧ kvs.length < sizeLine ∧ Nx (upd H5 D (.dK (putK kvs k z))) else Nx H3) := by
  refine ⟨fun i m H => m = n - i ∧ i ≤ n ∧ Pv i H, ⟨n, by simp, Nat.zero_le _, h0⟩, ?_⟩
  rintro i m H ⟨rfl, hi, p⟩
  have q := hG i H hi p
  by_cases hlt : i < n
  · refine .inr ⟨w.goes i H hlt q, Pv (i + 1), fun H' p' => ⟨n - (i + 1), by omega, rfl, hlt, p'⟩, fun x H' y => hs i x H H' hlt p (w.yields i H x H' hlt q y)⟩
  · have e : i = n := by omega
    subst e
    exact .inl ⟨w.stops H q, hd H p⟩
theorem Rpk.length {c : Rc} {A : Addr → Prop} {H : Hp} : ∀ {kvs : List (Key × D)} {ks : List (Key × V)}, Rpk c A H kvs ks → ks.length = kvs.length
  | [], ks, h => by have h : ks = [] := h; rw [h]; rfl
  | (k, d) :: r, ks, h => by
    obtain ⟨v, ws, rfl, h1, h2⟩ := h
    rw [List.length_cons, List.length_cons, Rpk.length h2]
theorem Rpk.keys {c : Rc} {A : Addr → Prop} {H : Hp} : ∀ {kvs : List (Key × D)} {ks : List (Key × V)}, Rpk c A H kvs ks → ks.map (·.1) = kvs.map (·.1)
  | [], ks, h => by have h : ks = [] := h; rw [h]; rfl
  | (k, d) :: r, ks, h => by
    obtain ⟨v, ws, rfl, h1, h2⟩ := h
    rw [List.map_cons, List.map_cons, Rpk.keys h2]
theorem Rpk.append {c : Rc} {A : Addr → Prop} {H : Hp} : ∀ {a b : List (Key × D)} {as bs : List (Key × V)}, Rpk c A H a as → Rpk c A H b bs → Rpk c A H (a ++ b) (as ++ bs)
  | [], b, as, bs, h, k => by have h : as = [] := h; rw [h]; exact k
  | (q, d) :: r, b, as, bs, h, k => by
    obtain ⟨v, ws, rfl, h1, h2⟩ := h
    exact ⟨v, ws ++ bs, rfl, h1, Rpk.append h2 k⟩
theorem Rpk.put {c : Rc} {A : Addr → Prop} {H : Hp} {k : Key} {d : D} {v : V} {kvs : List (Key × D)} {ks : List (Key × V)} (h : Rpk c A H kvs ks) (r : Rp c A H d v) : Rpk c A H (putD kvs k d) (putK ks k v) := by
  have any : (ks.any fun kv => decide (kv.1 = k)) = (kvs.any fun kv => decide (kv.1 = k)) := by
    have e := Rpk.keys h
    have a1 : (ks.any fun kv => decide (kv.1 = k)) = (ks.map (·.1)).any fun q => decide (q = k) := by rw [List.any_map]; rfl
    have a2 : (kvs.any fun kv => decide (kv.1 = k)) = (kvs.map (·.1)).any fun q => decide (q = k) := by rw [List.any_map]; rfl
    rw [a1, a2, e]
  unfold putD putK
  rw [any]
  split
  · have aux : ∀ {kvs : List (Key × D)} {ks : List (Key × V)}, Rpk c A H kvs ks → Rpk c A H (kvs.map fun kv => if kv.1 = k then (kv.1, d) else kv) (ks.map fun kv => if kv.1 = k then (kv.1, v) else kv) := by
      intro kvs
      induction kvs with
      | nil => intro ks h; have h : ks = [] := h; rw [h]; exact rfl
      | cons p r ih =>
        intro ks h
        obtain ⟨q, e⟩ := p
        obtain ⟨w, ws, rfl, h1, h2⟩ := h
        rw [List.map_cons, List.map_cons]
        by_cases hq : q = k
        · rw [if_pos hq, if_pos hq]
          exact ⟨v, _, rfl, ‹_›, ih h2⟩
        · rw [if_neg hq, if_neg hq]
          exact ⟨w, _, rfl, h1, ih h2⟩
    exact aux h
  · exact h.append ⟨v, [], rfl, r, rfl⟩
theorem putD_len (kvs : List (Key × D)) (k : Key) (d : D) : (putD kvs k d).length ≤ kvs.length + 1 := by
  unfold putD
  split
  · rw [List.length_map]; omega
  · rw [List.length_append]; exact Nat.le_refl _
theorem dcL_cons {f : D → M R.S (D × D)} {d : D} {ds : List D} {acc : List (Key × D)} {s s2 : R.S} {r : List (Key × D)} (h : dcL f (d :: ds) acc s = .ok r s2) :
    ∃ p s1 k, f d s = .ok p s1 ∧ keyOf p.1 = some k ∧ dcL f ds (putD acc k p.2) s1 = .ok r s2 := by
  unfold dcL at h
  obtain ⟨p, s1, e1, h⟩ := bind_ok h
  obtain ⟨k, s3, e2, h⟩ := bind_ok h
  cases hk : keyOf p.1 with
  | none => rw [hk] at e2; cases e2
  | some q =>
    rw [hk] at e2
    obtain ⟨a, b⟩ := ok_inj (show (Res.ok q s1 : Res R.S Key) = .ok k s3 from e2)
    subst a b
    exact ⟨p, s1, q, e1, hk, h⟩
def SD (R : RS) (cls : Str → Addr) (Γ : Gm R.S) (X : Cx) (e : Expr) (ie : IE) : Prop :=
  ∃ t, PE X e t ∧ (∀ {y : Str} {py spos : Pos} {i : Nat}, X.N[i]? = some y → X.env.scope.names.lookup y = some .local → swapsWith e (some (.Name y py)) spos.line X.env = pure true → PS X (.Assign [.Name y py] e spos) (tAsg t (gName i))) ∧
    ∀ σ H Q g A0 env s, EnvOk (rc cls X g) A0 H σ env → R.ok g s H → PostE R (md ie) (rc cls X g) (Av A0 env σ) H (ev Γ ie env s) Q → t σ H Q
theorem sl_dc {kx vx tgE iter : Expr} {scope : Scope} {pos : Pos} {own : List (Str × Nat)} {tg : Tg} {src ik iv : IE}
    (hc : X.calm = true) (hN : X.N.Nodup) (ok : BlkOk X.N X.env.scope scope own) (hown : own.map (·.2) = tg.slots) (hi : SI R cls Γ X false tgE iter src)
    (hg : ∀ (s : Shared) (H : Hp) (C : Addr) (cl : List (Str × Addr)) (fp : List Addr), PG (X.blk s H scope (compEnvC scope cl C X.env) fp) tgE (gTg X.K tg))
    (hk : ∀ (s : Shared) (H : Hp) (C : Addr) (cl : List (Str × Addr)) (fp : List Addr), SE R cls Γ (X.blk s H scope (compEnvC scope cl C X.env) fp) kx ik)
    (he : ∀ (s : Shared) (H : Hp) (C : Addr) (cl : List (Str × Addr)) (fp : List Addr), SE R cls Γ (X.blk s H scope (compEnvC scope cl C X.env) fp) vx iv) (hb : md iv ≠ .bor) (hs : ∀ x, foldedSetIterable iter X.env x = pure x) :
    SL R cls Γ X (.DictComp kx vx [⟨tgE, iter, [], 0⟩] scope pos) (.dc tg src ik iv) := by
  obtain ⟨wi, pe, q⟩ := hi
  refine ⟨_, pe_dc (own := own) (g := gTg X.K tg) (tt := tYes) (tk := rdE R cls Γ X.K ik) (tv := rdE R cls Γ X.K iv) hc hN pe ok hg (fun _ _ _ _ _ => pts_nil) (fun s H C cl fp => (hk s H C cl fp).pe) (fun s H C cl fp => (he s H C cl fp).pe) hs,
    fun hy hyl hsw => ps_setDc (own := own) (g := gTg X.K tg) (tt := tYes) (tk := rdE R cls Γ X.K ik) (tv := rdE R cls Γ X.K iv) hc hN hy hyl hsw pe ok hg (fun _ _ _ _ _ => pts_nil) (fun s H C cl fp => (hk s H C cl fp).pe) (fun s H C cl fp => (he s H C cl fp).pe) hs, fun σ H Q g A0 env s k o h => ?_⟩
  rw [hown]
  have h : PostE R .fr (rc cls X g) (Av A0 env σ) H (((ev Γ src env >>= fun d => opt (seqOf d)) >>= fun l => if okSlots env tg.slots = true then calm (dcL (fun d => onT tg d env fun e => ev Γ ik e >>= fun a => ev Γ iv e >>= fun b => pure (a, b)) l []) >>= fun r => (pure (.dct r) : M R.S D) else bad) s) Q := by
    replace h : PostE R .fr (rc cls X g) (Av A0 env σ) H (ev Γ (.dc tg src ik iv) env s) Q := h
    conv at h => arg 6; unfold ev
    simpa using h
  show wi σ H _
  refine q σ H _ g A0 env s (fun z => nomatch z) k o ?_
  rw [bind_def] at h
  cases hq : (ev Γ src env >>= fun d => opt (seqOf d)) s with
  | bad => rw [hq] at h; exact h
  | er _ _ _ => rw [hq] at h; exact h
  | ok l s1 =>
    rw [hq] at h
    dsimp only at h
    intro J H1 x1 o1 hlen w D0 hD
    by_cases hok : okSlots env tg.slots = true
    · rw [if_pos hok, bind_def] at h
      unfold calm at h
      generalize hf0 : (fun d => onT tg d env fun e => ev Γ ik e >>= fun a => ev Γ iv e >>= fun b => (pure (a, b) : M R.S (D × D))) = f0 at h
      cases hrun : dcL f0 l [] s1 with
      | bad => rw [hrun] at h; exact h.elim
      | er _ _ _ => rw [hrun] at h; exact h.elim
      | ok r s2 =>
        rw [hrun] at h
        obtain ⟨G, Y, wk, hG, hY⟩ := w.ex
        have k1 := k.next x1 o1
        have nG : ¬ Gv (rc cls X g) D0 := fun z => k1.gTr _ z hD
        refine dc_it wk (fun n H' => ∃ acc ks s, H' D0 = some (.dK ks) ∧ Rpk (rc cls X g) (Av (Plus A0 D0) env σ) H' acc ks ∧ acc.length ≤ n ∧ Ext (Gv (rc cls X g)) H1 H' ∧ R.ok g s H' ∧ dcL f0 (l.drop n) acc s = .ok r s2) ?_ ?_ ?_ ?_
        · exact ⟨[], [], s1, upd_same, rfl, Nat.le_refl _, Ext.new hD, RS.new o1 hD, by rw [List.drop_zero]; exact hrun⟩
        · rintro n H' _ ⟨_, _, _, _, _, _, x, _⟩
          exact hG H' x
        · rintro n x H H' hn ⟨acc, ks, s, e1, e2, e3, e4, e5, e6⟩ y
          obtain ⟨d, hd, yd⟩ := hY n H x H' hn y
          have hl : l.drop n = d :: l.drop (n + 1) := by
            rw [List.drop_eq_getElem_cons (List.getElem?_eq_some_iff.mp hd).1, (List.getElem?_eq_some_iff.mp hd).2]
          rw [hl] at e6
          obtain ⟨p, s3, key, f1, f2, f3⟩ := dcL_cons e6
          rw [← hf0] at f1
          obtain ⟨ds, hf, f1⟩ := onT_ok f1
          obtain ⟨a1, s4, f4, f1⟩ := bind_ok f1
          obtain ⟨b1, s5, f5, f1⟩ := bind_ok f1
          obtain ⟨z1, z2⟩ := ok_inj (show (Res.ok (a1, b1) s5 : Res R.S (D × D)) = .ok p s3 from f1)
          subst z1 z2
          have hgH : ∀ a, Gv (rc cls X g) a → H a ≠ none := fun a ha => by
            obtain ⟨u, h, _⟩ := R.there e5 a ha
            rw [h]; simp
          obtain ⟨k2, keep, vs, hv, k3, hset⟩ := blk_turn k1 hD e4 hgH (by rw [e1]; simp) yd hf
          have e4' := ext_keep e4 keep
          have e5' : R.ok g s H' := R.stay (fun a _ o e => keep a o e) e5
          have e1' := keep _ _ e1
          have e2' : Rpk (rc cls X g) (Av (Plus A0 D0) env σ) H' acc ks := Rpk.mono (W := fun _ => False) (fun a o z _ => keep a o z) (fun _ z => z.elim) (fun _ z => .inl z) _ _ e2
          have ga0 : ∀ a, Gv (rc cls X g) a → Av (Plus A0 D0) env σ a := fun a h => .inl (.inl (k1.g a h))
          have nextE : ∀ {H4 : Hp} {s4 : R.S}, Ext (Gv (rc cls X g)) H' H4 → R.ok g s4 H4 → EnvOk (rc cls X g) (Plus A0 D0) H4 (setS σ tg.slots vs) (puts env tg.slots ds) := fun {H4 s4} x3 o3 => k3.ext x3 fun a ha => by
            obtain ⟨u, h, _⟩ := R.there o3 a ha
            rw [h]; simp
          refine hset _ ⟨wipe_setS, ?_⟩
          dsimp only [tYes]
          rw [if_pos rfl]
          refine ⟨g, Plus A0 D0, puts env tg.slots ds, s, k3, e5', ?_⟩
          rw [f4]
          intro kv H4 x4 o4 r4
          have hkv : kv = kV key := keyOf_rp f2 (Rm.flat r4 (keyOf_flat f2))
          refine ⟨g, Plus A0 D0, puts env tg.slots ds, s4, nextE x4 o4, o4, ?_⟩
          rw [f5]
          intro w' H5 x5 o5 r5
          have r5 := r5.rp hb (nextE x4 o4).trA
          have D5 : H5 D0 = some (.dK ks) := x5 _ _ (x4 _ _ e1' (.inl nG)) (.inl nG)
          have hks : ks.length < sizeLine := by rw [e2.length]; omega
          have aw : Ext (fun a => Gv (rc cls X g) a ∨ a = D0) H5 (upd H5 D0 (.dK (putK ks key w'))) := Ext.put (.inr rfl) D5 id
          have ga : ∀ a, (Gv (rc cls X g) a ∨ a = D0) → Av (Plus A0 D0) env σ a := fun a h => h.elim (ga0 a) fun h => .inl (.inr h)
          have up : ∀ a, Av (Plus A0 D0) env σ a → Av (Plus A0 D0) (puts env tg.slots ds) (setS σ tg.slots vs) a := fun a h => h.imp id (held_puts hok)
          have e2x : Rpk (rc cls X g) (Av (Plus A0 D0) env σ) (upd H5 D0 (.dK (putK ks key w'))) acc ks :=
            Rpk.mono ((((x4.trans x5).more fun _ h => Or.inl h).trans aw)) ga (fun _ z => .inl z) _ _ e2'
          have rx : Rp (rc cls X g) (Av (Plus A0 D0) env σ) (upd H5 D0 (.dK (putK ks key w'))) b1 w' := Rp.mono aw (fun a h => up a (ga a h)) (fun a h => .inl (up a h)) b1 w' r5
          refine ⟨ks, key, hkv, D5, hks, putD acc key b1, putK ks key w', s5, upd_same, e2x.put rx, Nat.le_trans (putD_len _ _ _) (by omega), ((e4'.trans x4).trans x5).over hD, ?_, f3⟩
          exact R.stay (fun a ha o e => by rw [upd_ne (fun z => nG (by rw [← z]; exact ha))]; exact e) o5
        · rintro H' ⟨acc, ks, s, e1, e2, e3, e4, e5, e6⟩
          rw [List.drop_length] at e6
          obtain ⟨z1, z2⟩ := ok_inj (show (Res.ok acc s : Res R.S (List (Key × D))) = .ok r s2 from e6)
          subst z1 z2
          exact h (.ref D0) H' (x1.trans e4) e5 (.inr ⟨D0, rfl, x1.back k1.gTr hD, ks, e1, Rpk.mono (Ext.refl (W := fun _ => False)) (fun _ z => z.elim) (fun a h => .inl (h.elim (fun h => h.elim (fun h => .inl (.inl h)) .inr) (fun h => .inl (.inr h)))) _ _ e2⟩)
    · rw [if_neg hok] at h
      exact h.elim
end
end Pv
end
section
set_option maxHeartbeats 1000000
namespace Pv
open PySem PySem.Spec PyProof.Rows L2

/-! ### instances: fields, methods, properties, made -/
/-- what an __init__ promises: the new instance at x, in the part that is held apart, gets its fields -/
def PostC (R : RS) (c : Rc) (A : Addr → Prop) (H : Hp) (x : Addr) (r : Res R.S D) (Q : VK) : Prop := match r with
  | .ok d s => ∀ H', Ext (fun a => Gv c a ∨ a = x) H H' → R.ok c.g s H' → CellAt c A H' x d → Q .non H'
  | _ => False
def spI (R : RS) (K : PySem.W.Frag) (cls : Str → Addr) (cl : Str) (lend : List Bool) (F : List D → M R.S D) : Sp := fun vs H Q _ => ∃ g A ds s x vs', vs = .ref x :: vs' ∧ (∃ dx, H x = some (.ins (cls cl) dx [])) ∧ A x ∧ ¬ Gv ⟨K, cls, g⟩ x ∧ (∀ a, A a → H a ≠ none) ∧ (∀ a, a ∈ g → A a) ∧ R.ok g s H ∧
  Rps ⟨K, cls, g⟩ A H ds vs' ∧ ds.length = lend.length ∧ PostC R ⟨K, cls, g⟩ A H x (F ds s) Q
section
variable {X : Cx} {k : Nat} {f C : Addr} {fd : FuncData} {ps : List Str} {sp : Sp} {E : XK} {x : Str} {p pos apos : Pos} {e o : Expr} {es : List Expr} {ta : TE} {t : TA}
theorem run_makeG {pins : List (Addr × Obj)} {σ : L2.St} {H : Hp} {s : Shared} {Q : VK} {us : List Value} {vs : List V} (M : Mk X.K C f) (F : FnG X.prog X.w X.K X.mg X.base k f fd ps sp) (gu : X.A.guards = some []) (hr : Room (k + 1) X.A) (hb : Binds X.K fd ps [])
    (I : Inv X pins σ H s) (r : Vals vs us)
    (h : ∀ x dx, H x = none → H dx = none → dx ≠ x → sp (.ref x :: vs) (upd (upd H dx (.own x)) x (.ins C dx [])) (fun v H2 => v = .non ∧ Q (.ref x) H2) L2.E0) :
    wpAny (model X.prog X.w) X.A (call (.ref C) us) (EP X pins σ Q) X.xe s := by
  have hq := h (s.heap.objs.size + 1) s.heap.objs.size (I.hok.fresh (Nat.le_succ _)) (I.hok.fresh (Nat.le_refl _)) (Nat.ne_of_lt (Nat.lt_succ_self _))
  have I2 := Inv.made (C := C) I
  have r2 : Vals (V.ref (s.heap.objs.size + 1) :: vs) (Value.ref (s.heap.objs.size + 1) :: us) := .cons rfl r
  have hl : (Value.ref (s.heap.objs.size + 1) :: us).length = ps.length := by
    have e := r2.length
    rw [F.len _ _ _ _ hq] at e
    exact e.symm
  have bt := hb { s with heap := (s.heap.push { cls := .type "dict", data := .dict #[] 0 }).push (PySem.W.instObj C s.heap.objs.size) } (Value.ref (s.heap.objs.size + 1) :: us) I2.kIn (by rw [List.append_nil]; exact hl)
  rw [List.append_nil] at bt
  refine wpAny_call (make_map (f := f) I.kIn M.makes M.init (beq_iff_eq.mp M.fn) (codeAny_mono (F.run _ X.stack _ _ ⟨Value.ref (s.heap.objs.size + 1) :: us, []⟩ (Value.ref (s.heap.objs.size + 1) :: us) _ _ L2.E0 gu (hr.make C us [])
    (I2.env0.make C us []) bt r2 hq) fun r s' hq' => ?_))
  cases r with
  | error e => exact hq'.elim
  | ok fl =>
    cases fl with
    | ret u =>
      obtain ⟨v, H', I3, rv, ev, q3⟩ := I2.after hq'
      subst ev
      exact ⟨rv, ⟨V.ref (s.heap.objs.size + 1), H', I3, rfl, q3⟩⟩
    | next => exact False.elim hq'
    | brk => exact False.elim hq'
    | cont => exact False.elim hq'
theorem pe_makeG (M : Mk X.K C f) (F : FnG X.prog X.w X.K X.mg X.base k f fd ps sp) (gu : X.A.guards = some []) (hr : Room (k + 1) X.A) (hg : Gl X x) (hm : X.mg x = some (.ref C)) (hb : Binds X.K fd ps [])
    (ha : PA X (e :: es) t) (hdb : (x == ("__debug__" : Str)) = false) (he : starEach (e :: es) X.env = (false, eval e X.env) :: starEach es X.env) (hpl : (backTo pos (starEach es X.env)).any (·.1) = false) :
    PE X (.Call (.Name x p) (e :: es) [] pos) (tMake C sp [] L2.E0 t) := by
  refine ⟨fun pins s σ H Q I h => ?_⟩
  refine wpAny_Call_Name_kw (ld_glob I hg hm ?_ hdb)
  refine PySem.W.callWith_K (h₀ := X.base) I.ok.mod.kin M.kp (thn (ha.run pos pins s σ H _ I h) fun us s1 ⟨vs, H1, I1, r, q⟩ => ⟨I1.kIn, ?_⟩) he hpl
  exact run_makeG M F gu hr hb I1 r fun x dx a b c => by
    have z : sp (.ref x :: (vs ++ [])) (upd (upd H1 dx (.own x)) x (.ins C dx [])) (fun v H2 => v = .non ∧ Q (.ref x) H2) L2.E0 := q x dx a b c
    rwa [List.append_nil] at z
theorem pe_methG {pl : Sem Bool} {m : Str} (he : PE X o ta) (c : Cls X.K C) (hm : Meth X.K C m f) (F : FnG X.prog X.w X.K X.mg X.base k f fd ps sp) (gu : X.A.guards = some []) (hr : Room k X.A) (hb : Binds X.K fd ps []) (ha : PA X (e :: es) t)
    (hst : starEach (e :: es) X.env = (false, eval e X.env) :: starEach es X.env) (hpl : (backTo pos (starEach es X.env)).any (·.1) = false)
    (ht : eval (.Call (.Attribute o m apos) (e :: es) [] pos) X.env = (do
      let ov ← eval o X.env
      standAt apos.atName
      let (f, first) ← holding [ov] (getMethod ov m pl)
      callWith pos f first (backTo pos (starEach (e :: es) X.env)) (backToKw pos (keywordEach [] X.env)))) :
    PE X (.Call (.Attribute o m apos) (e :: es) [] pos) (tMeth C m sp [] L2.E0 ta t) := by
  refine ⟨fun pins s σ H Q I h => ?_⟩
  refine PySem.W.methodCall_KW (pl := pl) (thn (he.run pins s σ H _ I h) fun u s1 ⟨x, H1, I1, rx, a, dx, fs, ex, ea, l, q⟩ => ?_) ht
  subst ex
  obtain rfl : u = Value.ref a := rx
  refine getmeth_ok I1 ea c hm l ?_
  refine PySem.W.callWith_K (first := [.ref a]) (h₀ := X.base) I.ok.mod.kin hm.kp (thn (ha.run pos pins s1 σ H1 _ I1 q) fun us s2 ⟨vs, H2, I2, r, q2⟩ => ⟨I2.kIn, ?_⟩) hst hpl
  have q2 : sp (.ref a :: (vs ++ [])) H2 Q L2.E0 := q2
  rw [List.append_nil] at q2
  have rel2 : Vals (V.ref a :: vs) (Value.ref a :: us) := .cons rfl r
  have bt := hb s2 (Value.ref a :: us) I2.kIn (by rw [List.append_nil, ← rel2.length]; exact F.len _ _ _ _ q2)
  rw [List.append_nil] at bt
  exact F.end_ (args := ⟨Value.ref a :: us, []⟩) gu hr I2 bt rel2 q2
theorem pe_meth0G {pl : Sem Bool} {m : Str} (he : PE X o ta) (c : Cls X.K C) (hm : Meth X.K C m f) (F : FnG X.prog X.w X.K X.mg X.base k f fd ps sp) (gu : X.A.guards = some []) (hr : Room k X.A) (hb : Binds X.K fd ps [])
    (ht : eval (.Call (.Attribute o m apos) [] [] pos) X.env = (do
      let ov ← eval o X.env
      standAt apos.atName
      let (f, first) ← holding [ov] (getMethod ov m pl)
      callWith pos f first (backTo pos (starEach [] X.env)) (backToKw pos (keywordEach [] X.env)))) :
    PE X (.Call (.Attribute o m apos) [] [] pos) (tMeth C m sp [] L2.E0 ta tNil) := by
  refine ⟨fun pins s σ H Q I h => ?_⟩
  refine PySem.W.methodCall_KW (pl := pl) (thn (he.run pins s σ H _ I h) fun u s1 ⟨x, H1, I1, rx, a, dx, fs, ex, ea, l, q⟩ => ?_) ht
  subst ex
  obtain rfl : u = Value.ref a := rx
  refine getmeth_ok I1 ea c hm l ?_
  have q2 : sp [.ref a] H1 Q L2.E0 := q
  have rel2 : Vals [V.ref a] [Value.ref a] := .cons rfl .nil
  have bt := hb s1 [Value.ref a] I1.kIn (by rw [List.append_nil, ← rel2.length]; exact F.len _ _ _ _ q2)
  rw [List.append_nil] at bt
  exact PySem.W.callWith_K0 (first := [.ref a]) I1.kIn hm.kp (F.end_ (args := ⟨[Value.ref a], []⟩) gu hr I1 bt rel2 q2)
theorem pe_propG {g q : Addr} {fl : Str} (he : PE X e ta) (c : Cls X.K C) (hp : PropOf X.K C fl q g) (F : FnG X.prog X.w X.K X.mg X.base k g fd ps sp) (gu : X.A.guards = some []) (hr : Room (k + 1) X.A) (hb : Binds X.K fd ps [])
    (hab : attributeBase e fl X.env (eval e X.env) = eval e X.env) : PE X (.Attribute e fl pos) (tProp C sp [] L2.E0 ta) := by
  refine ⟨fun pins s σ H Q I h => ?_⟩
  refine attr_of hab (thn (he.run pins s σ H _ I h) fun u s1 ⟨x, H1, I1, rx, a, dx, fs, ex, ea, q⟩ => ?_)
  subst ex
  obtain rfl : u = Value.ref a := rx
  obtain ⟨mA, O, _, _, _, _⟩ := ins_get I1.hok ea
  obtain ⟨od, J, _⟩ := O.look
  obtain ⟨rest, hrec⟩ := hp.rec_
  have I2 := I1.tok (s1.toks + 1)
  have hl : ([Value.ref a] : List Value).length = ps.length := (F.len _ _ _ _ q).symm ▸ rfl
  have hc : (PySem.W.clsIn X.K C).isSome = true := by
    obtain ⟨cd, hc, _⟩ := PySem.W.any_some c.hd
    rw [hc]
    rfl
  have bt := hb { s1 with toks := s1.toks + 1 } [Value.ref a] I2.kIn (by rw [List.append_nil]; exact hl)
  rw [List.append_nil] at bt
  refine PySem.W.get_bind I1.kIn J (PySem.W.plainGet_of (c.get fl)).1 (PySem.W.findObj_data hc hp.at_ hp.get hp.tak) (PySem.W.plainGet_of (c.get fl)).2 (wpAny_call (PySem.W.prop_get (s := { s1 with toks := s1.toks + 1 }) I1.kIn hrec ?_))
  refine codeAny_mono (F.run X.A.in1 X.stack { s1 with toks := s1.toks + 1 } H1 ⟨[.ref a], []⟩ [.ref a] [.ref a] Q L2.E0 gu hr.in1 I2.env0.in1 bt (.cons rfl .nil) q) fun r s' hq => ?_
  cases r with
  | error er => exact hq.elim
  | ok fl =>
    cases fl with
    | ret u =>
      obtain ⟨v, H', I3, rv, q3⟩ := I2.after hq
      show wpAny _ _ (handedOut u) _ _ _
      rw [PySem.W.handedOut_of (handed_of rv)]
      exact wpAny_pure ⟨v, H', I3, rv, q3⟩
    | next => exact False.elim hq
    | brk => exact False.elim hq
    | cont => exact False.elim hq
end

/-! ### as parts of the inner language -/
/-- the constructor of a class -/
structure IniAt (R : RS) (cls : Str → Addr) (X : Cx) (x : Str) (sg : Sig) (F : List D → M R.S D) : Prop where
  mk ::
  ex : sg.kd = .ini → ∃ k f fd ps, X.mg x = some (.ref (cls x)) ∧ Mk X.K (cls x) f ∧ Binds X.K fd ps [] ∧ FnG X.prog X.w X.K X.mg X.base k f fd ps (spI R X.K cls x sg.lend F) ∧ Room (k + 1) X.A ∧ X.A.guards = some []
structure MthAt (R : RS) (cls : Str → Addr) (X : Cx) (x : Str) (sg : Sig) (F : List D → M R.S D) : Prop where
  mk ::
  ex : sg.kd = .mth → ∃ k f fd ps, Cls X.K (cls sg.cl) ∧ Meth X.K (cls sg.cl) x f ∧ Binds X.K fd ps [] ∧ FnG X.prog X.w X.K X.mg X.base k f fd ps (spF R X.K cls sg F) ∧ Room (k + 1) X.A ∧ X.A.guards = some []
structure PrpAt (R : RS) (cls : Str → Addr) (X : Cx) (x : Str) (sg : Sig) (F : List D → M R.S D) : Prop where
  mk ::
  ex : sg.kd = .prp → ∃ k p f fd ps, Cls X.K (cls sg.cl) ∧ PropOf X.K (cls sg.cl) x p f ∧ Binds X.K fd ps [] ∧ FnG X.prog X.w X.K X.mg X.base k f fd ps (spF R X.K cls sg F) ∧ Room (k + 1) X.A ∧ X.A.guards = some []
section
variable {R : RS} {cls : Str → Addr} {Γ : Gm R.S} {X : Cx}
theorem Rpf.look {c : Rc} {A : Addr → Prop} {H : Hp} {n : Str} : ∀ {fs : List (Str × D)} {gs : List (Str × V)}, Rpf c A H fs gs → (∀ d, fs.lookup n = some d → ∃ v, gs.lookup n = some v ∧ Rp c A H d v) ∧ (fs.lookup n = none → gs.lookup n = none)
  | [], gs, h => by
    have h : gs = [] := h
    subst h
    exact ⟨fun d e => (by cases e), fun _ => rfl⟩
  | (q, d) :: r, gs, h => by
    obtain ⟨v, ws, rfl, h1, h2⟩ := h
    have ih := Rpf.look (n := n) h2
    cases e : (n == q) with
    | true =>
      refine ⟨fun d' z => ?_, fun z => ?_⟩
      · simp only [List.lookup, e, Option.some.injEq] at z
        subst z
        exact ⟨v, by simp only [List.lookup, e], h1⟩
      · simp only [List.lookup, e] at z
        cases z
    | false =>
      refine ⟨fun d' z => ?_, fun z => ?_⟩
      · simp only [List.lookup, e] at z ⊢
        exact ih.1 d' z
      · simp only [List.lookup, e] at z ⊢
        exact ih.2 z
theorem Lb.ins {c : Rc} {A : Addr → Prop} {H : Hp} {n : Str} {fs : List (Str × D)} {v : V} (h : Lb c A H (.ins n fs) v) : ∃ a dx gs, v = .ref a ∧ H a = some (.ins (c.cls n) dx gs) ∧ Rpf c A H fs gs := by
  rcases h with ⟨a, dx, gs, e1, e2, _, e4⟩ | ⟨a, e1, _, dx, gs, e2, e3⟩
  · exact ⟨a, dx, gs, e1, e2, e4⟩
  · exact ⟨a, dx, gs, e1, e2, e3⟩
theorem args_rps0 {c : Rc} {A : Addr → Prop} {H : Hp} : ∀ {ls : List Bool} {ds : List D} {vs : List V}, Rps c A H ds vs → ls.length = ds.length → ArgsOk c A H ls ds vs
  | [], [], vs, h, _ => ⟨rfl, h⟩
  | [], _ :: _, _, _, e => by simp at e
  | _ :: _, [], _, _, e => by simp at e
  | l :: ls, d :: ds, vs, h, e => by
    obtain ⟨v, ws, rfl, h1, h2⟩ := h
    refine ⟨d, ds, v, ws, rfl, rfl, ?_, args_rps0 h2 (by simpa using e)⟩
    cases l with
    | true => exact .inl h1
    | false => exact h1
theorem lendOk_len : ∀ {ls : List Bool} {es : List IE}, lendOk ls es = true → ls.length = es.length
  | [], [], _ => rfl
  | [], _ :: _, h => by cases h
  | _ :: _, [], h => by cases h
  | l :: ls, e :: es, h => by
    have h : ((l || decide (md e ≠ .bor)) && lendOk ls es) = true := h
    rw [Bool.and_eq_true] at h
    rw [List.length_cons, List.length_cons, lendOk_len h.2]
theorem se_fld {e : Expr} {ie : IE} {c n : Str} {pos : Pos} (hC : Cls X.K (cls c)) (hn : NoAttr X.K (cls c) n) (h1 : SE R cls Γ X e ie) (hab : attributeBase e n X.env (eval e X.env) = eval e X.env) : SE R cls Γ X (.Attribute e n pos) (.fld c ie n) := by
  obtain ⟨t, p, q⟩ := h1
  refine ⟨_, pe_fld p hab, fun σ H Q g A0 env s k o h => ?_⟩
  unfold ev at h
  refine SE.bindE q k o h fun d s1 v H1 x1 o1 r1 k1 h => ?_
  cases d with
  | ins m fs =>
    have hh : PostE R .rp (rc cls X g) (Av A0 env σ) H ((if m = c then opt (fs.lookup n) else bad : M R.S D) s1) Q := h
    clear h
    by_cases hm : m = c
    · rw [if_pos hm] at hh
      subst hm
      obtain ⟨z, hz, hq⟩ := opt_ofE' hh
      obtain ⟨a, dx, gs, e1, e2, e3⟩ := (r1.lb k.gA k.trA).ins
      obtain ⟨w, f1, f2⟩ := (Rpf.look (n := n) e3).1 z hz
      exact ⟨a, _, dx, gs, w, e1, e2, hC, hn, f1, hq w H1 x1 o1 f2⟩
    · rw [if_neg hm] at hh
      exact hh.elim
  | _ => exact h.elim
theorem Rm.rp2 {m : Md} {c : Rc} {A : Addr → Prop} {H0 H : Hp} {d : D} {v : V} (h : Rm m c A H0 H d v) (hm : m ≠ .bor) (n : ∀ a, A a → H0 a ≠ none) : Rp c A H d v := h.rp hm n
theorem md_mth {f : Nat} {b : Bool} {cl m : Str} {a : IE} {es : List IE} : md (.mth f b cl m a es) = frM b := by cases b <;> rfl
theorem md_prp {f : Nat} {b : Bool} {cl : Str} {a : IE} : md (.prp f b cl a) = frM b := by cases b <;> rfl
theorem insM_of {cl m : Str} {d : D} (h : insM cl m d = true) : ∃ fs, d = .ins cl fs ∧ fs.lookup m = none := by
  cases d with
  | ins c fs =>
    have h : (decide (c = cl) && decide (fs.lookup m = none)) = true := h
    rw [Bool.and_eq_true] at h
    have e := of_decide_eq_true h.1
    subst e
    exact ⟨fs, rfl, of_decide_eq_true h.2⟩
  | _ => cases h
theorem insC_of {cl : Str} {d : D} (h : insC cl d = true) : ∃ fs, d = .ins cl fs := by
  cases d with
  | ins c fs =>
    have e : c = cl := of_decide_eq_true h
    subst e
    exact ⟨fs, rfl⟩
  | _ => cases h
/-- o.m(..) -/
theorem se_mth {o e : Expr} {es : List Expr} {ie : IE} {ies : List IE} {f : Nat} {m : Str} {sg : Sig} {F : List D → M R.S D} {apos pos : Pos} {pl : Sem Bool} (hkd : sg.kd = .mth) (hF : MthAt R cls X m sg F) (hΓ : Γ.fns[f]? = some F) (h0 : SE R cls Γ X o ie) (hm0 : md ie ≠ .bor) (h : SA R cls Γ X (e :: es) ies) (hl : lendOk sg.lend (ie :: ies) = true)
    (hs : noStar e = true) (hss : es.all noStar = true)
    (ht : eval (.Call (.Attribute o m apos) (e :: es) [] pos) X.env = (do
      let ov ← eval o X.env
      standAt apos.atName
      let (f, first) ← holding [ov] (getMethod ov m pl)
      callWith pos f first (backTo pos (starEach (e :: es) X.env)) (backToKw pos (keywordEach [] X.env)))) : SE R cls Γ X (.Call (.Attribute o m apos) (e :: es) [] pos) (.mth f sg.fr sg.cl m ie ies) := by
  obtain ⟨k0, fa, fd, ps, e1, e2, e3, e4, e5, e6⟩ := hF.ex hkd
  obtain ⟨t0, p0, q0⟩ := h0
  obtain ⟨t, pa, q⟩ := h
  refine ⟨_, pe_methG p0 e1 e2 e4 e6 (e5.mono (Nat.le_succ _)) e3 pa (star_cons hs) (spl hss) ht, fun σ H Q g A0 env s k o h => ?_⟩
  rw [md_mth] at h
  unfold ev callF at h
  rw [hΓ] at h
  refine SE.bindE q0 k o h fun d s1 v H1 x1 o1 r1 k1 h => ?_
  split at h
  · rename_i hi
    obtain ⟨fs, rfl, hlk⟩ := insM_of hi
    obtain ⟨a, dx, gs, z1, z2, z3⟩ := (r1.lb k.gA k.trA).ins
    refine ⟨a, dx, gs, z1, z2, (Rpf.look z3).2 hlk, ?_⟩
    refine SA.bindE q k1 o1 h fun ds s2 vs H2 x2 o2 r2 k2 h => ?_
    rw [List.append_nil]
    refine ⟨g, Av A0 env σ, .ins sg.cl fs :: ds, s2, k2.trA, fun a ha => k.gA a ha, o2, ?_, h.from (x1.trans x2) k2.gTr⟩
    refine Rms.args (es := ie :: ies) (H0 := H1) hl ⟨_, _, _, _, rfl, rfl, ?_, r2⟩
    rw [if_neg hm0]
    exact (r1.rp hm0 k.trA).ext x2 k.gA
  · exact h.elim
theorem se_mth0 {o : Expr} {ie : IE} {f : Nat} {m : Str} {sg : Sig} {F : List D → M R.S D} {apos pos : Pos} {pl : Sem Bool} (hkd : sg.kd = .mth) (hF : MthAt R cls X m sg F) (hΓ : Γ.fns[f]? = some F) (h0 : SE R cls Γ X o ie) (hm0 : md ie ≠ .bor) (hl : lendOk sg.lend [ie] = true)
    (ht : eval (.Call (.Attribute o m apos) [] [] pos) X.env = (do
      let ov ← eval o X.env
      standAt apos.atName
      let (f, first) ← holding [ov] (getMethod ov m pl)
      callWith pos f first (backTo pos (starEach [] X.env)) (backToKw pos (keywordEach [] X.env)))) : SE R cls Γ X (.Call (.Attribute o m apos) [] [] pos) (.mth f sg.fr sg.cl m ie []) := by
  obtain ⟨k0, fa, fd, ps, e1, e2, e3, e4, e5, e6⟩ := hF.ex hkd
  obtain ⟨t0, p0, q0⟩ := h0
  refine ⟨_, pe_meth0G p0 e1 e2 e4 e6 (e5.mono (Nat.le_succ _)) e3 ht, fun σ H Q g A0 env s k o h => ?_⟩
  rw [md_mth] at h
  unfold ev callF at h
  rw [hΓ] at h
  refine SE.bindE q0 k o h fun d s1 v H1 x1 o1 r1 k1 h => ?_
  split at h
  · rename_i hi
    obtain ⟨fs, rfl, hlk⟩ := insM_of hi
    obtain ⟨a, dx, gs, z1, z2, z3⟩ := (r1.lb k.gA k.trA).ins
    refine ⟨a, dx, gs, z1, z2, (Rpf.look z3).2 hlk, ?_⟩
    unfold evs at h
    have h : PostE R (frM sg.fr) (rc cls X g) (Av A0 env σ) H (F [.ins sg.cl fs] s1) Q := h
    refine ⟨g, Av A0 env σ, [.ins sg.cl fs], s1, k1.trA, fun a ha => k.gA a ha, o1, ?_, h.from x1 k1.gTr⟩
    refine Rms.args (es := [ie]) (H0 := H1) hl ⟨_, _, _, _, rfl, rfl, ?_, rfl, rfl⟩
    rw [if_neg hm0]
    exact r1.rp hm0 k.trA
  · exact h.elim
/-- a property -/
theorem se_prp {o : Expr} {ie : IE} {f : Nat} {m : Str} {sg : Sig} {F : List D → M R.S D} {pos : Pos} (hkd : sg.kd = .prp) (hF : PrpAt R cls X m sg F) (hΓ : Γ.fns[f]? = some F) (h0 : SE R cls Γ X o ie) (hm0 : md ie ≠ .bor) (hl : lendOk sg.lend [ie] = true)
    (hab : attributeBase o m X.env (eval o X.env) = eval o X.env) : SE R cls Γ X (.Attribute o m pos) (.prp f sg.fr sg.cl ie) := by
  obtain ⟨k0, p, fa, fd, ps, e1, e2, e3, e4, e5, e6⟩ := hF.ex hkd
  obtain ⟨t0, p0, q0⟩ := h0
  refine ⟨_, pe_propG p0 e1 e2 e4 e6 e5 e3 hab, fun σ H Q g A0 env s k o h => ?_⟩
  rw [md_prp] at h
  unfold ev callF at h
  rw [hΓ] at h
  refine SE.bindE q0 k o h fun d s1 v H1 x1 o1 r1 k1 h => ?_
  split at h
  · rename_i hi
    obtain ⟨fs, rfl⟩ := insC_of hi
    obtain ⟨a, dx, gs, z1, z2, z3⟩ := (r1.lb k.gA k.trA).ins
    subst z1
    refine ⟨a, dx, gs, rfl, z2, ?_⟩
    refine ⟨g, Av A0 env σ, [.ins sg.cl fs], s1, k1.trA, fun a ha => k.gA a ha, o1, ?_, h.from x1 k1.gTr⟩
    refine Rms.args (es := [ie]) (H0 := H1) hl ⟨_, _, _, _, rfl, rfl, ?_, rfl, rfl⟩
    rw [if_neg hm0]
    exact r1.rp hm0 k.trA
  · exact h.elim
/-- a new instance -/
theorem se_ctor {x : Str} {p pos : Pos} {e : Expr} {es : List Expr} {ies : List IE} {f : Nat} {sg : Sig} {F : List D → M R.S D} (hkd : sg.kd = .ini) (hF : IniAt R cls X x sg F) (hΓ : Γ.fns[f]? = some F) (hg : Gl X x) (h : SA R cls Γ X (e :: es) ies) (hl : lendOk sg.lend ies = true) (hlb : ∀ i ∈ ies, md i ≠ .bor)
    (hdb : (x == ("__debug__" : Str)) = false) (hs : noStar e = true) (hss : es.all noStar = true) : SE R cls Γ X (.Call (.Name x p) (e :: es) [] pos) (.ctor f ies) := by
  obtain ⟨k0, fa, fd, ps, e1, e2, e3, e4, e5, e6⟩ := hF.ex hkd
  obtain ⟨t, pa, q⟩ := h
  refine ⟨_, pe_makeG e2 e4 e6 e5 hg e1 e3 pa hdb (star_cons hs) (spl hss), fun σ H Q g A0 env s k o h => ?_⟩
  unfold ev callF at h
  rw [hΓ] at h
  refine SA.bindE q k o h fun ds s1 vs H1 x1 o1 r1 k1 h => fun a dx ha hdx hne => ?_
  have hx1 : upd H1 dx (.own a) a = none := by rw [upd_ne (Ne.symm hne)]; exact ha
  have eN : Ext (fun _ => False) H1 (upd (upd H1 dx (.own a)) a (.ins (cls x) dx [])) := (Ext.new hdx).trans (Ext.new hx1)
  have nA : ¬ Av A0 env σ a := fun z => k1.trA a z ha
  have keep : ∀ b o, H1 b = some o → upd (upd H1 dx (.own a)) a (.ins (cls x) dx []) b = some o := fun b o z => eN b o z (.inl id)
  have n0 : ∀ b, Plus (Av A0 env σ) a b → Av A0 env σ b ∨ H1 b = none := fun b z => z.imp id fun e => by rw [e]; exact ha
  rw [List.append_nil]
  refine ⟨g, Plus (Av A0 env σ) a, ds, s1, a, vs, rfl, ⟨dx, upd_same⟩, .inr rfl, fun z => nA (k.gA a z), fun b z => ?_, fun b z => .inl (k.gA b z), R.stay (fun b _ o z => keep b o z) o1, ?_, ?_, ?_⟩
  · rcases z with z | z
    · have q := k1.trA b z
      cases w : H1 b with
      | none => exact absurd w q
      | some u => rw [keep b u w]; simp
    · rw [z, upd_same]; simp
  · have r2 := Rms.rps hlb r1
    exact Rps.mono eN (fun _ z => z.elim) n0 _ _ r2
  · rw [lendOk_len hl]; exact r1.length.1
  · have hr : PostE R .rp (rc cls X g) (Av A0 env σ) H (F ds s1) Q := h
    cases hF2 : F ds s1 with
    | bad => rw [hF2] at hr; exact hr
    | er _ _ _ => rw [hF2] at hr; exact hr
    | ok d s2 =>
      rw [hF2] at hr
      intro H' x2 o2 cc
      have x2' : Ext (Gv (rc cls X g)) H1 H' := fun b o z w => by
        by_cases hb : b = a
        · rw [hb, ha] at z; cases z
        · exact x2 b o (keep b o z) (w.imp (fun w q => q.elim w hb) id)
      refine ⟨rfl, hr (.ref a) H' (x1.trans x2') o2 ?_⟩
      exact (cc.anti fun b z => .inl z).rp nA
end
end Pv
end
section
set_option maxHeartbeats 1000000
namespace Pv
open PySem PySem.Spec PyProof.Rows L2

/-! ### texts in order: one result alone -/
def leS (a b : Str) : Prop := ltCps b.cps.toList a.cps.toList = false
theorem leS_iff {a b : Str} : leS a b ↔ ¬ (b.cps.toList < a.cps.toList) := by
  unfold leS
  rw [ltCps_eq]
  simp
theorem leS_anti {a b : Str} (h1 : leS a b) (h2 : leS b a) : a = b := by
  have e : a.cps.toList = b.cps.toList := by
    rw [leS_iff] at h1 h2
    exact List.le_antisymm (List.not_lt.mp h1) (List.not_lt.mp h2)
  cases a; cases b
  congr
  exact Array.toList_inj.mp e
theorem leS_trans {a b c : Str} (h1 : leS a b) (h2 : leS b c) : leS a c := by
  rw [leS_iff] at *
  exact List.not_lt.mpr (List.le_trans (List.not_lt.mp h1) (List.not_lt.mp h2))
theorem leS_total (a b : Str) : leS a b ∨ leS b a := by
  rw [leS_iff, leS_iff]
  rcases List.le_total a.cps.toList b.cps.toList with h | h
  · exact .inl (List.not_lt.mpr h)
  · exact .inr (List.not_lt.mpr h)
theorem insS_perm (x : Str) : ∀ l, (insS x l).Perm (x :: l)
  | [] => .refl _
  | y :: ys => by
    unfold insS
    split
    · exact ((insS_perm x ys).cons y).trans (.swap x y ys)
    · exact .refl _
theorem srtS_perm : ∀ l, (srtS l).Perm l
  | [] => .refl _
  | x :: xs => (insS_perm x _).trans ((srtS_perm xs).cons x)
theorem insS_pw (x : Str) : ∀ {l}, l.Pairwise leS → (insS x l).Pairwise leS
  | [], _ => by simp [insS]
  | y :: ys, h => by
    unfold insS
    rw [List.pairwise_cons] at h
    split
    · rename_i c
      rw [List.pairwise_cons]
      refine ⟨fun z hz => ?_, insS_pw x h.2⟩
      rcases List.mem_cons.mp ((insS_perm x ys).mem_iff.mp hz) with rfl | hz
      · rcases leS_total y z with q | q
        · exact q
        · unfold leS at q; rw [c] at q; cases q
      · exact h.1 z hz
    · rename_i c
      have xy : leS x y := by
        unfold leS
        cases q : ltCps y.cps.toList x.cps.toList with
        | true => exact absurd q c
        | false => rfl
      rw [List.pairwise_cons, List.pairwise_cons]
      refine ⟨fun z hz => ?_, h⟩
      rcases List.mem_cons.mp hz with rfl | hz
      · exact xy
      · exact leS_trans xy (h.1 z hz)
theorem srtS_pw : ∀ l, (srtS l).Pairwise leS
  | [] => .nil
  | x :: xs => insS_pw x (srtS_pw xs)
theorem rising_pw : ∀ (l : List Str) (p : Str), risingS p l = true → (p :: l).Pairwise leS
  | [], p, _ => by simp
  | x :: r, p, h => by
    have h : (!ltCps x.cps.toList p.cps.toList && risingS x r) = true := h
    rw [Bool.and_eq_true] at h
    have ih := rising_pw r x h.2
    have px : leS p x := by
      unfold leS
      cases q : ltCps x.cps.toList p.cps.toList with
      | true => rw [q] at h; cases h.1
      | false => rfl
    rw [List.pairwise_cons] at ih ⊢
    refine ⟨fun z hz => ?_, List.pairwise_cons.mpr ih⟩
    rcases List.mem_cons.mp hz with rfl | hz
    · exact px
    · exact leS_trans px (ih.1 z hz)
theorem sortedS_pw {l : List Str} (h : sortedS l = true) : l.Pairwise leS := by
  cases l with
  | nil => exact .nil
  | cons x r => exact rising_pw r x h
theorem sorted_one {ys xs : List Str} (p : ys.Perm xs) (h : sortedS ys = true) : ys = srtS xs :=
  List.Perm.eq_of_pairwise (fun a b _ _ h1 h2 => leS_anti h1 h2) (sortedS_pw h) (srtS_pw xs) (p.trans (srtS_perm xs).symm)
theorem strsOf_rps {c : Rc} {A : Addr → Prop} {H : Hp} : ∀ {l : List D} {zs : List Str} {xs : List V}, strsOf l = some zs → Rps c A H l xs → xs = zs.map V.str
  | [], zs, xs, e, h => by
    cases e
    exact h
  | .str i :: r, ns, xs, e, h => by
    obtain ⟨v, ws, rfl, h1, h2⟩ := h
    unfold strsOf at e
    cases q : strsOf r with
    | none => rw [q] at e; cases e
    | some m =>
      rw [q] at e
      cases e
      have h1 : v = .str i := h1
      rw [h1, strsOf_rps q h2]
      rfl
  | .non :: _, _, _, e, _ => by cases e
  | .bl _ :: _, _, _, e, _ => by cases e
  | .int _ :: _, _, _, e, _ => by cases e
  | .tup _ :: _, _, _, e, _ => by cases e
  | .lst _ :: _, _, _, e, _ => by cases e
  | .dct _ :: _, _, _, e, _ => by cases e
  | .ins _ _ :: _, _, _, e, _ => by cases e
  | .rng :: _, _, _, e, _ => by cases e
  | .scr _ :: _, _, _, e, _ => by cases e
theorem rps_strs {c : Rc} {A : Addr → Prop} {H : Hp} : ∀ (zs : List Str), Rps c A H (zs.map D.str) (zs.map V.str)
  | [] => rfl
  | z :: zs => ⟨_, _, rfl, rfl, rps_strs zs⟩
theorem keysOf_rpk {c : Rc} {A : Addr → Prop} {H : Hp} : ∀ {l : List (Key × D)} {zs : List Str} {ks : List (Key × V)}, keysOf l = some zs → Rpk c A H l ks → ks.map (·.1) = zs.map Sum.inr
  | [], zs, xs, e, h => by
    cases e
    have h : xs = [] := h
    rw [h]; rfl
  | (.inr i, d) :: r, ns, xs, e, h => by
    obtain ⟨v, ws, rfl, h1, h2⟩ := h
    unfold keysOf at e
    cases q : keysOf r with
    | none => rw [q] at e; cases e
    | some m =>
      rw [q] at e
      cases e
      rw [List.map_cons, List.map_cons, keysOf_rpk q h2]
  | (.inl i, d) :: r, _, _, e, _ => by cases e
section
variable {R : RS} {cls : Str → Addr} {Γ : Gm R.S} {X : Cx}
theorem bi_sorted (hc : X.calm = true) : BiR R cls X .sorted (.builtin "sorted") .fr := ⟨_, cr_sortedS.or (call_sortedD hc), fun g A H0 H ds vs z Q hg ht x0 l h q => by
  have fin : ∀ (zs : List Str) (p : Addr), zs.length < 64 → H p = none → Q (.ref p) (upd H p (.lst (zs.map V.str))) ∨ True := fun _ _ _ _ => .inr trivial
  match ds, h with
  | [.lst l'], h =>
    obtain ⟨v, rfl, l1⟩ := l.one
    have h : ((strsOf l').bind fun zs => if zs.length < 64 then some (.lst ((srtS zs).map D.str)) else none) = some z := h
    obtain ⟨zs, h1, h2⟩ := Option.bind_eq_some_iff.mp h
    split at h2
    · rename_i hl
      cases h2
      obtain ⟨a, xs, e1, e2, e3, e4, _⟩ := l1.lst hg
      have ex := strsOf_rps h1 e4
      subst ex
      refine .inl ⟨a, zs, by rw [e1], .inl (.inl e2), hl, fun ys p w1 w2 hp => ?_⟩
      rw [sorted_one w1 w2]
      have x2 : Ext (Gv (rc cls X g)) H (upd H p (.lst ((srtS zs).map V.str))) := Ext.new hp
      exact q _ _ x2 (fun g' s e o => RS.new o hp) (.inr ⟨p, rfl, x0.back ht hp, _, upd_same, by rw [List.length_map, (srtS_perm zs).length_eq]; exact Nat.le_of_lt (Nat.lt_of_lt_of_le hl (by decide)), rps_strs _⟩)
    · cases h2
  | [.dct l'], h =>
    obtain ⟨v, rfl, l1⟩ := l.one
    have h : ((keysOf l').bind fun zs => if zs.length < 64 then some (.lst ((srtS zs).map D.str)) else none) = some z := h
    obtain ⟨zs, h1, h2⟩ := Option.bind_eq_some_iff.mp h
    split at h2
    · rename_i hl
      cases h2
      obtain ⟨a, ks, e1, e2, e3⟩ := l1.dct
      refine .inr ⟨a, ks, zs, by rw [e1], e2, keysOf_rpk h1 e3, hl, fun ys p w1 w2 hp => ?_⟩
      rw [sorted_one w1 w2]
      have x2 : Ext (Gv (rc cls X g)) H (upd H p (.lst ((srtS zs).map V.str))) := Ext.new hp
      exact q _ _ x2 (fun g' s e o => RS.new o hp) (.inr ⟨p, rfl, x0.back ht hp, _, upd_same, by rw [List.length_map, (srtS_perm zs).length_eq]; exact Nat.le_of_lt (Nat.lt_of_lt_of_le hl (by decide)), rps_strs _⟩)
    · cases h2
  | [.non], h => cases h
  | [.bl _], h => cases h
  | [.int _], h => cases h
  | [.str _], h => cases h
  | [.tup _], h => cases h
  | [.ins _ _], h => cases h
  | [.rng], h => cases h
  | [.scr _], h => cases h⟩
theorem pairs_rp {c : Rc} {A : Addr → Prop} {H : Hp} : ∀ {l : List D} {acc r : List (Key × D)} {xs : List V} {ks : List (Key × V)}, pairsD l acc = some r → Rps c A H l xs → Rpk c A H acc ks →
    ∃ (ps : List Addr) (kvs : List (Key × V)), xs = ps.map V.ref ∧ Paired (fun p kv => SqT c.K H p [kV kv.1, kv.2]) ps kvs ∧ Rpk c A H r (mergeK ks kvs)
  | [], acc, r, xs, ks, e, h, k => by
    cases e
    have h : xs = [] := h
    subst h
    exact ⟨[], [], rfl, .nil, k⟩
  | .tup [q, d] :: l, acc, r, xs, ks, e, h, k => by
    unfold pairsD at e
    obtain ⟨key, e1, e2⟩ := Option.bind_eq_some_iff.mp e
    obtain ⟨v, ws, rfl, ⟨a, ys, f1, f2, f3⟩, h2⟩ := h
    obtain ⟨u1, us, rfl, g1, u2, us2, rfl, g2, g3⟩ := f3
    have g3 : us2 = [] := g3
    subst g3
    have g1 : u1 = kV key := keyOf_rp e1 g1
    subst g1
    obtain ⟨ps, kvs, z1, z2, z3⟩ := pairs_rp e2 h2 (k.put g2)
    exact ⟨a :: ps, (key, u2) :: kvs, by rw [f1, z1]; rfl, .cons f2 z2, z3⟩
  | .tup [] :: _, _, _, _, _, e, _, _ => by cases e
  | .tup [_] :: _, _, _, _, _, e, _, _ => by cases e
  | .tup (_ :: _ :: _ :: _) :: _, _, _, _, _, e, _, _ => by cases e
  | .non :: _, _, _, _, _, e, _, _ => by cases e
  | .bl _ :: _, _, _, _, _, e, _, _ => by cases e
  | .int _ :: _, _, _, _, _, e, _, _ => by cases e
  | .str _ :: _, _, _, _, _, e, _, _ => by cases e
  | .lst _ :: _, _, _, _, _, e, _, _ => by cases e
  | .dct _ :: _, _, _, _, _, e, _, _ => by cases e
  | .ins _ _ :: _, _, _, _, _, e, _, _ => by cases e
  | .rng :: _, _, _, _, _, e, _, _ => by cases e
  | .scr _ :: _, _, _, _, _, e, _, _ => by cases e
theorem Rpk.plus {c : Rc} {A : Addr → Prop} {H : Hp} {ds : List (Key × D)} {vs : List (Key × V)} {p : Addr} (h : Rpk c A H ds vs) (hp : H p = none) : Rpk c (Plus A p) H ds vs := Rpk.mono (Ext.refl (W := fun _ => False)) (fun _ z => z.elim) (fun a z => z.imp id fun e => by rw [e]; exact hp) _ _ h
theorem bi_dict (hc : X.calm = true) : BiR R cls X .dict (.type "dict") .fr := ⟨_, call_dictD.or (call_dictP hc), fun g A H0 H ds vs z Q hg ht x0 l h q => by
  match ds, h with
  | [.dct l'], h =>
    obtain ⟨v, rfl, l1⟩ := l.one
    cases h
    obtain ⟨a, ks, e1, e2, e3⟩ := l1.dct
    refine .inl ⟨a, ks, by rw [e1], e2, fun p hp => ?_⟩
    have x2 : Ext (Gv (rc cls X g)) H (upd H p (.dK ks)) := Ext.new hp
    exact q _ _ x2 (fun g' s e o => RS.new o hp) (.inr ⟨p, rfl, x0.back ht hp, _, upd_same, Rpk.mono x2 (fun a h => .inl (hg a h)) (fun _ z => .inl z) _ _ (e3.plus hp)⟩)
  | [.lst l'], h =>
    obtain ⟨v, rfl, l1⟩ := l.one
    have h : ((pairsD l' []).map D.dct) = some z := h
    obtain ⟨r, h1, rfl⟩ := Option.map_eq_some_iff.mp h
    obtain ⟨a, xs, e1, e2, e3, e4, _⟩ := l1.lst hg
    obtain ⟨ps, kvs, rfl, z2, z3⟩ := pairs_rp (ks := []) h1 e4 rfl
    refine .inr ⟨a, ps, kvs, by rw [e1], .inl (.inl e2), z2, fun p hp => ?_⟩
    have x2 : Ext (Gv (rc cls X g)) H (upd H p (.dK (mergeK [] kvs))) := Ext.new hp
    exact q _ _ x2 (fun g' s e o => RS.new o hp) (.inr ⟨p, rfl, x0.back ht hp, _, upd_same, Rpk.mono x2 (fun a h => .inl (hg a h)) (fun _ z => .inl z) _ _ (z3.plus hp)⟩)
  | [.non], h => cases h
  | [.bl _], h => cases h
  | [.int _], h => cases h
  | [.str _], h => cases h
  | [.tup _], h => cases h
  | [.ins _ _], h => cases h
  | [.rng], h => cases h
  | [.scr _], h => cases h⟩
/-- e[::-1] of a list -/
theorem se_rev {e : Expr} {ie : IE} {k : Nat} {p1 p2 p3 pos : Pos} (h1 : SE R cls Γ X e ie) : SE R cls Γ X (.Subscript e (.Slice none none (some (.UnaryOp .USub (.Constant (.int 1) k p1) p2)) p3) pos) (.rev ie) := by
  obtain ⟨t, p, q⟩ := h1
  refine ⟨_, pe_revL p, fun σ H Q g A0 env s k o h => ?_⟩
  unfold ev at h
  refine SE.bindE q k o h fun d s1 v H1 x1 o1 r1 k1 h => ?_
  cases d with
  | lst l =>
    obtain ⟨a, xs, e1, e2, e3, e4, _⟩ := (r1.lb k.gA k.trA).lst k.gA
    refine ⟨a, xs, e1, .inl (.inl e2), fun p hp => ?_⟩
    have x2 : Ext (Gv (rc cls X g)) H1 (upd H1 p (.lst xs.reverse)) := Ext.new hp
    exact h (.ref p) _ (x1.trans x2) (RS.new o1 hp) (.inr ⟨p, rfl, x1.back k1.gTr hp, _, upd_same, by rw [List.length_reverse]; exact e3, (e4.reverse.plus hp).ext x2 fun a h => .inl (k.gA a h)⟩)
  | _ => exact h.elim
end
end Pv
end
section
set_option maxHeartbeats 1000000
namespace Pv
open PySem PySem.Spec PyProof.Rows L2

/-! ### keywords -/
section
variable {R : RS} {cls : Str → Addr} {Γ : Gm R.S} {X : Cx}
def SK (R : RS) (cls : Str → Addr) (Γ : Gm R.S) (X : Cx) (es : List Keyword) (ies : List IE) : Prop :=
  ∃ t, PK X es t ∧ ∀ σ H Q g A0 env s, EnvOk (rc cls X g) A0 H σ env → R.ok g s H → PostA R ies (rc cls X g) (Av A0 env σ) H (evs Γ ies env s) Q → t σ H Q
theorem sk_nil : SK R cls Γ X [] [] := ⟨tNil, pk_nil, fun σ H Q g A0 env s k o h => h [] H Ext.refl o ⟨rfl, rfl⟩⟩
/-- the readings of lists, as a rule apart -/
theorem cons_ok {ie : IE} {ies : List IE} {t1 : TE} {t2 : TA} (q1 : ∀ σ H Q g A0 env s, EnvOk (rc cls X g) A0 H σ env → R.ok g s H → PostE R (md ie) (rc cls X g) (Av A0 env σ) H (ev Γ ie env s) Q → t1 σ H Q)
    (q2 : ∀ σ H Q g A0 env s, EnvOk (rc cls X g) A0 H σ env → R.ok g s H → PostA R ies (rc cls X g) (Av A0 env σ) H (evs Γ ies env s) Q → t2 σ H Q) :
    ∀ σ H Q g A0 env s, EnvOk (rc cls X g) A0 H σ env → R.ok g s H → PostA R (ie :: ies) (rc cls X g) (Av A0 env σ) H (evs Γ (ie :: ies) env s) Q → tCons t1 t2 σ H Q := fun σ H Q g A0 env s k o h => by
  refine q1 σ H _ g A0 env s k o ?_
  unfold evs at h
  rw [bind_def] at h
  cases q : ev Γ ie env s with
  | bad => rw [q] at h; exact h
  | er a b c => rw [q] at h; exact h
  | ok d s1 =>
    rw [q] at h
    dsimp only at h
    intro v H1 x1 o1 r1
    refine q2 σ H1 _ g A0 env s1 (k.next x1 o1) o1 ?_
    rw [bind_def] at h
    cases q' : evs Γ ies env s1 with
    | bad => rw [q'] at h; exact h
    | er a b c => rw [q'] at h; exact h
    | ok ds s2 =>
      rw [q'] at h
      intro vs H2 x2 o2 r2
      refine h _ H2 (x1.trans x2) o2 ⟨d, ds, v, vs, rfl, rfl, ?_, ?_⟩
      · split
        · exact (r1.lb k.gA k.trA).mono x2 k.gA
        · rename_i hm
          exact (r1.rp hm k.trA).ext x2 k.gA
      · have w : ∀ {es : List IE} {ds : List D} {vs : List V}, Rms (rc cls X g) (Av A0 env σ) H1 H2 es ds vs → Rms (rc cls X g) (Av A0 env σ) H H2 es ds vs := by
          intro es
          induction es with
          | nil => intro ds vs h; exact h
          | cons e es ih =>
            intro ds vs h
            obtain ⟨d, ds', v, vs', a1, a2, a3, a4⟩ := h
            exact ⟨d, ds', v, vs', a1, a2, a3, ih a4⟩
        exact w r2
theorem sk_cons {nm : Option Str} {e : Expr} {kpos : Pos} {es : List Keyword} {ie : IE} {ies : List IE} (h1 : SE R cls Γ X e ie) (h2 : SK R cls Γ X es ies) : SK R cls Γ X (⟨nm, e, kpos⟩ :: es) (ie :: ies) := by
  obtain ⟨t1, p1, q1⟩ := h1
  obtain ⟨t2, p2, q2⟩ := h2
  exact ⟨tCons t1 t2, pk_cons p1 p2, cons_ok q1 q2⟩
end
/-- a def that is called by keywords: n values by place, the others by name; perm: where each further parameter stands among the keywords -/
structure KwOk (R : RS) (cls : Str → Addr) (X : Cx) (x : Str) (sg : Sig) (F : List D → M R.S D) (n : Nat) (ks : List Str) (perm : List Nat) : Prop where
  mk ::
  ex : sg.kd = .fn → ∃ k f fd ps, X.mg x = some (.ref f) ∧ PySem.W.keepIn X.K (.ref f) = true ∧ KBn X.K fd ps n ks (fun us ws => us ++ perm.filterMap fun i => ws[i]?) (fun us ws => us ++ perm.filterMap fun i => ws[i]?) ∧ FnG X.prog X.w X.K X.mg X.base k f fd ps (spF R X.K cls sg F) ∧ Room k X.A ∧ X.A.guards = some []
def lbAll (es : List IE) : Bool := es.all fun e => decide (md e ≠ .bor)
section
variable {R : RS} {cls : Str → Addr} {Γ : Gm R.S} {X : Cx}
theorem rps_perm {c : Rc} {A : Addr → Prop} {H : Hp} {ds : List D} {vs : List V} (h : Rps c A H ds vs) : ∀ perm : List Nat, Rps c A H (perm.filterMap fun i => ds[i]?) (perm.filterMap fun i => vs[i]?)
  | [] => rfl
  | i :: r => by
    rw [List.filterMap_cons, List.filterMap_cons]
    cases q : ds[i]? with
    | none =>
      have l := h.length
      have z : vs[i]? = none := by
        rw [List.getElem?_eq_none_iff] at q ⊢
        omega
      rw [z]
      exact rps_perm h r
    | some d =>
      obtain ⟨v, e1, e2⟩ := h.getD q
      rw [e1]
      exact ⟨v, _, rfl, e2, rps_perm h r⟩
theorem args_rps {c : Rc} {A : Addr → Prop} {H : Hp} : ∀ {ls : List Bool} {ds : List D} {vs : List V}, Rps c A H ds vs → ls.length = ds.length → ArgsOk c A H ls ds vs
  | [], [], vs, h, _ => ⟨rfl, h⟩
  | [], _ :: _, _, _, e => by simp at e
  | _ :: _, [], _, _, e => by simp at e
  | l :: ls, d :: ds, vs, h, e => by
    obtain ⟨v, ws, rfl, h1, h2⟩ := h
    refine ⟨d, ds, v, ws, rfl, rfl, ?_, args_rps h2 (by simpa using e)⟩
    cases l with
    | true => exact .inl h1
    | false => exact h1
theorem kw_all {kws : List Keyword} {env : PySem.Env} {pos : Pos} (h : kws.all (fun k => k.1.isSome) = true) : (backToKw pos (keywordEach kws env)).all (·.1.isSome) = true ∧ (backToKw pos (keywordEach kws env)).any (·.1.isNone) = false ∧ (backToKw pos (keywordEach kws env)).filterMap (·.1) = kws.filterMap (·.1) := by
  induction kws with
  | nil => exact ⟨rfl, rfl, rfl⟩
  | cons k kws ih =>
    obtain ⟨nm, v, p⟩ := k
    rw [List.all_cons, Bool.and_eq_true] at h
    obtain ⟨a, b, c⟩ := ih h.2
    have h1 : nm.isSome = true := h.1
    refine ⟨?_, ?_, ?_⟩
    · show (nm.isSome && (backToKw pos (keywordEach kws env)).all (·.1.isSome)) = true
      rw [a, h1]; rfl
    · show (nm.isNone || (backToKw pos (keywordEach kws env)).any (·.1.isNone)) = false
      rw [b]
      cases nm with
      | none => cases h1
      | some _ => rfl
    · show List.filterMap (·.1) ((nm, _) :: backToKw pos (keywordEach kws env)) = List.filterMap (·.1) ((⟨nm, v, p⟩ : Keyword) :: kws)
      rw [List.filterMap_cons, List.filterMap_cons, c]
theorem md_callK {f : Nat} {b : Bool} {es ks : List IE} {perm : List Nat} : md (.callK f b es ks perm) = frM b := by cases b <;> rfl
theorem se_callK0 {x : Str} {p pos : Pos} {kws : List Keyword} {ks : List IE} {f : Nat} {sg : Sig} {perm : List Nat} {F : List D → M R.S D} (hkd : sg.kd = .fn) (hF : KwOk R cls X x sg F 0 (kws.filterMap (·.1)) perm) (hΓ : Γ.fns[f]? = some F) (hg : Gl X x) (h : SK R cls Γ X kws ks)
    (hdb : (x == ("__debug__" : Str)) = false) (hk : kws.all (fun k => k.1.isSome) = true) (hm : lbAll ks = true) (hl : perm.all (fun i => decide (i < ks.length)) = true) (hsl : sg.lend.length = perm.length) (hkl : ks.length = (kws.filterMap (·.1)).length) :
    SE R cls Γ X (.Call (.Name x p) [] kws pos) (.callK f sg.fr [] ks perm) := by
  obtain ⟨k0, fa, fd, ps, e1, e2, e3, e4, e5, e6⟩ := hF.ex hkd
  obtain ⟨t, pa, q⟩ := h
  obtain ⟨b1, b2, b3⟩ := kw_all (pos := pos) (env := X.env) hk
  refine ⟨_, pe_callKG e4 e6 e5 hg e1 e2 e3 pa b1 b3 hdb (by rw [b2]; rfl), fun σ H Q g A0 env s k o h => ?_⟩
  rw [md_callK] at h
  unfold ev at h
  have h : PostE R (frM sg.fr) (rc cls X g) (Av A0 env σ) H ((evs Γ ks env >>= fun kd => callF Γ f (perm.filterMap fun i => kd[i]?)) s) Q := h
  unfold callF at h
  rw [hΓ] at h
  refine SA.bindE q k o h fun ds s1 vs H1 x1 o1 r1 k1 h => ?_
  have l := r1.length
  refine ⟨rfl, by rw [l.2]; exact hkl, g, Av A0 env σ, _, s1, k1.trA, fun a ha => k.gA a ha, o1, ?_, h.from x1 k1.gTr⟩
  have rp := Rms.rps (fun e he => of_decide_eq_true (List.all_eq_true.mp hm e he)) r1
  refine args_rps (rps_perm rp perm) ?_
  have z : ∀ perm : List Nat, perm.all (fun i => decide (i < ks.length)) = true → (perm.filterMap fun i => ds[i]?).length = perm.length := by
    intro perm
    induction perm with
    | nil => intro _; rfl
    | cons i r ih =>
      intro hh
      rw [List.all_cons, Bool.and_eq_true] at hh
      have hi : i < ds.length := by rw [l.1]; exact of_decide_eq_true hh.1
      rw [List.filterMap_cons, List.getElem?_eq_getElem hi]
      simp [ih hh.2]
  rw [z perm hl, hsl]
end

/-! ### methods by keywords -/
structure MthK (R : RS) (cls : Str → Addr) (X : Cx) (x : Str) (sg : Sig) (F : List D → M R.S D) (ks : List Str) (perm : List Nat) : Prop where
  mk ::
  ex : sg.kd = .mth → ∃ k f fd ps, Cls X.K (cls sg.cl) ∧ Meth X.K (cls sg.cl) x f ∧ KBn X.K fd ps 1 ks (fun us ws => us ++ perm.filterMap fun i => ws[i]?) (fun us ws => us ++ perm.filterMap fun i => ws[i]?) ∧ FnG X.prog X.w X.K X.mg X.base k f fd ps (spF R X.K cls sg F) ∧ Room k X.A ∧ X.A.guards = some []
def tMethK (C : Addr) (m : Str) (n : Nat) (gV : List V → List V → List V) (sp : Sp) (ta : TE) (tk : TA) : TE := fun σ H Q => ta σ H fun x H1 => ∃ a dx fs, x = .ref a ∧ H1 a = some (.ins C dx fs) ∧ fs.lookup m = none ∧ tk σ H1 fun zs H2 => zs.length = n ∧ sp (gV [.ref a] zs) H2 Q L2.E0
section
variable {X : Cx} {k : Nat} {f C : Addr} {fd : FuncData} {ps : List Str} {sp : Sp} {pos apos : Pos} {o : Expr} {ta : TE}
theorem pe_methKG {pl : Sem Bool} {m : Str} {ks : List Str} {kws : List Keyword} {tk : TA} {g : List Value → List Value → List Value} {gV : List V → List V → List V} (he : PE X o ta) (c : Cls X.K C) (hm : Meth X.K C m f)
    (F : FnG X.prog X.w X.K X.mg X.base k f fd ps sp) (gu : X.A.guards = some []) (hr : Room k X.A) (bd : KBn X.K fd ps 1 ks g gV) (pk : PK X kws tk)
    (hall : (backToKw pos (keywordEach kws X.env)).all (·.1.isSome) = true) (hks : (backToKw pos (keywordEach kws X.env)).filterMap (·.1) = ks)
    (hpl : ((backTo pos (starEach [] X.env)).any (·.1) || (backToKw pos (keywordEach kws X.env)).any (·.1.isNone)) = false)
    (ht : eval (.Call (.Attribute o m apos) [] kws pos) X.env = (do
      let ov ← eval o X.env
      standAt apos.atName
      let (f, first) ← holding [ov] (getMethod ov m pl)
      callWith pos f first (backTo pos (starEach [] X.env)) (backToKw pos (keywordEach kws X.env)))) :
    PE X (.Call (.Attribute o m apos) [] kws pos) (tMethK C m ks.length gV sp ta tk) := by
  refine ⟨fun pins s σ H Q I h => ?_⟩
  refine PySem.W.methodCall_KW (pl := pl) (thn (he.run pins s σ H _ I h) fun u s1 ⟨x, H1, I1, rx, a, dx, fs, ex, ea, l, q⟩ => ?_) ht
  subst ex
  obtain rfl : u = Value.ref a := rx
  refine getmeth_ok I1 ea c hm l ?_
  refine PySem.W.callWith_KW0 (first := [.ref a]) (h₀ := X.base) I.ok.mod.kin hm.kp hall (thn (pk.run pos pins s1 σ H1 _ I1 q) fun ws s2 ⟨zs, H2, J, rz, l2, q2⟩ => ⟨J.kIn, ?_⟩) hpl
  rw [hks]
  have rel1 : Vals [V.ref a] [Value.ref a] := .cons rfl .nil
  have rel2 := bd.rel rel1 rz
  exact F.end_ (args := ⟨[.ref a], ks.zip ws⟩) gu hr J (bd.to s2 [.ref a] ws J.kIn rfl (rz.length.symm.trans l2)) rel2 q2
/-- len(o), by o's own __len__ -/
def rLenO (C : Addr) (sp : Sp) : List V → Hp → VK → Prop := fun xs H Q => ∃ a dx fs, xs = [.ref a] ∧ H a = some (.ins C dx fs) ∧ sp [.ref a] H (fun v H' => ∃ n, v = .int n ∧ (0 ≤ n ∧ n < 2 ^ 63) ∧ Q (.int n) H') L2.E0
theorem call_lenO (hm : Meth X.K C "__len__" f) (F : FnG X.prog X.w X.K X.mg X.base k f fd ps sp) (gu : X.A.guards = some []) (hr : Room (k + 1) X.A) (hb : Binds X.K fd ps []) : CallR X (.builtin "len") (rLenO C sp) := by
  intro pins s σ H xs us Q I rv h
  obtain ⟨a, dx, fs, rfl, ea, q⟩ := h
  cases rv with
  | cons r1 rs =>
    cases rs
    cases (show _ = Value.ref a from r1)
    obtain ⟨mA, O, _⟩ := ins_get I.hok ea
    obtain ⟨od, J, _⟩ := O.look
    obtain ⟨m, hF⟩ := I.fr
    have bt := hb s [Value.ref a] I.kIn (by rw [List.append_nil]; exact F.len _ _ _ _ q)
    rw [List.append_nil] at bt
    refine PySem.W.len_K hF I.ok.mod.kin J hm.at_ hm.fn (wpAny_call (codeAny_mono (F.run X.A.in1 X.stack s H ⟨[.ref a], []⟩ [.ref a] [.ref a] _ L2.E0 gu hr.in1 I.env0.in1 bt (.cons rfl .nil) q) fun r s' hq => ?_))
    cases r with
    | error er => exact hq.elim
    | ok fl =>
      cases fl with
      | ret u =>
        obtain ⟨v, H', I3, rv, n, ev, hn, q3⟩ := I.after hq
        subst ev
        obtain ⟨t, e⟩ : ∃ t, u = Value.int n t := rv
        subst e
        exact ⟨hn, .int n, H', I3.tok _, ⟨_, rfl⟩, q3⟩
      | next => exact False.elim hq
      | brk => exact False.elim hq
      | cont => exact False.elim hq
/-- a == b, by a's own __eq__ -/
def rEqO (C : Addr) (sp : Sp) : R2 := fun x y H Q => ∃ a b dx dy fs gs, x = .ref a ∧ y = .ref b ∧ H a = some (.ins C dx fs) ∧ H b = some (.ins C dy gs) ∧ sp [.ref a, .ref b] H (fun v H' => ∃ z, v = .bl z ∧ Q (.bl z) H') L2.E0
theorem op_eqO (hm : Meth X.K C "__eq__" f) (F : FnG X.prog X.w X.K X.mg X.base k f fd ps sp) (gu : X.A.guards = some []) (hr : Room (k + 1) X.A) (hb : Binds X.K fd ps []) : OpR X (compareOp .Eq) (rEqO C sp) := by
  intro pins s σ H x y v u Q I rx ry hq
  obtain ⟨a, b, dx, dy, fs, gs, rfl, rfl, ha, hb', q⟩ := hq
  cases (show v = Value.ref a from rx)
  cases (show u = Value.ref b from ry)
  obtain ⟨mA, J, _⟩ := ins_get I.hok ha
  obtain ⟨mB, J', _⟩ := ins_get I.hok hb'
  obtain ⟨od, J, _⟩ := J.look
  obtain ⟨od', J', _⟩ := J'.look
  obtain ⟨m, hF⟩ := I.fr
  show wpAny (model X.prog X.w) X.A (richCompare .Eq (.ref a) (.ref b)) (EP X pins σ Q) X.xe s
  refine PySem.W.cmp_K (op := .Eq) (tb := .ref C) (by have := hr.un; omega) hF I.ok.mod.kin J J'.type (by simp [PySem.W.notFirst]) hm.at_ hm.fn ?_
  have hl := F.len _ _ _ _ q
  have r2 : Vals [V.ref a, V.ref b] [Value.ref a, Value.ref b] := .cons rfl (.cons rfl .nil)
  refine wpAny_call (codeAny_mono (F.run X.A X.stack s H ⟨[.ref a, .ref b], []⟩ [.ref a, .ref b] [.ref a, .ref b] _ L2.E0 gu (hr.mono (Nat.le_succ _)) I.env0 (by
    have := hb s [.ref a, .ref b] I.kIn (by simpa using hl)
    simpa using this) r2 q) fun r s' hq => ?_)
  cases r with
  | error e => exact hq.elim
  | ok fl =>
    cases fl with
    | ret w =>
      obtain ⟨z, H', I', rz, b, ez, q3⟩ := I.after hq
      subst ez
      cases (show w = Value.bool b from rz)
      exact ⟨.bl b, H', I', rfl, q3⟩
    | next => exact False.elim hq
    | brk => exact False.elim hq
    | cont => exact False.elim hq
end
section
variable {R : RS} {cls : Str → Addr} {Γ : Gm R.S} {X : Cx}
theorem md_mthK {f : Nat} {b : Bool} {cl m : Str} {a : IE} {ks : List IE} {perm : List Nat} : md (.mthK f b cl m a ks perm) = frM b := by cases b <;> rfl
theorem perm_len {α : Type} {ds : List α} : ∀ perm : List Nat, perm.all (fun i => decide (i < ds.length)) = true → (perm.filterMap fun i => ds[i]?).length = perm.length
  | [], _ => rfl
  | i :: r, hh => by
    rw [List.all_cons, Bool.and_eq_true] at hh
    have hi : i < ds.length := of_decide_eq_true hh.1
    rw [List.filterMap_cons, List.getElem?_eq_getElem hi]
    simp [perm_len r hh.2]
theorem se_mthK {o : Expr} {kws : List Keyword} {ie : IE} {ks : List IE} {f : Nat} {m : Str} {sg : Sig} {perm : List Nat} {F : List D → M R.S D} {apos pos : Pos} {pl : Sem Bool} (hkd : sg.kd = .mth) (hF : MthK R cls X m sg F (kws.filterMap (·.1)) perm) (hΓ : Γ.fns[f]? = some F)
    (h0 : SE R cls Γ X o ie) (hm0 : md ie ≠ .bor) (h : SK R cls Γ X kws ks) (hk : kws.all (fun k => k.1.isSome) = true) (hm : lbAll ks = true) (hl : perm.all (fun i => decide (i < ks.length)) = true) (hsl : sg.lend.length = perm.length + 1) (hkl : ks.length = (kws.filterMap (·.1)).length)
    (ht : eval (.Call (.Attribute o m apos) [] kws pos) X.env = (do
      let ov ← eval o X.env
      standAt apos.atName
      let (f, first) ← holding [ov] (getMethod ov m pl)
      callWith pos f first (backTo pos (starEach [] X.env)) (backToKw pos (keywordEach kws X.env)))) : SE R cls Γ X (.Call (.Attribute o m apos) [] kws pos) (.mthK f sg.fr sg.cl m ie ks perm) := by
  obtain ⟨k0, fa, fd, ps, e1, e2, e3, e4, e5, e6⟩ := hF.ex hkd
  obtain ⟨t0, p0, q0⟩ := h0
  obtain ⟨t, pa, q⟩ := h
  obtain ⟨b1, b2, b3⟩ := kw_all (pos := pos) (env := X.env) hk
  refine ⟨_, pe_methKG p0 e1 e2 e4 e6 e5 e3 pa b1 b3 (by rw [b2]; rfl) ht, fun σ H Q g A0 env s k o h => ?_⟩
  rw [md_mthK] at h
  unfold ev callF at h
  rw [hΓ] at h
  refine SE.bindE q0 k o h fun d s1 v H1 x1 o1 r1 k1 h => ?_
  split at h
  · rename_i hi
    obtain ⟨fs, rfl, hlk⟩ := insM_of hi
    obtain ⟨a, dx, gs, z1, z2, z3⟩ := (r1.lb k.gA k.trA).ins
    refine ⟨a, dx, gs, z1, z2, (Rpf.look z3).2 hlk, ?_⟩
    refine SA.bindE q k1 o1 h fun ds s2 vs H2 x2 o2 r2 k2 h => ?_
    have l := r2.length
    refine ⟨by rw [l.2]; exact hkl, ?_⟩
    refine ⟨g, Av A0 env σ, _, s2, k2.trA, fun a ha => k.gA a ha, o2, ?_, h.from (x1.trans x2) k2.gTr⟩
    have rp := Rms.rps (fun e he => of_decide_eq_true (List.all_eq_true.mp hm e he)) r2
    have rself : Rp (rc cls X g) (Av A0 env σ) H2 (.ins sg.cl fs) (.ref a) := by
      rw [← z1]
      exact (r1.rp hm0 k.trA).ext x2 k.gA
    refine args_rps (Rps.cons rself (rps_perm rp perm)) ?_
    rw [List.length_cons, perm_len perm (by rw [l.1]; exact hl), hsl]
  · exact h.elim
/-- len(o) -/
theorem se_lenO {x : Str} {p pos : Pos} {e : Expr} {ie : IE} {f : Nat} {sg : Sig} {F : List D → M R.S D} (hkd : sg.kd = .mth) (hF : MthAt R cls X "__len__" sg F) (hΓ : Γ.fns[f]? = some F) (hfr : sg.fr = false) (hx : x = "len") (hg : Gl X x) (hm : X.mg x = none) (hn : x ≠ "__name__") (hdb : (x == ("__debug__" : Str)) = false)
    (h0 : SE R cls Γ X e ie) (hm0 : md ie ≠ .bor) (hl : lendOk sg.lend [ie] = true) (hs : noStar e = true) : SE R cls Γ X (.Call (.Name x p) [e] [] pos) (.lenO f sg.cl ie) := by
  obtain ⟨k0, fa, fd, ps, e1, e2, e3, e4, e5, e6⟩ := hF.ex hkd
  obtain ⟨t0, p0, q0⟩ := h0
  subst hx
  refine ⟨_, pe_callB (call_lenO e2 e4 e6 e5 e3) hg hm (by decide +kernel) (pa_cons p0 pa_nil (star_cons hs)) hn hdb (star_cons hs) rfl, fun σ H Q g A0 env s k o h => ?_⟩
  have h : PostE R .rp (rc cls X g) (Av A0 env σ) H (ev Γ (.lenO f sg.cl ie) env s) Q := h
  unfold ev callF at h
  rw [hΓ] at h
  refine SE.bindE q0 k o h fun d s1 v H1 x1 o1 r1 k1 h => ?_
  split at h
  · rename_i hi
    obtain ⟨fs, rfl⟩ := insC_of hi
    obtain ⟨a, dx, gs, z1, z2, z3⟩ := (r1.lb k.gA k.trA).ins
    subst z1
    refine ⟨a, dx, gs, rfl, z2, ?_⟩
    refine ⟨g, Av A0 env σ, [.ins sg.cl fs], s1, k1.trA, fun a ha => k.gA a ha, o1, ?_, ?_⟩
    · refine Rms.args (es := [ie]) (H0 := H1) hl ⟨_, _, _, _, rfl, rfl, ?_, rfl, rfl⟩
      rw [if_neg hm0]
      exact r1.rp hm0 k.trA
    · rw [hfr]
      rw [bind_def] at h
      dsimp only at h
      show PostE R .rp (rc cls X g) (Av A0 env σ) H1 (F [.ins sg.cl fs] s1) _
      cases q : F [.ins sg.cl fs] s1 with
      | bad => rw [q] at h; exact h
      | er _ _ _ => rw [q] at h; exact h
      | ok r s2 =>
        rw [q] at h
        dsimp only at h
        intro w H2 x2 o2 r2
        cases r with
        | int n =>
          by_cases hn : 0 ≤ n ∧ n < 2 ^ 63
          · have h : PostE R .rp (rc cls X g) (Av A0 env σ) H ((if 0 ≤ n ∧ n < 2 ^ 63 then pure (.int n) else bad : M R.S D) s2) Q := h
            rw [if_pos hn] at h
            exact ⟨n, r2, hn, h _ H2 (x1.trans x2) o2 rfl⟩
          · have h : PostE R .rp (rc cls X g) (Av A0 env σ) H ((if 0 ≤ n ∧ n < 2 ^ 63 then pure (.int n) else bad : M R.S D) s2) Q := h
            rw [if_neg hn] at h
            exact h.elim
        | _ => exact h.elim
  · exact h.elim
/-- a == b -/
theorem eqO_end {sg : Sig} {F : List D → M R.S D} {ia ib : IE} {σ : L2.St} {H H1 H2 : Hp} {g : List Addr} {A0 : Addr → Prop} {env : IEnv} {s2 : R.S} {d e : D} {v w : V} {Q : VK} (hfr : sg.fr = false) (hl : lendOk sg.lend [ia, ib] = true) (ma : md ia ≠ .bor) (mb : md ib ≠ .bor)
    (k : EnvOk (rc cls X g) A0 H σ env) (k1 : EnvOk (rc cls X g) A0 H1 σ env) (k2 : EnvOk (rc cls X g) A0 H2 σ env) (x1 : Ext (Gv (rc cls X g)) H H1) (x2 : Ext (Gv (rc cls X g)) H1 H2) (o2 : R.ok g s2 H2)
    (r1 : Rm (md ia) (rc cls X g) (Av A0 env σ) H H1 d v) (r2 : Rm (md ib) (rc cls X g) (Av A0 env σ) H1 H2 e w) (i1 : insC sg.cl d = true) (i2 : insC sg.cl e = true)
    (h : ∀ z s3 H3, F [d, e] s2 = .ok (.bl z) s3 → Ext (Gv (rc cls X g)) H H3 → R.ok g s3 H3 → Q (.bl z) H3) (hn : ∃ z s3, F [d, e] s2 = .ok (.bl z) s3) : rEqO (cls sg.cl) (spF R X.K cls sg F) v w H2 Q := by
  obtain ⟨fs, rfl⟩ := insC_of i1
  obtain ⟨gs, rfl⟩ := insC_of i2
  obtain ⟨a, dx, fs', z1, z2, z3⟩ := ((r1.lb k.gA k.trA).mono x2 k.gA).ins
  obtain ⟨b, dy, gs', y1, y2, y3⟩ := (r2.lb k1.gA k1.trA).ins
  subst z1 y1
  refine ⟨a, b, dx, dy, fs', gs', rfl, rfl, z2, y2, ?_⟩
  refine ⟨g, Av A0 env σ, [.ins sg.cl fs, .ins sg.cl gs], s2, k2.trA, fun a ha => k.gA a ha, o2, ?_, ?_⟩
  · refine Rms.args (es := [ia, ib]) (H0 := H2) hl ⟨_, _, _, _, rfl, rfl, ?_, _, _, _, _, rfl, rfl, ?_, rfl, rfl⟩
    · rw [if_neg ma]
      exact (r1.rp ma k.trA).ext x2 k.gA
    · rw [if_neg mb]
      exact r2.rp mb k1.trA
  · obtain ⟨z, s3, q⟩ := hn
    rw [hfr, q]
    intro u H3 x3 o3 r3
    exact ⟨z, r3, h z s3 H3 q ((x1.trans x2).trans x3) o3⟩
theorem se_eqO {a b : Expr} {ia ib : IE} {pos : Pos} {f : Nat} {sg : Sig} {F : List D → M R.S D} (hkd : sg.kd = .mth) (hF : MthAt R cls X "__eq__" sg F) (hΓ : Γ.fns[f]? = some F) (hfr : sg.fr = false) (hb : behindInMarks .Eq b = false)
    (h1 : SE R cls Γ X a ia) (h2 : SE R cls Γ X b ib) (ma : md ia ≠ .bor) (mb : md ib ≠ .bor) (hl : lendOk sg.lend [ia, ib] = true) : SE R cls Γ X (.Compare a [.Eq] [b] pos) (.eqO f sg.cl ia ib) := by
  obtain ⟨k0, fa, fd, ps, e1, e2, e3, e4, e5, e6⟩ := hF.ex hkd
  obtain ⟨t1, p1, q1⟩ := h1
  obtain ⟨t2, p2, q2⟩ := h2
  refine ⟨_, pe_cmpR (op_eqO e2 e4 e6 e5 e3) p1 p2 hb, fun σ H Q g A0 env s k o h => ?_⟩
  unfold ev callF at h
  rw [hΓ] at h
  refine SE.bindE q1 k o h fun d s1 v H1 x1 o1 r1 k1 h => ?_
  refine SE.bindE q2 k1 o1 h fun e s2 w H2 x2 o2 r2 k2 h => ?_
  split at h
  · rename_i hi
    cases q : F [d, e] s2 with
    | bad => simp only [bind_def, q] at h; exact h.elim
    | er _ _ _ => simp only [bind_def, q] at h; exact h.elim
    | ok r s3 =>
      cases r with
      | bl z =>
        have h : PostE R .rp (rc cls X g) (Av A0 env σ) H (.ok (.bl z) s3) Q := by
          simp only [bind_def, q] at h
          exact h
        exact eqO_end hfr hl ma mb k k1 k2 x1 x2 o2 r1 r2 hi.1 hi.2 (fun z' s3' H3 e x o => by rw [q] at e; cases e; exact h _ H3 x o rfl) ⟨z, s3, q⟩
      | _ => simp only [bind_def, q] at h; exact h.elim
  · exact h.elim
theorem st_eqO {a b : Expr} {ia ib : IE} {pos : Pos} {f : Nat} {sg : Sig} {F : List D → M R.S D} (hkd : sg.kd = .mth) (hF : MthAt R cls X "__eq__" sg F) (hΓ : Γ.fns[f]? = some F) (hfr : sg.fr = false) (hb : behindInMarks .Eq b = false)
    (h1 : SE R cls Γ X a ia) (h2 : SE R cls Γ X b ib) (ma : md ia ≠ .bor) (mb : md ib ≠ .bor) (hl : lendOk sg.lend [ia, ib] = true) : ST R cls Γ X (.Compare a [.Eq] [b] pos) (.eqO f sg.cl ia ib) := by
  obtain ⟨k0, fa, fd, ps, e1, e2, e3, e4, e5, e6⟩ := hF.ex hkd
  obtain ⟨t1, p1, q1⟩ := h1
  obtain ⟨t2, p2, q2⟩ := h2
  refine ⟨_, pt_cmpR (op_eqO e2 e4 e6 e5 e3) p1 p2 hb, fun σ H Q g A0 env s k o h => ?_⟩
  unfold ev callF at h
  rw [hΓ] at h
  simp only [bind_assoc'] at h
  refine SE.bindT q1 k o h fun d s1 v H1 x1 o1 r1 k1 h => ?_
  refine SE.bindT q2 k1 o1 h fun e s2 w H2 x2 o2 r2 k2 h => ?_
  by_cases hi : insC sg.cl d = true ∧ insC sg.cl e = true
  · rw [if_pos hi] at h
    cases q : F [d, e] s2 with
    | bad => simp only [bind_def, q] at h; exact h.elim
    | er _ _ _ => simp only [bind_def, q] at h; exact h.elim
    | ok r s3 =>
      cases r with
      | bl z =>
        have h : PostT R (rc cls X g) H (.ok z s3) Q := by
          simp only [bind_def, q] at h
          exact h
        exact eqO_end hfr hl ma mb k k1 k2 x1 x2 o2 r1 r2 hi.1 hi.2 (fun z' s3' H3 e x o => by rw [q] at e; cases e; exact ⟨_, rfl, h H3 x o⟩) ⟨z, s3, q⟩
      | _ => simp only [bind_def, q] at h; exact h.elim
  · rw [if_neg hi] at h
    exact h.elim
/-! ### starred items -/
def PostZ (R : RS) (st : List Bool) (c : Rc) (A : Addr → Prop) (H : Hp) (r : Res R.S (List D)) (Q : List V → Hp → Prop) : Prop := match r with
  | .ok ds s => (match spread st ds with
    | some l => ∀ vs H', Ext (Gv c) H H' → R.ok c.g s H' → Rps c A H' l vs → Q vs H'
    | none => False)
  | _ => False
def SZ (R : RS) (cls : Str → Addr) (Γ : Gm R.S) (X : Cx) (es : List Expr) (ies : List IE) (st : List Bool) : Prop :=
  ∃ t, PA X es t ∧ ∀ σ H Q g A0 env s, EnvOk (rc cls X g) A0 H σ env → R.ok g s H → PostZ R st (rc cls X g) (Av A0 env σ) H (evs Γ ies env s) Q → t σ H Q
theorem sz_nil : SZ R cls Γ X [] [] [] := ⟨tNil, pa_nil, fun σ H Q g A0 env s k o h => h [] H Ext.refl o rfl⟩
theorem sz_plain {e : Expr} {es : List Expr} {ie : IE} {ies : List IE} {st : List Bool} (h1 : SE R cls Γ X e ie) (hm : md ie ≠ .bor) (h2 : SZ R cls Γ X es ies st) (hs : starEach (e :: es) X.env = (false, eval e X.env) :: starEach es X.env) : SZ R cls Γ X (e :: es) (ie :: ies) (false :: st) := by
  obtain ⟨t1, p1, q1⟩ := h1
  obtain ⟨t2, p2, q2⟩ := h2
  refine ⟨tCons t1 t2, pa_cons p1 p2 hs, fun σ H Q g A0 env s k o h => ?_⟩
  refine q1 σ H _ g A0 env s k o ?_
  unfold evs at h
  rw [bind_def] at h
  cases q : ev Γ ie env s with
  | bad => rw [q] at h; exact h
  | er a b c => rw [q] at h; exact h
  | ok d s1 =>
    rw [q] at h
    dsimp only at h
    intro v H1 x1 o1 r1
    refine q2 σ H1 _ g A0 env s1 (k.next x1 o1) o1 ?_
    rw [bind_def] at h
    cases q' : evs Γ ies env s1 with
    | bad => rw [q'] at h; exact h
    | er a b c => rw [q'] at h; exact h
    | ok ds s2 =>
      rw [q'] at h
      have h : (match (spread st ds).map (d :: ·) with
        | some l => ∀ vs H', Ext (Gv (rc cls X g)) H H' → R.ok g s2 H' → Rps (rc cls X g) (Av A0 env σ) H' l vs → Q vs H'
        | none => False) := h
      show (match spread st ds with
        | some l => ∀ vs H', Ext (Gv (rc cls X g)) H1 H' → R.ok g s2 H' → Rps (rc cls X g) (Av A0 env σ) H' l vs → Q (v :: vs) H'
        | none => False)
      cases z : spread st ds with
      | none => rw [z] at h; exact h
      | some l =>
        rw [z] at h
        intro vs H2 x2 o2 r2
        exact h (v :: vs) H2 (x1.trans x2) o2 (Rps.cons ((r1.rp hm k.trA).ext x2 k.gA) r2)
theorem sz_star {e : Expr} {es : List Expr} {ie : IE} {ies : List IE} {st : List Bool} {p : Pos} (h1 : SE R cls Γ X e ie) (hm : md ie ≠ .bor) (h2 : SZ R cls Γ X es ies st) : SZ R cls Γ X (.Starred e p :: es) (ie :: ies) (true :: st) := by
  obtain ⟨t1, p1, q1⟩ := h1
  obtain ⟨t2, p2, q2⟩ := h2
  refine ⟨StX.tStar X.K t1 t2, StX.pa_star p1 p2, fun σ H Q g A0 env s k o h => ?_⟩
  refine q1 σ H _ g A0 env s k o ?_
  unfold evs at h
  rw [bind_def] at h
  cases q : ev Γ ie env s with
  | bad => rw [q] at h; exact h
  | er a b c => rw [q] at h; exact h
  | ok d s1 =>
    rw [q] at h
    dsimp only at h
    intro v H1 x1 o1 r1
    have rp := r1.rp hm k.trA
    have key : ∀ l0 : List D, (∃ a xs, v = .ref a ∧ (SqT X.K H1 a xs ∨ SqL X.K H1 a xs) ∧ Rps (rc cls X g) (Av A0 env σ) H1 l0 xs) → (∀ ds, spread (true :: st) (d :: ds) = (spread st ds).map (l0 ++ ·)) →
        ∃ p xs, v = V.ref p ∧ (SqT X.K H1 p xs ∨ SqL X.K H1 p xs) ∧ t2 σ H1 fun ys H2 => Q (xs ++ ys) H2 := fun l0 ⟨a, xs, e1, e2, e3⟩ hsp => by
      refine ⟨a, xs, e1, e2, ?_⟩
      refine q2 σ H1 _ g A0 env s1 (k.next x1 o1) o1 ?_
      rw [bind_def] at h
      cases q' : evs Γ ies env s1 with
      | bad => rw [q'] at h; exact h
      | er a b c => rw [q'] at h; exact h
      | ok ds s2 =>
        rw [q'] at h
        have h : (match spread (true :: st) (d :: ds) with
          | some l => ∀ vs H', Ext (Gv (rc cls X g)) H H' → R.ok g s2 H' → Rps (rc cls X g) (Av A0 env σ) H' l vs → Q vs H'
          | none => False) := h
        rw [hsp] at h
        show (match spread st ds with
          | some l => ∀ vs H', Ext (Gv (rc cls X g)) H1 H' → R.ok g s2 H' → Rps (rc cls X g) (Av A0 env σ) H' l vs → Q (xs ++ vs) H'
          | none => False)
        cases z : spread st ds with
        | none => rw [z] at h; exact h
        | some l =>
          rw [z] at h
          intro vs H2 x2 o2 r2
          exact h (xs ++ vs) H2 (x1.trans x2) o2 ((e3.ext x2 k.gA).append r2)
    cases d with
    | lst l0 =>
      obtain ⟨a, xs, e1, e2, _, _, e3⟩ := rp
      exact key l0 ⟨a, xs, e1, .inr (.inl (.inl e2)), e3⟩ fun ds => rfl
    | tup l0 =>
      obtain ⟨a, xs, e1, e2, e3⟩ := rp
      exact key l0 ⟨a, xs, e1, .inl e2, e3⟩ fun ds => rfl
    | _ =>
      exfalso
      rw [bind_def] at h
      cases q' : evs Γ ies env s1 with
      | bad => rw [q'] at h; exact h
      | er a b c => rw [q'] at h; exact h
      | ok ds s2 => rw [q'] at h; exact h
theorem spreadOk_some {st : List Bool} {ds l : List D} (h : spreadOk st ds = some l) : spread st ds = some l ∧ l.length ≤ sizeLine := by
  unfold spreadOk at h
  cases z : spread st ds with
  | none => rw [z] at h; cases h
  | some m =>
    rw [z] at h
    have h : (if m.length ≤ sizeLine then some m else none) = some l := h
    split at h
    · cases h
      rename_i c
      exact ⟨rfl, c⟩
    · cases h
theorem se_lstS {es : List Expr} {ies : List IE} {st : List Bool} {pos : Pos} (h : SZ R cls Γ X es ies st) : SE R cls Γ X (.List es pos) (.lstS st ies) := by
  obtain ⟨t, p, q⟩ := h
  refine ⟨_, pe_lst p, fun σ H Q g A0 env s k o h => ?_⟩
  have h : PostE R .fr (rc cls X g) (Av A0 env σ) H (ev Γ (.lstS st ies) env s) Q := h
  unfold ev at h
  rw [bind_def] at h
  refine q σ H _ g A0 env s k o ?_
  cases q' : evs Γ ies env s with
  | bad => rw [q'] at h; exact h
  | er a b c => rw [q'] at h; exact h
  | ok ds s1 =>
    rw [q'] at h
    obtain ⟨l, hl, h⟩ := opt_ofE h
    obtain ⟨h1, h2⟩ := spreadOk_some hl
    show (match spread st ds with
      | some l => ∀ vs H', Ext (Gv (rc cls X g)) H H' → R.ok g s1 H' → Rps (rc cls X g) (Av A0 env σ) H' l vs → _
      | none => False)
    rw [h1]
    intro vs H1 x1 o1 r1
    have k1 := k.next x1 o1
    refine ⟨by rw [r1.length]; exact h2, fun p hp => ?_⟩
    have x2 : Ext (Gv (rc cls X g)) H1 (upd H1 p (.lst vs)) := Ext.new hp
    exact h _ _ (x1.trans x2) (R.new o1 hp) (.inr ⟨p, rfl, x1.back k1.gTr hp, vs, upd_same, h2, (r1.plus hp).ext x2 fun a h => .inl (k.gA a h)⟩)
theorem se_tupS {es : List Expr} {ies : List IE} {st : List Bool} {x1 : Nat} {pos : Pos} (h : SZ R cls Γ X es ies st) : SE R cls Γ X (.Tuple es x1 pos) (.tupS st ies) := by
  obtain ⟨t, p, q⟩ := h
  refine ⟨_, pe_tup p, fun σ H Q g A0 env s k o h => ?_⟩
  have h : PostE R .rp (rc cls X g) (Av A0 env σ) H (ev Γ (.tupS st ies) env s) Q := h
  unfold ev at h
  rw [bind_def] at h
  refine q σ H _ g A0 env s k o ?_
  cases q' : evs Γ ies env s with
  | bad => rw [q'] at h; exact h
  | er a b c => rw [q'] at h; exact h
  | ok ds s1 =>
    rw [q'] at h
    obtain ⟨l, hl, h⟩ := opt_ofE h
    obtain ⟨h1, h2⟩ := spreadOk_some hl
    show (match spread st ds with
      | some l => ∀ vs H', Ext (Gv (rc cls X g)) H H' → R.ok g s1 H' → Rps (rc cls X g) (Av A0 env σ) H' l vs → _
      | none => False)
    rw [h1]
    intro vs H1 x1 o1 r1
    refine ⟨by rw [r1.length]; exact h2, fun p hp => ?_⟩
    have x2 : Ext (Gv (rc cls X g)) H1 (upd H1 p (.tup vs)) := Ext.new hp
    exact h _ _ (x1.trans x2) (R.new o1 hp) ⟨p, vs, rfl, .inl (.inl upd_same), r1.ext x2 k.gA⟩
/-! ### isinstance(x, C) -/
def isiTys : List String := ["NoneType", "bool", "int", "str", "list", "tuple", "dict"]
structure IsiC (K : PySem.W.Frag) (C : Addr) : Prop where
  cl : Cls K C
  ha : PySem.W.findIn K (.ref C) "__class__" = some (some (.builtin "object.__class__"))
  hn : PySem.W.specialIn K (.builtin "object.__class__") "__get__" = some (some (.builtin "getset_descriptor.__get__"))
  htk : PySem.W.takesIn K (.builtin "object.__class__") = some true
  hm : PySem.W.mroIn K C (.type "object") = some true
  kt : PySem.W.kitOne K (.ref C) (.ref C) = some true
  kf : ∀ n ∈ isiTys, PySem.W.kitOne K (.type n) (.ref C) = some false
theorem isi_ty {c : Rc} {A : Addr → Prop} {H : Hp} {n : Str} {d : D} {v : V} {b : Bool} (I : IsiC c.K (c.cls n)) (h : Lb c A H d v) (e : isiD n d = some b) : ∃ t, TyX c.K H v t ∧ PySem.W.kitOne c.K t (.ref (c.cls n)) = some b := by
  cases d with
  | non => cases e; cases (show v = .non from h.flat rfl); exact ⟨_, .base .non, I.kf _ (by decide)⟩
  | bl x => cases e; cases (show v = .bl x from h.flat rfl); exact ⟨_, .base (.bl x), I.kf _ (by decide)⟩
  | int x => cases e; cases (show v = .int x from h.flat rfl); exact ⟨_, .base (.int x), I.kf _ (by decide)⟩
  | str x => cases e; cases (show v = .str x from h.flat rfl); exact ⟨_, .base (.str x), I.kf _ (by decide)⟩
  | tup l =>
    cases e
    obtain ⟨a, xs, rfl, h2, _⟩ := h.tup
    refine ⟨.type "tuple", ?_, I.kf _ (by decide)⟩
    rcases h2 with (h2 | ⟨o, h2⟩) | ⟨o, its, n, h2, h3, _⟩
    · exact .base (.tup h2)
    · exact .fTuple h2
    · exact .kTuple h2 h3
  | lst l =>
    cases e
    rcases h with ⟨a, xs, rfl, h2, _⟩ | ⟨a, rfl, _, xs, h2, _⟩
    · exact ⟨.type "list", .base (.lst h2), I.kf _ (by decide)⟩
    · exact ⟨.type "list", .base (.lst h2), I.kf _ (by decide)⟩
  | dct l =>
    cases e
    rcases h with ⟨a, xs, rfl, h2, _⟩ | ⟨a, rfl, _, xs, h2, _⟩
    · rcases h2 with h2 | ⟨o, h2⟩
      · exact ⟨.type "dict", .base (.dK h2), I.kf _ (by decide)⟩
      · exact ⟨.type "dict", .fDict h2, I.kf _ (by decide)⟩
    · exact ⟨.type "dict", .base (.dK h2), I.kf _ (by decide)⟩
  | ins m fs =>
    have e2 : (if m = n then some true else none) = some b := e
    clear e
    by_cases hm : m = n
    · rw [if_pos hm] at e2
      subst hm
      have e : true = b := Option.some.inj e2
      subst e
      obtain ⟨a, dx, gs, rfl, h2, _⟩ := h.ins
      exact ⟨_, .base (.ins h2 I.cl I.ha I.hn I.htk I.hm), I.kt⟩
    · rw [if_neg hm] at e2
      cases e2
  | rng => cases e
  | scr ns => cases e
theorem se_isi {x y : Str} {p p2 pos : Pos} {e : Expr} {ie : IE} (I : IsiC X.K (cls y)) (hx : x = "isinstance") (hg : Gl X x) (hm : X.mg x = none) (hn : x ≠ "__name__") (hdb : (x == ("__debug__" : Str)) = false) (hgy : Gl X y) (hmy : X.mg y = some (.ref (cls y))) (hdy : (y == ("__debug__" : Str)) = false)
    (h0 : SE R cls Γ X e ie) (hs : noStar e = true) : SE R cls Γ X (.Call (.Name x p) [e, .Name y p2] [] pos) (.isi ie y) := by
  obtain ⟨t0, p0, q0⟩ := h0
  subst hx
  have py : PE X (.Name y p2) (tC (.ref (cls y))) := pe_glob hgy hmy rfl hdy
  refine ⟨_, pe_callB call_isi hg hm (by decide +kernel) (pa_cons p0 (pa_cons py pa_nil (star_cons rfl)) (star_cons hs)) hn hdb (star_cons hs) (spl rfl), fun σ H Q g A0 env s k o h => ?_⟩
  have h : PostE R .rp (rc cls X g) (Av A0 env σ) H (ev Γ (.isi ie y) env s) Q := h
  unfold ev at h
  refine SE.bindE q0 k o h fun d s1 v H1 x1 o1 r1 k1 h => ?_
  obtain ⟨b, hb, h⟩ := opt_ofE h
  obtain ⟨t, ty, kt⟩ := isi_ty (c := rc cls X g) I (r1.lb k.gA k.trA) hb
  exact ⟨v, .ref (cls y), t, .ref (cls y), b, rfl, .own _, ty, kt, h _ H1 x1 o1 rfl⟩
end
end Pv
end
section
set_option maxHeartbeats 200000
namespace Pv
open PySem PySem.Spec PyProof.Rows L2

/-! ### which term of the inner language stands for which expression -/
structure CC where
  N : List Str
  sc : Scope
  fns : List (Str × Sig)
  kws : List (Nat × List Str × List Nat) := []
  cons : List Str
  free : List Str
  flds : List (Str × Str) := []
  isi : List Str := []
def visB (sc : Scope) (x : Str) : Bool := match sc.names.lookup x with
  | some .local => true
  | some .cell => true
  | some .free => true
  | _ => false
def gloB (sc : Scope) (x : Str) : Bool := match sc.names.lookup x with
  | some .globalImplicit => !(x == ("__debug__" : Str))
  | _ => false
def nmOk (C : CC) (i : Nat) (x : Str) : Bool := decide (C.N[i]? = some x) && (visB C.sc x && (!(x == ("__debug__" : Str)) && !(x == ("__classdict__" : Str))))
def tOk : IE → Bool
  | .ite _ _ _ => false
  | .not a => tOk a
  | .and a b => tOk a && tOk b
  | .or a b => tOk a && tOk b
  | _ => true
def plainIx (e : Expr) : Bool := match e with
  | .Slice .. => false
  | _ => true
def notSet (e : Expr) : Bool := match e with
  | .Set .. => false
  | _ => true
def binMd : Operator → Option Md
  | .Add => some .fr
  | .Sub => some .rp
  | .Mult => some .rp
  | .FloorDiv => some .rp
  | .Mod => some .rp
  | .Pow => some .rp
  | _ => none
def cmpOk : CmpOp → Bool := fun _ => true
def freeOk (C : CC) (x : Str) : Bool := gloB C.sc x && (decide (x ∈ C.free) && !(x == ("__name__" : Str)))
def biNm : Bi → Str
  | .sorted => "sorted" | .dict => "dict" | .len => "len" | .int => "int" | .abs => "abs" | .max => "max" | .min => "min" | .list => "list" | .tuple => "tuple" | .all => "all" | .repr => "repr"
/-- not a call of super() -/
def notSup : Expr → Bool
  | .Call (.Name _ _) [] [] _ => false
  | _ => true
def isTupE : Expr → Bool
  | .Tuple _ _ _ => true
  | _ => false
/-- the block's own names -/
def locIn (sc C : Scope) (x : Str) : Bool := decide ((relS sc C).names.lookup x = some .local)
def tgOwn (N : List Str) (tg : Tg) : List (Str × Nat) := tg.slots.map fun i => ((N[i]?).getD "", i)
def isZ : IE → Bool
  | .cst (.int 0) => true
  | _ => false
def isY : IE → Bool
  | .cst (.bl true) => true
  | _ => false
def enmOk (C : CC) (tgE it : Expr) (f : Expr → Bool) : Bool := match it with
  | .Call (.Name r _) [x] [] _ => isTupE tgE && (decide (r = "enumerate") && (freeOk C r && (noStar x && f x)))
  | _ => false
def zipOk (C : CC) (tgE it : Expr) (f g : Expr → Bool) : Bool := match it with
  | .Call (.Name r _) [x, y] [] _ => isTupE tgE && (decide (r = "zip") && (freeOk C r && (noStar x && (noStar y && (f x && g y)))))
  | _ => false
mutual
def chk (C : CC) : IE → Expr → Bool
  | .var i, e => (match e with | .Name x _ => nmOk C i x | _ => false)
  | .bor i, e => (match e with | .Name x _ => nmOk C i x | _ => false)
  | .cst d, e => (match e, d with
    | .Constant .none _ _, .non => true
    | .Constant (.bool b) _ _, .bl c => b == c
    | .Constant (.int i) _ _, .int j => decide (i = j)
    | .Constant (.str x) _ _, .str y => decide (x = y)
    | _, _ => false)
  | .glb k, e => (match e with | .Name x _ => gloB C.sc x && decide (C.cons[k]? = some x) | _ => false)
  | .neg a, e => (match e with | .UnaryOp .USub x _ => chk C a x | _ => false)
  | .not a, e => (match e with | .UnaryOp .Not x _ => chk C a x | _ => false)
  | .bin o a b, e => (match e with | .BinOp x p y _ => decide (o = p) && ((binMd o).isSome && (chk C a x && chk C b y)) | _ => false)
  | .cmp o a b, e => (match e with | .Compare x [p] [y] _ => decide (o = p) && (!behindInMarks o y && (chk C a x && chk C b y)) | _ => false)
  | .chn o1 o2 a b c, e => (match e with | .Compare x [p1, p2] [y, z] _ => decide (o1 = p1) && (decide (o2 = p2) && (!lastMarks [o1, o2] [y, z] && (chk C a x && (chk C b y && chk C c z)))) | _ => false)
  | .and a b, e => (match e with
    | .BoolOp .And [x, y] _ => decide (md b ≠ .bor) && (chk C a x && chk C b y)
    | .BoolOp .And (x :: y :: z :: r) p => decide (md b ≠ .bor) && (chk C a x && chk C b (.BoolOp .And (y :: z :: r) p))
    | _ => false)
  | .or a b, e => (match e with
    | .BoolOp .Or [x, y] _ => decide (md b ≠ .bor) && (chk C a x && chk C b y)
    | .BoolOp .Or (x :: y :: z :: r) p => decide (md b ≠ .bor) && (chk C a x && chk C b (.BoolOp .Or (y :: z :: r) p))
    | _ => false)
  | .ite c a b, e => (match e with | .IfExp x y z _ => tOk c && (decide (md a ≠ .bor) && (decide (md b ≠ .bor) && (chk C c x && (chk C a y && chk C b z)))) | _ => false)
  | .tup es, e => (match e with | .Tuple xs _ _ => decide (es.length ≤ 1000) && (lbAll es && chks C es xs) | _ => false)
  | .lst es, e => (match e with | .List xs _ => decide (es.length ≤ 1000) && (lbAll es && chks C es xs) | _ => false)
  | .idx a i, e => (match e with | .Subscript x y _ => plainIx y && (chk C a x && chk C i y) | _ => false)
  | .call f fr es, e => (match e with
    | .Call (.Name x _) (a :: as) [] _ => (match C.fns[f]? with | some (y, sg) => decide (x = y ∧ sg.kd = .fn) && (gloB C.sc x && (lendOk sg.lend es && ((fr == sg.fr) && chks C es (a :: as)))) | none => false)
    | _ => false)
  | .callK f fr es ks perm, e => (match es, e with
    | [], .Call (.Name x _) [] kws _ => (match C.fns[f]? with
      | some (y, sg) => decide (x = y ∧ sg.kd = .fn) && (gloB C.sc x && ((fr == sg.fr) && (decide ((f, kws.filterMap (·.1), perm) ∈ C.kws) && (kws.all (fun k => k.1.isSome) && (lbAll ks && (perm.all (fun i => decide (i < ks.length)) && (decide (sg.lend.length = perm.length) && (decide (ks.length = (kws.filterMap (·.1)).length) && chkk C ks kws))))))))
      | none => false)
    | _, _ => false)
  | .bi f es, e => (match e with
    | .Call (.Name x _) (a :: as) [] _ => decide (x = biNm f) && (true && (freeOk C x && chks C es (a :: as)))
    | _ => false)
  | .lc i src body, e => (match e with
    | .ListComp elt [⟨.Name x _, it, [], 0⟩] sc _ => decide (C.N[i]? = some x) && (blkC C.N C.sc sc [(x, i)] && (decide ((relS sc C.sc).names.lookup x = some .local) && (notSet it && (decide (md body ≠ .bor) && (chk C src it && chk { C with sc := relS sc C.sc } body elt)))))
    | _ => false)
  | .lci i src ic body, e => (match e with
    | .ListComp elt [⟨.Name x _, it, [cd], 0⟩] sc _ => decide (C.N[i]? = some x) && (blkC C.N C.sc sc [(x, i)] && (decide ((relS sc C.sc).names.lookup x = some .local) && (notSet it && (decide (md body ≠ .bor) && (tOk ic && (chk C src it && (chk { C with sc := relS sc C.sc } ic cd && chk { C with sc := relS sc C.sc } body elt)))))))
    | _ => false)
  | .lrng a b, e => (match e with
    | .Call (.Name f _) [.Call (.Name g _) [x, y] [] _] [] _ => decide (f = "list") && (decide (g = "range") && (freeOk C f && (freeOk C g && (noStar x && (noStar y && (chk C a x && chk C b y))))))
    | .Call (.Name f _) [.Call (.Name g _) [y] [] _] [] _ => decide (f = "list") && (decide (g = "range") && (freeOk C f && (freeOk C g && (isZ a && (noStar y && chk C b y)))))
    | _ => false)
  | .lcr i a b c body, e => (match e with
    | .ListComp elt [⟨.Name x _, .Call (.Name r _) args [] _, ifs, 0⟩] sc _ => decide (r = "range") && (freeOk C r && (decide (C.N[i]? = some x) && (blkC C.N C.sc sc [(x, i)] && (decide ((relS sc C.sc).names.lookup x = some .local) && (decide (md body ≠ .bor) && (chk { C with sc := relS sc C.sc } body elt && ((match args with
      | [e2] => isZ a && (noStar e2 && chk C b e2)
      | [e1, e2] => noStar e1 && (noStar e2 && (chk C a e1 && chk C b e2))
      | _ => false) && (match ifs with
      | [] => isY c
      | [cd] => tOk c && chk { C with sc := relS sc C.sc } c cd
      | _ => false))))))))
    | _ => false)
  | .slc bl bh a lo hi, e => (match e with
    | .Subscript x (.Slice el eh none _) _ => chk C a x && ((match el, bl with
      | none, false => true
      | some e, true => chk C lo e
      | _, _ => false) && (match eh, bh with
      | none, false => true
      | some e, true => chk C hi e
      | _, _ => false))
    | _ => false)
  | .enm _, _ => false
  | .chs _, _ => false
  | .zip _ _, _ => false
  | .lcg tg src ic body, e => (match e with
    | .ListComp elt [⟨tgE, it, ifs, 0⟩] sc _ => tgX (locIn sc C.sc) C.N tg tgE && (blkC C.N C.sc sc (tgOwn C.N tg) && (decide (md body ≠ .bor) && (chk { C with sc := relS sc C.sc } body elt && ((match ifs with
      | [] => isY ic
      | [cd] => tOk ic && chk { C with sc := relS sc C.sc } ic cd
      | _ => false) && (match src with
      | .chs s => notSet it && chk C s it
      | .enm s => enmOk C tgE it (fun x => chk C s x)
      | .zip a b => zipOk C tgE it (fun x => chk C a x) (fun x => chk C b x)
      | src => notSet it && chk C src it)))))
    | _ => false)
  | .dc tg src ik iv, e => (match e with
    | .DictComp kx vx [⟨tgE, it, [], 0⟩] sc _ => tgX (locIn sc C.sc) C.N tg tgE && (blkC C.N C.sc sc (tgOwn C.N tg) && (decide (md iv ≠ .bor) && (chk { C with sc := relS sc C.sc } ik kx && (chk { C with sc := relS sc C.sc } iv vx && (match src with
      | .chs s => notSet it && chk C s it
      | .enm s => enmOk C tgE it (fun x => chk C s x)
      | .zip a b => zipOk C tgE it (fun x => chk C a x) (fun x => chk C b x)
      | src => notSet it && chk C src it)))))
    | _ => false)
  | .fld c a n, e => (match e with | .Attribute x m _ => decide (m = n) && (decide ((c, n) ∈ C.flds) && (notSup x && chk C a x)) | _ => false)
  | .mth f fr cl m a es, e => (match e with
    | .Call (.Attribute o x apos) xs [] pos => (match C.fns[f]? with
      | some (y, sg) => decide (x = m ∧ m = y ∧ sg.kd = .mth ∧ sg.cl = cl ∧ xs.length < 30 ∧ apos.endLine = pos.line) && (decide (md a ≠ .bor) && (lendOk sg.lend (a :: es) && ((fr == sg.fr) && (notSup o && (chk C a o && chks C es xs)))))
      | none => false)
    | _ => false)
  | .mthK f fr cl m a ks perm, e => (match e with
    | .Call (.Attribute o x apos) [] kws pos => (match C.fns[f]? with
      | some (y, sg) => decide (x = m ∧ m = y ∧ sg.kd = .mth ∧ sg.cl = cl ∧ kws.length < 29 ∧ apos.endLine = pos.line) && (decide (md a ≠ .bor) && ((fr == sg.fr) && (notSup o && (decide ((f, kws.filterMap (·.1), perm) ∈ C.kws) && (kws.all (fun k => k.1.isSome) && (lbAll ks && (perm.all (fun i => decide (i < ks.length)) && (decide (sg.lend.length = perm.length + 1) && (decide (ks.length = (kws.filterMap (·.1)).length) && (chk C a o && chkk C ks kws))))))))))
      | none => false)
    | _ => false)
  | .prp f fr cl a, e => (match e with
    | .Attribute o x _ => (match C.fns[f]? with
      | some (y, sg) => decide (x = y ∧ sg.kd = .prp ∧ sg.cl = cl) && (decide (md a ≠ .bor) && (lendOk sg.lend [a] && ((fr == sg.fr) && (notSup o && chk C a o))))
      | none => false)
    | _ => false)
  | .ctor f es, e => (match e with
    | .Call (.Name x _) (a :: as) [] _ => (match C.fns[f]? with
      | some (y, sg) => decide (x = y ∧ sg.kd = .ini) && (gloB C.sc x && (lendOk sg.lend es && (lbAll es && chks C es (a :: as))))
      | none => false)
    | _ => false)
  | .ctorK _ _ _, _ => false
  | .lenO f cl a, e => (match e with
    | .Call (.Name x _) [b] [] _ => (match C.fns[f]? with
      | some (y, sg) => decide (x = "len" ∧ y = "__len__" ∧ sg.kd = .mth ∧ sg.cl = cl ∧ sg.fr = false) && (freeOk C x && (decide (md a ≠ .bor) && (lendOk sg.lend [a] && (noStar b && chk C a b))))
      | none => false)
    | _ => false)
  | .eqO f cl a b, e => (match e with
    | .Compare x [p] [y] _ => (match C.fns[f]? with
      | some (z, sg) => decide (p = .Eq) && (decide (z = "__eq__" ∧ sg.kd = .mth ∧ sg.cl = cl ∧ sg.fr = false) && (!behindInMarks .Eq y && (decide (md a ≠ .bor) && (decide (md b ≠ .bor) && (lendOk sg.lend [a, b] && (chk C a x && chk C b y))))))
      | none => false)
    | _ => false)
  | .rev a, e => (match e with
    | .Subscript x (.Slice none none (some (.UnaryOp .USub (.Constant (.int i) _ _) _)) _) _ => decide (i = 1) && chk C a x
    | _ => false)
  | .tupS st es, e => (match e with | .Tuple xs _ _ => lbAll es && chkz C es st xs | _ => false)
  | .lstS st es, e => (match e with | .List xs _ => lbAll es && chkz C es st xs | _ => false)
  | .dnew, e => (match e with | .Dict [] [] _ => true | _ => false)
  | .dlit _ _, _ => false
  | .dgt _ _ _, _ => false
  | .isi a c, e => (match e with
    | .Call (.Name x _) [b, .Name y _] [] _ => decide (x = "isinstance" ∧ y = c ∧ c ∈ C.isi) && (freeOk C x && (gloB C.sc y && (noStar b && chk C a b)))
    | _ => false)
def chks (C : CC) : List IE → List Expr → Bool
  | [], es => es.isEmpty
  | i :: is, es => (match es with | e :: es => noStar e && (chk C i e && chks C is es) | [] => false)
def chkz (C : CC) : List IE → List Bool → List Expr → Bool
  | [], st, es => st.isEmpty && es.isEmpty
  | i :: is, st, es => (match st, es with
    | true :: st, .Starred e _ :: es => chk C i e && chkz C is st es
    | false :: st, e :: es => noStar e && (chk C i e && chkz C is st es)
    | _, _ => false)
def chkk (C : CC) : List IE → List Keyword → Bool
  | [], es => es.isEmpty
  | i :: is, es => (match es with | ⟨_, e, _⟩ :: es => chk C i e && chkk C is es | [] => false)
end
end Pv
end
section
set_option maxHeartbeats 4000000
namespace Pv
open PySem PySem.Spec PyProof.Rows L2

/-- a def of any kind, as it stands in a body's context -/
structure AnyAt (R : RS) (cls : Str → Addr) (X : Cx) (x : Str) (sg : Sig) (F : List D → M R.S D) : Prop where
  mk ::
  fn : FnAt R cls X x sg F
  ini : IniAt R cls X x sg F
  mth : MthAt R cls X x sg F
  prp : PrpAt R cls X x sg F
structure XOk (R : RS) (cls : Str → Addr) (Γ : Gm R.S) (C : CC) (X : Cx) : Prop where
  N : X.N = C.N
  nd : X.N.Nodup
  sc : X.env.scope = C.sc
  calm : X.calm = true
  units : X.A.units + 64 < cLine
  guards : X.A.guards = some []
  free : ∀ x ∈ C.free, X.mg x = none
  fn : ∀ (i : Nat) (x : Str) (sg : Sig), C.fns[i]? = some (x, sg) → ∃ F, Γ.fns[i]? = some F ∧ AnyAt R cls X x sg F
  fld : ∀ c n, (c, n) ∈ C.flds → Cls X.K (cls c) ∧ NoAttr X.K (cls c) n
  kw : ∀ (i : Nat) (x : Str) (sg : Sig) (F : List D → M R.S D) (ks : List Str) (perm : List Nat), (i, ks, perm) ∈ C.kws → C.fns[i]? = some (x, sg) → Γ.fns[i]? = some F → KwOk R cls X x sg F 0 ks perm ∧ MthK R cls X x sg F ks perm
  isi : ∀ c ∈ C.isi, IsiC X.K (cls c) ∧ X.mg c = some (.ref (cls c))
  con : ∀ (i : Nat) (x : Str) (d : D), C.cons[i]? = some x → Γ.cons[i]? = some d → ∃ v u, X.mg x = some u ∧ RelV v u ∧ ∀ g A H, Rp (rc cls X g) A H d v
theorem XOk.blk {R : RS} {cls : Str → Addr} {Γ : Gm R.S} {C : CC} {X : Cx} (k : XOk R cls Γ C X) (scope : Scope) (s : Shared) (H : Hp) (c : Addr) (cl : List (Str × Addr)) (fp : List Addr) :
    XOk R cls Γ { C with sc := relS scope C.sc } (X.blk s H scope (compEnvC scope cl c X.env) fp) where
  N := k.N
  nd := k.nd
  sc := by
    show relS scope X.env.scope = relS scope C.sc
    rw [k.sc]
  calm := k.calm
  units := k.units
  guards := k.guards
  free := k.free
  fn := fun i x sg h => by
    obtain ⟨F, e, hF⟩ := k.fn i x sg h
    exact ⟨F, e, ⟨⟨hF.fn.ex⟩, ⟨hF.ini.ex⟩, ⟨hF.mth.ex⟩, ⟨hF.prp.ex⟩⟩⟩
  fld := k.fld
  kw := fun i x sg F ks perm h1 h2 h3 => ⟨⟨(k.kw i x sg F ks perm h1 h2 h3).1.ex⟩, ⟨(k.kw i x sg F ks perm h1 h2 h3).2.ex⟩⟩
  isi := k.isi
  con := k.con
theorem b2 {a b : Bool} (h : (a && b) = true) : a = true ∧ b = true := Bool.and_eq_true_iff.mp h
theorem dec {p : Prop} [Decidable p] (h : decide p = true) : p := of_decide_eq_true h
theorem vis_of {sc : Scope} {x : Str} (h : visB sc x = true) : Vis sc x := by
  unfold visB at h
  unfold Vis
  split at h
  · rename_i e; exact .inl e
  · rename_i e; exact .inr (.inl e)
  · rename_i e; exact .inr (.inr e)
  · cases h
theorem nb {b : Bool} (h : (!b) = true) : b = false := by cases b <;> first | rfl | cases h
theorem glo_of {R : RS} {cls : Str → Addr} {Γ : Gm R.S} {C : CC} {X : Cx} (k : XOk R cls Γ C X) {x : Str} (h : gloB C.sc x = true) : Gl X x ∧ (x == ("__debug__" : Str)) = false := by
  unfold gloB at h
  unfold Gl PySem.Env.kindOf
  rw [k.sc]
  split at h
  · rename_i e; exact ⟨e, nb h⟩
  · cases h
theorem free_of {R : RS} {cls : Str → Addr} {Γ : Gm R.S} {C : CC} {X : Cx} (k : XOk R cls Γ C X) {x : Str} (h : freeOk C x = true) : Gl X x ∧ (x == ("__debug__" : Str)) = false ∧ X.mg x = none ∧ x ≠ "__name__" := by
  obtain ⟨h1, h2⟩ := b2 h
  obtain ⟨h2, h3⟩ := b2 h2
  obtain ⟨a, b⟩ := glo_of k h1
  refine ⟨a, b, k.free x (dec h2), fun z => ?_⟩
  subst z
  have := nb h3
  simp at this
theorem nm_of {R : RS} {cls : Str → Addr} {Γ : Gm R.S} {C : CC} {X : Cx} (k : XOk R cls Γ C X) {x : Str} {i : Nat} {pos : Pos} {b : Bool} (h : nmOk C i x = true) : SE R cls Γ X (.Name x pos) (if b then .bor i else .var i) := by
  obtain ⟨h1, h2⟩ := b2 h
  obtain ⟨h2, h3⟩ := b2 h2
  obtain ⟨h3, h4⟩ := b2 h3
  exact se_var (by rw [k.N]; exact dec h1) (by rw [k.sc]; exact vis_of h2) (nb h3) (nb h4)
theorem notSet_fold {e : Expr} {env : PySem.Env} (h : notSet e = true) : ∀ x, foldedSetIterable e env x = pure x := by
  intro x
  cases e <;> first | rfl | cases h
theorem plain_of {e : Expr} (h : plainIx e = true) : PlainIx e := by
  intro o i
  cases e <;> first | rfl | cases h
theorem bin_of {R : RS} {cls : Str → Addr} {Γ : Gm R.S} {C : CC} {X : Cx} (k : XOk R cls Γ C X) {op : Operator} {a b : Expr} {ia ib : IE} {pos : Pos} (h : (binMd op).isSome = true) (h1 : SE R cls Γ X a ia) (h2 : SE R cls Γ X b ib) : SE R cls Γ X (.BinOp a op b pos) (.bin op ia ib) := by
  cases op with
  | Add => exact se_bin (bin_add (R := R) (cls := cls)).1 (bin_add (R := R) (cls := cls)).2 h1 h2
  | Sub => exact se_bin (bin_sub (R := R) (cls := cls)).1 (bin_sub (R := R) (cls := cls)).2 h1 h2
  | Mult => exact se_bin (bin_mul (R := R) (cls := cls)).1 (bin_mul (R := R) (cls := cls)).2 h1 h2
  | FloorDiv => exact se_bin (bin_fdiv (R := R) (cls := cls)).1 (bin_fdiv (R := R) (cls := cls)).2 h1 h2
  | Mod => exact se_bin (bin_mod (R := R) (cls := cls)).1 (bin_mod (R := R) (cls := cls)).2 h1 h2
  | Pow => exact se_bin (bin_pow (R := R) (cls := cls)).1 (bin_pow (R := R) (cls := cls)).2 h1 h2
  | _ => cases h
theorem cmp_of {R : RS} {cls : Str → Addr} {Γ : Gm R.S} {C : CC} {X : Cx} (k : XOk R cls Γ C X) (op : CmpOp) : ∃ r, CmpR R cls X op r := by
  cases op with
  | Eq => exact ⟨_, cmp_eq k.units⟩
  | NotEq => exact ⟨_, cmp_ne k.units⟩
  | Lt => exact ⟨_, cmp_lt⟩
  | LtE => exact ⟨_, cmp_le⟩
  | Gt => exact ⟨_, cmp_gt⟩
  | GtE => exact ⟨_, cmp_ge⟩
  | Is => exact ⟨_, cmp_is⟩
  | IsNot => exact ⟨_, cmp_isnot⟩
  | In => exact ⟨_, cmp_in⟩
  | NotIn => exact ⟨_, cmp_notin⟩
theorem bi_of {R : RS} {cls : Str → Addr} {Γ : Gm R.S} {C : CC} {X : Cx} (k : XOk R cls Γ C X) {f : Bi} {x : Str} {p pos : Pos} {e : Expr} {es : List Expr} {ies : List IE} (hx : x = biNm f) (hfr : freeOk C x = true) (h : SA R cls Γ X (e :: es) ies) (hs : noStar e = true) (hss : es.all noStar = true) :
    SE R cls Γ X (.Call (.Name x p) (e :: es) [] pos) (.bi f ies) := by
  obtain ⟨g, d, m, n⟩ := free_of k hfr
  subst hx
  cases f with
  | sorted => exact se_biB (bi_sorted k.calm) g m (by decide +kernel) h n d hs hss
  | dict => exact se_biT (bi_dict k.calm) g m (by decide +kernel) h n d hs hss
  | repr => exact se_biB (bi_repr k.guards k.units) g m (by decide +kernel) h n d hs hss
  | len => exact se_biB bi_len g m (by decide +kernel) h n d hs hss
  | abs => exact se_biB bi_abs g m (by decide +kernel) h n d hs hss
  | max => exact se_biB (bi_max k.calm) g m (by decide +kernel) h n d hs hss
  | min => exact se_biB (bi_min k.calm) g m (by decide +kernel) h n d hs hss
  | all => exact se_biB (bi_all k.calm) g m (by decide +kernel) h n d hs hss
  | int => exact se_biT bi_int g m (by decide +kernel) h n d hs hss
  | list => exact se_biT bi_list g m (by decide +kernel) h n d hs hss
  | tuple => exact se_biT bi_tuple g m (by decide +kernel) h n d hs hss
/-- what is told of a term: as a value, as a test, as the rest of a chain -/
def Snd (R : RS) (cls : Str → Addr) (Γ : Gm R.S) (X : Cx) (e : Expr) (ie : IE) : Prop := SE R cls Γ X e ie ∧ (tOk ie = true → ST R cls Γ X e ie ∧ ((∃ op x y r p, e = .BoolOp op (x :: y :: r) p) → SW R cls Γ X e ie))
theorem Snd.val {R : RS} {cls : Str → Addr} {Γ : Gm R.S} {X : Cx} {e : Expr} {ie : IE} (h : SE R cls Γ X e ie) (he : ∀ whole, isTrue e X.env whole = (do let v ← whole; standAt e.pos; holding [v] (truthy v))) (nb : ∀ op xs p, e ≠ .BoolOp op xs p) : Snd R cls Γ X e ie :=
  ⟨h, fun _ => ⟨st_val h he, fun ⟨op, x, y, r, p, z⟩ => absurd z (nb _ _ _)⟩⟩
theorem lb_of {es : List IE} (h : lbAll es = true) : ∀ e ∈ es, md e ≠ .bor := fun e he => dec (List.all_eq_true.mp h e he)
section
variable {R : RS} {cls : Str → Addr} {Γ : Gm R.S}
theorem chks_all (C : CC) : ∀ (ies : List IE) (es : List Expr), chks C ies es = true → es.all noStar = true
  | [], es, h => by
    unfold chks at h
    cases es with
    | nil => rfl
    | cons e es => cases h
  | i :: is, es, h => by
    unfold chks at h
    cases es with
    | nil => cases h
    | cons e es =>
      obtain ⟨h1, h⟩ := b2 h
      obtain ⟨h2, h3⟩ := b2 h
      rw [List.all_cons, h1, chks_all C is es h3]
      rfl
theorem chks_star (ies : List IE) (C : CC) (e : Expr) (es : List Expr) (h : chks C ies (e :: es) = true) : noStar e = true ∧ es.all noStar = true := by
  have z := chks_all C ies (e :: es) h
  rw [List.all_cons] at z
  exact b2 z
def PI_ (R : RS) (cls : Str → Addr) (Γ : Gm R.S) (ie : IE) : Prop := ∀ (C : CC) (X : Cx) (e : Expr), XOk R cls Γ C X → chk C ie e = true → Snd R cls Γ X e ie
theorem chks_ok : ∀ (ies : List IE), (∀ ie ∈ ies, PI_ R cls Γ ie) → ∀ (C : CC) (X : Cx) (es : List Expr), XOk R cls Γ C X → chks C ies es = true → SA R cls Γ X es ies
  | [], _, C, X, es, k, h => by
    unfold chks at h
    cases es with
    | nil => exact sa_nil
    | cons e es => cases h
  | i :: is, p, C, X, es, k, h => by
    unfold chks at h
    cases es with
    | nil => cases h
    | cons e es =>
      obtain ⟨h1, h⟩ := b2 h
      obtain ⟨h2, h3⟩ := b2 h
      exact sa_cons (p i (List.mem_cons_self ..) C X e k h2).1 (chks_ok is (fun ie hm => p ie (List.mem_cons_of_mem _ hm)) C X es k h3) (star_cons h1)
theorem chkk_ok : ∀ (ies : List IE), (∀ ie ∈ ies, PI_ R cls Γ ie) → ∀ (C : CC) (X : Cx) (es : List Keyword), XOk R cls Γ C X → chkk C ies es = true → SK R cls Γ X es ies
  | [], _, C, X, es, k, h => by
    unfold chkk at h
    cases es with
    | nil => exact sk_nil
    | cons e es => cases h
  | i :: is, p, C, X, es, k, h => by
    unfold chkk at h
    cases es with
    | nil => cases h
    | cons e es =>
      obtain ⟨nm, e, q⟩ := e
      obtain ⟨h1, h2⟩ := b2 h
      exact sk_cons (p i (List.mem_cons_self ..) C X e k h1).1 (chkk_ok is (fun ie hm => p ie (List.mem_cons_of_mem _ hm)) C X es k h2)
theorem p_var_ (i : Nat) : PI_ R cls Γ (.var i) := fun C X e k h => by
    unfold chk at h
    split at h
    · exact .val (nm_of (b := false) k h) (fun _ => rfl) (fun _ _ _ z => nomatch z)
    · cases h

theorem p_bor_ (i : Nat) : PI_ R cls Γ (.bor i) := fun C X e k h => by
    unfold chk at h
    split at h
    · exact .val (nm_of (b := true) k h) (fun _ => rfl) (fun _ _ _ z => nomatch z)
    · cases h

theorem p_cst_ (d : D) : PI_ R cls Γ (.cst d) := fun C X e k h => by
    unfold chk at h
    split at h
    · exact .val (se_const (v := .non) pe_non fun _ _ _ => rfl) (fun _ => rfl) (fun _ _ _ z => nomatch z)
    · have z := eq_of_beq h
      subst z
      exact .val (se_const pe_bl fun _ _ _ => rfl) (fun _ => rfl) (fun _ _ _ z => nomatch z)
    · have z := dec h
      subst z
      exact .val (se_const pe_int fun _ _ _ => rfl) (fun _ => rfl) (fun _ _ _ z => nomatch z)
    · have z := dec h
      subst z
      exact .val (se_const pe_str fun _ _ _ => rfl) (fun _ => rfl) (fun _ _ _ z => nomatch z)
    · cases h

theorem p_glb_ (j : Nat) : PI_ R cls Γ (.glb j) := fun C X e k h => by
    unfold chk at h
    split at h
    · obtain ⟨h1, h2⟩ := b2 h
      obtain ⟨g, d⟩ := glo_of k h1
      rename_i x pos
      refine .val ?_ (fun _ => rfl) (fun _ _ _ z => nomatch z)
      cases q : Γ.cons[j]? with
      | none => exact ⟨_, (⟨fun _ _ _ _ _ _ z => z.elim⟩ : PE X (.Name x pos) fun _ _ _ => False), fun σ H Q g A0 env s k o h => by
          unfold ev at h
          rw [q] at h
          exact h⟩
      | some d' =>
        obtain ⟨v, u, m, r, z⟩ := k.con j _ d' (dec h2) q
        exact ⟨_, pe_glob g m r d, fun σ H Q g A0 env s k o h => by
          unfold ev at h
          rw [q] at h
          exact h v H Ext.refl o (z g _ _)⟩
    · cases h

theorem p_neg_ (a : IE) (p_a : PI_ R cls Γ a) : PI_ R cls Γ (.neg a) := fun C X e k h => by
    unfold chk at h
    split at h
    · exact .val (se_neg (p_a C X _ k h).1) (fun _ => rfl) (fun _ _ _ z => nomatch z)
    · cases h

theorem p_not_ (a : IE) (p_a : PI_ R cls Γ a) : PI_ R cls Γ (.not a) := fun C X e k h => by
    unfold chk at h
    split at h
    · have q := p_a C X _ k h
      exact ⟨se_not q.1, fun t => ⟨st_not (q.2 t).1, fun ⟨_, _, _, _, _, z⟩ => nomatch z⟩⟩
    · cases h

theorem p_bin_ (o : Operator) (a : IE) (b : IE) (p_a : PI_ R cls Γ a) (p_b : PI_ R cls Γ b) : PI_ R cls Γ (.bin o a b) := fun C X e k h => by
    unfold chk at h
    split at h
    · obtain ⟨h0, h⟩ := b2 h
      obtain ⟨h1, h⟩ := b2 h
      obtain ⟨h2, h3⟩ := b2 h
      have z := dec h0
      subst z
      exact .val (bin_of k h1 (p_a C X _ k h2).1 (p_b C X _ k h3).1) (fun _ => rfl) (fun _ _ _ z => nomatch z)
    · cases h

theorem p_cmp_ (o : CmpOp) (a : IE) (b : IE) (p_a : PI_ R cls Γ a) (p_b : PI_ R cls Γ b) : PI_ R cls Γ (.cmp o a b) := fun C X e k h => by
    unfold chk at h
    split at h
    · obtain ⟨h0, h⟩ := b2 h
      obtain ⟨h1, h⟩ := b2 h
      obtain ⟨h2, h3⟩ := b2 h
      have z := dec h0
      subst z
      obtain ⟨r, c⟩ := cmp_of k o
      have qa := (p_a C X _ k h2).1
      have qb := (p_b C X _ k h3).1
      exact ⟨se_cmp c (nb h1) qa qb, fun _ => ⟨st_cmp c (nb h1) qa qb, fun ⟨_, _, _, _, _, z⟩ => nomatch z⟩⟩
    · cases h

theorem p_chn_ (o1 : CmpOp) (o2 : CmpOp) (a : IE) (b : IE) (c : IE) (p_a : PI_ R cls Γ a) (p_b : PI_ R cls Γ b) (p_c : PI_ R cls Γ c) : PI_ R cls Γ (.chn o1 o2 a b c) := fun C X e k h => by
    unfold chk at h
    split at h
    · obtain ⟨h0, h⟩ := b2 h
      obtain ⟨h0', h⟩ := b2 h
      obtain ⟨h1, h⟩ := b2 h
      obtain ⟨h2, h⟩ := b2 h
      obtain ⟨h3, h4⟩ := b2 h
      have z := dec h0
      subst z
      have z := dec h0'
      subst z
      obtain ⟨r, c1⟩ := cmp_of k o1
      obtain ⟨r', c2⟩ := cmp_of k o2
      have qa := (p_a C X _ k h2).1
      have qb := (p_b C X _ k h3).1
      have qc := (p_c C X _ k h4).1
      exact ⟨se_chn c1 c2 (nb h1) qa qb qc, fun _ => ⟨st_chn c1 c2 (nb h1) qa qb qc, fun ⟨_, _, _, _, _, z⟩ => nomatch z⟩⟩
    · cases h

theorem p_and_ (a : IE) (b : IE) (p_a : PI_ R cls Γ a) (p_b : PI_ R cls Γ b) : PI_ R cls Γ (.and a b) := fun C X e k h => by
    unfold chk at h
    split at h
    · obtain ⟨h0, h⟩ := b2 h
      obtain ⟨h1, h2⟩ := b2 h
      have qa := p_a C X _ k h1
      have qb := p_b C X _ k h2
      refine ⟨se_and qa.1 (se_one qb.1) (dec h0), fun t => ?_⟩
      obtain ⟨t1, t2⟩ := b2 t
      have w := sw_and (pos := ‹Pos›) (qa.2 t1).1 (sw_and1 (qb.2 t2).1)
      exact ⟨w.st, fun _ => w⟩
    · obtain ⟨h0, h⟩ := b2 h
      obtain ⟨h1, h2⟩ := b2 h
      have qa := p_a C X _ k h1
      have qb := p_b C X _ k h2
      refine ⟨se_and qa.1 qb.1 (dec h0), fun t => ?_⟩
      obtain ⟨t1, t2⟩ := b2 t
      have w := sw_and (qa.2 t1).1 ((qb.2 t2).2 ⟨_, _, _, _, _, rfl⟩)
      exact ⟨w.st, fun _ => w⟩
    · cases h

theorem p_or_ (a : IE) (b : IE) (p_a : PI_ R cls Γ a) (p_b : PI_ R cls Γ b) : PI_ R cls Γ (.or a b) := fun C X e k h => by
    unfold chk at h
    split at h
    · obtain ⟨h0, h⟩ := b2 h
      obtain ⟨h1, h2⟩ := b2 h
      have qa := p_a C X _ k h1
      have qb := p_b C X _ k h2
      refine ⟨se_or qa.1 (se_one qb.1) (dec h0), fun t => ?_⟩
      obtain ⟨t1, t2⟩ := b2 t
      have w := sw_or (pos := ‹Pos›) (qa.2 t1).1 (sw_or1 (qb.2 t2).1)
      exact ⟨w.st, fun _ => w⟩
    · obtain ⟨h0, h⟩ := b2 h
      obtain ⟨h1, h2⟩ := b2 h
      have qa := p_a C X _ k h1
      have qb := p_b C X _ k h2
      refine ⟨se_or qa.1 qb.1 (dec h0), fun t => ?_⟩
      obtain ⟨t1, t2⟩ := b2 t
      have w := sw_or (qa.2 t1).1 ((qb.2 t2).2 ⟨_, _, _, _, _, rfl⟩)
      exact ⟨w.st, fun _ => w⟩
    · cases h

theorem p_ite_ (c : IE) (a : IE) (b : IE) (p_c : PI_ R cls Γ c) (p_a : PI_ R cls Γ a) (p_b : PI_ R cls Γ b) : PI_ R cls Γ (.ite c a b) := fun C X e k h => by
    unfold chk at h
    split at h
    · obtain ⟨h0, h⟩ := b2 h
      obtain ⟨m1, h⟩ := b2 h
      obtain ⟨m2, h⟩ := b2 h
      obtain ⟨h1, h⟩ := b2 h
      obtain ⟨h2, h3⟩ := b2 h
      exact ⟨se_ite ((p_c C X _ k h1).2 h0).1 (p_a C X _ k h2).1 (p_b C X _ k h3).1 (dec m1) (dec m2), fun t => nomatch t⟩
    · cases h

theorem p_tup_ (es : List IE) (p_es : ∀ ie ∈ es, PI_ R cls Γ ie) : PI_ R cls Γ (.tup es) := fun C X e k h => by
    unfold chk at h
    split at h
    · obtain ⟨h0, h⟩ := b2 h
      obtain ⟨h1, h2⟩ := b2 h
      exact .val (se_tup (chks_ok es p_es C X _ k h2) (lb_of h1) (dec h0)) (fun _ => rfl) (fun _ _ _ z => nomatch z)
    · cases h

theorem p_lst_ (es : List IE) (p_es : ∀ ie ∈ es, PI_ R cls Γ ie) : PI_ R cls Γ (.lst es) := fun C X e k h => by
    unfold chk at h
    split at h
    · obtain ⟨h0, h⟩ := b2 h
      obtain ⟨h1, h2⟩ := b2 h
      exact .val (se_lst (chks_ok es p_es C X _ k h2) (lb_of h1) (dec h0)) (fun _ => rfl) (fun _ _ _ z => nomatch z)
    · cases h

theorem p_idx_ (a : IE) (i : IE) (p_a : PI_ R cls Γ a) (p_i : PI_ R cls Γ i) : PI_ R cls Γ (.idx a i) := fun C X e k h => by
    unfold chk at h
    split at h
    · obtain ⟨h0, h⟩ := b2 h
      obtain ⟨h1, h2⟩ := b2 h
      exact .val (se_idx (by have := k.units; omega) (plain_of h0) (p_a C X _ k h1).1 (p_i C X _ k h2).1) (fun _ => rfl) (fun _ _ _ z => nomatch z)
    · cases h

theorem p_call_ (f : Nat) (fr : Bool) (es : List IE) (p_es : ∀ ie ∈ es, PI_ R cls Γ ie) : PI_ R cls Γ (.call f fr es) := fun C X e k h => by
    unfold chk at h
    split at h
    · split at h
      · rename_i y sg hf
        obtain ⟨h0, h⟩ := b2 h
        obtain ⟨h1, h⟩ := b2 h
        obtain ⟨h2, h⟩ := b2 h
        obtain ⟨h3, h4⟩ := b2 h
        obtain ⟨z, hkd⟩ := dec h0
        subst z
        have z := eq_of_beq h3
        subst z
        obtain ⟨F, hΓ, hF⟩ := k.fn f _ _ hf
        obtain ⟨g, d⟩ := glo_of k h1
        have st := chks_star es C _ _ h4
        exact .val (se_call hkd hF.fn hΓ g (chks_ok es p_es C X _ k h4) h2 d st.1 st.2) (fun _ => rfl) (fun _ _ _ z => nomatch z)
      · cases h
    · cases h

theorem p_callK_ (f : Nat) (fr : Bool) (es : List IE) (ks : List IE) (perm : List Nat) (p_ks : ∀ ie ∈ ks, PI_ R cls Γ ie) : PI_ R cls Γ (.callK f fr es ks perm) := fun C X e k h => by
    unfold chk at h
    split at h
    · split at h
      · rename_i y sg hf
        obtain ⟨h0, h⟩ := b2 h
        obtain ⟨h1, h⟩ := b2 h
        obtain ⟨h2, h⟩ := b2 h
        obtain ⟨h3, h⟩ := b2 h
        obtain ⟨h4, h⟩ := b2 h
        obtain ⟨h5, h⟩ := b2 h
        obtain ⟨h6, h⟩ := b2 h
        obtain ⟨h7, h⟩ := b2 h
        obtain ⟨h8, h9⟩ := b2 h
        obtain ⟨z, hkd⟩ := dec h0
        subst z
        have z := eq_of_beq h2
        subst z
        obtain ⟨F, hΓ, hF⟩ := k.fn f _ _ hf
        obtain ⟨g, d⟩ := glo_of k h1
        exact .val (se_callK0 hkd (k.kw f _ _ F _ _ (dec h3) hf hΓ).1 hΓ g (chkk_ok ks p_ks C X _ k h9) d h4 h5 h6 (dec h7) (dec h8)) (fun _ => rfl) (fun _ _ _ z => nomatch z)
      · cases h
    · cases h

theorem p_bi_ (f : Bi) (es : List IE) (p_es : ∀ ie ∈ es, PI_ R cls Γ ie) : PI_ R cls Γ (.bi f es) := fun C X e k h => by
    unfold chk at h
    split at h
    · obtain ⟨h0, h⟩ := b2 h
      obtain ⟨h1, h⟩ := b2 h
      obtain ⟨h2, h3⟩ := b2 h
      have st := chks_star es C _ _ h3
      exact .val (bi_of k (dec h0) h2 (chks_ok es p_es C X _ k h3) st.1 st.2) (fun _ => rfl) (fun _ _ _ z => nomatch z)
    · cases h

theorem p_lc_ (i : Nat) (src : IE) (body : IE) (p_src : PI_ R cls Γ src) (p_body : PI_ R cls Γ body) : PI_ R cls Γ (.lc i src body) := fun C X e k h => by
    unfold chk at h
    split at h
    · obtain ⟨h0, h⟩ := b2 h
      obtain ⟨h1, h⟩ := b2 h
      obtain ⟨h2, h⟩ := b2 h
      obtain ⟨h3, h⟩ := b2 h
      obtain ⟨h4, h⟩ := b2 h
      obtain ⟨h5, h6⟩ := b2 h
      exact .val (se_lc k.calm k.nd (by rw [k.N, k.sc]; exact blkOk_by h1) (p_src C X _ k h5).1 (by rw [k.N]; exact dec h0) (by rw [k.sc]; exact dec h2)
        (fun s H c cl fp => (p_body _ _ _ (k.blk _ s H c cl fp) h6).1) (dec h4) (notSet_fold h3)) (fun _ => rfl) (fun _ _ _ z => nomatch z)
    · cases h

theorem p_lci_ (i : Nat) (src : IE) (ic : IE) (body : IE) (p_src : PI_ R cls Γ src) (p_ic : PI_ R cls Γ ic) (p_body : PI_ R cls Γ body) : PI_ R cls Γ (.lci i src ic body) := fun C X e k h => by
    unfold chk at h
    split at h
    · obtain ⟨h0, h⟩ := b2 h
      obtain ⟨h1, h⟩ := b2 h
      obtain ⟨h2, h⟩ := b2 h
      obtain ⟨h3, h⟩ := b2 h
      obtain ⟨h4, h⟩ := b2 h
      obtain ⟨h4', h⟩ := b2 h
      obtain ⟨h5, h⟩ := b2 h
      obtain ⟨h6, h7⟩ := b2 h
      exact .val (se_lci k.calm k.nd (by rw [k.N, k.sc]; exact blkOk_by h1) (p_src C X _ k h5).1 (by rw [k.N]; exact dec h0) (by rw [k.sc]; exact dec h2)
        (fun s H c cl fp => ((p_ic _ _ _ (k.blk _ s H c cl fp) h6).2 h4').1) (fun s H c cl fp => (p_body _ _ _ (k.blk _ s H c cl fp) h7).1) (dec h4) (notSet_fold h3)) (fun _ => rfl) (fun _ _ _ z => nomatch z)
    · cases h

theorem isZ_ev {ia : IE} {env : IEnv} (hz : isZ ia = true) : ev Γ ia env = pure (.int 0) := by
  unfold isZ at hz
  split at hz
  · unfold ev; rfl
  · cases hz
theorem se_lrng1 {X : Cx} {b : Expr} {ia ib : IE} {p p2 pos pos2 : Pos} (hc : X.calm = true) (hg : Gl X "range") (hm : X.mg "range" = none) (hg2 : Gl X "list") (hm2 : X.mg "list" = none) (hz : isZ ia = true) (h2 : SE R cls Γ X b ib) (n2 : noStar b = true) :
    SE R cls Γ X (.Call (.Name "list" p) [.Call (.Name "range" p2) [b] [] pos2] [] pos) (.lrng ia ib) := by
  obtain ⟨t2, p2', q2⟩ := h2
  refine ⟨_, pe_listRg hc hg2 hm2 (prg_1 hg hm p2' (star_cons n2)), fun σ H Q g A0 env s k o h => ?_⟩
  unfold ev at h
  rw [isZ_ev hz, pure_bind'] at h
  refine SE.bindE q2 k o h fun e s2 w H2 x2 o2 r2 k2 h => ?_
  cases e with
  | int j =>
    have h : PostE R (md (.lrng ia ib)) (rc cls X g) (Av A0 env σ) H ((if -(2 ^ 62) ≤ (0 : Int) ∧ (0 : Int) < 2 ^ 62 ∧ -(2 ^ 62) ≤ j ∧ j < 2 ^ 62 ∧ (j - 0).toNat ≤ 16777216 then (pure (.lst (rngL 0 j)) : M R.S D) else bad) s2) Q := h
    split at h
    · rename_i z
      refine ⟨j, Rm.flat r2 rfl, ⟨z.1, z.2.1, z.2.2.1, z.2.2.2.1, z.2.2.2.2⟩, fun q hq => ?_⟩
      have l : (rngL 0 j).length ≤ sizeLine := by
        unfold rngL
        rw [List.length_map, List.length_range, sizeLine_eq]
        exact z.2.2.2.2
      exact h _ _ (x2.trans (Ext.new hq)) (RS.new o2 hq) (.inr ⟨q, rfl, x2.back k2.gTr hq, _, upd_same, l, rng_rps 0 j⟩)
    · exact h.elim
  | _ => exact h.elim
theorem p_lrng_ (a : IE) (b : IE) (p_a : PI_ R cls Γ a) (p_b : PI_ R cls Γ b) : PI_ R cls Γ (.lrng a b) := fun C X e k h => by
    unfold chk at h
    split at h
    · obtain ⟨h0, h⟩ := b2 h
      obtain ⟨h1, h⟩ := b2 h
      obtain ⟨h2, h⟩ := b2 h
      obtain ⟨h3, h⟩ := b2 h
      obtain ⟨h4, h⟩ := b2 h
      obtain ⟨h5, h⟩ := b2 h
      obtain ⟨h6, h7⟩ := b2 h
      have z := dec h0
      subst z
      have z := dec h1
      subst z
      obtain ⟨g1, d1, m1, n1⟩ := free_of k h2
      obtain ⟨g2, d2, m2, n2⟩ := free_of k h3
      exact .val (se_lrng k.calm g2 m2 g1 m1 (p_a C X _ k h6).1 (p_b C X _ k h7).1 h4 h5) (fun _ => rfl) (fun _ _ _ z => nomatch z)
    · obtain ⟨h0, h⟩ := b2 h
      obtain ⟨h1, h⟩ := b2 h
      obtain ⟨h2, h⟩ := b2 h
      obtain ⟨h3, h⟩ := b2 h
      obtain ⟨h4, h⟩ := b2 h
      obtain ⟨h5, h6⟩ := b2 h
      have z := dec h0
      subst z
      have z := dec h1
      subst z
      obtain ⟨g1, d1, m1, n1⟩ := free_of k h2
      obtain ⟨g2, d2, m2, n2⟩ := free_of k h3
      exact .val (se_lrng1 k.calm g2 m2 g1 m1 h4 (p_b C X _ k h6).1 h5) (fun _ => rfl) (fun _ _ _ z => nomatch z)
    · cases h
def RngS (R : RS) (cls : Str → Addr) (Γ : Gm R.S) (X : Cx) (tg it : Expr) (ia ib : IE) : Prop :=
    ∃ wi, PI X tg it wi ∧ ∀ {σ : L2.St} {H : Hp} {g : List Addr} {A0 : Addr → Prop} {env : IEnv} {s : R.S} {f : Int × Int → M R.S D} {Q : VK} {W : It → Hp → Prop}, EnvOk (rc cls X g) A0 H σ env → R.ok g s H → PostE R .fr (rc cls X g) (Av A0 env σ) H ((ev Γ ia env >>= fun x => ev Γ ib env >>= fun y => opt (rngOf x y) >>= f) s) Q →
      (∀ (a b : Int) (s1 : R.S) (H1 : Hp), Ext (Gv (rc cls X g)) H H1 → R.ok g s1 H1 → EnvOk (rc cls X g) A0 H1 σ env → (b - a).toNat ≤ 16777216 → PostE R .fr (rc cls X g) (Av A0 env σ) H (f (a, b) s1) Q → W (Itr a (b - a).toNat) H1) → wi σ H W
theorem lcr_1 {X : Cx} {e2 : Expr} {tg : Expr} {ia ib : IE} {p2 p3 : Pos} (hg : Gl X "range") (hm : X.mg "range" = none) (hz : isZ ia = true) (ns : noStar e2 = true) (h : SE R cls Γ X e2 ib) :
    RngS R cls Γ X tg (.Call (.Name "range" p2) [e2] [] p3) ia ib := by
  obtain ⟨t, pe, q⟩ := h
  refine ⟨_, pi_range1 hg hm (pa_cons pe pa_nil (star_cons ns)) (star_cons ns), fun {σ H g A0 env s f Q W} k o h hW => ?_⟩
  have e : ev Γ ia env = pure (.int 0) := by
    unfold isZ at hz
    split at hz
    · unfold ev; rfl
    · cases hz
  rw [e, pure_bind'] at h
  refine SE.bindE q k o h fun d s1 v H1 x1 o1 r1 k1 h => ?_
  cases d with
  | int j =>
    have h : PostE R .fr (rc cls X g) (Av A0 env σ) H ((opt (if -(2 ^ 62) ≤ (0 : Int) ∧ (0 : Int) < 2 ^ 62 ∧ -(2 ^ 62) ≤ j ∧ j < 2 ^ 62 ∧ (j - 0).toNat ≤ 16777216 then some (0, j) else none) >>= f) s1) Q := h
    split at h
    · rename_i z
      have w := hW 0 j s1 H1 x1 o1 k1 z.2.2.2.2 h
      rw [Int.sub_zero] at w
      exact ⟨j, by rw [show v = .int j from Rm.flat r1 rfl], z.2.2.1, z.2.2.2.1, w⟩
    · exact h.elim
  | _ => exact h.elim
theorem lcr_2 {X : Cx} {e1 e2 : Expr} {tg : Expr} {ia ib : IE} {p2 p3 : Pos} (hg : Gl X "range") (hm : X.mg "range" = none) (ns1 : noStar e1 = true) (ns : noStar e2 = true) (h0 : SE R cls Γ X e1 ia) (h : SE R cls Γ X e2 ib) :
    RngS R cls Γ X tg (.Call (.Name "range" p2) [e1, e2] [] p3) ia ib := by
  obtain ⟨t0, pe0, q0⟩ := h0
  obtain ⟨t, pe, q⟩ := h
  refine ⟨_, pi_range2 hg hm (pa_cons pe0 (pa_cons pe pa_nil (star_cons ns)) (star_cons ns1)) (by rw [star_cons ns1, star_cons ns]; rfl) (by rw [star_cons ns]; rfl), fun {σ H g A0 env s f Q W} k o h hW => ?_⟩
  refine SE.bindE q0 k o h fun d0 s0 v0 H0 x0 o0 r0 k0 h => ?_
  refine SE.bindE q k0 o0 h fun d s1 v H1 x1 o1 r1 k1 h => ?_
  cases d0 with
  | int a =>
    cases d with
    | int j =>
      have h : PostE R .fr (rc cls X g) (Av A0 env σ) H ((opt (if -(2 ^ 62) ≤ a ∧ a < 2 ^ 62 ∧ -(2 ^ 62) ≤ j ∧ j < 2 ^ 62 ∧ (j - a).toNat ≤ 16777216 then some (a, j) else none) >>= f) s1) Q := h
      split at h
      · rename_i z
        exact ⟨a, j, by rw [show v0 = .int a from Rm.flat r0 rfl, show v = .int j from Rm.flat r1 rfl], ⟨z.1, z.2.1, z.2.2.1, z.2.2.2.1⟩, hW a j s1 H1 (x0.trans x1) o1 k1 z.2.2.2.2 h⟩
      · exact h.elim
    | _ => exact h.elim
  | _ => exact h.elim
theorem sl_lcr (i : Nat) (a b c body : IE) (p_a : PI_ R cls Γ a) (p_b : PI_ R cls Γ b) (p_c : PI_ R cls Γ c) (p_body : PI_ R cls Γ body) (C : CC) (X : Cx) (e : Expr) (k : XOk R cls Γ C X) (h : chk C (.lcr i a b c body) e = true) : SL R cls Γ X e (.lcr i a b c body) := by
    unfold chk at h
    split at h
    · rename_i elt x tp r rp args rq ifs sc lp
      obtain ⟨h0, h⟩ := b2 h
      obtain ⟨h1, h⟩ := b2 h
      obtain ⟨h2, h⟩ := b2 h
      obtain ⟨h3, h⟩ := b2 h
      obtain ⟨h4, h⟩ := b2 h
      obtain ⟨h5, h⟩ := b2 h
      obtain ⟨h6, h⟩ := b2 h
      obtain ⟨h7, h8⟩ := b2 h
      have z := dec h0
      subst z
      obtain ⟨hg, d, hm, n⟩ := free_of k h1
      have pi : RngS R cls Γ X (.Name x tp) (.Call (.Name "range" rp) args [] rq) a b := by
        split at h7
        · obtain ⟨g1, g⟩ := b2 h7
          obtain ⟨g2, g3⟩ := b2 g
          exact lcr_1 hg hm g1 g2 (p_b C X _ k g3).1
        · obtain ⟨g1, g⟩ := b2 h7
          obtain ⟨g2, g⟩ := b2 g
          obtain ⟨g3, g4⟩ := b2 g
          exact lcr_2 hg hm g1 g2 (p_a C X _ k g3).1 (p_b C X _ k g4).1
        · cases h7
      obtain ⟨wi, pi, hwi⟩ := pi
      split at h8
      · refine sl_lcr0 (tt := tYes) k.calm k.nd (by rw [k.N, k.sc]; exact blkOk_by h3) pi (by rw [k.N]; exact dec h2) hwi (by rw [k.sc]; exact dec h4) (fun _ _ _ _ _ => pts_nil) (fun g A0 σ env d v s s1 b H K k o h hK => ?_) (fun s H c cl fp => (p_body _ _ _ (k.blk _ s H c cl fp) h6).1) (dec h5) (fun _ => rfl)
        unfold isY at h8
        split at h8
        · unfold ev at h
          obtain ⟨a, b'⟩ := ok_inj (show (Res.ok true s : Res R.S Bool) = .ok b s1 from h)
          subst a b'
          exact hK H Ext.refl o
        · cases h8
      · obtain ⟨g1, g2⟩ := b2 h8
        refine sl_lcr0 (tt := rdT R cls Γ X.K c) k.calm k.nd (by rw [k.N, k.sc]; exact blkOk_by h3) pi (by rw [k.N]; exact dec h2) hwi (by rw [k.sc]; exact dec h4) (fun s H C cl fp => pts_one (((p_c _ _ _ (k.blk _ s H C cl fp) g2).2 g1).1).pt) (fun g A0 σ env d v s s1 b H K k o h hK => ?_) (fun s H c cl fp => (p_body _ _ _ (k.blk _ s H c cl fp) h6).1) (dec h5) (fun _ => rfl)
        refine ⟨g, A0, _, s, k, o, ?_⟩
        rw [h]
        exact hK
      · cases h8
    · cases h
theorem p_lcr_ (i : Nat) (a b c body : IE) (p_a : PI_ R cls Γ a) (p_b : PI_ R cls Γ b) (p_c : PI_ R cls Γ c) (p_body : PI_ R cls Γ body) : PI_ R cls Γ (.lcr i a b c body) := fun C X e k h =>
 by
  have sl := (sl_lcr i a b c body p_a p_b p_c p_body C X e k h).se
  cases e with
  | ListComp _ _ _ _ => exact .val sl (fun _ => rfl) (fun _ _ _ z => nomatch z)
  | _ => unfold chk at h; cases h
theorem p_slc_ (bl bh : Bool) (a lo hi : IE) (p_a : PI_ R cls Γ a) (p_lo : PI_ R cls Γ lo) (p_hi : PI_ R cls Γ hi) : PI_ R cls Γ (.slc bl bh a lo hi) := fun C X e k h => by
  unfold chk at h
  split at h
  · rename_i x el eh sp pos
    obtain ⟨h0, h⟩ := b2 h
    obtain ⟨h1, h2⟩ := b2 h
    have s1 : SO R cls Γ X el bl lo := by
      split at h1
      · exact so_none
      · exact so_some (p_lo C X _ k h1).1
      · cases h1
    have s2 : SO R cls Γ X eh bh hi := by
      split at h2
      · exact so_none
      · exact so_some (p_hi C X _ k h2).1
      · cases h2
    exact .val (se_slc (p_a C X _ k h0).1 s1 s2) (fun _ => rfl) (fun _ _ _ z => nomatch z)
  · cases h
/-! ### the wider forms -/
theorem notSup_base {e : Expr} {n : Str} {env : PySem.Env} {w : Sem Value} (h : notSup e = true) : attributeBase e n env w = w := by
  unfold attributeBase
  split
  · cases h
  · rfl
theorem meth_eq {o : Expr} {m : Str} {apos pos : Pos} {es : List Expr} {env : PySem.Env} (h1 : notSup o = true) (h2 : apos.endLine = pos.line) (h3 : es.all noStar = true) (h4 : es.length < 30) :
    eval (.Call (.Attribute o m apos) es [] pos) env = (do
      let ov ← eval o env
      standAt apos.atName
      let (f, first) ← holding [ov] (getMethod ov m (do return (← importBound o env).getD true))
      callWith pos f first (backTo pos (starEach es env)) (backToKw pos (keywordEach [] env))) := by
  have hf : methodCallForm (es.length + ([] : List Keyword).length) (backTo pos (starEach es env)) (backToKw pos (keywordEach [] env)) = true := by
    unfold methodCallForm
    have a : (backTo pos (starEach es env)).all (!·.1) = true := by
      have z := spl (env := env) (pos := pos) (es := es) h3
      rw [List.all_eq_true]
      intro p hp
      cases q : p.1 with
      | false => rfl
      | true =>
        have : (backTo pos (starEach es env)).any (·.1) = true := List.any_eq_true.mpr ⟨p, hp, q⟩
        rw [z] at this
        cases this
    have kw : backToKw pos (keywordEach [] env) = [] := rfl
    rw [a, kw]
    simpa using h4
  have e : eval (.Call (.Attribute o m apos) es [] pos) env = (do
      let ov ← attributeBase o m env (eval o env)
      standAt apos.atName
      methodCall o m apos pos env ov (es.length + ([] : List Keyword).length) (backTo pos (starEach es env)) (backToKw pos (keywordEach [] env))) := rfl
  rw [e, notSup_base h1]
  unfold methodCall
  rw [hf]
  have hp : methodCallPos true o env apos pos = pure pos := by
    unfold methodCallPos
    rw [h2]
    simp
  rw [hp]
  rfl
theorem meth_eqK {o : Expr} {m : Str} {apos pos : Pos} {kws : List Keyword} {env : PySem.Env} (h1 : notSup o = true) (h2 : apos.endLine = pos.line) (h3 : kws.all (fun k => k.1.isSome) = true) (h4 : kws.length < 29) :
    eval (.Call (.Attribute o m apos) [] kws pos) env = (do
      let ov ← eval o env
      standAt apos.atName
      let (f, first) ← holding [ov] (getMethod ov m (do return (← importBound o env).getD true))
      callWith pos f first (backTo pos (starEach [] env)) (backToKw pos (keywordEach kws env))) := by
  have hf : methodCallForm (([] : List Expr).length + kws.length) (backTo pos (starEach [] env)) (backToKw pos (keywordEach kws env)) = true := by
    unfold methodCallForm
    have a : (backTo pos (starEach [] env)).all (!·.1) = true := rfl
    rw [a, (kw_all h3).1]
    have : ([] : List Expr).length + kws.length + (if (backToKw pos (keywordEach kws env)).isEmpty = true then 0 else 1) < 30 := by
      have l : ([] : List Expr).length = 0 := rfl
      split <;> omega
    simpa using this
  have e : eval (.Call (.Attribute o m apos) [] kws pos) env = (do
      let ov ← attributeBase o m env (eval o env)
      standAt apos.atName
      methodCall o m apos pos env ov (([] : List Expr).length + kws.length) (backTo pos (starEach [] env)) (backToKw pos (keywordEach kws env))) := rfl
  rw [e, notSup_base h1]
  unfold methodCall
  rw [hf]
  have hp : methodCallPos true o env apos pos = pure pos := by
    unfold methodCallPos
    rw [h2]
    simp
  rw [hp]
  rfl
theorem visLoc {C : CC} {X : Cx} (k : XOk R cls Γ C X) (sc : Scope) (s : Shared) (H : Hp) (c : Addr) (cl : List (Str × Addr)) (fp : List Addr) : VisOk (X.blk s H sc (compEnvC sc cl c X.env) fp) (locIn sc C.sc) := fun x h => by
  have e : (relS sc C.sc).names.lookup x = some .local := dec h
  have e2 : (X.blk s H sc (compEnvC sc cl c X.env) fp).env.scope.names.lookup x = some .local := by
    show (relS sc X.env.scope).names.lookup x = some .local
    rw [k.sc]
    exact e
  exact ⟨.inl e2, .inr e2⟩
/-- with what is told of the parts of a source -/
def SrcP (R : RS) (cls : Str → Addr) (Γ : Gm R.S) (src : IE) : Prop := match src with
  | .chs s => PI_ R cls Γ s
  | .enm s => PI_ R cls Γ s
  | .zip a b => PI_ R cls Γ a ∧ PI_ R cls Γ b
  | s => PI_ R cls Γ s
def SrcM : IE → Prop
  | .zip a b => md a ≠ .bor ∧ md b ≠ .bor
  | _ => True
theorem md_bor {s : IE} (h : md s = .bor) : ∃ i, s = .bor i := by
  unfold md at h
  split at h <;> first | exact ⟨_, rfl⟩ | cases h
theorem nm_parts {R : RS} {cls : Str → Addr} {Γ : Gm R.S} {C : CC} {X : Cx} (k : XOk R cls Γ C X) {x : Str} {i : Nat} (h : nmOk C i x = true) : X.N[i]? = some x ∧ Vis X.env.scope x ∧ (x == ("__debug__" : Str)) = false ∧ (x == ("__classdict__" : Str)) = false := by
  obtain ⟨h1, h2⟩ := b2 h
  obtain ⟨h2, h3⟩ := b2 h2
  obtain ⟨h3, h4⟩ := b2 h3
  exact ⟨by rw [k.N]; exact dec h1, by rw [k.sc]; exact vis_of h2, nb h3, nb h4⟩
theorem si_chk {b : Bool} {C : CC} {X : Cx} (k : XOk R cls Γ C X) {src : IE} {tgE it : Expr}
    (h : (match src with
      | .chs s => notSet it && chk C s it
      | .enm s => enmOk C tgE it (fun x => chk C s x)
      | .zip a b => zipOk C tgE it (fun x => chk C a x) (fun x => chk C b x)
      | src => notSet it && chk C src it) = true) (hp : SrcP R cls Γ src) (hb : b = true → SrcM src) : SI R cls Γ X b tgE it src ∧ ∀ x, foldedSetIterable it X.env x = pure x := by
  have dflt : ∀ {src : IE}, PI_ R cls Γ src → (b = true → md src ≠ .bor) → (notSet it && chk C src it) = true → SI R cls Γ X b tgE it src ∧ ∀ x, foldedSetIterable it X.env x = pure x := fun {src} hp hb h => by
    obtain ⟨h0, h1⟩ := b2 h
    exact ⟨si_seq (hp C X _ k h1).1 hb, notSet_fold h0⟩
  have dflt : ∀ {src : IE}, PI_ R cls Γ src → (notSet it && chk C src it) = true → SI R cls Γ X b tgE it src ∧ ∀ x, foldedSetIterable it X.env x = pure x := fun {src} hp h => by
    by_cases z : b = true ∧ md src = .bor
    · obtain ⟨z1, z2⟩ := z
      obtain ⟨i, rfl⟩ := md_bor z2
      subst z1
      obtain ⟨h0, h1⟩ := b2 h
      unfold chk at h1
      split at h1
      · obtain ⟨q1, q2, q3, q4⟩ := nm_parts k h1
        exact ⟨si_bor q1 q2 q3 q4, notSet_fold h0⟩
      · cases h1
    · exact dflt hp (fun z1 z2 => z ⟨z1, z2⟩) h
  cases src with
  | chs s =>
    have h : (notSet it && chk C s it) = true := h
    have hp : PI_ R cls Γ s := hp
    obtain ⟨h0, h1⟩ := b2 h
    exact ⟨si_chs (hp C X _ k h1).1, notSet_fold h0⟩
  | enm s =>
    have h : enmOk C tgE it (fun x => chk C s x) = true := h
    have hp : PI_ R cls Γ s := hp
    unfold enmOk at h
    split at h
    · obtain ⟨h0, h⟩ := b2 h
      obtain ⟨h1, h⟩ := b2 h
      obtain ⟨h2, h⟩ := b2 h
      obtain ⟨h3, h4⟩ := b2 h
      have z := dec h1
      subst z
      obtain ⟨g, d, m, n⟩ := free_of k h2
      cases tgE <;> first | cases h0 | skip
      by_cases z : b = true ∧ md s = .bor
      · obtain ⟨z1, z2⟩ := z
        obtain ⟨i, rfl⟩ := md_bor z2
        subst z1
        unfold chk at h4
        dsimp only at h4
        split at h4
        · obtain ⟨q1, q2, q3, q4⟩ := nm_parts k h4
          exact ⟨si_enmB g m q1 q2 q3 q4, fun _ => rfl⟩
        · cases h4
      · exact ⟨si_enm g m h3 (hp C X _ k h4).1 (fun z1 z2 => z ⟨z1, z2⟩), fun _ => rfl⟩
    · cases h
  | zip s1 s2 =>
    have h : zipOk C tgE it (fun x => chk C s1 x) (fun x => chk C s2 x) = true := h
    have hp : PI_ R cls Γ s1 ∧ PI_ R cls Γ s2 := hp
    have hb : b = true → md s1 ≠ .bor ∧ md s2 ≠ .bor := hb
    unfold zipOk at h
    split at h
    · obtain ⟨h0, h⟩ := b2 h
      obtain ⟨h1, h⟩ := b2 h
      obtain ⟨h2, h⟩ := b2 h
      obtain ⟨h3, h⟩ := b2 h
      obtain ⟨h4, h⟩ := b2 h
      obtain ⟨h5, h6⟩ := b2 h
      have z := dec h1
      subst z
      obtain ⟨g, d, m, n⟩ := free_of k h2
      cases tgE <;> first | cases h0 | skip
      exact ⟨si_zip g m h3 h4 (hp.1 C X _ k h5).1 (hp.2 C X _ k h6).1 (fun e => (hb e).1) (fun e => (hb e).2), fun _ => rfl⟩
    · cases h
  | _ => exact dflt hp h
theorem isY_of {e : IE} (h : isY e = true) : e = .cst (.bl true) := by
  unfold isY at h
  split at h
  · rfl
  · cases h
theorem sl_lcg_ (tg : Tg) (src ic body : IE) (p_src : SrcP R cls Γ src) (p_c : PI_ R cls Γ ic) (p_body : PI_ R cls Γ body) (C : CC) (X : Cx) (e : Expr) (k : XOk R cls Γ C X) (h : chk C (.lcg tg src ic body) e = true) : SL R cls Γ X e (.lcg tg src ic body) := by
  unfold chk at h
  split at h
  · rename_i elt tgE it ifs sc pos
    obtain ⟨h0, h⟩ := b2 h
    obtain ⟨h1, h⟩ := b2 h
    obtain ⟨h2, h⟩ := b2 h
    obtain ⟨h3, h⟩ := b2 h
    obtain ⟨h4, h5⟩ := b2 h
    obtain ⟨si, hs⟩ := si_chk (b := false) k h5 p_src (fun e => by cases e)
    have hg := fun (s : Shared) (H : Hp) (c : Addr) (cl : List (Str × Addr)) (fp : List Addr) => pg_tg (X := X.blk s H sc (compEnvC sc cl c X.env) fp) (vis := locIn sc C.sc) k.calm k.nd (visLoc k sc s H c cl fp) (tg := tg) (e := tgE) (by show tgX _ X.N tg tgE = true; rw [k.N]; exact h0)
    have ok : BlkOk X.N X.env.scope sc (tgOwn C.N tg) := by rw [k.N, k.sc]; exact blkOk_by h1
    have hown : (tgOwn C.N tg).map (·.2) = tg.slots := by
      unfold tgOwn
      rw [List.map_map]
      exact List.map_id _
    have he := fun (s : Shared) (H : Hp) (c : Addr) (cl : List (Str × Addr)) (fp : List Addr) => (p_body _ _ _ (k.blk sc s H c cl fp) h3).1
    split at h4
    · -- no test
      refine sl_lcg (tt := tYes) k.calm k.nd ok hown si hg (fun _ _ _ _ _ => pts_nil) (fun g A0 σ env s H K kk o hh => ?_) he (dec h2) hs
      have hy : ic = .cst (.bl true) := isY_of h4
      subst hy
      have hh : PostT R (rc cls X g) H (((ev Γ (.cst (.bl true)) env) >>= truth) s) K := hh
      unfold ev at hh
      exact hh H Ext.refl o
    · obtain ⟨h6, h7⟩ := b2 h4
      exact sl_lcg (tt := rdT R cls Γ X.K ic) k.calm k.nd ok hown si hg (fun s H c cl fp => pts_one ((p_c _ _ _ (k.blk sc s H c cl fp) h7).2 h6).1.pt) (fun g A0 σ env s H K kk o hh => ⟨g, A0, env, s, kk, o, hh⟩) he (dec h2) hs
    · cases h4
  · cases h
theorem sl_dc_ (tg : Tg) (src ik iv : IE) (p_src : SrcP R cls Γ src) (p_k : PI_ R cls Γ ik) (p_v : PI_ R cls Γ iv) (C : CC) (X : Cx) (e : Expr) (k : XOk R cls Γ C X) (h : chk C (.dc tg src ik iv) e = true) : SL R cls Γ X e (.dc tg src ik iv) := by
  unfold chk at h
  split at h
  · rename_i kx vx tgE it sc pos
    obtain ⟨h0, h⟩ := b2 h
    obtain ⟨h1, h⟩ := b2 h
    obtain ⟨h2, h⟩ := b2 h
    obtain ⟨h3, h⟩ := b2 h
    obtain ⟨h4, h5⟩ := b2 h
    obtain ⟨si, hs⟩ := si_chk (b := false) k h5 p_src (fun e => by cases e)
    have hg := fun (s : Shared) (H : Hp) (c : Addr) (cl : List (Str × Addr)) (fp : List Addr) => pg_tg (X := X.blk s H sc (compEnvC sc cl c X.env) fp) (vis := locIn sc C.sc) k.calm k.nd (visLoc k sc s H c cl fp) (tg := tg) (e := tgE) (by show tgX _ X.N tg tgE = true; rw [k.N]; exact h0)
    have ok : BlkOk X.N X.env.scope sc (tgOwn C.N tg) := by rw [k.N, k.sc]; exact blkOk_by h1
    have hown : (tgOwn C.N tg).map (·.2) = tg.slots := by
      unfold tgOwn
      rw [List.map_map]
      exact List.map_id _
    exact sl_dc k.calm k.nd ok hown si hg (fun s H c cl fp => (p_k _ _ _ (k.blk sc s H c cl fp) h3).1) (fun s H c cl fp => (p_v _ _ _ (k.blk sc s H c cl fp) h4).1) (dec h2) hs
  · cases h
theorem p_fld_ (c : Str) (a : IE) (n : Str) (p_a : PI_ R cls Γ a) : PI_ R cls Γ (.fld c a n) := fun C X e k h => by
  unfold chk at h
  split at h
  · obtain ⟨h0, h⟩ := b2 h
    obtain ⟨h1, h⟩ := b2 h
    obtain ⟨h2, h3⟩ := b2 h
    have z := dec h0
    subst z
    obtain ⟨q1, q2⟩ := k.fld _ _ (dec h1)
    exact .val (se_fld q1 q2 (p_a C X _ k h3).1 (notSup_base h2)) (fun _ => rfl) (fun _ _ _ z => nomatch z)
  · cases h
theorem p_mth_ (f : Nat) (fr : Bool) (cl m : Str) (a : IE) (es : List IE) (p_a : PI_ R cls Γ a) (p_es : ∀ ie ∈ es, PI_ R cls Γ ie) : PI_ R cls Γ (.mth f fr cl m a es) := fun C X e k h => by
  unfold chk at h
  split at h
  · rename_i o x apos xs pos
    split at h
    · rename_i y sg hf
      obtain ⟨h0, h⟩ := b2 h
      obtain ⟨h1, h⟩ := b2 h
      obtain ⟨h2, h⟩ := b2 h
      obtain ⟨h3, h⟩ := b2 h
      obtain ⟨h4, h⟩ := b2 h
      obtain ⟨h5, h6⟩ := b2 h
      obtain ⟨rfl, rfl, hkd, rfl, hl, hpos⟩ := dec h0
      have z := eq_of_beq h3
      subst z
      obtain ⟨F, hΓ, hF⟩ := k.fn f _ _ hf
      cases xs with
      | nil =>
        cases es with
        | nil => exact .val (se_mth0 hkd hF.mth hΓ (p_a C X _ k h5).1 (dec h1) h2 (meth_eq h4 hpos rfl (by decide))) (fun _ => rfl) (fun _ _ _ z => nomatch z)
        | cons i is => unfold chks at h6; cases h6
      | cons x xs =>
        have st := chks_star es C _ _ h6
        exact .val (se_mth hkd hF.mth hΓ (p_a C X _ k h5).1 (dec h1) (chks_ok es p_es C X _ k h6) h2 st.1 st.2 (meth_eq h4 hpos (by rw [List.all_cons, st.1, st.2]; rfl) hl)) (fun _ => rfl) (fun _ _ _ z => nomatch z)
    · cases h
  · cases h
theorem p_mthK_ (f : Nat) (fr : Bool) (cl m : Str) (a : IE) (ks : List IE) (perm : List Nat) (p_a : PI_ R cls Γ a) (p_ks : ∀ ie ∈ ks, PI_ R cls Γ ie) : PI_ R cls Γ (.mthK f fr cl m a ks perm) := fun C X e k h => by
  unfold chk at h
  split at h
  · split at h
    · rename_i y sg hf
      obtain ⟨h0, h⟩ := b2 h
      obtain ⟨h1, h⟩ := b2 h
      obtain ⟨h2, h⟩ := b2 h
      obtain ⟨h3, h⟩ := b2 h
      obtain ⟨h4, h⟩ := b2 h
      obtain ⟨h5, h⟩ := b2 h
      obtain ⟨h6, h⟩ := b2 h
      obtain ⟨h7, h⟩ := b2 h
      obtain ⟨h8, h⟩ := b2 h
      obtain ⟨h9, h⟩ := b2 h
      obtain ⟨h10, h11⟩ := b2 h
      obtain ⟨rfl, rfl, hkd, rfl, hl, hpos⟩ := dec h0
      have z := eq_of_beq h2
      subst z
      obtain ⟨F, hΓ, hF⟩ := k.fn f _ _ hf
      exact .val (se_mthK hkd (k.kw f _ _ F _ _ (dec h4) hf hΓ).2 hΓ (p_a C X _ k h10).1 (dec h1) (chkk_ok ks p_ks C X _ k h11) h5 h6 h7 (dec h8) (dec h9) (meth_eqK h3 hpos h5 hl)) (fun _ => rfl) (fun _ _ _ z => nomatch z)
    · cases h
  · cases h
theorem p_lenO_ (f : Nat) (cl : Str) (a : IE) (p_a : PI_ R cls Γ a) : PI_ R cls Γ (.lenO f cl a) := fun C X e k h => by
  unfold chk at h
  split at h
  · split at h
    · rename_i y sg hf
      obtain ⟨h0, h⟩ := b2 h
      obtain ⟨h1, h⟩ := b2 h
      obtain ⟨h2, h⟩ := b2 h
      obtain ⟨h3, h⟩ := b2 h
      obtain ⟨h4, h5⟩ := b2 h
      obtain ⟨hx, rfl, hkd, rfl, hfr⟩ := dec h0
      obtain ⟨F, hΓ, hF⟩ := k.fn f _ _ hf
      obtain ⟨g, d, m, n⟩ := free_of k h1
      exact .val (se_lenO hkd hF.mth hΓ hfr hx g m n d (p_a C X _ k h5).1 (dec h2) h3 h4) (fun _ => rfl) (fun _ _ _ z => nomatch z)
    · cases h
  · cases h
theorem p_eqO_ (f : Nat) (cl : Str) (a b : IE) (p_a : PI_ R cls Γ a) (p_b : PI_ R cls Γ b) : PI_ R cls Γ (.eqO f cl a b) := fun C X e k h => by
  unfold chk at h
  split at h
  · split at h
    · rename_i y sg hf
      obtain ⟨h0, h⟩ := b2 h
      obtain ⟨h1, h⟩ := b2 h
      obtain ⟨h2, h⟩ := b2 h
      obtain ⟨h3, h⟩ := b2 h
      obtain ⟨h4, h⟩ := b2 h
      obtain ⟨h5, h⟩ := b2 h
      obtain ⟨h6, h7⟩ := b2 h
      have z := dec h0
      subst z
      obtain ⟨rfl, hkd, rfl, hfr⟩ := dec h1
      obtain ⟨F, hΓ, hF⟩ := k.fn f _ _ hf
      have qa := (p_a C X _ k h6).1
      have qb := (p_b C X _ k h7).1
      exact ⟨se_eqO hkd hF.mth hΓ hfr (nb h2) qa qb (dec h3) (dec h4) h5, fun _ => ⟨st_eqO hkd hF.mth hΓ hfr (nb h2) qa qb (dec h3) (dec h4) h5, fun ⟨_, _, _, _, _, z⟩ => nomatch z⟩⟩
    · cases h
  · cases h
theorem chkz_ok : ∀ (ies : List IE), (∀ ie ∈ ies, PI_ R cls Γ ie) → lbAll ies = true → ∀ (C : CC) (X : Cx) (st : List Bool) (es : List Expr), XOk R cls Γ C X → chkz C ies st es = true → SZ R cls Γ X es ies st
  | [], _, _, C, X, st, es, k, h => by
    unfold chkz at h
    cases st with
    | nil =>
      cases es with
      | nil => exact sz_nil
      | cons e es => cases h
    | cons b st => cases h
  | i :: is, p, hm, C, X, st, es, k, h => by
    unfold chkz at h
    have hm' : (decide (md i ≠ .bor) && lbAll is) = true := hm
    obtain ⟨m1, m2⟩ := b2 hm'
    split at h
    · obtain ⟨h2, h3⟩ := b2 h
      exact sz_star (p i (List.mem_cons_self ..) C X _ k h2).1 (dec m1) (chkz_ok is (fun ie hm => p ie (List.mem_cons_of_mem _ hm)) m2 C X _ _ k h3)
    · obtain ⟨h1, h⟩ := b2 h
      obtain ⟨h2, h3⟩ := b2 h
      exact sz_plain (p i (List.mem_cons_self ..) C X _ k h2).1 (dec m1) (chkz_ok is (fun ie hm => p ie (List.mem_cons_of_mem _ hm)) m2 C X _ _ k h3) (star_cons h1)
    · cases h
theorem p_lstS_ (st : List Bool) (es : List IE) (p_es : ∀ ie ∈ es, PI_ R cls Γ ie) : PI_ R cls Γ (.lstS st es) := fun C X e k h => by
  unfold chk at h
  split at h
  · obtain ⟨h0, h1⟩ := b2 h
    exact .val (se_lstS (chkz_ok es p_es h0 C X _ _ k h1)) (fun _ => rfl) (fun _ _ _ z => nomatch z)
  · cases h
theorem p_tupS_ (st : List Bool) (es : List IE) (p_es : ∀ ie ∈ es, PI_ R cls Γ ie) : PI_ R cls Γ (.tupS st es) := fun C X e k h => by
  unfold chk at h
  split at h
  · obtain ⟨h0, h1⟩ := b2 h
    exact .val (se_tupS (chkz_ok es p_es h0 C X _ _ k h1)) (fun _ => rfl) (fun _ _ _ z => nomatch z)
  · cases h
theorem p_isi_ (a : IE) (c : Str) (p_a : PI_ R cls Γ a) : PI_ R cls Γ (.isi a c) := fun C X e k h => by
  unfold chk at h
  split at h
  · obtain ⟨h0, h⟩ := b2 h
    obtain ⟨h1, h⟩ := b2 h
    obtain ⟨h2, h⟩ := b2 h
    obtain ⟨h3, h4⟩ := b2 h
    obtain ⟨hx, rfl, hc⟩ := dec h0
    obtain ⟨g, d, m, n⟩ := free_of k h1
    obtain ⟨g2, d2⟩ := glo_of k h2
    obtain ⟨i1, i2⟩ := k.isi _ hc
    exact .val (se_isi i1 hx g m n d g2 i2 d2 (p_a C X _ k h4).1 h3) (fun _ => rfl) (fun _ _ _ z => nomatch z)
  · cases h
theorem p_prp_ (f : Nat) (fr : Bool) (cl : Str) (a : IE) (p_a : PI_ R cls Γ a) : PI_ R cls Γ (.prp f fr cl a) := fun C X e k h => by
  unfold chk at h
  split at h
  · split at h
    · rename_i y sg hf
      obtain ⟨h0, h⟩ := b2 h
      obtain ⟨h1, h⟩ := b2 h
      obtain ⟨h2, h⟩ := b2 h
      obtain ⟨h3, h⟩ := b2 h
      obtain ⟨h4, h5⟩ := b2 h
      obtain ⟨rfl, hkd, rfl⟩ := dec h0
      have z := eq_of_beq h3
      subst z
      obtain ⟨F, hΓ, hF⟩ := k.fn f _ _ hf
      exact .val (se_prp hkd hF.prp hΓ (p_a C X _ k h5).1 (dec h1) h2 (notSup_base h4)) (fun _ => rfl) (fun _ _ _ z => nomatch z)
    · cases h
  · cases h
theorem p_ctor_ (f : Nat) (es : List IE) (p_es : ∀ ie ∈ es, PI_ R cls Γ ie) : PI_ R cls Γ (.ctor f es) := fun C X e k h => by
  unfold chk at h
  split at h
  · split at h
    · rename_i y sg hf
      obtain ⟨h0, h⟩ := b2 h
      obtain ⟨h1, h⟩ := b2 h
      obtain ⟨h2, h⟩ := b2 h
      obtain ⟨h3, h4⟩ := b2 h
      obtain ⟨rfl, hkd⟩ := dec h0
      obtain ⟨F, hΓ, hF⟩ := k.fn f _ _ hf
      obtain ⟨g, d⟩ := glo_of k h1
      have st := chks_star es C _ _ h4
      exact .val (se_ctor hkd hF.ini hΓ g (chks_ok es p_es C X _ k h4) h2 (lb_of h3) d st.1 st.2) (fun _ => rfl) (fun _ _ _ z => nomatch z)
    · cases h
  · cases h
theorem p_rev_ (a : IE) (p_a : PI_ R cls Γ a) : PI_ R cls Γ (.rev a) := fun C X e k h => by
  unfold chk at h
  split at h
  · obtain ⟨h0, h1⟩ := b2 h
    have z := dec h0
    subst z
    exact .val (se_rev (p_a C X _ k h1).1) (fun _ => rfl) (fun _ _ _ z => nomatch z)
  · cases h
theorem p_dnew_ : PI_ R cls Γ .dnew := fun C X e k h => by
  unfold chk at h
  split at h
  · refine .val ⟨_, pe_dnewK, fun σ H Q g A0 env s k o h => ?_⟩ (fun _ => rfl) (fun _ _ _ z => nomatch z)
    unfold ev at h
    intro p hp
    exact h (.ref p) _ (Ext.new hp) (RS.new o hp) (.inr ⟨p, rfl, hp, [], upd_same, rfl⟩)
  · cases h
theorem p_no_ {ie : IE} (hn : ∀ C e, chk C ie e = false) : PI_ R cls Γ ie := fun C X e k h => by
  rw [hn] at h
  cases h
theorem p_lcg_ (tg : Tg) (src ic body : IE) (p_src : SrcP R cls Γ src) (p_c : PI_ R cls Γ ic) (p_body : PI_ R cls Γ body) : PI_ R cls Γ (.lcg tg src ic body) := fun C X e k h => by
  have z := (sl_lcg_ tg src ic body p_src p_c p_body C X e k h).se
  unfold chk at h
  split at h
  · exact .val z (fun _ => rfl) (fun _ _ _ z => nomatch z)
  · cases h
theorem p_dc_ (tg : Tg) (src ik iv : IE) (p_src : SrcP R cls Γ src) (p_c : PI_ R cls Γ ik) (p_body : PI_ R cls Γ iv) : PI_ R cls Γ (.dc tg src ik iv) := fun C X e k h => by
  have z := (sl_dc_ tg src ik iv p_src p_c p_body C X e k h).se
  unfold chk at h
  split at h
  · exact .val z (fun _ => rfl) (fun _ _ _ z => nomatch z)
  · cases h
def PI2 (R : RS) (cls : Str → Addr) (Γ : Gm R.S) (ie : IE) : Prop := PI_ R cls Γ ie ∧ SrcP R cls Γ ie
mutual
theorem p_all2 : ∀ ie : IE, PI2 R cls Γ ie
  | .var i => ⟨p_var_ i , p_var_ i ⟩
  | .bor i => ⟨p_bor_ i , p_bor_ i ⟩
  | .cst d => ⟨p_cst_ d , p_cst_ d ⟩
  | .glb j => ⟨p_glb_ j , p_glb_ j ⟩
  | .neg a => ⟨p_neg_ a (p_all2 a).1, p_neg_ a (p_all2 a).1⟩
  | .not a => ⟨p_not_ a (p_all2 a).1, p_not_ a (p_all2 a).1⟩
  | .bin o a b => ⟨p_bin_ o a b (p_all2 a).1 (p_all2 b).1, p_bin_ o a b (p_all2 a).1 (p_all2 b).1⟩
  | .cmp o a b => ⟨p_cmp_ o a b (p_all2 a).1 (p_all2 b).1, p_cmp_ o a b (p_all2 a).1 (p_all2 b).1⟩
  | .chn o1 o2 a b c => ⟨p_chn_ o1 o2 a b c (p_all2 a).1 (p_all2 b).1 (p_all2 c).1, p_chn_ o1 o2 a b c (p_all2 a).1 (p_all2 b).1 (p_all2 c).1⟩
  | .and a b => ⟨p_and_ a b (p_all2 a).1 (p_all2 b).1, p_and_ a b (p_all2 a).1 (p_all2 b).1⟩
  | .or a b => ⟨p_or_ a b (p_all2 a).1 (p_all2 b).1, p_or_ a b (p_all2 a).1 (p_all2 b).1⟩
  | .ite c a b => ⟨p_ite_ c a b (p_all2 c).1 (p_all2 a).1 (p_all2 b).1, p_ite_ c a b (p_all2 c).1 (p_all2 a).1 (p_all2 b).1⟩
  | .tup es => ⟨p_tup_ es (ps_all es), p_tup_ es (ps_all es)⟩
  | .lst es => ⟨p_lst_ es (ps_all es), p_lst_ es (ps_all es)⟩
  | .idx a i => ⟨p_idx_ a i (p_all2 a).1 (p_all2 i).1, p_idx_ a i (p_all2 a).1 (p_all2 i).1⟩
  | .call f fr es => ⟨p_call_ f fr es (ps_all es), p_call_ f fr es (ps_all es)⟩
  | .callK f fr es ks perm => ⟨p_callK_ f fr es ks perm (ps_all ks), p_callK_ f fr es ks perm (ps_all ks)⟩
  | .bi f es => ⟨p_bi_ f es (ps_all es), p_bi_ f es (ps_all es)⟩
  | .lc i src body => ⟨p_lc_ i src body (p_all2 src).1 (p_all2 body).1, p_lc_ i src body (p_all2 src).1 (p_all2 body).1⟩
  | .lci i src ic body => ⟨p_lci_ i src ic body (p_all2 src).1 (p_all2 ic).1 (p_all2 body).1, p_lci_ i src ic body (p_all2 src).1 (p_all2 ic).1 (p_all2 body).1⟩
  | .lrng a b => ⟨p_lrng_ a b (p_all2 a).1 (p_all2 b).1, p_lrng_ a b (p_all2 a).1 (p_all2 b).1⟩
  | .slc bl bh a lo hi => ⟨p_slc_ bl bh a lo hi (p_all2 a).1 (p_all2 lo).1 (p_all2 hi).1, p_slc_ bl bh a lo hi (p_all2 a).1 (p_all2 lo).1 (p_all2 hi).1⟩
  | .lcr i a b c body => ⟨p_lcr_ i a b c body (p_all2 a).1 (p_all2 b).1 (p_all2 c).1 (p_all2 body).1, p_lcr_ i a b c body (p_all2 a).1 (p_all2 b).1 (p_all2 c).1 (p_all2 body).1⟩
  | .chs e => ⟨p_no_ fun C x => (by unfold chk; rfl), (p_all2 e).1⟩
  | .enm e => ⟨p_no_ fun C x => (by unfold chk; rfl), (p_all2 e).1⟩
  | .zip a b => ⟨p_no_ fun C x => (by unfold chk; rfl), (p_all2 a).1, (p_all2 b).1⟩
  | .lcg tg src c body => have z := p_lcg_ tg src c body (p_all2 src).2 (p_all2 c).1 (p_all2 body).1; ⟨z, z⟩
  | .dc tg src c body => have z := p_dc_ tg src c body (p_all2 src).2 (p_all2 c).1 (p_all2 body).1; ⟨z, z⟩
  | .fld c a n => have z := p_fld_ c a n (p_all2 a).1; ⟨z, z⟩
  | .mth f fr cl m a es => have z := p_mth_ f fr cl m a es (p_all2 a).1 (ps_all es); ⟨z, z⟩
  | .prp f fr cl a => have z := p_prp_ f fr cl a (p_all2 a).1; ⟨z, z⟩
  | .ctor f es => have z := p_ctor_ f es (ps_all es); ⟨z, z⟩
  | .rev a => have z := p_rev_ a (p_all2 a).1; ⟨z, z⟩
  | .dnew => ⟨p_dnew_, p_dnew_⟩
  | .mthK f fr cl m a ks perm => have z := p_mthK_ f fr cl m a ks perm (p_all2 a).1 (ps_all ks); ⟨z, z⟩
  | .ctorK _ _ _ => ⟨p_no_ fun C x => (by unfold chk; rfl), p_no_ fun C x => (by unfold chk; rfl)⟩
  | .lenO f cl a => have z := p_lenO_ f cl a (p_all2 a).1; ⟨z, z⟩
  | .eqO f cl a b => have z := p_eqO_ f cl a b (p_all2 a).1 (p_all2 b).1; ⟨z, z⟩
  | .tupS st es => have z := p_tupS_ st es (ps_all es); ⟨z, z⟩
  | .lstS st es => have z := p_lstS_ st es (ps_all es); ⟨z, z⟩
  | .dlit _ _ => ⟨p_no_ fun C x => (by unfold chk; rfl), p_no_ fun C x => (by unfold chk; rfl)⟩
  | .dgt _ _ _ => ⟨p_no_ fun C x => (by unfold chk; rfl), p_no_ fun C x => (by unfold chk; rfl)⟩
  | .isi a c => have z := p_isi_ a c (p_all2 a).1; ⟨z, z⟩
theorem ps_all : ∀ ies : List IE, ∀ ie ∈ ies, PI_ R cls Γ ie
  | [], _, h => nomatch h
  | i :: is, ie, h => (List.mem_cons.mp h).elim (fun e => e ▸ (p_all2 i).1) (fun m => ps_all is ie m)
end
theorem p_all (ie : IE) : PI_ R cls Γ ie := (p_all2 ie).1
theorem chk_ok (ie : IE) (C : CC) (X : Cx) (e : Expr) (k : XOk R cls Γ C X) (h : chk C ie e = true) : Snd R cls Γ X e ie := p_all ie C X e k h
end
end Pv
end
section
set_option maxHeartbeats 4000000
namespace Pv
open PySem PySem.Spec PyProof.Rows L2

/-- from one place of a body to another -/
structure StepOk (R : RS) (c : Rc) (A0 : Addr → Prop) (H : Hp) (σ : L2.St) (env : IEnv) (H' : Hp) (σ' : L2.St) (env' : IEnv) (s' : R.S) : Prop where
  ok : R.ok c.g s' H'
  envk : EnvOk c A0 H' σ' env'
  ext : Ext (Wr c env σ) H H'
  there : ∀ a, H a ≠ none → H' a ≠ none
  own : ∀ (i : Nat) (d : D) (f : Fl) (a : Addr), env'[i]? = some (some (d, f)) → f = .held ∨ f = .own → σ'[i]? = some (some (.ref a)) → H a = none ∨ ∃ (d0 : D) (f0 : Fl), env[i]? = some (some (d0, f0)) ∧ (f0 = .held ∨ f0 = .own) ∧ σ[i]? = some (some (.ref a)) ∧ (f = .own → f0 = .own)
/-- a value handed back -/
structure RetOk (R : RS) (c : Rc) (A0 : Addr → Prop) (H : Hp) (σ : L2.St) (env : IEnv) (H' : Hp) (v : V) (d : D) (fr : Bool) (s' : R.S) : Prop where
  ok : R.ok c.g s' H'
  ext : Ext (Wr c env σ) H H'
  there : ∀ a, H a ≠ none → H' a ≠ none
  val : if fr = true then ((isBox d = false ∧ Rp c A0 H' d v) ∨ ∃ a, v = .ref a ∧ (H a = none ∨ Owns env σ a) ∧ ¬ A0 a ∧ CellAt c (Plus A0 a) H' a d) else Rp c A0 H' d v
section
variable {R : RS} {cls : Str → Addr} {Γ : Gm R.S} {X : Cx}
theorem Ext.tracked {c : Rc} {H H1 : Hp} {s1 : R.S} (e : Ext (Gv c) H H1) (o : R.ok c.g s1 H1) : ∀ a, H a ≠ none → H1 a ≠ none := fun a h => by
  by_cases w : Gv c a
  · obtain ⟨u, q, _⟩ := R.there o a w
    rw [q]; simp
  · exact e.some h w
theorem StepOk.expr {c : Rc} {A0 : Addr → Prop} {H H1 : Hp} {σ : L2.St} {env : IEnv} {s1 : R.S} (k1 : EnvOk c A0 H1 σ env) (x1 : Ext (Gv c) H H1) (o1 : R.ok c.g s1 H1) : StepOk R c A0 H σ env H1 σ env s1 :=
  ⟨o1, k1, x1.more fun _ h => .inl h, x1.tracked o1, fun i d f a h1 h2 h3 => .inr ⟨d, f, h1, h2, h3, id⟩⟩
theorem StepOk.refl {c : Rc} {A0 : Addr → Prop} {H : Hp} {σ : L2.St} {env : IEnv} {s1 : R.S} (k1 : EnvOk c A0 H σ env) (o1 : R.ok c.g s1 H) : StepOk R c A0 H σ env H σ env s1 := .expr k1 Ext.refl o1
theorem owns_back {c : Rc} {A0 : Addr → Prop} {H H1 : Hp} {σ σ1 : L2.St} {env e1 : IEnv} {s1 : R.S} (a : StepOk R c A0 H σ env H1 σ1 e1 s1) {b : Addr} (h : Owns e1 σ1 b) : H b = none ∨ Owns env σ b := by
  obtain ⟨i, d, h1, h2⟩ := h
  rcases a.own i d _ b h1 (.inr rfl) h2 with z | ⟨d0, f0, q1, q2, q3, q4⟩
  · exact .inl z
  · rw [q4 rfl] at q1
    exact .inr ⟨i, d0, q1, q3⟩
theorem ext_step {c : Rc} {A0 : Addr → Prop} {H H1 H2 : Hp} {σ σ1 : L2.St} {env e1 : IEnv} {s1 : R.S} (a : StepOk R c A0 H σ env H1 σ1 e1 s1) (b : Ext (Wr c e1 σ1) H1 H2) : Ext (Wr c env σ) H H2 := fun x o h w => by
  refine b x o (a.ext x o h w) ?_
  rcases w with w | w
  · refine .inl fun z => ?_
    rcases z with z | z
    · exact w (.inl z)
    · rcases owns_back a z with q | q
      · rw [q] at h; cases h
      · exact w (.inr q)
  · exact .inr w
theorem StepOk.trans {c : Rc} {A0 : Addr → Prop} {H H1 H2 : Hp} {σ σ1 σ2 : L2.St} {env e1 e2 : IEnv} {s1 s2 : R.S} (a : StepOk R c A0 H σ env H1 σ1 e1 s1) (b : StepOk R c A0 H1 σ1 e1 H2 σ2 e2 s2) : StepOk R c A0 H σ env H2 σ2 e2 s2 where
  ok := b.ok
  envk := b.envk
  ext := ext_step a b.ext
  there := fun x h => b.there x (a.there x h)
  own := fun i d f x h1 h2 h3 => by
    rcases b.own i d f x h1 h2 h3 with z | ⟨d0, f0, q1, q2, q3, q4⟩
    · refine .inl ?_
      cases q : H x with
      | none => rfl
      | some u => exact absurd z (a.there x (by rw [q]; simp))
    · rcases a.own i d0 f0 x q1 q2 q3 with z | ⟨d1, f1, p1, p2, p3, p4⟩
      · exact .inl z
      · exact .inr ⟨d1, f1, p1, p2, p3, fun e => p4 (q4 e)⟩
theorem RetOk.from {c : Rc} {A0 : Addr → Prop} {H H1 H2 : Hp} {σ σ1 : L2.St} {env e1 : IEnv} {s1 s2 : R.S} {v : V} {d : D} {fr : Bool} (a : StepOk R c A0 H σ env H1 σ1 e1 s1) (b : RetOk R c A0 H1 σ1 e1 H2 v d fr s2) : RetOk R c A0 H σ env H2 v d fr s2 where
  ok := b.ok
  ext := ext_step a b.ext
  there := fun x h => b.there x (a.there x h)
  val := by
    have h := b.val
    split at h
    · rename_i e
      rw [if_pos e]
      rcases h with h | ⟨p, h1, h2, h3, h4⟩
      · exact .inl h
      · refine .inr ⟨p, h1, ?_, h3, h4⟩
        rcases h2 with h2 | h2
        · refine .inl ?_
          cases q : H p with
          | none => rfl
          | some u => exact absurd h2 (a.there p (by rw [q]; simp))
        · exact owns_back a h2
    · rename_i e
      rw [if_neg e]
      exact h
/-- what is wanted behind a statement -/
def PostS (R : RS) (c : Rc) (A0 : Addr → Prop) (H : Hp) (σ : L2.St) (env : IEnv) (r : Res R.S Out) (D : Ends) : Prop := match r with
  | .ok (.nx e) s => ∀ σ' H', StepOk R c A0 H σ env H' σ' e s → D.nx σ' H'
  | .ok (.bk e) s => ∀ σ' H', StepOk R c A0 H σ env H' σ' e s → D.bk σ' H'
  | .ok (.ct e) s => ∀ σ' H', StepOk R c A0 H σ env H' σ' e s → D.ct σ' H'
  | .ok (.ret d fr) s => ∀ v H', RetOk R c A0 H σ env H' v d fr s → D.rt v H'
  | _ => False
theorem PostS.from {c : Rc} {A0 : Addr → Prop} {H H1 : Hp} {σ σ1 : L2.St} {env e1 : IEnv} {s1 : R.S} {r : Res R.S Out} {D : Ends} (a : StepOk R c A0 H σ env H1 σ1 e1 s1) (h : PostS R c A0 H σ env r D) : PostS R c A0 H1 σ1 e1 r D := by
  cases r with
  | bad => exact h
  | er _ _ _ => exact h
  | ok o s =>
    cases o with
    | nx e => exact fun σ' H' b => h σ' H' (a.trans b)
    | bk e => exact fun σ' H' b => h σ' H' (a.trans b)
    | ct e => exact fun σ' H' b => h σ' H' (a.trans b)
    | ret d fr => exact fun v H' b => h v H' (b.from a)
theorem postS_bad {c : Rc} {A0 : Addr → Prop} {H : Hp} {σ : L2.St} {env : IEnv} {D : Ends} : ¬ PostS R c A0 H σ env .bad D := id
theorem postS_er {c : Rc} {A0 : Addr → Prop} {H : Hp} {σ : L2.St} {env : IEnv} {D : Ends} : ∀ x d s, ¬ PostS R c A0 H σ env (.er x d s) D := fun _ _ _ => id
def SS (R : RS) (cls : Str → Addr) (Γ : Gm R.S) (N : Nat) (X : Cx) (st : Stmt) (is : IS) : Prop :=
  ∃ t, PS X st t ∧ ∀ D σ H g A0 env s, EnvOk (rc cls X g) A0 H σ env → R.ok g s H → PostS R (rc cls X g) A0 H σ env (ex Γ N is env s) D → t D σ H
def SSs (R : RS) (cls : Str → Addr) (Γ : Gm R.S) (N : Nat) (X : Cx) (st : List Stmt) (is : List IS) : Prop :=
  ∃ t, PSs X st t ∧ ∀ D σ H g A0 env s, EnvOk (rc cls X g) A0 H σ env → R.ok g s H → PostS R (rc cls X g) A0 H σ env (exs Γ N is env s) D → t D σ H
variable {N : Nat}
section
variable {ie : IE} {t : TE} {tt : TT} {ies : List IE} {ta : TA} {σ : L2.St} {H : Hp} {g : List Addr} {A0 : Addr → Prop} {env : IEnv} {s : R.S} {c : Rc} {A1 : Addr → Prop} {H0 : Hp} {σ0 : L2.St} {env0 : IEnv} {D : Ends}
theorem SE.bindS (q : ∀ σ H Q g A0 env s, EnvOk (rc cls X g) A0 H σ env → R.ok g s H → PostE R (md ie) (rc cls X g) (Av A0 env σ) H (ev Γ ie env s) Q → t σ H Q) (k : EnvOk (rc cls X g) A0 H σ env) (o : R.ok g s H) {f : Pv.D → M R.S Out} (h : PostS R c A1 H0 σ0 env0 ((ev Γ ie env >>= f) s) D)
    {K : VK} (hk : ∀ d s1 v H1, Ext (Gv (rc cls X g)) H H1 → R.ok g s1 H1 → Rm (md ie) (rc cls X g) (Av A0 env σ) H H1 d v → EnvOk (rc cls X g) A0 H1 σ env → PostS R c A1 H0 σ0 env0 (f d s1) D → K v H1) : t σ H K := SE.bind (P := fun r => PostS R c A1 H0 σ0 env0 r D) q k o postS_bad postS_er h hk
theorem ST.bindS (q : ∀ σ H Q g A0 env s, EnvOk (rc cls X g) A0 H σ env → R.ok g s H → PostT R (rc cls X g) H ((ev Γ ie env >>= truth) s) Q → tt σ H Q) (k : EnvOk (rc cls X g) A0 H σ env) (o : R.ok g s H) {f : Bool → M R.S Out} (h : PostS R c A1 H0 σ0 env0 (((ev Γ ie env >>= truth) >>= f) s) D)
    {K : Bool → Hp → Prop} (hk : ∀ d s1 H1, Ext (Gv (rc cls X g)) H H1 → R.ok g s1 H1 → EnvOk (rc cls X g) A0 H1 σ env → PostS R c A1 H0 σ0 env0 (f d s1) D → K d H1) : tt σ H K := ST.bind (P := fun r => PostS R c A1 H0 σ0 env0 r D) q k o postS_bad postS_er h hk
theorem SA.bindS (q : ∀ σ H Q g A0 env s, EnvOk (rc cls X g) A0 H σ env → R.ok g s H → PostA R ies (rc cls X g) (Av A0 env σ) H (evs Γ ies env s) Q → ta σ H Q) (k : EnvOk (rc cls X g) A0 H σ env) (o : R.ok g s H) {f : List Pv.D → M R.S Out} (h : PostS R c A1 H0 σ0 env0 ((evs Γ ies env >>= f) s) D)
    {K : List V → Hp → Prop} (hk : ∀ d s1 v H1, Ext (Gv (rc cls X g)) H H1 → R.ok g s1 H1 → Rms (rc cls X g) (Av A0 env σ) H H1 ies d v → EnvOk (rc cls X g) A0 H1 σ env → PostS R c A1 H0 σ0 env0 (f d s1) D → K v H1) : ta σ H K := SA.bind (P := fun r => PostS R c A1 H0 σ0 env0 r D) q k o postS_bad postS_er h hk
theorem opt_ofS {α : Type} {x : Option α} {f : α → M R.S Out} (h : PostS R c A1 H0 σ0 env0 ((opt x >>= f) s) D) : ∃ a, x = some a ∧ PostS R c A1 H0 σ0 env0 (f a s) D := opt_of (P := fun r => PostS R c A1 H0 σ0 env0 r D) postS_bad h
end

/-! ### blocks -/
theorem ss_nil : SSs R cls Γ N X [] [] := ⟨_, pss_nil, fun D σ H g A0 env s k o h => h σ H (.refl k o)⟩
theorem ss_cons {st : Stmt} {sts : List Stmt} {is : IS} {iss : List IS} (h1 : SS R cls Γ N X st is) (h2 : SSs R cls Γ N X sts iss) : SSs R cls Γ N X (st :: sts) (is :: iss) := by
  obtain ⟨t1, p1, q1⟩ := h1
  obtain ⟨t2, p2, q2⟩ := h2
  refine ⟨_, pss_cons p1 p2, fun D σ H g A0 env s k o h => ?_⟩
  refine q1 _ σ H g A0 env s k o ?_
  unfold exs at h
  rw [bind_def] at h
  cases z : ex Γ N is env s with
  | bad => rw [z] at h; exact h
  | er _ _ _ => rw [z] at h; exact h
  | ok u s1 =>
    rw [z] at h
    cases u with
    | nx e =>
      intro σ1 H1 a
      exact q2 D σ1 H1 g A0 e s1 a.envk a.ok (h.from a)
    | bk e => exact fun σ' H' b => h σ' H' b
    | ct e => exact fun σ' H' b => h σ' H' b
    | ret d fr => exact fun v H' b => h v H' b

/-! ### slots stored -/
theorem put_get {env : IEnv} {i j : Nat} {d e : D} {f f' : Fl} (h : (put env i d f)[j]? = some (some (e, f'))) : (i = j ∧ e = d ∧ f' = f ∧ j < env.length) ∨ (i ≠ j ∧ env[j]? = some (some (e, f'))) := by
  unfold Pv.put at h
  by_cases hij : i = j
  · subst hij
    by_cases hl : i < env.length
    · rw [List.getElem?_set_self hl] at h
      cases h
      exact .inl ⟨rfl, rfl, rfl, hl⟩
    · rw [List.getElem?_eq_none (by simpa using hl)] at h
      cases h
  · rw [List.getElem?_set_ne hij] at h
    exact .inr ⟨hij, h⟩
theorem StepOk.put {c : Rc} {A0 : Addr → Prop} {H H1 : Hp} {σ : L2.St} {env : IEnv} {s1 : R.S} {i : Nat} {d : D} {v : V} (k1 : EnvOk c A0 H1 σ env) (x1 : Ext (Gv c) H H1) (o1 : R.ok c.g s1 H1) (r : Rp c (Av A0 env σ) H1 d v) : StepOk R c A0 H σ env H1 (σ.set i (some v)) (Pv.put env i d .frz) s1 :=
  ⟨o1, k1.put r, x1.more fun _ h => .inl h, x1.tracked o1, fun j e f a h1 h2 h3 => by
    rcases put_get h1 with ⟨rfl, rfl, z, _⟩ | ⟨hij, h1⟩
    · rw [z] at h2; rcases h2 with h2 | h2 <;> cases h2
    · rw [List.getElem?_set_ne hij] at h3
      exact .inr ⟨e, f, h1, h2, h3, id⟩⟩
/-- a new object of the def's own -/
theorem EnvOk.putOwn {c : Rc} {A0 : Addr → Prop} {H1 : Hp} {σ : L2.St} {env : IEnv} {i : Nat} {d : D} {a : Addr} {H : Hp} (k0 : EnvOk c A0 H σ env) (hp0 : H a = none) (x1 : Ext (Gv c) H H1) (hg1 : ∀ b, Gv c b → H1 b ≠ none) (h : CellAt c (Av (Plus A0 a) env σ) H1 a d) : EnvOk c A0 H1 (σ.set i (some (.ref a))) (Pv.put env i d .own) := by
  have k := k0.plus hp0 x1 hg1 h.there
  have na : ¬ A0 a := fun z => k0.tr a z hp0
  have tr : ∀ b, A0 b → H1 b ≠ none := fun b z => k.tr b (.inl z)
  have hg : ∀ b, Gv c b → A0 b := k0.g
  have hp : ∀ {b : Addr}, Held (Pv.put env i d .own) (σ.set i (some (.ref a))) b → b = a ∨ Held env σ b := fun {b} z => by
    obtain ⟨j, e, f, h1, h2, h3⟩ := z
    rcases put_get h1 with ⟨rfl, rfl, q, hl⟩ | ⟨hij, h1⟩
    · rw [List.getElem?_set_self (by rw [← k.len]; exact hl)] at h3
      cases h3
      exact .inl rfl
    · rw [List.getElem?_set_ne hij] at h3
      exact .inr ⟨j, e, f, h1, h2, h3⟩
  have anti : ∀ b, Av A0 (Pv.put env i d .own) (σ.set i (some (.ref a))) b → Av (Plus A0 a) env σ b := fun b z => by
    rcases z with z | z
    · exact .inl (.inl z)
    · exact (hp z).elim (fun e => .inl (.inr e)) .inr
  have rp : ∀ {e : D} {w : V}, Rp c (Av (Plus A0 a) env σ) H1 e w → Rp c (Av A0 (Pv.put env i d .own) (σ.set i (some (.ref a)))) H1 e w := fun {e w} h => Rp.mono (Ext.refl (W := fun _ => False)) (fun _ z => z.elim) (fun a z => .inl (anti a z)) e w h
  have ca : ∀ {e : D} {b : Addr}, CellAt c (Av (Plus A0 a) env σ) H1 b e → CellAt c (Av A0 (Pv.put env i d .own) (σ.set i (some (.ref a)))) H1 b e := fun {e b} h => h.mono (Ext.refl (W := fun _ => False)) (fun _ z => z.elim) (fun a z => .inl (anti a z)) id
  refine ⟨by unfold Pv.put; rw [List.length_set, List.length_set]; exact k.len, tr, hg, fun j e h => ?_, fun j e h => ?_, fun j e f h1 hf => ?_, fun j l e e' f f' b h1 f1 h2 f2 s1 s2 => ?_⟩
  · rcases put_get h with ⟨rfl, rfl, z, hl⟩ | ⟨hij, h⟩
    · cases z
    · obtain ⟨w, e1, e2⟩ := k.frz j e h
      exact ⟨w, by rw [List.getElem?_set_ne hij]; exact e1, rp e2⟩
  · rcases put_get h with ⟨rfl, rfl, z, _⟩ | ⟨hij, h⟩
    · cases z
    · obtain ⟨w, e1, e2⟩ := k0.lent j e h
      refine ⟨w, by rw [List.getElem?_set_ne hij]; exact e1, ?_⟩
      have n : ∀ b, Av A0 (Pv.put env i d .own) (σ.set i (some (.ref a))) b → Av A0 env σ b ∨ H b = none := fun b z => by
        rcases anti b z with (z | z) | z
        · exact .inl (.inl z)
        · rw [z]; exact .inr hp0
        · exact .inl (.inr z)
      rcases e2 with e2 | ⟨b, q1, q2, q3, q4⟩
      · exact .inl (Rp.mono x1 k0.gA n _ _ e2)
      · exact .inr ⟨b, q1, q2, fun z => (hp z).elim (fun z => q4.there (by rw [z]; exact hp0)) q3, q4.mono x1 k0.gA n q2⟩
  · rcases put_get h1 with ⟨rfl, rfl, z, hl⟩ | ⟨hij, h1⟩
    · exact ⟨a, by rw [List.getElem?_set_self (by rw [← k.len]; exact hl)], na, ca h⟩
    · obtain ⟨b, e1, e2, e3⟩ := k.hld j e f h1 hf
      exact ⟨b, by rw [List.getElem?_set_ne hij]; exact e1, fun z => e2 (.inl z), ca e3⟩
  · have key : ∀ {j : Nat} {e : D} {f : Fl}, i ≠ j → env[j]? = some (some (e, f)) → f = .held ∨ f = .own → (σ.set i (some (.ref a)))[j]? = some (some (V.ref b)) → b ≠ a := by
      intro j e f hij h hf hs z
      rw [List.getElem?_set_ne hij] at hs
      obtain ⟨b', q1, q2, _⟩ := k.hld j e f h hf
      rw [hs] at q1
      cases q1
      exact q2 (.inr z)
    rcases put_get h1 with ⟨ej, _, z1, hl⟩ | ⟨hij, g1⟩
    · rcases put_get h2 with ⟨el, _, _, _⟩ | ⟨hil, g2⟩
      · exact ej.symm.trans el
      · subst ej
        rw [List.getElem?_set_self (by rw [← k.len]; exact hl)] at s1
        have q := key hil g2 f2 s2
        cases s1
        exact absurd rfl q
    · rcases put_get h2 with ⟨el, _, _, hl⟩ | ⟨hil, g2⟩
      · subst el
        rw [List.getElem?_set_self (by rw [← k.len]; exact hl)] at s2
        have q := key hij g1 f1 s1
        cases s2
        exact absurd rfl q
      · rw [List.getElem?_set_ne hij] at s1
        rw [List.getElem?_set_ne hil] at s2
        exact k.inj j l e e' f f' b g1 f1 g2 f2 s1 s2
theorem StepOk.putOwn {c : Rc} {A0 : Addr → Prop} {H H1 : Hp} {σ : L2.St} {env : IEnv} {s1 : R.S} {i : Nat} {d : D} {v : V} (k : EnvOk c A0 H σ env) (x1 : Ext (Gv c) H H1) (o1 : R.ok c.g s1 H1) (hb : isBox d = true) (r : Fr c (Av A0 env σ) H H1 d v) : StepOk R c A0 H σ env H1 (σ.set i (some v)) (Pv.put env i d .own) s1 := by
  rcases r with r | ⟨a, e1, e2, e3⟩
  · rw [r.1] at hb; cases hb
  · subst e1
    have t := x1.tracked o1
    refine ⟨o1, k.putOwn e2 x1 (fun b z => t b (k.gTr b z)) (e3.mono (Ext.refl (W := fun _ => False)) (fun _ z => z.elim) (fun b z => .inl ?_) id), x1.more fun _ h => .inl h, t, fun j e f b h1 h2 h3 => ?_⟩
    · rcases z with (z | z) | z
      · exact .inl (.inl z)
      · exact .inr z
      · exact .inl (.inr z)
    · rcases put_get h1 with ⟨rfl, rfl, _, hl⟩ | ⟨hij, h1⟩
      · rw [List.getElem?_set_self (by rw [← k.len]; exact hl)] at h3
        cases h3
        exact .inl e2
      · rw [List.getElem?_set_ne hij] at h3
        exact .inr ⟨e, f, h1, h2, h3, id⟩
/-- name = e -/
theorem asg_ok {t : TE} {ie : IE} {i : Nat} (own : Bool) (hm : own = true → md ie = .fr) (hm2 : own = false → md ie ≠ .bor) (q : ∀ σ H Q g A0 env s, EnvOk (rc cls X g) A0 H σ env → R.ok g s H → PostE R (md ie) (rc cls X g) (Av A0 env σ) H (ev Γ ie env s) Q → t σ H Q) :
    ∀ D σ H g A0 env s, EnvOk (rc cls X g) A0 H σ env → R.ok g s H → PostS R (rc cls X g) A0 H σ env (ex Γ N (.set i own ie) env s) D → tAsg t (gName i) D σ H := fun D σ H g A0 env s k o h => by
  unfold ex at h
  refine SE.bindS q k o h fun d s1 v H1 x1 o1 r1 k1 h => ?_
  show D.nx (σ.set i (some v)) H1
  cases own with
  | false => exact h _ H1 (.put k1 x1 o1 (r1.rp (hm2 rfl) k.trA))
  | true =>
    rw [hm rfl] at r1
    cases d with
    | lst l => exact h _ H1 (.putOwn k x1 o1 rfl r1)
    | dct l => exact h _ H1 (.putOwn k x1 o1 rfl r1)
    | _ => exact h.elim
theorem ss_set {e : Expr} {ie : IE} {x : Str} {i : Nat} {own : Bool} {pos pos' : Pos} (h1 : SE R cls Γ X e ie) (hm : own = true → md ie = .fr) (hm2 : own = false → md ie ≠ .bor) (hN : X.N.Nodup) (hi : X.N[i]? = some x) (hx : Loc X.env.scope x) (hs : swapsWith e (some (.Name x pos')) pos.line X.env = pure false)
    (hf : X.fn x = true ∨ X.env.scope.names.lookup x = some .local) : SS R cls Γ N X (.Assign [.Name x pos'] e pos) (.set i own ie) := by
  obtain ⟨t, p, q⟩ := h1
  exact ⟨_, ps_set hN hi hx p hs hf, asg_ok own hm hm2 q⟩
theorem ss_ret {e : Expr} {ie : IE} {pos : Pos} (h1 : SE R cls Γ X e ie) (hm : md ie ≠ .bor) : SS R cls Γ N X (.Return (some e) pos) (.ret ie) := by
  obtain ⟨t, p, q⟩ := h1
  refine ⟨_, ps_ret p, fun D σ H g A0 env s k o h => ?_⟩
  unfold ex at h
  refine SE.bindS q k o h fun d s1 v H1 x1 o1 r1 k1 h => ?_
  refine h v H1 ⟨o1, x1.more fun _ h => .inl h, x1.tracked o1, ?_⟩
  have anti : ∀ {A : Addr → Prop} {b : Addr}, A0 b → Av A0 env σ b := fun h => .inl h
  by_cases hf : md ie = .fr
  · rw [hf] at r1
    rw [if_pos (decide_eq_true hf)]
    rcases r1 with r1 | ⟨a, e1, e2, e3⟩
    · exact .inl ⟨r1.1, Rp.mono (Ext.refl (W := fun _ => False)) (fun _ z => z.elim) (fun b z => .inl (.inl z)) _ _ r1.2⟩
    · exact .inr ⟨a, e1, .inl e2, fun z => k.tr a z e2, e3.mono (Ext.refl (W := fun _ => False)) (fun _ z => z.elim) (fun b z => .inl (z.imp .inl id)) id⟩
  · rw [if_neg (fun z => hf (of_decide_eq_true z))]
    exact Rp.mono (Ext.refl (W := fun _ => False)) (fun _ z => z.elim) (fun b z => .inl (.inl z)) _ _ (r1.rp hm k.trA)
theorem ss_retO {x : Str} {i : Nat} {pos pos' : Pos} (hN : X.N[i]? = some x) (hv : Vis X.env.scope x) (hd : (x == ("__debug__" : Str)) = false) (hcd : (x == ("__classdict__" : Str)) = false) : SS R cls Γ N X (.Return (some (.Name x pos')) pos) (.retO i) := by
  refine ⟨_, ps_ret (pe_var hN hv hd hcd), fun D σ H g A0 env s k o h => ?_⟩
  unfold ex at h
  cases q : getI env i with
  | none => rw [q] at h; exact h.elim
  | some p =>
    obtain ⟨d, f⟩ := p
    rw [q] at h
    cases f with
    | own =>
      have q' := getI_eq q
      obtain ⟨a, e1, e2, e3⟩ := k.hld i d _ q' (.inr rfl)
      refine ⟨_, e1, h (.ref a) H ⟨o, Ext.refl, fun _ z => z, ?_⟩⟩
      rw [if_pos rfl]
      refine .inr ⟨a, rfl, .inr ⟨i, d, q', e1⟩, e2, e3.mono (Ext.refl (W := fun _ => False)) (fun _ z => z.elim) (fun b z => .inl ?_) id⟩
      rcases z with z | z
      · exact .inl z
      · rw [z]; exact .inr ⟨i, d, _, q', .inr rfl, e1⟩
    | _ => exact h.elim
theorem ss_retN {pos : Pos} : SS R cls Γ N X (.Return none pos) .retN :=
  ⟨_, ps_retN, fun D σ H g A0 env s k o h => h .non H ⟨o, Ext.refl, fun _ z => z, by rw [if_neg Bool.false_ne_true]; exact rfl⟩⟩
theorem ss_exp {e : Expr} {ie : IE} {pos : Pos} (h1 : SE R cls Γ X e ie) (hs : swapsWith e none pos.line X.env = pure false) : SS R cls Γ N X (.Expr e pos) (.exp ie) := by
  obtain ⟨t, p, q⟩ := h1
  refine ⟨_, ps_expr p hs, fun D σ H g A0 env s k o h => ?_⟩
  unfold ex at h
  exact SE.bindS q k o h fun d s1 v H1 x1 o1 r1 k1 h => h σ H1 (.expr k1 x1 o1)
theorem ss_pas {pos : Pos} : SS R cls Γ N X (.Pass pos) .pas := ⟨_, ps_pass, fun D σ H g A0 env s k o h => h σ H (.refl k o)⟩
theorem ss_brk {pos : Pos} : SS R cls Γ N X (.Break pos) .brk := ⟨_, ps_break, fun D σ H g A0 env s k o h => h σ H (.refl k o)⟩
theorem ss_cnt {pos : Pos} : SS R cls Γ N X (.Continue pos) .cnt := ⟨_, ps_continue, fun D σ H g A0 env s k o h => h σ H (.refl k o)⟩
theorem ss_never {st : Stmt} : SS R cls Γ N X st .never := ⟨_, ps_never, fun D σ H g A0 env s k o h => h.elim⟩
theorem ss_ite {c : Expr} {ic : IE} {a b : List Stmt} {ia ib : List IS} {pos : Pos} (h0 : ST R cls Γ X c ic) (h1 : SSs R cls Γ N X a ia) (h2 : SSs R cls Γ N X b ib) : SS R cls Γ N X (.If c a b pos) (.ite ic ia ib) := by
  obtain ⟨t0, p0, q0⟩ := h0
  obtain ⟨t1, p1, q1⟩ := h1
  obtain ⟨t2, p2, q2⟩ := h2
  refine ⟨_, ps_if p0 p1 p2, fun D σ H g A0 env s k o h => ?_⟩
  unfold ex at h
  refine ST.bindS q0 k o h fun z s1 H1 x1 o1 k1 h => ?_
  have st : StepOk R (rc cls X g) A0 H σ env H1 σ env s1 := .expr k1 x1 o1
  cases z with
  | true =>
    rw [if_pos rfl] at h ⊢
    exact q1 D σ H1 g A0 env s1 k1 o1 (h.from st)
  | false =>
    rw [if_neg Bool.false_ne_true] at h ⊢
    exact q2 D σ H1 g A0 env s1 k1 o1 (h.from st)
end
end Pv
end
section
set_option maxHeartbeats 4000000
namespace Pv
open PySem PySem.Spec PyProof.Rows L2

section
variable {R : RS} {cls : Str → Addr} {Γ : Gm R.S} {X : Cx} {N : Nat}
theorem puts_ok {c : Rc} {A0 : Addr → Prop} {H1 : Hp} {s1 : R.S} (o1 : R.ok c.g s1 H1) : ∀ {is : List Nat} {ds : List D} {vs : List V} {σ : L2.St} {env : IEnv}, EnvOk c A0 H1 σ env → Rps c (Av A0 env σ) H1 ds vs → is.length = ds.length → StepOk R c A0 H1 σ env H1 (setS σ is vs) (puts env is ds) s1
  | [], [], vs, σ, env, k, r, _ => by
    have r : vs = [] := r
    subst r
    exact .refl k o1
  | [], _ :: _, _, _, _, _, _, h => by simp at h
  | _ :: _, [], _, _, _, _, _, h => by simp at h
  | i :: is, d :: ds, vs, σ, env, k, r, h => by
    obtain ⟨v, ws, rfl, r1, r2⟩ := r
    have a : StepOk R c A0 H1 σ env H1 (σ.set i (some v)) (put env i d .frz) s1 := .put k Ext.refl o1 r1
    exact a.trans (puts_ok o1 a.envk (r2.anti fun b z => z.imp id Held.put) (by simpa using h))
def tgOk (Ns : List Str) (sc : Scope) : List Nat → List Expr → Bool
  | [], es => es.isEmpty
  | i :: is, es => match es with
    | .Name x _ :: es => decide (Ns[i]? = some x) && ((match sc.names.lookup x with | some .local => true | some .cell => true | _ => false) && tgOk Ns sc is es)
    | _ => false
theorem loc_of {sc : Scope} {x : Str} (h : (match sc.names.lookup x with | some .local => true | some .cell => true | _ => false) = true) : Loc sc x := by
  split at h
  · rename_i e; exact .inl e
  · rename_i e; exact .inr e
  · cases h
theorem pgs_of (nd : X.N.Nodup) (hf : ∀ x, X.fn x = true) : ∀ {is : List Nat} {es : List Expr}, tgOk X.N X.env.scope is es = true → PGs X es (gNames is) ∧ (assignEach es X.env).length = is.length ∧ (assignEach es X.env).findIdx? (·.1) = none
  | [], es, h => by
    cases es with
    | nil => exact ⟨pgs_nil, rfl, rfl⟩
    | cons e es => cases h
  | i :: is, es, h => by
    unfold tgOk at h
    split at h
    · obtain ⟨h1, h⟩ := b2 h
      obtain ⟨h2, h3⟩ := b2 h
      obtain ⟨p1, p2, p3⟩ := pgs_of nd hf h3
      refine ⟨pgs_cons (pg_name nd (dec h1) (loc_of h2) (.inl (hf _))) p1 rfl, ?_, ?_⟩
      · show (assignEach _ X.env).length + 1 = is.length + 1
        rw [p2]
      · show List.findIdx? (·.1) ((false, _) :: assignEach _ X.env) = none
        rw [List.findIdx?_cons, p3]
        rfl
    · cases h
theorem ss_unp {e : Expr} {ie : IE} {ts : List Expr} {is : List Nat} {k : Nat} {pos tpos : Pos} (h1 : SE R cls Γ X e ie) (hm : md ie ≠ .bor) (hc : X.calm = true) (nd : X.N.Nodup) (hf : ∀ x, X.fn x = true) (ht : tgOk X.N X.env.scope is ts = true)
    (hs : swapsWithSole [.Tuple ts k tpos] e pos.line X.env = pure false) (hw : swappedStores [.Tuple ts k tpos] e X.env = pure none) : SS R cls Γ N X (.Assign [.Tuple ts k tpos] e pos) (.unp is ie) := by
  obtain ⟨t, p, q⟩ := h1
  obtain ⟨p1, p2, p3⟩ := pgs_of nd hf ht
  refine ⟨_, ps_asg p (pg_tl hc p1 p2 p3) hs hw rfl, fun D σ H g A0 env s k o h => ?_⟩
  unfold ex at h
  refine SE.bindS q k o h fun d s1 v H1 x1 o1 r1 k1 h => ?_
  have r := r1.rp hm k.trA
  have st : StepOk R (rc cls X g) A0 H σ env H1 σ env s1 := .expr k1 x1 o1
  cases d with
  | tup l =>
    obtain ⟨a, xs, e1, e2, e3⟩ := r
    by_cases hl : is.length = l.length
    · have h : PostS R (rc cls X g) A0 H σ env ((if is.length = l.length then pure (.nx (puts env is l)) else bad : M R.S Out) s1) D := h
      rw [if_pos hl] at h
      exact ⟨a, xs, e1, .inl e2, by rw [e3.length, hl], gNames_ok (by rw [e3.length, hl]) (h _ _ (st.trans (puts_ok o1 k1 e3 hl)))⟩
    · have h : PostS R (rc cls X g) A0 H σ env ((if is.length = l.length then pure (.nx (puts env is l)) else bad : M R.S Out) s1) D := h
      rw [if_neg hl] at h
      exact h.elim
  | lst l =>
    obtain ⟨a, xs, e1, e2, _, _, e3⟩ := r
    by_cases hl : is.length = l.length
    · have h : PostS R (rc cls X g) A0 H σ env ((if is.length = l.length then pure (.nx (puts env is l)) else bad : M R.S Out) s1) D := h
      rw [if_pos hl] at h
      exact ⟨a, xs, e1, .inr (.inl (.inl e2)), by rw [e3.length, hl], gNames_ok (by rw [e3.length, hl]) (h _ _ (st.trans (puts_ok o1 k1 e3 hl)))⟩
    · have h : PostS R (rc cls X g) A0 H σ env ((if is.length = l.length then pure (.nx (puts env is l)) else bad : M R.S Out) s1) D := h
      rw [if_neg hl] at h
      exact h.elim
  | _ => exact h.elim
theorem ss_par {a b : Expr} {ies : List IE} {i j : Nat} {x y : Str} {px py pt pos : Pos} {kt k2 : Nat} {pt2 : Pos} (h1 : SA R cls Γ X [a, b] ies) (hm : lbAll ies = true) (hc : X.calm = true) (nd : X.N.Nodup) (hi : X.N[i]? = some x) (hj : X.N[j]? = some y) (hij : i ≠ j)
    (hx : X.env.scope.names.lookup x = some .local) (hy : X.env.scope.names.lookup y = some .local)
    (hw : swappedStores [.Tuple [.Name x px, .Name y py] kt pt] (.Tuple [a, b] k2 pt2) X.env = pure (some [x, y])) : SS R cls Γ N X (.Assign [.Tuple [.Name x px, .Name y py] kt pt] (.Tuple [a, b] k2 pt2) pos) (.par [i, j] ies) := by
  obtain ⟨t, p, q⟩ := h1
  refine ⟨_, ps_par hc nd hi hj hij hx hy p hw rfl, fun D σ H g A0 env s k o h => ?_⟩
  unfold ex at h
  refine SA.bindS q k o h fun ds s1 vs H1 x1 o1 r1 k1 h => ?_
  have r := Rms.rps (lb_of hm) r1
  have st : StepOk R (rc cls X g) A0 H σ env H1 σ env s1 := .expr k1 x1 o1
  by_cases hl : [i, j].length = ds.length
  · rw [if_pos hl] at h
    have a := puts_ok o1 k1 r hl
    match ds, vs, hl, r, a, h with
    | [d, e], vs, _, ⟨v, ws, e1, _, w, ws', e2, _, e3⟩, a, h =>
      have e3 : ws' = [] := e3
      subst e3 e2 e1
      exact ⟨v, w, rfl, h _ _ (st.trans a)⟩
  · rw [if_neg hl] at h
    exact h.elim
theorem ss_par3 {a b c : Expr} {ies : List IE} {i j l : Nat} {x y z : Str} {px py pz pt pos : Pos} {kt k2 : Nat} {pt2 : Pos} (h1 : SA R cls Γ X [a, b, c] ies) (hm : lbAll ies = true) (hc : X.calm = true) (nd : X.N.Nodup) (hi : X.N[i]? = some x) (hj : X.N[j]? = some y) (hl : X.N[l]? = some z) (hij : i ≠ j) (hil : i ≠ l) (hjl : j ≠ l)
    (hx : X.env.scope.names.lookup x = some .local) (hy : X.env.scope.names.lookup y = some .local) (hz : X.env.scope.names.lookup z = some .local)
    (hw : swappedStores [.Tuple [.Name x px, .Name y py, .Name z pz] kt pt] (.Tuple [a, b, c] k2 pt2) X.env = pure (some [x, y, z])) : SS R cls Γ N X (.Assign [.Tuple [.Name x px, .Name y py, .Name z pz] kt pt] (.Tuple [a, b, c] k2 pt2) pos) (.par [i, j, l] ies) := by
  obtain ⟨t, p, q⟩ := h1
  refine ⟨_, ps_par3 hc nd hi hj hl hij hil hjl hx hy hz p hw rfl, fun D σ H g A0 env s k o h => ?_⟩
  unfold ex at h
  refine SA.bindS q k o h fun ds s1 vs H1 x1 o1 r1 k1 h => ?_
  have r := Rms.rps (lb_of hm) r1
  have st : StepOk R (rc cls X g) A0 H σ env H1 σ env s1 := .expr k1 x1 o1
  by_cases hl : [i, j, l].length = ds.length
  · rw [if_pos hl] at h
    have a := puts_ok o1 k1 r hl
    match ds, vs, hl, r, a, h with
    | [d, e, f], vs, _, ⟨v, ws, e1, _, w, ws', e2, _, u, ws'', e4, _, e3⟩, a, h =>
      have e3 : ws'' = [] := e3
      subst e3 e4 e2 e1
      exact ⟨v, w, u, rfl, h _ _ (st.trans a)⟩
  · rw [if_neg hl] at h
    exact h.elim

/-! ### flags -/
theorem held_flag {env : IEnv} {σ : L2.St} {i : Nat} {d : D} {f f' : Fl} (h : env[i]? = some (some (d, f))) (hf : f = .held ∨ f = .own) (hf' : f' = .held ∨ f' = .own) (a : Addr) : Held (put env i d f') σ a ↔ Held env σ a := by
  have hl : i < env.length := (List.getElem?_eq_some_iff.mp h).1
  constructor
  · rintro ⟨j, e, g, h1, h2, h3⟩
    rcases put_get h1 with ⟨rfl, rfl, _, _⟩ | ⟨_, h1⟩
    · exact ⟨i, e, f, h, hf, h3⟩
    · exact ⟨j, e, g, h1, h2, h3⟩
  · rintro ⟨j, e, g, h1, h2, h3⟩
    by_cases hij : i = j
    · subst hij
      rw [h] at h1
      cases h1
      exact ⟨i, d, f', by unfold put; rw [List.getElem?_set_self hl], hf', h3⟩
    · exact ⟨j, e, g, by unfold put; rw [List.getElem?_set_ne hij]; exact h1, h2, h3⟩
theorem EnvOk.flag {c : Rc} {A0 : Addr → Prop} {H : Hp} {σ : L2.St} {env : IEnv} {i : Nat} {d : D} {f f' : Fl} (k : EnvOk c A0 H σ env) (h : env[i]? = some (some (d, f))) (hf : f = .held ∨ f = .own) (hf' : f' = .held ∨ f' = .own) : EnvOk c A0 H σ (Pv.put env i d f') := by
  have hh := held_flag (σ := σ) h hf hf'
  have anti : ∀ a, Av A0 (Pv.put env i d f') σ a → Av A0 env σ a := fun a z => z.imp id (hh a).mp
  have n1 : f' ≠ .frz := by rcases hf' with e | e <;> (rw [e]; simp)
  have n2 : f' ≠ .lent := by rcases hf' with e | e <;> (rw [e]; simp)
  have orig : ∀ {j : Nat} {e : D} {g : Fl}, (Pv.put env i d f')[j]? = some (some (e, g)) → g = .held ∨ g = .own → ∃ g0, env[j]? = some (some (e, g0)) ∧ (g0 = .held ∨ g0 = .own) := fun {j e g} z hg => by
    rcases put_get z with ⟨rfl, rfl, _, _⟩ | ⟨_, z⟩
    · exact ⟨f, h, hf⟩
    · exact ⟨g, z, hg⟩
  refine ⟨by unfold Pv.put; rw [List.length_set]; exact k.len, k.tr, k.g, fun j e z => ?_, fun j e z => ?_, fun j e g z hg => ?_, fun j l e e' g g' a h1 g1 h2 g2 s1 s2 => ?_⟩
  · rcases put_get z with ⟨_, _, q, _⟩ | ⟨_, z⟩
    · exact absurd q.symm n1
    · obtain ⟨v, e1, e2⟩ := k.frz j e z
      exact ⟨v, e1, e2.anti anti⟩
  · rcases put_get z with ⟨_, _, q, _⟩ | ⟨_, z⟩
    · exact absurd q.symm n2
    · obtain ⟨v, e1, e2⟩ := k.lent j e z
      refine ⟨v, e1, ?_⟩
      rcases e2 with e2 | ⟨b, q1, q2, q3, q4⟩
      · exact .inl (e2.anti anti)
      · exact .inr ⟨b, q1, q2, fun z => q3 ((hh b).mp z), q4.anti anti⟩
  · obtain ⟨g0, z0, hg0⟩ := orig z hg
    obtain ⟨a, e1, e2, e3⟩ := k.hld j e g0 z0 hg0
    exact ⟨a, e1, e2, e3.anti anti⟩
  · obtain ⟨f0, z0, hg0⟩ := orig h1 g1
    obtain ⟨f1, z1, hg1⟩ := orig h2 g2
    exact k.inj j l e e' f0 f1 a z0 hg0 z1 hg1 s1 s2
theorem EnvOk.freeze {c : Rc} {A0 : Addr → Prop} {H : Hp} {σ : L2.St} {env : IEnv} {i : Nat} {d : D} (k : EnvOk c A0 H σ env) (h : env[i]? = some (some (d, Fl.own))) : EnvOk c A0 H σ (Pv.put env i d .frz) := by
  obtain ⟨a, e1, e2, e3⟩ := k.hld i d _ h (.inr rfl)
  have back : ∀ b, Held (Pv.put env i d .frz) σ b → Held env σ b ∧ b ≠ a := fun b z => by
    obtain ⟨j, e, g, h1, h2, h3⟩ := z
    rcases put_get h1 with ⟨_, _, q, _⟩ | ⟨hij, h1⟩
    · rw [q] at h2; rcases h2 with h2 | h2 <;> cases h2
    · refine ⟨⟨j, e, g, h1, h2, h3⟩, fun z => ?_⟩
      subst z
      exact hij (k.inj i j d e _ g b h (.inr rfl) h1 h2 e1 h3)
  have anti : ∀ b, Av A0 (Pv.put env i d .frz) σ b → Av A0 env σ b := fun b z => z.imp id fun z => (back b z).1
  have na : ¬ Av A0 (Pv.put env i d .frz) σ a := fun z => z.elim e2 fun z => (back a z).2 rfl
  have hσ : σ.set i (some (.ref a)) = σ := by
    obtain ⟨hl, e⟩ := List.getElem?_eq_some_iff.mp e1
    rw [← e]
    exact List.set_getElem_self hl
  refine ⟨by unfold Pv.put; rw [List.length_set]; exact k.len, k.tr, k.g, fun j e z => ?_, fun j e z => ?_, fun j e g z hg => ?_, fun j l e e' g g' b h1 g1 h2 g2 s1 s2 => ?_⟩
  · rcases put_get z with ⟨rfl, rfl, _, _⟩ | ⟨_, z⟩
    · exact ⟨_, e1, (e3.anti anti).rp na⟩
    · obtain ⟨v, q1, q2⟩ := k.frz j e z
      exact ⟨v, q1, q2.anti anti⟩
  · rcases put_get z with ⟨_, _, q, _⟩ | ⟨_, z⟩
    · cases q
    · obtain ⟨v, q1, q2⟩ := k.lent j e z
      refine ⟨v, q1, ?_⟩
      rcases q2 with q2 | ⟨b, p1, p2, p3, p4⟩
      · exact .inl (q2.anti anti)
      · exact .inr ⟨b, p1, p2, fun z => p3 (back b z).1, p4.anti anti⟩
  · rcases put_get z with ⟨_, _, q, _⟩ | ⟨_, z⟩
    · rw [q] at hg; rcases hg with hg | hg <;> cases hg
    · obtain ⟨b, q1, q2, q3⟩ := k.hld j e g z hg
      exact ⟨b, q1, q2, q3.anti anti⟩
  · rcases put_get h1 with ⟨_, _, q, _⟩ | ⟨_, h1⟩
    · rw [q] at g1; rcases g1 with g1 | g1 <;> cases g1
    · rcases put_get h2 with ⟨_, _, q, _⟩ | ⟨_, h2⟩
      · rw [q] at g2; rcases g2 with g2 | g2 <;> cases g2
      · exact k.inj j l e e' g g' b h1 g1 h2 g2 s1 s2
theorem sss_frz {sts : List Stmt} {i : Nat} {iss : List IS} (h2 : SSs R cls Γ N X sts iss) : SSs R cls Γ N X sts (.frz i :: iss) := by
  obtain ⟨t2, p2, q2⟩ := h2
  refine ⟨t2, p2, fun D σ H g A0 env s k o h => ?_⟩
  unfold exs ex at h
  cases q : getI env i with
  | none => rw [q] at h; exact h.elim
  | some p =>
    obtain ⟨d, f⟩ := p
    rw [q] at h
    have z := getI_eq q
    cases f with
    | own =>
      have k' := k.freeze z
      have st : StepOk R (rc cls X g) A0 H σ env H σ (put env i d .frz) s := ⟨o, k', Ext.refl, fun _ z => z, fun j e g a h1 h2 h3 => by
        rcases put_get h1 with ⟨_, _, q, _⟩ | ⟨_, h1⟩
        · rw [q] at h2; rcases h2 with h2 | h2 <;> cases h2
        · exact .inr ⟨e, g, h1, h2, h3, id⟩⟩
      exact q2 D σ H g A0 _ s k' o (h.from st)
    | frz => exact q2 D σ H g A0 env s k o h
    | _ => exact h.elim
end
end Pv
end
section
set_option maxHeartbeats 4000000
namespace Pv
open PySem PySem.Spec PyProof.Rows L2

section
variable {R : RS} {cls : Str → Addr} {Γ : Gm R.S} {X : Cx} {N : Nat}
theorem StepOk.write {c : Rc} {A0 : Addr → Prop} {H1 : Hp} {σ : L2.St} {env : IEnv} {s1 : R.S} {i : Nat} {d d' : D} {a : Addr} {o u : HO} (k : EnvOk c A0 H1 σ env) (o1 : R.ok c.g s1 H1) (h : env[i]? = some (some (d, Fl.own))) (ha : σ[i]? = some (some (.ref a))) (hu : H1 a = some u) (nu : ¬ isT u)
    (hc : CellAt c (Av A0 env σ) (upd H1 a o) a d') : StepOk R c A0 H1 σ env (upd H1 a o) σ (Pv.put env i d' .own) s1 := by
  have hl : i < env.length := (List.getElem?_eq_some_iff.mp h).1
  obtain ⟨a', e1, e2, e3⟩ := k.hld i d _ h (.inr rfl)
  rw [ha] at e1
  cases e1
  have ng : ¬ Gv c a := fun z => e2 (k.g a z)
  have hA : Held env σ a := ⟨i, d, _, h, .inr rfl, ha⟩
  have ext : Ext (fun b => b = a) H1 (upd H1 a o) := Ext.put rfl hu nu
  have wA : ∀ b, b = a → Av A0 env σ b := fun b z => by rw [z]; exact .inr hA
  have th : ∀ b, H1 b ≠ none → upd H1 a o b ≠ none := fun b z => by
    by_cases hb : b = a
    · rw [hb, upd_same]; simp
    · rw [upd_ne hb]; exact z
  have hh : ∀ b, Held (Pv.put env i d' .own) σ b → Held env σ b := fun b z => by
    obtain ⟨j, e, g, h1, h2, h3⟩ := z
    rcases put_get h1 with ⟨rfl, rfl, _, _⟩ | ⟨_, h1⟩
    · exact ⟨i, d, _, h, .inr rfl, h3⟩
    · exact ⟨j, e, g, h1, h2, h3⟩
  have anti : ∀ b, Av A0 (Pv.put env i d' .own) σ b → Av A0 env σ b := fun b z => z.imp id (hh b)
  refine ⟨R.stay (fun b hb w e => by rw [upd_ne (fun z => ng (by rw [← z]; exact hb))]; exact e) o1, ⟨by unfold Pv.put; rw [List.length_set]; exact k.len, fun b z => th b (k.tr b z), k.g, fun j e z => ?_, fun j e z => ?_, fun j e g z hg => ?_, fun j l e e' g g' b h1 g1 h2 g2 s1 s2 => ?_⟩, ext.more fun b z => .inr (by rw [z]; exact ⟨i, d, h, ha⟩), th, fun j e g b h1 h2 h3 => ?_⟩
  · rcases put_get z with ⟨_, _, q, _⟩ | ⟨_, z⟩
    · cases q
    · obtain ⟨v, q1, q2⟩ := k.frz j e z
      exact ⟨v, q1, (q2.ext ext wA).anti anti⟩
  · rcases put_get z with ⟨_, _, q, _⟩ | ⟨_, z⟩
    · cases q
    · obtain ⟨v, q1, q2⟩ := k.lent j e z
      refine ⟨v, q1, ?_⟩
      rcases q2 with q2 | ⟨b, p1, p2, p3, p4⟩
      · exact .inl ((q2.ext ext wA).anti anti)
      · exact .inr ⟨b, p1, p2, fun z => p3 (hh b z), (p4.mono ext wA (fun _ z => .inl z) fun z => p3 (by rw [z]; exact hA)).anti anti⟩
  · rcases put_get z with ⟨rfl, rfl, _, _⟩ | ⟨hij, z⟩
    · exact ⟨a, ha, e2, hc.anti anti⟩
    · obtain ⟨b, q1, q2, q3⟩ := k.hld j e g z hg
      refine ⟨b, q1, q2, (q3.mono ext wA (fun _ z => .inl z) fun hb => ?_).anti anti⟩
      subst hb
      exact hij (k.inj i j d e _ g b h (.inr rfl) z hg ha q1)
  · have orig : ∀ {j : Nat} {e : D} {g : Fl}, (Pv.put env i d' .own)[j]? = some (some (e, g)) → g = .held ∨ g = .own → ∃ e0 g0, env[j]? = some (some (e0, g0)) ∧ (g0 = .held ∨ g0 = .own) := fun {j e g} z hg => by
      rcases put_get z with ⟨rfl, rfl, _, _⟩ | ⟨_, z⟩
      · exact ⟨d, _, h, .inr rfl⟩
      · exact ⟨e, g, z, hg⟩
    obtain ⟨e0, f0, z0, hg0⟩ := orig h1 g1
    obtain ⟨e1', f1, z1, hg1⟩ := orig h2 g2
    exact k.inj j l e0 e1' f0 f1 b z0 hg0 z1 hg1 s1 s2
  · rcases put_get h1 with ⟨rfl, rfl, _, _⟩ | ⟨hij, h1⟩
    · exact .inr ⟨d, _, h, .inr rfl, h3, fun _ => rfl⟩
    · exact .inr ⟨e, g, h1, h2, h3, id⟩
theorem own_cell {c : Rc} {A0 : Addr → Prop} {H : Hp} {σ : L2.St} {env : IEnv} {i : Nat} {l : List D} (k : EnvOk c A0 H σ env) (h : getI env i = some (.lst l, .own)) : ∃ a xs, σ[i]? = some (some (.ref a)) ∧ H a = some (.lst xs) ∧ Rps c (Av A0 env σ) H l xs ∧ l.length ≤ sizeLine ∧ env[i]? = some (some (.lst l, Fl.own)) ∧ Av A0 env σ a := by
  have z := getI_eq h
  obtain ⟨a, e1, e2, xs, e3, e4, e5⟩ := k.hld i _ _ z (.inr rfl)
  exact ⟨a, xs, e1, e3, e5, e4, z, .inr ⟨i, _, _, z, .inr rfl, e1⟩⟩
theorem ss_app {x : Str} {e : Expr} {ie : IE} {i : Nat} {p1 p2 p3 pos : Pos} (h1 : SE R cls Γ X e ie) (hm : md ie ≠ .bor) (hN : X.N[i]? = some x) (hv : Vis X.env.scope x) (hd : (x == ("__debug__" : Str)) = false) (hcd : (x == ("__classdict__" : Str)) = false) (hs : noStar e = true) (hl : (p2.endLine == p3.line) = true) :
    SS R cls Γ N X (.Expr (.Call (.Attribute (.Name x p1) "append" p2) [e] [] p3) pos) (.app i ie) := by
  obtain ⟨t, p, q⟩ := h1
  refine ⟨_, ps_expr (pe_bm PySem.F.plainAttrs_list PySem.F.slot_list_append PySem.F.type_list_append mt_append (pe_var hN hv hd hcd) (pa_cons p pa_nil (star_cons hs)) rfl (by rw [star_cons hs]; rfl) hl (star_cons hs) rfl) rfl, fun D σ H g A0 env s k o h => ?_⟩
  unfold ex at h
  cases q0 : ev Γ ie env s with
  | bad => rw [bind_def, q0] at h; exact h.elim
  | er _ _ _ => rw [bind_def, q0] at h; exact h.elim
  | ok d s1 =>
    rw [bind_def, q0] at h
    have h : PostS R (rc cls X g) A0 H σ env ((match getI env i with
      | some (.lst l, .own) => if l.length < sizeLine then pure (.nx (put env i (.lst (l ++ [d])) .own)) else bad
      | _ => bad : M R.S Out) s1) D := h
    cases hl0 : getI env i with
    | none => rw [hl0] at h; exact h.elim
    | some p0 =>
      obtain ⟨d0, f0⟩ := p0
      rw [hl0] at h
      cases d0 with
      | lst l =>
        cases f0 with
        | own =>
          have h : PostS R (rc cls X g) A0 H σ env ((if l.length < sizeLine then pure (.nx (put env i (.lst (l ++ [d])) .own)) else bad : M R.S Out) s1) D := h
          by_cases hlen : l.length < sizeLine
          · rw [if_pos hlen] at h
            obtain ⟨a, xs, e1, e2, e3, e4, e5, e6⟩ := own_cell k hl0
            refine ⟨_, e1, .inl ⟨rfl, xs, .inl (.inl e2)⟩, ?_⟩
            refine q σ H _ g A0 env s k o ?_
            rw [q0]
            intro v H1 x1 o1 r1
            have k1 := k.next x1 o1
            obtain ⟨a', ys, f1, f2, f3, f4, f5, f6⟩ := own_cell k1 hl0
            rw [e1] at f1
            cases f1
            refine ⟨a, ys, v, rfl, rfl, f2, by rw [f3.length]; exact hlen, ?_⟩
            have wa : ∀ b, b = a → Av A0 env σ b := fun b z => by rw [z]; exact f6
            have xt : Ext (fun b => b = a) H1 (upd H1 a (.lst (ys ++ [v]))) := Ext.put rfl f2 id
            exact h _ _ ((StepOk.expr k1 x1 o1).trans (.write k1 o1 f5 e1 f2 id ⟨_, upd_same, by rw [List.length_append, List.length_singleton]; omega, (f3.append (.one (r1.rp hm k.trA))).ext xt wa⟩))
          · rw [if_neg hlen] at h
            exact h.elim
        | _ => exact h.elim
      | _ => cases f0 <;> exact h.elim

/-! ### loops -/
theorem forD_cons {step : D → IEnv → M R.S Out} {d : D} {ds : List D} {env : IEnv} : forD step (d :: ds) env = step d env >>= fun o => match o with
    | .nx e => forD step ds e
    | .ct e => forD step ds e
    | .bk e => pure (.nx e)
    | .ret v f => pure (.ret v f) := rfl
/-- a body that runs over items -/
theorem for_run {c : Rc} {A0 : Addr → Prop} {H0 H1 : Hp} {σ0 σ1 : L2.St} {env0 env1 : IEnv} {s1 : R.S} {l : List D} {i : Nat} {body : List IS} {tb : TS} {De : Ends} (hc : c.cls = cls) (hK : c.K = X.K)
    (q : ∀ De σ H g A0 env s, EnvOk (rc cls X g) A0 H σ env → R.ok g s H → PostS R (rc cls X g) A0 H σ env (exs Γ N body env s) De → tb De σ H) (st0 : StepOk R c A0 H0 σ0 env0 H1 σ1 env1 s1)
    {fin : Out → M R.S Out} (hf1 : ∀ v f s, fin (.ret v f) s = .ok (.ret v f) s) (hfin : ∀ σ2 H2 e s2, StepOk R c A0 H1 σ1 env1 H2 σ2 e s2 → PostS R c A0 H0 σ0 env0 (fin (.nx e) s2) De → De.nx σ2 H2)
    {n : Nat} {d : D} {v : V} (hd : l[n]? = some d) {σ' : L2.St} {H' : Hp} {env' : IEnv} {s' : R.S} (st : StepOk R c A0 H1 σ1 env1 H' σ' env' s') (rd : Rp c (Av A0 env' σ') H' d v)
    (h : PostS R c A0 H0 σ0 env0 ((forD (fun d e => exs Γ N body (put e i d .frz)) (l.drop n) env' >>= fin) s') De)
    {Nx : L2.St → Hp → Prop} (hN : ∀ σ H env2 s2, StepOk R c A0 H1 σ1 env1 H σ env2 s2 → PostS R c A0 H0 σ0 env0 ((forD (fun d e => exs Γ N body (put e i d .frz)) (l.drop (n + 1)) env2 >>= fin) s2) De → Nx σ H) :
    tb { De with nx := Nx, ct := Nx, bk := De.nx } (σ'.set i (some v)) H' := by
  obtain ⟨cK, ccls, cg⟩ := c
  subst hc hK
  have hl : l.drop n = d :: l.drop (n + 1) := by
    rw [List.drop_eq_getElem_cons (List.getElem?_eq_some_iff.mp hd).1, (List.getElem?_eq_some_iff.mp hd).2]
  rw [hl, forD_cons, bind_assoc', bind_def] at h
  have a : StepOk R ⟨X.K, ccls, cg⟩ A0 H' σ' env' H' (σ'.set i (some v)) (put env' i d .frz) s' := .put st.envk Ext.refl st.ok rd
  have a' := st.trans a
  refine q _ _ _ cg A0 (put env' i d .frz) s' a'.envk a'.ok ?_
  cases z : exs Γ N body (put env' i d .frz) s' with
  | bad => rw [z] at h; exact h
  | er _ _ _ => rw [z] at h; exact h
  | ok u s2 =>
    rw [z] at h
    cases u with
    | nx e => exact fun σ2 H2 b => hN σ2 H2 e s2 (a'.trans b) h
    | ct e => exact fun σ2 H2 b => hN σ2 H2 e s2 (a'.trans b) h
    | bk e => exact fun σ2 H2 b => hfin σ2 H2 e s2 (a'.trans b) h
    | ret d f =>
      intro w H2 b
      have h : PostS R ⟨X.K, ccls, cg⟩ A0 H0 σ0 env0 (fin (.ret d f) s2) De := h
      rw [hf1] at h
      exact h w H2 ((b.from a').from st0)
theorem getI_put {env : IEnv} {i : Nat} {d : D} {f : Fl} (h : i < env.length) : getI (put env i d f) i = some (d, f) := by
  unfold getI put
  rw [List.getElem?_set_self h]
  rfl
/-- a loop's source is held, or it is none of the def's own -/
theorem hold_ok {c : Rc} {A0 : Addr → Prop} {H : Hp} {σ : L2.St} {env env1 : IEnv} {s : R.S} {hold : Option Nat} (k : EnvOk c A0 H σ env) (o : R.ok c.g s H) (h : holdOn env hold = some env1) :
    StepOk R c A0 H σ env H σ env1 s ∧ (∀ a, Owns env1 σ a → Owns env σ a) ∧ (∀ j, hold = some j → ∀ d f a, env[j]? = some (some (d, f)) → σ[j]? = some (some (.ref a)) → (f = .held ∨ f = .own) → ¬ Owns env1 σ a) := by
  cases hold with
  | none =>
    have h : some env = some env1 := h
    cases h
    exact ⟨.refl k o, fun _ z => z, fun j e => nomatch e⟩
  | some j =>
    have h : (match getI env j with
      | some (d, .own) => some (put env j d .held)
      | some (_, .frz) => some env
      | some (_, .lent) => some env
      | _ => none) = some env1 := h
    cases q : getI env j with
    | none => rw [q] at h; cases h
    | some p =>
      obtain ⟨d, f⟩ := p
      rw [q] at h
      have z := getI_eq q
      cases f with
      | frz =>
        cases h
        refine ⟨.refl k o, fun _ z => z, fun j' e d' f' a h1 h2 h3 => ?_⟩
        cases e
        rw [z] at h1
        cases h1
        rcases h3 with h3 | h3 <;> cases h3
      | lent =>
        cases h
        refine ⟨.refl k o, fun _ z => z, fun j' e d' f' a h1 h2 h3 => ?_⟩
        cases e
        rw [z] at h1
        cases h1
        rcases h3 with h3 | h3 <;> cases h3
      | held => cases h
      | own =>
        have h : some (put env j d .held) = some env1 := h
        cases h
        have ow : ∀ a, Owns (put env j d .held) σ a → Owns env σ a := fun a ⟨i, e, h1, h2⟩ => by
          rcases put_get h1 with ⟨_, _, q, _⟩ | ⟨_, h1⟩
          · cases q
          · exact ⟨i, e, h1, h2⟩
        refine ⟨⟨o, k.flag z (.inr rfl) (.inl rfl), Ext.refl, fun _ z => z, fun i e f a h1 h2 h3 => ?_⟩, ow, fun j' e d' f' a h1 h2 h3 ho => ?_⟩
        · rcases put_get h1 with ⟨rfl, rfl, q, _⟩ | ⟨_, h1⟩
          · exact .inr ⟨e, _, z, .inr rfl, h3, fun _ => rfl⟩
          · exact .inr ⟨e, f, h1, h2, h3, id⟩
        · cases e
          obtain ⟨i, e, g1, g2⟩ := ho
          rcases put_get g1 with ⟨_, _, q, _⟩ | ⟨hij, g1⟩
          · cases q
          · exact hij (k.inj j i d e _ _ a z (.inr rfl) g1 (.inr rfl) h2 g2)
/-- behind the loop the source is the def's own again -/
theorem hold_off {c : Rc} {A0 : Addr → Prop} {H H1 : Hp} {σ σ1 : L2.St} {env env1 e1 e2 : IEnv} {s s1 : R.S} {hold : Option Nat} (h : holdOn env hold = some env1) (a : StepOk R c A0 H σ env1 H1 σ1 e1 s1) (h2 : holdOff env hold (.nx e1) = some (.nx e2)) (k : EnvOk c A0 H σ env) (o : R.ok c.g s H) : StepOk R c A0 H σ env H1 σ1 e2 s1 := by
  have a' := (hold_ok k o h).1.trans a
  cases hold with
  | none =>
    have h2 : some (Out.nx e1) = some (.nx e2) := h2
    cases h2
    exact a'
  | some j =>
    have h2 : (match getI env j, getI e1 j with
      | some (_, .own), some (d, .held) => some (Out.nx (put e1 j d .own))
      | some (_, .own), _ => none
      | _, _ => some (.nx e1)) = some (.nx e2) := h2
    cases q0 : getI env j with
    | none => rw [q0] at h2; cases h2; exact a'
    | some p =>
      obtain ⟨d, f⟩ := p
      rw [q0] at h2
      cases f with
      | own =>
        cases q1 : getI e1 j with
        | none => rw [q1] at h2; cases h2
        | some p1 =>
          obtain ⟨d1, f1⟩ := p1
          rw [q1] at h2
          cases f1 with
          | held =>
            have h2 : some (Out.nx (put e1 j d1 .own)) = some (.nx e2) := h2
            cases h2
            have z := getI_eq q1
            refine ⟨a'.ok, a'.envk.flag z (.inl rfl) (.inr rfl), a'.ext, a'.there, fun i e f b h1 h2 h3 => ?_⟩
            rcases put_get h1 with ⟨rfl, rfl, q, _⟩ | ⟨_, h1⟩
            · rcases a'.own j e _ b z (.inl rfl) h3 with w | ⟨d0, f0, g1, g2, g3, g4⟩
              · exact .inl w
              · have z0 := getI_eq q0
                rw [z0] at g1
                cases g1
                exact .inr ⟨d, _, z0, .inr rfl, g3, fun _ => rfl⟩
            · exact a'.own i e f b h1 h2 h3
          | _ => cases h2
      | _ => cases h2; exact a'

def holdFor (src : IE) (hold : Option Nat) : Bool := match src, hold with
  | .bor j, some i => i == j
  | .bor _, none => false
  | _, none => true
  | _, some _ => false
theorem holdOff_nx {was : IEnv} {hold : Option Nat} {e : IEnv} {o : Out} (h : holdOff was hold (.nx e) = some o) : ∃ e2, o = .nx e2 := by
  unfold holdOff at h
  cases hold with
  | none => cases h; exact ⟨_, rfl⟩
  | some i =>
    dsimp only at h
    split at h
    · cases h; exact ⟨_, rfl⟩
    · cases h
    · cases h; exact ⟨_, rfl⟩
theorem for_core {g : List Addr} {A0 : Addr → Prop} {H H1 : Hp} {σ : L2.St} {env env1 : IEnv} {s1 : R.S} {hold : Option Nat} {l : List D} {xs : List V} {a : Addr} {i : Nat} {body : List IS} {tb : TS} {De : Ends} {s : R.S}
    (qb : ∀ De σ H g A0 env s, EnvOk (rc cls X g) A0 H σ env → R.ok g s H → PostS R (rc cls X g) A0 H σ env (exs Γ N body env s) De → tb De σ H)
    (k : EnvOk (rc cls X g) A0 H σ env) (o : R.ok g s H) (x1 : Ext (Gv (rc cls X g)) H H1) (o1 : R.ok g s1 H1) (k1 : EnvOk (rc cls X g) A0 H1 σ env) (hon : holdOn env hold = some env1) (hr : Rps (rc cls X g) (Av A0 env σ) H1 l xs)
    (ha : (H1 a = some (.lst xs) ∧ ¬ Gv (rc cls X g) a ∧ ¬ Owns env1 σ a) ∨ SqT X.K H1 a xs)
    (h : PostS R (rc cls X g) A0 H σ env ((forD (fun d e => exs Γ N body (put e i d .frz)) l env1 >>= fun o => opt (holdOff env hold o)) s1) De) :
    ((∃ xs, SqL X.K H1 a xs) ∧ ∃ W : Nat → Nat → L2.St → Hp → Prop, (∃ m, W 0 m σ H1) ∧ ∀ i' m σ H, W i' m σ H →
      ((Itl X.K a).stop i' H ∧ De.nx σ H) ∨ ((Itl X.K a).go i' H ∧ ∃ N : L2.St → Hp → Prop, (∀ σ' H', N σ' H' → ∃ m', m' < m ∧ W (i' + 1) m' σ' H') ∧ ∀ x H', (Itl X.K a).yld i' H x H' → gName i x σ H' fun σ2 H2 => tb { De with nx := N, ct := N, bk := De.nx } σ2 H2)) ∨
    ((∃ xs, SqT X.K H1 a xs) ∧ ∃ W : Nat → Nat → L2.St → Hp → Prop, (∃ m, W 0 m σ H1) ∧ ∀ i' m σ H, W i' m σ H →
      ((Itt X.K a).stop i' H ∧ De.nx σ H) ∨ ((Itt X.K a).go i' H ∧ ∃ N : L2.St → Hp → Prop, (∀ σ' H', N σ' H' → ∃ m', m' < m ∧ W (i' + 1) m' σ' H') ∧ ∀ x H', (Itt X.K a).yld i' H x H' → gName i x σ H' fun σ2 H2 => tb { De with nx := N, ct := N, bk := De.nx } σ2 H2)) := by
  obtain ⟨sth, _, _⟩ := hold_ok k1 o1 hon
  have st0 : StepOk R (rc cls X g) A0 H σ env H1 σ env1 s1 := (StepOk.expr k1 x1 o1).trans sth
  have hl : xs.length = l.length := hr.length
  have fin : ∀ σ2 H2 e s2, StepOk R (rc cls X g) A0 H1 σ env1 H2 σ2 e s2 → PostS R (rc cls X g) A0 H σ env ((opt (holdOff env hold (.nx e)) : M R.S Out) s2) De → De.nx σ2 H2 := by
    intro σ2 H2 e s2 b hp
    cases z : holdOff env hold (.nx e) with
    | none => rw [z] at hp; exact hp.elim
    | some u =>
      obtain ⟨e2, rfl⟩ := holdOff_nx z
      rw [z] at hp
      exact hp σ2 H2 ((StepOk.expr k1 x1 o1).trans (hold_off hon b z k1 o1))
  have ret : ∀ v f s, (fun o => (opt (holdOff env hold o) : M R.S Out)) (.ret v f) s = .ok (.ret v f) s := fun _ _ _ => rfl
  have turn : ∀ {n : Nat} {x : V} {σ' : L2.St} {H' : Hp}, xs[n]? = some x → (∃ env' s', StepOk R (rc cls X g) A0 H1 σ env1 H' σ' env' s' ∧ PostS R (rc cls X g) A0 H σ env ((forD (fun d e => exs Γ N body (put e i d .frz)) (l.drop n) env' >>= fun o => opt (holdOff env hold o)) s') De) →
      tb { De with nx := (fun σ' H' => ∃ env' s', StepOk R (rc cls X g) A0 H1 σ env1 H' σ' env' s' ∧ PostS R (rc cls X g) A0 H σ env ((forD (fun d e => exs Γ N body (put e i d .frz)) (l.drop (n + 1)) env' >>= fun o => opt (holdOff env hold o)) s') De), ct := (fun σ' H' => ∃ env' s', StepOk R (rc cls X g) A0 H1 σ env1 H' σ' env' s' ∧ PostS R (rc cls X g) A0 H σ env ((forD (fun d e => exs Γ N body (put e i d .frz)) (l.drop (n + 1)) env' >>= fun o => opt (holdOff env hold o)) s') De), bk := De.nx } (σ'.set i (some x)) H' := by
    rintro n x σ' H' hn ⟨env', s', st, hp⟩
    obtain ⟨d, hd, rd⟩ := hr.get hn
    have rd' : Rp (rc cls X g) (Av A0 env' σ') H' d x := by
      refine Rp.mono st.ext (fun b w => ?_) (fun b w => ?_) d x rd
      · rcases w with w | ⟨j, e, w1, w2⟩
        · exact k1.gA b w
        · obtain ⟨j', e', z1, z2⟩ := (hold_ok k1 o1 hon).2.1 b ⟨j, e, w1, w2⟩
          exact .inr ⟨j', e', _, z1, .inr rfl, z2⟩
      · rcases w with w | ⟨j, e, f, w1, w2, w3⟩
        · exact .inl (.inl w)
        · rcases (sth.trans st).own j e f b w1 w2 w3 with z | ⟨d0, f0, z1, z2, z3, _⟩
          · exact .inr z
          · exact .inl (.inr ⟨j, d0, f0, z1, z2, z3⟩)
    exact for_run (c := rc cls X g) (fin := fun o => opt (holdOff env hold o)) rfl rfl qb st0 ret fin hd st rd' hp (fun σ2 H2 e s2 b hb => ⟨e, s2, b, hb⟩)
  have h0 : ∃ env' s', StepOk R (rc cls X g) A0 H1 σ env1 H1 σ env' s' ∧ PostS R (rc cls X g) A0 H σ env ((forD (fun d e => exs Γ N body (put e i d .frz)) (l.drop 0) env' >>= fun o => opt (holdOff env hold o)) s') De :=
    ⟨env1, s1, .refl sth.envk o1, by rw [List.drop_zero]; exact h⟩
  have last : ∀ σ' H', (∃ env' s', StepOk R (rc cls X g) A0 H1 σ env1 H' σ' env' s' ∧ PostS R (rc cls X g) A0 H σ env ((forD (fun d e => exs Γ N body (put e i d .frz)) (l.drop xs.length) env' >>= fun o => opt (holdOff env hold o)) s') De) → De.nx σ' H' := by
    rintro σ' H' ⟨env', s', st, hp⟩
    rw [hl, List.drop_length] at hp
    exact fin σ' H' env' s' st hp
  rcases ha with ⟨ha, ng, no⟩ | ha
  · refine .inl ⟨⟨xs, .inl (.inl ha)⟩, for_list (K := X.K) (a := a) (xs := xs) (fun n σ' H' => ∃ env' s', StepOk R (rc cls X g) A0 H1 σ env1 H' σ' env' s' ∧ PostS R (rc cls X g) A0 H σ env ((forD (fun d e => exs Γ N body (put e i d .frz)) (l.drop n) env' >>= fun o => opt (holdOff env hold o)) s') De) h0 ?_ ?_ last⟩
    · rintro n σ' H' _ ⟨env', s', st, _⟩
      exact .inl (.inl (st.ext a _ ha (.inl fun z => z.elim ng no)))
    · intro n x σ' H' hn hp
      exact turn hn hp
  · refine .inr ⟨⟨xs, ha⟩, for_tup (K := X.K) (a := a) (xs := xs) (fun n σ' H' => ∃ env' s', StepOk R (rc cls X g) A0 H1 σ env1 H' σ' env' s' ∧ PostS R (rc cls X g) A0 H σ env ((forD (fun d e => exs Γ N body (put e i d .frz)) (l.drop n) env' >>= fun o => opt (holdOff env hold o)) s') De) h0 ?_ ?_ last⟩
    · rintro n σ' H' _ ⟨env', s', st, _⟩
      exact st.ext.sqt ha
    · intro n x σ' H' hn hp
      exact turn hn hp
theorem seq_rp {d : D} {l : List D} {c : Rc} {A : Addr → Prop} {H : Hp} {v : V} (h : seqOf d = some l) (r : Rp c A H d v) : ∃ a xs, v = .ref a ∧ Rps c A H l xs ∧ ((H a = some (.lst xs) ∧ ¬ A a) ∨ SqT c.K H a xs) := by
  cases d with
  | lst l' =>
    cases h
    obtain ⟨a, xs, e1, e2, e3, e4, e5⟩ := r
    exact ⟨a, xs, e1, e5, .inl ⟨e2, e3⟩⟩
  | tup l' =>
    have h : (if l'.length ≤ sizeLine then some l' else none) = some l := h
    split at h
    · cases h
      obtain ⟨a, xs, e1, e2, e4⟩ := r
      exact ⟨a, xs, e1, e4, .inr e2⟩
    · cases h
  | _ => cases h
theorem ss_forL {iter : Expr} {x : Str} {src : IE} {i : Nat} {b : List Stmt} {body : List IS} {pos tpos : Pos} (hp : PassesOwn (model X.prog X.w) X.A X.env X.xe) (hc : X.calm = true) (nd : X.N.Nodup) (hi : X.N[i]? = some x) (hx : Loc X.env.scope x)
    (hf : X.fn x = true ∨ X.env.scope.names.lookup x = some .local) (h1 : SE R cls Γ X iter src) (hm : md src ≠ .bor) (h2 : SSs R cls Γ N X b body) (hs : ∀ x, foldedSetIterable iter X.env x = pure x) :
    SS R cls Γ N X (.For (.Name x tpos) iter b [] pos) (.forL i src none body) := by
  obtain ⟨t, pe, q⟩ := h1
  obtain ⟨tb, pb, qb⟩ := h2
  refine ⟨_, ps_for hp hc (pi_seq pe) (pg_name nd hi hx hf) pb hs, fun De σ H g A0 env s k o h => ?_⟩
  unfold ex at h
  refine SE.bindS q k o h fun d s1 v H1 x1 o1 r1 k1 h => ?_
  obtain ⟨l, hl, h2⟩ := opt_ofS h
  obtain ⟨a, xs, e1, e2, e3⟩ := seq_rp hl (r1.rp hm k.trA)
  refine ⟨a, e1, for_core qb k o x1 o1 k1 (hold := none) rfl e2 (e3.imp (fun ⟨z1, z2⟩ => ⟨z1, fun z => z2 (k.gA a z), fun ⟨j, e, w1, w2⟩ => z2 (.inr ⟨j, e, _, w1, .inr rfl, w2⟩)⟩) id) h2⟩
theorem ss_forB {x y : Str} {i j : Nat} {b : List Stmt} {body : List IS} {pos tpos ypos : Pos} (hp : PassesOwn (model X.prog X.w) X.A X.env X.xe) (hc : X.calm = true) (nd : X.N.Nodup) (hi : X.N[i]? = some x) (hx : Loc X.env.scope x)
    (hf : X.fn x = true ∨ X.env.scope.names.lookup x = some .local) (hN : X.N[j]? = some y) (hv : Vis X.env.scope y) (hd : (y == ("__debug__" : Str)) = false) (hcd : (y == ("__classdict__" : Str)) = false) (h2 : SSs R cls Γ N X b body) :
    SS R cls Γ N X (.For (.Name x tpos) (.Name y ypos) b [] pos) (.forL i (.bor j) (some j) body) := by
  obtain ⟨tb, pb, qb⟩ := h2
  refine ⟨_, ps_for hp hc (pi_seq (pe_var hN hv hd hcd)) (pg_name nd hi hx hf) pb (fun _ => rfl), fun De σ H g A0 env s k o h => ?_⟩
  unfold ex ev at h
  cases q : getI env j with
  | none => rw [q] at h; exact h.elim
  | some p =>
    obtain ⟨d, f⟩ := p
    rw [q] at h
    obtain ⟨l, hl, h2⟩ := opt_ofS (show PostS R (rc cls X g) A0 H σ env ((opt (seqOf d) >>= fun l => opt (holdOn env (some j)) >>= fun env1 => forD (fun d e => exs Γ N body (put e i d .frz)) l env1 >>= fun o => opt (holdOff env (some j) o)) s) De from h)
    obtain ⟨env1, hon, h3⟩ := opt_ofS h2
    have z := getI_eq q
    obtain ⟨_, ow, hj⟩ := hold_ok k o hon
    have own_held : ∀ {a : Addr}, Owns env1 σ a → Held env σ a := fun {a} w => by
      obtain ⟨j', e, z1, z2⟩ := ow a w
      exact ⟨j', e, _, z1, .inr rfl, z2⟩
    suffices core : ∃ v a xs, σ[j]? = some (some v) ∧ v = .ref a ∧ Rps (rc cls X g) (Av A0 env σ) H l xs ∧ ((H a = some (.lst xs) ∧ ¬ Gv (rc cls X g) a ∧ ¬ Owns env1 σ a) ∨ SqT X.K H a xs) by
      obtain ⟨v, a, xs, e0, e1, e2, e3⟩ := core
      exact ⟨v, e0, a, e1, for_core qb k o Ext.refl o k hon e2 e3 h3⟩
    have byRp : ∀ {v : V}, σ[j]? = some (some v) → Rp (rc cls X g) (Av A0 env σ) H d v → ∃ v a xs, σ[j]? = some (some v) ∧ v = .ref a ∧ Rps (rc cls X g) (Av A0 env σ) H l xs ∧ ((H a = some (.lst xs) ∧ ¬ Gv (rc cls X g) a ∧ ¬ Owns env1 σ a) ∨ SqT X.K H a xs) := fun {v} e0 r => by
      obtain ⟨a, xs, e1, e2, e3⟩ := seq_rp hl r
      exact ⟨v, a, xs, e0, e1, e2, e3.imp (fun ⟨z1, z2⟩ => ⟨z1, fun z => z2 (k.gA a z), fun w => z2 (.inr (own_held w))⟩) id⟩
    have byCell : ∀ {a : Addr}, σ[j]? = some (some (.ref a)) → ¬ Gv (rc cls X g) a → ¬ Owns env1 σ a → CellAt (rc cls X g) (Av A0 env σ) H a d → ∃ v a xs, σ[j]? = some (some v) ∧ v = .ref a ∧ Rps (rc cls X g) (Av A0 env σ) H l xs ∧ ((H a = some (.lst xs) ∧ ¬ Gv (rc cls X g) a ∧ ¬ Owns env1 σ a) ∨ SqT X.K H a xs) := fun {a} e0 n1 n2 cc => by
      cases d with
      | lst l' =>
        cases hl
        obtain ⟨xs, e2, e3, e4⟩ := cc
        exact ⟨_, a, xs, e0, rfl, e4, .inl ⟨e2, n1, n2⟩⟩
      | dct l' => cases hl
      | ins _ l' => cases hl
      | _ => exact cc.elim
    cases f with
    | frz =>
      obtain ⟨v, e0, r⟩ := k.frz j d z
      exact byRp e0 r
    | lent =>
      obtain ⟨v, e0, r⟩ := k.lent j d z
      rcases r with r | ⟨a, e1, n1, n2, cc⟩
      · exact byRp e0 r
      · subst e1
        exact byCell e0 n1 (fun w => n2 (own_held w)) cc
    | held =>
      obtain ⟨a, e0, n1, cc⟩ := k.hld j d _ z (.inl rfl)
      exact byCell e0 (fun w => n1 (k.g a w)) (hj j rfl d _ a z e0 (.inl rfl)) cc
    | own =>
      obtain ⟨a, e0, n1, cc⟩ := k.hld j d _ z (.inr rfl)
      exact byCell e0 (fun w => n1 (k.g a w)) (hj j rfl d _ a z e0 (.inr rfl)) cc
theorem rngL_get {a b : Int} {n : Nat} (h : n < (b - a).toNat) : (rngL a b)[n]? = some (.int (a + (n : Nat))) := by
  unfold rngL
  rw [List.getElem?_map, List.getElem?_range h]
  rfl
theorem rngL_len {a b : Int} : (rngL a b).length = (b - a).toNat := by
  unfold rngL
  rw [List.length_map, List.length_range]
theorem range_core {g : List Addr} {A0 : Addr → Prop} {H H1 : Hp} {σ : L2.St} {env : IEnv} {s1 : R.S} {a b : Int} {i : Nat} {body : List IS} {tb : TS} {De : Ends}
    (qb : ∀ De σ H g A0 env s, EnvOk (rc cls X g) A0 H σ env → R.ok g s H → PostS R (rc cls X g) A0 H σ env (exs Γ N body env s) De → tb De σ H)
    (st0 : StepOk R (rc cls X g) A0 H σ env H1 σ env s1) (h : PostS R (rc cls X g) A0 H σ env (forD (fun d e => exs Γ N body (put e i d .frz)) (rngL a b) env s1) De) :
    ∃ W : Nat → Nat → L2.St → Hp → Prop, (∃ m, W 0 m σ H1) ∧ ∀ i' m σ H, W i' m σ H →
      ((Itr a (b - a).toNat).stop i' H ∧ De.nx σ H) ∨ ((Itr a (b - a).toNat).go i' H ∧ ∃ N : L2.St → Hp → Prop, (∀ σ' H', N σ' H' → ∃ m', m' < m ∧ W (i' + 1) m' σ' H') ∧ ∀ x H', (Itr a (b - a).toNat).yld i' H x H' → gName i x σ H' fun σ2 H2 => tb { De with nx := N, ct := N, bk := De.nx } σ2 H2) := by
  have fin : ∀ σ2 H2 e s2, StepOk R (rc cls X g) A0 H1 σ env H2 σ2 e s2 → PostS R (rc cls X g) A0 H σ env ((pure (.nx e) : M R.S Out) s2) De → De.nx σ2 H2 := fun σ2 H2 e s2 z hp => hp σ2 H2 (st0.trans z)
  have h : PostS R (rc cls X g) A0 H σ env ((forD (fun d e => exs Γ N body (put e i d .frz)) (rngL a b) env >>= fun o => (pure o : M R.S Out)) s1) De := by
    rw [bind_pure']
    exact h
  refine for_range (lo := a) (n := (b - a).toNat) (fun n σ' H' => ∃ env' s', StepOk R (rc cls X g) A0 H1 σ env H' σ' env' s' ∧ PostS R (rc cls X g) A0 H σ env ((forD (fun d e => exs Γ N body (put e i d .frz)) ((rngL a b).drop n) env' >>= fun o => (pure o : M R.S Out)) s') De) ⟨env, s1, .refl st0.envk st0.ok, by rw [List.drop_zero]; exact h⟩ ?_ ?_
  · rintro n σ' H' hn ⟨env', s', st, hp⟩
    exact for_run (c := rc cls X g) (fin := fun o => pure o) rfl rfl qb st0 (fun _ _ _ => rfl) fin (rngL_get hn) st rfl hp (fun σ2 H2 e s2 b hb => ⟨e, s2, b, hb⟩)
  · rintro σ' H' ⟨env', s', st, hp⟩
    rw [← rngL_len (a := a) (b := b), List.drop_length] at hp
    exact fin σ' H' env' s' st hp
theorem ss_forR1 {e : Expr} {x : Str} {ih : IE} {i : Nat} {b : List Stmt} {body : List IS} {pos tpos p2 p3 : Pos} (hp : PassesOwn (model X.prog X.w) X.A X.env X.xe) (hc : X.calm = true) (nd : X.N.Nodup) (hi : X.N[i]? = some x) (hx : Loc X.env.scope x)
    (hf : X.fn x = true ∨ X.env.scope.names.lookup x = some .local) (hg : Gl X "range") (hm : X.mg "range" = none) (h1 : SE R cls Γ X e ih) (hs : noStar e = true) (h2 : SSs R cls Γ N X b body) :
    SS R cls Γ N X (.For (.Name x tpos) (.Call (.Name "range" p2) [e] [] p3) b [] pos) (.forR i none ih body) := by
  obtain ⟨t, pe, q⟩ := h1
  obtain ⟨tb, pb, qb⟩ := h2
  refine ⟨_, ps_for hp hc (pi_range1 hg hm (pa_cons pe pa_nil (star_cons hs)) (star_cons hs)) (pg_name nd hi hx hf) pb (fun _ => rfl), fun De σ H g A0 env s k o h => ?_⟩
  unfold ex at h
  rw [pure_bind'] at h
  refine SE.bindS q k o h fun d s1 v H1 x1 o1 r1 k1 h => ?_
  cases d with
  | int j =>
    have h : PostS R (rc cls X g) A0 H σ env ((if -(2 ^ 62) ≤ (0 : Int) ∧ (0 : Int) < 2 ^ 62 ∧ -(2 ^ 62) ≤ j ∧ j < 2 ^ 62 then forD (fun d e => exs Γ N body (put e i d .frz)) (rngL 0 j) env else bad : M R.S Out) s1) De := h
    split at h
    · rename_i z
      refine ⟨j, by rw [show v = .int j from Rm.flat r1 rfl], z.2.2.1, z.2.2.2, ?_⟩
      have w := range_core qb (StepOk.expr k1 x1 o1) h
      rw [Int.sub_zero] at w
      exact w
    · exact h.elim
  | _ => exact h.elim
theorem ss_forR2 {e1 e2 : Expr} {x : Str} {il ih : IE} {i : Nat} {b : List Stmt} {body : List IS} {pos tpos p2 p3 : Pos} (hp : PassesOwn (model X.prog X.w) X.A X.env X.xe) (hc : X.calm = true) (nd : X.N.Nodup) (hi : X.N[i]? = some x) (hx : Loc X.env.scope x)
    (hf : X.fn x = true ∨ X.env.scope.names.lookup x = some .local) (hg : Gl X "range") (hm : X.mg "range" = none) (h0 : SE R cls Γ X e1 il) (h1 : SE R cls Γ X e2 ih) (hs1 : noStar e1 = true) (hs : noStar e2 = true) (h2 : SSs R cls Γ N X b body) :
    SS R cls Γ N X (.For (.Name x tpos) (.Call (.Name "range" p2) [e1, e2] [] p3) b [] pos) (.forR i (some il) ih body) := by
  obtain ⟨t0, pe0, q0⟩ := h0
  obtain ⟨t, pe, q⟩ := h1
  obtain ⟨tb, pb, qb⟩ := h2
  refine ⟨_, ps_for hp hc (pi_range2 hg hm (pa_cons pe0 (pa_cons pe pa_nil (star_cons hs)) (star_cons hs1)) (by rw [star_cons hs1, star_cons hs]; rfl) (by rw [star_cons hs]; rfl)) (pg_name nd hi hx hf) pb (fun _ => rfl), fun De σ H g A0 env s k o h => ?_⟩
  unfold ex at h
  refine SE.bindS q0 k o h fun d0 s0 v0 H0 x0 o0 r0 k0 h => ?_
  refine SE.bindS q k0 o0 h fun d s1 v H1 x1 o1 r1 k1 h => ?_
  cases d0 with
  | int a =>
    cases d with
    | int j =>
      have h : PostS R (rc cls X g) A0 H σ env ((if -(2 ^ 62) ≤ a ∧ a < 2 ^ 62 ∧ -(2 ^ 62) ≤ j ∧ j < 2 ^ 62 then forD (fun d e => exs Γ N body (put e i d .frz)) (rngL a j) env else bad : M R.S Out) s1) De := h
      split at h
      · rename_i z
        exact ⟨a, j, by rw [show v0 = .int a from Rm.flat r0 rfl, show v = .int j from Rm.flat r1 rfl], z, range_core qb (StepOk.expr k1 (x0.trans x1) o1) h⟩
      · exact h.elim
    | _ => exact h.elim
  | _ => exact h.elim
/-- while, at most N turns -/
theorem ss_whl {c : Expr} {ic : IE} {b : List Stmt} {body : List IS} {pos : Pos} (hp : PassesOwn (model X.prog X.w) X.A X.env X.xe) (h1 : ST R cls Γ X c ic) (h2 : SSs R cls Γ N X b body) : SS R cls Γ N X (.While c b [] pos) (.whl ic body) := by
  obtain ⟨t, pe, q⟩ := h1
  obtain ⟨tb, pb, qb⟩ := h2
  refine ⟨_, ps_while hp pe pb, fun De σ H g A0 env s k o h => ?_⟩
  unfold ex at h
  refine ⟨fun m σ' H' => ∃ env' s', StepOk R (rc cls X g) A0 H σ env H' σ' env' s' ∧ PostS R (rc cls X g) A0 H σ env (whlN (fun e => ev Γ ic e >>= truth >>= fun x => if x = true then exs Γ N body e >>= fun o => pure (some o) else pure none) m env' s') De, ⟨N, env, s, .refl k o, by simpa using h⟩, ?_⟩
  rintro m σ1 H1 ⟨env1, s1, st1, hp1⟩
  cases m with
  | zero => exact hp1.elim
  | succ m =>
    have hp1 : PostS R (rc cls X g) A0 H σ env ((((ev Γ ic env1 >>= truth) >>= fun x => if x = true then exs Γ N body env1 >>= fun o => pure (some o) else pure none) >>= fun o => match o with
      | none => pure (.nx env1)
      | some (.nx e) => whlN (fun e => ev Γ ic e >>= truth >>= fun x => if x = true then exs Γ N body e >>= fun o => pure (some o) else pure none) m e
      | some (.ct e) => whlN (fun e => ev Γ ic e >>= truth >>= fun x => if x = true then exs Γ N body e >>= fun o => pure (some o) else pure none) m e
      | some (.bk e) => pure (.nx e)
      | some (.ret v f) => pure (.ret v f)) s1) De := hp1
    rw [bind_assoc'] at hp1
    refine ST.bindS q st1.envk st1.ok hp1 fun z s2 H2 x2 o2 k2 hp2 => ?_
    have st2 := st1.trans (StepOk.expr k2 x2 o2)
    cases z with
    | false =>
      rw [if_neg Bool.false_ne_true] at hp2 ⊢
      exact hp2 σ1 H2 st2
    | true =>
      rw [if_pos rfl] at hp2 ⊢
      refine ⟨fun σ' H' => ∃ env' s', StepOk R (rc cls X g) A0 H σ env H' σ' env' s' ∧ PostS R (rc cls X g) A0 H σ env (whlN (fun e => ev Γ ic e >>= truth >>= fun x => if x = true then exs Γ N body e >>= fun o => pure (some o) else pure none) m env' s') De, fun σ' H' z => ⟨m, Nat.lt_succ_self m, z⟩, ?_⟩
      rw [bind_assoc', bind_def] at hp2
      refine qb _ σ1 H2 g A0 env1 s2 k2 o2 ?_
      cases w : exs Γ N body env1 s2 with
      | bad => rw [w] at hp2; exact hp2
      | er _ _ _ => rw [w] at hp2; exact hp2
      | ok u s3 =>
        rw [w] at hp2
        cases u with
        | nx e => exact fun σ3 H3 b => ⟨e, s3, st2.trans b, hp2⟩
        | ct e => exact fun σ3 H3 b => ⟨e, s3, st2.trans b, hp2⟩
        | bk e => exact fun σ3 H3 b => hp2 σ3 H3 (st2.trans b)
        | ret d f => exact fun v H3 b => hp2 v H3 (b.from st2)
end
end Pv
end
section
set_option maxHeartbeats 1000000
namespace Pv
open PySem PySem.Spec PyProof.Rows L2

section
variable {R : RS} {cls : Str → Addr} {Γ : Gm R.S} {X : Cx} {N : Nat}
theorem wr_av {c : Rc} {A0 : Addr → Prop} {H : Hp} {σ : L2.St} {env : IEnv} (k : EnvOk c A0 H σ env) : ∀ a, Wr c env σ a → Av A0 env σ a := fun a w => wr_in k w
theorem av_step {c : Rc} {A0 : Addr → Prop} {H1 H' : Hp} {σ σ' : L2.St} {env env' : IEnv} {s' : R.S} (st : StepOk R c A0 H1 σ env H' σ' env' s') : ∀ a, Av A0 env' σ' a → Av A0 env σ a ∨ H1 a = none := fun b w => by
  rcases w with w | ⟨j, e, f, w1, w2, w3⟩
  · exact .inl (.inl w)
  · rcases st.own j e f b w1 w2 w3 with z | ⟨d0, f0, z1, z2, z3, _⟩
    · exact .inr z
    · exact .inl (.inr ⟨j, d0, f0, z1, z2, z3⟩)
/-- for over anything that is walked -/
theorem ss_forG {tgE iter : Expr} {vis : Str → Bool} {tg : Tg} {src : IE} {b : List Stmt} {body : List IS} {pos : Pos} (hp : PassesOwn (model X.prog X.w) X.A X.env X.xe) (hc : X.calm = true) (nd : X.N.Nodup) (hv : VisOk X vis) (ht : tgX vis X.N tg tgE = true)
    (h1 : SI R cls Γ X true tgE iter src) (h2 : SSs R cls Γ N X b body) (hs : ∀ x, foldedSetIterable iter X.env x = pure x) :
    SS R cls Γ N X (.For tgE iter b [] pos) (.forG tg src body) := by
  obtain ⟨wi, pe, q⟩ := h1
  obtain ⟨tb, pb, qb⟩ := h2
  refine ⟨_, ps_for hp hc pe (pg_tg hc nd hv ht) pb hs, fun De σ H g A0 env s k o h => ?_⟩
  have h : PostS R (rc cls X g) A0 H σ env (((if lts env src = true then pure () else bad : M R.S Unit) >>= fun _ => (ev Γ src env >>= fun d => opt (seqOf d)) >>= fun l => forD (fun d e => onT tg d e fun e => exs Γ N body e) l env) s) De := by
    conv at h => arg 7; unfold ex
    simpa using h
  by_cases hlt : lts env src = true
  rotate_left
  · rw [if_neg hlt] at h
    exact h.elim
  rw [if_pos hlt] at h
  have h : PostS R (rc cls X g) A0 H σ env (((ev Γ src env >>= fun d => opt (seqOf d)) >>= fun l => forD (fun d e => onT tg d e fun e => exs Γ N body e) l env) s) De := h
  show wi σ H _
  refine q σ H _ g A0 env s (fun _ => hlt) k o ?_
  rw [bind_def] at h
  cases hq : (ev Γ src env >>= fun d => opt (seqOf d)) s with
  | bad => rw [hq] at h; exact h
  | er _ _ _ => rw [hq] at h; exact h
  | ok l s1 =>
    rw [hq] at h
    have h : PostS R (rc cls X g) A0 H σ env (forD (fun d e => onT tg d e fun e => exs Γ N body e) l env s1) De := h
    intro J H1 x1 o1 hlen w
    obtain ⟨G, Y, wk, hG, hY⟩ := w.ex
    have k1 := k.next x1 o1
    have st0 : StepOk R (rc cls X g) A0 H σ env H1 σ env s1 := .expr k1 x1 o1
    refine for_it wk (fun n σ' H' => ∃ env' s', StepOk R (rc cls X g) A0 H1 σ env H' σ' env' s' ∧ PostS R (rc cls X g) A0 H σ env (forD (fun d e => onT tg d e fun e => exs Γ N body e) (l.drop n) env' s') De) ?_ ?_ ?_ ?_
    · exact ⟨env, s1, .refl k1 o1, by rw [List.drop_zero]; exact h⟩
    · rintro n σ' H' _ ⟨env', s', st, _⟩
      refine hG H' (st.ext.more fun a z => ?_)
      unfold wtA
      rw [if_pos rfl]
      exact z
    · rintro n x σ' H2 H' hn ⟨env', s', st, hp'⟩ y
      obtain ⟨d, hd, yd⟩ := hY n H2 x H' hn y
      obtain ⟨rd, keep⟩ := yd.use (A' := Av A0 env' σ') st.ext (wr_av k1) (av_step st)
      have hl : l.drop n = d :: l.drop (n + 1) := by
        rw [List.drop_eq_getElem_cons (List.getElem?_eq_some_iff.mp hd).1, (List.getElem?_eq_some_iff.mp hd).2]
      rw [hl, forD_cons, bind_def] at hp'
      have eK : Ext (Gv (rc cls X g)) H2 H' := fun a o z _ => keep a o z
      have oK : R.ok g s' H' := R.stay (fun a _ o e => keep a o e) st.ok
      have k2 : EnvOk (rc cls X g) A0 H' σ' env' := st.envk.ext eK fun a ha => by
        obtain ⟨u, z, _⟩ := R.there oK a ha
        rw [z]; simp
      have st2 : StepOk R (rc cls X g) A0 H1 σ env H' σ' env' s' := st.trans (.expr k2 eK oK)
      cases hf : flatT tg d with
      | none =>
        exfalso
        unfold onT at hp'
        rw [bindT_flat, hf] at hp'
        exact hp'
      | some ds =>
        rw [onT_some hf] at hp'
        obtain ⟨vs, rv, hvl, hset⟩ := tg_read hf rd
        have st3 : StepOk R (rc cls X g) A0 H' σ' env' H' (setS σ' tg.slots vs) (puts env' tg.slots ds) s' := puts_ok oK k2 rv (flatT_len hf)
        have a' := st2.trans st3
        refine hset _ _ ?_
        refine qb _ _ _ g A0 (puts env' tg.slots ds) s' a'.envk a'.ok ?_
        cases z : exs Γ N body (puts env' tg.slots ds) s' with
        | bad => rw [z] at hp'; exact hp'
        | er _ _ _ => rw [z] at hp'; exact hp'
        | ok u s2 =>
          rw [z] at hp'
          cases u with
          | nx e => exact fun σ2 H2 b => ⟨e, s2, a'.trans b, hp'⟩
          | ct e => exact fun σ2 H2 b => ⟨e, s2, a'.trans b, hp'⟩
          | bk e => exact fun σ2 H2 b => hp' σ2 H2 (st0.trans (a'.trans b))
          | ret d f => exact fun w' H2 b => hp' w' H2 ((b.from a').from st0)
    · rintro σ' H' ⟨env', s', st, hp'⟩
      rw [List.drop_length] at hp'
      exact hp' σ' H' (st0.trans st)
theorem own_dct {c : Rc} {A0 : Addr → Prop} {H : Hp} {σ : L2.St} {env : IEnv} {i : Nat} {l : List (Key × D)} (k : EnvOk c A0 H σ env) (h : getI env i = some (.dct l, .own)) : ∃ a ks, σ[i]? = some (some (.ref a)) ∧ H a = some (.dK ks) ∧ Rpk c (Av A0 env σ) H l ks ∧ env[i]? = some (some (.dct l, Fl.own)) ∧ Av A0 env σ a := by
  have z := getI_eq h
  obtain ⟨a, e1, e2, ks, e3, e5⟩ := k.hld i _ _ z (.inr rfl)
  exact ⟨a, ks, e1, e3, e5, z, .inr ⟨i, _, _, z, .inr rfl, e1⟩⟩
/-- d[k] = e, d the def's own dict -/
theorem ss_setK {x : Str} {e1 e2 : Expr} {ik ie : IE} {i : Nat} {p1 p2 pos : Pos} (hu : X.A.units + 1 < cLine) (h1 : SE R cls Γ X e1 ik) (h2 : SE R cls Γ X e2 ie) (hm : md ie ≠ .bor) (hN : X.N[i]? = some x) (hv : Vis X.env.scope x) (hd : (x == ("__debug__" : Str)) = false) (hcd : (x == ("__classdict__" : Str)) = false)
    (hs : swapsWith e2 (some (.Subscript (.Name x p1) e1 p2)) pos.line X.env = pure false) :
    SS R cls Γ N X (.Assign [.Subscript (.Name x p1) e1 p2] e2 pos) (.setIx i ik ie) := by
  obtain ⟨t1, p1', q1⟩ := h1
  obtain ⟨t2, p2', q2⟩ := h2
  refine ⟨_, ps_dput hu (pe_var hN hv hd hcd) p1' p2' hs, fun De σ H g A0 env s k o h => ?_⟩
  unfold ex at h
  refine SE.bindS q2 k o h fun d s1 v H1 x1 o1 r1 k1 h => ?_
  -- the dict's place
  cases hl0 : getI env i with
  | none =>
    exfalso
    rw [bind_def] at h
    cases q0 : ev Γ ik env s1 with
    | bad => rw [q0] at h; exact h
    | er _ _ _ => rw [q0] at h; exact h
    | ok z s2 => rw [q0, hl0] at h; exact h
  | some p0 =>
    obtain ⟨d0, f0⟩ := p0
    have bad0 : ¬ (∃ l, d0 = .dct l ∧ f0 = .own) → False := fun no => by
      rw [bind_def] at h
      cases q0 : ev Γ ik env s1 with
      | bad => rw [q0] at h; exact h
      | er _ _ _ => rw [q0] at h; exact h
      | ok z s2 =>
        rw [q0, hl0] at h
        cases d0 with
        | dct l =>
          cases f0 with
          | own => exact no ⟨l, rfl, rfl⟩
          | _ => exact h
        | _ => exact h
    by_cases yes : ∃ l, d0 = .dct l ∧ f0 = .own
    · obtain ⟨l, rfl, rfl⟩ := yes
      obtain ⟨a, ks, f1, f2, f3, f5, f6⟩ := own_dct k1 hl0
      refine ⟨_, f1, ?_⟩
      refine SE.bindS q1 k1 o1 h fun z s2 w H2 x2 o2 r2 k2 h => ?_
      rw [hl0] at h
      have h : PostS R (rc cls X g) A0 H σ env ((match keyOf z with
        | some q => if l.length < sizeLine then pure (.nx (put env i (.dct (putD l q d)) .own)) else bad
        | none => bad : M R.S Out) s2) De := h
      cases hk : keyOf z with
      | none => rw [hk] at h; exact h.elim
      | some q =>
        rw [hk] at h
        have h : PostS R (rc cls X g) A0 H σ env ((if l.length < sizeLine then pure (.nx (put env i (.dct (putD l q d)) .own)) else bad : M R.S Out) s2) De := h
        by_cases hlen : l.length < sizeLine
        · rw [if_pos hlen] at h
          obtain ⟨a', ks', g1, g2, g3, g5, g6⟩ := own_dct k2 hl0
          rw [f1] at g1
          cases g1
          have ew : w = kV q := keyOf_rp hk (Rm.flat r2 (keyOf_flat hk))
          have rv : Rp (rc cls X g) (Av A0 env σ) H2 d v := (r1.rp hm k.trA).ext x2 k.gA
          have wa : ∀ b, b = a → Av A0 env σ b := fun b z => by rw [z]; exact g6
          have xt : Ext (fun b => b = a) H2 (upd H2 a (.dK (putK ks' q v))) := Ext.put rfl g2 id
          refine ⟨a, _, rfl, .inl ⟨ks', q, g2, ew, by rw [g3.length]; exact hlen, rfl⟩, ?_⟩
          refine h _ _ (((StepOk.expr k1 x1 o1).trans (.expr k2 x2 o2)).trans (.write k2 o2 g5 f1 g2 id ⟨_, upd_same, ?_⟩))
          exact Rpk.mono xt wa (fun _ z => .inl z) _ _ (g3.put rv)
        · rw [if_neg hlen] at h
          exact h.elim
    · exact (bad0 yes).elim
/-- x, y = e1, e2 with a new list for y (and for x) -/
theorem ss_parO {o : Bool} {a b : Expr} {ia ib : IE} {i j : Nat} {x y : Str} {px py pt pos : Pos} {kt k2 : Nat} {pt2 : Pos} (h1 : SE R cls Γ X a ia) (h2 : SE R cls Γ X b ib) (m1 : if o = true then md ia = .fr else md ia ≠ .bor) (m2 : md ib = .fr) (ns1 : noStar a = true) (ns2 : noStar b = true)
    (hc : X.calm = true) (nd : X.N.Nodup) (hi : X.N[i]? = some x) (hj : X.N[j]? = some y) (hij : i ≠ j)
    (hx : X.env.scope.names.lookup x = some .local) (hy : X.env.scope.names.lookup y = some .local)
    (hw : swappedStores [.Tuple [.Name x px, .Name y py] kt pt] (.Tuple [a, b] k2 pt2) X.env = pure (some [x, y])) : SS R cls Γ N X (.Assign [.Tuple [.Name x px, .Name y py] kt pt] (.Tuple [a, b] k2 pt2) pos) (.parO i j o ia ib) := by
  obtain ⟨t1, p1, q1⟩ := h1
  obtain ⟨t2, p2, q2⟩ := h2
  refine ⟨_, ps_par hc nd hi hj hij hx hy (pa_cons p1 (pa_cons p2 pa_nil (star_cons ns2)) (star_cons ns1)) hw rfl, fun De σ H g A0 env s k o' h => ?_⟩
  have h : PostS R (rc cls X g) A0 H σ env ((ev Γ ia env >>= fun d => ev Γ ib env >>= fun e => (match o, e with
    | true, .lst l => if isLD d = true then pure (.nx (put (put env i d .own) j (.lst l) .own)) else bad
    | false, .lst l => pure (.nx (put (put env i d .frz) j (.lst l) .own))
    | _, _ => bad : M R.S Out)) s) De := by
    have e : (ev Γ ia env >>= fun d => ev Γ ib env >>= fun e => (match o, e with
      | true, .lst l => if isLD d = true then pure (.nx (put (put env i d .own) j (.lst l) .own)) else bad
      | false, .lst l => pure (.nx (put (put env i d .frz) j (.lst l) .own))
      | _, _ => bad : M R.S Out)) = ex Γ N (.parO i j o ia ib) env := by
      conv => rhs; unfold ex
      congr
      funext d
      congr
      funext e
      cases o <;> cases d <;> cases e <;> simp [hij, isLD]
    rw [e]
    exact h
  refine SE.bindS q1 k o' h fun d s1 v H1 x1 o1 r1 k1 h => ?_
  cases o with
  | false =>
    have m1 : md ia ≠ .bor := by simpa using m1
    refine SE.bindS q2 k1 o1 h fun e s2 w H2 x2 o2 r2 k2 h => ?_
    cases e with
    | lst l =>
      rw [m2] at r2
      have S1 : StepOk R (rc cls X g) A0 H σ env H1 (σ.set i (some v)) (Pv.put env i d .frz) s1 := .put k1 x1 o1 (r1.rp m1 k.trA)
      have anti : ∀ a, Av A0 (Pv.put env i d .frz) (σ.set i (some v)) a → Av A0 env σ a := fun a z => z.imp id Held.put
      have r2' : Fr (rc cls X g) (Av A0 (Pv.put env i d .frz) (σ.set i (some v))) H1 H2 (.lst l) w := by
        rcases (show Fr (rc cls X g) (Av A0 env σ) H1 H2 (.lst l) w from r2) with z | ⟨p, z1, z2, z3⟩
        · cases z.1
        · exact .inr ⟨p, z1, z2, z3.anti fun b z => z.imp (anti b) id⟩
      exact ⟨v, w, rfl, h _ _ (S1.trans (.putOwn S1.envk x2 o2 rfl r2'))⟩
    | _ => exact h.elim
  | true =>
    have m1 : md ia = .fr := by simpa using m1
    rw [m1] at r1
    by_cases yes : isLD d = true
    · have hb : isBox d = true := by
        cases d <;> first | rfl | cases yes
      rcases (show Fr (rc cls X g) (Av A0 env σ) H H1 d v from r1) with z | ⟨a1, z1, z2, z3⟩
      · rw [hb] at z; cases z.1
      · subst z1
        have hgt : ∀ a, Gv (rc cls X g) a → H1 a ≠ none := fun a ha => x1.tracked o1 a (k.gTr a ha)
        have kp : EnvOk (rc cls X g) (Plus A0 a1) H1 σ env := k.plus z2 x1 hgt z3.there
        have S1 : StepOk R (rc cls X g) A0 H σ env H1 (σ.set i (some (.ref a1))) (Pv.put env i d .own) s1 := .putOwn k x1 o1 hb (.inr ⟨a1, rfl, z2, z3⟩)
        refine SE.bind (P := fun r => PostS R (rc cls X g) A0 H σ env r De) q2 kp o1 postS_bad postS_er h fun e s2 w H2 x2 o2 r2 k2 h => ?_
        cases e with
        | lst l =>
          rw [m2] at r2
          have anti : ∀ a, Av A0 (Pv.put env i d .own) (σ.set i (some (.ref a1))) a → Av (Plus A0 a1) env σ a := fun a z => by
            rcases z with z | ⟨jj, e, f, w1, w2, w3⟩
            · exact .inl (.inl z)
            · rcases put_get w1 with ⟨rfl, rfl, _, hl⟩ | ⟨hne, w1⟩
              · rw [List.getElem?_set_self (by rw [← k.len]; exact hl)] at w3
                cases w3
                exact .inl (.inr rfl)
              · rw [List.getElem?_set_ne hne] at w3
                exact .inr ⟨jj, e, f, w1, w2, w3⟩
          have r2' : Fr (rc cls X g) (Av A0 (Pv.put env i d .own) (σ.set i (some (.ref a1)))) H1 H2 (.lst l) w := by
            rcases (show Fr (rc cls X g) (Av (Plus A0 a1) env σ) H1 H2 (.lst l) w from r2) with z | ⟨p, z1, z2, z3⟩
            · cases z.1
            · exact .inr ⟨p, z1, z2, z3.anti fun b z => z.imp (anti b) id⟩
          have h : PostS R (rc cls X g) A0 H σ env ((if isLD d = true then pure (.nx (put (put env i d .own) j (.lst l) .own)) else bad : M R.S Out) s2) De := h
          rw [if_pos yes] at h
          exact ⟨_, w, rfl, h _ _ (S1.trans (.putOwn S1.envk x2 o2 rfl r2'))⟩
        | _ => exact h.elim
    · exfalso
      rw [bind_def] at h
      cases q0 : ev Γ ib env s1 with
      | bad => rw [q0] at h; exact h
      | er _ _ _ => rw [q0] at h; exact h
      | ok z s2 =>
        rw [q0] at h
        cases z with
        | lst l =>
          have h : PostS R (rc cls X g) A0 H σ env ((if isLD d = true then pure (.nx (put (put env i d .own) j (.lst l) .own)) else bad : M R.S Out) s2) De := h
          rw [if_neg yes] at h
          exact h
        | _ => exact h
theorem popApp_some {a b : Option (D × Fl)} {z : D} {l' m' : List D} (h : popApp a b z = some (l', m')) : ∃ l m zz n d, a = some (.lst l, .own) ∧ b = some (.lst m, .own) ∧ z = .int zz ∧ ixN m.length zz = some n ∧ m[n]? = some d ∧ l.length < sizeLine ∧ -(2 ^ 63) ≤ zz ∧ zz < 2 ^ 63 ∧ l' = l ++ [d] ∧ m' = m.eraseIdx n := by
  unfold popApp at h
  split at h
  · rename_i l m zz
    obtain ⟨n, h1, h2⟩ := Option.bind_eq_some_iff.mp h
    obtain ⟨d, h3, h4⟩ := Option.bind_eq_some_iff.mp h2
    split at h4
    · rename_i c
      cases h4
      exact ⟨l, m, zz, n, d, rfl, rfl, rfl, h1, h3, c.1, c.2.1, c.2.2, rfl, rfl⟩
    · cases h4
  · cases h
/-- x.append(y.pop(e)), both the def's own lists -/
theorem ss_appPop {x y : Str} {e : Expr} {ie : IE} {i j : Nat} {p1 p2 p3 p4 p5 p6 pos : Pos} (h1 : SE R cls Γ X e ie)
    (hN : X.N[i]? = some x) (hv : Vis X.env.scope x) (hd : (x == ("__debug__" : Str)) = false) (hcd : (x == ("__classdict__" : Str)) = false)
    (hN' : X.N[j]? = some y) (hv' : Vis X.env.scope y) (hd' : (y == ("__debug__" : Str)) = false) (hcd' : (y == ("__classdict__" : Str)) = false)
    (hs : noStar e = true) (hl : (p2.endLine == p3.line) = true) (hl' : (p5.endLine == p6.line) = true) :
    SS R cls Γ N X (.Expr (.Call (.Attribute (.Name x p1) "append" p2) [.Call (.Attribute (.Name y p4) "pop" p5) [e] [] p6] [] p3) pos) (.appPop i j ie) := by
  obtain ⟨t, p, q⟩ := h1
  refine ⟨_, ps_expr (pe_bm PySem.F.plainAttrs_list PySem.F.slot_list_append PySem.F.type_list_append mt_append (pe_var hN hv hd hcd)
    (pa_cons (pe_bm PySem.F.plainAttrs_list PySem.F.slot_list_pop PySem.F.type_list_pop mt_popAt (pe_var hN' hv' hd' hcd') (pa_cons p pa_nil (star_cons hs)) rfl (by rw [star_cons hs]; rfl) hl' (star_cons hs) rfl) pa_nil rfl) rfl rfl hl rfl rfl) rfl, fun De σ H g A0 env s k o h => ?_⟩
  unfold ex at h
  cases q0 : ev Γ ie env s with
  | bad => rw [bind_def, q0] at h; exact h.elim
  | er _ _ _ => rw [bind_def, q0] at h; exact h.elim
  | ok z s1 =>
    rw [bind_def, q0] at h
    dsimp only at h
    cases hpa : popApp (getI env i) (getI env j) z with
    | none => rw [hpa] at h; exact h.elim
    | some lm =>
    rw [hpa] at h
    obtain ⟨l', m'⟩ := lm
    obtain ⟨l, m, zz, n, d, gi, gj, rfl, ei, ed, hlen, lo, hi, rfl, rfl⟩ := popApp_some hpa
    have h : PostS R (rc cls X g) A0 H σ env ((if i ≠ j then pure (.nx (put (put env j (.lst (m.eraseIdx n)) .own) i (.lst (l ++ [d])) .own)) else bad : M R.S Out) s1) De := h
    have hij : i ≠ j := fun z => by
      rw [if_neg (fun w => w z)] at h
      exact h
    rw [if_pos hij] at h
    have hh := h
    obtain ⟨a, xs, e1, e2, e3, e4, e5, e6⟩ := own_cell k gi
    obtain ⟨b, ys, f1, f2, f3, f4, f5, f6⟩ := own_cell k gj
    refine ⟨_, e1, .inl ⟨rfl, xs, .inl (.inl e2)⟩, ?_⟩
    refine ⟨_, f1, .inl ⟨rfl, ys, .inl (.inl f2)⟩, ?_⟩
    refine q σ H _ g A0 env s k o ?_
    rw [q0]
    intro v H1 x1 o1 r1
    have ev : v = .int zz := Rm.flat r1 rfl
    have k1 := k.next x1 o1
    obtain ⟨a', xs', e1', e2', e3', e4', e5', e6'⟩ := own_cell k1 gi
    obtain ⟨b', ys', f1', f2', f3', f4', f5', f6'⟩ := own_cell k1 gj
    rw [e1] at e1'; cases e1'
    rw [f1] at f1'; cases f1'
    have hab : a ≠ b := fun z => hij (k.inj i j _ _ _ _ a e5 (.inr rfl) f5 (.inr rfl) e1 (by rw [z]; exact f1))
    obtain ⟨w, hw, rw'⟩ := f3'.getD ed
    have si : seqIndex? zz ys'.length = some n := by
      rw [f3'.length]
      exact (ixN_seq ei).1
    refine ⟨b, ys', zz, n, w, rfl, by rw [ev], f2', lo, hi, si, hw, ?_⟩
    -- the list without the item
    have wb : ∀ c, c = b → Av A0 env σ c := fun c z => by rw [z]; exact f6'
    have xt : Ext (fun c => c = b) H1 (upd H1 b (.lst (ys'.eraseIdx n))) := Ext.put rfl f2' id
    have S1 : StepOk R (rc cls X g) A0 H1 σ env (upd H1 b (.lst (ys'.eraseIdx n))) σ (Pv.put env j (.lst (m.eraseIdx n)) .own) s1 :=
      .write k1 o1 f5' f1 f2' id ⟨_, upd_same, Nat.le_trans (List.length_eraseIdx_le ..) f4', (f3'.eraseIdx n).ext xt wb⟩
    have rd2 : Rp (rc cls X g) (Av A0 (Pv.put env j (.lst (m.eraseIdx n)) .own) σ) (upd H1 b (.lst (ys'.eraseIdx n))) d w :=
      Rp.mono xt wb (fun c z => (av_step S1 c z)) d w rw'
    have gi2 : getI (Pv.put env j (.lst (m.eraseIdx n)) .own) i = some (.lst l, .own) := by
      unfold getI Pv.put
      rw [List.getElem?_set_ne (Ne.symm hij)]
      exact gi
    obtain ⟨a2, xs2, g1, g2, g3, g4, g5, g6⟩ := own_cell S1.envk gi2
    rw [e1] at g1; cases g1
    refine ⟨a, xs2, w, rfl, rfl, g2, by rw [g3.length]; exact hlen, ?_⟩
    have wa : ∀ c, c = a → Av A0 (Pv.put env j (.lst (m.eraseIdx n)) .own) σ c := fun c z => by rw [z]; exact g6
    have xt2 : Ext (fun c => c = a) (upd H1 b (.lst (ys'.eraseIdx n))) (upd (upd H1 b (.lst (ys'.eraseIdx n))) a (.lst (xs2 ++ [w]))) := Ext.put rfl g2 id
    exact hh _ _ (((StepOk.expr k1 x1 o1).trans S1).trans (.write S1.envk S1.ok g5 e1 g2 id ⟨_, upd_same, by rw [List.length_append, List.length_singleton]; omega, (g3.append (.one rd2)).ext xt2 wa⟩))
end
end Pv
end
section
set_option maxHeartbeats 4000000
namespace Pv
open PySem PySem.Spec PyProof.Rows L2

def isLc : IE → Bool
  | .lc _ _ _ => true
  | .lci _ _ _ _ => true
  | .lcr _ _ _ _ _ => true
  | .lcg _ _ _ _ => true
  | .dc _ _ _ _ => true
  | _ => false
def compScope : Expr → Option (Scope × Pos)
  | .ListComp _ _ s p => some (s, p)
  | .SetComp _ _ s p => some (s, p)
  | .DictComp _ _ _ s p => some (s, p)
  | _ => none
/-- whether name = e stores within the comprehension's block -/
def swpB (sc : Scope) (v : Expr) (t : Str) (pos : Pos) : Bool := match compScope v with
  | some (s, p) => (sc.names.lookup t == some .local) && (pos.line == p.line) && !(s.names.any fun (n, k) => n == t && (k == .local || k == .cell))
  | none => false
theorem swp_eq {v : Expr} {t : Str} {pos : Pos} {l : Nat} {env : PySem.Env} (hk : env.scope.kind = .function) : swapsWith v (some (.Name t pos)) l env = pure (swpB env.scope v t pos) := by
  have hb : env.blockKind = .function := by unfold PySem.Env.blockKind; rw [hk]; rfl
  cases v <;> first
    | rfl
    | (show (pure (env.blockKind == .function && env.kindOf t == some .local && pos.line == _ && !(_ : Bool)) : Sem Bool) = _
       rw [hb]
       rfl)
theorem swp_none {v : Expr} {l : Nat} {env : PySem.Env} (h : compScope v = none) : swapsWith v none l env = pure false := by
  cases v <;> first | rfl | cases h
def isLoc (sc : Scope) (line : Nat) : Expr → Option Str
  | .Name id pos => if sc.names.lookup id == some .local && pos.line == line then some id else none
  | _ => none
/-- the names of a, b = x, y that are stored from the right; none: a tuple is made -/
def swpN (sc : Scope) (ts vs : List Expr) : Option (Option (List Str)) :=
  if !(ts.length == 2 || ts.length == 3) || vs.length != ts.length then some none else
  if vs.any (fun | .Starred .. => true | _ => false) then some none else
  let names := ts.filterMap (isLoc sc ((ts.head?.map (·.pos.line)).getD 0))
  if names.length != ts.length || names.eraseDups.length != names.length then some none else
  if vs.all (foldedForSure 8) then some none else
  if vs.all (constantsAlone 8) then none else some (some names)
theorem swpN_eq {ts vs : List Expr} {k k2 : Nat} {p p2 : Pos} {env : PySem.Env} {r : Option (List Str)} (hk : env.scope.kind = .function) (h : swpN env.scope ts vs = some r) : swappedStores [.Tuple ts k p] (.Tuple vs k2 p2) env = pure r := by
  have hb : env.blockKind = .function := by unfold PySem.Env.blockKind; rw [hk]; rfl
  have aux : ∀ (c1 c2 c3 c4 c5 : Bool) (nm : List Str) (u : Sem (Option (List Str))), (if c1 = true then some none else if c2 = true then some none else if c3 = true then some none else if c4 = true then some none else if c5 = true then none else some (some nm)) = some r →
      (if c1 = true then pure none else if c2 = true then pure none else if c3 = true then pure none else if c4 = true then pure none else if c5 = true then u else pure (some nm)) = (pure r : Sem (Option (List Str))) := by
    intro c1 c2 c3 c4 c5 nm u h
    cases c1 <;> cases c2 <;> cases c3 <;> cases c4 <;> cases c5 <;> first | (cases h; rfl) | cases h
  have e1 : (env.blockKind != .function) = false := by rw [hb]; rfl
  unfold swpN at h
  unfold swappedStores
  dsimp only
  rw [e1, Bool.or_false]
  exact aux _ _ _ _ _ _ _ h
theorem swp_any {v : Expr} {t : Option Expr} {l : Nat} {env : PySem.Env} (h : compScope v = none) : swapsWith v t l env = pure false := by
  cases v <;> first | rfl | cases h
end Pv
end
section
set_option maxHeartbeats 4000000
namespace Pv
open PySem PySem.Spec PyProof.Rows L2

def locB (sc : Scope) (x : Str) : Bool := match sc.names.lookup x with
  | some .local => true
  | some .cell => true
  | _ => false
def locL (sc : Scope) (x : Str) : Bool := match sc.names.lookup x with
  | some .local => true
  | _ => false
def chkIt (C : CC) (tgE it : Expr) (src : IE) : Bool := match src with
  | .chs s => notSet it && chk C s it
  | .enm s => enmOk C tgE it (fun x => chk C s x)
  | .zip a b => zipOk C tgE it (fun x => chk C a x) (fun x => chk C b x)
  | src => notSet it && chk C src it
def srcMb : IE → Bool
  | .zip a b => decide (md a ≠ .bor) && decide (md b ≠ .bor)
  | _ => true
theorem srcM_of {s : IE} (h : srcMb s = true) : SrcM s := by
  cases s with
  | zip a b =>
    have h : (decide (md a ≠ .bor) && decide (md b ≠ .bor)) = true := h
    rw [Bool.and_eq_true] at h
    exact ⟨of_decide_eq_true h.1, of_decide_eq_true h.2⟩
  | _ => trivial
mutual
def chkS (C : CC) : IS → Stmt → Bool
  | .set i own ie, st => (match st with
    | .Assign [.Name x px] v _ => decide (C.N[i]? = some x) && (locB C.sc x && ((if own then decide (md ie = .fr) else decide (md ie ≠ .bor)) && (chk C ie v && (!swpB C.sc v x px || (isLc ie && locL C.sc x)))))
    | _ => false)
  | .par is ies, st => (match is, st with
    | [i, j], .Assign [.Tuple [.Name x px, .Name y py] kt pt] (.Tuple [a, b] k2 p2) _ => decide (C.N[i]? = some x) && (decide (C.N[j]? = some y) && (decide (i ≠ j) && (locL C.sc x && (locL C.sc y && (lbAll ies && (chks C ies [a, b] && decide (swpN C.sc [.Name x px, .Name y py] [a, b] = some (some [x, y]))))))))
    | [i, j, l], .Assign [.Tuple [.Name x px, .Name y py, .Name z pz] kt pt] (.Tuple [a, b, c] k2 p2) _ => decide (C.N[i]? = some x) && (decide (C.N[j]? = some y) && (decide (C.N[l]? = some z) && (decide (i ≠ j ∧ i ≠ l ∧ j ≠ l) && (locL C.sc x && (locL C.sc y && (locL C.sc z && (lbAll ies && (chks C ies [a, b, c] && decide (swpN C.sc [.Name x px, .Name y py, .Name z pz] [a, b, c] = some (some [x, y, z]))))))))))
    | _, _ => false)
  | .unp is ie, st => (match st with
    | .Assign [.Tuple ts _ _] v _ => tgOk C.N C.sc is ts && (decide (md ie ≠ .bor) && (chk C ie v && (match v with
      | .Tuple vs _ _ => decide (swpN C.sc ts vs = some none)
      | _ => true)))
    | _ => false)
  | .frz _, _ => false
  | .app i ie, st => (match st with
    | .Expr (.Call (.Attribute (.Name x _) m p2) [e] [] p3) _ => decide (m = "append") && (nmOk C i x && (decide (md ie ≠ .bor) && (noStar e && (decide (p2.endLine = p3.line) && chk C ie e))))
    | _ => false)
  | .setIx i ik ie, st => (match st with
    | .Assign [.Subscript (.Name x _) ke _] v _ => nmOk C i x && (decide (md ie ≠ .bor) && ((compScope v).isNone && (chk C ik ke && chk C ie v)))
    | _ => false)
  | .forG tg src body, st => (match st with
    | .For tgE it b [] _ => tgX (locB C.sc) C.N tg tgE && (srcMb src && (chkSs C body b && chkIt C tgE it src))
    | _ => false)
  | .appPop i j ie, st => (match st with
    | .Expr (.Call (.Attribute (.Name x _) m p2) [.Call (.Attribute (.Name y _) m2 p5) [e] [] p6] [] p3) _ => decide (m = "append" ∧ m2 = "pop") && (nmOk C i x && (nmOk C j y && (noStar e && (decide (p2.endLine = p3.line ∧ p5.endLine = p6.line) && chk C ie e))))
    | _ => false)
  | .parO i j o ia ib, st => (match st with
    | .Assign [.Tuple [.Name x px, .Name y py] kt pt] (.Tuple [a, b] k2 p2) _ => decide (C.N[i]? = some x) && (decide (C.N[j]? = some y) && (decide (i ≠ j) && (locL C.sc x && (locL C.sc y && ((if o then decide (md ia = .fr) else decide (md ia ≠ .bor)) && (decide (md ib = .fr) && (noStar a && (noStar b && (chk C ia a && (chk C ib b && decide (swpN C.sc [.Name x px, .Name y py] [a, b] = some (some [x, y]))))))))))))
    | _ => false)
  | .ext _ _, _ => false
  | .unpG _ _, _ => false
  | .exp ie, st => (match st with
    | .Expr v _ => (compScope v).isNone && chk C ie v
    | _ => false)
  | .ret ie, st => (match st with
    | .Return (some v) _ => decide (md ie ≠ .bor) && chk C ie v
    | _ => false)
  | .retO i, st => (match st with
    | .Return (some (.Name x _)) _ => nmOk C i x
    | _ => false)
  | .retN, st => (match st with
    | .Return none _ => true
    | _ => false)
  | .ite c a b, st => (match st with
    | .If e x y _ => tOk c && (chk C c e && (chkSs C a x && chkSs C b y))
    | _ => false)
  | .forL i src hold body, st => (match st with
    | .For (.Name x _) it b [] _ => decide (C.N[i]? = some x) && (locB C.sc x && (chkSs C body b && (match src, hold with
      | .bor j, some k => decide (j = k) && (match it with
        | .Name y _ => nmOk C j y
        | _ => false)
      | src, none => decide (md src ≠ .bor) && (notSet it && chk C src it)
      | _, _ => false)))
    | _ => false)
  | .forR i lo hi body, st => (match st with
    | .For (.Name x _) (.Call (.Name r _) args [] _) b [] _ => decide (C.N[i]? = some x) && (locB C.sc x && (chkSs C body b && (decide (r = "range") && (freeOk C r && (match lo, args with
      | none, [e] => noStar e && chk C hi e
      | some l, [e1, e2] => noStar e1 && (noStar e2 && (chk C l e1 && chk C hi e2))
      | _, _ => false)))))
    | _ => false)
  | .whl c body, st => (match st with
    | .While e b [] _ => tOk c && (chk C c e && chkSs C body b)
    | _ => false)
  | .brk, st => (match st with | .Break _ => true | _ => false)
  | .cnt, st => (match st with | .Continue _ => true | _ => false)
  | .pas, st => (match st with | .Pass _ => true | _ => false)
  | .never, _ => true
def chkSs (C : CC) : List IS → List Stmt → Bool
  | [], sts => sts.isEmpty
  | i :: is, sts => (match i with
    | .frz _ => chkSs C is sts
    | i => (match sts with
      | st :: sts => chkS C i st && chkSs C is sts
      | [] => false))
end
/-- for the item's own statement -/
structure YOk (R : RS) (cls : Str → Addr) (Γ : Gm R.S) (C : CC) (X : Cx) : Prop where
  x : XOk R cls Γ C X
  kind : X.env.scope.kind = .function
  fn : ∀ x, X.fn x = true
  pas : PassesOwn (model X.prog X.w) X.A X.env X.xe
def PS_ (R : RS) (cls : Str → Addr) (Γ : Gm R.S) (N : Nat) (is : IS) : Prop := ∀ (C : CC) (X : Cx) (st : Stmt), YOk R cls Γ C X → chkS C is st = true → SS R cls Γ N X st is
def PSs_ (R : RS) (cls : Str → Addr) (Γ : Gm R.S) (N : Nat) (is : List IS) : Prop := ∀ (C : CC) (X : Cx) (st : List Stmt), YOk R cls Γ C X → chkSs C is st = true → SSs R cls Γ N X st is
section
variable {R : RS} {cls : Str → Addr} {Γ : Gm R.S} {N : Nat}
theorem locB_of {X : Cx} {C : CC} (k : YOk R cls Γ C X) {x : Str} (h : locB C.sc x = true) : Loc X.env.scope x := by
  rw [k.x.sc]
  unfold locB at h
  split at h
  · rename_i e; exact .inl e
  · rename_i e; exact .inr e
  · cases h
theorem locL_of {X : Cx} {C : CC} (k : YOk R cls Γ C X) {x : Str} (h : locL C.sc x = true) : X.env.scope.names.lookup x = some .local := by
  rw [k.x.sc]
  unfold locL at h
  split at h
  · assumption
  · cases h
theorem nmOk_of {X : Cx} {C : CC} (k : XOk R cls Γ C X) {x : Str} {i : Nat} (h : nmOk C i x = true) : X.N[i]? = some x ∧ Vis X.env.scope x ∧ (x == ("__debug__" : Str)) = false ∧ (x == ("__classdict__" : Str)) = false := by
  obtain ⟨h1, h2⟩ := b2 h
  obtain ⟨h2, h3⟩ := b2 h2
  obtain ⟨h3, h4⟩ := b2 h3
  exact ⟨by rw [k.N]; exact dec h1, by rw [k.sc]; exact vis_of h2, nb h3, nb h4⟩
theorem sole_tup {ts : List Expr} {k : Nat} {p : Pos} {v : Expr} {l : Nat} {env : PySem.Env} : swapsWithSole [.Tuple ts k p] v l env = pure false := by
  show swapsWith v (some (.Tuple ts k p)) l env = pure false
  cases v <;> rfl
theorem swp_notup {ts : List Expr} {k : Nat} {p : Pos} {v : Expr} {env : PySem.Env} (h : ∀ vs k p, v ≠ .Tuple vs k p) : swappedStores [.Tuple ts k p] v env = pure none := by
  cases v <;> first | rfl | exact absurd rfl (h _ _ _)
/-- name = [.. for ..] within the block -/
theorem ss_setLc {e : Expr} {ie : IE} {x : Str} {i : Nat} {own : Bool} {pos px : Pos} {C : CC} {X : Cx} (k : YOk R cls Γ C X) (h : chk C ie e = true) (hlc : isLc ie = true) (hm : own = true → md ie = .fr) (hm2 : own = false → md ie ≠ .bor) (hi : X.N[i]? = some x) (hx : X.env.scope.names.lookup x = some .local) (hs : swapsWith e (some (.Name x px)) pos.line X.env = pure true) :
    SS R cls Γ N X (.Assign [.Name x px] e pos) (.set i own ie) := by
  have sl : SL R cls Γ X e ie := by
    cases ie with
    | lc i src body =>
      have k := k.x
      unfold chk at h
      split at h
      · obtain ⟨h0, h⟩ := b2 h
        obtain ⟨h1, h⟩ := b2 h
        obtain ⟨h2, h⟩ := b2 h
        obtain ⟨h3, h⟩ := b2 h
        obtain ⟨h4, h⟩ := b2 h
        obtain ⟨h5, h6⟩ := b2 h
        exact sl_lc k.calm k.nd (by rw [k.N, k.sc]; exact blkOk_by h1) (chk_ok src C X _ k h5).1 (by rw [k.N]; exact dec h0) (by rw [k.sc]; exact dec h2)
          (fun s H c cl fp => (chk_ok body _ _ _ (k.blk _ s H c cl fp) h6).1) (dec h4) (notSet_fold h3)
      · cases h
    | lci i src ic body =>
      have k := k.x
      unfold chk at h
      split at h
      · obtain ⟨h0, h⟩ := b2 h
        obtain ⟨h1, h⟩ := b2 h
        obtain ⟨h2, h⟩ := b2 h
        obtain ⟨h3, h⟩ := b2 h
        obtain ⟨h4, h⟩ := b2 h
        obtain ⟨h4', h⟩ := b2 h
        obtain ⟨h5, h⟩ := b2 h
        obtain ⟨h6, h7⟩ := b2 h
        exact sl_lci k.calm k.nd (by rw [k.N, k.sc]; exact blkOk_by h1) (chk_ok src C X _ k h5).1 (by rw [k.N]; exact dec h0) (by rw [k.sc]; exact dec h2)
          (fun s H c cl fp => ((chk_ok ic _ _ _ (k.blk _ s H c cl fp) h6).2 h4').1) (fun s H c cl fp => (chk_ok body _ _ _ (k.blk _ s H c cl fp) h7).1) (dec h4) (notSet_fold h3)
      · cases h
    | lcg tg src ic body => exact sl_lcg_ tg src ic body (p_all2 src).2 (p_all ic) (p_all body) C X e k.x h
    | dc tg src ik iv => exact sl_dc_ tg src ik iv (p_all2 src).2 (p_all ik) (p_all iv) C X e k.x h
    | lcr i a b c body => exact sl_lcr i a b c body (p_all a) (p_all b) (p_all c) (p_all body) C X e k.x h
    | _ => cases hlc
  obtain ⟨t, _, p, q⟩ := sl
  exact ⟨_, p hi hx hs, asg_ok own hm hm2 q⟩
theorem s_set (i : Nat) (own : Bool) (ie : IE) : PS_ R cls Γ N (.set i own ie) := fun C X st k h => by
  unfold chkS at h
  split at h
  · rename_i x px v pos
    obtain ⟨h1, h⟩ := b2 h
    obtain ⟨h2, h⟩ := b2 h
    obtain ⟨h3, h⟩ := b2 h
    obtain ⟨h4, h5⟩ := b2 h
    have m1 : own = true → md ie = .fr := fun e => by rw [if_pos e] at h3; exact dec h3
    have m2 : own = false → md ie ≠ .bor := fun e => by rw [if_neg (by rw [e]; simp)] at h3; exact dec h3
    have hN : X.N[i]? = some x := by rw [k.x.N]; exact dec h1
    have sw := swp_eq (v := v) (t := x) (pos := px) (l := pos.line) k.kind
    cases q : swpB C.sc v x px with
    | false =>
      rw [k.x.sc, q] at sw
      exact ss_set (chk_ok ie C X v k.x h4).1 m1 m2 k.x.nd hN (locB_of k h2) sw (.inl (k.fn _))
    | true =>
      rw [q] at h5
      obtain ⟨h6, h7⟩ := b2 (show (isLc ie && locL C.sc x) = true from h5)
      rw [k.x.sc, q] at sw
      exact ss_setLc k h4 h6 m1 m2 hN (locL_of k h7) sw
  · cases h
theorem s_par (is : List Nat) (ies : List IE) : PS_ R cls Γ N (.par is ies) := fun C X st k h => by
  unfold chkS at h
  split at h
  · obtain ⟨h1, h⟩ := b2 h
    obtain ⟨h2, h⟩ := b2 h
    obtain ⟨h3, h⟩ := b2 h
    obtain ⟨h4, h⟩ := b2 h
    obtain ⟨h5, h⟩ := b2 h
    obtain ⟨h6, h⟩ := b2 h
    obtain ⟨h7, h8⟩ := b2 h
    exact ss_par (chks_ok ies (fun ie _ => p_all ie) C X _ k.x h7) h6 k.x.calm k.x.nd (by rw [k.x.N]; exact dec h1) (by rw [k.x.N]; exact dec h2) (dec h3) (locL_of k h4) (locL_of k h5) (swpN_eq k.kind (by rw [k.x.sc]; exact dec h8))
  · obtain ⟨h1, h⟩ := b2 h
    obtain ⟨h2, h⟩ := b2 h
    obtain ⟨h2', h⟩ := b2 h
    obtain ⟨h3, h⟩ := b2 h
    obtain ⟨h4, h⟩ := b2 h
    obtain ⟨h5, h⟩ := b2 h
    obtain ⟨h5', h⟩ := b2 h
    obtain ⟨h6, h⟩ := b2 h
    obtain ⟨h7, h8⟩ := b2 h
    obtain ⟨n1, n2, n3⟩ := dec h3
    exact ss_par3 (chks_ok ies (fun ie _ => p_all ie) C X _ k.x h7) h6 k.x.calm k.x.nd (by rw [k.x.N]; exact dec h1) (by rw [k.x.N]; exact dec h2) (by rw [k.x.N]; exact dec h2') n1 n2 n3 (locL_of k h4) (locL_of k h5) (locL_of k h5') (swpN_eq k.kind (by rw [k.x.sc]; exact dec h8))
  · cases h
theorem s_unp (is : List Nat) (ie : IE) : PS_ R cls Γ N (.unp is ie) := fun C X st k h => by
  unfold chkS at h
  split at h
  · obtain ⟨h1, h⟩ := b2 h
    obtain ⟨h2, h⟩ := b2 h
    obtain ⟨h3, h4⟩ := b2 h
    refine ss_unp (chk_ok ie C X _ k.x h3).1 (dec h2) k.x.calm k.x.nd k.fn (by rw [k.x.N, k.x.sc]; exact h1) sole_tup ?_
    split at h4
    · exact swpN_eq k.kind (by rw [k.x.sc]; exact dec h4)
    · rename_i hn
      exact swp_notup fun vs k p e => hn vs k p e
  · cases h
theorem s_app (i : Nat) (ie : IE) : PS_ R cls Γ N (.app i ie) := fun C X st k h => by
  unfold chkS at h
  split at h
  · obtain ⟨h1, h⟩ := b2 h
    obtain ⟨h2, h⟩ := b2 h
    obtain ⟨h3, h⟩ := b2 h
    obtain ⟨h4, h⟩ := b2 h
    obtain ⟨h5, h6⟩ := b2 h
    have z := dec h1
    subst z
    obtain ⟨a1, a2, a3, a4⟩ := nmOk_of k.x h2
    exact ss_app (chk_ok ie C X _ k.x h6).1 (dec h3) a1 a2 a3 a4 h4 (by rw [dec h5]; simp)
  · cases h
theorem visLocB {X : Cx} {C : CC} (k : YOk R cls Γ C X) : VisOk X (locB C.sc) := fun x h => ⟨locB_of k h, .inl (k.fn x)⟩
theorem s_setIx (i : Nat) (ik ie : IE) : PS_ R cls Γ N (.setIx i ik ie) := fun C X st k h => by
  unfold chkS at h
  split at h
  · obtain ⟨h1, h⟩ := b2 h
    obtain ⟨h2, h⟩ := b2 h
    obtain ⟨h3, h⟩ := b2 h
    obtain ⟨h4, h5⟩ := b2 h
    obtain ⟨a1, a2, a3, a4⟩ := nmOk_of k.x h1
    exact ss_setK (by have := k.x.units; omega) (chk_ok ik C X _ k.x h4).1 (chk_ok ie C X _ k.x h5).1 (dec h2) a1 a2 a3 a4 (swp_any (Option.isNone_iff_eq_none.mp h3))
  · cases h
theorem s_forG (tg : Tg) (src : IE) (body : List IS) (pb : PSs_ R cls Γ N body) : PS_ R cls Γ N (.forG tg src body) := fun C X st k h => by
  unfold chkS at h
  split at h
  · obtain ⟨h1, h⟩ := b2 h
    obtain ⟨h2, h⟩ := b2 h
    obtain ⟨h3, h4⟩ := b2 h
    obtain ⟨si, hs⟩ := si_chk (b := true) k.x h4 (p_all2 src).2 (fun _ => srcM_of h2)
    exact ss_forG k.pas k.x.calm k.x.nd (visLocB k) (by rw [k.x.N]; exact h1) si (pb C X _ k h3) hs
  · cases h
theorem s_appPop (i j : Nat) (ie : IE) : PS_ R cls Γ N (.appPop i j ie) := fun C X st k h => by
  unfold chkS at h
  split at h
  · obtain ⟨h0, h⟩ := b2 h
    obtain ⟨h1, h⟩ := b2 h
    obtain ⟨h2, h⟩ := b2 h
    obtain ⟨h3, h⟩ := b2 h
    obtain ⟨h4, h5⟩ := b2 h
    obtain ⟨rfl, rfl⟩ := dec h0
    obtain ⟨a1, a2, a3, a4⟩ := nmOk_of k.x h1
    obtain ⟨c1, c2, c3, c4⟩ := nmOk_of k.x h2
    obtain ⟨d1, d2⟩ := dec h4
    exact ss_appPop (chk_ok ie C X _ k.x h5).1 a1 a2 a3 a4 c1 c2 c3 c4 h3 (by rw [d1]; simp) (by rw [d2]; simp)
  · cases h
theorem s_parO (i j : Nat) (o : Bool) (ia ib : IE) : PS_ R cls Γ N (.parO i j o ia ib) := fun C X st k h => by
  unfold chkS at h
  split at h
  · rename_i x px y py kt pt a b k2 p2 p3
    obtain ⟨h1, h⟩ := b2 h
    obtain ⟨h2, h⟩ := b2 h
    obtain ⟨h3, h⟩ := b2 h
    obtain ⟨h4, h⟩ := b2 h
    obtain ⟨h5, h⟩ := b2 h
    obtain ⟨h6, h⟩ := b2 h
    obtain ⟨h7, h⟩ := b2 h
    obtain ⟨h8, h⟩ := b2 h
    obtain ⟨h9, h⟩ := b2 h
    obtain ⟨h10, h⟩ := b2 h
    obtain ⟨h11, h12⟩ := b2 h
    exact ss_parO (chk_ok ia C X _ k.x h10).1 (chk_ok ib C X _ k.x h11).1 (by cases o <;> (simp at h6 ⊢; exact h6)) (dec h7) h8 h9 k.x.calm k.x.nd (by rw [k.x.N]; exact dec h1) (by rw [k.x.N]; exact dec h2) (dec h3) (locL_of k h4) (locL_of k h5) (swpN_eq k.kind (by rw [k.x.sc]; exact dec h12))
  · cases h
theorem s_exp (ie : IE) : PS_ R cls Γ N (.exp ie) := fun C X st k h => by
  unfold chkS at h
  split at h
  · obtain ⟨h1, h2⟩ := b2 h
    exact ss_exp (chk_ok ie C X _ k.x h2).1 (swp_none (Option.isNone_iff_eq_none.mp h1))
  · cases h
theorem s_ret (ie : IE) : PS_ R cls Γ N (.ret ie) := fun C X st k h => by
  unfold chkS at h
  split at h
  · obtain ⟨h1, h2⟩ := b2 h
    exact ss_ret (chk_ok ie C X _ k.x h2).1 (dec h1)
  · cases h
theorem s_retO (i : Nat) : PS_ R cls Γ N (.retO i) := fun C X st k h => by
  unfold chkS at h
  split at h
  · obtain ⟨a1, a2, a3, a4⟩ := nmOk_of k.x h
    exact ss_retO a1 a2 a3 a4
  · cases h
theorem s_retN : PS_ R cls Γ N .retN := fun C X st k h => by
  unfold chkS at h
  split at h
  · exact ss_retN
  · cases h
theorem s_ite (c : IE) (a b : List IS) (pa : PSs_ R cls Γ N a) (pb : PSs_ R cls Γ N b) : PS_ R cls Γ N (.ite c a b) := fun C X st k h => by
  unfold chkS at h
  split at h
  · obtain ⟨h1, h⟩ := b2 h
    obtain ⟨h2, h⟩ := b2 h
    obtain ⟨h3, h4⟩ := b2 h
    exact ss_ite ((chk_ok c C X _ k.x h2).2 h1).1 (pa C X _ k h3) (pb C X _ k h4)
  · cases h
theorem s_forL (i : Nat) (src : IE) (hold : Option Nat) (body : List IS) (pb : PSs_ R cls Γ N body) : PS_ R cls Γ N (.forL i src hold body) := fun C X st k h => by
  unfold chkS at h
  split at h
  · rename_i x tp it b p
    obtain ⟨h1, h⟩ := b2 h
    obtain ⟨h2, h⟩ := b2 h
    obtain ⟨h3, h4⟩ := b2 h
    have hN : X.N[i]? = some x := by rw [k.x.N]; exact dec h1
    split at h4
    · obtain ⟨h5, h6⟩ := b2 h4
      have z := dec h5
      subst z
      split at h6
      · obtain ⟨a1, a2, a3, a4⟩ := nmOk_of k.x h6
        exact ss_forB k.pas k.x.calm k.x.nd hN (locB_of k h2) (.inl (k.fn _)) a1 a2 a3 a4 (pb C X _ k h3)
      · cases h6
    · obtain ⟨h5, h6⟩ := b2 h4
      obtain ⟨h7, h8⟩ := b2 h6
      exact ss_forL k.pas k.x.calm k.x.nd hN (locB_of k h2) (.inl (k.fn _)) (chk_ok _ C X _ k.x h8).1 (dec h5) (pb C X _ k h3) (notSet_fold h7)
    · cases h4
  · cases h
theorem s_forR (i : Nat) (lo : Option IE) (hi : IE) (body : List IS) (pb : PSs_ R cls Γ N body) : PS_ R cls Γ N (.forR i lo hi body) := fun C X st k h => by
  unfold chkS at h
  split at h
  · rename_i x p0 r p1 args p2 b p3
    obtain ⟨h1, h⟩ := b2 h
    obtain ⟨h2, h⟩ := b2 h
    obtain ⟨h3, h⟩ := b2 h
    obtain ⟨h4, h⟩ := b2 h
    obtain ⟨h5, h6⟩ := b2 h
    have hN : X.N[i]? = some x := by rw [k.x.N]; exact dec h1
    have z := dec h4
    subst z
    obtain ⟨g, d, m, n⟩ := free_of k.x h5
    split at h6
    · obtain ⟨h7, h8⟩ := b2 h6
      exact ss_forR1 k.pas k.x.calm k.x.nd hN (locB_of k h2) (.inl (k.fn _)) g m (chk_ok _ C X _ k.x h8).1 h7 (pb C X _ k h3)
    · obtain ⟨h7, h⟩ := b2 h6
      obtain ⟨h8, h⟩ := b2 h
      obtain ⟨h9, h10⟩ := b2 h
      exact ss_forR2 k.pas k.x.calm k.x.nd hN (locB_of k h2) (.inl (k.fn _)) g m (chk_ok _ C X _ k.x h9).1 (chk_ok _ C X _ k.x h10).1 h7 h8 (pb C X _ k h3)
    · cases h6
  · cases h
theorem s_whl (c : IE) (body : List IS) (pb : PSs_ R cls Γ N body) : PS_ R cls Γ N (.whl c body) := fun C X st k h => by
  unfold chkS at h
  split at h
  · obtain ⟨h1, h⟩ := b2 h
    obtain ⟨h2, h3⟩ := b2 h
    exact ss_whl k.pas ((chk_ok c C X _ k.x h2).2 h1).1 (pb C X _ k h3)
  · cases h
theorem s_brk : PS_ R cls Γ N .brk := fun C X st k h => by
  unfold chkS at h
  split at h
  · exact ss_brk
  · cases h
theorem s_cnt : PS_ R cls Γ N .cnt := fun C X st k h => by
  unfold chkS at h
  split at h
  · exact ss_cnt
  · cases h
theorem s_pas : PS_ R cls Γ N .pas := fun C X st k h => by
  unfold chkS at h
  split at h
  · exact ss_pas
  · cases h
theorem s_cons (i : IS) (is : List IS) (p1 : PS_ R cls Γ N i) (p2 : PSs_ R cls Γ N is) : PSs_ R cls Γ N (i :: is) := fun C X sts k h => by
  unfold chkSs at h
  split at h
  · exact sss_frz (p2 C X sts k h)
  · split at h
    · obtain ⟨h1, h2⟩ := b2 h
      exact ss_cons (p1 C X _ k h1) (p2 C X _ k h2)
    · cases h
theorem s_nil : PSs_ R cls Γ N [] := fun C X sts k h => by
  unfold chkSs at h
  cases sts with
  | nil => exact ss_nil
  | cons st sts => cases h
mutual
theorem s_all : ∀ is : IS, PS_ R cls Γ N is
  | .set i own ie => s_set i own ie
  | .par is ies => s_par is ies
  | .unp is ie => s_unp is ie
  | .frz i => fun C X st k h => by unfold chkS at h; cases h
  | .app i ie => s_app i ie
  | .setIx i a b => s_setIx i a b
  | .forG tg src body => s_forG tg src body (ss_all body)
  | .appPop i j e => s_appPop i j e
  | .parO a b c d e => s_parO a b c d e
  | .ext _ _ => fun C X st k h => by unfold chkS at h; cases h
  | .unpG _ _ => fun C X st k h => by unfold chkS at h; cases h
  | .exp ie => s_exp ie
  | .ret ie => s_ret ie
  | .retO i => s_retO i
  | .retN => s_retN
  | .ite c a b => s_ite c a b (ss_all a) (ss_all b)
  | .forL i src hold body => s_forL i src hold body (ss_all body)
  | .forR i lo hi body => s_forR i lo hi body (ss_all body)
  | .whl c body => s_whl c body (ss_all body)
  | .brk => s_brk
  | .cnt => s_cnt
  | .pas => s_pas
  | .never => fun C X st k h => ss_never
theorem ss_all : ∀ is : List IS, PSs_ R cls Γ N is
  | [] => s_nil
  | i :: is => s_cons i is (s_all i) (ss_all is)
end
end
end Pv
end
section
set_option maxHeartbeats 4000000
namespace Pv
open PySem PySem.Spec PyProof.Rows L2

/-! ### a def of the module, its term, its promise -/
section
variable {R : RS} {cls : Str → Addr} {Γ : Gm R.S} {P : Program} {w : World} {K : PySem.W.Frag} {mg : Str → Option Value} {base : Heap}
/-- a def of any kind that may be called within k -/
structure AnyK (R : RS) (cls : Str → Addr) (P : Program) (w : World) (K : PySem.W.Frag) (mg : Str → Option Value) (base : Heap) (k : Nat) (x : Str) (sg : Sig) (F : List D → M R.S D) : Prop where
  fn : sg.kd = .fn → ∃ f fd ps, mg x = some (.ref f) ∧ PySem.W.keepIn K (.ref f) = true ∧ Binds K fd ps [] ∧ FnG P w K mg base k f fd ps (spF R K cls sg F)
  ini : sg.kd = .ini → ∃ j f fd ps, j + 1 ≤ k ∧ mg x = some (.ref (cls x)) ∧ Mk K (cls x) f ∧ Binds K fd ps [] ∧ FnG P w K mg base j f fd ps (spI R K cls x sg.lend F)
  mth : sg.kd = .mth → ∃ j f fd ps, j + 1 ≤ k ∧ Cls K (cls sg.cl) ∧ Meth K (cls sg.cl) x f ∧ Binds K fd ps [] ∧ FnG P w K mg base j f fd ps (spF R K cls sg F)
  prp : sg.kd = .prp → ∃ j p f fd ps, j + 1 ≤ k ∧ Cls K (cls sg.cl) ∧ PropOf K (cls sg.cl) x p f ∧ Binds K fd ps [] ∧ FnG P w K mg base j f fd ps (spF R K cls sg F)
structure FkK (R : RS) (cls : Str → Addr) (P : Program) (w : World) (K : PySem.W.Frag) (mg : Str → Option Value) (base : Heap) (k : Nat) (x : Str) (sg : Sig) (F : List D → M R.S D) (ks : List Str) (perm : List Nat) : Prop where
  ex : sg.kd = .fn → ∃ f fd ps, mg x = some (.ref f) ∧ PySem.W.keepIn K (.ref f) = true ∧ KBn K fd ps 0 ks (fun us ws => us ++ perm.filterMap fun i => ws[i]?) (fun us ws => us ++ perm.filterMap fun i => ws[i]?) ∧ FnG P w K mg base k f fd ps (spF R K cls sg F)
  mth : sg.kd = .mth → ∃ f fd ps, Cls K (cls sg.cl) ∧ Meth K (cls sg.cl) x f ∧ KBn K fd ps 1 ks (fun us ws => us ++ perm.filterMap fun i => ws[i]?) (fun us ws => us ++ perm.filterMap fun i => ws[i]?) ∧ FnG P w K mg base k f fd ps (spF R K cls sg F)
/-- what a def's checks lean on -/
structure DOk (R : RS) (cls : Str → Addr) (Γ : Gm R.S) (C : CC) (P : Program) (w : World) (K : PySem.W.Frag) (mg : Str → Option Value) (base : Heap) (k : Nat) : Prop where
  free : ∀ x ∈ C.free, mg x = none
  fn : ∀ (i : Nat) (x : Str) (sg : Sig), C.fns[i]? = some (x, sg) → ∃ F, Γ.fns[i]? = some F ∧ AnyK R cls P w K mg base k x sg F
  fld : ∀ c n, (c, n) ∈ C.flds → Cls K (cls c) ∧ NoAttr K (cls c) n
  kw : ∀ (i : Nat) (x : Str) (sg : Sig) (F : List D → M R.S D) (ks : List Str) (perm : List Nat), (i, ks, perm) ∈ C.kws → C.fns[i]? = some (x, sg) → Γ.fns[i]? = some F → FkK R cls P w K mg base k x sg F ks perm
  isi : ∀ c ∈ C.isi, IsiC K (cls c) ∧ mg c = some (.ref (cls c))
  con : ∀ (i : Nat) (x : Str) (d : D), C.cons[i]? = some x → Γ.cons[i]? = some d → ∃ v u, mg x = some u ∧ RelV v u ∧ ∀ g A H, Rp ⟨K, cls, g⟩ A H d v
theorem startE_get {n : Nat} {lend : List Bool} {ds : List D} {i : Nat} {d : D} {f : Fl} (h : (startE n lend ds)[i]? = some (some (d, f))) : ∃ b, ds[i]? = some d ∧ lend[i]? = some b ∧ f = if b then Fl.lent else Fl.frz := by
  unfold startE at h
  rw [List.getElem?_append] at h
  split at h
  · rw [List.getElem?_map] at h
    cases q : (ds.zip lend)[i]? with
    | none => rw [q] at h; cases h
    | some p =>
      rw [q] at h
      cases h
      rw [List.getElem?_zip_eq_some] at q
      exact ⟨p.2, q.1, q.2, rfl⟩
  · rw [List.getElem?_replicate] at h
    split at h <;> cases h
theorem ArgsOk.get {c : Rc} {A : Addr → Prop} {H : Hp} : ∀ {ls : List Bool} {ds : List D} {vs : List V} {i : Nat} {d : D} {b : Bool}, ArgsOk c A H ls ds vs → ds[i]? = some d → ls[i]? = some b → ∃ v, vs[i]? = some v ∧ (if b then Lb c A H d v else Rp c A H d v)
  | [], ds, vs, i, d, b, h, h1, h2 => by simp at h2
  | l :: ls, ds, vs, i, d, b, h, h1, h2 => by
    obtain ⟨e, ds', v, vs', rfl, rfl, q1, q2⟩ := h
    cases i with
    | zero =>
      simp at h1 h2
      subst h1 h2
      exact ⟨v, rfl, q1⟩
    | succ i =>
      simp at h1 h2
      obtain ⟨u, e1, e2⟩ := q2.get h1 h2
      exact ⟨u, by simpa using e1, e2⟩
theorem start_get {N : List Str} {vs : List V} {i : Nat} {v : V} (h : vs[i]? = some v) : (L2.start N vs)[i]? = some (some v) := by
  unfold L2.start
  have hi : i < vs.length := by
    rcases Nat.lt_or_ge i vs.length with z | z
    · exact z
    · rw [List.getElem?_eq_none z] at h; cases h
  rw [List.getElem?_append_left (by simpa using hi), List.getElem?_map, h]
  rfl
theorem envOk_start {c : Rc} {A : Addr → Prop} {H : Hp} {N : List Str} {lend : List Bool} {ds : List D} {vs : List V} (ht : ∀ a, A a → H a ≠ none) (hg : ∀ a, Gv c a → A a) (ha : ArgsOk c A H lend ds vs) (hn : lend.length ≤ N.length) : EnvOk c A H (L2.start N vs) (startE N.length lend ds) := by
  have l := ha.length
  have nh : ∀ a, ¬ Held (startE N.length lend ds) (L2.start N vs) a := fun a z => by
    obtain ⟨i, d, f, h1, h2, _⟩ := z
    obtain ⟨b, _, _, e⟩ := startE_get h1
    cases b
    · rcases h2 with h2 | h2 <;> rw [h2] at e <;> cases e
    · rcases h2 with h2 | h2 <;> rw [h2] at e <;> cases e
  have av : ∀ a, Av A (startE N.length lend ds) (L2.start N vs) a → A a := fun a z => z.elim id fun z => absurd z (nh a)
  have mo : ∀ {d : D} {v : V}, Rp c A H d v → Rp c (Av A (startE N.length lend ds) (L2.start N vs)) H d v := fun h => h.anti av
  refine ⟨?_, ht, hg, fun i d h => ?_, fun i d h => ?_, fun i d f h1 h2 => ?_, fun i j d e f h' a h1 h2 => ?_⟩
  · unfold startE L2.start
    rw [List.length_append, List.length_append, List.length_map, List.length_map, List.length_replicate, List.length_replicate, List.length_zip]
    omega
  · obtain ⟨b, h1, h2, e⟩ := startE_get h
    obtain ⟨v, e1, e2⟩ := ha.get h1 h2
    cases b with
    | true => cases e
    | false => exact ⟨v, start_get e1, mo e2⟩
  · obtain ⟨b, h1, h2, e⟩ := startE_get h
    obtain ⟨v, e1, e2⟩ := ha.get h1 h2
    cases b with
    | false => cases e
    | true =>
      refine ⟨v, start_get e1, ?_⟩
      rcases (show Lb c A H d v from e2) with z | ⟨a, z1, z2, z3⟩
      · exact .inl (mo z)
      · exact .inr ⟨a, z1, z2, nh a, z3.anti av⟩
  · obtain ⟨b, _, _, e⟩ := startE_get h1
    cases b
    · rcases h2 with h2 | h2 <;> rw [h2] at e <;> cases e
    · rcases h2 with h2 | h2 <;> rw [h2] at e <;> cases e
  · obtain ⟨b, _, _, e⟩ := startE_get h1
    cases b
    · rcases h2 with h2 | h2 <;> rw [h2] at e <;> cases e
    · rcases h2 with h2 | h2 <;> rw [h2] at e <;> cases e
theorem scC_nd {N ps : List Str} {sc : Scope} (h : C8.scC N ps sc = true) : FnScope N ps sc := C8.fnScope_by h
/-- what a body's checks lean on, in its context -/
theorem DOk.yok {C : CC} {ps : List Str} {qual : Str} {scope : Scope} {f : Addr} {cdv : Value} {A : Around} {outer : List PySem.Env} {s : Shared} {H : Hp} {E : XK} {k : Nat} (hX : DOk R cls Γ C P w K mg base k) (S : FnScope C.N ps scope) (hsc : C.sc = scope)
    (hr : Room k (A.deeper (envOfC qual scope s.heap.objs.size f cdv))) (gu : A.guards = some []) : YOk R cls Γ C (cxOf CX0 P w K mg base C.N qual scope f cdv A outer s H E).nox := by
  refine ⟨⟨rfl, S.nd, hsc.symm, rfl, ?_, gu, hX.free, fun i x sg h => ?_, hX.fld, fun i x sg F ks perm h1 h2 h3 => ⟨?_, ?_⟩, hX.isi, hX.con⟩, S.kind, fun _ => rfl, fun e s z => z.elim⟩
  · have := hr.un
    show (A.deeper _).units + 64 < cLine
    omega
  · obtain ⟨F, e, a⟩ := hX.fn i x sg h
    refine ⟨F, e, ⟨fun z => ?_⟩, ⟨fun z => ?_⟩, ⟨fun z => ?_⟩, ⟨fun z => ?_⟩⟩
    · obtain ⟨f, fd, ps, q1, q2, q3, q4⟩ := a.fn z
      exact ⟨k, f, fd, ps, q1, q2, q3, q4, hr, gu⟩
    · obtain ⟨j, f, fd, ps, l, q1, q2, q3, q4⟩ := a.ini z
      exact ⟨j, f, fd, ps, q1, q2, q3, q4, hr.mono l, gu⟩
    · obtain ⟨j, f, fd, ps, l, q1, q2, q3, q4⟩ := a.mth z
      exact ⟨j, f, fd, ps, q1, q2, q3, q4, hr.mono l, gu⟩
    · obtain ⟨j, p, f, fd, ps, l, q1, q2, q3, q4⟩ := a.prp z
      exact ⟨j, p, f, fd, ps, q1, q2, q3, q4, hr.mono l, gu⟩
  · refine ⟨fun z => ?_⟩
    obtain ⟨f, fd, ps, q1, q2, q3, q4⟩ := (hX.kw i x sg F ks perm h1 h2 h3).ex z
    exact ⟨k, f, fd, ps, q1, q2, q3, q4, hr, gu⟩
  · refine ⟨fun z => ?_⟩
    obtain ⟨f, fd, ps, q1, q2, q3, q4⟩ := (hX.kw i x sg F ks perm h1 h2 h3).mth z
    exact ⟨k, f, fd, ps, q1, q2, q3, q4, hr, gu⟩
/-- THE RULE: by the check of its term -/
theorem fn_def {x qual : Str} {params : Arguments} {body : List Stmt} {scope : Scope} {C : CC} {irb : List IS} {sg : Sig} {ps : List Str} {k : Nat} {f : Addr} {fd : FuncData} {F : List D → M R.S D} (D0 : FunD K x qual params body scope [] [] f fd)
    (hs : C8.scC C.N ps scope = true) (hsc : C.sc = scope) (hl : sg.lend.length = ps.length) (hck : chkSs C irb body = true) (hX : DOk R cls Γ C P w K mg base k)
    (hF : ∀ ds s r, F ds s = r → r ≠ .bad → ∃ N, runF Γ N sg ⟨C.N.length, irb⟩ ds s = r) : FnG P w K mg base (k + 1) f fd ps (spF R K cls sg F) := by
  have S : FnScope C.N ps scope := C8.fnScope_by hs
  have hpl : ps.length ≤ C.N.length := by have := congrArg List.length S.pre; rw [List.length_take] at this; omega
  refine fnG_def D0 S (fun vs H Q E h => ?_) fun cdv A outer s H vs Q E gu hr h => ?_
  · obtain ⟨g, A, ds, s, _, _, _, h4, _⟩ := h
    rw [h4.length.2, hl]
  · obtain ⟨g, A0, ds, st, h1, h2, h3, h4, h5⟩ := h
    have nb : F ds st ≠ .bad := fun z => by rw [z] at h5; exact h5
    obtain ⟨N, hN⟩ := hF ds st _ rfl nb
    let X : Cx := (cxOf CX0 P w K mg base C.N qual scope f cdv A outer s H E).nox
    have y : YOk R cls Γ C X := hX.yok S hsc hr gu
    obtain ⟨t, pt, q⟩ := ss_all irb (N := N) C X body y hck
    have ek : EnvOk (rc cls X g) A0 H (L2.start C.N vs) (startE C.N.length sg.lend ds) := envOk_start (c := rc cls X g) h1 h2 h4 (by omega)
    refine ⟨t, pt.nox, q _ (L2.start C.N vs) H g A0 _ st ek h3 ?_⟩
    have hlen : ds.length = sg.lend.length := h4.length.1
    have hN2 : (exs Γ N irb (startE C.N.length sg.lend ds) >>= fun o => (match o with
      | .nx _ => pure .non
      | .ret d b => if sg.fr && isBox d && !b then bad else pure d
      | _ => bad : M R.S D)) st = F ds st := by
      rw [← hN]
      unfold runF
      rw [if_pos hlen]
      try rfl
    rw [← hN2, bind_def] at h5
    have nw : ∀ a, Wr (rc cls X g) (startE C.N.length sg.lend ds) (L2.start C.N vs) a → Gv (rc cls X g) a := fun a z => by
      rcases z with z | ⟨i, d, z, _⟩
      · exact z
      · obtain ⟨b, _, _, e⟩ := startE_get z
        cases b <;> cases e
    have no : ∀ a, ¬ Owns (startE C.N.length sg.lend ds) (L2.start C.N vs) a := fun a ⟨i, d, z, _⟩ => by
      obtain ⟨b, _, _, e⟩ := startE_get z
      cases b <;> cases e
    cases z : exs Γ N irb (startE C.N.length sg.lend ds) st with
    | bad => rw [z] at h5; exact h5
    | er _ _ _ => rw [z] at h5; exact h5
    | ok u s1 =>
      rw [z] at h5
      cases u with
      | nx e =>
        intro σ' H' a
        refine h5 .non H' (a.ext.more nw) a.ok ?_
        show Rm (frM sg.fr) _ A0 H H' .non .non
        cases sg.fr
        · exact rfl
        · exact .inl ⟨rfl, rfl⟩
      | bk e => exact h5.elim
      | ct e => exact h5.elim
      | ret d fr =>
        intro v H' a
        have h5 : PostE R (frM sg.fr) ⟨K, cls, g⟩ A0 H ((if sg.fr && isBox d && !fr then bad else pure d : M R.S D) s1) Q := h5
        have val := a.val
        split at h5
        · exact h5.elim
        · rename_i c
          refine h5 v H' (a.ext.more nw) a.ok ?_
          show Rm (frM sg.fr) _ A0 H H' d v
          have anti : ∀ {p : Addr}, CellAt (rc cls X g) (Plus A0 p) H' p d → CellAt (rc cls X g) A0 H' p d := fun z => z.anti fun _ z => .inl z
          cases e1 : sg.fr
          · show Rp _ A0 H' d v
            cases fr with
            | false => exact val
            | true =>
              rcases (show (isBox d = false ∧ Rp (rc cls X g) A0 H' d v) ∨ ∃ a, v = .ref a ∧ (H a = none ∨ Owns (startE C.N.length sg.lend ds) (L2.start C.N vs) a) ∧ ¬ A0 a ∧ CellAt (rc cls X g) (Plus A0 a) H' a d from val) with z | ⟨p, z1, z2, z3, z4⟩
              · exact z.2
              · rw [z1]
                exact (anti z4).rp z3
          · show Fr _ A0 H H' d v
            cases fr with
            | false =>
              rw [e1] at c
              refine .inl ⟨?_, val⟩
              cases q : isBox d with
              | false => rfl
              | true => rw [q] at c; exact absurd rfl c
            | true =>
              rcases (show (isBox d = false ∧ Rp (rc cls X g) A0 H' d v) ∨ ∃ a, v = .ref a ∧ (H a = none ∨ Owns (startE C.N.length sg.lend ds) (L2.start C.N vs) a) ∧ ¬ A0 a ∧ CellAt (rc cls X g) (Plus A0 a) H' a d from val) with z | ⟨p, z1, z2, z3, z4⟩
              · exact .inl z
              · exact .inr ⟨p, z1, z2.resolve_right (no p), z4⟩

/-! ### an __init__: expressions, then fields -/
def env0 (n : Nat) (lend : List Bool) (ds : List D) : IEnv := none :: startE n (lend.map fun _ => false) ds
def iniF {S : Type} (Γ : Gm S) (cl : Str) (lend : List Bool) (n : Nat) (pre : List IE) (fl : List (Str × IE)) (ds : List D) : M S D := do
  if ds.length = lend.length then
    let _ ← evs Γ pre (env0 n lend ds)
    let fs ← fldsE Γ (env0 n lend ds) fl []
    pure (.ins cl fs)
  else bad
def chkF (C : CC) (cl : Str) : List (Str × IE) → List Stmt → Bool
  | [], sts => sts.isEmpty
  | (n, ie) :: r, sts => (match sts with
    | .Assign [.Attribute (.Name x _) m _] v _ :: sts => decide (m = n) && (nmOk C 0 x && (decide (md ie ≠ .bor) && ((compScope v).isNone && (decide ((cl, n) ∈ C.flds) && (chk C ie v && chkF C cl r sts)))))
    | _ => false)
def chkN (C : CC) (cl : Str) (fl : List (Str × IE)) : List IE → List Stmt → Bool
  | [], sts => chkF C cl fl sts
  | i :: is, sts => (match sts with
    | .Expr v _ :: sts => (compScope v).isNone && (chk C i v && chkN C cl fl is sts)
    | _ => false)
theorem putF_new : ∀ {gs : List (Str × V)} {f : Str} {y : V}, gs.lookup f = none → putF f y gs = gs ++ [(f, y)]
  | [], f, y, _ => rfl
  | (n, z) :: gs, f, y, h => by
    have hne : (f == n) = false := by
      cases q : (f == n) with
      | false => rfl
      | true => simp [List.lookup, q] at h
    have h2 : gs.lookup f = none := by
      simp only [List.lookup, hne] at h
      exact h
    have hn : ¬ n = f := fun z => by
      rw [z] at hne
      simp at hne
    have hn2 : (n == f) = false := beq_eq_false_iff_ne.mpr hn
    unfold putF
    first
      | (rw [if_neg hn, putF_new h2]; rfl)
      | (rw [if_neg (fun z => hn z.symm), putF_new h2]; rfl)
      | (rw [hn2]; simp [putF_new h2])
      | (simp [hn, hn2, hne, putF_new h2])
theorem Rpf.append {c : Rc} {A : Addr → Prop} {H : Hp} : ∀ {a b : List (Str × D)} {as bs : List (Str × V)}, Rpf c A H a as → Rpf c A H b bs → Rpf c A H (a ++ b) (as ++ bs)
  | [], b, as, bs, h, k => by have h : as = [] := h; rw [h]; exact k
  | (q, d) :: r, b, as, bs, h, k => by
    obtain ⟨v, ws, rfl, h1, h2⟩ := h
    exact ⟨v, ws ++ bs, rfl, h1, Rpf.append h2 k⟩
theorem Rpf.length {c : Rc} {A : Addr → Prop} {H : Hp} : ∀ {a : List (Str × D)} {as : List (Str × V)}, Rpf c A H a as → as.length = a.length
  | [], as, h => by have h : as = [] := h; rw [h]; rfl
  | (q, d) :: r, as, h => by
    obtain ⟨v, ws, rfl, h1, h2⟩ := h
    rw [List.length_cons, List.length_cons, Rpf.length h2]
def AllFz (env : IEnv) : Prop := ∀ (i : Nat) (d : D) (f : Fl), env[i]? = some (some (d, f)) → f = .frz
theorem AllFz.av {env : IEnv} (z : AllFz env) {A0 : Addr → Prop} {σ : L2.St} {a : Addr} (h : Av A0 env σ a) : A0 a := h.elim id fun ⟨i, d, f, h1, h2, _⟩ => by
  rw [z i d f h1] at h2
  rcases h2 with h2 | h2 <;> cases h2
theorem EnvOk.wr {c : Rc} {A0 W : Addr → Prop} {H H' : Hp} {σ : L2.St} {env : IEnv} (k : EnvOk c A0 H σ env) (z : AllFz env) (e : Ext W H H') (w : ∀ a, W a → A0 a) (t : ∀ a, A0 a → H' a ≠ none) : EnvOk c A0 H' σ env where
  len := k.len
  tr := t
  g := k.g
  frz := fun i d h => by
    obtain ⟨v, e1, e2⟩ := k.frz i d h
    exact ⟨v, e1, e2.ext e fun a q => .inl (w a q)⟩
  lent := fun i d h => by cases z i d _ h
  hld := fun i d f h hf => by
    rw [z i d f h] at hf
    rcases hf with hf | hf <;> cases hf
  inj := k.inj
theorem flds_ok {C : CC} {X : Cx} (y : YOk R cls Γ C X) {cl : Str} : ∀ (fl : List (Str × IE)) (sts : List Stmt), chkF C cl fl sts = true → ∃ t, PSs X sts t ∧
    ∀ D σ H g A0 env s x dx acc gs, EnvOk (rc cls X g) A0 H σ env → AllFz env → R.ok g s H → σ[0]? = some (some (.ref x)) → A0 x → ¬ Gv (rc cls X g) x → H x = some (.ins (cls cl) dx gs) → Rpf (rc cls X g) A0 H acc gs →
      (match fldsE Γ env fl acc s with
        | .ok fs s' => ∀ H' gs', Ext (fun a => Gv (rc cls X g) a ∨ a = x) H H' → R.ok g s' H' → H' x = some (.ins (cls cl) dx gs') → Rpf (rc cls X g) A0 H' fs gs' → D.nx σ H'
        | _ => False) → t D σ H
  | [], sts, h => by
    cases sts with
    | nil => exact ⟨_, pss_nil, fun D σ H g A0 env s x dx acc gs k z o hx hA hG hH hr hh => hh H gs Ext.refl o hH hr⟩
    | cons _ _ => cases h
  | (n, ie) :: r, sts, h => by
    unfold chkF at h
    split at h
    · rename_i x0 p0 m p1 v p2 sts'
      obtain ⟨h1, h⟩ := b2 h
      obtain ⟨h2, h⟩ := b2 h
      obtain ⟨h3, h⟩ := b2 h
      obtain ⟨h4, h⟩ := b2 h
      obtain ⟨h5, h⟩ := b2 h
      obtain ⟨h6, h7⟩ := b2 h
      have e := dec h1
      subst e
      obtain ⟨a1, a2, a3, a4⟩ := nmOk_of y.x h2
      obtain ⟨t2, pt2, q2⟩ := flds_ok y r sts' h7
      obtain ⟨t1, pt1, q1⟩ := (chk_ok ie C X v y.x h6).1
      obtain ⟨c1, c2⟩ := y.x.fld _ _ (dec h5)
      refine ⟨_, pss_cons (ps_fld (pe_var a1 a2 a3 a4) pt1 (swp_any (Option.isNone_iff_eq_none.mp h4))) pt2, fun De σ H g A0 env s x dx acc gs k z o hx hA hG hH hr hh => ?_⟩
      refine q1 σ H _ g A0 env s k o ?_
      unfold fldsE at hh
      rw [bind_def] at hh
      cases qe : ev Γ ie env s with
      | bad => rw [qe] at hh; exact hh
      | er _ _ _ => rw [qe] at hh; exact hh
      | ok d s1 =>
        rw [qe] at hh
        intro w H1 x1 o1 r1
        refine ⟨_, hx, x, _, dx, gs, rfl, x1 _ _ hH (.inl hG), c1, c2, ?_⟩
        have hh : (match (if acc.length < 1000 ∧ acc.lookup m = none then fldsE Γ env r (acc ++ [(m, d)]) else bad : M R.S (List (Str × D))) s1 with
          | .ok fs s' => ∀ H' gs', Ext (fun a => Gv (rc cls X g) a ∨ a = x) H H' → R.ok g s' H' → H' x = some (.ins (cls cl) dx gs') → Rpf (rc cls X g) A0 H' fs gs' → De.nx σ H'
          | _ => False) := hh
        by_cases c : acc.length < 1000 ∧ acc.lookup m = none
        · rw [if_pos c] at hh
          have hl : gs.lookup m = none := (Rpf.look hr).2 c.2
          refine ⟨by rw [hr.length]; exact c.1, ?_⟩
          rw [putF_new hl]
          have rd : Rp (rc cls X g) A0 H1 d w := (r1.rp (dec h3) k.trA).anti fun a q => .inl q
          have wr : Ext (fun a => a = x) H1 (upd H1 x (.ins (cls cl) dx (gs ++ [(m, w)]))) := Ext.put rfl (x1 _ _ hH (.inl hG)) id
          have wA : ∀ a, a = x → A0 a := fun a q => by rw [q]; exact hA
          have k1 := k.next x1 o1
          have tr : ∀ a, A0 a → upd H1 x (.ins (cls cl) dx (gs ++ [(m, w)])) a ≠ none := fun a q => by
            by_cases ha : a = x
            · rw [ha, upd_same]; simp
            · rw [upd_ne ha]; exact k1.tr a q
          refine q2 De σ _ g A0 env s1 x dx (acc ++ [(m, d)]) (gs ++ [(m, w)]) (k1.wr z wr wA tr) z (R.stay (fun a ha o e => by rw [upd_ne (fun q => hG (by rw [← q]; exact ha))]; exact e) o1) hx hA hG upd_same ?_ ?_
          · refine Rpf.append ?_ ⟨w, [], rfl, rd.ext wr wA, rfl⟩
            exact Rpf.mono ((x1.more fun _ q => Or.inl q).trans (wr.more fun _ q => Or.inr q)) (fun a q => q.elim (k.g a) (wA a)) (fun _ q => .inl q) _ _ hr
          · cases qf : fldsE Γ env r (acc ++ [(m, d)]) s1 with
            | bad => rw [qf] at hh; exact hh
            | er _ _ _ => rw [qf] at hh; exact hh
            | ok fs s2 =>
              rw [qf] at hh
              intro H' gs' x2 o2 hH' hr'
              exact hh H' gs' (((x1.more fun _ q => Or.inl q).trans (wr.more fun _ q => Or.inr q)).trans x2) o2 hH' hr'
        · rw [if_neg c] at hh
          exact hh.elim
    · cases h
theorem exps_ok {C : CC} {X : Cx} (y : YOk R cls Γ C X) {cl : Str} {fl : List (Str × IE)} : ∀ (pre : List IE) (sts : List Stmt), chkN C cl fl pre sts = true → ∃ t, PSs X sts t ∧
    ∀ D σ H g A0 env s x dx, EnvOk (rc cls X g) A0 H σ env → AllFz env → R.ok g s H → σ[0]? = some (some (.ref x)) → A0 x → ¬ Gv (rc cls X g) x → H x = some (.ins (cls cl) dx []) →
      (match (evs Γ pre env >>= fun _ => fldsE Γ env fl []) s with
        | .ok fs s' => ∀ H' gs', Ext (fun a => Gv (rc cls X g) a ∨ a = x) H H' → R.ok g s' H' → H' x = some (.ins (cls cl) dx gs') → Rpf (rc cls X g) A0 H' fs gs' → D.nx σ H'
        | _ => False) → t D σ H
  | [], sts, h => by
    obtain ⟨t, pt, q⟩ := flds_ok (Γ := Γ) y fl sts h
    exact ⟨t, pt, fun D σ H g A0 env s x dx k z o hx hA hG hH hh => q D σ H g A0 env s x dx [] [] k z o hx hA hG hH rfl hh⟩
  | i :: is, sts, h => by
    unfold chkN at h
    split at h
    · rename_i v p sts'
      obtain ⟨h1, h⟩ := b2 h
      obtain ⟨h2, h3⟩ := b2 h
      obtain ⟨t2, pt2, q2⟩ := exps_ok y is sts' h3
      obtain ⟨t1, pt1, q1⟩ := (chk_ok i C X v y.x h2).1
      refine ⟨_, pss_cons (ps_expr pt1 (swp_none (Option.isNone_iff_eq_none.mp h1))) pt2, fun De σ H g A0 env s x dx k z o hx hA hG hH hh => ?_⟩
      refine q1 σ H _ g A0 env s k o ?_
      unfold evs at hh
      rw [bind_assoc', bind_def] at hh
      cases qe : ev Γ i env s with
      | bad => rw [qe] at hh; exact hh
      | er _ _ _ => rw [qe] at hh; exact hh
      | ok d s1 =>
        rw [qe] at hh
        intro w H1 x1 o1 r1
        have k1 := k.next x1 o1
        refine q2 De σ H1 g A0 env s1 x dx k1 z o1 hx hA hG (x1 _ _ hH (.inl hG)) ?_
        have e : ((evs Γ is env >>= fun r => (pure (d :: r) : M R.S (List D))) >>= fun _ => fldsE Γ env fl []) = (evs Γ is env >>= fun _ => fldsE Γ env fl []) := by
          simp
        dsimp only at hh
        rw [e] at hh
        cases qf : (evs Γ is env >>= fun _ => fldsE Γ env fl []) s1 with
        | bad => rw [qf] at hh; exact hh
        | er _ _ _ => rw [qf] at hh; exact hh
        | ok fs s2 =>
          rw [qf] at hh
          intro H' gs' x2 o2 hH' hr'
          exact hh H' gs' ((x1.more fun _ q => Or.inl q).trans x2) o2 hH' hr'
    · cases h
theorem env0_get {n : Nat} {lend : List Bool} {ds : List D} {i : Nat} {d : D} {f : Fl} (h : (env0 n lend ds)[i]? = some (some (d, f))) : ∃ j, i = j + 1 ∧ ds[j]? = some d ∧ f = .frz := by
  cases i with
  | zero => cases h
  | succ j =>
    have h : (startE n (lend.map fun _ => false) ds)[j]? = some (some (d, f)) := h
    obtain ⟨b, h1, h2, e⟩ := startE_get h
    rw [List.getElem?_map] at h2
    obtain ⟨q, _, e2⟩ := Option.map_eq_some_iff.mp h2
    subst e2
    exact ⟨j, rfl, h1, e⟩
/-- THE RULE for an __init__ -/
theorem fn_init {x qual cl : Str} {params : Arguments} {body : List Stmt} {scope : Scope} {C : CC} {pre : List IE} {fl : List (Str × IE)} {lend : List Bool} {ps : List Str} {k : Nat} {f : Addr} {fd : FuncData} {F : List D → M R.S D} (D0 : FunD K x qual params body scope [] [] f fd)
    (hs : C8.scC C.N ps scope = true) (hsc : C.sc = scope) (hl : lend.length + 1 = ps.length) (hck : chkN C cl fl pre body = true) (hX : DOk R cls Γ C P w K mg base k)
    (hF : ∀ ds s, F ds s = iniF Γ cl lend (C.N.length - 1) pre fl ds s) : FnG P w K mg base (k + 1) f fd ps (spI R K cls cl lend F) := by
  have S : FnScope C.N ps scope := C8.fnScope_by hs
  have hpl : ps.length ≤ C.N.length := by have := congrArg List.length S.pre; rw [List.length_take] at this; omega
  refine fnG_def D0 S (fun vs H Q E h => ?_) fun cdv A outer s H vs Q E gu hr h => ?_
  · obtain ⟨g, A, ds, s, x, vs', rfl, _, _, _, _, _, _, h1, h2, _⟩ := h
    rw [List.length_cons, h1.length, h2, hl]
  · obtain ⟨g, A0, ds, st, x0, vs', rfl, ⟨dx, hx⟩, hA, hG, h1, h2, h3, h4, h5, h6⟩ := h
    let X : Cx := (cxOf CX0 P w K mg base C.N qual scope f cdv A outer s H E).nox
    have y : YOk R cls Γ C X := hX.yok S hsc hr gu
    obtain ⟨t, pt, q⟩ := exps_ok (Γ := Γ) (C := C) y pre body hck
    have z : AllFz (env0 (C.N.length - 1) lend ds) := fun i d f h => (env0_get h).choose_spec.2.2
    have hlen : (env0 (C.N.length - 1) lend ds).length = (L2.start C.N (V.ref x0 :: vs')).length := by
      unfold env0 startE L2.start
      have := h4.length
      rw [List.length_cons, List.length_append, List.length_append, List.length_map, List.length_map, List.length_replicate, List.length_replicate, List.length_zip, List.length_map, List.length_cons]
      omega
    have ek : EnvOk (rc cls X g) A0 H (L2.start C.N (V.ref x0 :: vs')) (env0 (C.N.length - 1) lend ds) := by
      refine ⟨hlen, h1, h2, fun i d h => ?_, fun i d h => (by cases z i d _ h), fun i d f h hf => ?_, fun i j d e f h' a e1 e2 => ?_⟩
      · obtain ⟨j, rfl, hj, _⟩ := env0_get h
        obtain ⟨v, hv, rv⟩ := h4.getD hj
        exact ⟨v, start_get (by rw [List.getElem?_cons_succ]; exact hv), rv.anti fun a q => z.av q⟩
      · rw [z i d f h] at hf
        rcases hf with hf | hf <;> cases hf
      · rw [z i d f e1] at e2
        rcases e2 with e2 | e2 <;> cases e2
    refine ⟨t, pt.nox, q _ _ H g A0 _ st x0 dx ek z h3 (start_get rfl) hA hG hx ?_⟩
    unfold PostC at h6
    rw [hF] at h6
    unfold iniF at h6
    rw [if_pos h5] at h6
    have e : (evs Γ pre (env0 (C.N.length - 1) lend ds) >>= fun _ => fldsE Γ (env0 (C.N.length - 1) lend ds) fl [] >>= fun fs => (pure (.ins cl fs) : M R.S D)) = ((evs Γ pre (env0 (C.N.length - 1) lend ds) >>= fun _ => fldsE Γ (env0 (C.N.length - 1) lend ds) fl []) >>= fun fs => (pure (.ins cl fs) : M R.S D)) := by simp
    rw [e, bind_def] at h6
    cases qf : (evs Γ pre (env0 (C.N.length - 1) lend ds) >>= fun _ => fldsE Γ (env0 (C.N.length - 1) lend ds) fl []) st with
    | bad => rw [qf] at h6; exact h6
    | er _ _ _ => rw [qf] at h6; exact h6
    | ok fs s2 =>
      rw [qf] at h6
      intro H' gs' x2 o2 hH' hr'
      exact h6 H' x2 o2 ⟨dx, gs', hH', hr'⟩
end
end Pv
end
section
set_option maxHeartbeats 4000000
namespace Pv
open PySem PySem.Spec PyProof.Rows L2

/-! ### a program of defs -/
structure Df (S : Type) where
  x : Str
  st : Stmt
  ps : List Str
  N : List Str
  ir : List IS
  sg : Sig
  F : Gm S → List D → M S D
  pre : List IE := []
  fl : List (Str × IE) := []
def okDf {S : Type} (C : CC) (d : Df S) : Bool := C8.scC d.N d.ps (defScope d.st) && (match d.sg.kd with
  | .ini => decide (d.sg.lend.length + 1 = d.ps.length) && chkN { C with N := d.N, sc := defScope d.st } d.x d.fl d.pre (defBody d.st)
  | _ => decide (d.sg.lend.length = d.ps.length) && chkSs { C with N := d.N, sc := defScope d.st } d.ir (defBody d.st))
def addC {S : Type} (C : CC) (d : Df S) : CC := { C with fns := C.fns ++ [(d.x, d.sg)] }
def addG {S : Type} (Γ : Gm S) (d : Df S) : Gm S := { Γ with fns := Γ.fns ++ [d.F Γ] }
def chkAll {S : Type} : CC → List (Df S) → Bool
  | _, [] => true
  | C, d :: ds => okDf C d && chkAll (addC C d) ds
def finC {S : Type} : CC → List (Df S) → CC
  | C, [] => C
  | C, d :: ds => finC (addC C d) ds
def finG {S : Type} : Gm S → List (Df S) → Gm S
  | Γ, [] => Γ
  | Γ, d :: ds => finG (addG Γ d) ds
/-- how a def stands behind the top -/
structure DfIn {S : Type} (cls : Str → Addr) (K : PySem.W.Frag) (mg : Str → Option Value) (C : CC) (d : Df S) : Prop where
  ex : ∃ f fd qual name, FunD K name qual (defArgs d.st) (defBody d.st) (defScope d.st) [] [] f fd ∧ Binds K fd d.ps [] ∧ (match d.sg.kd with
    | .fn => mg d.x = some (.ref f) ∧ ∀ ks perm, (C.fns.length, ks, perm) ∈ C.kws → KBn K fd d.ps 0 ks (fun us ws => us ++ perm.filterMap fun i => ws[i]?) (fun us ws => us ++ perm.filterMap fun i => ws[i]?)
    | .ini => mg d.x = some (.ref (cls d.x)) ∧ Mk K (cls d.x) f
    | .mth => Cls K (cls d.sg.cl) ∧ Meth K (cls d.sg.cl) d.x f ∧ ∀ ks perm, (C.fns.length, ks, perm) ∈ C.kws → KBn K fd d.ps 1 ks (fun us ws => us ++ perm.filterMap fun i => ws[i]?) (fun us ws => us ++ perm.filterMap fun i => ws[i]?)
    | .prp => ∃ p, Cls K (cls d.sg.cl) ∧ PropOf K (cls d.sg.cl) d.x p f)
def FOk {S : Type} (Γ : Gm S) (d : Df S) : Prop := match d.sg.kd with
  | .ini => ∀ ds s, d.F Γ ds s = iniF Γ d.x d.sg.lend (d.N.length - 1) d.pre d.fl ds s
  | _ => ∀ ds s r, d.F Γ ds s = r → r ≠ .bad → ∃ N, runF Γ N d.sg ⟨d.N.length, d.ir⟩ ds s = r
def AllIn {S : Type} (cls : Str → Addr) (K : PySem.W.Frag) (mg : Str → Option Value) : CC → Gm S → List (Df S) → Prop
  | _, _, [] => True
  | C, Γ, d :: ds => DfIn cls K mg C d ∧ FOk Γ d ∧ AllIn cls K mg (addC C d) (addG Γ d) ds
section
variable {R : RS} {cls : Str → Addr} {P : Program} {w : World} {K : PySem.W.Frag} {mg : Str → Option Value} {base : Heap}
theorem AnyK.mono {j k : Nat} {x : Str} {sg : Sig} {F : List D → M R.S D} (h : AnyK R cls P w K mg base j x sg F) (l : j ≤ k) : AnyK R cls P w K mg base k x sg F where
  fn := fun z => by
    obtain ⟨f, fd, ps, a, b, c, d⟩ := h.fn z
    exact ⟨f, fd, ps, a, b, c, d.mono l⟩
  ini := fun z => by
    obtain ⟨i, f, fd, ps, l2, a⟩ := h.ini z
    exact ⟨i, f, fd, ps, Nat.le_trans l2 l, a⟩
  mth := fun z => by
    obtain ⟨i, f, fd, ps, l2, a⟩ := h.mth z
    exact ⟨i, f, fd, ps, Nat.le_trans l2 l, a⟩
  prp := fun z => by
    obtain ⟨i, p, f, fd, ps, l2, a⟩ := h.prp z
    exact ⟨i, p, f, fd, ps, Nat.le_trans l2 l, a⟩
theorem FkK.mono {j k : Nat} {x : Str} {sg : Sig} {F : List D → M R.S D} {ks : List Str} {perm : List Nat} (h : FkK R cls P w K mg base j x sg F ks perm) (l : j ≤ k) : FkK R cls P w K mg base k x sg F ks perm := by
  refine ⟨fun z => ?_, fun z => ?_⟩
  · obtain ⟨f, fd, ps, a, b, c, d⟩ := h.ex z
    exact ⟨f, fd, ps, a, b, c, d.mono l⟩
  · obtain ⟨f, fd, ps, a, b, c, d⟩ := h.mth z
    exact ⟨f, fd, ps, a, b, c, d.mono l⟩
theorem snoc_get {α : Type} {l : List α} {a b : α} {i : Nat} (h : (l ++ [a])[i]? = some b) : l[i]? = some b ∨ (i = l.length ∧ b = a) := by
  rcases Nat.lt_trichotomy i l.length with z | z | z
  · rw [List.getElem?_append_left z] at h
    exact .inl h
  · subst z
    rw [List.getElem?_append_right (Nat.le_refl _), Nat.sub_self] at h
    cases h
    exact .inr ⟨rfl, rfl⟩
  · rw [List.getElem?_eq_none (by rw [List.length_append, List.length_singleton]; omega)] at h
    cases h
theorem get_len {α : Type} {l : List α} {b : α} {i : Nat} (h : l[i]? = some b) : i < l.length := by
  rcases Nat.lt_or_ge i l.length with z | z
  · exact z
  · rw [List.getElem?_eq_none z] at h; cases h
theorem snoc_l {α : Type} {l : List α} {a b : α} {i : Nat} (h : l[i]? = some b) : (l ++ [a])[i]? = some b := by
  rw [List.getElem?_append_left (get_len h)]
  exact h
theorem snoc_e {α : Type} {l : List α} {a : α} : (l ++ [a])[l.length]? = some a := by
  rw [List.getElem?_append_right (Nat.le_refl _), Nat.sub_self]
  rfl
/-- one more def -/
theorem DOk.add1 {Γ : Gm R.S} {C : CC} {k : Nat} {x : Str} {sg : Sig} {F : List D → M R.S D} (h : DOk R cls Γ C P w K mg base k) (len : C.fns.length = Γ.fns.length) (f : AnyK R cls P w K mg base (k + 2) x sg F)
    (fk : ∀ ks perm, (C.fns.length, ks, perm) ∈ C.kws → FkK R cls P w K mg base (k + 2) x sg F ks perm) : DOk R cls { Γ with fns := Γ.fns ++ [F] } { C with fns := C.fns ++ [(x, sg)] } P w K mg base (k + 2) where
  free := h.free
  con := h.con
  fld := h.fld
  isi := h.isi
  fn := fun i y sg' e => by
    rcases snoc_get e with e0 | ⟨ei, e0⟩
    · obtain ⟨F', e1, e2⟩ := h.fn i y sg' e0
      exact ⟨F', snoc_l e1, e2.mono (Nat.le_add_right _ _)⟩
    · cases e0
      subst ei
      exact ⟨F, by rw [len]; exact snoc_e, f⟩
  kw := fun i y sg' F' ks perm h1 e e2 => by
    rcases snoc_get e with e0 | ⟨ei, e0⟩
    · rcases snoc_get e2 with e3 | ⟨z, _⟩
      · exact (h.kw i y sg' F' ks perm h1 e0 e3).mono (Nat.le_add_right _ _)
      · have := get_len e0
        omega
    · cases e0
      subst ei
      have z : F' = F := by
        have e2 : (Γ.fns ++ [F])[C.fns.length]? = some F' := e2
        rw [len, snoc_e] at e2
        exact (Option.some.inj e2).symm
      rw [z]
      exact fk ks perm h1
theorem DOk.add {Γ : Gm R.S} {C : CC} {k : Nat} {d : Df R.S} (h : DOk R cls Γ C P w K mg base k) (len : C.fns.length = Γ.fns.length) (c : okDf C d = true) (i : DfIn cls K mg C d) (hF : FOk Γ d) : DOk R cls (addG Γ d) (addC C d) P w K mg base (k + 2) := by
  obtain ⟨c1, c2⟩ := b2 c
  obtain ⟨f, fd, qual, name, q1, q3, q4⟩ := i.ex
  have plain : d.sg.kd ≠ .ini → FnG P w K mg base (k + 1) f fd d.ps (spF R K cls d.sg (d.F Γ)) := fun no => by
    have c2' : (decide (d.sg.lend.length = d.ps.length) && chkSs { C with N := d.N, sc := defScope d.st } d.ir (defBody d.st)) = true := by
      cases z : d.sg.kd with
      | ini => exact absurd z no
      | _ => rw [z] at c2; exact c2
    have hF' : ∀ ds s r, d.F Γ ds s = r → r ≠ .bad → ∃ N, runF Γ N d.sg ⟨d.N.length, d.ir⟩ ds s = r := by
      unfold FOk at hF
      cases z : d.sg.kd with
      | ini => exact absurd z no
      | _ => rw [z] at hF; exact hF
    obtain ⟨c3, c4⟩ := b2 c2'
    exact fn_def (Γ := Γ) (C := { C with N := d.N, sc := defScope d.st }) q1 c1 rfl (dec c3) c4 ⟨h.free, h.fn, h.fld, h.kw, h.isi, h.con⟩ hF'
  refine h.add1 len ⟨fun z => ?_, fun z => ?_, fun z => ?_, fun z => ?_⟩ fun ks perm m => ⟨fun z => ?_, fun z => ?_⟩
  · rw [z] at q4
    exact ⟨f, fd, d.ps, q4.1, q1.kp, q3, (plain (by rw [z]; decide)).mono (Nat.le_succ _)⟩
  · rw [z] at q4 c2
    unfold FOk at hF
    rw [z] at hF
    obtain ⟨c3, c4⟩ := b2 c2
    refine ⟨k + 1, f, fd, d.ps, Nat.le_refl _, q4.1, q4.2, q3, ?_⟩
    exact fn_init (Γ := Γ) (C := { C with N := d.N, sc := defScope d.st }) q1 c1 rfl (dec c3) c4 ⟨h.free, h.fn, h.fld, h.kw, h.isi, h.con⟩ hF
  · rw [z] at q4
    exact ⟨k + 1, f, fd, d.ps, Nat.le_refl _, q4.1, q4.2.1, q3, plain (by rw [z]; decide)⟩
  · rw [z] at q4
    obtain ⟨p, q4, q5⟩ := q4
    exact ⟨k + 1, p, f, fd, d.ps, Nat.le_refl _, q4, q5, q3, plain (by rw [z]; decide)⟩
  · rw [z] at q4
    exact ⟨f, fd, d.ps, q4.1, q1.kp, q4.2 ks perm m, (plain (by rw [z]; decide)).mono (Nat.le_succ _)⟩
  · rw [z] at q4
    exact ⟨f, fd, d.ps, q4.1, q4.2.1, q4.2.2 ks perm m, (plain (by rw [z]; decide)).mono (Nat.le_succ _)⟩
/-- all of them -/
theorem DOk.all : ∀ {ds : List (Df R.S)} {Γ : Gm R.S} {C : CC} {k : Nat}, DOk R cls Γ C P w K mg base k → C.fns.length = Γ.fns.length → chkAll C ds = true → AllIn cls K mg C Γ ds → DOk R cls (finG Γ ds) (finC C ds) P w K mg base (k + 2 * ds.length)
  | [], Γ, C, k, h, _, _, _ => h
  | d :: ds, Γ, C, k, h, len, c, a => by
    obtain ⟨c1, c2⟩ := b2 c
    obtain ⟨a1, a2, a3⟩ := a
    have l2 : (addC C d).fns.length = (addG Γ d).fns.length := by
      show (C.fns ++ [(d.x, d.sg)]).length = (Γ.fns ++ [d.F Γ]).length
      rw [List.length_append, List.length_append, len]
      rfl
    have z := DOk.all (h.add len c1 a1 a2) l2 c2 a3
    have e : k + 2 + 2 * ds.length = k + 2 * (d :: ds).length := by rw [List.length_cons]; omega
    rw [e] at z
    exact z
end
end Pv
end
section
set_option maxHeartbeats 4000000
namespace Pv
open PySem PySem.Spec PyProof.Rows L2

/-! ### the draws: a list of three ints -/
structure Rg where
  d : Int
  s : Int
  t : Int
def Rg.vs (s : Rg) : List V := [.int s.d, .int s.s, .int s.t]
def RNG : RS where
  S := Option Rg
  ok := fun g s H => match s with
    | none => g = []
    | some s => ∃ r, g = [r] ∧ H r = some (.lst s.vs)
  stay := fun {g s H H'} h o => by
    cases s with
    | none => exact o
    | some s =>
      obtain ⟨r, rfl, e⟩ := o
      exact ⟨r, rfl, h r (List.mem_singleton.mpr rfl) _ e⟩
  there := fun {g s H} o a m => by
    cases s with
    | none =>
      have o : g = [] := o
      subst o
      cases m
    | some s =>
      obtain ⟨r, rfl, e⟩ := o
      have m := List.mem_singleton.mp m
      subst m
      exact ⟨_, e, id⟩
/-- the numbers of a draw -/
structure Dk where
  c1 : Int
  c2 : Int
  e2 : Nat
  ok : 0 ≤ c1 ∧ c1 < 2 ^ 40 ∧ 0 ≤ c2 ∧ c2 < 2 ^ 40 ∧ e2 ≤ 8
abbrev dM1 : Int := 162259276829213363391578010288127
abbrev dM2 : Int := 170141183460469231731687303715884105727
def drawN (q : Dk) (s t : Int) : Int := (((s + q.c1 * t) ^ 3 % dM1 + q.c2 * t) ^ q.e2 % dM2) / 1048576
def drawS (q : Dk) (n : Int) (s : Rg) : Option (Int × Rg) :=
  if 0 < n ∧ n < 2 ^ 1000 ∧ 0 ≤ s.s ∧ s.s < 2 ^ 70 ∧ 0 ≤ s.t ∧ s.t < 2 ^ 40 then
    (if 0 < s.d then some (s.d % n, ⟨s.d / n, s.s, s.t⟩) else some (drawN q s.s (s.t + 1) % n, ⟨s.d, s.s, s.t + 1⟩))
  else none
def drawF (q : Dk) : List D → M (Option Rg) D
  | [.rng, .int n] => fun s => match s with
    | some s => (match drawS q n s with
      | some (i, s') => .ok (.int i) (some s')
      | none => .bad)
    | none => .bad
  | _ => bad
section
variable {X : Cx}
def CPowB (i j : Int) : Prop := 0 ≤ j ∧ (Builtin.Int.intBits i : Int) * j ≤ 2 ^ 27
theorem op_powB : OpR X (binaryOp .Pow) (rI CPowB fun i j => .int (i ^ j.toNat)) := opI fun _ _ _ _ _ _ _ hc q => pow_int hc.1 hc.2 q
abbrev rAdd : R2 := rI0 fun i j => .int (i + j)
abbrev rMulI : R2 := rI CMul fun i j => .int (i * j)
abbrev rModI : R2 := rI (fun _ j => 0 < j) fun i j => .int (i % j)
abbrev rDivI : R2 := rI CDivW fun i j => .int (i / j)
abbrev rPowI : R2 := rI CPowB fun i j => .int (i ^ j.toNat)
abbrev rInt : List V → Hp → VK → Prop := fun xs H Q => (∃ i, xs = [.int i] ∧ Q (.int i) H) ∨ ∃ k, xs = [.bl k] ∧ Q (.int (if k then 1 else 0)) H
variable {σ : L2.St} {H : Hp} {ta tb : TE} {K : PySem.W.Frag}
theorem val_int {i : Int} (h : Val ta σ H (.int i)) : Val (tCB rInt (tCons ta tNil)) σ H (.int i) := by
  intro Q q
  refine h _ ?_
  exact .inl ⟨i, rfl, q⟩
theorem val_at {p : Addr} {xs : List V} {i : Int} {v : V} (h : Val ta σ H (.ref p)) (e : H p = some (.lst xs)) (hi : atI xs i = some v) : Val (tOp (rIxL K) ta (tC (.int i))) σ H v :=
  val_op h val_c fun Q q => ⟨p, xs, i, v, rfl, rfl, .inl (.inl e), hi, q⟩
theorem val_add {i j : Int} (h1 : Val ta σ H (.int i)) (h2 : Val tb σ H (.int j)) : Val (tOp rAdd ta tb) σ H (.int (i + j)) := val_op h1 h2 fun Q q => ⟨i, j, rfl, rfl, q⟩
theorem val_mul {i j : Int} (h1 : Val ta σ H (.int i)) (h2 : Val tb σ H (.int j)) (c : CMul i j) : Val (tOp rMulI ta tb) σ H (.int (i * j)) := val_op h1 h2 fun Q q => ⟨i, j, rfl, rfl, c, q⟩
theorem val_mod {i j : Int} (h1 : Val ta σ H (.int i)) (h2 : Val tb σ H (.int j)) (c : 0 < j) : Val (tOp rModI ta tb) σ H (.int (i % j)) := val_op h1 h2 fun Q q => ⟨i, j, rfl, rfl, c, q⟩
theorem val_div {i j : Int} (h1 : Val ta σ H (.int i)) (h2 : Val tb σ H (.int j)) (c : CDivW i j) : Val (tOp rDivI ta tb) σ H (.int (i / j)) := val_op h1 h2 fun Q q => ⟨i, j, rfl, rfl, c, q⟩
theorem val_pow {i j : Int} (h1 : Val ta σ H (.int i)) (h2 : Val tb σ H (.int j)) (c : CPowB i j) : Val (tOp rPowI ta tb) σ H (.int (i ^ j.toNat)) := val_op h1 h2 fun Q q => ⟨i, j, rfl, rfl, c, q⟩
theorem st_put {D : Ends} {p : Addr} {xs : List V} {i : Int} {j : Nat} {v : V} {te : TE} (h : Val te σ H v) (h1 : Val ta σ H (.ref p)) (e : H p = some (.lst xs)) (hj : ixN xs.length i = some j) (q : D.nx σ (upd H p (.lst (xs.set j v)))) : tAsg te (gSub ta (tC (.int i)) rSetL) D σ H := by
  refine h _ ?_
  refine h1 _ ?_
  exact ⟨p, xs, i, j, rfl, rfl, e, hj, q⟩
end
theorem two_pow {a : Int} {n : Nat} (h0 : 0 ≤ a) (h : a < 2 ^ n) : Builtin.Int.intBits a ≤ n := by
  rw [PySem.intBits_le_iff]
  have e : ((2 : Int) ^ n) = ((2 ^ n : Nat) : Int) := by norm_cast
  rw [e] at h
  omega
theorem lt_of_mod {a m : Int} {n : Nat} (h : 0 < m) (k : m ≤ 2 ^ n) : 0 ≤ a % m ∧ a % m < 2 ^ n := ⟨Int.emod_nonneg _ (by omega), Int.lt_of_lt_of_le (Int.emod_lt_of_pos _ h) k⟩
theorem cpow {a : Int} {j n : Nat} (h0 : 0 ≤ a) (h : a < 2 ^ n) (k : n * j ≤ 2 ^ 27) : CPowB a (j : Int) := by
  refine ⟨by omega, ?_⟩
  have z := two_pow h0 h
  have z2 : Builtin.Int.intBits a * j ≤ 2 ^ 27 := Nat.le_trans (Nat.mul_le_mul_right j z) k
  exact_mod_cast z2
/-- what the draw's body does -/
def t_draw (K : PySem.W.Frag) (q : Dk) : TS :=
  tSeq (tIfS (tTest (tOp rGt (tOp (rIxL K) (tVar 0) (tC (.int 0))) (tC (.int 0))))
    (tSeq (tAsg (tOp rModI (tCB rInt (tCons (tOp (rIxL K) (tVar 0) (tC (.int 0))) tNil)) (tVar 1)) (gName 2))
      (tSeq (tAsg (tOp rDivI (tOp (rIxL K) (tVar 0) (tC (.int 0))) (tVar 1)) (gSub (tVar 0) (tC (.int 0)) rSetL)) (tRet (tVar 2)))) tNext)
    (tSeq (tAsg (tOp rAdd (tOp (rIxL K) (tVar 0) (tC (.int 2))) (tC (.int 1))) (gSub (tVar 0) (tC (.int 2)) rSetL))
      (tSeq (tAsg (tOp rModI (tCB rInt (tCons (tOp rPowI (tOp rAdd (tOp (rIxL K) (tVar 0) (tC (.int 1))) (tOp rMulI (tC (.int q.c1)) (tOp (rIxL K) (tVar 0) (tC (.int 2))))) (tC (.int 3))) tNil)) (tC (.int dM1))) (gName 3))
        (tSeq (tAsg (tOp rModI (tCB rInt (tCons (tOp rPowI (tOp rAdd (tVar 3) (tOp rMulI (tC (.int q.c2)) (tOp (rIxL K) (tVar 0) (tC (.int 2))))) (tC (.int (q.e2 : Nat)))) tNil)) (tC (.int dM2))) (gName 3))
          (tRet (tOp rModI (tCB rInt (tCons (tOp rDivI (tVar 3) (tC (.int 1048576))) tNil)) (tVar 1))))))
theorem pure_draw {K : PySem.W.Frag} {q : Dk} {H : Hp} {r : Addr} {n : Int} {s s' : Rg} {i : Int} {Q : VK} {a b : Str} {c d : Str} (e : H r = some (.lst s.vs)) (h : drawS q n s = some (i, s')) (hq : ∀ H', (∀ p o, p ≠ r → H p = some o → H' p = some o) → H' r = some (.lst s'.vs) → Q (.int i) H') :
    t_draw K q { nx := fun _ H' => Q .non H', rt := Q } (L2.start [a, b, c, d] [.ref r, .int n]) H := by
  unfold drawS at h
  split at h
  · rename_i z
    obtain ⟨z1, z2, z3, z4, z5, z6⟩ := z
    have nl : n.natAbs.log2 < 9000 := by
      have hz : n.natAbs < 2 ^ 1000 := by
        have e : ((2 : Int) ^ 1000) = ((2 ^ 1000 : Nat) : Int) := by norm_cast
        rw [e] at z2
        omega
      exact Nat.lt_trans ((Nat.log2_lt (by omega)).mpr hz) (by decide)
    have same : ∀ (j : Nat) (v : V), ∀ p o, p ≠ r → H p = some o → (upd H r (.lst (s.vs.set j v))) p = some o := fun j v p o hp h => by
      rw [upd_ne hp]
      exact h
    split at h
    · rename_i hd
      cases h
      refine st_seq (st_yes (ans_gt (val_at (val_var rfl) e rfl) (decide_eq_true hd)) ?_)
      refine st_seq (st_set (val_mod (val_int (val_at (val_var rfl) e rfl)) (val_var rfl) z1) ?_)
      refine st_seq (st_put (val_div (val_at (val_var rfl) e rfl) (val_var rfl) ⟨z1, nl⟩) (val_var rfl) e rfl ?_)
      exact st_ret (val_var rfl) (hq _ (same _ _) upd_same)
    · rename_i hd
      cases h
      refine st_seq (st_no (ans_gt (val_at (val_var rfl) e rfl) (decide_eq_false hd)) (st_next ?_))
      refine st_seq (st_put (val_add (val_at (val_var rfl) e rfl) val_c) (val_var rfl) e rfl ?_)
      have e2 : (upd H r (.lst (s.vs.set 2 (.int (s.t + 1))))) r = some (.lst [.int s.d, .int s.s, .int (s.t + 1)]) := upd_same
      obtain ⟨k1, k2, k3, k4, k5⟩ := q.ok
      have t0 : 0 ≤ s.t + 1 := by omega
      have t1 : s.t + 1 ≤ 2 ^ 40 := by omega
      have m1 : 0 ≤ q.c1 * (s.t + 1) ∧ q.c1 * (s.t + 1) ≤ 2 ^ 40 * 2 ^ 40 := ⟨Int.mul_nonneg k1 t0, Int.mul_le_mul (Int.le_of_lt k2) t1 t0 (by decide)⟩
      have m2 : 0 ≤ q.c2 * (s.t + 1) ∧ q.c2 * (s.t + 1) ≤ 2 ^ 40 * 2 ^ 40 := ⟨Int.mul_nonneg k3 t0, Int.mul_le_mul (Int.le_of_lt k4) t1 t0 (by decide)⟩
      refine st_seq (st_set (val_mod (val_int (val_pow (j := ((3 : Nat) : Int)) (val_add (val_at (val_var rfl) e2 rfl) (val_mul val_c (val_at (val_var rfl) e2 rfl) (.inl ⟨by omega, by omega⟩))) val_c (cpow (n := 82) (by omega) (by omega) (by decide)))) val_c (by decide)) ?_)
      have b1 := lt_of_mod (a := (s.s + q.c1 * (s.t + 1)) ^ 3) (m := dM1) (n := 108) (by decide) (by decide)
      refine st_seq (st_set (val_mod (val_int (val_pow (j := ((q.e2 : Nat) : Int)) (val_add (val_var rfl) (val_mul val_c (val_at (val_var rfl) e2 rfl) (.inl ⟨by omega, by omega⟩))) val_c (cpow (n := 110) (a := (s.s + q.c1 * (s.t + 1)) ^ 3 % dM1 + q.c2 * (s.t + 1)) (by omega) (by omega) (by have : 110 * q.e2 ≤ 110 * 8 := Nat.mul_le_mul_left _ k5; exact Nat.le_trans this (by decide))))) val_c (by decide)) ?_)
      exact st_ret (val_mod (val_int (val_div (val_var rfl) val_c ⟨by decide, by decide +kernel⟩)) (val_var rfl) z1) (hq _ (same _ _) upd_same)
  · cases h
theorem ok_draw {K : PySem.W.Frag} {P : Program} {w : World} {mg : Str → Option Value} {base : Heap} {cls : Str → Addr} {q : Dk} {a b c d : Str} {x : Str} {params : Arguments} {body : List Stmt} {scope : Scope} {f : Addr} {fd : FuncData} (F : FunD K x x params body scope [] [] f fd) (S : FnScope [a, b, c, d] [a, b] scope)
    (hp : ∀ (cdv : Value) (A : Around) (outer : List PySem.Env) (s : Shared) (H : Hp) (E : XK), PSs (cxOf CX0 P w K mg base [a, b, c, d] x scope f cdv A outer s H E).nox body (t_draw K q)) : FnOk P w K mg base CX0 1 f fd [a, b] (spF RNG K cls { lend := [false, false] } (drawF q)) := by
  refine F.ok S (fun vs H Q E h => ?_) fun cdv A outer s H vs Q E hr h => ⟨t_draw K q, PSs.nox (hp cdv A outer s H E), ?_⟩
  · obtain ⟨g, A, ds, s, _, _, _, h4, _⟩ := h
    rw [h4.length.2]
    rfl
  · obtain ⟨g, A0, ds, st, h1, h2, h3, h4, h5⟩ := h
    obtain ⟨d1, ds1, v1, vs1, rfl, rfl, r1, h6⟩ := h4
    obtain ⟨d2, ds2, v2, vs2, rfl, rfl, r2, h7⟩ := h6
    obtain ⟨rfl, rfl⟩ := h7
    cases d1 with
    | rng =>
      cases d2 with
      | int n =>
        cases st with
        | none => exact h5.elim
        | some st =>
          obtain ⟨r, rfl, e⟩ := h3
          have r1 : v1 = .ref r := r1
          have r2 : v2 = .int n := r2
          subst r1 r2
          have h5 : PostE RNG (frM false) ⟨K, cls, [r]⟩ A0 H (match drawS q n st with
            | some (i, s') => .ok (.int i) (some s')
            | none => .bad) Q := h5
          cases hd : drawS q n st with
          | none => rw [hd] at h5; exact h5.elim
          | some z =>
            obtain ⟨i, s'⟩ := z
            rw [hd] at h5
            refine pure_draw e hd fun H' k1 k2 => h5 _ H' (fun p o h z => ?_) ⟨r, rfl, k2⟩ rfl
            rcases z with z | z
            · exact k1 p o (fun y => z (by rw [y]; exact List.mem_singleton.mpr rfl)) h
            · by_cases y : p = r
              · subst y
                rw [e] at h
                cases h
                exact z.elim
              · exact k1 p o y h
      | _ => exact h5.elim
    | _ => cases d2 <;> exact h5.elim
end Pv
end
section
set_option maxHeartbeats 4000000
namespace Pv
open PySem PySem.Spec PyProof.Rows L2

/-! ### a law of the list rng -/
def spLaw (K : PySem.W.Frag) : Sp := fun vs H Q _ => ∃ (a : Addr) (ns : List Int), vs = [.ref a] ∧ ns.length ≤ 63 ∧ SqF K H a (ns.map V.int) ∧ ∀ H', Q (.bl true) H'
theorem sqF_only {K : PySem.W.Frag} {H : Hp} {a : Addr} {xs : List V} (o : Only H) (h : SqL K H a xs) : SqF K H a xs := by
  rcases h with (h | h) | h
  · rcases o a with z | ⟨_, _, z⟩ <;> rw [z] at h <;> cases h
  · exact .inl h
  · exact .inr h
/-- slot 0: the script, slot 1: the rng -/
def lawE (n : Nat) (ns : List Int) : IEnv := [some (.scr ns, .frz), some (.rng, .frz)] ++ List.replicate (n - 2) none
theorem rest_get {α : Type} {n i : Nat} {a : α} (h : (List.replicate n (none : Option α))[i]? = some (some a)) : False := by
  rw [List.getElem?_replicate] at h
  split at h <;> cases h
theorem lawE_get {n i : Nat} {ns : List Int} {d : D} {f : Fl} (h : (lawE n ns)[i]? = some (some (d, f))) : (i = 0 ∧ d = .scr ns ∧ f = .frz) ∨ (i = 1 ∧ d = .rng ∧ f = .frz) := by
  match i, h with
  | 0, h => cases h; exact .inl ⟨rfl, rfl, rfl⟩
  | 1, h => cases h; exact .inr ⟨rfl, rfl, rfl⟩
  | i + 2, h => exact (rest_get (n := n - 2) (i := i) (by simpa [lawE] using h)).elim
theorem law_ok {K : PySem.W.Frag} {P : Program} {w : World} {mg : Str → Option Value} {base : Heap} {cls : Str → Addr} {Γ : Gm (Option Rg)} {C : CC} {k i : Nat} {f : Addr} {fd : FuncData} {x : Str} {params : Arguments} {body : List Stmt} {scope : Scope} {ir : List IS} {Fr : List D → M (Option Rg) D}
    (F : FunD K x x params body scope [] [] f fd) (hs : C8.scC C.N ["script"] scope = true) (hsc : C.sc = scope) (hn : 2 ≤ C.N.length) (hX : DOk RNG cls Γ C P w K mg base k)
    (hck : chkSs C (.set 1 true (.call i true [.var 0]) :: ir) body = true) (hi : Γ.fns[i]? = some Fr)
    (hrun : ∀ ns : List Int, ns.length ≤ 63 → ∃ d s, Fr [.scr ns] none = .ok (.lst [.int d, .int s, .int 0]) none ∧ ∃ n b s', exs Γ n ir (lawE C.N.length ns) (some ⟨d, s, 0⟩) = .ok (.ret (.bl true) b) s') :
    FnG P w K mg base (k + 1) f fd ["script"] (spLaw K) := by
  have S : FnScope C.N ["script"] scope := C8.fnScope_by hs
  refine fnG_def F S (fun vs H Q E h => ?_) fun cdv A outer s H vs Q E gu hr h => ?_
  · obtain ⟨a, ns, rfl, _⟩ := h
    rfl
  · obtain ⟨a, ns, rfl, hl, hsq, hQ⟩ := h
    obtain ⟨d, sd, e1, n, b, s', e2⟩ := hrun ns hl
    let X : Cx := (cxOf CX0 P w K mg base C.N x scope f cdv A outer s H E).nox
    have y : YOk RNG cls Γ C X := hX.yok S hsc hr gu
    cases body with
    | nil => unfold chkSs at hck; cases hck
    | cons st sts =>
      unfold chkSs at hck
      obtain ⟨c1, c2⟩ := b2 (show (chkS C (.set 1 true (.call i true [.var 0])) st && chkSs C ir sts) = true from hck)
      obtain ⟨t1, p1, q1⟩ := s_all (.set 1 true (.call i true [.var 0])) (N := n) C X st y c1
      obtain ⟨t2, p2, q2⟩ := ss_all ir (N := n) C X sts y c2
      refine ⟨_, PSs.nox (pss_cons p1 p2), ?_⟩
      have ek : EnvOk (rc cls X []) (fun _ => False) H (L2.start C.N [.ref a]) (startE C.N.length [false] [.scr ns]) :=
        envOk_start (c := rc cls X []) (fun _ z => z.elim) (fun _ z => by cases z) ⟨_, _, _, _, rfl, rfl, ⟨a, rfl, hsq⟩, rfl, rfl⟩ (by show 1 ≤ _; omega)
      have er : ex Γ n (.set 1 true (.call i true [.var 0])) (startE C.N.length [false] [.scr ns]) none = .ok (.nx (put (startE C.N.length [false] [.scr ns]) 1 (.lst [.int d, .int sd, .int 0]) .own)) none := by
        have g0 : getI (startE C.N.length [false] [.scr ns]) 0 = some (.scr ns, .frz) := rfl
        have ev1 : ev Γ (.call i true [.var 0]) (startE C.N.length [false] [.scr ns]) none = .ok (.lst [.int d, .int sd, .int 0]) none := by
          unfold ev evs evs ev
          rw [g0]
          show callF Γ i [.scr ns] none = _
          unfold callF
          rw [hi]
          exact e1
        unfold ex
        rw [bind_def, ev1]
        rfl
      refine q1 _ _ H [] (fun _ => False) _ none ek rfl ?_
      refine Eq.mpr (congrArg (fun r => PostS RNG _ _ _ _ _ r _) er) ?_
      intro σ1 H1 st1
      show t2 _ σ1 H1
      have l0 : (startE C.N.length [false] [.scr ns]) = some (.scr ns, .frz) :: List.replicate (C.N.length - 1) none := rfl
      have lp : put (startE C.N.length [false] [.scr ns]) 1 (.lst [.int d, .int sd, .int 0]) .own = [some (.scr ns, .frz), some (.lst [.int d, .int sd, .int 0], .own)] ++ List.replicate (C.N.length - 2) none := by
        obtain ⟨m, hm⟩ : ∃ m, C.N.length = m + 2 := ⟨C.N.length - 2, by omega⟩
        rw [l0, hm]
        rfl
      have k1 := st1.envk
      rw [lp] at k1
      obtain ⟨v0, g1, g2⟩ := k1.frz 0 (.scr ns) rfl
      obtain ⟨r, g3, g4, g5⟩ := k1.hld 1 _ .own rfl (.inr rfl)
      obtain ⟨xs, g6, g7, g8⟩ := g5
      have ex : xs = [.int d, .int sd, .int 0] := by
        obtain ⟨v1, w1, rfl, z1, g8⟩ := g8
        obtain ⟨v2, w2, rfl, z2, g8⟩ := g8
        obtain ⟨v3, w3, rfl, z3, g8⟩ := g8
        have z1 : v1 = .int d := z1
        have z2 : v2 = .int sd := z2
        have z3 : v3 = .int 0 := z3
        have g8 : w3 = [] := g8
        rw [z1, z2, z3, g8]
      subst ex
      obtain ⟨a0, z1, z2⟩ := g2
      have nh : ∀ p, ¬ Held (lawE C.N.length ns) σ1 p := fun p z => by
        obtain ⟨j, d, f, h1, h2, _⟩ := z
        rcases lawE_get h1 with ⟨_, _, e⟩ | ⟨_, _, e⟩ <;> rw [e] at h2 <;> rcases h2 with h2 | h2 <;> cases h2
      have ek2 : EnvOk (rc cls X [r]) (fun p => p = r) H1 σ1 (lawE C.N.length ns) := by
        refine ⟨?_, fun p z => by rw [z, g6]; simp, fun p z => List.mem_singleton.mp z, fun j d f => ?_, fun j d f => ?_, fun j d f h1 h2 => ?_, fun j l d e f h a h1 h2 => ?_⟩
        · rw [← k1.len]
          rfl
        · rcases lawE_get f with ⟨rfl, rfl, _⟩ | ⟨rfl, rfl, _⟩
          · exact ⟨v0, g1, a0, z1, z2⟩
          · exact ⟨.ref r, g3, rfl⟩
        · rcases lawE_get f with ⟨_, _, e⟩ | ⟨_, _, e⟩ <;> cases e
        · rcases lawE_get h1 with ⟨_, _, e⟩ | ⟨_, _, e⟩ <;> rw [e] at h2 <;> rcases h2 with h2 | h2 <;> cases h2
        · rcases lawE_get h1 with ⟨_, _, e⟩ | ⟨_, _, e⟩ <;> rw [e] at h2 <;> rcases h2 with h2 | h2 <;> cases h2
      refine q2 _ σ1 H1 [r] (fun p => p = r) (lawE C.N.length ns) (some ⟨d, sd, 0⟩) ek2 ⟨r, rfl, g6⟩ ?_
      refine Eq.mpr (congrArg (fun r => PostS RNG _ _ _ _ _ r _) e2) ?_
      intro v H' ro
      have vv := ro.val
      have vb : v = .bl true := by
        cases b with
        | true =>
          rcases (show (isBox (.bl true) = false ∧ Rp (rc cls X [r]) (fun p => p = r) H' (.bl true) v) ∨ ∃ p, v = .ref p ∧ _ ∧ _ ∧ CellAt (rc cls X [r]) _ H' p (.bl true) from vv) with z | ⟨p, _, _, _, z⟩
          · exact z.2
          · exact z.elim
        | false => exact vv
      subst vb
      exact hQ H'
end Pv
end
section
set_option maxHeartbeats 4000000
namespace Pv
open PySem PySem.Spec PyProof.Rows L2

/-! ### the law's own call: nothing is being shown at the claim's caller -/
/-- the heap's image: the script alone, if it is none of the module's own objects -/
def scrH (K : PySem.W.Frag) (a : Addr) (ob : Obj) (xs : List V) : Hp := fun b => if b = a ∧ K.lookup a = none then some (.frz ob (.lst xs)) else none
section
variable {K : PySem.W.Frag} {a : Addr} {ob : Obj} {xs : List V}
theorem scrH_some {b : Addr} {u : HO} (h : scrH K a ob xs b = some u) : b = a ∧ K.lookup a = none ∧ u = .frz ob (.lst xs) := by
  unfold scrH at h
  split at h
  · rename_i c
    exact ⟨c.1, c.2, (Option.some.inj h).symm⟩
  · cases h
theorem scrH_only : Only (scrH K a ob xs) := fun b => by
  cases e : scrH K a ob xs b with
  | none => exact .inl rfl
  | some u => exact .inr ⟨_, _, by rw [(scrH_some e).2.2]⟩
end
theorem law_callG {P : Program} {w : World} {K : PySem.W.Frag} {mg mb : Str → Option Value} {k : Nat} {fa a : Addr} {fd : FuncData} {x : Str} {sp : Sp} {s1 : Shared} {vs : List Value} {ns : List Int}
    (kin : K.In s1.heap) (top : s1.heap.Ns mainGlobals mg) (blt : s1.heap.Ns builtinsNs mb) (boot : ∀ y : Str, y ≠ "__name__" → mb y = bootBuiltins y) (nolim : s1.heap.NoLimit) (gens : s1.gens = #[])
    (at_ : s1.heap.get? a = some { cls := .type "list", data := .seq vs.toArray }) (isI : IntsAre vs ns) (short : ns.length ≤ sizeLine) (room : Room k callerA)
    (F : ∀ base : Heap, K.In base → base.Ns mainGlobals mg → FnG P w K mg base k fa fd [x] sp) (bind : ∀ (s : Shared) (u : Value), BindsTo s fd ⟨[u], []⟩ [(x, u)])
    (want : ∀ H : Hp, Only H → SqL K H a (ns.map V.int) → sp [.ref a] H (fun v _ => v = .bl true) fun _ _ _ => False) :
    codeAny (model P w) callerA (.call (.ref fa) ⟨[.ref a], []⟩) (fun r s' => r = .ok (.ret (.bool true)) ∧ OldK s1.heap s'.heap ∧ s'.os = s1.os ∧ AllBare s'.gens) s1 := by
  have rel := vals_ints isI
  let ob : Obj := { cls := .type "list", data := .seq vs.toArray }
  let H : Hp := scrH K a ob (ns.map V.int)
  have sq : SqL K H a (ns.map V.int) := by
    cases hk : K.lookup a with
    | none => exact .inl (.inr ⟨ob, if_pos ⟨rfl, hk⟩⟩)
    | some o =>
      have e := (kin a o hk).symm.trans at_
      cases e
      exact .inr ⟨_, vs.toArray, _, hk, rfl, rfl, rfl, by rw [List.size_toArray, isI.length]; exact short, by simpa using rel⟩
  have hok : HOk P w H s1.heap := fun b u z => by
    obtain ⟨rfl, _, rfl⟩ := scrH_some z
    exact ⟨at_, by rw [List.length_map]; exact short, vs, _, rel, at_⟩
  have see : ∀ {b : Addr} {o : Obj}, s1.heap.get? b = some o → H b = none → (hidT s1.heap H).get? b = some o := fun e z => hidT_get e z
  have dicts : ∀ {b : Addr} {o : Obj} {es : Array DictEntry} {ep : Nat}, s1.heap.get? b = some o → o.data = .dict es ep → H b = none := fun {b o es ep} e d => by
    cases z : H b with
    | none => rfl
    | some u =>
      obtain ⟨rfl, _, _⟩ := scrH_some z
      rw [at_] at e
      cases e
      cases (show Data.seq vs.toArray _ = Data.dict es ep from d)
  have nss : ∀ {b : Addr} {m : Str → Option Value}, s1.heap.Ns b m → (hidT s1.heap H).Ns b m := by
    rintro b m ⟨o, es, ep, e, d, r⟩
    exact ⟨o, es, ep, see e (dicts e d), d, r⟩
  have kin2 : K.In (hidT s1.heap H) := fun b o e => see (kin b o e) (by
    cases z : H b with
    | none => rfl
    | some u =>
      obtain ⟨rfl, n, _⟩ := scrH_some z
      rw [n] at e
      cases e)
  obtain ⟨mc, c1, c2⟩ := nolim
  have md : Mod K mg (hidT s1.heap H) := ⟨kin2, nss top, ⟨mb, nss blt, boot⟩, mc, nss c1, c2⟩
  have en : Env0 P w K mg (hidT s1.heap H) callerA [] s1 H := ⟨rfl, md, fun b o e => of_hidT e, Nat.le_of_eq (hidT_size _ _), trivial, fun b z => (by cases z), hok, .of_eq gens⟩
  refine codeAny_mono ((F _ kin2 (nss top)).run callerA [] s1 H ⟨[.ref a], []⟩ [.ref a] [.ref a] _ _ rfl room en (bind s1 (.ref a)) (.cons rfl .nil) (want H scrH_only sq)) fun r s2 out => ?_
  match r, out with
  | .error _, z => exact z.elim
  | .ok .next, z => exact z.elim
  | .ok .brk, z => exact z.elim
  | .ok .cont, z => exact z.elim
  | .ok (.ret u), ⟨v, H2, os, bare, un, hok2, rv, q⟩ =>
    have q : v = .bl true := q
    subst q
    obtain rfl : u = Value.bool true := rv
    refine ⟨rfl, OldK.of_keep fun b o e => ?_, os, bare⟩
    cases z : H b with
    | none => exact un.keep b o e z (fun y => by cases y) (by simp)
    | some u =>
      obtain ⟨rfl, _, rfl⟩ := scrH_some z
      have e2 := (hok2 _ _ (un.frzs _ ob _ z)).1
      rw [at_] at e
      cases e
      exact e2
theorem walk_ofG {l : PySem.W.OpenLaw} {n k : Nat} {q : Program} {loose : List Str} {XP : (Str → Option Value) → Heap → Prop} {YP : World → Heap → Prop} {d : DefRec} {x : Str} (most : l.most = some n) (le : n ≤ sizeLine) (nod : d.params.defaults = []) (room : Room k callerA)
    (F : ∀ (w : World) (mg : Str → Option Value) (fa : Addr) (h : Heap), YP w h → h.Ns mainGlobals mg → mg d.name = some (.ref fa) → ∃ (K : PySem.W.Frag) (fd : FuncData) (sp : Sp), K.In h ∧ (∀ (s : Shared) (u : Value), BindsTo s fd ⟨[u], []⟩ [(x, u)]) ∧
      (∀ (H : Hp) (a : Addr) (ns : List Int), ns.length ≤ n → Only H → SqL K H a (ns.map V.int) → sp [.ref a] H (fun v _ => v = .bl true) fun _ _ _ => False) ∧ ∀ base : Heap, K.In base → base.Ns mainGlobals mg → FnG l.prog w K mg base k fa fd [x] sp) :
    PySem.W.WalkO q loose XP YP l.row.toRowW d [] (fun f vs => PySem.call f vs) := by
  refine Att.attach_call most nod fun w s0 s1 mg mb fa o pm cd doc a vs ns G Y _ _ _ at_ script isI len gens => ?_
  obtain ⟨K, fd, sp, kin, bind, want, fn⟩ := F w mg fa _ Y G.T.g at_
  exact law_callG kin G.T.g G.T.b G.T.builtins G.T.nolimit gens script isI (Nat.le_trans len le) room fn bind fun H o => want H a ns len o
end Pv
end
section
set_option maxHeartbeats 4000000
namespace Pv
open PySem PySem.Spec PyProof.Rows L2

theorem says_mem {fa : List He.Fa} {fn : List He.DefD} {K : PySem.W.Frag} (c : He.SaysD fa fn K) {f : He.Fa} (m : f ∈ fa) : f.ok K = true := by
  obtain ⟨i, h⟩ := List.mem_iff_getElem?.mp m
  exact c.fact i h
section
variable {K : PySem.W.Frag} {h : Heap} {mg : Str → Option Value} {fa : List He.Fa} {fn : List He.DefD}
theorem Vals.get2 : ∀ {xs : List V} {us : List Value} (n : Nat), Vals xs us → (xs[n]? = none ∧ us[n]? = none) ∨ ∃ v u, xs[n]? = some v ∧ us[n]? = some u ∧ RelV v u
  | [], [], n, _ => .inl ⟨rfl, rfl⟩
  | x :: xs, u :: us, 0, .cons h _ => .inr ⟨x, u, rfl, rfl, h⟩
  | x :: xs, u :: us, n + 1, .cons _ h => by simpa using Vals.get2 n h
theorem vals_perm {zs : List V} {ws : List Value} (h : Vals zs ws) : ∀ perm : List Nat, Vals (perm.filterMap fun i => zs[i]?) (perm.filterMap fun i => ws[i]?)
  | [] => .nil
  | n :: perm => by
    rcases Vals.get2 n h with ⟨e1, e2⟩ | ⟨v, u, e1, e2, r⟩
    · simpa [List.filterMap_cons, e1, e2] using vals_perm h perm
    · simp only [List.filterMap_cons, e1, e2]
      exact .cons r (vals_perm h perm)
/-- all by keywords -/
theorem kbn {x qual : Str} {params : Arguments} {body : List Stmt} {scope : Scope} {f : Addr} {fd : FuncData} {ps ks : List Str} {perm : List Nat} (F : FunD K x qual params body scope [] [] f fd)
    (hb : ∀ (kV doc pm : Value) (an : Option Addr) (cdv ct : Value) (ws : List Value), ws.length = ks.length → bindArgs (PySem.W.fnOf x qual params body scope .none kV doc pm an cdv ct) ⟨[], ks.zip ws⟩ = pure (ps.zip (perm.filterMap fun i => ws[i]?))) :
    KBn K fd ps 0 ks (fun us ws => us ++ perm.filterMap fun i => ws[i]?) (fun us ws => us ++ perm.filterMap fun i => ws[i]?) := by
  obtain ⟨oc, od, dV, kV, doc, pm, an, cdv, ct, osl, rfl, lk, hcd, hD, hK⟩ := F.ex
  rcases hD with ⟨_, rfl⟩ | ⟨e, _⟩
  · refine ⟨fun s us ws _ l1 l2 => ?_, fun r1 r2 => r1.append (vals_perm r2 perm)⟩
    have : us = [] := List.length_eq_zero_iff.mp l1
    subst this
    exact .of_eq (hb kV doc pm an cdv ct ws l2)
  · exact absurd rfl e
theorem kbn1 {x qual : Str} {params : Arguments} {body : List Stmt} {scope : Scope} {f : Addr} {fd : FuncData} {ps ks : List Str} {perm : List Nat} (F : FunD K x qual params body scope [] [] f fd)
    (hb : ∀ (kV doc pm : Value) (an : Option Addr) (cdv ct u : Value) (ws : List Value), ws.length = ks.length → bindArgs (PySem.W.fnOf x qual params body scope .none kV doc pm an cdv ct) ⟨[u], ks.zip ws⟩ = pure (ps.zip (u :: perm.filterMap fun i => ws[i]?))) :
    KBn K fd ps 1 ks (fun us ws => us ++ perm.filterMap fun i => ws[i]?) (fun us ws => us ++ perm.filterMap fun i => ws[i]?) := by
  obtain ⟨oc, od, dV, kV, doc, pm, an, cdv, ct, osl, rfl, lk, hcd, hD, hK⟩ := F.ex
  rcases hD with ⟨_, rfl⟩ | ⟨e, _⟩
  · refine ⟨fun s us ws _ l1 l2 => ?_, fun r1 r2 => r1.append (vals_perm r2 perm)⟩
    obtain ⟨u, rfl⟩ : ∃ u, us = [u] := by
      match us, l1 with
      | [u], _ => exact ⟨u, rfl⟩
    exact .of_eq (hb kV doc pm an cdv ct u ws l2)
  · exact absurd rfl e
theorem dfFn {S : Type} (X : K.In h) (G : h.Ns mainGlobals mg) (c : He.SaysD fa fn K) {C : CC} (d : Df S) (i j : Nat) (kd : d.sg.kd = .fn) (hd : fn[i]? = some ⟨(d.x, none), d.x, d.x, defArgs d.st, defBody d.st, defScope d.st, [], []⟩) (hg : fa[j]? = some (.glo d.x))
    (hb : ∀ (kV doc pm : Value) (an : Option Addr) (cdv ct : Value) (us : List Value), us.length = d.ps.length → bindArgs (PySem.W.fnOf d.x d.x (defArgs d.st) (defBody d.st) (defScope d.st) .none kV doc pm an cdv ct) ⟨us, []⟩ = pure (d.ps.zip us))
    (hk : ∀ ks perm, (C.fns.length, ks, perm) ∈ C.kws → ∀ (kV doc pm : Value) (an : Option Addr) (cdv ct : Value) (ws : List Value), ws.length = ks.length → bindArgs (PySem.W.fnOf d.x d.x (defArgs d.st) (defBody d.st) (defScope d.st) .none kV doc pm an cdv ct) ⟨[], ks.zip ws⟩ = pure (d.ps.zip (perm.filterMap fun i => ws[i]?))) : DfIn (He.ga K) K mg C d := by
  obtain ⟨fd, F⟩ := c.def_ i hd
  refine ⟨_, fd, _, _, F, FunD.bindsN F hb, ?_⟩
  rw [kd]
  exact ⟨He.glo_ok X G (c.fact j hg), fun ks perm z => kbn F (hk ks perm z)⟩
/-- an __init__ -/
theorem dfIni {S : Type} (X : K.In h) (G : h.Ns mainGlobals mg) (c : He.SaysD fa fn K) {C : CC} (d : Df S) (i j j2 : Nat) {qual : Str} (kd : d.sg.kd = .ini) (hd : fn[i]? = some ⟨(d.x, some "__init__"), "__init__", qual, defArgs d.st, defBody d.st, defScope d.st, [], []⟩) (hg : fa[j]? = some (.glo d.x)) (hm : fa[j2]? = some (.mkr d.x))
    (hb : ∀ (kV doc pm : Value) (an : Option Addr) (cdv ct : Value) (us : List Value), us.length = d.ps.length → bindArgs (PySem.W.fnOf "__init__" qual (defArgs d.st) (defBody d.st) (defScope d.st) .none kV doc pm an cdv ct) ⟨us, []⟩ = pure (d.ps.zip us)) : DfIn (He.ga K) K mg C d := by
  obtain ⟨fd, F⟩ := c.def_ i hd
  refine ⟨_, fd, _, _, F, FunD.bindsN F hb, ?_⟩
  rw [kd]
  exact ⟨He.glo_ok X G (c.fact j hg), He.mkr_ok (c.fact j2 hm)⟩
/-- a method -/
theorem dfMth {S : Type} (c : He.SaysD fa fn K) {C : CC} (d : Df S) (i j j2 : Nat) {qual : Str} (kd : d.sg.kd = .mth) (hd : fn[i]? = some ⟨(d.sg.cl, some d.x), d.x, qual, defArgs d.st, defBody d.st, defScope d.st, [], []⟩) (hg : fa[j]? = some (.cls d.sg.cl)) (hm : fa[j2]? = some (.meth d.sg.cl d.x))
    (hb : ∀ (kV doc pm : Value) (an : Option Addr) (cdv ct : Value) (us : List Value), us.length = d.ps.length → bindArgs (PySem.W.fnOf d.x qual (defArgs d.st) (defBody d.st) (defScope d.st) .none kV doc pm an cdv ct) ⟨us, []⟩ = pure (d.ps.zip us))
    (hk : ∀ ks perm, (C.fns.length, ks, perm) ∈ C.kws → ∀ (kV doc pm : Value) (an : Option Addr) (cdv ct u : Value) (ws : List Value), ws.length = ks.length → bindArgs (PySem.W.fnOf d.x qual (defArgs d.st) (defBody d.st) (defScope d.st) .none kV doc pm an cdv ct) ⟨[u], ks.zip ws⟩ = pure (d.ps.zip (u :: perm.filterMap fun i => ws[i]?))) : DfIn (He.ga K) K mg C d := by
  obtain ⟨fd, F⟩ := c.def_ i hd
  refine ⟨_, fd, _, _, F, FunD.bindsN F hb, ?_⟩
  rw [kd]
  exact ⟨He.cls_ok (c.fact j hg), He.meth_ok (c.fact j2 hm), fun ks perm z => kbn1 F (hk ks perm z)⟩
end
/-! ### properties: the getter stands behind the property object -/
structure PrD where
  cl : Str
  f : Str
  name : Str
  qual : Str
  params : Arguments
  body : List Stmt
  scope : Scope
def prA (K : PySem.W.Frag) (d : PrD) : Addr := He.ma K (He.ga K d.cl) d.f
def prG (K : PySem.W.Frag) (d : PrD) : Addr := match PySem.W.recIn K (prA K d) "property" with
  | some (.ref g :: _) => g
  | _ => 0
def prW (K : PySem.W.Frag) (d : PrD) : He.FnW := match K.lookup (prG K d) with
  | some ⟨_, _, .func fd, _⟩ => some (fd.name, fd.qualname, fd.params, fd.body, fd.scope, fd.globals, fd.closure, fd.builtins)
  | _ => none
def PrD.val (d : PrD) : He.FnW := some (d.name, d.qual, d.params, .stmts d.body, d.scope, mainGlobals, [], builtinsNs)
def PrD.ok (K : PySem.W.Frag) (d : PrD) : Bool := He.eqO (PySem.W.findIn K (.ref (He.ga K d.cl)) d.f) (some (some (.ref (prA K d)))) && (He.eqO (PySem.W.specialIn K (.ref (prA K d)) "__get__") (some (some (.builtin "property.__get__"))) && (decide (PySem.W.takesIn K (.ref (prA K d)) = some true) &&
  ((match PySem.W.recIn K (prA K d) "property" with
    | some (.ref _ :: _) => true
    | _ => false) && (PySem.W.keepIn K (.ref (prG K d)) && (match K.lookup (prG K d) with
  | some ⟨_, _, .func fd, _⟩ => PySem.W.codeIn K fd.code d.qual && (He.dflB K fd.defaults [] && He.kwdB K fd.kwdefaults [])
  | _ => false)))))
theorem PrD.prop {K : PySem.W.Frag} {d : PrD} (e : prW K d = d.val) (c : d.ok K = true) : PropOf K (He.ga K d.cl) d.f (prA K d) (prG K d) ∧ ∃ fd, FunD K d.name d.qual d.params d.body d.scope [] [] (prG K d) fd := by
  obtain ⟨c1, c⟩ := He.ba c
  obtain ⟨c2, c⟩ := He.ba c
  obtain ⟨c3, c⟩ := He.ba c
  obtain ⟨c4, c⟩ := He.ba c
  obtain ⟨kp, c5⟩ := He.ba c
  refine ⟨⟨He.eqO_ok c1, He.eqO_ok c2, of_decide_eq_true c3, ?_⟩, ?_⟩
  · unfold prG
    split at c4
    · rename_i g rest q
      rw [q]
      exact ⟨_, rfl⟩
    · cases c4
  · unfold prW at e
    cases q : K.lookup (prG K d) with
    | none =>
      rw [q] at c5
      cases c5
    | some o =>
      obtain ⟨oc, od, dt, osl⟩ := o
      rw [q] at c5 e
      cases dt with
      | func fd =>
        obtain ⟨n1, n2, n3, n4, n5, n6, n7, n8, n9, n10, n11, n12, n13, n14, n15⟩ := fd
        have e2 : (some (n1, n2, n3, n4, n5, n6, n7, n15) : He.FnW) = some (d.name, d.qual, d.params, .stmts d.body, d.scope, mainGlobals, [], builtinsNs) := e
        simp only [Option.some.injEq, Prod.mk.injEq] at e2
        obtain ⟨h1, h2, h3, h4, h5, h6, h7, h8⟩ := e2
        subst h1 h2 h3 h4 h5 h6 h7 h8
        have c6 : (PySem.W.codeIn K n13 d.qual && (He.dflB K n8 [] && He.kwdB K n9 [])) = true := c5
        obtain ⟨k1, k2⟩ := He.ba c6
        obtain ⟨k3, k4⟩ := He.ba k2
        exact ⟨_, ⟨oc, od, n8, n9, n10, n11, n12, n13, n14, osl, rfl, q, k1, He.dflB_ok k3, He.kwdB_ok k4⟩, kp⟩
      | _ => cases c5
/-- isinstance of a class -/
def isiB (K : PySem.W.Frag) (x : Str) : Bool := (He.Fa.cls x).ok K && ((He.Fa.glo x).ok K && (He.eqO (PySem.W.findIn K (.ref (He.ga K x)) "__class__") (some (some (.builtin "object.__class__"))) && (He.eqO (PySem.W.specialIn K (.builtin "object.__class__") "__get__") (some (some (.builtin "getset_descriptor.__get__"))) &&
  (decide (PySem.W.takesIn K (.builtin "object.__class__") = some true) && (decide (PySem.W.mroIn K (He.ga K x) (.type "object") = some true) && (decide (PySem.W.kitOne K (.ref (He.ga K x)) (.ref (He.ga K x)) = some true) && isiTys.all fun n => decide (PySem.W.kitOne K (.type n) (.ref (He.ga K x)) = some false)))))))
theorem isiB_ok {K : PySem.W.Frag} {h : Heap} {mg : Str → Option Value} (X : K.In h) (G : h.Ns mainGlobals mg) {x : Str} (c : isiB K x = true) : IsiC K (He.ga K x) ∧ mg x = some (.ref (He.ga K x)) := by
  obtain ⟨c1, c⟩ := He.ba c
  obtain ⟨c2, c⟩ := He.ba c
  obtain ⟨c3, c⟩ := He.ba c
  obtain ⟨c4, c⟩ := He.ba c
  obtain ⟨c5, c⟩ := He.ba c
  obtain ⟨c6, c⟩ := He.ba c
  obtain ⟨c7, c8⟩ := He.ba c
  exact ⟨⟨He.cls_ok c1, He.eqO_ok c3, He.eqO_ok c4, of_decide_eq_true c5, of_decide_eq_true c6, of_decide_eq_true c7, fun n m => of_decide_eq_true (List.all_eq_true.mp c8 n m)⟩, He.glo_ok X G c2⟩
abbrev AlP : Type := He.AlD × Bool × List He.FnW
def obsP (fa : List He.Fa) (fn : List He.DefD) (pr : List PrD) (fb : List Str) (K : PySem.W.Frag) : AlP := (He.obsD fa fn K, (pr.all fun d => d.ok K) && fb.all fun x => isiB K x, pr.map fun d => prW K d)
def valP (fn : List He.DefD) (pr : List PrD) : AlP := (He.valD fn, true, pr.map PrD.val)
def SaysP (fa : List He.Fa) (fn : List He.DefD) (pr : List PrD) (fb : List Str) (K : PySem.W.Frag) : Prop := obsP fa fn pr fb K = valP fn pr
def obsPG (n : Nat) (fa : List He.Fa) (fn : List He.DefD) (pr : List PrD) (fb : List Str) (g : Addr → Option Obj) : AlP := obsP fa fn pr fb (He.frG g (He.asD g n))
def hookP (n : Nat) (fa : List He.Fa) (fn : List He.DefD) (pr : List PrD) (fb : List Str) : PySem.W.Hook where
  α := AlP
  obs := fun s => obsPG n fa fn pr fb s.heap.get?
  val := fun _ => valP fn pr
  says := fun _ h => ∃ K : PySem.W.Frag, K.In h ∧ SaysP fa fn pr fb K
  of := fun _ _ e => ⟨_, He.frG_in, e⟩
  keeps := fun _ _ _ ⟨K, hK, c⟩ k => ⟨K, PySem.W.Frag.In.keeps hK k, c⟩
theorem obsPG_eq {n : Nat} {fa : List He.Fa} {fn : List He.DefD} {pr : List PrD} {fb : List Str} {g : Addr → Option Obj} {s : Shared} (h : ∀ a, g a = s.heap.get? a) : obsPG n fa fn pr fb g = (hookP n fa fn pr fb).obs s := by
  have e : g = s.heap.get? := funext h
  rw [e] <;> rfl
theorem SaysP.d {fa : List He.Fa} {fn : List He.DefD} {pr : List PrD} {fb : List Str} {K : PySem.W.Frag} (c : SaysP fa fn pr fb K) : He.SaysD fa fn K := congrArg (fun z : AlP => z.1) c
theorem SaysP.isi {fa : List He.Fa} {fn : List He.DefD} {pr : List PrD} {fb : List Str} {K : PySem.W.Frag} (c : SaysP fa fn pr fb K) {x : Str} (m : x ∈ fb) : isiB K x = true := by
  have c2 : ((pr.all fun d => d.ok K) && fb.all fun x => isiB K x) = true := congrArg (fun z : AlP => z.2.1) c
  exact List.all_eq_true.mp (He.ba c2).2 x m
theorem SaysP.prop {fa : List He.Fa} {fn : List He.DefD} {pr : List PrD} {fb : List Str} {K : PySem.W.Frag} (c : SaysP fa fn pr fb K) (i : Nat) {d : PrD} (h : pr[i]? = some d := by rfl) : PropOf K (He.ga K d.cl) d.f (prA K d) (prG K d) ∧ ∃ fd, FunD K d.name d.qual d.params d.body d.scope [] [] (prG K d) fd := by
  have c1 : ((pr.all fun d => d.ok K) && fb.all fun x => isiB K x) = true := congrArg (fun z : AlP => z.2.1) c
  have c2 := (He.ba c1).1
  have e : pr.map (fun d => prW K d) = pr.map PrD.val := congrArg (fun z : AlP => z.2.2) c
  have e2 : (pr.map fun d => prW K d)[i]? = (pr.map PrD.val)[i]? := by rw [e]
  rw [List.getElem?_map, List.getElem?_map, h] at e2
  exact PrD.prop (Option.some.inj e2) (List.all_eq_true.mp c2 d (List.mem_of_getElem? h))
section
variable {K : PySem.W.Frag} {h : Heap} {mg : Str → Option Value} {fa : List He.Fa} {fn : List He.DefD} {pr : List PrD} {fb : List Str}
theorem dfPrp {S : Type} (c : SaysP fa fn pr fb K) {C : CC} (d : Df S) (i j : Nat) {qual : Str} (kd : d.sg.kd = .prp) (hd : pr[i]? = some ⟨d.sg.cl, d.x, d.x, qual, defArgs d.st, defBody d.st, defScope d.st⟩) (hg : fa[j]? = some (.cls d.sg.cl))
    (hb : ∀ (kV doc pm : Value) (an : Option Addr) (cdv ct : Value) (us : List Value), us.length = d.ps.length → bindArgs (PySem.W.fnOf d.x qual (defArgs d.st) (defBody d.st) (defScope d.st) .none kV doc pm an cdv ct) ⟨us, []⟩ = pure (d.ps.zip us)) : DfIn (He.ga K) K mg C d := by
  obtain ⟨p, fd, F⟩ := c.prop i hd
  refine ⟨_, fd, _, _, F, FunD.bindsN F hb, ?_⟩
  rw [kd]
  exact ⟨_, He.cls_ok (c.d.fact j hg), p⟩
/-- the module's constants -/
def CoD : D → Str → He.Fa → Prop
  | .str z, x, f => f = .str x z
  | .int i, x, f => f = .int x i
  | _, _, _ => False
theorem coD_ok (X : K.In h) (G : h.Ns mainGlobals mg) (c : He.SaysD fa fn K) {cls : Str → Addr} {d : D} {x : Str} {f : He.Fa} (m : f ∈ fa) (e : CoD d x f) : ∃ v u, mg x = some u ∧ RelV v u ∧ ∀ g A H, Rp ⟨K, cls, g⟩ A H d v := by
  cases d with
  | str z =>
    have e : f = .str x z := e
    subst e
    obtain ⟨t, h1⟩ := He.str_ok X G (says_mem c m)
    exact ⟨.str z, _, h1, ⟨t, rfl⟩, fun _ _ _ => rfl⟩
  | int i =>
    have e : f = .int x i := e
    subst e
    obtain ⟨t, h1⟩ := He.int_ok X G (says_mem c m)
    exact ⟨.int i, _, h1, ⟨t, rfl⟩, fun _ _ _ => rfl⟩
  | _ => exact e.elim
/-- the base: the draw alone -/
theorem dok0 {P : Program} {w : World} {base : Heap} {Γc : List D} (X : K.In h) (G : h.Ns mainGlobals mg) (c : He.SaysD fa fn K) {C : CC} {x : Str} {st : Stmt} {q : Dk} {a b e g : Str} (hc : C.fns = [(x, { lend := [false, false] })]) (hk : ∀ q ∈ C.kws, q.1 ≠ 0) (hcon : ∀ (i : Nat) (x : Str) (d : D), C.cons[i]? = some x → Γc[i]? = some d → ∃ f ∈ fa, CoD d x f) (hfl : ∀ c n, (c, n) ∈ C.flds → He.Fa.cls c ∈ fa ∧ He.Fa.noat c n ∈ fa)
    (hfree : ∀ y ∈ C.free, He.Fa.free y ∈ fa) (hisi : ∀ x ∈ C.isi, isiB K x = true) (hd : fn[0]? = some ⟨(x, none), x, x, defArgs st, defBody st, defScope st, [], []⟩) (hg : fa[0]? = some (.glo x)) (hs : C8.scC [a, b, e, g] [a, b] (defScope st) = true)
    (hb : ∀ (kV doc pm : Value) (an : Option Addr) (cdv ct : Value) (us : List Value), us.length = 2 → bindArgs (PySem.W.fnOf x x (defArgs st) (defBody st) (defScope st) .none kV doc pm an cdv ct) ⟨us, []⟩ = pure ([a, b].zip us))
    (hp : ∀ (f : Addr) (cdv : Value) (A : Around) (outer : List PySem.Env) (s : Shared) (H : Hp) (E : XK), PSs (cxOf CX0 P w K mg base [a, b, e, g] x (defScope st) f cdv A outer s H E).nox (defBody st) (t_draw K q)) :
    DOk RNG (He.ga K) ⟨[drawF q], Γc⟩ C P w K mg base 1 := by
  obtain ⟨fd, F⟩ := c.def_ 0 hd
  have ok := FnG.of (ok_draw (P := P) (w := w) (mg := mg) (base := base) (cls := He.ga K) (q := q) F (C8.fnScope_by hs) (hp _))
  refine ⟨fun y hy => He.free_ok X G (says_mem c (hfree y hy)), fun i y sg e => ?_, fun c' n hm => ?_, fun i y sg F ks perm z e0 _ => ?_, fun x hx => isiB_ok X G (hisi x hx), fun i y d z e0 => ?_⟩
  · rw [hc] at e
    cases i with
    | zero =>
      cases e
      refine ⟨_, rfl, ⟨fun _ => ⟨_, fd, _, He.glo_ok X G (c.fact 0 hg), F.kp, FunD.bindsN (ps := [a, b]) F hb, ok⟩, ?_, ?_, ?_⟩⟩
      · intro z; cases z
      · intro z; cases z
      · intro z; cases z
    | succ i => simp at e
  · obtain ⟨h1, h2⟩ := hfl c' n hm
    exact ⟨He.cls_ok (says_mem c h1), He.noat_ok (says_mem c h2)⟩
  · rw [hc] at e0
    cases i with
    | zero => exact absurd rfl (hk _ z)
    | succ i => simp at e0
  · obtain ⟨f, m, e⟩ := hcon i y d z e0
    exact coD_ok X G c m e
end
end Pv
end
section
set_option maxHeartbeats 1000000
namespace Pv
open PySem PySem.Spec PyProof.Rows L2
def dB : Option Int → D
  | none => .non
  | some i => .int i
abbrev Rv := Option (Option Int × Option Int)
def dR : Rv → D
  | none => .non
  | some p => .tup [dB p.1, dB p.2]
def gl : Option Int → Option Int → Option Int
  | none, y => y
  | some a, none => some a
  | some a, some b => some (if b > a then b else a)
def lh : Option Int → Option Int → Option Int
  | none, y => y
  | some a, none => some a
  | some a, some b => some (if b < a then b else a)
def ll : Option Int → Option Int → Option Int
  | some a, some b => some (if b < a then b else a)
  | _, _ => none
def gh : Option Int → Option Int → Option Int
  | some a, some b => some (if b > a then b else a)
  | _, _ => none
def vB : Option Int × Option Int → Bool
  | (some a, some b) => decide (a ≤ b)
  | _ => true
def com : Rv → Rv → Rv
  | some x, some y => if vB (gl x.1 y.1, lh x.2 y.2) then some (gl x.1 y.1, lh x.2 y.2) else none
  | _, _ => none
def joi : Rv → Rv → Rv
  | none, y => y
  | some x, none => some x
  | some x, some y => some (ll x.1 y.1, gh x.2 y.2)
def vR : Rv → Bool
  | none => true
  | some p => vB p
theorem at0 {α : Type} (a b : α) : atI [a, b] 0 = some a := rfl
theorem at1 {α : Type} (a b : α) : atI [a, b] 1 = some b := rfl
theorem ok_bind {S α β : Type} (a : α) (s : S) (f : α → M S β) : (match (Res.ok a s : Res S α) with | .ok a s' => f a s' | .er c d s' => .er c d s' | .bad => .bad) = f a s := rfl
theorem pure_s {S α : Type} (a : α) (s : S) : (pure a : M S α) s = .ok a s := rfl
/-! the ranges, plain -/
def mk (p : Option Int × Option Int) : Rv := if vB p then some p else none
theorem com_some (p q : Option Int × Option Int) : com (some p) (some q) = mk (gl p.1 q.1, lh p.2 q.2) := rfl
theorem v_none {p q : Option Int × Option Int} (h : vB p = false) : vB (gl p.1 q.1, lh p.2 q.2) = false := by
  obtain ⟨_ | a, _ | b⟩ := p <;> obtain ⟨_ | c, _ | d⟩ := q <;> simp [vB, gl, lh] at h ⊢ <;> omega
theorem gl_comm (a b : Option Int) : gl a b = gl b a := by
  cases a <;> cases b <;> simp [gl] <;> omega
theorem lh_comm (a b : Option Int) : lh a b = lh b a := by
  cases a <;> cases b <;> simp [lh] <;> omega
theorem ll_comm (a b : Option Int) : ll a b = ll b a := by
  cases a <;> cases b <;> simp [ll] <;> omega
theorem gh_comm (a b : Option Int) : gh a b = gh b a := by
  cases a <;> cases b <;> simp [gh] <;> omega
theorem gl_assoc (a b c : Option Int) : gl (gl a b) c = gl a (gl b c) := by
  cases a <;> cases b <;> cases c <;> simp [gl] <;> omega
theorem lh_assoc (a b c : Option Int) : lh (lh a b) c = lh a (lh b c) := by
  cases a <;> cases b <;> cases c <;> simp [lh] <;> omega
theorem ll_assoc (a b c : Option Int) : ll (ll a b) c = ll a (ll b c) := by
  cases a <;> cases b <;> cases c <;> simp [ll] <;> omega
theorem gh_assoc (a b c : Option Int) : gh (gh a b) c = gh a (gh b c) := by
  cases a <;> cases b <;> cases c <;> simp [gh] <;> omega
theorem com_comm (x y : Rv) : com x y = com y x := by
  cases x <;> cases y <;> simp [com]
  rename_i p q
  rw [gl_comm p.1, lh_comm p.2]
theorem com_mk (p q : Option Int × Option Int) : com (mk p) (some q) = mk (gl p.1 q.1, lh p.2 q.2) := by
  unfold mk
  cases h : vB p
  · rw [v_none h]
    rfl
  · rfl
theorem com_assoc (x y z : Rv) : com (com x y) z = com x (com y z) := by
  cases x with
  | none => cases y <;> cases z <;> rfl
  | some p => cases y with
    | none => cases z <;> rfl
    | some q => cases z with
      | none => rw [com_comm, com_comm (some q)]; rfl
      | some r =>
        rw [com_some, com_mk, com_some, com_comm (some p), com_mk, gl_assoc, lh_assoc, gl_comm p.1, lh_comm p.2]
theorem joi_comm (x y : Rv) : joi x y = joi y x := by
  cases x <;> cases y <;> simp [joi]
  rename_i p q
  exact ⟨ll_comm _ _, gh_comm _ _⟩
theorem joi_assoc (x y z : Rv) : joi (joi x y) z = joi x (joi y z) := by
  cases x <;> cases y <;> cases z <;> simp [joi]
  exact ⟨ll_assoc _ _ _, gh_assoc _ _ _⟩
theorem joi_turn (x y z : Rv) : joi (joi x y) z = joi (joi x z) y := by rw [joi_assoc, joi_comm y, ← joi_assoc]
theorem com_self (x : Rv) (h : vR x = true) : com x x = x := by
  obtain _ | ⟨_ | a, _ | b⟩ := x <;> simp [com, gl, lh, vB, vR] at h ⊢
  exact h
theorem joi_self (x : Rv) : joi x x = x := by
  obtain _ | ⟨_ | a, _ | b⟩ := x <;> simp [joi, ll, gh]
theorem ll_gl (a c : Option Int) : ll (gl a c) a = a := by
  cases a <;> cases c <;> simp [ll, gl] <;> omega
theorem gh_lh (a c : Option Int) : gh (lh a c) a = a := by
  cases a <;> cases c <;> simp [gh, lh] <;> omega
theorem joi_com (x y : Rv) : joi (com x y) x = x := by
  cases x with
  | none => cases y <;> rfl
  | some p => cases y with
    | none => rfl
    | some q =>
      rw [com_some]
      unfold mk
      cases h : vB (gl p.1 q.1, lh p.2 q.2)
      · rfl
      · show some (ll (gl p.1 q.1) p.1, gh (lh p.2 q.2) p.2) = some p
        rw [ll_gl, gh_lh]
theorem joi_joi (x y : Rv) : joi x (joi x y) = joi x y := by rw [← joi_assoc, joi_self]
theorem gl_ll (a c : Option Int) : gl a c = a ↔ ll a c = c := by
  cases a <;> cases c <;> simp [ll, gl] <;> omega
theorem lh_gh (a c : Option Int) : lh a c = a ↔ gh a c = c := by
  cases a <;> cases c <;> simp [lh, gh] <;> omega
theorem due (x y : Rv) (hx : vR x = true) (hy : vR y = true) : (com x y = x) ↔ (joi x y = y) := by
  cases x with
  | none => cases y <;> simp [com, joi]
  | some p => cases y with
    | none => simp [com, joi]
    | some q =>
      obtain ⟨a, b⟩ := p
      obtain ⟨c, d⟩ := q
      have hx : vB (a, b) = true := hx
      rw [com_some]
      show mk (gl a c, lh b d) = some (a, b) ↔ some (ll a c, gh b d) = some (c, d)
      unfold mk
      cases h : vB (gl a c, lh b d)
      · constructor
        · intro z
          cases z
        · intro z
          simp only [Option.some.injEq, Prod.mk.injEq] at z
          rw [(gl_ll a c).mpr z.1, (lh_gh b d).mpr z.2, hx] at h
          cases h
      · simp only [if_true, Option.some.injEq, Prod.mk.injEq]
        rw [gl_ll, lh_gh]
theorem v_com (x y : Rv) : vR (com x y) = true := by
  cases x with
  | none => cases y <;> rfl
  | some p => cases y with
    | none => rfl
    | some q =>
      rw [com_some]
      unfold mk
      cases h : vB (gl p.1 q.1, lh p.2 q.2)
      · rfl
      · exact h
theorem v_joi (x y : Rv) (hx : vR x = true) (hy : vR y = true) : vR (joi x y) = true := by
  obtain _ | ⟨_ | a, _ | b⟩ := x <;> obtain _ | ⟨_ | c, _ | d⟩ := y <;> simp [joi, vB, vR, ll, gh] at hx hy ⊢ <;> omega
theorem within_trans (x y z : Rv) (h1 : joi x y = y) (h2 : joi y z = z) : joi x z = z := by
  rw [← h2, ← joi_assoc, h1]
/-- factor * bound + add -/
def sB (f p : Int) (b : Option Int) : Option Int := b.map fun i => f * i + p
def stp (x : Rv) (f p : Int) : Rv := x.map fun r => if f > 0 then (sB f p r.1, sB f p r.2) else (sB f p r.2, sB f p r.1)
def isF (f : Int) : Prop := f = 1 ∨ f = 2 ∨ f = 3 ∨ f = -1 ∨ f = -2 ∨ f = -3
theorem v_stp (x : Rv) (f p : Int) (h : vR x = true) (hf : isF f) : vR (stp x f p) = true := by
  rcases hf with rfl | rfl | rfl | rfl | rfl | rfl <;> obtain _ | ⟨_ | a, _ | b⟩ := x <;> simp [stp, sB, vB, vR] at h ⊢ <;> omega
theorem stp_com (x y : Rv) (f p : Int) (hx : vR x = true) (hy : vR y = true) (hf : isF f) : stp (com x y) f p = com (stp x f p) (stp y f p) := by
  rcases hf with rfl | rfl | rfl | rfl | rfl | rfl <;> obtain _ | ⟨_ | a, _ | b⟩ := x <;> obtain _ | ⟨_ | c, _ | d⟩ := y <;> simp [stp, com, sB, vB, vR, gl, lh] at hx hy ⊢ <;> (repeat' split) <;> simp [sB] <;> omega
theorem stp_joi (x y : Rv) (f p : Int) (hf : isF f) : stp (joi x y) f p = joi (stp x f p) (stp y f p) := by
  rcases hf with rfl | rfl | rfl | rfl | rfl | rfl <;> obtain _ | ⟨_ | a, _ | b⟩ := x <;> obtain _ | ⟨_ | c, _ | d⟩ := y <;> simp [stp, joi, sB, ll, gh] <;> omega
theorem stp_stp (x : Rv) (f p m h : Int) (hf : isF f) (hm : isF m) : stp (stp x f p) m h = stp x (f * m) (p * m + h) := by
  rcases hf with rfl | rfl | rfl | rfl | rfl | rfl <;> rcases hm with rfl | rfl | rfl | rfl | rfl | rfl <;> obtain _ | ⟨_ | a, _ | b⟩ := x <;> simp [stp, sB] <;> omega
theorem stp_back (x : Rv) (h : Int) : stp (stp x (-1) h) (-1) h = x := by
  obtain _ | ⟨_ | a, _ | b⟩ := x <;> simp [stp, sB] <;> omega
theorem stp_one (x : Rv) : stp x 1 0 = x := by
  obtain _ | ⟨_ | a, _ | b⟩ := x <;> simp [stp, sB]
theorem ok_R (x : Rv) : okEq (dR x) = true := by rcases x with _ | ⟨_ | a, _ | b⟩ <;> rfl
theorem ok_LL (x y : Rv) : okEq (.lst [dR x, dR y]) = true := by rcases x with _ | ⟨_ | a, _ | b⟩ <;> rcases y with _ | ⟨_ | c, _ | d⟩ <;> rfl
theorem eqv_B (x y : Option Int) : PyData.eqv (toP (dB x)) (toP (dB y)) = decide (x = y) := by
  cases x <;> cases y <;> simp [dB, toP, PyData.eqv]
  rename_i a b
  by_cases h : a = b <;> simp [h]
theorem eqv_R (x y : Rv) : PyData.eqv (toP (dR x)) (toP (dR y)) = decide (x = y) := by
  cases x with
  | none => cases y <;> simp [dR, toP, PyData.eqv]
  | some p => cases y with
    | none => simp [dR, toP, PyData.eqv]
    | some q =>
      obtain ⟨a, b⟩ := p
      obtain ⟨c, d⟩ := q
      simp only [dR, toP, toPs, PyData.eqv, PyData.eqvAll, eqv_B, Option.some.injEq, Prod.mk.injEq, Bool.and_true]
      by_cases h1 : a = c <;> by_cases h2 : b = d <;> simp [h1, h2]
theorem cmpEq {a b : D} (h1 : okEq a = true) (h2 : okEq b = true) : opCmp .Eq a b = some (PyData.eqv (toP a) (toP b)) := by
  have e : opCmp .Eq a b = if (okEq a && okEq b) = true then some (PyData.eqv (toP a) (toP b)) else none := by
    cases a <;> cases b <;> first | rfl | (rw [if_pos (by rw [h1, h2]; rfl)]; simp [opCmp, toP, PyData.eqv]; rw [Bool.eq_iff_iff]; simp)
  rw [e, h1, h2]
  rfl
theorem cmpNe {a b : D} (h1 : okEq a = true) (h2 : okEq b = true) : opCmp .NotEq a b = some (!PyData.eqv (toP a) (toP b)) := by
  have e : opCmp .NotEq a b = if (okEq a && okEq b) = true then some (!PyData.eqv (toP a) (toP b)) else none := by
    cases a <;> cases b <;> first | rfl | (rw [if_pos (by rw [h1, h2]; rfl)]; simp [opCmp, toP, PyData.eqv]; rw [Bool.eq_iff_iff]; simp)
  rw [e, h1, h2]
  rfl
theorem eqR (x y : Rv) : opCmp .Eq (dR x) (dR y) = some (decide (x = y)) := by
  rw [cmpEq (ok_R _) (ok_R _), eqv_R]
theorem neR (x y : Rv) : opCmp .NotEq (dR x) (dR y) = some (!decide (x = y)) := by
  rw [cmpNe (ok_R _) (ok_R _), eqv_R]
theorem neRR (x y z w : Rv) : opCmp .NotEq (.lst [dR x, dR y]) (.lst [dR z, dR w]) = some (!(decide (x = z) && decide (y = w))) := by
  rw [cmpNe (ok_LL _ _) (ok_LL _ _)]
  simp only [toP, toPs, PyData.eqv, PyData.eqvAll, eqv_R, Bool.and_true]
theorem isN (x : Rv) : opCmp .Is (dR x) .non = some (decide (x = none)) := by cases x <;> rfl
theorem isNN (x : Rv) : opCmp .IsNot (dR x) .non = some (!decide (x = none)) := by cases x <;> rfl
theorem neBB (a b : Bool) : opCmp .NotEq (.bl a) (.bl b) = some (!decide (a = b)) := by cases a <;> cases b <;> rfl
theorem ok_seq (x y : D) : seqOf (.tup [x, y]) = some [x, y] := rfl
theorem add22 (a b c d : D) : opBin .Add (.lst [a, b]) (.lst [c, d]) = some (.lst [a, b, c, d]) := rfl
theorem rep4 : opBin .Mult (.lst [.bl true]) (.int 4) = some (.lst [.bl true, .bl true, .bl true, .bl true]) := rfl
theorem ne4 : opCmp .NotEq (.lst [.bl true, .bl true, .bl true, .bl true]) (.lst [.bl true, .bl true, .bl true, .bl true]) = some false := by decide +kernel
theorem eq2 (a : Bool) : opCmp .Eq (.lst [.bl a, .bl a]) (.lst [.bl a, .bl a]) = some true := by cases a <;> decide +kernel
theorem mulL {f i : Int} (h : f.natAbs < 2 ^ 64) : opBin .Mult (.int f) (.int i) = some (.int (f * i)) := by
  show (if mulOk f i then some (D.int (f * i)) else none) = _
  rw [if_pos]
  unfold mulOk
  rw [decide_eq_true h]
  rfl
theorem mulR {f i : Int} (h : i.natAbs < 2 ^ 64) : opBin .Mult (.int f) (.int i) = some (.int (f * i)) := by
  show (if mulOk f i then some (D.int (f * i)) else none) = _
  rw [if_pos]
  unfold mulOk
  rw [decide_eq_true h, Bool.or_true]
  rfl
theorem addI (a b : Int) : opBin .Add (.int a) (.int b) = some (.int (a + b)) := rfl
theorem subI (a b : Int) : opBin .Sub (.int a) (.int b) = some (.int (a - b)) := rfl
theorem gtI (a b : Int) : opCmp .Gt (.int a) (.int b) = some (decide (b < a)) := rfl
theorem isI (a : Int) : opCmp .Is (.int a) .non = some false := rfl
theorem isO : opCmp .Is .non .non = some true := rfl
theorem eqI (a b : Int) : opCmp .Eq (.int a) (.int b) = some (decide (a = b)) := by
  rw [cmpEq rfl rfl]
  show some (a == b) = _
  by_cases h : a = b <;> simp [h]
theorem pow29 : opBin .Pow (.int 10) (.int 29) = some (.int (10 ^ 29)) := rfl
theorem pow30 : opBin .Pow (.int 10) (.int 30) = some (.int (10 ^ 30)) := rfl
/-! the draws -/
def Good (k : Nat) (s : Option Rg) : Prop := ∃ r : Rg, s = some r ∧ 0 ≤ r.s ∧ r.s < 2 ^ 70 ∧ 0 ≤ r.t ∧ r.t + (k : Int) < 2 ^ 40
theorem Good.le {j k : Nat} {s : Option Rg} (h : Good k s) (l : j ≤ k) : Good j s := by
  obtain ⟨r, e, a, b, c, d⟩ := h
  exact ⟨r, e, a, b, c, by omega⟩
theorem draw_ok {dk : Dk} {k : Nat} {s : Option Rg} {n : Int} (h : Good (k + 1) s) (h0 : 0 < n) (h1 : n < 2 ^ 1000) : ∃ i s', drawF dk [.rng, .int n] s = .ok (.int i) s' ∧ 0 ≤ i ∧ i < n ∧ Good k s' := by
  obtain ⟨r, rfl, a, b, c, d⟩ := h
  have hc : 0 < n ∧ n < 2 ^ 1000 ∧ 0 ≤ r.s ∧ r.s < 2 ^ 70 ∧ 0 ≤ r.t ∧ r.t < 2 ^ 40 := ⟨h0, h1, a, b, c, by omega⟩
  by_cases hd : 0 < r.d
  · refine ⟨r.d % n, some ⟨r.d / n, r.s, r.t⟩, ?_, Int.emod_nonneg _ (by omega), Int.emod_lt_of_pos _ h0, ⟨_, rfl, a, b, c, by show r.t + (k : Int) < 2 ^ 40; omega⟩⟩
    show (match drawS dk n r with | some (i, s') => Res.ok (D.int i) (some s') | none => Res.bad) = _
    unfold drawS
    rw [if_pos hc, if_pos hd]
  · refine ⟨drawN dk r.s (r.t + 1) % n, some ⟨r.d, r.s, r.t + 1⟩, ?_, Int.emod_nonneg _ (by omega), Int.emod_lt_of_pos _ h0, ⟨_, rfl, a, b, by show 0 ≤ r.t + 1; omega, by show r.t + 1 + (k : Int) < 2 ^ 40; omega⟩⟩
    show (match drawS dk n r with | some (i, s') => Res.ok (D.int i) (some s') | none => Res.bad) = _
    unfold drawS
    rw [if_pos hc, if_neg hd]
theorem lt1000 {n : Int} (h : n < 2 ^ 200) : n < 2 ^ 1000 := Int.lt_trans h (by decide)
theorem idx3 {a b c : D} {i : Int} (h0 : 0 ≤ i) (h1 : i < 3) : ∃ z, opIdx (.lst [a, b, c]) (.int i) = some z ∧ (z = a ∨ z = b ∨ z = c) := by
  have : i = 0 ∨ i = 1 ∨ i = 2 := by omega
  rcases this with rfl | rfl | rfl
  · exact ⟨a, rfl, .inl rfl⟩
  · exact ⟨b, rfl, .inr (.inl rfl)⟩
  · exact ⟨c, rfl, .inr (.inr rfl)⟩
theorem idx2 {a b : D} {i : Int} (h0 : 0 ≤ i) (h1 : i < 2) : ∃ z, opIdx (.lst [a, b]) (.int i) = some z ∧ (z = a ∨ z = b) := by
  have : i = 0 ∨ i = 1 := by omega
  rcases this with rfl | rfl
  · exact ⟨a, rfl, .inl rfl⟩
  · exact ⟨b, rfl, .inr rfl⟩
theorem idx6 {i : Int} (h0 : 0 ≤ i) (h1 : i < 6) : ∃ f, opIdx (.lst [.int 1, .int 2, .int 3, .int (-1), .int (-2), .int (-3)]) (.int i) = some (.int f) ∧ isF f := by
  have : i = 0 ∨ i = 1 ∨ i = 2 ∨ i = 3 ∨ i = 4 ∨ i = 5 := by omega
  rcases this with rfl | rfl | rfl | rfl | rfl | rfl
  · exact ⟨1, rfl, .inl rfl⟩
  · exact ⟨2, rfl, .inr (.inl rfl)⟩
  · exact ⟨3, rfl, .inr (.inr (.inl rfl))⟩
  · exact ⟨-1, rfl, .inr (.inr (.inr (.inl rfl)))⟩
  · exact ⟨-2, rfl, .inr (.inr (.inr (.inr (.inl rfl))))⟩
  · exact ⟨-3, rfl, .inr (.inr (.inr (.inr (.inr rfl))))⟩
theorem isB (x : Option Int) : opCmp .IsNot (dB x) .non = some (!decide (x = none)) := by cases x <;> rfl
theorem pow18 : opBin .Pow (.int 10) (.int 18) = some (.int (10 ^ 18)) := rfl
theorem pow60 : opBin .Pow (.int 10) (.int 60) = some (.int (10 ^ 60)) := rfl
theorem modI {a b : Int} (h : 0 < b) : opBin .Mod (.int a) (.int b) = some (.int (a % b)) := by
  show (if 0 < b then some (D.int (a % b)) else none) = _
  rw [if_pos h]
theorem m60 (a : Int) : opBin .Mod (.int a) (.int (10 ^ 60)) = some (.int (a % 10 ^ 60)) := modI (by decide)
theorem geI (a b : Int) : opCmp .GtE (.int a) (.int b) = some (decide (b ≤ a)) := rfl
theorem mulB {d : Int} {k : Nat} (h0 : 0 ≤ d) (h : d < 2 ^ (200 * k)) (hk : k ≤ 63) : opBin .Mult (.int d) (.int (10 ^ 60)) = some (.int (d * 10 ^ 60)) := by
  show (if mulOk d (10 ^ 60) then some (D.int (d * 10 ^ 60)) else none) = _
  rw [if_pos]
  unfold mulOk
  have l : d.natAbs.log2 + ((10 : Int) ^ 60).natAbs.log2 < 1000000 := by
    have e2 : ((10 : Int) ^ 60).natAbs.log2 = 199 := by decide +kernel
    rw [e2]
    by_cases hd : d.natAbs = 0
    · rw [hd]
      decide
    · have hz : d.natAbs < 2 ^ (200 * k) := by
        have e : ((2 : Int) ^ (200 * k)) = ((2 ^ (200 * k) : Nat) : Int) := by norm_cast
        rw [e] at h
        omega
      have := (Nat.log2_lt hd).mpr hz
      omega
  rw [decide_eq_true l, Bool.or_true]
def absI (n : Int) : Int := if n < 0 then -n else n
theorem absE (n : Int) : opBi .abs [.int n] = some (.int (absI n)) := rfl
theorem intE (n : Int) : opBi .int [.int n] = some (.int n) := rfl
def stepD (n d : Int) : Int := if (10 : Int) ^ 18 ≤ absI n then d * 10 ^ 60 + absI n % 10 ^ 60 else d
def stepS (n s : Int) : Int := (s * 1000003 + n % 2305843009213693921 + 7) % 2305843009213693951
theorem stepD_b {n d : Int} {k : Nat} (h0 : 0 ≤ d) (h : d < 2 ^ (200 * k)) : 0 ≤ stepD n d ∧ stepD n d < 2 ^ (200 * (k + 1)) := by
  have p : (2 : Int) ^ (200 * (k + 1)) = 2 ^ (200 * k) * 2 ^ 200 := by rw [Nat.mul_add, Int.pow_add]
  have q : (0 : Int) < 2 ^ (200 * k) := Int.pow_pos (by decide)
  rw [p]
  have m0 := Int.emod_nonneg (absI n) (show (10 : Int) ^ 60 ≠ 0 by decide)
  have m1 := Int.emod_lt_of_pos (absI n) (show (0 : Int) < 10 ^ 60 by decide)
  generalize (2 : Int) ^ (200 * k) = P at *
  unfold stepD
  split
  · generalize absI n % 10 ^ 60 = m at *
    constructor
    · omega
    · omega
  · omega
theorem stepS_b (n s : Int) : 0 ≤ stepS n s ∧ stepS n s < 2 ^ 61 := by
  unfold stepS
  have := Int.emod_nonneg (s * 1000003 + n % 2305843009213693921 + 7) (show (2305843009213693951 : Int) ≠ 0 by decide)
  have := Int.emod_lt_of_pos (s * 1000003 + n % 2305843009213693921 + 7) (show (0 : Int) < 2305843009213693951 by decide)
  omega
theorem cut63 (ns : List Int) (h : ns.length ≤ 63) : Pv.cutD ns none (some 63) = ns := by
  show (List.drop 0 ns).take ((if (63 : Int) < 0 then ((63 : Int) + (ns.length : Int)).toNat else min (63 : Int).toNat ns.length) - 0) = ns
  have e : min (63 : Int).toNat ns.length = ns.length := Nat.min_eq_right h
  rw [if_neg (by decide), List.drop_zero, Nat.sub_zero, e, List.take_length]
def lo40 : Option Int → Int
  | none => -40
  | some a => a
def hi41 : Option Int → Int
  | none => 41
  | some b => b + 1
/-- the spots of a range near by -/
def spots : Rv → List D
  | none => []
  | some p => rngL (lo40 p.1) (hi41 p.2)
def near : Option Int → Prop
  | none => True
  | some a => -100 ≤ a ∧ a ≤ 100
def nearR : Rv → Prop
  | none => True
  | some p => near p.1 ∧ near p.2
def far (x : Rv) (k : Int) : Rv := x.map fun p => (p.1.map (· + k), p.2.map (· + k))
theorem exs_nx {Γ : Gm (Option Rg)} {N : Nat} {i : IS} {is : List IS} {env e1 : IEnv} {s s1 : Option Rg} (h : ex Γ N i env s = .ok (.nx e1) s1) : exs Γ N (i :: is) env s = exs Γ N is e1 s1 := by
  conv => lhs; unfold exs
  rw [bind_def, h]
theorem exs_ret {Γ : Gm (Option Rg)} {N : Nat} {i : IS} {is : List IS} {env : IEnv} {s s1 : Option Rg} {d : D} {b : Bool} (h : ex Γ N i env s = .ok (.ret d b) s1) : exs Γ N (i :: is) env s = .ok (.ret d b) s1 := by
  conv => lhs; unfold exs
  rw [bind_def, h]
  rfl
theorem run_ret {Γ : Gm (Option Rg)} {N n : Nat} {sg : Sig} {ir : List IS} {ds : List D} {s s1 : Option Rg} {d : D} {b : Bool} (hl : ds.length = sg.lend.length) (hf : sg.fr = false) (h : exs Γ N ir (startE n sg.lend ds) s = .ok (.ret d b) s1) : runF Γ N sg ⟨n, ir⟩ ds s = .ok d s1 := by
  unfold runF
  rw [if_pos hl, bind_def, h, hf]
  rfl
theorem lrng_ok {a b : Int} (h1 : -1000 ≤ a) (h2 : a ≤ 1000) (h3 : -1000 ≤ b) (h4 : b ≤ 1000) : -(2 ^ 62) ≤ a ∧ a < 2 ^ 62 ∧ -(2 ^ 62) ≤ b ∧ b < 2 ^ 62 ∧ (b - a).toNat ≤ 16777216 := by omega
theorem lrng_ev {Γ : Gm (Option Rg)} {ia ib : IE} {env : IEnv} {s s1 s2 : Option Rg} {a b : Int} (e1 : ev Γ ia env s = .ok (.int a) s1) (e2 : ev Γ ib env s1 = .ok (.int b) s2) (c : -(2 ^ 62) ≤ a ∧ a < 2 ^ 62 ∧ -(2 ^ 62) ≤ b ∧ b < 2 ^ 62 ∧ (b - a).toNat ≤ 16777216) : ev Γ (.lrng ia ib) env s = .ok (.lst (rngL a b)) s2 := by
  unfold ev
  rw [bind_def, e1]
  dsimp only
  rw [bind_def, e2]
  dsimp only
  rw [if_pos c]
  rfl
theorem isF_abs {f : Int} (h : isF f) : f.natAbs < 2 ^ 64 := by rcases h with rfl | rfl | rfl | rfl | rfl | rfl <;> decide
theorem isF_mul {f m : Int} (h : isF f) (h2 : isF m) : (f * m).natAbs < 2 ^ 64 := by rcases h with rfl | rfl | rfl | rfl | rfl | rfl <;> rcases h2 with rfl | rfl | rfl | rfl | rfl | rfl <;> decide
theorem stp_none (x : Rv) (f p : Int) : (stp x f p = none) = (x = none) := by cases x <;> simp [stp]
def E21 (x y : Rv) (f m p h : Int) : IEnv := [some (.rng, .frz), some (dR x, .frz), some (dR y, .frz), some (.int f, .frz), some (.int m, .frz), some (.int p, .frz), some (.int h, .frz), some (dR (stp x f p), .frz), some (dR (stp y f p), .frz)]
theorem run_retF {Γ : Gm (Option Rg)} {N n : Nat} {sg : Sig} {ir : List IS} {ds : List D} {s s1 : Option Rg} {d : D} (hl : ds.length = sg.lend.length) (hf : sg.fr = true) (h : exs Γ N ir (startE n sg.lend ds) s = .ok (.ret d true) s1) : runF Γ N sg ⟨n, ir⟩ ds s = .ok d s1 := by
  unfold runF
  rw [if_pos hl, bind_def, h, hf]
  simp [pure_s]
end Pv
end
section
set_option maxHeartbeats 1000000
namespace Pv
open PySem PySem.Spec PyProof.Rows L2
theorem filtL_ok {S : Type} {p : D → M S Bool} {f : D → M S D} {q : D → Bool} {g : D → D} {s : S} : ∀ {l : List D}, (∀ d ∈ l, p d s = .ok (q d) s) → (∀ d ∈ l, f d s = .ok (g d) s) → filtL p f l s = .ok ((l.filter q).map g) s
  | [], _, _ => rfl
  | d :: ds, hp, hf => by
    have r := filtL_ok (l := ds) (fun x m => hp x (.tail _ m)) (fun x m => hf x (.tail _ m))
    unfold filtL
    rw [bind_def, hp d (.head _)]
    dsimp only
    cases e : q d with
    | true =>
      rw [if_pos rfl, bind_def, hf d (.head _)]
      dsimp only
      rw [bind_def, r, List.filter_cons_of_pos e]
      rfl
    | false =>
      rw [if_neg (by decide), List.filter_cons_of_neg (by rw [e]; decide)]
      exact r
theorem eqV_int (i j : Int) : eqV (.int j) (.int i) = decide (i = j) := by
  by_cases h : i = j
  · subst h; simp [eqV]
  · have h2 : ¬ j = i := fun z => h z.symm
    simp [eqV, h, h2]
theorem inV_int (i : Int) : ∀ l : List Int, inV (toV (.int i)) ((l.map D.int).map toV) = decide (i ∈ l)
  | [] => rfl
  | j :: l => by
    have r := inV_int i l
    show (eqV (.int j) (.int i) || inV (toV (.int i)) ((l.map D.int).map toV)) = _
    rw [r, eqV_int]
    by_cases h : i = j <;> simp [h]
theorem inD_int (i : Int) (l : List Int) : inD (.int i) (l.map D.int) = some (decide (i ∈ l)) := by
  unfold inD
  have h : (flatD (.int i) && (l.map D.int).all flatD) = true := by
    rw [Bool.and_eq_true]
    exact ⟨rfl, List.all_eq_true.mpr fun d m => by obtain ⟨j, _, rfl⟩ := List.mem_map.mp m; rfl⟩
  rw [if_pos h, inV_int]
def inB (m : Int) (b : Option Int) : Prop := ∀ a, b = some a → -m ≤ a ∧ a ≤ m
def inR (m : Int) (x : Rv) : Prop := ∀ p, x = some p → inB m p.1 ∧ inB m p.2
def rngZ (a b : Int) : List Int := (List.range (b - a).toNat).map fun i => a + (i : Nat)
theorem rngZ_mem {a b i : Int} : i ∈ rngZ a b ↔ a ≤ i ∧ i < b := by
  unfold rngZ
  rw [List.mem_map]
  constructor
  · rintro ⟨n, h, rfl⟩
    have := List.mem_range.mp h
    omega
  · intro ⟨h1, h2⟩
    exact ⟨(i - a).toNat, List.mem_range.mpr (by omega), by omega⟩
theorem rngL_Z (a b : Int) : rngL a b = (rngZ a b).map D.int := by
  unfold rngL rngZ
  rw [List.map_map]
  rfl
def spZ : Rv → List Int
  | none => []
  | some p => rngZ (lo40 p.1) (hi41 p.2)
theorem spots_Z (x : Rv) : spots x = (spZ x).map D.int := by
  cases x with
  | none => rfl
  | some p => exact rngL_Z _ _
/-- whether they meet is seen within the window -/
theorem see_meet (x y : Rv) (hx : inR 20 x) (hy : inR 20 y) : ((spZ x).filter fun i => decide (i ∈ spZ y)) ≠ [] ↔ com x y ≠ none := by
  rw [Ne, List.filter_eq_nil_iff]
  cases x with
  | none => cases y <;> simp [spZ, com]
  | some p => cases y with
    | none => simp [spZ, com]
    | some q =>
      obtain ⟨a, b⟩ := p
      obtain ⟨c, d⟩ := q
      have h1 := hx _ rfl
      have h2 := hy _ rfl
      simp only [spZ, com, rngZ_mem]
      constructor
      · intro h z
        apply h
        intro i m
        rw [decide_eq_true_eq]
        intro m2
        split at z
        · cases z
        · rename_i hv
          apply hv
          obtain ⟨h1a, h1b⟩ := h1
          obtain ⟨h2a, h2b⟩ := h2
          cases a <;> cases b <;> cases c <;> cases d <;> simp [gl, lh, vB, lo40, hi41] at m m2 ⊢ <;> omega
      · intro h z
        have hv : vB (gl a c, lh b d) = true := by
          cases e : vB (gl a c, lh b d) with
          | true => rfl
          | false => rw [e] at h; exact absurd rfl h
        have a1 := h1.1; have a2 := h1.2; have a3 := h2.1; have a4 := h2.2
        have w : ∃ i, (lo40 a ≤ i ∧ i < hi41 b) ∧ (lo40 c ≤ i ∧ i < hi41 d) := by
          refine ⟨(if lo40 a < lo40 c then lo40 c else lo40 a), ?_⟩
          cases a <;> cases b <;> cases c <;> cases d <;> simp [inB, gl, lh, vB, lo40, hi41] at a1 a2 a3 a4 hv ⊢ <;> (repeat' split) <;> omega
        obtain ⟨i, w1, w2⟩ := w
        exact z i w1 (by rw [decide_eq_true_eq]; exact w2)
theorem see_within (x y : Rv) (hx : inR 20 x) (hy : inR 20 y) (vx : vR x = true) (vy : vR y = true) : ((spZ x).filter fun i => !decide (i ∈ spZ y)) = [] ↔ joi x y = y := by
  rw [List.filter_eq_nil_iff]
  cases x with
  | none => cases y <;> simp [spZ, joi]
  | some p =>
    obtain ⟨a, b⟩ := p
    have h1 := hx _ rfl
    have a1 := h1.1; have a2 := h1.2
    have ne : ∃ i, lo40 a ≤ i ∧ i < hi41 b := ⟨lo40 a, by cases a <;> cases b <;> simp [inB, vR, vB, lo40, hi41] at a1 a2 vx ⊢ <;> omega⟩
    cases y with
    | none =>
      constructor
      · intro h
        obtain ⟨i, w⟩ := ne
        exact absurd (h i (by simpa [spZ, rngZ_mem] using w)) (by simp [spZ])
      · intro h; cases h
    | some q =>
      obtain ⟨c, d⟩ := q
      have h2 := hy _ rfl
      have a3 := h2.1; have a4 := h2.2
      simp only [spZ, joi, rngZ_mem, Option.some.injEq, Prod.mk.injEq, Bool.not_eq_true, Bool.not_eq_false', decide_eq_true_eq]
      constructor
      · intro h
        have w1 := h (lo40 a) (by obtain ⟨i, w⟩ := ne; omega)
        have w2 := h (hi41 b - 1) (by obtain ⟨i, w⟩ := ne; omega)
        cases a <;> cases b <;> cases c <;> cases d <;> simp [inB, ll, gh, lo40, hi41] at a1 a2 a3 a4 w1 w2 ⊢ <;> omega
      · intro ⟨e1, e2⟩ i w
        cases a <;> cases b <;> cases c <;> cases d <;> simp [inB, ll, gh, lo40, hi41] at a1 a2 a3 a4 e1 e2 w ⊢ <;> omega
theorem far_com (x y : Rv) (k : Int) : com (far x k) (far y k) = far (com x y) k := by
  obtain _ | ⟨_ | a, _ | b⟩ := x <;> obtain _ | ⟨_ | c, _ | d⟩ := y <;> simp [far, com, gl, lh, vB] <;> (repeat' split) <;> simp <;> omega
theorem far_joi (x y : Rv) (k : Int) : joi (far x k) (far y k) = far (joi x y) k := by
  obtain _ | ⟨_ | a, _ | b⟩ := x <;> obtain _ | ⟨_ | c, _ | d⟩ := y <;> simp [far, joi, ll, gh] <;> omega
theorem far_inj (x y : Rv) (k : Int) : far x k = far y k ↔ x = y := by
  obtain _ | ⟨_ | a, _ | b⟩ := x <;> obtain _ | ⟨_ | c, _ | d⟩ := y <;> simp [far] <;> omega
theorem far_none (x : Rv) (k : Int) : far x k = none ↔ x = none := by cases x <;> simp [far]
theorem v_far (x : Rv) (k : Int) : vR (far x k) = vR x := by
  obtain _ | ⟨_ | a, _ | b⟩ := x <;> simp [far, vR, vB]
/-! ### data that may be compared -/
def okN (n : Nat) (d : D) : Prop := pureD d = true ∧ (toP d).depth ≤ n
theorem pureDs_all : ∀ {l : List D}, (∀ d ∈ l, pureD d = true) → pureDs l = true
  | [], _ => rfl
  | d :: ds, h => by
    show (pureD d && pureDs ds) = true
    rw [h d (.head _), pureDs_all fun x m => h x (.tail _ m)]
    rfl
theorem depths_le {n : Nat} : ∀ {l : List D}, (∀ d ∈ l, (toP d).depth ≤ n) → PyData.depthAll (toPs l) ≤ n
  | [], _ => by simp [toPs, PyData.depthAll]
  | d :: ds, h => by
    have a := h d (.head _)
    have b := depths_le (l := ds) fun x m => h x (.tail _ m)
    simp only [toPs, PyData.depthAll]
    omega
theorem okN_lst {n : Nat} {l : List D} (h : ∀ d ∈ l, okN n d) : okN (n + 1) (.lst l) := by
  refine ⟨pureDs_all fun d m => (h d m).1, ?_⟩
  have := depths_le (l := l) fun d m => (h d m).2
  simp only [toP, PyData.depth]
  omega
theorem okN_tup {n : Nat} {l : List D} (h : ∀ d ∈ l, okN n d) : okN (n + 1) (.tup l) := by
  refine ⟨pureDs_all fun d m => (h d m).1, ?_⟩
  have := depths_le (l := l) fun d m => (h d m).2
  simp only [toP, PyData.depth]
  omega
theorem okN_int {i : Int} : okN 1 (.int i) := ⟨rfl, by simp [toP, PyData.depth]⟩
theorem okN_bl {b : Bool} : okN 1 (.bl b) := ⟨rfl, by simp [toP, PyData.depth]⟩
theorem okN_non : okN 1 .non := ⟨rfl, by simp [toP, PyData.depth]⟩
theorem okN.mono {m n : Nat} {d : D} (h : okN m d) (l : m ≤ n) : okN n d := ⟨h.1, Nat.le_trans h.2 l⟩
theorem okN.eq {n : Nat} {d : D} (h : okN n d) (l : n ≤ 64 := by omega) : okEq d = true := by
  unfold okEq
  rw [h.1, decide_eq_true (Nat.le_trans h.2 l)]
  rfl
theorem okN_R (x : Rv) : okN 2 (dR x) := by
  rcases x with _ | ⟨_ | a, _ | b⟩
  · exact okN_non.mono (by omega)
  all_goals exact okN_tup (by simp only [List.mem_cons, List.not_mem_nil, or_false, dB]; rintro d (rfl | rfl) <;> first | exact okN_non | exact okN_int)
theorem toPs_map {α : Type} (f : α → D) (g : α → PyData) (h : ∀ x, toP (f x) = g x) : ∀ l : List α, toPs (l.map f) = l.map g
  | [] => rfl
  | x :: l => by simp only [List.map_cons, toPs, h x, toPs_map f g h l]
theorem ok_ints (l : List Int) : okEq (.lst (l.map D.int)) = true := okN.eq (okN_lst (n := 1) fun d m => by obtain ⟨i, _, rfl⟩ := List.mem_map.mp m; exact okN_int)
theorem eqv_ints (l m : List Int) : PyData.eqv (toP (.lst (l.map D.int))) (toP (.lst (m.map D.int))) = decide (l = m) := by
  simp only [toP, toPs_map D.int PyData.int (fun _ => rfl), PyData.eqv]
  exact PySem.W.ked_eqvAll l m
theorem cmpNeI (l m : List Int) : opCmp .NotEq (.lst (l.map D.int)) (.lst (m.map D.int)) = some (!decide (l = m)) := by
  rw [cmpNe (ok_ints _) (ok_ints _), eqv_ints]
theorem cmpEqI (l m : List Int) : opCmp .Eq (.lst (l.map D.int)) (.lst (m.map D.int)) = some (decide (l = m)) := by
  rw [cmpEq (ok_ints _) (ok_ints _), eqv_ints]
end Pv
end
section
set_option maxHeartbeats 1000000
namespace Pv
open PySem PySem.Spec PyProof.Rows L2
/-! ### what repr shows -/
theorem strOk_app {a b : Str} (h1 : PyData.strOk a = true) (h2 : PyData.strOk b = true) : PyData.strOk (a ++ b) = true := by
  unfold PyData.strOk at *
  rw [Str.cps_append, Array.all_append, h1, h2]
  rfl
theorem strOk_of (s : String) : PyData.strOk (Str.ofString s) = true := by
  unfold PyData.strOk
  rw [Str.ofString_eq_toList, Array.all_eq_true']
  intro x hx
  rw [List.mem_toArray] at hx
  obtain ⟨c, _, rfl⟩ := List.mem_map.mp hx
  have v := c.valid
  rw [decide_eq_true_eq]
  have e : c.toNat = c.val.toNat := rfl
  rcases v with v | v
  · rw [e]
    exact Nat.lt_trans v (by decide)
  · rw [e]
    exact v.2
theorem strOk_from : ∀ (ts : List Str) (k : Nat) (acc : Str), (∀ t ∈ ts, PyData.strOk t = true) → PyData.strOk acc = true → PyData.strOk (textFrom k acc ts) = true
  | [], k, acc, _, h => h
  | t :: ts, k, acc, ht, h => by
    unfold textFrom
    refine strOk_from ts (k + 1) _ (fun x m => ht x (.tail _ m)) (strOk_app (strOk_app h ?_) (ht t (.head _)))
    split <;> exact strOk_of _
theorem strOk_join : ∀ ts : List Str, (∀ t ∈ ts, PyData.strOk t = true) → PyData.strOk (Str.join ", " ts) = true
  | [], _ => strOk_of ""
  | [x], h => h x (.head _)
  | x :: y :: r, h => strOk_app (strOk_app (h x (.head _)) (strOk_of ", ")) (strOk_join (y :: r) fun t m => h t (.tail _ m))
structure ShB (n m : Nat) (d : D) : Prop where
  p : pureD d = true
  s : PyData.showable (toP d) = true
  h : PyData.hasDict (toP d) = false
  n : (toP d).depth ≤ n
  m : (PyData.shown (toP d)).length ≤ m
  c : PyData.strOk (PyData.shown (toP d)) = true
theorem ofStr_len (s : String) : (Str.ofString s).length = s.toList.length := by
  rw [Str.ofString_eq_toList]
  simp [Str.length]
theorem nat_len {n k : Nat} (hk : 0 < k) (h : n < 10 ^ k) : (Nat.repr n).toList.length ≤ k := by
  show (String.ofList (Nat.toDigits 10 n)).toList.length ≤ k
  rw [String.toList_ofList]
  exact (Nat.length_toDigits_le_iff (by decide) hk).mpr h
theorem int_len {i : Int} {k : Nat} (hk : 0 < k) (h : i.natAbs < 10 ^ k) : (PyData.shown (.int i)).length ≤ k + 1 := by
  have e : PyData.shown (.int i) = Str.ofString (toString i) := by unfold PyData.shown; rfl
  rw [e, ofStr_len]
  cases i with
  | ofNat m =>
    have : (toString (Int.ofNat m)).toList.length = (Nat.repr m).toList.length := rfl
    rw [this]
    have := nat_len hk (show m < 10 ^ k from h)
    omega
  | negSucc m =>
    have e : toString (Int.negSucc m) = "-" ++ Nat.repr (m + 1) := rfl
    rw [e, String.toList_append, List.length_append]
    have := nat_len hk (show m + 1 < 10 ^ k from h)
    have e2 : "-".toList.length = 1 := rfl
    omega
theorem shB_int {i : Int} {k : Nat} (hk : 0 < k) (h : i.natAbs < 10 ^ k) (h2 : i.natAbs < 2 ^ 1919) : ShB 0 (k + 1) (.int i) where
  p := rfl
  s := by
    unfold toP PyData.showable
    rw [decide_eq_true_eq]
    by_cases z : i.natAbs = 0
    · rw [z]; decide
    · have := (Nat.log2_lt z).mpr h2
      omega
  h := rfl
  n := by simp [toP, PyData.depth]
  m := int_len hk h
  c := by
    have e : PyData.shown (toP (.int i)) = Str.ofString (toString i) := by unfold toP PyData.shown; rfl
    rw [e]
    exact strOk_of _
theorem shB_i (i : Int) (h : i.natAbs < 2 ^ 400) : ShB 0 200 (.int i) :=
  shB_int (k := 199) (by decide) (Nat.lt_trans h (by decide)) (Nat.lt_trans h (by decide))
theorem shB_non : ShB 0 4 .non := ⟨rfl, rfl, rfl, by simp [toP, PyData.depth], by decide, by decide +kernel⟩
theorem shB_bl (b : Bool) : ShB 0 5 (.bl b) := ⟨rfl, rfl, rfl, by simp [toP, PyData.depth], by cases b <;> decide, by cases b <;> decide +kernel⟩
theorem ShB.le {n m n' m' : Nat} {d : D} (h : ShB n m d) (l1 : n ≤ n') (l2 : m ≤ m') : ShB n' m' d := ⟨h.p, h.s, h.h, Nat.le_trans h.n l1, Nat.le_trans h.m l2, h.c⟩
theorem showAll {n m : Nat} : ∀ {l : List D}, (∀ d ∈ l, ShB n m d) → PyData.showableAll (toPs l) = true ∧ PyData.hasDictAll (toPs l) = false ∧ PyData.depthAll (toPs l) ≤ n ∧ pureDs l = true ∧ piled (PyData.shownAll (toPs l)) ≤ l.length * (m + 2) ∧ (PyData.shownAll (toPs l)).length = l.length
  | [], _ => ⟨rfl, rfl, by simp [toPs, PyData.depthAll], rfl, by simp [toPs, PyData.shownAll, piled], rfl⟩
  | d :: ds, h => by
    obtain ⟨a1, a2, a3, a4, a5, a6⟩ := showAll (l := ds) fun x k => h x (.tail _ k)
    have b := h d (.head _)
    refine ⟨?_, ?_, ?_, ?_, ?_, ?_⟩
    · simp only [toPs, PyData.showableAll, b.s, a1]; rfl
    · simp only [toPs, PyData.hasDictAll, b.h, a2]; rfl
    · have := b.n
      simp only [toPs, PyData.depthAll]
      omega
    · show (pureD d && pureDs ds) = true
      rw [b.p, a4]; rfl
    · simp only [toPs, PyData.shownAll, piled_cons, List.length_cons]
      have := b.m
      rw [Nat.add_mul]
      omega
    · simp only [toPs, PyData.shownAll, List.length_cons, a6]
theorem textFrom_le : ∀ (ts : List Str) (k : Nat) (acc : Str), (textFrom k acc ts).length ≤ acc.length + piled ts
  | [], k, acc => by simp [textFrom, piled]
  | t :: ts, k, acc => by
    have r := textFrom_le ts (k + 1) (acc ++ (if k > 0 then ", " else "" : String) ++ t)
    unfold textFrom
    refine Nat.le_trans r ?_
    rw [Str.length_append, Str.length_append, piled_cons]
    have : (((if k > 0 then ", " else "" : String) : Str)).length ≤ 2 := by split <;> decide
    omega
theorem shownAll_c {n m : Nat} : ∀ {l : List D}, (∀ d ∈ l, ShB n m d) → ∀ t ∈ PyData.shownAll (toPs l), PyData.strOk t = true
  | [], _, t, h => by
    simp only [toPs, PyData.shownAll] at h
    cases h
  | d :: ds, h, t, ht => by
    simp only [toPs, PyData.shownAll] at ht
    rcases List.mem_cons.mp ht with rfl | ht
    · exact (h d (.head _)).c
    · exact shownAll_c (l := ds) (fun x k => h x (.tail _ k)) t ht
theorem shB_lst {n m : Nat} {l : List D} (h : ∀ d ∈ l, ShB n m d) : ShB (n + 1) (l.length * (m + 2) + 2) (.lst l) := by
  obtain ⟨a1, a2, a3, a4, a5, a6⟩ := showAll h
  refine ⟨a4, by simpa only [toP, PyData.showable] using a1, by simpa only [toP, PyData.hasDict] using a2, by simp only [toP, PyData.depth]; omega, ?_, ?_⟩
  rotate_left
  · simp only [toP, PyData.shown]
    unfold listText
    exact strOk_app (strOk_from _ _ _ (shownAll_c h) (strOk_of "[")) (strOk_of "]")
  simp only [toP, PyData.shown]
  unfold listText
  rw [Str.length_append]
  have := textFrom_le (PyData.shownAll (toPs l)) 0 "["
  have e1 : ((("[" : String) : Str)).length = 1 := rfl
  have e2 : ((("]" : String) : Str)).length = 1 := rfl
  omega
theorem shB_tup {n m : Nat} {l : List D} (h : ∀ d ∈ l, ShB n m d) : ShB (n + 1) (l.length * (m + 2) + 3) (.tup l) := by
  obtain ⟨a1, a2, a3, a4, a5, a6⟩ := showAll h
  refine ⟨a4, by simpa only [toP, PyData.showable] using a1, by simpa only [toP, PyData.hasDict] using a2, by simp only [toP, PyData.depth]; omega, ?_, ?_⟩
  rotate_left
  · simp only [toP, PyData.shown]
    unfold tupleText
    refine strOk_app (strOk_app (strOk_of "(") (strOk_join _ (shownAll_c h))) ?_
    split <;> exact strOk_of _
  simp only [toP, PyData.shown]
  unfold tupleText
  rw [Str.length_append, Str.length_append]
  have e1 : ((("(" : String) : Str)).length = 1 := rfl
  have e3 : (((if (PyData.shownAll (toPs l)).length == 1 then ",)" else ")" : String) : Str)).length ≤ 2 := by split <;> decide
  have e4 : (Str.join ", " (PyData.shownAll (toPs l))).length ≤ piled (PyData.shownAll (toPs l)) := by
    by_cases z : PyData.shownAll (toPs l) = []
    · rw [z]; decide
    · have := join_length_add _ z
      omega
  omega
theorem repr_lst {n m : Nat} {l : List D} (h : ShB n m (.lst l)) (hn : n ≤ 60 := by omega) (hm : m ≤ sizeLine := by decide) : opBi .repr [.lst l] = some (.str (PyData.shown (toP (.lst l)))) := by
  show (if reprOk (.lst l) then _ else none) = _
  rw [if_pos]
  unfold reprOk
  rw [h.p, h.s, h.h, decide_eq_true (Nat.le_trans h.n hn), decide_eq_true (Nat.le_trans h.m hm)]
  rfl
theorem neS (a : Str) : opCmp .NotEq (.str a) (.str a) = some false := by simp [opCmp]
theorem forall2 {P : D → Prop} {a b : D} (h1 : P a) (h2 : P b) : ∀ d ∈ [a, b], P d := by
  simp only [List.mem_cons, List.not_mem_nil, or_false]
  rintro d (rfl | rfl) <;> assumption
theorem forall3 {P : D → Prop} {a b c : D} (h1 : P a) (h2 : P b) (h3 : P c) : ∀ d ∈ [a, b, c], P d := by
  simp only [List.mem_cons, List.not_mem_nil, or_false]
  rintro d (rfl | rfl | rfl) <;> assumption
def smR (x : Rv) : Prop := ∀ p, x = some p → (∀ a, p.1 = some a → a.natAbs < 2 ^ 400) ∧ (∀ a, p.2 = some a → a.natAbs < 2 ^ 400)
theorem shB_B {b : Option Int} (h : ∀ a, b = some a → a.natAbs < 2 ^ 400) : ShB 0 200 (dB b) := by
  cases b with
  | none => exact shB_non.le (by decide) (by decide)
  | some a => exact shB_i a (h a rfl)
theorem shB_R {x : Rv} (h : smR x) : ShB 1 407 (dR x) := by
  cases x with
  | none => exact shB_non.le (by decide) (by decide)
  | some p => exact (shB_tup (forall2 (shB_B (h p rfl).1) (shB_B (h p rfl).2))).le (by decide) (by show 2 * (200 + 2) + 3 ≤ 407; decide)
theorem inI (i : Int) (l : List Int) : opCmp .In (.int i) (.lst (l.map D.int)) = some (decide (i ∈ l)) := inD_int i l
theorem notInI (i : Int) (l : List Int) : opCmp .NotIn (.int i) (.lst (l.map D.int)) = some (!decide (i ∈ l)) := by
  show (inD (.int i) (l.map D.int)).map (!·) = _
  rw [inD_int]
  rfl
theorem lci_in {Γ : Gm (Option Rg)} {c a b : Nat} {env : IEnv} {l m : List Int} {s : Option Rg} {op : CmpOp} {neg : Bool} (hop : ∀ (i : Int) (l : List Int), opCmp op (.int i) (.lst (l.map D.int)) = some ((decide (i ∈ l)) != neg)) (h8 : env[c]? = some none) (hcb : c ≠ b) (h5 : getI env a = some (.lst (l.map D.int), .frz)) (hm : getI env b = some (.lst (m.map D.int), .frz)) :
    ev Γ (.lci c (.var a) (.cmp op (.var c) (.var b)) (.var c)) env s = .ok (.lst ((l.filter fun i => (decide (i ∈ m)) != neg).map D.int)) s := by
  have h9 : c < env.length := by
    rcases Nat.lt_or_ge c env.length with z | z
    · exact z
    · rw [List.getElem?_eq_none z] at h8; cases h8
  have g8 : ∀ d, getI (put env c d .frz) c = some (d, .frz) := fun d => by
    unfold getI put
    rw [List.getElem?_set_self h9]
    rfl
  have g6 : ∀ d, getI (put env c d .frz) b = some (.lst (m.map D.int), .frz) := fun d => by
    unfold getI put at *
    rw [List.getElem?_set_ne hcb]
    exact hm
  have ok : okSlot env c = true := by unfold okSlot; rw [h8]; rfl
  unfold ev
  have e5 : ev Γ (.var a) env s = .ok (.lst (l.map D.int)) s := by unfold ev; rw [h5]; rfl
  rw [bind_def, e5]
  show (if okSlot env c = true then (calm (filtL (fun d => ev Γ (.cmp op (.var c) (.var b)) (put env c d .frz) >>= truth) (fun d => ev Γ (.var c) (put env c d .frz)) (l.map D.int)) >>= fun r => (pure (.lst r) : M (Option Rg) D)) else bad) s = _
  rw [if_pos ok, bind_def]
  unfold calm
  have hq : ∀ l : List Int, ((l.map D.int).filter fun d => match d with | .int i => (decide (i ∈ m)) != neg | _ => false).map id = (l.filter fun i => (decide (i ∈ m)) != neg).map D.int := fun l => by
    rw [List.map_id]
    induction l with
    | nil => rfl
    | cons a l ih =>
      simp only [List.map_cons, List.filter_cons]
      split <;> simp [ih]
  rw [filtL_ok (q := fun d => match d with | .int i => (decide (i ∈ m)) != neg | _ => false) (g := id)]
  · rw [hq]
    rfl
  · intro d hd
    obtain ⟨i, _, rfl⟩ := List.mem_map.mp hd
    simp [ev, g8, g6, bind_def, pure_s, hop, truth]
  · intro d hd
    simp [ev, g8, pure_s]
theorem ev_cmp {Γ : Gm (Option Rg)} {o : CmpOp} {a b : IE} {env : IEnv} {x y : D} {s s1 s2 : Option Rg} {r : Bool} (h1 : ev Γ a env s = .ok x s1) (h2 : ev Γ b env s1 = .ok y s2) (h3 : opCmp o x y = some r) : ev Γ (.cmp o a b) env s = .ok (.bl r) s2 := by
  unfold ev
  rw [bind_def, h1]
  dsimp only
  rw [bind_def, h2]
  dsimp only
  rw [h3]
  rfl
theorem ev_lst2 {Γ : Gm (Option Rg)} {a b : IE} {env : IEnv} {x y : D} {s s1 s2 : Option Rg} (h1 : ev Γ a env s = .ok x s1) (h2 : ev Γ b env s1 = .ok y s2) : ev Γ (.lst [a, b]) env s = .ok (.lst [x, y]) s2 := by
  unfold ev
  simp only [evs, bind_def, h1, h2, pure_s]
theorem ex_set {Γ : Gm (Option Rg)} {N i : Nat} {a : IE} {env : IEnv} {x : D} {s s1 : Option Rg} (h1 : ev Γ a env s = .ok x s1) : ex Γ N (.set i false a) env s = .ok (.nx (put env i x .frz)) s1 := by
  unfold ex
  rw [bind_def, h1]
  rfl
theorem near_in {x : Rv} (h : inR 20 x) : nearR x := by
  rcases x with _ | ⟨a, b⟩
  · trivial
  · obtain ⟨h1, h2⟩ := h _ rfl
    refine ⟨?_, ?_⟩
    · cases a with
      | none => trivial
      | some a => have := h1 a rfl; show -100 ≤ a ∧ a ≤ 100; omega
    · cases b with
      | none => trivial
      | some a => have := h2 a rfl; show -100 ≤ a ∧ a ≤ 100; omega

theorem min_spec : ∀ (r : List Int) (i : Int), (r.foldl (fun a b => if b < a then b else a) i) ∈ i :: r ∧ ∀ x ∈ i :: r, (r.foldl (fun a b => if b < a then b else a) i) ≤ x
  | [], i => ⟨.head _, fun x h => by simp at h; subst h; exact Int.le_refl _⟩
  | j :: r, i => by
    obtain ⟨h1, h2⟩ := min_spec r (if j < i then j else i)
    simp only [List.foldl_cons]
    generalize List.foldl (fun a b => if b < a then b else a) (if j < i then j else i) r = F at *
    refine ⟨?_, fun x hx => ?_⟩
    · rcases List.mem_cons.mp h1 with z | z
      · rw [z]; split <;> simp
      · simp [z]
    · have h0 := h2 _ (.head _)
      rcases List.mem_cons.mp hx with rfl | hx
      · split at h0 <;> omega
      · rcases List.mem_cons.mp hx with rfl | hx
        · split at h0 <;> omega
        · exact h2 x (.tail _ hx)
theorem max_spec : ∀ (r : List Int) (i : Int), (r.foldl (fun a b => if b > a then b else a) i) ∈ i :: r ∧ ∀ x ∈ i :: r, x ≤ (r.foldl (fun a b => if b > a then b else a) i)
  | [], i => ⟨.head _, fun x h => by simp at h; subst h; exact Int.le_refl _⟩
  | j :: r, i => by
    obtain ⟨h1, h2⟩ := max_spec r (if j > i then j else i)
    simp only [List.foldl_cons]
    generalize List.foldl (fun a b => if b > a then b else a) (if j > i then j else i) r = F at *
    refine ⟨?_, fun x hx => ?_⟩
    · rcases List.mem_cons.mp h1 with z | z
      · rw [z]; split <;> simp
      · simp [z]
    · have h0 := h2 _ (.head _)
      rcases List.mem_cons.mp hx with rfl | hx
      · split at h0 <;> omega
      · rcases List.mem_cons.mp hx with rfl | hx
        · split at h0 <;> omega
        · exact h2 x (.tail _ hx)
theorem intsOf_map : ∀ l : List Int, intsOf (l.map D.int) = some l
  | [] => rfl
  | i :: l => by simp [intsOf, intsOf_map l]
theorem minL {l : List Int} (h : l ≠ []) : ∃ m, opBi .min [.lst (l.map D.int)] = some (.int m) ∧ m ∈ l ∧ ∀ x ∈ l, m ≤ x := by
  cases l with
  | nil => exact absurd rfl h
  | cons i r =>
    refine ⟨_, ?_, min_spec r i⟩
    show (intsOf ((i :: r).map D.int)).bind (fun ns => (minI ns).map D.int) = _
    rw [intsOf_map]
    rfl
theorem maxL {l : List Int} (h : l ≠ []) : ∃ m, opBi .max [.lst (l.map D.int)] = some (.int m) ∧ m ∈ l ∧ ∀ x ∈ l, x ≤ m := by
  cases l with
  | nil => exact absurd rfl h
  | cons i r =>
    refine ⟨_, ?_, max_spec r i⟩
    show (intsOf ((i :: r).map D.int)).bind (fun ns => (maxI ns).map D.int) = _
    rw [intsOf_map]
    rfl
theorem idx4 {a b c d : D} {i : Int} (h0 : 0 ≤ i) (h1 : i < 4) : ∃ z, opIdx (.lst [a, b, c, d]) (.int i) = some z ∧ (z = a ∨ z = b ∨ z = c ∨ z = d) := by
  have : i = 0 ∨ i = 1 ∨ i = 2 ∨ i = 3 := by omega
  rcases this with rfl | rfl | rfl | rfl
  · exact ⟨a, rfl, .inl rfl⟩
  · exact ⟨b, rfl, .inr (.inl rfl)⟩
  · exact ⟨c, rfl, .inr (.inr (.inl rfl))⟩
  · exact ⟨d, rfl, .inr (.inr (.inr rfl))⟩
theorem mapL_ok {S : Type} {f : D → M S D} {g : D → D} {s : S} : ∀ {l : List D}, (∀ d ∈ l, f d s = .ok (g d) s) → mapL f l s = .ok (l.map g) s
  | [], _ => rfl
  | d :: ds, h => by
    have r := mapL_ok (l := ds) fun x m => h x (.tail _ m)
    unfold mapL
    rw [bind_def, h d (.head _)]
    dsimp only
    rw [bind_def, r]
    rfl
end Pv
end
section
set_option maxHeartbeats 1000000
namespace Pv
open PySem PySem.Spec PyProof.Rows L2
/-! ### rules, conditions, values -/
abbrev Rn := Option Int × Option Int
abbrev Cn := Str × Rn
def dG (r : Rn) : D := .tup [dB r.1, dB r.2]
def dC (c : Cn) : D := .tup [.str c.1, dG c.2]
inductive Rul where
  | set (t : Str) (r : Rn) (cs : List Cn)
  | step (t x : Str) (f a : Int) (r : Rn) (cs : List Cn)
def Rul.cs : Rul → List Cn
  | .set _ _ cs => cs
  | .step _ _ _ _ _ cs => cs
def Rul.ti : Rul → Str
  | .set t _ _ => t
  | .step t _ _ _ _ _ => t
def Rul.rn : Rul → Rn
  | .set _ r _ => r
  | .step _ _ _ _ r _ => r
def Rul.isSet : Rul → Bool
  | .set _ _ _ => true
  | .step _ _ _ _ _ _ => false
def Rul.nms : Rul → List Str
  | .set t _ cs => t :: cs.map (·.1)
  | .step t x _ _ _ cs => t :: x :: cs.map (·.1)
def dU : Rul → D
  | .set t r cs => .tup [.str "set", .str t, dG r, .tup (cs.map dC)]
  | .step t x f a r cs => .tup [.str "step", .str t, .str x, .int f, .int a, dG r, .tup (cs.map dC)]
abbrev Mv := Int × Option Int
def dM (m : Mv) : D := .tup [.int m.1, dB m.2]
abbrev Hf := Str → Option Int
def hK (ks : List Str) (h : Hf) : List (Key × D) := ks.map fun k => (.inr k, dB (h k))
def hD (ks : List Str) (h : Hf) : D := .dct (hK ks h)
def upd (h : Hf) (k : Str) (v : Option Int) : Hf := fun x => if x = k then v else h x
theorem valD_h {ks : List Str} {h : Hf} {k : Str} (m : k ∈ ks) : valD (hK ks h) (.inr k) = some (dB (h k)) := by
  unfold valD hK
  induction ks with
  | nil => cases m
  | cons a ks ih =>
    rw [List.map_cons, List.find?_cons]
    by_cases e : a = k
    · subst e; simp
    · have : ¬ (Sum.inr a : Key) = .inr k := fun z => e (Sum.inr.inj z)
      simp only [this, decide_false]
      exact ih ((List.mem_cons.mp m).resolve_left fun z => e z.symm)
theorem idx_h {ks : List Str} {h : Hf} {k : Str} (m : k ∈ ks) : opIdx (hD ks h) (.str k) = some (dB (h k)) := by
  show (keyOf (.str k)).bind (valD (hK ks h)) = _
  exact valD_h m
theorem putD_h {ks : List Str} {h : Hf} {k : Str} {v : Option Int} (m : k ∈ ks) : putD (hK ks h) (.inr k) (dB v) = hK ks (upd h k v) := by
  unfold putD hK
  have : ((ks.map fun k => ((.inr k : Key), dB (h k))).any fun kv => decide (kv.1 = .inr k)) = true := by
    rw [List.any_map, List.any_eq_true]
    exact ⟨k, m, by simp⟩
  rw [if_pos this, List.map_map]
  congr 1
  funext a
  by_cases e : a = k
  · subst e; simp [upd]
  · have : ¬ (Sum.inr a : Key) = .inr k := fun z => e (Sum.inr.inj z)
    simp [upd, e, this]
/-- within a range that is there -/
def ins (r : Rn) (v : Option Int) : Bool := match v with
  | none => false
  | some i => (match r.1 with | none => true | some a => decide (a ≤ i)) && (match r.2 with | none => true | some b => decide (i ≤ b))
/-- what a rule gives here -/
def giv (u : Rul) (h : Hf) (v : Option Int) : Option Int :=
  if (u.cs.all fun c => ins c.2 (h c.1)) = false then none else match u with
  | .set _ r _ => if ins r v then v else none
  | .step _ x f a r _ => if v ≠ none ∨ ins r (h x) = false then none else (h x).map fun i => f * i + a
def nxt (us : List Rul) (h : Hf) (m : Mv) : Option Int := if 0 ≤ m.1 ∧ m.1 < us.length then match us[m.1.toNat]? with
  | some u => giv u h m.2
  | none => none else none
def tiOf (us : List Rul) (n : Int) : Str := match us[n.toNat]? with
  | some u => u.ti
  | none => ""
/-- how many moves can be made, and the values then -/
def ply (us : List Rul) : Hf → List Mv → Nat × Hf
  | h, [] => (0, h)
  | h, m :: ms => match nxt us h m with
    | none => (0, h)
    | some v => let r := ply us (upd h (tiOf us m.1) (some v)) ms; (r.1 + 1, r.2)
def runs (us : List Rul) (ms : List Mv) : Bool := (ply us (fun _ => none) ms).1 == ms.length
theorem atI_rules {us : List Rul} {n : Int} (h : 0 ≤ n ∧ n < us.length) : ∃ u, us[n.toNat]? = some u ∧ atI (us.map dU) n = some (dU u) := by
  have l : n.toNat < us.length := by omega
  obtain ⟨u, hu⟩ : ∃ u, us[n.toNat]? = some u := ⟨us[n.toNat], List.getElem?_eq_getElem l⟩
  refine ⟨u, hu, ?_⟩
  have e : us[n.toNat] = u := by rw [List.getElem?_eq_getElem l] at hu; exact Option.some.inj hu
  unfold atI ixN
  simp [List.length_map, h.1, h.2, hu, e]
/-! ### comprehensions -/
theorem filtL_map {S α : Type} {p : D → M S Bool} {f : D → M S D} {s : S} {φ : α → D} {q : α → Bool} {g : α → D} : ∀ {L : List α}, (∀ a ∈ L, p (φ a) s = .ok (q a) s ∧ (q a = true → f (φ a) s = .ok (g a) s)) → filtL p f (L.map φ) s = .ok ((L.filter q).map g) s
  | [], _ => rfl
  | a :: as, h => by
    have r := filtL_map (L := as) fun x m => h x (.tail _ m)
    obtain ⟨h1, h2⟩ := h a (.head _)
    rw [List.map_cons]
    unfold filtL
    rw [bind_def, h1]
    dsimp only
    cases e : q a with
    | true =>
      rw [if_pos rfl, bind_def, h2 e]
      dsimp only
      rw [bind_def, r, List.filter_cons_of_pos e]
      rfl
    | false =>
      rw [if_neg (by decide), List.filter_cons_of_neg (by rw [e]; decide)]
      exact r
theorem mapL_map {S α : Type} {f : D → M S D} {s : S} {φ : α → D} {g : α → D} : ∀ {L : List α}, (∀ a ∈ L, f (φ a) s = .ok (g a) s) → mapL f (L.map φ) s = .ok (L.map g) s
  | [], _ => rfl
  | a :: as, h => by
    have r := mapL_map (L := as) fun x m => h x (.tail _ m)
    rw [List.map_cons]
    unfold mapL
    rw [bind_def, h a (.head _)]
    dsimp only
    rw [bind_def, r]
    rfl
section
variable {S α : Type} {Γ : Gm S} {env : IEnv} {s : S} {src c body : IE} {X : D} {φ : α → D} {L : List α} {q : α → Bool} {g : α → D}
theorem lcg_ev {tg : Tg} (es : ev Γ src env s = .ok X s) (hs : seqOf X = some (L.map φ)) (ok : okSlots env tg.slots = true)
    (h : ∀ a ∈ L, ∃ env', bindT tg (φ a) env = some env' ∧ (ev Γ c env' >>= truth) s = .ok (q a) s ∧ (q a = true → ev Γ body env' s = .ok (g a) s)) : ev Γ (.lcg tg src c body) env s = .ok (.lst ((L.filter q).map g)) s := by
  unfold ev
  rw [bind_def, es]
  dsimp only
  rw [bind_def, hs]
  show (if okSlots env tg.slots = true then (calm (filtL (fun d => onT tg d env fun e => ev Γ c e >>= truth) (fun d => onT tg d env fun e => ev Γ body e) (L.map φ)) >>= fun r => (pure (.lst r) : M S D)) else bad) s = _
  rw [if_pos ok, bind_def]
  unfold calm
  rw [filtL_map (q := q) (g := g)]
  · rfl
  · intro a m
    obtain ⟨e, h1, h2, h3⟩ := h a m
    unfold onT
    rw [h1]
    exact ⟨h2, h3⟩
theorem lc_ev {i : Nat} (es : ev Γ src env s = .ok X s) (hs : seqOf X = some (L.map φ)) (ok : okSlot env i = true)
    (h : ∀ a ∈ L, ev Γ body (put env i (φ a) .frz) s = .ok (g a) s) : ev Γ (.lc i src body) env s = .ok (.lst (L.map g)) s := by
  unfold ev
  rw [bind_def, es]
  dsimp only
  rw [bind_def, hs]
  show (if okSlot env i = true then (calm (mapL (fun d => ev Γ body (put env i d .frz)) (L.map φ)) >>= fun r => (pure (.lst r) : M S D)) else bad) s = _
  rw [if_pos ok, bind_def]
  unfold calm
  rw [mapL_map (g := g) h]
  rfl
end
theorem boolsOf_map {α : Type} (f : α → Bool) : ∀ L : List α, boolsOf (L.map fun a => D.bl (f a)) = some (L.map f)
  | [] => rfl
  | a :: L => by simp [boolsOf, boolsOf_map f L]
theorem all_bl {α : Type} (f : α → Bool) (L : List α) : opBi .all [.lst (L.map fun a => D.bl (f a))] = some (.bl (L.all f)) := by
  show (boolsOf _).map _ = _
  rw [boolsOf_map]
  simp [List.all_map]
theorem seq_tup {α : Type} {φ : α → D} {L : List α} (h : L.length ≤ sizeLine) : seqOf (.tup (L.map φ)) = some (L.map φ) := by
  show (if _ then _ else _) = _
  rw [if_pos (by rw [List.length_map]; exact h)]
theorem inD_str (i : Str) (l : List Str) : inD (.str i) (l.map D.str) = some (decide (i ∈ l)) := by
  unfold inD
  have h : (flatD (.str i) && (l.map D.str).all flatD) = true := by
    rw [Bool.and_eq_true]
    exact ⟨rfl, List.all_eq_true.mpr fun d m => by obtain ⟨j, _, rfl⟩ := List.mem_map.mp m; rfl⟩
  have e : ∀ l : List Str, inV (toV (.str i)) ((l.map D.str).map toV) = decide (i ∈ l) := fun l => by
    induction l with
    | nil => rfl
    | cons j l ih =>
      show (eqV (.str j) (.str i) || inV (toV (.str i)) ((l.map D.str).map toV)) = _
      rw [ih]
      have : eqV (.str j) (.str i) = decide (i = j) := by
        by_cases h : i = j
        · subst h; simp [eqV]
        · have h2 : ¬ j = i := fun z => h z.symm
          simp [eqV, h, h2]
      rw [this]
      by_cases h : i = j <;> simp [h]
  rw [if_pos h, e]
def okU (ks : List Str) (u : Rul) : Prop := (∀ n ∈ u.nms, n ∈ ks) ∧ u.cs.length ≤ 100 ∧ (match u with | .step _ _ f _ _ _ => f.natAbs < 2 ^ 64 | _ => True)
theorem okU.c {ks : List Str} {u : Rul} (h : okU ks u) {c : Cn} (m : c ∈ u.cs) : c.1 ∈ ks := by
  refine h.1 _ ?_
  cases u with
  | set t r cs => exact .tail _ (List.mem_map_of_mem (f := fun c : Cn => c.1) m)
  | step t x f a r cs => exact .tail _ (.tail _ (List.mem_map_of_mem (f := fun c : Cn => c.1) m))
theorem cs_seq {ks : List Str} {u : Rul} (h : okU ks u) : seqOf (.tup (u.cs.map dC)) = some (u.cs.map dC) := seq_tup (Nat.le_trans h.2.1 (by decide))
theorem idx_cs (u : Rul) : opIdx (dU u) (.int (-1)) = some (.tup (u.cs.map dC)) := by cases u <;> rfl
theorem idx_kind (u : Rul) : opIdx (dU u) (.int 0) = some (.str (if u.isSet then "set" else "step")) := by cases u <;> rfl
theorem eqS (a b : Str) : opCmp .Eq (.str a) (.str b) = some (decide (a = b)) := by simp [opCmp]
theorem neSS (a b : Str) : opCmp .NotEq (.str a) (.str b) = some (!decide (a = b)) := by simp [opCmp]
theorem isNB (x : Option Int) : opCmp .IsNot (dB x) .non = some (!decide (x = none)) := by cases x <;> rfl
theorem isB0 (x : Option Int) : opCmp .Is (dB x) .non = some (decide (x = none)) := by cases x <;> rfl
theorem leI (a b : Int) : opCmp .LtE (.int a) (.int b) = some (decide (a ≤ b)) := rfl
theorem ltI' (a b : Int) : opCmp .Lt (.int a) (.int b) = some (decide (a < b)) := rfl
theorem filt_none {α : Type} {p : α → Bool} : ∀ {L : List α}, decide ((L.filter fun a => !p a).map (fun _ => (1 : Int)) = []) = L.all p
  | [] => rfl
  | a :: L => by
    have r := filt_none (p := p) (L := L)
    cases h : p a with
    | true => simp only [List.filter_cons, h, Bool.not_true, List.all_cons, Bool.true_and]; simpa using r
    | false => simp [List.filter_cons, h]
section
variable {S : Type} {Γ : Gm S} {N : Nat} {env : IEnv} {s s1 s2 : S}
theorem ev_not {a : IE} {b : Bool} (h : (ev Γ a env >>= truth) s = .ok b s1) : ev Γ (.not a) env s = .ok (.bl (!b)) s1 := by
  have e : ev Γ (.not a) env s = ((ev Γ a env >>= truth) >>= fun b => (pure (.bl (!b)) : M S D)) s := by
    conv => lhs; unfold ev
  rw [e, bind_def, h]
  rfl
theorem tr_bl {a : IE} {b : Bool} (h : ev Γ a env s = .ok (.bl b) s1) : (ev Γ a env >>= truth) s = .ok b s1 := by
  rw [bind_def, h]
  rfl
theorem ev_bi1 {a : IE} {f : Bi} {x y : D} (h : ev Γ a env s = .ok x s1) (h2 : opBi f [x] = some y) : ev Γ (.bi f [a]) env s = .ok y s1 := by
  have e : ev Γ (.bi f [a]) env s = (ev Γ a env >>= fun d => opt (opBi f [d])) s := by
    conv => lhs; unfold ev evs evs
    simp
  rw [e, bind_def, h]
  dsimp only
  rw [h2]
  rfl
theorem ex_ite {c : IE} {a b : List IS} {t : Bool} (h : (ev Γ c env >>= truth) s = .ok t s1) : ex Γ N (.ite c a b) env s = (if t = true then exs Γ N a env else exs Γ N b env) s1 := by
  have e : ex Γ N (.ite c a b) env s = ((ev Γ c env >>= truth) >>= fun t => if t = true then exs Γ N a env else exs Γ N b env) s := by
    conv => lhs; unfold ex
  rw [e, bind_def, h]
theorem exs_nil : exs Γ N [] env s = .ok (.nx env) s := by unfold exs; rfl
theorem ex_ret {e : IE} {d : D} (h : ev Γ e env s = .ok d s1) : ex Γ N (.ret e) env s = .ok (.ret d (decide (md e = .fr))) s1 := by
  unfold ex
  rw [bind_def, h]
  rfl
theorem exsN {i : IS} {is : List IS} {e1 : IEnv} (h : ex Γ N i env s = .ok (.nx e1) s1) : exs Γ N (i :: is) env s = exs Γ N is e1 s1 := by
  conv => lhs; unfold exs
  rw [bind_def, h]
theorem exsR {i : IS} {is : List IS} {d : D} {b : Bool} (h : ex Γ N i env s = .ok (.ret d b) s1) : exs Γ N (i :: is) env s = .ok (.ret d b) s1 := by
  conv => lhs; unfold exs
  rw [bind_def, h]
  rfl
theorem exs_ret1 {e : IE} {is : List IS} {d : D} (h : ev Γ e env s = .ok d s1) : exs Γ N (.ret e :: is) env s = .ok (.ret d (decide (md e = .fr))) s1 := exsR (ex_ret h)
end
/-! ### dicts made anew -/
def h0 : Hf := fun _ => none
theorem putD_new {as : List Str} {k : Str} (m : k ∉ as) : putD (hK as h0) (.inr k) .non = hK (as ++ [k]) h0 := by
  unfold putD hK
  have : ¬ ((as.map fun k => ((.inr k : Key), dB (h0 k))).any fun kv => decide (kv.1 = .inr k)) = true := by
    rw [List.any_map, List.any_eq_true]
    rintro ⟨x, hx, e⟩
    simp at e
    exact m (e ▸ hx)
  rw [if_neg this, List.map_append]
  rfl
theorem pairs_h : ∀ {ws as : List Str}, (as ++ ws).Nodup → pairsD (ws.map fun w => .tup [.str w, .non]) (hK as h0) = some (hK (as ++ ws) h0)
  | [], as, _ => by rw [List.append_nil]; rfl
  | w :: ws, as, h => by
    have hn : w ∉ as := fun m => by
      rw [List.nodup_append] at h
      exact h.2.2 w m w (.head _) rfl
    show (keyOf (.str w)).bind (fun k => pairsD (ws.map fun w => .tup [.str w, .non]) (putD (hK as h0) k .non)) = _
    show pairsD (ws.map fun w => .tup [.str w, .non]) (putD (hK as h0) (.inr w) .non) = _
    have e : as ++ w :: ws = (as ++ [w]) ++ ws := by simp
    rw [putD_new hn, e]
    exact pairs_h (by rw [← e]; exact h)
theorem dict_h {ws : List Str} (h : ws.Nodup) : opBi .dict [.lst (ws.map fun w => .tup [.str w, .non])] = some (hD ws h0) := by
  have r := pairs_h (ws := ws) (as := []) (by simpa using h)
  show (pairsD _ []).map D.dct = _
  have e : hK [] h0 = [] := rfl
  rw [e] at r
  rw [r]
  rfl
theorem dcL_h {S : Type} {f : D → M S (D × D)} {s : S} : ∀ {ws as : List Str}, (∀ w ∈ ws, f (.str w) s = .ok (.str w, .non) s) → (as ++ ws).Nodup → dcL f (ws.map D.str) (hK as h0) s = .ok (hK (as ++ ws) h0) s
  | [], as, _, _ => by rw [List.append_nil]; rfl
  | w :: ws, as, hf, h => by
    have hn : w ∉ as := fun m => by
      rw [List.nodup_append] at h
      exact h.2.2 w m w (.head _) rfl
    have e : as ++ w :: ws = (as ++ [w]) ++ ws := by simp
    have r := dcL_h (ws := ws) (as := as ++ [w]) (fun x m => hf x (.tail _ m)) (by rw [← e]; exact h)
    rw [List.map_cons]
    unfold dcL
    rw [bind_def, hf w (.head _)]
    show dcL f (ws.map D.str) (putD (hK as h0) (.inr w) .non) s = _
    rw [putD_new hn, r, e]
theorem forD_nx {S : Type} {f : D → IEnv → M S Out} {d : D} {ds : List D} {e e1 : IEnv} {s s1 : S} (h : f d e s = .ok (.nx e1) s1) : forD f (d :: ds) e s = forD f ds e1 s1 := by
  conv => lhs; unfold forD
  rw [bind_def, h]
theorem forD_ret {S : Type} {f : D → IEnv → M S Out} {d v : D} {b : Bool} {ds : List D} {e : IEnv} {s s1 : S} (h : f d e s = .ok (.ret v b) s1) : forD f (d :: ds) e s = .ok (.ret v b) s1 := by
  conv => lhs; unfold forD
  rw [bind_def, h]
  rfl
end Pv
end
section
set_option maxHeartbeats 1000000
namespace Pv
open PySem PySem.Spec PyProof.Rows L2
/-! ### lists -/
theorem perm_erase {α : Type} : ∀ (l : List α) (n : Nat) (h : n < l.length), (l[n] :: l.eraseIdx n).Perm l
  | [], n, h => by cases h
  | a :: l, 0, h => List.Perm.refl _
  | a :: l, n + 1, h => by
    have r := perm_erase l n (Nat.lt_of_succ_lt_succ h)
    show (l[n]'(Nat.lt_of_succ_lt_succ h) :: a :: l.eraseIdx n).Perm (a :: l)
    exact (List.Perm.swap _ _ _).trans (r.cons a)
theorem map_erase {α β : Type} (f : α → β) : ∀ (l : List α) (n : Nat), (l.map f).eraseIdx n = (l.eraseIdx n).map f
  | [], n => rfl
  | a :: l, 0 => rfl
  | a :: l, n + 1 => by
    show f a :: (l.map f).eraseIdx n = f a :: (l.eraseIdx n).map f
    rw [map_erase f l n]
theorem cutD_map {α β : Type} (f : α → β) (l : List α) (lo hi : Option Int) : cutD (l.map f) lo hi = (cutD l lo hi).map f := by
  unfold cutD
  rw [List.length_map, List.map_take, List.map_drop]
theorem cutD_len {α : Type} (l : List α) (lo hi : Option Int) : (cutD l lo hi).length ≤ l.length := by
  unfold cutD
  rw [List.length_take, List.length_drop]
  omega
theorem cutD_sub {α : Type} {l : List α} {lo hi : Option Int} {x : α} (h : x ∈ cutD l lo hi) : x ∈ l := List.mem_of_mem_drop (List.mem_of_mem_take h)
theorem sl_map {α : Type} (f : α → D) (l : List α) (lo hi : Option Int) : opSl (.lst (l.map f)) lo hi = some (.lst ((cutD l lo hi).map f)) := by
  show some (D.lst (cutD (l.map f) lo hi)) = _
  rw [cutD_map]
theorem add_map {α : Type} (f : α → D) (l m : List α) (h : l.length + m.length ≤ sizeLine) : opBin .Add (.lst (l.map f)) (.lst (m.map f)) = some (.lst ((l ++ m).map f)) := by
  show (if _ then _ else _) = _
  rw [if_pos (by rw [List.length_map, List.length_map]; exact h), List.map_append]
theorem sz200 {n : Nat} (h : n ≤ 1000) : n ≤ sizeLine := Nat.le_trans h (by decide)
theorem sz200' {n : Nat} (h : n ≤ 1000) : n < sizeLine := Nat.lt_of_le_of_lt h (by decide)
/-! ### statements -/
section
variable {S : Type} {Γ : Gm S} {N i : Nat} {src hi : IE} {body : List IS} {env : IEnv} {s s1 : S} {X : D} {L : List D} {n : Int} {r : Res S Out}
theorem ex_forL {e2 : IEnv} {s2 : S} (h : ev Γ src env s = .ok X s1) (hs : seqOf X = some L) (hf : forD (fun d e => exs Γ N body (put e i d .frz)) L env s1 = .ok (.nx e2) s2) : ex Γ N (.forL i src none body) env s = .ok (.nx e2) s2 := by
  unfold ex
  rw [bind_def, h]
  dsimp only
  rw [bind_def, hs]
  show (forD _ L env >>= fun o => opt (holdOff env none o)) s1 = _
  rw [bind_def, hf]
  rfl
theorem ex_forLr {v : D} {f : Bool} {s2 : S} (h : ev Γ src env s = .ok X s1) (hs : seqOf X = some L) (hf : forD (fun d e => exs Γ N body (put e i d .frz)) L env s1 = .ok (.ret v f) s2) : ex Γ N (.forL i src none body) env s = .ok (.ret v f) s2 := by
  unfold ex
  rw [bind_def, h]
  dsimp only
  rw [bind_def, hs]
  show (forD _ L env >>= fun o => opt (holdOff env none o)) s1 = _
  rw [bind_def, hf]
  rfl
theorem ex_forR (h : ev Γ hi env s = .ok (.int n) s1) (h0 : -1000 ≤ n) (h1 : n < 2 ^ 62) (hf : forD (fun d e => exs Γ N body (put e i d .frz)) (rngL 0 n) env s1 = r) : ex Γ N (.forR i none hi body) env s = r := by
  have c : -(2 ^ 62) ≤ (0 : Int) ∧ (0 : Int) < 2 ^ 62 ∧ -(2 ^ 62) ≤ n ∧ n < 2 ^ 62 := by omega
  unfold ex
  simp only [bind_def, pure_s, h]
  rw [if_pos c]
  exact hf
theorem ex_forG {tg : Tg} (hl : lts env src = true) (h : ev Γ src env s = .ok X s1) (hs : seqOf X = some L) (hf : forD (fun d e => onT tg d e fun e => exs Γ N body e) L env s1 = r) : ex Γ N (.forG tg src body) env s = r := by
  unfold ex
  rw [if_pos hl]
  show (ev Γ src env >>= fun x => opt (seqOf x) >>= fun l => forD _ l _) s = _
  rw [bind_def, h]
  dsimp only
  rw [bind_def, hs]
  exact hf
theorem ex_setO {a : IE} {l : List D} (h1 : ev Γ a env s = .ok (.lst l) s1) : ex Γ N (.set i true a) env s = .ok (.nx (put env i (.lst l) .own)) s1 := by
  unfold ex
  rw [bind_def, h1]
  rfl
theorem ex_setD {a : IE} {l : List (Key × D)} (h1 : ev Γ a env s = .ok (.dct l) s1) : ex Γ N (.set i true a) env s = .ok (.nx (put env i (.dct l) .own)) s1 := by
  unfold ex
  rw [bind_def, h1]
  rfl
theorem ev_idx {a b : IE} {x y z : D} {s2 : S} (h1 : ev Γ a env s = .ok x s1) (h2 : ev Γ b env s1 = .ok y s2) (h3 : opIdx x y = some z) : ev Γ (.idx a b) env s = .ok z s2 := by
  unfold ev
  rw [bind_def, h1]
  dsimp only
  rw [bind_def, h2]
  dsimp only
  rw [h3]
  rfl
theorem callF_ok {f : Nat} {F : List D → M S D} {ds : List D} {d : D} (hF : Γ.fns[f]? = some F) (h : F ds s = .ok d s1) : callF Γ f ds s = .ok d s1 := by
  unfold callF
  rw [hF]
  exact h
theorem ev_prp {f : Nat} {fr : Bool} {cl : Str} {a : IE} {F : List D → M S D} {x d : D} {s2 : S} (h1 : ev Γ a env s = .ok x s1) (hi : insC cl x = true) (hF : Γ.fns[f]? = some F) (h : F [x] s1 = .ok d s2) : ev Γ (.prp f fr cl a) env s = .ok d s2 := by
  unfold ev
  rw [bind_def, h1]
  dsimp only
  rw [if_pos hi]
  exact callF_ok hF h
theorem ev_lenO {f : Nat} {cl : Str} {a : IE} {F : List D → M S D} {x : D} {s2 : S} {n : Int} (h1 : ev Γ a env s = .ok x s1) (hi : insC cl x = true) (hF : Γ.fns[f]? = some F) (h : F [x] s1 = .ok (.int n) s2) (hn : 0 ≤ n ∧ n < 2 ^ 63) : ev Γ (.lenO f cl a) env s = .ok (.int n) s2 := by
  unfold ev
  rw [bind_def, h1]
  dsimp only
  rw [if_pos hi, bind_def, callF_ok hF h]
  dsimp only
  rw [if_pos hn]
  rfl
theorem ev_eqO {f : Nat} {cl : Str} {a b : IE} {F : List D → M S D} {x y : D} {s2 s3 : S} {z : Bool} (h1 : ev Γ a env s = .ok x s1) (h2 : ev Γ b env s1 = .ok y s2) (hi : insC cl x = true ∧ insC cl y = true) (hF : Γ.fns[f]? = some F) (h : F [x, y] s2 = .ok (.bl z) s3) : ev Γ (.eqO f cl a b) env s = .ok (.bl z) s3 := by
  unfold ev
  rw [bind_def, h1]
  dsimp only
  rw [bind_def, h2]
  dsimp only
  rw [if_pos hi, bind_def, bind_def, callF_ok hF h]
  rfl
theorem evs_nil : evs Γ [] env s = .ok [] s := by unfold evs; rfl
theorem evs_cons {e : IE} {es : List IE} {d : D} {ds : List D} {s2 : S} (h1 : ev Γ e env s = .ok d s1) (h2 : evs Γ es env s1 = .ok ds s2) : evs Γ (e :: es) env s = .ok (d :: ds) s2 := by
  unfold evs
  rw [bind_def, h1]
  dsimp only
  rw [bind_def, h2]
  rfl
theorem ev_lst {es : List IE} {ds : List D} (h : evs Γ es env s = .ok ds s1) : ev Γ (.lst es) env s = .ok (.lst ds) s1 := by
  unfold ev
  rw [bind_def, h]
  rfl
theorem ev_tup {es : List IE} {ds : List D} (h : evs Γ es env s = .ok ds s1) : ev Γ (.tup es) env s = .ok (.tup ds) s1 := by
  unfold ev
  rw [bind_def, h]
  rfl
theorem ev_call {f : Nat} {fr : Bool} {es : List IE} {F : List D → M S D} {ds : List D} {d : D} {s2 : S} (h : evs Γ es env s = .ok ds s1) (hF : Γ.fns[f]? = some F) (h2 : F ds s1 = .ok d s2) : ev Γ (.call f fr es) env s = .ok d s2 := by
  unfold ev
  rw [bind_def, h]
  exact callF_ok hF h2
theorem ev_ctor {f : Nat} {es : List IE} {F : List D → M S D} {ds : List D} {d : D} {s2 : S} (h : evs Γ es env s = .ok ds s1) (hF : Γ.fns[f]? = some F) (h2 : F ds s1 = .ok d s2) : ev Γ (.ctor f es) env s = .ok d s2 := by
  unfold ev
  rw [bind_def, h]
  exact callF_ok hF h2
theorem ev_mth {f : Nat} {fr : Bool} {cl m : Str} {a : IE} {es : List IE} {F : List D → M S D} {x : D} {ds : List D} {d : D} {s2 s3 : S} (h1 : ev Γ a env s = .ok x s1) (hi : insM cl m x = true) (h : evs Γ es env s1 = .ok ds s2) (hF : Γ.fns[f]? = some F) (h2 : F (x :: ds) s2 = .ok d s3) : ev Γ (.mth f fr cl m a es) env s = .ok d s3 := by
  unfold ev
  rw [bind_def, h1]
  dsimp only
  rw [if_pos hi, bind_def, h]
  exact callF_ok hF h2
theorem ev_mthK {f : Nat} {fr : Bool} {cl m : Str} {a : IE} {ks : List IE} {perm : List Nat} {F : List D → M S D} {x : D} {kd : List D} {d : D} {s2 s3 : S} (h1 : ev Γ a env s = .ok x s1) (hi : insM cl m x = true) (h : evs Γ ks env s1 = .ok kd s2) (hF : Γ.fns[f]? = some F) (h2 : F (x :: perm.filterMap fun i => kd[i]?) s2 = .ok d s3) : ev Γ (.mthK f fr cl m a ks perm) env s = .ok d s3 := by
  unfold ev
  rw [bind_def, h1]
  dsimp only
  rw [if_pos hi, bind_def, h]
  exact callF_ok hF h2
theorem ev_var {i : Nat} {d : D} (h : getI env i = some (d, .frz)) : ev Γ (.var i) env s = .ok d s := by
  unfold ev
  rw [h]
  rfl
theorem ev_bor {i : Nat} {d : D} {f : Fl} (h : getI env i = some (d, f)) : ev Γ (.bor i) env s = .ok d s := by
  unfold ev
  rw [h]
  rfl
theorem ev_cst {d : D} : ev Γ (.cst d) env s = .ok d s := by unfold ev; rfl
theorem ev_or {a b : IE} {s2 : S} {x : Bool} {d : D} (h1 : ev Γ a env s = .ok (.bl x) s1) (h2 : x = false → ev Γ b env s1 = .ok d s2) (hx : x = true → d = .bl true ∧ s2 = s1) : ev Γ (.or a b) env s = .ok d s2 := by
  unfold ev
  rw [bind_def, bind_def, h1]
  cases x with
  | true => obtain ⟨rfl, rfl⟩ := hx rfl; rfl
  | false => exact h2 rfl
theorem ex_par2 {i j : Nat} {a b : IE} {x y : D} {s2 : S} (h1 : ev Γ a env s = .ok x s1) (h2 : ev Γ b env s1 = .ok y s2) : ex Γ N (.par [i, j] [a, b]) env s = .ok (.nx (put (put env i x .frz) j y .frz)) s2 := by
  unfold ex
  rw [bind_def, evs_cons h1 (evs_cons h2 evs_nil)]
  rfl
theorem ev_bin {o : Operator} {a b : IE} {x y z : D} {s2 : S} (h1 : ev Γ a env s = .ok x s1) (h2 : ev Γ b env s1 = .ok y s2) (h3 : opBin o x y = some z) : ev Γ (.bin o a b) env s = .ok z s2 := by
  unfold ev
  rw [bind_def, h1]
  dsimp only
  rw [bind_def, h2]
  dsimp only
  rw [h3]
  rfl
end
/-! ### equality -/
theorem eqv_self {d : D} (h : okEq d = true) : PyData.eqv (toP d) (toP d) = true := by
  unfold okEq at h
  rw [Bool.and_eq_true] at h
  exact PySem.SeqAt.eqv_refl _ (canLay_of_pure d h.1)
theorem ne_self {d : D} (h : okEq d = true) : opCmp .NotEq d d = some false := by
  cases d
  case str z => simp [opCmp]
  all_goals
    rw [cmpNe h h, eqv_self h]
    rfl
theorem ne_bl (b : Bool) : opCmp .NotEq (.bl b) (.bl b) = some false := ne_self (okN_bl.eq (by omega))
theorem eq_nil {L : List D} (h : okEq (.lst L) = true) : opCmp .Eq (.lst L) (.lst []) = some (decide (L = [])) := by
  have h0 : okEq (.lst []) = true := by decide
  rw [cmpEq h h0]
  cases L <;> simp [toP, toPs, PyData.eqv, PyData.eqvAll]
theorem ne_nil {L : List D} (h : okEq (.lst L) = true) : opCmp .NotEq (.lst L) (.lst []) = some (!decide (L = [])) := by
  have h0 : okEq (.lst []) = true := by decide
  rw [cmpNe h h0]
  cases L <;> simp [toP, toPs, PyData.eqv, PyData.eqvAll]
theorem okN_B (b : Option Int) : okN 1 (dB b) := by
  cases b with
  | none => exact okN_non
  | some i => exact okN_int
theorem okN_G (r : Rn) : okN 2 (dG r) := okN_tup (forall2 (okN_B _) (okN_B _))
theorem okN_M (m : Mv) : okN 2 (dM m) := okN_tup (forall2 okN_int (okN_B _))
def okS (w : Str) : Prop := okN 1 (.str w)
theorem okN_C {c : Cn} (h : okS c.1) : okN 3 (dC c) := okN_tup (forall2 (okN.mono h (by omega)) (okN_G _))
theorem okN_U {u : Rul} (h1 : okS "set") (h2 : okS "step") (h : ∀ n ∈ u.nms, okS n) : okN 5 (dU u) := by
  have hc : okN 4 (.tup (u.cs.map dC)) := okN_tup fun d m => by
    obtain ⟨c, hc, rfl⟩ := List.mem_map.mp m
    refine okN_C (h _ ?_)
    cases u with
    | set t r cs => exact .tail _ (List.mem_map_of_mem (f := fun c : Cn => c.1) hc)
    | step t x f a r cs => exact .tail _ (.tail _ (List.mem_map_of_mem (f := fun c : Cn => c.1) hc))
  cases u with
  | set t r cs =>
    refine okN_tup fun d m => ?_
    simp only [List.mem_cons, List.not_mem_nil, or_false] at m
    rcases m with rfl | rfl | rfl | rfl
    · exact okN.mono h1 (by omega)
    · exact okN.mono (h t (.head _)) (by omega)
    · exact (okN_G _).mono (by omega)
    · exact hc
  | step t x f a r cs =>
    refine okN_tup fun d m => ?_
    simp only [List.mem_cons, List.not_mem_nil, or_false] at m
    rcases m with rfl | rfl | rfl | rfl | rfl | rfl | rfl
    · exact okN.mono h2 (by omega)
    · exact okN.mono (h t (.head _)) (by omega)
    · exact okN.mono (h x (.tail _ (.head _))) (by omega)
    · exact okN_int.mono (by omega)
    · exact okN_int.mono (by omega)
    · exact (okN_G _).mono (by omega)
    · exact hc
theorem ok_mvs (ms : List Mv) : okEq (.lst (ms.map dM)) = true := okN.eq (okN_lst (n := 2) fun d m => by obtain ⟨i, _, rfl⟩ := List.mem_map.mp m; exact okN_M i)
/-! ### numbers that are no longer than others -/
def smB (b : Option Int) : Prop := ∀ a, b = some a → a.natAbs < 2 ^ 400
def smG (r : Rn) : Prop := smB r.1 ∧ smB r.2
def smU (u : Rul) : Prop := u.cs.length ≤ 2 ∧ (∀ r ∈ u.rn :: u.cs.map (·.2), smG r) ∧ (match u with | .step _ _ f a _ _ => f.natAbs < 2 ^ 400 ∧ a.natAbs < 2 ^ 400 | _ => True)
structure ShS (w : Str) : Prop where
  h : ShB 1 40 (.str w)
theorem shB_B' {b : Option Int} (h : smB b) : ShB 0 200 (dB b) := shB_B h
theorem shB_G {r : Rn} (h : smG r) : ShB 1 407 (dG r) := (shB_tup (forall2 (shB_B' h.1) (shB_B' h.2))).le (by decide) (by show 2 * (200 + 2) + 3 ≤ 407; decide)
theorem shB_C {c : Cn} (h : ShS c.1) (h2 : smG c.2) : ShB 2 821 (dC c) := (shB_tup (forall2 (h.h.le (Nat.le_refl _) (by decide)) (shB_G h2))).le (by decide) (by show 2 * (407 + 2) + 3 ≤ 821; decide)
theorem shB_cs {cs : List Cn} (l : cs.length ≤ 2) (h1 : ∀ c ∈ cs, ShS c.1) (h2 : ∀ c ∈ cs, smG c.2) : ShB 3 1649 (.tup (cs.map dC)) := by
  have r := shB_tup (n := 2) (m := 821) (l := cs.map dC) fun d m => by
    obtain ⟨c, hc, rfl⟩ := List.mem_map.mp m
    exact shB_C (h1 c hc) (h2 c hc)
  refine r.le (by decide) ?_
  rw [List.length_map]
  have : cs.length * (821 + 2) ≤ 2 * (821 + 2) := Nat.mul_le_mul_right _ l
  omega
theorem shB_U {u : Rul} (hs : ShS "set") (ht : ShS "step") (h1 : ∀ n ∈ u.nms, ShS n) (h2 : smU u) : ShB 4 11560 (dU u) := by
  have hc : ∀ c ∈ u.cs, smG c.2 := fun c m => h2.2.1 _ (.tail _ (List.mem_map_of_mem (f := fun c : Cn => c.2) m))
  have hn : ∀ c ∈ u.cs, ShS c.1 := fun c m => by
    refine h1 _ ?_
    cases u with
    | set t r cs => exact .tail _ (List.mem_map_of_mem (f := fun c : Cn => c.1) m)
    | step t x f a r cs => exact .tail _ (.tail _ (List.mem_map_of_mem (f := fun c : Cn => c.1) m))
  have hcs := shB_cs h2.1 hn hc
  have hg := (shB_G (h2.2.1 u.rn (.head _))).le (show 1 ≤ 3 by decide) (show 407 ≤ 1649 by decide)
  have st : ∀ w, ShS w → ShB 3 1649 (.str w) := fun w h => h.h.le (by decide) (by decide)
  cases u with
  | set t r cs =>
    refine (shB_tup (n := 3) (m := 1649) (l := [.str "set", .str t, dG r, .tup (cs.map dC)]) fun d m => ?_).le (by decide) (by show 4 * (1649 + 2) + 3 ≤ 11560; decide)
    simp only [List.mem_cons, List.not_mem_nil, or_false] at m
    rcases m with rfl | rfl | rfl | rfl
    · exact st _ hs
    · exact st _ (h1 _ (.head _))
    · exact hg
    · exact hcs
  | step t x f a r cs =>
    refine (shB_tup (n := 3) (m := 1649) (l := [.str "step", .str t, .str x, .int f, .int a, dG r, .tup (cs.map dC)]) fun d m => ?_).le (by decide) (by show 7 * (1649 + 2) + 3 ≤ 11560; decide)
    simp only [List.mem_cons, List.not_mem_nil, or_false] at m
    rcases m with rfl | rfl | rfl | rfl | rfl | rfl | rfl
    · exact st _ ht
    · exact st _ (h1 _ (.head _))
    · exact st _ (h1 _ (.tail _ (.head _)))
    · exact (shB_i _ h2.2.2.1).le (by decide) (by decide)
    · exact (shB_i _ h2.2.2.2).le (by decide) (by decide)
    · exact hg
    · exact hcs
/-- names and rules and a number -/
def shwD (ks : List Str) (us : List Rul) : D := .lst [.lst (ks.map D.str), .lst (us.map dU), .int us.length]
def shwS (ks : List Str) (us : List Rul) : Str := PyData.shown (toP (shwD ks us))
theorem shB_shw {ks : List Str} {us : List Rul} (hs : ShS "set") (ht : ShS "step") (hk : ∀ k ∈ ks, ShS k) (lk : ks.length ≤ 20) (hn : ∀ u ∈ us, ∀ n ∈ u.nms, ShS n) (h2 : ∀ u ∈ us, smU u) (lu : us.length ≤ 30) : ShB 6 1100000 (shwD ks us) := by
  have a1 : ShB 5 360000 (.lst (ks.map D.str)) := by
    refine (shB_lst (n := 1) (m := 40) (l := ks.map D.str) fun d m => ?_).le (by decide) ?_
    · obtain ⟨k, hk', rfl⟩ := List.mem_map.mp m
      exact (hk k hk').h
    · rw [List.length_map]
      have : ks.length * (40 + 2) ≤ 20 * (40 + 2) := Nat.mul_le_mul_right _ lk
      omega
  have a2 : ShB 5 360000 (.lst (us.map dU)) := by
    refine (shB_lst (n := 4) (m := 11560) (l := us.map dU) fun d m => ?_).le (by decide) ?_
    · obtain ⟨u, hu, rfl⟩ := List.mem_map.mp m
      exact shB_U hs ht (hn u hu) (h2 u hu)
    · rw [List.length_map]
      have : us.length * (11560 + 2) ≤ 30 * (11560 + 2) := Nat.mul_le_mul_right _ lu
      omega
  have a3 : ShB 5 360000 (.int us.length) := (shB_i _ (Nat.lt_of_le_of_lt (show ((us.length : Int)).natAbs ≤ 30 by omega) (by decide))).le (by decide) (by decide)
  exact (shB_lst (forall3 a1 a2 a3)).le (by decide) (by show 3 * (360000 + 2) + 2 ≤ 1100000; decide)
theorem repr_shw {ks : List Str} {us : List Rul} (h : ShB 6 1100000 (shwD ks us)) : opBi .repr [shwD ks us] = some (.str (shwS ks us)) := repr_lst h (by decide) (by decide)
theorem okS_of {z : Str} (h : PyData.strOk z = true) : okN 1 (.str z) := ⟨by simpa [pureD, PyData.canLay0] using h, by simp [toP, PyData.depth]⟩
theorem okN_strs {zs : List Str} (h : ∀ z ∈ zs, PyData.strOk z = true) : okEq (.lst (zs.map D.str)) = true := okN.eq (okN_lst (n := 1) fun d m => by
  obtain ⟨z, hz, rfl⟩ := List.mem_map.mp m
  exact okS_of (h z hz))
theorem eq_self {d : D} (h : okEq d = true) : opCmp .Eq d d = some true := by
  cases d
  case str z => simp [opCmp]
  all_goals
    rw [cmpEq h h, eqv_self h]
theorem srtS_eq {a b : List Str} (p : a.Perm b) : srtS a = srtS b := List.Perm.eq_of_pairwise (fun a b _ _ h1 h2 => leS_anti h1 h2) (srtS_pw a) (srtS_pw b) ((srtS_perm a).trans (p.trans (srtS_perm b).symm))
theorem srtS_srtS (a : List Str) : srtS (srtS a) = srtS a := srtS_eq (srtS_perm a)
theorem srtS_mem {a : List Str} {x : Str} (h : x ∈ srtS a) : x ∈ a := (srtS_perm a).subset h
theorem srtS_len (a : List Str) : (srtS a).length = a.length := (srtS_perm a).length_eq
theorem srtS_nd {a : List Str} (h : a.Nodup) : (srtS a).Nodup := (srtS_perm a).symm.nodup h
theorem enumL_map {α : Type} (f : α → D) : ∀ (L : List α) (k : Nat), enumL k (L.map f) = (L.zipIdx k).map fun p => .tup [.int p.2, f p.1]
  | [], _ => rfl
  | a :: L, k => by
    show D.tup [.int k, f a] :: enumL (k + 1) (L.map f) = _
    rw [enumL_map f L (k + 1)]
    rfl
/-! ### moves -/
theorem ply_snoc {us : List Rul} {m : Mv} {x : Int} : ∀ {ms : List Mv} {h : Hf}, (ply us h ms).1 = ms.length → nxt us (ply us h ms).2 m = some x → ply us h (ms ++ [m]) = (ms.length + 1, upd (ply us h ms).2 (tiOf us m.1) (some x))
  | [], h, _, e => by
    have e : nxt us h m = some x := e
    show ply us h [m] = _
    unfold ply
    rw [e]
    rfl
  | n :: ms, h, l, e => by
    show ply us h (n :: (ms ++ [m])) = _
    unfold ply at l e ⊢
    cases q : nxt us h n with
    | none =>
      rw [q] at l
      cases l
    | some v =>
      rw [q] at l e
      dsimp only at l e ⊢
      have l : (ply us (upd h (tiOf us n.1) (some v)) ms).1 = ms.length := by
        rw [List.length_cons] at l
        omega
      rw [ply_snoc l e]
      rfl
end Pv
end
section
set_option maxHeartbeats 0
namespace Q
open PySem PySem.Spec PyProof.Rows L2 Pv
def top (i : Nat) : Stmt := PySem.Challenge.pw_tightranges_k07_rules_left_out_and_put_i.main.body.getD i (.Pass ⟨0, 0, 0, 0⟩)
def clsAt (s : Stmt) (j : Nat) : Stmt := match s with
  | .ClassDef _ _ _ body .. => body.getD j (.Pass ⟨0, 0, 0, 0⟩)
  | _ => .Pass ⟨0, 0, 0, 0⟩
def ir__law_rng : List IS := [.unp [1, 2] (.tup [(.cst (.int 0)), (.cst (.int 88675123))]), .forL 3 (.slc false true (.var 0) (.cst .non) (.cst (.int 63))) none [.set 4 false (.bi .abs [(.var 3)]), .ite (.cmp .GtE (.var 4) (.bin .Pow (.cst (.int 10)) (.cst (.int 18)))) [.set 1 false (.bin .Add (.bin .Mult (.var 1) (.bin .Pow (.cst (.int 10)) (.cst (.int 60)))) (.bin .Mod (.bi .int [(.var 4)]) (.bin .Pow (.cst (.int 10)) (.cst (.int 60)))))] [], .set 2 false (.bin .Mod (.bi .int [(.bin .Add (.bin .Add (.bin .Mult (.var 2) (.cst (.int 1000003))) (.bin .Mod (.bi .int [(.var 3)]) (.cst (.int 2305843009213693921)))) (.cst (.int 7)))]) (.cst (.int 2305843009213693951)))], .ret (.lst [(.var 1), (.var 2), (.cst (.int 0))])]
def sg__law_rng : Sig := { lend := [false], fr := true }
def d__law_rng : Df (Option Rg) := { x := "_law_rng", st := top 20, ps := ["script"], N := ["script", "digits", "seed", "number", "far"], ir := ir__law_rng, sg := sg__law_rng, F := fun Γ => runF Γ 0 sg__law_rng ⟨5, ir__law_rng⟩ }
def ir__law_words : List IS := [.parO 2 3 true (.lst [(.cst (.str "x")), (.cst (.str "y")), (.cst (.str "ab")), (.cst (.str "jkv")), (.cst (.str "q")), (.cst (.str "lowhere"))]) (.lst []), .forR 4 none (.var 1) [.appPop 3 2 (.call 0 false [(.var 0), (.bi .len [(.bor 2)])])], .frz 3, .ret (.ite (.cmp .Eq (.call 0 false [(.var 0), (.cst (.int 3))]) (.cst (.int 0))) (.lc 5 (.var 3) (.bin .Add (.cst (.str "row")) (.slc false true (.var 5) (.cst .non) (.cst (.int 5))))) (.var 3))]
def sg__law_words : Sig := { lend := [false, false], fr := false }
def d__law_words : Df (Option Rg) := { x := "_law_words", st := top 22, ps := ["rng", "many"], N := ["rng", "many", "left", "some", "turn", "word"], ir := ir__law_words, sg := sg__law_words, F := fun Γ => runF Γ 0 sg__law_words ⟨6, ir__law_words⟩ }
def ir__law_end : List IS := [.ret (.idx (.lst [(.cst .non), (.bin .Sub (.call 0 false [(.var 0), (.cst (.int 9))]) (.cst (.int 4))), (.bin .Sub (.call 0 false [(.var 0), (.cst (.int 199))]) (.cst (.int 99))), (.var 1)]) (.call 0 false [(.var 0), (.cst (.int 4))]))]
def sg__law_end : Sig := { lend := [false, false], fr := false }
def d__law_end : Df (Option Rg) := { x := "_law_end", st := top 23, ps := ["rng", "far"], N := ["rng", "far"], ir := ir__law_end, sg := sg__law_end, F := fun Γ => runF Γ 0 sg__law_end ⟨2, ir__law_end⟩ }
def ir__law_within : List IS := [.par [2, 3] [(.call 3 false [(.var 0), (.bin .Sub (.cst (.int 0)) (.var 1))]), (.call 3 false [(.var 0), (.var 1)])], .ite (.and (.cmp .IsNot (.var 2) (.cst .non)) (.and (.cmp .IsNot (.var 3) (.cst .non)) (.cmp .Gt (.var 2) (.var 3)))) [.ret (.tup [(.var 3), (.var 2)])] [], .ret (.tup [(.var 2), (.var 3)])]
def sg__law_within : Sig := { lend := [false, false], fr := false }
def d__law_within : Df (Option Rg) := { x := "_law_within", st := top 24, ps := ["rng", "far"], N := ["rng", "far", "low", "high"], ir := ir__law_within, sg := sg__law_within, F := fun Γ => runF Γ 0 sg__law_within ⟨4, ir__law_within⟩ }
def ir__law_rule : List IS := [.set 3 true (.lst []), .forR 4 none (.bi .max [(.cst (.int 0)), (.bin .Sub (.call 0 false [(.var 0), (.cst (.int 5))]) (.cst (.int 2)))]) [.app 3 (.tup [(.idx (.var 1) (.call 0 false [(.var 0), (.bi .len [(.var 1)])])), (.call 4 false [(.var 0), (.var 2)])])], .par [5, 6] [(.idx (.var 1) (.call 0 false [(.var 0), (.bi .len [(.var 1)])])), (.idx (.var 1) (.call 0 false [(.var 0), (.bi .len [(.var 1)])]))], .ite (.cmp .Eq (.call 0 false [(.var 0), (.cst (.int 3))]) (.cst (.int 0))) [.ret (.tup [(.cst (.str "set")), (.var 5), (.call 4 false [(.var 0), (.var 2)]), (.bi .tuple [(.bor 3)])])] [], .set 7 false (.idx (.lst [(.cst (.int 1)), (.cst (.int 1)), (.cst (.int 1)), (.neg (.cst (.int 1))), (.cst (.int 2)), (.neg (.cst (.int 2))), (.bin .Add (.cst (.int 1)) (.call 0 false [(.var 0), (.cst (.int 9))])), (.bin .Sub (.bin .Sub (.cst (.int 0)) (.cst (.int 1))) (.call 0 false [(.var 0), (.cst (.int 9))]))]) (.call 0 false [(.var 0), (.cst (.int 8))])), .set 8 false (.idx (.lst [(.cst (.int 0)), (.cst (.int 1)), (.neg (.cst (.int 1))), (.bin .Sub (.call 0 false [(.var 0), (.cst (.int 19))]) (.cst (.int 9))), (.bin .Sub (.call 0 false [(.var 0), (.cst (.int 199))]) (.cst (.int 99))), (.var 2), (.bin .Sub (.cst (.int 0)) (.var 2))]) (.call 0 false [(.var 0), (.cst (.int 7))])), .ret (.tup [(.cst (.str "step")), (.var 5), (.var 6), (.var 7), (.var 8), (.call 4 false [(.var 0), (.var 2)]), (.bi .tuple [(.bor 3)])])]
def sg__law_rule : Sig := { lend := [false, false, false], fr := false }
def d__law_rule : Df (Option Rg) := { x := "_law_rule", st := top 25, ps := ["rng", "words", "far"], N := ["rng", "words", "far", "conditions", "turn", "first", "last", "size", "plus"], ir := ir__law_rule, sg := sg__law_rule, F := fun Γ => runF Γ 0 sg__law_rule ⟨9, ir__law_rule⟩ }
def ir__law_rows : List IS := [.parO 3 4 false (.idx (.lst [(.cst (.int 99)), (.bin .Pow (.cst (.int 10)) (.cst (.int 9))), (.bin .Pow (.cst (.int 10)) (.cst (.int 31)))]) (.call 0 false [(.var 0), (.cst (.int 3))])) (.lst []), .ite (.and (.cmp .Gt (.call 0 false [(.var 0), (.cst (.int 4))]) (.cst (.int 0))) (.cmp .Gt (.var 2) (.cst (.int 0)))) [.set 5 false (.bin .Sub (.call 0 false [(.var 0), (.cst (.int 9))]) (.cst (.int 4))), .app 4 (.tup [(.cst (.str "set")), (.idx (.var 1) (.cst (.int 0))), (.tup [(.var 5), (.bin .Add (.var 5) (.call 0 false [(.var 0), (.cst (.int 3))]))]), (.tup [])])] [], .forR 6 none (.call 0 false [(.var 0), (.bin .Sub (.bin .Add (.var 2) (.cst (.int 1))) (.bi .len [(.bor 4)]))]) [.app 4 (.call 5 false [(.var 0), (.var 1), (.var 3)])], .retO 4]
def sg__law_rows : Sig := { lend := [false, false, false], fr := true }
def d__law_rows : Df (Option Rg) := { x := "_law_rows", st := top 26, ps := ["rng", "words", "most"], N := ["rng", "words", "most", "far", "rows", "low", "turn"], ir := ir__law_rows, sg := sg__law_rows, F := fun Γ => runF Γ 0 sg__law_rows ⟨7, ir__law_rows⟩ }
def ir_is_range : List IS := [.ret (.or (.cmp .Is (.var 0) (.cst .non)) (.or (.cmp .In (.cst .non) (.var 0)) (.cmp .LtE (.idx (.var 0) (.cst (.int 0))) (.idx (.var 0) (.cst (.int 1))))))]
def sg_is_range : Sig := { lend := [false], fr := false }
def d_is_range : Df (Option Rg) := { x := "is_range", st := top 7, ps := ["value"], N := ["value"], ir := ir_is_range, sg := sg_is_range, F := fun Γ => runF Γ 0 sg_is_range ⟨1, ir_is_range⟩ }
def ir_ranges_in : List IS := [.ret (.bin .Add (.lst [(.ite (.cmp .Eq (.idx (.var 0) (.cst (.int 0))) (.glb 0)) (.idx (.var 0) (.cst (.int 2))) (.idx (.var 0) (.cst (.int 5))))]) (.lcg (.tu [1, 2]) (.idx (.var 0) (.neg (.cst (.int 1)))) (.cst (.bl true)) (.var 2)))]
def sg_ranges_in : Sig := { lend := [false], fr := false }
def d_ranges_in : Df (Option Rg) := { x := "ranges_in", st := top 14, ps := ["rule"], N := ["rule", "name", "one"], ir := ir_ranges_in, sg := sg_ranges_in, F := fun Γ => runF Γ 0 sg_ranges_in ⟨3, ir_ranges_in⟩ }
def ir_names_in : List IS := [.set 1 false (.ite (.cmp .Eq (.idx (.var 0) (.cst (.int 0))) (.glb 0)) (.lst [(.idx (.var 0) (.cst (.int 1)))]) (.lst [(.idx (.var 0) (.cst (.int 1))), (.idx (.var 0) (.cst (.int 2)))])), .ret (.bin .Add (.var 1) (.lcg (.tu [2, 3]) (.idx (.var 0) (.neg (.cst (.int 1)))) (.cst (.bl true)) (.var 2)))]
def sg_names_in : Sig := { lend := [false], fr := false }
def d_names_in : Df (Option Rg) := { x := "names_in", st := top 13, ps := ["rule"], N := ["rule", "first", "name", "one"], ir := ir_names_in, sg := sg_names_in, F := fun Γ => runF Γ 0 sg_names_in ⟨4, ir_names_in⟩ }
def ir_is_rule : List IS := [.ite (.not (.bi .all [(.lc 2 (.call 9 false [(.var 0)]) (.cmp .In (.var 2) (.var 1)))])) [.ret (.cst (.bl false))] [], .ite (.and (.cmp .NotEq (.idx (.var 0) (.cst (.int 0))) (.glb 0)) (.cmp .Eq (.idx (.var 0) (.cst (.int 3))) (.cst (.int 0)))) [.ret (.cst (.bl false))] [], .ret (.bi .all [(.lc 3 (.call 8 false [(.var 0)]) (.and (.cmp .IsNot (.var 3) (.cst .non)) (.call 7 false [(.var 3)])))])]
def sg_is_rule : Sig := { lend := [false, false], fr := false }
def d_is_rule : Df (Option Rg) := { x := "is_rule", st := top 15, ps := ["rule", "names"], N := ["rule", "names", "name", "one"], ir := ir_is_rule, sg := sg_is_rule, F := fun Γ => runF Γ 0 sg_is_rule ⟨4, ir_is_rule⟩ }
def ir_is_name : List IS := [.ret (.and (.chn .LtE .LtE (.cst (.int 1)) (.bi .len [(.var 0)]) (.glb 2)) (.bi .all [(.lcg (.nm 1) (.chs (.var 0)) (.cst (.bl true)) (.cmp .In (.var 1) (.glb 1)))]))]
def sg_is_name : Sig := { lend := [false], fr := false }
def d_is_name : Df (Option Rg) := { x := "is_name", st := top 12, ps := ["word"], N := ["word", "sign"], ir := ir_is_name, sg := sg_is_name, F := fun Γ => runF Γ 0 sg_is_name ⟨2, ir_is_name⟩ }
def ir_check_system : List IS := [.forG (.tu [2, 3]) (.enm (.var 0)) [.ite (.or (.not (.call 11 false [(.var 3)])) (.cmp .In (.var 3) (.slc false true (.var 0) (.cst .non) (.var 2)))) [.never] []], .forG (.tu [4, 5]) (.enm (.var 1)) [.ite (.not (.call 10 false [(.var 5), (.var 0)])) [.never] []]]
def sg_check_system : Sig := { lend := [false, false], fr := false }
def d_check_system : Df (Option Rg) := { x := "check_system", st := top 16, ps := ["names", "rules"], N := ["names", "rules", "spot", "name", "number", "rule"], ir := ir_check_system, sg := sg_check_system, F := fun Γ => runF Γ 0 sg_check_system ⟨6, ir_check_system⟩ }
def ir_System_init : List IS := []
def pre_System_init : List IE := [(.call 12 false [(.var 1), (.var 2)])]
def fl_System_init : List (Str × IE) := [("kept_names", (.bi .tuple [(.bi .sorted [(.var 1)])])), ("kept_rules", (.bi .tuple [(.var 2)]))]
def sg_System_init : Sig := { lend := [false, false], fr := false, kd := .ini }
def d_System_init : Df (Option Rg) := { x := "System", st := clsAt (top 18) 0, ps := ["self", "names", "rules"], N := ["self", "names", "rules"], ir := ir_System_init, sg := sg_System_init, F := fun Γ => iniF Γ "System" [false, false] 2 pre_System_init fl_System_init, pre := pre_System_init, fl := fl_System_init }
def ir_System_names : List IS := [.ret (.bi .list [(.fld "System" (.var 0) "kept_names")])]
def sg_System_names : Sig := { lend := [false], fr := true, kd := .prp, cl := "System" }
def d_System_names : Df (Option Rg) := { x := "names", st := clsAt (top 18) 1, ps := ["self"], N := ["self"], ir := ir_System_names, sg := sg_System_names, F := fun Γ => runF Γ 0 sg_System_names ⟨1, ir_System_names⟩ }
def ir_System_rules : List IS := [.ret (.bi .list [(.fld "System" (.var 0) "kept_rules")])]
def sg_System_rules : Sig := { lend := [false], fr := true, kd := .prp, cl := "System" }
def d_System_rules : Df (Option Rg) := { x := "rules", st := clsAt (top 18) 2, ps := ["self"], N := ["self"], ir := ir_System_rules, sg := sg_System_rules, F := fun Γ => runF Γ 0 sg_System_rules ⟨1, ir_System_rules⟩ }
def ir_System_len : List IS := [.ret (.bi .len [(.fld "System" (.var 0) "kept_rules")])]
def sg_System_len : Sig := { lend := [false], fr := false, kd := .mth, cl := "System" }
def d_System_len : Df (Option Rg) := { x := "__len__", st := clsAt (top 18) 3, ps := ["self"], N := ["self"], ir := ir_System_len, sg := sg_System_len, F := fun Γ => runF Γ 0 sg_System_len ⟨1, ir_System_len⟩ }
def ir__law_shown : List IS := [.ret (.bi .repr [(.lst [(.prp 14 true "System" (.var 0)), (.prp 15 true "System" (.var 0)), (.lenO 16 "System" (.var 0))])])]
def sg__law_shown : Sig := { lend := [false], fr := false }
def d__law_shown : Df (Option Rg) := { x := "_law_shown", st := top 27, ps := ["made"], N := ["made"], ir := ir__law_shown, sg := sg__law_shown, F := fun Γ => runF Γ 0 sg__law_shown ⟨1, ir__law_shown⟩ }
def ir_check_rule : List IS := [.ite (.not (.chn .LtE .Lt (.cst (.int 0)) (.var 1) (.bi .len [(.fld "System" (.var 0) "kept_rules")]))) [.never] []]
def sg_check_rule : Sig := { lend := [false, false], fr := false }
def d_check_rule : Df (Option Rg) := { x := "check_rule", st := top 17, ps := ["system", "number"], N := ["system", "number"], ir := ir_check_rule, sg := sg_check_rule, F := fun Γ => runF Γ 0 sg_check_rule ⟨2, ir_check_rule⟩ }
def ir_System_without : List IS := [.forL 2 (.var 1) none [.exp (.call 18 false [(.var 0), (.var 2)])], .set 3 false (.lcg (.tu [2, 4]) (.enm (.fld "System" (.var 0) "kept_rules")) (.cmp .NotIn (.var 2) (.var 1)) (.var 4)), .ret (.ctor 13 [(.bi .list [(.fld "System" (.var 0) "kept_names")]), (.var 3)])]
def sg_System_without : Sig := { lend := [false, false], fr := false, kd := .mth, cl := "System" }
def d_System_without : Df (Option Rg) := { x := "without", st := clsAt (top 18) 5, ps := ["self", "numbers"], N := ["self", "numbers", "number", "left", "rule"], ir := ir_System_without, sg := sg_System_without, F := fun Γ => runF Γ 0 sg_System_without ⟨5, ir_System_without⟩ }
def ir_System_with_rule : List IS := [.ret (.ctor 13 [(.bi .list [(.fld "System" (.var 0) "kept_names")]), (.lstS [true, false] [(.fld "System" (.var 0) "kept_rules"), (.var 1)])])]
def sg_System_with_rule : Sig := { lend := [false, false], fr := false, kd := .mth, cl := "System" }
def d_System_with_rule : Df (Option Rg) := { x := "with_rule", st := clsAt (top 18) 6, ps := ["self", "rule"], N := ["self", "rule"], ir := ir_System_with_rule, sg := sg_System_with_rule, F := fun Γ => runF Γ 0 sg_System_with_rule ⟨2, ir_System_with_rule⟩ }
def ir_System_beside : List IS := [.forL 2 (.fld "System" (.var 0) "kept_names") none [.ite (.cmp .In (.var 2) (.fld "System" (.var 1) "kept_names")) [.never] []], .ret (.ctor 13 [(.lstS [true, true] [(.fld "System" (.var 0) "kept_names"), (.fld "System" (.var 1) "kept_names")]), (.lstS [true, true] [(.fld "System" (.var 0) "kept_rules"), (.fld "System" (.var 1) "kept_rules")])])]
def sg_System_beside : Sig := { lend := [false, false], fr := false, kd := .mth, cl := "System" }
def d_System_beside : Df (Option Rg) := { x := "beside", st := clsAt (top 18) 7, ps := ["self", "other"], N := ["self", "other", "name"], ir := ir_System_beside, sg := sg_System_beside, F := fun Γ => runF Γ 0 sg_System_beside ⟨3, ir_System_beside⟩ }
def ir_System_eq : List IS := [.ite (.not (.isi (.var 1) "System")) [.ret (.cst (.bl false))] [], .ret (.cmp .Eq (.tup [(.fld "System" (.var 0) "kept_names"), (.fld "System" (.var 0) "kept_rules")]) (.tup [(.fld "System" (.var 1) "kept_names"), (.fld "System" (.var 1) "kept_rules")]))]
def sg_System_eq : Sig := { lend := [false, false], fr := false, kd := .mth, cl := "System" }
def d_System_eq : Df (Option Rg) := { x := "__eq__", st := clsAt (top 18) 4, ps := ["self", "other"], N := ["self", "other"], ir := ir_System_eq, sg := sg_System_eq, F := fun Γ => runF Γ 0 sg_System_eq ⟨2, ir_System_eq⟩ }
def ir__law_beside_right : List IS := [.set 4 false (.slc false true (.lst [(.cst (.str "m")), (.cst (.str "n")), (.cst (.str "rowfar")), (.cst (.str "o")), (.cst (.str "p"))]) (.cst .non) (.bin .Sub (.cst (.int 6)) (.bi .len [(.var 2)]))), .set 5 false (.bin .Sub (.cst (.int 12)) (.bi .len [(.var 3)])), .ite (.cmp .Eq (.var 4) (.lst [])) [.ret (.cst (.bl true))] [], .set 6 false (.call 6 true [(.var 0), (.var 4), (.var 5)]), .par [7, 8] [(.ctor 13 [(.var 4), (.var 6)]), (.ctor 13 [(.slc false true (.var 4) (.cst .non) (.cst (.int 1))), (.lst [])])], .set 9 false (.call 17 false [(.var 7)]), .par [10, 11] [(.ctor 13 [(.bin .Add (.var 2) (.var 4)), (.bin .Add (.var 3) (.var 6))]), (.ctor 13 [(.bin .Add (.var 2) (.slc false true (.var 4) (.cst .non) (.cst (.int 1)))), (.var 3)])], .set 12 false (.lst [(.mth 21 false "System" "beside" (.var 1) [(.var 7)]), (.mthK 21 false "System" "beside" (.var 1) [(.var 7)] [0]), (.mth 21 false "System" "beside" (.var 1) [(.var 8)]), (.mth 21 false "System" "beside" (.var 1) [(.var 7)])]), .ite (.cmp .NotEq (.lcg (.tu [13, 14]) (.zip (.var 12) (.lst [(.var 10), (.var 10), (.var 11), (.var 10)])) (.cst (.bl true)) (.eqO 22 "System" (.var 13) (.var 14))) (.bin .Mult (.lst [(.cst (.bl true))]) (.cst (.int 4)))) [.ret (.cst (.bl false))] [], .ite (.or (.cmp .NotEq (.call 17 false [(.idx (.var 12) (.cst (.int 0)))]) (.call 17 false [(.var 10)])) (.cmp .NotEq (.prp 15 true "System" (.mth 21 false "System" "beside" (.var 7) [(.var 1)])) (.bin .Add (.var 6) (.var 3)))) [.ret (.cst (.bl false))] [], .ret (.cmp .Eq (.call 17 false [(.var 7)]) (.var 9))]
def sg__law_beside_right : Sig := { lend := [false, false, false, false], fr := false }
def d__law_beside_right : Df (Option Rg) := { x := "_law_beside_right", st := top 28, ps := ["rng", "made", "words", "rows"], N := ["rng", "made", "words", "rows", "far", "room", "some", "second", "third", "kept", "both", "bare", "told", "one", "two"], ir := ir__law_beside_right, sg := sg__law_beside_right, F := fun Γ => runF Γ 0 sg__law_beside_right ⟨15, ir__law_beside_right⟩ }
def defs : List (Df (Option Rg)) := [d__law_rng, d__law_words, d__law_end, d__law_within, d__law_rule, d__law_rows, d_is_range, d_ranges_in, d_names_in, d_is_rule, d_is_name, d_check_system, d_System_init, d_System_names, d_System_rules, d_System_len, d__law_shown, d_check_rule, d_System_without, d_System_with_rule, d_System_beside, d_System_eq, d__law_beside_right]
def lawN : List Str := ["script", "rng", "lap", "words", "rows", "made", "gone", "spot", "less", "row", "kept", "told", "one", "some", "first", "last", "due"]
def lawIr : List IS := [.forR 2 none (.bin .Add (.cst (.int 8)) (.bi .min [(.cst (.int 10)), (.bi .len [(.var 0)])])) [.set 3 false (.call 2 false [(.var 1), (.bin .Add (.cst (.int 1)) (.call 0 false [(.var 1), (.cst (.int 6))]))]), .set 4 false (.call 6 true [(.var 1), (.var 3), (.cst (.int 12))]), .set 5 false (.ctor 13 [(.var 3), (.var 4)]), .set 6 false (.lcr 7 (.cst (.int 0)) (.bi .len [(.var 4)]) (.cmp .Gt (.call 0 false [(.var 1), (.cst (.int 3))]) (.cst (.int 0))) (.var 7)), .set 6 false (.idx (.lst [(.bin .Add (.rev (.var 6)) (.slc false true (.var 6) (.cst .non) (.cst (.int 2)))), (.lst []), (.lrng (.cst (.int 0)) (.bi .len [(.var 4)]))]) (.bi .max [(.cst (.int 0)), (.bin .Sub (.call 0 false [(.var 1), (.cst (.int 5))]) (.cst (.int 2)))])), .set 8 false (.lcg (.tu [7, 9]) (.enm (.var 4)) (.cmp .NotIn (.var 7) (.var 6)) (.var 9)), .set 10 false (.lst [(.call 17 false [(.var 5)]), (.bi .repr [(.var 6)])]), .set 11 false (.lst [(.mth 19 false "System" "without" (.var 5) [(.var 6)]), (.mthK 19 false "System" "without" (.var 5) [(.var 6)] [0]), (.mth 19 false "System" "without" (.var 5) [(.lst [])]), (.mth 19 false "System" "without" (.var 5) [(.var 6)])]), .ite (.cmp .NotEq (.lc 12 (.var 11) (.call 17 false [(.var 12)])) (.lc 13 (.tup [(.var 8), (.var 8), (.var 4), (.var 8)]) (.call 17 false [(.ctor 13 [(.var 3), (.var 13)])]))) [.ret (.cst (.bl false))] [], .ite (.cmp .Lt (.bi .len [(.var 4)]) (.cst (.int 12))) [.par [14, 15] [(.call 5 false [(.var 1), (.var 3), (.cst (.int 99))]), (.call 5 false [(.var 1), (.var 3), (.bin .Pow (.cst (.int 10)) (.cst (.int 31)))])], .set 11 false (.lst [(.mth 20 false "System" "with_rule" (.var 5) [(.var 14)]), (.mthK 20 false "System" "with_rule" (.var 5) [(.var 15)] [0]), (.mth 20 false "System" "with_rule" (.var 5) [(.var 14)])]), .set 16 false (.lst [(.bin .Add (.var 4) (.lst [(.var 14)])), (.bin .Add (.var 4) (.lst [(.var 15)])), (.bin .Add (.var 4) (.lst [(.var 14)]))]), .ite (.cmp .NotEq (.lc 12 (.var 11) (.call 17 false [(.var 12)])) (.lc 13 (.var 16) (.call 17 false [(.ctor 13 [(.var 3), (.var 13)])]))) [.ret (.cst (.bl false))] []] [], .ite (.or (.not (.call 23 false [(.var 1), (.var 5), (.var 3), (.var 4)])) (.cmp .NotEq (.lst [(.call 17 false [(.var 5)]), (.bi .repr [(.var 6)])]) (.var 10))) [.ret (.cst (.bl false))] []], .ret (.cst (.bl true))]
abbrev sDraw : Stmt := top 21
abbrev sLaw : Stmt := top 29
def KWL : List (Nat × List Str × List Nat) := [(21, ["other"], [0]), (19, ["numbers"], [0]), (20, ["rule"], [0])]
def consX : List Str := ["SET", "LETTERS", "MOST_LETTERS"]
def consD : List D := [.str "set", .str "abcdefghijklmnopqrstuvwxyz", .int 8]
def consF : List He.Fa := [.str "SET" "set", .str "LETTERS" "abcdefghijklmnopqrstuvwxyz", .int "MOST_LETTERS" 8]
def fldsX : List (Str × Str) := [("System", "kept_names"), ("System", "kept_rules")]
def fb : List Str := ["System"]
def C0 : CC := { N := [], sc := defScope sDraw, fns := [("_law_draw", { lend := [false, false] })], kws := KWL, cons := consX, free := ["abs", "all", "enumerate", "int", "isinstance", "len", "list", "max", "min", "range", "repr", "sorted", "tuple", "zip"], flds := fldsX, isi := fb }
def CL : CC := { finC C0 defs with N := lawN, sc := defScope sLaw }
theorem chk_defs : chkAll C0 defs = true := by decide +kernel
theorem chk_law : chkSs CL (.set 1 true (.call 1 true [.var 0]) :: lawIr) (defBody sLaw) = true := by decide +kernel
theorem sc_law : C8.scC lawN ["script"] (defScope sLaw) = true := by decide +kernel
theorem sc_draw : C8.scC ["rng", "limit", "digit", "blend"] ["rng", "limit"] (defScope sDraw) = true := by decide +kernel
def fn : List He.DefD := [⟨("_law_draw", none), "_law_draw", "_law_draw", defArgs (top 21), defBody (top 21), defScope (top 21), [], []⟩,
  ⟨("_law_rng", none), "_law_rng", "_law_rng", defArgs (top 20), defBody (top 20), defScope (top 20), [], []⟩,
  ⟨("_law_words", none), "_law_words", "_law_words", defArgs (top 22), defBody (top 22), defScope (top 22), [], []⟩,
  ⟨("_law_end", none), "_law_end", "_law_end", defArgs (top 23), defBody (top 23), defScope (top 23), [], []⟩,
  ⟨("_law_within", none), "_law_within", "_law_within", defArgs (top 24), defBody (top 24), defScope (top 24), [], []⟩,
  ⟨("_law_rule", none), "_law_rule", "_law_rule", defArgs (top 25), defBody (top 25), defScope (top 25), [], []⟩,
  ⟨("_law_rows", none), "_law_rows", "_law_rows", defArgs (top 26), defBody (top 26), defScope (top 26), [], []⟩,
  ⟨("is_range", none), "is_range", "is_range", defArgs (top 7), defBody (top 7), defScope (top 7), [], []⟩,
  ⟨("ranges_in", none), "ranges_in", "ranges_in", defArgs (top 14), defBody (top 14), defScope (top 14), [], []⟩,
  ⟨("names_in", none), "names_in", "names_in", defArgs (top 13), defBody (top 13), defScope (top 13), [], []⟩,
  ⟨("is_rule", none), "is_rule", "is_rule", defArgs (top 15), defBody (top 15), defScope (top 15), [], []⟩,
  ⟨("is_name", none), "is_name", "is_name", defArgs (top 12), defBody (top 12), defScope (top 12), [], []⟩,
  ⟨("check_system", none), "check_system", "check_system", defArgs (top 16), defBody (top 16), defScope (top 16), [], []⟩,
  ⟨("_law_shown", none), "_law_shown", "_law_shown", defArgs (top 27), defBody (top 27), defScope (top 27), [], []⟩,
  ⟨("check_rule", none), "check_rule", "check_rule", defArgs (top 17), defBody (top 17), defScope (top 17), [], []⟩,
  ⟨("_law_beside_right", none), "_law_beside_right", "_law_beside_right", defArgs (top 28), defBody (top 28), defScope (top 28), [], []⟩,
  ⟨("System", some "__init__"), "__init__", "System.__init__", defArgs (clsAt (top 18) 0), defBody (clsAt (top 18) 0), defScope (clsAt (top 18) 0), [], []⟩,
  ⟨("System", some "__len__"), "__len__", "System.__len__", defArgs (clsAt (top 18) 3), defBody (clsAt (top 18) 3), defScope (clsAt (top 18) 3), [], []⟩,
  ⟨("System", some "without"), "without", "System.without", defArgs (clsAt (top 18) 5), defBody (clsAt (top 18) 5), defScope (clsAt (top 18) 5), [], []⟩,
  ⟨("System", some "with_rule"), "with_rule", "System.with_rule", defArgs (clsAt (top 18) 6), defBody (clsAt (top 18) 6), defScope (clsAt (top 18) 6), [], []⟩,
  ⟨("System", some "beside"), "beside", "System.beside", defArgs (clsAt (top 18) 7), defBody (clsAt (top 18) 7), defScope (clsAt (top 18) 7), [], []⟩,
  ⟨("System", some "__eq__"), "__eq__", "System.__eq__", defArgs (clsAt (top 18) 4), defBody (clsAt (top 18) 4), defScope (clsAt (top 18) 4), [], []⟩,
  ⟨("law", none), "law", "law", defArgs (top 29), defBody (top 29), defScope (top 29), [], []⟩]
def freeL : List Str := ["abs", "all", "enumerate", "int", "isinstance", "len", "list", "max", "min", "range", "repr", "sorted", "tuple", "zip"]
def faB : List He.Fa := [.glo "_law_draw", .glo "_law_rng", .glo "_law_words", .glo "_law_end", .glo "_law_within", .glo "_law_rule", .glo "_law_rows", .glo "is_range", .glo "ranges_in", .glo "names_in", .glo "is_rule", .glo "is_name", .glo "check_system", .glo "_law_shown", .glo "check_rule", .glo "_law_beside_right", .glo "law", .cls "System", .glo "System", .mkr "System", .meth "System" "__len__", .meth "System" "without", .meth "System" "with_rule", .meth "System" "beside", .meth "System" "__eq__", .noat "System" "kept_names", .noat "System" "kept_rules", .str "SET" "set", .str "LETTERS" "abcdefghijklmnopqrstuvwxyz", .int "MOST_LETTERS" 8]
def fa : List He.Fa := faB ++ freeL.map He.Fa.free
def pr : List PrD := [⟨"System", "names", "names", "System.names", defArgs (clsAt (top 18) 1), defBody (clsAt (top 18) 1), defScope (clsAt (top 18) 1)⟩,
  ⟨"System", "rules", "rules", "System.rules", defArgs (clsAt (top 18) 2), defBody (clsAt (top 18) 2), defScope (clsAt (top 18) 2)⟩]
theorem kw__law_rng (ks : List Str) (perm : List Nat) (m : (1, ks, perm) ∈ KWL) (kV doc pm : Value) (an : Option Addr) (cdv ct : Value) (ws : List Value) (hl : ws.length = ks.length) : bindArgs (PySem.W.fnOf d__law_rng.x d__law_rng.x (defArgs d__law_rng.st) (defBody d__law_rng.st) (defScope d__law_rng.st) .none kV doc pm an cdv ct) ⟨[], ks.zip ws⟩ = pure (d__law_rng.ps.zip (perm.filterMap fun i => ws[i]?)) := by
  simp [KWL] at m
theorem kw__law_words (ks : List Str) (perm : List Nat) (m : (2, ks, perm) ∈ KWL) (kV doc pm : Value) (an : Option Addr) (cdv ct : Value) (ws : List Value) (hl : ws.length = ks.length) : bindArgs (PySem.W.fnOf d__law_words.x d__law_words.x (defArgs d__law_words.st) (defBody d__law_words.st) (defScope d__law_words.st) .none kV doc pm an cdv ct) ⟨[], ks.zip ws⟩ = pure (d__law_words.ps.zip (perm.filterMap fun i => ws[i]?)) := by
  simp [KWL] at m
theorem kw__law_end (ks : List Str) (perm : List Nat) (m : (3, ks, perm) ∈ KWL) (kV doc pm : Value) (an : Option Addr) (cdv ct : Value) (ws : List Value) (hl : ws.length = ks.length) : bindArgs (PySem.W.fnOf d__law_end.x d__law_end.x (defArgs d__law_end.st) (defBody d__law_end.st) (defScope d__law_end.st) .none kV doc pm an cdv ct) ⟨[], ks.zip ws⟩ = pure (d__law_end.ps.zip (perm.filterMap fun i => ws[i]?)) := by
  simp [KWL] at m
theorem kw__law_within (ks : List Str) (perm : List Nat) (m : (4, ks, perm) ∈ KWL) (kV doc pm : Value) (an : Option Addr) (cdv ct : Value) (ws : List Value) (hl : ws.length = ks.length) : bindArgs (PySem.W.fnOf d__law_within.x d__law_within.x (defArgs d__law_within.st) (defBody d__law_within.st) (defScope d__law_within.st) .none kV doc pm an cdv ct) ⟨[], ks.zip ws⟩ = pure (d__law_within.ps.zip (perm.filterMap fun i => ws[i]?)) := by
  simp [KWL] at m
theorem kw__law_rule (ks : List Str) (perm : List Nat) (m : (5, ks, perm) ∈ KWL) (kV doc pm : Value) (an : Option Addr) (cdv ct : Value) (ws : List Value) (hl : ws.length = ks.length) : bindArgs (PySem.W.fnOf d__law_rule.x d__law_rule.x (defArgs d__law_rule.st) (defBody d__law_rule.st) (defScope d__law_rule.st) .none kV doc pm an cdv ct) ⟨[], ks.zip ws⟩ = pure (d__law_rule.ps.zip (perm.filterMap fun i => ws[i]?)) := by
  simp [KWL] at m
theorem kw__law_rows (ks : List Str) (perm : List Nat) (m : (6, ks, perm) ∈ KWL) (kV doc pm : Value) (an : Option Addr) (cdv ct : Value) (ws : List Value) (hl : ws.length = ks.length) : bindArgs (PySem.W.fnOf d__law_rows.x d__law_rows.x (defArgs d__law_rows.st) (defBody d__law_rows.st) (defScope d__law_rows.st) .none kV doc pm an cdv ct) ⟨[], ks.zip ws⟩ = pure (d__law_rows.ps.zip (perm.filterMap fun i => ws[i]?)) := by
  simp [KWL] at m
theorem kw_is_range (ks : List Str) (perm : List Nat) (m : (7, ks, perm) ∈ KWL) (kV doc pm : Value) (an : Option Addr) (cdv ct : Value) (ws : List Value) (hl : ws.length = ks.length) : bindArgs (PySem.W.fnOf d_is_range.x d_is_range.x (defArgs d_is_range.st) (defBody d_is_range.st) (defScope d_is_range.st) .none kV doc pm an cdv ct) ⟨[], ks.zip ws⟩ = pure (d_is_range.ps.zip (perm.filterMap fun i => ws[i]?)) := by
  simp [KWL] at m
theorem kw_ranges_in (ks : List Str) (perm : List Nat) (m : (8, ks, perm) ∈ KWL) (kV doc pm : Value) (an : Option Addr) (cdv ct : Value) (ws : List Value) (hl : ws.length = ks.length) : bindArgs (PySem.W.fnOf d_ranges_in.x d_ranges_in.x (defArgs d_ranges_in.st) (defBody d_ranges_in.st) (defScope d_ranges_in.st) .none kV doc pm an cdv ct) ⟨[], ks.zip ws⟩ = pure (d_ranges_in.ps.zip (perm.filterMap fun i => ws[i]?)) := by
  simp [KWL] at m
theorem kw_names_in (ks : List Str) (perm : List Nat) (m : (9, ks, perm) ∈ KWL) (kV doc pm : Value) (an : Option Addr) (cdv ct : Value) (ws : List Value) (hl : ws.length = ks.length) : bindArgs (PySem.W.fnOf d_names_in.x d_names_in.x (defArgs d_names_in.st) (defBody d_names_in.st) (defScope d_names_in.st) .none kV doc pm an cdv ct) ⟨[], ks.zip ws⟩ = pure (d_names_in.ps.zip (perm.filterMap fun i => ws[i]?)) := by
  simp [KWL] at m
theorem kw_is_rule (ks : List Str) (perm : List Nat) (m : (10, ks, perm) ∈ KWL) (kV doc pm : Value) (an : Option Addr) (cdv ct : Value) (ws : List Value) (hl : ws.length = ks.length) : bindArgs (PySem.W.fnOf d_is_rule.x d_is_rule.x (defArgs d_is_rule.st) (defBody d_is_rule.st) (defScope d_is_rule.st) .none kV doc pm an cdv ct) ⟨[], ks.zip ws⟩ = pure (d_is_rule.ps.zip (perm.filterMap fun i => ws[i]?)) := by
  simp [KWL] at m
theorem kw_is_name (ks : List Str) (perm : List Nat) (m : (11, ks, perm) ∈ KWL) (kV doc pm : Value) (an : Option Addr) (cdv ct : Value) (ws : List Value) (hl : ws.length = ks.length) : bindArgs (PySem.W.fnOf d_is_name.x d_is_name.x (defArgs d_is_name.st) (defBody d_is_name.st) (defScope d_is_name.st) .none kV doc pm an cdv ct) ⟨[], ks.zip ws⟩ = pure (d_is_name.ps.zip (perm.filterMap fun i => ws[i]?)) := by
  simp [KWL] at m
theorem kw_check_system (ks : List Str) (perm : List Nat) (m : (12, ks, perm) ∈ KWL) (kV doc pm : Value) (an : Option Addr) (cdv ct : Value) (ws : List Value) (hl : ws.length = ks.length) : bindArgs (PySem.W.fnOf d_check_system.x d_check_system.x (defArgs d_check_system.st) (defBody d_check_system.st) (defScope d_check_system.st) .none kV doc pm an cdv ct) ⟨[], ks.zip ws⟩ = pure (d_check_system.ps.zip (perm.filterMap fun i => ws[i]?)) := by
  simp [KWL] at m
theorem kw_System_len (ks : List Str) (perm : List Nat) (m : (16, ks, perm) ∈ KWL) (kV doc pm : Value) (an : Option Addr) (cdv ct u : Value) (ws : List Value) (hl : ws.length = ks.length) : bindArgs (PySem.W.fnOf d_System_len.x "System.__len__" (defArgs d_System_len.st) (defBody d_System_len.st) (defScope d_System_len.st) .none kV doc pm an cdv ct) ⟨[u], ks.zip ws⟩ = pure (d_System_len.ps.zip (u :: perm.filterMap fun i => ws[i]?)) := by
  simp [KWL] at m
theorem kw__law_shown (ks : List Str) (perm : List Nat) (m : (17, ks, perm) ∈ KWL) (kV doc pm : Value) (an : Option Addr) (cdv ct : Value) (ws : List Value) (hl : ws.length = ks.length) : bindArgs (PySem.W.fnOf d__law_shown.x d__law_shown.x (defArgs d__law_shown.st) (defBody d__law_shown.st) (defScope d__law_shown.st) .none kV doc pm an cdv ct) ⟨[], ks.zip ws⟩ = pure (d__law_shown.ps.zip (perm.filterMap fun i => ws[i]?)) := by
  simp [KWL] at m
theorem kw_check_rule (ks : List Str) (perm : List Nat) (m : (18, ks, perm) ∈ KWL) (kV doc pm : Value) (an : Option Addr) (cdv ct : Value) (ws : List Value) (hl : ws.length = ks.length) : bindArgs (PySem.W.fnOf d_check_rule.x d_check_rule.x (defArgs d_check_rule.st) (defBody d_check_rule.st) (defScope d_check_rule.st) .none kV doc pm an cdv ct) ⟨[], ks.zip ws⟩ = pure (d_check_rule.ps.zip (perm.filterMap fun i => ws[i]?)) := by
  simp [KWL] at m
theorem kw_System_without (ks : List Str) (perm : List Nat) (m : (19, ks, perm) ∈ KWL) (kV doc pm : Value) (an : Option Addr) (cdv ct u : Value) (ws : List Value) (hl : ws.length = ks.length) : bindArgs (PySem.W.fnOf d_System_without.x "System.without" (defArgs d_System_without.st) (defBody d_System_without.st) (defScope d_System_without.st) .none kV doc pm an cdv ct) ⟨[u], ks.zip ws⟩ = pure (d_System_without.ps.zip (u :: perm.filterMap fun i => ws[i]?)) := by
  simp only [KWL, List.mem_cons, Prod.mk.injEq, List.not_mem_nil, or_false] at m
  rcases m with ⟨h, rfl, rfl⟩ | ⟨h, rfl, rfl⟩ | ⟨h, rfl, rfl⟩
  all_goals first | exact absurd h (by decide) | exact (match ws, hl with | [_], _ => rfl)
theorem kw_System_with_rule (ks : List Str) (perm : List Nat) (m : (20, ks, perm) ∈ KWL) (kV doc pm : Value) (an : Option Addr) (cdv ct u : Value) (ws : List Value) (hl : ws.length = ks.length) : bindArgs (PySem.W.fnOf d_System_with_rule.x "System.with_rule" (defArgs d_System_with_rule.st) (defBody d_System_with_rule.st) (defScope d_System_with_rule.st) .none kV doc pm an cdv ct) ⟨[u], ks.zip ws⟩ = pure (d_System_with_rule.ps.zip (u :: perm.filterMap fun i => ws[i]?)) := by
  simp only [KWL, List.mem_cons, Prod.mk.injEq, List.not_mem_nil, or_false] at m
  rcases m with ⟨h, rfl, rfl⟩ | ⟨h, rfl, rfl⟩ | ⟨h, rfl, rfl⟩
  all_goals first | exact absurd h (by decide) | exact (match ws, hl with | [_], _ => rfl)
theorem kw_System_beside (ks : List Str) (perm : List Nat) (m : (21, ks, perm) ∈ KWL) (kV doc pm : Value) (an : Option Addr) (cdv ct u : Value) (ws : List Value) (hl : ws.length = ks.length) : bindArgs (PySem.W.fnOf d_System_beside.x "System.beside" (defArgs d_System_beside.st) (defBody d_System_beside.st) (defScope d_System_beside.st) .none kV doc pm an cdv ct) ⟨[u], ks.zip ws⟩ = pure (d_System_beside.ps.zip (u :: perm.filterMap fun i => ws[i]?)) := by
  simp only [KWL, List.mem_cons, Prod.mk.injEq, List.not_mem_nil, or_false] at m
  rcases m with ⟨h, rfl, rfl⟩ | ⟨h, rfl, rfl⟩ | ⟨h, rfl, rfl⟩
  all_goals first | exact absurd h (by decide) | exact (match ws, hl with | [_], _ => rfl)
theorem kw_System_eq (ks : List Str) (perm : List Nat) (m : (22, ks, perm) ∈ KWL) (kV doc pm : Value) (an : Option Addr) (cdv ct u : Value) (ws : List Value) (hl : ws.length = ks.length) : bindArgs (PySem.W.fnOf d_System_eq.x "System.__eq__" (defArgs d_System_eq.st) (defBody d_System_eq.st) (defScope d_System_eq.st) .none kV doc pm an cdv ct) ⟨[u], ks.zip ws⟩ = pure (d_System_eq.ps.zip (u :: perm.filterMap fun i => ws[i]?)) := by
  simp [KWL] at m
theorem kw__law_beside_right (ks : List Str) (perm : List Nat) (m : (23, ks, perm) ∈ KWL) (kV doc pm : Value) (an : Option Addr) (cdv ct : Value) (ws : List Value) (hl : ws.length = ks.length) : bindArgs (PySem.W.fnOf d__law_beside_right.x d__law_beside_right.x (defArgs d__law_beside_right.st) (defBody d__law_beside_right.st) (defScope d__law_beside_right.st) .none kV doc pm an cdv ct) ⟨[], ks.zip ws⟩ = pure (d__law_beside_right.ps.zip (perm.filterMap fun i => ws[i]?)) := by
  simp [KWL] at m
section
variable {K : PySem.W.Frag} {h : Heap} {mg : Str → Option Value}
theorem all_in (X : K.In h) (G : h.Ns mainGlobals mg) (c : SaysP fa fn pr fb K) {Γ : Gm (Option Rg)} : AllIn (He.ga K) K mg C0 Γ defs :=
  ⟨dfFn X G c.d d__law_rng 1 1 rfl rfl rfl (fun _ _ _ _ _ _ us hl => match us, hl with | [_], _ => rfl) kw__law_rng, fun _ _ _ h _ => ⟨0, h⟩, 
  ⟨dfFn X G c.d d__law_words 2 2 rfl rfl rfl (fun _ _ _ _ _ _ us hl => match us, hl with | [_, _], _ => rfl) kw__law_words, fun _ _ _ h _ => ⟨0, h⟩, 
  ⟨dfFn X G c.d d__law_end 3 3 rfl rfl rfl (fun _ _ _ _ _ _ us hl => match us, hl with | [_, _], _ => rfl) kw__law_end, fun _ _ _ h _ => ⟨0, h⟩, 
  ⟨dfFn X G c.d d__law_within 4 4 rfl rfl rfl (fun _ _ _ _ _ _ us hl => match us, hl with | [_, _], _ => rfl) kw__law_within, fun _ _ _ h _ => ⟨0, h⟩, 
  ⟨dfFn X G c.d d__law_rule 5 5 rfl rfl rfl (fun _ _ _ _ _ _ us hl => match us, hl with | [_, _, _], _ => rfl) kw__law_rule, fun _ _ _ h _ => ⟨0, h⟩, 
  ⟨dfFn X G c.d d__law_rows 6 6 rfl rfl rfl (fun _ _ _ _ _ _ us hl => match us, hl with | [_, _, _], _ => rfl) kw__law_rows, fun _ _ _ h _ => ⟨0, h⟩, 
  ⟨dfFn X G c.d d_is_range 7 7 rfl rfl rfl (fun _ _ _ _ _ _ us hl => match us, hl with | [_], _ => rfl) kw_is_range, fun _ _ _ h _ => ⟨0, h⟩, 
  ⟨dfFn X G c.d d_ranges_in 8 8 rfl rfl rfl (fun _ _ _ _ _ _ us hl => match us, hl with | [_], _ => rfl) kw_ranges_in, fun _ _ _ h _ => ⟨0, h⟩, 
  ⟨dfFn X G c.d d_names_in 9 9 rfl rfl rfl (fun _ _ _ _ _ _ us hl => match us, hl with | [_], _ => rfl) kw_names_in, fun _ _ _ h _ => ⟨0, h⟩, 
  ⟨dfFn X G c.d d_is_rule 10 10 rfl rfl rfl (fun _ _ _ _ _ _ us hl => match us, hl with | [_, _], _ => rfl) kw_is_rule, fun _ _ _ h _ => ⟨0, h⟩, 
  ⟨dfFn X G c.d d_is_name 11 11 rfl rfl rfl (fun _ _ _ _ _ _ us hl => match us, hl with | [_], _ => rfl) kw_is_name, fun _ _ _ h _ => ⟨0, h⟩, 
  ⟨dfFn X G c.d d_check_system 12 12 rfl rfl rfl (fun _ _ _ _ _ _ us hl => match us, hl with | [_, _], _ => rfl) kw_check_system, fun _ _ _ h _ => ⟨0, h⟩, 
  ⟨dfIni X G c.d d_System_init 16 18 19 rfl rfl rfl rfl (fun _ _ _ _ _ _ us hl => match us, hl with | [_, _, _], _ => rfl), fun _ _ => rfl, 
  ⟨dfPrp c d_System_names 0 17 rfl rfl rfl (fun _ _ _ _ _ _ us hl => match us, hl with | [_], _ => rfl), fun _ _ _ h _ => ⟨0, h⟩, 
  ⟨dfPrp c d_System_rules 1 17 rfl rfl rfl (fun _ _ _ _ _ _ us hl => match us, hl with | [_], _ => rfl), fun _ _ _ h _ => ⟨0, h⟩, 
  ⟨dfMth c.d d_System_len 17 17 20 rfl rfl rfl rfl (fun _ _ _ _ _ _ us hl => match us, hl with | [_], _ => rfl) kw_System_len, fun _ _ _ h _ => ⟨0, h⟩, 
  ⟨dfFn X G c.d d__law_shown 13 13 rfl rfl rfl (fun _ _ _ _ _ _ us hl => match us, hl with | [_], _ => rfl) kw__law_shown, fun _ _ _ h _ => ⟨0, h⟩, 
  ⟨dfFn X G c.d d_check_rule 14 14 rfl rfl rfl (fun _ _ _ _ _ _ us hl => match us, hl with | [_, _], _ => rfl) kw_check_rule, fun _ _ _ h _ => ⟨0, h⟩, 
  ⟨dfMth c.d d_System_without 18 17 21 rfl rfl rfl rfl (fun _ _ _ _ _ _ us hl => match us, hl with | [_, _], _ => rfl) kw_System_without, fun _ _ _ h _ => ⟨0, h⟩, 
  ⟨dfMth c.d d_System_with_rule 19 17 22 rfl rfl rfl rfl (fun _ _ _ _ _ _ us hl => match us, hl with | [_, _], _ => rfl) kw_System_with_rule, fun _ _ _ h _ => ⟨0, h⟩, 
  ⟨dfMth c.d d_System_beside 20 17 23 rfl rfl rfl rfl (fun _ _ _ _ _ _ us hl => match us, hl with | [_, _], _ => rfl) kw_System_beside, fun _ _ _ h _ => ⟨0, h⟩, 
  ⟨dfMth c.d d_System_eq 21 17 24 rfl rfl rfl rfl (fun _ _ _ _ _ _ us hl => match us, hl with | [_, _], _ => rfl) kw_System_eq, fun _ _ _ h _ => ⟨0, h⟩, 
  ⟨dfFn X G c.d d__law_beside_right 15 15 rfl rfl rfl (fun _ _ _ _ _ _ us hl => match us, hl with | [_, _, _, _], _ => rfl) kw__law_beside_right, fun _ _ _ h _ => ⟨0, h⟩,  trivial⟩⟩⟩⟩⟩⟩⟩⟩⟩⟩⟩⟩⟩⟩⟩⟩⟩⟩⟩⟩⟩⟩⟩
end
def LV : Nat := 47
def LOOSE : List Str := ["_wall", "RangeError", "InvalidName", "InvalidSystem", "InvalidRule", "is_range", "is_name", "names_in", "ranges_in", "is_rule", "check_system", "check_rule", "System", "_law_rng", "_law_draw", "_law_words", "_law_end", "_law_within", "_law_rule", "_law_rows", "_law_shown", "_law_beside_right", "MOST_LETTERS", "LETTERS", "SET"]
def TOPLAW : Nat := 29
def RNGI : Nat := 1
def dk : Dk := ⟨998244353, 32452843, 3, by decide⟩
theorem draw_ps {P : Program} {w : World} {K : PySem.W.Frag} {mg : Str → Option Value} {base : Heap} {f : Addr} (cdv : Value) (A : Around) (outer : List PySem.Env) (s : Shared) (H : Hp) (E : XK) (gi : mg "int" = none) :
    PSs (cxOf CX0 P w K mg base ["rng", "limit", "digit", "blend"] "_law_draw" (defScope sDraw) f cdv A outer s H E).nox (defBody sDraw) (t_draw K dk) := by
  have S := C8.fnScope_by sc_draw
  refine pss_cons (ps_if (pt_cmpR op_gt (pe_ix ix_list (pv 0) pe_int (by intro _ _; rfl)) pe_int (nomark _))
    (pss_cons (ps_set (i := 2) S.nd rfl (Or.inl rfl) (pe_op op_mod (pe_callTy call_int1 rfl gi Pv.boot_int (pa_cons (pe_ix ix_list (pv 0) pe_int (by intro _ _; rfl)) pa_nil)) (pv 1)))
      (pss_cons (ps_asg (pe_op op_fdivW (pe_ix ix_list (pv 0) pe_int (by intro _ _; rfl)) (pv 1)) (pg_sub (pv 0) pe_int set_list)) (pss_one (ps_ret (pv 2))))) pss_nil)
    (pss_cons (ps_asg (pe_op op_add (pe_ix ix_list (pv 0) pe_int (by intro _ _; rfl)) pe_int) (pg_sub (pv 0) pe_int set_list))
      (pss_cons (ps_set (i := 3) S.nd rfl (Or.inl rfl) (pe_op op_mod (pe_callTy call_int1 rfl gi Pv.boot_int (pa_cons (pe_op op_powB (pe_op op_add (pe_ix ix_list (pv 0) pe_int (by intro _ _; rfl)) (pe_op op_mul pe_int (pe_ix ix_list (pv 0) pe_int (by intro _ _; rfl)))) pe_int) pa_nil)) pe_int))
        (pss_cons (ps_set (i := 3) S.nd rfl (Or.inl rfl) (pe_op op_mod (pe_callTy call_int1 rfl gi Pv.boot_int (pa_cons (pe_op op_powB (pe_op op_add (pv 3) (pe_op op_mul pe_int (pe_ix ix_list (pv 0) pe_int (by intro _ _; rfl)))) pe_int) pa_nil)) pe_int))
          (pss_one (ps_ret (pe_op op_mod (pe_callTy call_int1 rfl gi Pv.boot_int (pa_cons (pe_op op_fdivW (pv 3) pe_int) pa_nil)) (pv 1)))))))
abbrev RR : PySem.W.OpenRow := PySem.W.OpenLaw.row PySem.Challenge.rw_tightranges_k07_rules_left_out_and_put_i
abbrev hk : PySem.W.Hook := hookP 7 fa fn pr fb
def ob (s : PySem.W.SharedT) : AlP := obsPG 7 fa fn pr fb (HandSHeadRun.getT s)
theorem ob_eq (s : PySem.W.SharedT) : ob s = hk.obs s.abs := obsPG_eq (HandSHeadRun.getT_eq s)
theorem run (w : World) : HandSHeadRun.RunEq RR (PySem.W.view RR.prog [TOPLAW]) hk ob 20000 LOOSE w := by
  intro os
  kernel_rfl
def Γ0 : Gm (Option Rg) := ⟨[drawF dk], consD⟩
def ΓL : Gm (Option Rg) := finG Γ0 defs
/-- what is left to show of the law: plain -/
def Plain : Prop := ∀ ns : List Int, ns.length ≤ 63 → ∃ Fr d s, ΓL.fns[RNGI]? = some Fr ∧ Fr [.scr ns] none = .ok (.lst [.int d, .int s, .int 0]) none ∧ ∃ n b s', exs ΓL n lawIr (lawE lawN.length ns) (some ⟨d, s, 0⟩) = .ok (.ret (.bl true) b) s'
theorem inFa {f : He.Fa} (h : f ∈ faB) : f ∈ fa := List.mem_append_left _ h
theorem con_ok (i : Nat) (x : Str) (d : D) (h1 : C0.cons[i]? = some x) (h2 : consD[i]? = some d) : ∃ f ∈ fa, CoD d x f := by
  match i, h1, h2 with
  | 0, h1, h2 => cases h1; cases h2; exact ⟨.str "SET" "set", inFa (by simp [faB]), rfl⟩
  | 1, h1, h2 => cases h1; cases h2; exact ⟨.str "LETTERS" "abcdefghijklmnopqrstuvwxyz", inFa (by simp [faB]), rfl⟩
  | 2, h1, h2 => cases h1; cases h2; exact ⟨.int "MOST_LETTERS" 8, inFa (by simp [faB]), rfl⟩
  | i + 3, h1, h2 => simp [C0, consX] at h1
theorem fld_ok (c n : Str) (h : (c, n) ∈ C0.flds) : He.Fa.cls c ∈ fa ∧ He.Fa.noat c n ∈ fa := by
  simp only [C0, fldsX, List.mem_cons, Prod.mk.injEq, List.not_mem_nil, or_false] at h
  rcases h with ⟨rfl, rfl⟩ | ⟨rfl, rfl⟩
  all_goals exact ⟨inFa (by simp [faB]), inFa (by simp [faB])⟩
theorem facts (plain : Plain) {P : Program} {w : World} {K : PySem.W.Frag} {h : Heap} {mg : Str → Option Value} {f : Addr} (X : K.In h) (G : h.Ns mainGlobals mg) (hfa : mg ("law" : Str) = some (.ref f)) (c : SaysP fa fn pr fb K) :
    ∃ fd : FuncData, (∀ (s : Shared) (v : Value), BindsTo s fd ⟨[v], []⟩ [("script", v)]) ∧ ∀ base : Heap, K.In base → base.Ns mainGlobals mg → FnG P w K mg base (LV + 1) f fd ["script"] (spLaw K) := by
  obtain ⟨fd, F⟩ := c.d.def_ 22 rfl
  have e := hfa.symm.trans (He.glo_ok X G (c.d.fact 16 (f := .glo "law") rfl))
  cases e
  have b := FunD.bindsA (ps := ["script"]) F fun _ _ _ _ _ _ us hl => match us, hl with | [_], _ => rfl
  refine ⟨fd, fun s v => b s [v] rfl, fun base _ _ => ?_⟩
  have gi : mg "int" = none := He.free_ok X G (says_mem c.d (List.mem_append_right _ (List.mem_map_of_mem (f := He.Fa.free) (by decide : ("int" : Str) ∈ freeL))))
  have k0 : DOk RNG (He.ga K) Γ0 C0 P w K mg base 1 := dok0 (fa := fa) (fn := fn) X G c.d (st := sDraw) rfl (by decide) con_ok fld_ok (fun y hy => List.mem_append_right _ (List.mem_map_of_mem (f := He.Fa.free) hy)) (fun x m => c.isi m) rfl rfl sc_draw (fun _ _ _ _ _ _ us hl => match us, hl with | [_, _], _ => rfl) (fun f cdv A outer s H E => draw_ps cdv A outer s H E gi)
  have k1 := DOk.all k0 rfl chk_defs (all_in X G c)
  obtain ⟨Fr, hFr⟩ : ∃ Fr, ΓL.fns[RNGI]? = some Fr := ⟨_, rfl⟩
  refine law_ok (C := CL) (Γ := ΓL) (i := RNGI) (Fr := Fr) F sc_law rfl (by decide) ⟨k1.free, k1.fn, k1.fld, k1.kw, k1.isi, k1.con⟩ chk_law hFr fun ns hl => ?_
  obtain ⟨Fr2, d, s, e1, e2, e3⟩ := plain ns hl
  rw [hFr] at e1
  cases e1
  exact ⟨d, s, e2, e3⟩
end Q
section
open PySem PySem.W PySem.Calls PyProof.Rows
theorem holds_of (plain : Q.Plain) : PySem.Challenge.rw_tightranges_k07_rules_left_out_and_put_i.Holds := by
  w_on; o_law
  refine HandSHeadRun.head_any (r := OpenLaw.row PySem.Challenge.rw_tightranges_k07_rules_left_out_and_put_i) (q := view (OpenLaw.row PySem.Challenge.rw_tightranges_k07_rules_left_out_and_put_i).prog [Q.TOPLAW]) (H := Q.hk) (ob := Q.ob) (M := 20000) (loose := Q.LOOSE) (d := HandSHeadRun.topDef (OpenLaw.row PySem.Challenge.rw_tightranges_k07_rules_left_out_and_put_i).prog Q.TOPLAW) (kwd := []) Q.ob_eq
    (by kernel_rfl) (fun s => by kernel_rfl) Q.run (by kernel_rfl) (by kernel_rfl) (by kernel_rfl) (by rfl) (by first | assumption | decide +kernel) (by decide +kernel) ⟨rfl, rfl, rfl, rfl, rfl, by decide +kernel⟩ ?hw ?hc
  case hw => w_witness2
  case hc =>
    refine Pv.walk_ofG (l := PySem.Challenge.rw_tightranges_k07_rules_left_out_and_put_i) (n := 63) (k := Q.LV + 1) (x := "script") rfl (by decide) (by kernel_rfl) ⟨rfl, by decide, by decide⟩ ?F
    intro w mg fa h Y G hmg0
    obtain ⟨K, KX, c⟩ := Y
    have hmg : mg ("law" : PySem.Str) = some (.ref fa) := by
      have e : (HandSHeadRun.topDef (OpenLaw.row PySem.Challenge.rw_tightranges_k07_rules_left_out_and_put_i).prog Q.TOPLAW).name = ("law" : PySem.Str) := by kernel_rfl
      rw [← e]
      exact hmg0
    obtain ⟨fd, hb, hF⟩ := Q.facts (P := (PySem.Challenge.rw_tightranges_k07_rules_left_out_and_put_i).prog) (w := w) plain KX G hmg c
    exact ⟨K, fd, Pv.spLaw K, KX, hb, fun H a ns hl ho hS => ⟨a, ns, rfl, hl, Pv.sqF_only ho hS, fun _ => rfl⟩, hF⟩
end
end
section
set_option maxHeartbeats 4000000
namespace Q
open PySem PySem.Spec PyProof.Rows L2 Pv
def F_draw : List D → M (Option Rg) D := drawF dk
def G__law_rng : Gm (Option Rg) := ⟨[F_draw], consD⟩
def F__law_rng : List D → M (Option Rg) D := d__law_rng.F G__law_rng
theorem e__law_rng : F__law_rng = runF G__law_rng 0 sg__law_rng ⟨5, ir__law_rng⟩ := rfl
def G__law_words : Gm (Option Rg) := ⟨[F_draw, F__law_rng], consD⟩
def F__law_words : List D → M (Option Rg) D := d__law_words.F G__law_words
theorem e__law_words : F__law_words = runF G__law_words 0 sg__law_words ⟨6, ir__law_words⟩ := rfl
theorem gl__law_words_draw : G__law_words.fns[0]? = some F_draw := rfl
def G__law_end : Gm (Option Rg) := ⟨[F_draw, F__law_rng, F__law_words], consD⟩
def F__law_end : List D → M (Option Rg) D := d__law_end.F G__law_end
theorem e__law_end : F__law_end = runF G__law_end 0 sg__law_end ⟨2, ir__law_end⟩ := rfl
theorem gl__law_end_draw : G__law_end.fns[0]? = some F_draw := rfl
def G__law_within : Gm (Option Rg) := ⟨[F_draw, F__law_rng, F__law_words, F__law_end], consD⟩
def F__law_within : List D → M (Option Rg) D := d__law_within.F G__law_within
theorem e__law_within : F__law_within = runF G__law_within 0 sg__law_within ⟨4, ir__law_within⟩ := rfl
theorem gl__law_within__law_end : G__law_within.fns[3]? = some F__law_end := rfl
def G__law_rule : Gm (Option Rg) := ⟨[F_draw, F__law_rng, F__law_words, F__law_end, F__law_within], consD⟩
def F__law_rule : List D → M (Option Rg) D := d__law_rule.F G__law_rule
theorem e__law_rule : F__law_rule = runF G__law_rule 0 sg__law_rule ⟨9, ir__law_rule⟩ := rfl
theorem gl__law_rule_draw : G__law_rule.fns[0]? = some F_draw := rfl
theorem gl__law_rule__law_within : G__law_rule.fns[4]? = some F__law_within := rfl
def G__law_rows : Gm (Option Rg) := ⟨[F_draw, F__law_rng, F__law_words, F__law_end, F__law_within, F__law_rule], consD⟩
def F__law_rows : List D → M (Option Rg) D := d__law_rows.F G__law_rows
theorem e__law_rows : F__law_rows = runF G__law_rows 0 sg__law_rows ⟨7, ir__law_rows⟩ := rfl
theorem gl__law_rows_draw : G__law_rows.fns[0]? = some F_draw := rfl
theorem gl__law_rows__law_rule : G__law_rows.fns[5]? = some F__law_rule := rfl
def G_is_range : Gm (Option Rg) := ⟨[F_draw, F__law_rng, F__law_words, F__law_end, F__law_within, F__law_rule, F__law_rows], consD⟩
def F_is_range : List D → M (Option Rg) D := d_is_range.F G_is_range
theorem e_is_range : F_is_range = runF G_is_range 0 sg_is_range ⟨1, ir_is_range⟩ := rfl
def G_ranges_in : Gm (Option Rg) := ⟨[F_draw, F__law_rng, F__law_words, F__law_end, F__law_within, F__law_rule, F__law_rows, F_is_range], consD⟩
def F_ranges_in : List D → M (Option Rg) D := d_ranges_in.F G_ranges_in
theorem e_ranges_in : F_ranges_in = runF G_ranges_in 0 sg_ranges_in ⟨3, ir_ranges_in⟩ := rfl
def G_names_in : Gm (Option Rg) := ⟨[F_draw, F__law_rng, F__law_words, F__law_end, F__law_within, F__law_rule, F__law_rows, F_is_range, F_ranges_in], consD⟩
def F_names_in : List D → M (Option Rg) D := d_names_in.F G_names_in
theorem e_names_in : F_names_in = runF G_names_in 0 sg_names_in ⟨4, ir_names_in⟩ := rfl
def G_is_rule : Gm (Option Rg) := ⟨[F_draw, F__law_rng, F__law_words, F__law_end, F__law_within, F__law_rule, F__law_rows, F_is_range, F_ranges_in, F_names_in], consD⟩
def F_is_rule : List D → M (Option Rg) D := d_is_rule.F G_is_rule
theorem e_is_rule : F_is_rule = runF G_is_rule 0 sg_is_rule ⟨4, ir_is_rule⟩ := rfl
theorem gl_is_rule_is_range : G_is_rule.fns[7]? = some F_is_range := rfl
theorem gl_is_rule_ranges_in : G_is_rule.fns[8]? = some F_ranges_in := rfl
theorem gl_is_rule_names_in : G_is_rule.fns[9]? = some F_names_in := rfl
def G_is_name : Gm (Option Rg) := ⟨[F_draw, F__law_rng, F__law_words, F__law_end, F__law_within, F__law_rule, F__law_rows, F_is_range, F_ranges_in, F_names_in, F_is_rule], consD⟩
def F_is_name : List D → M (Option Rg) D := d_is_name.F G_is_name
theorem e_is_name : F_is_name = runF G_is_name 0 sg_is_name ⟨2, ir_is_name⟩ := rfl
def G_check_system : Gm (Option Rg) := ⟨[F_draw, F__law_rng, F__law_words, F__law_end, F__law_within, F__law_rule, F__law_rows, F_is_range, F_ranges_in, F_names_in, F_is_rule, F_is_name], consD⟩
def F_check_system : List D → M (Option Rg) D := d_check_system.F G_check_system
theorem e_check_system : F_check_system = runF G_check_system 0 sg_check_system ⟨6, ir_check_system⟩ := rfl
theorem gl_check_system_is_rule : G_check_system.fns[10]? = some F_is_rule := rfl
theorem gl_check_system_is_name : G_check_system.fns[11]? = some F_is_name := rfl
def G_System_init : Gm (Option Rg) := ⟨[F_draw, F__law_rng, F__law_words, F__law_end, F__law_within, F__law_rule, F__law_rows, F_is_range, F_ranges_in, F_names_in, F_is_rule, F_is_name, F_check_system], consD⟩
def F_System_init : List D → M (Option Rg) D := d_System_init.F G_System_init
theorem gl_System_init_check_system : G_System_init.fns[12]? = some F_check_system := rfl
def G_System_names : Gm (Option Rg) := ⟨[F_draw, F__law_rng, F__law_words, F__law_end, F__law_within, F__law_rule, F__law_rows, F_is_range, F_ranges_in, F_names_in, F_is_rule, F_is_name, F_check_system, F_System_init], consD⟩
def F_System_names : List D → M (Option Rg) D := d_System_names.F G_System_names
theorem e_System_names : F_System_names = runF G_System_names 0 sg_System_names ⟨1, ir_System_names⟩ := rfl
def G_System_rules : Gm (Option Rg) := ⟨[F_draw, F__law_rng, F__law_words, F__law_end, F__law_within, F__law_rule, F__law_rows, F_is_range, F_ranges_in, F_names_in, F_is_rule, F_is_name, F_check_system, F_System_init, F_System_names], consD⟩
def F_System_rules : List D → M (Option Rg) D := d_System_rules.F G_System_rules
theorem e_System_rules : F_System_rules = runF G_System_rules 0 sg_System_rules ⟨1, ir_System_rules⟩ := rfl
def G_System_len : Gm (Option Rg) := ⟨[F_draw, F__law_rng, F__law_words, F__law_end, F__law_within, F__law_rule, F__law_rows, F_is_range, F_ranges_in, F_names_in, F_is_rule, F_is_name, F_check_system, F_System_init, F_System_names, F_System_rules], consD⟩
def F_System_len : List D → M (Option Rg) D := d_System_len.F G_System_len
theorem e_System_len : F_System_len = runF G_System_len 0 sg_System_len ⟨1, ir_System_len⟩ := rfl
def G__law_shown : Gm (Option Rg) := ⟨[F_draw, F__law_rng, F__law_words, F__law_end, F__law_within, F__law_rule, F__law_rows, F_is_range, F_ranges_in, F_names_in, F_is_rule, F_is_name, F_check_system, F_System_init, F_System_names, F_System_rules, F_System_len], consD⟩
def F__law_shown : List D → M (Option Rg) D := d__law_shown.F G__law_shown
theorem e__law_shown : F__law_shown = runF G__law_shown 0 sg__law_shown ⟨1, ir__law_shown⟩ := rfl
theorem gl__law_shown_System_names : G__law_shown.fns[14]? = some F_System_names := rfl
theorem gl__law_shown_System_rules : G__law_shown.fns[15]? = some F_System_rules := rfl
theorem gl__law_shown_System_len : G__law_shown.fns[16]? = some F_System_len := rfl
def G_check_rule : Gm (Option Rg) := ⟨[F_draw, F__law_rng, F__law_words, F__law_end, F__law_within, F__law_rule, F__law_rows, F_is_range, F_ranges_in, F_names_in, F_is_rule, F_is_name, F_check_system, F_System_init, F_System_names, F_System_rules, F_System_len, F__law_shown], consD⟩
def F_check_rule : List D → M (Option Rg) D := d_check_rule.F G_check_rule
theorem e_check_rule : F_check_rule = runF G_check_rule 0 sg_check_rule ⟨2, ir_check_rule⟩ := rfl
def G_System_without : Gm (Option Rg) := ⟨[F_draw, F__law_rng, F__law_words, F__law_end, F__law_within, F__law_rule, F__law_rows, F_is_range, F_ranges_in, F_names_in, F_is_rule, F_is_name, F_check_system, F_System_init, F_System_names, F_System_rules, F_System_len, F__law_shown, F_check_rule], consD⟩
def F_System_without : List D → M (Option Rg) D := d_System_without.F G_System_without
theorem e_System_without : F_System_without = runF G_System_without 0 sg_System_without ⟨5, ir_System_without⟩ := rfl
theorem gl_System_without_System_init : G_System_without.fns[13]? = some F_System_init := rfl
theorem gl_System_without_check_rule : G_System_without.fns[18]? = some F_check_rule := rfl
def G_System_with_rule : Gm (Option Rg) := ⟨[F_draw, F__law_rng, F__law_words, F__law_end, F__law_within, F__law_rule, F__law_rows, F_is_range, F_ranges_in, F_names_in, F_is_rule, F_is_name, F_check_system, F_System_init, F_System_names, F_System_rules, F_System_len, F__law_shown, F_check_rule, F_System_without], consD⟩
def F_System_with_rule : List D → M (Option Rg) D := d_System_with_rule.F G_System_with_rule
theorem e_System_with_rule : F_System_with_rule = runF G_System_with_rule 0 sg_System_with_rule ⟨2, ir_System_with_rule⟩ := rfl
theorem gl_System_with_rule_System_init : G_System_with_rule.fns[13]? = some F_System_init := rfl
def G_System_beside : Gm (Option Rg) := ⟨[F_draw, F__law_rng, F__law_words, F__law_end, F__law_within, F__law_rule, F__law_rows, F_is_range, F_ranges_in, F_names_in, F_is_rule, F_is_name, F_check_system, F_System_init, F_System_names, F_System_rules, F_System_len, F__law_shown, F_check_rule, F_System_without, F_System_with_rule], consD⟩
def F_System_beside : List D → M (Option Rg) D := d_System_beside.F G_System_beside
theorem e_System_beside : F_System_beside = runF G_System_beside 0 sg_System_beside ⟨3, ir_System_beside⟩ := rfl
theorem gl_System_beside_System_init : G_System_beside.fns[13]? = some F_System_init := rfl
def G_System_eq : Gm (Option Rg) := ⟨[F_draw, F__law_rng, F__law_words, F__law_end, F__law_within, F__law_rule, F__law_rows, F_is_range, F_ranges_in, F_names_in, F_is_rule, F_is_name, F_check_system, F_System_init, F_System_names, F_System_rules, F_System_len, F__law_shown, F_check_rule, F_System_without, F_System_with_rule, F_System_beside], consD⟩
def F_System_eq : List D → M (Option Rg) D := d_System_eq.F G_System_eq
theorem e_System_eq : F_System_eq = runF G_System_eq 0 sg_System_eq ⟨2, ir_System_eq⟩ := rfl
def G__law_beside_right : Gm (Option Rg) := ⟨[F_draw, F__law_rng, F__law_words, F__law_end, F__law_within, F__law_rule, F__law_rows, F_is_range, F_ranges_in, F_names_in, F_is_rule, F_is_name, F_check_system, F_System_init, F_System_names, F_System_rules, F_System_len, F__law_shown, F_check_rule, F_System_without, F_System_with_rule, F_System_beside, F_System_eq], consD⟩
def F__law_beside_right : List D → M (Option Rg) D := d__law_beside_right.F G__law_beside_right
theorem e__law_beside_right : F__law_beside_right = runF G__law_beside_right 0 sg__law_beside_right ⟨15, ir__law_beside_right⟩ := rfl
theorem gl__law_beside_right__law_rows : G__law_beside_right.fns[6]? = some F__law_rows := rfl
theorem gl__law_beside_right_System_init : G__law_beside_right.fns[13]? = some F_System_init := rfl
theorem gl__law_beside_right_System_rules : G__law_beside_right.fns[15]? = some F_System_rules := rfl
theorem gl__law_beside_right__law_shown : G__law_beside_right.fns[17]? = some F__law_shown := rfl
theorem gl__law_beside_right_System_beside : G__law_beside_right.fns[21]? = some F_System_beside := rfl
theorem gl__law_beside_right_System_eq : G__law_beside_right.fns[22]? = some F_System_eq := rfl
def G_law : Gm (Option Rg) := ⟨[F_draw, F__law_rng, F__law_words, F__law_end, F__law_within, F__law_rule, F__law_rows, F_is_range, F_ranges_in, F_names_in, F_is_rule, F_is_name, F_check_system, F_System_init, F_System_names, F_System_rules, F_System_len, F__law_shown, F_check_rule, F_System_without, F_System_with_rule, F_System_beside, F_System_eq, F__law_beside_right], consD⟩
theorem gL : ΓL = G_law := rfl
theorem gl_law_draw : G_law.fns[0]? = some F_draw := rfl
theorem gl_law__law_words : G_law.fns[2]? = some F__law_words := rfl
theorem gl_law__law_rule : G_law.fns[5]? = some F__law_rule := rfl
theorem gl_law__law_rows : G_law.fns[6]? = some F__law_rows := rfl
theorem gl_law_System_init : G_law.fns[13]? = some F_System_init := rfl
theorem gl_law__law_shown : G_law.fns[17]? = some F__law_shown := rfl
theorem gl_law_System_without : G_law.fns[19]? = some F_System_without := rfl
theorem gl_law_System_with_rule : G_law.fns[20]? = some F_System_with_rule := rfl
theorem gl_law__law_beside_right : G_law.fns[23]? = some F__law_beside_right := rfl
end Q
end
section
set_option maxHeartbeats 2000000
namespace Q
open PySem PySem.Spec PyProof.Rows L2 Pv
theorem drw {k : Nat} {s : Option Rg} {n : Int} (h : Good (k + 1) s) (h0 : 0 < n) (h1 : n < 2 ^ 1000) : ∃ i s', F_draw [.rng, .int n] s = .ok (.int i) s' ∧ 0 ≤ i ∧ i < n ∧ Good k s' := draw_ok (dk := dk) h h0 h1
theorem f_is_range (s : Option Rg) (x : Rv) : F_is_range [dR x] s = .ok (.bl (vR x)) s := by
  rcases x with _ | ⟨_ | a, _ | b⟩ <;> rfl
/-- one turn -/
def rngBody : List IS := match ir__law_rng with
  | [_, .forL _ _ _ b, _] => b
  | _ => []
theorem rng_turn (st : Option Rg) {a : D} {n d s : Int} {k : Nat} (z : Option (D × Fl)) (o : Option (D × Fl)) (h0 : 0 ≤ d) (h : d < 2 ^ (200 * k)) (hk : k ≤ 63) :
    exs G__law_rng 0 rngBody (put [some (a, .frz), some (.int d, .frz), some (.int s, .frz), o, z] 3 (.int n) .frz) st = .ok (.nx [some (a, .frz), some (.int (stepD n d), .frz), some (.int (stepS n s), .frz), some (.int n, .frz), some (.int (absI n), .frz)]) st := by
  by_cases hn : (10 : Int) ^ 18 ≤ absI n
  · have e : stepD n d = d * 10 ^ 60 + absI n % 10 ^ 60 := if_pos hn
    rw [e]
    simp [-Int.reducePow, rngBody, ir__law_rng, sg__law_rng, exs, ex, ev, evs, getI, put, bind_def, truth, pure_s, absE, intE, geI, pow18, pow60, mulB h0 h hk, modI, m60, addI, mulR, stepS, hn]
    done
  · have e : stepD n d = d := if_neg hn
    rw [e]
    simp [-Int.reducePow, rngBody, ir__law_rng, sg__law_rng, exs, ex, ev, evs, getI, put, bind_def, truth, pure_s, absE, intE, geI, pow18, pow60, mulB h0 h hk, modI, m60, addI, mulR, stepS, hn]
    done
theorem rng_loop (st : Option Rg) {a : D} : ∀ (ns : List Int) (d s : Int) (k : Nat) (z o : Option (D × Fl)), 0 ≤ d → d < 2 ^ (200 * k) → ns.length + k ≤ 63 → 0 ≤ s → s < 2 ^ 61 →
    ∃ d' s' z' o', forD (fun d e => exs G__law_rng 0 rngBody (put e 3 d .frz)) (ns.map D.int) [some (a, .frz), some (.int d, .frz), some (.int s, .frz), o, z] st = .ok (.nx [some (a, .frz), some (.int d', .frz), some (.int s', .frz), o', z']) st ∧ 0 ≤ s' ∧ s' < 2 ^ 61
  | [], d, s, k, z, o, h0, h, hk, s0, s1 => ⟨d, s, z, o, rfl, s0, s1⟩
  | n :: ns, d, s, k, z, o, h0, h, hk, s0, s1 => by
    have hk2 : (ns.length + 1) + k ≤ 63 := hk
    have t := rng_turn st (a := a) (n := n) (d := d) (s := s) (k := k) z o h0 h (by omega)
    obtain ⟨b0, b1⟩ := stepD_b (n := n) h0 h
    obtain ⟨c0, c1⟩ := stepS_b n s
    obtain ⟨d', s', z', o', e, e1, e2⟩ := rng_loop st ns (stepD n d) (stepS n s) (k + 1) (some (.int (absI n), .frz)) (some (.int n, .frz)) b0 b1 (by omega) c0 c1
    refine ⟨d', s', z', o', ?_, e1, e2⟩
    show (exs G__law_rng 0 rngBody (put _ 3 (.int n) .frz) >>= _) st = _
    rw [bind_def, t]
    exact e
theorem f__law_rng (st : Option Rg) (ns : List Int) (h : ns.length ≤ 63) : ∃ d s, F__law_rng [.scr ns] st = .ok (.lst [.int d, .int s, .int 0]) st ∧ 0 ≤ s ∧ s < 2 ^ 61 := by
  have e := e__law_rng
  obtain ⟨d, s, z, o, e1, e2, e3⟩ := rng_loop st (a := .scr ns) ns 0 88675123 0 none none (by decide) (by decide) (by omega) (by decide) (by decide)
  refine ⟨d, s, ?_, e2, e3⟩
  have sl : opSl (.scr ns) none (some 63) = some (.lst (ns.map D.int)) := by
    show (if ns.length ≤ sizeLine then some (D.lst ((Pv.cutD ns none (some 63)).map D.int)) else none) = _
    rw [cut63 ns h, if_pos (Nat.le_trans h (by decide))]
  have sq : seqOf (.lst (ns.map D.int)) = some (ns.map D.int) := rfl
  have hir : ir__law_rng = [.unp [1, 2] (.tup [(.cst (.int 0)), (.cst (.int 88675123))]), .forL 3 (.slc false true (.var 0) (.cst .non) (.cst (.int 63))) none rngBody, .ret (.lst [(.var 1), (.var 2), (.cst (.int 0))])] := rfl
  simp only [put] at e1
  rw [e]
  unfold runF
  simp only [hir]
  simp [-Int.reducePow, sg__law_rng, exs, ex, evs, ev, evPart, startE, getI, put, puts, bind_def, pure_s, holdOn, holdOff, sl, sq, e1, md, isBox]
theorem dBn : dB none = .non := rfl
theorem dBs (i : Int) : dB (some i) = .int i := rfl
theorem n0n : opCmp .IsNot .non .non = some false := rfl
theorem n0i (i : Int) : opCmp .IsNot (.int i) .non = some true := rfl
def nxE (us : List Rul) (ks : List Str) (h : Hf) (m : Mv) (o3 o4 o5 : Option (D × Fl)) : IEnv := [some (.lst (us.map dU), .frz), some (hD ks h, .lent), some (dM m, .frz), o3, o4, o5, none, none]
abbrev Ob := Option (D × Fl)
def fz (d : D) : Ob := some (d, .frz)
/-! the law's own run -/
def irE (ws : List Str) (us : List Rul) (ms : List Mv) (ks : List Str) (h : Hf) (o5 o6 o7 : Ob) : IEnv := [fz (.lst (ws.map D.str)), fz (.lst (us.map dU)), some (.lst (ms.map dM), .lent), some (hD ks h, .own), none, o5, o6, o7]
theorem tiOf_idx {us : List Rul} {h : Hf} {n : Int} {v : Option Int} {x : Int} (e : nxt us h (n, v) = some x) : ∃ u, us[n.toNat]? = some u ∧ opIdx (.lst (us.map dU)) (.int n) = some (dU u) ∧ opIdx (dU u) (.int 1) = some (.str (tiOf us n)) ∧ u.ti = tiOf us n := by
  unfold nxt at e
  split at e
  · rename_i hr
    obtain ⟨u, h1, h2⟩ := atI_rules hr
    refine ⟨u, h1, h2, ?_, ?_⟩
    · unfold tiOf
      rw [h1]
      cases u <;> rfl
    · unfold tiOf
      rw [h1]
  · cases e
theorem ti_in {ks : List Str} {u : Rul} (h : okU ks u) : u.ti ∈ ks := h.1 _ (by cases u <;> exact .head _)
def sysD (ks : List Str) (us : List Rul) : D := .ins "System" [("kept_names", .tup (ks.map D.str)), ("kept_rules", .tup (us.map dU))]
def plE (ks : List Str) (us : List Rul) (ms : List Mv) (h : Hf) (o4 o5 o6 o7 o8 : Ob) : IEnv := [fz (sysD ks us), some (.lst (ms.map dM), .lent), some (hD ks h, .own), none, o4, o5, o6, o7, o8]
theorem fld_names {ks : List Str} {us : List Rul} {Γ : Gm (Option Rg)} {E : IEnv} {s : Option Rg} (h : getI E 0 = some (sysD ks us, .frz)) : ev Γ (.fld "System" (.var 0) "kept_names") E s = .ok (.tup (ks.map D.str)) s := by
  unfold ev ev
  rw [h]
  rfl
theorem fld_rules {ks : List Str} {us : List Rul} {Γ : Gm (Option Rg)} {E : IEnv} {s : Option Rg} (h : getI E 0 = some (sysD ks us, .frz)) : ev Γ (.fld "System" (.var 0) "kept_rules") E s = .ok (.tup (us.map dU)) s := by
  unfold ev ev
  rw [h]
  rfl
def W12 : List Str := ["x", "y", "ab", "jkv", "q", "lowhere", "rowx", "rowy", "rowab", "rowjkv", "rowq", "rowlowhe", "m", "n", "rowfar", "o", "p"]
def WX : List Str := ["x", "y", "ab", "jkv", "q", "lowhere", "rowx", "rowy", "rowab", "rowjkv", "rowq", "rowlowhe"]
theorem wx_w {w : Str} (h : w ∈ WX) : w ∈ W12 := of_decide_eq_true (List.all_eq_true.mp (show (WX.all fun w => decide (w ∈ W12)) = true by decide +kernel) w h)
def LET : Str := "abcdefghijklmnopqrstuvwxyz"
theorem w12_ok : (W12.all fun w => decide (1 ≤ w.length ∧ w.length ≤ 8) && w.cps.toList.all fun c => inSub ⟨#[c]⟩ LET) = true := by decide +kernel
theorem f_is_name (s : Option Rg) {w : Str} (h : w ∈ W12) : F_is_name [.str w] s = .ok (.bl true) s := by
  have z := List.all_eq_true.mp w12_ok w h
  rw [Bool.and_eq_true, decide_eq_true_eq] at z
  obtain ⟨⟨z1, z2⟩, z3⟩ := z
  have z3 := List.all_eq_true.mp z3
  have e := e_is_name
  let E : IEnv := [some (.str w, .frz), none]
  have g1 : G_is_name.cons[1]? = some (.str LET) := rfl
  have g2 : G_is_name.cons[2]? = some (.int 8) := rfl
  have es : ev G_is_name (.chs (.var 0)) E s = .ok (.tup (charsD w)) s := rfl
  have sq : seqOf (.tup (charsD w)) = some (w.cps.toList.map fun c => D.str ⟨#[c]⟩) := by
    show (if _ then _ else _) = _
    have : (charsD w).length = w.length := by unfold charsD; simp [Str.length]
    rw [if_pos (by rw [this]; exact Nat.le_trans z2 (by decide))]
    rfl
  have r := lcg_ev (Γ := G_is_name) (env := E) (s := s) (tg := .nm 1) (c := .cst (.bl true)) (body := .cmp .In (.var 1) (.glb 1)) (φ := fun c => D.str ⟨#[c]⟩) (L := w.cps.toList) (q := fun _ => true) (g := fun _ => .bl true) es sq rfl (fun c m => ⟨put E 1 (.str ⟨#[c]⟩) .frz, rfl, rfl, fun _ => by
    have q : opCmp .In (.str ⟨#[c]⟩) (.str LET) = some true := by
      show some (inSub _ _) = _
      rw [z3 c m]
    simp [E, ev, getI, put, bind_def, pure_s, g1, q]⟩)
  rw [List.filter_eq_self.mpr (fun _ _ => rfl)] at r
  have a := ev_bi1 r (all_bl (fun _ => true) w.cps.toList)
  have at_ : w.cps.toList.all (fun _ => true) = true := by simp
  rw [at_] at a
  have hl : opBi .len [.str w] = some (.int w.length) := by
    show (if _ then _ else _) = _
    rw [if_pos (Nat.le_trans z2 (by decide))]
  have l1 : (1 : Int) ≤ (w.length : Int) := by omega
  have l2 : (w.length : Int) ≤ 8 := by omega
  have hx : ev G_is_name (.and (.chn .LtE .LtE (.cst (.int 1)) (.bi .len [(.var 0)]) (.glb 2)) (.bi .all [(.lcg (.nm 1) (.chs (.var 0)) (.cst (.bl true)) (.cmp .In (.var 1) (.glb 1)))])) E s = .ok (.bl true) s := by
    generalize (IE.bi .all [(.lcg (.nm 1) (.chs (.var 0)) (.cst (.bl true)) (.cmp .In (.var 1) (.glb 1)))]) = X at a ⊢
    have c : (ev G_is_name (.chn .LtE .LtE (.cst (.int 1)) (.bi .len [(.var 0)]) (.glb 2)) E >>= truth) s = .ok true s := by
      simp [E, ev, evs, getI, bind_def, pure_s, hl, g2, leI, l1, l2, truth]
    unfold ev
    rw [bind_def, c]
    exact a
  rw [e]
  exact run_ret rfl rfl (exsR (ex_ret hx))
theorem cut100 {n : Nat} (h : n ≤ 200) : n ≤ sizeLine := Nat.le_trans h (by decide)
def hdN : Rul → List Str
  | .set t _ _ => [t]
  | .step t x _ _ _ _ => [t, x]
theorem f_names_in (s : Option Rg) {ks : List Str} {u : Rul} (hu : okU ks u) : F_names_in [dU u] s = .ok (.lst (u.nms.map D.str)) s := by
  have e := e_names_in
  have gc : G_names_in.cons[0]? = some (.str "set") := rfl
  have en : u.nms = hdN u ++ u.cs.map (·.1) := by cases u <;> rfl
  let E0 : IEnv := [some (dU u, .frz), none, none, none]
  let E : IEnv := [some (dU u, .frz), some (.lst ((hdN u).map D.str), .frz), none, none]
  have t0 : ex G_names_in 0 (ir_names_in.getD 0 .never) E0 s = .ok (.nx E) s := by
    cases u with
    | set t r cs => rfl
    | step t x f a r cs => rfl
  have es : ev G_names_in (.idx (.var 0) (.neg (.cst (.int 1)))) E s = .ok (.tup (u.cs.map dC)) s := by
    simp [E, ev, getI, bind_def, pure_s, idx_cs]
  have r := lcg_ev (Γ := G_names_in) (env := E) (s := s) (tg := .tu [2, 3]) (c := .cst (.bl true)) (body := .var 2) (φ := dC) (L := u.cs) (q := fun _ => true) (g := fun c => .str c.1) es (cs_seq hu) rfl (fun c m => ⟨puts E [2, 3] [.str c.1, dG c.2], rfl, rfl, fun _ => rfl⟩)
  rw [List.filter_eq_self.mpr (fun _ _ => rfl)] at r
  have l0 : (hdN u).length ≤ 2 := by
    cases u <;> simp [hdN]
  have add : opBin .Add (.lst ((hdN u).map D.str)) (.lst (u.cs.map fun c => .str c.1)) = some (.lst (u.nms.map D.str)) := by
    show (if _ then _ else _) = _
    rw [if_pos (by rw [List.length_map, List.length_map]; exact cut100 (by have := hu.2.1; omega)), en, List.map_append, List.map_map]
    rfl
  have t1 : ev G_names_in (.bin .Add (.var 1) (.lcg (.tu [2, 3]) (.idx (.var 0) (.neg (.cst (.int 1)))) (.cst (.bl true)) (.var 2))) E s = .ok (.lst (u.nms.map D.str)) s := by
    have h1 : ev G_names_in (.var 1) E s = .ok (.lst ((hdN u).map D.str)) s := rfl
    generalize (IE.lcg (.tu [2, 3]) (.idx (.var 0) (.neg (.cst (.int 1)))) (.cst (.bl true)) (.var 2)) = X at r ⊢
    unfold ev
    rw [bind_def, h1]
    dsimp only
    rw [bind_def, r]
    dsimp only
    rw [add]
    rfl
  have hir : ir_names_in = [ir_names_in.getD 0 .never, .ret (.bin .Add (.var 1) (.lcg (.tu [2, 3]) (.idx (.var 0) (.neg (.cst (.int 1)))) (.cst (.bl true)) (.var 2)))] := rfl
  have hx : exs G_names_in 0 ir_names_in E0 s = .ok (.ret (.lst (u.nms.map D.str)) true) s := by
    rw [hir, exsN t0, exsR (ex_ret t1)]
    rfl
  rw [e]
  exact run_ret rfl rfl hx
theorem f_ranges_in (s : Option Rg) {ks : List Str} {u : Rul} (hu : okU ks u) : F_ranges_in [dU u] s = .ok (.lst ((u.rn :: u.cs.map (·.2)).map dG)) s := by
  have e := e_ranges_in
  let E : IEnv := [some (dU u, .frz), none, none]
  have es : ev G_ranges_in (.idx (.var 0) (.neg (.cst (.int 1)))) E s = .ok (.tup (u.cs.map dC)) s := by
    simp [E, ev, getI, bind_def, pure_s, idx_cs]
  have r := lcg_ev (Γ := G_ranges_in) (env := E) (s := s) (tg := .tu [1, 2]) (c := .cst (.bl true)) (body := .var 2) (φ := dC) (L := u.cs) (q := fun _ => true) (g := fun c => dG c.2) es (cs_seq hu) rfl (fun c m => ⟨puts E [1, 2] [.str c.1, dG c.2], rfl, rfl, fun _ => rfl⟩)
  rw [List.filter_eq_self.mpr (fun _ _ => rfl)] at r
  have h1 : ev G_ranges_in (.lst [(.ite (.cmp .Eq (.idx (.var 0) (.cst (.int 0))) (.glb 0)) (.idx (.var 0) (.cst (.int 2))) (.idx (.var 0) (.cst (.int 5))))]) E s = .ok (.lst [dG u.rn]) s := by
    cases u <;> rfl
  have add : opBin .Add (.lst [dG u.rn]) (.lst (u.cs.map fun c => dG c.2)) = some (.lst ((u.rn :: u.cs.map (·.2)).map dG)) := by
    show (if _ then _ else _) = _
    rw [if_pos (by rw [List.length_map]; exact cut100 (by have := hu.2.1; show 1 + _ ≤ 200; omega)), List.map_cons, List.map_map]
    rfl
  have t1 : ev G_ranges_in (.bin .Add (.lst [(.ite (.cmp .Eq (.idx (.var 0) (.cst (.int 0))) (.glb 0)) (.idx (.var 0) (.cst (.int 2))) (.idx (.var 0) (.cst (.int 5))))]) (.lcg (.tu [1, 2]) (.idx (.var 0) (.neg (.cst (.int 1)))) (.cst (.bl true)) (.var 2))) E s = .ok (.lst ((u.rn :: u.cs.map (·.2)).map dG)) s := by
    generalize (IE.lcg (.tu [1, 2]) (.idx (.var 0) (.neg (.cst (.int 1)))) (.cst (.bl true)) (.var 2)) = X at r ⊢
    generalize (IE.lst [(.ite (.cmp .Eq (.idx (.var 0) (.cst (.int 0))) (.glb 0)) (.idx (.var 0) (.cst (.int 2))) (.idx (.var 0) (.cst (.int 5))))]) = Y at h1 ⊢
    unfold ev
    rw [bind_def, h1]
    dsimp only
    rw [bind_def, r]
    dsimp only
    rw [add]
    rfl
  have hx : exs G_ranges_in 0 ir_ranges_in E s = .ok (.ret (.lst ((u.rn :: u.cs.map (·.2)).map dG)) true) s := exsR (ex_ret t1)
  rw [e]
  exact run_ret rfl rfl hx
/-- a rule that may stand in a system -/
def okR (ks : List Str) (u : Rul) : Prop := okU ks u ∧ (∀ r ∈ u.rn :: u.cs.map (·.2), vB r = true) ∧ (match u with | .step _ _ f _ _ _ => f ≠ 0 | _ => True)
theorem f_is_rule (s : Option Rg) {ks : List Str} {u : Rul} (hu : okR ks u) : F_is_rule [dU u, .lst (ks.map D.str)] s = .ok (.bl true) s := by
  have e := e_is_rule
  have g4 := gl_is_rule_names_in
  have g3 := gl_is_rule_ranges_in
  have g2 := gl_is_rule_is_range
  let E : IEnv := [some (dU u, .frz), some (.lst (ks.map D.str), .frz), none, none]
  have c4 : ev G_is_rule (.call 9 false [(.var 0)]) E s = .ok (.lst (u.nms.map D.str)) s := by
    simp [E, ev, evs, callF, getI, bind_def, pure_s, g4, f_names_in s hu.1]
  have c3 : ev G_is_rule (.call 8 false [(.var 0)]) E s = .ok (.lst ((u.rn :: u.cs.map (·.2)).map dG)) s := by
    simp only [E, ev, evs, callF, getI, bind_def, pure_s, g3, f_ranges_in s hu.1]
    simp [pure_s, g3, f_ranges_in s hu.1]
  have l1 := lc_ev (Γ := G_is_rule) (env := E) (s := s) (i := 2) (body := .cmp .In (.var 2) (.var 1)) (φ := D.str) (L := u.nms) (g := fun n => .bl true) c4 rfl rfl (fun n m => by
    have z : opCmp .In (.str n) (.lst (ks.map D.str)) = some true := by
      show inD _ _ = _
      rw [inD_str, decide_eq_true (hu.1.1 n m)]
    simp [E, ev, getI, put, bind_def, pure_s, z])
  have l2 := lc_ev (Γ := G_is_rule) (env := E) (s := s) (i := 3) (body := .and (.cmp .IsNot (.var 3) (.cst .non)) (.call 7 false [(.var 3)])) (φ := dG) (L := u.rn :: u.cs.map (·.2)) (g := fun n => .bl true) c3 rfl rfl (fun r m => by
    have z : opCmp .IsNot (dG r) .non = some true := rfl
    have f : F_is_range [dG r] s = .ok (.bl true) s := by
      have := f_is_range s (some r)
      have v : vR (some r) = true := hu.2.1 r m
      rw [v] at this
      exact this
    simp [E, ev, evs, callF, getI, put, bind_def, pure_s, z, truth, g2, f])
  have a1 := ev_bi1 l1 (all_bl (fun _ => true) u.nms)
  have a2 := ev_bi1 l2 (all_bl (fun _ => true) (u.rn :: u.cs.map (·.2)))
  have at_ : ∀ {α : Type} (L : List α), L.all (fun _ => true) = true := fun L => by simp
  rw [at_] at a1 a2
  have t0 := ex_ite (N := 0) (a := [.ret (.cst (.bl false))]) (b := []) (tr_bl (ev_not (tr_bl a1)))
  have t0 : ex G_is_rule 0 (.ite (.not (.bi .all [(.lc 2 (.call 9 false [(.var 0)]) (.cmp .In (.var 2) (.var 1)))])) [.ret (.cst (.bl false))] []) E s = .ok (.nx E) s := t0
  have t1 : ex G_is_rule 0 (.ite (.and (.cmp .NotEq (.idx (.var 0) (.cst (.int 0))) (.glb 0)) (.cmp .Eq (.idx (.var 0) (.cst (.int 3))) (.cst (.int 0)))) [.ret (.cst (.bl false))] []) E s = .ok (.nx E) s := by
    have gc : G_is_rule.cons[0]? = some (.str "set") := rfl
    cases u with
    | set t r cs => rfl
    | step t x f a r cs =>
      have hf : f ≠ 0 := hu.2.2
      have q0 : opIdx (dU (.step t x f a r cs)) (.int 0) = some (.str "step") := rfl
      have q3 : opIdx (dU (.step t x f a r cs)) (.int 3) = some (.int f) := rfl
      have ne : ¬ (("step" : Str) = "set") := by decide
      simp [E, exs, ex, ev, getI, bind_def, pure_s, truth, gc, q0, q3, neSS, eqI, ne, hf]
  have hir : ir_is_rule = [.ite (.not (.bi .all [(.lc 2 (.call 9 false [(.var 0)]) (.cmp .In (.var 2) (.var 1)))])) [.ret (.cst (.bl false))] [], .ite (.and (.cmp .NotEq (.idx (.var 0) (.cst (.int 0))) (.glb 0)) (.cmp .Eq (.idx (.var 0) (.cst (.int 3))) (.cst (.int 0)))) [.ret (.cst (.bl false))] [], .ret (.bi .all [(.lc 3 (.call 8 false [(.var 0)]) (.and (.cmp .IsNot (.var 3) (.cst .non)) (.call 7 false [(.var 3)])))])] := rfl
  have hx : exs G_is_rule 0 ir_is_rule E s = .ok (.ret (.bl true) false) s := by
    rw [hir, exsN t0, exsN t1, exsR (ex_ret a2)]
    rfl
  rw [e]
  exact run_ret rfl rfl hx
theorem run_nx {Γ : Gm (Option Rg)} {N n : Nat} {sg : Sig} {ir : List IS} {ds : List D} {s s1 : Option Rg} {E : IEnv} (hl : ds.length = sg.lend.length) (h : exs Γ N ir (startE n sg.lend ds) s = .ok (.nx E) s1) : runF Γ N sg ⟨n, ir⟩ ds s = .ok .non s1 := by
  unfold runF
  rw [if_pos hl, bind_def, h]
  rfl
/-! a system is made -/
def csE (ws : List Str) (us : List Rul) (o2 o3 o4 o5 : Ob) : IEnv := [fz (.lst (ws.map D.str)), fz (.lst (us.map dU)), o2, o3, o4, o5]
def CS1 : List IS := match ir_check_system with
  | .forG _ _ b :: _ => b
  | _ => []
def CS2 : List IS := match ir_check_system with
  | [_, .forG _ _ b] => b
  | _ => []
theorem slTake {ws : List Str} {k : Nat} (h : k ≤ ws.length) (h2 : ws.length ≤ 100) : opSl (.lst (ws.map D.str)) none (some (k : Int)) = some (.lst ((ws.take k).map D.str)) := by
  show some (D.lst (Pv.cutD (ws.map D.str) none (some (k : Int)))) = _
  have e : Pv.cutD (ws.map D.str) none (some (k : Int)) = (ws.map D.str).take k := by
    show (List.drop 0 (ws.map D.str)).take ((if (k : Int) < 0 then ((k : Int) + ((ws.map D.str).length : Int)).toNat else min (k : Int).toNat (ws.map D.str).length) - 0) = _
    rw [if_neg (by omega), List.drop_zero, Nat.sub_zero, List.length_map]
    congr 1
    omega
  rw [e, List.map_take]
theorem cs_loop1 {s : Option Rg} {ws : List Str} {us : List Rul} (hn : ∀ w ∈ ws, w ∈ W12) (nd : ws.Nodup) (hk : ws.length ≤ 100) : ∀ (bs as : List Str) (o2 o3 o4 o5 : Ob), ws = as ++ bs →
    ∃ p2 p3, forD (fun d e => onT (.tu [2, 3]) d e fun e => exs G_check_system 0 CS1 e) (enumL as.length (bs.map D.str)) (csE ws us o2 o3 o4 o5) s = .ok (.nx (csE ws us p2 p3 o4 o5)) s
  | [], as, o2, o3, o4, o5, _ => ⟨o2, o3, rfl⟩
  | b :: bs, as, o2, o3, o4, o5, e => by
    have g6 := gl_check_system_is_name
    have hb : b ∈ ws := by rw [e]; simp
    have fn := f_is_name s (hn b hb)
    have la : as.length ≤ ws.length := by rw [e, List.length_append]; omega
    have sl := slTake la hk
    have tk : ws.take as.length = as := by rw [e]; simp
    rw [tk] at sl
    have nb : b ∉ as := fun m => by
      rw [e, List.nodup_append] at nd
      exact nd.2.2 b m b (.head _) rfl
    have hin : opCmp .In (.str b) (.lst (as.map D.str)) = some false := by
      show inD _ _ = _
      rw [inD_str, decide_eq_false nb]
    have step : (onT (.tu [2, 3]) (.tup [.int as.length, .str b]) (csE ws us o2 o3 o4 o5) fun e => exs G_check_system 0 CS1 e) s = exs G_check_system 0 CS1 (csE ws us (fz (.int as.length)) (fz (.str b)) o4 o5) s := rfl
    have sb : exs G_check_system 0 CS1 (csE ws us (fz (.int as.length)) (fz (.str b)) o4 o5) s = .ok (.nx (csE ws us (fz (.int as.length)) (fz (.str b)) o4 o5)) s := by
      simp [CS1, ir_check_system, exs, ex, ev, evs, evPart, callF, csE, fz, getI, bind_def, pure_s, truth, g6, fn, sl, hin]
    obtain ⟨p2, p3, r⟩ := cs_loop1 (s := s) (us := us) hn nd hk bs (as ++ [b]) (fz (.int as.length)) (fz (.str b)) o4 o5 (by rw [e]; simp)
    refine ⟨p2, p3, ?_⟩
    rw [List.map_cons]
    unfold enumL
    rw [forD_nx (step.trans sb)]
    rw [List.length_append] at r
    exact r
theorem cs_loop2 {s : Option Rg} {ws : List Str} {us : List Rul} : ∀ (bs : List Rul) (k : Nat) (o2 o3 o4 o5 : Ob), (∀ u ∈ bs, okR ws u) →
    ∃ p4 p5, forD (fun d e => onT (.tu [4, 5]) d e fun e => exs G_check_system 0 CS2 e) (enumL k (bs.map dU)) (csE ws us o2 o3 o4 o5) s = .ok (.nx (csE ws us o2 o3 p4 p5)) s
  | [], k, o2, o3, o4, o5, _ => ⟨o4, o5, rfl⟩
  | b :: bs, k, o2, o3, o4, o5, h => by
    have g5 := gl_check_system_is_rule
    have fr := f_is_rule s (h b (.head _))
    have step : (onT (.tu [4, 5]) (.tup [.int k, dU b]) (csE ws us o2 o3 o4 o5) fun e => exs G_check_system 0 CS2 e) s = exs G_check_system 0 CS2 (csE ws us o2 o3 (fz (.int k)) (fz (dU b))) s := rfl
    have sb : exs G_check_system 0 CS2 (csE ws us o2 o3 (fz (.int k)) (fz (dU b))) s = .ok (.nx (csE ws us o2 o3 (fz (.int k)) (fz (dU b)))) s := by
      simp [CS2, ir_check_system, exs, ex, ev, evs, callF, csE, fz, getI, bind_def, pure_s, truth, g5, fr]
    obtain ⟨p4, p5, r⟩ := cs_loop2 (s := s) (us := us) bs (k + 1) o2 o3 (fz (.int k)) (fz (dU b)) fun u m => h u (.tail _ m)
    refine ⟨p4, p5, ?_⟩
    rw [List.map_cons]
    unfold enumL
    rw [forD_nx (step.trans sb)]
    exact r
theorem f_check_system (s : Option Rg) {ws : List Str} {us : List Rul} (hn : ∀ w ∈ ws, w ∈ W12) (nd : ws.Nodup) (hk : ws.length ≤ 100) (hr : ∀ u ∈ us, okR ws u) (hu : us.length ≤ 100) : F_check_system [.lst (ws.map D.str), .lst (us.map dU)] s = .ok .non s := by
  have e := e_check_system
  obtain ⟨p2, p3, r1⟩ := cs_loop1 (s := s) (us := us) hn nd hk ws [] none none none none rfl
  obtain ⟨p4, p5, r2⟩ := cs_loop2 (s := s) (ws := ws) (us := us) us 0 p2 p3 none none hr
  have en : ∀ {α : Type} (f : α → D) (L : List α), L.length ≤ 100 → seqOf (.tup (enumL 0 (L.map f))) = some (enumL 0 (L.map f)) := fun f L h => by
    show (if _ then _ else _) = _
    rw [if_pos (by rw [enumL_len, List.length_map]; exact cut100 (by omega))]
  have t1 : ex G_check_system 0 (.forG (.tu [2, 3]) (.enm (.var 0)) CS1) (csE ws us none none none none) s = .ok (.nx (csE ws us p2 p3 none none)) s := by
    rw [← r1]
    unfold ex
    have lt : lts (csE ws us none none none none) (.enm (.var 0)) = true := rfl
    rw [if_pos lt]
    have e1 : ev G_check_system (.enm (.var 0)) (csE ws us none none none none) s = .ok (.tup (enumL 0 (ws.map D.str))) s := rfl
    show (ev G_check_system (.enm (.var 0)) (csE ws us none none none none) >>= fun x => opt (seqOf x) >>= fun l => forD _ l _) s = _
    rw [bind_def, e1]
    dsimp only
    rw [bind_def, en D.str ws hk]
    rfl
  have t2 : ex G_check_system 0 (.forG (.tu [4, 5]) (.enm (.var 1)) CS2) (csE ws us p2 p3 none none) s = .ok (.nx (csE ws us p2 p3 p4 p5)) s := by
    rw [← r2]
    unfold ex
    have lt : lts (csE ws us p2 p3 none none) (.enm (.var 1)) = true := rfl
    rw [if_pos lt]
    have e1 : ev G_check_system (.enm (.var 1)) (csE ws us p2 p3 none none) s = .ok (.tup (enumL 0 (us.map dU))) s := rfl
    show (ev G_check_system (.enm (.var 1)) (csE ws us p2 p3 none none) >>= fun x => opt (seqOf x) >>= fun l => forD _ l _) s = _
    rw [bind_def, e1]
    dsimp only
    rw [bind_def, en dU us hu]
    rfl
  have hir : ir_check_system = [.forG (.tu [2, 3]) (.enm (.var 0)) CS1, .forG (.tu [4, 5]) (.enm (.var 1)) CS2] := rfl
  have hx : exs G_check_system 0 ir_check_system (csE ws us none none none none) s = .ok (.nx (csE ws us p2 p3 p4 p5)) s := by
    rw [hir, exsN t1, exsN t2]
    rfl
  have hs : startE 6 sg_check_system.lend [.lst (ws.map D.str), .lst (us.map dU)] = csE ws us none none none none := rfl
  rw [e]
  exact run_nx rfl hx
theorem strsOf_map : ∀ l : List Str, strsOf (l.map D.str) = some l
  | [] => rfl
  | a :: l => by simp [strsOf, strsOf_map l]
theorem f_System (s : Option Rg) {ws : List Str} {us : List Rul} (hn : ∀ w ∈ ws, w ∈ W12) (nd : ws.Nodup) (hk : ws.length < 64) (hr : ∀ u ∈ us, okR ws u) (hu : us.length ≤ 100) : F_System_init [.lst (ws.map D.str), .lst (us.map dU)] s = .ok (sysD (srtS ws) us) s := by
  have g7 := gl_System_init_check_system
  have fc := f_check_system s hn nd (by omega) hr hu
  have so : opBi .sorted [.lst (ws.map D.str)] = some (.lst ((srtS ws).map D.str)) := by
    show (strsOf _).bind _ = _
    rw [strsOf_map]
    show (if _ then _ else _) = _
    rw [if_pos hk]
  have tu : ∀ l : List D, opBi .tuple [.lst l] = some (.tup l) := fun _ => rfl
  show iniF G_System_init "System" [false, false] 2 pre_System_init fl_System_init [.lst (ws.map D.str), .lst (us.map dU)] s = _
  simp [iniF, pre_System_init, fl_System_init, fldsE, env0, startE, evs, ev, callF, getI, bind_def, pure_s, g7, fc, so, tu, sysD, md]
  have ne : ¬ (("kept_rules" : Str) = "kept_names") := by decide
  rw [if_neg ne]
  rfl

theorem smS {i : Int} (h : i.natAbs ≤ 100000) : smB (some i) := fun a e => by
  cases e
  exact Nat.lt_of_le_of_lt h (by decide)
theorem f__law_end {k : Nat} {s : Option Rg} (far : Int) (hf : far.natAbs < 2 ^ 400) (h : Good (k + 3) s) : ∃ b s', F__law_end [.rng, .int far] s = .ok (dB b) s' ∧ smB b ∧ Good k s' := by
  have e := e__law_end
  have g0 := gl__law_end_draw
  obtain ⟨i1, s1, d1, a1, b1, k1⟩ := drw (k := k + 2) (n := 9) h (by omega) (lt1000 (by omega))
  obtain ⟨i2, s2, d2, a2, b2, k2⟩ := drw (k := k + 1) (n := 199) k1 (by omega) (lt1000 (by omega))
  obtain ⟨i3, s3, d3, a3, b3, k3⟩ := drw (k := k) (n := 4) k2 (by omega) (lt1000 (by omega))
  obtain ⟨z, e1, e2⟩ := idx4 (a := .non) (b := .int (i1 - 4)) (c := .int (i2 - 99)) (d := .int far) a3 b3
  have r : F__law_end [.rng, .int far] s = .ok z s3 := by
    rw [e]
    simp [runF, exs, ex, ev, evs, callF, startE, getI, put, ir__law_end, sg__law_end, bind_def, truth, pure_s, g0, d1, d2, d3, subI, e1]
  rcases e2 with rfl | rfl | rfl | rfl
  · exact ⟨none, s3, r, (fun a e => by cases e), k3⟩
  · exact ⟨some _, s3, r, smS (by omega), k3⟩
  · exact ⟨some _, s3, r, smS (by omega), k3⟩
  · exact ⟨some _, s3, r, (fun a e => by cases e; exact hf), k3⟩
theorem f__law_within {k : Nat} {s : Option Rg} (far : Int) (hf : far.natAbs < 2 ^ 400) (h : Good (k + 6) s) : ∃ r s', F__law_within [.rng, .int far] s = .ok (dG r) s' ∧ (vB r = true ∧ smG r) ∧ Good k s' := by
  have e := e__law_within
  have g10 := gl__law_within__law_end
  obtain ⟨x, s1, d1, m1, k1⟩ := f__law_end (k := k + 3) (0 - far) (by rw [Int.zero_sub, Int.natAbs_neg]; exact hf) h
  obtain ⟨y, s2, d2, m2, k2⟩ := f__law_end (k := k) far hf k1
  have d1' : F__law_end [.rng, .int (-far)] s = .ok (dB x) s1 := by rw [← d1, Int.zero_sub]
  rw [e]
  rcases x with _ | x
  · refine ⟨(none, y), s2, ?_, ⟨rfl, m1, m2⟩, k2⟩
    simp [runF, exs, ex, ev, evs, callF, startE, getI, put, puts, ir__law_within, sg__law_within, bind_def, truth, pure_s, g10, d1', d2, subI, isNB, dG, dBn, n0n]
  · rcases y with _ | y
    · refine ⟨(some x, none), s2, ?_, ⟨rfl, m1, m2⟩, k2⟩
      simp [runF, exs, ex, ev, evs, callF, startE, getI, put, puts, ir__law_within, sg__law_within, bind_def, truth, pure_s, g10, d1', d2, subI, isNB, dG, dBn, dBs, n0n, n0i]
    · by_cases hxy : y < x
      · refine ⟨(some y, some x), s2, ?_, ⟨decide_eq_true (Int.le_of_lt hxy), m2, m1⟩, k2⟩
        simp [runF, exs, ex, ev, evs, callF, startE, getI, put, puts, ir__law_within, sg__law_within, bind_def, truth, pure_s, g10, d1', d2, subI, dG, dBs, n0i, gtI, hxy]
      · refine ⟨(some x, some y), s2, ?_, ⟨decide_eq_true (by omega), m1, m2⟩, k2⟩
        simp [runF, exs, ex, ev, evs, callF, startE, getI, put, puts, ir__law_within, sg__law_within, bind_def, truth, pure_s, g10, d1', d2, subI, dG, dBs, n0i, gtI, hxy]

theorem pick {ws : List Str} {i : Int} (h0 : 0 ≤ i) (h1 : i < ws.length) : ∃ w, w ∈ ws ∧ opIdx (.lst (ws.map D.str)) (.int i) = some (.str w) := by
  have l : i.toNat < ws.length := by omega
  refine ⟨ws[i.toNat], List.getElem_mem l, ?_⟩
  show atI (ws.map D.str) i = _
  unfold atI ixN
  simp [List.length_map, h0, h1]
def ruE (ws : List Str) (far : Int) (cs : List Cn) (o4 o5 o6 o7 o8 : Ob) : IEnv := [fz .rng, fz (.lst (ws.map D.str)), fz (.int far), some (.lst (cs.map dC), .own), o4, o5, o6, o7, o8]
def RUB : List IS := match ir__law_rule with
  | _ :: .forR _ _ _ b :: _ => b
  | _ => []
theorem ru_loop {ws : List Str} (far : Int) (hf : far.natAbs < 2 ^ 400) (hw : 0 < ws.length) (hw2 : ws.length ≤ 100) : ∀ (ds : List D) (k : Nat) (cs : List Cn) (s : Option Rg) (o4 o5 o6 o7 o8 : Ob), Good (k + 7 * ds.length) s → cs.length + ds.length ≤ 100 → (∀ c ∈ cs, c.1 ∈ ws ∧ vB c.2 = true ∧ smG c.2) →
    ∃ cs' p4 s', forD (fun d e => exs G__law_rule 0 RUB (put e 4 d .frz)) ds (ruE ws far cs o4 o5 o6 o7 o8) s = .ok (.nx (ruE ws far cs' p4 o5 o6 o7 o8)) s' ∧ Good k s' ∧ cs'.length = cs.length + ds.length ∧ (∀ c ∈ cs', c.1 ∈ ws ∧ vB c.2 = true ∧ smG c.2)
  | [], k, cs, s, o4, o5, o6, o7, o8, h, _, hc => ⟨cs, o4, s, rfl, h, rfl, hc⟩
  | d :: ds, k, cs, s, o4, o5, o6, o7, o8, h, hl, hc => by
    have g0 := gl__law_rule_draw
    have g11 := gl__law_rule__law_within
    have h : Good (k + 7 * ds.length + 6 + 1) s := h.le (by rw [List.length_cons]; omega)
    obtain ⟨i, s1, d1, a1, b1, k1⟩ := drw (n := ws.length) h (by omega) (lt1000 (Int.lt_of_le_of_lt (show (ws.length : Int) ≤ 100 by omega) (by decide)))
    obtain ⟨w, w1, w2⟩ := pick a1 b1
    obtain ⟨r, s2, d2, vr, k2⟩ := f__law_within (k := k + 7 * ds.length) far hf k1
    have hlen : opBi .len [.lst (ws.map D.str)] = some (.int ws.length) := by show some (D.int _) = _; rw [List.length_map]
    have sz : (cs.map dC).length < sizeLine := by rw [List.length_map]; exact Nat.lt_of_le_of_lt (show _ ≤ 100 by rw [List.length_cons] at hl; omega) (by decide)
    have step : exs G__law_rule 0 RUB (put (ruE ws far cs o4 o5 o6 o7 o8) 4 d .frz) s = .ok (.nx (ruE ws far (cs ++ [(w, r)]) (fz d) o5 o6 o7 o8)) s2 := by
      have dc : D.tup [.str w, dG r] = dC (w, r) := rfl
      have sz : cs.length < sizeLine := by simpa using sz
      simp [RUB, ir__law_rule, exs, ex, ev, evs, callF, ruE, fz, getI, put, bind_def, pure_s, g0, g11, hlen, d1, w2, d2, dc, sz]
    obtain ⟨cs', p4, s3, e3, k3, l3, c3⟩ := ru_loop far hf hw hw2 ds k (cs ++ [(w, r)]) s2 (fz d) o5 o6 o7 o8 k2 (by rw [List.length_append, List.length_singleton]; rw [List.length_cons] at hl; omega) (fun c m => by
      rcases List.mem_append.mp m with m | m
      · exact hc c m
      · rw [List.mem_singleton.mp m]; exact ⟨w1, vr⟩)
    refine ⟨cs', p4, s3, ?_, k3, by rw [l3, List.length_append, List.length_singleton, List.length_cons]; omega, c3⟩
    rw [forD_nx step]
    exact e3
theorem sm_cs {ws : List Str} {r : Rn} {cs : List Cn} (h : smG r) (c1 : ∀ c ∈ cs, c.1 ∈ ws ∧ vB c.2 = true ∧ smG c.2) : ∀ x ∈ r :: cs.map (·.2), smG x := fun x m => by
  rcases List.mem_cons.mp m with rfl | m
  · exact h
  · obtain ⟨c, hc, rfl⟩ := List.mem_map.mp m
    exact (c1 c hc).2.2
theorem idxL {L : List D} {i : Int} (h0 : 0 ≤ i) (h1 : i < L.length) : ∃ z, z ∈ L ∧ opIdx (.lst L) (.int i) = some z := by
  have l : i.toNat < L.length := by omega
  refine ⟨L[i.toNat], List.getElem_mem l, ?_⟩
  show atI L i = _
  unfold atI ixN
  simp [h0, h1]
theorem f__law_rule {k : Nat} {s : Option Rg} {ws : List Str} (far : Int) (hf : far.natAbs < 2 ^ 400) (hw : 0 < ws.length) (hw2 : ws.length ≤ 100) (h : Good (k + 40) s) : ∃ u s', F__law_rule [.rng, .lst (ws.map D.str), .int far] s = .ok (dU u) s' ∧ (okR ws u ∧ smU u) ∧ Good k s' := by
  have e := e__law_rule
  have g0 := gl__law_rule_draw
  have g11 := gl__law_rule__law_within
  have lw : (ws.length : Int) < 2 ^ 1000 := lt1000 (Int.lt_of_le_of_lt (show (ws.length : Int) ≤ 100 by omega) (by decide))
  have hlen : opBi .len [.lst (ws.map D.str)] = some (.int ws.length) := by show some (D.int _) = _; rw [List.length_map]
  obtain ⟨i0, s0, d0, a0, b0, k0⟩ := drw (k := k + 39) (n := 5) h (by omega) (lt1000 (by omega))
  obtain ⟨m, hm, m1, m2⟩ : ∃ m : Int, opBi .max [.int 0, .int (i0 - 2)] = some (.int m) ∧ 0 ≤ m ∧ m ≤ 2 := by
    refine ⟨if i0 - 2 > 0 then i0 - 2 else 0, rfl, ?_, ?_⟩ <;> split <;> omega
  have ln : (rngL 0 m).length ≤ 2 := by unfold rngL; rw [List.length_map, List.length_range]; omega
  obtain ⟨cs, p4, s1, e1, k1, l1, c1⟩ := ru_loop far hf hw hw2 (rngL 0 m) (k + 25) [] s0 none none none none none (k0.le (by omega)) (by show 0 + _ ≤ 100; omega) (fun c m => by cases m)
  have l1 : cs.length ≤ 2 := by rw [l1]; show 0 + _ ≤ 2; omega
  obtain ⟨i1, s2, d2, a2, b2, k2⟩ := drw (k := k + 24) (n := ws.length) k1 (by omega) lw
  obtain ⟨w, w1, w2⟩ := pick a2 b2
  obtain ⟨i2, s3, d3, a3, b3, k3⟩ := drw (k := k + 23) (n := ws.length) k2 (by omega) lw
  obtain ⟨x, x1, x2⟩ := pick a3 b3
  obtain ⟨i3, s4, d4, a4, b4, k4⟩ := drw (k := k + 22) (n := 3) k3 (by omega) (lt1000 (by omega))
  let R (j : Nat) : IS := ir__law_rule.getD j .never
  have t0 : ex G__law_rule 0 (R 0) [fz .rng, fz (.lst (ws.map D.str)), fz (.int far), none, none, none, none, none, none] s = .ok (.nx (ruE ws far [] none none none none none)) s := rfl
  have t1 : ex G__law_rule 0 (R 1) (ruE ws far [] none none none none none) s = .ok (.nx (ruE ws far cs p4 none none none none)) s1 := by
    have hR : R 1 = .forR 4 none (.bi .max [(.cst (.int 0)), (.bin .Sub (.call 0 false [(.var 0), (.cst (.int 5))]) (.cst (.int 2)))]) RUB := rfl
    have g : getI (ruE ws far [] none none none none none) 0 = some (.rng, .frz) := rfl
    have c1 : -(2 ^ 62) ≤ (0 : Int) ∧ (0 : Int) < 2 ^ 62 ∧ -(2 ^ 62) ≤ m ∧ m < 2 ^ 62 := by omega
    rw [hR]
    simp only [ex, ev, evs, g, bind_def, pure_s, callF, g0, d0, opt_some, subI, hm]
    rw [if_pos c1]
    exact e1
  have t2 : ex G__law_rule 0 (R 2) (ruE ws far cs p4 none none none none) s1 = .ok (.nx (ruE ws far cs p4 (fz (.str w)) (fz (.str x)) none none)) s3 := by
    simp [R, ir__law_rule, ex, ev, evs, callF, ruE, fz, getI, put, puts, bind_def, pure_s, g0, hlen, d2, d3, w2, x2]
  have tu : opBi .tuple [.lst (cs.map dC)] = some (.tup (cs.map dC)) := rfl
  have hs : startE 9 sg__law_rule.lend [.rng, .lst (ws.map D.str), .int far] = [fz .rng, fz (.lst (ws.map D.str)), fz (.int far), none, none, none, none, none, none] := rfl
  have hir : ir__law_rule = [R 0, R 1, R 2, R 3, R 4, R 5, R 6] := rfl
  by_cases h3 : i3 = 0
  · obtain ⟨r, s5, d5, vr, k5⟩ := f__law_within (k := k + 16) far hf k4
    refine ⟨.set w r cs, s5, ?_, ⟨⟨⟨?_, by show cs.length ≤ 100; omega, trivial⟩, ?_, trivial⟩, ⟨l1, sm_cs vr.2 c1, trivial⟩⟩, k5.le (by omega)⟩
    · have t3 : ex G__law_rule 0 (R 3) (ruE ws far cs p4 (fz (.str w)) (fz (.str x)) none none) s3 = .ok (.ret (dU (.set w r cs)) false) s5 := by
        simp [R, ir__law_rule, exs, ex, ev, evs, callF, ruE, fz, getI, bind_def, pure_s, truth, g0, g11, d4, eqI, h3, d5, tu, dU, md]
      have hx : exs G__law_rule 0 ir__law_rule (startE 9 sg__law_rule.lend [.rng, .lst (ws.map D.str), .int far]) s = .ok (.ret (dU (.set w r cs)) false) s5 := by
        rw [hs, hir, exsN t0, exsN t1, exsN t2, exsR t3]
      rw [e]
      exact run_ret rfl rfl hx
    · intro n hn
      rcases List.mem_cons.mp hn with rfl | hn
      · exact w1
      · obtain ⟨c, hc, rfl⟩ := List.mem_map.mp hn
        exact (c1 c hc).1
    · intro r' hr
      rcases List.mem_cons.mp hr with rfl | hr
      · exact vr.1
      · obtain ⟨c, hc, rfl⟩ := List.mem_map.mp hr
        exact (c1 c hc).2.1
  · obtain ⟨j1, s5, d5, a5, b5, k5⟩ := drw (k := k + 21) (n := 9) k4 (by omega) (lt1000 (by omega))
    obtain ⟨j2, s6, d6, a6, b6, k6⟩ := drw (k := k + 20) (n := 9) k5 (by omega) (lt1000 (by omega))
    obtain ⟨j3, s7, d7, a7, b7, k7⟩ := drw (k := k + 19) (n := 8) k6 (by omega) (lt1000 (by omega))
    obtain ⟨j4, s8, d8, a8, b8, k8⟩ := drw (k := k + 18) (n := 19) k7 (by omega) (lt1000 (by omega))
    obtain ⟨j5, s9, d9, a9, b9, k9⟩ := drw (k := k + 17) (n := 199) k8 (by omega) (lt1000 (by omega))
    obtain ⟨j6, s10, d10, a10, b10, k10⟩ := drw (k := k + 16) (n := 7) k9 (by omega) (lt1000 (by omega))
    obtain ⟨r, s11, d11, vr, k11⟩ := f__law_within (k := k + 10) far hf k10
    obtain ⟨f, z1, f1, f2⟩ : ∃ f : Int, opIdx (.lst [.int 1, .int 1, .int 1, .int (-1), .int 2, .int (-2), .int (1 + j1), .int (-1 - j2)]) (.int j3) = some (.int f) ∧ f ≠ 0 ∧ f.natAbs ≤ 9 := by
      obtain ⟨z, e1, e2⟩ := idxL (L := [.int 1, .int 1, .int 1, .int (-1), .int 2, .int (-2), .int (1 + j1), .int (-1 - j2)]) a7 (by simpa using b7)
      simp only [List.mem_cons, List.not_mem_nil, or_false] at e1
      rcases e1 with rfl | rfl | rfl | rfl | rfl | rfl | rfl | rfl <;> exact ⟨_, e2, by omega, by omega⟩
    obtain ⟨a, z2, a2⟩ : ∃ a : Int, opIdx (.lst [.int 0, .int 1, .int (-1), .int (j4 - 9), .int (j5 - 99), .int far, .int (-far)]) (.int j6) = some (.int a) ∧ a.natAbs < 2 ^ 400 := by
      obtain ⟨z, e1, e2⟩ := idxL (L := [.int 0, .int 1, .int (-1), .int (j4 - 9), .int (j5 - 99), .int far, .int (-far)]) a10 (by simpa using b10)
      simp only [List.mem_cons, List.not_mem_nil, or_false] at e1
      rcases e1 with rfl | rfl | rfl | rfl | rfl | rfl | rfl <;> first | exact ⟨_, e2, Nat.lt_of_le_of_lt (show _ ≤ 1000 by omega) (by decide)⟩ | exact ⟨_, e2, hf⟩ | exact ⟨_, e2, by rw [Int.natAbs_neg]; exact hf⟩
    refine ⟨.step w x f a r cs, s11, ?_, ⟨⟨⟨?_, by show cs.length ≤ 100; omega, Nat.lt_of_le_of_lt f2 (by decide)⟩, ?_, f1⟩, ⟨l1, sm_cs vr.2 c1, Nat.lt_of_le_of_lt f2 (by decide), a2⟩⟩, k11.le (by omega)⟩
    · have t3 : ex G__law_rule 0 (R 3) (ruE ws far cs p4 (fz (.str w)) (fz (.str x)) none none) s3 = .ok (.nx (ruE ws far cs p4 (fz (.str w)) (fz (.str x)) none none)) s4 := by
        simp [R, ir__law_rule, exs, ex, ev, evs, callF, ruE, fz, getI, bind_def, pure_s, truth, g0, d4, eqI, h3]
      have t4 : ex G__law_rule 0 (R 4) (ruE ws far cs p4 (fz (.str w)) (fz (.str x)) none none) s4 = .ok (.nx (ruE ws far cs p4 (fz (.str w)) (fz (.str x)) (fz (.int f)) none)) s7 := by
        simp [R, ir__law_rule, ex, ev, evs, callF, ruE, fz, getI, put, bind_def, pure_s, g0, d5, d6, d7, addI, subI, z1]
      have t5 : ex G__law_rule 0 (R 5) (ruE ws far cs p4 (fz (.str w)) (fz (.str x)) (fz (.int f)) none) s7 = .ok (.nx (ruE ws far cs p4 (fz (.str w)) (fz (.str x)) (fz (.int f)) (fz (.int a)))) s10 := by
        simp [R, ir__law_rule, ex, ev, evs, callF, ruE, fz, getI, put, bind_def, pure_s, g0, d8, d9, d10, addI, subI, z2]
      have t6 : ex G__law_rule 0 (R 6) (ruE ws far cs p4 (fz (.str w)) (fz (.str x)) (fz (.int f)) (fz (.int a))) s10 = .ok (.ret (dU (.step w x f a r cs)) false) s11 := by
        simp [R, ir__law_rule, ex, ev, evs, callF, ruE, fz, getI, bind_def, pure_s, g11, d11, tu, dU, md]
      have hx : exs G__law_rule 0 ir__law_rule (startE 9 sg__law_rule.lend [.rng, .lst (ws.map D.str), .int far]) s = .ok (.ret (dU (.step w x f a r cs)) false) s11 := by
        rw [hs, hir, exsN t0, exsN t1, exsN t2, exsN t3, exsN t4, exsN t5, exsR t6]
      rw [e]
      exact run_ret rfl rfl hx
    · intro n hn
      rcases List.mem_cons.mp hn with rfl | hn
      · exact w1
      rcases List.mem_cons.mp hn with rfl | hn
      · exact x1
      · obtain ⟨c, hc, rfl⟩ := List.mem_map.mp hn
        exact (c1 c hc).1
    · intro r' hr
      rcases List.mem_cons.mp hr with rfl | hr
      · exact vr.1
      · obtain ⟨c, hc, rfl⟩ := List.mem_map.mp hr
        exact (c1 c hc).2.1

def roE (ws : List Str) (most far : Int) (us : List Rul) (o5 o6 : Ob) : IEnv := [fz .rng, fz (.lst (ws.map D.str)), fz (.int most), fz (.int far), some (.lst (us.map dU), .own), o5, o6]
def ROB : List IS := match ir__law_rows with
  | [_, _, .forR _ _ _ b, _] => b
  | _ => []
theorem ro_loop {ws : List Str} (most far : Int) (hf : far.natAbs < 2 ^ 400) (hw : 0 < ws.length) (hw2 : ws.length ≤ 100) : ∀ (ds : List D) (k : Nat) (us : List Rul) (s : Option Rg) (o5 o6 : Ob), Good (k + 40 * ds.length) s → us.length + ds.length ≤ 100 → (∀ u ∈ us, okR ws u ∧ smU u) →
    ∃ us' p6 s', forD (fun d e => exs G__law_rows 0 ROB (put e 6 d .frz)) ds (roE ws most far us o5 o6) s = .ok (.nx (roE ws most far us' o5 p6)) s' ∧ Good k s' ∧ us'.length = us.length + ds.length ∧ (∀ u ∈ us', okR ws u ∧ smU u)
  | [], k, us, s, o5, o6, h, _, hc => ⟨us, o6, s, rfl, h, rfl, hc⟩
  | d :: ds, k, us, s, o5, o6, h, hl, hc => by
    have g12 := gl__law_rows__law_rule
    have h : Good (k + 40 * ds.length + 40) s := h.le (by rw [List.length_cons]; omega)
    obtain ⟨u, s1, d1, u1, k1⟩ := f__law_rule far hf hw hw2 h
    have sz : us.length < sizeLine := Nat.lt_of_le_of_lt (show _ ≤ 100 by rw [List.length_cons] at hl; omega) (by decide)
    have step : exs G__law_rows 0 ROB (put (roE ws most far us o5 o6) 6 d .frz) s = .ok (.nx (roE ws most far (us ++ [u]) o5 (fz d))) s1 := by
      simp [ROB, ir__law_rows, exs, ex, ev, evs, callF, roE, fz, getI, put, bind_def, pure_s, g12, d1, sz]
    obtain ⟨us', p6, s3, e3, k3, l3, c3⟩ := ro_loop most far hf hw hw2 ds k (us ++ [u]) s1 o5 (fz d) k1 (by rw [List.length_append, List.length_singleton]; rw [List.length_cons] at hl; omega) (fun c m => by
      rcases List.mem_append.mp m with m | m
      · exact hc c m
      · rw [List.mem_singleton.mp m]; exact u1)
    refine ⟨us', p6, s3, ?_, k3, by rw [l3, List.length_append, List.length_singleton, List.length_cons]; omega, c3⟩
    rw [forD_nx step]
    exact e3
theorem f__law_rows {k : Nat} {s : Option Rg} {ws : List Str} {most : Int} (hm0 : 0 ≤ most) (hm1 : most ≤ 50) (hw : 0 < ws.length) (hw2 : ws.length ≤ 100) (h : Good (k + 2500) s) : ∃ (us : List Rul) (s' : Option Rg), F__law_rows [.rng, .lst (ws.map D.str), .int most] s = .ok (.lst (us.map dU)) s' ∧ (∀ u ∈ us, okR ws u ∧ smU u) ∧ (us.length : Int) ≤ most ∧ Good k s' := by
  have e := e__law_rows
  have g0 := gl__law_rows_draw
  obtain ⟨i0, s0, d0, a0, b0, k0⟩ := drw (k := k + 2499) (n := 3) h (by omega) (lt1000 (by omega))
  obtain ⟨far, z1, hf⟩ : ∃ far : Int, opIdx (.lst [.int 99, .int (10 ^ 9), .int (10 ^ 31)]) (.int i0) = some (.int far) ∧ far.natAbs < 2 ^ 400 := by
    obtain ⟨z, e1, e2⟩ := idx3 (a := .int 99) (b := .int (10 ^ 9)) (c := .int (10 ^ 31)) a0 b0
    rcases e2 with rfl | rfl | rfl <;> exact ⟨_, e1, by decide⟩
  have pow9 : opBin .Pow (.int 10) (.int 9) = some (.int (10 ^ 9)) := rfl
  have pow31 : opBin .Pow (.int 10) (.int 31) = some (.int (10 ^ 31)) := rfl
  let R (j : Nat) : IS := ir__law_rows.getD j .never
  have t0 : ex G__law_rows 0 (R 0) [fz .rng, fz (.lst (ws.map D.str)), fz (.int most), none, none, none, none] s = .ok (.nx (roE ws most far [] none none)) s0 := by
    simp [-Int.reducePow, R, ir__law_rows, ex, ev, evs, callF, roE, fz, getI, put, puts, bind_def, pure_s, g0, d0, pow9, pow31, z1]
  obtain ⟨i1, s1, d1, a1, b1, k1⟩ := drw (k := k + 2498) (n := 4) k0 (by omega) (lt1000 (by omega))
  obtain ⟨w, w1, w2⟩ := pick (ws := ws) (i := 0) (by omega) (by omega)
  have t1 : ∃ (us : List Rul) (o5 : Ob) (s2 : Option Rg), ex G__law_rows 0 (R 1) (roE ws most far [] none none) s0 = .ok (.nx (roE ws most far us o5 none)) s2 ∧ (∀ u ∈ us, okR ws u ∧ smU u) ∧ us.length ≤ 1 ∧ (us.length : Int) ≤ most ∧ Good (k + 2490) s2 := by
    by_cases h1 : 0 < i1
    · by_cases h2 : 0 < most
      · obtain ⟨i2, s2, d2, a2, b2, k2⟩ := drw (k := k + 2497) (n := 9) k1 (by omega) (lt1000 (by omega))
        obtain ⟨i3, s3, d3, a3, b3, k3⟩ := drw (k := k + 2496) (n := 3) k2 (by omega) (lt1000 (by omega))
        refine ⟨[.set w (some (i2 - 4), some (i2 - 4 + i3)) []], fz (.int (i2 - 4)), s3, ?_, ?_, Nat.le_refl _, by show (1 : Int) ≤ most; omega, k3.le (by omega)⟩
        · have z0 : 0 < sizeLine := by decide
          simp [R, ir__law_rows, exs, ex, ev, evs, callF, roE, fz, getI, put, bind_def, pure_s, truth, g0, d1, d2, d3, gtI, h1, h2, subI, addI, w2, dU, dG, dBs, z0]
        · intro u m
          rw [List.mem_singleton.mp m]
          refine ⟨⟨⟨fun n hn => ?_, by show 0 ≤ 100; omega, trivial⟩, fun r hr => ?_, trivial⟩, ⟨by show 0 ≤ 2; omega, fun r hr => ?_, trivial⟩⟩
          · rcases List.mem_cons.mp hn with rfl | hn
            · exact w1
            · cases hn
          · rcases List.mem_cons.mp hr with rfl | hr
            · exact decide_eq_true (by omega)
            · cases hr
          · rcases List.mem_cons.mp hr with rfl | hr
            · exact ⟨smS (by omega), smS (by omega)⟩
            · cases hr
      · refine ⟨[], none, s1, ?_, fun u m => (by cases m), Nat.zero_le _, by show (0 : Int) ≤ most; omega, k1.le (by omega)⟩
        simp [R, ir__law_rows, exs, ex, ev, evs, callF, roE, fz, getI, put, bind_def, pure_s, truth, g0, d1, gtI, h1, h2]
    · refine ⟨[], none, s1, ?_, fun u m => (by cases m), Nat.zero_le _, by show (0 : Int) ≤ most; omega, k1.le (by omega)⟩
      simp [R, ir__law_rows, exs, ex, ev, evs, callF, roE, fz, getI, put, bind_def, pure_s, truth, g0, d1, gtI, h1]
  obtain ⟨us, o5, s2, t1, c1, l1, l2, k2⟩ := t1
  obtain ⟨n, s3, d3, a3, b3, k3⟩ := drw (k := k + 2489) (n := most + 1 - (us.length : Int)) k2 (by omega) (lt1000 (by omega))
  have ln : ((rngL 0 n).length : Int) ≤ n := by unfold rngL; rw [List.length_map, List.length_range]; omega
  obtain ⟨us', p6, s4, e4, k4, l4, c4⟩ := ro_loop most far hf hw hw2 (rngL 0 n) k us s3 o5 none (k3.le (by omega)) (by omega) c1
  have t2 : ex G__law_rows 0 (R 2) (roE ws most far us o5 none) s2 = .ok (.nx (roE ws most far us' o5 p6)) s4 := by
    have hR : R 2 = .forR 6 none (.call 0 false [(.var 0), (.bin .Sub (.bin .Add (.var 2) (.cst (.int 1))) (.bi .len [(.bor 4)]))]) ROB := rfl
    have q0 : getI (roE ws most far us o5 none) 0 = some (.rng, .frz) := rfl
    have q2 : getI (roE ws most far us o5 none) 2 = some (.int most, .frz) := rfl
    have q4 : getI (roE ws most far us o5 none) 4 = some (.lst (us.map dU), .own) := rfl
    have hl : opBi .len [.lst (us.map dU)] = some (.int us.length) := by show some (D.int _) = _; rw [List.length_map]
    have c1 : -(2 ^ 62) ≤ (0 : Int) ∧ (0 : Int) < 2 ^ 62 ∧ -(2 ^ 62) ≤ n ∧ n < 2 ^ 62 := by omega
    rw [hR]
    simp only [ex, ev, evs, q0, q2, q4, bind_def, pure_s, callF, g0, addI, subI, hl, opt_some, d3]
    rw [if_pos c1]
    exact e4
  have t3 : ex G__law_rows 0 (R 3) (roE ws most far us' o5 p6) s4 = .ok (.ret (.lst (us'.map dU)) true) s4 := rfl
  have hs : startE 7 sg__law_rows.lend [.rng, .lst (ws.map D.str), .int most] = [fz .rng, fz (.lst (ws.map D.str)), fz (.int most), none, none, none, none] := rfl
  have hir : ir__law_rows = [R 0, R 1, R 2, R 3] := rfl
  refine ⟨us', s4, ?_, c4, by omega, k4⟩
  have hx : exs G__law_rows 0 ir__law_rows (startE 7 sg__law_rows.lend [.rng, .lst (ws.map D.str), .int most]) s = .ok (.ret (.lst (us'.map dU)) true) s4 := by
    rw [hs, hir, exsN t0, exsN t1, exsN t2, exsR t3]
  rw [e]
  exact run_retF rfl rfl hx

def W6 : List Str := ["x", "y", "ab", "jkv", "q", "lowhere"]
def rowW (w : Str) : Str := "row" ++ cutS w none (some 5)
theorem w6_ok : (W6.all fun w => decide (w.length ≤ sizeLine) && (decide (("row" : Str).length + (cutS w none (some 5)).length ≤ sizeLine) && (decide (w ∈ WX) && decide (rowW w ∈ WX)))) = true := by decide +kernel
theorem w6_nd : W6.Nodup := by decide +kernel
theorem w6_nd2 : (W6.map rowW).Nodup := by decide +kernel
def wdE (n : Int) (left sm : List Str) (o4 : Ob) : IEnv := [fz .rng, fz (.int n), some (.lst (left.map D.str), .own), some (.lst (sm.map D.str), .own), o4, none]
def WDB : List IS := match ir__law_words with
  | _ :: .forR _ _ _ b :: _ => b
  | _ => []
theorem wd_loop (n : Int) : ∀ (ds : List D) (k : Nat) (left sm : List Str) (s : Option Rg) (o4 : Ob), Good (k + ds.length) s → ds.length ≤ left.length → (sm ++ left).Perm W6 →
    ∃ (left' sm' : List Str) (p4 : Ob) (s' : Option Rg), forD (fun d e => exs G__law_words 0 WDB (put e 4 d .frz)) ds (wdE n left sm o4) s = .ok (.nx (wdE n left' sm' p4)) s' ∧ Good k s' ∧ sm'.length = sm.length + ds.length ∧ (sm' ++ left').Perm W6
  | [], k, left, sm, s, o4, h, _, hp => ⟨left, sm, o4, s, rfl, h, rfl, hp⟩
  | d :: ds, k, left, sm, s, o4, h, hl, hp => by
    have g0 := gl__law_words_draw
    rw [List.length_cons] at hl
    have ln : sm.length + left.length = 6 := by
      have := hp.length_eq
      rw [List.length_append] at this
      exact this
    have h : Good (k + ds.length + 1) s := h.le (by rw [List.length_cons]; omega)
    obtain ⟨i, s1, d1, a1, b1, k1⟩ := drw (n := left.length) h (by omega) (lt1000 (Int.lt_of_le_of_lt (show (left.length : Int) ≤ 6 by omega) (by decide)))
    have hn : i.toNat < left.length := by omega
    have hlen : opBi .len [.lst (left.map D.str)] = some (.int left.length) := by show some (D.int _) = _; rw [List.length_map]
    have hpop : popApp (some (.lst (sm.map D.str), .own)) (some (.lst (left.map D.str), .own)) (.int i) = some ((sm ++ [left[i.toNat]]).map D.str, (left.eraseIdx i.toNat).map D.str) := by
      have ix : ixN (left.map D.str).length i = some i.toNat := by
        unfold ixN
        simp [List.length_map, a1, b1]
      show (ixN (left.map D.str).length i).bind (fun n => ((left.map D.str)[n]?).bind fun d => if (sm.map D.str).length < sizeLine ∧ -(2 ^ 63) ≤ i ∧ i < 2 ^ 63 then some (sm.map D.str ++ [d], (left.map D.str).eraseIdx n) else none) = _
      rw [ix]
      show ((left.map D.str)[i.toNat]?).bind _ = _
      rw [List.getElem?_map, List.getElem?_eq_getElem hn]
      show (if _ then _ else _) = _
      rw [if_pos ⟨by rw [List.length_map]; exact Nat.lt_of_le_of_lt (show _ ≤ 6 by omega) (by decide), by omega, by omega⟩, map_erase, List.map_append]
      rfl
    have step : exs G__law_words 0 WDB (put (wdE n left sm o4) 4 d .frz) s = .ok (.nx (wdE n (left.eraseIdx i.toNat) (sm ++ [left[i.toNat]]) (fz d))) s1 := by
      simp [-List.map_append, WDB, ir__law_words, exs, ex, ev, evs, callF, wdE, fz, getI, put, bind_def, pure_s, g0, hlen, d1, hpop]
    have pe := perm_erase left i.toNat hn
    obtain ⟨left', sm', p4, s', e3, k3, l3, c3⟩ := wd_loop n ds k (left.eraseIdx i.toNat) (sm ++ [left[i.toNat]]) s1 (fz d) k1 (by have := pe.length_eq; rw [List.length_cons] at this; omega) (by
      rw [List.append_assoc]
      exact (pe.append_left sm).trans hp)
    refine ⟨left', sm', p4, s', ?_, k3, by rw [l3, List.length_append, List.length_singleton, List.length_cons]; omega, c3⟩
    rw [forD_nx step]
    exact e3
theorem f__law_words {k : Nat} {s : Option Rg} {n : Int} (h1 : 1 ≤ n) (h6 : n ≤ 6) (h : Good (k + 7) s) : ∃ (ws : List Str) (s' : Option Rg), F__law_words [.rng, .int n] s = .ok (.lst (ws.map D.str)) s' ∧ (∀ w ∈ ws, w ∈ WX) ∧ ws.Nodup ∧ (ws.length : Int) = n ∧ Good k s' := by
  have e := e__law_words
  have g0 := gl__law_words_draw
  have ln : ((rngL 0 n).length : Int) = n := by unfold rngL; rw [List.length_map, List.length_range]; omega
  obtain ⟨left, sm, p4, s1, e1, k1, l1, c1⟩ := wd_loop n (rngL 0 n) (k + 1) W6 [] s none (h.le (by omega)) (by show _ ≤ 6; omega) (List.Perm.refl _)
  obtain ⟨i, s2, d2, a2, b2, k2⟩ := drw (k := k) (n := 3) k1 (by omega) (lt1000 (by omega))
  let R (j : Nat) : IS := ir__law_words.getD j .never
  have t0 : ex G__law_words 0 (R 0) [fz .rng, fz (.int n), none, none, none, none] s = .ok (.nx (wdE n W6 [] none)) s := rfl
  have t1 : ex G__law_words 0 (R 1) (wdE n W6 [] none) s = .ok (.nx (wdE n left sm p4)) s1 := by
    have hR : R 1 = .forR 4 none (.var 1) WDB := rfl
    have q1 : getI (wdE n W6 [] none) 1 = some (.int n, .frz) := rfl
    have c : -(2 ^ 62) ≤ (0 : Int) ∧ (0 : Int) < 2 ^ 62 ∧ -(2 ^ 62) ≤ n ∧ n < 2 ^ 62 := by omega
    rw [hR]
    simp only [ex, ev, q1, bind_def, pure_s]
    rw [if_pos c]
    exact e1
  let E : IEnv := [fz .rng, fz (.int n), some (.lst (left.map D.str), .own), fz (.lst (sm.map D.str)), p4, none]
  have t2 : ex G__law_words 0 (R 2) (wdE n left sm p4) s1 = .ok (.nx E) s1 := rfl
  have hsub : ∀ w ∈ sm, w ∈ W6 := fun w m => c1.subset (List.mem_append_left _ m)
  have nd : sm.Nodup := (List.nodup_append.mp (c1.symm.nodup w6_nd)).1
  have nd2 : (sm.map rowW).Nodup := by
    have := (c1.map rowW).symm.nodup w6_nd2
    rw [List.map_append] at this
    exact (List.nodup_append.mp this).1
  have l1 : (sm.length : Int) = n := by rw [l1]; show ((0 + _ : Nat) : Int) = n; omega
  have fact : ∀ w ∈ sm, w.length ≤ sizeLine ∧ ("row" : Str).length + (cutS w none (some 5)).length ≤ sizeLine ∧ w ∈ WX ∧ rowW w ∈ WX := fun w m => by
    have := List.all_eq_true.mp w6_ok w (hsub w m)
    simp only [Bool.and_eq_true, decide_eq_true_eq] at this
    exact this
  have hc : (ev G__law_words (.cmp .Eq (.call 0 false [(.var 0), (.cst (.int 3))]) (.cst (.int 0))) E >>= truth) s1 = .ok (decide (i = 0)) s2 := by
    simp [E, fz, ev, evs, callF, getI, bind_def, pure_s, g0, d2, eqI, truth]
  have hlc : ev G__law_words (.lc 5 (.var 3) (.bin .Add (.cst (.str "row")) (.slc false true (.var 5) (.cst .non) (.cst (.int 5))))) E s2 = .ok (.lst (sm.map fun w => .str (rowW w))) s2 := by
    refine lc_ev (φ := D.str) (g := fun w => .str (rowW w)) (show ev G__law_words (.var 3) E s2 = .ok (.lst (sm.map D.str)) s2 from rfl) rfl rfl fun w m => ?_
    obtain ⟨f1, f2, _, _⟩ := fact w m
    have e1 : opSl (.str w) none (some 5) = some (.str (cutS w none (some 5))) := by
      show (if _ then _ else _) = _
      rw [if_pos f1]
    have e2 : opBin .Add (.str "row") (.str (cutS w none (some 5))) = some (.str (rowW w)) := by
      show (if _ then _ else _) = _
      rw [if_pos f2]
      rfl
    simp [E, fz, ev, evPart, getI, put, bind_def, pure_s, e1, e2]
  have hs : startE 6 sg__law_words.lend [.rng, .int n] = [fz .rng, fz (.int n), none, none, none, none] := rfl
  have hir : ir__law_words = [R 0, R 1, R 2, R 3] := rfl
  have hR3 : R 3 = .ret (.ite (.cmp .Eq (.call 0 false [(.var 0), (.cst (.int 3))]) (.cst (.int 0))) (.lc 5 (.var 3) (.bin .Add (.cst (.str "row")) (.slc false true (.var 5) (.cst .non) (.cst (.int 5))))) (.var 3)) := rfl
  have fin : ∀ ws : List Str, ev G__law_words (.ite (.cmp .Eq (.call 0 false [(.var 0), (.cst (.int 3))]) (.cst (.int 0))) (.lc 5 (.var 3) (.bin .Add (.cst (.str "row")) (.slc false true (.var 5) (.cst .non) (.cst (.int 5))))) (.var 3)) E s1 = .ok (.lst (ws.map D.str)) s2 → F__law_words [.rng, .int n] s = .ok (.lst (ws.map D.str)) s2 := fun ws t => by
    have t3 : ex G__law_words 0 (R 3) E s1 = .ok (.ret (.lst (ws.map D.str)) false) s2 := by
      rw [hR3]
      exact ex_ret t
    have hx : exs G__law_words 0 ir__law_words (startE 6 sg__law_words.lend [.rng, .int n]) s = .ok (.ret (.lst (ws.map D.str)) false) s2 := by
      rw [hs, hir, exsN t0, exsN t1, exsN t2, exsR t3]
    rw [e]
    exact run_ret rfl rfl hx
  generalize (IE.lc 5 (.var 3) (.bin .Add (.cst (.str "row")) (.slc false true (.var 5) (.cst .non) (.cst (.int 5))))) = LC at fin hlc
  generalize (IE.cmp .Eq (.call 0 false [(.var 0), (.cst (.int 3))]) (.cst (.int 0))) = CC at fin hc
  by_cases h0 : i = 0
  · rw [decide_eq_true h0] at hc
    refine ⟨sm.map rowW, s2, fin _ ?_, ?_, nd2, by rw [List.length_map]; exact l1, k2⟩
    · unfold ev
      rw [bind_def, hc, List.map_map]
      exact hlc
    · intro w m
      obtain ⟨x, hx, rfl⟩ := List.mem_map.mp m
      exact (fact x hx).2.2.2
  · rw [decide_eq_false h0] at hc
    refine ⟨sm, s2, fin _ ?_, fun w m => (fact w m).2.2.1, nd, l1, k2⟩
    unfold ev
    rw [bind_def, hc]
    rfl

theorem w12_okS : (W12.all fun w => pureD (.str w)) = true := by decide +kernel
theorem okS_w {w : Str} (h : w ∈ W12) : okS w := ⟨List.all_eq_true.mp w12_okS w h, by simp [toP, PyData.depth]⟩
theorem okS_set : okS "set" := ⟨by decide +kernel, by simp [toP, PyData.depth]⟩
theorem okS_step : okS "step" := ⟨by decide +kernel, by simp [toP, PyData.depth]⟩
theorem ok_us {ws : List Str} {us : List Rul} (hw : ∀ w ∈ ws, w ∈ W12) (hu : ∀ u ∈ us, okU ws u) : okEq (.lst (us.map dU)) = true := okN.eq (okN_lst (n := 5) fun d m => by
  obtain ⟨u, hm, rfl⟩ := List.mem_map.mp m
  exact okN_U okS_set okS_step fun n hn => okS_w (hw n ((hu u hm).1 n hn)))
def mvE (ws : List Str) (us : List Rul) (n : Int) (h : Hf) (ms : List Mv) (o7 o8 o9 o10 : Ob) : IEnv := [fz .rng, fz (.lst (ws.map D.str)), fz (.lst (us.map dU)), fz (.int n), some (hD ws h, .own), some (.lst (ms.map dM), .own), none, o7, o8, o9, o10]
/-- moves made so far -/
structure MvOk (us : List Rul) (ms : List Mv) (h : Hf) : Prop where
  p : ply us h0 ms = (ms.length, h)
  b : ∀ w x, h w = some x → x.natAbs < 10 ^ 31
theorem ev_add {Γ : Gm (Option Rg)} {E : IEnv} {a b : IE} {A B : List Mv} {s s1 s2 : Option Rg} (h1 : ev Γ a E s = .ok (.lst (A.map dM)) s1) (h2 : ev Γ b E s1 = .ok (.lst (B.map dM)) s2) (l : A.length + B.length ≤ 1000) : ev Γ (.bin .Add a b) E s = .ok (.lst ((A ++ B).map dM)) s2 := by
  unfold ev
  rw [bind_def, h1]
  dsimp only
  rw [bind_def, h2]
  dsimp only
  rw [add_map _ _ _ (sz200 l)]
  rfl
end Q
end
section
set_option maxHeartbeats 2000000
namespace Q
open PySem PySem.Spec PyProof.Rows L2 Pv
def shsB (w : Str) : Bool := pureD (.str w) && (PyData.showable (toP (.str w)) && (!PyData.hasDict (toP (.str w)) && (decide ((toP (.str w)).depth ≤ 1) && (decide ((PyData.shown (toP (.str w))).length ≤ 40) && PyData.strOk (PyData.shown (toP (.str w)))))))
theorem shs_of {w : Str} (h : shsB w = true) : ShS w := by
  unfold shsB at h
  simp only [Bool.and_eq_true, decide_eq_true_eq, Bool.not_eq_true'] at h
  exact ⟨⟨h.1, h.2.1, h.2.2.1, h.2.2.2.1, h.2.2.2.2.1, h.2.2.2.2.2⟩⟩
theorem w12_sh : ((("set" : Str) :: "step" :: W12).all shsB) = true := by decide +kernel
theorem sh_set : ShS "set" := shs_of (List.all_eq_true.mp w12_sh _ (.head _))
theorem sh_step : ShS "step" := shs_of (List.all_eq_true.mp w12_sh _ (.tail _ (.head _)))
theorem sh_w {w : Str} (h : w ∈ W12) : ShS w := shs_of (List.all_eq_true.mp w12_sh _ (.tail _ (.tail _ h)))
/-- a system that can be made -/
structure SysOk (ks : List Str) (us : List Rul) : Prop where
  w : ∀ w ∈ ks, w ∈ W12
  nd : ks.Nodup
  l : ks.length ≤ 12
  u : ∀ u ∈ us, okR ks u ∧ smU u
  n : us.length ≤ 30
def S (ks : List Str) (us : List Rul) : D := sysD (srtS ks) us
theorem okR.sub {ks ls : List Str} {u : Rul} (h : okR ks u) (m : ∀ k ∈ ks, k ∈ ls) : okR ls u := ⟨⟨fun n hn => m n (h.1.1 n hn), h.1.2⟩, h.2⟩
theorem SysOk.srt {ks : List Str} {us : List Rul} (h : SysOk ks us) : SysOk (srtS ks) us where
  w := fun w m => h.w w (srtS_mem m)
  nd := srtS_nd h.nd
  l := by rw [srtS_len]; exact h.l
  u := fun u m => ⟨(h.u u m).1.sub fun k hk => (srtS_perm ks).symm.subset hk, (h.u u m).2⟩
  n := h.n
theorem f_mk (s : Option Rg) {ks : List Str} {us : List Rul} (h : SysOk ks us) : F_System_init [.lst (ks.map D.str), .lst (us.map dU)] s = .ok (S ks us) s :=
  f_System s h.w h.nd (by have := h.l; omega) (fun u m => (h.u u m).1) (by have := h.n; omega)
theorem f_mkS (s : Option Rg) {ks : List Str} {us : List Rul} (h : SysOk ks us) : F_System_init [.lst ((srtS ks).map D.str), .lst (us.map dU)] s = .ok (S ks us) s := by
  have r := f_mk s h.srt
  unfold S at r ⊢
  rw [srtS_srtS] at r
  exact r
theorem S_names {Γ : Gm (Option Rg)} {E : IEnv} {s : Option Rg} {ks : List Str} {us : List Rul} {i : Nat} (h : getI E i = some (S ks us, .frz)) : ev Γ (.fld "System" (.var i) "kept_names") E s = .ok (.tup ((srtS ks).map D.str)) s := by
  unfold ev ev
  rw [h]
  rfl
theorem S_rules {Γ : Gm (Option Rg)} {E : IEnv} {s : Option Rg} {ks : List Str} {us : List Rul} {i : Nat} (h : getI E i = some (S ks us, .frz)) : ev Γ (.fld "System" (.var i) "kept_rules") E s = .ok (.tup (us.map dU)) s := by
  unfold ev ev
  rw [h]
  rfl
theorem list_tup {α : Type} {f : α → D} {L : List α} (h : L.length ≤ 1000) : opBi .list [.tup (L.map f)] = some (.lst (L.map f)) := by
  show (if (L.map f).length ≤ sizeLine then _ else _) = _
  rw [if_pos (by rw [List.length_map]; exact sz200 h)]
theorem f_System_names (s : Option Rg) {ks : List Str} {us : List Rul} (h : SysOk ks us) : F_System_names [S ks us] s = .ok (.lst ((srtS ks).map D.str)) s := by
  have e := e_System_names
  have hx : exs G_System_names 0 ir_System_names [fz (S ks us)] s = .ok (.ret (.lst ((srtS ks).map D.str)) true) s := exsR (ex_ret (ev_bi1 (S_names rfl) (list_tup (by rw [srtS_len]; have := h.l; omega))))
  rw [e]
  exact run_retF rfl rfl hx
theorem f_System_rules (s : Option Rg) {ks : List Str} {us : List Rul} (h : SysOk ks us) : F_System_rules [S ks us] s = .ok (.lst (us.map dU)) s := by
  have e := e_System_rules
  have hx : exs G_System_rules 0 ir_System_rules [fz (S ks us)] s = .ok (.ret (.lst (us.map dU)) true) s := exsR (ex_ret (ev_bi1 (S_rules rfl) (list_tup (by have := h.n; omega))))
  rw [e]
  exact run_retF rfl rfl hx
theorem len_tup {α : Type} {f : α → D} {L : List α} : opBi .len [.tup (L.map f)] = some (.int L.length) := by
  show some (D.int (L.map f).length) = _
  rw [List.length_map]
theorem f_System_len (s : Option Rg) {ks : List Str} {us : List Rul} : F_System_len [S ks us] s = .ok (.int us.length) s := by
  have e := e_System_len
  have hx : exs G_System_len 0 ir_System_len [fz (S ks us)] s = .ok (.ret (.int us.length) false) s := exsR (ex_ret (ev_bi1 (S_rules rfl) len_tup))
  rw [e]
  exact run_ret rfl rfl hx
theorem SysOk.shB {ks : List Str} {us : List Rul} (h : SysOk ks us) : ShB 6 1100000 (shwD (srtS ks) us) :=
  shB_shw sh_set sh_step (fun k m => sh_w (h.w k (srtS_mem m))) (by rw [srtS_len]; have := h.l; omega) (fun u m n hn => sh_w (h.w n ((h.u u m).1.1.1 n hn))) (fun u m => (h.u u m).2) h.n
def txt (ks : List Str) (us : List Rul) : Str := shwS (srtS ks) us
theorem SysOk.txt {ks : List Str} {us : List Rul} (h : SysOk ks us) : PyData.strOk (txt ks us) = true := h.shB.c
theorem f__law_shown (s : Option Rg) {ks : List Str} {us : List Rul} (h : SysOk ks us) : F__law_shown [S ks us] s = .ok (.str (txt ks us)) s := by
  have e := e__law_shown
  have g14 := gl__law_shown_System_names
  have g15 := gl__law_shown_System_rules
  have g16 := gl__law_shown_System_len
  have e1 := f_System_names s h
  have e2 := f_System_rules s h
  have e3 := f_System_len s (ks := ks) (us := us)
  have i1 : insC "System" (S ks us) = true := rfl
  have hl : 0 ≤ (us.length : Int) ∧ (us.length : Int) < 2 ^ 63 := by have := h.n; omega
  have r := repr_shw h.shB
  have hD : shwD (srtS ks) us = .lst [.lst ((srtS ks).map D.str), .lst (us.map dU), .int us.length] := rfl
  rw [hD] at r
  have hT : shwS (srtS ks) us = Q.txt ks us := rfl
  rw [hT] at r
  have v0 : ev G__law_shown (.var 0) [fz (S ks us)] s = .ok (S ks us) s := ev_var rfl
  have x : ev G__law_shown (.lst [(.prp 14 true "System" (.var 0)), (.prp 15 true "System" (.var 0)), (.lenO 16 "System" (.var 0))]) [fz (S ks us)] s = .ok (.lst [.lst ((srtS ks).map D.str), .lst (us.map dU), .int us.length]) s :=
    ev_lst (evs_cons (ev_prp v0 i1 g14 e1) (evs_cons (ev_prp v0 i1 g15 e2) (evs_cons (ev_lenO v0 i1 g16 e3 hl) evs_nil)))
  have hx : exs G__law_shown 0 ir__law_shown [fz (S ks us)] s = .ok (.ret (.str (txt ks us)) false) s := exsR (ex_ret (ev_bi1 x r))
  rw [e]
  exact run_ret rfl rfl hx
theorem f_check_rule (s : Option Rg) {ks : List Str} {us : List Rul} {n : Int} (h0 : 0 ≤ n) (h1 : n < us.length) : F_check_rule [S ks us, .int n] s = .ok .non s := by
  have e := e_check_rule
  let E : IEnv := [fz (S ks us), fz (.int n)]
  have lenE := ev_bi1 (S_rules (Γ := G_check_rule) (E := E) (s := s) (i := 0) rfl) len_tup
  have c : ev G_check_rule (.chn .LtE .Lt (.cst (.int 0)) (.var 1) (.bi .len [(.fld "System" (.var 0) "kept_rules")])) E s = .ok (.bl true) s := by
    generalize (IE.bi .len [(.fld "System" (.var 0) "kept_rules")]) = X at lenE
    have g1 : getI E 1 = some (.int n, .frz) := rfl
    simp [ev, g1, bind_def, pure_s, leI, ltI', lenE, h0, h1]
  have hx : exs G_check_rule 0 ir_check_rule E s = .ok (.nx E) s := by
    have t : ex G_check_rule 0 (.ite (.not (.chn .LtE .Lt (.cst (.int 0)) (.var 1) (.bi .len [(.fld "System" (.var 0) "kept_rules")]))) [.never] []) E s = .ok (.nx E) s := ex_ite (tr_bl (ev_not (tr_bl c)))
    have hir : ir_check_rule = [.ite (.not (.chn .LtE .Lt (.cst (.int 0)) (.var 1) (.bi .len [(.fld "System" (.var 0) "kept_rules")]))) [.never] []] := rfl
    rw [hir, exsN t]
    rfl
  rw [e]
  exact run_nx rfl hx
/-- without some rules -/
def less (us : List Rul) (gone : List Int) : List Rul := ((us.zipIdx).filter fun p => !decide ((p.2 : Int) ∈ gone)).map (·.1)
theorem less_mem {us : List Rul} {gone : List Int} {u : Rul} (h : u ∈ less us gone) : u ∈ us := by
  obtain ⟨p, hp, rfl⟩ := List.mem_map.mp h
  exact List.fst_mem_of_mem_zipIdx (List.mem_filter.mp hp).1
theorem less_len (us : List Rul) (gone : List Int) : (less us gone).length ≤ us.length := by
  unfold less
  rw [List.length_map]
  refine Nat.le_trans (List.length_filter_le _ _) ?_
  rw [List.length_zipIdx]
  exact Nat.le_refl _
theorem SysOk.less {ks : List Str} {us : List Rul} (h : SysOk ks us) (gone : List Int) : SysOk ks (less us gone) where
  w := h.w
  nd := h.nd
  l := h.l
  u := fun u m => h.u u (less_mem m)
  n := Nat.le_trans (less_len _ _) h.n
/-- the comprehension that leaves some rules out, over any source -/
theorem lcg_less {Γ : Gm (Option Rg)} {E : IEnv} {s : Option Rg} {src : IE} {X : D} {us : List Rul} {gone : List Int} {a b g : Nat} (es : ev Γ src E s = .ok X s) (hs : seqOf X = some (us.map dU)) (lu : us.length ≤ 1000) (ha : a < E.length) (hb : b < E.length) (hab : a ≠ b) (hga : g ≠ a) (hgb : g ≠ b) (ok : okSlots E [a, b] = true)
    (hg : getI E g = some (.lst (gone.map D.int), .frz)) : ev Γ (.lcg (.tu [a, b]) (.enm src) (.cmp .NotIn (.var a) (.var g)) (.var b)) E s = .ok (.lst ((less us gone).map dU)) s := by
  have e1 : ev Γ (.enm src) E s = .ok (.tup ((us.zipIdx).map fun p => .tup [.int p.2, dU p.1])) s := by
    unfold ev
    rw [bind_def, es]
    dsimp only
    rw [bind_def, hs]
    show Res.ok (D.tup (enumL 0 (us.map dU))) s = _
    rw [enumL_map]
  have sq : seqOf (.tup ((us.zipIdx).map fun p => .tup [.int p.2, dU p.1])) = some ((us.zipIdx).map fun p => .tup [.int p.2, dU p.1]) := seq_tup (by rw [List.length_zipIdx]; exact sz200 lu)
  have r := lcg_ev (Γ := Γ) (env := E) (s := s) (tg := .tu [a, b]) (c := .cmp .NotIn (.var a) (.var g)) (body := .var b) (φ := fun p : Rul × Nat => .tup [.int p.2, dU p.1]) (L := us.zipIdx) (q := fun p => !decide ((p.2 : Int) ∈ gone)) (g := fun p => dU p.1) e1 sq ok (fun p m => by
    have g1 : getI (puts E [a, b] [.int p.2, dU p.1]) a = some (.int p.2, .frz) := by
      unfold getI puts puts puts put
      rw [List.getElem?_set_ne (Ne.symm hab), List.getElem?_set_self ha]
      rfl
    have g2 : getI (puts E [a, b] [.int p.2, dU p.1]) b = some (dU p.1, .frz) := by
      unfold getI puts puts puts put
      rw [List.getElem?_set_self (by rw [List.length_set]; exact hb)]
      rfl
    have g3 : getI (puts E [a, b] [.int p.2, dU p.1]) g = some (.lst (gone.map D.int), .frz) := by
      unfold getI puts puts puts put at *
      rw [List.getElem?_set_ne (Ne.symm hgb), List.getElem?_set_ne (Ne.symm hga)]
      exact hg
    refine ⟨puts E [a, b] [.int p.2, dU p.1], rfl, ?_, fun _ => ?_⟩
    · simp [ev, g1, g3, bind_def, pure_s, notInI, truth]
    · simp [ev, g2, pure_s])
  rw [r]
  unfold less
  rw [List.map_map]
  rfl
theorem f_System_without (s : Option Rg) {ks : List Str} {us : List Rul} {gone : List Int} (h : SysOk ks us) (hg : ∀ g ∈ gone, 0 ≤ g ∧ g < us.length) : F_System_without [S ks us, .lst (gone.map D.int)] s = .ok (S ks (less us gone)) s := by
  have e := e_System_without
  have g18 := gl_System_without_check_rule
  have g13 := gl_System_without_System_init
  let E (o2 o3 : Ob) : IEnv := [fz (S ks us), fz (.lst (gone.map D.int)), o2, o3, none]
  have loop : ∀ (gs : List Int) (o2 : Ob), (∀ g ∈ gs, 0 ≤ g ∧ g < us.length) → (o2 = none ∨ ∃ d, o2 = fz d) → ∃ p2, forD (fun d e => exs G_System_without 0 [.exp (.call 18 false [(.var 0), (.var 2)])] (put e 2 d .frz)) (gs.map D.int) (E o2 none) s = .ok (.nx (E p2 none)) s ∧ (p2 = none ∨ ∃ d, p2 = fz d) := by
    intro gs
    induction gs with
    | nil => exact fun o2 _ h2 => ⟨o2, rfl, h2⟩
    | cons g gs ih =>
      intro o2 hg h2
      obtain ⟨h0, h1⟩ := hg g (.head _)
      have fc := f_check_rule s (ks := ks) (us := us) h0 h1
      have step : exs G_System_without 0 [.exp (.call 18 false [(.var 0), (.var 2)])] (put (E o2 none) 2 (.int g) .frz) s = .ok (.nx (E (fz (.int g)) none)) s := by
        simp [exs, ex, ev, evs, callF, E, fz, getI, put, bind_def, pure_s, g18, fc]
      obtain ⟨p2, r, q⟩ := ih (fz (.int g)) (fun x m => hg x (.tail _ m)) (.inr ⟨_, rfl⟩)
      exact ⟨p2, by rw [List.map_cons, forD_nx step]; exact r, q⟩
  obtain ⟨p2, r1, q2⟩ := loop gone none hg (.inl rfl)
  have t0 : ex G_System_without 0 (.forL 2 (.var 1) none [.exp (.call 18 false [(.var 0), (.var 2)])]) (E none none) s = .ok (.nx (E p2 none)) s := ex_forL (show ev _ (.var 1) (E none none) s = .ok (.lst (gone.map D.int)) s from rfl) rfl r1
  have okS : okSlots (E p2 none) [2, 4] = true := by
    rcases q2 with rfl | ⟨d, rfl⟩ <;> rfl
  have sq : seqOf (.tup (us.map dU)) = some (us.map dU) := seq_tup (sz200 (by have := h.n; omega))
  have t1 : ex G_System_without 0 (.set 3 false (.lcg (.tu [2, 4]) (.enm (.fld "System" (.var 0) "kept_rules")) (.cmp .NotIn (.var 2) (.var 1)) (.var 4))) (E p2 none) s = .ok (.nx (E p2 (fz (.lst ((less us gone).map dU))))) s :=
    ex_set (lcg_less (S_rules rfl) sq (by have := h.n; omega) (by show 2 < 5; decide) (by show 4 < 5; decide) (by decide) (by decide) (by decide) okS rfl)
  have t2 : ex G_System_without 0 (.ret (.ctor 13 [(.bi .list [(.fld "System" (.var 0) "kept_names")]), (.var 3)])) (E p2 (fz (.lst ((less us gone).map dU)))) s = .ok (.ret (S ks (less us gone)) false) s := by
    have nm := ev_bi1 (S_names (Γ := G_System_without) (E := E p2 (fz (.lst ((less us gone).map dU)))) (s := s) (i := 0) rfl) (list_tup (by rw [srtS_len]; have := h.l; omega))
    have fm := f_mkS s (h.less gone)
    generalize (IE.bi .list [(.fld "System" (.var 0) "kept_names")]) = X at nm ⊢
    have g3 : getI (E p2 (fz (.lst ((less us gone).map dU)))) 3 = some (.lst ((less us gone).map dU), .frz) := rfl
    refine ex_ret ?_
    simp only [ev, evs, callF, g3, bind_def, pure_s, nm, g13, fm]
  have hir : ir_System_without = [.forL 2 (.var 1) none [.exp (.call 18 false [(.var 0), (.var 2)])], .set 3 false (.lcg (.tu [2, 4]) (.enm (.fld "System" (.var 0) "kept_rules")) (.cmp .NotIn (.var 2) (.var 1)) (.var 4)), .ret (.ctor 13 [(.bi .list [(.fld "System" (.var 0) "kept_names")]), (.var 3)])] := rfl
  have hx : exs G_System_without 0 ir_System_without (startE 5 sg_System_without.lend [S ks us, .lst (gone.map D.int)]) s = .ok (.ret (S ks (less us gone)) false) s := by
    have hs : startE 5 sg_System_without.lend [S ks us, .lst (gone.map D.int)] = E none none := rfl
    rw [hs, hir, exsN t0, exsN t1, exsR t2]
  rw [e]
  exact run_ret rfl rfl hx
theorem SysOk.snoc {ks : List Str} {us : List Rul} {u : Rul} (h : SysOk ks us) (hu : okR ks u ∧ smU u) (hl : us.length < 30) : SysOk ks (us ++ [u]) where
  w := h.w
  nd := h.nd
  l := h.l
  u := fun v m => by
    rcases List.mem_append.mp m with m | m
    · exact h.u v m
    · rw [List.mem_singleton.mp m]; exact hu
  n := by rw [List.length_append]; show _ + 1 ≤ 30; omega
theorem f_System_with_rule (s : Option Rg) {ks : List Str} {us : List Rul} {u : Rul} (h : SysOk ks us) (hu : okR ks u ∧ smU u) (hl : us.length < 30) : F_System_with_rule [S ks us, dU u] s = .ok (S ks (us ++ [u])) s := by
  have e := e_System_with_rule
  have g13 := gl_System_with_rule_System_init
  let E : IEnv := [fz (S ks us), fz (dU u)]
  have nm := ev_bi1 (S_names (Γ := G_System_with_rule) (E := E) (s := s) (i := 0) rfl) (list_tup (by rw [srtS_len]; have := h.l; omega))
  have rl := S_rules (Γ := G_System_with_rule) (E := E) (s := s) (ks := ks) (us := us) (i := 0) rfl
  have fm := f_mkS s (h.snoc hu hl)
  have sp : spreadOk [true, false] [.tup (us.map dU), dU u] = some ((us ++ [u]).map dU) := by
    show (if (us.map dU ++ [dU u]).length ≤ sizeLine then some (us.map dU ++ [dU u]) else none) = _
    rw [if_pos (by rw [List.length_append, List.length_map]; exact sz200 (by show _ + 1 ≤ 1000; omega)), List.map_append]
    rfl
  have g1 : getI E 1 = some (dU u, .frz) := rfl
  have x : ev G_System_with_rule (.lstS [true, false] [(.fld "System" (.var 0) "kept_rules"), (.var 1)]) E s = .ok (.lst ((us ++ [u]).map dU)) s := by
    generalize (IE.fld "System" (.var 0) "kept_rules") = Y at rl ⊢
    simp only [ev, evs, g1, bind_def, pure_s, rl, sp, opt_some]
  have hx : exs G_System_with_rule 0 ir_System_with_rule E s = .ok (.ret (S ks (us ++ [u])) false) s := by
    refine exsR (ex_ret ?_)
    generalize (IE.bi .list [(.fld "System" (.var 0) "kept_names")]) = X at nm ⊢
    generalize (IE.lstS [true, false] [(.fld "System" (.var 0) "kept_rules"), (.var 1)]) = Y at x ⊢
    simp only [ev, evs, callF, bind_def, pure_s, nm, x, g13, fm]
  rw [e]
  exact run_ret rfl rfl hx
end Q
end
section
set_option maxHeartbeats 2000000
namespace Q
open PySem PySem.Spec PyProof.Rows L2 Pv
theorem SysOk.perm {ks ls : List Str} {us : List Rul} (p : ls.Perm ks) (h : SysOk ks us) : SysOk ls us where
  w := fun w m => h.w w (p.subset m)
  nd := p.symm.nodup h.nd
  l := by rw [p.length_eq]; exact h.l
  u := fun u m => ⟨(h.u u m).1.sub fun k hk => p.symm.subset hk, (h.u u m).2⟩
  n := h.n
theorem f_mkP (s : Option Rg) {ks ls : List Str} {us : List Rul} (p : ls.Perm ks) (h : SysOk ks us) : F_System_init [.lst (ls.map D.str), .lst (us.map dU)] s = .ok (S ks us) s := by
  have r := f_mk s (h.perm p)
  unfold S at r ⊢
  rw [srtS_eq p] at r
  exact r
theorem SysOk.both {ks ls : List Str} {us vs : List Rul} (h1 : SysOk ks us) (h2 : SysOk ls vs) (dis : ∀ k ∈ ks, k ∉ ls) (l : ks.length + ls.length ≤ 12) (n : us.length + vs.length ≤ 30) : SysOk (ks ++ ls) (us ++ vs) where
  w := fun w m => (List.mem_append.mp m).elim (h1.w w) (h2.w w)
  nd := List.nodup_append.mpr ⟨h1.nd, h2.nd, fun a ha b hb e => dis a ha (e ▸ hb)⟩
  l := by rw [List.length_append]; exact l
  u := fun u m => by
    rcases List.mem_append.mp m with m | m
    · exact ⟨(h1.u u m).1.sub fun k hk => List.mem_append_left _ hk, (h1.u u m).2⟩
    · exact ⟨(h2.u u m).1.sub fun k hk => List.mem_append_right _ hk, (h2.u u m).2⟩
  n := by rw [List.length_append]; exact n
theorem spread2 {α : Type} {f : α → D} {A B : List α} (h : A.length + B.length ≤ 1000) : spreadOk [true, true] [.tup (A.map f), .tup (B.map f)] = some ((A ++ B).map f) := by
  show (if (A.map f ++ (B.map f ++ [])).length ≤ sizeLine then some (A.map f ++ (B.map f ++ [])) else none) = _
  rw [List.append_nil, ← List.map_append, if_pos (by rw [List.length_map, List.length_append]; exact sz200 h)]
theorem ev_lstS {S : Type} {Γ : Gm S} {env : IEnv} {s s1 : S} {st : List Bool} {es : List IE} {ds l : List D} (h : evs Γ es env s = .ok ds s1) (h2 : spreadOk st ds = some l) : ev Γ (.lstS st es) env s = .ok (.lst l) s1 := by
  unfold ev
  rw [bind_def, h]
  dsimp only
  rw [h2]
  rfl
theorem f_System_beside (s : Option Rg) {ks ls : List Str} {us vs : List Rul} (h1 : SysOk ks us) (h2 : SysOk ls vs) (dis : ∀ k ∈ ks, k ∉ ls) (l : ks.length + ls.length ≤ 12) (n : us.length + vs.length ≤ 30) : F_System_beside [S ks us, S ls vs] s = .ok (S (ks ++ ls) (us ++ vs)) s := by
  have e := e_System_beside
  have g13 := gl_System_beside_System_init
  let E (o2 : Ob) : IEnv := [fz (S ks us), fz (S ls vs), o2]
  let B : List IS := [.ite (.cmp .In (.var 2) (.fld "System" (.var 1) "kept_names")) [.never] []]
  have loop : ∀ (ws : List Str) (o2 : Ob), (∀ w ∈ ws, w ∉ ls) → ∃ p2, forD (fun d e => exs G_System_beside 0 B (put e 2 d .frz)) (ws.map D.str) (E o2) s = .ok (.nx (E p2)) s := by
    intro ws
    induction ws with
    | nil => exact fun o2 _ => ⟨o2, rfl⟩
    | cons w ws ih =>
      intro o2 hw
      have c : opCmp .In (.str w) (.tup ((srtS ls).map D.str)) = some false := by
        show inD _ _ = _
        rw [inD_str, decide_eq_false fun m => hw w (.head _) (srtS_mem m)]
      have t := ex_ite (N := 0) (a := [.never]) (b := []) (tr_bl (ev_cmp (ev_var (Γ := G_System_beside) (env := E (fz (.str w))) (s := s) (i := 2) (d := .str w) rfl) (S_names (i := 1) rfl) c))
      have step : exs G_System_beside 0 B (put (E o2) 2 (.str w) .frz) s = .ok (.nx (E (fz (.str w)))) s := by
        show exs G_System_beside 0 B (E (fz (.str w))) s = _
        rw [exsN (t.trans (show _ = Res.ok (Out.nx (E (fz (.str w)))) s from rfl))]
        rfl
      obtain ⟨p2, r⟩ := ih (fz (.str w)) fun x m => hw x (.tail _ m)
      exact ⟨p2, by rw [List.map_cons, forD_nx step]; exact r⟩
  obtain ⟨p2, r1⟩ := loop (srtS ks) none fun w m => dis w (srtS_mem m)
  have sq : seqOf (.tup ((srtS ks).map D.str)) = some ((srtS ks).map D.str) := seq_tup (sz200 (by rw [srtS_len]; omega))
  have t0 : ex G_System_beside 0 (.forL 2 (.fld "System" (.var 0) "kept_names") none B) (E none) s = .ok (.nx (E p2)) s := ex_forL (S_names rfl) sq r1
  have x1 := ev_lstS (evs_cons (S_names (Γ := G_System_beside) (E := E p2) (s := s) (ks := ks) (us := us) (i := 0) rfl) (evs_cons (S_names (ks := ls) (us := vs) (i := 1) rfl) evs_nil)) (spread2 (f := D.str) (A := srtS ks) (B := srtS ls) (by rw [srtS_len, srtS_len]; omega))
  have x2 := ev_lstS (evs_cons (S_rules (Γ := G_System_beside) (E := E p2) (s := s) (ks := ks) (us := us) (i := 0) rfl) (evs_cons (S_rules (ks := ls) (us := vs) (i := 1) rfl) evs_nil)) (spread2 (f := dU) (A := us) (B := vs) (by omega))
  have fm := f_mkP s (ls := srtS ks ++ srtS ls) ((srtS_perm ks).append (srtS_perm ls)) (h1.both h2 dis l n)
  have t1 := ex_ret (N := 0) (ev_ctor (evs_cons x1 (evs_cons x2 evs_nil)) g13 fm)
  have hx : exs G_System_beside 0 ir_System_beside (E none) s = .ok (.ret (S (ks ++ ls) (us ++ vs)) false) s := by
    have hir : ir_System_beside = [.forL 2 (.fld "System" (.var 0) "kept_names") none B, .ret (.ctor 13 [(.lstS [true, true] [(.fld "System" (.var 0) "kept_names"), (.fld "System" (.var 1) "kept_names")]), (.lstS [true, true] [(.fld "System" (.var 0) "kept_rules"), (.fld "System" (.var 1) "kept_rules")])])] := rfl
    rw [hir, exsN t0, exsR t1]
    rfl
  rw [e]
  exact run_ret rfl rfl hx
theorem SysOk.okN {ks : List Str} {us : List Rul} (h : SysOk ks us) : Pv.okN 8 (.tup [.tup ((srtS ks).map D.str), .tup (us.map dU)]) := by
  refine okN_tup (n := 7) (forall2 ?_ ?_)
  · exact (okN_tup (n := 1) fun d m => by
      obtain ⟨k, hk, rfl⟩ := List.mem_map.mp m
      exact okS_w (h.w k (srtS_mem hk))).mono (by omega)
  · exact (okN_tup (n := 5) fun d m => by
      obtain ⟨u, hu, rfl⟩ := List.mem_map.mp m
      exact okN_U okS_set okS_step fun n hn => okS_w (h.w n ((h.u u hu).1.1.1 n hn))).mono (by omega)
theorem f_System_eq (s : Option Rg) {ks : List Str} {us : List Rul} (h : SysOk ks us) : F_System_eq [S ks us, S ks us] s = .ok (.bl true) s := by
  have e := e_System_eq
  let E : IEnv := [fz (S ks us), fz (S ks us)]
  have v1 : ev G_System_eq (.var 1) E s = .ok (S ks us) s := ev_var rfl
  have i1 : isiD "System" (S ks us) = some true := by
    show (if ("System" : Str) = "System" then some true else none) = some true
    exact if_pos rfl
  have x0 : ev G_System_eq (.isi (.var 1) "System") E s = .ok (.bl true) s := by
    unfold ev
    rw [bind_def, v1]
    dsimp only
    rw [i1]
    rfl
  have t0 := ex_ite (N := 0) (a := [.ret (.cst (.bl false))]) (b := []) (tr_bl (ev_not (tr_bl x0)))
  have q (i : Nat) (hi : getI E i = some (S ks us, .frz)) := ev_tup (evs_cons (S_names (Γ := G_System_eq) (E := E) (s := s) (i := i) hi) (evs_cons (S_rules (i := i) hi) evs_nil))
  have t1 := ex_ret (N := 0) (ev_cmp (q 0 rfl) (q 1 rfl) (eq_self h.okN.eq))
  have hx : exs G_System_eq 0 ir_System_eq E s = .ok (.ret (.bl true) false) s := by
    have hir : ir_System_eq = [.ite (.not (.isi (.var 1) "System")) [.ret (.cst (.bl false))] [], .ret (.cmp .Eq (.tup [(.fld "System" (.var 0) "kept_names"), (.fld "System" (.var 0) "kept_rules")]) (.tup [(.fld "System" (.var 1) "kept_names"), (.fld "System" (.var 1) "kept_rules")]))] := rfl
    rw [hir, exsN (t0.trans (show _ = Res.ok (Out.nx E) s from rfl)), exsR t1]
    rfl
  rw [e]
  exact run_ret rfl rfl hx
end Q
end
section
set_option maxHeartbeats 300000
namespace Q
open PySem PySem.Spec PyProof.Rows L2 Pv
def F5 : List Str := ["m", "n", "rowfar", "o", "p"]
theorem f5_w {w : Str} (h : w ∈ F5) : w ∈ W12 := of_decide_eq_true (List.all_eq_true.mp (show (F5.all fun w => decide (w ∈ W12)) = true by decide +kernel) w h)
theorem f5_nd : F5.Nodup := by decide +kernel
theorem wx_f5 {w : Str} (h : w ∈ WX) : w ∉ F5 := by
  have z := List.all_eq_true.mp (show (WX.all fun w => !decide (w ∈ F5)) = true by decide +kernel) w h
  simpa using z
def brE (ws : List Str) (us : List Rul) (o4 o5 o6 o7 o8 o9 o10 o11 o12 : Ob) : IEnv := [fz .rng, fz (S ws us), fz (.lst (ws.map D.str)), fz (.lst (us.map dU)), o4, o5, o6, o7, o8, o9, o10, o11, o12, none, none]
def BR (j : Nat) : IS := ir__law_beside_right.getD j .never
theorem insS_ (ks : List Str) (us : List Rul) : insC "System" (S ks us) = true := rfl
theorem insM_b (ks : List Str) (us : List Rul) : insM "System" "beside" (S ks us) = true := rfl
theorem lenL {α : Type} (f : α → D) (L : List α) : opBi .len [.lst (L.map f)] = some (.int L.length) := by
  show some (D.int (L.map f).length) = _
  rw [List.length_map]
theorem f__law_beside_right {k : Nat} {s : Option Rg} {ws : List Str} {us : List Rul} (hx : ∀ w ∈ ws, w ∈ WX) (h : SysOk ws us) (l0 : 0 < ws.length) (l6 : ws.length ≤ 6) (n12 : us.length ≤ 12) (hg : Good (k + 2500) s) : ∃ s', F__law_beside_right [.rng, S ws us, .lst (ws.map D.str), .lst (us.map dU)] s = .ok (.bl true) s' ∧ Good k s' := by
  have e := e__law_beside_right
  have g6 := gl__law_beside_right__law_rows
  have g13 := gl__law_beside_right_System_init
  have g15 := gl__law_beside_right_System_rules
  have g17 := gl__law_beside_right__law_shown
  have g21 := gl__law_beside_right_System_beside
  have g22 := gl__law_beside_right_System_eq
  -- the other names
  obtain ⟨fs, hfs⟩ : ∃ fs, fs = F5.take (6 - ws.length) := ⟨_, rfl⟩
  have fl : fs.length = 6 - ws.length := by
    rw [hfs, List.length_take]
    show min _ 5 = _
    omega
  have fm : ∀ w ∈ fs, w ∈ F5 := fun w m => by rw [hfs] at m; exact List.mem_of_mem_take m
  have fnd : fs.Nodup := by rw [hfs]; exact (List.take_sublist _ _).nodup f5_nd
  have sl : opSl (.lst (F5.map D.str)) none (some (6 - (ws.length : Int))) = some (.lst (fs.map D.str)) := by
    have r := slTake (ws := F5) (k := 6 - ws.length) (by show _ ≤ 5; omega) (by decide)
    have : ((6 - ws.length : Nat) : Int) = 6 - (ws.length : Int) := by omega
    rw [this] at r
    rw [hfs]
    exact r
  have F5D : F5.map D.str = [.str "m", .str "n", .str "rowfar", .str "o", .str "p"] := rfl
  rw [F5D] at sl
  have len2 := lenL D.str ws
  have len3 := lenL dU us
  have t0 : ex G__law_beside_right 0 (BR 0) (brE ws us none none none none none none none none none) s = .ok (.nx (brE ws us (fz (.lst (fs.map D.str))) none none none none none none none none)) s := by
    simp [BR, ir__law_beside_right, ex, ev, evs, evPart, brE, fz, getI, put, bind_def, pure_s, len2, subI, sl]
  have t1 : ex G__law_beside_right 0 (BR 1) (brE ws us (fz (.lst (fs.map D.str))) none none none none none none none none) s = .ok (.nx (brE ws us (fz (.lst (fs.map D.str))) (fz (.int (12 - us.length))) none none none none none none none)) s := by
    simp [BR, ir__law_beside_right, ex, ev, evs, brE, fz, getI, put, bind_def, pure_s, len3, subI]
  have okF : okEq (.lst (fs.map D.str)) = true := okN.eq (okN_lst (n := 1) fun d m => by
    obtain ⟨w, hw, rfl⟩ := List.mem_map.mp m
    exact okS_w (f5_w (fm w hw)))
  have c2 := ev_cmp (Γ := G__law_beside_right) (s := s) (ev_var (env := brE ws us (fz (.lst (fs.map D.str))) (fz (.int (12 - us.length))) none none none none none none none) (i := 4) rfl) (ev_lst evs_nil) (eq_nil okF)
  have t2 := ex_ite (N := 0) (a := [.ret (.cst (.bl true))]) (b := []) (tr_bl c2)
  have hs : startE 15 sg__law_beside_right.lend [.rng, S ws us, .lst (ws.map D.str), .lst (us.map dU)] = brE ws us none none none none none none none none none := rfl
  have hir : ir__law_beside_right = [BR 0, BR 1, BR 2, BR 3, BR 4, BR 5, BR 6, BR 7, BR 8, BR 9, BR 10] := rfl
  have hB2 : BR 2 = .ite (.cmp .Eq (.var 4) (.lst [])) [.ret (.cst (.bl true))] [] := rfl
  by_cases f0 : fs = []
  · rw [f0] at t0 t1
    rw [f0] at t2
    have t2' : ex G__law_beside_right 0 (BR 2) (brE ws us (fz (.lst (([] : List Str).map D.str))) (fz (.int (12 - us.length))) none none none none none none none) s = .ok (.ret (.bl true) false) s := by
      rw [hB2]
      exact t2.trans rfl
    refine ⟨s, ?_, hg.le (by omega)⟩
    have hx : exs G__law_beside_right 0 ir__law_beside_right (startE 15 sg__law_beside_right.lend [.rng, S ws us, .lst (ws.map D.str), .lst (us.map dU)]) s = .ok (.ret (.bl true) false) s := by
      rw [hs, hir, exsN t0, exsN t1, exsR t2']
    rw [e]
    exact run_ret rfl rfl hx
  have fne : ¬ (fs.map D.str = []) := fun z => f0 (List.map_eq_nil_iff.mp z)
  rw [decide_eq_false fne] at t2
  have t2' : ex G__law_beside_right 0 (BR 2) (brE ws us (fz (.lst (fs.map D.str))) (fz (.int (12 - us.length))) none none none none none none none) s = .ok (.nx (brE ws us (fz (.lst (fs.map D.str))) (fz (.int (12 - us.length))) none none none none none none none)) s := by
    rw [hB2]
    exact t2.trans rfl
  have fpos : 0 < fs.length := List.length_pos_iff.mpr f0
  obtain ⟨vs, s1, d1, vo, vl, k1⟩ := f__law_rows (k := k) (ws := fs) (most := 12 - us.length) (by omega) (by omega) fpos (by omega) hg
  have hF : SysOk fs vs := ⟨fun w m => f5_w (fm w m), fnd, by omega, vo, by omega⟩
  have hF1 : SysOk (fs.take 1) [] := ⟨fun w m => f5_w (fm w (List.mem_of_mem_take m)), (List.take_sublist _ _).nodup fnd, by rw [List.length_take]; omega, fun u m => (by cases m), by show 0 ≤ 30; omega⟩
  have dis : ∀ w ∈ ws, w ∉ fs := fun w m z => wx_f5 (hx w m) (fm w z)
  have dis1 : ∀ w ∈ ws, w ∉ fs.take 1 := fun w m z => dis w m (List.mem_of_mem_take z)
  have dis2 : ∀ w ∈ fs, w ∉ ws := fun w m z => dis w z m
  have hB := h.both hF dis (by omega) (by omega)
  have hA := h.both hF1 dis1 (by rw [List.length_take]; omega) (by show us.length + 0 ≤ 30; omega)
  rw [List.append_nil] at hA
  have hC := hF.both h dis2 (by omega) (by omega)
  let E3 (o7 o8 o9 o10 o11 o12 : Ob) : IEnv := brE ws us (fz (.lst (fs.map D.str))) (fz (.int (12 - us.length))) (fz (.lst (vs.map dU))) o7 o8 o9 o10 o11 o12
  have t3 : ex G__law_beside_right 0 (BR 3) (brE ws us (fz (.lst (fs.map D.str))) (fz (.int (12 - us.length))) none none none none none none none) s = .ok (.nx (E3 none none none none none none)) s1 := by
    have a := ev_call (Γ := G__law_beside_right) (env := brE ws us (fz (.lst (fs.map D.str))) (fz (.int (12 - us.length))) none none none none none none none) (s := s) (fr := true) (evs_cons (ev_var (i := 0) (d := .rng) rfl) (evs_cons (ev_var (i := 4) (d := .lst (fs.map D.str)) rfl) (evs_cons (ev_var (i := 5) (d := .int (12 - us.length)) rfl) evs_nil))) g6 d1
    exact ex_set a
  have sl1 : opSl (.lst (fs.map D.str)) none (some 1) = some (.lst ((fs.take 1).map D.str)) := slTake (k := 1) fpos (by omega)
  have evsl : ∀ (E : IEnv) s, getI E 4 = some (.lst (fs.map D.str), .frz) → ev G__law_beside_right (.slc false true (.var 4) (.cst .non) (.cst (.int 1))) E s = .ok (.lst ((fs.take 1).map D.str)) s := fun E s h4 => by
    simp [ev, evPart, h4, bind_def, pure_s, sl1]
  have t4 : ex G__law_beside_right 0 (BR 4) (E3 none none none none none none) s1 = .ok (.nx (E3 (fz (S fs vs)) (fz (S (fs.take 1) [])) none none none none)) s1 := by
    have a := ev_ctor (Γ := G__law_beside_right) (env := E3 none none none none none none) (s := s1) (evs_cons (ev_var (i := 4) rfl) (evs_cons (ev_var (i := 6) rfl) evs_nil)) g13 (f_mk s1 hF)
    have y1 : ev G__law_beside_right (.slc false true (.var 4) (.cst .non) (.cst (.int 1))) (E3 none none none none none none) s1 = .ok (.lst ((fs.take 1).map D.str)) s1 := evsl _ s1 rfl
    have y2 : ev G__law_beside_right (.lst []) (E3 none none none none none none) s1 = .ok (.lst []) s1 := ev_lst evs_nil
    have fm1 : F_System_init [.lst ((fs.take 1).map D.str), .lst []] s1 = .ok (S (fs.take 1) []) s1 := by
      have r := f_mk s1 hF1
      rw [List.map_nil] at r
      exact r
    have b := ev_ctor (Γ := G__law_beside_right) (env := E3 none none none none none none) (s := s1) (evs_cons y1 (evs_cons y2 evs_nil)) g13 fm1
    exact ex_par2 a b
  have t5 : ex G__law_beside_right 0 (BR 5) (E3 (fz (S fs vs)) (fz (S (fs.take 1) [])) none none none none) s1 = .ok (.nx (E3 (fz (S fs vs)) (fz (S (fs.take 1) [])) (fz (.str (txt fs vs))) none none none)) s1 := by
    have a := ev_call (Γ := G__law_beside_right) (env := E3 (fz (S fs vs)) (fz (S (fs.take 1) [])) none none none none) (s := s1) (fr := false) (evs_cons (ev_var (i := 7) (d := S fs vs) rfl) evs_nil) g17 (f__law_shown s1 hF)
    exact ex_set a
  have t6 : ex G__law_beside_right 0 (BR 6) (E3 (fz (S fs vs)) (fz (S (fs.take 1) [])) (fz (.str (txt fs vs))) none none none) s1 = .ok (.nx (E3 (fz (S fs vs)) (fz (S (fs.take 1) [])) (fz (.str (txt fs vs))) (fz (S (ws ++ fs) (us ++ vs))) (fz (S (ws ++ fs.take 1) us)) none)) s1 := by
    have a := ev_ctor (Γ := G__law_beside_right) (env := E3 (fz (S fs vs)) (fz (S (fs.take 1) [])) (fz (.str (txt fs vs))) none none none) (s := s1) (evs_cons (ev_bin (o := .Add) (ev_var (i := 2) rfl) (ev_var (i := 4) rfl) (add_map D.str ws fs (sz200 (by omega)))) (evs_cons (ev_bin (o := .Add) (ev_var (i := 3) rfl) (ev_var (i := 6) rfl) (add_map dU us vs (sz200 (by omega)))) evs_nil)) g13 (f_mk s1 hB)
    have b := ev_ctor (Γ := G__law_beside_right) (env := E3 (fz (S fs vs)) (fz (S (fs.take 1) [])) (fz (.str (txt fs vs))) none none none) (s := s1) (evs_cons (ev_bin (o := .Add) (ev_var (i := 2) rfl) (evsl _ s1 rfl) (add_map D.str ws (fs.take 1) (sz200 (by rw [List.length_take]; omega)))) (evs_cons (ev_var (i := 3) rfl) evs_nil)) g13 (f_mk s1 hA)
    exact ex_par2 a b
  let E7 (o12 : Ob) : IEnv := E3 (fz (S fs vs)) (fz (S (fs.take 1) [])) (fz (.str (txt fs vs))) (fz (S (ws ++ fs) (us ++ vs))) (fz (S (ws ++ fs.take 1) us)) o12
  have fb := f_System_beside s1 h hF dis (by omega) (by omega)
  have fb1 := f_System_beside s1 h hF1 dis1 (by rw [List.length_take]; omega) (by show us.length + 0 ≤ 30; omega)
  rw [List.append_nil] at fb1
  have fc := f_System_beside s1 hF h dis2 (by omega) (by omega)
  let T : List (D × D) := [(S (ws ++ fs) (us ++ vs), S (ws ++ fs) (us ++ vs)), (S (ws ++ fs) (us ++ vs), S (ws ++ fs) (us ++ vs)), (S (ws ++ fs.take 1) us, S (ws ++ fs.take 1) us), (S (ws ++ fs) (us ++ vs), S (ws ++ fs) (us ++ vs))]
  have t7 : ex G__law_beside_right 0 (BR 7) (E7 none) s1 = .ok (.nx (E7 (fz (.lst (T.map (·.1)))))) s1 := by
    have m1 := ev_mth (Γ := G__law_beside_right) (env := E7 none) (s := s1) (fr := false) (ev_var (i := 1) rfl) (insM_b ws us) (evs_cons (ev_var (i := 7) rfl) evs_nil) g21 fb
    have m2 := ev_mthK (Γ := G__law_beside_right) (env := E7 none) (s := s1) (fr := false) (perm := [0]) (ev_var (i := 1) rfl) (insM_b ws us) (evs_cons (ev_var (i := 7) rfl) evs_nil) g21 fb
    have m3 := ev_mth (Γ := G__law_beside_right) (env := E7 none) (s := s1) (fr := false) (ev_var (i := 1) rfl) (insM_b ws us) (evs_cons (ev_var (i := 8) rfl) evs_nil) g21 fb1
    exact ex_set (ev_lst (evs_cons m1 (evs_cons m2 (evs_cons m3 (evs_cons m1 evs_nil)))))
  let E8 : IEnv := E7 (fz (.lst (T.map (·.1))))
  have lc : ev G__law_beside_right (.lcg (.tu [13, 14]) (.zip (.var 12) (.lst [(.var 10), (.var 10), (.var 11), (.var 10)])) (.cst (.bl true)) (.eqO 22 "System" (.var 13) (.var 14))) E8 s1 = .ok (.lst (T.map fun _ => .bl true)) s1 := by
    have z : ev G__law_beside_right (.zip (.var 12) (.lst [(.var 10), (.var 10), (.var 11), (.var 10)])) E8 s1 = .ok (.tup (T.map fun p => .tup [p.1, p.2])) s1 := by
      have a : ev G__law_beside_right (.var 12) E8 s1 = .ok (.lst (T.map (·.1))) s1 := ev_var rfl
      have b : ev G__law_beside_right (.lst [(.var 10), (.var 10), (.var 11), (.var 10)]) E8 s1 = .ok (.lst (T.map (·.2))) s1 := ev_lst (evs_cons (ev_var (i := 10) rfl) (evs_cons (ev_var (i := 10) rfl) (evs_cons (ev_var (i := 11) rfl) (evs_cons (ev_var (i := 10) rfl) evs_nil))))
      unfold ev
      rw [bind_def, a]
      dsimp only
      rw [bind_def, b]
      rfl
    have sq : seqOf (.tup (T.map fun p => .tup [p.1, p.2])) = some (T.map fun p => .tup [p.1, p.2]) := seq_tup (sz200 (by show 4 ≤ 1000; omega))
    have r := lcg_ev (Γ := G__law_beside_right) (env := E8) (s := s1) (tg := .tu [13, 14]) (c := .cst (.bl true)) (body := .eqO 22 "System" (.var 13) (.var 14)) (φ := fun p : D × D => .tup [p.1, p.2]) (L := T) (q := fun _ => true) (g := fun _ => .bl true) z sq rfl (fun p m => by
      have hp : ∃ ks us, SysOk ks us ∧ p = (S ks us, S ks us) := by
        simp only [T, List.mem_cons, List.not_mem_nil, or_false] at m
        rcases m with rfl | rfl | rfl | rfl
        · exact ⟨_, _, hB, rfl⟩
        · exact ⟨_, _, hB, rfl⟩
        · exact ⟨_, _, hA, rfl⟩
        · exact ⟨_, _, hB, rfl⟩
      obtain ⟨ks, us', ho, rfl⟩ := hp
      exact ⟨puts E8 [13, 14] [S ks us', S ks us'], rfl, rfl, fun _ => ev_eqO (ev_var (i := 13) rfl) (ev_var (i := 14) rfl) ⟨insS_ _ _, insS_ _ _⟩ g22 (f_System_eq s1 ho)⟩)
    rw [List.filter_eq_self.mpr (fun _ _ => rfl)] at r
    exact r
  have t8 : ex G__law_beside_right 0 (BR 8) E8 s1 = .ok (.nx E8) s1 := by
    have four : ev G__law_beside_right (.bin .Mult (.lst [(.cst (.bl true))]) (.cst (.int 4))) E8 s1 = .ok (.lst (T.map fun _ => .bl true)) s1 := ev_bin (ev_lst (evs_cons ev_cst evs_nil)) ev_cst (by
      have c : -(2 ^ 63) ≤ (4 : Int) ∧ (4 : Int) < 2 ^ 63 ∧ ([D.bl true] : List D).length * (4 : Int).toNat ≤ sizeLine := ⟨by decide, by decide, by decide⟩
      show (if -(2 ^ 63) ≤ (4 : Int) ∧ (4 : Int) < 2 ^ 63 ∧ ([D.bl true] : List D).length * (4 : Int).toNat ≤ sizeLine then some (D.lst (List.replicate (4 : Int).toNat [D.bl true]).flatten) else none) = _
      rw [if_pos c]
      rfl)
    have ok : okEq (.lst (T.map fun _ => D.bl true)) = true := okN.eq (okN_lst (n := 1) fun d m => by
      obtain ⟨_, _, rfl⟩ := List.mem_map.mp m
      exact okN_bl)
    exact (ex_ite (tr_bl (ev_cmp lc four (ne_self ok)))).trans rfl
  have t9 : ex G__law_beside_right 0 (BR 9) E8 s1 = .ok (.nx E8) s1 := by
    have i0 : opIdx (.lst (T.map (·.1))) (.int 0) = some (S (ws ++ fs) (us ++ vs)) := rfl
    have a := ev_call (Γ := G__law_beside_right) (env := E8) (s := s1) (fr := false) (evs_cons (ev_idx (ev_var (i := 12) rfl) (ev_cst (d := .int 0)) i0) evs_nil) g17 (f__law_shown s1 hB)
    have b := ev_call (Γ := G__law_beside_right) (env := E8) (s := s1) (fr := false) (evs_cons (ev_var (i := 10) rfl) evs_nil) g17 (f__law_shown s1 hB)
    have x1 := ev_cmp a b (neS (txt (ws ++ fs) (us ++ vs)))
    have m1 := ev_mth (Γ := G__law_beside_right) (env := E8) (s := s1) (fr := false) (ev_var (i := 7) rfl) (insM_b fs vs) (evs_cons (ev_var (i := 1) rfl) evs_nil) g21 fc
    have c := ev_prp (fr := true) m1 (insS_ (fs ++ ws) (vs ++ us)) g15 (f_System_rules s1 hC)
    have d := ev_bin (Γ := G__law_beside_right) (env := E8) (s := s1) (o := .Add) (ev_var (i := 6) rfl) (ev_var (i := 3) rfl) (add_map dU vs us (sz200 (by omega)))
    have x2 := ev_cmp c d (ne_self (ok_us hC.w fun u m => (hC.u u m).1.1))
    exact (ex_ite (tr_bl (ev_or x1 (fun _ => x2) (fun z => by cases z)))).trans rfl
  have t10 : ex G__law_beside_right 0 (BR 10) E8 s1 = .ok (.ret (.bl true) false) s1 := by
    have a := ev_call (Γ := G__law_beside_right) (env := E8) (s := s1) (fr := false) (evs_cons (ev_var (i := 7) rfl) evs_nil) g17 (f__law_shown s1 hF)
    have c : opCmp .Eq (.str (txt fs vs)) (.str (txt fs vs)) = some true := by simp [opCmp]
    exact ex_ret (ev_cmp a (ev_var (i := 9) rfl) c)
  refine ⟨s1, ?_, k1⟩
  have hx : exs G__law_beside_right 0 ir__law_beside_right (startE 15 sg__law_beside_right.lend [.rng, S ws us, .lst (ws.map D.str), .lst (us.map dU)]) s = .ok (.ret (.bl true) false) s1 := by
    rw [hs, hir, exsN t0, exsN t1, exsN t2', exsN t3, exsN t4, exsN t5, exsN t6, exsN t7, exsN t8, exsN t9, exsR t10]
  rw [e]
  exact run_ret rfl rfl hx
end Q
end
section
set_option maxHeartbeats 400000
namespace Q
open PySem PySem.Spec PyProof.Rows L2 Pv
theorem less_nil (us : List Rul) : less us [] = us := by
  unfold less
  have e : (us.zipIdx.filter fun p => !decide ((p.2 : Int) ∈ ([] : List Int))) = us.zipIdx := List.filter_eq_self.mpr fun p _ => by simp
  rw [e, List.zipIdx_map_fst]
def lawF (ns : List Int) (o2 o3 o4 o5 o6 o8 o10 o11 o14 o15 o16 : Ob) : IEnv := [some (.scr ns, .frz), some (.rng, .frz), o2, o3, o4, o5, o6, none, o8, none, o10, o11, none, none, o14, o15, o16]
def lawB : List IS := match lawIr with
  | .forR _ _ _ b :: _ => b
  | _ => []
def LB (j : Nat) : IS := lawB.getD j .never
theorem lcr_draws {E : IEnv} (h1 : getI E 1 = some (.rng, .frz)) (h7 : 7 < E.length) : ∀ (L : List Int) (k : Nat) (s : Option Rg), Good (k + L.length) s →
    ∃ (gs : List Int) (s' : Option Rg), filtL (fun d => ev G_law (.cmp .Gt (.call 0 false [(.var 1), (.cst (.int 3))]) (.cst (.int 0))) (put E 7 d .frz) >>= truth) (fun d => ev G_law (.var 7) (put E 7 d .frz)) (L.map D.int) s = .ok (gs.map D.int) s' ∧ Good k s' ∧ (∀ g ∈ gs, g ∈ L) ∧ gs.length ≤ L.length
  | [], k, s, h => ⟨[], s, rfl, h, fun g m => m, Nat.le_refl _⟩
  | l :: L, k, s, h => by
    have g0 := gl_law_draw
    obtain ⟨i, s1, d1, a1, b1, k1⟩ := drw (k := k + L.length) (n := 3) (h.le (by rw [List.length_cons]; omega)) (by omega) (lt1000 (by omega))
    obtain ⟨gs, s2, e2, k2, m2, l2⟩ := lcr_draws h1 h7 L k s1 k1
    have p1 : getI (put E 7 (.int l) .frz) 1 = some (.rng, .frz) := by
      unfold getI put at *
      rw [List.getElem?_set_ne (by decide)]
      exact h1
    have p7 : getI (put E 7 (.int l) .frz) 7 = some (.int l, .frz) := by
      unfold getI put
      rw [List.getElem?_set_self h7]
      rfl
    have c : (ev G_law (.cmp .Gt (.call 0 false [(.var 1), (.cst (.int 3))]) (.cst (.int 0))) (put E 7 (.int l) .frz) >>= truth) s = .ok (decide (0 < i)) s1 :=
      tr_bl (ev_cmp (ev_call (evs_cons (ev_var p1) (evs_cons ev_cst evs_nil)) g0 d1) ev_cst (gtI i 0))
    by_cases hi : 0 < i
    · refine ⟨l :: gs, s2, ?_, k2, fun g m => ?_, by rw [List.length_cons, List.length_cons]; omega⟩
      · rw [List.map_cons]
        unfold filtL
        rw [bind_def, c]
        dsimp only
        rw [if_pos (decide_eq_true hi), bind_def, ev_var p7]
        dsimp only
        rw [bind_def, e2]
        rfl
      · rcases List.mem_cons.mp m with rfl | m
        · exact .head _
        · exact .tail _ (m2 g m)
    · refine ⟨gs, s2, ?_, k2, fun g m => .tail _ (m2 g m), by rw [List.length_cons]; omega⟩
      rw [List.map_cons]
      unfold filtL
      rw [bind_def, c]
      dsimp only
      rw [if_neg (by rw [decide_eq_false hi]; decide)]
      exact e2
/-- whole numbers from 0 on -/
def upTo (n : Nat) : List Int := (List.range n).map fun i => (0 : Int) + (i : Nat)
theorem upTo_mem {n : Nat} {g : Int} (h : g ∈ upTo n) : 0 ≤ g ∧ g < n := by
  obtain ⟨i, hi, rfl⟩ := List.mem_map.mp h
  have := List.mem_range.mp hi
  omega
theorem rng_upTo (n : Nat) : rngL 0 (n : Int) = (upTo n).map D.int := by
  unfold rngL upTo
  rw [List.map_map]
  have : ((n : Int) - 0).toNat = n := by omega
  rw [this]
  rfl
theorem upTo_len (n : Nat) : (upTo n).length = n := by unfold upTo; rw [List.length_map, List.length_range]
theorem insM_w (ks : List Str) (us : List Rul) : insM "System" "without" (S ks us) = true := rfl
theorem insM_r (ks : List Str) (us : List Rul) : insM "System" "with_rule" (S ks us) = true := rfl
/-- shown texts of systems, one way and the other -/
theorem lc_shown {E : IEnv} {s : Option Rg} {ws : List Str} {src : IE} {Ls : List (List Rul)} (h : ∀ us ∈ Ls, SysOk ws us) (e : ev G_law src E s = .ok (.lst (Ls.map fun us => S ws us)) s) (h12 : 12 < E.length) (ok : okSlot E 12 = true) : ev G_law (.lc 12 src (.call 17 false [(.var 12)])) E s = .ok (.lst (Ls.map fun us => .str (txt ws us))) s := by
  have g17 := gl_law__law_shown
  refine lc_ev (φ := fun us => S ws us) (g := fun us => .str (txt ws us)) e rfl ok fun us m => ?_
  have p : getI (put E 12 (S ws us) .frz) 12 = some (S ws us, .frz) := by
    unfold getI put
    rw [List.getElem?_set_self h12]
    rfl
  exact ev_call (evs_cons (ev_var p) evs_nil) g17 (f__law_shown s (h us m))
theorem lc_made {E : IEnv} {s : Option Rg} {ws : List Str} {src : IE} {X : D} {Ls : List (List Rul)} (h : ∀ us ∈ Ls, SysOk ws us) (e : ev G_law src E s = .ok X s) (sq : seqOf X = some (Ls.map fun us => .lst (us.map dU))) (h13 : 13 < E.length) (ok : okSlot E 13 = true) (h3 : getI E 3 = some (.lst (ws.map D.str), .frz)) : ev G_law (.lc 13 src (.call 17 false [(.ctor 13 [(.var 3), (.var 13)])])) E s = .ok (.lst (Ls.map fun us => .str (txt ws us))) s := by
  have g17 := gl_law__law_shown
  have g13 := gl_law_System_init
  refine lc_ev (φ := fun us : List Rul => .lst (us.map dU)) (g := fun us => .str (txt ws us)) e sq ok fun us m => ?_
  have p : getI (put E 13 (.lst (us.map dU)) .frz) 13 = some (.lst (us.map dU), .frz) := by
    unfold getI put
    rw [List.getElem?_set_self h13]
    rfl
  have p3 : getI (put E 13 (.lst (us.map dU)) .frz) 3 = some (.lst (ws.map D.str), .frz) := by
    unfold getI put at *
    rw [List.getElem?_set_ne (by decide)]
    exact h3
  have c := ev_ctor (Γ := G_law) (s := s) (evs_cons (ev_var p3) (evs_cons (ev_var p) evs_nil)) g13 (f_mk s (h us m))
  exact ev_call (evs_cons c evs_nil) g17 (f__law_shown s (h us m))
theorem okTxts {ws : List Str} {Ls : List (List Rul)} (h : ∀ us ∈ Ls, SysOk ws us) : okEq (.lst (Ls.map fun us => D.str (txt ws us))) = true := okN.eq (okN_lst (n := 1) fun d m => by
  obtain ⟨us, hu, rfl⟩ := List.mem_map.mp m
  exact okS_of (h us hu).txt)
theorem lap {k : Nat} {s : Option Rg} {ns : List Int} {l : Int} (o3 o4 o5 o6 o8 o10 o11 o14 o15 o16 : Ob) (hg : Good (k + 6000) s) :
    ∃ p3 p4 p5 p6 p8 p10 p11 p14 p15 p16 s', exs G_law 0 lawB (lawF ns (fz (.int l)) o3 o4 o5 o6 o8 o10 o11 o14 o15 o16) s = .ok (.nx (lawF ns (fz (.int l)) p3 p4 p5 p6 p8 p10 p11 p14 p15 p16)) s' ∧ Good k s' := by
  have g0 := gl_law_draw
  have g2 := gl_law__law_words
  have g5 := gl_law__law_rule
  have g6 := gl_law__law_rows
  have g13 := gl_law_System_init
  have g17 := gl_law__law_shown
  have g19 := gl_law_System_without
  have g20 := gl_law_System_with_rule
  have g23 := gl_law__law_beside_right
  obtain ⟨i0, s0, d0, a0, b0, k0⟩ := drw (k := k + 5999) (n := 6) hg (by omega) (lt1000 (by omega))
  obtain ⟨ws, s1, d1, wx, nd, wl, k1⟩ := f__law_words (k := k + 5992) (n := 1 + i0) (by omega) (by omega) k0
  have wl1 : 0 < ws.length := by omega
  have wl2 : ws.length ≤ 6 := by omega
  obtain ⟨us, s2, d2, uo, ul, k2⟩ := f__law_rows (k := k + 3492) (ws := ws) (most := 12) (by omega) (by omega) wl1 (by omega) k1
  have h : SysOk ws us := ⟨fun w m => wx_w (wx w m), nd, by omega, uo, by omega⟩
  have ul : us.length ≤ 12 := by omega
  let E0 (o3 o4 o5 o6 o8 o10 o11 o14 o15 o16 : Ob) : IEnv := lawF ns (fz (.int l)) o3 o4 o5 o6 o8 o10 o11 o14 o15 o16
  have t0 : ex G_law 0 (LB 0) (E0 o3 o4 o5 o6 o8 o10 o11 o14 o15 o16) s = .ok (.nx (E0 (fz (.lst (ws.map D.str))) o4 o5 o6 o8 o10 o11 o14 o15 o16)) s1 := by
    have a := ev_call (Γ := G_law) (env := E0 o3 o4 o5 o6 o8 o10 o11 o14 o15 o16) (s := s) (fr := false) (evs_cons (ev_var (i := 1) (d := .rng) rfl) (evs_cons (ev_cst (d := .int 6)) evs_nil)) g0 d0
    have b := ev_call (Γ := G_law) (env := E0 o3 o4 o5 o6 o8 o10 o11 o14 o15 o16) (s := s) (fr := false) (evs_cons (ev_var (i := 1) (d := .rng) rfl) (evs_cons (ev_bin (ev_cst (d := .int 1)) a (addI 1 i0)) evs_nil)) g2 d1
    exact ex_set b
  have t1 : ex G_law 0 (LB 1) (E0 (fz (.lst (ws.map D.str))) o4 o5 o6 o8 o10 o11 o14 o15 o16) s1 = .ok (.nx (E0 (fz (.lst (ws.map D.str))) (fz (.lst (us.map dU))) o5 o6 o8 o10 o11 o14 o15 o16)) s2 := by
    have a := ev_call (Γ := G_law) (env := E0 (fz (.lst (ws.map D.str))) o4 o5 o6 o8 o10 o11 o14 o15 o16) (s := s1) (fr := true) (evs_cons (ev_var (i := 1) (d := .rng) rfl) (evs_cons (ev_var (i := 3) (d := .lst (ws.map D.str)) rfl) (evs_cons (ev_cst (d := .int 12)) evs_nil))) g6 d2
    exact ex_set a
  let E1 (o5 o6 o8 o10 o11 o14 o15 o16 : Ob) : IEnv := E0 (fz (.lst (ws.map D.str))) (fz (.lst (us.map dU))) o5 o6 o8 o10 o11 o14 o15 o16
  have t2 : ex G_law 0 (LB 2) (E1 o5 o6 o8 o10 o11 o14 o15 o16) s2 = .ok (.nx (E1 (fz (S ws us)) o6 o8 o10 o11 o14 o15 o16)) s2 := by
    have a := ev_ctor (Γ := G_law) (env := E1 o5 o6 o8 o10 o11 o14 o15 o16) (s := s2) (evs_cons (ev_var (i := 3) (d := .lst (ws.map D.str)) rfl) (evs_cons (ev_var (i := 4) (d := .lst (us.map dU)) rfl) evs_nil)) g13 (f_mk s2 h)
    exact ex_set a
  let E2 (o6 o8 o10 o11 o14 o15 o16 : Ob) : IEnv := E1 (fz (S ws us)) o6 o8 o10 o11 o14 o15 o16
  have len4 : ∀ (E : IEnv) s, getI E 4 = some (.lst (us.map dU), .frz) → ev G_law (.bi .len [(.var 4)]) E s = .ok (.int us.length) s := fun E s h4 => ev_bi1 (ev_var h4) (lenL dU us)
  -- some of the numbers
  obtain ⟨g1, s3, e3, k3, m3, l3⟩ := lcr_draws (E := E2 o6 o8 o10 o11 o14 o15 o16) rfl (by show 7 < 17; decide) (upTo us.length) (k + 3470) s2 (k2.le (by rw [upTo_len]; omega))
  rw [upTo_len] at l3
  have t3 : ex G_law 0 (LB 3) (E2 o6 o8 o10 o11 o14 o15 o16) s2 = .ok (.nx (E2 (fz (.lst (g1.map D.int))) o8 o10 o11 o14 o15 o16)) s3 := by
    have b := len4 (E2 o6 o8 o10 o11 o14 o15 o16) s2 rfl
    have c : ev G_law (.lcr 7 (.cst (.int 0)) (.bi .len [(.var 4)]) (.cmp .Gt (.call 0 false [(.var 1), (.cst (.int 3))]) (.cst (.int 0))) (.var 7)) (E2 o6 o8 o10 o11 o14 o15 o16) s2 = .ok (.lst (g1.map D.int)) s3 := by
      have rg : rngOf (.int 0) (.int us.length) = some (0, (us.length : Int)) := by
        have c := lrng_ok (a := 0) (b := us.length) (by omega) (by omega) (by omega) (by omega)
        unfold rngOf
        dsimp only
        rw [if_pos c]
      unfold ev
      rw [bind_def, show ev G_law (.cst (.int 0)) (E2 o6 o8 o10 o11 o14 o15 o16) s2 = .ok (.int 0) s2 from ev_cst]
      dsimp only
      rw [bind_def, b]
      dsimp only
      rw [rg, opt_some]
      show (if okSlot (E2 o6 o8 o10 o11 o14 o15 o16) 7 = true then (calm (filtL _ _ (rngL 0 (us.length : Int))) >>= fun r => (pure (.lst r) : M (Option Rg) D)) else bad) s2 = _
      have ok : okSlot (E2 o6 o8 o10 o11 o14 o15 o16) 7 = true := rfl
      rw [if_pos ok, bind_def, rng_upTo]
      unfold calm
      rw [e3]
      rfl
    exact ex_set c
  obtain ⟨j, s4, d4, a4, b4, k4⟩ := drw (k := k + 3469) (n := 5) k3 (by omega) (lt1000 (by omega))
  obtain ⟨mx, hmx, mx0, mx2⟩ : ∃ m : Int, opBi .max [.int 0, .int (j - 2)] = some (.int m) ∧ 0 ≤ m ∧ m ≤ 2 := by
    refine ⟨if j - 2 > 0 then j - 2 else 0, rfl, ?_, ?_⟩ <;> split <;> omega
  let G3 : List (List Int) := [g1.reverse ++ cutD g1 none (some 2), [], upTo us.length]
  obtain ⟨gs, hgs, idx⟩ : ∃ gs ∈ G3, opIdx (.lst (G3.map fun g => .lst (g.map D.int))) (.int mx) = some (.lst (gs.map D.int)) := by
    obtain ⟨z, z1, z2⟩ := idxL (L := G3.map fun g => D.lst (g.map D.int)) mx0 (by show mx < 3; omega)
    obtain ⟨g, hg, rfl⟩ := List.mem_map.mp z1
    exact ⟨g, hg, z2⟩
  have gr : ∀ g ∈ gs, 0 ≤ g ∧ g < us.length := fun g m => by
    simp only [G3, List.mem_cons, List.not_mem_nil, or_false] at hgs
    rcases hgs with rfl | rfl | rfl
    · rcases List.mem_append.mp m with m | m
      · exact upTo_mem (m3 g (List.mem_reverse.mp m))
      · exact upTo_mem (m3 g (cutD_sub m))
    · cases m
    · exact upTo_mem m
  have gl : gs.length ≤ 30 := by
    simp only [G3, List.mem_cons, List.not_mem_nil, or_false] at hgs
    rcases hgs with rfl | rfl | rfl
    · rw [List.length_append, List.length_reverse]
      have := cutD_len g1 none (some 2)
      omega
    · show 0 ≤ 30; omega
    · rw [upTo_len]; omega
  have t4 : ex G_law 0 (LB 4) (E2 (fz (.lst (g1.map D.int))) o8 o10 o11 o14 o15 o16) s3 = .ok (.nx (E2 (fz (.lst (gs.map D.int))) o8 o10 o11 o14 o15 o16)) s4 := by
    generalize hE : E2 (fz (.lst (g1.map D.int))) o8 o10 o11 o14 o15 o16 = E
    have v6 : ev G_law (.var 6) E s3 = .ok (.lst (g1.map D.int)) s3 := ev_var (by rw [← hE]; rfl)
    have x1 : ev G_law (.rev (.var 6)) E s3 = .ok (.lst (g1.reverse.map D.int)) s3 := by
      unfold ev
      rw [bind_def, v6]
      show Res.ok (D.lst (g1.map D.int).reverse) s3 = _
      rw [List.map_reverse]
    have x2 : ev G_law (.slc false true (.var 6) (.cst .non) (.cst (.int 2))) E s3 = .ok (.lst ((cutD g1 none (some 2)).map D.int)) s3 := by
      have g : getI E 6 = some (.lst (g1.map D.int), .frz) := by rw [← hE]; rfl
      simp [ev, evPart, g, bind_def, pure_s, sl_map]
    have x3 := ev_bin (o := .Add) x1 x2 (add_map D.int _ _ (sz200 (by rw [List.length_reverse]; have := cutD_len g1 none (some 2); omega)))
    have x4 : ev G_law (.lrng (.cst (.int 0)) (.bi .len [(.var 4)])) E s3 = .ok (.lst ((upTo us.length).map D.int)) s3 := by
      rw [← rng_upTo]
      exact lrng_ev ev_cst (len4 E s3 (by rw [← hE]; rfl)) (lrng_ok (by omega) (by omega) (by omega) (by omega))
    have x5 : ev G_law (.lst [(.bin .Add (.rev (.var 6)) (.slc false true (.var 6) (.cst .non) (.cst (.int 2)))), (.lst []), (.lrng (.cst (.int 0)) (.bi .len [(.var 4)]))]) E s3 = .ok (.lst (G3.map fun g => .lst (g.map D.int))) s3 := ev_lst (evs_cons x3 (evs_cons (ev_lst evs_nil) (evs_cons x4 evs_nil)))
    have v1 : ev G_law (.var 1) E s3 = .ok .rng s3 := ev_var (by rw [← hE]; rfl)
    have x6 := ev_bin (o := .Sub) (ev_call (fr := false) (evs_cons v1 (evs_cons (ev_cst (d := .int 5)) evs_nil)) g0 d4) (ev_cst (d := .int 2)) (subI j 2)
    have x7 : ev G_law (.bi .max [(.cst (.int 0)), (.bin .Sub (.call 0 false [(.var 1), (.cst (.int 5))]) (.cst (.int 2)))]) E s3 = .ok (.int mx) s4 := by
      have y := evs_cons (ev_cst (Γ := G_law) (env := E) (s := s3) (d := .int 0)) (evs_cons x6 evs_nil)
      unfold ev
      rw [bind_def, y]
      dsimp only
      rw [hmx]
      rfl
    have x8 := ev_idx x5 x7 idx
    have r := ex_set (N := 0) (i := 6) x8
    have hL : LB 4 = .set 6 false (.idx (.lst [(.bin .Add (.rev (.var 6)) (.slc false true (.var 6) (.cst .non) (.cst (.int 2)))), (.lst []), (.lrng (.cst (.int 0)) (.bi .len [(.var 4)]))]) (.bi .max [(.cst (.int 0)), (.bin .Sub (.call 0 false [(.var 1), (.cst (.int 5))]) (.cst (.int 2)))])) := rfl
    rw [hL, r, ← hE]
    rfl
  let l1 := less us gs
  have hl1 : SysOk ws l1 := h.less gs
  let E3 (o8 o10 o11 o14 o15 o16 : Ob) : IEnv := E2 (fz (.lst (gs.map D.int))) o8 o10 o11 o14 o15 o16
  have t5 : ex G_law 0 (LB 5) (E3 o8 o10 o11 o14 o15 o16) s4 = .ok (.nx (E3 (fz (.lst (l1.map dU))) o10 o11 o14 o15 o16)) s4 := by
    have a := lcg_less (Γ := G_law) (E := E3 o8 o10 o11 o14 o15 o16) (s := s4) (src := .var 4) (us := us) (gone := gs) (a := 7) (b := 9) (g := 6) (ev_var (d := .lst (us.map dU)) rfl) rfl (by omega) (by show 7 < 17; decide) (by show 9 < 17; decide) (by decide) (by decide) (by decide) rfl rfl
    exact ex_set a
  obtain ⟨z, rz, zo⟩ : ∃ z, opBi .repr [.lst (gs.map D.int)] = some (.str z) ∧ PyData.strOk z = true := by
    have sb : ShB 1 7000 (.lst (gs.map D.int)) := by
      refine (shB_lst (n := 0) (m := 200) (l := gs.map D.int) fun d m => ?_).le (by decide) ?_
      · obtain ⟨g, hg, rfl⟩ := List.mem_map.mp m
        obtain ⟨y1, y2⟩ := gr g hg
        exact shB_i g (Nat.lt_of_le_of_lt (show g.natAbs ≤ 100 by omega) (by decide))
      · rw [List.length_map]
        have : gs.length * (200 + 2) ≤ 30 * (200 + 2) := Nat.mul_le_mul_right _ gl
        omega
    exact ⟨_, repr_lst sb (by decide) (by decide), sb.c⟩
  let KD : D := .lst ([txt ws us, z].map D.str)
  have kept : ∀ (E : IEnv) (s : Option Rg), getI E 5 = some (S ws us, .frz) → getI E 6 = some (.lst (gs.map D.int), .frz) → ev G_law (.lst [(.call 17 false [(.var 5)]), (.bi .repr [(.var 6)])]) E s = .ok KD s := fun E s h5 h6 =>
    ev_lst (evs_cons (ev_call (evs_cons (ev_var h5) evs_nil) g17 (f__law_shown s h)) (evs_cons (ev_bi1 (ev_var h6) rz) evs_nil))
  let E4 (o10 o11 o14 o15 o16 : Ob) : IEnv := E3 (fz (.lst (l1.map dU))) o10 o11 o14 o15 o16
  have t6 : ex G_law 0 (LB 6) (E4 o10 o11 o14 o15 o16) s4 = .ok (.nx (E4 (fz KD) o11 o14 o15 o16)) s4 := by
    have a := kept (E4 o10 o11 o14 o15 o16) s4 rfl rfl
    exact ex_set a
  let E5 (o11 o14 o15 o16 : Ob) : IEnv := E4 (fz KD) o11 o14 o15 o16
  let Ls : List (List Rul) := [l1, l1, us, l1]
  have hLs : ∀ v ∈ Ls, SysOk ws v := fun v m => by
    simp only [Ls, List.mem_cons, List.not_mem_nil, or_false] at m
    rcases m with rfl | rfl | rfl | rfl
    · exact hl1
    · exact hl1
    · exact h
    · exact hl1
  have t7 : ex G_law 0 (LB 7) (E5 o11 o14 o15 o16) s4 = .ok (.nx (E5 (fz (.lst (Ls.map fun us => S ws us))) o14 o15 o16)) s4 := by
    have f1 := f_System_without s4 h gr
    have f0 : F_System_without [S ws us, .lst []] s4 = .ok (S ws us) s4 := by
      have r := f_System_without s4 (gone := []) h (fun g m => by cases m)
      rw [List.map_nil, less_nil] at r
      exact r
    have m1 := ev_mth (Γ := G_law) (env := E5 o11 o14 o15 o16) (s := s4) (fr := false) (ev_var (i := 5) (d := S ws us) rfl) (insM_w ws us) (evs_cons (ev_var (i := 6) (d := .lst (gs.map D.int)) rfl) evs_nil) g19 f1
    have m2 := ev_mthK (Γ := G_law) (env := E5 o11 o14 o15 o16) (s := s4) (fr := false) (perm := [0]) (ev_var (i := 5) (d := S ws us) rfl) (insM_w ws us) (evs_cons (ev_var (i := 6) (d := .lst (gs.map D.int)) rfl) evs_nil) g19 f1
    have m3 := ev_mth (Γ := G_law) (env := E5 o11 o14 o15 o16) (s := s4) (fr := false) (ev_var (i := 5) (d := S ws us) rfl) (insM_w ws us) (evs_cons (ev_lst evs_nil) evs_nil) g19 f0
    have a := ev_lst (evs_cons m1 (evs_cons m2 (evs_cons m3 (evs_cons m1 evs_nil))))
    exact ex_set a
  let E6 (o14 o15 o16 : Ob) : IEnv := E5 (fz (.lst (Ls.map fun us => S ws us))) o14 o15 o16
  have t8 : ex G_law 0 (LB 8) (E6 o14 o15 o16) s4 = .ok (.nx (E6 o14 o15 o16)) s4 := by
    have a := lc_shown (E := E6 o14 o15 o16) (s := s4) (src := .var 11) hLs (ev_var rfl) (by show 12 < 17; decide) rfl
    have tu : ev G_law (.tup [(.var 8), (.var 8), (.var 4), (.var 8)]) (E6 o14 o15 o16) s4 = .ok (.tup (Ls.map fun us => .lst (us.map dU))) s4 := ev_tup (evs_cons (ev_var (i := 8) rfl) (evs_cons (ev_var (i := 8) rfl) (evs_cons (ev_var (i := 4) rfl) (evs_cons (ev_var (i := 8) rfl) evs_nil))))
    have b := lc_made (E := E6 o14 o15 o16) (s := s4) hLs tu (seq_tup (sz200 (by show 4 ≤ 1000; omega))) (by show 13 < 17; decide) rfl rfl
    exact (ex_ite (tr_bl (ev_cmp a b (ne_self (okTxts hLs))))).trans rfl
  -- one more rule
  have t9 : ∃ (p11 p14 p15 p16 : Ob) (s5 : Option Rg), ex G_law 0 (LB 9) (E6 o14 o15 o16) s4 = .ok (.nx (E5 p11 p14 p15 p16)) s5 ∧ Good (k + 2600) s5 := by
    have c := ev_cmp (len4 (E6 o14 o15 o16) s4 rfl) (ev_cst (d := .int 12)) (ltI' us.length 12)
    by_cases n12 : (us.length : Int) < 12
    · rw [decide_eq_true n12] at c
      obtain ⟨u, s5, d5, uo5, k5⟩ := f__law_rule (k := k + 3400) (ws := ws) 99 (by decide) wl1 (by omega) (k4.le (by omega))
      obtain ⟨v, s6, d6, vo6, k6⟩ := f__law_rule (k := k + 3300) (ws := ws) (10 ^ 31) (by decide) wl1 (by omega) (k5.le (by omega))
      have hu := h.snoc uo5 (by omega)
      have hv := h.snoc vo6 (by omega)
      let Ms : List (List Rul) := [us ++ [u], us ++ [v], us ++ [u]]
      have hMs : ∀ v' ∈ Ms, SysOk ws v' := fun v' m => by
        simp only [Ms, List.mem_cons, List.not_mem_nil, or_false] at m
        rcases m with rfl | rfl | rfl
        · exact hu
        · exact hv
        · exact hu
      have pow31 : opBin .Pow (.int 10) (.int 31) = some (.int (10 ^ 31)) := rfl
      let C0 : IS := .par [14, 15] [(.call 5 false [(.var 1), (.var 3), (.cst (.int 99))]), (.call 5 false [(.var 1), (.var 3), (.bin .Pow (.cst (.int 10)) (.cst (.int 31)))])]
      let C1 : IS := .set 11 false (.lst [(.mth 20 false "System" "with_rule" (.var 5) [(.var 14)]), (.mthK 20 false "System" "with_rule" (.var 5) [(.var 15)] [0]), (.mth 20 false "System" "with_rule" (.var 5) [(.var 14)])])
      let C2 : IS := .set 16 false (.lst [(.bin .Add (.var 4) (.lst [(.var 14)])), (.bin .Add (.var 4) (.lst [(.var 15)])), (.bin .Add (.var 4) (.lst [(.var 14)]))])
      let C3 : IS := .ite (.cmp .NotEq (.lc 12 (.var 11) (.call 17 false [(.var 12)])) (.lc 13 (.var 16) (.call 17 false [(.ctor 13 [(.var 3), (.var 13)])]))) [.ret (.cst (.bl false))] []
      have hL : LB 9 = .ite (.cmp .Lt (.bi .len [(.var 4)]) (.cst (.int 12))) [C0, C1, C2, C3] [] := rfl
      have u0 : ex G_law 0 C0 (E6 o14 o15 o16) s4 = .ok (.nx (E6 (fz (dU u)) (fz (dU v)) o16)) s6 := by
        have a := ev_call (Γ := G_law) (env := E6 o14 o15 o16) (s := s4) (fr := false) (evs_cons (ev_var (i := 1) (d := .rng) rfl) (evs_cons (ev_var (i := 3) (d := .lst (ws.map D.str)) rfl) (evs_cons (ev_cst (d := .int 99)) evs_nil))) g5 d5
        have b := ev_call (Γ := G_law) (env := E6 o14 o15 o16) (s := s5) (fr := false) (evs_cons (ev_var (i := 1) (d := .rng) rfl) (evs_cons (ev_var (i := 3) (d := .lst (ws.map D.str)) rfl) (evs_cons (ev_bin (o := .Pow) (ev_cst (d := .int 10)) (ev_cst (d := .int 31)) pow31) evs_nil))) g5 d6
        exact ex_par2 a b
      have u1 : ex G_law 0 C1 (E6 (fz (dU u)) (fz (dU v)) o16) s6 = .ok (.nx (E5 (fz (.lst (Ms.map fun us => S ws us))) (fz (dU u)) (fz (dU v)) o16)) s6 := by
        have m1 := ev_mth (Γ := G_law) (env := E6 (fz (dU u)) (fz (dU v)) o16) (s := s6) (fr := false) (ev_var (i := 5) (d := S ws us) rfl) (insM_r ws us) (evs_cons (ev_var (i := 14) (d := dU u) rfl) evs_nil) g20 (f_System_with_rule s6 h uo5 (by omega))
        have m2 := ev_mthK (Γ := G_law) (env := E6 (fz (dU u)) (fz (dU v)) o16) (s := s6) (fr := false) (perm := [0]) (ev_var (i := 5) (d := S ws us) rfl) (insM_r ws us) (evs_cons (ev_var (i := 15) (d := dU v) rfl) evs_nil) g20 (f_System_with_rule s6 h vo6 (by omega))
        have a := ev_lst (evs_cons m1 (evs_cons m2 (evs_cons m1 evs_nil)))
        exact ex_set a
      let E7 (o16 : Ob) : IEnv := E5 (fz (.lst (Ms.map fun us => S ws us))) (fz (dU u)) (fz (dU v)) o16
      have u2 : ex G_law 0 C2 (E7 o16) s6 = .ok (.nx (E7 (fz (.lst (Ms.map fun us => .lst (us.map dU)))))) s6 := by
        have v4 : ev G_law (.var 4) (E7 o16) s6 = .ok (.lst (us.map dU)) s6 := ev_var rfl
        have one : ∀ (i : Nat) (w : Rul), getI (E7 o16) i = some (dU w, .frz) → ev G_law (.bin .Add (.var 4) (.lst [(.var i)])) (E7 o16) s6 = .ok (.lst ((us ++ [w]).map dU)) s6 := fun i w hi =>
          ev_bin (o := .Add) v4 (ev_lst (evs_cons (ev_var hi) evs_nil)) (add_map dU us [w] (sz200 (by show _ + 1 ≤ 1000; omega)))
        have a := ev_lst (evs_cons (one 14 u rfl) (evs_cons (one 15 v rfl) (evs_cons (one 14 u rfl) evs_nil)))
        exact ex_set a
      let E8 : IEnv := E7 (fz (.lst (Ms.map fun us => .lst (us.map dU))))
      have u3 : ex G_law 0 C3 E8 s6 = .ok (.nx E8) s6 := by
        have a := lc_shown (E := E8) (s := s6) (src := .var 11) hMs (ev_var rfl) (by show 12 < 17; decide) rfl
        have b := lc_made (E := E8) (s := s6) (src := .var 16) hMs (ev_var rfl) rfl (by show 13 < 17; decide) rfl rfl
        exact (ex_ite (tr_bl (ev_cmp a b (ne_self (okTxts hMs))))).trans rfl
      refine ⟨fz (.lst (Ms.map fun us => S ws us)), fz (dU u), fz (dU v), fz (.lst (Ms.map fun us => .lst (us.map dU))), s6, ?_, k6.le (by omega)⟩
      rw [hL, ex_ite (tr_bl c), if_pos rfl, exsN u0, exsN u1, exsN u2, exsN u3]
      exact exs_nil
    · rw [decide_eq_false n12] at c
      exact ⟨fz (.lst (Ls.map fun us => S ws us)), o14, o15, o16, s4, (ex_ite (tr_bl c)).trans rfl, k4.le (by omega)⟩
  obtain ⟨p11, p14, p15, p16, s5, t9, k5⟩ := t9
  obtain ⟨s6, d6, k6⟩ := f__law_beside_right wx h wl1 wl2 ul (k := k) (k5.le (by omega))
  have t10 : ex G_law 0 (LB 10) (E5 p11 p14 p15 p16) s5 = .ok (.nx (E5 p11 p14 p15 p16)) s6 := by
    have a := ev_call (Γ := G_law) (env := E5 p11 p14 p15 p16) (s := s5) (fr := false) (evs_cons (ev_var (i := 1) (d := .rng) rfl) (evs_cons (ev_var (i := 5) (d := S ws us) rfl) (evs_cons (ev_var (i := 3) (d := .lst (ws.map D.str)) rfl) (evs_cons (ev_var (i := 4) (d := .lst (us.map dU)) rfl) evs_nil)))) g23 d6
    have b := kept (E5 p11 p14 p15 p16) s6 rfl rfl
    have ok : okEq KD = true := okN_strs fun y m => by
      simp only [List.mem_cons, List.not_mem_nil, or_false] at m
      rcases m with rfl | rfl
      · exact h.txt
      · exact zo
    have c := ev_cmp b (ev_var (i := 10) (d := KD) rfl) (ne_self ok)
    exact (ex_ite (tr_bl (ev_or (ev_not (tr_bl a)) (fun _ => c) (fun z => by cases z)))).trans rfl
  refine ⟨fz (.lst (ws.map D.str)), fz (.lst (us.map dU)), fz (S ws us), fz (.lst (gs.map D.int)), fz (.lst (l1.map dU)), fz KD, p11, p14, p15, p16, s6, ?_, k6⟩
  have hir : lawB = [LB 0, LB 1, LB 2, LB 3, LB 4, LB 5, LB 6, LB 7, LB 8, LB 9, LB 10] := rfl
  rw [hir, exsN t0, exsN t1, exsN t2, exsN t3, exsN t4, exsN t5, exsN t6, exsN t7, exsN t8, exsN t9, exsN t10]
  exact exs_nil
theorem laps {ns : List Int} : ∀ (ls : List Int) (k : Nat) (s : Option Rg) (o2 o3 o4 o5 o6 o8 o10 o11 o14 o15 o16 : Ob), Good (k + 6000 * ls.length) s →
    ∃ q2 q3 q4 q5 q6 q8 q10 q11 q14 q15 q16 s', forD (fun d e => exs G_law 0 lawB (put e 2 d .frz)) (ls.map D.int) (lawF ns o2 o3 o4 o5 o6 o8 o10 o11 o14 o15 o16) s = .ok (.nx (lawF ns q2 q3 q4 q5 q6 q8 q10 q11 q14 q15 q16)) s'
  | [], k, s, o2, o3, o4, o5, o6, o8, o10, o11, o14, o15, o16, h => ⟨_, _, _, _, _, _, _, _, _, _, _, s, rfl⟩
  | l :: ls, k, s, o2, o3, o4, o5, o6, o8, o10, o11, o14, o15, o16, h => by
    obtain ⟨p3, p4, p5, p6, p8, p10, p11, p14, p15, p16, s1, e1, k1⟩ := lap (ns := ns) (l := l) (k := k + 6000 * ls.length) o3 o4 o5 o6 o8 o10 o11 o14 o15 o16 (h.le (by rw [List.length_cons]; omega))
    obtain ⟨q2, q3, q4, q5, q6, q8, q10, q11, q14, q15, q16, s2, e2⟩ := laps (ns := ns) ls k s1 (fz (.int l)) p3 p4 p5 p6 p8 p10 p11 p14 p15 p16 k1
    refine ⟨q2, q3, q4, q5, q6, q8, q10, q11, q14, q15, q16, s2, ?_⟩
    rw [List.map_cons, forD_nx (show exs G_law 0 lawB (put (lawF ns o2 o3 o4 o5 o6 o8 o10 o11 o14 o15 o16) 2 (.int l) .frz) s = _ from e1)]
    exact e2
def LI (j : Nat) : IS := lawIr.getD j .never
theorem plain : Plain := fun ns hl => by
  obtain ⟨d, s, e1, s0, s1⟩ := f__law_rng none ns hl
  refine ⟨F__law_rng, d, s, rfl, e1, 0, false, ?_⟩
  have hb : 0 ≤ (if (ns.length : Int) < 10 then (ns.length : Int) else 10) ∧ (if (ns.length : Int) < 10 then (ns.length : Int) else 10) ≤ 10 := by
    split <;> omega
  generalize hm : (if (ns.length : Int) < 10 then (ns.length : Int) else 10) = m at hb
  have hr : rngL 0 (8 + m) = ((List.range (8 + m - 0).toNat).map fun i => (0 : Int) + (i : Nat)).map D.int := by
    unfold rngL
    rw [List.map_map]
    rfl
  obtain ⟨q2, q3, q4, q5, q6, q8, q10, q11, q14, q15, q16, s2, e2⟩ := laps (ns := ns) ((List.range (8 + m - 0).toNat).map fun i => (0 : Int) + (i : Nat)) 0 (some ⟨d, s, 0⟩) none none none none none none none none none none none
    ⟨_, rfl, s0, Int.lt_trans s1 (by decide), Int.le_refl 0, by
      rw [List.length_map, List.length_range]
      show (0 : Int) + ((0 + 6000 * (8 + m - 0).toNat : Nat) : Int) < 2 ^ 40
      omega⟩
  rw [← hr] at e2
  have hl0 : lawE lawN.length ns = lawF ns none none none none none none none none none none none := rfl
  have ho : lawIr = [LI 0, LI 1] := rfl
  have hlen : opBi .len [.scr ns] = some (.int ns.length) := rfl
  have hmin : opBi .min [.int 10, .int ns.length] = some (.int m) := by rw [← hm]; rfl
  have t0 : ex G_law 0 (LI 0) (lawF ns none none none none none none none none none none none) (some ⟨d, s, 0⟩) = .ok (.nx (lawF ns q2 q3 q4 q5 q6 q8 q10 q11 q14 q15 q16)) s2 := by
    have hL : LI 0 = .forR 2 none (.bin .Add (.cst (.int 8)) (.bi .min [(.cst (.int 10)), (.bi .len [(.var 0)])])) lawB := rfl
    rw [hL]
    have g : getI (lawF ns none none none none none none none none none none none) 0 = some (.scr ns, .frz) := rfl
    refine ex_forR (n := 8 + m) (s1 := some ⟨d, s, 0⟩) ?_ (by omega) (by omega) e2
    simp only [ev, evs, g, bind_def, pure_s, hlen, hmin, opt_some, addI]
  refine ⟨s2, ?_⟩
  rw [gL, hl0, ho, exsN t0]
  rfl
end Q
end
theorem PySem.Challenge.cw_tightranges_k07_rules_left_out_and_put_i_holds : PySem.Challenge.rw_tightranges_k07_rules_left_out_and_put_i.Holds := by
  exact holds_of Q.plain
