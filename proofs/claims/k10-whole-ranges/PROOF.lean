import PyProof.Rows.All
import Wide.All
import OpenK.AllK
import Wide.FinOn
import PySem.Challenge.RW_tightranges_k10_whole_ranges
import HandS.ForMost
import HandS.Exc
import HandS.Wide
import HandS.TupAny
import HandS.Text
import HandS.Conv
import HandS.Defaults
import HandS.NoneIn
import HandS.Style
import HandS.Codes
import HandS.Words
import HandS.Steps
import KE.IntBitsLaws
import KE.KStateDown
import Lean
import HandS.WordsExc
import HandS.Head0
import HandS.Head1
import HandS.Head2
import HandS.HeadEnd
import HandS.HeadHook1
import HandS.HeadHook2
set_option Elab.async false
set_option linter.all false
set_option maxRecDepth 100000
section
set_option maxHeartbeats 200000
namespace Pv
open PySem PySem.Spec PyProof.Rows L2

/-- data without addresses -/
inductive D where
  | non | bl (b : Bool) | int (i : Int) | str (s : Str)
  | tup (l : List D) | lst (l : List D)
  | dct (l : List (Key × D))
  | ins (c : Str) (l : List (Str × D))
  | rng
  | scr (ns : List Int)

structure Rc where
  K : PySem.W.Frag
  cls : Str → Addr
  g : List Addr
def Rc.r (c : Rc) : Addr := c.g.headD 0

/-- a list that is never written: locked, or of the written part -/
def SqF (K : PySem.W.Frag) (H : Hp) (a : Addr) (xs : List V) : Prop := (∃ o, H a = some (.frz o (.lst xs))) ∨ ∃ (o : Obj) (its : Array Value) (n : Nat), K.lookup a = some o ∧ o.cls = .type "list" ∧ o.dict = none ∧ o.data = .seq its n ∧ its.size ≤ sizeLine ∧ Vals xs its.toList
theorem SqF.sq {K : PySem.W.Frag} {H : Hp} {a : Addr} {xs : List V} (h : SqF K H a xs) : SqL K H a xs := h.elim (fun h => .inl (.inr h)) .inr
mutual
def Rp (c : Rc) (A : Addr → Prop) (H : Hp) : D → V → Prop
  | .non, v => v = .non
  | .bl b, v => v = .bl b
  | .int i, v => v = .int i
  | .str s, v => v = .str s
  | .tup ds, v => ∃ a xs, v = .ref a ∧ SqT c.K H a xs ∧ Rps c A H ds xs
  | .lst ds, v => ∃ a xs, v = .ref a ∧ H a = some (.lst xs) ∧ ¬ A a ∧ ds.length ≤ sizeLine ∧ Rps c A H ds xs
  | .dct kvs, v => ∃ a ks, v = .ref a ∧ Rd H a (.dK ks) ∧ ¬ A a ∧ Rpk c A H kvs ks
  | .ins n fs, v => ∃ a dx gs, v = .ref a ∧ H a = some (.ins (c.cls n) dx gs) ∧ ¬ A a ∧ Rpf c A H fs gs
  | .rng, v => v = .ref c.r
  | .scr ns, v => ∃ a, v = .ref a ∧ SqF c.K H a (ns.map V.int)
def Rps (c : Rc) (A : Addr → Prop) (H : Hp) : List D → List V → Prop
  | [], vs => vs = []
  | d :: ds, vs => ∃ v ws, vs = v :: ws ∧ Rp c A H d v ∧ Rps c A H ds ws
def Rpk (c : Rc) (A : Addr → Prop) (H : Hp) : List (Key × D) → List (Key × V) → Prop
  | [], vs => vs = []
  | (k, d) :: ds, vs => ∃ v ws, vs = (k, v) :: ws ∧ Rp c A H d v ∧ Rpk c A H ds ws
def Rpf (c : Rc) (A : Addr → Prop) (H : Hp) : List (Str × D) → List (Str × V) → Prop
  | [], vs => vs = []
  | (k, d) :: ds, vs => ∃ v ws, vs = (k, v) :: ws ∧ Rp c A H d v ∧ Rpf c A H ds ws
end

/-! ### heaps that go on -/
def isT : HO → Prop
  | .tup _ => True
  | .frz _ _ => True
  | _ => False
/-- all that is tracked stays, but what stands at W (tuples stay there too) -/
def Ext (W : Addr → Prop) (H H' : Hp) : Prop := ∀ b o, H b = some o → (¬ W b ∨ isT o) → H' b = some o
theorem Ext.refl {W : Addr → Prop} {H : Hp} : Ext W H H := fun _ _ h _ => h
theorem Ext.trans {W : Addr → Prop} {H H1 H2 : Hp} (a : Ext W H H1) (b : Ext W H1 H2) : Ext W H H2 := fun c o h w => b c o (a c o h w) w
theorem Ext.more {W W' : Addr → Prop} {H H' : Hp} (a : Ext W H H') (h : ∀ b, W b → W' b) : Ext W' H H' := fun c o e w => a c o e (w.imp (fun n z => n (h c z)) id)
theorem Ext.new {W : Addr → Prop} {H : Hp} {p : Addr} {o : HO} (h : H p = none) : Ext W H (upd H p o) := fun b u e _ => by rw [upd_ne (ne_of_none e h)]; exact e
theorem Ext.same {W : Addr → Prop} {H H' : Hp} (s : Same H H') : Ext W H H' := fun b o e _ => s b o e
theorem Ext.put {W : Addr → Prop} {H : Hp} {p : Addr} {o u : HO} (w : W p) (h : H p = some u) (n : ¬ isT u) : Ext W H (upd H p o) := fun b v e z => by
  have hb : b ≠ p := fun q => by
    subst q
    rw [h] at e
    cases e
    exact z.elim (fun k => k w) n
  rw [upd_ne hb]; exact e
theorem Ext.rd {W : Addr → Prop} {H H' : Hp} (e : Ext W H H') {a : Addr} {u : HO} (h : Rd H a u) (n : ¬ W a) : Rd H' a u := h.imp (fun h => e a _ h (.inl n)) fun ⟨o, h⟩ => ⟨o, e a _ h (.inl n)⟩
theorem Ext.sqt {W : Addr → Prop} {K : PySem.W.Frag} {H H' : Hp} (e : Ext W H H') {a : Addr} {xs : List V} (h : SqT K H a xs) : SqT K H' a xs := by
  rcases h with (h | ⟨o, h⟩) | h
  · exact .inl (.inl (e a _ h (.inr trivial)))
  · exact .inl (.inr ⟨o, e a _ h (.inr trivial)⟩)
  · exact .inr h
theorem Ext.sqf {W : Addr → Prop} {K : PySem.W.Frag} {H H' : Hp} (e : Ext W H H') {a : Addr} {xs : List V} (h : SqF K H a xs) : SqF K H' a xs :=
  h.imp (fun ⟨o, h⟩ => ⟨o, e a _ h (.inr trivial)⟩) id
theorem Rd.there {H : Hp} {a : Addr} {u : HO} (h : Rd H a u) : H a ≠ none := fun z => by
  rcases h with h | ⟨o, h⟩ <;> rw [z] at h <;> cases h

section
variable {c : Rc} {A A' W : Addr → Prop} {H H' : Hp}
mutual
theorem Rp.mono (e : Ext W H H') (w : ∀ a, W a → A a) (n : ∀ a, A' a → A a ∨ H a = none) : ∀ (d : D) (v : V), Rp c A H d v → Rp c A' H' d v
  | .non, _, h => h
  | .bl _, _, h => h
  | .int _, _, h => h
  | .str _, _, h => h
  | .rng, _, h => h
  | .scr ns, _, h => by
    obtain ⟨a, e1, e2⟩ := h
    exact ⟨a, e1, e.sqf e2⟩
  | .tup ds, v, h => by
    obtain ⟨a, xs, e1, e2, e3⟩ := h
    exact ⟨a, xs, e1, e.sqt e2, Rps.mono e w n ds xs e3⟩
  | .lst ds, v, h => by
    obtain ⟨a, xs, e1, e2, e3, e5, e4⟩ := h
    exact ⟨a, xs, e1, e a _ e2 (.inl fun z => e3 (w a z)), (fun z => (n a z).elim e3 fun y => by (rw [y] at e2; cases e2)), e5, Rps.mono e w n ds xs e4⟩
  | .dct ds, v, h => by
    obtain ⟨a, xs, e1, e2, e3, e4⟩ := h
    exact ⟨a, xs, e1, e.rd e2 fun z => e3 (w a z), fun z => (n a z).elim e3 (Rd.there e2), Rpk.mono e w n ds xs e4⟩
  | .ins q ds, v, h => by
    obtain ⟨a, dx, xs, e1, e2, e3, e4⟩ := h
    exact ⟨a, dx, xs, e1, e a _ e2 (.inl fun z => e3 (w a z)), (fun z => (n a z).elim e3 fun y => by (rw [y] at e2; cases e2)), Rpf.mono e w n ds xs e4⟩
theorem Rps.mono (e : Ext W H H') (w : ∀ a, W a → A a) (n : ∀ a, A' a → A a ∨ H a = none) : ∀ (ds : List D) (vs : List V), Rps c A H ds vs → Rps c A' H' ds vs
  | [], _, h => h
  | d :: ds, vs, h => by
    obtain ⟨v, ws, e1, e2, e3⟩ := h
    exact ⟨v, ws, e1, Rp.mono e w n d v e2, Rps.mono e w n ds ws e3⟩
theorem Rpk.mono (e : Ext W H H') (w : ∀ a, W a → A a) (n : ∀ a, A' a → A a ∨ H a = none) : ∀ (ds : List (Key × D)) (vs : List (Key × V)), Rpk c A H ds vs → Rpk c A' H' ds vs
  | [], _, h => h
  | (k, d) :: ds, vs, h => by
    obtain ⟨v, ws, e1, e2, e3⟩ := h
    exact ⟨v, ws, e1, Rp.mono e w n d v e2, Rpk.mono e w n ds ws e3⟩
theorem Rpf.mono (e : Ext W H H') (w : ∀ a, W a → A a) (n : ∀ a, A' a → A a ∨ H a = none) : ∀ (ds : List (Str × D)) (vs : List (Str × V)), Rpf c A H ds vs → Rpf c A' H' ds vs
  | [], _, h => h
  | (k, d) :: ds, vs, h => by
    obtain ⟨v, ws, e1, e2, e3⟩ := h
    exact ⟨v, ws, e1, Rp.mono e w n d v e2, Rpf.mono e w n ds ws e3⟩
end
theorem Rp.ext (e : Ext W H H') (w : ∀ a, W a → A a) {d : D} {v : V} (h : Rp c A H d v) : Rp c A H' d v := Rp.mono e w (fun _ z => .inl z) d v h
theorem Rps.ext (e : Ext W H H') (w : ∀ a, W a → A a) {d : List D} {v : List V} (h : Rps c A H d v) : Rps c A H' d v := Rps.mono e w (fun _ z => .inl z) d v h
theorem Rps.length : ∀ {ds : List D} {vs : List V}, Rps c A H ds vs → vs.length = ds.length
  | [], vs, h => by have h : vs = [] := h; rw [h]; rfl
  | d :: ds, vs, h => by
    obtain ⟨v, ws, e1, e2, e3⟩ := h
    rw [e1, List.length_cons, List.length_cons, Rps.length e3]
theorem Rps.get : ∀ {ds : List D} {vs : List V} {i : Nat} {v : V}, Rps c A H ds vs → vs[i]? = some v → ∃ d, ds[i]? = some d ∧ Rp c A H d v
  | [], _, i, v, h, e => by have h : _ = [] := h; rw [h] at e; simp at e
  | d :: ds, vs, i, v, h, e => by
    obtain ⟨w, ws, e1, e2, e3⟩ := h
    subst e1
    cases i with
    | zero => simp at e; subst e; exact ⟨d, rfl, e2⟩
    | succ i => exact Rps.get (i := i) e3 (by simpa using e)
theorem Rps.getD : ∀ {ds : List D} {vs : List V} {i : Nat} {d : D}, Rps c A H ds vs → ds[i]? = some d → ∃ v, vs[i]? = some v ∧ Rp c A H d v
  | [], _, i, v, h, e => by simp at e
  | d :: ds, vs, i, v, h, e => by
    obtain ⟨w, ws, e1, e2, e3⟩ := h
    subst e1
    cases i with
    | zero => simp at e; subst e; exact ⟨w, rfl, e2⟩
    | succ i => exact Rps.getD (i := i) e3 (by simpa using e)
theorem Rps.append : ∀ {ds es : List D} {vs ws : List V}, Rps c A H ds vs → Rps c A H es ws → Rps c A H (ds ++ es) (vs ++ ws)
  | [], _, vs, _, h, k => by have h : vs = [] := h; rw [h]; exact k
  | d :: ds, es, vs, ws, h, k => by
    obtain ⟨w, us, e1, e2, e3⟩ := h
    subst e1
    exact ⟨w, us ++ ws, rfl, e2, Rps.append e3 k⟩
theorem Rps.one {d : D} {v : V} (h : Rp c A H d v) : Rps c A H [d] [v] := ⟨v, [], rfl, h, rfl⟩
theorem Rps.cons {d : D} {v : V} {ds : List D} {vs : List V} (h : Rp c A H d v) (k : Rps c A H ds vs) : Rps c A H (d :: ds) (v :: vs) := ⟨v, vs, rfl, h, k⟩
theorem Rps.take : ∀ {ds : List D} {vs : List V} (n : Nat), Rps c A H ds vs → Rps c A H (ds.take n) (vs.take n)
  | [], vs, n, h => by have h : vs = [] := h; rw [h]; simp; exact rfl
  | d :: ds, vs, 0, h => by simp; exact rfl
  | d :: ds, vs, n + 1, h => by
    obtain ⟨w, us, e1, e2, e3⟩ := h
    subst e1
    exact ⟨w, us.take n, rfl, e2, Rps.take n e3⟩
theorem Rps.drop : ∀ {ds : List D} {vs : List V} (n : Nat), Rps c A H ds vs → Rps c A H (ds.drop n) (vs.drop n)
  | [], vs, n, h => by have h : vs = [] := h; rw [h]; simp; exact rfl
  | d :: ds, vs, 0, h => by simpa using h
  | d :: ds, vs, n + 1, h => by
    obtain ⟨w, us, e1, e2, e3⟩ := h
    subst e1
    exact Rps.drop n e3
theorem Rps.reverse {ds : List D} {vs : List V} (h : Rps c A H ds vs) : Rps c A H ds.reverse vs.reverse := by
  induction ds generalizing vs with
  | nil => have h : vs = [] := h; rw [h]; exact rfl
  | cons d ds ih =>
    obtain ⟨w, us, e1, e2, e3⟩ := h
    subst e1
    rw [List.reverse_cons, List.reverse_cons]
    exact (ih e3).append (.one e2)
theorem Rps.set : ∀ {ds : List D} {vs : List V} (i : Nat) {d : D} {v : V}, Rps c A H ds vs → Rp c A H d v → Rps c A H (ds.set i d) (vs.set i v)
  | [], vs, i, d, v, h, k => by have h : vs = [] := h; rw [h]; simp; exact rfl
  | e :: ds, vs, 0, d, v, h, k => by
    obtain ⟨w, us, e1, e2, e3⟩ := h
    subst e1
    exact ⟨v, us, rfl, k, e3⟩
  | e :: ds, vs, i + 1, d, v, h, k => by
    obtain ⟨w, us, e1, e2, e3⟩ := h
    subst e1
    exact ⟨w, us.set i v, rfl, e2, Rps.set i e3 k⟩
theorem Rps.eraseIdx : ∀ {ds : List D} {vs : List V} (i : Nat), Rps c A H ds vs → Rps c A H (ds.eraseIdx i) (vs.eraseIdx i)
  | [], vs, i, h => by have h : vs = [] := h; rw [h]; simp; exact rfl
  | e :: ds, vs, 0, h => by
    obtain ⟨w, us, e1, e2, e3⟩ := h
    subst e1
    exact e3
  | e :: ds, vs, i + 1, h => by
    obtain ⟨w, us, e1, e2, e3⟩ := h
    subst e1
    exact ⟨w, us.eraseIdx i, rfl, e2, Rps.eraseIdx i e3⟩
end

/-! ### data as the library's data: == -/
mutual
def toP : D → PyData
  | .non => .none
  | .bl b => .bool b
  | .int i => .int i
  | .str s => .str s
  | .tup l => .tuple (toPs l)
  | .lst l => .list (toPs l)
  | _ => .dict []
def toPs : List D → List PyData
  | [] => []
  | d :: ds => toP d :: toPs ds
end
mutual
def pureD : D → Bool
  | .non => true
  | .bl _ => true
  | .int _ => true
  | .str s => PyData.canLay0 (.str s)
  | .tup l => pureDs l
  | .lst l => pureDs l
  | _ => false
def pureDs : List D → Bool
  | [] => true
  | d :: ds => pureD d && pureDs ds
end
def okEq (d : D) : Bool := pureD d && decide ((toP d).depth ≤ 64)
mutual
theorem canLay_of_pure : ∀ d, pureD d = true → (toP d).canLay0 = true
  | .non, _ => by simp [toP, PyData.canLay0]
  | .bl _, _ => by simp [toP, PyData.canLay0]
  | .int _, _ => by simp [toP, PyData.canLay0]
  | .str s, h => by simpa [toP, pureD] using h
  | .tup l, h => by simpa [toP, PyData.canLay0] using canLays_of_pure l (by simpa [pureD] using h)
  | .lst l, h => by simpa [toP, PyData.canLay0] using canLays_of_pure l (by simpa [pureD] using h)
  | .dct _, h => by simp [pureD] at h
  | .ins _ _, h => by simp [pureD] at h
  | .rng, h => by simp [pureD] at h
  | .scr _, h => by simp [pureD] at h
theorem canLays_of_pure : ∀ ds, pureDs ds = true → PyData.canLayAll0 (toPs ds) = true
  | [], _ => by simp [toPs, PyData.canLayAll0]
  | d :: ds, h => by
    have h : (pureD d && pureDs ds) = true := by simpa [pureDs] using h
    rw [Bool.and_eq_true] at h
    simp [toPs, PyData.canLayAll0, canLay_of_pure d h.1, canLays_of_pure ds h.2]
end
theorem shaped_of_okEq {d : D} (h : okEq d = true) : SeqAt.shaped (toP d) = true := by
  unfold okEq at h
  rw [Bool.and_eq_true] at h
  unfold SeqAt.shaped
  rw [canLay_of_pure d h.1, h.2]
  rfl
section
variable {c : Rc} {A : Addr → Prop} {H : Hp}
mutual
theorem Rp.dp : ∀ (d : D) (v : V), Rp c A H d v → pureD d = true → Dp c.K H v (toP d)
  | .non, v, h, _ => by have h : v = .non := h; rw [h]; exact .non
  | .bl b, v, h, _ => by have h : v = .bl b := h; rw [h]; exact .bl b
  | .int b, v, h, _ => by have h : v = .int b := h; rw [h]; exact .int b
  | .str b, v, h, _ => by have h : v = .str b := h; rw [h]; exact .str b
  | .tup l, v, h, p => by
    obtain ⟨a, xs, e1, e2, e3⟩ := h
    rw [e1]
    exact .tup e2 (Rps.dp l xs e3 (by simpa [pureD] using p))
  | .lst l, v, h, p => by
    obtain ⟨a, xs, e1, e2, e3, e5, e4⟩ := h
    rw [e1]
    exact .lst (.inl (.inl e2)) (Rps.dp l xs e4 (by simpa [pureD] using p))
  | .dct _, _, _, h => by simp [pureD] at h
  | .ins _ _, _, _, h => by simp [pureD] at h
  | .rng, _, _, h => by simp [pureD] at h
  | .scr _, _, _, h => by simp [pureD] at h
theorem Rps.dp : ∀ (ds : List D) (vs : List V), Rps c A H ds vs → pureDs ds = true → DpAll c.K H vs (toPs ds)
  | [], vs, h, _ => by have h : vs = [] := h; rw [h]; exact .nil
  | d :: ds, vs, h, p => by
    obtain ⟨w, us, e1, e2, e3⟩ := h
    subst e1
    have p : (pureD d && pureDs ds) = true := by simpa [pureDs] using p
    rw [Bool.and_eq_true] at p
    exact .cons (Rp.dp d w e2 p.1) (Rps.dp ds us e3 p.2)
end
end
end Pv
end
section
set_option maxHeartbeats 200000
namespace Pv
open PySem PySem.Spec PyProof.Rows L2

/-! ### results -/
inductive Res (S α : Type) where
  | ok (a : α) (s : S)
  | er (c : Str) (d : D) (s : S)
  | bad
def M (S α : Type) : Type := S → Res S α
section
variable {S α β : Type}
@[inline] def M.pure (a : α) : M S α := fun s => .ok a s
@[inline] def M.bind (m : M S α) (f : α → M S β) : M S β := fun s => match m s with
  | .ok a s' => f a s'
  | .er c d s' => .er c d s'
  | .bad => .bad
instance : Monad (M S) where
  pure := M.pure
  bind := M.bind
def bad : M S α := fun _ => .bad
def opt : Option α → M S α
  | some a => Pure.pure a
  | none => bad
theorem bind_def (m : M S α) (f : α → M S β) (s : S) : (m >>= f) s = (match m s with | .ok a s' => f a s' | .er c d s' => .er c d s' | .bad => .bad) := rfl
theorem pure_def (a : α) (s : S) : (Pure.pure a : M S α) s = .ok a s := rfl
@[simp] theorem pure_bind' (a : α) (f : α → M S β) : (Pure.pure a >>= f) = f a := rfl
@[simp] theorem bad_bind (f : α → M S β) : (bad >>= f) = bad := rfl
@[simp] theorem opt_some (a : α) : (opt (some a) : M S α) = Pure.pure a := rfl
@[simp] theorem opt_none : (opt none : M S α) = bad := rfl
@[simp] theorem bind_assoc' {γ : Type} (m : M S α) (f : α → M S β) (g : β → M S γ) : ((m >>= f) >>= g) = m >>= fun a => f a >>= g := by
  funext s
  simp only [bind_def]
  cases m s <;> rfl
@[simp] theorem bind_pure' (m : M S α) : (m >>= Pure.pure) = m := by
  funext s
  simp only [bind_def]
  cases m s <;> rfl
end

/-! ### operators by values -/
def mulOk (i j : Int) : Bool := decide (i.natAbs < 2 ^ 64) || decide (j.natAbs < 2 ^ 64) || decide (i.natAbs.log2 + j.natAbs.log2 < 1000000)
def powOk (i j : Int) : Bool := decide (0 ≤ j ∧ j ≤ 1000000 ∧ i.natAbs < 2 ^ 64)
def opBin : Operator → D → D → Option D
  | .Add, .int i, .int j => some (.int (i + j))
  | .Add, .str a, .str b => if a.length + b.length ≤ sizeLine then some (.str (a ++ b)) else none
  | .Add, .lst a, .lst b => if a.length + b.length ≤ sizeLine then some (.lst (a ++ b)) else none
  | .Sub, .int i, .int j => some (.int (i - j))
  | .Mult, .int i, .int j => if mulOk i j then some (.int (i * j)) else none
  | .Mult, .lst a, .int k => if -(2 ^ 63) ≤ k ∧ k < 2 ^ 63 ∧ a.length * k.toNat ≤ sizeLine then some (.lst (List.replicate k.toNat a).flatten) else none
  | .FloorDiv, .int i, .int j => if 0 < j ∧ j.natAbs.log2 < 9000 then some (.int (i / j)) else none
  | .Mod, .int i, .int j => if 0 < j then some (.int (i % j)) else none
  | .Pow, .int i, .int j => if powOk i j then some (.int (i ^ j.toNat)) else none
  | _, _, _ => none
def toV : D → V
  | .bl b => .bl b
  | .int i => .int i
  | .str s => .str s
  | _ => .non
def flatD : D → Bool
  | .non => true
  | .bl _ => true
  | .int _ => true
  | .str _ => true
  | _ => false
def inD (x : D) (ys : List D) : Option Bool := if flatD x && ys.all flatD then some (inV (toV x) (ys.map toV)) else none
def inSub (a b : Str) : Bool := !(Builtin.Str.occurrences b a 0 b.length 1).isEmpty
def isNon : D → Bool
  | .non => true
  | _ => false
def opCmp : CmpOp → D → D → Option Bool
  | .Eq, a, b => if okEq a && okEq b then some (PyData.eqv (toP a) (toP b)) else none
  | .NotEq, a, b => if okEq a && okEq b then some (!PyData.eqv (toP a) (toP b)) else none
  | .Lt, .int i, .int j => some (decide (i < j))
  | .LtE, .int i, .int j => some (decide (i ≤ j))
  | .Gt, .int i, .int j => some (decide (j < i))
  | .GtE, .int i, .int j => some (decide (j ≤ i))
  | .Is, a, .non => some (isNon a)
  | .IsNot, a, .non => some (!isNon a)
  | .In, x, .lst ys => inD x ys
  | .In, x, .tup ys => inD x ys
  | .In, .str a, .str b => some (inSub a b)
  | .NotIn, x, .lst ys => (inD x ys).map (!·)
  | .NotIn, x, .tup ys => (inD x ys).map (!·)
  | .NotIn, .str a, .str b => some (!inSub a b)
  | _, _, _ => none
def opIdx : D → D → Option D
  | .lst l, .int i => atI l i
  | .tup l, .int i => atI l i
  | _, _ => none
inductive Bi where
  | len | int | abs | max | min | list | tuple | all | repr
deriving DecidableEq
def boolsOf : List D → Option (List Bool)
  | [] => some []
  | .bl b :: r => (boolsOf r).map (b :: ·)
  | _ :: _ => none
def opBi : Bi → List D → Option D
  | .len, [.lst l] => some (.int l.length)
  | .len, [.tup l] => some (.int l.length)
  | .len, [.scr l] => some (.int l.length)
  | .len, [.str s] => if s.length ≤ sizeLine then some (.int s.length) else none
  | .int, [.int i] => some (.int i)
  | .abs, [.int i] => some (.int (if i < 0 then -i else i))
  | .max, [.int i, .int j] => some (.int (if j > i then j else i))
  | .min, [.int i, .int j] => some (.int (if j < i then j else i))
  | .list, [.lst l] => some (.lst l)
  | .list, [.tup l] => if l.length ≤ sizeLine then some (.lst l) else none
  | .tuple, [.lst l] => some (.tup l)
  | .tuple, [.tup l] => some (.tup l)
  | .all, [.lst l] => (boolsOf l).map fun bs => .bl (bs.all id)
  | _, _ => none

/-! ### the inner language -/
inductive IE where
  | var (i : Nat) | bor (i : Nat)
  | cst (d : D)
  | glb (k : Nat)
  | neg (a : IE) | not (a : IE)
  | bin (o : Operator) (a b : IE)
  | cmp (o : CmpOp) (a b : IE)
  | chn (o1 o2 : CmpOp) (a b c : IE)
  | and (a b : IE) | or (a b : IE)
  | ite (c a b : IE)
  | tup (es : List IE) | lst (es : List IE)
  | idx (a i : IE)
  | call (f : Nat) (fr : Bool) (es : List IE)
  | callK (f : Nat) (fr : Bool) (pos : List IE) (kws : List IE) (perm : List Nat)
  | bi (f : Bi) (es : List IE)
  | lc (i : Nat) (src : IE) (body : IE)
  | lci (i : Nat) (src : IE) (cond : IE) (body : IE)
  | lrng (a b : IE)
  | lcr (i : Nat) (a b cond body : IE)
  | slc (bl bh : Bool) (a lo hi : IE)

/-- how far a value is known: read alone, whole, new -/
inductive Md where
  | rp | bor | fr
deriving DecidableEq
def md : IE → Md
  | .bor _ => .bor
  | .lst _ => .fr
  | .lc _ _ _ => .fr
  | .lci _ _ _ _ => .fr
  | .lrng _ _ => .fr
  | .lcr _ _ _ _ _ => .fr
  | .slc _ _ _ _ _ => .fr
  | .bin .Add _ _ => .fr
  | .bin .Mult _ _ => .fr
  | .bi .list _ => .fr
  | .call _ true _ => .fr
  | .callK _ true _ _ _ => .fr
  | _ => .rp
/-- a slot: data; whole | lent by the caller, read alone | the def's own, held by a loop | the def's own -/
inductive Fl where
  | frz | lent | held | own
deriving DecidableEq
abbrev IEnv := List (Option (D × Fl))
structure Sig where
  lend : List Bool
  fr : Bool := false
structure Gm (S : Type) where
  fns : List (List D → M S D)
  cons : List D := []
section
variable {S : Type} (Γ : Gm S)
def truth : D → M S Bool
  | .bl b => pure b
  | _ => bad
/-- a slot that holds no object of the def's own -/
def okSlot (env : IEnv) (i : Nat) : Bool := match (env[i]?).join with
  | some (_, .held) => false
  | some (_, .own) => false
  | _ => true
def getI (env : IEnv) (i : Nat) : Option (D × Fl) := (env[i]?).join
def callF (f : Nat) (ds : List D) : M S D := match Γ.fns[f]? with
  | some F => F ds
  | none => bad
/-- nothing may be raised within -/
def calm {α : Type} (m : M S α) : M S α := fun s => match m s with
  | .ok a s' => .ok a s'
  | _ => .bad
def mapL (f : D → M S D) : List D → M S (List D)
  | [] => pure []
  | d :: ds => do
    let x ← f d
    let r ← mapL f ds
    pure (x :: r)
def filtL (p : D → M S Bool) (f : D → M S D) : List D → M S (List D)
  | [] => pure []
  | d :: ds => do
    let b ← p d
    if b = true then do
      let x ← f d
      let r ← filtL p f ds
      pure (x :: r)
    else filtL p f ds
def seqOf : D → Option (List D)
  | .lst l => some l
  | .tup l => if l.length ≤ sizeLine then some l else none
  | _ => none
def put (env : IEnv) (i : Nat) (d : D) (f : Fl) : IEnv := env.set i (some (d, f))
def rngL (a b : Int) : List D := (List.range (b - a).toNat).map fun i => D.int (a + (i : Nat))
/-- the items of a slice -/
def cutD {α : Type} (l : List α) (lo hi : Option Int) : List α := (l.drop (HT.sIx l.length 0 lo)).take (HT.sIx l.length l.length hi - HT.sIx l.length 0 lo)
def opSl : D → Option Int → Option Int → Option D
  | .lst l, lo, hi => some (.lst (cutD l lo hi))
  | .scr ns, lo, hi => if ns.length ≤ sizeLine then some (.lst ((cutD ns lo hi).map D.int)) else none
  | .tup l, lo, hi => some (.tup (cutD l lo hi))
  | .str z, lo, hi => if z.length ≤ sizeLine then some (.str (cutS z lo hi)) else none
  | _, _, _ => none
def evPart (b : Bool) (m : M S D) : M S (Option Int) := if b = true then do
    let d ← m
    match d with
    | .int i => pure (some i)
    | _ => bad
  else pure none
def rngOf : D → D → Option (Int × Int)
  | .int i, .int j => if -(2 ^ 62) ≤ i ∧ i < 2 ^ 62 ∧ -(2 ^ 62) ≤ j ∧ j < 2 ^ 62 ∧ (j - i).toNat ≤ 16777216 then some (i, j) else none
  | _, _ => none
mutual
def ev : IE → IEnv → M S D
  | .var i, env => match getI env i with
    | some (d, .frz) => pure d
    | _ => bad
  | .bor i, env => match getI env i with
    | some (d, _) => pure d
    | none => bad
  | .cst d, _ => pure d
  | .glb k, _ => opt (Γ.cons[k]?)
  | .neg a, env => do
    let x ← ev a env
    match x with
    | .int i => pure (.int (-i))
    | _ => bad
  | .not a, env => do
    let b ← ev a env >>= truth
    pure (.bl (!b))
  | .bin o a b, env => do
    let x ← ev a env
    let y ← ev b env
    opt (opBin o x y)
  | .cmp o a b, env => do
    let x ← ev a env
    let y ← ev b env
    let r ← opt (opCmp o x y)
    pure (.bl r)
  | .chn o1 o2 a b c, env => do
    let x ← ev a env
    let y ← ev b env
    let r ← opt (opCmp o1 x y)
    if r = true then do
      let z ← ev c env
      let q ← opt (opCmp o2 y z)
      pure (.bl q)
    else pure (.bl false)
  | .and a b, env => do
    let x ← ev a env >>= truth
    if x = true then ev b env else pure (.bl false)
  | .or a b, env => do
    let x ← ev a env >>= truth
    if x = true then pure (.bl true) else ev b env
  | .ite c a b, env => do
    let x ← ev c env >>= truth
    if x = true then ev a env else ev b env
  | .tup es, env => do
    let ds ← evs es env
    pure (.tup ds)
  | .lst es, env => do
    let ds ← evs es env
    pure (.lst ds)
  | .idx a i, env => do
    let x ← ev a env
    let y ← ev i env
    opt (opIdx x y)
  | .call f _ es, env => do
    let ds ← evs es env
    callF Γ f ds
  | .callK f _ es ks perm, env => do
    let ds ← evs es env
    let kd ← evs ks env
    callF Γ f (ds ++ perm.filterMap fun i => kd[i]?)
  | .bi f es, env => do
    let ds ← evs es env
    opt (opBi f ds)
  | .lc i src body, env => do
    let x ← ev src env
    let l ← opt (seqOf x)
    if okSlot env i = true then do
      let r ← calm (mapL (fun d => ev body (put env i d .frz)) l)
      pure (.lst r)
    else bad
  | .lci i src cond body, env => do
    let x ← ev src env
    let l ← opt (seqOf x)
    if okSlot env i = true then do
      let r ← calm (filtL (fun d => ev cond (put env i d .frz) >>= truth) (fun d => ev body (put env i d .frz)) l)
      pure (.lst r)
    else bad
  | .lrng a b, env => do
    let x ← ev a env
    let y ← ev b env
    match x, y with
    | .int i, .int j => if -(2 ^ 62) ≤ i ∧ i < 2 ^ 62 ∧ -(2 ^ 62) ≤ j ∧ j < 2 ^ 62 ∧ (j - i).toNat ≤ 16777216 then pure (.lst (rngL i j)) else bad
    | _, _ => bad
  | .lcr i a b cond body, env => do
    let x ← ev a env
    let y ← ev b env
    let l ← opt (rngOf x y)
    if okSlot env i = true then do
      let r ← calm (filtL (fun d => ev cond (put env i d .frz) >>= truth) (fun d => ev body (put env i d .frz)) (rngL l.1 l.2))
      pure (.lst r)
    else bad
  | .slc bl bh a lo hi, env => do
    let x ← ev a env
    let l ← evPart bl (ev lo env)
    let u ← evPart bh (ev hi env)
    opt (opSl x l u)
def evs : List IE → IEnv → M S (List D)
  | [], _ => pure []
  | e :: es, env => do
    let x ← ev e env
    let r ← evs es env
    pure (x :: r)
end

inductive IS where
  | set (i : Nat) (own : Bool) (e : IE)
  | par (is : List Nat) (es : List IE)
  | unp (is : List Nat) (e : IE)
  | frz (i : Nat)
  | app (i : Nat) (e : IE)
  | setIx (i : Nat) (k e : IE)
  | exp (e : IE)
  | ret (e : IE)
  | retO (i : Nat)
  | retN
  | ite (c : IE) (a b : List IS)
  | forL (i : Nat) (src : IE) (hold : Option Nat) (body : List IS)
  | forR (i : Nat) (lo : Option IE) (hi : IE) (body : List IS)
  | whl (c : IE) (body : List IS)
  | brk | cnt | pas
  | never
inductive Out where
  | nx (env : IEnv) | ret (d : D) (fr : Bool) | bk (env : IEnv) | ct (env : IEnv)
def puts (env : IEnv) : List Nat → List D → IEnv
  | i :: is, d :: ds => puts (put env i d .frz) is ds
  | _, _ => env
def setFl (env : IEnv) (i : Nat) (f : Fl) : IEnv := match getI env i with
  | some (d, _) => put env i d f
  | none => env
/-- the loop over items -/
def forD (step : D → IEnv → M S Out) : List D → IEnv → M S Out
  | [], env => pure (.nx env)
  | d :: ds, env => do
    let o ← step d env
    match o with
    | .nx e => forD step ds e
    | .ct e => forD step ds e
    | .bk e => pure (.nx e)
    | .ret v f => pure (.ret v f)
def whlN (step : IEnv → M S (Option Out)) : Nat → IEnv → M S Out
  | 0, _ => bad
  | n + 1, env => do
    let o ← step env
    match o with
    | none => pure (.nx env)
    | some (.nx e) => whlN step n e
    | some (.ct e) => whlN step n e
    | some (.bk e) => pure (.nx e)
    | some (.ret v f) => pure (.ret v f)
def holdOn (env : IEnv) : Option Nat → Option IEnv
  | none => some env
  | some i => match getI env i with
    | some (d, .own) => some (put env i d .held)
    | some (_, .frz) => some env
    | some (_, .lent) => some env
    | _ => none
def holdOff (was : IEnv) (hold : Option Nat) : Out → Option Out
  | .nx env => match hold with
    | none => some (.nx env)
    | some i => match getI was i, getI env i with
      | some (_, .own), some (d, .held) => some (.nx (put env i d .own))
      | some (_, .own), _ => none
      | _, _ => some (.nx env)
  | .ret d f => some (.ret d f)
  | _ => none
variable (N : Nat)
mutual
def ex : IS → IEnv → M S Out
  | .set i own e, env => do
    let d ← ev Γ e env
    match own, d with
    | true, .lst l => pure (.nx (put env i (.lst l) .own))
    | true, .dct l => pure (.nx (put env i (.dct l) .own))
    | true, _ => bad
    | false, d => pure (.nx (put env i d .frz))
  | .par is es, env => do
    let ds ← evs Γ es env
    if is.length = ds.length then pure (.nx (puts env is ds)) else bad
  | .unp is e, env => do
    let d ← ev Γ e env
    match d with
    | .tup l => if is.length = l.length then pure (.nx (puts env is l)) else bad
    | .lst l => if is.length = l.length then pure (.nx (puts env is l)) else bad
    | _ => bad
  | .frz i, env => match getI env i with
    | some (d, .own) => pure (.nx (put env i d .frz))
    | some (_, .frz) => pure (.nx env)
    | _ => bad
  | .app i e, env => do
    let d ← ev Γ e env
    match getI env i with
    | some (.lst l, .own) => if l.length < sizeLine then pure (.nx (put env i (.lst (l ++ [d])) .own)) else bad
    | _ => bad
  | .setIx i k e, env => do
    let d ← ev Γ e env
    let x ← ev Γ k env
    match getI env i, x with
    | some (.lst l, .own), .int j => match ixN l.length j with
      | some n => pure (.nx (put env i (.lst (l.set n d)) .own))
      | none => bad
    | _, _ => bad
  | .exp e, env => do
    let _ ← ev Γ e env
    pure (.nx env)
  | .ret e, env => do
    let d ← ev Γ e env
    pure (.ret d (decide (md e = .fr)))
  | .retO i, env => match getI env i with
    | some (d, .own) => pure (.ret d true)
    | _ => bad
  | .retN, _ => pure (.ret .non false)
  | .ite c a b, env => do
    let x ← ev Γ c env >>= truth
    if x = true then exs a env else exs b env
  | .forL i src hold body, env => do
    let x ← ev Γ src env
    let l ← opt (seqOf x)
    let env1 ← opt (holdOn env hold)
    let o ← forD (fun d e => exs body (put e i d .frz)) l env1
    opt (holdOff env hold o)
  | .forR i lo hi body, env => do
    let x ← (match lo with | some a => ev Γ a env | none => pure (.int 0))
    let y ← ev Γ hi env
    match x, y with
    | .int a, .int b => if -(2 ^ 62) ≤ a ∧ a < 2 ^ 62 ∧ -(2 ^ 62) ≤ b ∧ b < 2 ^ 62 then forD (fun d e => exs body (put e i d .frz)) (rngL a b) env else bad
    | _, _ => bad
  | .whl c body, env => whlN (fun e => do
      let x ← ev Γ c e >>= truth
      if x = true then do
        let o ← exs body e
        pure (some o)
      else pure none) N env
  | .brk, env => pure (.bk env)
  | .cnt, env => pure (.ct env)
  | .pas, env => pure (.nx env)
  | .never, _ => bad
def exs : List IS → IEnv → M S Out
  | [], env => pure (.nx env)
  | s :: r, env => do
    let o ← ex s env
    match o with
    | .nx e => exs r e
    | o => pure o
end
/-- a def: how many slots, its body -/
structure IF where
  n : Nat
  body : List IS
def startE (n : Nat) (lend : List Bool) (ds : List D) : IEnv := (ds.zip lend).map (fun p => some (p.1, if p.2 then Fl.lent else Fl.frz)) ++ List.replicate (n - ds.length) none
def isBox : D → Bool
  | .lst _ => true
  | .dct _ => true
  | _ => false
def runF (sg : Sig) (f : IF) (ds : List D) : M S D := do
  if ds.length = sg.lend.length then
    let o ← exs Γ N f.body (startE f.n sg.lend ds)
    match o with
    | .nx _ => pure .non
    | .ret d b => if sg.fr && isBox d && !b then bad else pure d
    | _ => bad
  else bad
end
end Pv
end
section
set_option maxHeartbeats 200000
namespace Pv
open PySem PySem.Spec PyProof.Rows L2

/-! ### what stands where -/
def Held (env : IEnv) (σ : L2.St) (a : Addr) : Prop := ∃ (i : Nat) (d : D) (f : Fl), env[i]? = some (some (d, f)) ∧ (f = .held ∨ f = .own) ∧ σ[i]? = some (some (.ref a))
def Av (A0 : Addr → Prop) (env : IEnv) (σ : L2.St) (a : Addr) : Prop := A0 a ∨ Held env σ a
def Gv (c : Rc) (a : Addr) : Prop := a ∈ c.g
/-- besides p -/
def Plus (A : Addr → Prop) (p : Addr) (a : Addr) : Prop := A a ∨ a = p
def CellAt (c : Rc) (A : Addr → Prop) (H : Hp) (a : Addr) : D → Prop
  | .lst ds => ∃ xs, H a = some (.lst xs) ∧ ds.length ≤ sizeLine ∧ Rps c A H ds xs
  | .dct kvs => ∃ ks, H a = some (.dK ks) ∧ Rpk c A H kvs ks
  | _ => False
/-- known for reading alone -/
def Lb (c : Rc) (A : Addr → Prop) (H : Hp) (d : D) (v : V) : Prop := Rp c A H d v ∨ ∃ a, v = .ref a ∧ ¬ Gv c a ∧ CellAt c A H a d
/-- lent by a caller: besides it is none of those that the def holds -/
def Lt (c : Rc) (A Hd : Addr → Prop) (H : Hp) (d : D) (v : V) : Prop := Rp c A H d v ∨ ∃ a, v = .ref a ∧ ¬ Gv c a ∧ ¬ Hd a ∧ CellAt c A H a d
/-- new since H0 -/
def Fr (c : Rc) (A : Addr → Prop) (H0 H : Hp) (d : D) (v : V) : Prop := (isBox d = false ∧ Rp c A H d v) ∨ ∃ a, v = .ref a ∧ H0 a = none ∧ CellAt c (Plus A a) H a d
def Rm (m : Md) (c : Rc) (A : Addr → Prop) (H0 H : Hp) (d : D) (v : V) : Prop := match m with
  | .rp => Rp c A H d v
  | .bor => Lb c A H d v
  | .fr => Fr c A H0 H d v

section
variable {c : Rc} {A A' : Addr → Prop} {H H' H0 : Hp} {a : Addr} {d : D} {v : V}
theorem CellAt.box (h : CellAt c A H a d) : isBox d = true := by cases d <;> first | rfl | exact h.elim
theorem CellAt.there (h : CellAt c A H a d) : H a ≠ none := by
  cases d with
  | lst l => obtain ⟨xs, e, _⟩ := h; rw [e]; simp
  | dct l => obtain ⟨xs, e, _⟩ := h; rw [e]; simp
  | _ => exact h.elim
theorem CellAt.mono {W : Addr → Prop} (h : CellAt c A H a d) (e : Ext W H H') (w : ∀ a, W a → A a) (n : ∀ a, A' a → A a ∨ H a = none) (k : ¬ W a) : CellAt c A' H' a d := by
  cases d with
  | lst l => obtain ⟨xs, e1, e2, e3⟩ := h; exact ⟨xs, e a _ e1 (.inl k), e2, Rps.mono e w n _ _ e3⟩
  | dct l => obtain ⟨xs, e1, e3⟩ := h; exact ⟨xs, e a _ e1 (.inl k), Rpk.mono e w n _ _ e3⟩
  | _ => exact h.elim
theorem Rps.plus {ds : List D} {vs : List V} {p : Addr} (h : Rps c A H ds vs) (hp : H p = none) : Rps c (Plus A p) H ds vs := Rps.mono (Ext.refl (W := fun _ => False)) (fun _ z => z.elim) (fun a z => z.imp id fun e => by rw [e]; exact hp) _ _ h
theorem CellAt.rp (h : CellAt c A H a d) (n : ¬ A a) : Rp c A H d (.ref a) := by
  cases d with
  | lst l => obtain ⟨xs, e1, e2, e3⟩ := h; exact ⟨a, xs, rfl, e1, n, e2, e3⟩
  | dct l => obtain ⟨xs, e1, e3⟩ := h; exact ⟨a, xs, rfl, .inl e1, n, e3⟩
  | _ => exact h.elim
theorem Lb.mono (h : Lb c A H d v) (e : Ext (Gv c) H H') (w : ∀ a, Gv c a → A a) : Lb c A H' d v := by
  rcases h with h | ⟨a, e1, n, k⟩
  · exact .inl (h.ext e w)
  · exact .inr ⟨a, e1, n, k.mono e w (fun _ z => .inl z) n⟩
theorem Fr.rp (h : Fr c A H0 H d v) (n : ∀ a, A a → H0 a ≠ none) : Rp c A H d v := by
  rcases h with h | ⟨a, e1, e2, k⟩
  · exact h.2
  · rw [e1]
    exact (k.mono (A' := A) (Ext.refl (W := fun _ => False)) (fun _ z => z.elim) (fun _ z => .inl (.inl z)) id).rp fun z => n a z e2
theorem Fr.mono (h : Fr c A H0 H d v) (e : Ext (Gv c) H H') (w : ∀ a, Gv c a → A a) (n : ∀ a, A a → H0 a ≠ none) : Fr c A H0 H' d v := by
  rcases h with h | ⟨a, e1, e2, k⟩
  · exact .inl ⟨h.1, h.2.ext e w⟩
  · exact .inr ⟨a, e1, e2, k.mono e (fun b z => .inl (w b z)) (fun _ z => .inl z) fun z => n a (w a z) e2⟩
theorem Rm.lb {m : Md} (h : Rm m c A H0 H d v) (w : ∀ a, Gv c a → A a) (n : ∀ a, A a → H0 a ≠ none) : Lb c A H d v := by
  cases m with
  | rp => exact .inl h
  | bor => exact h
  | fr => exact .inl (Fr.rp h n)
theorem Rm.rp {m : Md} (hm : m ≠ .bor) (h : Rm m c A H0 H d v) (n : ∀ a, A a → H0 a ≠ none) : Rp c A H d v := by
  cases m with
  | rp => exact h
  | bor => exact absurd rfl hm
  | fr => exact Fr.rp h n
end

/-- the slots and the heap bear the data -/
structure EnvOk (c : Rc) (A0 : Addr → Prop) (H : Hp) (σ : L2.St) (env : IEnv) : Prop where
  len : env.length = σ.length
  tr : ∀ a, A0 a → H a ≠ none
  g : ∀ a, Gv c a → A0 a
  frz : ∀ (i : Nat) (d : D), env[i]? = some (some (d, .frz)) → ∃ v, σ[i]? = some (some v) ∧ Rp c (Av A0 env σ) H d v
  lent : ∀ (i : Nat) (d : D), env[i]? = some (some (d, .lent)) → ∃ v, σ[i]? = some (some v) ∧ Lt c (Av A0 env σ) (Held env σ) H d v
  hld : ∀ (i : Nat) (d : D) (f : Fl), env[i]? = some (some (d, f)) → f = .held ∨ f = .own → ∃ a, σ[i]? = some (some (.ref a)) ∧ ¬ A0 a ∧ CellAt c (Av A0 env σ) H a d
  inj : ∀ (i j : Nat) (d e : D) (f h : Fl) (a : Addr), env[i]? = some (some (d, f)) → f = .held ∨ f = .own → env[j]? = some (some (e, h)) → h = .held ∨ h = .own → σ[i]? = some (some (.ref a)) → σ[j]? = some (some (.ref a)) → i = j
section
variable {c : Rc} {A0 : Addr → Prop} {H H' : Hp} {σ : L2.St} {env : IEnv}
theorem EnvOk.gA (k : EnvOk c A0 H σ env) : ∀ a, Gv c a → Av A0 env σ a := fun a h => .inl (k.g a h)
theorem EnvOk.trA (k : EnvOk c A0 H σ env) : ∀ a, Av A0 env σ a → H a ≠ none := fun a h => by
  rcases h with h | ⟨i, d, f, e1, e2, e3⟩
  · exact k.tr a h
  · obtain ⟨b, q1, q2, q3⟩ := k.hld i d f e1 e2
    rw [e3] at q1
    cases q1
    exact q3.there
theorem Ext.some {W : Addr → Prop} (e : Ext W H H') {a : Addr} (h : H a ≠ none) (w : ¬ W a) : H' a ≠ none := by
  cases q : H a with
  | none => exact absurd q h
  | some o => rw [e a o q (.inl w)]; simp
theorem EnvOk.ext (k : EnvOk c A0 H σ env) (e : Ext (Gv c) H H') (hg : ∀ a, Gv c a → H' a ≠ none) : EnvOk c A0 H' σ env where
  len := k.len
  tr := fun a h => by
    by_cases hw : Gv c a
    · exact hg a hw
    · exact e.some (k.tr a h) hw
  g := k.g
  frz := fun i d h => by
    obtain ⟨v, e1, e2⟩ := k.frz i d h
    exact ⟨v, e1, e2.ext e k.gA⟩
  lent := fun i d h => by
    obtain ⟨v, e1, e2⟩ := k.lent i d h
    refine ⟨v, e1, ?_⟩
    rcases e2 with e2 | ⟨a, q1, q2, q3, q4⟩
    · exact .inl (e2.ext e k.gA)
    · exact .inr ⟨a, q1, q2, q3, q4.mono e k.gA (fun _ z => .inl z) q2⟩
  hld := fun i d f h hf => by
    obtain ⟨a, e1, e2, e3⟩ := k.hld i d f h hf
    exact ⟨a, e1, e2, e3.mono e k.gA (fun _ z => .inl z) fun z => e2 (k.g a z)⟩
  inj := k.inj
theorem EnvOk.get (k : EnvOk c A0 H σ env) {i : Nat} {d : D} {f : Fl} (h : getI env i = some (d, f)) : ∃ v, σ[i]? = some (some v) ∧ Lb c (Av A0 env σ) H d v := by
  have h' : env[i]? = some (some (d, f)) := by
    unfold getI at h
    cases q : env[i]? with
    | none => rw [q] at h; cases h
    | some o => rw [q] at h; cases o with
      | none => cases h
      | some p => have h : some p = some (d, f) := h; rw [Option.some.inj h]
  cases f with
  | frz => obtain ⟨v, e1, e2⟩ := k.frz i d h'; exact ⟨v, e1, .inl e2⟩
  | lent =>
    obtain ⟨v, e1, e2⟩ := k.lent i d h'
    refine ⟨v, e1, ?_⟩
    rcases e2 with e2 | ⟨a, q1, q2, q3, q4⟩
    · exact .inl e2
    · exact .inr ⟨a, q1, q2, q4⟩
  | held => obtain ⟨a, e1, e2, e3⟩ := k.hld i d _ h' (.inl rfl); exact ⟨_, e1, .inr ⟨a, rfl, fun z => e2 (k.g a z), e3⟩⟩
  | own => obtain ⟨a, e1, e2, e3⟩ := k.hld i d _ h' (.inr rfl); exact ⟨_, e1, .inr ⟨a, rfl, fun z => e2 (k.g a z), e3⟩⟩
theorem getI_eq {i : Nat} {p : D × Fl} (h : getI env i = some p) : env[i]? = some (some p) := by
  unfold getI at h
  cases q : env[i]? with
  | none => rw [q] at h; cases h
  | some o => rw [q] at h; cases o with
    | none => cases h
    | some p' => have h : some p' = some p := h; rw [Option.some.inj h]
end

/-- the draws' state: by the addresses g, where the handle is the first one -/
structure RS where
  S : Type
  ok : List Addr → S → Hp → Prop
  stay : ∀ {g s H H'}, (∀ a, a ∈ g → ∀ o, H a = some o → H' a = some o) → ok g s H → ok g s H'
  there : ∀ {g s H}, ok g s H → ∀ a, a ∈ g → ∃ o, H a = some o ∧ ¬ isT o

/-! ### what a term of the inner language promises of an expression -/
section
variable (R : RS) (cls : Str → Addr)
def rc (X : Cx) (g : List Addr) : Rc := ⟨X.K, cls, g⟩
def PostE (m : Md) (c : Rc) (A : Addr → Prop) (H : Hp) (r : Res R.S D) (Q : VK) : Prop := match r with
  | .ok d s => ∀ v H', Ext (Gv c) H H' → R.ok c.g s H' → Rm m c A H H' d v → Q v H'
  | _ => False
def SE (Γ : Gm R.S) (X : Cx) (e : Expr) (ie : IE) : Prop :=
  ∃ t, PE X e t ∧ ∀ σ H Q g A0 env s, EnvOk (rc cls X g) A0 H σ env → R.ok g s H → PostE R (md ie) (rc cls X g) (Av A0 env σ) H (ev Γ ie env s) Q → t σ H Q
def PostT (c : Rc) (H : Hp) (r : Res R.S Bool) (Q : Bool → Hp → Prop) : Prop := match r with
  | .ok b s => ∀ H', Ext (Gv c) H H' → R.ok c.g s H' → Q b H'
  | _ => False
def ST (Γ : Gm R.S) (X : Cx) (e : Expr) (ie : IE) : Prop :=
  ∃ t, PT X e t ∧ ∀ σ H Q g A0 env s, EnvOk (rc cls X g) A0 H σ env → R.ok g s H → PostT R (rc cls X g) H ((ev Γ ie env >>= truth) s) Q → t σ H Q
/-- by modes -/
def Rms (c : Rc) (A : Addr → Prop) (H0 H : Hp) : List IE → List D → List V → Prop
  | [], ds, vs => ds = [] ∧ vs = []
  | e :: es, ds, vs => ∃ d ds' v vs', ds = d :: ds' ∧ vs = v :: vs' ∧ (if md e = .bor then Lb c A H d v else Rp c A H d v) ∧ Rms c A H0 H es ds' vs'
def PostA (es : List IE) (c : Rc) (A : Addr → Prop) (H : Hp) (r : Res R.S (List D)) (Q : List V → Hp → Prop) : Prop := match r with
  | .ok ds s => ∀ vs H', Ext (Gv c) H H' → R.ok c.g s H' → Rms c A H H' es ds vs → Q vs H'
  | _ => False
def SA (Γ : Gm R.S) (X : Cx) (es : List Expr) (ies : List IE) : Prop :=
  ∃ t, PA X es t ∧ ∀ σ H Q g A0 env s, EnvOk (rc cls X g) A0 H σ env → R.ok g s H → PostA R ies (rc cls X g) (Av A0 env σ) H (evs Γ ies env s) Q → t σ H Q
end
section
variable {R : RS} {cls : Str → Addr} {Γ : Gm R.S} {X : Cx}
theorem EnvOk.next {g : List Addr} {A0 : Addr → Prop} {H H' : Hp} {σ : L2.St} {env : IEnv} {s : R.S} (k : EnvOk (rc cls X g) A0 H σ env) (e : Ext (Gv (rc cls X g)) H H') (o : R.ok g s H') : EnvOk (rc cls X g) A0 H' σ env :=
  k.ext e fun a h => by
    obtain ⟨u, h, _⟩ := R.there o a h
    rw [h]; simp

/-- two in a row: what the second one is asked -/
theorem Rms.nil {c : Rc} {A : Addr → Prop} {H0 H : Hp} : Rms c A H0 H [] [] [] := ⟨rfl, rfl⟩
theorem Rms.rps {c : Rc} {A : Addr → Prop} {H0 H : Hp} : ∀ {es : List IE} {ds : List D} {vs : List V}, (∀ e ∈ es, md e ≠ .bor) → Rms c A H0 H es ds vs → Rps c A H ds vs
  | [], ds, vs, _, h => by rw [h.1, h.2]; exact rfl
  | e :: es, ds, vs, n, h => by
    obtain ⟨d, ds', v, vs', rfl, rfl, h1, h2⟩ := h
    rw [if_neg (n e (List.mem_cons_self ..))] at h1
    exact ⟨v, vs', rfl, h1, Rms.rps (fun e he => n e (List.mem_cons_of_mem _ he)) h2⟩

theorem sa_nil : SA R cls Γ X [] [] := ⟨tNil, pa_nil, fun σ H Q g A0 env s k o h => h [] H Ext.refl o ⟨rfl, rfl⟩⟩
theorem sa_cons {e : Expr} {es : List Expr} {ie : IE} {ies : List IE} (h1 : SE R cls Γ X e ie) (h2 : SA R cls Γ X es ies) (hs : starEach (e :: es) X.env = (false, eval e X.env) :: starEach es X.env) : SA R cls Γ X (e :: es) (ie :: ies) := by
  obtain ⟨t1, p1, q1⟩ := h1
  obtain ⟨t2, p2, q2⟩ := h2
  refine ⟨tCons t1 t2, pa_cons p1 p2 hs, fun σ H Q g A0 env s k o h => ?_⟩
  refine q1 σ H _ g A0 env s k o ?_
  unfold evs at h
  rw [bind_def] at h
  cases q : ev Γ ie env s with
  | bad => rw [q] at h; exact h
  | er a b c => rw [q] at h; exact h
  | ok d s1 =>
    rw [q] at h
    dsimp only at h
    intro v H1 x1 o1 r1
    refine q2 σ H1 _ g A0 env s1 (k.next x1 o1) o1 ?_
    rw [bind_def] at h
    cases q' : evs Γ ies env s1 with
    | bad => rw [q'] at h; exact h
    | er a b c => rw [q'] at h; exact h
    | ok ds s2 =>
      rw [q'] at h
      intro vs H2 x2 o2 r2
      refine h _ H2 (x1.trans x2) o2 ⟨d, ds, v, vs, rfl, rfl, ?_, ?_⟩
      · split
        · exact (r1.lb k.gA k.trA).mono x2 k.gA
        · rename_i hm
          exact (r1.rp hm k.trA).ext x2 k.gA
      · have w : ∀ {es : List IE} {ds : List D} {vs : List V}, Rms (rc cls X g) (Av A0 env σ) H1 H2 es ds vs → Rms (rc cls X g) (Av A0 env σ) H H2 es ds vs := by
          intro es
          induction es with
          | nil => intro ds vs h; exact h
          | cons e es ih =>
            intro ds vs h
            obtain ⟨d, ds', v, vs', a1, a2, a3, a4⟩ := h
            exact ⟨d, ds', v, vs', a1, a2, a3, ih a4⟩
        exact w r2
end
end Pv
end
section
set_option maxHeartbeats 200000
namespace Pv
open PySem PySem.Spec PyProof.Rows L2

section
variable {R : RS} {cls : Str → Addr} {Γ : Gm R.S} {X : Cx}
theorem PostE.from {m : Md} {c : Rc} {A : Addr → Prop} {H H1 : Hp} {r : Res R.S D} {Q : VK} (h : PostE R m c A H r Q) (e : Ext (Gv c) H H1) (hg : ∀ a, Gv c a → H1 a ≠ none) : PostE R m c A H1 r Q := by
  cases r with
  | bad => exact h
  | er _ _ _ => exact h
  | ok d s =>
    intro v H' x o k
    refine h v H' (e.trans x) o ?_
    cases m with
    | rp => exact k
    | bor => exact k
    | fr =>
      rcases k with k | ⟨a, e1, e2, k⟩
      · exact .inl k
      · refine .inr ⟨a, e1, ?_, k⟩
        cases q : H a with
        | none => rfl
        | some u =>
          by_cases ha : Gv c a
          · exact absurd e2 (hg a ha)
          · rw [e a u q (.inl ha)] at e2; cases e2
/-- the rest behind an expression -/
theorem SE.bind {ie : IE} {t : TE} (q : ∀ σ H Q g A0 env s, EnvOk (rc cls X g) A0 H σ env → R.ok g s H → PostE R (md ie) (rc cls X g) (Av A0 env σ) H (ev Γ ie env s) Q → t σ H Q)
    {σ : L2.St} {H : Hp} {g : List Addr} {A0 : Addr → Prop} {env : IEnv} {s : R.S} (k : EnvOk (rc cls X g) A0 H σ env) (o : R.ok g s H) {β : Type} {f : D → M R.S β} {P : Res R.S β → Prop} (hb : ¬ P .bad) (he : ∀ c d s, ¬ P (.er c d s))
    (h : P ((ev Γ ie env >>= f) s)) {K : VK} (hk : ∀ d s1 v H1, Ext (Gv (rc cls X g)) H H1 → R.ok g s1 H1 → Rm (md ie) (rc cls X g) (Av A0 env σ) H H1 d v → EnvOk (rc cls X g) A0 H1 σ env → P (f d s1) → K v H1) : t σ H K := by
  refine q σ H K g A0 env s k o ?_
  rw [bind_def] at h
  cases z : ev Γ ie env s with
  | bad => rw [z] at h; exact absurd h hb
  | er _ _ _ => rw [z] at h; exact absurd h (he _ _ _)
  | ok d s1 =>
    rw [z] at h
    intro v H1 x1 o1 r1
    exact hk d s1 v H1 x1 o1 r1 (k.next x1 o1) h
theorem ST.bind {ie : IE} {t : TT} (q : ∀ σ H Q g A0 env s, EnvOk (rc cls X g) A0 H σ env → R.ok g s H → PostT R (rc cls X g) H ((ev Γ ie env >>= truth) s) Q → t σ H Q)
    {σ : L2.St} {H : Hp} {g : List Addr} {A0 : Addr → Prop} {env : IEnv} {s : R.S} (k : EnvOk (rc cls X g) A0 H σ env) (o : R.ok g s H) {β : Type} {f : Bool → M R.S β} {P : Res R.S β → Prop} (hb : ¬ P .bad) (he : ∀ c d s, ¬ P (.er c d s))
    (h : P (((ev Γ ie env >>= truth) >>= f) s)) {K : Bool → Hp → Prop} (hk : ∀ d s1 H1, Ext (Gv (rc cls X g)) H H1 → R.ok g s1 H1 → EnvOk (rc cls X g) A0 H1 σ env → P (f d s1) → K d H1) : t σ H K := by
  refine q σ H K g A0 env s k o ?_
  rw [bind_def] at h
  cases z : (ev Γ ie env >>= truth) s with
  | bad => rw [z] at h; exact absurd h hb
  | er _ _ _ => rw [z] at h; exact absurd h (he _ _ _)
  | ok d s1 =>
    rw [z] at h
    intro H1 x1 o1
    exact hk d s1 H1 x1 o1 (k.next x1 o1) h
theorem SA.bind {ies : List IE} {t : TA} (q : ∀ σ H Q g A0 env s, EnvOk (rc cls X g) A0 H σ env → R.ok g s H → PostA R ies (rc cls X g) (Av A0 env σ) H (evs Γ ies env s) Q → t σ H Q)
    {σ : L2.St} {H : Hp} {g : List Addr} {A0 : Addr → Prop} {env : IEnv} {s : R.S} (k : EnvOk (rc cls X g) A0 H σ env) (o : R.ok g s H) {β : Type} {f : List D → M R.S β} {P : Res R.S β → Prop} (hb : ¬ P .bad) (he : ∀ c d s, ¬ P (.er c d s))
    (h : P ((evs Γ ies env >>= f) s)) {K : List V → Hp → Prop} (hk : ∀ d s1 v H1, Ext (Gv (rc cls X g)) H H1 → R.ok g s1 H1 → Rms (rc cls X g) (Av A0 env σ) H H1 ies d v → EnvOk (rc cls X g) A0 H1 σ env → P (f d s1) → K v H1) : t σ H K := by
  refine q σ H K g A0 env s k o ?_
  rw [bind_def] at h
  cases z : evs Γ ies env s with
  | bad => rw [z] at h; exact absurd h hb
  | er _ _ _ => rw [z] at h; exact absurd h (he _ _ _)
  | ok d s1 =>
    rw [z] at h
    intro v H1 x1 o1 r1
    exact hk d s1 v H1 x1 o1 r1 (k.next x1 o1) h
theorem postE_bad {m : Md} {c : Rc} {A : Addr → Prop} {H : Hp} {Q : VK} : ¬ PostE R m c A H .bad Q := id
theorem postE_er {m : Md} {c : Rc} {A : Addr → Prop} {H : Hp} {Q : VK} : ∀ x d s, ¬ PostE R m c A H (.er x d s) Q := fun _ _ _ => id
theorem postT_bad {c : Rc} {H : Hp} {Q : Bool → Hp → Prop} : ¬ PostT R c H .bad Q := id
theorem postT_er {c : Rc} {H : Hp} {Q : Bool → Hp → Prop} : ∀ x d s, ¬ PostT R c H (.er x d s) Q := fun _ _ _ => id
/-- an option -/
theorem opt_of {α β : Type} {x : Option α} {f : α → M R.S β} {s : R.S} {P : Res R.S β → Prop} (hb : ¬ P .bad) (h : P ((opt x >>= f) s)) : ∃ a, x = some a ∧ P (f a s) := by
  cases x with
  | none => exact absurd h hb
  | some a => exact ⟨a, rfl, h⟩
theorem opt_of' {α : Type} {x : Option α} {s : R.S} {P : Res R.S α → Prop} (hb : ¬ P .bad) (h : P (opt x s)) : ∃ a, x = some a ∧ P (.ok a s) := by
  cases x with
  | none => exact absurd h hb
  | some a => exact ⟨a, rfl, h⟩
theorem truth_of {β : Type} {d : D} {f : Bool → M R.S β} {s : R.S} {P : Res R.S β → Prop} (hb : ¬ P .bad) (h : P ((truth d >>= f) s)) : ∃ b, d = .bl b ∧ P (f b s) := by
  cases d <;> first | exact absurd h hb | exact ⟨_, rfl, h⟩
theorem truth_of' {d : D} {s : R.S} {P : Res R.S Bool → Prop} (hb : ¬ P .bad) (h : P ((truth d : M R.S Bool) s)) : ∃ b, d = .bl b ∧ P (.ok b s) := by
  cases d <;> first | exact absurd h hb | exact ⟨_, rfl, h⟩
theorem Rm.bl {m : Md} {c : Rc} {A : Addr → Prop} {H0 H : Hp} {b : Bool} {v : V} (h : Rm m c A H0 H (.bl b) v) : v = .bl b := by
  cases m with
  | rp => exact h
  | bor =>
    rcases h with h | ⟨a, _, _, h⟩
    · exact h
    · exact h.elim
  | fr =>
    rcases h with h | ⟨a, _, _, h⟩
    · exact h.2
    · exact h.elim
theorem Lb.flat {c : Rc} {A : Addr → Prop} {H : Hp} {d : D} {v : V} (h : Lb c A H d v) (n : isBox d = false) : Rp c A H d v := by
  rcases h with h | ⟨a, _, _, h⟩
  · exact h
  · rw [h.box] at n; cases n
theorem Rm.flat {m : Md} {c : Rc} {A : Addr → Prop} {H0 H : Hp} {d : D} {v : V} (h : Rm m c A H0 H d v) (n : isBox d = false) : Rp c A H d v := by
  cases m with
  | rp => exact h
  | bor => exact Lb.flat h n
  | fr =>
    rcases h with h | ⟨a, _, _, h⟩
    · exact h.2
    · rw [h.box] at n; cases n
/-- flat data, whatever the mode -/
theorem Rm.of_flat {m : Md} {c : Rc} {A : Addr → Prop} {H0 H : Hp} {d : D} {v : V} (h : Rp c A H d v) (n : isBox d = false) : Rm m c A H0 H d v := by
  cases m with
  | rp => exact h
  | bor => exact .inl h
  | fr => exact .inl ⟨n, h⟩

section
variable {ie : IE} {t : TE} {tt : TT} {ies : List IE} {ta : TA} {σ : L2.St} {H : Hp} {g : List Addr} {A0 : Addr → Prop} {env : IEnv} {s : R.S} {m : Md} {c : Rc} {A : Addr → Prop} {H0 : Hp} {Q : VK} {QT : Bool → Hp → Prop}
theorem SE.bindE (q : ∀ σ H Q g A0 env s, EnvOk (rc cls X g) A0 H σ env → R.ok g s H → PostE R (md ie) (rc cls X g) (Av A0 env σ) H (ev Γ ie env s) Q → t σ H Q) (k : EnvOk (rc cls X g) A0 H σ env) (o : R.ok g s H) {f : D → M R.S D} (h : PostE R m c A H0 ((ev Γ ie env >>= f) s) Q)
    {K : VK} (hk : ∀ d s1 v H1, Ext (Gv (rc cls X g)) H H1 → R.ok g s1 H1 → Rm (md ie) (rc cls X g) (Av A0 env σ) H H1 d v → EnvOk (rc cls X g) A0 H1 σ env → PostE R m c A H0 (f d s1) Q → K v H1) : t σ H K := SE.bind (P := fun r => PostE R m c A H0 r Q) q k o postE_bad postE_er h hk
theorem SE.bindT (q : ∀ σ H Q g A0 env s, EnvOk (rc cls X g) A0 H σ env → R.ok g s H → PostE R (md ie) (rc cls X g) (Av A0 env σ) H (ev Γ ie env s) Q → t σ H Q) (k : EnvOk (rc cls X g) A0 H σ env) (o : R.ok g s H) {f : D → M R.S Bool} (h : PostT R c H0 ((ev Γ ie env >>= f) s) QT)
    {K : VK} (hk : ∀ d s1 v H1, Ext (Gv (rc cls X g)) H H1 → R.ok g s1 H1 → Rm (md ie) (rc cls X g) (Av A0 env σ) H H1 d v → EnvOk (rc cls X g) A0 H1 σ env → PostT R c H0 (f d s1) QT → K v H1) : t σ H K := SE.bind (P := fun r => PostT R c H0 r QT) q k o postT_bad postT_er h hk
theorem ST.bindE (q : ∀ σ H Q g A0 env s, EnvOk (rc cls X g) A0 H σ env → R.ok g s H → PostT R (rc cls X g) H ((ev Γ ie env >>= truth) s) Q → tt σ H Q) (k : EnvOk (rc cls X g) A0 H σ env) (o : R.ok g s H) {f : Bool → M R.S D} (h : PostE R m c A H0 (((ev Γ ie env >>= truth) >>= f) s) Q)
    {K : Bool → Hp → Prop} (hk : ∀ d s1 H1, Ext (Gv (rc cls X g)) H H1 → R.ok g s1 H1 → EnvOk (rc cls X g) A0 H1 σ env → PostE R m c A H0 (f d s1) Q → K d H1) : tt σ H K := ST.bind (P := fun r => PostE R m c A H0 r Q) q k o postE_bad postE_er h hk
theorem ST.bindT (q : ∀ σ H Q g A0 env s, EnvOk (rc cls X g) A0 H σ env → R.ok g s H → PostT R (rc cls X g) H ((ev Γ ie env >>= truth) s) Q → tt σ H Q) (k : EnvOk (rc cls X g) A0 H σ env) (o : R.ok g s H) {f : Bool → M R.S Bool} (h : PostT R c H0 (((ev Γ ie env >>= truth) >>= f) s) QT)
    {K : Bool → Hp → Prop} (hk : ∀ d s1 H1, Ext (Gv (rc cls X g)) H H1 → R.ok g s1 H1 → EnvOk (rc cls X g) A0 H1 σ env → PostT R c H0 (f d s1) QT → K d H1) : tt σ H K := ST.bind (P := fun r => PostT R c H0 r QT) q k o postT_bad postT_er h hk
theorem SA.bindE (q : ∀ σ H Q g A0 env s, EnvOk (rc cls X g) A0 H σ env → R.ok g s H → PostA R ies (rc cls X g) (Av A0 env σ) H (evs Γ ies env s) Q → ta σ H Q) (k : EnvOk (rc cls X g) A0 H σ env) (o : R.ok g s H) {f : List D → M R.S D} (h : PostE R m c A H0 ((evs Γ ies env >>= f) s) Q)
    {K : List V → Hp → Prop} (hk : ∀ d s1 v H1, Ext (Gv (rc cls X g)) H H1 → R.ok g s1 H1 → Rms (rc cls X g) (Av A0 env σ) H H1 ies d v → EnvOk (rc cls X g) A0 H1 σ env → PostE R m c A H0 (f d s1) Q → K v H1) : ta σ H K := SA.bind (P := fun r => PostE R m c A H0 r Q) q k o postE_bad postE_er h hk
theorem opt_ofE {α : Type} {x : Option α} {f : α → M R.S D} (h : PostE R m c A H0 ((opt x >>= f) s) Q) : ∃ a, x = some a ∧ PostE R m c A H0 (f a s) Q := opt_of (P := fun r => PostE R m c A H0 r Q) postE_bad h
theorem opt_ofT {α : Type} {x : Option α} {f : α → M R.S Bool} (h : PostT R c H0 ((opt x >>= f) s) QT) : ∃ a, x = some a ∧ PostT R c H0 (f a s) QT := opt_of (P := fun r => PostT R c H0 r QT) postT_bad h
theorem opt_ofE' {x : Option D} (h : PostE R m c A H0 (opt x s) Q) : ∃ a, x = some a ∧ PostE R m c A H0 (.ok a s) Q := opt_of' (P := fun r => PostE R m c A H0 r Q) postE_bad h
end
/-! ### one rule a form -/
theorem se_var {x : Str} {pos : Pos} {i : Nat} {b : Bool} (hN : X.N[i]? = some x) (hv : Vis X.env.scope x) (hd : (x == ("__debug__" : Str)) = false) (hcd : (x == ("__classdict__" : Str)) = false) : SE R cls Γ X (.Name x pos) (if b then .bor i else .var i) := by
  refine ⟨tVar i, pe_var hN hv hd hcd, fun σ H Q g A0 env s k o h => ?_⟩
  cases b with
  | true =>
    have h : PostE R .bor (rc cls X g) (Av A0 env σ) H (ev Γ (.bor i) env s) Q := h
    unfold ev at h
    cases q : getI env i with
    | none => rw [q] at h; exact h.elim
    | some p =>
      obtain ⟨d, f⟩ := p
      rw [q] at h
      obtain ⟨v, e1, e2⟩ := k.get q
      exact ⟨v, e1, h v H Ext.refl o e2⟩
  | false =>
    have h : PostE R .rp (rc cls X g) (Av A0 env σ) H (ev Γ (.var i) env s) Q := h
    unfold ev at h
    cases q : getI env i with
    | none => rw [q] at h; exact h.elim
    | some p =>
      obtain ⟨d, f⟩ := p
      rw [q] at h
      cases f with
      | frz =>
        obtain ⟨v, e1, e2⟩ := k.frz i d (getI_eq q)
        exact ⟨v, e1, h v H Ext.refl o e2⟩
      | _ => exact h.elim
theorem se_const {e : Expr} {d : D} {v : V} (he : PE X e (tC v)) (hr : ∀ c A H, Rp c A H d v) : SE R cls Γ X e (.cst d) :=
  ⟨tC v, he, fun σ H Q g A0 env s k o h => h v H Ext.refl o (hr _ _ _)⟩
theorem se_neg {e : Expr} {ie : IE} {pos : Pos} (h1 : SE R cls Γ X e ie) : SE R cls Γ X (.UnaryOp .USub e pos) (.neg ie) := by
  obtain ⟨t1, p1, q1⟩ := h1
  refine ⟨_, pe_un un_neg p1, fun σ H Q g A0 env s k o h => ?_⟩
  unfold ev at h
  refine SE.bindE q1 k o h fun d s1 v H1 x1 o1 r1 k1 h => ?_
  cases d with
  | int i =>
    have e : v = .int i := Rm.flat r1 rfl
    exact ⟨i, e, h _ H1 x1 o1 rfl⟩
  | _ => exact h.elim
theorem se_bin {a b : Expr} {ia ib : IE} {op : Operator} {pos : Pos} {r : R2} (ho : OpR X (binaryOp op) r)
    (hr : ∀ g A H0 H d e v w z Q, (∀ a, Gv (rc cls X g) a → A a) → (∀ a, Gv (rc cls X g) a → H a ≠ none) → Ext (Gv (rc cls X g)) H0 H → Lb (rc cls X g) A H d v → Lb (rc cls X g) A H e w → opBin op d e = some z →
      (∀ v H', Ext (Gv (rc cls X g)) H H' → (∀ g' s, g' = g → R.ok g' s H → R.ok g' s H') → Rm (md (.bin op ia ib)) (rc cls X g) A H0 H' z v → Q v H') → r v w H Q)
    (h1 : SE R cls Γ X a ia) (h2 : SE R cls Γ X b ib) : SE R cls Γ X (.BinOp a op b pos) (.bin op ia ib) := by
  obtain ⟨t1, p1, q1⟩ := h1
  obtain ⟨t2, p2, q2⟩ := h2
  refine ⟨_, pe_op ho p1 p2, fun σ H Q g A0 env s k o h => ?_⟩
  unfold ev at h
  refine SE.bindE q1 k o h fun d s1 v H1 x1 o1 r1 k1 h => ?_
  refine SE.bindE q2 k1 o1 h fun e s2 w H2 x2 o2 r2 k2 h => ?_
  obtain ⟨z, hz, h⟩ := opt_ofE' h
  refine hr g (Av A0 env σ) H H2 d e v w z Q k.gA (fun a ha => k2.tr a (k2.g a ha)) (x1.trans x2) ((r1.lb k.gA k.trA).mono x2 k.gA) (r2.lb k1.gA k1.trA) hz fun u H3 x3 o3 r3 => ?_
  exact h u H3 ((x1.trans x2).trans x3) (o3 g s2 rfl o2) r3
/-- a comparison by its rule -/
def CmpR (R : RS) (cls : Str → Addr) (X : Cx) (op : CmpOp) (r : R2) : Prop := OpR X (compareOp op) r ∧ ∀ g A H d e v w z Q, Lb (rc cls X g) A H d v → Lb (rc cls X g) A H e w → opCmp op d e = some z → Q (.bl z) H → r v w H Q
theorem se_cmp {a b : Expr} {ia ib : IE} {op : CmpOp} {pos : Pos} {r : R2} (ho : CmpR R cls X op r) (hm : behindInMarks op b = false) (h1 : SE R cls Γ X a ia) (h2 : SE R cls Γ X b ib) : SE R cls Γ X (.Compare a [op] [b] pos) (.cmp op ia ib) := by
  obtain ⟨t1, p1, q1⟩ := h1
  obtain ⟨t2, p2, q2⟩ := h2
  refine ⟨_, pe_cmpR ho.1 p1 p2 hm, fun σ H Q g A0 env s k o h => ?_⟩
  unfold ev at h
  refine SE.bindE q1 k o h fun d s1 v H1 x1 o1 r1 k1 h => ?_
  refine SE.bindE q2 k1 o1 h fun e s2 w H2 x2 o2 r2 k2 h => ?_
  obtain ⟨z, hz, h⟩ := opt_ofE h
  exact ho.2 g (Av A0 env σ) H2 d e v w z Q ((r1.lb k.gA k.trA).mono x2 k.gA) (r2.lb k1.gA k1.trA) hz (h _ H2 (x1.trans x2) o2 rfl)
theorem st_cmp {a b : Expr} {ia ib : IE} {op : CmpOp} {pos : Pos} {r : R2} (ho : CmpR R cls X op r) (hm : behindInMarks op b = false) (h1 : SE R cls Γ X a ia) (h2 : SE R cls Γ X b ib) : ST R cls Γ X (.Compare a [op] [b] pos) (.cmp op ia ib) := by
  obtain ⟨t1, p1, q1⟩ := h1
  obtain ⟨t2, p2, q2⟩ := h2
  refine ⟨_, pt_cmpR ho.1 p1 p2 hm, fun σ H Q g A0 env s k o h => ?_⟩
  unfold ev at h
  simp only [bind_assoc'] at h
  refine SE.bindT q1 k o h fun d s1 v H1 x1 o1 r1 k1 h => ?_
  refine SE.bindT q2 k1 o1 h fun e s2 w H2 x2 o2 r2 k2 h => ?_
  obtain ⟨z, hz, h⟩ := opt_ofT h
  exact ho.2 g (Av A0 env σ) H2 d e v w z _ ((r1.lb k.gA k.trA).mono x2 k.gA) (r2.lb k1.gA k1.trA) hz ⟨z, rfl, h H2 (x1.trans x2) o2⟩
theorem se_chn {a b c : Expr} {ia ib ic : IE} {op op' : CmpOp} {pos : Pos} {r r' : R2} (ho : CmpR R cls X op r) (ho' : CmpR R cls X op' r') (hm : lastMarks [op, op'] [b, c] = false) (h1 : SE R cls Γ X a ia) (h2 : SE R cls Γ X b ib) (h3 : SE R cls Γ X c ic) :
    SE R cls Γ X (.Compare a [op, op'] [b, c] pos) (.chn op op' ia ib ic) := by
  obtain ⟨t1, p1, q1⟩ := h1
  obtain ⟨t2, p2, q2⟩ := h2
  obtain ⟨t3, p3, q3⟩ := h3
  refine ⟨_, pe_chain ho.1 ho'.1 p1 p2 p3 hm, fun σ H Q g A0 env s k o h => ?_⟩
  unfold ev at h
  refine SE.bindE q1 k o h fun d s1 v H1 x1 o1 r1 k1 h => ?_
  refine SE.bindE q2 k1 o1 h fun e s2 w H2 x2 o2 r2 k2 h => ?_
  obtain ⟨z, hz, h⟩ := opt_ofE h
  refine ho.2 g (Av A0 env σ) H2 d e v w z _ ((r1.lb k.gA k.trA).mono x2 k.gA) (r2.lb k1.gA k1.trA) hz ⟨z, rfl, ?_⟩
  cases z with
  | false => exact iteF (h _ H2 (x1.trans x2) o2 rfl)
  | true =>
    rw [if_pos rfl] at h ⊢
    refine SE.bindE q3 k2 o2 h fun f s3 u H3 x3 o3 r3 k3 h => ?_
    obtain ⟨y, hy, h⟩ := opt_ofE h
    exact ho'.2 g (Av A0 env σ) H3 e f w u y _ ((r2.lb k1.gA k1.trA).mono x3 k.gA) (r3.lb k2.gA k2.trA) hy (h _ H3 ((x1.trans x2).trans x3) o3 rfl)
theorem st_chn {a b c : Expr} {ia ib ic : IE} {op op' : CmpOp} {pos : Pos} {r r' : R2} (ho : CmpR R cls X op r) (ho' : CmpR R cls X op' r') (hm : lastMarks [op, op'] [b, c] = false) (h1 : SE R cls Γ X a ia) (h2 : SE R cls Γ X b ib) (h3 : SE R cls Γ X c ic) :
    ST R cls Γ X (.Compare a [op, op'] [b, c] pos) (.chn op op' ia ib ic) := by
  obtain ⟨t1, p1, q1⟩ := h1
  obtain ⟨t2, p2, q2⟩ := h2
  obtain ⟨t3, p3, q3⟩ := h3
  refine ⟨_, pt_chain ho.1 ho'.1 p1 p2 p3 hm, fun σ H Q g A0 env s k o h => ?_⟩
  unfold ev at h
  simp only [bind_assoc'] at h
  refine SE.bindT q1 k o h fun d s1 v H1 x1 o1 r1 k1 h => ?_
  refine SE.bindT q2 k1 o1 h fun e s2 w H2 x2 o2 r2 k2 h => ?_
  obtain ⟨z, hz, h⟩ := opt_ofT h
  refine ho.2 g (Av A0 env σ) H2 d e v w z _ ((r1.lb k.gA k.trA).mono x2 k.gA) (r2.lb k1.gA k1.trA) hz ⟨z, rfl, ?_⟩
  cases z with
  | false => exact iteF ⟨_, rfl, h H2 (x1.trans x2) o2⟩
  | true =>
    rw [if_pos rfl] at h ⊢
    simp only [bind_assoc'] at h
    refine SE.bindT q3 k2 o2 h fun f s3 u H3 x3 o3 r3 k3 h => ?_
    obtain ⟨y, hy, h⟩ := opt_ofT h
    exact ho'.2 g (Av A0 env σ) H3 e f w u y _ ((r2.lb k1.gA k1.trA).mono x3 k.gA) (r3.lb k2.gA k2.trA) hy ⟨_, rfl, h H3 ((x1.trans x2).trans x3) o3⟩
end
end Pv
end
section
set_option maxHeartbeats 200000
namespace Pv
open PySem PySem.Spec PyProof.Rows L2

section
variable {R : RS} {cls : Str → Addr} {Γ : Gm R.S} {X : Cx}
theorem EnvOk.gTr {c : Rc} {A0 : Addr → Prop} {H : Hp} {σ : L2.St} {env : IEnv} (k : EnvOk c A0 H σ env) : ∀ a, Gv c a → H a ≠ none := fun a h => k.tr a (k.g a h)
theorem RS.new {g : List Addr} {s : R.S} {H : Hp} {p : Addr} {u : HO} (o : R.ok g s H) (hp : H p = none) : R.ok g s (upd H p u) := R.stay (fun a ha w e => by rw [upd_ne (ne_of_none e hp)]; exact e) o
theorem Ext.back {W : Addr → Prop} {H H' : Hp} (e : Ext W H H') (hg : ∀ a, W a → H' a ≠ none) {p : Addr} (h : H' p = none) : H p = none := by
  cases q : H p with
  | none => rfl
  | some u =>
    by_cases w : W p
    · exact absurd h (hg p w)
    · rw [e p u q (.inl w)] at h; cases h
/-! ### truth -/
theorem st_val {e : Expr} {ie : IE} (h1 : SE R cls Γ X e ie) (he : ∀ whole, isTrue e X.env whole = (do let v ← whole; standAt e.pos; holding [v] (truthy v))) : ST R cls Γ X e ie := by
  obtain ⟨t1, p1, q1⟩ := h1
  refine ⟨_, pt_val p1 he, fun σ H Q g A0 env s k o h => ?_⟩
  refine SE.bindT q1 k o h fun d s1 v H1 x1 o1 r1 k1 h => ?_
  obtain ⟨b, rfl, h'⟩ := truth_of' (P := fun r => PostT R _ _ r _) postT_bad h
  clear h
  have h := h'
  clear h'
  exact ⟨b, r1.bl, h H1 x1 o1⟩
theorem st_not {e : Expr} {ie : IE} {pos : Pos} (h1 : ST R cls Γ X e ie) : ST R cls Γ X (.UnaryOp .Not e pos) (.not ie) := by
  obtain ⟨t1, p1, q1⟩ := h1
  refine ⟨_, pt_not p1, fun σ H Q g A0 env s k o h => ?_⟩
  unfold ev at h
  rw [bind_assoc'] at h
  exact ST.bindT q1 k o h fun d s1 H1 x1 o1 k1 h => h H1 x1 o1
theorem se_not {e : Expr} {ie : IE} {pos : Pos} (h1 : SE R cls Γ X e ie) : SE R cls Γ X (.UnaryOp .Not e pos) (.not ie) := by
  obtain ⟨t1, p1, q1⟩ := h1
  refine ⟨_, pe_not p1, fun σ H Q g A0 env s k o h => ?_⟩
  unfold ev at h
  rw [bind_assoc'] at h
  refine SE.bindE q1 k o h fun d s1 v H1 x1 o1 r1 k1 h => ?_
  obtain ⟨b, rfl, h'⟩ := truth_of (P := fun r => PostE R _ _ _ _ r _) postE_bad h
  clear h
  have h := h'
  clear h'
  exact ⟨b, r1.bl, h _ H1 x1 o1 rfl⟩
theorem se_and {a b : Expr} {ia ib : IE} {rest : List Expr} {pos : Pos} (h1 : SE R cls Γ X a ia) (h2 : SE R cls Γ X (.BoolOp .And (b :: rest) pos) ib) (hm : md ib ≠ .bor) : SE R cls Γ X (.BoolOp .And (a :: b :: rest) pos) (.and ia ib) := by
  obtain ⟨t1, p1, q1⟩ := h1
  obtain ⟨t2, p2, q2⟩ := h2
  refine ⟨_, pe_and p1 p2, fun σ H Q g A0 env s k o h => ?_⟩
  unfold ev at h
  rw [bind_assoc'] at h
  refine SE.bindE q1 k o h fun d s1 v H1 x1 o1 r1 k1 h => ?_
  obtain ⟨b, rfl, h'⟩ := truth_of (P := fun r => PostE R _ _ _ _ r _) postE_bad h
  clear h
  have h := h'
  clear h'
  refine ⟨b, r1.bl, ?_⟩
  cases b with
  | false => exact iteF (h _ H1 x1 o1 rfl)
  | true =>
    rw [if_pos rfl] at h ⊢
    refine q2 σ H1 Q g A0 env s1 k1 o1 ?_
    have h := h.from x1 k1.gTr
    cases z : ev Γ ib env s1 with
    | bad => rw [z] at h; exact h
    | er _ _ _ => rw [z] at h; exact h
    | ok d s2 =>
      rw [z] at h
      intro v H2 x2 o2 r2
      exact h v H2 x2 o2 (r2.rp hm k1.trA)
theorem se_or {a b : Expr} {ia ib : IE} {rest : List Expr} {pos : Pos} (h1 : SE R cls Γ X a ia) (h2 : SE R cls Γ X (.BoolOp .Or (b :: rest) pos) ib) (hm : md ib ≠ .bor) : SE R cls Γ X (.BoolOp .Or (a :: b :: rest) pos) (.or ia ib) := by
  obtain ⟨t1, p1, q1⟩ := h1
  obtain ⟨t2, p2, q2⟩ := h2
  refine ⟨_, pe_or p1 p2, fun σ H Q g A0 env s k o h => ?_⟩
  unfold ev at h
  rw [bind_assoc'] at h
  refine SE.bindE q1 k o h fun d s1 v H1 x1 o1 r1 k1 h => ?_
  obtain ⟨b, rfl, h'⟩ := truth_of (P := fun r => PostE R _ _ _ _ r _) postE_bad h
  clear h
  have h := h'
  clear h'
  refine ⟨b, r1.bl, ?_⟩
  cases b with
  | true => exact iteT (h _ H1 x1 o1 rfl)
  | false =>
    rw [if_neg Bool.false_ne_true] at h ⊢
    refine q2 σ H1 Q g A0 env s1 k1 o1 ?_
    have h := h.from x1 k1.gTr
    cases z : ev Γ ib env s1 with
    | bad => rw [z] at h; exact h
    | er _ _ _ => rw [z] at h; exact h
    | ok d s2 =>
      rw [z] at h
      intro v H2 x2 o2 r2
      exact h v H2 x2 o2 (r2.rp hm k1.trA)
theorem se_one {a : Expr} {ia : IE} {op : BoolOp} {pos : Pos} (h1 : SE R cls Γ X a ia) : SE R cls Γ X (.BoolOp op [a] pos) ia := by
  obtain ⟨t1, p1, q1⟩ := h1
  exact ⟨_, pe_one p1, q1⟩
/-- a test in a chain -/
def SW (R : RS) (cls : Str → Addr) (Γ : Gm R.S) (X : Cx) (e : Expr) (ie : IE) : Prop :=
  ∃ t, PW X e t ∧ ∀ σ H Q g A0 env s, EnvOk (rc cls X g) A0 H σ env → R.ok g s H → PostT R (rc cls X g) H ((ev Γ ie env >>= truth) s) Q → t σ H Q
theorem SW.st {e : Expr} {ie : IE} (h : SW R cls Γ X e ie) : ST R cls Γ X e ie := by
  obtain ⟨t, p, q⟩ := h
  exact ⟨t, p.pt, q⟩
theorem sw_and1 {a : Expr} {ia : IE} {pos : Pos} (h : ST R cls Γ X a ia) : SW R cls Γ X (.BoolOp .And [a] pos) ia := by
  obtain ⟨t, p, q⟩ := h
  exact ⟨t, pw_and1 p, q⟩
theorem sw_or1 {a : Expr} {ia : IE} {pos : Pos} (h : ST R cls Γ X a ia) : SW R cls Γ X (.BoolOp .Or [a] pos) ia := by
  obtain ⟨t, p, q⟩ := h
  exact ⟨t, pw_or1 p, q⟩
theorem PostT.from {c : Rc} {H H1 : Hp} {r : Res R.S Bool} {Q : Bool → Hp → Prop} (h : PostT R c H r Q) (e : Ext (Gv c) H H1) : PostT R c H1 r Q := by
  cases r with
  | bad => exact h
  | er _ _ _ => exact h
  | ok d s => exact fun H' x o => h H' (e.trans x) o
theorem sw_and {a b : Expr} {ia ib : IE} {rest : List Expr} {pos : Pos} (h1 : ST R cls Γ X a ia) (h2 : SW R cls Γ X (.BoolOp .And (b :: rest) pos) ib) : SW R cls Γ X (.BoolOp .And (a :: b :: rest) pos) (.and ia ib) := by
  obtain ⟨t1, p1, q1⟩ := h1
  obtain ⟨t2, p2, q2⟩ := h2
  refine ⟨_, pw_and p1 p2, fun σ H Q g A0 env s k o h => ?_⟩
  unfold ev at h
  rw [bind_assoc'] at h
  refine ST.bindT q1 k o h fun b s1 H1 x1 o1 k1 h => ?_
  cases b with
  | false => exact iteF (h H1 x1 o1)
  | true =>
    rw [if_pos rfl] at h ⊢
    exact q2 σ H1 Q g A0 env s1 k1 o1 (h.from x1)
theorem sw_or {a b : Expr} {ia ib : IE} {rest : List Expr} {pos : Pos} (h1 : ST R cls Γ X a ia) (h2 : SW R cls Γ X (.BoolOp .Or (b :: rest) pos) ib) : SW R cls Γ X (.BoolOp .Or (a :: b :: rest) pos) (.or ia ib) := by
  obtain ⟨t1, p1, q1⟩ := h1
  obtain ⟨t2, p2, q2⟩ := h2
  refine ⟨_, pw_or p1 p2, fun σ H Q g A0 env s k o h => ?_⟩
  unfold ev at h
  rw [bind_assoc'] at h
  refine ST.bindT q1 k o h fun b s1 H1 x1 o1 k1 h => ?_
  cases b with
  | true => exact iteT (h H1 x1 o1)
  | false =>
    rw [if_neg Bool.false_ne_true] at h ⊢
    exact q2 σ H1 Q g A0 env s1 k1 o1 (h.from x1)
theorem se_ite {c a b : Expr} {ic ia ib : IE} {pos : Pos} (h0 : ST R cls Γ X c ic) (h1 : SE R cls Γ X a ia) (h2 : SE R cls Γ X b ib) (m1 : md ia ≠ .bor) (m2 : md ib ≠ .bor) : SE R cls Γ X (.IfExp c a b pos) (.ite ic ia ib) := by
  obtain ⟨t0, p0, q0⟩ := h0
  obtain ⟨t1, p1, q1⟩ := h1
  obtain ⟨t2, p2, q2⟩ := h2
  refine ⟨_, pe_ifExp p0 p1 p2, fun σ H Q g A0 env s k o h => ?_⟩
  unfold ev at h
  refine ST.bindE q0 k o h fun z s1 H1 x1 o1 k1 h => ?_
  have go : ∀ {ie : IE} {t : TE}, md ie ≠ .bor → (∀ σ H Q g A0 env s, EnvOk (rc cls X g) A0 H σ env → R.ok g s H → PostE R (md ie) (rc cls X g) (Av A0 env σ) H (ev Γ ie env s) Q → t σ H Q) →
      PostE R (md (.ite ic ia ib)) (rc cls X g) (Av A0 env σ) H (ev Γ ie env s1) Q → t σ H1 Q := by
    intro ie t hm q h
    refine q σ H1 Q g A0 env s1 k1 o1 ?_
    have h := h.from x1 k1.gTr
    cases z : ev Γ ie env s1 with
    | bad => rw [z] at h; exact h
    | er _ _ _ => rw [z] at h; exact h
    | ok d s2 =>
      rw [z] at h
      intro v H2 x2 o2 r2
      exact h v H2 x2 o2 (r2.rp hm k1.trA)
  cases z with
  | true =>
    rw [if_pos rfl] at h ⊢
    exact go m1 q1 h
  | false =>
    rw [if_neg Bool.false_ne_true] at h ⊢
    exact go m2 q2 h

/-! ### displays -/
theorem Rps.len_le {c : Rc} {A : Addr → Prop} {H : Hp} {ds : List D} {vs : List V} (h : Rps c A H ds vs) {n : Nat} (e : vs.length ≤ n) : ds.length ≤ n := by rw [← h.length]; exact e
theorem Rms.length {c : Rc} {A : Addr → Prop} {H0 H : Hp} : ∀ {es : List IE} {ds : List D} {vs : List V}, Rms c A H0 H es ds vs → ds.length = es.length ∧ vs.length = es.length
  | [], ds, vs, h => by rw [h.1, h.2]; exact ⟨rfl, rfl⟩
  | e :: es, ds, vs, h => by
    obtain ⟨d, ds', v, vs', rfl, rfl, h1, h2⟩ := h
    have q := Rms.length h2
    rw [List.length_cons, List.length_cons, List.length_cons, q.1, q.2]
    exact ⟨rfl, rfl⟩
theorem se_tup {es : List Expr} {ies : List IE} {x1 : Nat} {pos : Pos} (h : SA R cls Γ X es ies) (hm : ∀ e ∈ ies, md e ≠ .bor) (hl : ies.length ≤ 1000) : SE R cls Γ X (.Tuple es x1 pos) (.tup ies) := by
  obtain ⟨t, p, q⟩ := h
  refine ⟨_, pe_tup p, fun σ H Q g A0 env s k o h => ?_⟩
  unfold ev at h
  refine SA.bindE q k o h fun ds s1 vs H1 x1 o1 r1 k1 h => ?_
  have l := r1.length
  have r := Rms.rps hm r1
  refine ⟨by rw [l.2, sizeLine_eq]; omega, fun p hp => ?_⟩
  have x2 : Ext (Gv (rc cls X g)) H1 (upd H1 p (.tup vs)) := Ext.new hp
  exact h _ _ (x1.trans x2) (R.new o1 hp) ⟨p, vs, rfl, .inl (.inl upd_same), r.ext x2 k.gA⟩
theorem se_lst {es : List Expr} {ies : List IE} {pos : Pos} (h : SA R cls Γ X es ies) (hm : ∀ e ∈ ies, md e ≠ .bor) (hl : ies.length ≤ 1000) : SE R cls Γ X (.List es pos) (.lst ies) := by
  obtain ⟨t, p, q⟩ := h
  refine ⟨_, pe_lst p, fun σ H Q g A0 env s k o h => ?_⟩
  unfold ev at h
  refine SA.bindE q k o h fun ds s1 vs H1 x1 o1 r1 k1 h => ?_
  have l := r1.length
  have r := Rms.rps hm r1
  have z : ies.length ≤ sizeLine := by rw [sizeLine_eq]; omega
  refine ⟨by rw [l.2]; exact z, fun p hp => ?_⟩
  have x2 : Ext (Gv (rc cls X g)) H1 (upd H1 p (.lst vs)) := Ext.new hp
  exact h _ _ (x1.trans x2) (R.new o1 hp) (.inr ⟨p, rfl, x1.back k1.gTr hp, vs, upd_same, by rw [l.1]; exact z, (r.plus hp).ext x2 fun a h => .inl (k.gA a h)⟩)
theorem Lb.lst {c : Rc} {A : Addr → Prop} {H : Hp} {l : List D} {v : V} (w : ∀ a, Gv c a → A a) (h : Lb c A H (.lst l) v) : ∃ a xs, v = .ref a ∧ H a = some (.lst xs) ∧ l.length ≤ sizeLine ∧ Rps c A H l xs ∧ ¬ Gv c a := by
  rcases h with ⟨a, xs, e1, e2, e3, e4, e5⟩ | ⟨a, e1, n, xs, e2, e3, e4⟩
  · exact ⟨a, xs, e1, e2, e4, e5, fun z => e3 (w a z)⟩
  · exact ⟨a, xs, e1, e2, e3, e4, n⟩
theorem Lb.tup {c : Rc} {A : Addr → Prop} {H : Hp} {l : List D} {v : V} (h : Lb c A H (.tup l) v) : ∃ a xs, v = .ref a ∧ SqT c.K H a xs ∧ Rps c A H l xs := Lb.flat h rfl
theorem Rps.atI {c : Rc} {A : Addr → Prop} {H : Hp} {l : List D} {xs : List V} (h : Rps c A H l xs) {i : Int} {d : D} (e : L2.atI l i = some d) : ∃ v, L2.atI xs i = some v ∧ Rp c A H d v := by
  unfold L2.atI at e ⊢
  rw [h.length]
  cases q : ixN l.length i with
  | none => rw [q] at e; cases e
  | some j =>
    rw [q] at e
    have e : l[j]? = some d := e
    obtain ⟨v, e1, e2⟩ := h.getD e
    exact ⟨v, e1, e2⟩
theorem se_idx {a b : Expr} {ia ib : IE} {pos : Pos} (hs : PlainIx b) (h1 : SE R cls Γ X a ia) (h2 : SE R cls Γ X b ib) : SE R cls Γ X (.Subscript a b pos) (.idx ia ib) := by
  obtain ⟨t1, p1, q1⟩ := h1
  obtain ⟨t2, p2, q2⟩ := h2
  refine ⟨_, pe_ix ix_seq p1 p2 hs, fun σ H Q g A0 env s k o h => ?_⟩
  unfold ev at h
  refine SE.bindE q1 k o h fun d s1 v H1 x1 o1 r1 k1 h => ?_
  refine SE.bindE q2 k1 o1 h fun e s2 w H2 x2 o2 r2 k2 h => ?_
  obtain ⟨z, hz, hq⟩ := opt_ofE' h
  clear h
  have l1 := (r1.lb k.gA k.trA).mono x2 k.gA
  cases e with
  | int i =>
    have ew : w = .int i := Rm.flat r2 rfl
    cases d with
    | lst l =>
      obtain ⟨p, xs, e1, e2, e3, e4, e5⟩ := l1.lst k.gA
      have hz : atI l i = some z := hz
      obtain ⟨u, e6, e7⟩ := e4.atI hz
      exact .inl ⟨p, xs, i, u, e1, ew, .inl (.inl e2), e6, hq u H2 (x1.trans x2) o2 e7⟩
    | tup l =>
      obtain ⟨p, xs, e1, e2, e4⟩ := l1.tup
      have hz : atI l i = some z := hz
      obtain ⟨u, e6, e7⟩ := e4.atI hz
      exact .inr (.inl ⟨p, xs, i, u, e1, ew, e2, e6, hq u H2 (x1.trans x2) o2 e7⟩)
    | _ => cases hz
  | _ => cases d <;> cases hz
end
end Pv
end
section
set_option maxHeartbeats 200000
namespace Pv
open PySem PySem.Spec PyProof.Rows L2

section
variable {R : RS} {cls : Str → Addr} {Γ : Gm R.S} {X : Cx}
/-! ### values -/
theorem flat_toV {c : Rc} {A : Addr → Prop} {H : Hp} {d : D} {v : V} (h : Lb c A H d v) (f : flatD d = true) : v = toV d ∧ flatV v = true := by
  cases d with
  | non => have e : v = .non := Lb.flat h rfl; subst e; exact ⟨rfl, rfl⟩
  | bl b => have e : v = .bl b := Lb.flat h rfl; subst e; exact ⟨rfl, rfl⟩
  | int b => have e : v = .int b := Lb.flat h rfl; subst e; exact ⟨rfl, rfl⟩
  | str b => have e : v = .str b := Lb.flat h rfl; subst e; exact ⟨rfl, rfl⟩
  | _ => cases f
theorem flats_toV {c : Rc} {A : Addr → Prop} {H : Hp} : ∀ {ds : List D} {vs : List V}, Rps c A H ds vs → ds.all flatD = true → vs = ds.map toV ∧ vs.all flatV = true
  | [], vs, h, _ => by have h : vs = [] := h; subst h; exact ⟨rfl, rfl⟩
  | d :: ds, vs, h, f => by
    obtain ⟨w, ws, e1, e2, e3⟩ := h
    subst e1
    rw [List.all_cons, Bool.and_eq_true] at f
    obtain ⟨a1, a2⟩ := flat_toV (.inl e2) f.1
    obtain ⟨b1, b2⟩ := flats_toV e3 f.2
    rw [a1, b1] at *
    exact ⟨rfl, by rw [List.all_cons, a2, b2]; rfl⟩
theorem Lb.isN {c : Rc} {A : Addr → Prop} {H : Hp} {d : D} {v : V} (h : Lb c A H d v) : decide (v = .non) = isNon d := by
  rcases h with h | ⟨a, e, _, k⟩
  · cases d with
    | non => have h : v = .non := h; rw [h]; rfl
    | bl b => have h : v = .bl b := h; rw [h]; rfl
    | int b => have h : v = .int b := h; rw [h]; rfl
    | str b => have h : v = .str b := h; rw [h]; rfl
    | tup l => obtain ⟨a, xs, e, _⟩ := h; rw [e]; rfl
    | lst l => obtain ⟨a, xs, e, _⟩ := h; rw [e]; rfl
    | dct l => obtain ⟨a, xs, e, _⟩ := h; rw [e]; rfl
    | ins n l => obtain ⟨a, dx, xs, e, _⟩ := h; rw [e]; rfl
    | rng => have h : v = .ref c.r := h; rw [h]; rfl
    | scr n => obtain ⟨a, e, _⟩ := h; rw [e]; rfl
  · rw [e]
    cases d <;> first | rfl | exact k.elim
theorem Lb.dp {c : Rc} {A : Addr → Prop} {H : Hp} {d : D} {v : V} (h : Lb c A H d v) (p : pureD d = true) : Dp c.K H v (toP d) := by
  rcases h with h | ⟨a, e, _, k⟩
  · exact Rp.dp d v h p
  · subst e
    cases d with
    | lst l =>
      obtain ⟨xs, e1, _, e2⟩ := k
      exact .lst (.inl (.inl e1)) (Rps.dp l xs e2 (by simpa [pureD] using p))
    | dct l => simp [pureD] at p
    | _ => exact k.elim
theorem pure_of_okEq {d : D} (h : okEq d = true) : pureD d = true := by
  unfold okEq at h
  rw [Bool.and_eq_true] at h
  exact h.1

/-! ### comparisons -/
theorem cmp_eq (hu : X.A.units + 64 < cLine) : CmpR R cls X .Eq (rEqD X.K) := ⟨op_eqD hu, fun g A H d e v w z Q l1 l2 h q => by
  have h : (if (okEq d && okEq e) = true then some (PyData.eqv (toP d) (toP e)) else none) = some z := h
  split at h
  · rename_i k
    rw [Bool.and_eq_true] at k
    cases h
    exact ⟨_, _, l1.dp (pure_of_okEq k.1), l2.dp (pure_of_okEq k.2), shaped_of_okEq k.1, shaped_of_okEq k.2, q⟩
  · cases h⟩
theorem cmp_ne (hu : X.A.units + 64 < cLine) : CmpR R cls X .NotEq (rNeD X.K) := ⟨op_neD hu, fun g A H d e v w z Q l1 l2 h q => by
  have h : (if (okEq d && okEq e) = true then some (!PyData.eqv (toP d) (toP e)) else none) = some z := h
  split at h
  · rename_i k
    rw [Bool.and_eq_true] at k
    cases h
    exact ⟨_, _, l1.dp (pure_of_okEq k.1), l2.dp (pure_of_okEq k.2), shaped_of_okEq k.1, shaped_of_okEq k.2, q⟩
  · cases h⟩
theorem Lb.int {c : Rc} {A : Addr → Prop} {H : Hp} {i : Int} {v : V} (h : Lb c A H (.int i) v) : v = .int i := Lb.flat h rfl
theorem Lb.str {c : Rc} {A : Addr → Prop} {H : Hp} {i : Str} {v : V} (h : Lb c A H (.str i) v) : v = .str i := Lb.flat h rfl
theorem cmp_lt : CmpR R cls X .Lt (rI0 fun i j => .bl (decide (i < j))) := ⟨op_lt, fun g A H d e v w z Q l1 l2 h q => by
  cases d <;> cases e <;> first | cases h; exact ⟨_, _, l1.int, l2.int, q⟩ | cases h⟩
theorem cmp_le : CmpR R cls X .LtE (rI0 fun i j => .bl (decide (i ≤ j))) := ⟨op_le, fun g A H d e v w z Q l1 l2 h q => by
  cases d <;> cases e <;> first | cases h; exact ⟨_, _, l1.int, l2.int, q⟩ | cases h⟩
theorem cmp_gt : CmpR R cls X .Gt (rI0 fun i j => .bl (decide (j < i))) := ⟨op_gt, fun g A H d e v w z Q l1 l2 h q => by
  cases d <;> cases e <;> first | cases h; exact ⟨_, _, l1.int, l2.int, q⟩ | cases h⟩
theorem cmp_ge : CmpR R cls X .GtE (rI0 fun i j => .bl (decide (j ≤ i))) := ⟨op_ge, fun g A H d e v w z Q l1 l2 h q => by
  cases d <;> cases e <;> first | cases h; exact ⟨_, _, l1.int, l2.int, q⟩ | cases h⟩
theorem cmp_is : CmpR R cls X .Is (fun x y H Q => y = .non ∧ Q (.bl (decide (x = .non))) H) := ⟨op_isN, fun g A H d e v w z Q l1 l2 h q => by
  cases e with
  | non =>
    have h : some (isNon d) = some z := by cases d <;> exact h
    cases h
    exact ⟨Lb.flat l2 rfl, by rw [l1.isN]; exact q⟩
  | _ => cases d <;> cases h⟩
theorem cmp_isnot : CmpR R cls X .IsNot (fun x y H Q => y = .non ∧ Q (.bl (!decide (x = .non))) H) := ⟨op_notN, fun g A H d e v w z Q l1 l2 h q => by
  cases e with
  | non =>
    have h : some (!isNon d) = some z := by cases d <;> exact h
    cases h
    exact ⟨Lb.flat l2 rfl, by rw [l1.isN]; exact q⟩
  | _ => cases d <;> cases h⟩
theorem inD_of {c : Rc} {A : Addr → Prop} {H : Hp} {d : D} {v : V} {l : List D} {xs : List V} {z : Bool} (h : inD d l = some z) (l1 : Lb c A H d v) (r : Rps c A H l xs) : flatV v = true ∧ xs.all flatV = true ∧ inV v xs = z := by
  unfold inD at h
  split at h
  · rename_i k
    rw [Bool.and_eq_true] at k
    cases h
    obtain ⟨a1, a2⟩ := flat_toV l1 k.1
    obtain ⟨b1, b2⟩ := flats_toV r k.2
    exact ⟨a2, b2, by rw [a1, b1]⟩
  · cases h
theorem cmp_in : CmpR R cls X .In (fun x y H Q => rIn X.K false x y H Q ∨ (fun x y H Q => ∃ i j, x = .str i ∧ y = .str j ∧ Q (.bl (!(Builtin.Str.occurrences j i 0 j.length 1).isEmpty)) H) x y H Q) := ⟨op_in_seq.or op_in_str, fun g A H d e v w z Q l1 l2 h q => by
  cases e with
  | lst l =>
    have h : inD d l = some z := by cases d <;> exact h
    rcases l2 with ⟨a, xs, e1, e2, _, _, e5⟩ | ⟨a, e1, _, xs, e2, _, e5⟩
    · obtain ⟨f1, f2, f3⟩ := inD_of h l1 e5
      exact .inl ⟨a, xs, e1, .inl (.inl (.inl e2)), f1, f2, by rw [if_neg Bool.false_ne_true, f3]; exact q⟩
    · obtain ⟨f1, f2, f3⟩ := inD_of h l1 e5
      exact .inl ⟨a, xs, e1, .inl (.inl (.inl e2)), f1, f2, by rw [if_neg Bool.false_ne_true, f3]; exact q⟩
  | tup l =>
    have h : inD d l = some z := by cases d <;> exact h
    obtain ⟨a, xs, e1, e2, e5⟩ := l2.tup
    obtain ⟨f1, f2, f3⟩ := inD_of h l1 e5
    exact .inl ⟨a, xs, e1, .inr e2, f1, f2, by rw [if_neg Bool.false_ne_true, f3]; exact q⟩
  | str b =>
    cases d with
    | str a => cases h; exact .inr ⟨a, b, l1.str, l2.str, q⟩
    | _ => cases h
  | _ => cases d <;> cases h⟩
theorem cmp_notin : CmpR R cls X .NotIn (fun x y H Q => rIn X.K true x y H Q ∨ (fun x y H Q => ∃ i j, x = .str i ∧ y = .str j ∧ Q (.bl (!(!(Builtin.Str.occurrences j i 0 j.length 1).isEmpty))) H) x y H Q) := ⟨op_notIn_seq.or op_notIn_str, fun g A H d e v w z Q l1 l2 h q => by
  cases e with
  | lst l =>
    have h : (inD d l).map (!·) = some z := by cases d <;> exact h
    obtain ⟨y, hb, rfl⟩ := Option.map_eq_some_iff.mp h
    clear h
    have h := hb
    rcases l2 with ⟨a, xs, e1, e2, _, _, e5⟩ | ⟨a, e1, _, xs, e2, _, e5⟩
    · obtain ⟨f1, f2, f3⟩ := inD_of h l1 e5
      exact .inl ⟨a, xs, e1, .inl (.inl (.inl e2)), f1, f2, by rw [if_pos rfl, f3]; exact q⟩
    · obtain ⟨f1, f2, f3⟩ := inD_of h l1 e5
      exact .inl ⟨a, xs, e1, .inl (.inl (.inl e2)), f1, f2, by rw [if_pos rfl, f3]; exact q⟩
  | tup l =>
    have h : (inD d l).map (!·) = some z := by cases d <;> exact h
    obtain ⟨y, hb, rfl⟩ := Option.map_eq_some_iff.mp h
    clear h
    have h := hb
    obtain ⟨a, xs, e1, e2, e5⟩ := l2.tup
    obtain ⟨f1, f2, f3⟩ := inD_of h l1 e5
    exact .inl ⟨a, xs, e1, .inr e2, f1, f2, by rw [if_pos rfl, f3]; exact q⟩
  | str b =>
    cases d with
    | str a => cases h; exact .inr ⟨a, b, l1.str, l2.str, q⟩
    | _ => cases h
  | _ => cases d <;> cases h⟩

/-! ### arithmetic -/
def BinR (R : RS) (cls : Str → Addr) (X : Cx) (op : Operator) (m : Md) (r : R2) : Prop := OpR X (binaryOp op) r ∧
  ∀ g A H0 H d e v w z Q, (∀ a, Gv (rc cls X g) a → A a) → (∀ a, Gv (rc cls X g) a → H a ≠ none) → Ext (Gv (rc cls X g)) H0 H → Lb (rc cls X g) A H d v → Lb (rc cls X g) A H e w → opBin op d e = some z →
      (∀ v H', Ext (Gv (rc cls X g)) H H' → (∀ g' s, g' = g → R.ok g' s H → R.ok g' s H') → Rm m (rc cls X g) A H0 H' z v → Q v H') → r v w H Q
theorem bin_add : BinR R cls X .Add .fr (fun x y H Q => rI0 (fun i j => .int (i + j)) x y H Q ∨ (fun x y H Q => (fun x y H Q => ∃ i j, x = .str i ∧ y = .str j ∧ i.length + j.length ≤ sizeLine ∧ Q (.str (i ++ j)) H) x y H Q ∨ rCat x y H Q) x y H Q) :=
  ⟨op_add.or (op_add_str.or op_cat), fun g A H0 H d e v w z Q hg ht x0 l1 l2 h q => by
    cases d with
    | int i =>
      cases e with
      | int j => cases h; exact .inl ⟨i, j, l1.int, l2.int, q _ H Ext.refl (fun _ _ _ o => o) (Rm.of_flat rfl rfl)⟩
      | _ => cases h
    | str i =>
      cases e with
      | str j =>
        have h : (if i.length + j.length ≤ sizeLine then some (D.str (i ++ j)) else none) = some z := h
        split at h
        · cases h
          exact .inr (.inl ⟨i, j, l1.str, l2.str, by assumption, q _ H Ext.refl (fun _ _ _ o => o) (Rm.of_flat rfl rfl)⟩)
        · cases h
      | _ => cases h
    | lst i =>
      cases e with
      | lst j =>
        have h : (if i.length + j.length ≤ sizeLine then some (D.lst (i ++ j)) else none) = some z := h
        split at h
        · rename_i hl
          cases h
          obtain ⟨a, xs, e1, e2, e3, e4, e5⟩ := l1.lst hg
          obtain ⟨b, ys, f1, f2, f3, f4, f5⟩ := l2.lst hg
          refine .inr (.inr ⟨a, b, xs, ys, e1, f1, e2, f2, by rw [e4.length, f4.length]; exact hl, fun p hp => ?_⟩)
          have x2 : Ext (Gv (rc cls X g)) H (upd H p (.lst (xs ++ ys))) := Ext.new hp
          exact q _ _ x2 (fun g' s e o => RS.new o hp) (.inr ⟨p, rfl, x0.back ht hp, _, upd_same, by rw [List.length_append]; exact hl, ((e4.append f4).plus hp).ext x2 fun a h => .inl (hg a h)⟩)
        · cases h
      | _ => cases h
    | _ => cases e <;> cases h⟩
theorem Rps.reps {c : Rc} {A : Addr → Prop} {H : Hp} {ds : List D} {vs : List V} (h : Rps c A H ds vs) : ∀ n : Nat, Rps c A H (List.replicate n ds).flatten (List.replicate n vs).flatten
  | 0 => rfl
  | n + 1 => by
    rw [List.replicate_succ, List.replicate_succ, List.flatten_cons, List.flatten_cons]
    exact h.append (Rps.reps h n)
def rMul : R2 := fun x y H Q => (fun x y H Q => rI CMul (fun i j => .int (i * j)) x y H Q ∨ rI CMulW (fun i j => .int (i * j)) x y H Q) x y H Q ∨ rRep x y H Q
theorem bin_mul : BinR R cls X .Mult .fr rMul := ⟨(op_mul.or op_mulW).or op_rep, fun g A H0 H d e v w z Q hg ht x0 l1 l2 h q => by
  cases d with
  | int i =>
    cases e with
    | int j =>
      have h : (if mulOk i j = true then some (D.int (i * j)) else none) = some z := h
      split at h
      · rename_i k
        cases h
        have q := q _ H Ext.refl (fun _ _ _ o => o) (Rm.of_flat rfl rfl)
        unfold mulOk at k
        rw [Bool.or_eq_true, Bool.or_eq_true] at k
        rcases k with (k | k) | k
        · have k := of_decide_eq_true k
          exact .inl (.inl ⟨i, j, l1.int, l2.int, .inl (by omega), q⟩)
        · have k := of_decide_eq_true k
          exact .inl (.inl ⟨i, j, l1.int, l2.int, .inr (by omega), q⟩)
        · have k := of_decide_eq_true k
          exact .inl (.inr ⟨i, j, l1.int, l2.int, k, q⟩)
      · cases h
    | _ => cases h
  | lst l =>
    cases e with
    | int j =>
      have h : (if -(2 ^ 63) ≤ j ∧ j < 2 ^ 63 ∧ l.length * j.toNat ≤ sizeLine then some (D.lst (List.replicate j.toNat l).flatten) else none) = some z := h
      split at h
      · rename_i k
        cases h
        obtain ⟨a, xs, e1, e2, e3, e4, e5⟩ := l1.lst hg
        refine .inr ⟨a, j, xs, e1, l2.int, e2, k.1, k.2.1, by rw [e4.length]; exact k.2.2, fun p hp => ?_⟩
        have x2 : Ext (Gv (rc cls X g)) H (upd H p (.lst (List.replicate j.toNat xs).flatten)) := Ext.new hp
        have lr : (List.replicate j.toNat l).flatten.length ≤ sizeLine := by
          rw [PyProof.Rows.lm_len_rep_flat, Nat.mul_comm]
          exact k.2.2
        exact q _ _ x2 (fun g' s e o => RS.new o hp) (.inr ⟨p, rfl, x0.back ht hp, _, upd_same, lr, ((e4.reps j.toNat).plus hp).ext x2 fun a h => .inl (hg a h)⟩)
      · cases h
    | _ => cases h
  | _ => cases e <;> cases h⟩
theorem bin_sub : BinR R cls X .Sub .rp (rI0 fun i j => .int (i - j)) := ⟨op_sub, fun g A H0 H d e v w z Q hg ht x0 l1 l2 h q => by
  cases d with
  | int i =>
    cases e with
    | int j => cases h; exact ⟨i, j, l1.int, l2.int, q _ H Ext.refl (fun _ _ _ o => o) (Rm.of_flat rfl rfl)⟩
    | _ => cases h
  | _ => cases e <;> cases h⟩
theorem bin_fdiv : BinR R cls X .FloorDiv .rp (rI CDivW fun i j => .int (i / j)) := ⟨op_fdivW, fun g A H0 H d e v w z Q hg ht x0 l1 l2 h q => by
  cases d with
  | int i =>
    cases e with
    | int j =>
      have h : (if 0 < j ∧ j.natAbs.log2 < 9000 then some (D.int (i / j)) else none) = some z := h
      split at h
      · rename_i k
        cases h
        exact ⟨i, j, l1.int, l2.int, k, q _ H Ext.refl (fun _ _ _ o => o) (Rm.of_flat rfl rfl)⟩
      · cases h
    | _ => cases h
  | _ => cases e <;> cases h⟩
theorem bin_mod : BinR R cls X .Mod .rp (rI (fun _ j => 0 < j) fun i j => .int (i % j)) := ⟨op_mod, fun g A H0 H d e v w z Q hg ht x0 l1 l2 h q => by
  cases d with
  | int i =>
    cases e with
    | int j =>
      have h : (if 0 < j then some (D.int (i % j)) else none) = some z := h
      split at h
      · rename_i k
        cases h
        exact ⟨i, j, l1.int, l2.int, k, q _ H Ext.refl (fun _ _ _ o => o) (Rm.of_flat rfl rfl)⟩
      · cases h
    | _ => cases h
  | _ => cases e <;> cases h⟩
theorem bin_pow : BinR R cls X .Pow .rp (rI CPow fun i j => .int (i ^ j.toNat)) := ⟨op_pow, fun g A H0 H d e v w z Q hg ht x0 l1 l2 h q => by
  cases d with
  | int i =>
    cases e with
    | int j =>
      have h : (if powOk i j = true then some (D.int (i ^ j.toNat)) else none) = some z := h
      split at h
      · rename_i k
        cases h
        unfold powOk at k
        have k := of_decide_eq_true k
        exact ⟨i, j, l1.int, l2.int, k, q _ H Ext.refl (fun _ _ _ o => o) (Rm.of_flat rfl rfl)⟩
      · cases h
    | _ => cases h
  | _ => cases e <;> cases h⟩

/-! ### built-ins -/
def Lbs (c : Rc) (A : Addr → Prop) (H : Hp) : List D → List V → Prop
  | [], vs => vs = []
  | d :: ds, vs => ∃ v ws, vs = v :: ws ∧ Lb c A H d v ∧ Lbs c A H ds ws
theorem Rms.lbs {c : Rc} {A : Addr → Prop} {H0 H : Hp} : ∀ {es : List IE} {ds : List D} {vs : List V}, Rms c A H0 H es ds vs → Lbs c A H ds vs
  | [], ds, vs, h => by rw [h.1, h.2]; exact rfl
  | e :: es, ds, vs, h => by
    obtain ⟨d, ds', v, vs', rfl, rfl, h1, h2⟩ := h
    refine ⟨v, vs', rfl, ?_, Rms.lbs h2⟩
    split at h1
    · exact h1
    · exact .inl h1
theorem Lbs.one {c : Rc} {A : Addr → Prop} {H : Hp} {d : D} {vs : List V} (h : Lbs c A H [d] vs) : ∃ v, vs = [v] ∧ Lb c A H d v := by
  obtain ⟨v, ws, e, l, k⟩ := h
  have k : ws = [] := k
  subst k
  exact ⟨v, e, l⟩
theorem Lbs.two {c : Rc} {A : Addr → Prop} {H : Hp} {d e : D} {vs : List V} (h : Lbs c A H [d, e] vs) : ∃ v w, vs = [v, w] ∧ Lb c A H d v ∧ Lb c A H e w := by
  obtain ⟨v, ws, e1, l, k⟩ := h
  obtain ⟨w, e2, l2⟩ := Lbs.one k
  subst e2
  exact ⟨v, w, e1, l, l2⟩
theorem spl {es : List Expr} {env : PySem.Env} {pos : Pos} (h : es.all (fun e => match e with | .Starred .. => false | _ => true) = true) : (backTo pos (starEach es env)).any (·.1) = false := by
  induction es with
  | nil => rfl
  | cons e es ih =>
    rw [List.all_cons, Bool.and_eq_true] at h
    have q := ih h.2
    cases e <;> first | exact q | (have z := h.1; cases z)
def noStar (e : Expr) : Bool := match e with
  | .Starred .. => false
  | _ => true
theorem star_cons {e : Expr} {es : List Expr} {env : PySem.Env} (h : noStar e = true) : starEach (e :: es) env = (false, eval e env) :: starEach es env := by
  cases e <;> first | rfl | cases h
/-- a built-in, by its rule -/
def BiR (R : RS) (cls : Str → Addr) (X : Cx) (f : Bi) (v : Value) (m : Md) : Prop := ∃ r : List V → Hp → VK → Prop, CallR X v r ∧
  ∀ g A H0 H ds vs z Q, (∀ a, Gv (rc cls X g) a → A a) → (∀ a, Gv (rc cls X g) a → H a ≠ none) → Ext (Gv (rc cls X g)) H0 H → Lbs (rc cls X g) A H ds vs → opBi f ds = some z →
      (∀ v H', Ext (Gv (rc cls X g)) H H' → (∀ g' s, g' = g → R.ok g' s H → R.ok g' s H') → Rm m (rc cls X g) A H0 H' z v → Q v H') → r vs H Q
theorem se_biB {x : Str} {p pos : Pos} {e : Expr} {es : List Expr} {ies : List IE} {f : Bi} {id : String} (hc : BiR R cls X f (.builtin id) (md (.bi f ies))) (hg : Gl X x) (hm : X.mg x = none) (hv : bootBuiltins x = some (.builtin id)) (h : SA R cls Γ X (e :: es) ies)
    (hn : x ≠ "__name__") (hdb : (x == ("__debug__" : Str)) = false) (hs : noStar e = true) (hss : es.all noStar = true) : SE R cls Γ X (.Call (.Name x p) (e :: es) [] pos) (.bi f ies) := by
  obtain ⟨r, hr, hk⟩ := hc
  obtain ⟨t, pa, q⟩ := h
  refine ⟨_, pe_callB hr hg hm hv pa hn hdb (star_cons hs) (spl hss), fun σ H Q g A0 env s k o h => ?_⟩
  unfold ev at h
  refine SA.bindE q k o h fun ds s1 vs H1 x1 o1 r1 k1 h => ?_
  obtain ⟨z, hz, hq⟩ := opt_ofE' h
  exact hk g (Av A0 env σ) H H1 ds vs z Q k.gA k1.gTr x1 r1.lbs hz fun v H2 x2 o2 r2 => hq v H2 (x1.trans x2) (o2 g s1 rfl o1) r2
theorem se_biT {x : Str} {p pos : Pos} {e : Expr} {es : List Expr} {ies : List IE} {f : Bi} {id : String} (hc : BiR R cls X f (.type id) (md (.bi f ies))) (hg : Gl X x) (hm : X.mg x = none) (hv : bootBuiltins x = some (.type id)) (h : SA R cls Γ X (e :: es) ies)
    (hn : x ≠ "__name__") (hdb : (x == ("__debug__" : Str)) = false) (hs : noStar e = true) (hss : es.all noStar = true) : SE R cls Γ X (.Call (.Name x p) (e :: es) [] pos) (.bi f ies) := by
  obtain ⟨r, hr, hk⟩ := hc
  obtain ⟨t, pa, q⟩ := h
  refine ⟨_, pe_callTy hr hg hm hv pa hn hdb (star_cons hs) (spl hss), fun σ H Q g A0 env s k o h => ?_⟩
  unfold ev at h
  refine SA.bindE q k o h fun ds s1 vs H1 x1 o1 r1 k1 h => ?_
  obtain ⟨z, hz, hq⟩ := opt_ofE' h
  exact hk g (Av A0 env σ) H H1 ds vs z Q k.gA k1.gTr x1 r1.lbs hz fun v H2 x2 o2 r2 => hq v H2 (x1.trans x2) (o2 g s1 rfl o1) r2
theorem bi_len {m : Md} : BiR R cls X .len (.builtin "len") m := ⟨_, call_len_seq.or call_len_str, fun g A H0 H ds vs z Q hg ht x0 l h q => by
  match ds, h with
  | [.lst l'], h =>
    obtain ⟨v, rfl, l1⟩ := l.one
    cases h
    obtain ⟨a, xs, e1, e2, _, e4, _⟩ := l1.lst hg
    exact .inl ⟨a, xs, by rw [e1], .inl (.inl (.inl e2)), by rw [e4.length]; exact q _ H Ext.refl (fun _ _ _ o => o) (Rm.of_flat rfl rfl)⟩
  | [.tup l'], h =>
    obtain ⟨v, rfl, l1⟩ := l.one
    cases h
    obtain ⟨a, xs, e1, e2, e4⟩ := l1.tup
    exact .inl ⟨a, xs, by rw [e1], .inr e2, by rw [e4.length]; exact q _ H Ext.refl (fun _ _ _ o => o) (Rm.of_flat rfl rfl)⟩
  | [.scr l'], h =>
    obtain ⟨v, rfl, l1⟩ := l.one
    cases h
    obtain ⟨a, e1, e2⟩ : Rp (rc cls X g) A H (.scr l') v := Lb.flat l1 rfl
    exact .inl ⟨a, _, by rw [e1], .inl e2.sq, by rw [List.length_map]; exact q _ H Ext.refl (fun _ _ _ o => o) (Rm.of_flat rfl rfl)⟩
  | [.str s], h =>
    obtain ⟨v, rfl, l1⟩ := l.one
    have h : (if s.length ≤ sizeLine then some (D.int s.length) else none) = some z := h
    split at h
    · cases h
      exact .inr ⟨s, by rw [l1.str], by assumption, q _ H Ext.refl (fun _ _ _ o => o) (Rm.of_flat rfl rfl)⟩
    · cases h⟩
theorem bi_int {m : Md} : BiR R cls X .int (.type "int") m := ⟨_, call_int1, fun g A H0 H ds vs z Q hg ht x0 l h q => by
  match ds, h with
  | [.int i], h =>
    obtain ⟨v, rfl, l1⟩ := l.one
    cases h
    exact .inl ⟨i, by rw [l1.int], q _ H Ext.refl (fun _ _ _ o => o) (Rm.of_flat rfl rfl)⟩⟩
theorem bi_abs {m : Md} : BiR R cls X .abs (.builtin "abs") m := ⟨_, call_abs, fun g A H0 H ds vs z Q hg ht x0 l h q => by
  match ds, h with
  | [.int i], h =>
    obtain ⟨v, rfl, l1⟩ := l.one
    cases h
    exact ⟨i, by rw [l1.int], q _ H Ext.refl (fun _ _ _ o => o) (Rm.of_flat rfl rfl)⟩⟩
theorem bi_max {m : Md} (hc : X.calm = true) : BiR R cls X .max (.builtin "max") m := ⟨_, call_max2 hc, fun g A H0 H ds vs z Q hg ht x0 l h q => by
  match ds, h with
  | [.int i, .int j], h =>
    obtain ⟨v, w, rfl, l1, l2⟩ := l.two
    cases h
    exact ⟨i, j, by rw [l1.int, l2.int], q _ H Ext.refl (fun _ _ _ o => o) (Rm.of_flat rfl rfl)⟩⟩
theorem bi_min {m : Md} (hc : X.calm = true) : BiR R cls X .min (.builtin "min") m := ⟨_, call_min2 hc, fun g A H0 H ds vs z Q hg ht x0 l h q => by
  match ds, h with
  | [.int i, .int j], h =>
    obtain ⟨v, w, rfl, l1, l2⟩ := l.two
    cases h
    exact ⟨i, j, by rw [l1.int, l2.int], q _ H Ext.refl (fun _ _ _ o => o) (Rm.of_flat rfl rfl)⟩⟩
theorem bi_list : BiR R cls X .list (.type "list") .fr := ⟨_, call_list_of, fun g A H0 H ds vs z Q hg ht x0 l h q => by
  match ds, h with
  | [.lst l'], h =>
    obtain ⟨v, rfl, l1⟩ := l.one
    cases h
    obtain ⟨a, xs, e1, e2, e3, e4, _⟩ := l1.lst hg
    refine ⟨a, xs, by rw [e1], .inl (.inl (.inl e2)), fun p hp => ?_⟩
    have x2 : Ext (Gv (rc cls X g)) H (upd H p (.lst xs)) := Ext.new hp
    exact q _ _ x2 (fun g' s e o => RS.new o hp) (.inr ⟨p, rfl, x0.back ht hp, _, upd_same, e3, (e4.plus hp).ext x2 fun a h => .inl (hg a h)⟩)
  | [.tup l'], h =>
    obtain ⟨v, rfl, l1⟩ := l.one
    have h : (if l'.length ≤ sizeLine then some (D.lst l') else none) = some z := h
    split at h
    · rename_i hl
      cases h
      obtain ⟨a, xs, e1, e2, e4⟩ := l1.tup
      refine ⟨a, xs, by rw [e1], .inr e2, fun p hp => ?_⟩
      have x2 : Ext (Gv (rc cls X g)) H (upd H p (.lst xs)) := Ext.new hp
      exact q _ _ x2 (fun g' s e o => RS.new o hp) (.inr ⟨p, rfl, x0.back ht hp, _, upd_same, hl, (e4.plus hp).ext x2 fun a h => .inl (hg a h)⟩)
    · cases h⟩
theorem bi_tuple : BiR R cls X .tuple (.type "tuple") .rp := ⟨_, call_tuple_of, fun g A H0 H ds vs z Q hg ht x0 l h q => by
  match ds, h with
  | [.lst l'], h =>
    obtain ⟨v, rfl, l1⟩ := l.one
    cases h
    obtain ⟨a, xs, e1, e2, e3, e4, _⟩ := l1.lst hg
    refine ⟨a, xs, by rw [e1], .inl ⟨.inl (.inl e2), fun p hp => ?_⟩⟩
    have x2 : Ext (Gv (rc cls X g)) H (upd H p (.tup xs)) := Ext.new hp
    exact q _ _ x2 (fun g' s e o => RS.new o hp) ⟨p, xs, rfl, .inl (.inl upd_same), e4.ext x2 hg⟩
  | [.tup l'], h =>
    obtain ⟨v, rfl, l1⟩ := l.one
    cases h
    obtain ⟨a, xs, e1, e2, e4⟩ := l1.tup
    exact ⟨a, xs, by rw [e1], .inr ⟨e2, q _ H Ext.refl (fun _ _ _ o => o) ⟨a, xs, rfl, e2, e4⟩⟩⟩⟩
theorem boolsOf_rps {c : Rc} {A : Addr → Prop} {H : Hp} : ∀ {l : List D} {bs : List Bool} {xs : List V}, boolsOf l = some bs → Rps c A H l xs → xs = bs.map V.bl
  | [], bs, xs, h, r => by cases h; exact r
  | d :: l, bs, xs, h, r => by
    obtain ⟨v, ws, e1, e2, e3⟩ := r
    cases d with
    | bl b =>
      have h : (boolsOf l).map (b :: ·) = some bs := h
      obtain ⟨y, hb, rfl⟩ := Option.map_eq_some_iff.mp h
      have e2 : v = .bl b := e2
      rw [e1, e2, boolsOf_rps hb e3]
      rfl
    | _ => cases h
theorem bi_all {m : Md} (hc : X.calm = true) : BiR R cls X .all (.builtin "all") m := ⟨_, cr_all hc, fun g A H0 H ds vs z Q hg ht x0 l h q => by
  match ds, h with
  | [.lst l'], h =>
    obtain ⟨v, rfl, l1⟩ := l.one
    have h : ((boolsOf l').map fun bs => D.bl (bs.all id)) = some z := h
    obtain ⟨bs, hb, rfl⟩ := Option.map_eq_some_iff.mp h
    obtain ⟨a, xs, e1, e2, e3, e4, _⟩ := l1.lst hg
    exact ⟨a, bs, by rw [e1], by rw [← boolsOf_rps hb e4]; exact .inl (.inl e2), q _ H Ext.refl (fun _ _ _ o => o) (Rm.of_flat rfl rfl)⟩⟩
end
end Pv
end
section
set_option maxHeartbeats 200000
namespace Pv
open PySem PySem.Spec PyProof.Rows L2

/-! ### calls of defs -/
def ArgsOk (c : Rc) (A : Addr → Prop) (H : Hp) : List Bool → List D → List V → Prop
  | [], ds, vs => ds = [] ∧ vs = []
  | l :: ls, ds, vs => ∃ d ds' v vs', ds = d :: ds' ∧ vs = v :: vs' ∧ (if l then Lb c A H d v else Rp c A H d v) ∧ ArgsOk c A H ls ds' vs'
def frM (b : Bool) : Md := if b then .fr else .rp
/-- what a def promises: F by values, by its signature -/
def spF (R : RS) (K : PySem.W.Frag) (cls : Str → Addr) (sg : Sig) (F : List D → M R.S D) : Sp := fun vs H Q _ => ∃ g A ds s, (∀ a, A a → H a ≠ none) ∧ (∀ a, a ∈ g → A a) ∧ R.ok g s H ∧ ArgsOk ⟨K, cls, g⟩ A H sg.lend ds vs ∧
  PostE R (frM sg.fr) ⟨K, cls, g⟩ A H (F ds s) Q
theorem ArgsOk.length {c : Rc} {A : Addr → Prop} {H : Hp} : ∀ {ls : List Bool} {ds : List D} {vs : List V}, ArgsOk c A H ls ds vs → ds.length = ls.length ∧ vs.length = ls.length
  | [], ds, vs, h => by rw [h.1, h.2]; exact ⟨rfl, rfl⟩
  | l :: ls, ds, vs, h => by
    obtain ⟨d, ds', v, vs', rfl, rfl, h1, h2⟩ := h
    have q := ArgsOk.length h2
    rw [List.length_cons, List.length_cons, List.length_cons, q.1, q.2]
    exact ⟨rfl, rfl⟩
/-- a def of the module as it stands in a body's context -/
structure FnAt (R : RS) (cls : Str → Addr) (X : Cx) (x : Str) (sg : Sig) (F : List D → M R.S D) : Prop where
  mk ::
  ex : ∃ k f fd ps, X.mg x = some (.ref f) ∧ PySem.W.keepIn X.K (.ref f) = true ∧ Binds X.K fd ps [] ∧ FnOk X.prog X.w X.K X.mg X.base CX0 k f fd ps (spF R X.K cls sg F) ∧ Room k X.A
/-- which modes an argument may have -/
def lendOk : List Bool → List IE → Bool
  | [], [] => true
  | l :: ls, e :: es => (l || decide (md e ≠ .bor)) && lendOk ls es
  | _, _ => false
section
variable {R : RS} {cls : Str → Addr} {Γ : Gm R.S} {X : Cx}
theorem Rms.args {c : Rc} {A : Addr → Prop} {H0 H : Hp} : ∀ {ls : List Bool} {es : List IE} {ds : List D} {vs : List V}, lendOk ls es = true → Rms c A H0 H es ds vs → ArgsOk c A H ls ds vs
  | [], [], ds, vs, _, h => h
  | [], e :: es, ds, vs, k, _ => by cases k
  | l :: ls, [], ds, vs, k, _ => by cases k
  | l :: ls, e :: es, ds, vs, k, h => by
    obtain ⟨d, ds', v, vs', rfl, rfl, h1, h2⟩ := h
    have k : ((l || decide (md e ≠ .bor)) && lendOk ls es) = true := k
    rw [Bool.and_eq_true] at k
    refine ⟨d, ds', v, vs', rfl, rfl, ?_, Rms.args k.2 h2⟩
    by_cases hm : md e = .bor
    · rw [if_pos hm] at h1
      cases l with
      | true => exact h1
      | false =>
        have z := k.1
        rw [Bool.false_or] at z
        exact absurd hm (of_decide_eq_true z)
    · rw [if_neg hm] at h1
      cases l with
      | true => exact .inl h1
      | false => exact h1
theorem se_call {x : Str} {p pos : Pos} {e : Expr} {es : List Expr} {ies : List IE} {f : Nat} {sg : Sig} {F : List D → M R.S D} (hF : FnAt R cls X x sg F) (hΓ : Γ.fns[f]? = some F) (hg : Gl X x) (h : SA R cls Γ X (e :: es) ies) (hl : lendOk sg.lend ies = true)
    (hdb : (x == ("__debug__" : Str)) = false) (hs : noStar e = true) (hss : es.all noStar = true) : SE R cls Γ X (.Call (.Name x p) (e :: es) [] pos) (.call f sg.fr ies) := by
  obtain ⟨k0, fa, fd, ps, e1, e2, e3, e4, e5⟩ := hF.ex
  obtain ⟨t, pa, q⟩ := h
  refine ⟨_, pe_call e4 e5 hg e1 e2 e3 .nil pass0 pa hdb (star_cons hs) (spl hss), fun σ H Q g A0 env s k o h => ?_⟩
  unfold ev callF at h
  rw [hΓ] at h
  refine SA.bindE q k o h fun ds s1 vs H1 x1 o1 r1 k1 h => ?_
  rw [List.append_nil]
  refine ⟨g, Av A0 env σ, ds, s1, k1.trA, fun a ha => k.gA a ha, o1, r1.args hl, ?_⟩
  have m : md (.call f sg.fr ies) = frM sg.fr := by cases sg.fr <;> rfl
  rw [m] at h
  exact h.from x1 k1.gTr
/-- by keywords: the values in the parameters' order -/
structure KwAt (R : RS) (cls : Str → Addr) (X : Cx) (x : Str) (sg : Sig) (F : List D → M R.S D) (n : Nat) (ks : List Str) (perm : List Nat) : Prop where
  mk ::
  ex : ∃ k f fd ps, X.mg x = some (.ref f) ∧ PySem.W.keepIn X.K (.ref f) = true ∧ KBinds X.K fd ps ks (fun us ws => us ++ perm.filterMap fun i => ws[i]?) (fun us ws => us ++ perm.filterMap fun i => ws[i]?) ∧ FnOk X.prog X.w X.K X.mg X.base CX0 k f fd ps (spF R X.K cls sg F) ∧ Room k X.A

/-! ### a slot stored -/
theorem Held.put {env : IEnv} {σ : L2.St} {i : Nat} {d : D} {v : V} {a : Addr} (h : Held (put env i d .frz) (σ.set i (some v)) a) : Held env σ a := by
  obtain ⟨j, e, f, h1, h2, h3⟩ := h
  unfold Pv.put at h1
  by_cases hij : i = j
  · subst hij
    by_cases hl : i < env.length
    · rw [List.getElem?_set_self hl] at h1
      cases h1
      rcases h2 with h2 | h2 <;> cases h2
    · rw [List.getElem?_eq_none (by simpa using hl)] at h1
      cases h1
  · rw [List.getElem?_set_ne hij] at h1 h3
    exact ⟨j, e, f, h1, h2, h3⟩
theorem held_put {env : IEnv} {σ : L2.St} {i : Nat} {d : D} {v : V} {a : Addr} (ok : okSlot env i = true) (h : Held env σ a) : Held (put env i d .frz) (σ.set i (some v)) a := by
  obtain ⟨j, e, f, h1, h2, h3⟩ := h
  have hij : i ≠ j := by
    intro z
    subst z
    unfold okSlot at ok
    rw [h1] at ok
    rcases h2 with rfl | rfl <;> cases ok
  unfold Pv.put
  exact ⟨j, e, f, by rw [List.getElem?_set_ne hij]; exact h1, h2, by rw [List.getElem?_set_ne hij]; exact h3⟩
theorem EnvOk.put {c : Rc} {A0 : Addr → Prop} {H : Hp} {σ : L2.St} {env : IEnv} {i : Nat} {d : D} {v : V} (k : EnvOk c A0 H σ env) (r : Rp c (Av A0 env σ) H d v) : EnvOk c A0 H (σ.set i (some v)) (put env i d .frz) := by
  have anti : ∀ a, Av A0 (Pv.put env i d .frz) (σ.set i (some v)) a → Av A0 env σ a := fun a h => h.imp id Held.put
  have rp : ∀ {e : D} {w : V}, Rp c (Av A0 env σ) H e w → Rp c (Av A0 (Pv.put env i d .frz) (σ.set i (some v))) H e w := fun {e w} h => Rp.mono (Ext.refl (W := fun _ => False)) (fun _ z => z.elim) (fun a z => .inl (anti a z)) e w h
  have ca : ∀ {e : D} {a : Addr}, CellAt c (Av A0 env σ) H a e → CellAt c (Av A0 (Pv.put env i d .frz) (σ.set i (some v))) H a e := fun {e a} h => h.mono (Ext.refl (W := fun _ => False)) (fun _ z => z.elim) (fun a z => .inl (anti a z)) id
  have old : ∀ {j : Nat} {e : D} {f : Fl}, (Pv.put env i d .frz)[j]? = some (some (e, f)) → (i = j ∧ e = d ∧ f = .frz ∧ j < env.length) ∨ (i ≠ j ∧ env[j]? = some (some (e, f))) := fun {j e f} h => by
    unfold Pv.put at h
    by_cases hij : i = j
    · subst hij
      by_cases hl : i < env.length
      · rw [List.getElem?_set_self hl] at h
        cases h
        exact .inl ⟨rfl, rfl, rfl, hl⟩
      · rw [List.getElem?_eq_none (by simpa using hl)] at h
        cases h
    · rw [List.getElem?_set_ne hij] at h
      exact .inr ⟨hij, h⟩
  refine ⟨by unfold Pv.put; rw [List.length_set, List.length_set]; exact k.len, k.tr, k.g, fun j e h => ?_, fun j e h => ?_, fun j e f h hf => ?_, fun j l e e' f f' a h1 f1 h2 f2 s1 s2 => ?_⟩
  · rcases old h with ⟨rfl, rfl, _, hl⟩ | ⟨hij, h⟩
    · exact ⟨v, by rw [List.getElem?_set_self (by rw [← k.len]; exact hl)], rp r⟩
    · obtain ⟨w, e1, e2⟩ := k.frz j e h
      exact ⟨w, by rw [List.getElem?_set_ne hij]; exact e1, rp e2⟩
  · rcases old h with ⟨rfl, rfl, z, _⟩ | ⟨hij, h⟩
    · cases z
    · obtain ⟨w, e1, e2⟩ := k.lent j e h
      refine ⟨w, by rw [List.getElem?_set_ne hij]; exact e1, ?_⟩
      rcases e2 with e2 | ⟨a, q1, q2, q3, q4⟩
      · exact .inl (rp e2)
      · exact .inr ⟨a, q1, q2, fun z => q3 z.put, ca q4⟩
  · rcases old h with ⟨rfl, rfl, z, _⟩ | ⟨hij, h⟩
    · rw [z] at hf; rcases hf with hf | hf <;> cases hf
    · obtain ⟨a, e1, e2, e3⟩ := k.hld j e f h hf
      exact ⟨a, by rw [List.getElem?_set_ne hij]; exact e1, e2, ca e3⟩
  · rcases old h1 with ⟨_, _, z, _⟩ | ⟨hij, h1⟩
    · rw [z] at f1; rcases f1 with f1 | f1 <;> cases f1
    · rcases old h2 with ⟨_, _, z, _⟩ | ⟨hil, h2⟩
      · rw [z] at f2; rcases f2 with f2 | f2 <;> cases f2
      · rw [List.getElem?_set_ne hij] at s1
        rw [List.getElem?_set_ne hil] at s2
        exact k.inj j l e e' f f' a h1 f1 h2 f2 s1 s2

/-! ### what is walked: a list or a tuple -/
def iSeq (K : PySem.W.Frag) (tl : TE) : TI := fun σ H R => tl σ H fun x H1 => ∃ a, x = .ref a ∧ (((∃ xs, SqL K H1 a xs) ∧ R (Itl K a) H1) ∨ ((∃ xs, SqT K H1 a xs) ∧ R (Itt K a) H1))
theorem pi_seq {tg l : Expr} {tl : TE} (hl : PE X l tl) : PI X tg l (iSeq X.K tl) := by
  refine ⟨fun pins s σ H R I h => ?_⟩
  refine thn (hl.run pins s σ H _ I h) fun v s1 ⟨x, H1, I1, r1, q1⟩ => ?_
  obtain ⟨a, e, q1⟩ := q1
  subst e
  cases r1
  rcases q1 with ⟨⟨xs, hq⟩, q⟩ | ⟨⟨xs, hq⟩, q⟩
  · obtain ⟨its, rv, p, hz⟩ := I1.list hq
    refine wpAny_pyIter_list p.isList ?_
    refine ⟨s1.heap.objs.size, [s1.heap.objs.size], _, _, H1, rfl, I1.kept (t' := s1.toks) fun b o e => Heap.get?_push_of_some _ e, turn_list a _, ⟨_, Heap.get?_push_size _ rfl, rfl, rfl⟩, fun b hb => ?_, q⟩
    have e : b = s1.heap.objs.size := by simpa using hb
    subst e
    exact I1.fpOk (Nat.le_refl _) (I1.hok.fresh (Nat.le_refl _))
  · obtain ⟨its, rv, p, hz⟩ := I1.tuple hq
    refine wpAny_pyIter_tuple (show s1.heap.IsTuple a its.toArray from p) ?_
    refine ⟨s1.heap.objs.size, [s1.heap.objs.size], _, _, H1, rfl, I1.kept (t' := s1.toks) fun b o e => Heap.get?_push_of_some _ e, turn_tuple a _, ⟨_, Heap.get?_push_size _ rfl, rfl, rfl⟩, fun b hb => ?_, q⟩
    have e : b = s1.heap.objs.size := by simpa using hb
    subst e
    exact I1.fpOk (Nat.le_refl _) (I1.hok.fresh (Nat.le_refl _))

/-! ### comprehensions -/
theorem calm_ok {α : Type} {m : M R.S α} {s : R.S} {P : Res R.S α → Prop} (hb : ¬ P .bad) (h : P (calm m s)) : ∃ a s', m s = .ok a s' ∧ P (.ok a s') := by
  unfold calm at h
  cases q : m s with
  | ok a s' => rw [q] at h; exact ⟨a, s', rfl, h⟩
  | er _ _ _ => rw [q] at h; exact absurd h hb
  | bad => rw [q] at h; exact absurd h hb
theorem bind_ok {S α β : Type} {m : M S α} {f : α → M S β} {s s2 : S} {b : β} (h : (m >>= f) s = .ok b s2) : ∃ a s1, m s = .ok a s1 ∧ f a s1 = .ok b s2 := by
  rw [bind_def] at h
  cases q : m s with
  | ok a s' => rw [q] at h; exact ⟨a, s', rfl, h⟩
  | er _ _ _ => rw [q] at h; cases h
  | bad => rw [q] at h; cases h
theorem ok_inj {S α : Type} {a b : α} {s t : S} (h : (Res.ok a s : Res S α) = .ok b t) : a = b ∧ s = t := by cases h; exact ⟨rfl, rfl⟩

/-! ### the readings as such -/
def rdE (R : RS) (cls : Str → Addr) (Γ : Gm R.S) (K : PySem.W.Frag) (ie : IE) : TE := fun σ H Q => ∃ g A0 env s, EnvOk ⟨K, cls, g⟩ A0 H σ env ∧ R.ok g s H ∧ PostE R (md ie) ⟨K, cls, g⟩ (Av A0 env σ) H (ev Γ ie env s) Q
def rdT (R : RS) (cls : Str → Addr) (Γ : Gm R.S) (K : PySem.W.Frag) (ie : IE) : TT := fun σ H Q => ∃ g A0 env s, EnvOk ⟨K, cls, g⟩ A0 H σ env ∧ R.ok g s H ∧ PostT R ⟨K, cls, g⟩ H ((ev Γ ie env >>= truth) s) Q
theorem SE.pe {e : Expr} {ie : IE} (h : SE R cls Γ X e ie) : PE X e (rdE R cls Γ X.K ie) := by
  obtain ⟨t, p, q⟩ := h
  exact ⟨fun pins s σ H Q I ⟨g, A0, env, s', k, o, z⟩ => p.run pins s σ H Q I (q σ H Q g A0 env s' k o z)⟩
theorem ST.pt {e : Expr} {ie : IE} (h : ST R cls Γ X e ie) : PT X e (rdT R cls Γ X.K ie) := by
  obtain ⟨t, p, q⟩ := h
  exact ⟨fun pins s σ H Q I ⟨g, A0, env, s', k, o, z⟩ => p.run pins s σ H Q I (q σ H Q g A0 env s' k o z)⟩
theorem filtL_nil {p : D → M R.S Bool} {f : D → M R.S D} {s s2 : R.S} {r : List D} (h : filtL p f [] s = .ok r s2) : r = [] ∧ s = s2 := by
  obtain ⟨a, b⟩ := ok_inj (show (Res.ok [] s : Res R.S (List D)) = .ok r s2 from h)
  exact ⟨a.symm, b⟩
theorem filtL_cons {p : D → M R.S Bool} {f : D → M R.S D} {d : D} {ds : List D} {s s2 : R.S} {r : List D} (h : filtL p f (d :: ds) s = .ok r s2) :
    ∃ b s1, p d s = .ok b s1 ∧ ((b = true ∧ ∃ x s3 r', f d s1 = .ok x s3 ∧ filtL p f ds s3 = .ok r' s2 ∧ r = x :: r') ∨ (b = false ∧ filtL p f ds s1 = .ok r s2)) := by
  unfold filtL at h
  obtain ⟨b, s1, e1, h⟩ := bind_ok h
  refine ⟨b, s1, e1, ?_⟩
  cases b with
  | true =>
    rw [if_pos rfl] at h
    obtain ⟨x, s3, e2, h⟩ := bind_ok h
    obtain ⟨r', s4, e3, h⟩ := bind_ok h
    obtain ⟨a, b⟩ := ok_inj (show (Res.ok (x :: r') s4 : Res R.S (List D)) = .ok r s2 from h)
    subst a b
    exact .inl ⟨rfl, x, s3, r', e2, e3, rfl⟩
  | false =>
    rw [if_neg Bool.false_ne_true] at h
    exact .inr ⟨rfl, h⟩
theorem mapL_filt {f : D → M R.S D} : ∀ l, mapL f l = filtL (fun _ => pure true) f l
  | [] => rfl
  | d :: ds => by
    unfold mapL filtL
    rw [pure_bind', if_pos rfl, mapL_filt ds]
theorem Ext.over {W : Addr → Prop} {H H' : Hp} {p : Addr} {u : HO} (e : Ext W H H') (hp : H p = none) : Ext W H (upd H' p u) := fun b o h w => by
  rw [upd_ne (ne_of_none h hp)]
  exact e b o h w
/-- a new object to be kept apart -/
theorem EnvOk.plus {c : Rc} {A0 : Addr → Prop} {H H' : Hp} {σ : L2.St} {env : IEnv} {p : Addr} (k : EnvOk c A0 H σ env) (hp : H p = none) (e : Ext (Gv c) H H') (hg : ∀ a, Gv c a → H' a ≠ none) (hp' : H' p ≠ none) : EnvOk c (Plus A0 p) H' σ env := by
  have n : ∀ a, Av (Plus A0 p) env σ a → Av A0 env σ a ∨ H a = none := fun a h => by
    rcases h with (h | h) | h
    · exact .inl (.inl h)
    · rw [h]; exact .inr hp
    · exact .inl (.inr h)
  refine ⟨k.len, fun a h => ?_, fun a h => .inl (k.g a h), fun i d h => ?_, fun i d h => ?_, fun i d f h hf => ?_, k.inj⟩
  · rcases h with h | h
    · by_cases hw : Gv c a
      · exact hg a hw
      · exact e.some (k.tr a h) hw
    · rw [h]; exact hp'
  · obtain ⟨v, e1, e2⟩ := k.frz i d h
    exact ⟨v, e1, Rp.mono e k.gA n d v e2⟩
  · obtain ⟨v, e1, e2⟩ := k.lent i d h
    refine ⟨v, e1, ?_⟩
    rcases e2 with e2 | ⟨a, q1, q2, q3, q4⟩
    · exact .inl (Rp.mono e k.gA n d v e2)
    · exact .inr ⟨a, q1, q2, q3, q4.mono e k.gA n q2⟩
  · obtain ⟨a, e1, e2, e3⟩ := k.hld i d f h hf
    refine ⟨a, e1, fun z => ?_, e3.mono e k.gA n fun z => e2 (k.g a z)⟩
    rcases z with z | z
    · exact e2 z
    · exact e3.there (by rw [z]; exact hp)
/-- the test, then the item -/
theorem lc_run {c : Rc} {A0 : Addr → Prop} {env : IEnv} {σ : L2.St} {i : Nat} {s2 : R.S} {body : IE} {tt : TT} {p : D → M R.S Bool} {xs : List V} {l : List D} {r : List D} {H1 : Hp} {D0 : Addr} {Q : VK} (hok : okSlot env i = true) (hb : md body ≠ .bor)
    (htt : ∀ (A0 : Addr → Prop) (d : D) (v : V) (s s1 : R.S) (b : Bool) (H : Hp) (K : Bool → Hp → Prop), EnvOk c A0 H (σ.set i (some v)) (put env i d .frz) → R.ok c.g s H → p d s = .ok b s1 → (∀ H', Ext (Gv c) H H' → R.ok c.g s1 H' → K b H') → tt (σ.set i (some v)) H K)
    (k1 : EnvOk c A0 H1 σ env) (hx : Rps c (Av A0 env σ) H1 l xs) (hlen : l.length ≤ sizeLine) (hD : H1 D0 = none) {s1 : R.S} (o1 : R.ok c.g s1 H1) (hrun : filtL p (fun d => ev Γ body (put env i d .frz)) l s1 = .ok r s2)
    (hq : ∀ H' ws, Ext (Gv c) H1 H' → R.ok c.g s2 H' → H' D0 = some (.lst ws) → r.length ≤ sizeLine → Rps c (Plus (Av A0 env σ) D0) H' r ws → Q (.ref D0) H')
    {P : Prop}
    (hP : ∀ Pv : Nat → Hp → Prop, Pv 0 (upd H1 D0 (.lst [])) → (∀ n H, n ≤ xs.length → Pv n H → Ext (Gv c) H1 H) → (∀ n x H, xs[n]? = some x → Pv n H → gName i x (wipe σ [i]) H fun σ2 H2 => wipe σ2 [i] = wipe σ [i] ∧ tt σ2 H2 fun b H3 =>
      if b = true then rdE R cls Γ c.K body σ2 H3 fun y H4 => ∃ acc, H4 D0 = some (.lst acc) ∧ acc.length < sizeLine ∧ Pv (n + 1) (upd H4 D0 (.lst (acc ++ [y]))) else Pv (n + 1) H3) → (∀ H, Pv xs.length H → Q (.ref D0) H) → P) (hcls : c.cls = cls) : P := by
  have hxl : xs.length = l.length := hx.length
  have nG : ¬ Gv c D0 := fun z => k1.gTr _ z hD
  have lift : ∀ {H : Hp} {s : R.S}, Ext (Gv c) H1 H → R.ok c.g s H → H D0 ≠ none → EnvOk c (Plus A0 D0) H σ env := fun {H s} x o h => k1.plus hD x (fun a ha => by
    obtain ⟨u, h, _⟩ := R.there o a ha
    rw [h]; simp) h
  have n0 : ∀ a, Av (Plus A0 D0) env σ a → Av A0 env σ a ∨ H1 a = none := fun a h => by
    rcases h with (h | h) | h
    · exact .inl (.inl h)
    · rw [h]; exact .inr hD
    · exact .inl (.inr h)
  refine hP (fun n H' => ∃ rs ws s r', H' D0 = some (.lst ws) ∧ Rps c (Av (Plus A0 D0) env σ) H' rs ws ∧ rs.length ≤ n ∧ Ext (Gv c) H1 H' ∧ R.ok c.g s H' ∧ filtL p (fun d => ev Γ body (put env i d .frz)) (l.drop n) s = .ok r' s2 ∧ r = rs ++ r') ?_ ?_ ?_ ?_
  · exact ⟨[], [], s1, r, upd_same, rfl, Nat.le_refl _, Ext.new hD, RS.new o1 hD, by rw [List.drop_zero]; exact hrun, rfl⟩
  · rintro n H _ ⟨_, _, _, _, _, _, _, x, _⟩
    exact x
  · rintro n x H hn ⟨rs, ws, s, r', e1, e2, e3, e4, e5, e6, e7⟩
    obtain ⟨d, hd, rd⟩ := hx.get hn
    have k2 := lift e4 e5 (by rw [e1]; simp)
    have rd2 := Rp.mono e4 k1.gA n0 d x rd
    have k3 := k2.put (i := i) rd2
    have hl : l.drop n = d :: l.drop (n + 1) := by
      rw [List.drop_eq_getElem_cons (List.getElem?_eq_some_iff.mp hd).1, (List.getElem?_eq_some_iff.mp hd).2]
    have hnl : n < l.length := (List.getElem?_eq_some_iff.mp hd).1
    rw [hl] at e6
    have hσ : (wipe σ [i]).set i (some x) = σ.set i (some x) := by
      show ((σ.set i none).set i (some x)) = _
      rw [List.set_set]
    show wipe ((wipe σ [i]).set i (some x)) [i] = wipe σ [i] ∧ _
    rw [hσ]
    refine ⟨by show (σ.set i (some x)).set i none = σ.set i none; rw [List.set_set], ?_⟩
    obtain ⟨b, s3, f1, f2⟩ := filtL_cons e6
    refine htt _ d x s s3 b H _ k3 e5 f1 fun H3 x3 o3 => ?_
    have D3 : H3 D0 = some (.lst ws) := x3 _ _ e1 (.inl nG)
    rcases f2 with ⟨rfl, y, s4, r2, g1, g2, g3⟩ | ⟨rfl, g2⟩
    · rw [if_pos rfl]
      have k4 : EnvOk c (Plus A0 D0) H3 (σ.set i (some x)) (put env i d .frz) := k3.ext x3 fun a ha => by
        obtain ⟨u, h, _⟩ := R.there o3 a ha
        rw [h]; simp
      obtain ⟨cK, ccls, cg⟩ := c
      subst hcls
      refine ⟨cg, Plus A0 D0, put env i d .frz, s3, k4, o3, ?_⟩
      rw [g1]
      intro w H4 x4 o4 r4
      have r4 := r4.rp hb k4.trA
      have D4 : H4 D0 = some (.lst ws) := x4 _ _ D3 (.inl nG)
      have hws : ws.length < sizeLine := by rw [e2.length]; omega
      have aw : Ext (fun a => Gv ⟨cK, ccls, cg⟩ a ∨ a = D0) H4 (upd H4 D0 (.lst (ws ++ [w]))) := Ext.put (.inr rfl) D4 id
      have ga : ∀ a, (Gv ⟨cK, ccls, cg⟩ a ∨ a = D0) → Av (Plus A0 D0) env σ a := fun a h => h.elim (fun h => .inl (.inl (k1.g a h))) fun h => .inl (.inr h)
      have ga0 : ∀ a, Gv ⟨cK, ccls, cg⟩ a → Av (Plus A0 D0) env σ a := fun a h => ga a (.inl h)
      refine ⟨ws, D4, hws, rs ++ [y], ws ++ [w], s4, r2, upd_same, ?_, by rw [List.length_append, List.length_singleton]; omega, ?_, ?_, g2, by rw [List.append_assoc]; exact e7.trans (by rw [g3]; rfl)⟩
      · refine ((e2.ext x3 ga0).ext x4 ga0).ext aw ga |>.append (.one ?_)
        refine Rp.mono aw (fun a h => ?_) (fun a h => .inl ?_) y w r4
        · rcases ga a h with h | h
          · exact .inl h
          · exact .inr (held_put hok h)
        · rcases h with h | h
          · exact .inl h
          · exact .inr (held_put hok h)
      · exact ((e4.trans x3).trans x4).over hD
      · exact R.stay (fun a ha o e => by rw [upd_ne (fun z => nG (by rw [← z]; exact ha))]; exact e) o4
    · rw [if_neg Bool.false_ne_true]
      exact ⟨rs, ws, s3, r', D3, e2.ext x3 (fun a h => .inl (.inl (k1.g a h))), by omega, e4.trans x3, o3, g2, e7⟩
  · rintro H ⟨rs, ws, s, r', e1, e2, e3, e4, e5, e6, e7⟩
    rw [hxl, List.drop_length] at e6
    obtain ⟨z1, z2⟩ := filtL_nil e6
    subst z1 z2
    rw [List.append_nil] at e7
    subst e7
    exact hq H ws e4 e5 e1 (by omega) (Rps.mono (Ext.refl (W := fun _ => False)) (fun _ z => z.elim) (fun a h => .inl (h.elim (fun h => h.elim (fun h => .inl (.inl h)) .inr) (fun h => .inl (.inr h)))) _ _ e2)
end
section
variable {R : RS} {cls : Str → Addr} {Γ : Gm R.S} {X : Cx}
theorem seqOf_le {d : D} {l : List D} {c : Rc} {A : Addr → Prop} {H : Hp} {v : V} (hg : ∀ a, Gv c a → A a) (h : seqOf d = some l) (r : Lb c A H d v) :
    l.length ≤ sizeLine ∧ ∃ a xs, v = .ref a ∧ Rps c A H l xs ∧ ((H a = some (.lst xs) ∧ ¬ Gv c a) ∨ SqT c.K H a xs) := by
  cases d with
  | lst l' =>
    cases h
    obtain ⟨a, xs, e1, e2, e3, e4, e5⟩ := r.lst hg
    exact ⟨e3, a, xs, e1, e4, .inl ⟨e2, e5⟩⟩
  | tup l' =>
    have h : (if l'.length ≤ sizeLine then some l' else none) = some l := h
    split at h
    · cases h
      obtain ⟨a, xs, e1, e2, e4⟩ := r.tup
      exact ⟨by assumption, a, xs, e1, e4, .inr e2⟩
    · cases h
  | _ => cases h
/-- a comprehension: as a value, and stored within its own block -/
def SL (R : RS) (cls : Str → Addr) (Γ : Gm R.S) (X : Cx) (e : Expr) (ie : IE) : Prop :=
  ∃ t, PE X e t ∧ (∀ {y : Str} {py spos : Pos} {i : Nat}, X.N[i]? = some y → X.env.scope.names.lookup y = some .local → swapsWith e (some (.Name y py)) spos.line X.env = pure true → PS X (.Assign [.Name y py] e spos) (tAsg t (gName i))) ∧
    ∀ σ H Q g A0 env s, EnvOk (rc cls X g) A0 H σ env → R.ok g s H → PostE R (md ie) (rc cls X g) (Av A0 env σ) H (ev Γ ie env s) Q → t σ H Q
theorem SL.se {e : Expr} {ie : IE} (h : SL R cls Γ X e ie) : SE R cls Γ X e ie := by
  obtain ⟨t, a, _, b⟩ := h
  exact ⟨t, a, b⟩
theorem sl_lc0 {elt iter : Expr} {ifs : List Expr} {scope : Scope} {pos tpos : Pos} {x : Str} {i : Nat} {src body ie : IE} {tt : TT} {p : IEnv → D → M R.S Bool} (hm : md ie = .fr)
    (hev : ∀ env, ev Γ ie env = (ev Γ src env >>= fun d => opt (seqOf d) >>= fun l => if okSlot env i = true then calm (filtL (p env) (fun d => ev Γ body (put env i d .frz)) l) >>= fun r => pure (.lst r) else bad))
    (hc : X.calm = true) (hN : X.N.Nodup) (ok : BlkOk X.N X.env.scope scope [(x, i)]) (hi : SE R cls Γ X iter src) (hix : X.N[i]? = some x)
    (hl : (relS scope X.env.scope).names.lookup x = some .local)
    (htt : ∀ (s : Shared) (H : Hp) (C : Addr) (cl : List (Str × Addr)) (fp : List Addr), PTs (X.blk s H scope (compEnvC scope cl C X.env) fp) ifs tt)
    (ht2 : ∀ (g : List Addr) (A0 : Addr → Prop) (σ : L2.St) (env : IEnv) (d : D) (v : V) (s s1 : R.S) (b : Bool) (H : Hp) (K : Bool → Hp → Prop), EnvOk (rc cls X g) A0 H (σ.set i (some v)) (put env i d .frz) → R.ok g s H → p env d s = .ok b s1 → (∀ H', Ext (Gv (rc cls X g)) H H' → R.ok g s1 H' → K b H') → tt (σ.set i (some v)) H K)
    (he : ∀ (s : Shared) (H : Hp) (C : Addr) (cl : List (Str × Addr)) (fp : List Addr), SE R cls Γ (X.blk s H scope (compEnvC scope cl C X.env) fp) elt body) (hb : md body ≠ .bor) (hs : ∀ x, foldedSetIterable iter X.env x = pure x) :
    SL R cls Γ X (.ListComp elt [⟨.Name x tpos, iter, ifs, 0⟩] scope pos) ie := by
  obtain ⟨t, pe, q⟩ := hi
  refine ⟨_, pe_lc (own := [(x, i)]) (g := gName i) (tt := tt) (te := rdE R cls Γ X.K body) hc hN (pi_seq pe) ok (fun s H C cl fp => pg_name (i := i) hN hix (.inl hl) (.inr hl)) htt (fun s H C cl fp => (he s H C cl fp).pe) hs, fun hy hyl hsw => ps_setLc (own := [(x, i)]) (g := gName i) (tt := tt) (te := rdE R cls Γ X.K body) hc hN hy hyl hsw (pi_seq pe) ok (fun s H C cl fp => pg_name (i := i) hN hix (.inl hl) (.inr hl)) htt (fun s H C cl fp => (he s H C cl fp).pe) hs, fun σ H Q g A0 env s k o h => ?_⟩
  rw [hev, hm] at h
  refine SE.bindE q k o h fun d s1 v H1 x1 o1 r1 k1 h => ?_
  obtain ⟨l, hl', h2⟩ := opt_ofE h
  clear h
  by_cases hok : okSlot env i = true
  · rw [if_pos hok] at h2
    rw [bind_def] at h2
    unfold calm at h2
    cases hrun : filtL (p env) (fun d => ev Γ body (put env i d .frz)) l s1 with
    | bad => rw [hrun] at h2; exact h2.elim
    | er _ _ _ => rw [hrun] at h2; exact h2.elim
    | ok r s2 =>
      rw [hrun] at h2
      obtain ⟨hlen, a, xs, e1, e2, e3⟩ := seqOf_le k.gA hl' (r1.lb k.gA k.trA)
      have fin : ∀ {D0 : Addr}, H1 D0 = none → ∀ H' ws, Ext (Gv (rc cls X g)) H1 H' → R.ok g s2 H' → H' D0 = some (.lst ws) → r.length ≤ sizeLine → Rps (rc cls X g) (Plus (Av A0 env σ) D0) H' r ws → Q (.ref D0) H' := fun {D0} hD H' ws x o h1 h3 h4 =>
        h2 (.ref D0) H' (x1.trans x) o (.inr ⟨D0, rfl, x1.back k1.gTr hD, ws, h1, h3, h4⟩)
      refine ⟨a, e1, ?_⟩
      rcases e3 with ⟨e3, e4⟩ | e3
      · refine .inl ⟨⟨xs, .inl (.inl e3)⟩, fun D0 hD => ?_⟩
        exact lc_run (c := rc cls X g) hok hb (fun A0 => ht2 g A0 σ env) k1 e2 hlen hD o1 hrun (fin hD) (fun Pv h0 hx hs hd => lc_list (K := X.K) (a := a) (xs := xs) Pv h0 (fun n H hn hp => .inl (.inl (hx n H hn hp a _ e3 (.inl e4)))) hs hd) rfl
      · refine .inr ⟨⟨xs, e3⟩, fun D0 hD => ?_⟩
        exact lc_run (c := rc cls X g) hok hb (fun A0 => ht2 g A0 σ env) k1 e2 hlen hD o1 hrun (fin hD) (fun Pv h0 hx hs hd => lc_tup (K := X.K) (a := a) (xs := xs) Pv h0 (fun n H hn hp => (hx n H hn hp).sqt e3) hs hd) rfl
  · rw [if_neg hok] at h2
    exact h2.elim
theorem sl_lc {elt iter : Expr} {scope : Scope} {pos tpos : Pos} {x : Str} {i : Nat} {src body : IE}
    (hc : X.calm = true) (hN : X.N.Nodup) (ok : BlkOk X.N X.env.scope scope [(x, i)]) (hi : SE R cls Γ X iter src) (hix : X.N[i]? = some x) (hl : (relS scope X.env.scope).names.lookup x = some .local)
    (he : ∀ (s : Shared) (H : Hp) (C : Addr) (cl : List (Str × Addr)) (fp : List Addr), SE R cls Γ (X.blk s H scope (compEnvC scope cl C X.env) fp) elt body) (hb : md body ≠ .bor) (hs : ∀ x, foldedSetIterable iter X.env x = pure x) :
    SL R cls Γ X (.ListComp elt [⟨.Name x tpos, iter, [], 0⟩] scope pos) (.lc i src body) :=
  sl_lc0 (tt := tYes) (p := fun _ _ => pure true) rfl (fun env => by
    conv => lhs; unfold ev
    simp only [mapL_filt]) hc hN ok hi hix hl (fun _ _ _ _ _ => pts_nil) (fun g A0 σ env d v s s1 b H K k o h hK => by
    obtain ⟨a, b'⟩ := ok_inj (show (Res.ok true s : Res R.S Bool) = .ok b s1 from h)
    subst a b'
    exact hK H Ext.refl o) he hb hs
theorem sl_lci {elt iter cond : Expr} {scope : Scope} {pos tpos : Pos} {x : Str} {i : Nat} {src body ic : IE}
    (hc : X.calm = true) (hN : X.N.Nodup) (ok : BlkOk X.N X.env.scope scope [(x, i)]) (hi : SE R cls Γ X iter src) (hix : X.N[i]? = some x) (hl : (relS scope X.env.scope).names.lookup x = some .local)
    (ht : ∀ (s : Shared) (H : Hp) (C : Addr) (cl : List (Str × Addr)) (fp : List Addr), ST R cls Γ (X.blk s H scope (compEnvC scope cl C X.env) fp) cond ic)
    (he : ∀ (s : Shared) (H : Hp) (C : Addr) (cl : List (Str × Addr)) (fp : List Addr), SE R cls Γ (X.blk s H scope (compEnvC scope cl C X.env) fp) elt body) (hb : md body ≠ .bor) (hs : ∀ x, foldedSetIterable iter X.env x = pure x) :
    SL R cls Γ X (.ListComp elt [⟨.Name x tpos, iter, [cond], 0⟩] scope pos) (.lci i src ic body) :=
  sl_lc0 (tt := rdT R cls Γ X.K ic) (p := fun env d => ev Γ ic (put env i d .frz) >>= truth) rfl (fun env => by
    conv => lhs; unfold ev) hc hN ok hi hix hl (fun s H C cl fp => pts_one (ht s H C cl fp).pt) (fun g A0 σ env d v s s1 b H K k o h hK => by
    refine ⟨g, A0, _, s, k, o, ?_⟩
    rw [h]
    exact hK) he hb hs
theorem se_lc {elt iter : Expr} {scope : Scope} {pos tpos : Pos} {x : Str} {i : Nat} {src body : IE}
    (hc : X.calm = true) (hN : X.N.Nodup) (ok : BlkOk X.N X.env.scope scope [(x, i)]) (hi : SE R cls Γ X iter src) (hix : X.N[i]? = some x) (hl : (relS scope X.env.scope).names.lookup x = some .local)
    (he : ∀ (s : Shared) (H : Hp) (C : Addr) (cl : List (Str × Addr)) (fp : List Addr), SE R cls Γ (X.blk s H scope (compEnvC scope cl C X.env) fp) elt body) (hb : md body ≠ .bor) (hs : ∀ x, foldedSetIterable iter X.env x = pure x) :
    SE R cls Γ X (.ListComp elt [⟨.Name x tpos, iter, [], 0⟩] scope pos) (.lc i src body) :=
  (sl_lc hc hN ok hi hix hl he hb hs).se
theorem se_lci {elt iter cond : Expr} {scope : Scope} {pos tpos : Pos} {x : Str} {i : Nat} {src body ic : IE}
    (hc : X.calm = true) (hN : X.N.Nodup) (ok : BlkOk X.N X.env.scope scope [(x, i)]) (hi : SE R cls Γ X iter src) (hix : X.N[i]? = some x) (hl : (relS scope X.env.scope).names.lookup x = some .local)
    (ht : ∀ (s : Shared) (H : Hp) (C : Addr) (cl : List (Str × Addr)) (fp : List Addr), ST R cls Γ (X.blk s H scope (compEnvC scope cl C X.env) fp) cond ic)
    (he : ∀ (s : Shared) (H : Hp) (C : Addr) (cl : List (Str × Addr)) (fp : List Addr), SE R cls Γ (X.blk s H scope (compEnvC scope cl C X.env) fp) elt body) (hb : md body ≠ .bor) (hs : ∀ x, foldedSetIterable iter X.env x = pure x) :
    SE R cls Γ X (.ListComp elt [⟨.Name x tpos, iter, [cond], 0⟩] scope pos) (.lci i src ic body) :=
  (sl_lci hc hN ok hi hix hl ht he hb hs).se
/-- list(range(a, b)), list(range(b)) -/
theorem rng_rps {c : Rc} {A : Addr → Prop} {H : Hp} (a b : Int) : Rps c A H (rngL a b) (rgV a b) := by
  unfold rngL rgV
  generalize List.range (b - a).toNat = l
  induction l with
  | nil => exact rfl
  | cons n l ih => exact ⟨_, _, rfl, rfl, ih⟩
theorem se_lrng {a b : Expr} {ia ib : IE} {p p2 pos pos2 : Pos} (hc : X.calm = true) (hg : Gl X "range") (hm : X.mg "range" = none) (hg2 : Gl X "list") (hm2 : X.mg "list" = none) (h1 : SE R cls Γ X a ia) (h2 : SE R cls Γ X b ib) (n1 : noStar a = true) (n2 : noStar b = true) :
    SE R cls Γ X (.Call (.Name "list" p) [.Call (.Name "range" p2) [a, b] [] pos2] [] pos) (.lrng ia ib) := by
  obtain ⟨t1, p1, q1⟩ := h1
  obtain ⟨t2, p2', q2⟩ := h2
  refine ⟨_, pe_listRg hc hg2 hm2 (prg_2 hg hm p1 p2' (star_cons n1) (star_cons n2) (by rw [star_cons n2]; rfl)), fun σ H Q g A0 env s k o h => ?_⟩
  unfold ev at h
  refine SE.bindE q1 k o h fun d s1 v H1 x1 o1 r1 k1 h => ?_
  refine SE.bindE q2 k1 o1 h fun e s2 w H2 x2 o2 r2 k2 h => ?_
  cases d with
  | int i =>
    cases e with
    | int j =>
      have h : PostE R (md (.lrng ia ib)) (rc cls X g) (Av A0 env σ) H ((if -(2 ^ 62) ≤ i ∧ i < 2 ^ 62 ∧ -(2 ^ 62) ≤ j ∧ j < 2 ^ 62 ∧ (j - i).toNat ≤ 16777216 then (pure (.lst (rngL i j)) : M R.S D) else bad) s2) Q := h
      split at h
      · rename_i z
        refine ⟨i, j, Rm.flat r1 rfl, Rm.flat r2 rfl, ⟨z.1, z.2.1, z.2.2.1, z.2.2.2.1, z.2.2.2.2⟩, fun q hq => ?_⟩
        have l : (rngL i j).length ≤ sizeLine := by
          unfold rngL
          rw [List.length_map, List.length_range, sizeLine_eq]
          exact z.2.2.2.2
        exact h _ _ ((x1.trans x2).trans (Ext.new hq)) (RS.new o2 hq) (.inr ⟨q, rfl, (x1.trans x2).back k2.gTr hq, _, upd_same, l, rng_rps i j⟩)
      · exact h.elim
    | _ => exact h.elim
  | _ => exact h.elim

/-- over a range -/
theorem rgV_get {a b : Int} {n : Nat} (h : n < (b - a).toNat) : (rgV a b)[n]? = some (.int (a + (n : Nat))) := by
  unfold rgV
  rw [List.getElem?_map, List.getElem?_range h]
  rfl
theorem rgV_len {a b : Int} : (rgV a b).length = (b - a).toNat := by
  unfold rgV
  rw [List.length_map, List.length_range]
theorem sl_lcr0 {elt iter : Expr} {ifs : List Expr} {scope : Scope} {pos tpos : Pos} {x : Str} {i : Nat} {ia ib ic body : IE} {tt : TT} {wi : TI}
    (hc : X.calm = true) (hN : X.N.Nodup) (ok : BlkOk X.N X.env.scope scope [(x, i)]) (pi : PI X (.Name x tpos) iter wi) (hix : X.N[i]? = some x)
    (hwi : ∀ {σ : L2.St} {H : Hp} {g : List Addr} {A0 : Addr → Prop} {env : IEnv} {s : R.S} {f : Int × Int → M R.S D} {Q : VK} {W : It → Hp → Prop}, EnvOk (rc cls X g) A0 H σ env → R.ok g s H → PostE R .fr (rc cls X g) (Av A0 env σ) H ((ev Γ ia env >>= fun x => ev Γ ib env >>= fun y => opt (rngOf x y) >>= f) s) Q →
      (∀ (a b : Int) (s1 : R.S) (H1 : Hp), Ext (Gv (rc cls X g)) H H1 → R.ok g s1 H1 → EnvOk (rc cls X g) A0 H1 σ env → (b - a).toNat ≤ 16777216 → PostE R .fr (rc cls X g) (Av A0 env σ) H (f (a, b) s1) Q → W (Itr a (b - a).toNat) H1) → wi σ H W)
    (hl : (relS scope X.env.scope).names.lookup x = some .local)
    (htt : ∀ (s : Shared) (H : Hp) (C : Addr) (cl : List (Str × Addr)) (fp : List Addr), PTs (X.blk s H scope (compEnvC scope cl C X.env) fp) ifs tt)
    (ht2 : ∀ (g : List Addr) (A0 : Addr → Prop) (σ : L2.St) (env : IEnv) (d : D) (v : V) (s s1 : R.S) (b : Bool) (H : Hp) (K : Bool → Hp → Prop), EnvOk (rc cls X g) A0 H (σ.set i (some v)) (put env i d .frz) → R.ok g s H → (ev Γ ic (put env i d .frz) >>= truth) s = .ok b s1 → (∀ H', Ext (Gv (rc cls X g)) H H' → R.ok g s1 H' → K b H') → tt (σ.set i (some v)) H K)
    (he : ∀ (s : Shared) (H : Hp) (C : Addr) (cl : List (Str × Addr)) (fp : List Addr), SE R cls Γ (X.blk s H scope (compEnvC scope cl C X.env) fp) elt body) (hb : md body ≠ .bor) (hs : ∀ x, foldedSetIterable iter X.env x = pure x) :
    SL R cls Γ X (.ListComp elt [⟨.Name x tpos, iter, ifs, 0⟩] scope pos) (.lcr i ia ib ic body) := by
  refine ⟨_, pe_lc (own := [(x, i)]) (g := gName i) (tt := tt) (te := rdE R cls Γ X.K body) hc hN pi ok (fun s H C cl fp => pg_name (i := i) hN hix (.inl hl) (.inr hl)) htt (fun s H C cl fp => (he s H C cl fp).pe) hs, fun hy hyl hsw => ps_setLc (own := [(x, i)]) (g := gName i) (tt := tt) (te := rdE R cls Γ X.K body) hc hN hy hyl hsw pi ok (fun s H C cl fp => pg_name (i := i) hN hix (.inl hl) (.inr hl)) htt (fun s H C cl fp => (he s H C cl fp).pe) hs, fun σ H Q g A0 env s k o h => ?_⟩
  unfold ev at h
  refine hwi k o h fun a b s1 H1 x1 o1 k1 hlen h2 => ?_
  by_cases hok : okSlot env i = true
  · rw [if_pos hok] at h2
    rw [bind_def] at h2
    unfold calm at h2
    cases hrun : filtL (fun d => ev Γ ic (put env i d .frz) >>= truth) (fun d => ev Γ body (put env i d .frz)) (rngL a b) s1 with
    | bad => rw [hrun] at h2; exact h2.elim
    | er _ _ _ => rw [hrun] at h2; exact h2.elim
    | ok r s2 =>
      rw [hrun] at h2
      have fin : ∀ {D0 : Addr}, H1 D0 = none → ∀ H' ws, Ext (Gv (rc cls X g)) H1 H' → R.ok g s2 H' → H' D0 = some (.lst ws) → r.length ≤ sizeLine → Rps (rc cls X g) (Plus (Av A0 env σ) D0) H' r ws → Q (.ref D0) H' := fun {D0} hD H' ws x o h1 h3 h4 =>
        h2 (.ref D0) H' (x1.trans x) o (.inr ⟨D0, rfl, x1.back k1.gTr hD, ws, h1, h3, h4⟩)
      have hln : (rngL a b).length ≤ sizeLine := by
        unfold rngL
        rw [List.length_map, List.length_range, sizeLine_eq]
        exact hlen
      refine fun D0 hD => ?_
      exact lc_run (c := rc cls X g) (xs := rgV a b) hok hb (fun A0 => ht2 g A0 σ env) k1 (rng_rps a b) hln hD o1 hrun (fin hD) (fun Pv h0 hx hs hd => lc_range Pv h0 (fun n H hn hp => hs n _ H (rgV_get hn) hp) (fun H hp => hd H (by rw [rgV_len]; exact hp))) rfl
  · rw [if_neg hok] at h2
    exact h2.elim

/-- slices -/
def SO (R : RS) (cls : Str → Addr) (Γ : Gm R.S) (X : Cx) (e : Option Expr) (b : Bool) (ie : IE) : Prop :=
  ∃ t, PO X e t ∧ ∀ {σ : L2.St} {H : Hp} {g : List Addr} {A0 : Addr → Prop} {env : IEnv} {s : R.S} {m : Md} {H0 : Hp} {A1 : Addr → Prop} {f : Option Int → M R.S D} {Q : VK} {K : Option Int → Hp → Prop}, EnvOk (rc cls X g) A0 H σ env → R.ok g s H → PostE R m (rc cls X g) A1 H0 ((evPart b (ev Γ ie env) >>= f) s) Q →
    (∀ (o : Option Int) (s1 : R.S) (H1 : Hp), Ext (Gv (rc cls X g)) H H1 → R.ok g s1 H1 → EnvOk (rc cls X g) A0 H1 σ env → PostE R m (rc cls X g) A1 H0 (f o s1) Q → K o H1) → t σ H K
theorem so_none {ie : IE} : SO R cls Γ X none false ie := by
  refine ⟨tNoPart, po_none, fun {σ H g A0 env s m H0 A1 f Q K} k o h hK => ?_⟩
  exact hK none s H Ext.refl o k h
theorem so_some {e : Expr} {ie : IE} (h : SE R cls Γ X e ie) : SO R cls Γ X (some e) true ie := by
  obtain ⟨t, pe, q⟩ := h
  refine ⟨_, po_some pe, fun {σ H g A0 env s m H0 A1 f Q K} k o h hK => ?_⟩
  have h : PostE R m (rc cls X g) A1 H0 (((ev Γ ie env >>= fun d => (match d with | .int i => pure (some i) | _ => bad : M R.S (Option Int))) >>= f) s) Q := h
  rw [bind_assoc'] at h
  refine SE.bindE q k o h fun d s1 v H1 x1 o1 r1 k1 h => ?_
  cases d with
  | int i => exact ⟨i, Rm.flat r1 rfl, hK (some i) s1 H1 x1 o1 k1 h⟩
  | _ => exact h.elim
theorem cutV_rps {c : Rc} {A : Addr → Prop} {H : Hp} {ds : List D} {vs : List V} (h : Rps c A H ds vs) (lo hi : Option Int) : Rps c A H (cutD ds lo hi) (cutV vs lo hi) := by
  unfold cutD cutV
  rw [h.length]
  exact (h.drop _).take _
theorem cutD_length {α : Type} (xs : List α) (lo hi : Option Int) : (cutD xs lo hi).length ≤ xs.length := by
  unfold cutD
  rw [List.length_take, List.length_drop]
  omega
theorem scr_rps {c : Rc} {A : Addr → Prop} {H : Hp} : ∀ (ns : List Int), Rps c A H (ns.map D.int) (ns.map V.int)
  | [] => rfl
  | n :: ns => ⟨_, _, rfl, rfl, scr_rps ns⟩
theorem se_slc {a : Expr} {lo hi : Option Expr} {bl bh : Bool} {ia il ih : IE} {p2 pos : Pos} (h1 : SE R cls Γ X a ia) (h2 : SO R cls Γ X lo bl il) (h3 : SO R cls Γ X hi bh ih) : SE R cls Γ X (.Subscript a (.Slice lo hi none p2) pos) (.slc bl bh ia il ih) := by
  obtain ⟨t1, p1, q1⟩ := h1
  obtain ⟨t2, p2', q2⟩ := h2
  obtain ⟨t3, p3', q3⟩ := h3
  refine ⟨_, pe_slice (sl_list.or (sl_tupA.or sl_str)) p1 p2' p3', fun σ H Q g A0 env s k o h => ?_⟩
  unfold ev at h
  refine SE.bindE q1 k o h fun d s1 v H1 x1 o1 r1 k1 h => ?_
  refine q2 k1 o1 h fun l s2 H2 x2 o2 k2 h => ?_
  refine q3 k2 o2 h fun u s3 H3 x3 o3 k3 h => ?_
  obtain ⟨z, hz, hq⟩ := opt_ofE' h
  clear h
  have x13 := x2.trans x3
  have l1 := (r1.lb k.gA k.trA).mono x13 k.gA
  have x03 := x1.trans x13
  have new : ∀ {ds : List D} {vs : List V}, Rps (rc cls X g) (Av A0 env σ) H3 ds vs → ds.length ≤ sizeLine → z = .lst ds → ∀ p, H3 p = none → Q (.ref p) (upd H3 p (.lst vs)) := fun {ds vs} r hl e p hp => by
    subst e
    refine hq _ _ (x03.trans (Ext.new hp)) (RS.new o3 hp) (.inr ⟨p, rfl, x03.back k3.gTr hp, _, upd_same, hl, (r.plus hp).ext (Ext.new hp) fun a h => .inl (k.gA a h)⟩)
  cases d with
  | lst ds =>
    cases hz
    obtain ⟨p, xs, e1, e2, e3, e4, e5⟩ := l1.lst k.gA
    exact .inl ⟨p, xs, e1, .inl (.inl e2), new (cutV_rps e4 l u) (Nat.le_trans (cutD_length _ _ _) e3) rfl⟩
  | scr ns =>
    have hz : (if ns.length ≤ sizeLine then some (.lst ((cutD ns l u).map D.int)) else none) = some z := hz
    split at hz
    · rename_i hl
      cases hz
      have l2 : Rp (rc cls X g) (Av A0 env σ) H3 (.scr ns) v := l1.elim id fun ⟨_, _, _, z⟩ => z.elim
      obtain ⟨p, e1, e2⟩ := l2
      have e : cutV (ns.map V.int) l u = (cutD ns l u).map V.int := by
        unfold cutV cutD
        rw [List.length_map, List.map_take, List.map_drop]
      refine .inl ⟨p, _, e1, e2.sq, ?_⟩
      rw [e]
      exact new (scr_rps _) (by rw [List.length_map]; exact Nat.le_trans (cutD_length _ _ _) hl) rfl
    · cases hz
  | tup ds =>
    cases hz
    obtain ⟨p, xs, e1, e2, e4⟩ := l1.tup
    refine .inr (.inl ⟨p, xs, e1, e2, fun hw => ?_, fun hw p2 hp => ?_⟩)
    · refine hq _ _ x03 o3 (.inl ⟨rfl, p, xs, rfl, e2, ?_⟩)
      have e : cutD ds l u = ds := by
        unfold cutD
        rw [← e4.length, hw.1, hw.2, Nat.sub_zero, List.drop_zero, e4.length, List.take_length]
      rw [e]
      exact e4
    · refine hq _ _ (x03.trans (Ext.new hp)) (RS.new o3 hp) (.inl ⟨rfl, p2, _, rfl, .inl (.inl upd_same), (cutV_rps e4 l u).ext (Ext.new hp) k.gA⟩)
  | str y =>
    have hz : (if y.length ≤ sizeLine then some (D.str (cutS y l u)) else none) = some z := hz
    split at hz
    · rename_i hl
      cases hz
      exact .inr (.inr ⟨y, l1.str, hl, hq _ _ x03 o3 (Rm.of_flat rfl rfl)⟩)
    · cases hz
  | _ => cases hz
end
end Pv
end
section
set_option maxHeartbeats 200000
namespace Pv
open PySem PySem.Spec PyProof.Rows L2

/-! ### keywords -/
section
variable {R : RS} {cls : Str → Addr} {Γ : Gm R.S} {X : Cx}
/-- f(k = v, ..) -/
theorem pe_callN0 {CX : CXT} {k : Nat} {f : Addr} {fd : FuncData} {ps ks : List Str} {sp : Sp} {E : XK} {x : Str} {p pos : Pos} {kws : List Keyword} {tk : TA} {g : List Value → List Value → List Value} {gV : List V → List V → List V}
    (F : FnOk X.prog X.w X.K X.mg X.base CX k f fd ps sp) (hr : Room k X.A) (hg : Gl X x) (hm : X.mg x = some (.ref f)) (hk : PySem.W.keepIn X.K (.ref f) = true) (hb : KBn X.K fd ps 0 ks g gV) (hx : Passes CX X E)
    (hkw : PK X kws tk) (hall : (backToKw pos (keywordEach kws X.env)).all (·.1.isSome) = true) (hks : (backToKw pos (keywordEach kws X.env)).filterMap (·.1) = ks)
    (hdb : (x == ("__debug__" : Str)) = false) (hpl : ((backTo pos (starEach [] X.env)).any (·.1) || (backToKw pos (keywordEach kws X.env)).any (·.1.isNone)) = false) :
    PE X (.Call (.Name x p) [] kws pos) (tCallN 0 ks.length sp gV E tNil tk) := by
  refine ⟨fun pins s σ H Q I h => ?_⟩
  refine wpAny_Call_Name_kw (ld_glob I hg hm ?_ hdb)
  refine PySem.W.callWith_KW0 (h₀ := X.base) I.ok.mod.kin hk hall (thn (hkw.run pos pins s σ H _ I h) fun ws s2 ⟨zs, H2, I2, rz, l1, l2, q2⟩ => ⟨I2.kIn, ?_⟩) hpl
  rw [hks]
  exact run_fnN (us := []) F hr hb hx I2 .nil rz l1 l2 q2
def SK (R : RS) (cls : Str → Addr) (Γ : Gm R.S) (X : Cx) (es : List Keyword) (ies : List IE) : Prop :=
  ∃ t, PK X es t ∧ ∀ σ H Q g A0 env s, EnvOk (rc cls X g) A0 H σ env → R.ok g s H → PostA R ies (rc cls X g) (Av A0 env σ) H (evs Γ ies env s) Q → t σ H Q
theorem sk_nil : SK R cls Γ X [] [] := ⟨tNil, pk_nil, fun σ H Q g A0 env s k o h => h [] H Ext.refl o ⟨rfl, rfl⟩⟩
/-- the readings of lists, as a rule apart -/
theorem cons_ok {ie : IE} {ies : List IE} {t1 : TE} {t2 : TA} (q1 : ∀ σ H Q g A0 env s, EnvOk (rc cls X g) A0 H σ env → R.ok g s H → PostE R (md ie) (rc cls X g) (Av A0 env σ) H (ev Γ ie env s) Q → t1 σ H Q)
    (q2 : ∀ σ H Q g A0 env s, EnvOk (rc cls X g) A0 H σ env → R.ok g s H → PostA R ies (rc cls X g) (Av A0 env σ) H (evs Γ ies env s) Q → t2 σ H Q) :
    ∀ σ H Q g A0 env s, EnvOk (rc cls X g) A0 H σ env → R.ok g s H → PostA R (ie :: ies) (rc cls X g) (Av A0 env σ) H (evs Γ (ie :: ies) env s) Q → tCons t1 t2 σ H Q := fun σ H Q g A0 env s k o h => by
  refine q1 σ H _ g A0 env s k o ?_
  unfold evs at h
  rw [bind_def] at h
  cases q : ev Γ ie env s with
  | bad => rw [q] at h; exact h
  | er a b c => rw [q] at h; exact h
  | ok d s1 =>
    rw [q] at h
    dsimp only at h
    intro v H1 x1 o1 r1
    refine q2 σ H1 _ g A0 env s1 (k.next x1 o1) o1 ?_
    rw [bind_def] at h
    cases q' : evs Γ ies env s1 with
    | bad => rw [q'] at h; exact h
    | er a b c => rw [q'] at h; exact h
    | ok ds s2 =>
      rw [q'] at h
      intro vs H2 x2 o2 r2
      refine h _ H2 (x1.trans x2) o2 ⟨d, ds, v, vs, rfl, rfl, ?_, ?_⟩
      · split
        · exact (r1.lb k.gA k.trA).mono x2 k.gA
        · rename_i hm
          exact (r1.rp hm k.trA).ext x2 k.gA
      · have w : ∀ {es : List IE} {ds : List D} {vs : List V}, Rms (rc cls X g) (Av A0 env σ) H1 H2 es ds vs → Rms (rc cls X g) (Av A0 env σ) H H2 es ds vs := by
          intro es
          induction es with
          | nil => intro ds vs h; exact h
          | cons e es ih =>
            intro ds vs h
            obtain ⟨d, ds', v, vs', a1, a2, a3, a4⟩ := h
            exact ⟨d, ds', v, vs', a1, a2, a3, ih a4⟩
        exact w r2
theorem sk_cons {nm : Option Str} {e : Expr} {kpos : Pos} {es : List Keyword} {ie : IE} {ies : List IE} (h1 : SE R cls Γ X e ie) (h2 : SK R cls Γ X es ies) : SK R cls Γ X (⟨nm, e, kpos⟩ :: es) (ie :: ies) := by
  obtain ⟨t1, p1, q1⟩ := h1
  obtain ⟨t2, p2, q2⟩ := h2
  exact ⟨tCons t1 t2, pk_cons p1 p2, cons_ok q1 q2⟩
end
/-- a def that is called by keywords: n values by place, the others by name; perm: where each further parameter stands among the keywords -/
structure KwOk (R : RS) (cls : Str → Addr) (X : Cx) (x : Str) (sg : Sig) (F : List D → M R.S D) (n : Nat) (ks : List Str) (perm : List Nat) : Prop where
  mk ::
  ex : ∃ k f fd ps, X.mg x = some (.ref f) ∧ PySem.W.keepIn X.K (.ref f) = true ∧ KBn X.K fd ps n ks (fun us ws => us ++ perm.filterMap fun i => ws[i]?) (fun us ws => us ++ perm.filterMap fun i => ws[i]?) ∧ FnOk X.prog X.w X.K X.mg X.base CX0 k f fd ps (spF R X.K cls sg F) ∧ Room k X.A
def lbAll (es : List IE) : Bool := es.all fun e => decide (md e ≠ .bor)
section
variable {R : RS} {cls : Str → Addr} {Γ : Gm R.S} {X : Cx}
theorem rps_perm {c : Rc} {A : Addr → Prop} {H : Hp} {ds : List D} {vs : List V} (h : Rps c A H ds vs) : ∀ perm : List Nat, Rps c A H (perm.filterMap fun i => ds[i]?) (perm.filterMap fun i => vs[i]?)
  | [] => rfl
  | i :: r => by
    rw [List.filterMap_cons, List.filterMap_cons]
    cases q : ds[i]? with
    | none =>
      have l := h.length
      have z : vs[i]? = none := by
        rw [List.getElem?_eq_none_iff] at q ⊢
        omega
      rw [z]
      exact rps_perm h r
    | some d =>
      obtain ⟨v, e1, e2⟩ := h.getD q
      rw [e1]
      exact ⟨v, _, rfl, e2, rps_perm h r⟩
theorem args_rps {c : Rc} {A : Addr → Prop} {H : Hp} : ∀ {ls : List Bool} {ds : List D} {vs : List V}, Rps c A H ds vs → ls.length = ds.length → ArgsOk c A H ls ds vs
  | [], [], vs, h, _ => ⟨rfl, h⟩
  | [], _ :: _, _, _, e => by simp at e
  | _ :: _, [], _, _, e => by simp at e
  | l :: ls, d :: ds, vs, h, e => by
    obtain ⟨v, ws, rfl, h1, h2⟩ := h
    refine ⟨d, ds, v, ws, rfl, rfl, ?_, args_rps h2 (by simpa using e)⟩
    cases l with
    | true => exact .inl h1
    | false => exact h1
theorem kw_all {kws : List Keyword} {env : PySem.Env} {pos : Pos} (h : kws.all (fun k => k.1.isSome) = true) : (backToKw pos (keywordEach kws env)).all (·.1.isSome) = true ∧ (backToKw pos (keywordEach kws env)).any (·.1.isNone) = false ∧ (backToKw pos (keywordEach kws env)).filterMap (·.1) = kws.filterMap (·.1) := by
  induction kws with
  | nil => exact ⟨rfl, rfl, rfl⟩
  | cons k kws ih =>
    obtain ⟨nm, v, p⟩ := k
    rw [List.all_cons, Bool.and_eq_true] at h
    obtain ⟨a, b, c⟩ := ih h.2
    have h1 : nm.isSome = true := h.1
    refine ⟨?_, ?_, ?_⟩
    · show (nm.isSome && (backToKw pos (keywordEach kws env)).all (·.1.isSome)) = true
      rw [a, h1]; rfl
    · show (nm.isNone || (backToKw pos (keywordEach kws env)).any (·.1.isNone)) = false
      rw [b]
      cases nm with
      | none => cases h1
      | some _ => rfl
    · show List.filterMap (·.1) ((nm, _) :: backToKw pos (keywordEach kws env)) = List.filterMap (·.1) ((⟨nm, v, p⟩ : Keyword) :: kws)
      rw [List.filterMap_cons, List.filterMap_cons, c]
theorem md_callK {f : Nat} {b : Bool} {es ks : List IE} {perm : List Nat} : md (.callK f b es ks perm) = frM b := by cases b <;> rfl
theorem se_callK0 {x : Str} {p pos : Pos} {kws : List Keyword} {ks : List IE} {f : Nat} {sg : Sig} {perm : List Nat} {F : List D → M R.S D} (hF : KwOk R cls X x sg F 0 (kws.filterMap (·.1)) perm) (hΓ : Γ.fns[f]? = some F) (hg : Gl X x) (h : SK R cls Γ X kws ks)
    (hdb : (x == ("__debug__" : Str)) = false) (hk : kws.all (fun k => k.1.isSome) = true) (hm : lbAll ks = true) (hl : perm.all (fun i => decide (i < ks.length)) = true) (hsl : sg.lend.length = perm.length) (hkl : ks.length = (kws.filterMap (·.1)).length) :
    SE R cls Γ X (.Call (.Name x p) [] kws pos) (.callK f sg.fr [] ks perm) := by
  obtain ⟨k0, fa, fd, ps, e1, e2, e3, e4, e5⟩ := hF.ex
  obtain ⟨t, pa, q⟩ := h
  obtain ⟨b1, b2, b3⟩ := kw_all (pos := pos) (env := X.env) hk
  refine ⟨_, pe_callN0 e4 e5 hg e1 e2 e3 pass0 pa b1 b3 hdb (by rw [b2]; rfl), fun σ H Q g A0 env s k o h => ?_⟩
  rw [md_callK] at h
  unfold ev at h
  have h : PostE R (frM sg.fr) (rc cls X g) (Av A0 env σ) H ((evs Γ ks env >>= fun kd => callF Γ f (perm.filterMap fun i => kd[i]?)) s) Q := h
  unfold callF at h
  rw [hΓ] at h
  refine SA.bindE q k o h fun ds s1 vs H1 x1 o1 r1 k1 h => ?_
  have l := r1.length
  refine ⟨rfl, by rw [l.2]; exact hkl, g, Av A0 env σ, _, s1, k1.trA, fun a ha => k.gA a ha, o1, ?_, h.from x1 k1.gTr⟩
  have rp := Rms.rps (fun e he => of_decide_eq_true (List.all_eq_true.mp hm e he)) r1
  refine args_rps (rps_perm rp perm) ?_
  have z : ∀ perm : List Nat, perm.all (fun i => decide (i < ks.length)) = true → (perm.filterMap fun i => ds[i]?).length = perm.length := by
    intro perm
    induction perm with
    | nil => intro _; rfl
    | cons i r ih =>
      intro hh
      rw [List.all_cons, Bool.and_eq_true] at hh
      have hi : i < ds.length := by rw [l.1]; exact of_decide_eq_true hh.1
      rw [List.filterMap_cons, List.getElem?_eq_getElem hi]
      simp [ih hh.2]
  rw [z perm hl, hsl]
end

/-! ### which term of the inner language stands for which expression -/
structure CC where
  N : List Str
  sc : Scope
  fns : List (Str × Sig)
  kws : List (Nat × List Str × List Nat) := []
  cons : List Str
  free : List Str
def visB (sc : Scope) (x : Str) : Bool := match sc.names.lookup x with
  | some .local => true
  | some .cell => true
  | some .free => true
  | _ => false
def gloB (sc : Scope) (x : Str) : Bool := match sc.names.lookup x with
  | some .globalImplicit => !(x == ("__debug__" : Str))
  | _ => false
def nmOk (C : CC) (i : Nat) (x : Str) : Bool := decide (C.N[i]? = some x) && (visB C.sc x && (!(x == ("__debug__" : Str)) && !(x == ("__classdict__" : Str))))
def tOk : IE → Bool
  | .ite _ _ _ => false
  | .not a => tOk a
  | .and a b => tOk a && tOk b
  | .or a b => tOk a && tOk b
  | _ => true
def plainIx (e : Expr) : Bool := match e with
  | .Slice .. => false
  | _ => true
def notSet (e : Expr) : Bool := match e with
  | .Set .. => false
  | _ => true
def binMd : Operator → Option Md
  | .Add => some .fr
  | .Sub => some .rp
  | .Mult => some .rp
  | .FloorDiv => some .rp
  | .Mod => some .rp
  | .Pow => some .rp
  | _ => none
def cmpOk : CmpOp → Bool := fun _ => true
def freeOk (C : CC) (x : Str) : Bool := gloB C.sc x && (decide (x ∈ C.free) && !(x == ("__name__" : Str)))
def biNm : Bi → Str
  | .len => "len" | .int => "int" | .abs => "abs" | .max => "max" | .min => "min" | .list => "list" | .tuple => "tuple" | .all => "all" | .repr => "repr"
def isZ : IE → Bool
  | .cst (.int 0) => true
  | _ => false
def isY : IE → Bool
  | .cst (.bl true) => true
  | _ => false
mutual
def chk (C : CC) : IE → Expr → Bool
  | .var i, e => (match e with | .Name x _ => nmOk C i x | _ => false)
  | .bor i, e => (match e with | .Name x _ => nmOk C i x | _ => false)
  | .cst d, e => (match e, d with
    | .Constant .none _ _, .non => true
    | .Constant (.bool b) _ _, .bl c => b == c
    | .Constant (.int i) _ _, .int j => decide (i = j)
    | .Constant (.str x) _ _, .str y => decide (x = y)
    | _, _ => false)
  | .glb k, e => (match e with | .Name x _ => gloB C.sc x && decide (C.cons[k]? = some x) | _ => false)
  | .neg a, e => (match e with | .UnaryOp .USub x _ => chk C a x | _ => false)
  | .not a, e => (match e with | .UnaryOp .Not x _ => chk C a x | _ => false)
  | .bin o a b, e => (match e with | .BinOp x p y _ => decide (o = p) && ((binMd o).isSome && (chk C a x && chk C b y)) | _ => false)
  | .cmp o a b, e => (match e with | .Compare x [p] [y] _ => decide (o = p) && (!behindInMarks o y && (chk C a x && chk C b y)) | _ => false)
  | .chn o1 o2 a b c, e => (match e with | .Compare x [p1, p2] [y, z] _ => decide (o1 = p1) && (decide (o2 = p2) && (!lastMarks [o1, o2] [y, z] && (chk C a x && (chk C b y && chk C c z)))) | _ => false)
  | .and a b, e => (match e with
    | .BoolOp .And [x, y] _ => decide (md b ≠ .bor) && (chk C a x && chk C b y)
    | .BoolOp .And (x :: y :: z :: r) p => decide (md b ≠ .bor) && (chk C a x && chk C b (.BoolOp .And (y :: z :: r) p))
    | _ => false)
  | .or a b, e => (match e with
    | .BoolOp .Or [x, y] _ => decide (md b ≠ .bor) && (chk C a x && chk C b y)
    | .BoolOp .Or (x :: y :: z :: r) p => decide (md b ≠ .bor) && (chk C a x && chk C b (.BoolOp .Or (y :: z :: r) p))
    | _ => false)
  | .ite c a b, e => (match e with | .IfExp x y z _ => tOk c && (decide (md a ≠ .bor) && (decide (md b ≠ .bor) && (chk C c x && (chk C a y && chk C b z)))) | _ => false)
  | .tup es, e => (match e with | .Tuple xs _ _ => decide (es.length ≤ 1000) && (lbAll es && chks C es xs) | _ => false)
  | .lst es, e => (match e with | .List xs _ => decide (es.length ≤ 1000) && (lbAll es && chks C es xs) | _ => false)
  | .idx a i, e => (match e with | .Subscript x y _ => plainIx y && (chk C a x && chk C i y) | _ => false)
  | .call f fr es, e => (match e with
    | .Call (.Name x _) (a :: as) [] _ => (match C.fns[f]? with | some (y, sg) => decide (x = y) && (gloB C.sc x && (lendOk sg.lend es && ((fr == sg.fr) && chks C es (a :: as)))) | none => false)
    | _ => false)
  | .callK f fr es ks perm, e => (match es, e with
    | [], .Call (.Name x _) [] kws _ => (match C.fns[f]? with
      | some (y, sg) => decide (x = y) && (gloB C.sc x && ((fr == sg.fr) && (decide ((f, kws.filterMap (·.1), perm) ∈ C.kws) && (kws.all (fun k => k.1.isSome) && (lbAll ks && (perm.all (fun i => decide (i < ks.length)) && (decide (sg.lend.length = perm.length) && (decide (ks.length = (kws.filterMap (·.1)).length) && chkk C ks kws))))))))
      | none => false)
    | _, _ => false)
  | .bi f es, e => (match e with
    | .Call (.Name x _) (a :: as) [] _ => decide (x = biNm f) && (decide (f ≠ .repr) && (freeOk C x && chks C es (a :: as)))
    | _ => false)
  | .lc i src body, e => (match e with
    | .ListComp elt [⟨.Name x _, it, [], 0⟩] sc _ => decide (C.N[i]? = some x) && (blkC C.N C.sc sc [(x, i)] && (decide ((relS sc C.sc).names.lookup x = some .local) && (notSet it && (decide (md body ≠ .bor) && (chk C src it && chk { C with sc := relS sc C.sc } body elt)))))
    | _ => false)
  | .lci i src ic body, e => (match e with
    | .ListComp elt [⟨.Name x _, it, [cd], 0⟩] sc _ => decide (C.N[i]? = some x) && (blkC C.N C.sc sc [(x, i)] && (decide ((relS sc C.sc).names.lookup x = some .local) && (notSet it && (decide (md body ≠ .bor) && (tOk ic && (chk C src it && (chk { C with sc := relS sc C.sc } ic cd && chk { C with sc := relS sc C.sc } body elt)))))))
    | _ => false)
  | .lrng a b, e => (match e with
    | .Call (.Name f _) [.Call (.Name g _) [x, y] [] _] [] _ => decide (f = "list") && (decide (g = "range") && (freeOk C f && (freeOk C g && (noStar x && (noStar y && (chk C a x && chk C b y))))))
    | _ => false)
  | .lcr i a b c body, e => (match e with
    | .ListComp elt [⟨.Name x _, .Call (.Name r _) args [] _, ifs, 0⟩] sc _ => decide (r = "range") && (freeOk C r && (decide (C.N[i]? = some x) && (blkC C.N C.sc sc [(x, i)] && (decide ((relS sc C.sc).names.lookup x = some .local) && (decide (md body ≠ .bor) && (chk { C with sc := relS sc C.sc } body elt && ((match args with
      | [e2] => isZ a && (noStar e2 && chk C b e2)
      | [e1, e2] => noStar e1 && (noStar e2 && (chk C a e1 && chk C b e2))
      | _ => false) && (match ifs with
      | [] => isY c
      | [cd] => tOk c && chk { C with sc := relS sc C.sc } c cd
      | _ => false))))))))
    | _ => false)
  | .slc bl bh a lo hi, e => (match e with
    | .Subscript x (.Slice el eh none _) _ => chk C a x && ((match el, bl with
      | none, false => true
      | some e, true => chk C lo e
      | _, _ => false) && (match eh, bh with
      | none, false => true
      | some e, true => chk C hi e
      | _, _ => false))
    | _ => false)
def chks (C : CC) : List IE → List Expr → Bool
  | [], es => es.isEmpty
  | i :: is, es => (match es with | e :: es => noStar e && (chk C i e && chks C is es) | [] => false)
def chkk (C : CC) : List IE → List Keyword → Bool
  | [], es => es.isEmpty
  | i :: is, es => (match es with | ⟨_, e, _⟩ :: es => chk C i e && chkk C is es | [] => false)
end
end Pv
end
section
set_option maxHeartbeats 4000000
namespace Pv
open PySem PySem.Spec PyProof.Rows L2

structure XOk (R : RS) (cls : Str → Addr) (Γ : Gm R.S) (C : CC) (X : Cx) : Prop where
  N : X.N = C.N
  nd : X.N.Nodup
  sc : X.env.scope = C.sc
  calm : X.calm = true
  units : X.A.units + 64 < cLine
  free : ∀ x ∈ C.free, X.mg x = none
  fn : ∀ (i : Nat) (x : Str) (sg : Sig), C.fns[i]? = some (x, sg) → ∃ F, Γ.fns[i]? = some F ∧ FnAt R cls X x sg F
  kw : ∀ (i : Nat) (x : Str) (sg : Sig) (F : List D → M R.S D) (ks : List Str) (perm : List Nat), (i, ks, perm) ∈ C.kws → C.fns[i]? = some (x, sg) → Γ.fns[i]? = some F → KwOk R cls X x sg F 0 ks perm
  con : ∀ (i : Nat) (x : Str) (d : D), C.cons[i]? = some x → Γ.cons[i]? = some d → ∃ v u, X.mg x = some u ∧ RelV v u ∧ ∀ g A H, Rp (rc cls X g) A H d v
theorem XOk.blk {R : RS} {cls : Str → Addr} {Γ : Gm R.S} {C : CC} {X : Cx} (k : XOk R cls Γ C X) (scope : Scope) (s : Shared) (H : Hp) (c : Addr) (cl : List (Str × Addr)) (fp : List Addr) :
    XOk R cls Γ { C with sc := relS scope C.sc } (X.blk s H scope (compEnvC scope cl c X.env) fp) where
  N := k.N
  nd := k.nd
  sc := by
    show relS scope X.env.scope = relS scope C.sc
    rw [k.sc]
  calm := k.calm
  units := k.units
  free := k.free
  fn := fun i x sg h => by
    obtain ⟨F, e, hF⟩ := k.fn i x sg h
    exact ⟨F, e, ⟨hF.ex⟩⟩
  kw := fun i x sg F ks perm h1 h2 h3 => ⟨(k.kw i x sg F ks perm h1 h2 h3).ex⟩
  con := k.con
theorem b2 {a b : Bool} (h : (a && b) = true) : a = true ∧ b = true := Bool.and_eq_true_iff.mp h
theorem dec {p : Prop} [Decidable p] (h : decide p = true) : p := of_decide_eq_true h
theorem vis_of {sc : Scope} {x : Str} (h : visB sc x = true) : Vis sc x := by
  unfold visB at h
  unfold Vis
  split at h
  · rename_i e; exact .inl e
  · rename_i e; exact .inr (.inl e)
  · rename_i e; exact .inr (.inr e)
  · cases h
theorem nb {b : Bool} (h : (!b) = true) : b = false := by cases b <;> first | rfl | cases h
theorem glo_of {R : RS} {cls : Str → Addr} {Γ : Gm R.S} {C : CC} {X : Cx} (k : XOk R cls Γ C X) {x : Str} (h : gloB C.sc x = true) : Gl X x ∧ (x == ("__debug__" : Str)) = false := by
  unfold gloB at h
  unfold Gl PySem.Env.kindOf
  rw [k.sc]
  split at h
  · rename_i e; exact ⟨e, nb h⟩
  · cases h
theorem free_of {R : RS} {cls : Str → Addr} {Γ : Gm R.S} {C : CC} {X : Cx} (k : XOk R cls Γ C X) {x : Str} (h : freeOk C x = true) : Gl X x ∧ (x == ("__debug__" : Str)) = false ∧ X.mg x = none ∧ x ≠ "__name__" := by
  obtain ⟨h1, h2⟩ := b2 h
  obtain ⟨h2, h3⟩ := b2 h2
  obtain ⟨a, b⟩ := glo_of k h1
  refine ⟨a, b, k.free x (dec h2), fun z => ?_⟩
  subst z
  have := nb h3
  simp at this
theorem nm_of {R : RS} {cls : Str → Addr} {Γ : Gm R.S} {C : CC} {X : Cx} (k : XOk R cls Γ C X) {x : Str} {i : Nat} {pos : Pos} {b : Bool} (h : nmOk C i x = true) : SE R cls Γ X (.Name x pos) (if b then .bor i else .var i) := by
  obtain ⟨h1, h2⟩ := b2 h
  obtain ⟨h2, h3⟩ := b2 h2
  obtain ⟨h3, h4⟩ := b2 h3
  exact se_var (by rw [k.N]; exact dec h1) (by rw [k.sc]; exact vis_of h2) (nb h3) (nb h4)
theorem notSet_fold {e : Expr} {env : PySem.Env} (h : notSet e = true) : ∀ x, foldedSetIterable e env x = pure x := by
  intro x
  cases e <;> first | rfl | cases h
theorem plain_of {e : Expr} (h : plainIx e = true) : PlainIx e := by
  intro o i
  cases e <;> first | rfl | cases h
theorem bin_of {R : RS} {cls : Str → Addr} {Γ : Gm R.S} {C : CC} {X : Cx} (k : XOk R cls Γ C X) {op : Operator} {a b : Expr} {ia ib : IE} {pos : Pos} (h : (binMd op).isSome = true) (h1 : SE R cls Γ X a ia) (h2 : SE R cls Γ X b ib) : SE R cls Γ X (.BinOp a op b pos) (.bin op ia ib) := by
  cases op with
  | Add => exact se_bin (bin_add (R := R) (cls := cls)).1 (bin_add (R := R) (cls := cls)).2 h1 h2
  | Sub => exact se_bin (bin_sub (R := R) (cls := cls)).1 (bin_sub (R := R) (cls := cls)).2 h1 h2
  | Mult => exact se_bin (bin_mul (R := R) (cls := cls)).1 (bin_mul (R := R) (cls := cls)).2 h1 h2
  | FloorDiv => exact se_bin (bin_fdiv (R := R) (cls := cls)).1 (bin_fdiv (R := R) (cls := cls)).2 h1 h2
  | Mod => exact se_bin (bin_mod (R := R) (cls := cls)).1 (bin_mod (R := R) (cls := cls)).2 h1 h2
  | Pow => exact se_bin (bin_pow (R := R) (cls := cls)).1 (bin_pow (R := R) (cls := cls)).2 h1 h2
  | _ => cases h
theorem cmp_of {R : RS} {cls : Str → Addr} {Γ : Gm R.S} {C : CC} {X : Cx} (k : XOk R cls Γ C X) (op : CmpOp) : ∃ r, CmpR R cls X op r := by
  cases op with
  | Eq => exact ⟨_, cmp_eq k.units⟩
  | NotEq => exact ⟨_, cmp_ne k.units⟩
  | Lt => exact ⟨_, cmp_lt⟩
  | LtE => exact ⟨_, cmp_le⟩
  | Gt => exact ⟨_, cmp_gt⟩
  | GtE => exact ⟨_, cmp_ge⟩
  | Is => exact ⟨_, cmp_is⟩
  | IsNot => exact ⟨_, cmp_isnot⟩
  | In => exact ⟨_, cmp_in⟩
  | NotIn => exact ⟨_, cmp_notin⟩
theorem bi_of {R : RS} {cls : Str → Addr} {Γ : Gm R.S} {C : CC} {X : Cx} (k : XOk R cls Γ C X) {f : Bi} {x : Str} {p pos : Pos} {e : Expr} {es : List Expr} {ies : List IE} (hx : x = biNm f) (hf : f ≠ .repr) (hfr : freeOk C x = true) (h : SA R cls Γ X (e :: es) ies) (hs : noStar e = true) (hss : es.all noStar = true) :
    SE R cls Γ X (.Call (.Name x p) (e :: es) [] pos) (.bi f ies) := by
  obtain ⟨g, d, m, n⟩ := free_of k hfr
  subst hx
  cases f with
  | repr => exact absurd rfl hf
  | len => exact se_biB bi_len g m (by decide +kernel) h n d hs hss
  | abs => exact se_biB bi_abs g m (by decide +kernel) h n d hs hss
  | max => exact se_biB (bi_max k.calm) g m (by decide +kernel) h n d hs hss
  | min => exact se_biB (bi_min k.calm) g m (by decide +kernel) h n d hs hss
  | all => exact se_biB (bi_all k.calm) g m (by decide +kernel) h n d hs hss
  | int => exact se_biT bi_int g m (by decide +kernel) h n d hs hss
  | list => exact se_biT bi_list g m (by decide +kernel) h n d hs hss
  | tuple => exact se_biT bi_tuple g m (by decide +kernel) h n d hs hss
/-- what is told of a term: as a value, as a test, as the rest of a chain -/
def Snd (R : RS) (cls : Str → Addr) (Γ : Gm R.S) (X : Cx) (e : Expr) (ie : IE) : Prop := SE R cls Γ X e ie ∧ (tOk ie = true → ST R cls Γ X e ie ∧ ((∃ op x y r p, e = .BoolOp op (x :: y :: r) p) → SW R cls Γ X e ie))
theorem Snd.val {R : RS} {cls : Str → Addr} {Γ : Gm R.S} {X : Cx} {e : Expr} {ie : IE} (h : SE R cls Γ X e ie) (he : ∀ whole, isTrue e X.env whole = (do let v ← whole; standAt e.pos; holding [v] (truthy v))) (nb : ∀ op xs p, e ≠ .BoolOp op xs p) : Snd R cls Γ X e ie :=
  ⟨h, fun _ => ⟨st_val h he, fun ⟨op, x, y, r, p, z⟩ => absurd z (nb _ _ _)⟩⟩
theorem lb_of {es : List IE} (h : lbAll es = true) : ∀ e ∈ es, md e ≠ .bor := fun e he => dec (List.all_eq_true.mp h e he)
section
variable {R : RS} {cls : Str → Addr} {Γ : Gm R.S}
theorem chks_all (C : CC) : ∀ (ies : List IE) (es : List Expr), chks C ies es = true → es.all noStar = true
  | [], es, h => by
    unfold chks at h
    cases es with
    | nil => rfl
    | cons e es => cases h
  | i :: is, es, h => by
    unfold chks at h
    cases es with
    | nil => cases h
    | cons e es =>
      obtain ⟨h1, h⟩ := b2 h
      obtain ⟨h2, h3⟩ := b2 h
      rw [List.all_cons, h1, chks_all C is es h3]
      rfl
theorem chks_star (ies : List IE) (C : CC) (e : Expr) (es : List Expr) (h : chks C ies (e :: es) = true) : noStar e = true ∧ es.all noStar = true := by
  have z := chks_all C ies (e :: es) h
  rw [List.all_cons] at z
  exact b2 z
def PI_ (R : RS) (cls : Str → Addr) (Γ : Gm R.S) (ie : IE) : Prop := ∀ (C : CC) (X : Cx) (e : Expr), XOk R cls Γ C X → chk C ie e = true → Snd R cls Γ X e ie
theorem chks_ok : ∀ (ies : List IE), (∀ ie ∈ ies, PI_ R cls Γ ie) → ∀ (C : CC) (X : Cx) (es : List Expr), XOk R cls Γ C X → chks C ies es = true → SA R cls Γ X es ies
  | [], _, C, X, es, k, h => by
    unfold chks at h
    cases es with
    | nil => exact sa_nil
    | cons e es => cases h
  | i :: is, p, C, X, es, k, h => by
    unfold chks at h
    cases es with
    | nil => cases h
    | cons e es =>
      obtain ⟨h1, h⟩ := b2 h
      obtain ⟨h2, h3⟩ := b2 h
      exact sa_cons (p i (List.mem_cons_self ..) C X e k h2).1 (chks_ok is (fun ie hm => p ie (List.mem_cons_of_mem _ hm)) C X es k h3) (star_cons h1)
theorem chkk_ok : ∀ (ies : List IE), (∀ ie ∈ ies, PI_ R cls Γ ie) → ∀ (C : CC) (X : Cx) (es : List Keyword), XOk R cls Γ C X → chkk C ies es = true → SK R cls Γ X es ies
  | [], _, C, X, es, k, h => by
    unfold chkk at h
    cases es with
    | nil => exact sk_nil
    | cons e es => cases h
  | i :: is, p, C, X, es, k, h => by
    unfold chkk at h
    cases es with
    | nil => cases h
    | cons e es =>
      obtain ⟨nm, e, q⟩ := e
      obtain ⟨h1, h2⟩ := b2 h
      exact sk_cons (p i (List.mem_cons_self ..) C X e k h1).1 (chkk_ok is (fun ie hm => p ie (List.mem_cons_of_mem _ hm)) C X es k h2)
theorem p_var_ (i : Nat) : PI_ R cls Γ (.var i) := fun C X e k h => by
    unfold chk at h
    split at h
    · exact .val (nm_of (b := false) k h) (fun _ => rfl) (fun _ _ _ z => nomatch z)
    · cases h

theorem p_bor_ (i : Nat) : PI_ R cls Γ (.bor i) := fun C X e k h => by
    unfold chk at h
    split at h
    · exact .val (nm_of (b := true) k h) (fun _ => rfl) (fun _ _ _ z => nomatch z)
    · cases h

theorem p_cst_ (d : D) : PI_ R cls Γ (.cst d) := fun C X e k h => by
    unfold chk at h
    split at h
    · exact .val (se_const (v := .non) pe_non fun _ _ _ => rfl) (fun _ => rfl) (fun _ _ _ z => nomatch z)
    · have z := eq_of_beq h
      subst z
      exact .val (se_const pe_bl fun _ _ _ => rfl) (fun _ => rfl) (fun _ _ _ z => nomatch z)
    · have z := dec h
      subst z
      exact .val (se_const pe_int fun _ _ _ => rfl) (fun _ => rfl) (fun _ _ _ z => nomatch z)
    · have z := dec h
      subst z
      exact .val (se_const pe_str fun _ _ _ => rfl) (fun _ => rfl) (fun _ _ _ z => nomatch z)
    · cases h

theorem p_glb_ (j : Nat) : PI_ R cls Γ (.glb j) := fun C X e k h => by
    unfold chk at h
    split at h
    · obtain ⟨h1, h2⟩ := b2 h
      obtain ⟨g, d⟩ := glo_of k h1
      rename_i x pos
      refine .val ?_ (fun _ => rfl) (fun _ _ _ z => nomatch z)
      cases q : Γ.cons[j]? with
      | none => exact ⟨_, (⟨fun _ _ _ _ _ _ z => z.elim⟩ : PE X (.Name x pos) fun _ _ _ => False), fun σ H Q g A0 env s k o h => by
          unfold ev at h
          rw [q] at h
          exact h⟩
      | some d' =>
        obtain ⟨v, u, m, r, z⟩ := k.con j _ d' (dec h2) q
        exact ⟨_, pe_glob g m r d, fun σ H Q g A0 env s k o h => by
          unfold ev at h
          rw [q] at h
          exact h v H Ext.refl o (z g _ _)⟩
    · cases h

theorem p_neg_ (a : IE) (p_a : PI_ R cls Γ a) : PI_ R cls Γ (.neg a) := fun C X e k h => by
    unfold chk at h
    split at h
    · exact .val (se_neg (p_a C X _ k h).1) (fun _ => rfl) (fun _ _ _ z => nomatch z)
    · cases h

theorem p_not_ (a : IE) (p_a : PI_ R cls Γ a) : PI_ R cls Γ (.not a) := fun C X e k h => by
    unfold chk at h
    split at h
    · have q := p_a C X _ k h
      exact ⟨se_not q.1, fun t => ⟨st_not (q.2 t).1, fun ⟨_, _, _, _, _, z⟩ => nomatch z⟩⟩
    · cases h

theorem p_bin_ (o : Operator) (a : IE) (b : IE) (p_a : PI_ R cls Γ a) (p_b : PI_ R cls Γ b) : PI_ R cls Γ (.bin o a b) := fun C X e k h => by
    unfold chk at h
    split at h
    · obtain ⟨h0, h⟩ := b2 h
      obtain ⟨h1, h⟩ := b2 h
      obtain ⟨h2, h3⟩ := b2 h
      have z := dec h0
      subst z
      exact .val (bin_of k h1 (p_a C X _ k h2).1 (p_b C X _ k h3).1) (fun _ => rfl) (fun _ _ _ z => nomatch z)
    · cases h

theorem p_cmp_ (o : CmpOp) (a : IE) (b : IE) (p_a : PI_ R cls Γ a) (p_b : PI_ R cls Γ b) : PI_ R cls Γ (.cmp o a b) := fun C X e k h => by
    unfold chk at h
    split at h
    · obtain ⟨h0, h⟩ := b2 h
      obtain ⟨h1, h⟩ := b2 h
      obtain ⟨h2, h3⟩ := b2 h
      have z := dec h0
      subst z
      obtain ⟨r, c⟩ := cmp_of k o
      have qa := (p_a C X _ k h2).1
      have qb := (p_b C X _ k h3).1
      exact ⟨se_cmp c (nb h1) qa qb, fun _ => ⟨st_cmp c (nb h1) qa qb, fun ⟨_, _, _, _, _, z⟩ => nomatch z⟩⟩
    · cases h

theorem p_chn_ (o1 : CmpOp) (o2 : CmpOp) (a : IE) (b : IE) (c : IE) (p_a : PI_ R cls Γ a) (p_b : PI_ R cls Γ b) (p_c : PI_ R cls Γ c) : PI_ R cls Γ (.chn o1 o2 a b c) := fun C X e k h => by
    unfold chk at h
    split at h
    · obtain ⟨h0, h⟩ := b2 h
      obtain ⟨h0', h⟩ := b2 h
      obtain ⟨h1, h⟩ := b2 h
      obtain ⟨h2, h⟩ := b2 h
      obtain ⟨h3, h4⟩ := b2 h
      have z := dec h0
      subst z
      have z := dec h0'
      subst z
      obtain ⟨r, c1⟩ := cmp_of k o1
      obtain ⟨r', c2⟩ := cmp_of k o2
      have qa := (p_a C X _ k h2).1
      have qb := (p_b C X _ k h3).1
      have qc := (p_c C X _ k h4).1
      exact ⟨se_chn c1 c2 (nb h1) qa qb qc, fun _ => ⟨st_chn c1 c2 (nb h1) qa qb qc, fun ⟨_, _, _, _, _, z⟩ => nomatch z⟩⟩
    · cases h

theorem p_and_ (a : IE) (b : IE) (p_a : PI_ R cls Γ a) (p_b : PI_ R cls Γ b) : PI_ R cls Γ (.and a b) := fun C X e k h => by
    unfold chk at h
    split at h
    · obtain ⟨h0, h⟩ := b2 h
      obtain ⟨h1, h2⟩ := b2 h
      have qa := p_a C X _ k h1
      have qb := p_b C X _ k h2
      refine ⟨se_and qa.1 (se_one qb.1) (dec h0), fun t => ?_⟩
      obtain ⟨t1, t2⟩ := b2 t
      have w := sw_and (pos := ‹Pos›) (qa.2 t1).1 (sw_and1 (qb.2 t2).1)
      exact ⟨w.st, fun _ => w⟩
    · obtain ⟨h0, h⟩ := b2 h
      obtain ⟨h1, h2⟩ := b2 h
      have qa := p_a C X _ k h1
      have qb := p_b C X _ k h2
      refine ⟨se_and qa.1 qb.1 (dec h0), fun t => ?_⟩
      obtain ⟨t1, t2⟩ := b2 t
      have w := sw_and (qa.2 t1).1 ((qb.2 t2).2 ⟨_, _, _, _, _, rfl⟩)
      exact ⟨w.st, fun _ => w⟩
    · cases h

theorem p_or_ (a : IE) (b : IE) (p_a : PI_ R cls Γ a) (p_b : PI_ R cls Γ b) : PI_ R cls Γ (.or a b) := fun C X e k h => by
    unfold chk at h
    split at h
    · obtain ⟨h0, h⟩ := b2 h
      obtain ⟨h1, h2⟩ := b2 h
      have qa := p_a C X _ k h1
      have qb := p_b C X _ k h2
      refine ⟨se_or qa.1 (se_one qb.1) (dec h0), fun t => ?_⟩
      obtain ⟨t1, t2⟩ := b2 t
      have w := sw_or (pos := ‹Pos›) (qa.2 t1).1 (sw_or1 (qb.2 t2).1)
      exact ⟨w.st, fun _ => w⟩
    · obtain ⟨h0, h⟩ := b2 h
      obtain ⟨h1, h2⟩ := b2 h
      have qa := p_a C X _ k h1
      have qb := p_b C X _ k h2
      refine ⟨se_or qa.1 qb.1 (dec h0), fun t => ?_⟩
      obtain ⟨t1, t2⟩ := b2 t
      have w := sw_or (qa.2 t1).1 ((qb.2 t2).2 ⟨_, _, _, _, _, rfl⟩)
      exact ⟨w.st, fun _ => w⟩
    · cases h

theorem p_ite_ (c : IE) (a : IE) (b : IE) (p_c : PI_ R cls Γ c) (p_a : PI_ R cls Γ a) (p_b : PI_ R cls Γ b) : PI_ R cls Γ (.ite c a b) := fun C X e k h => by
    unfold chk at h
    split at h
    · obtain ⟨h0, h⟩ := b2 h
      obtain ⟨m1, h⟩ := b2 h
      obtain ⟨m2, h⟩ := b2 h
      obtain ⟨h1, h⟩ := b2 h
      obtain ⟨h2, h3⟩ := b2 h
      exact ⟨se_ite ((p_c C X _ k h1).2 h0).1 (p_a C X _ k h2).1 (p_b C X _ k h3).1 (dec m1) (dec m2), fun t => nomatch t⟩
    · cases h

theorem p_tup_ (es : List IE) (p_es : ∀ ie ∈ es, PI_ R cls Γ ie) : PI_ R cls Γ (.tup es) := fun C X e k h => by
    unfold chk at h
    split at h
    · obtain ⟨h0, h⟩ := b2 h
      obtain ⟨h1, h2⟩ := b2 h
      exact .val (se_tup (chks_ok es p_es C X _ k h2) (lb_of h1) (dec h0)) (fun _ => rfl) (fun _ _ _ z => nomatch z)
    · cases h

theorem p_lst_ (es : List IE) (p_es : ∀ ie ∈ es, PI_ R cls Γ ie) : PI_ R cls Γ (.lst es) := fun C X e k h => by
    unfold chk at h
    split at h
    · obtain ⟨h0, h⟩ := b2 h
      obtain ⟨h1, h2⟩ := b2 h
      exact .val (se_lst (chks_ok es p_es C X _ k h2) (lb_of h1) (dec h0)) (fun _ => rfl) (fun _ _ _ z => nomatch z)
    · cases h

theorem p_idx_ (a : IE) (i : IE) (p_a : PI_ R cls Γ a) (p_i : PI_ R cls Γ i) : PI_ R cls Γ (.idx a i) := fun C X e k h => by
    unfold chk at h
    split at h
    · obtain ⟨h0, h⟩ := b2 h
      obtain ⟨h1, h2⟩ := b2 h
      exact .val (se_idx (plain_of h0) (p_a C X _ k h1).1 (p_i C X _ k h2).1) (fun _ => rfl) (fun _ _ _ z => nomatch z)
    · cases h

theorem p_call_ (f : Nat) (fr : Bool) (es : List IE) (p_es : ∀ ie ∈ es, PI_ R cls Γ ie) : PI_ R cls Γ (.call f fr es) := fun C X e k h => by
    unfold chk at h
    split at h
    · split at h
      · rename_i y sg hf
        obtain ⟨h0, h⟩ := b2 h
        obtain ⟨h1, h⟩ := b2 h
        obtain ⟨h2, h⟩ := b2 h
        obtain ⟨h3, h4⟩ := b2 h
        have z := dec h0
        subst z
        have z := eq_of_beq h3
        subst z
        obtain ⟨F, hΓ, hF⟩ := k.fn f _ _ hf
        obtain ⟨g, d⟩ := glo_of k h1
        have st := chks_star es C _ _ h4
        exact .val (se_call hF hΓ g (chks_ok es p_es C X _ k h4) h2 d st.1 st.2) (fun _ => rfl) (fun _ _ _ z => nomatch z)
      · cases h
    · cases h

theorem p_callK_ (f : Nat) (fr : Bool) (es : List IE) (ks : List IE) (perm : List Nat) (p_ks : ∀ ie ∈ ks, PI_ R cls Γ ie) : PI_ R cls Γ (.callK f fr es ks perm) := fun C X e k h => by
    unfold chk at h
    split at h
    · split at h
      · rename_i y sg hf
        obtain ⟨h0, h⟩ := b2 h
        obtain ⟨h1, h⟩ := b2 h
        obtain ⟨h2, h⟩ := b2 h
        obtain ⟨h3, h⟩ := b2 h
        obtain ⟨h4, h⟩ := b2 h
        obtain ⟨h5, h⟩ := b2 h
        obtain ⟨h6, h⟩ := b2 h
        obtain ⟨h7, h⟩ := b2 h
        obtain ⟨h8, h9⟩ := b2 h
        have z := dec h0
        subst z
        have z := eq_of_beq h2
        subst z
        obtain ⟨F, hΓ, hF⟩ := k.fn f _ _ hf
        obtain ⟨g, d⟩ := glo_of k h1
        exact .val (se_callK0 (k.kw f _ _ F _ _ (dec h3) hf hΓ) hΓ g (chkk_ok ks p_ks C X _ k h9) d h4 h5 h6 (dec h7) (dec h8)) (fun _ => rfl) (fun _ _ _ z => nomatch z)
      · cases h
    · cases h

theorem p_bi_ (f : Bi) (es : List IE) (p_es : ∀ ie ∈ es, PI_ R cls Γ ie) : PI_ R cls Γ (.bi f es) := fun C X e k h => by
    unfold chk at h
    split at h
    · obtain ⟨h0, h⟩ := b2 h
      obtain ⟨h1, h⟩ := b2 h
      obtain ⟨h2, h3⟩ := b2 h
      have st := chks_star es C _ _ h3
      exact .val (bi_of k (dec h0) (dec h1) h2 (chks_ok es p_es C X _ k h3) st.1 st.2) (fun _ => rfl) (fun _ _ _ z => nomatch z)
    · cases h

theorem p_lc_ (i : Nat) (src : IE) (body : IE) (p_src : PI_ R cls Γ src) (p_body : PI_ R cls Γ body) : PI_ R cls Γ (.lc i src body) := fun C X e k h => by
    unfold chk at h
    split at h
    · obtain ⟨h0, h⟩ := b2 h
      obtain ⟨h1, h⟩ := b2 h
      obtain ⟨h2, h⟩ := b2 h
      obtain ⟨h3, h⟩ := b2 h
      obtain ⟨h4, h⟩ := b2 h
      obtain ⟨h5, h6⟩ := b2 h
      exact .val (se_lc k.calm k.nd (by rw [k.N, k.sc]; exact blkOk_by h1) (p_src C X _ k h5).1 (by rw [k.N]; exact dec h0) (by rw [k.sc]; exact dec h2)
        (fun s H c cl fp => (p_body _ _ _ (k.blk _ s H c cl fp) h6).1) (dec h4) (notSet_fold h3)) (fun _ => rfl) (fun _ _ _ z => nomatch z)
    · cases h

theorem p_lci_ (i : Nat) (src : IE) (ic : IE) (body : IE) (p_src : PI_ R cls Γ src) (p_ic : PI_ R cls Γ ic) (p_body : PI_ R cls Γ body) : PI_ R cls Γ (.lci i src ic body) := fun C X e k h => by
    unfold chk at h
    split at h
    · obtain ⟨h0, h⟩ := b2 h
      obtain ⟨h1, h⟩ := b2 h
      obtain ⟨h2, h⟩ := b2 h
      obtain ⟨h3, h⟩ := b2 h
      obtain ⟨h4, h⟩ := b2 h
      obtain ⟨h4', h⟩ := b2 h
      obtain ⟨h5, h⟩ := b2 h
      obtain ⟨h6, h7⟩ := b2 h
      exact .val (se_lci k.calm k.nd (by rw [k.N, k.sc]; exact blkOk_by h1) (p_src C X _ k h5).1 (by rw [k.N]; exact dec h0) (by rw [k.sc]; exact dec h2)
        (fun s H c cl fp => ((p_ic _ _ _ (k.blk _ s H c cl fp) h6).2 h4').1) (fun s H c cl fp => (p_body _ _ _ (k.blk _ s H c cl fp) h7).1) (dec h4) (notSet_fold h3)) (fun _ => rfl) (fun _ _ _ z => nomatch z)
    · cases h

theorem p_lrng_ (a : IE) (b : IE) (p_a : PI_ R cls Γ a) (p_b : PI_ R cls Γ b) : PI_ R cls Γ (.lrng a b) := fun C X e k h => by
    unfold chk at h
    split at h
    · obtain ⟨h0, h⟩ := b2 h
      obtain ⟨h1, h⟩ := b2 h
      obtain ⟨h2, h⟩ := b2 h
      obtain ⟨h3, h⟩ := b2 h
      obtain ⟨h4, h⟩ := b2 h
      obtain ⟨h5, h⟩ := b2 h
      obtain ⟨h6, h7⟩ := b2 h
      have z := dec h0
      subst z
      have z := dec h1
      subst z
      obtain ⟨g1, d1, m1, n1⟩ := free_of k h2
      obtain ⟨g2, d2, m2, n2⟩ := free_of k h3
      exact .val (se_lrng k.calm g2 m2 g1 m1 (p_a C X _ k h6).1 (p_b C X _ k h7).1 h4 h5) (fun _ => rfl) (fun _ _ _ z => nomatch z)
    · cases h
def RngS (R : RS) (cls : Str → Addr) (Γ : Gm R.S) (X : Cx) (tg it : Expr) (ia ib : IE) : Prop :=
    ∃ wi, PI X tg it wi ∧ ∀ {σ : L2.St} {H : Hp} {g : List Addr} {A0 : Addr → Prop} {env : IEnv} {s : R.S} {f : Int × Int → M R.S D} {Q : VK} {W : It → Hp → Prop}, EnvOk (rc cls X g) A0 H σ env → R.ok g s H → PostE R .fr (rc cls X g) (Av A0 env σ) H ((ev Γ ia env >>= fun x => ev Γ ib env >>= fun y => opt (rngOf x y) >>= f) s) Q →
      (∀ (a b : Int) (s1 : R.S) (H1 : Hp), Ext (Gv (rc cls X g)) H H1 → R.ok g s1 H1 → EnvOk (rc cls X g) A0 H1 σ env → (b - a).toNat ≤ 16777216 → PostE R .fr (rc cls X g) (Av A0 env σ) H (f (a, b) s1) Q → W (Itr a (b - a).toNat) H1) → wi σ H W
theorem lcr_1 {X : Cx} {e2 : Expr} {tg : Expr} {ia ib : IE} {p2 p3 : Pos} (hg : Gl X "range") (hm : X.mg "range" = none) (hz : isZ ia = true) (ns : noStar e2 = true) (h : SE R cls Γ X e2 ib) :
    RngS R cls Γ X tg (.Call (.Name "range" p2) [e2] [] p3) ia ib := by
  obtain ⟨t, pe, q⟩ := h
  refine ⟨_, pi_range1 hg hm (pa_cons pe pa_nil (star_cons ns)) (star_cons ns), fun {σ H g A0 env s f Q W} k o h hW => ?_⟩
  have e : ev Γ ia env = pure (.int 0) := by
    unfold isZ at hz
    split at hz
    · unfold ev; rfl
    · cases hz
  rw [e, pure_bind'] at h
  refine SE.bindE q k o h fun d s1 v H1 x1 o1 r1 k1 h => ?_
  cases d with
  | int j =>
    have h : PostE R .fr (rc cls X g) (Av A0 env σ) H ((opt (if -(2 ^ 62) ≤ (0 : Int) ∧ (0 : Int) < 2 ^ 62 ∧ -(2 ^ 62) ≤ j ∧ j < 2 ^ 62 ∧ (j - 0).toNat ≤ 16777216 then some (0, j) else none) >>= f) s1) Q := h
    split at h
    · rename_i z
      have w := hW 0 j s1 H1 x1 o1 k1 z.2.2.2.2 h
      rw [Int.sub_zero] at w
      exact ⟨j, by rw [show v = .int j from Rm.flat r1 rfl], z.2.2.1, z.2.2.2.1, w⟩
    · exact h.elim
  | _ => exact h.elim
theorem lcr_2 {X : Cx} {e1 e2 : Expr} {tg : Expr} {ia ib : IE} {p2 p3 : Pos} (hg : Gl X "range") (hm : X.mg "range" = none) (ns1 : noStar e1 = true) (ns : noStar e2 = true) (h0 : SE R cls Γ X e1 ia) (h : SE R cls Γ X e2 ib) :
    RngS R cls Γ X tg (.Call (.Name "range" p2) [e1, e2] [] p3) ia ib := by
  obtain ⟨t0, pe0, q0⟩ := h0
  obtain ⟨t, pe, q⟩ := h
  refine ⟨_, pi_range2 hg hm (pa_cons pe0 (pa_cons pe pa_nil (star_cons ns)) (star_cons ns1)) (by rw [star_cons ns1, star_cons ns]; rfl) (by rw [star_cons ns]; rfl), fun {σ H g A0 env s f Q W} k o h hW => ?_⟩
  refine SE.bindE q0 k o h fun d0 s0 v0 H0 x0 o0 r0 k0 h => ?_
  refine SE.bindE q k0 o0 h fun d s1 v H1 x1 o1 r1 k1 h => ?_
  cases d0 with
  | int a =>
    cases d with
    | int j =>
      have h : PostE R .fr (rc cls X g) (Av A0 env σ) H ((opt (if -(2 ^ 62) ≤ a ∧ a < 2 ^ 62 ∧ -(2 ^ 62) ≤ j ∧ j < 2 ^ 62 ∧ (j - a).toNat ≤ 16777216 then some (a, j) else none) >>= f) s1) Q := h
      split at h
      · rename_i z
        exact ⟨a, j, by rw [show v0 = .int a from Rm.flat r0 rfl, show v = .int j from Rm.flat r1 rfl], ⟨z.1, z.2.1, z.2.2.1, z.2.2.2.1⟩, hW a j s1 H1 (x0.trans x1) o1 k1 z.2.2.2.2 h⟩
      · exact h.elim
    | _ => exact h.elim
  | _ => exact h.elim
theorem sl_lcr (i : Nat) (a b c body : IE) (p_a : PI_ R cls Γ a) (p_b : PI_ R cls Γ b) (p_c : PI_ R cls Γ c) (p_body : PI_ R cls Γ body) (C : CC) (X : Cx) (e : Expr) (k : XOk R cls Γ C X) (h : chk C (.lcr i a b c body) e = true) : SL R cls Γ X e (.lcr i a b c body) := by
    unfold chk at h
    split at h
    · rename_i elt x tp r rp args rq ifs sc lp
      obtain ⟨h0, h⟩ := b2 h
      obtain ⟨h1, h⟩ := b2 h
      obtain ⟨h2, h⟩ := b2 h
      obtain ⟨h3, h⟩ := b2 h
      obtain ⟨h4, h⟩ := b2 h
      obtain ⟨h5, h⟩ := b2 h
      obtain ⟨h6, h⟩ := b2 h
      obtain ⟨h7, h8⟩ := b2 h
      have z := dec h0
      subst z
      obtain ⟨hg, d, hm, n⟩ := free_of k h1
      have pi : RngS R cls Γ X (.Name x tp) (.Call (.Name "range" rp) args [] rq) a b := by
        split at h7
        · obtain ⟨g1, g⟩ := b2 h7
          obtain ⟨g2, g3⟩ := b2 g
          exact lcr_1 hg hm g1 g2 (p_b C X _ k g3).1
        · obtain ⟨g1, g⟩ := b2 h7
          obtain ⟨g2, g⟩ := b2 g
          obtain ⟨g3, g4⟩ := b2 g
          exact lcr_2 hg hm g1 g2 (p_a C X _ k g3).1 (p_b C X _ k g4).1
        · cases h7
      obtain ⟨wi, pi, hwi⟩ := pi
      split at h8
      · refine sl_lcr0 (tt := tYes) k.calm k.nd (by rw [k.N, k.sc]; exact blkOk_by h3) pi (by rw [k.N]; exact dec h2) hwi (by rw [k.sc]; exact dec h4) (fun _ _ _ _ _ => pts_nil) (fun g A0 σ env d v s s1 b H K k o h hK => ?_) (fun s H c cl fp => (p_body _ _ _ (k.blk _ s H c cl fp) h6).1) (dec h5) (fun _ => rfl)
        unfold isY at h8
        split at h8
        · unfold ev at h
          obtain ⟨a, b'⟩ := ok_inj (show (Res.ok true s : Res R.S Bool) = .ok b s1 from h)
          subst a b'
          exact hK H Ext.refl o
        · cases h8
      · obtain ⟨g1, g2⟩ := b2 h8
        refine sl_lcr0 (tt := rdT R cls Γ X.K c) k.calm k.nd (by rw [k.N, k.sc]; exact blkOk_by h3) pi (by rw [k.N]; exact dec h2) hwi (by rw [k.sc]; exact dec h4) (fun s H C cl fp => pts_one (((p_c _ _ _ (k.blk _ s H C cl fp) g2).2 g1).1).pt) (fun g A0 σ env d v s s1 b H K k o h hK => ?_) (fun s H c cl fp => (p_body _ _ _ (k.blk _ s H c cl fp) h6).1) (dec h5) (fun _ => rfl)
        refine ⟨g, A0, _, s, k, o, ?_⟩
        rw [h]
        exact hK
      · cases h8
    · cases h
theorem p_lcr_ (i : Nat) (a b c body : IE) (p_a : PI_ R cls Γ a) (p_b : PI_ R cls Γ b) (p_c : PI_ R cls Γ c) (p_body : PI_ R cls Γ body) : PI_ R cls Γ (.lcr i a b c body) := fun C X e k h =>
 by
  have sl := (sl_lcr i a b c body p_a p_b p_c p_body C X e k h).se
  cases e with
  | ListComp _ _ _ _ => exact .val sl (fun _ => rfl) (fun _ _ _ z => nomatch z)
  | _ => unfold chk at h; cases h
theorem p_slc_ (bl bh : Bool) (a lo hi : IE) (p_a : PI_ R cls Γ a) (p_lo : PI_ R cls Γ lo) (p_hi : PI_ R cls Γ hi) : PI_ R cls Γ (.slc bl bh a lo hi) := fun C X e k h => by
  unfold chk at h
  split at h
  · rename_i x el eh sp pos
    obtain ⟨h0, h⟩ := b2 h
    obtain ⟨h1, h2⟩ := b2 h
    have s1 : SO R cls Γ X el bl lo := by
      split at h1
      · exact so_none
      · exact so_some (p_lo C X _ k h1).1
      · cases h1
    have s2 : SO R cls Γ X eh bh hi := by
      split at h2
      · exact so_none
      · exact so_some (p_hi C X _ k h2).1
      · cases h2
    exact .val (se_slc (p_a C X _ k h0).1 s1 s2) (fun _ => rfl) (fun _ _ _ z => nomatch z)
  · cases h
mutual
theorem p_all : ∀ ie : IE, PI_ R cls Γ ie
  | .var i => p_var_ i 
  | .bor i => p_bor_ i 
  | .cst d => p_cst_ d 
  | .glb j => p_glb_ j 
  | .neg a => p_neg_ a (p_all a)
  | .not a => p_not_ a (p_all a)
  | .bin o a b => p_bin_ o a b (p_all a) (p_all b)
  | .cmp o a b => p_cmp_ o a b (p_all a) (p_all b)
  | .chn o1 o2 a b c => p_chn_ o1 o2 a b c (p_all a) (p_all b) (p_all c)
  | .and a b => p_and_ a b (p_all a) (p_all b)
  | .or a b => p_or_ a b (p_all a) (p_all b)
  | .ite c a b => p_ite_ c a b (p_all c) (p_all a) (p_all b)
  | .tup es => p_tup_ es (ps_all es)
  | .lst es => p_lst_ es (ps_all es)
  | .idx a i => p_idx_ a i (p_all a) (p_all i)
  | .call f fr es => p_call_ f fr es (ps_all es)
  | .callK f fr es ks perm => p_callK_ f fr es ks perm (ps_all ks)
  | .bi f es => p_bi_ f es (ps_all es)
  | .lc i src body => p_lc_ i src body (p_all src) (p_all body)
  | .lci i src ic body => p_lci_ i src ic body (p_all src) (p_all ic) (p_all body)
  | .lrng a b => p_lrng_ a b (p_all a) (p_all b)
  | .slc bl bh a lo hi => p_slc_ bl bh a lo hi (p_all a) (p_all lo) (p_all hi)
  | .lcr i a b c body => p_lcr_ i a b c body (p_all a) (p_all b) (p_all c) (p_all body)
theorem ps_all : ∀ ies : List IE, ∀ ie ∈ ies, PI_ R cls Γ ie
  | [], _, h => nomatch h
  | i :: is, ie, h => (List.mem_cons.mp h).elim (fun e => e ▸ p_all i) (fun m => ps_all is ie m)
end
theorem chk_ok (ie : IE) (C : CC) (X : Cx) (e : Expr) (k : XOk R cls Γ C X) (h : chk C ie e = true) : Snd R cls Γ X e ie := p_all ie C X e k h
end
end Pv
end
section
set_option maxHeartbeats 4000000
namespace Pv
open PySem PySem.Spec PyProof.Rows L2

def Owns (env : IEnv) (σ : L2.St) (a : Addr) : Prop := ∃ (i : Nat) (d : D), env[i]? = some (some (d, Fl.own)) ∧ σ[i]? = some (some (.ref a))
def Wr (c : Rc) (env : IEnv) (σ : L2.St) (a : Addr) : Prop := Gv c a ∨ Owns env σ a
/-- from one place of a body to another -/
structure StepOk (R : RS) (c : Rc) (A0 : Addr → Prop) (H : Hp) (σ : L2.St) (env : IEnv) (H' : Hp) (σ' : L2.St) (env' : IEnv) (s' : R.S) : Prop where
  ok : R.ok c.g s' H'
  envk : EnvOk c A0 H' σ' env'
  ext : Ext (Wr c env σ) H H'
  there : ∀ a, H a ≠ none → H' a ≠ none
  own : ∀ (i : Nat) (d : D) (f : Fl) (a : Addr), env'[i]? = some (some (d, f)) → f = .held ∨ f = .own → σ'[i]? = some (some (.ref a)) → H a = none ∨ ∃ (d0 : D) (f0 : Fl), env[i]? = some (some (d0, f0)) ∧ (f0 = .held ∨ f0 = .own) ∧ σ[i]? = some (some (.ref a)) ∧ (f = .own → f0 = .own)
/-- a value handed back -/
structure RetOk (R : RS) (c : Rc) (A0 : Addr → Prop) (H : Hp) (σ : L2.St) (env : IEnv) (H' : Hp) (v : V) (d : D) (fr : Bool) (s' : R.S) : Prop where
  ok : R.ok c.g s' H'
  ext : Ext (Wr c env σ) H H'
  there : ∀ a, H a ≠ none → H' a ≠ none
  val : if fr = true then ((isBox d = false ∧ Rp c A0 H' d v) ∨ ∃ a, v = .ref a ∧ (H a = none ∨ Owns env σ a) ∧ ¬ A0 a ∧ CellAt c (Plus A0 a) H' a d) else Rp c A0 H' d v
section
variable {R : RS} {cls : Str → Addr} {Γ : Gm R.S} {X : Cx}
theorem Ext.tracked {c : Rc} {H H1 : Hp} {s1 : R.S} (e : Ext (Gv c) H H1) (o : R.ok c.g s1 H1) : ∀ a, H a ≠ none → H1 a ≠ none := fun a h => by
  by_cases w : Gv c a
  · obtain ⟨u, q, _⟩ := R.there o a w
    rw [q]; simp
  · exact e.some h w
theorem StepOk.expr {c : Rc} {A0 : Addr → Prop} {H H1 : Hp} {σ : L2.St} {env : IEnv} {s1 : R.S} (k1 : EnvOk c A0 H1 σ env) (x1 : Ext (Gv c) H H1) (o1 : R.ok c.g s1 H1) : StepOk R c A0 H σ env H1 σ env s1 :=
  ⟨o1, k1, x1.more fun _ h => .inl h, x1.tracked o1, fun i d f a h1 h2 h3 => .inr ⟨d, f, h1, h2, h3, id⟩⟩
theorem StepOk.refl {c : Rc} {A0 : Addr → Prop} {H : Hp} {σ : L2.St} {env : IEnv} {s1 : R.S} (k1 : EnvOk c A0 H σ env) (o1 : R.ok c.g s1 H) : StepOk R c A0 H σ env H σ env s1 := .expr k1 Ext.refl o1
theorem owns_back {c : Rc} {A0 : Addr → Prop} {H H1 : Hp} {σ σ1 : L2.St} {env e1 : IEnv} {s1 : R.S} (a : StepOk R c A0 H σ env H1 σ1 e1 s1) {b : Addr} (h : Owns e1 σ1 b) : H b = none ∨ Owns env σ b := by
  obtain ⟨i, d, h1, h2⟩ := h
  rcases a.own i d _ b h1 (.inr rfl) h2 with z | ⟨d0, f0, q1, q2, q3, q4⟩
  · exact .inl z
  · rw [q4 rfl] at q1
    exact .inr ⟨i, d0, q1, q3⟩
theorem ext_step {c : Rc} {A0 : Addr → Prop} {H H1 H2 : Hp} {σ σ1 : L2.St} {env e1 : IEnv} {s1 : R.S} (a : StepOk R c A0 H σ env H1 σ1 e1 s1) (b : Ext (Wr c e1 σ1) H1 H2) : Ext (Wr c env σ) H H2 := fun x o h w => by
  refine b x o (a.ext x o h w) ?_
  rcases w with w | w
  · refine .inl fun z => ?_
    rcases z with z | z
    · exact w (.inl z)
    · rcases owns_back a z with q | q
      · rw [q] at h; cases h
      · exact w (.inr q)
  · exact .inr w
theorem StepOk.trans {c : Rc} {A0 : Addr → Prop} {H H1 H2 : Hp} {σ σ1 σ2 : L2.St} {env e1 e2 : IEnv} {s1 s2 : R.S} (a : StepOk R c A0 H σ env H1 σ1 e1 s1) (b : StepOk R c A0 H1 σ1 e1 H2 σ2 e2 s2) : StepOk R c A0 H σ env H2 σ2 e2 s2 where
  ok := b.ok
  envk := b.envk
  ext := ext_step a b.ext
  there := fun x h => b.there x (a.there x h)
  own := fun i d f x h1 h2 h3 => by
    rcases b.own i d f x h1 h2 h3 with z | ⟨d0, f0, q1, q2, q3, q4⟩
    · refine .inl ?_
      cases q : H x with
      | none => rfl
      | some u => exact absurd z (a.there x (by rw [q]; simp))
    · rcases a.own i d0 f0 x q1 q2 q3 with z | ⟨d1, f1, p1, p2, p3, p4⟩
      · exact .inl z
      · exact .inr ⟨d1, f1, p1, p2, p3, fun e => p4 (q4 e)⟩
theorem RetOk.from {c : Rc} {A0 : Addr → Prop} {H H1 H2 : Hp} {σ σ1 : L2.St} {env e1 : IEnv} {s1 s2 : R.S} {v : V} {d : D} {fr : Bool} (a : StepOk R c A0 H σ env H1 σ1 e1 s1) (b : RetOk R c A0 H1 σ1 e1 H2 v d fr s2) : RetOk R c A0 H σ env H2 v d fr s2 where
  ok := b.ok
  ext := ext_step a b.ext
  there := fun x h => b.there x (a.there x h)
  val := by
    have h := b.val
    split at h
    · rename_i e
      rw [if_pos e]
      rcases h with h | ⟨p, h1, h2, h3, h4⟩
      · exact .inl h
      · refine .inr ⟨p, h1, ?_, h3, h4⟩
        rcases h2 with h2 | h2
        · refine .inl ?_
          cases q : H p with
          | none => rfl
          | some u => exact absurd h2 (a.there p (by rw [q]; simp))
        · exact owns_back a h2
    · rename_i e
      rw [if_neg e]
      exact h
/-- what is wanted behind a statement -/
def PostS (R : RS) (c : Rc) (A0 : Addr → Prop) (H : Hp) (σ : L2.St) (env : IEnv) (r : Res R.S Out) (D : Ends) : Prop := match r with
  | .ok (.nx e) s => ∀ σ' H', StepOk R c A0 H σ env H' σ' e s → D.nx σ' H'
  | .ok (.bk e) s => ∀ σ' H', StepOk R c A0 H σ env H' σ' e s → D.bk σ' H'
  | .ok (.ct e) s => ∀ σ' H', StepOk R c A0 H σ env H' σ' e s → D.ct σ' H'
  | .ok (.ret d fr) s => ∀ v H', RetOk R c A0 H σ env H' v d fr s → D.rt v H'
  | _ => False
theorem PostS.from {c : Rc} {A0 : Addr → Prop} {H H1 : Hp} {σ σ1 : L2.St} {env e1 : IEnv} {s1 : R.S} {r : Res R.S Out} {D : Ends} (a : StepOk R c A0 H σ env H1 σ1 e1 s1) (h : PostS R c A0 H σ env r D) : PostS R c A0 H1 σ1 e1 r D := by
  cases r with
  | bad => exact h
  | er _ _ _ => exact h
  | ok o s =>
    cases o with
    | nx e => exact fun σ' H' b => h σ' H' (a.trans b)
    | bk e => exact fun σ' H' b => h σ' H' (a.trans b)
    | ct e => exact fun σ' H' b => h σ' H' (a.trans b)
    | ret d fr => exact fun v H' b => h v H' (b.from a)
theorem postS_bad {c : Rc} {A0 : Addr → Prop} {H : Hp} {σ : L2.St} {env : IEnv} {D : Ends} : ¬ PostS R c A0 H σ env .bad D := id
theorem postS_er {c : Rc} {A0 : Addr → Prop} {H : Hp} {σ : L2.St} {env : IEnv} {D : Ends} : ∀ x d s, ¬ PostS R c A0 H σ env (.er x d s) D := fun _ _ _ => id
def SS (R : RS) (cls : Str → Addr) (Γ : Gm R.S) (N : Nat) (X : Cx) (st : Stmt) (is : IS) : Prop :=
  ∃ t, PS X st t ∧ ∀ D σ H g A0 env s, EnvOk (rc cls X g) A0 H σ env → R.ok g s H → PostS R (rc cls X g) A0 H σ env (ex Γ N is env s) D → t D σ H
def SSs (R : RS) (cls : Str → Addr) (Γ : Gm R.S) (N : Nat) (X : Cx) (st : List Stmt) (is : List IS) : Prop :=
  ∃ t, PSs X st t ∧ ∀ D σ H g A0 env s, EnvOk (rc cls X g) A0 H σ env → R.ok g s H → PostS R (rc cls X g) A0 H σ env (exs Γ N is env s) D → t D σ H
variable {N : Nat}
section
variable {ie : IE} {t : TE} {tt : TT} {ies : List IE} {ta : TA} {σ : L2.St} {H : Hp} {g : List Addr} {A0 : Addr → Prop} {env : IEnv} {s : R.S} {c : Rc} {A1 : Addr → Prop} {H0 : Hp} {σ0 : L2.St} {env0 : IEnv} {D : Ends}
theorem SE.bindS (q : ∀ σ H Q g A0 env s, EnvOk (rc cls X g) A0 H σ env → R.ok g s H → PostE R (md ie) (rc cls X g) (Av A0 env σ) H (ev Γ ie env s) Q → t σ H Q) (k : EnvOk (rc cls X g) A0 H σ env) (o : R.ok g s H) {f : Pv.D → M R.S Out} (h : PostS R c A1 H0 σ0 env0 ((ev Γ ie env >>= f) s) D)
    {K : VK} (hk : ∀ d s1 v H1, Ext (Gv (rc cls X g)) H H1 → R.ok g s1 H1 → Rm (md ie) (rc cls X g) (Av A0 env σ) H H1 d v → EnvOk (rc cls X g) A0 H1 σ env → PostS R c A1 H0 σ0 env0 (f d s1) D → K v H1) : t σ H K := SE.bind (P := fun r => PostS R c A1 H0 σ0 env0 r D) q k o postS_bad postS_er h hk
theorem ST.bindS (q : ∀ σ H Q g A0 env s, EnvOk (rc cls X g) A0 H σ env → R.ok g s H → PostT R (rc cls X g) H ((ev Γ ie env >>= truth) s) Q → tt σ H Q) (k : EnvOk (rc cls X g) A0 H σ env) (o : R.ok g s H) {f : Bool → M R.S Out} (h : PostS R c A1 H0 σ0 env0 (((ev Γ ie env >>= truth) >>= f) s) D)
    {K : Bool → Hp → Prop} (hk : ∀ d s1 H1, Ext (Gv (rc cls X g)) H H1 → R.ok g s1 H1 → EnvOk (rc cls X g) A0 H1 σ env → PostS R c A1 H0 σ0 env0 (f d s1) D → K d H1) : tt σ H K := ST.bind (P := fun r => PostS R c A1 H0 σ0 env0 r D) q k o postS_bad postS_er h hk
theorem SA.bindS (q : ∀ σ H Q g A0 env s, EnvOk (rc cls X g) A0 H σ env → R.ok g s H → PostA R ies (rc cls X g) (Av A0 env σ) H (evs Γ ies env s) Q → ta σ H Q) (k : EnvOk (rc cls X g) A0 H σ env) (o : R.ok g s H) {f : List Pv.D → M R.S Out} (h : PostS R c A1 H0 σ0 env0 ((evs Γ ies env >>= f) s) D)
    {K : List V → Hp → Prop} (hk : ∀ d s1 v H1, Ext (Gv (rc cls X g)) H H1 → R.ok g s1 H1 → Rms (rc cls X g) (Av A0 env σ) H H1 ies d v → EnvOk (rc cls X g) A0 H1 σ env → PostS R c A1 H0 σ0 env0 (f d s1) D → K v H1) : ta σ H K := SA.bind (P := fun r => PostS R c A1 H0 σ0 env0 r D) q k o postS_bad postS_er h hk
theorem opt_ofS {α : Type} {x : Option α} {f : α → M R.S Out} (h : PostS R c A1 H0 σ0 env0 ((opt x >>= f) s) D) : ∃ a, x = some a ∧ PostS R c A1 H0 σ0 env0 (f a s) D := opt_of (P := fun r => PostS R c A1 H0 σ0 env0 r D) postS_bad h
end

/-! ### blocks -/
theorem ss_nil : SSs R cls Γ N X [] [] := ⟨_, pss_nil, fun D σ H g A0 env s k o h => h σ H (.refl k o)⟩
theorem ss_cons {st : Stmt} {sts : List Stmt} {is : IS} {iss : List IS} (h1 : SS R cls Γ N X st is) (h2 : SSs R cls Γ N X sts iss) : SSs R cls Γ N X (st :: sts) (is :: iss) := by
  obtain ⟨t1, p1, q1⟩ := h1
  obtain ⟨t2, p2, q2⟩ := h2
  refine ⟨_, pss_cons p1 p2, fun D σ H g A0 env s k o h => ?_⟩
  refine q1 _ σ H g A0 env s k o ?_
  unfold exs at h
  rw [bind_def] at h
  cases z : ex Γ N is env s with
  | bad => rw [z] at h; exact h
  | er _ _ _ => rw [z] at h; exact h
  | ok u s1 =>
    rw [z] at h
    cases u with
    | nx e =>
      intro σ1 H1 a
      exact q2 D σ1 H1 g A0 e s1 a.envk a.ok (h.from a)
    | bk e => exact fun σ' H' b => h σ' H' b
    | ct e => exact fun σ' H' b => h σ' H' b
    | ret d fr => exact fun v H' b => h v H' b

/-! ### slots stored -/
theorem put_get {env : IEnv} {i j : Nat} {d e : D} {f f' : Fl} (h : (put env i d f)[j]? = some (some (e, f'))) : (i = j ∧ e = d ∧ f' = f ∧ j < env.length) ∨ (i ≠ j ∧ env[j]? = some (some (e, f'))) := by
  unfold Pv.put at h
  by_cases hij : i = j
  · subst hij
    by_cases hl : i < env.length
    · rw [List.getElem?_set_self hl] at h
      cases h
      exact .inl ⟨rfl, rfl, rfl, hl⟩
    · rw [List.getElem?_eq_none (by simpa using hl)] at h
      cases h
  · rw [List.getElem?_set_ne hij] at h
    exact .inr ⟨hij, h⟩
theorem StepOk.put {c : Rc} {A0 : Addr → Prop} {H H1 : Hp} {σ : L2.St} {env : IEnv} {s1 : R.S} {i : Nat} {d : D} {v : V} (k1 : EnvOk c A0 H1 σ env) (x1 : Ext (Gv c) H H1) (o1 : R.ok c.g s1 H1) (r : Rp c (Av A0 env σ) H1 d v) : StepOk R c A0 H σ env H1 (σ.set i (some v)) (Pv.put env i d .frz) s1 :=
  ⟨o1, k1.put r, x1.more fun _ h => .inl h, x1.tracked o1, fun j e f a h1 h2 h3 => by
    rcases put_get h1 with ⟨rfl, rfl, z, _⟩ | ⟨hij, h1⟩
    · rw [z] at h2; rcases h2 with h2 | h2 <;> cases h2
    · rw [List.getElem?_set_ne hij] at h3
      exact .inr ⟨e, f, h1, h2, h3, id⟩⟩
/-- a new object of the def's own -/
theorem EnvOk.putOwn {c : Rc} {A0 : Addr → Prop} {H1 : Hp} {σ : L2.St} {env : IEnv} {i : Nat} {d : D} {a : Addr} {H : Hp} (k0 : EnvOk c A0 H σ env) (hp0 : H a = none) (x1 : Ext (Gv c) H H1) (hg1 : ∀ b, Gv c b → H1 b ≠ none) (h : CellAt c (Av (Plus A0 a) env σ) H1 a d) : EnvOk c A0 H1 (σ.set i (some (.ref a))) (Pv.put env i d .own) := by
  have k := k0.plus hp0 x1 hg1 h.there
  have na : ¬ A0 a := fun z => k0.tr a z hp0
  have tr : ∀ b, A0 b → H1 b ≠ none := fun b z => k.tr b (.inl z)
  have hg : ∀ b, Gv c b → A0 b := k0.g
  have hp : ∀ {b : Addr}, Held (Pv.put env i d .own) (σ.set i (some (.ref a))) b → b = a ∨ Held env σ b := fun {b} z => by
    obtain ⟨j, e, f, h1, h2, h3⟩ := z
    rcases put_get h1 with ⟨rfl, rfl, q, hl⟩ | ⟨hij, h1⟩
    · rw [List.getElem?_set_self (by rw [← k.len]; exact hl)] at h3
      cases h3
      exact .inl rfl
    · rw [List.getElem?_set_ne hij] at h3
      exact .inr ⟨j, e, f, h1, h2, h3⟩
  have anti : ∀ b, Av A0 (Pv.put env i d .own) (σ.set i (some (.ref a))) b → Av (Plus A0 a) env σ b := fun b z => by
    rcases z with z | z
    · exact .inl (.inl z)
    · exact (hp z).elim (fun e => .inl (.inr e)) .inr
  have rp : ∀ {e : D} {w : V}, Rp c (Av (Plus A0 a) env σ) H1 e w → Rp c (Av A0 (Pv.put env i d .own) (σ.set i (some (.ref a)))) H1 e w := fun {e w} h => Rp.mono (Ext.refl (W := fun _ => False)) (fun _ z => z.elim) (fun a z => .inl (anti a z)) e w h
  have ca : ∀ {e : D} {b : Addr}, CellAt c (Av (Plus A0 a) env σ) H1 b e → CellAt c (Av A0 (Pv.put env i d .own) (σ.set i (some (.ref a)))) H1 b e := fun {e b} h => h.mono (Ext.refl (W := fun _ => False)) (fun _ z => z.elim) (fun a z => .inl (anti a z)) id
  refine ⟨by unfold Pv.put; rw [List.length_set, List.length_set]; exact k.len, tr, hg, fun j e h => ?_, fun j e h => ?_, fun j e f h1 hf => ?_, fun j l e e' f f' b h1 f1 h2 f2 s1 s2 => ?_⟩
  · rcases put_get h with ⟨rfl, rfl, z, hl⟩ | ⟨hij, h⟩
    · cases z
    · obtain ⟨w, e1, e2⟩ := k.frz j e h
      exact ⟨w, by rw [List.getElem?_set_ne hij]; exact e1, rp e2⟩
  · rcases put_get h with ⟨rfl, rfl, z, _⟩ | ⟨hij, h⟩
    · cases z
    · obtain ⟨w, e1, e2⟩ := k0.lent j e h
      refine ⟨w, by rw [List.getElem?_set_ne hij]; exact e1, ?_⟩
      have n : ∀ b, Av A0 (Pv.put env i d .own) (σ.set i (some (.ref a))) b → Av A0 env σ b ∨ H b = none := fun b z => by
        rcases anti b z with (z | z) | z
        · exact .inl (.inl z)
        · rw [z]; exact .inr hp0
        · exact .inl (.inr z)
      rcases e2 with e2 | ⟨b, q1, q2, q3, q4⟩
      · exact .inl (Rp.mono x1 k0.gA n _ _ e2)
      · exact .inr ⟨b, q1, q2, fun z => (hp z).elim (fun z => q4.there (by rw [z]; exact hp0)) q3, q4.mono x1 k0.gA n q2⟩
  · rcases put_get h1 with ⟨rfl, rfl, z, hl⟩ | ⟨hij, h1⟩
    · exact ⟨a, by rw [List.getElem?_set_self (by rw [← k.len]; exact hl)], na, ca h⟩
    · obtain ⟨b, e1, e2, e3⟩ := k.hld j e f h1 hf
      exact ⟨b, by rw [List.getElem?_set_ne hij]; exact e1, fun z => e2 (.inl z), ca e3⟩
  · have key : ∀ {j : Nat} {e : D} {f : Fl}, i ≠ j → env[j]? = some (some (e, f)) → f = .held ∨ f = .own → (σ.set i (some (.ref a)))[j]? = some (some (V.ref b)) → b ≠ a := by
      intro j e f hij h hf hs z
      rw [List.getElem?_set_ne hij] at hs
      obtain ⟨b', q1, q2, _⟩ := k.hld j e f h hf
      rw [hs] at q1
      cases q1
      exact q2 (.inr z)
    rcases put_get h1 with ⟨ej, _, z1, hl⟩ | ⟨hij, g1⟩
    · rcases put_get h2 with ⟨el, _, _, _⟩ | ⟨hil, g2⟩
      · exact ej.symm.trans el
      · subst ej
        rw [List.getElem?_set_self (by rw [← k.len]; exact hl)] at s1
        have q := key hil g2 f2 s2
        cases s1
        exact absurd rfl q
    · rcases put_get h2 with ⟨el, _, _, hl⟩ | ⟨hil, g2⟩
      · subst el
        rw [List.getElem?_set_self (by rw [← k.len]; exact hl)] at s2
        have q := key hij g1 f1 s1
        cases s2
        exact absurd rfl q
      · rw [List.getElem?_set_ne hij] at s1
        rw [List.getElem?_set_ne hil] at s2
        exact k.inj j l e e' f f' b g1 f1 g2 f2 s1 s2
theorem StepOk.putOwn {c : Rc} {A0 : Addr → Prop} {H H1 : Hp} {σ : L2.St} {env : IEnv} {s1 : R.S} {i : Nat} {d : D} {v : V} (k : EnvOk c A0 H σ env) (x1 : Ext (Gv c) H H1) (o1 : R.ok c.g s1 H1) (hb : isBox d = true) (r : Fr c (Av A0 env σ) H H1 d v) : StepOk R c A0 H σ env H1 (σ.set i (some v)) (Pv.put env i d .own) s1 := by
  rcases r with r | ⟨a, e1, e2, e3⟩
  · rw [r.1] at hb; cases hb
  · subst e1
    have t := x1.tracked o1
    refine ⟨o1, k.putOwn e2 x1 (fun b z => t b (k.gTr b z)) (e3.mono (Ext.refl (W := fun _ => False)) (fun _ z => z.elim) (fun b z => .inl ?_) id), x1.more fun _ h => .inl h, t, fun j e f b h1 h2 h3 => ?_⟩
    · rcases z with (z | z) | z
      · exact .inl (.inl z)
      · exact .inr z
      · exact .inl (.inr z)
    · rcases put_get h1 with ⟨rfl, rfl, _, hl⟩ | ⟨hij, h1⟩
      · rw [List.getElem?_set_self (by rw [← k.len]; exact hl)] at h3
        cases h3
        exact .inl e2
      · rw [List.getElem?_set_ne hij] at h3
        exact .inr ⟨e, f, h1, h2, h3, id⟩
/-- name = e -/
theorem asg_ok {t : TE} {ie : IE} {i : Nat} (own : Bool) (hm : own = true → md ie = .fr) (hm2 : own = false → md ie ≠ .bor) (q : ∀ σ H Q g A0 env s, EnvOk (rc cls X g) A0 H σ env → R.ok g s H → PostE R (md ie) (rc cls X g) (Av A0 env σ) H (ev Γ ie env s) Q → t σ H Q) :
    ∀ D σ H g A0 env s, EnvOk (rc cls X g) A0 H σ env → R.ok g s H → PostS R (rc cls X g) A0 H σ env (ex Γ N (.set i own ie) env s) D → tAsg t (gName i) D σ H := fun D σ H g A0 env s k o h => by
  unfold ex at h
  refine SE.bindS q k o h fun d s1 v H1 x1 o1 r1 k1 h => ?_
  show D.nx (σ.set i (some v)) H1
  cases own with
  | false => exact h _ H1 (.put k1 x1 o1 (r1.rp (hm2 rfl) k.trA))
  | true =>
    rw [hm rfl] at r1
    cases d with
    | lst l => exact h _ H1 (.putOwn k x1 o1 rfl r1)
    | dct l => exact h _ H1 (.putOwn k x1 o1 rfl r1)
    | _ => exact h.elim
theorem ss_set {e : Expr} {ie : IE} {x : Str} {i : Nat} {own : Bool} {pos pos' : Pos} (h1 : SE R cls Γ X e ie) (hm : own = true → md ie = .fr) (hm2 : own = false → md ie ≠ .bor) (hN : X.N.Nodup) (hi : X.N[i]? = some x) (hx : Loc X.env.scope x) (hs : swapsWith e (some (.Name x pos')) pos.line X.env = pure false)
    (hf : X.fn x = true ∨ X.env.scope.names.lookup x = some .local) : SS R cls Γ N X (.Assign [.Name x pos'] e pos) (.set i own ie) := by
  obtain ⟨t, p, q⟩ := h1
  exact ⟨_, ps_set hN hi hx p hs hf, asg_ok own hm hm2 q⟩
theorem ss_ret {e : Expr} {ie : IE} {pos : Pos} (h1 : SE R cls Γ X e ie) (hm : md ie ≠ .bor) : SS R cls Γ N X (.Return (some e) pos) (.ret ie) := by
  obtain ⟨t, p, q⟩ := h1
  refine ⟨_, ps_ret p, fun D σ H g A0 env s k o h => ?_⟩
  unfold ex at h
  refine SE.bindS q k o h fun d s1 v H1 x1 o1 r1 k1 h => ?_
  refine h v H1 ⟨o1, x1.more fun _ h => .inl h, x1.tracked o1, ?_⟩
  have anti : ∀ {A : Addr → Prop} {b : Addr}, A0 b → Av A0 env σ b := fun h => .inl h
  by_cases hf : md ie = .fr
  · rw [hf] at r1
    rw [if_pos (decide_eq_true hf)]
    rcases r1 with r1 | ⟨a, e1, e2, e3⟩
    · exact .inl ⟨r1.1, Rp.mono (Ext.refl (W := fun _ => False)) (fun _ z => z.elim) (fun b z => .inl (.inl z)) _ _ r1.2⟩
    · exact .inr ⟨a, e1, .inl e2, fun z => k.tr a z e2, e3.mono (Ext.refl (W := fun _ => False)) (fun _ z => z.elim) (fun b z => .inl (z.imp .inl id)) id⟩
  · rw [if_neg (fun z => hf (of_decide_eq_true z))]
    exact Rp.mono (Ext.refl (W := fun _ => False)) (fun _ z => z.elim) (fun b z => .inl (.inl z)) _ _ (r1.rp hm k.trA)
theorem ss_retO {x : Str} {i : Nat} {pos pos' : Pos} (hN : X.N[i]? = some x) (hv : Vis X.env.scope x) (hd : (x == ("__debug__" : Str)) = false) (hcd : (x == ("__classdict__" : Str)) = false) : SS R cls Γ N X (.Return (some (.Name x pos')) pos) (.retO i) := by
  refine ⟨_, ps_ret (pe_var hN hv hd hcd), fun D σ H g A0 env s k o h => ?_⟩
  unfold ex at h
  cases q : getI env i with
  | none => rw [q] at h; exact h.elim
  | some p =>
    obtain ⟨d, f⟩ := p
    rw [q] at h
    cases f with
    | own =>
      have q' := getI_eq q
      obtain ⟨a, e1, e2, e3⟩ := k.hld i d _ q' (.inr rfl)
      refine ⟨_, e1, h (.ref a) H ⟨o, Ext.refl, fun _ z => z, ?_⟩⟩
      rw [if_pos rfl]
      refine .inr ⟨a, rfl, .inr ⟨i, d, q', e1⟩, e2, e3.mono (Ext.refl (W := fun _ => False)) (fun _ z => z.elim) (fun b z => .inl ?_) id⟩
      rcases z with z | z
      · exact .inl z
      · rw [z]; exact .inr ⟨i, d, _, q', .inr rfl, e1⟩
    | _ => exact h.elim
theorem ss_retN {pos : Pos} : SS R cls Γ N X (.Return none pos) .retN :=
  ⟨_, ps_retN, fun D σ H g A0 env s k o h => h .non H ⟨o, Ext.refl, fun _ z => z, by rw [if_neg Bool.false_ne_true]; exact rfl⟩⟩
theorem ss_exp {e : Expr} {ie : IE} {pos : Pos} (h1 : SE R cls Γ X e ie) (hs : swapsWith e none pos.line X.env = pure false) : SS R cls Γ N X (.Expr e pos) (.exp ie) := by
  obtain ⟨t, p, q⟩ := h1
  refine ⟨_, ps_expr p hs, fun D σ H g A0 env s k o h => ?_⟩
  unfold ex at h
  exact SE.bindS q k o h fun d s1 v H1 x1 o1 r1 k1 h => h σ H1 (.expr k1 x1 o1)
theorem ss_pas {pos : Pos} : SS R cls Γ N X (.Pass pos) .pas := ⟨_, ps_pass, fun D σ H g A0 env s k o h => h σ H (.refl k o)⟩
theorem ss_brk {pos : Pos} : SS R cls Γ N X (.Break pos) .brk := ⟨_, ps_break, fun D σ H g A0 env s k o h => h σ H (.refl k o)⟩
theorem ss_cnt {pos : Pos} : SS R cls Γ N X (.Continue pos) .cnt := ⟨_, ps_continue, fun D σ H g A0 env s k o h => h σ H (.refl k o)⟩
theorem ss_never {st : Stmt} : SS R cls Γ N X st .never := ⟨_, ps_never, fun D σ H g A0 env s k o h => h.elim⟩
theorem ss_ite {c : Expr} {ic : IE} {a b : List Stmt} {ia ib : List IS} {pos : Pos} (h0 : ST R cls Γ X c ic) (h1 : SSs R cls Γ N X a ia) (h2 : SSs R cls Γ N X b ib) : SS R cls Γ N X (.If c a b pos) (.ite ic ia ib) := by
  obtain ⟨t0, p0, q0⟩ := h0
  obtain ⟨t1, p1, q1⟩ := h1
  obtain ⟨t2, p2, q2⟩ := h2
  refine ⟨_, ps_if p0 p1 p2, fun D σ H g A0 env s k o h => ?_⟩
  unfold ex at h
  refine ST.bindS q0 k o h fun z s1 H1 x1 o1 k1 h => ?_
  have st : StepOk R (rc cls X g) A0 H σ env H1 σ env s1 := .expr k1 x1 o1
  cases z with
  | true =>
    rw [if_pos rfl] at h ⊢
    exact q1 D σ H1 g A0 env s1 k1 o1 (h.from st)
  | false =>
    rw [if_neg Bool.false_ne_true] at h ⊢
    exact q2 D σ H1 g A0 env s1 k1 o1 (h.from st)
end
end Pv
end
section
set_option maxHeartbeats 4000000
namespace Pv
open PySem PySem.Spec PyProof.Rows L2

def setS (σ : L2.St) : List Nat → List V → L2.St
  | i :: is, v :: vs => setS (σ.set i (some v)) is vs
  | _, _ => σ
section
variable {R : RS} {cls : Str → Addr} {Γ : Gm R.S} {X : Cx} {N : Nat}
theorem Rps.anti {c : Rc} {A A' : Addr → Prop} {H : Hp} {ds : List D} {vs : List V} (h : Rps c A H ds vs) (n : ∀ a, A' a → A a) : Rps c A' H ds vs := Rps.mono (Ext.refl (W := fun _ => False)) (fun _ z => z.elim) (fun a z => .inl (n a z)) _ _ h
theorem Rp.anti {c : Rc} {A A' : Addr → Prop} {H : Hp} {d : D} {v : V} (h : Rp c A H d v) (n : ∀ a, A' a → A a) : Rp c A' H d v := Rp.mono (Ext.refl (W := fun _ => False)) (fun _ z => z.elim) (fun a z => .inl (n a z)) _ _ h
theorem CellAt.anti {c : Rc} {A A' : Addr → Prop} {H : Hp} {d : D} {a : Addr} (h : CellAt c A H a d) (n : ∀ a, A' a → A a) : CellAt c A' H a d := h.mono (Ext.refl (W := fun _ => False)) (fun _ z => z.elim) (fun a z => .inl (n a z)) id
theorem puts_ok {c : Rc} {A0 : Addr → Prop} {H1 : Hp} {s1 : R.S} (o1 : R.ok c.g s1 H1) : ∀ {is : List Nat} {ds : List D} {vs : List V} {σ : L2.St} {env : IEnv}, EnvOk c A0 H1 σ env → Rps c (Av A0 env σ) H1 ds vs → is.length = ds.length → StepOk R c A0 H1 σ env H1 (setS σ is vs) (puts env is ds) s1
  | [], [], vs, σ, env, k, r, _ => by
    have r : vs = [] := r
    subst r
    exact .refl k o1
  | [], _ :: _, _, _, _, _, _, h => by simp at h
  | _ :: _, [], _, _, _, _, _, h => by simp at h
  | i :: is, d :: ds, vs, σ, env, k, r, h => by
    obtain ⟨v, ws, rfl, r1, r2⟩ := r
    have a : StepOk R c A0 H1 σ env H1 (σ.set i (some v)) (put env i d .frz) s1 := .put k Ext.refl o1 r1
    exact a.trans (puts_ok o1 a.envk (r2.anti fun b z => z.imp id Held.put) (by simpa using h))
/-- names as targets -/
def gNames : List Nat → TGs
  | [] => gNil
  | i :: is => gCons (gName i) (gNames is)
theorem gNames_ok : ∀ {is : List Nat} {vs : List V} {σ : L2.St} {H : Hp} {Q : L2.St → Hp → Prop}, vs.length = is.length → Q (setS σ is vs) H → gNames is vs σ H Q
  | [], [], _, _, _, _, q => ⟨rfl, q⟩
  | [], _ :: _, _, _, _, h, _ => by simp at h
  | _ :: _, [], _, _, _, h, _ => by simp at h
  | i :: is, v :: vs, σ, H, Q, h, q => ⟨v, vs, rfl, gNames_ok (is := is) (by simpa using h) q⟩
def tgOk (Ns : List Str) (sc : Scope) : List Nat → List Expr → Bool
  | [], es => es.isEmpty
  | i :: is, es => match es with
    | .Name x _ :: es => decide (Ns[i]? = some x) && ((match sc.names.lookup x with | some .local => true | some .cell => true | _ => false) && tgOk Ns sc is es)
    | _ => false
theorem loc_of {sc : Scope} {x : Str} (h : (match sc.names.lookup x with | some .local => true | some .cell => true | _ => false) = true) : Loc sc x := by
  split at h
  · rename_i e; exact .inl e
  · rename_i e; exact .inr e
  · cases h
theorem pgs_of (nd : X.N.Nodup) (hf : ∀ x, X.fn x = true) : ∀ {is : List Nat} {es : List Expr}, tgOk X.N X.env.scope is es = true → PGs X es (gNames is) ∧ (assignEach es X.env).length = is.length ∧ (assignEach es X.env).findIdx? (·.1) = none
  | [], es, h => by
    cases es with
    | nil => exact ⟨pgs_nil, rfl, rfl⟩
    | cons e es => cases h
  | i :: is, es, h => by
    unfold tgOk at h
    split at h
    · obtain ⟨h1, h⟩ := b2 h
      obtain ⟨h2, h3⟩ := b2 h
      obtain ⟨p1, p2, p3⟩ := pgs_of nd hf h3
      refine ⟨pgs_cons (pg_name nd (dec h1) (loc_of h2) (.inl (hf _))) p1 rfl, ?_, ?_⟩
      · show (assignEach _ X.env).length + 1 = is.length + 1
        rw [p2]
      · show List.findIdx? (·.1) ((false, _) :: assignEach _ X.env) = none
        rw [List.findIdx?_cons, p3]
        rfl
    · cases h
/-- a, b = e, e a tuple or a list -/
theorem pg_tl {es : List Expr} {k : Nat} {t : TGs} {n : Nat} {pos : Pos} (hc : X.calm = true) (h : PGs X es t) (hn : (assignEach es X.env).length = n) (hst : (assignEach es X.env).findIdx? (·.1) = none) :
    PG X (.Tuple es k pos) (fun v σ H Q => ∃ a xs, v = .ref a ∧ (SqT X.K H a xs ∨ SqL X.K H a xs) ∧ xs.length = n ∧ t xs σ H Q) := by
  refine ⟨fun pins s σ H v u Q I r ⟨a, xs, e1, e2, e3, e4⟩ => ?_⟩
  rcases e2 with e2 | e2
  · exact (pg_tup hc h hn hst).run pins s σ H v u Q I r ⟨a, xs, e1, e2, e3, e4⟩
  · exact (pg_unl hc h hn hst).run pins s σ H v u Q I r ⟨a, xs, e1, e2, e3, e4⟩
theorem ss_unp {e : Expr} {ie : IE} {ts : List Expr} {is : List Nat} {k : Nat} {pos tpos : Pos} (h1 : SE R cls Γ X e ie) (hm : md ie ≠ .bor) (hc : X.calm = true) (nd : X.N.Nodup) (hf : ∀ x, X.fn x = true) (ht : tgOk X.N X.env.scope is ts = true)
    (hs : swapsWithSole [.Tuple ts k tpos] e pos.line X.env = pure false) (hw : swappedStores [.Tuple ts k tpos] e X.env = pure none) : SS R cls Γ N X (.Assign [.Tuple ts k tpos] e pos) (.unp is ie) := by
  obtain ⟨t, p, q⟩ := h1
  obtain ⟨p1, p2, p3⟩ := pgs_of nd hf ht
  refine ⟨_, ps_asg p (pg_tl hc p1 p2 p3) hs hw rfl, fun D σ H g A0 env s k o h => ?_⟩
  unfold ex at h
  refine SE.bindS q k o h fun d s1 v H1 x1 o1 r1 k1 h => ?_
  have r := r1.rp hm k.trA
  have st : StepOk R (rc cls X g) A0 H σ env H1 σ env s1 := .expr k1 x1 o1
  cases d with
  | tup l =>
    obtain ⟨a, xs, e1, e2, e3⟩ := r
    by_cases hl : is.length = l.length
    · have h : PostS R (rc cls X g) A0 H σ env ((if is.length = l.length then pure (.nx (puts env is l)) else bad : M R.S Out) s1) D := h
      rw [if_pos hl] at h
      exact ⟨a, xs, e1, .inl e2, by rw [e3.length, hl], gNames_ok (by rw [e3.length, hl]) (h _ _ (st.trans (puts_ok o1 k1 e3 hl)))⟩
    · have h : PostS R (rc cls X g) A0 H σ env ((if is.length = l.length then pure (.nx (puts env is l)) else bad : M R.S Out) s1) D := h
      rw [if_neg hl] at h
      exact h.elim
  | lst l =>
    obtain ⟨a, xs, e1, e2, _, _, e3⟩ := r
    by_cases hl : is.length = l.length
    · have h : PostS R (rc cls X g) A0 H σ env ((if is.length = l.length then pure (.nx (puts env is l)) else bad : M R.S Out) s1) D := h
      rw [if_pos hl] at h
      exact ⟨a, xs, e1, .inr (.inl (.inl e2)), by rw [e3.length, hl], gNames_ok (by rw [e3.length, hl]) (h _ _ (st.trans (puts_ok o1 k1 e3 hl)))⟩
    · have h : PostS R (rc cls X g) A0 H σ env ((if is.length = l.length then pure (.nx (puts env is l)) else bad : M R.S Out) s1) D := h
      rw [if_neg hl] at h
      exact h.elim
  | _ => exact h.elim
theorem ss_par {a b : Expr} {ies : List IE} {i j : Nat} {x y : Str} {px py pt pos : Pos} {kt k2 : Nat} {pt2 : Pos} (h1 : SA R cls Γ X [a, b] ies) (hm : lbAll ies = true) (hc : X.calm = true) (nd : X.N.Nodup) (hi : X.N[i]? = some x) (hj : X.N[j]? = some y) (hij : i ≠ j)
    (hx : X.env.scope.names.lookup x = some .local) (hy : X.env.scope.names.lookup y = some .local)
    (hw : swappedStores [.Tuple [.Name x px, .Name y py] kt pt] (.Tuple [a, b] k2 pt2) X.env = pure (some [x, y])) : SS R cls Γ N X (.Assign [.Tuple [.Name x px, .Name y py] kt pt] (.Tuple [a, b] k2 pt2) pos) (.par [i, j] ies) := by
  obtain ⟨t, p, q⟩ := h1
  refine ⟨_, ps_par hc nd hi hj hij hx hy p hw rfl, fun D σ H g A0 env s k o h => ?_⟩
  unfold ex at h
  refine SA.bindS q k o h fun ds s1 vs H1 x1 o1 r1 k1 h => ?_
  have r := Rms.rps (lb_of hm) r1
  have st : StepOk R (rc cls X g) A0 H σ env H1 σ env s1 := .expr k1 x1 o1
  by_cases hl : [i, j].length = ds.length
  · rw [if_pos hl] at h
    have a := puts_ok o1 k1 r hl
    match ds, vs, hl, r, a, h with
    | [d, e], vs, _, ⟨v, ws, e1, _, w, ws', e2, _, e3⟩, a, h =>
      have e3 : ws' = [] := e3
      subst e3 e2 e1
      exact ⟨v, w, rfl, h _ _ (st.trans a)⟩
  · rw [if_neg hl] at h
    exact h.elim
theorem ss_par3 {a b c : Expr} {ies : List IE} {i j l : Nat} {x y z : Str} {px py pz pt pos : Pos} {kt k2 : Nat} {pt2 : Pos} (h1 : SA R cls Γ X [a, b, c] ies) (hm : lbAll ies = true) (hc : X.calm = true) (nd : X.N.Nodup) (hi : X.N[i]? = some x) (hj : X.N[j]? = some y) (hl : X.N[l]? = some z) (hij : i ≠ j) (hil : i ≠ l) (hjl : j ≠ l)
    (hx : X.env.scope.names.lookup x = some .local) (hy : X.env.scope.names.lookup y = some .local) (hz : X.env.scope.names.lookup z = some .local)
    (hw : swappedStores [.Tuple [.Name x px, .Name y py, .Name z pz] kt pt] (.Tuple [a, b, c] k2 pt2) X.env = pure (some [x, y, z])) : SS R cls Γ N X (.Assign [.Tuple [.Name x px, .Name y py, .Name z pz] kt pt] (.Tuple [a, b, c] k2 pt2) pos) (.par [i, j, l] ies) := by
  obtain ⟨t, p, q⟩ := h1
  refine ⟨_, ps_par3 hc nd hi hj hl hij hil hjl hx hy hz p hw rfl, fun D σ H g A0 env s k o h => ?_⟩
  unfold ex at h
  refine SA.bindS q k o h fun ds s1 vs H1 x1 o1 r1 k1 h => ?_
  have r := Rms.rps (lb_of hm) r1
  have st : StepOk R (rc cls X g) A0 H σ env H1 σ env s1 := .expr k1 x1 o1
  by_cases hl : [i, j, l].length = ds.length
  · rw [if_pos hl] at h
    have a := puts_ok o1 k1 r hl
    match ds, vs, hl, r, a, h with
    | [d, e, f], vs, _, ⟨v, ws, e1, _, w, ws', e2, _, u, ws'', e4, _, e3⟩, a, h =>
      have e3 : ws'' = [] := e3
      subst e3 e4 e2 e1
      exact ⟨v, w, u, rfl, h _ _ (st.trans a)⟩
  · rw [if_neg hl] at h
    exact h.elim

/-! ### flags -/
theorem held_flag {env : IEnv} {σ : L2.St} {i : Nat} {d : D} {f f' : Fl} (h : env[i]? = some (some (d, f))) (hf : f = .held ∨ f = .own) (hf' : f' = .held ∨ f' = .own) (a : Addr) : Held (put env i d f') σ a ↔ Held env σ a := by
  have hl : i < env.length := (List.getElem?_eq_some_iff.mp h).1
  constructor
  · rintro ⟨j, e, g, h1, h2, h3⟩
    rcases put_get h1 with ⟨rfl, rfl, _, _⟩ | ⟨_, h1⟩
    · exact ⟨i, e, f, h, hf, h3⟩
    · exact ⟨j, e, g, h1, h2, h3⟩
  · rintro ⟨j, e, g, h1, h2, h3⟩
    by_cases hij : i = j
    · subst hij
      rw [h] at h1
      cases h1
      exact ⟨i, d, f', by unfold put; rw [List.getElem?_set_self hl], hf', h3⟩
    · exact ⟨j, e, g, by unfold put; rw [List.getElem?_set_ne hij]; exact h1, h2, h3⟩
theorem EnvOk.flag {c : Rc} {A0 : Addr → Prop} {H : Hp} {σ : L2.St} {env : IEnv} {i : Nat} {d : D} {f f' : Fl} (k : EnvOk c A0 H σ env) (h : env[i]? = some (some (d, f))) (hf : f = .held ∨ f = .own) (hf' : f' = .held ∨ f' = .own) : EnvOk c A0 H σ (Pv.put env i d f') := by
  have hh := held_flag (σ := σ) h hf hf'
  have anti : ∀ a, Av A0 (Pv.put env i d f') σ a → Av A0 env σ a := fun a z => z.imp id (hh a).mp
  have n1 : f' ≠ .frz := by rcases hf' with e | e <;> (rw [e]; simp)
  have n2 : f' ≠ .lent := by rcases hf' with e | e <;> (rw [e]; simp)
  have orig : ∀ {j : Nat} {e : D} {g : Fl}, (Pv.put env i d f')[j]? = some (some (e, g)) → g = .held ∨ g = .own → ∃ g0, env[j]? = some (some (e, g0)) ∧ (g0 = .held ∨ g0 = .own) := fun {j e g} z hg => by
    rcases put_get z with ⟨rfl, rfl, _, _⟩ | ⟨_, z⟩
    · exact ⟨f, h, hf⟩
    · exact ⟨g, z, hg⟩
  refine ⟨by unfold Pv.put; rw [List.length_set]; exact k.len, k.tr, k.g, fun j e z => ?_, fun j e z => ?_, fun j e g z hg => ?_, fun j l e e' g g' a h1 g1 h2 g2 s1 s2 => ?_⟩
  · rcases put_get z with ⟨_, _, q, _⟩ | ⟨_, z⟩
    · exact absurd q.symm n1
    · obtain ⟨v, e1, e2⟩ := k.frz j e z
      exact ⟨v, e1, e2.anti anti⟩
  · rcases put_get z with ⟨_, _, q, _⟩ | ⟨_, z⟩
    · exact absurd q.symm n2
    · obtain ⟨v, e1, e2⟩ := k.lent j e z
      refine ⟨v, e1, ?_⟩
      rcases e2 with e2 | ⟨b, q1, q2, q3, q4⟩
      · exact .inl (e2.anti anti)
      · exact .inr ⟨b, q1, q2, fun z => q3 ((hh b).mp z), q4.anti anti⟩
  · obtain ⟨g0, z0, hg0⟩ := orig z hg
    obtain ⟨a, e1, e2, e3⟩ := k.hld j e g0 z0 hg0
    exact ⟨a, e1, e2, e3.anti anti⟩
  · obtain ⟨f0, z0, hg0⟩ := orig h1 g1
    obtain ⟨f1, z1, hg1⟩ := orig h2 g2
    exact k.inj j l e e' f0 f1 a z0 hg0 z1 hg1 s1 s2
theorem EnvOk.freeze {c : Rc} {A0 : Addr → Prop} {H : Hp} {σ : L2.St} {env : IEnv} {i : Nat} {d : D} (k : EnvOk c A0 H σ env) (h : env[i]? = some (some (d, Fl.own))) : EnvOk c A0 H σ (Pv.put env i d .frz) := by
  obtain ⟨a, e1, e2, e3⟩ := k.hld i d _ h (.inr rfl)
  have back : ∀ b, Held (Pv.put env i d .frz) σ b → Held env σ b ∧ b ≠ a := fun b z => by
    obtain ⟨j, e, g, h1, h2, h3⟩ := z
    rcases put_get h1 with ⟨_, _, q, _⟩ | ⟨hij, h1⟩
    · rw [q] at h2; rcases h2 with h2 | h2 <;> cases h2
    · refine ⟨⟨j, e, g, h1, h2, h3⟩, fun z => ?_⟩
      subst z
      exact hij (k.inj i j d e _ g b h (.inr rfl) h1 h2 e1 h3)
  have anti : ∀ b, Av A0 (Pv.put env i d .frz) σ b → Av A0 env σ b := fun b z => z.imp id fun z => (back b z).1
  have na : ¬ Av A0 (Pv.put env i d .frz) σ a := fun z => z.elim e2 fun z => (back a z).2 rfl
  have hσ : σ.set i (some (.ref a)) = σ := by
    obtain ⟨hl, e⟩ := List.getElem?_eq_some_iff.mp e1
    rw [← e]
    exact List.set_getElem_self hl
  refine ⟨by unfold Pv.put; rw [List.length_set]; exact k.len, k.tr, k.g, fun j e z => ?_, fun j e z => ?_, fun j e g z hg => ?_, fun j l e e' g g' b h1 g1 h2 g2 s1 s2 => ?_⟩
  · rcases put_get z with ⟨rfl, rfl, _, _⟩ | ⟨_, z⟩
    · exact ⟨_, e1, (e3.anti anti).rp na⟩
    · obtain ⟨v, q1, q2⟩ := k.frz j e z
      exact ⟨v, q1, q2.anti anti⟩
  · rcases put_get z with ⟨_, _, q, _⟩ | ⟨_, z⟩
    · cases q
    · obtain ⟨v, q1, q2⟩ := k.lent j e z
      refine ⟨v, q1, ?_⟩
      rcases q2 with q2 | ⟨b, p1, p2, p3, p4⟩
      · exact .inl (q2.anti anti)
      · exact .inr ⟨b, p1, p2, fun z => p3 (back b z).1, p4.anti anti⟩
  · rcases put_get z with ⟨_, _, q, _⟩ | ⟨_, z⟩
    · rw [q] at hg; rcases hg with hg | hg <;> cases hg
    · obtain ⟨b, q1, q2, q3⟩ := k.hld j e g z hg
      exact ⟨b, q1, q2, q3.anti anti⟩
  · rcases put_get h1 with ⟨_, _, q, _⟩ | ⟨_, h1⟩
    · rw [q] at g1; rcases g1 with g1 | g1 <;> cases g1
    · rcases put_get h2 with ⟨_, _, q, _⟩ | ⟨_, h2⟩
      · rw [q] at g2; rcases g2 with g2 | g2 <;> cases g2
      · exact k.inj j l e e' g g' b h1 g1 h2 g2 s1 s2
theorem sss_frz {sts : List Stmt} {i : Nat} {iss : List IS} (h2 : SSs R cls Γ N X sts iss) : SSs R cls Γ N X sts (.frz i :: iss) := by
  obtain ⟨t2, p2, q2⟩ := h2
  refine ⟨t2, p2, fun D σ H g A0 env s k o h => ?_⟩
  unfold exs ex at h
  cases q : getI env i with
  | none => rw [q] at h; exact h.elim
  | some p =>
    obtain ⟨d, f⟩ := p
    rw [q] at h
    have z := getI_eq q
    cases f with
    | own =>
      have k' := k.freeze z
      have st : StepOk R (rc cls X g) A0 H σ env H σ (put env i d .frz) s := ⟨o, k', Ext.refl, fun _ z => z, fun j e g a h1 h2 h3 => by
        rcases put_get h1 with ⟨_, _, q, _⟩ | ⟨_, h1⟩
        · rw [q] at h2; rcases h2 with h2 | h2 <;> cases h2
        · exact .inr ⟨e, g, h1, h2, h3, id⟩⟩
      exact q2 D σ H g A0 _ s k' o (h.from st)
    | frz => exact q2 D σ H g A0 env s k o h
    | _ => exact h.elim
end
end Pv
end
section
set_option maxHeartbeats 4000000
namespace Pv
open PySem PySem.Spec PyProof.Rows L2

section
variable {R : RS} {cls : Str → Addr} {Γ : Gm R.S} {X : Cx} {N : Nat}
theorem StepOk.write {c : Rc} {A0 : Addr → Prop} {H1 : Hp} {σ : L2.St} {env : IEnv} {s1 : R.S} {i : Nat} {d d' : D} {a : Addr} {o u : HO} (k : EnvOk c A0 H1 σ env) (o1 : R.ok c.g s1 H1) (h : env[i]? = some (some (d, Fl.own))) (ha : σ[i]? = some (some (.ref a))) (hu : H1 a = some u) (nu : ¬ isT u)
    (hc : CellAt c (Av A0 env σ) (upd H1 a o) a d') : StepOk R c A0 H1 σ env (upd H1 a o) σ (Pv.put env i d' .own) s1 := by
  have hl : i < env.length := (List.getElem?_eq_some_iff.mp h).1
  obtain ⟨a', e1, e2, e3⟩ := k.hld i d _ h (.inr rfl)
  rw [ha] at e1
  cases e1
  have ng : ¬ Gv c a := fun z => e2 (k.g a z)
  have hA : Held env σ a := ⟨i, d, _, h, .inr rfl, ha⟩
  have ext : Ext (fun b => b = a) H1 (upd H1 a o) := Ext.put rfl hu nu
  have wA : ∀ b, b = a → Av A0 env σ b := fun b z => by rw [z]; exact .inr hA
  have th : ∀ b, H1 b ≠ none → upd H1 a o b ≠ none := fun b z => by
    by_cases hb : b = a
    · rw [hb, upd_same]; simp
    · rw [upd_ne hb]; exact z
  have hh : ∀ b, Held (Pv.put env i d' .own) σ b → Held env σ b := fun b z => by
    obtain ⟨j, e, g, h1, h2, h3⟩ := z
    rcases put_get h1 with ⟨rfl, rfl, _, _⟩ | ⟨_, h1⟩
    · exact ⟨i, d, _, h, .inr rfl, h3⟩
    · exact ⟨j, e, g, h1, h2, h3⟩
  have anti : ∀ b, Av A0 (Pv.put env i d' .own) σ b → Av A0 env σ b := fun b z => z.imp id (hh b)
  refine ⟨R.stay (fun b hb w e => by rw [upd_ne (fun z => ng (by rw [← z]; exact hb))]; exact e) o1, ⟨by unfold Pv.put; rw [List.length_set]; exact k.len, fun b z => th b (k.tr b z), k.g, fun j e z => ?_, fun j e z => ?_, fun j e g z hg => ?_, fun j l e e' g g' b h1 g1 h2 g2 s1 s2 => ?_⟩, ext.more fun b z => .inr (by rw [z]; exact ⟨i, d, h, ha⟩), th, fun j e g b h1 h2 h3 => ?_⟩
  · rcases put_get z with ⟨_, _, q, _⟩ | ⟨_, z⟩
    · cases q
    · obtain ⟨v, q1, q2⟩ := k.frz j e z
      exact ⟨v, q1, (q2.ext ext wA).anti anti⟩
  · rcases put_get z with ⟨_, _, q, _⟩ | ⟨_, z⟩
    · cases q
    · obtain ⟨v, q1, q2⟩ := k.lent j e z
      refine ⟨v, q1, ?_⟩
      rcases q2 with q2 | ⟨b, p1, p2, p3, p4⟩
      · exact .inl ((q2.ext ext wA).anti anti)
      · exact .inr ⟨b, p1, p2, fun z => p3 (hh b z), (p4.mono ext wA (fun _ z => .inl z) fun z => p3 (by rw [z]; exact hA)).anti anti⟩
  · rcases put_get z with ⟨rfl, rfl, _, _⟩ | ⟨hij, z⟩
    · exact ⟨a, ha, e2, hc.anti anti⟩
    · obtain ⟨b, q1, q2, q3⟩ := k.hld j e g z hg
      refine ⟨b, q1, q2, (q3.mono ext wA (fun _ z => .inl z) fun hb => ?_).anti anti⟩
      subst hb
      exact hij (k.inj i j d e _ g b h (.inr rfl) z hg ha q1)
  · have orig : ∀ {j : Nat} {e : D} {g : Fl}, (Pv.put env i d' .own)[j]? = some (some (e, g)) → g = .held ∨ g = .own → ∃ e0 g0, env[j]? = some (some (e0, g0)) ∧ (g0 = .held ∨ g0 = .own) := fun {j e g} z hg => by
      rcases put_get z with ⟨rfl, rfl, _, _⟩ | ⟨_, z⟩
      · exact ⟨d, _, h, .inr rfl⟩
      · exact ⟨e, g, z, hg⟩
    obtain ⟨e0, f0, z0, hg0⟩ := orig h1 g1
    obtain ⟨e1', f1, z1, hg1⟩ := orig h2 g2
    exact k.inj j l e0 e1' f0 f1 b z0 hg0 z1 hg1 s1 s2
  · rcases put_get h1 with ⟨rfl, rfl, _, _⟩ | ⟨hij, h1⟩
    · exact .inr ⟨d, _, h, .inr rfl, h3, fun _ => rfl⟩
    · exact .inr ⟨e, g, h1, h2, h3, id⟩
theorem own_cell {c : Rc} {A0 : Addr → Prop} {H : Hp} {σ : L2.St} {env : IEnv} {i : Nat} {l : List D} (k : EnvOk c A0 H σ env) (h : getI env i = some (.lst l, .own)) : ∃ a xs, σ[i]? = some (some (.ref a)) ∧ H a = some (.lst xs) ∧ Rps c (Av A0 env σ) H l xs ∧ l.length ≤ sizeLine ∧ env[i]? = some (some (.lst l, Fl.own)) ∧ Av A0 env σ a := by
  have z := getI_eq h
  obtain ⟨a, e1, e2, xs, e3, e4, e5⟩ := k.hld i _ _ z (.inr rfl)
  exact ⟨a, xs, e1, e3, e5, e4, z, .inr ⟨i, _, _, z, .inr rfl, e1⟩⟩
theorem ss_app {x : Str} {e : Expr} {ie : IE} {i : Nat} {p1 p2 p3 pos : Pos} (h1 : SE R cls Γ X e ie) (hm : md ie ≠ .bor) (hN : X.N[i]? = some x) (hv : Vis X.env.scope x) (hd : (x == ("__debug__" : Str)) = false) (hcd : (x == ("__classdict__" : Str)) = false) (hs : noStar e = true) (hl : (p2.endLine == p3.line) = true) :
    SS R cls Γ N X (.Expr (.Call (.Attribute (.Name x p1) "append" p2) [e] [] p3) pos) (.app i ie) := by
  obtain ⟨t, p, q⟩ := h1
  refine ⟨_, ps_expr (pe_bm PySem.F.plainAttrs_list PySem.F.slot_list_append PySem.F.type_list_append mt_append (pe_var hN hv hd hcd) (pa_cons p pa_nil (star_cons hs)) rfl (by rw [star_cons hs]; rfl) hl (star_cons hs) rfl) rfl, fun D σ H g A0 env s k o h => ?_⟩
  unfold ex at h
  cases q0 : ev Γ ie env s with
  | bad => rw [bind_def, q0] at h; exact h.elim
  | er _ _ _ => rw [bind_def, q0] at h; exact h.elim
  | ok d s1 =>
    rw [bind_def, q0] at h
    have h : PostS R (rc cls X g) A0 H σ env ((match getI env i with
      | some (.lst l, .own) => if l.length < sizeLine then pure (.nx (put env i (.lst (l ++ [d])) .own)) else bad
      | _ => bad : M R.S Out) s1) D := h
    cases hl0 : getI env i with
    | none => rw [hl0] at h; exact h.elim
    | some p0 =>
      obtain ⟨d0, f0⟩ := p0
      rw [hl0] at h
      cases d0 with
      | lst l =>
        cases f0 with
        | own =>
          have h : PostS R (rc cls X g) A0 H σ env ((if l.length < sizeLine then pure (.nx (put env i (.lst (l ++ [d])) .own)) else bad : M R.S Out) s1) D := h
          by_cases hlen : l.length < sizeLine
          · rw [if_pos hlen] at h
            obtain ⟨a, xs, e1, e2, e3, e4, e5, e6⟩ := own_cell k hl0
            refine ⟨_, e1, .inl ⟨rfl, xs, .inl (.inl e2)⟩, ?_⟩
            refine q σ H _ g A0 env s k o ?_
            rw [q0]
            intro v H1 x1 o1 r1
            have k1 := k.next x1 o1
            obtain ⟨a', ys, f1, f2, f3, f4, f5, f6⟩ := own_cell k1 hl0
            rw [e1] at f1
            cases f1
            refine ⟨a, ys, v, rfl, rfl, f2, by rw [f3.length]; exact hlen, ?_⟩
            have wa : ∀ b, b = a → Av A0 env σ b := fun b z => by rw [z]; exact f6
            have xt : Ext (fun b => b = a) H1 (upd H1 a (.lst (ys ++ [v]))) := Ext.put rfl f2 id
            exact h _ _ ((StepOk.expr k1 x1 o1).trans (.write k1 o1 f5 e1 f2 id ⟨_, upd_same, by rw [List.length_append, List.length_singleton]; omega, (f3.append (.one (r1.rp hm k.trA))).ext xt wa⟩))
          · rw [if_neg hlen] at h
            exact h.elim
        | _ => exact h.elim
      | _ => cases f0 <;> exact h.elim

/-! ### loops -/
theorem forD_cons {step : D → IEnv → M R.S Out} {d : D} {ds : List D} {env : IEnv} : forD step (d :: ds) env = step d env >>= fun o => match o with
    | .nx e => forD step ds e
    | .ct e => forD step ds e
    | .bk e => pure (.nx e)
    | .ret v f => pure (.ret v f) := rfl
/-- a body that runs over items -/
theorem for_run {c : Rc} {A0 : Addr → Prop} {H0 H1 : Hp} {σ0 σ1 : L2.St} {env0 env1 : IEnv} {s1 : R.S} {l : List D} {i : Nat} {body : List IS} {tb : TS} {De : Ends} (hc : c.cls = cls) (hK : c.K = X.K)
    (q : ∀ De σ H g A0 env s, EnvOk (rc cls X g) A0 H σ env → R.ok g s H → PostS R (rc cls X g) A0 H σ env (exs Γ N body env s) De → tb De σ H) (st0 : StepOk R c A0 H0 σ0 env0 H1 σ1 env1 s1)
    {fin : Out → M R.S Out} (hf1 : ∀ v f s, fin (.ret v f) s = .ok (.ret v f) s) (hfin : ∀ σ2 H2 e s2, StepOk R c A0 H1 σ1 env1 H2 σ2 e s2 → PostS R c A0 H0 σ0 env0 (fin (.nx e) s2) De → De.nx σ2 H2)
    {n : Nat} {d : D} {v : V} (hd : l[n]? = some d) {σ' : L2.St} {H' : Hp} {env' : IEnv} {s' : R.S} (st : StepOk R c A0 H1 σ1 env1 H' σ' env' s') (rd : Rp c (Av A0 env' σ') H' d v)
    (h : PostS R c A0 H0 σ0 env0 ((forD (fun d e => exs Γ N body (put e i d .frz)) (l.drop n) env' >>= fin) s') De)
    {Nx : L2.St → Hp → Prop} (hN : ∀ σ H env2 s2, StepOk R c A0 H1 σ1 env1 H σ env2 s2 → PostS R c A0 H0 σ0 env0 ((forD (fun d e => exs Γ N body (put e i d .frz)) (l.drop (n + 1)) env2 >>= fin) s2) De → Nx σ H) :
    tb { De with nx := Nx, ct := Nx, bk := De.nx } (σ'.set i (some v)) H' := by
  obtain ⟨cK, ccls, cg⟩ := c
  subst hc hK
  have hl : l.drop n = d :: l.drop (n + 1) := by
    rw [List.drop_eq_getElem_cons (List.getElem?_eq_some_iff.mp hd).1, (List.getElem?_eq_some_iff.mp hd).2]
  rw [hl, forD_cons, bind_assoc', bind_def] at h
  have a : StepOk R ⟨X.K, ccls, cg⟩ A0 H' σ' env' H' (σ'.set i (some v)) (put env' i d .frz) s' := .put st.envk Ext.refl st.ok rd
  have a' := st.trans a
  refine q _ _ _ cg A0 (put env' i d .frz) s' a'.envk a'.ok ?_
  cases z : exs Γ N body (put env' i d .frz) s' with
  | bad => rw [z] at h; exact h
  | er _ _ _ => rw [z] at h; exact h
  | ok u s2 =>
    rw [z] at h
    cases u with
    | nx e => exact fun σ2 H2 b => hN σ2 H2 e s2 (a'.trans b) h
    | ct e => exact fun σ2 H2 b => hN σ2 H2 e s2 (a'.trans b) h
    | bk e => exact fun σ2 H2 b => hfin σ2 H2 e s2 (a'.trans b) h
    | ret d f =>
      intro w H2 b
      have h : PostS R ⟨X.K, ccls, cg⟩ A0 H0 σ0 env0 (fin (.ret d f) s2) De := h
      rw [hf1] at h
      exact h w H2 ((b.from a').from st0)
theorem getI_put {env : IEnv} {i : Nat} {d : D} {f : Fl} (h : i < env.length) : getI (put env i d f) i = some (d, f) := by
  unfold getI put
  rw [List.getElem?_set_self h]
  rfl
/-- a loop's source is held, or it is none of the def's own -/
theorem hold_ok {c : Rc} {A0 : Addr → Prop} {H : Hp} {σ : L2.St} {env env1 : IEnv} {s : R.S} {hold : Option Nat} (k : EnvOk c A0 H σ env) (o : R.ok c.g s H) (h : holdOn env hold = some env1) :
    StepOk R c A0 H σ env H σ env1 s ∧ (∀ a, Owns env1 σ a → Owns env σ a) ∧ (∀ j, hold = some j → ∀ d f a, env[j]? = some (some (d, f)) → σ[j]? = some (some (.ref a)) → (f = .held ∨ f = .own) → ¬ Owns env1 σ a) := by
  cases hold with
  | none =>
    have h : some env = some env1 := h
    cases h
    exact ⟨.refl k o, fun _ z => z, fun j e => nomatch e⟩
  | some j =>
    have h : (match getI env j with
      | some (d, .own) => some (put env j d .held)
      | some (_, .frz) => some env
      | some (_, .lent) => some env
      | _ => none) = some env1 := h
    cases q : getI env j with
    | none => rw [q] at h; cases h
    | some p =>
      obtain ⟨d, f⟩ := p
      rw [q] at h
      have z := getI_eq q
      cases f with
      | frz =>
        cases h
        refine ⟨.refl k o, fun _ z => z, fun j' e d' f' a h1 h2 h3 => ?_⟩
        cases e
        rw [z] at h1
        cases h1
        rcases h3 with h3 | h3 <;> cases h3
      | lent =>
        cases h
        refine ⟨.refl k o, fun _ z => z, fun j' e d' f' a h1 h2 h3 => ?_⟩
        cases e
        rw [z] at h1
        cases h1
        rcases h3 with h3 | h3 <;> cases h3
      | held => cases h
      | own =>
        have h : some (put env j d .held) = some env1 := h
        cases h
        have ow : ∀ a, Owns (put env j d .held) σ a → Owns env σ a := fun a ⟨i, e, h1, h2⟩ => by
          rcases put_get h1 with ⟨_, _, q, _⟩ | ⟨_, h1⟩
          · cases q
          · exact ⟨i, e, h1, h2⟩
        refine ⟨⟨o, k.flag z (.inr rfl) (.inl rfl), Ext.refl, fun _ z => z, fun i e f a h1 h2 h3 => ?_⟩, ow, fun j' e d' f' a h1 h2 h3 ho => ?_⟩
        · rcases put_get h1 with ⟨rfl, rfl, q, _⟩ | ⟨_, h1⟩
          · exact .inr ⟨e, _, z, .inr rfl, h3, fun _ => rfl⟩
          · exact .inr ⟨e, f, h1, h2, h3, id⟩
        · cases e
          obtain ⟨i, e, g1, g2⟩ := ho
          rcases put_get g1 with ⟨_, _, q, _⟩ | ⟨hij, g1⟩
          · cases q
          · exact hij (k.inj j i d e _ _ a z (.inr rfl) g1 (.inr rfl) h2 g2)
/-- behind the loop the source is the def's own again -/
theorem hold_off {c : Rc} {A0 : Addr → Prop} {H H1 : Hp} {σ σ1 : L2.St} {env env1 e1 e2 : IEnv} {s s1 : R.S} {hold : Option Nat} (h : holdOn env hold = some env1) (a : StepOk R c A0 H σ env1 H1 σ1 e1 s1) (h2 : holdOff env hold (.nx e1) = some (.nx e2)) (k : EnvOk c A0 H σ env) (o : R.ok c.g s H) : StepOk R c A0 H σ env H1 σ1 e2 s1 := by
  have a' := (hold_ok k o h).1.trans a
  cases hold with
  | none =>
    have h2 : some (Out.nx e1) = some (.nx e2) := h2
    cases h2
    exact a'
  | some j =>
    have h2 : (match getI env j, getI e1 j with
      | some (_, .own), some (d, .held) => some (Out.nx (put e1 j d .own))
      | some (_, .own), _ => none
      | _, _ => some (.nx e1)) = some (.nx e2) := h2
    cases q0 : getI env j with
    | none => rw [q0] at h2; cases h2; exact a'
    | some p =>
      obtain ⟨d, f⟩ := p
      rw [q0] at h2
      cases f with
      | own =>
        cases q1 : getI e1 j with
        | none => rw [q1] at h2; cases h2
        | some p1 =>
          obtain ⟨d1, f1⟩ := p1
          rw [q1] at h2
          cases f1 with
          | held =>
            have h2 : some (Out.nx (put e1 j d1 .own)) = some (.nx e2) := h2
            cases h2
            have z := getI_eq q1
            refine ⟨a'.ok, a'.envk.flag z (.inl rfl) (.inr rfl), a'.ext, a'.there, fun i e f b h1 h2 h3 => ?_⟩
            rcases put_get h1 with ⟨rfl, rfl, q, _⟩ | ⟨_, h1⟩
            · rcases a'.own j e _ b z (.inl rfl) h3 with w | ⟨d0, f0, g1, g2, g3, g4⟩
              · exact .inl w
              · have z0 := getI_eq q0
                rw [z0] at g1
                cases g1
                exact .inr ⟨d, _, z0, .inr rfl, g3, fun _ => rfl⟩
            · exact a'.own i e f b h1 h2 h3
          | _ => cases h2
      | _ => cases h2; exact a'

def holdFor (src : IE) (hold : Option Nat) : Bool := match src, hold with
  | .bor j, some i => i == j
  | .bor _, none => false
  | _, none => true
  | _, some _ => false
theorem holdOff_nx {was : IEnv} {hold : Option Nat} {e : IEnv} {o : Out} (h : holdOff was hold (.nx e) = some o) : ∃ e2, o = .nx e2 := by
  unfold holdOff at h
  cases hold with
  | none => cases h; exact ⟨_, rfl⟩
  | some i =>
    dsimp only at h
    split at h
    · cases h; exact ⟨_, rfl⟩
    · cases h
    · cases h; exact ⟨_, rfl⟩
theorem for_core {g : List Addr} {A0 : Addr → Prop} {H H1 : Hp} {σ : L2.St} {env env1 : IEnv} {s1 : R.S} {hold : Option Nat} {l : List D} {xs : List V} {a : Addr} {i : Nat} {body : List IS} {tb : TS} {De : Ends} {s : R.S}
    (qb : ∀ De σ H g A0 env s, EnvOk (rc cls X g) A0 H σ env → R.ok g s H → PostS R (rc cls X g) A0 H σ env (exs Γ N body env s) De → tb De σ H)
    (k : EnvOk (rc cls X g) A0 H σ env) (o : R.ok g s H) (x1 : Ext (Gv (rc cls X g)) H H1) (o1 : R.ok g s1 H1) (k1 : EnvOk (rc cls X g) A0 H1 σ env) (hon : holdOn env hold = some env1) (hr : Rps (rc cls X g) (Av A0 env σ) H1 l xs)
    (ha : (H1 a = some (.lst xs) ∧ ¬ Gv (rc cls X g) a ∧ ¬ Owns env1 σ a) ∨ SqT X.K H1 a xs)
    (h : PostS R (rc cls X g) A0 H σ env ((forD (fun d e => exs Γ N body (put e i d .frz)) l env1 >>= fun o => opt (holdOff env hold o)) s1) De) :
    ((∃ xs, SqL X.K H1 a xs) ∧ ∃ W : Nat → Nat → L2.St → Hp → Prop, (∃ m, W 0 m σ H1) ∧ ∀ i' m σ H, W i' m σ H →
      ((Itl X.K a).stop i' H ∧ De.nx σ H) ∨ ((Itl X.K a).go i' H ∧ ∃ N : L2.St → Hp → Prop, (∀ σ' H', N σ' H' → ∃ m', m' < m ∧ W (i' + 1) m' σ' H') ∧ ∀ x H', (Itl X.K a).yld i' H x H' → gName i x σ H' fun σ2 H2 => tb { De with nx := N, ct := N, bk := De.nx } σ2 H2)) ∨
    ((∃ xs, SqT X.K H1 a xs) ∧ ∃ W : Nat → Nat → L2.St → Hp → Prop, (∃ m, W 0 m σ H1) ∧ ∀ i' m σ H, W i' m σ H →
      ((Itt X.K a).stop i' H ∧ De.nx σ H) ∨ ((Itt X.K a).go i' H ∧ ∃ N : L2.St → Hp → Prop, (∀ σ' H', N σ' H' → ∃ m', m' < m ∧ W (i' + 1) m' σ' H') ∧ ∀ x H', (Itt X.K a).yld i' H x H' → gName i x σ H' fun σ2 H2 => tb { De with nx := N, ct := N, bk := De.nx } σ2 H2)) := by
  obtain ⟨sth, _, _⟩ := hold_ok k1 o1 hon
  have st0 : StepOk R (rc cls X g) A0 H σ env H1 σ env1 s1 := (StepOk.expr k1 x1 o1).trans sth
  have hl : xs.length = l.length := hr.length
  have fin : ∀ σ2 H2 e s2, StepOk R (rc cls X g) A0 H1 σ env1 H2 σ2 e s2 → PostS R (rc cls X g) A0 H σ env ((opt (holdOff env hold (.nx e)) : M R.S Out) s2) De → De.nx σ2 H2 := by
    intro σ2 H2 e s2 b hp
    cases z : holdOff env hold (.nx e) with
    | none => rw [z] at hp; exact hp.elim
    | some u =>
      obtain ⟨e2, rfl⟩ := holdOff_nx z
      rw [z] at hp
      exact hp σ2 H2 ((StepOk.expr k1 x1 o1).trans (hold_off hon b z k1 o1))
  have ret : ∀ v f s, (fun o => (opt (holdOff env hold o) : M R.S Out)) (.ret v f) s = .ok (.ret v f) s := fun _ _ _ => rfl
  have turn : ∀ {n : Nat} {x : V} {σ' : L2.St} {H' : Hp}, xs[n]? = some x → (∃ env' s', StepOk R (rc cls X g) A0 H1 σ env1 H' σ' env' s' ∧ PostS R (rc cls X g) A0 H σ env ((forD (fun d e => exs Γ N body (put e i d .frz)) (l.drop n) env' >>= fun o => opt (holdOff env hold o)) s') De) →
      tb { De with nx := (fun σ' H' => ∃ env' s', StepOk R (rc cls X g) A0 H1 σ env1 H' σ' env' s' ∧ PostS R (rc cls X g) A0 H σ env ((forD (fun d e => exs Γ N body (put e i d .frz)) (l.drop (n + 1)) env' >>= fun o => opt (holdOff env hold o)) s') De), ct := (fun σ' H' => ∃ env' s', StepOk R (rc cls X g) A0 H1 σ env1 H' σ' env' s' ∧ PostS R (rc cls X g) A0 H σ env ((forD (fun d e => exs Γ N body (put e i d .frz)) (l.drop (n + 1)) env' >>= fun o => opt (holdOff env hold o)) s') De), bk := De.nx } (σ'.set i (some x)) H' := by
    rintro n x σ' H' hn ⟨env', s', st, hp⟩
    obtain ⟨d, hd, rd⟩ := hr.get hn
    have rd' : Rp (rc cls X g) (Av A0 env' σ') H' d x := by
      refine Rp.mono st.ext (fun b w => ?_) (fun b w => ?_) d x rd
      · rcases w with w | ⟨j, e, w1, w2⟩
        · exact k1.gA b w
        · obtain ⟨j', e', z1, z2⟩ := (hold_ok k1 o1 hon).2.1 b ⟨j, e, w1, w2⟩
          exact .inr ⟨j', e', _, z1, .inr rfl, z2⟩
      · rcases w with w | ⟨j, e, f, w1, w2, w3⟩
        · exact .inl (.inl w)
        · rcases (sth.trans st).own j e f b w1 w2 w3 with z | ⟨d0, f0, z1, z2, z3, _⟩
          · exact .inr z
          · exact .inl (.inr ⟨j, d0, f0, z1, z2, z3⟩)
    exact for_run (c := rc cls X g) (fin := fun o => opt (holdOff env hold o)) rfl rfl qb st0 ret fin hd st rd' hp (fun σ2 H2 e s2 b hb => ⟨e, s2, b, hb⟩)
  have h0 : ∃ env' s', StepOk R (rc cls X g) A0 H1 σ env1 H1 σ env' s' ∧ PostS R (rc cls X g) A0 H σ env ((forD (fun d e => exs Γ N body (put e i d .frz)) (l.drop 0) env' >>= fun o => opt (holdOff env hold o)) s') De :=
    ⟨env1, s1, .refl sth.envk o1, by rw [List.drop_zero]; exact h⟩
  have last : ∀ σ' H', (∃ env' s', StepOk R (rc cls X g) A0 H1 σ env1 H' σ' env' s' ∧ PostS R (rc cls X g) A0 H σ env ((forD (fun d e => exs Γ N body (put e i d .frz)) (l.drop xs.length) env' >>= fun o => opt (holdOff env hold o)) s') De) → De.nx σ' H' := by
    rintro σ' H' ⟨env', s', st, hp⟩
    rw [hl, List.drop_length] at hp
    exact fin σ' H' env' s' st hp
  rcases ha with ⟨ha, ng, no⟩ | ha
  · refine .inl ⟨⟨xs, .inl (.inl ha)⟩, for_list (K := X.K) (a := a) (xs := xs) (fun n σ' H' => ∃ env' s', StepOk R (rc cls X g) A0 H1 σ env1 H' σ' env' s' ∧ PostS R (rc cls X g) A0 H σ env ((forD (fun d e => exs Γ N body (put e i d .frz)) (l.drop n) env' >>= fun o => opt (holdOff env hold o)) s') De) h0 ?_ ?_ last⟩
    · rintro n σ' H' _ ⟨env', s', st, _⟩
      exact .inl (.inl (st.ext a _ ha (.inl fun z => z.elim ng no)))
    · intro n x σ' H' hn hp
      exact turn hn hp
  · refine .inr ⟨⟨xs, ha⟩, for_tup (K := X.K) (a := a) (xs := xs) (fun n σ' H' => ∃ env' s', StepOk R (rc cls X g) A0 H1 σ env1 H' σ' env' s' ∧ PostS R (rc cls X g) A0 H σ env ((forD (fun d e => exs Γ N body (put e i d .frz)) (l.drop n) env' >>= fun o => opt (holdOff env hold o)) s') De) h0 ?_ ?_ last⟩
    · rintro n σ' H' _ ⟨env', s', st, _⟩
      exact st.ext.sqt ha
    · intro n x σ' H' hn hp
      exact turn hn hp
theorem seq_rp {d : D} {l : List D} {c : Rc} {A : Addr → Prop} {H : Hp} {v : V} (h : seqOf d = some l) (r : Rp c A H d v) : ∃ a xs, v = .ref a ∧ Rps c A H l xs ∧ ((H a = some (.lst xs) ∧ ¬ A a) ∨ SqT c.K H a xs) := by
  cases d with
  | lst l' =>
    cases h
    obtain ⟨a, xs, e1, e2, e3, e4, e5⟩ := r
    exact ⟨a, xs, e1, e5, .inl ⟨e2, e3⟩⟩
  | tup l' =>
    have h : (if l'.length ≤ sizeLine then some l' else none) = some l := h
    split at h
    · cases h
      obtain ⟨a, xs, e1, e2, e4⟩ := r
      exact ⟨a, xs, e1, e4, .inr e2⟩
    · cases h
  | _ => cases h
theorem ss_forL {iter : Expr} {x : Str} {src : IE} {i : Nat} {b : List Stmt} {body : List IS} {pos tpos : Pos} (hp : PassesOwn (model X.prog X.w) X.A X.env X.xe) (hc : X.calm = true) (nd : X.N.Nodup) (hi : X.N[i]? = some x) (hx : Loc X.env.scope x)
    (hf : X.fn x = true ∨ X.env.scope.names.lookup x = some .local) (h1 : SE R cls Γ X iter src) (hm : md src ≠ .bor) (h2 : SSs R cls Γ N X b body) (hs : ∀ x, foldedSetIterable iter X.env x = pure x) :
    SS R cls Γ N X (.For (.Name x tpos) iter b [] pos) (.forL i src none body) := by
  obtain ⟨t, pe, q⟩ := h1
  obtain ⟨tb, pb, qb⟩ := h2
  refine ⟨_, ps_for hp hc (pi_seq pe) (pg_name nd hi hx hf) pb hs, fun De σ H g A0 env s k o h => ?_⟩
  unfold ex at h
  refine SE.bindS q k o h fun d s1 v H1 x1 o1 r1 k1 h => ?_
  obtain ⟨l, hl, h2⟩ := opt_ofS h
  obtain ⟨a, xs, e1, e2, e3⟩ := seq_rp hl (r1.rp hm k.trA)
  refine ⟨a, e1, for_core qb k o x1 o1 k1 (hold := none) rfl e2 (e3.imp (fun ⟨z1, z2⟩ => ⟨z1, fun z => z2 (k.gA a z), fun ⟨j, e, w1, w2⟩ => z2 (.inr ⟨j, e, _, w1, .inr rfl, w2⟩)⟩) id) h2⟩
theorem ss_forB {x y : Str} {i j : Nat} {b : List Stmt} {body : List IS} {pos tpos ypos : Pos} (hp : PassesOwn (model X.prog X.w) X.A X.env X.xe) (hc : X.calm = true) (nd : X.N.Nodup) (hi : X.N[i]? = some x) (hx : Loc X.env.scope x)
    (hf : X.fn x = true ∨ X.env.scope.names.lookup x = some .local) (hN : X.N[j]? = some y) (hv : Vis X.env.scope y) (hd : (y == ("__debug__" : Str)) = false) (hcd : (y == ("__classdict__" : Str)) = false) (h2 : SSs R cls Γ N X b body) :
    SS R cls Γ N X (.For (.Name x tpos) (.Name y ypos) b [] pos) (.forL i (.bor j) (some j) body) := by
  obtain ⟨tb, pb, qb⟩ := h2
  refine ⟨_, ps_for hp hc (pi_seq (pe_var hN hv hd hcd)) (pg_name nd hi hx hf) pb (fun _ => rfl), fun De σ H g A0 env s k o h => ?_⟩
  unfold ex ev at h
  cases q : getI env j with
  | none => rw [q] at h; exact h.elim
  | some p =>
    obtain ⟨d, f⟩ := p
    rw [q] at h
    obtain ⟨l, hl, h2⟩ := opt_ofS (show PostS R (rc cls X g) A0 H σ env ((opt (seqOf d) >>= fun l => opt (holdOn env (some j)) >>= fun env1 => forD (fun d e => exs Γ N body (put e i d .frz)) l env1 >>= fun o => opt (holdOff env (some j) o)) s) De from h)
    obtain ⟨env1, hon, h3⟩ := opt_ofS h2
    have z := getI_eq q
    obtain ⟨_, ow, hj⟩ := hold_ok k o hon
    have own_held : ∀ {a : Addr}, Owns env1 σ a → Held env σ a := fun {a} w => by
      obtain ⟨j', e, z1, z2⟩ := ow a w
      exact ⟨j', e, _, z1, .inr rfl, z2⟩
    suffices core : ∃ v a xs, σ[j]? = some (some v) ∧ v = .ref a ∧ Rps (rc cls X g) (Av A0 env σ) H l xs ∧ ((H a = some (.lst xs) ∧ ¬ Gv (rc cls X g) a ∧ ¬ Owns env1 σ a) ∨ SqT X.K H a xs) by
      obtain ⟨v, a, xs, e0, e1, e2, e3⟩ := core
      exact ⟨v, e0, a, e1, for_core qb k o Ext.refl o k hon e2 e3 h3⟩
    have byRp : ∀ {v : V}, σ[j]? = some (some v) → Rp (rc cls X g) (Av A0 env σ) H d v → ∃ v a xs, σ[j]? = some (some v) ∧ v = .ref a ∧ Rps (rc cls X g) (Av A0 env σ) H l xs ∧ ((H a = some (.lst xs) ∧ ¬ Gv (rc cls X g) a ∧ ¬ Owns env1 σ a) ∨ SqT X.K H a xs) := fun {v} e0 r => by
      obtain ⟨a, xs, e1, e2, e3⟩ := seq_rp hl r
      exact ⟨v, a, xs, e0, e1, e2, e3.imp (fun ⟨z1, z2⟩ => ⟨z1, fun z => z2 (k.gA a z), fun w => z2 (.inr (own_held w))⟩) id⟩
    have byCell : ∀ {a : Addr}, σ[j]? = some (some (.ref a)) → ¬ Gv (rc cls X g) a → ¬ Owns env1 σ a → CellAt (rc cls X g) (Av A0 env σ) H a d → ∃ v a xs, σ[j]? = some (some v) ∧ v = .ref a ∧ Rps (rc cls X g) (Av A0 env σ) H l xs ∧ ((H a = some (.lst xs) ∧ ¬ Gv (rc cls X g) a ∧ ¬ Owns env1 σ a) ∨ SqT X.K H a xs) := fun {a} e0 n1 n2 cc => by
      cases d with
      | lst l' =>
        cases hl
        obtain ⟨xs, e2, e3, e4⟩ := cc
        exact ⟨_, a, xs, e0, rfl, e4, .inl ⟨e2, n1, n2⟩⟩
      | dct l' => cases hl
      | _ => exact cc.elim
    cases f with
    | frz =>
      obtain ⟨v, e0, r⟩ := k.frz j d z
      exact byRp e0 r
    | lent =>
      obtain ⟨v, e0, r⟩ := k.lent j d z
      rcases r with r | ⟨a, e1, n1, n2, cc⟩
      · exact byRp e0 r
      · subst e1
        exact byCell e0 n1 (fun w => n2 (own_held w)) cc
    | held =>
      obtain ⟨a, e0, n1, cc⟩ := k.hld j d _ z (.inl rfl)
      exact byCell e0 (fun w => n1 (k.g a w)) (hj j rfl d _ a z e0 (.inl rfl)) cc
    | own =>
      obtain ⟨a, e0, n1, cc⟩ := k.hld j d _ z (.inr rfl)
      exact byCell e0 (fun w => n1 (k.g a w)) (hj j rfl d _ a z e0 (.inr rfl)) cc
theorem rngL_get {a b : Int} {n : Nat} (h : n < (b - a).toNat) : (rngL a b)[n]? = some (.int (a + (n : Nat))) := by
  unfold rngL
  rw [List.getElem?_map, List.getElem?_range h]
  rfl
theorem rngL_len {a b : Int} : (rngL a b).length = (b - a).toNat := by
  unfold rngL
  rw [List.length_map, List.length_range]
theorem range_core {g : List Addr} {A0 : Addr → Prop} {H H1 : Hp} {σ : L2.St} {env : IEnv} {s1 : R.S} {a b : Int} {i : Nat} {body : List IS} {tb : TS} {De : Ends}
    (qb : ∀ De σ H g A0 env s, EnvOk (rc cls X g) A0 H σ env → R.ok g s H → PostS R (rc cls X g) A0 H σ env (exs Γ N body env s) De → tb De σ H)
    (st0 : StepOk R (rc cls X g) A0 H σ env H1 σ env s1) (h : PostS R (rc cls X g) A0 H σ env (forD (fun d e => exs Γ N body (put e i d .frz)) (rngL a b) env s1) De) :
    ∃ W : Nat → Nat → L2.St → Hp → Prop, (∃ m, W 0 m σ H1) ∧ ∀ i' m σ H, W i' m σ H →
      ((Itr a (b - a).toNat).stop i' H ∧ De.nx σ H) ∨ ((Itr a (b - a).toNat).go i' H ∧ ∃ N : L2.St → Hp → Prop, (∀ σ' H', N σ' H' → ∃ m', m' < m ∧ W (i' + 1) m' σ' H') ∧ ∀ x H', (Itr a (b - a).toNat).yld i' H x H' → gName i x σ H' fun σ2 H2 => tb { De with nx := N, ct := N, bk := De.nx } σ2 H2) := by
  have fin : ∀ σ2 H2 e s2, StepOk R (rc cls X g) A0 H1 σ env H2 σ2 e s2 → PostS R (rc cls X g) A0 H σ env ((pure (.nx e) : M R.S Out) s2) De → De.nx σ2 H2 := fun σ2 H2 e s2 z hp => hp σ2 H2 (st0.trans z)
  have h : PostS R (rc cls X g) A0 H σ env ((forD (fun d e => exs Γ N body (put e i d .frz)) (rngL a b) env >>= fun o => (pure o : M R.S Out)) s1) De := by
    rw [bind_pure']
    exact h
  refine for_range (lo := a) (n := (b - a).toNat) (fun n σ' H' => ∃ env' s', StepOk R (rc cls X g) A0 H1 σ env H' σ' env' s' ∧ PostS R (rc cls X g) A0 H σ env ((forD (fun d e => exs Γ N body (put e i d .frz)) ((rngL a b).drop n) env' >>= fun o => (pure o : M R.S Out)) s') De) ⟨env, s1, .refl st0.envk st0.ok, by rw [List.drop_zero]; exact h⟩ ?_ ?_
  · rintro n σ' H' hn ⟨env', s', st, hp⟩
    exact for_run (c := rc cls X g) (fin := fun o => pure o) rfl rfl qb st0 (fun _ _ _ => rfl) fin (rngL_get hn) st rfl hp (fun σ2 H2 e s2 b hb => ⟨e, s2, b, hb⟩)
  · rintro σ' H' ⟨env', s', st, hp⟩
    rw [← rngL_len (a := a) (b := b), List.drop_length] at hp
    exact fin σ' H' env' s' st hp
theorem ss_forR1 {e : Expr} {x : Str} {ih : IE} {i : Nat} {b : List Stmt} {body : List IS} {pos tpos p2 p3 : Pos} (hp : PassesOwn (model X.prog X.w) X.A X.env X.xe) (hc : X.calm = true) (nd : X.N.Nodup) (hi : X.N[i]? = some x) (hx : Loc X.env.scope x)
    (hf : X.fn x = true ∨ X.env.scope.names.lookup x = some .local) (hg : Gl X "range") (hm : X.mg "range" = none) (h1 : SE R cls Γ X e ih) (hs : noStar e = true) (h2 : SSs R cls Γ N X b body) :
    SS R cls Γ N X (.For (.Name x tpos) (.Call (.Name "range" p2) [e] [] p3) b [] pos) (.forR i none ih body) := by
  obtain ⟨t, pe, q⟩ := h1
  obtain ⟨tb, pb, qb⟩ := h2
  refine ⟨_, ps_for hp hc (pi_range1 hg hm (pa_cons pe pa_nil (star_cons hs)) (star_cons hs)) (pg_name nd hi hx hf) pb (fun _ => rfl), fun De σ H g A0 env s k o h => ?_⟩
  unfold ex at h
  rw [pure_bind'] at h
  refine SE.bindS q k o h fun d s1 v H1 x1 o1 r1 k1 h => ?_
  cases d with
  | int j =>
    have h : PostS R (rc cls X g) A0 H σ env ((if -(2 ^ 62) ≤ (0 : Int) ∧ (0 : Int) < 2 ^ 62 ∧ -(2 ^ 62) ≤ j ∧ j < 2 ^ 62 then forD (fun d e => exs Γ N body (put e i d .frz)) (rngL 0 j) env else bad : M R.S Out) s1) De := h
    split at h
    · rename_i z
      refine ⟨j, by rw [show v = .int j from Rm.flat r1 rfl], z.2.2.1, z.2.2.2, ?_⟩
      have w := range_core qb (StepOk.expr k1 x1 o1) h
      rw [Int.sub_zero] at w
      exact w
    · exact h.elim
  | _ => exact h.elim
theorem ss_forR2 {e1 e2 : Expr} {x : Str} {il ih : IE} {i : Nat} {b : List Stmt} {body : List IS} {pos tpos p2 p3 : Pos} (hp : PassesOwn (model X.prog X.w) X.A X.env X.xe) (hc : X.calm = true) (nd : X.N.Nodup) (hi : X.N[i]? = some x) (hx : Loc X.env.scope x)
    (hf : X.fn x = true ∨ X.env.scope.names.lookup x = some .local) (hg : Gl X "range") (hm : X.mg "range" = none) (h0 : SE R cls Γ X e1 il) (h1 : SE R cls Γ X e2 ih) (hs1 : noStar e1 = true) (hs : noStar e2 = true) (h2 : SSs R cls Γ N X b body) :
    SS R cls Γ N X (.For (.Name x tpos) (.Call (.Name "range" p2) [e1, e2] [] p3) b [] pos) (.forR i (some il) ih body) := by
  obtain ⟨t0, pe0, q0⟩ := h0
  obtain ⟨t, pe, q⟩ := h1
  obtain ⟨tb, pb, qb⟩ := h2
  refine ⟨_, ps_for hp hc (pi_range2 hg hm (pa_cons pe0 (pa_cons pe pa_nil (star_cons hs)) (star_cons hs1)) (by rw [star_cons hs1, star_cons hs]; rfl) (by rw [star_cons hs]; rfl)) (pg_name nd hi hx hf) pb (fun _ => rfl), fun De σ H g A0 env s k o h => ?_⟩
  unfold ex at h
  refine SE.bindS q0 k o h fun d0 s0 v0 H0 x0 o0 r0 k0 h => ?_
  refine SE.bindS q k0 o0 h fun d s1 v H1 x1 o1 r1 k1 h => ?_
  cases d0 with
  | int a =>
    cases d with
    | int j =>
      have h : PostS R (rc cls X g) A0 H σ env ((if -(2 ^ 62) ≤ a ∧ a < 2 ^ 62 ∧ -(2 ^ 62) ≤ j ∧ j < 2 ^ 62 then forD (fun d e => exs Γ N body (put e i d .frz)) (rngL a j) env else bad : M R.S Out) s1) De := h
      split at h
      · rename_i z
        exact ⟨a, j, by rw [show v0 = .int a from Rm.flat r0 rfl, show v = .int j from Rm.flat r1 rfl], z, range_core qb (StepOk.expr k1 (x0.trans x1) o1) h⟩
      · exact h.elim
    | _ => exact h.elim
  | _ => exact h.elim
/-- while, at most N turns -/
theorem ss_whl {c : Expr} {ic : IE} {b : List Stmt} {body : List IS} {pos : Pos} (hp : PassesOwn (model X.prog X.w) X.A X.env X.xe) (h1 : ST R cls Γ X c ic) (h2 : SSs R cls Γ N X b body) : SS R cls Γ N X (.While c b [] pos) (.whl ic body) := by
  obtain ⟨t, pe, q⟩ := h1
  obtain ⟨tb, pb, qb⟩ := h2
  refine ⟨_, ps_while hp pe pb, fun De σ H g A0 env s k o h => ?_⟩
  unfold ex at h
  refine ⟨fun m σ' H' => ∃ env' s', StepOk R (rc cls X g) A0 H σ env H' σ' env' s' ∧ PostS R (rc cls X g) A0 H σ env (whlN (fun e => ev Γ ic e >>= truth >>= fun x => if x = true then exs Γ N body e >>= fun o => pure (some o) else pure none) m env' s') De, ⟨N, env, s, .refl k o, by simpa using h⟩, ?_⟩
  rintro m σ1 H1 ⟨env1, s1, st1, hp1⟩
  cases m with
  | zero => exact hp1.elim
  | succ m =>
    have hp1 : PostS R (rc cls X g) A0 H σ env ((((ev Γ ic env1 >>= truth) >>= fun x => if x = true then exs Γ N body env1 >>= fun o => pure (some o) else pure none) >>= fun o => match o with
      | none => pure (.nx env1)
      | some (.nx e) => whlN (fun e => ev Γ ic e >>= truth >>= fun x => if x = true then exs Γ N body e >>= fun o => pure (some o) else pure none) m e
      | some (.ct e) => whlN (fun e => ev Γ ic e >>= truth >>= fun x => if x = true then exs Γ N body e >>= fun o => pure (some o) else pure none) m e
      | some (.bk e) => pure (.nx e)
      | some (.ret v f) => pure (.ret v f)) s1) De := hp1
    rw [bind_assoc'] at hp1
    refine ST.bindS q st1.envk st1.ok hp1 fun z s2 H2 x2 o2 k2 hp2 => ?_
    have st2 := st1.trans (StepOk.expr k2 x2 o2)
    cases z with
    | false =>
      rw [if_neg Bool.false_ne_true] at hp2 ⊢
      exact hp2 σ1 H2 st2
    | true =>
      rw [if_pos rfl] at hp2 ⊢
      refine ⟨fun σ' H' => ∃ env' s', StepOk R (rc cls X g) A0 H σ env H' σ' env' s' ∧ PostS R (rc cls X g) A0 H σ env (whlN (fun e => ev Γ ic e >>= truth >>= fun x => if x = true then exs Γ N body e >>= fun o => pure (some o) else pure none) m env' s') De, fun σ' H' z => ⟨m, Nat.lt_succ_self m, z⟩, ?_⟩
      rw [bind_assoc', bind_def] at hp2
      refine qb _ σ1 H2 g A0 env1 s2 k2 o2 ?_
      cases w : exs Γ N body env1 s2 with
      | bad => rw [w] at hp2; exact hp2
      | er _ _ _ => rw [w] at hp2; exact hp2
      | ok u s3 =>
        rw [w] at hp2
        cases u with
        | nx e => exact fun σ3 H3 b => ⟨e, s3, st2.trans b, hp2⟩
        | ct e => exact fun σ3 H3 b => ⟨e, s3, st2.trans b, hp2⟩
        | bk e => exact fun σ3 H3 b => hp2 σ3 H3 (st2.trans b)
        | ret d f => exact fun v H3 b => hp2 v H3 (b.from st2)
end
end Pv
end
section
set_option maxHeartbeats 4000000
namespace Pv
open PySem PySem.Spec PyProof.Rows L2

def isLc : IE → Bool
  | .lc _ _ _ => true
  | .lci _ _ _ _ => true
  | .lcr _ _ _ _ _ => true
  | _ => false
def compScope : Expr → Option (Scope × Pos)
  | .ListComp _ _ s p => some (s, p)
  | .SetComp _ _ s p => some (s, p)
  | .DictComp _ _ _ s p => some (s, p)
  | _ => none
/-- whether name = e stores within the comprehension's block -/
def swpB (sc : Scope) (v : Expr) (t : Str) (pos : Pos) : Bool := match compScope v with
  | some (s, p) => (sc.names.lookup t == some .local) && (pos.line == p.line) && !(s.names.any fun (n, k) => n == t && (k == .local || k == .cell))
  | none => false
theorem swp_eq {v : Expr} {t : Str} {pos : Pos} {l : Nat} {env : PySem.Env} (hk : env.scope.kind = .function) : swapsWith v (some (.Name t pos)) l env = pure (swpB env.scope v t pos) := by
  have hb : env.blockKind = .function := by unfold PySem.Env.blockKind; rw [hk]; rfl
  cases v <;> first
    | rfl
    | (show (pure (env.blockKind == .function && env.kindOf t == some .local && pos.line == _ && !(_ : Bool)) : Sem Bool) = _
       rw [hb]
       rfl)
theorem swp_none {v : Expr} {l : Nat} {env : PySem.Env} (h : compScope v = none) : swapsWith v none l env = pure false := by
  cases v <;> first | rfl | cases h
def isLoc (sc : Scope) (line : Nat) : Expr → Option Str
  | .Name id pos => if sc.names.lookup id == some .local && pos.line == line then some id else none
  | _ => none
/-- the names of a, b = x, y that are stored from the right; none: a tuple is made -/
def swpN (sc : Scope) (ts vs : List Expr) : Option (Option (List Str)) :=
  if !(ts.length == 2 || ts.length == 3) || vs.length != ts.length then some none else
  if vs.any (fun | .Starred .. => true | _ => false) then some none else
  let names := ts.filterMap (isLoc sc ((ts.head?.map (·.pos.line)).getD 0))
  if names.length != ts.length || names.eraseDups.length != names.length then some none else
  if vs.all (foldedForSure 8) then some none else
  if vs.all (constantsAlone 8) then none else some (some names)
theorem swpN_eq {ts vs : List Expr} {k k2 : Nat} {p p2 : Pos} {env : PySem.Env} {r : Option (List Str)} (hk : env.scope.kind = .function) (h : swpN env.scope ts vs = some r) : swappedStores [.Tuple ts k p] (.Tuple vs k2 p2) env = pure r := by
  have hb : env.blockKind = .function := by unfold PySem.Env.blockKind; rw [hk]; rfl
  have aux : ∀ (c1 c2 c3 c4 c5 : Bool) (nm : List Str) (u : Sem (Option (List Str))), (if c1 = true then some none else if c2 = true then some none else if c3 = true then some none else if c4 = true then some none else if c5 = true then none else some (some nm)) = some r →
      (if c1 = true then pure none else if c2 = true then pure none else if c3 = true then pure none else if c4 = true then pure none else if c5 = true then u else pure (some nm)) = (pure r : Sem (Option (List Str))) := by
    intro c1 c2 c3 c4 c5 nm u h
    cases c1 <;> cases c2 <;> cases c3 <;> cases c4 <;> cases c5 <;> first | (cases h; rfl) | cases h
  have e1 : (env.blockKind != .function) = false := by rw [hb]; rfl
  unfold swpN at h
  unfold swappedStores
  dsimp only
  rw [e1, Bool.or_false]
  exact aux _ _ _ _ _ _ _ h
end Pv
end
section
set_option maxHeartbeats 4000000
namespace Pv
open PySem PySem.Spec PyProof.Rows L2

def locB (sc : Scope) (x : Str) : Bool := match sc.names.lookup x with
  | some .local => true
  | some .cell => true
  | _ => false
def locL (sc : Scope) (x : Str) : Bool := match sc.names.lookup x with
  | some .local => true
  | _ => false
mutual
def chkS (C : CC) : IS → Stmt → Bool
  | .set i own ie, st => (match st with
    | .Assign [.Name x px] v _ => decide (C.N[i]? = some x) && (locB C.sc x && ((if own then decide (md ie = .fr) else decide (md ie ≠ .bor)) && (chk C ie v && (!swpB C.sc v x px || (isLc ie && locL C.sc x)))))
    | _ => false)
  | .par is ies, st => (match is, st with
    | [i, j], .Assign [.Tuple [.Name x px, .Name y py] kt pt] (.Tuple [a, b] k2 p2) _ => decide (C.N[i]? = some x) && (decide (C.N[j]? = some y) && (decide (i ≠ j) && (locL C.sc x && (locL C.sc y && (lbAll ies && (chks C ies [a, b] && decide (swpN C.sc [.Name x px, .Name y py] [a, b] = some (some [x, y]))))))))
    | [i, j, l], .Assign [.Tuple [.Name x px, .Name y py, .Name z pz] kt pt] (.Tuple [a, b, c] k2 p2) _ => decide (C.N[i]? = some x) && (decide (C.N[j]? = some y) && (decide (C.N[l]? = some z) && (decide (i ≠ j ∧ i ≠ l ∧ j ≠ l) && (locL C.sc x && (locL C.sc y && (locL C.sc z && (lbAll ies && (chks C ies [a, b, c] && decide (swpN C.sc [.Name x px, .Name y py, .Name z pz] [a, b, c] = some (some [x, y, z]))))))))))
    | _, _ => false)
  | .unp is ie, st => (match st with
    | .Assign [.Tuple ts _ _] v _ => tgOk C.N C.sc is ts && (decide (md ie ≠ .bor) && (chk C ie v && (match v with
      | .Tuple vs _ _ => decide (swpN C.sc ts vs = some none)
      | _ => true)))
    | _ => false)
  | .frz _, _ => false
  | .app i ie, st => (match st with
    | .Expr (.Call (.Attribute (.Name x _) m p2) [e] [] p3) _ => decide (m = "append") && (nmOk C i x && (decide (md ie ≠ .bor) && (noStar e && (decide (p2.endLine = p3.line) && chk C ie e))))
    | _ => false)
  | .setIx _ _ _, _ => false
  | .exp ie, st => (match st with
    | .Expr v _ => (compScope v).isNone && chk C ie v
    | _ => false)
  | .ret ie, st => (match st with
    | .Return (some v) _ => decide (md ie ≠ .bor) && chk C ie v
    | _ => false)
  | .retO i, st => (match st with
    | .Return (some (.Name x _)) _ => nmOk C i x
    | _ => false)
  | .retN, st => (match st with
    | .Return none _ => true
    | _ => false)
  | .ite c a b, st => (match st with
    | .If e x y _ => tOk c && (chk C c e && (chkSs C a x && chkSs C b y))
    | _ => false)
  | .forL i src hold body, st => (match st with
    | .For (.Name x _) it b [] _ => decide (C.N[i]? = some x) && (locB C.sc x && (chkSs C body b && (match src, hold with
      | .bor j, some k => decide (j = k) && (match it with
        | .Name y _ => nmOk C j y
        | _ => false)
      | src, none => decide (md src ≠ .bor) && (notSet it && chk C src it)
      | _, _ => false)))
    | _ => false)
  | .forR i lo hi body, st => (match st with
    | .For (.Name x _) (.Call (.Name r _) args [] _) b [] _ => decide (C.N[i]? = some x) && (locB C.sc x && (chkSs C body b && (decide (r = "range") && (freeOk C r && (match lo, args with
      | none, [e] => noStar e && chk C hi e
      | some l, [e1, e2] => noStar e1 && (noStar e2 && (chk C l e1 && chk C hi e2))
      | _, _ => false)))))
    | _ => false)
  | .whl c body, st => (match st with
    | .While e b [] _ => tOk c && (chk C c e && chkSs C body b)
    | _ => false)
  | .brk, st => (match st with | .Break _ => true | _ => false)
  | .cnt, st => (match st with | .Continue _ => true | _ => false)
  | .pas, st => (match st with | .Pass _ => true | _ => false)
  | .never, _ => true
def chkSs (C : CC) : List IS → List Stmt → Bool
  | [], sts => sts.isEmpty
  | i :: is, sts => (match i with
    | .frz _ => chkSs C is sts
    | i => (match sts with
      | st :: sts => chkS C i st && chkSs C is sts
      | [] => false))
end
/-- for the item's own statement -/
structure YOk (R : RS) (cls : Str → Addr) (Γ : Gm R.S) (C : CC) (X : Cx) : Prop where
  x : XOk R cls Γ C X
  kind : X.env.scope.kind = .function
  fn : ∀ x, X.fn x = true
  pas : PassesOwn (model X.prog X.w) X.A X.env X.xe
def PS_ (R : RS) (cls : Str → Addr) (Γ : Gm R.S) (N : Nat) (is : IS) : Prop := ∀ (C : CC) (X : Cx) (st : Stmt), YOk R cls Γ C X → chkS C is st = true → SS R cls Γ N X st is
def PSs_ (R : RS) (cls : Str → Addr) (Γ : Gm R.S) (N : Nat) (is : List IS) : Prop := ∀ (C : CC) (X : Cx) (st : List Stmt), YOk R cls Γ C X → chkSs C is st = true → SSs R cls Γ N X st is
section
variable {R : RS} {cls : Str → Addr} {Γ : Gm R.S} {N : Nat}
theorem locB_of {X : Cx} {C : CC} (k : YOk R cls Γ C X) {x : Str} (h : locB C.sc x = true) : Loc X.env.scope x := by
  rw [k.x.sc]
  unfold locB at h
  split at h
  · rename_i e; exact .inl e
  · rename_i e; exact .inr e
  · cases h
theorem locL_of {X : Cx} {C : CC} (k : YOk R cls Γ C X) {x : Str} (h : locL C.sc x = true) : X.env.scope.names.lookup x = some .local := by
  rw [k.x.sc]
  unfold locL at h
  split at h
  · assumption
  · cases h
theorem nmOk_of {X : Cx} {C : CC} (k : XOk R cls Γ C X) {x : Str} {i : Nat} (h : nmOk C i x = true) : X.N[i]? = some x ∧ Vis X.env.scope x ∧ (x == ("__debug__" : Str)) = false ∧ (x == ("__classdict__" : Str)) = false := by
  obtain ⟨h1, h2⟩ := b2 h
  obtain ⟨h2, h3⟩ := b2 h2
  obtain ⟨h3, h4⟩ := b2 h3
  exact ⟨by rw [k.N]; exact dec h1, by rw [k.sc]; exact vis_of h2, nb h3, nb h4⟩
theorem sole_tup {ts : List Expr} {k : Nat} {p : Pos} {v : Expr} {l : Nat} {env : PySem.Env} : swapsWithSole [.Tuple ts k p] v l env = pure false := by
  show swapsWith v (some (.Tuple ts k p)) l env = pure false
  cases v <;> rfl
theorem swp_notup {ts : List Expr} {k : Nat} {p : Pos} {v : Expr} {env : PySem.Env} (h : ∀ vs k p, v ≠ .Tuple vs k p) : swappedStores [.Tuple ts k p] v env = pure none := by
  cases v <;> first | rfl | exact absurd rfl (h _ _ _)
/-- name = [.. for ..] within the block -/
theorem ss_setLc {e : Expr} {ie : IE} {x : Str} {i : Nat} {own : Bool} {pos px : Pos} {C : CC} {X : Cx} (k : YOk R cls Γ C X) (h : chk C ie e = true) (hlc : isLc ie = true) (hm : own = true → md ie = .fr) (hm2 : own = false → md ie ≠ .bor) (hi : X.N[i]? = some x) (hx : X.env.scope.names.lookup x = some .local) (hs : swapsWith e (some (.Name x px)) pos.line X.env = pure true) :
    SS R cls Γ N X (.Assign [.Name x px] e pos) (.set i own ie) := by
  have sl : SL R cls Γ X e ie := by
    cases ie with
    | lc i src body =>
      have k := k.x
      unfold chk at h
      split at h
      · obtain ⟨h0, h⟩ := b2 h
        obtain ⟨h1, h⟩ := b2 h
        obtain ⟨h2, h⟩ := b2 h
        obtain ⟨h3, h⟩ := b2 h
        obtain ⟨h4, h⟩ := b2 h
        obtain ⟨h5, h6⟩ := b2 h
        exact sl_lc k.calm k.nd (by rw [k.N, k.sc]; exact blkOk_by h1) (chk_ok src C X _ k h5).1 (by rw [k.N]; exact dec h0) (by rw [k.sc]; exact dec h2)
          (fun s H c cl fp => (chk_ok body _ _ _ (k.blk _ s H c cl fp) h6).1) (dec h4) (notSet_fold h3)
      · cases h
    | lci i src ic body =>
      have k := k.x
      unfold chk at h
      split at h
      · obtain ⟨h0, h⟩ := b2 h
        obtain ⟨h1, h⟩ := b2 h
        obtain ⟨h2, h⟩ := b2 h
        obtain ⟨h3, h⟩ := b2 h
        obtain ⟨h4, h⟩ := b2 h
        obtain ⟨h4', h⟩ := b2 h
        obtain ⟨h5, h⟩ := b2 h
        obtain ⟨h6, h7⟩ := b2 h
        exact sl_lci k.calm k.nd (by rw [k.N, k.sc]; exact blkOk_by h1) (chk_ok src C X _ k h5).1 (by rw [k.N]; exact dec h0) (by rw [k.sc]; exact dec h2)
          (fun s H c cl fp => ((chk_ok ic _ _ _ (k.blk _ s H c cl fp) h6).2 h4').1) (fun s H c cl fp => (chk_ok body _ _ _ (k.blk _ s H c cl fp) h7).1) (dec h4) (notSet_fold h3)
      · cases h
    | lcr i a b c body => exact sl_lcr i a b c body (p_all a) (p_all b) (p_all c) (p_all body) C X e k.x h
    | _ => cases hlc
  obtain ⟨t, _, p, q⟩ := sl
  exact ⟨_, p hi hx hs, asg_ok own hm hm2 q⟩
theorem s_set (i : Nat) (own : Bool) (ie : IE) : PS_ R cls Γ N (.set i own ie) := fun C X st k h => by
  unfold chkS at h
  split at h
  · rename_i x px v pos
    obtain ⟨h1, h⟩ := b2 h
    obtain ⟨h2, h⟩ := b2 h
    obtain ⟨h3, h⟩ := b2 h
    obtain ⟨h4, h5⟩ := b2 h
    have m1 : own = true → md ie = .fr := fun e => by rw [if_pos e] at h3; exact dec h3
    have m2 : own = false → md ie ≠ .bor := fun e => by rw [if_neg (by rw [e]; simp)] at h3; exact dec h3
    have hN : X.N[i]? = some x := by rw [k.x.N]; exact dec h1
    have sw := swp_eq (v := v) (t := x) (pos := px) (l := pos.line) k.kind
    cases q : swpB C.sc v x px with
    | false =>
      rw [k.x.sc, q] at sw
      exact ss_set (chk_ok ie C X v k.x h4).1 m1 m2 k.x.nd hN (locB_of k h2) sw (.inl (k.fn _))
    | true =>
      rw [q] at h5
      obtain ⟨h6, h7⟩ := b2 (show (isLc ie && locL C.sc x) = true from h5)
      rw [k.x.sc, q] at sw
      exact ss_setLc k h4 h6 m1 m2 hN (locL_of k h7) sw
  · cases h
theorem s_par (is : List Nat) (ies : List IE) : PS_ R cls Γ N (.par is ies) := fun C X st k h => by
  unfold chkS at h
  split at h
  · obtain ⟨h1, h⟩ := b2 h
    obtain ⟨h2, h⟩ := b2 h
    obtain ⟨h3, h⟩ := b2 h
    obtain ⟨h4, h⟩ := b2 h
    obtain ⟨h5, h⟩ := b2 h
    obtain ⟨h6, h⟩ := b2 h
    obtain ⟨h7, h8⟩ := b2 h
    exact ss_par (chks_ok ies (fun ie _ => p_all ie) C X _ k.x h7) h6 k.x.calm k.x.nd (by rw [k.x.N]; exact dec h1) (by rw [k.x.N]; exact dec h2) (dec h3) (locL_of k h4) (locL_of k h5) (swpN_eq k.kind (by rw [k.x.sc]; exact dec h8))
  · obtain ⟨h1, h⟩ := b2 h
    obtain ⟨h2, h⟩ := b2 h
    obtain ⟨h2', h⟩ := b2 h
    obtain ⟨h3, h⟩ := b2 h
    obtain ⟨h4, h⟩ := b2 h
    obtain ⟨h5, h⟩ := b2 h
    obtain ⟨h5', h⟩ := b2 h
    obtain ⟨h6, h⟩ := b2 h
    obtain ⟨h7, h8⟩ := b2 h
    obtain ⟨n1, n2, n3⟩ := dec h3
    exact ss_par3 (chks_ok ies (fun ie _ => p_all ie) C X _ k.x h7) h6 k.x.calm k.x.nd (by rw [k.x.N]; exact dec h1) (by rw [k.x.N]; exact dec h2) (by rw [k.x.N]; exact dec h2') n1 n2 n3 (locL_of k h4) (locL_of k h5) (locL_of k h5') (swpN_eq k.kind (by rw [k.x.sc]; exact dec h8))
  · cases h
theorem s_unp (is : List Nat) (ie : IE) : PS_ R cls Γ N (.unp is ie) := fun C X st k h => by
  unfold chkS at h
  split at h
  · obtain ⟨h1, h⟩ := b2 h
    obtain ⟨h2, h⟩ := b2 h
    obtain ⟨h3, h4⟩ := b2 h
    refine ss_unp (chk_ok ie C X _ k.x h3).1 (dec h2) k.x.calm k.x.nd k.fn (by rw [k.x.N, k.x.sc]; exact h1) sole_tup ?_
    split at h4
    · exact swpN_eq k.kind (by rw [k.x.sc]; exact dec h4)
    · rename_i hn
      exact swp_notup fun vs k p e => hn vs k p e
  · cases h
theorem s_app (i : Nat) (ie : IE) : PS_ R cls Γ N (.app i ie) := fun C X st k h => by
  unfold chkS at h
  split at h
  · obtain ⟨h1, h⟩ := b2 h
    obtain ⟨h2, h⟩ := b2 h
    obtain ⟨h3, h⟩ := b2 h
    obtain ⟨h4, h⟩ := b2 h
    obtain ⟨h5, h6⟩ := b2 h
    have z := dec h1
    subst z
    obtain ⟨a1, a2, a3, a4⟩ := nmOk_of k.x h2
    exact ss_app (chk_ok ie C X _ k.x h6).1 (dec h3) a1 a2 a3 a4 h4 (by rw [dec h5]; simp)
  · cases h
theorem s_exp (ie : IE) : PS_ R cls Γ N (.exp ie) := fun C X st k h => by
  unfold chkS at h
  split at h
  · obtain ⟨h1, h2⟩ := b2 h
    exact ss_exp (chk_ok ie C X _ k.x h2).1 (swp_none (Option.isNone_iff_eq_none.mp h1))
  · cases h
theorem s_ret (ie : IE) : PS_ R cls Γ N (.ret ie) := fun C X st k h => by
  unfold chkS at h
  split at h
  · obtain ⟨h1, h2⟩ := b2 h
    exact ss_ret (chk_ok ie C X _ k.x h2).1 (dec h1)
  · cases h
theorem s_retO (i : Nat) : PS_ R cls Γ N (.retO i) := fun C X st k h => by
  unfold chkS at h
  split at h
  · obtain ⟨a1, a2, a3, a4⟩ := nmOk_of k.x h
    exact ss_retO a1 a2 a3 a4
  · cases h
theorem s_retN : PS_ R cls Γ N .retN := fun C X st k h => by
  unfold chkS at h
  split at h
  · exact ss_retN
  · cases h
theorem s_ite (c : IE) (a b : List IS) (pa : PSs_ R cls Γ N a) (pb : PSs_ R cls Γ N b) : PS_ R cls Γ N (.ite c a b) := fun C X st k h => by
  unfold chkS at h
  split at h
  · obtain ⟨h1, h⟩ := b2 h
    obtain ⟨h2, h⟩ := b2 h
    obtain ⟨h3, h4⟩ := b2 h
    exact ss_ite ((chk_ok c C X _ k.x h2).2 h1).1 (pa C X _ k h3) (pb C X _ k h4)
  · cases h
theorem s_forL (i : Nat) (src : IE) (hold : Option Nat) (body : List IS) (pb : PSs_ R cls Γ N body) : PS_ R cls Γ N (.forL i src hold body) := fun C X st k h => by
  unfold chkS at h
  split at h
  · rename_i x tp it b p
    obtain ⟨h1, h⟩ := b2 h
    obtain ⟨h2, h⟩ := b2 h
    obtain ⟨h3, h4⟩ := b2 h
    have hN : X.N[i]? = some x := by rw [k.x.N]; exact dec h1
    split at h4
    · obtain ⟨h5, h6⟩ := b2 h4
      have z := dec h5
      subst z
      split at h6
      · obtain ⟨a1, a2, a3, a4⟩ := nmOk_of k.x h6
        exact ss_forB k.pas k.x.calm k.x.nd hN (locB_of k h2) (.inl (k.fn _)) a1 a2 a3 a4 (pb C X _ k h3)
      · cases h6
    · obtain ⟨h5, h6⟩ := b2 h4
      obtain ⟨h7, h8⟩ := b2 h6
      exact ss_forL k.pas k.x.calm k.x.nd hN (locB_of k h2) (.inl (k.fn _)) (chk_ok _ C X _ k.x h8).1 (dec h5) (pb C X _ k h3) (notSet_fold h7)
    · cases h4
  · cases h
theorem s_forR (i : Nat) (lo : Option IE) (hi : IE) (body : List IS) (pb : PSs_ R cls Γ N body) : PS_ R cls Γ N (.forR i lo hi body) := fun C X st k h => by
  unfold chkS at h
  split at h
  · rename_i x p0 r p1 args p2 b p3
    obtain ⟨h1, h⟩ := b2 h
    obtain ⟨h2, h⟩ := b2 h
    obtain ⟨h3, h⟩ := b2 h
    obtain ⟨h4, h⟩ := b2 h
    obtain ⟨h5, h6⟩ := b2 h
    have hN : X.N[i]? = some x := by rw [k.x.N]; exact dec h1
    have z := dec h4
    subst z
    obtain ⟨g, d, m, n⟩ := free_of k.x h5
    split at h6
    · obtain ⟨h7, h8⟩ := b2 h6
      exact ss_forR1 k.pas k.x.calm k.x.nd hN (locB_of k h2) (.inl (k.fn _)) g m (chk_ok _ C X _ k.x h8).1 h7 (pb C X _ k h3)
    · obtain ⟨h7, h⟩ := b2 h6
      obtain ⟨h8, h⟩ := b2 h
      obtain ⟨h9, h10⟩ := b2 h
      exact ss_forR2 k.pas k.x.calm k.x.nd hN (locB_of k h2) (.inl (k.fn _)) g m (chk_ok _ C X _ k.x h9).1 (chk_ok _ C X _ k.x h10).1 h7 h8 (pb C X _ k h3)
    · cases h6
  · cases h
theorem s_whl (c : IE) (body : List IS) (pb : PSs_ R cls Γ N body) : PS_ R cls Γ N (.whl c body) := fun C X st k h => by
  unfold chkS at h
  split at h
  · obtain ⟨h1, h⟩ := b2 h
    obtain ⟨h2, h3⟩ := b2 h
    exact ss_whl k.pas ((chk_ok c C X _ k.x h2).2 h1).1 (pb C X _ k h3)
  · cases h
theorem s_brk : PS_ R cls Γ N .brk := fun C X st k h => by
  unfold chkS at h
  split at h
  · exact ss_brk
  · cases h
theorem s_cnt : PS_ R cls Γ N .cnt := fun C X st k h => by
  unfold chkS at h
  split at h
  · exact ss_cnt
  · cases h
theorem s_pas : PS_ R cls Γ N .pas := fun C X st k h => by
  unfold chkS at h
  split at h
  · exact ss_pas
  · cases h
theorem s_cons (i : IS) (is : List IS) (p1 : PS_ R cls Γ N i) (p2 : PSs_ R cls Γ N is) : PSs_ R cls Γ N (i :: is) := fun C X sts k h => by
  unfold chkSs at h
  split at h
  · exact sss_frz (p2 C X sts k h)
  · split at h
    · obtain ⟨h1, h2⟩ := b2 h
      exact ss_cons (p1 C X _ k h1) (p2 C X _ k h2)
    · cases h
theorem s_nil : PSs_ R cls Γ N [] := fun C X sts k h => by
  unfold chkSs at h
  cases sts with
  | nil => exact ss_nil
  | cons st sts => cases h
mutual
theorem s_all : ∀ is : IS, PS_ R cls Γ N is
  | .set i own ie => s_set i own ie
  | .par is ies => s_par is ies
  | .unp is ie => s_unp is ie
  | .frz i => fun C X st k h => by unfold chkS at h; cases h
  | .app i ie => s_app i ie
  | .setIx i a b => fun C X st k h => by unfold chkS at h; cases h
  | .exp ie => s_exp ie
  | .ret ie => s_ret ie
  | .retO i => s_retO i
  | .retN => s_retN
  | .ite c a b => s_ite c a b (ss_all a) (ss_all b)
  | .forL i src hold body => s_forL i src hold body (ss_all body)
  | .forR i lo hi body => s_forR i lo hi body (ss_all body)
  | .whl c body => s_whl c body (ss_all body)
  | .brk => s_brk
  | .cnt => s_cnt
  | .pas => s_pas
  | .never => fun C X st k h => ss_never
theorem ss_all : ∀ is : List IS, PSs_ R cls Γ N is
  | [] => s_nil
  | i :: is => s_cons i is (s_all i) (ss_all is)
end
end
end Pv
end
section
set_option maxHeartbeats 4000000
namespace Pv
open PySem PySem.Spec PyProof.Rows L2

/-! ### a def of the module, its term, its promise -/
section
variable {R : RS} {cls : Str → Addr} {Γ : Gm R.S} {P : Program} {w : World} {K : PySem.W.Frag} {mg : Str → Option Value} {base : Heap}
/-- a def that may be called within k -/
structure Fk (R : RS) (cls : Str → Addr) (P : Program) (w : World) (K : PySem.W.Frag) (mg : Str → Option Value) (base : Heap) (k : Nat) (x : Str) (sg : Sig) (F : List D → M R.S D) : Prop where
  ex : ∃ f fd ps, mg x = some (.ref f) ∧ PySem.W.keepIn K (.ref f) = true ∧ Binds K fd ps [] ∧ FnOk P w K mg base CX0 k f fd ps (spF R K cls sg F)
structure FkK (R : RS) (cls : Str → Addr) (P : Program) (w : World) (K : PySem.W.Frag) (mg : Str → Option Value) (base : Heap) (k : Nat) (x : Str) (sg : Sig) (F : List D → M R.S D) (ks : List Str) (perm : List Nat) : Prop where
  ex : ∃ f fd ps, mg x = some (.ref f) ∧ PySem.W.keepIn K (.ref f) = true ∧ KBn K fd ps 0 ks (fun us ws => us ++ perm.filterMap fun i => ws[i]?) (fun us ws => us ++ perm.filterMap fun i => ws[i]?) ∧ FnOk P w K mg base CX0 k f fd ps (spF R K cls sg F)
/-- what a def's checks lean on -/
structure DOk (R : RS) (cls : Str → Addr) (Γ : Gm R.S) (C : CC) (P : Program) (w : World) (K : PySem.W.Frag) (mg : Str → Option Value) (base : Heap) (k : Nat) : Prop where
  free : ∀ x ∈ C.free, mg x = none
  fn : ∀ (i : Nat) (x : Str) (sg : Sig), C.fns[i]? = some (x, sg) → ∃ F, Γ.fns[i]? = some F ∧ Fk R cls P w K mg base k x sg F
  kw : ∀ (i : Nat) (x : Str) (sg : Sig) (F : List D → M R.S D) (ks : List Str) (perm : List Nat), (i, ks, perm) ∈ C.kws → C.fns[i]? = some (x, sg) → Γ.fns[i]? = some F → FkK R cls P w K mg base k x sg F ks perm
  con : ∀ (i : Nat) (x : Str) (d : D), C.cons[i]? = some x → Γ.cons[i]? = some d → ∃ v u, mg x = some u ∧ RelV v u ∧ ∀ g A H, Rp ⟨K, cls, g⟩ A H d v
theorem startE_get {n : Nat} {lend : List Bool} {ds : List D} {i : Nat} {d : D} {f : Fl} (h : (startE n lend ds)[i]? = some (some (d, f))) : ∃ b, ds[i]? = some d ∧ lend[i]? = some b ∧ f = if b then Fl.lent else Fl.frz := by
  unfold startE at h
  rw [List.getElem?_append] at h
  split at h
  · rw [List.getElem?_map] at h
    cases q : (ds.zip lend)[i]? with
    | none => rw [q] at h; cases h
    | some p =>
      rw [q] at h
      cases h
      rw [List.getElem?_zip_eq_some] at q
      exact ⟨p.2, q.1, q.2, rfl⟩
  · rw [List.getElem?_replicate] at h
    split at h <;> cases h
theorem ArgsOk.get {c : Rc} {A : Addr → Prop} {H : Hp} : ∀ {ls : List Bool} {ds : List D} {vs : List V} {i : Nat} {d : D} {b : Bool}, ArgsOk c A H ls ds vs → ds[i]? = some d → ls[i]? = some b → ∃ v, vs[i]? = some v ∧ (if b then Lb c A H d v else Rp c A H d v)
  | [], ds, vs, i, d, b, h, h1, h2 => by simp at h2
  | l :: ls, ds, vs, i, d, b, h, h1, h2 => by
    obtain ⟨e, ds', v, vs', rfl, rfl, q1, q2⟩ := h
    cases i with
    | zero =>
      simp at h1 h2
      subst h1 h2
      exact ⟨v, rfl, q1⟩
    | succ i =>
      simp at h1 h2
      obtain ⟨u, e1, e2⟩ := q2.get h1 h2
      exact ⟨u, by simpa using e1, e2⟩
theorem start_get {N : List Str} {vs : List V} {i : Nat} {v : V} (h : vs[i]? = some v) : (L2.start N vs)[i]? = some (some v) := by
  unfold L2.start
  have hi : i < vs.length := by
    rcases Nat.lt_or_ge i vs.length with z | z
    · exact z
    · rw [List.getElem?_eq_none z] at h; cases h
  rw [List.getElem?_append_left (by simpa using hi), List.getElem?_map, h]
  rfl
theorem envOk_start {c : Rc} {A : Addr → Prop} {H : Hp} {N : List Str} {lend : List Bool} {ds : List D} {vs : List V} (ht : ∀ a, A a → H a ≠ none) (hg : ∀ a, Gv c a → A a) (ha : ArgsOk c A H lend ds vs) (hn : lend.length ≤ N.length) : EnvOk c A H (L2.start N vs) (startE N.length lend ds) := by
  have l := ha.length
  have nh : ∀ a, ¬ Held (startE N.length lend ds) (L2.start N vs) a := fun a z => by
    obtain ⟨i, d, f, h1, h2, _⟩ := z
    obtain ⟨b, _, _, e⟩ := startE_get h1
    cases b
    · rcases h2 with h2 | h2 <;> rw [h2] at e <;> cases e
    · rcases h2 with h2 | h2 <;> rw [h2] at e <;> cases e
  have av : ∀ a, Av A (startE N.length lend ds) (L2.start N vs) a → A a := fun a z => z.elim id fun z => absurd z (nh a)
  have mo : ∀ {d : D} {v : V}, Rp c A H d v → Rp c (Av A (startE N.length lend ds) (L2.start N vs)) H d v := fun h => h.anti av
  refine ⟨?_, ht, hg, fun i d h => ?_, fun i d h => ?_, fun i d f h1 h2 => ?_, fun i j d e f h' a h1 h2 => ?_⟩
  · unfold startE L2.start
    rw [List.length_append, List.length_append, List.length_map, List.length_map, List.length_replicate, List.length_replicate, List.length_zip]
    omega
  · obtain ⟨b, h1, h2, e⟩ := startE_get h
    obtain ⟨v, e1, e2⟩ := ha.get h1 h2
    cases b with
    | true => cases e
    | false => exact ⟨v, start_get e1, mo e2⟩
  · obtain ⟨b, h1, h2, e⟩ := startE_get h
    obtain ⟨v, e1, e2⟩ := ha.get h1 h2
    cases b with
    | false => cases e
    | true =>
      refine ⟨v, start_get e1, ?_⟩
      rcases (show Lb c A H d v from e2) with z | ⟨a, z1, z2, z3⟩
      · exact .inl (mo z)
      · exact .inr ⟨a, z1, z2, nh a, z3.anti av⟩
  · obtain ⟨b, _, _, e⟩ := startE_get h1
    cases b
    · rcases h2 with h2 | h2 <;> rw [h2] at e <;> cases e
    · rcases h2 with h2 | h2 <;> rw [h2] at e <;> cases e
  · obtain ⟨b, _, _, e⟩ := startE_get h1
    cases b
    · rcases h2 with h2 | h2 <;> rw [h2] at e <;> cases e
    · rcases h2 with h2 | h2 <;> rw [h2] at e <;> cases e
theorem scC_nd {N ps : List Str} {sc : Scope} (h : C8.scC N ps sc = true) : FnScope N ps sc := C8.fnScope_by h
/-- THE RULE: by the check of its term -/
theorem fn_def {x qual : Str} {params : Arguments} {body : List Stmt} {scope : Scope} {C : CC} {irb : List IS} {sg : Sig} {ps : List Str} {k : Nat} {f : Addr} {fd : FuncData} {F : List D → M R.S D} (D0 : FunD K x qual params body scope [] [] f fd)
    (hs : C8.scC C.N ps scope = true) (hsc : C.sc = scope) (hl : sg.lend.length = ps.length) (hck : chkSs C irb body = true) (hX : DOk R cls Γ C P w K mg base k)
    (hF : ∀ ds s r, F ds s = r → r ≠ .bad → ∃ N, runF Γ N sg ⟨C.N.length, irb⟩ ds s = r) : FnOk P w K mg base CX0 (k + 1) f fd ps (spF R K cls sg F) := by
  have S : FnScope C.N ps scope := C8.fnScope_by hs
  have hpl : ps.length ≤ C.N.length := by have := congrArg List.length S.pre; rw [List.length_take] at this; omega
  refine D0.ok S (fun vs H Q E h => ?_) fun cdv A outer s H vs Q E hr h => ?_
  · obtain ⟨g, A, ds, s, _, _, _, h4, _⟩ := h
    rw [h4.length.2, hl]
  · obtain ⟨g, A0, ds, st, h1, h2, h3, h4, h5⟩ := h
    have nb : F ds st ≠ .bad := fun z => by rw [z] at h5; exact h5
    obtain ⟨N, hN⟩ := hF ds st _ rfl nb
    let X : Cx := (cxOf CX0 P w K mg base C.N qual scope f cdv A outer s H E).nox
    have y : YOk R cls Γ C X := by
      refine ⟨⟨rfl, S.nd, hsc.symm, rfl, ?_, hX.free, fun i x sg h => ?_, fun i x sg F ks perm h1 h2 h3 => ?_, hX.con⟩, S.kind, fun _ => rfl, fun e s z => z.elim⟩
      · have := hr.un
        show (A.deeper _).units + 64 < cLine
        omega
      · obtain ⟨F, e, ⟨f, fd, ps, q1, q2, q3, q4⟩⟩ := hX.fn i x sg h
        exact ⟨F, e, ⟨k, f, fd, ps, q1, q2, q3, q4, hr⟩⟩
      · obtain ⟨f, fd, ps, q1, q2, q3, q4⟩ := hX.kw i x sg F ks perm h1 h2 h3
        exact ⟨k, f, fd, ps, q1, q2, q3, q4, hr⟩
    obtain ⟨t, pt, q⟩ := ss_all irb (N := N) C X body y hck
    have ek : EnvOk (rc cls X g) A0 H (L2.start C.N vs) (startE C.N.length sg.lend ds) := envOk_start (c := rc cls X g) h1 h2 h4 (by omega)
    refine ⟨t, pt.nox, q _ (L2.start C.N vs) H g A0 _ st ek h3 ?_⟩
    have hlen : ds.length = sg.lend.length := h4.length.1
    have hN2 : (exs Γ N irb (startE C.N.length sg.lend ds) >>= fun o => (match o with
      | .nx _ => pure .non
      | .ret d b => if sg.fr && isBox d && !b then bad else pure d
      | _ => bad : M R.S D)) st = F ds st := by
      rw [← hN]
      unfold runF
      rw [if_pos hlen]
      try rfl
    rw [← hN2, bind_def] at h5
    have nw : ∀ a, Wr (rc cls X g) (startE C.N.length sg.lend ds) (L2.start C.N vs) a → Gv (rc cls X g) a := fun a z => by
      rcases z with z | ⟨i, d, z, _⟩
      · exact z
      · obtain ⟨b, _, _, e⟩ := startE_get z
        cases b <;> cases e
    have no : ∀ a, ¬ Owns (startE C.N.length sg.lend ds) (L2.start C.N vs) a := fun a ⟨i, d, z, _⟩ => by
      obtain ⟨b, _, _, e⟩ := startE_get z
      cases b <;> cases e
    cases z : exs Γ N irb (startE C.N.length sg.lend ds) st with
    | bad => rw [z] at h5; exact h5
    | er _ _ _ => rw [z] at h5; exact h5
    | ok u s1 =>
      rw [z] at h5
      cases u with
      | nx e =>
        intro σ' H' a
        refine h5 .non H' (a.ext.more nw) a.ok ?_
        show Rm (frM sg.fr) _ A0 H H' .non .non
        cases sg.fr
        · exact rfl
        · exact .inl ⟨rfl, rfl⟩
      | bk e => exact h5.elim
      | ct e => exact h5.elim
      | ret d fr =>
        intro v H' a
        have h5 : PostE R (frM sg.fr) ⟨K, cls, g⟩ A0 H ((if sg.fr && isBox d && !fr then bad else pure d : M R.S D) s1) Q := h5
        have val := a.val
        split at h5
        · exact h5.elim
        · rename_i c
          refine h5 v H' (a.ext.more nw) a.ok ?_
          show Rm (frM sg.fr) _ A0 H H' d v
          have anti : ∀ {p : Addr}, CellAt (rc cls X g) (Plus A0 p) H' p d → CellAt (rc cls X g) A0 H' p d := fun z => z.anti fun _ z => .inl z
          cases e1 : sg.fr
          · show Rp _ A0 H' d v
            cases fr with
            | false => exact val
            | true =>
              rcases (show (isBox d = false ∧ Rp (rc cls X g) A0 H' d v) ∨ ∃ a, v = .ref a ∧ (H a = none ∨ Owns (startE C.N.length sg.lend ds) (L2.start C.N vs) a) ∧ ¬ A0 a ∧ CellAt (rc cls X g) (Plus A0 a) H' a d from val) with z | ⟨p, z1, z2, z3, z4⟩
              · exact z.2
              · rw [z1]
                exact (anti z4).rp z3
          · show Fr _ A0 H H' d v
            cases fr with
            | false =>
              rw [e1] at c
              refine .inl ⟨?_, val⟩
              cases q : isBox d with
              | false => rfl
              | true => rw [q] at c; exact absurd rfl c
            | true =>
              rcases (show (isBox d = false ∧ Rp (rc cls X g) A0 H' d v) ∨ ∃ a, v = .ref a ∧ (H a = none ∨ Owns (startE C.N.length sg.lend ds) (L2.start C.N vs) a) ∧ ¬ A0 a ∧ CellAt (rc cls X g) (Plus A0 a) H' a d from val) with z | ⟨p, z1, z2, z3, z4⟩
              · exact .inl z
              · exact .inr ⟨p, z1, z2.resolve_right (no p), z4⟩
end
end Pv
end
section
set_option maxHeartbeats 4000000
namespace Pv
open PySem PySem.Spec PyProof.Rows L2

/-! ### a program of defs -/
structure Df (S : Type) where
  x : Str
  st : Stmt
  ps : List Str
  N : List Str
  ir : List IS
  sg : Sig
  F : Gm S → List D → M S D
def okDf {S : Type} (C : CC) (d : Df S) : Bool := C8.scC d.N d.ps (defScope d.st) && (decide (d.sg.lend.length = d.ps.length) && chkSs { C with N := d.N, sc := defScope d.st } d.ir (defBody d.st))
def addC {S : Type} (C : CC) (d : Df S) : CC := { C with fns := C.fns ++ [(d.x, d.sg)] }
def addG {S : Type} (Γ : Gm S) (d : Df S) : Gm S := { Γ with fns := Γ.fns ++ [d.F Γ] }
def chkAll {S : Type} : CC → List (Df S) → Bool
  | _, [] => true
  | C, d :: ds => okDf C d && chkAll (addC C d) ds
def finC {S : Type} : CC → List (Df S) → CC
  | C, [] => C
  | C, d :: ds => finC (addC C d) ds
def finG {S : Type} : Gm S → List (Df S) → Gm S
  | Γ, [] => Γ
  | Γ, d :: ds => finG (addG Γ d) ds
/-- how a def stands behind the top -/
structure DfIn {S : Type} (K : PySem.W.Frag) (mg : Str → Option Value) (C : CC) (d : Df S) : Prop where
  ex : ∃ f fd, FunD K d.x d.x (defArgs d.st) (defBody d.st) (defScope d.st) [] [] f fd ∧ mg d.x = some (.ref f) ∧ Binds K fd d.ps [] ∧
    ∀ ks perm, (C.fns.length, ks, perm) ∈ C.kws → KBn K fd d.ps 0 ks (fun us ws => us ++ perm.filterMap fun i => ws[i]?) (fun us ws => us ++ perm.filterMap fun i => ws[i]?)
def FOk {S : Type} (Γ : Gm S) (d : Df S) : Prop := ∀ ds s r, d.F Γ ds s = r → r ≠ .bad → ∃ N, runF Γ N d.sg ⟨d.N.length, d.ir⟩ ds s = r
def AllIn {S : Type} (K : PySem.W.Frag) (mg : Str → Option Value) : CC → Gm S → List (Df S) → Prop
  | _, _, [] => True
  | C, Γ, d :: ds => DfIn K mg C d ∧ FOk Γ d ∧ AllIn K mg (addC C d) (addG Γ d) ds
section
variable {R : RS} {cls : Str → Addr} {P : Program} {w : World} {K : PySem.W.Frag} {mg : Str → Option Value} {base : Heap}
theorem Fk.mono {j k : Nat} {x : Str} {sg : Sig} {F : List D → M R.S D} (h : Fk R cls P w K mg base j x sg F) (l : j ≤ k) : Fk R cls P w K mg base k x sg F := by
  obtain ⟨f, fd, ps, a, b, c, d⟩ := h
  exact ⟨f, fd, ps, a, b, c, d.mono l⟩
theorem FkK.mono {j k : Nat} {x : Str} {sg : Sig} {F : List D → M R.S D} {ks : List Str} {perm : List Nat} (h : FkK R cls P w K mg base j x sg F ks perm) (l : j ≤ k) : FkK R cls P w K mg base k x sg F ks perm := by
  obtain ⟨f, fd, ps, a, b, c, d⟩ := h
  exact ⟨f, fd, ps, a, b, c, d.mono l⟩
theorem snoc_get {α : Type} {l : List α} {a b : α} {i : Nat} (h : (l ++ [a])[i]? = some b) : l[i]? = some b ∨ (i = l.length ∧ b = a) := by
  rcases Nat.lt_trichotomy i l.length with z | z | z
  · rw [List.getElem?_append_left z] at h
    exact .inl h
  · subst z
    rw [List.getElem?_append_right (Nat.le_refl _), Nat.sub_self] at h
    cases h
    exact .inr ⟨rfl, rfl⟩
  · rw [List.getElem?_eq_none (by rw [List.length_append, List.length_singleton]; omega)] at h
    cases h
theorem get_len {α : Type} {l : List α} {b : α} {i : Nat} (h : l[i]? = some b) : i < l.length := by
  rcases Nat.lt_or_ge i l.length with z | z
  · exact z
  · rw [List.getElem?_eq_none z] at h; cases h
theorem snoc_l {α : Type} {l : List α} {a b : α} {i : Nat} (h : l[i]? = some b) : (l ++ [a])[i]? = some b := by
  rw [List.getElem?_append_left (get_len h)]
  exact h
theorem snoc_e {α : Type} {l : List α} {a : α} : (l ++ [a])[l.length]? = some a := by
  rw [List.getElem?_append_right (Nat.le_refl _), Nat.sub_self]
  rfl
/-- one more def -/
theorem DOk.add1 {Γ : Gm R.S} {C : CC} {k : Nat} {x : Str} {sg : Sig} {F : List D → M R.S D} (h : DOk R cls Γ C P w K mg base k) (len : C.fns.length = Γ.fns.length) (f : Fk R cls P w K mg base (k + 1) x sg F)
    (fk : ∀ ks perm, (C.fns.length, ks, perm) ∈ C.kws → FkK R cls P w K mg base (k + 1) x sg F ks perm) : DOk R cls { Γ with fns := Γ.fns ++ [F] } { C with fns := C.fns ++ [(x, sg)] } P w K mg base (k + 1) where
  free := h.free
  con := h.con
  fn := fun i y sg' e => by
    rcases snoc_get e with e0 | ⟨ei, e0⟩
    · obtain ⟨F', e1, e2⟩ := h.fn i y sg' e0
      exact ⟨F', snoc_l e1, e2.mono (Nat.le_succ _)⟩
    · cases e0
      subst ei
      exact ⟨F, by rw [len]; exact snoc_e, f⟩
  kw := fun i y sg' F' ks perm h1 e e2 => by
    rcases snoc_get e with e0 | ⟨ei, e0⟩
    · rcases snoc_get e2 with e3 | ⟨z, _⟩
      · exact (h.kw i y sg' F' ks perm h1 e0 e3).mono (Nat.le_succ _)
      · have := get_len e0
        omega
    · cases e0
      subst ei
      have z : F' = F := by
        have e2 : (Γ.fns ++ [F])[C.fns.length]? = some F' := e2
        rw [len, snoc_e] at e2
        exact (Option.some.inj e2).symm
      rw [z]
      exact fk ks perm h1
theorem DOk.add {Γ : Gm R.S} {C : CC} {k : Nat} {d : Df R.S} (h : DOk R cls Γ C P w K mg base k) (len : C.fns.length = Γ.fns.length) (c : okDf C d = true) (i : DfIn K mg C d) (hF : FOk Γ d) : DOk R cls (addG Γ d) (addC C d) P w K mg base (k + 1) := by
  obtain ⟨c1, c2⟩ := b2 c
  obtain ⟨c3, c4⟩ := b2 c2
  obtain ⟨f, fd, q1, q2, q3, q4⟩ := i.ex
  have ok : FnOk P w K mg base CX0 (k + 1) f fd d.ps (spF R K cls d.sg (d.F Γ)) :=
    fn_def (Γ := Γ) (C := { C with N := d.N, sc := defScope d.st }) q1 c1 rfl (dec c3) c4 ⟨h.free, h.fn, h.kw, h.con⟩ hF
  exact h.add1 len ⟨f, fd, d.ps, q2, q1.kp, q3, ok⟩ fun ks perm z => ⟨f, fd, d.ps, q2, q1.kp, q4 ks perm z, ok⟩
/-- all of them -/
theorem DOk.all : ∀ {ds : List (Df R.S)} {Γ : Gm R.S} {C : CC} {k : Nat}, DOk R cls Γ C P w K mg base k → C.fns.length = Γ.fns.length → chkAll C ds = true → AllIn K mg C Γ ds → DOk R cls (finG Γ ds) (finC C ds) P w K mg base (k + ds.length)
  | [], Γ, C, k, h, _, _, _ => h
  | d :: ds, Γ, C, k, h, len, c, a => by
    obtain ⟨c1, c2⟩ := b2 c
    obtain ⟨a1, a2, a3⟩ := a
    have l2 : (addC C d).fns.length = (addG Γ d).fns.length := by
      show (C.fns ++ [(d.x, d.sg)]).length = (Γ.fns ++ [d.F Γ]).length
      rw [List.length_append, List.length_append, len]
      rfl
    have z := DOk.all (h.add len c1 a1 a2) l2 c2 a3
    rw [Nat.add_assoc, Nat.add_comm 1] at z
    exact z
end
end Pv
end
section
set_option maxHeartbeats 4000000
namespace Pv
open PySem PySem.Spec PyProof.Rows L2

/-! ### the draws: a list of three ints -/
structure Rg where
  d : Int
  s : Int
  t : Int
def Rg.vs (s : Rg) : List V := [.int s.d, .int s.s, .int s.t]
def RNG : RS where
  S := Option Rg
  ok := fun g s H => match s with
    | none => g = []
    | some s => ∃ r, g = [r] ∧ H r = some (.lst s.vs)
  stay := fun {g s H H'} h o => by
    cases s with
    | none => exact o
    | some s =>
      obtain ⟨r, rfl, e⟩ := o
      exact ⟨r, rfl, h r (List.mem_singleton.mpr rfl) _ e⟩
  there := fun {g s H} o a m => by
    cases s with
    | none =>
      have o : g = [] := o
      subst o
      cases m
    | some s =>
      obtain ⟨r, rfl, e⟩ := o
      have m := List.mem_singleton.mp m
      subst m
      exact ⟨_, e, id⟩
/-- the numbers of a draw -/
structure Dk where
  c1 : Int
  c2 : Int
  e2 : Nat
  ok : 0 ≤ c1 ∧ c1 < 2 ^ 40 ∧ 0 ≤ c2 ∧ c2 < 2 ^ 40 ∧ e2 ≤ 8
abbrev dM1 : Int := 162259276829213363391578010288127
abbrev dM2 : Int := 170141183460469231731687303715884105727
def drawN (q : Dk) (s t : Int) : Int := (((s + q.c1 * t) ^ 3 % dM1 + q.c2 * t) ^ q.e2 % dM2) / 1048576
def drawS (q : Dk) (n : Int) (s : Rg) : Option (Int × Rg) :=
  if 0 < n ∧ n < 2 ^ 1000 ∧ 0 ≤ s.s ∧ s.s < 2 ^ 70 ∧ 0 ≤ s.t ∧ s.t < 2 ^ 40 then
    (if 0 < s.d then some (s.d % n, ⟨s.d / n, s.s, s.t⟩) else some (drawN q s.s (s.t + 1) % n, ⟨s.d, s.s, s.t + 1⟩))
  else none
def drawF (q : Dk) : List D → M (Option Rg) D
  | [.rng, .int n] => fun s => match s with
    | some s => (match drawS q n s with
      | some (i, s') => .ok (.int i) (some s')
      | none => .bad)
    | none => .bad
  | _ => bad
section
variable {X : Cx}
def CPowB (i j : Int) : Prop := 0 ≤ j ∧ (Builtin.Int.intBits i : Int) * j ≤ 2 ^ 27
theorem op_powB : OpR X (binaryOp .Pow) (rI CPowB fun i j => .int (i ^ j.toNat)) := opI fun _ _ _ _ _ _ _ hc q => pow_int hc.1 hc.2 q
abbrev rAdd : R2 := rI0 fun i j => .int (i + j)
abbrev rMulI : R2 := rI CMul fun i j => .int (i * j)
abbrev rModI : R2 := rI (fun _ j => 0 < j) fun i j => .int (i % j)
abbrev rDivI : R2 := rI CDivW fun i j => .int (i / j)
abbrev rPowI : R2 := rI CPowB fun i j => .int (i ^ j.toNat)
abbrev rInt : List V → Hp → VK → Prop := fun xs H Q => (∃ i, xs = [.int i] ∧ Q (.int i) H) ∨ ∃ k, xs = [.bl k] ∧ Q (.int (if k then 1 else 0)) H
variable {σ : L2.St} {H : Hp} {ta tb : TE} {K : PySem.W.Frag}
theorem val_int {i : Int} (h : Val ta σ H (.int i)) : Val (tCB rInt (tCons ta tNil)) σ H (.int i) := by
  intro Q q
  refine h _ ?_
  exact .inl ⟨i, rfl, q⟩
theorem val_at {p : Addr} {xs : List V} {i : Int} {v : V} (h : Val ta σ H (.ref p)) (e : H p = some (.lst xs)) (hi : atI xs i = some v) : Val (tOp (rIxL K) ta (tC (.int i))) σ H v :=
  val_op h val_c fun Q q => ⟨p, xs, i, v, rfl, rfl, .inl (.inl e), hi, q⟩
theorem val_add {i j : Int} (h1 : Val ta σ H (.int i)) (h2 : Val tb σ H (.int j)) : Val (tOp rAdd ta tb) σ H (.int (i + j)) := val_op h1 h2 fun Q q => ⟨i, j, rfl, rfl, q⟩
theorem val_mul {i j : Int} (h1 : Val ta σ H (.int i)) (h2 : Val tb σ H (.int j)) (c : CMul i j) : Val (tOp rMulI ta tb) σ H (.int (i * j)) := val_op h1 h2 fun Q q => ⟨i, j, rfl, rfl, c, q⟩
theorem val_mod {i j : Int} (h1 : Val ta σ H (.int i)) (h2 : Val tb σ H (.int j)) (c : 0 < j) : Val (tOp rModI ta tb) σ H (.int (i % j)) := val_op h1 h2 fun Q q => ⟨i, j, rfl, rfl, c, q⟩
theorem val_div {i j : Int} (h1 : Val ta σ H (.int i)) (h2 : Val tb σ H (.int j)) (c : CDivW i j) : Val (tOp rDivI ta tb) σ H (.int (i / j)) := val_op h1 h2 fun Q q => ⟨i, j, rfl, rfl, c, q⟩
theorem val_pow {i j : Int} (h1 : Val ta σ H (.int i)) (h2 : Val tb σ H (.int j)) (c : CPowB i j) : Val (tOp rPowI ta tb) σ H (.int (i ^ j.toNat)) := val_op h1 h2 fun Q q => ⟨i, j, rfl, rfl, c, q⟩
theorem st_put {D : Ends} {p : Addr} {xs : List V} {i : Int} {j : Nat} {v : V} {te : TE} (h : Val te σ H v) (h1 : Val ta σ H (.ref p)) (e : H p = some (.lst xs)) (hj : ixN xs.length i = some j) (q : D.nx σ (upd H p (.lst (xs.set j v)))) : tAsg te (gSub ta (tC (.int i)) rSetL) D σ H := by
  refine h _ ?_
  refine h1 _ ?_
  exact ⟨p, xs, i, j, rfl, rfl, e, hj, q⟩
end
theorem two_pow {a : Int} {n : Nat} (h0 : 0 ≤ a) (h : a < 2 ^ n) : Builtin.Int.intBits a ≤ n := by
  rw [PySem.intBits_le_iff]
  have e : ((2 : Int) ^ n) = ((2 ^ n : Nat) : Int) := by norm_cast
  rw [e] at h
  omega
theorem lt_of_mod {a m : Int} {n : Nat} (h : 0 < m) (k : m ≤ 2 ^ n) : 0 ≤ a % m ∧ a % m < 2 ^ n := ⟨Int.emod_nonneg _ (by omega), Int.lt_of_lt_of_le (Int.emod_lt_of_pos _ h) k⟩
theorem cpow {a : Int} {j n : Nat} (h0 : 0 ≤ a) (h : a < 2 ^ n) (k : n * j ≤ 2 ^ 27) : CPowB a (j : Int) := by
  refine ⟨by omega, ?_⟩
  have z := two_pow h0 h
  have z2 : Builtin.Int.intBits a * j ≤ 2 ^ 27 := Nat.le_trans (Nat.mul_le_mul_right j z) k
  exact_mod_cast z2
/-- what the draw's body does -/
def t_draw (K : PySem.W.Frag) (q : Dk) : TS :=
  tSeq (tIfS (tTest (tOp rGt (tOp (rIxL K) (tVar 0) (tC (.int 0))) (tC (.int 0))))
    (tSeq (tAsg (tOp rModI (tCB rInt (tCons (tOp (rIxL K) (tVar 0) (tC (.int 0))) tNil)) (tVar 1)) (gName 2))
      (tSeq (tAsg (tOp rDivI (tOp (rIxL K) (tVar 0) (tC (.int 0))) (tVar 1)) (gSub (tVar 0) (tC (.int 0)) rSetL)) (tRet (tVar 2)))) tNext)
    (tSeq (tAsg (tOp rAdd (tOp (rIxL K) (tVar 0) (tC (.int 2))) (tC (.int 1))) (gSub (tVar 0) (tC (.int 2)) rSetL))
      (tSeq (tAsg (tOp rModI (tCB rInt (tCons (tOp rPowI (tOp rAdd (tOp (rIxL K) (tVar 0) (tC (.int 1))) (tOp rMulI (tC (.int q.c1)) (tOp (rIxL K) (tVar 0) (tC (.int 2))))) (tC (.int 3))) tNil)) (tC (.int dM1))) (gName 3))
        (tSeq (tAsg (tOp rModI (tCB rInt (tCons (tOp rPowI (tOp rAdd (tVar 3) (tOp rMulI (tC (.int q.c2)) (tOp (rIxL K) (tVar 0) (tC (.int 2))))) (tC (.int (q.e2 : Nat)))) tNil)) (tC (.int dM2))) (gName 3))
          (tRet (tOp rModI (tCB rInt (tCons (tOp rDivI (tVar 3) (tC (.int 1048576))) tNil)) (tVar 1))))))
theorem pure_draw {K : PySem.W.Frag} {q : Dk} {H : Hp} {r : Addr} {n : Int} {s s' : Rg} {i : Int} {Q : VK} {a b : Str} {c d : Str} (e : H r = some (.lst s.vs)) (h : drawS q n s = some (i, s')) (hq : ∀ H', (∀ p o, p ≠ r → H p = some o → H' p = some o) → H' r = some (.lst s'.vs) → Q (.int i) H') :
    t_draw K q { nx := fun _ H' => Q .non H', rt := Q } (L2.start [a, b, c, d] [.ref r, .int n]) H := by
  unfold drawS at h
  split at h
  · rename_i z
    obtain ⟨z1, z2, z3, z4, z5, z6⟩ := z
    have nl : n.natAbs.log2 < 9000 := by
      have hz : n.natAbs < 2 ^ 1000 := by
        have e : ((2 : Int) ^ 1000) = ((2 ^ 1000 : Nat) : Int) := by norm_cast
        rw [e] at z2
        omega
      exact Nat.lt_trans ((Nat.log2_lt (by omega)).mpr hz) (by decide)
    have same : ∀ (j : Nat) (v : V), ∀ p o, p ≠ r → H p = some o → (upd H r (.lst (s.vs.set j v))) p = some o := fun j v p o hp h => by
      rw [upd_ne hp]
      exact h
    split at h
    · rename_i hd
      cases h
      refine st_seq (st_yes (ans_gt (val_at (val_var rfl) e rfl) (decide_eq_true hd)) ?_)
      refine st_seq (st_set (val_mod (val_int (val_at (val_var rfl) e rfl)) (val_var rfl) z1) ?_)
      refine st_seq (st_put (val_div (val_at (val_var rfl) e rfl) (val_var rfl) ⟨z1, nl⟩) (val_var rfl) e rfl ?_)
      exact st_ret (val_var rfl) (hq _ (same _ _) upd_same)
    · rename_i hd
      cases h
      refine st_seq (st_no (ans_gt (val_at (val_var rfl) e rfl) (decide_eq_false hd)) (st_next ?_))
      refine st_seq (st_put (val_add (val_at (val_var rfl) e rfl) val_c) (val_var rfl) e rfl ?_)
      have e2 : (upd H r (.lst (s.vs.set 2 (.int (s.t + 1))))) r = some (.lst [.int s.d, .int s.s, .int (s.t + 1)]) := upd_same
      obtain ⟨k1, k2, k3, k4, k5⟩ := q.ok
      have t0 : 0 ≤ s.t + 1 := by omega
      have t1 : s.t + 1 ≤ 2 ^ 40 := by omega
      have m1 : 0 ≤ q.c1 * (s.t + 1) ∧ q.c1 * (s.t + 1) ≤ 2 ^ 40 * 2 ^ 40 := ⟨Int.mul_nonneg k1 t0, Int.mul_le_mul (Int.le_of_lt k2) t1 t0 (by decide)⟩
      have m2 : 0 ≤ q.c2 * (s.t + 1) ∧ q.c2 * (s.t + 1) ≤ 2 ^ 40 * 2 ^ 40 := ⟨Int.mul_nonneg k3 t0, Int.mul_le_mul (Int.le_of_lt k4) t1 t0 (by decide)⟩
      refine st_seq (st_set (val_mod (val_int (val_pow (j := ((3 : Nat) : Int)) (val_add (val_at (val_var rfl) e2 rfl) (val_mul val_c (val_at (val_var rfl) e2 rfl) (.inl ⟨by omega, by omega⟩))) val_c (cpow (n := 82) (by omega) (by omega) (by decide)))) val_c (by decide)) ?_)
      have b1 := lt_of_mod (a := (s.s + q.c1 * (s.t + 1)) ^ 3) (m := dM1) (n := 108) (by decide) (by decide)
      refine st_seq (st_set (val_mod (val_int (val_pow (j := ((q.e2 : Nat) : Int)) (val_add (val_var rfl) (val_mul val_c (val_at (val_var rfl) e2 rfl) (.inl ⟨by omega, by omega⟩))) val_c (cpow (n := 110) (a := (s.s + q.c1 * (s.t + 1)) ^ 3 % dM1 + q.c2 * (s.t + 1)) (by omega) (by omega) (by have : 110 * q.e2 ≤ 110 * 8 := Nat.mul_le_mul_left _ k5; exact Nat.le_trans this (by decide))))) val_c (by decide)) ?_)
      exact st_ret (val_mod (val_int (val_div (val_var rfl) val_c ⟨by decide, by decide +kernel⟩)) (val_var rfl) z1) (hq _ (same _ _) upd_same)
  · cases h
theorem ok_draw {K : PySem.W.Frag} {P : Program} {w : World} {mg : Str → Option Value} {base : Heap} {cls : Str → Addr} {q : Dk} {a b c d : Str} {x : Str} {params : Arguments} {body : List Stmt} {scope : Scope} {f : Addr} {fd : FuncData} (F : FunD K x x params body scope [] [] f fd) (S : FnScope [a, b, c, d] [a, b] scope)
    (hp : ∀ (cdv : Value) (A : Around) (outer : List PySem.Env) (s : Shared) (H : Hp) (E : XK), PSs (cxOf CX0 P w K mg base [a, b, c, d] x scope f cdv A outer s H E).nox body (t_draw K q)) : FnOk P w K mg base CX0 1 f fd [a, b] (spF RNG K cls ⟨[false, false], false⟩ (drawF q)) := by
  refine F.ok S (fun vs H Q E h => ?_) fun cdv A outer s H vs Q E hr h => ⟨t_draw K q, PSs.nox (hp cdv A outer s H E), ?_⟩
  · obtain ⟨g, A, ds, s, _, _, _, h4, _⟩ := h
    rw [h4.length.2]
    rfl
  · obtain ⟨g, A0, ds, st, h1, h2, h3, h4, h5⟩ := h
    obtain ⟨d1, ds1, v1, vs1, rfl, rfl, r1, h6⟩ := h4
    obtain ⟨d2, ds2, v2, vs2, rfl, rfl, r2, h7⟩ := h6
    obtain ⟨rfl, rfl⟩ := h7
    cases d1 with
    | rng =>
      cases d2 with
      | int n =>
        cases st with
        | none => exact h5.elim
        | some st =>
          obtain ⟨r, rfl, e⟩ := h3
          have r1 : v1 = .ref r := r1
          have r2 : v2 = .int n := r2
          subst r1 r2
          have h5 : PostE RNG (frM false) ⟨K, cls, [r]⟩ A0 H (match drawS q n st with
            | some (i, s') => .ok (.int i) (some s')
            | none => .bad) Q := h5
          cases hd : drawS q n st with
          | none => rw [hd] at h5; exact h5.elim
          | some z =>
            obtain ⟨i, s'⟩ := z
            rw [hd] at h5
            refine pure_draw e hd fun H' k1 k2 => h5 _ H' (fun p o h z => ?_) ⟨r, rfl, k2⟩ rfl
            rcases z with z | z
            · exact k1 p o (fun y => z (by rw [y]; exact List.mem_singleton.mpr rfl)) h
            · by_cases y : p = r
              · subst y
                rw [e] at h
                cases h
                exact z.elim
              · exact k1 p o y h
      | _ => exact h5.elim
    | _ => cases d2 <;> exact h5.elim
end Pv
end
section
set_option maxHeartbeats 4000000
namespace Pv
open PySem PySem.Spec PyProof.Rows L2

/-! ### a law of the list rng -/
def spLaw (K : PySem.W.Frag) : Sp := fun vs H Q _ => ∃ (a : Addr) (ns : List Int), vs = [.ref a] ∧ ns.length ≤ 63 ∧ SqF K H a (ns.map V.int) ∧ ∀ H', Q (.bl true) H'
theorem sqF_only {K : PySem.W.Frag} {H : Hp} {a : Addr} {xs : List V} (o : Only H) (h : SqL K H a xs) : SqF K H a xs := by
  rcases h with (h | h) | h
  · rcases o a with z | ⟨_, _, z⟩ <;> rw [z] at h <;> cases h
  · exact .inl h
  · exact .inr h
/-- slot 0: the script, slot 1: the rng -/
def lawE (n : Nat) (ns : List Int) : IEnv := [some (.scr ns, .frz), some (.rng, .frz)] ++ List.replicate (n - 2) none
theorem rest_get {α : Type} {n i : Nat} {a : α} (h : (List.replicate n (none : Option α))[i]? = some (some a)) : False := by
  rw [List.getElem?_replicate] at h
  split at h <;> cases h
theorem lawE_get {n i : Nat} {ns : List Int} {d : D} {f : Fl} (h : (lawE n ns)[i]? = some (some (d, f))) : (i = 0 ∧ d = .scr ns ∧ f = .frz) ∨ (i = 1 ∧ d = .rng ∧ f = .frz) := by
  match i, h with
  | 0, h => cases h; exact .inl ⟨rfl, rfl, rfl⟩
  | 1, h => cases h; exact .inr ⟨rfl, rfl, rfl⟩
  | i + 2, h => exact (rest_get (n := n - 2) (i := i) (by simpa [lawE] using h)).elim
theorem law_ok {K : PySem.W.Frag} {P : Program} {w : World} {mg : Str → Option Value} {base : Heap} {cls : Str → Addr} {Γ : Gm (Option Rg)} {C : CC} {k i : Nat} {f : Addr} {fd : FuncData} {x : Str} {params : Arguments} {body : List Stmt} {scope : Scope} {ir : List IS} {Fr : List D → M (Option Rg) D}
    (F : FunD K x x params body scope [] [] f fd) (hs : C8.scC C.N ["script"] scope = true) (hsc : C.sc = scope) (hn : 2 ≤ C.N.length) (hX : DOk RNG cls Γ C P w K mg base k)
    (hck : chkSs C (.set 1 true (.call i true [.var 0]) :: ir) body = true) (hi : Γ.fns[i]? = some Fr)
    (hrun : ∀ ns : List Int, ns.length ≤ 63 → ∃ d s, Fr [.scr ns] none = .ok (.lst [.int d, .int s, .int 0]) none ∧ ∃ n b s', exs Γ n ir (lawE C.N.length ns) (some ⟨d, s, 0⟩) = .ok (.ret (.bl true) b) s') :
    FnOk P w K mg base CX0 (k + 1) f fd ["script"] (spLaw K) := by
  have S : FnScope C.N ["script"] scope := C8.fnScope_by hs
  refine F.ok S (fun vs H Q E h => ?_) fun cdv A outer s H vs Q E hr h => ?_
  · obtain ⟨a, ns, rfl, _⟩ := h
    rfl
  · obtain ⟨a, ns, rfl, hl, hsq, hQ⟩ := h
    obtain ⟨d, sd, e1, n, b, s', e2⟩ := hrun ns hl
    let X : Cx := (cxOf CX0 P w K mg base C.N x scope f cdv A outer s H E).nox
    have y : YOk RNG cls Γ C X := by
      refine ⟨⟨rfl, S.nd, hsc.symm, rfl, ?_, hX.free, fun i x sg h => ?_, fun i x sg F ks perm h1 h2 h3 => ?_, hX.con⟩, S.kind, fun _ => rfl, fun e s z => z.elim⟩
      · have := hr.un
        show (A.deeper _).units + 64 < cLine
        omega
      · obtain ⟨F, e, ⟨f, fd, ps, q1, q2, q3, q4⟩⟩ := hX.fn i x sg h
        exact ⟨F, e, ⟨k, f, fd, ps, q1, q2, q3, q4, hr⟩⟩
      · obtain ⟨f, fd, ps, q1, q2, q3, q4⟩ := hX.kw i x sg F ks perm h1 h2 h3
        exact ⟨k, f, fd, ps, q1, q2, q3, q4, hr⟩
    cases body with
    | nil => unfold chkSs at hck; cases hck
    | cons st sts =>
      unfold chkSs at hck
      obtain ⟨c1, c2⟩ := b2 (show (chkS C (.set 1 true (.call i true [.var 0])) st && chkSs C ir sts) = true from hck)
      obtain ⟨t1, p1, q1⟩ := s_all (.set 1 true (.call i true [.var 0])) (N := n) C X st y c1
      obtain ⟨t2, p2, q2⟩ := ss_all ir (N := n) C X sts y c2
      refine ⟨_, PSs.nox (pss_cons p1 p2), ?_⟩
      have ek : EnvOk (rc cls X []) (fun _ => False) H (L2.start C.N [.ref a]) (startE C.N.length [false] [.scr ns]) :=
        envOk_start (c := rc cls X []) (fun _ z => z.elim) (fun _ z => by cases z) ⟨_, _, _, _, rfl, rfl, ⟨a, rfl, hsq⟩, rfl, rfl⟩ (by show 1 ≤ _; omega)
      have er : ex Γ n (.set 1 true (.call i true [.var 0])) (startE C.N.length [false] [.scr ns]) none = .ok (.nx (put (startE C.N.length [false] [.scr ns]) 1 (.lst [.int d, .int sd, .int 0]) .own)) none := by
        have g0 : getI (startE C.N.length [false] [.scr ns]) 0 = some (.scr ns, .frz) := rfl
        have ev1 : ev Γ (.call i true [.var 0]) (startE C.N.length [false] [.scr ns]) none = .ok (.lst [.int d, .int sd, .int 0]) none := by
          unfold ev evs evs ev
          rw [g0]
          show callF Γ i [.scr ns] none = _
          unfold callF
          rw [hi]
          exact e1
        unfold ex
        rw [bind_def, ev1]
        rfl
      refine q1 _ _ H [] (fun _ => False) _ none ek rfl ?_
      refine Eq.mpr (congrArg (fun r => PostS RNG _ _ _ _ _ r _) er) ?_
      intro σ1 H1 st1
      show t2 _ σ1 H1
      have l0 : (startE C.N.length [false] [.scr ns]) = some (.scr ns, .frz) :: List.replicate (C.N.length - 1) none := rfl
      have lp : put (startE C.N.length [false] [.scr ns]) 1 (.lst [.int d, .int sd, .int 0]) .own = [some (.scr ns, .frz), some (.lst [.int d, .int sd, .int 0], .own)] ++ List.replicate (C.N.length - 2) none := by
        obtain ⟨m, hm⟩ : ∃ m, C.N.length = m + 2 := ⟨C.N.length - 2, by omega⟩
        rw [l0, hm]
        rfl
      have k1 := st1.envk
      rw [lp] at k1
      obtain ⟨v0, g1, g2⟩ := k1.frz 0 (.scr ns) rfl
      obtain ⟨r, g3, g4, g5⟩ := k1.hld 1 _ .own rfl (.inr rfl)
      obtain ⟨xs, g6, g7, g8⟩ := g5
      have ex : xs = [.int d, .int sd, .int 0] := by
        obtain ⟨v1, w1, rfl, z1, g8⟩ := g8
        obtain ⟨v2, w2, rfl, z2, g8⟩ := g8
        obtain ⟨v3, w3, rfl, z3, g8⟩ := g8
        have z1 : v1 = .int d := z1
        have z2 : v2 = .int sd := z2
        have z3 : v3 = .int 0 := z3
        have g8 : w3 = [] := g8
        rw [z1, z2, z3, g8]
      subst ex
      obtain ⟨a0, z1, z2⟩ := g2
      have nh : ∀ p, ¬ Held (lawE C.N.length ns) σ1 p := fun p z => by
        obtain ⟨j, d, f, h1, h2, _⟩ := z
        rcases lawE_get h1 with ⟨_, _, e⟩ | ⟨_, _, e⟩ <;> rw [e] at h2 <;> rcases h2 with h2 | h2 <;> cases h2
      have ek2 : EnvOk (rc cls X [r]) (fun p => p = r) H1 σ1 (lawE C.N.length ns) := by
        refine ⟨?_, fun p z => by rw [z, g6]; simp, fun p z => List.mem_singleton.mp z, fun j d f => ?_, fun j d f => ?_, fun j d f h1 h2 => ?_, fun j l d e f h a h1 h2 => ?_⟩
        · rw [← k1.len]
          rfl
        · rcases lawE_get f with ⟨rfl, rfl, _⟩ | ⟨rfl, rfl, _⟩
          · exact ⟨v0, g1, a0, z1, z2⟩
          · exact ⟨.ref r, g3, rfl⟩
        · rcases lawE_get f with ⟨_, _, e⟩ | ⟨_, _, e⟩ <;> cases e
        · rcases lawE_get h1 with ⟨_, _, e⟩ | ⟨_, _, e⟩ <;> rw [e] at h2 <;> rcases h2 with h2 | h2 <;> cases h2
        · rcases lawE_get h1 with ⟨_, _, e⟩ | ⟨_, _, e⟩ <;> rw [e] at h2 <;> rcases h2 with h2 | h2 <;> cases h2
      refine q2 _ σ1 H1 [r] (fun p => p = r) (lawE C.N.length ns) (some ⟨d, sd, 0⟩) ek2 ⟨r, rfl, g6⟩ ?_
      refine Eq.mpr (congrArg (fun r => PostS RNG _ _ _ _ _ r _) e2) ?_
      intro v H' ro
      have vv := ro.val
      have vb : v = .bl true := by
        cases b with
        | true =>
          rcases (show (isBox (.bl true) = false ∧ Rp (rc cls X [r]) (fun p => p = r) H' (.bl true) v) ∨ ∃ p, v = .ref p ∧ _ ∧ _ ∧ CellAt (rc cls X [r]) _ H' p (.bl true) from vv) with z | ⟨p, _, _, _, z⟩
          · exact z.2
          · exact z.elim
        | false => exact vv
      subst vb
      exact hQ H'
end Pv
end
section
set_option maxHeartbeats 4000000
namespace Pv
open PySem PySem.Spec PyProof.Rows L2

theorem says_mem {fa : List He.Fa} {fn : List He.DefD} {K : PySem.W.Frag} (c : He.SaysD fa fn K) {f : He.Fa} (m : f ∈ fa) : f.ok K = true := by
  obtain ⟨i, h⟩ := List.mem_iff_getElem?.mp m
  exact c.fact i h
section
variable {K : PySem.W.Frag} {h : Heap} {mg : Str → Option Value} {fa : List He.Fa} {fn : List He.DefD}
theorem dfIn {S : Type} (X : K.In h) (G : h.Ns mainGlobals mg) (c : He.SaysD fa fn K) {C : CC} (d : Df S) (i : Nat) (hd : fn[i]? = some ⟨(d.x, none), d.x, d.x, defArgs d.st, defBody d.st, defScope d.st, [], []⟩) (hg : fa[i]? = some (.glo d.x))
    (hb : ∀ (kV doc pm : Value) (an : Option Addr) (cdv ct : Value) (us : List Value), us.length = d.ps.length → bindArgs (PySem.W.fnOf d.x d.x (defArgs d.st) (defBody d.st) (defScope d.st) .none kV doc pm an cdv ct) ⟨us, []⟩ = pure (d.ps.zip us)) (hk : C.kws = []) : DfIn K mg C d := by
  obtain ⟨fd, F⟩ := c.def_ i hd
  exact ⟨_, fd, F, He.glo_ok X G (c.fact i hg), FunD.bindsN F hb, fun ks perm z => by rw [hk] at z; cases z⟩
/-- the base: the draw alone -/
theorem dok0 {P : Program} {w : World} {base : Heap} {cls : Str → Addr} (X : K.In h) (G : h.Ns mainGlobals mg) (c : He.SaysD fa fn K) {C : CC} {x : Str} {st : Stmt} {q : Dk} {a b e g : Str} (hc : C.fns = [(x, ⟨[false, false], false⟩)]) (hk : C.kws = []) (hcon : C.cons = [])
    (hfree : ∀ y ∈ C.free, He.Fa.free y ∈ fa) (hd : fn[0]? = some ⟨(x, none), x, x, defArgs st, defBody st, defScope st, [], []⟩) (hg : fa[0]? = some (.glo x)) (hs : C8.scC [a, b, e, g] [a, b] (defScope st) = true)
    (hb : ∀ (kV doc pm : Value) (an : Option Addr) (cdv ct : Value) (us : List Value), us.length = 2 → bindArgs (PySem.W.fnOf x x (defArgs st) (defBody st) (defScope st) .none kV doc pm an cdv ct) ⟨us, []⟩ = pure ([a, b].zip us))
    (hp : ∀ (f : Addr) (cdv : Value) (A : Around) (outer : List PySem.Env) (s : Shared) (H : Hp) (E : XK), PSs (cxOf CX0 P w K mg base [a, b, e, g] x (defScope st) f cdv A outer s H E).nox (defBody st) (t_draw K q)) :
    DOk RNG cls ⟨[drawF q], []⟩ C P w K mg base 1 := by
  obtain ⟨fd, F⟩ := c.def_ 0 hd
  have ok := ok_draw (P := P) (w := w) (mg := mg) (base := base) (cls := cls) (q := q) F (C8.fnScope_by hs) (hp _)
  refine ⟨fun y hy => He.free_ok X G (says_mem c (hfree y hy)), fun i y sg e => ?_, fun i y sg F ks perm z => ?_, fun i y d z => ?_⟩
  · rw [hc] at e
    cases i with
    | zero =>
      cases e
      exact ⟨_, rfl, _, fd, _, He.glo_ok X G (c.fact 0 hg), F.kp, FunD.bindsN (ps := [a, b]) F hb, ok⟩
    | succ i => simp at e
  · rw [hk] at z
    cases z
  · rw [hcon] at z
    simp at z
end
end Pv
end
section
set_option maxHeartbeats 0
/-! the defs' terms -/
namespace Q
open PySem PySem.Spec PyProof.Rows L2 Pv
def top (i : Nat) : Stmt := PySem.Challenge.pw_tightranges_k10_whole_ranges.main.body.getD i (.Pass ⟨0, 0, 0, 0⟩)
def ir_1 : List IS := [.unp [1, 2] (.tup [(.cst (.int 0)), (.cst (.int 88675123))]), .forL 3 (.slc false true (.var 0) (.cst .non) (.cst (.int 63))) none [.set 4 false (.bi .abs [(.var 3)]), .ite (.cmp .GtE (.var 4) (.bin .Pow (.cst (.int 10)) (.cst (.int 18)))) [.set 1 false (.bin .Add (.bin .Mult (.var 1) (.bin .Pow (.cst (.int 10)) (.cst (.int 60)))) (.bin .Mod (.bi .int [(.var 4)]) (.bin .Pow (.cst (.int 10)) (.cst (.int 60)))))] [], .set 2 false (.bin .Mod (.bi .int [(.bin .Add (.bin .Add (.bin .Mult (.var 2) (.cst (.int 1000003))) (.bin .Mod (.bi .int [(.var 3)]) (.cst (.int 2305843009213693921)))) (.cst (.int 7)))]) (.cst (.int 2305843009213693951)))], .ret (.lst [(.var 1), (.var 2), (.cst (.int 0))])]
def d_1 : Df (Option Rg) := { x := "_law_rng", st := top 21, ps := ["script"], N := ["script", "digits", "seed", "number", "far"], ir := ir_1, sg := ⟨[false], true⟩, F := fun Γ => runF Γ 0 ⟨[false], true⟩ ⟨5, ir_1⟩ }
def ir_2 : List IS := [.ret (.idx (.lst [(.cst .non), (.bin .Sub (.call 0 false [(.var 0), (.bin .Add (.bin .Mult (.cst (.int 2)) (.var 1)) (.cst (.int 1)))]) (.var 1)), (.bin .Sub (.call 0 false [(.var 0), (.cst (.int 5))]) (.cst (.int 2)))]) (.call 0 false [(.var 0), (.cst (.int 3))]))]
def d_2 : Df (Option Rg) := { x := "_law_bound", st := top 23, ps := ["rng", "most"], N := ["rng", "most"], ir := ir_2, sg := ⟨[false, false], false⟩, F := fun Γ => runF Γ 0 ⟨[false, false], false⟩ ⟨2, ir_2⟩ }
def ir_3 : List IS := [.ite (.cmp .Eq (.call 0 false [(.var 0), (.cst (.int 9))]) (.cst (.int 0))) [.ret (.cst .non)] [], .par [2, 3] [(.call 2 false [(.var 0), (.var 1)]), (.call 2 false [(.var 0), (.var 1)])], .ite (.and (.cmp .IsNot (.var 2) (.cst .non)) (.and (.cmp .IsNot (.var 3) (.cst .non)) (.cmp .Gt (.var 2) (.var 3)))) [.ret (.tup [(.var 3), (.var 2)])] [], .ret (.tup [(.var 2), (.var 3)])]
def d_3 : Df (Option Rg) := { x := "_law_range", st := top 24, ps := ["rng", "most"], N := ["rng", "most", "low", "high"], ir := ir_3, sg := ⟨[false, false], false⟩, F := fun Γ => runF Γ 0 ⟨[false, false], false⟩ ⟨4, ir_3⟩ }
def ir_4 : List IS := [.ret (.or (.cmp .Is (.var 0) (.cst .non)) (.or (.cmp .In (.cst .non) (.var 0)) (.cmp .LtE (.idx (.var 0) (.cst (.int 0))) (.idx (.var 0) (.cst (.int 1))))))]
def d_4 : Df (Option Rg) := { x := "is_range", st := top 4, ps := ["value"], N := ["value"], ir := ir_4, sg := ⟨[false], false⟩, F := fun Γ => runF Γ 0 ⟨[false], false⟩ ⟨1, ir_4⟩ }
def ir_5 : List IS := [.ite (.not (.call 4 false [(.var 0)])) [.never] []]
def d_5 : Df (Option Rg) := { x := "check_range", st := top 5, ps := ["value"], N := ["value"], ir := ir_5, sg := ⟨[false], false⟩, F := fun Γ => runF Γ 0 ⟨[false], false⟩ ⟨1, ir_5⟩ }
def ir_6 : List IS := [.ite (.or (.cmp .Is (.var 0) (.cst .non)) (.cmp .Is (.var 1) (.cst .non))) [.ret (.ite (.cmp .Is (.var 0) (.cst .non)) (.var 1) (.var 0))] [], .ret (.bi .max [(.var 0), (.var 1)])]
def d_6 : Df (Option Rg) := { x := "greater_low", st := top 6, ps := ["one", "other"], N := ["one", "other"], ir := ir_6, sg := ⟨[false, false], false⟩, F := fun Γ => runF Γ 0 ⟨[false, false], false⟩ ⟨2, ir_6⟩ }
def ir_7 : List IS := [.ite (.or (.cmp .Is (.var 0) (.cst .non)) (.cmp .Is (.var 1) (.cst .non))) [.ret (.ite (.cmp .Is (.var 0) (.cst .non)) (.var 1) (.var 0))] [], .ret (.bi .min [(.var 0), (.var 1)])]
def d_7 : Df (Option Rg) := { x := "lesser_high", st := top 7, ps := ["one", "other"], N := ["one", "other"], ir := ir_7, sg := ⟨[false, false], false⟩, F := fun Γ => runF Γ 0 ⟨[false, false], false⟩ ⟨2, ir_7⟩ }
def ir_8 : List IS := [.ite (.or (.cmp .Is (.var 0) (.cst .non)) (.cmp .Is (.var 1) (.cst .non))) [.ret (.cst .non)] [], .set 2 false (.tup [(.call 6 false [(.idx (.var 0) (.cst (.int 0))), (.idx (.var 1) (.cst (.int 0)))]), (.call 7 false [(.idx (.var 0) (.cst (.int 1))), (.idx (.var 1) (.cst (.int 1)))])]), .ret (.ite (.call 4 false [(.var 2)]) (.var 2) (.cst .non))]
def d_8 : Df (Option Rg) := { x := "range_common", st := top 10, ps := ["one", "other"], N := ["one", "other", "found"], ir := ir_8, sg := ⟨[false, false], false⟩, F := fun Γ => runF Γ 0 ⟨[false, false], false⟩ ⟨3, ir_8⟩ }
def ir_9 : List IS := [.exp (.call 5 false [(.var 0)]), .exp (.call 5 false [(.var 1)]), .ret (.call 8 false [(.var 0), (.var 1)])]
def d_9 : Df (Option Rg) := { x := "common", st := top 17, ps := ["one", "other"], N := ["one", "other"], ir := ir_9, sg := ⟨[false, false], false⟩, F := fun Γ => runF Γ 0 ⟨[false, false], false⟩ ⟨2, ir_9⟩ }
def ir_10 : List IS := [.ret (.ite (.or (.cmp .Is (.var 0) (.cst .non)) (.cmp .Is (.var 1) (.cst .non))) (.cst .non) (.bi .min [(.var 0), (.var 1)]))]
def d_10 : Df (Option Rg) := { x := "lesser_low", st := top 8, ps := ["one", "other"], N := ["one", "other"], ir := ir_10, sg := ⟨[false, false], false⟩, F := fun Γ => runF Γ 0 ⟨[false, false], false⟩ ⟨2, ir_10⟩ }
def ir_11 : List IS := [.ret (.ite (.or (.cmp .Is (.var 0) (.cst .non)) (.cmp .Is (.var 1) (.cst .non))) (.cst .non) (.bi .max [(.var 0), (.var 1)]))]
def d_11 : Df (Option Rg) := { x := "greater_high", st := top 9, ps := ["one", "other"], N := ["one", "other"], ir := ir_11, sg := ⟨[false, false], false⟩, F := fun Γ => runF Γ 0 ⟨[false, false], false⟩ ⟨2, ir_11⟩ }
def ir_12 : List IS := [.ite (.or (.cmp .Is (.var 0) (.cst .non)) (.cmp .Is (.var 1) (.cst .non))) [.ret (.ite (.cmp .Is (.var 0) (.cst .non)) (.var 1) (.var 0))] [], .ret (.tup [(.call 10 false [(.idx (.var 0) (.cst (.int 0))), (.idx (.var 1) (.cst (.int 0)))]), (.call 11 false [(.idx (.var 0) (.cst (.int 1))), (.idx (.var 1) (.cst (.int 1)))])])]
def d_12 : Df (Option Rg) := { x := "range_joined", st := top 11, ps := ["one", "other"], N := ["one", "other"], ir := ir_12, sg := ⟨[false, false], false⟩, F := fun Γ => runF Γ 0 ⟨[false, false], false⟩ ⟨2, ir_12⟩ }
def ir_13 : List IS := [.exp (.call 5 false [(.var 0)]), .exp (.call 5 false [(.var 1)]), .ret (.call 12 false [(.var 0), (.var 1)])]
def d_13 : Df (Option Rg) := { x := "joined", st := top 18, ps := ["one", "other"], N := ["one", "other"], ir := ir_13, sg := ⟨[false, false], false⟩, F := fun Γ => runF Γ 0 ⟨[false, false], false⟩ ⟨2, ir_13⟩ }
def ir_14 : List IS := [.ret (.cmp .Eq (.call 12 false [(.var 0), (.var 1)]) (.var 1))]
def d_14 : Df (Option Rg) := { x := "range_within", st := top 13, ps := ["one", "other"], N := ["one", "other"], ir := ir_14, sg := ⟨[false, false], false⟩, F := fun Γ => runF Γ 0 ⟨[false, false], false⟩ ⟨2, ir_14⟩ }
def ir_15 : List IS := [.exp (.call 5 false [(.var 0)]), .exp (.call 5 false [(.var 1)]), .ret (.call 14 false [(.var 0), (.var 1)])]
def d_15 : Df (Option Rg) := { x := "lies_within", st := top 16, ps := ["one", "other"], N := ["one", "other"], ir := ir_15, sg := ⟨[false, false], false⟩, F := fun Γ => runF Γ 0 ⟨[false, false], false⟩ ⟨2, ir_15⟩ }
def ir_16 : List IS := [.ret (.cmp .IsNot (.call 8 false [(.var 0), (.var 1)]) (.cst .non))]
def d_16 : Df (Option Rg) := { x := "range_meets", st := top 12, ps := ["one", "other"], N := ["one", "other"], ir := ir_16, sg := ⟨[false, false], false⟩, F := fun Γ => runF Γ 0 ⟨[false, false], false⟩ ⟨2, ir_16⟩ }
def ir_17 : List IS := [.exp (.call 5 false [(.var 0)]), .exp (.call 5 false [(.var 1)]), .ret (.call 16 false [(.var 0), (.var 1)])]
def d_17 : Df (Option Rg) := { x := "meets", st := top 15, ps := ["one", "other"], N := ["one", "other"], ir := ir_17, sg := ⟨[false, false], false⟩, F := fun Γ => runF Γ 0 ⟨[false, false], false⟩ ⟨2, ir_17⟩ }
def ir_18 : List IS := [.unp [2, 3] (.tup [(.call 9 false [(.var 0), (.var 1)]), (.call 13 false [(.var 0), (.var 1)])]), .ite (.or (.cmp .NotEq (.lst [(.call 9 false [(.var 1), (.var 0)]), (.call 13 false [(.var 1), (.var 0)])]) (.lst [(.var 2), (.var 3)])) (.cmp .NotEq (.call 17 false [(.var 0), (.var 1)]) (.cmp .IsNot (.var 2) (.cst .non)))) [.ret (.cst (.bl false))] [], .set 4 false (.lc 5 (.tup [(.var 0), (.var 1)]) (.call 15 false [(.var 2), (.var 5)])), .ite (.cmp .NotEq (.bin .Add (.var 4) (.lc 5 (.tup [(.var 0), (.var 1)]) (.call 15 false [(.var 5), (.var 3)]))) (.bin .Mult (.lst [(.cst (.bl true))]) (.cst (.int 4)))) [.ret (.cst (.bl false))] [], .set 6 false (.call 15 false [(.var 0), (.var 1)]), .ret (.and (.cmp .Eq (.lst [(.cmp .Eq (.var 3) (.var 1)), (.cmp .Eq (.var 2) (.var 0))]) (.lst [(.var 6), (.var 6)])) (.and (.cmp .Eq (.call 9 false [(.var 0), (.var 0)]) (.var 0)) (.cmp .Eq (.call 13 false [(.var 0), (.var 0)]) (.var 0))))]
def d_18 : Df (Option Rg) := { x := "_law_pair_right", st := top 25, ps := ["one", "two"], N := ["one", "two", "inner", "outer", "told", "part", "due"], ir := ir_18, sg := ⟨[false, false], false⟩, F := fun Γ => runF Γ 0 ⟨[false, false], false⟩ ⟨7, ir_18⟩ }
def ir_19 : List IS := [.ite (.cmp .Is (.var 0) (.cst .non)) [.ret (.cst .non)] [], .unp [3, 4] (.lc 5 (.var 0) (.ite (.cmp .Is (.var 5) (.cst .non)) (.cst .non) (.bin .Add (.bin .Mult (.var 1) (.var 5)) (.var 2)))), .ret (.ite (.cmp .Gt (.var 1) (.cst (.int 0))) (.tup [(.var 3), (.var 4)]) (.tup [(.var 4), (.var 3)]))]
def d_19 : Df (Option Rg) := { x := "range_stepped", st := top 14, ps := ["one", "factor", "add"], N := ["one", "factor", "add", "low", "high", "bound"], ir := ir_19, sg := ⟨[false, false, false], false⟩, F := fun Γ => runF Γ 0 ⟨[false, false, false], false⟩ ⟨6, ir_19⟩ }
def ir_20 : List IS := [.exp (.call 5 false [(.var 0)]), .ret (.call 19 false [(.var 0), (.var 1), (.var 2)])]
def d_20 : Df (Option Rg) := { x := "stepped", st := top 19, ps := ["one", "factor", "add"], N := ["one", "factor", "add"], ir := ir_20, sg := ⟨[false, false, false], false⟩, F := fun Γ => runF Γ 0 ⟨[false, false, false], false⟩ ⟨3, ir_20⟩ }
def ir_21 : List IS := [.par [3, 4] [(.idx (.lst [(.cst (.int 1)), (.cst (.int 2)), (.cst (.int 3)), (.neg (.cst (.int 1))), (.neg (.cst (.int 2))), (.neg (.cst (.int 3)))]) (.call 0 false [(.var 0), (.cst (.int 6))])), (.idx (.lst [(.cst (.int 1)), (.cst (.int 2)), (.cst (.int 3)), (.neg (.cst (.int 1))), (.neg (.cst (.int 2))), (.neg (.cst (.int 3)))]) (.call 0 false [(.var 0), (.cst (.int 6))]))], .par [5, 6] [(.bin .Sub (.call 0 false [(.var 0), (.cst (.int 19))]) (.cst (.int 9))), (.idx (.lst [(.bin .Sub (.call 0 false [(.var 0), (.cst (.int 19))]) (.cst (.int 9))), (.bin .Pow (.cst (.int 10)) (.cst (.int 29)))]) (.call 0 false [(.var 0), (.cst (.int 2))]))], .par [7, 8] [(.call 20 false [(.var 1), (.var 3), (.var 5)]), (.call 20 false [(.var 2), (.var 3), (.var 5)])], .ite (.cmp .NotEq (.call 20 false [(.call 9 false [(.var 1), (.var 2)]), (.var 3), (.var 5)]) (.call 9 false [(.var 7), (.var 8)])) [.ret (.cst (.bl false))] [], .ite (.or (.cmp .NotEq (.call 20 false [(.call 13 false [(.var 1), (.var 2)]), (.var 3), (.var 5)]) (.call 13 false [(.var 7), (.var 8)])) (.cmp .NotEq (.call 17 false [(.var 7), (.var 8)]) (.call 17 false [(.var 1), (.var 2)]))) [.ret (.cst (.bl false))] [], .ite (.cmp .NotEq (.call 20 false [(.var 7), (.var 4), (.var 6)]) (.call 20 false [(.var 1), (.bin .Mult (.var 3) (.var 4)), (.bin .Add (.bin .Mult (.var 5) (.var 4)) (.var 6))])) [.ret (.cst (.bl false))] [], .ret (.and (.cmp .Eq (.call 20 false [(.call 20 false [(.var 1), (.neg (.cst (.int 1))), (.var 6)]), (.neg (.cst (.int 1))), (.var 6)]) (.var 1)) (.cmp .Eq (.call 20 false [(.var 1), (.cst (.int 1)), (.cst (.int 0))]) (.var 1)))]
def d_21 : Df (Option Rg) := { x := "_law_steps_right", st := top 26, ps := ["rng", "one", "two"], N := ["rng", "one", "two", "size", "more", "plus", "high", "first", "last"], ir := ir_21, sg := ⟨[false, false, false], false⟩, F := fun Γ => runF Γ 0 ⟨[false, false, false], false⟩ ⟨9, ir_21⟩ }
def defs : List (Df (Option Rg)) := [d_1, d_2, d_3, d_4, d_5, d_6, d_7, d_8, d_9, d_10, d_11, d_12, d_13, d_14, d_15, d_16, d_17, d_18, d_19, d_20, d_21]
def lawN : List Str := ["script", "rng", "lap", "most", "one", "two", "last", "turn", "inner", "outer"]
def lawIr : List IS := [.forR 2 none (.bin .Add (.cst (.int 30)) (.bi .min [(.cst (.int 30)), (.bi .len [(.var 0)])])) [.set 3 false (.idx (.lst [(.cst (.int 3)), (.cst (.int 20)), (.bin .Pow (.cst (.int 10)) (.cst (.int 30)))]) (.call 0 false [(.var 1), (.cst (.int 3))])), .unp [4, 5, 6] (.lcr 7 (.cst (.int 0)) (.cst (.int 3)) (.cst (.bl true)) (.call 3 false [(.var 1), (.var 3)])), .ite (.or (.not (.call 18 false [(.var 4), (.var 5)])) (.or (.not (.call 18 false [(.var 5), (.var 6)])) (.not (.call 21 false [(.var 1), (.var 4), (.var 5)])))) [.ret (.cst (.bl false))] [], .par [8, 9] [(.call 9 false [(.call 9 false [(.var 4), (.var 5)]), (.var 6)]), (.call 13 false [(.call 13 false [(.var 4), (.var 5)]), (.var 6)])], .ite (.or (.cmp .NotEq (.var 8) (.call 9 false [(.var 4), (.call 9 false [(.var 5), (.var 6)])])) (.cmp .NotEq (.var 9) (.call 13 false [(.call 13 false [(.var 4), (.var 6)]), (.var 5)]))) [.ret (.cst (.bl false))] [], .ite (.and (.call 15 false [(.var 4), (.var 5)]) (.and (.call 15 false [(.var 5), (.var 6)]) (.not (.call 15 false [(.var 4), (.var 6)])))) [.ret (.cst (.bl false))] []], .ret (.cst (.bl true))]
abbrev sDraw : Stmt := top 22
abbrev sLaw : Stmt := top 27
def C0 : CC := { N := [], sc := defScope sDraw, fns := [("_law_draw", ⟨[false, false], false⟩)], cons := [], free := ["abs", "int", "len", "max", "min", "range"] }
def CL : CC := { finC C0 defs with N := lawN, sc := defScope sLaw }
theorem chk_defs : chkAll C0 defs = true := by decide +kernel
theorem chk_law : chkSs CL (.set 1 true (.call 1 true [.var 0]) :: lawIr) (defBody sLaw) = true := by decide +kernel
theorem sc_law : C8.scC lawN ["script"] (defScope sLaw) = true := by decide +kernel
theorem sc_draw : C8.scC ["rng", "limit", "digit", "blend"] ["rng", "limit"] (defScope sDraw) = true := by decide +kernel
def fn : List He.DefD := [⟨("_law_draw", none), "_law_draw", "_law_draw", defArgs (top 22), defBody (top 22), defScope (top 22), [], []⟩,
  ⟨("_law_rng", none), "_law_rng", "_law_rng", defArgs (top 21), defBody (top 21), defScope (top 21), [], []⟩,
  ⟨("_law_bound", none), "_law_bound", "_law_bound", defArgs (top 23), defBody (top 23), defScope (top 23), [], []⟩,
  ⟨("_law_range", none), "_law_range", "_law_range", defArgs (top 24), defBody (top 24), defScope (top 24), [], []⟩,
  ⟨("is_range", none), "is_range", "is_range", defArgs (top 4), defBody (top 4), defScope (top 4), [], []⟩,
  ⟨("check_range", none), "check_range", "check_range", defArgs (top 5), defBody (top 5), defScope (top 5), [], []⟩,
  ⟨("greater_low", none), "greater_low", "greater_low", defArgs (top 6), defBody (top 6), defScope (top 6), [], []⟩,
  ⟨("lesser_high", none), "lesser_high", "lesser_high", defArgs (top 7), defBody (top 7), defScope (top 7), [], []⟩,
  ⟨("range_common", none), "range_common", "range_common", defArgs (top 10), defBody (top 10), defScope (top 10), [], []⟩,
  ⟨("common", none), "common", "common", defArgs (top 17), defBody (top 17), defScope (top 17), [], []⟩,
  ⟨("lesser_low", none), "lesser_low", "lesser_low", defArgs (top 8), defBody (top 8), defScope (top 8), [], []⟩,
  ⟨("greater_high", none), "greater_high", "greater_high", defArgs (top 9), defBody (top 9), defScope (top 9), [], []⟩,
  ⟨("range_joined", none), "range_joined", "range_joined", defArgs (top 11), defBody (top 11), defScope (top 11), [], []⟩,
  ⟨("joined", none), "joined", "joined", defArgs (top 18), defBody (top 18), defScope (top 18), [], []⟩,
  ⟨("range_within", none), "range_within", "range_within", defArgs (top 13), defBody (top 13), defScope (top 13), [], []⟩,
  ⟨("lies_within", none), "lies_within", "lies_within", defArgs (top 16), defBody (top 16), defScope (top 16), [], []⟩,
  ⟨("range_meets", none), "range_meets", "range_meets", defArgs (top 12), defBody (top 12), defScope (top 12), [], []⟩,
  ⟨("meets", none), "meets", "meets", defArgs (top 15), defBody (top 15), defScope (top 15), [], []⟩,
  ⟨("_law_pair_right", none), "_law_pair_right", "_law_pair_right", defArgs (top 25), defBody (top 25), defScope (top 25), [], []⟩,
  ⟨("range_stepped", none), "range_stepped", "range_stepped", defArgs (top 14), defBody (top 14), defScope (top 14), [], []⟩,
  ⟨("stepped", none), "stepped", "stepped", defArgs (top 19), defBody (top 19), defScope (top 19), [], []⟩,
  ⟨("_law_steps_right", none), "_law_steps_right", "_law_steps_right", defArgs (top 26), defBody (top 26), defScope (top 26), [], []⟩,
  ⟨("law", none), "law", "law", defArgs (top 27), defBody (top 27), defScope (top 27), [], []⟩]
def freeL : List Str := ["abs", "int", "len", "max", "min", "range"]
def fa : List He.Fa := [.glo "_law_draw", .glo "_law_rng", .glo "_law_bound", .glo "_law_range", .glo "is_range", .glo "check_range", .glo "greater_low", .glo "lesser_high", .glo "range_common", .glo "common", .glo "lesser_low", .glo "greater_high", .glo "range_joined", .glo "joined", .glo "range_within", .glo "lies_within", .glo "range_meets", .glo "meets", .glo "_law_pair_right", .glo "range_stepped", .glo "stepped", .glo "_law_steps_right", .glo "law"] ++ freeL.map He.Fa.free
section
variable {K : PySem.W.Frag} {h : Heap} {mg : Str → Option Value}
theorem all_in (X : K.In h) (G : h.Ns mainGlobals mg) (c : He.SaysD fa fn K) {Γ : Gm (Option Rg)} : AllIn K mg C0 Γ defs :=
  ⟨dfIn X G c d_1 1 rfl rfl (fun _ _ _ _ _ _ us hl => match us, hl with | [_], _ => rfl) rfl, fun _ _ _ h _ => ⟨0, h⟩, 
  ⟨dfIn X G c d_2 2 rfl rfl (fun _ _ _ _ _ _ us hl => match us, hl with | [_, _], _ => rfl) rfl, fun _ _ _ h _ => ⟨0, h⟩, 
  ⟨dfIn X G c d_3 3 rfl rfl (fun _ _ _ _ _ _ us hl => match us, hl with | [_, _], _ => rfl) rfl, fun _ _ _ h _ => ⟨0, h⟩, 
  ⟨dfIn X G c d_4 4 rfl rfl (fun _ _ _ _ _ _ us hl => match us, hl with | [_], _ => rfl) rfl, fun _ _ _ h _ => ⟨0, h⟩, 
  ⟨dfIn X G c d_5 5 rfl rfl (fun _ _ _ _ _ _ us hl => match us, hl with | [_], _ => rfl) rfl, fun _ _ _ h _ => ⟨0, h⟩, 
  ⟨dfIn X G c d_6 6 rfl rfl (fun _ _ _ _ _ _ us hl => match us, hl with | [_, _], _ => rfl) rfl, fun _ _ _ h _ => ⟨0, h⟩, 
  ⟨dfIn X G c d_7 7 rfl rfl (fun _ _ _ _ _ _ us hl => match us, hl with | [_, _], _ => rfl) rfl, fun _ _ _ h _ => ⟨0, h⟩, 
  ⟨dfIn X G c d_8 8 rfl rfl (fun _ _ _ _ _ _ us hl => match us, hl with | [_, _], _ => rfl) rfl, fun _ _ _ h _ => ⟨0, h⟩, 
  ⟨dfIn X G c d_9 9 rfl rfl (fun _ _ _ _ _ _ us hl => match us, hl with | [_, _], _ => rfl) rfl, fun _ _ _ h _ => ⟨0, h⟩, 
  ⟨dfIn X G c d_10 10 rfl rfl (fun _ _ _ _ _ _ us hl => match us, hl with | [_, _], _ => rfl) rfl, fun _ _ _ h _ => ⟨0, h⟩, 
  ⟨dfIn X G c d_11 11 rfl rfl (fun _ _ _ _ _ _ us hl => match us, hl with | [_, _], _ => rfl) rfl, fun _ _ _ h _ => ⟨0, h⟩, 
  ⟨dfIn X G c d_12 12 rfl rfl (fun _ _ _ _ _ _ us hl => match us, hl with | [_, _], _ => rfl) rfl, fun _ _ _ h _ => ⟨0, h⟩, 
  ⟨dfIn X G c d_13 13 rfl rfl (fun _ _ _ _ _ _ us hl => match us, hl with | [_, _], _ => rfl) rfl, fun _ _ _ h _ => ⟨0, h⟩, 
  ⟨dfIn X G c d_14 14 rfl rfl (fun _ _ _ _ _ _ us hl => match us, hl with | [_, _], _ => rfl) rfl, fun _ _ _ h _ => ⟨0, h⟩, 
  ⟨dfIn X G c d_15 15 rfl rfl (fun _ _ _ _ _ _ us hl => match us, hl with | [_, _], _ => rfl) rfl, fun _ _ _ h _ => ⟨0, h⟩, 
  ⟨dfIn X G c d_16 16 rfl rfl (fun _ _ _ _ _ _ us hl => match us, hl with | [_, _], _ => rfl) rfl, fun _ _ _ h _ => ⟨0, h⟩, 
  ⟨dfIn X G c d_17 17 rfl rfl (fun _ _ _ _ _ _ us hl => match us, hl with | [_, _], _ => rfl) rfl, fun _ _ _ h _ => ⟨0, h⟩, 
  ⟨dfIn X G c d_18 18 rfl rfl (fun _ _ _ _ _ _ us hl => match us, hl with | [_, _], _ => rfl) rfl, fun _ _ _ h _ => ⟨0, h⟩, 
  ⟨dfIn X G c d_19 19 rfl rfl (fun _ _ _ _ _ _ us hl => match us, hl with | [_, _, _], _ => rfl) rfl, fun _ _ _ h _ => ⟨0, h⟩, 
  ⟨dfIn X G c d_20 20 rfl rfl (fun _ _ _ _ _ _ us hl => match us, hl with | [_, _, _], _ => rfl) rfl, fun _ _ _ h _ => ⟨0, h⟩, 
  ⟨dfIn X G c d_21 21 rfl rfl (fun _ _ _ _ _ _ us hl => match us, hl with | [_, _, _], _ => rfl) rfl, fun _ _ _ h _ => ⟨0, h⟩,  trivial⟩⟩⟩⟩⟩⟩⟩⟩⟩⟩⟩⟩⟩⟩⟩⟩⟩⟩⟩⟩⟩
end
def NDEF : Nat := 22
def LOOSE : List Str := ["RangeError", "InvalidRange", "is_range", "check_range", "greater_low", "lesser_high", "lesser_low", "greater_high", "range_common", "range_joined", "range_meets", "range_within", "range_stepped", "meets", "lies_within", "common", "joined", "stepped", "_law_rng", "_law_draw", "_law_bound", "_law_range", "_law_pair_right", "_law_steps_right"]
def TOPLAW : Nat := 27
def RNGI : Nat := 1
def dk : Dk := ⟨998244353, 32452843, 3, by decide⟩
theorem draw_ps {P : Program} {w : World} {K : PySem.W.Frag} {mg : Str → Option Value} {base : Heap} {f : Addr} (cdv : Value) (A : Around) (outer : List PySem.Env) (s : Shared) (H : Hp) (E : XK) (gi : mg "int" = none) :
    PSs (cxOf CX0 P w K mg base ["rng", "limit", "digit", "blend"] "_law_draw" (defScope sDraw) f cdv A outer s H E).nox (defBody sDraw) (t_draw K dk) := by
  have S := C8.fnScope_by sc_draw
  refine pss_cons (ps_if (pt_cmpR op_gt (pe_ix ix_list (pv 0) pe_int (by intro _ _; rfl)) pe_int (nomark _))
    (pss_cons (ps_set (i := 2) S.nd rfl (Or.inl rfl) (pe_op op_mod (pe_callTy call_int1 rfl gi Pv.boot_int (pa_cons (pe_ix ix_list (pv 0) pe_int (by intro _ _; rfl)) pa_nil)) (pv 1)))
      (pss_cons (ps_asg (pe_op op_fdivW (pe_ix ix_list (pv 0) pe_int (by intro _ _; rfl)) (pv 1)) (pg_sub (pv 0) pe_int set_list)) (pss_one (ps_ret (pv 2))))) pss_nil)
    (pss_cons (ps_asg (pe_op op_add (pe_ix ix_list (pv 0) pe_int (by intro _ _; rfl)) pe_int) (pg_sub (pv 0) pe_int set_list))
      (pss_cons (ps_set (i := 3) S.nd rfl (Or.inl rfl) (pe_op op_mod (pe_callTy call_int1 rfl gi Pv.boot_int (pa_cons (pe_op op_powB (pe_op op_add (pe_ix ix_list (pv 0) pe_int (by intro _ _; rfl)) (pe_op op_mul pe_int (pe_ix ix_list (pv 0) pe_int (by intro _ _; rfl)))) pe_int) pa_nil)) pe_int))
        (pss_cons (ps_set (i := 3) S.nd rfl (Or.inl rfl) (pe_op op_mod (pe_callTy call_int1 rfl gi Pv.boot_int (pa_cons (pe_op op_powB (pe_op op_add (pv 3) (pe_op op_mul pe_int (pe_ix ix_list (pv 0) pe_int (by intro _ _; rfl)))) pe_int) pa_nil)) pe_int))
          (pss_one (ps_ret (pe_op op_mod (pe_callTy call_int1 rfl gi Pv.boot_int (pa_cons (pe_op op_fdivW (pv 3) pe_int) pa_nil)) (pv 1)))))))
abbrev RR : PySem.W.OpenRow := PySem.W.OpenLaw.row PySem.Challenge.rw_tightranges_k10_whole_ranges
abbrev hk : PySem.W.Hook := He.hookD 4 fa fn
def ob (s : PySem.W.SharedT) : He.AlD := He.obsDG 4 fa fn (HandSHeadRun.getT s)
theorem ob_eq (s : PySem.W.SharedT) : ob s = hk.obs s.abs := He.obsDG_eq (HandSHeadRun.getT_eq s)
theorem run (w : World) : HandSHeadRun.RunEq RR (PySem.W.view RR.prog [TOPLAW]) hk ob 2000 LOOSE w := by
  intro os
  kernel_rfl
def ΓL : Gm (Option Rg) := finG ⟨[drawF dk], []⟩ defs
/-- what is left to show of the law: plain -/
def Plain : Prop := ∀ ns : List Int, ns.length ≤ 63 → ∃ Fr d s, ΓL.fns[RNGI]? = some Fr ∧ Fr [.scr ns] none = .ok (.lst [.int d, .int s, .int 0]) none ∧ ∃ n b s', exs ΓL n lawIr (lawE lawN.length ns) (some ⟨d, s, 0⟩) = .ok (.ret (.bl true) b) s'
theorem facts (plain : Plain) {P : Program} {w : World} {K : PySem.W.Frag} {h : Heap} {mg : Str → Option Value} {f : Addr} (X : K.In h) (G : h.Ns mainGlobals mg) (hfa : mg ("law" : Str) = some (.ref f)) (c : He.SaysD fa fn K) :
    ∃ fd : FuncData, (∀ (s : Shared) (v : Value), BindsTo s fd ⟨[v], []⟩ [("script", v)]) ∧ ∀ base : Heap, K.In base → base.Ns mainGlobals mg → FnOk P w K mg base CX0 (NDEF + 1) f fd ["script"] (spLaw K) := by
  obtain ⟨fd, F⟩ := c.def_ NDEF rfl
  have e := hfa.symm.trans (He.glo_ok X G (c.fact NDEF (f := .glo "law") rfl))
  cases e
  have b := FunD.bindsA (ps := ["script"]) F fun _ _ _ _ _ _ us hl => match us, hl with | [_], _ => rfl
  refine ⟨fd, fun s v => b s [v] rfl, fun base _ _ => ?_⟩
  have gi : mg "int" = none := He.free_ok X G (says_mem c (List.mem_append_right _ (List.mem_map_of_mem (f := He.Fa.free) (by decide : ("int" : Str) ∈ freeL))))
  have k0 : DOk RNG (fun _ => 0) ⟨[drawF dk], []⟩ C0 P w K mg base 1 := dok0 (fa := fa) (fn := fn) X G c (st := sDraw) rfl rfl rfl (fun y hy => List.mem_append_right _ (List.mem_map_of_mem (f := He.Fa.free) hy)) rfl rfl sc_draw (fun _ _ _ _ _ _ us hl => match us, hl with | [_, _], _ => rfl) (fun f cdv A outer s H E => draw_ps cdv A outer s H E gi)
  have k1 := DOk.all k0 rfl chk_defs (all_in X G c)
  obtain ⟨Fr, hFr⟩ : ∃ Fr, ΓL.fns[RNGI]? = some Fr := ⟨_, rfl⟩
  refine law_ok (C := CL) (Γ := ΓL) (i := RNGI) (Fr := Fr) F sc_law rfl (by decide) ⟨k1.free, k1.fn, k1.kw, k1.con⟩ chk_law hFr fun ns hl => ?_
  obtain ⟨Fr2, d, s, e1, e2, e3⟩ := plain ns hl
  rw [hFr] at e1
  cases e1
  exact ⟨d, s, e2, e3⟩
end Q
section
open PySem PySem.W PySem.Calls PyProof.Rows
theorem holds_of (plain : Q.Plain) : PySem.Challenge.rw_tightranges_k10_whole_ranges.Holds := by
  w_on; o_law
  refine HandSHeadRun.head_any (r := OpenLaw.row PySem.Challenge.rw_tightranges_k10_whole_ranges) (q := view (OpenLaw.row PySem.Challenge.rw_tightranges_k10_whole_ranges).prog [Q.TOPLAW]) (H := Q.hk) (ob := Q.ob) (M := 2000) (loose := Q.LOOSE) (d := HandSHeadRun.topDef (OpenLaw.row PySem.Challenge.rw_tightranges_k10_whole_ranges).prog Q.TOPLAW) (kwd := []) Q.ob_eq
    (by kernel_rfl) (fun s => by kernel_rfl) Q.run (by kernel_rfl) (by kernel_rfl) (by kernel_rfl) (by rfl) (by first | assumption | decide +kernel) (by decide +kernel) ⟨rfl, rfl, rfl, rfl, rfl, by decide +kernel⟩ ?hw ?hc
  case hw => w_witness2
  case hc =>
    refine L2.walk_ofE (l := PySem.Challenge.rw_tightranges_k10_whole_ranges) (n := 63) (k := Q.NDEF + 1) (x := "script") (CX := L2.CX0) rfl (by decide) (by kernel_rfl) ⟨rfl, by decide, by decide⟩ ?F (fun _ _ _ _ z => z)
    intro w mg fa h Y G hmg0
    obtain ⟨K, KX, c⟩ := Y
    have hmg : mg ("law" : PySem.Str) = some (.ref fa) := by
      have e : (HandSHeadRun.topDef (OpenLaw.row PySem.Challenge.rw_tightranges_k10_whole_ranges).prog Q.TOPLAW).name = ("law" : PySem.Str) := by kernel_rfl
      rw [← e]
      exact hmg0
    obtain ⟨fd, hb, hF⟩ := Q.facts (P := (PySem.Challenge.rw_tightranges_k10_whole_ranges).prog) (w := w) plain KX G hmg c
    exact ⟨K, fd, Pv.spLaw K, KX, hb, fun H a ns hl ho hS => ⟨a, ns, rfl, hl, Pv.sqF_only ho hS, fun _ => rfl⟩, hF⟩
end
end
section
set_option maxHeartbeats 4000000
namespace Q
open PySem PySem.Spec PyProof.Rows L2 Pv
def G_1 : Gm (Option Rg) := ⟨[drawF dk], []⟩
def F_1 : List D → M (Option Rg) D := d_1.F G_1
def G_2 : Gm (Option Rg) := ⟨[drawF dk, F_1], []⟩
def F_2 : List D → M (Option Rg) D := d_2.F G_2
def G_3 : Gm (Option Rg) := ⟨[drawF dk, F_1, F_2], []⟩
def F_3 : List D → M (Option Rg) D := d_3.F G_3
def G_4 : Gm (Option Rg) := ⟨[drawF dk, F_1, F_2, F_3], []⟩
def F_4 : List D → M (Option Rg) D := d_4.F G_4
def G_5 : Gm (Option Rg) := ⟨[drawF dk, F_1, F_2, F_3, F_4], []⟩
def F_5 : List D → M (Option Rg) D := d_5.F G_5
def G_6 : Gm (Option Rg) := ⟨[drawF dk, F_1, F_2, F_3, F_4, F_5], []⟩
def F_6 : List D → M (Option Rg) D := d_6.F G_6
def G_7 : Gm (Option Rg) := ⟨[drawF dk, F_1, F_2, F_3, F_4, F_5, F_6], []⟩
def F_7 : List D → M (Option Rg) D := d_7.F G_7
def G_8 : Gm (Option Rg) := ⟨[drawF dk, F_1, F_2, F_3, F_4, F_5, F_6, F_7], []⟩
def F_8 : List D → M (Option Rg) D := d_8.F G_8
def G_9 : Gm (Option Rg) := ⟨[drawF dk, F_1, F_2, F_3, F_4, F_5, F_6, F_7, F_8], []⟩
def F_9 : List D → M (Option Rg) D := d_9.F G_9
def G_10 : Gm (Option Rg) := ⟨[drawF dk, F_1, F_2, F_3, F_4, F_5, F_6, F_7, F_8, F_9], []⟩
def F_10 : List D → M (Option Rg) D := d_10.F G_10
def G_11 : Gm (Option Rg) := ⟨[drawF dk, F_1, F_2, F_3, F_4, F_5, F_6, F_7, F_8, F_9, F_10], []⟩
def F_11 : List D → M (Option Rg) D := d_11.F G_11
def G_12 : Gm (Option Rg) := ⟨[drawF dk, F_1, F_2, F_3, F_4, F_5, F_6, F_7, F_8, F_9, F_10, F_11], []⟩
def F_12 : List D → M (Option Rg) D := d_12.F G_12
def G_13 : Gm (Option Rg) := ⟨[drawF dk, F_1, F_2, F_3, F_4, F_5, F_6, F_7, F_8, F_9, F_10, F_11, F_12], []⟩
def F_13 : List D → M (Option Rg) D := d_13.F G_13
def G_14 : Gm (Option Rg) := ⟨[drawF dk, F_1, F_2, F_3, F_4, F_5, F_6, F_7, F_8, F_9, F_10, F_11, F_12, F_13], []⟩
def F_14 : List D → M (Option Rg) D := d_14.F G_14
def G_15 : Gm (Option Rg) := ⟨[drawF dk, F_1, F_2, F_3, F_4, F_5, F_6, F_7, F_8, F_9, F_10, F_11, F_12, F_13, F_14], []⟩
def F_15 : List D → M (Option Rg) D := d_15.F G_15
def G_16 : Gm (Option Rg) := ⟨[drawF dk, F_1, F_2, F_3, F_4, F_5, F_6, F_7, F_8, F_9, F_10, F_11, F_12, F_13, F_14, F_15], []⟩
def F_16 : List D → M (Option Rg) D := d_16.F G_16
def G_17 : Gm (Option Rg) := ⟨[drawF dk, F_1, F_2, F_3, F_4, F_5, F_6, F_7, F_8, F_9, F_10, F_11, F_12, F_13, F_14, F_15, F_16], []⟩
def F_17 : List D → M (Option Rg) D := d_17.F G_17
def G_18 : Gm (Option Rg) := ⟨[drawF dk, F_1, F_2, F_3, F_4, F_5, F_6, F_7, F_8, F_9, F_10, F_11, F_12, F_13, F_14, F_15, F_16, F_17], []⟩
def F_18 : List D → M (Option Rg) D := d_18.F G_18
def G_19 : Gm (Option Rg) := ⟨[drawF dk, F_1, F_2, F_3, F_4, F_5, F_6, F_7, F_8, F_9, F_10, F_11, F_12, F_13, F_14, F_15, F_16, F_17, F_18], []⟩
def F_19 : List D → M (Option Rg) D := d_19.F G_19
def G_20 : Gm (Option Rg) := ⟨[drawF dk, F_1, F_2, F_3, F_4, F_5, F_6, F_7, F_8, F_9, F_10, F_11, F_12, F_13, F_14, F_15, F_16, F_17, F_18, F_19], []⟩
def F_20 : List D → M (Option Rg) D := d_20.F G_20
def G_21 : Gm (Option Rg) := ⟨[drawF dk, F_1, F_2, F_3, F_4, F_5, F_6, F_7, F_8, F_9, F_10, F_11, F_12, F_13, F_14, F_15, F_16, F_17, F_18, F_19, F_20], []⟩
def F_21 : List D → M (Option Rg) D := d_21.F G_21
def G_22 : Gm (Option Rg) := ⟨[drawF dk, F_1, F_2, F_3, F_4, F_5, F_6, F_7, F_8, F_9, F_10, F_11, F_12, F_13, F_14, F_15, F_16, F_17, F_18, F_19, F_20, F_21], []⟩
theorem gL : ΓL = G_22 := rfl
def dB : Option Int → D
  | none => .non
  | some i => .int i
abbrev Rv := Option (Option Int × Option Int)
def dR : Rv → D
  | none => .non
  | some p => .tup [dB p.1, dB p.2]
def gl : Option Int → Option Int → Option Int
  | none, y => y
  | some a, none => some a
  | some a, some b => some (if b > a then b else a)
def lh : Option Int → Option Int → Option Int
  | none, y => y
  | some a, none => some a
  | some a, some b => some (if b < a then b else a)
def ll : Option Int → Option Int → Option Int
  | some a, some b => some (if b < a then b else a)
  | _, _ => none
def gh : Option Int → Option Int → Option Int
  | some a, some b => some (if b > a then b else a)
  | _, _ => none
def vB : Option Int × Option Int → Bool
  | (some a, some b) => decide (a ≤ b)
  | _ => true
def com : Rv → Rv → Rv
  | some x, some y => if vB (gl x.1 y.1, lh x.2 y.2) then some (gl x.1 y.1, lh x.2 y.2) else none
  | _, _ => none
def joi : Rv → Rv → Rv
  | none, y => y
  | some x, none => some x
  | some x, some y => some (ll x.1 y.1, gh x.2 y.2)
def vR : Rv → Bool
  | none => true
  | some p => vB p
variable (s : Option Rg)
theorem f6 (a b : Option Int) : F_6 [dB a, dB b] s = .ok (dB (gl a b)) s := by cases a <;> cases b <;> rfl
theorem f7 (a b : Option Int) : F_7 [dB a, dB b] s = .ok (dB (lh a b)) s := by cases a <;> cases b <;> rfl
theorem f10 (a b : Option Int) : F_10 [dB a, dB b] s = .ok (dB (ll a b)) s := by cases a <;> cases b <;> rfl
theorem f11 (a b : Option Int) : F_11 [dB a, dB b] s = .ok (dB (gh a b)) s := by cases a <;> cases b <;> rfl
theorem f4 (x : Rv) : F_4 [dR x] s = .ok (.bl (vR x)) s := by
  rcases x with _ | ⟨_ | a, _ | b⟩ <;> rfl
end Q
end
section
set_option maxHeartbeats 1000000
namespace Q
open PySem PySem.Spec PyProof.Rows L2 Pv
theorem at0 {α : Type} (a b : α) : atI [a, b] 0 = some a := rfl
theorem at1 {α : Type} (a b : α) : atI [a, b] 1 = some b := rfl
theorem ok_bind {S α β : Type} (a : α) (s : S) (f : α → M S β) : (match (Res.ok a s : Res S α) with | .ok a s' => f a s' | .er c d s' => .er c d s' | .bad => .bad) = f a s := rfl
theorem pure_s {S α : Type} (a : α) (s : S) : (pure a : M S α) s = .ok a s := rfl
variable (s : Option Rg)
theorem f5 (x : Rv) (h : vR x = true) : F_5 [dR x] s = .ok .non s := by
  have e : F_5 = runF G_5 0 ⟨[false], false⟩ ⟨1, ir_5⟩ := rfl
  have g : G_5.fns[4]? = some F_4 := rfl
  rw [e]
  simp [runF, exs, ex, ev, evs, callF, startE, getI, put, ir_5, bind_def, g, f4, h, truth, pure_def, isBox]
theorem f8 (x y : Rv) : F_8 [dR x, dR y] s = .ok (dR (com x y)) s := by
  rcases x with _ | p <;> rcases y with _ | q
  · rfl
  · rfl
  · rfl
  · have e : F_8 = runF G_8 0 ⟨[false, false], false⟩ ⟨3, ir_8⟩ := rfl
    have g4 : G_8.fns[4]? = some F_4 := rfl
    have g6 : G_8.fns[6]? = some F_6 := rfl
    have g7 : G_8.fns[7]? = some F_7 := rfl
    have h4 := f4 s (some (gl p.1 q.1, lh p.2 q.2))
    simp only [dR] at h4
    rw [e]
    cases hv : vB (gl p.1 q.1, lh p.2 q.2) <;> simp [runF, exs, ex, ev, evs, callF, startE, getI, put, ir_8, bind_def, g4, g6, g7, f6, f7, h4, truth, pure_s, isBox, dR, opCmp, isNon, opIdx, at0, at1, com, vR, hv]
theorem f9 (x y : Rv) (hx : vR x = true) (hy : vR y = true) : F_9 [dR x, dR y] s = .ok (dR (com x y)) s := by
  have e : F_9 = runF G_9 0 ⟨[false, false], false⟩ ⟨2, ir_9⟩ := rfl
  have g5 : G_9.fns[5]? = some F_5 := rfl
  have g8 : G_9.fns[8]? = some F_8 := rfl
  rw [e]
  simp [runF, exs, ex, ev, evs, callF, startE, getI, put, ir_9, bind_def, g5, g8, f5 s x hx, f5 s y hy, f8, truth, pure_s, isBox]
theorem f12 (x y : Rv) : F_12 [dR x, dR y] s = .ok (dR (joi x y)) s := by
  rcases x with _ | p <;> rcases y with _ | q
  · rfl
  · rfl
  · rfl
  · have e : F_12 = runF G_12 0 ⟨[false, false], false⟩ ⟨2, ir_12⟩ := rfl
    have g6 : G_12.fns[10]? = some F_10 := rfl
    have g7 : G_12.fns[11]? = some F_11 := rfl
    rw [e]
    simp [runF, exs, ex, ev, evs, callF, startE, getI, put, ir_12, bind_def, g6, g7, f10, f11, truth, pure_s, isBox, dR, opCmp, isNon, opIdx, at0, at1, joi]
theorem f13 (x y : Rv) (hx : vR x = true) (hy : vR y = true) : F_13 [dR x, dR y] s = .ok (dR (joi x y)) s := by
  have e : F_13 = runF G_13 0 ⟨[false, false], false⟩ ⟨2, ir_13⟩ := rfl
  have g5 : G_13.fns[5]? = some F_5 := rfl
  have g8 : G_13.fns[12]? = some F_12 := rfl
  rw [e]
  simp [runF, exs, ex, ev, evs, callF, startE, getI, put, ir_13, bind_def, g5, g8, f5 s x hx, f5 s y hy, f12, truth, pure_s, isBox]
end Q
end
section
set_option maxHeartbeats 1000000
namespace Q
open PySem PySem.Spec PyProof.Rows L2 Pv
/-! the ranges, plain -/
def mk (p : Option Int × Option Int) : Rv := if vB p then some p else none
theorem com_some (p q : Option Int × Option Int) : com (some p) (some q) = mk (gl p.1 q.1, lh p.2 q.2) := rfl
theorem v_none {p q : Option Int × Option Int} (h : vB p = false) : vB (gl p.1 q.1, lh p.2 q.2) = false := by
  obtain ⟨_ | a, _ | b⟩ := p <;> obtain ⟨_ | c, _ | d⟩ := q <;> simp [vB, gl, lh] at h ⊢ <;> omega
theorem gl_comm (a b : Option Int) : gl a b = gl b a := by
  cases a <;> cases b <;> simp [gl] <;> omega
theorem lh_comm (a b : Option Int) : lh a b = lh b a := by
  cases a <;> cases b <;> simp [lh] <;> omega
theorem ll_comm (a b : Option Int) : ll a b = ll b a := by
  cases a <;> cases b <;> simp [ll] <;> omega
theorem gh_comm (a b : Option Int) : gh a b = gh b a := by
  cases a <;> cases b <;> simp [gh] <;> omega
theorem gl_assoc (a b c : Option Int) : gl (gl a b) c = gl a (gl b c) := by
  cases a <;> cases b <;> cases c <;> simp [gl] <;> omega
theorem lh_assoc (a b c : Option Int) : lh (lh a b) c = lh a (lh b c) := by
  cases a <;> cases b <;> cases c <;> simp [lh] <;> omega
theorem ll_assoc (a b c : Option Int) : ll (ll a b) c = ll a (ll b c) := by
  cases a <;> cases b <;> cases c <;> simp [ll] <;> omega
theorem gh_assoc (a b c : Option Int) : gh (gh a b) c = gh a (gh b c) := by
  cases a <;> cases b <;> cases c <;> simp [gh] <;> omega
theorem com_comm (x y : Rv) : com x y = com y x := by
  cases x <;> cases y <;> simp [com]
  rename_i p q
  rw [gl_comm p.1, lh_comm p.2]
theorem com_mk (p q : Option Int × Option Int) : com (mk p) (some q) = mk (gl p.1 q.1, lh p.2 q.2) := by
  unfold mk
  cases h : vB p
  · rw [v_none h]
    rfl
  · rfl
theorem com_assoc (x y z : Rv) : com (com x y) z = com x (com y z) := by
  cases x with
  | none => cases y <;> cases z <;> rfl
  | some p => cases y with
    | none => cases z <;> rfl
    | some q => cases z with
      | none => rw [com_comm, com_comm (some q)]; rfl
      | some r =>
        rw [com_some, com_mk, com_some, com_comm (some p), com_mk, gl_assoc, lh_assoc, gl_comm p.1, lh_comm p.2]
theorem joi_comm (x y : Rv) : joi x y = joi y x := by
  cases x <;> cases y <;> simp [joi]
  rename_i p q
  exact ⟨ll_comm _ _, gh_comm _ _⟩
theorem joi_assoc (x y z : Rv) : joi (joi x y) z = joi x (joi y z) := by
  cases x <;> cases y <;> cases z <;> simp [joi]
  exact ⟨ll_assoc _ _ _, gh_assoc _ _ _⟩
theorem joi_turn (x y z : Rv) : joi (joi x y) z = joi (joi x z) y := by rw [joi_assoc, joi_comm y, ← joi_assoc]
theorem com_self (x : Rv) (h : vR x = true) : com x x = x := by
  obtain _ | ⟨_ | a, _ | b⟩ := x <;> simp [com, gl, lh, vB, vR] at h ⊢
  exact h
theorem joi_self (x : Rv) : joi x x = x := by
  obtain _ | ⟨_ | a, _ | b⟩ := x <;> simp [joi, ll, gh]
theorem ll_gl (a c : Option Int) : ll (gl a c) a = a := by
  cases a <;> cases c <;> simp [ll, gl] <;> omega
theorem gh_lh (a c : Option Int) : gh (lh a c) a = a := by
  cases a <;> cases c <;> simp [gh, lh] <;> omega
theorem joi_com (x y : Rv) : joi (com x y) x = x := by
  cases x with
  | none => cases y <;> rfl
  | some p => cases y with
    | none => rfl
    | some q =>
      rw [com_some]
      unfold mk
      cases h : vB (gl p.1 q.1, lh p.2 q.2)
      · rfl
      · show some (ll (gl p.1 q.1) p.1, gh (lh p.2 q.2) p.2) = some p
        rw [ll_gl, gh_lh]
theorem joi_joi (x y : Rv) : joi x (joi x y) = joi x y := by rw [← joi_assoc, joi_self]
theorem gl_ll (a c : Option Int) : gl a c = a ↔ ll a c = c := by
  cases a <;> cases c <;> simp [ll, gl] <;> omega
theorem lh_gh (a c : Option Int) : lh a c = a ↔ gh a c = c := by
  cases a <;> cases c <;> simp [lh, gh] <;> omega
theorem due (x y : Rv) (hx : vR x = true) (hy : vR y = true) : (com x y = x) ↔ (joi x y = y) := by
  cases x with
  | none => cases y <;> simp [com, joi]
  | some p => cases y with
    | none => simp [com, joi]
    | some q =>
      obtain ⟨a, b⟩ := p
      obtain ⟨c, d⟩ := q
      have hx : vB (a, b) = true := hx
      rw [com_some]
      show mk (gl a c, lh b d) = some (a, b) ↔ some (ll a c, gh b d) = some (c, d)
      unfold mk
      cases h : vB (gl a c, lh b d)
      · constructor
        · intro z
          cases z
        · intro z
          simp only [Option.some.injEq, Prod.mk.injEq] at z
          rw [(gl_ll a c).mpr z.1, (lh_gh b d).mpr z.2, hx] at h
          cases h
      · simp only [if_true, Option.some.injEq, Prod.mk.injEq]
        rw [gl_ll, lh_gh]
theorem v_com (x y : Rv) : vR (com x y) = true := by
  cases x with
  | none => cases y <;> rfl
  | some p => cases y with
    | none => rfl
    | some q =>
      rw [com_some]
      unfold mk
      cases h : vB (gl p.1 q.1, lh p.2 q.2)
      · rfl
      · exact h
theorem v_joi (x y : Rv) (hx : vR x = true) (hy : vR y = true) : vR (joi x y) = true := by
  obtain _ | ⟨_ | a, _ | b⟩ := x <;> obtain _ | ⟨_ | c, _ | d⟩ := y <;> simp [joi, vB, vR, ll, gh] at hx hy ⊢ <;> omega
theorem within_trans (x y z : Rv) (h1 : joi x y = y) (h2 : joi y z = z) : joi x z = z := by
  rw [← h2, ← joi_assoc, h1]
/-- factor * bound + add -/
def sB (f p : Int) (b : Option Int) : Option Int := b.map fun i => f * i + p
def stp (x : Rv) (f p : Int) : Rv := x.map fun r => if f > 0 then (sB f p r.1, sB f p r.2) else (sB f p r.2, sB f p r.1)
def isF (f : Int) : Prop := f = 1 ∨ f = 2 ∨ f = 3 ∨ f = -1 ∨ f = -2 ∨ f = -3
theorem v_stp (x : Rv) (f p : Int) (h : vR x = true) (hf : isF f) : vR (stp x f p) = true := by
  rcases hf with rfl | rfl | rfl | rfl | rfl | rfl <;> obtain _ | ⟨_ | a, _ | b⟩ := x <;> simp [stp, sB, vB, vR] at h ⊢ <;> omega
theorem stp_com (x y : Rv) (f p : Int) (hx : vR x = true) (hy : vR y = true) (hf : isF f) : stp (com x y) f p = com (stp x f p) (stp y f p) := by
  rcases hf with rfl | rfl | rfl | rfl | rfl | rfl <;> obtain _ | ⟨_ | a, _ | b⟩ := x <;> obtain _ | ⟨_ | c, _ | d⟩ := y <;> simp [stp, com, sB, vB, vR, gl, lh] at hx hy ⊢ <;> (repeat' split) <;> simp [sB] <;> omega
theorem stp_joi (x y : Rv) (f p : Int) (hf : isF f) : stp (joi x y) f p = joi (stp x f p) (stp y f p) := by
  rcases hf with rfl | rfl | rfl | rfl | rfl | rfl <;> obtain _ | ⟨_ | a, _ | b⟩ := x <;> obtain _ | ⟨_ | c, _ | d⟩ := y <;> simp [stp, joi, sB, ll, gh] <;> omega
theorem stp_stp (x : Rv) (f p m h : Int) (hf : isF f) (hm : isF m) : stp (stp x f p) m h = stp x (f * m) (p * m + h) := by
  rcases hf with rfl | rfl | rfl | rfl | rfl | rfl <;> rcases hm with rfl | rfl | rfl | rfl | rfl | rfl <;> obtain _ | ⟨_ | a, _ | b⟩ := x <;> simp [stp, sB] <;> omega
theorem stp_back (x : Rv) (h : Int) : stp (stp x (-1) h) (-1) h = x := by
  obtain _ | ⟨_ | a, _ | b⟩ := x <;> simp [stp, sB] <;> omega
theorem stp_one (x : Rv) : stp x 1 0 = x := by
  obtain _ | ⟨_ | a, _ | b⟩ := x <;> simp [stp, sB]
end Q
end
section
set_option maxHeartbeats 1000000
namespace Q
open PySem PySem.Spec PyProof.Rows L2 Pv
theorem ok_R (x : Rv) : okEq (dR x) = true := by rcases x with _ | ⟨_ | a, _ | b⟩ <;> rfl
theorem ok_LL (x y : Rv) : okEq (.lst [dR x, dR y]) = true := by rcases x with _ | ⟨_ | a, _ | b⟩ <;> rcases y with _ | ⟨_ | c, _ | d⟩ <;> rfl
theorem eqv_B (x y : Option Int) : PyData.eqv (toP (dB x)) (toP (dB y)) = decide (x = y) := by
  cases x <;> cases y <;> simp [dB, toP, PyData.eqv]
  rename_i a b
  by_cases h : a = b <;> simp [h]
theorem eqv_R (x y : Rv) : PyData.eqv (toP (dR x)) (toP (dR y)) = decide (x = y) := by
  cases x with
  | none => cases y <;> simp [dR, toP, PyData.eqv]
  | some p => cases y with
    | none => simp [dR, toP, PyData.eqv]
    | some q =>
      obtain ⟨a, b⟩ := p
      obtain ⟨c, d⟩ := q
      simp only [dR, toP, toPs, PyData.eqv, PyData.eqvAll, eqv_B, Option.some.injEq, Prod.mk.injEq, Bool.and_true]
      by_cases h1 : a = c <;> by_cases h2 : b = d <;> simp [h1, h2]
theorem cmpEq (a b : D) : opCmp .Eq a b = if (okEq a && okEq b) = true then some (PyData.eqv (toP a) (toP b)) else none := by cases a <;> cases b <;> rfl
theorem cmpNe (a b : D) : opCmp .NotEq a b = if (okEq a && okEq b) = true then some (!PyData.eqv (toP a) (toP b)) else none := by cases a <;> cases b <;> rfl
theorem eqR (x y : Rv) : opCmp .Eq (dR x) (dR y) = some (decide (x = y)) := by
  rw [cmpEq, ok_R, ok_R, eqv_R]
  rfl
theorem neR (x y : Rv) : opCmp .NotEq (dR x) (dR y) = some (!decide (x = y)) := by
  rw [cmpNe, ok_R, ok_R, eqv_R]
  rfl
theorem neRR (x y z w : Rv) : opCmp .NotEq (.lst [dR x, dR y]) (.lst [dR z, dR w]) = some (!(decide (x = z) && decide (y = w))) := by
  rw [cmpNe, ok_LL, ok_LL]
  simp only [toP, toPs, PyData.eqv, PyData.eqvAll, eqv_R, Bool.and_true]
  rfl
theorem isN (x : Rv) : opCmp .Is (dR x) .non = some (decide (x = none)) := by cases x <;> rfl
theorem isNN (x : Rv) : opCmp .IsNot (dR x) .non = some (!decide (x = none)) := by cases x <;> rfl
theorem neBB (a b : Bool) : opCmp .NotEq (.bl a) (.bl b) = some (!decide (a = b)) := by cases a <;> cases b <;> rfl
variable (s : Option Rg)
theorem f14 (x y : Rv) : F_14 [dR x, dR y] s = .ok (.bl (decide (joi x y = y))) s := by
  have e : F_14 = runF G_14 0 ⟨[false, false], false⟩ ⟨2, ir_14⟩ := rfl
  have g5 : G_14.fns[12]? = some F_12 := rfl
  rw [e]
  simp [runF, exs, ex, ev, evs, callF, startE, getI, put, ir_14, bind_def, g5, f12, truth, pure_s, isBox, eqR]
theorem f15 (x y : Rv) (hx : vR x = true) (hy : vR y = true) : F_15 [dR x, dR y] s = .ok (.bl (decide (joi x y = y))) s := by
  have e : F_15 = runF G_15 0 ⟨[false, false], false⟩ ⟨2, ir_15⟩ := rfl
  have g5 : G_15.fns[5]? = some F_5 := rfl
  have g8 : G_15.fns[14]? = some F_14 := rfl
  rw [e]
  simp [runF, exs, ex, ev, evs, callF, startE, getI, put, ir_15, bind_def, g5, g8, f5 s x hx, f5 s y hy, f14, truth, pure_s, isBox]
theorem f16 (x y : Rv) : F_16 [dR x, dR y] s = .ok (.bl (!decide (com x y = none))) s := by
  have e : F_16 = runF G_16 0 ⟨[false, false], false⟩ ⟨2, ir_16⟩ := rfl
  have g5 : G_16.fns[8]? = some F_8 := rfl
  rw [e]
  simp [runF, exs, ex, ev, evs, callF, startE, getI, put, ir_16, bind_def, g5, f8, truth, pure_s, isBox, isNN]
theorem f17 (x y : Rv) (hx : vR x = true) (hy : vR y = true) : F_17 [dR x, dR y] s = .ok (.bl (!decide (com x y = none))) s := by
  have e : F_17 = runF G_17 0 ⟨[false, false], false⟩ ⟨2, ir_17⟩ := rfl
  have g5 : G_17.fns[5]? = some F_5 := rfl
  have g8 : G_17.fns[16]? = some F_16 := rfl
  rw [e]
  simp [runF, exs, ex, ev, evs, callF, startE, getI, put, ir_17, bind_def, g5, g8, f5 s x hx, f5 s y hy, f16, truth, pure_s, isBox]
theorem ok_seq (x y : D) : seqOf (.tup [x, y]) = some [x, y] := rfl
theorem add22 (a b c d : D) : opBin .Add (.lst [a, b]) (.lst [c, d]) = some (.lst [a, b, c, d]) := rfl
theorem rep4 : opBin .Mult (.lst [.bl true]) (.int 4) = some (.lst [.bl true, .bl true, .bl true, .bl true]) := rfl
theorem ne4 : opCmp .NotEq (.lst [.bl true, .bl true, .bl true, .bl true]) (.lst [.bl true, .bl true, .bl true, .bl true]) = some false := by decide +kernel
theorem eq2 (a : Bool) : opCmp .Eq (.lst [.bl a, .bl a]) (.lst [.bl a, .bl a]) = some true := by cases a <;> decide +kernel
theorem f18 (x y : Rv) (hx : vR x = true) (hy : vR y = true) : F_18 [dR x, dR y] s = .ok (.bl true) s := by
  have e : F_18 = runF G_18 0 ⟨[false, false], false⟩ ⟨7, ir_18⟩ := rfl
  have g9 : G_18.fns[9]? = some F_9 := rfl
  have g13 : G_18.fns[13]? = some F_13 := rfl
  have g15 : G_18.fns[15]? = some F_15 := rfl
  have g17 : G_18.fns[17]? = some F_17 := rfl
  have vc := v_com x y
  have vj := v_joi x y hx hy
  have j1 := joi_com x y
  have j2 : joi (com x y) y = y := by rw [com_comm]; exact joi_com y x
  have j3 := joi_joi x y
  have j4 : joi y (joi x y) = joi x y := by rw [joi_comm x y]; exact joi_joi y x
  have dd : decide (com x y = x) = decide (joi x y = y) := by simp only [due x y hx hy]
  rw [e]
  simp [runF, exs, ex, ev, evs, callF, startE, getI, put, puts, ir_18, bind_def, g9, g13, g15, g17, f9 s x y hx hy, f9 s y x hy hx, f13 s x y hx hy, f13 s y x hy hx, f17 s x y hx hy, f15 s x y hx hy, f15 s _ x vc hx, f15 s _ y vc hy, f15 s x _ hx vj, f15 s y _ hy vj,
    f9 s x x hx hx, f13 s x x hx hx, truth, pure_s, isBox, eqR, neRR, isNN, com_comm y x, joi_comm y x, neBB, ok_seq, okSlot, calm, mapL, j1, j2, j3, j4, add22, rep4, ne4, dd, eq2, com_self x hx, joi_self x]
end Q
end
section
set_option maxHeartbeats 1000000
namespace Q
open PySem PySem.Spec PyProof.Rows L2 Pv
theorem mulL {f i : Int} (h : f.natAbs < 2 ^ 64) : opBin .Mult (.int f) (.int i) = some (.int (f * i)) := by
  show (if mulOk f i then some (D.int (f * i)) else none) = _
  rw [if_pos]
  unfold mulOk
  rw [decide_eq_true h]
  rfl
theorem mulR {f i : Int} (h : i.natAbs < 2 ^ 64) : opBin .Mult (.int f) (.int i) = some (.int (f * i)) := by
  show (if mulOk f i then some (D.int (f * i)) else none) = _
  rw [if_pos]
  unfold mulOk
  rw [decide_eq_true h, Bool.or_true]
  rfl
theorem addI (a b : Int) : opBin .Add (.int a) (.int b) = some (.int (a + b)) := rfl
theorem subI (a b : Int) : opBin .Sub (.int a) (.int b) = some (.int (a - b)) := rfl
theorem gtI (a b : Int) : opCmp .Gt (.int a) (.int b) = some (decide (b < a)) := rfl
theorem isI (a : Int) : opCmp .Is (.int a) .non = some false := rfl
theorem isO : opCmp .Is .non .non = some true := rfl
theorem eqI (a b : Int) : opCmp .Eq (.int a) (.int b) = some (decide (a = b)) := by
  rw [cmpEq]
  show some (a == b) = _
  by_cases h : a = b <;> simp [h]
theorem pow29 : opBin .Pow (.int 10) (.int 29) = some (.int (10 ^ 29)) := rfl
theorem pow30 : opBin .Pow (.int 10) (.int 30) = some (.int (10 ^ 30)) := rfl
section
variable (s : Option Rg)
theorem f19 (x : Rv) (f p : Int) (hf : f.natAbs < 2 ^ 64) : F_19 [dR x, .int f, .int p] s = .ok (dR (stp x f p)) s := by
  have e : F_19 = runF G_19 0 ⟨[false, false, false], false⟩ ⟨6, ir_19⟩ := rfl
  rcases x with _ | ⟨a, b⟩
  · rfl
  · rw [e]
    rcases a with _ | a <;> rcases b with _ | b <;> by_cases h : 0 < f <;>
      simp [runF, exs, ex, ev, evs, callF, startE, getI, put, puts, ir_19, bind_def, truth, pure_s, isBox, dR, dB, isI, isO, gtI, mulL hf, addI, ok_seq, okSlot, calm, mapL, stp, sB, h, opCmp, isNon]
theorem f20 (x : Rv) (f p : Int) (hx : vR x = true) (hf : f.natAbs < 2 ^ 64) : F_20 [dR x, .int f, .int p] s = .ok (dR (stp x f p)) s := by
  have e : F_20 = runF G_20 0 ⟨[false, false, false], false⟩ ⟨3, ir_20⟩ := rfl
  have g5 : G_20.fns[5]? = some F_5 := rfl
  have g8 : G_20.fns[19]? = some F_19 := rfl
  rw [e]
  simp [runF, exs, ex, ev, evs, callF, startE, getI, put, ir_20, bind_def, g5, g8, f5 s x hx, f19 s x f p hf, truth, pure_s, isBox]
end
/-! the draws -/
def Good (k : Nat) (s : Option Rg) : Prop := ∃ r : Rg, s = some r ∧ 0 ≤ r.s ∧ r.s < 2 ^ 70 ∧ 0 ≤ r.t ∧ r.t + (k : Int) < 2 ^ 40
theorem Good.le {j k : Nat} {s : Option Rg} (h : Good k s) (l : j ≤ k) : Good j s := by
  obtain ⟨r, e, a, b, c, d⟩ := h
  exact ⟨r, e, a, b, c, by omega⟩
theorem draw_ok {k : Nat} {s : Option Rg} {n : Int} (h : Good (k + 1) s) (h0 : 0 < n) (h1 : n < 2 ^ 1000) : ∃ i s', drawF dk [.rng, .int n] s = .ok (.int i) s' ∧ 0 ≤ i ∧ i < n ∧ Good k s' := by
  obtain ⟨r, rfl, a, b, c, d⟩ := h
  have hc : 0 < n ∧ n < 2 ^ 1000 ∧ 0 ≤ r.s ∧ r.s < 2 ^ 70 ∧ 0 ≤ r.t ∧ r.t < 2 ^ 40 := ⟨h0, h1, a, b, c, by omega⟩
  by_cases hd : 0 < r.d
  · refine ⟨r.d % n, some ⟨r.d / n, r.s, r.t⟩, ?_, Int.emod_nonneg _ (by omega), Int.emod_lt_of_pos _ h0, ⟨_, rfl, a, b, c, by show r.t + (k : Int) < 2 ^ 40; omega⟩⟩
    show (match drawS dk n r with | some (i, s') => Res.ok (D.int i) (some s') | none => Res.bad) = _
    unfold drawS
    rw [if_pos hc, if_pos hd]
  · refine ⟨drawN dk r.s (r.t + 1) % n, some ⟨r.d, r.s, r.t + 1⟩, ?_, Int.emod_nonneg _ (by omega), Int.emod_lt_of_pos _ h0, ⟨_, rfl, a, b, by show 0 ≤ r.t + 1; omega, by show r.t + 1 + (k : Int) < 2 ^ 40; omega⟩⟩
    show (match drawS dk n r with | some (i, s') => Res.ok (D.int i) (some s') | none => Res.bad) = _
    unfold drawS
    rw [if_pos hc, if_neg hd]
theorem lt1000 {n : Int} (h : n < 2 ^ 200) : n < 2 ^ 1000 := Int.lt_trans h (by decide)
theorem idx3 {a b c : D} {i : Int} (h0 : 0 ≤ i) (h1 : i < 3) : ∃ z, opIdx (.lst [a, b, c]) (.int i) = some z ∧ (z = a ∨ z = b ∨ z = c) := by
  have : i = 0 ∨ i = 1 ∨ i = 2 := by omega
  rcases this with rfl | rfl | rfl
  · exact ⟨a, rfl, .inl rfl⟩
  · exact ⟨b, rfl, .inr (.inl rfl)⟩
  · exact ⟨c, rfl, .inr (.inr rfl)⟩
theorem idx2 {a b : D} {i : Int} (h0 : 0 ≤ i) (h1 : i < 2) : ∃ z, opIdx (.lst [a, b]) (.int i) = some z ∧ (z = a ∨ z = b) := by
  have : i = 0 ∨ i = 1 := by omega
  rcases this with rfl | rfl
  · exact ⟨a, rfl, .inl rfl⟩
  · exact ⟨b, rfl, .inr rfl⟩
theorem idx6 {i : Int} (h0 : 0 ≤ i) (h1 : i < 6) : ∃ f, opIdx (.lst [.int 1, .int 2, .int 3, .int (-1), .int (-2), .int (-3)]) (.int i) = some (.int f) ∧ isF f := by
  have : i = 0 ∨ i = 1 ∨ i = 2 ∨ i = 3 ∨ i = 4 ∨ i = 5 := by omega
  rcases this with rfl | rfl | rfl | rfl | rfl | rfl
  · exact ⟨1, rfl, .inl rfl⟩
  · exact ⟨2, rfl, .inr (.inl rfl)⟩
  · exact ⟨3, rfl, .inr (.inr (.inl rfl))⟩
  · exact ⟨-1, rfl, .inr (.inr (.inr (.inl rfl)))⟩
  · exact ⟨-2, rfl, .inr (.inr (.inr (.inr (.inl rfl))))⟩
  · exact ⟨-3, rfl, .inr (.inr (.inr (.inr (.inr rfl))))⟩
variable {k : Nat} {s : Option Rg}
theorem f2 {most : Int} (h : Good (k + 3) s) (h0 : 0 < most) (h1 : most ≤ 10 ^ 30) : ∃ b s', F_2 [.rng, .int most] s = .ok (dB b) s' ∧ Good k s' := by
  have e : F_2 = runF G_2 0 ⟨[false, false], false⟩ ⟨2, ir_2⟩ := rfl
  have g0 : G_2.fns[0]? = some (drawF dk) := rfl
  obtain ⟨i1, s1, d1, a1, b1, k1⟩ := draw_ok (k := k + 2) (n := 2 * most + 1) h (by omega) (lt1000 (by omega))
  obtain ⟨i2, s2, d2, a2, b2, k2⟩ := draw_ok (k := k + 1) (n := 5) k1 (by omega) (lt1000 (by omega))
  obtain ⟨i3, s3, d3, a3, b3, k3⟩ := draw_ok (k := k) (n := 3) k2 (by omega) (lt1000 (by omega))
  obtain ⟨z, e1, e2⟩ := idx3 (a := .non) (b := .int (i1 - most)) (c := .int (i2 - 2)) a3 b3
  have r : F_2 [.rng, .int most] s = .ok z s3 := by
    rw [e]
    have hb : isBox z = false := by rcases e2 with rfl | rfl | rfl <;> rfl
    simp [runF, exs, ex, ev, evs, callF, startE, getI, put, ir_2, bind_def, truth, pure_s, g0, d1, d2, d3, mulL, addI, subI, e1]
  rcases e2 with rfl | rfl | rfl
  · exact ⟨none, s3, r, k3⟩
  · exact ⟨some _, s3, r, k3⟩
  · exact ⟨some _, s3, r, k3⟩
theorem isB (x : Option Int) : opCmp .IsNot (dB x) .non = some (!decide (x = none)) := by cases x <;> rfl
theorem f3 {most : Int} (h : Good (k + 7) s) (h0 : 0 < most) (h1 : most ≤ 10 ^ 30) : ∃ r s', F_3 [.rng, .int most] s = .ok (dR r) s' ∧ vR r = true ∧ Good k s' := by
  have e : F_3 = runF G_3 0 ⟨[false, false], false⟩ ⟨4, ir_3⟩ := rfl
  have g0 : G_3.fns[0]? = some (drawF dk) := rfl
  have g2 : G_3.fns[2]? = some F_2 := rfl
  obtain ⟨i1, s1, d1, a1, b1, k1⟩ := draw_ok (k := k + 6) (n := 9) h (by omega) (lt1000 (by omega))
  rw [e]
  by_cases hi : i1 = 0
  · refine ⟨none, s1, ?_, rfl, k1.le (by omega)⟩
    simp [runF, exs, ex, ev, evs, callF, startE, getI, put, ir_3, bind_def, truth, pure_s, g0, d1, eqI, hi, dR]
  · obtain ⟨x, s2, d2, k2⟩ := f2 (k := k + 3) k1 h0 h1
    obtain ⟨y, s3, d3, k3⟩ := f2 (k := k) k2 h0 h1
    rcases x with _ | x
    · refine ⟨some (none, y), s3, ?_, rfl, k3⟩
      simp [runF, exs, ex, ev, evs, callF, startE, getI, put, puts, ir_3, bind_def, truth, pure_s, g0, g2, d1, d2, d3, eqI, hi, dR, isB]
    · rcases y with _ | y
      · refine ⟨some (some x, none), s3, ?_, rfl, k3⟩
        simp [runF, exs, ex, ev, evs, callF, startE, getI, put, puts, ir_3, bind_def, truth, pure_s, g0, g2, d1, d2, d3, eqI, hi, dR, isB]
      · by_cases hxy : y < x
        · refine ⟨some (some y, some x), s3, ?_, decide_eq_true (Int.le_of_lt hxy), k3⟩
          simp [runF, exs, ex, ev, evs, callF, startE, getI, put, puts, ir_3, bind_def, truth, pure_s, g0, g2, d1, d2, d3, eqI, hi, dR, isB]
          simp [dB, gtI, hxy, pure_s]
        · refine ⟨some (some x, some y), s3, ?_, decide_eq_true (by omega), k3⟩
          simp [runF, exs, ex, ev, evs, callF, startE, getI, put, puts, ir_3, bind_def, truth, pure_s, g0, g2, d1, d2, d3, eqI, hi, dR, isB]
          simp [dB, gtI, hxy, pure_s]
end Q
end
section
set_option maxHeartbeats 1000000
namespace Q
open PySem PySem.Spec PyProof.Rows L2 Pv
theorem isF_abs {f : Int} (h : isF f) : f.natAbs < 2 ^ 64 := by rcases h with rfl | rfl | rfl | rfl | rfl | rfl <;> decide
theorem isF_mul {f m : Int} (h : isF f) (h2 : isF m) : (f * m).natAbs < 2 ^ 64 := by rcases h with rfl | rfl | rfl | rfl | rfl | rfl <;> rcases h2 with rfl | rfl | rfl | rfl | rfl | rfl <;> decide
theorem stp_none (x : Rv) (f p : Int) : (stp x f p = none) = (x = none) := by cases x <;> simp [stp]
theorem exs_nx {Γ : Gm (Option Rg)} {N : Nat} {i : IS} {is : List IS} {env e1 : IEnv} {s s1 : Option Rg} (h : ex Γ N i env s = .ok (.nx e1) s1) : exs Γ N (i :: is) env s = exs Γ N is e1 s1 := by
  conv => lhs; unfold exs
  rw [bind_def, h]
theorem exs_ret {Γ : Gm (Option Rg)} {N : Nat} {i : IS} {is : List IS} {env : IEnv} {s s1 : Option Rg} {d : D} {b : Bool} (h : ex Γ N i env s = .ok (.ret d b) s1) : exs Γ N (i :: is) env s = .ok (.ret d b) s1 := by
  conv => lhs; unfold exs
  rw [bind_def, h]
  rfl
theorem run_ret {Γ : Gm (Option Rg)} {N n : Nat} {sg : Sig} {ir : List IS} {ds : List D} {s s1 : Option Rg} {d : D} {b : Bool} (hl : ds.length = sg.lend.length) (hf : sg.fr = false) (h : exs Γ N ir (startE n sg.lend ds) s = .ok (.ret d b) s1) : runF Γ N sg ⟨n, ir⟩ ds s = .ok d s1 := by
  unfold runF
  rw [if_pos hl, bind_def, h, hf]
  rfl
def S21 (j : Nat) : IS := ir_21.getD j .never
def E21 (x y : Rv) (f m p h : Int) : IEnv := [some (.rng, .frz), some (dR x, .frz), some (dR y, .frz), some (.int f, .frz), some (.int m, .frz), some (.int p, .frz), some (.int h, .frz), some (dR (stp x f p), .frz), some (dR (stp y f p), .frz)]
theorem f21 {k : Nat} {s : Option Rg} {x y : Rv} (h : Good (k + 5) s) (hx : vR x = true) (hy : vR y = true) : ∃ s', F_21 [.rng, dR x, dR y] s = .ok (.bl true) s' ∧ Good k s' := by
  have e : F_21 = runF G_21 0 ⟨[false, false, false], false⟩ ⟨9, ir_21⟩ := rfl
  have g0 : G_21.fns[0]? = some (drawF dk) := rfl
  have g9 : G_21.fns[9]? = some F_9 := rfl
  have g13 : G_21.fns[13]? = some F_13 := rfl
  have g17 : G_21.fns[17]? = some F_17 := rfl
  have g20 : G_21.fns[20]? = some F_20 := rfl
  obtain ⟨i1, s1, d1, a1, b1, k1⟩ := draw_ok (k := k + 4) (n := 6) h (by omega) (lt1000 (by omega))
  obtain ⟨i2, s2, d2, a2, b2, k2⟩ := draw_ok (k := k + 3) (n := 6) k1 (by omega) (lt1000 (by omega))
  obtain ⟨i3, s3, d3, a3, b3, k3⟩ := draw_ok (k := k + 2) (n := 19) k2 (by omega) (lt1000 (by omega))
  obtain ⟨i4, s4, d4, a4, b4, k4⟩ := draw_ok (k := k + 1) (n := 19) k3 (by omega) (lt1000 (by omega))
  obtain ⟨i5, s5, d5, a5, b5, k5⟩ := draw_ok (k := k) (n := 2) k4 (by omega) (lt1000 (by omega))
  obtain ⟨f, z1, hf⟩ := idx6 a1 b1
  obtain ⟨m, z2, hm⟩ := idx6 a2 b2
  obtain ⟨hh, z3⟩ : ∃ hh : Int, opIdx (.lst [.int (i4 - 9), .int (10 ^ 29)]) (.int i5) = some (.int hh) := by
    obtain ⟨z, z3, z4⟩ := idx2 (a := .int (i4 - 9)) (b := .int (10 ^ 29)) a5 b5
    rcases z4 with rfl | rfl
    · exact ⟨_, z3⟩
    · exact ⟨_, z3⟩
  have vx := v_stp x f (i3 - 9) hx hf
  have vy := v_stp y f (i3 - 9) hy hf
  have vb := v_stp x (-1) hh hx (.inr (.inr (.inr (.inl rfl))))
  have e1 := stp_com x y f (i3 - 9) hx hy hf
  have e2 := stp_joi x y f (i3 - 9) hf
  have e3 := stp_stp x f (i3 - 9) m hh hf hm
  have e4 := stp_back x hh
  have e5 := stp_one x
  have n1 : (com (stp x f (i3 - 9)) (stp y f (i3 - 9)) = none) = (com x y = none) := by rw [← e1, stp_none]
  have af := isF_abs hf
  have am := isF_abs hm
  have afm := isF_mul hf hm
  refine ⟨s5, ?_, k5⟩
  have t1 : ex G_21 0 (S21 0) [some (.rng, .frz), some (dR x, .frz), some (dR y, .frz), none, none, none, none, none, none] s = .ok (.nx [some (.rng, .frz), some (dR x, .frz), some (dR y, .frz), some (.int f, .frz), some (.int m, .frz), none, none, none, none]) s2 := by
    simp [S21, ir_21, ex, ev, evs, callF, getI, put, puts, bind_def, pure_s, g0, d1, d2, z1, z2]
  have t2 : ex G_21 0 (S21 1) [some (.rng, .frz), some (dR x, .frz), some (dR y, .frz), some (.int f, .frz), some (.int m, .frz), none, none, none, none] s2 = .ok (.nx [some (.rng, .frz), some (dR x, .frz), some (dR y, .frz), some (.int f, .frz), some (.int m, .frz), some (.int (i3 - 9), .frz), some (.int hh, .frz), none, none]) s5 := by
    simp [-Int.reducePow, S21, ir_21, ex, ev, evs, callF, getI, put, puts, bind_def, pure_s, g0, d3, d4, d5, subI, pow29, z3]
  have t3 : ex G_21 0 (S21 2) [some (.rng, .frz), some (dR x, .frz), some (dR y, .frz), some (.int f, .frz), some (.int m, .frz), some (.int (i3 - 9), .frz), some (.int hh, .frz), none, none] s5 = .ok (.nx (E21 x y f m (i3 - 9) hh)) s5 := by
    simp [E21, S21, ir_21, ex, ev, evs, callF, getI, put, puts, bind_def, pure_s, g20, f20 s5 x f (i3 - 9) hx af, f20 s5 y f (i3 - 9) hy af]
  have t4 : ex G_21 0 (S21 3) (E21 x y f m (i3 - 9) hh) s5 = .ok (.nx (E21 x y f m (i3 - 9) hh)) s5 := by
    simp [E21, S21, ir_21, exs, ex, ev, evs, callF, getI, bind_def, pure_s, truth, g20, g9, f9 s5 x y hx hy, f20 s5 (com x y) f (i3 - 9) (v_com x y) af, f9 s5 _ _ vx vy, neR, e1]
  have t5 : ex G_21 0 (S21 4) (E21 x y f m (i3 - 9) hh) s5 = .ok (.nx (E21 x y f m (i3 - 9) hh)) s5 := by
    simp [E21, S21, ir_21, exs, ex, ev, evs, callF, getI, bind_def, pure_s, truth, g20, g13, g17, neR, f13 s5 x y hx hy, f20 s5 (joi x y) f (i3 - 9) (v_joi x y hx hy) af, f13 s5 _ _ vx vy, e2, f17 s5 _ _ vx vy, f17 s5 x y hx hy, n1, neBB]
  have t6 : ex G_21 0 (S21 5) (E21 x y f m (i3 - 9) hh) s5 = .ok (.nx (E21 x y f m (i3 - 9) hh)) s5 := by
    simp [E21, S21, ir_21, exs, ex, ev, evs, callF, getI, bind_def, pure_s, truth, g20, neR, f20 s5 _ m hh vx am, mulL af, mulR am, addI, f20 s5 x (f * m) ((i3 - 9) * m + hh) hx afm, e3]
  have t7 : ∃ b, ex G_21 0 (S21 6) (E21 x y f m (i3 - 9) hh) s5 = .ok (.ret (.bl true) b) s5 := by
    refine ⟨decide (md (match S21 6 with | .ret e => e | _ => .cst .non) = .fr), ?_⟩
    simp [E21, S21, ir_21, exs, ex, ev, evs, callF, getI, bind_def, pure_s, truth, g20, f20 s5 x (-1) hh hx (by decide), f20 s5 _ (-1) hh vb (by decide), e4, f20 s5 x 1 0 hx (by decide), e5, eqR]
  obtain ⟨b, t7⟩ := t7
  have hir : ir_21 = [S21 0, S21 1, S21 2, S21 3, S21 4, S21 5, S21 6] := rfl
  have hs : startE 9 [false, false, false] [.rng, dR x, dR y] = [some (.rng, .frz), some (dR x, .frz), some (dR y, .frz), none, none, none, none, none, none] := rfl
  have hx : exs G_21 0 ir_21 (startE 9 [false, false, false] [.rng, dR x, dR y]) s = .ok (.ret (.bl true) b) s5 := by
    rw [hir, hs, exs_nx t1, exs_nx t2, exs_nx t3, exs_nx t4, exs_nx t5, exs_nx t6, exs_ret t7]
  rw [e]
  exact run_ret rfl rfl hx
end Q
end
section
set_option maxHeartbeats 1000000
namespace Q
open PySem PySem.Spec PyProof.Rows L2 Pv
theorem pow18 : opBin .Pow (.int 10) (.int 18) = some (.int (10 ^ 18)) := rfl
theorem pow60 : opBin .Pow (.int 10) (.int 60) = some (.int (10 ^ 60)) := rfl
theorem modI {a b : Int} (h : 0 < b) : opBin .Mod (.int a) (.int b) = some (.int (a % b)) := by
  show (if 0 < b then some (D.int (a % b)) else none) = _
  rw [if_pos h]
theorem m60 (a : Int) : opBin .Mod (.int a) (.int (10 ^ 60)) = some (.int (a % 10 ^ 60)) := modI (by decide)
theorem geI (a b : Int) : opCmp .GtE (.int a) (.int b) = some (decide (b ≤ a)) := rfl
/-- one turn -/
def rngBody : List IS := match ir_1 with
  | [_, .forL _ _ _ b, _] => b
  | _ => []
theorem mulB {d : Int} {k : Nat} (h0 : 0 ≤ d) (h : d < 2 ^ (200 * k)) (hk : k ≤ 63) : opBin .Mult (.int d) (.int (10 ^ 60)) = some (.int (d * 10 ^ 60)) := by
  show (if mulOk d (10 ^ 60) then some (D.int (d * 10 ^ 60)) else none) = _
  rw [if_pos]
  unfold mulOk
  have l : d.natAbs.log2 + ((10 : Int) ^ 60).natAbs.log2 < 1000000 := by
    have e2 : ((10 : Int) ^ 60).natAbs.log2 = 199 := by decide +kernel
    rw [e2]
    by_cases hd : d.natAbs = 0
    · rw [hd]
      decide
    · have hz : d.natAbs < 2 ^ (200 * k) := by
        have e : ((2 : Int) ^ (200 * k)) = ((2 ^ (200 * k) : Nat) : Int) := by norm_cast
        rw [e] at h
        omega
      have := (Nat.log2_lt hd).mpr hz
      omega
  rw [decide_eq_true l, Bool.or_true]
def absI (n : Int) : Int := if n < 0 then -n else n
theorem absE (n : Int) : opBi .abs [.int n] = some (.int (absI n)) := rfl
theorem intE (n : Int) : opBi .int [.int n] = some (.int n) := rfl
def stepD (n d : Int) : Int := if (10 : Int) ^ 18 ≤ absI n then d * 10 ^ 60 + absI n % 10 ^ 60 else d
def stepS (n s : Int) : Int := (s * 1000003 + n % 2305843009213693921 + 7) % 2305843009213693951
variable (st : Option Rg)
theorem rng_turn {a : D} {n d s : Int} {k : Nat} (z : Option (D × Fl)) (o : Option (D × Fl)) (h0 : 0 ≤ d) (h : d < 2 ^ (200 * k)) (hk : k ≤ 63) :
    exs G_1 0 rngBody (put [some (a, .frz), some (.int d, .frz), some (.int s, .frz), o, z] 3 (.int n) .frz) st = .ok (.nx [some (a, .frz), some (.int (stepD n d), .frz), some (.int (stepS n s), .frz), some (.int n, .frz), some (.int (absI n), .frz)]) st := by
  by_cases hn : (10 : Int) ^ 18 ≤ absI n
  · have e : stepD n d = d * 10 ^ 60 + absI n % 10 ^ 60 := if_pos hn
    rw [e]
    simp [-Int.reducePow, rngBody, ir_1, exs, ex, ev, evs, getI, put, bind_def, truth, pure_s, absE, intE, geI, pow18, pow60, mulB h0 h hk, modI, m60, addI, mulR, stepS, hn]
    done
  · have e : stepD n d = d := if_neg hn
    rw [e]
    simp [-Int.reducePow, rngBody, ir_1, exs, ex, ev, evs, getI, put, bind_def, truth, pure_s, absE, intE, geI, pow18, pow60, mulB h0 h hk, modI, m60, addI, mulR, stepS, hn]
    done
theorem stepD_b {n d : Int} {k : Nat} (h0 : 0 ≤ d) (h : d < 2 ^ (200 * k)) : 0 ≤ stepD n d ∧ stepD n d < 2 ^ (200 * (k + 1)) := by
  have p : (2 : Int) ^ (200 * (k + 1)) = 2 ^ (200 * k) * 2 ^ 200 := by rw [Nat.mul_add, Int.pow_add]
  have q : (0 : Int) < 2 ^ (200 * k) := Int.pow_pos (by decide)
  rw [p]
  have m0 := Int.emod_nonneg (absI n) (show (10 : Int) ^ 60 ≠ 0 by decide)
  have m1 := Int.emod_lt_of_pos (absI n) (show (0 : Int) < 10 ^ 60 by decide)
  generalize (2 : Int) ^ (200 * k) = P at *
  unfold stepD
  split
  · generalize absI n % 10 ^ 60 = m at *
    constructor
    · omega
    · omega
  · omega
theorem stepS_b (n s : Int) : 0 ≤ stepS n s ∧ stepS n s < 2 ^ 61 := by
  unfold stepS
  have := Int.emod_nonneg (s * 1000003 + n % 2305843009213693921 + 7) (show (2305843009213693951 : Int) ≠ 0 by decide)
  have := Int.emod_lt_of_pos (s * 1000003 + n % 2305843009213693921 + 7) (show (0 : Int) < 2305843009213693951 by decide)
  omega
theorem rng_loop {a : D} : ∀ (ns : List Int) (d s : Int) (k : Nat) (z o : Option (D × Fl)), 0 ≤ d → d < 2 ^ (200 * k) → ns.length + k ≤ 63 → 0 ≤ s → s < 2 ^ 61 →
    ∃ d' s' z' o', forD (fun d e => exs G_1 0 rngBody (put e 3 d .frz)) (ns.map D.int) [some (a, .frz), some (.int d, .frz), some (.int s, .frz), o, z] st = .ok (.nx [some (a, .frz), some (.int d', .frz), some (.int s', .frz), o', z']) st ∧ 0 ≤ s' ∧ s' < 2 ^ 61
  | [], d, s, k, z, o, h0, h, hk, s0, s1 => ⟨d, s, z, o, rfl, s0, s1⟩
  | n :: ns, d, s, k, z, o, h0, h, hk, s0, s1 => by
    have hk2 : (ns.length + 1) + k ≤ 63 := hk
    have t := rng_turn st (a := a) (n := n) (d := d) (s := s) (k := k) z o h0 h (by omega)
    obtain ⟨b0, b1⟩ := stepD_b (n := n) h0 h
    obtain ⟨c0, c1⟩ := stepS_b n s
    obtain ⟨d', s', z', o', e, e1, e2⟩ := rng_loop ns (stepD n d) (stepS n s) (k + 1) (some (.int (absI n), .frz)) (some (.int n, .frz)) b0 b1 (by omega) c0 c1
    refine ⟨d', s', z', o', ?_, e1, e2⟩
    show (exs G_1 0 rngBody (put _ 3 (.int n) .frz) >>= _) st = _
    rw [bind_def, t]
    exact e
theorem cut63 (ns : List Int) (h : ns.length ≤ 63) : Pv.cutD ns none (some 63) = ns := by
  show (List.drop 0 ns).take ((if (63 : Int) < 0 then ((63 : Int) + (ns.length : Int)).toNat else min (63 : Int).toNat ns.length) - 0) = ns
  have e : min (63 : Int).toNat ns.length = ns.length := Nat.min_eq_right h
  rw [if_neg (by decide), List.drop_zero, Nat.sub_zero, e, List.take_length]
theorem f1 (ns : List Int) (h : ns.length ≤ 63) : ∃ d s, F_1 [.scr ns] st = .ok (.lst [.int d, .int s, .int 0]) st ∧ 0 ≤ s ∧ s < 2 ^ 61 := by
  have e : F_1 = runF G_1 0 ⟨[false], true⟩ ⟨5, ir_1⟩ := rfl
  obtain ⟨d, s, z, o, e1, e2, e3⟩ := rng_loop st (a := .scr ns) ns 0 88675123 0 none none (by decide) (by decide) (by omega) (by decide) (by decide)
  refine ⟨d, s, ?_, e2, e3⟩
  have sl : opSl (.scr ns) none (some 63) = some (.lst (ns.map D.int)) := by
    show (if ns.length ≤ sizeLine then some (D.lst ((Pv.cutD ns none (some 63)).map D.int)) else none) = _
    rw [cut63 ns h, if_pos (Nat.le_trans h (by decide))]
  have sq : seqOf (.lst (ns.map D.int)) = some (ns.map D.int) := rfl
  have hir : ir_1 = [.unp [1, 2] (.tup [(.cst (.int 0)), (.cst (.int 88675123))]), .forL 3 (.slc false true (.var 0) (.cst .non) (.cst (.int 63))) none rngBody, .ret (.lst [(.var 1), (.var 2), (.cst (.int 0))])] := rfl
  simp only [put] at e1
  rw [e]
  unfold runF
  simp only [hir]
  simp [-Int.reducePow, exs, ex, evs, ev, evPart, startE, getI, put, puts, bind_def, pure_s, holdOn, holdOff, sl, sq, e1, md, isBox]
end Q
end
section
set_option maxHeartbeats 1000000
namespace Q
open PySem PySem.Spec PyProof.Rows L2 Pv
abbrev Ob := Option (D × Fl)
def lawF (ns : List Int) (o2 o3 o4 o5 o6 o8 o9 : Ob) : IEnv := [some (.scr ns, .frz), some (.rng, .frz), o2, o3, o4, o5, o6, none, o8, o9]
def lawB : List IS := match lawIr with
  | [.forR _ _ _ b, _] => b
  | _ => []
def B (j : Nat) : IS := lawB.getD j .never
theorem seq3 (a b c : D) : seqOf (.lst [a, b, c]) = some [a, b, c] := rfl
theorem rng03 : rngL 0 3 = [.int 0, .int 1, .int 2] := rfl
theorem of03 : rngOf (.int 0) (.int 3) = some (0, 3) := rfl
theorem lap {k : Nat} {s : Option Rg} {ns : List Int} {l : Int} (o3 o4 o5 o6 o8 o9 : Ob) (h : Good (k + 27) s) : ∃ p3 p4 p5 p6 p8 p9 s', exs G_22 0 lawB (lawF ns (some (.int l, .frz)) o3 o4 o5 o6 o8 o9) s = .ok (.nx (lawF ns (some (.int l, .frz)) p3 p4 p5 p6 p8 p9)) s' ∧ Good k s' := by
  have g0 : G_22.fns[0]? = some (drawF dk) := rfl
  have g3 : G_22.fns[3]? = some F_3 := rfl
  have g9 : G_22.fns[9]? = some F_9 := rfl
  have g13 : G_22.fns[13]? = some F_13 := rfl
  have g15 : G_22.fns[15]? = some F_15 := rfl
  have g18 : G_22.fns[18]? = some F_18 := rfl
  have g21 : G_22.fns[21]? = some F_21 := rfl
  obtain ⟨i, s1, d1, a1, b1, k1⟩ := draw_ok (k := k + 26) (n := 3) h (by omega) (lt1000 (by omega))
  obtain ⟨most, z1, m0, m1⟩ : ∃ most : Int, opIdx (.lst [.int 3, .int 20, .int (10 ^ 30)]) (.int i) = some (.int most) ∧ 0 < most ∧ most ≤ 10 ^ 30 := by
    obtain ⟨z, e1, e2⟩ := idx3 (a := .int 3) (b := .int 20) (c := .int (10 ^ 30)) a1 b1
    rcases e2 with rfl | rfl | rfl
    · exact ⟨3, e1, by decide, by decide⟩
    · exact ⟨20, e1, by decide, by decide⟩
    · exact ⟨10 ^ 30, e1, by decide, by decide⟩
  obtain ⟨x, s2, d2, vx, k2⟩ := f3 (k := k + 19) k1 m0 m1
  obtain ⟨y, s3, d3, vy, k3⟩ := f3 (k := k + 12) k2 m0 m1
  obtain ⟨z, s4, d4, vz, k4⟩ := f3 (k := k + 5) k3 m0 m1
  obtain ⟨s5, d5, k5⟩ := f21 (k := k) k4 vx vy
  have t0 : ex G_22 0 (B 0) (lawF ns (some (.int l, .frz)) o3 o4 o5 o6 o8 o9) s = .ok (.nx (lawF ns (some (.int l, .frz)) (some (.int most, .frz)) o4 o5 o6 o8 o9)) s1 := by
    simp [-Int.reducePow, B, lawB, lawIr, lawF, ex, ev, evs, callF, getI, put, bind_def, pure_s, g0, d1, z1, pow30]
  have t1 : ex G_22 0 (B 1) (lawF ns (some (.int l, .frz)) (some (.int most, .frz)) o4 o5 o6 o8 o9) s1 = .ok (.nx (lawF ns (some (.int l, .frz)) (some (.int most, .frz)) (some (dR x, .frz)) (some (dR y, .frz)) (some (dR z, .frz)) o8 o9)) s4 := by
    simp [B, lawB, lawIr, lawF, ex, ev, evs, callF, getI, put, puts, bind_def, pure_s, truth, g3, d2, d3, d4, of03, rng03, okSlot, calm, filtL]
  have t2 : ex G_22 0 (B 2) (lawF ns (some (.int l, .frz)) (some (.int most, .frz)) (some (dR x, .frz)) (some (dR y, .frz)) (some (dR z, .frz)) o8 o9) s4 = .ok (.nx (lawF ns (some (.int l, .frz)) (some (.int most, .frz)) (some (dR x, .frz)) (some (dR y, .frz)) (some (dR z, .frz)) o8 o9)) s5 := by
    simp [B, lawB, lawIr, lawF, exs, ex, ev, evs, callF, getI, put, puts, bind_def, pure_s, truth, g18, g21, f18 s4 x y vx vy, f18 s4 y z vy vz, d5]
  have t3 : ex G_22 0 (B 3) (lawF ns (some (.int l, .frz)) (some (.int most, .frz)) (some (dR x, .frz)) (some (dR y, .frz)) (some (dR z, .frz)) o8 o9) s5 = .ok (.nx (lawF ns (some (.int l, .frz)) (some (.int most, .frz)) (some (dR x, .frz)) (some (dR y, .frz)) (some (dR z, .frz)) (some (dR (com (com x y) z), .frz)) (some (dR (joi (joi x y) z), .frz)))) s5 := by
    simp [B, lawB, lawIr, lawF, exs, ex, ev, evs, callF, getI, put, puts, bind_def, pure_s, truth, g9, g13, f9 s5 x y vx vy, f9 s5 _ z (v_com x y) vz, f13 s5 x y vx vy, f13 s5 _ z (v_joi x y vx vy) vz]
  have t4 : ex G_22 0 (B 4) (lawF ns (some (.int l, .frz)) (some (.int most, .frz)) (some (dR x, .frz)) (some (dR y, .frz)) (some (dR z, .frz)) (some (dR (com (com x y) z), .frz)) (some (dR (joi (joi x y) z), .frz))) s5 = .ok (.nx (lawF ns (some (.int l, .frz)) (some (.int most, .frz)) (some (dR x, .frz)) (some (dR y, .frz)) (some (dR z, .frz)) (some (dR (com (com x y) z), .frz)) (some (dR (joi (joi x y) z), .frz)))) s5 := by
    have q1 := com_assoc x y z
    have q2 := joi_turn x z y
    simp [B, lawB, lawIr, lawF, exs, ex, ev, evs, callF, getI, put, puts, bind_def, pure_s, truth, g9, g13, f9 s5 y z vy vz, f9 s5 x _ vx (v_com y z), f13 s5 x z vx vz, f13 s5 _ y (v_joi x z vx vz) vy, neR, q1, q2]
  have t5 : ex G_22 0 (B 5) (lawF ns (some (.int l, .frz)) (some (.int most, .frz)) (some (dR x, .frz)) (some (dR y, .frz)) (some (dR z, .frz)) (some (dR (com (com x y) z), .frz)) (some (dR (joi (joi x y) z), .frz))) s5 = .ok (.nx (lawF ns (some (.int l, .frz)) (some (.int most, .frz)) (some (dR x, .frz)) (some (dR y, .frz)) (some (dR z, .frz)) (some (dR (com (com x y) z), .frz)) (some (dR (joi (joi x y) z), .frz)))) s5 := by
    by_cases w1 : joi x y = y
    · by_cases w2 : joi y z = z
      · have w3 := within_trans x y z w1 w2
        simp [B, lawB, lawIr, lawF, exs, ex, ev, evs, callF, getI, put, puts, bind_def, pure_s, truth, g15, f15 s5 x y vx vy, f15 s5 y z vy vz, f15 s5 x z vx vz, w1, w2, w3]
      · simp [B, lawB, lawIr, lawF, exs, ex, ev, evs, callF, getI, put, puts, bind_def, pure_s, truth, g15, f15 s5 x y vx vy, f15 s5 y z vy vz, f15 s5 x z vx vz, w1, w2]
    · simp [B, lawB, lawIr, lawF, exs, ex, ev, evs, callF, getI, put, puts, bind_def, pure_s, truth, g15, f15 s5 x y vx vy, f15 s5 y z vy vz, f15 s5 x z vx vz, w1]
  have hir : lawB = [B 0, B 1, B 2, B 3, B 4, B 5] := rfl
  refine ⟨some (.int most, .frz), some (dR x, .frz), some (dR y, .frz), some (dR z, .frz), some (dR (com (com x y) z), .frz), some (dR (joi (joi x y) z), .frz), s5, ?_, k5⟩
  rw [hir, exs_nx t0, exs_nx t1, exs_nx t2, exs_nx t3, exs_nx t4, exs_nx t5]
  rfl
theorem laps {ns : List Int} : ∀ (ls : List Int) (k : Nat) (s : Option Rg) (o2 o3 o4 o5 o6 o8 o9 : Ob), Good (k + 27 * ls.length) s →
    ∃ e s', forD (fun d e => exs G_22 0 lawB (put e 2 d .frz)) (ls.map D.int) (lawF ns o2 o3 o4 o5 o6 o8 o9) s = .ok (.nx e) s'
  | [], k, s, o2, o3, o4, o5, o6, o8, o9, h => ⟨_, s, rfl⟩
  | l :: ls, k, s, o2, o3, o4, o5, o6, o8, o9, h => by
    obtain ⟨p3, p4, p5, p6, p8, p9, s1, e1, k1⟩ := lap (ns := ns) (l := l) (k := k + 27 * ls.length) o3 o4 o5 o6 o8 o9 (h.le (by rw [List.length_cons]; omega))
    obtain ⟨e, s2, e2⟩ := laps (ns := ns) ls k s1 (some (.int l, .frz)) p3 p4 p5 p6 p8 p9 k1
    refine ⟨e, s2, ?_⟩
    show (exs G_22 0 lawB (lawF ns (some (.int l, .frz)) o3 o4 o5 o6 o8 o9) >>= _) s = _
    rw [bind_def, e1]
    exact e2
theorem plain : Plain := fun ns hl => by
  obtain ⟨d, s, e1, s0, s1⟩ := f1 none ns hl
  refine ⟨F_1, d, s, rfl, e1, 0, false, ?_⟩
  have hb : 0 ≤ (if (ns.length : Int) < 30 then (ns.length : Int) else 30) ∧ (if (ns.length : Int) < 30 then (ns.length : Int) else 30) ≤ 30 := by
    split <;> omega
  generalize hm : (if (ns.length : Int) < 30 then (ns.length : Int) else 30) = m at hb
  have hr : rngL 0 (30 + m) = ((List.range (30 + m - 0).toNat).map fun i => (0 : Int) + (i : Nat)).map D.int := by
    unfold rngL
    rw [List.map_map]
    rfl
  obtain ⟨e, s2, e2⟩ := laps (ns := ns) ((List.range (30 + m - 0).toNat).map fun i => (0 : Int) + (i : Nat)) 0 (some ⟨d, s, 0⟩) none none none none none none none
    ⟨_, rfl, s0, Int.lt_trans s1 (by decide), Int.le_refl 0, by
      rw [List.length_map, List.length_range]
      show (0 : Int) + ((0 + 27 * (30 + m - 0).toNat : Nat) : Int) < 2 ^ 40
      omega⟩
  rw [← hr] at e2
  have hl0 : lawE lawN.length ns = lawF ns none none none none none none none := rfl
  have ho : lawIr = [.forR 2 none (.bin .Add (.cst (.int 30)) (.bi .min [(.cst (.int 30)), (.bi .len [(.var 0)])])) lawB, .ret (.cst (.bl true))] := rfl
  have hlen : opBi .len [.scr ns] = some (.int ns.length) := rfl
  have hmin : opBi .min [.int 30, .int ns.length] = some (.int m) := by rw [← hm]; rfl
  have t1 : ex G_22 0 (.forR 2 none (.bin .Add (.cst (.int 30)) (.bi .min [(.cst (.int 30)), (.bi .len [(.var 0)])])) lawB) (lawF ns none none none none none none none) (some ⟨d, s, 0⟩) = .ok (.nx e) s2 := by
    have g : getI (lawF ns none none none none none none none) 0 = some (.scr ns, .frz) := rfl
    have c1 : -(2 ^ 62) ≤ (0 : Int) ∧ (0 : Int) < 2 ^ 62 ∧ -(2 ^ 62) ≤ 30 + m ∧ 30 + m < 2 ^ 62 := by omega
    simp only [ex, ev, evs, g, bind_def, pure_s, hlen, hmin, opt_some, addI]
    rw [if_pos c1]
    exact e2
  refine ⟨s2, ?_⟩
  rw [gL, hl0, ho, exs_nx t1]
  rfl
end Q
end
theorem PySem.Challenge.cw_tightranges_k10_whole_ranges_holds : PySem.Challenge.rw_tightranges_k10_whole_ranges.Holds := by
  exact holds_of Q.plain
