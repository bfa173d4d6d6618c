import PyProof.Rows.All
import Wide.All
import OpenK.AllK
import Wide.FinOn
import HandS.ForExc
import HandS.Lambda
import HandS.TupAny
import HandS.TupMul
import HandS.Wide
import HandS.Flow
import HandS.Style
import HandS.IsInst
import HandS.Text
import HandS.Iter
import HandS.Zip
import HandS.Comp
import HandS.Deep
import HandS.RaiseMore
import HandS.Conv
import PyProof.ReprRoads
import KE.KExcSuper
import HandS.ExcField
import HandS.ExcIs
import HandS.Ends
import HandS.HeadWalk
import HandS.Defaults
import HandS.EndTab
import HandS.StrSplit
import HandS.HeadHook4
import HandS.Head2
import PySem.Challenge.RW_noshortbeat_k00_fractions_reckon_as_pair
import KE.KStateDown
import HandS.Codes
set_option Elab.async false
set_option linter.all false
set_option maxRecDepth 100000
set_option maxHeartbeats 2000000
set_option autoImplicit false
/-! Pv1: plain values, what they stand for in the heap, readings by functions of plain values. -/
namespace Pv
open PySem PySem.Spec PyProof.Rows L2

inductive PV where
  | non | bl (b : Bool) | int (i : Int) | str (x : Str) | tup (xs : List PV) | lst (xs : List PV) | rol (xs : List PV) | own (xs : List PV) | ref (n : Nat) | exc (c : Nat) (v : PV)

abbrev Mem := List (List PV)
abbrev Ev := List (Option PV)
inductive Res (α : Type) where
  | ok (a : α) (m : Mem) | exc (c : Nat) (v : PV) (m : Mem) | bad
def Res.bind {α β : Type} (r : Res α) (f : α → Mem → Res β) : Res β := match r with
  | .ok a m => f a m
  | .exc c v m => .exc c v m
  | .bad => .bad
theorem Res.bind_ok {α β : Type} (a : α) (m : Mem) (f : α → Mem → Res β) : (Res.ok a m).bind f = f a m := rfl
theorem Res.bind_exc {α β : Type} (c : Nat) (v : PV) (m : Mem) (f : α → Mem → Res β) : (Res.exc c v m).bind f = Res.exc c v m := rfl
theorem Res.bind_bad {α β : Type} (f : α → Mem → Res β) : (Res.bad : Res α).bind f = Res.bad := rfl

/-- what is fixed in a law: tables of code objects, error classes by number -/
structure Gc where
  T : List (Addr × Str)
  ca : Nat → Addr
/-- frozen lists, the lists of the memory by number, the heap -/
structure Wd where
  F : Addr → Prop
  ρ : List Addr
  H : Hp
abbrev valueS : Str := "value"
/-- a caught error at a, its class, its dict -/
def ExV (cls : Value) (d a : Addr) : HO := .ext fun h => ∃ (oe : Obj) (vs : Array Value), h.get? a = some oe ∧ oe.cls = cls ∧ oe.dict = some d ∧ oe.data = .fields vs
/-- a list of the written part -/
def KL (K : PySem.W.Frag) (a : Addr) (xs : List V) : Prop :=
  ∃ (o : Obj) (its : Array Value) (n : Nat), K.lookup a = some o ∧ o.cls = .type "list" ∧ o.dict = none ∧ o.data = .seq its n ∧ its.size ≤ sizeLine ∧ Vals xs its.toList
/-- a list that the program only reads: the script, one of the written part -/
def RoL (K : PySem.W.Frag) (w : Wd) (a : Addr) (vs : List V) : Prop := (∃ o, w.H a = some (.frz o (.lst vs))) ∨ KL K a vs
theorem RoL.seq {K : PySem.W.Frag} {w : Wd} {a : Addr} {vs : List V} (h : RoL K w a vs) : SqL K w.H a vs := by
  rcases h with ⟨o, h⟩ | h
  · exact .inl (.inr ⟨o, h⟩)
  · exact .inr h
mutual
def RV (K : PySem.W.Frag) (G : Gc) (w : Wd) : PV → V → Prop
  | .non, v => v = .non
  | .bl b, v => v = .bl b
  | .int i, v => v = .int i
  | .str x, v => v = .str x
  | .tup xs, v => ∃ a vs, v = .ref a ∧ SqT K w.H a vs ∧ RVs K G w xs vs
  | .lst xs, v => ∃ a vs, v = .ref a ∧ (w.F a ∧ w.H a = some (.lst vs)) ∧ RVs K G w xs vs
  | .rol xs, v => ∃ a vs, v = .ref a ∧ RoL K w a vs ∧ RVs K G w xs vs
  | .own _, _ => False
  | .ref n, v => ∃ a, v = .ref a ∧ w.ρ[n]? = some a
  | .exc c x, v => ∃ a d y, v = .ref a ∧ w.H a = some (ExV (.ref (G.ca c)) d a) ∧ w.H d = some (.xd [(valueS, y)]) ∧ RV K G w x y
def RVs (K : PySem.W.Frag) (G : Gc) (w : Wd) : List PV → List V → Prop
  | [], vs => vs = []
  | x :: xs, vs => ∃ v r, vs = v :: r ∧ RV K G w x v ∧ RVs K G w xs r
end
/-- no list stands there -/
def NL (w : Wd) (a : Addr) : Prop := ∀ vs, w.H a ≠ some (.lst vs)
/-- from one state to a later one; lists that are not frozen may have changed -/
structure Ext (w w' : Wd) : Prop where
  keep : ∀ a o, w.H a = some o → a ∉ w.ρ → (∀ vs, o = .lst vs → w.F a) → (∀ ps, o ≠ .tbl ps) → w'.H a = some o
  fz : ∀ a, w.F a → w'.F a
  rh : ∃ l, w'.ρ = w.ρ ++ l
  there : ∀ a vs, w.H a = some (.lst vs) → ∃ us, w'.H a = some (.lst us)
/-- a list that somebody owns -/
structure OwnL (w : Wd) (a : Addr) (vs : List V) : Prop where
  at_ : w.H a = some (.lst vs)
  nf : ¬ w.F a
  nr : a ∉ w.ρ
/-- .. and no list that was there and owned has changed -/
structure ExtE (w w' : Wd) : Prop extends Ext w w' where
  own : ∀ a vs, OwnL w a vs → OwnL w' a vs
structure RM (K : PySem.W.Frag) (G : Gc) (w : Wd) (m : Mem) : Prop where
  len : w.ρ.length = m.length
  nd : w.ρ.Nodup
  at_ : ∀ (n : Nat) (a : Addr) (xs : List PV), w.ρ[n]? = some a → m[n]? = some xs → ∃ vs, w.H a = some (.lst vs) ∧ RVs K G w xs vs
  nf : ∀ a ∈ w.ρ, ¬ w.F a
  fl : ∀ a, w.F a → ∃ vs, w.H a = some (.lst vs)
  tabs : LamX.Tabs G.T w.H
theorem RM.lst {K : PySem.W.Frag} {G : Gc} {w : Wd} {m : Mem} (R : RM K G w m) {a : Addr} (h : a ∈ w.ρ) : ∃ vs, w.H a = some (.lst vs) := by
  obtain ⟨n, hn, e⟩ := List.mem_iff_getElem.mp h
  have h2 : n < m.length := by rw [← R.len]; exact hn
  obtain ⟨vs, e1, _⟩ := R.at_ n a m[n] (by rw [List.getElem?_eq_getElem hn, e]) (List.getElem?_eq_getElem h2)
  exact ⟨vs, e1⟩
theorem RM.out {K : PySem.W.Frag} {G : Gc} {w : Wd} {m : Mem} (R : RM K G w m) {a : Addr} {o : HO} (h : w.H a = some o) (hn : ∀ vs, o ≠ .lst vs) : a ∉ w.ρ := fun z => by
  obtain ⟨vs, e⟩ := R.lst z
  rw [h] at e
  exact hn vs (Option.some.inj e)
theorem nl_none {w : Wd} {a : Addr} (h : w.H a = none) : NL w a := fun vs e => by
  rw [h] at e
  cases e
section
variable {K : PySem.W.Frag} {G : Gc} {w w' w2 : Wd} {m m' : Mem}
theorem Ext.refl : Ext w w := ⟨fun _ _ h _ _ _ => h, fun _ h => h, ⟨[], (List.append_nil _).symm⟩, fun _ o h => ⟨o, h⟩⟩
theorem ExtE.refl : ExtE w w := { Ext.refl with own := fun _ _ h => h }
theorem Ext.sqT (R : RM K G w m) (e : Ext w w') {a : Addr} {vs : List V} (h : SqT K w.H a vs) : SqT K w'.H a vs := by
  rcases h with (h | ⟨o, h⟩) | h
  · exact .inl (.inl (e.keep a _ h (R.out h (fun _ z => nomatch z)) (fun _ z => nomatch z) (fun _ z => nomatch z)))
  · exact .inl (.inr ⟨o, e.keep a _ h (R.out h (fun _ z => nomatch z)) (fun _ z => nomatch z) (fun _ z => nomatch z)⟩)
  · exact .inr h
theorem Ext.rol (R : RM K G w m) (e : Ext w w') {a : Addr} {vs : List V} (h : RoL K w a vs) : RoL K w' a vs := by
  rcases h with ⟨o, h⟩ | h
  · exact .inl ⟨o, e.keep a _ h (R.out h (fun _ z => nomatch z)) (fun _ z => nomatch z) (fun _ z => nomatch z)⟩
  · exact .inr h
theorem Ext.rho (e : Ext w w') {n : Nat} {a : Addr} (h : w.ρ[n]? = some a) : w'.ρ[n]? = some a := by
  obtain ⟨l, q⟩ := e.rh
  rw [q, List.getElem?_append_left (List.getElem?_eq_some_iff.mp h).1, h]
mutual
theorem Ext.rv (R : RM K G w m) (e : Ext w w') : ∀ (x : PV) (v : V), RV K G w x v → RV K G w' x v
  | .non, v, h => by unfold RV at h ⊢; exact h
  | .bl b, v, h => by unfold RV at h ⊢; exact h
  | .int b, v, h => by unfold RV at h ⊢; exact h
  | .str b, v, h => by unfold RV at h ⊢; exact h
  | .tup xs, v, h => by
    unfold RV at h ⊢
    obtain ⟨a, vs, h1, h2, h3⟩ := h
    exact ⟨a, vs, h1, e.sqT R h2, Ext.rvs R e xs vs h3⟩
  | .lst xs, v, h => by
    unfold RV at h ⊢
    obtain ⟨a, vs, h1, h2, h3⟩ := h
    exact ⟨a, vs, h1, ⟨e.fz a h2.1, e.keep a _ h2.2 (fun z => R.nf a z h2.1) (fun _ _ => h2.1) (fun _ z => nomatch z)⟩, Ext.rvs R e xs vs h3⟩
  | .rol xs, v, h => by
    unfold RV at h ⊢
    obtain ⟨a, vs, h1, h2, h3⟩ := h
    exact ⟨a, vs, h1, e.rol R h2, Ext.rvs R e xs vs h3⟩
  | .own _, v, h => by unfold RV at h; exact h.elim
  | .ref n, v, h => by
    unfold RV at h ⊢
    obtain ⟨a, h1, h2⟩ := h
    exact ⟨a, h1, e.rho h2⟩
  | .exc c x, v, h => by
    unfold RV at h ⊢
    obtain ⟨a, d, y, h1, h2, h3, h4⟩ := h
    exact ⟨a, d, y, h1, e.keep a _ h2 (R.out h2 (fun _ z => by unfold ExV at z; cases z)) (fun _ z => by unfold ExV at z; cases z) (fun _ z => by unfold ExV at z; cases z),
      e.keep d _ h3 (R.out h3 (fun _ z => nomatch z)) (fun _ z => nomatch z) (fun _ z => nomatch z), Ext.rv R e x y h4⟩
theorem Ext.rvs (R : RM K G w m) (e : Ext w w') : ∀ (xs : List PV) (vs : List V), RVs K G w xs vs → RVs K G w' xs vs
  | [], vs, h => by unfold RVs at h ⊢; exact h
  | x :: xs, vs, h => by
    unfold RVs at h ⊢
    obtain ⟨v, r, h1, h2, h3⟩ := h
    exact ⟨v, r, h1, Ext.rv R e x v h2, Ext.rvs R e xs r h3⟩
end
theorem Ext.trans (R : RM K G w m) (R' : RM K G w' m') (a : Ext w w') (b : Ext w' w2) : Ext w w2 where
  keep := fun x o h1 h2 h3 h4 => by
    have h5 := a.keep x o h1 h2 h3 h4
    refine b.keep x o h5 (fun z => ?_) (fun vs q => a.fz x (h3 vs q)) h4
    obtain ⟨vs, q⟩ := R'.lst z
    rw [h5] at q
    exact R'.nf x z (a.fz x (h3 vs (Option.some.inj q)))
  fz := fun x h => b.fz x (a.fz x h)
  rh := by
    obtain ⟨l, q⟩ := a.rh
    obtain ⟨k, q2⟩ := b.rh
    exact ⟨l ++ k, by rw [q2, q, List.append_assoc]⟩
  there := fun x o h => by
    obtain ⟨o1, h1⟩ := a.there x o h
    exact b.there x o1 h1
theorem ExtE.trans (R : RM K G w m) (R' : RM K G w' m') (a : ExtE w w') (b : ExtE w' w2) : ExtE w w2 :=
  { Ext.trans R R' a.toExt b.toExt with own := fun x vs h => b.own x vs (a.own x vs h) }
theorem RVs.length : ∀ {xs : List PV} {vs : List V}, RVs K G w xs vs → xs.length = vs.length
  | [], vs, h => by unfold RVs at h; rw [h]; rfl
  | x :: xs, vs, h => by
    unfold RVs at h
    obtain ⟨v, r, h1, _, h3⟩ := h
    rw [h1, List.length_cons, List.length_cons, RVs.length h3]
theorem RVs.get : ∀ {xs : List PV} {vs : List V} {i : Nat} {x : PV}, RVs K G w xs vs → xs[i]? = some x → ∃ v, vs[i]? = some v ∧ RV K G w x v
  | [], vs, i, x, h, e => by simp at e
  | y :: xs, vs, i, x, h, e => by
    unfold RVs at h
    obtain ⟨v, r, h1, h2, h3⟩ := h
    subst h1
    cases i with
    | zero => simp at e; subst e; exact ⟨v, rfl, h2⟩
    | succ i => exact RVs.get (i := i) h3 (by simpa using e)
theorem RVs.get' : ∀ {xs : List PV} {vs : List V} {i : Nat} {v : V}, RVs K G w xs vs → vs[i]? = some v → ∃ x, xs[i]? = some x ∧ RV K G w x v
  | [], vs, i, v, h, e => by unfold RVs at h; subst h; simp at e
  | y :: xs, vs, i, u, h, e => by
    unfold RVs at h
    obtain ⟨v, r, h1, h2, h3⟩ := h
    subst h1
    cases i with
    | zero => simp at e; subst e; exact ⟨y, rfl, h2⟩
    | succ i => exact RVs.get' (i := i) h3 (by simpa using e)
theorem RVs.append : ∀ {xs ys : List PV} {vs us : List V}, RVs K G w xs vs → RVs K G w ys us → RVs K G w (xs ++ ys) (vs ++ us)
  | [], ys, vs, us, h, g => by unfold RVs at h; subst h; exact g
  | x :: xs, ys, vs, us, h, g => by
    unfold RVs at h
    obtain ⟨v, r, h1, h2, h3⟩ := h
    subst h1
    show RVs K G w (x :: (xs ++ ys)) (v :: (r ++ us))
    unfold RVs
    exact ⟨v, _, rfl, h2, RVs.append h3 g⟩
theorem RVs.one {x : PV} {v : V} (h : RV K G w x v) : RVs K G w [x] [v] := by
  unfold RVs
  exact ⟨v, [], rfl, h, by unfold RVs; rfl⟩
theorem RVs.nil : RVs K G w [] [] := by unfold RVs; rfl
theorem RVs.cons {x : PV} {v : V} {xs : List PV} {vs : List V} (h : RV K G w x v) (g : RVs K G w xs vs) : RVs K G w (x :: xs) (v :: vs) := by
  unfold RVs
  exact ⟨v, vs, rfl, h, g⟩
theorem RVs.cons_inv {x : PV} {xs : List PV} {vs : List V} (h : RVs K G w (x :: xs) vs) : ∃ v r, vs = v :: r ∧ RV K G w x v ∧ RVs K G w xs r := by
  unfold RVs at h
  exact h
theorem RVs.nil_inv {vs : List V} (h : RVs K G w [] vs) : vs = [] := by
  unfold RVs at h
  exact h
theorem RVs.take : ∀ {xs : List PV} {vs : List V} (n : Nat), RVs K G w xs vs → RVs K G w (xs.take n) (vs.take n)
  | [], vs, n, h => by unfold RVs at h; subst h; simpa using RVs.nil
  | x :: xs, vs, n, h => by
    obtain ⟨v, r, h1, h2, h3⟩ := h.cons_inv
    subst h1
    cases n with
    | zero => exact RVs.nil
    | succ n => exact RVs.cons h2 (RVs.take n h3)
theorem RVs.drop : ∀ {xs : List PV} {vs : List V} (n : Nat), RVs K G w xs vs → RVs K G w (xs.drop n) (vs.drop n)
  | [], vs, n, h => by unfold RVs at h; subst h; simpa using RVs.nil
  | x :: xs, vs, n, h => by
    obtain ⟨v, r, h1, h2, h3⟩ := h.cons_inv
    cases n with
    | zero => exact h
    | succ n => subst h1; exact RVs.drop n h3
theorem RVs.set : ∀ {xs : List PV} {vs : List V} {x : PV} {v : V} (n : Nat), RVs K G w xs vs → RV K G w x v → RVs K G w (xs.set n x) (vs.set n v)
  | [], vs, x, v, n, h, g => by unfold RVs at h; subst h; exact RVs.nil
  | y :: xs, vs, x, v, n, h, g => by
    obtain ⟨u, r, h1, h2, h3⟩ := h.cons_inv
    subst h1
    cases n with
    | zero => exact RVs.cons g h3
    | succ n => exact RVs.cons h2 (RVs.set n h3 g)
theorem rv_non {v : V} : RV K G w .non v ↔ v = .non := by unfold RV; exact Iff.rfl
theorem rv_bl {v : V} {b : Bool} : RV K G w (.bl b) v ↔ v = .bl b := by unfold RV; exact Iff.rfl
theorem rv_int {v : V} {b : Int} : RV K G w (.int b) v ↔ v = .int b := by unfold RV; exact Iff.rfl
theorem rv_str {v : V} {b : Str} : RV K G w (.str b) v ↔ v = .str b := by unfold RV; exact Iff.rfl
theorem rv_tup {v : V} {xs : List PV} : RV K G w (.tup xs) v ↔ ∃ a vs, v = .ref a ∧ SqT K w.H a vs ∧ RVs K G w xs vs := by conv => lhs; unfold RV
theorem rv_lst {v : V} {xs : List PV} : RV K G w (.lst xs) v ↔ ∃ a vs, v = .ref a ∧ (w.F a ∧ w.H a = some (.lst vs)) ∧ RVs K G w xs vs := by conv => lhs; unfold RV
theorem rv_rol {v : V} {xs : List PV} : RV K G w (.rol xs) v ↔ ∃ a vs, v = .ref a ∧ RoL K w a vs ∧ RVs K G w xs vs := by conv => lhs; unfold RV
theorem rv_own {v : V} {xs : List PV} : ¬ RV K G w (.own xs) v := by unfold RV; exact fun z => z
theorem rv_ref {v : V} {n : Nat} : RV K G w (.ref n) v ↔ ∃ a, v = .ref a ∧ w.ρ[n]? = some a := by conv => lhs; unfold RV
theorem rv_exc {v : V} {c : Nat} {x : PV} : RV K G w (.exc c x) v ↔ ∃ a d y, v = .ref a ∧ w.H a = some (ExV (.ref (G.ca c)) d a) ∧ w.H d = some (.xd [(valueS, y)]) ∧ RV K G w x y := by conv => lhs; unfold RV
end
/-! ### the slots -/
/-- what stands in a slot -/
def SV (K : PySem.W.Frag) (G : Gc) (w : Wd) (x : PV) (v : V) : Prop := RV K G w x v ∨ ∃ xs a vs, x = .own xs ∧ v = .ref a ∧ OwnL w a vs ∧ RVs K G w xs vs
structure RE (K : PySem.W.Frag) (G : Gc) (w : Wd) (E : Ev) (σ : L2.St) : Prop where
  len : E.length = σ.length
  val : ∀ (i : Nat) (x : PV), E[i]? = some (some x) → ∃ v, σ[i]? = some (some v) ∧ SV K G w x v
  dis : ∀ (i j : Nat) (xs ys : List PV) (a : Addr), i ≠ j → E[i]? = some (some (.own xs)) → E[j]? = some (some (.own ys)) → σ[i]? = some (some (.ref a)) → σ[j]? = some (some (.ref a)) → False
section
variable {K : PySem.W.Frag} {G : Gc} {w w' : Wd} {m : Mem} {E : Ev} {σ : L2.St}
theorem ExtE.sv (R : RM K G w m) (e : ExtE w w') {x : PV} {v : V} (h : SV K G w x v) : SV K G w' x v := by
  rcases h with h | ⟨xs, a, vs, h1, h2, h3, h4⟩
  · exact .inl (e.toExt.rv R _ _ h)
  · exact .inr ⟨xs, a, vs, h1, h2, e.own a vs h3, e.toExt.rvs R _ _ h4⟩
theorem ExtE.re (R : RM K G w m) (e : ExtE w w') (h : RE K G w E σ) : RE K G w' E σ :=
  ⟨h.len, fun i x q => let ⟨v, h1, h2⟩ := h.val i x q; ⟨v, h1, e.sv R h2⟩, h.dis⟩
end
/-! ### readings -/
/-- what is asked behind a result -/
def fin {α β : Type} (rel : Wd → α → β → Prop) (K : PySem.W.Frag) (G : Gc) (W : WX) (w : Wd) (σ : L2.St) (Q : β → Hp → Prop) : Res α → Prop
  | .ok x m' => ∀ v w', ExtE w w' → RM K G w' m' → rel w' x v → Q v w'.H
  | .exc c x m' => ∀ d y w', ExtE w w' → RM K G w' m' → w'.H d = some (.xd [(valueS, y)]) → RV K G w' x y → W (.ref (G.ca c)) (some d) σ w'.H
  | .bad => False
/-- at a state where P holds, C -/
def At (K : PySem.W.Frag) (G : Gc) (σ : L2.St) (H : Hp) (P : Wd → Prop) (C : Ev → Mem → Wd → Prop) : Prop := ∃ E m w, w.H = H ∧ RM K G w m ∧ RE K G w E σ ∧ P w ∧ C E m w
def tX {α β : Type} (rel : Wd → α → β → Prop) (K : PySem.W.Frag) (G : Gc) (W : WX) (f : Ev → Mem → Res α) : L2.St → Hp → (β → Hp → Prop) → Prop := fun σ H Q =>
  At K G σ H (fun _ => True) fun E m w => fin rel K G W w σ Q (f E m)
def tE (K : PySem.W.Frag) (G : Gc) (W : WX) (f : Ev → Mem → Res PV) : TE := tX (RV K G) K G W f
def tT (K : PySem.W.Frag) (G : Gc) (W : WX) (f : Ev → Mem → Res Bool) : TT := tX (fun _ a b => a = b) K G W f
def tA (K : PySem.W.Frag) (G : Gc) (W : WX) (f : Ev → Mem → Res (List PV)) : TA := tX (RVs K G) K G W f
section
variable {K : PySem.W.Frag} {G : Gc} {W : WX} {w w' : Wd} {m m' : Mem} {E : Ev} {σ : L2.St} {H : Hp}
/-- a promise of results carried back -/
theorem fin.back {α β : Type} {rel : Wd → α → β → Prop} {Q : β → Hp → Prop} (R : RM K G w m) (R' : RM K G w' m') (e : ExtE w w') : ∀ {r : Res α}, fin rel K G W w σ Q r → fin rel K G W w' σ Q r
  | .ok x m2, h => fun v w2 e2 R2 q => h v w2 (ExtE.trans R R' e e2) R2 q
  | .exc c x m2, h => fun d y w2 e2 R2 q1 q2 => h d y w2 (ExtE.trans R R' e e2) R2 q1 q2
  | .bad, h => h
theorem fin.imp {α β : Type} {rel : Wd → α → β → Prop} {Q Q' : β → Hp → Prop} (q : ∀ v H, Q v H → Q' v H) : ∀ {r : Res α}, fin rel K G W w σ Q r → fin rel K G W w σ Q' r
  | .ok x m2, h => fun v w2 e2 R2 r => q _ _ (h v w2 e2 R2 r)
  | .exc c x m2, h => h
  | .bad, h => h
theorem tX.imp {α β : Type} {rel : Wd → α → β → Prop} {f : Ev → Mem → Res α} {Q Q' : β → Hp → Prop} (h : tX rel K G W f σ H Q) (q : ∀ v H, Q v H → Q' v H) : tX rel K G W f σ H Q' := by
  obtain ⟨E, m, w, e, R, re, p, h⟩ := h
  exact ⟨E, m, w, e, R, re, p, fin.imp q h⟩
/-- one part, then the rest -/
theorem tX.bind {α β α' β' : Type} {rel : Wd → α → β → Prop} {rel' : Wd → α' → β' → Prop} {P : Wd → Prop} (hP : ∀ w w' m, RM K G w m → ExtE w w' → P w → P w') {f : Ev → Mem → Res α} {g : Ev → α → Mem → Res α'} {Q : β' → Hp → Prop}
    (h : At K G σ H P fun E m w => fin rel' K G W w σ Q ((f E m).bind fun a m1 => g E a m1)) :
    tX rel K G W f σ H fun v H1 => ∃ a, At K G σ H1 (fun w1 => P w1 ∧ rel w1 a v) fun E m1 w1 => fin rel' K G W w1 σ Q (g E a m1) := by
  obtain ⟨E, m, w, rfl, R, re, p, h⟩ := h
  refine ⟨E, m, w, rfl, R, re, trivial, ?_⟩
  show fin rel K G W w σ _ (f E m)
  cases e : f E m with
  | ok a m1 =>
    rw [e] at h
    intro v w1 e1 R1 r1
    exact ⟨a, E, m1, w1, rfl, R1, e1.re R re, ⟨hP w w1 m R e1 p, r1⟩, fin.back R R1 e1 h⟩
  | exc c x m1 =>
    rw [e] at h
    exact h
  | bad =>
    rw [e] at h
    exact h
theorem tX.of {α β : Type} {rel : Wd → α → β → Prop} {P : Wd → Prop} {f : Ev → Mem → Res α} {Q : β → Hp → Prop} (h : At K G σ H P fun E m w => fin rel K G W w σ Q (f E m)) : tX rel K G W f σ H Q := by
  obtain ⟨E, m, w, e, R, re, _, h⟩ := h
  exact ⟨E, m, w, e, R, re, trivial, h⟩
theorem PE.imp {X : Cx} {e : Expr} {t t' : TE} (h : PE X e t) (q : ∀ σ H Q, t' σ H Q → t σ H Q) : PE X e t' := ⟨fun pins s σ H Q I z => h.run pins s σ H Q I (q σ H Q z)⟩
theorem PT.imp {X : Cx} {e : Expr} {t t' : TT} (h : PT X e t) (q : ∀ σ H Q, t' σ H Q → t σ H Q) : PT X e t' := ⟨fun pins s σ H Q I z => h.run pins s σ H Q I (q σ H Q z)⟩
theorem PW.imp {X : Cx} {e : Expr} {t t' : TT} (h : PW X e t) (q : ∀ σ H Q, t' σ H Q → t σ H Q) : PW X e t' := ⟨fun wh pins s σ H Q I z => h.run wh pins s σ H Q I (q σ H Q z)⟩
theorem PA.imp {X : Cx} {e : List Expr} {t t' : TA} (h : PA X e t) (q : ∀ σ H Q, t' σ H Q → t σ H Q) : PA X e t' := ⟨fun pos pins s σ H Q I z => h.run pos pins s σ H Q I (q σ H Q z)⟩
theorem PS.imp {X : Cx} {e : Stmt} {t t' : TS} (h : PS X e t) (q : ∀ D σ H, t' D σ H → t D σ H) : PS X e t' := ⟨fun pins s σ H D I z => h.run pins s σ H D I (q D σ H z)⟩
theorem PSs.imp {X : Cx} {e : List Stmt} {t t' : TS} (h : PSs X e t) (q : ∀ D σ H, t' D σ H → t D σ H) : PSs X e t' := ⟨fun pins s σ H D I z => h.run pins s σ H D I (q D σ H z)⟩
end
end Pv
set_option maxRecDepth 100000
set_option maxHeartbeats 2000000
set_option autoImplicit false
/-! Pv2: expressions. -/
namespace Pv
open PySem PySem.Spec PyProof.Rows L2
section
variable {K : PySem.W.Frag} {G : Gc} {W : WX} {w w' w2 : Wd} {m m' : Mem} {E : Ev} {σ : L2.St} {H : Hp}
/-! ### a new object -/
def Wd.put (w : Wd) (p : Addr) (o : HO) : Wd := { w with H := upd w.H p o }
def Wd.fre (w : Wd) (p : Addr) : Wd := { w with F := fun a => w.F a ∨ a = p }
theorem ExtE.put {p : Addr} {o : HO} (hp : w.H p = none) : ExtE w (w.put p o) where
  keep := fun a u h _ _ _ => by
    show upd w.H p o a = some u
    rw [upd_ne (ne_of_none h hp)]
    exact h
  fz := fun _ h => h
  rh := ⟨[], (List.append_nil _).symm⟩
  there := fun a u h => ⟨u, by
    show upd w.H p o a = some (.lst u)
    rw [upd_ne (ne_of_none h hp)]
    exact h⟩
  own := fun a vs h => ⟨by
    show upd w.H p o a = some _
    rw [upd_ne (ne_of_none h.at_ hp)]
    exact h.at_, h.nf, h.nr⟩
theorem RM.put {p : Addr} {o : HO} (R : RM K G w m) (hp : w.H p = none) : RM K G (w.put p o) m where
  len := R.len
  nd := R.nd
  at_ := fun n a xs h1 h2 => by
    obtain ⟨vs, e, r⟩ := R.at_ n a xs h1 h2
    refine ⟨vs, ?_, (ExtE.put (o := o) hp).toExt.rvs R _ _ r⟩
    show upd w.H p o a = some _
    rw [upd_ne (ne_of_none e hp)]
    exact e
  nf := R.nf
  fl := fun a h => by
    obtain ⟨vs, e⟩ := R.fl a h
    refine ⟨vs, ?_⟩
    show upd w.H p o a = some _
    rw [upd_ne (ne_of_none e hp)]
    exact e
  tabs := R.tabs.ext fun b u h => by
    show upd w.H p o b = some u
    rw [upd_ne (ne_of_none h hp)]
    exact h
theorem ExtE.fre {p : Addr} (h : ∀ a vs, OwnL w a vs → a ≠ p) : ExtE w (w.fre p) where
  keep := fun a u h _ _ _ => h
  fz := fun _ h => .inl h
  rh := ⟨[], (List.append_nil _).symm⟩
  there := fun a u h => ⟨u, h⟩
  own := fun a vs q => ⟨q.at_, fun z => z.elim q.nf fun e => h a vs q e, q.nr⟩
theorem Ext.fre {p : Addr} : Ext w (w.fre p) where
  keep := fun a u h _ _ _ => h
  fz := fun _ h => .inl h
  rh := ⟨[], (List.append_nil _).symm⟩
  there := fun a u h => ⟨u, h⟩
theorem RM.fre {p : Addr} (R : RM K G w m) (hp : p ∉ w.ρ) (hl : ∃ vs, w.H p = some (.lst vs)) : RM K G (w.fre p) m where
  len := R.len
  nd := R.nd
  at_ := fun n a xs h1 h2 => by
    obtain ⟨vs, e, r⟩ := R.at_ n a xs h1 h2
    exact ⟨vs, e, Ext.fre.rvs R _ _ r⟩
  nf := fun a h z => z.elim (R.nf a h) fun e => hp (e ▸ h)
  fl := fun a h => h.elim (R.fl a) fun e => by
    rw [e]
    exact hl
  tabs := R.tabs
/-- a new list, frozen at once -/
theorem lstNew {p : Addr} {xs : List PV} {vs : List V} (R : RM K G w m) (hp : w.H p = none) (r : RVs K G w xs vs) :
    ∃ w', w'.H = upd w.H p (.lst vs) ∧ ExtE w w' ∧ RM K G w' m ∧ RV K G w' (.lst xs) (.ref p) := by
  have hr : p ∉ w.ρ := fun z => by
    obtain ⟨us, e⟩ := R.lst z
    rw [hp] at e
    cases e
  have R1 := R.put (o := .lst vs) hp
  have e1 := ExtE.put (w := w) (o := .lst vs) hp
  have R2 : RM K G ((w.put p (.lst vs)).fre p) m := R1.fre hr ⟨vs, upd_same⟩
  refine ⟨(w.put p (.lst vs)).fre p, rfl, ?_, R2, ?_⟩
  · refine { Ext.trans R R1 e1.toExt Ext.fre with own := fun a us h => ?_ }
    have h1 := e1.own a us h
    refine ⟨h1.at_, fun z => z.elim h1.nf fun e => ?_, h1.nr⟩
    have q := h.at_
    rw [e, hp] at q
    cases q
  · rw [rv_lst]
    exact ⟨p, vs, rfl, ⟨.inr rfl, upd_same⟩, Ext.fre.rvs R1 _ _ (e1.toExt.rvs R _ _ r)⟩
theorem tupNew {p : Addr} {xs : List PV} {vs : List V} (R : RM K G w m) (hp : w.H p = none) (r : RVs K G w xs vs) :
    ∃ w', w'.H = upd w.H p (.tup vs) ∧ ExtE w w' ∧ RM K G w' m ∧ RV K G w' (.tup xs) (.ref p) := by
  refine ⟨w.put p (.tup vs), rfl, ExtE.put hp, R.put hp, ?_⟩
  rw [rv_tup]
  exact ⟨p, vs, rfl, SqT.of upd_same, (ExtE.put hp).toExt.rvs R _ _ r⟩
end
/-! ### operations on plain values -/
abbrev Op1 := PV → Mem → Option PV
abbrev Op2 := PV → PV → Mem → Option PV
abbrev OpN := List PV → Mem → Option PV
abbrev EF := Ev → Mem → Res PV
abbrev TF := Ev → Mem → Res Bool
abbrev AF := Ev → Mem → Res (List PV)
def Res.of {α : Type} (o : Option α) (m : Mem) : Res α := match o with
  | some x => .ok x m
  | none => .bad
theorem Res.of_some {α : Type} (x : α) (m : Mem) : Res.of (some x) m = .ok x m := rfl
theorem Res.of_none {α : Type} (m : Mem) : Res.of (none : Option α) m = .bad := rfl
/-- what is asked behind an operation -/
def Behind (K : PySem.W.Frag) (G : Gc) (w : Wd) (m : Mem) (z : PV) (Q : VK) : Prop := ∀ v w', ExtE w w' → RM K G w' m → RV K G w' z v → Q v w'.H
def Op1S (K : PySem.W.Frag) (G : Gc) (r : V → Hp → VK → Prop) (op : Op1) : Prop := ∀ (w : Wd) (m : Mem) (x : PV) (v : V) (z : PV) (Q : VK), RM K G w m → RV K G w x v → op x m = some z → Behind K G w m z Q → r v w.H Q
def Op2S (K : PySem.W.Frag) (G : Gc) (r : R2) (op : Op2) : Prop := ∀ (w : Wd) (m : Mem) (x y : PV) (v u : V) (z : PV) (Q : VK), RM K G w m → RV K G w x v → RV K G w y u → op x y m = some z → Behind K G w m z Q → r v u w.H Q
def OpNS (K : PySem.W.Frag) (G : Gc) (r : List V → Hp → VK → Prop) (op : OpN) : Prop := ∀ (w : Wd) (m : Mem) (xs : List PV) (vs : List V) (z : PV) (Q : VK), RM K G w m → RVs K G w xs vs → op xs m = some z → Behind K G w m z Q → r vs w.H Q
theorem Behind.now {K : PySem.W.Frag} {G : Gc} {w : Wd} {m : Mem} {z : PV} {Q : VK} (b : Behind K G w m z Q) (R : RM K G w m) {v : V} (r : RV K G w z v) : Q v w.H := b v w ExtE.refl R r
theorem Behind.tup {K : PySem.W.Frag} {G : Gc} {w : Wd} {m : Mem} {xs : List PV} {vs : List V} {Q : VK} (b : Behind K G w m (.tup xs) Q) (R : RM K G w m) (r : RVs K G w xs vs) : ∀ p, w.H p = none → Q (.ref p) (upd w.H p (.tup vs)) := fun p hp => by
  obtain ⟨w', e, x, R', q⟩ := tupNew R hp r
  rw [← e]
  exact b _ w' x R' q
theorem Behind.lst {K : PySem.W.Frag} {G : Gc} {w : Wd} {m : Mem} {xs : List PV} {vs : List V} {Q : VK} (b : Behind K G w m (.lst xs) Q) (R : RM K G w m) (r : RVs K G w xs vs) : ∀ p, w.H p = none → Q (.ref p) (upd w.H p (.lst vs)) := fun p hp => by
  obtain ⟨w', e, x, R', q⟩ := lstNew R hp r
  rw [← e]
  exact b _ w' x R' q
/-! ### readings of expressions -/
def eC (x : PV) : EF := fun _ m => .ok x m
def isOwn : PV → Bool
  | .own _ => true
  | _ => false
def eV (i : Nat) : EF := fun E m => match E[i]? with
  | some (some x) => if isOwn x = true then .bad else .ok x m
  | _ => .bad
def e1 (op : Op1) (f : EF) : EF := fun E m => (f E m).bind fun x m1 => Res.of (op x m1) m1
def e2 (op : Op2) (f g : EF) : EF := fun E m => (f E m).bind fun x m1 => (g E m1).bind fun y m2 => Res.of (op x y m2) m2
def eN (op : OpN) (f : AF) : EF := fun E m => (f E m).bind fun xs m1 => Res.of (op xs m1) m1
def aNil : AF := fun _ m => .ok [] m
def aCons (f : EF) (g : AF) : AF := fun E m => (f E m).bind fun x m1 => (g E m1).bind fun xs m2 => .ok (x :: xs) m2
def pTru : PV → Option Bool
  | .non => some false
  | .bl b => some b
  | .int i => some (i != 0)
  | .str y => if y.length ≤ sizeLine then some ((y.length : Int) != 0) else none
  | .tup xs => some (!xs.isEmpty)
  | .lst xs => some (!xs.isEmpty)
  | .rol xs => some (!xs.isEmpty)
  | _ => none
def tV (f : EF) : TF := fun E m => (f E m).bind fun x m1 => Res.of (pTru x) m1
def tB (f : EF) : TF := fun E m => (f E m).bind fun x m1 => match x with
  | .bl b => .ok b m1
  | _ => .bad
def tNotF (f : TF) : TF := fun E m => (f E m).bind fun b m1 => .ok (!b) m1
def tAndF (f g : TF) : TF := fun E m => (f E m).bind fun b m1 => if b = true then g E m1 else .ok false m1
def tOrF (f g : TF) : TF := fun E m => (f E m).bind fun b m1 => if b = true then .ok true m1 else g E m1
def eAnd (f g : EF) : EF := fun E m => (f E m).bind fun x m1 => (Res.of (pTru x) m1).bind fun b m2 => if b = true then g E m2 else .ok x m2
def eOr (f g : EF) : EF := fun E m => (f E m).bind fun x m1 => (Res.of (pTru x) m1).bind fun b m2 => if b = true then .ok x m2 else g E m2
def eNot (f : EF) : EF := fun E m => (f E m).bind fun x m1 => (Res.of (pTru x) m1).bind fun b m2 => .ok (.bl (!b)) m2
def eIf (c : TF) (f g : EF) : EF := fun E m => (c E m).bind fun b m1 => if b = true then f E m1 else g E m1
/-- a < b < c -/
def thenB (c : PV) (r s : Res PV) : Res PV := match c with
  | .bl true => r
  | .bl false => s
  | _ => .bad
def e3 (op op' : Op2) (f g h : EF) : EF := fun E m => (f E m).bind fun x m1 => (g E m1).bind fun y m2 => (Res.of (op x y m2) m2).bind fun c m3 => thenB c ((h E m3).bind fun z m4 => Res.of (op' y z m4) m4) (.ok c m3)
def eTup (f : AF) : EF := fun E m => (f E m).bind fun xs m1 => if xs.length ≤ sizeLine then .ok (.tup xs) m1 else .bad
def eLst (f : AF) : EF := fun E m => (f E m).bind fun xs m1 => if xs.length ≤ sizeLine then .ok (.lst xs) m1 else .bad
section
variable {X : Cx} {G : Gc} {W : WX} {pos : Pos} {a b c : Expr} {f g h : EF}
theorem At.P {K : PySem.W.Frag} {G : Gc} {σ : L2.St} {H : Hp} {P P' : Wd → Prop} {C : Ev → Mem → Wd → Prop} (h : At K G σ H P C) (q : ∀ w, P w → P' w) : At K G σ H P' C := by
  obtain ⟨E, m, w, e, R, re, p, z⟩ := h
  exact ⟨E, m, w, e, R, re, q w p, z⟩
theorem mono_true {K : PySem.W.Frag} {G : Gc} : ∀ w w' m, RM K G w m → ExtE w w' → True → True := fun _ _ _ _ _ h => h
theorem mono_rv {K : PySem.W.Frag} {G : Gc} {P : Wd → Prop} (hP : ∀ w w' m, RM K G w m → ExtE w w' → P w → P w') {x : PV} {v : V} : ∀ w w' m, RM K G w m → ExtE w w' → (P w ∧ RV K G w x v) → (P w' ∧ RV K G w' x v) :=
  fun w w' m R e h => ⟨hP w w' m R e h.1, e.toExt.rv R _ _ h.2⟩
theorem mono_rvs {K : PySem.W.Frag} {G : Gc} {P : Wd → Prop} (hP : ∀ w w' m, RM K G w m → ExtE w w' → P w → P w') {x : List PV} {v : List V} : ∀ w w' m, RM K G w m → ExtE w w' → (P w ∧ RVs K G w x v) → (P w' ∧ RVs K G w' x v) :=
  fun w w' m R e h => ⟨hP w w' m R e h.1, e.toExt.rvs R _ _ h.2⟩
theorem je_const {v : V} {x : PV} (h : PE X a (tC v)) (r : ∀ w, RV X.K G w x v) : PE X a (tE X.K G W (eC x)) := PE.imp h fun σ H Q z => by
  obtain ⟨E, m, w, rfl, R, re, _, q⟩ := z
  exact q v w ExtE.refl R (r w)
theorem je_int {i : Int} {j : Nat} : PE X (.Constant (.int i) j pos) (tE X.K G W (eC (.int i))) := je_const pe_int fun _ => rv_int.mpr rfl
theorem je_bl {i : Bool} {j : Nat} : PE X (.Constant (.bool i) j pos) (tE X.K G W (eC (.bl i))) := je_const pe_bl fun _ => rv_bl.mpr rfl
theorem je_non {j : Nat} : PE X (.Constant .none j pos) (tE X.K G W (eC .non)) := je_const pe_non fun _ => rv_non.mpr rfl
theorem je_str {i : Str} {j : Nat} : PE X (.Constant (.str i) j pos) (tE X.K G W (eC (.str i))) := je_const pe_str fun _ => rv_str.mpr rfl
theorem je_var {i : Nat} (h : PE X a (tVar i)) : PE X a (tE X.K G W (eV i)) := PE.imp h fun σ H Q z => by
  obtain ⟨E, m, w, rfl, R, re, _, q⟩ := z
  unfold eV at q
  cases e : E[i]? with
  | none => rw [e] at q; exact q.elim
  | some o =>
    rw [e] at q
    cases o with
    | none => exact q.elim
    | some x =>
      obtain ⟨v, h1, h2⟩ := re.val i x e
      have q : fin (RV X.K G) X.K G W w σ Q (if isOwn x = true then .bad else .ok x m) := q
      rcases h2 with h2 | ⟨xs, _, _, rfl, _⟩
      · split at q
        · exact q.elim
        · exact ⟨v, h1, q v w ExtE.refl R h2⟩
      · exact q.elim
/-- behind the parts: the operation -/
theorem at_1 {r : V → Hp → VK → Prop} {op : Op1} (hs : Op1S X.K G r op) {σ : L2.St} {H : Hp} {P : Wd → Prop} {x : PV} {v : V} {Q : VK}
    (z : At X.K G σ H (fun w => P w ∧ RV X.K G w x v) fun _ m w => fin (RV X.K G) X.K G W w σ Q (Res.of (op x m) m)) : r v H Q := by
  obtain ⟨E, m, w, rfl, R, re, ⟨_, p⟩, z⟩ := z
  cases o : op x m with
  | none => rw [o] at z; exact z.elim
  | some y =>
    rw [o] at z
    exact hs w m x v y Q R p o z
theorem at_2 {r : R2} {op : Op2} (hs : Op2S X.K G r op) {σ : L2.St} {H : Hp} {P : Wd → Prop} {x y : PV} {v u : V} {Q : VK}
    (z : At X.K G σ H (fun w => (P w ∧ RV X.K G w x v) ∧ RV X.K G w y u) fun _ m w => fin (RV X.K G) X.K G W w σ Q (Res.of (op x y m) m)) : r v u H Q := by
  obtain ⟨E, m, w, rfl, R, re, ⟨⟨_, p⟩, p2⟩, z⟩ := z
  cases o : op x y m with
  | none => rw [o] at z; exact z.elim
  | some t =>
    rw [o] at z
    exact hs w m x y v u t Q R p p2 o z
theorem at_N {r : List V → Hp → VK → Prop} {op : OpN} (hs : OpNS X.K G r op) {σ : L2.St} {H : Hp} {P : Wd → Prop} {xs : List PV} {vs : List V} {Q : VK}
    (z : At X.K G σ H (fun w => P w ∧ RVs X.K G w xs vs) fun _ m w => fin (RV X.K G) X.K G W w σ Q (Res.of (op xs m) m)) : r vs H Q := by
  obtain ⟨E, m, w, rfl, R, re, ⟨_, p⟩, z⟩ := z
  cases o : op xs m with
  | none => rw [o] at z; exact z.elim
  | some y =>
    rw [o] at z
    exact hs w m xs vs y Q R p o z
theorem tE1 {r : V → Hp → VK → Prop} {op : Op1} (hs : Op1S X.K G r op) {σ : L2.St} {H : Hp} {Q : VK} (z : tE X.K G W (e1 op f) σ H Q) : tUn r (tE X.K G W f) σ H Q :=
  (tX.bind (g := fun _ x m1 => Res.of (op x m1) m1) mono_true z).imp fun v H1 ⟨x, z1⟩ => at_1 hs z1
theorem tE2 {r : R2} {op : Op2} (hs : Op2S X.K G r op) {σ : L2.St} {H : Hp} {Q : VK} (z : tE X.K G W (e2 op f g) σ H Q) : tOp r (tE X.K G W f) (tE X.K G W g) σ H Q :=
  (tX.bind (g := fun E x m1 => (g E m1).bind fun y m2 => Res.of (op x y m2) m2) mono_true z).imp fun v H1 ⟨x, z1⟩ =>
    (tX.bind (f := g) (g := fun _ y m2 => Res.of (op x y m2) m2) (mono_rv mono_true) z1).imp fun u H2 ⟨y, z2⟩ => at_2 hs z2
theorem je_un {op : UnaryOp} {r : V → Hp → VK → Prop} {o : Op1} (hop : UnR X (unaryOp op) r) (hs : Op1S X.K G r o) (ha : PE X a (tE X.K G W f)) : PE X (.UnaryOp op a pos) (tE X.K G W (e1 o f)) :=
  PE.imp (pe_un hop ha) fun σ H Q z => tE1 hs z
theorem je_bin {op : Operator} {r : R2} {o : Op2} (hop : OpR X (binaryOp op) r) (hs : Op2S X.K G r o) (ha : PE X a (tE X.K G W f)) (hb : PE X b (tE X.K G W g)) : PE X (.BinOp a op b pos) (tE X.K G W (e2 o f g)) :=
  PE.imp (pe_op hop ha hb) fun σ H Q z => tE2 hs z
theorem je_cmp {op : CmpOp} {r : R2} {o : Op2} (hop : OpR X (compareOp op) r) (hs : Op2S X.K G r o) (ha : PE X a (tE X.K G W f)) (hb : PE X b (tE X.K G W g)) (hm : behindInMarks op b = false) : PE X (.Compare a [op] [b] pos) (tE X.K G W (e2 o f g)) :=
  PE.imp (pe_cmpR hop ha hb hm) fun σ H Q z => tE2 hs z
theorem je_ix {r : R2} {o : Op2} (hop : IxR X r) (hs : Op2S X.K G r o) (ha : PE X a (tE X.K G W f)) (hb : PE X b (tE X.K G W g)) (hx : PlainIx b) : PE X (.Subscript a b pos) (tE X.K G W (e2 o f g)) :=
  PE.imp (pe_ix hop ha hb hx) fun σ H Q z => tE2 hs z
/-- a < b < c -/
theorem tE3 {r r' : R2} {op op' : Op2} (hs : Op2S X.K G r op) (hs' : Op2S X.K G r' op') {σ : L2.St} {H : Hp} {Q : VK} (z : tE X.K G W (e3 op op' f g h) σ H Q) : tChain r r' (tE X.K G W f) (tE X.K G W g) (tE X.K G W h) σ H Q := by
  refine (tX.bind (g := fun E x m1 => (g E m1).bind fun y m2 => (Res.of (op x y m2) m2).bind fun c m3 => thenB c ((h E m3).bind fun z m4 => Res.of (op' y z m4) m4) (.ok c m3)) mono_true z).imp fun v H1 ⟨x, z1⟩ => ?_
  refine (tX.bind (f := g) (g := fun E y m2 => (Res.of (op x y m2) m2).bind fun c m3 => thenB c ((h E m3).bind fun z m4 => Res.of (op' y z m4) m4) (.ok c m3)) (mono_rv mono_true) z1).imp fun u H2 ⟨y, z2⟩ => ?_
  obtain ⟨E, m, w, rfl, R, re, ⟨⟨_, p⟩, p2⟩, z3⟩ := z2
  cases o : op x y m with
  | none => rw [o] at z3; exact z3.elim
  | some t =>
    rw [o] at z3
    refine hs w m x y v u t _ R p p2 o fun v1 w1 e1 R1 r1 => ?_
    have q2 := e1.toExt.rv R _ _ p2
    have re1 := e1.re R re
    have z4 := fin.back R R1 e1 z3
    have z5 : fin (RV X.K G) X.K G W w1 σ Q (thenB t ((h E m).bind fun z m4 => Res.of (op' y z m4) m4) (.ok t m)) := z4
    cases t with
    | bl c =>
      rw [rv_bl] at r1
      subst r1
      refine ⟨c, rfl, ?_⟩
      cases c with
      | true =>
        refine iteT ?_
        have z6 : At X.K G σ w1.H (fun w => True ∧ RV X.K G w y u) fun E m w => fin (RV X.K G) X.K G W w σ Q ((h E m).bind fun z m4 => Res.of (op' y z m4) m4) := ⟨E, m, w1, rfl, R1, re1, ⟨trivial, q2⟩, z5⟩
        exact (tX.bind (f := h) (g := fun _ z m4 => Res.of (op' y z m4) m4) (mono_rv mono_true) z6).imp fun t H3 ⟨z', z7⟩ => at_2 (P := fun _ => True) hs' z7
      | false =>
        refine iteF ?_
        exact z5 (.bl false) w1 ExtE.refl R1 (rv_bl.mpr rfl)
    | _ => exact z5.elim
theorem je_chain {op op' : CmpOp} {r r' : R2} {o o' : Op2} (hop : OpR X (compareOp op) r) (hop' : OpR X (compareOp op') r') (hs : Op2S X.K G r o) (hs' : Op2S X.K G r' o') (ha : PE X a (tE X.K G W f)) (hb : PE X b (tE X.K G W g)) (hc : PE X c (tE X.K G W h)) (hm : lastMarks [op, op'] [b, c] = false) : PE X (.Compare a [op, op'] [b, c] pos) (tE X.K G W (e3 o o' f g h)) :=
  PE.imp (pe_chain hop hop' ha hb hc hm) fun σ H Q z => tE3 hs hs' z
end
end Pv
set_option maxRecDepth 100000
set_option maxHeartbeats 2000000
set_option autoImplicit false
/-! Pv3: tests, displays, calls. -/
namespace Pv
open PySem PySem.Spec PyProof.Rows L2
section
variable {K : PySem.W.Frag} {G : Gc} {w : Wd} {m : Mem}
theorem RVs.isEmpty {xs : List PV} {vs : List V} (h : RVs K G w xs vs) : (!xs.isEmpty) = !vs.isEmpty := by
  cases xs with
  | nil =>
    rw [h.nil_inv]
    rfl
  | cons x xs =>
    obtain ⟨v, r, e, _, _⟩ := h.cons_inv
    rw [e] <;> rfl
theorem tru_of : ∀ {x : PV} {v : V} {k : Bool}, RV K G w x v → pTru x = some k → TruV K v w.H k
  | .non, v, k, h, e => by
    rw [rv_non] at h
    subst h
    exact (Option.some.inj e).symm
  | .bl b, v, k, h, e => by
    rw [rv_bl] at h
    subst h
    exact (Option.some.inj e).symm
  | .int b, v, k, h, e => by
    rw [rv_int] at h
    subst h
    exact (Option.some.inj e).symm
  | .str b, v, k, h, e => by
    rw [rv_str] at h
    subst h
    have e : (if b.length ≤ sizeLine then some ((b.length : Int) != 0) else none) = some k := e
    by_cases z : b.length ≤ sizeLine
    · rw [if_pos z] at e
      exact ⟨z, (Option.some.inj e).symm⟩
    · rw [if_neg z] at e
      cases e
  | .tup xs, v, k, h, e => by
    rw [rv_tup] at h
    obtain ⟨a, vs, rfl, s, r⟩ := h
    exact .inr (.inl ⟨vs, s, by rw [← r.isEmpty]; exact (Option.some.inj e).symm⟩)
  | .lst xs, v, k, h, e => by
    rw [rv_lst] at h
    obtain ⟨a, vs, rfl, s, r⟩ := h
    exact .inl ⟨vs, SqL.of s.2, by rw [← r.isEmpty]; exact (Option.some.inj e).symm⟩
  | .rol xs, v, k, h, e => by
    rw [rv_rol] at h
    obtain ⟨a, vs, rfl, s, r⟩ := h
    exact .inl ⟨vs, s.seq, by rw [← r.isEmpty]; exact (Option.some.inj e).symm⟩
  | .own _, _, _, _, e => by cases e
  | .ref _, _, _, _, e => by cases e
  | .exc _ _, _, _, _, e => by cases e
end
section
variable {X : Cx} {G : Gc} {W : WX} {pos : Pos} {a b c : Expr} {f g h : EF} {p q : TF} {rest : List Expr} {σ : L2.St} {H : Hp}
theorem At.fin1 {α β : Type} {rel : Wd → α → β → Prop} {K : PySem.W.Frag} {P : Wd → Prop} {Q : β → Hp → Prop} {x : α} {v : β} (hr : ∀ w, P w → rel w x v) (z : At K G σ H P fun _ m w => fin rel K G W w σ Q (.ok x m)) : Q v H := by
  obtain ⟨E, m, w, rfl, R, re, p, z⟩ := z
  exact z v w ExtE.refl R (hr w p)
theorem tB_of {Q : Bool → Hp → Prop} (z : tT X.K G W (tB f) σ H Q) : tE X.K G W f σ H fun x H' => ∃ k, x = .bl k ∧ Q k H' :=
  (tX.bind (rel := RV X.K G) (f := f) (g := fun _ x m1 => match x with
    | .bl b => .ok b m1
    | _ => .bad) mono_true z).imp fun v H1 ⟨x, z1⟩ => by
      cases x with
      | bl k =>
        obtain ⟨E, m, w, rfl, R, re, ⟨_, r⟩, z2⟩ := z1
        rw [rv_bl] at r
        exact ⟨k, r, z2 k w ExtE.refl R rfl⟩
      | _ => obtain ⟨E, m, w, rfl, R, re, ⟨_, r⟩, z2⟩ := z1; exact z2.elim
theorem jt_cmp {op : CmpOp} {r : R2} {o : Op2} (hop : OpR X (compareOp op) r) (hs : Op2S X.K G r o) (ha : PE X a (tE X.K G W f)) (hb : PE X b (tE X.K G W g)) (hm : behindInMarks op b = false) : PT X (.Compare a [op] [b] pos) (tT X.K G W (tB (e2 o f g))) :=
  PT.imp (pt_cmpR hop ha hb hm) fun σ H Q z => tE2 hs (tB_of z)
theorem jt_chain {op op' : CmpOp} {r r' : R2} {o o' : Op2} (hop : OpR X (compareOp op) r) (hop' : OpR X (compareOp op') r') (hs : Op2S X.K G r o) (hs' : Op2S X.K G r' o') (ha : PE X a (tE X.K G W f)) (hb : PE X b (tE X.K G W g)) (hc : PE X c (tE X.K G W h)) (hm : lastMarks [op, op'] [b, c] = false) : PT X (.Compare a [op, op'] [b, c] pos) (tT X.K G W (tB (e3 o o' f g h))) :=
  PT.imp (pt_chain hop hop' ha hb hc hm) fun σ H Q z => tE3 hs hs' (tB_of z)
theorem jt_tru (ha : PE X a (tE X.K G W f)) (he : ∀ whole, isTrue a X.env whole = (do let v ← whole; standAt a.pos; holding [v] (truthy v))) : PT X a (tT X.K G W (tV f)) :=
  PT.imp (pt_truth ha he) fun σ H Q z => (tX.bind (g := fun _ x m1 => Res.of (pTru x) m1) mono_true z).imp fun v H1 ⟨x, z1⟩ => by
    obtain ⟨E, m, w, rfl, R, re, ⟨_, r⟩, z2⟩ := z1
    cases o : pTru x with
    | none => rw [o] at z2; exact z2.elim
    | some k =>
      rw [o] at z2
      exact ⟨k, tru_of r o, z2 k w ExtE.refl R rfl⟩
theorem jt_not (ha : PT X a (tT X.K G W p)) : PT X (.UnaryOp .Not a pos) (tT X.K G W (tNotF p)) :=
  PT.imp (pt_not ha) fun σ H Q z => (tX.bind (g := fun _ b m1 => .ok (!b) m1) mono_true z).imp fun v H1 ⟨x, z1⟩ => by
    obtain ⟨E, m, w, rfl, R, re, ⟨_, rfl⟩, z2⟩ := z1
    exact z2 _ w ExtE.refl R rfl
theorem jw_and1 (ha : PT X a (tT X.K G W p)) : PW X (.BoolOp .And [a] pos) (tT X.K G W p) := pw_and1 ha
theorem jw_or1 (ha : PT X a (tT X.K G W p)) : PW X (.BoolOp .Or [a] pos) (tT X.K G W p) := pw_or1 ha
theorem jw_and (ha : PT X a (tT X.K G W p)) (hb : PW X (.BoolOp .And (b :: rest) pos) (tT X.K G W q)) : PW X (.BoolOp .And (a :: b :: rest) pos) (tT X.K G W (tAndF p q)) :=
  PW.imp (pw_and ha hb) fun σ H Q z => (tX.bind (g := fun E b m1 => if b = true then q E m1 else .ok false m1) mono_true z).imp fun v H1 ⟨x, z1⟩ => by
    obtain ⟨E, m, w, rfl, R, re, ⟨_, rfl⟩, z2⟩ := z1
    cases x with
    | true => exact iteT ⟨E, m, w, rfl, R, re, trivial, z2⟩
    | false => exact iteF (z2 false w ExtE.refl R rfl)
theorem jw_or (ha : PT X a (tT X.K G W p)) (hb : PW X (.BoolOp .Or (b :: rest) pos) (tT X.K G W q)) : PW X (.BoolOp .Or (a :: b :: rest) pos) (tT X.K G W (tOrF p q)) :=
  PW.imp (pw_or ha hb) fun σ H Q z => (tX.bind (g := fun E b m1 => if b = true then .ok true m1 else q E m1) mono_true z).imp fun v H1 ⟨x, z1⟩ => by
    obtain ⟨E, m, w, rfl, R, re, ⟨_, rfl⟩, z2⟩ := z1
    cases x with
    | true => exact iteT (z2 true w ExtE.refl R rfl)
    | false => exact iteF ⟨E, m, w, rfl, R, re, trivial, z2⟩
theorem je_if (hc : PT X c (tT X.K G W p)) (ha : PE X a (tE X.K G W f)) (hb : PE X b (tE X.K G W g)) : PE X (.IfExp c a b pos) (tE X.K G W (eIf p f g)) :=
  PE.imp (pe_ifExp hc ha hb) fun σ H Q z => (tX.bind (rel := fun _ a b => a = b) (f := p) (g := fun E b m1 => if b = true then f E m1 else g E m1) mono_true z).imp fun v H1 ⟨x, z1⟩ => by
    obtain ⟨E, m, w, rfl, R, re, ⟨_, rfl⟩, z2⟩ := z1
    cases x with
    | true => exact iteT ⟨E, m, w, rfl, R, re, trivial, z2⟩
    | false => exact iteF ⟨E, m, w, rfl, R, re, trivial, z2⟩
theorem je_one {op : BoolOp} (ha : PE X a (tE X.K G W f)) : PE X (.BoolOp op [a] pos) (tE X.K G W f) := pe_one ha
/-- the truth of what stands -/
theorem at_tru {P : Wd → Prop} {x : PV} {v : V} {k : Mem → Bool → Res PV} {Q : VK} (z : At X.K G σ H (fun w => P w ∧ RV X.K G w x v) fun _ m w => fin (RV X.K G) X.K G W w σ Q ((Res.of (pTru x) m).bind fun b m2 => k m2 b)) :
    ∃ b, TruV X.K v H b ∧ At X.K G σ H (fun w => P w ∧ RV X.K G w x v) fun _ m w => fin (RV X.K G) X.K G W w σ Q (k m b) := by
  obtain ⟨E, m, w, rfl, R, re, ⟨p, r⟩, z2⟩ := z
  cases o : pTru x with
  | none => rw [o] at z2; exact z2.elim
  | some b =>
    rw [o] at z2
    exact ⟨b, tru_of r o, E, m, w, rfl, R, re, ⟨p, r⟩, z2⟩
theorem je_and (ha : PE X a (tE X.K G W f)) (hb : PE X (.BoolOp .And (b :: rest) pos) (tE X.K G W g)) : PE X (.BoolOp .And (a :: b :: rest) pos) (tE X.K G W (eAnd f g)) :=
  PE.imp (pe_andT ha hb) fun σ H Q z => (tX.bind (f := f) (g := fun E x m1 => (Res.of (pTru x) m1).bind fun b m2 => if b = true then g E m2 else .ok x m2) mono_true z).imp fun v H1 ⟨x, z1⟩ => by
    obtain ⟨E, m, w, rfl, R, re, ⟨_, r⟩, z2⟩ := z1
    cases o : pTru x with
    | none => rw [o] at z2; exact z2.elim
    | some k =>
      rw [o] at z2
      refine ⟨k, tru_of r o, ?_⟩
      cases k with
      | true => exact iteT ⟨E, m, w, rfl, R, re, trivial, z2⟩
      | false => exact iteF (z2 v w ExtE.refl R r)
theorem je_or (ha : PE X a (tE X.K G W f)) (hb : PE X (.BoolOp .Or (b :: rest) pos) (tE X.K G W g)) : PE X (.BoolOp .Or (a :: b :: rest) pos) (tE X.K G W (eOr f g)) :=
  PE.imp (pe_orT ha hb) fun σ H Q z => (tX.bind (f := f) (g := fun E x m1 => (Res.of (pTru x) m1).bind fun b m2 => if b = true then .ok x m2 else g E m2) mono_true z).imp fun v H1 ⟨x, z1⟩ => by
    obtain ⟨E, m, w, rfl, R, re, ⟨_, r⟩, z2⟩ := z1
    cases o : pTru x with
    | none => rw [o] at z2; exact z2.elim
    | some k =>
      rw [o] at z2
      refine ⟨k, tru_of r o, ?_⟩
      cases k with
      | true => exact iteT (z2 v w ExtE.refl R r)
      | false => exact iteF ⟨E, m, w, rfl, R, re, trivial, z2⟩
theorem je_not (ha : PE X a (tE X.K G W f)) : PE X (.UnaryOp .Not a pos) (tE X.K G W (eNot f)) :=
  PE.imp (pe_notT ha) fun σ H Q z => (tX.bind (rel := RV X.K G) (rel' := RV X.K G) (f := f) (g := fun E x m1 => (Res.of (pTru x) m1).bind fun b m2 => Res.ok (PV.bl (!b)) m2) mono_true z).imp fun v H1 ⟨x, z1⟩ => by
    obtain ⟨E, m, w, rfl, R, re, ⟨_, r⟩, z2⟩ := z1
    cases o : pTru x with
    | none => rw [o] at z2; exact z2.elim
    | some k =>
      rw [o] at z2
      exact ⟨k, tru_of r o, z2 _ w ExtE.refl R (rv_bl.mpr rfl)⟩
/-! ### arguments, displays -/
variable {es : List Expr} {fa : AF}
theorem ja_nil : PA X [] (tA X.K G W aNil) := PA.imp pa_nil fun σ H Q z => by
  obtain ⟨E, m, w, rfl, R, re, _, z2⟩ := z
  exact z2 [] w ExtE.refl R RVs.nil
theorem ja_cons (ha : PE X a (tE X.K G W f)) (hr : PA X es (tA X.K G W fa)) (hs : starEach (a :: es) X.env = (false, eval a X.env) :: starEach es X.env) : PA X (a :: es) (tA X.K G W (aCons f fa)) :=
  PA.imp (pa_cons ha hr hs) fun σ H Q z => (tX.bind (rel := RV X.K G) (f := f) (g := fun E x m1 => (fa E m1).bind fun xs m2 => .ok (x :: xs) m2) mono_true z).imp fun v H1 ⟨x, z1⟩ =>
    (tX.bind (rel := RVs X.K G) (f := fa) (g := fun _ xs m2 => .ok (x :: xs) m2) (mono_rv mono_true) z1).imp fun vs H2 ⟨xs, z2⟩ => At.fin1 (fun w p => RVs.cons p.1.2 p.2) z2
theorem at_if {α β : Type} {rel : Wd → α → β → Prop} {P : Wd → Prop} {c : Prop} [Decidable c] {k : Mem → Res α} {Q : β → Hp → Prop} (z : At X.K G σ H P fun _ m w => fin rel X.K G W w σ Q (if c then k m else .bad)) : c ∧ At X.K G σ H P fun _ m w => fin rel X.K G W w σ Q (k m) := by
  obtain ⟨E, m, w, rfl, R, re, p, z2⟩ := z
  by_cases hc : c
  · rw [if_pos hc] at z2
    exact ⟨hc, E, m, w, rfl, R, re, p, z2⟩
  · rw [if_neg hc] at z2
    exact z2.elim
theorem je_tup {x1 : Nat} (ha : PA X es (tA X.K G W fa)) : PE X (.Tuple es x1 pos) (tE X.K G W (eTup fa)) :=
  PE.imp (pe_tup ha) fun σ H Q z => (tX.bind (rel := RVs X.K G) (rel' := RV X.K G) (f := fa) (g := fun _ xs m1 => if xs.length ≤ sizeLine then Res.ok (PV.tup xs) m1 else .bad) mono_true z).imp fun vs H1 ⟨xs, z1⟩ => by
    obtain ⟨hl, E, m, w, rfl, R, re, ⟨_, r⟩, z2⟩ := at_if z1
    refine ⟨by rw [← r.length]; exact hl, fun p hp => ?_⟩
    have b : Behind X.K G w m (.tup xs) Q := z2
    exact b.tup R r p hp
theorem je_lst (ha : PA X es (tA X.K G W fa)) : PE X (.List es pos) (tE X.K G W (eLst fa)) :=
  PE.imp (pe_lst ha) fun σ H Q z => (tX.bind (rel := RVs X.K G) (rel' := RV X.K G) (f := fa) (g := fun _ xs m1 => if xs.length ≤ sizeLine then Res.ok (PV.lst xs) m1 else .bad) mono_true z).imp fun vs H1 ⟨xs, z1⟩ => by
    obtain ⟨hl, E, m, w, rfl, R, re, ⟨_, r⟩, z2⟩ := at_if z1
    refine ⟨by rw [← r.length]; exact hl, fun p hp => ?_⟩
    have b : Behind X.K G w m (.lst xs) Q := z2
    exact b.lst R r p hp
/-! ### calls of what is built in -/
theorem tEN {r : List V → Hp → VK → Prop} {op : OpN} (hs : OpNS X.K G r op) {Q : VK} (z : tE X.K G W (eN op fa) σ H Q) : tCB r (tA X.K G W fa) σ H Q :=
  (tX.bind (rel := RVs X.K G) (f := fa) (g := fun _ xs m1 => Res.of (op xs m1) m1) mono_true z).imp fun v H1 ⟨x, z1⟩ => at_N hs z1
theorem je_callB {id : String} {r : List V → Hp → VK → Prop} {op : OpN} {x : Str} {p : Pos} {e : Expr} (hc : CallR X (.builtin id) r) (hs : OpNS X.K G r op) (hg : Gl X x) (hm : X.mg x = none) (hv : bootBuiltins x = some (.builtin id)) (ha : PA X (e :: es) (tA X.K G W fa))
    (hn : x ≠ "__name__") (hdb : (x == ("__debug__" : Str)) = false) (he : starEach (e :: es) X.env = (false, eval e X.env) :: starEach es X.env) (hpl : (backTo pos (starEach es X.env)).any (·.1) = false) : PE X (.Call (.Name x p) (e :: es) [] pos) (tE X.K G W (eN op fa)) :=
  PE.imp (pe_callB hc hg hm hv ha hn hdb he hpl) fun σ H Q z => tEN hs z
theorem je_callTy {T : String} {r : List V → Hp → VK → Prop} {op : OpN} {x : Str} {p : Pos} {e : Expr} (hc : CallR X (.type T) r) (hs : OpNS X.K G r op) (hg : Gl X x) (hm : X.mg x = none) (hv : bootBuiltins x = some (.type T)) (ha : PA X (e :: es) (tA X.K G W fa))
    (hn : x ≠ "__name__") (hdb : (x == ("__debug__" : Str)) = false) (he : starEach (e :: es) X.env = (false, eval e X.env) :: starEach es X.env) (hpl : (backTo pos (starEach es X.env)).any (·.1) = false) : PE X (.Call (.Name x p) (e :: es) [] pos) (tE X.K G W (eN op fa)) :=
  PE.imp (pe_callTy hc hg hm hv ha hn hdb he hpl) fun σ H Q z => tEN hs z
/-! ### a constant of the module -/
theorem je_glob {x : Str} {v : V} {u : Value} {y : PV} (h : PE X a (tC v)) (r : ∀ w, RV X.K G w y v) : PE X a (tE X.K G W (eC y)) := je_const h r
end
/-! ### defs -/
/-- a def as a function of plain values -/
abbrev FF := List PV → Mem → Res PV
/-- what such a def promises -/
def spF (K : PySem.W.Frag) (G : Gc) (n : Nat) (F : FF) : Sp := fun vs H Q E => ∃ (xs : List PV) (m : Mem) (w : Wd), w.H = H ∧ RM K G w m ∧ RVs K G w xs vs ∧ xs.length = n ∧ match F xs m with
  | .ok x m' => ∀ v w', ExtE w w' → RM K G w' m' → RV K G w' x v → Q v w'.H
  | .exc c x m' => ∀ d y w', ExtE w w' → RM K G w' m' → w'.H d = some (.xd [(valueS, y)]) → RV K G w' x y → E (.ref (G.ca c)) (some d) w'.H
  | .bad => False
def eF (n : Nat) (F : FF) (fa : AF) : EF := fun E m => (fa E m).bind fun xs m1 => if xs.length = n then F xs m1 else .bad
section
variable {X : Cx} {G : Gc} {W : WX} {pos : Pos}
theorem spF.len {K : PySem.W.Frag} {n : Nat} {F : FF} {vs : List V} {H : Hp} {Q : VK} {E : XK} (h : spF K G n F vs H Q E) : vs.length = n := by
  obtain ⟨xs, m, w, _, _, r, l, _⟩ := h
  rw [← r.length, l]
theorem tEF {n : Nat} {F : FF} {fa : AF} {σ : L2.St} {H : Hp} {Q : VK} (z : tE X.K G W (eF n F fa) σ H Q) : tCallS (spF X.K G n F) (WE W) (tA X.K G W fa) σ H Q :=
  (tX.bind (rel := RVs X.K G) (f := fa) (g := fun _ xs m1 => if xs.length = n then F xs m1 else .bad) mono_true z).imp fun vs H1 ⟨xs, z1⟩ => by
    obtain ⟨hl, E, m, w, e, R, re, ⟨_, r⟩, z2⟩ := at_if (k := fun m => F xs m) z1
    refine ⟨xs, m, w, e, R, r, hl, ?_⟩
    cases q : F xs m with
    | ok x m' => rw [q] at z2; exact z2
    | exc c x m' => rw [q] at z2; exact z2
    | bad => rw [q] at z2; exact z2
theorem je_call {k n : Nat} {f : Addr} {fd : FuncData} {ps : List Str} {F : FF} {x : Str} {p : Pos} {e : Expr} {es : List Expr} {fa : AF} (FO : FnOk X.prog X.w X.K X.mg X.base (L2.CX X.prog X.w) k f fd ps (spF X.K G n F)) (hr : Room k X.A) (hg : Gl X x) (hm : X.mg x = some (.ref f)) (hk : PySem.W.keepIn X.K (.ref f) = true)
    (hb : Binds X.K fd ps []) (tk : Takes X W) (ha : PA X (e :: es) (tA X.K G W fa)) (hdb : (x == ("__debug__" : Str)) = false) (he : starEach (e :: es) X.env = (false, eval e X.env) :: starEach es X.env) (hpl : (backTo pos (starEach es X.env)).any (·.1) = false) : PE X (.Call (.Name x p) (e :: es) [] pos) (tE X.K G W (eF n F fa)) :=
  PE.imp (pe_callS FO hr hg hm hk hb (fun σ => passAt tk σ) ha hdb he hpl) fun σ H Q z => tEF z
end
end Pv
set_option maxRecDepth 100000
set_option maxHeartbeats 2000000
set_option autoImplicit false
/-! Pv4: statements. -/
namespace Pv
open PySem PySem.Spec PyProof.Rows L2
inductive Out where
  | next (E : Ev) (m : Mem) | ret (v : PV) (m : Mem) | brk (E : Ev) (m : Mem) | cnt (E : Ev) (m : Mem) | exc (c : Nat) (v : PV) (E : Ev) (m : Mem) | bad
abbrev SF := Ev → Mem → Out
/-- the state within a def's body: B the entry -/
structure SI (K : PySem.W.Frag) (G : Gc) (B w : Wd) (E : Ev) (σ : L2.St) (m : Mem) : Prop where
  rb : ∃ mb, RM K G B mb
  rm : RM K G w m
  re : RE K G w E σ
  ext : ExtE B w
  fresh : ∀ (i : Nat) (xs : List PV) (a : Addr), E[i]? = some (some (.own xs)) → σ[i]? = some (some (.ref a)) → NL B a
/-- what is asked behind a statement -/
def finS (K : PySem.W.Frag) (G : Gc) (W : WX) (B w : Wd) (D : Ends) : Out → Prop
  | .next E m => ∀ σ w', Ext w w' → SI K G B w' E σ m → D.nx σ w'.H
  | .ret x m => ∀ v w', ExtE B w' → RM K G w' m → RV K G w' x v → D.rt v w'.H
  | .brk E m => ∀ σ w', Ext w w' → SI K G B w' E σ m → D.bk σ w'.H
  | .cnt E m => ∀ σ w', Ext w w' → SI K G B w' E σ m → D.ct σ w'.H
  | .exc c x E m => ∀ d y σ w', SI K G B w' E σ m → w'.H d = some (.xd [(valueS, y)]) → RV K G w' x y → W (.ref (G.ca c)) (some d) σ w'.H
  | .bad => False
def tS (K : PySem.W.Frag) (G : Gc) (W : WX) (g : SF) : TS := fun D σ H => ∃ E m w B, w.H = H ∧ SI K G B w E σ m ∧ finS K G W B w D (g E m)
section
variable {K : PySem.W.Frag} {G : Gc} {W : WX} {B w w1 : Wd} {m m1 : Mem} {E : Ev} {σ : L2.St} {D : Ends}
theorem SI.step (s : SI K G B w E σ m) (e : ExtE w w1) (R : RM K G w1 m1) : SI K G B w1 E σ m1 := by
  obtain ⟨mb, rb⟩ := s.rb
  exact ⟨s.rb, R, e.re s.rm s.re, ExtE.trans rb s.rm s.ext e, s.fresh⟩
/-- an expression within a body -/
theorem SI.tX {α β : Type} {rel : Wd → α → β → Prop} {f : Ev → Mem → Res α} {Q : β → Hp → Prop} (s : SI K G B w E σ m)
    (hok : ∀ a m1, f E m = .ok a m1 → ∀ v w1, ExtE w w1 → SI K G B w1 E σ m1 → rel w1 a v → Q v w1.H)
    (hex : ∀ c x m1, f E m = .exc c x m1 → ∀ d y w1, SI K G B w1 E σ m1 → w1.H d = some (.xd [(valueS, y)]) → RV K G w1 x y → W (.ref (G.ca c)) (some d) σ w1.H)
    (hb : f E m ≠ .bad) : Pv.tX rel K G W f σ w.H Q := by
  refine ⟨E, m, w, rfl, s.rm, s.re, trivial, ?_⟩
  show fin rel K G W w σ Q (f E m)
  cases q : f E m with
  | ok a m1 => exact fun v w1 e R r => hok a m1 q v w1 e (s.step e R) r
  | exc c x m1 => exact fun d y w1 e R h1 h2 => hex c x m1 q d y w1 (s.step e R) h1 h2
  | bad => exact hb q
theorem finS.back {o : Out} (R : RM K G w m) (R1 : RM K G w1 m1) (e : Ext w w1) (h : finS K G W B w D o) : finS K G W B w1 D o := by
  cases o with
  | next E m => exact fun σ w' e' s => h σ w' (Ext.trans R R1 e e') s
  | ret x m => exact h
  | brk E m => exact fun σ w' e' s => h σ w' (Ext.trans R R1 e e') s
  | cnt E m => exact fun σ w' e' s => h σ w' (Ext.trans R R1 e e') s
  | exc c x E m => exact h
  | bad => exact h
/-- the slots, changed at some places -/
structure Chg (is : List Nat) (E : Ev) (σ : L2.St) (E' : Ev) (σ' : L2.St) : Prop where
  len : σ'.length = σ.length
  out : ∀ j, j ∉ is → σ'[j]? = σ[j]? ∧ E'[j]? = E[j]?
  noown : ∀ j ∈ is, ∀ xs, E'[j]? ≠ some (some (.own xs))
theorem Chg.refl {is : List Nat} (h : ∀ j ∈ is, ∀ xs, E[j]? ≠ some (some (.own xs))) : Chg is E σ E σ := ⟨rfl, fun _ _ => ⟨rfl, rfl⟩, h⟩
theorem Chg.trans {is js : List Nat} {E1 E2 : Ev} {σ1 σ2 : L2.St} (a : Chg is E σ E1 σ1) (b : Chg js E1 σ1 E2 σ2) : Chg (is ++ js) E σ E2 σ2 :=
  ⟨b.len.trans a.len, fun j h => by
    rw [List.mem_append] at h
    have h1 := a.out j (fun z => h (.inl z))
    have h2 := b.out j (fun z => h (.inr z))
    exact ⟨h2.1.trans h1.1, h2.2.trans h1.2⟩, fun j h xs q => by
    by_cases hj : j ∈ js
    · exact b.noown j hj xs q
    · rw [(b.out j hj).2] at q
      rcases List.mem_append.mp h with h | h
      · exact a.noown j h xs q
      · exact hj h⟩
theorem RE.set (s : RE K G w E σ) {i : Nat} {x : PV} {v : V} (r : RV K G w x v) : RE K G w (E.set i (some x)) (σ.set i (some v)) ∧ Chg [i] E σ (E.set i (some x)) (σ.set i (some v)) := by
  have hx : ∀ xs, x ≠ .own xs := fun xs z => by rw [z] at r; exact rv_own r
  have hl := s.len
  have no : ∀ xs, (E.set i (some x))[i]? ≠ some (some (.own xs)) := fun xs z => by
    have hi : i < E.length := by
      have q := (List.getElem?_eq_some_iff.mp z).1
      rwa [List.length_set] at q
    rw [List.getElem?_set_self hi] at z
    exact hx xs (Option.some.inj (Option.some.inj z))
  have ne : ∀ {j : Nat} {xs : List PV}, (E.set i (some x))[j]? = some (some (.own xs)) → i ≠ j := fun {j xs} h z => by
    subst z
    exact no xs h
  refine ⟨⟨by rw [List.length_set, List.length_set, hl], fun j y h => ?_, fun j k xs ys a hne h1 h2 h3 h4 => ?_⟩, ⟨List.length_set, fun j h => ?_, fun j h xs => ?_⟩⟩
  · by_cases hj : i = j
    · subst hj
      have hi : i < E.length := by
        have q := (List.getElem?_eq_some_iff.mp h).1
        rwa [List.length_set] at q
      rw [List.getElem?_set_self hi] at h
      cases h
      exact ⟨v, List.getElem?_set_self (by omega), .inl r⟩
    · rw [List.getElem?_set_ne hj] at h ⊢
      exact s.val j y h
  · have n1 := ne h1
    have n2 := ne h2
    rw [List.getElem?_set_ne n1] at h1 h3
    rw [List.getElem?_set_ne n2] at h2 h4
    exact s.dis j k xs ys a hne h1 h2 h3 h4
  · have hj : i ≠ j := fun z => h (by rw [z]; exact List.mem_singleton.mpr rfl)
    exact ⟨List.getElem?_set_ne hj, List.getElem?_set_ne hj⟩
  · obtain rfl := List.mem_singleton.mp h
    exact no xs
theorem SI.chg {is : List Nat} {E' : Ev} {σ' : L2.St} (s : SI K G B w E σ m) (r : RE K G w E' σ') (c : Chg is E σ E' σ') : SI K G B w E' σ' m :=
  ⟨s.rb, s.rm, r, s.ext, fun j xs a h1 h2 => by
    have hj : j ∉ is := fun z => c.noown j z xs h1
    have q := c.out j hj
    rw [q.2] at h1
    rw [q.1] at h2
    exact s.fresh j xs a h1 h2⟩
/-- a slot is filled -/
theorem SI.set (s : SI K G B w E σ m) {i : Nat} {x : PV} {v : V} (r : RV K G w x v) : SI K G B w (E.set i (some x)) (σ.set i (some v)) m := by
  obtain ⟨h1, h2⟩ := s.re.set (i := i) r
  exact s.chg h1 h2
end
/-! ### statements by functions -/
def sPass : SF := fun E m => .next E m
def sSeq (g h : SF) : SF := fun E m => match g E m with
  | .next E1 m1 => h E1 m1
  | .ret v m1 => .ret v m1
  | .brk E1 m1 => .brk E1 m1
  | .cnt E1 m1 => .cnt E1 m1
  | .exc c v E1 m1 => .exc c v E1 m1
  | .bad => .bad
/-- an expression, then what its value leads to -/
def sE {α : Type} (f : Ev → Mem → Res α) (k : α → Ev → Mem → Out) : SF := fun E m => match f E m with
  | .ok x m1 => k x E m1
  | .exc c v m1 => .exc c v E m1
  | .bad => .bad
def sSet (i : Nat) (f : EF) : SF := sE f fun x E m => .next (E.set i (some x)) m
def sRet (f : EF) : SF := sE f fun x _ m => .ret x m
def sRetN : SF := fun _ m => .ret .non m
def sDrop (f : EF) : SF := sE f fun _ E m => .next E m
def sIf (p : TF) (g h : SF) : SF := sE p fun b E m => if b = true then g E m else h E m
def sBrk : SF := fun E m => .brk E m
def sCnt : SF := fun E m => .cnt E m
/-- a target -/
abbrev GF := PV → Ev → Option Ev
def gN (i : Nat) : GF := fun x E => some (E.set i (some x))
def gTs : List GF → List PV → Ev → Option Ev
  | [], [], E => some E
  | g :: gs, x :: xs, E => match g x E with
    | some E1 => gTs gs xs E1
    | none => none
  | _, _, _ => none
def gT (gs : List GF) : GF := fun x E => match x with
  | .tup xs => gTs gs xs E
  | _ => none
/-- target = value -/
def sAsg (f : EF) (g : GF) : SF := sE f fun x E m => match g x E with
  | some E1 => .next E1 m
  | none => .bad
def setAll : List Nat → List PV → Ev → Option Ev
  | [], [], E => some E
  | i :: is, x :: xs, E => setAll is xs (E.set i (some x))
  | _, _, _ => none
/-- a, b = x, y of plain local names -/
def sPar (is : List Nat) (fa : AF) : SF := sE fa fun xs E m => match setAll is xs E with
  | some E1 => .next E1 m
  | none => .bad
def whileN (p : TF) (b : SF) : Nat → SF
  | 0, _, _ => .bad
  | n + 1, E, m => match p E m with
    | .ok true m1 => (match b E m1 with
      | .next E2 m2 => whileN p b n E2 m2
      | .cnt E2 m2 => whileN p b n E2 m2
      | .brk E2 m2 => .next E2 m2
      | .ret v m2 => .ret v m2
      | .exc c v E2 m2 => .exc c v E2 m2
      | .bad => .bad)
    | .ok false m1 => .next E m1
    | .exc c v m1 => .exc c v E m1
    | .bad => .bad
open Classical in
noncomputable def sWhile (p : TF) (b : SF) : SF := fun E m => if h : ∃ n, whileN p b n E m ≠ .bad then whileN p b (Classical.choose h) E m else .bad
section
variable {X : Cx} {G : Gc} {W : WX} {pos : Pos} {st : Stmt} {rest : List Stmt} {a e : Expr} {f : EF} {g h : SF} {p : TF}
/-- a statement that begins with an expression -/
theorem tS_E {α β : Type} {rel : Wd → α → β → Prop} {f : Ev → Mem → Res α} {k : α → Ev → Mem → Out} {D : Ends} {σ : L2.St} {H : Hp} {Q : β → Hp → Prop} (z : tS X.K G W (sE f k) D σ H)
    (q : ∀ (E : Ev) (m : Mem) (w B : Wd) (x : α) (v : β), SI X.K G B w E σ m → rel w x v → finS X.K G W B w D (k x E m) → Q v w.H) : tX rel X.K G W f σ H Q := by
  obtain ⟨E, m, w, B, rfl, s, z⟩ := z
  refine s.tX (fun x m1 e v w1 e1 s1 r => ?_) (fun c x m1 e d y w1 s1 h1 h2 => ?_) (fun e => ?_)
  · have z1 : finS X.K G W B w D (match f E m with | .ok x m1 => k x E m1 | .exc c v m1 => .exc c v E m1 | .bad => .bad) := z
    rw [e] at z1
    exact q E m1 w1 B x v s1 r (finS.back s.rm s1.rm e1.toExt z1)
  · have z1 : finS X.K G W B w D (match f E m with | .ok x m1 => k x E m1 | .exc c v m1 => .exc c v E m1 | .bad => .bad) := z
    rw [e] at z1
    exact z1 d y σ w1 s1 h1 h2
  · have z1 : finS X.K G W B w D (match f E m with | .ok x m1 => k x E m1 | .exc c v m1 => .exc c v E m1 | .bad => .bad) := z
    rw [e] at z1
    exact z1
theorem js_pass : PS X (.Pass pos) (tS X.K G W sPass) := PS.imp ps_pass fun D σ H z => by
  obtain ⟨E, m, w, B, rfl, s, z⟩ := z
  exact z σ w Ext.refl s
theorem js_brk : PS X (.Break pos) (tS X.K G W sBrk) := PS.imp ps_break fun D σ H z => by
  obtain ⟨E, m, w, B, rfl, s, z⟩ := z
  exact z σ w Ext.refl s
theorem js_cnt : PS X (.Continue pos) (tS X.K G W sCnt) := PS.imp ps_continue fun D σ H z => by
  obtain ⟨E, m, w, B, rfl, s, z⟩ := z
  exact z σ w Ext.refl s
theorem jss_nil : PSs X [] (tS X.K G W sPass) := PSs.imp pss_nil fun D σ H z => by
  obtain ⟨E, m, w, B, rfl, s, z⟩ := z
  exact z σ w Ext.refl s
theorem jss_one (h1 : PS X st (tS X.K G W g)) : PSs X [st] (tS X.K G W g) := pss_one h1
theorem jss_cons (h1 : PS X st (tS X.K G W g)) (h2 : PSs X rest (tS X.K G W h)) : PSs X (st :: rest) (tS X.K G W (sSeq g h)) := PSs.imp (pss_cons h1 h2) fun D σ H z => by
  obtain ⟨E, m, w, B, rfl, s, z⟩ := z
  refine ⟨E, m, w, B, rfl, s, ?_⟩
  have z1 : finS X.K G W B w D (match g E m with
    | .next E1 m1 => h E1 m1
    | .ret v m1 => .ret v m1
    | .brk E1 m1 => .brk E1 m1
    | .cnt E1 m1 => .cnt E1 m1
    | .exc c v E1 m1 => .exc c v E1 m1
    | .bad => .bad) := z
  cases q : g E m with
  | next E1 m1 =>
    rw [q] at z1
    exact fun σ1 w1 e1 s1 => ⟨E1, m1, w1, B, rfl, s1, finS.back s.rm s1.rm e1 z1⟩
  | ret v m1 => rw [q] at z1; exact z1
  | brk E1 m1 => rw [q] at z1; exact z1
  | cnt E1 m1 => rw [q] at z1; exact z1
  | exc c v E1 m1 => rw [q] at z1; exact z1
  | bad => rw [q] at z1; exact z1
theorem js_ret (he : PE X e (tE X.K G W f)) : PS X (.Return (some e) pos) (tS X.K G W (sRet f)) := PS.imp (ps_ret he) fun D σ H z =>
  tS_E (rel := RV X.K G) z fun E m w B x v s r q => q v w s.ext s.rm r
theorem js_retN : PS X (.Return none pos) (tS X.K G W sRetN) := PS.imp ps_retN fun D σ H z => by
  obtain ⟨E, m, w, B, rfl, s, z⟩ := z
  exact z .non w s.ext s.rm (rv_non.mpr rfl)
theorem js_expr (he : PE X e (tE X.K G W f)) (hs : swapsWith e none pos.line X.env = pure false) : PS X (.Expr e pos) (tS X.K G W (sDrop f)) := PS.imp (ps_expr he hs) fun D σ H z =>
  tS_E (rel := RV X.K G) z fun E m w B x v s r q => q σ w Ext.refl s
theorem js_doc {x : Str} {j : Nat} {pos' : Pos} : PS X (.Expr (.Constant (.str x) j pos) pos') (tS X.K G W sPass) := PS.imp ps_doc fun D σ H z => by
  obtain ⟨E, m, w, B, rfl, s, z⟩ := z
  exact z σ w Ext.refl s
theorem js_if {c : Expr} {s1 s2 : List Stmt} (hc : PT X c (tT X.K G W p)) (ha : PSs X s1 (tS X.K G W g)) (hb : PSs X s2 (tS X.K G W h)) : PS X (.If c s1 s2 pos) (tS X.K G W (sIf p g h)) := PS.imp (ps_if hc ha hb) fun D σ H z =>
  tS_E (rel := fun _ a b => a = b) (f := p) z fun E m w B x v s r q => by
    subst r
    cases x with
    | true => exact iteT ⟨E, m, w, B, rfl, s, q⟩
    | false => exact iteF ⟨E, m, w, B, rfl, s, q⟩
theorem js_set {i : Nat} {x : Str} {pos' : Pos} (hN : X.N.Nodup) (hi : X.N[i]? = some x) (hx : Loc X.env.scope x) (he : PE X e (tE X.K G W f)) (hs : swapsWith e (some (.Name x pos')) pos.line X.env = pure false) (hf : X.fn x = true ∨ X.env.scope.names.lookup x = some .local) :
    PS X (.Assign [.Name x pos'] e pos) (tS X.K G W (sSet i f)) := PS.imp (ps_set hN hi hx he hs hf) fun D σ H z =>
  tS_E (rel := RV X.K G) z fun E m w B x v s r q => q _ w Ext.refl (s.set r)
/-! ### targets -/
/-- the reading of a target -/
def tG (K : PySem.W.Frag) (G : Gc) (g : GF) (is : List Nat) : TG := fun v σ H Q => ∃ x E m w E', w.H = H ∧ RM K G w m ∧ RE K G w E σ ∧ RV K G w x v ∧ g x E = some E' ∧ ∀ σ', RE K G w E' σ' → Chg is E σ E' σ' → Q σ' H
def tGs (K : PySem.W.Frag) (G : Gc) (gs : List GF) (is : List Nat) : TGs := fun vs σ H Q => ∃ xs E m w E', w.H = H ∧ RM K G w m ∧ RE K G w E σ ∧ RVs K G w xs vs ∧ gTs gs xs E = some E' ∧ ∀ σ', RE K G w E' σ' → Chg is E σ E' σ' → Q σ' H
theorem PG.imp {X : Cx} {e : Expr} {t t' : TG} (h : PG X e t) (q : ∀ v σ H Q, t' v σ H Q → t v σ H Q) : PG X e t' := ⟨fun pins s σ H v u Q I r z => h.run pins s σ H v u Q I r (q v σ H Q z)⟩
theorem PGs.imp {X : Cx} {e : List Expr} {t t' : TGs} (h : PGs X e t) (q : ∀ v σ H Q, t' v σ H Q → t v σ H Q) : PGs X e t' := ⟨fun pins s σ H v u Q I r z => h.run pins s σ H v u Q I r (q v σ H Q z)⟩
theorem jg_name {i : Nat} {x : Str} (hN : X.N.Nodup) (hi : X.N[i]? = some x) (hx : Loc X.env.scope x) (hf : X.fn x = true ∨ X.env.scope.names.lookup x = some .local) : PG X (.Name x pos) (tG X.K G (gN i) [i]) := PG.imp (pg_name hN hi hx hf) fun v σ H Q z => by
  obtain ⟨x, E, m, w, E', rfl, R, s, r, e, q⟩ := z
  have e' : some (E.set i (some x)) = some E' := e
  cases e'
  obtain ⟨h1, h2⟩ := s.set (i := i) r
  exact q _ h1 h2
theorem jgs_nil : PGs X [] (tGs X.K G [] []) := PGs.imp pgs_nil fun vs σ H Q z => by
  obtain ⟨xs, E, m, w, E', rfl, R, s, r, e, q⟩ := z
  cases xs with
  | nil =>
    have e' : some E = some E' := e
    cases e'
    exact ⟨r.nil_inv, q σ s (Chg.refl (fun j h => absurd h (by simp)))⟩
  | cons x xs => cases e
theorem jgs_cons {e : Expr} {es : List Expr} {t : GF} {u : List GF} {is js : List Nat} (h1 : PG X e (tG X.K G t is)) (h2 : PGs X es (tGs X.K G u js)) (hs : (assignEach (e :: es) X.env).map (·.2) = assign e X.env :: (assignEach es X.env).map (·.2)) : PGs X (e :: es) (tGs X.K G (t :: u) (is ++ js)) :=
  PGs.imp (pgs_cons h1 h2 hs) fun vs σ H Q z => by
    obtain ⟨xs, E, m, w, E', rfl, R, s, r, e, q⟩ := z
    cases xs with
    | nil => cases e
    | cons x xs =>
      obtain ⟨v, vr, rfl, r1, r2⟩ := r.cons_inv
      have e1 : (match t x E with
        | some E1 => gTs u xs E1
        | none => none) = some E' := e
      cases et : t x E with
      | none => rw [et] at e1; cases e1
      | some E1 =>
        rw [et] at e1
        exact ⟨v, vr, rfl, x, E, m, w, E1, rfl, R, s, r1, et, fun σ1 s1 c1 => ⟨xs, E1, m, w, E', rfl, R, s1, r2, e1, fun σ2 s2 c2 => q σ2 s2 (c1.trans c2)⟩⟩
theorem gTs_len : ∀ (gs : List GF) (xs : List PV) (E E' : Ev), gTs gs xs E = some E' → gs.length = xs.length
  | [], [], _, _, _ => rfl
  | [], _ :: _, _, _, h => by cases h
  | _ :: _, [], _, _, h => by cases h
  | g :: gs, x :: xs, E, E', h => by
    have h1 : (match g x E with
      | some E1 => gTs gs xs E1
      | none => none) = some E' := h
    cases eg : g x E with
    | none => rw [eg] at h1; cases h1
    | some E1 =>
      rw [eg] at h1
      rw [List.length_cons, List.length_cons, gTs_len gs xs E1 E' h1]
theorem jg_tup {es : List Expr} {k n : Nat} {gs : List GF} {is : List Nat} (hc : X.calm = true) (h : PGs X es (tGs X.K G gs is)) (hn : (assignEach es X.env).length = n) (hst : (assignEach es X.env).findIdx? (·.1) = none) (hg : gs.length = n) : PG X (.Tuple es k pos) (tG X.K G (gT gs) is) :=
  PG.imp (pg_tup hc h hn hst) fun v σ H Q z => by
    obtain ⟨x, E, m, w, E', rfl, R, s, r, e, q⟩ := z
    cases x with
    | tup xs =>
      rw [rv_tup] at r
      obtain ⟨a, vs, rfl, s1, r1⟩ := r
      have e1 : gTs gs xs E = some E' := e
      exact ⟨a, vs, rfl, s1, by rw [← r1.length, ← gTs_len gs xs E E' e1, hg], xs, E, m, w, E', rfl, R, s, r1, e1, q⟩
    | _ => cases e
theorem js_asg {tg : Expr} {g : GF} {is : List Nat} (he : PE X e (tE X.K G W f)) (hg : PG X tg (tG X.K G g is)) (hs : swapsWithSole [tg] e pos.line X.env = pure false) (hw : swappedStores [tg] e X.env = pure none)
    (h1 : (assignEach [tg] X.env).map (·.2) = [assign tg X.env]) : PS X (.Assign [tg] e pos) (tS X.K G W (sAsg f g)) := PS.imp (ps_asg he hg hs hw h1) fun D σ H z =>
  tS_E (rel := RV X.K G) z fun E m w B x v s r q => by
    have q1 : finS X.K G W B w D (match g x E with
      | some E1 => .next E1 m
      | none => .bad) := q
    cases eg : g x E with
    | none => rw [eg] at q1; exact q1.elim
    | some E1 =>
      rw [eg] at q1
      exact ⟨x, E, m, w, E1, rfl, s.rm, s.re, r, eg, fun σ' s' c => q1 σ' w Ext.refl (s.chg s' c)⟩
theorem js_par2 {i j : Nat} {x y : Str} {b : Expr} {fa : AF} {px py pt : Pos} {kt k2 : Nat} {pt2 : Pos} (hc : X.calm = true) (hN : X.N.Nodup) (hi : X.N[i]? = some x) (hj : X.N[j]? = some y) (hij : i ≠ j)
    (hx : X.env.scope.names.lookup x = some .local) (hy : X.env.scope.names.lookup y = some .local) (ha : PA X [a, b] (tA X.K G W fa))
    (hw : swappedStores [.Tuple [.Name x px, .Name y py] kt pt] (.Tuple [a, b] k2 pt2) X.env = pure (some [x, y]))
    (hs : swapsWithSole [.Tuple [.Name x px, .Name y py] kt pt] (.Tuple [a, b] k2 pt2) pos.line X.env = pure false) :
    PS X (.Assign [.Tuple [.Name x px, .Name y py] kt pt] (.Tuple [a, b] k2 pt2) pos) (tS X.K G W (sPar [i, j] fa)) := PS.imp (ps_par hc hN hi hj hij hx hy ha hw hs) fun D σ H z =>
  tS_E (rel := RVs X.K G) z fun E m w B xs vs s r q => by
    cases xs with
    | nil => exact False.elim q
    | cons x1 xs =>
      cases xs with
      | nil => exact False.elim q
      | cons x2 xs =>
        cases xs with
        | nil =>
          obtain ⟨v1, r1, rfl, h1, h2⟩ := r.cons_inv
          obtain ⟨v2, r3, rfl, h3, h4⟩ := h2.cons_inv
          obtain rfl := h4.nil_inv
          have q1 : finS X.K G W B w D (.next ((E.set i (some x1)).set j (some x2)) m) := q
          exact ⟨v1, v2, rfl, q1 _ w Ext.refl ((s.set h1).set h3)⟩
        | cons x3 xs => exact False.elim q
theorem js_par3 {i j l : Nat} {x y z : Str} {b c : Expr} {fa : AF} {px py pz pt : Pos} {kt k2 : Nat} {pt2 : Pos} (hc : X.calm = true) (hN : X.N.Nodup) (hi : X.N[i]? = some x) (hj : X.N[j]? = some y) (hl : X.N[l]? = some z) (hij : i ≠ j) (hil : i ≠ l) (hjl : j ≠ l)
    (hx : X.env.scope.names.lookup x = some .local) (hy : X.env.scope.names.lookup y = some .local) (hz : X.env.scope.names.lookup z = some .local) (ha : PA X [a, b, c] (tA X.K G W fa))
    (hw : swappedStores [.Tuple [.Name x px, .Name y py, .Name z pz] kt pt] (.Tuple [a, b, c] k2 pt2) X.env = pure (some [x, y, z]))
    (hs : swapsWithSole [.Tuple [.Name x px, .Name y py, .Name z pz] kt pt] (.Tuple [a, b, c] k2 pt2) pos.line X.env = pure false) :
    PS X (.Assign [.Tuple [.Name x px, .Name y py, .Name z pz] kt pt] (.Tuple [a, b, c] k2 pt2) pos) (tS X.K G W (sPar [i, j, l] fa)) := PS.imp (ps_par3 hc hN hi hj hl hij hil hjl hx hy hz ha hw hs) fun D σ H z =>
  tS_E (rel := RVs X.K G) z fun E m w B xs vs s r q => by
    cases xs with
    | nil => exact False.elim q
    | cons x1 xs =>
      cases xs with
      | nil => exact False.elim q
      | cons x2 xs =>
        cases xs with
        | nil => exact False.elim q
        | cons x3 xs =>
          cases xs with
          | nil =>
            obtain ⟨v1, r1, rfl, h1, h2⟩ := r.cons_inv
            obtain ⟨v2, r3, rfl, h3, h4⟩ := h2.cons_inv
            obtain ⟨v3, r4, rfl, h5, h6⟩ := h4.cons_inv
            obtain rfl := h6.nil_inv
            have q1 : finS X.K G W B w D (.next (((E.set i (some x1)).set j (some x2)).set l (some x3)) m) := q
            exact ⟨v1, v2, v3, rfl, q1 _ w Ext.refl (((s.set h1).set h3).set h5)⟩
          | cons x4 xs => exact False.elim q
/-! ### while -/
theorem js_while {c : Expr} {body : List Stmt} (hp : PassesOwn (model X.prog X.w) X.A X.env X.xe) (hc : PT X c (tT X.K G W p)) (hb : PSs X body (tS X.K G W g)) : PS X (.While c body [] pos) (tS X.K G W (sWhile p g)) := PS.imp (ps_while hp hc hb) fun D σ H z => by
  obtain ⟨E, m, w, B, rfl, s, z⟩ := z
  have z0 : ∃ n, finS X.K G W B w D (whileN p g n E m) := by
    unfold sWhile at z
    split at z
    · exact ⟨_, z⟩
    · exact z.elim
  obtain ⟨n, z1⟩ := z0
  refine ⟨fun k σ H => ∃ E m w, w.H = H ∧ SI X.K G B w E σ m ∧ finS X.K G W B w D (whileN p g k E m), ⟨n, E, m, w, rfl, s, z1⟩, ?_⟩
  rintro k σ1 H1 ⟨E1, m1, w1, rfl, s1, z2⟩
  cases k with
  | zero => exact z2.elim
  | succ k =>
    have z3 : finS X.K G W B w1 D (match p E1 m1 with
      | .ok true m1 => (match g E1 m1 with
        | .next E2 m2 => whileN p g k E2 m2
        | .cnt E2 m2 => whileN p g k E2 m2
        | .brk E2 m2 => .next E2 m2
        | .ret v m2 => .ret v m2
        | .exc c v E2 m2 => .exc c v E2 m2
        | .bad => .bad)
      | .ok false m1 => .next E1 m1
      | .exc c v m1 => .exc c v E1 m1
      | .bad => .bad) := z2
    refine s1.tX (fun b m2 e v w2 e2 s2 r => ?_) (fun c x m2 e d y w2 s2 h1 h2 => ?_) (fun e => ?_)
    · subst r
      rw [e] at z3
      cases b with
      | false => exact iteF (z3 σ1 w2 e2.toExt s2)
      | true =>
        refine iteT ⟨fun σ' H' => ∃ E m w, w.H = H' ∧ SI X.K G B w E σ' m ∧ finS X.K G W B w D (whileN p g k E m), fun σ' H' h => ⟨k, Nat.lt_succ_self k, h⟩, E1, m2, w2, B, rfl, s2, ?_⟩
        have z4 := finS.back s1.rm s2.rm e2.toExt z3
        dsimp only at z4
        cases q : g E1 m2 with
        | next E3 m3 => rw [q] at z4; exact fun σ3 w3 e3 s3 => ⟨E3, m3, w3, rfl, s3, finS.back s2.rm s3.rm e3 z4⟩
        | cnt E3 m3 => rw [q] at z4; exact fun σ3 w3 e3 s3 => ⟨E3, m3, w3, rfl, s3, finS.back s2.rm s3.rm e3 z4⟩
        | brk E3 m3 => rw [q] at z4; exact z4
        | ret x m3 => rw [q] at z4; exact z4
        | exc c x E3 m3 => rw [q] at z4; exact z4
        | bad => rw [q] at z4; exact z4
    · rw [e] at z3
      exact z3 d y σ1 w2 s2 h1 h2
    · rw [e] at z3
      exact z3
end
end Pv
set_option maxRecDepth 100000
set_option maxHeartbeats 2000000
set_option autoImplicit false
/-! Pv5: what is walked, for, list comprehensions, lists that change. -/
namespace Pv
open PySem PySem.Spec PyProof.Rows L2
/-- what an iterator yields: these plain values, from w on -/
structure Yl (K : PySem.W.Frag) (G : Gc) (w : Wd) (xs : List PV) (J : It) : Prop where
  stop : ∀ w2 m2, Ext w w2 → RM K G w2 m2 → J.stop xs.length w2.H
  go : ∀ i x w2 m2, xs[i]? = some x → Ext w w2 → RM K G w2 m2 → J.go i w2.H ∧ ∀ v H', J.yld i w2.H v H' → ∃ w3, w3.H = H' ∧ ExtE w2 w3 ∧ RM K G w3 m2 ∧ RV K G w3 x v
def tI (K : PySem.W.Frag) (G : Gc) (W : WX) (f : AF) : TI := tX (Yl K G) K G W f
theorem PI.imp {X : Cx} {tg e : Expr} {t t' : TI} (h : PI X tg e t) (q : ∀ σ H R, t' σ H R → t σ H R) : PI X tg e t' := ⟨fun pins s σ H R I z => h.run pins s σ H R I (q σ H R z)⟩
/-- a list, a tuple, a text -/
def iAny (K : PySem.W.Frag) (te : TE) : TI := fun σ H R => te σ H fun x H1 =>
  (∃ a, x = .ref a ∧ (∃ xs, SqL K H1 a xs) ∧ R (Itl K a) H1) ∨ (∃ a, x = .ref a ∧ (∃ xs, SqT K H1 a xs) ∧ R (Itt K a) H1) ∨ ∃ z, x = .str z ∧ R (Its z) H1
theorem pi_any {X : Cx} {tg e : Expr} {te : TE} (he : PE X e te) : PI X tg e (iAny X.K te) := by
  refine ⟨fun pins s σ H R I h => ?_⟩
  refine thn (he.run pins s σ H _ I h) fun v s1 ⟨x, H1, I1, r1, q1⟩ => ?_
  rcases q1 with ⟨a, rfl, ⟨xs, hq⟩, q⟩ | ⟨a, rfl, ⟨xs, hq⟩, q⟩ | ⟨z, rfl, q⟩
  · cases r1
    obtain ⟨its, rv, p, hz⟩ := I1.list hq
    refine wpAny_pyIter_list p.isList ⟨s1.heap.objs.size, [s1.heap.objs.size], _, _, H1, rfl, ?_, turn_list a _, ⟨_, Heap.get?_push_size _ rfl, rfl, rfl⟩, fun b hb => ?_, q⟩
    · exact I1.kept (t' := s1.toks) fun b o e => Heap.get?_push_of_some _ e
    · obtain rfl : b = s1.heap.objs.size := by simpa using hb
      exact I1.fpOk (Nat.le_refl _) (I1.hok.fresh (Nat.le_refl _))
  · cases r1
    obtain ⟨its, rv, p, hz⟩ := I1.tuple hq
    refine wpAny_pyIter_tuple (show s1.heap.IsTuple a its.toArray from p) ⟨s1.heap.objs.size, [s1.heap.objs.size], _, _, H1, rfl, ?_, turn_tuple a _, ⟨_, Heap.get?_push_size _ rfl, rfl, rfl⟩, fun b hb => ?_, q⟩
    · exact I1.kept (t' := s1.toks) fun b o e => Heap.get?_push_of_some _ e
    · obtain rfl : b = s1.heap.objs.size := by simpa using hb
      exact I1.fpOk (Nat.le_refl _) (I1.hok.fresh (Nat.le_refl _))
  · obtain ⟨t, rfl⟩ := r1
    cases ha : z.cps.all (· < 128)
    · exact wpAny_pyIter_wide ha (pi_one (tk := s1.toks) I1 _ (turn_str _ z t "str_iterator" (.inr rfl)) ⟨_, Heap.get?_push_size _ rfl, rfl, rfl⟩ q)
    · exact wpAny_pyIter_ascii ha (pi_one (tk := s1.toks) I1 _ (turn_str _ z t "str_ascii_iterator" (.inl rfl)) ⟨_, Heap.get?_push_size _ rfl, rfl, rfl⟩ q)
/-- lo, lo + 1, .. -/
def rangeV (lo : Int) (n : Nat) : List PV := (List.range n).map fun (k : Nat) => PV.int (lo + (k : Int))
/-- the items of a value -/
def pIter : PV → Option (List PV)
  | .tup xs => some xs
  | .lst xs => some xs
  | .rol xs => some xs
  | .str z => some (z.cps.toList.map fun c => .str ⟨#[c]⟩)
  | _ => none
def iV (f : EF) : AF := fun E m => (f E m).bind fun x m1 => Res.of (pIter x) m1
section
variable {K : PySem.W.Frag} {G : Gc} {w w2 : Wd} {m m2 : Mem}
theorem yl_list {a : Addr} {xs : List PV} {vs : List V} (R : RM K G w m) (h : ∀ w2 m2, Ext w w2 → RM K G w2 m2 → SqL K w2.H a vs) (r : RVs K G w xs vs) : Yl K G w xs (Itl K a) where
  stop := fun w2 m2 e R2 => ⟨vs, h w2 m2 e R2, by rw [r.length]; exact Nat.le_refl _⟩
  go := fun i x w2 m2 hx e R2 => by
    have r2 := e.rvs R _ _ r
    obtain ⟨v, hv, rv⟩ := r2.get hx
    exact ⟨⟨vs, v, h w2 m2 e R2, hv⟩, fun u H' ⟨e1, e2⟩ => ⟨w2, e1.symm, ExtE.refl, R2, by
      have q := e2 vs (h w2 m2 e R2)
      rw [hv] at q
      cases q
      exact rv⟩⟩
theorem yl_tup {a : Addr} {xs : List PV} {vs : List V} (R : RM K G w m) (h : ∀ w2 m2, Ext w w2 → RM K G w2 m2 → SqT K w2.H a vs) (r : RVs K G w xs vs) : Yl K G w xs (Itt K a) where
  stop := fun w2 m2 e R2 => ⟨vs, h w2 m2 e R2, by rw [r.length]; exact Nat.le_refl _⟩
  go := fun i x w2 m2 hx e R2 => by
    have r2 := e.rvs R _ _ r
    obtain ⟨v, hv, rv⟩ := r2.get hx
    exact ⟨⟨vs, v, h w2 m2 e R2, hv⟩, fun u H' ⟨e1, e2⟩ => ⟨w2, e1.symm, ExtE.refl, R2, by
      have q := e2 vs (h w2 m2 e R2)
      rw [hv] at q
      cases q
      exact rv⟩⟩
theorem yl_str {z : Str} : Yl K G w (z.cps.toList.map fun c => PV.str ⟨#[c]⟩) (Its z) where
  stop := fun w2 m2 e R2 => by
    show z.cps.size ≤ _
    rw [List.length_map, Array.length_toList]
    exact Nat.le_refl _
  go := fun i x w2 m2 hx e R2 => by
    rw [List.getElem?_map] at hx
    cases q : z.cps.toList[i]? with
    | none => rw [q] at hx; cases hx
    | some c =>
      rw [q] at hx
      have hx' := Option.some.inj hx
      subst hx'
      have q' : z.cps[i]? = some c := by rw [← Array.getElem?_toList]; exact q
      refine ⟨(Array.getElem?_eq_some_iff.mp q').1, fun v H' ⟨e1, c', e2, e3⟩ => ⟨w2, e1.symm, ExtE.refl, R2, ?_⟩⟩
      rw [q'] at e2
      cases e2
      rw [rv_str]
      exact e3
theorem yl_range {lo : Int} {n : Nat} : Yl K G w (rangeV lo n) (Itr lo n) where
  stop := fun w2 m2 e R2 => by
    show n ≤ _
    unfold rangeV
    simp
  go := fun i x w2 m2 hx e R2 => by
    unfold rangeV at hx
    rw [List.getElem?_map] at hx
    by_cases hi : i < n
    · rw [List.getElem?_range hi] at hx
      have hx' := Option.some.inj hx
      subst hx'
      exact ⟨hi, fun v H' ⟨e1, e2⟩ => ⟨w2, e1.symm, ExtE.refl, R2, rv_int.mpr e2⟩⟩
    · rw [List.getElem?_eq_none (by simp; omega)] at hx
      cases hx
theorem yl_of {x : PV} {v : V} {xs : List PV} (R : RM K G w m) (r : RV K G w x v) (h : pIter x = some xs) {R' : It → Hp → Prop} (q : ∀ J, Yl K G w xs J → R' J w.H) :
    (∃ a, v = .ref a ∧ (∃ xs, SqL K w.H a xs) ∧ R' (Itl K a) w.H) ∨ (∃ a, v = .ref a ∧ (∃ xs, SqT K w.H a xs) ∧ R' (Itt K a) w.H) ∨ ∃ z, v = .str z ∧ R' (Its z) w.H := by
  cases x with
  | tup ys =>
    cases h
    rw [rv_tup] at r
    obtain ⟨a, vs, rfl, s, r⟩ := r
    exact .inr (.inl ⟨a, rfl, ⟨vs, s⟩, q _ (yl_tup R (fun w2 m2 e R2 => e.sqT R s) r)⟩)
  | lst ys =>
    cases h
    rw [rv_lst] at r
    obtain ⟨a, vs, rfl, s, r⟩ := r
    exact .inl ⟨a, rfl, ⟨vs, SqL.of s.2⟩, q _ (yl_list R (fun w2 m2 e R2 => SqL.of (e.keep a _ s.2 (fun z => R.nf a z s.1) (fun _ _ => s.1) (fun _ z => nomatch z))) r)⟩
  | rol ys =>
    cases h
    rw [rv_rol] at r
    obtain ⟨a, vs, rfl, s, r⟩ := r
    exact .inl ⟨a, rfl, ⟨vs, s.seq⟩, q _ (yl_list R (fun w2 m2 e R2 => (e.rol R s).seq) r)⟩
  | str z =>
    have h' : some (z.cps.toList.map fun c => PV.str ⟨#[c]⟩) = some xs := h
    cases h'
    rw [rv_str] at r
    exact .inr (.inr ⟨z, r, q _ yl_str⟩)
  | _ => cases h
end
section
variable {X : Cx} {G : Gc} {W : WX} {pos : Pos} {tg e : Expr} {f : EF}
theorem ji_any (he : PE X e (tE X.K G W f)) : PI X tg e (tI X.K G W (iV f)) := PI.imp (pi_any he) fun σ H R z =>
  (tX.bind (rel := RV X.K G) (f := f) (g := fun _ x m1 => Res.of (pIter x) m1) mono_true z).imp fun v H1 ⟨x, z1⟩ => by
    obtain ⟨E, m, w, rfl, R1, re, ⟨_, r⟩, z2⟩ := z1
    cases o : pIter x with
    | none => rw [o] at z2; exact z2.elim
    | some xs =>
      rw [o] at z2
      exact yl_of R1 r o fun J y => z2 J w ExtE.refl R1 y
/-- range(n), range(a, b) -/
def inR (j : Int) : Bool := decide (-(2 ^ 62) ≤ j) && decide (j < 2 ^ 62)
def pRange1 : List PV → Option (List PV)
  | [.int j] => if inR j = true then some (rangeV 0 j.toNat) else none
  | _ => none
def pRange2 : List PV → Option (List PV)
  | [.int i, .int j] => if inR i = true ∧ inR j = true then some (rangeV i (j - i).toNat) else none
  | _ => none
def iR (op : List PV → Option (List PV)) (fa : AF) : AF := fun E m => (fa E m).bind fun xs m1 => Res.of (op xs) m1
theorem inR_of {j : Int} (h : inR j = true) : -(2 ^ 62) ≤ j ∧ j < 2 ^ 62 := by
  unfold inR at h
  rw [Bool.and_eq_true] at h
  exact ⟨of_decide_eq_true h.1, of_decide_eq_true h.2⟩
theorem ji_range1 {a : Expr} {p : Pos} {fa : AF} (hg : Gl X "range") (hm : X.mg "range" = none) (ha : PA X [a] (tA X.K G W fa)) (hs : starEach [a] X.env = [(false, eval a X.env)]) : PI X tg (.Call (.Name "range" p) [a] [] pos) (tI X.K G W (iR pRange1 fa)) :=
  PI.imp (pi_range1 hg hm ha hs) fun σ H R z => by
    have z1 := (tX.bind (rel := RVs X.K G) (f := fa) (g := fun _ xs m1 => Res.of (pRange1 xs) m1) mono_true z)
    refine z1.imp fun vs H1 ⟨xs, z2⟩ => ?_
    obtain ⟨E, m, w, rfl, R1, re, ⟨_, r⟩, z3⟩ := z2
    cases o : pRange1 xs with
    | none => rw [o] at z3; exact z3.elim
    | some ys =>
      rw [o] at z3
      unfold pRange1 at o
      split at o
      · rename_i j
        split at o
        · rename_i hj
          cases o
          obtain ⟨v, r1, rfl, h1, h2⟩ := r.cons_inv
          obtain rfl := h2.nil_inv
          rw [rv_int] at h1
          subst h1
          obtain ⟨q1, q2⟩ := inR_of hj
          exact ⟨j, rfl, q1, q2, z3 _ w ExtE.refl R1 yl_range⟩
        · cases o
      · cases o
theorem ji_range2 {a b : Expr} {p : Pos} {fa : AF} (hg : Gl X "range") (hm : X.mg "range" = none) (ha : PA X [a, b] (tA X.K G W fa)) (hs : starEach [a, b] X.env = [(false, eval a X.env), (false, eval b X.env)]) (hs2 : starEach [b] X.env = [(false, eval b X.env)]) : PI X tg (.Call (.Name "range" p) [a, b] [] pos) (tI X.K G W (iR pRange2 fa)) :=
  PI.imp (pi_range2 hg hm ha hs hs2) fun σ H R z => by
    have z1 := (tX.bind (rel := RVs X.K G) (f := fa) (g := fun _ xs m1 => Res.of (pRange2 xs) m1) mono_true z)
    refine z1.imp fun vs H1 ⟨xs, z2⟩ => ?_
    obtain ⟨E, m, w, rfl, R1, re, ⟨_, r⟩, z3⟩ := z2
    cases o : pRange2 xs with
    | none => rw [o] at z3; exact z3.elim
    | some ys =>
      rw [o] at z3
      unfold pRange2 at o
      split at o
      · rename_i i j
        split at o
        · rename_i hj
          cases o
          obtain ⟨v, r1, rfl, h1, h2⟩ := r.cons_inv
          obtain ⟨u, r2, rfl, h3, h4⟩ := h2.cons_inv
          obtain rfl := h4.nil_inv
          rw [rv_int] at h1 h3
          subst h1 h3
          obtain ⟨q1, q2⟩ := inR_of hj.1
          obtain ⟨q3, q4⟩ := inR_of hj.2
          exact ⟨i, j, rfl, ⟨q1, q2, q3, q4⟩, z3 _ w ExtE.refl R1 yl_range⟩
        · cases o
      · cases o
/-! ### for -/
def forL (g : GF) (b : SF) : List PV → SF
  | [], E, m => .next E m
  | x :: r, E, m => match g x E with
    | some E1 => (match b E1 m with
      | .next E2 m2 => forL g b r E2 m2
      | .cnt E2 m2 => forL g b r E2 m2
      | .brk E2 m2 => .next E2 m2
      | .ret v m2 => .ret v m2
      | .exc c v E2 m2 => .exc c v E2 m2
      | .bad => .bad)
    | none => .bad
def sFor (fi : AF) (g : GF) (b : SF) : SF := sE fi fun xs => forL g b xs
theorem js_for {iter : Expr} {body : List Stmt} {fi : AF} {g : GF} {is : List Nat} {b : SF} (hp : PassesOwn (model X.prog X.w) X.A X.env X.xe) (hc : X.calm = true) (hi : PI X tg iter (tI X.K G W fi)) (hg : PG X tg (tG X.K G g is)) (hb : PSs X body (tS X.K G W b))
    (hs : ∀ x, foldedSetIterable iter X.env x = pure x) : PS X (.For tg iter body [] pos) (tS X.K G W (sFor fi g b)) := PS.imp (ps_for hp hc hi hg hb hs) fun D σ H z =>
  tS_E (rel := Yl X.K G) z fun E m w B xs J s y q => by
    refine ⟨fun i k σ H => k = xs.length - i ∧ i ≤ xs.length ∧ ∃ E m w1, w1.H = H ∧ Ext w w1 ∧ SI X.K G B w1 E σ m ∧ finS X.K G W B w1 D (forL g b (xs.drop i) E m), ⟨xs.length, by simp, Nat.zero_le _, E, m, w, rfl, Ext.refl, s, q⟩, ?_⟩
    rintro i k σ1 H1 ⟨rfl, hi, E1, m1, w1, rfl, e1, s1, q1⟩
    by_cases hlt : i < xs.length
    · refine .inr ?_
      obtain ⟨hgo, hy⟩ := y.go i xs[i] w1 m1 (List.getElem?_eq_getElem hlt) e1 s1.rm
      refine ⟨hgo, fun σ' H' => ∃ E m w2, w2.H = H' ∧ Ext w w2 ∧ SI X.K G B w2 E σ' m ∧ finS X.K G W B w2 D (forL g b (xs.drop (i + 1)) E m), fun σ' H' h => ⟨xs.length - (i + 1), by omega, rfl, hlt, h⟩, fun v H' yv => ?_⟩
      obtain ⟨w3, rfl, e3, R3, r3⟩ := hy v H' yv
      have s3 := s1.step e3 R3
      rw [List.drop_eq_getElem_cons hlt] at q1
      have q2 := finS.back s1.rm R3 e3.toExt q1
      have q3 : finS X.K G W B w3 D (match g xs[i] E1 with
        | some E1 => (match b E1 m1 with
          | .next E2 m2 => forL g b (xs.drop (i + 1)) E2 m2
          | .cnt E2 m2 => forL g b (xs.drop (i + 1)) E2 m2
          | .brk E2 m2 => .next E2 m2
          | .ret v m2 => .ret v m2
          | .exc c v E2 m2 => .exc c v E2 m2
          | .bad => .bad)
        | none => .bad) := q2
      cases eg : g xs[i] E1 with
      | none => rw [eg] at q3; exact q3.elim
      | some E2 =>
        rw [eg] at q3
        dsimp only at q3
        have e13 : Ext w w3 := Ext.trans s.rm s1.rm e1 e3.toExt
        refine ⟨xs[i], E1, m1, w3, E2, rfl, R3, s3.re, r3, eg, fun σ2 s4 c4 => ⟨E2, m1, w3, B, rfl, s3.chg s4 c4, ?_⟩⟩
        cases eb : b E2 m1 with
        | next E5 m5 => rw [eb] at q3; exact fun σ5 w5 e5 s5 => ⟨E5, m5, w5, rfl, Ext.trans s.rm R3 e13 e5, s5, finS.back R3 s5.rm e5 q3⟩
        | cnt E5 m5 => rw [eb] at q3; exact fun σ5 w5 e5 s5 => ⟨E5, m5, w5, rfl, Ext.trans s.rm R3 e13 e5, s5, finS.back R3 s5.rm e5 q3⟩
        | brk E5 m5 => rw [eb] at q3; exact q3
        | ret v m5 => rw [eb] at q3; exact q3
        | exc c x E5 m5 => rw [eb] at q3; exact q3
        | bad => rw [eb] at q3; exact q3
    · have e : i = xs.length := by omega
      subst e
      rw [List.drop_length] at q1
      exact .inl ⟨y.stop w1 m1 e1 s1.rm, q1 σ1 w1 Ext.refl s1⟩
/-! ### list comprehensions -/
def wipeE (E : Ev) : List Nat → Ev
  | [] => E
  | i :: is => (wipeE E is).set i none
/-- .. where nothing may be raised -/
def Res.bindB {α β : Type} (r : Res α) (f : α → Mem → Res β) : Res β := match r with
  | .ok a m => f a m
  | _ => .bad
def compL (g : GF) (t : TF) (f : EF) : List PV → List PV → Ev → Mem → Res (List PV)
  | [], acc, _, m => .ok acc m
  | x :: r, acc, E, m => match g x E with
    | some E1 => (t E1 m).bindB fun b m1 => if b = true then (f E1 m1).bindB fun y m2 => if acc.length < sizeLine then compL g t f r (acc ++ [y]) E m2 else .bad
      else compL g t f r acc E m1
    | none => .bad
def eComp (fi : AF) (g : GF) (t : TF) (f : EF) (vs : List Nat) : AF := fun E m => (fi E m).bind fun xs m1 => compL g t f xs [] (wipeE E vs) m1
/-- nothing is raised -/
abbrev W0 : WX := fun _ _ _ _ => False
end
/-! ### new lists, owned -/
section
variable {K : PySem.W.Frag} {G : Gc} {W : WX} {B w w' w1 : Wd} {m m' : Mem} {E : Ev} {σ : L2.St} {H : Hp} {D : Addr} {vs us : List V}
def Wd.upl (w : Wd) (D : Addr) (us : List V) : Wd := { w with H := upd w.H D (.lst us) }
theorem upl_ne (h : OwnL w D vs) {a : Addr} {o : HO} (e : w.H a = some o) (ho : ∀ us, o = .lst us → w.F a ∨ a ∈ w.ρ) : a ≠ D := fun z => by
  rw [z, h.at_] at e
  have q := ho vs (Option.some.inj e).symm
  rw [z] at q
  exact q.elim h.nf h.nr
theorem Ext.upl (h : OwnL w D vs) : Ext w (w.upl D us) where
  keep := fun a o e _ hl _ => by
    show upd w.H D _ a = some o
    rw [upd_ne (upl_ne h e fun us z => .inl (hl us z))]
    exact e
  fz := fun _ h => h
  rh := ⟨[], (List.append_nil _).symm⟩
  there := fun a o e => by
    by_cases z : a = D
    · subst z
      exact ⟨_, upd_same⟩
    · exact ⟨o, by
        show upd w.H D _ a = some (.lst o)
        rw [upd_ne z]
        exact e⟩
theorem tabs_upl {T : List (Addr × Str)} (h : OwnL w D vs) (t : LamX.Tabs T w.H) : LamX.Tabs T (w.upl D us).H := fun p hp => by
  obtain ⟨ps, h1, h2, h3⟩ := t p hp
  refine ⟨ps, ?_, h2, fun pos cv hc => ?_⟩
  · show upd w.H D _ p.1 = _
    rw [upd_ne (upl_ne h h1 fun us z => nomatch z)]
    exact h1
  · obtain ⟨c, e1, e2⟩ := h3 pos cv hc
    refine ⟨c, e1, ?_⟩
    show upd w.H D _ c = _
    rw [upd_ne (upl_ne h e2 fun us z => by unfold LamX.CodeO at z; cases z)]
    exact e2
theorem RM.upl (R : RM K G w m) (h : OwnL w D vs) : RM K G (w.upl D us) m where
  len := R.len
  nd := R.nd
  at_ := fun n a xs h1 h2 => by
    obtain ⟨ys, e, r⟩ := R.at_ n a xs h1 h2
    refine ⟨ys, ?_, (Ext.upl h).rvs R _ _ r⟩
    show upd w.H D _ a = _
    rw [upd_ne (upl_ne h e fun us z => .inr (List.mem_of_getElem? h1))]
    exact e
  nf := R.nf
  fl := fun a hf => by
    obtain ⟨ys, e⟩ := R.fl a hf
    refine ⟨ys, ?_⟩
    show upd w.H D _ a = _
    rw [upd_ne (upl_ne h e fun us z => .inl hf)]
    exact e
  tabs := tabs_upl h R.tabs
theorem OwnL.upl (h : OwnL w D vs) : OwnL (w.upl D us) D us := ⟨upd_same, h.nf, h.nr⟩
/-- of a list that is new since w -/
theorem ExtE.upl (e : ExtE w w1) (hD : NL w D) (h : OwnL w1 D vs) : ExtE w (w1.upl D us) where
  keep := fun a o q h1 h2 h3 => by
    have k := e.keep a o q h1 h2 h3
    have ne : a ≠ D := fun z => by
      subst z
      rw [h.at_] at k
      cases k
      exact hD vs q
    show upd w1.H D _ a = some o
    rw [upd_ne ne]
    exact k
  fz := e.fz
  rh := e.rh
  there := fun a o q => by
    obtain ⟨o', q'⟩ := e.there a o q
    exact ⟨o', by
      show upd w1.H D _ a = some (.lst o')
      rw [upd_ne (show a ≠ D from fun z => hD o (by rw [← z]; exact q))]
      exact q'⟩
  own := fun a ys q => by
    have q' := e.own a ys q
    exact ⟨by
      show upd w1.H D _ a = some _
      rw [upd_ne (show a ≠ D from fun z => hD ys (by rw [← z]; exact q.at_))]
      exact q'.at_, q'.nf, q'.nr⟩
theorem OwnL.new (R : RM K G w m) (hD : w.H D = none) : OwnL (w.put D (.lst us)) D us := by
  refine ⟨upd_same, fun z => ?_, fun z => ?_⟩
  · obtain ⟨ys, e⟩ := R.fl D z
    rw [hD] at e
    cases e
  · obtain ⟨ys, e⟩ := R.lst z
    rw [hD] at e
    cases e
/-- the reading of what makes a new list -/
def finL (K : PySem.W.Frag) (G : Gc) (W : WX) (w : Wd) (σ : L2.St) (Q : VK) : Res (List PV) → Prop
  | .ok xs m' => ∀ a vs w', ExtE w w' → RM K G w' m' → NL w a → OwnL w' a vs → RVs K G w' xs vs → Q (.ref a) w'.H
  | .exc c x m' => ∀ d y w', ExtE w w' → RM K G w' m' → w'.H d = some (.xd [(valueS, y)]) → RV K G w' x y → W (.ref (G.ca c)) (some d) σ w'.H
  | .bad => False
def tL (K : PySem.W.Frag) (G : Gc) (W : WX) (f : AF) : TE := fun σ H Q => At K G σ H (fun _ => True) fun E m w => finL K G W w σ Q (f E m)
theorem ExtE.nn (e : ExtE w w1) {a : Addr} (h : NL w1 a) : NL w a := fun vs q => by
  obtain ⟨us, q'⟩ := e.there a vs q
  exact h us q'
theorem finL.back {Q : VK} (R : RM K G w m) (R1 : RM K G w1 m') (e : ExtE w w1) : ∀ {r : Res (List PV)}, finL K G W w σ Q r → finL K G W w1 σ Q r
  | .ok x m2, h => fun a vs w2 e2 R2 ha => h a vs w2 (ExtE.trans R R1 e e2) R2 (e.nn ha)
  | .exc c x m2, h => fun d y w2 e2 R2 q1 q2 => h d y w2 (ExtE.trans R R1 e e2) R2 q1 q2
  | .bad, h => h
/-- one part, then a new list -/
theorem tL.bind {α β : Type} {rel : Wd → α → β → Prop} {f : Ev → Mem → Res α} {g : Ev → α → Mem → Res (List PV)} {Q : VK}
    (h : tL K G W (fun E m => (f E m).bind fun a m1 => g E a m1) σ H Q) :
    tX rel K G W f σ H fun v H1 => ∃ a, At K G σ H1 (fun w1 => rel w1 a v) fun E m1 w1 => finL K G W w1 σ Q (g E a m1) := by
  obtain ⟨E, m, w, rfl, R, re, p, h⟩ := h
  refine ⟨E, m, w, rfl, R, re, trivial, ?_⟩
  have h : finL K G W w σ Q ((f E m).bind fun a m1 => g E a m1) := h
  show fin rel K G W w σ _ (f E m)
  cases e : f E m with
  | ok a m1 =>
    rw [e] at h
    exact fun v w1 e1 R1 r1 => ⟨a, E, m1, w1, rfl, R1, e1.re R re, r1, finL.back R R1 e1 h⟩
  | exc c x m1 => rw [e] at h; exact h
  | bad => rw [e] at h; exact h
end
theorem ExtE.freN {K : PySem.W.Frag} {G : Gc} {w w1 : Wd} {m m1 : Mem} {a : Addr} (R : RM K G w m) (R1 : RM K G w1 m1) (e1 : ExtE w w1) (ha : NL w a) : ExtE w (w1.fre a) := by
  refine ⟨Ext.trans R R1 e1.toExt Ext.fre, fun b us h => ?_⟩
  have h1 := e1.own b us h
  refine ⟨h1.at_, fun z => z.elim h1.nf fun e => ?_, h1.nr⟩
  have h2 := h.at_
  rw [e] at h2
  exact ha us h2
def eLstOf (f : AF) : EF := fun E m => (f E m).bind fun xs m1 => .ok (.lst xs) m1
/-- .. a new list of the memory -/
def eNew (f : AF) : EF := fun E m => (f E m).bind fun xs m1 => .ok (.ref m1.length) (m1 ++ [xs])
def aLen (f : AF) : AF := fun E m => (f E m).bind fun xs m1 => if xs.length ≤ sizeLine then .ok xs m1 else .bad
def sOwn (i : Nat) (f : AF) : SF := sE f fun xs E m => .next (E.set i (some (.own xs))) m
section
variable {X : Cx} {G : Gc} {W : WX} {pos : Pos} {tg e : Expr} {es : List Expr} {f : AF}
theorem jl_lst (ha : PA X es (tA X.K G W f)) : PE X (.List es pos) (tL X.K G W (aLen f)) := PE.imp (pe_lst ha) fun σ H Q z =>
  (tL.bind (rel := RVs X.K G) (f := f) (g := fun _ xs m1 => if xs.length ≤ sizeLine then .ok xs m1 else .bad) z).imp fun vs H1 ⟨xs, z1⟩ => by
    obtain ⟨E, m, w, rfl, R, re, r, z2⟩ := z1
    by_cases hl : xs.length ≤ sizeLine
    · rw [if_pos hl] at z2
      refine ⟨by rw [← r.length]; exact hl, fun p hp => ?_⟩
      exact z2 p vs (w.put p (.lst vs)) (ExtE.put hp) (R.put hp) (nl_none hp) (OwnL.new R hp) ((ExtE.put hp).toExt.rvs R _ _ r)
    · rw [if_neg hl] at z2
      exact z2.elim
/-- frozen at once -/
theorem je_lof (h : PE X e (tL X.K G W f)) : PE X e (tE X.K G W (eLstOf f)) := PE.imp h fun σ H Q z => by
  obtain ⟨E, m, w, rfl, R, re, p, z⟩ := z
  refine ⟨E, m, w, rfl, R, re, p, ?_⟩
  have z1 : fin (RV X.K G) X.K G W w σ Q ((f E m).bind fun xs m1 => .ok (.lst xs) m1) := z
  show finL X.K G W w σ Q (f E m)
  cases q : f E m with
  | bad => rw [q] at z1; exact z1
  | exc c x m1 => rw [q] at z1; exact z1
  | ok xs m1 =>
    rw [q] at z1
    intro a vs w1 e1 R1 ha o r
    have e2 : ExtE w (w1.fre a) := ExtE.freN R R1 e1 ha
    exact z1 (.ref a) (w1.fre a) e2 (R1.fre o.nr ⟨vs, o.at_⟩) (rv_lst.mpr ⟨a, vs, rfl, ⟨.inr rfl, o.at_⟩, Ext.fre.rvs R1 _ _ r⟩)
/-- a new list of the memory -/
theorem je_new (h : PE X e (tL X.K G W f)) : PE X e (tE X.K G W (eNew f)) := PE.imp h fun σ H Q z => by
  obtain ⟨E, m, w, rfl, R, re, p, z⟩ := z
  refine ⟨E, m, w, rfl, R, re, p, ?_⟩
  have z1 : fin (RV X.K G) X.K G W w σ Q ((f E m).bind fun xs m1 => .ok (.ref m1.length) (m1 ++ [xs])) := z
  show finL X.K G W w σ Q (f E m)
  cases q : f E m with
  | bad => rw [q] at z1; exact z1
  | exc c x m1 => rw [q] at z1; exact z1
  | ok xs m1 =>
    rw [q] at z1
    intro a vs w1 e1 R1 ha o r
    have hx : Ext w1 { w1 with ρ := w1.ρ ++ [a] } := ⟨fun b u h _ _ _ => h, fun _ h => h, ⟨[a], rfl⟩, fun b u h => ⟨u, h⟩⟩
    have e2 : ExtE w { w1 with ρ := w1.ρ ++ [a] } := by
      refine ⟨Ext.trans R R1 e1.toExt hx, fun b us h => ?_⟩
      have h1 := e1.own b us h
      refine ⟨h1.at_, h1.nf, fun z => ?_⟩
      rcases List.mem_append.mp z with z | z
      · exact h1.nr z
      · have h2 := h.at_
        rw [List.mem_singleton.mp z] at h2
        exact ha us h2
    have R2 : RM X.K G { w1 with ρ := w1.ρ ++ [a] } (m1 ++ [xs]) := by
      refine ⟨by simp [R1.len], ?_, fun n b ys h1 h2 => ?_, fun b hb => ?_, R1.fl, R1.tabs⟩
      · refine List.nodup_append.mpr ⟨R1.nd, by simp, fun b hb c hc z => ?_⟩
        rw [List.mem_singleton.mp hc] at z
        rw [z] at hb
        exact o.nr hb
      · by_cases hn : n < w1.ρ.length
        · have h1' : w1.ρ[n]? = some b := by rw [← List.getElem?_append_left hn (l₂ := [a])]; exact h1
          have h2' : m1[n]? = some ys := by rw [← List.getElem?_append_left (by rw [← R1.len]; exact hn) (l₂ := [xs])]; exact h2
          obtain ⟨us, e, r2⟩ := R1.at_ n b ys h1' h2'
          exact ⟨us, e, hx.rvs R1 _ _ r2⟩
        · have h1' : (w1.ρ ++ [a])[n]? = some b := h1
          have hl : n < (w1.ρ ++ [a]).length := (List.getElem?_eq_some_iff.mp h1').1
          have e : n = w1.ρ.length := by
            rw [List.length_append, List.length_singleton] at hl
            omega
          subst e
          have h2'' : (m1 ++ [xs])[w1.ρ.length]? = some ys := h2
          rw [List.getElem?_append_right (Nat.le_refl _), Nat.sub_self] at h1'
          rw [R1.len, List.getElem?_append_right (Nat.le_refl _), Nat.sub_self] at h2''
          cases h1'
          cases h2''
          exact ⟨vs, o.at_, hx.rvs R1 _ _ r⟩
      · rcases List.mem_append.mp hb with z | z
        · exact R1.nf b z
        · rw [List.mem_singleton.mp z]
          exact o.nf
    refine z1 (.ref a) { w1 with ρ := w1.ρ ++ [a] } e2 R2 (rv_ref.mpr ⟨a, rfl, ?_⟩)
    show (w1.ρ ++ [a])[m1.length]? = some a
    rw [← R1.len, List.getElem?_append_right (Nat.le_refl _), Nat.sub_self]
    rfl
/-- x = a new list, owned by its slot -/
theorem SI.own {K : PySem.W.Frag} {B w w1 : Wd} {E : Ev} {σ : L2.St} {m m1 : Mem} (s : SI K G B w E σ m) (e1 : ExtE w w1) (R1 : RM K G w1 m1) {a : Addr} {vs : List V} {xs : List PV} (ha : NL w a) (o : OwnL w1 a vs) (r : RVs K G w1 xs vs) (i : Nat) :
    SI K G B w1 (E.set i (some (.own xs))) (σ.set i (some (.ref a))) m1 := by
  have s1 := s.step e1 R1
  have hl := s.re.len
  have old : ∀ (j : Nat) (ys : List PV), E[j]? = some (some (.own ys)) → σ[j]? = some (some (.ref a)) → False := fun j ys h1 h2 => by
    obtain ⟨v, h3, h4⟩ := s.re.val j _ h1
    rw [h2] at h3
    cases h3
    rcases h4 with h4 | ⟨zs, b, us, _, h5, h6, _⟩
    · exact rv_own h4
    · cases h5
      have q := h6.at_
      exact ha us q
  have ihi : ∀ {y : Option PV}, (E.set i y)[i]? ≠ none → i < E.length := fun {y} h => by
    cases q : (E.set i y)[i]? with
    | none => exact absurd q h
    | some z =>
      have q1 := (List.getElem?_eq_some_iff.mp q).1
      rwa [List.length_set] at q1
  refine ⟨s1.rb, s1.rm, ⟨by rw [List.length_set, List.length_set, hl], fun j y h => ?_, fun j k ys zs b hne h1 h2 h3 h4 => ?_⟩, s1.ext, fun j ys b h1 h2 => ?_⟩
  · by_cases hj : i = j
    · subst hj
      have hi := ihi (y := some (.own xs)) (by rw [h]; simp)
      rw [List.getElem?_set_self hi] at h
      cases h
      exact ⟨.ref a, List.getElem?_set_self (by omega), .inr ⟨xs, a, vs, rfl, rfl, o, r⟩⟩
    · rw [List.getElem?_set_ne hj] at h ⊢
      exact s1.re.val j y h
  · by_cases hj : i = j
    · subst hj
      have hi := ihi (y := some (.own xs)) (by rw [h1]; simp)
      rw [List.getElem?_set_self (by omega)] at h3
      cases h3
      have hk : i ≠ k := hne
      rw [List.getElem?_set_ne hk] at h2 h4
      exact old k zs h2 h4
    · rw [List.getElem?_set_ne hj] at h1 h3
      by_cases hk : i = k
      · subst hk
        have hi := ihi (y := some (.own xs)) (by rw [h2]; simp)
        rw [List.getElem?_set_self (by omega)] at h4
        cases h4
        exact old j ys h1 h3
      · rw [List.getElem?_set_ne hk] at h2 h4
        exact s1.re.dis j k ys zs b hne h1 h2 h3 h4
  · by_cases hj : i = j
    · subst hj
      have hi := ihi (y := some (.own xs)) (by rw [h1]; simp)
      rw [List.getElem?_set_self (by omega)] at h2
      cases h2
      obtain ⟨mb, rb⟩ := s.rb
      exact s.ext.nn ha
    · rw [List.getElem?_set_ne hj] at h1 h2
      exact s1.fresh j ys b h1 h2
theorem js_own {i : Nat} {x : Str} {pos' : Pos} (hN : X.N.Nodup) (hi : X.N[i]? = some x) (hx : Loc X.env.scope x) (he : PE X e (tL X.K G W f)) (hs : swapsWith e (some (.Name x pos')) pos.line X.env = pure false) (hf : X.fn x = true ∨ X.env.scope.names.lookup x = some .local) :
    PS X (.Assign [.Name x pos'] e pos) (tS X.K G W (sOwn i f)) := PS.imp (ps_set hN hi hx he hs hf) fun D σ H z => by
  obtain ⟨E, m, w, B, rfl, s, z⟩ := z
  refine ⟨E, m, w, rfl, s.rm, s.re, trivial, ?_⟩
  have z1 := z
  unfold sOwn sE at z1
  show finL X.K G W w σ _ (f E m)
  cases q : f E m with
  | bad => rw [q] at z1; exact z1
  | exc c x m1 => rw [q] at z1; exact fun d y w1 e1 R1 h1 h2 => z1 d y σ w1 (s.step e1 R1) h1 h2
  | ok xs m1 =>
    rw [q] at z1
    exact fun a vs w1 e1 R1 ha o r => z1 _ w1 e1.toExt (s.own e1 R1 ha o r i)
end
end Pv
set_option maxRecDepth 100000
set_option maxHeartbeats 2000000
set_option autoImplicit false
/-! Pv6: list comprehensions; lists of slots and of the memory, changed and read. -/
namespace Pv
open PySem PySem.Spec PyProof.Rows L2
section
variable {K : PySem.W.Frag} {G : Gc} {W : WX} {w : Wd} {m : Mem} {E : Ev} {σ : L2.St}
theorem wipeE_length (E : Ev) : ∀ vs : List Nat, (wipeE E vs).length = E.length
  | [] => rfl
  | i :: is => by
    show ((wipeE E is).set i none).length = _
    rw [List.length_set, wipeE_length E is]
theorem wipeE_get {E : Ev} {j : Nat} {x : PV} : ∀ {vs : List Nat}, (wipeE E vs)[j]? = some (some x) → E[j]? = some (some x) ∧ j ∉ vs
  | [], h => ⟨h, by simp⟩
  | i :: is, h => by
    have h' : ((wipeE E is).set i none)[j]? = some (some x) := h
    by_cases e : i = j
    · subst e
      have hi : i < (wipeE E is).length := by
        have q := (List.getElem?_eq_some_iff.mp h').1
        rwa [List.length_set] at q
      rw [List.getElem?_set_self hi] at h'
      cases h'
    · rw [List.getElem?_set_ne e] at h'
      obtain ⟨h1, h2⟩ := wipeE_get h'
      exact ⟨h1, fun z => (List.mem_cons.mp z).elim (fun z => e z.symm) h2⟩
theorem wipe_out' {σ : L2.St} {j : Nat} : ∀ {vs : List Nat}, j ∉ vs → (wipe σ vs)[j]? = σ[j]?
  | [], _ => rfl
  | i :: is, h => by
    show ((wipe σ is).set i none)[j]? = _
    rw [List.getElem?_set_ne (fun z => h (by rw [z]; exact List.mem_cons_self)), wipe_out' fun z => h (List.mem_cons_of_mem _ z)]
theorem wipe_in' {σ : L2.St} {j : Nat} : ∀ {vs : List Nat}, j ∈ vs → j < σ.length → (wipe σ vs)[j]? = some none
  | [], h, _ => by cases h
  | i :: is, h, hj => by
    show ((wipe σ is).set i none)[j]? = _
    by_cases e : i = j
    · subst e
      exact List.getElem?_set_self (by rw [wipe_length]; exact hj)
    · rw [List.getElem?_set_ne e]
      exact wipe_in' ((List.mem_cons.mp h).resolve_left fun z => e z.symm) hj
theorem wipe_same {σ σ' : L2.St} {vs : List Nat} (hl : σ'.length = σ.length) (h : ∀ j, j ∉ vs → σ'[j]? = σ[j]?) : wipe σ' vs = wipe σ vs := by
  apply List.ext_getElem?
  intro j
  by_cases hj : j ∈ vs
  · by_cases hb : j < σ.length
    · rw [wipe_in' hj (by omega), wipe_in' hj hb]
    · rw [List.getElem?_eq_none (by rw [wipe_length]; omega), List.getElem?_eq_none (by rw [wipe_length]; omega)]
  · rw [wipe_out' hj, wipe_out' hj, h j hj]
theorem RE.wipe (s : RE K G w E σ) (vs : List Nat) : RE K G w (wipeE E vs) (L2.wipe σ vs) := by
  refine ⟨by rw [wipeE_length, wipe_length]; exact s.len, fun i x h => ?_, fun i j xs ys a hne h1 h2 h3 h4 => ?_⟩
  · obtain ⟨h1, h2⟩ := wipeE_get h
    obtain ⟨v, h3, h4⟩ := s.val i x h1
    exact ⟨v, by rw [wipe_out' h2]; exact h3, h4⟩
  · obtain ⟨q1, q2⟩ := wipeE_get h1
    obtain ⟨q3, q4⟩ := wipeE_get h2
    rw [wipe_out' q2] at h3
    rw [wipe_out' q4] at h4
    exact s.dis i j xs ys a hne q1 q3 h3 h4
end
section
variable {X : Cx} {G : Gc} {W : WX} {pos : Pos} {tg iter elt e : Expr} {ifs : List Expr} {scope : Scope} {own : List (Str × Nat)} {fi : AF} {g : GF} {is : List Nat} {t : TF} {f : EF}
theorem tLc_of (his : ∀ j ∈ is, j ∈ own.map (·.2)) {σ : L2.St} {H : Hp} {Q : VK} (z : tL X.K G W (eComp fi g t f (own.map (·.2))) σ H Q) :
    tLc (tI X.K G W fi) (tG X.K G g is) (tT X.K G W0 t) (tE X.K G W0 f) (own.map (·.2)) σ H Q := by
  generalize own.map (·.2) = vs at z his ⊢
  refine (tL.bind (rel := Yl X.K G) (f := fi) (g := fun E xs m1 => compL g t f xs [] (wipeE E vs) m1) z).imp fun J H1 ⟨xs, z1⟩ => ?_
  obtain ⟨E, m, w, rfl, R, re, y, z2⟩ := z1
  intro D hD
  have o0 := OwnL.new (us := []) R hD
  have x0 : ExtE w (w.put D (.lst [])) := ExtE.put hD
  have rw_ := re.wipe vs
  refine ⟨fun i k H => k = xs.length - i ∧ i ≤ xs.length ∧ ∃ m1 w1 acc us, w1.H = H ∧ ExtE w w1 ∧ RM X.K G w1 m1 ∧ OwnL w1 D us ∧ RVs X.K G w1 acc us ∧ finL X.K G W w σ Q (compL g t f (xs.drop i) acc (wipeE E vs) m1),
    ⟨xs.length, by simp, Nat.zero_le _, m, w.put D (.lst []), [], [], rfl, x0, R.put hD, o0, RVs.nil, z2⟩, ?_⟩
  rintro i k H1 ⟨rfl, hi, m1, w1, acc, us, rfl, x1, R1, o1, r1, z3⟩
  have y1 := y
  by_cases hlt : i < xs.length
  · refine .inr ?_
    obtain ⟨hgo, hy⟩ := y.go i xs[i] w1 m1 (List.getElem?_eq_getElem hlt) x1.toExt R1
    refine ⟨hgo, fun H' => ∃ m2 w2 acc us, w2.H = H' ∧ ExtE w w2 ∧ RM X.K G w2 m2 ∧ OwnL w2 D us ∧ RVs X.K G w2 acc us ∧ finL X.K G W w σ Q (compL g t f (xs.drop (i + 1)) acc (wipeE E vs) m2), fun H' h => ⟨xs.length - (i + 1), by omega, rfl, hlt, h⟩, fun v H' yv => ?_⟩
    obtain ⟨w3, rfl, e3, R3, r3⟩ := hy v H' yv
    have x3 := ExtE.trans R R1 x1 e3
    have re3 := x3.re R rw_
    have o3 := e3.own D us o1
    have a3 := e3.toExt.rvs R1 _ _ r1
    rw [List.drop_eq_getElem_cons hlt] at z3
    have z4 : finL X.K G W w σ Q (match g xs[i] (wipeE E vs) with
      | some E1 => (t E1 m1).bindB fun b m1 => if b = true then (f E1 m1).bindB fun y m2 => if acc.length < sizeLine then compL g t f (xs.drop (i + 1)) (acc ++ [y]) (wipeE E vs) m2 else .bad
        else compL g t f (xs.drop (i + 1)) acc (wipeE E vs) m1
      | none => .bad) := z3
    cases eg : g xs[i] (wipeE E vs) with
    | none => rw [eg] at z4; exact z4.elim
    | some E1 =>
      rw [eg] at z4
      have z5 : finL X.K G W w σ Q ((t E1 m1).bindB fun b m1 => if b = true then (f E1 m1).bindB fun y m2 => if acc.length < sizeLine then compL g t f (xs.drop (i + 1)) (acc ++ [y]) (wipeE E vs) m2 else .bad
        else compL g t f (xs.drop (i + 1)) acc (wipeE E vs) m1) := z4
      refine ⟨xs[i], wipeE E vs, m1, w3, E1, rfl, R3, re3, r3, eg, fun σ2 s2 c2 => ⟨?_, E1, m1, w3, rfl, R3, s2, trivial, ?_⟩⟩
      · have q : L2.wipe σ2 vs = L2.wipe (L2.wipe σ vs) vs := wipe_same c2.len fun j hj => (c2.out j fun z => hj (his j z)).1
        rw [q]
        exact wipe_same (wipe_length σ vs) fun j hj => wipe_out' hj
      · show fin _ X.K G W0 w3 σ2 _ (t E1 m1)
        cases et : t E1 m1 with
        | bad => rw [et] at z5; exact z5.elim
        | exc c v m2 => rw [et] at z5; exact z5.elim
        | ok b m2 =>
          rw [et] at z5
          intro b' w4 e4 R4 eb
          subst eb
          have x4 := ExtE.trans R R3 x3 e4
          have o4 := e4.own D us o3
          have a4 := e4.toExt.rvs R3 _ _ a3
          cases b with
          | false => exact iteF ⟨m2, w4, acc, us, rfl, x4, R4, o4, a4, z5⟩
          | true =>
            refine iteT ⟨E1, m2, w4, rfl, R4, e4.re R3 s2, trivial, ?_⟩
            have z6 : finL X.K G W w σ Q ((f E1 m2).bindB fun y m2 => if acc.length < sizeLine then compL g t f (xs.drop (i + 1)) (acc ++ [y]) (wipeE E vs) m2 else .bad) := z5
            show fin _ X.K G W0 w4 σ2 _ (f E1 m2)
            cases ef : f E1 m2 with
            | bad => rw [ef] at z6; exact z6.elim
            | exc c v m3 => rw [ef] at z6; exact z6.elim
            | ok y m3 =>
              rw [ef] at z6
              have z7 : finL X.K G W w σ Q (if acc.length < sizeLine then compL g t f (xs.drop (i + 1)) (acc ++ [y]) (wipeE E vs) m3 else .bad) := z6
              intro v5 w5 e5 R5 r5
              have x5 := ExtE.trans R R4 x4 e5
              have o5 := e5.own D us o4
              have a5 := e5.toExt.rvs R4 _ _ a4
              by_cases hz : acc.length < sizeLine
              · rw [if_pos hz] at z7
                refine ⟨us, o5.at_, by rw [← a5.length]; exact hz, m3, w5.upl D (us ++ [v5]), acc ++ [y], us ++ [v5], rfl, x5.upl (nl_none hD) o5, R5.upl o5, o5.upl, ?_, z7⟩
                exact (Ext.upl o5).rvs R5 _ _ (a5.append (RVs.one r5))
              · rw [if_neg hz] at z7
                exact z7.elim
  · have e : i = xs.length := by omega
    subst e
    rw [List.drop_length] at z3
    exact .inl ⟨y.stop w1 m1 x1.toExt R1, z3 D us w1 x1 R1 (nl_none hD) o1 r1⟩
/-- a comprehension -/
theorem jl_comp (hc : X.calm = true) (hN : X.N.Nodup) (hi : PI X tg iter (tI X.K G W fi)) (ok : BlkOk X.N X.env.scope scope own)
    (hg : ∀ (s : Shared) (H : Hp) (C : Addr) (cl : List (Str × Addr)) (fp : List Addr), PG (X.blk s H scope (compEnvC scope cl C X.env) fp) tg (tG X.K G g is))
    (ht : ∀ (s : Shared) (H : Hp) (C : Addr) (cl : List (Str × Addr)) (fp : List Addr), PTs (X.blk s H scope (compEnvC scope cl C X.env) fp) ifs (tT X.K G W0 t))
    (he : ∀ (s : Shared) (H : Hp) (C : Addr) (cl : List (Str × Addr)) (fp : List Addr), PE (X.blk s H scope (compEnvC scope cl C X.env) fp) elt (tE X.K G W0 f))
    (hs : ∀ x, foldedSetIterable iter X.env x = pure x) (his : ∀ j ∈ is, j ∈ own.map (·.2)) :
    PE X (.ListComp elt [⟨tg, iter, ifs, 0⟩] scope pos) (tL X.K G W (eComp fi g t f (own.map (·.2)))) :=
  PE.imp (pe_lc hc hN hi ok hg ht he hs) fun σ H Q z => tLc_of his z
theorem js_ownC {i : Nat} {y : Str} {py spos : Pos} (hc : X.calm = true) (hN : X.N.Nodup) (hy : X.N[i]? = some y) (hyl : X.env.scope.names.lookup y = some .local)
    (hsw : swapsWith (.ListComp elt [⟨tg, iter, ifs, 0⟩] scope pos) (some (.Name y py)) spos.line X.env = pure true) (hi : PI X tg iter (tI X.K G W fi)) (ok : BlkOk X.N X.env.scope scope own)
    (hg : ∀ (s : Shared) (H : Hp) (C : Addr) (cl : List (Str × Addr)) (fp : List Addr), PG (X.blk s H scope (compEnvC scope cl C X.env) fp) tg (tG X.K G g is))
    (ht : ∀ (s : Shared) (H : Hp) (C : Addr) (cl : List (Str × Addr)) (fp : List Addr), PTs (X.blk s H scope (compEnvC scope cl C X.env) fp) ifs (tT X.K G W0 t))
    (he : ∀ (s : Shared) (H : Hp) (C : Addr) (cl : List (Str × Addr)) (fp : List Addr), PE (X.blk s H scope (compEnvC scope cl C X.env) fp) elt (tE X.K G W0 f))
    (hs : ∀ x, foldedSetIterable iter X.env x = pure x) (his : ∀ j ∈ is, j ∈ own.map (·.2)) :
    PS X (.Assign [.Name y py] (.ListComp elt [⟨tg, iter, ifs, 0⟩] scope pos) spos) (tS X.K G W (sOwn i (eComp fi g t f (own.map (·.2))))) :=
  PS.imp (ps_setLc hc hN hy hyl hsw hi ok hg ht he hs) fun D σ H z => by
    refine tLc_of his ?_
    obtain ⟨E, m, w, B, rfl, s, z⟩ := z
    refine ⟨E, m, w, rfl, s.rm, s.re, trivial, ?_⟩
    unfold sOwn sE at z
    show finL X.K G W w σ _ (eComp fi g t f (own.map (·.2)) E m)
    cases q : eComp fi g t f (own.map (·.2)) E m with
    | bad => rw [q] at z; exact z
    | exc c x m1 => rw [q] at z; exact fun d y w1 e1 R1 h1 h2 => z d y σ w1 (s.step e1 R1) h1 h2
    | ok xs m1 =>
      rw [q] at z
      exact fun a vs w1 e1 R1 ha o r => z _ w1 e1.toExt (s.own e1 R1 ha o r i)
/-! ### a slot's list is frozen -/
def frz (i : Nat) (E : Ev) : Ev := match E[i]? with
  | some (some (.own xs)) => E.set i (some (.lst xs))
  | _ => E
def sFrz (i : Nat) (g : SF) : SF := fun E m => g (frz i E) m
theorem SI.frz {K : PySem.W.Frag} {B w : Wd} {E : Ev} {σ : L2.St} {m : Mem} (s : SI K G B w E σ m) (i : Nat) : ∃ w1, w1.H = w.H ∧ Ext w w1 ∧ SI K G B w1 (Pv.frz i E) σ m := by
  unfold Pv.frz
  split
  · rename_i xs h
    obtain ⟨v, h1, h2⟩ := s.re.val i _ h
    rcases h2 with h2 | ⟨ys, a, vs, e, rfl, o, r⟩
    · exact (rv_own h2).elim
    · cases e
      have hb := s.fresh i xs a h h1
      have x1 : Ext w (w.fre a) := Ext.fre
      have R1 : RM K G (w.fre a) m := s.rm.fre o.nr ⟨vs, o.at_⟩
      obtain ⟨mb, rb⟩ := s.rb
      have hi : i < E.length := (List.getElem?_eq_some_iff.mp h).1
      have other : ∀ (j : Nat) (zs : List PV), i ≠ j → E[j]? = some (some (.own zs)) → σ[j]? = some (some (.ref a)) → False := fun j zs hj q1 q2 => s.re.dis i j xs zs a hj h q1 h1 q2
      refine ⟨w.fre a, rfl, x1, s.rb, R1, ⟨by rw [List.length_set]; exact s.re.len, fun j y q => ?_, fun j k ys zs b hne q1 q2 q3 q4 => ?_⟩, ExtE.freN rb s.rm s.ext hb, fun j ys b q1 q2 => ?_⟩
      · by_cases hj : i = j
        · subst hj
          rw [List.getElem?_set_self hi] at q
          cases q
          exact ⟨.ref a, h1, .inl (rv_lst.mpr ⟨a, vs, rfl, ⟨.inr rfl, o.at_⟩, x1.rvs s.rm _ _ r⟩)⟩
        · rw [List.getElem?_set_ne hj] at q
          obtain ⟨u, q1, q2⟩ := s.re.val j y q
          refine ⟨u, q1, ?_⟩
          rcases q2 with q2 | ⟨zs, b, us, rfl, rfl, o2, r2⟩
          · exact .inl (x1.rv s.rm _ _ q2)
          · refine .inr ⟨zs, b, us, rfl, rfl, ⟨o2.at_, fun z => z.elim o2.nf fun e => ?_, o2.nr⟩, x1.rvs s.rm _ _ r2⟩
            rw [e] at q1
            exact other j zs hj q q1
      · have n1 : i ≠ j := fun z => by
          subst z
          rw [List.getElem?_set_self hi] at q1
          cases q1
        have n2 : i ≠ k := fun z => by
          subst z
          rw [List.getElem?_set_self hi] at q2
          cases q2
        rw [List.getElem?_set_ne n1] at q1
        rw [List.getElem?_set_ne n2] at q2
        exact s.re.dis j k ys zs b hne q1 q2 q3 q4
      · have n1 : i ≠ j := fun z => by
          subst z
          rw [List.getElem?_set_self hi] at q1
          cases q1
        rw [List.getElem?_set_ne n1] at q1
        exact s.fresh j ys b q1 q2
  · exact ⟨w, rfl, Ext.refl, s⟩
theorem js_frz {st : Stmt} {g : SF} (i : Nat) (h : PS X st (tS X.K G W g)) : PS X st (tS X.K G W (sFrz i g)) := PS.imp h fun D σ H z => by
  obtain ⟨E, m, w, B, rfl, s, z⟩ := z
  obtain ⟨w1, e, x1, s1⟩ := s.frz i
  exact ⟨_, m, w1, B, e, s1, finS.back s.rm s1.rm x1 z⟩
/-! ### a slot's list changes -/
theorem SI.upl {K : PySem.W.Frag} {B w : Wd} {E : Ev} {σ : L2.St} {m : Mem} (s : SI K G B w E σ m) {i : Nat} {xs ys : List PV} {a : Addr} {vs us : List V} (h : E[i]? = some (some (.own xs))) (h1 : σ[i]? = some (some (.ref a))) (o : OwnL w a vs) (r : RVs K G w ys us) :
    Ext w (w.upl a us) ∧ SI K G B (w.upl a us) (E.set i (some (.own ys))) σ m := by
  have x1 : Ext w (w.upl a us) := Ext.upl o
  have hb := s.fresh i xs a h h1
  have hi : i < E.length := (List.getElem?_eq_some_iff.mp h).1
  have other : ∀ (j : Nat) (zs : List PV), i ≠ j → E[j]? = some (some (.own zs)) → σ[j]? = some (some (.ref a)) → False := fun j zs hj q1 q2 => s.re.dis i j xs zs a hj h q1 h1 q2
  refine ⟨x1, s.rb, s.rm.upl o, ⟨by rw [List.length_set]; exact s.re.len, fun j y q => ?_, fun j k ys zs b hne q1 q2 q3 q4 => ?_⟩, s.ext.upl hb o, fun j zs b q1 q2 => ?_⟩
  · by_cases hj : i = j
    · subst hj
      rw [List.getElem?_set_self hi] at q
      cases q
      exact ⟨.ref a, h1, .inr ⟨ys, a, us, rfl, rfl, o.upl, x1.rvs s.rm _ _ r⟩⟩
    · rw [List.getElem?_set_ne hj] at q
      obtain ⟨u, q1, q2⟩ := s.re.val j y q
      refine ⟨u, q1, ?_⟩
      rcases q2 with q2 | ⟨zs, b, us', rfl, rfl, o2, r2⟩
      · exact .inl (x1.rv s.rm _ _ q2)
      · refine .inr ⟨zs, b, us', rfl, rfl, ⟨?_, o2.nf, o2.nr⟩, x1.rvs s.rm _ _ r2⟩
        show upd w.H a _ b = _
        rw [upd_ne (fun z => other j zs hj q (by rw [← z]; exact q1))]
        exact o2.at_
  · by_cases hj : i = j
    · subst hj
      have hk : i ≠ k := hne
      rw [List.getElem?_set_ne hk] at q2
      rw [h1] at q3
      cases q3
      exact other k zs hk q2 q4
    · rw [List.getElem?_set_ne hj] at q1
      by_cases hk : i = k
      · subst hk
        rw [h1] at q4
        cases q4
        exact other j ys hj q1 q3
      · rw [List.getElem?_set_ne hk] at q2
        exact s.re.dis j k ys zs b hne q1 q2 q3 q4
  · by_cases hj : i = j
    · subst hj
      exact s.fresh i xs b h q2
    · rw [List.getElem?_set_ne hj] at q1
      exact s.fresh j zs b q1 q2
def sApp (i : Nat) (f : EF) : SF := fun E m => match E[i]? with
  | some (some (.own xs)) => sE f (fun y E m => if xs.length < sizeLine then .next (E.set i (some (.own (xs ++ [y])))) m else .bad) E m
  | _ => .bad
/-- the list of a slot -/
theorem SI.ownAt {K : PySem.W.Frag} {B w : Wd} {E : Ev} {σ : L2.St} {m : Mem} (s : SI K G B w E σ m) {i : Nat} {xs : List PV} (h : E[i]? = some (some (.own xs))) : ∃ a vs, σ[i]? = some (some (.ref a)) ∧ OwnL w a vs ∧ RVs K G w xs vs := by
  obtain ⟨v, h1, h2⟩ := s.re.val i _ h
  rcases h2 with h2 | ⟨ys, a, vs, e, rfl, o, r⟩
  · exact (rv_own h2).elim
  · cases e
    exact ⟨a, vs, h1, o, r⟩
/-- x.append(e) -/
theorem js_app {i : Nat} {fe : EF} (hp : PE X e (tBM X.K "list" rAppend (tVar i) (tCons (tE X.K G W fe) tNil))) (hs : swapsWith e none pos.line X.env = pure false) : PS X (.Expr e pos) (tS X.K G W (sApp i fe)) := PS.imp (ps_expr hp hs) fun D σ H z => by
  obtain ⟨E, m, w, B, rfl, s, z⟩ := z
  unfold sApp at z
  split at z
  · rename_i xs h
    obtain ⟨a, vs, h1, o, r⟩ := s.ownAt h
    refine ⟨.ref a, h1, .inl ⟨rfl, vs, SqL.of o.at_⟩, ?_⟩
    unfold sE at z
    have goal : tX (RV X.K G) X.K G W fe σ w.H fun v H2 => rAppend (.ref a) [v] H2 fun _ H1 => D.nx σ H1 := by
      refine s.tX (fun y m1 e v w1 e1 s1 r1 => ?_) (fun c x m1 e d y w1 s1 h2 h3 => ?_) (fun e => ?_)
      · rw [e] at z
        have z : finS X.K G W B w D (if xs.length < sizeLine then .next (E.set i (some (.own (xs ++ [y])))) m1 else .bad) := z
        by_cases hz : xs.length < sizeLine
        · rw [if_pos hz] at z
          have o1 := e1.own a vs o
          have r2 := e1.toExt.rvs s.rm _ _ r
          obtain ⟨x2, s2⟩ := s1.upl h h1 o1 (r2.append (RVs.one r1))
          exact ⟨a, vs, v, rfl, rfl, o1.at_, by rw [← r.length]; exact hz, z σ _ (Ext.trans s.rm s1.rm e1.toExt x2) s2⟩
        · rw [if_neg hz] at z
          exact z.elim
      · rw [e] at z
        exact z d y σ w1 s1 h2 h3
      · rw [e] at z
        exact z
    exact goal
  · exact z.elim
/-- x.extend(e), e a list of any other place -/
def sExt (i : Nat) (f : EF) : SF := fun E m => match E[i]? with
  | some (some (.own xs)) => sE f (fun y E m => match y with
    | .lst ys => if xs.length + ys.length ≤ sizeLine then .next (E.set i (some (.own (xs ++ ys)))) m else .bad
    | _ => .bad) E m
  | _ => .bad
theorem js_ext {i : Nat} {fe : EF} (hp : PE X e (tBM X.K "list" rExtend (tVar i) (tCons (tE X.K G W fe) tNil))) (hs : swapsWith e none pos.line X.env = pure false) : PS X (.Expr e pos) (tS X.K G W (sExt i fe)) := PS.imp (ps_expr hp hs) fun D σ H z => by
  obtain ⟨E, m, w, B, rfl, s, z⟩ := z
  unfold sExt at z
  split at z
  · rename_i xs h
    obtain ⟨a, vs, h1, o, r⟩ := s.ownAt h
    refine ⟨.ref a, h1, .inl ⟨rfl, vs, SqL.of o.at_⟩, ?_⟩
    unfold sE at z
    have goal : tX (RV X.K G) X.K G W fe σ w.H fun v H2 => rExtend (.ref a) [v] H2 fun _ H1 => D.nx σ H1 := by
      refine s.tX (fun y m1 e v w1 e1 s1 r1 => ?_) (fun c x m1 e d y w1 s1 h2 h3 => ?_) (fun e => ?_)
      · rw [e] at z
        cases y with
        | lst ys =>
          have z : finS X.K G W B w D (if xs.length + ys.length ≤ sizeLine then .next (E.set i (some (.own (xs ++ ys)))) m1 else .bad) := z
          rw [rv_lst] at r1
          obtain ⟨b, us, rfl, hb, r3⟩ := r1
          by_cases hz : xs.length + ys.length ≤ sizeLine
          · rw [if_pos hz] at z
            have o1 := e1.own a vs o
            have r2 := e1.toExt.rvs s.rm _ _ r
            obtain ⟨x2, s2⟩ := s1.upl h h1 o1 (r2.append r3)
            exact ⟨a, b, vs, us, rfl, rfl, o1.at_, hb.2, by rw [← r.length, ← r3.length]; exact hz, z σ _ (Ext.trans s.rm s1.rm e1.toExt x2) s2⟩
          · rw [if_neg hz] at z
            exact z.elim
        | _ => exact z.elim
      · rw [e] at z
        exact z d y σ w1 s1 h2 h3
      · rw [e] at z
        exact z
    exact goal
  · exact z.elim
/-! ### a list of the memory -/
theorem nodup_ix' {α : Type} {l : List α} (h : l.Nodup) {i j : Nat} {x : α} (a : l[i]? = some x) (b : l[j]? = some x) : i = j := by
  obtain ⟨h1, e1⟩ := List.getElem?_eq_some_iff.mp a
  obtain ⟨h2, e2⟩ := List.getElem?_eq_some_iff.mp b
  exact (List.getElem_inj h).mp (e1.trans e2.symm)
/-- x[i], x a list of the memory -/
def pIxM : Op2 := fun x y m => match x, y with
  | .ref n, .int i => (match m[n]? with
    | some xs => atI xs i
    | none => none)
  | _, _ => none
theorem atI_rvs {K : PySem.W.Frag} {w : Wd} {xs : List PV} {vs : List V} {i : Int} {z : PV} (r : RVs K G w xs vs) (h : atI xs i = some z) : ∃ v, atI vs i = some v ∧ RV K G w z v := by
  unfold atI at h ⊢
  rw [← r.length]
  cases q : ixN xs.length i with
  | none => rw [q] at h; cases h
  | some j =>
    rw [q] at h
    exact r.get h
theorem opIxM : Op2S X.K G (rIxL X.K) pIxM := by
  intro w m x y v u z Q R r1 r2 h b
  unfold pIxM at h
  split at h
  · rename_i n i
    cases hm : m[n]? with
    | none => rw [hm] at h; cases h
    | some xs =>
      rw [hm] at h
      rw [rv_ref] at r1
      obtain ⟨a, rfl, ha⟩ := r1
      rw [rv_int] at r2
      subst r2
      obtain ⟨vs, e, r⟩ := R.at_ n a xs ha hm
      obtain ⟨q, h1, h2⟩ := atI_rvs r h
      exact ⟨a, vs, i, q, rfl, rfl, SqL.of e, h1, b.now R h2⟩
  · cases h
/-- x[i] = e, x a list of the memory -/
def setM (o i y : PV) : SF := fun E m => match o, i with
  | .ref n, .int k => (match m[n]? with
    | some xs => (match ixN xs.length k with
      | some j => .next E (m.set n (xs.set j y))
      | none => .bad)
    | none => .bad)
  | _, _ => .bad
def sSetM (fo fi f : EF) : SF := sE f fun y => sE fo fun o => sE fi fun i => setM o i y
theorem SI.mem {K : PySem.W.Frag} {B w : Wd} {E : Ev} {σ : L2.St} {m : Mem} (s : SI K G B w E σ m) {n : Nat} {a : Addr} {xs ys : List PV} {us : List V} (ha : w.ρ[n]? = some a) (hm : m[n]? = some xs) (r : RVs K G w ys us) :
    Ext w (w.upl a us) ∧ SI K G B (w.upl a us) E σ (m.set n ys) := by
  have R := s.rm
  have har : a ∈ w.ρ := List.mem_of_getElem? ha
  obtain ⟨vs, ea, _⟩ := R.at_ n a xs ha hm
  have ne : ∀ {b : Addr} {o : HO}, w.H b = some o → b ∉ w.ρ → b ≠ a := fun {b o} _ h z => h (by rw [z]; exact har)
  have at_ne : ∀ {b : Addr} {o : Option HO}, b ≠ a → w.H b = o → (w.upl a us).H b = o := fun {b o} h q => by
    show upd w.H a _ b = o
    rw [upd_ne h]
    exact q
  have x1 : Ext w (w.upl a us) := ⟨fun b o h1 h2 _ _ => at_ne (ne h1 h2) h1, fun _ h => h, ⟨[], (List.append_nil _).symm⟩, fun b o h => by
    by_cases z : b = a
    · rw [z]
      exact ⟨_, upd_same⟩
    · exact ⟨o, at_ne z h⟩⟩
  have hno : ∀ {b : Addr} {o : HO}, w.H b = some o → (∀ vs, o ≠ .lst vs) → b ≠ a := fun {b o} h q z => by
    rw [z, ea] at h
    exact q vs (Option.some.inj h).symm
  have R1 : RM K G (w.upl a us) (m.set n ys) := by
    refine ⟨by rw [List.length_set]; exact R.len, R.nd, fun k b zs h1 h2 => ?_, R.nf, fun b h => ?_, fun p hp => ?_⟩
    · by_cases hk : n = k
      · subst hk
        have h1 : w.ρ[n]? = some b := h1
        rw [ha] at h1
        cases h1
        rw [List.getElem?_set_self (List.getElem?_eq_some_iff.mp hm).1] at h2
        cases h2
        exact ⟨us, upd_same, x1.rvs R _ _ r⟩
      · rw [List.getElem?_set_ne hk] at h2
        obtain ⟨ws, e, r2⟩ := R.at_ k b zs h1 h2
        refine ⟨ws, at_ne (fun z => ?_) e, x1.rvs R _ _ r2⟩
        have h1 : w.ρ[k]? = some b := h1
        rw [z] at h1
        exact hk (nodup_ix' R.nd ha h1)
    · obtain ⟨ws, e⟩ := R.fl b h
      exact ⟨ws, at_ne (fun z => R.nf a har (z ▸ h)) e⟩
    · obtain ⟨ps, h1, h2, h3⟩ := R.tabs p hp
      refine ⟨ps, at_ne (hno h1 fun vs z => nomatch z) h1, h2, fun pos cv hc => ?_⟩
      obtain ⟨c, e1, e2⟩ := h3 pos cv hc
      exact ⟨c, e1, at_ne (hno e2 fun vs z => by unfold LamX.CodeO at z; cases z) e2⟩
  refine ⟨x1, s.rb, R1, ⟨s.re.len, fun j y h => ?_, s.re.dis⟩, ⟨⟨fun b o h1 h2 h3 h4 => ?_, s.ext.fz, s.ext.rh, fun b o h => ?_⟩, fun b zs o => ?_⟩, s.fresh⟩
  · obtain ⟨v, h1, h2⟩ := s.re.val j y h
    refine ⟨v, h1, ?_⟩
    rcases h2 with h2 | ⟨zs, b, ws, rfl, rfl, o, r2⟩
    · exact .inl (x1.rv R _ _ h2)
    · exact .inr ⟨zs, b, ws, rfl, rfl, ⟨at_ne (ne o.at_ o.nr) o.at_, o.nf, o.nr⟩, x1.rvs R _ _ r2⟩
  · have h5 := s.ext.keep b o h1 h2 h3 h4
    refine at_ne (fun z => ?_) h5
    rw [z, ea] at h5
    have h6 := h3 vs (Option.some.inj h5).symm
    rw [z] at h6
    exact R.nf a har (s.ext.fz a h6)
  · obtain ⟨o', h'⟩ := s.ext.there b o h
    exact x1.there b o' h'
  · have q := s.ext.own b zs o
    exact ⟨at_ne (ne q.at_ q.nr) q.at_, q.nf, q.nr⟩
theorem js_setM {o i : Expr} {fo fi f : EF} {sp : Pos} (ho : PE X o (tE X.K G W fo)) (hi : PE X i (tE X.K G W fi)) (he : PE X e (tE X.K G W f))
    (ha : ∀ v, assign (.Subscript o i sp) X.env v = (do
      let ov ← holding [v] (eval o X.env)
      let iv ← holding [v, ov] (eval i X.env)
      standAt sp
      holding [v, ov, iv] (setItem ov iv v)
      release [v, ov, iv] [])) (hs : swapsWithSole [.Subscript o i sp] e pos.line X.env = pure false) (hw : swappedStores [.Subscript o i sp] e X.env = pure none)
    (h1 : (assignEach [.Subscript o i sp] X.env).map (·.2) = [assign (.Subscript o i sp) X.env]) : PS X (.Assign [.Subscript o i sp] e pos) (tS X.K G W (sSetM fo fi f)) :=
  PS.imp (ps_asg he (pg_sub ho hi set_list ha) hs hw h1) fun D σ H z => by
    refine tS_E (rel := RV X.K G) (f := f) z fun E m w B y v s r q => ?_
    have q1 : finS X.K G W B w D (sE fo (fun o => sE fi fun i => setM o i y) E m) := q
    have goal : tX (RV X.K G) X.K G W fo σ w.H fun o H1 => tE X.K G W fi σ H1 fun i H2 => rSetL o i v H2 fun H3 => D.nx σ H3 := by
      unfold sE at q1
      refine s.tX (fun o m1 eo vo w1 e1 s1 ro => ?_) (fun c x m1 eo d y w1 s1 h2 h3 => ?_) (fun eo => ?_)
      · rw [eo] at q1
        have q2 : finS X.K G W B w D (sE fi (fun i => setM o i y) E m1) := q1
        unfold sE at q2
        refine s1.tX (fun i m2 ei vi w2 e2 s2 ri => ?_) (fun c x m2 ei d y w2 s2 h2 h3 => ?_) (fun ei => ?_)
        · rw [ei] at q2
          have q3 : finS X.K G W B w D (setM o i y E m2) := q2
          unfold setM at q3
          split at q3
          · rename_i n k
            cases hm : m2[n]? with
            | none => rw [hm] at q3; exact q3.elim
            | some xs =>
              rw [hm] at q3
              dsimp only at q3
              cases hj : ixN xs.length k with
              | none => rw [hj] at q3; exact q3.elim
              | some j =>
                rw [hj] at q3
                rw [rv_ref] at ro
                obtain ⟨a, rfl, ha1⟩ := ro
                rw [rv_int] at ri
                subst ri
                have ha2 := e2.toExt.rho ha1
                obtain ⟨vs, ea, rvs⟩ := s2.rm.at_ n a xs ha2 hm
                have rv2 := e2.toExt.rv s1.rm _ _ (e1.toExt.rv s.rm _ _ r)
                obtain ⟨x3, s3⟩ := s2.mem ha2 hm (rvs.set j rv2)
                exact ⟨a, vs, k, j, rfl, rfl, ea, by rw [← rvs.length]; exact hj, q3 σ _ (Ext.trans s.rm s2.rm (Ext.trans s.rm s1.rm e1.toExt e2.toExt) x3) s3⟩
          · exact q3.elim
        · rw [ei] at q2
          exact q2 d y σ w2 s2 h2 h3
        · rw [ei] at q2
          exact q2
      · rw [eo] at q1
        exact q1 d y σ w1 s1 h2 h3
      · rw [eo] at q1
        exact q1
    exact goal
end
end Pv
set_option maxRecDepth 100000
set_option maxHeartbeats 2000000
set_option autoImplicit false
/-! Pv7: operations by their rules. -/
namespace Pv
open PySem PySem.Spec PyProof.Rows L2
/-! ### numbers -/
def lg (i : Int) : Nat := i.natAbs.log2
def pAdd : Op2 := fun x y _ => match x, y with
  | .int i, .int j => some (.int (i + j))
  | .str a, .str b => if a.length + b.length ≤ sizeLine then some (.str (a ++ b)) else none
  | .tup xs, .tup ys => if xs.length + ys.length ≤ sizeLine then some (.tup (xs ++ ys)) else none
  | .lst xs, .lst ys => if xs.length + ys.length ≤ sizeLine then some (.lst (xs ++ ys)) else none
  | _, _ => none
def pSub : Op2 := fun x y _ => match x, y with
  | .int i, .int j => some (.int (i - j))
  | _, _ => none
def pMul : Op2 := fun x y _ => match x, y with
  | .int i, .int j => if lg i + lg j < 1000000 then some (.int (i * j)) else none
  | .lst xs, .int k => if (-(2 ^ 63) ≤ k ∧ k < 2 ^ 63) ∧ xs.length * k.toNat ≤ sizeLine then some (.lst (List.replicate k.toNat xs).flatten) else none
  | .tup xs, .int k => if (2 ≤ k ∧ k ≤ 1000) ∧ (xs.isEmpty = false ∧ xs.length ≤ 1000) then some (.tup (List.replicate k.toNat xs).flatten) else none
  | _, _ => none
def pFdiv : Op2 := fun x y _ => match x, y with
  | .int i, .int j => if 0 < j ∧ lg j < 9000 then some (.int (i / j)) else none
  | _, _ => none
def pMod : Op2 := fun x y _ => match x, y with
  | .int i, .int j => if 0 < j then some (.int (i % j)) else none
  | _, _ => none
def pPow : Op2 := fun x y _ => match x, y with
  | .int i, .int j => if 0 ≤ j ∧ ((lg i + 1 : Nat) : Int) * j ≤ 2 ^ 27 then some (.int (i ^ j.toNat)) else none
  | _, _ => none
def pNeg : Op1 := fun x _ => match x with
  | .int i => some (.int (-i))
  | _ => none
def pCmp (p : Int → Int → Bool) : Op2 := fun x y _ => match x, y with
  | .int i, .int j => some (.bl (p i j))
  | _, _ => none
def pLt : Op2 := pCmp fun i j => decide (i < j)
def pLe : Op2 := pCmp fun i j => decide (i ≤ j)
def pGt : Op2 := pCmp fun i j => decide (j < i)
def pGe : Op2 := pCmp fun i j => decide (j ≤ i)
section
variable {X : Cx} {G : Gc}
theorem bits_lg (i : Int) : (Builtin.Int.intBits i : Int) ≤ ((lg i + 1 : Nat) : Int) := by
  have h : Builtin.Int.intBits i ≤ lg i + 1 := by
    unfold Builtin.Int.intBits lg
    split <;> omega
  exact Int.ofNat_le.mpr h
theorem op_powW : OpR X (binaryOp .Pow) (rI (fun i j => 0 ≤ j ∧ ((lg i + 1 : Nat) : Int) * j ≤ 2 ^ 27) fun i j => .int (i ^ j.toNat)) := opI fun i j _ _ _ _ _ hc q =>
  pow_int hc.1 (Int.le_trans (Int.mul_le_mul_of_nonneg_right (bits_lg i) hc.1) hc.2) q
/-- plain operations on two ints -/
theorem ints2 {C : Int → Int → Prop} {g : Int → Int → V} {op : Op2} (h : ∀ x y m z, op x y m = some z → ∃ i j, x = .int i ∧ y = .int j ∧ C i j ∧ ∀ (K : PySem.W.Frag) (G : Gc) (w : Wd), RV K G w z (g i j)) : Op2S X.K G (rI C g) op := fun w m x y v u z Q R r1 r2 e b => by
  obtain ⟨i, j, rfl, rfl, hc, r⟩ := h x y m z e
  rw [rv_int] at r1 r2
  exact ⟨i, j, r1, r2, hc, b.now R (r X.K G w)⟩
theorem ints20 {g : Int → Int → V} {op : Op2} (h : ∀ x y m z, op x y m = some z → ∃ i j, x = .int i ∧ y = .int j ∧ ∀ (K : PySem.W.Frag) (G : Gc) (w : Wd), RV K G w z (g i j)) : Op2S X.K G (rI0 g) op := fun w m x y v u z Q R r1 r2 e b => by
  obtain ⟨i, j, rfl, rfl, r⟩ := h x y m z e
  rw [rv_int] at r1 r2
  exact ⟨i, j, r1, r2, b.now R (r X.K G w)⟩
theorem sSub : Op2S X.K G (rI0 fun i j => .int (i - j)) pSub := ints20 fun x y m z e => by
  unfold pSub at e
  split at e
  · cases e
    exact ⟨_, _, rfl, rfl, fun _ _ _ => rv_int.mpr rfl⟩
  · cases e
theorem sFdiv : Op2S X.K G (rI CDivW fun i j => .int (i / j)) pFdiv := ints2 fun x y m z e => by
  unfold pFdiv at e
  split at e
  · split at e
    · rename_i h
      cases e
      exact ⟨_, _, rfl, rfl, h, fun _ _ _ => rv_int.mpr rfl⟩
    · cases e
  · cases e
theorem sMod : Op2S X.K G (rI (fun _ j => 0 < j) fun i j => .int (i % j)) pMod := ints2 fun x y m z e => by
  unfold pMod at e
  split at e
  · split at e
    · rename_i h
      cases e
      exact ⟨_, _, rfl, rfl, h, fun _ _ _ => rv_int.mpr rfl⟩
    · cases e
  · cases e
theorem sPow : Op2S X.K G (rI (fun i j => 0 ≤ j ∧ ((lg i + 1 : Nat) : Int) * j ≤ 2 ^ 27) fun i j => .int (i ^ j.toNat)) pPow := ints2 fun x y m z e => by
  unfold pPow at e
  split at e
  · split at e
    · rename_i h
      cases e
      exact ⟨_, _, rfl, rfl, h, fun _ _ _ => rv_int.mpr rfl⟩
    · cases e
  · cases e
theorem sCmp {p : Int → Int → Bool} : Op2S X.K G (rI0 fun i j => .bl (p i j)) (pCmp p) := ints20 fun x y m z e => by
  unfold pCmp at e
  split at e
  · cases e
    exact ⟨_, _, rfl, rfl, fun _ _ _ => rv_bl.mpr rfl⟩
  · cases e
theorem sNeg : Op1S X.K G (rU fun i => .int (-i)) pNeg := fun w m x v z Q R r e b => by
  unfold pNeg at e
  split at e
  · cases e
    rw [rv_int] at r
    exact ⟨_, r, b.now R (rv_int.mpr rfl)⟩
  · cases e
abbrev rAddAll (K : PySem.W.Frag) : R2 := fun x y H Q => rI0 (fun i j => .int (i + j)) x y H Q ∨ (∃ i j, x = .str i ∧ y = .str j ∧ i.length + j.length ≤ sizeLine ∧ Q (.str (i ++ j)) H) ∨ rCatA K x y H Q ∨ rCat x y H Q
theorem op_addAll : OpR X (binaryOp .Add) (rAddAll X.K) := op_add.or (op_add_str.or (op_catA.or op_cat))
theorem sAdd : Op2S X.K G (rAddAll X.K) pAdd := fun w m x y v u z Q R r1 r2 e b => by
  unfold pAdd at e
  split at e
  · cases e
    rw [rv_int] at r1 r2
    exact .inl ⟨_, _, r1, r2, b.now R (rv_int.mpr rfl)⟩
  · split at e
    · rename_i h
      cases e
      rw [rv_str] at r1 r2
      exact .inr (.inl ⟨_, _, r1, r2, h, b.now R (rv_str.mpr rfl)⟩)
    · cases e
  · rename_i xs ys
    split at e
    · rename_i h
      cases e
      rw [rv_tup] at r1 r2
      obtain ⟨a1, vs, rfl, s1, q1⟩ := r1
      obtain ⟨a2, us, rfl, s2, q2⟩ := r2
      refine .inr (.inr (.inl ⟨a1, a2, vs, us, rfl, rfl, s1, s2, by rw [← q1.length, ← q2.length]; exact h, fun hx => ?_, fun hx hy => ?_, fun hx hy => b.tup R (q1.append q2)⟩))
      · subst hx
        have q3 : xs = [] := List.length_eq_zero_iff.mp (q1.length.trans rfl)
        subst q3
        exact b.now R (rv_tup.mpr ⟨a2, us, rfl, s2, q2⟩)
      · subst hy
        have q3 : ys = [] := List.length_eq_zero_iff.mp (q2.length.trans rfl)
        subst q3
        exact b.now R (rv_tup.mpr ⟨a1, vs, rfl, s1, by rw [List.append_nil]; exact q1⟩)
    · cases e
  · rename_i xs ys
    split at e
    · rename_i h
      cases e
      rw [rv_lst] at r1 r2
      obtain ⟨a1, vs, rfl, s1, q1⟩ := r1
      obtain ⟨a2, us, rfl, s2, q2⟩ := r2
      exact .inr (.inr (.inr ⟨a1, a2, vs, us, rfl, rfl, s1.2, s2.2, by rw [← q1.length, ← q2.length]; exact h, b.lst R (q1.append q2)⟩))
    · cases e
  · cases e
abbrev rMulAll (K : PySem.W.Frag) : R2 := fun x y H Q => rI CMulW (fun i j => .int (i * j)) x y H Q ∨ rRep x y H Q ∨ rRepT K x y H Q
theorem op_mulAll : OpR X (binaryOp .Mult) (rMulAll X.K) := op_mulW.or (op_rep.or op_repT)
theorem RVs.rep {K : PySem.W.Frag} {w : Wd} {xs : List PV} {vs : List V} (r : RVs K G w xs vs) : ∀ n : Nat, RVs K G w (List.replicate n xs).flatten (List.replicate n vs).flatten
  | 0 => RVs.nil
  | n + 1 => by
    rw [List.replicate_succ, List.replicate_succ, List.flatten_cons, List.flatten_cons]
    exact r.append (RVs.rep r n)
theorem sMul : Op2S X.K G (rMulAll X.K) pMul := fun w m x y v u z Q R r1 r2 e b => by
  unfold pMul at e
  split at e
  · split at e
    · rename_i h
      cases e
      rw [rv_int] at r1 r2
      exact .inl ⟨_, _, r1, r2, h, b.now R (rv_int.mpr rfl)⟩
    · cases e
  · rename_i xs k
    split at e
    · rename_i h
      cases e
      rw [rv_int] at r2
      rw [rv_lst] at r1
      obtain ⟨a1, vs, rfl, s1, q1⟩ := r1
      exact .inr (.inl ⟨a1, k, vs, rfl, r2, s1.2, h.1.1, h.1.2, by rw [← q1.length]; exact h.2, b.lst R (q1.rep _)⟩)
    · cases e
  · rename_i xs k
    split at e
    · rename_i h
      cases e
      rw [rv_int] at r2
      rw [rv_tup] at r1
      obtain ⟨a1, vs, rfl, s1, q1⟩ := r1
      refine .inr (.inr ⟨a1, k, vs, rfl, r2, s1, fun z => ?_, h.1.1, h.1.2, by rw [← q1.length]; exact h.2.2, b.tup R (q1.rep _)⟩)
      subst z
      have q3 : xs = [] := List.length_eq_zero_iff.mp (q1.length.trans rfl)
      rw [q3] at h
      exact absurd h.2.1 (by simp)
    · cases e
  · cases e
end
/-! ### == of data -/
mutual
def toD : PV → PyData
  | .non => .none
  | .bl b => .bool b
  | .int i => .int i
  | .str x => .str x
  | .tup xs => .tuple (toDs xs)
  | .lst xs => .list (toDs xs)
  | .rol xs => .list (toDs xs)
  | _ => .none
def toDs : List PV → List PyData
  | [] => []
  | x :: xs => toD x :: toDs xs
end
mutual
def isD : PV → Bool
  | .non => true
  | .bl _ => true
  | .int _ => true
  | .str _ => true
  | .tup xs => isDs xs
  | .lst xs => isDs xs
  | .rol xs => isDs xs
  | _ => false
def isDs : List PV → Bool
  | [] => true
  | x :: xs => isD x && isDs xs
end
mutual
theorem dp_of {K : PySem.W.Frag} {G : Gc} {w : Wd} : ∀ (x : PV) (v : V), RV K G w x v → isD x = true → Dp K w.H v (toD x)
  | .non, v, r, h => by
    rw [rv_non] at r
    subst r
    exact Dp.non
  | .bl b, v, r, h => by
    rw [rv_bl] at r
    subst r
    exact Dp.bl b
  | .int i, v, r, h => by
    rw [rv_int] at r
    subst r
    exact Dp.int i
  | .str i, v, r, h => by
    rw [rv_str] at r
    subst r
    exact Dp.str i
  | .tup xs, v, r, h => by
    rw [rv_tup] at r
    obtain ⟨a, vs, rfl, s, q⟩ := r
    exact Dp.tup s (dps_of xs vs q h)
  | .lst xs, v, r, h => by
    rw [rv_lst] at r
    obtain ⟨a, vs, rfl, s, q⟩ := r
    exact Dp.lst (SqL.of s.2) (dps_of xs vs q h)
  | .rol xs, v, r, h => by
    rw [rv_rol] at r
    obtain ⟨a, vs, rfl, s, q⟩ := r
    exact Dp.lst s.seq (dps_of xs vs q h)
  | .own _, _, _, h => by cases h
  | .ref _, _, _, h => by cases h
  | .exc _ _, _, _, h => by cases h
theorem dps_of {K : PySem.W.Frag} {G : Gc} {w : Wd} : ∀ (xs : List PV) (vs : List V), RVs K G w xs vs → isDs xs = true → DpAll K w.H vs (toDs xs)
  | [], vs, r, _ => by
    rw [r.nil_inv]
    exact DpAll.nil
  | x :: xs, vs, r, h => by
    obtain ⟨v, u, rfl, r1, r2⟩ := r.cons_inv
    have h' : (isD x && isDs xs) = true := h
    rw [Bool.and_eq_true] at h'
    exact DpAll.cons (dp_of x v r1 h'.1) (dps_of xs u r2 h'.2)
end
/-- data that may be compared -/
def okD (x : PV) : Bool := isD x && SeqAt.shaped (toD x)
def pEq : Op2 := fun x y _ => if okD x = true ∧ okD y = true then some (.bl (PyData.eqv (toD x) (toD y))) else none
def pNe : Op2 := fun x y _ => if okD x = true ∧ okD y = true then some (.bl (!PyData.eqv (toD x) (toD y))) else none
def flatP : PV → Bool
  | .non => true
  | .bl _ => true
  | .int _ => true
  | .str _ => true
  | _ => false
/-- x in y: a list, a tuple of flat things; a list of any data; a text -/
def eqP : PV → PV → Bool
  | .non, .non => true
  | .bl a, .bl b => a == b
  | .bl a, .int b => (if a then 1 else 0) == b
  | .int a, .bl b => a == (if b then 1 else 0)
  | .int a, .int b => a == b
  | .str a, .str b => a == b
  | _, _ => false
def seqP : PV → Option (List PV)
  | .tup xs => some xs
  | .lst xs => some xs
  | .rol xs => some xs
  | _ => none
def inB (x y : PV) : Option Bool := match y with
  | .str b => (match x with
    | .str a => some (!(Builtin.Str.occurrences b a 0 b.length 1).isEmpty)
    | _ => none)
  | y => (match seqP y with
    | some xs => if flatP x = true ∧ xs.all flatP = true then some (xs.any fun y => eqP y x) else
      (match y with
        | .tup _ => none
        | y => if okD x = true ∧ okD y = true then some ((toDs xs).any fun z => PyData.eqv z (toD x)) else none)
    | none => none)
def pIn : Op2 := fun x y _ => (inB x y).map .bl
def pNotIn : Op2 := fun x y _ => (inB x y).map fun b => .bl (!b)
/-- x is y: None, truths -/
def isB (x y : PV) : Option Bool := match y with
  | .non => (match x with
    | .non => some true
    | .own _ => none
    | _ => some false)
  | .bl b => (match x with
    | .bl a => some (decide (a = b))
    | _ => none)
  | _ => none
def pIs : Op2 := fun x y _ => (isB x y).map .bl
def pIsNot : Op2 := fun x y _ => (isB x y).map fun b => .bl (!b)
section
variable {X : Cx} {G : Gc}
theorem sEq : Op2S X.K G (rEqD X.K) pEq := fun w m x y v u z Q R r1 r2 e b => by
  unfold pEq at e
  split at e
  · rename_i h
    cases e
    unfold okD at h
    rw [Bool.and_eq_true, Bool.and_eq_true] at h
    exact ⟨_, _, dp_of x v r1 h.1.1, dp_of y u r2 h.2.1, h.1.2, h.2.2, b.now R (rv_bl.mpr rfl)⟩
  · cases e
theorem sNe : Op2S X.K G (rNeD X.K) pNe := fun w m x y v u z Q R r1 r2 e b => by
  unfold pNe at e
  split at e
  · rename_i h
    cases e
    unfold okD at h
    rw [Bool.and_eq_true, Bool.and_eq_true] at h
    exact ⟨_, _, dp_of x v r1 h.1.1, dp_of y u r2 h.2.1, h.1.2, h.2.2, b.now R (rv_bl.mpr rfl)⟩
  · cases e
abbrev rIsAll : R2 := fun x y H Q => (y = .non ∧ Q (.bl (decide (x = .non))) H) ∨ rIsB x y H Q
abbrev rIsNotAll : R2 := fun x y H Q => (y = .non ∧ Q (.bl (!decide (x = .non))) H) ∨ rNotB x y H Q
theorem op_isAll : OpR X (compareOp .Is) rIsAll := op_isN.or op_isBl
theorem op_isNotAll : OpR X (compareOp .IsNot) rIsNotAll := op_notN.or op_notBl
theorem non_iff {K : PySem.W.Frag} {w : Wd} {x : PV} {v : V} (r : RV K G w x v) (hx : x ≠ .non) : v ≠ .non := fun z => by
  subst z
  cases x with
  | non => exact hx rfl
  | bl b => rw [rv_bl] at r; cases r
  | int b => rw [rv_int] at r; cases r
  | str b => rw [rv_str] at r; cases r
  | tup b => rw [rv_tup] at r; obtain ⟨_, _, e, _⟩ := r; cases e
  | lst b => rw [rv_lst] at r; obtain ⟨_, _, e, _⟩ := r; cases e
  | rol b => rw [rv_rol] at r; obtain ⟨_, _, e, _⟩ := r; cases e
  | own b => exact rv_own r
  | ref b => rw [rv_ref] at r; obtain ⟨_, e, _⟩ := r; cases e
  | exc c b => rw [rv_exc] at r; obtain ⟨_, _, _, e, _⟩ := r; cases e
theorem is_of {K : PySem.W.Frag} {w : Wd} {x y : PV} {v u : V} {b : Bool} (r1 : RV K G w x v) (r2 : RV K G w y u) (h : isB x y = some b) : (u = .non ∧ decide (v = .non) = b) ∨ ∃ p q, v = .bl p ∧ u = .bl q ∧ decide (p = q) = b := by
  unfold isB at h
  split at h
  · rw [rv_non] at r2
    refine .inl ⟨r2, ?_⟩
    split at h
    · cases h
      rw [rv_non] at r1
      exact decide_eq_true r1
    · cases h
    · rename_i hx _
      cases h
      exact decide_eq_false (non_iff r1 hx)
  · split at h
    · cases h
      rw [rv_bl] at r1 r2
      exact .inr ⟨_, _, r1, r2, rfl⟩
    · cases h
  · cases h
theorem sIs : Op2S X.K G rIsAll pIs := fun w m x y v u z Q R r1 r2 e b => by
  unfold pIs at e
  cases h : isB x y with
  | none => rw [h] at e; cases e
  | some k =>
    rw [h] at e
    cases e
    rcases is_of r1 r2 h with ⟨h1, h2⟩ | ⟨p, q, h1, h2, h3⟩
    · exact .inl ⟨h1, b.now R (rv_bl.mpr (by rw [h2]))⟩
    · exact .inr ⟨p, q, h1, h2, b.now R (rv_bl.mpr (by rw [h3]))⟩
theorem sIsNot : Op2S X.K G rIsNotAll pIsNot := fun w m x y v u z Q R r1 r2 e b => by
  unfold pIsNot at e
  cases h : isB x y with
  | none => rw [h] at e; cases e
  | some k =>
    rw [h] at e
    cases e
    rcases is_of r1 r2 h with ⟨h1, h2⟩ | ⟨p, q, h1, h2, h3⟩
    · exact .inl ⟨h1, b.now R (rv_bl.mpr (by rw [h2]))⟩
    · exact .inr ⟨p, q, h1, h2, b.now R (rv_bl.mpr (by rw [h3]))⟩
end
end Pv
set_option maxRecDepth 100000
set_option maxHeartbeats 2000000
set_option autoImplicit false
/-! Pv8: in, subscripts, slices, what is built in. -/
namespace Pv
open PySem PySem.Spec PyProof.Rows L2
section
variable {K : PySem.W.Frag} {G : Gc} {w : Wd}
theorem flat_of : ∀ {x : PV} {v : V}, RV K G w x v → flatP x = true → flatV v = true
  | .non, v, r, h => by rw [rv_non] at r; subst r; rfl
  | .bl b, v, r, h => by rw [rv_bl] at r; subst r; rfl
  | .int b, v, r, h => by rw [rv_int] at r; subst r; rfl
  | .str b, v, r, h => by rw [rv_str] at r; subst r; rfl
  | .tup _, _, _, h => by cases h
  | .lst _, _, _, h => by cases h
  | .rol _, _, _, h => by cases h
  | .own _, _, _, h => by cases h
  | .ref _, _, _, h => by cases h
  | .exc _ _, _, _, h => by cases h
theorem eqP_of {y x : PV} {u v : V} (r1 : RV K G w y u) (r2 : RV K G w x v) (h1 : flatP y = true) (h2 : flatP x = true) : eqV u v = eqP y x := by
  cases y <;> cases x <;> first
    | cases h1; done
    | cases h2; done
    | (simp only [rv_non, rv_bl, rv_int, rv_str] at r1 r2; subst r1 r2; rfl)
theorem flats_of : ∀ {xs : List PV} {vs : List V}, RVs K G w xs vs → xs.all flatP = true → vs.all flatV = true
  | [], vs, r, _ => by rw [r.nil_inv]; rfl
  | x :: xs, vs, r, h => by
    obtain ⟨v, u, rfl, r1, r2⟩ := r.cons_inv
    rw [List.all_cons, Bool.and_eq_true] at h ⊢
    exact ⟨flat_of r1 h.1, flats_of r2 h.2⟩
theorem inV_of {x : PV} {v : V} (rx : RV K G w x v) (hx : flatP x = true) : ∀ {xs : List PV} {vs : List V}, RVs K G w xs vs → xs.all flatP = true → inV v vs = xs.any fun y => eqP y x
  | [], vs, r, _ => by rw [r.nil_inv]; rfl
  | y :: xs, vs, r, h => by
    obtain ⟨u, us, rfl, r1, r2⟩ := r.cons_inv
    rw [List.all_cons, Bool.and_eq_true] at h
    have ih := inV_of rx hx r2 h.2
    unfold inV at ih ⊢
    rw [List.any_cons, List.any_cons, ih, eqP_of r1 rx h.1 hx]
theorem seq_of {y : PV} {u : V} {xs : List PV} (r : RV K G w y u) (h : seqP y = some xs) : ∃ p vs, u = .ref p ∧ (SqL K w.H p vs ∨ SqT K w.H p vs) ∧ RVs K G w xs vs := by
  cases y with
  | tup ys =>
    cases h
    rw [rv_tup] at r
    obtain ⟨a, vs, e, s, q⟩ := r
    exact ⟨a, vs, e, .inr s, q⟩
  | lst ys =>
    cases h
    rw [rv_lst] at r
    obtain ⟨a, vs, e, s, q⟩ := r
    exact ⟨a, vs, e, .inl (SqL.of s.2), q⟩
  | rol ys =>
    cases h
    rw [rv_rol] at r
    obtain ⟨a, vs, e, s, q⟩ := r
    exact ⟨a, vs, e, .inl s.seq, q⟩
  | _ => cases h
end
section
variable {X : Cx} {G : Gc}
abbrev rInAll (K : PySem.W.Frag) : R2 := fun x y H Q => (∃ i j, x = .str i ∧ y = .str j ∧ Q (.bl (!(Builtin.Str.occurrences j i 0 j.length 1).isEmpty)) H) ∨ rIn K false x y H Q ∨ rInD K x y H Q
abbrev rNotInAll (K : PySem.W.Frag) : R2 := fun x y H Q => (∃ i j, x = .str i ∧ y = .str j ∧ Q (.bl (!(!(Builtin.Str.occurrences j i 0 j.length 1).isEmpty))) H) ∨ rIn K true x y H Q ∨ rNotInD K x y H Q
theorem op_inAll (hu : X.A.units + 65 < cLine) : OpR X (compareOp .In) (rInAll X.K) := op_in_str.or (op_in_seq.or (op_inD hu))
theorem op_notInAll (hu : X.A.units + 65 < cLine) : OpR X (compareOp .NotIn) (rNotInAll X.K) := op_notIn_str.or (op_notIn_seq.or (op_notInD hu))
/-- the three ways of in -/
theorem in_of {w : Wd} {K : PySem.W.Frag} {x y : PV} {v u : V} {b : Bool} (r1 : RV K G w x v) (r2 : RV K G w y u) (h : inB x y = some b) :
    (∃ i j, v = .str i ∧ u = .str j ∧ (!(Builtin.Str.occurrences j i 0 j.length 1).isEmpty) = b) ∨ (∃ p vs, u = .ref p ∧ (SqL K w.H p vs ∨ SqT K w.H p vs) ∧ flatV v = true ∧ vs.all flatV = true ∧ inV v vs = b) ∨
    ∃ d ds, Dp K w.H v d ∧ Dp K w.H u (.list ds) ∧ SeqAt.shaped d = true ∧ SeqAt.shaped (.list ds) = true ∧ (ds.any fun z => PyData.eqv z d) = b := by
  have flat : ∀ {y : PV} {xs : List PV}, RV K G w y u → seqP y = some xs → flatP x = true ∧ xs.all flatP = true → (xs.any fun y => eqP y x) = b → ∃ p vs, u = .ref p ∧ (SqL K w.H p vs ∨ SqT K w.H p vs) ∧ flatV v = true ∧ vs.all flatV = true ∧ inV v vs = b := fun {y xs} r2 hs hf hb => by
    obtain ⟨p, vs, e, s, q⟩ := seq_of r2 hs
    exact ⟨p, vs, e, s, flat_of r1 hf.1, flats_of q hf.2, by rw [inV_of r1 hf.1 q hf.2]; exact hb⟩
  cases y with
  | str z =>
    cases x with
    | str a =>
      rw [rv_str] at r1 r2
      exact .inl ⟨a, z, r1, r2, Option.some.inj h⟩
    | _ => cases h
  | tup xs =>
    have h : (if flatP x = true ∧ xs.all flatP = true then some (xs.any fun y => eqP y x) else none) = some b := h
    by_cases hf : flatP x = true ∧ xs.all flatP = true
    · rw [if_pos hf] at h
      exact .inr (.inl (flat r2 rfl hf (Option.some.inj h)))
    · rw [if_neg hf] at h
      cases h
  | lst xs =>
    have h : (if flatP x = true ∧ xs.all flatP = true then some (xs.any fun y => eqP y x) else if okD x = true ∧ okD (.lst xs) = true then some ((toDs xs).any fun z => PyData.eqv z (toD x)) else none) = some b := h
    by_cases hf : flatP x = true ∧ xs.all flatP = true
    · rw [if_pos hf] at h
      exact .inr (.inl (flat r2 rfl hf (Option.some.inj h)))
    · rw [if_neg hf] at h
      by_cases hd : okD x = true ∧ okD (.lst xs) = true
      · rw [if_pos hd] at h
        obtain ⟨h1, h2⟩ := hd
        unfold okD at h1 h2
        rw [Bool.and_eq_true] at h1 h2
        exact .inr (.inr ⟨toD x, toDs xs, dp_of _ _ r1 h1.1, dp_of _ _ r2 h2.1, h1.2, h2.2, Option.some.inj h⟩)
      · rw [if_neg hd] at h
        cases h
  | rol xs =>
    have h : (if flatP x = true ∧ xs.all flatP = true then some (xs.any fun y => eqP y x) else if okD x = true ∧ okD (.rol xs) = true then some ((toDs xs).any fun z => PyData.eqv z (toD x)) else none) = some b := h
    by_cases hf : flatP x = true ∧ xs.all flatP = true
    · rw [if_pos hf] at h
      exact .inr (.inl (flat r2 rfl hf (Option.some.inj h)))
    · rw [if_neg hf] at h
      by_cases hd : okD x = true ∧ okD (.rol xs) = true
      · rw [if_pos hd] at h
        obtain ⟨h1, h2⟩ := hd
        unfold okD at h1 h2
        rw [Bool.and_eq_true] at h1 h2
        exact .inr (.inr ⟨toD x, toDs xs, dp_of _ _ r1 h1.1, dp_of _ _ r2 h2.1, h1.2, h2.2, Option.some.inj h⟩)
      · rw [if_neg hd] at h
        cases h
  | _ => cases h
theorem sIn : Op2S X.K G (rInAll X.K) pIn := fun w m x y v u z Q R r1 r2 e b => by
  unfold pIn at e
  cases h : inB x y with
  | none => rw [h] at e; cases e
  | some k =>
    rw [h] at e
    cases e
    have q := b.now R (rv_bl.mpr rfl)
    rcases in_of r1 r2 h with ⟨i, j, h1, h2, h3⟩ | ⟨p, vs, h1, h2, h3, h4, h5⟩ | ⟨d, ds, h1, h2, h3, h4, h5⟩
    · exact .inl ⟨i, j, h1, h2, by rw [h3]; exact q⟩
    · exact .inr (.inl ⟨p, vs, h1, h2, h3, h4, by rw [if_neg Bool.false_ne_true, h5]; exact q⟩)
    · exact .inr (.inr ⟨d, ds, h1, h2, h3, h4, by rw [h5]; exact q⟩)
theorem sNotIn : Op2S X.K G (rNotInAll X.K) pNotIn := fun w m x y v u z Q R r1 r2 e b => by
  unfold pNotIn at e
  cases h : inB x y with
  | none => rw [h] at e; cases e
  | some k =>
    rw [h] at e
    cases e
    have q := b.now R (rv_bl.mpr rfl)
    rcases in_of r1 r2 h with ⟨i, j, h1, h2, h3⟩ | ⟨p, vs, h1, h2, h3, h4, h5⟩ | ⟨d, ds, h1, h2, h3, h4, h5⟩
    · exact .inl ⟨i, j, h1, h2, by rw [h3]; exact q⟩
    · exact .inr (.inl ⟨p, vs, h1, h2, h3, h4, by rw [if_pos rfl, h5]; exact q⟩)
    · exact .inr (.inr ⟨d, ds, h1, h2, h3, h4, by rw [h5]; exact q⟩)
/-! ### subscripts -/
def pIx : Op2 := fun x y m => match y with
  | .int i => (match x with
    | .str z => if z.length ≤ sizeLine then (atI z.cps.toList i).map (fun c => PV.str ⟨#[c]⟩) else none
    | .ref n => (match m[n]? with
      | some xs => atI xs i
      | none => none)
    | x => (match seqP x with
      | some xs => atI xs i
      | none => none))
  | _ => none
theorem sIx : Op2S X.K G (rIx X.K) pIx := fun w m x y v u z Q R r1 r2 e b => by
  cases y with
  | int i =>
    have r2' := r2
    rw [rv_int] at r2
    subst r2
    have seq : ∀ {xs : List PV}, seqP x = some xs → atI xs i = some z → rIx X.K v (.int i) w.H Q := fun {xs} hs h => by
      obtain ⟨p, vs, rfl, s, q⟩ := seq_of r1 hs
      obtain ⟨t, h1, h2⟩ := atI_rvs q h
      rcases s with s | s
      · exact .inl ⟨p, vs, i, t, rfl, rfl, s, h1, b.now R h2⟩
      · exact .inr (.inl ⟨p, vs, i, t, rfl, rfl, s, h1, b.now R h2⟩)
    cases x with
    | str t =>
      have e : (if t.length ≤ sizeLine then (atI t.cps.toList i).map (fun c => PV.str ⟨#[c]⟩) else none) = some z := e
      rw [rv_str] at r1
      subst r1
      by_cases hz : t.length ≤ sizeLine
      · rw [if_pos hz] at e
        cases h : atI t.cps.toList i with
        | none => rw [h] at e; cases e
        | some c =>
          rw [h] at e
          cases e
          exact .inr (.inr ⟨t, i, c, rfl, rfl, hz, h, b.now R (rv_str.mpr rfl)⟩)
      · rw [if_neg hz] at e
        cases e
    | ref n => exact .inl (opIxM (X := X) w m (.ref n) (.int i) v (.int i) z Q R r1 r2' e b)
    | tup xs => exact seq rfl e
    | lst xs => exact seq rfl e
    | rol xs => exact seq rfl e
    | _ => cases e
  | _ => cases e
end
/-! ### slices -/
abbrev OF := Ev → Mem → Res (Option Int)
def oNone : OF := fun _ m => .ok none m
def oSome (f : EF) : OF := fun E m => (f E m).bind fun x m1 => match x with
  | .int i => .ok (some i) m1
  | _ => .bad
def tO (K : PySem.W.Frag) (G : Gc) (W : WX) (f : OF) : TO := tX (fun _ a b => a = b) K G W f
def cutP (xs : List PV) (lo hi : Option Int) : List PV := (xs.drop (HT.sIx xs.length 0 lo)).take (HT.sIx xs.length xs.length hi - HT.sIx xs.length 0 lo)
def pCut (lo hi : Option Int) : Op1 := fun x _ => match x with
  | .str z => if z.length ≤ sizeLine then some (.str (cutS z lo hi)) else none
  | .tup xs => some (.tup (cutP xs lo hi))
  | .lst xs => some (.lst (cutP xs lo hi))
  | .rol xs => some (.lst (cutP xs lo hi))
  | _ => none
def eSl (f : EF) (lo hi : OF) : EF := fun E m => (f E m).bind fun x m1 => (lo E m1).bind fun l m2 => (hi E m2).bind fun h m3 => Res.of (pCut l h x m3) m3
theorem PO.imp {X : Cx} {e : Option Expr} {t t' : TO} (h : PO X e t) (q : ∀ σ H Q, t' σ H Q → t σ H Q) : PO X e t' := ⟨fun pins s σ H Q I z => h.run pins s σ H Q I (q σ H Q z)⟩
section
variable {X : Cx} {G : Gc} {W : WX} {pos p2 : Pos} {e : Expr} {f : EF} {lo hi : Option Expr} {fl fh : OF}
theorem jo_none : PO X none (tO X.K G W oNone) := PO.imp po_none fun σ H Q z => by
  obtain ⟨E, m, w, rfl, R, re, _, q⟩ := z
  exact q none w ExtE.refl R rfl
theorem jo_some (he : PE X e (tE X.K G W f)) : PO X (some e) (tO X.K G W (oSome f)) := PO.imp (po_some he) fun σ H Q z =>
  (tX.bind (rel := RV X.K G) (f := f) (g := fun _ x m1 => match x with
    | .int i => .ok (some i) m1
    | _ => .bad) mono_true z).imp fun v H1 ⟨x, z1⟩ => by
      cases x with
      | int k =>
        obtain ⟨E, m, w, rfl, R, re, ⟨_, r⟩, z2⟩ := z1
        rw [rv_int] at r
        exact ⟨k, r, z2 (some k) w ExtE.refl R rfl⟩
      | _ => obtain ⟨E, m, w, rfl, R, re, ⟨_, r⟩, z2⟩ := z1; exact z2.elim
abbrev rSlAll (K : PySem.W.Frag) : V → Option Int → Option Int → Hp → VK → Prop := fun x lo hi H Q => rSlL K x lo hi H Q ∨ rSlA K x lo hi H Q ∨ rSlS x lo hi H Q
theorem sl_all : SlR X (rSlAll X.K) := sl_list.or (sl_tupA.or sl_str)
theorem RVs.cut {K : PySem.W.Frag} {w : Wd} {xs : List PV} {vs : List V} (r : RVs K G w xs vs) (lo hi : Option Int) : RVs K G w (cutP xs lo hi) (cutV vs lo hi) := by
  unfold cutP cutV
  rw [r.length]
  exact (r.drop _).take _
theorem sCut {w : Wd} {m : Mem} {x : PV} {v : V} {lo hi : Option Int} {z : PV} {Q : VK} (R : RM X.K G w m) (r : RV X.K G w x v) (e : pCut lo hi x m = some z) (b : Behind X.K G w m z Q) : rSlAll X.K v lo hi w.H Q := by
  cases x with
  | str t =>
    have e : (if t.length ≤ sizeLine then some (PV.str (cutS t lo hi)) else none) = some z := e
    rw [rv_str] at r
    by_cases hz : t.length ≤ sizeLine
    · rw [if_pos hz] at e
      cases e
      exact .inr (.inr ⟨t, r, hz, b.now R (rv_str.mpr rfl)⟩)
    · rw [if_neg hz] at e
      cases e
  | tup xs =>
    cases e
    rw [rv_tup] at r
    obtain ⟨a, vs, rfl, s, q⟩ := r
    refine .inr (.inl ⟨a, vs, rfl, s, fun hw => ?_, fun hw p hp => b.tup R (q.cut lo hi) p hp⟩)
    have hl := q.length
    have e2 : cutP xs lo hi = xs := by
      unfold cutP
      rw [hl, hw.1, hw.2, List.drop_zero, Nat.sub_zero, ← hl, List.take_length]
    refine b.now R (rv_tup.mpr ⟨a, vs, rfl, s, ?_⟩)
    rw [e2]
    exact q
  | lst xs =>
    cases e
    rw [rv_lst] at r
    obtain ⟨a, vs, rfl, s, q⟩ := r
    exact .inl ⟨a, vs, rfl, SqL.of s.2, fun p hp => b.lst R (q.cut lo hi) p hp⟩
  | rol xs =>
    cases e
    rw [rv_rol] at r
    obtain ⟨a, vs, rfl, s, q⟩ := r
    exact .inl ⟨a, vs, rfl, s.seq, fun p hp => b.lst R (q.cut lo hi) p hp⟩
  | _ => cases e
theorem je_slice (he : PE X e (tE X.K G W f)) (hl : PO X lo (tO X.K G W fl)) (hh : PO X hi (tO X.K G W fh)) : PE X (.Subscript e (.Slice lo hi none p2) pos) (tE X.K G W (eSl f fl fh)) :=
  PE.imp (pe_slice sl_all he hl hh) fun σ H Q z =>
    (tX.bind (rel := RV X.K G) (f := f) (g := fun E x m1 => (fl E m1).bind fun l m2 => (fh E m2).bind fun h m3 => Res.of (pCut l h x m3) m3) mono_true z).imp fun v H1 ⟨x, z1⟩ =>
      (tX.bind (rel := fun _ a b => a = b) (f := fl) (g := fun E l m2 => (fh E m2).bind fun h m3 => Res.of (pCut l h x m3) m3) (mono_rv mono_true) z1).imp fun l H2 ⟨l', z2⟩ =>
        (tX.bind (rel := fun _ a b => a = b) (P := fun w => (True ∧ RV X.K G w x v) ∧ l' = l) (f := fh) (g := fun E h m3 => Res.of (pCut l' h x m3) m3) (fun w w' m R e p => ⟨mono_rv mono_true w w' m R e p.1, p.2⟩) z2).imp fun h H3 ⟨h', z3⟩ => by
          obtain ⟨E, m, w, rfl, R, re, ⟨⟨⟨_, r⟩, rfl⟩, rfl⟩, z4⟩ := z3
          cases o : pCut l' h' x m with
          | none => rw [o] at z4; exact z4.elim
          | some y =>
            rw [o] at z4
            exact sCut R r o z4
end
end Pv
set_option maxRecDepth 100000
set_option maxHeartbeats 2000000
set_option autoImplicit false
/-! Pv9: what is built in. -/
namespace Pv
open PySem PySem.Spec PyProof.Rows L2
def pLen : OpN := fun xs _ => match xs with
  | [.str z] => if z.length ≤ sizeLine then some (.int z.length) else none
  | [y] => (match seqP y with
    | some ys => some (.int ys.length)
    | none => none)
  | _ => none
def pAbs : OpN := fun xs _ => match xs with
  | [.int i] => some (.int (if i < 0 then -i else i))
  | _ => none
def pInt1 : OpN := fun xs _ => match xs with
  | [.int i] => some (.int i)
  | [.bl k] => some (.int (if k then 1 else 0))
  | [.str a] => (match PySem.intText? a with
    | some n => if a.length ≤ 640 then some (.int n) else none
    | none => none)
  | _ => none
def pStr1 : OpN := fun xs _ => match xs with
  | [.int i] => if lg i < 1920 then some (.str (toString i)) else none
  | [.str a] => some (.str a)
  | _ => none
def pTup1 : OpN := fun xs _ => match xs with
  | [y] => (match seqP y with
    | some ys => some (.tup ys)
    | none => none)
  | _ => none
def pLst1 : OpN := fun xs _ => match xs with
  | [y] => (match seqP y with
    | some ys => some (.lst ys)
    | none => none)
  | _ => none
def pMax2 : OpN := fun xs _ => match xs with
  | [.int i, .int j] => some (.int (if j > i then j else i))
  | _ => none
def pMin2 : OpN := fun xs _ => match xs with
  | [.int i, .int j] => some (.int (if j < i then j else i))
  | _ => none
/-- a list of ints, of truths -/
def intsP : List PV → Option (List Int)
  | [] => some []
  | .int i :: r => (intsP r).map (i :: ·)
  | _ :: _ => none
def blsP : List PV → Option (List Bool)
  | [] => some []
  | .bl i :: r => (blsP r).map (i :: ·)
  | _ :: _ => none
def lstP : PV → Option (List PV)
  | .lst xs => some xs
  | .rol xs => some xs
  | _ => none
def pSum : OpN := fun xs _ => match xs with
  | [y] => ((lstP y).bind intsP).map fun ns => .int ns.sum
  | _ => none
def pAny : OpN := fun xs _ => match xs with
  | [y] => ((lstP y).bind blsP).map fun bs => .bl (bs.any id)
  | _ => none
def pAll : OpN := fun xs _ => match xs with
  | [y] => ((lstP y).bind blsP).map fun bs => .bl (bs.all id)
  | _ => none
section
variable {X : Cx} {G : Gc} {K : PySem.W.Frag} {w : Wd} {m : Mem}
theorem RVs.inv1 {x : PV} {vs : List V} (r : RVs K G w [x] vs) : ∃ v, vs = [v] ∧ RV K G w x v := by
  obtain ⟨v, u, rfl, r1, r2⟩ := r.cons_inv
  rw [r2.nil_inv]
  exact ⟨v, rfl, r1⟩
theorem RVs.inv2 {x y : PV} {vs : List V} (r : RVs K G w [x, y] vs) : ∃ v u, vs = [v, u] ∧ RV K G w x v ∧ RV K G w y u := by
  obtain ⟨v, us, rfl, r1, r2⟩ := r.cons_inv
  obtain ⟨u, rfl, r3⟩ := r2.inv1
  exact ⟨v, u, rfl, r1, r3⟩
abbrev rLenAll (K : PySem.W.Frag) : List V → Hp → VK → Prop := fun xs H Q => (∃ p ys, xs = [.ref p] ∧ (SqL K H p ys ∨ SqT K H p ys) ∧ Q (.int ys.length) H) ∨ (∃ z, xs = [.str z] ∧ z.length ≤ sizeLine ∧ Q (.int z.length) H)
theorem call_lenAll : CallR X (.builtin "len") (rLenAll X.K) := call_len_seq.or call_len_str
theorem sLen : OpNS X.K G (rLenAll X.K) pLen := fun w m xs vs z Q R r e b => by
  unfold pLen at e
  split at e
  · split at e
    · rename_i h
      cases e
      obtain ⟨v, rfl, r1⟩ := r.inv1
      rw [rv_str] at r1
      subst r1
      exact .inr ⟨_, rfl, h, b.now R (rv_int.mpr rfl)⟩
    · cases e
  · split at e
    · rename_i h
      cases e
      obtain ⟨v, rfl, r1⟩ := r.inv1
      obtain ⟨p, us, rfl, s, q⟩ := seq_of r1 h
      exact .inl ⟨p, us, rfl, s, by rw [← q.length]; exact b.now R (rv_int.mpr rfl)⟩
    · cases e
  · cases e
theorem sAbs : OpNS X.K G (fun xs H Q => ∃ i, xs = [.int i] ∧ Q (.int (if i < 0 then -i else i)) H) pAbs := fun w m xs vs z Q R r e b => by
  unfold pAbs at e
  split at e
  · cases e
    obtain ⟨v, rfl, r1⟩ := r.inv1
    rw [rv_int] at r1
    subst r1
    exact ⟨_, rfl, b.now R (rv_int.mpr rfl)⟩
  · cases e
abbrev rInt1 : List V → Hp → VK → Prop := fun xs H Q => ((∃ i, xs = [.int i] ∧ Q (.int i) H) ∨ ∃ k, xs = [.bl k] ∧ Q (.int (if k then 1 else 0)) H) ∨ ∃ a n, xs = [.str a] ∧ PySem.intText? a = some n ∧ a.length ≤ 640 ∧ Q (.int n) H
theorem call_intAll : CallR X (.type "int") rInt1 := call_int1.or call_int_str
theorem sInt1 : OpNS X.K G rInt1 pInt1 := fun w m xs vs z Q R r e b => by
  unfold pInt1 at e
  split at e
  · cases e
    obtain ⟨v, rfl, r1⟩ := r.inv1
    rw [rv_int] at r1
    subst r1
    exact .inl (.inl ⟨_, rfl, b.now R (rv_int.mpr rfl)⟩)
  · cases e
    obtain ⟨v, rfl, r1⟩ := r.inv1
    rw [rv_bl] at r1
    subst r1
    exact .inl (.inr ⟨_, rfl, b.now R (rv_int.mpr rfl)⟩)
  · split at e
    · split at e
      · rename_i h1 h2
        cases e
        obtain ⟨v, rfl, r1⟩ := r.inv1
        rw [rv_str] at r1
        subst r1
        exact .inr ⟨_, _, rfl, h1, h2, b.now R (rv_int.mpr rfl)⟩
      · cases e
    · cases e
  · cases e
abbrev rStr1 : List V → Hp → VK → Prop := fun xs H Q => (∃ i, xs = [.int i] ∧ i.natAbs.log2 < 1920 ∧ Q (.str (toString i)) H) ∨ ∃ a, xs = [.str a] ∧ Q (.str a) H
theorem call_strAll : CallR X (.type "str") rStr1 := call_str_int.or SkE.call_str_str
theorem sStr1 : OpNS X.K G rStr1 pStr1 := fun w m xs vs z Q R r e b => by
  unfold pStr1 at e
  split at e
  · split at e
    · rename_i h
      cases e
      obtain ⟨v, rfl, r1⟩ := r.inv1
      rw [rv_int] at r1
      subst r1
      exact .inl ⟨_, rfl, h, b.now R (rv_str.mpr rfl)⟩
    · cases e
  · cases e
    obtain ⟨v, rfl, r1⟩ := r.inv1
    rw [rv_str] at r1
    subst r1
    exact .inr ⟨_, rfl, b.now R (rv_str.mpr rfl)⟩
  · cases e
theorem sTup1 : OpNS X.K G (fun xs H Q => ∃ p ys, xs = [.ref p] ∧ ((SqL X.K H p ys ∧ ∀ l, H l = none → Q (.ref l) (upd H l (.tup ys))) ∨ (SqT X.K H p ys ∧ Q (.ref p) H))) pTup1 := fun w m xs vs z Q R r e b => by
  unfold pTup1 at e
  split at e
  · split at e
    · rename_i h
      cases e
      obtain ⟨v, rfl, r1⟩ := r.inv1
      obtain ⟨p, us, rfl, s, q⟩ := seq_of r1 h
      rcases s with s | s
      · exact ⟨p, us, rfl, .inl ⟨s, fun l hl => b.tup R q l hl⟩⟩
      · exact ⟨p, us, rfl, .inr ⟨s, b.now R (rv_tup.mpr ⟨p, us, rfl, s, q⟩)⟩⟩
    · cases e
  · cases e
theorem sLst1 : OpNS X.K G (fun xs H Q => ∃ p ys, xs = [.ref p] ∧ (SqL X.K H p ys ∨ SqT X.K H p ys) ∧ ∀ l, H l = none → Q (.ref l) (upd H l (.lst ys))) pLst1 := fun w m xs vs z Q R r e b => by
  unfold pLst1 at e
  split at e
  · split at e
    · rename_i h
      cases e
      obtain ⟨v, rfl, r1⟩ := r.inv1
      obtain ⟨p, us, rfl, s, q⟩ := seq_of r1 h
      exact ⟨p, us, rfl, s, fun l hl => b.lst R q l hl⟩
    · cases e
  · cases e
theorem sMax2 : OpNS X.K G (fun xs H Q => ∃ i j, xs = [.int i, .int j] ∧ Q (.int (if j > i then j else i)) H) pMax2 := fun w m xs vs z Q R r e b => by
  unfold pMax2 at e
  split at e
  · cases e
    obtain ⟨v, u, rfl, r1, r2⟩ := r.inv2
    rw [rv_int] at r1 r2
    subst r1 r2
    exact ⟨_, _, rfl, b.now R (rv_int.mpr rfl)⟩
  · cases e
theorem sMin2 : OpNS X.K G (fun xs H Q => ∃ i j, xs = [.int i, .int j] ∧ Q (.int (if j < i then j else i)) H) pMin2 := fun w m xs vs z Q R r e b => by
  unfold pMin2 at e
  split at e
  · cases e
    obtain ⟨v, u, rfl, r1, r2⟩ := r.inv2
    rw [rv_int] at r1 r2
    subst r1 r2
    exact ⟨_, _, rfl, b.now R (rv_int.mpr rfl)⟩
  · cases e
theorem intsP_of : ∀ {xs : List PV} {vs : List V} {ns : List Int}, RVs K G w xs vs → intsP xs = some ns → vs = ns.map V.int
  | [], vs, ns, r, h => by
    cases h
    exact r.nil_inv
  | x :: xs, vs, ns, r, h => by
    obtain ⟨v, us, rfl, r1, r2⟩ := r.cons_inv
    cases x with
    | int i =>
      have h : (intsP xs).map (i :: ·) = some ns := h
      cases q : intsP xs with
      | none => rw [q] at h; cases h
      | some ms =>
        rw [q] at h
        cases h
        rw [rv_int] at r1
        rw [r1, intsP_of r2 q]
        rfl
    | _ => cases h
theorem blsP_of : ∀ {xs : List PV} {vs : List V} {ns : List Bool}, RVs K G w xs vs → blsP xs = some ns → vs = ns.map V.bl
  | [], vs, ns, r, h => by
    cases h
    exact r.nil_inv
  | x :: xs, vs, ns, r, h => by
    obtain ⟨v, us, rfl, r1, r2⟩ := r.cons_inv
    cases x with
    | bl i =>
      have h : (blsP xs).map (i :: ·) = some ns := h
      cases q : blsP xs with
      | none => rw [q] at h; cases h
      | some ms =>
        rw [q] at h
        cases h
        rw [rv_bl] at r1
        rw [r1, blsP_of r2 q]
        rfl
    | _ => cases h
theorem lstP_of {y : PV} {u : V} {xs : List PV} (r : RV K G w y u) (h : lstP y = some xs) : ∃ p vs, u = .ref p ∧ SqL K w.H p vs ∧ RVs K G w xs vs := by
  cases y with
  | lst ys =>
    cases h
    rw [rv_lst] at r
    obtain ⟨a, vs, e, s, q⟩ := r
    exact ⟨a, vs, e, SqL.of s.2, q⟩
  | rol ys =>
    cases h
    rw [rv_rol] at r
    obtain ⟨a, vs, e, s, q⟩ := r
    exact ⟨a, vs, e, s.seq, q⟩
  | _ => cases h
theorem bindSome {α β : Type} {o : Option α} {f : α → Option β} {z : β} (h : o.bind f = some z) : ∃ x, o = some x ∧ f x = some z := by
  cases o with
  | none => cases h
  | some x => exact ⟨x, rfl, h⟩
theorem mapSome {α β : Type} {o : Option α} {f : α → β} {z : β} (h : o.map f = some z) : ∃ x, o = some x ∧ f x = z := by
  cases o with
  | none => cases h
  | some x => exact ⟨x, rfl, Option.some.inj h⟩
theorem sSum : OpNS X.K G (rSum X.K) pSum := fun w m xs vs z Q R r e b => by
  unfold pSum at e
  split at e
  · obtain ⟨ns, h, rfl⟩ := mapSome e
    obtain ⟨ys, h1, h2⟩ := bindSome h
    obtain ⟨v, rfl, r1⟩ := r.inv1
    obtain ⟨p, us, rfl, s, q⟩ := lstP_of r1 h1
    exact ⟨p, ns, rfl, by rw [← intsP_of q h2]; exact s, b.now R (rv_int.mpr rfl)⟩
  · cases e
theorem sAny : OpNS X.K G (rAny X.K) pAny := fun w m xs vs z Q R r e b => by
  unfold pAny at e
  split at e
  · obtain ⟨ns, h, rfl⟩ := mapSome e
    obtain ⟨ys, h1, h2⟩ := bindSome h
    obtain ⟨v, rfl, r1⟩ := r.inv1
    obtain ⟨p, us, rfl, s, q⟩ := lstP_of r1 h1
    exact ⟨p, ns, rfl, by rw [← blsP_of q h2]; exact s, b.now R (rv_bl.mpr rfl)⟩
  · cases e
theorem sAll : OpNS X.K G (rAll X.K) pAll := fun w m xs vs z Q R r e b => by
  unfold pAll at e
  split at e
  · obtain ⟨ns, h, rfl⟩ := mapSome e
    obtain ⟨ys, h1, h2⟩ := bindSome h
    obtain ⟨v, rfl, r1⟩ := r.inv1
    obtain ⟨p, us, rfl, s, q⟩ := lstP_of r1 h1
    exact ⟨p, ns, rfl, by rw [← blsP_of q h2]; exact s, b.now R (rv_bl.mpr rfl)⟩
  · cases e
end
/-! ### list(range(..)) -/
def pLstRg (op : List PV → Option (List PV)) : List PV → Option (List PV) := fun xs => match op xs with
  | some ys => if ys.length ≤ 2 ^ 24 then some ys else none
  | none => none
def pRg1 : OpN := fun xs _ => match xs with
  | [.int j] => if inR j = true ∧ j.toNat ≤ 2 ^ 24 then some (.lst (rangeV 0 j.toNat)) else none
  | _ => none
def pRg2 : OpN := fun xs _ => match xs with
  | [.int i, .int j] => if inR i = true ∧ inR j = true ∧ (j - i).toNat ≤ 2 ^ 24 then some (.lst (rangeV i (j - i).toNat)) else none
  | _ => none
section
variable {X : Cx} {G : Gc} {W : WX} {pos : Pos} {f g : EF}
theorem rgV_rvs {K : PySem.W.Frag} {w : Wd} (a b : Int) : RVs K G w (rangeV a (b - a).toNat) (rgV a b) := by
  unfold rangeV rgV
  generalize List.range (b - a).toNat = l
  induction l with
  | nil => exact RVs.nil
  | cons n l ih => exact RVs.cons (rv_int.mpr rfl) ih
theorem je_listRg1 {a : Expr} {p p2 p3 : Pos} (hc : X.calm = true) (hgl : Gl X "list") (hml : X.mg "list" = none) (hg : Gl X "range") (hm : X.mg "range" = none) (ha : PE X a (tE X.K G W f))
    (na : starEach [a] X.env = (false, eval a X.env) :: starEach [] X.env) (nb : starEach [.Call (.Name "range" p) [a] [] p2] X.env = (false, eval (.Call (.Name "range" p) [a] [] p2) X.env) :: starEach [] X.env) :
    PE X (.Call (.Name "list" p3) [.Call (.Name "range" p) [a] [] p2] [] pos) (tE X.K G W (e1 (fun x m => pRg1 [x] m) f)) :=
  PE.imp (pe_listRg hc hgl hml (prg_1 hg hm ha na) nb) fun σ H Q z =>
    (tX.bind (g := fun _ x m1 => Res.of (pRg1 [x] m1) m1) mono_true z).imp fun v H1 ⟨x, z1⟩ => by
      obtain ⟨E, m, w, rfl, R, re, ⟨_, r⟩, z2⟩ := z1
      cases o : pRg1 [x] m with
      | none => rw [o] at z2; exact z2.elim
      | some y =>
        rw [o] at z2
        unfold pRg1 at o
        split at o
        · rename_i j hx
          cases hx
          split at o
          · rename_i h
            cases o
            rw [rv_int] at r
            obtain ⟨h1, h2⟩ := inR_of h.1
            refine ⟨j, r, ⟨by omega, by omega, h1, h2, by rw [Int.sub_zero]; exact h.2⟩, fun q hq => ?_⟩
            have b : Behind X.K G w m (.lst (rangeV 0 j.toNat)) Q := z2
            refine b.lst R ?_ q hq
            have q := rgV_rvs (K := X.K) (G := G) (w := w) 0 j
            rw [Int.sub_zero] at q
            exact q
          · cases o
        · cases o
end
/-! ### isinstance -/
/-- the type of a value -/
def tyP : PV → Option String
  | .non => some "NoneType"
  | .bl _ => some "bool"
  | .int _ => some "int"
  | .str _ => some "str"
  | .tup _ => some "tuple"
  | .lst _ => some "list"
  | .rol _ => some "list"
  | _ => none
def pIsi (T : String) : Op1 := fun x _ => match tyP x with
  | some t => (kitB t T).map .bl
  | none => none
section
variable {X : Cx} {G : Gc} {W : WX} {pos : Pos} {f : EF} {K : PySem.W.Frag} {w : Wd} {m : Mem}
theorem tyX_of {x : PV} {v : V} {t : String} (r : RV K G w x v) (h : tyP x = some t) : TyX K w.H v (.type t) := by
  cases x with
  | non => cases h; rw [rv_non] at r; subst r; exact .base .non
  | bl b => cases h; rw [rv_bl] at r; subst r; exact .base (.bl b)
  | int b => cases h; rw [rv_int] at r; subst r; exact .base (.int b)
  | str b => cases h; rw [rv_str] at r; subst r; exact .base (.str b)
  | tup xs =>
    cases h
    rw [rv_tup] at r
    obtain ⟨a, vs, rfl, s, q⟩ := r
    rcases s with (s | ⟨o, s⟩) | s
    · exact .base (.tup s)
    · exact .fTuple s
    · obtain ⟨o, its, n, h1, h2, _⟩ := s
      exact .kTuple h1 h2
  | lst xs =>
    cases h
    rw [rv_lst] at r
    obtain ⟨a, vs, rfl, s, q⟩ := r
    exact .base (.lst s.2)
  | rol xs =>
    cases h
    rw [rv_rol] at r
    obtain ⟨a, vs, rfl, s, q⟩ := r
    rcases s with ⟨o, s⟩ | s
    · exact .base (.frz s)
    · obtain ⟨o, its, n, h1, h2, _⟩ := s
      exact .kList h1 h2
  | _ => cases h
theorem tIsi {T : String} {σ : L2.St} {H : Hp} {Q : VK} (z : tE X.K G W (e1 (pIsi T) f) σ H Q) : tCB (rIsi X.K) (tCons (tE X.K G W f) (tCons (tC (.ty T)) tNil)) σ H Q :=
  (tX.bind (g := fun _ x m1 => Res.of (pIsi T x m1) m1) mono_true z).imp fun v H1 ⟨x, z1⟩ => by
    obtain ⟨E, m, w, rfl, R, re, ⟨_, r⟩, z2⟩ := z1
    cases o : pIsi T x m with
    | none => rw [o] at z2; exact z2.elim
    | some y =>
      rw [o] at z2
      unfold pIsi at o
      cases ht : tyP x with
      | none => rw [ht] at o; cases o
      | some t =>
        rw [ht] at o
        obtain ⟨b, hk, rfl⟩ := mapSome o
        exact ⟨v, .ty T, .type t, .type T, b, rfl, .ty T, tyX_of r ht, kit_ty hk, z2 (.bl b) w ExtE.refl R (rv_bl.mpr rfl)⟩
/-- isinstance(e, T), T a built-in type -/
theorem je_isi {T : String} {x : Str} {a : Expr} {p p2 : Pos} (hg : Gl X "isinstance") (hm : X.mg "isinstance" = none) (hgT : Gl X x) (hmT : X.mg x = none) (hv : bootBuiltins x = some (.type T)) (ha : PE X a (tE X.K G W f))
    (hn : x ≠ "__name__") (hdb : (x == ("__debug__" : Str)) = false)
    (he : starEach [a, .Name x p2] X.env = (false, eval a X.env) :: starEach [.Name x p2] X.env) (he2 : starEach [.Name x p2] X.env = (false, eval (.Name x p2) X.env) :: starEach [] X.env) (hpl : (backTo pos (starEach [.Name x p2] X.env)).any (·.1) = false) :
    PE X (.Call (.Name "isinstance" p) [a, .Name x p2] [] pos) (tE X.K G W (e1 (pIsi T) f)) :=
  PE.imp (pe_callB call_isi hg hm (by decide +kernel) (pa_cons ha (pa_cons (pe_bltn (v := .ty T) hgT hmT hv rfl hn hdb) pa_nil he2) he) (by decide) (by decide) he hpl) fun σ H Q z => tIsi z
end
end Pv
set_option maxRecDepth 100000
set_option maxHeartbeats 2000000
set_option autoImplicit false
/-! Er1: errors whose class lies below ValueError, __init__: super().__init__(value); self.value = value. -/
namespace Er
open PySem PySem.Spec PyProof.Rows PySem.W PySem.Calls PySem.HandSPX
abbrev tailV : List Value := [.type "ValueError", .type "Exception", .type "BaseException", .type "object"]
def iniA (p1 p2 : Pos) : Arguments := { posonlyargs := [], args := [{ arg := "self", annotation := none, pos := p1 }, { arg := "value", annotation := none, pos := p2 }], vararg := none, kwonlyargs := [], kw_defaults := [], kwarg := none, defaults := [] }
def iniB (q1 q2 q3 q4 q5 q6 q7 q8 q9 q10 : Pos) : List Stmt := [.Expr (.Call (.Attribute (.Call (.Name "super" q1) [] [] q2) "__init__" q3) [.Name "value" q4] [] q5) q6, .Assign [.Attribute (.Name "self" q7) "value" q8] (.Name "value" q9) q10]
/-- C: a class at or below the one at D, whose __init__ is at fI -/
structure CT (K : Frag) (D fI C : Addr) : Prop where
  cls : ∃ nm q N bs bm sn sub ab col dd k0 k1 k2 k3 k5, K.lookup C = some (excClassObj nm q C N bs bm true sn sub ab col dd k0 k1 k2 k3 k5 "ValueError.__new__") ∧ refsVE bm = true ∧ (((Value.ref C :: bm).dropWhile (· != .ref D)).drop 1) = tailV
  sa : findIn K (.ref C) "__setattr__" = some (some (.builtin "object.__setattr__"))
  ga : findIn K (.ref C) "__getattribute__" = some (some (.builtin "BaseException.__getattribute__"))
  gg : findIn K (.ref C) "__getattr__" = some none
  noV : findIn K (.ref C) "value" = some none
  iC : findIn K (.ref C) "__init__" = some (some (.ref fI))
  kC : keepIn K (.ref C) = true
  exC : subIn K (.ref C) (.type "BaseException") = some true
  tyC : typeIn K (.ref C) = some (.type "type")
  hdC : hasDictIn K C = true
  subD : mroIn K C (.ref D) = some true
  subV : subIn K (.ref C) (.type "ValueError") = some true
/-- the __init__ -/
structure IT (P : Program) (K : Frag) (mg : Str → Option Value) (D fI : Addr) : Prop where
  tI : typeIn K (.ref fI) = some (.type "function")
  fn : ∃ (oc : Value) (od : Option Addr) (qual : Str) (scope : Scope) (dV kV doc pm : Value) (an : Option Addr) (cda cc : Addr) (ct : Value) (osl : Array (Option Value)) (p1 p2 q1 q2 q3 q4 q5 q6 q7 q8 q9 q10 : Pos) (ccl : Value) (cdd : Option Addr) (vs : Array Value) (ccs : Array (Option Value)) (file : Str) (tf : Tok) (cl : Value) (cld : Option Addr) (csl : Array (Option Value)),
    K.lookup fI = some ⟨oc, od, .func (ksFn "__init__" qual (iniA p1 p2) (iniB q1 q2 q3 q4 q5 q6 q7 q8 q9 q10) scope dV kV doc pm an (.ref cda) ct cc), osl⟩ ∧ codeIn K (.ref cda) qual = true ∧ K.lookup cda = some ⟨ccl, cdd, .fields vs, ccs⟩ ∧ vs[2]? = some (.str file tf) ∧ ((P.main.file : Str) == file) = true ∧
    K.lookup cc = some ⟨cl, cld, .cell (some (.ref D)), csl⟩ ∧ scope.names.lookup ("super" : Str) = some .globalImplicit ∧ scope.names.lookup ("__class__" : Str) = some .free ∧ scope.names.lookup ("self" : Str) = some .local ∧ scope.names.lookup ("value" : Str) = some .local ∧ scope.kind = .function ∧
    scope.isCoroutine = false ∧ scope.isGenerator = false ∧ (∀ x ∈ scope.names, x.2 ≠ .cell) ∧ (q3.endLine == q5.line) = true ∧ ∀ (s : Shared) (x v : Value), BindsTo s (ksFn "__init__" qual (iniA p1 p2) (iniB q1 q2 q3 q4 q5 q6 q7 q8 q9 q10) scope dV kV doc pm an (.ref cda) ct cc) ⟨[x, v], []⟩ [("self", x), ("value", v)]
  cD : ∃ cdD, clsIn K D = some cdD
  gS : mg "super" = none
  op : nsIn K cStatics "thirdparty.any" = some none
  top : (P.main.scope.names.lookup ("super" : Str)).isSome = false
theorem one_fits (v : Value) : [v].length ≤ sizeLine := by
  rw [sizeLine_eq]
  exact (by decide : 1 ≤ 16777216)
theorem along_ve (K : Frag) : alongIn K "__init__" tailV = some (some (.builtin "ValueError.__init__")) := by kernel_rfl
theorem boot_super : bootBuiltins "super" = some (.type "super") := by decide +kernel
structure Done (h h' : Heap) (x C dx t1 : Addr) (v : Value) : Prop where
  keep : ∀ b o, b ≠ x → h.get? b = some o → h'.get? b = some o
  obj : h'.get? x = some { cls := .ref C, dict := some dx, data := .fields #[.ref t1, .none, .none, .none, .bool false, .none] }
  dbig : h.objs.size ≤ dx
  dne : dx ≠ x
  ns : h'.Ns1 dx (fun y => if y = "value" then some v else none)
section
variable {prog : Program} {w : World} {A : Around} {E : Value → Shared → Prop} {R : Result → Shared → Prop} {s : Shared} {K : Frag} {mg mb : Str → Option Value} {D fI C : Addr}
theorem cls_same {K : Frag} {h h' : Heap} {x : Addr} (X : K.In h) (hx : K.lookup x = none) (k : ∀ b o, b ≠ x → h.get? b = some o → h'.get? b = some o) : K.In h' := fun a o e =>
  k a o (fun z => by
    rw [z, hx] at e
    cases e) (X a o e)
/-- u(v), u the bound __init__ of ValueError -/
theorem super_called {u x t0 : Addr} {v : Value} {Q : Value → Shared → Prop} (T : CT K D fI C) (X : K.In s.heap) (hx : s.heap.get? x = some (excO C t0)) (hu : s.heap.get? u = some (kxs_mw "ValueError.__init__" x))
    (h : ∀ h' t1, (∀ b o, b ≠ x → s.heap.get? b = some o → h'.get? b = some o) → h'.get? x = some (excO C t1) → s.heap.objs.size < h'.objs.size → Q .none { s with heap := h' }) : wpAny (model prog w) A (call (.ref u) [v]) Q E s := by
  obtain ⟨nm, q, N, bs, bm, sn, sub, ab, col, dd, k0, k1, k2, k3, k5, hC, hbm, _⟩ := T.cls
  obtain ⟨hh, g, d, t, os⟩ := s
  refine wpAny_call (codeAny_of_tree ?_)
  show wpAny _ A.in1 (callAny (.ref u) ⟨[v], []⟩) _ _ _
  simp only [callAny]
  refine wpAny_bind (wpAny_load hu ?_)
  have e1 : (Value.type "method-wrapper" == Value.type "method" || Value.type "method-wrapper" == Value.type "builtin_function_or_method" || Value.type "method-wrapper" == Value.type "method-wrapper") = true := by decide
  simp only [kxs_mw, e1, if_true]
  refine KFB.if_so (by decide) ?_
  refine wpAny_bind (check_bound_init PySem.F.excBase_ValueError.toExcCallFacts (X _ _ hC) hx rfl ?_)
  refine wpAny_bind (wpAny_pure (wpAny_pure ?_))
  refine ⟨plainId_quiet PySem.F.excBase_ValueError.init.plain _, codeAny_builtin PySem.F.excBase_ValueError.initEntry ?_⟩
  exact exc_init_tree (cls := .ref C) (t0 := t0) (dv := none) (c2 := .none) (c3 := .none) (b4 := .bool false) hx (one_fits v) fun h' k1 k2 k3 => h h' _ k1 k2 (Heap.lt_size k3)
/-- the __init__, walked -/
theorem init_done (T : CT K D fI C) (I : IT prog K mg D fI) {x t0 : Addr} {v : Value} (X : K.In s.heap) (hG : s.heap.Ns mainGlobals mg) (hB : ∃ mb, s.heap.Ns builtinsNs mb ∧ ∀ x : Str, x ≠ "__name__" → mb x = bootBuiltins x) (hlim : s.heap.NoLimit) (hx : s.heap.get? x = some (excO C t0)) (hnx : K.lookup x = none) (hroom : A.depth < recursionLimit)
    (hq : ∀ h' tk dx t1, Done s.heap h' x C dx t1 v → R (.ok (.ret .none)) { s with heap := h', toks := tk }) : codeAny (model prog w) A (.call (.ref fI) ⟨[.ref x, v], []⟩) R s := by
  obtain ⟨oc, od, qual, scope, dV, kV, doc, pm, an, cda, cc, ct, osl, p1, p2, q1, q2, q3, q4, q5, q6, q7, q8, q9, q10, ccl, cdd, vs, ccs, file, tf, cl, cld, csl, ho, hcd, hcda, hvs, hfile, hcc, ks, kc, kself, kval, kfun, kco, kgen, kcell, hln, hbind⟩ := I.fn
  obtain ⟨nm, q, N, bs, bm, sn, sub, ab, col, dd, k0, k1, k2, k3, k5, hC, hbm, hdrop⟩ := T.cls
  obtain ⟨cdD, hD⟩ := I.cD
  obtain ⟨mb, hb, hbb⟩ := hB
  have hcl : clsIn K C = some { name := nm, bases := bs, mro := .ref C :: bm, ns := N, qualname := q, hasDict := true, slotNames := sn, subclasses := sub, abstract := ab, collection := col, hasDel := false } := by unfold clsIn; rw [hC] <;> rfl
  obtain ⟨hp, g, d, tk, os⟩ := s
  obtain ⟨skind, snames, sgen, scor, smore⟩ := scope
  obtain rfl : skind = .function := kfun
  obtain rfl : sgen = false := kgen
  obtain rfl : scor = false := kco
  refine ks_codeAny_call_defAt (fd := ksFn "__init__" qual (iniA p1 p2) (iniB q1 q2 q3 q4 q5 q6 q7 q8 q9 q10) ⟨.function, snames, false, false, smore⟩ dV kV doc pm an (.ref cda) ct cc) (body := iniB q1 q2 q3 q4 q5 q6 q7 q8 q9 q10) hroom (X _ _ ho) rfl hlim (codeRec_of X hcd) rfl (hbind _ _ _) kcell
    (fun y hy => ?_) (fun h1 hns k1 => ?_) rfl rfl rfl
  · rcases List.mem_cons.mp hy with e | hy
    · rw [e]; exact kself
    · rw [List.mem_singleton.mp hy]; exact kval
  show _root_.PySem.wpAt _ (A.deeper (ksEnv qual ⟨.function, snames, false, false, smore⟩ hp.objs.size fI (.ref cda) cc)) (.func _ (ksEnv qual ⟨.function, snames, false, false, smore⟩ hp.objs.size fI (.ref cda) cc)) (execs _ (ksEnv qual ⟨.function, snames, false, false, smore⟩ hp.objs.size fI (.ref cda) cc)) _ _ _
  have vself : ([("self", Value.ref x), ("value", v)] : List (Str × Value)).reverse.lookup ("self" : Str) = some (.ref x) := by rfl
  have vval : ([("self", Value.ref x), ("value", v)] : List (Str × Value)).reverse.lookup ("value" : Str) = some v := by rfl
  have X1 : K.In h1 := X.keeps k1
  have hx1 := k1 _ _ hx
  have oD : ∃ o, h1.get? D = some o ∧ o.data = .cls cdD := by
    unfold clsIn at hD
    split at hD
    · rename_i c d cd' sl hoD
      cases hD
      exact ⟨_, X1 _ _ hoD, rfl⟩
    · cases hD
  obtain ⟨oD, hoD, hdD⟩ := oD
  have hnL : x ≠ hp.objs.size := Nat.ne_of_lt (Heap.lt_size hx)
  have hxC : x ≠ C := fun z => by
    rw [z, hC] at hnx
    cases hnx
  refine ks_wpAt_execs_cons (ks_wpAt_Expr_any (ks_wpAt_MethodCall (pl := L2.plainOf (.Call (.Name "super" q1) [] [] q2) (ksEnv qual ⟨.function, snames, false, false, smore⟩ hp.objs.size fI (.ref cda) cc)) ?_ ?_) rfl rfl)
  · refine ks_wpAt_super_base (env := ksEnv qual ⟨.function, snames, false, false, smore⟩ hp.objs.size fI (.ref cda) cc) ks kc (by decide) rfl (X1 _ _ ho) rfl rfl rfl (X1 _ _ hcda) rfl hvs hfile I.top ?_
    refine ks_loadName_global rfl ks (loadGlobal_builtin (env := ksEnv qual ⟨.function, snames, false, false, smore⟩ hp.objs.size fI (.ref cda) cc) (hG.keeps k1) I.gS (hb.keeps k1) ((hbb _ (by decide)).trans boot_super) ⟨rfl, ?_⟩)
    refine wpAny_loadName_free rfl kc rfl ⟨_, X1 _ _ hcc, rfl⟩ ?_
    refine wpAny_loadName_local rfl kself hns vself ?_
    refine ks_wpAny_isType_cls hoD hdD ⟨rfl, ?_⟩
    refine ks_wpAny_call_super hoD hdD hx1 rfl (fun c e => nomatch e) (looks_mroIn X1 T.subD) fun h2 hso k2 => ?_
    have X2 : K.In h2 := X1.keeps k2
    have hx2 := k2 _ _ hx1
    have J2 : InstAt h2 x (excO C t0) C none := ⟨hx2, rfl, rfl, trivial⟩
    have hmr : Looks (model prog w) h2 (mroOf (.ref C)) (.ref C :: bm) := (looks_clsIn X2 hcl).andThen .now
    have hin : Looks (model prog w) h2 (isInstance (.ref x) (.type "ValueError")) true := J2.type.andThen (looks_subIn X2 T.subV)
    show wpAny (model prog w) _ (getMethod (.ref h1.objs.size) "__init__" _) _ _ ⟨h2, g, d, _, os⟩
    refine kxs_getMethod kxs_ValueError hso (looks_opaque X2 I.op) hmr hdrop X2 (along_ve K) hin hxC (by decide) ?_
    have k3 : ∀ b o, h2.get? b = some o → (h2.push (kxs_mw "ValueError.__init__" x)).get? b = some o := fun b o e => Heap.get?_push_of_some _ e
    have hu : (h2.push (kxs_mw "ValueError.__init__" x)).get? h2.objs.size = some (kxs_mw "ValueError.__init__" x) := Heap.get?_push_at rfl rfl
    dsimp only
    refine kxs_callWith (i := "ValueError.__init__") (x := x) rfl (evalArgs_plain ?_)
    refine Calls.spliced_cons (wpAny_Name (wpAny_loadName_local rfl kval ((hns.keeps k2).keeps k3) vval ?_) (by decide))
    refine Calls.spliced_nil ⟨hu, ?_⟩
    refine super_called (s := ⟨h2.push (kxs_mw "ValueError.__init__" x), g, d, _, os⟩) T (X2.keeps k3) (k3 _ _ hx2) hu fun h4 t1 k4 hx4 l4 => ?_
    have n4 : ∀ b o, hp.get? b = some o → b ≠ x → h4.get? b = some o := fun b o e hb => k4 b o hb (k3 _ _ (k2 _ _ (k1 _ _ e)))
    have X4 : K.In h4 := cls_same X hnx fun b o hb e => n4 b o e hb
    have hns4 : h4.Ns hp.objs.size (fun y => ([("self", Value.ref x), ("value", v)] : List (Str × Value)).reverse.lookup y) := by
      obtain ⟨oL, es, ep, eL, r⟩ := hns
      exact ⟨oL, es, ep, k4 _ _ (Ne.symm hnL) (k3 _ _ (k2 _ _ eL)), r⟩
    refine ks_wpAt_execs_cons (_root_.PySem.wpAt_of_wpAny (plainObj_wpAny_Assign_Attribute ?_))
    refine wpAny_Name (wpAny_loadName_local rfl kval hns4 vval ?_) (by decide)
    refine wpAny_Name (wpAny_loadName_local rfl kself hns4 vself ?_) (by decide)
    refine set_plain X4 (ox := excO C t1) (od := none) ⟨hx4, rfl, rfl, trivial⟩ T.sa ?_
    refine exc_osa X4 hx4 hcl (show refsVE (.ref C :: bm) = true from hbm) rfl T.noV (fun h5 tk5 dx k5 dn dne hx5 hn5 => ?_)
    refine _root_.PySem.wpAt_of_wpAny (wpAny_execs_nil ?_)
    have z1 : hp.objs.size < h1.objs.size := hns.lt
    have z2 : hp.objs.size ≤ h4.objs.size := Nat.le_of_lt hns4.lt
    exact hq h5 tk5 dx t1 ⟨fun b o hb e => k5 b o hb (n4 b o e hb), hx5, Nat.le_trans z2 dn, dne, hn5⟩
  · rw [arm_eval_Call]
    refine congrArg (fun t : Value → Sem Value => (do
      let ov ← attributeBase (.Call (.Name "super" q1) [] [] q2) "__init__" (ksEnv qual ⟨.function, snames, false, false, smore⟩ hp.objs.size fI (.ref cda) cc) (eval (.Call (.Name "super" q1) [] [] q2) (ksEnv qual ⟨.function, snames, false, false, smore⟩ hp.objs.size fI (.ref cda) cc))
      standAt q3.atName
      t ov)) (funext fun ov => ?_)
    exact L2.mcall_line rfl hln
end
end Er
set_option maxRecDepth 100000
set_option maxHeartbeats 2000000
set_option autoImplicit false
/-! Er2: such an error made, raised, caught and kept, its value read. -/
namespace Er
open PySem PySem.Spec PyProof.Rows PySem.W PySem.Calls PySem.HandSPX
structure Made (h h' : Heap) (e C d : Addr) (v : Value) : Prop where
  keep : ∀ b o, h.get? b = some o → h'.get? b = some o
  new : h.objs.size ≤ e
  obj : ∃ oe vs, h'.get? e = some oe ∧ oe.cls = .ref C ∧ oe.dict = some d ∧ oe.data = .fields vs ∧ vs[1]? = some .none
  dbig : h.objs.size ≤ d
  dne : d ≠ e
  ns : h'.Ns1 d (fun y => if y = "value" then some v else none)
theorem made {prog : Program} {w : World} {A : Around} {R : Result → Shared → Prop} {s : Shared} {K : Frag} {mg : Str → Option Value} {D fI C : Addr} (T : CT K D fI C) (I : IT prog K mg D fI) {v : Value} (X : K.In s.heap) (hG : s.heap.Ns mainGlobals mg) (hB : ∃ mb, s.heap.Ns builtinsNs mb ∧ ∀ x : Str, x ≠ "__name__" → mb x = bootBuiltins x)
    (hlim : s.heap.NoLimit) (hroom : A.depth + 1 < recursionLimit) (hq : ∀ h' tk e d, Made s.heap h' e C d v → R (.ok (.ret (.ref e))) { s with heap := h', toks := tk }) : codeAny (model prog w) A (.call (.ref C) ⟨[v], []⟩) R s := by
  obtain ⟨nm, q, N, bs, bm, sn, sub, ab, col, dd, k0, k1, k2, k3, k5, hC, hbm, _⟩ := T.cls
  obtain ⟨hp, g, dr, tk, os⟩ := s
  have k : ∀ b o, hp.get? b = some o → ((hp.push (kdv_tup [v])).push (excO C hp.objs.size)).get? b = some o := fun b o e => Heap.get?_push_of_some _ (Heap.get?_push_of_some _ e)
  have hget : ((hp.push (kdv_tup [v])).push (excO C hp.objs.size)).get? (hp.objs.size + 1) = some (excO C hp.objs.size) := by heap_get
  have hnx : K.lookup (hp.objs.size + 1) = none := by
    cases e : K.lookup (hp.objs.size + 1) with
    | none => rfl
    | some o =>
      have z : hp.get? (hp.objs.size + 1) = some o := X _ _ e
      exact absurd (Nat.lt_of_succ_lt (Heap.lt_size z)) (Nat.lt_irrefl _)
  obtain ⟨mb, hb, hbb⟩ := hB
  refine call_own PySem.F.excBase_ValueError (fun Y => refsVE_contains Y bm hbm) (X _ _ hC) (looks_findIn X T.iC) (fun self => bind_fn X self I.tI) (one_fits v) ?_
  refine init_done (s := ⟨(hp.push (kdv_tup [v])).push (excO C hp.objs.size), g, dr, tk, os⟩) T I (X.keeps k) (hG.keeps k) ⟨mb, hb.keeps k, hbb⟩ (hlim.keeps k) hget hnx (show A.depth + 1 < recursionLimit from hroom) fun h' tk' dx t1 m => ?_
  have old : ∀ b o, hp.get? b = some o → h'.get? b = some o := fun b o e => m.keep b o (Nat.ne_of_lt (Nat.lt_succ_of_lt (Heap.lt_size e))) (k b o e)
  have z : hp.objs.size + 1 + 1 ≤ dx := by
    have q := m.dbig
    rw [Heap.size_push, Heap.size_push] at q
    exact q
  exact ⟨rfl, hq h' tk' (hp.objs.size + 1) dx ⟨old, Nat.le_succ _, ⟨_, _, m.obj, rfl, rfl, rfl, rfl⟩, Nat.le_trans (Nat.le_trans (Nat.le_succ _) (Nat.le_succ _)) z, m.dne, m.ns⟩⟩
end Er
namespace Pv
open PySem PySem.Spec PyProof.Rows L2
theorem relO_val {v : V} {v' : Value} (r : RelV v v') (f : Str) : RelO (List.lookup f [(valueS, v)]) (if f = "value" then some v' else none) := by
  by_cases hw : f = "value"
  · subst hw
    rw [if_pos rfl]
    have q : List.lookup ("value" : Str) [(valueS, v)] = some v := by simp [List.lookup]
    rw [q]
    exact r
  · rw [if_neg hw]
    have qw : (f == ("value" : Str)) = false := by simpa using hw
    have q2 : List.lookup f [(valueS, v)] = none := by simp [List.lookup, qw]
    rw [q2]
    trivial
section
variable {X : Cx} {G : Gc} {W : WX} {D fI C : Addr} {a : Expr} {f : EF} {p pos pos2 : Pos} {x : Str} {k : Nat}
/-- X(e), X an error's class -/
theorem pmk_err {ta : TA} (T : Er.CT X.K D fI C) (IT : Er.IT X.prog X.K X.mg D fI) (gC : X.mg x = some (.ref C)) (hr : Room k X.A) (ha : PA X [a] ta) (hg : Gl X x) (hdb : (x == ("__debug__" : Str)) = false)
    (he : starEach [a] X.env = (false, eval a X.env) :: starEach [] X.env) (hpl : (backTo pos (starEach [] X.env)).any (·.1) = false) :
    PMk X (.Call (.Name x p) [a] [] pos) (fun σ H Q => ta σ H fun vs H1 => ∃ v, vs = [v] ∧ ∀ d, H1 d = none → Q (.ref C) (some d) (upd H1 d (.xd [(valueS, v)]))) := by
  intro pins s σ H Q I h
  refine wpAny_Call_Name_kw (ld_glob I hg gC ?_ hdb)
  refine PySem.W.callWith_K (h₀ := X.base) I.ok.mod.kin T.kC (thn (ha.run pos pins s σ H _ I h) fun us s1 hh => ?_) he hpl
  obtain ⟨vs, H1, I1, r1, v, ev, q1⟩ := hh
  subst ev
  refine ⟨I1.kIn, ?_⟩
  obtain ⟨v', rfl, rv⟩ := vals1 r1
  show wpAny _ _ (call (.ref C) [v']) _ _ _
  obtain ⟨mb, hb, hbb⟩ := I1.mod.blt
  have hG := I1.mod.glob.keeps I1.bk
  have hB := hb.keeps I1.bk
  have hlim := I1.nolimit
  obtain ⟨hp, g, dr, tk, os⟩ := s1
  refine wpAny_call (Er.made T IT I1.kIn hG ⟨mb, hB, hbb⟩ hlim (by have := hr.dp; omega) fun h' tk' e d M => ?_)
  show MkP X pins σ Q (.ref e) ⟨h', g, dr, tk', os⟩
  obtain ⟨oe, fv, hoe, hc, hd, hdat, h1⟩ := M.obj
  have hns := M.ns
  obtain ⟨G', g1, g2⟩ := restrict h' fun b => decide (b ≠ e)
  have gk : ∀ b, b ≠ e → G'.get? b = h'.get? b := fun b hb => g1 b (decide_eq_true hb)
  have ge : G'.get? e = none := g2 e (by simp)
  have old : ∀ b o, hp.get? b = some o → G'.get? b = some o := fun b o q => (gk b (Nat.ne_of_lt (Nat.lt_of_lt_of_le (Heap.lt_size q) M.new))).trans (M.keep b o q)
  have ob : ObjOk X.prog X.w (upd H1 d (.xd [(valueS, v)])) G' d (.xd [(valueS, v)]) := ⟨_, hns.at (fun o q => (gk d M.dne).trans q), fun f => relO_val rv f⟩
  have J : Inv X pins σ (upd H1 d (.xd [(valueS, v)])) ⟨G', g, dr, tk', os⟩ := I1.laid (t' := tk') old M.dbig ob
  refine ⟨e, oe, fv, ⟨G', g, dr, tk', os⟩, _, .ref C, some d, rfl, J, fun b o q => ?_, ge, hoe, ⟨hc, hd⟩, hdat, h1, ?_, rfl, I1.bare, raises_own T.exC T.tyC, q1 d (I1.hok.fresh M.dbig)⟩
  · by_cases hb : b = e
    · have q' : G'.get? b = some o := q
      rw [hb, ge] at q'
      cases q'
    · exact (gk b hb).symm.trans q
  · rw [upd_ne (Ne.symm M.dne)]
    exact I1.hok.fresh M.new
/-- raise X(e) -/
def sRaise (c : Nat) (f : EF) : SF := sE f fun x E m => .exc c x E m
theorem js_raise {c : Nat} (hc : X.calm = true) (T : Er.CT X.K D fI (G.ca c)) (IT : Er.IT X.prog X.K X.mg D fI) (gC : X.mg x = some (.ref (G.ca c))) (hr : Room k X.A) (tk : Takes X W) (ha : PE X a (tE X.K G W f)) (hg : Gl X x) (hdb : (x == ("__debug__" : Str)) = false)
    (he : starEach [a] X.env = (false, eval a X.env) :: starEach [] X.env) (hpl : (backTo pos (starEach [] X.env)).any (·.1) = false) : PS X (.Raise (some (.Call (.Name x p) [a] [] pos)) none pos2) (tS X.K G W (sRaise c f)) :=
  PS.imp (ps_raise hc tk (pmk_err T IT gC hr (pa_cons ha pa_nil he) hg hdb he hpl)) fun Dn σ H z =>
    (tS_E (rel := RV X.K G) z fun E m w B x v s r q => ⟨v, rfl, fun d hd => by
      have q1 : ∀ d y σ w', SI X.K G B w' E σ m → w'.H d = some (.xd [(valueS, y)]) → RV X.K G w' x y → W (.ref (G.ca c)) (some d) σ w'.H := q
      have e1 : ExtE w (w.put d (.xd [(valueS, v)])) := ExtE.put hd
      exact q1 d v σ (w.put d (.xd [(valueS, v)])) (s.step e1 (s.rm.put hd)) upd_same (e1.toExt.rv s.rm _ _ r)⟩)
end
end Pv
set_option maxRecDepth 100000
set_option maxHeartbeats 2000000
set_option autoImplicit false
/-! Er3: try .. except X as n, the caught error tracked behind it; its class, its value. -/
namespace Pv
open PySem PySem.Spec PyProof.Rows L2
theorem exV_ok {P : Program} {w : World} {H : Hp} {h : Heap} {a d : Addr} {cls : Value} {oe : Obj} {vs : Array Value} (e : h.get? a = some oe) (z : Zc cls (some d) oe) (dt : oe.data = .fields vs) : ObjOk P w H h a (ExV cls d a) :=
  ⟨⟨oe, vs, e, z.1, z.2, dt⟩, ⟨oe, e⟩, fun h1 h2 ⟨o, vs, e1, e2, e3, e4⟩ k => ⟨o, vs, k _ e1, e2, e3, e4⟩⟩
/-- an object that stands, new since the entry, is tracked from now on -/
theorem inv_track {X : Cx} {pins : List (Addr × Obj)} {σ : L2.St} {H : Hp} {s : Shared} {a : Addr} {o : HO} (I : Inv X pins σ H s) (hn : H a = none) (h0 : X.s_0.heap.get? a = none) (hL : a ≠ X.env.locals) (hc : ∀ v, ¬ s.heap.IsCell a v) (hp : ∀ p ∈ X.pn ++ pins, p.1 ≠ a) (ob : ObjOk X.prog X.w (upd H a o) s.heap a o) :
    Inv X pins σ (upd H a o) s := by
  have ne0 : ∀ {b u}, X.s_0.heap.get? b = some u → b ≠ a := fun {b u} e z => by
    rw [z, h0] at e
    cases e
  refine ⟨I.ok, I.os, I.bare, ⟨I.base.keep, I.base.slot, fun b u e n hx => ?_, I.base.there, fun b xs e => ?_, fun b u xs e => ?_, fun b ps e => ?_⟩, I.loc, I.cell, ?_, fun x c e => ?_, fun p h => ?_, fun b u e => ?_, I.len⟩
  · rw [upd_ne (ne0 e)]
    exact I.base.free b u e n hx
  · have q := I.base.tups b xs e
    rw [upd_ne (ne_of_none q hn)]
    exact q
  · have q := I.base.frzs b u xs e
    rw [upd_ne (ne_of_none q hn)]
    exact q
  · obtain ⟨more, q⟩ := I.base.tbls b ps e
    exact ⟨more, by rw [upd_ne (ne_of_none q hn)]; exact q⟩
  · rw [upd_ne (Ne.symm hL)]
    exact I.free
  · have nc : c ≠ a := fun z => by
      obtain ⟨v, q⟩ := I.cell x c e
      rw [z] at q
      exact hc v q
    rw [upd_ne nc]
    exact I.freeC x c e
  · obtain ⟨h1, h2, h3⟩ := I.pin p h
    exact ⟨h1, by rw [upd_ne (hp p h)]; exact h2, h3⟩
  · by_cases hb : b = a
    · rw [hb, upd_same] at e
      cases e
      rw [hb]
      exact ob
    · rw [upd_ne hb] at e
      exact (I.hok b u e).stay (fun c v _ q => q) (fun c q => by rw [upd_ne (ne_of_none q hn)]; exact q) fun c xs q => by rw [upd_ne (ne_of_none q hn)]; exact q
/-- what such a clause wishes of an error of the body -/
def wTrk (K : PySem.W.Frag) (c : Value) (i : Nat) (ts : TS) (D : Ends) : WX := fun cls d σ H => PySem.W.exmOne K cls c = some true ∧ ∃ d', d = some d' ∧ ∀ a, H a = none →
  ts { nx := fun σ' H' => H' a = none → D.nx (σ'.set i none) (upd H' a (ExV cls d' a)), rt := fun v H' => H' a = none → D.rt v (upd H' a (ExV cls d' a)), bk := fun σ' H' => H' a = none → D.bk (σ'.set i none) (upd H' a (ExV cls d' a)), ct := fun σ' H' => H' a = none → D.ct (σ'.set i none) (upd H' a (ExV cls d' a)) } (σ.set i (some (.ref a))) H
section
variable {X : Cx} {x n : Str} {c : Value} {i : Nat} {body suite : List Stmt} {b₀ : Stmt} {np pos pos' : Pos} {tb : WX → TS} {ts : TS}
theorem ps_try_trk (hs : X.stack = X.env :: X.outer) (hf : X.env.frame = some X.env.locals) (hex : X.ex = []) (hN : X.N.Nodup) (hi : X.N[i]? = some n) (hln : X.env.kindOf n = some .local) (hc : Names X x c)
    (hb : ∀ (W : WX) (pn : List (Addr × Obj)) (xe : Value → Shared → Prop), Takes (X.tr pn xe) W → PassesOwn (model X.prog X.w) X.A X.env xe → PSs (X.tr pn xe) body (tb W))
    (hsu : ∀ (a : Addr) (oe : Obj) (pn : List (Addr × Obj)), PSs (X.suite a ((a, oe) :: pn)) (b₀ :: suite) ts) :
    PS X (.Try body [.ExceptHandler (some (.Name x np)) (some n) (b₀ :: suite) pos'] [] [] pos) (fun D σ H => tb (wTrk X.K c i ts D) D σ H) := by
  refine ⟨fun pins s σ H D I h => ?_⟩
  have ok := I.ok
  have frames : X.A.frames = some (X.env :: X.outer) := by rw [ok.frames, hs]
  refine wpAny_Try_except ?_
  refine wpAny_mono ((hb (wTrk X.K c i ts D) (X.pn ++ pins) (fun e s1 => wpAny (model X.prog X.w) X.A (noteFrame e X.env) (fun _ s2 => wpAny (model X.prog X.w) X.A (setFlight e none) (fun _ s3 =>
    wpAny (model X.prog X.w) X.A (handleBy e X.env [.ExceptHandler (some (.Name x np)) (some n) (b₀ :: suite) pos']) (SP X pins D) X.xe s3) X.xe s2) X.xe s1) (fun u s' air => ?_) PassesOwn.looking).run [] s σ H D (I.toTry _) h) (fun f s1 q => ?_) (fun e s1 q => q)
  · obtain ⟨a, B, sI, pn', σ1, H1, cls, d, rfl, J', nb, up, sky, na, os, ag, hm, d', rfl, yes⟩ := air
    have J : Inv X pins σ1 H1 sI := J'.ofTry ok
    have sky1 : Sky B (X.env :: X.outer) a (Zc cls (some d')) X.env.locals s'.heap := by rw [← hs]; exact sky
    show wpAny (model X.prog X.w) X.A (noteFrame (.ref a) X.env) _ _ _
    refine Sky.land Zc.steady frames hf sky1 fun h3 fl3 up3 => ?_
    have J3 : Inv X pins σ1 H1 { s' with heap := h3 } := J.landed nb fl3.1 (up.trans up3) os ag
    obtain ⟨oe3, vs3, he3, hz3, hd3⟩ := fl3.there
    have outside : a ∉ frs (X.env :: X.outer) := fun hm => by
      obtain ⟨_, o', e', hnf⟩ := fl3.2.2.1.mem hm
      rw [he3] at e'
      cases e'
      exact hnf _ hd3
    have nL : a ≠ X.env.locals := fun z => outside (List.mem_filterMap.mpr ⟨X.env, List.mem_cons_self, by rw [hf, z]⟩)
    have nF : a ∉ X.fs := fun hm => by
      obtain ⟨e, he, q⟩ := List.mem_filterMap.mp hm
      exact outside (List.mem_filterMap.mpr ⟨e, List.mem_cons_of_mem _ he, q⟩)
    have n0 : X.s_0.heap.get? a = none := by
      cases e : X.s_0.heap.get? a with
      | none => rfl
      | some o =>
        obtain ⟨o', q⟩ := J.base.there a o e (by rw [hex]; exact fun z => nomatch z)
        have q2 := nb a o' q (by rw [hs]; exact outside)
        rw [fl3.2.1] at q2
        cases q2
    have noPin : ∀ p ∈ X.pn ++ pins, p.1 ≠ a := fun p hp z => by
      have q := (J.pin p hp).1
      rw [z] at q
      have q2 := nb a p.2 q (by rw [hs]; exact outside)
      rw [fl3.2.1] at q2
      cases q2
    refine wpAny_handleBy_cons (codeAny_handlers_test ?_) (by intro q; cases q)
    have LT : PySem.W.Looks (model X.prog X.w) h3 (typeOf (.ref a)) cls := fun A Q E s k q => wpAny_typeOf_ref (k _ _ he3) (by rw [hz3.1]; exact q)
    have LM := PySem.W.exm_one (M := model X.prog X.w) J3.kIn LT hm
    have S3 := J3.suite he3 hd3 na nL nF
    have test : ∀ {Q : Value → Shared → Prop} {E : Value → Shared → Prop}, Q c { s' with heap := h3 } → wpAny (model X.prog X.w) (X.A.mark (some (.ref a))) (eval (.Name x np) X.env) Q E { s' with heap := h3 } := fun {Q E} q => by
      obtain ⟨hg, hdbg, w1 | ⟨w1, w2, w3⟩⟩ := hc
      · exact ld_glob (X := X.suite a ((a, oe3) :: (X.pn ++ pins))) S3 hg w1 q hdbg
      · exact ld_blt (X := X.suite a ((a, oe3) :: (X.pn ++ pins))) S3 hg w1 w2 q w3 hdbg
    refine test (LM.here (codeAny_handlers_suite_as ?_))
    refine HandSPX.lands_againZ fl3 fun h4 fl4 up4 => ?_
    have J4 : Inv X pins σ1 H1 { s' with heap := h4 } := J.landed nb fl4.1 ((up.trans up3).trans up4) os ag
    obtain ⟨oe4, vs4, he4, hz4, hd4⟩ := fl4.there
    have S4 := J4.suite he4 hd4 na nL nF
    refine store_ok (X := X.suite a ((a, oe4) :: (X.pn ++ pins))) (v := .ref a) S4 hN hi (.inl hln) rfl (fun s5 S5 => ?_) (.inr hln)
    refine wpAny_mono ((hsu a oe4 (X.pn ++ pins)).run [] s5 _ H1 _ S5 (yes a na)) (fun f s6 q => ?_) (fun _ _ z => z.elim)
    have behind : ∀ {σ6 : L2.St} {H6 : Hp} {Q : Shared → Prop}, Inv (X.suite a ((a, oe4) :: (X.pn ++ pins))) [] σ6 H6 s6 → (∀ s7, H6 a = none → Inv X pins (σ6.set i none) (upd H6 a (ExV cls d' a)) s7 → Q s7) →
        wpAny (model X.prog X.w) X.A (do bindName X.env n .none; unbindBehindTheSuite X.env n pos') (fun _ s7 => Q s7) X.xe s6 := fun {σ6 H6 Q} S6 hq => by
      obtain ⟨hget, hnone, _, _, _⟩ := S6.pin (a, oe4) (List.mem_append_left _ List.mem_cons_self)
      refine gone_ok (X := X.suite a ((a, oe4) :: (X.pn ++ pins))) S6 hN hi hln fun s7 S7 => hq s7 hnone ?_
      obtain ⟨hget7, hnone7, _, _, _⟩ := S7.pin (a, oe4) (List.mem_append_left _ List.mem_cons_self)
      refine inv_track (S7.unsuite ok) hnone7 n0 nL (fun v z => ?_) noPin (exV_ok hget7 hz4 hd4)
      · obtain ⟨oc, h1, h2⟩ := z
        rw [hget7] at h1
        cases h1
        rw [hd4] at h2
        cases h2
    cases f with
    | next =>
      obtain ⟨σ6, H6, S6, q6⟩ := q
      exact behind S6 fun s7 hn J7 => ⟨_, _, J7, q6 hn⟩
    | brk =>
      obtain ⟨σ6, H6, S6, q6⟩ := q
      exact behind S6 fun s7 hn J7 => ⟨_, _, J7, q6 hn⟩
    | cont =>
      obtain ⟨σ6, H6, S6, q6⟩ := q
      exact behind S6 fun s7 hn J7 => ⟨_, _, J7, q6 hn⟩
    | ret u =>
      obtain ⟨v6, σ6, H6, S6, r6, q6⟩ := q
      exact behind S6 fun s7 hn J7 => ⟨_, _, _, J7, r6, q6 hn⟩
  · cases f with
    | next =>
      obtain ⟨σ2, H2, J2, q2⟩ := q
      exact wpAny_execs_nil ⟨σ2, H2, J2.ofTry ok, q2⟩
    | brk =>
      obtain ⟨σ2, H2, J2, q2⟩ := q
      exact ⟨σ2, H2, J2.ofTry ok, q2⟩
    | cont =>
      obtain ⟨σ2, H2, J2, q2⟩ := q
      exact ⟨σ2, H2, J2.ofTry ok, q2⟩
    | ret u =>
      obtain ⟨v, σ2, H2, J2, r2, q2⟩ := q
      exact ⟨v, σ2, H2, J2.ofTry ok, r2, q2⟩
end
end Pv
set_option maxRecDepth 100000
set_option maxHeartbeats 2000000
set_option autoImplicit false
/-! Er4: a kept error's value and class; repr. -/
namespace Er
open PySem PySem.Spec PyProof.Rows PySem.W PySem.Calls
/-- isinstance(x, c), x's type c itself -/
theorem isi_self {prog : Program} {w : World} {A : Around} {E : Value → Shared → Prop} {Q : Value → Shared → Prop} {s : Shared} {x c : Value} {H : Heap → Prop} (ty : ∀ (M : Model) (h : Heap), H h → Looks M h (typeOf x) c) (p : H s.heap) (hx : x ≠ .builtin "__main__.__loader__#opaque") (h : ∀ tk, Q (.bool true) { s with toks := tk }) :
    wpAny (model prog w) A (call (.builtin "isinstance") [x, c]) Q E s := by
  have ans : Answers (fun s => H s.heap) x c true := by
    intro dep tk prog w A R s hs
    obtain ⟨h0, g, d, tt, os⟩ := s
    obtain ⟨p, hq⟩ := hs
    have LT := ty (model prog w) h0 p
    unfold Builtin.«isinstance.nested»
    refine wpAny_bind (LT.at ?_)
    rw [if_pos (beq_self_eq_true c)]
    first
      | ((repeat lk); exact hq tt)
      | exact wpAny_bind (wpAny_rule (hq tt))
      | exact wpAny_bind (wpAny_rule (wpAny_pure (hq tt)))
  exact call_isinstance (S := fun _ R s => H s.heap ∧ ∀ tk, R (.ok (.ret (.bool true))) { s with toks := tk }) (fun prog w A R s hs => isinstance_outer (ans 0 _ prog w A R s hs) hx) ⟨p, h⟩
end Er
namespace Pv
open PySem PySem.Spec PyProof.Rows L2
/-- the value of a kept error -/
def pVal : Op1 := fun x _ => match x with
  | .exc _ y => some y
  | _ => none
/-- isinstance(e, X), e an error of that very class -/
def pIsX (c : Nat) : Op1 := fun x _ => match x with
  | .exc k _ => if k = c then some (.bl true) else none
  | _ => none
def pRepr : OpN := fun xs _ => match xs with
  | [x] => if okD x = true ∧ (toD x).showable = true ∧ (toD x).shown.length ≤ sizeLine then some (.str (toD x).shown) else none
  | _ => none
section
variable {X : Cx} {G : Gc} {W : WX} {D fI : Addr} {e : Expr} {f : EF} {pos : Pos}
theorem exv_at {K : PySem.W.Frag} {P : Program} {w : World} {H : Hp} {h : Heap} {a d : Addr} {cls : Value} (hok : HOk P w H h) (e : H a = some (ExV cls d a)) : ∃ (oe : Obj) (vs : Array Value), h.get? a = some oe ∧ oe.cls = cls ∧ oe.dict = some d ∧ oe.data = .fields vs := by
  have q := hok a _ e
  unfold ExV at q
  exact q.1
theorem je_value (hT : ∀ c, Er.CT X.K D fI (G.ca c)) (he : PE X e (tE X.K G W f)) (hb : attributeBase e "value" X.env (eval e X.env) = eval e X.env) : PE X (.Attribute e "value" pos) (tE X.K G W (e1 pVal f)) := by
  refine ⟨fun pins s σ H Q I z => ?_⟩
  refine attr_of hb (thn (he.run pins s σ H _ I (tX.bind (g := fun _ x m1 => Res.of (pVal x m1) m1) mono_true z)) fun u s1 hh => ?_)
  obtain ⟨v, H1, I1, rx, x, E, m, w, rfl, R, re, ⟨_, r⟩, z2⟩ := hh
  cases x with
  | exc c y =>
    rw [rv_exc] at r
    obtain ⟨a, d, yv, rfl, h1, h2, h3⟩ := r
    obtain rfl : u = Value.ref a := rx
    obtain ⟨oe, vs, q1, q2, q3, q4⟩ := exv_at (K := X.K) I1.hok h1
    have T := hT c
    have hx : ObjOk X.prog X.w w.H s1.heap d (.xd [(valueS, yv)]) := I1.hok d _ h2
    obtain ⟨mA, hns, hr⟩ := hx
    obtain ⟨od, ho, hl⟩ := lookIn_ns hns
    have l : List.lookup ("value" : Str) [(valueS, yv)] = some yv := by simp [List.lookup]
    obtain ⟨u, hu, ru⟩ := RelO.some_of (v := yv) (o := mA "value") (by rw [← l]; exact hr "value")
    have J : PySem.W.InstAt s1.heap a oe (G.ca c) (some od) := ⟨q1, q2, by unfold PySem.W.notCls; rw [q4] <;> rfl, by rw [q3]; exact ho⟩
    have b : Behind X.K G w m y Q := z2
    exact HandSPX.exc_get I1.kIn J T.ga T.gg T.exC (PySem.W.findObj_own T.hdC T.noV rfl (by rw [hl, hu])) (handed_of ru) ⟨yv, w.H, I1.tok _, ru, b.now R h3⟩
  | _ => exact z2.elim
abbrev rIsX (C : Addr) : List V → Hp → VK → Prop := fun xs H Q => ∃ a d, xs = [.ref a, .ref C] ∧ H a = some (ExV (.ref C) d a) ∧ Q (.bl true) H
theorem call_isX {C : Addr} : CallR X (.builtin "isinstance") (rIsX C) := by
  intro pins s σ H xs us Q I r h
  obtain ⟨a, d, rfl, ha, q⟩ := h
  obtain ⟨u1, u2, rfl, r1, r2⟩ := vals2 r
  obtain rfl : u1 = Value.ref a := r1
  obtain rfl : u2 = Value.ref C := r2
  obtain ⟨oe, vs, q1, q2, q3, q4⟩ := exv_at (K := X.K) I.hok ha
  exact Er.isi_self (H := fun h => h.get? a = some oe) (fun M h e A Q E s k z => wpAny_typeOf_ref (k _ _ e) (by rw [q2]; exact z)) q1 (fun z => nomatch z) fun tk => ⟨.bl true, H, I.tok tk, rfl, q⟩
theorem je_isX {c : Nat} {x : Str} {p p2 : Pos} (hg : Gl X "isinstance") (hm : X.mg "isinstance" = none) (hgC : Gl X x) (hmC : X.mg x = some (.ref (G.ca c))) (ha : PE X e (tE X.K G W f)) (hdb : (x == ("__debug__" : Str)) = false)
    (he : starEach [e, .Name x p2] X.env = (false, eval e X.env) :: starEach [.Name x p2] X.env) (he2 : starEach [.Name x p2] X.env = (false, eval (.Name x p2) X.env) :: starEach [] X.env) (hpl : (backTo pos (starEach [.Name x p2] X.env)).any (·.1) = false) :
    PE X (.Call (.Name "isinstance" p) [e, .Name x p2] [] pos) (tE X.K G W (e1 (pIsX c) f)) :=
  PE.imp (pe_callB (call_isX (C := G.ca c)) hg hm (by decide +kernel) (pa_cons ha (pa_cons (pe_glob (v := .ref (G.ca c)) hgC hmC rfl hdb) pa_nil he2) he) (by decide) (by decide) he hpl) fun σ H Q z =>
    (tX.bind (g := fun _ x m1 => Res.of (pIsX c x m1) m1) mono_true z).imp fun v H1 ⟨x, z1⟩ => by
      obtain ⟨E, m, w, rfl, R, re, ⟨_, r⟩, z2⟩ := z1
      cases x with
      | exc k y =>
        have z3 : fin (RV X.K G) X.K G W w σ Q (Res.of (if k = c then some (.bl true) else none) m) := z2
        by_cases hk : k = c
        · rw [if_pos hk] at z3
          subst hk
          rw [rv_exc] at r
          obtain ⟨a, d, yv, rfl, h1, _⟩ := r
          exact ⟨a, d, rfl, h1, z3 (.bl true) w ExtE.refl R (rv_bl.mpr rfl)⟩
        · rw [if_neg hk] at z3
          exact z3.elim
      | _ => exact z2.elim
/-! ### repr -/
abbrev rRepr (K : PySem.W.Frag) : List V → Hp → VK → Prop := fun xs H Q => ∃ x d, xs = [x] ∧ Dp K H x d ∧ SeqAt.shaped d = true ∧ d.showable = true ∧ d.shown.length ≤ sizeLine ∧ Q (.str d.shown) H
theorem call_reprD (hg : X.A.guards = some []) (hu : X.A.units + 65 < cLine) : CallR X (.builtin "repr") (rRepr X.K) := by
  intro pins s σ H xs us Q I r h
  obtain ⟨x, d, rfl, hd, sd, sh, sz, q⟩ := h
  obtain ⟨u, rfl, rx⟩ := vals1 r
  obtain ⟨as, rd⟩ := Dp.reads I d x u hd rx
  have dep := SeqAt.depth_of_shaped sd
  have box : ∀ a, Reads s.heap (.ref a) d as → wpAny (model X.prog X.w) X.A (call (.builtin "repr") [.ref a]) (EP X pins σ Q) X.xe s := fun a rd =>
    repr_of_reads' rd sh (PyData.noDict_hsm (PyData.hasDict_of_canLay d (SeqAt.canLay_of_shaped sd))) hg (by omega) (fun _ _ e => e) (fun h' t tk hk => ⟨.str d.shown, H, I.kept hk, ⟨_, rfl⟩, q⟩) sz
  cases hd with
  | non =>
    cases rx
    exact PySem.P.repr_of_none ⟨.str "None", H, I.tok _, ⟨_, rfl⟩, q⟩
  | bl b =>
    cases rx
    exact PySem.P.repr_of_bool ⟨.str (if b then "True" else "False"), H, I.tok _, ⟨_, rfl⟩, q⟩
  | int i =>
    obtain ⟨t, rfl⟩ := rx
    exact PySem.P.repr_of_int (of_decide_eq_true sh) ⟨.str _, H, I.tok _, ⟨_, rfl⟩, q⟩
  | str z =>
    obtain ⟨t, rfl⟩ := rx
    exact PySem.P.repr_of_str ⟨.str _, H, I.tok _, ⟨_, rfl⟩, q⟩ sz
  | lst h1 h2 =>
    cases rx
    exact box _ rd
  | tup h1 h2 =>
    cases rx
    exact box _ rd
theorem sRepr : OpNS X.K G (rRepr X.K) pRepr := fun w m xs vs z Q R r e b => by
  unfold pRepr at e
  split at e
  · split at e
    · rename_i h
      cases e
      obtain ⟨v, rfl, r1⟩ := r.inv1
      obtain ⟨h1, h2, h3⟩ := h
      unfold okD at h1
      rw [Bool.and_eq_true] at h1
      exact ⟨v, _, rfl, dp_of _ _ r1 h1.1, h1.2, h2, h3, b.now R (rv_str.mpr rfl)⟩
    · cases e
  · cases e
end
end Pv
set_option maxRecDepth 100000
set_option maxHeartbeats 2000000
set_option autoImplicit false
/-! Er5: defs by functions of plain values; defs whose frames guard nothing; a lambda handed to the one that hears. -/
namespace Pv
open PySem PySem.Spec PyProof.Rows L2
/-! ### a def's body as a function -/
def slotsOf (N : Nat) (xs : List PV) : Ev := xs.map some ++ List.replicate (N - xs.length) none
def outR : Out → Res PV
  | .next _ m => .ok .non m
  | .ret v m => .ok v m
  | .exc c v _ m => .exc c v m
  | _ => .bad
def bodyF (N : Nat) (g : SF) : FF := fun xs m => outR (g (slotsOf N xs) m)
abbrev WB (E : XK) : WX := fun cls d _ H => E cls d H
theorem slots_re {K : PySem.W.Frag} {G : Gc} {w : Wd} {N : List Str} {xs : List PV} {vs : List V} (r : RVs K G w xs vs) : RE K G w (slotsOf N.length xs) (start N vs) := by
  have hl := r.length
  have at_ : ∀ i x, (slotsOf N.length xs)[i]? = some (some x) → xs[i]? = some x := fun i x h => by
    unfold slotsOf at h
    by_cases hi : i < xs.length
    · rw [List.getElem?_append_left (by simpa using hi), List.getElem?_map] at h
      cases q : xs[i]? with
      | none => rw [q] at h; cases h
      | some y =>
        rw [q] at h
        cases h
        rfl
    · rw [List.getElem?_append_right (by simpa using hi), List.getElem?_replicate] at h
      split at h <;> cases h
  refine ⟨by unfold slotsOf L2.start; simp [hl], fun i x h => ?_, fun i j ys zs a _ h1 _ h3 _ => ?_⟩
  · obtain ⟨v, h1, h2⟩ := r.get (at_ i x h)
    refine ⟨v, ?_, .inl h2⟩
    unfold L2.start
    rw [List.getElem?_append_left (by simpa using (List.getElem?_eq_some_iff.mp h1).1), List.getElem?_map, h1]
    rfl
  · obtain ⟨v, h1, h2⟩ := r.get (at_ i _ h1)
    exact rv_own h2
theorem body_start {K : PySem.W.Frag} {G : Gc} {N : List Str} {n : Nat} {g : SF} {vs : List V} {H : Hp} {Q : VK} {E : XK} (h : spF K G n (bodyF N.length g) vs H Q E) : tS K G (WB E) g { nx := fun _ H' => Q .non H', rt := Q } (start N vs) H := by
  obtain ⟨xs, m, w, rfl, R, r, hn, h⟩ := h
  refine ⟨slotsOf N.length xs, m, w, w, rfl, ⟨⟨m, R⟩, R, slots_re r, ExtE.refl, fun i ys a h1 _ => ?_⟩, ?_⟩
  · obtain ⟨v, h3, h4⟩ := (slots_re (N := N) r).val i _ h1
    rcases h4 with h4 | ⟨_, b, us, _, rfl, o, _⟩
    · exact (rv_own h4).elim
    · have q : xs[i]? = some (.own ys) := by
        unfold slotsOf at h1
        by_cases hi : i < xs.length
        · rw [List.getElem?_append_left (by simpa using hi), List.getElem?_map] at h1
          cases q : xs[i]? with
          | none => rw [q] at h1; cases h1
          | some y =>
            rw [q] at h1
            cases h1
            rfl
        · rw [List.getElem?_append_right (by simpa using hi), List.getElem?_replicate] at h1
          split at h1 <;> cases h1
      obtain ⟨v, _, h5⟩ := r.get q
      exact (rv_own h5).elim
  · unfold bodyF at h
    cases q : g (slotsOf N.length xs) m with
    | next E1 m1 =>
      rw [q] at h
      exact fun σ w' e s => h .non w' s.ext s.rm (rv_non.mpr rfl)
    | ret v m1 =>
      rw [q] at h
      exact h
    | brk E1 m1 => rw [q] at h; exact h.elim
    | cnt E1 m1 => rw [q] at h; exact h.elim
    | exc c v E1 m1 =>
      rw [q] at h
      exact fun d y σ w' s h1 h2 => h d y w' s.ext s.rm h1 h2
    | bad => rw [q] at h; exact h.elim
section
variable {P : Program} {w : World} {K : PySem.W.Frag} {mg : Str → Option Value} {base : Heap} {x qual : Str} {params : Arguments} {body : List Stmt} {scope : Scope} {dvs : List V} {kws : List (Str × V)} {f : Addr} {fd : FuncData} {G : Gc} {N ps : List Str} {k : Nat} {g : SF}
/-- a def by its body -/
theorem def_ok (F : FunD K x qual params body scope dvs kws f fd) (S : FnScope N ps scope)
    (hb : ∀ (cdv : Value) (A : Around) (outer : List Env) (s : Shared) (H : Hp) (E : XK), Room k (A.deeper (envOfC qual scope s.heap.objs.size f cdv)) → PSs (cxOf (L2.CX P w) P w K mg base N qual scope f cdv A outer s H E) body (tS K G (WB E) g)) :
    FnOk P w K mg base (L2.CX P w) (k + 1) f fd ps (spF K G ps.length (bodyF N.length g)) :=
  F.ok S (fun vs H Q E h => h.len) fun cdv A outer s H vs Q E hr h => ⟨_, hb cdv A outer s H E hr, body_start h⟩
/-! ### defs called where nothing is guarded -/
structure FnG (P : Program) (w : World) (K : PySem.W.Frag) (mg : Str → Option Value) (base : Heap) (CX : CXT) (k : Nat) (f : Addr) (fd : FuncData) (ps : List Str) (sp : Sp) : Prop where
  len : ∀ vs H Q E, sp vs H Q E → vs.length = ps.length
  run : ∀ (A : Around) (outer : List Env) (s : Shared) (H : Hp) (args : Args) (us : List Value) (vs : List V) (Q : VK) (E : XK), A.guards = some [] → Room k A → Env0 P w K mg base A outer s H → BindsTo s fd args (ps.zip us) → Vals vs us → sp vs H Q E → codeAny (model P w) A (.call (.ref f) args) (CR CX outer P w H s Q E) s
theorem FnOk.toG {CX : CXT} {sp : Sp} (F : FnOk P w K mg base CX k f fd ps sp) : FnG P w K mg base CX k f fd ps sp := ⟨F.len, fun A outer s H args us vs Q E _ => F.run A outer s H args us vs Q E⟩
/-- a def by its code object too, nothing guarded -/
theorem def_okG {cdv : Value} (ex : ∃ (oc : Value) (od : Option Addr) (dV kV doc pm : Value) (an : Option Addr) (ct : Value) (osl : Array (Option Value)), fd = PySem.W.fnOf x qual params body scope dV kV doc pm an cdv ct ∧ K.lookup f = some ⟨oc, od, .func fd, osl⟩ ∧ PySem.W.codeIn K cdv qual = true) (S : FnScope N ps scope)
    (hb : ∀ (A : Around) (outer : List Env) (s : Shared) (H : Hp) (E : XK), A.guards = some [] → Room k (A.deeper (envOfC qual scope s.heap.objs.size f cdv)) → PSs (cxOf (L2.CX P w) P w K mg base N qual scope f cdv A outer s H E) body (tS K G (WB E) g)) :
    FnG P w K mg base (L2.CX P w) (k + 1) f fd ps (spF K G ps.length (bodyF N.length g)) := by
  obtain ⟨oc, od, dV, kV, doc, pm, an, ct, osl, rfl, lk, hcd⟩ := ex
  exact ⟨fun vs H Q E h => h.len, fun A outer s H args us vs Q E hg hr e0 hbd r h => LamX.run_ofS lk hcd S hr e0 hbd r h.len fun hr' => ⟨_, hb A outer s H E hg hr', body_start h⟩⟩
theorem def_okC {cdv : Value} (ex : ∃ (oc : Value) (od : Option Addr) (dV kV doc pm : Value) (an : Option Addr) (ct : Value) (osl : Array (Option Value)), fd = PySem.W.fnOf x qual params body scope dV kV doc pm an cdv ct ∧ K.lookup f = some ⟨oc, od, .func fd, osl⟩ ∧ PySem.W.codeIn K cdv qual = true) (S : FnScope N ps scope)
    (hb : ∀ (A : Around) (outer : List Env) (s : Shared) (H : Hp) (E : XK), Room k (A.deeper (envOfC qual scope s.heap.objs.size f cdv)) → PSs (cxOf (L2.CX P w) P w K mg base N qual scope f cdv A outer s H E) body (tS K G (WB E) g)) :
    FnOk P w K mg base (L2.CX P w) (k + 1) f fd ps (spF K G ps.length (bodyF N.length g)) := by
  obtain ⟨oc, od, dV, kV, doc, pm, an, ct, osl, rfl, lk, hcd⟩ := ex
  exact ⟨fun vs H Q E h => h.len, fun A outer s H args us vs Q E hr e0 hbd r h => LamX.run_ofS lk hcd S hr e0 hbd r h.len fun hr' => ⟨_, hb A outer s H E hr', body_start h⟩⟩
end
section
variable {X : Cx} {G : Gc} {W : WX} {pos p : Pos} {e : Expr} {es : List Expr} {x : Str}
theorem je_callG {k n : Nat} {f : Addr} {fd : FuncData} {ps : List Str} {F : FF} {fa : AF} (FO : FnG X.prog X.w X.K X.mg X.base (L2.CX X.prog X.w) k f fd ps (spF X.K G n F)) (gu : X.A.guards = some []) (hr : Room k X.A) (hg : Gl X x) (hm : X.mg x = some (.ref f)) (hk : PySem.W.keepIn X.K (.ref f) = true)
    (hb : Binds X.K fd ps []) (tk : Takes X W) (ha : PA X (e :: es) (tA X.K G W fa)) (hdb : (x == ("__debug__" : Str)) = false) (he : starEach (e :: es) X.env = (false, eval e X.env) :: starEach es X.env) (hpl : (backTo pos (starEach es X.env)).any (·.1) = false) : PE X (.Call (.Name x p) (e :: es) [] pos) (tE X.K G W (eF n F fa)) := by
  refine ⟨fun pins s σ H Q I z => ?_⟩
  refine wpAny_Call_Name_kw (ld_glob I hg hm ?_ hdb)
  refine PySem.W.callWith_K (h₀ := X.base) I.ok.mod.kin hk (thn (ha.run pos pins s σ H _ I (tEF z)) fun us s1 ⟨vs, H1, I1, r, q⟩ => ⟨I1.kIn, ?_⟩) he hpl
  have hl : us.length = ps.length := by rw [← r.length]; exact FO.len _ _ _ _ q
  have b := hb s1 us I1.kIn (by rw [List.append_nil]; exact hl)
  rw [List.append_nil] at b
  refine wpAny_call (codeAny_mono (FO.run X.A X.stack s1 H1 ⟨us, []⟩ us vs Q (WE W σ) gu hr I1.env0 b r q) fun r s' hq => ?_)
  cases r with
  | error e => exact passAt tk σ pins H1 s1 e s' I1 hq
  | ok fl =>
    cases fl with
    | ret u => exact I1.after hq
    | next => exact False.elim hq
    | brk => exact False.elim hq
    | cont => exact False.elim hq
end
end Pv
set_option maxRecDepth 100000
set_option maxHeartbeats 2000000
set_option autoImplicit false
/-! Lm1: a lambda handed to a def and called there; what it raises is told of the very slots. -/
namespace Pv
open PySem PySem.Spec PyProof.Rows L2 LamX
section
variable {X : Cx} {pins : List (Addr × Obj)} {σ : L2.St} {H : Hp} {s : Shared}
/-- the def's context, entered at s, within a try -/
abbrev inTry (X : Cx) (N : List Str) (q : Str) (sg : Scope) (g : Addr) (cd : Value) (s : Shared) (H : Hp) (pn : List (Addr × Obj)) (xe : Value → Shared → Prop) : Cx := (cxOf C8.CX0 X.prog X.w X.K X.mg X.base N q sg g cd X.A X.stack s H C8.E0).tr pn xe
theorem lam_act {N : List Str} {q : Str} {sg : Scope} {g f c' : Addr} {cd pm ctv : Value} {ps : Arguments} {body : Expr} {sc : Scope} {k i : Nat} {a : Str} {pn : List (Addr × Obj)} {xe : Value → Shared → Prop} {W : WX} {t : XK → TE} {p1 p2 : Pos}
    (I : Inv X pins σ H s) (L : LamS X.env.scope sc) (of : s.heap.get? f = some (PySem.W.kla_obj "<lambda>" (X.env.qual ++ "<lambda>") ps body sc (cloFrom X.env.cells sc.names []) pm c' ctv)) (nf : H f = none) (ff : f ∉ frs X.stack)
    (hb0 : bindArgs (PySem.W.kla_fn "<lambda>" (X.env.qual ++ "<lambda>") ps body sc (cloFrom X.env.cells sc.names []) pm (.ref c') ctv) ⟨[], []⟩ = pure []) (tk : Takes (inTry X N q sg g cd s H pn xe) W) (room : Room (k + 1) (X.A.deeper (envOfC q sg s.heap.objs.size g cd)))
    (hbody : ∀ (A : Around) (outer : List Env) (s1 : Shared) (H1 : Hp) (E : XK), Room k (A.deeper (lamEnv X sc s1.heap.objs.size f c')) → PE (lamCx X A outer s1 H1 E sc f c') body (t E)) (hN : N[i]? = some a) (hv : Vis sg a) (d1 : (a == ("__debug__" : Str)) = false) (d2 : (a == ("__classdict__" : Str)) = false) :
    PE (inTry X N q sg g cd s H pn xe) (.Call (.Name a p1) [] [] p2) (fun σZ HZ Q => σZ[i]? = some (some (.ref f)) ∧ HZ c' = some (CodeO c' (X.env.qual ++ "<lambda>")) ∧ ∃ E : XK, (∀ cls d H1, E cls d H1 → W cls d σZ H1) ∧ t E σ HZ Q) := by
  refine ⟨fun pinsZ sZ σZ HZ Q IZ z => ?_⟩
  obtain ⟨z1, z2, E, z3, z4⟩ := z
  refine wpAny_Call_Name_kw (thn ((pe_var (pos := p1) (i := i) hN hv d1 d2).run pinsZ sZ σZ HZ (fun v H1 => v = .ref f ∧ H1 = HZ) IZ ⟨_, z1, rfl, rfl⟩) fun u s1 got => ?_)
  obtain ⟨v, H1, I1, r1, rfl, rfl⟩ := got
  obtain rfl : u = Value.ref f := r1
  have kept : Un (frs X.stack) [] H H1 s.heap s1.heap := I1.base
  have of1 := kept.keep f _ of nf ff (fun z => nomatch z)
  refine PySem.W.callWith_F0 ⟨_, _, _, _, of1⟩ ?_
  obtain ⟨⟨oc, vs, tt, co, cdt, cnm⟩, _, _⟩ := I1.hok c' _ z2
  have ran : codeAny (model X.prog X.w) (X.A.deeper (envOfC q sg s.heap.objs.size g cd)) (.call (.ref f) ⟨[], []⟩) (CR (L2.CX X.prog X.w) (envOfC q sg s.heap.objs.size g cd :: X.stack) X.prog X.w H1 s1 Q E) s1 := by
    refine PySem.W.kla_callFunE room.depth of1 rfl L.co L.gen rfl ⟨c', oc, vs, tt, rfl, co, cdt, cnm⟩ ?_
    rw [hb0]
    refine wpAny_pure (wpAny_newFunctionEnv (fun y hy => (L.own y hy).2) (fun y hy => nomatch hy) (fun h2 ns2 sb2 => ⟨I1.nolimit.fresh _ sb2, ?_⟩) L.kind)
    have kp : ∀ b o, s1.heap.get? b = some o → h2.get? b = some o := fun b o e => sb2.extBut b o (Nat.ne_of_lt (Heap.lt_size e)) (Heap.get?_push_of_some _ e)
    have J : Inv (lamCx X (X.A.deeper (envOfC q sg s.heap.objs.size g cd)) (envOfC q sg s.heap.objs.size g cd :: X.stack) s1 H1 E sc f c') [] σ H1 { s1 with heap := h2, toks := s1.toks + ([] : List (Str × Value)).length } := lam_start2 I L I1.env0 room.hd kept ns2 kp
    refine PySem.W.kla_codeExpr (wpAny_mono ((hbody _ _ s1 H1 E (room.deeper _)).run [] _ _ H1 Q J z4) (fun v s' y => ?_) fun e s' y => y)
    obtain ⟨w', H', J', rv, y⟩ := y
    exact ⟨w', H', J'.os, J'.bare, J'.base, J'.hok, rv, y⟩
  refine wpAny_call (codeAny_mono ran fun r s' y => ?_)
  cases r with
  | error e => exact tk e s' (XE.of_call I1 (fun cls d H' h => z3 cls d H' h) y)
  | ok fl =>
    cases fl with
    | ret u => exact I1.after y
    | next => exact y.elim
    | brk => exact y.elim
    | cont => exact y.elim
/-- a def that calls what it got; TT: what it makes of the lambda's reading -/
def Gives (X : Cx) (N : List Str) (x : Str) (sg : Scope) (g : Addr) (cd : Value) (bg : List Stmt) (a : Str) (q : Str) (TT : (XK → Hp → VK → Prop) → Hp → VK → Prop) : Prop := ∀ (f c' : Addr) (s : Shared) (H : Hp) (Q : VK) (tl : XK → Hp → VK → Prop),
  (∀ (W : WX) (pn : List (Addr × Obj)) (xe : Value → Shared → Prop) (p1 p2 : Pos), Takes (inTry X N x sg g cd s H pn xe) W → PE (inTry X N x sg g cd s H pn xe) (.Call (.Name a p1) [] [] p2) (fun σZ HZ Q => σZ[0]? = some (some (.ref f)) ∧ HZ c' = some (CodeO c' q) ∧ ∃ E : XK, (∀ cls d H1, E cls d H1 → W cls d σZ H1) ∧ tl E HZ Q)) →
  H c' = some (CodeO c' q) → TT tl H Q → ∃ t, PSs (cxOf C8.CX0 X.prog X.w X.K X.mg X.base N x sg g cd X.A X.stack s H C8.E0).nox bg t ∧ t { nx := fun _ H' => Q .non H', rt := Q } (L2.start N [.ref f]) H
/-- g(lambda: body) -/
theorem pe_look {T : List (Addr × Str)} {TT : (XK → Hp → VK → Prop) → Hp → VK → Prop} {x a : Str} {g c P : Addr} {k : Nat} {pg : Arguments} {bg : List Stmt} {sg : Scope} {dV kV doc pm cd ct oc : Value} {an od : Option Addr} {osl : Array (Option Value)} {N : List Str} {ps : Arguments} {body : Expr} {sc : Scope} {t : XK → TE} {p lp pos : Pos}
    (hg : Gl X x) (mg : X.mg x = some (.ref g)) (kp : PySem.W.keepIn X.K (.ref g) = true) (lk : X.K.lookup g = some ⟨oc, od, .func (PySem.W.fnOf x x pg bg sg dV kV doc pm an cd ct), osl⟩) (cg : PySem.W.codeIn X.K cd x = true) (bd : L2.Binds X.K (PySem.W.fnOf x x pg bg sg dV kV doc pm an cd ct) [a] []) (Sg : FnScope N [a] sg) (hN0 : N[0]? = some a) (hva : Vis sg a)
    (hG : Gives X N x sg g cd bg a (X.env.qual ++ "<lambda>") TT) (TB : TabB X.base X.mg c P) (code : X.env.code = .ref c) (inT : (P, X.env.qual ++ "<lambda>") ∈ T) (oneT : ∀ p ∈ T, p.1 = P → p.2 = X.env.qual ++ "<lambda>") (room : Room (k + 2) X.A) (L : LamS X.env.scope sc) (dflt : defaultsOf ps X.env = ([], []))
    (hb0 : ∀ (q : Str) (cl : List (Str × Addr)) (pm cv ctv : Value), bindArgs (PySem.W.kla_fn "<lambda>" q ps body sc cl pm cv ctv) ⟨[], []⟩ = pure [])
    (hbody : ∀ (A : Around) (outer : List Env) (s : Shared) (H : Hp) (E : XK) (f c' : Addr), Room k (A.deeper (lamEnv X sc s.heap.objs.size f c')) → PE (lamCx X A outer s H E sc f c') body (t E)) (d0 : (x == ("__debug__" : Str)) = false) (d1 : (a == ("__debug__" : Str)) = false) (d2 : (a == ("__classdict__" : Str)) = false) :
    PE X (.Call (.Name x p) [.Lambda ps body sc lp] [] pos) (fun σ H Q => Tabs T H ∧ ∀ H1, ExtN H H1 → Tabs T H1 → TT (fun E H' Q' => t E σ H' Q') H1 Q) := by
  refine ⟨fun pins s σ H Q I z => ?_⟩
  obtain ⟨zT, z⟩ := z
  refine wpAny_Call_Name_kw (ld_glob I hg mg ?_ d0)
  refine PySem.W.callWith_K (h₀ := X.base) I.ok.mod.kin kp ?_ (by rfl) (by rfl)
  show wpAny _ _ (spliced ((false, eval (.Lambda ps body sc lp) X.env) :: backTo pos (starEach [] X.env))) _ _ s
  refine Calls.spliced_cons (lam_make2 I TB code inT oneT zT dflt (L.has I.ok) fun f c' pm' ctv H1 s1 I1 eN T1 of nf ff co => Calls.spliced_nil ⟨I1.kIn, ?_⟩)
  have ran : codeAny (model X.prog X.w) X.A (.call (.ref g) ⟨[.ref f], []⟩) (CR C8.CX0 X.stack X.prog X.w H1 s1 Q C8.E0) s1 := by
    refine run_ofS (N := N) (ps := [a]) (us := [.ref f]) (vs := [.ref f]) lk cg Sg room I1.env0 (bd s1 [.ref f] I1.kIn rfl) (.cons rfl .nil) rfl fun room2 => ?_
    obtain ⟨t', h1, h2⟩ := hG f c' s1 H1 Q (fun E H' Q' => t E σ H' Q') (fun W pn xe p1 p2 tk => lam_act (i := 0) I1 L of nf ff (hb0 _ _ _ _ _) tk room2 (fun A outer s H E room3 => hbody A outer s H E f c' room3) hN0 hva d1 d2) co (z H1 eN T1)
    exact ⟨t', h1.nox, h2⟩
  refine wpAny_call (codeAny_mono ran fun r s2 y => ?_)
  cases r with
  | error e => exact (show False from y).elim
  | ok fl =>
    cases fl with
    | ret u => exact I1.after y
    | next => exact y.elim
    | brk => exact y.elim
    | cont => exact y.elim
end
end Pv
set_option maxRecDepth 100000
set_option maxHeartbeats 2000000
set_option autoImplicit false
/-! Er6: what a look raises or tells. -/
namespace Pv
open PySem PySem.Spec PyProof.Rows L2
/-- caught, told = None, None; try: told = look() / except X as error: caught = error; return (caught, told) -/
def heardB (p1 p2 p3 p4 p5 p6 p7 p8 p9 p10 p11 p12 p13 p14 p15 p16 p17 p18 p19 p20 p21 : Pos) (k1 k2 k3 k4 k5 : Nat) : List Stmt :=
  [.Assign [.Tuple [.Name "caught" p1, .Name "told" p2] k1 p3] (.Tuple [.Constant .none k2 p4, .Constant .none k3 p5] k4 p6) p7,
   .Try [.Assign [.Name "told" p8] (.Call (.Name "look" p9) [] [] p10) p11] [.ExceptHandler (some (.Name "ClockError" p12)) (some "error") [.Assign [.Name "caught" p13] (.Name "error" p14) p15] p16] [] [] p17,
   .Return (some (.Tuple [.Name "caught" p18, .Name "told" p19] k5 p20)) p21]
/-- from the reading of the lambda's body; the pair of None stands at p0 -/
def TTh (K : PySem.W.Frag) (CE : Addr) : (XK → Hp → VK → Prop) → Hp → VK → Prop := fun tl H Q => ∀ p0, H p0 = none →
  tl (fun cls d H' => PySem.W.exmOne K cls (.ref CE) = some true ∧ ∃ d', d = some d' ∧ ∀ a, H' a = none → ∀ p, upd H' a (ExV cls d' a) p = none → Q (.ref p) (upd (upd H' a (ExV cls d' a)) p (.tup [.ref a, .non])))
    (upd H p0 (.tup [.non, .non])) (fun v H' => ∀ p, H' p = none → Q (.ref p) (upd H' p (.tup [.non, v])))
theorem PE.weak {X : Cx} {e : Expr} {t : TE} (h : PE X e t) : PE X e (fun σ H Q => ∃ Q0, t σ H Q0 ∧ ∀ v H', Q0 v H' → Q v H') := ⟨fun pins s σ H Q I z => by
  obtain ⟨Q0, z1, z2⟩ := z
  exact wpAny_mono (h.run pins s σ H Q0 I z1) (fun u s' ⟨v, H', I', r, q⟩ => ⟨v, H', I', r, z2 v H' q⟩) fun _ _ q => q⟩
theorem two_fits : 2 ≤ sizeLine := by
  rw [sizeLine_eq]
  decide
theorem heard_gives {X : Cx} {fn q : Str} {sg : Scope} {g CE : Addr} {cdg : Value} {p1 p2 p3 p4 p5 p6 p7 p8 p9 p10 p11 p12 p13 p14 p15 p16 p17 p18 p19 p20 p21 : Pos} {k1 k2 k3 k4 k5 : Nat}
    (hkind : sg.kind = .function) (hc : sg.names.lookup ("caught" : Str) = some .local) (ht : sg.names.lookup ("told" : Str) = some .local) (he : sg.names.lookup ("error" : Str) = some .local) (hx : sg.names.lookup ("ClockError" : Str) = some .globalImplicit) (mx : X.mg "ClockError" = some (.ref CE))
    (hsw : ∀ (L : Addr) (cd : Value), swappedStores [.Tuple [.Name "caught" p1, .Name "told" p2] k1 p3] (.Tuple [.Constant .none k2 p4, .Constant .none k3 p5] k4 p6) (envOfC fn sg L g cd) = pure none) :
    Gives X ["look", "caught", "told", "error"] fn sg g cdg (heardB p1 p2 p3 p4 p5 p6 p7 p8 p9 p10 p11 p12 p13 p14 p15 p16 p17 p18 p19 p20 p21 k1 k2 k3 k4 k5) "look" q (TTh X.K CE) := by
  intro f c' s H Q tl act hco h
  have hN : (["look", "caught", "told", "error"] : List Str).Nodup := by decide
  obtain ⟨sk, sn, sgen, sco, smore⟩ := sg
  obtain rfl : sk = .function := hkind
  have hgl : Gl (cxOf C8.CX0 X.prog X.w X.K X.mg X.base ["look", "caught", "told", "error"] fn ⟨.function, sn, sgen, sco, smore⟩ g cdg X.A X.stack s H C8.E0).nox "ClockError" := hx
  refine ⟨_, pss_cons (ps_asg (pe_tup (pa_cons pe_non (pa_cons pe_non pa_nil rfl) rfl)) (pg_tup rfl (pgs_cons (pg_name (i := 1) hN rfl (.inl hc) (.inr hc)) (pgs_cons (pg_name (i := 2) hN rfl (.inl ht) (.inr ht)) pgs_nil rfl) rfl) rfl rfl) rfl (hsw _ _) rfl)
    (pss_cons (ps_try_trk (X := (cxOf C8.CX0 X.prog X.w X.K X.mg X.base ["look", "caught", "told", "error"] fn ⟨.function, sn, sgen, sco, smore⟩ g cdg X.A X.stack s H C8.E0).nox) (i := 3) (c := .ref CE)
      (tb := fun W D σ H => ∃ Ech Q0, (∀ cls d H', Ech cls d H' → W cls d σ H') ∧ (σ[0]? = some (some (.ref f)) ∧ H c' = some (LamX.CodeO c' q) ∧ tl Ech H Q0) ∧ ∀ v H', Q0 v H' → D.nx (σ.set 2 (some v)) H')
      (ts := tAsg (tVar 3) (gName 1)) rfl rfl rfl hN rfl he ⟨hgl, by decide, .inl mx⟩ (fun W pn xe tk _ => ?_) (fun a oe pn => pss_one (ps_set (i := 1) hN rfl (.inl hc) (pe_var rfl (.inl he)) rfl (.inr hc))))
      (pss_one (ps_ret (pe_tup (pa_cons (pe_var (i := 1) rfl (.inl hc)) (pa_cons (pe_var (i := 2) rfl (.inl ht)) pa_nil rfl) rfl))))), ?_⟩
  · refine ⟨fun pins s' σ H' D I h' => ?_⟩
    obtain ⟨Ech, Q0, hW, ⟨h1, h2, h3⟩, h4⟩ := h'
    have hp := PE.weak (act W pn xe p9 p10 tk)
    exact (pss_one (ps_set (i := 2) hN rfl (.inl ht) hp rfl (.inr ht))).run pins s' σ H' D I ⟨Q0, ⟨h1, h2, Ech, hW, h3⟩, h4⟩
  · refine ⟨two_fits, fun p hp => ⟨p, _, rfl, SqT.of upd_same, rfl, V.non, _, rfl, V.non, _, rfl, rfl, ?_⟩⟩
    refine ⟨_, _, fun cls d H' z => ?_, ⟨rfl, by rw [upd_ne (ne_of_none hco hp)]; exact hco, h p hp⟩, fun v H' z => ?_⟩
    · obtain ⟨z1, d', rfl, z2⟩ := z
      exact ⟨z1, d', rfl, fun a ha => ⟨.ref a, rfl, fun hn => ⟨_, rfl, _, rfl, two_fits, z2 a ha⟩⟩⟩
    · exact ⟨_, rfl, _, rfl, two_fits, z⟩
/-- .. by functions of plain values -/
def eHeard (f : EF) : EF := fun E m => match f E m with
  | .ok x m1 => .ok (.tup [.non, x]) m1
  | .exc c v m1 => .ok (.tup [.exc c v, .non]) m1
  | .bad => .bad
section
variable {X : Cx} {G : Gc} {W : WX}
theorem heard_of {f : EF} {CE : Addr} (hm : ∀ c, PySem.W.exmOne X.K (.ref (G.ca c)) (.ref CE) = some true) {σ : L2.St} {H : Hp} {Q : VK} (z : tE X.K G W (eHeard f) σ H Q) :
    LamX.Tabs G.T H ∧ ∀ H1, LamX.ExtN H H1 → LamX.Tabs G.T H1 → TTh X.K CE (fun E H' Q' => tE X.K G (WB E) f σ H' Q') H1 Q := by
  obtain ⟨E, m, w, rfl, R, re, _, z⟩ := z
  refine ⟨R.tabs, fun H1 eN T1 p0 hp0 => ?_⟩
  have nt : ∀ {a : Addr} {vs : List V}, w.H a = some (.lst vs) → H1 a = some (.lst vs) := fun {a vs} h => eN a _ h fun _ y => nomatch y
  have x1 : ExtE w { w with H := H1 } := ⟨⟨fun a o h _ _ h3 => eN a o h h3, fun _ h => h, ⟨[], (List.append_nil _).symm⟩, fun a vs h => ⟨vs, nt h⟩⟩, fun a vs h => ⟨nt h.at_, h.nf, h.nr⟩⟩
  have R1 : RM X.K G { w with H := H1 } m := ⟨R.len, R.nd, fun n a xs h1 h2 => by
    obtain ⟨vs, e, r⟩ := R.at_ n a xs h1 h2
    exact ⟨vs, nt e, x1.toExt.rvs R _ _ r⟩, R.nf, fun a h => by
    obtain ⟨vs, e⟩ := R.fl a h
    exact ⟨vs, nt e⟩, T1⟩
  have x2 : ExtE { w with H := H1 } (({ w with H := H1 } : Wd).put p0 (.tup [.non, .non])) := ExtE.put hp0
  have R2 : RM X.K G (({ w with H := H1 } : Wd).put p0 (.tup [.non, .non])) m := R1.put hp0
  have x12 := ExtE.trans R R1 x1 x2
  refine ⟨E, m, _, rfl, R2, x12.re R re, trivial, ?_⟩
  have z1 : fin (RV X.K G) X.K G W w σ Q (match f E m with
    | .ok x m1 => .ok (.tup [.non, x]) m1
    | .exc c v m1 => .ok (.tup [.exc c v, .non]) m1
    | .bad => .bad) := z
  show fin (RV X.K G) X.K G (WB _) _ σ _ (f E m)
  cases q : f E m with
  | bad => rw [q] at z1; exact z1
  | ok x m1 =>
    rw [q] at z1
    intro v w3 x3 R3 r3 p hp
    have b : Behind X.K G w m1 (.tup [.non, x]) Q := z1
    obtain ⟨w4, e4, x4, R4, r4⟩ := tupNew R3 hp (RVs.cons (rv_non.mpr rfl) (RVs.one r3))
    rw [← e4]
    exact b _ w4 (ExtE.trans R R3 (ExtE.trans R R2 x12 x3) x4) R4 r4
  | exc c x m1 =>
    rw [q] at z1
    intro d y w3 x3 R3 h1 h2
    refine ⟨hm c, d, rfl, fun a ha p hp => ?_⟩
    have b : Behind X.K G w m1 (.tup [.exc c x, .non]) Q := z1
    have R4 : RM X.K G (w3.put a (ExV (.ref (G.ca c)) d a)) m1 := R3.put ha
    have x4 : ExtE w3 (w3.put a (ExV (.ref (G.ca c)) d a)) := ExtE.put ha
    have r4 : RV X.K G (w3.put a (ExV (.ref (G.ca c)) d a)) (.exc c x) (.ref a) := rv_exc.mpr ⟨a, d, y, rfl, upd_same, by
      show upd w3.H a _ d = _
      rw [upd_ne (ne_of_none h1 ha)]
      exact h1, x4.toExt.rv R3 _ _ h2⟩
    obtain ⟨w5, e5, x5, R5, r5⟩ := tupNew R4 hp (RVs.cons r4 (RVs.one (rv_non.mpr rfl)))
    show Q (.ref p) (upd (w3.put a (ExV (.ref (G.ca c)) d a)).H p _)
    rw [← e5]
    exact b _ w5 (ExtE.trans R R4 (ExtE.trans R R3 (ExtE.trans R R2 x12 x3) x4) x5) R5 r5
end
end Pv
set_option maxRecDepth 100000
set_option maxHeartbeats 2000000
set_option autoImplicit false
/-! Er7: defs by name; what else a text needs. -/
namespace Pv
open PySem PySem.Spec PyProof.Rows L2
/-- the def named x does F -/
structure DefOk (P : Program) (w : World) (K : PySem.W.Frag) (mg : Str → Option Value) (base : Heap) (G : Gc) (x : Str) (k n : Nat) (F : FF) : Prop where
  ex : ∃ (f : Addr) (fd : FuncData) (ps : List Str), mg x = some (.ref f) ∧ PySem.W.keepIn K (.ref f) = true ∧ Binds K fd ps [] ∧ FnOk P w K mg base (L2.CX P w) k f fd ps (spF K G n F)
structure DefG (P : Program) (w : World) (K : PySem.W.Frag) (mg : Str → Option Value) (base : Heap) (G : Gc) (x : Str) (k n : Nat) (F : FF) : Prop where
  ex : ∃ (f : Addr) (fd : FuncData) (ps : List Str), mg x = some (.ref f) ∧ PySem.W.keepIn K (.ref f) = true ∧ Binds K fd ps [] ∧ FnG P w K mg base (L2.CX P w) k f fd ps (spF K G n F)
/-- what the head tells of a def that st makes -/
structure Def1 (K : PySem.W.Frag) (mg : Str → Option Value) (x : Str) (st : Stmt) : Prop where
  ex : ∃ (f : Addr) (fd : FuncData), mg x = some (.ref f) ∧ FunD K x x (defArgs st) (defBody st) (defScope st) [] [] f fd
section
variable {P : Program} {w : World} {K : PySem.W.Frag} {mg : Str → Option Value} {base : Heap} {G : Gc} {x : Str} {st : Stmt} {N ps : List Str} {k : Nat} {g : SF}
theorem Def1.ok (D : Def1 K mg x st) (S : FnScope N ps (defScope st)) (hbind : ∀ (kV doc pm : Value) (an : Option Addr) (cdv ct : Value) (us : List Value), us.length = ps.length → bindArgs (PySem.W.fnOf x x (defArgs st) (defBody st) (defScope st) .none kV doc pm an cdv ct) ⟨us, []⟩ = pure (ps.zip us))
    (hb : ∀ (f : Addr) (cdv : Value) (A : Around) (outer : List Env) (s : Shared) (H : Hp) (E : XK), Room k (A.deeper (envOfC x (defScope st) s.heap.objs.size f cdv)) → PSs (cxOf (L2.CX P w) P w K mg base N x (defScope st) f cdv A outer s H E) (defBody st) (tS K G (WB E) g)) :
    DefOk P w K mg base G x (k + 1) ps.length (bodyF N.length g) := by
  obtain ⟨f, fd, m, F⟩ := D.ex
  exact ⟨f, fd, ps, m, F.kp, F.bindsN hbind, def_ok F S fun cdv A outer s H E hr => hb f cdv A outer s H E hr⟩
/-- .. with what is told of its code object -/
theorem Def1.okC (D : Def1 K mg x st) (S : FnScope N ps (defScope st)) (hbind : ∀ (kV doc pm : Value) (an : Option Addr) (cdv ct : Value) (us : List Value), us.length = ps.length → bindArgs (PySem.W.fnOf x x (defArgs st) (defBody st) (defScope st) .none kV doc pm an cdv ct) ⟨us, []⟩ = pure (ps.zip us))
    {c Pt : Addr} (hcode : ∀ (f : Addr) (fd : FuncData), mg x = some (.ref f) → (∃ (oc : Value) (od : Option Addr) (osl : Array (Option Value)), K.lookup f = some ⟨oc, od, .func fd, osl⟩) → fd.code = .ref c) (TB : LamX.TabB base mg c Pt)
    (hb : ∀ (f : Addr) (A : Around) (outer : List Env) (s : Shared) (H : Hp) (E : XK), Room k (A.deeper (envOfC x (defScope st) s.heap.objs.size f (.ref c))) → PSs (cxOf (L2.CX P w) P w K mg base N x (defScope st) f (.ref c) A outer s H E) (defBody st) (tS K G (WB E) g)) :
    DefOk P w K mg base G x (k + 1) ps.length (bodyF N.length g) := by
  obtain ⟨f, fd, m, F⟩ := D.ex
  obtain ⟨oc, od, dV, kV, doc, pm, an, cdv, ct, osl, e, lk, hcd, _, _⟩ := id F.ex
  have e2 : cdv = .ref c := by
    have q := hcode f fd m ⟨oc, od, osl, lk⟩
    rw [e] at q
    exact q
  subst e2
  exact ⟨f, fd, ps, m, F.kp, F.bindsN hbind, def_okC ⟨oc, od, dV, kV, doc, pm, an, ct, osl, e, lk, hcd⟩ S fun A outer s H E hr => hb f A outer s H E hr⟩
theorem Def1.okG (D : Def1 K mg x st) (S : FnScope N ps (defScope st)) (hbind : ∀ (kV doc pm : Value) (an : Option Addr) (cdv ct : Value) (us : List Value), us.length = ps.length → bindArgs (PySem.W.fnOf x x (defArgs st) (defBody st) (defScope st) .none kV doc pm an cdv ct) ⟨us, []⟩ = pure (ps.zip us))
    {c Pt : Addr} (hcode : ∀ (f : Addr) (fd : FuncData), mg x = some (.ref f) → (∃ (oc : Value) (od : Option Addr) (osl : Array (Option Value)), K.lookup f = some ⟨oc, od, .func fd, osl⟩) → fd.code = .ref c) (TB : LamX.TabB base mg c Pt)
    (hb : ∀ (f : Addr) (A : Around) (outer : List Env) (s : Shared) (H : Hp) (E : XK), A.guards = some [] → Room k (A.deeper (envOfC x (defScope st) s.heap.objs.size f (.ref c))) → PSs (cxOf (L2.CX P w) P w K mg base N x (defScope st) f (.ref c) A outer s H E) (defBody st) (tS K G (WB E) g)) :
    DefG P w K mg base G x (k + 1) ps.length (bodyF N.length g) := by
  obtain ⟨f, fd, m, F⟩ := D.ex
  obtain ⟨oc, od, dV, kV, doc, pm, an, cdv, ct, osl, e, lk, hcd, _, _⟩ := id F.ex
  have e2 : cdv = .ref c := by
    have q := hcode f fd m ⟨oc, od, osl, lk⟩
    rw [e] at q
    exact q
  subst e2
  exact ⟨f, fd, ps, m, F.kp, F.bindsN hbind, def_okG ⟨oc, od, dV, kV, doc, pm, an, ct, osl, e, lk, hcd⟩ S fun A outer s H E hg hr => hb f A outer s H E hg hr⟩
/-- .. without lambdas, nothing guarded -/
theorem Def1.okG0 (D : Def1 K mg x st) (S : FnScope N ps (defScope st)) (hbind : ∀ (kV doc pm : Value) (an : Option Addr) (cdv ct : Value) (us : List Value), us.length = ps.length → bindArgs (PySem.W.fnOf x x (defArgs st) (defBody st) (defScope st) .none kV doc pm an cdv ct) ⟨us, []⟩ = pure (ps.zip us))
    (hb : ∀ (f : Addr) (cdv : Value) (A : Around) (outer : List Env) (s : Shared) (H : Hp) (E : XK), A.guards = some [] → Room k (A.deeper (envOfC x (defScope st) s.heap.objs.size f cdv)) → PSs (cxOf (L2.CX P w) P w K mg base N x (defScope st) f cdv A outer s H E) (defBody st) (tS K G (WB E) g)) :
    DefG P w K mg base G x (k + 1) ps.length (bodyF N.length g) := by
  obtain ⟨f, fd, m, F⟩ := D.ex
  obtain ⟨oc, od, dV, kV, doc, pm, an, cdv, ct, osl, e, lk, hcd, _, _⟩ := id F.ex
  exact ⟨f, fd, ps, m, F.kp, F.bindsN hbind, def_okG ⟨oc, od, dV, kV, doc, pm, an, ct, osl, e, lk, hcd⟩ S fun A outer s H E hg hr => hb f cdv A outer s H E hg hr⟩
end
section
variable {X : Cx} {G : Gc} {W : WX} {pos p : Pos} {e : Expr} {es : List Expr} {x : Str} {k n : Nat} {F : FF} {fa : AF} {f : EF}
theorem je_callD (D : DefOk X.prog X.w X.K X.mg X.base G x k n F) (hr : Room k X.A) (hg : Gl X x) (tk : Takes X W) (ha : PA X (e :: es) (tA X.K G W fa)) (hdb : (x == ("__debug__" : Str)) = false := by decide) (he : starEach (e :: es) X.env = (false, eval e X.env) :: starEach es X.env := by rfl) (hpl : (backTo pos (starEach es X.env)).any (·.1) = false := by rfl) :
    PE X (.Call (.Name x p) (e :: es) [] pos) (tE X.K G W (eF n F fa)) := by
  obtain ⟨f, fd, ps, m, kp, b, FO⟩ := D.ex
  exact je_call FO hr hg m kp b tk ha hdb he hpl
theorem je_callDG (D : DefG X.prog X.w X.K X.mg X.base G x k n F) (gu : X.A.guards = some []) (hr : Room k X.A) (hg : Gl X x) (tk : Takes X W) (ha : PA X (e :: es) (tA X.K G W fa)) (hdb : (x == ("__debug__" : Str)) = false := by decide) (he : starEach (e :: es) X.env = (false, eval e X.env) :: starEach es X.env := by rfl) (hpl : (backTo pos (starEach es X.env)).any (·.1) = false := by rfl) :
    PE X (.Call (.Name x p) (e :: es) [] pos) (tE X.K G W (eF n F fa)) := by
  obtain ⟨f, fd, ps, m, kp, b, FO⟩ := D.ex
  exact je_callG FO gu hr hg m kp b tk ha hdb he hpl
/-- a built-in function, type -/
theorem je_fn {id : String} {r : List V → Hp → VK → Prop} {op : OpN} (hc : CallR X (.builtin id) r) (hs : OpNS X.K G r op) (hg : Gl X x) (hm : X.mg x = none) (ha : PA X (e :: es) (tA X.K G W fa)) (hv : bootBuiltins x = some (.builtin id) := by decide +kernel) (hn : x ≠ "__name__" := by decide) (hdb : (x == ("__debug__" : Str)) = false := by decide)
    (he : starEach (e :: es) X.env = (false, eval e X.env) :: starEach es X.env := by rfl) (hpl : (backTo pos (starEach es X.env)).any (·.1) = false := by rfl) : PE X (.Call (.Name x p) (e :: es) [] pos) (tE X.K G W (eN op fa)) := je_callB hc hs hg hm hv ha hn hdb he hpl
theorem je_ty {T : String} {r : List V → Hp → VK → Prop} {op : OpN} (hc : CallR X (.type T) r) (hs : OpNS X.K G r op) (hg : Gl X x) (hm : X.mg x = none) (ha : PA X (e :: es) (tA X.K G W fa)) (hv : bootBuiltins x = some (.type T) := by decide +kernel) (hn : x ≠ "__name__" := by decide) (hdb : (x == ("__debug__" : Str)) = false := by decide)
    (he : starEach (e :: es) X.env = (false, eval e X.env) :: starEach es X.env := by rfl) (hpl : (backTo pos (starEach es X.env)).any (·.1) = false := by rfl) : PE X (.Call (.Name x p) (e :: es) [] pos) (tE X.K G W (eN op fa)) := je_callTy hc hs hg hm hv ha hn hdb he hpl
theorem ja_c {a : Expr} (ha : PE X a (tE X.K G W f)) (hr : PA X es (tA X.K G W fa)) (hs : starEach (a :: es) X.env = (false, eval a X.env) :: starEach es X.env := by rfl) : PA X (a :: es) (tA X.K G W (aCons f fa)) := ja_cons ha hr hs
/-- constants of the module -/
theorem je_gint {i : Int} (h : ∃ t, X.mg x = some (.int i t)) (hg : Gl X x) (hd : (x == ("__debug__" : Str)) = false := by decide) : PE X (.Name x pos) (tE X.K G W (eC (.int i))) := by
  obtain ⟨t, h⟩ := h
  exact je_const (pe_glob (v := .int i) hg h ⟨t, rfl⟩ hd) fun _ => rv_int.mpr rfl
theorem je_gval {y : PV} {a : Addr} (h : X.mg x = some (.ref a)) (hy : ∀ w, RV X.K G w y (.ref a)) (hg : Gl X x) (hd : (x == ("__debug__" : Str)) = false := by decide) : PE X (.Name x pos) (tE X.K G W (eC y)) := je_const (pe_glob (v := .ref a) hg h rfl hd) hy
/-- the tests of a comprehension -/
def tYesF : TF := fun _ m => .ok true m
theorem jts_nil : PTs X [] (tT X.K G W tYesF) := ⟨fun pins s σ H Q I z => pts_nil.run pins s σ H Q I (by
  obtain ⟨E, m, w, rfl, R, re, _, q⟩ := z
  exact q true w ExtE.refl R rfl)⟩
theorem jts_one {c : Expr} {t : TF} (h : PT X c (tT X.K G W t)) : PTs X [c] (tT X.K G W t) := pts_one h
theorem jt_t {a : Expr} (ha : PE X a (tE X.K G W f)) (he : ∀ whole, isTrue a X.env whole = (do let v ← whole; standAt a.pos; holding [v] (truthy v)) := by intro _; rfl) : PT X a (tT X.K G W (tV f)) := jt_tru ha he
/-- a.split(b) -/
def strP : PV → Option Str
  | .str a => some a
  | _ => none
def pSplit (a : Str) (y : PV) : Option PV := match y with
  | .str b => if (b.length == 0) = false ∧ a.length + 2 ≤ sizeLine then some (.lst ((Txt.split a b).map .str)) else none
  | _ => none
def eSplit (f g : EF) : EF := fun E m => (f E m).bind fun x m1 => (Res.of (strP x) m1).bind fun a m2 => (g E m2).bind fun y m3 => Res.of (pSplit a y) m3
theorem strP_of {K : PySem.W.Frag} {w : Wd} {x : PV} {v : V} {a : Str} (r : RV K G w x v) (h : strP x = some a) : v = .str a := by
  cases x with
  | str b =>
    cases h
    rwa [rv_str] at r
  | _ => cases h
theorem strs_rvs {K : PySem.W.Frag} {w : Wd} : ∀ (ys : List Str), RVs K G w (ys.map .str) (ys.map V.str)
  | [] => RVs.nil
  | y :: ys => RVs.cons (rv_str.mpr rfl) (strs_rvs ys)
theorem je_split {o a : Expr} {g : EF} {apos : Pos} (ho : PE X o (tE X.K G W f)) (ha : PE X a (tE X.K G W g)) (he : starEach [a] X.env = (false, eval a X.env) :: starEach [] X.env := by rfl) (hbase : attributeBase o "split" X.env (eval o X.env) = eval o X.env := by rfl)
    (hfew : ((backTo pos (starEach [a] X.env)).all (fun x => !x.1) && (backToKw pos (keywordEach [] X.env)).all (fun x => x.1.isSome) && decide ([a].length + ([] : List Keyword).length + (if ([] : List Keyword).isEmpty then 0 else 1) < 30)) = true := by rfl) (hline : (apos.endLine == pos.line) = true := by rfl) (hpl : (backTo pos (starEach [] X.env)).any (·.1) = false := by rfl) :
    PE X (.Call (.Attribute o "split" apos) [a] [] pos) (tE X.K G W (eSplit f g)) :=
  PE.imp (pe_bm PySem.F.plainAttrs_str PySem.F.slot_str_split PySem.F.type_str_split mt_split ho (pa_cons ha pa_nil he) hbase hfew hline he hpl) fun σ H Q z =>
    (tX.bind (rel := RV X.K G) (rel' := RV X.K G) (f := f) (g := fun E x m1 => (Res.of (strP x) m1).bind fun a m2 => (g E m2).bind fun y m3 => Res.of (pSplit a y) m3) mono_true z).imp fun v H1 ⟨x, z1⟩ => by
      obtain ⟨E, m, w, rfl, R, re, ⟨_, r⟩, z2⟩ := z1
      cases o : strP x with
      | none => rw [o] at z2; exact z2.elim
      | some a =>
        rw [o] at z2
        obtain rfl := strP_of r o
        refine ⟨rfl, ?_⟩
        have z3 : At X.K G σ w.H (fun _ => True) fun E m w => fin (RV X.K G) X.K G W w σ Q ((g E m).bind fun y m3 => Res.of (pSplit a y) m3) := ⟨E, m, w, rfl, R, re, trivial, z2⟩
        refine (tX.bind (rel := RV X.K G) (rel' := RV X.K G) (f := g) (g := fun _ y m3 => Res.of (pSplit a y) m3) mono_true z3).imp fun u H2 ⟨y, z4⟩ => ?_
        obtain ⟨E, m, w, rfl, R, re, ⟨_, r2⟩, z5⟩ := z4
        cases o2 : pSplit a y with
        | none => rw [o2] at z5; exact z5.elim
        | some t =>
          rw [o2] at z5
          unfold pSplit at o2
          split at o2
          · split at o2
            · rename_i b hc
              cases o2
              rw [rv_str] at r2
              subst r2
              have bh : Behind X.K G w m (.lst ((Txt.split a b).map .str)) Q := z5
              exact ⟨a, b, rfl, rfl, hc.1, hc.2, fun p hp => bh.lst R (strs_rvs _) p hp⟩
            · cases o2
          · cases o2
end
end Pv
set_option maxRecDepth 100000
set_option maxHeartbeats 2000000
set_option autoImplicit false
/-! Er8: _law_heard(lambda: ..). -/
namespace Pv
open PySem PySem.Spec PyProof.Rows L2
structure Hear (K : PySem.W.Frag) (mg : Str → Option Value) (G : Gc) : Prop where
  ex : ∃ (g : Addr) (oc : Value) (od : Option Addr) (dV kV doc pm : Value) (an : Option Addr) (cd ct : Value) (osl : Array (Option Value)) (pg : Arguments) (bg : List Stmt) (sg : Scope) (CE : Addr),
    mg "_law_heard" = some (.ref g) ∧ PySem.W.keepIn K (.ref g) = true ∧ K.lookup g = some ⟨oc, od, .func (PySem.W.fnOf "_law_heard" "_law_heard" pg bg sg dV kV doc pm an cd ct), osl⟩ ∧ PySem.W.codeIn K cd "_law_heard" = true ∧ L2.Binds K (PySem.W.fnOf "_law_heard" "_law_heard" pg bg sg dV kV doc pm an cd ct) ["look"] [] ∧
    FnScope ["look", "caught", "told", "error"] ["look"] sg ∧ Vis sg "look" ∧ (∀ c, PySem.W.exmOne K (.ref (G.ca c)) (.ref CE) = some true) ∧ ∀ (X : Cx) (q : Str), X.K = K → X.mg = mg → Gives X ["look", "caught", "told", "error"] "_law_heard" sg g cd bg "look" q (TTh X.K CE)
theorem hear_of {K : PySem.W.Frag} {mg : Str → Option Value} {G : Gc} {st : Stmt} {CE : Addr} {p1 p2 p3 p4 p5 p6 p7 p8 p9 p10 p11 p12 p13 p14 p15 p16 p17 p18 p19 p20 p21 : Pos} {k1 k2 k3 k4 k5 : Nat} (D : Def1 K mg "_law_heard" st) (hB : defBody st = heardB p1 p2 p3 p4 p5 p6 p7 p8 p9 p10 p11 p12 p13 p14 p15 p16 p17 p18 p19 p20 p21 k1 k2 k3 k4 k5)
    (Sg : FnScope ["look", "caught", "told", "error"] ["look"] (defScope st)) (hbind : ∀ (kV doc pm : Value) (an : Option Addr) (cdv ct : Value) (us : List Value), us.length = (["look"] : List Str).length → bindArgs (PySem.W.fnOf "_law_heard" "_law_heard" (defArgs st) (defBody st) (defScope st) .none kV doc pm an cdv ct) ⟨us, []⟩ = pure ((["look"] : List Str).zip us))
    (hc : (defScope st).names.lookup ("caught" : Str) = some .local) (ht : (defScope st).names.lookup ("told" : Str) = some .local) (he : (defScope st).names.lookup ("error" : Str) = some .local) (hl : (defScope st).names.lookup ("look" : Str) = some .local) (hx : (defScope st).names.lookup ("ClockError" : Str) = some .globalImplicit) (mx : mg "ClockError" = some (.ref CE)) (hm : ∀ c, PySem.W.exmOne K (.ref (G.ca c)) (.ref CE) = some true)
    (hsw : ∀ (g L : Addr) (cd : Value), swappedStores [.Tuple [.Name "caught" p1, .Name "told" p2] k1 p3] (.Tuple [.Constant .none k2 p4, .Constant .none k3 p5] k4 p6) (envOfC "_law_heard" (defScope st) L g cd) = pure none) : Hear K mg G := by
  obtain ⟨g, fd, m, F⟩ := D.ex
  have b := F.bindsN hbind
  have kp := F.kp
  obtain ⟨oc, od, dV, kV, doc, pm, an, cdv, ct, osl, rfl, lk, hcd, _, _⟩ := F.ex
  exact ⟨g, oc, od, dV, kV, doc, pm, an, cdv, ct, osl, _, _, _, CE, m, kp, lk, hcd, b, Sg, .inl hl, hm, fun X q hK hM => by
    subst hK
    subst hM
    rw [hB]
    exact heard_gives Sg.kind hc ht he hx mx (hsw g)⟩
section
variable {X : Cx} {G : Gc} {W : WX} {pos p lp : Pos} {ps : Arguments} {body : Expr} {sc : Scope} {f : EF} {c Pt : Addr} {k : Nat}
theorem je_hear {q : Str} (Hh : Hear X.K X.mg G) (hg : Gl X "_law_heard") (TB : LamX.TabB X.base X.mg c Pt) (code : X.env.code = .ref c) (inT : (Pt, q ++ "<lambda>") ∈ G.T) (oneT : ∀ p ∈ G.T, p.1 = Pt → p.2 = q ++ "<lambda>") (room : Room (k + 2) X.A) (L : LamX.LamS X.env.scope sc)
    (hbody : ∀ (A : Around) (outer : List Env) (s : Shared) (H : Hp) (E : XK) (f' c' : Addr), Room k (A.deeper (LamX.lamEnv X sc s.heap.objs.size f' c')) → Takes (LamX.lamCx X A outer s H E sc f' c') (WB E) → PE (LamX.lamCx X A outer s H E sc f' c') body (tE X.K G (WB E) f)) (dflt : defaultsOf ps X.env = ([], []) := by rfl)
    (hb0 : ∀ (q : Str) (cl : List (Str × Addr)) (pm cv ctv : Value), bindArgs (PySem.W.kla_fn "<lambda>" q ps body sc cl pm cv ctv) ⟨[], []⟩ = pure [] := by intro _ _ _ _ _; rfl) (hq : X.env.qual = q := by rfl) :
    PE X (.Call (.Name "_law_heard" p) [.Lambda ps body sc lp] [] pos) (tE X.K G W (eHeard f)) := by
  obtain ⟨g, oc, od, dV, kV, doc, pm, an, cd, ct, osl, pg, bg, sg, CE, m, kp, lk, hcd, b, Sg, vl, hm, gives⟩ := Hh.ex
  subst hq
  exact PE.imp (pe_look (T := G.T) (t := fun E => tE X.K G (WB E) f) hg m kp lk hcd b Sg rfl vl (gives X _ rfl rfl) TB code inT oneT room L dflt hb0 (fun A outer s H E f' c' hr => hbody A outer s H E f' c' hr (takes_of rfl rfl rfl rfl)) (by decide) (by decide) (by decide)) fun σ H Q z => heard_of hm z
end
end Pv
set_option maxRecDepth 100000
set_option maxHeartbeats 2000000
set_option autoImplicit false
/-! Er9: the rules, their side conditions by computing. -/
namespace Pv
open PySem PySem.Spec PyProof.Rows L2
theorem hu4 {k : Nat} {A : Around} (r : Room k A) : A.units + 64 < cLine := by have := r.un; omega
theorem hu5 {k : Nat} {A : Around} (r : Room k A) : A.units + 65 < cLine := by have := r.un; omega
section
variable {X : Cx} {G : Gc} {W : WX} {pos pos' p2 : Pos} {e a b c iter elt tg : Expr} {es ifs : List Expr} {f g h : EF} {fa fi : AF} {t p q : TF} {x : Str} {i : Nat} {is : List Nat} {gf : GF} {scope : Scope} {own : List (Str × Nat)} {body s1 s2 rest : List Stmt} {u v : SF} {st : Stmt}
/-- names -/
theorem n_ (i : Nat) (hN : X.N[i]? = some x := by rfl) (hv : Vis X.env.scope x := by first | exact Or.inl rfl | exact Or.inr (Or.inl rfl) | exact Or.inr (Or.inr rfl)) (hd : (x == ("__debug__" : Str)) = false := by decide) (hcd : (x == ("__classdict__" : Str)) = false := by decide) : PE X (.Name x pos) (tE X.K G W (eV i)) := je_var (pe_var hN hv hd hcd)
theorem ix_ (ha : PE X a (tE X.K G W f)) (hb : PE X b (tE X.K G W g)) (hx : PlainIx b := by intro _ _; rfl) : PE X (.Subscript a b pos) (tE X.K G W (e2 pIx f g)) := je_ix ix_seq sIx ha hb hx
theorem cm_ {op : CmpOp} {r : R2} {o : Op2} (hop : OpR X (compareOp op) r) (hs : Op2S X.K G r o) (ha : PE X a (tE X.K G W f)) (hb : PE X b (tE X.K G W g)) (hm : behindInMarks op b = false := by rfl) : PE X (.Compare a [op] [b] pos) (tE X.K G W (e2 o f g)) := je_cmp hop hs ha hb hm
theorem ch_ {op op' : CmpOp} {r r' : R2} {o o' : Op2} (hop : OpR X (compareOp op) r) (hop' : OpR X (compareOp op') r') (hs : Op2S X.K G r o) (hs' : Op2S X.K G r' o') (ha : PE X a (tE X.K G W f)) (hb : PE X b (tE X.K G W g)) (hc : PE X c (tE X.K G W h)) (hm : lastMarks [op, op'] [b, c] = false := by rfl) : PE X (.Compare a [op, op'] [b, c] pos) (tE X.K G W (e3 o o' f g h)) := je_chain hop hop' hs hs' ha hb hc hm
theorem tcm_ {op : CmpOp} {r : R2} {o : Op2} (hop : OpR X (compareOp op) r) (hs : Op2S X.K G r o) (ha : PE X a (tE X.K G W f)) (hb : PE X b (tE X.K G W g)) (hm : behindInMarks op b = false := by rfl) : PT X (.Compare a [op] [b] pos) (tT X.K G W (tB (e2 o f g))) := jt_cmp hop hs ha hb hm
theorem tch_ {op op' : CmpOp} {r r' : R2} {o o' : Op2} (hop : OpR X (compareOp op) r) (hop' : OpR X (compareOp op') r') (hs : Op2S X.K G r o) (hs' : Op2S X.K G r' o') (ha : PE X a (tE X.K G W f)) (hb : PE X b (tE X.K G W g)) (hc : PE X c (tE X.K G W h)) (hm : lastMarks [op, op'] [b, c] = false := by rfl) : PT X (.Compare a [op, op'] [b, c] pos) (tT X.K G W (tB (e3 o o' f g h))) := jt_chain hop hop' hs hs' ha hb hc hm
theorem isi_ {T : String} {y : Str} (ha : PE X a (tE X.K G W f)) (hg : Gl X "isinstance") (hm : X.mg "isinstance" = none) (hgT : Gl X y) (hmT : X.mg y = none) {p1 : Pos} (hv : bootBuiltins y = some (.type T) := by decide +kernel) (hn : y ≠ "__name__" := by decide) (hdb : (y == ("__debug__" : Str)) = false := by decide)
    (he : starEach [a, .Name y p2] X.env = (false, eval a X.env) :: starEach [.Name y p2] X.env := by rfl) (he2 : starEach [.Name y p2] X.env = (false, eval (.Name y p2) X.env) :: starEach [] X.env := by rfl) (hpl : (backTo pos (starEach [.Name y p2] X.env)).any (·.1) = false := by rfl) :
    PE X (.Call (.Name "isinstance" p1) [a, .Name y p2] [] pos) (tE X.K G W (e1 (pIsi T) f)) := je_isi hg hm hgT hmT hv ha hn hdb he he2 hpl
theorem isx_ {k : Nat} {y : Str} (ha : PE X a (tE X.K G W f)) (hg : Gl X "isinstance") (hm : X.mg "isinstance" = none) (hgC : Gl X y) (hmC : X.mg y = some (.ref (G.ca k))) {p1 : Pos} (hdb : (y == ("__debug__" : Str)) = false := by decide)
    (he : starEach [a, .Name y p2] X.env = (false, eval a X.env) :: starEach [.Name y p2] X.env := by rfl) (he2 : starEach [.Name y p2] X.env = (false, eval (.Name y p2) X.env) :: starEach [] X.env := by rfl) (hpl : (backTo pos (starEach [.Name y p2] X.env)).any (·.1) = false := by rfl) :
    PE X (.Call (.Name "isinstance" p1) [a, .Name y p2] [] pos) (tE X.K G W (e1 (pIsX k) f)) := je_isX hg hm hgC hmC ha hdb he he2 hpl
theorem val_ {D fI : Addr} (hT : ∀ c, Er.CT X.K D fI (G.ca c)) (he : PE X e (tE X.K G W f)) (hb : attributeBase e "value" X.env (eval e X.env) = eval e X.env := by rfl) : PE X (.Attribute e "value" pos) (tE X.K G W (e1 pVal f)) := je_value hT he hb
theorem lr_ {p1 p3 : Pos} (hc : X.calm = true) (ha : PE X a (tE X.K G W f)) (hgl : Gl X "list") (hml : X.mg "list" = none) (hg : Gl X "range") (hm : X.mg "range" = none) (na : starEach [a] X.env = (false, eval a X.env) :: starEach [] X.env := by rfl)
    (nb : starEach [.Call (.Name "range" p1) [a] [] p2] X.env = (false, eval (.Call (.Name "range" p1) [a] [] p2) X.env) :: starEach [] X.env := by rfl) : PE X (.Call (.Name "list" p3) [.Call (.Name "range" p1) [a] [] p2] [] pos) (tE X.K G W (e1 (fun x m => pRg1 [x] m) f)) := je_listRg1 hc hgl hml hg hm ha na nb
/-- what is walked -/
theorem r1_ {p1 : Pos} (hg : Gl X "range") (hm : X.mg "range" = none) (ha : PA X [a] (tA X.K G W fa)) (hs : starEach [a] X.env = [(false, eval a X.env)] := by rfl) : PI X tg (.Call (.Name "range" p1) [a] [] pos) (tI X.K G W (iR pRange1 fa)) := ji_range1 hg hm ha hs
theorem r2_ {p1 : Pos} (hg : Gl X "range") (hm : X.mg "range" = none) (ha : PA X [a, b] (tA X.K G W fa)) (hs : starEach [a, b] X.env = [(false, eval a X.env), (false, eval b X.env)] := by rfl) (hs2 : starEach [b] X.env = [(false, eval b X.env)] := by rfl) : PI X tg (.Call (.Name "range" p1) [a, b] [] pos) (tI X.K G W (iR pRange2 fa)) := ji_range2 hg hm ha hs hs2
theorem gn_ (hN : X.N.Nodup) (i : Nat) (hi : X.N[i]? = some x := by rfl) (hx : Loc X.env.scope x := by first | exact Or.inl rfl | exact Or.inr rfl) (hf : X.fn x = true ∨ X.env.scope.names.lookup x = some .local := by first | exact .inl rfl | exact .inr rfl) : PG X (.Name x pos) (tG X.K G (gN i) [i]) := jg_name hN hi hx hf
theorem gc_ {tf : GF} {uf : List GF} {js : List Nat} (h1 : PG X e (tG X.K G tf is)) (h2 : PGs X es (tGs X.K G uf js)) (hs : (assignEach (e :: es) X.env).map (·.2) = assign e X.env :: (assignEach es X.env).map (·.2) := by rfl) : PGs X (e :: es) (tGs X.K G (tf :: uf) (is ++ js)) := jgs_cons h1 h2 hs
theorem gt_ {k n : Nat} {gs : List GF} (hc : X.calm = true) (h : PGs X es (tGs X.K G gs is)) (hn : (assignEach es X.env).length = n := by rfl) (hst : (assignEach es X.env).findIdx? (·.1) = none := by rfl) (hg : gs.length = n := by rfl) : PG X (.Tuple es k pos) (tG X.K G (gT gs) is) := jg_tup hc h hn hst hg
theorem lc_ (hc : X.calm = true) (hN : X.N.Nodup) (hi : PI X tg iter (tI X.K G W fi)) (ok : BlkOk X.N X.env.scope scope own)
    (hg : ∀ (s : Shared) (H : Hp) (C : Addr) (cl : List (Str × Addr)) (fp : List Addr), PG (X.blk s H scope (compEnvC scope cl C X.env) fp) tg (tG X.K G gf is))
    (ht : ∀ (s : Shared) (H : Hp) (C : Addr) (cl : List (Str × Addr)) (fp : List Addr), PTs (X.blk s H scope (compEnvC scope cl C X.env) fp) ifs (tT X.K G W0 t))
    (he : ∀ (s : Shared) (H : Hp) (C : Addr) (cl : List (Str × Addr)) (fp : List Addr), PE (X.blk s H scope (compEnvC scope cl C X.env) fp) elt (tE X.K G W0 f))
    (hs : ∀ x, foldedSetIterable iter X.env x = pure x := by intro _; rfl) (his : ∀ j ∈ is, j ∈ own.map (·.2) := by decide) : PE X (.ListComp elt [⟨tg, iter, ifs, 0⟩] scope pos) (tL X.K G W (eComp fi gf t f (own.map (·.2)))) := jl_comp hc hN hi ok hg ht he hs his
/-- statements -/
theorem s_ (hN : X.N.Nodup) (i : Nat) (he : PE X e (tE X.K G W f)) (hi : X.N[i]? = some x := by rfl) (hx : Loc X.env.scope x := by first | exact Or.inl rfl | exact Or.inr rfl) (hs : swapsWith e (some (.Name x pos')) pos.line X.env = pure false := by rfl) (hf : X.fn x = true ∨ X.env.scope.names.lookup x = some .local := by first | exact .inl rfl | exact .inr rfl) : PS X (.Assign [.Name x pos'] e pos) (tS X.K G W (sSet i f)) := js_set hN hi hx he hs hf
theorem so_ (hN : X.N.Nodup) (i : Nat) (he : PE X e (tL X.K G W fa)) (hi : X.N[i]? = some x := by rfl) (hx : Loc X.env.scope x := by first | exact Or.inl rfl | exact Or.inr rfl) (hs : swapsWith e (some (.Name x pos')) pos.line X.env = pure false := by rfl) (hf : X.fn x = true ∨ X.env.scope.names.lookup x = some .local := by first | exact .inl rfl | exact .inr rfl) : PS X (.Assign [.Name x pos'] e pos) (tS X.K G W (sOwn i fa)) := js_own hN hi hx he hs hf
theorem sc_ {spos : Pos} (hc : X.calm = true) (hN : X.N.Nodup) (i : Nat) (hi : PI X tg iter (tI X.K G W fi)) (ok : BlkOk X.N X.env.scope scope own)
    (hg : ∀ (s : Shared) (H : Hp) (C : Addr) (cl : List (Str × Addr)) (fp : List Addr), PG (X.blk s H scope (compEnvC scope cl C X.env) fp) tg (tG X.K G gf is))
    (ht : ∀ (s : Shared) (H : Hp) (C : Addr) (cl : List (Str × Addr)) (fp : List Addr), PTs (X.blk s H scope (compEnvC scope cl C X.env) fp) ifs (tT X.K G W0 t))
    (he : ∀ (s : Shared) (H : Hp) (C : Addr) (cl : List (Str × Addr)) (fp : List Addr), PE (X.blk s H scope (compEnvC scope cl C X.env) fp) elt (tE X.K G W0 f)) (hsw : swapsWith (.ListComp elt [⟨tg, iter, ifs, 0⟩] scope pos) (some (.Name x pos')) spos.line X.env = pure true)
    (hy : X.N[i]? = some x := by rfl) (hyl : X.env.scope.names.lookup x = some .local := by rfl) (hs : ∀ x, foldedSetIterable iter X.env x = pure x := by intro _; rfl) (his : ∀ j ∈ is, j ∈ own.map (·.2) := by decide) :
    PS X (.Assign [.Name x pos'] (.ListComp elt [⟨tg, iter, ifs, 0⟩] scope pos) spos) (tS X.K G W (sOwn i (eComp fi gf t f (own.map (·.2))))) := js_ownC hc hN hy hyl hsw hi ok hg ht he hs his
theorem ex_ (he : PE X e (tE X.K G W f)) (hs : swapsWith e none pos.line X.env = pure false := by rfl) : PS X (.Expr e pos) (tS X.K G W (sDrop f)) := js_expr he hs
theorem as_ (he : PE X e (tE X.K G W f)) (hg : PG X tg (tG X.K G gf is)) (hw : swappedStores [tg] e X.env = pure none := by rfl) (hs : swapsWithSole [tg] e pos.line X.env = pure false := by rfl) (h1 : (assignEach [tg] X.env).map (·.2) = [assign tg X.env] := by rfl) : PS X (.Assign [tg] e pos) (tS X.K G W (sAsg f gf)) := js_asg he hg hs hw h1
theorem p2_ {y : Str} {px py pt pt2 : Pos} {kt k2 : Nat} (hc : X.calm = true) (hN : X.N.Nodup) (i j : Nat) (ha : PA X [a, b] (tA X.K G W fa)) (hi : X.N[i]? = some x := by rfl) (hj : X.N[j]? = some y := by rfl) (hij : i ≠ j := by decide) (hx : X.env.scope.names.lookup x = some .local := by rfl) (hy : X.env.scope.names.lookup y = some .local := by rfl)
    (hw : swappedStores [.Tuple [.Name x px, .Name y py] kt pt] (.Tuple [a, b] k2 pt2) X.env = pure (some [x, y]) := by rfl) (hs : swapsWithSole [.Tuple [.Name x px, .Name y py] kt pt] (.Tuple [a, b] k2 pt2) pos.line X.env = pure false := by rfl) :
    PS X (.Assign [.Tuple [.Name x px, .Name y py] kt pt] (.Tuple [a, b] k2 pt2) pos) (tS X.K G W (sPar [i, j] fa)) := js_par2 hc hN hi hj hij hx hy ha hw hs
theorem fo_ (hp : PassesOwn (model X.prog X.w) X.A X.env X.xe) (hc : X.calm = true) (hi : PI X tg iter (tI X.K G W fi)) (hg : PG X tg (tG X.K G gf is)) (hb : PSs X body (tS X.K G W u)) (hs : ∀ x, foldedSetIterable iter X.env x = pure x := by intro _; rfl) : PS X (.For tg iter body [] pos) (tS X.K G W (sFor fi gf u)) := js_for hp hc hi hg hb hs
theorem sm_ {o i : Expr} {fo fi f : EF} {sp : Pos} (ho : PE X o (tE X.K G W fo)) (hi : PE X i (tE X.K G W fi)) (he : PE X e (tE X.K G W f))
    (ha : ∀ v, assign (.Subscript o i sp) X.env v = (do
      let ov ← holding [v] (eval o X.env)
      let iv ← holding [v, ov] (eval i X.env)
      standAt sp
      holding [v, ov, iv] (setItem ov iv v)
      release [v, ov, iv] []) := by intro _; rfl) (hs : swapsWithSole [.Subscript o i sp] e pos.line X.env = pure false := by rfl) (hw : swappedStores [.Subscript o i sp] e X.env = pure none := by rfl)
    (h1 : (assignEach [.Subscript o i sp] X.env).map (·.2) = [assign (.Subscript o i sp) X.env] := by rfl) : PS X (.Assign [.Subscript o i sp] e pos) (tS X.K G W (sSetM fo fi f)) := js_setM ho hi he ha hs hw h1
theorem ra_ {c k : Nat} {D fI : Addr} {pos2 : Pos} (hc : X.calm = true) (hT : ∀ c, Er.CT X.K D fI (G.ca c)) (IT : Er.IT X.prog X.K X.mg D fI) (gC : X.mg x = some (.ref (G.ca c))) (hr : Room k X.A) (tk : Takes X W) (ha : PE X a (tE X.K G W f)) (hg : Gl X x) (hdb : (x == ("__debug__" : Str)) = false := by decide)
    (he : starEach [a] X.env = (false, eval a X.env) :: starEach [] X.env := by rfl) (hpl : (backTo pos (starEach [] X.env)).any (·.1) = false := by rfl) : PS X (.Raise (some (.Call (.Name x p2) [a] [] pos)) none pos2) (tS X.K G W (sRaise c f)) := js_raise hc (hT c) IT gC hr tk ha hg hdb he hpl
end
end Pv
set_option maxRecDepth 100000
set_option maxHeartbeats 2000000
set_option autoImplicit false
/-! Ed1: the law's def called where nothing is guarded. -/
namespace Pv
open PySem PySem.Spec PyProof.Rows L2 LamX
theorem guards_caller : callerA.guards = some [] := rfl
section
variable {P : Program} {w : World} {K : PySem.W.Frag} {mg mb : Str → Option Value} {k : Nat} {fa a : Addr} {cs : List (Addr × Addr)} {fd : FuncData} {x : Str} {sp : Sp} {s : Shared} {vs : List Value} {ns : List Int}
open Classical in
/-- what is tracked when the law begins: its tables, the script -/
noncomputable def H0 (K : PySem.W.Frag) (cs : List (Addr × Addr)) (a : Addr) (o : Obj) (us : List V) : Hp := fun b => if b ∈ cs.map (·.2) then some (.tbl #[]) else if b = a ∧ K.lookup a = none then some (.frz o (.lst us)) else none
theorem H0_tab {K : PySem.W.Frag} {a b : Addr} {o : Obj} {us : List V} (h : b ∈ cs.map (·.2)) : H0 K cs a o us b = some (.tbl #[]) := if_pos h
theorem H0_cases {K : PySem.W.Frag} {a b : Addr} {o : Obj} {us : List V} {u : HO} (h : H0 K cs a o us b = some u) : (b ∈ cs.map (·.2) ∧ u = .tbl #[]) ∨ (b ∉ cs.map (·.2) ∧ b = a ∧ K.lookup a = none ∧ u = .frz o (.lst us)) := by
  unfold H0 at h
  by_cases h1 : b ∈ cs.map (·.2)
  · rw [if_pos h1] at h
    exact .inl ⟨h1, (Option.some.inj h).symm⟩
  · rw [if_neg h1] at h
    by_cases h2 : b = a ∧ K.lookup a = none
    · rw [if_pos h2] at h
      exact .inr ⟨h1, h2.1, h2.2, (Option.some.inj h).symm⟩
    · rw [if_neg h2] at h
      cases h
theorem law_goes (KX : K.In s.heap) (hG : s.heap.Ns mainGlobals mg) (hB : s.heap.Ns builtinsNs mb) (hbb : ∀ x : Str, x ≠ "__name__" → mb x = bootBuiltins x) (lim : s.heap.NoLimit) (gen0 : s.gens = #[])
    (tabs : ∀ p ∈ cs, s.heap.get? p.2 = some { cls := .none, data := .fields #[] }) (tabK : ∀ p ∈ cs, K.lookup p.2 = none) (codes : ∀ p ∈ cs, PySem.W.CodeHd s.heap p.1 p.2)
    (mods : ∃ (bm : Addr) (ob : Obj), mg "__builtins__" = some (.ref bm) ∧ bm ≠ builtinsNs ∧ s.heap.get? bm = some ob ∧ ob.cls = .type "module" ∧ ob.dict = some builtinsNs ∧ ob.data = .plain)
    (la : s.heap.get? a = some { cls := .type "list", data := .seq vs.toArray }) (isI : IntsAre vs ns) (len : ns.length ≤ sizeLine) (room : Room k callerA)
    (F : ∀ base : Heap, K.In base → base.Ns mainGlobals mg → (∀ p ∈ cs, TabB base mg p.1 p.2) → FnG P w K mg base (L2.CX P w) k fa fd [x] sp) (bind : ∀ (s : Shared) (u : Value), BindsTo s fd ⟨[u], []⟩ [(x, u)])
    (goal : ∀ H : Hp, (∀ b u, H b = some u → (b ∈ cs.map (·.2) ∧ u = .tbl #[]) ∨ ∃ o xs, u = .frz o xs) → (∀ p ∈ cs, H p.2 = some (.tbl #[])) → ((∃ o, H a = some (.frz o (.lst (ns.map V.int)))) ∨ KL K a (ns.map V.int)) → sp [.ref a] H (fun v _ => v = .bl true) fun _ _ _ => False) :
    codeAny (model P w) callerA (.call (.ref fa) ⟨[.ref a], []⟩) (fun r s' => r = .ok (.ret (.bool true)) ∧ OldK s.heap s'.heap ∧ s'.os = s.os ∧ AllBare s'.gens) s := by
  have rv := vals_ints isI
  have hl := isI.length
  have tab : ∀ {b : Addr}, b ∈ cs.map (·.2) → ∃ p ∈ cs, p.2 = b := fun {b} hb => List.mem_map.mp hb
  have tabO : ∀ {b : Addr}, b ∈ cs.map (·.2) → s.heap.get? b = some { cls := .none, data := .fields #[] } := fun {b} hb => by
    obtain ⟨p, hp, rfl⟩ := tab hb
    exact tabs p hp
  generalize eo : ({ cls := .type "list", data := .seq vs.toArray } : Obj) = o at la
  generalize eH : H0 K cs a o (ns.map V.int) = H
  have hH : ∀ b u, H b = some u → (b ∈ cs.map (·.2) ∧ u = .tbl #[]) ∨ (b ∉ cs.map (·.2) ∧ b = a ∧ K.lookup a = none ∧ u = .frz o (.lst (ns.map V.int))) := fun b u h => by
    rw [← eH] at h
    exact H0_cases h
  have hT : ∀ p ∈ cs, H p.2 = some (.tbl #[]) := fun p hp => by
    rw [← eH]
    exact H0_tab (List.mem_map.mpr ⟨p, hp, rfl⟩)
  have aT : a ∉ cs.map (·.2) := fun z => by
    have q := tabO z
    rw [la, ← eo] at q
    cases congrArg Obj.data (Option.some.inj q)
  have free : ∀ {b : Addr} {u : Obj}, s.heap.get? b = some u → u.data ≠ .fields #[] → (∀ ws n, u.data ≠ .seq ws n) → H b = none := fun {b u} e h1 h2 => by
    cases q : H b with
    | none => rfl
    | some y =>
      rcases hH b y q with ⟨z, _⟩ | ⟨_, z, _, _⟩
      · rw [tabO z] at e
        cases e
        exact absurd rfl h1
      · rw [z, la, ← eo] at e
        cases e
        exact absurd rfl (h2 _ _)
  have hok : HOk P w H s.heap := fun b u e => by
    rcases hH b u e with ⟨z, rfl⟩ | ⟨_, rfl, _, rfl⟩
    · exact tabO z
    · exact ⟨la, by rw [List.length_map]; exact len, vs, _, rv, by rw [la, ← eo]⟩
  have up : ∀ {b : Addr} {u : Obj}, s.heap.get? b = some u → H b = none → (hidT s.heap H).get? b = some u := fun e n => hidT_get e n
  have ns_ : ∀ {b : Addr} {m : Str → Option Value}, s.heap.Ns b m → (hidT s.heap H).Ns b m := fun {b m} ⟨u, es, ep, e, d, r⟩ => ⟨u, es, ep, up e (free e (fun z => by rw [d] at z; cases z) fun ws n z => by rw [d] at z; cases z), d, r⟩
  have KB : K.In (hidT s.heap H) := fun b u e => up (KX b u e) (by
    cases q : H b with
    | none => rfl
    | some y =>
      rcases hH b y q with ⟨z, _⟩ | ⟨_, rfl, z, _⟩
      · obtain ⟨p, hp, rfl⟩ := tab z
        rw [tabK p hp] at e
        cases e
      · rw [z] at e
        cases e)
  have M : L2.Mod K mg (hidT s.heap H) := ⟨KB, ns_ hG, ⟨mb, ns_ hB, hbb⟩, by
    obtain ⟨mc, y1, y2⟩ := lim
    exact ⟨mc, ns_ y1, y2⟩⟩
  have TB : ∀ p ∈ cs, TabB (hidT s.heap H) mg p.1 p.2 := fun p hp => by
    refine ⟨?_, ?_, fun z => ?_⟩
    · obtain ⟨u, us, file, tf, flags, tg, inF, text, tt, e1, r1, r2, r3, more⟩ := codes p hp
      refine ⟨u, us, file, tf, flags, tg, inF, text, tt, up e1 (free e1 (fun z => ?_) fun ws n z => ?_), r1, r2, r3, more⟩
      · rw [r2] at z
        cases z
        simp at r3
      · rw [r2] at z
        cases z
    · obtain ⟨bm, ob, b1, b2, b3, b4, b5, b6⟩ := mods
      refine ⟨bm, ob, b1, b2, fun z => ?_, fun z => ?_, up b3 (free b3 (fun z => by rw [b6] at z; cases z) fun ws n z => by rw [b6] at z; cases z), b4, b5, b6⟩
      · obtain ⟨u, es, ep, e, d, _⟩ := hG
        rw [z, e] at b3
        cases b3
        rw [d] at b6
        cases b6
      · rw [z, tabs p hp] at b3
        cases b3
        cases b6
    · obtain ⟨u, es, ep, e, d, _⟩ := hG
      rw [z, tabs p hp] at e
      cases e
      cases d
  have ro : (∃ o, H a = some (.frz o (.lst (ns.map V.int)))) ∨ KL K a (ns.map V.int) := by
    cases q : K.lookup a with
    | none =>
      refine .inl ⟨o, ?_⟩
      rw [← eH]
      unfold H0
      rw [if_neg aT, if_pos ⟨rfl, q⟩]
    | some u =>
      have e := KX a u q
      rw [la, ← eo] at e
      cases e
      exact .inr ⟨_, vs.toArray, _, q, rfl, rfl, rfl, by rw [List.size_toArray, hl]; exact len, by simpa using rv⟩
  have e0 : Env0 P w K mg (hidT s.heap H) callerA [] s H := ⟨rfl, M, fun b u e => of_hidT e, Nat.le_of_eq (hidT_size _ _), trivial, (fun b hb => absurd (show b ∈ ([] : List Addr) from hb) (by simp)), hok, .of_eq gen0⟩
  have G := goal H (fun b u e => by
    rcases hH b u e with h | ⟨_, _, _, h⟩
    · exact .inl h
    · exact .inr ⟨_, _, h⟩) hT ro
  refine codeAny_mono ((F _ KB (ns_ hG) TB).run callerA [] s H ⟨[.ref a], []⟩ [.ref a] [.ref a] _ _ guards_caller room e0 (bind s (.ref a)) (.cons rfl .nil) G) fun r s' h => ?_
  cases r with
  | error e =>
    obtain ⟨_, _, _, _, _, _, _, _, _, _, _, _, z⟩ := h
    exact z.elim
  | ok fl =>
    cases fl with
    | next => exact h.elim
    | brk => exact h.elim
    | cont => exact h.elim
    | ret u =>
      obtain ⟨v, H', os, bare, un, hok', r', q⟩ := h
      obtain rfl : v = .bl true := q
      obtain rfl : u = Value.bool true := r'
      have same : ∀ b u, b ∉ cs.map (·.2) → s.heap.get? b = some u → s'.heap.get? b = some u := fun b u nb e => by
        cases q : H b with
        | none => exact un.keep b u e q (fun z => nomatch z) (fun z => nomatch z)
        | some y =>
          rcases hH b y q with ⟨z, _⟩ | ⟨_, _, _, rfl⟩
          · exact absurd z nb
          · obtain ⟨e1, _⟩ := hok b _ q
            obtain ⟨e2, _⟩ := hok' b _ (un.frzs b _ _ q)
            rw [e] at e1
            cases e1
            exact e2
      have more : ∀ {b : Addr}, b ∈ cs.map (·.2) → ∃ m : Array Value, s'.heap.get? b = some { cls := .none, data := .fields m } := fun {b} hb => by
        obtain ⟨p, hp, rfl⟩ := tab hb
        obtain ⟨m, z⟩ := un.tbls p.2 #[] (hT p hp)
        exact ⟨_, hok' p.2 _ z⟩
      refine ⟨rfl, ⟨fun b u e => ?_, fun b u e => ?_⟩, os, bare⟩
      · by_cases hb : b ∈ cs.map (·.2)
        · obtain ⟨m, hm⟩ := more hb
          obtain ⟨p, hp, rfl⟩ := tab hb
          have e1 := tabs p hp
          rw [e1] at e
          cases e
          exact .inr (.inl ⟨((codes p hp).tab e1).isCodeTable, rfl, #[], m, rfl, by rw [Array.empty_append]; exact hm⟩)
        · exact .inl (same b u hb e)
      · by_cases hb : b ∈ cs.map (·.2)
        · obtain ⟨m, hm⟩ := more hb
          exact ⟨_, hm⟩
        · exact ⟨u, same b u hb e⟩
end
end Pv
set_option maxRecDepth 100000
set_option maxHeartbeats 400000
set_option autoImplicit false
/-! Ed2: what the head tells, read off by computing. -/
namespace Pv
open PySem PySem.Spec PyProof.Rows L2
/-! ### the hook: what the module's names reach, and the statics -/
def asY (g : Addr → Option Obj) (n : Nat) : List Addr := cStatics :: He.asD g n
abbrev Ini : Type := Option (Str × Str × Arguments × FuncBody × Scope × Addr × List Str × Value × Addr)
def iniObs (K : PySem.W.Frag) (f : Addr) : Ini := match K.lookup f with
  | some ⟨_, _, .func fd, _⟩ => some (fd.name, fd.qualname, fd.params, fd.body, fd.scope, fd.globals, fd.closure.map (·.1), fd.defaults, fd.builtins)
  | _ => none
abbrev AlY : Type := He.AlX × Ini
def obsY (n : Nat) (fa : List He.Fa) (fn : List He.DefD) (tf : List He.Defn) (ex : PySem.W.Frag → Bool) (ini : PySem.W.Frag → Addr) (g : Addr → Option Obj) : AlY := ((He.obsT fa fn [] (He.frT g (asY g n)), ex (He.frT g (asY g n)) && He.tabsB g tf (He.frT g (asY g n))), iniObs (He.frT g (asY g n)) (ini (He.frT g (asY g n))))
def valY (fn : List He.DefD) (iv : Ini) (w : World) : AlY := (He.valX fn [] w, iv)
structure SaysY (fa : List He.Fa) (fn : List He.DefD) (tf : List He.Defn) (ex : PySem.W.Frag → Bool) (ini : PySem.W.Frag → Addr) (iv : Ini) (w : World) (h : Heap) (K : PySem.W.Frag) : Prop where
  t : He.SaysT fa fn [] w K
  more : ex K = true
  hd : ∀ p ∈ tf, PySem.W.codeHdIn K (He.cT K p).1 (He.cT K p).2 = true
  out : ∀ p ∈ tf, K.lookup (He.cT K p).2 = none
  empty : ∀ p ∈ tf, h.get? (He.cT K p).2 = some { cls := .none, data := .fields #[] }
  init : iniObs K (ini K) = iv
theorem saysY_of {n : Nat} {fa : List He.Fa} {fn : List He.DefD} {tf : List He.Defn} {ex : PySem.W.Frag → Bool} {ini : PySem.W.Frag → Addr} {iv : Ini} {w : World} {h : Heap} (e : obsY n fa fn tf ex ini h.get? = valY fn iv w) : SaysY fa fn tf ex ini iv w h (He.frT h.get? (asY h.get? n)) := by
  generalize eK : He.frT h.get? (asY h.get? n) = K
  have e' : ((He.obsT fa fn [] K, ex K && He.tabsB h.get? tf K), iniObs K (ini K)) = valY fn iv w := by rw [← eK]; exact e
  have a1 : He.obsT fa fn [] K = He.valT fn [] w := congrArg (fun z : AlY => z.1.1) e'
  have a2 : (ex K && He.tabsB h.get? tf K) = true := congrArg (fun z : AlY => z.1.2) e'
  have a3 : iniObs K (ini K) = iv := congrArg (fun z : AlY => z.2) e'
  obtain ⟨b1, b2⟩ := He.ba a2
  have tabs : ∀ p ∈ tf, PySem.W.codeHdIn K (He.cT K p).1 (He.cT K p).2 = true ∧ ∃ o, h.get? (He.cT K p).2 = some o ∧ He.emptyTab o = true := fun p hp => by
    obtain ⟨c1, c2⟩ := He.ba (List.all_eq_true.mp b2 p hp)
    refine ⟨c1, ?_⟩
    cases q : h.get? (He.cT K p).2 with
    | none => rw [q] at c2; cases c2
    | some o => rw [q] at c2; exact ⟨o, rfl, c2⟩
  refine ⟨a1, b1, fun p hp => (tabs p hp).1, fun p hp => ?_, fun p hp => ?_, a3⟩
  · obtain ⟨_, o, q, z⟩ := tabs p hp
    rw [← eK] at q ⊢
    exact He.frT_none q z
  · obtain ⟨_, o, q, z⟩ := tabs p hp
    rw [q, He.emptyTab_eq z]
def hookY (n : Nat) (fa : List He.Fa) (fn : List He.DefD) (tf : List He.Defn) (ex : PySem.W.Frag → Bool) (ini : PySem.W.Frag → Addr) (iv : Ini) : PySem.W.Hook where
  α := AlY
  obs := fun s => obsY n fa fn tf ex ini s.heap.get?
  val := fun w => valY fn iv w
  says := fun w h => ∃ K : PySem.W.Frag, K.In h ∧ SaysY fa fn tf ex ini iv w h K
  of := fun _ _ e => ⟨_, He.frT_in, saysY_of e⟩
  keeps := fun _ _ _ ⟨K, hK, c⟩ k => ⟨K, PySem.W.Frag.In.keeps hK k, ⟨c.t, c.more, c.hd, c.out, fun p hp => k _ _ (c.empty p hp), c.init⟩⟩
theorem obsY_eq {n : Nat} {fa : List He.Fa} {fn : List He.DefD} {tf : List He.Defn} {ex : PySem.W.Frag → Bool} {ini : PySem.W.Frag → Addr} {iv : Ini} {g : Addr → Option Obj} {s : Shared} (h : ∀ a, g a = s.heap.get? a) : obsY n fa fn tf ex ini g = (hookY n fa fn tf ex ini iv).obs s := by
  have e : g = s.heap.get? := funext h
  rw [e] <;> rfl
/-! ### an error's class -/
open PySem.W in
def ctB (K : Frag) (D fI C : Addr) : Bool := (match K.lookup C with
    | some ⟨.type t, _, .cls cd, sl⟩ => decide (t = "type") && (cd.hasDict && (!cd.hasDel && ((match cd.mro with
      | .ref c :: bm => decide (c = C) && (HandSPX.refsVE bm && decide (((Value.ref C :: bm).dropWhile (· != .ref D)).drop 1 = Er.tailV))
      | _ => false) && (match sl.toList with
      | [_, _, _, _, some (.builtin i), _] => decide (i = "ValueError.__new__")
      | _ => false))))
    | _ => false) &&
  (He.eqO (findIn K (.ref C) "__setattr__") (some (some (.builtin "object.__setattr__"))) && (He.eqO (findIn K (.ref C) "__getattribute__") (some (some (.builtin "BaseException.__getattribute__"))) && (He.eqO (findIn K (.ref C) "__getattr__") (some none) && (He.eqO (findIn K (.ref C) "value") (some none) && (He.eqO (findIn K (.ref C) "__init__") (some (some (.ref fI))) &&
  (keepIn K (.ref C) && (decide (subIn K (.ref C) (.type "BaseException") = some true) && (decide (typeIn K (.ref C) = some (.type "type")) && (hasDictIn K C && (decide (mroIn K C (.ref D) = some true) && decide (subIn K (.ref C) (.type "ValueError") = some true)))))))))))
theorem ct_of {K : PySem.W.Frag} {D fI C : Addr} (h : ctB K D fI C = true) : Er.CT K D fI C := by
  unfold ctB at h
  obtain ⟨h0, h⟩ := He.ba h
  obtain ⟨h1, h⟩ := He.ba h
  obtain ⟨h2, h⟩ := He.ba h
  obtain ⟨h3, h⟩ := He.ba h
  obtain ⟨h4, h⟩ := He.ba h
  obtain ⟨h5, h⟩ := He.ba h
  obtain ⟨h6, h⟩ := He.ba h
  obtain ⟨h7, h⟩ := He.ba h
  obtain ⟨h8, h⟩ := He.ba h
  obtain ⟨h9, h⟩ := He.ba h
  obtain ⟨h10, h11⟩ := He.ba h
  refine ⟨?_, He.eqO_ok h1, He.eqO_ok h2, He.eqO_ok h3, He.eqO_ok h4, He.eqO_ok h5, h6, of_decide_eq_true h7, of_decide_eq_true h8, h9, of_decide_eq_true h10, of_decide_eq_true h11⟩
  split at h0
  · rename_i t dd cd sl q
    obtain ⟨a1, a⟩ := He.ba h0
    obtain ⟨a2, a⟩ := He.ba a
    obtain ⟨a3, a⟩ := He.ba a
    obtain ⟨a4, a5⟩ := He.ba a
    obtain rfl : t = "type" := of_decide_eq_true a1
    obtain ⟨nm, bs, mro, N, qn, hd, sn, sub, ab, col, del⟩ := cd
    obtain rfl : hd = true := a2
    have a3 : (!del) = true := a3
    cases del with
    | true => cases a3
    | false =>
      split at a4
      · rename_i c bm em
        have em : mro = .ref c :: bm := em
        subst em
        obtain ⟨b1, b⟩ := He.ba a4
        obtain ⟨b2, b3⟩ := He.ba b
        obtain rfl : c = C := of_decide_eq_true b1
        split at a5
        · rename_i k0 k1 k2 k3 i k5 es
          obtain rfl : i = "ValueError.__new__" := of_decide_eq_true a5
          have es' : sl = #[k0, k1, k2, k3, some (.builtin "ValueError.__new__"), k5] := Array.toList_inj.mp es
          subst es'
          exact ⟨nm, qn, N, bs, bm, sn, sub, ab, col, dd, k0, k1, k2, k3, k5, q, b2, of_decide_eq_true b3⟩
        · cases a5
      · cases a4
  · cases h0
/-! ### the __init__ -/
def methSt (s : Stmt) : Stmt := match s with
  | .ClassDef _ _ _ (b :: _) _ _ _ _ _ _ _ => b
  | _ => s
def iniVal (q : Str) (st : Stmt) : Ini := some ("__init__", q, defArgs st, .stmts (defBody st), defScope st, mainGlobals, ["__class__"], .none, builtinsNs)
open PySem.W in
def itB (P : Program) (K : Frag) (D f : Addr) (q : Str) : Bool := (match K.lookup f with
    | some ⟨_, _, .func fd, _⟩ => (match fd.code with
      | .ref c => codeIn K (.ref c) q && (match K.lookup c with
        | some ⟨_, _, .fields vs, _⟩ => (match (vs[2]? : Option Value) with
          | some (.str file _) => (P.main.file : Str) == file
          | _ => false)
        | _ => false)
      | _ => false) && (match fd.closure with
      | [(_, cc)] => (match K.lookup cc with
        | some ⟨_, _, .cell (some (.ref D')), _⟩ => decide (D' = D)
        | _ => false)
      | _ => false)
    | _ => false) && (decide (typeIn K (.ref f) = some (.type "function")) && ((clsIn K D).isSome && (He.eqO (nsIn K cStatics "thirdparty.any") (some none) && !(P.main.scope.names.lookup ("super" : Str)).isSome)))
theorem it_of {P : Program} {K : PySem.W.Frag} {mg : Str → Option Value} {D f : Addr} {q : Str} {st : Stmt} {p1 p2 q1 q2 q3 q4 q5 q6 q7 q8 q9 q10 : Pos} (h : itB P K D f q = true) (hv : iniObs K f = iniVal q st) (gS : mg "super" = none) (hA : defArgs st = Er.iniA p1 p2) (hB : defBody st = Er.iniB q1 q2 q3 q4 q5 q6 q7 q8 q9 q10)
    (k1 : (defScope st).names.lookup ("super" : Str) = some .globalImplicit) (k2 : (defScope st).names.lookup ("__class__" : Str) = some .free) (k3 : (defScope st).names.lookup ("self" : Str) = some .local) (k4 : (defScope st).names.lookup ("value" : Str) = some .local) (k5 : (defScope st).kind = .function) (k6 : (defScope st).isCoroutine = false) (k7 : (defScope st).isGenerator = false) (k8 : ∀ x ∈ (defScope st).names, x.2 ≠ .cell) (k9 : (q3.endLine == q5.line) = true)
    (k10 : ∀ (dV kV doc pm : Value) (an : Option Addr) (cda : Addr) (ct : Value) (cc : Addr) (x v : Value), dV = .none → bindArgs (PySem.W.ksFn "__init__" q (defArgs st) (defBody st) (defScope st) dV kV doc pm an (.ref cda) ct cc) ⟨[x, v], []⟩ = pure [(Str.ofString "self", x), (Str.ofString "value", v)]) : Er.IT P K mg D f := by
  unfold itB at h
  obtain ⟨h0, h⟩ := He.ba h
  obtain ⟨h1, h⟩ := He.ba h
  obtain ⟨h2, h⟩ := He.ba h
  obtain ⟨h3, h4⟩ := He.ba h
  refine ⟨of_decide_eq_true h1, ?_, ?_, gS, He.eqO_ok h3, by simpa using h4⟩
  · unfold iniObs at hv
    split at h0
    · rename_i oc od fd osl lk
      rw [lk] at hv
      obtain ⟨a1, a2⟩ := He.ba h0
      unfold iniVal at hv
      have e := Option.some.inj hv
      obtain ⟨name, qual, params, body, scope, globals, closure, defaults, kwdefaults, doc, pyModule, annotations, code, closureTuple, builtins⟩ := fd
      obtain ⟨rfl, rfl, rfl, rfl, rfl, rfl, ecl, rfl, rfl⟩ : name = Str.ofString "__init__" ∧ qual = q ∧ params = defArgs st ∧ body = .stmts (defBody st) ∧ scope = defScope st ∧ globals = mainGlobals ∧ closure.map (·.1) = [Str.ofString "__class__"] ∧ defaults = .none ∧ builtins = builtinsNs := by
        injection e with e1 e
        injection e with e2 e
        injection e with e3 e
        injection e with e4 e
        injection e with e5 e
        injection e with e6 e
        injection e with e7 e
        injection e with e8 e9
        exact ⟨e1, e2, e3, e4, e5, e6, e7, e8, e9⟩
      dsimp only at a1 a2
      split at a1
      · rename_i c
        obtain ⟨b1, b2⟩ := He.ba a1
        split at b2
        · rename_i ccl cdd vs ccs lc
          split at b2
          · rename_i file tf ev
            split at a2
            · rename_i xl n cc
              obtain rfl : n = "__class__" := by
                have z : [n] = [Str.ofString "__class__"] := by rw [← ecl]; rfl
                exact List.head_eq_of_cons_eq z
              split at a2
              · rename_i cl cld D' csl lcc
                obtain rfl : D' = D := of_decide_eq_true a2
                refine ⟨oc, od, qual, defScope st, .none, kwdefaults, doc, pyModule, annotations, c, cc, closureTuple, osl, p1, p2, q1, q2, q3, q4, q5, q6, q7, q8, q9, q10, ccl, cdd, vs, ccs, file, tf, cl, cld, csl, ?_, b1, lc, ev, b2, lcc, k1, k2, k3, k4, k5, k6, k7, k8, k9, fun s x v => ?_⟩
                · rw [← hA, ← hB]; exact lk
                · rw [← hA, ← hB]
                  exact BindsTo.of_eq (k10 .none kwdefaults doc pyModule annotations c closureTuple cc x v rfl)
              · cases a2
            · cases a2
          · cases b2
        · cases b2
      · cases a1
    · cases h0
  · obtain ⟨cd, q⟩ := Option.isSome_iff_exists.mp h2
    exact ⟨cd, q⟩
end Pv
set_option maxRecDepth 100000
set_option maxHeartbeats 400000
set_option autoImplicit false
/-! Ed3: constants, tables. -/
namespace Pv
open PySem PySem.Spec PyProof.Rows L2
mutual
def rvB (K : PySem.W.Frag) : PV → Value → Bool
  | .non, .none => true
  | .bl b, .bool c => b == c
  | .int i, .int j _ => i == j
  | .str x, .str y _ => x == y
  | .tup xs, .ref a => (match K.lookup a with
    | some ⟨.type t, _, .seq its _, _⟩ => decide (t = "tuple") && (decide (its.size ≤ sizeLine) && rvsB K xs its.toList)
    | _ => false)
  | _, _ => false
def rvsB (K : PySem.W.Frag) : List PV → List Value → Bool
  | [], [] => true
  | x :: xs, u :: us => rvB K x u && rvsB K xs us
  | _, _ => false
end
section
variable {K : PySem.W.Frag} {G : Gc} {w : Wd}
mutual
theorem rvB_ok : ∀ (x : PV) (u : Value), rvB K x u = true → ∃ v, RelV v u ∧ RV K G w x v
  | .non, u, h => by
    cases u with
    | none => exact ⟨.non, rfl, rv_non.mpr rfl⟩
    | _ => unfold rvB at h; cases h
  | .bl b, u, h => by
    cases u with
    | bool c =>
      unfold rvB at h
      obtain rfl := beq_iff_eq.mp h
      exact ⟨.bl b, rfl, rv_bl.mpr rfl⟩
    | _ => unfold rvB at h; cases h
  | .int b, u, h => by
    cases u with
    | int c t =>
      unfold rvB at h
      obtain rfl := beq_iff_eq.mp h
      exact ⟨.int b, ⟨t, rfl⟩, rv_int.mpr rfl⟩
    | _ => unfold rvB at h; cases h
  | .str b, u, h => by
    cases u with
    | str c t =>
      unfold rvB at h
      obtain rfl := beq_iff_eq.mp h
      exact ⟨.str b, ⟨t, rfl⟩, rv_str.mpr rfl⟩
    | _ => unfold rvB at h; cases h
  | .tup xs, u, h => by
    cases u with
    | ref a =>
      unfold rvB at h
      split at h
      · rename_i t od its n sl lk
        obtain ⟨h1, h2⟩ := He.ba h
        obtain ⟨h3, h4⟩ := He.ba h2
        obtain rfl : t = "tuple" := of_decide_eq_true h1
        obtain ⟨vs, r1, r2⟩ := rvsB_ok xs its.toList h4
        exact ⟨.ref a, rfl, rv_tup.mpr ⟨a, vs, rfl, .inr ⟨_, its, n, lk, rfl, rfl, of_decide_eq_true h3, r1⟩, r2⟩⟩
      · cases h
    | _ => unfold rvB at h; cases h
  | .lst _, u, h => by cases u <;> (unfold rvB at h; cases h)
  | .rol _, u, h => by cases u <;> (unfold rvB at h; cases h)
  | .own _, u, h => by cases u <;> (unfold rvB at h; cases h)
  | .ref _, u, h => by cases u <;> (unfold rvB at h; cases h)
  | .exc _ _, u, h => by cases u <;> (unfold rvB at h; cases h)
theorem rvsB_ok : ∀ (xs : List PV) (us : List Value), rvsB K xs us = true → ∃ vs, Vals vs us ∧ RVs K G w xs vs
  | [], us, h => by
    cases us with
    | nil => exact ⟨[], .nil, RVs.nil⟩
    | cons u us => unfold rvsB at h; cases h
  | x :: xs, us, h => by
    cases us with
    | nil => unfold rvsB at h; cases h
    | cons u us =>
      unfold rvsB at h
      obtain ⟨h1, h2⟩ := He.ba h
      obtain ⟨v, r1, r2⟩ := rvB_ok x u h1
      obtain ⟨vs, r3, r4⟩ := rvsB_ok xs us h2
      exact ⟨v :: vs, .cons r1 r3, RVs.cons r2 r4⟩
end
theorem rv_of {x : PV} {a : Addr} (h : rvB K x (.ref a) = true) : RV K G w x (.ref a) := by
  obtain ⟨v, r, q⟩ := rvB_ok (G := G) (w := w) x (.ref a) h
  have e : v = .ref a := by
    cases x with
    | tup xs =>
      rw [rv_tup] at q
      obtain ⟨b, vs, rfl, _⟩ := q
      have z : Value.ref a = Value.ref b := r
      cases z
      rfl
    | _ => unfold rvB at h; cases h
  rw [← e]
  exact q
end
theorem code_of {K : PySem.W.Frag} {x q : Str} {pa : Arguments} {bd : List Stmt} {sc : Scope} {dvs : List V} {kws : List (Str × V)} {p : Str × Option Str} {fd fd2 : FuncData} {oc : Value} {od : Option Addr} {osl : Array (Option Value)} (F : FunD K x q pa bd sc dvs kws (He.fAd K p) fd2) (lk : K.lookup (He.fAd K p) = some ⟨oc, od, .func fd, osl⟩) : fd.code = .ref (He.cT K p).1 := by
  obtain ⟨oc2, od2, dV, kV, doc, pm, an, cdv, ct, osl2, e, lk2, hcd, _, _⟩ := F.ex
  rw [lk] at lk2
  cases lk2
  obtain ⟨c, rfl⟩ := He.codeIn_ref hcd
  have e2 : fd.code = .ref c := by rw [e]
  rw [e2]
  show Value.ref c = .ref (He.codeOf K p)
  rw [He.codeOf_eq lk e2]
/-- the tables are apart -/
def tabsNo (tf : List He.Defn) (K : PySem.W.Frag) : Bool := tf.all fun p => tf.all fun q => decide (p = q) || !decide ((He.cT K p).2 = (He.cT K q).2)
abbrev tabT (tf : List He.Defn) (K : PySem.W.Frag) : List (Addr × Str) := tf.map fun p => ((He.cT K p).2, (p.1 ++ ".<locals>.") ++ "<lambda>")
theorem tab_one {tf : List He.Defn} {K : PySem.W.Frag} (h : tabsNo tf K = true) {d : He.Defn} (hd : d ∈ tf) : ∀ p ∈ tabT tf K, p.1 = (He.cT K d).2 → p.2 = (d.1 ++ ".<locals>.") ++ "<lambda>" := fun p hp e => by
  obtain ⟨q, hq, rfl⟩ := List.mem_map.mp hp
  have h1 := List.all_eq_true.mp (List.all_eq_true.mp h q hq) d hd
  rcases Bool.or_eq_true_iff.mp h1 with h2 | h2
  · rw [of_decide_eq_true h2]
  · have h3 : ¬ ((He.cT K q).2 = (He.cT K d).2) := by simpa using h2
    exact absurd e h3
theorem all_at {l : List Bool} (h : l.all id = true) (i : Nat) {b : Bool} (hi : l[i]? = some b) : b = true := List.all_eq_true.mp h b (List.mem_of_getElem? hi)
end Pv
set_option maxRecDepth 100000
set_option maxHeartbeats 400000
set_option autoImplicit false
/-! Ed4: the law by a function of plain values. -/
namespace Pv
open PySem PySem.Spec PyProof.Rows L2
theorem ints_rvs {K : PySem.W.Frag} {G : Gc} {w : Wd} : ∀ (ns : List Int), RVs K G w (ns.map .int) (ns.map V.int)
  | [] => RVs.nil
  | n :: ns => RVs.cons (rv_int.mpr rfl) (ints_rvs ns)
/-- the promise of the law's def from the plain law -/
theorem law_sp {K : PySem.W.Frag} {G : Gc} {F : FF} {H : Hp} {a : Addr} {ns : List Int} {m : Mem} (tabs : ∀ p ∈ G.T, H p.1 = some (.tbl #[])) (ro : (∃ o, H a = some (.frz o (.lst (ns.map V.int)))) ∨ KL K a (ns.map V.int)) (h : F [.rol (ns.map .int)] [] = .ok (.bl true) m) :
    spF K G 1 F [.ref a] H (fun v _ => v = .bl true) fun _ _ _ => False := by
  refine ⟨[.rol (ns.map .int)], [], ⟨fun _ => False, [], H⟩, rfl, ⟨rfl, List.nodup_nil, (fun n a xs h1 _ => by simp at h1), (fun a h => absurd h (by simp)), (fun a h => h.elim), fun p hp => LamX.TabS.nil (tabs p hp)⟩, RVs.one (rv_rol.mpr ⟨a, _, rfl, ro, ints_rvs ns⟩), rfl, ?_⟩
  rw [h]
  exact fun v w' _ _ r => rv_bl.mp r
theorem fnG_of {P : Program} {w : World} {K : PySem.W.Frag} {mg : Str → Option Value} {base : Heap} {x qual : Str} {params : Arguments} {body : List Stmt} {scope : Scope} {dvs : List V} {kws : List (Str × V)} {f : Addr} {fd : FuncData} {G : Gc} {N ps : List Str} {k : Nat} {g : SF} (F : FunD K x qual params body scope dvs kws f fd) (S : FnScope N ps scope)
    (hb : ∀ (cdv : Value) (A : Around) (outer : List Env) (s : Shared) (H : Hp) (E : XK), A.guards = some [] → Room k (A.deeper (envOfC qual scope s.heap.objs.size f cdv)) → PSs (cxOf (L2.CX P w) P w K mg base N qual scope f cdv A outer s H E) body (tS K G (WB E) g)) :
    FnG P w K mg base (L2.CX P w) (k + 1) f fd ps (spF K G ps.length (bodyF N.length g)) := by
  obtain ⟨oc, od, dV, kV, doc, pm, an, cdv, ct, osl, e, lk, hcd, _, _⟩ := id F.ex
  exact def_okG ⟨oc, od, dV, kV, doc, pm, an, ct, osl, e, lk, hcd⟩ S fun A outer s H E hg hr => hb cdv A outer s H E hg hr
structure LawG (l : PySem.W.OpenLaw) (w : World) (k n : Nat) (x : Str) (mg : Str → Option Value) (fa : Addr) (h : Heap) : Prop where
  ex : ∃ (K : PySem.W.Frag) (G : Gc) (F : FF) (fd : FuncData) (cs : List (Addr × Addr)), K.In h ∧ (∀ p ∈ cs, h.get? p.2 = some { cls := .none, data := .fields #[] }) ∧ (∀ p ∈ cs, K.lookup p.2 = none) ∧ (∀ p ∈ cs, PySem.W.CodeHd h p.1 p.2) ∧ (∀ (s : Shared) (u : Value), BindsTo s fd ⟨[u], []⟩ [(x, u)]) ∧
    (∀ p ∈ G.T, p.1 ∈ cs.map (·.2)) ∧ (∀ ns : List Int, ns.length ≤ n → (∀ z ∈ ns, Builtin.Int.intBits z ≤ 1048576) → ∃ m, F [.rol (ns.map .int)] [] = .ok (.bl true) m) ∧
    ∀ base : Heap, K.In base → base.Ns mainGlobals mg → (∀ p ∈ cs, LamX.TabB base mg p.1 p.2) → FnG l.prog w K mg base (L2.CX l.prog w) k fa fd [x] (spF K G 1 F)
theorem walk_ofG {l : PySem.W.OpenLaw} {n k : Nat} {q : Program} {loose : List Str} {XP : (Str → Option Value) → Heap → Prop} {YP : World → Heap → Prop} {d : DefRec} {x : Str} (hn : l.most = some n) (hn2 : n ≤ sizeLine) (hdf : d.params.defaults = []) (room : Room k callerA)
    (F : ∀ (w : World) (mg : Str → Option Value) (fa : Addr) (h : Heap), YP w h → h.Ns mainGlobals mg → mg d.name = some (.ref fa) → LawG l w k n x mg fa h) : PySem.W.WalkO q loose XP YP l.row.toRowW d [] (fun f vs => PySem.call f vs) := by
  refine Att.attach_callB hn hdf fun w s0 s mg mb fa o pm cd doc a vs ns Gr Y ho hd hcd hmg la isI len bits gen0 => ?_
  obtain ⟨K, G, FF, fd, cs, KX, tabs, tabK, codes, bind, gT, plain, FO⟩ := (F w mg fa _ Y Gr.T.g hmg).ex
  refine law_goes (sp := spF K G 1 FF) KX Gr.T.g Gr.T.b Gr.T.builtins Gr.T.nolimit gen0 tabs tabK codes Gr.T.bmain la isI (Nat.le_trans len hn2) room FO bind fun H _ hT ro => ?_
  obtain ⟨m, e⟩ := plain ns len bits
  refine law_sp (fun p hp => ?_) ro e
  obtain ⟨c, hc, e⟩ := List.mem_map.mp (gT p hp)
  rw [← e]
  exact hT c hc
end Pv
set_option maxRecDepth 100000
set_option maxHeartbeats 4000000
set_option autoImplicit false
namespace LK00
open PySem PySem.Spec PyProof.Rows L2 Pv
def top (i : Nat) : Stmt := PySem.Challenge.pw_noshortbeat_k00_fractions_reckon_as_pair.main.body.getD i (.Pass ⟨0, 0, 0, 0⟩)
noncomputable def g_is_integer : SF := sRet (eAnd (e1 (pIsi "int") (eV 0)) (eAnd (eNot (e1 (pIsi "bool") (eV 0))) (e3 pLe pLe (eV 1) (eV 0) (eV 2))))
noncomputable def F_is_integer : FF := bodyF 3 g_is_integer
noncomputable def g_is_tuple : SF := sRet (eAnd (e1 (pIsi "tuple") (eV 0)) (e3 pLe pLe (eV 1) (eN pLen (aCons (eV 0) (aNil))) (eV 2)))
noncomputable def F_is_tuple : FF := bodyF 3 g_is_tuple
noncomputable def g_read_number : SF := sSeq (sIf (tOrF (tB (e2 pEq (eV 0) (eC (.str "")))) (tOrF (tNotF (tV (eN pAll (aCons (eLstOf (eComp (iV (eV 0)) (gN 2) (tYesF) (e2 pIn (eV 2) (eC (.str "0123456789"))) [2])) (aNil))))) (tB (e2 pGt (eN pLen (aCons (eV 0) (aNil))) (eC (.int 12)))))) (sRet (eC .non)) (sPass)) (sSeq (sIf (tAndF (tB (e2 pGt (eN pLen (aCons (eV 0) (aNil))) (eC (.int 1)))) (tB (e2 pEq (e2 pIx (eV 0) (eC (.int 0))) (eC (.str "0"))))) (sRet (eC .non)) (sPass)) (sRet (eIf (tB (e2 pLe (eN pInt1 (aCons (eV 0) (aNil))) (eV 1))) (eN pInt1 (aCons (eV 0) (aNil))) (eC .non))))
noncomputable def F_read_number : FF := bodyF 3 g_read_number
noncomputable def g_common : SF := sSeq (sPar [0, 1] (aCons (eN pAbs (aCons (eV 0) (aNil))) (aCons (eN pAbs (aCons (eV 1) (aNil))) (aNil)))) (sSeq (sWhile (tB (e2 pNe (eV 1) (eC (.int 0)))) (sPar [0, 1] (aCons (eV 1) (aCons (e2 pMod (eV 0) (eV 1)) (aNil))))) (sRet (eV 0)))
noncomputable def F_common : FF := bodyF 2 g_common
noncomputable def g_made : SF := sSeq (sIf (tB (e2 pLt (eV 1) (eC (.int 0)))) (sPar [0, 1] (aCons (e1 pNeg (eV 0)) (aCons (e1 pNeg (eV 1)) (aNil)))) (sPass)) (sSeq (sSet 2 (eF 2 F_common (aCons (eV 0) (aCons (eV 1) (aNil))))) (sRet (eTup (aCons (e2 pFdiv (eV 0) (eV 2)) (aCons (e2 pFdiv (eV 1) (eV 2)) (aNil))))))
noncomputable def F_made : FF := bodyF 3 g_made
noncomputable def g_plus_of : SF := sRet (eF 2 F_made (aCons (e2 pAdd (e2 pMul (e2 pIx (eV 0) (eC (.int 0))) (e2 pIx (eV 1) (eC (.int 1)))) (e2 pMul (e2 pIx (eV 1) (eC (.int 0))) (e2 pIx (eV 0) (eC (.int 1))))) (aCons (e2 pMul (e2 pIx (eV 0) (eC (.int 1))) (e2 pIx (eV 1) (eC (.int 1)))) (aNil))))
noncomputable def F_plus_of : FF := bodyF 2 g_plus_of
noncomputable def g_minus_of : SF := sRet (eF 2 F_made (aCons (e2 pSub (e2 pMul (e2 pIx (eV 0) (eC (.int 0))) (e2 pIx (eV 1) (eC (.int 1)))) (e2 pMul (e2 pIx (eV 1) (eC (.int 0))) (e2 pIx (eV 0) (eC (.int 1))))) (aCons (e2 pMul (e2 pIx (eV 0) (eC (.int 1))) (e2 pIx (eV 1) (eC (.int 1)))) (aNil))))
noncomputable def F_minus_of : FF := bodyF 2 g_minus_of
noncomputable def g_times_of : SF := sRet (eF 2 F_made (aCons (e2 pMul (e2 pIx (eV 0) (eC (.int 0))) (e2 pIx (eV 1) (eC (.int 0)))) (aCons (e2 pMul (e2 pIx (eV 0) (eC (.int 1))) (e2 pIx (eV 1) (eC (.int 1)))) (aNil))))
noncomputable def F_times_of : FF := bodyF 2 g_times_of
noncomputable def g_over_of : SF := sRet (eF 2 F_made (aCons (e2 pMul (e2 pIx (eV 0) (eC (.int 0))) (e2 pIx (eV 1) (eC (.int 1)))) (aCons (e2 pMul (e2 pIx (eV 0) (eC (.int 1))) (e2 pIx (eV 1) (eC (.int 0)))) (aNil))))
noncomputable def F_over_of : FF := bodyF 2 g_over_of
noncomputable def g_is_below : SF := sRet (e2 pLt (e2 pMul (e2 pIx (eV 0) (eC (.int 0))) (e2 pIx (eV 1) (eC (.int 1)))) (e2 pMul (e2 pIx (eV 1) (eC (.int 0))) (e2 pIx (eV 0) (eC (.int 1)))))
noncomputable def F_is_below : FF := bodyF 2 g_is_below
noncomputable def g_floor_of : SF := sRet (e2 pFdiv (e2 pIx (eV 0) (eC (.int 0))) (e2 pIx (eV 0) (eC (.int 1))))
noncomputable def F_floor_of : FF := bodyF 1 g_floor_of
noncomputable def g_unit_of : SF := sSeq (sAsg (eTup (aCons (eC (.int 0)) (aCons (eC (.int 1)) (aNil)))) (gT [gN 1, gN 2])) (sSeq (sFor (iV (eV 0)) (gN 3) (sSet 2 (e2 pFdiv (e2 pMul (eV 2) (e2 pIx (eV 3) (eC (.int 1)))) (eF 2 F_common (aCons (eV 2) (aCons (e2 pIx (eV 3) (eC (.int 1))) (aNil))))))) (sSeq (sFor (iV (eV 0)) (gN 3) (sSet 1 (eF 2 F_common (aCons (eV 1) (aCons (e2 pMul (e2 pIx (eV 3) (eC (.int 0))) (e2 pFdiv (eV 2) (e2 pIx (eV 3) (eC (.int 1))))) (aNil)))))) (sRet (eIf (tB (e2 pGt (eV 1) (eC (.int 0)))) (eF 2 F_made (aCons (eV 1) (aCons (eV 2) (aNil)))) (eC (.tup [.int 1, .int 1]))))))
noncomputable def F_unit_of : FF := bodyF 4 g_unit_of
noncomputable def g_is_fraction_to : SF := sSeq (sIf (tOrF (tNotF (tV (eF 3 F_is_tuple (aCons (eV 0) (aCons (eC (.int 2)) (aCons (eC (.int 2)) (aNil))))))) (tOrF (tNotF (tV (eF 3 F_is_integer (aCons (e2 pIx (eV 0) (eC (.int 0))) (aCons (e1 pNeg (eV 1)) (aCons (eV 1) (aNil))))))) (tNotF (tV (eF 3 F_is_integer (aCons (e2 pIx (eV 0) (eC (.int 1))) (aCons (eC (.int 1)) (aCons (eV 1) (aNil))))))))) (sRet (eC (.bl false))) (sPass)) (sRet (e2 pEq (eF 2 F_common (aCons (e2 pIx (eV 0) (eC (.int 0))) (aCons (e2 pIx (eV 0) (eC (.int 1))) (aNil)))) (eC (.int 1))))
noncomputable def F_is_fraction_to : FF := bodyF 2 g_is_fraction_to
noncomputable def g_check_fraction : SF := sIf (tNotF (tV (eF 2 F_is_fraction_to (aCons (eV 0) (aCons (eC (.int 10000000000000000000000000000000000000000)) (aNil)))))) (sRaise 1 (eV 0)) (sPass)
noncomputable def F_check_fraction : FF := bodyF 1 g_check_fraction
noncomputable def g_is_fraction : SF := sRet (eF 2 F_is_fraction_to (aCons (eV 0) (aCons (eC (.int 10000000000000000000000000000000000000000)) (aNil))))
noncomputable def F_is_fraction : FF := bodyF 1 g_is_fraction
noncomputable def g_ratio : SF := sSeq (sIf (tNotF (tV (eF 3 F_is_integer (aCons (eV 0) (aCons (e1 pNeg (eC (.int 10000000000000000000000000000000000000000))) (aCons (eC (.int 10000000000000000000000000000000000000000)) (aNil))))))) (sRaise 2 (eV 0)) (sPass)) (sSeq (sIf (tOrF (tNotF (tV (eF 3 F_is_integer (aCons (eV 1) (aCons (e1 pNeg (eC (.int 10000000000000000000000000000000000000000))) (aCons (eC (.int 10000000000000000000000000000000000000000)) (aNil))))))) (tB (e2 pEq (eV 1) (eC (.int 0))))) (sRaise 2 (eV 1)) (sPass)) (sRet (eF 2 F_made (aCons (eV 0) (aCons (eV 1) (aNil))))))
noncomputable def F_ratio : FF := bodyF 2 g_ratio
noncomputable def g_plus : SF := sSeq (sDrop (eF 1 F_check_fraction (aCons (eV 0) (aNil)))) (sSeq (sDrop (eF 1 F_check_fraction (aCons (eV 1) (aNil)))) (sRet (eF 2 F_plus_of (aCons (eV 0) (aCons (eV 1) (aNil))))))
noncomputable def F_plus : FF := bodyF 2 g_plus
noncomputable def g_minus : SF := sSeq (sDrop (eF 1 F_check_fraction (aCons (eV 0) (aNil)))) (sSeq (sDrop (eF 1 F_check_fraction (aCons (eV 1) (aNil)))) (sRet (eF 2 F_minus_of (aCons (eV 0) (aCons (eV 1) (aNil))))))
noncomputable def F_minus : FF := bodyF 2 g_minus
noncomputable def g_times : SF := sSeq (sDrop (eF 1 F_check_fraction (aCons (eV 0) (aNil)))) (sSeq (sDrop (eF 1 F_check_fraction (aCons (eV 1) (aNil)))) (sRet (eF 2 F_times_of (aCons (eV 0) (aCons (eV 1) (aNil))))))
noncomputable def F_times : FF := bodyF 2 g_times
noncomputable def g_over : SF := sSeq (sDrop (eF 1 F_check_fraction (aCons (eV 0) (aNil)))) (sSeq (sDrop (eF 1 F_check_fraction (aCons (eV 1) (aNil)))) (sSeq (sIf (tB (e2 pEq (e2 pIx (eV 1) (eC (.int 0))) (eC (.int 0)))) (sRaise 1 (eV 1)) (sPass)) (sRet (eF 2 F_over_of (aCons (eV 0) (aCons (eV 1) (aNil)))))))
noncomputable def F_over : FF := bodyF 2 g_over
noncomputable def g_compare : SF := sSeq (sDrop (eF 1 F_check_fraction (aCons (eV 0) (aNil)))) (sSeq (sDrop (eF 1 F_check_fraction (aCons (eV 1) (aNil)))) (sRet (e2 pSub (eN pInt1 (aCons (eF 2 F_is_below (aCons (eV 1) (aCons (eV 0) (aNil)))) (aNil))) (eN pInt1 (aCons (eF 2 F_is_below (aCons (eV 0) (aCons (eV 1) (aNil)))) (aNil))))))
noncomputable def F_compare : FF := bodyF 2 g_compare
noncomputable def g_unit : SF := sSeq (sIf (tNotF (tV (eF 3 F_is_tuple (aCons (eV 0) (aCons (eC (.int 1)) (aCons (eC (.int 100)) (aNil))))))) (sRaise 1 (eV 0)) (sPass)) (sSeq (sFor (iV (eV 0)) (gN 1) (sSeq (sDrop (eF 1 F_check_fraction (aCons (eV 1) (aNil)))) (sIf (tB (e2 pLt (e2 pIx (eV 1) (eC (.int 0))) (eC (.int 1)))) (sRaise 1 (eV 1)) (sPass)))) (sRet (eF 1 F_unit_of (aCons (eV 0) (aNil)))))
noncomputable def F_unit : FF := bodyF 2 g_unit
noncomputable def g_how_often : SF := sSeq (sDrop (eF 1 F_check_fraction (aCons (eV 0) (aNil)))) (sSeq (sDrop (eF 1 F_check_fraction (aCons (eV 1) (aNil)))) (sSeq (sIf (tB (e2 pLt (e2 pIx (eV 1) (eC (.int 0))) (eC (.int 1)))) (sRaise 1 (eV 1)) (sPass)) (sSeq (sSet 2 (eF 1 F_floor_of (aCons (eF 2 F_over_of (aCons (eV 0) (aCons (eV 1) (aNil)))) (aNil)))) (sRet (eTup (aCons (eV 2) (aCons (eF 2 F_minus_of (aCons (eV 0) (aCons (eF 2 F_times_of (aCons (eTup (aCons (eV 2) (aCons (eC (.int 1)) (aNil)))) (aCons (eV 1) (aNil)))) (aNil)))) (aNil))))))))
noncomputable def F_how_often : FF := bodyF 3 g_how_often
noncomputable def g_text_of : SF := sRet (eIf (tB (e2 pEq (e2 pIx (eV 0) (eC (.int 1))) (eC (.int 1)))) (eN pStr1 (aCons (e2 pIx (eV 0) (eC (.int 0))) (aNil))) (e2 pAdd (e2 pAdd (eN pStr1 (aCons (e2 pIx (eV 0) (eC (.int 0))) (aNil))) (eC (.str "/"))) (eN pStr1 (aCons (e2 pIx (eV 0) (eC (.int 1))) (aNil)))))
noncomputable def F_text_of : FF := bodyF 1 g_text_of
noncomputable def g_text : SF := sSeq (sDrop (eF 1 F_check_fraction (aCons (eV 0) (aNil)))) (sRet (eF 1 F_text_of (aCons (eV 0) (aNil))))
noncomputable def F_text : FF := bodyF 1 g_text
noncomputable def g_fraction_in : SF := sSeq (sAsg (eIf (tB (e2 pEq (eSl (eV 0) (oNone) (oSome (eC (.int 1)))) (eC (.str "-")))) (eTup (aCons (e1 pNeg (eC (.int 1))) (aCons (eSl (eV 0) (oSome (eC (.int 1))) (oNone)) (aNil)))) (eTup (aCons (eC (.int 1)) (aCons (eV 0) (aNil))))) (gT [gN 1, gN 2])) (sSeq (sSet 3 (eSplit (eV 2) (eC (.str "/")))) (sSeq (sOwn 4 (eComp (iV (eV 3)) (gN 5) (tYesF) (eF 2 F_read_number (aCons (eV 5) (aCons (eC (.int 1000000000000)) (aNil)))) [5])) (sSeq (sFrz 4 (sIf (tOrF (tB (e2 pGt (eN pLen (aCons (eV 3) (aNil))) (eC (.int 2)))) (tOrF (tB (e2 pIn (eC .non) (eV 4))) (tB (e2 pIn (eC (.int 0)) (eSl (eV 4) (oSome (eC (.int 1))) (oNone)))))) (sRet (eC .non)) (sPass))) (sSeq (sSet 6 (eF 2 F_made (aCons (e2 pMul (eV 1) (e2 pIx (eV 4) (eC (.int 0)))) (aCons (e2 pIx (e2 pAdd (eV 4) (eLst (aCons (eC (.int 1)) (aNil)))) (eC (.int 1))) (aNil))))) (sRet (eIf (tB (e2 pEq (eF 1 F_text_of (aCons (eV 6) (aNil))) (eV 0))) (eV 6) (eC .non)))))))
noncomputable def F_fraction_in : FF := bodyF 7 g_fraction_in
noncomputable def g_read : SF := sSeq (sSet 1 (eIf (tV (e1 (pIsi "str") (eV 0))) (eF 1 F_fraction_in (aCons (eV 0) (aNil))) (eC .non))) (sSeq (sIf (tB (e2 pIs (eV 1) (eC .non))) (sRaise 3 (eV 0)) (sPass)) (sRet (eV 1)))
noncomputable def F_read : FF := bodyF 2 g_read
noncomputable def g_law_pot : SF := sSeq (sSet 2 (eIf (tB (e2 pLt (eV 1) (eN pLen (aCons (eV 0) (aNil))))) (e2 pIx (eV 0) (eV 1)) (e2 pAdd (e2 pAdd (e2 pMod (eN pSum (aCons (eSl (eV 0) (oNone) (oSome (eC (.int 1)))) (aNil))) (eC (.int 1000003))) (e2 pMul (eC (.int 31281)) (eV 1))) (eC (.int 45042))))) (sSeq (sSet 3 (e2 pMul (e2 pMod (eN pInt1 (aCons (eN pAbs (aCons (eV 2) (aNil))) (aNil))) (e2 pPow (e2 pPow (eC (.int 10)) (eC (.int 60))) (eC (.int 5)))) (eN pInt1 (aCons (e2 pGe (eN pAbs (aCons (eV 2) (aNil))) (e2 pPow (eC (.int 10)) (eC (.int 18)))) (aNil))))) (sSeq (sSet 4 (e2 pMod (eN pInt1 (aCons (eV 2) (aNil))) (eC (.int 2305843009213693951)))) (sRet (eNew (aLen (aCons (eV 3) (aCons (e2 pMod (eN pInt1 (aCons (e2 pAdd (e2 pAdd (e2 pMul (eV 4) (eC (.int 11232))) (e2 pMul (e2 pMul (eC (.int 94960)) (eV 1)) (eV 1))) (eC (.int 26685))) (aNil))) (eC (.int 2305843009213693921))) (aCons (eC (.int 0)) (aNil)))))))))
noncomputable def F_law_pot : FF := bodyF 5 g_law_pot
noncomputable def g_law_take : SF := sSeq (sIf (tB (e2 pGt (e2 pIx (eV 0) (eC (.int 0))) (eC (.int 0)))) (sSeq (sSet 2 (e2 pMod (eN pInt1 (aCons (e2 pIx (eV 0) (eC (.int 0))) (aNil))) (eV 1))) (sSeq (sSetM (eV 0) (eC (.int 0)) (e2 pFdiv (e2 pIx (eV 0) (eC (.int 0))) (eV 1))) (sRet (eV 2)))) (sPass)) (sSeq (sSetM (eV 0) (eC (.int 2)) (e2 pAdd (e2 pIx (eV 0) (eC (.int 2))) (eC (.int 1)))) (sSeq (sSet 3 (e2 pIx (eLst (aCons (eC (.int 2147483647)) (aCons (eC (.int 2147483629)) (aCons (eC (.int 2147483587)) (aCons (eC (.int 2147483579)) (aCons (eC (.int 2147483563)) (aNil))))))) (e2 pMod (eN pInt1 (aCons (e2 pIx (eV 0) (eC (.int 2))) (aNil))) (eC (.int 5))))) (sSeq (sSet 4 (e2 pMod (eN pInt1 (aCons (e2 pPow (eN pInt1 (aCons (e2 pAdd (e2 pAdd (e2 pIx (eV 0) (eC (.int 1))) (e2 pMul (e2 pMul (eC (.int 58886)) (e2 pIx (eV 0) (eC (.int 2)))) (e2 pIx (eV 0) (eC (.int 2))))) (eC (.int 9555))) (aNil))) (eC (.int 3))) (aNil))) (eV 3))) (sSeq (sSet 4 (e2 pMod (eN pInt1 (aCons (e2 pMul (eV 4) (e2 pAdd (e2 pMod (eN pInt1 (aCons (eV 4) (aNil))) (eC (.int 93949))) (e2 pMul (eC (.int 6215)) (e2 pIx (eV 0) (eC (.int 2)))))) (aNil))) (eC (.int 2305843009213693907)))) (sRet (e2 pMod (eN pInt1 (aCons (e2 pFdiv (eV 4) (eC (.int 9973))) (aNil))) (eV 1)))))))
noncomputable def F_law_take : FF := bodyF 5 g_law_take
noncomputable def g_law_cells : SF := sRet (e1 (fun x m => pRg1 [x] m) (eN pMax2 (aCons (eC (.int 1)) (aCons (eN pMin2 (aCons (eV 1) (aCons (eN pLen (aCons (eV 0) (aNil))) (aNil)))) (aNil)))))
noncomputable def F_law_cells : FF := bodyF 2 g_law_cells
noncomputable def g_law_made : SF := sSeq (sPar [2, 3] (aCons (eN pAbs (aCons (eV 0) (aNil))) (aCons (eN pAbs (aCons (eV 1) (aNil))) (aNil)))) (sSeq (sFor (iR pRange1 (aCons (eC (.int 999)) (aNil))) (gN 4) (sSeq (sIf (tB (e2 pEq (eV 3) (eC (.int 0)))) (sBrk) (sPass)) (sPar [2, 3] (aCons (eV 3) (aCons (e2 pMod (eV 2) (eV 3)) (aNil)))))) (sSeq (sSet 5 (eIf (tB (e2 pGt (eV 1) (eC (.int 0)))) (eC (.int 1)) (e1 pNeg (eC (.int 1))))) (sRet (eTup (aCons (eN pInt1 (aCons (e2 pFdiv (e2 pMul (eV 5) (eV 0)) (eV 2)) (aNil))) (aCons (eN pInt1 (aCons (e2 pFdiv (e2 pMul (eV 5) (eV 1)) (eV 2)) (aNil))) (aNil)))))))
noncomputable def F_law_made : FF := bodyF 6 g_law_made
noncomputable def g_law_plus : SF := sRet (eF 2 F_law_made (aCons (e2 pAdd (e2 pMul (e2 pIx (eV 0) (eC (.int 0))) (e2 pIx (eV 1) (eC (.int 1)))) (e2 pMul (e2 pIx (eV 1) (eC (.int 0))) (e2 pIx (eV 0) (eC (.int 1))))) (aCons (e2 pMul (e2 pIx (eV 0) (eC (.int 1))) (e2 pIx (eV 1) (eC (.int 1)))) (aNil))))
noncomputable def F_law_plus : FF := bodyF 2 g_law_plus
noncomputable def g_law_minus : SF := sRet (eF 2 F_law_made (aCons (e2 pSub (e2 pMul (e2 pIx (eV 0) (eC (.int 0))) (e2 pIx (eV 1) (eC (.int 1)))) (e2 pMul (e2 pIx (eV 1) (eC (.int 0))) (e2 pIx (eV 0) (eC (.int 1))))) (aCons (e2 pMul (e2 pIx (eV 0) (eC (.int 1))) (e2 pIx (eV 1) (eC (.int 1)))) (aNil))))
noncomputable def F_law_minus : FF := bodyF 2 g_law_minus
noncomputable def g_law_times : SF := sRet (eF 2 F_law_made (aCons (e2 pMul (e2 pIx (eV 0) (eC (.int 0))) (e2 pIx (eV 1) (eC (.int 0)))) (aCons (e2 pMul (e2 pIx (eV 0) (eC (.int 1))) (e2 pIx (eV 1) (eC (.int 1)))) (aNil))))
noncomputable def F_law_times : FF := bodyF 2 g_law_times
noncomputable def g_law_over : SF := sRet (eF 2 F_law_made (aCons (e2 pMul (e2 pIx (eV 0) (eC (.int 0))) (e2 pIx (eV 1) (eC (.int 1)))) (aCons (e2 pMul (e2 pIx (eV 0) (eC (.int 1))) (e2 pIx (eV 1) (eC (.int 0)))) (aNil))))
noncomputable def F_law_over : FF := bodyF 2 g_law_over
noncomputable def g_law_below : SF := sRet (e2 pLt (e2 pMul (e2 pIx (eV 0) (eC (.int 0))) (e2 pIx (eV 1) (eC (.int 1)))) (e2 pMul (e2 pIx (eV 1) (eC (.int 0))) (e2 pIx (eV 0) (eC (.int 1)))))
noncomputable def F_law_below : FF := bodyF 2 g_law_below
noncomputable def g_law_gcd : SF := sSeq (sFor (iR pRange1 (aCons (eC (.int 999)) (aNil))) (gN 2) (sSeq (sIf (tB (e2 pEq (eV 1) (eC (.int 0)))) (sBrk) (sPass)) (sPar [0, 1] (aCons (eV 1) (aCons (e2 pMod (eV 0) (eV 1)) (aNil)))))) (sRet (eN pInt1 (aCons (eV 0) (aNil))))
noncomputable def F_law_gcd : FF := bodyF 3 g_law_gcd
noncomputable def g_law_drawn : SF := sSeq (sIf (tB (e2 pEq (eF 2 F_law_take (aCons (eV 0) (aCons (eC (.int 4)) (aNil)))) (eC (.int 0)))) (sRet (eF 2 F_law_made (aCons (e2 pSub (e2 pAdd (e2 pMul (eN pInt1 (aCons (eF 2 F_law_take (aCons (eV 0) (aCons (e2 pPow (eC (.int 10)) (eC (.int 9))) (aNil)))) (aNil))) (e2 pPow (eC (.int 10)) (eC (.int 10)))) (eN pInt1 (aCons (eF 2 F_law_take (aCons (eV 0) (aCons (e2 pPow (eC (.int 10)) (eC (.int 9))) (aNil)))) (aNil)))) (e2 pMul (eC (.int 5)) (e2 pPow (eC (.int 10)) (eC (.int 18))))) (aCons (e2 pAdd (eC (.int 1)) (eN pInt1 (aCons (eF 2 F_law_take (aCons (eV 0) (aCons (e2 pPow (eC (.int 10)) (eC (.int 9))) (aNil)))) (aNil)))) (aNil))))) (sPass)) (sRet (eF 2 F_law_made (aCons (e2 pSub (eN pInt1 (aCons (eF 2 F_law_take (aCons (eV 0) (aCons (eC (.int 41)) (aNil)))) (aNil))) (eC (.int 20))) (aCons (e2 pAdd (eC (.int 1)) (eN pInt1 (aCons (eF 2 F_law_take (aCons (eV 0) (aCons (eC (.int 12)) (aNil)))) (aNil)))) (aNil)))))
noncomputable def F_law_drawn : FF := bodyF 1 g_law_drawn
noncomputable def g_law_are_two_right : SF := sSeq (sIf (tOrF (tB (e2 pNe (eF 2 F_plus (aCons (eV 0) (aCons (eV 1) (aNil)))) (eF 2 F_law_plus (aCons (eV 0) (aCons (eV 1) (aNil)))))) (tB (e2 pNe (eF 2 F_minus (aCons (eV 0) (aCons (eV 1) (aNil)))) (eF 2 F_law_minus (aCons (eV 0) (aCons (eV 1) (aNil))))))) (sRet (eC (.bl false))) (sPass)) (sSeq (sIf (tB (e2 pNe (eF 2 F_times (aCons (eV 0) (aCons (eV 1) (aNil)))) (eF 2 F_law_times (aCons (eV 0) (aCons (eV 1) (aNil)))))) (sRet (eC (.bl false))) (sPass)) (sSeq (sSet 2 (e2 pSub (eN pInt1 (aCons (eF 2 F_law_below (aCons (eV 1) (aCons (eV 0) (aNil)))) (aNil))) (eN pInt1 (aCons (eF 2 F_law_below (aCons (eV 0) (aCons (eV 1) (aNil)))) (aNil))))) (sSeq (sIf (tOrF (tB (e2 pNe (eF 2 F_compare (aCons (eV 0) (aCons (eV 1) (aNil)))) (eV 2))) (tV (e1 (pIsi "bool") (eF 2 F_compare (aCons (eV 0) (aCons (eV 1) (aNil))))))) (sRet (eC (.bl false))) (sPass)) (sSeq (sIf (tB (e2 pEq (e2 pIx (eV 1) (eC (.int 0))) (eC (.int 0)))) (sSeq (sSet 3 (e2 pIx (eHeard (eF 2 F_over (aCons (eV 0) (aCons (eV 1) (aNil))))) (eC (.int 0)))) (sRet (eAnd (e1 (pIsX 1) (eV 3)) (e2 pEq (e1 pVal (eV 3)) (eV 1))))) (sPass)) (sSeq (sIf (tB (e2 pNe (eF 2 F_over (aCons (eV 0) (aCons (eV 1) (aNil)))) (eF 2 F_law_over (aCons (eV 0) (aCons (eV 1) (aNil)))))) (sRet (eC (.bl false))) (sPass)) (sSeq (sIf (tB (e2 pLt (e2 pIx (eV 1) (eC (.int 0))) (eC (.int 0)))) (sSeq (sSet 3 (e2 pIx (eHeard (eF 2 F_how_often (aCons (eV 0) (aCons (eV 1) (aNil))))) (eC (.int 0)))) (sRet (eAnd (e1 (pIsX 1) (eV 3)) (e2 pEq (e1 pVal (eV 3)) (eV 1))))) (sPass)) (sSeq (sAsg (eF 2 F_how_often (aCons (eV 0) (aCons (eV 1) (aNil)))) (gT [gN 4, gN 5])) (sSeq (sIf (tB (e2 pNe (eV 4) (e2 pFdiv (e2 pMul (e2 pIx (eV 0) (eC (.int 0))) (e2 pIx (eV 1) (eC (.int 1)))) (e2 pMul (e2 pIx (eV 0) (eC (.int 1))) (e2 pIx (eV 1) (eC (.int 0))))))) (sRet (eC (.bl false))) (sPass)) (sRet (eAnd (e2 pEq (eF 2 F_law_plus (aCons (eF 2 F_law_times (aCons (eTup (aCons (eV 4) (aCons (eC (.int 1)) (aNil)))) (aCons (eV 1) (aNil)))) (aCons (eV 5) (aNil)))) (eV 0)) (eAnd (e2 pGe (e2 pIx (eV 5) (eC (.int 0))) (eC (.int 0))) (eF 2 F_law_below (aCons (eV 5) (aCons (eV 1) (aNil)))))))))))))))
noncomputable def F_law_are_two_right : FF := bodyF 6 g_law_are_two_right
noncomputable def g_law_are_texts_right : SF := sSeq (sSet 2 (eIf (tB (e2 pEq (e2 pIx (eV 1) (eC (.int 1))) (eC (.int 1)))) (eN pStr1 (aCons (e2 pIx (eV 1) (eC (.int 0))) (aNil))) (e2 pAdd (e2 pAdd (eN pStr1 (aCons (e2 pIx (eV 1) (eC (.int 0))) (aNil))) (eC (.str "/"))) (eN pStr1 (aCons (e2 pIx (eV 1) (eC (.int 1))) (aNil)))))) (sSeq (sIf (tB (e2 pNe (eF 1 F_text (aCons (eV 1) (aNil))) (eV 2))) (sRet (eC (.bl false))) (sPass)) (sSeq (sSet 3 (eAnd (e2 pLt (eN pAbs (aCons (e2 pIx (eV 1) (eC (.int 0))) (aNil))) (e2 pPow (eC (.int 10)) (eC (.int 12)))) (e2 pLt (e2 pIx (eV 1) (eC (.int 1))) (e2 pPow (eC (.int 10)) (eC (.int 12)))))) (sSeq (sIf (tAndF (tV (eV 3)) (tB (e2 pNe (eF 1 F_read (aCons (eV 2) (aNil))) (eV 1)))) (sRet (eC (.bl false))) (sPass)) (sSeq (sFor (iV (eTup (aCons (eC (.str "")) (aCons (eC (.str "1/0")) (aCons (eC (.str "2/4")) (aCons (eC (.str "+1")) (aCons (eC (.str "01")) (aCons (eC (.str "1/1")) (aCons (eC (.str "-0")) (aCons (eC (.str " 1")) (aCons (eC (.str "1 ")) (aCons (eC (.str "1/-2")) (aCons (eC (.str "0/3")) (aCons (eC (.str "1234567890123")) (aCons (eC (.str "a")) (aCons (eC (.str "1//2")) (aNil))))))))))))))))) (gN 4) (sSeq (sSet 5 (e2 pIx (eHeard (eF 1 F_read (aCons (eV 4) (aNil)))) (eC (.int 0)))) (sIf (tOrF (tNotF (tV (e1 (pIsX 3) (eV 5)))) (tB (e2 pNe (e1 pVal (eV 5)) (eV 4)))) (sRet (eC (.bl false))) (sPass)))) (sSeq (sSet 5 (e2 pIx (eHeard (eF 1 F_read (aCons (eV 1) (aNil)))) (eC (.int 0)))) (sRet (eAnd (e1 (pIsX 3) (eV 5)) (e2 pEq (e1 pVal (eV 5)) (eV 1)))))))))
noncomputable def F_law_are_texts_right : FF := bodyF 6 g_law_are_texts_right
noncomputable def g_law_is_unit_right : SF := sSeq (sSet 1 (e2 pAdd (eC (.int 1)) (eF 2 F_law_take (aCons (eV 0) (aCons (eC (.int 5)) (aNil)))))) (sSeq (sSet 2 (eN pTup1 (aCons (eLstOf (eComp (iR pRange1 (aCons (eV 1) (aNil))) (gN 3) (tYesF) (eF 2 F_law_made (aCons (e2 pAdd (eC (.int 1)) (eN pInt1 (aCons (eF 2 F_law_take (aCons (eV 0) (aCons (eC (.int 30)) (aNil)))) (aNil)))) (aCons (e2 pAdd (eC (.int 1)) (eN pInt1 (aCons (eF 2 F_law_take (aCons (eV 0) (aCons (eC (.int 9)) (aNil)))) (aNil)))) (aNil)))) [3])) (aNil)))) (sSeq (sSet 4 (eF 1 F_unit (aCons (eV 2) (aNil)))) (sSeq (sOwn 5 (eComp (iV (eV 2)) (gN 6) (tYesF) (eF 2 F_law_over (aCons (eV 6) (aCons (eV 4) (aNil)))) [6])) (sSeq (sFrz 5 (sIf (tOrF (tV (eN pAny (aCons (eLstOf (eComp (iV (eV 5)) (gN 6) (tYesF) (e2 pNe (e2 pIx (eV 6) (eC (.int 1))) (eC (.int 1))) [6])) (aNil)))) (tB (e2 pLt (e2 pIx (eV 4) (eC (.int 0))) (eC (.int 1))))) (sRet (eC (.bl false))) (sPass))) (sSeq (sSet 7 (eC (.int 0))) (sSeq (sFor (iV (eV 5)) (gN 6) (sSet 7 (eF 2 F_law_gcd (aCons (eV 7) (aCons (e2 pIx (eV 6) (eC (.int 0))) (aNil)))))) (sSeq (sIf (tB (e2 pNe (eV 7) (eC (.int 1)))) (sRet (eC (.bl false))) (sPass)) (sSeq (sFor (iV (eTup (aCons (e2 pAdd (eV 2) (eTup (aCons (eTup (aCons (eC (.int 0)) (aCons (eC (.int 1)) (aNil)))) (aNil)))) (aCons (e2 pAdd (eV 2) (eTup (aCons (eTup (aCons (e1 pNeg (eC (.int 1))) (aCons (eC (.int 2)) (aNil)))) (aNil)))) (aCons (e2 pAdd (eV 2) (eTup (aCons (eTup (aCons (eC (.int 2)) (aCons (eC (.int 4)) (aNil)))) (aNil)))) (aNil)))))) (gN 8) (sSeq (sSet 9 (e2 pIx (eHeard (eF 1 F_unit (aCons (eV 8) (aNil)))) (eC (.int 0)))) (sIf (tOrF (tNotF (tV (e1 (pIsX 1) (eV 9)))) (tB (e2 pNe (e1 pVal (eV 9)) (e2 pIx (eV 8) (e1 pNeg (eC (.int 1))))))) (sRet (eC (.bl false))) (sPass)))) (sSeq (sSet 9 (e2 pIx (eHeard (eF 1 F_unit (aCons (eTup (aNil)) (aNil)))) (eC (.int 0)))) (sRet (eAnd (e1 (pIsX 1) (eV 9)) (e2 pEq (e1 pVal (eV 9)) (eTup (aNil))))))))))))))
noncomputable def F_law_is_unit_right : FF := bodyF 10 g_law_is_unit_right
noncomputable def g_law_right : SF := sSeq (sAsg (eTup (aCons (eF 1 F_law_drawn (aCons (eV 0) (aNil))) (aCons (eF 1 F_law_drawn (aCons (eV 0) (aNil))) (aNil)))) (gT [gN 1, gN 2])) (sSeq (sIf (tOrF (tB (e2 pIsNot (eF 1 F_is_fraction (aCons (eV 1) (aNil))) (eC (.bl true)))) (tB (e2 pIsNot (eF 1 F_is_fraction (aCons (eTup (aCons (e2 pMul (e2 pIx (eV 1) (eC (.int 0))) (eC (.int 2))) (aCons (e2 pMul (e2 pIx (eV 1) (eC (.int 1))) (eC (.int 2))) (aNil)))) (aNil))) (eC (.bl false))))) (sRet (eC (.bl false))) (sPass)) (sSeq (sFor (iV (eTup (aCons (eTup (aCons (eC (.int 1)) (aCons (eC (.int 0)) (aNil)))) (aCons (eTup (aCons (eC (.int 1)) (aCons (e1 pNeg (eC (.int 2))) (aNil)))) (aCons (eTup (aCons (eC (.bl true)) (aCons (eC (.int 1)) (aNil)))) (aCons (eTup (aCons (eC (.int 1)) (aCons (eC (.bl true)) (aNil)))) (aCons (eTup (aCons (eC (.int 1)) (aNil))) (aCons (eLst (aCons (eC (.int 1)) (aCons (eC (.int 2)) (aNil)))) (aCons (eC .non) (aCons (eC (.str "1/2")) (aCons (eTup (aCons (eC (.int 1)) (aCons (eC (.int 2)) (aCons (eC (.int 3)) (aNil))))) (aCons (eTup (aCons (e2 pAdd (e2 pPow (eC (.int 10)) (eC (.int 40))) (eC (.int 1))) (aCons (eC (.int 1)) (aNil)))) (aNil))))))))))))) (gN 3) (sSeq (sIf (tB (e2 pIsNot (eF 1 F_is_fraction (aCons (eV 3) (aNil))) (eC (.bl false)))) (sRet (eC (.bl false))) (sPass)) (sSeq (sSet 4 (e2 pIx (eHeard (eF 2 F_plus (aCons (eV 1) (aCons (eV 3) (aNil))))) (eC (.int 0)))) (sIf (tOrF (tNotF (tV (e1 (pIsX 1) (eV 4)))) (tB (e2 pNe (eN pRepr (aCons (e1 pVal (eV 4)) (aNil))) (eN pRepr (aCons (eV 3) (aNil)))))) (sRet (eC (.bl false))) (sPass))))) (sSeq (sAsg (eTup (aCons (e2 pSub (eN pInt1 (aCons (eF 2 F_law_take (aCons (eV 0) (aCons (eC (.int 99)) (aNil)))) (aNil))) (eC (.int 49))) (aCons (e2 pSub (eN pInt1 (aCons (eF 2 F_law_take (aCons (eV 0) (aCons (eC (.int 99)) (aNil)))) (aNil))) (eC (.int 49))) (aNil)))) (gT [gN 5, gN 6])) (sSeq (sIf (tB (e2 pEq (eV 6) (eC (.int 0)))) (sSeq (sSet 4 (e2 pIx (eHeard (eF 2 F_ratio (aCons (eV 5) (aCons (eV 6) (aNil))))) (eC (.int 0)))) (sIf (tOrF (tNotF (tV (e1 (pIsX 2) (eV 4)))) (tB (e2 pNe (e1 pVal (eV 4)) (eC (.int 0))))) (sRet (eC (.bl false))) (sPass))) (sIf (tB (e2 pNe (eF 2 F_ratio (aCons (eV 5) (aCons (eV 6) (aNil)))) (eF 2 F_law_made (aCons (eV 5) (aCons (eV 6) (aNil)))))) (sRet (eC (.bl false))) (sPass))) (sRet (eAnd (eF 2 F_law_are_two_right (aCons (eV 1) (aCons (eV 2) (aNil)))) (eAnd (eF 2 F_law_are_texts_right (aCons (eV 0) (aCons (eV 1) (aNil)))) (eF 1 F_law_is_unit_right (aCons (eV 0) (aNil))))))))))
noncomputable def F_law_right : FF := bodyF 7 g_law_right
noncomputable def g_law : SF := sSeq (sFor (iV (eF 2 F_law_cells (aCons (eV 0) (aCons (eC (.int 4)) (aNil))))) (gN 1) (sSeq (sSet 2 (eF 2 F_law_pot (aCons (eV 0) (aCons (eV 1) (aNil))))) (sIf (tNotF (tV (eN pAll (aCons (eLstOf (eComp (iR pRange1 (aCons (eC (.int 3)) (aNil))) (gN 3) (tYesF) (eF 1 F_law_right (aCons (eV 2) (aNil))) [3])) (aNil))))) (sRet (eC (.bl false))) (sPass)))) (sRet (eC (.bl true)))
noncomputable def F_law : FF := bodyF 4 g_law
/-- what the head tells -/
structure Sys (P : Program) (w : World) (K : PySem.W.Frag) (mg : Str → Option Value) (base : Heap) (G : Gc) : Prop where
  d_is_integer : Def1 K mg "is_integer" (top 1)
  d_is_tuple : Def1 K mg "is_tuple" (top 2)
  d_read_number : Def1 K mg "read_number" (top 3)
  d_common : Def1 K mg "common" (top 14)
  d_made : Def1 K mg "made" (top 15)
  d_plus_of : Def1 K mg "plus_of" (top 16)
  d_minus_of : Def1 K mg "minus_of" (top 17)
  d_times_of : Def1 K mg "times_of" (top 18)
  d_over_of : Def1 K mg "over_of" (top 19)
  d_is_below : Def1 K mg "is_below" (top 20)
  d_floor_of : Def1 K mg "floor_of" (top 21)
  d_unit_of : Def1 K mg "unit_of" (top 22)
  d_is_fraction_to : Def1 K mg "is_fraction_to" (top 23)
  d_check_fraction : Def1 K mg "check_fraction" (top 24)
  d_is_fraction : Def1 K mg "is_fraction" (top 25)
  d_ratio : Def1 K mg "ratio" (top 26)
  d_plus : Def1 K mg "plus" (top 27)
  d_minus : Def1 K mg "minus" (top 28)
  d_times : Def1 K mg "times" (top 29)
  d_over : Def1 K mg "over" (top 30)
  d_compare : Def1 K mg "compare" (top 31)
  d_unit : Def1 K mg "unit" (top 32)
  d_how_often : Def1 K mg "how_often" (top 33)
  d_text_of : Def1 K mg "text_of" (top 35)
  d_text : Def1 K mg "text" (top 34)
  d_fraction_in : Def1 K mg "fraction_in" (top 36)
  d_read : Def1 K mg "read" (top 37)
  d__law_pot : Def1 K mg "_law_pot" (top 39)
  d__law_take : Def1 K mg "_law_take" (top 40)
  d__law_cells : Def1 K mg "_law_cells" (top 41)
  d__law_made : Def1 K mg "_law_made" (top 43)
  d__law_plus : Def1 K mg "_law_plus" (top 44)
  d__law_minus : Def1 K mg "_law_minus" (top 45)
  d__law_times : Def1 K mg "_law_times" (top 46)
  d__law_over : Def1 K mg "_law_over" (top 47)
  d__law_below : Def1 K mg "_law_below" (top 48)
  d__law_gcd : Def1 K mg "_law_gcd" (top 49)
  d__law_drawn : Def1 K mg "_law_drawn" (top 50)
  d__law_are_two_right : Def1 K mg "_law_are_two_right" (top 51)
  d__law_are_texts_right : Def1 K mg "_law_are_texts_right" (top 52)
  d__law_is_unit_right : Def1 K mg "_law_is_unit_right" (top 53)
  d__law_right : Def1 K mg "_law_right" (top 54)
  d_law : Def1 K mg "law" (top 55)
  b_abs : mg "abs" = none
  b_all : mg "all" = none
  b_any : mg "any" = none
  b_bool : mg "bool" = none
  b_int : mg "int" = none
  b_isinstance : mg "isinstance" = none
  b_len : mg "len" = none
  b_list : mg "list" = none
  b_max : mg "max" = none
  b_min : mg "min" = none
  b_range : mg "range" = none
  b_repr : mg "repr" = none
  b_str : mg "str" = none
  b_sum : mg "sum" = none
  b_tuple : mg "tuple" = none
  g_MOST : ∃ t, mg "MOST" = some (.int 1000000000000 t)
  g_MOST_HANDED : ∃ t, mg "MOST_HANDED" = some (.int 10000000000000000000000000000000000000000 t)
  g_PAIR : ∃ t, mg "PAIR" = some (.int 2 t)
  g_WHOLE : mg "WHOLE" = some (.ref (He.ga K "WHOLE"))
  v_WHOLE : ∀ w, RV K G w (.tup [.int 1, .int 1]) (.ref (He.ga K "WHOLE"))
  hT : ∀ k, Er.CT K (G.ca 0) (He.ma K (G.ca 0) "__init__") (G.ca k)
  init : Er.IT P K mg (G.ca 0) (He.ma K (G.ca 0) "__init__")
  e_ClockError : mg "ClockError" = some (.ref (G.ca 0))
  e_BadFraction : mg "BadFraction" = some (.ref (G.ca 1))
  e_BadNumber : mg "BadNumber" = some (.ref (G.ca 2))
  e_NoText : mg "NoText" = some (.ref (G.ca 3))
  hear : Hear K mg G
  l__law_are_two_right : ∃ (cc Pt : Addr), (∀ (f : Addr) (fd : FuncData), mg "_law_are_two_right" = some (.ref f) → (∃ (oc : Value) (od : Option Addr) (osl : Array (Option Value)), K.lookup f = some ⟨oc, od, .func fd, osl⟩) → fd.code = .ref cc) ∧ LamX.TabB base mg cc Pt ∧ (Pt, (("_law_are_two_right" : Str) ++ ".<locals>.") ++ "<lambda>") ∈ G.T ∧ ∀ p ∈ G.T, p.1 = Pt → p.2 = (("_law_are_two_right" : Str) ++ ".<locals>.") ++ "<lambda>"
  l__law_are_texts_right : ∃ (cc Pt : Addr), (∀ (f : Addr) (fd : FuncData), mg "_law_are_texts_right" = some (.ref f) → (∃ (oc : Value) (od : Option Addr) (osl : Array (Option Value)), K.lookup f = some ⟨oc, od, .func fd, osl⟩) → fd.code = .ref cc) ∧ LamX.TabB base mg cc Pt ∧ (Pt, (("_law_are_texts_right" : Str) ++ ".<locals>.") ++ "<lambda>") ∈ G.T ∧ ∀ p ∈ G.T, p.1 = Pt → p.2 = (("_law_are_texts_right" : Str) ++ ".<locals>.") ++ "<lambda>"
  l__law_is_unit_right : ∃ (cc Pt : Addr), (∀ (f : Addr) (fd : FuncData), mg "_law_is_unit_right" = some (.ref f) → (∃ (oc : Value) (od : Option Addr) (osl : Array (Option Value)), K.lookup f = some ⟨oc, od, .func fd, osl⟩) → fd.code = .ref cc) ∧ LamX.TabB base mg cc Pt ∧ (Pt, (("_law_is_unit_right" : Str) ++ ".<locals>.") ++ "<lambda>") ∈ G.T ∧ ∀ p ∈ G.T, p.1 = Pt → p.2 = (("_law_is_unit_right" : Str) ++ ".<locals>.") ++ "<lambda>"
  l__law_right : ∃ (cc Pt : Addr), (∀ (f : Addr) (fd : FuncData), mg "_law_right" = some (.ref f) → (∃ (oc : Value) (od : Option Addr) (osl : Array (Option Value)), K.lookup f = some ⟨oc, od, .func fd, osl⟩) → fd.code = .ref cc) ∧ LamX.TabB base mg cc Pt ∧ (Pt, (("_law_right" : Str) ++ ".<locals>.") ++ "<lambda>") ∈ G.T ∧ ∀ p ∈ G.T, p.1 = Pt → p.2 = (("_law_right" : Str) ++ ".<locals>.") ++ "<lambda>"
end LK00
set_option maxRecDepth 100000
set_option maxHeartbeats 400000
set_option autoImplicit false
namespace LK00
open PySem PySem.Spec PyProof.Rows L2 Pv
section
variable {P : Program} {w : World} {K : PySem.W.Frag} {mg : Str → Option Value} {base : Heap} {G : Gc}
theorem sc_is_integer : FnScope ["value", "low", "high"] ["value", "low", "high"] (defScope (top 1)) := ⟨rfl, rfl, rfl, by decide +kernel, rfl, by decide +kernel, by decide +kernel⟩
theorem ok_is_integer (c : Sys P w K mg base G) : DefOk P w K mg base G "is_integer" 1 3 F_is_integer :=
  (c.d_is_integer).ok sc_is_integer (fun _ _ _ _ _ _ us hl => match us, hl with | [_, _, _], _ => rfl) <| fun f cdv A outer s H E hr => by
    have nd := sc_is_integer.nd
    have tk := (takes_of rfl rfl rfl rfl : Takes (cxOf (L2.CX P w) P w K mg base ["value", "low", "high"] "is_integer" (defScope (top 1)) f cdv A outer s H E) (WB E))
    exact (jss_one (js_ret (je_and (isi_ (n_ 0) (by rfl) c.b_isinstance (by rfl) c.b_int) (je_and (je_not (isi_ (n_ 0) (by rfl) c.b_isinstance (by rfl) c.b_bool)) (je_one (ch_ op_le op_le sCmp sCmp (n_ 1) (n_ 0) (n_ 2)))))))
theorem sc_is_tuple : FnScope ["value", "low", "high"] ["value", "low", "high"] (defScope (top 2)) := ⟨rfl, rfl, rfl, by decide +kernel, rfl, by decide +kernel, by decide +kernel⟩
theorem ok_is_tuple (c : Sys P w K mg base G) : DefOk P w K mg base G "is_tuple" 1 3 F_is_tuple :=
  (c.d_is_tuple).ok sc_is_tuple (fun _ _ _ _ _ _ us hl => match us, hl with | [_, _, _], _ => rfl) <| fun f cdv A outer s H E hr => by
    have nd := sc_is_tuple.nd
    have tk := (takes_of rfl rfl rfl rfl : Takes (cxOf (L2.CX P w) P w K mg base ["value", "low", "high"] "is_tuple" (defScope (top 2)) f cdv A outer s H E) (WB E))
    exact (jss_one (js_ret (je_and (isi_ (n_ 0) (by rfl) c.b_isinstance (by rfl) c.b_tuple) (je_one (ch_ op_le op_le sCmp sCmp (n_ 1) (je_fn call_lenAll sLen (by rfl) c.b_len (ja_c (n_ 0) ja_nil)) (n_ 2))))))
theorem sc_read_number : FnScope ["word", "high", "sign"] ["word", "high"] (defScope (top 3)) := ⟨rfl, rfl, rfl, by decide +kernel, rfl, by decide +kernel, by decide +kernel⟩
theorem ok_read_number (c : Sys P w K mg base G) : DefOk P w K mg base G "read_number" 1 2 F_read_number :=
  (c.d_read_number).ok sc_read_number (fun _ _ _ _ _ _ us hl => match us, hl with | [_, _], _ => rfl) <| fun f cdv A outer s H E hr => by
    have nd := sc_read_number.nd
    have tk := (takes_of rfl rfl rfl rfl : Takes (cxOf (L2.CX P w) P w K mg base ["word", "high", "sign"] "read_number" (defScope (top 3)) f cdv A outer s H E) (WB E))
    exact (jss_cons (js_if (PW.pt (jw_or (tcm_ (op_eqD (hu4 hr)) sEq (n_ 0) je_str) (jw_or (jt_not (jt_t (je_fn (cr_all (by rfl)) sAll (by rfl) c.b_all (ja_c (je_lof (lc_ (own := [("sign", 2)]) (by rfl) nd (ji_any (n_ 0)) (blkOk_by (N := ["word", "high", "sign"]) (sc := defScope (top 3)) (own := [("sign", 2)]) (by decide +kernel)) (fun _ _ _ _ _ => (gn_ nd 2)) (fun _ _ _ _ _ => jts_nil) (fun _ _ _ _ _ => (cm_ (op_inAll (hu5 hr)) sIn (n_ 2) je_str)))) ja_nil)))) (jw_or1 (tcm_ op_gt sCmp (je_fn call_lenAll sLen (by rfl) c.b_len (ja_c (n_ 0) ja_nil)) je_int))))) (jss_one (js_ret je_non)) jss_nil) (jss_cons (js_if (PW.pt (jw_and (tcm_ op_gt sCmp (je_fn call_lenAll sLen (by rfl) c.b_len (ja_c (n_ 0) ja_nil)) je_int) (jw_and1 (tcm_ (op_eqD (hu4 hr)) sEq (ix_ (n_ 0) je_int) je_str)))) (jss_one (js_ret je_non)) jss_nil) (jss_one (js_ret (je_if (tcm_ op_le sCmp (je_ty call_intAll sInt1 (by rfl) c.b_int (ja_c (n_ 0) ja_nil)) (n_ 1)) (je_ty call_intAll sInt1 (by rfl) c.b_int (ja_c (n_ 0) ja_nil)) je_non)))))
theorem sc_common : FnScope ["one", "other"] ["one", "other"] (defScope (top 14)) := ⟨rfl, rfl, rfl, by decide +kernel, rfl, by decide +kernel, by decide +kernel⟩
theorem ok_common (c : Sys P w K mg base G) : DefOk P w K mg base G "common" 1 2 F_common :=
  (c.d_common).ok sc_common (fun _ _ _ _ _ _ us hl => match us, hl with | [_, _], _ => rfl) <| fun f cdv A outer s H E hr => by
    have nd := sc_common.nd
    have tk := (takes_of rfl rfl rfl rfl : Takes (cxOf (L2.CX P w) P w K mg base ["one", "other"] "common" (defScope (top 14)) f cdv A outer s H E) (WB E))
    exact (jss_cons (p2_ (by rfl) nd 0 1 (ja_c (je_fn call_abs sAbs (by rfl) c.b_abs (ja_c (n_ 0) ja_nil)) (ja_c (je_fn call_abs sAbs (by rfl) c.b_abs (ja_c (n_ 1) ja_nil)) ja_nil))) (jss_cons (js_while (passes_of (by rfl)) (tcm_ (op_neD (hu4 hr)) sNe (n_ 1) je_int) (jss_one (p2_ (by rfl) nd 0 1 (ja_c (n_ 1) (ja_c (je_bin op_mod sMod (n_ 0) (n_ 1)) ja_nil))))) (jss_one (js_ret (n_ 0)))))
theorem sc_made : FnScope ["top", "low", "share"] ["top", "low"] (defScope (top 15)) := ⟨rfl, rfl, rfl, by decide +kernel, rfl, by decide +kernel, by decide +kernel⟩
theorem ok_made (c : Sys P w K mg base G) : DefOk P w K mg base G "made" 2 2 F_made :=
  (c.d_made).ok sc_made (fun _ _ _ _ _ _ us hl => match us, hl with | [_, _], _ => rfl) <| fun f cdv A outer s H E hr => by
    have nd := sc_made.nd
    have tk := (takes_of rfl rfl rfl rfl : Takes (cxOf (L2.CX P w) P w K mg base ["top", "low", "share"] "made" (defScope (top 15)) f cdv A outer s H E) (WB E))
    exact (jss_cons (js_if (tcm_ op_lt sCmp (n_ 1) je_int) (jss_one (p2_ (by rfl) nd 0 1 (ja_c (je_un un_neg sNeg (n_ 0)) (ja_c (je_un un_neg sNeg (n_ 1)) ja_nil)))) jss_nil) (jss_cons (s_ nd 2 (je_callD (ok_common c) (hr.mono (by decide)) (by rfl) tk (ja_c (n_ 0) (ja_c (n_ 1) ja_nil)))) (jss_one (js_ret (je_tup (ja_c (je_bin op_fdivW sFdiv (n_ 0) (n_ 2)) (ja_c (je_bin op_fdivW sFdiv (n_ 1) (n_ 2)) ja_nil)))))))
theorem sc_plus_of : FnScope ["one", "other"] ["one", "other"] (defScope (top 16)) := ⟨rfl, rfl, rfl, by decide +kernel, rfl, by decide +kernel, by decide +kernel⟩
theorem ok_plus_of (c : Sys P w K mg base G) : DefOk P w K mg base G "plus_of" 3 2 F_plus_of :=
  (c.d_plus_of).ok sc_plus_of (fun _ _ _ _ _ _ us hl => match us, hl with | [_, _], _ => rfl) <| fun f cdv A outer s H E hr => by
    have nd := sc_plus_of.nd
    have tk := (takes_of rfl rfl rfl rfl : Takes (cxOf (L2.CX P w) P w K mg base ["one", "other"] "plus_of" (defScope (top 16)) f cdv A outer s H E) (WB E))
    exact (jss_one (js_ret (je_callD (ok_made c) (hr.mono (by decide)) (by rfl) tk (ja_c (je_bin op_addAll sAdd (je_bin op_mulAll sMul (ix_ (n_ 0) je_int) (ix_ (n_ 1) je_int)) (je_bin op_mulAll sMul (ix_ (n_ 1) je_int) (ix_ (n_ 0) je_int))) (ja_c (je_bin op_mulAll sMul (ix_ (n_ 0) je_int) (ix_ (n_ 1) je_int)) ja_nil)))))
theorem sc_minus_of : FnScope ["one", "other"] ["one", "other"] (defScope (top 17)) := ⟨rfl, rfl, rfl, by decide +kernel, rfl, by decide +kernel, by decide +kernel⟩
theorem ok_minus_of (c : Sys P w K mg base G) : DefOk P w K mg base G "minus_of" 3 2 F_minus_of :=
  (c.d_minus_of).ok sc_minus_of (fun _ _ _ _ _ _ us hl => match us, hl with | [_, _], _ => rfl) <| fun f cdv A outer s H E hr => by
    have nd := sc_minus_of.nd
    have tk := (takes_of rfl rfl rfl rfl : Takes (cxOf (L2.CX P w) P w K mg base ["one", "other"] "minus_of" (defScope (top 17)) f cdv A outer s H E) (WB E))
    exact (jss_one (js_ret (je_callD (ok_made c) (hr.mono (by decide)) (by rfl) tk (ja_c (je_bin op_sub sSub (je_bin op_mulAll sMul (ix_ (n_ 0) je_int) (ix_ (n_ 1) je_int)) (je_bin op_mulAll sMul (ix_ (n_ 1) je_int) (ix_ (n_ 0) je_int))) (ja_c (je_bin op_mulAll sMul (ix_ (n_ 0) je_int) (ix_ (n_ 1) je_int)) ja_nil)))))
theorem sc_times_of : FnScope ["one", "other"] ["one", "other"] (defScope (top 18)) := ⟨rfl, rfl, rfl, by decide +kernel, rfl, by decide +kernel, by decide +kernel⟩
theorem ok_times_of (c : Sys P w K mg base G) : DefOk P w K mg base G "times_of" 3 2 F_times_of :=
  (c.d_times_of).ok sc_times_of (fun _ _ _ _ _ _ us hl => match us, hl with | [_, _], _ => rfl) <| fun f cdv A outer s H E hr => by
    have nd := sc_times_of.nd
    have tk := (takes_of rfl rfl rfl rfl : Takes (cxOf (L2.CX P w) P w K mg base ["one", "other"] "times_of" (defScope (top 18)) f cdv A outer s H E) (WB E))
    exact (jss_one (js_ret (je_callD (ok_made c) (hr.mono (by decide)) (by rfl) tk (ja_c (je_bin op_mulAll sMul (ix_ (n_ 0) je_int) (ix_ (n_ 1) je_int)) (ja_c (je_bin op_mulAll sMul (ix_ (n_ 0) je_int) (ix_ (n_ 1) je_int)) ja_nil)))))
theorem sc_over_of : FnScope ["one", "other"] ["one", "other"] (defScope (top 19)) := ⟨rfl, rfl, rfl, by decide +kernel, rfl, by decide +kernel, by decide +kernel⟩
theorem ok_over_of (c : Sys P w K mg base G) : DefOk P w K mg base G "over_of" 3 2 F_over_of :=
  (c.d_over_of).ok sc_over_of (fun _ _ _ _ _ _ us hl => match us, hl with | [_, _], _ => rfl) <| fun f cdv A outer s H E hr => by
    have nd := sc_over_of.nd
    have tk := (takes_of rfl rfl rfl rfl : Takes (cxOf (L2.CX P w) P w K mg base ["one", "other"] "over_of" (defScope (top 19)) f cdv A outer s H E) (WB E))
    exact (jss_one (js_ret (je_callD (ok_made c) (hr.mono (by decide)) (by rfl) tk (ja_c (je_bin op_mulAll sMul (ix_ (n_ 0) je_int) (ix_ (n_ 1) je_int)) (ja_c (je_bin op_mulAll sMul (ix_ (n_ 0) je_int) (ix_ (n_ 1) je_int)) ja_nil)))))
theorem sc_is_below : FnScope ["one", "other"] ["one", "other"] (defScope (top 20)) := ⟨rfl, rfl, rfl, by decide +kernel, rfl, by decide +kernel, by decide +kernel⟩
theorem ok_is_below (c : Sys P w K mg base G) : DefOk P w K mg base G "is_below" 1 2 F_is_below :=
  (c.d_is_below).ok sc_is_below (fun _ _ _ _ _ _ us hl => match us, hl with | [_, _], _ => rfl) <| fun f cdv A outer s H E hr => by
    have nd := sc_is_below.nd
    have tk := (takes_of rfl rfl rfl rfl : Takes (cxOf (L2.CX P w) P w K mg base ["one", "other"] "is_below" (defScope (top 20)) f cdv A outer s H E) (WB E))
    exact (jss_one (js_ret (cm_ op_lt sCmp (je_bin op_mulAll sMul (ix_ (n_ 0) je_int) (ix_ (n_ 1) je_int)) (je_bin op_mulAll sMul (ix_ (n_ 1) je_int) (ix_ (n_ 0) je_int)))))
theorem sc_floor_of : FnScope ["one"] ["one"] (defScope (top 21)) := ⟨rfl, rfl, rfl, by decide +kernel, rfl, by decide +kernel, by decide +kernel⟩
theorem ok_floor_of (c : Sys P w K mg base G) : DefOk P w K mg base G "floor_of" 1 1 F_floor_of :=
  (c.d_floor_of).ok sc_floor_of (fun _ _ _ _ _ _ us hl => match us, hl with | [_], _ => rfl) <| fun f cdv A outer s H E hr => by
    have nd := sc_floor_of.nd
    have tk := (takes_of rfl rfl rfl rfl : Takes (cxOf (L2.CX P w) P w K mg base ["one"] "floor_of" (defScope (top 21)) f cdv A outer s H E) (WB E))
    exact (jss_one (js_ret (je_bin op_fdivW sFdiv (ix_ (n_ 0) je_int) (ix_ (n_ 0) je_int))))
theorem sc_unit_of : FnScope ["rows", "top", "low", "one"] ["rows"] (defScope (top 22)) := ⟨rfl, rfl, rfl, by decide +kernel, rfl, by decide +kernel, by decide +kernel⟩
theorem ok_unit_of (c : Sys P w K mg base G) : DefOk P w K mg base G "unit_of" 3 1 F_unit_of :=
  (c.d_unit_of).ok sc_unit_of (fun _ _ _ _ _ _ us hl => match us, hl with | [_], _ => rfl) <| fun f cdv A outer s H E hr => by
    have nd := sc_unit_of.nd
    have tk := (takes_of rfl rfl rfl rfl : Takes (cxOf (L2.CX P w) P w K mg base ["rows", "top", "low", "one"] "unit_of" (defScope (top 22)) f cdv A outer s H E) (WB E))
    exact (jss_cons (as_ (je_tup (ja_c je_int (ja_c je_int ja_nil))) (gt_ (by rfl) (gc_ (gn_ nd 1) (gc_ (gn_ nd 2) jgs_nil)))) (jss_cons (fo_ (passes_of (by rfl)) (by rfl) (ji_any (n_ 0)) (gn_ nd 3) (jss_one (s_ nd 2 (je_bin op_fdivW sFdiv (je_bin op_mulAll sMul (n_ 2) (ix_ (n_ 3) je_int)) (je_callD (ok_common c) (hr.mono (by decide)) (by rfl) tk (ja_c (n_ 2) (ja_c (ix_ (n_ 3) je_int) ja_nil))))))) (jss_cons (fo_ (passes_of (by rfl)) (by rfl) (ji_any (n_ 0)) (gn_ nd 3) (jss_one (s_ nd 1 (je_callD (ok_common c) (hr.mono (by decide)) (by rfl) tk (ja_c (n_ 1) (ja_c (je_bin op_mulAll sMul (ix_ (n_ 3) je_int) (je_bin op_fdivW sFdiv (n_ 2) (ix_ (n_ 3) je_int))) ja_nil)))))) (jss_one (js_ret (je_if (tcm_ op_gt sCmp (n_ 1) je_int) (je_callD (ok_made c) (hr.mono (by decide)) (by rfl) tk (ja_c (n_ 1) (ja_c (n_ 2) ja_nil))) (je_gval c.g_WHOLE c.v_WHOLE (by rfl))))))))
theorem sc_is_fraction_to : FnScope ["value", "most"] ["value", "most"] (defScope (top 23)) := ⟨rfl, rfl, rfl, by decide +kernel, rfl, by decide +kernel, by decide +kernel⟩
theorem ok_is_fraction_to (c : Sys P w K mg base G) : DefOk P w K mg base G "is_fraction_to" 2 2 F_is_fraction_to :=
  (c.d_is_fraction_to).ok sc_is_fraction_to (fun _ _ _ _ _ _ us hl => match us, hl with | [_, _], _ => rfl) <| fun f cdv A outer s H E hr => by
    have nd := sc_is_fraction_to.nd
    have tk := (takes_of rfl rfl rfl rfl : Takes (cxOf (L2.CX P w) P w K mg base ["value", "most"] "is_fraction_to" (defScope (top 23)) f cdv A outer s H E) (WB E))
    exact (jss_cons (js_if (PW.pt (jw_or (jt_not (jt_t (je_callD (ok_is_tuple c) (hr.mono (by decide)) (by rfl) tk (ja_c (n_ 0) (ja_c (je_gint c.g_PAIR (by rfl)) (ja_c (je_gint c.g_PAIR (by rfl)) ja_nil)))))) (jw_or (jt_not (jt_t (je_callD (ok_is_integer c) (hr.mono (by decide)) (by rfl) tk (ja_c (ix_ (n_ 0) je_int) (ja_c (je_un un_neg sNeg (n_ 1)) (ja_c (n_ 1) ja_nil)))))) (jw_or1 (jt_not (jt_t (je_callD (ok_is_integer c) (hr.mono (by decide)) (by rfl) tk (ja_c (ix_ (n_ 0) je_int) (ja_c je_int (ja_c (n_ 1) ja_nil)))))))))) (jss_one (js_ret je_bl)) jss_nil) (jss_one (js_ret (cm_ (op_eqD (hu4 hr)) sEq (je_callD (ok_common c) (hr.mono (by decide)) (by rfl) tk (ja_c (ix_ (n_ 0) je_int) (ja_c (ix_ (n_ 0) je_int) ja_nil))) je_int))))
theorem sc_check_fraction : FnScope ["value"] ["value"] (defScope (top 24)) := ⟨rfl, rfl, rfl, by decide +kernel, rfl, by decide +kernel, by decide +kernel⟩
theorem ok_check_fraction (c : Sys P w K mg base G) : DefOk P w K mg base G "check_fraction" 3 1 F_check_fraction :=
  (c.d_check_fraction).ok sc_check_fraction (fun _ _ _ _ _ _ us hl => match us, hl with | [_], _ => rfl) <| fun f cdv A outer s H E hr => by
    have nd := sc_check_fraction.nd
    have tk := (takes_of rfl rfl rfl rfl : Takes (cxOf (L2.CX P w) P w K mg base ["value"] "check_fraction" (defScope (top 24)) f cdv A outer s H E) (WB E))
    exact (jss_one (js_if (jt_not (jt_t (je_callD (ok_is_fraction_to c) (hr.mono (by decide)) (by rfl) tk (ja_c (n_ 0) (ja_c (je_gint c.g_MOST_HANDED (by rfl)) ja_nil))))) (jss_one (ra_ (by rfl) c.hT c.init c.e_BadFraction hr tk (n_ 0) (by rfl))) jss_nil))
theorem sc_is_fraction : FnScope ["value"] ["value"] (defScope (top 25)) := ⟨rfl, rfl, rfl, by decide +kernel, rfl, by decide +kernel, by decide +kernel⟩
theorem ok_is_fraction (c : Sys P w K mg base G) : DefOk P w K mg base G "is_fraction" 3 1 F_is_fraction :=
  (c.d_is_fraction).ok sc_is_fraction (fun _ _ _ _ _ _ us hl => match us, hl with | [_], _ => rfl) <| fun f cdv A outer s H E hr => by
    have nd := sc_is_fraction.nd
    have tk := (takes_of rfl rfl rfl rfl : Takes (cxOf (L2.CX P w) P w K mg base ["value"] "is_fraction" (defScope (top 25)) f cdv A outer s H E) (WB E))
    exact (jss_one (js_ret (je_callD (ok_is_fraction_to c) (hr.mono (by decide)) (by rfl) tk (ja_c (n_ 0) (ja_c (je_gint c.g_MOST_HANDED (by rfl)) ja_nil)))))
theorem sc_ratio : FnScope ["top", "low"] ["top", "low"] (defScope (top 26)) := ⟨rfl, rfl, rfl, by decide +kernel, rfl, by decide +kernel, by decide +kernel⟩
theorem ok_ratio (c : Sys P w K mg base G) : DefOk P w K mg base G "ratio" 3 2 F_ratio :=
  (c.d_ratio).ok sc_ratio (fun _ _ _ _ _ _ us hl => match us, hl with | [_, _], _ => rfl) <| fun f cdv A outer s H E hr => by
    have nd := sc_ratio.nd
    have tk := (takes_of rfl rfl rfl rfl : Takes (cxOf (L2.CX P w) P w K mg base ["top", "low"] "ratio" (defScope (top 26)) f cdv A outer s H E) (WB E))
    exact (jss_cons (js_if (jt_not (jt_t (je_callD (ok_is_integer c) (hr.mono (by decide)) (by rfl) tk (ja_c (n_ 0) (ja_c (je_un un_neg sNeg (je_gint c.g_MOST_HANDED (by rfl))) (ja_c (je_gint c.g_MOST_HANDED (by rfl)) ja_nil)))))) (jss_one (ra_ (by rfl) c.hT c.init c.e_BadNumber hr tk (n_ 0) (by rfl))) jss_nil) (jss_cons (js_if (PW.pt (jw_or (jt_not (jt_t (je_callD (ok_is_integer c) (hr.mono (by decide)) (by rfl) tk (ja_c (n_ 1) (ja_c (je_un un_neg sNeg (je_gint c.g_MOST_HANDED (by rfl))) (ja_c (je_gint c.g_MOST_HANDED (by rfl)) ja_nil)))))) (jw_or1 (tcm_ (op_eqD (hu4 hr)) sEq (n_ 1) je_int)))) (jss_one (ra_ (by rfl) c.hT c.init c.e_BadNumber hr tk (n_ 1) (by rfl))) jss_nil) (jss_one (js_ret (je_callD (ok_made c) (hr.mono (by decide)) (by rfl) tk (ja_c (n_ 0) (ja_c (n_ 1) ja_nil)))))))
theorem sc_plus : FnScope ["one", "other"] ["one", "other"] (defScope (top 27)) := ⟨rfl, rfl, rfl, by decide +kernel, rfl, by decide +kernel, by decide +kernel⟩
theorem ok_plus (c : Sys P w K mg base G) : DefOk P w K mg base G "plus" 4 2 F_plus :=
  (c.d_plus).ok sc_plus (fun _ _ _ _ _ _ us hl => match us, hl with | [_, _], _ => rfl) <| fun f cdv A outer s H E hr => by
    have nd := sc_plus.nd
    have tk := (takes_of rfl rfl rfl rfl : Takes (cxOf (L2.CX P w) P w K mg base ["one", "other"] "plus" (defScope (top 27)) f cdv A outer s H E) (WB E))
    exact (jss_cons (ex_ (je_callD (ok_check_fraction c) (hr.mono (by decide)) (by rfl) tk (ja_c (n_ 0) ja_nil))) (jss_cons (ex_ (je_callD (ok_check_fraction c) (hr.mono (by decide)) (by rfl) tk (ja_c (n_ 1) ja_nil))) (jss_one (js_ret (je_callD (ok_plus_of c) (hr.mono (by decide)) (by rfl) tk (ja_c (n_ 0) (ja_c (n_ 1) ja_nil)))))))
theorem sc_minus : FnScope ["one", "other"] ["one", "other"] (defScope (top 28)) := ⟨rfl, rfl, rfl, by decide +kernel, rfl, by decide +kernel, by decide +kernel⟩
theorem ok_minus (c : Sys P w K mg base G) : DefOk P w K mg base G "minus" 4 2 F_minus :=
  (c.d_minus).ok sc_minus (fun _ _ _ _ _ _ us hl => match us, hl with | [_, _], _ => rfl) <| fun f cdv A outer s H E hr => by
    have nd := sc_minus.nd
    have tk := (takes_of rfl rfl rfl rfl : Takes (cxOf (L2.CX P w) P w K mg base ["one", "other"] "minus" (defScope (top 28)) f cdv A outer s H E) (WB E))
    exact (jss_cons (ex_ (je_callD (ok_check_fraction c) (hr.mono (by decide)) (by rfl) tk (ja_c (n_ 0) ja_nil))) (jss_cons (ex_ (je_callD (ok_check_fraction c) (hr.mono (by decide)) (by rfl) tk (ja_c (n_ 1) ja_nil))) (jss_one (js_ret (je_callD (ok_minus_of c) (hr.mono (by decide)) (by rfl) tk (ja_c (n_ 0) (ja_c (n_ 1) ja_nil)))))))
theorem sc_times : FnScope ["one", "other"] ["one", "other"] (defScope (top 29)) := ⟨rfl, rfl, rfl, by decide +kernel, rfl, by decide +kernel, by decide +kernel⟩
theorem ok_times (c : Sys P w K mg base G) : DefOk P w K mg base G "times" 4 2 F_times :=
  (c.d_times).ok sc_times (fun _ _ _ _ _ _ us hl => match us, hl with | [_, _], _ => rfl) <| fun f cdv A outer s H E hr => by
    have nd := sc_times.nd
    have tk := (takes_of rfl rfl rfl rfl : Takes (cxOf (L2.CX P w) P w K mg base ["one", "other"] "times" (defScope (top 29)) f cdv A outer s H E) (WB E))
    exact (jss_cons (ex_ (je_callD (ok_check_fraction c) (hr.mono (by decide)) (by rfl) tk (ja_c (n_ 0) ja_nil))) (jss_cons (ex_ (je_callD (ok_check_fraction c) (hr.mono (by decide)) (by rfl) tk (ja_c (n_ 1) ja_nil))) (jss_one (js_ret (je_callD (ok_times_of c) (hr.mono (by decide)) (by rfl) tk (ja_c (n_ 0) (ja_c (n_ 1) ja_nil)))))))
theorem sc_over : FnScope ["one", "other"] ["one", "other"] (defScope (top 30)) := ⟨rfl, rfl, rfl, by decide +kernel, rfl, by decide +kernel, by decide +kernel⟩
theorem ok_over (c : Sys P w K mg base G) : DefOk P w K mg base G "over" 4 2 F_over :=
  (c.d_over).ok sc_over (fun _ _ _ _ _ _ us hl => match us, hl with | [_, _], _ => rfl) <| fun f cdv A outer s H E hr => by
    have nd := sc_over.nd
    have tk := (takes_of rfl rfl rfl rfl : Takes (cxOf (L2.CX P w) P w K mg base ["one", "other"] "over" (defScope (top 30)) f cdv A outer s H E) (WB E))
    exact (jss_cons (ex_ (je_callD (ok_check_fraction c) (hr.mono (by decide)) (by rfl) tk (ja_c (n_ 0) ja_nil))) (jss_cons (ex_ (je_callD (ok_check_fraction c) (hr.mono (by decide)) (by rfl) tk (ja_c (n_ 1) ja_nil))) (jss_cons (js_if (tcm_ (op_eqD (hu4 hr)) sEq (ix_ (n_ 1) je_int) je_int) (jss_one (ra_ (by rfl) c.hT c.init c.e_BadFraction hr tk (n_ 1) (by rfl))) jss_nil) (jss_one (js_ret (je_callD (ok_over_of c) (hr.mono (by decide)) (by rfl) tk (ja_c (n_ 0) (ja_c (n_ 1) ja_nil))))))))
theorem sc_compare : FnScope ["one", "other"] ["one", "other"] (defScope (top 31)) := ⟨rfl, rfl, rfl, by decide +kernel, rfl, by decide +kernel, by decide +kernel⟩
theorem ok_compare (c : Sys P w K mg base G) : DefOk P w K mg base G "compare" 4 2 F_compare :=
  (c.d_compare).ok sc_compare (fun _ _ _ _ _ _ us hl => match us, hl with | [_, _], _ => rfl) <| fun f cdv A outer s H E hr => by
    have nd := sc_compare.nd
    have tk := (takes_of rfl rfl rfl rfl : Takes (cxOf (L2.CX P w) P w K mg base ["one", "other"] "compare" (defScope (top 31)) f cdv A outer s H E) (WB E))
    exact (jss_cons (ex_ (je_callD (ok_check_fraction c) (hr.mono (by decide)) (by rfl) tk (ja_c (n_ 0) ja_nil))) (jss_cons (ex_ (je_callD (ok_check_fraction c) (hr.mono (by decide)) (by rfl) tk (ja_c (n_ 1) ja_nil))) (jss_one (js_ret (je_bin op_sub sSub (je_ty call_intAll sInt1 (by rfl) c.b_int (ja_c (je_callD (ok_is_below c) (hr.mono (by decide)) (by rfl) tk (ja_c (n_ 1) (ja_c (n_ 0) ja_nil))) ja_nil)) (je_ty call_intAll sInt1 (by rfl) c.b_int (ja_c (je_callD (ok_is_below c) (hr.mono (by decide)) (by rfl) tk (ja_c (n_ 0) (ja_c (n_ 1) ja_nil))) ja_nil)))))))
theorem sc_unit : FnScope ["rows", "one"] ["rows"] (defScope (top 32)) := ⟨rfl, rfl, rfl, by decide +kernel, rfl, by decide +kernel, by decide +kernel⟩
theorem ok_unit (c : Sys P w K mg base G) : DefOk P w K mg base G "unit" 4 1 F_unit :=
  (c.d_unit).ok sc_unit (fun _ _ _ _ _ _ us hl => match us, hl with | [_], _ => rfl) <| fun f cdv A outer s H E hr => by
    have nd := sc_unit.nd
    have tk := (takes_of rfl rfl rfl rfl : Takes (cxOf (L2.CX P w) P w K mg base ["rows", "one"] "unit" (defScope (top 32)) f cdv A outer s H E) (WB E))
    exact (jss_cons (js_if (jt_not (jt_t (je_callD (ok_is_tuple c) (hr.mono (by decide)) (by rfl) tk (ja_c (n_ 0) (ja_c je_int (ja_c je_int ja_nil)))))) (jss_one (ra_ (by rfl) c.hT c.init c.e_BadFraction hr tk (n_ 0) (by rfl))) jss_nil) (jss_cons (fo_ (passes_of (by rfl)) (by rfl) (ji_any (n_ 0)) (gn_ nd 1) (jss_cons (ex_ (je_callD (ok_check_fraction c) (hr.mono (by decide)) (by rfl) tk (ja_c (n_ 1) ja_nil))) (jss_one (js_if (tcm_ op_lt sCmp (ix_ (n_ 1) je_int) je_int) (jss_one (ra_ (by rfl) c.hT c.init c.e_BadFraction hr tk (n_ 1) (by rfl))) jss_nil)))) (jss_one (js_ret (je_callD (ok_unit_of c) (hr.mono (by decide)) (by rfl) tk (ja_c (n_ 0) ja_nil))))))
theorem sc_how_often : FnScope ["one", "other", "often"] ["one", "other"] (defScope (top 33)) := ⟨rfl, rfl, rfl, by decide +kernel, rfl, by decide +kernel, by decide +kernel⟩
theorem ok_how_often (c : Sys P w K mg base G) : DefOk P w K mg base G "how_often" 4 2 F_how_often :=
  (c.d_how_often).ok sc_how_often (fun _ _ _ _ _ _ us hl => match us, hl with | [_, _], _ => rfl) <| fun f cdv A outer s H E hr => by
    have nd := sc_how_often.nd
    have tk := (takes_of rfl rfl rfl rfl : Takes (cxOf (L2.CX P w) P w K mg base ["one", "other", "often"] "how_often" (defScope (top 33)) f cdv A outer s H E) (WB E))
    exact (jss_cons (ex_ (je_callD (ok_check_fraction c) (hr.mono (by decide)) (by rfl) tk (ja_c (n_ 0) ja_nil))) (jss_cons (ex_ (je_callD (ok_check_fraction c) (hr.mono (by decide)) (by rfl) tk (ja_c (n_ 1) ja_nil))) (jss_cons (js_if (tcm_ op_lt sCmp (ix_ (n_ 1) je_int) je_int) (jss_one (ra_ (by rfl) c.hT c.init c.e_BadFraction hr tk (n_ 1) (by rfl))) jss_nil) (jss_cons (s_ nd 2 (je_callD (ok_floor_of c) (hr.mono (by decide)) (by rfl) tk (ja_c (je_callD (ok_over_of c) (hr.mono (by decide)) (by rfl) tk (ja_c (n_ 0) (ja_c (n_ 1) ja_nil))) ja_nil))) (jss_one (js_ret (je_tup (ja_c (n_ 2) (ja_c (je_callD (ok_minus_of c) (hr.mono (by decide)) (by rfl) tk (ja_c (n_ 0) (ja_c (je_callD (ok_times_of c) (hr.mono (by decide)) (by rfl) tk (ja_c (je_tup (ja_c (n_ 2) (ja_c je_int ja_nil))) (ja_c (n_ 1) ja_nil))) ja_nil))) ja_nil)))))))))
theorem sc_text_of : FnScope ["one"] ["one"] (defScope (top 35)) := ⟨rfl, rfl, rfl, by decide +kernel, rfl, by decide +kernel, by decide +kernel⟩
theorem ok_text_of (c : Sys P w K mg base G) : DefOk P w K mg base G "text_of" 1 1 F_text_of :=
  (c.d_text_of).ok sc_text_of (fun _ _ _ _ _ _ us hl => match us, hl with | [_], _ => rfl) <| fun f cdv A outer s H E hr => by
    have nd := sc_text_of.nd
    have tk := (takes_of rfl rfl rfl rfl : Takes (cxOf (L2.CX P w) P w K mg base ["one"] "text_of" (defScope (top 35)) f cdv A outer s H E) (WB E))
    exact (jss_one (js_ret (je_if (tcm_ (op_eqD (hu4 hr)) sEq (ix_ (n_ 0) je_int) je_int) (je_ty call_strAll sStr1 (by rfl) c.b_str (ja_c (ix_ (n_ 0) je_int) ja_nil)) (je_bin op_addAll sAdd (je_bin op_addAll sAdd (je_ty call_strAll sStr1 (by rfl) c.b_str (ja_c (ix_ (n_ 0) je_int) ja_nil)) je_str) (je_ty call_strAll sStr1 (by rfl) c.b_str (ja_c (ix_ (n_ 0) je_int) ja_nil))))))
theorem sc_text : FnScope ["one"] ["one"] (defScope (top 34)) := ⟨rfl, rfl, rfl, by decide +kernel, rfl, by decide +kernel, by decide +kernel⟩
theorem ok_text (c : Sys P w K mg base G) : DefOk P w K mg base G "text" 4 1 F_text :=
  (c.d_text).ok sc_text (fun _ _ _ _ _ _ us hl => match us, hl with | [_], _ => rfl) <| fun f cdv A outer s H E hr => by
    have nd := sc_text.nd
    have tk := (takes_of rfl rfl rfl rfl : Takes (cxOf (L2.CX P w) P w K mg base ["one"] "text" (defScope (top 34)) f cdv A outer s H E) (WB E))
    exact (jss_cons (ex_ (je_callD (ok_check_fraction c) (hr.mono (by decide)) (by rfl) tk (ja_c (n_ 0) ja_nil))) (jss_one (js_ret (je_callD (ok_text_of c) (hr.mono (by decide)) (by rfl) tk (ja_c (n_ 0) ja_nil)))))
theorem sc_fraction_in : FnScope ["word", "sign", "rest", "parts", "numbers", "part", "found"] ["word"] (defScope (top 36)) := ⟨rfl, rfl, rfl, by decide +kernel, rfl, by decide +kernel, by decide +kernel⟩
theorem ok_fraction_in (c : Sys P w K mg base G) : DefOk P w K mg base G "fraction_in" 3 1 F_fraction_in :=
  (c.d_fraction_in).ok sc_fraction_in (fun _ _ _ _ _ _ us hl => match us, hl with | [_], _ => rfl) <| fun f cdv A outer s H E hr => by
    have nd := sc_fraction_in.nd
    have tk := (takes_of rfl rfl rfl rfl : Takes (cxOf (L2.CX P w) P w K mg base ["word", "sign", "rest", "parts", "numbers", "part", "found"] "fraction_in" (defScope (top 36)) f cdv A outer s H E) (WB E))
    exact (jss_cons (as_ (je_if (tcm_ (op_eqD (hu4 hr)) sEq (je_slice (n_ 0) jo_none (jo_some je_int)) je_str) (je_tup (ja_c (je_un un_neg sNeg je_int) (ja_c (je_slice (n_ 0) (jo_some je_int) jo_none) ja_nil))) (je_tup (ja_c je_int (ja_c (n_ 0) ja_nil)))) (gt_ (by rfl) (gc_ (gn_ nd 1) (gc_ (gn_ nd 2) jgs_nil)))) (jss_cons (s_ nd 3 (je_split (n_ 2) je_str)) (jss_cons (sc_ (own := [("part", 5)]) (by rfl) nd 4 (ji_any (n_ 3)) (blkOk_by (N := ["word", "sign", "rest", "parts", "numbers", "part", "found"]) (sc := defScope (top 36)) (own := [("part", 5)]) (by decide +kernel)) (fun _ _ _ _ _ => (gn_ nd 5)) (fun _ _ _ _ _ => jts_nil) (fun _ _ _ _ _ => (je_callD (ok_read_number c) (hr.mono (by decide)) (by rfl) LamX.takes0 (ja_c (n_ 5) (ja_c (je_gint c.g_MOST (by rfl)) ja_nil)))) (sw_true rfl rfl (by rfl) (by decide +kernel))) (jss_cons (js_frz 4 (js_if (PW.pt (jw_or (tcm_ op_gt sCmp (je_fn call_lenAll sLen (by rfl) c.b_len (ja_c (n_ 3) ja_nil)) (je_gint c.g_PAIR (by rfl))) (jw_or (tcm_ (op_inAll (hu5 hr)) sIn je_non (n_ 4)) (jw_or1 (tcm_ (op_inAll (hu5 hr)) sIn je_int (je_slice (n_ 4) (jo_some je_int) jo_none)))))) (jss_one (js_ret je_non)) jss_nil)) (jss_cons (s_ nd 6 (je_callD (ok_made c) (hr.mono (by decide)) (by rfl) tk (ja_c (je_bin op_mulAll sMul (n_ 1) (ix_ (n_ 4) je_int)) (ja_c (ix_ (je_bin op_addAll sAdd (n_ 4) (je_lst (ja_c je_int ja_nil))) je_int) ja_nil)))) (jss_one (js_ret (je_if (tcm_ (op_eqD (hu4 hr)) sEq (je_callD (ok_text_of c) (hr.mono (by decide)) (by rfl) tk (ja_c (n_ 6) ja_nil)) (n_ 0)) (n_ 6) je_non))))))))
theorem sc_read : FnScope ["word", "found"] ["word"] (defScope (top 37)) := ⟨rfl, rfl, rfl, by decide +kernel, rfl, by decide +kernel, by decide +kernel⟩
theorem ok_read (c : Sys P w K mg base G) : DefOk P w K mg base G "read" 4 1 F_read :=
  (c.d_read).ok sc_read (fun _ _ _ _ _ _ us hl => match us, hl with | [_], _ => rfl) <| fun f cdv A outer s H E hr => by
    have nd := sc_read.nd
    have tk := (takes_of rfl rfl rfl rfl : Takes (cxOf (L2.CX P w) P w K mg base ["word", "found"] "read" (defScope (top 37)) f cdv A outer s H E) (WB E))
    exact (jss_cons (s_ nd 1 (je_if (jt_t (isi_ (n_ 0) (by rfl) c.b_isinstance (by rfl) c.b_str)) (je_callD (ok_fraction_in c) (hr.mono (by decide)) (by rfl) tk (ja_c (n_ 0) ja_nil)) je_non)) (jss_cons (js_if (tcm_ op_isAll sIs (n_ 1) je_non) (jss_one (ra_ (by rfl) c.hT c.init c.e_NoText hr tk (n_ 0) (by rfl))) jss_nil) (jss_one (js_ret (n_ 1)))))
theorem sc__law_pot : FnScope ["script", "place", "cell", "own", "small"] ["script", "place"] (defScope (top 39)) := ⟨rfl, rfl, rfl, by decide +kernel, rfl, by decide +kernel, by decide +kernel⟩
theorem ok__law_pot (c : Sys P w K mg base G) : DefOk P w K mg base G "_law_pot" 1 2 F_law_pot :=
  (c.d__law_pot).ok sc__law_pot (fun _ _ _ _ _ _ us hl => match us, hl with | [_, _], _ => rfl) <| fun f cdv A outer s H E hr => by
    have nd := sc__law_pot.nd
    have tk := (takes_of rfl rfl rfl rfl : Takes (cxOf (L2.CX P w) P w K mg base ["script", "place", "cell", "own", "small"] "_law_pot" (defScope (top 39)) f cdv A outer s H E) (WB E))
    exact (jss_cons (s_ nd 2 (je_if (tcm_ op_lt sCmp (n_ 1) (je_fn call_lenAll sLen (by rfl) c.b_len (ja_c (n_ 0) ja_nil))) (ix_ (n_ 0) (n_ 1)) (je_bin op_addAll sAdd (je_bin op_addAll sAdd (je_bin op_mod sMod (je_fn (cr_sum (by rfl)) sSum (by rfl) c.b_sum (ja_c (je_slice (n_ 0) jo_none (jo_some je_int)) ja_nil)) je_int) (je_bin op_mulAll sMul je_int (n_ 1))) je_int))) (jss_cons (s_ nd 3 (je_bin op_mulAll sMul (je_bin op_mod sMod (je_ty call_intAll sInt1 (by rfl) c.b_int (ja_c (je_fn call_abs sAbs (by rfl) c.b_abs (ja_c (n_ 2) ja_nil)) ja_nil)) (je_bin op_powW sPow (je_bin op_powW sPow je_int je_int) je_int)) (je_ty call_intAll sInt1 (by rfl) c.b_int (ja_c (cm_ op_ge sCmp (je_fn call_abs sAbs (by rfl) c.b_abs (ja_c (n_ 2) ja_nil)) (je_bin op_powW sPow je_int je_int)) ja_nil)))) (jss_cons (s_ nd 4 (je_bin op_mod sMod (je_ty call_intAll sInt1 (by rfl) c.b_int (ja_c (n_ 2) ja_nil)) je_int)) (jss_one (js_ret (je_new (jl_lst (ja_c (n_ 3) (ja_c (je_bin op_mod sMod (je_ty call_intAll sInt1 (by rfl) c.b_int (ja_c (je_bin op_addAll sAdd (je_bin op_addAll sAdd (je_bin op_mulAll sMul (n_ 4) je_int) (je_bin op_mulAll sMul (je_bin op_mulAll sMul je_int (n_ 1)) (n_ 1))) je_int) ja_nil)) je_int) (ja_c je_int ja_nil))))))))))
theorem sc__law_take : FnScope ["pot", "upto", "digit", "prime", "blend"] ["pot", "upto"] (defScope (top 40)) := ⟨rfl, rfl, rfl, by decide +kernel, rfl, by decide +kernel, by decide +kernel⟩
theorem ok__law_take (c : Sys P w K mg base G) : DefOk P w K mg base G "_law_take" 1 2 F_law_take :=
  (c.d__law_take).ok sc__law_take (fun _ _ _ _ _ _ us hl => match us, hl with | [_, _], _ => rfl) <| fun f cdv A outer s H E hr => by
    have nd := sc__law_take.nd
    have tk := (takes_of rfl rfl rfl rfl : Takes (cxOf (L2.CX P w) P w K mg base ["pot", "upto", "digit", "prime", "blend"] "_law_take" (defScope (top 40)) f cdv A outer s H E) (WB E))
    exact (jss_cons (js_if (tcm_ op_gt sCmp (ix_ (n_ 0) je_int) je_int) (jss_cons (s_ nd 2 (je_bin op_mod sMod (je_ty call_intAll sInt1 (by rfl) c.b_int (ja_c (ix_ (n_ 0) je_int) ja_nil)) (n_ 1))) (jss_cons (sm_ (n_ 0) je_int (je_bin op_fdivW sFdiv (ix_ (n_ 0) je_int) (n_ 1))) (jss_one (js_ret (n_ 2))))) jss_nil) (jss_cons (sm_ (n_ 0) je_int (je_bin op_addAll sAdd (ix_ (n_ 0) je_int) je_int)) (jss_cons (s_ nd 3 (ix_ (je_lst (ja_c je_int (ja_c je_int (ja_c je_int (ja_c je_int (ja_c je_int ja_nil)))))) (je_bin op_mod sMod (je_ty call_intAll sInt1 (by rfl) c.b_int (ja_c (ix_ (n_ 0) je_int) ja_nil)) je_int))) (jss_cons (s_ nd 4 (je_bin op_mod sMod (je_ty call_intAll sInt1 (by rfl) c.b_int (ja_c (je_bin op_powW sPow (je_ty call_intAll sInt1 (by rfl) c.b_int (ja_c (je_bin op_addAll sAdd (je_bin op_addAll sAdd (ix_ (n_ 0) je_int) (je_bin op_mulAll sMul (je_bin op_mulAll sMul je_int (ix_ (n_ 0) je_int)) (ix_ (n_ 0) je_int))) je_int) ja_nil)) je_int) ja_nil)) (n_ 3))) (jss_cons (s_ nd 4 (je_bin op_mod sMod (je_ty call_intAll sInt1 (by rfl) c.b_int (ja_c (je_bin op_mulAll sMul (n_ 4) (je_bin op_addAll sAdd (je_bin op_mod sMod (je_ty call_intAll sInt1 (by rfl) c.b_int (ja_c (n_ 4) ja_nil)) je_int) (je_bin op_mulAll sMul je_int (ix_ (n_ 0) je_int)))) ja_nil)) je_int)) (jss_one (js_ret (je_bin op_mod sMod (je_ty call_intAll sInt1 (by rfl) c.b_int (ja_c (je_bin op_fdivW sFdiv (n_ 4) je_int) ja_nil)) (n_ 1)))))))))
theorem sc__law_cells : FnScope ["script", "most"] ["script", "most"] (defScope (top 41)) := ⟨rfl, rfl, rfl, by decide +kernel, rfl, by decide +kernel, by decide +kernel⟩
theorem ok__law_cells (c : Sys P w K mg base G) : DefOk P w K mg base G "_law_cells" 1 2 F_law_cells :=
  (c.d__law_cells).ok sc__law_cells (fun _ _ _ _ _ _ us hl => match us, hl with | [_, _], _ => rfl) <| fun f cdv A outer s H E hr => by
    have nd := sc__law_cells.nd
    have tk := (takes_of rfl rfl rfl rfl : Takes (cxOf (L2.CX P w) P w K mg base ["script", "most"] "_law_cells" (defScope (top 41)) f cdv A outer s H E) (WB E))
    exact (jss_one (js_ret (lr_ (by rfl) (je_fn (call_max2 (by rfl)) sMax2 (by rfl) c.b_max (ja_c je_int (ja_c (je_fn (call_min2 (by rfl)) sMin2 (by rfl) c.b_min (ja_c (n_ 1) (ja_c (je_fn call_lenAll sLen (by rfl) c.b_len (ja_c (n_ 0) ja_nil)) ja_nil))) ja_nil))) (by rfl) c.b_list (by rfl) c.b_range)))
theorem sc__law_made : FnScope ["top", "low", "one", "other", "lap", "sign"] ["top", "low"] (defScope (top 43)) := ⟨rfl, rfl, rfl, by decide +kernel, rfl, by decide +kernel, by decide +kernel⟩
theorem ok__law_made (c : Sys P w K mg base G) : DefOk P w K mg base G "_law_made" 1 2 F_law_made :=
  (c.d__law_made).ok sc__law_made (fun _ _ _ _ _ _ us hl => match us, hl with | [_, _], _ => rfl) <| fun f cdv A outer s H E hr => by
    have nd := sc__law_made.nd
    have tk := (takes_of rfl rfl rfl rfl : Takes (cxOf (L2.CX P w) P w K mg base ["top", "low", "one", "other", "lap", "sign"] "_law_made" (defScope (top 43)) f cdv A outer s H E) (WB E))
    exact (jss_cons (p2_ (by rfl) nd 2 3 (ja_c (je_fn call_abs sAbs (by rfl) c.b_abs (ja_c (n_ 0) ja_nil)) (ja_c (je_fn call_abs sAbs (by rfl) c.b_abs (ja_c (n_ 1) ja_nil)) ja_nil))) (jss_cons (fo_ (passes_of (by rfl)) (by rfl) (r1_ (by rfl) c.b_range (ja_c je_int ja_nil)) (gn_ nd 4) (jss_cons (js_if (tcm_ (op_eqD (hu4 hr)) sEq (n_ 3) je_int) (jss_one js_brk) jss_nil) (jss_one (p2_ (by rfl) nd 2 3 (ja_c (n_ 3) (ja_c (je_bin op_mod sMod (n_ 2) (n_ 3)) ja_nil)))))) (jss_cons (s_ nd 5 (je_if (tcm_ op_gt sCmp (n_ 1) je_int) je_int (je_un un_neg sNeg je_int))) (jss_one (js_ret (je_tup (ja_c (je_ty call_intAll sInt1 (by rfl) c.b_int (ja_c (je_bin op_fdivW sFdiv (je_bin op_mulAll sMul (n_ 5) (n_ 0)) (n_ 2)) ja_nil)) (ja_c (je_ty call_intAll sInt1 (by rfl) c.b_int (ja_c (je_bin op_fdivW sFdiv (je_bin op_mulAll sMul (n_ 5) (n_ 1)) (n_ 2)) ja_nil)) ja_nil))))))))
theorem sc__law_plus : FnScope ["one", "other"] ["one", "other"] (defScope (top 44)) := ⟨rfl, rfl, rfl, by decide +kernel, rfl, by decide +kernel, by decide +kernel⟩
theorem ok__law_plus (c : Sys P w K mg base G) : DefOk P w K mg base G "_law_plus" 2 2 F_law_plus :=
  (c.d__law_plus).ok sc__law_plus (fun _ _ _ _ _ _ us hl => match us, hl with | [_, _], _ => rfl) <| fun f cdv A outer s H E hr => by
    have nd := sc__law_plus.nd
    have tk := (takes_of rfl rfl rfl rfl : Takes (cxOf (L2.CX P w) P w K mg base ["one", "other"] "_law_plus" (defScope (top 44)) f cdv A outer s H E) (WB E))
    exact (jss_one (js_ret (je_callD (ok__law_made c) (hr.mono (by decide)) (by rfl) tk (ja_c (je_bin op_addAll sAdd (je_bin op_mulAll sMul (ix_ (n_ 0) je_int) (ix_ (n_ 1) je_int)) (je_bin op_mulAll sMul (ix_ (n_ 1) je_int) (ix_ (n_ 0) je_int))) (ja_c (je_bin op_mulAll sMul (ix_ (n_ 0) je_int) (ix_ (n_ 1) je_int)) ja_nil)))))
theorem sc__law_minus : FnScope ["one", "other"] ["one", "other"] (defScope (top 45)) := ⟨rfl, rfl, rfl, by decide +kernel, rfl, by decide +kernel, by decide +kernel⟩
theorem ok__law_minus (c : Sys P w K mg base G) : DefOk P w K mg base G "_law_minus" 2 2 F_law_minus :=
  (c.d__law_minus).ok sc__law_minus (fun _ _ _ _ _ _ us hl => match us, hl with | [_, _], _ => rfl) <| fun f cdv A outer s H E hr => by
    have nd := sc__law_minus.nd
    have tk := (takes_of rfl rfl rfl rfl : Takes (cxOf (L2.CX P w) P w K mg base ["one", "other"] "_law_minus" (defScope (top 45)) f cdv A outer s H E) (WB E))
    exact (jss_one (js_ret (je_callD (ok__law_made c) (hr.mono (by decide)) (by rfl) tk (ja_c (je_bin op_sub sSub (je_bin op_mulAll sMul (ix_ (n_ 0) je_int) (ix_ (n_ 1) je_int)) (je_bin op_mulAll sMul (ix_ (n_ 1) je_int) (ix_ (n_ 0) je_int))) (ja_c (je_bin op_mulAll sMul (ix_ (n_ 0) je_int) (ix_ (n_ 1) je_int)) ja_nil)))))
theorem sc__law_times : FnScope ["one", "other"] ["one", "other"] (defScope (top 46)) := ⟨rfl, rfl, rfl, by decide +kernel, rfl, by decide +kernel, by decide +kernel⟩
theorem ok__law_times (c : Sys P w K mg base G) : DefOk P w K mg base G "_law_times" 2 2 F_law_times :=
  (c.d__law_times).ok sc__law_times (fun _ _ _ _ _ _ us hl => match us, hl with | [_, _], _ => rfl) <| fun f cdv A outer s H E hr => by
    have nd := sc__law_times.nd
    have tk := (takes_of rfl rfl rfl rfl : Takes (cxOf (L2.CX P w) P w K mg base ["one", "other"] "_law_times" (defScope (top 46)) f cdv A outer s H E) (WB E))
    exact (jss_one (js_ret (je_callD (ok__law_made c) (hr.mono (by decide)) (by rfl) tk (ja_c (je_bin op_mulAll sMul (ix_ (n_ 0) je_int) (ix_ (n_ 1) je_int)) (ja_c (je_bin op_mulAll sMul (ix_ (n_ 0) je_int) (ix_ (n_ 1) je_int)) ja_nil)))))
theorem sc__law_over : FnScope ["one", "other"] ["one", "other"] (defScope (top 47)) := ⟨rfl, rfl, rfl, by decide +kernel, rfl, by decide +kernel, by decide +kernel⟩
theorem ok__law_over (c : Sys P w K mg base G) : DefOk P w K mg base G "_law_over" 2 2 F_law_over :=
  (c.d__law_over).ok sc__law_over (fun _ _ _ _ _ _ us hl => match us, hl with | [_, _], _ => rfl) <| fun f cdv A outer s H E hr => by
    have nd := sc__law_over.nd
    have tk := (takes_of rfl rfl rfl rfl : Takes (cxOf (L2.CX P w) P w K mg base ["one", "other"] "_law_over" (defScope (top 47)) f cdv A outer s H E) (WB E))
    exact (jss_one (js_ret (je_callD (ok__law_made c) (hr.mono (by decide)) (by rfl) tk (ja_c (je_bin op_mulAll sMul (ix_ (n_ 0) je_int) (ix_ (n_ 1) je_int)) (ja_c (je_bin op_mulAll sMul (ix_ (n_ 0) je_int) (ix_ (n_ 1) je_int)) ja_nil)))))
theorem sc__law_below : FnScope ["one", "other"] ["one", "other"] (defScope (top 48)) := ⟨rfl, rfl, rfl, by decide +kernel, rfl, by decide +kernel, by decide +kernel⟩
theorem ok__law_below (c : Sys P w K mg base G) : DefOk P w K mg base G "_law_below" 1 2 F_law_below :=
  (c.d__law_below).ok sc__law_below (fun _ _ _ _ _ _ us hl => match us, hl with | [_, _], _ => rfl) <| fun f cdv A outer s H E hr => by
    have nd := sc__law_below.nd
    have tk := (takes_of rfl rfl rfl rfl : Takes (cxOf (L2.CX P w) P w K mg base ["one", "other"] "_law_below" (defScope (top 48)) f cdv A outer s H E) (WB E))
    exact (jss_one (js_ret (cm_ op_lt sCmp (je_bin op_mulAll sMul (ix_ (n_ 0) je_int) (ix_ (n_ 1) je_int)) (je_bin op_mulAll sMul (ix_ (n_ 1) je_int) (ix_ (n_ 0) je_int)))))
theorem sc__law_gcd : FnScope ["one", "other", "lap"] ["one", "other"] (defScope (top 49)) := ⟨rfl, rfl, rfl, by decide +kernel, rfl, by decide +kernel, by decide +kernel⟩
theorem ok__law_gcd (c : Sys P w K mg base G) : DefOk P w K mg base G "_law_gcd" 1 2 F_law_gcd :=
  (c.d__law_gcd).ok sc__law_gcd (fun _ _ _ _ _ _ us hl => match us, hl with | [_, _], _ => rfl) <| fun f cdv A outer s H E hr => by
    have nd := sc__law_gcd.nd
    have tk := (takes_of rfl rfl rfl rfl : Takes (cxOf (L2.CX P w) P w K mg base ["one", "other", "lap"] "_law_gcd" (defScope (top 49)) f cdv A outer s H E) (WB E))
    exact (jss_cons (fo_ (passes_of (by rfl)) (by rfl) (r1_ (by rfl) c.b_range (ja_c je_int ja_nil)) (gn_ nd 2) (jss_cons (js_if (tcm_ (op_eqD (hu4 hr)) sEq (n_ 1) je_int) (jss_one js_brk) jss_nil) (jss_one (p2_ (by rfl) nd 0 1 (ja_c (n_ 1) (ja_c (je_bin op_mod sMod (n_ 0) (n_ 1)) ja_nil)))))) (jss_one (js_ret (je_ty call_intAll sInt1 (by rfl) c.b_int (ja_c (n_ 0) ja_nil)))))
theorem sc__law_drawn : FnScope ["pot"] ["pot"] (defScope (top 50)) := ⟨rfl, rfl, rfl, by decide +kernel, rfl, by decide +kernel, by decide +kernel⟩
theorem ok__law_drawn (c : Sys P w K mg base G) : DefOk P w K mg base G "_law_drawn" 2 1 F_law_drawn :=
  (c.d__law_drawn).ok sc__law_drawn (fun _ _ _ _ _ _ us hl => match us, hl with | [_], _ => rfl) <| fun f cdv A outer s H E hr => by
    have nd := sc__law_drawn.nd
    have tk := (takes_of rfl rfl rfl rfl : Takes (cxOf (L2.CX P w) P w K mg base ["pot"] "_law_drawn" (defScope (top 50)) f cdv A outer s H E) (WB E))
    exact (jss_cons (js_if (tcm_ (op_eqD (hu4 hr)) sEq (je_callD (ok__law_take c) (hr.mono (by decide)) (by rfl) tk (ja_c (n_ 0) (ja_c je_int ja_nil))) je_int) (jss_one (js_ret (je_callD (ok__law_made c) (hr.mono (by decide)) (by rfl) tk (ja_c (je_bin op_sub sSub (je_bin op_addAll sAdd (je_bin op_mulAll sMul (je_ty call_intAll sInt1 (by rfl) c.b_int (ja_c (je_callD (ok__law_take c) (hr.mono (by decide)) (by rfl) tk (ja_c (n_ 0) (ja_c (je_bin op_powW sPow je_int je_int) ja_nil))) ja_nil)) (je_bin op_powW sPow je_int je_int)) (je_ty call_intAll sInt1 (by rfl) c.b_int (ja_c (je_callD (ok__law_take c) (hr.mono (by decide)) (by rfl) tk (ja_c (n_ 0) (ja_c (je_bin op_powW sPow je_int je_int) ja_nil))) ja_nil))) (je_bin op_mulAll sMul je_int (je_bin op_powW sPow je_int je_int))) (ja_c (je_bin op_addAll sAdd je_int (je_ty call_intAll sInt1 (by rfl) c.b_int (ja_c (je_callD (ok__law_take c) (hr.mono (by decide)) (by rfl) tk (ja_c (n_ 0) (ja_c (je_bin op_powW sPow je_int je_int) ja_nil))) ja_nil))) ja_nil))))) jss_nil) (jss_one (js_ret (je_callD (ok__law_made c) (hr.mono (by decide)) (by rfl) tk (ja_c (je_bin op_sub sSub (je_ty call_intAll sInt1 (by rfl) c.b_int (ja_c (je_callD (ok__law_take c) (hr.mono (by decide)) (by rfl) tk (ja_c (n_ 0) (ja_c je_int ja_nil))) ja_nil)) je_int) (ja_c (je_bin op_addAll sAdd je_int (je_ty call_intAll sInt1 (by rfl) c.b_int (ja_c (je_callD (ok__law_take c) (hr.mono (by decide)) (by rfl) tk (ja_c (n_ 0) (ja_c je_int ja_nil))) ja_nil))) ja_nil))))))
theorem sc__law_are_two_right : FnScope ["one", "other", "due", "caught", "often", "left"] ["one", "other"] (defScope (top 51)) := ⟨rfl, rfl, rfl, by decide +kernel, rfl, by decide +kernel, by decide +kernel⟩
theorem ok__law_are_two_right (c : Sys P w K mg base G) : DefOk P w K mg base G "_law_are_two_right" 7 2 F_law_are_two_right := by
  obtain ⟨cc, Pt, hcode, TB, inT, oneT⟩ := c.l__law_are_two_right
  refine (c.d__law_are_two_right).okC sc__law_are_two_right (fun _ _ _ _ _ _ us hl => match us, hl with | [_, _], _ => rfl) hcode TB fun f A outer s H E hr => ?_
  have nd := sc__law_are_two_right.nd
  have tk := (takes_of rfl rfl rfl rfl : Takes (cxOf (L2.CX P w) P w K mg base ["one", "other", "due", "caught", "often", "left"] "_law_are_two_right" (defScope (top 51)) f (.ref cc) A outer s H E) (WB E))
  exact (jss_cons (js_if (PW.pt (jw_or (tcm_ (op_neD (hu4 hr)) sNe (je_callD (ok_plus c) (hr.mono (by decide)) (by rfl) tk (ja_c (n_ 0) (ja_c (n_ 1) ja_nil))) (je_callD (ok__law_plus c) (hr.mono (by decide)) (by rfl) tk (ja_c (n_ 0) (ja_c (n_ 1) ja_nil)))) (jw_or1 (tcm_ (op_neD (hu4 hr)) sNe (je_callD (ok_minus c) (hr.mono (by decide)) (by rfl) tk (ja_c (n_ 0) (ja_c (n_ 1) ja_nil))) (je_callD (ok__law_minus c) (hr.mono (by decide)) (by rfl) tk (ja_c (n_ 0) (ja_c (n_ 1) ja_nil))))))) (jss_one (js_ret je_bl)) jss_nil) (jss_cons (js_if (tcm_ (op_neD (hu4 hr)) sNe (je_callD (ok_times c) (hr.mono (by decide)) (by rfl) tk (ja_c (n_ 0) (ja_c (n_ 1) ja_nil))) (je_callD (ok__law_times c) (hr.mono (by decide)) (by rfl) tk (ja_c (n_ 0) (ja_c (n_ 1) ja_nil)))) (jss_one (js_ret je_bl)) jss_nil) (jss_cons (s_ nd 2 (je_bin op_sub sSub (je_ty call_intAll sInt1 (by rfl) c.b_int (ja_c (je_callD (ok__law_below c) (hr.mono (by decide)) (by rfl) tk (ja_c (n_ 1) (ja_c (n_ 0) ja_nil))) ja_nil)) (je_ty call_intAll sInt1 (by rfl) c.b_int (ja_c (je_callD (ok__law_below c) (hr.mono (by decide)) (by rfl) tk (ja_c (n_ 0) (ja_c (n_ 1) ja_nil))) ja_nil)))) (jss_cons (js_if (PW.pt (jw_or (tcm_ (op_neD (hu4 hr)) sNe (je_callD (ok_compare c) (hr.mono (by decide)) (by rfl) tk (ja_c (n_ 0) (ja_c (n_ 1) ja_nil))) (n_ 2)) (jw_or1 (jt_t (isi_ (je_callD (ok_compare c) (hr.mono (by decide)) (by rfl) tk (ja_c (n_ 0) (ja_c (n_ 1) ja_nil))) (by rfl) c.b_isinstance (by rfl) c.b_bool))))) (jss_one (js_ret je_bl)) jss_nil) (jss_cons (js_if (tcm_ (op_eqD (hu4 hr)) sEq (ix_ (n_ 1) je_int) je_int) (jss_cons (s_ nd 3 (ix_ (je_hear (k := 4) c.hear (by rfl) TB (by rfl) inT oneT (hr.mono (by decide)) (LamX.lamS_by (sc := defScope (top 51)) (by decide +kernel)) (fun A outer s H E f2 c2 hr tk => (je_callD (ok_over c) (hr.mono (by decide)) (by rfl) tk (ja_c (n_ 0) (ja_c (n_ 1) ja_nil))))) je_int)) (jss_one (js_ret (je_and (isx_ (n_ 3) (by rfl) c.b_isinstance (by rfl) c.e_BadFraction) (je_one (cm_ (op_eqD (hu4 hr)) sEq (val_ c.hT (n_ 3)) (n_ 1))))))) jss_nil) (jss_cons (js_if (tcm_ (op_neD (hu4 hr)) sNe (je_callD (ok_over c) (hr.mono (by decide)) (by rfl) tk (ja_c (n_ 0) (ja_c (n_ 1) ja_nil))) (je_callD (ok__law_over c) (hr.mono (by decide)) (by rfl) tk (ja_c (n_ 0) (ja_c (n_ 1) ja_nil)))) (jss_one (js_ret je_bl)) jss_nil) (jss_cons (js_if (tcm_ op_lt sCmp (ix_ (n_ 1) je_int) je_int) (jss_cons (s_ nd 3 (ix_ (je_hear (k := 4) c.hear (by rfl) TB (by rfl) inT oneT (hr.mono (by decide)) (LamX.lamS_by (sc := defScope (top 51)) (by decide +kernel)) (fun A outer s H E f2 c2 hr tk => (je_callD (ok_how_often c) (hr.mono (by decide)) (by rfl) tk (ja_c (n_ 0) (ja_c (n_ 1) ja_nil))))) je_int)) (jss_one (js_ret (je_and (isx_ (n_ 3) (by rfl) c.b_isinstance (by rfl) c.e_BadFraction) (je_one (cm_ (op_eqD (hu4 hr)) sEq (val_ c.hT (n_ 3)) (n_ 1))))))) jss_nil) (jss_cons (as_ (je_callD (ok_how_often c) (hr.mono (by decide)) (by rfl) tk (ja_c (n_ 0) (ja_c (n_ 1) ja_nil))) (gt_ (by rfl) (gc_ (gn_ nd 4) (gc_ (gn_ nd 5) jgs_nil)))) (jss_cons (js_if (tcm_ (op_neD (hu4 hr)) sNe (n_ 4) (je_bin op_fdivW sFdiv (je_bin op_mulAll sMul (ix_ (n_ 0) je_int) (ix_ (n_ 1) je_int)) (je_bin op_mulAll sMul (ix_ (n_ 0) je_int) (ix_ (n_ 1) je_int)))) (jss_one (js_ret je_bl)) jss_nil) (jss_one (js_ret (je_and (cm_ (op_eqD (hu4 hr)) sEq (je_callD (ok__law_plus c) (hr.mono (by decide)) (by rfl) tk (ja_c (je_callD (ok__law_times c) (hr.mono (by decide)) (by rfl) tk (ja_c (je_tup (ja_c (n_ 4) (ja_c je_int ja_nil))) (ja_c (n_ 1) ja_nil))) (ja_c (n_ 5) ja_nil))) (n_ 0)) (je_and (cm_ op_ge sCmp (ix_ (n_ 5) je_int) je_int) (je_one (je_callD (ok__law_below c) (hr.mono (by decide)) (by rfl) tk (ja_c (n_ 5) (ja_c (n_ 1) ja_nil)))))))))))))))))
theorem sc__law_are_texts_right : FnScope ["pot", "one", "due", "is_small", "bad", "caught"] ["pot", "one"] (defScope (top 52)) := ⟨rfl, rfl, rfl, by decide +kernel, rfl, by decide +kernel, by decide +kernel⟩
theorem ok__law_are_texts_right (c : Sys P w K mg base G) : DefOk P w K mg base G "_law_are_texts_right" 7 2 F_law_are_texts_right := by
  obtain ⟨cc, Pt, hcode, TB, inT, oneT⟩ := c.l__law_are_texts_right
  refine (c.d__law_are_texts_right).okC sc__law_are_texts_right (fun _ _ _ _ _ _ us hl => match us, hl with | [_, _], _ => rfl) hcode TB fun f A outer s H E hr => ?_
  have nd := sc__law_are_texts_right.nd
  have tk := (takes_of rfl rfl rfl rfl : Takes (cxOf (L2.CX P w) P w K mg base ["pot", "one", "due", "is_small", "bad", "caught"] "_law_are_texts_right" (defScope (top 52)) f (.ref cc) A outer s H E) (WB E))
  exact (jss_cons (s_ nd 2 (je_if (tcm_ (op_eqD (hu4 hr)) sEq (ix_ (n_ 1) je_int) je_int) (je_ty call_strAll sStr1 (by rfl) c.b_str (ja_c (ix_ (n_ 1) je_int) ja_nil)) (je_bin op_addAll sAdd (je_bin op_addAll sAdd (je_ty call_strAll sStr1 (by rfl) c.b_str (ja_c (ix_ (n_ 1) je_int) ja_nil)) je_str) (je_ty call_strAll sStr1 (by rfl) c.b_str (ja_c (ix_ (n_ 1) je_int) ja_nil))))) (jss_cons (js_if (tcm_ (op_neD (hu4 hr)) sNe (je_callD (ok_text c) (hr.mono (by decide)) (by rfl) tk (ja_c (n_ 1) ja_nil)) (n_ 2)) (jss_one (js_ret je_bl)) jss_nil) (jss_cons (s_ nd 3 (je_and (cm_ op_lt sCmp (je_fn call_abs sAbs (by rfl) c.b_abs (ja_c (ix_ (n_ 1) je_int) ja_nil)) (je_bin op_powW sPow je_int je_int)) (je_one (cm_ op_lt sCmp (ix_ (n_ 1) je_int) (je_bin op_powW sPow je_int je_int))))) (jss_cons (js_if (PW.pt (jw_and (jt_t (n_ 3)) (jw_and1 (tcm_ (op_neD (hu4 hr)) sNe (je_callD (ok_read c) (hr.mono (by decide)) (by rfl) tk (ja_c (n_ 2) ja_nil)) (n_ 1))))) (jss_one (js_ret je_bl)) jss_nil) (jss_cons (fo_ (passes_of (by rfl)) (by rfl) (ji_any (je_tup (ja_c je_str (ja_c je_str (ja_c je_str (ja_c je_str (ja_c je_str (ja_c je_str (ja_c je_str (ja_c je_str (ja_c je_str (ja_c je_str (ja_c je_str (ja_c je_str (ja_c je_str (ja_c je_str ja_nil)))))))))))))))) (gn_ nd 4) (jss_cons (s_ nd 5 (ix_ (je_hear (k := 4) c.hear (by rfl) TB (by rfl) inT oneT (hr.mono (by decide)) (LamX.lamS_by (sc := defScope (top 52)) (by decide +kernel)) (fun A outer s H E f2 c2 hr tk => (je_callD (ok_read c) (hr.mono (by decide)) (by rfl) tk (ja_c (n_ 4) ja_nil)))) je_int)) (jss_one (js_if (PW.pt (jw_or (jt_not (jt_t (isx_ (n_ 5) (by rfl) c.b_isinstance (by rfl) c.e_NoText))) (jw_or1 (tcm_ (op_neD (hu4 hr)) sNe (val_ c.hT (n_ 5)) (n_ 4))))) (jss_one (js_ret je_bl)) jss_nil)))) (jss_cons (s_ nd 5 (ix_ (je_hear (k := 4) c.hear (by rfl) TB (by rfl) inT oneT (hr.mono (by decide)) (LamX.lamS_by (sc := defScope (top 52)) (by decide +kernel)) (fun A outer s H E f2 c2 hr tk => (je_callD (ok_read c) (hr.mono (by decide)) (by rfl) tk (ja_c (n_ 1) ja_nil)))) je_int)) (jss_one (js_ret (je_and (isx_ (n_ 5) (by rfl) c.b_isinstance (by rfl) c.e_NoText) (je_one (cm_ (op_eqD (hu4 hr)) sEq (val_ c.hT (n_ 5)) (n_ 1))))))))))))
theorem sc__law_is_unit_right : FnScope ["pot", "many", "some", "lap", "told", "often", "one", "share", "bad", "caught"] ["pot"] (defScope (top 53)) := ⟨rfl, rfl, rfl, by decide +kernel, rfl, by decide +kernel, by decide +kernel⟩
theorem ok__law_is_unit_right (c : Sys P w K mg base G) : DefOk P w K mg base G "_law_is_unit_right" 7 1 F_law_is_unit_right := by
  obtain ⟨cc, Pt, hcode, TB, inT, oneT⟩ := c.l__law_is_unit_right
  refine (c.d__law_is_unit_right).okC sc__law_is_unit_right (fun _ _ _ _ _ _ us hl => match us, hl with | [_], _ => rfl) hcode TB fun f A outer s H E hr => ?_
  have nd := sc__law_is_unit_right.nd
  have tk := (takes_of rfl rfl rfl rfl : Takes (cxOf (L2.CX P w) P w K mg base ["pot", "many", "some", "lap", "told", "often", "one", "share", "bad", "caught"] "_law_is_unit_right" (defScope (top 53)) f (.ref cc) A outer s H E) (WB E))
  exact (jss_cons (s_ nd 1 (je_bin op_addAll sAdd je_int (je_callD (ok__law_take c) (hr.mono (by decide)) (by rfl) tk (ja_c (n_ 0) (ja_c je_int ja_nil))))) (jss_cons (s_ nd 2 (je_ty call_tuple_of sTup1 (by rfl) c.b_tuple (ja_c (je_lof (lc_ (own := [("lap", 3)]) (by rfl) nd (r1_ (by rfl) c.b_range (ja_c (n_ 1) ja_nil)) (blkOk_by (N := ["pot", "many", "some", "lap", "told", "often", "one", "share", "bad", "caught"]) (sc := defScope (top 53)) (own := [("lap", 3)]) (by decide +kernel)) (fun _ _ _ _ _ => (gn_ nd 3)) (fun _ _ _ _ _ => jts_nil) (fun _ _ _ _ _ => (je_callD (ok__law_made c) (hr.mono (by decide)) (by rfl) LamX.takes0 (ja_c (je_bin op_addAll sAdd je_int (je_ty call_intAll sInt1 (by rfl) c.b_int (ja_c (je_callD (ok__law_take c) (hr.mono (by decide)) (by rfl) LamX.takes0 (ja_c (n_ 0) (ja_c je_int ja_nil))) ja_nil))) (ja_c (je_bin op_addAll sAdd je_int (je_ty call_intAll sInt1 (by rfl) c.b_int (ja_c (je_callD (ok__law_take c) (hr.mono (by decide)) (by rfl) LamX.takes0 (ja_c (n_ 0) (ja_c je_int ja_nil))) ja_nil))) ja_nil)))))) ja_nil))) (jss_cons (s_ nd 4 (je_callD (ok_unit c) (hr.mono (by decide)) (by rfl) tk (ja_c (n_ 2) ja_nil))) (jss_cons (sc_ (own := [("one", 6)]) (by rfl) nd 5 (ji_any (n_ 2)) (blkOk_by (N := ["pot", "many", "some", "lap", "told", "often", "one", "share", "bad", "caught"]) (sc := defScope (top 53)) (own := [("one", 6)]) (by decide +kernel)) (fun _ _ _ _ _ => (gn_ nd 6)) (fun _ _ _ _ _ => jts_nil) (fun _ _ _ _ _ => (je_callD (ok__law_over c) (hr.mono (by decide)) (by rfl) LamX.takes0 (ja_c (n_ 6) (ja_c (n_ 4) ja_nil)))) (sw_true rfl rfl (by rfl) (by decide +kernel))) (jss_cons (js_frz 5 (js_if (PW.pt (jw_or (jt_t (je_fn (cr_any (by rfl)) sAny (by rfl) c.b_any (ja_c (je_lof (lc_ (own := [("one", 6)]) (by rfl) nd (ji_any (n_ 5)) (blkOk_by (N := ["pot", "many", "some", "lap", "told", "often", "one", "share", "bad", "caught"]) (sc := defScope (top 53)) (own := [("one", 6)]) (by decide +kernel)) (fun _ _ _ _ _ => (gn_ nd 6)) (fun _ _ _ _ _ => jts_nil) (fun _ _ _ _ _ => (cm_ (op_neD (hu4 hr)) sNe (ix_ (n_ 6) je_int) je_int)))) ja_nil))) (jw_or1 (tcm_ op_lt sCmp (ix_ (n_ 4) je_int) je_int)))) (jss_one (js_ret je_bl)) jss_nil)) (jss_cons (s_ nd 7 je_int) (jss_cons (fo_ (passes_of (by rfl)) (by rfl) (ji_any (n_ 5)) (gn_ nd 6) (jss_one (s_ nd 7 (je_callD (ok__law_gcd c) (hr.mono (by decide)) (by rfl) tk (ja_c (n_ 7) (ja_c (ix_ (n_ 6) je_int) ja_nil)))))) (jss_cons (js_if (tcm_ (op_neD (hu4 hr)) sNe (n_ 7) je_int) (jss_one (js_ret je_bl)) jss_nil) (jss_cons (fo_ (passes_of (by rfl)) (by rfl) (ji_any (je_tup (ja_c (je_bin op_addAll sAdd (n_ 2) (je_tup (ja_c (je_tup (ja_c je_int (ja_c je_int ja_nil))) ja_nil))) (ja_c (je_bin op_addAll sAdd (n_ 2) (je_tup (ja_c (je_tup (ja_c (je_un un_neg sNeg je_int) (ja_c je_int ja_nil))) ja_nil))) (ja_c (je_bin op_addAll sAdd (n_ 2) (je_tup (ja_c (je_tup (ja_c je_int (ja_c je_int ja_nil))) ja_nil))) ja_nil))))) (gn_ nd 8) (jss_cons (s_ nd 9 (ix_ (je_hear (k := 4) c.hear (by rfl) TB (by rfl) inT oneT (hr.mono (by decide)) (LamX.lamS_by (sc := defScope (top 53)) (by decide +kernel)) (fun A outer s H E f2 c2 hr tk => (je_callD (ok_unit c) (hr.mono (by decide)) (by rfl) tk (ja_c (n_ 8) ja_nil)))) je_int)) (jss_one (js_if (PW.pt (jw_or (jt_not (jt_t (isx_ (n_ 9) (by rfl) c.b_isinstance (by rfl) c.e_BadFraction))) (jw_or1 (tcm_ (op_neD (hu4 hr)) sNe (val_ c.hT (n_ 9)) (ix_ (n_ 8) (je_un un_neg sNeg je_int)))))) (jss_one (js_ret je_bl)) jss_nil)))) (jss_cons (s_ nd 9 (ix_ (je_hear (k := 4) c.hear (by rfl) TB (by rfl) inT oneT (hr.mono (by decide)) (LamX.lamS_by (sc := defScope (top 53)) (by decide +kernel)) (fun A outer s H E f2 c2 hr tk => (je_callD (ok_unit c) (hr.mono (by decide)) (by rfl) tk (ja_c (je_tup ja_nil) ja_nil)))) je_int)) (jss_one (js_ret (je_and (isx_ (n_ 9) (by rfl) c.b_isinstance (by rfl) c.e_BadFraction) (je_one (cm_ (op_eqD (hu4 hr)) sEq (val_ c.hT (n_ 9)) (je_tup ja_nil))))))))))))))))
theorem sc__law_right : FnScope ["pot", "one", "other", "bad", "caught", "top", "low"] ["pot"] (defScope (top 54)) := ⟨rfl, rfl, rfl, by decide +kernel, rfl, by decide +kernel, by decide +kernel⟩
theorem ok__law_right (c : Sys P w K mg base G) : DefG P w K mg base G "_law_right" 10 1 F_law_right := by
  obtain ⟨cc, Pt, hcode, TB, inT, oneT⟩ := c.l__law_right
  refine (c.d__law_right).okG sc__law_right (fun _ _ _ _ _ _ us hl => match us, hl with | [_], _ => rfl) hcode TB fun f A outer s H E gu hr => ?_
  have nd := sc__law_right.nd
  have tk := (takes_of rfl rfl rfl rfl : Takes (cxOf (L2.CX P w) P w K mg base ["pot", "one", "other", "bad", "caught", "top", "low"] "_law_right" (defScope (top 54)) f (.ref cc) A outer s H E) (WB E))
  exact (jss_cons (as_ (je_tup (ja_c (je_callD (ok__law_drawn c) (hr.mono (by decide)) (by rfl) tk (ja_c (n_ 0) ja_nil)) (ja_c (je_callD (ok__law_drawn c) (hr.mono (by decide)) (by rfl) tk (ja_c (n_ 0) ja_nil)) ja_nil))) (gt_ (by rfl) (gc_ (gn_ nd 1) (gc_ (gn_ nd 2) jgs_nil)))) (jss_cons (js_if (PW.pt (jw_or (tcm_ op_isNotAll sIsNot (je_callD (ok_is_fraction c) (hr.mono (by decide)) (by rfl) tk (ja_c (n_ 1) ja_nil)) je_bl) (jw_or1 (tcm_ op_isNotAll sIsNot (je_callD (ok_is_fraction c) (hr.mono (by decide)) (by rfl) tk (ja_c (je_tup (ja_c (je_bin op_mulAll sMul (ix_ (n_ 1) je_int) je_int) (ja_c (je_bin op_mulAll sMul (ix_ (n_ 1) je_int) je_int) ja_nil))) ja_nil)) je_bl)))) (jss_one (js_ret je_bl)) jss_nil) (jss_cons (fo_ (passes_of (by rfl)) (by rfl) (ji_any (je_tup (ja_c (je_tup (ja_c je_int (ja_c je_int ja_nil))) (ja_c (je_tup (ja_c je_int (ja_c (je_un un_neg sNeg je_int) ja_nil))) (ja_c (je_tup (ja_c je_bl (ja_c je_int ja_nil))) (ja_c (je_tup (ja_c je_int (ja_c je_bl ja_nil))) (ja_c (je_tup (ja_c je_int ja_nil)) (ja_c (je_lst (ja_c je_int (ja_c je_int ja_nil))) (ja_c je_non (ja_c je_str (ja_c (je_tup (ja_c je_int (ja_c je_int (ja_c je_int ja_nil)))) (ja_c (je_tup (ja_c (je_bin op_addAll sAdd (je_bin op_powW sPow je_int je_int) je_int) (ja_c je_int ja_nil))) ja_nil)))))))))))) (gn_ nd 3) (jss_cons (js_if (tcm_ op_isNotAll sIsNot (je_callD (ok_is_fraction c) (hr.mono (by decide)) (by rfl) tk (ja_c (n_ 3) ja_nil)) je_bl) (jss_one (js_ret je_bl)) jss_nil) (jss_cons (s_ nd 4 (ix_ (je_hear (k := 7) c.hear (by rfl) TB (by rfl) inT oneT (hr.mono (by decide)) (LamX.lamS_by (sc := defScope (top 54)) (by decide +kernel)) (fun A outer s H E f2 c2 hr tk => (je_callD (ok_plus c) (hr.mono (by decide)) (by rfl) tk (ja_c (n_ 1) (ja_c (n_ 3) ja_nil))))) je_int)) (jss_one (js_if (PW.pt (jw_or (jt_not (jt_t (isx_ (n_ 4) (by rfl) c.b_isinstance (by rfl) c.e_BadFraction))) (jw_or1 (tcm_ (op_neD (hu4 hr)) sNe (je_fn (call_reprD gu (hu5 hr)) sRepr (by rfl) c.b_repr (ja_c (val_ c.hT (n_ 4)) ja_nil)) (je_fn (call_reprD gu (hu5 hr)) sRepr (by rfl) c.b_repr (ja_c (n_ 3) ja_nil)))))) (jss_one (js_ret je_bl)) jss_nil))))) (jss_cons (as_ (je_tup (ja_c (je_bin op_sub sSub (je_ty call_intAll sInt1 (by rfl) c.b_int (ja_c (je_callD (ok__law_take c) (hr.mono (by decide)) (by rfl) tk (ja_c (n_ 0) (ja_c je_int ja_nil))) ja_nil)) je_int) (ja_c (je_bin op_sub sSub (je_ty call_intAll sInt1 (by rfl) c.b_int (ja_c (je_callD (ok__law_take c) (hr.mono (by decide)) (by rfl) tk (ja_c (n_ 0) (ja_c je_int ja_nil))) ja_nil)) je_int) ja_nil))) (gt_ (by rfl) (gc_ (gn_ nd 5) (gc_ (gn_ nd 6) jgs_nil)))) (jss_cons (js_if (tcm_ (op_eqD (hu4 hr)) sEq (n_ 6) je_int) (jss_cons (s_ nd 4 (ix_ (je_hear (k := 7) c.hear (by rfl) TB (by rfl) inT oneT (hr.mono (by decide)) (LamX.lamS_by (sc := defScope (top 54)) (by decide +kernel)) (fun A outer s H E f2 c2 hr tk => (je_callD (ok_ratio c) (hr.mono (by decide)) (by rfl) tk (ja_c (n_ 5) (ja_c (n_ 6) ja_nil))))) je_int)) (jss_one (js_if (PW.pt (jw_or (jt_not (jt_t (isx_ (n_ 4) (by rfl) c.b_isinstance (by rfl) c.e_BadNumber))) (jw_or1 (tcm_ (op_neD (hu4 hr)) sNe (val_ c.hT (n_ 4)) je_int)))) (jss_one (js_ret je_bl)) jss_nil))) (jss_one (js_if (tcm_ (op_neD (hu4 hr)) sNe (je_callD (ok_ratio c) (hr.mono (by decide)) (by rfl) tk (ja_c (n_ 5) (ja_c (n_ 6) ja_nil))) (je_callD (ok__law_made c) (hr.mono (by decide)) (by rfl) tk (ja_c (n_ 5) (ja_c (n_ 6) ja_nil)))) (jss_one (js_ret je_bl)) jss_nil))) (jss_one (js_ret (je_and (je_callD (ok__law_are_two_right c) (hr.mono (by decide)) (by rfl) tk (ja_c (n_ 1) (ja_c (n_ 2) ja_nil))) (je_and (je_callD (ok__law_are_texts_right c) (hr.mono (by decide)) (by rfl) tk (ja_c (n_ 0) (ja_c (n_ 1) ja_nil))) (je_one (je_callD (ok__law_is_unit_right c) (hr.mono (by decide)) (by rfl) tk (ja_c (n_ 0) ja_nil))))))))))))
theorem sc_law : FnScope ["script", "place", "pot", "lap"] ["script"] (defScope (top 55)) := ⟨rfl, rfl, rfl, by decide +kernel, rfl, by decide +kernel, by decide +kernel⟩
theorem ok_law (c : Sys P w K mg base G) : DefG P w K mg base G "law" 11 1 F_law :=
  (c.d_law).okG0 sc_law (fun _ _ _ _ _ _ us hl => match us, hl with | [_], _ => rfl) <| fun f cdv A outer s H E gu hr => by
    have nd := sc_law.nd
    have tk := (takes_of rfl rfl rfl rfl : Takes (cxOf (L2.CX P w) P w K mg base ["script", "place", "pot", "lap"] "law" (defScope (top 55)) f cdv A outer s H E) (WB E))
    exact (jss_cons (fo_ (passes_of (by rfl)) (by rfl) (ji_any (je_callD (ok__law_cells c) (hr.mono (by decide)) (by rfl) tk (ja_c (n_ 0) (ja_c je_int ja_nil)))) (gn_ nd 1) (jss_cons (s_ nd 2 (je_callD (ok__law_pot c) (hr.mono (by decide)) (by rfl) tk (ja_c (n_ 0) (ja_c (n_ 1) ja_nil)))) (jss_one (js_if (jt_not (jt_t (je_fn (cr_all (by rfl)) sAll (by rfl) c.b_all (ja_c (je_lof (lc_ (own := [("lap", 3)]) (by rfl) nd (r1_ (by rfl) c.b_range (ja_c je_int ja_nil)) (blkOk_by (N := ["script", "place", "pot", "lap"]) (sc := defScope (top 55)) (own := [("lap", 3)]) (by decide +kernel)) (fun _ _ _ _ _ => (gn_ nd 3)) (fun _ _ _ _ _ => jts_nil) (fun _ _ _ _ _ => (je_callDG (ok__law_right c) gu (hr.mono (by decide)) (by rfl) LamX.takes0 (ja_c (n_ 2) ja_nil))))) ja_nil)))) (jss_one (js_ret je_bl)) jss_nil)))) (jss_one (js_ret je_bl)))
theorem run_law (c : Sys P w K mg base G) {f : Addr} {fd : FuncData} (FD : FunD K "law" "law" (defArgs (top 55)) (defBody (top 55)) (defScope (top 55)) [] [] f fd) : FnG P w K mg base (L2.CX P w) 11 f fd ["script"] (spF K G 1 F_law) :=
  fnG_of FD sc_law <| fun cdv A outer s H E gu hr => by
    have nd := sc_law.nd
    have tk := (takes_of rfl rfl rfl rfl : Takes (cxOf (L2.CX P w) P w K mg base ["script", "place", "pot", "lap"] "law" (defScope (top 55)) f cdv A outer s H E) (WB E))
    exact (jss_cons (fo_ (passes_of (by rfl)) (by rfl) (ji_any (je_callD (ok__law_cells c) (hr.mono (by decide)) (by rfl) tk (ja_c (n_ 0) (ja_c je_int ja_nil)))) (gn_ nd 1) (jss_cons (s_ nd 2 (je_callD (ok__law_pot c) (hr.mono (by decide)) (by rfl) tk (ja_c (n_ 0) (ja_c (n_ 1) ja_nil)))) (jss_one (js_if (jt_not (jt_t (je_fn (cr_all (by rfl)) sAll (by rfl) c.b_all (ja_c (je_lof (lc_ (own := [("lap", 3)]) (by rfl) nd (r1_ (by rfl) c.b_range (ja_c je_int ja_nil)) (blkOk_by (N := ["script", "place", "pot", "lap"]) (sc := defScope (top 55)) (own := [("lap", 3)]) (by decide +kernel)) (fun _ _ _ _ _ => (gn_ nd 3)) (fun _ _ _ _ _ => jts_nil) (fun _ _ _ _ _ => (je_callDG (ok__law_right c) gu (hr.mono (by decide)) (by rfl) LamX.takes0 (ja_c (n_ 2) ja_nil))))) ja_nil)))) (jss_one (js_ret je_bl)) jss_nil)))) (jss_one (js_ret je_bl)))
end
end LK00
set_option maxRecDepth 100000
set_option maxHeartbeats 0
namespace LK00
open PySem PySem.Spec PyProof.Rows L2 Pv
def dd (x : Str) (i : Nat) : He.DefD := ⟨(x, none), x, x, defArgs (top i), defBody (top i), defScope (top i), [], []⟩
def fn : List He.DefD := [dd "is_integer" 1, dd "is_tuple" 2, dd "read_number" 3, dd "common" 14, dd "made" 15, dd "plus_of" 16, dd "minus_of" 17, dd "times_of" 18, dd "over_of" 19, dd "is_below" 20, dd "floor_of" 21, dd "unit_of" 22, dd "is_fraction_to" 23, dd "check_fraction" 24, dd "is_fraction" 25, dd "ratio" 26, dd "plus" 27, dd "minus" 28, dd "times" 29, dd "over" 30, dd "compare" 31, dd "unit" 32, dd "how_often" 33, dd "text" 34, dd "text_of" 35, dd "fraction_in" 36, dd "read" 37, dd "_law_pot" 39, dd "_law_take" 40, dd "_law_cells" 41, dd "_law_heard" 42, dd "_law_made" 43, dd "_law_plus" 44, dd "_law_minus" 45, dd "_law_times" 46, dd "_law_over" 47, dd "_law_below" 48, dd "_law_gcd" 49, dd "_law_drawn" 50, dd "_law_are_two_right" 51, dd "_law_are_texts_right" 52, dd "_law_is_unit_right" 53, dd "_law_right" 54, dd "law" 55]
def fa : List He.Fa := [.glo "is_integer", .glo "is_tuple", .glo "read_number", .glo "common", .glo "made", .glo "plus_of", .glo "minus_of", .glo "times_of", .glo "over_of", .glo "is_below", .glo "floor_of", .glo "unit_of", .glo "is_fraction_to", .glo "check_fraction", .glo "is_fraction", .glo "ratio", .glo "plus", .glo "minus", .glo "times", .glo "over", .glo "compare", .glo "unit", .glo "how_often", .glo "text", .glo "text_of", .glo "fraction_in", .glo "read", .glo "_law_pot", .glo "_law_take", .glo "_law_cells", .glo "_law_heard", .glo "_law_made", .glo "_law_plus", .glo "_law_minus", .glo "_law_times", .glo "_law_over", .glo "_law_below", .glo "_law_gcd", .glo "_law_drawn", .glo "_law_are_two_right", .glo "_law_are_texts_right", .glo "_law_is_unit_right", .glo "_law_right", .glo "law", .glo "ClockError", .glo "BadFraction", .glo "BadNumber", .glo "NoText", .free "abs", .free "all", .free "any", .free "bool", .free "int", .free "isinstance", .free "len", .free "list", .free "max", .free "min", .free "range", .free "repr", .free "str", .free "sum", .free "tuple", .free "super", .int "MOST" 1000000000000, .int "MOST_HANDED" 10000000000000000000000000000000000000000, .int "PAIR" 2, .glo "WHOLE", .exm "ClockError" "ClockError" true, .exm "BadFraction" "ClockError" true, .exm "BadNumber" "ClockError" true, .exm "NoText" "ClockError" true]
def tf : List He.Defn := [("_law_are_two_right", none), ("_law_are_texts_right", none), ("_law_is_unit_right", none), ("_law_right", none)]
abbrev R : PySem.W.OpenRow := PySem.W.OpenLaw.row PySem.Challenge.rw_noshortbeat_k00_fractions_reckon_as_pair
def ls0 : List Str := ["is_integer", "is_tuple", "read_number", "ClockError", "BadFraction", "BadNumber", "NoText", "MOST", "MOST_HANDED", "WHOLE", "PAIR", "common", "made", "plus_of", "minus_of", "times_of", "over_of", "is_below", "floor_of", "unit_of", "is_fraction_to", "check_fraction", "is_fraction", "ratio", "plus", "minus", "times", "over", "compare", "unit"]
def ls1 : List Str := ["how_often", "text", "text_of", "fraction_in", "read", "_law_pot", "_law_take", "_law_cells", "_law_heard", "_law_made", "_law_plus", "_law_minus", "_law_times", "_law_over", "_law_below", "_law_gcd", "_law_drawn", "_law_are_two_right", "_law_are_texts_right", "_law_is_unit_right", "_law_right"]
def loose : List Str := ls0 ++ ls1
def caF (K : PySem.W.Frag) : Nat → Addr
  | 1 => He.ga K "BadFraction"
  | 2 => He.ga K "BadNumber"
  | 3 => He.ga K "NoText"
  | _ => He.ga K "ClockError"
def exs (K : PySem.W.Frag) : List Bool := [ctB K (He.ga K "ClockError") (He.ma K (He.ga K "ClockError") "__init__") (He.ga K "ClockError"),
  ctB K (He.ga K "ClockError") (He.ma K (He.ga K "ClockError") "__init__") (He.ga K "BadFraction"),
  ctB K (He.ga K "ClockError") (He.ma K (He.ga K "ClockError") "__init__") (He.ga K "BadNumber"),
  ctB K (He.ga K "ClockError") (He.ma K (He.ga K "ClockError") "__init__") (He.ga K "NoText"),
  itB R.prog K (He.ga K "ClockError") (He.ma K (He.ga K "ClockError") "__init__") "ClockError.__init__",
  rvB K (.tup [.int 1, .int 1]) (.ref (He.ga K "WHOLE")),
  tabsNo tf K]
def ex (K : PySem.W.Frag) : Bool := (exs K).all id
def ini (K : PySem.W.Frag) : Addr := He.ma K (He.ga K "ClockError") "__init__"
def iv : Ini := iniVal "ClockError.__init__" (methSt (top 5))
abbrev hk : PySem.W.Hook := hookY 6 fa fn tf ex ini iv
def ob (s : PySem.W.SharedT) : AlY := obsY 6 fa fn tf ex ini (HandSHeadRun.getT s)
theorem ob_eq (s : PySem.W.SharedT) : ob s = hk.obs s.abs := obsY_eq (HandSHeadRun.getT_eq s)
theorem run (w : World) : HandSHeadRun.RunEq R (PySem.W.view R.prog [55]) hk ob 4000 loose w := by
  intro os
  kernel_rfl
def Gk (K : PySem.W.Frag) : Gc := ⟨tabT tf K, caF K⟩
section
variable {w : World} {h base : Heap} {K : PySem.W.Frag} {mg : Str → Option Value}
theorem sys_of (c : SaysY fa fn tf ex ini iv w h K) (X : K.In h) (G : h.Ns mainGlobals mg) (TBs : ∀ p ∈ tf.map (He.cT K), LamX.TabB base mg p.1 p.2) : Sys R.prog w K mg base (Gk K) := by
  have D := c.t.d
  have E : (exs K).all id = true := c.more
  have m0 : mg "ClockError" = some (.ref (He.ga K "ClockError")) := He.glo_ok X G (D.fact 44 (f := .glo "ClockError") rfl)
  have hm : ∀ k, PySem.W.exmOne K (.ref ((Gk K).ca k)) (.ref (He.ga K "ClockError")) = some true := fun k => match k with
    | 1 => He.exm_ok (D.fact 69 (f := .exm "BadFraction" "ClockError" true) rfl)
    | 2 => He.exm_ok (D.fact 70 (f := .exm "BadNumber" "ClockError" true) rfl)
    | 3 => He.exm_ok (D.fact 71 (f := .exm "NoText" "ClockError" true) rfl)
    | 0 => He.exm_ok (D.fact 68 (f := .exm "ClockError" "ClockError" true) rfl)
    | _ + 4 => He.exm_ok (D.fact 68 (f := .exm "ClockError" "ClockError" true) rfl)
  have hT : ∀ k, Er.CT K ((Gk K).ca 0) (He.ma K ((Gk K).ca 0) "__init__") ((Gk K).ca k) := fun k => match k with
    | 1 => ct_of (all_at E 1 rfl)
    | 2 => ct_of (all_at E 2 rfl)
    | 3 => ct_of (all_at E 3 rfl)
    | 0 => ct_of (all_at E 0 rfl)
    | _ + 4 => ct_of (all_at E 0 rfl)
  have dh : Def1 K mg "_law_heard" (top 42) := by
    obtain ⟨fd, F⟩ := D.def_ 30 (d := dd "_law_heard" 42) rfl
    exact ⟨_, fd, He.glo_ok X G (D.fact 30 (f := .glo "_law_heard") rfl), F⟩
  have hear : Hear K mg (Gk K) := hear_of dh rfl ⟨rfl, rfl, rfl, by decide +kernel, rfl, by decide +kernel, by decide +kernel⟩ (fun _ _ _ _ _ _ us hl => match us, hl with | [_], _ => rfl) rfl rfl rfl rfl rfl m0 hm (fun _ _ _ => by rfl)
  have l__law_are_two_right : ∃ (cc Pt : Addr), (∀ (f : Addr) (fd : FuncData), mg "_law_are_two_right" = some (.ref f) → (∃ (oc : Value) (od : Option Addr) (osl : Array (Option Value)), K.lookup f = some ⟨oc, od, .func fd, osl⟩) → fd.code = .ref cc) ∧ LamX.TabB base mg cc Pt ∧ (Pt, (("_law_are_two_right" : Str) ++ ".<locals>.") ++ "<lambda>") ∈ (Gk K).T ∧ ∀ p ∈ (Gk K).T, p.1 = Pt → p.2 = (("_law_are_two_right" : Str) ++ ".<locals>.") ++ "<lambda>" := by
    refine ⟨(He.cT K ("_law_are_two_right", none)).1, (He.cT K ("_law_are_two_right", none)).2, fun f fd m l => ?_, TBs _ (List.mem_map.mpr ⟨("_law_are_two_right", none), by decide, rfl⟩), List.mem_map.mpr ⟨("_law_are_two_right", none), by decide, rfl⟩, fun p hp e => ?_⟩
    · have e := m.symm.trans (He.glo_ok X G (D.fact 39 (f := .glo "_law_are_two_right") rfl))
      cases e
      obtain ⟨oc, od, osl, lk⟩ := l
      obtain ⟨fd2, F⟩ := D.def_ 39 (d := dd "_law_are_two_right" 51) rfl
      exact code_of F lk
    · exact tab_one (all_at E 6 rfl) (d := ("_law_are_two_right", none)) (by decide) p hp e
  have l__law_are_texts_right : ∃ (cc Pt : Addr), (∀ (f : Addr) (fd : FuncData), mg "_law_are_texts_right" = some (.ref f) → (∃ (oc : Value) (od : Option Addr) (osl : Array (Option Value)), K.lookup f = some ⟨oc, od, .func fd, osl⟩) → fd.code = .ref cc) ∧ LamX.TabB base mg cc Pt ∧ (Pt, (("_law_are_texts_right" : Str) ++ ".<locals>.") ++ "<lambda>") ∈ (Gk K).T ∧ ∀ p ∈ (Gk K).T, p.1 = Pt → p.2 = (("_law_are_texts_right" : Str) ++ ".<locals>.") ++ "<lambda>" := by
    refine ⟨(He.cT K ("_law_are_texts_right", none)).1, (He.cT K ("_law_are_texts_right", none)).2, fun f fd m l => ?_, TBs _ (List.mem_map.mpr ⟨("_law_are_texts_right", none), by decide, rfl⟩), List.mem_map.mpr ⟨("_law_are_texts_right", none), by decide, rfl⟩, fun p hp e => ?_⟩
    · have e := m.symm.trans (He.glo_ok X G (D.fact 40 (f := .glo "_law_are_texts_right") rfl))
      cases e
      obtain ⟨oc, od, osl, lk⟩ := l
      obtain ⟨fd2, F⟩ := D.def_ 40 (d := dd "_law_are_texts_right" 52) rfl
      exact code_of F lk
    · exact tab_one (all_at E 6 rfl) (d := ("_law_are_texts_right", none)) (by decide) p hp e
  have l__law_is_unit_right : ∃ (cc Pt : Addr), (∀ (f : Addr) (fd : FuncData), mg "_law_is_unit_right" = some (.ref f) → (∃ (oc : Value) (od : Option Addr) (osl : Array (Option Value)), K.lookup f = some ⟨oc, od, .func fd, osl⟩) → fd.code = .ref cc) ∧ LamX.TabB base mg cc Pt ∧ (Pt, (("_law_is_unit_right" : Str) ++ ".<locals>.") ++ "<lambda>") ∈ (Gk K).T ∧ ∀ p ∈ (Gk K).T, p.1 = Pt → p.2 = (("_law_is_unit_right" : Str) ++ ".<locals>.") ++ "<lambda>" := by
    refine ⟨(He.cT K ("_law_is_unit_right", none)).1, (He.cT K ("_law_is_unit_right", none)).2, fun f fd m l => ?_, TBs _ (List.mem_map.mpr ⟨("_law_is_unit_right", none), by decide, rfl⟩), List.mem_map.mpr ⟨("_law_is_unit_right", none), by decide, rfl⟩, fun p hp e => ?_⟩
    · have e := m.symm.trans (He.glo_ok X G (D.fact 41 (f := .glo "_law_is_unit_right") rfl))
      cases e
      obtain ⟨oc, od, osl, lk⟩ := l
      obtain ⟨fd2, F⟩ := D.def_ 41 (d := dd "_law_is_unit_right" 53) rfl
      exact code_of F lk
    · exact tab_one (all_at E 6 rfl) (d := ("_law_is_unit_right", none)) (by decide) p hp e
  have l__law_right : ∃ (cc Pt : Addr), (∀ (f : Addr) (fd : FuncData), mg "_law_right" = some (.ref f) → (∃ (oc : Value) (od : Option Addr) (osl : Array (Option Value)), K.lookup f = some ⟨oc, od, .func fd, osl⟩) → fd.code = .ref cc) ∧ LamX.TabB base mg cc Pt ∧ (Pt, (("_law_right" : Str) ++ ".<locals>.") ++ "<lambda>") ∈ (Gk K).T ∧ ∀ p ∈ (Gk K).T, p.1 = Pt → p.2 = (("_law_right" : Str) ++ ".<locals>.") ++ "<lambda>" := by
    refine ⟨(He.cT K ("_law_right", none)).1, (He.cT K ("_law_right", none)).2, fun f fd m l => ?_, TBs _ (List.mem_map.mpr ⟨("_law_right", none), by decide, rfl⟩), List.mem_map.mpr ⟨("_law_right", none), by decide, rfl⟩, fun p hp e => ?_⟩
    · have e := m.symm.trans (He.glo_ok X G (D.fact 42 (f := .glo "_law_right") rfl))
      cases e
      obtain ⟨oc, od, osl, lk⟩ := l
      obtain ⟨fd2, F⟩ := D.def_ 42 (d := dd "_law_right" 54) rfl
      exact code_of F lk
    · exact tab_one (all_at E 6 rfl) (d := ("_law_right", none)) (by decide) p hp e
  exact {
    d_is_integer := by
      obtain ⟨fd, F⟩ := D.def_ 0 (d := dd "is_integer" 1) rfl
      exact ⟨_, fd, He.glo_ok X G (D.fact 0 (f := .glo "is_integer") rfl), F⟩
    d_is_tuple := by
      obtain ⟨fd, F⟩ := D.def_ 1 (d := dd "is_tuple" 2) rfl
      exact ⟨_, fd, He.glo_ok X G (D.fact 1 (f := .glo "is_tuple") rfl), F⟩
    d_read_number := by
      obtain ⟨fd, F⟩ := D.def_ 2 (d := dd "read_number" 3) rfl
      exact ⟨_, fd, He.glo_ok X G (D.fact 2 (f := .glo "read_number") rfl), F⟩
    d_common := by
      obtain ⟨fd, F⟩ := D.def_ 3 (d := dd "common" 14) rfl
      exact ⟨_, fd, He.glo_ok X G (D.fact 3 (f := .glo "common") rfl), F⟩
    d_made := by
      obtain ⟨fd, F⟩ := D.def_ 4 (d := dd "made" 15) rfl
      exact ⟨_, fd, He.glo_ok X G (D.fact 4 (f := .glo "made") rfl), F⟩
    d_plus_of := by
      obtain ⟨fd, F⟩ := D.def_ 5 (d := dd "plus_of" 16) rfl
      exact ⟨_, fd, He.glo_ok X G (D.fact 5 (f := .glo "plus_of") rfl), F⟩
    d_minus_of := by
      obtain ⟨fd, F⟩ := D.def_ 6 (d := dd "minus_of" 17) rfl
      exact ⟨_, fd, He.glo_ok X G (D.fact 6 (f := .glo "minus_of") rfl), F⟩
    d_times_of := by
      obtain ⟨fd, F⟩ := D.def_ 7 (d := dd "times_of" 18) rfl
      exact ⟨_, fd, He.glo_ok X G (D.fact 7 (f := .glo "times_of") rfl), F⟩
    d_over_of := by
      obtain ⟨fd, F⟩ := D.def_ 8 (d := dd "over_of" 19) rfl
      exact ⟨_, fd, He.glo_ok X G (D.fact 8 (f := .glo "over_of") rfl), F⟩
    d_is_below := by
      obtain ⟨fd, F⟩ := D.def_ 9 (d := dd "is_below" 20) rfl
      exact ⟨_, fd, He.glo_ok X G (D.fact 9 (f := .glo "is_below") rfl), F⟩
    d_floor_of := by
      obtain ⟨fd, F⟩ := D.def_ 10 (d := dd "floor_of" 21) rfl
      exact ⟨_, fd, He.glo_ok X G (D.fact 10 (f := .glo "floor_of") rfl), F⟩
    d_unit_of := by
      obtain ⟨fd, F⟩ := D.def_ 11 (d := dd "unit_of" 22) rfl
      exact ⟨_, fd, He.glo_ok X G (D.fact 11 (f := .glo "unit_of") rfl), F⟩
    d_is_fraction_to := by
      obtain ⟨fd, F⟩ := D.def_ 12 (d := dd "is_fraction_to" 23) rfl
      exact ⟨_, fd, He.glo_ok X G (D.fact 12 (f := .glo "is_fraction_to") rfl), F⟩
    d_check_fraction := by
      obtain ⟨fd, F⟩ := D.def_ 13 (d := dd "check_fraction" 24) rfl
      exact ⟨_, fd, He.glo_ok X G (D.fact 13 (f := .glo "check_fraction") rfl), F⟩
    d_is_fraction := by
      obtain ⟨fd, F⟩ := D.def_ 14 (d := dd "is_fraction" 25) rfl
      exact ⟨_, fd, He.glo_ok X G (D.fact 14 (f := .glo "is_fraction") rfl), F⟩
    d_ratio := by
      obtain ⟨fd, F⟩ := D.def_ 15 (d := dd "ratio" 26) rfl
      exact ⟨_, fd, He.glo_ok X G (D.fact 15 (f := .glo "ratio") rfl), F⟩
    d_plus := by
      obtain ⟨fd, F⟩ := D.def_ 16 (d := dd "plus" 27) rfl
      exact ⟨_, fd, He.glo_ok X G (D.fact 16 (f := .glo "plus") rfl), F⟩
    d_minus := by
      obtain ⟨fd, F⟩ := D.def_ 17 (d := dd "minus" 28) rfl
      exact ⟨_, fd, He.glo_ok X G (D.fact 17 (f := .glo "minus") rfl), F⟩
    d_times := by
      obtain ⟨fd, F⟩ := D.def_ 18 (d := dd "times" 29) rfl
      exact ⟨_, fd, He.glo_ok X G (D.fact 18 (f := .glo "times") rfl), F⟩
    d_over := by
      obtain ⟨fd, F⟩ := D.def_ 19 (d := dd "over" 30) rfl
      exact ⟨_, fd, He.glo_ok X G (D.fact 19 (f := .glo "over") rfl), F⟩
    d_compare := by
      obtain ⟨fd, F⟩ := D.def_ 20 (d := dd "compare" 31) rfl
      exact ⟨_, fd, He.glo_ok X G (D.fact 20 (f := .glo "compare") rfl), F⟩
    d_unit := by
      obtain ⟨fd, F⟩ := D.def_ 21 (d := dd "unit" 32) rfl
      exact ⟨_, fd, He.glo_ok X G (D.fact 21 (f := .glo "unit") rfl), F⟩
    d_how_often := by
      obtain ⟨fd, F⟩ := D.def_ 22 (d := dd "how_often" 33) rfl
      exact ⟨_, fd, He.glo_ok X G (D.fact 22 (f := .glo "how_often") rfl), F⟩
    d_text := by
      obtain ⟨fd, F⟩ := D.def_ 23 (d := dd "text" 34) rfl
      exact ⟨_, fd, He.glo_ok X G (D.fact 23 (f := .glo "text") rfl), F⟩
    d_text_of := by
      obtain ⟨fd, F⟩ := D.def_ 24 (d := dd "text_of" 35) rfl
      exact ⟨_, fd, He.glo_ok X G (D.fact 24 (f := .glo "text_of") rfl), F⟩
    d_fraction_in := by
      obtain ⟨fd, F⟩ := D.def_ 25 (d := dd "fraction_in" 36) rfl
      exact ⟨_, fd, He.glo_ok X G (D.fact 25 (f := .glo "fraction_in") rfl), F⟩
    d_read := by
      obtain ⟨fd, F⟩ := D.def_ 26 (d := dd "read" 37) rfl
      exact ⟨_, fd, He.glo_ok X G (D.fact 26 (f := .glo "read") rfl), F⟩
    d__law_pot := by
      obtain ⟨fd, F⟩ := D.def_ 27 (d := dd "_law_pot" 39) rfl
      exact ⟨_, fd, He.glo_ok X G (D.fact 27 (f := .glo "_law_pot") rfl), F⟩
    d__law_take := by
      obtain ⟨fd, F⟩ := D.def_ 28 (d := dd "_law_take" 40) rfl
      exact ⟨_, fd, He.glo_ok X G (D.fact 28 (f := .glo "_law_take") rfl), F⟩
    d__law_cells := by
      obtain ⟨fd, F⟩ := D.def_ 29 (d := dd "_law_cells" 41) rfl
      exact ⟨_, fd, He.glo_ok X G (D.fact 29 (f := .glo "_law_cells") rfl), F⟩
    d__law_made := by
      obtain ⟨fd, F⟩ := D.def_ 31 (d := dd "_law_made" 43) rfl
      exact ⟨_, fd, He.glo_ok X G (D.fact 31 (f := .glo "_law_made") rfl), F⟩
    d__law_plus := by
      obtain ⟨fd, F⟩ := D.def_ 32 (d := dd "_law_plus" 44) rfl
      exact ⟨_, fd, He.glo_ok X G (D.fact 32 (f := .glo "_law_plus") rfl), F⟩
    d__law_minus := by
      obtain ⟨fd, F⟩ := D.def_ 33 (d := dd "_law_minus" 45) rfl
      exact ⟨_, fd, He.glo_ok X G (D.fact 33 (f := .glo "_law_minus") rfl), F⟩
    d__law_times := by
      obtain ⟨fd, F⟩ := D.def_ 34 (d := dd "_law_times" 46) rfl
      exact ⟨_, fd, He.glo_ok X G (D.fact 34 (f := .glo "_law_times") rfl), F⟩
    d__law_over := by
      obtain ⟨fd, F⟩ := D.def_ 35 (d := dd "_law_over" 47) rfl
      exact ⟨_, fd, He.glo_ok X G (D.fact 35 (f := .glo "_law_over") rfl), F⟩
    d__law_below := by
      obtain ⟨fd, F⟩ := D.def_ 36 (d := dd "_law_below" 48) rfl
      exact ⟨_, fd, He.glo_ok X G (D.fact 36 (f := .glo "_law_below") rfl), F⟩
    d__law_gcd := by
      obtain ⟨fd, F⟩ := D.def_ 37 (d := dd "_law_gcd" 49) rfl
      exact ⟨_, fd, He.glo_ok X G (D.fact 37 (f := .glo "_law_gcd") rfl), F⟩
    d__law_drawn := by
      obtain ⟨fd, F⟩ := D.def_ 38 (d := dd "_law_drawn" 50) rfl
      exact ⟨_, fd, He.glo_ok X G (D.fact 38 (f := .glo "_law_drawn") rfl), F⟩
    d__law_are_two_right := by
      obtain ⟨fd, F⟩ := D.def_ 39 (d := dd "_law_are_two_right" 51) rfl
      exact ⟨_, fd, He.glo_ok X G (D.fact 39 (f := .glo "_law_are_two_right") rfl), F⟩
    d__law_are_texts_right := by
      obtain ⟨fd, F⟩ := D.def_ 40 (d := dd "_law_are_texts_right" 52) rfl
      exact ⟨_, fd, He.glo_ok X G (D.fact 40 (f := .glo "_law_are_texts_right") rfl), F⟩
    d__law_is_unit_right := by
      obtain ⟨fd, F⟩ := D.def_ 41 (d := dd "_law_is_unit_right" 53) rfl
      exact ⟨_, fd, He.glo_ok X G (D.fact 41 (f := .glo "_law_is_unit_right") rfl), F⟩
    d__law_right := by
      obtain ⟨fd, F⟩ := D.def_ 42 (d := dd "_law_right" 54) rfl
      exact ⟨_, fd, He.glo_ok X G (D.fact 42 (f := .glo "_law_right") rfl), F⟩
    d_law := by
      obtain ⟨fd, F⟩ := D.def_ 43 (d := dd "law" 55) rfl
      exact ⟨_, fd, He.glo_ok X G (D.fact 43 (f := .glo "law") rfl), F⟩
    b_abs := He.free_ok X G (D.fact 48 (f := .free "abs") rfl)
    b_all := He.free_ok X G (D.fact 49 (f := .free "all") rfl)
    b_any := He.free_ok X G (D.fact 50 (f := .free "any") rfl)
    b_bool := He.free_ok X G (D.fact 51 (f := .free "bool") rfl)
    b_int := He.free_ok X G (D.fact 52 (f := .free "int") rfl)
    b_isinstance := He.free_ok X G (D.fact 53 (f := .free "isinstance") rfl)
    b_len := He.free_ok X G (D.fact 54 (f := .free "len") rfl)
    b_list := He.free_ok X G (D.fact 55 (f := .free "list") rfl)
    b_max := He.free_ok X G (D.fact 56 (f := .free "max") rfl)
    b_min := He.free_ok X G (D.fact 57 (f := .free "min") rfl)
    b_range := He.free_ok X G (D.fact 58 (f := .free "range") rfl)
    b_repr := He.free_ok X G (D.fact 59 (f := .free "repr") rfl)
    b_str := He.free_ok X G (D.fact 60 (f := .free "str") rfl)
    b_sum := He.free_ok X G (D.fact 61 (f := .free "sum") rfl)
    b_tuple := He.free_ok X G (D.fact 62 (f := .free "tuple") rfl)
    g_MOST := He.int_ok X G (D.fact 64 (f := .int "MOST" 1000000000000) rfl)
    g_MOST_HANDED := He.int_ok X G (D.fact 65 (f := .int "MOST_HANDED" 10000000000000000000000000000000000000000) rfl)
    g_PAIR := He.int_ok X G (D.fact 66 (f := .int "PAIR" 2) rfl)
    g_WHOLE := He.glo_ok X G (D.fact 67 (f := .glo "WHOLE") rfl)
    v_WHOLE := fun w => rv_of (all_at E 5 rfl)
    hT := hT
    init := it_of (q := "ClockError.__init__") (st := methSt (top 5)) (all_at E 4 rfl) c.init (He.free_ok X G (D.fact 63 (f := .free "super") rfl)) rfl rfl rfl rfl rfl rfl rfl rfl rfl (by decide +kernel) rfl (fun dV _ _ _ _ _ _ _ x v e => by subst e; rfl)
    e_ClockError := He.glo_ok X G (D.fact 44 (f := .glo "ClockError") rfl)
    e_BadFraction := He.glo_ok X G (D.fact 45 (f := .glo "BadFraction") rfl)
    e_BadNumber := He.glo_ok X G (D.fact 46 (f := .glo "BadNumber") rfl)
    e_NoText := He.glo_ok X G (D.fact 47 (f := .glo "NoText") rfl)
    hear := hear
    l__law_are_two_right := l__law_are_two_right
    l__law_are_texts_right := l__law_are_texts_right
    l__law_is_unit_right := l__law_is_unit_right
    l__law_right := l__law_right }
end
end LK00
set_option maxRecDepth 100000
set_option maxHeartbeats 400000
set_option autoImplicit false
/-! Pm0: reckoning with the functions of plain values. -/
namespace Pv
open PySem PySem.Spec PyProof.Rows L2
theorem whileN_more {p : TF} {b : SF} : ∀ (n : Nat) (E : Ev) (m : Mem), whileN p b n E m ≠ .bad → whileN p b (n + 1) E m = whileN p b n E m
  | 0, E, m, h => absurd rfl h
  | n + 1, E, m, h => by
    have h1 : whileN p b (n + 1) E m = (match p E m with
      | .ok true m1 => (match b E m1 with
        | .next E2 m2 => whileN p b n E2 m2
        | .cnt E2 m2 => whileN p b n E2 m2
        | .brk E2 m2 => .next E2 m2
        | .ret v m2 => .ret v m2
        | .exc c v E2 m2 => .exc c v E2 m2
        | .bad => .bad)
      | .ok false m1 => .next E m1
      | .exc c v m1 => .exc c v E m1
      | .bad => .bad) := rfl
    have h2 : whileN p b (n + 2) E m = (match p E m with
      | .ok true m1 => (match b E m1 with
        | .next E2 m2 => whileN p b (n + 1) E2 m2
        | .cnt E2 m2 => whileN p b (n + 1) E2 m2
        | .brk E2 m2 => .next E2 m2
        | .ret v m2 => .ret v m2
        | .exc c v E2 m2 => .exc c v E2 m2
        | .bad => .bad)
      | .ok false m1 => .next E m1
      | .exc c v m1 => .exc c v E m1
      | .bad => .bad) := rfl
    rw [h1] at h ⊢
    rw [h2]
    cases q : p E m with
    | ok t m1 =>
      rw [q] at h
      cases t with
      | true =>
        dsimp only at h ⊢
        cases q2 : b E m1 with
        | next E2 m2 =>
          rw [q2] at h
          exact whileN_more n E2 m2 h
        | cnt E2 m2 =>
          rw [q2] at h
          exact whileN_more n E2 m2 h
        | _ => rfl
      | false => rfl
    | _ => rfl
theorem whileN_le {p : TF} {b : SF} {E : Ev} {m : Mem} {n : Nat} (h : whileN p b n E m ≠ .bad) : ∀ k, whileN p b (n + k) E m = whileN p b n E m
  | 0 => rfl
  | k + 1 => by
    have ih := whileN_le h k
    rw [← ih]
    exact whileN_more (n + k) E m (by rw [ih]; exact h)
theorem sWhile_eq {p : TF} {b : SF} {E : Ev} {m : Mem} {n : Nat} {o : Out} (h : whileN p b n E m = o) (ho : o ≠ .bad) : sWhile p b E m = o := by
  have hx : ∃ n, whileN p b n E m ≠ .bad := ⟨n, by rw [h]; exact ho⟩
  unfold sWhile
  rw [dif_pos hx]
  have c := Classical.choose_spec hx
  have e1 := whileN_le c n
  have e2 := whileN_le (n := n) (by rw [h]; exact ho) (Classical.choose hx)
  rw [Nat.add_comm] at e2
  rw [← e1, e2, h]
/-! ### numbers -/
theorem lg_lt {i : Int} {k : Nat} (h : i.natAbs < 2 ^ k) (hk : 0 < k) : lg i < k := by
  unfold lg
  by_cases h0 : i.natAbs = 0
  · rw [h0]
    simpa using hk
  · exact (Nat.log2_lt h0).mpr h
theorem okD_int (i : Int) : okD (.int i) = true := rfl
theorem pNe_int (i j : Int) (m : Mem) : pNe (.int i) (.int j) m = some (.bl (!(i == j))) := rfl
theorem pEq_int (i j : Int) (m : Mem) : pEq (.int i) (.int j) m = some (.bl (i == j)) := rfl
theorem pMul_int {i j : Int} {m : Mem} (h : lg i + lg j < 1000000) : pMul (.int i) (.int j) m = some (.int (i * j)) := if_pos h
theorem pFdiv_int {i j : Int} {m : Mem} (h : 0 < j ∧ lg j < 9000) : pFdiv (.int i) (.int j) m = some (.int (i / j)) := if_pos h
theorem pMod_int {i j : Int} {m : Mem} (h : 0 < j) : pMod (.int i) (.int j) m = some (.int (i % j)) := if_pos h
theorem pPow_int {i j : Int} {m : Mem} (h : 0 ≤ j ∧ ((Pv.lg i + 1 : Nat) : Int) * j ≤ 2 ^ 27) : pPow (.int i) (.int j) m = some (.int (i ^ j.toNat)) := if_pos h
theorem pw9 (m : Mem) : pPow (.int 10) (.int 9) m = some (.int 1000000000) := rfl
theorem pw10 (m : Mem) : pPow (.int 10) (.int 10) m = some (.int 10000000000) := rfl
theorem pw18 (m : Mem) : pPow (.int 10) (.int 18) m = some (.int 1000000000000000000) := rfl
theorem pw12 (m : Mem) : pPow (.int 10) (.int 12) m = some (.int 1000000000000) := rfl
theorem pw40 (m : Mem) : pPow (.int 10) (.int 40) m = some (.int 10000000000000000000000000000000000000000) := rfl
theorem pw60 (m : Mem) : pPow (.int 10) (.int 60) m = some (.int (10 ^ 60)) := rfl
theorem pw605 (m : Mem) : pPow (.int (10 ^ 60)) (.int 5) m = some (.int (10 ^ 300)) := rfl
abbrev fr (a b : Int) : PV := .tup [.int a, .int b]
theorem okD_fr (a b : Int) : okD (fr a b) = true := rfl
theorem pNe_fr (a b c d : Int) (m : Mem) : pNe (fr a b) (fr c d) m = some (.bl (!(a == c && (b == d && true)))) := by
  unfold pNe
  rw [if_pos ⟨okD_fr a b, okD_fr c d⟩]
  simp [toD, toDs, PyData.eqv, PyData.eqvAll]
theorem pEq_fr (a b c d : Int) (m : Mem) : pEq (fr a b) (fr c d) m = some (.bl (a == c && (b == d && true))) := by
  unfold pEq
  rw [if_pos ⟨okD_fr a b, okD_fr c d⟩]
  simp [toD, toDs, PyData.eqv, PyData.eqvAll]
theorem fits {n : Nat} (h : n ≤ 1000) : n ≤ sizeLine := by
  rw [sizeLine_eq]
  omega
theorem fits0 : 0 ≤ sizeLine := fits (by decide)
theorem fits1 : 1 ≤ sizeLine := fits (by decide)
theorem fits2 : 2 ≤ sizeLine := fits (by decide)
theorem fits3 : 3 ≤ sizeLine := fits (by decide)
theorem fits4 : 4 ≤ sizeLine := fits (by decide)
theorem fits5 : 5 ≤ sizeLine := fits (by decide)
theorem atI_c0 {α : Type} (x : α) (xs : List α) : atI (x :: xs) 0 = some x := by
  unfold atI ixN
  rw [if_pos (by omega), if_pos (by simp only [List.length_cons]; omega)]
  rfl
theorem atI_c1 {α : Type} (x y : α) (xs : List α) : atI (x :: y :: xs) 1 = some y := by
  unfold atI ixN
  rw [if_pos (by omega), if_pos (by simp only [List.length_cons]; omega)]
  rfl
theorem atI_c2 {α : Type} (x y z : α) (xs : List α) : atI (x :: y :: z :: xs) 2 = some z := by
  unfold atI ixN
  rw [if_pos (by omega), if_pos (by simp only [List.length_cons]; omega)]
  rfl
/-- i is within 2 ^ k -/
def Bd (k : Nat) (i : Int) : Prop := i.natAbs < 2 ^ k
theorem Bd.lg {k : Nat} {i : Int} (h : Bd k i) (hk : 0 < k) : Pv.lg i < k := lg_lt h hk
theorem Bd.mono {j k : Nat} {i : Int} (h : Bd j i) (hk : j ≤ k) : Bd k i := Nat.lt_of_lt_of_le h (Nat.pow_le_pow_right (by decide) hk)
theorem Bd.mul {j k : Nat} {a b : Int} (ha : Bd j a) (hb : Bd k b) : Bd (j + k) (a * b) := by
  unfold Bd at *
  rw [Int.natAbs_mul, Nat.pow_add]
  exact Nat.mul_lt_mul'' ha hb
theorem Bd.add {k : Nat} {a b : Int} (ha : Bd k a) (hb : Bd k b) : Bd (k + 1) (a + b) := by
  unfold Bd at *
  have h := Int.natAbs_add_le a b
  rw [Nat.pow_succ]
  omega
theorem Bd.neg {k : Nat} {a : Int} (ha : Bd k a) : Bd k (-a) := by
  unfold Bd at *
  rwa [Int.natAbs_neg]
theorem Bd.sub {k : Nat} {a b : Int} (ha : Bd k a) (hb : Bd k b) : Bd (k + 1) (a - b) := by
  rw [Int.sub_eq_add_neg]
  exact ha.add hb.neg
theorem Bd.le {k : Nat} {a b : Int} (hb : Bd k b) (h : a.natAbs ≤ b.natAbs) : Bd k a := Nat.lt_of_le_of_lt h hb
theorem mul_ok {j k : Nat} {a b : Int} (ha : Bd j a) (hb : Bd k b) (h : j + k ≤ 1000000) (hj : 0 < j) (hk : 0 < k) : Pv.lg a + Pv.lg b < 1000000 := by
  have h1 := ha.lg hj
  have h2 := hb.lg hk
  omega
theorem div_ok {k : Nat} {b : Int} (h0 : 0 < b) (hb : Bd k b) (hk : 0 < k) (h : k ≤ 9000) : 0 < b ∧ Pv.lg b < 9000 := ⟨h0, Nat.lt_of_lt_of_le (hb.lg hk) h⟩
theorem e2_ok {op : Op2} {f g : EF} {E : Ev} {m m1 m2 : Mem} {x y z : PV} (h1 : f E m = .ok x m1) (h2 : g E m1 = .ok y m2) (h3 : op x y m2 = some z) : Pv.e2 op f g E m = .ok z m2 := by
  unfold Pv.e2
  rw [h1, Res.bind_ok, h2, Res.bind_ok, h3]
  rfl
theorem cons_ok {f : EF} {g : AF} {E : Ev} {m m1 m2 : Mem} {x : PV} {xs : List PV} (h1 : f E m = .ok x m1) (h2 : g E m1 = .ok xs m2) : aCons f g E m = .ok (x :: xs) m2 := by
  unfold aCons
  rw [h1, Res.bind_ok, h2]
  rfl
theorem eN1_ok {op : OpN} {f : EF} {E : Ev} {m m1 : Mem} {x z : PV} (h1 : f E m = .ok x m1) (h2 : op [x] m1 = some z) : eN op (aCons f aNil) E m = .ok z m1 := by
  unfold eN aCons aNil
  rw [h1, Res.bind_ok, Res.bind_ok, Res.bind_ok, h2]
  rfl
theorem eN2_ok {op : OpN} {f g : EF} {E : Ev} {m m1 m2 : Mem} {x y z : PV} (h1 : f E m = .ok x m1) (h2 : g E m1 = .ok y m2) (h3 : op [x, y] m2 = some z) : eN op (aCons f (aCons g aNil)) E m = .ok z m2 := by
  unfold eN aCons aNil
  rw [h1, Res.bind_ok, h2]
  simp only [Res.bind_ok]
  rw [h3]
  rfl
theorem eF1_ok {F : FF} {f : EF} {E : Ev} {m m1 : Mem} {x : PV} {r : Res PV} (h1 : f E m = .ok x m1) (h2 : F [x] m1 = r) : eF 1 F (aCons f aNil) E m = r := by
  unfold eF aCons aNil
  rw [h1, Res.bind_ok, Res.bind_ok, Res.bind_ok]
  exact h2
theorem eF2_ok {F : FF} {f g : EF} {E : Ev} {m m1 m2 : Mem} {x y : PV} {r : Res PV} (h1 : f E m = .ok x m1) (h2 : g E m1 = .ok y m2) (h3 : F [x, y] m2 = r) : eF 2 F (aCons f (aCons g aNil)) E m = r := by
  unfold eF aCons aNil
  rw [h1, Res.bind_ok, h2]
  simp only [Res.bind_ok]
  exact h3
theorem set_ok {i : Nat} {f : EF} {E : Ev} {m m1 : Mem} {x : PV} (h : f E m = .ok x m1) : sSet i f E m = .next (E.set i (some x)) m1 := by
  unfold sSet sE
  rw [h]
theorem ret_ok {f : EF} {E : Ev} {m m1 : Mem} {x : PV} (h : f E m = .ok x m1) : sRet f E m = .ret x m1 := by
  unfold sRet sE
  rw [h]
theorem if_ok {p : TF} {g h : SF} {E : Ev} {m m1 : Mem} {b : Bool} (hb : p E m = .ok b m1) : sIf p g h E m = if b = true then g E m1 else h E m1 := by
  unfold sIf sE
  rw [hb]
theorem tB_ok {f : EF} {E : Ev} {m m1 : Mem} {b : Bool} (h : f E m = .ok (.bl b) m1) : Pv.tB f E m = .ok b m1 := by
  unfold Pv.tB
  rw [h]
  rfl
theorem seq_n {g h : SF} {E E1 : Ev} {m m1 : Mem} (h1 : g E m = .next E1 m1) : sSeq g h E m = h E1 m1 := by
  unfold sSeq
  rw [h1]
theorem seq_r {g h : SF} {E : Ev} {m m1 : Mem} {v : PV} (h1 : g E m = .ret v m1) : sSeq g h E m = .ret v m1 := by
  unfold sSeq
  rw [h1]
theorem seq_x {g h : SF} {E E1 : Ev} {m m1 : Mem} {c : Nat} {v : PV} (h1 : g E m = .exc c v E1 m1) : sSeq g h E m = .exc c v E1 m1 := by
  unfold sSeq
  rw [h1]
theorem for_n {fi : AF} {g : GF} {b : SF} {E : Ev} {m m1 : Mem} {xs : List PV} (h1 : fi E m = .ok xs m1) : sFor fi g b E m = forL g b xs E m1 := by
  unfold sFor sE
  rw [h1]
/-- the least terms of t / l, below it more than nothing -/
def nfa (t l : Int) : Int := l.sign * t / (Int.gcd t l : Nat)
def nfb (t l : Int) : Int := l.sign * l / (Int.gcd t l : Nat)
end Pv
set_option maxRecDepth 100000
set_option maxHeartbeats 400000
set_option autoImplicit false
/-! Pn0: least terms; Euclid's loop in so many turns. -/
namespace Pv
open PySem PySem.Spec PyProof.Rows L2
section
variable {t l : Int}
theorem gpos (h : l ≠ 0) : 0 < Int.gcd t l := Int.gcd_pos_iff.mpr (.inr h)
theorem nfa_def (h : l ≠ 0) : nfa t l = l.sign * (t / (Int.gcd t l : Nat)) := Int.mul_ediv_assoc _ (Int.gcd_dvd_left t l)
theorem nfb_def (h : l ≠ 0) : nfb t l = l.sign * (l / (Int.gcd t l : Nat)) := Int.mul_ediv_assoc _ (Int.gcd_dvd_right t l)
theorem sign_cases (h : l ≠ 0) : (l < 0 ∧ l.sign = -1) ∨ (0 < l ∧ l.sign = 1) := by
  rcases Int.lt_or_gt_of_ne h with h | h
  · exact .inl ⟨h, Int.sign_eq_neg_one_of_neg h⟩
  · exact .inr ⟨h, Int.sign_eq_one_of_pos h⟩
theorem g_mul_l : ((Int.gcd t l : Nat) : Int) * (l / (Int.gcd t l : Nat)) = l := Int.mul_ediv_cancel' (Int.gcd_dvd_right t l)
theorem g_mul_t : ((Int.gcd t l : Nat) : Int) * (t / (Int.gcd t l : Nat)) = t := Int.mul_ediv_cancel' (Int.gcd_dvd_left t l)
theorem nfb_pos (h : l ≠ 0) : 0 < nfb t l := by
  have g : (0 : Int) < ((Int.gcd t l : Nat) : Int) := by
    have := gpos (t := t) h
    omega
  rw [nfb_def h]
  have e := g_mul_l (t := t) (l := l)
  rcases sign_cases h with ⟨h1, h2⟩ | ⟨h1, h2⟩
  · rw [h2]
    have : l / ((Int.gcd t l : Nat) : Int) < 0 := by
      rcases Int.lt_or_le (l / ((Int.gcd t l : Nat) : Int)) 0 with z | z
      · exact z
      · have := Int.mul_nonneg (Int.le_of_lt g) z
        omega
    omega
  · rw [h2]
    have : 0 < l / ((Int.gcd t l : Nat) : Int) := by
      rcases Int.lt_or_le 0 (l / ((Int.gcd t l : Nat) : Int)) with z | z
      · exact z
      · have := Int.mul_nonpos_of_nonneg_of_nonpos (Int.le_of_lt g) z
        omega
    omega
theorem nf_cross (h : l ≠ 0) : nfa t l * l = t * nfb t l := by
  rw [nfa_def h, nfb_def h]
  have e1 := g_mul_l (t := t) (l := l)
  have e2 := g_mul_t (t := t) (l := l)
  generalize ht : t / ((Int.gcd t l : Nat) : Int) = t' at *
  generalize hl : l / ((Int.gcd t l : Nat) : Int) = l' at *
  generalize ((Int.gcd t l : Nat) : Int) = g at *
  rw [← e1, ← e2]
  generalize (g * l').sign = s
  rw [Int.mul_assoc s t', Int.mul_left_comm t' g l', Int.mul_assoc g t', Int.mul_left_comm t' s l', Int.mul_left_comm g s]
theorem nf_cop (h : l ≠ 0) : Int.gcd (nfa t l) (nfb t l) = 1 := by
  rw [nfa_def h, nfb_def h]
  have e := Int.gcd_ediv_gcd_ediv_gcd (gpos (t := t) h)
  rcases sign_cases h with ⟨_, h2⟩ | ⟨_, h2⟩
  · rw [h2]
    simpa [Int.gcd_neg, Int.neg_gcd] using e
  · rw [h2]
    simpa using e
theorem nfa_le (h : l ≠ 0) : (nfa t l).natAbs ≤ t.natAbs := by
  rw [nfa_def h, Int.natAbs_mul, Int.natAbs_sign, if_neg h, Nat.one_mul]
  exact Int.natAbs_ediv_le_natAbs _ _
theorem nfb_le (h : l ≠ 0) : (nfb t l).natAbs ≤ l.natAbs := by
  rw [nfb_def h, Int.natAbs_mul, Int.natAbs_sign, if_neg h, Nat.one_mul]
  exact Int.natAbs_ediv_le_natAbs _ _
theorem nfa_self (h : 0 < l) (c : Int.gcd t l = 1) : nfa t l = t := by
  unfold nfa
  rw [c, Int.sign_eq_one_of_pos h]
  simp
theorem nfb_self (h : 0 < l) (c : Int.gcd t l = 1) : nfb t l = l := by
  unfold nfb
  rw [c, Int.sign_eq_one_of_pos h]
  simp
theorem nfa_bd {k : Nat} (h : l ≠ 0) (ht : Bd k t) : Bd k (nfa t l) := ht.le (nfa_le h)
theorem nfb_bd {k : Nat} (h : l ≠ 0) (hl : Bd k l) : Bd k (nfb t l) := hl.le (nfb_le h)
end
/-- two least terms of one number are the same -/
theorem least_one {a b c d : Int} (hb : 0 < b) (hd : 0 < d) (h1 : Int.gcd a b = 1) (h2 : Int.gcd c d = 1) (h : a * d = c * b) : a = c ∧ b = d := by
  have d1 : b ∣ d := by
    have z : b ∣ a * d := ⟨c, by rw [h, Int.mul_comm]⟩
    refine Int.natAbs_dvd_natAbs.mp (Nat.Coprime.dvd_of_dvd_mul_left (m := a.natAbs) ?_ ?_)
    · show Nat.gcd b.natAbs a.natAbs = 1
      rw [Nat.gcd_comm]
      exact h1
    · rw [← Int.natAbs_mul]
      exact Int.natAbs_dvd_natAbs.mpr z
  have d2 : d ∣ b := by
    have z : d ∣ c * b := ⟨a, by rw [← h, Int.mul_comm]⟩
    refine Int.natAbs_dvd_natAbs.mp (Nat.Coprime.dvd_of_dvd_mul_left (m := c.natAbs) ?_ ?_)
    · show Nat.gcd d.natAbs c.natAbs = 1
      rw [Nat.gcd_comm]
      exact h2
    · rw [← Int.natAbs_mul]
      exact Int.natAbs_dvd_natAbs.mpr z
  have e : b = d := Int.dvd_antisymm (Int.le_of_lt hb) (Int.le_of_lt hd) d1 d2
  subst e
  exact ⟨Int.eq_of_mul_eq_mul_right (Int.ne_of_gt hb) h, rfl⟩
/-- Euclid's loop with a break, its slots i and j, the turn's at k -/
theorem half_mod {a b : Nat} (h : 0 < b) (h2 : 0 < a % b) : 2 * (b % (a % b)) < b := by
  have h3 := Nat.mod_lt a h
  have h4 := Nat.mod_lt b h2
  by_cases hr : 2 * (a % b) ≤ b
  · omega
  · have h5 : b % (a % b) = b - a % b := by
      rw [Nat.mod_eq_sub_mod (by omega)]
      exact Nat.mod_eq_of_lt (by omega)
    omega
end Pv
set_option maxRecDepth 100000
set_option maxHeartbeats 400000
set_option autoImplicit false
namespace LK00
open PySem PySem.Spec PyProof.Rows L2 Pv
abbrev cB : SF := sPar [0, 1] (aCons (eV 1) (aCons (e2 pMod (eV 0) (eV 1)) aNil))
abbrev cP : TF := tB (e2 pNe (eV 1) (eC (.int 0)))
theorem cP_at (a b : Int) (m : Mem) : cP [some (.int a), some (.int b)] m = .ok (!(b == 0)) m := rfl
theorem cB_at {a b : Int} {m : Mem} (h : 0 < b) : cB [some (.int a), some (.int b)] m = .next [some (.int b), some (.int (a % b))] m := by
  have e : e2 pMod (eV 0) (eV 1) [some (.int a), some (.int b)] m = .ok (.int (a % b)) m := by
    show Res.of (pMod (.int a) (.int b) m) m = _
    rw [pMod_int h]
    rfl
  have e3 : aCons (eV 1) (aCons (e2 pMod (eV 0) (eV 1)) aNil) [some (.int a), some (.int b)] m = .ok [.int b, .int (a % b)] m := by
    show ((e2 pMod (eV 0) (eV 1) [some (.int a), some (.int b)] m).bind fun x m1 => (aNil [some (.int a), some (.int b)] m1).bind fun xs m2 => Res.ok (x :: xs) m2).bind (fun xs m2 => Res.ok (PV.int b :: xs) m2) = _
    rw [e]
    rfl
  show sE (aCons (eV 1) (aCons (e2 pMod (eV 0) (eV 1)) aNil)) _ [some (.int a), some (.int b)] m = _
  unfold sE
  rw [e3]
  rfl
theorem cLoop : ∀ (b a : Nat) (m : Mem), ∃ n, whileN cP cB n [some (.int a), some (.int b)] m = .next [some (.int (Nat.gcd a b : Nat)), some (.int 0)] m := by
  intro b
  induction b using Nat.strongRecOn with
  | _ b ih =>
    intro a m
    by_cases hb : b = 0
    · subst hb
      refine ⟨1, ?_⟩
      unfold whileN
      rw [cP_at]
      simp
    · obtain ⟨n, h⟩ := ih (a % b) (Nat.mod_lt _ (Nat.pos_of_ne_zero hb)) b m
      refine ⟨n + 1, ?_⟩
      unfold whileN
      have hz : (!(((b : Nat) : Int) == 0)) = true := by simpa using hb
      rw [cP_at, hz]
      have e := cB_at (a := (a : Int)) (b := (b : Int)) (m := m) (by omega)
      dsimp only
      rw [e]
      dsimp only
      have hm : ((a : Int) % (b : Int)) = ((a % b : Nat) : Int) := by omega
      rw [hm, h, Nat.gcd_comm b (a % b), ← Nat.gcd_rec, Nat.gcd_comm]
theorem common_at (a b : Int) (m : Mem) : F_common [.int a, .int b] m = .ok (.int (Int.gcd a b : Nat)) m := by
  have ab : ∀ (i : Int), (if i < 0 then -i else i) = ((i.natAbs : Nat) : Int) := fun i => by split <;> omega
  obtain ⟨n, h⟩ := cLoop b.natAbs a.natAbs m
  have w := sWhile_eq h (by simp)
  have s1 : sPar [0, 1] (aCons (eN pAbs (aCons (eV 0) (aNil))) (aCons (eN pAbs (aCons (eV 1) (aNil))) (aNil))) [some (.int a), some (.int b)] m = .next [some (.int (if a < 0 then -a else a)), some (.int (if b < 0 then -b else b))] m := rfl
  show outR (g_common [some (.int a), some (.int b)] m) = _
  unfold g_common sSeq
  rw [s1]
  dsimp only
  rw [ab a, ab b, w]
  rfl


theorem gcd_pos {t l : Int} (h0 : l ≠ 0) : 0 < (Int.gcd t l : Nat) := Int.gcd_pos_iff.mpr (.inr h0)
theorem gcd_bd {t l : Int} {k : Nat} (h0 : l ≠ 0) (hl : Bd k l) : Bd k ((Int.gcd t l : Nat) : Int) := hl.le (by simpa using Nat.le_of_dvd (Int.natAbs_pos.mpr h0) (Int.gcd_dvd_natAbs_right t l))
theorem made_at {t l : Int} {m : Mem} (h0 : l ≠ 0) (hl : Bd 3000 l) : F_made [.int t, .int l] m = .ok (fr (nfa t l) (nfb t l)) m := by
  have gf := div_ok (by have := gcd_pos (t := t) h0; omega) (gcd_bd (t := t) h0 hl) (by decide) (by decide)
  unfold nfa nfb
  by_cases hn : l < 0
  · have hs : l.sign = -1 := Int.sign_eq_neg_one_of_neg hn
    simp [F_made, g_made, bodyF, slotsOf, sSeq, sIf, sE, Pv.tB, tV, tNotF, tAndF, tOrF, pTru, e3, thenB, Pv.e2, Pv.e1, eN, eF, eV, eC, eAnd, eOr, eNot, eIf, aCons, aNil, eTup, eLst, eLstOf, sPar, sSet, sRet, sPass, sDrop, sAsg, sRaise, gN, gT, gTs, setAll, isOwn, Res.bind, Res.of, outR, eSl, oSome, oNone, pCut, pIx, seqP, pIsi, tyP, pLt, pLe, pGt, pGe, pCmp, pNeg, pAdd, pSub, pNe_int, pEq_int, pNe_fr, pEq_fr, pLen, pAbs, pInt1, okD_int, fits0, fits1, fits2, fits3, fits4, atI_c0, atI_c1, atI_c2, hn, common_at, pFdiv_int gf, hs]
  · have hs : l.sign = 1 := Int.sign_eq_one_of_pos (by omega)
    simp [F_made, g_made, bodyF, slotsOf, sSeq, sIf, sE, Pv.tB, tV, tNotF, tAndF, tOrF, pTru, e3, thenB, Pv.e2, Pv.e1, eN, eF, eV, eC, eAnd, eOr, eNot, eIf, aCons, aNil, eTup, eLst, eLstOf, sPar, sSet, sRet, sPass, sDrop, sAsg, sRaise, gN, gT, gTs, setAll, isOwn, Res.bind, Res.of, outR, eSl, oSome, oNone, pCut, pIx, seqP, pIsi, tyP, pLt, pLe, pGt, pGe, pCmp, pNeg, pAdd, pSub, pNe_int, pEq_int, pNe_fr, pEq_fr, pLen, pAbs, pInt1, okD_int, fits0, fits1, fits2, fits3, fits4, atI_c0, atI_c1, atI_c2, hn, common_at, pFdiv_int gf, hs]
theorem plus_of_at {a b c d : Int} {m : Mem} (ha : Bd 500 a) (hb : Bd 500 b) (hc : Bd 500 c) (hd : Bd 500 d) (h : b * d ≠ 0) : F_plus_of [fr a b, fr c d] m = .ok (fr (nfa (a * d + c * b) (b * d)) (nfb (a * d + c * b) (b * d))) m := by
  simp [F_plus_of, g_plus_of, bodyF, slotsOf, sSeq, sIf, sE, Pv.tB, tV, tNotF, tAndF, tOrF, pTru, e3, thenB, Pv.e2, Pv.e1, eN, eF, eV, eC, eAnd, eOr, eNot, eIf, aCons, aNil, eTup, eLst, eLstOf, sPar, sSet, sRet, sPass, sDrop, sAsg, sRaise, gN, gT, gTs, setAll, isOwn, Res.bind, Res.of, outR, eSl, oSome, oNone, pCut, pIx, seqP, pIsi, tyP, pLt, pLe, pGt, pGe, pCmp, pNeg, pAdd, pSub, pNe_int, pEq_int, pNe_fr, pEq_fr, pLen, pAbs, pInt1, okD_int, fits0, fits1, fits2, fits3, fits4, atI_c0, atI_c1, atI_c2, pMul_int (mul_ok ha hd (by decide) (by decide) (by decide)), pMul_int (mul_ok hc hb (by decide) (by decide) (by decide)), pMul_int (mul_ok hb hd (by decide) (by decide) (by decide)), made_at h ((hb.mul hd).mono (by decide))]
theorem minus_of_at {a b c d : Int} {m : Mem} (ha : Bd 500 a) (hb : Bd 500 b) (hc : Bd 500 c) (hd : Bd 500 d) (h : b * d ≠ 0) : F_minus_of [fr a b, fr c d] m = .ok (fr (nfa (a * d - c * b) (b * d)) (nfb (a * d - c * b) (b * d))) m := by
  simp [F_minus_of, g_minus_of, bodyF, slotsOf, sSeq, sIf, sE, Pv.tB, tV, tNotF, tAndF, tOrF, pTru, e3, thenB, Pv.e2, Pv.e1, eN, eF, eV, eC, eAnd, eOr, eNot, eIf, aCons, aNil, eTup, eLst, eLstOf, sPar, sSet, sRet, sPass, sDrop, sAsg, sRaise, gN, gT, gTs, setAll, isOwn, Res.bind, Res.of, outR, eSl, oSome, oNone, pCut, pIx, seqP, pIsi, tyP, pLt, pLe, pGt, pGe, pCmp, pNeg, pAdd, pSub, pNe_int, pEq_int, pNe_fr, pEq_fr, pLen, pAbs, pInt1, okD_int, fits0, fits1, fits2, fits3, fits4, atI_c0, atI_c1, atI_c2, pMul_int (mul_ok ha hd (by decide) (by decide) (by decide)), pMul_int (mul_ok hc hb (by decide) (by decide) (by decide)), pMul_int (mul_ok hb hd (by decide) (by decide) (by decide)), made_at h ((hb.mul hd).mono (by decide))]
theorem times_of_at {a b c d : Int} {m : Mem} (ha : Bd 500 a) (hb : Bd 500 b) (hc : Bd 500 c) (hd : Bd 500 d) (h : b * d ≠ 0) : F_times_of [fr a b, fr c d] m = .ok (fr (nfa (a * c) (b * d)) (nfb (a * c) (b * d))) m := by
  simp [F_times_of, g_times_of, bodyF, slotsOf, sSeq, sIf, sE, Pv.tB, tV, tNotF, tAndF, tOrF, pTru, e3, thenB, Pv.e2, Pv.e1, eN, eF, eV, eC, eAnd, eOr, eNot, eIf, aCons, aNil, eTup, eLst, eLstOf, sPar, sSet, sRet, sPass, sDrop, sAsg, sRaise, gN, gT, gTs, setAll, isOwn, Res.bind, Res.of, outR, eSl, oSome, oNone, pCut, pIx, seqP, pIsi, tyP, pLt, pLe, pGt, pGe, pCmp, pNeg, pAdd, pSub, pNe_int, pEq_int, pNe_fr, pEq_fr, pLen, pAbs, pInt1, okD_int, fits0, fits1, fits2, fits3, fits4, atI_c0, atI_c1, atI_c2, pMul_int (mul_ok ha hc (by decide) (by decide) (by decide)), pMul_int (mul_ok hb hd (by decide) (by decide) (by decide)), made_at h ((hb.mul hd).mono (by decide))]
theorem over_of_at {a b c d : Int} {m : Mem} (ha : Bd 500 a) (hb : Bd 500 b) (hc : Bd 500 c) (hd : Bd 500 d) (h : b * c ≠ 0) : F_over_of [fr a b, fr c d] m = .ok (fr (nfa (a * d) (b * c)) (nfb (a * d) (b * c))) m := by
  simp [F_over_of, g_over_of, bodyF, slotsOf, sSeq, sIf, sE, Pv.tB, tV, tNotF, tAndF, tOrF, pTru, e3, thenB, Pv.e2, Pv.e1, eN, eF, eV, eC, eAnd, eOr, eNot, eIf, aCons, aNil, eTup, eLst, eLstOf, sPar, sSet, sRet, sPass, sDrop, sAsg, sRaise, gN, gT, gTs, setAll, isOwn, Res.bind, Res.of, outR, eSl, oSome, oNone, pCut, pIx, seqP, pIsi, tyP, pLt, pLe, pGt, pGe, pCmp, pNeg, pAdd, pSub, pNe_int, pEq_int, pNe_fr, pEq_fr, pLen, pAbs, pInt1, okD_int, fits0, fits1, fits2, fits3, fits4, atI_c0, atI_c1, atI_c2, pMul_int (mul_ok ha hd (by decide) (by decide) (by decide)), pMul_int (mul_ok hb hc (by decide) (by decide) (by decide)), made_at h ((hb.mul hc).mono (by decide))]
theorem is_below_at {a b c d : Int} {m : Mem} (ha : Bd 500 a) (hb : Bd 500 b) (hc : Bd 500 c) (hd : Bd 500 d) : F_is_below [fr a b, fr c d] m = .ok (.bl (decide (a * d < c * b))) m := by
  simp [F_is_below, g_is_below, bodyF, slotsOf, sSeq, sIf, sE, Pv.tB, tV, tNotF, tAndF, tOrF, pTru, e3, thenB, Pv.e2, Pv.e1, eN, eF, eV, eC, eAnd, eOr, eNot, eIf, aCons, aNil, eTup, eLst, eLstOf, sPar, sSet, sRet, sPass, sDrop, sAsg, sRaise, gN, gT, gTs, setAll, isOwn, Res.bind, Res.of, outR, eSl, oSome, oNone, pCut, pIx, seqP, pIsi, tyP, pLt, pLe, pGt, pGe, pCmp, pNeg, pAdd, pSub, pNe_int, pEq_int, pNe_fr, pEq_fr, pLen, pAbs, pInt1, okD_int, fits0, fits1, fits2, fits3, fits4, atI_c0, atI_c1, atI_c2, pMul_int (mul_ok ha hd (by decide) (by decide) (by decide)), pMul_int (mul_ok hc hb (by decide) (by decide) (by decide))]
theorem floor_of_at {a b : Int} {m : Mem} (hb : Bd 3000 b) (h : 0 < b) : F_floor_of [fr a b] m = .ok (.int (a / b)) m := by
  simp [F_floor_of, g_floor_of, bodyF, slotsOf, sSeq, sIf, sE, Pv.tB, tV, tNotF, tAndF, tOrF, pTru, e3, thenB, Pv.e2, Pv.e1, eN, eF, eV, eC, eAnd, eOr, eNot, eIf, aCons, aNil, eTup, eLst, eLstOf, sPar, sSet, sRet, sPass, sDrop, sAsg, sRaise, gN, gT, gTs, setAll, isOwn, Res.bind, Res.of, outR, eSl, oSome, oNone, pCut, pIx, seqP, pIsi, tyP, pLt, pLe, pGt, pGe, pCmp, pNeg, pAdd, pSub, pNe_int, pEq_int, pNe_fr, pEq_fr, pLen, pAbs, pInt1, okD_int, fits0, fits1, fits2, fits3, fits4, atI_c0, atI_c1, atI_c2, pFdiv_int (div_ok h hb (by decide) (by decide))]
theorem kit_int_int : kitB "int" "int" = some true := by decide +kernel
theorem kit_bool_int : kitB "bool" "int" = some true := by decide +kernel
theorem kit_int_bool : kitB "int" "bool" = some false := by decide +kernel
theorem kit_bool_bool : kitB "bool" "bool" = some true := by decide +kernel
theorem kit_tup_tup : kitB "tuple" "tuple" = some true := by decide +kernel
theorem kit_none_tup : kitB "NoneType" "tuple" = some false := by decide +kernel
theorem kit_list_tup : kitB "list" "tuple" = some false := by decide +kernel
theorem kit_str_tup : kitB "str" "tuple" = some false := by decide +kernel
theorem kit_tup_str : kitB "tuple" "str" = some false := by decide +kernel
theorem kit_str_str : kitB "str" "str" = some true := by decide +kernel
theorem is_integer_at (v lo hi : Int) (m : Mem) : F_is_integer [.int v, .int lo, .int hi] m = .ok (.bl (decide (lo ≤ v) && decide (v ≤ hi))) m := by
  by_cases h : lo ≤ v
  · simp [F_is_integer, g_is_integer, bodyF, slotsOf, sSeq, sIf, sE, Pv.tB, tV, tNotF, tAndF, tOrF, pTru, e3, thenB, Pv.e2, Pv.e1, eN, eF, eV, eC, eAnd, eOr, eNot, eIf, aCons, aNil, eTup, eLst, eLstOf, sPar, sSet, sRet, sPass, sDrop, sAsg, sRaise, gN, gT, gTs, setAll, isOwn, Res.bind, Res.of, outR, eSl, oSome, oNone, pCut, pIx, seqP, pIsi, tyP, pLt, pLe, pGt, pGe, pCmp, pNeg, pAdd, pSub, pNe_int, pEq_int, pNe_fr, pEq_fr, pLen, pAbs, pInt1, okD_int, fits0, fits1, fits2, fits3, fits4, atI_c0, atI_c1, atI_c2, kit_int_int, kit_int_bool, h]
  · simp [F_is_integer, g_is_integer, bodyF, slotsOf, sSeq, sIf, sE, Pv.tB, tV, tNotF, tAndF, tOrF, pTru, e3, thenB, Pv.e2, Pv.e1, eN, eF, eV, eC, eAnd, eOr, eNot, eIf, aCons, aNil, eTup, eLst, eLstOf, sPar, sSet, sRet, sPass, sDrop, sAsg, sRaise, gN, gT, gTs, setAll, isOwn, Res.bind, Res.of, outR, eSl, oSome, oNone, pCut, pIx, seqP, pIsi, tyP, pLt, pLe, pGt, pGe, pCmp, pNeg, pAdd, pSub, pNe_int, pEq_int, pNe_fr, pEq_fr, pLen, pAbs, pInt1, okD_int, fits0, fits1, fits2, fits3, fits4, atI_c0, atI_c1, atI_c2, kit_int_int, kit_int_bool, h]
theorem is_integer_bl (v : Bool) (lo hi : Int) (m : Mem) : F_is_integer [.bl v, .int lo, .int hi] m = .ok (.bl false) m := by
  simp [F_is_integer, g_is_integer, bodyF, slotsOf, sSeq, sIf, sE, Pv.tB, tV, tNotF, tAndF, tOrF, pTru, e3, thenB, Pv.e2, Pv.e1, eN, eF, eV, eC, eAnd, eOr, eNot, eIf, aCons, aNil, eTup, eLst, eLstOf, sPar, sSet, sRet, sPass, sDrop, sAsg, sRaise, gN, gT, gTs, setAll, isOwn, Res.bind, Res.of, outR, eSl, oSome, oNone, pCut, pIx, seqP, pIsi, tyP, pLt, pLe, pGt, pGe, pCmp, pNeg, pAdd, pSub, pNe_int, pEq_int, pNe_fr, pEq_fr, pLen, pAbs, pInt1, okD_int, fits0, fits1, fits2, fits3, fits4, atI_c0, atI_c1, atI_c2, kit_bool_int, kit_bool_bool]
theorem is_tuple_at (xs : List PV) (lo hi : Int) (m : Mem) : F_is_tuple [.tup xs, .int lo, .int hi] m = .ok (.bl (decide (lo ≤ xs.length) && decide ((xs.length : Int) ≤ hi))) m := by
  by_cases h : lo ≤ (xs.length : Int)
  · simp [F_is_tuple, g_is_tuple, bodyF, slotsOf, sSeq, sIf, sE, Pv.tB, tV, tNotF, tAndF, tOrF, pTru, e3, thenB, Pv.e2, Pv.e1, eN, eF, eV, eC, eAnd, eOr, eNot, eIf, aCons, aNil, eTup, eLst, eLstOf, sPar, sSet, sRet, sPass, sDrop, sAsg, sRaise, gN, gT, gTs, setAll, isOwn, Res.bind, Res.of, outR, eSl, oSome, oNone, pCut, pIx, seqP, pIsi, tyP, pLt, pLe, pGt, pGe, pCmp, pNeg, pAdd, pSub, pNe_int, pEq_int, pNe_fr, pEq_fr, pLen, pAbs, pInt1, okD_int, fits0, fits1, fits2, fits3, fits4, atI_c0, atI_c1, atI_c2, kit_tup_tup, h]
  · simp [F_is_tuple, g_is_tuple, bodyF, slotsOf, sSeq, sIf, sE, Pv.tB, tV, tNotF, tAndF, tOrF, pTru, e3, thenB, Pv.e2, Pv.e1, eN, eF, eV, eC, eAnd, eOr, eNot, eIf, aCons, aNil, eTup, eLst, eLstOf, sPar, sSet, sRet, sPass, sDrop, sAsg, sRaise, gN, gT, gTs, setAll, isOwn, Res.bind, Res.of, outR, eSl, oSome, oNone, pCut, pIx, seqP, pIsi, tyP, pLt, pLe, pGt, pGe, pCmp, pNeg, pAdd, pSub, pNe_int, pEq_int, pNe_fr, pEq_fr, pLen, pAbs, pInt1, okD_int, fits0, fits1, fits2, fits3, fits4, atI_c0, atI_c1, atI_c2, kit_tup_tup, h]
theorem is_tuple_no {x : PV} {T : String} (hx : tyP x = some T) (hT : kitB T "tuple" = some false) (lo hi : Int) (m : Mem) (ho : isOwn x = false) : F_is_tuple [x, .int lo, .int hi] m = .ok (.bl false) m := by
  have e : pIsi "tuple" x m = some (.bl false) := by
    unfold pIsi
    rw [hx]
    show (kitB T "tuple").map PV.bl = _
    rw [hT]
    rfl
  have hp : (pIsi "tuple") x = fun m => some (.bl false) := by
    funext m
    unfold pIsi
    rw [hx]
    show (kitB T "tuple").map PV.bl = _
    rw [hT]
    rfl
  simp [F_is_tuple, g_is_tuple, bodyF, slotsOf, sRet, sE, eAnd, Pv.e1, eV, ho, Res.bind, Res.of, hp, pTru, outR]
/-- what a fraction is -/
def isFr (most a b : Int) : Bool := (decide (-most ≤ a) && decide (a ≤ most)) && ((decide (1 ≤ b) && decide (b ≤ most)) && decide (Int.gcd a b = 1))
theorem is_fraction_to_at (a b most : Int) (m : Mem) : F_is_fraction_to [fr a b, .int most] m = .ok (.bl (isFr most a b)) m := by
  unfold isFr
  cases h1 : (decide (-most ≤ a) && decide (a ≤ most)) with
  | false => simp [F_is_fraction_to, g_is_fraction_to, bodyF, slotsOf, sSeq, sIf, sE, Pv.tB, tV, tNotF, tAndF, tOrF, pTru, e3, thenB, Pv.e2, Pv.e1, eN, eF, eV, eC, eAnd, eOr, eNot, eIf, aCons, aNil, eTup, eLst, eLstOf, sPar, sSet, sRet, sPass, sDrop, sAsg, sRaise, gN, gT, gTs, setAll, isOwn, Res.bind, Res.of, outR, eSl, oSome, oNone, pCut, pIx, seqP, pIsi, tyP, pLt, pLe, pGt, pGe, pCmp, pNeg, pAdd, pSub, pNe_int, pEq_int, pNe_fr, pEq_fr, pLen, pAbs, pInt1, okD_int, fits0, fits1, fits2, fits3, fits4, atI_c0, atI_c1, atI_c2, is_tuple_at, is_integer_at, common_at, h1]
  | true =>
    cases h2 : (decide (1 ≤ b) && decide (b ≤ most)) with
    | false => simp [F_is_fraction_to, g_is_fraction_to, bodyF, slotsOf, sSeq, sIf, sE, Pv.tB, tV, tNotF, tAndF, tOrF, pTru, e3, thenB, Pv.e2, Pv.e1, eN, eF, eV, eC, eAnd, eOr, eNot, eIf, aCons, aNil, eTup, eLst, eLstOf, sPar, sSet, sRet, sPass, sDrop, sAsg, sRaise, gN, gT, gTs, setAll, isOwn, Res.bind, Res.of, outR, eSl, oSome, oNone, pCut, pIx, seqP, pIsi, tyP, pLt, pLe, pGt, pGe, pCmp, pNeg, pAdd, pSub, pNe_int, pEq_int, pNe_fr, pEq_fr, pLen, pAbs, pInt1, okD_int, fits0, fits1, fits2, fits3, fits4, atI_c0, atI_c1, atI_c2, is_tuple_at, is_integer_at, common_at, h1, h2]
    | true =>
      simp [F_is_fraction_to, g_is_fraction_to, bodyF, slotsOf, sSeq, sIf, sE, Pv.tB, tV, tNotF, tAndF, tOrF, pTru, e3, thenB, Pv.e2, Pv.e1, eN, eF, eV, eC, eAnd, eOr, eNot, eIf, aCons, aNil, eTup, eLst, eLstOf, sPar, sSet, sRet, sPass, sDrop, sAsg, sRaise, gN, gT, gTs, setAll, isOwn, Res.bind, Res.of, outR, eSl, oSome, oNone, pCut, pIx, seqP, pIsi, tyP, pLt, pLe, pGt, pGe, pCmp, pNeg, pAdd, pSub, pNe_int, pEq_int, pNe_fr, pEq_fr, pLen, pAbs, pInt1, okD_int, fits0, fits1, fits2, fits3, fits4, atI_c0, atI_c1, atI_c2, is_tuple_at, is_integer_at, common_at, h1, h2]
      by_cases hg : Int.gcd a b = 1
      · simp [hg]
      · simp [hg]
        omega
theorem check_ok {a b : Int} {m : Mem} (h : isFr 10000000000000000000000000000000000000000 a b = true) : F_check_fraction [fr a b] m = .ok .non m := by
  simp [F_check_fraction, g_check_fraction, bodyF, slotsOf, sSeq, sIf, sE, Pv.tB, tV, tNotF, tAndF, tOrF, pTru, e3, thenB, Pv.e2, Pv.e1, eN, eF, eV, eC, eAnd, eOr, eNot, eIf, aCons, aNil, eTup, eLst, eLstOf, sPar, sSet, sRet, sPass, sDrop, sAsg, sRaise, gN, gT, gTs, setAll, isOwn, Res.bind, Res.of, outR, eSl, oSome, oNone, pCut, pIx, seqP, pIsi, tyP, pLt, pLe, pGt, pGe, pCmp, pNeg, pAdd, pSub, pNe_int, pEq_int, pNe_fr, pEq_fr, pLen, pAbs, pInt1, okD_int, fits0, fits1, fits2, fits3, fits4, atI_c0, atI_c1, atI_c2, is_fraction_to_at, h]
theorem check_bad {x : PV} {m : Mem} (ho : isOwn x = false) (h : F_is_fraction_to [x, .int 10000000000000000000000000000000000000000] m = .ok (.bl false) m) : F_check_fraction [x] m = .exc 1 x m := by
  simp [F_check_fraction, g_check_fraction, bodyF, slotsOf, sSeq, sIf, sE, Pv.tB, tV, tNotF, tAndF, tOrF, pTru, e3, thenB, Pv.e2, Pv.e1, eN, eF, eV, eC, eAnd, eOr, eNot, eIf, aCons, aNil, eTup, eLst, eLstOf, sPar, sSet, sRet, sPass, sDrop, sAsg, sRaise, gN, gT, gTs, setAll, Res.bind, Res.of, outR, eSl, oSome, oNone, pCut, pIx, seqP, pIsi, tyP, pLt, pLe, pGt, pGe, pCmp, pNeg, pAdd, pSub, pNe_int, pEq_int, pNe_fr, pEq_fr, pLen, pAbs, pInt1, okD_int, fits0, fits1, fits2, fits3, fits4, atI_c0, atI_c1, atI_c2, h, ho]
theorem is_fraction_of {x : PV} {m : Mem} {t : Bool} (ho : isOwn x = false) (h : F_is_fraction_to [x, .int 10000000000000000000000000000000000000000] m = .ok (.bl t) m) : F_is_fraction [x] m = .ok (.bl t) m := by
  simp [F_is_fraction, g_is_fraction, bodyF, slotsOf, sSeq, sIf, sE, Pv.tB, tV, tNotF, tAndF, tOrF, pTru, e3, thenB, Pv.e2, Pv.e1, eN, eF, eV, eC, eAnd, eOr, eNot, eIf, aCons, aNil, eTup, eLst, eLstOf, sPar, sSet, sRet, sPass, sDrop, sAsg, sRaise, gN, gT, gTs, setAll, Res.bind, Res.of, outR, eSl, oSome, oNone, pCut, pIx, seqP, pIsi, tyP, pLt, pLe, pGt, pGe, pCmp, pNeg, pAdd, pSub, pNe_int, pEq_int, pNe_fr, pEq_fr, pLen, pAbs, pInt1, okD_int, fits0, fits1, fits2, fits3, fits4, atI_c0, atI_c1, atI_c2, h, ho]
theorem ratio_at {t l : Int} {m : Mem} (ht : (decide (-(10 ^ 40) ≤ t) && decide (t ≤ 10 ^ 40)) = true) (hl : (decide (-(10 ^ 40) ≤ l) && decide (l ≤ 10 ^ 40)) = true) (h0 : l ≠ 0) (hb : Bd 3000 l) : F_ratio [.int t, .int l] m = .ok (fr (nfa t l) (nfb t l)) m := by
  simp at ht hl
  simp [F_ratio, g_ratio, bodyF, slotsOf, sSeq, sIf, sE, Pv.tB, tV, tNotF, tAndF, tOrF, pTru, e3, thenB, Pv.e2, Pv.e1, eN, eF, eV, eC, eAnd, eOr, eNot, eIf, aCons, aNil, eTup, eLst, eLstOf, sPar, sSet, sRet, sPass, sDrop, sAsg, sRaise, gN, gT, gTs, setAll, isOwn, Res.bind, Res.of, outR, eSl, oSome, oNone, pCut, pIx, seqP, pIsi, tyP, pLt, pLe, pGt, pGe, pCmp, pNeg, pAdd, pSub, pNe_int, pEq_int, pNe_fr, pEq_fr, pLen, pAbs, pInt1, okD_int, fits0, fits1, fits2, fits3, fits4, atI_c0, atI_c1, atI_c2, is_integer_at, ht, hl, h0, made_at h0 hb]
theorem ratio_zero {t : Int} {m : Mem} (ht : (decide (-(10 ^ 40) ≤ t) && decide (t ≤ 10 ^ 40)) = true) : F_ratio [.int t, .int 0] m = .exc 2 (.int 0) m := by
  simp at ht
  simp [F_ratio, g_ratio, bodyF, slotsOf, sSeq, sIf, sE, Pv.tB, tV, tNotF, tAndF, tOrF, pTru, e3, thenB, Pv.e2, Pv.e1, eN, eF, eV, eC, eAnd, eOr, eNot, eIf, aCons, aNil, eTup, eLst, eLstOf, sPar, sSet, sRet, sPass, sDrop, sAsg, sRaise, gN, gT, gTs, setAll, isOwn, Res.bind, Res.of, outR, eSl, oSome, oNone, pCut, pIx, seqP, pIsi, tyP, pLt, pLe, pGt, pGe, pCmp, pNeg, pAdd, pSub, pNe_int, pEq_int, pNe_fr, pEq_fr, pLen, pAbs, pInt1, okD_int, fits0, fits1, fits2, fits3, fits4, atI_c0, atI_c1, atI_c2, is_integer_at, ht]
/-- a fraction within the bounds -/
structure Fc (a b : Int) : Prop where
  is : isFr 10000000000000000000000000000000000000000 a b = true
  ba : Bd 200 a
  bb : Bd 200 b
  pos : 0 < b
theorem plus_at {a b c d : Int} {m : Mem} (p : Fc a b) (q : Fc c d) : F_plus [fr a b, fr c d] m = .ok (fr (nfa (a * d + c * b) (b * d)) (nfb (a * d + c * b) (b * d))) m := by
  have h := Int.mul_pos p.pos q.pos
  simp [F_plus, g_plus, bodyF, slotsOf, sSeq, sIf, sE, Pv.tB, tV, tNotF, tAndF, tOrF, pTru, e3, thenB, Pv.e2, Pv.e1, eN, eF, eV, eC, eAnd, eOr, eNot, eIf, aCons, aNil, eTup, eLst, eLstOf, sPar, sSet, sRet, sPass, sDrop, sAsg, sRaise, gN, gT, gTs, setAll, isOwn, Res.bind, Res.of, outR, eSl, oSome, oNone, pCut, pIx, seqP, pIsi, tyP, pLt, pLe, pGt, pGe, pCmp, pNeg, pAdd, pSub, pNe_int, pEq_int, pNe_fr, pEq_fr, pLen, pAbs, pInt1, okD_int, fits0, fits1, fits2, fits3, fits4, atI_c0, atI_c1, atI_c2, check_ok p.is, check_ok q.is, plus_of_at (p.ba.mono (by decide)) (p.bb.mono (by decide)) (q.ba.mono (by decide)) (q.bb.mono (by decide)) (Int.ne_of_gt h)]
theorem minus_at {a b c d : Int} {m : Mem} (p : Fc a b) (q : Fc c d) : F_minus [fr a b, fr c d] m = .ok (fr (nfa (a * d - c * b) (b * d)) (nfb (a * d - c * b) (b * d))) m := by
  have h := Int.mul_pos p.pos q.pos
  simp [F_minus, g_minus, bodyF, slotsOf, sSeq, sIf, sE, Pv.tB, tV, tNotF, tAndF, tOrF, pTru, e3, thenB, Pv.e2, Pv.e1, eN, eF, eV, eC, eAnd, eOr, eNot, eIf, aCons, aNil, eTup, eLst, eLstOf, sPar, sSet, sRet, sPass, sDrop, sAsg, sRaise, gN, gT, gTs, setAll, isOwn, Res.bind, Res.of, outR, eSl, oSome, oNone, pCut, pIx, seqP, pIsi, tyP, pLt, pLe, pGt, pGe, pCmp, pNeg, pAdd, pSub, pNe_int, pEq_int, pNe_fr, pEq_fr, pLen, pAbs, pInt1, okD_int, fits0, fits1, fits2, fits3, fits4, atI_c0, atI_c1, atI_c2, check_ok p.is, check_ok q.is, minus_of_at (p.ba.mono (by decide)) (p.bb.mono (by decide)) (q.ba.mono (by decide)) (q.bb.mono (by decide)) (Int.ne_of_gt h)]
theorem times_at {a b c d : Int} {m : Mem} (p : Fc a b) (q : Fc c d) : F_times [fr a b, fr c d] m = .ok (fr (nfa (a * c) (b * d)) (nfb (a * c) (b * d))) m := by
  have h := Int.mul_pos p.pos q.pos
  simp [F_times, g_times, bodyF, slotsOf, sSeq, sIf, sE, Pv.tB, tV, tNotF, tAndF, tOrF, pTru, e3, thenB, Pv.e2, Pv.e1, eN, eF, eV, eC, eAnd, eOr, eNot, eIf, aCons, aNil, eTup, eLst, eLstOf, sPar, sSet, sRet, sPass, sDrop, sAsg, sRaise, gN, gT, gTs, setAll, isOwn, Res.bind, Res.of, outR, eSl, oSome, oNone, pCut, pIx, seqP, pIsi, tyP, pLt, pLe, pGt, pGe, pCmp, pNeg, pAdd, pSub, pNe_int, pEq_int, pNe_fr, pEq_fr, pLen, pAbs, pInt1, okD_int, fits0, fits1, fits2, fits3, fits4, atI_c0, atI_c1, atI_c2, check_ok p.is, check_ok q.is, times_of_at (p.ba.mono (by decide)) (p.bb.mono (by decide)) (q.ba.mono (by decide)) (q.bb.mono (by decide)) (Int.ne_of_gt h)]
theorem over_at {a b c d : Int} {m : Mem} (p : Fc a b) (q : Fc c d) (h0 : c ≠ 0) : F_over [fr a b, fr c d] m = .ok (fr (nfa (a * d) (b * c)) (nfb (a * d) (b * c))) m := by
  have h := Int.mul_ne_zero (Int.ne_of_gt p.pos) h0
  simp [F_over, g_over, bodyF, slotsOf, sSeq, sIf, sE, Pv.tB, tV, tNotF, tAndF, tOrF, pTru, e3, thenB, Pv.e2, Pv.e1, eN, eF, eV, eC, eAnd, eOr, eNot, eIf, aCons, aNil, eTup, eLst, eLstOf, sPar, sSet, sRet, sPass, sDrop, sAsg, sRaise, gN, gT, gTs, setAll, isOwn, Res.bind, Res.of, outR, eSl, oSome, oNone, pCut, pIx, seqP, pIsi, tyP, pLt, pLe, pGt, pGe, pCmp, pNeg, pAdd, pSub, pNe_int, pEq_int, pNe_fr, pEq_fr, pLen, pAbs, pInt1, okD_int, fits0, fits1, fits2, fits3, fits4, atI_c0, atI_c1, atI_c2, check_ok p.is, check_ok q.is, h0, over_of_at (p.ba.mono (by decide)) (p.bb.mono (by decide)) (q.ba.mono (by decide)) (q.bb.mono (by decide)) h]
theorem over_zero {a b d : Int} {m : Mem} (p : Fc a b) (q : Fc 0 d) : F_over [fr a b, fr 0 d] m = .exc 1 (fr 0 d) m := by
  simp [F_over, g_over, bodyF, slotsOf, sSeq, sIf, sE, Pv.tB, tV, tNotF, tAndF, tOrF, pTru, e3, thenB, Pv.e2, Pv.e1, eN, eF, eV, eC, eAnd, eOr, eNot, eIf, aCons, aNil, eTup, eLst, eLstOf, sPar, sSet, sRet, sPass, sDrop, sAsg, sRaise, gN, gT, gTs, setAll, isOwn, Res.bind, Res.of, outR, eSl, oSome, oNone, pCut, pIx, seqP, pIsi, tyP, pLt, pLe, pGt, pGe, pCmp, pNeg, pAdd, pSub, pNe_int, pEq_int, pNe_fr, pEq_fr, pLen, pAbs, pInt1, okD_int, fits0, fits1, fits2, fits3, fits4, atI_c0, atI_c1, atI_c2, check_ok p.is, check_ok q.is]
theorem plus_bad {a b : Int} {x : PV} {m : Mem} (p : Fc a b) (ho : isOwn x = false) (h : F_is_fraction_to [x, .int 10000000000000000000000000000000000000000] m = .ok (.bl false) m) : F_plus [fr a b, x] m = .exc 1 x m := by
  simp [F_plus, g_plus, bodyF, slotsOf, sSeq, sIf, sE, Pv.tB, tV, tNotF, tAndF, tOrF, pTru, e3, thenB, Pv.e2, Pv.e1, eN, eF, eV, eC, eAnd, eOr, eNot, eIf, aCons, aNil, eTup, eLst, eLstOf, sPar, sSet, sRet, sPass, sDrop, sAsg, sRaise, gN, gT, gTs, setAll, Res.bind, Res.of, outR, eSl, oSome, oNone, pCut, pIx, seqP, pIsi, tyP, pLt, pLe, pGt, pGe, pCmp, pNeg, pAdd, pSub, pNe_int, pEq_int, pNe_fr, pEq_fr, pLen, pAbs, pInt1, okD_int, fits0, fits1, fits2, fits3, fits4, atI_c0, atI_c1, atI_c2, check_ok p.is, check_bad ho h, ho, show isOwn (fr a b) = false from rfl]
theorem compare_at {a b c d : Int} {m : Mem} (p : Fc a b) (q : Fc c d) : F_compare [fr a b, fr c d] m = .ok (.int ((if decide (c * b < a * d) = true then 1 else 0) - (if decide (a * d < c * b) = true then 1 else 0))) m := by
  simp [F_compare, g_compare, bodyF, slotsOf, sSeq, sIf, sE, Pv.tB, tV, tNotF, tAndF, tOrF, pTru, e3, thenB, Pv.e2, Pv.e1, eN, eF, eV, eC, eAnd, eOr, eNot, eIf, aCons, aNil, eTup, eLst, eLstOf, sPar, sSet, sRet, sPass, sDrop, sAsg, sRaise, gN, gT, gTs, setAll, isOwn, Res.bind, Res.of, outR, eSl, oSome, oNone, pCut, pIx, seqP, pIsi, tyP, pLt, pLe, pGt, pGe, pCmp, pNeg, pAdd, pSub, pNe_int, pEq_int, pNe_fr, pEq_fr, pLen, pAbs, pInt1, okD_int, fits0, fits1, fits2, fits3, fits4, atI_c0, atI_c1, atI_c2, check_ok p.is, check_ok q.is, is_below_at (p.ba.mono (by decide)) (p.bb.mono (by decide)) (q.ba.mono (by decide)) (q.bb.mono (by decide)), is_below_at (q.ba.mono (by decide)) (q.bb.mono (by decide)) (p.ba.mono (by decide)) (p.bb.mono (by decide))]
theorem how_often_neg {a b c d : Int} {m : Mem} (p : Fc a b) (q : Fc c d) (h0 : c < 1) : F_how_often [fr a b, fr c d] m = .exc 1 (fr c d) m := by
  simp [F_how_often, g_how_often, bodyF, slotsOf, sSeq, sIf, sE, Pv.tB, tV, tNotF, tAndF, tOrF, pTru, e3, thenB, Pv.e2, Pv.e1, eN, eF, eV, eC, eAnd, eOr, eNot, eIf, aCons, aNil, eTup, eLst, eLstOf, sPar, sSet, sRet, sPass, sDrop, sAsg, sRaise, gN, gT, gTs, setAll, isOwn, Res.bind, Res.of, outR, eSl, oSome, oNone, pCut, pIx, seqP, pIsi, tyP, pLt, pLe, pGt, pGe, pCmp, pNeg, pAdd, pSub, pNe_int, pEq_int, pNe_fr, pEq_fr, pLen, pAbs, pInt1, okD_int, fits0, fits1, fits2, fits3, fits4, atI_c0, atI_c1, atI_c2, check_ok p.is, check_ok q.is, h0]
theorem how_often_at {a b c d : Int} {m : Mem} (p : Fc a b) (q : Fc c d) (h0 : 1 ≤ c) (n : Int) (hn : n = nfa (a * d) (b * c) / nfb (a * d) (b * c)) (hp : 0 < nfb (a * d) (b * c)) (hb : Bd 400 (nfb (a * d) (b * c))) (hnb : Bd 400 n) {u v : Int} (hu : u = nfa (n * c) (1 * d)) (hv : v = nfb (n * c) (1 * d)) (hub : Bd 500 u) (hvb : Bd 500 v) (hv0 : v ≠ 0) :
    F_how_often [fr a b, fr c d] m = .ok (.tup [.int n, fr (nfa (a * v - u * b) (b * v)) (nfb (a * v - u * b) (b * v))]) m := by
  have h := Int.mul_ne_zero (Int.ne_of_gt p.pos) (show c ≠ 0 by omega)
  have hd := Int.ne_of_gt q.pos
  have t := times_of_at (a := n) (b := 1) (c := c) (d := d) (m := m) (hnb.mono (by decide)) (by unfold Bd; decide) (q.ba.mono (by decide)) (q.bb.mono (by decide)) (by simpa using hd)
  rw [← hu, ← hv] at t
  simp [F_how_often, g_how_often, bodyF, slotsOf, sSeq, sIf, sE, Pv.tB, tV, tNotF, tAndF, tOrF, pTru, e3, thenB, Pv.e2, Pv.e1, eN, eF, eV, eC, eAnd, eOr, eNot, eIf, aCons, aNil, eTup, eLst, eLstOf, sPar, sSet, sRet, sPass, sDrop, sAsg, sRaise, gN, gT, gTs, setAll, isOwn, Res.bind, Res.of, outR, eSl, oSome, oNone, pCut, pIx, seqP, pIsi, tyP, pLt, pLe, pGt, pGe, pCmp, pNeg, pAdd, pSub, pNe_int, pEq_int, pNe_fr, pEq_fr, pLen, pAbs, pInt1, okD_int, fits0, fits1, fits2, fits3, fits4, atI_c0, atI_c1, atI_c2, check_ok p.is, check_ok q.is, show ¬ c < 1 by omega, over_of_at (p.ba.mono (by decide)) (p.bb.mono (by decide)) (q.ba.mono (by decide)) (q.bb.mono (by decide)) h, floor_of_at (hb.mono (by decide)) hp, ← hn, t, minus_of_at (p.ba.mono (by decide)) (p.bb.mono (by decide)) hub hvb (Int.mul_ne_zero (Int.ne_of_gt p.pos) hv0)]
end LK00
set_option maxRecDepth 100000
set_option maxHeartbeats 400000
set_option autoImplicit false
namespace LK00
open PySem PySem.Spec PyProof.Rows L2 Pv
abbrev mB : SF := sSeq (sIf (Pv.tB (Pv.e2 pEq (eV 3) (eC (.int 0)))) (sBrk) (sPass)) (sPar [2, 3] (aCons (eV 3) (aCons (Pv.e2 pMod (eV 2) (eV 3)) (aNil))))
abbrev gB : SF := sSeq (sIf (Pv.tB (Pv.e2 pEq (eV 1) (eC (.int 0)))) (sBrk) (sPass)) (sPar [0, 1] (aCons (eV 1) (aCons (Pv.e2 pMod (eV 0) (eV 1)) (aNil))))
section
variable {t l sg lp : Option PV} {x : PV} {r : List PV} {m : Mem}
theorem m_brk (a : Int) : forL (gN 4) mB (x :: r) [t, l, some (.int a), some (.int 0), lp, sg] m = .next [t, l, some (.int a), some (.int 0), some x, sg] m := by
  simp [forL, sBrk, bodyF, slotsOf, sSeq, sIf, sE, Pv.tB, tV, tNotF, tAndF, tOrF, pTru, e3, thenB, Pv.e2, Pv.e1, eN, eF, eV, eC, eAnd, eOr, eNot, eIf, aCons, aNil, eTup, eLst, eLstOf, sPar, sSet, sRet, sPass, sDrop, sAsg, sRaise, gN, gT, gTs, setAll, isOwn, Res.bind, Res.of, outR, eSl, oSome, oNone, pCut, pIx, seqP, pIsi, tyP, pLt, pLe, pGt, pGe, pCmp, pNeg, pAdd, pSub, pNe_int, pEq_int, pNe_fr, pEq_fr, pLen, pAbs, pInt1, okD_int, fits0, fits1, fits2, fits3, fits4, atI_c0, atI_c1, atI_c2]
theorem m_step {a b : Int} (h : 0 < b) : forL (gN 4) mB (x :: r) [t, l, some (.int a), some (.int b), lp, sg] m = forL (gN 4) mB r [t, l, some (.int b), some (.int (a % b)), some x, sg] m := by
  have hz : (b == 0) = false := by
    rw [beq_eq_false_iff_ne]
    omega
  conv => lhs; unfold forL
  simp [sBrk, bodyF, slotsOf, sSeq, sIf, sE, Pv.tB, tV, tNotF, tAndF, tOrF, pTru, e3, thenB, Pv.e2, Pv.e1, eN, eF, eV, eC, eAnd, eOr, eNot, eIf, aCons, aNil, eTup, eLst, eLstOf, sPar, sSet, sRet, sPass, sDrop, sAsg, sRaise, gN, gT, gTs, setAll, isOwn, Res.bind, Res.of, outR, eSl, oSome, oNone, pCut, pIx, seqP, pIsi, tyP, pLt, pLe, pGt, pGe, pCmp, pNeg, pAdd, pSub, pNe_int, pEq_int, pNe_fr, pEq_fr, pLen, pAbs, pInt1, okD_int, fits0, fits1, fits2, fits3, fits4, atI_c0, atI_c1, atI_c2, hz, pMod_int h]
theorem m_loop : ∀ (k b a : Nat) (xs : List PV) (lp : Option PV), b < 2 ^ k → 2 * k + 1 ≤ xs.length → ∃ lp', forL (gN 4) mB xs [t, l, some (.int a), some (.int b), lp, sg] m = .next [t, l, some (.int (Nat.gcd a b : Nat)), some (.int 0), lp', sg] m := by
  intro k
  induction k with
  | zero =>
    intro b a xs lp hb hx
    cases xs with
    | nil => simp at hx
    | cons x xs =>
      obtain rfl : b = 0 := by omega
      exact ⟨some x, by rw [Nat.gcd_zero_right]; exact m_brk _⟩
  | succ k ih =>
    intro b a xs lp hb hx
    match xs, hx with
    | x :: y :: xs, hx =>
      by_cases h0 : b = 0
      · subst h0
        exact ⟨some x, by rw [Nat.gcd_zero_right]; exact m_brk _⟩
      · have e1 : ((a : Int) % (b : Int)) = ((a % b : Nat) : Int) := by omega
        by_cases h1 : a % b = 0
        · refine ⟨some y, ?_⟩
          rw [m_step (by omega), e1, h1]
          have e2 : Nat.gcd a b = b := by rw [Nat.gcd_comm, Nat.gcd_rec, h1, Nat.gcd_zero_left]
          rw [e2]
          exact m_brk _
        · have e2 : ((b : Int) % ((a % b : Nat) : Int)) = ((b % (a % b) : Nat) : Int) := by omega
          have h2 := half_mod (a := a) (Nat.pos_of_ne_zero h0) (Nat.pos_of_ne_zero h1)
          obtain ⟨lp', e3⟩ := ih (b % (a % b)) (a % b) xs (some y) (by rw [Nat.pow_succ] at hb; omega) (by simp at hx; omega)
          refine ⟨lp', ?_⟩
          rw [m_step (by omega), e1, m_step (by omega), e2, e3]
          have e4 : Nat.gcd (a % b) (b % (a % b)) = Nat.gcd a b := by
            rw [Nat.gcd_comm a b, Nat.gcd_rec b a, Nat.gcd_comm (a % b) b, Nat.gcd_comm (a % b), ← Nat.gcd_rec, Nat.gcd_comm]
          rw [e4]
    | [x], hx => simp at hx
theorem g_brk (a : Int) : forL (gN 2) gB (x :: r) [some (.int a), some (.int 0), lp] m = .next [some (.int a), some (.int 0), some x] m := by
  simp [forL, sBrk, bodyF, slotsOf, sSeq, sIf, sE, Pv.tB, tV, tNotF, tAndF, tOrF, pTru, e3, thenB, Pv.e2, Pv.e1, eN, eF, eV, eC, eAnd, eOr, eNot, eIf, aCons, aNil, eTup, eLst, eLstOf, sPar, sSet, sRet, sPass, sDrop, sAsg, sRaise, gN, gT, gTs, setAll, isOwn, Res.bind, Res.of, outR, eSl, oSome, oNone, pCut, pIx, seqP, pIsi, tyP, pLt, pLe, pGt, pGe, pCmp, pNeg, pAdd, pSub, pNe_int, pEq_int, pNe_fr, pEq_fr, pLen, pAbs, pInt1, okD_int, fits0, fits1, fits2, fits3, fits4, atI_c0, atI_c1, atI_c2]
theorem g_step {a b : Int} (h : 0 < b) : forL (gN 2) gB (x :: r) [some (.int a), some (.int b), lp] m = forL (gN 2) gB r [some (.int b), some (.int (a % b)), some x] m := by
  have hz : (b == 0) = false := by
    rw [beq_eq_false_iff_ne]
    omega
  conv => lhs; unfold forL
  simp [sBrk, bodyF, slotsOf, sSeq, sIf, sE, Pv.tB, tV, tNotF, tAndF, tOrF, pTru, e3, thenB, Pv.e2, Pv.e1, eN, eF, eV, eC, eAnd, eOr, eNot, eIf, aCons, aNil, eTup, eLst, eLstOf, sPar, sSet, sRet, sPass, sDrop, sAsg, sRaise, gN, gT, gTs, setAll, isOwn, Res.bind, Res.of, outR, eSl, oSome, oNone, pCut, pIx, seqP, pIsi, tyP, pLt, pLe, pGt, pGe, pCmp, pNeg, pAdd, pSub, pNe_int, pEq_int, pNe_fr, pEq_fr, pLen, pAbs, pInt1, okD_int, fits0, fits1, fits2, fits3, fits4, atI_c0, atI_c1, atI_c2, hz, pMod_int h]
theorem g_loop : ∀ (k b a : Nat) (xs : List PV) (lp : Option PV), b < 2 ^ k → 2 * k + 1 ≤ xs.length → ∃ lp', forL (gN 2) gB xs [some (.int a), some (.int b), lp] m = .next [some (.int (Nat.gcd a b : Nat)), some (.int 0), lp'] m := by
  intro k
  induction k with
  | zero =>
    intro b a xs lp hb hx
    cases xs with
    | nil => simp at hx
    | cons x xs =>
      obtain rfl : b = 0 := by omega
      exact ⟨some x, by rw [Nat.gcd_zero_right]; exact g_brk _⟩
  | succ k ih =>
    intro b a xs lp hb hx
    match xs, hx with
    | x :: y :: xs, hx =>
      by_cases h0 : b = 0
      · subst h0
        exact ⟨some x, by rw [Nat.gcd_zero_right]; exact g_brk _⟩
      · have e1 : ((a : Int) % (b : Int)) = ((a % b : Nat) : Int) := by omega
        by_cases h1 : a % b = 0
        · refine ⟨some y, ?_⟩
          rw [g_step (by omega), e1, h1]
          have e2 : Nat.gcd a b = b := by rw [Nat.gcd_comm, Nat.gcd_rec, h1, Nat.gcd_zero_left]
          rw [e2]
          exact g_brk _
        · have e2 : ((b : Int) % ((a % b : Nat) : Int)) = ((b % (a % b) : Nat) : Int) := by omega
          have h2 := half_mod (a := a) (Nat.pos_of_ne_zero h0) (Nat.pos_of_ne_zero h1)
          obtain ⟨lp', e3⟩ := ih (b % (a % b)) (a % b) xs (some y) (by rw [Nat.pow_succ] at hb; omega) (by simp at hx; omega)
          refine ⟨lp', ?_⟩
          rw [g_step (by omega), e1, g_step (by omega), e2, e3]
          have e4 : Nat.gcd (a % b) (b % (a % b)) = Nat.gcd a b := by
            rw [Nat.gcd_comm a b, Nat.gcd_rec b a, Nat.gcd_comm (a % b) b, Nat.gcd_comm (a % b), ← Nat.gcd_rec, Nat.gcd_comm]
          rw [e4]
    | [x], hx => simp at hx
end
theorem range_at (E : Ev) (m : Mem) : iR pRange1 (aCons (eC (.int 999)) (aNil)) E m = .ok (rangeV 0 999) m := rfl
theorem range_len : (rangeV 0 999).length = 999 := by simp [rangeV]
theorem abs_at (i : Int) : (if i < 0 then -i else i) = ((i.natAbs : Nat) : Int) := by split <;> omega
theorem lmade_at {t l : Int} {m : Mem} (h0 : l ≠ 0) (ht : Bd 490 t) (hl : Bd 490 l) : F_law_made [.int t, .int l] m = .ok (fr (nfa t l) (nfb t l)) m := by
  obtain ⟨lp', e⟩ := m_loop (t := some (.int t)) (l := some (.int l)) (sg := none) (m := m) 490 l.natAbs t.natAbs (rangeV 0 999) none hl (by rw [range_len]; decide)
  have gf := div_ok (b := ((Nat.gcd t.natAbs l.natAbs : Nat) : Int)) (by have := gpos (t := t) h0; unfold Int.gcd at this; omega) (gcd_bd (t := t) h0 hl) (by decide) (by decide)
  have hs : (if decide (0 < l) = true then (1 : Int) else -1) = l.sign := by
    rcases sign_cases h0 with ⟨h1, h2⟩ | ⟨h1, h2⟩
    · rw [h2, if_neg (by simpa using Int.le_of_lt h1)]
    · rw [h2, if_pos (by simpa using h1)]
  have sb : Bd 2 l.sign := by
    rcases sign_cases h0 with ⟨h1, h2⟩ | ⟨h1, h2⟩ <;> rw [h2] <;> unfold Bd <;> decide
  unfold nfa nfb Int.gcd
  have x1 := pMul_int (m := m) (mul_ok sb ht (by decide) (by decide) (by decide))
  have x2 := pMul_int (m := m) (mul_ok sb hl (by decide) (by decide) (by decide))
  have s1 : (sPar [2, 3] (aCons (eN pAbs (aCons (eV 0) (aNil))) (aCons (eN pAbs (aCons (eV 1) (aNil))) (aNil)))) [some (.int t), some (.int l), none, none, none, none] m = .next [some (.int t), some (.int l), some (.int (t.natAbs : Nat)), some (.int (l.natAbs : Nat)), none, none] m := by
    simp [bodyF, slotsOf, sSeq, sIf, sE, Pv.tB, tV, tNotF, tAndF, tOrF, pTru, e3, thenB, Pv.e2, Pv.e1, eN, eF, eV, eC, eAnd, eOr, eNot, eIf, aCons, aNil, eTup, eLst, eLstOf, sPar, sSet, sRet, sPass, sDrop, sAsg, sRaise, gN, gT, gTs, setAll, isOwn, Res.bind, Res.of, outR, eSl, oSome, oNone, pCut, pIx, seqP, pIsi, tyP, pLt, pLe, pGt, pGe, pCmp, pNeg, pAdd, pSub, pNe_int, pEq_int, pNe_fr, pEq_fr, pLen, pAbs, pInt1, okD_int, fits0, fits1, fits2, fits3, fits4, atI_c0, atI_c1, atI_c2, abs_at]
  have s2 := (for_n (g := gN 4) (b := mB) (range_at [some (.int t), some (.int l), some (.int (t.natAbs : Nat)), some (.int (l.natAbs : Nat)), none, none] m)).trans e
  show outR (g_law_made [some (.int t), some (.int l), none, none, none, none] m) = _
  unfold g_law_made
  rw [seq_n s1, seq_n s2]
  rcases sign_cases h0 with ⟨h1, h2⟩ | ⟨h1, h2⟩
  · rw [h2] at x1 x2 ⊢
    simp [bodyF, slotsOf, sSeq, sIf, sE, Pv.tB, tV, tNotF, tAndF, tOrF, pTru, e3, thenB, Pv.e2, Pv.e1, eN, eF, eV, eC, eAnd, eOr, eNot, eIf, aCons, aNil, eTup, eLst, eLstOf, sPar, sSet, sRet, sPass, sDrop, sAsg, sRaise, gN, gT, gTs, setAll, isOwn, Res.bind, Res.of, outR, eSl, oSome, oNone, pCut, pIx, seqP, pIsi, tyP, pLt, pLe, pGt, pGe, pCmp, pNeg, pAdd, pSub, pNe_int, pEq_int, pNe_fr, pEq_fr, pLen, pAbs, pInt1, okD_int, fits0, fits1, fits2, fits3, fits4, atI_c0, atI_c1, atI_c2, show ¬ 0 < l by omega, x1, x2, pFdiv_int gf]
  · rw [h2] at x1 x2 ⊢
    simp [bodyF, slotsOf, sSeq, sIf, sE, Pv.tB, tV, tNotF, tAndF, tOrF, pTru, e3, thenB, Pv.e2, Pv.e1, eN, eF, eV, eC, eAnd, eOr, eNot, eIf, aCons, aNil, eTup, eLst, eLstOf, sPar, sSet, sRet, sPass, sDrop, sAsg, sRaise, gN, gT, gTs, setAll, isOwn, Res.bind, Res.of, outR, eSl, oSome, oNone, pCut, pIx, seqP, pIsi, tyP, pLt, pLe, pGt, pGe, pCmp, pNeg, pAdd, pSub, pNe_int, pEq_int, pNe_fr, pEq_fr, pLen, pAbs, pInt1, okD_int, fits0, fits1, fits2, fits3, fits4, atI_c0, atI_c1, atI_c2, h1, x1, x2, pFdiv_int gf]
end LK00
set_option maxRecDepth 100000
set_option maxHeartbeats 400000
set_option autoImplicit false
namespace LK00
open PySem PySem.Spec PyProof.Rows L2 Pv
structure PotAt (k : Nat) (m : Mem) (n : Nat) : Prop where
  ex : ∃ a b c : Int, m[n]? = some [.int a, .int b, .int c] ∧ 0 ≤ a ∧ Bd 1100 a ∧ 0 ≤ b ∧ Bd 62 b ∧ 0 ≤ c ∧ c ≤ k
theorem ix30 : ixN 3 0 = some 0 := rfl
theorem ix32 : ixN 3 2 = some 2 := rfl
theorem bd_lt {k : Nat} {i : Int} (h0 : 0 ≤ i) (h : i < 2 ^ k) : Bd k i := by
  unfold Bd
  have e : (i.natAbs : Int) < ((2 ^ k : Nat) : Int) := by
    rw [Int.natAbs_of_nonneg h0]
    simpa using h
  omega
theorem take_at {k : Nat} {m : Mem} {n : Nat} {u : Int} (P : PotAt k m n) (hk : k ≤ 1000) (u0 : 0 < u) (ub : Bd 40 u) : ∃ d m', F_law_take [.ref n, .int u] m = .ok (.int d) m' ∧ 0 ≤ d ∧ d < u ∧ PotAt (k + 1) m' n ∧ m'.length = m.length := by
  obtain ⟨a, b, c, hm, a0, ab, b0, bb, c0, ck⟩ := P.ex
  have hn : n < m.length := (List.getElem?_eq_some_iff.mp hm).1
  by_cases ha : 0 < a
  · refine ⟨a % u, m.set n [.int (a / u), .int b, .int c], ?_, Int.emod_nonneg _ (by omega), Int.emod_lt_of_pos _ u0, ⟨a / u, b, c, List.getElem?_set_self hn, Int.ediv_nonneg a0 (by omega), ab.le (Int.natAbs_ediv_le_natAbs _ _), b0, bb, c0, by omega⟩, List.length_set⟩
    simp [F_law_take, g_law_take, bodyF, slotsOf, sSeq, sIf, sE, Pv.tB, tV, tNotF, tAndF, tOrF, pTru, e3, thenB, Pv.e2, Pv.e1, eN, eF, eV, eC, eAnd, eOr, eNot, eIf, aCons, aNil, eTup, eLst, eLstOf, sPar, sSet, sRet, sPass, sDrop, sAsg, sRaise, gN, gT, gTs, setAll, isOwn, Res.bind, Res.of, outR, eSl, oSome, oNone, pCut, pIx, seqP, pIsi, tyP, pLt, pLe, pGt, pGe, pCmp, pNeg, pAdd, pSub, pNe_int, pEq_int, pNe_fr, pEq_fr, pLen, pAbs, pInt1, okD_int, fits0, fits1, fits2, fits3, fits4, atI_c0, atI_c1, atI_c2, hm, sSetM, setM, ix30, ha, pMod_int u0, pFdiv_int (div_ok u0 ub (by decide) (by decide))]
  · have c1 : Bd 11 (c + 1) := bd_lt (by omega) (by omega)
    have x1 : Bd 27 (58886 * (c + 1)) := Bd.mul (j := 16) (k := 11) (by unfold Bd; decide) c1
    have x2 : Bd 38 (58886 * (c + 1) * (c + 1)) := x1.mul c1
    have x3 : Bd 64 (b + 58886 * (c + 1) * (c + 1) + 9555) := (bb.add (x2.mono (by decide))).add (by unfold Bd; decide)
    have hz : ¬ a > 0 := ha
    generalize hX : b + 58886 * (c + 1) * (c + 1) + 9555 = X at x3
    have h3 := x3.lg (by decide)
    have p3 : ∀ m, pPow (.int X) (.int 3) m = some (.int (X ^ 3)) := fun m => pPow_int ⟨by decide, by omega⟩
    have five : (c + 1) % 5 = 0 ∨ (c + 1) % 5 = 1 ∨ (c + 1) % 5 = 2 ∨ (c + 1) % 5 = 3 ∨ (c + 1) % 5 = 4 := by omega
    obtain ⟨p, hp, p0, pb⟩ : ∃ p : Int, atI [PV.int 2147483647, .int 2147483629, .int 2147483587, .int 2147483579, .int 2147483563] ((c + 1) % 5) = some (.int p) ∧ 0 < p ∧ p < 2 ^ 31 := by
      rcases five with h | h | h | h | h <;> rw [h]
      · exact ⟨2147483647, rfl, by decide, by decide⟩
      · exact ⟨2147483629, rfl, by decide, by decide⟩
      · exact ⟨2147483587, rfl, by decide, by decide⟩
      · exact ⟨2147483579, rfl, by decide, by decide⟩
      · exact ⟨2147483563, rfl, by decide, by decide⟩
    have y0 := Int.emod_nonneg (X ^ 3) (show p ≠ 0 by omega)
    have y1 := Int.emod_lt_of_pos (X ^ 3) p0
    generalize hY : X ^ 3 % p = Y at y0 y1
    have yb : Bd 31 Y := bd_lt y0 (Int.lt_trans y1 pb)
    have w0 := Int.emod_nonneg Y (show (93949 : Int) ≠ 0 by decide)
    have w1 := Int.emod_lt_of_pos Y (show (0 : Int) < 93949 by decide)
    have wb : Bd 25 (Y % 93949 + 6215 * (c + 1)) := Bd.add (k := 24) (bd_lt w0 (by omega)) (Bd.mul (j := 13) (k := 11) (by unfold Bd; decide) c1)
    have q1 : ∀ m, pMul (.int 58886) (.int (c + 1)) m = some (.int (58886 * (c + 1))) := fun m => pMul_int (mul_ok (j := 16) (by unfold Bd; decide) c1 (by decide) (by decide) (by decide))
    have q2 : ∀ m, pMul (.int (58886 * (c + 1))) (.int (c + 1)) m = some (.int (58886 * (c + 1) * (c + 1))) := fun m => pMul_int (mul_ok x1 c1 (by decide) (by decide) (by decide))
    have q3 : ∀ m, pMul (.int 6215) (.int (c + 1)) m = some (.int (6215 * (c + 1))) := fun m => pMul_int (mul_ok (j := 13) (by unfold Bd; decide) c1 (by decide) (by decide) (by decide))
    have q4 : ∀ m, pMul (.int Y) (.int (Y % 93949 + 6215 * (c + 1))) m = some (.int (Y * (Y % 93949 + 6215 * (c + 1)))) := fun m => pMul_int (mul_ok yb wb (by decide) (by decide) (by decide))
    have q5 : ∀ i m, pMod (.int i) (.int 5) m = some (.int (i % 5)) := fun i m => pMod_int (by decide)
    have q6 : ∀ i m, pMod (.int i) (.int 93949) m = some (.int (i % 93949)) := fun i m => pMod_int (by decide)
    have q7 : ∀ i m, pMod (.int i) (.int 2305843009213693907) m = some (.int (i % 2305843009213693907)) := fun i m => pMod_int (by decide)
    have q8 : ∀ i m, pFdiv (.int i) (.int 9973) m = some (.int (i / 9973)) := fun i m => pFdiv_int (by decide)
    have q9 : ∀ i m, pMod (.int i) (.int p) m = some (.int (i % p)) := fun i m => pMod_int p0
    refine ⟨_, m.set n [.int a, .int b, .int (c + 1)], ?_, Int.emod_nonneg (Y * (Y % 93949 + 6215 * (c + 1)) % 2305843009213693907 / 9973) (by omega), Int.emod_lt_of_pos _ u0, ⟨a, b, c + 1, List.getElem?_set_self hn, a0, ab, b0, bb, by omega, by omega⟩, List.length_set⟩
    have hm1 : (m.set n [PV.int a, .int b, .int (c + 1)])[n]? = some [.int a, .int b, .int (c + 1)] := List.getElem?_set_self hn
    generalize hM : m.set n [PV.int a, .int b, .int (c + 1)] = M at hm1
    have t1 : (sIf (Pv.tB (Pv.e2 pGt (Pv.e2 pIx (eV 0) (eC (.int 0))) (eC (.int 0)))) (sSeq (sSet 2 (Pv.e2 pMod (eN pInt1 (aCons (Pv.e2 pIx (eV 0) (eC (.int 0))) (aNil))) (eV 1))) (sSeq (sSetM (eV 0) (eC (.int 0)) (Pv.e2 pFdiv (Pv.e2 pIx (eV 0) (eC (.int 0))) (eV 1))) (sRet (eV 2)))) (sPass)) [some (.ref n), some (.int u), none, none, none] m = .next [some (.ref n), some (.int u), none, none, none] m := by
      simp [bodyF, slotsOf, sSeq, sIf, sE, Pv.tB, tV, tNotF, tAndF, tOrF, pTru, e3, thenB, Pv.e2, Pv.e1, eN, eF, eV, eC, eAnd, eOr, eNot, eIf, aCons, aNil, eTup, eLst, eLstOf, sPar, sSet, sRet, sPass, sDrop, sAsg, sRaise, gN, gT, gTs, setAll, isOwn, Res.bind, Res.of, outR, eSl, oSome, oNone, pCut, pIx, seqP, pIsi, tyP, pLt, pLe, pGt, pGe, pCmp, pNeg, pAdd, pSub, pNe_int, pEq_int, pNe_fr, pEq_fr, pLen, pAbs, pInt1, okD_int, fits0, fits1, fits2, fits3, fits4, atI_c0, atI_c1, atI_c2, hm, ha]
    have t2 : (sSetM (eV 0) (eC (.int 2)) (Pv.e2 pAdd (Pv.e2 pIx (eV 0) (eC (.int 2))) (eC (.int 1)))) [some (.ref n), some (.int u), none, none, none] m = .next [some (.ref n), some (.int u), none, none, none] M := by
      simp [bodyF, slotsOf, sSeq, sIf, sE, Pv.tB, tV, tNotF, tAndF, tOrF, pTru, e3, thenB, Pv.e2, Pv.e1, eN, eF, eV, eC, eAnd, eOr, eNot, eIf, aCons, aNil, eTup, eLst, eLstOf, sPar, sSet, sRet, sPass, sDrop, sAsg, sRaise, gN, gT, gTs, setAll, isOwn, Res.bind, Res.of, outR, eSl, oSome, oNone, pCut, pIx, seqP, pIsi, tyP, pLt, pLe, pGt, pGe, pCmp, pNeg, pAdd, pSub, pNe_int, pEq_int, pNe_fr, pEq_fr, pLen, pAbs, pInt1, okD_int, fits0, fits1, fits2, fits3, fits4, atI_c0, atI_c1, atI_c2, hm, sSetM, setM, ix32, ← hM]
    have t3 : (sSet 3 (Pv.e2 pIx (eLst (aCons (eC (.int 2147483647)) (aCons (eC (.int 2147483629)) (aCons (eC (.int 2147483587)) (aCons (eC (.int 2147483579)) (aCons (eC (.int 2147483563)) (aNil))))))) (Pv.e2 pMod (eN pInt1 (aCons (Pv.e2 pIx (eV 0) (eC (.int 2))) (aNil))) (eC (.int 5))))) [some (.ref n), some (.int u), none, none, none] M = .next [some (.ref n), some (.int u), none, some (.int p), none] M := by
      simp [bodyF, slotsOf, sSeq, sIf, sE, Pv.tB, tV, tNotF, tAndF, tOrF, pTru, e3, thenB, Pv.e2, Pv.e1, eN, eF, eV, eC, eAnd, eOr, eNot, eIf, aCons, aNil, eTup, eLst, eLstOf, sPar, sSet, sRet, sPass, sDrop, sAsg, sRaise, gN, gT, gTs, setAll, isOwn, Res.bind, Res.of, outR, eSl, oSome, oNone, pCut, pIx, seqP, pIsi, tyP, pLt, pLe, pGt, pGe, pCmp, pNeg, pAdd, pSub, pNe_int, pEq_int, pNe_fr, pEq_fr, pLen, pAbs, pInt1, okD_int, fits0, fits1, fits2, fits3, fits4, atI_c0, atI_c1, atI_c2, hm1, q5, hp, fits5]
    have t4 : (sSet 4 (Pv.e2 pMod (eN pInt1 (aCons (Pv.e2 pPow (eN pInt1 (aCons (Pv.e2 pAdd (Pv.e2 pAdd (Pv.e2 pIx (eV 0) (eC (.int 1))) (Pv.e2 pMul (Pv.e2 pMul (eC (.int 58886)) (Pv.e2 pIx (eV 0) (eC (.int 2)))) (Pv.e2 pIx (eV 0) (eC (.int 2))))) (eC (.int 9555))) (aNil))) (eC (.int 3))) (aNil))) (eV 3))) [some (.ref n), some (.int u), none, some (.int p), none] M = .next [some (.ref n), some (.int u), none, some (.int p), some (.int Y)] M := by
      have u1 : Pv.e2 pAdd (Pv.e2 pAdd (Pv.e2 pIx (eV 0) (eC (.int 1))) (Pv.e2 pMul (Pv.e2 pMul (eC (.int 58886)) (Pv.e2 pIx (eV 0) (eC (.int 2)))) (Pv.e2 pIx (eV 0) (eC (.int 2))))) (eC (.int 9555)) [some (.ref n), some (.int u), none, some (.int p), none] M = .ok (.int X) M := by
        simp [bodyF, slotsOf, sSeq, sIf, sE, Pv.tB, tV, tNotF, tAndF, tOrF, pTru, e3, thenB, Pv.e2, Pv.e1, eN, eF, eV, eC, eAnd, eOr, eNot, eIf, aCons, aNil, eTup, eLst, eLstOf, sPar, sSet, sRet, sPass, sDrop, sAsg, sRaise, gN, gT, gTs, setAll, isOwn, Res.bind, Res.of, outR, eSl, oSome, oNone, pCut, pIx, seqP, pIsi, tyP, pLt, pLe, pGt, pGe, pCmp, pNeg, pAdd, pSub, pNe_int, pEq_int, pNe_fr, pEq_fr, pLen, pAbs, pInt1, okD_int, fits0, fits1, fits2, fits3, fits4, atI_c0, atI_c1, atI_c2, hm1, q1, q2, hX]
      rw [set_ok (e2_ok (eN1_ok (e2_ok (eN1_ok u1 rfl) rfl (p3 M)) rfl) rfl (q9 _ M)), hY]
      rfl
    have t5 : (sSet 4 (Pv.e2 pMod (eN pInt1 (aCons (Pv.e2 pMul (eV 4) (Pv.e2 pAdd (Pv.e2 pMod (eN pInt1 (aCons (eV 4) (aNil))) (eC (.int 93949))) (Pv.e2 pMul (eC (.int 6215)) (Pv.e2 pIx (eV 0) (eC (.int 2)))))) (aNil))) (eC (.int 2305843009213693907)))) [some (.ref n), some (.int u), none, some (.int p), some (.int Y)] M = .next [some (.ref n), some (.int u), none, some (.int p), some (.int (Y * (Y % 93949 + 6215 * (c + 1)) % 2305843009213693907))] M := by
      simp [bodyF, slotsOf, sSeq, sIf, sE, Pv.tB, tV, tNotF, tAndF, tOrF, pTru, e3, thenB, Pv.e2, Pv.e1, eN, eF, eV, eC, eAnd, eOr, eNot, eIf, aCons, aNil, eTup, eLst, eLstOf, sPar, sSet, sRet, sPass, sDrop, sAsg, sRaise, gN, gT, gTs, setAll, isOwn, Res.bind, Res.of, outR, eSl, oSome, oNone, pCut, pIx, seqP, pIsi, tyP, pLt, pLe, pGt, pGe, pCmp, pNeg, pAdd, pSub, pNe_int, pEq_int, pNe_fr, pEq_fr, pLen, pAbs, pInt1, okD_int, fits0, fits1, fits2, fits3, fits4, atI_c0, atI_c1, atI_c2, hm1, q3, q4, q6, q7]
    have t6 : (sRet (Pv.e2 pMod (eN pInt1 (aCons (Pv.e2 pFdiv (eV 4) (eC (.int 9973))) (aNil))) (eV 1))) [some (.ref n), some (.int u), none, some (.int p), some (.int (Y * (Y % 93949 + 6215 * (c + 1)) % 2305843009213693907))] M = .ret (.int (Y * (Y % 93949 + 6215 * (c + 1)) % 2305843009213693907 / 9973 % u)) M := by
      simp [bodyF, slotsOf, sSeq, sIf, sE, Pv.tB, tV, tNotF, tAndF, tOrF, pTru, e3, thenB, Pv.e2, Pv.e1, eN, eF, eV, eC, eAnd, eOr, eNot, eIf, aCons, aNil, eTup, eLst, eLstOf, sPar, sSet, sRet, sPass, sDrop, sAsg, sRaise, gN, gT, gTs, setAll, isOwn, Res.bind, Res.of, outR, eSl, oSome, oNone, pCut, pIx, seqP, pIsi, tyP, pLt, pLe, pGt, pGe, pCmp, pNeg, pAdd, pSub, pNe_int, pEq_int, pNe_fr, pEq_fr, pLen, pAbs, pInt1, okD_int, fits0, fits1, fits2, fits3, fits4, atI_c0, atI_c1, atI_c2, q8, pMod_int u0]
    show outR (g_law_take [some (.ref n), some (.int u), none, none, none] m) = _
    unfold g_law_take
    rw [seq_n t1, seq_n t2, seq_n t3, seq_n t4, seq_n t5, t6]
    rfl

/-- a drawn fraction -/
structure Dr (a b : Int) : Prop where
  ba : Bd 66 a
  bb : Bd 31 b
  pos : 0 < b
  cop : Int.gcd a b = 1
theorem nf_dr {t l : Int} (h : 0 < l) (ht : Bd 66 t) (hl : Bd 31 l) : Dr (nfa t l) (nfb t l) :=
  ⟨nfa_bd (by omega) ht, nfb_bd (by omega) hl, nfb_pos (by omega), nf_cop (by omega)⟩
theorem drawn_at {k : Nat} {m : Mem} {n : Nat} (P : PotAt k m n) (hk : k ≤ 990) : ∃ a b m', F_law_drawn [.ref n] m = .ok (fr a b) m' ∧ Dr a b ∧ PotAt (k + 4) m' n ∧ m'.length = m.length := by
  obtain ⟨d, m1, e1, d0, d1, P1, l1⟩ := take_at (u := 4) P (by omega) (by decide) (by unfold Bd; decide)
  have c1 : (Pv.tB (Pv.e2 pEq (eF 2 F_law_take (aCons (eV 0) (aCons (eC (.int 4)) (aNil)))) (eC (.int 0)))) [some (.ref n)] m = .ok (d == 0) m1 := tB_ok (e2_ok (eF2_ok rfl rfl e1) rfl rfl)
  by_cases hd : d = 0
  · obtain ⟨x, m2, e2', x0, x1, P2, l2⟩ := take_at (u := 1000000000) P1 (by omega) (by decide) (by unfold Bd; decide)
    obtain ⟨y, m3, e3', y0, y1, P3, l3⟩ := take_at (u := 1000000000) P2 (by omega) (by decide) (by unfold Bd; decide)
    obtain ⟨z, m4, e4', z0, z1, P4, l4⟩ := take_at (u := 1000000000) P3 (by omega) (by decide) (by unfold Bd; decide)
    have bt : Bd 66 (x * 10000000000 + y - 5000000000000000000) := by
      have h1 : Bd 64 (x * 10000000000) := bd_lt (by omega) (by omega)
      exact (h1.add (k := 64) (bd_lt y0 (by omega))).sub (by unfold Bd; decide)
    have bl : Bd 31 (1 + z) := bd_lt (by omega) (by omega)
    refine ⟨_, _, m4, ?_, nf_dr (by omega) bt bl, P4, by omega⟩
    have q1 : ∀ m, pMul (.int x) (.int 10000000000) m = some (.int (x * 10000000000)) := fun m => pMul_int (mul_ok (j := 31) (k := 34) (bd_lt x0 (by omega)) (by unfold Bd; decide) (by decide) (by decide) (by decide))
    have q2 : ∀ m, pMul (.int 5) (.int 1000000000000000000) m = some (.int 5000000000000000000) := fun m => rfl
    have r1 : (sRet (eF 2 F_law_made (aCons (Pv.e2 pSub (Pv.e2 pAdd (Pv.e2 pMul (eN pInt1 (aCons (eF 2 F_law_take (aCons (eV 0) (aCons (Pv.e2 pPow (eC (.int 10)) (eC (.int 9))) (aNil)))) (aNil))) (Pv.e2 pPow (eC (.int 10)) (eC (.int 10)))) (eN pInt1 (aCons (eF 2 F_law_take (aCons (eV 0) (aCons (Pv.e2 pPow (eC (.int 10)) (eC (.int 9))) (aNil)))) (aNil)))) (Pv.e2 pMul (eC (.int 5)) (Pv.e2 pPow (eC (.int 10)) (eC (.int 18))))) (aCons (Pv.e2 pAdd (eC (.int 1)) (eN pInt1 (aCons (eF 2 F_law_take (aCons (eV 0) (aCons (Pv.e2 pPow (eC (.int 10)) (eC (.int 9))) (aNil)))) (aNil)))) (aNil))))) [some (.ref n)] m1 = .ret (fr (nfa (x * 10000000000 + y - 5000000000000000000) (1 + z)) (nfb (x * 10000000000 + y - 5000000000000000000) (1 + z))) m4 :=
      ret_ok (eF2_ok (e2_ok (e2_ok (e2_ok (eN1_ok (eF2_ok rfl (e2_ok rfl rfl (pw9 _)) e2') rfl) (e2_ok rfl rfl (pw10 _)) (q1 _)) (eN1_ok (eF2_ok rfl (e2_ok rfl rfl (pw9 _)) e3') rfl) rfl) (e2_ok rfl (e2_ok rfl rfl (pw18 _)) (q2 _)) rfl) (e2_ok rfl (eN1_ok (eF2_ok rfl (e2_ok rfl rfl (pw9 _)) e4') rfl) rfl) (lmade_at (by omega) (bt.mono (by decide)) (bl.mono (by decide))))
    show outR (g_law_drawn [some (.ref n)] m) = _
    unfold g_law_drawn
    rw [seq_r ((if_ok c1).trans (by rw [if_pos (by simpa using hd)]; exact r1))]
    rfl
  · obtain ⟨x, m2, e2', x0, x1, P2, l2⟩ := take_at (u := 41) P1 (by omega) (by decide) (by unfold Bd; decide)
    obtain ⟨z, m3, e3', z0, z1, P3, l3⟩ := take_at (u := 12) P2 (by omega) (by decide) (by unfold Bd; decide)
    have bt : Bd 66 (x - 20) := Bd.mono (Bd.sub (k := 6) (bd_lt x0 (by omega)) (by unfold Bd; decide)) (by decide)
    have bl : Bd 31 (1 + z) := bd_lt (by omega) (by omega)
    have P4 : PotAt (k + 4) m3 n := by
      obtain ⟨a, b, c, y1, y2, y3, y4, y5, y6, y7⟩ := P3.ex
      exact ⟨a, b, c, y1, y2, y3, y4, y5, y6, by omega⟩
    refine ⟨_, _, m3, ?_, nf_dr (by omega) bt bl, P4, by omega⟩
    have s1 : (sIf (Pv.tB (Pv.e2 pEq (eF 2 F_law_take (aCons (eV 0) (aCons (eC (.int 4)) (aNil)))) (eC (.int 0)))) (sRet (eF 2 F_law_made (aCons (Pv.e2 pSub (Pv.e2 pAdd (Pv.e2 pMul (eN pInt1 (aCons (eF 2 F_law_take (aCons (eV 0) (aCons (Pv.e2 pPow (eC (.int 10)) (eC (.int 9))) (aNil)))) (aNil))) (Pv.e2 pPow (eC (.int 10)) (eC (.int 10)))) (eN pInt1 (aCons (eF 2 F_law_take (aCons (eV 0) (aCons (Pv.e2 pPow (eC (.int 10)) (eC (.int 9))) (aNil)))) (aNil)))) (Pv.e2 pMul (eC (.int 5)) (Pv.e2 pPow (eC (.int 10)) (eC (.int 18))))) (aCons (Pv.e2 pAdd (eC (.int 1)) (eN pInt1 (aCons (eF 2 F_law_take (aCons (eV 0) (aCons (Pv.e2 pPow (eC (.int 10)) (eC (.int 9))) (aNil)))) (aNil)))) (aNil))))) (sPass)) [some (.ref n)] m = .next [some (.ref n)] m1 := (if_ok c1).trans (by rw [if_neg (by simpa using hd)]; rfl)
    have r1 := ret_ok (eF2_ok (e2_ok (op := pSub) (eN1_ok (op := pInt1) (eF2_ok (f := eV 0) (g := eC (.int 41)) (E := [some (.ref n)]) rfl rfl e2') rfl) (g := eC (.int 20)) rfl rfl) (e2_ok (op := pAdd) (f := eC (.int 1)) rfl (eN1_ok (op := pInt1) (eF2_ok (f := eV 0) (g := eC (.int 12)) rfl rfl e3') rfl) rfl) (lmade_at (t := x - 20) (l := 1 + z) (by omega) (bt.mono (by decide)) (bl.mono (by decide))))
    show outR (g_law_drawn [some (.ref n)] m) = _
    unfold g_law_drawn
    rw [seq_n s1]
    exact congrArg outR r1
end LK00
set_option maxRecDepth 100000
set_option maxHeartbeats 400000
set_option autoImplicit false
namespace LK00
open PySem PySem.Spec PyProof.Rows L2 Pv
theorem intsP_map : ∀ ns : List Int, intsP (ns.map .int) = some ns
  | [] => rfl
  | n :: ns => by
    show (intsP (ns.map .int)).map (n :: ·) = _
    rw [intsP_map ns]
    rfl
theorem cut_map (ns : List Int) (lo hi : Option Int) : ∃ ms : List Int, cutP (ns.map .int) lo hi = ms.map .int := by
  unfold cutP
  rw [← List.map_drop, ← List.map_take]
  exact ⟨_, rfl⟩
theorem bl_int (b : Bool) (m : Mem) : pInt1 [.bl b] m = some (.int (if b then 1 else 0)) := rfl
theorem big_pos : (0 : Int) < 10 ^ 300 := Int.pow_pos (by decide)
theorem big_bd {i : Int} (h0 : 0 ≤ i) (h : i < 10 ^ 300) : Bd 1000 i := by
  have e : (10 ^ 300 : Int) = ((10 ^ 300 : Nat) : Int) := by simp
  have h1 : (10 ^ 300 : Nat) < 2 ^ 1000 := by decide +kernel
  unfold Bd
  rw [e] at h
  generalize (10 ^ 300 : Nat) = a at *
  generalize (2 ^ 1000 : Nat) = b at *
  omega
theorem pot_at (ns : List Int) (p : Nat) (hp : p ≤ 3) (m : Mem) : ∃ m', F_law_pot [.rol (ns.map .int), .int p] m = .ok (.ref m.length) m' ∧ PotAt 0 m' m.length := by
  have hlen : (pLen [.rol (ns.map .int)] m) = some (.int ns.length) := by simp [pLen, seqP]
  obtain ⟨cell, hc⟩ : ∃ cell : Int, (eIf (Pv.tB (Pv.e2 pLt (eV 1) (eN pLen (aCons (eV 0) (aNil))))) (Pv.e2 pIx (eV 0) (eV 1)) (Pv.e2 pAdd (Pv.e2 pAdd (Pv.e2 pMod (eN pSum (aCons (eSl (eV 0) (oNone) (oSome (eC (.int 1)))) (aNil))) (eC (.int 1000003))) (Pv.e2 pMul (eC (.int 31281)) (eV 1))) (eC (.int 45042)))) [some (.rol (ns.map .int)), some (.int p), none, none, none] m = .ok (.int cell) m := by
    have t : (Pv.tB (Pv.e2 pLt (eV 1) (eN pLen (aCons (eV 0) (aNil))))) [some (.rol (ns.map .int)), some (.int p), none, none, none] m = .ok (decide ((p : Int) < ns.length)) m := tB_ok (e2_ok rfl (eN1_ok rfl hlen) rfl)
    by_cases h : (p : Int) < ns.length
    · have hn : p < ns.length := by omega
      refine ⟨ns[p], ?_⟩
      unfold eIf
      rw [t, Res.bind_ok, if_pos (by simpa using h)]
      refine e2_ok rfl rfl ?_
      have e : atI (ns.map PV.int) (p : Int) = some (.int ns[p]) := by
        unfold atI ixN
        rw [if_pos (by omega), if_pos (by rw [List.length_map]; exact h)]
        simp [hn]
      simpa [pIx, seqP] using e
    · obtain ⟨ms, hms⟩ := cut_map ns none (some 1)
      refine ⟨ms.sum % 1000003 + 31281 * p + 45042, ?_⟩
      unfold eIf
      rw [t, Res.bind_ok, if_neg (by simpa using h)]
      have s1 : eSl (eV 0) (oNone) (oSome (eC (.int 1))) [some (.rol (ns.map .int)), some (.int p), none, none, none] m = .ok (.lst (ms.map .int)) m := by
        simp [eSl, eV, isOwn, oNone, oSome, eC, Res.bind, Res.of, pCut, hms]
      have s2 : pSum [.lst (ms.map .int)] m = some (.int ms.sum) := by simp [pSum, lstP, intsP_map]
      exact e2_ok (e2_ok (e2_ok (eN1_ok s1 s2) rfl (pMod_int (by decide))) (e2_ok rfl rfl (pMul_int (mul_ok (j := 16) (k := 2) (by unfold Bd; decide) (bd_lt (by omega) (by omega)) (by decide) (by decide) (by decide)))) rfl) rfl rfl
  have a0 : (0 : Int) ≤ (if cell < 0 then -cell else cell) := by split <;> omega
  generalize hA : (if cell < 0 then -cell else cell) = A at a0
  have bp := big_pos
  have o0 := Int.emod_nonneg A (Int.ne_of_gt bp)
  have o1 := big_bd o0 (Int.emod_lt_of_pos A bp)
  have mb : ∀ m, pMod (.int A) (.int (10 ^ 300)) m = some (.int (A % 10 ^ 300)) := fun m => pMod_int bp
  generalize hO : A % 10 ^ 300 = O at *
  obtain ⟨K, hK, K0, Kb⟩ : ∃ K : Int, (if decide ((1000000000000000000 : Int) ≤ A) = true then (1 : Int) else 0) = K ∧ 0 ≤ K ∧ Bd 1 K := by
    by_cases h : (1000000000000000000 : Int) ≤ A
    · exact ⟨1, by rw [if_pos (by simpa using h)], by decide, by unfold Bd; decide⟩
    · exact ⟨0, by rw [if_neg (by simpa using h)], by decide, by unfold Bd; decide⟩
  have s0 := Int.emod_nonneg cell (show (2305843009213693951 : Int) ≠ 0 by decide)
  have s1 := Int.emod_lt_of_pos cell (show (0 : Int) < 2305843009213693951 by decide)
  have q5 : pMod (.int cell) (.int 2305843009213693951) m = some (.int (cell % 2305843009213693951)) := pMod_int (by decide)
  generalize cell % 2305843009213693951 = S at *
  have u1 : pMul (.int O) (.int K) m = some (.int (O * K)) := pMul_int (mul_ok o1 Kb (by decide) (by decide) (by decide))
  have u2 : pMul (.int S) (.int 11232) m = some (.int (S * 11232)) := pMul_int (mul_ok (j := 62) (k := 14) (bd_lt s0 (by omega)) (by unfold Bd; decide) (by decide) (by decide) (by decide))
  have pb : Bd 2 (p : Int) := bd_lt (by omega) (by omega)
  have u3 : pMul (.int 94960) (.int p) m = some (.int (94960 * p)) := pMul_int (mul_ok (j := 17) (by unfold Bd; decide) pb (by decide) (by decide) (by decide))
  have u4 : pMul (.int (94960 * p)) (.int p) m = some (.int (94960 * p * p)) := pMul_int (mul_ok (Bd.mul (j := 17) (by unfold Bd; decide) pb) pb (by decide) (by decide) (by decide))
  generalize hE : S * 11232 + 94960 * p * p + 26685 = Z
  have z0 := Int.emod_nonneg Z (show (2305843009213693921 : Int) ≠ 0 by decide)
  have z1 := Int.emod_lt_of_pos Z (show (0 : Int) < 2305843009213693921 by decide)
  have u5 : pMod (.int Z) (.int 2305843009213693921) m = some (.int (Z % 2305843009213693921)) := pMod_int (by decide)
  have absq : pAbs [.int cell] m = some (.int A) := by
    show some (PV.int (if cell < 0 then -cell else cell)) = _
    rw [hA]
  have own : Pv.e2 pMul (Pv.e2 pMod (eN pInt1 (aCons (eN pAbs (aCons (eV 2) (aNil))) (aNil))) (Pv.e2 pPow (Pv.e2 pPow (eC (.int 10)) (eC (.int 60))) (eC (.int 5)))) (eN pInt1 (aCons (Pv.e2 pGe (eN pAbs (aCons (eV 2) (aNil))) (Pv.e2 pPow (eC (.int 10)) (eC (.int 18)))) (aNil))) [some (.rol (ns.map .int)), some (.int p), some (.int cell), none, none] m = .ok (.int (O * K)) m :=
    e2_ok (e2_ok (eN1_ok (eN1_ok rfl absq) rfl) (e2_ok (e2_ok rfl rfl (pw60 _)) rfl (pw605 _)) (mb _)) (eN1_ok (e2_ok (eN1_ok rfl absq) (e2_ok rfl rfl (pw18 _)) rfl) (by rw [bl_int, hK])) u1
  have small : Pv.e2 pMod (eN pInt1 (aCons (eV 2) (aNil))) (eC (.int 2305843009213693951)) [some (.rol (ns.map .int)), some (.int p), some (.int cell), some (.int (O * K)), none] m = .ok (.int S) m := e2_ok (eN1_ok rfl rfl) rfl q5
  have u6 : pAdd (.int (S * 11232 + 94960 * p * p)) (.int 26685) m = some (.int Z) := by
    rw [← hE]
    rfl
  have second : Pv.e2 pMod (eN pInt1 (aCons (Pv.e2 pAdd (Pv.e2 pAdd (Pv.e2 pMul (eV 4) (eC (.int 11232))) (Pv.e2 pMul (Pv.e2 pMul (eC (.int 94960)) (eV 1)) (eV 1))) (eC (.int 26685))) (aNil))) (eC (.int 2305843009213693921)) [some (.rol (ns.map .int)), some (.int p), some (.int cell), some (.int (O * K)), some (.int S)] m = .ok (.int (Z % 2305843009213693921)) m :=
    e2_ok (eN1_ok (e2_ok (e2_ok (e2_ok rfl rfl u2) (e2_ok (e2_ok rfl rfl u3) rfl u4) rfl) rfl u6) rfl) rfl u5
  refine ⟨m ++ [[.int (O * K), .int (Z % 2305843009213693921), .int 0]], ?_, ⟨O * K, Z % 2305843009213693921, 0, by simp, Int.mul_nonneg o0 K0, (o1.mul Kb).mono (by decide), z0, bd_lt z0 (by omega), by decide, by decide⟩⟩
  show outR (g_law_pot [some (.rol (ns.map .int)), some (.int p), none, none, none] m) = _
  unfold g_law_pot
  rw [seq_n (set_ok hc)]
  show outR (sSeq _ _ [some (.rol (ns.map .int)), some (.int p), some (.int cell), none, none] m) = _
  rw [seq_n (set_ok own)]
  show outR (sSeq _ _ [some (.rol (ns.map .int)), some (.int p), some (.int cell), some (.int (O * K)), none] m) = _
  rw [seq_n (set_ok small)]
  show outR (sRet _ [some (.rol (ns.map .int)), some (.int p), some (.int cell), some (.int (O * K)), some (.int S)] m) = _
  have fin : eNew (aLen (aCons (eV 3) (aCons (Pv.e2 pMod (eN pInt1 (aCons (Pv.e2 pAdd (Pv.e2 pAdd (Pv.e2 pMul (eV 4) (eC (.int 11232))) (Pv.e2 pMul (Pv.e2 pMul (eC (.int 94960)) (eV 1)) (eV 1))) (eC (.int 26685))) (aNil))) (eC (.int 2305843009213693921))) (aCons (eC (.int 0)) (aNil))))) [some (.rol (ns.map .int)), some (.int p), some (.int cell), some (.int (O * K)), some (.int S)] m = .ok (.ref m.length) (m ++ [[.int (O * K), .int (Z % 2305843009213693921), .int 0]]) := by
    unfold eNew aLen
    have l1 : (aCons (eV 3) (aCons (Pv.e2 pMod (eN pInt1 (aCons (Pv.e2 pAdd (Pv.e2 pAdd (Pv.e2 pMul (eV 4) (eC (.int 11232))) (Pv.e2 pMul (Pv.e2 pMul (eC (.int 94960)) (eV 1)) (eV 1))) (eC (.int 26685))) (aNil))) (eC (.int 2305843009213693921))) (aCons (eC (.int 0)) (aNil)))) [some (.rol (ns.map .int)), some (.int p), some (.int cell), some (.int (O * K)), some (.int S)] m = .ok [.int (O * K), .int (Z % 2305843009213693921), .int 0] m := cons_ok rfl (cons_ok second (cons_ok rfl rfl))
    rw [l1]
    simp [Res.bind, fits3]
  rw [ret_ok fin]
  rfl
theorem cells_at (ns : List Int) (h : ns.length ≤ 63) (m : Mem) : ∃ j : Nat, j ≤ 4 ∧ F_law_cells [.rol (ns.map .int), .int 4] m = .ok (.lst (rangeV 0 j)) m := by
  refine ⟨(max 1 (min 4 ns.length)), by omega, ?_⟩
  have hlen : (pLen [.rol (ns.map .int)] m) = some (.int ns.length) := by simp [pLen, seqP]
  have e1 : eN pMax2 (aCons (eC (.int 1)) (aCons (eN pMin2 (aCons (eV 1) (aCons (eN pLen (aCons (eV 0) (aNil))) (aNil)))) (aNil))) [some (.rol (ns.map .int)), some (.int 4)] m = .ok (.int ((max 1 (min 4 ns.length) : Nat) : Int)) m := by
    refine eN2_ok rfl (eN2_ok rfl (eN1_ok rfl hlen) rfl) ?_
    show some (PV.int (if (if (ns.length : Int) < 4 then (ns.length : Int) else 4) > 1 then (if (ns.length : Int) < 4 then (ns.length : Int) else 4) else 1)) = _
    congr 2
    split <;> split <;> omega
  have e2 : pRg1 [.int ((max 1 (min 4 ns.length) : Nat) : Int)] m = some (.lst (rangeV 0 (max 1 (min 4 ns.length)))) := by
    have b : Pv.inR ((max 1 (min 4 ns.length) : Nat) : Int) = true ∧ (((max 1 (min 4 ns.length) : Nat) : Int)).toNat ≤ 2 ^ 24 := by
      refine ⟨?_, by omega⟩
      unfold Pv.inR
      rw [Bool.and_eq_true]
      exact ⟨decide_eq_true (by omega), decide_eq_true (by omega)⟩
    simp only [pRg1]
    rw [if_pos b, Int.toNat_natCast]
  show outR (sRet (Pv.e1 (fun x m => pRg1 [x] m) _) [some (.rol (ns.map .int)), some (.int 4)] m) = _
  unfold Pv.e1
  have e3 : ((eN pMax2 (aCons (eC (.int 1)) (aCons (eN pMin2 (aCons (eV 1) (aCons (eN pLen (aCons (eV 0) (aNil))) (aNil)))) (aNil))) [some (.rol (ns.map .int)), some (.int 4)] m).bind fun x m1 => Res.of (pRg1 [x] m1) m1) = .ok (.lst (rangeV 0 (max 1 (min 4 ns.length)))) m := by
    rw [e1, Res.bind_ok, e2]
    rfl
  rw [ret_ok e3]
  rfl
end LK00
set_option maxRecDepth 100000
set_option maxHeartbeats 400000
set_option autoImplicit false
namespace LK00
open PySem PySem.Spec PyProof.Rows L2 Pv
section
variable {a b c d : Int} {m : Mem}
theorem lplus_at (ha : Bd 240 a) (hb : Bd 240 b) (hc : Bd 240 c) (hd : Bd 240 d) (h : b * d ≠ 0) : F_law_plus [fr a b, fr c d] m = .ok (fr (nfa (a * d + c * b) (b * d)) (nfb (a * d + c * b) (b * d))) m := by
  simp [F_law_plus, g_law_plus, bodyF, slotsOf, sSeq, sIf, sE, Pv.tB, tV, tNotF, tAndF, tOrF, pTru, e3, thenB, Pv.e2, Pv.e1, eN, eF, eV, eC, eAnd, eOr, eNot, eIf, aCons, aNil, eTup, eLst, eLstOf, sPar, sSet, sRet, sPass, sDrop, sAsg, sRaise, gN, gT, gTs, setAll, isOwn, Res.bind, Res.of, outR, eSl, oSome, oNone, pCut, pIx, seqP, pIsi, tyP, pLt, pLe, pGt, pGe, pCmp, pNeg, pAdd, pSub, pNe_int, pEq_int, pNe_fr, pEq_fr, pLen, pAbs, pInt1, okD_int, fits0, fits1, fits2, fits3, fits4, atI_c0, atI_c1, atI_c2, pMul_int (mul_ok ha hd (by decide) (by decide) (by decide)), pMul_int (mul_ok hc hb (by decide) (by decide) (by decide)), pMul_int (mul_ok hb hd (by decide) (by decide) (by decide)), lmade_at h (((ha.mul hd).add (hc.mul hb)).mono (by decide)) ((hb.mul hd).mono (by decide))]
theorem lminus_at (ha : Bd 240 a) (hb : Bd 240 b) (hc : Bd 240 c) (hd : Bd 240 d) (h : b * d ≠ 0) : F_law_minus [fr a b, fr c d] m = .ok (fr (nfa (a * d - c * b) (b * d)) (nfb (a * d - c * b) (b * d))) m := by
  simp [F_law_minus, g_law_minus, bodyF, slotsOf, sSeq, sIf, sE, Pv.tB, tV, tNotF, tAndF, tOrF, pTru, e3, thenB, Pv.e2, Pv.e1, eN, eF, eV, eC, eAnd, eOr, eNot, eIf, aCons, aNil, eTup, eLst, eLstOf, sPar, sSet, sRet, sPass, sDrop, sAsg, sRaise, gN, gT, gTs, setAll, isOwn, Res.bind, Res.of, outR, eSl, oSome, oNone, pCut, pIx, seqP, pIsi, tyP, pLt, pLe, pGt, pGe, pCmp, pNeg, pAdd, pSub, pNe_int, pEq_int, pNe_fr, pEq_fr, pLen, pAbs, pInt1, okD_int, fits0, fits1, fits2, fits3, fits4, atI_c0, atI_c1, atI_c2, pMul_int (mul_ok ha hd (by decide) (by decide) (by decide)), pMul_int (mul_ok hc hb (by decide) (by decide) (by decide)), pMul_int (mul_ok hb hd (by decide) (by decide) (by decide)), lmade_at h (((ha.mul hd).sub (hc.mul hb)).mono (by decide)) ((hb.mul hd).mono (by decide))]
theorem ltimes_at (ha : Bd 240 a) (hb : Bd 240 b) (hc : Bd 240 c) (hd : Bd 240 d) (h : b * d ≠ 0) : F_law_times [fr a b, fr c d] m = .ok (fr (nfa (a * c) (b * d)) (nfb (a * c) (b * d))) m := by
  simp [F_law_times, g_law_times, bodyF, slotsOf, sSeq, sIf, sE, Pv.tB, tV, tNotF, tAndF, tOrF, pTru, e3, thenB, Pv.e2, Pv.e1, eN, eF, eV, eC, eAnd, eOr, eNot, eIf, aCons, aNil, eTup, eLst, eLstOf, sPar, sSet, sRet, sPass, sDrop, sAsg, sRaise, gN, gT, gTs, setAll, isOwn, Res.bind, Res.of, outR, eSl, oSome, oNone, pCut, pIx, seqP, pIsi, tyP, pLt, pLe, pGt, pGe, pCmp, pNeg, pAdd, pSub, pNe_int, pEq_int, pNe_fr, pEq_fr, pLen, pAbs, pInt1, okD_int, fits0, fits1, fits2, fits3, fits4, atI_c0, atI_c1, atI_c2, pMul_int (mul_ok ha hc (by decide) (by decide) (by decide)), pMul_int (mul_ok hb hd (by decide) (by decide) (by decide)), lmade_at h ((ha.mul hc).mono (by decide)) ((hb.mul hd).mono (by decide))]
theorem lover_at (ha : Bd 240 a) (hb : Bd 240 b) (hc : Bd 240 c) (hd : Bd 240 d) (h : b * c ≠ 0) : F_law_over [fr a b, fr c d] m = .ok (fr (nfa (a * d) (b * c)) (nfb (a * d) (b * c))) m := by
  simp [F_law_over, g_law_over, bodyF, slotsOf, sSeq, sIf, sE, Pv.tB, tV, tNotF, tAndF, tOrF, pTru, e3, thenB, Pv.e2, Pv.e1, eN, eF, eV, eC, eAnd, eOr, eNot, eIf, aCons, aNil, eTup, eLst, eLstOf, sPar, sSet, sRet, sPass, sDrop, sAsg, sRaise, gN, gT, gTs, setAll, isOwn, Res.bind, Res.of, outR, eSl, oSome, oNone, pCut, pIx, seqP, pIsi, tyP, pLt, pLe, pGt, pGe, pCmp, pNeg, pAdd, pSub, pNe_int, pEq_int, pNe_fr, pEq_fr, pLen, pAbs, pInt1, okD_int, fits0, fits1, fits2, fits3, fits4, atI_c0, atI_c1, atI_c2, pMul_int (mul_ok ha hd (by decide) (by decide) (by decide)), pMul_int (mul_ok hb hc (by decide) (by decide) (by decide)), lmade_at h ((ha.mul hd).mono (by decide)) ((hb.mul hc).mono (by decide))]
theorem lbelow_at (ha : Bd 240 a) (hb : Bd 240 b) (hc : Bd 240 c) (hd : Bd 240 d) : F_law_below [fr a b, fr c d] m = .ok (.bl (decide (a * d < c * b))) m := by
  simp [F_law_below, g_law_below, bodyF, slotsOf, sSeq, sIf, sE, Pv.tB, tV, tNotF, tAndF, tOrF, pTru, e3, thenB, Pv.e2, Pv.e1, eN, eF, eV, eC, eAnd, eOr, eNot, eIf, aCons, aNil, eTup, eLst, eLstOf, sPar, sSet, sRet, sPass, sDrop, sAsg, sRaise, gN, gT, gTs, setAll, isOwn, Res.bind, Res.of, outR, eSl, oSome, oNone, pCut, pIx, seqP, pIsi, tyP, pLt, pLe, pGt, pGe, pCmp, pNeg, pAdd, pSub, pNe_int, pEq_int, pNe_fr, pEq_fr, pLen, pAbs, pInt1, okD_int, fits0, fits1, fits2, fits3, fits4, atI_c0, atI_c1, atI_c2, pMul_int (mul_ok ha hd (by decide) (by decide) (by decide)), pMul_int (mul_ok hc hb (by decide) (by decide) (by decide))]
theorem lgcd_at (ha : 0 ≤ a) (hb0 : 0 ≤ b) (hb : Bd 490 b) : F_law_gcd [.int a, .int b] m = .ok (.int (Int.gcd a b : Nat)) m := by
  obtain ⟨lp', e⟩ := g_loop (m := m) 490 b.natAbs a.natAbs (rangeV 0 999) none hb (by rw [range_len]; decide)
  rw [Int.natAbs_of_nonneg ha, Int.natAbs_of_nonneg hb0] at e
  show outR (g_law_gcd [some (.int a), some (.int b), none] m) = _
  unfold g_law_gcd
  rw [seq_n ((for_n (range_at _ m)).trans e)]
  rfl
end
theorem fl_nf {t l : Int} (h : 0 < l) : nfa t l / nfb t l = t / l := by
  have hg : (0 : Int) < ((Int.gcd t l : Nat) : Int) := by
    have := gpos (t := t) (l := l) (by omega)
    omega
  have h0 : l ≠ 0 := by omega
  rw [nfa_def h0, nfb_def h0, Int.sign_eq_one_of_pos h, Int.one_mul, Int.one_mul]
  have e : ((Int.gcd t l : Nat) : Int) * (t / (Int.gcd t l : Nat)) / (((Int.gcd t l : Nat) : Int) * (l / (Int.gcd t l : Nat))) = t / l := by rw [g_mul_t, g_mul_l]
  rw [← e, Int.mul_ediv_mul_of_pos _ _ hg]
theorem Dr.fc {a b : Int} (h : Dr a b) : Fc a b := by
  obtain ⟨h1, h2, h3, h4⟩ := h
  refine ⟨?_, h1.mono (by decide), h2.mono (by decide), h3⟩
  unfold Bd at h1 h2
  unfold isFr
  rw [h4]
  simp
  omega
theorem heard_exc {f : EF} {E : Ev} {m m1 : Mem} {c : Nat} {v : PV} (h : f E m = .exc c v m1) : Pv.e2 pIx (eHeard f) (eC (.int 0)) E m = .ok (.exc c v) m1 := by
  unfold Pv.e2 eHeard
  rw [h]
  rfl
theorem heard_ok {f : EF} {E : Ev} {m m1 : Mem} {v : PV} (h : f E m = .ok v m1) : Pv.e2 pIx (eHeard f) (eC (.int 0)) E m = .ok .non m1 := by
  unfold Pv.e2 eHeard
  rw [h]
  rfl
/-- the maths of how_often: its rest is below the second and no less than nothing, and adds up -/
theorem how_maths {a b c d : Int} (p : Dr a b) (q : Dr c d) (hc : 0 < c) :
    ∃ n u v r s : Int, n = a * d / (b * c) ∧ u = nfa (n * c) (1 * d) ∧ v = nfb (n * c) (1 * d) ∧ r = nfa (a * v - u * b) (b * v) ∧ s = nfb (a * v - u * b) (b * v) ∧
      Bd 97 n ∧ Bd 163 u ∧ Bd 32 v ∧ 0 < v ∧ Bd 195 r ∧ Bd 63 s ∧ 0 < s ∧ 0 ≤ r ∧ r * d < c * s ∧ nfa (u * s + r * v) (v * s) = a ∧ nfb (u * s + r * v) (v * s) = b := by
  refine ⟨_, _, _, _, _, rfl, rfl, rfl, rfl, rfl, ?_⟩
  have hb := p.pos
  have hd := q.pos
  have hbc : 0 < b * c := Int.mul_pos hb hc
  have n1 : Bd 97 (a * d / (b * c)) := (p.ba.mul q.bb).le (Int.natAbs_ediv_le_natAbs _ _)
  have n2 : a * d / (b * c) * (b * c) ≤ a * d := Int.ediv_mul_le _ (by omega)
  have n3 : a * d < (a * d / (b * c) + 1) * (b * c) := Int.lt_ediv_add_one_mul_self _ hbc
  generalize a * d / (b * c) = n at *
  have u0 : (1 * d : Int) ≠ 0 := by omega
  have ub : Bd 163 (nfa (n * c) (1 * d)) := nfa_bd u0 (n1.mul q.ba)
  have vb : Bd 32 (nfb (n * c) (1 * d)) := nfb_bd u0 (by rw [Int.one_mul]; exact q.bb.mono (by decide))
  have v0 : 0 < nfb (n * c) (1 * d) := nfb_pos u0
  have uv : nfa (n * c) (1 * d) * (1 * d) = n * c * nfb (n * c) (1 * d) := nf_cross u0
  generalize nfa (n * c) (1 * d) = u at *
  generalize nfb (n * c) (1 * d) = v at *
  have bv0 : 0 < b * v := Int.mul_pos hb v0
  have rb : Bd 195 (nfa (a * v - u * b) (b * v)) := nfa_bd (by omega) (((p.ba.mul vb).mono (by decide)).sub (ub.mul p.bb))
  have sb : Bd 63 (nfb (a * v - u * b) (b * v)) := nfb_bd (by omega) (p.bb.mul vb)
  have s0 : 0 < nfb (a * v - u * b) (b * v) := nfb_pos (by omega)
  have rs : nfa (a * v - u * b) (b * v) * (b * v) = (a * v - u * b) * nfb (a * v - u * b) (b * v) := nf_cross (by omega)
  generalize nfa (a * v - u * b) (b * v) = r at *
  generalize nfb (a * v - u * b) (b * v) = s at *
  rw [Int.one_mul] at uv
  -- (a v - u b) d = v (a d - n b c)
  have k1 : (a * v - u * b) * d = v * (a * d - n * (b * c)) := by
    have : u * b * d = (u * d) * b := by ac_rfl
    rw [Int.sub_mul, this, uv, Int.mul_sub]
    congr 1 <;> ac_rfl
  have k2 : 0 ≤ a * v - u * b := by
    have h1 : 0 ≤ (a * v - u * b) * d := by
      rw [k1]
      exact Int.mul_nonneg (Int.le_of_lt v0) (by omega)
    exact Int.nonneg_of_mul_nonneg_left h1 hd
  have k3 : 0 ≤ r := by
    have h1 : 0 ≤ r * (b * v) := by
      rw [rs]
      exact Int.mul_nonneg k2 (Int.le_of_lt s0)
    exact Int.nonneg_of_mul_nonneg_left h1 bv0
  have k4 : r * d < c * s := by
    have h1 : (r * d) * (b * v) < (c * s) * (b * v) := by
      have e1 : (r * d) * (b * v) = (r * (b * v)) * d := by ac_rfl
      have e2 : (a * v - u * b) * s * d = ((a * v - u * b) * d) * s := by ac_rfl
      have e3 : (c * s) * (b * v) = (v * (b * c)) * s := by ac_rfl
      rw [e1, rs, e2, k1, e3]
      refine Int.mul_lt_mul_of_pos_right ?_ s0
      refine Int.mul_lt_mul_of_pos_left ?_ v0
      rw [Int.add_mul, Int.one_mul] at n3
      omega
    exact Int.lt_of_mul_lt_mul_right h1 (Int.le_of_lt bv0)
  have vs0 : 0 < v * s := Int.mul_pos v0 s0
  have x := nf_cross (t := u * s + r * v) (l := v * s) (by omega)
  have k5 := least_one (a := nfa (u * s + r * v) (v * s)) (b := nfb (u * s + r * v) (v * s)) (c := a) (d := b) (nfb_pos (by omega)) hb (nf_cop (by omega)) p.cop (by
    have y : (u * s + r * v) * b = a * (v * s) := by
      have e1 : r * v * b = r * (b * v) := by ac_rfl
      have e2 : u * s * b = u * b * s := by ac_rfl
      have e3 : a * (v * s) = a * v * s := by ac_rfl
      rw [Int.add_mul, e1, rs, e2, e3, Int.sub_mul]
      omega
    generalize nfa (u * s + r * v) (v * s) = A at *
    generalize nfb (u * s + r * v) (v * s) = B at *
    refine Int.eq_of_mul_eq_mul_right (Int.ne_of_gt vs0) ?_
    have e1 : A * b * (v * s) = A * (v * s) * b := by ac_rfl
    have e2 : (u * s + r * v) * B * b = (u * s + r * v) * b * B := by ac_rfl
    rw [e1, x, e2, y]
    ac_rfl)
  exact ⟨n1, ub, vb, v0, rb, sb, s0, k3, k4, k5⟩
end LK00
set_option maxRecDepth 100000
set_option maxHeartbeats 400000
set_option autoImplicit false
namespace LK00
open PySem PySem.Spec PyProof.Rows L2 Pv
theorem two_right {a b c d : Int} (p : Dr a b) (q : Dr c d) (m : Mem) : F_law_are_two_right [fr a b, fr c d] m = .ok (.bl true) m := by
  have P := p.fc
  have Q := q.fc
  have ha : Bd 240 a := p.ba.mono (by decide)
  have hb : Bd 240 b := p.bb.mono (by decide)
  have hc : Bd 240 c := q.ba.mono (by decide)
  have hd : Bd 240 d := q.bb.mono (by decide)
  have hbd : b * d ≠ 0 := Int.mul_ne_zero (by have := p.pos; omega) (by have := q.pos; omega)
  show outR (g_law_are_two_right [some (fr a b), some (fr c d), none, none, none, none] m) = _
  unfold g_law_are_two_right
  have s1 : (sIf (tOrF (Pv.tB (Pv.e2 pNe (eF 2 F_plus (aCons (eV 0) (aCons (eV 1) (aNil)))) (eF 2 F_law_plus (aCons (eV 0) (aCons (eV 1) (aNil)))))) (Pv.tB (Pv.e2 pNe (eF 2 F_minus (aCons (eV 0) (aCons (eV 1) (aNil)))) (eF 2 F_law_minus (aCons (eV 0) (aCons (eV 1) (aNil))))))) (sRet (eC (.bl false))) (sPass)) [some (fr a b), some (fr c d), none, none, none, none] m = .next [some (fr a b), some (fr c d), none, none, none, none] m := by
    simp [bodyF, slotsOf, sSeq, sIf, sE, Pv.tB, tV, tNotF, tAndF, tOrF, pTru, e3, thenB, Pv.e2, Pv.e1, eN, eF, eV, eC, eAnd, eOr, eNot, eIf, aCons, aNil, eTup, eLst, eLstOf, sPar, sSet, sRet, sPass, sDrop, sAsg, sRaise, gN, gT, gTs, setAll, isOwn, Res.bind, Res.of, outR, eSl, oSome, oNone, pCut, pIx, seqP, pIsi, tyP, pLt, pLe, pGt, pGe, pCmp, pNeg, pAdd, pSub, pNe_int, pEq_int, pNe_fr, pEq_fr, pLen, pAbs, pInt1, okD_int, fits0, fits1, fits2, fits3, fits4, atI_c0, atI_c1, atI_c2, plus_at P Q, minus_at P Q, lplus_at ha hb hc hd hbd, lminus_at ha hb hc hd hbd]
  have s2 : (sIf (Pv.tB (Pv.e2 pNe (eF 2 F_times (aCons (eV 0) (aCons (eV 1) (aNil)))) (eF 2 F_law_times (aCons (eV 0) (aCons (eV 1) (aNil)))))) (sRet (eC (.bl false))) (sPass)) [some (fr a b), some (fr c d), none, none, none, none] m = .next [some (fr a b), some (fr c d), none, none, none, none] m := by
    simp [bodyF, slotsOf, sSeq, sIf, sE, Pv.tB, tV, tNotF, tAndF, tOrF, pTru, e3, thenB, Pv.e2, Pv.e1, eN, eF, eV, eC, eAnd, eOr, eNot, eIf, aCons, aNil, eTup, eLst, eLstOf, sPar, sSet, sRet, sPass, sDrop, sAsg, sRaise, gN, gT, gTs, setAll, isOwn, Res.bind, Res.of, outR, eSl, oSome, oNone, pCut, pIx, seqP, pIsi, tyP, pLt, pLe, pGt, pGe, pCmp, pNeg, pAdd, pSub, pNe_int, pEq_int, pNe_fr, pEq_fr, pLen, pAbs, pInt1, okD_int, fits0, fits1, fits2, fits3, fits4, atI_c0, atI_c1, atI_c2, times_at P Q, ltimes_at ha hb hc hd hbd]
  obtain ⟨w, hw⟩ : ∃ w : Int, w = ((if decide (c * b < a * d) = true then 1 else 0) - (if decide (a * d < c * b) = true then 1 else 0)) := ⟨_, rfl⟩
  have s3 : (sSet 2 (Pv.e2 pSub (eN pInt1 (aCons (eF 2 F_law_below (aCons (eV 1) (aCons (eV 0) (aNil)))) (aNil))) (eN pInt1 (aCons (eF 2 F_law_below (aCons (eV 0) (aCons (eV 1) (aNil)))) (aNil))))) [some (fr a b), some (fr c d), none, none, none, none] m = .next [some (fr a b), some (fr c d), some (.int w), none, none, none] m := by
    simp [bodyF, slotsOf, sSeq, sIf, sE, Pv.tB, tV, tNotF, tAndF, tOrF, pTru, e3, thenB, Pv.e2, Pv.e1, eN, eF, eV, eC, eAnd, eOr, eNot, eIf, aCons, aNil, eTup, eLst, eLstOf, sPar, sSet, sRet, sPass, sDrop, sAsg, sRaise, gN, gT, gTs, setAll, isOwn, Res.bind, Res.of, outR, eSl, oSome, oNone, pCut, pIx, seqP, pIsi, tyP, pLt, pLe, pGt, pGe, pCmp, pNeg, pAdd, pSub, pNe_int, pEq_int, pNe_fr, pEq_fr, pLen, pAbs, pInt1, okD_int, fits0, fits1, fits2, fits3, fits4, atI_c0, atI_c1, atI_c2, lbelow_at ha hb hc hd, lbelow_at hc hd ha hb, hw]
  have e4 := compare_at (m := m) P Q
  rw [← hw] at e4
  have s4 : (sIf (tOrF (Pv.tB (Pv.e2 pNe (eF 2 F_compare (aCons (eV 0) (aCons (eV 1) (aNil)))) (eV 2))) (tV (Pv.e1 (pIsi "bool") (eF 2 F_compare (aCons (eV 0) (aCons (eV 1) (aNil))))))) (sRet (eC (.bl false))) (sPass)) [some (fr a b), some (fr c d), some (.int w), none, none, none] m = .next [some (fr a b), some (fr c d), some (.int w), none, none, none] m := by
    simp [bodyF, slotsOf, sSeq, sIf, sE, Pv.tB, tV, tNotF, tAndF, tOrF, pTru, e3, thenB, Pv.e2, Pv.e1, eN, eF, eV, eC, eAnd, eOr, eNot, eIf, aCons, aNil, eTup, eLst, eLstOf, sPar, sSet, sRet, sPass, sDrop, sAsg, sRaise, gN, gT, gTs, setAll, isOwn, Res.bind, Res.of, outR, eSl, oSome, oNone, pCut, pIx, seqP, pIsi, tyP, pLt, pLe, pGt, pGe, pCmp, pNeg, pAdd, pSub, pNe_int, pEq_int, pNe_fr, pEq_fr, pLen, pAbs, pInt1, okD_int, fits0, fits1, fits2, fits3, fits4, atI_c0, atI_c1, atI_c2, e4, kit_int_bool]
  rw [seq_n s1, seq_n s2, seq_n s3, seq_n s4]
  rcases Int.lt_trichotomy c 0 with h0 | h0 | h0
  · have hbc : b * c ≠ 0 := Int.mul_ne_zero (by have := p.pos; omega) (by omega)
    have cz : ¬ c = 0 := by omega
    simp [bodyF, slotsOf, sSeq, sIf, sE, Pv.tB, tV, tNotF, tAndF, tOrF, pTru, e3, thenB, Pv.e2, Pv.e1, eN, eF, eV, eC, eAnd, eOr, eNot, eIf, aCons, aNil, eTup, eLst, eLstOf, sPar, sSet, sRet, sPass, sDrop, sAsg, sRaise, gN, gT, gTs, setAll, isOwn, Res.bind, Res.of, outR, eSl, oSome, oNone, pCut, pIx, seqP, pIsi, tyP, pLt, pLe, pGt, pGe, pCmp, pNeg, pAdd, pSub, pNe_int, pEq_int, pNe_fr, pEq_fr, pLen, pAbs, pInt1, okD_int, fits0, fits1, fits2, fits3, fits4, atI_c0, atI_c1, atI_c2, over_at P Q cz, lover_at ha hb hc hd hbc, h0, cz, eHeard, how_often_neg P Q (show c < 1 by omega), pIsX, pVal]
  · subst h0
    simp [bodyF, slotsOf, sSeq, sIf, sE, Pv.tB, tV, tNotF, tAndF, tOrF, pTru, e3, thenB, Pv.e2, Pv.e1, eN, eF, eV, eC, eAnd, eOr, eNot, eIf, aCons, aNil, eTup, eLst, eLstOf, sPar, sSet, sRet, sPass, sDrop, sAsg, sRaise, gN, gT, gTs, setAll, isOwn, Res.bind, Res.of, outR, eSl, oSome, oNone, pCut, pIx, seqP, pIsi, tyP, pLt, pLe, pGt, pGe, pCmp, pNeg, pAdd, pSub, pNe_int, pEq_int, pNe_fr, pEq_fr, pLen, pAbs, pInt1, okD_int, fits0, fits1, fits2, fits3, fits4, atI_c0, atI_c1, atI_c2, over_zero P Q, eHeard, pIsX, pVal]
  · have hbc : 0 < b * c := Int.mul_pos p.pos h0
    have cz : ¬ c = 0 := by omega
    have cn : ¬ c < 0 := by omega
    obtain ⟨n, u, v, r, s, hn, hu, hv, hr, hs, nb, ub, vb, v0, rb, sb, s0, r0, rl, f1, f2⟩ := how_maths p q h0
    have e5 := how_often_at (m := m) P Q (by omega) n (by rw [hn, fl_nf hbc]) (nfb_pos (by omega)) (nfb_bd (by omega) ((p.bb.mul q.ba).mono (by decide))) (nb.mono (by decide)) hu hv (ub.mono (by decide)) (vb.mono (by decide)) (by omega)
    rw [← hr, ← hs] at e5
    have e6 := ltimes_at (a := n) (b := 1) (c := c) (d := d) (m := m) (nb.mono (by decide)) (by unfold Bd; decide) hc hd (by have := q.pos; omega)
    rw [← hu, ← hv] at e6
    have e7 := lplus_at (m := m) (ub.mono (by decide)) (vb.mono (by decide)) (rb.mono (by decide)) (sb.mono (by decide)) (Int.mul_ne_zero (show v ≠ 0 by omega) (show s ≠ 0 by omega))
    rw [f1, f2] at e7
    have e8 := lbelow_at (m := m) (rb.mono (by decide)) (sb.mono (by decide)) hc hd
    have q1 : pMul (.int a) (.int d) m = some (.int (a * d)) := pMul_int (mul_ok ha hd (by decide) (by decide) (by decide))
    have q2 : pMul (.int b) (.int c) m = some (.int (b * c)) := pMul_int (mul_ok hb hc (by decide) (by decide) (by decide))
    have q3 : pFdiv (.int (a * d)) (.int (b * c)) m = some (.int (a * d / (b * c))) := pFdiv_int (div_ok hbc ((p.bb.mul q.ba)) (by decide) (by decide))
    rw [← hn] at q3
    simp [bodyF, slotsOf, sSeq, sIf, sE, Pv.tB, tV, tNotF, tAndF, tOrF, pTru, e3, thenB, Pv.e2, Pv.e1, eN, eF, eV, eC, eAnd, eOr, eNot, eIf, aCons, aNil, eTup, eLst, eLstOf, sPar, sSet, sRet, sPass, sDrop, sAsg, sRaise, gN, gT, gTs, setAll, isOwn, Res.bind, Res.of, outR, eSl, oSome, oNone, pCut, pIx, seqP, pIsi, tyP, pLt, pLe, pGt, pGe, pCmp, pNeg, pAdd, pSub, pNe_int, pEq_int, pNe_fr, pEq_fr, pLen, pAbs, pInt1, okD_int, fits0, fits1, fits2, fits3, fits4, atI_c0, atI_c1, atI_c2, over_at P Q cz, lover_at ha hb hc hd (Int.ne_of_gt hbc), cz, cn, e5, e6, e7, e8, q1, q2, q3, r0, rl]
end LK00
set_option maxRecDepth 100000
set_option maxHeartbeats 400000
set_option autoImplicit false
namespace Pv
open PySem PySem.Spec PyProof.Rows L2
theorem comp_map {g : GF} {f : EF} {E : Ev} {m : Mem} {φ : PV → PV} : ∀ (xs acc : List PV), (∀ x ∈ xs, ∃ E1, g x E = some E1 ∧ f E1 m = .ok (φ x) m) → acc.length + xs.length ≤ sizeLine → compL g tYesF f xs acc E m = .ok (acc ++ xs.map φ) m
  | [], acc, _, _ => by
    simp [compL]
  | x :: xs, acc, h, hl => by
    obtain ⟨E1, h1, h2⟩ := h x (List.mem_cons_self ..)
    have ih := comp_map (φ := φ) xs (acc ++ [φ x]) (fun y hy => h y (List.mem_cons_of_mem _ hy)) (by simp at hl ⊢; omega)
    have hl' : acc.length < sizeLine := by simp at hl; omega
    simp only [compL, h1, tYesF, Res.bindB, if_true, h2, if_pos hl']
    rw [ih]
    simp
theorem okD_str {a : Str} (h : PyData.strOk a = true) : okD (.str a) = true := by simp [okD, isD, toD, SeqAt.shaped, PyData.canLay0, PyData.depth, h]
theorem ok_S {l : List Nat} (h : l.all (· < 128) = true) : PyData.strOk (SX.S l) = true := by
  unfold PyData.strOk
  have e : (SX.S l).cps.all (· < 1114112) = l.all (· < 1114112) := by
    show l.toArray.all _ = _
    rw [List.all_toArray]
  refine e.trans ?_
  rw [List.all_eq_true] at h ⊢
  intro x hx
  have := h x hx
  simp at this ⊢
  omega
theorem or_ok {p q : TF} {E : Ev} {m : Mem} {a b : Bool} (h1 : p E m = .ok a m) (h2 : q E m = .ok b m) : tOrF p q E m = .ok (a || b) m := by
  unfold tOrF
  rw [h1, Res.bind_ok]
  cases a
  · simpa using h2
  · rfl
theorem and_if {p q : TF} {E : Ev} {m m1 : Mem} {a : Bool} (h1 : p E m = .ok a m1) : tAndF p q E m = if a = true then q E m1 else .ok false m1 := by
  unfold tAndF
  rw [h1, Res.bind_ok]
theorem not_ok {p : TF} {E : Ev} {m m1 : Mem} {a : Bool} (h1 : p E m = .ok a m1) : tNotF p E m = .ok (!a) m1 := by
  unfold tNotF
  rw [h1, Res.bind_ok]
theorem tV_ok {f : EF} {E : Ev} {m m1 : Mem} {b : Bool} (h : f E m = .ok (.bl b) m1) : tV f E m = .ok b m1 := by
  unfold tV
  rw [h]
  rfl
theorem eif_ok {p : TF} {f g : EF} {E : Ev} {m m1 : Mem} {b : Bool} (h : p E m = .ok b m1) : eIf p f g E m = if b = true then f E m1 else g E m1 := by
  unfold eIf
  rw [h, Res.bind_ok]
theorem zero_S : (Str.ofString "0") = SX.S [48] := by decide +kernel
theorem pEq_str {a b : Str} (ha : PyData.strOk a = true) (hb : PyData.strOk b = true) (m : Mem) : pEq (.str a) (.str b) m = some (.bl (a == b)) := by
  unfold pEq
  rw [if_pos ⟨okD_str ha, okD_str hb⟩]
  simp [toD, PyData.eqv]
theorem pNe_str {a b : Str} (ha : PyData.strOk a = true) (hb : PyData.strOk b = true) (m : Mem) : pNe (.str a) (.str b) m = some (.bl (!(a == b))) := by
  unfold pNe
  rw [if_pos ⟨okD_str ha, okD_str hb⟩]
  simp [toD, PyData.eqv]
theorem digs : (Str.ofString "0123456789") = SX.S [48, 49, 50, 51, 52, 53, 54, 55, 56, 57] := by decide +kernel
theorem empt : (Str.ofString "") = SX.S [] := by decide +kernel
theorem blsP_map : ∀ l : List Bool, blsP (l.map .bl) = some l
  | [] => rfl
  | b :: l => by
    show (blsP (l.map .bl)).map (b :: ·) = _
    rw [blsP_map l]
    rfl
/-- a figure -/
def dg (c : Nat) : Bool := decide (48 ≤ c) && decide (c ≤ 57)
theorem dg_in (c : Nat) : decide (c ∈ [48, 49, 50, 51, 52, 53, 54, 55, 56, 57]) = dg c := by
  unfold dg
  rw [← Bool.decide_and]
  refine decide_eq_decide.mpr ?_
  simp
  omega
/-- what read_number tells of a text -/
def rn (l : List Nat) (M : Int) : PV := if l = [] ∨ l.all dg = false ∨ 12 < l.length then .non else if 1 < l.length ∧ l.head? = some 48 then .non else if ((NumText.digitsVal l : Nat) : Int) ≤ M then .int (NumText.digitsVal l : Nat) else .non
end Pv
namespace LK00
open PySem PySem.Spec PyProof.Rows L2 Pv
theorem rn_at (l : List Nat) (M : Int) (m : Mem) (hl : l.length ≤ 600) (ho : l.all (· < 128) = true) : F_read_number [.str (SX.S l), .int M] m = .ok (rn l M) m := by
  have hz : (SX.S l).length ≤ sizeLine := by rw [SX.S_len]; exact fits (by omega)
  have e0 : (Pv.tB (Pv.e2 pEq (eV 0) (eC (.str "")))) [some (.str (SX.S l)), some (.int M), none] m = .ok (decide (l = [])) m := by
    refine tB_ok (e2_ok rfl rfl ?_)
    rw [pEq_str (ok_S ho) (by rw [empt]; exact ok_S (by decide))]
    show some (PV.bl (SX.S l == Str.ofString "")) = _
    rw [empt, SX.S_beq_eq]
  have e1 : eN pAll (aCons (eLstOf (eComp (iV (eV 0)) (gN 2) (tYesF) (Pv.e2 pIn (eV 2) (eC (.str "0123456789"))) [2])) (aNil)) [some (.str (SX.S l)), some (.int M), none] m = .ok (.bl (l.all dg)) m := by
    have q : eLstOf (eComp (iV (eV 0)) (gN 2) (tYesF) (Pv.e2 pIn (eV 2) (eC (.str "0123456789"))) [2]) [some (.str (SX.S l)), some (.int M), none] m = .ok (.lst ((l.map dg).map .bl)) m := by
      have c := comp_map (g := gN 2) (f := Pv.e2 pIn (eV 2) (eC (.str "0123456789"))) (E := [some (.str (SX.S l)), some (.int M), none]) (m := m) (φ := fun x => match x with | .str z => .bl (dg (z.cps.toList.head?.getD 0)) | _ => .non) (l.map fun c => .str ⟨#[c]⟩) [] (by
        intro x hx
        obtain ⟨k, hk, rfl⟩ := List.mem_map.mp hx
        refine ⟨_, rfl, ?_⟩
        refine e2_ok rfl rfl ?_
        show (some (!(Builtin.Str.occurrences (Str.ofString "0123456789") (SX.S [k]) 0 (Str.ofString "0123456789").length 1).isEmpty)).map PV.bl = _
        rw [digs, SX.in_one, dg_in]
        rfl) (by simp; exact fits (by omega))
      show (((Res.ok (l.map fun c => PV.str ⟨#[c]⟩) m).bind fun xs m1 => compL (gN 2) tYesF (Pv.e2 pIn (eV 2) (eC (.str "0123456789"))) xs [] [some (.str (SX.S l)), some (.int M), none] m1).bind fun xs m1 => Res.ok (PV.lst xs) m1) = _
      rw [Res.bind_ok, c, Res.bind_ok]
      simp
    refine eN1_ok q ?_
    simp only [pAll, lstP, Option.bind, blsP_map]
    simp [List.all_map]
  have e2 : pLen [.str (SX.S l)] m = some (.int l.length) := by
    simp [pLen, hz]
    exact congrArg Nat.cast (SX.S_len l)
  have e3 : (tB (Pv.e2 pGt (eN pLen (aCons (eV 0) (aNil))) (eC (.int 12)))) [some (.str (SX.S l)), some (.int M), none] m = .ok (decide (12 < (l.length : Int))) m := tB_ok (e2_ok (eN1_ok rfl e2) rfl rfl)
  show outR (g_read_number [some (.str (SX.S l)), some (.int M), none] m) = _
  unfold g_read_number rn
  have t1 := or_ok e0 (or_ok (not_ok (tV_ok e1)) e3)
  by_cases hA : l = [] ∨ l.all dg = false ∨ 12 < l.length
  · rw [if_pos hA, seq_r ((if_ok t1).trans (by
      rw [if_pos]
      · rfl
      · rcases hA with h | h | h
        · simp [h]
        · simp [h]
        · simp [show (12 : Int) < l.length by omega]))]
    rfl
  · rw [if_neg hA, seq_n ((if_ok t1).trans (by
      rw [if_neg]
      · rfl
      · simp only [not_or, Bool.not_eq_false] at hA
        obtain ⟨h1, h2, h3⟩ := hA
        simp [h1, h2]
        omega))]
    simp only [not_or, Bool.not_eq_false] at hA
    obtain ⟨h1, h2, h3⟩ := hA
    have t2 : (tB (Pv.e2 pGt (eN pLen (aCons (eV 0) (aNil))) (eC (.int 1)))) [some (.str (SX.S l)), some (.int M), none] m = .ok (decide (1 < (l.length : Int))) m := tB_ok (e2_ok (eN1_ok rfl e2) rfl rfl)
    have t3 : (tB (Pv.e2 pEq (Pv.e2 pIx (eV 0) (eC (.int 0))) (eC (.str "0")))) [some (.str (SX.S l)), some (.int M), none] m = .ok (decide (l.head? = some 48)) m := by
      cases l with
      | nil => exact absurd rfl h1
      | cons c r =>
        have hi : pIx (.str (SX.S (c :: r))) (.int 0) m = some (.str (SX.S [c])) := by
          simp only [pIx]
          rw [if_pos hz]
          show (atI (c :: r) 0).map _ = _
          rw [atI_c0]
          rfl
        refine tB_ok (e2_ok (e2_ok rfl rfl hi) rfl ?_)
        rw [pEq_str (ok_S (by simp at ho ⊢; exact ho.1)) (by rw [zero_S]; exact ok_S (by decide))]
        show some (PV.bl (SX.S [c] == Str.ofString "0")) = _
        rw [zero_S, SX.S_beq_eq]
        simp
    have t4 := and_if (q := (tB (Pv.e2 pEq (Pv.e2 pIx (eV 0) (eC (.int 0))) (eC (.str "0"))))) t2
    rw [t3] at t4
    have t5 : tAndF (tB (Pv.e2 pGt (eN pLen (aCons (eV 0) (aNil))) (eC (.int 1)))) (tB (Pv.e2 pEq (Pv.e2 pIx (eV 0) (eC (.int 0))) (eC (.str "0")))) [some (.str (SX.S l)), some (.int M), none] m = .ok (decide (1 < l.length ∧ l.head? = some 48)) m := by
      rw [t4]
      by_cases h : 1 < l.length
      · rw [if_pos (by simp; omega)]
        simp [h]
      · rw [if_neg (by simp; omega)]
        simp [h]
    by_cases hB : 1 < l.length ∧ l.head? = some 48
    · rw [if_pos hB, seq_r ((if_ok t5).trans (by rw [if_pos (by simpa using hB)]; rfl))]
      rfl
    · rw [if_neg hB, seq_n ((if_ok t5).trans (by rw [if_neg (by simpa using hB)]; rfl))]
      have ei : pInt1 [.str (SX.S l)] m = some (.int (NumText.digitsVal l : Nat)) := by
        simp only [pInt1]
        rw [SX.int_S (a := l) h2 h1 (by omega)]
        simp only
        rw [if_pos (by rw [SX.S_len]; omega)]
      have t6 : (tB (Pv.e2 pLe (eN pInt1 (aCons (eV 0) (aNil))) (eV 1))) [some (.str (SX.S l)), some (.int M), none] m = .ok (decide (((NumText.digitsVal l : Nat) : Int) ≤ M)) m := tB_ok (e2_ok (eN1_ok rfl ei) rfl rfl)
      by_cases hC : ((NumText.digitsVal l : Nat) : Int) ≤ M
      · rw [if_pos hC, ret_ok ((eif_ok t6).trans (by rw [if_pos (by simpa using hC)]; exact eN1_ok rfl ei))]
        rfl
      · rw [if_neg hC, ret_ok ((eif_ok t6).trans (by rw [if_neg (by simpa using hC)]; rfl))]
        rfl
end LK00
set_option maxRecDepth 100000
set_option maxHeartbeats 400000
set_option autoImplicit false
namespace Pv
open PySem PySem.Spec PyProof.Rows L2
def intL (i : Int) : List Nat := if i < 0 then 45 :: TL.numL i.natAbs else TL.numL i.natAbs
theorem int_txt (i : Int) : Str.ofString (toString i) = SX.S (intL i) := by
  unfold intL
  cases i with
  | ofNat n =>
    rw [if_neg (show ¬ (Int.ofNat n < 0) from by rw [Int.ofNat_eq_natCast]; omega)]
    exact SX.num_S n
  | negSucc n =>
    rw [if_pos (by omega)]
    refine TL.ext_tl ?_
    have h := TL.tl_num (n + 1)
    rw [TL.tl_ofString] at h ⊢
    show (toString (Int.negSucc n)).toList.map Char.toNat = 45 :: TL.numL (n + 1)
    rw [← h]
    have e : toString (Int.negSucc n) = "-" ++ toString (((n + 1 : Nat) : Int)) := rfl
    rw [e, String.toList_append, List.map_append]
    rfl
def txL (a b : Int) : List Nat := if b = 1 then intL a else intL a ++ [47] ++ intL b
theorem slash_S : (Str.ofString "/") = SX.S [47] := by decide +kernel
theorem minus_S : (Str.ofString "-") = SX.S [45] := by decide +kernel
theorem big490 : (2 : Nat) ^ 490 ≤ 10 ^ 200 := by decide +kernel
theorem intL_len {i : Int} (h : Bd 490 i) : (intL i).length ≤ 201 := by
  have h1 := TL.numL_len (n := i.natAbs) (k := 200) (by decide) (Nat.lt_of_lt_of_le h big490)
  unfold intL
  split
  · simp only [List.length_cons]
    omega
  · omega
theorem intL_ascii (i : Int) : (intL i).all (· < 128) = true := by
  have h := TL.numL_digits i.natAbs
  unfold intL
  have g : (TL.numL i.natAbs).all (· < 128) = true := by
    rw [List.all_eq_true]
    intro x hx
    have := h x hx
    simp
    omega
  split
  · simpa using g
  · exact g
theorem txL_ascii (a b : Int) : (txL a b).all (· < 128) = true := by
  unfold txL
  split
  · exact intL_ascii a
  · simp [intL_ascii]
theorem txL_len {a b : Int} (ha : Bd 490 a) (hb : Bd 490 b) : (txL a b).length ≤ 403 := by
  have h1 := intL_len ha
  have h2 := intL_len hb
  unfold txL
  split
  · omega
  · simp
    omega
end Pv
namespace LK00
open PySem PySem.Spec PyProof.Rows L2 Pv
/-- the text of a fraction, as the program and as the law write it -/
theorem tx_expr {E : Ev} {m : Mem} {k : Nat} {a b : Int} (he : E[k]? = some (some (fr a b))) (ha : Bd 490 a) (hb : Bd 490 b) :
    (eIf (tB (Pv.e2 pEq (Pv.e2 pIx (eV k) (eC (.int 1))) (eC (.int 1)))) (eN pStr1 (aCons (Pv.e2 pIx (eV k) (eC (.int 0))) (aNil))) (Pv.e2 pAdd (Pv.e2 pAdd (eN pStr1 (aCons (Pv.e2 pIx (eV k) (eC (.int 0))) (aNil))) (eC (.str "/"))) (eN pStr1 (aCons (Pv.e2 pIx (eV k) (eC (.int 1))) (aNil))))) E m = .ok (.str (SX.S (txL a b))) m := by
  have v : eV k E m = .ok (fr a b) m := by
    unfold eV
    rw [he]
    rfl
  have x0 : Pv.e2 pIx (eV k) (eC (.int 0)) E m = .ok (.int a) m := e2_ok v rfl rfl
  have x1 : Pv.e2 pIx (eV k) (eC (.int 1)) E m = .ok (.int b) m := e2_ok v rfl rfl
  have s : ∀ i, Bd 490 i → pStr1 [.int i] m = some (.str (SX.S (intL i))) := fun i hi => by
    simp only [pStr1]
    rw [if_pos (Nat.lt_trans (hi.lg (by decide)) (by decide))]
    exact congrArg (fun z => some (PV.str z)) (int_txt i)
  have l1 := intL_len ha
  have l2 := intL_len hb
  have t : (tB (Pv.e2 pEq (Pv.e2 pIx (eV k) (eC (.int 1))) (eC (.int 1)))) E m = .ok (b == 1) m := tB_ok (e2_ok x1 rfl (pEq_int _ _ _))
  rw [eif_ok t]
  unfold txL
  by_cases h : b = 1
  · rw [if_pos (by simpa using h), if_pos h]
    exact eN1_ok x0 (s a ha)
  · rw [if_neg (by simpa using h), if_neg h]
    have p1 : pAdd (.str (SX.S (intL a))) (.str "/") m = some (.str (SX.S (intL a ++ [47]))) := by
      show (if (SX.S (intL a)).length + (Str.ofString "/").length ≤ sizeLine then some (PV.str (SX.S (intL a) ++ Str.ofString "/")) else none) = _
      rw [slash_S, SX.S_cat, if_pos]
      rw [SX.S_len, SX.S_len]
      exact fits (by simp; omega)
    have p2 : pAdd (.str (SX.S (intL a ++ [47]))) (.str (SX.S (intL b))) m = some (.str (SX.S (intL a ++ [47] ++ intL b))) := by
      show (if (SX.S (intL a ++ [47])).length + (SX.S (intL b)).length ≤ sizeLine then some (PV.str (SX.S (intL a ++ [47]) ++ SX.S (intL b))) else none) = _
      rw [SX.S_cat, if_pos]
      rw [SX.S_len, SX.S_len]
      exact fits (by simp; omega)
    exact e2_ok (e2_ok (eN1_ok x0 (s a ha)) rfl p1) (eN1_ok x1 (s b hb)) p2
theorem text_of_at {a b : Int} {m : Mem} (ha : Bd 490 a) (hb : Bd 490 b) : F_text_of [fr a b] m = .ok (.str (SX.S (txL a b))) m := by
  show outR (g_text_of [some (fr a b)] m) = _
  unfold g_text_of
  rw [ret_ok (tx_expr rfl ha hb)]
  rfl
theorem text_at {a b : Int} {m : Mem} (p : Fc a b) : F_text [fr a b] m = .ok (.str (SX.S (txL a b))) m := by
  have e := text_of_at (m := m) (p.ba.mono (by decide)) (p.bb.mono (by decide))
  simp [F_text, g_text, bodyF, slotsOf, sSeq, sIf, sE, Pv.tB, tV, tNotF, tAndF, tOrF, pTru, e3, thenB, Pv.e2, Pv.e1, eN, eF, eV, eC, eAnd, eOr, eNot, eIf, aCons, aNil, eTup, eLst, eLstOf, sPar, sSet, sRet, sPass, sDrop, sAsg, sRaise, gN, gT, gTs, setAll, isOwn, Res.bind, Res.of, outR, eSl, oSome, oNone, pCut, pIx, seqP, pIsi, tyP, pLt, pLe, pGt, pGe, pCmp, pNeg, pAdd, pSub, pNe_int, pEq_int, pNe_fr, pEq_fr, pLen, pAbs, pInt1, okD_int, fits0, fits1, fits2, fits3, fits4, atI_c0, atI_c1, atI_c2, check_ok p.is, e]
/-- the most a read number may be -/
abbrev big : Int := 1000000000000
def outF (l : List Nat) (sg n d : Int) : PV := if txL (nfa (sg * n) d) (nfb (sg * n) d) = l then fr (nfa (sg * n) d) (nfb (sg * n) d) else .non
def fiV (l : List Nat) (sg : Int) : List PV → PV
  | [.int n] => outF l sg n 1
  | [.int n, .int d] => if d = 0 then .non else outF l sg n d
  | _ => .non
def fi (l : List Nat) : PV := fiV l (if l.take 1 = [45] then -1 else 1) ((TL.spl [47] 0 [] (if l.take 1 = [45] then l.drop 1 else l)).map fun p => rn p big)
theorem rn_cases (l : List Nat) (M : Int) : rn l M = .non ∨ ∃ n : Nat, rn l M = .int n ∧ (n : Int) ≤ M := by
  unfold rn
  split
  · exact .inl rfl
  · split
    · exact .inl rfl
    · split
      · rename_i h
        exact .inr ⟨_, rfl, h⟩
      · exact .inl rfl
theorem spl_ne (S : List Nat) : ∀ (l : List Nat) (k : Nat) (acc : List Nat), TL.spl S k acc l ≠ []
  | [], k, acc => by rw [TL.spl_nil]; simp
  | c :: r, 0, acc => by
    unfold TL.spl
    split
    · simp
    · exact spl_ne S r 0 _
  | c :: r, k + 1, acc => by
    unfold TL.spl
    exact spl_ne S r k _
theorem spl_len (S : List Nat) : ∀ (l : List Nat) (k : Nat) (acc : List Nat), (TL.spl S k acc l).length ≤ l.length + 1
  | [], k, acc => by rw [TL.spl_nil]; simp
  | c :: r, 0, acc => by
    unfold TL.spl
    split
    · have := spl_len S r (S.length - 1) []
      simp
      omega
    · have := spl_len S r 0 (acc ++ [c])
      simp
      omega
  | c :: r, k + 1, acc => by
    unfold TL.spl
    have := spl_len S r k acc
    simp
    omega
theorem spl_mem (S : List Nat) : ∀ (l : List Nat) (k : Nat) (acc p : List Nat), p ∈ TL.spl S k acc l → p.length ≤ acc.length + l.length ∧ (∀ c ∈ p, c ∈ acc ∨ c ∈ l)
  | [], k, acc, p, h => by
    rw [TL.spl_nil] at h
    simp at h
    subst h
    exact ⟨by simp, fun c hc => .inl hc⟩
  | c :: r, 0, acc, p, h => by
    unfold TL.spl at h
    split at h
    · rcases List.mem_cons.mp h with rfl | h
      · exact ⟨by simp, fun c hc => .inl hc⟩
      · obtain ⟨h1, h2⟩ := spl_mem S r (S.length - 1) [] p h
        refine ⟨by simp at h1 ⊢; omega, fun x hx => ?_⟩
        rcases h2 x hx with z | z
        · simp at z
        · exact .inr (List.mem_cons_of_mem _ z)
    · obtain ⟨h1, h2⟩ := spl_mem S r 0 (acc ++ [c]) p h
      refine ⟨by simp at h1 ⊢; omega, fun x hx => ?_⟩
      rcases h2 x hx with z | z
      · rcases List.mem_append.mp z with z | z
        · exact .inl z
        · simp at z
          subst z
          exact .inr (List.mem_cons_self ..)
      · exact .inr (List.mem_cons_of_mem _ z)
  | c :: r, k + 1, acc, p, h => by
    unfold TL.spl at h
    obtain ⟨h1, h2⟩ := spl_mem S r k acc p h
    refine ⟨by simp at h1 ⊢; omega, fun x hx => ?_⟩
    rcases h2 x hx with z | z
    · exact .inl z
    · exact .inr (List.mem_cons_of_mem _ z)
end LK00
set_option maxRecDepth 100000
set_option maxHeartbeats 400000
set_option autoImplicit false
namespace LK00
open PySem PySem.Spec PyProof.Rows L2 Pv
theorem tup_ok {f : AF} {E : Ev} {m m1 : Mem} {xs : List PV} (h : f E m = .ok xs m1) (hl : xs.length ≤ 1000) : eTup f E m = .ok (.tup xs) m1 := by
  unfold eTup
  rw [h, Res.bind_ok, if_pos (fits hl)]
theorem lst_ok {f : AF} {E : Ev} {m m1 : Mem} {xs : List PV} (h : f E m = .ok xs m1) (hl : xs.length ≤ 1000) : eLst f E m = .ok (.lst xs) m1 := by
  unfold eLst
  rw [h, Res.bind_ok, if_pos (fits hl)]
abbrev rnP (x : PV) : PV := match x with | .str z => rn z.cps.toList big | _ => .non
theorem sgn_at {l : List Nat} {m : Mem} (hl : l.length ≤ 600) (ho : l.all (· < 128) = true) : (sAsg (eIf (tB (Pv.e2 pEq (eSl (eV 0) (oNone) (oSome (eC (.int 1)))) (eC (.str "-")))) (eTup (aCons (Pv.e1 pNeg (eC (.int 1))) (aCons (eSl (eV 0) (oSome (eC (.int 1))) (oNone)) (aNil)))) (eTup (aCons (eC (.int 1)) (aCons (eV 0) (aNil))))) (gT [gN 1, gN 2])) [some (.str (SX.S l)), none, none, none, none, none, none] m = .next [some (.str (SX.S l)), some (.int (if l.take 1 = [45] then -1 else 1)), some (.str (SX.S (if l.take 1 = [45] then l.drop 1 else l))), none, none, none, none] m := by
  have hz : (SX.S l).length ≤ sizeLine := by rw [SX.S_len]; exact fits (by omega)
  have c1 : pCut none (some 1) (.str (SX.S l)) m = some (.str (SX.S (l.take 1))) := by
    simp only [pCut]
    rw [if_pos hz, C8.cutS_slice, SX.slice_to (by decide)]
    rfl
  have c2 : pCut (some 1) none (.str (SX.S l)) m = some (.str (SX.S (l.drop 1))) := by
    simp only [pCut]
    rw [if_pos hz, C8.cutS_slice, SX.slice_from (by decide)]
    rfl
  have s1 : eSl (eV 0) (oNone) (oSome (eC (.int 1))) [some (.str (SX.S l)), none, none, none, none, none, none] m = .ok (.str (SX.S (l.take 1))) m := by
    show Res.of (pCut none (some 1) (.str (SX.S l)) m) m = _
    rw [c1]
    rfl
  have s2 : eSl (eV 0) (oSome (eC (.int 1))) (oNone) [some (.str (SX.S l)), none, none, none, none, none, none] m = .ok (.str (SX.S (l.drop 1))) m := by
    show Res.of (pCut (some 1) none (.str (SX.S l)) m) m = _
    rw [c2]
    rfl
  have t : (tB (Pv.e2 pEq (eSl (eV 0) (oNone) (oSome (eC (.int 1)))) (eC (.str "-")))) [some (.str (SX.S l)), none, none, none, none, none, none] m = .ok (decide (l.take 1 = [45])) m := by
    refine tB_ok (e2_ok s1 rfl ?_)
    rw [pEq_str (ok_S _) (by rw [minus_S]; exact ok_S (by decide))]
    · show some (PV.bl (SX.S (l.take 1) == Str.ofString "-")) = _
      rw [minus_S, SX.S_beq_eq]
    · rw [List.all_eq_true] at ho ⊢
      exact fun x hx => ho x (List.mem_of_mem_take hx)
  have key : ∀ {f : EF} {a b : PV} {E : Ev}, f [some (.str (SX.S l)), none, none, none, none, none, none] m = .ok (.tup [a, b]) m → sAsg f (gT [gN 1, gN 2]) [some (.str (SX.S l)), none, none, none, none, none, none] m = .next [some (.str (SX.S l)), some a, some b, none, none, none, none] m := fun {f a b E} h => by
    unfold sAsg sE
    rw [h]
    rfl
  by_cases h : l.take 1 = [45]
  · rw [if_pos h, if_pos h]
    refine key (E := []) ((eif_ok t).trans ?_)
    rw [if_pos (by simpa using h)]
    exact tup_ok (cons_ok rfl (cons_ok s2 rfl)) (by simp)
  · rw [if_neg h, if_neg h]
    refine key (E := []) ((eif_ok t).trans ?_)
    rw [if_neg (by simpa using h)]
    rfl
theorem parts_at {l b : List Nat} {sg : Int} {m : Mem} (hl : b.length ≤ 600) (ho : b.all (· < 128) = true) : ∃ ps : List (List Nat), ps = TL.spl [47] 0 [] b ∧ (sSet 3 (eSplit (eV 2) (eC (.str "/")))) [some (.str (SX.S l)), some (.int sg), some (.str (SX.S b)), none, none, none, none] m = .next [some (.str (SX.S l)), some (.int sg), some (.str (SX.S b)), some (.lst (ps.map fun p => .str (SX.S p))), none, none, none] m ∧
    (sOwn 4 (eComp (iV (eV 3)) (gN 5) (tYesF) (eF 2 F_read_number (aCons (eV 5) (aCons (eC (.int 1000000000000)) (aNil)))) [5])) [some (.str (SX.S l)), some (.int sg), some (.str (SX.S b)), some (.lst (ps.map fun p => .str (SX.S p))), none, none, none] m = .next [some (.str (SX.S l)), some (.int sg), some (.str (SX.S b)), some (.lst (ps.map fun p => .str (SX.S p))), some (.own (ps.map fun p => rn p big)), none, none] m := by
  refine ⟨_, rfl, ?_, ?_⟩
  · refine set_ok ?_
    show Res.of (pSplit (SX.S b) (.str (Str.ofString "/"))) m = _
    rw [slash_S]
    simp only [pSplit]
    rw [if_pos ⟨rfl, by rw [SX.S_len]; exact fits (by omega)⟩, SX.split_S (by simp) (by decide)]
    simp [Res.of]
  · have c := comp_map (g := gN 5) (f := eF 2 F_read_number (aCons (eV 5) (aCons (eC (.int 1000000000000)) (aNil)))) (E := [some (.str (SX.S l)), some (.int sg), some (.str (SX.S b)), some (.lst ((TL.spl [47] 0 [] b).map fun p => .str (SX.S p))), none, none, none]) (m := m) (φ := rnP) ((TL.spl [47] 0 [] b).map fun p => .str (SX.S p)) [] (by
      intro x hx
      obtain ⟨p, hp, rfl⟩ := List.mem_map.mp hx
      obtain ⟨h1, h2⟩ := spl_mem [47] b 0 [] p hp
      refine ⟨_, rfl, ?_⟩
      refine eF2_ok rfl rfl (rn_at p big m (by simp at h1; omega) ?_)
      rw [List.all_eq_true] at ho ⊢
      intro x hx
      rcases h2 x hx with z | z
      · simp at z
      · exact ho x z) (by
      have := spl_len [47] b 0 []
      simp
      exact fits (by omega))
    have e : eComp (iV (eV 3)) (gN 5) (tYesF) (eF 2 F_read_number (aCons (eV 5) (aCons (eC (.int 1000000000000)) (aNil)))) [5] [some (.str (SX.S l)), some (.int sg), some (.str (SX.S b)), some (.lst ((TL.spl [47] 0 [] b).map fun p => .str (SX.S p))), none, none, none] m = .ok ((TL.spl [47] 0 [] b).map fun p => rn p big) m := by
      refine Eq.trans c ?_
      simp
    unfold sOwn sE
    rw [e]
    rfl
theorem frz_q {l b : List Nat} {sg : Int} {m : Mem} {ps : List (List Nat)} {xs : List PV} {t : Bool} (h : (tOrF (tB (Pv.e2 pGt (eN pLen (aCons (eV 3) (aNil))) (eC (.int 2)))) (tOrF (tB (Pv.e2 pIn (eC .non) (eV 4))) (tB (Pv.e2 pIn (eC (.int 0)) (eSl (eV 4) (oSome (eC (.int 1))) (oNone)))))) [some (.str (SX.S l)), some (.int sg), some (.str (SX.S b)), some (.lst (ps.map fun p => .str (SX.S p))), some (.lst xs), none, none] m = .ok t m) :
    (sFrz 4 (sIf (tOrF (tB (Pv.e2 pGt (eN pLen (aCons (eV 3) (aNil))) (eC (.int 2)))) (tOrF (tB (Pv.e2 pIn (eC .non) (eV 4))) (tB (Pv.e2 pIn (eC (.int 0)) (eSl (eV 4) (oSome (eC (.int 1))) (oNone)))))) (sRet (eC .non)) (sPass))) [some (.str (SX.S l)), some (.int sg), some (.str (SX.S b)), some (.lst (ps.map fun p => .str (SX.S p))), some (.own xs), none, none] m = if t = true then .ret .non m else .next [some (.str (SX.S l)), some (.int sg), some (.str (SX.S b)), some (.lst (ps.map fun p => .str (SX.S p))), some (.lst xs), none, none] m := by
  show sIf _ _ _ [some (.str (SX.S l)), some (.int sg), some (.str (SX.S b)), some (.lst (ps.map fun p => .str (SX.S p))), some (.lst xs), none, none] m = _
  rw [if_ok h]
  rfl
/-- the last two lines: the pair made, and its text laid beside the given one -/
theorem last_at {l b : List Nat} {sg n d : Int} {m : Mem} {o3 : Option PV} {xs : List PV} (ho : l.all (· < 128) = true) (h1 : sg = 1 ∨ sg = -1) (n0 : 0 ≤ n) (nb : n ≤ big) (d0 : 0 < d) (db : d ≤ big) (hx : xs = [.int n] ∧ d = 1 ∨ xs = [.int n, .int d]) :
    outR (sSeq (sSet 6 (eF 2 F_made (aCons (Pv.e2 pMul (eV 1) (Pv.e2 pIx (eV 4) (eC (.int 0)))) (aCons (Pv.e2 pIx (Pv.e2 pAdd (eV 4) (eLst (aCons (eC (.int 1)) (aNil)))) (eC (.int 1))) (aNil))))) (sRet (eIf (tB (Pv.e2 pEq (eF 1 F_text_of (aCons (eV 6) (aNil))) (eV 0))) (eV 6) (eC .non))) [some (.str (SX.S l)), some (.int sg), some (.str (SX.S b)), o3, some (.lst xs), none, none] m) = .ok (outF l sg n d) m := by
  have sb : Bd 1 sg := by rcases h1 with h | h <;> rw [h] <;> unfold Bd <;> decide
  have nb' : Bd 41 n := bd_lt n0 (by unfold big at nb; omega)
  have db' : Bd 41 d := bd_lt (by omega) (by unfold big at db; omega)
  have q1 : pMul (.int sg) (.int n) m = some (.int (sg * n)) := pMul_int (mul_ok sb nb' (by decide) (by decide) (by decide))
  have mk := made_at (t := sg * n) (l := d) (m := m) (by omega) (db'.mono (by decide))
  have ba : Bd 42 (nfa (sg * n) d) := nfa_bd (by omega) ((sb.mul nb').mono (by decide))
  have bb : Bd 42 (nfb (sg * n) d) := nfb_bd (by omega) (db'.mono (by decide))
  have tx := text_of_at (m := m) (ba.mono (by decide)) (bb.mono (by decide))
  have e0 : Pv.e2 pIx (eV 4) (eC (.int 0)) [some (.str (SX.S l)), some (.int sg), some (.str (SX.S b)), o3, some (.lst xs), none, none] m = .ok (.int n) m := by
    refine e2_ok (x := .lst xs) rfl rfl ?_
    rcases hx with ⟨h, _⟩ | h <;> subst h <;> rfl
  have e1 : Pv.e2 pIx (Pv.e2 pAdd (eV 4) (eLst (aCons (eC (.int 1)) (aNil)))) (eC (.int 1)) [some (.str (SX.S l)), some (.int sg), some (.str (SX.S b)), o3, some (.lst xs), none, none] m = .ok (.int d) m := by
    have a1 : pAdd (.lst xs) (.lst [.int 1]) m = some (.lst (xs ++ [.int 1])) := by
      simp only [pAdd]
      rw [if_pos]
      rcases hx with ⟨h, _⟩ | h <;> subst h <;> exact fits (by simp)
    refine e2_ok (e2_ok (x := .lst xs) rfl (lst_ok (cons_ok rfl rfl) (by simp)) a1) rfl ?_
    rcases hx with ⟨h, h2⟩ | h
    · subst h h2
      rfl
    · subst h
      rfl
  rw [seq_n (set_ok (eF2_ok (e2_ok rfl e0 q1) e1 mk))]
  show outR (sRet _ [some (.str (SX.S l)), some (.int sg), some (.str (SX.S b)), o3, some (.lst xs), none, some (fr (nfa (sg * n) d) (nfb (sg * n) d))] m) = _
  have t : (tB (Pv.e2 pEq (eF 1 F_text_of (aCons (eV 6) (aNil))) (eV 0))) [some (.str (SX.S l)), some (.int sg), some (.str (SX.S b)), o3, some (.lst xs), none, some (fr (nfa (sg * n) d) (nfb (sg * n) d))] m = .ok (decide (txL (nfa (sg * n) d) (nfb (sg * n) d) = l)) m := by
    refine tB_ok (e2_ok (eF1_ok rfl tx) rfl ?_)
    rw [pEq_str (ok_S (txL_ascii _ _)) (ok_S ho), SX.S_beq_eq]
  unfold outF
  by_cases h : txL (nfa (sg * n) d) (nfb (sg * n) d) = l
  · rw [if_pos h, ret_ok ((eif_ok t).trans (by rw [if_pos (by simpa using h)]; rfl))]
    rfl
  · rw [if_neg h, ret_ok ((eif_ok t).trans (by rw [if_neg (by simpa using h)]; rfl))]
    rfl
end LK00
set_option maxRecDepth 100000
set_option maxHeartbeats 400000
set_option autoImplicit false
namespace LK00
open PySem PySem.Spec PyProof.Rows L2 Pv
theorem or_t {p q : TF} {E : Ev} {m m1 : Mem} (h1 : p E m = .ok true m1) : tOrF p q E m = .ok true m1 := by
  unfold tOrF
  rw [h1, Res.bind_ok]
  rfl
section
variable {l b : List Nat} {sg : Int} {m : Mem} {ps : List (List Nat)} {xs : List PV}
theorem q_len : (tB (Pv.e2 pGt (eN pLen (aCons (eV 3) (aNil))) (eC (.int 2)))) [some (.str (SX.S l)), some (.int sg), some (.str (SX.S b)), some (.lst (ps.map fun p => .str (SX.S p))), some (.lst xs), none, none] m = .ok (decide (2 < (ps.length : Int))) m := by
  have e : pLen [.lst (ps.map fun p => PV.str (SX.S p))] m = some (.int ps.length) := by simp [pLen, seqP]
  exact tB_ok (e2_ok (eN1_ok rfl e) rfl rfl)
theorem q_big (h : 2 < ps.length) : (tOrF (tB (Pv.e2 pGt (eN pLen (aCons (eV 3) (aNil))) (eC (.int 2)))) (tOrF (tB (Pv.e2 pIn (eC .non) (eV 4))) (tB (Pv.e2 pIn (eC (.int 0)) (eSl (eV 4) (oSome (eC (.int 1))) (oNone)))))) [some (.str (SX.S l)), some (.int sg), some (.str (SX.S b)), some (.lst (ps.map fun p => .str (SX.S p))), some (.lst xs), none, none] m = .ok true m := by
  have e := q_len (l := l) (b := b) (sg := sg) (m := m) (ps := ps) (xs := xs)
  rw [decide_eq_true (show 2 < (ps.length : Int) by omega)] at e
  exact or_t e
theorem q_small {u v : Bool} (h : ps.length ≤ 2) (h1 : pIn .non (.lst xs) m = some (.bl u)) (h2 : pIn (.int 0) (.lst (cutP xs (some 1) none)) m = some (.bl v)) : (tOrF (tB (Pv.e2 pGt (eN pLen (aCons (eV 3) (aNil))) (eC (.int 2)))) (tOrF (tB (Pv.e2 pIn (eC .non) (eV 4))) (tB (Pv.e2 pIn (eC (.int 0)) (eSl (eV 4) (oSome (eC (.int 1))) (oNone)))))) [some (.str (SX.S l)), some (.int sg), some (.str (SX.S b)), some (.lst (ps.map fun p => .str (SX.S p))), some (.lst xs), none, none] m = .ok (u || v) m := by
  have e := q_len (l := l) (b := b) (sg := sg) (m := m) (ps := ps) (xs := xs)
  rw [decide_eq_false (show ¬ 2 < (ps.length : Int) by omega)] at e
  refine (or_ok e (or_ok (tB_ok (e2_ok rfl rfl h1)) (tB_ok (e2_ok rfl (y := .lst (cutP xs (some 1) none)) rfl h2)))).trans ?_
  rfl
end
theorem fiV_big {l : List Nat} {sg : Int} (x y z : PV) (r : List PV) : fiV l sg (x :: y :: z :: r) = .non := by cases x <;> cases y <;> rfl
theorem fiV_n1 {l : List Nat} {sg : Int} : fiV l sg [.non] = .non := rfl
theorem fiV_n2 {l : List Nat} {sg : Int} (x : PV) : fiV l sg [.non, x] = .non := by cases x <;> rfl
theorem fiV_n3 {l : List Nat} {sg n : Int} : fiV l sg [.int n, .non] = .non := rfl
theorem fin_at {l : List Nat} {m : Mem} (hl : l.length ≤ 600) (ho : l.all (· < 128) = true) : F_fraction_in [.str (SX.S l)] m = .ok (fi l) m := by
  have s1 := sgn_at (m := m) hl ho
  unfold fi
  have hsg : (if l.take 1 = [45] then (-1 : Int) else 1) = 1 ∨ (if l.take 1 = [45] then (-1 : Int) else 1) = -1 := by
    split <;> simp
  have hbl : (if l.take 1 = [45] then l.drop 1 else l).length ≤ 600 := by
    split
    · rw [List.length_drop]
      omega
    · exact hl
  have hbo : (if l.take 1 = [45] then l.drop 1 else l).all (· < 128) = true := by
    split
    · rw [List.all_eq_true] at ho ⊢
      exact fun x hx => ho x (List.mem_of_mem_drop hx)
    · exact ho
  generalize (if l.take 1 = [45] then (-1 : Int) else 1) = sg at *
  generalize (if l.take 1 = [45] then l.drop 1 else l) = b at *
  obtain ⟨ps, hps, s2, s3⟩ := parts_at (l := l) (sg := sg) (m := m) hbl hbo
  have hne := spl_ne [47] b 0 []
  rw [← hps] at hne ⊢
  show outR (g_fraction_in [some (.str (SX.S l)), none, none, none, none, none, none] m) = _
  unfold g_fraction_in
  rw [seq_n s1, seq_n s2, seq_n s3]
  by_cases hp : 2 < ps.length
  · rw [seq_r ((frz_q (q_big hp)).trans (by rw [if_pos rfl]))]
    match ps, hp with
    | x :: y :: z :: r, _ =>
      show Res.ok PV.non m = Res.ok (fiV l sg (rn x big :: rn y big :: rn z big :: r.map fun p => rn p big)) m
      rw [fiV_big]
  · match ps, hne, hp with
    | [p], _, _ =>
      rcases rn_cases p big with h | ⟨n, h, hn⟩
      · have c := q_small (l := l) (b := b) (sg := sg) (m := m) (ps := [p]) (xs := [p].map fun p => rn p big) (u := true) (v := false) (by simp) (by simp only [List.map]; rw [h]; rfl) (by simp only [List.map]; rw [h]; rfl)
        rw [seq_r ((frz_q c).trans (by rw [if_pos (show (true || false) = true from rfl)]))]
        simp [h, fiV_n1, fiV_n2, outR]
      · have c := q_small (l := l) (b := b) (sg := sg) (m := m) (ps := [p]) (xs := [p].map fun p => rn p big) (u := false) (v := false) (by simp) (by simp only [List.map]; rw [h]; rfl) (by simp only [List.map]; rw [h]; rfl)
        rw [seq_n ((frz_q c).trans (by rw [if_neg (by simp)]))]
        refine (last_at (n := n) (d := 1) ho hsg (by omega) hn (by decide) (by decide) (.inl ⟨by simp [h], rfl⟩)).trans ?_
        simp [h, fiV]
    | [p, q], _, _ =>
      rcases rn_cases p big with h | ⟨n, h, hn⟩
      · rcases rn_cases q big with h' | ⟨d, h', hd⟩
        · have c := q_small (l := l) (b := b) (sg := sg) (m := m) (ps := [p, q]) (xs := [p, q].map fun p => rn p big) (u := true) (v := false) (by simp) (by simp only [List.map]; rw [h, h']; rfl) (by simp only [List.map]; rw [h, h']; rfl)
          rw [seq_r ((frz_q c).trans (by rw [if_pos (show (true || false) = true from rfl)]))]
          simp [h, fiV_n1, fiV_n2, outR]
        · have c := q_small (l := l) (b := b) (sg := sg) (m := m) (ps := [p, q]) (xs := [p, q].map fun p => rn p big) (u := true) (v := (d : Int) == 0) (by simp) (by simp only [List.map]; rw [h, h']; rfl) (by simp only [List.map]; rw [h, h']; simp [pIn, inB, cutP, seqP, flatP, eqP, HT.sIx])
          rw [seq_r ((frz_q c).trans (by rw [if_pos (by simp)]))]
          simp [h, fiV_n1, fiV_n2, outR]
      · rcases rn_cases q big with h' | ⟨d, h', hd⟩
        · have c := q_small (l := l) (b := b) (sg := sg) (m := m) (ps := [p, q]) (xs := [p, q].map fun p => rn p big) (u := true) (v := false) (by simp) (by simp only [List.map]; rw [h, h']; rfl) (by simp only [List.map]; rw [h, h']; rfl)
          rw [seq_r ((frz_q c).trans (by rw [if_pos (show (true || false) = true from rfl)]))]
          simp [h, h', fiV_n3, outR]
        · have c := q_small (l := l) (b := b) (sg := sg) (m := m) (ps := [p, q]) (xs := [p, q].map fun p => rn p big) (u := false) (v := (d : Int) == 0) (by simp) (by simp only [List.map]; rw [h, h']; rfl) (by simp only [List.map]; rw [h, h']; simp [pIn, inB, cutP, seqP, flatP, eqP, HT.sIx])
          by_cases hd0 : d = 0
          · rw [seq_r ((frz_q c).trans (by rw [if_pos (by simpa using hd0)]))]
            simp [h, h', fiV, outR, hd0]
          · rw [seq_n ((frz_q c).trans (by rw [if_neg (by simpa using hd0)]))]
            refine (last_at (n := n) (d := d) ho hsg (by omega) hn (by omega) hd (.inr (by simp [h, h']))).trans ?_
            simp [h, h', fiV, hd0]
    | _ :: _ :: _ :: _, _, hp => simp at hp
theorem read_at {l : List Nat} {m : Mem} (hl : l.length ≤ 600) (ho : l.all (· < 128) = true) {a b : Int} (h : fi l = fr a b) : F_read [.str (SX.S l)] m = .ok (fr a b) m := by
  have e := fin_at (m := m) hl ho
  rw [h] at e
  simp [F_read, g_read, bodyF, slotsOf, sSeq, sIf, sE, Pv.tB, tV, tNotF, tAndF, tOrF, pTru, e3, thenB, Pv.e2, Pv.e1, eN, eF, eV, eC, eAnd, eOr, eNot, eIf, aCons, aNil, eTup, eLst, eLstOf, sPar, sSet, sRet, sPass, sDrop, sAsg, sRaise, gN, gT, gTs, setAll, isOwn, Res.bind, Res.of, outR, eSl, oSome, oNone, pCut, pIx, seqP, pIsi, tyP, pLt, pLe, pGt, pGe, pCmp, pNeg, pAdd, pSub, pNe_int, pEq_int, pNe_fr, pEq_fr, pLen, pAbs, pInt1, okD_int, fits0, fits1, fits2, fits3, fits4, atI_c0, atI_c1, atI_c2, e, kit_str_str, pIs, isB]
theorem read_bad {l : List Nat} {m : Mem} (hl : l.length ≤ 600) (ho : l.all (· < 128) = true) (h : fi l = .non) : F_read [.str (SX.S l)] m = .exc 3 (.str (SX.S l)) m := by
  have e := fin_at (m := m) hl ho
  rw [h] at e
  simp [F_read, g_read, bodyF, slotsOf, sSeq, sIf, sE, Pv.tB, tV, tNotF, tAndF, tOrF, pTru, e3, thenB, Pv.e2, Pv.e1, eN, eF, eV, eC, eAnd, eOr, eNot, eIf, aCons, aNil, eTup, eLst, eLstOf, sPar, sSet, sRet, sPass, sDrop, sAsg, sRaise, gN, gT, gTs, setAll, isOwn, Res.bind, Res.of, outR, eSl, oSome, oNone, pCut, pIx, seqP, pIsi, tyP, pLt, pLe, pGt, pGe, pCmp, pNeg, pAdd, pSub, pNe_int, pEq_int, pNe_fr, pEq_fr, pLen, pAbs, pInt1, okD_int, fits0, fits1, fits2, fits3, fits4, atI_c0, atI_c1, atI_c2, e, kit_str_str, pIs, isB]
theorem read_fr {a b : Int} {m : Mem} : F_read [fr a b] m = .exc 3 (fr a b) m := by
  simp [F_read, g_read, bodyF, slotsOf, sSeq, sIf, sE, Pv.tB, tV, tNotF, tAndF, tOrF, pTru, e3, thenB, Pv.e2, Pv.e1, eN, eF, eV, eC, eAnd, eOr, eNot, eIf, aCons, aNil, eTup, eLst, eLstOf, sPar, sSet, sRet, sPass, sDrop, sAsg, sRaise, gN, gT, gTs, setAll, isOwn, Res.bind, Res.of, outR, eSl, oSome, oNone, pCut, pIx, seqP, pIsi, tyP, pLt, pLe, pGt, pGe, pCmp, pNeg, pAdd, pSub, pNe_int, pEq_int, pNe_fr, pEq_fr, pLen, pAbs, pInt1, okD_int, fits0, fits1, fits2, fits3, fits4, atI_c0, atI_c1, atI_c2, kit_tup_str, pIs, isB]
/-- the signs of a written text -/
def codes (s : String) : List Nat := s.toList.map Char.toNat
theorem codes_S (s : String) : Str.ofString s = SX.S (codes s) := TL.ext_tl (TL.tl_ofString s)
def bads : List String := ["", "1/0", "2/4", "+1", "01", "1/1", "-0", " 1", "1 ", "1/-2", "0/3", "1234567890123", "a", "1//2"]
def nonB : PV → Bool
  | .non => true
  | _ => false
theorem nonB_eq {x : PV} (h : nonB x = true) : x = .non := by
  cases x <;> first | rfl | cases h
theorem bads_fi : bads.all (fun s => nonB (fi (codes s)) && (decide ((codes s).length ≤ 600) && (codes s).all (· < 128))) = true := by decide +kernel
theorem bad_read {s : String} (h : s ∈ bads) (m : Mem) : F_read [.str (Str.ofString s)] m = .exc 3 (.str (Str.ofString s)) m ∧ PyData.strOk (Str.ofString s) = true := by
  have g := List.all_eq_true.mp bads_fi s h
  simp only [Bool.and_eq_true, decide_eq_true_eq] at g
  rw [codes_S]
  exact ⟨read_bad g.2.1 g.2.2 (nonB_eq g.1), ok_S g.2.2⟩
/-- a number read back -/
theorem num_head : ∀ (k n : Nat), n < k → 1 ≤ n → (TL.numL n).head? ≠ some 48
  | 0, n, h, _ => absurd h (Nat.not_lt_zero _)
  | k + 1, n, h, h1 => by
    by_cases hn : n < 10
    · rw [TL.numL_lt hn]
      simp
      omega
    · rw [TL.numL_step (by omega)]
      have ih := num_head k (n / 10) (by omega) (by omega)
      have ne := TL.numL_ne (n / 10)
      cases h2 : TL.numL (n / 10) with
      | nil => exact absurd h2 ne
      | cons c r =>
        rw [h2] at ih
        simpa using ih
theorem rn_num {n : Nat} (h : n < 10 ^ 12) : rn (TL.numL n) big = .int n := by
  have h1 := TL.numL_len (n := n) (k := 12) (by decide) h
  have h2 : (TL.numL n).all dg = true := by
    rw [List.all_eq_true]
    intro x hx
    have := TL.numL_digits n x hx
    unfold dg
    simp
    omega
  unfold rn
  rw [if_neg (by simp [TL.numL_ne, h2]; exact h1), if_neg, TL.numL_val, if_pos (by unfold big; omega)]
  rintro ⟨h3, h4⟩
  by_cases hn : n < 10
  · rw [TL.numL_lt hn] at h3
    simp at h3
  · exact num_head (n + 1) n (by omega) (by omega) h4
theorem num_no47 (n : Nat) : 47 ∉ TL.numL n := TL.numL_free (by omega)
theorem num_no45 (n : Nat) (r : List Nat) : (TL.numL n ++ r).take 1 ≠ [45] := by
  have ne := TL.numL_ne n
  have fr := TL.numL_free (n := n) (s := 45) (by omega)
  cases h : TL.numL n with
  | nil => exact absurd h ne
  | cons c q =>
    rw [h] at fr
    simp at fr ⊢
    omega
theorem fi_of {sg : Int} {n d : Nat} {l : List Nat} {tail : List Nat} (e : (if l.take 1 = [45] then (-1 : Int) else 1) = sg) (e2 : (if l.take 1 = [45] then l.drop 1 else l) = TL.numL n ++ tail) (hn : n < 10 ^ 12) (hd : d < 10 ^ 12) (d0 : 0 < d) (ht : tail = [] ∧ d = 1 ∨ tail = 47 :: TL.numL d) : fi l = outF l sg n d := by
  unfold fi
  rw [e, e2]
  rcases ht with ⟨h1, h2⟩ | h1
  · subst h1 h2
    rw [List.append_nil, TL.spl_last1 (num_no47 n)]
    simp only [List.map, List.nil_append, rn_num hn, fiV]
    rfl
  · subst h1
    have := TL.spl_part1 (s := 47) (S := []) (p := TL.numL n) (rest := TL.numL d) (acc := []) (num_no47 n)
    simp only [List.cons_append, List.nil_append] at this
    rw [this, TL.spl_last1 (num_no47 d)]
    simp only [List.map, List.nil_append, rn_num hn, rn_num hd, fiV]
    rw [if_neg (by omega)]
theorem fi_tx {a b : Int} (p : Dr a b) (ha : a.natAbs < 10 ^ 12) (hb : b < 10 ^ 12) : fi (txL a b) = fr a b := by
  have b0 := p.pos
  have hb2 : b = ((b.natAbs : Nat) : Int) := by omega
  have key : ∀ tail, txL a b = intL a ++ tail → (tail = [] ∧ b.natAbs = 1 ∨ tail = 47 :: TL.numL b.natAbs) → fi (txL a b) = fr a b := by
    intro tail ht hc
    by_cases h0 : a < 0
    · have hI : intL a = 45 :: TL.numL a.natAbs := by unfold intL; rw [if_pos h0]
      have e := fi_of (sg := -1) (n := a.natAbs) (d := b.natAbs) (l := txL a b) (tail := tail) (by rw [ht, hI]; rfl) (by rw [ht, hI]; rfl) ha (by omega) (by omega) hc
      rw [e]
      unfold outF
      have ea : (-1 : Int) * ((a.natAbs : Nat) : Int) = a := by omega
      rw [ea, ← hb2, nfa_self b0 p.cop, nfb_self b0 p.cop, if_pos rfl]
    · have hI : intL a = TL.numL a.natAbs := by unfold intL; rw [if_neg h0]
      have g := num_no45 a.natAbs tail
      have e := fi_of (sg := 1) (n := a.natAbs) (d := b.natAbs) (l := txL a b) (tail := tail) (by rw [ht, hI, if_neg g]) (by rw [ht, hI, if_neg g]) ha (by omega) (by omega) hc
      rw [e]
      unfold outF
      have ea : (1 : Int) * ((a.natAbs : Nat) : Int) = a := by omega
      rw [ea, ← hb2, nfa_self b0 p.cop, nfb_self b0 p.cop, if_pos rfl]
  by_cases h1 : b = 1
  · exact key [] (by unfold txL; rw [if_pos h1, List.append_nil]) (.inl ⟨rfl, by omega⟩)
  · refine key (47 :: intL b) (by unfold txL; rw [if_neg h1]; simp) (.inr ?_)
    unfold intL
    rw [if_neg (by omega)]
end LK00
set_option maxRecDepth 100000
set_option maxHeartbeats 400000
set_option autoImplicit false
namespace LK00
open PySem PySem.Spec PyProof.Rows L2 Pv
noncomputable abbrev tBody : SF := (sSeq (sSet 5 (Pv.e2 pIx (eHeard (eF 1 F_read (aCons (eV 4) (aNil)))) (eC (.int 0)))) (sIf (tOrF (tNotF (tV (Pv.e1 (pIsX 3) (eV 5)))) (tB (Pv.e2 pNe (Pv.e1 pVal (eV 5)) (eV 4)))) (sRet (eC (.bl false))) (sPass)))
theorem t_loop {x0 x1 x2 x3 : Option PV} {m : Mem} : ∀ (ss : List String) (o4 o5 : Option PV), (∀ s ∈ ss, s ∈ bads) → ∃ o4' o5', forL (gN 4) tBody (ss.map fun s => .str (Str.ofString s)) [x0, x1, x2, x3, o4, o5] m = .next [x0, x1, x2, x3, o4', o5'] m
  | [], o4, o5, _ => ⟨o4, o5, rfl⟩
  | s :: ss, o4, o5, h => by
    obtain ⟨e, ok⟩ := bad_read (h s (List.mem_cons_self ..)) m
    obtain ⟨o4', o5', ih⟩ := t_loop (x0 := x0) (x1 := x1) (x2 := x2) (x3 := x3) (m := m) ss (some (.str (Str.ofString s))) (some (.exc 3 (.str (Str.ofString s)))) (fun t ht => h t (List.mem_cons_of_mem _ ht))
    refine ⟨o4', o5', ?_⟩
    have a1 : (sSet 5 (Pv.e2 pIx (eHeard (eF 1 F_read (aCons (eV 4) (aNil)))) (eC (.int 0)))) [x0, x1, x2, x3, some (.str (Str.ofString s)), o5] m = .next [x0, x1, x2, x3, some (.str (Str.ofString s)), some (.exc 3 (.str (Str.ofString s)))] m := set_ok (heard_exc (eF1_ok rfl e))
    have a2 : (sIf (tOrF (tNotF (tV (Pv.e1 (pIsX 3) (eV 5)))) (tB (Pv.e2 pNe (Pv.e1 pVal (eV 5)) (eV 4)))) (sRet (eC (.bl false))) (sPass)) [x0, x1, x2, x3, some (.str (Str.ofString s)), some (.exc 3 (.str (Str.ofString s)))] m = .next [x0, x1, x2, x3, some (.str (Str.ofString s)), some (.exc 3 (.str (Str.ofString s)))] m := by
      have t1 : tNotF (tV (Pv.e1 (pIsX 3) (eV 5))) [x0, x1, x2, x3, some (.str (Str.ofString s)), some (.exc 3 (.str (Str.ofString s)))] m = .ok false m := not_ok (a := true) (tV_ok rfl)
      have t2 : tB (Pv.e2 pNe (Pv.e1 pVal (eV 5)) (eV 4)) [x0, x1, x2, x3, some (.str (Str.ofString s)), some (.exc 3 (.str (Str.ofString s)))] m = .ok false m := by
        refine tB_ok (e2_ok rfl rfl ((pNe_str ok ok m).trans ?_))
        simp
      rw [if_ok (or_ok t1 t2)]
      rfl
    have b : tBody [x0, x1, x2, x3, some (.str (Str.ofString s)), o5] m = .next [x0, x1, x2, x3, some (.str (Str.ofString s)), some (.exc 3 (.str (Str.ofString s)))] m := (seq_n a1).trans a2
    show (match tBody [x0, x1, x2, x3, some (.str (Str.ofString s)), o5] m with
      | .next E2 m2 => forL (gN 4) tBody (ss.map fun s => .str (Str.ofString s)) E2 m2
      | .cnt E2 m2 => forL (gN 4) tBody (ss.map fun s => .str (Str.ofString s)) E2 m2
      | .brk E2 m2 => .next E2 m2
      | .ret v m2 => .ret v m2
      | .exc c v E2 m2 => .exc c v E2 m2
      | .bad => .bad) = _
    rw [b]
    exact ih
theorem texts_right {a b : Int} (p : Dr a b) (x0 : PV) (m : Mem) : F_law_are_texts_right [x0, fr a b] m = .ok (.bl true) m := by
  have P := p.fc
  have ha : Bd 490 a := p.ba.mono (by decide)
  have hb : Bd 490 b := p.bb.mono (by decide)
  have okT := ok_S (txL_ascii a b)
  show outR (g_law_are_texts_right [some x0, some (fr a b), none, none, none, none] m) = _
  unfold g_law_are_texts_right
  rw [seq_n (set_ok (tx_expr rfl ha hb))]
  show outR (sSeq _ _ [some x0, some (fr a b), some (.str (SX.S (txL a b))), none, none, none] m) = _
  have s2 : (sIf (tB (Pv.e2 pNe (eF 1 F_text (aCons (eV 1) (aNil))) (eV 2))) (sRet (eC (.bl false))) (sPass)) [some x0, some (fr a b), some (.str (SX.S (txL a b))), none, none, none] m = .next [some x0, some (fr a b), some (.str (SX.S (txL a b))), none, none, none] m := by
    have t : tB (Pv.e2 pNe (eF 1 F_text (aCons (eV 1) (aNil))) (eV 2)) [some x0, some (fr a b), some (.str (SX.S (txL a b))), none, none, none] m = .ok false m := by
      refine tB_ok (e2_ok (eF1_ok rfl (text_at P)) rfl ((pNe_str okT okT m).trans ?_))
      simp
    rw [if_ok t]
    rfl
  rw [seq_n s2]
  have s3 : (sSet 3 (eAnd (Pv.e2 pLt (eN pAbs (aCons (Pv.e2 pIx (eV 1) (eC (.int 0))) (aNil))) (Pv.e2 pPow (eC (.int 10)) (eC (.int 12)))) (Pv.e2 pLt (Pv.e2 pIx (eV 1) (eC (.int 1))) (Pv.e2 pPow (eC (.int 10)) (eC (.int 12)))))) [some x0, some (fr a b), some (.str (SX.S (txL a b))), none, none, none] m = .next [some x0, some (fr a b), some (.str (SX.S (txL a b))), some (.bl (decide (((a.natAbs : Nat) : Int) < 1000000000000) && decide (b < 1000000000000))), none, none] m := by
    refine (set_ok (x := .bl (decide (((a.natAbs : Nat) : Int) < 1000000000000) && decide (b < 1000000000000))) (m1 := m) ?_).trans rfl
    have q1 : Pv.e2 pLt (eN pAbs (aCons (Pv.e2 pIx (eV 1) (eC (.int 0))) (aNil))) (Pv.e2 pPow (eC (.int 10)) (eC (.int 12))) [some x0, some (fr a b), some (.str (SX.S (txL a b))), none, none, none] m = .ok (.bl (decide (((a.natAbs : Nat) : Int) < 1000000000000))) m := by
      refine e2_ok (eN1_ok (x := .int a) rfl (z := .int ((a.natAbs : Nat) : Int)) ?_) (e2_ok rfl rfl (pw12 m)) rfl
      show some (PV.int (if a < 0 then -a else a)) = _
      rw [abs_at]
    have q2 : Pv.e2 pLt (Pv.e2 pIx (eV 1) (eC (.int 1))) (Pv.e2 pPow (eC (.int 10)) (eC (.int 12))) [some x0, some (fr a b), some (.str (SX.S (txL a b))), none, none, none] m = .ok (.bl (decide (b < 1000000000000))) m := e2_ok (x := .int b) rfl (e2_ok rfl rfl (pw12 m)) rfl
    unfold eAnd
    rw [q1, Res.bind_ok]
    cases decide (((a.natAbs : Nat) : Int) < 1000000000000)
    · rfl
    · exact q2
  rw [seq_n s3]
  have s4 : (sIf (tAndF (tV (eV 3)) (tB (Pv.e2 pNe (eF 1 F_read (aCons (eV 2) (aNil))) (eV 1)))) (sRet (eC (.bl false))) (sPass)) [some x0, some (fr a b), some (.str (SX.S (txL a b))), some (.bl (decide (((a.natAbs : Nat) : Int) < 1000000000000) && decide (b < 1000000000000))), none, none] m = .next [some x0, some (fr a b), some (.str (SX.S (txL a b))), some (.bl (decide (((a.natAbs : Nat) : Int) < 1000000000000) && decide (b < 1000000000000))), none, none] m := by
    have t : tAndF (tV (eV 3)) (tB (Pv.e2 pNe (eF 1 F_read (aCons (eV 2) (aNil))) (eV 1))) [some x0, some (fr a b), some (.str (SX.S (txL a b))), some (.bl (decide (((a.natAbs : Nat) : Int) < 1000000000000) && decide (b < 1000000000000))), none, none] m = .ok false m := by
      refine (and_if (a := (decide (((a.natAbs : Nat) : Int) < 1000000000000) && decide (b < 1000000000000))) (m1 := m) (tV_ok rfl)).trans ?_
      cases h : (decide (((a.natAbs : Nat) : Int) < 1000000000000) && decide (b < 1000000000000)) with
      | false => rfl
      | true =>
        simp only [Bool.and_eq_true, decide_eq_true_eq] at h
        rw [if_pos rfl]
        have r := read_at (m := m) (l := txL a b) (by have := txL_len ha hb; omega) (txL_ascii a b) (fi_tx p (by omega) (by omega))
        refine tB_ok (e2_ok (eF1_ok rfl r) rfl ((pNe_fr ..).trans ?_))
        simp
    rw [if_ok t]
    rfl
  rw [seq_n s4]
  generalize (decide (((a.natAbs : Nat) : Int) < 1000000000000) && decide (b < 1000000000000)) = w
  obtain ⟨o4, o5, lp⟩ := t_loop (x0 := some x0) (x1 := some (fr a b)) (x2 := some (.str (SX.S (txL a b)))) (x3 := some (.bl w)) (m := m) bads none none (fun _ h => h)
  have s5 := for_n (g := gN 4) (b := tBody) (fi := (iV (eTup (aCons (eC (.str "")) (aCons (eC (.str "1/0")) (aCons (eC (.str "2/4")) (aCons (eC (.str "+1")) (aCons (eC (.str "01")) (aCons (eC (.str "1/1")) (aCons (eC (.str "-0")) (aCons (eC (.str " 1")) (aCons (eC (.str "1 ")) (aCons (eC (.str "1/-2")) (aCons (eC (.str "0/3")) (aCons (eC (.str "1234567890123")) (aCons (eC (.str "a")) (aCons (eC (.str "1//2")) (aNil)))))))))))))))))) (E := [some x0, some (fr a b), some (.str (SX.S (txL a b))), some (.bl w), none, none]) (m := m) (m1 := m) (xs := bads.map fun s => .str (Str.ofString s)) (by
    unfold iV
    rw [tup_ok (xs := bads.map fun s => .str (Str.ofString s)) (m1 := m) rfl (by simp [bads])]
    rfl)
  rw [seq_n (s5.trans lp)]
  rw [seq_n (set_ok (heard_exc (eF1_ok rfl read_fr)))]
  show outR (sRet _ [some x0, some (fr a b), some (.str (SX.S (txL a b))), some (.bl w), o4, some (.exc 3 (fr a b))] m) = _
  refine (congrArg outR (ret_ok (x := .bl true) (m1 := m) ?_)).trans rfl
  show (Res.of (pEq (fr a b) (fr a b) m) m) = _
  rw [pEq_fr]
  simp [Res.of]
end LK00
set_option maxRecDepth 100000
set_option maxHeartbeats 400000
set_option autoImplicit false
namespace LK00
open PySem PySem.Spec PyProof.Rows L2 Pv
/-! the common unit: numbers -/
def lc (v b : Int) : Int := v * b / (Int.gcd v b : Nat)
def LL (bs : List Int) (v : Int) : Int := bs.foldl lc v
def GG (cs : List Int) (v : Int) : Int := cs.foldl (fun v c => ((Int.gcd v c : Nat) : Int)) v
theorem lc_dvd_l (v b : Int) : v ∣ lc v b := by
  unfold lc
  rw [Int.mul_ediv_assoc _ (Int.gcd_dvd_right v b)]
  exact Int.dvd_mul_right _ _
theorem lc_dvd_r (v b : Int) : b ∣ lc v b := by
  unfold lc
  rw [Int.mul_comm, Int.mul_ediv_assoc _ (Int.gcd_dvd_left v b)]
  exact Int.dvd_mul_right _ _
theorem lc_pos {v b : Int} (hv : 0 < v) (hb : 0 < b) : 0 < lc v b := by
  have h1 : (0 : Int) < ((Int.gcd v b : Nat) : Int) := by
    have := gpos (t := v) (l := b) (by omega)
    omega
  have h2 : ((Int.gcd v b : Nat) : Int) ≤ b := Int.le_of_dvd hb (Int.gcd_dvd_right v b)
  have h3 : ((Int.gcd v b : Nat) : Int) ≤ v * b := Int.le_trans h2 (by
    have := Int.mul_le_mul_of_nonneg_right (show 1 ≤ v by omega) (Int.le_of_lt hb)
    omega)
  unfold lc
  exact Int.ediv_pos_of_pos_of_dvd (Int.mul_pos hv hb) (Int.le_of_lt h1) (Int.dvd_trans (Int.gcd_dvd_right v b) (Int.dvd_mul_left _ _))
theorem lc_bd {v b : Int} {j k : Nat} (hv : Bd j v) (hb : Bd k b) : Bd (j + k) (lc v b) := (hv.mul hb).le (Int.natAbs_ediv_le_natAbs _ _)
theorem LL_start : ∀ (bs : List Int) (v : Int), v ∣ LL bs v
  | [], v => Int.dvd_refl v
  | b :: bs, v => Int.dvd_trans (lc_dvd_l v b) (LL_start bs (lc v b))
theorem LL_mem : ∀ (bs : List Int) (v b : Int), b ∈ bs → b ∣ LL bs v
  | c :: bs, v, b, h => by
    rcases List.mem_cons.mp h with h | h
    · subst h
      exact Int.dvd_trans (lc_dvd_r v b) (LL_start bs (lc v b))
    · exact LL_mem bs (lc v c) b h
theorem LL_pos : ∀ (bs : List Int) (v : Int), 0 < v → (∀ b ∈ bs, 0 < b) → 0 < LL bs v
  | [], v, h, _ => h
  | b :: bs, v, h, hb => LL_pos bs (lc v b) (lc_pos h (hb b (List.mem_cons_self ..))) (fun x hx => hb x (List.mem_cons_of_mem _ hx))
theorem LL_bd : ∀ (bs : List Int) (v : Int) (k : Nat), Bd k v → (∀ b ∈ bs, Bd 4 b) → Bd (k + 4 * bs.length) (LL bs v)
  | [], v, k, h, _ => h
  | b :: bs, v, k, h, hb => by
    have := LL_bd bs (lc v b) (k + 4) (lc_bd h (hb b (List.mem_cons_self ..))) (fun x hx => hb x (List.mem_cons_of_mem _ hx))
    refine this.mono ?_
    simp
    omega
theorem GG_nonneg : ∀ (cs : List Int) (v : Int), 0 ≤ v → 0 ≤ GG cs v
  | [], v, h => h
  | c :: cs, v, h => GG_nonneg cs ((Int.gcd v c : Nat) : Int) (by omega)
theorem GG_start : ∀ (cs : List Int) (v : Int), GG cs v ∣ v
  | [], v => Int.dvd_refl v
  | c :: cs, v => Int.dvd_trans (GG_start cs _) (Int.gcd_dvd_left v c)
theorem GG_mem : ∀ (cs : List Int) (v c : Int), c ∈ cs → GG cs v ∣ c
  | d :: cs, v, c, h => by
    rcases List.mem_cons.mp h with h | h
    · subst h
      exact Int.dvd_trans (GG_start cs _) (Int.gcd_dvd_right v c)
    · exact GG_mem cs _ c h
theorem GG_scale (g : Int) (hg : 0 ≤ g) : ∀ (es : List Int) (v : Int), GG (es.map (g * ·)) (g * v) = g * GG es v
  | [], v => rfl
  | e :: es, v => by
    show GG (es.map (g * ·)) ((Int.gcd (g * v) (g * e) : Nat) : Int) = g * GG es ((Int.gcd v e : Nat) : Int)
    rw [Int.gcd_mul_left]
    have h : ((g.natAbs * Int.gcd v e : Nat) : Int) = g * ((Int.gcd v e : Nat) : Int) := by
      rw [Int.natCast_mul, Int.natAbs_of_nonneg hg]
    rw [h]
    exact GG_scale g hg es _
theorem GG_bd : ∀ (cs : List Int) (v : Int) (k : Nat), Bd k v → (∀ c ∈ cs, Bd k c ∧ c ≠ 0) → Bd k (GG cs v)
  | [], v, k, h, _ => h
  | c :: cs, v, k, h, hc => GG_bd cs _ k (gcd_bd (hc c (List.mem_cons_self ..)).2 (hc c (List.mem_cons_self ..)).1) (fun x hx => hc x (List.mem_cons_of_mem _ hx))
/-- a fraction's part in the common unit -/
def cof (L : Int) (x : Int × Int) : Int := x.1 * (L / x.2)
theorem unit_maths (xs : List (Int × Int)) (hx : xs ≠ []) (h : ∀ x ∈ xs, 0 < x.1 ∧ 0 < x.2) :
    let L := LL (xs.map (·.2)) 1
    let g := GG (xs.map (cof L)) 0
    0 < L ∧ 0 < g ∧ (∀ x ∈ xs, 0 < cof L x) ∧
      (∀ x ∈ xs, nfa (x.1 * nfb g L) (x.2 * nfa g L) = cof L x / g ∧ nfb (x.1 * nfb g L) (x.2 * nfa g L) = 1 ∧ 0 ≤ cof L x / g) ∧ GG (xs.map fun x => cof L x / g) 0 = 1 ∧ 0 < nfa g L := by
  intro L g
  have hL : 0 < L := LL_pos _ 1 (by decide) (by
    intro b hb
    obtain ⟨x, hx, rfl⟩ := List.mem_map.mp hb
    exact (h x hx).2)
  have hd : ∀ x ∈ xs, x.2 ∣ L := fun x hx => LL_mem _ 1 _ (List.mem_map.mpr ⟨x, hx, rfl⟩)
  have hq : ∀ x ∈ xs, 0 < L / x.2 := fun x hx => Int.ediv_pos_of_pos_of_dvd hL (Int.le_of_lt (h x hx).2) (hd x hx)
  have hc : ∀ x ∈ xs, 0 < cof L x := fun x hx => Int.mul_pos (h x hx).1 (hq x hx)
  have hgd : ∀ x ∈ xs, g ∣ cof L x := fun x hx => GG_mem _ 0 _ (List.mem_map.mpr ⟨x, hx, rfl⟩)
  have g0 : 0 ≤ g := GG_nonneg _ 0 (by decide)
  have hg : 0 < g := by
    obtain ⟨x, hx1⟩ : ∃ x, x ∈ xs := List.exists_mem_of_ne_nil xs hx
    have h1 := hgd x hx1
    have h2 := hc x hx1
    rcases Int.lt_or_eq_of_le g0 with z | z
    · exact z
    · rw [← z] at h1
      have := Int.zero_dvd.mp h1
      omega
  have hp : 0 < nfa g L := by
    rw [nfa_def (by omega), Int.sign_eq_one_of_pos hL, Int.one_mul]
    refine Int.ediv_pos_of_pos_of_dvd hg (by omega) (Int.gcd_dvd_left g L)
  have hqq : 0 < nfb g L := nfb_pos (by omega)
  have hcr : nfa g L * L = g * nfb g L := nf_cross (by omega)
  refine ⟨hL, hg, hc, ?_, ?_, hp⟩
  · intro x hx
    have hx2 := (h x hx).2
    have hbp : 0 < x.2 * nfa g L := Int.mul_pos hx2 hp
    have e1 : g * (cof L x / g) = cof L x := Int.mul_ediv_cancel' (hgd x hx)
    have e2 : x.2 * (L / x.2) = L := Int.mul_ediv_cancel' (hd x hx)
    have e0 : 0 < cof L x / g := Int.ediv_pos_of_pos_of_dvd (hc x hx) g0 (hgd x hx)
    have e3 : x.1 * nfb g L = cof L x / g * (x.2 * nfa g L) := by
      refine Int.eq_of_mul_eq_mul_right (Int.ne_of_gt hg) ?_
      have z1 : x.1 * nfb g L * g = x.1 * (g * nfb g L) := by ac_rfl
      have z2 : cof L x / g * (x.2 * nfa g L) * g = (g * (cof L x / g)) * x.2 * nfa g L := by ac_rfl
      have z3 : cof L x * x.2 = x.1 * L := by
        unfold cof
        rw [Int.mul_assoc, Int.mul_comm (L / x.2), e2]
      rw [z1, ← hcr, z2, e1, z3]
      ac_rfl
    have cr := nf_cross (t := x.1 * nfb g L) (l := x.2 * nfa g L) (by omega)
    have u := least_one (a := nfa (x.1 * nfb g L) (x.2 * nfa g L)) (b := nfb (x.1 * nfb g L) (x.2 * nfa g L)) (c := cof L x / g) (d := 1) (nfb_pos (by omega)) (by decide) (nf_cop (by omega)) (by simp) (by
      refine Int.eq_of_mul_eq_mul_right (Int.ne_of_gt hbp) ?_
      rw [Int.mul_one, cr, e3]
      generalize nfb (cof L x / g * (x.2 * nfa g L)) (x.2 * nfa g L) = B
      ac_rfl)
    exact ⟨u.1, u.2, Int.le_of_lt e0⟩
  · have e : xs.map (cof L) = (xs.map fun x => cof L x / g).map (g * ·) := by
      rw [List.map_map]
      refine List.map_congr_left fun x hx => ?_
      exact (Int.mul_ediv_cancel' (hgd x hx)).symm
    have s := GG_scale g g0 (xs.map fun x => cof L x / g) 0
    rw [← e, Int.mul_zero] at s
    have s2 : g * GG (xs.map fun x => cof L x / g) 0 = g * 1 := by
      rw [← s, Int.mul_one]
    exact Int.eq_of_mul_eq_mul_left (Int.ne_of_gt hg) s2
end LK00
set_option maxRecDepth 100000
set_option maxHeartbeats 400000
set_option autoImplicit false
namespace Pv
open PySem PySem.Spec PyProof.Rows L2
theorem for_step {g : GF} {b : SF} {x : PV} {r : List PV} {E E1 E2 : Ev} {m m2 : Mem} (h1 : g x E = some E1) (h2 : b E1 m = .next E2 m2) : forL g b (x :: r) E m = forL g b r E2 m2 := by
  conv => lhs; unfold forL
  rw [h1]
  simp only
  rw [h2]
theorem for_exc {g : GF} {b : SF} {x : PV} {r : List PV} {E E1 E2 : Ev} {m m2 : Mem} {c : Nat} {v : PV} (h1 : g x E = some E1) (h2 : b E1 m = .exc c v E2 m2) : forL g b (x :: r) E m = .exc c v E2 m2 := by
  conv => lhs; unfold forL
  rw [h1]
  simp only
  rw [h2]
theorem drop_ok {f : EF} {E : Ev} {m m1 : Mem} {x : PV} (h : f E m = .ok x m1) : sDrop f E m = .next E m1 := by
  unfold sDrop sE
  rw [h]
theorem drop_x {f : EF} {E : Ev} {m m1 : Mem} {c : Nat} {v : PV} (h : f E m = .exc c v m1) : sDrop f E m = .exc c v E m1 := by
  unfold sDrop sE
  rw [h]
end Pv
namespace LK00
open PySem PySem.Spec PyProof.Rows L2 Pv
abbrev frs (xs : List (Int × Int)) : List PV := xs.map fun x => fr x.1 x.2
/-- small fractions, more than nothing -/
structure Sm (x : Int × Int) : Prop where
  dr : Dr x.1 x.2
  pos : 0 < x.1
  ba : Bd 6 x.1
  bb : Bd 4 x.2
noncomputable abbrev u1 : SF := (sSet 2 (Pv.e2 pFdiv (Pv.e2 pMul (eV 2) (Pv.e2 pIx (eV 3) (eC (.int 1)))) (eF 2 F_common (aCons (eV 2) (aCons (Pv.e2 pIx (eV 3) (eC (.int 1))) (aNil))))))
noncomputable abbrev u2 : SF := (sSet 1 (eF 2 F_common (aCons (eV 1) (aCons (Pv.e2 pMul (Pv.e2 pIx (eV 3) (eC (.int 0))) (Pv.e2 pFdiv (eV 2) (Pv.e2 pIx (eV 3) (eC (.int 1))))) (aNil)))))
theorem u1_loop {x0 x1 : Option PV} {m : Mem} : ∀ (xs : List (Int × Int)) (v : Int) (k : Nat) (o3 : Option PV), (∀ x ∈ xs, Sm x) → 0 < v → Bd k v → 0 < k → k + 4 * xs.length ≤ 400 → ∃ o3', forL (gN 3) u1 (frs xs) [x0, x1, some (.int v), o3] m = .next [x0, x1, some (.int (LL (xs.map (·.2)) v)), o3'] m
  | [], v, k, o3, _, _, _, _, _ => ⟨o3, rfl⟩
  | x :: xs, v, k, o3, h, v0, vb, k0, hk => by
    have s := h x (List.mem_cons_self ..)
    simp only [List.length_cons] at hk
    obtain ⟨o3', ih⟩ := u1_loop (x0 := x0) (x1 := x1) (m := m) xs (lc v x.2) (k + 4) (some (fr x.1 x.2)) (fun y hy => h y (List.mem_cons_of_mem _ hy)) (lc_pos v0 s.dr.pos) (lc_bd vb s.bb) (by omega) (by omega)
    refine ⟨o3', ?_⟩
    have e : u1 [x0, x1, some (.int v), some (fr x.1 x.2)] m = .next [x0, x1, some (.int (lc v x.2)), some (fr x.1 x.2)] m := by
      have i1 : Pv.e2 pIx (eV 3) (eC (.int 1)) [x0, x1, some (.int v), some (fr x.1 x.2)] m = .ok (.int x.2) m := e2_ok (x := fr x.1 x.2) rfl rfl rfl
      have x2 := s.dr.pos
      have g1 : (0 : Int) < ((Int.gcd v x.2 : Nat) : Int) := by
        have := gpos (t := v) (l := x.2) (by omega)
        omega
      exact set_ok (e2_ok (e2_ok (x := .int v) rfl i1 (pMul_int (mul_ok vb s.bb (by omega) k0 (by decide)))) (eF2_ok (x := .int v) rfl i1 (common_at v x.2 m)) (pFdiv_int (div_ok g1 (gcd_bd (by omega) s.bb) (by decide) (by decide))))
    exact (for_step rfl e).trans ih
theorem u2_loop {x0 : Option PV} {L : Int} (hL : Bd 100 L) {m : Mem} : ∀ (xs : List (Int × Int)) (g : Int) (o3 : Option PV), (∀ x ∈ xs, Sm x) → ∃ o3', forL (gN 3) u2 (frs xs) [x0, some (.int g), some (.int L), o3] m = .next [x0, some (.int (GG (xs.map (cof L)) g)), some (.int L), o3'] m
  | [], g, o3, _ => ⟨o3, rfl⟩
  | x :: xs, g, o3, h => by
    have s := h x (List.mem_cons_self ..)
    obtain ⟨o3', ih⟩ := u2_loop (x0 := x0) hL (m := m) xs ((Int.gcd g (cof L x) : Nat) : Int) (some (fr x.1 x.2)) (fun y hy => h y (List.mem_cons_of_mem _ hy))
    refine ⟨o3', ?_⟩
    have e : u2 [x0, some (.int g), some (.int L), some (fr x.1 x.2)] m = .next [x0, some (.int ((Int.gcd g (cof L x) : Nat) : Int)), some (.int L), some (fr x.1 x.2)] m := by
      have i0 : Pv.e2 pIx (eV 3) (eC (.int 0)) [x0, some (.int g), some (.int L), some (fr x.1 x.2)] m = .ok (.int x.1) m := e2_ok (x := fr x.1 x.2) rfl rfl rfl
      have i1 : Pv.e2 pIx (eV 3) (eC (.int 1)) [x0, some (.int g), some (.int L), some (fr x.1 x.2)] m = .ok (.int x.2) m := e2_ok (x := fr x.1 x.2) rfl rfl rfl
      exact set_ok (eF2_ok (x := .int g) rfl (e2_ok i0 (e2_ok (x := .int L) rfl i1 (pFdiv_int (div_ok s.dr.pos s.bb (by decide) (by decide)))) (pMul_int (mul_ok s.ba (hL.le (Int.natAbs_ediv_le_natAbs _ _)) (by decide) (by decide) (by decide)))) (common_at g _ m))
    exact (for_step rfl e).trans ih
theorem unit_of_at {xs : List (Int × Int)} {m : Mem} (hx : xs ≠ []) (hl : xs.length ≤ 10) (h : ∀ x ∈ xs, Sm x) : F_unit_of [.tup (frs xs)] m = .ok (fr (nfa (GG (xs.map (cof (LL (xs.map (·.2)) 1))) 0) (LL (xs.map (·.2)) 1)) (nfb (GG (xs.map (cof (LL (xs.map (·.2)) 1))) 0) (LL (xs.map (·.2)) 1))) m := by
  obtain ⟨L0, g0, c0, -, -, -⟩ := unit_maths xs hx (fun x hx => ⟨(h x hx).pos, (h x hx).dr.pos⟩)
  have Lb : Bd 41 (LL (xs.map (·.2)) 1) := (LL_bd _ 1 1 (by unfold Bd; decide) (by
    intro b hb
    obtain ⟨x, hx, rfl⟩ := List.mem_map.mp hb
    exact (h x hx).bb)).mono (by rw [List.length_map]; omega)
  obtain ⟨o3, l1⟩ := u1_loop (x0 := some (.tup (frs xs))) (x1 := some (.int 0)) (m := m) xs 1 1 none h (by decide) (by unfold Bd; decide) (by decide) (by omega)
  obtain ⟨o3', l2⟩ := u2_loop (x0 := some (.tup (frs xs))) (L := LL (xs.map (·.2)) 1) (Lb.mono (by decide)) (m := m) xs 0 o3 h
  show outR (g_unit_of [some (.tup (frs xs)), none, none, none] m) = _
  unfold g_unit_of
  have a1 : (sAsg (eTup (aCons (eC (.int 0)) (aCons (eC (.int 1)) (aNil)))) (gT [gN 1, gN 2])) [some (.tup (frs xs)), none, none, none] m = .next [some (.tup (frs xs)), some (.int 0), some (.int 1), none] m := by
    have e : eTup (aCons (eC (.int 0)) (aCons (eC (.int 1)) (aNil))) [some (.tup (frs xs)), none, none, none] m = .ok (.tup [.int 0, .int 1]) m := tup_ok rfl (by simp)
    unfold sAsg sE
    rw [e]
    rfl
  rw [seq_n a1, seq_n ((for_n (xs := frs xs) (m1 := m) rfl).trans l1), seq_n ((for_n (xs := frs xs) (m1 := m) rfl).trans l2)]
  generalize LL (xs.map (·.2)) 1 = L at *
  generalize GG (xs.map (cof L)) 0 = g at *
  have t : (tB (Pv.e2 pGt (eV 1) (eC (.int 0)))) [some (.tup (frs xs)), some (.int g), some (.int L), o3'] m = .ok (decide (0 < g)) m := tB_ok (e2_ok rfl rfl rfl)
  have e : eF 2 F_made (aCons (eV 1) (aCons (eV 2) (aNil))) [some (.tup (frs xs)), some (.int g), some (.int L), o3'] m = .ok (fr (nfa g L) (nfb g L)) m := eF2_ok (x := .int g) (y := .int L) rfl rfl (made_at (by omega) (Lb.mono (by decide)))
  rw [ret_ok ((eif_ok t).trans (by rw [if_pos (by simpa using g0)]; exact e))]
  rfl
noncomputable abbrev u3 : SF := (sSeq (sDrop (eF 1 F_check_fraction (aCons (eV 1) (aNil)))) (sIf (tB (Pv.e2 pLt (Pv.e2 pIx (eV 1) (eC (.int 0))) (eC (.int 1)))) (sRaise 1 (eV 1)) (sPass)))
theorem u3_ok {x0 o : Option PV} {m : Mem} {a b : Int} (p : Dr a b) (h : 0 < a) : u3 [x0, some (fr a b)] m = .next [x0, some (fr a b)] m := by
  have t : (tB (Pv.e2 pLt (Pv.e2 pIx (eV 1) (eC (.int 0))) (eC (.int 1)))) [x0, some (fr a b)] m = .ok (decide (a < 1)) m := tB_ok (e2_ok (e2_ok (x := fr a b) rfl rfl rfl) rfl rfl)
  refine (seq_n (drop_ok (eF1_ok (x := fr a b) rfl (check_ok p.fc.is)))).trans ?_
  rw [if_ok t, if_neg (by simp; omega)]
  rfl
theorem u3_loop {x0 : Option PV} {m : Mem} {tail : List PV} : ∀ (xs : List (Int × Int)) (o : Option PV), (∀ x ∈ xs, Sm x) → ∃ o', forL (gN 1) u3 (frs xs ++ tail) [x0, o] m = forL (gN 1) u3 tail [x0, o'] m
  | [], o, _ => ⟨o, rfl⟩
  | x :: xs, o, h => by
    have s := h x (List.mem_cons_self ..)
    obtain ⟨o', ih⟩ := u3_loop (x0 := x0) (m := m) (tail := tail) xs (some (fr x.1 x.2)) (fun y hy => h y (List.mem_cons_of_mem _ hy))
    exact ⟨o', (for_step rfl (u3_ok (o := o) s.dr s.pos)).trans ih⟩
theorem tup_q {xs : List PV} {o : Option PV} {m : Mem} (h1 : 1 ≤ xs.length) (h2 : xs.length ≤ 100) : (sIf (tNotF (tV (eF 3 F_is_tuple (aCons (eV 0) (aCons (eC (.int 1)) (aCons (eC (.int 100)) (aNil))))))) (sRaise 1 (eV 0)) (sPass)) [some (.tup xs), o] m = .next [some (.tup xs), o] m := by
  have e : eF 3 F_is_tuple (aCons (eV 0) (aCons (eC (.int 1)) (aCons (eC (.int 100)) (aNil)))) [some (.tup xs), o] m = .ok (.bl true) m := by
    have e0 := is_tuple_at xs 1 100 m
    rw [decide_eq_true (show (1 : Int) ≤ xs.length by omega), decide_eq_true (show ((xs.length : Nat) : Int) ≤ 100 by omega)] at e0
    exact e0
  rw [if_ok (not_ok (tV_ok e))]
  rfl
theorem unit_at {xs : List (Int × Int)} {m : Mem} (hx : xs ≠ []) (hl : xs.length ≤ 10) (h : ∀ x ∈ xs, Sm x) : F_unit [.tup (frs xs)] m = .ok (fr (nfa (GG (xs.map (cof (LL (xs.map (·.2)) 1))) 0) (LL (xs.map (·.2)) 1)) (nfb (GG (xs.map (cof (LL (xs.map (·.2)) 1))) 0) (LL (xs.map (·.2)) 1))) m := by
  have n1 : 1 ≤ (frs xs).length := by
    rw [List.length_map]
    exact Nat.pos_of_ne_zero fun z => hx (List.length_eq_zero_iff.mp z)
  obtain ⟨o', lp⟩ := u3_loop (x0 := some (.tup (frs xs))) (m := m) (tail := []) xs none h
  rw [List.append_nil] at lp
  show outR (g_unit [some (.tup (frs xs)), none] m) = _
  unfold g_unit
  rw [seq_n (tup_q n1 (by rw [List.length_map]; omega)), seq_n ((for_n (xs := frs xs) (m1 := m) rfl).trans lp), ret_ok (eF1_ok (x := .tup (frs xs)) rfl (unit_of_at hx hl h))]
  rfl
theorem unit_bad {xs : List (Int × Int)} {x : PV} {m : Mem} (hl : xs.length ≤ 10) (h : ∀ x ∈ xs, Sm x) (hb : ∀ x0, ∃ E2, u3 [x0, some x] m = .exc 1 x E2 m) : F_unit [.tup (frs xs ++ [x])] m = .exc 1 x m := by
  obtain ⟨o', lp⟩ := u3_loop (x0 := some (.tup (frs xs ++ [x]))) (m := m) (tail := [x]) xs none h
  obtain ⟨E2, he⟩ := hb (some (.tup (frs xs ++ [x])))
  show outR (g_unit [some (.tup (frs xs ++ [x])), none] m) = _
  unfold g_unit
  rw [seq_n (tup_q (by simp) (by simp; omega)), seq_x ((for_n (xs := frs xs ++ [x]) (m1 := m) rfl).trans (lp.trans (for_exc rfl he)))]
  rfl
theorem unit_none {m : Mem} : F_unit [.tup []] m = .exc 1 (.tup []) m := by
  simp [F_unit, g_unit, bodyF, slotsOf, sSeq, sIf, sE, Pv.tB, tV, tNotF, tAndF, tOrF, pTru, e3, thenB, Pv.e2, Pv.e1, eN, eF, eV, eC, eAnd, eOr, eNot, eIf, aCons, aNil, eTup, eLst, eLstOf, sPar, sSet, sRet, sPass, sDrop, sAsg, sRaise, gN, gT, gTs, setAll, isOwn, Res.bind, Res.of, outR, eSl, oSome, oNone, pCut, pIx, seqP, pIsi, tyP, pLt, pLe, pGt, pGe, pCmp, pNeg, pAdd, pSub, pNe_int, pEq_int, pNe_fr, pEq_fr, pLen, pAbs, pInt1, okD_int, fits0, fits1, fits2, fits3, fits4, atI_c0, atI_c1, atI_c2, is_tuple_at]
theorem u3_low {x0 : Option PV} {m : Mem} {a b : Int} (p : Dr a b) (h : a < 1) : u3 [x0, some (fr a b)] m = .exc 1 (fr a b) [x0, some (fr a b)] m := by
  have t : (tB (Pv.e2 pLt (Pv.e2 pIx (eV 1) (eC (.int 0))) (eC (.int 1)))) [x0, some (fr a b)] m = .ok (decide (a < 1)) m := tB_ok (e2_ok (e2_ok (x := fr a b) rfl rfl rfl) rfl rfl)
  refine (seq_n (drop_ok (eF1_ok (x := fr a b) rfl (check_ok p.fc.is)))).trans ?_
  rw [if_ok t, if_pos (by simpa using h)]
  rfl
theorem u3_nofr {x0 : Option PV} {m : Mem} {a b : Int} (h : isFr 10000000000000000000000000000000000000000 a b = false) : u3 [x0, some (fr a b)] m = .exc 1 (fr a b) [x0, some (fr a b)] m := by
  have e := is_fraction_to_at a b 10000000000000000000000000000000000000000 m
  rw [h] at e
  exact seq_x (drop_x (eF1_ok (x := fr a b) rfl (check_bad rfl e)))
end LK00
set_option maxRecDepth 100000
set_option maxHeartbeats 400000
set_option autoImplicit false
namespace LK00
open PySem PySem.Spec PyProof.Rows L2 Pv
theorem PotAt.mono {j k : Nat} {m : Mem} {n : Nat} (P : PotAt j m n) (h : j ≤ k) : PotAt k m n := by
  obtain ⟨a, b, c, y1, y2, y3, y4, y5, y6, y7⟩ := P.ex
  exact ⟨a, b, c, y1, y2, y3, y4, y5, y6, by omega⟩
theorem sm_nf {t l : Int} (t0 : 0 < t) (t1 : t ≤ 30) (l0 : 0 < l) (l1 : l ≤ 9) : Sm (nfa t l, nfb t l) := by
  have tb : Bd 6 t := bd_lt (by omega) (by omega)
  have lb : Bd 4 l := bd_lt (by omega) (by omega)
  have h0 : l ≠ 0 := by omega
  refine ⟨nf_dr l0 (tb.mono (by decide)) (lb.mono (by decide)), ?_, nfa_bd h0 tb, nfb_bd h0 lb⟩
  show 0 < nfa t l
  rw [nfa_def h0, Int.sign_eq_one_of_pos l0, Int.one_mul]
  exact Int.ediv_pos_of_pos_of_dvd t0 (by omega) (Int.gcd_dvd_left t l)
noncomputable abbrev dF : EF := (eF 2 F_law_made (aCons (Pv.e2 pAdd (eC (.int 1)) (eN pInt1 (aCons (eF 2 F_law_take (aCons (eV 0) (aCons (eC (.int 30)) (aNil)))) (aNil)))) (aCons (Pv.e2 pAdd (eC (.int 1)) (eN pInt1 (aCons (eF 2 F_law_take (aCons (eV 0) (aCons (eC (.int 9)) (aNil)))) (aNil)))) (aNil))))
theorem dF_at {n : Nat} {x1 x2 x3 x4 x5 x6 x7 x8 x9 : Option PV} {k : Nat} {m : Mem} (P : PotAt k m n) (hk : k ≤ 980) : ∃ y m', dF [some (.ref n), x1, x2, x3, x4, x5, x6, x7, x8, x9] m = .ok (fr y.1 y.2) m' ∧ Sm y ∧ PotAt (k + 2) m' n ∧ m'.length = m.length := by
  obtain ⟨a, m1, e1, a0, a1, P1, l1⟩ := take_at (u := 30) P (by omega) (by decide) (by unfold Bd; decide)
  obtain ⟨b, m2, e2', b0, b1, P2, l2⟩ := take_at (u := 9) P1 (by omega) (by decide) (by unfold Bd; decide)
  refine ⟨(nfa (1 + a) (1 + b), nfb (1 + a) (1 + b)), m2, ?_, sm_nf (by omega) (by omega) (by omega) (by omega), P2, by omega⟩
  exact eF2_ok (e2_ok (x := .int 1) rfl (eN1_ok (eF2_ok (x := .ref n) (y := .int 30) rfl rfl e1) rfl) rfl) (e2_ok (x := .int 1) rfl (eN1_ok (eF2_ok (x := .ref n) (y := .int 9) rfl rfl e2') rfl) rfl) (lmade_at (by omega) (bd_lt (by omega) (by omega)) (bd_lt (by omega) (by omega)))
theorem d_comp {n : Nat} {x1 x2 x4 x5 x6 x7 x8 x9 : Option PV} : ∀ (rs : List PV) (acc : List (Int × Int)) (x3 : Option PV) (k : Nat) (m : Mem), PotAt k m n → k + 2 * rs.length ≤ 980 → acc.length + rs.length ≤ 100 → (∀ x ∈ acc, Sm x) → ∃ ys m', compL (gN 3) tYesF dF rs (frs acc) [some (.ref n), x1, x2, x3, x4, x5, x6, x7, x8, x9] m = .ok (frs ys) m' ∧ (∀ x ∈ ys, Sm x) ∧ ys.length = acc.length + rs.length ∧ PotAt (k + 2 * rs.length) m' n ∧ m'.length = m.length
  | [], acc, x3, k, m, P, _, _, h => ⟨acc, m, rfl, h, rfl, P, rfl⟩
  | r :: rs, acc, x3, k, m, P, hk, hl, h => by
    simp only [List.length_cons] at hk hl
    obtain ⟨y, m1, e1, s1, P1, l1⟩ := dF_at (x1 := x1) (x2 := x2) (x3 := some r) (x4 := x4) (x5 := x5) (x6 := x6) (x7 := x7) (x8 := x8) (x9 := x9) P (by omega)
    obtain ⟨ys, m2, e2', s2, n2, P2, l2⟩ := d_comp (x1 := x1) (x2 := x2) (x4 := x4) (x5 := x5) (x6 := x6) (x7 := x7) (x8 := x8) (x9 := x9) rs (acc ++ [y]) x3 (k + 2) m1 P1 (by omega) (by simp; omega) (by
      intro x hx
      rcases List.mem_append.mp hx with z | z
      · exact h x z
      · simp at z
        subst z
        exact s1)
    refine ⟨ys, m2, ?_, s2, by rw [n2]; simp; omega, P2.mono (by simp only [List.length_cons]; omega), by omega⟩
    have hf : (frs acc).length < sizeLine := by
      rw [List.length_map]
      exact Nat.lt_of_lt_of_le (show acc.length < 101 by omega) (fits (by decide))
    have hg : gN 3 r [some (.ref n), x1, x2, x3, x4, x5, x6, x7, x8, x9] = some [some (.ref n), x1, x2, some r, x4, x5, x6, x7, x8, x9] := rfl
    simp only [compL]
    rw [hg]
    simp only [tYesF, Res.bindB, if_true]
    rw [e1]
    simp only
    rw [if_pos hf]
    have ea : frs acc ++ [fr y.1 y.2] = frs (acc ++ [y]) := by simp [frs]
    rw [ea]
    exact e2'
noncomputable abbrev gL : SF := (sSet 7 (eF 2 F_law_gcd (aCons (eV 7) (aCons (Pv.e2 pIx (eV 6) (eC (.int 0))) (aNil)))))
theorem gl_loop {x0 x1 x2 x3 x4 x5 x8 x9 : Option PV} {m : Mem} : ∀ (es : List Int) (v : Int) (o6 : Option PV), 0 ≤ v → (∀ e ∈ es, 0 ≤ e ∧ Bd 400 e) → ∃ o6', forL (gN 6) gL (es.map fun e => fr e 1) [x0, x1, x2, x3, x4, x5, o6, some (.int v), x8, x9] m = .next [x0, x1, x2, x3, x4, x5, o6', some (.int (GG es v)), x8, x9] m
  | [], v, o6, _, _ => ⟨o6, rfl⟩
  | e :: es, v, o6, v0, h => by
    obtain ⟨h1, h2⟩ := h e (List.mem_cons_self ..)
    obtain ⟨o6', ih⟩ := gl_loop (x0 := x0) (x1 := x1) (x2 := x2) (x3 := x3) (x4 := x4) (x5 := x5) (x8 := x8) (x9 := x9) (m := m) es ((Int.gcd v e : Nat) : Int) (some (fr e 1)) (by omega) (fun y hy => h y (List.mem_cons_of_mem _ hy))
    refine ⟨o6', ?_⟩
    have q : gL [x0, x1, x2, x3, x4, x5, some (fr e 1), some (.int v), x8, x9] m = .next [x0, x1, x2, x3, x4, x5, some (fr e 1), some (.int ((Int.gcd v e : Nat) : Int)), x8, x9] m :=
      set_ok (eF2_ok (x := .int v) rfl (e2_ok (x := fr e 1) (z := .int e) rfl rfl rfl) (lgcd_at v0 h1 (h2.mono (by decide))))
    exact (for_step rfl q).trans ih
noncomputable abbrev vB : SF := (sSeq (sSet 9 (Pv.e2 pIx (eHeard (eF 1 F_unit (aCons (eV 8) (aNil)))) (eC (.int 0)))) (sIf (tOrF (tNotF (tV (Pv.e1 (pIsX 1) (eV 9)))) (tB (Pv.e2 pNe (Pv.e1 pVal (eV 9)) (Pv.e2 pIx (eV 8) (Pv.e1 pNeg (eC (.int 1))))))) (sRet (eC (.bl false))) (sPass)))
theorem vB_at {x0 x1 x2 x3 x4 x5 x6 x7 o9 : Option PV} {m : Mem} {xs : List (Int × Int)} {a b : Int} (hl : xs.length ≤ 10) (h : ∀ x ∈ xs, Sm x) (hb : ∀ x0, ∃ E2, u3 [x0, some (fr a b)] m = .exc 1 (fr a b) E2 m) : vB [x0, x1, x2, x3, x4, x5, x6, x7, some (.tup (frs xs ++ [fr a b])), o9] m = .next [x0, x1, x2, x3, x4, x5, x6, x7, some (.tup (frs xs ++ [fr a b])), some (.exc 1 (fr a b))] m := by
  have e := unit_bad (m := m) hl h hb
  refine (seq_n (set_ok (heard_exc (eF1_ok (x := .tup (frs xs ++ [fr a b])) rfl e)))).trans ?_
  show sIf _ _ _ [x0, x1, x2, x3, x4, x5, x6, x7, some (.tup (frs xs ++ [fr a b])), some (.exc 1 (fr a b))] m = _
  have t1 : tNotF (tV (Pv.e1 (pIsX 1) (eV 9))) [x0, x1, x2, x3, x4, x5, x6, x7, some (.tup (frs xs ++ [fr a b])), some (.exc 1 (fr a b))] m = .ok false m := not_ok (a := true) (tV_ok rfl)
  have ix : pIx (.tup (frs xs ++ [fr a b])) (.int (-1)) m = some (fr a b) := by
    show atI (frs xs ++ [fr a b]) (-1) = _
    unfold atI ixN
    rw [if_neg (by omega), if_pos (by simp; omega)]
    have e := List.getElem?_concat_length (l := frs xs) (a := fr a b)
    rw [List.length_map] at e
    simp
    rw [show (-1 + ((xs.length : Int) + 1)).toNat = xs.length by omega]
    exact e
  have t2 : tB (Pv.e2 pNe (Pv.e1 pVal (eV 9)) (Pv.e2 pIx (eV 8) (Pv.e1 pNeg (eC (.int 1))))) [x0, x1, x2, x3, x4, x5, x6, x7, some (.tup (frs xs ++ [fr a b])), some (.exc 1 (fr a b))] m = .ok false m := by
    refine tB_ok (e2_ok (x := fr a b) rfl (e2_ok (x := .tup (frs xs ++ [fr a b])) (y := .int (-1)) rfl rfl ix) ((pNe_fr ..).trans ?_))
    simp
  rw [if_ok (or_ok t1 t2)]
  rfl
end LK00
set_option maxRecDepth 100000
set_option maxHeartbeats 400000
set_option autoImplicit false
namespace LK00
open PySem PySem.Spec PyProof.Rows L2 Pv
theorem no_any {x0 x1 x2 x3 x4 x6 x7 x8 x9 : Option PV} {m : Mem} (es : List Int) (hl : es.length ≤ 100) : tV (eN pAny (aCons (eLstOf (eComp (iV (eV 5)) (gN 6) (tYesF) (Pv.e2 pNe (Pv.e2 pIx (eV 6) (eC (.int 1))) (eC (.int 1))) [6])) (aNil))) [x0, x1, x2, x3, x4, some (.lst (es.map fun e => fr e 1)), x6, x7, x8, x9] m = .ok false m := by
  have c := comp_map (g := gN 6) (f := Pv.e2 pNe (Pv.e2 pIx (eV 6) (eC (.int 1))) (eC (.int 1))) (E := [x0, x1, x2, x3, x4, some (.lst (es.map fun e => fr e 1)), none, x7, x8, x9]) (m := m) (φ := fun _ => .bl false) (es.map fun e => fr e 1) [] (by
    intro x hx
    obtain ⟨e, _, rfl⟩ := List.mem_map.mp hx
    exact ⟨_, rfl, e2_ok (e2_ok (x := fr e 1) (z := .int 1) rfl rfl rfl) rfl rfl⟩) (by simp; exact fits (by omega))
  have q : eLstOf (eComp (iV (eV 5)) (gN 6) (tYesF) (Pv.e2 pNe (Pv.e2 pIx (eV 6) (eC (.int 1))) (eC (.int 1))) [6]) [x0, x1, x2, x3, x4, some (.lst (es.map fun e => fr e 1)), x6, x7, x8, x9] m = .ok (.lst ((es.map fun _ => false).map .bl)) m := by
    show (compL (gN 6) tYesF (Pv.e2 pNe (Pv.e2 pIx (eV 6) (eC (.int 1))) (eC (.int 1))) (es.map fun e => fr e 1) [] [x0, x1, x2, x3, x4, some (.lst (es.map fun e => fr e 1)), none, x7, x8, x9] m).bind _ = _
    rw [c, Res.bind_ok]
    simp [Function.comp_def]
  refine tV_ok (eN1_ok q ?_)
  simp only [pAny, lstP, Option.bind, blsP_map]
  simp
theorem unit_right {k : Nat} {m : Mem} {n : Nat} (P : PotAt k m n) (hk : k ≤ 960) : ∃ m', F_law_is_unit_right [.ref n] m = .ok (.bl true) m' ∧ PotAt (k + 11) m' n ∧ m'.length = m.length := by
  obtain ⟨d, m1, e1, d0, d1, P1, l1⟩ := take_at (u := 5) P (by omega) (by decide) (by unfold Bd; decide)
  have hr : (rangeV 0 (1 + d.toNat)).length = 1 + d.toNat := by simp [rangeV]
  obtain ⟨xs, m2, e2', sx, nx, P2, l2⟩ := d_comp (n := n) (x1 := some (.int (1 + d))) (x2 := none) (x4 := none) (x5 := none) (x6 := none) (x7 := none) (x8 := none) (x9 := none) (rangeV 0 (1 + d.toNat)) [] none (k + 1) m1 P1 (by rw [hr]; omega) (by rw [hr]; simp; omega) (fun x hx => by simp at hx)
  rw [hr] at nx P2
  simp only [List.length_nil, Nat.zero_add] at nx
  have xne : xs ≠ [] := fun z => by rw [z] at nx; simp at nx; omega
  have xl : xs.length ≤ 10 := by omega
  refine ⟨m2, ?_, P2.mono (by omega), by omega⟩
  show outR (g_law_is_unit_right [some (.ref n), none, none, none, none, none, none, none, none, none] m) = _
  unfold g_law_is_unit_right
  rw [seq_n (set_ok (e2_ok (x := .int 1) (y := .int d) (z := .int (1 + d)) rfl (eF2_ok (x := .ref n) (y := .int 5) rfl rfl e1) rfl))]
  show outR (sSeq _ _ [some (.ref n), some (.int (1 + d)), none, none, none, none, none, none, none, none] m1) = _
  have c2 : (eN pTup1 (aCons (eLstOf (eComp (iR pRange1 (aCons (eV 1) (aNil))) (gN 3) (tYesF) dF [3])) (aNil))) [some (.ref n), some (.int (1 + d)), none, none, none, none, none, none, none, none] m1 = .ok (.tup (frs xs)) m2 := by
    have r : iR pRange1 (aCons (eV 1) (aNil)) [some (.ref n), some (.int (1 + d)), none, none, none, none, none, none, none, none] m1 = .ok (rangeV 0 (1 + d.toNat)) m1 := by
      have b : Pv.inR (1 + d) = true := by
        unfold Pv.inR
        rw [Bool.and_eq_true]
        exact ⟨decide_eq_true (by omega), decide_eq_true (by omega)⟩
      show Res.of (pRange1 [.int (1 + d)]) m1 = _
      simp only [pRange1]
      rw [if_pos b, show (1 + d).toNat = 1 + d.toNat by omega]
      rfl
    have q : eLstOf (eComp (iR pRange1 (aCons (eV 1) (aNil))) (gN 3) (tYesF) dF [3]) [some (.ref n), some (.int (1 + d)), none, none, none, none, none, none, none, none] m1 = .ok (.lst (frs xs)) m2 := by
      unfold eLstOf eComp
      rw [r, Res.bind_ok]
      refine (congrArg (fun z => Res.bind z _) e2').trans ?_
      rfl
    exact eN1_ok q rfl
  rw [seq_n (set_ok c2)]
  show outR (sSeq _ _ [some (.ref n), some (.int (1 + d)), some (.tup (frs xs)), none, none, none, none, none, none, none] m2) = _
  have mth := unit_maths xs xne (fun x hx => ⟨(sx x hx).pos, (sx x hx).dr.pos⟩)
  have un := unit_at (m := m2) xne xl sx
  have Lb : Bd 41 (LL (xs.map (·.2)) 1) := (LL_bd _ 1 1 (by unfold Bd; decide) (by
    intro b hb
    obtain ⟨x, hx, rfl⟩ := List.mem_map.mp hb
    exact (sx x hx).bb)).mono (by rw [List.length_map]; omega)
  dsimp only at mth
  generalize LL (xs.map (·.2)) 1 = L at *
  obtain ⟨L0, g0, c0, hq, hG, p0⟩ := mth
  have cb : ∀ x ∈ xs, Bd 47 (cof L x) := fun x hx => (sx x hx).ba.mul (Lb.le (Int.natAbs_ediv_le_natAbs _ _))
  have gb : Bd 47 (GG (xs.map (cof L)) 0) := GG_bd _ 0 47 (by unfold Bd; decide) (by
    intro c hc
    obtain ⟨x, hx, rfl⟩ := List.mem_map.mp hc
    have := c0 x hx
    exact ⟨cb x hx, by omega⟩)
  generalize GG (xs.map (cof L)) 0 = g at *
  have pb : Bd 47 (nfa g L) := nfa_bd (by omega) gb
  have qb : Bd 41 (nfb g L) := nfb_bd (by omega) Lb
  have q0 : 0 < nfb g L := nfb_pos (by omega)
  rw [seq_n (set_ok (eF1_ok (x := .tup (frs xs)) rfl un))]
  generalize nfa g L = p at *
  generalize nfb g L = q at *
  show outR (sSeq _ _ [some (.ref n), some (.int (1 + d)), some (.tup (frs xs)), none, some (fr p q), none, none, none, none, none] m2) = _
  have c3 : (sOwn 5 (eComp (iV (eV 2)) (gN 6) (tYesF) (eF 2 F_law_over (aCons (eV 6) (aCons (eV 4) (aNil)))) [6])) [some (.ref n), some (.int (1 + d)), some (.tup (frs xs)), none, some (fr p q), none, none, none, none, none] m2 = .next [some (.ref n), some (.int (1 + d)), some (.tup (frs xs)), none, some (fr p q), some (.own ((xs.map fun x => cof L x / g).map fun e => fr e 1)), none, none, none, none] m2 := by
    have c : ∀ (zs acc : List (Int × Int)), (∀ x ∈ zs, x ∈ xs) → acc.length + zs.length ≤ 100 → compL (gN 6) tYesF (eF 2 F_law_over (aCons (eV 6) (aCons (eV 4) (aNil)))) (frs zs) (acc.map fun x => fr (cof L x / g) 1) [some (.ref n), some (.int (1 + d)), some (.tup (frs xs)), none, some (fr p q), none, none, none, none, none] m2 = .ok ((acc ++ zs).map fun x => fr (cof L x / g) 1) m2 := by
      intro zs
      induction zs with
      | nil => intro acc _ _; simp [compL]
      | cons z zs ih =>
        intro acc hz hl
        have zx := hz z (List.mem_cons_self ..)
        have sz := sx z zx
        obtain ⟨f1, f2, -⟩ := hq z zx
        have z2 := sz.dr.pos
        have e := lover_at (a := z.1) (b := z.2) (c := p) (d := q) (m := m2) (sz.ba.mono (by decide)) (sz.bb.mono (by decide)) (pb.mono (by decide)) (qb.mono (by decide)) (Int.mul_ne_zero (by omega) (by omega))
        rw [f1, f2] at e
        have hg : gN 6 (fr z.1 z.2) [some (.ref n), some (.int (1 + d)), some (.tup (frs xs)), none, some (fr p q), none, none, none, none, none] = some [some (.ref n), some (.int (1 + d)), some (.tup (frs xs)), none, some (fr p q), none, some (fr z.1 z.2), none, none, none] := rfl
        have hf : (acc.map fun x => fr (cof L x / g) 1).length < sizeLine := by
          rw [List.length_map]
          simp only [List.length_cons] at hl
          exact Nat.lt_of_lt_of_le (show acc.length < 101 by omega) (fits (by decide))
        have ef : (eF 2 F_law_over (aCons (eV 6) (aCons (eV 4) (aNil)))) [some (.ref n), some (.int (1 + d)), some (.tup (frs xs)), none, some (fr p q), none, some (fr z.1 z.2), none, none, none] m2 = .ok (fr (cof L z / g) 1) m2 := eF2_ok (x := fr z.1 z.2) (y := fr p q) rfl rfl e
        show compL (gN 6) tYesF _ (fr z.1 z.2 :: frs zs) _ _ _ = _
        simp only [compL]
        rw [hg]
        simp only [tYesF, Res.bindB, if_true]
        rw [ef]
        simp only
        rw [if_pos hf]
        have ih' := ih (acc ++ [z]) (fun x hx => hz x (List.mem_cons_of_mem _ hx)) (by simp at hl ⊢; omega)
        rw [List.map_append] at ih'
        refine Eq.trans ih' ?_
        simp
    have c' := c xs [] (fun x h => h) (by simp; omega)
    have e : eComp (iV (eV 2)) (gN 6) (tYesF) (eF 2 F_law_over (aCons (eV 6) (aCons (eV 4) (aNil)))) [6] [some (.ref n), some (.int (1 + d)), some (.tup (frs xs)), none, some (fr p q), none, none, none, none, none] m2 = .ok ((xs.map fun x => cof L x / g).map fun e => fr e 1) m2 := by
      refine Eq.trans c' ?_
      simp [List.map_map, Function.comp_def]
    unfold sOwn sE
    rw [e]
    rfl
  rw [seq_n c3]
  have he : ∀ e ∈ xs.map (fun x => cof L x / g), 0 ≤ e ∧ Bd 400 e := by
    intro e he
    obtain ⟨x, hx, rfl⟩ := List.mem_map.mp he
    exact ⟨(hq x hx).2.2, ((cb x hx).le (Int.natAbs_ediv_le_natAbs _ _)).mono (by decide)⟩
  have hel : (xs.map (fun x => cof L x / g)).length ≤ 100 := by rw [List.length_map]; omega
  generalize xs.map (fun x => cof L x / g) = es at *
  have c4 : (sFrz 5 (sIf (tOrF (tV (eN pAny (aCons (eLstOf (eComp (iV (eV 5)) (gN 6) (tYesF) (Pv.e2 pNe (Pv.e2 pIx (eV 6) (eC (.int 1))) (eC (.int 1))) [6])) (aNil)))) (tB (Pv.e2 pLt (Pv.e2 pIx (eV 4) (eC (.int 0))) (eC (.int 1))))) (sRet (eC (.bl false))) (sPass))) [some (.ref n), some (.int (1 + d)), some (.tup (frs xs)), none, some (fr p q), some (.own (es.map fun e => fr e 1)), none, none, none, none] m2 = .next [some (.ref n), some (.int (1 + d)), some (.tup (frs xs)), none, some (fr p q), some (.lst (es.map fun e => fr e 1)), none, none, none, none] m2 := by
    show sIf _ _ _ [some (.ref n), some (.int (1 + d)), some (.tup (frs xs)), none, some (fr p q), some (.lst (es.map fun e => fr e 1)), none, none, none, none] m2 = _
    have t2 : (tB (Pv.e2 pLt (Pv.e2 pIx (eV 4) (eC (.int 0))) (eC (.int 1)))) [some (.ref n), some (.int (1 + d)), some (.tup (frs xs)), none, some (fr p q), some (.lst (es.map fun e => fr e 1)), none, none, none, none] m2 = .ok false m2 := by
      refine tB_ok (e2_ok (e2_ok (x := fr p q) (z := .int p) rfl rfl rfl) rfl ?_)
      show some (PV.bl (decide (p < 1))) = _
      rw [decide_eq_false (by omega)]
    rw [if_ok (or_ok (no_any es hel) t2)]
    rfl
  rw [seq_n c4]
  rw [seq_n (set_ok (x := .int 0) (m1 := m2) rfl)]
  show outR (sSeq _ _ [some (.ref n), some (.int (1 + d)), some (.tup (frs xs)), none, some (fr p q), some (.lst (es.map fun e => fr e 1)), none, some (.int 0), none, none] m2) = _
  obtain ⟨o6, lp⟩ := gl_loop (x0 := some (.ref n)) (x1 := some (.int (1 + d))) (x2 := some (.tup (frs xs))) (x3 := none) (x4 := some (fr p q)) (x5 := some (.lst (es.map fun e => fr e 1))) (x8 := none) (x9 := none) (m := m2) es 0 none (by decide) he
  rw [hG] at lp
  rw [seq_n ((for_n (xs := es.map fun e => fr e 1) (m1 := m2) rfl).trans lp)]
  have c5 : (sIf (tB (Pv.e2 pNe (eV 7) (eC (.int 1)))) (sRet (eC (.bl false))) (sPass)) [some (.ref n), some (.int (1 + d)), some (.tup (frs xs)), none, some (fr p q), some (.lst (es.map fun e => fr e 1)), o6, some (.int 1), none, none] m2 = .next [some (.ref n), some (.int (1 + d)), some (.tup (frs xs)), none, some (fr p q), some (.lst (es.map fun e => fr e 1)), o6, some (.int 1), none, none] m2 := by
    have t : (tB (Pv.e2 pNe (eV 7) (eC (.int 1)))) [some (.ref n), some (.int (1 + d)), some (.tup (frs xs)), none, some (fr p q), some (.lst (es.map fun e => fr e 1)), o6, some (.int 1), none, none] m2 = .ok false m2 := tB_ok (e2_ok rfl rfl (pNe_int _ _ _))
    rw [if_ok t]
    rfl
  rw [seq_n c5]
  have ap : ∀ a b : Int, pAdd (.tup (frs xs)) (.tup [fr a b]) m2 = some (.tup (frs xs ++ [fr a b])) := fun a b => by
    simp only [pAdd]
    rw [if_pos]
    exact fits (by simp; omega)
  have tp : ∀ {f f' : EF} {a b : Int} {E : Ev}, f E m2 = .ok (.int a) m2 → f' E m2 = .ok (.int b) m2 → E[2]? = some (some (.tup (frs xs))) → Pv.e2 pAdd (eV 2) (eTup (aCons (eTup (aCons f (aCons f' (aNil)))) (aNil))) E m2 = .ok (.tup (frs xs ++ [fr a b])) m2 := fun {f f' a b E} h1 h2 h3 => by
    have v : eV 2 E m2 = .ok (.tup (frs xs)) m2 := by
      unfold eV
      rw [h3]
      rfl
    exact e2_ok v (tup_ok (xs := [fr a b]) (cons_ok (tup_ok (cons_ok h1 (cons_ok h2 rfl)) (by simp)) rfl) (by simp)) (ap a b)
  have D1 : Dr 0 1 := ⟨by unfold Bd; decide, by unfold Bd; decide, by decide, by decide⟩
  have D2 : Dr (-1) 2 := ⟨by unfold Bd; decide, by unfold Bd; decide, by decide, by decide⟩
  have b1 := vB_at (x0 := some (.ref n)) (x1 := some (.int (1 + d))) (x2 := some (.tup (frs xs))) (x3 := none) (x4 := some (fr p q)) (x5 := some (.lst (es.map fun e => fr e 1))) (x6 := o6) (x7 := some (.int 1)) (o9 := none) (m := m2) (a := 0) (b := 1) xl sx (fun x0 => ⟨_, u3_low D1 (by decide)⟩)
  have b2 := vB_at (x0 := some (.ref n)) (x1 := some (.int (1 + d))) (x2 := some (.tup (frs xs))) (x3 := none) (x4 := some (fr p q)) (x5 := some (.lst (es.map fun e => fr e 1))) (x6 := o6) (x7 := some (.int 1)) (o9 := some (.exc 1 (fr 0 1))) (m := m2) (a := -1) (b := 2) xl sx (fun x0 => ⟨_, u3_low D2 (by decide)⟩)
  have b3 := vB_at (x0 := some (.ref n)) (x1 := some (.int (1 + d))) (x2 := some (.tup (frs xs))) (x3 := none) (x4 := some (fr p q)) (x5 := some (.lst (es.map fun e => fr e 1))) (x6 := o6) (x7 := some (.int 1)) (o9 := some (.exc 1 (fr (-1) 2))) (m := m2) (a := 2) (b := 4) xl sx (fun x0 => ⟨_, u3_nofr (by decide +kernel)⟩)
  have lp3 : forL (gN 8) vB [.tup (frs xs ++ [fr 0 1]), .tup (frs xs ++ [fr (-1) 2]), .tup (frs xs ++ [fr 2 4])] [some (.ref n), some (.int (1 + d)), some (.tup (frs xs)), none, some (fr p q), some (.lst (es.map fun e => fr e 1)), o6, some (.int 1), none, none] m2 = .next [some (.ref n), some (.int (1 + d)), some (.tup (frs xs)), none, some (fr p q), some (.lst (es.map fun e => fr e 1)), o6, some (.int 1), some (.tup (frs xs ++ [fr 2 4])), some (.exc 1 (fr 2 4))] m2 :=
    (for_step rfl b1).trans ((for_step rfl b2).trans ((for_step rfl b3).trans rfl))
  rw [seq_n ((for_n (xs := [.tup (frs xs ++ [fr 0 1]), .tup (frs xs ++ [fr (-1) 2]), .tup (frs xs ++ [fr 2 4])]) (m1 := m2) (by
    unfold iV
    rw [tup_ok (cons_ok (tp rfl rfl rfl) (cons_ok (tp rfl rfl rfl) (cons_ok (tp rfl rfl rfl) rfl))) (by simp)]
    rfl)).trans lp3)]
  rw [seq_n (set_ok (heard_exc (eF1_ok (x := .tup []) rfl unit_none)))]
  rfl
end LK00
set_option maxRecDepth 100000
set_option maxHeartbeats 400000
set_option autoImplicit false
namespace LK00
open PySem PySem.Spec PyProof.Rows L2 Pv
def badV : List PV := [fr 1 0, fr 1 (-2), .tup [.bl true, .int 1], .tup [.int 1, .bl true], .tup [.int 1], .lst [.int 1, .int 2], .non, .str "1/2", .tup [.int 1, .int 2, .int 3], fr 10000000000000000000000000000000000000001 1]
def rp (x : PV) : Bool := okD x && ((toD x).showable && (decide ((toD x).shown.length ≤ 1000) && (PyData.strOk (toD x).shown && !isOwn x)))
theorem bad_rp : badV.all rp = true := by decide +kernel
theorem bl_pair {x y : PV} (h : (x = .bl true ∧ y = .int 1) ∨ (x = .int 1 ∧ y = .bl true)) (m : Mem) : F_is_fraction_to [.tup [x, y], .int 10000000000000000000000000000000000000000] m = .ok (.bl false) m := by
  rcases h with ⟨h1, h2⟩ | ⟨h1, h2⟩
  · subst h1 h2
    simp [F_is_fraction_to, g_is_fraction_to, bodyF, slotsOf, sSeq, sIf, sE, Pv.tB, tV, tNotF, tAndF, tOrF, pTru, e3, thenB, Pv.e2, Pv.e1, eN, eF, eV, eC, eAnd, eOr, eNot, eIf, aCons, aNil, eTup, eLst, eLstOf, sPar, sSet, sRet, sPass, sDrop, sAsg, sRaise, gN, gT, gTs, setAll, isOwn, Res.bind, Res.of, outR, eSl, oSome, oNone, pCut, pIx, seqP, pIsi, tyP, pLt, pLe, pGt, pGe, pCmp, pNeg, pAdd, pSub, pNe_int, pEq_int, pNe_fr, pEq_fr, pLen, pAbs, pInt1, okD_int, fits0, fits1, fits2, fits3, fits4, atI_c0, atI_c1, atI_c2, is_tuple_at, is_integer_bl]
  · subst h1 h2
    simp [F_is_fraction_to, g_is_fraction_to, bodyF, slotsOf, sSeq, sIf, sE, Pv.tB, tV, tNotF, tAndF, tOrF, pTru, e3, thenB, Pv.e2, Pv.e1, eN, eF, eV, eC, eAnd, eOr, eNot, eIf, aCons, aNil, eTup, eLst, eLstOf, sPar, sSet, sRet, sPass, sDrop, sAsg, sRaise, gN, gT, gTs, setAll, isOwn, Res.bind, Res.of, outR, eSl, oSome, oNone, pCut, pIx, seqP, pIsi, tyP, pLt, pLe, pGt, pGe, pCmp, pNeg, pAdd, pSub, pNe_int, pEq_int, pNe_fr, pEq_fr, pLen, pAbs, pInt1, okD_int, fits0, fits1, fits2, fits3, fits4, atI_c0, atI_c1, atI_c2, is_tuple_at, is_integer_bl, is_integer_at]
theorem len_no {xs : List PV} (h : (decide ((2 : Int) ≤ xs.length) && decide ((xs.length : Int) ≤ 2)) = false) (m : Mem) : F_is_fraction_to [.tup xs, .int 10000000000000000000000000000000000000000] m = .ok (.bl false) m := by
  have e := is_tuple_at xs 2 2 m
  rw [h] at e
  simp [F_is_fraction_to, g_is_fraction_to, bodyF, slotsOf, sSeq, sIf, sE, Pv.tB, tV, tNotF, tAndF, tOrF, pTru, e3, thenB, Pv.e2, Pv.e1, eN, eF, eV, eC, eAnd, eOr, eNot, eIf, aCons, aNil, eTup, eLst, eLstOf, sPar, sSet, sRet, sPass, sDrop, sAsg, sRaise, gN, gT, gTs, setAll, isOwn, Res.bind, Res.of, outR, eSl, oSome, oNone, pCut, pIx, seqP, pIsi, tyP, pLt, pLe, pGt, pGe, pCmp, pNeg, pAdd, pSub, pNe_int, pEq_int, pNe_fr, pEq_fr, pLen, pAbs, pInt1, okD_int, fits0, fits1, fits2, fits3, fits4, atI_c0, atI_c1, atI_c2, e]
theorem kind_no {x : PV} {T : String} (hx : tyP x = some T) (hT : kitB T "tuple" = some false) (ho : isOwn x = false) (m : Mem) : F_is_fraction_to [x, .int 10000000000000000000000000000000000000000] m = .ok (.bl false) m := by
  have e := is_tuple_no hx hT 2 2 m ho
  simp [F_is_fraction_to, g_is_fraction_to, bodyF, slotsOf, sSeq, sIf, sE, Pv.tB, tV, tNotF, tAndF, tOrF, pTru, e3, thenB, Pv.e2, Pv.e1, eN, eF, eV, eC, eAnd, eOr, eNot, eIf, aCons, aNil, eTup, eLst, eLstOf, sPar, sSet, sRet, sPass, sDrop, sAsg, sRaise, gN, gT, gTs, setAll, Res.bind, Res.of, outR, eSl, oSome, oNone, pCut, pIx, seqP, pIsi, tyP, pLt, pLe, pGt, pGe, pCmp, pNeg, pAdd, pSub, pNe_int, pEq_int, pNe_fr, pEq_fr, pLen, pAbs, pInt1, okD_int, fits0, fits1, fits2, fits3, fits4, atI_c0, atI_c1, atI_c2, ho, e]
theorem fr_no {a b : Int} (h : isFr 10000000000000000000000000000000000000000 a b = false) (m : Mem) : F_is_fraction_to [fr a b, .int 10000000000000000000000000000000000000000] m = .ok (.bl false) m := by
  have e := is_fraction_to_at a b 10000000000000000000000000000000000000000 m
  rwa [h] at e
theorem bad_no {x : PV} (h : x ∈ badV) (m : Mem) : F_is_fraction_to [x, .int 10000000000000000000000000000000000000000] m = .ok (.bl false) m := by
  unfold badV at h
  simp only [List.mem_cons, List.not_mem_nil, or_false] at h
  rcases h with h | h | h | h | h | h | h | h | h | h <;> subst h
  · exact fr_no (by decide +kernel) m
  · exact fr_no (by decide +kernel) m
  · exact bl_pair (.inl ⟨rfl, rfl⟩) m
  · exact bl_pair (.inr ⟨rfl, rfl⟩) m
  · exact len_no (by simp) m
  · exact kind_no (T := "list") rfl kit_list_tup rfl m
  · exact kind_no (T := "NoneType") rfl kit_none_tup rfl m
  · exact kind_no (T := "str") rfl kit_str_tup rfl m
  · exact len_no (by simp) m
  · exact fr_no (by decide +kernel) m
noncomputable abbrev rB : SF := (sSeq (sIf (tB (Pv.e2 pIsNot (eF 1 F_is_fraction (aCons (eV 3) (aNil))) (eC (.bl false)))) (sRet (eC (.bl false))) (sPass)) (sSeq (sSet 4 (Pv.e2 pIx (eHeard (eF 2 F_plus (aCons (eV 1) (aCons (eV 3) (aNil))))) (eC (.int 0)))) (sIf (tOrF (tNotF (tV (Pv.e1 (pIsX 1) (eV 4)))) (tB (Pv.e2 pNe (eN pRepr (aCons (Pv.e1 pVal (eV 4)) (aNil))) (eN pRepr (aCons (eV 3) (aNil)))))) (sRet (eC (.bl false))) (sPass))))
theorem rB_at {x0 x2 o4 o5 o6 : Option PV} {m : Mem} {a b : Int} (p : Dr a b) {x : PV} (h : x ∈ badV) : rB [x0, some (fr a b), x2, some x, o4, o5, o6] m = .next [x0, some (fr a b), x2, some x, some (.exc 1 x), o5, o6] m := by
  have g := List.all_eq_true.mp bad_rp x h
  unfold rp at g
  simp only [Bool.and_eq_true, decide_eq_true_eq, Bool.not_eq_true'] at g
  obtain ⟨g1, g2, g3, g4, g5⟩ := g
  have no := bad_no h m
  have v3 : ∀ o, eV 3 [x0, some (fr a b), x2, some x, o, o5, o6] m = .ok x m := fun o => by
    unfold eV
    simp [g5]
  have s1 : (sIf (tB (Pv.e2 pIsNot (eF 1 F_is_fraction (aCons (eV 3) (aNil))) (eC (.bl false)))) (sRet (eC (.bl false))) (sPass)) [x0, some (fr a b), x2, some x, o4, o5, o6] m = .next [x0, some (fr a b), x2, some x, o4, o5, o6] m := by
    have t : (tB (Pv.e2 pIsNot (eF 1 F_is_fraction (aCons (eV 3) (aNil))) (eC (.bl false)))) [x0, some (fr a b), x2, some x, o4, o5, o6] m = .ok false m := tB_ok (e2_ok (eF1_ok (v3 o4) (is_fraction_of g5 no)) rfl rfl)
    rw [if_ok t]
    rfl
  refine (seq_n s1).trans ((seq_n (set_ok (heard_exc (eF2_ok (x := fr a b) rfl (v3 o4) (plus_bad p.fc g5 no))))).trans ?_)
  show sIf _ _ _ [x0, some (fr a b), x2, some x, some (.exc 1 x), o5, o6] m = _
  have rr : pRepr [x] m = some (.str (toD x).shown) := by
    simp only [pRepr]
    rw [if_pos ⟨g1, g2, fits g3⟩]
  have t1 : tNotF (tV (Pv.e1 (pIsX 1) (eV 4))) [x0, some (fr a b), x2, some x, some (.exc 1 x), o5, o6] m = .ok false m := not_ok (a := true) (tV_ok rfl)
  have t2 : (tB (Pv.e2 pNe (eN pRepr (aCons (Pv.e1 pVal (eV 4)) (aNil))) (eN pRepr (aCons (eV 3) (aNil))))) [x0, some (fr a b), x2, some x, some (.exc 1 x), o5, o6] m = .ok false m := by
    refine tB_ok (e2_ok (eN1_ok (x := x) rfl rr) (eN1_ok (v3 _) rr) ((pNe_str g4 g4 m).trans ?_))
    simp
  rw [if_ok (or_ok t1 t2)]
  rfl
theorem r_loop {x0 x2 o5 o6 : Option PV} {m : Mem} {a b : Int} (p : Dr a b) : ∀ (xs : List PV) (o3 o4 : Option PV), (∀ x ∈ xs, x ∈ badV) → ∃ o3' o4', forL (gN 3) rB xs [x0, some (fr a b), x2, o3, o4, o5, o6] m = .next [x0, some (fr a b), x2, o3', o4', o5, o6] m
  | [], o3, o4, _ => ⟨o3, o4, rfl⟩
  | x :: xs, o3, o4, h => by
    obtain ⟨o3', o4', ih⟩ := r_loop (x0 := x0) (x2 := x2) (o5 := o5) (o6 := o6) (m := m) p xs (some x) (some (.exc 1 x)) (fun y hy => h y (List.mem_cons_of_mem _ hy))
    exact ⟨o3', o4', (for_step rfl (rB_at p (h x (List.mem_cons_self ..)))).trans ih⟩
theorem twice_no {a b : Int} (c : Int.gcd a b = 1) : isFr 10000000000000000000000000000000000000000 (a * 2) (b * 2) = false := by
  unfold isFr
  rw [Int.gcd_mul_right, c]
  simp
end LK00
set_option maxRecDepth 100000
set_option maxHeartbeats 400000
set_option autoImplicit false
namespace LK00
open PySem PySem.Spec PyProof.Rows L2 Pv
theorem and_ok {f g : EF} {E : Ev} {m m1 : Mem} {r : Res PV} (h1 : f E m = .ok (.bl true) m1) (h2 : g E m1 = r) : eAnd f g E m = r := by
  unfold eAnd
  rw [h1, Res.bind_ok]
  exact h2
theorem in40 {i : Int} (h1 : -100 ≤ i) (h2 : i ≤ 100) : (decide (-(10 ^ 40) ≤ i) && decide (i ≤ 10 ^ 40)) = true := by
  rw [Bool.and_eq_true]
  exact ⟨decide_eq_true (by omega), decide_eq_true (by omega)⟩
theorem right_at {k : Nat} {m : Mem} {n : Nat} (P : PotAt k m n) (hk : k ≤ 900) : ∃ m', F_law_right [.ref n] m = .ok (.bl true) m' ∧ PotAt (k + 21) m' n ∧ m'.length = m.length := by
  obtain ⟨a, b, m1, e1, p, P1, l1⟩ := drawn_at P (by omega)
  obtain ⟨c, d, m2, e2', q, P2, l2⟩ := drawn_at P1 (by omega)
  obtain ⟨x, m3, e3', x0, x1, P3, l3⟩ := take_at (u := 99) P2 (by omega) (by decide) (by unfold Bd; decide)
  obtain ⟨y, m4, e4', y0, y1, P4, l4⟩ := take_at (u := 99) P3 (by omega) (by decide) (by unfold Bd; decide)
  obtain ⟨m5, e5, P5, l5⟩ := unit_right P4 (by omega)
  refine ⟨m5, ?_, P5.mono (by omega), by omega⟩
  show outR (g_law_right [some (.ref n), none, none, none, none, none, none] m) = _
  unfold g_law_right
  have s1 : (sAsg (eTup (aCons (eF 1 F_law_drawn (aCons (eV 0) (aNil))) (aCons (eF 1 F_law_drawn (aCons (eV 0) (aNil))) (aNil)))) (gT [gN 1, gN 2])) [some (.ref n), none, none, none, none, none, none] m = .next [some (.ref n), some (fr a b), some (fr c d), none, none, none, none] m2 := by
    have e : eTup (aCons (eF 1 F_law_drawn (aCons (eV 0) (aNil))) (aCons (eF 1 F_law_drawn (aCons (eV 0) (aNil))) (aNil))) [some (.ref n), none, none, none, none, none, none] m = .ok (.tup [fr a b, fr c d]) m2 := tup_ok (cons_ok (eF1_ok (x := .ref n) rfl e1) (cons_ok (eF1_ok (x := .ref n) rfl e2') rfl)) (by simp)
    unfold sAsg sE
    rw [e]
    rfl
  rw [seq_n s1]
  have i0 : ∀ o3 o4 o5 o6, Pv.e2 pIx (eV 1) (eC (.int 0)) [some (.ref n), some (fr a b), some (fr c d), o3, o4, o5, o6] m2 = .ok (.int a) m2 := fun _ _ _ _ => e2_ok (x := fr a b) rfl rfl rfl
  have i1 : ∀ o3 o4 o5 o6, Pv.e2 pIx (eV 1) (eC (.int 1)) [some (.ref n), some (fr a b), some (fr c d), o3, o4, o5, o6] m2 = .ok (.int b) m2 := fun _ _ _ _ => e2_ok (x := fr a b) rfl rfl rfl
  have s2 : (sIf (tOrF (tB (Pv.e2 pIsNot (eF 1 F_is_fraction (aCons (eV 1) (aNil))) (eC (.bl true)))) (tB (Pv.e2 pIsNot (eF 1 F_is_fraction (aCons (eTup (aCons (Pv.e2 pMul (Pv.e2 pIx (eV 1) (eC (.int 0))) (eC (.int 2))) (aCons (Pv.e2 pMul (Pv.e2 pIx (eV 1) (eC (.int 1))) (eC (.int 2))) (aNil)))) (aNil))) (eC (.bl false))))) (sRet (eC (.bl false))) (sPass)) [some (.ref n), some (fr a b), some (fr c d), none, none, none, none] m2 = .next [some (.ref n), some (fr a b), some (fr c d), none, none, none, none] m2 := by
    have f1 := is_fraction_to_at a b 10000000000000000000000000000000000000000 m2
    rw [p.fc.is] at f1
    have t1 : (tB (Pv.e2 pIsNot (eF 1 F_is_fraction (aCons (eV 1) (aNil))) (eC (.bl true)))) [some (.ref n), some (fr a b), some (fr c d), none, none, none, none] m2 = .ok false m2 := tB_ok (e2_ok (eF1_ok (x := fr a b) rfl (is_fraction_of rfl f1)) rfl rfl)
    have b2 : Bd 2 (2 : Int) := by unfold Bd; decide
    have t2 : (tB (Pv.e2 pIsNot (eF 1 F_is_fraction (aCons (eTup (aCons (Pv.e2 pMul (Pv.e2 pIx (eV 1) (eC (.int 0))) (eC (.int 2))) (aCons (Pv.e2 pMul (Pv.e2 pIx (eV 1) (eC (.int 1))) (eC (.int 2))) (aNil)))) (aNil))) (eC (.bl false)))) [some (.ref n), some (fr a b), some (fr c d), none, none, none, none] m2 = .ok false m2 := by
      have tu : eTup (aCons (Pv.e2 pMul (Pv.e2 pIx (eV 1) (eC (.int 0))) (eC (.int 2))) (aCons (Pv.e2 pMul (Pv.e2 pIx (eV 1) (eC (.int 1))) (eC (.int 2))) (aNil))) [some (.ref n), some (fr a b), some (fr c d), none, none, none, none] m2 = .ok (fr (a * 2) (b * 2)) m2 := tup_ok (cons_ok (e2_ok (i0 none none none none) rfl (pMul_int (mul_ok p.ba b2 (by decide) (by decide) (by decide)))) (cons_ok (e2_ok (i1 none none none none) rfl (pMul_int (mul_ok p.bb b2 (by decide) (by decide) (by decide)))) rfl)) (by simp)
      exact tB_ok (e2_ok (eF1_ok tu (is_fraction_of rfl (fr_no (twice_no p.cop) m2))) rfl rfl)
    rw [if_ok (or_ok t1 t2)]
    rfl
  rw [seq_n s2]
  obtain ⟨o3, o4, lp⟩ := r_loop (x0 := some (.ref n)) (x2 := some (fr c d)) (o5 := none) (o6 := none) (m := m2) p badV none none (fun _ h => h)
  rw [seq_n ((for_n (xs := badV) (m1 := m2) (by
    unfold iV
    rw [tup_ok (xs := badV) (m1 := m2) rfl (by simp [badV])]
    rfl)).trans lp)]
  have s4 : (sAsg (eTup (aCons (Pv.e2 pSub (eN pInt1 (aCons (eF 2 F_law_take (aCons (eV 0) (aCons (eC (.int 99)) (aNil)))) (aNil))) (eC (.int 49))) (aCons (Pv.e2 pSub (eN pInt1 (aCons (eF 2 F_law_take (aCons (eV 0) (aCons (eC (.int 99)) (aNil)))) (aNil))) (eC (.int 49))) (aNil)))) (gT [gN 5, gN 6])) [some (.ref n), some (fr a b), some (fr c d), o3, o4, none, none] m2 = .next [some (.ref n), some (fr a b), some (fr c d), o3, o4, some (.int (x - 49)), some (.int (y - 49))] m4 := by
    have e : eTup (aCons (Pv.e2 pSub (eN pInt1 (aCons (eF 2 F_law_take (aCons (eV 0) (aCons (eC (.int 99)) (aNil)))) (aNil))) (eC (.int 49))) (aCons (Pv.e2 pSub (eN pInt1 (aCons (eF 2 F_law_take (aCons (eV 0) (aCons (eC (.int 99)) (aNil)))) (aNil))) (eC (.int 49))) (aNil))) [some (.ref n), some (fr a b), some (fr c d), o3, o4, none, none] m2 = .ok (.tup [.int (x - 49), .int (y - 49)]) m4 :=
      tup_ok (cons_ok (e2_ok (eN1_ok (eF2_ok (x := .ref n) (y := .int 99) rfl rfl e3') rfl) rfl rfl) (cons_ok (e2_ok (eN1_ok (eF2_ok (x := .ref n) (y := .int 99) rfl rfl e4') rfl) rfl rfl) rfl)) (by simp)
    unfold sAsg sE
    rw [e]
    rfl
  rw [seq_n s4]
  have s5 : ∃ o4', (sIf (tB (Pv.e2 pEq (eV 6) (eC (.int 0)))) (sSeq (sSet 4 (Pv.e2 pIx (eHeard (eF 2 F_ratio (aCons (eV 5) (aCons (eV 6) (aNil))))) (eC (.int 0)))) (sIf (tOrF (tNotF (tV (Pv.e1 (pIsX 2) (eV 4)))) (tB (Pv.e2 pNe (Pv.e1 pVal (eV 4)) (eC (.int 0))))) (sRet (eC (.bl false))) (sPass))) (sIf (tB (Pv.e2 pNe (eF 2 F_ratio (aCons (eV 5) (aCons (eV 6) (aNil)))) (eF 2 F_law_made (aCons (eV 5) (aCons (eV 6) (aNil)))))) (sRet (eC (.bl false))) (sPass))) [some (.ref n), some (fr a b), some (fr c d), o3, o4, some (.int (x - 49)), some (.int (y - 49))] m4 = .next [some (.ref n), some (fr a b), some (fr c d), o3, o4', some (.int (x - 49)), some (.int (y - 49))] m4 := by
    have hx := in40 (i := x - 49) (by omega) (by omega)
    have hy := in40 (i := y - 49) (by omega) (by omega)
    have xb : Bd 10 (x - 49) := by
      unfold Bd
      omega
    have yb : Bd 10 (y - 49) := by
      unfold Bd
      omega
    generalize x - 49 = t at *
    generalize y - 49 = l at *
    have c0 : (tB (Pv.e2 pEq (eV 6) (eC (.int 0)))) [some (.ref n), some (fr a b), some (fr c d), o3, o4, some (.int t), some (.int l)] m4 = .ok (l == 0) m4 := tB_ok (e2_ok rfl rfl (pEq_int _ _ _))
    by_cases hl : l = 0
    · subst hl
      refine ⟨some (.exc 2 (.int 0)), (if_ok c0).trans ?_⟩
      rw [if_pos (show ((0 : Int) == 0) = true from rfl), seq_n (set_ok (heard_exc (eF2_ok (x := .int t) (y := .int 0) rfl rfl (ratio_zero hx))))]
      rfl
    · refine ⟨o4, (if_ok c0).trans ?_⟩
      rw [if_neg (by simpa using hl)]
      have t2 : (tB (Pv.e2 pNe (eF 2 F_ratio (aCons (eV 5) (aCons (eV 6) (aNil)))) (eF 2 F_law_made (aCons (eV 5) (aCons (eV 6) (aNil)))))) [some (.ref n), some (fr a b), some (fr c d), o3, o4, some (.int t), some (.int l)] m4 = .ok false m4 := by
        refine tB_ok (e2_ok (eF2_ok (x := .int t) (y := .int l) rfl rfl (ratio_at hx hy hl (yb.mono (by decide)))) (eF2_ok (x := .int t) (y := .int l) rfl rfl (lmade_at hl (xb.mono (by decide)) (yb.mono (by decide)))) ((pNe_fr ..).trans ?_))
        simp
      rw [if_ok t2]
      rfl
  obtain ⟨o4', s5⟩ := s5
  rw [seq_n s5]
  refine (congrArg outR (ret_ok (x := .bl true) (m1 := m5) ?_)).trans rfl
  exact and_ok (eF2_ok (x := fr a b) (y := fr c d) rfl rfl (two_right p q m4)) (and_ok (eF2_ok (x := .ref n) (y := fr a b) rfl rfl (texts_right p (.ref n) m4)) (eF1_ok (x := .ref n) rfl e5))
theorem laps {n : Nat} {x0 x1 : Option PV} : ∀ (rs : List PV) (j : Nat) (x3 : Option PV) (k : Nat) (m : Mem), PotAt k m n → k + 21 * rs.length ≤ 900 → j + rs.length ≤ 100 → ∃ m', compL (gN 3) tYesF (eF 1 F_law_right (aCons (eV 2) (aNil))) rs (List.replicate j (.bl true)) [x0, x1, some (.ref n), x3] m = .ok (List.replicate (j + rs.length) (.bl true)) m'
  | [], j, x3, k, m, _, _, _ => ⟨m, rfl⟩
  | r :: rs, j, x3, k, m, P, hk, hj => by
    simp only [List.length_cons] at hk hj
    obtain ⟨m1, e1, P1, l1⟩ := right_at P (by omega)
    obtain ⟨m2, e2'⟩ := laps (x0 := x0) (x1 := x1) rs (j + 1) x3 (k + 21) m1 P1 (by omega) (by omega)
    refine ⟨m2, ?_⟩
    have hf : (List.replicate j (PV.bl true)).length < sizeLine := by
      rw [List.length_replicate]
      exact Nat.lt_of_lt_of_le (show j < 101 by omega) (fits (by decide))
    have hg : gN 3 r [x0, x1, some (.ref n), x3] = some [x0, x1, some (.ref n), some r] := rfl
    have ef : eF 1 F_law_right (aCons (eV 2) (aNil)) [x0, x1, some (.ref n), some r] m = .ok (.bl true) m1 := eF1_ok (x := .ref n) rfl e1
    simp only [compL]
    rw [hg]
    simp only [tYesF, Res.bindB, if_true]
    rw [ef]
    simp only
    rw [if_pos hf]
    have er : List.replicate j (PV.bl true) ++ [PV.bl true] = List.replicate (j + 1) (.bl true) := by simp [List.replicate_succ']
    rw [er, e2']
    simp only [List.length_cons]
    rw [show j + 1 + rs.length = j + (rs.length + 1) by omega]
noncomputable abbrev wB : SF := (sSeq (sSet 2 (eF 2 F_law_pot (aCons (eV 0) (aCons (eV 1) (aNil))))) (sIf (tNotF (tV (eN pAll (aCons (eLstOf (eComp (iR pRange1 (aCons (eC (.int 3)) (aNil))) (gN 3) (tYesF) (eF 1 F_law_right (aCons (eV 2) (aNil))) [3])) (aNil))))) (sRet (eC (.bl false))) (sPass)))
theorem wB_at (ns : List Int) (p : Nat) (hp : p ≤ 3) (o2 o3 : Option PV) (m : Mem) : ∃ o2' o3' m', wB [some (.rol (ns.map .int)), some (.int p), o2, o3] m = .next [some (.rol (ns.map .int)), some (.int p), o2', o3'] m' := by
  obtain ⟨m1, e1, P⟩ := pot_at ns p hp m
  obtain ⟨m2, e2'⟩ := laps (x0 := some (.rol (ns.map .int))) (x1 := some (.int p)) (rangeV 0 3) 0 none 0 m1 P (by simp [rangeV]) (by simp [rangeV])
  refine ⟨some (.ref m.length), o3, m2, ?_⟩
  refine (seq_n (set_ok (eF2_ok (x := .rol (ns.map .int)) (y := .int p) rfl rfl e1))).trans ?_
  show sIf _ _ _ [some (.rol (ns.map .int)), some (.int p), some (.ref m.length), o3] m1 = _
  have q : eLstOf (eComp (iR pRange1 (aCons (eC (.int 3)) (aNil))) (gN 3) (tYesF) (eF 1 F_law_right (aCons (eV 2) (aNil))) [3]) [some (.rol (ns.map .int)), some (.int p), some (.ref m.length), o3] m1 = .ok (.lst ([true, true, true].map .bl)) m2 := by
    unfold eLstOf eComp
    have r : iR pRange1 (aCons (eC (.int 3)) (aNil)) [some (.rol (ns.map .int)), some (.int p), some (.ref m.length), o3] m1 = .ok (rangeV 0 3) m1 := rfl
    rw [r, Res.bind_ok]
    refine (congrArg (fun z => Res.bind z _) e2').trans ?_
    rfl
  have t : tNotF (tV (eN pAll (aCons (eLstOf (eComp (iR pRange1 (aCons (eC (.int 3)) (aNil))) (gN 3) (tYesF) (eF 1 F_law_right (aCons (eV 2) (aNil))) [3])) (aNil)))) [some (.rol (ns.map .int)), some (.int p), some (.ref m.length), o3] m1 = .ok false m2 := not_ok (a := true) (tV_ok (eN1_ok q rfl))
  rw [if_ok t]
  rfl
theorem w_loop (ns : List Int) : ∀ (xs : List Nat) (o1 o2 o3 : Option PV) (m : Mem), (∀ x ∈ xs, x ≤ 3) → ∃ E' m', forL (gN 1) wB (xs.map fun p => .int (p : Nat)) [some (.rol (ns.map .int)), o1, o2, o3] m = .next E' m'
  | [], o1, o2, o3, m, _ => ⟨_, _, rfl⟩
  | x :: xs, o1, o2, o3, m, h => by
    obtain ⟨o2', o3', m1, e⟩ := wB_at ns x (h x (List.mem_cons_self ..)) o2 o3 m
    obtain ⟨E', m', ih⟩ := w_loop ns xs (some (.int (x : Nat))) o2' o3' m1 (fun y hy => h y (List.mem_cons_of_mem _ hy))
    exact ⟨E', m', (for_step rfl e).trans ih⟩
theorem plain_law : ∀ ns : List Int, ns.length ≤ 63 → (∀ z ∈ ns, Builtin.Int.intBits z ≤ 1048576) → ∃ m, F_law [.rol (ns.map .int)] [] = .ok (.bl true) m := by
  intro ns hl _
  obtain ⟨j, hj, ec⟩ := cells_at ns hl []
  obtain ⟨E', m', lp⟩ := w_loop ns (List.range j) none none none [] (fun x hx => by
    have := List.mem_range.mp hx
    omega)
  refine ⟨m', ?_⟩
  show outR (g_law [some (.rol (ns.map .int)), none, none, none] []) = _
  unfold g_law
  have hr : rangeV 0 j = (List.range j).map fun p => .int (p : Nat) := by
    unfold rangeV
    simp
  rw [seq_n ((for_n (xs := rangeV 0 j) (m1 := []) (by
    unfold iV
    rw [eF2_ok (x := .rol (ns.map .int)) (y := .int 4) rfl rfl ec]
    rfl)).trans (by rw [hr]; exact lp))]
  rfl
end LK00

set_option maxRecDepth 100000
set_option maxHeartbeats 0
namespace LK00
open PySem PySem.Spec PyProof.Rows L2 Pv
theorem lawG (plain : ∀ ns : List Int, ns.length ≤ 63 → (∀ z ∈ ns, Builtin.Int.intBits z ≤ 1048576) → ∃ m, F_law [.rol (ns.map .int)] [] = .ok (.bl true) m) {w : World} {mg : Str → Option Value} {fa : Addr} {h : Heap} (Y : hk.says w h) (G : h.Ns mainGlobals mg) (hm : mg ("law" : Str) = some (.ref fa)) : LawG PySem.Challenge.rw_noshortbeat_k00_fractions_reckon_as_pair w 11 63 "script" mg fa h := by
  obtain ⟨K, KX, c⟩ := Y
  have D := c.t.d
  obtain ⟨fd, FD⟩ := D.def_ 43 (d := dd "law" 55) rfl
  have e := hm.symm.trans (He.glo_ok KX G (D.fact 43 (f := .glo "law") rfl))
  cases e
  have b := FunD.bindsA (ps := ["script"]) FD fun _ _ _ _ _ _ us hl => match us, hl with | [_], _ => rfl
  refine ⟨K, Gk K, F_law, fd, tf.map (He.cT K), KX, fun p hp => ?_, fun p hp => ?_, fun p hp => ?_, fun s v => b s [v] rfl, fun p hp => ?_, plain, fun base KB GB TB => run_law (sys_of c KX G TB) FD⟩
  · obtain ⟨q, hq, rfl⟩ := List.mem_map.mp hp
    exact c.empty q hq
  · obtain ⟨q, hq, rfl⟩ := List.mem_map.mp hp
    exact c.out q hq
  · obtain ⟨q, hq, rfl⟩ := List.mem_map.mp hp
    exact PySem.W.codeHd_of_K KX (c.hd q hq)
  · obtain ⟨q, hq, rfl⟩ := List.mem_map.mp hp
    exact List.mem_map.mpr ⟨He.cT K q, List.mem_map.mpr ⟨q, hq, rfl⟩, rfl⟩
end LK00
open PySem PySem.W PySem.Calls PyProof.Rows
theorem PySem.Challenge.cw_noshortbeat_k00_fractions_reckon_as_pair_holds : PySem.Challenge.rw_noshortbeat_k00_fractions_reckon_as_pair.Holds := by
  w_on; o_law
  refine HandSHeadRun.head_any (r := OpenLaw.row PySem.Challenge.rw_noshortbeat_k00_fractions_reckon_as_pair) (q := view (OpenLaw.row PySem.Challenge.rw_noshortbeat_k00_fractions_reckon_as_pair).prog [55]) (H := LK00.hk) (ob := LK00.ob) (M := 4000) (loose := LK00.loose) (d := HandSHeadRun.topDef (OpenLaw.row PySem.Challenge.rw_noshortbeat_k00_fractions_reckon_as_pair).prog 55) (kwd := []) LK00.ob_eq
    (by kernel_rfl) (fun s => by kernel_rfl) LK00.run (by kernel_rfl) (by kernel_rfl) (by kernel_rfl) (by rfl) (by first | assumption | decide +kernel) (by decide +kernel) ⟨rfl, rfl, rfl, rfl, rfl, by decide +kernel⟩ ?hw ?hc
  case hw => w_witness2
  case hc =>
    refine Pv.walk_ofG (l := PySem.Challenge.rw_noshortbeat_k00_fractions_reckon_as_pair) (n := 63) (k := 11) (x := "script") rfl (by decide) (by kernel_rfl) ⟨rfl, by decide, by decide⟩ ?F
    intro w mg fa h Y G hmg0
    have hmg : mg ("law" : PySem.Str) = some (.ref fa) := by
      have e : (HandSHeadRun.topDef (OpenLaw.row PySem.Challenge.rw_noshortbeat_k00_fractions_reckon_as_pair).prog 55).name = ("law" : PySem.Str) := by kernel_rfl
      rw [← e]
      exact hmg0
    exact LK00.lawG LK00.plain_law Y G hmg
#print axioms PySem.Challenge.cw_noshortbeat_k00_fractions_reckon_as_pair_holds
