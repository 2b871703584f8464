import PyProof.Rows.All
import Wide.All
import OpenK.AllK
import Wide.FinOn
import HandS.ForMost
import HandS.Flow
import HandS.IsInst
import KE.GoesMore
import KE.GoesEnum
import HandS.Style
import HandS.Deep
import HandS.Text
import HandS.WideBits
import HandS.EndBits
import KE.KDictDisplayH
import HandS.SortRule
import PySem.Challenge.RW_moorwalk_k24_together
set_option Elab.async false
set_option linter.all false
set_option maxRecDepth 100000
set_option maxHeartbeats 4000000
/-! VL: a layer over HandS in which lists, tuples and dicts are plain data (PyData); slots own what they alone may change. -/
namespace VL
open PySem PySem.Spec PyProof.Rows L2

/-- data: what a value stands for. wt: a tuple of the written part; obj: an instance of the class at C -/
inductive D where
  | none
  | bool (b : Bool)
  | int (i : Int)
  | str (s : Str)
  | list (xs : List D)
  | tuple (xs : List D)
  | dict (kvs : List (D × D))
  | dicT (kvs : List (D × D))
  | wt (xs : List D)
  | obj (C : Addr) (fs : List (Str × D))
/-- a tuple of the written part -/
def WtO (K : PySem.W.Frag) (a : Addr) (xs : List V) : Prop := ∃ (o : Obj) (its : Array Value) (n : Nat), K.lookup a = some o ∧ o.cls = .type "tuple" ∧ o.data = .seq its n ∧ its.size ≤ sizeLine ∧ Vals xs its.toList
abbrev AV := Addr → Prop

def keyD : Key → D
  | .inl i => .int i
  | .inr x => .str x
def tkeyD (k : List Key) : D := .tuple (k.map keyD)

/-! ### a value stands for data; no list or dict on the way stands at an address of A -/
mutual
inductive Rp (K : PySem.W.Frag) (H : Hp) (A : AV) : V → D → Prop
  | non : Rp K H A .non .none
  | bl (b : Bool) : Rp K H A (.bl b) (.bool b)
  | int (i : Int) : Rp K H A (.int i) (.int i)
  | str (x : Str) : Rp K H A (.str x) (.str x)
  | lst {a : Addr} {xs : List V} {ds : List D} : H a = some (.lst xs) → ¬ A a → RpL K H A xs ds → Rp K H A (.ref a) (.list ds)
  | tup {a : Addr} {xs : List V} {ds : List D} : H a = some (.tup xs) → RpL K H A xs ds → Rp K H A (.ref a) (.tuple ds)
  | wt {a : Addr} {xs : List V} {ds : List D} : WtO K a xs → RpL K H A xs ds → Rp K H A (.ref a) (.wt ds)
  | obj {a C dx : Addr} {fs : List (Str × V)} {es : List (Str × D)} : H a = some (.ins C dx fs) → ¬ A a → RpF K H A fs es → Rp K H A (.ref a) (.obj C es)
  | dK {a : Addr} {kvs : List (Key × V)} {es : List (D × D)} : H a = some (.dK kvs) → ¬ A a → RpK K H A kvs es → Rp K H A (.ref a) (.dict es)
  | dT {a : Addr} {kvs : List (List Key × V)} {es : List (D × D)} : H a = some (.dT kvs) → ¬ A a → RpT K H A kvs es → Rp K H A (.ref a) (.dicT es)
inductive RpL (K : PySem.W.Frag) (H : Hp) (A : AV) : List V → List D → Prop
  | nil : RpL K H A [] []
  | cons {v : V} {d : D} {vs : List V} {ds : List D} : Rp K H A v d → RpL K H A vs ds → RpL K H A (v :: vs) (d :: ds)
inductive RpK (K : PySem.W.Frag) (H : Hp) (A : AV) : List (Key × V) → List (D × D) → Prop
  | nil : RpK K H A [] []
  | cons {k : Key} {v : V} {d : D} {vs : List (Key × V)} {ds : List (D × D)} : Rp K H A v d → RpK K H A vs ds → RpK K H A ((k, v) :: vs) ((keyD k, d) :: ds)
inductive RpF (K : PySem.W.Frag) (H : Hp) (A : AV) : List (Str × V) → List (Str × D) → Prop
  | nil : RpF K H A [] []
  | cons {k : Str} {v : V} {d : D} {vs : List (Str × V)} {ds : List (Str × D)} : Rp K H A v d → RpF K H A vs ds → RpF K H A ((k, v) :: vs) ((k, d) :: ds)
inductive RpT (K : PySem.W.Frag) (H : Hp) (A : AV) : List (List Key × V) → List (D × D) → Prop
  | nil : RpT K H A [] []
  | cons {k : List Key} {v : V} {d : D} {vs : List (List Key × V)} {ds : List (D × D)} : Rp K H A v d → RpT K H A vs ds → RpT K H A ((k, v) :: vs) ((tkeyD k, d) :: ds)
end

/-- what may be said of the next heap -/
structure Mv (K : PySem.W.Frag) (H H' : Hp) (A A' : AV) : Prop where
  rd : ∀ a u, H a = some u → ¬ A a → H' a = some u
  av : ∀ a u, H a = some u → ¬ A a → ¬ A' a
  tp : ∀ a xs, H a = some (.tup xs) → H' a = some (.tup xs)
mutual
theorem Rp.mv {K : PySem.W.Frag} {H H' : Hp} {A A' : AV} (m : Mv K H H' A A') : ∀ {v : V} {d : D}, Rp K H A v d → Rp K H' A' v d
  | _, _, .non => .non
  | _, _, .bl b => .bl b
  | _, _, .int i => .int i
  | _, _, .str x => .str x
  | _, _, .lst h n l => .lst (m.rd _ _ h n) (m.av _ _ h n) (RpL.mv m l)
  | _, _, .tup h l => .tup (m.tp _ _ h) (RpL.mv m l)
  | _, _, .wt h l => .wt h (RpL.mv m l)
  | _, _, .obj h n l => .obj (m.rd _ _ h n) (m.av _ _ h n) (RpF.mv m l)
  | _, _, .dK h n l => .dK (m.rd _ _ h n) (m.av _ _ h n) (RpK.mv m l)
  | _, _, .dT h n l => .dT (m.rd _ _ h n) (m.av _ _ h n) (RpT.mv m l)
theorem RpL.mv {K : PySem.W.Frag} {H H' : Hp} {A A' : AV} (m : Mv K H H' A A') : ∀ {v : List V} {d : List D}, RpL K H A v d → RpL K H' A' v d
  | _, _, .nil => .nil
  | _, _, .cons h t => .cons (Rp.mv m h) (RpL.mv m t)
theorem RpK.mv {K : PySem.W.Frag} {H H' : Hp} {A A' : AV} (m : Mv K H H' A A') : ∀ {v : List (Key × V)} {d : List (D × D)}, RpK K H A v d → RpK K H' A' v d
  | _, _, .nil => .nil
  | _, _, .cons h t => .cons (Rp.mv m h) (RpK.mv m t)
theorem RpF.mv {K : PySem.W.Frag} {H H' : Hp} {A A' : AV} (m : Mv K H H' A A') : ∀ {v : List (Str × V)} {d : List (Str × D)}, RpF K H A v d → RpF K H' A' v d
  | _, _, .nil => .nil
  | _, _, .cons h t => .cons (Rp.mv m h) (RpF.mv m t)
theorem RpT.mv {K : PySem.W.Frag} {H H' : Hp} {A A' : AV} (m : Mv K H H' A A') : ∀ {v : List (List Key × V)} {d : List (D × D)}, RpT K H A v d → RpT K H' A' v d
  | _, _, .nil => .nil
  | _, _, .cons h t => .cons (Rp.mv m h) (RpT.mv m t)
end

/-! ### flat data: no list, no dict within -/
mutual
def flat : D → Bool
  | .none => true
  | .bool _ => true
  | .int _ => true
  | .str _ => true
  | .list _ => false
  | .tuple xs => flats xs
  | .dict _ => false
  | .dicT _ => false
  | .wt xs => flats xs
  | .obj _ _ => false
def flats : List D → Bool
  | [] => true
  | x :: xs => flat x && flats xs
end
mutual
theorem Rp.flat_any {K : PySem.W.Frag} {H : Hp} {A A' : AV} : ∀ {v : V} {d : D}, Rp K H A v d → flat d = true → Rp K H A' v d
  | _, _, .non, _ => .non
  | _, _, .bl b, _ => .bl b
  | _, _, .int i, _ => .int i
  | _, _, .str x, _ => .str x
  | _, _, .lst _ _ _, h => by simp [flat] at h
  | _, _, .tup s l, h => .tup s (RpL.flat_any l (by simpa [flat] using h))
  | _, _, .wt s l, h => .wt s (RpL.flat_any l (by simpa [flat] using h))
  | _, _, .obj _ _ _, h => by simp [flat] at h
  | _, _, .dK _ _ _, h => by simp [flat] at h
  | _, _, .dT _ _ _, h => by simp [flat] at h
theorem RpL.flat_any {K : PySem.W.Frag} {H : Hp} {A A' : AV} : ∀ {v : List V} {d : List D}, RpL K H A v d → flats d = true → RpL K H A' v d
  | _, _, .nil, _ => .nil
  | _, _, .cons h t, e => by
    simp only [flats, Bool.and_eq_true] at e
    exact .cons (Rp.flat_any h e.1) (RpL.flat_any t e.2)
end

theorem RpL.length {K : PySem.W.Frag} {H : Hp} {A : AV} : ∀ {v : List V} {d : List D}, RpL K H A v d → v.length = d.length
  | _, _, .nil => rfl
  | _, _, .cons _ t => by simp [RpL.length t]
theorem RpL.get {K : PySem.W.Frag} {H : Hp} {A : AV} : ∀ {v : List V} {d : List D}, RpL K H A v d → ∀ {i : Nat} {x : D}, d[i]? = some x → ∃ y, v[i]? = some y ∧ Rp K H A y x
  | _, _, .nil, i, x, e => by simp at e
  | _, _, .cons h t, 0, x, e => by
    have e' := Option.some.inj e
    subst e'
    exact ⟨_, rfl, h⟩
  | _, _, .cons h t, i + 1, x, e => by
    obtain ⟨y, e1, r⟩ := RpL.get t (i := i) (x := x) (by simpa using e)
    exact ⟨y, by simpa using e1, r⟩
theorem RpL.append {K : PySem.W.Frag} {H : Hp} {A : AV} : ∀ {v w : List V} {d e : List D}, RpL K H A v d → RpL K H A w e → RpL K H A (v ++ w) (d ++ e)
  | _, _, _, _, .nil, s => s
  | _, _, _, _, .cons h t, s => .cons h (RpL.append t s)
theorem RpL.take {K : PySem.W.Frag} {H : Hp} {A : AV} : ∀ (n : Nat) {v : List V} {d : List D}, RpL K H A v d → RpL K H A (v.take n) (d.take n)
  | 0, _, _, _ => .nil
  | _ + 1, _, _, .nil => .nil
  | n + 1, _, _, .cons h t => .cons h (RpL.take n t)
theorem RpL.drop {K : PySem.W.Frag} {H : Hp} {A : AV} : ∀ (n : Nat) {v : List V} {d : List D}, RpL K H A v d → RpL K H A (v.drop n) (d.drop n)
  | 0, _, _, r => r
  | _ + 1, _, _, .nil => .nil
  | n + 1, _, _, .cons h t => RpL.drop n t
theorem RpL.eraseIdx {K : PySem.W.Frag} {H : Hp} {A : AV} : ∀ (n : Nat) {v : List V} {d : List D}, RpL K H A v d → RpL K H A (v.eraseIdx n) (d.eraseIdx n)
  | _, _, _, .nil => by simp; exact .nil
  | 0, _, _, .cons h t => t
  | n + 1, _, _, .cons h t => .cons h (RpL.eraseIdx n t)
theorem RpL.set {K : PySem.W.Frag} {H : Hp} {A : AV} {x : V} {y : D} (r : Rp K H A x y) : ∀ (n : Nat) {v : List V} {d : List D}, RpL K H A v d → RpL K H A (v.set n x) (d.set n y)
  | _, _, _, .nil => .nil
  | 0, _, _, .cons h t => .cons r t
  | n + 1, _, _, .cons h t => .cons h (RpL.set r n t)
theorem RpL.reverse {K : PySem.W.Frag} {H : Hp} {A : AV} : ∀ {v : List V} {d : List D}, RpL K H A v d → RpL K H A v.reverse d.reverse
  | _, _, .nil => .nil
  | _, _, .cons h t => by
    rw [List.reverse_cons, List.reverse_cons]
    exact (RpL.reverse t).append (.cons h .nil)
theorem RpL.dropLast {K : PySem.W.Frag} {H : Hp} {A : AV} {v : List V} {d : List D} (r : RpL K H A v d) : RpL K H A v.dropLast d.dropLast := by
  rw [List.dropLast_eq_take, List.dropLast_eq_take, r.length]
  exact r.take _

/-! ### slots -/
inductive Sl where
  | dead
  | sh (d : D)
  | ow (d : D)
abbrev En := List Sl
inductive Kd where
  | cl | fr | rt | al
structure Rs where
  k : Kd
  d : D

def av (own : Nat → Option Addr) (B : AV) : AV := fun b => B b ∨ ∃ i, own i = some b
/-- the root of a list or dict that may be changed -/
def Rt (K : PySem.W.Frag) (H : Hp) (A : AV) (a : Addr) : D → Prop
  | .list ds => ∃ xs, H a = some (.lst xs) ∧ RpL K H A xs ds
  | .dict es => ∃ kvs, H a = some (.dK kvs) ∧ RpK K H A kvs es
  | .dicT es => ∃ kvs, H a = some (.dT kvs) ∧ RpT K H A kvs es
  | .obj C es => ∃ dx fs, H a = some (.ins C dx fs) ∧ RpF K H A fs es
  | _ => False
theorem Rt.tracked {K : PySem.W.Frag} {H : Hp} {A : AV} {a : Addr} {d : D} (r : Rt K H A a d) : ∃ o, H a = some o ∧ Mut (some o) := by
  cases d with
  | list ds => obtain ⟨xs, e, _⟩ := r; exact ⟨_, e, trivial⟩
  | dict es => obtain ⟨xs, e, _⟩ := r; exact ⟨_, e, trivial⟩
  | dicT es => obtain ⟨xs, e, _⟩ := r; exact ⟨_, e, trivial⟩
  | obj C es => obtain ⟨dx, fs, e, _⟩ := r; exact ⟨_, e, trivial⟩
  | _ => exact r.elim
theorem Rt.rp {K : PySem.W.Frag} {H : Hp} {A : AV} {a : Addr} {d : D} (r : Rt K H A a d) (n : ¬ A a) : Rp K H A (.ref a) d := by
  cases d with
  | list ds => obtain ⟨xs, e, l⟩ := r; exact .lst e n l
  | dict es => obtain ⟨xs, e, l⟩ := r; exact .dK e n l
  | dicT es => obtain ⟨xs, e, l⟩ := r; exact .dT e n l
  | obj C es => obtain ⟨dx, fs, e, l⟩ := r; exact .obj e n l
  | _ => exact r.elim
/-- A may be taken smaller as to the children; the root is kept -/
theorem Rt.mv {K : PySem.W.Frag} {H H' : Hp} {A A' : AV} {a : Addr} {d : D} (m : Mv K H H' A A') (h : ∀ o, H a = some o → H' a = some o) (r : Rt K H A a d) : Rt K H' A' a d := by
  cases d with
  | list ds => obtain ⟨xs, e, l⟩ := r; exact ⟨xs, h _ e, l.mv m⟩
  | dict es => obtain ⟨xs, e, l⟩ := r; exact ⟨xs, h _ e, l.mv m⟩
  | dicT es => obtain ⟨xs, e, l⟩ := r; exact ⟨xs, h _ e, l.mv m⟩
  | obj C es => obtain ⟨dx, fs, e, l⟩ := r; exact ⟨dx, fs, h _ e, l.mv m⟩
  | _ => exact r.elim
def SlOk (K : PySem.W.Frag) (A : AV) (H : Hp) (o : Option Addr) (sv : Option (Option V)) : Sl → Prop
  | .dead => True
  | .sh d => ∃ v, sv = some (some v) ∧ Rp K H A v d
  | .ow d => ∃ a, o = some a ∧ sv = some (some (.ref a)) ∧ Rt K H A a d

/-- a frame's state: H0 the heap at its entry; M: what it may change there; B: what nothing of it leans on; G: values kept beside the slots -/
structure VI (K : PySem.W.Frag) (M B : AV) (G : List (V × D)) (H0 : Hp) (own : Nat → Option Addr) (en : En) (σ : L2.St) (H : Hp) : Prop where
  len : σ.length = en.length
  old : ∀ b x, H0 b = some x → ¬ M b → H b = some x
  trk : ∀ b, H0 b ≠ none → H b ≠ none
  tup : ∀ b xs, H0 b = some (.tup xs) → H b = some (.tup xs)
  bT : ∀ b, B b → H b ≠ none
  bO : ∀ i a, own i = some a → ¬ B a
  nd : ∀ i j a, own i = some a → own j = some a → i = j
  new : ∀ i a, own i = some a → H0 a = none ∨ M a
  olt : ∀ i a, own i = some a → ∃ d, en[i]? = some (.ow d)
  sl : ∀ (i : Nat) s, en[i]? = some s → SlOk K (av own B) H (own i) σ[i]? s
  gh : ∀ p ∈ G, Rp K H (av own B) p.1 p.2

def RsOk (K : PySem.W.Frag) (B : AV) (own : Nat → Option Addr) (H0 : Hp) (r : Rs) (v : V) (H : Hp) : Prop :=
  match r.k with
  | .cl => Rp K H (av own B) v r.d
  | .fr => ∃ a, v = .ref a ∧ H0 a = none ∧ Rt K H (fun b => av own B b ∨ b = a) a r.d
  | .rt => ∃ i a, own i = some a ∧ v = .ref a ∧ Rt K H (av own B) a r.d
  | .al => Rp K H B v r.d
/-- what a def hands back: the root is new (b), or it is data -/
def RetOk (K : PySem.W.Frag) (B : AV) (H0 : Hp) (b : Bool) (d : D) (v : V) (H : Hp) : Prop :=
  if b = true then ∃ a, v = .ref a ∧ H0 a = none ∧ Rt K H (fun c => B c ∨ c = a) a d else Rp K H B v d

section
variable {K : PySem.W.Frag} {M B : AV} {G : List (V × D)} {H0 H H' : Hp} {own : Nat → Option Addr} {en : En} {σ : L2.St} {A : AV}

theorem Same.rd {a : Addr} {u : HO} (s : Same H H') (h : Rd H a u) : Rd H' a u := by
  rcases h with h | ⟨o, h⟩
  · exact .inl (s _ _ h)
  · exact .inr ⟨o, s _ _ h⟩
theorem Same.sqt {a : Addr} {xs : List V} (s : Same H H') (h : SqT K H a xs) : SqT K H' a xs := by
  rcases h with h | h
  · exact .inl (Same.rd s h)
  · exact .inr h
theorem rd_some {a : Addr} {u : HO} (h : Rd H a u) : H a ≠ none := by
  rcases h with h | ⟨o, h⟩ <;> (rw [h]; exact fun z => nomatch z)
theorem mv_same (s : Same H H') : Mv K H H' A A := ⟨fun _ _ h _ => s _ _ h, fun _ _ _ n => n, fun _ _ h => s _ _ h⟩
/-- .. all that stood avoids what is new -/
theorem mv_new (s : Same H H') {p : Addr} (hp : H p = none) : Mv K H H' A (fun b => A b ∨ b = p) :=
  ⟨fun _ _ h _ => s _ _ h, fun a u h n z => z.elim n fun z => ne_of_none h hp z, fun _ _ h => s _ _ h⟩
theorem mv_weak {A' : AV} (h : ∀ a, A' a → A a) : Mv K H H A A' := ⟨fun _ _ h _ => h, fun a _ _ n z => n (h a z), fun _ _ h => h⟩
/-- an owned object is changed -/
theorem mv_upd {x : Addr} {o : HO} (hx : A x) (mu : Mut (H x)) : Mv K H (upd H x o) A A := by
  have ne : ∀ b xs, H b = some (.tup xs) → b ≠ x := fun b xs e z => by subst z; rw [e] at mu; exact mu
  have nf : ∀ b u v, H b = some (.frz u v) → b ≠ x := fun b u v e z => by subst z; rw [e] at mu; exact mu
  refine ⟨fun a u h n => ?_, fun _ _ _ n => n, fun a xs h => ?_⟩
  · have hax : a ≠ x := fun z => n (z ▸ hx)
    rw [upd_ne hax]
    exact h
  · rw [upd_ne (ne _ _ h)]; exact h

theorem VI.same (I : VI K M B G H0 own en σ H) (s : Same H H') : VI K M B G H0 own en σ H' := by
  refine ⟨I.len, fun b x e n => s _ _ (I.old b x e n), fun b e z => I.trk b e (s.free z), fun b xs e => s _ _ (I.tup b xs e), fun b e z => I.bT b e (s.free z), I.bO, I.nd, I.new, I.olt, fun i t e => ?_, fun p hp => (I.gh p hp).mv (mv_same s)⟩
  have h := I.sl i t e
  cases t with
  | dead => trivial
  | sh d => obtain ⟨v, e1, r⟩ := h; exact ⟨v, e1, r.mv (mv_same s)⟩
  | ow d => obtain ⟨a, e1, e2, r⟩ := h; exact ⟨a, e1, e2, r.mv (mv_same s) fun o z => s _ _ z⟩
theorem VI.ownT (I : VI K M B G H0 own en σ H) {i : Nat} {a : Addr} (e : own i = some a) : ∃ d, en[i]? = some (.ow d) ∧ σ[i]? = some (some (.ref a)) ∧ Rt K H (av own B) a d := by
  obtain ⟨d, hd⟩ := I.olt i a e
  obtain ⟨a', e1, e2, r⟩ := I.sl i _ hd
  rw [e] at e1
  cases e1
  exact ⟨d, hd, e2, r⟩
theorem VI.avT (I : VI K M B G H0 own en σ H) {a : Addr} (h : av own B a) : H a ≠ none := by
  rcases h with h | ⟨i, h⟩
  · exact I.bT a h
  · obtain ⟨d, _, _, r⟩ := I.ownT h
    obtain ⟨o, e, _⟩ := r.tracked
    rw [e]; exact fun z => nomatch z
theorem VI.ownB (I : VI K M B G H0 own en σ H) {i : Nat} {a : Addr} (e : own i = some a) : ¬ B a := I.bO i a e
theorem RsOk.same {r : Rs} {v : V} {Hs : Hp} (h : RsOk K B own Hs r v H) (s : Same H H') : RsOk K B own Hs r v H' := by
  obtain ⟨k, d⟩ := r
  cases k with
  | cl => exact Rp.mv (mv_same s) h
  | fr => obtain ⟨a, e, n, t⟩ := h; exact ⟨a, e, n, t.mv (mv_same s) fun o z => s _ _ z⟩
  | rt => obtain ⟨i, a, e, n, t⟩ := h; exact ⟨i, a, e, n, t.mv (mv_same s) fun o z => s _ _ z⟩
  | al => exact Rp.mv (mv_same s) h
/-- an earlier start -/
theorem RsOk.from {r : Rs} {v : V} {H1 H2 H3 : Hp} (h : RsOk K B own H2 r v H3) (s : Same H1 H2) : RsOk K B own H1 r v H3 := by
  obtain ⟨k, d⟩ := r
  cases k with
  | cl => exact h
  | fr => obtain ⟨a, e, n, t⟩ := h; exact ⟨a, e, s.free n, t⟩
  | rt => exact h
  | al => exact h
/-- clean: not al, not rt -/
@[reducible] def Kd.clean : Kd → Bool
  | .cl => true
  | .fr => true
  | _ => false
theorem RsOk.rp (I : VI K M B G H0 own en σ H) {r : Rs} {v : V} (h : RsOk K B own H r v H') (s : Same H H') (c : r.k.clean = true) : Rp K H' (av own B) v r.d := by
  obtain ⟨k, d⟩ := r
  cases k with
  | cl => exact h
  | fr =>
    obtain ⟨a, rfl, n, t⟩ := h
    have hn : ¬ av own B a := fun z => I.avT z n
    refine (t.mv (mv_weak (A' := av own B) fun b z => .inl z) fun _ z => z).rp hn
  | rt => exact nomatch c
  | al => exact nomatch c
/-- whatever its kind -/
theorem RsOk.rpB (I : VI K M B G H0 own en σ H) {r : Rs} {v : V} (h : RsOk K B own H r v H') (s : Same H H') : Rp K H' B v r.d := by
  obtain ⟨k, d⟩ := r
  cases k with
  | cl => exact Rp.mv (mv_weak fun b z => .inl z) h
  | fr => exact Rp.mv (mv_weak fun b z => .inl z) (RsOk.rp I (r := ⟨.fr, d⟩) h s rfl)
  | rt =>
    obtain ⟨i, a, e, rfl, t⟩ := h
    exact (t.mv (mv_weak (A' := B) fun b z => .inl z) fun _ z => z).rp (I.ownB e)
  | al => exact h
/-- the children of a list or tuple that isn't al -/
@[reducible] def Kd.kids : Kd → Bool
  | .al => false
  | _ => true
theorem RsOk.kidsL (I : VI K M B G H0 own en σ H) {k : Kd} {ds : List D} {v : V} (h : RsOk K B own H ⟨k, .list ds⟩ v H') (s : Same H H') (c : k.kids = true) : ∃ a xs, v = .ref a ∧ H' a = some (.lst xs) ∧ RpL K H' (av own B) xs ds := by
  cases k with
  | cl =>
    cases h with
    | lst r n l => exact ⟨_, _, rfl, r, l⟩
  | fr =>
    obtain ⟨a, rfl, n, xs, e, l⟩ := h
    exact ⟨a, xs, rfl, e, l.mv (mv_weak fun b z => .inl z)⟩
  | rt => obtain ⟨i, a, e, rfl, xs, e2, l⟩ := h; exact ⟨a, xs, rfl, e2, l⟩
  | al => exact nomatch c
theorem RsOk.list (I : VI K M B G H0 own en σ H) {k : Kd} {ds : List D} {v : V} (h : RsOk K B own H ⟨k, .list ds⟩ v H') (s : Same H H') : ∃ a xs, v = .ref a ∧ H' a = some (.lst xs) ∧ RpL K H' B xs ds := by
  have h2 : Rp K H' B v (.list ds) := RsOk.rpB I h s
  cases h2 with
  | lst r n l => exact ⟨_, _, rfl, r, l⟩
theorem RsOk.tupB (I : VI K M B G H0 own en σ H) {k : Kd} {ds : List D} {v : V} (h : RsOk K B own H ⟨k, .tuple ds⟩ v H') (s : Same H H') : ∃ a xs, v = .ref a ∧ H' a = some (.tup xs) ∧ RpL K H' B xs ds := by
  have h2 : Rp K H' B v (.tuple ds) := RsOk.rpB I h s
  cases h2 with
  | tup r l => exact ⟨_, _, rfl, r, l⟩
theorem RsOk.int (I : VI K M B G H0 own en σ H) {k : Kd} {i : Int} {v : V} (h : RsOk K B own H ⟨k, .int i⟩ v H') (s : Same H H') : v = .int i := by
  have h2 : Rp K H' B v (.int i) := RsOk.rpB I h s
  cases h2; rfl
theorem RsOk.str (I : VI K M B G H0 own en σ H) {k : Kd} {i : Str} {v : V} (h : RsOk K B own H ⟨k, .str i⟩ v H') (s : Same H H') : v = .str i := by
  have h2 : Rp K H' B v (.str i) := RsOk.rpB I h s
  cases h2; rfl
theorem RsOk.bool (I : VI K M B G H0 own en σ H) {k : Kd} {i : Bool} {v : V} (h : RsOk K B own H ⟨k, .bool i⟩ v H') (s : Same H H') : v = .bl i := by
  have h2 : Rp K H' B v (.bool i) := RsOk.rpB I h s
  cases h2; rfl

/-! ### slots are stored -/
def own0 (own : Nat → Option Addr) (i : Nat) : Nat → Option Addr := fun j => if j = i then none else own j
theorem own0_le {b : Addr} {i : Nat} (h : av (own0 own i) B b) : av own B b := by
  rcases h with h | ⟨j, h⟩
  · exact .inl h
  · unfold own0 at h
    split at h
    · cases h
    · exact .inr ⟨j, h⟩
theorem VI.setSh (I : VI K M B G H0 own en σ H) {i : Nat} {v : V} {d : D} (hi : i < en.length) (r : Rp K H (av own B) v d) : VI K M B G H0 (own0 own i) (en.set i (.sh d)) (σ.set i (some v)) H := by
  have w : Mv K H H (av own B) (av (own0 own i) B) := mv_weak fun b z => own0_le z
  refine ⟨by simp [I.len], I.old, I.trk, I.tup, I.bT, fun j a e => ?_, fun j k a e1 e2 => ?_, fun j a e => ?_, fun j a e => ?_, fun j t e => ?_, fun p hp => (I.gh p hp).mv w⟩
  · unfold own0 at e
    split at e
    · cases e
    · exact I.bO j a e
  · unfold own0 at e1 e2
    split at e1
    · cases e1
    · split at e2
      · cases e2
      · exact I.nd j k a e1 e2
  · unfold own0 at e
    split at e
    · cases e
    · exact I.new j a e
  · unfold own0 at e
    split at e
    · cases e
    · rename_i hne
      obtain ⟨d', hd⟩ := I.olt j a e
      exact ⟨d', by rw [List.getElem?_set_ne (Ne.symm hne)]; exact hd⟩
  · by_cases hj : j = i
    · subst hj
      rw [List.getElem?_set_self hi] at e
      cases e
      exact ⟨v, by rw [List.getElem?_set_self (by rw [I.len]; exact hi)], r.mv w⟩
    · rw [List.getElem?_set_ne (Ne.symm hj)] at e
      have h := I.sl j t e
      have eo : own0 own i j = own j := by unfold own0; rw [if_neg hj]
      rw [List.getElem?_set_ne (Ne.symm hj), eo]
      cases t with
      | dead => trivial
      | sh d' => obtain ⟨v', e1, r'⟩ := h; exact ⟨v', e1, r'.mv w⟩
      | ow d' => obtain ⟨a, e1, e2, r'⟩ := h; exact ⟨a, e1, e2, r'.mv w fun _ z => z⟩
def own1 (own : Nat → Option Addr) (i : Nat) (a : Addr) : Nat → Option Addr := fun j => if j = i then some a else own j
theorem own1_le {a b : Addr} {i : Nat} (h : av (own1 own i a) B b) : av own B b ∨ b = a := by
  rcases h with h | ⟨j, h⟩
  · exact .inl (.inl h)
  · unfold own1 at h
    split at h
    · exact .inr (Option.some.inj h).symm
    · exact .inl (.inr ⟨j, h⟩)
/-- a new root (from the heap H on) is stored -/
theorem VI.setFr (I : VI K M B G H0 own en σ H) (s : Same H H') {i : Nat} {a : Addr} {d : D} (hi : i < en.length) (hn : H a = none) (r : Rt K H' (fun b => av own B b ∨ b = a) a d) :
    VI K M B G H0 (own1 own i a) (en.set i (.ow d)) (σ.set i (some (.ref a))) H' := by
  have w : Mv K H H' (av own B) (av (own1 own i a) B) :=
    ⟨fun _ _ h _ => s _ _ h, fun b u h n z => (own1_le z).elim n fun z => ne_of_none h hn z, fun _ _ h => s _ _ h⟩
  have fresh : ∀ j, own j ≠ some a := fun j e => I.avT (.inr ⟨j, e⟩) hn
  refine ⟨by simp [I.len], fun b x e n => s _ _ (I.old b x e n), fun b e z => I.trk b e (s.free z), fun b xs e => s _ _ (I.tup b xs e), fun b e z => I.bT b e (s.free z), fun j b e => ?_, fun j k b e1 e2 => ?_, fun j b e => ?_, fun j b e => ?_, fun j t e => ?_, fun p hp => (I.gh p hp).mv w⟩
  · unfold own1 at e
    split at e
    · cases e
      exact fun z => I.bT _ z hn
    · exact I.bO j b e
  · unfold own1 at e1 e2
    split at e1
    · cases e1
      split at e2
      · rename_i h1 h2; exact h1.trans h2.symm
      · exact absurd e2 (fresh k)
    · split at e2
      · cases e2; exact absurd e1 (fresh j)
      · exact I.nd j k b e1 e2
  · unfold own1 at e
    split at e
    · cases e
      left
      cases q : H0 a with
      | none => rfl
      | some x => exact absurd hn (I.trk a (by rw [q]; exact fun z => nomatch z))
    · exact I.new j b e
  · unfold own1 at e
    split at e
    · rename_i h1
      subst h1
      exact ⟨d, by rw [List.getElem?_set_self hi]⟩
    · rename_i hne
      obtain ⟨d', hd⟩ := I.olt j b e
      exact ⟨d', by rw [List.getElem?_set_ne (Ne.symm hne)]; exact hd⟩
  · by_cases hj : j = i
    · subst hj
      rw [List.getElem?_set_self hi] at e
      cases e
      refine ⟨a, by unfold own1; rw [if_pos rfl], by rw [List.getElem?_set_self (by rw [I.len]; exact hi)], r.mv (mv_weak fun b z => own1_le z) fun _ z => z⟩
    · rw [List.getElem?_set_ne (Ne.symm hj)] at e
      have h := I.sl j t e
      have eo : own1 own i a j = own j := by unfold own1; rw [if_neg hj]
      rw [List.getElem?_set_ne (Ne.symm hj), eo]
      cases t with
      | dead => trivial
      | sh d' => obtain ⟨v', e1, r'⟩ := h; exact ⟨v', e1, r'.mv w⟩
      | ow d' => obtain ⟨b, e1, e2, r'⟩ := h; exact ⟨b, e1, e2, r'.mv w fun o z => s _ _ z⟩

/-! ### wiping slots that own nothing; ghosts -/
@[reducible] def gt : En → Nat → Option Sl
  | [], _ => none
  | s :: _, 0 => some s
  | _ :: en, i + 1 => gt en i
theorem gt_eq : ∀ (en : En) (i : Nat), gt en i = en[i]?
  | [], _ => rfl
  | _ :: _, 0 => rfl
  | _ :: en, i + 1 => gt_eq en i
@[reducible] def st : En → Nat → Sl → En
  | [], _, _ => []
  | _ :: en, 0, t => t :: en
  | s :: en, i + 1, t => s :: st en i t
theorem st_eq : ∀ (en : En) (i : Nat) (t : Sl), st en i t = en.set i t
  | [], _, _ => rfl
  | _ :: _, 0, _ => rfl
  | s :: en, i + 1, t => congrArg (s :: ·) (st_eq en i t)
@[reducible] def wipeE (en : En) : List Nat → En
  | [] => en
  | v :: vs => st (wipeE en vs) v .dead
def unOw : Option Sl → Bool
  | some (.sh _) => true
  | some .dead => true
  | _ => false
def noOw (en : En) (vs : List Nat) : Bool := vs.all fun i => unOw en[i]?
theorem noOw_lt {en : En} {vs : List Nat} (h : noOw en vs = true) : ∀ j ∈ vs, j < en.length := fun j hj => by
  have := List.all_eq_true.mp h j hj
  cases q : en[j]? with
  | none => rw [q] at this; exact nomatch this
  | some s => exact (List.getElem?_eq_some_iff.mp q).1
theorem wipeE_length (en : En) : ∀ vs : List Nat, (wipeE en vs).length = en.length
  | [] => rfl
  | v :: vs => by unfold wipeE; rw [st_eq, List.length_set, wipeE_length en vs]
theorem wipeE_get {en : En} {i : Nat} {s : Sl} : ∀ {vs : List Nat}, (wipeE en vs)[i]? = some s → s = .dead ∨ (en[i]? = some s ∧ i ∉ vs)
  | [], h => .inr ⟨h, by simp⟩
  | v :: vs, h => by
    unfold wipeE at h
    rw [st_eq] at h
    by_cases hi : v = i
    · subst hi
      rw [List.getElem?_set] at h
      split at h
      · split at h
        · exact .inl (Option.some.inj h).symm
        · cases h
      · rename_i z; exact absurd rfl z
    · rw [List.getElem?_set_ne hi] at h
      rcases wipeE_get h with q | ⟨q1, q2⟩
      · exact .inl q
      · exact .inr ⟨q1, by simp only [List.mem_cons, not_or]; exact ⟨fun e => hi e.symm, q2⟩⟩
theorem wipeE_keep {en : En} {i : Nat} : ∀ {vs : List Nat}, i ∉ vs → (wipeE en vs)[i]? = en[i]?
  | [], _ => rfl
  | v :: vs, h => by
    unfold wipeE
    rw [st_eq, List.getElem?_set_ne (fun e => h (by rw [e]; exact List.mem_cons_self)), wipeE_keep (fun z => h (List.mem_cons_of_mem _ z))]
theorem wipe_keep {σ : L2.St} {i : Nat} : ∀ {vs : List Nat}, i ∉ vs → (L2.wipe σ vs)[i]? = σ[i]?
  | [], _ => rfl
  | v :: vs, h => by
    unfold L2.wipe
    rw [List.getElem?_set_ne (fun e => h (by rw [e]; exact List.mem_cons_self)), wipe_keep (fun z => h (List.mem_cons_of_mem _ z))]
theorem noOw_own {K : PySem.W.Frag} {M B : AV} {G : List (V × D)} {H0 H : Hp} {own : Nat → Option Addr} {en : En} {σ : L2.St} (I : VI K M B G H0 own en σ H) {vs : List Nat} (h : noOw en vs = true) : ∀ i a, own i = some a → i ∉ vs := fun i a e hi => by
  obtain ⟨d, hd⟩ := I.olt i a e
  have := List.all_eq_true.mp h i hi
  rw [hd] at this
  exact nomatch this
/-- an object of B is changed -/
theorem VI.updB (I : VI K M B G H0 own en σ H) {x : Addr} {o : HO} (hx : B x) (h0 : H0 x = none) (mu : Mut (H x)) : VI K M B G H0 own en σ (upd H x o) := by
  have w : Mv K H (upd H x o) (av own B) (av own B) := mv_upd (.inl hx) mu
  have ne0 : ∀ b u, H0 b = some u → b ≠ x := fun b u e => ne_of_none e h0
  refine ⟨I.len, fun b u e n => by rw [upd_ne (ne0 b u e)]; exact I.old b u e n, fun b e => ?_, fun b xs e => by rw [upd_ne (ne0 b _ e)]; exact I.tup b xs e, fun b e => ?_, I.bO, I.nd, I.new, I.olt, fun i t e => ?_, fun p hp => (I.gh p hp).mv w⟩
  · by_cases z : b = x
    · rw [z, upd_same]; exact fun y => nomatch y
    · rw [upd_ne z]; exact I.trk b e
  · by_cases z : b = x
    · rw [z, upd_same]; exact fun y => nomatch y
    · rw [upd_ne z]; exact I.bT b e
  · have h := I.sl i t e
    cases t with
    | dead => trivial
    | sh d => obtain ⟨v, e1, r⟩ := h; exact ⟨v, e1, r.mv w⟩
    | ow d =>
      obtain ⟨a, e1, e2, r⟩ := h
      have ha : a ≠ x := fun z => I.bO i a e1 (z ▸ hx)
      exact ⟨a, e1, e2, r.mv w fun o z => by rw [upd_ne ha]; exact z⟩
theorem VI.wipe (I : VI K M B G H0 own en σ H) {vs : List Nat} (h : noOw en vs = true) : VI K M B G H0 own (wipeE en vs) (L2.wipe σ vs) H := by
  have hno := noOw_own I h
  refine ⟨by rw [wipeE_length, L2.wipe_length, I.len], I.old, I.trk, I.tup, I.bT, I.bO, I.nd, I.new, fun i a e => ?_, fun i t e => ?_, I.gh⟩
  · obtain ⟨d, hd⟩ := I.olt i a e
    exact ⟨d, by rw [wipeE_keep (hno i a e)]; exact hd⟩
  · rcases wipeE_get e with q | ⟨q1, q2⟩
    · subst q; trivial
    · rw [wipe_keep q2]
      exact I.sl i t q1
theorem VI.ghost {G' : List (V × D)} (I : VI K M B G H0 own en σ H) (h : ∀ p ∈ G', Rp K H (av own B) p.1 p.2) : VI K M B G' H0 own en σ H :=
  ⟨I.len, I.old, I.trk, I.tup, I.bT, I.bO, I.nd, I.new, I.olt, I.sl, h⟩
theorem VI.fewer {G' : List (V × D)} (I : VI K M B G H0 own en σ H) (h : ∀ p ∈ G', p ∈ G) : VI K M B G' H0 own en σ H := I.ghost fun p hp => I.gh p (h p hp)
end
end VL

/-! VE: expressions over plain data. -/
namespace VL
open PySem PySem.Spec PyProof.Rows L2

abbrev WE := En → (Rs → Prop) → Prop
abbrev WT := En → (Bool → Prop) → Prop
abbrev WA := En → (List Rs → Prop) → Prop

def ImE (K : PySem.W.Frag) (t : TE) (f : WE) : Prop := ∀ {M B : AV} {G : List (V × D)} {H0 H : Hp} {own : Nat → Option Addr} {en : En} {σ : L2.St} {P : Rs → Prop} {Q : VK},
  VI K M B G H0 own en σ H → f en P → (∀ r v H', P r → Same H H' → RsOk K B own H r v H' → Q v H') → t σ H Q
def ImT (K : PySem.W.Frag) (t : TT) (f : WT) : Prop := ∀ {M B : AV} {G : List (V × D)} {H0 H : Hp} {own : Nat → Option Addr} {en : En} {σ : L2.St} {P : Bool → Prop} {Q : Bool → Hp → Prop},
  VI K M B G H0 own en σ H → f en P → (∀ b H', P b → Same H H' → Q b H') → t σ H Q
inductive RsAll (K : PySem.W.Frag) (B : AV) (own : Nat → Option Addr) (Hs : Hp) (H : Hp) : List Rs → List V → Prop
  | nil : RsAll K B own Hs H [] []
  | cons {r : Rs} {v : V} {rs : List Rs} {vs : List V} : RsOk K B own Hs r v H → RsAll K B own Hs H rs vs → RsAll K B own Hs H (r :: rs) (v :: vs)
def ImA (K : PySem.W.Frag) (t : TA) (f : WA) : Prop := ∀ {M B : AV} {G : List (V × D)} {H0 H : Hp} {own : Nat → Option Addr} {en : En} {σ : L2.St} {P : List Rs → Prop} {Q : List V → Hp → Prop},
  VI K M B G H0 own en σ H → f en P → (∀ rs vs H', P rs → Same H H' → RsAll K B own H H' rs vs → Q vs H') → t σ H Q
structure VE (X : Cx) (e : Expr) (f : WE) : Prop where
  ex : ∃ t, PE X e t ∧ ImE X.K t f
structure VT (X : Cx) (e : Expr) (f : WT) : Prop where
  ex : ∃ t, PT X e t ∧ ImT X.K t f
structure VW (X : Cx) (e : Expr) (f : WT) : Prop where
  ex : ∃ t, PW X e t ∧ ImT X.K t f
structure VA (X : Cx) (es : List Expr) (f : WA) : Prop where
  ex : ∃ t, PA X es t ∧ ImA X.K t f

section
variable {K : PySem.W.Frag} {B : AV} {own : Nat → Option Addr} {Hs H H' : Hp}
theorem RsAll.same : ∀ {rs : List Rs} {vs : List V}, RsAll K B own Hs H rs vs → Same H H' → RsAll K B own Hs H' rs vs
  | _, _, .nil, _ => .nil
  | _, _, .cons h t, s => .cons (h.same s) (RsAll.same t s)
theorem RsAll.from {H0 : Hp} : ∀ {rs : List Rs} {vs : List V}, RsAll K B own Hs H rs vs → Same H0 Hs → RsAll K B own H0 H rs vs
  | _, _, .nil, _ => .nil
  | _, _, .cons h t, s => .cons (h.from s) (RsAll.from t s)
theorem RsAll.rpB {M : AV} {G : List (V × D)} {H0 : Hp} {en : En} {σ : L2.St} (I : VI K M B G H0 own en σ Hs) (s : Same Hs H) : ∀ {rs : List Rs} {vs : List V}, RsAll K B own Hs H rs vs → RpL K H B vs (rs.map Rs.d)
  | _, _, .nil => .nil
  | _, _, .cons h t => .cons (h.rpB I s) (RsAll.rpB I s t)
/-- all clean (a fresh child becomes plain data) -/
@[reducible] def bor (a b : Bool) : Bool := match a with
  | true => true
  | false => b
@[reducible] def band (a b : Bool) : Bool := match a with
  | true => b
  | false => false
@[reducible] def clean : List Rs → Bool
  | [] => true
  | r :: rs => band (bor r.k.clean (flat r.d)) (clean rs)
theorem clean_cons (r : Rs) (rs : List Rs) : clean (r :: rs) = ((r.k.clean || flat r.d) && clean rs) := by
  show band (bor r.k.clean (flat r.d)) (clean rs) = _
  cases r.k.clean <;> cases flat r.d <;> cases clean rs <;> rfl
theorem clean_nil : clean [] = true := rfl
@[reducible] def dls : List Rs → List D
  | [] => []
  | r :: rs => r.d :: dls rs
theorem dls_eq : ∀ rs : List Rs, dls rs = rs.map Rs.d
  | [] => rfl
  | r :: rs => congrArg (r.d :: ·) (dls_eq rs)
theorem RsAll.rp {M : AV} {G : List (V × D)} {H0 : Hp} {en : En} {σ : L2.St} (I : VI K M B G H0 own en σ Hs) (s : Same Hs H) : ∀ {rs : List Rs} {vs : List V}, RsAll K B own Hs H rs vs → clean rs = true → RpL K H (av own B) vs (rs.map Rs.d)
  | _, _, .nil, _ => .nil
  | _, _, .cons (r := r) (rs := rs) h t, c => by
    have c' : (r.k.clean || flat r.d) = true ∧ clean rs = true := by
      rw [clean_cons] at c
      exact Bool.and_eq_true_iff.mp c
    refine .cons ?_ (RsAll.rp I s t c'.2)
    rcases Bool.or_eq_true_iff.mp c'.1 with z | z
    · exact h.rp I s z
    · exact (h.rpB I s).flat_any z
end

section
variable {X : Cx} {a b c e : Expr} {es : List Expr} {pos : Pos} {fa fb fc : WE} {K : PySem.W.Frag}

/-! ### names, constants -/
@[reducible] def wVar (i : Nat) : WE := fun en P => match gt en i with
  | some (.sh d) => P ⟨.cl, d⟩
  | some (.ow d) => P ⟨.rt, d⟩
  | _ => False
theorem imVar (i : Nat) : ImE K (tVar i) (wVar i) := by
  intro M B G H0 H own en σ P Q I h k
  unfold wVar at h
  rw [gt_eq] at h
  split at h
  · rename_i d hd
    obtain ⟨v, e1, r⟩ := I.sl i _ hd
    exact ⟨v, e1, k _ _ _ h (.refl _) r⟩
  · rename_i d hd
    obtain ⟨a, e0, e1, r⟩ := I.sl i _ hd
    exact ⟨_, e1, k _ _ _ h (.refl _) ⟨i, a, e0, rfl, r⟩⟩
  · exact h.elim
theorem ve_var (i : Nat) {x : Str} (hN : X.N[i]? = some x := by rfl) (hv : Vis X.env.scope x := by first | exact Or.inl rfl | exact Or.inr (Or.inl rfl) | exact Or.inr (Or.inr rfl)) (hd : (x == ("__debug__" : Str)) = false := by decide)
    (hcd : (x == ("__classdict__" : Str)) = false := by decide) : VE X (.Name x pos) (wVar i) := ⟨⟨_, pv i hN hv hd hcd, imVar i⟩⟩
@[reducible] def wC (d : D) : WE := fun _ P => P ⟨.cl, d⟩
theorem imC {v : V} {d : D} (h : ∀ K H A, Rp K H A v d) : ImE K (tC v) (wC d) := fun _ hp k => k _ _ _ hp (.refl _) (h _ _ _)
theorem ve_int {i j} : VE X (.Constant (.int i) j pos) (wC (.int i)) := ⟨⟨_, pe_int, imC fun _ _ _ => .int i⟩⟩
theorem ve_str {i j} : VE X (.Constant (.str i) j pos) (wC (.str i)) := ⟨⟨_, pe_str, imC fun _ _ _ => .str i⟩⟩
theorem ve_bl {i j} : VE X (.Constant (.bool i) j pos) (wC (.bool i)) := ⟨⟨_, pe_bl, imC fun _ _ _ => .bl i⟩⟩
theorem ve_non {j} : VE X (.Constant .none j pos) (wC .none) := ⟨⟨_, pe_non, imC fun _ _ _ => .non⟩⟩
/-- a module's constant that is an int or a text -/
theorem ve_glob {x : Str} {v : V} {d : D} {u : Value} (hg : Gl X x) (hm : X.mg x = some u) (r : RelV v u) (h : ∀ K H A, Rp K H A v d) (hd : (x == ("__debug__" : Str)) = false := by decide) : VE X (.Name x pos) (wC d) := ⟨⟨_, pe_glob hg hm r hd, imC h⟩⟩
/-- a module's constant that is a tuple of the written part -/
theorem ve_globT {x : Str} {p : Addr} {ds : List D} (hg : Gl X x) (hm : X.mg x = some (.ref p)) (h : ∀ H A, Rp X.K H A (.ref p) (.wt ds)) (hd : (x == ("__debug__" : Str)) = false := by decide) : VE X (.Name x pos) (wC (.wt ds)) :=
  ⟨⟨_, pe_glob (v := .ref p) hg hm rfl hd, fun _ hp k => k _ _ _ hp (.refl _) (h _ _)⟩⟩

/-! ### operators by values -/
abbrev G2 := Rs → Rs → (Rs → Prop) → Prop
def OpI (K : PySem.W.Frag) (r : R2) (g : G2) : Prop := ∀ {M B : AV} {G : List (V × D)} {H0 Hs H : Hp} {own : Nat → Option Addr} {en : En} {σ : L2.St} {x y : V} {rx ry : Rs} {P : Rs → Prop} {Q : VK},
  VI K M B G H0 own en σ Hs → Same Hs H → RsOk K B own Hs rx x H → RsOk K B own Hs ry y H → g rx ry P → (∀ rz z H', P rz → Same H H' → RsOk K B own Hs rz z H' → Q z H') → r x y H Q
@[reducible] def wOp (g : G2) (fa fb : WE) : WE := fun en P => fa en fun r1 => fb en fun r2 => g r1 r2 P
theorem imOp {r : R2} {g : G2} {ta tb : TE} (o : OpI K r g) (ha : ImE K ta fa) (hb : ImE K tb fb) : ImE K (tOp r ta tb) (wOp g fa fb) := by
  intro M B G H0 H own en σ P Q I h k
  refine ha I h fun r1 v1 H1 h1 s1 k1 => ?_
  refine hb (I.same s1) h1 fun r2 v2 H2 h2 s2 k2 => ?_
  exact o I (s1.trans s2) (k1.same s2) (k2.from s1) h2 fun rz z H3 h3 s3 k3 => k _ _ _ h3 ((s1.trans s2).trans s3) k3
theorem OpI.or {r r' : R2} {g g' : G2} (h : OpI K r g) (h' : OpI K r' g') : OpI K (fun x y H Q => r x y H Q ∨ r' x y H Q) (fun a b P => g a b P ∨ g' a b P) := by
  intro M B G H0 Hs H own en σ x y rx ry P Q I s k1 k2 hg k
  rcases hg with hg | hg
  · exact .inl (h I s k1 k2 hg k)
  · exact .inr (h' I s k1 k2 hg k)
/-- the same rule, another shape of what it asks -/
theorem OpI.cut {r : R2} {g g' : G2} (h : OpI K r g) (w : ∀ a b P, g' a b P → g a b P) : OpI K r g' := fun I s k1 k2 hg k => h I s k1 k2 (w _ _ _ hg) k
@[reducible] def gInt (C : Int → Int → Prop) (g : Int → Int → Int) : G2 := fun r1 r2 P => match r1.d, r2.d with
  | .int i, .int j => C i j ∧ P ⟨.cl, .int (g i j)⟩
  | _, _ => False
@[reducible] def gInt0 (g : Int → Int → Int) : G2 := fun r1 r2 P => match r1.d, r2.d with
  | .int i, .int j => P ⟨.cl, .int (g i j)⟩
  | _, _ => False
@[reducible] def gIntB (g : Int → Int → Bool) : G2 := fun r1 r2 P => match r1.d, r2.d with
  | .int i, .int j => P ⟨.cl, .bool (g i j)⟩
  | _, _ => False
theorem opi_int {C : Int → Int → Prop} {g : Int → Int → Int} : OpI K (rI C fun i j => .int (g i j)) (gInt C g) := by
  intro M B G H0 Hs H own en σ x y rx ry P Q I s k1 k2 hg k
  obtain ⟨k1', d1⟩ := rx
  obtain ⟨k2', d2⟩ := ry
  unfold gInt at hg
  split at hg
  · rename_i i j e1 e2
    cases e1
    cases e2
    exact ⟨i, j, k1.int I s, k2.int I s, hg.1, k _ _ _ hg.2 (.refl _) (Rp.int _)⟩
  · exact hg.elim
theorem opi_int0 {g : Int → Int → Int} : OpI K (rI0 fun i j => .int (g i j)) (gInt0 g) := by
  intro M B G H0 Hs H own en σ x y rx ry P Q I s k1 k2 hg k
  obtain ⟨k1', d1⟩ := rx
  obtain ⟨k2', d2⟩ := ry
  unfold gInt0 at hg
  split at hg
  · rename_i i j e1 e2
    cases e1
    cases e2
    exact ⟨i, j, k1.int I s, k2.int I s, k _ _ _ hg (.refl _) (Rp.int _)⟩
  · exact hg.elim
theorem opi_intB {g : Int → Int → Bool} : OpI K (rI0 fun i j => .bl (g i j)) (gIntB g) := by
  intro M B G H0 Hs H own en σ x y rx ry P Q I s k1 k2 hg k
  obtain ⟨k1', d1⟩ := rx
  obtain ⟨k2', d2⟩ := ry
  unfold gIntB at hg
  split at hg
  · rename_i i j e1 e2
    cases e1
    cases e2
    exact ⟨i, j, k1.int I s, k2.int I s, k _ _ _ hg (.refl _) (Rp.bl _)⟩
  · exact hg.elim
/-- + of ints, texts, lists -/
@[reducible] def gAdd : G2 := fun r1 r2 P => match r1.d, r2.d with
  | .int i, .int j => P ⟨.cl, .int (i + j)⟩
  | .str x, .str y => x.length + y.length ≤ sizeLine ∧ P ⟨.cl, .str (x ++ y)⟩
  | .list xs, .list ys => r1.k.kids = true ∧ r2.k.kids = true ∧ xs.length + ys.length ≤ sizeLine ∧ P ⟨.fr, .list (xs ++ ys)⟩
  | .tuple xs, .tuple ys => xs ≠ [] ∧ ys ≠ [] ∧ clean [r1, r2] = true ∧ xs.length + ys.length ≤ sizeLine ∧ P ⟨.cl, .tuple (xs ++ ys)⟩
  | _, _ => False
def rAddAll (K : PySem.W.Frag) : R2 := fun x y H Q => ((∃ i j, x = .int i ∧ y = .int j ∧ Q (.int (i + j)) H) ∨ (∃ i j, x = .str i ∧ y = .str j ∧ i.length + j.length ≤ sizeLine ∧ Q (.str (i ++ j)) H)) ∨ (rCat x y H Q ∨ rCatT K x y H Q)
theorem op_addAll : OpR X (binaryOp .Add) (rAddAll X.K) := (op_add.or op_add_str).or (op_cat.or op_catT)
theorem RsOk.tupL {M : AV} {G : List (V × D)} {H0 Hs H : Hp} {B : AV} {own : Nat → Option Addr} {en : En} {σ : L2.St} (I : VI K M B G H0 own en σ Hs) {k : Kd} {ds : List D} {v : V} (h : RsOk K B own Hs ⟨k, .tuple ds⟩ v H) (s : Same Hs H) (c : (k.clean || flat (.tuple ds)) = true) :
    ∃ a xs, v = .ref a ∧ H a = some (.tup xs) ∧ RpL K H (av own B) xs ds := by
  have h2 : Rp K H (av own B) v (.tuple ds) := by
    rcases Bool.or_eq_true_iff.mp c with z | z
    · exact h.rp I s z
    · exact (h.rpB I s).flat_any z
  cases h2 with
  | tup r l => exact ⟨_, _, rfl, r, l⟩
theorem same_upd {H : Hp} {p : Addr} {o : HO} (h : H p = none) : Same H (upd H p o) := fun b x e => by
  rw [upd_ne (ne_of_none e h)]
  exact e
/-- a new list of clean children -/
theorem fresh_list {M : AV} {G : List (V × D)} {H0 Hs H : Hp} {B : AV} {own : Nat → Option Addr} {en : En} {σ : L2.St} (I : VI K M B G H0 own en σ Hs) (s : Same Hs H) {p : Addr} {xs : List V} {ds : List D} (hp : H p = none) (l : RpL K H (av own B) xs ds) :
    RsOk K B own Hs ⟨.fr, .list ds⟩ (.ref p) (upd H p (.lst xs)) :=
  ⟨p, rfl, s.free hp, xs, upd_same, l.mv (mv_new (same_upd hp) hp)⟩
theorem opi_add : OpI K (rAddAll K) gAdd := by
  intro M B G H0 Hs H own en σ x y rx ry P Q I s k1 k2 hg k
  obtain ⟨k1', d1⟩ := rx
  obtain ⟨k2', d2⟩ := ry
  unfold gAdd at hg
  split at hg
  · rename_i i j e1 e2
    cases e1
    cases e2
    exact .inl (.inl ⟨i, j, k1.int I s, k2.int I s, k _ _ _ hg (.refl _) (Rp.int _)⟩)
  · rename_i i j e1 e2
    cases e1
    cases e2
    exact .inl (.inr ⟨i, j, k1.str I s, k2.str I s, hg.1, k _ _ _ hg.2 (.refl _) (Rp.str _)⟩)
  · rename_i xs ys e1 e2
    cases e1
    cases e2
    obtain ⟨c1, c2, hz, hP⟩ := hg
    obtain ⟨a, vs, rfl, ea, la⟩ := k1.kidsL I s c1
    obtain ⟨b, ws, rfl, eb, lb⟩ := k2.kidsL I s c2
    refine .inr (.inl ⟨a, b, vs, ws, rfl, rfl, ea, eb, by rw [la.length, lb.length]; exact hz, fun p hp => ?_⟩)
    exact k _ _ _ hP (same_upd hp) (fresh_list I s hp (la.append lb))
  · rename_i xs ys e1 e2
    cases e1
    cases e2
    obtain ⟨n1, n2, c, hz, hP⟩ := hg
    have c' : (k1'.clean || flat (.tuple xs)) = true ∧ (k2'.clean || flat (.tuple ys)) = true := by
      rw [clean_cons, clean_cons, clean_nil, Bool.and_true] at c
      exact Bool.and_eq_true_iff.mp c
    obtain ⟨a, vs, rfl, ea, la⟩ := k1.tupL I s c'.1
    obtain ⟨b, ws, rfl, eb, lb⟩ := k2.tupL I s c'.2
    have w : vs ≠ [] := fun z => n1 (List.eq_nil_of_length_eq_zero (by rw [← la.length, z]; rfl))
    have w2 : ws ≠ [] := fun z => n2 (List.eq_nil_of_length_eq_zero (by rw [← lb.length, z]; rfl))
    refine .inr (.inr ⟨a, b, vs, ws, rfl, rfl, .of ea, .of eb, w, by rw [la.length, lb.length]; exact hz, fun z => absurd z w2, fun _ p hp => ?_⟩)
    exact k _ _ _ hP (same_upd hp) (Rp.tup upd_same ((la.append lb).mv (mv_same (same_upd hp))))
  · exact hg.elim
theorem ve_add (ha : VE X a fa) (hb : VE X b fb) : VE X (.BinOp a .Add b pos) (wOp gAdd fa fb) :=
  let ⟨ta, p1, i1⟩ := ha.ex
  let ⟨tb, p2, i2⟩ := hb.ex
  ⟨⟨_, pe_op op_addAll p1 p2, imOp opi_add i1 i2⟩⟩
theorem ve_opG {op : Operator} {r : R2} {g : G2} (ho : OpR X (binaryOp op) r) (hi : OpI X.K r g) (ha : VE X a fa) (hb : VE X b fb) : VE X (.BinOp a op b pos) (wOp g fa fb) :=
  let ⟨ta, p1, i1⟩ := ha.ex
  let ⟨tb, p2, i2⟩ := hb.ex
  ⟨⟨_, pe_op ho p1 p2, imOp hi i1 i2⟩⟩
theorem ve_sub (ha : VE X a fa) (hb : VE X b fb) : VE X (.BinOp a .Sub b pos) (wOp (gInt0 fun i j => i - j) fa fb) := ve_opG op_sub opi_int0 ha hb
theorem ve_mod (ha : VE X a fa) (hb : VE X b fb) : VE X (.BinOp a .Mod b pos) (wOp (gInt (fun _ j => 0 < j) fun i j => i % j) fa fb) := ve_opG op_mod opi_int ha hb
theorem ve_fdiv (ha : VE X a fa) (hb : VE X b fb) : VE X (.BinOp a .FloorDiv b pos) (wOp (gInt CDiv fun i j => i / j) fa fb) := ve_opG op_fdiv opi_int ha hb
theorem ve_pow (ha : VE X a fa) (hb : VE X b fb) : VE X (.BinOp a .Pow b pos) (wOp (gInt CPow fun i j => i ^ j.toNat) fa fb) := ve_opG op_pow opi_int ha hb
theorem ve_shl (ha : VE X a fa) (hb : VE X b fb) : VE X (.BinOp a .LShift b pos) (wOp (gInt CPow fun i j => i * 2 ^ j.toNat) fa fb) := ve_opG op_shl opi_int ha hb
theorem ve_shr (ha : VE X a fa) (hb : VE X b fb) : VE X (.BinOp a .RShift b pos) (wOp (gInt (fun _ j => 0 ≤ j) fun i j => i / 2 ^ j.toNat) fa fb) := ve_opG op_shr opi_int ha hb
theorem ve_mulI (ha : VE X a fa) (hb : VE X b fb) : VE X (.BinOp a .Mult b pos) (wOp (gInt CMul fun i j => i * j) fa fb) := ve_opG op_mul opi_int ha hb
@[reducible] def wNeg (fa : WE) : WE := fun en P => fa en fun r => match r.d with
  | .int i => P ⟨.cl, .int (-i)⟩
  | _ => False
theorem ve_neg (ha : VE X a fa) : VE X (.UnaryOp .USub a pos) (wNeg fa) := by
  obtain ⟨ta, p1, i1⟩ := ha.ex
  refine ⟨⟨_, pe_un un_neg p1, ?_⟩⟩
  intro M B G H0 H own en σ P Q I h k
  refine i1 I h fun r v H1 h1 s1 k1 => ?_
  obtain ⟨kd, d⟩ := r
  split at h1
  · rename_i i e
    cases e
    exact ⟨i, k1.int I s1, k _ _ _ h1 s1 (Rp.int _)⟩
  · exact h1.elim

/-! ### comparisons -/
mutual
def toP : D → PyData
  | .none => .none
  | .bool b => .bool b
  | .int i => .int i
  | .str x => .str x
  | .list xs => .list (toPs xs)
  | .tuple xs => .tuple (toPs xs)
  | .wt xs => .tuple (toPs xs)
  | .dict _ => .dict []
  | .dicT _ => .dict []
  | .obj _ _ => .dict []
def toPs : List D → List PyData
  | [] => []
  | x :: xs => toP x :: toPs xs
end
mutual
theorem Rp.dp {H : Hp} {A : AV} : ∀ {v : V} {d : D}, Rp K H A v d → (toP d).canLay0 = true → Dp K H v (toP d)
  | _, _, .non, _ => by rw [toP]; exact .non
  | _, _, .bl b, _ => by rw [toP]; exact .bl b
  | _, _, .int i, _ => by rw [toP]; exact .int i
  | _, _, .str x, _ => by rw [toP]; exact .str x
  | _, _, .lst h _ l, e => by rw [toP] at e ⊢; exact .lst (.of h) (RpL.dp l (by simpa [PyData.canLay0] using e))
  | _, _, .tup h l, e => by rw [toP] at e ⊢; exact .tup (.of h) (RpL.dp l (by simpa [PyData.canLay0] using e))
  | _, _, .wt h l, e => by rw [toP] at e ⊢; exact .tup (.inr h) (RpL.dp l (by simpa [PyData.canLay0] using e))
  | _, _, .dK _ _ _, e => by simp [toP, PyData.canLay0] at e
  | _, _, .dT _ _ _, e => by simp [toP, PyData.canLay0] at e
  | _, _, .obj _ _ _, e => by simp [toP, PyData.canLay0] at e
theorem RpL.dp {H : Hp} {A : AV} : ∀ {v : List V} {d : List D}, RpL K H A v d → PyData.canLayAll0 (toPs d) = true → DpAll K H v (toPs d)
  | _, _, .nil, _ => by rw [toPs]; exact .nil
  | _, _, .cons h t, e => by
    rw [toPs] at e ⊢
    simp only [PyData.canLayAll0, Bool.and_eq_true] at e
    exact .cons (Rp.dp h e.1) (RpL.dp t e.2)
end
def shp (d : D) : Bool := SeqAt.shaped (toP d)
def eqv (d e : D) : Bool := PyData.eqv (toP d) (toP e)
@[reducible] def gEq : G2 := fun r1 r2 P => shp r1.d = true ∧ shp r2.d = true ∧ P ⟨.cl, .bool (eqv r1.d r2.d)⟩
@[reducible] def gNe : G2 := fun r1 r2 P => shp r1.d = true ∧ shp r2.d = true ∧ P ⟨.cl, .bool (!eqv r1.d r2.d)⟩
theorem opi_eq : OpI K (rEqD K) gEq := by
  intro M B G H0 Hs H own en σ x y rx ry P Q I s k1 k2 hg k
  exact ⟨toP rx.d, toP ry.d, (k1.rpB I s).dp (SeqAt.canLay_of_shaped hg.1), (k2.rpB I s).dp (SeqAt.canLay_of_shaped hg.2.1), hg.1, hg.2.1, k _ _ _ hg.2.2 (.refl _) (Rp.bl _)⟩
theorem opi_ne : OpI K (rNeD K) gNe := by
  intro M B G H0 Hs H own en σ x y rx ry P Q I s k1 k2 hg k
  exact ⟨toP rx.d, toP ry.d, (k1.rpB I s).dp (SeqAt.canLay_of_shaped hg.1), (k2.rpB I s).dp (SeqAt.canLay_of_shaped hg.2.1), hg.1, hg.2.1, k _ _ _ hg.2.2 (.refl _) (Rp.bl _)⟩
theorem ve_cmpG {op : CmpOp} {r : R2} {g : G2} (ho : OpR X (compareOp op) r) (hi : OpI X.K r g) (ha : VE X a fa) (hb : VE X b fb) (hm : behindInMarks op b = false) : VE X (.Compare a [op] [b] pos) (wOp g fa fb) :=
  let ⟨ta, p1, i1⟩ := ha.ex
  let ⟨tb, p2, i2⟩ := hb.ex
  ⟨⟨_, pe_cmpR ho p1 p2 hm, imOp hi i1 i2⟩⟩
/-- a value that is a bool -/
@[reducible] def wB (f : WE) : WT := fun en P => f en fun r => match r.d with
  | .bool b => P b
  | _ => False
theorem imB {t : TE} {f : WE} (h : ImE K t f) : ImT K (tTest t) (wB f) := by
  intro M B G H0 H own en σ P Q I hf k
  refine h I hf fun r v H1 h1 s1 k1 => ?_
  obtain ⟨kd, d⟩ := r
  split at h1
  · rename_i i e
    cases e
    exact ⟨i, k1.bool I s1, k _ _ h1 s1⟩
  · exact h1.elim
theorem vt_cmpG {op : CmpOp} {r : R2} {g : G2} (ho : OpR X (compareOp op) r) (hi : OpI X.K r g) (ha : VE X a fa) (hb : VE X b fb) (hm : behindInMarks op b = false) : VT X (.Compare a [op] [b] pos) (wB (wOp g fa fb)) :=
  let ⟨ta, p1, i1⟩ := ha.ex
  let ⟨tb, p2, i2⟩ := hb.ex
  ⟨⟨_, pt_cmpR ho p1 p2 hm, imB (imOp hi i1 i2)⟩⟩
abbrev gLt : G2 := gIntB fun i j => decide (i < j)
abbrev gLe : G2 := gIntB fun i j => decide (i ≤ j)
abbrev gGt : G2 := gIntB fun i j => decide (j < i)
abbrev gGe : G2 := gIntB fun i j => decide (j ≤ i)
theorem ve_lt (ha : VE X a fa) (hb : VE X b fb) : VE X (.Compare a [.Lt] [b] pos) (wOp gLt fa fb) := ve_cmpG op_lt opi_intB ha hb (nomark _)
theorem ve_le (ha : VE X a fa) (hb : VE X b fb) : VE X (.Compare a [.LtE] [b] pos) (wOp gLe fa fb) := ve_cmpG op_le opi_intB ha hb (nomark _)
theorem ve_gt (ha : VE X a fa) (hb : VE X b fb) : VE X (.Compare a [.Gt] [b] pos) (wOp gGt fa fb) := ve_cmpG op_gt opi_intB ha hb (nomark _)
theorem ve_ge (ha : VE X a fa) (hb : VE X b fb) : VE X (.Compare a [.GtE] [b] pos) (wOp gGe fa fb) := ve_cmpG op_ge opi_intB ha hb (nomark _)
theorem ve_eq (hu : X.A.units + 64 < cLine) (ha : VE X a fa) (hb : VE X b fb) : VE X (.Compare a [.Eq] [b] pos) (wOp gEq fa fb) := ve_cmpG (op_eqD hu) opi_eq ha hb (nomark _)
theorem ve_ne (hu : X.A.units + 64 < cLine) (ha : VE X a fa) (hb : VE X b fb) : VE X (.Compare a [.NotEq] [b] pos) (wOp gNe fa fb) := ve_cmpG (op_neD hu) opi_ne ha hb (nomark _)
theorem vt_lt (ha : VE X a fa) (hb : VE X b fb) : VT X (.Compare a [.Lt] [b] pos) (wB (wOp gLt fa fb)) := vt_cmpG op_lt opi_intB ha hb (nomark _)
theorem vt_le (ha : VE X a fa) (hb : VE X b fb) : VT X (.Compare a [.LtE] [b] pos) (wB (wOp gLe fa fb)) := vt_cmpG op_le opi_intB ha hb (nomark _)
theorem vt_gt (ha : VE X a fa) (hb : VE X b fb) : VT X (.Compare a [.Gt] [b] pos) (wB (wOp gGt fa fb)) := vt_cmpG op_gt opi_intB ha hb (nomark _)
theorem vt_ge (ha : VE X a fa) (hb : VE X b fb) : VT X (.Compare a [.GtE] [b] pos) (wB (wOp gGe fa fb)) := vt_cmpG op_ge opi_intB ha hb (nomark _)
theorem vt_eq (hu : X.A.units + 64 < cLine) (ha : VE X a fa) (hb : VE X b fb) : VT X (.Compare a [.Eq] [b] pos) (wB (wOp gEq fa fb)) := vt_cmpG (op_eqD hu) opi_eq ha hb (nomark _)
theorem vt_ne (hu : X.A.units + 64 < cLine) (ha : VE X a fa) (hb : VE X b fb) : VT X (.Compare a [.NotEq] [b] pos) (wB (wOp gNe fa fb)) := vt_cmpG (op_neD hu) opi_ne ha hb (nomark _)
/-- is None -/
def isNone : D → Bool
  | .none => true
  | _ => false
@[reducible] def gIsN : G2 := fun r1 r2 P => r2.d = .none ∧ P ⟨.cl, .bool (isNone r1.d)⟩
@[reducible] def gNotN : G2 := fun r1 r2 P => r2.d = .none ∧ P ⟨.cl, .bool (!isNone r1.d)⟩
theorem Rp.none_iff {H : Hp} {A : AV} {v : V} {d : D} (h : Rp K H A v d) : decide (v = .non) = isNone d := by
  cases h <;> rfl
theorem opi_isN : OpI K (fun x y H Q => y = .non ∧ Q (.bl (decide (x = .non))) H) gIsN := by
  intro M B G H0 Hs H own en σ x y rx ry P Q I s k1 k2 hg k
  obtain ⟨k2', d2⟩ := ry
  obtain ⟨e, hP⟩ := hg
  have e' : d2 = .none := e
  subst e'
  have h2 : Rp K H B y .none := k2.rpB I s
  cases h2
  exact ⟨rfl, k _ _ _ hP (.refl _) (by rw [(k1.rpB I s).none_iff]; exact Rp.bl _)⟩
theorem opi_notN : OpI K (fun x y H Q => y = .non ∧ Q (.bl (!decide (x = .non))) H) gNotN := by
  intro M B G H0 Hs H own en σ x y rx ry P Q I s k1 k2 hg k
  obtain ⟨k2', d2⟩ := ry
  obtain ⟨e, hP⟩ := hg
  have e' : d2 = .none := e
  subst e'
  have h2 : Rp K H B y .none := k2.rpB I s
  cases h2
  exact ⟨rfl, k _ _ _ hP (.refl _) (by rw [(k1.rpB I s).none_iff]; exact Rp.bl _)⟩
theorem ve_isN (ha : VE X a fa) (hb : VE X b fb) : VE X (.Compare a [.Is] [b] pos) (wOp gIsN fa fb) := ve_cmpG op_isN opi_isN ha hb (nomark _)
theorem ve_notN (ha : VE X a fa) (hb : VE X b fb) : VE X (.Compare a [.IsNot] [b] pos) (wOp gNotN fa fb) := ve_cmpG op_notN opi_notN ha hb (nomark _)
theorem vt_isN (ha : VE X a fa) (hb : VE X b fb) : VT X (.Compare a [.Is] [b] pos) (wB (wOp gIsN fa fb)) := vt_cmpG op_isN opi_isN ha hb (nomark _)
theorem vt_notN (ha : VE X a fa) (hb : VE X b fb) : VT X (.Compare a [.IsNot] [b] pos) (wB (wOp gNotN fa fb)) := vt_cmpG op_notN opi_notN ha hb (nomark _)
/-- a text in a text -/
@[reducible] def gInS (neg : Bool) : G2 := fun r1 r2 P => match r1.d, r2.d with
  | .str i, .str j => P ⟨.cl, .bool (neg ^^ !(Builtin.Str.occurrences j i 0 j.length 1).isEmpty)⟩
  | _, _ => False
theorem opi_inS : OpI K (fun x y H Q => ∃ i j, x = .str i ∧ y = .str j ∧ Q (.bl (!(Builtin.Str.occurrences j i 0 j.length 1).isEmpty)) H) (gInS false) := by
  intro M B G H0 Hs H own en σ x y rx ry P Q I s k1 k2 hg k
  obtain ⟨k1', d1⟩ := rx
  obtain ⟨k2', d2⟩ := ry
  unfold gInS at hg
  split at hg
  · rename_i i j e1 e2
    cases e1
    cases e2
    exact ⟨i, j, k1.str I s, k2.str I s, k _ _ _ hg (.refl _) (by rw [Bool.false_xor]; exact Rp.bl _)⟩
  · exact hg.elim
theorem opi_notInS : OpI K (fun x y H Q => ∃ i j, x = .str i ∧ y = .str j ∧ Q (.bl (!(!(Builtin.Str.occurrences j i 0 j.length 1).isEmpty))) H) (gInS true) := by
  intro M B G H0 Hs H own en σ x y rx ry P Q I s k1 k2 hg k
  obtain ⟨k1', d1⟩ := rx
  obtain ⟨k2', d2⟩ := ry
  unfold gInS at hg
  split at hg
  · rename_i i j e1 e2
    cases e1
    cases e2
    exact ⟨i, j, k1.str I s, k2.str I s, k _ _ _ hg (.refl _) (by rw [Bool.true_xor]; exact Rp.bl _)⟩
  · exact hg.elim
theorem ve_inS (ha : VE X a fa) (hb : VE X b fb) (hm : behindInMarks .In b = false := by rfl) : VE X (.Compare a [.In] [b] pos) (wOp (gInS false) fa fb) := ve_cmpG op_in_str opi_inS ha hb hm
theorem vt_inS (ha : VE X a fa) (hb : VE X b fb) (hm : behindInMarks .In b = false := by rfl) : VT X (.Compare a [.In] [b] pos) (wB (wOp (gInS false) fa fb)) := vt_cmpG op_in_str opi_inS ha hb hm
theorem ve_notInS (ha : VE X a fa) (hb : VE X b fb) (hm : behindInMarks .NotIn b = false := by rfl) : VE X (.Compare a [.NotIn] [b] pos) (wOp (gInS true) fa fb) := ve_cmpG op_notin_str opi_notInS ha hb hm
theorem vt_notInS (ha : VE X a fa) (hb : VE X b fb) (hm : behindInMarks .NotIn b = false := by rfl) : VT X (.Compare a [.NotIn] [b] pos) (wB (wOp (gInS true) fa fb)) := vt_cmpG op_notin_str opi_notInS ha hb hm
/-- a <= b <= c of ints -/
@[reducible] def wChain (g g' : Int → Int → Bool) (fa fb fc : WE) : WE := fun en P => fa en fun r1 => fb en fun r2 => match r1.d, r2.d with
  | .int i, .int j => if g i j = true then fc en fun r3 => match r3.d with
      | .int l => P ⟨.cl, .bool (g' j l)⟩
      | _ => False
    else P ⟨.cl, .bool false⟩
  | _, _ => False
theorem imChain {g g' : Int → Int → Bool} {ta tb tc : TE} (ha : ImE K ta fa) (hb : ImE K tb fb) (hc : ImE K tc fc) : ImE K (tChain (rI0 fun i j => .bl (g i j)) (rI0 fun i j => .bl (g' i j)) ta tb tc) (wChain g g' fa fb fc) := by
  intro M B G H0 H own en σ P Q I h k
  refine ha I h fun r1 v1 H1 h1 s1 k1 => ?_
  refine hb (I.same s1) h1 fun r2 v2 H2 h2 s2 k2 => ?_
  have s12 := s1.trans s2
  obtain ⟨k1', d1⟩ := r1
  obtain ⟨k2', d2⟩ := r2
  split at h2
  · rename_i i j e1 e2
    cases e1
    cases e2
    refine ⟨i, j, (k1.same s2).int I s12, (k2.from s1).int I s12, _, rfl, ?_⟩
    split at h2
    · rename_i hgt
      rw [if_pos hgt]
      refine hc (I.same s12) h2 fun r3 v3 H3 h3 s3 k3 => ?_
      obtain ⟨k3', d3⟩ := r3
      split at h3
      · rename_i l e3
        cases e3
        exact ⟨j, l, (k2.from s1).int I s12, (k3.from s12).int I (s12.trans s3), k _ _ _ h3 (s12.trans s3) (Rp.bl _)⟩
      · exact h3.elim
    · rename_i hgt
      rw [if_neg hgt]
      exact k _ _ _ h2 s12 (Rp.bl _)
  · exact h2.elim
theorem ve_chain {op op' : CmpOp} {g g' : Int → Int → Bool} (ho : OpR X (compareOp op) (rI0 fun i j => .bl (g i j))) (ho' : OpR X (compareOp op') (rI0 fun i j => .bl (g' i j))) (ha : VE X a fa) (hb : VE X b fb) (hc : VE X c fc)
    (hm : lastMarks [op, op'] [b, c] = false := by with_unfolding_all rfl) : VE X (.Compare a [op, op'] [b, c] pos) (wChain g g' fa fb fc) :=
  let ⟨ta, p1, i1⟩ := ha.ex
  let ⟨tb, p2, i2⟩ := hb.ex
  let ⟨tc, p3, i3⟩ := hc.ex
  ⟨⟨_, pe_chain ho ho' p1 p2 p3 hm, imChain i1 i2 i3⟩⟩
theorem vt_chain {op op' : CmpOp} {g g' : Int → Int → Bool} (ho : OpR X (compareOp op) (rI0 fun i j => .bl (g i j))) (ho' : OpR X (compareOp op') (rI0 fun i j => .bl (g' i j))) (ha : VE X a fa) (hb : VE X b fb) (hc : VE X c fc)
    (hm : lastMarks [op, op'] [b, c] = false := by with_unfolding_all rfl) : VT X (.Compare a [op, op'] [b, c] pos) (wB (wChain g g' fa fb fc)) :=
  let ⟨ta, p1, i1⟩ := ha.ex
  let ⟨tb, p2, i2⟩ := hb.ex
  let ⟨tc, p3, i3⟩ := hc.ex
  ⟨⟨_, pt_chain ho ho' p1 p2 p3 hm, imB (imChain i1 i2 i3)⟩⟩

/-! ### tests -/
variable {f1 f2 f3 : WT} {rest : List Expr}
theorem vt_val (h : VE X e fa) (he : ∀ whole, isTrue e X.env whole = (do let v ← whole; standAt e.pos; holding [v] (truthy v)) := by intro _; rfl) : VT X e (wB fa) :=
  let ⟨t, p, i⟩ := h.ex
  ⟨⟨_, pt_val p he, fun I hf k => imB i I hf k⟩⟩
@[reducible] def wNotT (f : WT) : WT := fun en P => f en fun b => P (!b)
@[reducible] def wAndT (f g : WT) : WT := fun en P => f en fun b => if b = true then g en P else P false
@[reducible] def wOrT (f g : WT) : WT := fun en P => f en fun b => if b = true then P true else g en P
theorem vt_not (h : VT X a f1) : VT X (.UnaryOp .Not a pos) (wNotT f1) :=
  let ⟨t, p, i⟩ := h.ex
  ⟨⟨_, pt_not p, fun I hf k => i I hf fun b H' hb s => k _ _ hb s⟩⟩
theorem vt_bool (h : VW X e f1) : VT X e f1 :=
  let ⟨t, p, i⟩ := h.ex
  ⟨⟨_, p.pt, i⟩⟩
theorem vw_and1 (h : VT X a f1) : VW X (.BoolOp .And [a] pos) f1 :=
  let ⟨t, p, i⟩ := h.ex
  ⟨⟨_, pw_and1 p, i⟩⟩
theorem vw_or1 (h : VT X a f1) : VW X (.BoolOp .Or [a] pos) f1 :=
  let ⟨t, p, i⟩ := h.ex
  ⟨⟨_, pw_or1 p, i⟩⟩
theorem vw_and (h : VT X a f1) (g : VW X (.BoolOp .And (b :: rest) pos) f2) : VW X (.BoolOp .And (a :: b :: rest) pos) (wAndT f1 f2) := by
  obtain ⟨t, p, i⟩ := h.ex
  obtain ⟨t2, p2, i2⟩ := g.ex
  refine ⟨⟨_, pw_and p p2, ?_⟩⟩
  intro M B G H0 H own en σ P Q I hf k
  refine i I hf fun c H1 h1 s1 => ?_
  cases c with
  | true => exact i2 (I.same s1) h1 fun b H2 h2 s2 => k _ _ h2 (s1.trans s2)
  | false => exact k _ _ h1 s1
theorem vw_or (h : VT X a f1) (g : VW X (.BoolOp .Or (b :: rest) pos) f2) : VW X (.BoolOp .Or (a :: b :: rest) pos) (wOrT f1 f2) := by
  obtain ⟨t, p, i⟩ := h.ex
  obtain ⟨t2, p2, i2⟩ := g.ex
  refine ⟨⟨_, pw_or p p2, ?_⟩⟩
  intro M B G H0 H own en σ P Q I hf k
  refine i I hf fun c H1 h1 s1 => ?_
  cases c with
  | false => exact i2 (I.same s1) h1 fun b H2 h2 s2 => k _ _ h2 (s1.trans s2)
  | true => exact k _ _ h1 s1
/-- and, or, not as values (bools) -/
@[reducible] def wNotV (f : WE) : WE := fun en P => wB f en fun b => P ⟨.cl, .bool (!b)⟩
@[reducible] def wAndV (f g : WE) : WE := fun en P => wB f en fun b => if b = true then g en P else P ⟨.cl, .bool false⟩
@[reducible] def wOrV (f g : WE) : WE := fun en P => wB f en fun b => if b = true then P ⟨.cl, .bool true⟩ else g en P
theorem ve_one {op} (h : VE X a fa) : VE X (.BoolOp op [a] pos) fa :=
  let ⟨t, p, i⟩ := h.ex
  ⟨⟨_, pe_one p, i⟩⟩
theorem ve_not (h : VE X a fa) : VE X (.UnaryOp .Not a pos) (wNotV fa) := by
  obtain ⟨t, p, i⟩ := h.ex
  refine ⟨⟨_, pe_not p, ?_⟩⟩
  intro M B G H0 H own en σ P Q I hf k
  refine imB i I hf fun b H1 h1 s1 => k _ _ _ h1 s1 (Rp.bl _)
theorem ve_and (h : VE X a fa) (g : VE X (.BoolOp .And (b :: rest) pos) fb) : VE X (.BoolOp .And (a :: b :: rest) pos) (wAndV fa fb) := by
  obtain ⟨t, p, i⟩ := h.ex
  obtain ⟨t2, p2, i2⟩ := g.ex
  refine ⟨⟨_, pe_and p p2, ?_⟩⟩
  intro M B G H0 H own en σ P Q I hf k
  refine imB i I hf fun c H1 h1 s1 => ?_
  cases c with
  | true => exact i2 (I.same s1) h1 fun r v H2 h2 s2 k2 => k _ _ _ h2 (s1.trans s2) (k2.from s1)
  | false => exact k _ _ _ h1 s1 (Rp.bl _)
theorem ve_or (h : VE X a fa) (g : VE X (.BoolOp .Or (b :: rest) pos) fb) : VE X (.BoolOp .Or (a :: b :: rest) pos) (wOrV fa fb) := by
  obtain ⟨t, p, i⟩ := h.ex
  obtain ⟨t2, p2, i2⟩ := g.ex
  refine ⟨⟨_, pe_or p p2, ?_⟩⟩
  intro M B G H0 H own en σ P Q I hf k
  refine imB i I hf fun c H1 h1 s1 => ?_
  cases c with
  | false => exact i2 (I.same s1) h1 fun r v H2 h2 s2 k2 => k _ _ _ h2 (s1.trans s2) (k2.from s1)
  | true => exact k _ _ _ h1 s1 (Rp.bl _)
@[reducible] def wIf (t : WT) (f g : WE) : WE := fun en P => t en fun b => if b = true then f en P else g en P
theorem ve_ifExp (ht : VT X c f1) (h : VE X a fa) (g : VE X b fb) : VE X (.IfExp c a b pos) (wIf f1 fa fb) := by
  obtain ⟨t, p, i⟩ := h.ex
  obtain ⟨t2, p2, i2⟩ := g.ex
  obtain ⟨t0, p0, i0⟩ := ht.ex
  refine ⟨⟨_, pe_ifExp p0 p p2, ?_⟩⟩
  intro M B G H0 H own en σ P Q I hf k
  refine i0 I hf fun c H1 h1 s1 => ?_
  cases c with
  | true => exact i (I.same s1) h1 fun r v H2 h2 s2 k2 => k _ _ _ h2 (s1.trans s2) (k2.from s1)
  | false => exact i2 (I.same s1) h1 fun r v H2 h2 s2 k2 => k _ _ _ h2 (s1.trans s2) (k2.from s1)

/-! ### arguments, displays -/
@[reducible] def wNil : WA := fun _ P => P []
@[reducible] def wCons (f : WE) (g : WA) : WA := fun en P => f en fun r => g en fun rs => P (r :: rs)
variable {ga : WA}
theorem va_nil : VA X [] wNil := ⟨⟨_, pa_nil, fun I hf k => k _ _ _ hf (.refl _) .nil⟩⟩
theorem va_cons (h : VE X e fa) (hr : VA X es ga) (hs : starEach (e :: es) X.env = (false, eval e X.env) :: starEach es X.env := by rfl) : VA X (e :: es) (wCons fa ga) := by
  obtain ⟨t, p, i⟩ := h.ex
  obtain ⟨t2, p2, i2⟩ := hr.ex
  refine ⟨⟨_, pa_cons p p2 hs, ?_⟩⟩
  intro M B G H0 H own en σ P Q I hf k
  refine i I hf fun r v H1 h1 s1 k1 => ?_
  exact i2 (I.same s1) h1 fun rs vs H2 h2 s2 k2 => k _ _ _ h2 (s1.trans s2) (.cons (k1.same s2) (k2.from s1))
/-- a tuple of clean parts is clean -/
@[reducible] def tupK : Bool → Kd
  | true => .cl
  | false => .al
@[reducible] def wTup (g : WA) : WE := fun en P => g en fun rs => rs.length ≤ sizeLine ∧ P ⟨tupK (clean rs), .tuple (dls rs)⟩
theorem RsAll.length {B : AV} {own : Nat → Option Addr} {Hs H : Hp} : ∀ {rs : List Rs} {vs : List V}, RsAll K B own Hs H rs vs → rs.length = vs.length
  | _, _, .nil => rfl
  | _, _, .cons _ t => by simp [RsAll.length t]
theorem ve_tup {x1} (h : VA X es ga) : VE X (.Tuple es x1 pos) (wTup ga) := by
  obtain ⟨t, p, i⟩ := h.ex
  refine ⟨⟨_, pe_tup p, ?_⟩⟩
  intro M B G H0 H own en σ P Q I hf k
  refine i I hf fun rs vs H1 h1 s1 k1 => ?_
  rw [dls_eq] at h1
  refine ⟨by rw [← k1.length]; exact h1.1, fun q hq => k _ _ _ h1.2 (s1.trans (same_upd hq)) ?_⟩
  by_cases c : clean rs = true
  · rw [c]
    exact Rp.tup upd_same ((k1.rp I s1 c).mv (mv_same (same_upd hq)))
  · rw [Bool.eq_false_iff.mpr c]
    exact Rp.tup upd_same ((k1.rpB I s1).mv (mv_same (same_upd hq)))
@[reducible] def wLst (g : WA) : WE := fun en P => g en fun rs => rs.length ≤ sizeLine ∧ clean rs = true ∧ P ⟨.fr, .list (dls rs)⟩
theorem ve_lst (h : VA X es ga) : VE X (.List es pos) (wLst ga) := by
  obtain ⟨t, p, i⟩ := h.ex
  refine ⟨⟨_, pe_lst p, ?_⟩⟩
  intro M B G H0 H own en σ P Q I hf k
  refine i I hf fun rs vs H1 h1 s1 k1 => ?_
  rw [dls_eq] at h1
  exact ⟨by rw [← k1.length]; exact h1.1, fun q hq => k _ _ _ h1.2.2 (s1.trans (same_upd hq)) (fresh_list I s1 hq (k1.rp I s1 h1.2.1))⟩

/-! ### items, slices -/
@[reducible] def kidK (r : Rs) (d : D) : Kd := match r.k.kids with
  | true => .cl
  | false => tupK (flat d)
theorem kidK_f {r : Rs} {d : D} (c : ¬ r.k.kids = true) : kidK r d = tupK (flat d) := by unfold kidK; rw [Bool.eq_false_iff.mpr c]
@[reducible] def gIx : G2 := fun r1 r2 P => match r1.d, r2.d with
  | .list ds, .int i => match atI ds i with
    | some d => P ⟨kidK r1 d, d⟩
    | none => False
  | .tuple ds, .int i => match atI ds i with
    | some d => P ⟨kidK r1 d, d⟩
    | none => False
  | .wt ds, .int i => match atI ds i with
    | some d => P ⟨kidK r1 d, d⟩
    | none => False
  | .str z, .int i => z.length ≤ sizeLine ∧ match atI z.cps.toList i with
    | some c => P ⟨.cl, .str ⟨#[c]⟩⟩
    | none => False
  | _, _ => False
theorem RpL.atI {H : Hp} {A : AV} {v : List V} {d : List D} (l : RpL K H A v d) {i : Int} {x : D} (e : L2.atI d i = some x) : ∃ y, L2.atI v i = some y ∧ Rp K H A y x := by
  unfold L2.atI at e ⊢
  rw [l.length]
  cases q : ixN d.length i with
  | none => rw [q] at e; cases e
  | some j =>
    rw [q] at e
    obtain ⟨y, e1, r⟩ := l.get (i := j) (x := x) e
    exact ⟨y, e1, r⟩
theorem RsOk.wtB {M : AV} {G : List (V × D)} {H0 Hs H : Hp} {B : AV} {own : Nat → Option Addr} {en : En} {σ : L2.St} (I : VI K M B G H0 own en σ Hs) {k : Kd} {ds : List D} {v : V} (h : RsOk K B own Hs ⟨k, .wt ds⟩ v H) (s : Same Hs H) : ∃ a xs, v = .ref a ∧ WtO K a xs ∧ RpL K H B xs ds := by
  have h2 : Rp K H B v (.wt ds) := h.rpB I s
  cases h2 with
  | wt r l => exact ⟨_, _, rfl, r, l⟩
theorem RsOk.wtL {M : AV} {G : List (V × D)} {H0 Hs H : Hp} {B : AV} {own : Nat → Option Addr} {en : En} {σ : L2.St} (I : VI K M B G H0 own en σ Hs) {k : Kd} {ds : List D} {v : V} (h : RsOk K B own Hs ⟨k, .wt ds⟩ v H) (s : Same Hs H) (c : (k.clean || flat (.wt ds)) = true) :
    ∃ a xs, v = .ref a ∧ WtO K a xs ∧ RpL K H (av own B) xs ds := by
  have h2 : Rp K H (av own B) v (.wt ds) := by
    rcases Bool.or_eq_true_iff.mp c with z | z
    · exact h.rp I s z
    · exact (h.rpB I s).flat_any z
  cases h2 with
  | wt r l => exact ⟨_, _, rfl, r, l⟩
theorem opi_ix : OpI K (rIx K) gIx := by
  intro M B G H0 Hs H own en σ x y rx ry P Q I s k1 k2 hg k
  obtain ⟨k1', d1⟩ := rx
  obtain ⟨k2', d2⟩ := ry
  unfold gIx at hg
  split at hg
  · rename_i ds i e1 e2
    cases e1
    cases e2
    split at hg
    · rename_i d hd
      by_cases c : k1'.kids = true
      · obtain ⟨a, vs, rfl, ea, la⟩ := k1.kidsL I s c
        obtain ⟨z, ez, rz⟩ := la.atI hd
        refine .inl ⟨a, vs, i, z, rfl, k2.int I s, .of ea, ez, k _ _ _ hg (.refl _) ?_⟩
        have ek : kidK ⟨k1', .list ds⟩ d = .cl := by unfold kidK; rw [c]
        rw [ek]
        exact rz
      · obtain ⟨a, vs, rfl, ea, la⟩ := k1.list I s
        obtain ⟨z, ez, rz⟩ := la.atI hd
        refine .inl ⟨a, vs, i, z, rfl, k2.int I s, .of ea, ez, k _ _ _ hg (.refl _) ?_⟩
        rw [kidK_f c]
        by_cases hf : flat d = true
        · rw [hf]
          exact rz.flat_any hf
        · rw [Bool.eq_false_iff.mpr hf]
          exact rz
    · exact hg.elim
  · rename_i ds i e1 e2
    cases e1
    cases e2
    split at hg
    · rename_i d hd
      by_cases c : k1' = .cl
      · subst c
        obtain ⟨a, vs, rfl, ea, la⟩ := k1.tupL I s rfl
        obtain ⟨z, ez, rz⟩ := la.atI hd
        exact .inr (.inl ⟨a, vs, i, z, rfl, k2.int I s, .of ea, ez, k _ _ _ hg (.refl _) rz⟩)
      · obtain ⟨a, vs, rfl, ea, la⟩ := k1.tupB I s
        obtain ⟨z, ez, rz⟩ := la.atI hd
        refine .inr (.inl ⟨a, vs, i, z, rfl, k2.int I s, .of ea, ez, k _ _ _ hg (.refl _) ?_⟩)
        cases k1' with
        | cl => exact absurd rfl c
        | fr => obtain ⟨_, _, _, t⟩ := k1; exact t.elim
        | rt => obtain ⟨_, _, _, _, t⟩ := k1; exact t.elim
        | al =>
          rw [kidK_f (r := ⟨.al, _⟩) (show ¬ (Kd.al.kids = true) from Bool.false_ne_true)]
          by_cases hf : flat d = true
          · rw [hf]
            exact rz.flat_any hf
          · rw [Bool.eq_false_iff.mpr hf]
            exact rz
    · exact hg.elim
  · rename_i ds i e1 e2
    cases e1
    cases e2
    split at hg
    · rename_i d hd
      by_cases c : k1' = .cl
      · subst c
        obtain ⟨a, vs, rfl, ea, la⟩ := k1.wtL I s rfl
        obtain ⟨z, ez, rz⟩ := la.atI hd
        exact .inr (.inl ⟨a, vs, i, z, rfl, k2.int I s, .inr ea, ez, k _ _ _ hg (.refl _) rz⟩)
      · obtain ⟨a, vs, rfl, ea, la⟩ := k1.wtB I s
        obtain ⟨z, ez, rz⟩ := la.atI hd
        refine .inr (.inl ⟨a, vs, i, z, rfl, k2.int I s, .inr ea, ez, k _ _ _ hg (.refl _) ?_⟩)
        cases k1' with
        | cl => exact absurd rfl c
        | fr => obtain ⟨_, _, _, t⟩ := k1; exact t.elim
        | rt => obtain ⟨_, _, _, _, t⟩ := k1; exact t.elim
        | al =>
          rw [kidK_f (r := ⟨.al, _⟩) (show ¬ (Kd.al.kids = true) from Bool.false_ne_true)]
          by_cases hf : flat d = true
          · rw [hf]
            exact rz.flat_any hf
          · rw [Bool.eq_false_iff.mpr hf]
            exact rz
    · exact hg.elim
  · rename_i z i e1 e2
    cases e1
    cases e2
    obtain ⟨hz, hg⟩ := hg
    split at hg
    · rename_i c hc
      exact .inr (.inr ⟨z, i, c, k1.str I s, k2.int I s, hz, hc, k _ _ _ hg (.refl _) (Rp.str _)⟩)
    · exact hg.elim
  · exact hg.elim
theorem ve_ix (ha : VE X a fa) (hb : VE X b fb) (hs : PlainIx b := by exact fun _ _ => rfl) : VE X (.Subscript a b pos) (wOp gIx fa fb) :=
  let ⟨ta, p1, i1⟩ := ha.ex
  let ⟨tb, p2, i2⟩ := hb.ex
  ⟨⟨_, pe_ix ix_seq p1 p2 hs, imOp opi_ix i1 i2⟩⟩
end
end VL

/-! VS: statements, loops, defs and their calls over plain data. -/
namespace VL
open PySem PySem.Spec PyProof.Rows L2

structure Ed where
  nx : En → Prop
  rt : En → Bool → D → Prop
  bk : En → Prop := fun _ => False
  ct : En → Prop := fun _ => False
abbrev WS := Ed → En → Prop
/-- what a def hands back, M: what it may change -/
def RetM (K : PySem.W.Frag) (M B : AV) (H0 : Hp) (b : Bool) (d : D) (v : V) (H : Hp) : Prop :=
  if b = true then ∃ a, v = .ref a ∧ (H0 a = none ∨ M a) ∧ Rt K H (fun c => B c ∨ c = a) a d else Rp K H B v d
structure Links (K : PySem.W.Frag) (M B : AV) (G : List (V × D)) (H0 : Hp) (E : Ed) (F : Ends) : Prop where
  nx : ∀ own en σ H, VI K M B G H0 own en σ H → E.nx en → F.nx σ H
  rt : ∀ own en σ H b d v, VI K M B G H0 own en σ H → RetM K M B H0 b d v H → E.rt en b d → F.rt v H
  bk : ∀ own en σ H, VI K M B G H0 own en σ H → E.bk en → F.bk σ H
  ct : ∀ own en σ H, VI K M B G H0 own en σ H → E.ct en → F.ct σ H
def ImS (K : PySem.W.Frag) (t : TS) (f : WS) : Prop := ∀ {M B : AV} {G : List (V × D)} {H0 H : Hp} {own : Nat → Option Addr} {en : En} {σ : L2.St} {E : Ed} {F : Ends},
  VI K M B G H0 own en σ H → f E en → Links K M B G H0 E F → t F σ H
structure VS (X : Cx) (st : Stmt) (f : WS) : Prop where
  ex : ∃ t, PS X st t ∧ ImS X.K t f
structure VSs (X : Cx) (st : List Stmt) (f : WS) : Prop where
  ex : ∃ t, PSs X st t ∧ ImS X.K t f

theorem Links.nx' {K : PySem.W.Frag} {M B : AV} {G : List (V × D)} {H0 : Hp} {E : Ed} {F : Ends} (L : Links K M B G H0 E F) {nx : En → Prop} {nx' : L2.St → Hp → Prop} (h : ∀ own en σ H, VI K M B G H0 own en σ H → nx en → nx' σ H) : Links K M B G H0 { E with nx := nx } { F with nx := nx' } :=
  ⟨h, L.rt, L.bk, L.ct⟩
section
variable {X : Cx} {a b c e : Expr} {es : List Expr} {pos pos' : Pos} {fa fb fc : WE} {K : PySem.W.Frag} {st : Stmt} {rest body sts sts2 : List Stmt} {f g : WS} {ft : WT}

@[reducible] def sNext : WS := fun E en => E.nx en
@[reducible] def sSeq (f g : WS) : WS := fun E en => f { E with nx := g E } en
theorem vss_nil : VSs X [] sNext := ⟨⟨_, pss_nil, fun I h L => L.nx _ _ _ _ I h⟩⟩
theorem vss_cons (h : VS X st f) (r : VSs X rest g) : VSs X (st :: rest) (sSeq f g) := by
  obtain ⟨t, p, i⟩ := h.ex
  obtain ⟨t2, p2, i2⟩ := r.ex
  refine ⟨⟨_, pss_cons p p2, ?_⟩⟩
  intro M B G H0 H own en σ E F I hf L
  exact i I hf (L.nx' fun own' en' σ' H' I' h' => i2 I' h' L)
theorem vss_one (h : VS X st f) : VSs X [st] f :=
  let ⟨t, p, i⟩ := h.ex
  ⟨⟨_, pss_one p, i⟩⟩
@[reducible] def sNever : WS := fun _ _ => False
theorem vs_never : VS X st sNever := ⟨⟨_, ps_never, fun _ h _ => h.elim⟩⟩
theorem vs_pass : VS X (.Pass pos) sNext := ⟨⟨_, ps_pass, fun I h L => L.nx _ _ _ _ I h⟩⟩
@[reducible] def sBreak : WS := fun E en => E.bk en
@[reducible] def sCont : WS := fun E en => E.ct en
theorem vs_break : VS X (.Break pos) sBreak := ⟨⟨_, ps_break, fun I h L => L.bk _ _ _ _ I h⟩⟩
theorem vs_continue : VS X (.Continue pos) sCont := ⟨⟨_, ps_continue, fun I h L => L.ct _ _ _ _ I h⟩⟩
@[reducible] def sDrop (fe : WE) : WS := fun E en => fe en fun _ => E.nx en
theorem vs_expr (h : VE X e fa) (hs : swapsWith e none pos.line X.env = pure false := by rfl) : VS X (.Expr e pos) (sDrop fa) := by
  obtain ⟨t, p, i⟩ := h.ex
  refine ⟨⟨_, ps_expr p hs, ?_⟩⟩
  intro M B G H0 H own en σ E F I hf L
  exact i I hf fun r v H1 h1 s1 k1 => L.nx _ _ _ _ (I.same s1) h1
/-- return: the root is new if it is fresh or an owned slot's -/
@[reducible] def retB : Kd → Bool
  | .fr => true
  | .rt => true
  | _ => false
@[reducible] def sRet (fe : WE) : WS := fun E en => fe en fun r => E.rt en (retB r.k) r.d
theorem RsOk.ret {M B : AV} {G : List (V × D)} {H0 H H' : Hp} {own : Nat → Option Addr} {en : En} {σ : L2.St} (I : VI K M B G H0 own en σ H) {r : Rs} {v : V} (h : RsOk K B own H r v H') (s : Same H H') : RetM K M B H0 (retB r.k) r.d v H' := by
  obtain ⟨k, d⟩ := r
  cases k with
  | cl => exact Rp.mv (mv_weak fun b z => .inl z) h
  | fr =>
    obtain ⟨p, rfl, n, t⟩ := h
    refine ⟨p, rfl, .inl ?_, t.mv (mv_weak fun b z => z.elim (fun q => .inl (.inl q)) .inr) fun _ z => z⟩
    cases q : H0 p with
    | none => rfl
    | some x => exact absurd n (I.trk p (by rw [q]; exact fun z => nomatch z))
  | rt =>
    obtain ⟨i, p, e, rfl, t⟩ := h
    refine ⟨p, rfl, I.new i p e, t.mv (mv_weak fun b z => z.elim .inl fun q => .inr ⟨i, by rw [q]; exact e⟩) fun _ z => z⟩
  | al => exact h
theorem vs_ret (h : VE X e fa) : VS X (.Return (some e) pos) (sRet fa) := by
  obtain ⟨t, p, i⟩ := h.ex
  refine ⟨⟨_, ps_ret p, ?_⟩⟩
  intro M B G H0 H own en σ E F I hf L
  exact i I hf fun r v H1 h1 s1 k1 => L.rt _ _ _ _ _ _ _ (I.same s1) (k1.ret I s1) h1
@[reducible] def sRetN : WS := fun E en => E.rt en false .none
theorem vs_retN : VS X (.Return none pos) sRetN := ⟨⟨_, ps_retN, fun I h L => L.rt _ _ _ _ false .none _ I Rp.non h⟩⟩
@[reducible] def sIf (t : WT) (f g : WS) : WS := fun E en => t en fun b => if b = true then f E en else g E en
theorem vs_if (ht : VT X c ft) (h : VSs X sts f) (h2 : VSs X sts2 g) : VS X (.If c sts sts2 pos) (sIf ft f g) := by
  obtain ⟨t0, p0, i0⟩ := ht.ex
  obtain ⟨t, p, i⟩ := h.ex
  obtain ⟨t2, p2, i2⟩ := h2.ex
  refine ⟨⟨_, ps_if p0 p p2, ?_⟩⟩
  intro M B G H0 H own en σ E F I hf L
  refine i0 I hf fun b H1 h1 s1 => ?_
  cases b with
  | true => exact i (I.same s1) h1 L
  | false => exact i2 (I.same s1) h1 L

/-! ### stores -/
/-- slot i is stored: sh -/
@[reducible] def put : Nat → Sl → En → (En → Prop) → Prop
  | _, _, [], _ => False
  | 0, t, _ :: en, P => P (t :: en)
  | i + 1, t, s :: en, P => put i t en fun e => P (s :: e)
theorem put_lt : ∀ {i : Nat} {s : Sl} {en : En} {P : En → Prop}, put i s en P → i < en.length ∧ P (en.set i s)
  | 0, _, [], _, h => h.elim
  | _ + 1, _, [], _, h => h.elim
  | 0, _, _ :: _, _, h => ⟨Nat.zero_lt_succ _, h⟩
  | i + 1, _, _ :: en, _, h => ⟨Nat.succ_lt_succ (put_lt (i := i) (en := en) h).1, (put_lt (i := i) (en := en) h).2⟩
@[reducible] def sSet (i : Nat) (fe : WE) : WS := fun E en => fe en fun r => (r.k.clean || flat r.d) = true ∧ put i (.sh r.d) en E.nx
theorem RsOk.rpC {M B : AV} {G : List (V × D)} {H0 H H' : Hp} {own : Nat → Option Addr} {en : En} {σ : L2.St} (I : VI K M B G H0 own en σ H) {r : Rs} {v : V} (h : RsOk K B own H r v H') (s : Same H H') (c : (r.k.clean || flat r.d) = true) : Rp K H' (av own B) v r.d := by
  rcases Bool.or_eq_true_iff.mp c with z | z
  · exact h.rp I s z
  · exact (h.rpB I s).flat_any z
theorem imSet {i : Nat} {t : TE} (im : ImE K t fa) : ImS K (tAsg t (gName i)) (sSet i fa) := by
  intro M B G H0 H own en σ E F I hf L
  refine im I hf fun r v H1 h1 s1 k1 => ?_
  obtain ⟨hi, hp⟩ := put_lt h1.2
  exact L.nx _ _ _ _ ((I.same s1).setSh hi (k1.rpC I s1 h1.1)) hp
/-- .. owned: the value must be fresh -/
@[reducible] def sSetO (i : Nat) (fe : WE) : WS := fun E en => fe en fun r => match r.k with
  | .fr => put i (.ow r.d) en E.nx
  | _ => False
theorem imSetO {i : Nat} {t : TE} (im : ImE K t fa) : ImS K (tAsg t (gName i)) (sSetO i fa) := by
  intro M B G H0 H own en σ E F I hf L
  refine im I hf fun r v H1 h1 s1 k1 => ?_
  obtain ⟨k, d⟩ := r
  split at h1
  · rename_i ek
    cases ek
    obtain ⟨p, rfl, n, t⟩ := k1
    obtain ⟨hi, hp⟩ := put_lt h1
    exact L.nx _ _ _ _ (I.setFr s1 hi n t) hp
  · exact h1.elim
theorem vs_set {i : Nat} {x : Str} (hN : X.N.Nodup) (hi : X.N[i]? = some x) (hx : Loc X.env.scope x) (he : VE X e fa) (hs : swapsWith e (some (.Name x pos')) pos.line X.env = pure false := by rfl) (hf : X.fn x = true ∨ X.env.scope.names.lookup x = some .local := by first | exact .inl rfl | exact .inr rfl | assumption) :
    VS X (.Assign [.Name x pos'] e pos) (sSet i fa) :=
  let ⟨t, p, im⟩ := he.ex
  ⟨⟨_, ps_set hN hi hx p hs hf, imSet im⟩⟩
theorem vs_setO {i : Nat} {x : Str} (hN : X.N.Nodup) (hi : X.N[i]? = some x) (hx : Loc X.env.scope x) (he : VE X e fa) (hs : swapsWith e (some (.Name x pos')) pos.line X.env = pure false := by rfl) (hf : X.fn x = true ∨ X.env.scope.names.lookup x = some .local := by first | exact .inl rfl | exact .inr rfl | assumption) :
    VS X (.Assign [.Name x pos'] e pos) (sSetO i fa) :=
  let ⟨t, p, im⟩ := he.ex
  ⟨⟨_, ps_set hN hi hx p hs hf, imSetO im⟩⟩

/-! ### targets -/
abbrev WG := D → En → (En → Prop) → Prop
/-- a target takes a clean value -/
def ImG (K : PySem.W.Frag) (t : TG) (g : WG) (is : List Nat) : Prop := ∀ {M B : AV} {G : List (V × D)} {H0 H : Hp} {own : Nat → Option Addr} {en : En} {σ : L2.St} {v : V} {d : D} {P : En → Prop} {Q : L2.St → Hp → Prop},
  VI K M B G H0 own en σ H → Rp K H (av own B) v d → g d en P → (∀ own' en' σ', VI K M B G H0 own' en' σ' H → (∀ b, av own' B b → av own B b) → (σ'.length = σ.length ∧ ∀ j, j ∉ is → σ'[j]? = σ[j]? ∧ own' j = own j) → P en' → Q σ' H) → t v σ H Q
structure VG (X : Cx) (tg : Expr) (g : WG) (is : List Nat) : Prop where
  ex : ∃ t, PG X tg t ∧ ImG X.K t g is
def ImGs (K : PySem.W.Frag) (t : TGs) (g : List D → En → (En → Prop) → Prop) (is : List Nat) : Prop := ∀ {M B : AV} {G : List (V × D)} {H0 H : Hp} {own : Nat → Option Addr} {en : En} {σ : L2.St} {v : List V} {d : List D} {P : En → Prop} {Q : L2.St → Hp → Prop},
  VI K M B G H0 own en σ H → RpL K H (av own B) v d → g d en P → (∀ own' en' σ', VI K M B G H0 own' en' σ' H → (∀ b, av own' B b → av own B b) → (σ'.length = σ.length ∧ ∀ j, j ∉ is → σ'[j]? = σ[j]? ∧ own' j = own j) → P en' → Q σ' H) → t v σ H Q
structure VGs (X : Cx) (tgs : List Expr) (g : List D → En → (En → Prop) → Prop) (is : List Nat) : Prop where
  ex : ∃ t, PGs X tgs t ∧ ImGs X.K t g is
@[reducible] def qName (i : Nat) : WG := fun d en P => put i (.sh d) en P
theorem vg_name {i : Nat} {x : Str} (hN : X.N.Nodup) (hi : X.N[i]? = some x) (hx : Loc X.env.scope x) (hf : X.fn x = true ∨ X.env.scope.names.lookup x = some .local := by first | exact .inl rfl | exact .inr rfl | assumption) : VG X (.Name x pos) (qName i) [i] := by
  refine ⟨⟨_, pg_name hN hi hx hf, ?_⟩⟩
  intro M B G H0 H own en σ v d P Q I r h k
  obtain ⟨hi, hp⟩ := put_lt h
  exact k _ _ _ (I.setSh hi r) (fun b z => own0_le z) ⟨by simp, fun j hj => ⟨by rw [List.getElem?_set_ne (fun e => hj (by simp [e]))], by unfold own0; rw [if_neg fun e => hj (by simp [e])]⟩⟩ hp
@[reducible] def qNil : List D → En → (En → Prop) → Prop := fun ds en P => match ds with
  | [] => P en
  | _ => False
@[reducible] def qCons (g : WG) (gs : List D → En → (En → Prop) → Prop) : List D → En → (En → Prop) → Prop := fun ds en P => match ds with
  | d :: r => g d en fun en' => gs r en' P
  | [] => False
variable {tgs : List Expr} {tg : Expr} {wg : WG} {wgs : List D → En → (En → Prop) → Prop} {is js : List Nat}
theorem vgs_nil : VGs X [] qNil [] := by
  refine ⟨⟨_, pgs_nil, ?_⟩⟩
  intro M B G H0 H own en σ v d P Q I r h k
  cases r with
  | nil => exact ⟨rfl, k _ _ _ I (fun _ z => z) ⟨rfl, fun _ _ => ⟨rfl, rfl⟩⟩ h⟩
  | cons _ _ => exact h.elim
theorem vgs_cons (h1 : VG X tg wg is) (h2 : VGs X tgs wgs js) (hs : (assignEach (tg :: tgs) X.env).map (·.2) = assign tg X.env :: (assignEach tgs X.env).map (·.2) := by rfl) : VGs X (tg :: tgs) (qCons wg wgs) (is ++ js) := by
  obtain ⟨t, p, i⟩ := h1.ex
  obtain ⟨t2, p2, i2⟩ := h2.ex
  refine ⟨⟨_, pgs_cons p p2 hs, ?_⟩⟩
  intro M B G H0 H own en σ v d P Q I r h k
  cases r with
  | nil => exact h.elim
  | cons r rr =>
    refine ⟨_, _, rfl, i I r h fun own' en' σ' I' le u1 h' => ?_⟩
    exact i2 I' (rr.mv (mv_weak le)) h' fun own2 en2 σ2 I2 le2 u2 h2 => k _ _ _ I2 (fun b z => le b (le2 b z)) ⟨u2.1.trans u1.1, fun j hj => ⟨(u2.2 j fun z => hj (List.mem_append_right _ z)).1.trans (u1.2 j fun z => hj (List.mem_append_left _ z)).1, (u2.2 j fun z => hj (List.mem_append_right _ z)).2.trans (u1.2 j fun z => hj (List.mem_append_left _ z)).2⟩⟩ h2
@[reducible] def qTup (n : Nat) (gs : List D → En → (En → Prop) → Prop) : WG := fun d en P => match d with
  | .tuple ds => ds.length = n ∧ gs ds en P
  | .wt ds => ds.length = n ∧ gs ds en P
  | _ => False
theorem vg_tup {k n : Nat} (hc : X.calm = true) (h : VGs X es wgs is) (hn : (assignEach es X.env).length = n := by rfl) (hst : (assignEach es X.env).findIdx? (·.1) = none := by rfl) : VG X (.Tuple es k pos) (qTup n wgs) is := by
  obtain ⟨t, p, i⟩ := h.ex
  refine ⟨⟨_, pg_tup hc p hn hst, ?_⟩⟩
  intro M B G H0 H own en σ v d P Q I r h k
  unfold qTup at h
  split at h
  · rename_i ds
    cases r with
    | tup hs l => exact ⟨_, _, rfl, .of hs, by rw [l.length]; exact h.1, i I l h.2 k⟩
  · rename_i ds
    cases r with
    | wt hs l => exact ⟨_, _, rfl, .inr hs, by rw [l.length]; exact h.1, i I l h.2 k⟩
  · exact h.elim
@[reducible] def sAsg (fe : WE) (g : WG) : WS := fun E en => fe en fun r => (r.k.clean || flat r.d) = true ∧ g r.d en E.nx
theorem vs_asg (he : VE X e fa) (hg : VG X tg wg is) (hs : swapsWithSole [tg] e pos.line X.env = pure false := by rfl) (hw : swappedStores [tg] e X.env = pure none := by rfl)
    (h1 : (assignEach [tg] X.env).map (·.2) = [assign tg X.env] := by rfl) : VS X (.Assign [tg] e pos) (sAsg fa wg) := by
  obtain ⟨t, p, i⟩ := he.ex
  obtain ⟨t2, p2, i2⟩ := hg.ex
  refine ⟨⟨_, ps_asg p p2 hs hw h1, ?_⟩⟩
  intro M B G H0 H own en σ E F I hf L
  refine i I hf fun r v H1 hr s1 k1 => ?_
  exact i2 (I.same s1) (k1.rpC I s1 hr.1) hr.2 fun own' en' σ' I' _ _ h' => L.nx _ _ _ _ I' h'
/-- o: the slot owns it (a fresh value), else it holds plain data -/
@[reducible] def putR (o : Bool) (i : Nat) (r : Rs) (en : En) (P : En → Prop) : Prop :=
  match o with
  | true => (match r.k with
    | .fr => put i (.ow r.d) en P
    | _ => False)
  | false => (r.k.clean || flat r.d) = true ∧ put i (.sh r.d) en P
theorem VI.putR {M B : AV} {G : List (V × D)} {H0 H H' : Hp} {own : Nat → Option Addr} {en : En} {σ : L2.St} (I : VI K M B G H0 own en σ H) (s : Same H H') {o : Bool} {i : Nat} {r : Rs} {v : V} (h : RsOk K B own H r v H') {P : En → Prop} (hp : putR o i r en P) :
    ∃ own' en', VI K M B G H0 own' en' (σ.set i (some v)) H' ∧ P en' := by
  unfold VL.putR at hp
  split at hp
  · obtain ⟨k, d⟩ := r
    split at hp
    · rename_i ek
      cases ek
      obtain ⟨p, rfl, n, t⟩ := h
      obtain ⟨hi, hp⟩ := put_lt hp
      exact ⟨_, _, I.setFr s hi n t, hp⟩
    · exact hp.elim
  · obtain ⟨hi, hp2⟩ := put_lt hp.2
    exact ⟨_, _, (I.same s).setSh hi (h.rpC I s hp.1), hp2⟩
/-- flat, or a fresh list of flat things -/
def kidsFlat : D → Bool
  | .list ds => flats ds
  | .dict es => flats (es.map (·.2))
  | .dicT es => flats (es.map (·.2))
  | _ => false
def kfl (r : Rs) : Bool := flat r.d || match r.k with
  | .fr => kidsFlat r.d
  | _ => false
theorem RpK.flat_any {H : Hp} {A A' : AV} : ∀ {v : List (Key × V)} {d : List (D × D)}, RpK K H A v d → flats (d.map (·.2)) = true → RpK K H A' v d
  | _, _, .nil, _ => .nil
  | _, _, .cons h t, e => by
    simp only [List.map_cons, flats, Bool.and_eq_true] at e
    exact .cons (h.flat_any e.1) (RpK.flat_any t e.2)
theorem RpT.flat_any {H : Hp} {A A' : AV} : ∀ {v : List (List Key × V)} {d : List (D × D)}, RpT K H A v d → flats (d.map (·.2)) = true → RpT K H A' v d
  | _, _, .nil, _ => .nil
  | _, _, .cons h t, e => by
    simp only [List.map_cons, flats, Bool.and_eq_true] at e
    exact .cons (h.flat_any e.1) (RpT.flat_any t e.2)
theorem Rt.flat_any {H : Hp} {A A' : AV} {p : Addr} {d : D} (r : Rt K H A p d) (e : kidsFlat d = true) : Rt K H A' p d := by
  cases d with
  | list ds => obtain ⟨xs, q, l⟩ := r; exact ⟨xs, q, l.flat_any e⟩
  | dict es => obtain ⟨xs, q, l⟩ := r; exact ⟨xs, q, l.flat_any e⟩
  | dicT es => obtain ⟨xs, q, l⟩ := r; exact ⟨xs, q, l.flat_any e⟩
  | obj C es => cases e
  | _ => exact r.elim
/-- such a value is told alike of any owners -/
theorem RsOk.kfl {M B : AV} {G : List (V × D)} {H0 H H' : Hp} {own own' : Nat → Option Addr} {en : En} {σ : L2.St} (I : VI K M B G H0 own en σ H) {r : Rs} {v : V} (h : RsOk K B own H r v H') (s : Same H H') (c : kfl r = true) :
    RsOk K B own' H r v H' ∨ (flat r.d = true ∧ RsOk K B own' H ⟨.cl, r.d⟩ v H') := by
  rcases Bool.or_eq_true_iff.mp c with z | z
  · exact .inr ⟨z, (h.rpB I s).flat_any z⟩
  · obtain ⟨k, d⟩ := r
    split at z
    · rename_i ek
      cases ek
      obtain ⟨p, e, n, t⟩ := h
      exact .inl ⟨p, e, n, t.flat_any z⟩
    · cases z
/-! ### several values, then several stores -/
abbrev Tg := List (Bool × Nat)
def setV : Tg → List V → L2.St → L2.St
  | (_, i) :: l, v :: vs, σ => setV l vs (σ.set i (some v))
  | _, _, σ => σ
abbrev WM := En → En → (En → Prop) → Prop
def ImM (K : PySem.W.Frag) (t : TA) (l : Tg) (f : WM) : Prop := ∀ {M B : AV} {G : List (V × D)} {H0 H : Hp} {own own' : Nat → Option Addr} {en en' : En} {σ σ' : L2.St} {P : En → Prop} {Q : List V → Hp → Prop},
  VI K M B G H0 own en σ H → VI K M B G H0 own' en' σ' H → f en en' P → (∀ own2 en2 vs H', vs.length = l.length → Same H H' → VI K M B G H0 own2 en2 (setV l vs σ') H' → P en2 → Q vs H') → t σ H Q
structure VM (X : Cx) (es : List Expr) (l : Tg) (f : WM) : Prop where
  ex : ∃ t, PA X es t ∧ ImM X.K t l f
@[reducible] def mNil : WM := fun _ en' P => P en'
/-- strict: the value must be flat, or fresh with flat parts -/
@[reducible] def mCons (o : Bool) (i : Nat) (fe : WE) (g : WM) : WM := fun en en' P => fe en fun r => kfl r = true ∧ putR o i r en' fun en2 => g en en2 P
theorem vm_nil : VM X [] [] mNil := ⟨⟨_, pa_nil, fun I J hf k => k _ _ [] _ rfl (.refl _) J hf⟩⟩
theorem vm_cons {l : Tg} {gm : WM} (o : Bool) (i : Nat) (h : VE X e fa) (hr : VM X es l gm) (hs : starEach (e :: es) X.env = (false, eval e X.env) :: starEach es X.env := by rfl) : VM X (e :: es) ((o, i) :: l) (mCons o i fa gm) := by
  obtain ⟨t, p, im⟩ := h.ex
  obtain ⟨t2, p2, im2⟩ := hr.ex
  refine ⟨⟨_, pa_cons p p2 hs, ?_⟩⟩
  intro M B G H0 H own own' en en' σ σ' P Q I J hf k
  refine im I hf fun r v H1 h1 s1 k1 => ?_
  obtain ⟨own2, en2, J2, h2⟩ : ∃ own2 en2, VI X.K M B G H0 own2 en2 (σ'.set i (some v)) H1 ∧ gm en en2 P := by
    rcases k1.kfl (own' := own') I s1 h1.1 with z | ⟨zf, z⟩
    · exact J.putR s1 z h1.2
    · have h3 := h1.2
      unfold putR at h3
      split at h3
      · obtain ⟨kd, d⟩ := r
        split at h3
        · rename_i ek
          cases ek
          obtain ⟨p, e, n, t⟩ := k1
          cases d <;> first | exact t.elim | cases zf
        · exact h3.elim
      · exact J.putR (o := false) s1 z ⟨rfl, h3.2⟩
  exact im2 (I.same s1) J2 h2 fun own3 en3 vs H3 hl s3 J3 h3 => k _ _ (v :: vs) _ (by simp [hl]) (s1.trans s3) J3 h3
/-- the first value may be anything -/
@[reducible] def mFirst (o : Bool) (i : Nat) (fe : WE) (g : WM) : WM := fun en en' P => fe en fun r => putR o i r en' fun en2 => g en en2 P
def ImM1 (K : PySem.W.Frag) (t : TA) (l : Tg) (f : WM) : Prop := ∀ {M B : AV} {G : List (V × D)} {H0 H : Hp} {own : Nat → Option Addr} {en : En} {σ : L2.St} {P : En → Prop} {Q : List V → Hp → Prop},
  VI K M B G H0 own en σ H → f en en P → (∀ own2 en2 vs H', vs.length = l.length → Same H H' → VI K M B G H0 own2 en2 (setV l vs σ) H' → P en2 → Q vs H') → t σ H Q
structure VM1 (X : Cx) (es : List Expr) (l : Tg) (f : WM) : Prop where
  ex : ∃ t, PA X es t ∧ ImM1 X.K t l f
theorem vm_first {l : Tg} {gm : WM} (o : Bool) (i : Nat) (h : VE X e fa) (hr : VM X es l gm) (hs : starEach (e :: es) X.env = (false, eval e X.env) :: starEach es X.env := by rfl) : VM1 X (e :: es) ((o, i) :: l) (mFirst o i fa gm) := by
  obtain ⟨t, p, im⟩ := h.ex
  obtain ⟨t2, p2, im2⟩ := hr.ex
  refine ⟨⟨_, pa_cons p p2 hs, ?_⟩⟩
  intro M B G H0 H own en σ P Q I hf k
  refine im I hf fun r v H1 h1 s1 k1 => ?_
  obtain ⟨own2, en2, J2, h2⟩ := I.putR s1 k1 h1
  exact im2 (I.same s1) J2 h2 fun own3 en3 vs H3 hl s3 J3 h3 => k _ _ (v :: vs) _ (by simp [hl]) (s1.trans s3) J3 h3
@[reducible] def sMul (gm : WM) : WS := fun E en => gm en en E.nx
theorem vs_par {i j : Nat} {o1 o2 : Bool} {x y : Str} {a b : Expr} {gm : WM} {px py pt : Pos} {kt k2 pt2} (hc : X.calm = true) (hN : X.N.Nodup) (hi : X.N[i]? = some x) (hj : X.N[j]? = some y) (hij : i ≠ j)
    (hx : X.env.scope.names.lookup x = some .local) (hy : X.env.scope.names.lookup y = some .local) (ha : VM1 X [a, b] [(o1, i), (o2, j)] gm)
    (hw : swappedStores [.Tuple [.Name x px, .Name y py] kt pt] (.Tuple [a, b] k2 pt2) X.env = pure (some [x, y]))
    (hs : swapsWithSole [.Tuple [.Name x px, .Name y py] kt pt] (.Tuple [a, b] k2 pt2) pos.line X.env = pure false := by rfl) :
    VS X (.Assign [.Tuple [.Name x px, .Name y py] kt pt] (.Tuple [a, b] k2 pt2) pos) (sMul gm) := by
  obtain ⟨t, p, im⟩ := ha.ex
  refine ⟨⟨_, ps_par hc hN hi hj hij hx hy p hw hs, ?_⟩⟩
  intro M B G H0 H own en σ E F I hf L
  refine im I hf fun own2 en2 vs H' hl s I2 h2 => ?_
  match vs, hl with
  | [v, w], _ => exact ⟨v, w, rfl, L.nx _ _ _ _ I2 h2⟩
/-- the targets as names -/
def gNm : Tg → TGs
  | [] => gNil
  | (_, i) :: l => gCons (gName i) (gNm l)
theorem gNm_run : ∀ (l : Tg) (vs : List V) (σ : L2.St) (H : Hp) (Q : L2.St → Hp → Prop), vs.length = l.length → Q (setV l vs σ) H → gNm l vs σ H Q
  | [], [], _, _, _, _, h => ⟨rfl, h⟩
  | (o, i) :: l, v :: vs, σ, H, Q, hl, h => ⟨v, vs, rfl, gNm_run l vs _ H Q (by simpa using hl) h⟩
  | [], _ :: _, _, _, _, hl, _ => by simp at hl
  | _ :: _, [], _, _, _, hl, _ => by simp at hl
/-- a, b, .. = (x, y, ..) by way of a tuple -/
theorem vs_mul {l : Tg} {tgs es : List Expr} {gm : WM} {kt k2 : Nat} {pt pt2 : Pos} (hc : X.calm = true) (ha : VM1 X es l gm) (hg : PGs X tgs (gNm l)) (hz : l.length ≤ 100 := by decide)
    (hn : (assignEach tgs X.env).length = l.length := by rfl) (hst : (assignEach tgs X.env).findIdx? (·.1) = none := by rfl)
    (hs : swapsWithSole [.Tuple tgs kt pt] (.Tuple es k2 pt2) pos.line X.env = pure false := by rfl) (hw : swappedStores [.Tuple tgs kt pt] (.Tuple es k2 pt2) X.env = pure none := by rfl)
    (h1 : (assignEach [.Tuple tgs kt pt] X.env).map (·.2) = [assign (.Tuple tgs kt pt) X.env] := by rfl) :
    VS X (.Assign [.Tuple tgs kt pt] (.Tuple es k2 pt2) pos) (sMul gm) := by
  obtain ⟨t, p, im⟩ := ha.ex
  refine ⟨⟨_, ps_asg (pe_tup p) (pg_tup hc hg hn hst) hs hw h1, ?_⟩⟩
  intro M B G H0 H own en σ E F I hf L
  refine im I hf fun own2 en2 vs H' hl s I2 h2 => ?_
  refine ⟨Nat.le_trans (by rw [hl]; exact hz) (by decide), fun q hq => ⟨q, vs, rfl, .inl (.inl upd_same), hl, gNm_run l vs σ _ _ hl ?_⟩⟩
  exact L.nx _ _ _ _ (I2.same (same_upd hq)) h2
end
end VL

/-! VF: loops, comprehensions, defs and calls over plain data. -/
namespace VL
open PySem PySem.Spec PyProof.Rows L2

/-! ### what is walked -/
abbrev WI := En → (List D → Prop) → Prop
def Behaves (K : PySem.W.Frag) (gs : List (V × D)) (J : It) (ds : List D) : Prop := ∀ (A : AV) (H : Hp), (∀ p ∈ gs, Rp K H A p.1 p.2) →
  (∀ (i : Nat) d, ds[i]? = some d → J.go i H ∧ ∀ x H', J.yld i H x H' → Same H H' ∧ Rp K H' A x d) ∧ ∀ i, ds.length ≤ i → J.stop i H
def ImI (K : PySem.W.Frag) (wi : TI) (f : WI) : Prop := ∀ {M B : AV} {G : List (V × D)} {H0 H : Hp} {own : Nat → Option Addr} {en : En} {σ : L2.St} {P : List D → Prop} {R : It → Hp → Prop},
  VI K M B G H0 own en σ H → f en P → (∀ gs ds J H1, P ds → Same H H1 → (∀ p ∈ gs, Rp K H1 (av own B) p.1 p.2) → Behaves K gs J ds → R J H1) → wi σ H R
structure VIt (X : Cx) (tg e : Expr) (f : WI) : Prop where
  ex : ∃ wi, PI X tg e wi ∧ ImI X.K wi f

section
variable {X : Cx} {a b c e : Expr} {es : List Expr} {pos pos' : Pos} {fa fb fc : WE} {K : PySem.W.Frag} {st : Stmt} {rest body sts sts2 : List Stmt} {f g : WS} {ft : WT} {tg iter : Expr} {wi : WI} {wg : WG} {is : List Nat}

structure ForP (g : WG) (body : WS) (E : Ed) (en : En) (ds : List D) : Prop where
  h : ∃ (α : Type) (xs : List α) (enc : α → D) (I : List α → En → Prop), ds = xs.map enc ∧ I [] en ∧
    (∀ pre x post en, xs = pre ++ x :: post → I pre en → g (enc x) en fun en2 => body { E with nx := I (pre ++ [x]), ct := I (pre ++ [x]), bk := E.nx } en2) ∧ ∀ en, I xs en → E.nx en
@[reducible] def sFor (wi : WI) (g : WG) (body : WS) : WS := fun E en => wi en (ForP g body E en)
theorem take_split {α : Type} {xs : List α} {i : Nat} (h : i < xs.length) : xs = xs.take i ++ xs[i] :: xs.drop (i + 1) := by
  rw [← List.drop_eq_getElem_cons h, List.take_append_drop]
theorem vs_for (hp : PassesOwn (model X.prog X.w) X.A X.env X.xe) (hc : X.calm = true) (hi : VIt X tg iter wi) (hg : VG X tg wg is) (hb : VSs X body g)
    (hs : ∀ x, foldedSetIterable iter X.env x = pure x := by intro _; rfl) : VS X (.For tg iter body [] pos) (sFor wi wg g) := by
  obtain ⟨t, p, im⟩ := hi.ex
  obtain ⟨t2, p2, im2⟩ := hg.ex
  obtain ⟨t3, p3, im3⟩ := hb.ex
  refine ⟨⟨_, ps_for hp hc p p2 p3 hs, ?_⟩⟩
  intro M B G H0 H own en σ E F I hf L
  refine im I hf fun gs ds J H1 h1 s1 hgs hJ => ?_
  obtain ⟨⟨α, xs, enc, Iv, rfl, i0, step, fin⟩⟩ := h1
  have I1 : VI X.K M B (gs ++ G) H0 own en σ H1 := (I.same s1).ghost fun q hq => (List.mem_append.mp hq).elim (hgs q) fun z => (I.same s1).gh q z
  refine ⟨fun i m σ H => m = xs.length - i ∧ i ≤ xs.length ∧ ∃ own en, VI X.K M B (gs ++ G) H0 own en σ H ∧ Iv (xs.take i) en, ⟨xs.length, by simp, Nat.zero_le _, own, en, I1, by simpa using i0⟩, ?_⟩
  rintro i m σ2 H2 ⟨rfl, hi, own2, en2, I2, iv⟩
  have bh := hJ (av own2 B) H2 fun q hq => I2.gh q (List.mem_append_left _ hq)
  by_cases hlt : i < xs.length
  · have hx : (xs.map enc)[i]? = some (enc xs[i]) := by rw [List.getElem?_map, List.getElem?_eq_getElem hlt]; rfl
    obtain ⟨go, yl⟩ := bh.1 i _ hx
    refine .inr ⟨go, fun σ' H' => ∃ own en, VI X.K M B (gs ++ G) H0 own en σ' H' ∧ Iv (xs.take (i + 1)) en, ?_, ?_⟩
    · rintro σ' H' ⟨own', en', I', iv'⟩
      exact ⟨xs.length - (i + 1), by omega, rfl, hlt, own', en', I', iv'⟩
    · intro x H' hy
      obtain ⟨s3, r3⟩ := yl x H' hy
      have et : xs.take (i + 1) = xs.take i ++ [xs[i]] := by rw [List.take_add_one, List.getElem?_eq_getElem hlt]; rfl
      refine im2 (I2.same s3) r3 (step (xs.take i) xs[i] (xs.drop (i + 1)) en2 (take_split hlt) iv) fun own4 en4 σ4 I4 _ _ h4 => ?_
      rw [et]
      refine im3 I4 h4 ⟨fun own5 en5 σ5 H5 I5 h5 => ⟨own5, en5, I5, h5⟩, fun own5 en5 σ5 H5 b5 d5 v5 I5 r5 h5 => ?_, fun own5 en5 σ5 H5 I5 h5 => ?_, fun own5 en5 σ5 H5 I5 h5 => ⟨own5, en5, I5, h5⟩⟩
      · exact L.rt _ _ _ _ _ _ _ (I5.fewer fun q hq => List.mem_append_right _ hq) r5 h5
      · exact L.nx _ _ _ _ (I5.fewer fun q hq => List.mem_append_right _ hq) h5
  · have e : i = xs.length := by omega
    subst e
    refine .inl ⟨bh.2 _ (by simp), L.nx _ _ _ _ (I2.fewer fun q hq => List.mem_append_right _ hq) (fin _ (by simpa using iv))⟩
structure WhP (ft : WT) (body : WS) (E : Ed) (en : En) : Prop where
  h : ∃ (I : En → Prop) (μ : En → Nat), I en ∧ ∀ en, I en → ft en fun b => if b = true then body { E with nx := fun en' => I en' ∧ μ en' < μ en, ct := fun en' => I en' ∧ μ en' < μ en, bk := E.nx } en else E.nx en
@[reducible] def sWhile (ft : WT) (body : WS) : WS := fun E en => WhP ft body E en
theorem vs_while (hp : PassesOwn (model X.prog X.w) X.A X.env X.xe) (ht : VT X c ft) (hb : VSs X body g) : VS X (.While c body [] pos) (sWhile ft g) := by
  obtain ⟨t, p, im⟩ := ht.ex
  obtain ⟨t3, p3, im3⟩ := hb.ex
  refine ⟨⟨_, ps_while hp p p3, ?_⟩⟩
  intro M B G H0 H own en σ E F I hf L
  obtain ⟨Iv, μ, i0, step⟩ := hf
  refine ⟨fun m σ H => ∃ own en, VI X.K M B G H0 own en σ H ∧ Iv en ∧ μ en = m, ⟨_, own, en, I, i0, rfl⟩, ?_⟩
  rintro m σ2 H2 ⟨own2, en2, I2, iv, rfl⟩
  refine im I2 (step en2 iv) fun b H3 h3 s3 => ?_
  cases b with
  | true =>
    refine ⟨fun σ' H' => ∃ own en, VI X.K M B G H0 own en σ' H' ∧ Iv en ∧ μ en < μ en2, ?_, ?_⟩
    · rintro σ' H' ⟨own', en', I', iv', lt⟩
      exact ⟨_, lt, own', en', I', iv', rfl⟩
    · exact im3 (I2.same s3) h3 ⟨fun own5 en5 σ5 H5 I5 h5 => ⟨own5, en5, I5, h5⟩, L.rt, L.nx, fun own5 en5 σ5 H5 I5 h5 => ⟨own5, en5, I5, h5⟩⟩
  | false => exact L.nx _ _ _ _ (I2.same s3) h3

/-! ### walks: lists, tuples, ranges, texts -/
theorem beh_list {p : Addr} {ds : List D} : Behaves K [(.ref p, .list ds)] (Itl K p) ds := by
  intro A H h
  have r := h _ (List.mem_singleton.mpr rfl)
  cases r with
  | lst e n l =>
    refine ⟨fun i d hd => ?_, fun i hi => ⟨_, .of e, by rw [l.length]; exact hi⟩⟩
    obtain ⟨y, ey, ry⟩ := l.get hd
    refine ⟨⟨_, y, .of e, ey⟩, fun x H' hy => ?_⟩
    obtain ⟨rfl, hy⟩ := hy
    have := hy _ (.of e)
    rw [ey] at this
    cases this
    exact ⟨.refl _, ry⟩
theorem beh_tup {p : Addr} {ds : List D} : Behaves K [(.ref p, .tuple ds)] (Itt K p) ds := by
  intro A H h
  have r := h _ (List.mem_singleton.mpr rfl)
  cases r with
  | tup e l =>
    refine ⟨fun i d hd => ?_, fun i hi => ⟨_, .of e, by rw [l.length]; exact hi⟩⟩
    obtain ⟨y, ey, ry⟩ := l.get hd
    refine ⟨⟨_, y, .of e, ey⟩, fun x H' hy => ?_⟩
    obtain ⟨rfl, hy⟩ := hy
    have := hy _ (.of e)
    rw [ey] at this
    cases this
    exact ⟨.refl _, ry⟩
theorem beh_wt {p : Addr} {ds : List D} : Behaves K [(.ref p, .wt ds)] (Itt K p) ds := by
  intro A H h
  have r := h _ (List.mem_singleton.mpr rfl)
  cases r with
  | wt e l =>
    refine ⟨fun i d hd => ?_, fun i hi => ⟨_, .inr e, by rw [l.length]; exact hi⟩⟩
    obtain ⟨y, ey, ry⟩ := l.get hd
    refine ⟨⟨_, y, .inr e, ey⟩, fun x H' hy => ?_⟩
    obtain ⟨rfl, hy⟩ := hy
    have := hy _ (.inr e)
    rw [ey] at this
    cases this
    exact ⟨.refl _, ry⟩
@[reducible] def iLst (fa : WE) : WI := fun en P => fa en fun r => match r.d with
  | .list ds => r.k.clean = true ∧ P ds
  | _ => False
theorem vi_list (h : VE X e fa) : VIt X tg e (iLst fa) := by
  obtain ⟨t, p, i⟩ := h.ex
  refine ⟨⟨_, pi_list p, ?_⟩⟩
  intro M B G H0 H own en σ P R I hf k
  refine i I hf fun r v H1 h1 s1 k1 => ?_
  obtain ⟨kd, d⟩ := r
  split at h1
  · rename_i ds ed
    cases ed
    have r1 := k1.rp I s1 h1.1
    cases r1 with
    | lst e2 n l => exact ⟨_, rfl, ⟨_, .of e2⟩, k [(.ref _, .list ds)] ds _ _ h1.2 s1 (fun q hq => by rw [List.mem_singleton.mp hq]; exact Rp.lst e2 n l) beh_list⟩
  · exact h1.elim
@[reducible] def iTpl (fa : WE) : WI := fun en P => fa en fun r => match r.d with
  | .tuple ds => (r.k.clean || flats ds) = true ∧ P ds
  | .wt ds => (r.k.clean || flats ds) = true ∧ P ds
  | _ => False
theorem vi_tup (h : VE X e fa) : VIt X tg e (iTpl fa) := by
  obtain ⟨t, p, i⟩ := h.ex
  refine ⟨⟨_, pi_tup p, ?_⟩⟩
  intro M B G H0 H own en σ P R I hf k
  refine i I hf fun r v H1 h1 s1 k1 => ?_
  obtain ⟨kd, d⟩ := r
  split at h1
  · rename_i ds ed
    cases ed
    have r1 : Rp X.K H1 (av own B) v (.tuple ds) := by
      rcases Bool.or_eq_true_iff.mp h1.1 with z | z
      · exact k1.rp I s1 z
      · exact (k1.rpB I s1).flat_any (by simpa [flat] using z)
    cases r1 with
    | tup e2 l => exact ⟨_, rfl, ⟨_, .of e2⟩, k [(.ref _, .tuple ds)] ds _ _ h1.2 s1 (fun q hq => by rw [List.mem_singleton.mp hq]; exact Rp.tup e2 l) beh_tup⟩
  · rename_i ds ed
    cases ed
    have r1 : Rp X.K H1 (av own B) v (.wt ds) := by
      rcases Bool.or_eq_true_iff.mp h1.1 with z | z
      · exact k1.rp I s1 z
      · exact (k1.rpB I s1).flat_any (by simpa [flat] using z)
    cases r1 with
    | wt e2 l => exact ⟨_, rfl, ⟨_, .inr e2⟩, k [(.ref _, .wt ds)] ds _ _ h1.2 s1 (fun q hq => by rw [List.mem_singleton.mp hq]; exact Rp.wt e2 l) beh_wt⟩
  · exact h1.elim
def signs (z : Str) : List D := z.cps.toList.map fun c => .str ⟨#[c]⟩
@[reducible] def iStr (fa : WE) : WI := fun en P => fa en fun r => match r.d with
  | .str z => P (signs z)
  | _ => False
theorem vi_str (h : VE X e fa) : VIt X tg e (iStr fa) := by
  obtain ⟨t, p, i⟩ := h.ex
  refine ⟨⟨_, pi_str p, ?_⟩⟩
  intro M B G H0 H own en σ P R I hf k
  refine i I hf fun r v H1 h1 s1 k1 => ?_
  obtain ⟨kd, d⟩ := r
  split at h1
  · rename_i z ed
    cases ed
    refine ⟨z, k1.str I s1, k [] _ _ _ h1 s1 (fun q hq => nomatch hq) fun A H h => ⟨fun i d hd => ?_, fun i hi => ?_⟩⟩
    · unfold signs at hd
      rw [List.getElem?_map] at hd
      cases q : z.cps.toList[i]? with
      | none => rw [q] at hd; cases hd
      | some c =>
        rw [q] at hd
        have hd' := Option.some.inj hd
        subst hd'
        have hc : z.cps[i]? = some c := by simpa using q
        refine ⟨(Array.getElem?_eq_some_iff.mp hc).1, fun x H' hy => ?_⟩
        obtain ⟨rfl, c', hc', rfl⟩ := hy
        rw [hc] at hc'
        cases hc'
        exact ⟨.refl _, Rp.str _⟩
    · have : z.cps.size ≤ i := by unfold signs at hi; simpa using hi
      exact this
  · exact h1.elim
def rngD (lo : Int) (n : Nat) : List D := (List.range n).map fun i => .int (lo + (i : Nat))
theorem beh_rng {lo : Int} {n : Nat} : Behaves K [] (Itr lo n) (rngD lo n) := by
  intro A H _
  refine ⟨fun i d hd => ?_, fun i hi => by
    unfold rngD at hi
    have : n ≤ i := by simpa using hi
    exact this⟩
  unfold rngD at hd
  rw [List.getElem?_map] at hd
  cases q : (List.range n)[i]? with
  | none => rw [q] at hd; cases hd
  | some c =>
    rw [q] at hd
    have hd' := Option.some.inj hd
    subst hd'
    obtain ⟨hi, e⟩ := List.getElem?_eq_some_iff.mp q
    have e' : c = i := by simpa using e.symm
    subst e'
    have hi2 : c < n := by simpa using hi
    refine ⟨hi2, fun x H' hy => ?_⟩
    obtain ⟨rfl, rfl⟩ := hy
    exact ⟨.refl _, Rp.int _⟩
variable {ga : WA}
@[reducible] def iRng (ga : WA) : WI := fun en P => ga en fun rs => match dls rs with
  | [.int j] => -(2 ^ 62) ≤ j ∧ j < 2 ^ 62 ∧ P (rngD 0 j.toNat)
  | _ => False
theorem RsAll.one {M B : AV} {G : List (V × D)} {H0 Hs H : Hp} {own : Nat → Option Addr} {en : En} {σ : L2.St} (I : VI K M B G H0 own en σ Hs) (s : Same Hs H) {rs : List Rs} {vs : List V} (h : RsAll K B own Hs H rs vs) {d : D} (e : dls rs = [d]) : ∃ v, vs = [v] ∧ Rp K H B v d := by
  have l := h.rpB I s
  rw [← dls_eq, e] at l
  cases l with
  | cons r t => cases t; exact ⟨_, rfl, r⟩
theorem RsAll.two {M B : AV} {G : List (V × D)} {H0 Hs H : Hp} {own : Nat → Option Addr} {en : En} {σ : L2.St} (I : VI K M B G H0 own en σ Hs) (s : Same Hs H) {rs : List Rs} {vs : List V} (h : RsAll K B own Hs H rs vs) {d d2 : D} (e : dls rs = [d, d2]) : ∃ v w, vs = [v, w] ∧ Rp K H B v d ∧ Rp K H B w d2 := by
  have l := h.rpB I s
  rw [← dls_eq, e] at l
  cases l with
  | cons r t => cases t with | cons r2 t2 => cases t2; exact ⟨_, _, rfl, r, r2⟩
theorem Rp.toInt {H : Hp} {A : AV} {v : V} {i : Int} (r : Rp K H A v (.int i)) : v = .int i := by cases r; rfl
theorem Rp.toStr {H : Hp} {A : AV} {v : V} {i : Str} (r : Rp K H A v (.str i)) : v = .str i := by cases r; rfl
theorem Rp.toBool {H : Hp} {A : AV} {v : V} {i : Bool} (r : Rp K H A v (.bool i)) : v = .bl i := by cases r; rfl
theorem vi_range1 {p : Pos} (hg : Gl X "range") (hm : X.mg "range" = none) (ha : VA X [a] ga) (hs : starEach [a] X.env = [(false, eval a X.env)] := by rfl) : VIt X tg (.Call (.Name "range" p) [a] [] pos) (iRng ga) := by
  obtain ⟨t, p, i⟩ := ha.ex
  refine ⟨⟨_, pi_range1 hg hm p hs, ?_⟩⟩
  intro M B G H0 H own en σ P R I hf k
  refine i I hf fun rs vs H1 h1 s1 k1 => ?_
  split at h1
  · rename_i j ej
    obtain ⟨v, rfl, r⟩ := k1.one I s1 ej
    rw [r.toInt]
    exact ⟨j, rfl, h1.1, h1.2.1, k [] _ _ _ h1.2.2 s1 (fun q hq => nomatch hq) beh_rng⟩
  · exact h1.elim
@[reducible] def iRng2 (ga : WA) : WI := fun en P => ga en fun rs => match dls rs with
  | [.int i, .int j] => (-(2 ^ 62) ≤ i ∧ i < 2 ^ 62 ∧ -(2 ^ 62) ≤ j ∧ j < 2 ^ 62) ∧ P (rngD i (j - i).toNat)
  | _ => False
theorem vi_range2 {p : Pos} (hg : Gl X "range") (hm : X.mg "range" = none) (ha : VA X [a, b] ga) (hs : starEach [a, b] X.env = [(false, eval a X.env), (false, eval b X.env)] := by rfl) (hs2 : starEach [b] X.env = [(false, eval b X.env)] := by rfl) : VIt X tg (.Call (.Name "range" p) [a, b] [] pos) (iRng2 ga) := by
  obtain ⟨t, p, i⟩ := ha.ex
  refine ⟨⟨_, pi_range2 hg hm p hs hs2, ?_⟩⟩
  intro M B G H0 H own en σ P R I hf k
  refine i I hf fun rs vs H1 h1 s1 k1 => ?_
  split at h1
  · rename_i x y ej
    obtain ⟨v, w, rfl, r, r2⟩ := k1.two I s1 ej
    rw [r.toInt, r2.toInt]
    exact ⟨x, y, rfl, h1.1, k [] _ _ _ h1.2 s1 (fun q hq => nomatch hq) beh_rng⟩
  · exact h1.elim

/-! ### list comprehensions -/
structure VTs (X : Cx) (ifs : List Expr) (f : WT) : Prop where
  ex : ∃ t, PTs X ifs t ∧ ImT X.K t f
@[reducible] def wYes : WT := fun _ P => P true
theorem vts_nil : VTs X [] wYes := ⟨⟨_, pts_nil, fun _ h k => k _ _ h (.refl _)⟩⟩
theorem vts_one {ft : WT} (h : VT X c ft) : VTs X [c] ft :=
  let ⟨t, p, i⟩ := h.ex
  ⟨⟨_, pts_one p, i⟩⟩
structure LcP (en : En) (vs : List Nat) (g : WG) (tt : WT) (te : WE) (P : Rs → Prop) (ds : List D) : Prop where
  h : ∃ (α : Type) (xs : List α) (enc : α → D) (f : α → Option D), ds = xs.map enc ∧ xs.length < sizeLine ∧
    (∀ x, x ∈ xs → g (enc x) (wipeE en vs) fun en2 => tt en2 fun b => b = (f x).isSome ∧ (b = true → te en2 fun r => (r.k.clean || flat r.d) = true ∧ f x = some r.d)) ∧ P ⟨.fr, .list (xs.filterMap f)⟩
@[reducible] def wLc (wi : WI) (vs : List Nat) (g : WG) (tt : WT) (te : WE) : WE := fun en P => noOw en vs = true ∧ wi en (LcP en vs g tt te P)
theorem wipe_eq {σ σ2 : L2.St} {vs is : List Nat} (hl : σ2.length = σ.length) (h : ∀ j, j ∉ is → σ2[j]? = (wipe σ vs)[j]?) (hs : ∀ j ∈ is, j ∈ vs) (hv : ∀ j ∈ vs, j < σ.length) : wipe σ2 vs = wipe σ vs := by
  apply List.ext_getElem?
  intro j
  by_cases hj : j ∈ vs
  · have q : ∀ (τ : L2.St) (ws : List Nat), j ∈ ws → j < τ.length → (wipe τ ws)[j]? = some none := by
      intro τ ws
      induction ws with
      | nil => intro h; cases h
      | cons w ws ih =>
        intro h hlt
        unfold wipe
        by_cases e : w = j
        · subst e
          rw [List.getElem?_set_self (by rw [wipe_length]; exact hlt)]
        · rw [List.getElem?_set_ne e]
          exact ih ((List.mem_cons.mp h).resolve_left fun z => e z.symm) hlt
    rw [q _ _ hj (by rw [hl]; exact hv j hj), q _ _ hj (hv j hj)]
  · rw [wipe_keep hj, h j fun z => hj (hs j z)]
/-- the context of a comprehension's block -/
abbrev Blk (X : Cx) (scope : Scope) (P : Cx → Prop) : Prop := ∀ (s : Shared) (H : Hp) (C : Addr) (cl : List (Str × Addr)) (fp : List Addr), P (X.blk s H scope (compEnvC scope cl C X.env) fp)
theorem im_lc {t : TI} {tgr : TG} {ttr : TT} {ter : TE} {vs : List Nat} {tt : WT} {te : WE} (ii : ImI K t wi) (ig : ImG K tgr wg is) (it : ImT K ttr tt) (ie : ImE K ter te) (hs : ∀ j ∈ is, j ∈ vs) : ImE K (tLc t tgr ttr ter vs) (wLc wi vs wg tt te) := by
  intro M B G H0 H own en σ P Q I hf k
  obtain ⟨hno, hf⟩ := hf
  have hlt : ∀ j ∈ vs, j < σ.length := fun j hj => by rw [I.len]; exact noOw_lt hno j hj
  refine ii I hf fun gs ds J H1 h1 s1 hgs hJ => ?_
  obtain ⟨α, xs, enc, f, rfl, hz, step, fin⟩ := h1
  intro Dl hD
  have sD : Same H1 (upd H1 Dl (.lst [])) := same_upd hD
  have I1 : VI K M (fun b => B b ∨ b = Dl) (gs ++ G) H0 own (wipeE en vs) (wipe σ vs) (upd H1 Dl (.lst [])) := by
    have Ia := (I.same (s1.trans sD)).wipe hno
    have w : Mv K H1 (upd H1 Dl (.lst [])) (av own B) (av own fun b => B b ∨ b = Dl) := ⟨fun _ _ h _ => sD _ _ h, fun b u h n z => by
      rcases z with (z | z) | z
      · exact n (.inl z)
      · exact ne_of_none h hD z
      · exact n (.inr z), fun _ _ h => sD _ _ h⟩
    have Ib := (I.same s1).wipe hno
    refine ⟨Ia.len, Ia.old, Ia.trk, Ia.tup, fun b z => ?_, fun i b e z => ?_, Ia.nd, Ia.new, Ia.olt, fun i q e => ?_, fun q hq => ?_⟩
    · rcases z with z | z
      · exact Ia.bT b z
      · subst z; rw [upd_same]; exact fun y => nomatch y
    · rcases z with z | z
      · exact Ia.bO i b e z
      · subst z; exact (I.same s1).avT (.inr ⟨i, e⟩) hD
    · have h := Ib.sl i q e
      cases q with
      | dead => trivial
      | sh d => obtain ⟨v, e1, r⟩ := h; exact ⟨v, e1, r.mv w⟩
      | ow d => obtain ⟨p, e1, e2, r⟩ := h; exact ⟨p, e1, e2, r.mv w fun o z => sD _ _ z⟩
    · rcases List.mem_append.mp hq with z | z
      · exact (hgs q z).mv w
      · exact ((I.same s1).gh q z).mv w
  refine ⟨fun i m H => m = xs.length - i ∧ i ≤ xs.length ∧ Same H1 H ∧ VI K M (fun b => B b ∨ b = Dl) (gs ++ G) H0 own (wipeE en vs) (wipe σ vs) H ∧ ∃ acc, H Dl = some (.lst acc) ∧ RpL K H (av own fun b => B b ∨ b = Dl) acc ((xs.take i).filterMap f),
    ⟨xs.length, by simp, Nat.zero_le _, sD, I1, [], upd_same, .nil⟩, ?_⟩
  rintro i m H2 ⟨rfl, hi, s2, I2, acc, eD, la⟩
  have bh := hJ (av own fun b => B b ∨ b = Dl) H2 fun q hq => I2.gh q (List.mem_append_left _ hq)
  by_cases hl : i < xs.length
  · have hx : (xs.map enc)[i]? = some (enc xs[i]) := by rw [List.getElem?_map, List.getElem?_eq_getElem hl]; rfl
    obtain ⟨go, yl⟩ := bh.1 i _ hx
    have et : xs.take (i + 1) = xs.take i ++ [xs[i]] := by rw [List.take_add_one, List.getElem?_eq_getElem hl]; rfl
    refine .inr ⟨go, fun H' => Same H1 H' ∧ VI K M (fun b => B b ∨ b = Dl) (gs ++ G) H0 own (wipeE en vs) (wipe σ vs) H' ∧ ∃ acc, H' Dl = some (.lst acc) ∧ RpL K H' (av own fun b => B b ∨ b = Dl) acc ((xs.take (i + 1)).filterMap f), ?_, ?_⟩
    · rintro H' ⟨s', I', q'⟩
      exact ⟨xs.length - (i + 1), by omega, rfl, hl, s', I', q'⟩
    · intro x H3 hy
      obtain ⟨s3, r3⟩ := yl x H3 hy
      have I3 := I2.same s3
      refine ig I3 r3 (step _ (List.getElem_mem hl)) fun own4 en4 σ4 I4 le4 u4 h4 => ?_
      refine ⟨wipe_eq (u4.1.trans (wipe_length _ _)) (fun j hj => (u4.2 j hj).1) hs hlt, ?_⟩
      refine it I4 h4 fun b H5 h5 s5 => ?_
      have s15 : Same H1 H5 := (s2.trans s3).trans s5
      obtain ⟨hb, h5⟩ := h5
      cases b with
      | false =>
        refine ⟨s15, (I3.same s5), acc, s5 _ _ (s3 _ _ eD), ?_⟩
        have en0 : List.filterMap f [xs[i]] = [] := by
          cases q : f xs[i] with
          | none => simp [q]
          | some y =>
            rw [q] at hb
            exact nomatch hb
        rw [et, List.filterMap_append, en0, List.append_nil]
        exact la.mv (mv_same (s3.trans s5))
      | true =>
        refine ie (I4.same s5) (h5 rfl) fun r y H6 h6 s6 k6 => ?_
        have s26 : Same H2 H6 := (s3.trans s5).trans s6
        have eD6 : H6 Dl = some (.lst acc) := s26 _ _ eD
        have h0 : H0 Dl = none := by
          cases q : H0 Dl with
          | none => rfl
          | some u => exact absurd hD ((I.same s1).trk _ (by rw [q]; exact fun z => nomatch z))
        have eo : ∀ j p, own j = some p → own4 j = some p := fun j p e => by
          rw [(u4.2 j fun z => noOw_own I hno j p e (hs j z)).2]
          exact e
        have ry : Rp K H6 (av own fun b => B b ∨ b = Dl) y r.d := (k6.rpC (I4.same s5) s6 h6.1).mv (mv_weak fun b z => by
          rcases z with z | ⟨j, z⟩
          · exact .inl z
          · exact .inr ⟨j, eo j b z⟩)
        refine ⟨acc, eD6, ?_, ?_, (I3.same (s5.trans s6)).updB (.inr rfl) h0 (by rw [eD6]; trivial), acc ++ [y], upd_same, ?_⟩
        · refine Nat.lt_of_le_of_lt ?_ hz
          rw [la.length]
          exact Nat.le_trans (List.length_filterMap_le _ _) (by rw [List.length_take]; exact Nat.min_le_right _ _)
        · intro c o e
          rw [upd_ne (ne_of_none e hD)]
          exact s6 _ _ (s15 _ _ e)
        · have w : Mv K H6 (upd H6 Dl (.lst (acc ++ [y]))) (av own fun b => B b ∨ b = Dl) (av own fun b => B b ∨ b = Dl) := mv_upd (.inl (.inr rfl)) (by rw [eD6]; trivial)
          rw [et, List.filterMap_append, show List.filterMap f [xs[i]] = [r.d] by simp [h6.2]]
          exact ((la.mv (mv_same s26)).append (.cons ry .nil)).mv w
  · have e : i = xs.length := by omega
    subst e
    refine .inl ⟨bh.2 _ (by simp), k _ _ _ fin (s1.trans s2) ?_⟩
    rw [List.take_of_length_le (Nat.le_refl _)] at la
    refine ⟨Dl, rfl, s1.free hD, acc, eD, la.mv (mv_weak fun b z => ?_)⟩
    rcases z with (z | z) | z
    · exact .inl (.inl z)
    · exact .inr z
    · exact .inl (.inr z)
end
end VL

/-! VC: comprehensions as values, defs and their calls, built-ins. -/
namespace VL
open PySem PySem.Spec PyProof.Rows L2
section
variable {X : Cx} {a b c e : Expr} {es : List Expr} {pos pos' : Pos} {fa fb fc : WE} {K : PySem.W.Frag} {st : Stmt} {rest body sts sts2 : List Stmt} {f g : WS} {ft : WT} {tg iter elt : Expr} {wi : WI} {wg : WG} {is : List Nat} {ifs : List Expr} {tt : WT} {te : WE} {scope : Scope} {own : List (Str × Nat)}

theorem uniE (he : Blk X scope fun Y => VE Y elt te) : ∃ er, (Blk X scope fun Y => PE Y elt er) ∧ ImE X.K er te := by
  refine ⟨fun σ H Q => ∀ s H' C cl fp, (he s H' C cl fp).ex.choose σ H Q, fun s H C cl fp => ⟨fun pins s1 σ H1 Q I h => (he s H C cl fp).ex.choose_spec.1.run pins s1 σ H1 Q I (h s H C cl fp)⟩, ?_⟩
  intro M B G H0 H own en σ P Q I hf k s H' C cl fp
  exact (he s H' C cl fp).ex.choose_spec.2 I hf k
theorem uniT (he : Blk X scope fun Y => VTs Y ifs tt) : ∃ er, (Blk X scope fun Y => PTs Y ifs er) ∧ ImT X.K er tt := by
  refine ⟨fun σ H Q => ∀ s H' C cl fp, (he s H' C cl fp).ex.choose σ H Q, fun s H C cl fp => ⟨fun pins s1 σ H1 Q I h => (he s H C cl fp).ex.choose_spec.1.run pins s1 σ H1 Q I (h s H C cl fp)⟩, ?_⟩
  intro M B G H0 H own en σ P Q I hf k s H' C cl fp
  exact (he s H' C cl fp).ex.choose_spec.2 I hf k
theorem uniG (he : Blk X scope fun Y => VG Y tg wg is) : ∃ er, (Blk X scope fun Y => PG Y tg er) ∧ ImG X.K er wg is := by
  refine ⟨fun v σ H Q => ∀ s H' C cl fp, (he s H' C cl fp).ex.choose v σ H Q, fun s H C cl fp => ⟨fun pins s1 σ H1 v u Q I r h => (he s H C cl fp).ex.choose_spec.1.run pins s1 σ H1 v u Q I r (h s H C cl fp)⟩, ?_⟩
  intro M B G H0 H own en σ v d P Q I r hf k s H' C cl fp
  exact (he s H' C cl fp).ex.choose_spec.2 I r hf k
theorem ve_lc (hc : X.calm = true) (hN : X.N.Nodup) (hi : VIt X tg iter wi) (ok : BlkOk X.N X.env.scope scope own)
    (hg : Blk X scope fun Y => VG Y tg wg is) (ht : Blk X scope fun Y => VTs Y ifs tt) (he : Blk X scope fun Y => VE Y elt te) (hs : ∀ x, foldedSetIterable iter X.env x = pure x := by intro _; rfl) (hv : ∀ j ∈ is, j ∈ own.map (·.2) := by decide) :
    VE X (.ListComp elt [⟨tg, iter, ifs, 0⟩] scope pos) (wLc wi (own.map (·.2)) wg tt te) := by
  obtain ⟨t, p, i⟩ := hi.ex
  obtain ⟨gr, pg, ig⟩ := uniG hg
  obtain ⟨tr, pt, it⟩ := uniT ht
  obtain ⟨er, pe, ie⟩ := uniE he
  exact ⟨⟨_, pe_lc hc hN p ok pg pt pe hs, im_lc i ig it ie hv⟩⟩
theorem vs_setLc {i : Nat} {y : Str} {py spos : Pos} (hc : X.calm = true) (hN : X.N.Nodup) (hy : X.N[i]? = some y) (hyl : X.env.scope.names.lookup y = some .local)
    (hsw : swapsWith (.ListComp elt [⟨tg, iter, ifs, 0⟩] scope pos) (some (.Name y py)) spos.line X.env = pure true) (hi : VIt X tg iter wi) (ok : BlkOk X.N X.env.scope scope own)
    (hg : Blk X scope fun Y => VG Y tg wg is) (ht : Blk X scope fun Y => VTs Y ifs tt) (he : Blk X scope fun Y => VE Y elt te) (hs : ∀ x, foldedSetIterable iter X.env x = pure x := by intro _; rfl) (hv : ∀ j ∈ is, j ∈ own.map (·.2) := by decide) :
    VS X (.Assign [.Name y py] (.ListComp elt [⟨tg, iter, ifs, 0⟩] scope pos) spos) (sSet i (wLc wi (own.map (·.2)) wg tt te)) := by
  obtain ⟨t, p, i⟩ := hi.ex
  obtain ⟨gr, pg, ig⟩ := uniG hg
  obtain ⟨tr, pt, it⟩ := uniT ht
  obtain ⟨er, pe, ie⟩ := uniE he
  exact ⟨⟨_, ps_setLc hc hN hy hyl hsw p ok pg pt pe hs, imSet (im_lc i ig it ie hv)⟩⟩
theorem vs_setLcO {i : Nat} {y : Str} {py spos : Pos} (hc : X.calm = true) (hN : X.N.Nodup) (hy : X.N[i]? = some y) (hyl : X.env.scope.names.lookup y = some .local)
    (hsw : swapsWith (.ListComp elt [⟨tg, iter, ifs, 0⟩] scope pos) (some (.Name y py)) spos.line X.env = pure true) (hi : VIt X tg iter wi) (ok : BlkOk X.N X.env.scope scope own)
    (hg : Blk X scope fun Y => VG Y tg wg is) (ht : Blk X scope fun Y => VTs Y ifs tt) (he : Blk X scope fun Y => VE Y elt te) (hs : ∀ x, foldedSetIterable iter X.env x = pure x := by intro _; rfl) (hv : ∀ j ∈ is, j ∈ own.map (·.2) := by decide) :
    VS X (.Assign [.Name y py] (.ListComp elt [⟨tg, iter, ifs, 0⟩] scope pos) spos) (sSetO i (wLc wi (own.map (·.2)) wg tt te)) := by
  obtain ⟨t, p, i⟩ := hi.ex
  obtain ⟨gr, pg, ig⟩ := uniG hg
  obtain ⟨tr, pt, it⟩ := uniT ht
  obtain ⟨er, pe, ie⟩ := uniE he
  exact ⟨⟨_, ps_setLc hc hN hy hyl hsw p ok pg pt pe hs, imSetO (im_lc i ig it ie hv)⟩⟩

/-! ### defs -/
abbrev DS := List D → (Bool → D → Prop) → Prop
def spV (K : PySem.W.Frag) (sp : DS) : Sp := fun vs H Q _ => ∃ (A : AV) (ds : List D) (P : Bool → D → Prop), (∀ b, A b → H b ≠ none) ∧ RpL K H A vs ds ∧ sp ds P ∧ ∀ b d v H', P b d → Same H H' → RetM K (fun _ => False) A H b d v H' → Q v H'
@[reducible] def startE (N : List Str) (ds : List D) : En := ds.map Sl.sh ++ List.replicate (N.length - ds.length) .dead
theorem vi_start {N : List Str} {A : AV} {H : Hp} {vs : List V} {ds : List D} (hA : ∀ b, A b → H b ≠ none) (r : RpL K H A vs ds) : VI K (fun _ => False) A [] H (fun _ => none) (startE N ds) (L2.start N vs) H := by
  have hl := r.length
  refine ⟨by unfold startE L2.start; simp [hl], fun _ _ e _ => e, fun _ e => e, fun _ _ e => e, hA, (fun _ _ h => nomatch h), (fun _ _ _ h _ => nomatch h), (fun _ _ h => nomatch h), (fun _ _ h => nomatch h), fun i t e => ?_, fun p hp => nomatch hp⟩
  unfold startE at e
  by_cases hi : i < ds.length
  · rw [List.getElem?_append_left (by simpa using hi), List.getElem?_map, List.getElem?_eq_getElem hi] at e
    have e' := Option.some.inj e
    subst e'
    obtain ⟨y, ey, ry⟩ := r.get (List.getElem?_eq_getElem hi)
    refine ⟨y, ?_, ry.mv (mv_weak fun b z => ?_)⟩
    · unfold L2.start
      rw [List.getElem?_append_left (by rw [List.length_map, hl]; exact hi), List.getElem?_map, ey]
      rfl
    · rcases z with z | ⟨j, z⟩
      · exact z
      · cases z
  · rw [List.getElem?_append_right (by simpa using Nat.le_of_not_lt hi), List.getElem?_replicate] at e
    split at e
    · have e' := Option.some.inj e
      subst e'
      trivial
    · cases e
@[reducible] def Post (P : Bool → D → Prop) : Ed := { nx := fun _ => P false .none, rt := fun _ b d => P b d }
theorem vok {P : Program} {w : World} {K : PySem.W.Frag} {mg : Str → Option Value} {base : Heap} {x qual : Str} {st : Stmt} {f : Addr} {fd : FuncData} {N ps : List Str} {k : Nat} {sp : DS} (F : Fun K x qual st f fd) (S : FnScope N ps (defScope st))
    (len : ∀ ds Q, sp ds Q → ds.length = ps.length)
    (hbody : ∀ (cdv : Value) (A : Around) (outer : List Env) (s : Shared) (H : Hp) (E : XK), Room k (A.deeper (envOfC qual (defScope st) s.heap.objs.size f cdv)) →
      ∃ g, VSs (cxOf CX0 P w K mg base N qual (defScope st) f cdv A outer s H E).nox (defBody st) g ∧ ∀ ds Q, sp ds Q → g (Post Q) (startE N ds)) : FnOk P w K mg base CX0 (k + 1) f fd ps (spV K sp) := by
  refine F.ok S (fun vs H Q E h => ?_) (fun cdv A outer s H vs Q E hr h => ?_)
  · obtain ⟨A, ds, P, _, r, hsp, _⟩ := h
    rw [r.length]
    exact len _ _ hsp
  · obtain ⟨B, ds, P', hA, r, hsp, q⟩ := h
    obtain ⟨g, ⟨⟨t, p, i⟩⟩, hg⟩ := hbody cdv A outer s H E hr
    refine ⟨t, p, i (vi_start hA r) (hg ds P' hsp) ⟨fun own en σ H' I h' => ?_, fun own en σ H' b d v I rt h' => ?_, fun _ _ _ _ _ h' => h'.elim, fun _ _ _ _ _ h' => h'.elim⟩⟩
    · exact q false .none .non H' h' (fun b o e => I.old b o e (fun z => z)) Rp.non
    · exact q b d v H' h' (fun b o e => I.old b o e (fun z => z)) rt

/-! ### calls of defs -/
@[reducible] def callK (rs : List Rs) (b : Bool) (d : D) : Kd :=
  match clean rs with
  | true => (match b with
    | true => .fr
    | false => .cl)
  | false => (match b && kidsFlat d with
    | true => .fr
    | false => tupK (flat d))
theorem callK_eq (rs : List Rs) (b : Bool) (d : D) : callK rs b d = if clean rs = true then (if b = true then .fr else .cl) else if (b && kidsFlat d) = true then .fr else if flat d = true then .cl else .al := by
  unfold callK
  cases clean rs
  · cases b && kidsFlat d
    · cases flat d <;> rfl
    · rfl
  · cases b <;> rfl
@[reducible] def wCall (sp : DS) (ga : WA) : WE := fun en P => ga en fun rs => sp (dls rs) fun b d => P ⟨callK rs b d, d⟩
variable {ga : WA}
theorem RetM.ok {M B : AV} {G : List (V × D)} {H0 H H1 H2 : Hp} {own : Nat → Option Addr} {en : En} {σ : L2.St} (I : VI K M B G H0 own en σ H) (s : Same H H1) (s2 : Same H1 H2) {rs : List Rs} {vs : List V} (k : RsAll K B own H H1 rs vs) {b : Bool} {d : D} {v : V}
    (r : RetM K (fun _ => False) (if clean rs = true then av own B else B) H1 b d v H2) : RsOk K B own H ⟨callK rs b d, d⟩ v H2 := by
  rw [callK_eq]
  by_cases c : clean rs = true
  · rw [if_pos c] at r ⊢
    cases b with
    | true =>
      obtain ⟨p, e, n, t⟩ := r
      rcases n with n | n
      · exact ⟨p, e, s.free n, t⟩
      · exact n.elim
    | false => exact r
  · rw [if_neg c] at r ⊢
    have rpB : Rp K H2 B v d := by
      cases b with
      | true =>
        obtain ⟨p, e, n, t⟩ := r
        subst e
        rcases n with n | n
        · exact (t.mv (mv_weak (A' := B) fun c z => .inl z) fun _ z => z).rp fun z => I.bT p z (s.free n)
        · exact n.elim
      | false => exact r
    by_cases h1 : (b && kidsFlat d) = true
    · rw [if_pos h1]
      have h1' := Bool.and_eq_true_iff.mp h1
      obtain ⟨hb, hk⟩ := h1'
      subst hb
      obtain ⟨p, e, n, t⟩ := r
      rcases n with n | n
      · exact ⟨p, e, s.free n, t.flat_any hk⟩
      · exact n.elim
    · rw [if_neg h1]
      by_cases h2 : flat d = true
      · rw [if_pos h2]; exact rpB.flat_any h2
      · rw [if_neg h2]; exact rpB
theorem imCall {t : TA} {sp : DS} (i : ImA K t ga) : ImE K (tCall (spV K sp) [] E0 t) (wCall sp ga) := by
  intro M B G H0 H own en σ P Q I hf k
  refine i I hf fun rs vs H1 h1 s1 k1 => ?_
  rw [List.append_nil]
  have I1 := I.same s1
  rw [dls_eq] at h1
  refine ⟨if clean rs = true then av own B else B, rs.map Rs.d, _, fun b z => ?_, ?_, h1, fun b d v H2 h2 s2 r => ?_⟩
  · split at z
    · exact I1.avT z
    · exact I1.bT b z
  · split
    · rename_i c; exact k1.rp I s1 c
    · exact k1.rpB I s1
  · exact k _ _ _ h2 (s1.trans s2) (r.ok I s1 s2 k1)
theorem ve_call {k : Nat} {f : Addr} {fd : FuncData} {ps : List Str} {sp : DS} {x : Str} {p : Pos} (F : FnOk X.prog X.w X.K X.mg X.base CX0 k f fd ps (spV X.K sp)) (hr : Room k X.A) (hg : Gl X x) (hm : X.mg x = some (.ref f)) (hk : PySem.W.keepIn X.K (.ref f) = true) (hb : Binds X.K fd ps [])
    (ha : VA X (e :: es) ga) (hdb : (x == ("__debug__" : Str)) = false := by decide) (he : starEach (e :: es) X.env = (false, eval e X.env) :: starEach es X.env := by rfl) (hpl : (backTo pos (starEach es X.env)).any (·.1) = false := by rfl) :
    VE X (.Call (.Name x p) (e :: es) [] pos) (wCall sp ga) :=
  let ⟨t, pa, i⟩ := ha.ex
  ⟨⟨_, pe_call F hr hg hm hk hb .nil pass0 pa hdb he hpl, imCall i⟩⟩

/-! ### built-ins by name -/
abbrev GC := List Rs → (Rs → Prop) → Prop
def CallI (K : PySem.W.Frag) (r : List V → Hp → VK → Prop) (g : GC) : Prop := ∀ {M B : AV} {G : List (V × D)} {H0 Hs H : Hp} {own : Nat → Option Addr} {en : En} {σ : L2.St} {rs : List Rs} {vs : List V} {P : Rs → Prop} {Q : VK},
  VI K M B G H0 own en σ Hs → Same Hs H → RsAll K B own Hs H rs vs → g rs P → (∀ rz z H', P rz → Same H H' → RsOk K B own Hs rz z H' → Q z H') → r vs H Q
@[reducible] def wCB (g : GC) (ga : WA) : WE := fun en P => ga en fun rs => g rs P
theorem imCB {r : List V → Hp → VK → Prop} {g : GC} {t : TA} (o : CallI K r g) (i : ImA K t ga) : ImE K (tCB r t) (wCB g ga) := by
  intro M B G H0 H own en σ P Q I h k
  refine i I h fun rs vs H1 h1 s1 k1 => ?_
  exact o I s1 k1 h1 fun rz z H2 h2 s2 k2 => k _ _ _ h2 (s1.trans s2) k2
theorem ve_callB {id : String} {r : List V → Hp → VK → Prop} {gc : GC} {x : Str} {p : Pos} (hc : CallR X (.builtin id) r) (hi : CallI X.K r gc) (hg : Gl X x) (hm : X.mg x = none) (hv : bootBuiltins x = some (.builtin id)) (ha : VA X (e :: es) ga) (hn : x ≠ "__name__" := by decide) (hdb : (x == ("__debug__" : Str)) = false := by decide)
    (he : starEach (e :: es) X.env = (false, eval e X.env) :: starEach es X.env := by rfl) (hpl : (backTo pos (starEach es X.env)).any (·.1) = false := by rfl) : VE X (.Call (.Name x p) (e :: es) [] pos) (wCB gc ga) :=
  let ⟨t, pa, i⟩ := ha.ex
  ⟨⟨_, pe_callB hc hg hm hv pa hn hdb he hpl, imCB hi i⟩⟩
theorem ve_callTy {T : String} {r : List V → Hp → VK → Prop} {gc : GC} {x : Str} {p : Pos} (hc : CallR X (.type T) r) (hi : CallI X.K r gc) (hg : Gl X x) (hm : X.mg x = none) (hv : bootBuiltins x = some (.type T)) (ha : VA X (e :: es) ga) (hn : x ≠ "__name__" := by decide) (hdb : (x == ("__debug__" : Str)) = false := by decide)
    (he : starEach (e :: es) X.env = (false, eval e X.env) :: starEach es X.env := by rfl) (hpl : (backTo pos (starEach es X.env)).any (·.1) = false := by rfl) : VE X (.Call (.Name x p) (e :: es) [] pos) (wCB gc ga) :=
  let ⟨t, pa, i⟩ := ha.ex
  ⟨⟨_, pe_callTy hc hg hm hv pa hn hdb he hpl, imCB hi i⟩⟩
@[reducible] def gLen : GC := fun rs P => match dls rs with
  | [.list ds] => P ⟨.cl, .int ds.length⟩
  | [.tuple ds] => P ⟨.cl, .int ds.length⟩
  | [.wt ds] => P ⟨.cl, .int ds.length⟩
  | [.str z] => z.length ≤ sizeLine ∧ P ⟨.cl, .int z.length⟩
  | _ => False
theorem calli_len : CallI K (fun xs H Q => ∃ x n, xs = [x] ∧ LenV K x H n ∧ Q (.int n) H) gLen := by
  intro M B G H0 Hs H own en σ rs vs P Q I s k1 h k
  unfold gLen at h
  split at h
  · rename_i ds e
    obtain ⟨v, rfl, r⟩ := k1.one I s e
    cases r with
    | lst e2 n l => exact ⟨_, _, rfl, .inl ⟨_, .of e2, l.length.symm⟩, k _ _ _ h (.refl _) (Rp.int _)⟩
  · rename_i ds e
    obtain ⟨v, rfl, r⟩ := k1.one I s e
    cases r with
    | tup e2 l => exact ⟨_, _, rfl, .inr ⟨_, .of e2, l.length.symm⟩, k _ _ _ h (.refl _) (Rp.int _)⟩
  · rename_i ds e
    obtain ⟨v, rfl, r⟩ := k1.one I s e
    cases r with
    | wt e2 l => exact ⟨_, _, rfl, .inr ⟨_, .inr e2, l.length.symm⟩, k _ _ _ h (.refl _) (Rp.int _)⟩
  · rename_i z e
    obtain ⟨v, rfl, r⟩ := k1.one I s e
    rw [r.toStr]
    exact ⟨_, _, rfl, ⟨h.1, rfl⟩, k _ _ _ h.2 (.refl _) (Rp.int _)⟩
  · exact h.elim
@[reducible] def gAll (op : List Bool → Bool) : GC := fun rs P => match dls rs with
  | [.list ds] => ∃ bs : List Bool, ds = bs.map .bool ∧ P ⟨.cl, .bool (op bs)⟩
  | _ => False
theorem RpL.bools {H : Hp} {A : AV} : ∀ {bs : List Bool} {vs : List V}, RpL K H A vs (bs.map .bool) → vs = bs.map V.bl
  | [], _, h => by cases h; rfl
  | b :: bs, _, h => by
    cases h with
    | cons r t => rw [r.toBool, RpL.bools t]; rfl
theorem RpL.ints {H : Hp} {A : AV} : ∀ {bs : List Int} {vs : List V}, RpL K H A vs (bs.map .int) → vs = bs.map V.int
  | [], _, h => by cases h; rfl
  | b :: bs, _, h => by
    cases h with
    | cons r t => rw [r.toInt, RpL.ints t]; rfl
theorem calli_all : CallI K (rAll K) (gAll fun bs => bs.all id) := by
  intro M B G H0 Hs H own en σ rs vs P Q I s k1 h k
  unfold gAll at h
  split at h
  · rename_i ds e
    obtain ⟨bs, rfl, hP⟩ := h
    obtain ⟨v, rfl, r⟩ := k1.one I s e
    cases r with
    | lst e2 n l =>
      rw [RpL.bools l] at e2
      exact ⟨_, bs, rfl, .of e2, k _ _ _ hP (.refl _) (Rp.bl _)⟩
  · exact h.elim
theorem calli_any : CallI K (rAny K) (gAll fun bs => bs.any id) := by
  intro M B G H0 Hs H own en σ rs vs P Q I s k1 h k
  unfold gAll at h
  split at h
  · rename_i ds e
    obtain ⟨bs, rfl, hP⟩ := h
    obtain ⟨v, rfl, r⟩ := k1.one I s e
    cases r with
    | lst e2 n l =>
      rw [RpL.bools l] at e2
      exact ⟨_, bs, rfl, .of e2, k _ _ _ hP (.refl _) (Rp.bl _)⟩
  · exact h.elim
/-- list(xs) -/
@[reducible] def gListOf : GC := fun rs P => match rs with
  | [r] => (match r.d with
    | .list ds => (r.k.kids || flats ds) = true ∧ P ⟨.fr, .list ds⟩
    | .tuple ds => (r.k.clean || flats ds) = true ∧ P ⟨.fr, .list ds⟩
    | _ => False)
  | _ => False
theorem calli_listOf : CallI K (fun xs H Q => ∃ p ys, xs = [.ref p] ∧ (SqL K H p ys ∨ SqT K H p ys) ∧ ∀ l, H l = none → Q (.ref l) (upd H l (.lst ys))) gListOf := by
  intro M B G H0 Hs H own en σ rs vs P Q I s k1 h k
  unfold gListOf at h
  split at h
  · rename_i r
    cases k1 with
    | cons k1 k2 =>
      cases k2
      obtain ⟨kd, d⟩ := r
      split at h
      · rename_i ds ed
        cases ed
        by_cases c : kd.kids = true
        · obtain ⟨p, xs, rfl, e2, l⟩ := k1.kidsL I s c
          exact ⟨p, xs, rfl, .inl (.of e2), fun q hq => k _ _ _ h.2 (same_upd hq) (fresh_list I s hq l)⟩
        · obtain ⟨p, xs, rfl, e2, l⟩ := k1.list I s
          have hf : flats ds = true := by
            rcases Bool.or_eq_true_iff.mp h.1 with z | z
            · exact absurd z c
            · exact z
          exact ⟨p, xs, rfl, .inl (.of e2), fun q hq => k _ _ _ h.2 (same_upd hq) (fresh_list I s hq (l.flat_any hf))⟩
      · rename_i ds ed
        cases ed
        obtain ⟨p, xs, rfl, e2, l⟩ := k1.tupL I s (by simpa [flat] using h.1)
        exact ⟨p, xs, rfl, .inr (.of e2), fun q hq => k _ _ _ h.2 (same_upd hq) (fresh_list I s hq l)⟩
      · exact h.elim
  · exact h.elim
/-- int(b), int(i) -/
@[reducible] def gIntOf : GC := fun rs P => match dls rs with
  | [.int i] => P ⟨.cl, .int i⟩
  | [.bool b] => P ⟨.cl, .int (if b then 1 else 0)⟩
  | _ => False
theorem calli_intOf : CallI K (fun xs H Q => (∃ i, xs = [.int i] ∧ Q (.int i) H) ∨ ∃ k, xs = [.bl k] ∧ Q (.int (if k then 1 else 0)) H) gIntOf := by
  intro M B G H0 Hs H own en σ rs vs P Q I s k1 h k
  unfold gIntOf at h
  split at h
  · rename_i i e
    obtain ⟨v, rfl, r⟩ := k1.one I s e
    rw [r.toInt]
    exact .inl ⟨i, rfl, k _ _ _ h (.refl _) (Rp.int _)⟩
  · rename_i i e
    obtain ⟨v, rfl, r⟩ := k1.one I s e
    rw [r.toBool]
    exact .inr ⟨i, rfl, k _ _ _ h (.refl _) (Rp.int _)⟩
  · exact h.elim
@[reducible] def gInt2 (op : Int → Int → Int) : GC := fun rs P => match dls rs with
  | [.int i, .int j] => P ⟨.cl, .int (op i j)⟩
  | _ => False
theorem calli_int2 {op : Int → Int → Int} : CallI K (fun xs H Q => ∃ i j, xs = [.int i, .int j] ∧ Q (.int (op i j)) H) (gInt2 op) := by
  intro M B G H0 Hs H own en σ rs vs P Q I s k1 h k
  unfold gInt2 at h
  split at h
  · rename_i i j e
    obtain ⟨v, w, rfl, r, r2⟩ := k1.two I s e
    rw [r.toInt, r2.toInt]
    exact ⟨i, j, rfl, k _ _ _ h (.refl _) (Rp.int _)⟩
  · exact h.elim
/-- isinstance by built-in types -/
def tyD : D → String
  | .none => "NoneType"
  | .bool _ => "bool"
  | .int _ => "int"
  | .str _ => "str"
  | .list _ => "list"
  | .tuple _ => "tuple"
  | .dict _ => "dict"
  | .dicT _ => "dict"
  | .wt _ => "tuple"
  | .obj _ _ => "object"
def isT (d : D) (T : String) : Bool := tyD d == T || (tyD d == "bool" && T == "int")
theorem Rp.tyX {H : Hp} {A : AV} {v : V} {d : D} (r : Rp K H A v d) (h : tyD d ≠ "object") : TyX K H v (.type (tyD d)) := by
  cases r with
  | non => exact .base .non
  | bl b => exact .base (.bl b)
  | int b => exact .base (.int b)
  | str b => exact .base (.str b)
  | lst e n l => exact .base (.lst e)
  | tup e l => exact .base (.tup e)
  | wt e l =>
    obtain ⟨o, its, n, e, c, _⟩ := e
    exact .kTuple e c
  | obj e n l => exact absurd rfl h
  | dK e n l => exact .base (.dK e)
  | dT e n l => exact .base (.dT e)
def isiOk (T : String) : Bool := ["list", "tuple", "str", "int", "bool", "dict"].contains T
theorem kitB_tab : (["NoneType", "bool", "int", "str", "list", "tuple", "dict"].all fun t => ["list", "tuple", "str", "int", "bool", "dict"].all fun T => decide (kitB t T = some (t == T || (t == "bool" && T == "int")))) = true := by decide +kernel
theorem kitB_tyD (d : D) (T : String) (h : isiOk T = true) (hd : tyD d ≠ "object") : kitB (tyD d) T = some (isT d T) := by
  have h1 := List.all_eq_true.mp kitB_tab (tyD d) (by cases d <;> first | exact absurd rfl hd | simp [tyD])
  exact of_decide_eq_true (List.all_eq_true.mp h1 T (by unfold isiOk at h; exact List.contains_iff_mem.mp h))
/-- isinstance(e, T), T a built-in type by its name -/
@[reducible] def wIsi (T : String) (fa : WE) : WE := fun en P => fa en fun r => tyD r.d ≠ "object" ∧ P ⟨.cl, .bool (isT r.d T)⟩
theorem ve_isi {T : String} {x : Str} {p p2 : Pos} (ha : VE X a fa) (hg : Gl X "isinstance") (hm : X.mg "isinstance" = none) (hg2 : Gl X x) (hm2 : X.mg x = none) (hv2 : bootBuiltins x = some (.type T)) (hT : isiOk T = true := by decide)
    (hn2 : x ≠ "__name__" := by decide) (hd2 : (x == ("__debug__" : Str)) = false := by decide)
    (hs : starEach [a, .Name x p2] X.env = (false, eval a X.env) :: starEach [.Name x p2] X.env := by rfl) (hs2 : starEach [.Name x p2] X.env = (false, eval (.Name x p2) X.env) :: starEach [] X.env := by rfl) (hpl : (backTo pos (starEach [.Name x p2] X.env)).any (·.1) = false := by rfl) :
    VE X (.Call (.Name "isinstance" p) [a, .Name x p2] [] pos) (wIsi T fa) := by
  obtain ⟨t, pa, i⟩ := ha.ex
  refine ⟨⟨_, pe_callB call_isi hg hm (by decide +kernel) (pa_cons pa (pa_cons (pe_bltn (v := .ty T) hg2 hm2 hv2 rfl hn2 hd2) pa_nil hs2) hs) (by decide) (by decide) hs hpl, ?_⟩⟩
  intro M B G H0 H own en σ P Q I h k
  refine i I h fun r v H1 h1 s1 k1 => ?_
  exact ⟨v, .ty T, _, _, isT r.d T, rfl, .ty T, (k1.rpB I s1).tyX h1.1, kit_ty (kitB_tyD _ _ hT h1.1), k _ _ _ h1.2 s1 (Rp.bl _)⟩
end
end VL

/-! VD: slices, enumerate, methods that change an owned list. -/
namespace VL
open PySem PySem.Spec PyProof.Rows L2
section
variable {X : Cx} {a b c e : Expr} {es : List Expr} {pos pos' : Pos} {fa fb fc : WE} {K : PySem.W.Frag} {st : Stmt} {rest body sts sts2 : List Stmt} {f g : WS} {ft : WT} {tg iter elt : Expr} {wi : WI} {wg : WG} {is : List Nat} {ga : WA}

/-! ### slices -/
abbrev WO := En → (Option Int → Prop) → Prop
def ImO (K : PySem.W.Frag) (t : TO) (f : WO) : Prop := ∀ {M B : AV} {G : List (V × D)} {H0 H : Hp} {own : Nat → Option Addr} {en : En} {σ : L2.St} {P : Option Int → Prop} {Q : Option Int → Hp → Prop},
  VI K M B G H0 own en σ H → f en P → (∀ o H', P o → Same H H' → Q o H') → t σ H Q
structure VO (X : Cx) (e : Option Expr) (f : WO) : Prop where
  ex : ∃ t, PO X e t ∧ ImO X.K t f
@[reducible] def wNoPart : WO := fun _ P => P none
@[reducible] def wPart (fe : WE) : WO := fun en P => fe en fun r => match r.d with
  | .int i => P (some i)
  | _ => False
theorem vo_none : VO X none wNoPart := ⟨⟨_, po_none, fun _ h k => k _ _ h (.refl _)⟩⟩
theorem vo_some (h : VE X e fa) : VO X (some e) (wPart fa) := by
  obtain ⟨t, p, i⟩ := h.ex
  refine ⟨⟨_, po_some p, ?_⟩⟩
  intro M B G H0 H own en σ P Q I hf k
  refine i I hf fun r v H1 h1 s1 k1 => ?_
  obtain ⟨kd, d⟩ := r
  split at h1
  · rename_i i e
    cases e
    exact ⟨i, k1.int I s1, k _ _ h1 s1⟩
  · exact h1.elim
def cutD {α : Type} (xs : List α) (lo hi : Option Int) : List α := (xs.drop (HT.sIx xs.length 0 lo)).take (HT.sIx xs.length xs.length hi - HT.sIx xs.length 0 lo)
@[reducible] def gSl (r : Rs) (lo hi : Option Int) (P : Rs → Prop) : Prop := match r.d with
  | .list ds => (r.k.kids || flats ds) = true ∧ P ⟨.fr, .list (cutD ds lo hi)⟩
  | .str z => z.length ≤ sizeLine ∧ P ⟨.cl, .str ⟨(cutD z.cps.toList lo hi).toArray⟩⟩
  | _ => False
@[reducible] def wSl (fa : WE) (fl fh : WO) : WE := fun en P => fa en fun r => fl en fun lo => fh en fun hi => gSl r lo hi P
theorem RsOk.kidsF {M B : AV} {G : List (V × D)} {H0 H H' : Hp} {own : Nat → Option Addr} {en : En} {σ : L2.St} (I : VI K M B G H0 own en σ H) {k : Kd} {ds : List D} {v : V} (h : RsOk K B own H ⟨k, .list ds⟩ v H') (s : Same H H') (c : (k.kids || flats ds) = true) : ∃ a xs, v = .ref a ∧ H' a = some (.lst xs) ∧ RpL K H' (av own B) xs ds := by
  rcases Bool.or_eq_true_iff.mp c with z | z
  · exact h.kidsL I s z
  · obtain ⟨p, xs, e, e2, l⟩ := h.list I s
    exact ⟨p, xs, e, e2, l.flat_any z⟩
theorem ve_slice {lo hi : Option Expr} {p2 : Pos} {fl fh : WO} (he : VE X e fa) (hl : VO X lo fl) (hu : VO X hi fh) : VE X (.Subscript e (.Slice lo hi none p2) pos) (wSl fa fl fh) := by
  obtain ⟨t, p, i⟩ := he.ex
  obtain ⟨t1, p1, i1⟩ := hl.ex
  obtain ⟨t2, q2, i2⟩ := hu.ex
  refine ⟨⟨_, pe_slice (sl_list.or sl_str) p p1 q2, ?_⟩⟩
  intro M B G H0 H own en σ P Q I hf k
  refine i I hf fun r v H1 h1 s1 k1 => ?_
  refine i1 (I.same s1) h1 fun lo H2 h2 s2 => ?_
  refine i2 (I.same (s1.trans s2)) h2 fun hi H3 h3 s3 => ?_
  have s13 := (s1.trans s2).trans s3
  have k3 := k1.same (s2.trans s3)
  obtain ⟨kd, d⟩ := r
  unfold gSl at h3
  split at h3
  · rename_i ds e
    cases e
    obtain ⟨p, xs, rfl, e2, l⟩ := k3.kidsF I s13 h3.1
    refine .inl ⟨p, xs, rfl, .of e2, fun q hq => k _ _ _ h3.2 (s13.trans (same_upd hq)) ?_⟩
    have ec : RpL X.K H3 (av own B) (cutV xs lo hi) (cutD ds lo hi) := by
      unfold cutV cutD
      rw [l.length]
      exact (l.drop _).take _
    exact fresh_list I s13 hq ec
  · rename_i z e
    cases e
    exact .inr ⟨z, k3.str I s13, h3.1, k _ _ _ h3.2 s13 (Rp.str _)⟩
  · exact h3.elim
/-! ### e[::-1] of a list, of a text -/
theorem back_ix (n : Nat) : Builtin.Str.strSliceIndices none none (-1) n = (List.range n).reverse := by
  unfold Builtin.Str.strSliceIndices sliceRange
  simp only [show ¬ ((-1 : Int) > 0) by decide, if_false]
  by_cases h : (n : Int) - 1 > -1
  · rw [if_pos h]
    have e : (((n : Int) - 1 - -1 - -1 - 1) / (- -1)).toNat = n := by
      rw [show (- -1 : Int) = 1 by decide, Int.ediv_one]
      omega
    rw [e]
    apply List.ext_getElem?
    intro i
    by_cases hi : i < n
    · rw [List.getElem?_map, List.getElem?_range hi, List.getElem?_reverse (by simpa using hi)]
      simp only [Option.map_some, List.length_range]
      rw [List.getElem?_range (by omega)]
      congr 1
      omega
    · rw [List.getElem?_eq_none (by simpa using Nat.le_of_not_lt hi), List.getElem?_eq_none (by simpa using Nat.le_of_not_lt hi)]
  · rw [if_neg h]
    have : n = 0 := by omega
    subst this
    rfl
theorem filterMap_range {α : Type} (l : List α) : (List.range l.length).filterMap (fun i => l[i]?) = l := by
  induction l with
  | nil => rfl
  | cons x r ih =>
    rw [List.length_cons, List.range_succ_eq_map, List.filterMap_cons]
    simp only [List.getElem?_cons_zero, List.filterMap_map]
    congr 1
theorem back_str (z : Str) : ((Builtin.Str.strSliceIndices none none (-1) z.length).filterMap (z.cps[·]?)).toArray = z.cps.toList.reverse.toArray := by
  rw [back_ix, List.filterMap_reverse]
  congr 2
  have := filterMap_range z.cps.toList
  rw [Array.length_toList] at this
  simpa [Str.length] using this
def tRevA (K : PySem.W.Frag) (te : TE) : TE := fun σ H Q => te σ H fun x H1 => (∃ a xs, x = .ref a ∧ SqL K H1 a xs ∧ ∀ p, H1 p = none → Q (.ref p) (upd H1 p (.lst xs.reverse))) ∨ ∃ z : Str, x = .str z ∧ z.length ≤ sizeLine ∧ Q (.str ⟨z.cps.toList.reverse.toArray⟩) H1
theorem pe_revA {e : Expr} {te : TE} {k : Nat} {p1 p2 p3 pos : Pos} (he : PE X e te) : PE X (.Subscript e (.Slice none none (some (.UnaryOp .USub (.Constant (.int 1) k p1) p2)) p3) pos) (tRevA X.K te) := by
  refine ⟨fun pins s σ H Q I h => ?_⟩
  refine Subscript_ (thn (he.run pins s σ H _ I h) fun v s1 ⟨x, H1, I1, r1, q1⟩ => ?_)
  have hst : PO X (some (.UnaryOp .USub (.Constant (.int 1) k p1) p2)) (tPart (tUn (rU fun i => .int (-i)) (tC (.int 1)))) := po_some (pe_un un_neg pe_int)
  refine wpAny_Slice (thn (po_none.run pins s1 σ H1 (fun o H2 => o = none ∧ H2 = H1) I1 ⟨rfl, rfl⟩) fun vl s2 ⟨l, H2, I2, pl, el, e2⟩ => ?_)
  subst el e2
  refine thn (po_none.run pins s2 σ H2 (fun o H3 => o = none ∧ H3 = H2) I2 ⟨rfl, rfl⟩) fun vu s3 ⟨u, H3, I3, pu, eu, e3⟩ => ?_
  subst eu e3
  refine thn (hst.run pins s3 σ H3 (fun o H4 => o = some (-1) ∧ H4 = H3) I3 ⟨1, rfl, -1, rfl, rfl, rfl⟩) fun vs s4 ⟨o, H4, I4, ps, eo, e4⟩ => ?_
  subst eo e4
  have I5 : Inv X pins σ H4 { s4 with heap := s4.heap.push { cls := .type "slice", data := .fields #[vl, vu, vs] } } := I4.kept (t' := s4.toks) fun b ob q => Heap.get?_push_of_some _ q
  rcases q1 with ⟨a, xs, ex, hx, q⟩ | ⟨z, ex, hz, q⟩
  · subst ex
    cases r1
    obtain ⟨its, r, ht, hz⟩ := I5.list hx
    have hlen := r.length
    show wpAny (model X.prog X.w) X.A (subscriptTail e (.Slice none none (some (.UnaryOp .USub (.Constant (.int 1) k p1) p2)) p3) (.ref a) (.ref s4.heap.objs.size)) (EP X pins σ Q) X.xe { s4 with heap := s4.heap.push { cls := .type "slice", data := .fields #[vl, vu, vs] } }
    refine tail_any (ops := [.ref a, .ref s4.heap.objs.size]) ht.isList.typeIs (PySem.slot_list_getitem.lookup) ?_ (by with_unfolding_all rfl)
    refine wpAny_getItem_list_slice ht.isList (Heap.IsSliceOf.new _ vl vu vs) pl pu ps (by decide) ?_ (by rw [List.size_toArray]; omega)
    rw [PySem.W.krv_pick]
    refine ⟨.ref _, _, I5.laid (t' := s4.toks) (o := .lst xs.reverse) (fun b ob q => Heap.get?_push_of_some _ q) (Nat.le_refl _) ?_, rfl, q _ (I5.hok.fresh (Nat.le_refl _))⟩
    exact ⟨by rw [List.length_reverse]; exact hz, _, 0, r.reverse, Heap.get?_push_size _ rfl⟩
  · subst ex
    obtain ⟨t, rfl⟩ := r1
    show wpAny (model X.prog X.w) X.A (subscriptTail e (.Slice none none (some (.UnaryOp .USub (.Constant (.int 1) k p1) p2)) p3) (.str z t) (.ref s4.heap.objs.size)) (EP X pins σ Q) X.xe { s4 with heap := s4.heap.push { cls := .type "slice", data := .fields #[vl, vu, vs] } }
    obtain ⟨l', e1, e2⟩ := IsPart.raw pl
    obtain ⟨u', e3, e4⟩ := IsPart.raw pu
    obtain ⟨w', e5, e6⟩ := IsPart.raw ps
    subst e1 e3 e5
    cases l' with
    | some _ => cases e2
    | none =>
    cases u' with
    | some _ => cases e4
    | none =>
    cases w' with
    | none => cases e6
    | some w' =>
    obtain ⟨wv, wt⟩ := w'
    have ew : wv = -1 := (show wv = -1 from Option.some.inj e6)
    subst ew
    refine tail_any (ops := [.str z t, .ref s4.heap.objs.size]) (typeIs_str _ _ _) (PySem.F.slot_str_getitem.lookup) ?_ (by with_unfolding_all rfl)
    refine wpAny_getItem_str_slice (l := none) (u := none) (st := some (-1, wt)) ⟨_, Heap.get?_push_size _ rfl, rfl, rfl⟩ rfl ?_
    show Made.post (if ((-1 : Int) == 1 && _) = true then Made.val (.str z t)
      else Made.str ⟨((Builtin.Str.strSliceIndices none none (-1) z.length).filterMap (z.cps[·]?)).toArray⟩) (EP X pins σ Q) _
    rw [if_neg (by simp), back_str]
    refine ⟨?_, .str _, H4, I5.tok _, ⟨_, rfl⟩, q⟩
    show (z.cps.toList.reverse.toArray).size ≤ sizeLine
    simpa [Str.length] using hz
@[reducible] def wRev (fa : WE) : WE := fun en P => fa en fun r => match r.d with
  | .list ds => (r.k.kids || flats ds) = true ∧ P ⟨.fr, .list ds.reverse⟩
  | .str z => z.length ≤ sizeLine ∧ P ⟨.cl, .str ⟨z.cps.toList.reverse.toArray⟩⟩
  | _ => False
theorem ve_rev {k : Nat} {p1 p2 p3 : Pos} (he : VE X e fa) : VE X (.Subscript e (.Slice none none (some (.UnaryOp .USub (.Constant (.int 1) k p1) p2)) p3) pos) (wRev fa) := by
  obtain ⟨t, p, i⟩ := he.ex
  refine ⟨⟨_, pe_revA p, ?_⟩⟩
  intro M B G H0 H own en σ P Q I hf k
  refine i I hf fun r v H1 h1 s1 k1 => ?_
  obtain ⟨kd, d⟩ := r
  split at h1
  · rename_i ds e
    cases e
    obtain ⟨p, xs, rfl, e2, l⟩ := k1.kidsF I s1 h1.1
    exact .inl ⟨p, xs, rfl, .of e2, fun q hq => k _ _ _ h1.2 (s1.trans (same_upd hq)) (fresh_list I s1 hq l.reverse)⟩
  · rename_i z e
    cases e
    exact .inr ⟨z, k1.str I s1, h1.1, k _ _ _ h1.2 s1 (Rp.str _)⟩
  · exact h1.elim

/-! ### repetition -/
theorem opi_rep : OpI K rRep (fun r1 r2 P => match r1.d, r2.d with
    | .list ds, .int n => (r1.k.kids || flats ds) = true ∧ -(2 ^ 63) ≤ n ∧ n < 2 ^ 63 ∧ ds.length * n.toNat ≤ sizeLine ∧ P ⟨.fr, .list (List.replicate n.toNat ds).flatten⟩
    | _, _ => False) := by
  intro M B G H0 Hs H own en σ x y rx ry P Q I s k1 k2 hg k
  obtain ⟨kd1, d1⟩ := rx
  obtain ⟨kd2, d2⟩ := ry
  split at hg
  · rename_i ds n e1 e2
    cases e1
    cases e2
    obtain ⟨c, h1, h2, hz, hP⟩ := hg
    obtain ⟨p, xs, rfl, e3, l⟩ := k1.kidsF I s c
    refine ⟨p, n, xs, rfl, k2.int I s, e3, h1, h2, by rw [l.length]; exact hz, fun q hq => k _ _ _ hP (same_upd hq) (fresh_list I s hq ?_)⟩
    generalize n.toNat = m
    induction m with
    | zero => exact .nil
    | succ m ih =>
      rw [List.replicate_succ, List.replicate_succ, List.flatten_cons, List.flatten_cons]
      exact l.append ih
  · exact hg.elim
theorem foldl_app (c : Array Nat) : ∀ (n : Nat) (acc : Array Nat), ((List.replicate n c).foldl (· ++ ·) acc).toList = acc.toList ++ (List.replicate n c.toList).flatten
  | 0, acc => by simp
  | n + 1, acc => by
    rw [List.replicate_succ, List.foldl_cons, foldl_app c n, List.replicate_succ, List.flatten_cons, Array.toList_append, List.append_assoc]
def repS (z : Str) (n : Int) : Str := ⟨((List.replicate n.toNat z.cps.toList).flatten).toArray⟩
theorem flatten_len {α : Type} (l : List α) : ∀ n : Nat, (List.replicate n l).flatten.length = n * l.length
  | 0 => by simp
  | n + 1 => by rw [List.replicate_succ, List.flatten_cons, List.length_append, flatten_len l n, Nat.add_mul, Nat.one_mul, Nat.add_comm]
theorem op_repS : OpR X (binaryOp .Mult) (fun x y H Q => ∃ z n, x = .str z ∧ y = .int n ∧ (-(2 ^ 63) ≤ n ∧ n < 2 ^ 63 ∧ z.length * n.toNat ≤ sizeLine) ∧ Q (.str (repS z n)) H) := by
  intro pins s σ H x y v u Q I rx ry h
  obtain ⟨z, n, rfl, rfl, ⟨h1, h2, hz⟩, q⟩ := h
  obtain ⟨t, rfl⟩ := rx
  obtain ⟨t2, rfl⟩ := ry
  have hsz : sizeLine = 16777216 := sizeLine_eq
  refine PySem.P.mul_str (by rw [decide_eq_false (by omega), decide_eq_false (by omega)]; rfl) (fun hn hc => ?_) (fun hn hc => ?_) ?_
  · have hz1 : z.length ≠ 0 := fun e => by rw [e] at hc; simp at hc
    have hn0 : 0 < n := by omega
    have e1 : (z.length : Int) * n ≤ 16777216 := by
      have : ((z.length * n.toNat : Nat) : Int) ≤ 16777216 := by omega
      rw [Int.natCast_mul, Int.toNat_of_nonneg (by omega)] at this
      exact this
    have : (z.length : Int) ≤ (2 ^ 63 - 1) / n := by
      rw [Int.le_ediv_iff_mul_le hn0]
      omega
    omega
  · show decide (z.length * n.toNat > sizeLine) = false
    exact decide_eq_false (by omega)
  · have len0 : z.length = 0 → z.cps.toList = [] := fun e => List.eq_nil_of_length_eq_zero (by simpa [Str.length] using e)
    by_cases hn : n < 1
    · rw [if_pos hn]
      have e : repS z n = Str.empty := by
        unfold repS
        rw [show n.toNat = 0 by omega]
        rfl
      rw [e] at q
      exact ⟨by decide, .str _, H, I.tok _, ⟨_, rfl⟩, q⟩
    · rw [if_neg hn]
      by_cases hc : (n == 1 || z.length == 0) = true
      · rw [if_pos hc]
        have e : repS z n = z := by
          unfold repS
          rcases Bool.or_eq_true_iff.mp hc with h | h
          · have : n = 1 := by simpa using h
            subst this
            show (⟨([z.cps.toList].flatten).toArray⟩ : Str) = z
            simp
          · have hl := len0 (by simpa using h)
            have e2 : (List.replicate n.toNat z.cps.toList).flatten = [] := by rw [hl]; simp
            rw [e2]
            obtain ⟨c⟩ := z
            have : c = #[] := by simpa using hl
            subst this
            rfl
        rw [e] at q
        exact ⟨.str z, H, I, ⟨t, rfl⟩, q⟩
      · rw [if_neg hc]
        have e : (⟨(List.replicate n.toNat z.cps).foldl (· ++ ·) #[]⟩ : Str) = repS z n := by
          unfold repS
          congr 1
          apply Array.toList_inj.mp
          rw [foldl_app]
          simp
        rw [e]
        refine ⟨?_, .str _, H, I.tok _, ⟨_, rfl⟩, q⟩
        show ((List.replicate n.toNat z.cps.toList).flatten.toArray).size ≤ sizeLine
        rw [List.size_toArray, flatten_len, Nat.mul_comm]
        exact hz
/-- * of ints (one factor within 2^64), a list, a text -/
@[reducible] def gMul : G2 := fun r1 r2 P => match r1.d, r2.d with
  | .int i, .int j => CMul i j ∧ P ⟨.cl, .int (i * j)⟩
  | .list ds, .int n => (r1.k.kids || flats ds) = true ∧ -(2 ^ 63) ≤ n ∧ n < 2 ^ 63 ∧ ds.length * n.toNat ≤ sizeLine ∧ P ⟨.fr, .list (List.replicate n.toNat ds).flatten⟩
  | .str z, .int n => (-(2 ^ 63) ≤ n ∧ n < 2 ^ 63 ∧ z.length * n.toNat ≤ sizeLine) ∧ P ⟨.cl, .str (repS z n)⟩
  | _, _ => False
theorem opi_mul : OpI K (fun x y H Q => (rI CMul (fun i j => V.int (i * j)) x y H Q ∨ rRep x y H Q) ∨ ∃ z n, x = .str z ∧ y = .int n ∧ (-(2 ^ 63) ≤ n ∧ n < 2 ^ 63 ∧ z.length * n.toNat ≤ sizeLine) ∧ Q (.str (repS z n)) H) gMul := by
  intro M B G H0 Hs H own en σ x y rx ry P Q I s k1 k2 hg k
  obtain ⟨kd1, d1⟩ := rx
  obtain ⟨kd2, d2⟩ := ry
  unfold gMul at hg
  split at hg
  · rename_i i j e1 e2
    cases e1
    cases e2
    exact .inl (.inl ⟨i, j, k1.int I s, k2.int I s, hg.1, k _ _ _ hg.2 (.refl _) (Rp.int _)⟩)
  · rename_i ds n e1 e2
    cases e1
    cases e2
    exact .inl (.inr (opi_rep (P := P) I s k1 k2 hg k))
  · rename_i z n e1 e2
    cases e1
    cases e2
    exact .inr ⟨z, n, k1.str I s, k2.int I s, hg.1, k _ _ _ hg.2 (.refl _) (Rp.str _)⟩
  · exact hg.elim
theorem ve_mul (ha : VE X a fa) (hb : VE X b fb) : VE X (.BinOp a .Mult b pos) (wOp gMul fa fb) := ve_opG ((op_mul.or op_rep).or op_repS) opi_mul ha hb

/-! ### enumerate -/
def enumD (ds : List D) : List D := (List.range ds.length).zipWith (fun i d => .tuple [.int (i : Nat), d]) ds
def Its2 (x : Str) : It := ⟨fun i _ => i < x.cps.size, fun i H v H' => ∃ T c, v = .ref T ∧ H T = none ∧ x.cps[i]? = some c ∧ H' = upd H T (.tup [.int (i : Nat), .str ⟨#[c]⟩]), fun i _ => x.cps.size ≤ i⟩
theorem turn_enumS {P : Program} {w : World} {K : PySem.W.Frag} {elts : List Expr} {kk : Nat} {tpos : Pos} (x : Str) (t : Tok) (e it : Addr) :
    Turn P w K (.Tuple elts kk tpos) (Its2 x) [e, it] e (fun i h => (∃ old, IsEnum h e it ((i : Nat) : Int) old) ∧ h.IsStrIter it (strIterType x) x t i ∧ e ≠ it ∧ i ≤ x.cps.size) where
  mem := by simp
  obj := fun i h st b hb => by
    obtain ⟨⟨old, he⟩, ⟨o, ho, hc, hd⟩, _⟩ := st
    have e' : b = e ∨ b = it := by simpa using hb
    rcases e' with z | z
    · rw [z]; exact ⟨_, he, fun v q => nomatch q⟩
    · rw [z]; exact ⟨o, ho, fun v q => by rw [hd] at q; cases q⟩
  keep := fun i h h' st k => let ⟨⟨old, he⟩, ⟨o, ho, r⟩, hne⟩ := st; ⟨⟨old, k e (by simp) _ he⟩, ⟨o, k it (by simp) _ ho, r⟩, hne⟩
  item := by
    intro X hP hw hK hc i pins s σ H E I hf st hg
    subst hP hw hK
    obtain ⟨⟨old, he⟩, hit, hne, _⟩ := st
    have hel : e < s.heap.objs.size := Heap.lt_size he
    have hil : it < s.heap.objs.size := by obtain ⟨_, q, _⟩ := hit; exact Heap.lt_size q
    refine wpAny_pyNext_enum_itemD (Draws.text (A := X.A.in1) (I.ok.hd hc) it x t) he hit hg hne (by simp [hne]) fun u h' tk hp ho hit' hT hsz hk => ?_
    obtain ⟨c, uu, hcx, rfl⟩ := hp
    refine ⟨_, rfl, wpAny_letOwnedTupleGo_enum (s := { s with heap := h', toks := tk + 1 }) ho fun h'' he' sb => ?_⟩
    have hT2 : h''.get? s.heap.objs.size = some { cls := .type "tuple", data := .seq #[.int i tk, .str ⟨#[c]⟩ uu] } := (sb.2 _ (Nat.ne_of_gt hel)).trans hT
    have new : ObjOk X.prog X.w (upd H s.heap.objs.size (.tup [.int (i : Nat), .str ⟨#[c]⟩])) h'' s.heap.objs.size (.tup [.int (i : Nat), .str ⟨#[c]⟩]) :=
      ⟨by show 2 ≤ sizeLine; decide, [.int i tk, .str ⟨#[c]⟩ uu], .cons ⟨_, rfl⟩ (.cons ⟨_, rfl⟩ .nil), ⟨_, hT2, rfl, _, rfl⟩⟩
    have I1 : Inv X pins σ (upd H s.heap.objs.size (.tup [.int (i : Nat), .str ⟨#[c]⟩])) { s with heap := h'', toks := tk + 1 } :=
      I.turnedNew (ch := [e, it]) (fun b ob hb q => (sb.2 b (fun z => hb (by simp [z]))).trans (hk b ob (fun z => hb (by simp [z])) (fun z => hb (by simp [z])) q)) hf (Nat.le_refl _) new
    refine ⟨.ref s.heap.objs.size, _, I1, rfl, ⟨_, c, rfl, I.hok.fresh (Nat.le_refl _), hcx, rfl⟩, ⟨⟨.str ⟨#[c]⟩ uu, ?_⟩, ?_, hne, hg⟩, fun b hb => ?_⟩
    · have e1 : ((i + 1 : Nat) : Int) = (i : Int) + 1 := by omega
      rw [e1]; exact he'
    · obtain ⟨o, ho2, r2⟩ := hit'
      exact ⟨o, (sb.2 it (Ne.symm hne)).trans ho2, r2⟩
    · have hb' : b < s.heap.objs.size := by
        have e' : b = e ∨ b = it := by simpa using hb
        rcases e' with z | z
        · rw [z]; exact hel
        · rw [z]; exact hil
      rw [upd_ne (Nat.ne_of_lt hb')]
      exact (hf b hb).1
  done := by
    intro X hP hw hK hc i pins s σ H E I hf st hg
    subst hP hw hK
    obtain ⟨⟨old, he⟩, hit, hne, hle⟩ := st
    obtain ⟨f0, f1, f2, f3, f4, f5⟩ := hf it (by simp)
    have ei : i = x.cps.size := Nat.le_antisymm hle hg
    subst ei
    exact wpAny_pyNext_enum_endD (Draws.text (A := X.A.in1) (I.ok.hd hc) it x t) he hit fun h' eb => ⟨rfl, I.turned (t' := s.toks) (fun b o hb q => eb b o hb q) f0 f1 f3 f4 f5⟩
  self := fun A i s Q E st h => let ⟨⟨_, he⟩, _⟩ := st; wpAny_pyIter_enum he h
def iEnumA (K : PySem.W.Frag) (ta : TA) : TI := fun σ H R => ta σ H fun vs H1 => (∃ a xs, vs = [.ref a] ∧ SqL K H1 a xs ∧ R (Ite K a) H1) ∨ ∃ x, vs = [.str x] ∧ R (Its2 x) H1
theorem pi_enumA {ta : TA} {p tpos : Pos} {elts : List Expr} {kk : Nat} (hg : Gl X "enumerate") (hm : X.mg "enumerate" = none) (ha : PA X [e] ta) (hs : starEach [e] X.env = [(false, eval e X.env)] := by rfl) :
    PI X (.Tuple elts kk tpos) (.Call (.Name "enumerate" p) [e] [] pos) (iEnumA X.K ta) := by
  refine ⟨fun pins s σ H R I h => ?_⟩
  refine Call_ (ld_blt I hg hm boot_enumerate (PyProof.Rows.callWith_type1 (thn (ha.run pos pins s σ H _ I h) fun us s1 ⟨vs, H1, I1, r1, q1⟩ => ?_) hs rfl))
  have fp : ∀ {h' : Heap} (b : Addr), b ∈ [s1.heap.objs.size + 1, s1.heap.objs.size] → FpOk X pins H1 b := fun {h'} b hb => by
    have e' : b = s1.heap.objs.size + 1 ∨ b = s1.heap.objs.size := by simpa using hb
    have hle : s1.heap.objs.size ≤ b := by
      rcases e' with z | z
      · rw [z]; exact Nat.le_add_right _ _
      · rw [z]; exact Nat.le_refl _
    exact I1.fpOk hle (I1.hok.fresh hle)
  rcases q1 with ⟨a, xs, ex, hq, q⟩ | ⟨x, ex, q⟩
  · subst ex
    cases r1 with
    | cons r rr =>
      cases rr
      cases r
      obtain ⟨its, rv, p', hz⟩ := I1.list hq
      refine call_enumerate_list p'.isList fun h' he hit hsz hk => wpAny_pyIter_enum he ?_
      have I2 : Inv X pins σ H1 { s1 with heap := h' } := I1.kept (t' := s1.toks) hk
      exact ⟨s1.heap.objs.size + 1, [s1.heap.objs.size + 1, s1.heap.objs.size], _, _, H1, rfl, I2, turn_enum a (s1.heap.objs.size + 1) s1.heap.objs.size, ⟨⟨.none, he⟩, hit, Nat.succ_ne_self _⟩, fp (h' := h'), q⟩
  · subst ex
    cases r1 with
    | cons r rr =>
      cases rr
      obtain ⟨t, rfl⟩ := r
      refine call_enumerate_str fun h' he hit hsz hk => wpAny_pyIter_enum he ?_
      have I2 : Inv X pins σ H1 { s1 with heap := h' } := I1.kept (t' := s1.toks) hk
      exact ⟨s1.heap.objs.size + 1, [s1.heap.objs.size + 1, s1.heap.objs.size], _, _, H1, rfl, I2, turn_enumS x t (s1.heap.objs.size + 1) s1.heap.objs.size, ⟨⟨.none, he⟩, hit, Nat.succ_ne_self _, Nat.zero_le _⟩, fp (h' := h'), q⟩
theorem enumD_get {ds : List D} {i : Nat} {d : D} (h : (enumD ds)[i]? = some d) : ∃ x, ds[i]? = some x ∧ d = .tuple [.int (i : Nat), x] := by
  unfold enumD at h
  rw [List.getElem?_zipWith] at h
  cases q : ds[i]? with
  | none => rw [q] at h; cases q2 : (List.range ds.length)[i]? <;> rw [q2] at h <;> cases h
  | some x =>
    have hi := (List.getElem?_eq_some_iff.mp q).1
    rw [q, List.getElem?_range hi] at h
    exact ⟨x, rfl, (Option.some.inj h).symm⟩
theorem enumD_length (ds : List D) : (enumD ds).length = ds.length := by unfold enumD; simp
theorem beh_enum {p : Addr} {ds : List D} : Behaves K [(.ref p, .list ds)] (Ite K p) (enumD ds) := by
  intro A H h
  have r := h _ (List.mem_singleton.mpr rfl)
  cases r with
  | lst e n l =>
    refine ⟨fun i d hd => ?_, fun i hi => ⟨_, .of e, by rw [l.length]; rw [enumD_length] at hi; exact hi⟩⟩
    obtain ⟨x, hx, rfl⟩ := enumD_get hd
    obtain ⟨y, ey, ry⟩ := l.get hx
    refine ⟨⟨_, y, .of e, ey⟩, fun v H' hy => ?_⟩
    obtain ⟨T, z, rfl, hT, rfl, hz⟩ := hy
    have := hz _ (.of e)
    rw [ey] at this
    cases this
    exact ⟨same_upd hT, .tup upd_same (.cons (.int _) (.cons (ry.mv (mv_same (same_upd hT))) .nil))⟩
theorem beh_enumS {x : Str} : Behaves K [] (Its2 x) (enumD (signs x)) := by
  intro A H _
  refine ⟨fun i d hd => ?_, fun i hi => ?_⟩
  · obtain ⟨y, hy, rfl⟩ := enumD_get hd
    unfold signs at hy
    rw [List.getElem?_map] at hy
    cases q : x.cps.toList[i]? with
    | none => rw [q] at hy; cases hy
    | some c =>
      rw [q] at hy
      have hy' := Option.some.inj hy
      subst hy'
      have hc : x.cps[i]? = some c := by simpa using q
      refine ⟨(Array.getElem?_eq_some_iff.mp hc).1, fun v H' h' => ?_⟩
      obtain ⟨T, c', rfl, hT, hc', rfl⟩ := h'
      rw [hc] at hc'
      cases hc'
      exact ⟨same_upd hT, .tup upd_same (.cons (.int _) (.cons (.str _) .nil))⟩
  · rw [enumD_length] at hi
    have : x.cps.size ≤ i := by unfold signs at hi; simpa using hi
    exact this
@[reducible] def iEnumD (ga : WA) : WI := fun en P => ga en fun rs => match rs with
  | [r] => (match r.d with
    | .list ds => r.k.clean = true ∧ P (enumD ds)
    | .str z => P (enumD (signs z))
    | _ => False)
  | _ => False
theorem vi_enum {p tpos : Pos} {elts : List Expr} {kk : Nat} (hg : Gl X "enumerate") (hm : X.mg "enumerate" = none) (ha : VA X [e] ga) (hs : starEach [e] X.env = [(false, eval e X.env)] := by rfl) :
    VIt X (.Tuple elts kk tpos) (.Call (.Name "enumerate" p) [e] [] pos) (iEnumD ga) := by
  obtain ⟨t, pa, i⟩ := ha.ex
  refine ⟨⟨_, pi_enumA hg hm pa hs, ?_⟩⟩
  intro M B G H0 H own en σ P R I hf k
  refine i I hf fun rs vs H1 h1 s1 k1 => ?_
  unfold iEnumD at hf
  split at h1
  · rename_i r
    cases k1 with
    | cons k1 k2 =>
      cases k2
      obtain ⟨kd, d⟩ := r
      split at h1
      · rename_i ds ed
        cases ed
        have r1 := k1.rp I s1 h1.1
        cases r1 with
        | lst e2 n l => exact .inl ⟨_, _, rfl, .of e2, k [(.ref _, .list ds)] _ _ _ h1.2 s1 (fun q hq => by rw [List.mem_singleton.mp hq]; exact Rp.lst e2 n l) beh_enum⟩
      · rename_i z ed
        cases ed
        have := k1.str I s1
        subst this
        exact .inr ⟨z, rfl, k [] _ _ _ h1 s1 (fun q hq => nomatch hq) beh_enumS⟩
      · exact h1.elim
  · exact h1.elim

/-! ### an owned list is changed -/
theorem VI.mutL {M B : AV} {G : List (V × D)} {H0 H : Hp} {own : Nat → Option Addr} {en : En} {σ : L2.St} (I : VI K M B G H0 own en σ H) {i : Nat} {ds ds' : List D} (he : en[i]? = some (.ow (.list ds))) :
    ∃ p xs, σ[i]? = some (some (.ref p)) ∧ own i = some p ∧ H p = some (.lst xs) ∧ RpL K H (av own B) xs ds ∧ ∀ xs', RpL K H (av own B) xs' ds' → VI K M B G H0 own (en.set i (.ow (.list ds'))) σ (upd H p (.lst xs')) := by
  obtain ⟨p, e1, e2, xs, e3, l⟩ := I.sl i _ he
  have hi : i < en.length := (List.getElem?_eq_some_iff.mp he).1
  refine ⟨p, xs, e2, e1, e3, l, fun xs' l' => ?_⟩
  have w : Mv K H (upd H p (.lst xs')) (av own B) (av own B) := mv_upd (.inr ⟨i, e1⟩) (by rw [e3]; trivial)
  refine ⟨by simp [I.len], fun b u e n => ?_, fun b e => ?_, fun b xs e => ?_, fun b e => ?_, I.bO, I.nd, I.new, fun j q e => ?_, fun j t e => ?_, fun q hq => (I.gh q hq).mv w⟩
  · have hb : b ≠ p := fun z => by
      rcases I.new i p e1 with h | h
      · rw [z, h] at e; cases e
      · exact n (z ▸ h)
    rw [upd_ne hb]
    exact I.old b u e n
  · by_cases z : b = p
    · rw [z, upd_same]; exact fun y => nomatch y
    · rw [upd_ne z]; exact I.trk b e
  · have hb : b ≠ p := fun z => by
      have := I.tup b xs e
      rw [z, e3] at this
      cases this
    rw [upd_ne hb]
    exact I.tup b xs e
  · by_cases z : b = p
    · rw [z, upd_same]; exact fun y => nomatch y
    · rw [upd_ne z]; exact I.bT b e
  · by_cases hj : j = i
    · subst hj; exact ⟨_, by rw [List.getElem?_set_self hi]⟩
    · obtain ⟨d', hd⟩ := I.olt j q e
      exact ⟨d', by rw [List.getElem?_set_ne (Ne.symm hj)]; exact hd⟩
  · by_cases hj : j = i
    · subst hj
      rw [List.getElem?_set_self hi] at e
      cases e
      exact ⟨p, e1, e2, xs', upd_same, l'.mv w⟩
    · rw [List.getElem?_set_ne (Ne.symm hj)] at e
      have h := I.sl j t e
      cases t with
      | dead => trivial
      | sh d => obtain ⟨v, e4, r⟩ := h; exact ⟨v, e4, r.mv w⟩
      | ow d =>
        obtain ⟨q, e4, e5, r⟩ := h
        have hq : q ≠ p := fun z => hj (I.nd j i p (by rw [e4, z]) e1)
        exact ⟨q, e4, e5, r.mv w fun o z => by rw [upd_ne hq]; exact z⟩
/-- a slot owns its list no more -/
theorem VI.demote {M B : AV} {G : List (V × D)} {H0 H : Hp} {own : Nat → Option Addr} {en : En} {σ : L2.St} (I : VI K M B G H0 own en σ H) {i : Nat} {d : D} (he : en[i]? = some (.ow d)) : VI K M B G H0 (own0 own i) (en.set i (.sh d)) σ H := by
  obtain ⟨p, e1, e2, r⟩ := I.sl i _ he
  have hi : i < en.length := (List.getElem?_eq_some_iff.mp he).1
  have w : Mv K H H (av own B) (av (own0 own i) B) := mv_weak fun b z => own0_le z
  have np : ¬ av (own0 own i) B p := fun z => by
    rcases z with z | ⟨j, z⟩
    · exact I.bO i p e1 z
    · unfold own0 at z
      split at z
      · cases z
      · rename_i hj; exact hj (I.nd j i p z e1)
  refine ⟨by simp [I.len], I.old, I.trk, I.tup, I.bT, fun j a e => ?_, fun j k a e1 e2 => ?_, fun j a e => ?_, fun j a e => ?_, fun j t e => ?_, fun p hp => (I.gh p hp).mv w⟩
  · unfold own0 at e
    split at e
    · cases e
    · exact I.bO j a e
  · unfold own0 at e1 e2
    split at e1
    · cases e1
    · split at e2
      · cases e2
      · exact I.nd j k a e1 e2
  · unfold own0 at e
    split at e
    · cases e
    · exact I.new j a e
  · unfold own0 at e
    split at e
    · cases e
    · rename_i hne
      obtain ⟨d', hd⟩ := I.olt j a e
      exact ⟨d', by rw [List.getElem?_set_ne (Ne.symm hne)]; exact hd⟩
  · by_cases hj : j = i
    · subst hj
      rw [List.getElem?_set_self hi] at e
      cases e
      exact ⟨_, e2, (r.mv w fun _ z => z).rp np⟩
    · rw [List.getElem?_set_ne (Ne.symm hj)] at e
      have h := I.sl j t e
      have eo : own0 own i j = own j := by unfold own0; rw [if_neg hj]
      rw [eo]
      cases t with
      | dead => trivial
      | sh d' => obtain ⟨v', e1, r'⟩ := h; exact ⟨v', e1, r'.mv w⟩
      | ow d' => obtain ⟨a, e1, e2, r'⟩ := h; exact ⟨a, e1, e2, r'.mv w fun _ z => z⟩
@[reducible] def demo (i : Nat) (en : En) (P : En → Prop) : Prop := match gt en i with
  | some (.ow d) => put i (.sh d) en P
  | some (.sh _) => P en
  | _ => False
theorem vs_demote (i : Nat) (h : VS X st f) : VS X st (fun E en => demo i en fun en' => f E en') := by
  obtain ⟨t, p, im⟩ := h.ex
  refine ⟨⟨t, p, ?_⟩⟩
  intro M B G H0 H own en σ E F I hf L
  unfold demo at hf
  rw [gt_eq] at hf
  split at hf
  · rename_i d hd
    exact im (I.demote hd) (put_lt hf).2 L
  · exact im I hf L
  · exact hf.elim

/-! ### expressions that change a slot's list: e, w.pop(), w.pop(k) -/
abbrev WX := En → (En → D → Prop) → Prop
def ImX (K : PySem.W.Frag) (t : TE) (f : WX) : Prop := ∀ {M B : AV} {G : List (V × D)} {H0 H : Hp} {own : Nat → Option Addr} {en : En} {σ : L2.St} {P : En → D → Prop} {Q : VK},
  VI K M B G H0 own en σ H → f en P → (∀ en' d v H', P en' d → VI K M B G H0 own en' σ H' → Rp K H' (av own B) v d → Q v H') → t σ H Q
structure VX (X : Cx) (e : Expr) (f : WX) : Prop where
  ex : ∃ t, PE X e t ∧ ImX X.K t f
@[reducible] def xPure (fe : WE) : WX := fun en P => fe en fun r => (r.k.clean || flat r.d) = true ∧ P en r.d
theorem vx_pure (h : VE X e fa) : VX X e (xPure fa) := by
  obtain ⟨t, p, i⟩ := h.ex
  refine ⟨⟨t, p, ?_⟩⟩
  intro M B G H0 H own en σ P Q I hf k
  exact i I hf fun r v H1 h1 s1 k1 => k _ _ _ _ h1.2 (I.same s1) (k1.rpC I s1 h1.1)
@[reducible] def xPop (i : Nat) : WX := fun en P => match gt en i with
  | some (.ow (.list ds)) => (match ds[ds.length - 1]? with
    | some d => put i (.ow (.list ds.dropLast)) en fun e => P e d
    | none => False)
  | _ => False
@[reducible] def xPopAt (i : Nat) (fe : WE) : WX := fun en P => match gt en i with
  | some (.ow (.list ds)) => fe en fun r => (match r.d with
    | .int j => (-(2 ^ 63) ≤ j ∧ j < 2 ^ 63) ∧ (match ixN ds.length j with
      | some n => (match ds[n]? with
        | some d => put i (.ow (.list (ds.eraseIdx n))) en fun e => P e d
        | none => False)
      | none => False)
    | _ => False)
  | _ => False
theorem imPop (i : Nat) : ImX K (tBM0 K "list" rPop (tVar i)) (xPop i) := by
  intro M B G H0 H own en σ P Q I hf k
  unfold xPop at hf
  rw [gt_eq] at hf
  split at hf
  · rename_i ds hd
    split at hf
    · rename_i d hl
      obtain ⟨p, xs, e2, e1, e3, l, up⟩ := I.mutL (ds' := ds.dropLast) hd
      obtain ⟨y, ey, ry⟩ := l.get hl
      refine ⟨_, e2, .inl ⟨rfl, _, .inl (.inl e3)⟩, p, xs, y, rfl, rfl, e3, by rw [l.length]; exact ey, ?_⟩
      have w : Mv K H (upd H p (.lst xs.dropLast)) (av own B) (av own B) := mv_upd (.inr ⟨i, e1⟩) (by rw [e3]; trivial)
      exact k _ _ _ _ (put_lt hf).2 (up _ l.dropLast) (ry.mv w)
    · exact hf.elim
  · exact hf.elim
theorem vx_pop {i : Nat} {x : Str} {npos : Pos} (hN : X.N[i]? = some x := by rfl) (hv : Vis X.env.scope x := by first | exact Or.inl rfl | exact Or.inr (Or.inl rfl) | exact Or.inr (Or.inr rfl)) (hd : (x == ("__debug__" : Str)) = false := by decide) (hcd : (x == ("__classdict__" : Str)) = false := by decide)
    (h : ∀ to, PE X (.Name x npos) to → PE X e (tBM0 X.K "list" rPop to)) : VX X e (xPop i) := ⟨⟨_, h _ (pv i hN hv hd hcd), imPop i⟩⟩
theorem imPopAt (i : Nat) {te : TE} (im : ImE K te fa) : ImX K (tBM K "list" rPopAt (tVar i) (tCons te tNil)) (xPopAt i fa) := by
  intro M B G H0 H own en σ P Q I hf k
  unfold xPopAt at hf
  rw [gt_eq] at hf
  split at hf
  · rename_i ds hd
    obtain ⟨p, xs, e2, e1, e3, l, _⟩ := I.mutL (ds' := ds) hd
    refine ⟨_, e2, .inl ⟨rfl, _, .inl (.inl e3)⟩, im I hf fun r v H1 h1 s1 k1 => ?_⟩
    obtain ⟨kd, d⟩ := r
    split at h1
    · rename_i j ej
      cases ej
      obtain ⟨⟨h2, h3⟩, h1⟩ := h1
      split at h1
      · rename_i n hn
        split at h1
        · rename_i d hdn
          obtain ⟨p', xs', e2', e1', e3', l', up'⟩ := (I.same s1).mutL (ds' := ds.eraseIdx n) hd
          have ep : p' = p := by rw [e1] at e1'; exact (Option.some.inj e1').symm
          subst ep
          obtain ⟨y, ey, ry⟩ := l'.get hdn
          have q := ixN_seq hn
          refine ⟨p', xs', j, n, y, rfl, by rw [k1.int I s1], e3', h2, h3, by rw [l'.length]; exact q.1, ey, ?_⟩
          have w : Mv K H1 (upd H1 p' (.lst (xs'.eraseIdx n))) (av own B) (av own B) := mv_upd (.inr ⟨i, e1⟩) (by rw [e3']; trivial)
          exact k _ _ _ _ (put_lt h1).2 (up' _ (l'.eraseIdx n)) (ry.mv w)
        · exact h1.elim
      · exact h1.elim
    · exact h1.elim
  · exact hf.elim
theorem vx_popAt {i : Nat} {x : Str} {npos : Pos} (he : VE X a fa) (hN : X.N[i]? = some x := by rfl) (hv : Vis X.env.scope x := by first | exact Or.inl rfl | exact Or.inr (Or.inl rfl) | exact Or.inr (Or.inr rfl)) (hd : (x == ("__debug__" : Str)) = false := by decide) (hcd : (x == ("__classdict__" : Str)) = false := by decide)
    (h : ∀ to te, PE X (.Name x npos) to → PE X a te → PE X e (tBM X.K "list" rPopAt to (tCons te tNil))) : VX X e (xPopAt i fa) :=
  let ⟨t, p, im⟩ := he.ex
  ⟨⟨_, h _ _ (pv i hN hv hd hcd) p, imPopAt i im⟩⟩
@[reducible] def xIf (t : WT) (f g : WX) : WX := fun en P => t en fun b => if b = true then f en P else g en P
variable {xa xb : WX}
theorem vx_if (ht : VT X c ft) (h : VX X a xa) (h2 : VX X b xb) : VX X (.IfExp c a b pos) (xIf ft xa xb) := by
  obtain ⟨t, p, i⟩ := h.ex
  obtain ⟨t2, p2, i2⟩ := h2.ex
  obtain ⟨t0, p0, i0⟩ := ht.ex
  refine ⟨⟨_, pe_ifExp p0 p p2, ?_⟩⟩
  intro M B G H0 H own en σ P Q I hf k
  refine i0 I hf fun c H1 h1 s1 => ?_
  cases c with
  | true => exact i (I.same s1) h1 k
  | false => exact i2 (I.same s1) h1 k
@[reducible] def sAsgX (xe : WX) (g : WG) : WS := fun E en => xe en fun en' d => g d en' E.nx
theorem vs_asgX (he : VX X e xa) (hg : VG X tg wg is) (hs : swapsWithSole [tg] e pos.line X.env = pure false := by rfl) (hw : swappedStores [tg] e X.env = pure none := by rfl)
    (h1 : (assignEach [tg] X.env).map (·.2) = [assign tg X.env] := by rfl) : VS X (.Assign [tg] e pos) (sAsgX xa wg) := by
  obtain ⟨t, p, i⟩ := he.ex
  obtain ⟨t2, p2, i2⟩ := hg.ex
  refine ⟨⟨_, ps_asg p p2 hs hw h1, ?_⟩⟩
  intro M B G H0 H own en σ E F I hf L
  exact i I hf fun en' d v H1 h' I' r => i2 I' r h' fun own' en' σ' I' _ _ h' => L.nx _ _ _ _ I' h'
/-- x.append(e), e changes no slot but its own -/
@[reducible] def isOwL : Option Sl → Bool
  | some (.ow (.list _)) => true
  | _ => false
@[reducible] def sApp (i : Nat) (xe : WX) : WS := fun E en => isOwL (gt en i) = true ∧ xe en fun en' d => match gt en' i with
  | some (.ow (.list ds)) => ds.length < sizeLine ∧ put i (.ow (.list (ds ++ [d]))) en' E.nx
  | _ => False
theorem imApp (i : Nat) {te : TE} (im : ImX K te xa) : ImS K (tDrop (tBM K "list" rAppend (tVar i) (tCons te tNil))) (sApp i xa) := by
  intro M B G H0 H own en σ E F I hf L
  obtain ⟨h0, hf⟩ := hf
  unfold isOwL at h0
  rw [gt_eq] at h0
  split at h0
  · rename_i ds0 hd0
    obtain ⟨p, xs, e2, e1, e3, l, _⟩ := I.mutL (ds' := ds0) hd0
    refine ⟨_, e2, .inl ⟨rfl, _, .inl (.inl e3)⟩, im I hf fun en' d v H1 h1 I1 r => ?_⟩
    rw [gt_eq] at h1
    split at h1
    · rename_i ds hd
      obtain ⟨p', xs', e2', e1', e3', l', up'⟩ := I1.mutL (ds' := ds ++ [d]) hd
      have ep : p' = p := by rw [e1] at e1'; exact (Option.some.inj e1').symm
      subst ep
      refine ⟨p', xs', v, rfl, rfl, e3', by rw [l'.length]; exact h1.1, L.nx _ _ _ _ (up' _ (l'.append (.cons r .nil))) (put_lt h1.2).2⟩
    · exact h1.elim
  · exact nomatch h0
theorem vs_append {i : Nat} {x : Str} {npos : Pos} (he : VX X a xa) (hN : X.N[i]? = some x := by rfl) (hv : Vis X.env.scope x := by first | exact Or.inl rfl | exact Or.inr (Or.inl rfl) | exact Or.inr (Or.inr rfl)) (hd : (x == ("__debug__" : Str)) = false := by decide) (hcd : (x == ("__classdict__" : Str)) = false := by decide)
    (h : ∀ to te, PE X (.Name x npos) to → PE X a te → PE X e (tBM X.K "list" rAppend to (tCons te tNil))) (hs : swapsWith e none pos.line X.env = pure false := by rfl) : VS X (.Expr e pos) (sApp i xa) :=
  let ⟨t, p, im⟩ := he.ex
  ⟨⟨_, ps_expr (h _ _ (pv i hN hv hd hcd) p) hs, imApp i im⟩⟩
@[reducible] def sExt (i : Nat) (fa : WE) : WS := fun E en => match gt en i with
  | some (.ow (.list ds)) => fa en fun r => (match r.d with
    | .list es => (r.k.kids || flats es) = true ∧ ds.length + es.length ≤ sizeLine ∧ put i (.ow (.list (ds ++ es))) en E.nx
    | _ => False)
  | _ => False
theorem vs_extend {i : Nat} {x : Str} {npos : Pos} (he : VE X a fa) (hN : X.N[i]? = some x := by rfl) (hv : Vis X.env.scope x := by first | exact Or.inl rfl | exact Or.inr (Or.inl rfl) | exact Or.inr (Or.inr rfl)) (hd : (x == ("__debug__" : Str)) = false := by decide) (hcd : (x == ("__classdict__" : Str)) = false := by decide)
    (h : ∀ to te, PE X (.Name x npos) to → PE X a te → PE X e (tBM X.K "list" rExtend to (tCons te tNil))) (hs : swapsWith e none pos.line X.env = pure false := by rfl) : VS X (.Expr e pos) (sExt i fa) := by
  obtain ⟨t, p, im⟩ := he.ex
  refine ⟨⟨_, ps_expr (h _ _ (pv i hN hv hd hcd) p) hs, ?_⟩⟩
  intro M B G H0 H own en σ E F I hf L
  unfold sExt at hf
  rw [gt_eq] at hf
  split at hf
  · rename_i ds hd
    obtain ⟨p, xs, e2, e1, e3, l, _⟩ := I.mutL (ds' := ds) hd
    refine ⟨_, e2, .inl ⟨rfl, _, .inl (.inl e3)⟩, im I hf fun r v H1 h1 s1 k1 => ?_⟩
    obtain ⟨kd, d⟩ := r
    split at h1
    · rename_i es ed
      cases ed
      obtain ⟨q, ys, rfl, e4, l4⟩ := k1.kidsF I s1 h1.1
      obtain ⟨p', xs', e2', e1', e3', l', up'⟩ := (I.same s1).mutL (ds' := ds ++ es) hd
      have ep : p' = p := by rw [e1] at e1'; exact (Option.some.inj e1').symm
      subst ep
      exact ⟨p', q, xs', ys, rfl, rfl, e3', e4, by rw [l'.length, l4.length]; exact h1.2.1, L.nx _ _ _ _ (up' _ (l'.append l4)) (put_lt h1.2.2).2⟩
    · exact h1.elim
  · exact hf.elim
end
end VL

/-! VK: a def of the text and its promise, bundled; in, min, max. -/
namespace VL
open PySem PySem.Spec PyProof.Rows L2

/-- the def x keeps the promise sp -/
structure Cal (P : Program) (w : World) (K : PySem.W.Frag) (mg : Str → Option Value) (base : Heap) (k : Nat) (x : Str) (ps : List Str) (sp : DS) : Prop where
  ex : ∃ (f : Addr) (fd : FuncData), FnOk P w K mg base CX0 k f fd ps (spV K sp) ∧ Binds K fd ps [] ∧ mg x = some (.ref f) ∧ PySem.W.keepIn K (.ref f) = true
/-- the def x stands as the statement st of the text -/
structure Dfn (K : PySem.W.Frag) (mg : Str → Option Value) (x : Str) (st : Stmt) (ps : List Str) : Prop where
  ex : ∃ (f : Addr) (fd : FuncData), Fun K x x st f fd ∧ Binds K fd ps [] ∧ mg x = some (.ref f)
theorem vokC {P : Program} {w : World} {K : PySem.W.Frag} {mg : Str → Option Value} {base : Heap} {x : Str} {st : Stmt} {N ps : List Str} {k : Nat} {sp : DS} (F : Dfn K mg x st ps) (S : FnScope N ps (defScope st))
    (len : ∀ ds Q, sp ds Q → ds.length = ps.length)
    (hbody : ∀ (f : Addr) (cdv : Value) (A : Around) (outer : List Env) (s : Shared) (H : Hp) (E : XK), Room k (A.deeper (envOfC x (defScope st) s.heap.objs.size f cdv)) →
      ∃ g, VSs (cxOf CX0 P w K mg base N x (defScope st) f cdv A outer s H E).nox (defBody st) g ∧ ∀ ds Q, sp ds Q → g (Post Q) (startE N ds)) : Cal P w K mg base (k + 1) x ps sp := by
  obtain ⟨f, fd, h, b, m⟩ := F.ex
  exact ⟨⟨f, fd, vok h S len fun cdv A outer s H E hr => hbody f cdv A outer s H E hr, b, m, h.kp⟩⟩
theorem Cal.mono {P : Program} {w : World} {K : PySem.W.Frag} {mg : Str → Option Value} {base : Heap} {x : Str} {ps : List Str} {j k : Nat} {sp : DS} (h : Cal P w K mg base j x ps sp) (le : j ≤ k) : Cal P w K mg base k x ps sp :=
  let ⟨f, fd, F, b⟩ := h.ex
  ⟨⟨f, fd, F.mono le, b⟩⟩
section
variable {X : Cx} {a b c e : Expr} {es : List Expr} {pos pos' : Pos} {fa fb fc : WE} {K : PySem.W.Frag} {ga : WA}
theorem ve_callC {j k : Nat} {ps : List Str} {sp : DS} {x : Str} {p : Pos} (C : Cal X.prog X.w X.K X.mg X.base j x ps sp) (hr : Room k X.A) (hg : Gl X x)
    (ha : VA X (e :: es) ga) (le : j ≤ k := by decide) (hdb : (x == ("__debug__" : Str)) = false := by decide) (he : starEach (e :: es) X.env = (false, eval e X.env) :: starEach es X.env := by rfl) (hpl : (backTo pos (starEach es X.env)).any (·.1) = false := by rfl) :
    VE X (.Call (.Name x p) (e :: es) [] pos) (wCall sp ga) :=
  let ⟨f, fd, F, b, m, kp⟩ := C.ex
  ve_call F (hr.mono le) hg m kp b ha hdb he hpl
theorem ve_globI {x : Str} {i : Int} (g : ∃ t, X.mg x = some (.int i t)) (hg : Gl X x) (hd : (x == ("__debug__" : Str)) = false := by decide) : VE X (.Name x pos) (wC (.int i)) :=
  let ⟨t, ht⟩ := g
  ve_glob (v := .int i) hg ht ⟨t, rfl⟩ (fun _ _ _ => .int i) hd
/-- a tuple of the written part -/
theorem ve_globW {x : Str} {ds : List D} (g : ∃ p, X.mg x = some (.ref p) ∧ ∀ H A, Rp X.K H A (.ref p) (.wt ds)) (hg : Gl X x) (hd : (x == ("__debug__" : Str)) = false := by decide) : VE X (.Name x pos) (wC (.wt ds)) :=
  let ⟨p, hp, r⟩ := g
  ve_globT hg hp r hd
/-- built-in names that the module doesn't bind -/
def NB (mg : Str → Option Value) (xs : List Str) : Prop := ∀ x, x ∈ xs → mg x = none

end
/-! ### keys -/
mutual
def keq : D → D → Bool
  | .int i, .int j => decide (i = j)
  | .str x, .str y => decide (x = y)
  | .tuple xs, .tuple ys => keqs xs ys
  | _, _ => false
def keqs : List D → List D → Bool
  | [], [] => true
  | x :: xs, y :: ys => keq x y && keqs xs ys
  | _, _ => false
end
def lookD (es : List (D × D)) (k : D) : Option D := (es.find? fun p => keq p.1 k).map (·.2)
theorem keq_key (a b : Key) : keq (keyD a) (keyD b) = decide (a = b) := by
  cases a with
  | inl i =>
    cases b with
    | inl j =>
      simp only [keyD, keq]
      exact decide_eq_decide.mpr ⟨fun e => by rw [e], fun e => Sum.inl.inj e⟩
    | inr y => simp [keyD, keq]
  | inr x =>
    cases b with
    | inl j => simp [keyD, keq]
    | inr y =>
      simp only [keyD, keq]
      exact decide_eq_decide.mpr ⟨fun e => by rw [e], fun e => Sum.inr.inj e⟩
theorem keqs_keys : ∀ (a b : List Key), keqs (a.map keyD) (b.map keyD) = decide (a = b)
  | [], [] => by simp [keqs]
  | [], _ :: _ => by simp [keqs]
  | _ :: _, [] => by simp [keqs]
  | x :: xs, y :: ys => by
    simp only [List.map_cons, keqs, keq_key, keqs_keys xs ys]
    by_cases h : x = y <;> by_cases h2 : xs = ys <;> simp [h, h2]
theorem keq_tkey (a b : List Key) : keq (tkeyD a) (tkeyD b) = decide (a = b) := by simp only [tkeyD, keq, keqs_keys]
theorem keq_mix (a : Key) (b : List Key) : keq (keyD a) (tkeyD b) = false ∧ keq (tkeyD b) (keyD a) = false := by
  cases a <;> simp [keyD, tkeyD, keq]
section
variable {K : PySem.W.Frag}
theorem RpK.look {H : Hp} {A : AV} (k : Key) : ∀ {kvs : List (Key × V)} {es : List (D × D)}, RpK K H A kvs es →
    (valV kvs k = none ∧ lookD es (keyD k) = none) ∨ ∃ v d, valV kvs k = some v ∧ lookD es (keyD k) = some d ∧ Rp K H A v d
  | _, _, .nil => .inl ⟨rfl, rfl⟩
  | _, _, .cons (k := q) (v := v) (d := d) r t => by
    by_cases e : q = k
    · subst e
      exact .inr ⟨v, d, valV_pos rfl, by simp [lookD, List.find?_cons, keq_key], r⟩
    · rcases RpK.look k t with ⟨h1, h2⟩ | ⟨v', d', h1, h2, h3⟩
      · exact .inl ⟨by rw [valV_neg e]; exact h1, by unfold lookD at h2 ⊢; rw [List.find?_cons, keq_key, decide_eq_false e]; exact h2⟩
      · exact .inr ⟨v', d', by rw [valV_neg e]; exact h1, by unfold lookD at h2 ⊢; rw [List.find?_cons, keq_key, decide_eq_false e]; exact h2, h3⟩
theorem RpT.look {H : Hp} {A : AV} (k : List Key) : ∀ {kvs : List (List Key × V)} {es : List (D × D)}, RpT K H A kvs es →
    (valV kvs k = none ∧ lookD es (tkeyD k) = none) ∨ ∃ v d, valV kvs k = some v ∧ lookD es (tkeyD k) = some d ∧ Rp K H A v d
  | _, _, .nil => .inl ⟨rfl, rfl⟩
  | _, _, .cons (k := q) (v := v) (d := d) r t => by
    by_cases e : q = k
    · subst e
      exact .inr ⟨v, d, valV_pos rfl, by simp [lookD, List.find?_cons, keq_tkey], r⟩
    · rcases RpT.look k t with ⟨h1, h2⟩ | ⟨v', d', h1, h2, h3⟩
      · exact .inl ⟨by rw [valV_neg e]; exact h1, by unfold lookD at h2 ⊢; rw [List.find?_cons, keq_tkey, decide_eq_false e]; exact h2⟩
      · exact .inr ⟨v', d', by rw [valV_neg e]; exact h1, by unfold lookD at h2 ⊢; rw [List.find?_cons, keq_tkey, decide_eq_false e]; exact h2, h3⟩
/-- a flat key: an int, a text -/
def isKey : D → Option Key
  | .int i => some (.inl i)
  | .str x => some (.inr x)
  | _ => none
def areKeys : List D → Option (List Key)
  | [] => some []
  | d :: ds => match isKey d, areKeys ds with
    | some k, some ks => some (k :: ks)
    | _, _ => none
theorem isKey_eq {d : D} {k : Key} (h : isKey d = some k) : d = keyD k := by
  cases d <;> simp [isKey] at h <;> subst h <;> rfl
theorem areKeys_eq : ∀ {ds : List D} {ks : List Key}, areKeys ds = some ks → ds = ks.map keyD
  | [], ks, h => by simp [areKeys] at h; subst h; rfl
  | d :: ds, ks, h => by
    unfold areKeys at h
    split at h
    · rename_i k ks' h1 h2
      have := Option.some.inj h
      subst this
      rw [isKey_eq h1, areKeys_eq h2]; rfl
    · cases h
theorem RpL.keys {H : Hp} {A : AV} : ∀ {ks : List Key} {vs : List V}, RpL K H A vs (ks.map keyD) → vs = ks.map kV
  | [], _, h => by cases h; rfl
  | k :: ks, _, h => by
    cases h with
    | cons r t =>
      rw [RpL.keys t]
      cases k with
      | inl i => cases r; rfl
      | inr x => cases r; rfl
theorem dget_k {H : Hp} {A : AV} {x y : V} {es : List (D × D)} {d : D} {k : Key} (rx : Rp K H A x (.dict es)) (ry : Rp K H A y d) (hk : isKey d = some k) :
    ∃ a o, x = .ref a ∧ DGet H a y o ∧ (o.isSome = (lookD es d).isSome) ∧ ∀ v, o = some v → ∃ e, lookD es d = some e ∧ Rp K H A v e := by
  have ed := isKey_eq hk
  subst ed
  have ey : y = kV k := by
    cases k with
    | inl i => cases ry; rfl
    | inr z => cases ry; rfl
  subst ey
  cases rx with
  | dK e n l =>
    refine ⟨_, _, rfl, .inl ⟨_, k, .inl e, rfl, rfl⟩, ?_⟩
    rcases RpK.look k l with ⟨h1, h2⟩ | ⟨v, d, h1, h2, h3⟩
    · exact ⟨by rw [h1, h2]; rfl, fun v z => by rw [h1] at z; cases z⟩
    · exact ⟨by rw [h1, h2]; rfl, fun w z => by rw [h1] at z; cases z; exact ⟨d, h2, h3⟩⟩
theorem dget_t {H : Hp} {A A' : AV} {x y : V} {es : List (D × D)} {ds : List D} {ks : List Key} (rx : Rp K H A x (.dicT es)) (ry : Rp K H A' y (.tuple ds)) (hk : areKeys ds = some ks) :
    ∃ a o, x = .ref a ∧ DGet H a y o ∧ (o.isSome = (lookD es (.tuple ds)).isSome) ∧ ∀ v, o = some v → ∃ e, lookD es (.tuple ds) = some e ∧ Rp K H A v e := by
  have ed := areKeys_eq hk
  subst ed
  cases ry with
  | tup ey ly =>
    rw [RpL.keys ly] at ey
    cases rx with
    | dT e n l =>
      refine ⟨_, _, rfl, .inr ⟨_, ks, _, .inl e, rfl, ey, rfl⟩, ?_⟩
      rcases RpT.look ks l with ⟨h1, h2⟩ | ⟨v, d, h1, h2, h3⟩
      · exact ⟨by rw [h1, show lookD _ (.tuple (ks.map keyD)) = none from h2]; rfl, fun v z => by rw [h1] at z; cases z⟩
      · exact ⟨by rw [h1, show lookD _ (.tuple (ks.map keyD)) = some d from h2]; rfl, fun w z => by rw [h1] at z; cases z; exact ⟨d, h2, h3⟩⟩
end
/-! ### in -/
/-- a plain scalar as a value -/
def scV : D → Option V
  | .none => some .non
  | .bool b => some (.bl b)
  | .int i => some (.int i)
  | .str x => some (.str x)
  | _ => none
theorem scV_of {K : PySem.W.Frag} {H : Hp} {A : AV} {v : V} {d : D} (r : Rp K H A v d) {x : V} (h : scV d = some x) : v = x ∧ flatV x = true := by
  cases r <;> simp [scV] at h <;> subst h <;> exact ⟨rfl, rfl⟩
def scVs : List D → Option (List V)
  | [] => some []
  | d :: ds => match scV d, scVs ds with
    | some x, some xs => some (x :: xs)
    | _, _ => none
theorem scVs_of {K : PySem.W.Frag} {H : Hp} {A : AV} : ∀ {vs : List V} {ds : List D}, RpL K H A vs ds → ∀ {xs : List V}, scVs ds = some xs → vs = xs ∧ xs.all flatV = true
  | _, _, .nil, xs, h => by simp [scVs] at h; subst h; exact ⟨rfl, rfl⟩
  | _, _, .cons r t, xs, h => by
    unfold scVs at h
    split at h
    · rename_i x ys h1 h2
      have := Option.some.inj h
      subst this
      obtain ⟨e1, e2⟩ := scV_of r h1
      obtain ⟨e3, e4⟩ := scVs_of t h2
      subst e1 e3
      exact ⟨rfl, by rw [List.all_cons, e2, e4]; rfl⟩
    · cases h
section
variable {X : Cx} {a b c e : Expr} {es : List Expr} {pos pos' : Pos} {fa fb fc : WE} {K : PySem.W.Frag} {ga : WA}
@[reducible] def gIn (neg : Bool) : G2 := fun r1 r2 P => match r2.d with
  | .str j => (match r1.d with
    | .str i => P ⟨.cl, .bool (neg ^^ !(Builtin.Str.occurrences j i 0 j.length 1).isEmpty)⟩
    | _ => False)
  | .list ds => shp r1.d = true ∧ shp (.list ds) = true ∧ P ⟨.cl, .bool (neg ^^ ds.any fun z => eqv z r1.d)⟩
  | .tuple ds => (match scV r1.d, scVs ds with
    | some x, some xs => P ⟨.cl, .bool (neg ^^ inV x xs)⟩
    | _, _ => False)
  | .dict es => (match isKey r1.d with
    | some _ => P ⟨.cl, .bool (neg ^^ (lookD es r1.d).isSome)⟩
    | none => False)
  | .dicT es => (match r1.d with
    | .tuple ds => (match areKeys ds with
      | some _ => P ⟨.cl, .bool (neg ^^ (lookD es (.tuple ds)).isSome)⟩
      | none => False)
    | _ => False)
  | _ => False
def rInAll (K : PySem.W.Frag) : R2 := fun x y H Q => ((∃ i j, x = .str i ∧ y = .str j ∧ Q (.bl (!(Builtin.Str.occurrences j i 0 j.length 1).isEmpty)) H) ∨ rInD K x y H Q) ∨ (rIn K false x y H Q ∨ ∃ a o, y = .ref a ∧ DGet H a x o ∧ Q (.bl o.isSome) H)
def rNotInAll (K : PySem.W.Frag) : R2 := fun x y H Q => ((∃ i j, x = .str i ∧ y = .str j ∧ Q (.bl (!(!(Builtin.Str.occurrences j i 0 j.length 1).isEmpty))) H) ∨ rNotInD K x y H Q) ∨ (rIn K true x y H Q ∨ ∃ a o, y = .ref a ∧ DGet H a x o ∧ Q (.bl (!o.isSome)) H)
theorem op_inDict (hu : X.A.units + 1 < cLine) : OpR X (compareOp .In) (fun x y H Q => ∃ a o, y = .ref a ∧ DGet H a x o ∧ Q (.bl o.isSome) H) := by
  intro pins s σ H x y v u Q I rx ry h
  obtain ⟨a, o, rfl, g, q⟩ := h
  obtain rfl : u = Value.ref a := ry
  exact d_in hu I g rx fun s3 I3 => ⟨.bl o.isSome, H, I3, rfl, q⟩
theorem op_notInDict (hu : X.A.units + 1 < cLine) : OpR X (compareOp .NotIn) (fun x y H Q => ∃ a o, y = .ref a ∧ DGet H a x o ∧ Q (.bl (!o.isSome)) H) := by
  intro pins s σ H x y v u Q I rx ry h
  obtain ⟨a, o, rfl, g, q⟩ := h
  obtain rfl : u = Value.ref a := ry
  exact d_notIn hu I g rx fun s3 I3 => ⟨.bl (!o.isSome), H, I3, rfl, q⟩
theorem room65 {k : Nat} {A : Around} (hr : Room k A) : A.units + 65 < cLine := by have := hr.un; omega
theorem room1 {k : Nat} {A : Around} (hr : Room k A) : A.units + 1 < cLine := by have := hr.un; omega
theorem op_inAll (h1 : X.A.units + 1 < cLine) (h2 : X.A.units + 65 < cLine) : OpR X (compareOp .In) (rInAll X.K) := (op_in_str.or (op_inD h2)).or (op_in_seq.or (op_inDict h1))
theorem op_notInAll (h1 : X.A.units + 1 < cLine) (h2 : X.A.units + 65 < cLine) : OpR X (compareOp .NotIn) (rNotInAll X.K) := (op_notin_str.or (op_notInD h2)).or (op_notIn_seq.or (op_notInDict h1))
theorem toP_list (ds : List D) : toP (.list ds) = .list (toPs ds) := by rw [toP]
theorem toPs_map : ∀ ds : List D, toPs ds = ds.map toP
  | [] => by rw [toPs]; rfl
  | d :: ds => by rw [toPs, toPs_map ds]; rfl
theorem opi_in : OpI K (rInAll K) (gIn false) := by
  intro M B G H0 Hs H own en σ x y rx ry P Q I s k1 k2 hg k
  obtain ⟨kd1, d1⟩ := rx
  obtain ⟨kd2, d2⟩ := ry
  unfold gIn at hg
  split at hg
  · rename_i j e2
    cases e2
    split at hg
    · rename_i i e1
      cases e1
      exact .inl (.inl ⟨i, j, k1.str I s, k2.str I s, k _ _ _ hg (.refl _) (by rw [Bool.false_xor]; exact Rp.bl _)⟩)
    · exact hg.elim
  · rename_i ds e2
    cases e2
    have r1 := (k1.rpB I s).dp (SeqAt.canLay_of_shaped hg.1)
    have r2 := (k2.rpB I s).dp (SeqAt.canLay_of_shaped hg.2.1)
    simp only [toP_list] at r2
    refine .inl (.inr ⟨toP d1, toPs ds, r1, r2, hg.1, by have := hg.2.1; unfold shp at this; rw [toP_list] at this; exact this, k _ _ _ hg.2.2 (.refl _) ?_⟩)
    rw [Bool.false_xor, toPs_map, List.any_map]
    exact Rp.bl _
  · rename_i ds e2
    cases e2
    split at hg
    · rename_i x0 xs0 h1 h2
      obtain ⟨e1, f1⟩ := scV_of (k1.rpB I s) h1
      obtain ⟨p, vs, rfl, ep, l⟩ := k2.tupB I s
      obtain ⟨e2, f2⟩ := scVs_of l h2
      subst e1 e2
      exact .inr (.inl ⟨p, _, rfl, .inr (.of ep), f1, f2, k _ _ _ hg (.refl _) (by rw [Bool.false_xor]; exact Rp.bl _)⟩)
    · exact hg.elim
  · rename_i es e2
    cases e2
    split at hg
    · rename_i kk hk
      obtain ⟨p, o, e3, g, e4, _⟩ := dget_k (k2.rpB I s) (k1.rpB I s) hk
      exact .inr (.inr ⟨p, o, e3, g, k _ _ _ hg (.refl _) (by rw [Bool.false_xor, e4]; exact Rp.bl _)⟩)
    · exact hg.elim
  · rename_i es e2
    cases e2
    split at hg
    · rename_i ds e1
      cases e1
      split at hg
      · rename_i kk hk
        obtain ⟨p, o, e3, g, e4, _⟩ := dget_t (k2.rpB I s) (k1.rpB I s) hk
        exact .inr (.inr ⟨p, o, e3, g, k _ _ _ hg (.refl _) (by rw [Bool.false_xor, e4]; exact Rp.bl _)⟩)
      · exact hg.elim
    · exact hg.elim
  · exact hg.elim
theorem opi_notIn : OpI K (rNotInAll K) (gIn true) := by
  intro M B G H0 Hs H own en σ x y rx ry P Q I s k1 k2 hg k
  obtain ⟨kd1, d1⟩ := rx
  obtain ⟨kd2, d2⟩ := ry
  unfold gIn at hg
  split at hg
  · rename_i j e2
    cases e2
    split at hg
    · rename_i i e1
      cases e1
      exact .inl (.inl ⟨i, j, k1.str I s, k2.str I s, k _ _ _ hg (.refl _) (by rw [Bool.true_xor]; exact Rp.bl _)⟩)
    · exact hg.elim
  · rename_i ds e2
    cases e2
    have r1 := (k1.rpB I s).dp (SeqAt.canLay_of_shaped hg.1)
    have r2 := (k2.rpB I s).dp (SeqAt.canLay_of_shaped hg.2.1)
    simp only [toP_list] at r2
    refine .inl (.inr ⟨toP d1, toPs ds, r1, r2, hg.1, by have := hg.2.1; unfold shp at this; rw [toP_list] at this; exact this, k _ _ _ hg.2.2 (.refl _) ?_⟩)
    rw [Bool.true_xor, toPs_map, List.any_map]
    exact Rp.bl _
  · rename_i ds e2
    cases e2
    split at hg
    · rename_i x0 xs0 h1 h2
      obtain ⟨e1, f1⟩ := scV_of (k1.rpB I s) h1
      obtain ⟨p, vs, rfl, ep, l⟩ := k2.tupB I s
      obtain ⟨e2, f2⟩ := scVs_of l h2
      subst e1 e2
      exact .inr (.inl ⟨p, _, rfl, .inr (.of ep), f1, f2, k _ _ _ hg (.refl _) (by rw [Bool.true_xor]; exact Rp.bl _)⟩)
    · exact hg.elim
  · rename_i es e2
    cases e2
    split at hg
    · rename_i kk hk
      obtain ⟨p, o, e3, g, e4, _⟩ := dget_k (k2.rpB I s) (k1.rpB I s) hk
      exact .inr (.inr ⟨p, o, e3, g, k _ _ _ hg (.refl _) (by rw [Bool.true_xor, e4]; exact Rp.bl _)⟩)
    · exact hg.elim
  · rename_i es e2
    cases e2
    split at hg
    · rename_i ds e1
      cases e1
      split at hg
      · rename_i kk hk
        obtain ⟨p, o, e3, g, e4, _⟩ := dget_t (k2.rpB I s) (k1.rpB I s) hk
        exact .inr (.inr ⟨p, o, e3, g, k _ _ _ hg (.refl _) (by rw [Bool.true_xor, e4]; exact Rp.bl _)⟩)
      · exact hg.elim
    · exact hg.elim
  · exact hg.elim
theorem ve_in {k : Nat} (hr : Room k X.A) (ha : VE X a fa) (hb : VE X b fb) (hm : behindInMarks .In b = false := by rfl) : VE X (.Compare a [.In] [b] pos) (wOp (gIn false) fa fb) := ve_cmpG (op_inAll (room1 hr) (room65 hr)) opi_in ha hb hm
theorem vt_in {k : Nat} (hr : Room k X.A) (ha : VE X a fa) (hb : VE X b fb) (hm : behindInMarks .In b = false := by rfl) : VT X (.Compare a [.In] [b] pos) (wB (wOp (gIn false) fa fb)) := vt_cmpG (op_inAll (room1 hr) (room65 hr)) opi_in ha hb hm
theorem ve_notIn {k : Nat} (hr : Room k X.A) (ha : VE X a fa) (hb : VE X b fb) (hm : behindInMarks .NotIn b = false := by rfl) : VE X (.Compare a [.NotIn] [b] pos) (wOp (gIn true) fa fb) := ve_cmpG (op_notInAll (room1 hr) (room65 hr)) opi_notIn ha hb hm
theorem vt_notIn {k : Nat} (hr : Room k X.A) (ha : VE X a fa) (hb : VE X b fb) (hm : behindInMarks .NotIn b = false := by rfl) : VT X (.Compare a [.NotIn] [b] pos) (wB (wOp (gIn true) fa fb)) := vt_cmpG (op_notInAll (room1 hr) (room65 hr)) opi_notIn ha hb hm
end
end VL

/-! VM: min of four. -/
namespace PySem
section
variable {prog : Program} {w : World} {A : Around} {E : Value → Shared → Prop} {s : Shared}
theorem F.args_min4 (a b c d : Value) : argsOk "min" ⟨[a, b, c, d], []⟩ := by unfold argsOk; kernel_rfl
theorem call_min_four {a b c d : Value} {Q : Value → Shared → Prop}
    (h : wpAny (model prog w) A.in1 (pyIter (.ref s.heap.objs.size)) (fun it s₂ => ∃ I fp wr n P St bt, it = .ref I ∧ Walks prog w A.in1 I fp wr n P St ∧ St 0 s₂.heap ∧ (∀ b ∈ fp, b < s₂.heap.objs.size) ∧ 0 < n ∧ CmpOf prog w A.in1 .Lt P bt ∧
      ∀ v h' tk, P (argBest bt (n - 1)) v → (∀ b o, b ∉ wr → s₂.heap.get? b = some o → h'.get? b = some o) → Q v { s₂ with heap := h', toks := tk }) E
      { s with heap := s.heap.push { cls := .type "tuple", data := .seq #[a, b, c, d] } }) :
    wpAny (model prog w) A (call (.builtin "min") [a, b, c, d]) Q E s := by
  have hname : (toString "min" ++ toString ".loop" : String) = "min.loop" := by decide
  refine call_function_tree F.kind_min F.plain_min F.entry_min (F.args_min4 _ _ _ _) ?_
  show wpAny _ A.in1 (Builtin.Builtins.bindParams "min" ["key", "default"] 0 ⟨[], []⟩ >>= _) _ _ s
  refine wpAny_bind (wpAny_of_eq (show Builtin.Builtins.bindParams "min" ["key", "default"] 0 ⟨[], []⟩ = pure [none, none] from rfl) ?_)
  show wpAny _ A.in1 (newTuple [a, b, c, d] >>= _) _ _ s
  refine wpAny_bind (wpAny_newObj_type ?_)
  refine wpAny_bind (wpAny_mono h (fun it s₂ h₂ => ?_) fun _ _ e => e)
  obtain ⟨I, fp, wr, n, P, St, bt, rfl, W, hst, hfp, hn, hcmp, hQ⟩ := h₂
  refine wpAny_bind (wpAny_newObj_type ?_)
  have hSf : s₂.heap.objs.size ∉ fp := fun hm => Nat.lt_irrefl _ (hfp _ hm)
  rw [hname]
  refine wpAny_pure ⟨plainId_quiet F.plain_min_loop _, codeAny_min_loop_first W bt hcmp s₂.heap.objs.size hSf hn (W.frame _ _ _ hst fun b _ o e => Heap.get?_push_of_some _ e) (Heap.get?_push_size _ rfl) fun v h' tk hP hk => ?_⟩
  exact hQ v h' tk hP fun b o hbw e => hk b o hbw (Nat.ne_of_lt (Heap.lt_size e)) (Heap.get?_push_of_some _ e)
theorem min_four_ints {a b c d : Int} {t u x y : Tok} {Q : Value → Shared → Prop} (hh : A.handled = none)
    (h : ∀ z h' tk, (∀ d o, s.heap.get? d = some o → h'.get? d = some o) → Q (.int (min a (min b (min c d))) z) { s with heap := h', toks := tk }) :
    wpAny (model prog w) A (call (.builtin "min") [.int a t, .int b u, .int c x, .int d y]) Q E s := by
  have hT : (s.heap.push { cls := .type "tuple", data := .seq #[.int a t, .int b u, .int c x, .int d y] }).IsTuple s.heap.objs.size (intItems #[(a, t), (b, u), (c, x), (d, y)]) := ⟨_, Heap.get?_push_size _ rfl, rfl, 0, by simp [intItems]⟩
  refine call_min_four (wpAny_pyIter_tuple hT ?_)
  have hsz : (s.heap.push { cls := .type "tuple", data := .seq #[.int a t, .int b u, .int c x, .int d y] }).objs.size = s.heap.objs.size + 1 := Heap.size_push ..
  refine ⟨_, [_, s.heap.objs.size], [_], _, _, _, _, rfl, Walks.tuple (A := A.in1) hh _ s.heap.objs.size (by rw [hsz]; exact Nat.ne_of_lt (Nat.lt_succ_self _)) (intItems #[(a, t), (b, u), (c, x), (d, y)]),
    ⟨⟨_, Heap.get?_push_size _ rfl, rfl, rfl⟩, hT.push _⟩, fun d hd => ?_, by simp [intItems], CmpOf.ints_lt (numAt #[(a, t), (b, u), (c, x), (d, y)]) (fun _ _ => intItems_at), fun v h' tk hP hk => ?_⟩
  · show d < ((s.heap.push _).push _).objs.size
    rw [Heap.size_push, hsz]
    rcases List.mem_cons.mp hd with rfl | hd
    · rw [hsz]; exact Nat.lt_succ_self _
    · rcases List.mem_cons.mp hd with rfl | hd
      · exact Nat.lt_succ_of_lt (Nat.lt_succ_self _)
      · cases hd
  · have hold : ∀ d o, s.heap.get? d = some o → h'.get? d = some o := fun d o e => by
      refine hk d o (fun hm => ?_) (Heap.get?_push_of_some _ (Heap.get?_push_of_some _ e))
      rcases List.mem_cons.mp hm with e1 | hm
      · have := Heap.lt_size e; rw [e1, hsz] at this; exact Nat.lt_irrefl _ (Nat.lt_of_succ_lt this)
      · cases hm
    obtain ⟨z, hz⟩ : ∃ z, v = .int (min a (min b (min c d))) z := by
      have hP' : (intItems #[(a, t), (b, u), (c, x), (d, y)])[argBest (fun i j => decide (numAt #[(a, t), (b, u), (c, x), (d, y)] i < numAt #[(a, t), (b, u), (c, x), (d, y)] j)) 3]? = some v := by
        have hsz2 : (intItems #[(a, t), (b, u), (c, x), (d, y)]).size - 1 = 3 := by simp [intItems]
        rw [← hsz2]; exact hP
      by_cases h1 : b < a
      · by_cases h2 : c < b
        · by_cases h3 : d < c
          · have e : argBest (fun i j => decide (numAt #[(a, t), (b, u), (c, x), (d, y)] i < numAt #[(a, t), (b, u), (c, x), (d, y)] j)) 3 = 3 := by simp [argBest, numAt, h1, h2, h3]
            rw [e] at hP'
            exact ⟨y, by simp [intItems] at hP'; rw [← hP']; congr 1; omega⟩
          · have e : argBest (fun i j => decide (numAt #[(a, t), (b, u), (c, x), (d, y)] i < numAt #[(a, t), (b, u), (c, x), (d, y)] j)) 3 = 2 := by simp [argBest, numAt, h1, h2, h3]
            rw [e] at hP'
            exact ⟨x, by simp [intItems] at hP'; rw [← hP']; congr 1; omega⟩
        · by_cases h3 : d < b
          · have e : argBest (fun i j => decide (numAt #[(a, t), (b, u), (c, x), (d, y)] i < numAt #[(a, t), (b, u), (c, x), (d, y)] j)) 3 = 3 := by simp [argBest, numAt, h1, h2, h3]
            rw [e] at hP'
            exact ⟨y, by simp [intItems] at hP'; rw [← hP']; congr 1; omega⟩
          · have e : argBest (fun i j => decide (numAt #[(a, t), (b, u), (c, x), (d, y)] i < numAt #[(a, t), (b, u), (c, x), (d, y)] j)) 3 = 1 := by simp [argBest, numAt, h1, h2, h3]
            rw [e] at hP'
            exact ⟨u, by simp [intItems] at hP'; rw [← hP']; congr 1; omega⟩
      · by_cases h2 : c < a
        · by_cases h3 : d < c
          · have e : argBest (fun i j => decide (numAt #[(a, t), (b, u), (c, x), (d, y)] i < numAt #[(a, t), (b, u), (c, x), (d, y)] j)) 3 = 3 := by simp [argBest, numAt, h1, h2, h3]
            rw [e] at hP'
            exact ⟨y, by simp [intItems] at hP'; rw [← hP']; congr 1; omega⟩
          · have e : argBest (fun i j => decide (numAt #[(a, t), (b, u), (c, x), (d, y)] i < numAt #[(a, t), (b, u), (c, x), (d, y)] j)) 3 = 2 := by simp [argBest, numAt, h1, h2, h3]
            rw [e] at hP'
            exact ⟨x, by simp [intItems] at hP'; rw [← hP']; congr 1; omega⟩
        · by_cases h3 : d < a
          · have e : argBest (fun i j => decide (numAt #[(a, t), (b, u), (c, x), (d, y)] i < numAt #[(a, t), (b, u), (c, x), (d, y)] j)) 3 = 3 := by simp [argBest, numAt, h1, h2, h3]
            rw [e] at hP'
            exact ⟨y, by simp [intItems] at hP'; rw [← hP']; congr 1; omega⟩
          · have e : argBest (fun i j => decide (numAt #[(a, t), (b, u), (c, x), (d, y)] i < numAt #[(a, t), (b, u), (c, x), (d, y)] j)) 3 = 0 := by simp [argBest, numAt, h1, h2, h3]
            rw [e] at hP'
            exact ⟨t, by simp [intItems] at hP'; rw [← hP']; congr 1; omega⟩
    rw [hz]
    exact h z h' tk hold
end
end PySem
namespace VL
open PySem PySem.Spec PyProof.Rows L2
section
variable {X : Cx} {K : PySem.W.Frag}
theorem call_min4 (hc : X.calm = true) : CallR X (.builtin "min") (fun xs H Q => ∃ i j k l, xs = [.int i, .int j, .int k, .int l] ∧ Q (.int (min i (min j (min k l)))) H) := by
  intro pins s σ H xs us Q I r h
  obtain ⟨i, j, k, l, rfl, q⟩ := h
  cases r with
  | cons r1 r => cases r with
    | cons r2 r => cases r with
      | cons r3 r => cases r with
        | cons r4 r =>
          cases r
          obtain ⟨t1, rfl⟩ := r1
          obtain ⟨t2, rfl⟩ := r2
          obtain ⟨t3, rfl⟩ := r3
          obtain ⟨t4, rfl⟩ := r4
          exact min_four_ints (I.ok.hd hc) fun z h' tk hk => ⟨.int _, H, I.kept hk, ⟨z, rfl⟩, q⟩
@[reducible] def gMin4 : GC := fun rs P => match dls rs with
  | [.int i, .int j, .int k, .int l] => P ⟨.cl, .int (min i (min j (min k l)))⟩
  | _ => False
theorem RsAll.four {M B : AV} {G : List (V × D)} {H0 Hs H : Hp} {own : Nat → Option Addr} {en : En} {σ : L2.St} (I : VI K M B G H0 own en σ Hs) (s : Same Hs H) {rs : List Rs} {vs : List V} (h : RsAll K B own Hs H rs vs) {d d2 d3 d4 : D} (e : dls rs = [d, d2, d3, d4]) :
    ∃ v w x y, vs = [v, w, x, y] ∧ Rp K H B v d ∧ Rp K H B w d2 ∧ Rp K H B x d3 ∧ Rp K H B y d4 := by
  have l := h.rpB I s
  rw [← dls_eq, e] at l
  cases l with
  | cons r t => cases t with | cons r2 t2 => cases t2 with | cons r3 t3 => cases t3 with | cons r4 t4 => cases t4; exact ⟨_, _, _, _, rfl, r, r2, r3, r4⟩
theorem calli_min4 : CallI K (fun xs H Q => ∃ i j k l, xs = [.int i, .int j, .int k, .int l] ∧ Q (.int (min i (min j (min k l)))) H) gMin4 := by
  intro M B G H0 Hs H own en σ rs vs P Q I s k1 h k
  unfold gMin4 at h
  split at h
  · rename_i i j l m e
    obtain ⟨v, w, x, y, rfl, r, r2, r3, r4⟩ := k1.four I s e
    rw [r.toInt, r2.toInt, r3.toInt, r4.toInt]
    exact ⟨i, j, l, m, rfl, k _ _ _ h (.refl _) (Rp.int _)⟩
  · exact h.elim
end
end VL

/-! VR: facts for readings. -/
namespace VL
open PySem PySem.Spec PySem.PyData PyProof.Rows L2

theorem atI_ge {α : Type} {xs : List α} {k : Int} (h0 : 0 ≤ k) : atI xs k = xs[k.toNat]? := by
  unfold L2.atI ixN
  rw [if_pos h0]
  by_cases h : k < xs.length
  · rw [if_pos h]; rfl
  · rw [if_neg h]
    exact (List.getElem?_eq_none (by omega)).symm
theorem atI_map {α β : Type} (f : α → β) (xs : List α) (k : Int) : atI (xs.map f) k = (atI xs k).map f := by
  unfold L2.atI
  rw [List.length_map]
  cases ixN xs.length k with
  | none => rfl
  | some j => exact List.getElem?_map ..
theorem atI_lt {α : Type} {xs : List α} {k : Int} (h0 : 0 ≤ k) (h : k < xs.length) : ∃ x, atI xs k = some x ∧ xs[k.toNat]? = some x := by
  rw [atI_ge h0, List.getElem?_eq_getElem (by omega)]
  exact ⟨_, rfl, rfl⟩
theorem cpow_1018 : CPow 10 18 := by unfold CPow; decide

/-! ### equality and shape of encoded data -/
theorem eqv_int (a b : Int) : eqv (.int a) (.int b) = decide (a = b) := by
  unfold eqv; rw [toP, toP, PyData.eqv]; by_cases h : a = b <;> simp [h]
theorem eqv_bool (a b : Bool) : eqv (.bool a) (.bool b) = decide (a = b) := by
  unfold eqv; rw [toP, toP, PyData.eqv]; exact Bool.beq_eq_decide_eq a b
theorem eqv_str (a b : Str) : eqv (.str a) (.str b) = decide (a = b) := by
  unfold eqv; rw [toP, toP, PyData.eqv]; by_cases h : a = b <;> simp [h]
theorem eqvs_nil : PyData.eqvAll (toPs []) (toPs []) = true := by simp [toPs, PyData.eqvAll]
theorem eqvs_cons (a b : D) (as bs : List D) : PyData.eqvAll (toPs (a :: as)) (toPs (b :: bs)) = (eqv a b && PyData.eqvAll (toPs as) (toPs bs)) := by
  rw [toPs, toPs, PyData.eqvAll]; rfl
theorem eqv_list (as bs : List D) : eqv (.list as) (.list bs) = PyData.eqvAll (toPs as) (toPs bs) := by unfold eqv; rw [toP, toP, PyData.eqv]
theorem eqv_tuple (as bs : List D) : eqv (.tuple as) (.tuple bs) = PyData.eqvAll (toPs as) (toPs bs) := by unfold eqv; rw [toP, toP, PyData.eqv]
theorem eqvs_map {α : Type} [DecidableEq α] {f : α → D} (hf : ∀ a b, eqv (f a) (f b) = decide (a = b)) : ∀ (as bs : List α), PyData.eqvAll (toPs (as.map f)) (toPs (bs.map f)) = decide (as = bs)
  | [], [] => by simp [toPs, PyData.eqvAll]
  | [], _ :: _ => by simp [toPs, PyData.eqvAll]
  | _ :: _, [] => by simp [toPs, PyData.eqvAll]
  | a :: as, b :: bs => by
    rw [List.map_cons, List.map_cons, eqvs_cons, hf, eqvs_map hf as bs]
    by_cases h : a = b <;> by_cases h2 : as = bs <;> simp [h, h2]
theorem eqv_lists {α : Type} [DecidableEq α] {f : α → D} (hf : ∀ a b, eqv (f a) (f b) = decide (a = b)) (as bs : List α) : eqv (.list (as.map f)) (.list (bs.map f)) = decide (as = bs) := by
  rw [eqv_list, eqvs_map hf]
theorem eqv_pair (a b c d : D) : eqv (.tuple [a, b]) (.tuple [c, d]) = (eqv a c && eqv b d) := by
  rw [eqv_tuple, eqvs_cons, eqvs_cons, eqvs_nil, Bool.and_true]
/-- of a depth of at most n, its texts sound -/
def shD (n : Nat) (d : D) : Prop := (toP d).canLay0 = true ∧ (toP d).depth ≤ n
theorem shD.shp {n : Nat} {d : D} (h : shD n d) (hn : n ≤ 64) : shp d = true := by
  unfold VL.shp SeqAt.shaped
  rw [h.1, decide_eq_true (Nat.le_trans h.2 hn)]; rfl
theorem shD_int (i : Int) : shD 0 (.int i) := ⟨by rw [toP, PyData.canLay0], by rw [toP, PyData.depth]; exact Nat.le_refl _⟩
theorem shD_bool (i : Bool) : shD 0 (.bool i) := ⟨by rw [toP, PyData.canLay0], by rw [toP, PyData.depth]; exact Nat.le_refl _⟩
theorem shD_none : shD 0 .none := ⟨by rw [toP, PyData.canLay0], by rw [toP, PyData.depth]; exact Nat.le_refl _⟩
theorem shD_str {x : Str} (h : strOk x = true) : shD 0 (.str x) := ⟨by rw [toP, PyData.canLay0]; exact h, by rw [toP, PyData.depth]; exact Nat.le_refl _⟩
theorem shDs {n : Nat} : ∀ {ds : List D}, (∀ d ∈ ds, shD n d) → PyData.canLayAll0 (toPs ds) = true ∧ PyData.depthAll (toPs ds) ≤ n
  | [], _ => ⟨by rw [toPs, PyData.canLayAll0], by rw [toPs, PyData.depthAll]; exact Nat.zero_le _⟩
  | d :: ds, h => by
    obtain ⟨h1, h2⟩ := shDs fun x hx => h x (List.mem_cons_of_mem _ hx)
    obtain ⟨h3, h4⟩ := h d List.mem_cons_self
    refine ⟨by rw [toPs, PyData.canLayAll0, h3, h1]; rfl, ?_⟩
    rw [toPs, PyData.depthAll]
    exact Nat.max_le.mpr ⟨h4, h2⟩
theorem shD_list {n : Nat} {ds : List D} (h : ∀ d ∈ ds, shD n d) : shD (n + 1) (.list ds) := by
  obtain ⟨h1, h2⟩ := shDs h
  exact ⟨by rw [toP, PyData.canLay0]; exact h1, by rw [toP, PyData.depth]; exact Nat.succ_le_succ h2⟩
theorem shD_tuple {n : Nat} {ds : List D} (h : ∀ d ∈ ds, shD n d) : shD (n + 1) (.tuple ds) := by
  obtain ⟨h1, h2⟩ := shDs h
  exact ⟨by rw [toP, PyData.canLay0]; exact h1, by rw [toP, PyData.depth]; exact Nat.succ_le_succ h2⟩
theorem shD_maps {α : Type} {f : α → D} {n : Nat} (h : ∀ a, shD n (f a)) (as : List α) : shD (n + 1) (.list (as.map f)) := shD_list fun d hd => by
  obtain ⟨a, _, rfl⟩ := List.mem_map.mp hd
  exact h a
theorem shD.mono {m n : Nat} {d : D} (h : shD m d) (le : m ≤ n) : shD n d := ⟨h.1, Nat.le_trans h.2 le⟩
theorem shp_int (i : Int) : shp (.int i) = true := (shD_int i).shp (by decide)
theorem shp_bool (i : Bool) : shp (.bool i) = true := (shD_bool i).shp (by decide)
theorem flats_map {α : Type} {f : α → D} (h : ∀ a, flat (f a) = true) : ∀ as : List α, flats (as.map f) = true
  | [] => rfl
  | a :: as => by rw [List.map_cons, flats, h, flats_map h as]; rfl

theorem ifI {c : Prop} [Decidable c] {p q : Prop} (h1 : c → p) (h2 : ¬c → q) : if c then p else q := by
  by_cases h : c
  · rw [if_pos h]; exact h1 h
  · rw [if_neg h]; exact h2 h
theorem ifT {c : Prop} [Decidable c] {p q : Prop} (h : c) (h1 : p) : if c then p else q := by rw [if_pos h]; exact h1
theorem ifF {c : Prop} [Decidable c] {p q : Prop} (h : ¬c) (h1 : q) : if c then p else q := by rw [if_neg h]; exact h1
theorem nd_t {p : Prop} [Decidable p] (h : p) : ¬ ((!decide p) = true) := by rw [decide_eq_true h]; exact nofun
theorem nd_f {p : Prop} [Decidable p] (h : ¬p) : (!decide p) = true := by rw [decide_eq_false h]; rfl
theorem isT_ll (ds : List D) : isT (.list ds) "list" = true := by simp [isT, tyD]
theorem isT_lt (ds : List D) : isT (.list ds) "tuple" = false := by simp [isT, tyD]
theorem isT_tt (ds : List D) : isT (.tuple ds) "tuple" = true := by simp [isT, tyD]
theorem isT_ss (x : Str) : isT (.str x) "str" = true := by simp [isT, tyD]
theorem isT_ii (x : Int) : isT (.int x) "int" = true := by simp [isT, tyD]
theorem isT_ib (x : Int) : isT (.int x) "bool" = false := by simp [isT, tyD]
theorem isT_bb (x : Bool) : isT (.bool x) "bool" = true := by simp [isT, tyD]
theorem isT_bi (x : Bool) : isT (.bool x) "int" = true := by simp [isT, tyD]
theorem tyl (ds : List D) : tyD (.list ds) ≠ "object" := by simp [tyD]
theorem tyt (ds : List D) : tyD (.tuple ds) ≠ "object" := by simp [tyD]
theorem tys (x : Str) : tyD (.str x) ≠ "object" := by simp [tyD]
theorem tyi (x : Int) : tyD (.int x) ≠ "object" := by simp [tyD]
theorem tyb (x : Bool) : tyD (.bool x) ≠ "object" := by simp [tyD]
theorem nt_t {b : Bool} (h : b = true) : ¬ ((!b) = true) := by rw [h]; exact nofun
theorem nt_f {b : Bool} (h : b = false) : (!b) = true := by rw [h]; rfl
theorem le_sz {n : Nat} (h : Nat.ble n 1000 = true) : n ≤ sizeLine := Nat.le_trans (Nat.le_of_ble_eq_true h) (by decide)
theorem at2_0 (a b : D) : atI [a, b] 0 = some a := rfl
theorem at2_1 (a b : D) : atI [a, b] 1 = some b := rfl
/-- a comprehension that keeps all -/
theorem lcAll {α : Type} {ds : List D} {en : En} {g : WG} {vs : List Nat} {tt : WT} {te : WE} {P : Rs → Prop} (xs : List α) (enc : α → D) (h : α → D) (e : ds = xs.map enc) (hl : xs.length < sizeLine)
    (body : ∀ x, x ∈ xs → g (enc x) (wipeE en vs) fun en2 => tt en2 fun b => b = true ∧ (b = true → te en2 fun r => (r.k.clean || flat r.d) = true ∧ some (h x) = some r.d)) (q : P ⟨.fr, .list (xs.map h)⟩) : LcP en vs g tt te P ds :=
  ⟨α, xs, enc, fun x => some (h x), e, hl, body, by rw [List.filterMap_eq_map']; exact q⟩
theorem lcSome {α : Type} {ds : List D} {en : En} {g : WG} {vs : List Nat} {tt : WT} {te : WE} {P : Rs → Prop} (xs : List α) (enc : α → D) (f : α → Option D) (e : ds = xs.map enc) (hl : xs.length < sizeLine)
    (body : ∀ x, x ∈ xs → g (enc x) (wipeE en vs) fun en2 => tt en2 fun b => b = (f x).isSome ∧ (b = true → te en2 fun r => (r.k.clean || flat r.d) = true ∧ f x = some r.d)) (q : P ⟨.fr, .list (xs.filterMap f)⟩) : LcP en vs g tt te P ds :=
  ⟨α, xs, enc, f, e, hl, body, q⟩
theorem forI {α : Type} {g : WG} {body : WS} {E : Ed} {en : En} {ds : List D} (xs : List α) (enc : α → D) (I : List α → En → Prop) (e : ds = xs.map enc) (i0 : I [] en)
    (step : ∀ pre x post en, xs = pre ++ x :: post → I pre en → g (enc x) en fun en2 => body { E with nx := I (pre ++ [x]), ct := I (pre ++ [x]), bk := E.nx } en2) (fin : ∀ en, I xs en → E.nx en) : ForP g body E en ds :=
  ⟨α, xs, enc, I, e, i0, step, fin⟩
theorem whI {ft : WT} {body : WS} {E : Ed} {en : En} (I : En → Prop) (μ : En → Nat) (i0 : I en) (step : ∀ en, I en → ft en fun b => if b = true then body { E with nx := fun en' => I en' ∧ μ en' < μ en, ct := fun en' => I en' ∧ μ en' < μ en, bk := E.nx } en else E.nx en) : WhP ft body E en :=
  ⟨I, μ, i0, step⟩

/-! ### texts -/
/-- a text by its signs -/
def S (l : List Nat) : Str := ⟨l.toArray⟩
theorem S_inj {a b : List Nat} : S a = S b ↔ a = b := by
  constructor
  · intro h
    have := congrArg (fun z => z.cps.toList) h
    simpa [S] using this
  · rintro rfl; rfl
theorem S_length (l : List Nat) : (S l).length = l.length := by simp [S, Str.length]
theorem S_append (a b : List Nat) : S a ++ S b = S (a ++ b) := by
  show Str.append (S a) (S b) = _
  simp [S, Str.append]
theorem S_cps (l : List Nat) : (S l).cps.toList = l := by simp [S]
theorem S_ok {l : List Nat} (h : ∀ c ∈ l, c < 0x110000) : strOk (S l) = true := by
  unfold strOk S
  rw [List.all_toArray]
  exact List.all_eq_true.mpr fun c hc => decide_eq_true (h c hc)
theorem S_signs (l : List Nat) : signs (S l) = l.map fun c => .str (S [c]) := by
  unfold signs; rw [S_cps]; rfl
end VL

/-! VG: grids as data. -/
namespace VL
open PySem PySem.Spec PySem.PyData PyProof.Rows L2

abbrev Gr := List (List Bool)
abbrev Ce := Int × Int
def sg (b : Bool) : Nat := if b = true then 35 else 46
def rowS (r : List Bool) : Str := S (r.map sg)
@[reducible] def rowD (r : List Bool) : D := .str (rowS r)
@[reducible] def gridD (g : Gr) : D := .list (g.map rowD)
@[reducible] def cellD (c : Ce) : D := .tuple [.int c.1, .int c.2]
@[reducible] def cellsD (l : List Ce) : D := .list (l.map cellD)
/-- a grid of rows of width w, of at most m by m -/
structure GrOk (m : Nat) (w : Nat) (g : Gr) : Prop where
  h1 : 1 ≤ g.length
  h2 : g.length ≤ m
  w1 : 1 ≤ w
  w2 : w ≤ m
  al : ∀ r ∈ g, r.length = w
theorem GrOk.mono {m n w : Nat} {g : Gr} (h : GrOk m w g) (le : m ≤ n) : GrOk n w g := ⟨h.h1, Nat.le_trans h.h2 le, h.w1, Nat.le_trans h.w2 le, h.al⟩
theorem rowS_len (r : List Bool) : (rowS r).length = r.length := by unfold rowS; rw [S_length, List.length_map]
theorem rowS_app (r : List Bool) (b : Bool) : rowS r ++ S [sg b] = rowS (r ++ [b]) := by unfold rowS; rw [S_append, List.map_append]; rfl
theorem rowS_apps (r t : List Bool) : rowS r ++ rowS t = rowS (r ++ t) := by unfold rowS; rw [S_append, List.map_append]
theorem sg_inj {a b : Bool} : sg a = sg b ↔ a = b := by cases a <;> cases b <;> decide
theorem map_sg_inj : ∀ {a b : List Bool}, a.map sg = b.map sg ↔ a = b
  | [], [] => by simp
  | [], _ :: _ => by simp
  | _ :: _, [] => by simp
  | x :: a, y :: b => by simp [sg_inj, map_sg_inj (a := a) (b := b)]
theorem rowS_inj {a b : List Bool} : rowS a = rowS b ↔ a = b := by unfold rowS; rw [S_inj, map_sg_inj]
theorem sg_lt (b : Bool) : sg b < 0x110000 := by cases b <;> decide
theorem rowS_ok (r : List Bool) : strOk (rowS r) = true := S_ok fun c hc => by
  obtain ⟨b, _, rfl⟩ := List.mem_map.mp hc
  exact sg_lt b
theorem shD_row (r : List Bool) : shD 0 (rowD r) := shD_str (rowS_ok r)
theorem shD_grid (g : Gr) : shD 1 (gridD g) := shD_maps shD_row g
theorem shp_grid (g : Gr) : shp (gridD g) = true := (shD_grid g).shp (by decide)
theorem shD_cell (c : Ce) : shD 1 (cellD c) := shD_tuple fun d hd => by
  rcases List.mem_cons.mp hd with rfl | hd
  · exact shD_int _
  · rw [List.mem_singleton.mp hd]; exact shD_int _
theorem shD_cells (l : List Ce) : shD 2 (cellsD l) := shD_maps shD_cell l
theorem shp_cells (l : List Ce) : shp (cellsD l) = true := (shD_cells l).shp (by decide)
theorem eqv_row (a b : List Bool) : eqv (rowD a) (rowD b) = decide (a = b) := by
  unfold rowD; rw [eqv_str]; exact decide_eq_decide.mpr rowS_inj
theorem eqv_grid (a b : Gr) : eqv (gridD a) (gridD b) = decide (a = b) := eqv_lists eqv_row a b
theorem eqv_cell (a b : Ce) : eqv (cellD a) (cellD b) = decide (a = b) := by
  unfold cellD; rw [eqv_pair, eqv_int, eqv_int]
  obtain ⟨a1, a2⟩ := a
  obtain ⟨b1, b2⟩ := b
  by_cases h : a1 = b1 <;> by_cases h2 : a2 = b2 <;> simp [h, h2]
theorem eqv_cells (a b : List Ce) : eqv (cellsD a) (cellsD b) = decide (a = b) := eqv_lists eqv_cell a b
theorem flat_row (r : List Bool) : flat (rowD r) = true := rfl
theorem flat_cell (c : Ce) : flat (cellD c) = true := rfl
theorem flats_cells (l : List Ce) : flats (l.map cellD) = true := flats_map flat_cell l
theorem flats_rows (l : Gr) : flats (l.map rowD) = true := flats_map flat_row l
/-- one sign -/
@[reducible] def sgD (b : Bool) : D := .str (S [sg b])
theorem eqv_sg (a b : Bool) : eqv (sgD a) (sgD b) = decide (a = b) := by
  unfold sgD; rw [eqv_str]; apply decide_eq_decide.mpr
  rw [S_inj, List.cons.injEq]; simp [sg_inj]
theorem shp_sg (b : Bool) : shp (sgD b) = true := (shD_str (S_ok fun c hc => by rw [List.mem_singleton.mp hc]; exact sg_lt b)).shp (by decide)
theorem sg_hash : D.str "#" = sgD true := rfl
theorem sg_dot : D.str "." = sgD false := rfl
theorem signs_row (r : List Bool) : signs (rowS r) = r.map sgD := by
  unfold rowS sgD
  rw [S_signs, List.map_map]; rfl
theorem sg_in (b : Bool) : (!(Builtin.Str.occurrences "#." (S [sg b]) 0 (PySem.Str.length "#.") 1).isEmpty) = true := by
  cases b <;> decide +kernel

@[reducible] def intsD (ns : List Int) : D := .list (ns.map .int)
theorem atI_mem {α : Type} {xs : List α} {k : Int} (h0 : 0 ≤ k) (h : k < xs.length) : ∃ x, atI xs k = some x ∧ x ∈ xs := by
  obtain ⟨x, e, e2⟩ := atI_lt h0 h
  exact ⟨x, e, List.mem_of_getElem? e2⟩

theorem cutD_to {α : Type} (xs : List α) {k : Int} (h : 0 ≤ k) : cutD xs none (some k) = xs.take k.toNat := by
  obtain ⟨n, rfl⟩ := Int.eq_ofNat_of_zero_le h
  unfold cutD
  rw [HT.sIx_none, HT.sIx_nat, List.drop_zero, Nat.sub_zero, Int.toNat_natCast]
  by_cases h : n ≤ xs.length
  · rw [Nat.min_eq_left h]
  · rw [Nat.min_eq_right (by omega), List.take_of_length_le (Nat.le_refl _), List.take_of_length_le (by omega)]
theorem cutD_from {α : Type} (xs : List α) {k : Int} (h : 0 ≤ k) : cutD xs (some k) none = xs.drop k.toNat := by
  obtain ⟨n, rfl⟩ := Int.eq_ofNat_of_zero_le h
  unfold cutD
  rw [HT.sIx_none, HT.sIx_nat, Int.toNat_natCast]
  by_cases h : n ≤ xs.length
  · rw [Nat.min_eq_left h, List.take_of_length_le (by rw [List.length_drop]; exact Nat.le_refl _)]
  · rw [Nat.min_eq_right (by omega), Nat.sub_self, List.take_zero, List.drop_eq_nil_of_le (by omega)]

/-! ### enumerate over encoded rows -/
theorem enumD_map {α : Type} (f : α → D) (xs : List α) : enumD (xs.map f) = xs.zipIdx.map fun p => .tuple [.int (p.2 : Nat), f p.1] := by
  unfold enumD
  apply List.ext_getElem?
  intro i
  simp [List.getElem?_zipWith, List.getElem?_zipIdx]
  by_cases h : i < xs.length
  · rw [List.getElem?_eq_getElem h]; simp [h]
  · simp [List.getElem?_eq_none (Nat.le_of_not_lt h)]
def rowC (b : Bool) (i : Nat) (r : List Bool) : List Ce := r.zipIdx.filterMap fun p => if p.1 = b then some ((i : Int), ((p.2 : Nat) : Int)) else none
def rowF (b : Bool) (i : Nat) (p : Bool × Nat) : Option D := (if p.1 = b then some ((i : Int), ((p.2 : Nat) : Int)) else none).map cellD
theorem rowC_map (b : Bool) (i : Nat) (r : List Bool) : r.zipIdx.filterMap (rowF b i) = (rowC b i r).map cellD := by
  unfold rowC
  rw [List.map_filterMap]
  rfl
/-- the cells of one sign, in order -/
def cellsOf (b : Bool) (g : Gr) : List Ce := g.zipIdx.flatMap fun p => rowC b p.2 p.1
abbrev landL (g : Gr) : List Ce := cellsOf true g
theorem rowC_len (b : Bool) (i : Nat) (r : List Bool) : (rowC b i r).length ≤ r.length := by
  unfold rowC
  exact Nat.le_trans (List.length_filterMap_le ..) (by rw [List.length_zipIdx]; exact Nat.le_refl _)
theorem flatMap_len {α β : Type} {f : α → List β} {k : Nat} : ∀ {xs : List α}, (∀ x ∈ xs, (f x).length ≤ k) → (xs.flatMap f).length ≤ k * xs.length
  | [], _ => by simp
  | x :: xs, h => by
    rw [List.flatMap_cons, List.length_append, List.length_cons, Nat.mul_succ]
    have := flatMap_len (xs := xs) fun y hy => h y (List.mem_cons_of_mem _ hy)
    have := h x List.mem_cons_self
    omega
theorem mem_zipIdx_row {g : Gr} {p : List Bool × Nat} (h : p ∈ g.zipIdx) : p.1 ∈ g := by
  obtain ⟨r, i⟩ := p
  exact List.fst_mem_of_mem_zipIdx h
theorem pre_len {m w : Nat} {g : Gr} (h : GrOk m w g) {b : Bool} {pre post : List (List Bool × Nat)} (e : g.zipIdx = pre ++ post) : (pre.flatMap fun p => rowC b p.2 p.1).length ≤ m * m := by
  have l : pre.length ≤ m := by
    have := congrArg List.length e
    rw [List.length_zipIdx, List.length_append] at this
    have := h.h2
    omega
  refine Nat.le_trans (flatMap_len (k := m) fun x hx => ?_) (Nat.mul_le_mul_left _ l)
  have hx2 : x ∈ g.zipIdx := by rw [e]; exact List.mem_append_left _ hx
  exact Nat.le_trans (rowC_len ..) (by rw [h.al _ (mem_zipIdx_row hx2)]; exact h.w2)
theorem cells_len {m w : Nat} {g : Gr} (h : GrOk m w g) {b : Bool} : (cellsOf b g).length ≤ m * m := pre_len h (post := []) (by simp)
/-- a total comprehension -/
theorem lc_map {α : Type} (f : α → D) (xs : List α) : (xs.filterMap fun x => some (f x)) = xs.map f := by
  rw [List.filterMap_eq_map']
end VL

/-! VW: the law's own def; the join with what the top has written. -/
namespace VL
open PySem PySem.Spec PyProof.Rows L2

theorem cut63 (ns : List Int) : cutV (ns.map V.int) none (some 63) = (ns.take 63).map V.int := by
  unfold cutV
  rw [HT.sIx_none, show HT.sIx (ns.map V.int).length (ns.map V.int).length (some 63) = min 63 (ns.map V.int).length from HT.sIx_nat _ _ 63, List.drop_zero, List.map_take, Nat.sub_zero]
  by_cases h : 63 ≤ (ns.map V.int).length
  · rw [Nat.min_eq_left h]
  · rw [Nat.min_eq_right (by omega), List.take_of_length_le (Nat.le_refl _), List.take_of_length_le (by omega)]
theorem rp_ints {K : PySem.W.Frag} {H : Hp} {A : AV} : ∀ ns : List Int, RpL K H A (ns.map V.int) (ns.map D.int)
  | [] => .nil
  | n :: ns => .cons (.int n) (rp_ints ns)
def spLaw (K : PySem.W.Frag) : Sp := fun vs H Q _ => ∃ (a : Addr) (ns : List Int), vs = [.ref a] ∧ SqL K H a (ns.map V.int) ∧ ∀ H', Q (.bl true) H'
theorem vlaw {P : Program} {w : World} {K : PySem.W.Frag} {mg : Str → Option Value} {base : Heap} {x qual : Str} {st : Stmt} {f : Addr} {fd : FuncData} {n1 p : Str} {N : List Str} {k : Nat} (F : Fun K x qual st f fd) (S : FnScope (n1 :: N) [p] (defScope st))
    (hbody : ∀ (cdv : Value) (A : Around) (outer : List Env) (s : Shared) (H : Hp) (E : XK), Room k (A.deeper (envOfC qual (defScope st) s.heap.objs.size f cdv)) →
      ∃ b0 rest g, defBody st = b0 :: rest ∧ PS (cxOf CX0 P w K mg base (n1 :: N) qual (defScope st) f cdv A outer s H E).nox b0 (tAsg (tSl (rSlL K) (tVar 0) tNoPart (tPart (tC (.int 63)))) (gName 0)) ∧
        VSs (cxOf CX0 P w K mg base (n1 :: N) qual (defScope st) f cdv A outer s H E).nox rest g ∧ ∀ ns : List Int, ns.length ≤ 63 → g (Post fun _ d => d = .bool true) (startE (n1 :: N) [intsD ns])) : FnOk P w K mg base CX0 (k + 1) f fd [p] (spLaw K) := by
  refine F.ok S (fun vs H Q E h => ?_) (fun cdv A outer s H vs Q E hr h => ?_)
  · obtain ⟨a, ns, rfl, _⟩ := h
    rfl
  · obtain ⟨a, ns, rfl, hS, q⟩ := h
    obtain ⟨b0, rest, g, eb, p0, ⟨⟨t, p1, im⟩⟩, hg⟩ := hbody cdv A outer s H E hr
    refine ⟨_, by rw [eb]; exact pss_cons p0 p1, ?_⟩
    refine ⟨.ref a, rfl, 63, rfl, a, ns.map V.int, rfl, hS, fun q0 hq => ?_⟩
    rw [cut63]
    have r : RpL K (upd H q0 (.lst ((ns.take 63).map V.int))) (fun _ => False) [.ref q0] [intsD (ns.take 63)] :=
      .cons (.lst upd_same (fun z => z) (rp_ints _)) .nil
    have I := vi_start (N := n1 :: N) (A := fun _ => False) (fun _ z => z.elim) r
    refine im I (hg _ (by rw [List.length_take]; omega)) ⟨fun own en σ H' I h' => ?_, fun own en σ H' b d v I rt h' => ?_, fun _ _ _ _ _ h' => h'.elim, fun _ _ _ _ _ h' => h'.elim⟩
    · exact nomatch h'
    · subst h'
      have : v = .bl true := by
        cases b with
        | true => obtain ⟨p, _, _, t⟩ := rt; exact t.elim
        | false =>
          have rt' : Rp _ _ _ v (.bool true) := rt
          exact rt'.toBool
      subst this
      exact q H'
/-- a def of the text, by what the top has written -/
theorem dfn_mk {K : PySem.W.Frag} {h : Heap} {mg : Str → Option Value} {x : Str} {st : Stmt} {ps : List Str} {f : Addr} {od an : Option Addr} {oc kV dc pm cd ct : Value} {sl : Array (Option Value)} (X : K.In h) (G : h.Ns mainGlobals mg)
    (a : PySem.W.nsIn K mainGlobals x = some (some (.ref f))) (l : K.lookup f = some ⟨oc, od, .func (PySem.W.fnOf x x (defArgs st) (defBody st) (defScope st) .none kV dc pm an cd ct), sl⟩) (c : PySem.W.codeIn K cd x = true) (k : PySem.W.keepIn K (.ref f) = true)
    (b : Binds K (PySem.W.fnOf x x (defArgs st) (defBody st) (defScope st) .none kV dc pm an cd ct) ps []) : Dfn K mg x st ps :=
  ⟨⟨f, _, fun_mk (st := st) l c k, b, PySem.W.mg_of X G a⟩⟩
theorem nb_mk {K : PySem.W.Frag} {h : Heap} {mg : Str → Option Value} (X : K.In h) (G : h.Ns mainGlobals mg) {xs : List Str} (z : ∀ x, x ∈ xs → PySem.W.nsIn K mainGlobals x = some none) : NB mg xs := fun x hx => PySem.W.mg_none_of X G (z x hx)
end VL

/-! VN: zip, x[k] = v, join, x += n, abs. -/
namespace VL
open PySem PySem.Spec PyProof.Rows L2
section
variable {X : Cx} {a b c e : Expr} {es : List Expr} {pos pos' : Pos} {fa fb fc : WE} {K : PySem.W.Frag} {st : Stmt} {rest body sts sts2 : List Stmt} {f g : WS} {ft : WT} {tg iter : Expr} {wi : WI} {wg : WG} {is : List Nat} {ga : WA}

/-! ### zip of two lists -/
def zipD (ds es : List D) : List D := List.zipWith (fun a b => .tuple [a, b]) ds es
theorem beh_zip {p q : Addr} {ds es : List D} : Behaves K [(.ref p, .list ds), (.ref q, .list es)] (Itz K p q) (zipD ds es) := by
  intro A H h
  have r := h (.ref p, .list ds) (by simp)
  have r2 := h (.ref q, .list es) (by simp)
  cases r with
  | lst e n l =>
    cases r2 with
    | lst e2 n2 l2 =>
      refine ⟨fun i d hd => ?_, fun i hi => ⟨_, _, .of e, .of e2, by unfold zipD at hi; rw [List.length_zipWith] at hi; rw [l.length, l2.length]; omega⟩⟩
      unfold zipD at hd
      rw [List.getElem?_zipWith] at hd
      cases q1 : ds[i]? with
      | none => rw [q1] at hd; cases hd
      | some x =>
        cases q2 : es[i]? with
        | none => rw [q1, q2] at hd; cases hd
        | some y =>
          rw [q1, q2] at hd
          have hd' := Option.some.inj hd
          subst hd'
          obtain ⟨vx, ex, rx⟩ := l.get q1
          obtain ⟨vy, ey, ry⟩ := l2.get q2
          refine ⟨⟨_, _, vx, vy, .of e, .of e2, ex, ey⟩, fun v H' hy => ?_⟩
          obtain ⟨T, z1, z2, rfl, hT, rfl, h1, h2⟩ := hy
          have t1 := h1 _ (.of e)
          have t2 := h2 _ (.of e2)
          rw [ex] at t1
          rw [ey] at t2
          cases t1
          cases t2
          exact ⟨same_upd hT, .tup upd_same (.cons (rx.mv (mv_same (same_upd hT))) (.cons (ry.mv (mv_same (same_upd hT))) .nil))⟩
@[reducible] def iZipD (ga : WA) : WI := fun en P => ga en fun rs => match rs with
  | [r, r2] => (match r.d, r2.d with
    | .list ds, .list es => r.k.clean = true ∧ r2.k.clean = true ∧ P (zipD ds es)
    | _, _ => False)
  | _ => False
theorem vi_zip {e2 : Expr} {p tpos : Pos} {elts : List Expr} {kk : Nat} (hg : Gl X "zip") (hm : X.mg "zip" = none) (ha : VA X [e, e2] ga) (hs : starEach [e, e2] X.env = (false, eval e X.env) :: starEach [e2] X.env := by rfl) (hp : (backTo pos (starEach [e2] X.env)).any (·.1) = false := by rfl) :
    VIt X (.Tuple elts kk tpos) (.Call (.Name "zip" p) [e, e2] [] pos) (iZipD ga) := by
  obtain ⟨t, pa, i⟩ := ha.ex
  refine ⟨⟨_, pi_zip hg hm pa hs hp, ?_⟩⟩
  intro M B G H0 H own en σ P R I hf k
  refine i I hf fun rs vs H1 h1 s1 k1 => ?_
  split at h1
  · rename_i r r2
    cases k1 with
    | cons k1 k2 =>
      cases k2 with
      | cons k2 k3 =>
        cases k3
        obtain ⟨kd, d⟩ := r
        obtain ⟨kd2, d2⟩ := r2
        split at h1
        · rename_i ds es ed ed2
          cases ed
          cases ed2
          obtain ⟨c1, c2, h1⟩ := h1
          have r1 := k1.rp I s1 c1
          have r2 := k2.rp I s1 c2
          cases r1 with
          | lst e2 n l =>
            cases r2 with
            | lst e3 n2 l2 =>
              exact ⟨_, _, _, _, rfl, .of e2, .of e3, k [(.ref _, .list ds), (.ref _, .list es)] _ _ _ h1 s1 (fun q hq => by
                rcases List.mem_cons.mp hq with rfl | hq
                · exact Rp.lst e2 n l
                · rw [List.mem_singleton.mp hq]; exact Rp.lst e3 n2 l2) beh_zip⟩
        · exact h1.elim
  · exact h1.elim

/-! ### x[k] = v of an owned list -/
@[reducible] def sPut (i : Nat) (fk fv : WE) : WS := fun E en => match gt en i with
  | some (.ow (.list ds)) => fv en fun rv => (rv.k.clean || flat rv.d) = true ∧ fk en fun rk => (match rk.d with
    | .int k => (match ixN ds.length k with
      | some j => put i (.ow (.list (ds.set j rv.d))) en E.nx
      | none => False)
    | _ => False)
  | _ => False
theorem vs_putL {x : Str} {ke ve : Expr} {npos : Pos} (i : Nat) (hk : VE X ke fa) (hv : VE X ve fb) (hN : X.N[i]? = some x := by rfl) (hvis : Vis X.env.scope x := by first | exact Or.inl rfl | exact Or.inr (Or.inl rfl) | exact Or.inr (Or.inr rfl)) (hd : (x == ("__debug__" : Str)) = false := by decide) (hcd : (x == ("__classdict__" : Str)) = false := by decide)
    (h3 : ∀ (v : Value), assign (.Subscript (.Name x npos) ke pos') X.env v = (do
                let ov ← holding [v] (eval (.Name x npos) X.env)
                let iv ← holding [v, ov] (eval ke X.env)
                standAt pos'
                holding [v, ov, iv] (setItem ov iv v)
                release [v, ov, iv] []) := by intro _; rfl)
    (hs : swapsWithSole [.Subscript (.Name x npos) ke pos'] ve pos.line X.env = pure false := by rfl) (hw : swappedStores [.Subscript (.Name x npos) ke pos'] ve X.env = pure none := by rfl)
    (h1 : (assignEach [.Subscript (.Name x npos) ke pos'] X.env).map (·.2) = [assign (.Subscript (.Name x npos) ke pos') X.env] := by rfl) :
    VS X (.Assign [.Subscript (.Name x npos) ke pos'] ve pos) (sPut i fa fb) := by
  obtain ⟨tk, pk, ik⟩ := hk.ex
  obtain ⟨tv, pv1, iv⟩ := hv.ex
  refine ⟨⟨_, ps_asg pv1 (pg_sub (pv i hN hvis hd hcd) pk set_list h3) hs hw h1, ?_⟩⟩
  intro M B G H0 H own en σ E F I hf L
  unfold sPut at hf
  rw [gt_eq] at hf
  split at hf
  · rename_i ds hd
    refine iv I hf fun rv v H1 hp s1 k1 => ?_
    obtain ⟨hc, hp⟩ := hp
    have I1 := I.same s1
    have rv1 := k1.rpC I s1 hc
    obtain ⟨p, xs, e2, e1, e3, l, _⟩ := I1.mutL (ds' := ds) hd
    refine ⟨_, e2, ik I1 hp fun rk y H2 hq s2 k2 => ?_⟩
    obtain ⟨kd, d⟩ := rk
    split at hq
    · rename_i k ek
      cases ek
      split at hq
      · rename_i j hj
        obtain ⟨p', xs', e2', e1', e3', l', up'⟩ := (I1.same s2).mutL (ds' := ds.set j rv.d) hd
        have ep : p' = p := by rw [e1] at e1'; exact (Option.some.inj e1').symm
        subst ep
        exact ⟨p', xs', k, j, rfl, by rw [k2.int I1 s2], e3', by rw [l'.length]; exact hj, L.nx _ _ _ _ (up' _ (RpL.set (rv1.mv (mv_same s2)) j l')) (put_lt hq).2⟩
      · exact hq.elim
    · exact hq.elim
  · exact hf.elim

/-! ### s.join(xs) -/
@[reducible] def wJoin (fa fb : WE) : WE := fun en P => fa en fun r1 => match r1.d with
  | .str a => fb en fun r2 => (match r2.d with
    | .list ds => ∃ ys : List Str, ds = ys.map .str ∧ (ys.map (·.length)).sum + ys.length * a.length ≤ 16777216 ∧ P ⟨.cl, .str (Txt.join a ys)⟩
    | _ => False)
  | _ => False
theorem RpL.strs {H : Hp} {A : AV} : ∀ {bs : List Str} {vs : List V}, RpL K H A vs (bs.map .str) → vs = bs.map V.str
  | [], _, h => by cases h; rfl
  | b :: bs, _, h => by
    cases h with
    | cons r t => rw [r.toStr, RpL.strs t]; rfl
theorem ve_join {apos : Pos} (ha : VE X a fa) (hb : VE X b fb) (hs : starEach [b] X.env = [(false, eval b X.env)] := by rfl) (hb2 : attributeBase a "join" X.env (eval a X.env) = eval a X.env := by rfl) (hl : (apos.endLine == pos.line) = true := by rfl) :
    VE X (.Call (.Attribute a "join" apos) [b] [] pos) (wJoin fa fb) := by
  obtain ⟨t, p, i⟩ := ha.ex
  obtain ⟨t2, p2, i2⟩ := hb.ex
  refine ⟨⟨_, pe_join p p2 hs hb2 hl, ?_⟩⟩
  intro M B G H0 H own en σ P Q I hf k
  refine i I hf fun r v H1 h1 s1 k1 => ?_
  obtain ⟨kd, d⟩ := r
  split at h1
  · rename_i z ez
    cases ez
    have e1 := k1.str I s1
    subst e1
    refine ⟨⟨_, rfl⟩, i2 (I.same s1) h1 fun r2 v2 H2 h2 s2 k2 => ?_⟩
    obtain ⟨kd2, d2⟩ := r2
    split at h2
    · rename_i ds ed
      cases ed
      obtain ⟨ys, rfl, hz, h2⟩ := h2
      obtain ⟨p, xs, rfl, e2, l⟩ := k2.list (I.same s1) s2
      rw [RpL.strs l] at e2
      exact ⟨z, p, ys, rfl, rfl, .inl (.of e2), hz, k _ _ _ h2 (s1.trans s2) (Rp.str _)⟩
    · exact h2.elim
  · exact h1.elim

/-! ### x += n -/
@[reducible] def sAug (i : Nat) (op : Int → Int → Int) (fa : WE) : WS := fun E en => match gt en i with
  | some (.sh (.int x)) => fa en fun r => (match r.d with
    | .int y => put i (.sh (.int (op x y))) en E.nx
    | _ => False)
  | _ => False
theorem vs_aug {i : Nat} {x : Str} {op : Operator} {fn : Int → Int → Int} (hN : X.N.Nodup) (hi : X.N[i]? = some x) (hx : L2.Loc X.env.scope x) (he : VE X e fa) (hp : PIp X op (ipI fn))
    (hl : X.fn x = true ∨ X.env.scope.names.lookup x = some .local := by first | exact Or.inl rfl | exact Or.inr rfl) : VS X (.AugAssign (.Name x pos') op e pos) (sAug i fn fa) := by
  obtain ⟨t, p, im⟩ := he.ex
  refine ⟨⟨_, ps_aug hN hi hx p hp hl, ?_⟩⟩
  intro M B G H0 H own en σ E F I hf L
  unfold sAug at hf
  rw [gt_eq] at hf
  split at hf
  · rename_i n hd
    obtain ⟨v, e1, r⟩ := I.sl i _ hd
    refine ⟨v, e1, im I hf fun ry y H1 h1 s1 k1 => ?_⟩
    obtain ⟨kd, d⟩ := ry
    split at h1
    · rename_i m em
      cases em
      obtain ⟨hi2, hp2⟩ := put_lt h1
      refine ⟨n, m, r.toInt, k1.int I s1, L.nx _ _ _ _ ((I.same s1).setSh hi2 (Rp.int _)) hp2⟩
    · exact h1.elim
  · exact hf.elim
@[reducible] def gInt1 (op : Int → Int) : GC := fun rs P => match dls rs with
  | [.int i] => P ⟨.cl, .int (op i)⟩
  | _ => False
theorem calli_int1 {op : Int → Int} : CallI K (fun xs H Q => ∃ i, xs = [.int i] ∧ Q (.int (op i)) H) (gInt1 op) := by
  intro M B G H0 Hs H own en σ rs vs P Q I s k1 h k
  unfold gInt1 at h
  split at h
  · rename_i i e
    obtain ⟨v, rfl, r⟩ := k1.one I s e
    rw [r.toInt]
    exact ⟨i, rfl, k _ _ _ h (.refl _) (Rp.int _)⟩
  · exact h.elim
/-! ### a flat value of an expression in which a slot's list is only looked at -/
@[reducible] def wDem (i : Nat) (fa : WE) : WE := fun en P => match gt en i with
  | some (.ow d) => fa (VL.st en i (.sh d)) fun r => flat r.d = true ∧ P ⟨.cl, r.d⟩
  | _ => fa en P
theorem ve_dem (i : Nat) (h : VE X e fa) : VE X e (wDem i fa) := by
  obtain ⟨t, p, im⟩ := h.ex
  refine ⟨⟨t, p, ?_⟩⟩
  intro M B G H0 H own en σ P Q I hf k
  unfold wDem at hf
  rw [gt_eq] at hf
  split at hf
  · rename_i d hd
    rw [st_eq] at hf
    have I2 := I.demote hd
    refine im I2 hf fun r v H1 h1 s1 k1 => ?_
    refine k _ _ _ h1.2 s1 ?_
    show Rp X.K H1 (av own B) v r.d
    exact (k1.rpB I2 s1).flat_any h1.1
  · exact im I hf k
/-! ### all, any of a list or a tuple of bools -/
theorem iter_tupB {prog : Program} {w : World} {A : Around} {E : Value → Shared → Prop} {s : Shared} {l : Addr} {items : Array Value} {Q : Value → Shared → Prop} (hl : s.heap.IsTuple l items)
    (h : ∀ s2 : Shared, s2 = { s with heap := s.heap.push { cls := .type "tuple_iterator", data := .fields #[.ref l, .int 0 0] } } →
      (s2.heap.IsTupleIter s.heap.objs.size l 0 ∧ s2.heap.IsTuple l items) → l ≠ s.heap.objs.size → Q (.ref s.heap.objs.size) s2) : wpAny (model prog w) A (pyIter (.ref l)) Q E s := by
  have hlt : l < s.heap.objs.size := by obtain ⟨_, e, _⟩ := hl; exact Heap.lt_size e
  exact wpAny_pyIter_tuple hl (h _ rfl ⟨⟨_, Heap.get?_push_size _ rfl, rfl, rfl⟩, hl.push _⟩ (Nat.ne_of_lt hlt))
def rAllT (op : List Bool → Bool) (K : PySem.W.Frag) : List V → Hp → VK → Prop := fun vs H Q => ∃ (a : Addr) (bs : List Bool), vs = [V.ref a] ∧ SqT K H a (bs.map V.bl) ∧ Q (.bl (op bs)) H
theorem cr_allT (hc : X.calm = true) : CallR X (.builtin "all") (rAllT (fun bs => bs.all id) X.K) := by
  intro pins s σ H vs us Q I r h
  obtain ⟨a, bs, rfl, hs, q⟩ := h
  obtain ⟨its, rv, hl, _⟩ := I.tuple hs
  rw [Vals.ref1 r]
  have hb := rv.bls
  refine call_all_walk (iter_tupB hl fun s₂ e2 st hne => ?_)
  subst e2
  refine ⟨_, _, _, _, _, _, _, rfl, Walks.tuple (A := X.A.in1) (I.ok.hd hc) _ a hne its.toArray, st, truth_bools hb, fun h' tk hk => ?_⟩
  refine ⟨.bl _, H, I.kept fun b o eo => hk b o (fun hmem => ?_) (Heap.get?_push_of_some _ eo), ?_, q⟩
  · rcases List.mem_cons.mp hmem with e1 | hmem
    · exact absurd (e1 ▸ Heap.lt_size eo) (Nat.lt_irrefl _)
    · cases hmem
  · show Value.bool _ = Value.bool (bs.all id)
    rw [← L2.all_range, hb, List.size_toArray, List.length_map]
theorem cr_anyT (hc : X.calm = true) : CallR X (.builtin "any") (rAllT (fun bs => bs.any id) X.K) := by
  intro pins s σ H vs us Q I r h
  obtain ⟨a, bs, rfl, hs, q⟩ := h
  obtain ⟨its, rv, hl, _⟩ := I.tuple hs
  rw [Vals.ref1 r]
  have hb := rv.bls
  refine call_any_walk (iter_tupB hl fun s₂ e2 st hne => ?_)
  subst e2
  refine ⟨_, _, _, _, _, _, _, rfl, Walks.tuple (A := X.A.in1) (I.ok.hd hc) _ a hne its.toArray, st, truth_bools hb, fun h' tk hk => ?_⟩
  refine ⟨.bl _, H, I.kept fun b o eo => hk b o (fun hmem => ?_) (Heap.get?_push_of_some _ eo), ?_, q⟩
  · rcases List.mem_cons.mp hmem with e1 | hmem
    · exact absurd (e1 ▸ Heap.lt_size eo) (Nat.lt_irrefl _)
    · cases hmem
  · show Value.bool _ = Value.bool (bs.any id)
    rw [← L2.any_range, hb, List.size_toArray, List.length_map]
def rAllA (K : PySem.W.Frag) : List V → Hp → VK → Prop := fun vs H Q => rAll K vs H Q ∨ rAllT (fun bs => bs.all id) K vs H Q
def rAnyA (K : PySem.W.Frag) : List V → Hp → VK → Prop := fun vs H Q => rAny K vs H Q ∨ rAllT (fun bs => bs.any id) K vs H Q
theorem cr_allA (hc : X.calm = true) : CallR X (.builtin "all") (rAllA X.K) := by
  intro pins s σ H vs us Q I r h
  rcases h with h | h
  · exact cr_all hc pins s σ H vs us Q I r h
  · exact cr_allT hc pins s σ H vs us Q I r h
theorem cr_anyA (hc : X.calm = true) : CallR X (.builtin "any") (rAnyA X.K) := by
  intro pins s σ H vs us Q I r h
  rcases h with h | h
  · exact cr_any hc pins s σ H vs us Q I r h
  · exact cr_anyT hc pins s σ H vs us Q I r h
@[reducible] def gAllA (op : List Bool → Bool) : GC := fun rs P => match dls rs with
  | [.list ds] => ∃ bs : List Bool, ds = bs.map .bool ∧ P ⟨.cl, .bool (op bs)⟩
  | [.tuple ds] => ∃ bs : List Bool, ds = bs.map .bool ∧ P ⟨.cl, .bool (op bs)⟩
  | _ => False
theorem calli_allA : CallI K (rAllA K) (gAllA fun bs => bs.all id) := by
  intro M B G H0 Hs H own en σ rs vs P Q I s k1 h k
  unfold gAllA at h
  split at h
  · rename_i ds e
    obtain ⟨bs, rfl, hP⟩ := h
    obtain ⟨v, rfl, r⟩ := k1.one I s e
    cases r with
    | lst e2 n l =>
      rw [RpL.bools l] at e2
      exact .inl ⟨_, bs, rfl, .of e2, k _ _ _ hP (.refl _) (Rp.bl _)⟩
  · rename_i ds e
    obtain ⟨bs, rfl, hP⟩ := h
    obtain ⟨v, rfl, r⟩ := k1.one I s e
    cases r with
    | tup e2 l =>
      rw [RpL.bools l] at e2
      exact .inr ⟨_, bs, rfl, .of e2, k _ _ _ hP (.refl _) (Rp.bl _)⟩
  · exact h.elim
theorem calli_anyA : CallI K (rAnyA K) (gAllA fun bs => bs.any id) := by
  intro M B G H0 Hs H own en σ rs vs P Q I s k1 h k
  unfold gAllA at h
  split at h
  · rename_i ds e
    obtain ⟨bs, rfl, hP⟩ := h
    obtain ⟨v, rfl, r⟩ := k1.one I s e
    cases r with
    | lst e2 n l =>
      rw [RpL.bools l] at e2
      exact .inl ⟨_, bs, rfl, .of e2, k _ _ _ hP (.refl _) (Rp.bl _)⟩
  · rename_i ds e
    obtain ⟨bs, rfl, hP⟩ := h
    obtain ⟨v, rfl, r⟩ := k1.one I s e
    cases r with
    | tup e2 l =>
      rw [RpL.bools l] at e2
      exact .inr ⟨_, bs, rfl, .of e2, k _ _ _ hP (.refl _) (Rp.bl _)⟩
  · exact h.elim
end
end VL

/-! VH: grids: signs by place, mirrored, turned; joined texts. -/
namespace VL
open PySem PySem.Spec PyProof.Rows L2

def ga (g : Gr) (i j : Nat) : Bool := (g.getD i []).getD j false
theorem getD_eq {α : Type} {xs : List α} {i : Nat} (h : i < xs.length) (d : α) : xs.getD i d = xs[i] := by
  simp [List.getD, List.getElem?_eq_getElem h]
theorem getD_len {g : Gr} {u i : Nat} (hg : ∀ r ∈ g, r.length = u) (h : i < g.length) : (g.getD i []).length = u := by
  rw [getD_eq h]
  exact hg _ (List.getElem_mem _)
theorem ga_eq {g : Gr} {u i j : Nat} (hg : ∀ r ∈ g, r.length = u) (hi : i < g.length) (hj : j < u) : ga g i j = (g[i])[j]'(by rw [hg _ (List.getElem_mem _)]; exact hj) := by
  unfold ga
  rw [getD_eq hi, getD_eq]
theorem gr_ext {g h : Gr} {u : Nat} (hl : g.length = h.length) (hg : ∀ r ∈ g, r.length = u) (hh : ∀ r ∈ h, r.length = u) (e : ∀ i j, i < g.length → j < u → ga g i j = ga h i j) : g = h := by
  apply List.ext_getElem hl
  intro i h1 h2
  apply List.ext_getElem
  · rw [hg _ (List.getElem_mem _), hh _ (List.getElem_mem _)]
  · intro j j1 j2
    have hj : j < u := by rw [hg _ (List.getElem_mem _)] at j1; exact j1
    have := e i j h1 hj
    rw [ga_eq hg h1 hj, ga_eq hh h2 hj] at this
    exact this
def wid (g : Gr) : Nat := (g.headD []).length
theorem wid_eq {m u : Nat} {g : Gr} (hg : GrOk m u g) : wid g = u := by
  cases g with
  | nil => have := hg.h1; simp at this
  | cons r t => exact hg.al r List.mem_cons_self
def mir (g : Gr) : Gr := g.map List.reverse
theorem mir_ok {m u : Nat} {g : Gr} (hg : GrOk m u g) : GrOk m u (mir g) := by
  refine ⟨by unfold mir; rw [List.length_map]; exact hg.h1, by unfold mir; rw [List.length_map]; exact hg.h2, hg.w1, hg.w2, fun r hr => ?_⟩
  obtain ⟨t, ht, rfl⟩ := List.mem_map.mp hr
  rw [List.length_reverse]
  exact hg.al t ht
theorem mir_len (g : Gr) : (mir g).length = g.length := by unfold mir; rw [List.length_map]
theorem mir_mir (g : Gr) : mir (mir g) = g := by
  unfold mir
  rw [List.map_map]
  conv => rhs; rw [← List.map_id g]
  apply List.map_congr_left
  intro r _
  simp
def qua (g : Gr) : Gr := (List.range (wid g)).map fun c => g.reverse.map fun r => r.getD c false
theorem qua_len {m u : Nat} {g : Gr} (hg : GrOk m u g) : (qua g).length = u := by unfold qua; rw [List.length_map, List.length_range, wid_eq hg]
theorem qua_ok {m u : Nat} {g : Gr} (hg : GrOk m u g) : GrOk m g.length (qua g) := by
  refine ⟨by rw [qua_len hg]; exact hg.w1, by rw [qua_len hg]; exact hg.w2, hg.h1, hg.h2, fun r hr => ?_⟩
  unfold qua at hr
  obtain ⟨c, _, rfl⟩ := List.mem_map.mp hr
  rw [List.length_map, List.length_reverse]
theorem ga_mir {m u : Nat} {g : Gr} (hg : GrOk m u g) {i j : Nat} (hi : i < g.length) (hj : j < u) : ga (mir g) i j = ga g i (u - 1 - j) := by
  rw [ga_eq (mir_ok hg).al (by rw [mir_len]; exact hi) hj, ga_eq hg.al hi (by omega)]
  unfold mir
  simp only [List.getElem_map, List.getElem_reverse]
  congr 1
  rw [hg.al _ (List.getElem_mem _)]
theorem ga_qua {m u : Nat} {g : Gr} (hg : GrOk m u g) {i j : Nat} (hi : i < u) (hj : j < g.length) : ga (qua g) i j = ga g (g.length - 1 - j) i := by
  rw [ga_eq (qua_ok hg).al (by rw [qua_len hg]; exact hi) hj, ga_eq hg.al (by omega) hi]
  unfold qua
  simp only [List.getElem_map, List.getElem_reverse, List.getElem_range]
  rw [getD_eq]
theorem qua4 {m u : Nat} {g : Gr} (hg : GrOk m u g) : qua (qua (qua (qua g))) = g := by
  have h1 := qua_ok hg
  have l1 := qua_len hg
  have h2 := qua_ok h1
  have l2 := qua_len h1
  have h3 := qua_ok h2
  have l3 := qua_len h2
  have h4 := qua_ok h3
  have l4 := qua_len h3
  refine gr_ext (u := u) (by rw [l4, l2]) (by rw [← l1, ← l3]; exact h4.al) hg.al fun i j hi hj => ?_
  rw [l4, l2] at hi
  rw [ga_qua h3 (by omega) (by omega), ga_qua h2 (by omega) (by omega), ga_qua h1 (by omega) (by omega), ga_qua hg (by omega) (by omega)]
  congr 1 <;> omega
theorem qmqm {m u : Nat} {g : Gr} (hg : GrOk m u g) : qua (mir (qua (mir g))) = g := by
  have h1 := mir_ok hg
  have l1 := mir_len g
  have h2 := qua_ok h1
  have l2 := qua_len h1
  have h3 := mir_ok h2
  have l3 := mir_len (qua (mir g))
  have h4 := qua_ok h3
  have l4 := qua_len h3
  refine gr_ext (u := u) (by rw [l4, l1]) (by rw [← l2, ← l3]; exact h4.al) hg.al fun i j hi hj => ?_
  rw [l4, l1] at hi
  rw [ga_qua h3 (by omega) (by omega), ga_mir h2 (by omega) (by omega), ga_qua h1 (by omega) (by omega), ga_mir hg (by omega) (by omega)]
  congr 1 <;> omega

theorem mir_getD {g : Gr} {i : Nat} (h : i < g.length) : (mir g).getD i [] = (g.getD i []).reverse := by
  rw [getD_eq (by rw [mir_len]; exact h), getD_eq h]
  unfold mir
  rw [List.getElem_map]
theorem shp_row (r : List Bool) : shp (rowD r) = true := (shD_row r).shp (by decide)

theorem ne_f {x y : D} (h : eqv x y = true) : some (D.bool false) = some (D.bool (!eqv x y)) := by rw [h]; rfl
theorem eq_t {x y : D} (h : eqv x y = true) : some (D.bool true) = some (D.bool (eqv x y)) := by rw [h]

/-! ### signs of rows as data -/
theorem sign_at {r : List Bool} {i : Nat} (h : i < r.length) : atI (rowS r).cps.toList (0 + (i : Nat)) = some (sg (r.getD i false)) := by
  rw [Int.zero_add, atI_ge (Int.natCast_nonneg _), Int.toNat_natCast]
  unfold rowS
  rw [S_cps, List.getElem?_map, List.getElem?_eq_getElem h, getD_eq h]
  rfl
theorem sign_atI {r : List Bool} {k : Int} (h0 : 0 ≤ k) (h : k < r.length) : atI (rowS r).cps.toList k = some (sg (r.getD k.toNat false)) := by
  rw [atI_ge h0]
  unfold rowS
  rw [S_cps, List.getElem?_map, List.getElem?_eq_getElem (show k.toNat < r.length by omega), getD_eq (show k.toNat < r.length by omega)]
  rfl
theorem grid_at {g : Gr} {i : Nat} (h : i < g.length) : atI (g.map rowD) (0 + (i : Nat)) = some (rowD (g.getD i [])) := by
  rw [Int.zero_add, atI_map, atI_ge (Int.natCast_nonneg _), Int.toNat_natCast, List.getElem?_eq_getElem h, getD_eq h]
  rfl
theorem grid_atI {g : Gr} {k : Int} (h0 : 0 ≤ k) (h : k < g.length) : atI (g.map rowD) k = some (rowD (g.getD k.toNat [])) := by
  rw [atI_map, atI_ge h0, List.getElem?_eq_getElem (show k.toNat < g.length by omega), getD_eq (show k.toNat < g.length by omega)]
  rfl
theorem rowS_rev (r : List Bool) : (⟨(rowS r).cps.toList.reverse.toArray⟩ : Str) = rowS r.reverse := by
  unfold rowS S
  simp
theorem sumlen : ∀ bs : List Bool, ((bs.map fun b => S [sg b]).map (·.length)).sum = bs.length
  | [] => rfl
  | b :: bs => by
    rw [List.map_cons, List.map_cons, List.sum_cons, sumlen bs, List.length_cons]
    show 1 + bs.length = bs.length + 1
    omega
theorem glue_fold : ∀ (ys : List (List Nat)) (acc : Array Nat), (ys.map S).foldl (fun a p => a ++ (S []).cps ++ p.cps) acc = acc ++ ys.flatten.toArray
  | [], acc => by simp
  | y :: ys, acc => by
    rw [List.map_cons, List.foldl_cons, glue_fold ys]
    simp [S]
theorem join_S (ys : List (List Nat)) : Txt.join (S []) (ys.map S) = S ys.flatten := by
  unfold Txt.join Builtin.Str.glued
  cases ys with
  | nil => rfl
  | cons y ys =>
    rw [List.map_cons, List.headD_cons, List.drop_one, List.tail_cons, glue_fold]
    simp [S]
theorem join_row (r : List Bool) : Txt.join (S []) (r.map fun b => S [sg b]) = rowS r := by
  have := join_S (r.map fun b => [sg b])
  rw [List.map_map] at this
  rw [show (r.map fun b => S [sg b]) = r.map (S ∘ fun b => [sg b]) from rfl, this]
  unfold rowS
  congr 1
  clear this
  induction r with
  | nil => rfl
  | cons x r ih => rw [List.map_cons, List.flatten_cons, List.map_cons, ih]; rfl
end VL

/-! VJ: sums over a grid's places; joins, blocks, windows. -/
namespace VL
open PySem PySem.Spec PyProof.Rows L2

def bi (b : Bool) : Int := if b = true then 1 else 0
def sumR (n : Nat) (f : Nat → Int) : Int := ((List.range n).map f).sum
theorem sumR_zero (f : Nat → Int) : sumR 0 f = 0 := rfl
theorem sumR_succ (n : Nat) (f : Nat → Int) : sumR (n + 1) f = sumR n f + f n := by
  unfold sumR
  rw [List.range_succ, List.map_append, List.sum_append]
  simp
theorem sumR_congr {n : Nat} {f g : Nat → Int} (h : ∀ i, i < n → f i = g i) : sumR n f = sumR n g := by
  induction n with
  | zero => rfl
  | succ n ih => rw [sumR_succ, sumR_succ, ih fun i hi => h i (by omega), h n (by omega)]
theorem sumR_add (n : Nat) (f g : Nat → Int) : sumR n (fun i => f i + g i) = sumR n f + sumR n g := by
  induction n with
  | zero => rfl
  | succ n ih => rw [sumR_succ, sumR_succ, sumR_succ, ih]; omega
theorem sumR_const (n : Nat) : sumR n (fun _ => 0) = 0 := by
  induction n with
  | zero => rfl
  | succ n ih => rw [sumR_succ, ih]; rfl
theorem sumR_front (n : Nat) (f : Nat → Int) : sumR (n + 1) f = f 0 + sumR n (fun i => f (i + 1)) := by
  induction n with
  | zero => rw [sumR_succ]; simp [sumR_zero]
  | succ n ih => rw [sumR_succ, ih, sumR_succ]; omega
theorem sumR_neg (n : Nat) (f : Nat → Int) : sumR n (fun i => - f i) = - sumR n f := by
  induction n with
  | zero => rfl
  | succ n ih => rw [sumR_succ, sumR_succ, ih]; omega
theorem sumR_mul (n : Nat) (c : Int) (f : Nat → Int) : sumR n (fun i => c * f i) = c * sumR n f := by
  induction n with
  | zero => rw [sumR_zero, sumR_zero, Int.mul_zero]
  | succ n ih => rw [sumR_succ, sumR_succ, ih, Int.mul_add]
theorem sumR_swap (n m : Nat) (f : Nat → Nat → Int) : sumR n (fun i => sumR m (f i)) = sumR m (fun j => sumR n fun i => f i j) := by
  induction n with
  | zero => rw [sumR_zero]; exact (sumR_const m).symm
  | succ n ih => rw [sumR_succ, ih, ← sumR_add]; exact sumR_congr fun j _ => (sumR_succ n _).symm
theorem sumR_rev (n : Nat) (f : Nat → Int) : sumR n (fun i => f (n - 1 - i)) = sumR n f := by
  induction n with
  | zero => rfl
  | succ n ih =>
    rw [sumR_front, sumR_succ, ← ih, show n + 1 - 1 - 0 = n by omega, Int.add_comm]
    congr 1
    exact sumR_congr fun i hi => by congr 1; omega
/-- over all places -/
def sumG (h u : Nat) (f : Nat → Nat → Int) : Int := sumR h fun i => sumR u (f i)
theorem sumG_congr {h u : Nat} {f g : Nat → Nat → Int} (e : ∀ i j, i < h → j < u → f i j = g i j) : sumG h u f = sumG h u g := sumR_congr fun i hi => sumR_congr fun j hj => e i j hi hj
theorem sumG_add (h u : Nat) (f g : Nat → Nat → Int) : sumG h u (fun i j => f i j + g i j) = sumG h u f + sumG h u g := by
  unfold sumG
  rw [← sumR_add]
  exact sumR_congr fun i _ => sumR_add _ _ _
/-- land at any place of the plane -/
def lnd (g : Gr) (i j : Int) : Bool := decide (0 ≤ i) && decide (0 ≤ j) && ga g i.toNat j.toNat
theorem ga_out1 {g : Gr} {i j : Nat} (h : g.length ≤ i) : ga g i j = false := by
  unfold ga
  simp [List.getD, List.getElem?_eq_none h]
theorem ga_out2 {g : Gr} {u i j : Nat} (hg : ∀ r ∈ g, r.length = u) (h : u ≤ j) : ga g i j = false := by
  by_cases hi : i < g.length
  · unfold ga
    rw [List.getD, List.getElem?_eq_none (by rw [getD_len hg hi]; exact h)]
    rfl
  · exact ga_out1 (Nat.le_of_not_lt hi)
theorem lnd_nat (g : Gr) (i j : Nat) : lnd g (i : Int) (j : Int) = ga g i j := by
  unfold lnd
  simp
theorem lnd_neg1 {g : Gr} {i j : Int} (h : i < 0) : lnd g i j = false := by
  unfold lnd
  rw [decide_eq_false (by omega)]
  rfl
theorem lnd_neg2 {g : Gr} {i j : Int} (h : j < 0) : lnd g i j = false := by
  unfold lnd
  rw [show decide (0 ≤ j) = false from decide_eq_false (by omega), Bool.and_false]
  rfl
theorem cutD_mid {α : Type} (xs : List α) {a b : Int} (h : 0 ≤ a) (h2 : a ≤ b) : cutD xs (some a) (some b) = (xs.drop a.toNat).take (b.toNat - a.toNat) := by
  obtain ⟨n, rfl⟩ := Int.eq_ofNat_of_zero_le h
  obtain ⟨m, rfl⟩ := Int.eq_ofNat_of_zero_le (Int.le_trans h h2)
  unfold cutD
  rw [HT.sIx_nat, HT.sIx_nat, Int.toNat_natCast, Int.toNat_natCast]
  by_cases h : n ≤ xs.length
  · rw [Nat.min_eq_left h]
    by_cases h3 : m ≤ xs.length
    · rw [Nat.min_eq_left h3]
    · rw [Nat.min_eq_right (by omega), List.take_of_length_le (by rw [List.length_drop]; exact Nat.le_refl _), List.take_of_length_le (by rw [List.length_drop]; omega)]
  · rw [Nat.min_eq_right (show xs.length ≤ n by omega), Nat.min_eq_right (show xs.length ≤ m by omega), List.drop_eq_nil_of_le (Nat.le_refl _), List.drop_eq_nil_of_le (show xs.length ≤ n by omega), List.take_nil, List.take_nil]
theorem two_signs {r : List Bool} {j : Nat} : eqv (.str (S (((r.map sg).drop j).take 2))) (.str "##") = (r.getD j false && r.getD (j + 1) false) := by
  rw [show (D.str "##") = .str (S [35, 35]) from rfl, eqv_str]
  rw [show decide (S (((r.map sg).drop j).take 2) = S [35, 35]) = decide (((r.map sg).drop j).take 2 = [35, 35]) from decide_eq_decide.mpr S_inj]
  rw [← List.map_drop, ← List.map_take]
  have e : r.getD j false = (r.drop j).getD 0 false := by simp [List.getD]
  have e2 : r.getD (j + 1) false = (r.drop j).getD 1 false := by simp [List.getD]
  rw [e, e2]
  generalize r.drop j = t
  rcases t with _ | ⟨a, _ | ⟨b, t⟩⟩
  · rfl
  · cases a <;> rfl
  · cases a <;> cases b <;> simp [sg]
theorem shp_two (r : List Bool) (j k : Nat) : shp (.str (S (((r.map sg).drop j).take k))) = true := (shD_str (S_ok fun c hc => by
  obtain ⟨b, _, rfl⟩ := List.mem_map.mp (List.mem_of_mem_drop (List.mem_of_mem_take hc))
  exact sg_lt b)).shp (by decide)
theorem sl2 (r : List Bool) (x : Nat) : cutD (rowS r).cps.toList (some (0 + (x : Int))) (some (0 + (x : Int) + 2)) = ((r.map sg).drop x).take 2 := by
  unfold rowS
  rw [S_cps, cutD_mid _ (by omega) (by omega), show (0 + (x : Int)).toNat = x by omega, show (0 + (x : Int) + 2).toNat - x = 2 by omega]
theorem rep_dots (u : Nat) : repS (Str.ofString ".") (u : Int) = rowS (List.replicate u false) := by
  unfold repS rowS S
  rw [Int.toNat_natCast, List.map_replicate, show (Str.ofString ".").cps.toList = [46] from rfl]
  congr 2
  induction u with
  | zero => rfl
  | succ u ih => rw [List.replicate_succ, List.flatten_cons, ih]; rfl
theorem sum_snoc {α : Type} (f : α → Int) (xs : List α) (x : α) : ((xs ++ [x]).map f).sum = (xs.map f).sum + f x := by
  rw [List.map_append, List.sum_append, List.map_singleton, List.sum_singleton]
def belL (g : Gr) (u i : Nat) : List Bool := if i + 1 < g.length then g.getD (i + 1) [] else List.replicate u false
theorem belL_len {g : Gr} {u : Nat} (hg : ∀ r ∈ g, r.length = u) (i : Nat) : (belL g u i).length = u := by
  unfold belL
  by_cases h : i + 1 < g.length
  · rw [if_pos h, getD_len hg h]
  · rw [if_neg h, List.length_replicate]
theorem belL_at {g : Gr} {u : Nat} (i j : Nat) : (belL g u i).getD j false = ga g (i + 1) j := by
  unfold belL
  by_cases h : i + 1 < g.length
  · rw [if_pos h]; rfl
  · rw [if_neg h, ga_out1 (by omega)]
    simp only [List.getD, List.getElem?_replicate]
    split <;> rfl
theorem zipIdx_range {α : Type} (d : α) (xs : List α) : xs.zipIdx = (List.range xs.length).map fun i => (xs.getD i d, i) := by
  apply List.ext_getElem?
  intro i
  rw [List.getElem?_zipIdx, List.getElem?_map]
  by_cases h : i < xs.length
  · rw [List.getElem?_eq_getElem h, List.getElem?_range h]
    simp [List.getElem?_eq_getElem h]
  · rw [List.getElem?_eq_none (Nat.le_of_not_lt h), List.getElem?_eq_none (by simpa using Nat.le_of_not_lt h)]
    rfl
theorem sum_flatMap {α β : Type} (f : α → List β) (v : β → Int) : ∀ xs : List α, ((xs.flatMap f).map v).sum = (xs.map fun x => ((f x).map v).sum).sum
  | [] => rfl
  | x :: xs => by rw [List.flatMap_cons, List.map_append, List.sum_append, List.map_cons, List.sum_cons, sum_flatMap f v xs]
theorem sum_filterMap {α β : Type} (f : α → Option β) (v : β → Int) : ∀ xs : List α, ((xs.filterMap f).map v).sum = (xs.map fun x => match f x with | some y => v y | none => 0).sum
  | [] => rfl
  | x :: xs => by
    rw [List.filterMap_cons, List.map_cons, List.sum_cons, ← sum_filterMap f v xs]
    cases f x with
    | none => simp
    | some y => simp
theorem rowC_sum (b : Bool) (i : Nat) (r : List Bool) (v : Ce → Int) : ((rowC b i r).map v).sum = sumR r.length fun j => if r.getD j false = b then v ((i : Int), (j : Int)) else 0 := by
  unfold rowC sumR
  rw [sum_filterMap, zipIdx_range false, List.map_map]
  congr 1
  apply List.map_congr_left
  intro j _
  simp only [Function.comp]
  by_cases h : r.getD j false = b
  · rw [if_pos h, if_pos h]
  · rw [if_neg h, if_neg h]
theorem cells_sum {g : Gr} {u : Nat} (hg : ∀ r ∈ g, r.length = u) (b : Bool) (v : Ce → Int) : ((cellsOf b g).map v).sum = sumG g.length u fun i j => if ga g i j = b then v ((i : Int), (j : Int)) else 0 := by
  unfold cellsOf sumG sumR
  rw [sum_flatMap, zipIdx_range [], List.map_map]
  congr 1
  apply List.map_congr_left
  intro i hi
  have hi := List.mem_range.mp hi
  simp only [Function.comp]
  rw [rowC_sum, getD_len hg hi]
  rfl
end VL

/-! VP: products of long ints, range of three, a statement that pops, laws told the script's bits. -/
namespace VL
open PySem PySem.Spec PyProof.Rows L2
section
variable {X : Cx} {a b c e : Expr} {es : List Expr} {pos pos' : Pos} {fa fb fc : WE} {K : PySem.W.Frag} {st : Stmt} {rest body sts sts2 : List Stmt} {f g : WS} {ft : WT} {tg iter : Expr} {wi : WI} {wg : WG} {is : List Nat} {ga : WA} {xa : WX}
theorem ve_mulX (ha : VE X a fa) (hb : VE X b fb) : VE X (.BinOp a .Mult b pos) (wOp (gInt CMulX fun i j => i * j) fa fb) := ve_opG op_mulX opi_int ha hb
/-- e, said alone, that pops -/
@[reducible] def sDropX (xa : WX) : WS := fun E en => xa en fun en' _ => E.nx en'
theorem vs_exprX (h : VX X e xa) (hs : swapsWith e none pos.line X.env = pure false := by rfl) : VS X (.Expr e pos) (sDropX xa) := by
  obtain ⟨t, p, im⟩ := h.ex
  refine ⟨⟨_, ps_expr p hs, ?_⟩⟩
  intro M B G H0 H own en σ E F I hf L
  exact im I hf fun en' d v H' h' I' _ => L.nx _ _ _ _ I' h'
/-- range(i, j, c), c positive -/
def rngC (lo c : Int) (n : Nat) : List D := (List.range n).map fun i => .int (lo + (i : Nat) * c)
theorem beh_rngC {lo c : Int} {n : Nat} : Behaves K [] (Itc lo c n) (rngC lo c n) := by
  intro A H _
  refine ⟨fun i d hd => ?_, fun i hi => by
    unfold rngC at hi
    have : n ≤ i := by simpa using hi
    exact this⟩
  unfold rngC at hd
  rw [List.getElem?_map] at hd
  cases q : (List.range n)[i]? with
  | none => rw [q] at hd; cases hd
  | some c =>
    rw [q] at hd
    have hd' := Option.some.inj hd
    subst hd'
    obtain ⟨hi, e⟩ := List.getElem?_eq_some_iff.mp q
    have e' : c = i := by simpa using e.symm
    subst e'
    have hi2 : c < n := by simpa using hi
    refine ⟨hi2, fun x H' hy => ?_⟩
    obtain ⟨rfl, rfl⟩ := hy
    exact ⟨.refl _, Rp.int _⟩
@[reducible] def iRng3D (ga : WA) : WI := fun en P => ga en fun rs => match dls rs with
  | [.int i, .int j, .int c] => ∃ n : Nat, RgC i j c n ∧ P (rngC i c n)
  | _ => False
theorem RsAll.three {M B : AV} {G : List (V × D)} {H0 Hs H : Hp} {own : Nat → Option Addr} {en : En} {σ : L2.St} (I : VI K M B G H0 own en σ Hs) (s : Same Hs H) {rs : List Rs} {vs : List V} (h : RsAll K B own Hs H rs vs) {d d2 d3 : D} (e : dls rs = [d, d2, d3]) :
    ∃ v w x, vs = [v, w, x] ∧ Rp K H B v d ∧ Rp K H B w d2 ∧ Rp K H B x d3 := by
  have l := h.rpB I s
  rw [← dls_eq, e] at l
  cases l with
  | cons r t => cases t with | cons r2 t2 => cases t2 with | cons r3 t3 => cases t3; exact ⟨_, _, _, rfl, r, r2, r3⟩
theorem vi_range3 {p : Pos} (hg : Gl X "range") (hm : X.mg "range" = none) (ha : VA X [a, b, c] ga) (hs : starEach [a, b, c] X.env = (false, eval a X.env) :: starEach [b, c] X.env := by rfl) (hpl : (backTo pos (starEach [b, c] X.env)).any (·.1) = false := by rfl) :
    VIt X tg (.Call (.Name "range" p) [a, b, c] [] pos) (iRng3D ga) := by
  obtain ⟨t, p, i⟩ := ha.ex
  refine ⟨⟨_, pi_range3 hg hm p hs hpl, ?_⟩⟩
  intro M B G H0 H own en σ P R I hf k
  refine i I hf fun rs vs H1 h1 s1 k1 => ?_
  split at h1
  · rename_i x y c ej
    obtain ⟨v, w, u, rfl, r, r2, r3⟩ := k1.three I s1 ej
    rw [r.toInt, r2.toInt, r3.toInt]
    obtain ⟨n, hr, h1⟩ := h1
    exact ⟨x, y, c, n, rfl, hr, k [] _ _ _ h1 s1 (fun q hq => nomatch hq) beh_rngC⟩
  · exact h1.elim
end
abbrev Bits (ns : List Int) : Prop := ∀ z ∈ ns, Builtin.Int.intBits z ≤ 1048576
def spLawB (K : PySem.W.Frag) : Sp := fun vs H Q _ => ∃ (a : Addr) (ns : List Int), vs = [.ref a] ∧ SqL K H a (ns.map V.int) ∧ Bits ns ∧ ∀ H', Q (.bl true) H'
theorem vlawB {P : Program} {w : World} {K : PySem.W.Frag} {mg : Str → Option Value} {base : Heap} {x qual : Str} {st : Stmt} {f : Addr} {fd : FuncData} {n1 p : Str} {N : List Str} {k : Nat} (F : Fun K x qual st f fd) (S : FnScope (n1 :: N) [p] (defScope st))
    (hbody : ∀ (cdv : Value) (A : Around) (outer : List Env) (s : Shared) (H : Hp) (E : XK), Room k (A.deeper (envOfC qual (defScope st) s.heap.objs.size f cdv)) →
      ∃ b0 rest g, defBody st = b0 :: rest ∧ PS (cxOf CX0 P w K mg base (n1 :: N) qual (defScope st) f cdv A outer s H E).nox b0 (tAsg (tSl (rSlL K) (tVar 0) tNoPart (tPart (tC (.int 63)))) (gName 0)) ∧
        VSs (cxOf CX0 P w K mg base (n1 :: N) qual (defScope st) f cdv A outer s H E).nox rest g ∧ ∀ ns : List Int, ns.length ≤ 63 → Bits ns → g (Post fun _ d => d = .bool true) (startE (n1 :: N) [intsD ns])) : FnOk P w K mg base CX0 (k + 1) f fd [p] (spLawB K) := by
  refine F.ok S (fun vs H Q E h => ?_) (fun cdv A outer s H vs Q E hr h => ?_)
  · obtain ⟨a, ns, rfl, _⟩ := h
    rfl
  · obtain ⟨a, ns, rfl, hS, hB, q⟩ := h
    obtain ⟨b0, rest, g, eb, p0, ⟨⟨t, p1, im⟩⟩, hg⟩ := hbody cdv A outer s H E hr
    refine ⟨_, by rw [eb]; exact pss_cons p0 p1, ?_⟩
    refine ⟨.ref a, rfl, 63, rfl, a, ns.map V.int, rfl, hS, fun q0 hq => ?_⟩
    rw [cut63]
    have r : RpL K (upd H q0 (.lst ((ns.take 63).map V.int))) (fun _ => False) [.ref q0] [intsD (ns.take 63)] :=
      .cons (.lst upd_same (fun z => z) (rp_ints _)) .nil
    have I := vi_start (N := n1 :: N) (A := fun _ => False) (fun _ z => z.elim) r
    refine im I (hg _ (by rw [List.length_take]; omega) fun z hz => hB z (List.mem_of_mem_take hz)) ⟨fun own en σ H' I h' => ?_, fun own en σ H' b d v I rt h' => ?_, fun _ _ _ _ _ h' => h'.elim, fun _ _ _ _ _ h' => h'.elim⟩
    · exact nomatch h'
    · subst h'
      have : v = .bl true := by
        cases b with
        | true => obtain ⟨p, _, _, t⟩ := rt; exact t.elim
        | false =>
          have rt' : Rp _ _ _ v (.bool true) := rt
          exact rt'.toBool
      subst this
      exact q H'
end VL

/-! VQ: words: reduced stacks, joined, undone. -/
namespace VL
open PySem PySem.Spec PyProof.Rows L2

def psh (s : List Int) (x : Int) : List Int := match s with
  | [] => [x]
  | y :: t => if y + x = 0 then t else x :: y :: t
def act (s w : List Int) : List Int := w.foldl psh s
/-- no two beside one another are opposites -/
def Ch (w : List Int) : Prop := ∀ a x y b, w = a ++ x :: y :: b → x + y ≠ 0
theorem Ch.suffix {a w : List Int} (h : Ch (a ++ w)) : Ch w := fun b x y c e => h (a ++ b) x y c (by rw [e, List.append_assoc])
theorem Ch.head {x y : Int} {t : List Int} (h : Ch (x :: y :: t)) : x + y ≠ 0 := h [] x y t rfl
theorem Ch.cons {x y : Int} {t : List Int} (e : x + y ≠ 0) (h : Ch (y :: t)) : Ch (x :: y :: t) := fun a p q b e2 => by
  cases a with
  | nil =>
    rw [List.nil_append] at e2
    injection e2 with e3 e4
    injection e4 with e5 _
    rw [← e3, ← e5]
    exact e
  | cons z a =>
    rw [List.cons_append] at e2
    injection e2 with _ e4
    exact h a p q b e4
theorem Ch.rev {w : List Int} (h : Ch w) : Ch w.reverse := fun a x y b e => by
  have e2 := congrArg List.reverse e
  rw [List.reverse_reverse] at e2
  have := h b.reverse y x a.reverse (by rw [e2]; simp)
  omega
theorem Ch.neg {w : List Int} (h : Ch w) : Ch (w.map fun x => -x) := fun a x y b e => by
  have e2 := congrArg (List.map fun x : Int => -x) e
  rw [List.map_map, show ((fun x : Int => -x) ∘ fun x => -x) = id from funext fun x => by simp, List.map_id] at e2
  have := h (a.map fun x => -x) (-x) (-y) (b.map fun x => -x) (by rw [e2]; simp)
  omega
def Red (w : List Int) : Prop := (∀ x ∈ w, x ≠ 0) ∧ Ch w
theorem Red.nil : Red [] := ⟨nofun, fun a _ _ _ e => by cases a <;> cases e⟩
theorem Red.tail {x : Int} {w : List Int} (h : Red (x :: w)) : Red w := ⟨fun y hy => h.1 y (List.mem_cons_of_mem _ hy), Ch.suffix (a := [x]) h.2⟩
theorem Red.rev {w : List Int} (h : Red w) : Red w.reverse := by
  exact ⟨fun x hx => h.1 x (List.mem_reverse.mp hx), h.2.rev⟩
theorem psh_red {s : List Int} {x : Int} (h : Red s) (hx : x ≠ 0) : Red (psh s x) := by
  unfold psh
  cases s with
  | nil => exact ⟨fun y hy => by rw [List.mem_singleton.mp hy]; exact hx, fun a p q b e => by cases a with | nil => cases e | cons z a => cases a <;> cases e⟩
  | cons y t =>
    show Red (if y + x = 0 then t else x :: y :: t)
    by_cases e : y + x = 0
    · rw [if_pos e]; exact h.tail
    · rw [if_neg e]
      refine ⟨fun z hz => ?_, ?_⟩
      · rcases List.mem_cons.mp hz with rfl | hz
        · exact hx
        · exact h.1 z hz
      · exact .cons (by omega) h.2
theorem act_red {w : List Int} : ∀ {s : List Int}, Red s → (∀ x ∈ w, x ≠ 0) → Red (act s w) := by
  induction w with
  | nil => exact fun h _ => h
  | cons x w ih => exact fun h hw => ih (psh_red h (hw x List.mem_cons_self)) fun y hy => hw y (List.mem_cons_of_mem _ hy)
theorem psh_back {s : List Int} {x : Int} (h : Red s) (hx : x ≠ 0) : psh (psh s x) (-x) = s := by
  unfold psh
  cases s with
  | nil =>
    show (if x + -x = 0 then [] else [-x, x]) = []
    rw [if_pos (by omega)]
  | cons y t =>
    by_cases e : y + x = 0
    · simp only [if_pos e]
      cases t with
      | nil =>
        show [-x] = [y]
        rw [show y = -x by omega]
      | cons z t =>
        have := h.2.head
        show (if z + -x = 0 then t else -x :: z :: t) = y :: z :: t
        rw [if_neg (by omega), show y = -x by omega]
    · simp only [if_neg e]
      rw [if_pos (by omega)]
theorem act_append (s a b : List Int) : act s (a ++ b) = act (act s a) b := List.foldl_append
def inv (w : List Int) : List Int := w.reverse.map fun x => -x
theorem inv_inv (w : List Int) : inv (inv w) = w := by
  unfold inv
  rw [← List.map_reverse, List.reverse_reverse, List.map_map]
  conv => rhs; rw [← List.map_id w]
  exact List.map_congr_left fun x _ => by simp
theorem inv_nz {w : List Int} (h : ∀ x ∈ w, x ≠ 0) : ∀ x ∈ inv w, x ≠ 0 := fun x hx => by
  obtain ⟨y, hy, rfl⟩ := List.mem_map.mp hx
  have := h y (List.mem_reverse.mp hy)
  omega
theorem inv_cons (x : Int) (w : List Int) : inv (x :: w) = inv w ++ [-x] := by
  unfold inv
  rw [List.reverse_cons, List.map_append]
  rfl
theorem inv_append (a b : List Int) : inv (a ++ b) = inv b ++ inv a := by
  unfold inv
  rw [List.reverse_append, List.map_append]
theorem inv_length (w : List Int) : (inv w).length = w.length := by unfold inv; rw [List.length_map, List.length_reverse]
theorem act_inv {w : List Int} : ∀ {s : List Int}, Red s → (∀ x ∈ w, x ≠ 0) → act (act s w) (inv w) = s := by
  induction w with
  | nil => exact fun _ _ => rfl
  | cons x w ih =>
    intro s h hw
    have hx := hw x List.mem_cons_self
    have hw2 := fun y hy => hw y (List.mem_cons_of_mem x hy)
    rw [inv_cons, act_append]
    show psh (act (act (psh s x) w) (inv w)) (-x) = s
    rw [ih (psh_red h hx) hw2, psh_back h hx]
theorem act_inv2 {w s : List Int} (h : Red s) (hw : ∀ x ∈ w, x ≠ 0) : act (act s (inv w)) w = s := by
  have := act_inv (w := inv w) h (inv_nz hw)
  rw [inv_inv] at this
  exact this
/-- a reduced word, laid on nothing -/
theorem act_self_aux : ∀ (w s : List Int), Red (w.reverse ++ s) → act s w = w.reverse ++ s
  | [], s, _ => rfl
  | x :: w, s, h => by
    rw [List.reverse_cons, List.append_assoc] at h ⊢
    have e : psh s x = x :: s := by
      cases s with
      | nil => rfl
      | cons y t =>
        have hc := h.2
        have h3 := hc.suffix.head
        show (if y + x = 0 then t else x :: y :: t) = x :: y :: t
        rw [if_neg (by omega)]
    show act (psh s x) w = _
    rw [e]
    exact act_self_aux w (x :: s) h
theorem act_self {w : List Int} (h : Red w) : act [] w = w.reverse := by
  have := act_self_aux w [] (by rw [List.append_nil]; exact h.rev)
  rw [List.append_nil] at this
  exact this
/-- a word and what is left of it do alike -/
theorem act_norm {s : List Int} (h : Red s) : ∀ {r : List Int} {w : List Int}, Red r → (∀ x ∈ w, x ≠ 0) → act s (act r w).reverse = act (act s r.reverse) w := by
  intro r w
  induction w generalizing r with
  | nil => exact fun _ _ => rfl
  | cons x w ih =>
    intro hr hw
    have hx := hw x List.mem_cons_self
    have hw2 := fun y hy => hw y (List.mem_cons_of_mem x hy)
    show act s (act (psh r x) w).reverse = act (psh (act s r.reverse) x) w
    rw [ih (psh_red hr hx) hw2]
    congr 1
    cases r with
    | nil => rfl
    | cons y t =>
      by_cases e : y + x = 0
      · show act s (if y + x = 0 then t else x :: y :: t).reverse = _
        rw [if_pos e, List.reverse_cons, act_append]
        show act s t.reverse = psh (psh (act s t.reverse) y) x
        have hy := hr.1 y List.mem_cons_self
        rw [show x = -y by omega, psh_back (act_red h fun z hz => hr.1 z (List.mem_cons_of_mem _ (List.mem_reverse.mp hz))) hy]
      · show act s (if y + x = 0 then t else x :: y :: t).reverse = _
        rw [if_neg e, List.reverse_cons, act_append]
        rfl
/-- two words together -/
def tog (a b : List Int) : List Int := (act a.reverse b).reverse
theorem tog_red {a b : List Int} (h : Red a) (hb : ∀ x ∈ b, x ≠ 0) : Red (tog a b) := (act_red h.rev hb).rev
theorem tog_nil (b : List Int) : tog b [] = b := by unfold tog; exact List.reverse_reverse b
theorem psh_len (s : List Int) (x : Int) : (psh s x).length ≤ s.length + 1 := by
  unfold psh
  cases s with
  | nil => exact Nat.le_refl _
  | cons y t =>
    show (if y + x = 0 then t else x :: y :: t).length ≤ _
    split
    · rw [List.length_cons]; omega
    · rw [List.length_cons]; exact Nat.le_refl _
theorem act_len (w : List Int) : ∀ s : List Int, (act s w).length ≤ s.length + w.length := by
  induction w with
  | nil => exact fun s => Nat.le_refl _
  | cons x w ih =>
    intro s
    have h1 := ih (psh s x)
    have h2 := psh_len s x
    rw [List.length_cons]
    show (act (psh s x) w).length ≤ _
    omega
theorem tog_len (a b : List Int) : (tog a b).length ≤ a.length + b.length := by
  unfold tog
  have := act_len b a.reverse
  rw [List.length_reverse] at this ⊢
  exact this
theorem tog_tog {a b c : List Int} (ha : Red a) (hb : Red b) (hc : ∀ x ∈ c, x ≠ 0) : tog (tog a b) c = tog a (tog b c) := by
  unfold tog
  rw [List.reverse_reverse, act_norm ha.rev hb.rev hc, List.reverse_reverse]
theorem inv_red {w : List Int} (h : Red w) : Red (inv w) := by
  exact ⟨inv_nz h.1, h.rev.2.neg⟩
theorem tog_inv {a : List Int} (h : Red a) : tog a (inv a) = [] := by
  unfold tog
  rw [← act_self h, act_inv Red.nil h.1]
  rfl
theorem inv_tog {a b : List Int} (ha : Red a) (hb : Red b) : inv (tog a b) = tog (inv b) (inv a) := by
  have hr := tog_red ha hb.1
  -- both undo laying a and b
  have e1 : act [] (inv (tog a b)) = (inv (tog a b)).reverse := act_self (inv_red hr)
  have e2 : act [] (inv b ++ inv a) = act (inv b).reverse (inv a) := by rw [act_append, act_self (inv_red hb)]
  have nz : ∀ x ∈ a ++ b, x ≠ 0 := fun x hx => (List.mem_append.mp hx).elim (ha.1 x) (hb.1 x)
  have k : ∀ s, Red s → act s (tog a b) = act s (a ++ b) := fun s hs => by
    unfold tog
    rw [act_norm hs ha.rev hb.1, List.reverse_reverse, act_append]
  have e3 : act [] (inv (tog a b)) = act [] (inv (a ++ b)) := by
    have r1 := act_red (s := []) Red.nil (inv_nz hr.1)
    have h1 := act_inv2 (w := tog a b) Red.nil hr.1
    rw [k _ r1] at h1
    have h2 := act_inv (w := a ++ b) r1 nz
    rw [h1] at h2
    exact h2.symm
  rw [e1, inv_append, e2] at e3
  have := congrArg List.reverse e3
  rw [List.reverse_reverse] at this
  exact this
end VL

/-! VT: more facts for readings. -/
namespace VL
open PySem PySem.Spec PySem.PyData PyProof.Rows L2
theorem shp_ints (l : List Int) : shp (intsD l) = true := (shD_maps shD_int l).shp (by decide)
theorem shp_cell (c : Ce) : shp (cellD c) = true := (shD_cell c).shp (by decide)
theorem tyn : tyD .none ≠ "object" := by simp [tyD]
theorem eqv_ints (a b : List Int) : eqv (intsD a) (intsD b) = decide (a = b) := eqv_lists eqv_int a b
@[reducible] def intssD (ws : List (List Int)) : D := .list (ws.map intsD)
theorem shp_intss (ws : List (List Int)) : shp (intssD ws) = true := (shD_maps (fun l => shD_maps shD_int l) ws).shp (by decide)
theorem eqv_intss (a b : List (List Int)) : eqv (intssD a) (intssD b) = decide (a = b) := eqv_lists eqv_ints a b
/-- an equality asked: its two ways -/
theorem eqI {α : Type} [DecidableEq α] {f : α → D} (hf : ∀ a b, eqv (f a) (f b) = decide (a = b)) {a b : α} {p q : Prop} (h1 : a = b → p) (h2 : a ≠ b → q) : if (eqv (f a) (f b)) = true then p else q := by
  rw [hf]
  by_cases h : a = b
  · rw [decide_eq_true h, if_pos rfl]; exact h1 h
  · rw [decide_eq_false h, if_neg Bool.false_ne_true]; exact h2 h
theorem eqT {d e : D} {p q : Prop} (h : eqv d e = true) (h1 : p) : if (eqv d e) = true then p else q := by rw [if_pos h]; exact h1
theorem neF {d e : D} {p q : Prop} (h : eqv d e = true) (h1 : q) : if (!(eqv d e)) = true then p else q := by rw [h, if_neg (by decide)]; exact h1
theorem eqv_ints_t {a b : List Int} (h : a = b) : eqv (intsD a) (intsD b) = true := (eqv_ints a b).trans (decide_eq_true h)
theorem eqv_intss_t {a b : List (List Int)} (h : a = b) : eqv (intssD a) (intssD b) = true := (eqv_intss a b).trans (decide_eq_true h)
/-! ### several values to slots that share -/
section
variable {X : Cx} {e : Expr} {es : List Expr} {fa : WE} {K : PySem.W.Frag}
def ImMs (K : PySem.W.Frag) (t : TA) (l : Tg) (f : WM) : Prop := ∀ {M B : AV} {G : List (V × D)} {H0 H : Hp} {own own' : Nat → Option Addr} {en en' : En} {σ σ' : L2.St} {P : En → Prop} {Q : List V → Hp → Prop},
  VI K M B G H0 own en σ H → VI K M B G H0 own' en' σ' H → (∀ j a, own' j = some a → own j = some a) → f en en' P → (∀ own2 en2 vs H', vs.length = l.length → Same H H' → VI K M B G H0 own2 en2 (setV l vs σ') H' → P en2 → Q vs H') → t σ H Q
structure VMs (X : Cx) (es : List Expr) (l : Tg) (f : WM) : Prop where
  ex : ∃ t, PA X es t ∧ ImMs X.K t l f
@[reducible] def mConsS (i : Nat) (fe : WE) (g : WM) : WM := fun en en' P => fe en fun r => (r.k.clean || flat r.d) = true ∧ put i (.sh r.d) en' fun en2 => g en en2 P
theorem vms_nil : VMs X [] [] mNil := ⟨⟨_, pa_nil, fun I J _ hf k => k _ _ [] _ rfl (.refl _) J hf⟩⟩
theorem own0_sub {own own' : Nat → Option Addr} (h : ∀ j a, own' j = some a → own j = some a) (i : Nat) : ∀ j a, own0 own' i j = some a → own j = some a := fun j a e => by
  unfold own0 at e
  split at e
  · cases e
  · exact h j a e
theorem av_sub {own own' : Nat → Option Addr} {B : AV} (h : ∀ j a, own' j = some a → own j = some a) (b : Addr) (z : av own' B b) : av own B b := by
  rcases z with z | ⟨j, z⟩
  · exact .inl z
  · exact .inr ⟨j, h j b z⟩
theorem vms_cons {l : Tg} {gm : WM} (i : Nat) (h : VE X e fa) (hr : VMs X es l gm) (hs : starEach (e :: es) X.env = (false, eval e X.env) :: starEach es X.env := by rfl) : VMs X (e :: es) ((false, i) :: l) (mConsS i fa gm) := by
  obtain ⟨t, p, im⟩ := h.ex
  obtain ⟨t2, p2, im2⟩ := hr.ex
  refine ⟨⟨_, pa_cons p p2 hs, ?_⟩⟩
  intro M B G H0 H own own' en en' σ σ' P Q I J hj hf k
  refine im I hf fun r v H1 h1 s1 k1 => ?_
  obtain ⟨hi, hp2⟩ := put_lt h1.2
  have J2 := (J.same s1).setSh hi ((k1.rpC I s1 h1.1).mv (mv_weak fun b z => av_sub hj b z))
  exact im2 (I.same s1) J2 (own0_sub hj i) hp2 fun own3 en3 vs H3 hl s3 J3 h3 => k _ _ (v :: vs) _ (by simp [hl]) (s1.trans s3) J3 h3
theorem vms_first {l : Tg} {gm : WM} (i : Nat) (h : VE X e fa) (hr : VMs X es l gm) (hs : starEach (e :: es) X.env = (false, eval e X.env) :: starEach es X.env := by rfl) : VM1 X (e :: es) ((false, i) :: l) (mConsS i fa gm) := by
  obtain ⟨t, p, im⟩ := (vms_cons i h hr hs).ex
  exact ⟨⟨t, p, fun I hf k => im I I (fun _ _ e => e) hf k⟩⟩
end
theorem rgC_up {a b c : Int} (ha : -(2 ^ 60) ≤ a) (hb : b < 2 ^ 60) (hb0 : -(2^60) ≤ b) (ha2 : a < 2 ^ 60) (hc : 0 < c) (hc2 : c < 1073741824) : ∃ n : Nat, RgC a b c n ∧ (∀ k : Nat, k < n → a + (k : Int) * c < b) ∧ n ≤ (b - a).toNat ∧ (a < b → 0 < n) := by
  by_cases h : a < b
  · have q0 : 0 ≤ (b - a - 1) / c := Int.ediv_nonneg (by omega) (by omega)
    have q1 : c * ((b - a - 1) / c) ≤ b - a - 1 := Int.mul_ediv_self_le (by omega)
    have q2 : (b - a - 1) / c ≤ b - a - 1 := Int.ediv_le_self _ (by omega)
    have e : Builtin.Range.rangeSize a b c = (b - a - 1) / c + 1 := by
      unfold Builtin.Range.rangeSize; rw [if_pos hc, if_pos h]
    refine ⟨((b - a - 1) / c + 1).toNat, ⟨by omega, by omega, ?_, by rw [e]; omega⟩, fun k hk => ?_, by omega, by omega⟩
    · unfold Builtin.Range.small
      rw [e]
      generalize (b - a - 1) / c = q at *
      simp only [Builtin.Range.rangeFitsLong, Bool.and_eq_true, Bool.or_eq_true, decide_eq_true_eq, beq_iff_eq]
      rw [if_pos (show c > 0 from hc)]
      simp only [Bool.and_eq_true, decide_eq_true_eq]
      omega
    · have : (k : Int) ≤ (b - a - 1) / c := by omega
      have := Int.mul_le_mul_of_nonneg_left this (show 0 ≤ c by omega)
      rw [Int.mul_comm (k : Int)]
      omega
  · have e : Builtin.Range.rangeSize a b c = 0 := by
      unfold Builtin.Range.rangeSize; rw [if_pos hc, if_neg h]
    refine ⟨0, ⟨by omega, by omega, ?_, by rw [e]; rfl⟩, fun k hk => by omega, by omega, fun z => absurd z h⟩
    unfold Builtin.Range.small
    rw [e]
    simp only [Builtin.Range.rangeFitsLong, Bool.and_eq_true, Bool.or_eq_true, decide_eq_true_eq, beq_iff_eq]
    rw [if_pos (show c > 0 from hc)]
    simp only [Bool.and_eq_true, decide_eq_true_eq]
    omega
theorem rngC_map (a c : Int) (n : Nat) : rngC a c n = (List.range n).map fun i => .int (a + (i : Nat) * c) := rfl
/-- enumerate over a map -/
theorem map_snoc {α β : Type} (f : α → β) (xs : List α) (y : α) : xs.map f ++ [f y] = (xs ++ [y]).map f := by rw [List.map_append]; rfl
theorem at_last {α : Type} (xs : List α) (x : α) : atI (xs ++ [x]) (-1) = some x := atI_last _ _
theorem at_last2 {α : Type} (xs : List α) (x y : α) : atI (xs ++ [x, y]) (-2) = some x := by
  unfold L2.atI ixN
  rw [if_neg (by decide), List.length_append]
  rw [if_pos (by simp; omega)]
  show (xs ++ [x, y])[_]? = _
  rw [show (-2 + (((xs.length + [x, y].length : Nat)) : Int)).toNat = xs.length by simp; omega]
  simp
theorem atI_in {α : Type} {xs : List α} {k : Int} (h1 : -(xs.length : Int) ≤ k) (h2 : k < xs.length) : ∃ x, atI xs k = some x ∧ x ∈ xs := by
  by_cases h0 : 0 ≤ k
  · exact atI_mem h0 h2
  · unfold L2.atI ixN
    rw [if_neg h0, if_pos (by omega)]
    have : (k + xs.length).toNat < xs.length := by omega
    exact ⟨xs[(k + xs.length).toNat], List.getElem?_eq_getElem this, List.getElem_mem _⟩
theorem atI_inD {α : Type} {xs : List α} (f : α → D) {k : Int} (h1 : -(xs.length : Int) ≤ k) (h2 : k < xs.length) : ∃ x, atI (xs.map f) k = some (f x) ∧ x ∈ xs := by
  obtain ⟨x, e, m⟩ := atI_in h1 h2
  exact ⟨x, by rw [atI_map, e]; rfl, m⟩
def chB : List Int → Bool
  | x :: y :: t => (x + y != 0) && chB (y :: t)
  | _ => true
theorem chB_ok : ∀ {w : List Int}, chB w = true → Ch w
  | [], _ => fun a x y b e => by have := congrArg List.length e; simp at this
  | [z], _ => fun a x y b e => by have := congrArg List.length e; simp at this; omega
  | z :: u :: t, h => by
    unfold chB at h
    rw [Bool.and_eq_true] at h
    exact Ch.cons (by simpa using h.1) (chB_ok h.2)
theorem redB {w : List Int} (h : (w.all (· != 0) && chB w) = true) : Red w := by
  rw [Bool.and_eq_true] at h
  exact ⟨fun x hx => by simpa using List.all_eq_true.mp h.1 x hx, chB_ok h.2⟩
theorem kfl_fr {ds : List D} (h : flats ds = true) : kfl ⟨.fr, .list ds⟩ = true := Bool.or_eq_true_iff.mpr (.inr h)
theorem kfl_ints (l : List Int) : kfl ⟨.fr, intsD l⟩ = true := kfl_fr (flats_map (fun _ => rfl) l)
theorem kfl_cells (l : List Ce) : kfl ⟨.fr, cellsD l⟩ = true := kfl_fr (flats_cells l)
theorem kfl_grid (l : Gr) : kfl ⟨.fr, gridD l⟩ = true := kfl_fr (flats_rows l)
/-! ### shapes, by their make -/
def shAll (n : Nat) (ds : List D) : Prop := ∀ d ∈ ds, shD n d
theorem shL_nil {n : Nat} : shAll n [] := nofun
theorem shL_cons {n : Nat} {d : D} {ds : List D} (h : shD n d) (h2 : shAll n ds) : shAll n (d :: ds) := fun x hx => by
  rcases List.mem_cons.mp hx with rfl | hx
  · exact h
  · exact h2 x hx
theorem shL_append {n : Nat} {ds es : List D} (h : shAll n ds) (h2 : shAll n es) : shAll n (ds ++ es) := fun x hx => by
  rcases List.mem_append.mp hx with hx | hx
  · exact h x hx
  · exact h2 x hx
theorem shL_map {α : Type} {f : α → D} {n : Nat} {as : List α} (h : ∀ a, shD n (f a)) : shAll n (as.map f) := fun d hd => by
  obtain ⟨a, _, rfl⟩ := List.mem_map.mp hd
  exact h a
theorem shX_list {n : Nat} {ds : List D} (h : shAll n ds) : shD (n + 1) (.list ds) := shD_list h
theorem shX_tuple {n : Nat} {ds : List D} (h : shAll n ds) : shD (n + 1) (.tuple ds) := shD_tuple h
theorem shX_int {n : Nat} (i : Int) : shD n (.int i) := (shD_int i).mono (Nat.zero_le _)
theorem shX_bool {n : Nat} (i : Bool) : shD n (.bool i) := (shD_bool i).mono (Nat.zero_le _)
theorem shX_none {n : Nat} : shD n .none := shD_none.mono (Nat.zero_le _)
theorem shX_row {n : Nat} (r : List Bool) : shD n (rowD r) := (shD_row r).mono (Nat.zero_le _)
theorem shX_str {n : Nat} {x : Str} (h : strOk x = true) : shD n (.str x) := (shD_str h).mono (Nat.zero_le _)
theorem shX_sg {n : Nat} (b : Bool) : shD n (sgD b) := shX_str (S_ok fun c hc => by rw [List.mem_singleton.mp hc]; exact sg_lt b)
theorem pre_lt {α : Type} {xs pre post : List α} {x : α} (e : xs = pre ++ x :: post) : pre.length < xs.length := by rw [e]; simp
theorem rng_at {n i : Nat} {pre post : List Nat} (e : List.range n = pre ++ i :: post) : i = pre.length ∧ i < n := by
  have h : i < n := List.mem_range.mp (by rw [e]; simp)
  have h2 := congrArg (fun l => l[pre.length]?) e
  simp at h2
  have := List.getElem?_eq_some_iff.mp h2
  simp at this
  exact ⟨this.2.symm, h⟩
end VL

/-! VU: dicts whose keys are tuples: made, stored into, sorted. -/
namespace VL
open PySem PySem.Spec PyProof.Rows L2
section
variable {X : Cx} {a b c e k v : Expr} {pos pos' : Pos} {fa fb fk fv : WE} {K : PySem.W.Frag} {tk tv : TE}
/-- {k: v}, k a tuple -/
def tDisp1 (tk tv : TE) : TE := fun σ H Q => ∀ p, H p = none → tk σ (upd H p (.dT [])) fun x H1 => tv σ H1 fun y H2 => H2 p = some (.dT []) ∧ ∃ (ks : List Key) (b : Addr), x = .ref b ∧ H2 b = some (.tup (ks.map kV)) ∧ Q (.ref p) (upd H2 p (.dT [(ks, y)]))
theorem pe_disp1T (hu : X.A.units + 1 < cLine) (hk : PE X k tk) (hv : PE X v tv) : PE X (.Dict [some k] [v] pos) (tDisp1 tk tv) := by
  refine ⟨fun pins s σ H Q I q => ?_⟩
  have hn := I.hok.fresh (Nat.le_refl s.heap.objs.size)
  have I1 := I.laid (a := s.heap.objs.size) (o := .dT []) (h' := s.heap.push { cls := .type "dict", data := .dict #[] }) (t' := s.toks) (fun _ _ q => Heap.get?_push_of_some _ q) (Nat.le_refl _) (dt_empty s.heap I.big)
  have hshape := zip_pairTrees [some k] [v] X.env pos rfl rfl
  rw [arm_eval_Dict, hshape, dictDisplay_pairs (pairTrees [some k] [v] X.env pos) (by intro z; have := congrArg List.length z; rw [pairTrees_length _ _ _ _ rfl rfl] at this; exact nomatch this) (by rw [pairTrees_length _ _ _ _ rfl rfl]; show 1 < 17; decide)]
  refine wpAny_bind (wpAny_standAt (wpAny_bind (wpAny_subDictH (knd := tupleKind (mixKind X.prog X.w)) (show X.A.units < cLine by omega) (by rw [pairTrees_length [some k] [v] X.env pos rfl rfl]; show 1 ≤ 15; decide)
    (pairTrees_cons_walk (thn (hk.run pins _ σ _ _ I1 (q _ hn)) fun u s1 ⟨x, H1, I2, rx, q1⟩ => thn (hv.run pins s1 σ H1 _ I2 q1) fun w2 s2 ⟨y, H2, I3, ry, ep, ks, b, ex, eb, q2⟩ => pairTrees_nil_walk ?_)))))
  subst ex
  cases (show u = Value.ref b from rx)
  obtain ⟨z, hd, xs, rel, dd⟩ := dt_of I3.hok ep
  cases rel
  refine ⟨[(ks, b, w2)], ⟨rfl, rfl, key_of I3.hok eb, trivial⟩, dd, fun h' tk dd' hs => wpAny_pure ?_⟩
  obtain ⟨o, es, ep', hq, h2, h3, h4, _, h5⟩ := dd'
  have new : ObjOk X.prog X.w (upd H2 s.heap.objs.size (.dT [(ks, y)])) h' s.heap.objs.size (.dT [(ks, y)]) := by
    refine ⟨by show 1 ≤ _; decide, hd, [(ks, b, w2)], .cons ⟨rfl, ?_, ry⟩ .nil, o, es, ep', hq, h2, h3, h4, h5⟩
    show upd H2 _ _ b = _
    rw [upd_ne (ne_of eb ep (fun z => nomatch z))]
    exact eb
  exact ⟨.ref _, _, d_write I3 (by rw [ep]; exact True.intro) hs ⟨o, hq⟩ new, rfl, q2⟩
end
/-! ### sorted(d), d's keys pairs of ints -/
section
variable {prog : Program} {w : World} {A : Around}
theorem walks_raw (hh : A.handled = none) (I d : Addr) (hne : d ≠ I) (es : Array DictEntry) (ep : Nat) :
    Walks prog w A I [I, d] [I] es.size (fun i v => ∃ en, es[i]? = some en ∧ v = en.key) (fun i h => h.IsKeyIter I d i es.size ep ∧ ∃ o, h.get? d = some o ∧ o.ExactDict ∧ o.data = .dict es ep) where
  sub := fun b hb => by simp at hb; simp [hb]
  frame := fun _ _ _ st hk => ⟨st.1.at fun o e => hk I (by simp) o e, by obtain ⟨o, h1, h2⟩ := st.2; exact ⟨o, hk d (by simp) o h1, h2⟩⟩
  item := fun i s Q E hi st hQ => by
    obtain ⟨o, h1, h2, h3⟩ := st.2
    refine next_key_item st.1 h1 h3 rfl (Array.getElem?_eq_getElem hi) fun h' st' sb => ?_
    exact hQ _ h' s.toks ⟨_, Array.getElem?_eq_getElem hi, rfl⟩ ⟨st', o, (sb.2 d hne).trans h1, h2, h3⟩ fun b ob hb e => (sb.2 b (fun z => hb (by simp [z]))).trans e
  done := fun s Q E st hQ => by
    obtain ⟨o, h1, h2, h3⟩ := st.2
    exact next_key_end hh st.1 h1 h3 rfl (Nat.le_refl _) fun h' eb => hQ h' s.toks fun b ob hb e => eb b ob (fun z => hb (by simp [z])) e
  self := fun _ _ _ _ st hQ => wpAny_pyIter_keyiter st.1 hQ
theorem kdl_raw {d : Addr} {es : Array DictEntry} {ep : Nat} (lo : (d == sysModules) = false) : PySem.W.KdlSrc prog w "dict" d d es.size (fun i v => ∃ en, es[i]? = some en ∧ v = en.key) (fun h => ∃ o, h.get? d = some o ∧ o.ExactDict ∧ o.data = .dict es ep) where
  type := fun _ hm => let ⟨o, h1, h2, _⟩ := hm; ⟨o, h1, h2.1⟩
  there := fun _ hm => let ⟨o, h1, _⟩ := hm; ⟨Heap.lt_size h1, Heap.lt_size h1⟩
  keep := fun _ _ hm hk => let ⟨o, h1, h2⟩ := hm; ⟨o, hk d (.inl rfl) o h1, h2⟩
  notList := by decide
  notTuple := by decide
  hint := fun _ _ _ _ hm hq => let ⟨o, h1, h2, _⟩ := hm; PySem.W.kdl_hint_dict ⟨o, h1, h2.1⟩ hq
  iter := fun _ s hh hm => by
    obtain ⟨o, h1, h2, h3⟩ := hm
    exact ⟨_, _, (fun _ _ hq => iter_keys lo h1 h2 h3 hq), walks_raw hh _ d (Nat.ne_of_lt (Heap.lt_size h1)) es ep, ⟨_, Heap.get?_push_size _ rfl, rfl, rfl⟩, o, Heap.get?_push_of_some _ h1, h2, h3⟩
end
/-- the pair that a tracked tuple is -/
def pairAt (H : Hp) : V → Int × Int
  | .ref q => match H q with
    | some (.tup [.int i, .int j]) => (i, j)
    | _ => (0, 0)
  | _ => (0, 0)
def rSortedDT : List V → Hp → VK → Prop := fun vs H Q => ∃ (a : Addr) (kvs : List (List Key × V)), vs = [.ref a] ∧ Rd H a (.dT kvs) ∧ (∀ p ∈ kvs, ∃ i j, p.1 = [.inl i, .inl j]) ∧
  ∀ (ys : List V) (p : Addr), SrtO.Srtd (ltP (pairAt H)) ys → (∀ y ∈ ys, ∃ q, y = .ref q ∧ H q = some (.tup [.int (pairAt H y).1, .int (pairAt H y).2])) → (ys.map fun y => [Sum.inl (pairAt H y).1, Sum.inl (pairAt H y).2]).Perm (kvs.map (·.1)) → H p = none → Q (.ref p) (upd H p (.lst ys))
theorem cr_sortedDT {X : Cx} (hcalm : X.calm = true) : CallR X (.builtin "sorted") rSortedDT := by
  intro pins s σ H xs us Q I r h
  obtain ⟨a, kvs, rfl, hd, hk, q⟩ := h
  obtain ⟨u, rfl, rx⟩ := vals1 r
  cases rx
  obtain ⟨z, lo, ks, pr, o, es, ep, ho, hx, hdt, he, nd⟩ := (show ObjOk X.prog X.w H s.heap a (.dT kvs) from rd_of I.hok hd)
  have l1 : es.size = ks.length := size_of_entries he
  have l2 : kvs.length = ks.length := Paired.length pr
  refine Calls.call_function_entry PyProof.Rows.kind_sorted PyProof.Rows.plain_sorted PyProof.Rows.entry_sorted (PyProof.Rows.args_sorted1 _) ?_
  unfold Builtin.«sorted»
  refine wpAny_bind (m := checkCount "sorted" 1 1 _) (wpAny_pure ?_)
  refine wpAny_bind (PySem.W.kdu_collect (A := X.A.in1) (kdl_raw (es := es) (ep := ep) lo) (I.ok.hd hcalm) ⟨o, ho, hx, hdt⟩ (by rw [l1, ← l2]; exact z) fun h' tk acc hkp hacc => ?_)
  have hal : acc.toList.length = kvs.length := by rw [Array.length_toList, hacc.1, l1, l2]
  have hat : ∀ (j : Nat) (v : Value), acc.toList[j]? = some v → ∃ (q : Addr) (i k : Int), v = .ref q ∧ H q = some (.tup [.int i, .int k]) ∧ (kvs.map (·.1))[j]? = some [Sum.inl i, Sum.inl k] := by
    intro j v e
    obtain ⟨en, e1, e2⟩ := hacc.2 j v (by rw [← Array.getElem?_toList]; exact e)
    have hj : j < kvs.length := by
      have := (List.getElem?_eq_some_iff.mp e).1
      omega
    obtain ⟨b, hb, p1, p2, p3⟩ := paired_get pr (List.getElem?_eq_getElem hj)
    have q := entry_at he j
    rw [hb] at q
    rw [q] at e1
    cases e1
    obtain ⟨i, k, e3⟩ := hk _ (List.getElem_mem hj)
    refine ⟨b.2.1, i, k, e2, ?_, ?_⟩
    · rw [p2, e3]; rfl
    · rw [List.getElem?_map, List.getElem?_eq_getElem hj, ← e3]; rfl
  have I1 : Inv X pins σ H { s with heap := h', toks := tk } := I.kept hkp
  have hz : acc.toList.length ≤ sizeLine := by rw [hal]; exact z
  have hpair : ∀ v ∈ acc.toList, ∃ q, v = .ref q ∧ H q = some (.tup [.int (pairAt H (backV v)).1, .int (pairAt H (backV v)).2]) := fun v hv => by
    obtain ⟨j, hj, e⟩ := List.mem_iff_getElem.mp hv
    obtain ⟨q, i, k, rfl, hq, _⟩ := hat j v (by rw [List.getElem?_eq_getElem hj, e])
    refine ⟨q, rfl, ?_⟩
    show H q = some (.tup [.int (pairAt H (.ref q)).1, .int (pairAt H (.ref q)).2])
    simp only [pairAt, hq]
  refine wpAny_bind (wpAny_newList ?_ hz)
  have hoL : (h'.push (seqObj "list" acc.toList.toArray 0)).get? h'.objs.size = some (seqObj "list" acc.toList.toArray 0) := Heap.get?_push_size _ rfl
  show wpAny _ _ _ _ _ { s with heap := h'.push (seqObj "list" acc.toList.toArray 0), toks := tk }
  refine wpAny_bind (wpAny_holding (wpAny_call_entry PyProof.Rows.slot_list_sort ⟨_, hoL, rfl⟩ PyProof.Rows.entry_list_sort
    (SrtO.list_sort_ord (SrtO.swo_lex fun v => pairAt H (backV v)) (s := { s with heap := h'.push (seqObj "list" acc.toList.toArray 0), toks := tk }) hoL hz (fun h2 => ?_) fun out hs hb => ⟨_, rfl, ?_⟩) (PyProof.Rows.args_list_sort _)))
  · have I2 : Inv X pins σ H { s with heap := h'.push (seqObj "list" acc.toList.toArray 0), toks := tk } := I1.kept (t' := tk) fun b ob e => Heap.get?_push_of_some _ e
    refine SrtO.pairs_sortableO (by omega) (fun v hv => ?_) (fun ob e => ?_)
    · obtain ⟨t, rfl, ht⟩ := hpair v hv
      obtain ⟨_, its2, r2, ob, ho', hc, n, hd'⟩ := I2.hok _ _ ht
      obtain ⟨u1, u2, rfl, ri, rj⟩ := vals2 r2
      obtain ⟨t1, rfl⟩ := ri
      obtain ⟨t2, rfl⟩ := rj
      exact ⟨t, ob, t1, t2, n, rfl, ho', hc, hd'⟩
    · have e' : some ob = some (seqObj "list" acc.toList.toArray 0) := e.symm.trans hoL
      cases e'
      intro c
      exact absurd (Value.type.inj c) (by decide)
  · obtain ⟨e', he'⟩ := PyProof.Rows.sortedHeap_at (vs := acc.toList) (out := out.toArray) hoL
    have hp : out.Perm acc.toList := hb.perm
    have h3 : ∀ u ∈ out, ∃ a, u = Value.ref a := fun u hu => by
      obtain ⟨q, e, _⟩ := hpair u (hp.mem_iff.mp hu)
      exact ⟨q, e⟩
    have hlen : (out.map backV).length ≤ sizeLine := by rw [List.length_map, hp.length_eq]; exact hz
    have hkeys : acc.toList.map (fun v => ([Sum.inl (pairAt H (backV v)).1, Sum.inl (pairAt H (backV v)).2] : List Key)) = kvs.map (·.1) := by
      apply List.ext_getElem?
      intro j
      rw [List.getElem?_map]
      cases e : acc.toList[j]? with
      | none =>
        have := List.getElem?_eq_none_iff.mp e
        rw [List.getElem?_eq_none_iff.mpr (by rw [List.length_map]; omega)]
        rfl
      | some v =>
        obtain ⟨q, i, k, rfl, hq, e3⟩ := hat j v e
        rw [e3]
        show some [Sum.inl (pairAt H (.ref q)).1, Sum.inl (pairAt H (.ref q)).2] = _
        simp only [pairAt, hq]
    refine wpAny_pure ⟨_, rfl, .ref h'.objs.size, upd H h'.objs.size (.lst (out.map backV)), I1.laid (t' := tk) (fun b u e => ?_) (Nat.le_refl _)
      (show ObjOk X.prog X.w _ _ _ (.lst (out.map backV)) from ⟨hlen, out, e', vals_back h3, he'⟩), rfl, q (out.map backV) _ (SrtO.srtd_map hs) (fun y hy => ?_) ?_ (I1.hok.fresh (Nat.le_refl _))⟩
    · have hb : b < h'.objs.size := Heap.lt_size e
      rw [PyProof.Rows.sortedHeap_old (Nat.ne_of_lt hb) (by rw [size_push']; exact Nat.lt_succ_of_lt hb)]
      exact Heap.get?_push_of_some _ e
    · obtain ⟨v, hv, rfl⟩ := List.mem_map.mp hy
      obtain ⟨t, rfl, ht⟩ := hpair v (hp.mem_iff.mp hv)
      exact ⟨t, rfl, ht⟩
    · rw [List.map_map, ← hkeys]
      exact hp.map _
/-! ### the same on data -/
section
variable {X : Cx} {a b c e k v : Expr} {pos pos' : Pos} {fa fb fk fv : WE} {K : PySem.W.Frag}
theorem RpT.pairs {H : Hp} {A : AV} : ∀ {kvs : List (List Key × V)} {es : List (D × D)} {cs : List Ce}, RpT K H A kvs es → es.map (·.1) = cs.map cellD → kvs.map (·.1) = cs.map fun c => [Sum.inl c.1, Sum.inl c.2]
  | _, _, [], .nil, _ => rfl
  | _, _, _ :: _, .nil, h => nomatch h
  | _, _, [], .cons _ _, h => nomatch h
  | _, _, c :: cs, .cons (k := q) r t, h => by
    simp only [List.map_cons, List.cons.injEq] at h ⊢
    refine ⟨?_, RpT.pairs t h.2⟩
    have h1 := h.1
    have hi : ∀ (i : Key) (z : Int), keyD i = .int z → i = Sum.inl z := fun i z e => by
      cases i with
      | inl j => exact congrArg Sum.inl (D.int.inj e)
      | inr y => exact nomatch e
    match q, h1 with
    | [], h1 => exact nomatch h1
    | [i], h1 => simp [tkeyD] at h1
    | [i, j], h1 =>
      simp only [tkeyD, List.map_cons, List.map_nil, D.tuple.injEq, List.cons.injEq, and_true] at h1
      rw [hi i _ h1.1, hi j _ h1.2]
    | i :: j :: l :: r, h1 => simp [tkeyD] at h1
def cLt (a b : Ce) : Bool := SrtO.lexB a b
/-- sorted(d): its keys, rising -/
@[reducible] def gSortedD : GC := fun rs P => match dls rs with
  | [.dicT es] => ∃ cs : List Ce, es.map (·.1) = cs.map cellD ∧ ∀ ys : List Ce, ys.Perm cs → ys.Pairwise (fun x y => cLt y x = false) → P ⟨.fr, cellsD ys⟩
  | _ => False
theorem calli_sortedD : CallI K rSortedDT gSortedD := by
  intro M B G H0 Hs H own en σ rs vs P Q I s k1 h k
  unfold gSortedD at h
  split at h
  · rename_i es e
    obtain ⟨cs, hes, h⟩ := h
    obtain ⟨v, rfl, r⟩ := k1.one I s e
    cases r with
    | dT ea n l =>
      have hp := RpT.pairs l hes
      rename_i a kvs
      refine ⟨a, kvs, rfl, .inl ea, fun p hp' => ?_, fun ys p h1 h2 h3 hn => ?_⟩
      · have : p.1 ∈ kvs.map (·.1) := List.mem_map_of_mem hp'
        rw [hp] at this
        obtain ⟨c, _, e⟩ := List.mem_map.mp this
        exact ⟨_, _, e.symm⟩
      · have hl : RpL K H (av own B) ys ((ys.map (pairAt H)).map cellD) := by
          clear h1 h3
          induction ys with
          | nil => exact .nil
          | cons y ys ih =>
            obtain ⟨q, rfl, hq⟩ := h2 y List.mem_cons_self
            exact .cons (.tup hq (.cons (.int _) (.cons (.int _) .nil))) (ih fun z hz => h2 z (List.mem_cons_of_mem _ hz))
        refine k _ _ _ (h (ys.map (pairAt H)) ?_ ?_) (same_upd hn) (fresh_list I s hn hl)
        · rw [hp] at h3
          have h4 := h3.map fun k : List Key => match k with
            | [.inl i, .inl j] => ((i, j) : Ce)
            | _ => (0, 0)
          rw [List.map_map, List.map_map] at h4
          have e1 : (fun k : List Key => match k with
            | [.inl i, .inl j] => ((i, j) : Ce)
            | _ => (0, 0)) ∘ (fun y => [Sum.inl (pairAt H y).1, Sum.inl (pairAt H y).2]) = pairAt H := by funext y; rfl
          have e2 : (fun k : List Key => match k with
            | [.inl i, .inl j] => ((i, j) : Ce)
            | _ => (0, 0)) ∘ (fun c : Ce => [Sum.inl c.1, Sum.inl c.2]) = id := by funext y; rfl
          rw [e1, e2, List.map_id] at h4
          exact h4
        · rw [List.pairwise_map]
          exact h1
  · exact h.elim
theorem ve_dnewT : VE X (.Dict [] [] pos) (fun _ P => P ⟨.fr, .dicT []⟩) := by
  refine ⟨⟨_, pe_dnewT, ?_⟩⟩
  intro M B G H0 H own en σ P Q I hf kk
  exact fun p hp => kk _ _ _ hf (same_upd hp) ⟨p, rfl, hp, [], upd_same, .nil⟩
theorem ve_dnewK : VE X (.Dict [] [] pos) (fun _ P => P ⟨.fr, .dict []⟩) := by
  refine ⟨⟨_, pe_dnewK, ?_⟩⟩
  intro M B G H0 H own en σ P Q I hf kk
  exact fun p hp => kk _ _ _ hf (same_upd hp) ⟨p, rfl, hp, [], upd_same, .nil⟩
@[reducible] def wDisp1 (fk fv : WE) : WE := fun en P => fk en fun rk => fv en fun rv => flat rv.d = true ∧ match rk.d with
  | .tuple ds => (match areKeys ds with
    | some _ => P ⟨.fr, .dicT [(.tuple ds, rv.d)]⟩
    | none => False)
  | _ => False
theorem ve_disp1T {n : Nat} (hr : Room n X.A) (hk : VE X k fk) (hv : VE X v fv) : VE X (.Dict [some k] [v] pos) (wDisp1 fk fv) := by
  obtain ⟨tk, pk, ik⟩ := hk.ex
  obtain ⟨tv, pv, iv⟩ := hv.ex
  refine ⟨⟨_, pe_disp1T (room1 hr) pk pv, ?_⟩⟩
  intro M B G H0 H own en σ P Q I hf kk
  intro p hp
  have s0 : Same H (upd H p (.dT [])) := same_upd hp
  refine ik (I.same s0) hf fun rk x H1 h1 s1 k1 => ?_
  refine iv (I.same (s0.trans s1)) h1 fun rv y H2 h2 s2 k2 => ?_
  have ep : H2 p = some (.dT []) := s2 _ _ (s1 _ _ upd_same)
  obtain ⟨hfl, h2⟩ := h2
  obtain ⟨kd, d⟩ := rk
  refine ⟨ep, ?_⟩
  split at h2
  · rename_i ds e
    cases e
    split at h2
    · rename_i ks hks
      obtain ⟨b, xs, rfl, eb, lb⟩ := (k1.same s2).tupB (I.same s0) (s1.trans s2)
      have ed := areKeys_eq hks
      subst ed
      rw [RpL.keys lb] at eb
      refine ⟨ks, b, rfl, eb, kk _ _ _ h2 (fun c o hc => ?_) ⟨p, rfl, hp, _, upd_same, .cons ?_ .nil⟩⟩
      · have hcp : c ≠ p := ne_of_none hc hp
        rw [upd_ne hcp]
        exact s2 _ _ (s1 _ _ (s0 _ _ hc))
      · have r := (k2.rpB (I.same (s0.trans s1)) s2)
        have r1 : Rp X.K H2 (fun b => b = p) y rv.d := r.flat_any hfl
        exact (r1.mv (mv_upd (A := fun b => b = p) (o := .dT [(ks, y)]) rfl (by rw [ep]; trivial))).flat_any hfl
    · exact h2.elim
  · exact h2.elim
/-! ### d[k] = v of an owned dict -/
def putD (es : List (D × D)) (k v : D) : List (D × D) := if (es.any fun p => keq p.1 k) = true then es.map (fun p => if keq p.1 k = true then (p.1, v) else p) else es ++ [(k, v)]
theorem RpT.put {H : Hp} {A : AV} {ks : List Key} {y : V} {d : D} (ry : Rp K H A y d) {kvs : List (List Key × V)} {es : List (D × D)} (r : RpT K H A kvs es) : RpT K H A (putK kvs ks y) (putD es (tkeyD ks) d) := by
  have e : (kvs.any fun kv => decide (kv.1 = ks)) = es.any fun p => keq p.1 (tkeyD ks) := by
    clear ry
    induction kvs generalizing es with
    | nil => cases r; rfl
    | cons p kvs ih =>
      cases r with
      | cons r t => rw [List.any_cons, List.any_cons, ih t, keq_tkey]
  unfold putK putD
  rw [e]
  by_cases hany : (es.any fun p => keq p.1 (tkeyD ks)) = true
  · rw [if_pos hany, if_pos hany]
    clear e hany
    induction kvs generalizing es with
    | nil => cases r; exact .nil
    | cons p kvs ih =>
      cases r with
      | cons r t =>
        rename_i q v dd ds
        rw [List.map_cons, List.map_cons]
        simp only [keq_tkey]
        by_cases h : q = ks
        · rw [if_pos h, if_pos (decide_eq_true h)]
          exact .cons ry (ih t)
        · rw [if_neg h, if_neg (by rw [decide_eq_false h]; decide)]
          exact .cons r (ih t)
  · rw [if_neg hany, if_neg hany]
    clear e hany
    induction kvs generalizing es with
    | nil => cases r; exact .cons ry .nil
    | cons p kvs ih =>
      cases r with
      | cons r t => exact .cons r (ih t)
theorem VI.mutR {M B : AV} {G : List (V × D)} {H0 H : Hp} {own : Nat → Option Addr} {en : En} {σ : L2.St} (I : VI K M B G H0 own en σ H) {i : Nat} {d0 : D} (he : en[i]? = some (.ow d0)) :
    ∃ p, σ[i]? = some (some (.ref p)) ∧ own i = some p ∧ Rt K H (av own B) p d0 ∧ ∀ (o' : HO) (d' : D), Rt K (upd H p o') (av own B) p d' → VI K M B G H0 own (en.set i (.ow d')) σ (upd H p o') := by
  obtain ⟨p, e1, e2, r0⟩ := I.sl i _ he
  obtain ⟨o0, e3, mu0⟩ := r0.tracked
  have hi : i < en.length := (List.getElem?_eq_some_iff.mp he).1
  refine ⟨p, e2, e1, r0, fun o' d' r' => ?_⟩
  have w : Mv K H (upd H p o') (av own B) (av own B) := mv_upd (.inr ⟨i, e1⟩) (by rw [e3]; exact mu0)
  refine ⟨by simp [I.len], fun b u e n => ?_, fun b e => ?_, fun b xs e => ?_, fun b e => ?_, I.bO, I.nd, I.new, fun j q e => ?_, fun j t e => ?_, fun q hq => (I.gh q hq).mv w⟩
  · have hb : b ≠ p := fun z => by
      rcases I.new i p e1 with h | h
      · rw [z, h] at e; cases e
      · exact n (z ▸ h)
    rw [upd_ne hb]
    exact I.old b u e n
  · by_cases z : b = p
    · rw [z, upd_same]; exact fun y => nomatch y
    · rw [upd_ne z]; exact I.trk b e
  · have hb : b ≠ p := fun z => by
      have := I.tup b xs e
      rw [z, e3] at this
      cases this
      exact mu0
    rw [upd_ne hb]
    exact I.tup b xs e
  · by_cases z : b = p
    · rw [z, upd_same]; exact fun y => nomatch y
    · rw [upd_ne z]; exact I.bT b e
  · by_cases hj : j = i
    · subst hj; exact ⟨_, by rw [List.getElem?_set_self hi]⟩
    · obtain ⟨d', hd⟩ := I.olt j q e
      exact ⟨d', by rw [List.getElem?_set_ne (Ne.symm hj)]; exact hd⟩
  · by_cases hj : j = i
    · subst hj
      rw [List.getElem?_set_self hi] at e
      cases e
      exact ⟨p, e1, e2, r'⟩
    · rw [List.getElem?_set_ne (Ne.symm hj)] at e
      have h := I.sl j t e
      cases t with
      | dead => trivial
      | sh d => obtain ⟨v, e4, r⟩ := h; exact ⟨v, e4, r.mv w⟩
      | ow d =>
        obtain ⟨q, e4, e5, r⟩ := h
        have hq : q ≠ p := fun z => hj (I.nd j i p (by rw [e4, z]) e1)
        exact ⟨q, e4, e5, r.mv w fun o z => by rw [upd_ne hq]; exact z⟩
@[reducible] def sPutD (i : Nat) (fk fv : WE) : WS := fun E en => match gt en i with
  | some (.ow (.dicT es)) => fv en fun rv => (rv.k.clean || flat rv.d) = true ∧ fk en fun rk => (match rk.d with
    | .tuple ds => (match areKeys ds with
      | some _ => es.length < sizeLine ∧ put i (.ow (.dicT (putD es (.tuple ds) rv.d))) en E.nx
      | none => False)
    | _ => False)
  | _ => False
theorem RpT.length {H : Hp} {A : AV} : ∀ {v : List (List Key × V)} {d : List (D × D)}, RpT K H A v d → v.length = d.length
  | _, _, .nil => rfl
  | _, _, .cons _ t => by simp [RpT.length t]
theorem vs_putD {x : Str} {ke ve : Expr} {npos : Pos} {n : Nat} (hr : Room n X.A) (i : Nat) (hk : VE X ke fk) (hv : VE X ve fv) (hN : X.N[i]? = some x := by rfl) (hvis : Vis X.env.scope x := by first | exact Or.inl rfl | exact Or.inr (Or.inl rfl) | exact Or.inr (Or.inr rfl)) (hd : (x == ("__debug__" : Str)) = false := by decide) (hcd : (x == ("__classdict__" : Str)) = false := by decide)
    (hs : swapsWith ve (some (.Subscript (.Name x npos) ke pos')) pos.line X.env = pure false := by rfl) : VS X (.Assign [.Subscript (.Name x npos) ke pos'] ve pos) (sPutD i fk fv) := by
  obtain ⟨tk, pk, ik⟩ := hk.ex
  obtain ⟨tv, pv1, iv⟩ := hv.ex
  refine ⟨⟨_, ps_dput (room1 hr) (pv i hN hvis hd hcd) pk pv1 hs, ?_⟩⟩
  intro M B G H0 H own en σ E F I hf L
  unfold sPutD at hf
  rw [gt_eq] at hf
  split at hf
  · rename_i es hd
    refine iv I hf fun rv v H1 hp s1 k1 => ?_
    obtain ⟨hc, hp⟩ := hp
    have I1 := I.same s1
    have rv1 := k1.rpC I s1 hc
    obtain ⟨p, e2, e1, ⟨kvs, e3, l⟩, _⟩ := I1.mutR hd
    refine ⟨_, e2, ik I1 hp fun rk y H2 hq s2 k2 => ?_⟩
    obtain ⟨kd, d⟩ := rk
    split at hq
    · rename_i ds ek
      cases ek
      split at hq
      · rename_i ks hks
        obtain ⟨p', e2', e1', ⟨kvs', e3', l'⟩, up'⟩ := (I1.same s2).mutR hd
        have ep : p' = p := by rw [e1] at e1'; exact (Option.some.inj e1').symm
        subst ep
        obtain ⟨b, xs, rfl, eb, lb⟩ := k2.tupB I1 s2
        have ed := areKeys_eq hks
        subst ed
        rw [RpL.keys lb] at eb
        refine ⟨p', _, rfl, DPut.t e3' eb (by rw [l'.length]; exact hq.1), L.nx _ _ _ _ (up' _ (.dicT (putD es (tkeyD ks) rv.d)) ⟨_, upd_same, ?_⟩) (put_lt hq.2).2⟩
        have w : Mv X.K H2 (upd H2 p' (.dT (putK kvs' ks v))) (av own B) (av own B) := mv_upd (.inr ⟨i, e1⟩) (by rw [e3']; trivial)
        exact (RpT.put (rv1.mv (mv_same s2)) l').mv w
      · exact hq.elim
    · exact hq.elim
  · exact hf.elim
end
end VL

namespace Mw
open PySem PySem.Spec PyProof.Rows L2 VL
def topS (i : Nat) : Stmt := PySem.Challenge.pw_moorwalk_k24_together.main.body.getD i (.Pass ⟨0, 0, 0, 0⟩)
abbrev s_is_whole : Stmt := topS 4
abbrev N_is_whole : List Str := ["thing"]
theorem S_is_whole : FnScope N_is_whole ["thing"] (defScope s_is_whole) := ⟨rfl, rfl, rfl, by decide +kernel, rfl, by decide +kernel, by decide +kernel⟩
abbrev s_is_word : Stmt := topS 7
abbrev N_is_word : List Str := ["thing", "at", "one"]
theorem S_is_word : FnScope N_is_word ["thing"] (defScope s_is_word) := ⟨rfl, rfl, rfl, by decide +kernel, rfl, by decide +kernel, by decide +kernel⟩
abbrev s_check_word : Stmt := topS 8
abbrev N_check_word : List Str := ["thing"]
theorem S_check_word : FnScope N_check_word ["thing"] (defScope s_check_word) := ⟨rfl, rfl, rfl, by decide +kernel, rfl, by decide +kernel, by decide +kernel⟩
abbrev s_joined : Stmt := topS 9
abbrev N_joined : List Str := ["one", "other", "found", "number"]
theorem S_joined : FnScope N_joined ["one", "other"] (defScope s_joined) := ⟨rfl, rfl, rfl, by decide +kernel, rfl, by decide +kernel, by decide +kernel⟩
abbrev s_together : Stmt := topS 10
abbrev N_together : List Str := ["one", "other"]
theorem S_together : FnScope N_together ["one", "other"] (defScope s_together) := ⟨rfl, rfl, rfl, by decide +kernel, rfl, by decide +kernel, by decide +kernel⟩
abbrev s_undone_of : Stmt := topS 11
abbrev N_undone_of : List Str := ["word", "number"]
theorem S_undone_of : FnScope N_undone_of ["word"] (defScope s_undone_of) := ⟨rfl, rfl, rfl, by decide +kernel, rfl, by decide +kernel, by decide +kernel⟩
abbrev s_undone : Stmt := topS 12
abbrev N_undone : List Str := ["word"]
theorem S_undone : FnScope N_undone ["word"] (defScope s_undone) := ⟨rfl, rfl, rfl, by decide +kernel, rfl, by decide +kernel, by decide +kernel⟩
abbrev s_law_draw : Stmt := topS 14
abbrev N_law_draw : List Str := ["_law_cell", "_law_k", "_law_many", "_law_primes"]
theorem S_law_draw : FnScope N_law_draw ["_law_cell", "_law_k", "_law_many"] (defScope s_law_draw) := ⟨rfl, rfl, rfl, by decide +kernel, rfl, by decide +kernel, by decide +kernel⟩
abbrev s_law_value : Stmt := topS 15
abbrev N_law_value : List Str := ["_law_cell", "_law_turn"]
theorem S_law_value : FnScope N_law_value ["_law_cell", "_law_turn"] (defScope s_law_value) := ⟨rfl, rfl, rfl, by decide +kernel, rfl, by decide +kernel, by decide +kernel⟩
abbrev s_law_joined : Stmt := topS 16
abbrev N_law_joined : List Str := ["_law_one", "_law_other", "_law_found", "_law_number"]
theorem S_law_joined : FnScope N_law_joined ["_law_one", "_law_other"] (defScope s_law_joined) := ⟨rfl, rfl, rfl, by decide +kernel, rfl, by decide +kernel, by decide +kernel⟩
abbrev s_law_undone : Stmt := topS 17
abbrev N_law_undone : List Str := ["_law_word", "_law_number"]
theorem S_law_undone : FnScope N_law_undone ["_law_word"] (defScope s_law_undone) := ⟨rfl, rfl, rfl, by decide +kernel, rfl, by decide +kernel, by decide +kernel⟩
abbrev s_law_whole : Stmt := topS 18
abbrev N_law_whole : List Str := ["_law_number"]
theorem S_law_whole : FnScope N_law_whole ["_law_number"] (defScope s_law_whole) := ⟨rfl, rfl, rfl, by decide +kernel, rfl, by decide +kernel, by decide +kernel⟩
abbrev s_law_are_numbers : Stmt := topS 19
abbrev N_law_are_numbers : List Str := ["_law_found", "_law_one"]
theorem S_law_are_numbers : FnScope N_law_are_numbers ["_law_found"] (defScope s_law_are_numbers) := ⟨rfl, rfl, rfl, by decide +kernel, rfl, by decide +kernel, by decide +kernel⟩
abbrev s_law_drawn_word : Stmt := topS 20
abbrev N_law_drawn_word : List Str := ["_law_cell", "_law_many", "_law_most", "_law_found", "_law_turn", "_law_drawn"]
theorem S_law_drawn_word : FnScope N_law_drawn_word ["_law_cell", "_law_many", "_law_most"] (defScope s_law_drawn_word) := ⟨rfl, rfl, rfl, by decide +kernel, rfl, by decide +kernel, by decide +kernel⟩
abbrev s_law : Stmt := topS 21
abbrev N_law : List Str := ["_law_script", "_law_words", "_law_k", "_law_at", "_law_one", "_law_other", "_law_third", "_law_handed", "_law_again", "_law_found", "_law_away"]
theorem S_law : FnScope N_law ["_law_script"] (defScope s_law) := ⟨rfl, rfl, rfl, by decide +kernel, rfl, by decide +kernel, by decide +kernel⟩
variable {P : Program} {w : World} {K : PySem.W.Frag} {mg : Str → Option Value} {base : Heap}
local macro_rules | `(tactic| walk_at "w") => `(tactic| with_reducible conv => whnf)
local macro_rules | `(tactic| walk_at "shp") => `(tactic| ((refine VL.shD.shp (n := 8) ?_ (by decide)); (repeat' (first | with_reducible exact shX_int _ | with_reducible exact shX_bool _ | with_reducible exact shX_row _ | with_reducible exact shX_sg _ | with_reducible exact shX_none | with_reducible exact shL_nil | with_reducible apply shL_cons | with_reducible apply shL_append | with_reducible apply shL_map | with_reducible apply shX_list | with_reducible apply shX_tuple | with_reducible intro _ | with_reducible assumption | exact shX_str rfl))))
local macro_rules | `(tactic| walk_at "sz") => `(tactic| (simp only [List.length_map, List.length_append, List.length_reverse, List.length_singleton, List.length_cons, List.length_nil, List.length_range, List.length_take, List.length_drop, List.length_dropLast, inv_length]; omega))
local macro_rules | `(tactic| walk_at "side") => `(tactic| first | with_reducible rfl | ((with_reducible show VL.shp _ = true); (walk_at "shp")) | with_reducible exact le_sz rfl | with_reducible exact tyl _ | with_reducible exact tyi _ | with_reducible exact tyt _ | with_reducible exact tys _ | with_reducible exact tyb _ | with_reducible exact tyn | with_reducible exact cpow_1018 | with_reducible assumption | ((fail_if_success (with_reducible show VL.shp _ = true)); (exact rfl)) | ((with_reducible show VL.kfl _ = true); (first | exact kfl_ints _ | exact kfl_cells _ | exact kfl_grid _)) | exact (show (0 : Int) < _ from by decide) | exact ⟨by decide, by decide⟩ | omega | (walk_at "sz"))
local macro_rules | `(tactic| walk_at "go1") => `(tactic| first | refine And.intro (by walk_at "side") ?_ | (refine ifT rfl ?_) | (refine ifF Bool.false_ne_true ?_) | rw [at2_0] | rw [at2_1] | rw [at_last])
local macro_rules | `(tactic| walk_at "go") => `(tactic| ((repeat (walk_at "w"; walk_at "go1")); (try walk_at "w")))

def sp_law_draw : DS := fun ds Q => ∃ (c k m : Int), ds = [.int c, .int k, .int m] ∧ 0 < m ∧ ∀ r : Int, 0 ≤ r → r < m → Q false (.int r)
theorem ok_law_draw (F : Dfn K mg "_law_draw" s_law_draw ["_law_cell", "_law_k", "_law_many"]) : Cal P w K mg base 1 "_law_draw" ["_law_cell", "_law_k", "_law_many"] sp_law_draw := by
  have nd := S_law_draw.nd
  refine vokC F S_law_draw (fun ds Q h => ?_) (fun f cdv A outer s H E hr => ⟨_, (vss_cons (vs_set (i := 3) nd rfl (Or.inl rfl) (ve_tup (va_cons ve_int (va_cons ve_int (va_cons ve_int (va_cons ve_int (va_cons ve_int (va_cons ve_int (va_cons ve_int (va_cons ve_int (va_cons ve_int (va_cons ve_int (va_cons ve_int (va_cons ve_int (va_cons ve_int (va_cons ve_int (va_cons ve_int (va_cons ve_int va_nil))))))))))))))))))
      (vss_one (vs_ret (ve_mod (ve_mod (ve_add (ve_mul (ve_var 0) ve_int) (ve_mul (ve_var 1) ve_int)) (ve_ix (ve_var 3) (ve_mod (ve_var 1) ve_int))) (ve_var 2))))), fun ds Q h => ?_⟩)
  · obtain ⟨c, k, m, rfl, _⟩ := h
    rfl
  · obtain ⟨c, k, m, rfl, hm, q⟩ := h
    rw [show startE N_law_draw [.int c, .int k, .int m] = [.sh (.int c), .sh (.int k), .sh (.int m), .dead] from rfl]
    have cm : ∀ i j : Int, -2 ^ 64 < j → j < 2 ^ 64 → CMul i j := fun i j h h2 => .inr ⟨h, h2⟩
    walk_at "w"
    refine ⟨le_sz rfl, ?_⟩
    walk_at "w"
    refine ⟨rfl, ?_⟩
    walk_at "w"
    refine ⟨cm _ _ (by decide) (by decide), ?_⟩
    walk_at "w"
    refine ⟨cm _ _ (by decide) (by decide), ?_⟩
    walk_at "w"
    refine ⟨show (0 : Int) < 16 from by decide, ?_⟩
    have z1 := Int.emod_nonneg k (b := 16) (by decide)
    have z2 := Int.emod_lt_of_pos k (b := 16) (by decide)
    obtain ⟨p, e1, e2⟩ := atI_mem (xs := ([1000003, 1000033, 1000037, 1000039, 1000081, 1000099, 1000117, 1000121, 1000133, 1000151, 1000159, 1000171, 1000183, 1000187, 1000193, 1000199] : List Int)) (k := k % 16) z1 z2
    have e3 : 0 < p := (by decide : ∀ p ∈ ([1000003, 1000033, 1000037, 1000039, 1000081, 1000099, 1000117, 1000121, 1000133, 1000151, 1000159, 1000171, 1000183, 1000187, 1000193, 1000199] : List Int), 0 < p) p e2
    have e4 : atI [D.int 1000003, D.int 1000033, D.int 1000037, D.int 1000039, D.int 1000081, D.int 1000099, D.int 1000117, D.int 1000121, D.int 1000133, D.int 1000151, D.int 1000159, D.int 1000171, D.int 1000183, D.int 1000187, D.int 1000193, D.int 1000199] (k % 16) = some (.int p) := by
      have e5 := atI_map D.int ([1000003, 1000033, 1000037, 1000039, 1000081, 1000099, 1000117, 1000121, 1000133, 1000151, 1000159, 1000171, 1000183, 1000187, 1000193, 1000199] : List Int) (k % 16)
      rw [e1] at e5
      exact e5
    walk_at "w"
    simp only [dls]
    rw [e4]
    walk_at "w"
    refine ⟨e3, ?_⟩
    walk_at "w"
    refine ⟨hm, ?_⟩
    exact q _ (Int.emod_nonneg _ (by omega)) (Int.emod_lt_of_pos _ hm)

theorem p1018 : (10 : Int) ^ Int.toNat 18 = 1000000000000000000 := by decide
theorem bits_lt {z : Int} (h : Builtin.Int.intBits z ≤ 1048576) : ∃ n : Nat, z.natAbs < 2 ^ n ∧ n ≤ 1048576 := by
  refine ⟨Builtin.Int.intBits z, ?_, h⟩
  unfold Builtin.Int.intBits
  by_cases e : (z == 0) = true
  · rw [if_pos e]
    have : z = 0 := by simpa using e
    subst this
    decide
  · rw [if_neg e]
    exact Nat.lt_log2_self
theorem plus_lt {c k : Int} {n : Nat} (h : c.natAbs < 2 ^ n) (hk : k.natAbs < 2 ^ 30) : (c + k).natAbs < 2 ^ (n + 31) := by
  have h1 : (2 : Nat) ^ (n + 31) = 2 ^ n * 2 ^ 31 := Nat.pow_add ..
  have h2 : 0 < (2 : Nat) ^ n := Nat.pow_pos (by decide)
  rw [h1]
  generalize (2 : Nat) ^ n = t at *
  omega
def sp_law_value : DS := fun ds Q => ∃ (c t : Int) (n : Nat), ds = [.int c, .int t] ∧ c.natAbs < 2 ^ n ∧ n ≤ 1048576 ∧ 0 ≤ t ∧ t ≤ 1000 ∧ ∀ r : Int, 0 ≤ r → Q false (.int r)
theorem ok_law_value (F : Dfn K mg "_law_value" s_law_value ["_law_cell", "_law_turn"]) (c_law_draw : Cal P w K mg base 1 "_law_draw" ["_law_cell", "_law_k", "_law_many"] sp_law_draw) : Cal P w K mg base 2 "_law_value" ["_law_cell", "_law_turn"] sp_law_value := by
  have nd := S_law_value.nd
  refine vokC F S_law_value (fun ds Q h => ?_) (fun f cdv A outer s H E hr => ⟨_, (vss_cons (vs_if (vt_ge (ve_var 0) (ve_pow ve_int ve_int))
        (vss_one (vs_ret (ve_shr (ve_sub (ve_var 0) (ve_pow ve_int ve_int)) (ve_mulX ve_int (ve_var 1)))))
        vss_nil)
      (vss_one (vs_ret (ve_callC c_law_draw hr (by rfl) (va_cons (ve_mulX (ve_add (ve_var 0) (ve_mulX ve_int (ve_var 1))) (ve_add (ve_add (ve_var 0) (ve_mulX ve_int (ve_var 1))) ve_int)) (va_cons (ve_add (ve_mod (ve_var 1) ve_int) ve_int) (va_cons ve_int va_nil))))))), fun ds Q h => ?_⟩)
  · obtain ⟨c, t, n, rfl, _⟩ := h
    rfl
  · obtain ⟨c, t, n, rfl, hc, hn, t1, t2, q⟩ := h
    rw [show startE N_law_value [.int c, .int t] = [.sh (.int c), .sh (.int t)] from rfl]
    have cm2 : ∀ i j : Int, -2 ^ 64 < i → i < 2 ^ 64 → CMulX i j ∨ True := fun _ _ _ _ => .inr trivial
    walk_at "go"
    refine ifI (fun h => ?_) (fun h => ?_)
    · have h3 : (10 : Int) ^ Int.toNat 18 ≤ c := of_decide_eq_true h
      walk_at "go"
      refine ⟨mulx_ok (a := 2) (b := 11) (by decide) (show t.natAbs < 2 ^ 11 by omega) (by decide), ?_⟩
      walk_at "go"
      refine q _ ?_
      show 0 ≤ (c - (10 : Int) ^ Int.toNat 18) / 2 ^ (2 * t).toNat
      exact Int.ediv_nonneg (by omega) (Int.le_of_lt (Int.pow_pos (by decide)))
    · walk_at "go"
      refine ⟨mulx_ok (a := 10) (b := 11) (by decide) (show t.natAbs < 2 ^ 11 by omega) (by decide), ?_⟩
      walk_at "go"
      refine ⟨mulx_ok (a := 10) (b := 11) (by decide) (show t.natAbs < 2 ^ 11 by omega) (by decide), ?_⟩
      walk_at "go"
      have p30 : (2 : Nat) ^ 30 = 1073741824 := by decide
      refine ⟨mulx_ok (plus_lt hc (show (977 * t).natAbs < 2 ^ 30 by omega)) (show (c + 31 * t + 5).natAbs < 2 ^ (n + 31) by rw [Int.add_assoc]; exact plus_lt hc (by omega)) (by omega), ?_⟩
      walk_at "go"
      refine ⟨_, _, _, rfl, by decide, fun d d1 d2 => ?_⟩
      exact q d d1

def sp_is_whole : DS := fun ds Q => ∃ i : Int, ds = [.int i] ∧ Q false (.bool true)
theorem ok_is_whole (F : Dfn K mg "is_whole" s_is_whole ["thing"]) (nb : NB mg ["isinstance", "bool", "int"]) : Cal P w K mg base 1 "is_whole" ["thing"] sp_is_whole := by
  have nd := S_is_whole.nd
  refine vokC F S_is_whole (fun ds Q h => ?_) (fun f cdv A outer s H E hr => ⟨_, (vss_one (vs_ret (ve_and (ve_isi (T := "int") (ve_var 0) (by rfl) (nb "isinstance" (by decide)) (by rfl) (nb "int" (by decide)) (by decide +kernel)) (ve_one (ve_not (ve_isi (T := "bool") (ve_var 0) (by rfl) (nb "isinstance" (by decide)) (by rfl) (nb "bool" (by decide)) (by decide +kernel))))))), fun ds Q h => ?_⟩)
  · obtain ⟨i, rfl, _⟩ := h
    rfl
  · obtain ⟨i, rfl, q⟩ := h
    rw [show startE N_is_whole [.int i] = [.sh (.int i)] from rfl]
    walk_at "w"
    refine ⟨tyi _, ?_⟩
    walk_at "w"
    refine ifT (isT_ii _) ?_
    walk_at "w"
    refine ⟨tyi _, ?_⟩
    show Q false (.bool (!isT (.int i) "bool"))
    rw [isT_ib]
    exact q

theorem ch_at {w : List Int} (h : Ch w) {i : Nat} (hi : i + 1 < w.length) : w.getD i 0 + w.getD (i + 1) 0 ≠ 0 := by
  rw [getD_eq (show i < w.length by omega), getD_eq hi]
  refine h (w.take i) _ _ (w.drop (i + 2)) ?_
  rw [← List.drop_eq_getElem_cons hi, ← List.drop_eq_getElem_cons (show i < w.length by omega), List.take_append_drop]
theorem int_atI {w : List Int} {k : Int} (h0 : 0 ≤ k) (h : k < w.length) : atI (w.map D.int) k = some (.int (w.getD k.toNat 0)) := by
  rw [atI_map, atI_ge h0, List.getElem?_eq_getElem (show k.toNat < w.length by omega), getD_eq (show k.toNat < w.length by omega)]
  rfl
def sp_is_word : DS := fun ds Q => ∃ w : List Int, ds = [intsD w] ∧ w.length ≤ 2000 ∧ Red w ∧ Q false (.bool true)
theorem ok_is_word (F : Dfn K mg "is_word" s_is_word ["thing"]) (c_is_whole : Cal P w K mg base 1 "is_whole" ["thing"] sp_is_whole) (nb : NB mg ["all", "len", "isinstance", "list", "any", "range"]) (g_GREATEST : ∃ t, mg "GREATEST" = some (.int 2000 t)) : Cal P w K mg base 2 "is_word" ["thing"] sp_is_word := by
  have nd := S_is_word.nd
  refine vokC F S_is_word (fun ds Q h => ?_) (fun f cdv A outer s H E hr => ⟨_, (vss_cons (vs_if (vt_bool (vw_or (vt_not (vt_val (ve_isi (T := "list") (ve_var 0) (by rfl) (nb "isinstance" (by decide)) (by rfl) (nb "list" (by decide)) (by decide +kernel)))) (vw_or (vt_gt (ve_callB call_len calli_len (by rfl) (nb "len" (by decide)) (by decide +kernel) (va_cons (ve_var 0) va_nil)) (ve_globI g_GREATEST (by rfl))) (vw_or1 (vt_not (vt_val (ve_callB (cr_allA rfl) calli_allA (by rfl) (nb "all" (by decide)) (by decide +kernel) (va_cons (ve_lc rfl nd (vi_list (ve_var 0)) (blkOk_by (own := [("one", 2)]) (N := N_is_word) (sc := (defScope s_is_word)) (by decide +kernel)) (fun _ _ _ _ _ => (vg_name (i := 2) nd rfl (Or.inl rfl))) (fun _ _ _ _ _ => vts_nil) (fun _ _ _ _ _ => (ve_and (ve_callC c_is_whole hr (by rfl) (va_cons (ve_var 2) va_nil)) (ve_one (ve_ne hr.units (ve_var 2) ve_int))))) va_nil))))))))
        (vss_one (vs_ret ve_bl))
        vss_nil)
      (vss_one (vs_ret (ve_not (ve_callB (cr_anyA rfl) calli_anyA (by rfl) (nb "any" (by decide)) (by decide +kernel) (va_cons (ve_lc rfl nd (vi_range2 (by rfl) (nb "range" (by decide)) (va_cons ve_int (va_cons (ve_callB call_len calli_len (by rfl) (nb "len" (by decide)) (by decide +kernel) (va_cons (ve_var 0) va_nil)) va_nil))) (blkOk_by (own := [("at", 1)]) (N := N_is_word) (sc := (defScope s_is_word)) (by decide +kernel)) (fun _ _ _ _ _ => (vg_name (i := 1) nd rfl (Or.inl rfl))) (fun _ _ _ _ _ => vts_nil) (fun _ _ _ _ _ => (ve_eq hr.units (ve_ix (ve_var 0) (ve_sub (ve_var 1) ve_int)) (ve_neg (ve_ix (ve_var 0) (ve_var 1)))))) va_nil)))))), fun ds Q h => ?_⟩)
  · obtain ⟨w, rfl, _⟩ := h
    rfl
  · obtain ⟨w, rfl, hl, hw, q⟩ := h
    have z : (10000 : Nat) < sizeLine := by decide
    rw [show startE N_is_word [intsD w] = [.sh (intsD w), .dead, .dead] from rfl]
    walk_at "w"
    refine ⟨tyl _, ?_⟩
    walk_at "w"
    refine ifF (nt_t (isT_ll _)) ?_
    walk_at "w"
    refine ifF (fun h => absurd (of_decide_eq_true h) (by rw [List.length_map]; omega)) ?_
    walk_at "w"
    refine ⟨rfl, ?_⟩
    walk_at "w"
    refine ⟨rfl, ?_⟩
    refine lcAll w .int (fun _ => .bool true) rfl (by omega) (fun x hx => ?_) ?_
    · have hx := hw.1 x hx
      walk_at "w"
      refine ⟨rfl, fun _ => ?_⟩
      walk_at "w"
      refine ⟨x, rfl, ?_⟩
      walk_at "w"
      refine ifT rfl ?_
      walk_at "w"
      refine ⟨shp_int _, shp_int _, rfl, ?_⟩
      rw [show eqv (D.int x) (D.int 0) = false from (eqv_int _ _).trans (decide_eq_false hx)]
      rfl
    walk_at "w"
    refine ⟨w.map fun _ => true, by rw [List.map_map]; rfl, ?_⟩
    walk_at "w"
    refine ifF (by simp) ?_
    walk_at "w"
    refine ⟨rfl, ?_⟩
    walk_at "w"
    rw [List.length_map]
    refine ⟨⟨by decide, by decide, by omega, by omega⟩, ?_⟩
    refine lcAll (List.range ((w.length : Int) - 1).toNat) (fun i => .int (1 + (i : Nat))) (fun _ => .bool false) rfl (by rw [List.length_range]; omega) (fun i hi => ?_) ?_
    · have hi : i + 1 < w.length := by have := List.mem_range.mp hi; omega
      walk_at "w"
      refine ⟨rfl, fun _ => ?_⟩
      walk_at "w"
      have e1 : atI (w.map D.int) ((1 + (i : Int)) - 1) = some (.int (w.getD i 0)) := by
        rw [int_atI (by omega) (by omega), show ((1 + (i : Int)) - 1).toNat = i by omega]
      have e2 : atI (w.map D.int) (1 + (i : Int)) = some (.int (w.getD (i + 1) 0)) := by
        rw [int_atI (by omega) (by omega), show (1 + (i : Int)).toNat = i + 1 by omega]
      dsimp only
      rw [e1]
      walk_at "w"
      rw [e2]
      walk_at "w"
      refine ⟨shp_int _, shp_int _, rfl, ?_⟩
      have := ch_at hw.2 hi
      rw [show eqv (D.int (w.getD i 0)) (D.int (-(w.getD (i + 1) 0))) = false from (eqv_int _ _).trans (decide_eq_false (by omega))]
    walk_at "w"
    refine ⟨(List.range ((w.length : Int) - 1).toNat).map fun _ => false, by rw [List.map_map]; rfl, ?_⟩
    show Q false (.bool (!((List.range ((w.length : Int) - 1).toNat).map fun _ => false).any id))
    rw [show ((List.range ((w.length : Int) - 1).toNat).map fun _ => false).any id = false by simp]
    exact q
def sp_check_word : DS := fun ds Q => ∃ w : List Int, ds = [intsD w] ∧ w.length ≤ 2000 ∧ Red w ∧ Q false .none
theorem ok_check_word (F : Dfn K mg "check_word" s_check_word ["thing"]) (c_is_word : Cal P w K mg base 2 "is_word" ["thing"] sp_is_word) : Cal P w K mg base 3 "check_word" ["thing"] sp_check_word := by
  have nd := S_check_word.nd
  refine vokC F S_check_word (fun ds Q h => ?_) (fun f cdv A outer s H E hr => ⟨_, (vss_one (vs_if (vt_not (vt_val (ve_callC c_is_word hr (by rfl) (va_cons (ve_var 0) va_nil))))
        (vss_one vs_never)
        vss_nil)), fun ds Q h => ?_⟩)
  · obtain ⟨w, rfl, _⟩ := h
    rfl
  · obtain ⟨w, rfl, hl, hw, q⟩ := h
    rw [show startE N_check_word [intsD w] = [.sh (intsD w)] from rfl]
    walk_at "w"
    refine ⟨w, rfl, hl, hw, ?_⟩
    walk_at "w"
    refine ifF nofun ?_
    exact q
theorem last_atI {w : List Int} (x : Int) : atI ((w ++ [x]).map D.int) (-1) = some (.int x) := by
  rw [List.map_append, List.map_singleton]
  exact atI_last _ _
theorem psh_list (s : List Int) (x : Int) : (psh s x).reverse = match s with
  | [] => [x]
  | y :: t => if y + x = 0 then t.reverse else t.reverse ++ [y] ++ [x] := by
  unfold psh
  cases s with
  | nil => rfl
  | cons y t =>
    show (if y + x = 0 then t else x :: y :: t).reverse = if y + x = 0 then t.reverse else t.reverse ++ [y] ++ [x]
    split
    · rfl
    · simp
def sp_joined : DS := fun ds Q => ∃ a b : List Int, ds = [intsD a, intsD b] ∧ a.length + b.length ≤ 5000 ∧ Q true (intsD (tog a b))
theorem ok_joined (F : Dfn K mg "joined" s_joined ["one", "other"]) (nb : NB mg ["list", "len"]) : Cal P w K mg base 1 "joined" ["one", "other"] sp_joined := by
  have nd := S_joined.nd
  refine vokC F S_joined (fun ds Q h => ?_) (fun f cdv A outer s H E hr => ⟨_, (vss_cons (vs_setO (i := 2) nd rfl (Or.inl rfl) (ve_callTy call_list_of calli_listOf (by rfl) (nb "list" (by decide)) (by decide +kernel) (va_cons (ve_var 0) va_nil)))
      (vss_cons (vs_for PassesOwn.never rfl (vi_list (ve_var 1)) (vg_name (i := 3) nd rfl (Or.inl rfl))
        (vss_one (vs_if (vt_bool (vw_and (vt_gt (ve_callB call_len calli_len (by rfl) (nb "len" (by decide)) (by decide +kernel) (va_cons (ve_var 2) va_nil)) ve_int) (vw_and1 (vt_eq hr.units (ve_ix (ve_var 2) (ve_neg ve_int)) (ve_neg (ve_var 3))))))
          (vss_one (vs_exprX (vx_pop (i := 2) (h := fun to p => pe_bm0 PySem.F.plainAttrs_list PySem.F.slot_list_pop PySem.F.type_list_pop mt_pop p))))
          (vss_one (vs_append (i := 2) (vx_pure (ve_var 3)) (h := fun to te p q => pe_bm PySem.F.plainAttrs_list PySem.F.slot_list_append PySem.F.type_list_append mt_append p (pa_cons q pa_nil)))))))
      (vss_one (vs_ret (ve_var 2))))), fun ds Q h => ?_⟩)
  · obtain ⟨a, b, rfl, _⟩ := h
    rfl
  · obtain ⟨a, b, rfl, hl, q⟩ := h
    have z : (10000 : Nat) < sizeLine := by decide
    rw [show startE N_joined [intsD a, intsD b] = [.sh (intsD a), .sh (intsD b), .dead, .dead] from rfl]
    walk_at "w"
    refine ⟨rfl, ?_⟩
    walk_at "w"
    refine ⟨rfl, ?_⟩
    refine forI b .int (fun pre en => ∃ c, en = [.sh (intsD a), .sh (intsD b), .ow (intsD (act a.reverse pre).reverse), c]) rfl ⟨_, by rw [show act a.reverse [] = a.reverse from rfl, List.reverse_reverse]⟩ ?_ ?_
    · rintro pre x post en e ⟨c, rfl⟩
      have hlen := act_len pre a.reverse
      rw [List.length_reverse] at hlen
      have hpl : pre.length ≤ b.length := by rw [e, List.length_append]; omega
      have hs : act a.reverse (pre ++ [x]) = psh (act a.reverse pre) x := act_append ..
      rw [hs]
      generalize act a.reverse pre = s at hlen ⊢
      walk_at "w"
      cases s with
      | nil =>
        refine ifF nofun ?_
        walk_at "w"
        refine ⟨rfl, ?_⟩
        walk_at "w"
        refine ⟨rfl, ?_⟩
        walk_at "w"
        refine ⟨le_sz rfl, ?_⟩
        walk_at "w"
        exact ⟨_, rfl⟩
      | cons y t =>
        rw [List.length_cons] at hlen
        refine ifT (decide_eq_true (by rw [List.length_map, List.length_reverse, List.length_cons]; omega)) ?_
        walk_at "w"
        rw [List.reverse_cons, show (-(1 : Int)) = -1 from rfl, last_atI]
        walk_at "w"
        refine ⟨shp_int _, shp_int _, ?_⟩
        walk_at "w"
        refine ifI (fun h => ?_) (fun h => ?_)
        · have h : y = -x := of_decide_eq_true ((eqv_int _ _).symm.trans h)
          have e2 : (psh (y :: t) x).reverse = t.reverse := by
            show (if y + x = 0 then t else x :: y :: t).reverse = t.reverse
            rw [if_pos (by omega)]
          have e3 : ((t.reverse ++ [y]).map D.int)[((t.reverse ++ [y]).map D.int).length - 1]? = some (.int y) := by
            rw [List.map_append, List.map_singleton, List.length_append, List.length_singleton, Nat.add_sub_cancel, List.getElem?_append_right (Nat.le_refl _), Nat.sub_self]
            rfl
          walk_at "w"
          rw [e3]
          walk_at "w"
          rw [e2]
          exact ⟨_, by rw [List.map_append, List.map_singleton, List.dropLast_concat]⟩
        · have h : ¬ y = -x := fun z => h ((eqv_int _ _).trans (decide_eq_true z))
          have e2 : (psh (y :: t) x).reverse = t.reverse ++ [y] ++ [x] := by
            show (if y + x = 0 then t else x :: y :: t).reverse = _
            rw [if_neg (by omega), List.reverse_cons, List.reverse_cons]
          walk_at "w"
          refine ⟨rfl, ?_⟩
          walk_at "w"
          refine ⟨rfl, ?_⟩
          walk_at "w"
          refine ⟨by rw [List.length_map, List.length_append, List.length_reverse, List.length_singleton]; omega, ?_⟩
          walk_at "w"
          rw [e2]
          exact ⟨_, by rw [show intsD (t.reverse ++ [y] ++ [x]) = D.list ((t.reverse ++ [y]).map .int ++ [.int x]) by unfold intsD; rw [List.map_append (l₁ := t.reverse ++ [y])]; rfl]⟩
    · rintro en ⟨c, rfl⟩
      exact q
def sp_together : DS := fun ds Q => ∃ a b : List Int, ds = [intsD a, intsD b] ∧ a.length ≤ 2000 ∧ b.length ≤ 2000 ∧ Red a ∧ Red b ∧ Q true (intsD (tog a b))
theorem ok_together (F : Dfn K mg "together" s_together ["one", "other"]) (c_check_word : Cal P w K mg base 3 "check_word" ["thing"] sp_check_word) (c_joined : Cal P w K mg base 1 "joined" ["one", "other"] sp_joined) : Cal P w K mg base 4 "together" ["one", "other"] sp_together := by
  have nd := S_together.nd
  refine vokC F S_together (fun ds Q h => ?_) (fun f cdv A outer s H E hr => ⟨_, (vss_cons (vs_expr (ve_callC c_check_word hr (by rfl) (va_cons (ve_var 0) va_nil)))
      (vss_cons (vs_expr (ve_callC c_check_word hr (by rfl) (va_cons (ve_var 1) va_nil)))
      (vss_one (vs_ret (ve_callC c_joined hr (by rfl) (va_cons (ve_var 0) (va_cons (ve_var 1) va_nil))))))), fun ds Q h => ?_⟩)
  · obtain ⟨a, b, rfl, _⟩ := h
    rfl
  · obtain ⟨a, b, rfl, l1, l2, ha, hb, q⟩ := h
    rw [show startE N_together [intsD a, intsD b] = [.sh (intsD a), .sh (intsD b)] from rfl]
    walk_at "w"
    refine ⟨a, rfl, l1, ha, ?_⟩
    walk_at "w"
    refine ⟨b, rfl, l2, hb, ?_⟩
    walk_at "w"
    refine ⟨a, b, rfl, by omega, ?_⟩
    exact q
def sp_undone_of : DS := fun ds Q => ∃ w : List Int, ds = [intsD w] ∧ w.length ≤ 5000 ∧ Q true (intsD (inv w))
theorem ok_undone_of (F : Dfn K mg "undone_of" s_undone_of ["word"]) : Cal P w K mg base 1 "undone_of" ["word"] sp_undone_of := by
  have nd := S_undone_of.nd
  refine vokC F S_undone_of (fun ds Q h => ?_) (fun f cdv A outer s H E hr => ⟨_, (vss_one (vs_ret (ve_lc rfl nd (vi_list (ve_rev (ve_var 0))) (blkOk_by (own := [("number", 1)]) (N := N_undone_of) (sc := (defScope s_undone_of)) (by decide +kernel)) (fun _ _ _ _ _ => (vg_name (i := 1) nd rfl (Or.inl rfl))) (fun _ _ _ _ _ => vts_nil) (fun _ _ _ _ _ => (ve_neg (ve_var 1)))))), fun ds Q h => ?_⟩)
  · obtain ⟨w, rfl, _⟩ := h
    rfl
  · obtain ⟨w, rfl, hl, q⟩ := h
    have z : (10000 : Nat) < sizeLine := by decide
    rw [show startE N_undone_of [intsD w] = [.sh (intsD w), .dead] from rfl]
    walk_at "w"
    refine ⟨rfl, ?_⟩
    walk_at "w"
    refine ⟨rfl, ?_⟩
    walk_at "w"
    refine ⟨rfl, ?_⟩
    refine lcAll w.reverse .int (fun x => .int (-x)) (by rw [List.map_reverse]) (by rw [List.length_reverse]; omega) (fun x hx => ?_) ?_
    · walk_at "w"
      refine ⟨rfl, fun _ => ?_⟩
      walk_at "w"
      exact ⟨rfl, rfl⟩
    · rw [show w.reverse.map (fun x => D.int (-x)) = (inv w).map .int by unfold inv; rw [List.map_map]; rfl]
      exact q
def sp_undone : DS := fun ds Q => ∃ w : List Int, ds = [intsD w] ∧ w.length ≤ 2000 ∧ Red w ∧ Q true (intsD (inv w))
theorem ok_undone (F : Dfn K mg "undone" s_undone ["word"]) (c_check_word : Cal P w K mg base 3 "check_word" ["thing"] sp_check_word) (c_undone_of : Cal P w K mg base 1 "undone_of" ["word"] sp_undone_of) : Cal P w K mg base 4 "undone" ["word"] sp_undone := by
  have nd := S_undone.nd
  refine vokC F S_undone (fun ds Q h => ?_) (fun f cdv A outer s H E hr => ⟨_, (vss_cons (vs_expr (ve_callC c_check_word hr (by rfl) (va_cons (ve_var 0) va_nil)))
      (vss_one (vs_ret (ve_callC c_undone_of hr (by rfl) (va_cons (ve_var 0) va_nil))))), fun ds Q h => ?_⟩)
  · obtain ⟨w, rfl, _⟩ := h
    rfl
  · obtain ⟨w, rfl, hl, hw, q⟩ := h
    rw [show startE N_undone [intsD w] = [.sh (intsD w)] from rfl]
    walk_at "w"
    refine ⟨w, rfl, hl, hw, ?_⟩
    walk_at "w"
    refine ⟨w, rfl, by omega, ?_⟩
    exact q

theorem psh_mem {s : List Int} {v x : Int} (h : x ∈ psh s v) : x ∈ s ∨ x = v := by
  unfold psh at h
  cases s with
  | nil => exact .inr (List.mem_singleton.mp h)
  | cons y t =>
    simp only at h
    split at h
    · exact .inl (List.mem_cons_of_mem _ h)
    · rcases List.mem_cons.mp h with e | h
      · exact .inr e
      · exact .inl h
theorem act_mem {w : List Int} {x : Int} : ∀ {s : List Int}, x ∈ act s w → x ∈ s ∨ x ∈ w := by
  induction w with
  | nil => exact fun h => .inl h
  | cons y w ih =>
    intro s h
    rcases ih (s := psh s y) h with h | h
    · rcases psh_mem h with h | h
      · exact .inl h
      · exact .inr (by rw [h]; exact List.mem_cons_self)
    · exact .inr (List.mem_cons_of_mem _ h)
theorem tog_mem {a b : List Int} {x : Int} (h : x ∈ tog a b) : x ∈ a ∨ x ∈ b := by
  unfold tog at h
  rcases act_mem (List.mem_reverse.mp h) with h | h
  · exact .inl (List.mem_reverse.mp h)
  · exact .inr h
theorem eqv_ints_ne {a b : List Int} (h : a ≠ b) : eqv (intsD a) (intsD b) = false := (eqv_ints a b).trans (decide_eq_false h)
theorem intsD_snoc (a : List Int) (x : Int) : D.list (a.map .int ++ [.int x]) = intsD (a ++ [x]) := by unfold intsD; rw [List.map_append]; rfl
theorem cutD_init {α : Type} (a : List α) (x : α) : VL.cutD (a ++ [x]) none (some (-1)) = a := by
  unfold VL.cutD
  rw [HT.sIx_none, List.drop_zero, Nat.sub_zero]
  have : HT.sIx (a ++ [x]).length (a ++ [x]).length (some (-1)) = a.length := by
    unfold HT.sIx
    simp
    omega
  rw [this, List.take_left']
  rfl
def sp_law_joined : DS := fun ds Q => ∃ a b : List Int, ds = [intsD a, intsD b] ∧ a.length + b.length ≤ 5000 ∧ Q true (intsD (tog a b))
theorem ok_law_joined (F : Dfn K mg "_law_joined" s_law_joined ["_law_one", "_law_other"]) (nb : NB mg ["list"]) : Cal P w K mg base 1 "_law_joined" ["_law_one", "_law_other"] sp_law_joined := by
  have nd := S_law_joined.nd
  refine vokC F S_law_joined (fun ds Q h => ?_) (fun f cdv A outer s H E hr => ⟨_, (vss_cons (vs_setO (i := 2) nd rfl (Or.inl rfl) (ve_callTy call_list_of calli_listOf (by rfl) (nb "list" (by decide)) (by decide +kernel) (va_cons (ve_var 0) va_nil)))
      (vss_cons (vs_for PassesOwn.never rfl (vi_list (ve_var 1)) (vg_name (i := 3) nd rfl (Or.inl rfl))
        (vss_one (vs_if (vt_bool (vw_and (vt_ne hr.units (ve_var 2) (ve_lst va_nil)) (vw_and1 (vt_eq hr.units (ve_add (ve_ix (ve_var 2) (ve_neg ve_int)) (ve_var 3)) ve_int))))
          (vss_one (vs_setO (i := 2) nd rfl (Or.inl rfl) (ve_slice (ve_var 2) vo_none (vo_some (ve_neg ve_int)))))
          (vss_one (vs_append (i := 2) (vx_pure (ve_var 3)) (h := fun to te p q => pe_bm PySem.F.plainAttrs_list PySem.F.slot_list_append PySem.F.type_list_append mt_append p (pa_cons q pa_nil)))))))
      (vss_one (vs_ret (ve_var 2))))), fun ds Q h => ?_⟩)
  · obtain ⟨a, b, rfl, _⟩ := h
    rfl
  · obtain ⟨a, b, rfl, hl, q⟩ := h
    have z : (10000 : Nat) < sizeLine := by decide
    rw [show startE N_law_joined [intsD a, intsD b] = [.sh (intsD a), .sh (intsD b), .dead, .dead] from rfl]
    walk_at "go"
    refine forI b .int (fun pre en => ∃ c, en = [.sh (intsD a), .sh (intsD b), .ow (intsD (act a.reverse pre).reverse), c]) rfl ⟨_, by rw [show act a.reverse [] = a.reverse from rfl, List.reverse_reverse]⟩ ?_ ?_
    · rintro pre x post en e ⟨c, rfl⟩
      have hlen := act_len pre a.reverse
      rw [List.length_reverse] at hlen
      have hpl : pre.length ≤ b.length := by rw [e, List.length_append]; omega
      have hs : act a.reverse (pre ++ [x]) = psh (act a.reverse pre) x := act_append ..
      rw [hs]
      generalize act a.reverse pre = s at hlen ⊢
      walk_at "go"
      cases s with
      | nil =>
        refine ifF (by rw [show eqv (D.list (List.map D.int [].reverse)) (D.list []) = true from eqv_ints_t (a := []) (b := []) rfl]; decide) ?_
        walk_at "go"
        exact ⟨_, rfl⟩
      | cons y t =>
        rw [List.length_cons] at hlen
        refine ifT (by rw [show eqv (D.list (List.map D.int (y :: t).reverse)) (D.list []) = false from eqv_ints_ne (b := []) (by simp)]; rfl) ?_
        walk_at "go"
        rw [List.reverse_cons, show (-(1 : Int)) = -1 from rfl, last_atI]
        walk_at "go"
        refine eqI (f := D.int) eqv_int (fun h => ?_) (fun h => ?_)
        · have e2 : (psh (y :: t) x).reverse = t.reverse := by
            show (if y + x = 0 then t else x :: y :: t).reverse = t.reverse
            rw [if_pos h]
          walk_at "go"
          rw [e2, List.map_append, show (-(1 : Int)) = -1 from rfl, List.map_singleton, cutD_init]
          exact ⟨_, rfl⟩
        · have e2 : (psh (y :: t) x).reverse = t.reverse ++ [y] ++ [x] := by
            show (if y + x = 0 then t else x :: y :: t).reverse = _
            rw [if_neg h, List.reverse_cons, List.reverse_cons]
          walk_at "go"
          rw [e2]
          exact ⟨_, by rw [intsD_snoc]⟩
    · rintro en ⟨c, rfl⟩
      exact q
def sp_law_undone : DS := fun ds Q => ∃ w : List Int, ds = [intsD w] ∧ w.length ≤ 5000 ∧ Q true (intsD (inv w))
theorem ok_law_undone (F : Dfn K mg "_law_undone" s_law_undone ["_law_word"]) : Cal P w K mg base 1 "_law_undone" ["_law_word"] sp_law_undone := by
  have nd := S_law_undone.nd
  refine vokC F S_law_undone (fun ds Q h => ?_) (fun f cdv A outer s H E hr => ⟨_, (vss_one (vs_ret (ve_lc rfl nd (vi_list (ve_rev (ve_var 0))) (blkOk_by (own := [("_law_number", 1)]) (N := N_law_undone) (sc := (defScope s_law_undone)) (by decide +kernel)) (fun _ _ _ _ _ => (vg_name (i := 1) nd rfl (Or.inl rfl))) (fun _ _ _ _ _ => vts_nil) (fun _ _ _ _ _ => (ve_neg (ve_var 1)))))), fun ds Q h => ?_⟩)
  · obtain ⟨w, rfl, _⟩ := h
    rfl
  · obtain ⟨w, rfl, hl, q⟩ := h
    have z : (10000 : Nat) < sizeLine := by decide
    rw [show startE N_law_undone [intsD w] = [.sh (intsD w), .dead] from rfl]
    walk_at "go"
    refine lcAll w.reverse .int (fun x => .int (-x)) (by rw [List.map_reverse]) (by rw [List.length_reverse]; omega) (fun x hx => ?_) ?_
    · walk_at "w"
      refine ⟨rfl, fun _ => ?_⟩
      walk_at "w"
      exact ⟨rfl, rfl⟩
    · rw [show w.reverse.map (fun x => D.int (-x)) = (inv w).map .int by unfold inv; rw [List.map_map]; rfl]
      exact q
def sp_law_drawn_word : DS := fun ds Q => ∃ c n m : Int, ds = [.int c, .int n, .int m] ∧ 0 ≤ n ∧ n ≤ 60 ∧ 0 < m ∧ m ≤ 9 ∧ (∃ n : Nat, c.natAbs < 2 ^ n ∧ n ≤ 1048576) ∧ ∀ w : List Int, Red w → w.length ≤ n.toNat → (∀ x ∈ w, x.natAbs ≤ m.toNat) → Q false (intsD w)
theorem ok_law_drawn_word (F : Dfn K mg "_law_drawn_word" s_law_drawn_word ["_law_cell", "_law_many", "_law_most"]) (c_law_value : Cal P w K mg base 2 "_law_value" ["_law_cell", "_law_turn"] sp_law_value) (c_law_joined : Cal P w K mg base 1 "_law_joined" ["_law_one", "_law_other"] sp_law_joined) (nb : NB mg ["range"]) : Cal P w K mg base 3 "_law_drawn_word" ["_law_cell", "_law_many", "_law_most"] sp_law_drawn_word := by
  have nd := S_law_drawn_word.nd
  refine vokC F S_law_drawn_word (fun ds Q h => ?_) (fun f cdv A outer s H E hr => ⟨_, (vss_cons (vs_set (i := 3) nd rfl (Or.inl rfl) (ve_lst va_nil))
      (vss_cons (vs_for PassesOwn.never rfl (vi_range1 (by rfl) (nb "range" (by decide)) (va_cons (ve_var 1) va_nil)) (vg_name (i := 4) nd rfl (Or.inl rfl))
        (vss_cons (vs_set (i := 5) nd rfl (Or.inl rfl) (ve_callC c_law_value hr (by rfl) (va_cons (ve_var 0) (va_cons (ve_var 4) va_nil))))
        (vss_one (vs_set (i := 3) nd rfl (Or.inl rfl) (ve_callC c_law_joined hr (by rfl) (va_cons (ve_var 3) (va_cons (ve_lst (va_cons (ve_mul (ve_add ve_int (ve_mod (ve_fdiv (ve_var 5) ve_int) (ve_var 2))) (ve_ifExp (vt_eq hr.units (ve_mod (ve_var 5) ve_int) ve_int) ve_int (ve_neg ve_int))) va_nil)) va_nil)))))))
      (vss_one (vs_ret (ve_var 3))))), fun ds Q h => ?_⟩)
  · obtain ⟨c, n, m, rfl, _⟩ := h
    rfl
  · obtain ⟨c, n, m, rfl, n0, n1, m0, m1, ⟨nb', hb, hb'⟩, q⟩ := h
    have z : (10000 : Nat) < sizeLine := by decide
    rw [show startE N_law_drawn_word [.int c, .int n, .int m] = [.sh (.int c), .sh (.int n), .sh (.int m), .dead, .dead, .dead] from rfl]
    walk_at "go"
    refine forI (List.range n.toNat) (fun i => .int (0 + (i : Nat))) (fun pre en => ∃ (w : List Int) (s4 s5 : Sl), Red w ∧ w.length ≤ pre.length ∧ (∀ x ∈ w, x.natAbs ≤ m.toNat) ∧ en = [.sh (.int c), .sh (.int n), .sh (.int m), .sh (intsD w), s4, s5]) rfl ⟨[], _, _, .nil, Nat.le_refl _, nofun, rfl⟩ ?_ ?_
    · rintro pre i post en e ⟨w, s4, s5, rw', hl, hm, rfl⟩
      have hi : i < n.toNat := List.mem_range.mp (by rw [e]; simp)
      have hpl : pre.length < n.toNat := by
        have h := congrArg List.length e
        rw [List.length_range, List.length_append, List.length_cons] at h
        omega
      walk_at "go"
      refine ⟨c, _, nb', rfl, hb, hb', by omega, by omega, fun r r0 => ?_⟩
      walk_at "go"
      have v0 := Int.emod_nonneg (r / 2) (b := m) (by omega)
      have v1 := Int.emod_lt_of_pos (r / 2) (b := m) m0
      have fin : ∀ v : Int, v ≠ 0 → v.natAbs ≤ m.toNat → Red (tog w [v]) ∧ (tog w [v]).length ≤ (pre ++ [i]).length ∧ (∀ x ∈ tog w [v], x.natAbs ≤ m.toNat) := by
        intro v hv hv2
        refine ⟨tog_red rw' (by simpa using hv), ?_, fun x hx => ?_⟩
        · have := tog_len w [v]
          simp at this ⊢
          omega
        · rcases tog_mem hx with h | h
          · exact hm x h
          · rw [List.mem_singleton.mp h]; exact hv2
      refine ifI (fun _ => ?_) (fun _ => ?_)
      · walk_at "go"
        refine ⟨.inr ⟨by decide, by decide⟩, ?_⟩
        walk_at "go"
        refine ⟨w, [_], rfl, by simp; omega, ?_⟩
        walk_at "go"
        obtain ⟨f1, f2, f3⟩ := fin ((1 + r / 2 % m) * 1) (by omega) (by omega)
        exact ⟨_, _, _, f1, f2, f3, rfl⟩
      · walk_at "go"
        refine ⟨.inr ⟨by decide, by decide⟩, ?_⟩
        walk_at "go"
        refine ⟨w, [_], rfl, by simp; omega, ?_⟩
        walk_at "go"
        obtain ⟨f1, f2, f3⟩ := fin ((1 + r / 2 % m) * -1) (by omega) (by omega)
        exact ⟨_, _, _, f1, f2, f3, rfl⟩
    · rintro en ⟨w, s4, s5, rw', hl, hm, rfl⟩
      rw [List.length_range] at hl
      exact q w rw' hl hm

def sp_law_whole : DS := fun ds Q => ∃ i : Int, ds = [.int i] ∧ Q false (.bool true)
theorem ok_law_whole (F : Dfn K mg "_law_whole" s_law_whole ["_law_number"]) (nb : NB mg ["isinstance", "bool", "int"]) : Cal P w K mg base 1 "_law_whole" ["_law_number"] sp_law_whole := by
  have nd := S_law_whole.nd
  refine vokC F S_law_whole (fun ds Q h => ?_) (fun f cdv A outer s H E hr => ⟨_, (vss_one (vs_ret (ve_and (ve_isi (T := "int") (ve_var 0) (by rfl) (nb "isinstance" (by decide)) (by rfl) (nb "int" (by decide)) (by decide +kernel)) (ve_one (ve_not (ve_isi (T := "bool") (ve_var 0) (by rfl) (nb "isinstance" (by decide)) (by rfl) (nb "bool" (by decide)) (by decide +kernel))))))), fun ds Q h => ?_⟩)
  · obtain ⟨i, rfl, _⟩ := h
    rfl
  · obtain ⟨i, rfl, q⟩ := h
    rw [show startE N_law_whole [.int i] = [.sh (.int i)] from rfl]
    walk_at "w"
    refine ⟨tyi _, ?_⟩
    walk_at "w"
    refine ifT (isT_ii _) ?_
    walk_at "w"
    refine ⟨tyi _, ?_⟩
    show Q false (.bool (!isT (.int i) "bool"))
    rw [isT_ib]
    exact q

def sp_law_are_numbers : DS := fun ds Q => ∃ l : List Int, ds = [intsD l] ∧ l.length ≤ 1000 ∧ Q false (.bool true)
theorem ok_law_are_numbers (F : Dfn K mg "_law_are_numbers" s_law_are_numbers ["_law_found"]) (c_law_whole : Cal P w K mg base 1 "_law_whole" ["_law_number"] sp_law_whole) (nb : NB mg ["all", "isinstance", "list"]) : Cal P w K mg base 2 "_law_are_numbers" ["_law_found"] sp_law_are_numbers := by
  have nd := S_law_are_numbers.nd
  refine vokC F S_law_are_numbers (fun ds Q h => ?_) (fun f cdv A outer s H E hr => ⟨_, (vss_one (vs_ret (ve_and (ve_isi (T := "list") (ve_var 0) (by rfl) (nb "isinstance" (by decide)) (by rfl) (nb "list" (by decide)) (by decide +kernel)) (ve_one (ve_callB (cr_allA rfl) calli_allA (by rfl) (nb "all" (by decide)) (by decide +kernel) (va_cons (ve_lc rfl nd (vi_list (ve_var 0)) (blkOk_by (own := [("_law_one", 1)]) (N := N_law_are_numbers) (sc := (defScope s_law_are_numbers)) (by decide +kernel)) (fun _ _ _ _ _ => (vg_name (i := 1) nd rfl (Or.inl rfl))) (fun _ _ _ _ _ => vts_nil) (fun _ _ _ _ _ => (ve_callC c_law_whole hr (by rfl) (va_cons (ve_var 1) va_nil)))) va_nil)))))), fun ds Q h => ?_⟩)
  · obtain ⟨l, rfl, _⟩ := h
    rfl
  · obtain ⟨l, rfl, hl, q⟩ := h
    have z : (1000 : Nat) < sizeLine := by decide
    rw [show startE N_law_are_numbers [intsD l] = [.sh (intsD l), .dead] from rfl]
    walk_at "w"
    refine ⟨tyl _, ?_⟩
    walk_at "w"
    refine ifT (isT_ll _) ?_
    walk_at "w"
    refine ⟨rfl, ?_⟩
    walk_at "w"
    refine ⟨rfl, ?_⟩
    walk_at "w"
    refine lcAll l .int (fun _ => .bool true) rfl (by omega) (fun i hi => ?_) ?_
    · walk_at "w"
      refine ⟨rfl, fun _ => ?_⟩
      walk_at "w"
      refine ⟨i, rfl, ?_⟩
      exact ⟨rfl, rfl⟩
    walk_at "w"
    refine ⟨l.map fun _ => true, by rw [List.map_map]; rfl, ?_⟩
    show Q false (.bool ((l.map fun _ => true).all id))
    rw [show (l.map fun _ => true).all id = true by simp]
    exact q

def WOk (w : List Int) : Prop := Red w ∧ w.length ≤ 63
theorem WOk.snoc {ws : List (List Int)} (h : ∀ w ∈ ws, WOk w) {v : List Int} (hv : WOk v) : ∀ w ∈ ws ++ [v], WOk w := fun w hw => by
  rcases List.mem_append.mp hw with h' | h'
  · exact h w h'
  · rw [List.mem_singleton.mp h']; exact hv
theorem intss_snoc (ws : List (List Int)) (v : List Int) : D.list (ws.map intsD ++ [intsD v]) = intssD (ws ++ [v]) := by unfold intssD; rw [map_snoc]
theorem Red.take {w : List Int} (h : Red w) (n : Nat) : Red (w.take n) :=
  ⟨fun x hx => h.1 x (List.mem_of_mem_take hx), fun a x y b e => h.2 a x y (b ++ w.drop n) (by
    have := List.take_append_drop n w
    rw [e] at this
    simpa using this.symm)⟩
theorem ok_law {fa : Addr} {fd : FuncData} (F : Fun K "law" "law" s_law fa fd) (c_law_drawn_word : Cal P w K mg base 3 "_law_drawn_word" ["_law_cell", "_law_many", "_law_most"] sp_law_drawn_word) (c_law_undone : Cal P w K mg base 1 "_law_undone" ["_law_word"] sp_law_undone) (c_law_joined : Cal P w K mg base 1 "_law_joined" ["_law_one", "_law_other"] sp_law_joined) (c_undone : Cal P w K mg base 4 "undone" ["word"] sp_undone) (c_together : Cal P w K mg base 4 "together" ["one", "other"] sp_together) (c_law_are_numbers : Cal P w K mg base 2 "_law_are_numbers" ["_law_found"] sp_law_are_numbers) (nb : NB mg ["range", "len", "enumerate", "list"]) : FnOk P w K mg base CX0 5 fa fd ["_law_script"] (spLawB K) := by
  have nd := S_law.nd
  refine vlawB F S_law (fun cdv A outer s H E hr => ⟨_, _, _, rfl, ps_set (i := 0) nd rfl (.inl rfl) (pe_slice sl_list (pv 0) po_none (po_some pe_int)), (vss_cons (vs_setO (i := 1) nd rfl (Or.inl rfl) (ve_lst (va_cons (ve_lst va_nil) (va_cons (ve_lst (va_cons ve_int va_nil)) (va_cons (ve_lst (va_cons (ve_neg ve_int) va_nil)) va_nil)))))
      (vss_cons (vs_for PassesOwn.never rfl (vi_range3 (by rfl) (nb "range" (by decide)) (va_cons ve_int (va_cons (ve_callB call_len calli_len (by rfl) (nb "len" (by decide)) (by decide +kernel) (va_cons (ve_var 0) va_nil)) (va_cons (ve_add ve_int (ve_fdiv (ve_callB call_len calli_len (by rfl) (nb "len" (by decide)) (by decide +kernel) (va_cons (ve_var 0) va_nil)) ve_int)) va_nil)))) (vg_name (i := 2) nd rfl (Or.inl rfl))
        (vss_cons (vs_append (i := 1) (vx_pure (ve_callC c_law_drawn_word hr (by rfl) (va_cons (ve_ix (ve_var 0) (ve_var 2)) (va_cons ve_int (va_cons ve_int va_nil))))) (h := fun to te p q => pe_bm PySem.F.plainAttrs_list PySem.F.slot_list_append PySem.F.type_list_append mt_append p (pa_cons q pa_nil)))
        (vss_cons (vs_append (i := 1) (vx_pure (ve_callC c_law_undone hr (by rfl) (va_cons (ve_slice (ve_ix (ve_var 1) (ve_neg ve_int)) vo_none (vo_some ve_int)) va_nil))) (h := fun to te p q => pe_bm PySem.F.plainAttrs_list PySem.F.slot_list_append PySem.F.type_list_append mt_append p (pa_cons q pa_nil)))
        (vss_one (vs_append (i := 1) (vx_pure (ve_callC c_law_joined hr (by rfl) (va_cons (ve_callC c_law_undone hr (by rfl) (va_cons (ve_ix (ve_var 1) (ve_neg ve_int)) va_nil)) (va_cons (ve_lst (va_cons ve_int (va_cons ve_int (va_cons (ve_neg ve_int) va_nil)))) va_nil)))) (h := fun to te p q => pe_bm PySem.F.plainAttrs_list PySem.F.slot_list_append PySem.F.type_list_append mt_append p (pa_cons q pa_nil)))))))
      (vss_cons (vs_demote 1 (vs_for PassesOwn.never rfl (vi_enum (by rfl) (nb "enumerate" (by decide)) (va_cons (ve_var 1) va_nil)) (vg_tup (n := 2) rfl (vgs_cons (vg_name (i := 3) nd rfl (Or.inl rfl)) (vgs_cons (vg_name (i := 4) nd rfl (Or.inl rfl)) vgs_nil)))
        (vss_cons (vs_par rfl nd rfl rfl (by decide) rfl rfl (vms_first 5 (ve_ix (ve_var 1) (ve_sub (ve_var 3) ve_int)) (vms_cons 6 (ve_ix (ve_var 1) (ve_sub (ve_var 3) ve_int)) vms_nil)) (by rfl))
        (vss_cons (vs_set (i := 7) nd rfl (Or.inl rfl) (ve_lst (va_cons (ve_callTy call_list_of calli_listOf (by rfl) (nb "list" (by decide)) (by decide +kernel) (va_cons (ve_var 4) va_nil)) (va_cons (ve_callTy call_list_of calli_listOf (by rfl) (nb "list" (by decide)) (by decide +kernel) (va_cons (ve_var 5) va_nil)) va_nil))))
        (vss_one (vs_for PassesOwn.never rfl (vi_range1 (by rfl) (nb "range" (by decide)) (va_cons ve_int va_nil)) (vg_name (i := 8) nd rfl (Or.inl rfl))
          (vss_cons (vs_par rfl nd rfl rfl (by decide) rfl rfl (vm_first true 9 (ve_callC c_together hr (by rfl) (va_cons (ve_ix (ve_var 7) ve_int) (va_cons (ve_ix (ve_var 7) ve_int) va_nil))) (vm_cons true 10 (ve_callC c_undone hr (by rfl) (va_cons (ve_ix (ve_var 7) ve_int) va_nil)) vm_nil)) (by rfl))
          (vss_cons (vs_if (vt_bool (vw_or (vt_not (vt_val (ve_callC c_law_are_numbers hr (by rfl) (va_cons (ve_var 9) va_nil)))) (vw_or (vt_not (vt_val (ve_callC c_law_are_numbers hr (by rfl) (va_cons (ve_var 10) va_nil)))) (vw_or1 (vt_ne hr.units (ve_var 7) (ve_lst (va_cons (ve_var 4) (va_cons (ve_var 5) va_nil))))))))
            (vss_one (vs_ret ve_bl))
            vss_nil)
          (vss_cons (vs_if (vt_bool (vw_or (vt_ne hr.units (ve_var 9) (ve_callC c_law_joined hr (by rfl) (va_cons (ve_var 4) (va_cons (ve_var 5) va_nil)))) (vw_or (vt_ne hr.units (ve_var 10) (ve_callC c_law_undone hr (by rfl) (va_cons (ve_var 4) va_nil))) (vw_or1 (vt_ne hr.units (ve_callC c_together hr (by rfl) (va_cons (ve_var 4) (va_cons (ve_var 10) va_nil))) (ve_lst va_nil))))))
            (vss_one (vs_ret ve_bl))
            vss_nil)
          (vss_cons (vs_if (vt_bool (vw_or (vt_ne hr.units (ve_callC c_undone hr (by rfl) (va_cons (ve_var 10) va_nil)) (ve_var 4)) (vw_or1 (vt_ne hr.units (ve_callC c_undone hr (by rfl) (va_cons (ve_var 9) va_nil)) (ve_callC c_together hr (by rfl) (va_cons (ve_callC c_undone hr (by rfl) (va_cons (ve_var 5) va_nil)) (va_cons (ve_var 10) va_nil)))))))
            (vss_one (vs_ret ve_bl))
            vss_nil)
          (vss_cons (vs_if (vt_ne hr.units (ve_callC c_together hr (by rfl) (va_cons (ve_var 9) (va_cons (ve_var 6) va_nil))) (ve_callC c_together hr (by rfl) (va_cons (ve_var 4) (va_cons (ve_callC c_together hr (by rfl) (va_cons (ve_var 5) (va_cons (ve_var 6) va_nil))) va_nil))))
            (vss_one (vs_ret ve_bl))
            vss_nil)
          (vss_cons (vs_append (i := 9) (vx_pure ve_int) (h := fun to te p q => pe_bm PySem.F.plainAttrs_list PySem.F.slot_list_append PySem.F.type_list_append mt_append p (pa_cons q pa_nil)))
          (vss_one (vs_append (i := 10) (vx_pure ve_int) (h := fun to te p q => pe_bm PySem.F.plainAttrs_list PySem.F.slot_list_append PySem.F.type_list_append mt_append p (pa_cons q pa_nil))))))))))))))))
      (vss_one (vs_ret (ve_and (ve_eq hr.units (ve_callC c_together hr (by rfl) (va_cons (ve_lst (va_cons ve_int (va_cons ve_int va_nil))) (va_cons (ve_lst (va_cons (ve_neg ve_int) (va_cons (ve_neg ve_int) (va_cons ve_int va_nil)))) va_nil))) (ve_lst (va_cons ve_int va_nil))) (ve_one (ve_eq hr.units (ve_callC c_undone hr (by rfl) (va_cons (ve_lst (va_cons ve_int (va_cons (ve_neg ve_int) va_nil))) va_nil)) (ve_lst (va_cons ve_int (va_cons (ve_neg ve_int) va_nil))))))))))), fun ns hn hB => ?_⟩)
  rw [show startE N_law [intsD ns] = [.sh (intsD ns), .dead, .dead, .dead, .dead, .dead, .dead, .dead, .dead, .dead, .dead] from rfl]
  have z : (10000 : Nat) < sizeLine := by decide
  have d4 := Int.ediv_nonneg (a := (ns.length : Int)) (b := 4) (by omega) (by omega)
  have d5 := Int.ediv_le_self (a := (ns.length : Int)) 4 (by omega)
  walk_at "go"
  rw [List.length_map]
  obtain ⟨n, hn, hk, hn2, _⟩ := rgC_up (a := 0) (b := (ns.length : Int)) (c := 1 + (ns.length : Int) / 4) (by decide) (by omega) (by omega) (by decide) (by omega) (by omega)
  refine ⟨n, hn, ?_⟩
  refine forI (List.range n) (fun i => .int (0 + (i : Nat) * (1 + (ns.length : Int) / 4))) (fun pre en => ∃ (ws : List (List Int)) (s2 : Sl), 3 ≤ ws.length ∧ ws.length ≤ 3 + 3 * pre.length ∧ (∀ w ∈ ws, WOk w) ∧
    en = [.sh (intsD ns), .ow (intssD ws), s2, .dead, .dead, .dead, .dead, .dead, .dead, .dead, .dead]) rfl ⟨[[], [1], [-1]], _, by decide, by decide, ?_, rfl⟩ ?_ ?_
  · intro w hw
    have : w = [] ∨ w = [1] ∨ w = [-1] := by simpa using hw
    rcases this with rfl | rfl | rfl
    · exact ⟨.nil, by decide⟩
    · exact ⟨⟨by simp, fun a x y b e => by have := congrArg List.length e; simp at this; omega⟩, by decide⟩
    · exact ⟨⟨by simp, fun a x y b e => by have := congrArg List.length e; simp at this; omega⟩, by decide⟩
  · rintro pre i post en e ⟨ws, s2, h3, hl, hw, rfl⟩
    have hi := (rng_at e).2
    have hp := (rng_at e).1
    obtain ⟨x, e1, e2⟩ := atI_mem (xs := ns) (k := 0 + (i : Int) * (1 + (ns.length : Int) / 4)) (by have := Int.mul_nonneg (show (0 : Int) ≤ i by omega) (show 0 ≤ 1 + (ns.length : Int) / 4 by omega); omega) (hk i hi)
    have i1 : atI (ns.map D.int) (0 + (i : Int) * (1 + (ns.length : Int) / 4)) = some (.int x) := by rw [atI_map, e1]; rfl
    walk_at "go"
    rw [i1]
    walk_at "go"
    refine ⟨x, 60, 9, rfl, by decide, by decide, by decide, by decide, bits_lt (hB x e2), fun w1 r1 l1 m1 => ?_⟩
    walk_at "go"
    rw [VL.cutD_to _ (by decide), ← List.map_take]
    refine ⟨w1.take 20, rfl, by rw [List.length_take]; omega, ?_⟩
    walk_at "go"
    rw [List.append_assoc, List.singleton_append, at_last2]
    walk_at "go"
    refine ⟨w1, rfl, by omega, ?_⟩
    walk_at "go"
    refine ⟨inv w1, [3, 3, -2], rfl, by rw [inv_length]; show w1.length + 3 ≤ _; omega, ?_⟩
    walk_at "go"
    have l60 : w1.length ≤ 60 := l1
    refine ⟨ws ++ [w1] ++ [inv (w1.take 20)] ++ [tog (inv w1) [3, 3, -2]], .sh (.int (0 + (i : Int) * (1 + (ns.length : Int) / 4))), by simp only [List.length_append, List.length_singleton]; omega, by simp only [List.length_append, List.length_singleton]; omega, WOk.snoc (WOk.snoc (WOk.snoc hw ⟨r1, by omega⟩) ⟨inv_red (Red.take r1 20), by rw [inv_length, List.length_take]; omega⟩) ⟨tog_red (inv_red r1) (by decide), ?_⟩, ?_⟩
    · have := tog_len (inv w1) [3, 3, -2]
      rw [inv_length] at this
      simp at this
      omega
    · unfold intssD
      simp only [List.map_append, List.map_cons, List.map_nil, List.append_assoc, List.cons_append, List.nil_append]
  · rintro en ⟨ws, s2, h3, hl, hw, rfl⟩
    rw [List.length_range] at hl
    walk_at "go"
    refine forI ws.zipIdx (fun p => .tuple [.int (p.2 : Nat), intsD p.1]) (fun pre en => ∃ s2 s3 s4 s5 s6 s7 s8 s9 s10 : Sl, en = [.sh (intsD ns), .sh (intssD ws), s2, s3, s4, s5, s6, s7, s8, s9, s10]) (enumD_map intsD ws) ⟨_, _, _, _, _, _, _, _, _, rfl⟩ ?_ ?_
    · rintro pre ⟨v, i⟩ post en e ⟨s2, s3, s4, s5, s6, s7, s8, s9, s10, rfl⟩
      have hv : (v, i) ∈ ws.zipIdx := by rw [e]; simp
      obtain ⟨_, hi, _⟩ := List.mem_zipIdx hv
      have hv := List.fst_mem_of_mem_zipIdx hv
      obtain ⟨u, hu, hu2⟩ := atI_inD (xs := ws) intsD (k := (i : Int) - 1) (by omega) (by omega)
      obtain ⟨t, ht, ht2⟩ := atI_inD (xs := ws) intsD (k := (i : Int) - 2) (by omega) (by omega)
      obtain ⟨rv, lv⟩ := hw v hv
      obtain ⟨ru, lu⟩ := hw u hu2
      obtain ⟨rt, lt⟩ := hw t ht2
      walk_at "go"
      dsimp only
      rw [hu]
      walk_at "go"
      rw [ht]
      walk_at "go"
      refine forI (List.range 2) (fun i => .int (0 + (i : Nat))) (fun pre en => ∃ s2 s8 s9 s10 : Sl, en = [.sh (intsD ns), .sh (intssD ws), s2, .sh (.int (i : Nat)), .sh (intsD v), .sh (intsD u), .sh (intsD t), .sh (intssD [v, u]), s8, s9, s10]) rfl ⟨_, _, _, _, rfl⟩ ?_ ?_
      · rintro pre2 j post2 en e2 ⟨s2, s8, s9, s10, rfl⟩
        walk_at "go"
        refine ⟨v, u, rfl, by omega, by omega, rv, ru, ?_⟩
        walk_at "go"
        refine ⟨v, rfl, by omega, rv, ?_⟩
        walk_at "go"
        have lvu := tog_len v u
        have lut := tog_len u t
        have lvi : (inv v).length = v.length := inv_length v
        have lui : (inv u).length = u.length := inv_length u
        have rvu : Red (tog v u) := tog_red rv ru.1
        refine ⟨tog v u, rfl, by omega, ?_⟩
        walk_at "go"
        refine ⟨inv v, rfl, by omega, ?_⟩
        walk_at "go"
        refine neF (eqv_intss_t (a := [v, u]) (b := [v, u]) rfl) ?_
        walk_at "go"
        refine ⟨v, u, rfl, by omega, ?_⟩
        walk_at "go"
        refine neF (eqv_ints_t rfl) ?_
        walk_at "go"
        refine ⟨v, rfl, by omega, ?_⟩
        walk_at "go"
        refine neF (eqv_ints_t rfl) ?_
        walk_at "go"
        refine ⟨v, inv v, rfl, by omega, by omega, rv, inv_red rv, ?_⟩
        walk_at "go"
        refine neF (eqv_ints_t (b := []) (tog_inv rv)) ?_
        walk_at "go"
        refine ⟨inv v, rfl, by omega, inv_red rv, ?_⟩
        walk_at "go"
        refine neF (eqv_ints_t (inv_inv v)) ?_
        walk_at "go"
        refine ⟨tog v u, rfl, by omega, rvu, ?_⟩
        walk_at "go"
        refine ⟨u, rfl, by omega, ru, ?_⟩
        walk_at "go"
        refine ⟨inv u, inv v, rfl, by omega, by omega, inv_red ru, inv_red rv, ?_⟩
        walk_at "go"
        refine neF (eqv_ints_t (inv_tog rv ru)) ?_
        walk_at "go"
        refine ⟨tog v u, t, rfl, by omega, by omega, rvu, rt, ?_⟩
        walk_at "go"
        refine ⟨u, t, rfl, by omega, by omega, ru, rt, ?_⟩
        walk_at "go"
        refine ⟨v, tog u t, rfl, by omega, by omega, rv, tog_red ru rt.1, ?_⟩
        walk_at "go"
        refine neF (eqv_ints_t (tog_tog rv ru rt.1)) ?_
        walk_at "go"
        exact ⟨_, _, _, _, rfl⟩
      · rintro en ⟨s2, s8, s9, s10, rfl⟩
        exact ⟨_, _, _, _, _, _, _, _, _, rfl⟩
    · rintro en ⟨s2, s3, s4, s5, s6, s7, s8, s9, s10, rfl⟩
      walk_at "go"
      refine ⟨[1, 2], [-2, -1, 3], rfl, by decide, by decide, redB (by decide), redB (by decide), ?_⟩
      walk_at "go"
      refine ⟨[1, -2], rfl, by decide, redB (by decide), ?_⟩
      walk_at "go"
      exact congrArg D.bool (eqv_ints_t (a := inv [1, -2]) (b := [2, -1]) (by decide))

theorem all_mk {l : PySem.W.OpenLaw} {w : World} {K : PySem.W.Frag} {h : Heap} {mg : Str → Option Value} {fa : Addr} (X : K.In h) (G : h.Ns mainGlobals mg) (hfa : mg "law" = some (.ref fa))
    {f_law_draw : Addr} {od_law_draw an_law_draw : Option Addr} {sl_law_draw : Array (Option Value)} {oc_law_draw kV_law_draw dc_law_draw pm_law_draw cd_law_draw ct_law_draw : Value}
    (a_law_draw : PySem.W.nsIn K mainGlobals "_law_draw" = some (some (.ref f_law_draw))) (l_law_draw : K.lookup f_law_draw = some ⟨oc_law_draw, od_law_draw, .func (PySem.W.fnOf "_law_draw" "_law_draw" (defArgs s_law_draw) (defBody s_law_draw) (defScope s_law_draw) .none kV_law_draw dc_law_draw pm_law_draw an_law_draw cd_law_draw ct_law_draw), sl_law_draw⟩) (c_law_draw : PySem.W.codeIn K cd_law_draw "_law_draw" = true) (k_law_draw : PySem.W.keepIn K (.ref f_law_draw) = true)
    {f_law_value : Addr} {od_law_value an_law_value : Option Addr} {sl_law_value : Array (Option Value)} {oc_law_value kV_law_value dc_law_value pm_law_value cd_law_value ct_law_value : Value}
    (a_law_value : PySem.W.nsIn K mainGlobals "_law_value" = some (some (.ref f_law_value))) (l_law_value : K.lookup f_law_value = some ⟨oc_law_value, od_law_value, .func (PySem.W.fnOf "_law_value" "_law_value" (defArgs s_law_value) (defBody s_law_value) (defScope s_law_value) .none kV_law_value dc_law_value pm_law_value an_law_value cd_law_value ct_law_value), sl_law_value⟩) (c_law_value : PySem.W.codeIn K cd_law_value "_law_value" = true) (k_law_value : PySem.W.keepIn K (.ref f_law_value) = true)
    {f_is_whole : Addr} {od_is_whole an_is_whole : Option Addr} {sl_is_whole : Array (Option Value)} {oc_is_whole kV_is_whole dc_is_whole pm_is_whole cd_is_whole ct_is_whole : Value}
    (a_is_whole : PySem.W.nsIn K mainGlobals "is_whole" = some (some (.ref f_is_whole))) (l_is_whole : K.lookup f_is_whole = some ⟨oc_is_whole, od_is_whole, .func (PySem.W.fnOf "is_whole" "is_whole" (defArgs s_is_whole) (defBody s_is_whole) (defScope s_is_whole) .none kV_is_whole dc_is_whole pm_is_whole an_is_whole cd_is_whole ct_is_whole), sl_is_whole⟩) (c_is_whole : PySem.W.codeIn K cd_is_whole "is_whole" = true) (k_is_whole : PySem.W.keepIn K (.ref f_is_whole) = true)
    {f_is_word : Addr} {od_is_word an_is_word : Option Addr} {sl_is_word : Array (Option Value)} {oc_is_word kV_is_word dc_is_word pm_is_word cd_is_word ct_is_word : Value}
    (a_is_word : PySem.W.nsIn K mainGlobals "is_word" = some (some (.ref f_is_word))) (l_is_word : K.lookup f_is_word = some ⟨oc_is_word, od_is_word, .func (PySem.W.fnOf "is_word" "is_word" (defArgs s_is_word) (defBody s_is_word) (defScope s_is_word) .none kV_is_word dc_is_word pm_is_word an_is_word cd_is_word ct_is_word), sl_is_word⟩) (c_is_word : PySem.W.codeIn K cd_is_word "is_word" = true) (k_is_word : PySem.W.keepIn K (.ref f_is_word) = true)
    {f_check_word : Addr} {od_check_word an_check_word : Option Addr} {sl_check_word : Array (Option Value)} {oc_check_word kV_check_word dc_check_word pm_check_word cd_check_word ct_check_word : Value}
    (a_check_word : PySem.W.nsIn K mainGlobals "check_word" = some (some (.ref f_check_word))) (l_check_word : K.lookup f_check_word = some ⟨oc_check_word, od_check_word, .func (PySem.W.fnOf "check_word" "check_word" (defArgs s_check_word) (defBody s_check_word) (defScope s_check_word) .none kV_check_word dc_check_word pm_check_word an_check_word cd_check_word ct_check_word), sl_check_word⟩) (c_check_word : PySem.W.codeIn K cd_check_word "check_word" = true) (k_check_word : PySem.W.keepIn K (.ref f_check_word) = true)
    {f_joined : Addr} {od_joined an_joined : Option Addr} {sl_joined : Array (Option Value)} {oc_joined kV_joined dc_joined pm_joined cd_joined ct_joined : Value}
    (a_joined : PySem.W.nsIn K mainGlobals "joined" = some (some (.ref f_joined))) (l_joined : K.lookup f_joined = some ⟨oc_joined, od_joined, .func (PySem.W.fnOf "joined" "joined" (defArgs s_joined) (defBody s_joined) (defScope s_joined) .none kV_joined dc_joined pm_joined an_joined cd_joined ct_joined), sl_joined⟩) (c_joined : PySem.W.codeIn K cd_joined "joined" = true) (k_joined : PySem.W.keepIn K (.ref f_joined) = true)
    {f_together : Addr} {od_together an_together : Option Addr} {sl_together : Array (Option Value)} {oc_together kV_together dc_together pm_together cd_together ct_together : Value}
    (a_together : PySem.W.nsIn K mainGlobals "together" = some (some (.ref f_together))) (l_together : K.lookup f_together = some ⟨oc_together, od_together, .func (PySem.W.fnOf "together" "together" (defArgs s_together) (defBody s_together) (defScope s_together) .none kV_together dc_together pm_together an_together cd_together ct_together), sl_together⟩) (c_together : PySem.W.codeIn K cd_together "together" = true) (k_together : PySem.W.keepIn K (.ref f_together) = true)
    {f_undone_of : Addr} {od_undone_of an_undone_of : Option Addr} {sl_undone_of : Array (Option Value)} {oc_undone_of kV_undone_of dc_undone_of pm_undone_of cd_undone_of ct_undone_of : Value}
    (a_undone_of : PySem.W.nsIn K mainGlobals "undone_of" = some (some (.ref f_undone_of))) (l_undone_of : K.lookup f_undone_of = some ⟨oc_undone_of, od_undone_of, .func (PySem.W.fnOf "undone_of" "undone_of" (defArgs s_undone_of) (defBody s_undone_of) (defScope s_undone_of) .none kV_undone_of dc_undone_of pm_undone_of an_undone_of cd_undone_of ct_undone_of), sl_undone_of⟩) (c_undone_of : PySem.W.codeIn K cd_undone_of "undone_of" = true) (k_undone_of : PySem.W.keepIn K (.ref f_undone_of) = true)
    {f_undone : Addr} {od_undone an_undone : Option Addr} {sl_undone : Array (Option Value)} {oc_undone kV_undone dc_undone pm_undone cd_undone ct_undone : Value}
    (a_undone : PySem.W.nsIn K mainGlobals "undone" = some (some (.ref f_undone))) (l_undone : K.lookup f_undone = some ⟨oc_undone, od_undone, .func (PySem.W.fnOf "undone" "undone" (defArgs s_undone) (defBody s_undone) (defScope s_undone) .none kV_undone dc_undone pm_undone an_undone cd_undone ct_undone), sl_undone⟩) (c_undone : PySem.W.codeIn K cd_undone "undone" = true) (k_undone : PySem.W.keepIn K (.ref f_undone) = true)
    {f_law_joined : Addr} {od_law_joined an_law_joined : Option Addr} {sl_law_joined : Array (Option Value)} {oc_law_joined kV_law_joined dc_law_joined pm_law_joined cd_law_joined ct_law_joined : Value}
    (a_law_joined : PySem.W.nsIn K mainGlobals "_law_joined" = some (some (.ref f_law_joined))) (l_law_joined : K.lookup f_law_joined = some ⟨oc_law_joined, od_law_joined, .func (PySem.W.fnOf "_law_joined" "_law_joined" (defArgs s_law_joined) (defBody s_law_joined) (defScope s_law_joined) .none kV_law_joined dc_law_joined pm_law_joined an_law_joined cd_law_joined ct_law_joined), sl_law_joined⟩) (c_law_joined : PySem.W.codeIn K cd_law_joined "_law_joined" = true) (k_law_joined : PySem.W.keepIn K (.ref f_law_joined) = true)
    {f_law_undone : Addr} {od_law_undone an_law_undone : Option Addr} {sl_law_undone : Array (Option Value)} {oc_law_undone kV_law_undone dc_law_undone pm_law_undone cd_law_undone ct_law_undone : Value}
    (a_law_undone : PySem.W.nsIn K mainGlobals "_law_undone" = some (some (.ref f_law_undone))) (l_law_undone : K.lookup f_law_undone = some ⟨oc_law_undone, od_law_undone, .func (PySem.W.fnOf "_law_undone" "_law_undone" (defArgs s_law_undone) (defBody s_law_undone) (defScope s_law_undone) .none kV_law_undone dc_law_undone pm_law_undone an_law_undone cd_law_undone ct_law_undone), sl_law_undone⟩) (c_law_undone : PySem.W.codeIn K cd_law_undone "_law_undone" = true) (k_law_undone : PySem.W.keepIn K (.ref f_law_undone) = true)
    {f_law_drawn_word : Addr} {od_law_drawn_word an_law_drawn_word : Option Addr} {sl_law_drawn_word : Array (Option Value)} {oc_law_drawn_word kV_law_drawn_word dc_law_drawn_word pm_law_drawn_word cd_law_drawn_word ct_law_drawn_word : Value}
    (a_law_drawn_word : PySem.W.nsIn K mainGlobals "_law_drawn_word" = some (some (.ref f_law_drawn_word))) (l_law_drawn_word : K.lookup f_law_drawn_word = some ⟨oc_law_drawn_word, od_law_drawn_word, .func (PySem.W.fnOf "_law_drawn_word" "_law_drawn_word" (defArgs s_law_drawn_word) (defBody s_law_drawn_word) (defScope s_law_drawn_word) .none kV_law_drawn_word dc_law_drawn_word pm_law_drawn_word an_law_drawn_word cd_law_drawn_word ct_law_drawn_word), sl_law_drawn_word⟩) (c_law_drawn_word : PySem.W.codeIn K cd_law_drawn_word "_law_drawn_word" = true) (k_law_drawn_word : PySem.W.keepIn K (.ref f_law_drawn_word) = true)
    {f_law_whole : Addr} {od_law_whole an_law_whole : Option Addr} {sl_law_whole : Array (Option Value)} {oc_law_whole kV_law_whole dc_law_whole pm_law_whole cd_law_whole ct_law_whole : Value}
    (a_law_whole : PySem.W.nsIn K mainGlobals "_law_whole" = some (some (.ref f_law_whole))) (l_law_whole : K.lookup f_law_whole = some ⟨oc_law_whole, od_law_whole, .func (PySem.W.fnOf "_law_whole" "_law_whole" (defArgs s_law_whole) (defBody s_law_whole) (defScope s_law_whole) .none kV_law_whole dc_law_whole pm_law_whole an_law_whole cd_law_whole ct_law_whole), sl_law_whole⟩) (c_law_whole : PySem.W.codeIn K cd_law_whole "_law_whole" = true) (k_law_whole : PySem.W.keepIn K (.ref f_law_whole) = true)
    {f_law_are_numbers : Addr} {od_law_are_numbers an_law_are_numbers : Option Addr} {sl_law_are_numbers : Array (Option Value)} {oc_law_are_numbers kV_law_are_numbers dc_law_are_numbers pm_law_are_numbers cd_law_are_numbers ct_law_are_numbers : Value}
    (a_law_are_numbers : PySem.W.nsIn K mainGlobals "_law_are_numbers" = some (some (.ref f_law_are_numbers))) (l_law_are_numbers : K.lookup f_law_are_numbers = some ⟨oc_law_are_numbers, od_law_are_numbers, .func (PySem.W.fnOf "_law_are_numbers" "_law_are_numbers" (defArgs s_law_are_numbers) (defBody s_law_are_numbers) (defScope s_law_are_numbers) .none kV_law_are_numbers dc_law_are_numbers pm_law_are_numbers an_law_are_numbers cd_law_are_numbers ct_law_are_numbers), sl_law_are_numbers⟩) (c_law_are_numbers : PySem.W.codeIn K cd_law_are_numbers "_law_are_numbers" = true) (k_law_are_numbers : PySem.W.keepIn K (.ref f_law_are_numbers) = true)
    {f_law : Addr} {od_law an_law : Option Addr} {sl_law : Array (Option Value)} {oc_law kV_law dc_law pm_law cd_law ct_law : Value}
    (a_law : PySem.W.nsIn K mainGlobals "law" = some (some (.ref f_law))) (l_law : K.lookup f_law = some ⟨oc_law, od_law, .func (PySem.W.fnOf "law" "law" (defArgs s_law) (defBody s_law) (defScope s_law) .none kV_law dc_law pm_law an_law cd_law ct_law), sl_law⟩) (c_law : PySem.W.codeIn K cd_law "law" = true) (k_law : PySem.W.keepIn K (.ref f_law) = true)
    {t_GREATEST : Tok} (g_GREATEST : PySem.W.nsIn K mainGlobals "GREATEST" = some (some (.int 2000 t_GREATEST)))
    (z_isinstance : PySem.W.nsIn K mainGlobals "isinstance" = some none)
    (z_bool : PySem.W.nsIn K mainGlobals "bool" = some none)
    (z_int : PySem.W.nsIn K mainGlobals "int" = some none)
    (z_all : PySem.W.nsIn K mainGlobals "all" = some none)
    (z_len : PySem.W.nsIn K mainGlobals "len" = some none)
    (z_list : PySem.W.nsIn K mainGlobals "list" = some none)
    (z_any : PySem.W.nsIn K mainGlobals "any" = some none)
    (z_range : PySem.W.nsIn K mainGlobals "range" = some none)
    (z_enumerate : PySem.W.nsIn K mainGlobals "enumerate" = some none)
    : ∃ fd : FuncData, (∀ (s : Shared) (v : Value), BindsTo s fd ⟨[v], []⟩ [("_law_script", v)]) ∧ ∀ base : Heap, K.In base → base.Ns mainGlobals mg → FnOk l.prog w K mg base CX0 5 fa fd ["_law_script"] (spLawB K) := by
  have e := hfa.symm.trans (PySem.W.mg_of X G a_law)
  cases e
  have b_law_draw := (fun_mk (st := s_law_draw) l_law_draw c_law_draw k_law_draw).binds (ps := ["_law_cell", "_law_k", "_law_many"]) fun _ _ _ _ _ _ us hl => match us, hl with | [_, _, _], _ => rfl
  have D_law_draw : Dfn K mg "_law_draw" s_law_draw ["_law_cell", "_law_k", "_law_many"] := dfn_mk X G a_law_draw l_law_draw c_law_draw k_law_draw b_law_draw
  have b_law_value := (fun_mk (st := s_law_value) l_law_value c_law_value k_law_value).binds (ps := ["_law_cell", "_law_turn"]) fun _ _ _ _ _ _ us hl => match us, hl with | [_, _], _ => rfl
  have D_law_value : Dfn K mg "_law_value" s_law_value ["_law_cell", "_law_turn"] := dfn_mk X G a_law_value l_law_value c_law_value k_law_value b_law_value
  have b_is_whole := (fun_mk (st := s_is_whole) l_is_whole c_is_whole k_is_whole).binds (ps := ["thing"]) fun _ _ _ _ _ _ us hl => match us, hl with | [_], _ => rfl
  have D_is_whole : Dfn K mg "is_whole" s_is_whole ["thing"] := dfn_mk X G a_is_whole l_is_whole c_is_whole k_is_whole b_is_whole
  have b_is_word := (fun_mk (st := s_is_word) l_is_word c_is_word k_is_word).binds (ps := ["thing"]) fun _ _ _ _ _ _ us hl => match us, hl with | [_], _ => rfl
  have D_is_word : Dfn K mg "is_word" s_is_word ["thing"] := dfn_mk X G a_is_word l_is_word c_is_word k_is_word b_is_word
  have b_check_word := (fun_mk (st := s_check_word) l_check_word c_check_word k_check_word).binds (ps := ["thing"]) fun _ _ _ _ _ _ us hl => match us, hl with | [_], _ => rfl
  have D_check_word : Dfn K mg "check_word" s_check_word ["thing"] := dfn_mk X G a_check_word l_check_word c_check_word k_check_word b_check_word
  have b_joined := (fun_mk (st := s_joined) l_joined c_joined k_joined).binds (ps := ["one", "other"]) fun _ _ _ _ _ _ us hl => match us, hl with | [_, _], _ => rfl
  have D_joined : Dfn K mg "joined" s_joined ["one", "other"] := dfn_mk X G a_joined l_joined c_joined k_joined b_joined
  have b_together := (fun_mk (st := s_together) l_together c_together k_together).binds (ps := ["one", "other"]) fun _ _ _ _ _ _ us hl => match us, hl with | [_, _], _ => rfl
  have D_together : Dfn K mg "together" s_together ["one", "other"] := dfn_mk X G a_together l_together c_together k_together b_together
  have b_undone_of := (fun_mk (st := s_undone_of) l_undone_of c_undone_of k_undone_of).binds (ps := ["word"]) fun _ _ _ _ _ _ us hl => match us, hl with | [_], _ => rfl
  have D_undone_of : Dfn K mg "undone_of" s_undone_of ["word"] := dfn_mk X G a_undone_of l_undone_of c_undone_of k_undone_of b_undone_of
  have b_undone := (fun_mk (st := s_undone) l_undone c_undone k_undone).binds (ps := ["word"]) fun _ _ _ _ _ _ us hl => match us, hl with | [_], _ => rfl
  have D_undone : Dfn K mg "undone" s_undone ["word"] := dfn_mk X G a_undone l_undone c_undone k_undone b_undone
  have b_law_joined := (fun_mk (st := s_law_joined) l_law_joined c_law_joined k_law_joined).binds (ps := ["_law_one", "_law_other"]) fun _ _ _ _ _ _ us hl => match us, hl with | [_, _], _ => rfl
  have D_law_joined : Dfn K mg "_law_joined" s_law_joined ["_law_one", "_law_other"] := dfn_mk X G a_law_joined l_law_joined c_law_joined k_law_joined b_law_joined
  have b_law_undone := (fun_mk (st := s_law_undone) l_law_undone c_law_undone k_law_undone).binds (ps := ["_law_word"]) fun _ _ _ _ _ _ us hl => match us, hl with | [_], _ => rfl
  have D_law_undone : Dfn K mg "_law_undone" s_law_undone ["_law_word"] := dfn_mk X G a_law_undone l_law_undone c_law_undone k_law_undone b_law_undone
  have b_law_drawn_word := (fun_mk (st := s_law_drawn_word) l_law_drawn_word c_law_drawn_word k_law_drawn_word).binds (ps := ["_law_cell", "_law_many", "_law_most"]) fun _ _ _ _ _ _ us hl => match us, hl with | [_, _, _], _ => rfl
  have D_law_drawn_word : Dfn K mg "_law_drawn_word" s_law_drawn_word ["_law_cell", "_law_many", "_law_most"] := dfn_mk X G a_law_drawn_word l_law_drawn_word c_law_drawn_word k_law_drawn_word b_law_drawn_word
  have b_law_whole := (fun_mk (st := s_law_whole) l_law_whole c_law_whole k_law_whole).binds (ps := ["_law_number"]) fun _ _ _ _ _ _ us hl => match us, hl with | [_], _ => rfl
  have D_law_whole : Dfn K mg "_law_whole" s_law_whole ["_law_number"] := dfn_mk X G a_law_whole l_law_whole c_law_whole k_law_whole b_law_whole
  have b_law_are_numbers := (fun_mk (st := s_law_are_numbers) l_law_are_numbers c_law_are_numbers k_law_are_numbers).binds (ps := ["_law_found"]) fun _ _ _ _ _ _ us hl => match us, hl with | [_], _ => rfl
  have D_law_are_numbers : Dfn K mg "_law_are_numbers" s_law_are_numbers ["_law_found"] := dfn_mk X G a_law_are_numbers l_law_are_numbers c_law_are_numbers k_law_are_numbers b_law_are_numbers
  refine ⟨PySem.W.fnOf "law" "law" (defArgs s_law) (defBody s_law) (defScope s_law) .none kV_law dc_law pm_law an_law cd_law ct_law, fun s v => .of_eq rfl, fun base _ _ => ?_⟩
  have C_law_draw : Cal l.prog w K mg base 1 "_law_draw" ["_law_cell", "_law_k", "_law_many"] sp_law_draw := ok_law_draw D_law_draw 
  have C_law_value : Cal l.prog w K mg base 2 "_law_value" ["_law_cell", "_law_turn"] sp_law_value := ok_law_value D_law_value C_law_draw
  have C_is_whole : Cal l.prog w K mg base 1 "is_whole" ["thing"] sp_is_whole := ok_is_whole D_is_whole (nb_mk X G fun x hx => by simp only [List.mem_cons, List.not_mem_nil, or_false] at hx; rcases hx with rfl | rfl | rfl <;> assumption)
  have C_is_word : Cal l.prog w K mg base 2 "is_word" ["thing"] sp_is_word := ok_is_word D_is_word C_is_whole (nb_mk X G fun x hx => by simp only [List.mem_cons, List.not_mem_nil, or_false] at hx; rcases hx with rfl | rfl | rfl | rfl | rfl | rfl <;> assumption) ⟨_, PySem.W.mg_of X G g_GREATEST⟩
  have C_check_word : Cal l.prog w K mg base 3 "check_word" ["thing"] sp_check_word := ok_check_word D_check_word C_is_word
  have C_joined : Cal l.prog w K mg base 1 "joined" ["one", "other"] sp_joined := ok_joined D_joined (nb_mk X G fun x hx => by simp only [List.mem_cons, List.not_mem_nil, or_false] at hx; rcases hx with rfl | rfl <;> assumption)
  have C_together : Cal l.prog w K mg base 4 "together" ["one", "other"] sp_together := ok_together D_together C_check_word C_joined
  have C_undone_of : Cal l.prog w K mg base 1 "undone_of" ["word"] sp_undone_of := ok_undone_of D_undone_of 
  have C_undone : Cal l.prog w K mg base 4 "undone" ["word"] sp_undone := ok_undone D_undone C_check_word C_undone_of
  have C_law_joined : Cal l.prog w K mg base 1 "_law_joined" ["_law_one", "_law_other"] sp_law_joined := ok_law_joined D_law_joined (nb_mk X G fun x hx => by simp only [List.mem_cons, List.not_mem_nil, or_false] at hx; subst hx; assumption)
  have C_law_undone : Cal l.prog w K mg base 1 "_law_undone" ["_law_word"] sp_law_undone := ok_law_undone D_law_undone 
  have C_law_drawn_word : Cal l.prog w K mg base 3 "_law_drawn_word" ["_law_cell", "_law_many", "_law_most"] sp_law_drawn_word := ok_law_drawn_word D_law_drawn_word C_law_value C_law_joined (nb_mk X G fun x hx => by simp only [List.mem_cons, List.not_mem_nil, or_false] at hx; subst hx; assumption)
  have C_law_whole : Cal l.prog w K mg base 1 "_law_whole" ["_law_number"] sp_law_whole := ok_law_whole D_law_whole (nb_mk X G fun x hx => by simp only [List.mem_cons, List.not_mem_nil, or_false] at hx; rcases hx with rfl | rfl | rfl <;> assumption)
  have C_law_are_numbers : Cal l.prog w K mg base 2 "_law_are_numbers" ["_law_found"] sp_law_are_numbers := ok_law_are_numbers D_law_are_numbers C_law_whole (nb_mk X G fun x hx => by simp only [List.mem_cons, List.not_mem_nil, or_false] at hx; rcases hx with rfl | rfl | rfl <;> assumption)
  exact ok_law (fun_mk (st := s_law) l_law c_law k_law) C_law_drawn_word C_law_undone C_law_joined C_undone C_together C_law_are_numbers (nb_mk X G fun x hx => by simp only [List.mem_cons, List.not_mem_nil, or_false] at hx; rcases hx with rfl | rfl | rfl | rfl <;> assumption)
end Mw
open PySem PySem.W PyProof.Rows
set_option maxHeartbeats 0 in
theorem PySem.Challenge.cw_moorwalk_k24_together_holds : PySem.Challenge.rw_moorwalk_k24_together.Holds := by
  w_on; o_law; k_head; (case hw => w_witness2)
  k_fill
  refine L2.walk_ofB (l := PySem.Challenge.rw_moorwalk_k24_together) (n := 63) (k := 5) (x := "_law_script") (CX := fun _ => L2.CX0) (sp := fun w => VL.spLawB _) rfl (by decide) rfl ⟨rfl, by decide, by decide⟩ (fun w h Y => PySem.W.kIn_of Y) ?F (fun _ _ a ns hl hB _ hS => ⟨a, ns, rfl, hS, hB, fun _ => rfl⟩) (fun _ _ _ _ _ h => h)
  case F =>
    intro w mg fa h KX G hmg
    refine' Mw.all_mk KX G hmg ?a_law_draw ?l_law_draw ?c_law_draw ?k_law_draw ?a_law_value ?l_law_value ?c_law_value ?k_law_value ?a_is_whole ?l_is_whole ?c_is_whole ?k_is_whole ?a_is_word ?l_is_word ?c_is_word ?k_is_word ?a_check_word ?l_check_word ?c_check_word ?k_check_word ?a_joined ?l_joined ?c_joined ?k_joined ?a_together ?l_together ?c_together ?k_together ?a_undone_of ?l_undone_of ?c_undone_of ?k_undone_of ?a_undone ?l_undone ?c_undone ?k_undone ?a_law_joined ?l_law_joined ?c_law_joined ?k_law_joined ?a_law_undone ?l_law_undone ?c_law_undone ?k_law_undone ?a_law_drawn_word ?l_law_drawn_word ?c_law_drawn_word ?k_law_drawn_word ?a_law_whole ?l_law_whole ?c_law_whole ?k_law_whole ?a_law_are_numbers ?l_law_are_numbers ?c_law_are_numbers ?k_law_are_numbers ?a_law ?l_law ?c_law ?k_law ?g_GREATEST ?z_isinstance ?z_bool ?z_int ?z_all ?z_len ?z_list ?z_any ?z_range ?z_enumerate
    (case a_law_draw => k_is); (case l_law_draw => k_is); (case c_law_draw => k_is); (case k_law_draw => k_is); (case a_law_value => k_is); (case l_law_value => k_is); (case c_law_value => k_is); (case k_law_value => k_is); (case a_is_whole => k_is); (case l_is_whole => k_is); (case c_is_whole => k_is); (case k_is_whole => k_is); (case a_is_word => k_is); (case l_is_word => k_is); (case c_is_word => k_is); (case k_is_word => k_is); (case a_check_word => k_is); (case l_check_word => k_is); (case c_check_word => k_is); (case k_check_word => k_is); (case a_joined => k_is); (case l_joined => k_is); (case c_joined => k_is); (case k_joined => k_is); (case a_together => k_is); (case l_together => k_is); (case c_together => k_is); (case k_together => k_is); (case a_undone_of => k_is); (case l_undone_of => k_is); (case c_undone_of => k_is); (case k_undone_of => k_is); (case a_undone => k_is); (case l_undone => k_is); (case c_undone => k_is); (case k_undone => k_is); (case a_law_joined => k_is); (case l_law_joined => k_is); (case c_law_joined => k_is); (case k_law_joined => k_is); (case a_law_undone => k_is); (case l_law_undone => k_is); (case c_law_undone => k_is); (case k_law_undone => k_is); (case a_law_drawn_word => k_is); (case l_law_drawn_word => k_is); (case c_law_drawn_word => k_is); (case k_law_drawn_word => k_is); (case a_law_whole => k_is); (case l_law_whole => k_is); (case c_law_whole => k_is); (case k_law_whole => k_is); (case a_law_are_numbers => k_is); (case l_law_are_numbers => k_is); (case c_law_are_numbers => k_is); (case k_law_are_numbers => k_is); (case a_law => k_is); (case l_law => k_is); (case c_law => k_is); (case k_law => k_is); (case g_GREATEST => k_is); (case z_isinstance => k_is); (case z_bool => k_is); (case z_int => k_is); (case z_all => k_is); (case z_len => k_is); (case z_list => k_is); (case z_any => k_is); (case z_range => k_is); (case z_enumerate => k_is)

