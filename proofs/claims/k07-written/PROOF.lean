import PyProof.Rows.All
import Wide.All
import OpenK.AllK
import Wide.FinOn
import HandS.ForMost
import HandS.ForExc
import HandS.Wide
import HandS.Evl
import HandS.TupAny
import HandS.TupMul
import HandS.NoneIn
import HandS.Zip
import HandS.IsInst
import HandS.Text
import HandS.StrMore
import HandS.Comp
import HandS.Style
import PyProof.StrOps2
import HandS.ExcOwn
import HandS.ExcInit
import HandS.ExcIs
import HandS.ExcField
import HandS.Replace
import HandS.CallLocal
import PySem.Challenge.RW_tensloft_k07_written
set_option Elab.async false
set_option linter.all false
set_option maxRecDepth 100000
set_option maxHeartbeats 2000000
namespace Tm
open PySem L2
inductive MV where
  | non | bl (b : Bool) | int (i : Int) | str (x : Str)
  | tup (xs : List MV) | lst (xs : List MV) | own (xs : List MV)
  | raw (v : V) | scr (ns : List Int)
  | fnc (x : Str)
  | obj (C : Str) (fs : List (Str × MV))
instance : Inhabited MV := ⟨.non⟩
abbrev Env := List (Option MV)
structure MX where
  cls : Str
  fs : List (Str × MV)
inductive Res (α : Type) where
  | ok (a : α) | exc (e : MX) (ρ : Env) | stuck
inductive Fl where
  | nx | br | ct | rt (x : MV)

open Evl (Ex ex_rd ex_l ex_t)
theorem _root_.Evl.Ex.back {H H' : Hp} {p : Addr} (e : Ex H H') (h : H' p = none) : H p = none := Evl.fresh_back e h
theorem _root_.Evl.Ex.both {H H' : Hp} {p : Addr} {o : HO} (e : Ex H H') (h : H' p = none) : Ex (upd H p o) (upd H' p o) := fun a u ha => by
  by_cases hp : a = p
  · subst hp; rw [upd_same] at ha ⊢; exact ha
  · rw [upd_ne hp] at ha ⊢; exact e a u ha
theorem _root_.Evl.Ex.updL {H H' : Hp} {p : Addr} {o : HO} (e : Ex H H') (h : H' p = some o) : Ex (upd H p o) H' := fun a u ha => by
  by_cases hp : a = p
  · subst hp; rw [upd_same] at ha; cases ha; exact h
  · rw [upd_ne hp] at ha; exact e a u ha

/-! ### a value is told by a plain one -/
mutual
def RV (K : PySem.W.Frag) (H : Hp) : MV → V → Prop
  | .non, v => v = .non
  | .bl b, v => v = .bl b
  | .int i, v => v = .int i
  | .str x, v => v = .str x
  | .tup xs, v => ∃ a vs, v = .ref a ∧ SqT K H a vs ∧ RVs K H xs vs
  | .lst xs, v => ∃ a vs, v = .ref a ∧ H a = some (.lst vs) ∧ RVs K H xs vs
  | .own _, _ => False
  | .raw w, v => v = w
  | .scr ns, v => ∃ a, v = .ref a ∧ SqL K H a (ns.map V.int)
  | .fnc x, v => ∃ a, v = .ref a ∧ PySem.W.nsIn K mainGlobals x = some (some (.ref a))
  | .obj _ _, _ => False
def RVs (K : PySem.W.Frag) (H : Hp) : List MV → List V → Prop
  | [], vs => vs = []
  | x :: xs, vs => ∃ v r, vs = v :: r ∧ RV K H x v ∧ RVs K H xs r
end
mutual
theorem RV.mono {K : PySem.W.Frag} {H H' : Hp} (e : Ex H H') : ∀ (x : MV) (v : V), RV K H x v → RV K H' x v
  | .non, v, h => by unfold RV at h ⊢; exact h
  | .bl b, v, h => by unfold RV at h ⊢; exact h
  | .int i, v, h => by unfold RV at h ⊢; exact h
  | .str x, v, h => by unfold RV at h ⊢; exact h
  | .tup xs, v, h => by
    unfold RV at h ⊢
    obtain ⟨a, vs, e1, e2, e3⟩ := h
    exact ⟨a, vs, e1, ex_t e e2, RVs.mono e xs vs e3⟩
  | .lst xs, v, h => by
    unfold RV at h ⊢
    obtain ⟨a, vs, e1, e2, e3⟩ := h
    exact ⟨a, vs, e1, e _ _ e2, RVs.mono e xs vs e3⟩
  | .own xs, v, h => by unfold RV at h; exact h.elim
  | .raw w, v, h => by unfold RV at h ⊢; exact h
  | .scr ns, v, h => by
    unfold RV at h ⊢
    obtain ⟨a, e1, e2⟩ := h
    exact ⟨a, e1, ex_l e e2⟩
  | .fnc x, v, h => by unfold RV at h ⊢; exact h
  | .obj C fs, v, h => by unfold RV at h; exact h.elim
theorem RVs.mono {K : PySem.W.Frag} {H H' : Hp} (e : Ex H H') : ∀ (xs : List MV) (vs : List V), RVs K H xs vs → RVs K H' xs vs
  | [], vs, h => by unfold RVs at h ⊢; exact h
  | x :: xs, vs, h => by
    unfold RVs at h ⊢
    obtain ⟨v, r, e1, e2, e3⟩ := h
    exact ⟨v, r, e1, RV.mono e x v e2, RVs.mono e xs r e3⟩
end
section
variable {K : PySem.W.Frag} {H : Hp}
theorem RV.int {i : Int} {v : V} : RV K H (.int i) v ↔ v = .int i := by unfold RV; rfl
theorem RV.bl {i : Bool} {v : V} : RV K H (.bl i) v ↔ v = .bl i := by unfold RV; rfl
theorem RV.str {i : Str} {v : V} : RV K H (.str i) v ↔ v = .str i := by unfold RV; rfl
theorem RV.non {v : V} : RV K H .non v ↔ v = .non := by unfold RV; rfl
theorem RV.raw {w v : V} : RV K H (.raw w) v ↔ v = w := by unfold RV; rfl
theorem RV.tup {xs : List MV} {v : V} : RV K H (.tup xs) v ↔ ∃ a vs, v = .ref a ∧ SqT K H a vs ∧ RVs K H xs vs := by
  constructor <;> intro h <;> (unfold RV at *; exact h)
theorem RV.lst {xs : List MV} {v : V} : RV K H (.lst xs) v ↔ ∃ a vs, v = .ref a ∧ H a = some (.lst vs) ∧ RVs K H xs vs := by
  constructor <;> intro h <;> (unfold RV at *; exact h)
theorem RV.scr {ns : List Int} {v : V} : RV K H (.scr ns) v ↔ ∃ a, v = .ref a ∧ SqL K H a (ns.map V.int) := by
  constructor <;> intro h <;> (unfold RV at *; exact h)
theorem RV.fnc {x : Str} {v : V} : RV K H (.fnc x) v ↔ ∃ a, v = .ref a ∧ PySem.W.nsIn K mainGlobals x = some (some (.ref a)) := by
  constructor <;> intro h <;> (unfold RV at *; exact h)
theorem RVs.nil {vs : List V} : RVs K H [] vs ↔ vs = [] := by unfold RVs; rfl
theorem RVs.cons {x : MV} {xs : List MV} {vs : List V} : RVs K H (x :: xs) vs ↔ ∃ v r, vs = v :: r ∧ RV K H x v ∧ RVs K H xs r := by
  rw [RVs]
theorem RVs.length : ∀ {xs : List MV} {vs : List V}, RVs K H xs vs → vs.length = xs.length
  | [], vs, h => by rw [RVs.nil] at h; subst h; rfl
  | x :: xs, vs, h => by
    rw [RVs.cons] at h
    obtain ⟨v, r, rfl, _, h⟩ := h
    simp [RVs.length h]
theorem RVs.get : ∀ {xs : List MV} {vs : List V} {i : Nat} {x : MV}, RVs K H xs vs → xs[i]? = some x → ∃ v, vs[i]? = some v ∧ RV K H x v
  | [], _, i, x, _, e => by simp at e
  | y :: xs, vs, 0, x, h, e => by
    rw [RVs.cons] at h
    obtain ⟨v, r, rfl, h1, _⟩ := h
    simp at e; subst e; exact ⟨v, rfl, h1⟩
  | y :: xs, vs, i + 1, x, h, e => by
    rw [RVs.cons] at h
    obtain ⟨v, r, rfl, _, h⟩ := h
    obtain ⟨u, h1, h2⟩ := RVs.get (i := i) (x := x) h (by simpa using e)
    exact ⟨u, by simpa using h1, h2⟩
theorem RVs.append : ∀ {xs ys : List MV} {vs ws : List V}, RVs K H xs vs → RVs K H ys ws → RVs K H (xs ++ ys) (vs ++ ws)
  | [], ys, vs, ws, h, h2 => by rw [RVs.nil] at h; subst h; exact h2
  | x :: xs, ys, vs, ws, h, h2 => by
    rw [RVs.cons] at h
    obtain ⟨v, r, rfl, h1, h⟩ := h
    show RVs K H (x :: (xs ++ ys)) (v :: (r ++ ws))
    rw [RVs.cons]
    exact ⟨v, r ++ ws, rfl, h1, RVs.append h h2⟩
theorem RVs.take : ∀ {xs : List MV} {vs : List V} (n : Nat), RVs K H xs vs → RVs K H (xs.take n) (vs.take n)
  | _, _, 0, _ => by simp [RVs]
  | [], vs, n + 1, h => by rw [RVs.nil] at h; subst h; simp [RVs]
  | x :: xs, vs, n + 1, h => by
    rw [RVs.cons] at h
    obtain ⟨v, r, rfl, h1, h⟩ := h
    show RVs K H (x :: xs.take n) (v :: r.take n)
    rw [RVs.cons]
    exact ⟨v, _, rfl, h1, RVs.take n h⟩
theorem RVs.drop : ∀ {xs : List MV} {vs : List V} (n : Nat), RVs K H xs vs → RVs K H (xs.drop n) (vs.drop n)
  | _, _, 0, h => h
  | [], vs, n + 1, h => by rw [RVs.nil] at h; subst h; simp [RVs]
  | x :: xs, vs, n + 1, h => by
    rw [RVs.cons] at h
    obtain ⟨v, r, rfl, h1, h⟩ := h
    exact RVs.drop n h
theorem RVs.set : ∀ {xs : List MV} {vs : List V} (i : Nat) {x : MV} {v : V}, RVs K H xs vs → RV K H x v → RVs K H (xs.set i x) (vs.set i v)
  | [], vs, i, x, v, h, _ => by rw [RVs.nil] at h; subst h; simp [RVs]
  | y :: xs, vs, 0, x, v, h, h2 => by
    rw [RVs.cons] at h
    obtain ⟨u, r, rfl, h1, h⟩ := h
    show RVs K H (x :: xs) (v :: r)
    rw [RVs.cons]; exact ⟨v, r, rfl, h2, h⟩
  | y :: xs, vs, i + 1, x, v, h, h2 => by
    rw [RVs.cons] at h
    obtain ⟨u, r, rfl, h1, h⟩ := h
    show RVs K H (y :: xs.set i x) (u :: r.set i v)
    rw [RVs.cons]; exact ⟨u, _, rfl, h1, RVs.set i h h2⟩
theorem RVs.reverse : ∀ {xs : List MV} {vs : List V}, RVs K H xs vs → RVs K H xs.reverse vs.reverse
  | [], vs, h => by rw [RVs.nil] at h; subst h; simp [RVs]
  | x :: xs, vs, h => by
    rw [RVs.cons] at h
    obtain ⟨v, r, rfl, h1, h⟩ := h
    rw [List.reverse_cons, List.reverse_cons]
    refine RVs.append (RVs.reverse h) ?_
    rw [RVs.cons]; exact ⟨v, [], rfl, h1, RVs.nil.mpr rfl⟩
theorem RVs.ints : ∀ {ns : List Int} {vs : List V}, RVs K H (ns.map MV.int) vs ↔ vs = ns.map V.int
  | [], vs => RVs.nil
  | n :: ns, vs => by
    rw [List.map_cons, RVs.cons]
    constructor
    · rintro ⟨v, r, rfl, h1, h2⟩
      rw [RV.int.mp h1, RVs.ints.mp h2]; rfl
    · rintro rfl
      exact ⟨_, _, rfl, RV.int.mpr rfl, RVs.ints.mpr rfl⟩
end

/-! ### what is owned: a list, an object, their addresses -/
def OF (K : PySem.W.Frag) (Hk H : Hp) : MV → V → List Addr → Prop
  | .own xs, v, A => ∃ p vs, v = .ref p ∧ A = [p] ∧ H p = some (.lst vs) ∧ RVs K Hk xs vs
  | x, v, A => A = [] ∧ RV K Hk x v
def OFs (K : PySem.W.Frag) (Hk H : Hp) : List (Str × MV) → List (Str × V) → List Addr → Prop
  | [], vs, A => vs = [] ∧ A = []
  | (n, x) :: xs, vs, A => ∃ v r B C, vs = (n, v) :: r ∧ A = B ++ C ∧ OF K Hk H x v B ∧ OFs K Hk H xs r C
def OV (K : PySem.W.Frag) (Hk H : Hp) : MV → V → List Addr → Prop
  | .obj C fs, v, A => ∃ p CA dx vfs B, v = .ref p ∧ A = p :: B ∧ PySem.W.nsIn K mainGlobals C = some (some (.ref CA)) ∧ H p = some (.ins CA dx vfs) ∧ OFs K Hk H fs vfs B ∧ (p :: B).Nodup
  | x, v, A => OF K Hk H x v A
def MV.per : MV → Bool
  | .own _ => false
  | .obj _ _ => false
  | _ => true
theorem OF.per {K : PySem.W.Frag} {Hk H : Hp} {x : MV} {v : V} {A : List Addr} (h : x.per = true) : OF K Hk H x v A ↔ A = [] ∧ RV K Hk x v := by
  cases x <;> first | (simp [MV.per] at h; done) | (unfold OF; rfl)
theorem OV.per {K : PySem.W.Frag} {Hk H : Hp} {x : MV} {v : V} {A : List Addr} (h : x.per = true) : OV K Hk H x v A ↔ A = [] ∧ RV K Hk x v := by
  cases x <;> first | (simp [MV.per] at h; done) | (unfold OV OF; rfl)
theorem OV.own {K : PySem.W.Frag} {Hk H : Hp} {xs : List MV} {v : V} {A : List Addr} : OV K Hk H (.own xs) v A ↔ ∃ p vs, v = .ref p ∧ A = [p] ∧ H p = some (.lst vs) ∧ RVs K Hk xs vs := by
  unfold OV OF; rfl
theorem RV.isper {K : PySem.W.Frag} {H : Hp} {x : MV} {v : V} (h : RV K H x v) : x.per = true := by
  cases x <;> first | rfl | (unfold RV at h; exact h.elim)
theorem RV.ov {K : PySem.W.Frag} {Hk H : Hp} {x : MV} {v : V} (h : RV K Hk x v) : OV K Hk H x v [] := (OV.per h.isper).mpr ⟨rfl, h⟩
theorem OF.move {K : PySem.W.Frag} {Hk Hk' H H' : Hp} {x : MV} {v : V} {A : List Addr} (h : OF K Hk H x v A) (e : Ex Hk Hk') (k : ∀ a ∈ A, ∀ o, H a = some o → H' a = some o) : OF K Hk' H' x v A := by
  cases x with
  | own xs =>
    unfold OF at h ⊢
    obtain ⟨p, vs, e1, e2, e3, e4⟩ := h
    exact ⟨p, vs, e1, e2, k p (by rw [e2]; simp) _ e3, e4.mono e⟩
  | obj C fs => exact (show False by unfold OF at h; unfold RV at h; exact h.2).elim
  | _ =>
    unfold OF at h ⊢
    exact ⟨h.1, RV.mono e _ _ h.2⟩
theorem OFs.move {K : PySem.W.Frag} {Hk Hk' H H' : Hp} : ∀ {fs : List (Str × MV)} {vs : List (Str × V)} {A : List Addr}, OFs K Hk H fs vs A → Ex Hk Hk' → (∀ a ∈ A, ∀ o, H a = some o → H' a = some o) → OFs K Hk' H' fs vs A
  | [], _, _, h, _, _ => h
  | (n, x) :: fs, vs, A, h, e, k => by
    obtain ⟨v, r, B, C, e1, e2, h1, h2⟩ := h
    refine ⟨v, r, B, C, e1, e2, h1.move e fun a ha => k a (by rw [e2]; exact List.mem_append_left _ ha), OFs.move h2 e fun a ha => k a (by rw [e2]; exact List.mem_append_right _ ha)⟩
theorem OV.move {K : PySem.W.Frag} {Hk Hk' H H' : Hp} {x : MV} {v : V} {A : List Addr} (h : OV K Hk H x v A) (e : Ex Hk Hk') (k : ∀ a ∈ A, ∀ o, H a = some o → H' a = some o) : OV K Hk' H' x v A := by
  cases x with
  | obj C fs =>
    unfold OV at h ⊢
    obtain ⟨p, CA, dx, vfs, B, e1, e2, e0, e3, e4, e5⟩ := h
    exact ⟨p, CA, dx, vfs, B, e1, e2, e0, k p (by rw [e2]; simp) _ e3, OFs.move e4 e fun a ha => k a (by rw [e2]; exact List.mem_cons_of_mem _ ha), e5⟩
  | _ => (unfold OV at h ⊢; exact OF.move h e k)
theorem OF.there {K : PySem.W.Frag} {Hk H : Hp} {x : MV} {v : V} {A : List Addr} (h : OF K Hk H x v A) : ∀ a ∈ A, ∃ o, H a = some o := by
  cases x with
  | own xs =>
    unfold OF at h
    obtain ⟨p, vs, e1, e2, e3, e4⟩ := h
    intro a ha
    rw [e2] at ha
    simp at ha
    subst ha
    exact ⟨_, e3⟩
  | _ =>
    unfold OF at h
    intro a ha
    rw [h.1] at ha
    cases ha
theorem OFs.there {K : PySem.W.Frag} {Hk H : Hp} : ∀ {fs : List (Str × MV)} {vs : List (Str × V)} {A : List Addr}, OFs K Hk H fs vs A → ∀ a ∈ A, ∃ o, H a = some o
  | [], _, _, h, a, ha => by rw [h.2] at ha; cases ha
  | (n, x) :: fs, vs, A, h, a, ha => by
    obtain ⟨v, r, B, C, e1, e2, h1, h2⟩ := h
    rw [e2] at ha
    rcases List.mem_append.mp ha with ha | ha
    · exact h1.there a ha
    · exact OFs.there h2 a ha
theorem OV.there {K : PySem.W.Frag} {Hk H : Hp} {x : MV} {v : V} {A : List Addr} (h : OV K Hk H x v A) : ∀ a ∈ A, ∃ o, H a = some o := by
  cases x with
  | obj C fs =>
    unfold OV at h
    obtain ⟨p, CA, dx, vfs, B, e1, e2, e0, e3, e4, e5⟩ := h
    intro a ha
    rw [e2] at ha
    rcases List.mem_cons.mp ha with rfl | ha
    · exact ⟨_, e3⟩
    · exact OFs.there e4 a ha
  | _ => (unfold OV at h; exact OF.there h)


/-! ### the state: the frame F, the known part Hk, the heap H; borrowed slots bp -/
def put (ow : Nat → List Addr) (i : Nat) (A : List Addr) : Nat → List Addr := fun j => if j = i then A else ow j
theorem put_same {ow : Nat → List Addr} {i : Nat} {A : List Addr} : put ow i A i = A := if_pos rfl
theorem put_ne {ow : Nat → List Addr} {i j : Nat} {A : List Addr} (h : j ≠ i) : put ow i A j = ow j := if_neg h
structure SL (K : PySem.W.Frag) (F Hk H : Hp) (ow : Nat → List Addr) (σ : St) (ρ : Env) : Prop where
  s : ∀ (i : Nat) x, ρ[i]? = some (some x) → ∃ v, σ[i]? = some (some v) ∧ OV K Hk H x v (ow i)
  f : ∀ i a, a ∈ ow i → Hk a = none ∧ F a = none ∧ ∃ o, H a = some o
  w : ∀ i, ow i ≠ [] → i < ρ.length
  d : ∀ i j a, i ≠ j → a ∈ ow i → a ∉ ow j
structure RS (K : PySem.W.Frag) (F Hk H : Hp) (bp : List (Nat × Addr)) (σ : St) (ρ : Env) : Prop where
  len : σ.length = ρ.length
  ex : Ex Hk H
  fr : Ex F H
  frk : ∀ a o, F a = some o → Hk a = none
  ow : ∃ ow, SL K F Hk H ow σ ρ
  bor : ∀ q ∈ bp, σ[q.1]? = some (some (.ref q.2))
theorem set_get {α : Type} {l : List α} {i j : Nat} {x y : α} (h : (l.set i x)[j]? = some y) : (j = i ∧ y = x) ∨ (j ≠ i ∧ l[j]? = some y) := by
  by_cases e : i = j
  · subst e
    rw [List.getElem?_set] at h
    simp at h
    exact .inl ⟨rfl, h.2.symm⟩
  · rw [List.getElem?_set_ne e] at h
    exact .inr ⟨fun q => e q.symm, h⟩
theorem app_get {α : Type} {l : List α} {j : Nat} {x y : α} (h : (l ++ [x])[j]? = some y) : (j = l.length ∧ y = x) ∨ (j < l.length ∧ l[j]? = some y) := by
  by_cases e : j < l.length
  · rw [List.getElem?_append_left e] at h; exact .inr ⟨e, h⟩
  · rw [List.getElem?_append_right (Nat.le_of_not_lt e)] at h
    have := (List.getElem?_eq_some_iff.mp h).1
    simp at this
    have ej : j = l.length := by omega
    subst ej
    simp at h
    exact .inl ⟨rfl, h.symm⟩
theorem lt_get {α : Type} {l : List α} {j : Nat} {y : α} (h : l[j]? = some y) : j < l.length := (List.getElem?_eq_some_iff.mp h).1
section
variable {K : PySem.W.Frag} {F Hk Hk' H H' : Hp} {bp : List (Nat × Addr)} {σ : St} {ρ : Env} {ow : Nat → List Addr}
theorem SL.out (S : SL K F Hk H ow σ ρ) {i : Nat} (h : ρ.length ≤ i) : ow i = [] := by
  cases e : ow i with
  | nil => rfl
  | cons a r => exact absurd (S.w i (by rw [e]; simp)) (by omega)
theorem SL.fresh (S : SL K F Hk H ow σ ρ) {p : Addr} (h : H p = none) (i : Nat) : p ∉ ow i := fun m => by
  obtain ⟨_, _, o, e⟩ := S.f i p m
  rw [h] at e; cases e
theorem SL.kn (S : SL K F Hk H ow σ ρ) {p : Addr} {o : HO} (h : Hk p = some o) (i : Nat) : p ∉ ow i := fun m => by
  obtain ⟨e, _⟩ := S.f i p m
  rw [h] at e; cases e
theorem SL.step (S : SL K F Hk H ow σ ρ) (e : Ex Hk Hk') (k : ∀ i, ∀ a ∈ ow i, H' a = H a ∧ Hk' a = none) : SL K F Hk' H' ow σ ρ := by
  refine ⟨fun i x h => ?_, fun i a h => ?_, S.w, S.d⟩
  · obtain ⟨v, ev, o⟩ := S.s i x h
    exact ⟨v, ev, o.move e fun a ha u hu => by rw [(k i a ha).1]; exact hu⟩
  · obtain ⟨f1, f2, o, f3⟩ := S.f i a h
    exact ⟨(k i a h).2, f2, o, by rw [(k i a h).1]; exact f3⟩
theorem SL.set (S : SL K F Hk H ow σ ρ) (hl : σ.length = ρ.length) {i : Nat} {x : MV} {v : V} (hi : i < ρ.length) (r : RV K Hk x v) : SL K F Hk H (put ow i []) (σ.set i (some v)) (ρ.set i (some x)) := by
  refine ⟨fun j y h => ?_, fun j a h => ?_, fun j h => ?_, fun j k a hjk h => ?_⟩
  · rcases set_get h with ⟨rfl, e⟩ | ⟨ne, e⟩
    · cases e
      refine ⟨v, by rw [List.getElem?_set_self (by rw [hl]; exact hi)], ?_⟩
      rw [put_same]; exact r.ov
    · obtain ⟨u, e1, e2⟩ := S.s j y e
      exact ⟨u, by rw [List.getElem?_set_ne (Ne.symm ne)]; exact e1, by rw [put_ne ne]; exact e2⟩
  · by_cases e : j = i
    · rw [e, put_same] at h; cases h
    · rw [put_ne e] at h; exact S.f j a h
  · by_cases e : j = i
    · rw [e, put_same] at h; exact (h rfl).elim
    · rw [put_ne e] at h; rw [List.length_set]; exact S.w j h
  · by_cases e : j = i
    · rw [e, put_same] at h; cases h
    · rw [put_ne e] at h
      by_cases e2 : k = i
      · rw [e2, put_same]; simp
      · rw [put_ne e2]; exact S.d j k a hjk h
theorem SL.push (S : SL K F Hk H ow σ ρ) (hl : σ.length = ρ.length) {x : MV} {v : V} {A : List Addr} (o : OV K Hk H x v A) (hf : ∀ a ∈ A, Hk a = none ∧ F a = none) (hd : ∀ i, ∀ a ∈ A, a ∉ ow i) :
    SL K F Hk H (put ow ρ.length A) (σ ++ [some v]) (ρ ++ [some x]) := by
  refine ⟨fun j y h => ?_, fun j a h => ?_, fun j h => ?_, fun j k a hjk h => ?_⟩
  · rcases app_get h with ⟨rfl, e⟩ | ⟨lt, e⟩
    · cases e
      refine ⟨v, by rw [← hl]; simp, ?_⟩
      rw [put_same]; exact o
    · obtain ⟨u, e1, e2⟩ := S.s j y e
      exact ⟨u, by rw [List.getElem?_append_left (by rw [hl]; exact lt)]; exact e1, by rw [put_ne (Nat.ne_of_lt lt)]; exact e2⟩
  · by_cases e : j = ρ.length
    · rw [e, put_same] at h; exact ⟨(hf a h).1, (hf a h).2, o.there a h⟩
    · rw [put_ne e] at h; exact S.f j a h
  · by_cases e : j = ρ.length
    · rw [e]; simp
    · rw [put_ne e] at h; have := S.w j h; simp; omega
  · by_cases e : j = ρ.length
    · rw [e, put_same] at h
      rw [put_ne (fun z => hjk (e.trans z.symm))]
      exact hd k a h
    · rw [put_ne e] at h
      by_cases e2 : k = ρ.length
      · rw [e2, put_same]; exact fun z => hd j a z h
      · rw [put_ne e2]; exact S.d j k a hjk h
theorem SL.take (S : SL K F Hk H ow (σ ++ [some v]) (ρ ++ [some x])) (hl : σ.length = ρ.length) {i : Nat} (hi : i < ρ.length) : SL K F Hk H (put (put ow i (ow ρ.length)) ρ.length []) (σ.set i (some v)) (ρ.set i (some x)) := by
  have ne : i ≠ ρ.length := Nat.ne_of_lt hi
  obtain ⟨u, hu, ou⟩ := S.s ρ.length x (by simp)
  have ev : u = v := by rw [← hl] at hu; simpa using hu.symm
  subst ev
  have lt : ∀ j a, a ∈ put (put ow i (ow ρ.length)) ρ.length [] j → (j = i ∧ a ∈ ow ρ.length) ∨ (j ≠ i ∧ j < ρ.length ∧ a ∈ ow j) := fun j a h => by
    by_cases e : j = ρ.length
    · rw [e, put_same] at h; cases h
    · rw [put_ne e] at h
      by_cases e2 : j = i
      · rw [e2, put_same] at h; exact .inl ⟨e2, h⟩
      · rw [put_ne e2] at h
        have := S.w j (by intro z; rw [z] at h; cases h)
        simp at this
        exact .inr ⟨e2, by omega, h⟩
  refine ⟨fun j y h => ?_, fun j a h => ?_, fun j h => ?_, fun j k a hjk h => ?_⟩
  · rcases set_get h with ⟨rfl, e⟩ | ⟨ne2, e⟩
    · cases e
      refine ⟨u, by rw [List.getElem?_set_self (by rw [hl]; exact hi)], ?_⟩
      rw [put_ne ne, put_same]; exact ou
    · have lj := lt_get e
      obtain ⟨w, e1, e2⟩ := S.s j y (by rw [List.getElem?_append_left lj]; exact e)
      rw [List.getElem?_append_left (by rw [hl]; exact lj)] at e1
      exact ⟨w, by rw [List.getElem?_set_ne (Ne.symm ne2)]; exact e1, by rw [put_ne (Nat.ne_of_lt lj), put_ne ne2]; exact e2⟩
  · rcases lt j a h with ⟨_, m⟩ | ⟨_, _, m⟩
    · exact S.f _ a m
    · exact S.f _ a m
  · rw [List.length_set]
    cases e : put (put ow i (ow ρ.length)) ρ.length [] j with
    | nil => exact (h e).elim
    | cons a r =>
      rcases lt j a (by rw [e]; simp) with ⟨e, _⟩ | ⟨_, l, _⟩
      · rw [e]; exact hi
      · exact l
  · intro hk
    rcases lt j a h with ⟨e1, m⟩ | ⟨e1, l1, m⟩ <;> rcases lt k a hk with ⟨e2, m2⟩ | ⟨e2, l2, m2⟩
    · exact hjk (e1.trans e2.symm)
    · exact S.d ρ.length k a (by omega) m m2
    · exact S.d j ρ.length a (by omega) m m2
    · exact S.d j k a hjk m m2
theorem SL.drop (S : SL K F Hk H ow (σ ++ [y]) (ρ ++ [x])) (hl : σ.length = ρ.length) : SL K F Hk H (put ow ρ.length []) σ ρ := by
  refine ⟨fun j y h => ?_, fun j a h => ?_, fun j h => ?_, fun j k a hjk h => ?_⟩
  · have lj := lt_get h
    obtain ⟨w, e1, e2⟩ := S.s j y (by rw [List.getElem?_append_left lj]; exact h)
    rw [List.getElem?_append_left (by rw [hl]; exact lj)] at e1
    exact ⟨w, e1, by rw [put_ne (Nat.ne_of_lt lj)]; exact e2⟩
  · by_cases e : j = ρ.length
    · rw [e, put_same] at h; cases h
    · rw [put_ne e] at h; exact S.f j a h
  · by_cases e : j = ρ.length
    · rw [e, put_same] at h; exact (h rfl).elim
    · rw [put_ne e] at h; have := S.w j h; simp at this; omega
  · by_cases e : j = ρ.length
    · rw [e, put_same] at h; cases h
    · rw [put_ne e] at h
      by_cases e2 : k = ρ.length
      · rw [e2, put_same]; simp
      · rw [put_ne e2]; exact S.d j k a hjk h

theorem RS.get (S : RS K F Hk H bp σ ρ) {i : Nat} {x : MV} (h : ρ[i]? = some (some x)) (hp : x.per = true) : ∃ v, σ[i]? = some (some v) ∧ RV K Hk x v := by
  obtain ⟨ow, s⟩ := S.ow
  obtain ⟨v, e, o⟩ := s.s i x h
  exact ⟨v, e, ((OV.per hp).mp o).2⟩
theorem RS.getOwn (S : RS K F Hk H bp σ ρ) {i : Nat} {xs : List MV} (h : ρ[i]? = some (some (.own xs))) : ∃ p vs, σ[i]? = some (some (.ref p)) ∧ H p = some (.lst vs) ∧ RVs K Hk xs vs ∧ Hk p = none ∧ F p = none := by
  obtain ⟨ow, s⟩ := S.ow
  obtain ⟨v, e, o⟩ := s.s i _ h
  obtain ⟨p, vs, e1, e2, e3, e4⟩ := OV.own.mp o
  have m : p ∈ ow i := by rw [e2]; simp
  exact ⟨p, vs, by rw [e, e1], e3, e4, (s.f i p m).1, (s.f i p m).2.1⟩
theorem RS.step (S : RS K F Hk H bp σ ρ) (e : Ex Hk Hk') (e' : Ex Hk' H') (k : ∀ a o, Hk a = none → H a = some o → H' a = some o ∧ Hk' a = none) : RS K F Hk' H' bp σ ρ := by
  obtain ⟨ow, s⟩ := S.ow
  refine ⟨S.len, e', fun a o h => (k a o (S.frk a o h) (S.fr a o h)).1, fun a o h => (k a o (S.frk a o h) (S.fr a o h)).2, ⟨ow, s.step e fun i a h => ?_⟩, S.bor⟩
  obtain ⟨f1, _, o, f2⟩ := s.f i a h
  exact ⟨((k a o f1 f2).1).trans f2.symm, (k a o f1 f2).2⟩
theorem RS.new (S : RS K F Hk H bp σ ρ) {p : Addr} {o : HO} (h : H p = none) : RS K F (upd Hk p o) (upd H p o) bp σ ρ :=
  S.step (Ex.new (S.ex.back h)) (S.ex.both h) fun a u hk ha => by
    have ne := ne_of_none ha h
    rw [upd_ne ne, upd_ne ne]
    exact ⟨ha, hk⟩
theorem RS.more (S : RS K F Hk H bp σ ρ) {p : Addr} {o : HO} (h : H p = none) : RS K F Hk (upd H p o) bp σ ρ :=
  S.step (Ex.refl _) (S.ex.mut (S.ex.back h)) fun a u hk ha => by
    rw [upd_ne (ne_of_none ha h)]
    exact ⟨ha, hk⟩
theorem RS.set (S : RS K F Hk H bp σ ρ) {i : Nat} {x : MV} {v : V} (hi : i < ρ.length) (r : RV K Hk x v) (hb : ∀ q ∈ bp, q.1 ≠ i) : RS K F Hk H bp (σ.set i (some v)) (ρ.set i (some x)) := by
  obtain ⟨ow, s⟩ := S.ow
  exact ⟨by simp [S.len], S.ex, S.fr, S.frk, ⟨_, s.set S.len hi r⟩, fun q hq => by rw [List.getElem?_set_ne (Ne.symm (hb q hq))]; exact S.bor q hq⟩
theorem RS.bor_app (S : RS K F Hk H bp σ ρ) (y : Option V) : ∀ q ∈ bp, (σ ++ [y])[q.1]? = some (some (.ref q.2)) := fun q hq => by
  have q1 := S.bor q hq
  rw [List.getElem?_append_left (lt_get q1)]; exact q1
theorem RS.push (S : RS K F Hk H bp σ ρ) {x : MV} {v : V} (r : RV K Hk x v) : RS K F Hk H bp (σ ++ [some v]) (ρ ++ [some x]) := by
  obtain ⟨ow, s⟩ := S.ow
  exact ⟨by simp [S.len], S.ex, S.fr, S.frk, ⟨_, s.push S.len r.ov (fun _ h => nomatch h) (fun _ _ h => nomatch h)⟩, S.bor_app _⟩
theorem RS.pushOwn (S : RS K F Hk H bp σ ρ) {p : Addr} {xs : List MV} {vs : List V} (h : H p = none) (r : RVs K Hk xs vs) : RS K F Hk (upd H p (.lst vs)) bp (σ ++ [some (.ref p)]) (ρ ++ [some (.own xs)]) := by
  obtain ⟨ow, s⟩ := S.ow
  have S' := S.more (o := .lst vs) h
  have s' : SL K F Hk (upd H p (.lst vs)) ow σ ρ := s.step (Ex.refl _) fun i a ha => by
    obtain ⟨f1, f2, o, f3⟩ := s.f i a ha
    exact ⟨upd_ne (ne_of_none f3 h), f1⟩
  have fp : F p = none := by
    cases e : F p with
    | none => rfl
    | some o => have := S.fr p o e; rw [h] at this; cases this
  refine ⟨by simp [S.len], S'.ex, S'.fr, S'.frk, ⟨_, s'.push S.len (A := [p]) (OV.own.mpr ⟨p, vs, rfl, rfl, upd_same, r⟩) (fun a ha => ?_) (fun i a ha => ?_)⟩, S.bor_app _⟩
  · simp at ha; subst ha; exact ⟨S.ex.back h, fp⟩
  · simp at ha; subst ha; exact s.fresh h i
theorem RS.take {v : V} {x : MV} (S : RS K F Hk H bp (σ ++ [some v]) (ρ ++ [some x])) {i : Nat} (hi : i < ρ.length) (hb : ∀ q ∈ bp, q.1 ≠ i ∧ q.1 < ρ.length) : RS K F Hk H bp (σ.set i (some v)) (ρ.set i (some x)) := by
  obtain ⟨ow, s⟩ := S.ow
  have hl : σ.length = ρ.length := by have := S.len; simpa using this
  refine ⟨by simp [hl], S.ex, S.fr, S.frk, ⟨_, s.take hl hi⟩, fun q hq => ?_⟩
  have q1 := S.bor q hq
  rw [List.getElem?_append_left (by rw [hl]; exact (hb q hq).2)] at q1
  rw [List.getElem?_set_ne (Ne.symm (hb q hq).1)]; exact q1
theorem RS.drop {y : Option V} {x : Option MV} (S : RS K F Hk H bp (σ ++ [y]) (ρ ++ [x])) (hb : ∀ q ∈ bp, q.1 < ρ.length) : RS K F Hk H bp σ ρ := by
  obtain ⟨ow, s⟩ := S.ow
  have hl : σ.length = ρ.length := by have := S.len; simpa using this
  refine ⟨hl, S.ex, S.fr, S.frk, ⟨_, s.drop hl⟩, fun q hq => ?_⟩
  have q1 := S.bor q hq
  rw [List.getElem?_append_left (by rw [hl]; exact hb q hq)] at q1
  exact q1
theorem RS.freeze (S : RS K F Hk H bp σ ρ) {i : Nat} {xs : List MV} (h : ρ[i]? = some (some (.own xs))) :
    ∃ p vs, σ[i]? = some (some (.ref p)) ∧ Ex Hk (upd Hk p (.lst vs)) ∧ RV K (upd Hk p (.lst vs)) (.lst xs) (.ref p) ∧ RS K F (upd Hk p (.lst vs)) H bp σ (ρ.set i (some (.lst xs))) := by
  obtain ⟨ow, s⟩ := S.ow
  obtain ⟨v, ev, o⟩ := s.s i _ h
  obtain ⟨p, vs, e1, e2, e3, e4⟩ := OV.own.mp o
  have m : p ∈ ow i := by rw [e2]; simp
  obtain ⟨f1, f2, _⟩ := s.f i p m
  have ex : Ex Hk (upd Hk p (.lst vs)) := Ex.new f1
  have rv : RV K (upd Hk p (.lst vs)) (.lst xs) (.ref p) := RV.lst.mpr ⟨p, vs, rfl, upd_same, e4.mono ex⟩
  have li := lt_get h
  refine ⟨p, vs, by rw [ev, e1], ex, rv, by simp [S.len], S.ex.updL e3, S.fr, fun a u ha => ?_, ⟨put ow i [], ?_⟩, S.bor⟩
  · rw [upd_ne (ne_of_none ha f2)]; exact S.frk a u ha
  · refine ⟨fun j y hj => ?_, fun j a hj => ?_, fun j hj => ?_, fun j k a hjk hj => ?_⟩
    · rcases set_get hj with ⟨rfl, e⟩ | ⟨ne, e⟩
      · cases e
        exact ⟨v, ev, by rw [put_same, e1]; exact rv.ov⟩
      · obtain ⟨u, u1, u2⟩ := s.s j y e
        exact ⟨u, u1, by rw [put_ne ne]; exact u2.move ex fun _ _ _ z => z⟩
    · by_cases e : j = i
      · rw [e, put_same] at hj; cases hj
      · rw [put_ne e] at hj
        obtain ⟨g1, g2⟩ := s.f j a hj
        refine ⟨?_, g2⟩
        rw [upd_ne (fun z => s.d j i a e hj (by rw [z]; exact m))]; exact g1
    · by_cases e : j = i
      · rw [e, put_same] at hj; exact (hj rfl).elim
      · rw [put_ne e] at hj; rw [List.length_set]; exact s.w j hj
    · by_cases e : j = i
      · rw [e, put_same] at hj; cases hj
      · rw [put_ne e] at hj
        by_cases e2 : k = i
        · rw [e2, put_same]; simp
        · rw [put_ne e2]; exact s.d j k a hjk hj
theorem RS.change (S : RS K F Hk H bp σ ρ) {i : Nat} {xs ys : List MV} (h : ρ[i]? = some (some (.own xs))) :
    ∃ p vs, σ[i]? = some (some (.ref p)) ∧ H p = some (.lst vs) ∧ RVs K Hk xs vs ∧ ∀ ws, RVs K Hk ys ws → RS K F Hk (upd H p (.lst ws)) bp σ (ρ.set i (some (.own ys))) := by
  obtain ⟨ow, s⟩ := S.ow
  obtain ⟨v, ev, o⟩ := s.s i _ h
  obtain ⟨p, vs, e1, e2, e3, e4⟩ := OV.own.mp o
  have m : p ∈ ow i := by rw [e2]; simp
  obtain ⟨f1, f2, _⟩ := s.f i p m
  refine ⟨p, vs, by rw [ev, e1], e3, e4, fun ws r => ⟨by simp [S.len], S.ex.mut f1, S.fr.mut f2, S.frk, ⟨ow, ?_⟩, S.bor⟩⟩
  refine ⟨fun j y hj => ?_, fun j a hj => ?_, fun j hj => by rw [List.length_set]; exact s.w j hj, s.d⟩
  · rcases set_get hj with ⟨rfl, e⟩ | ⟨ne, e⟩
    · cases e
      exact ⟨v, ev, OV.own.mpr ⟨p, ws, e1, e2, upd_same, r⟩⟩
    · obtain ⟨u, u1, u2⟩ := s.s j y e
      exact ⟨u, u1, u2.move (Ex.refl _) fun a ha o ho => by rw [upd_ne (fun z => s.d j i a ne ha (by rw [z]; exact m))]; exact ho⟩
  · obtain ⟨g1, g2, o, g3⟩ := s.f j a hj
    by_cases e : a = p
    · subst e; exact ⟨g1, g2, _, upd_same⟩
    · exact ⟨g1, g2, o, by rw [upd_ne e]; exact g3⟩
end
end Tm

set_option Elab.async false
set_option linter.all false
set_option maxRecDepth 100000
set_option maxHeartbeats 2000000
namespace Tm
open PySem L2
open Evl (Ex ex_rd ex_l ex_t)
/-! ### what is asked of the context, once a def: the globals mg, the wish W of exceptions, the borrowed slots -/
structure Ct where
  K : PySem.W.Frag
  mg : Str → Option Value
  W : WX
  bs : List Nat
  J : Hp → List (Nat × Addr) → Prop
  Jm : ∀ F F1 bp, Ex F F1 → J F bp → J F1 bp
def XFs (K : PySem.W.Frag) (H : Hp) : List (Str × MV) → List (Str × V) → Prop
  | [], vs => vs = []
  | (n, x) :: xs, vs => ∃ v r, vs = (n, v) :: r ∧ RV K H x v ∧ XFs K H xs r
def ExR (K : PySem.W.Frag) (mg : Str → Option Value) (H : Hp) (e : MX) (cls : Value) (d : Option Addr) : Prop :=
  ∃ C, mg e.cls = some (.ref C) ∧ cls = .ref C ∧ ((e.fs = [] ∧ d = none) ∨ ∃ dx vfs, d = some dx ∧ H dx = some (.xd vfs) ∧ XFs K H e.fs vfs)
theorem XFs.mono {K : PySem.W.Frag} {H H' : Hp} (e : Ex H H') : ∀ {xs : List (Str × MV)} {vs : List (Str × V)}, XFs K H xs vs → XFs K H' xs vs
  | [], _, h => h
  | (n, x) :: xs, vs, h => by
    obtain ⟨v, r, e1, e2, e3⟩ := h
    exact ⟨v, r, e1, RV.mono e _ _ e2, XFs.mono e e3⟩
theorem ExR.mono {K : PySem.W.Frag} {mg : Str → Option Value} {H H' : Hp} {e : MX} {cls : Value} {d : Option Addr} (x : Ex H H') (h : ExR K mg H e cls d) : ExR K mg H' e cls d := by
  obtain ⟨C, h1, h2, h3⟩ := h
  refine ⟨C, h1, h2, ?_⟩
  rcases h3 with h3 | ⟨dx, vfs, a, b, c⟩
  · exact .inl h3
  · exact .inr ⟨dx, vfs, a, x _ _ b, c.mono x⟩

abbrev ME := Env → Res (MV × Env)
abbrev MT := Env → Res (Bool × Env)
abbrev MA := Env → Res (List MV × Env)
abbrev MS := Env → Res (Fl × Env)
def Wish (c : Ct) (F Hk : Hp) (bp : List (Nat × Addr)) (σ : St) (e : MX) (ρ : Env) : Prop :=
  ∀ Hk' H' cls d, Ex Hk Hk' → RS c.K F Hk' H' bp σ ρ → ExR c.K c.mg Hk' e cls d → c.W cls d σ H'
def okE (c : Ct) (F Hk : Hp) (bp : List (Nat × Addr)) (σ : St) (Q : VK) : Res (MV × Env) → Prop
  | .ok (x, ρ') => ∀ Hk' H' v, Ex Hk Hk' → RS c.K F Hk' H' bp σ ρ' → RV c.K Hk' x v → Q v H'
  | .exc e ρ' => Wish c F Hk bp σ e ρ'
  | .stuck => False
def okO (c : Ct) (F Hk : Hp) (bp : List (Nat × Addr)) (σ : St) (Q : VK) : Res (MV × Env) → Prop
  | .ok (x, ρ') => ∀ Hk' H' v, Ex Hk Hk' → RS c.K F Hk' H' bp (σ ++ [some v]) (ρ' ++ [some x]) → Q v H'
  | .exc e ρ' => Wish c F Hk bp σ e ρ'
  | .stuck => False
def okT (c : Ct) (F Hk : Hp) (bp : List (Nat × Addr)) (σ : St) (Q : Bool → Hp → Prop) : Res (Bool × Env) → Prop
  | .ok (x, ρ') => ∀ Hk' H', Ex Hk Hk' → RS c.K F Hk' H' bp σ ρ' → Q x H'
  | .exc e ρ' => Wish c F Hk bp σ e ρ'
  | .stuck => False
def okA (c : Ct) (F Hk : Hp) (bp : List (Nat × Addr)) (σ : St) (Q : List V → Hp → Prop) : Res (List MV × Env) → Prop
  | .ok (xs, ρ') => ∀ Hk' H' vs, Ex Hk Hk' → RS c.K F Hk' H' bp σ ρ' → RVs c.K Hk' xs vs → Q vs H'
  | .exc e ρ' => Wish c F Hk bp σ e ρ'
  | .stuck => False
def okS (c : Ct) (F Hk : Hp) (bp : List (Nat × Addr)) (D : Ends) : Res (Fl × Env) → Prop
  | .ok (.nx, ρ') => ∀ Hk' H' σ', Ex Hk Hk' → RS c.K F Hk' H' bp σ' ρ' → D.nx σ' H'
  | .ok (.br, ρ') => ∀ Hk' H' σ', Ex Hk Hk' → RS c.K F Hk' H' bp σ' ρ' → D.bk σ' H'
  | .ok (.ct, ρ') => ∀ Hk' H' σ', Ex Hk Hk' → RS c.K F Hk' H' bp σ' ρ' → D.ct σ' H'
  | .ok (.rt x, ρ') => ∀ Hk' H' σ' v, Ex Hk Hk' → (∀ q ∈ bp, q.1 < σ'.length) → RS c.K F Hk' H' bp (σ' ++ [some v]) (ρ' ++ [some x]) → D.rt v H'
  | .exc e ρ' => ∀ Hk' H' σ' cls d, Ex Hk Hk' → RS c.K F Hk' H' bp σ' ρ' → ExR c.K c.mg Hk' e cls d → c.W cls d σ' H'
  | .stuck => False
def At (c : Ct) (F Hk H : Hp) (bp : List (Nat × Addr)) (σ : St) (ρ : Env) : Prop := RS c.K F Hk H bp σ ρ ∧ bp.map (·.1) = c.bs ∧ c.J F bp
def rdE (c : Ct) (m : ME) : TE := fun σ H Q => ∃ F Hk bp ρ, At c F Hk H bp σ ρ ∧ okE c F Hk bp σ Q (m ρ)
def rdO (c : Ct) (m : ME) : TE := fun σ H Q => ∃ F Hk bp ρ, At c F Hk H bp σ ρ ∧ okO c F Hk bp σ Q (m ρ)
def rdT (c : Ct) (m : MT) : TT := fun σ H Q => ∃ F Hk bp ρ, At c F Hk H bp σ ρ ∧ okT c F Hk bp σ Q (m ρ)
def rdA (c : Ct) (m : MA) : TA := fun σ H Q => ∃ F Hk bp ρ, At c F Hk H bp σ ρ ∧ okA c F Hk bp σ Q (m ρ)
def rdS (c : Ct) (m : MS) : TS := fun D σ H => ∃ F Hk bp ρ, At c F Hk H bp σ ρ ∧ okS c F Hk bp D (m ρ)

section
variable {c : Ct} {F Hk Hk' H H' : Hp} {bp : List (Nat × Addr)} {σ : St} {ρ : Env}
theorem Wish.mono {e : MX} (x : Ex Hk Hk') (h : Wish c F Hk bp σ e ρ) : Wish c F Hk' bp σ e ρ := fun Hk2 H2 cls d x2 => h Hk2 H2 cls d (x.trans x2)
theorem okE.mono {Q : VK} {r : Res (MV × Env)} (x : Ex Hk Hk') (h : okE c F Hk bp σ Q r) : okE c F Hk' bp σ Q r := by
  cases r with
  | ok a => exact fun Hk2 H2 v x2 => h Hk2 H2 v (x.trans x2)
  | exc e ρ => exact Wish.mono x h
  | stuck => exact h
theorem okO.mono {Q : VK} {r : Res (MV × Env)} (x : Ex Hk Hk') (h : okO c F Hk bp σ Q r) : okO c F Hk' bp σ Q r := by
  cases r with
  | ok a => exact fun Hk2 H2 v x2 => h Hk2 H2 v (x.trans x2)
  | exc e ρ => exact Wish.mono x h
  | stuck => exact h
theorem okT.mono {Q : Bool → Hp → Prop} {r : Res (Bool × Env)} (x : Ex Hk Hk') (h : okT c F Hk bp σ Q r) : okT c F Hk' bp σ Q r := by
  cases r with
  | ok a => exact fun Hk2 H2 x2 => h Hk2 H2 (x.trans x2)
  | exc e ρ => exact Wish.mono x h
  | stuck => exact h
theorem okA.mono {Q : List V → Hp → Prop} {r : Res (List MV × Env)} (x : Ex Hk Hk') (h : okA c F Hk bp σ Q r) : okA c F Hk' bp σ Q r := by
  cases r with
  | ok a => exact fun Hk2 H2 v x2 => h Hk2 H2 v (x.trans x2)
  | exc e ρ => exact Wish.mono x h
  | stuck => exact h
theorem okS.mono {D : Ends} {r : Res (Fl × Env)} (x : Ex Hk Hk') (h : okS c F Hk bp D r) : okS c F Hk' bp D r := by
  cases r with
  | ok a =>
    obtain ⟨f, ρ'⟩ := a
    cases f with
    | nx => exact fun Hk2 H2 σ' x2 => h Hk2 H2 σ' (x.trans x2)
    | br => exact fun Hk2 H2 σ' x2 => h Hk2 H2 σ' (x.trans x2)
    | ct => exact fun Hk2 H2 σ' x2 => h Hk2 H2 σ' (x.trans x2)
    | rt y => exact fun Hk2 H2 σ' v x2 => h Hk2 H2 σ' v (x.trans x2)
  | exc e ρ' => exact fun Hk2 H2 σ' cls d x2 => h Hk2 H2 σ' cls d (x.trans x2)
  | stuck => exact h
def Res.bind {α β : Type} (r : Res (α × Env)) (f : α → Env → Res (β × Env)) : Res (β × Env) :=
  match r with
  | .ok (x, ρ) => f x ρ
  | .exc e ρ => .exc e ρ
  | .stuck => .stuck
end
theorem PEw {X : Cx} {e : Expr} {t t' : TE} (h : PE X e t) (w : ∀ σ H Q, t' σ H Q → t σ H Q) : PE X e t' := ⟨fun pins s σ H Q I q => h.run pins s σ H Q I (w σ H Q q)⟩
theorem PTw {X : Cx} {e : Expr} {t t' : TT} (h : PT X e t) (w : ∀ σ H Q, t' σ H Q → t σ H Q) : PT X e t' := ⟨fun pins s σ H Q I q => h.run pins s σ H Q I (w σ H Q q)⟩
theorem PWw {X : Cx} {e : Expr} {t t' : TT} (h : PW X e t) (w : ∀ σ H Q, t' σ H Q → t σ H Q) : PW X e t' := ⟨fun wh pins s σ H Q I q => h.run wh pins s σ H Q I (w σ H Q q)⟩
theorem PAw {X : Cx} {e : List Expr} {t t' : TA} (h : PA X e t) (w : ∀ σ H Q, t' σ H Q → t σ H Q) : PA X e t' := ⟨fun pos pins s σ H Q I q => h.run pos pins s σ H Q I (w σ H Q q)⟩
theorem PSw {X : Cx} {e : Stmt} {t t' : TS} (h : PS X e t) (w : ∀ D σ H, t' D σ H → t D σ H) : PS X e t' := ⟨fun pins s σ H D I q => h.run pins s σ H D I (w D σ H q)⟩
theorem PSsw {X : Cx} {e : List Stmt} {t t' : TS} (h : PSs X e t) (w : ∀ D σ H, t' D σ H → t D σ H) : PSs X e t' := ⟨fun pins s σ H D I q => h.run pins s σ H D I (w D σ H q)⟩

section
variable {X : Cx} {c : Ct}
/-! ### names, constants -/
def mVar (i : Nat) : ME := fun ρ => match ρ[i]? with
  | some (some (.own xs)) => .ok (.lst xs, ρ.set i (some (.lst xs)))
  | some (some (.obj _ _)) => .stuck
  | some (some x) => .ok (x, ρ)
  | _ => .stuck
def mC (x : MV) : ME := fun ρ => .ok (x, ρ)
theorem rd_var {i : Nat} {σ : St} {H : Hp} {Q : VK} (h : rdE c (mVar i) σ H Q) : tVar i σ H Q := by
  obtain ⟨F, Hk, bp, ρ, ⟨S, _⟩, h⟩ := h
  have pl : ∀ x : MV, x.per = true → ρ[i]? = some (some x) → (∀ Hk' H' v, Ex Hk Hk' → RS c.K F Hk' H' bp σ ρ → RV c.K Hk' x v → Q v H') → tVar i σ H Q := fun x px e q => by
    obtain ⟨v, ev, r⟩ := S.get e px
    exact ⟨v, ev, q Hk H v (Ex.refl _) S r⟩
  unfold mVar at h
  split at h
  · rename_i xs e
    obtain ⟨p, vs, e1, ex, r, S'⟩ := S.freeze e
    exact ⟨_, e1, h _ _ _ ex S' r⟩
  · exact h.elim
  · rename_i x n1 n2 e
    refine pl x ?_ e h
    cases x <;> first | rfl | exact (n1 _ e rfl).elim | exact (n2 _ _ e rfl).elim | (exfalso; first | exact n1 _ e | exact n2 _ _ e | exact n1 _ rfl | exact n2 _ _ rfl)
  · exact h.elim
theorem me_var {i : Nat} {x : Str} {pos : Pos} (hN : X.N[i]? = some x) (hv : Vis X.env.scope x) (hd : (x == ("__debug__" : Str)) = false := by decide) (hcd : (x == ("__classdict__" : Str)) = false := by decide) : PE X (.Name x pos) (rdE c (mVar i)) :=
  PEw (pe_var hN hv hd hcd) fun _ _ _ h => rd_var h
theorem rd_c {x : MV} {v : V} (r : ∀ H, RV c.K H x v) {σ : St} {H : Hp} {Q : VK} (h : rdE c (mC x) σ H Q) : tC v σ H Q := by
  obtain ⟨F, Hk, bp, ρ, ⟨S, _⟩, h⟩ := h
  exact h Hk H v (Ex.refl _) S (r _)
theorem me_int {i j pos} : PE X (.Constant (.int i) j pos) (rdE c (mC (.int i))) := PEw pe_int fun _ _ _ h => rd_c (fun _ => RV.int.mpr rfl) h
theorem me_bl {b j pos} : PE X (.Constant (.bool b) j pos) (rdE c (mC (.bl b))) := PEw pe_bl fun _ _ _ h => rd_c (fun _ => RV.bl.mpr rfl) h
theorem me_non {j pos} : PE X (.Constant .none j pos) (rdE c (mC .non)) := PEw pe_non fun _ _ _ h => rd_c (fun _ => RV.non.mpr rfl) h
theorem me_str {x j pos} : PE X (.Constant (.str x) j pos) (rdE c (mC (.str x))) := PEw pe_str fun _ _ _ h => rd_c (fun _ => RV.str.mpr rfl) h

/-! ### two operands -/
def mOp (f : MV → MV → Option MV) (a b : ME) : ME := fun ρ => (a ρ).bind fun x ρ1 => (b ρ1).bind fun y ρ2 => match f x y with | some z => .ok (z, ρ2) | none => .stuck
def OpS (K : PySem.W.Frag) (f : MV → MV → Option MV) (r : R2) : Prop := ∀ (x y z : MV) (v w : V) (Hk H : Hp) (Q : VK), f x y = some z → Ex Hk H → RV K Hk x v → RV K Hk y w → (∀ u, RV K Hk z u → Q u H) →
  (∀ p o, H p = none → RV K (upd Hk p o) z (.ref p) → Q (.ref p) (upd H p o)) → r v w H Q
theorem rd_op {f : MV → MV → Option MV} {r : R2} (o : OpS c.K f r) {a b : ME} {σ : St} {H : Hp} {Q : VK} (h : rdE c (mOp f a b) σ H Q) : tOp r (rdE c a) (rdE c b) σ H Q := by
  obtain ⟨F, Hk, bp, ρ, ⟨S, eb⟩, h⟩ := h
  refine ⟨F, Hk, bp, ρ, ⟨S, eb⟩, ?_⟩
  unfold mOp at h
  cases ea : a ρ with
  | stuck => rw [ea] at h; exact h.elim
  | exc e ρ' => rw [ea] at h; exact h
  | ok p =>
    obtain ⟨x, ρ1⟩ := p
    rw [ea] at h
    intro Hk1 H1 v x1 S1 r1
    refine ⟨F, Hk1, bp, ρ1, ⟨S1, eb⟩, ?_⟩
    have h : okE c F Hk bp σ Q ((b ρ1).bind fun y ρ2 => match f x y with | some z => .ok (z, ρ2) | none => .stuck) := h
    cases e2 : b ρ1 with
    | stuck => rw [e2] at h; exact h.elim
    | exc e ρ' => rw [e2] at h; exact Wish.mono x1 h
    | ok p =>
      obtain ⟨y, ρ2⟩ := p
      rw [e2] at h
      intro Hk2 H2 w x2 S2 r2
      have h : okE c F Hk bp σ Q (match f x y with | some z => .ok (z, ρ2) | none => .stuck) := h
      cases ez : f x y with
      | none => rw [ez] at h; exact h.elim
      | some z =>
        rw [ez] at h
        refine o x y z v w Hk2 H2 Q ez S2.ex (RV.mono x2 _ _ r1) r2 (fun u ru => h Hk2 H2 u (x1.trans x2) S2 ru) fun p ob hp ru => ?_
        exact h _ _ _ ((x1.trans x2).trans (Ex.new (S2.ex.back hp))) (S2.new hp) ru
theorem me_op {op : Operator} {f : MV → MV → Option MV} {r : R2} {a b : Expr} {ma mb : ME} {pos : Pos} (ho : OpR X (binaryOp op) r) (o : OpS c.K f r) (ha : PE X a (rdE c ma)) (hb : PE X b (rdE c mb)) : PE X (.BinOp a op b pos) (rdE c (mOp f ma mb)) :=
  PEw (pe_op ho ha hb) fun _ _ _ h => rd_op o h
theorem me_cmp {op : CmpOp} {f : MV → MV → Option MV} {r : R2} {a b : Expr} {ma mb : ME} {pos : Pos} (ho : OpR X (compareOp op) r) (o : OpS c.K f r) (ha : PE X a (rdE c ma)) (hb : PE X b (rdE c mb)) (hm : behindInMarks op b = false) : PE X (.Compare a [op] [b] pos) (rdE c (mOp f ma mb)) :=
  PEw (pe_cmpR ho ha hb hm) fun _ _ _ h => rd_op o h
end
end Tm

set_option Elab.async false
set_option linter.all false
set_option maxRecDepth 100000
set_option maxHeartbeats 2000000
namespace Tm
open PySem L2
open Evl (Ex ex_rd ex_l ex_t)
/-! ### operations on plain values -/
def szOk (n : Nat) : Bool := decide (n ≤ sizeLine)
def fAdd : MV → MV → Option MV
  | .int i, .int j => some (.int (i + j))
  | .int i, .bl b => some (.int (i + PyProof.Rows.b2i b))
  | .str a, .str b => if szOk (a.length + b.length) then some (.str (a ++ b)) else none
  | .lst a, .lst b => if szOk (a.length + b.length) then some (.lst (a ++ b)) else none
  | .tup a, .tup b => if szOk (a.length + b.length) then some (.tup (a ++ b)) else none
  | _, _ => none
def fSub : MV → MV → Option MV
  | .int i, .int j => some (.int (i - j))
  | _, _ => none
def mulOk (i j : Int) : Bool := (decide (-(2 ^ 64) < i) && decide (i < 2 ^ 64)) || (decide (-(2 ^ 64) < j) && decide (j < 2 ^ 64)) || decide (i.natAbs.log2 + j.natAbs.log2 < 1000000)
instance (i j : Int) : Decidable (CMulW i j) := inferInstanceAs (Decidable (i.natAbs.log2 + j.natAbs.log2 < 1000000))
def repS (a : Str) (k : Int) : Str := ⟨(List.replicate k.toNat a.cps.toList).flatten.toArray⟩
def fMul : MV → MV → Option MV
  | .int i, .int j => if mulOk i j then some (.int (i * j)) else none
  | .str a, .int k => if decide (-(2 ^ 63) ≤ k) && decide (k < 2 ^ 63) && szOk (a.length * k.toNat) then some (.str (repS a k)) else none
  | .lst a, .int k => if decide (-(2 ^ 63) ≤ k) && decide (k < 2 ^ 63) && szOk (a.length * k.toNat) then some (.lst (List.replicate k.toNat a).flatten) else none
  | _, _ => none
def divOk (j : Int) : Bool := (decide (j ≠ 0) && decide (j.natAbs < 1073741824)) || (decide (0 < j) && decide (j.natAbs.log2 < 9000))
def fDiv : MV → MV → Option MV
  | .int i, .int j => if divOk j then some (.int (i.fdiv j)) else none
  | _, _ => none
def fMod : MV → MV → Option MV
  | .int i, .int j => if decide (j ≠ 0) then some (.int (i.fmod j)) else none
  | _, _ => none
def fPow : MV → MV → Option MV
  | .int i, .int j => if decide (0 ≤ j) && decide (j ≤ 1000000) && decide (i.natAbs < 2 ^ 64) then some (.int (i ^ j.toNat)) else none
  | _, _ => none
def fAnd : MV → MV → Option MV
  | .int i, .int j => some (.int (Builtin.bitAnd i j))
  | _, _ => none
def fOr : MV → MV → Option MV
  | .int i, .int j => some (.int (Builtin.bitOr i j))
  | _, _ => none
def fLt : MV → MV → Option MV
  | .int i, .int j => some (.bl (decide (i < j)))
  | _, _ => none
def fLe : MV → MV → Option MV
  | .int i, .int j => some (.bl (decide (i ≤ j)))
  | _, _ => none
def fGt : MV → MV → Option MV
  | .int i, .int j => some (.bl (decide (j < i)))
  | _, _ => none
def fGe : MV → MV → Option MV
  | .int i, .int j => some (.bl (decide (j ≤ i)))
  | _, _ => none
def MV.isN : MV → Bool
  | .non => true
  | .raw w => decide (w = .non)
  | _ => false
def fIsN : MV → MV → Option MV
  | x, .non => some (.bl x.isN)
  | _, _ => none
def fNotN : MV → MV → Option MV
  | x, .non => some (.bl (!x.isN))
  | _, _ => none
def scalM : MV → MV → Bool
  | .non, .non => true | .non, .int _ => true | .int _, .non => true | .non, .bl _ => true | .bl _, .non => true | .non, .str _ => true | .str _, .non => true
  | .int _, .int _ => true | .bl _, .bl _ => true | .str _, .str _ => true
  | .int _, .str _ => true | .str _, .int _ => true | .bl _, .str _ => true | .str _, .bl _ => true
  | _, _ => false
def sameM : MV → MV → Bool
  | .non, .non => true
  | .int i, .int j => decide (i = j)
  | .bl i, .bl j => decide (i = j)
  | .str i, .str j => decide (i = j)
  | _, _ => false
mutual
def toD : MV → Option PyData
  | .non => some .none
  | .bl b => some (.bool b)
  | .int i => some (.int i)
  | .str x => some (.str x)
  | .tup xs => (toDs xs).map .tuple
  | .lst xs => (toDs xs).map .list
  | _ => none
def toDs : List MV → Option (List PyData)
  | [] => some []
  | x :: xs => match toD x, toDs xs with
    | some d, some ds => some (d :: ds)
    | _, _ => none
end
def eqM (x y : MV) : Option Bool :=
  if scalM x y then some (sameM x y) else
  match toD x, toD y with
  | some d, some e => if SeqAt.shaped d && SeqAt.shaped e then some (PyData.eqv d e) else none
  | _, _ => none
def fEq (x y : MV) : Option MV := (eqM x y).map .bl
def fNe (x y : MV) : Option MV := (eqM x y).map fun b => .bl (!b)

section
variable {K : PySem.W.Frag}
theorem ops_int0 {g : Int → Int → V} {h : Int → Int → MV} (e : ∀ i j H, RV K H (h i j) (g i j)) : ∀ (i j : Int) (v w : V) (Hk H : Hp) (Q : VK), RV K Hk (.int i) v → RV K Hk (.int j) w → (∀ u, RV K Hk (h i j) u → Q u H) → rI0 g v w H Q := fun i j v w Hk H Q r1 r2 q =>
  ⟨i, j, RV.int.mp r1, RV.int.mp r2, q _ (e i j Hk)⟩
def rAddM (K : PySem.W.Frag) : R2 := fun x y H Q => (rI0 fun i j => .int (i + j)) x y H Q ∨ (∃ i k, x = .int i ∧ y = .bl k ∧ Q (.int (i + PyProof.Rows.b2i k)) H) ∨ (∃ i j, x = .str i ∧ y = .str j ∧ i.length + j.length ≤ sizeLine ∧ Q (.str (i ++ j)) H) ∨ rCat x y H Q ∨ rCatA K x y H Q
theorem op_addM {X : Cx} : OpR X (binaryOp .Add) (rAddM X.K) := OpR.or op_add (OpR.or op_add_ib (OpR.or op_add_str (OpR.or op_cat op_catA)))
theorem szOk_iff {n : Nat} : szOk n = true ↔ n ≤ sizeLine := by unfold szOk; simp
theorem os_add : OpS K fAdd (rAddM K) := by
  intro x y z v w Hk H Q e ex r1 r2 q qn
  unfold fAdd at e
  split at e
  · cases e
    exact .inl ⟨_, _, RV.int.mp r1, RV.int.mp r2, q _ (RV.int.mpr rfl)⟩
  · cases e
    exact .inr (.inl ⟨_, _, RV.int.mp r1, RV.bl.mp r2, q _ (RV.int.mpr rfl)⟩)
  · split at e
    · rename_i a b h
      cases e
      exact .inr (.inr (.inl ⟨_, _, RV.str.mp r1, RV.str.mp r2, szOk_iff.mp h, q _ (RV.str.mpr rfl)⟩))
    · cases e
  · split at e
    · rename_i a b h
      cases e
      obtain ⟨p1, vs, rfl, h1, s1⟩ := RV.lst.mp r1
      obtain ⟨p2, ws, rfl, h2, s2⟩ := RV.lst.mp r2
      refine .inr (.inr (.inr (.inl ⟨p1, p2, vs, ws, rfl, rfl, ex _ _ h1, ex _ _ h2, ?_, fun p hp => qn p _ hp ?_⟩)))
      · rw [s1.length, s2.length]; exact szOk_iff.mp h
      · have z := Ex.new (o := .lst (vs ++ ws)) (ex.back hp)
        exact RV.lst.mpr ⟨p, _, rfl, upd_same, (s1.append s2).mono z⟩
    · cases e
  · split at e
    · rename_i a b h
      cases e
      obtain ⟨p1, vs, rfl, h1, s1⟩ := RV.tup.mp r1
      obtain ⟨p2, ws, rfl, h2, s2⟩ := RV.tup.mp r2
      refine .inr (.inr (.inr (.inr ⟨p1, p2, vs, ws, rfl, rfl, ex_t ex h1, ex_t ex h2, ?_, fun e0 => ?_, fun e0 e1 => ?_, fun e0 e1 p hp => qn p _ hp ?_⟩)))
      · rw [s1.length, s2.length]; exact szOk_iff.mp h
      · have z := s1.append s2
        rw [e0, List.nil_append] at z
        exact q _ (RV.tup.mpr ⟨p2, ws, rfl, h2, z⟩)
      · have z := s1.append s2
        rw [e1, List.append_nil] at z
        exact q _ (RV.tup.mpr ⟨p1, vs, rfl, h1, z⟩)
      · have z := Ex.new (o := .tup (vs ++ ws)) (ex.back hp)
        exact RV.tup.mpr ⟨p, _, rfl, SqT.of upd_same, (s1.append s2).mono z⟩
    · cases e
  · cases e
theorem os_sub : OpS K fSub (rI0 fun i j => .int (i - j)) := by
  intro x y z v w Hk H Q e ex r1 r2 q qn
  unfold fSub at e
  split at e
  · cases e; exact ⟨_, _, RV.int.mp r1, RV.int.mp r2, q _ (RV.int.mpr rfl)⟩
  · cases e
def rRepS : R2 := fun x y H Q => ∃ a k, x = .str a ∧ y = .int k ∧ -(2 ^ 63) ≤ k ∧ k < 2 ^ 63 ∧ a.length * k.toNat ≤ sizeLine ∧ Q (.str (repS a k)) H
theorem rep_foldl (l : Array Nat) : ∀ (n : Nat) (acc : Array Nat), (List.replicate n l).foldl (· ++ ·) acc = (acc.toList ++ (List.replicate n l.toList).flatten).toArray
  | 0, acc => by simp
  | n + 1, acc => by
    rw [List.replicate_succ, List.foldl_cons, rep_foldl l n, List.replicate_succ, List.flatten_cons]
    simp
theorem op_repS {X : Cx} : OpR X (binaryOp .Mult) rRepS := by
  intro pins s σ H x y v u Q I rx ry h
  obtain ⟨a, k, rfl, rfl, h1, h2, hz, q⟩ := h
  obtain ⟨t, rfl⟩ := rx
  obtain ⟨t', rfl⟩ := ry
  have sz : sizeLine = 16777216 := rfl
  refine PySem.P.mul_str ?_ ?_ ?_ ?_
  · rw [decide_eq_false (by omega), decide_eq_false (by omega)]; rfl
  · intro h3 h4 h5
    have hk : 1 < k := by
      have : (k == 1) = false := by cases e : (k == 1) <;> simp [e] at h4 ⊢
      have := beq_eq_false_iff_ne.mp this
      omega
    have e1 : ((a.length : Int) * k) ≤ 16777216 := by
      rw [sz] at hz
      have : ((a.length * k.toNat : Nat) : Int) ≤ 16777216 := by omega
      rw [Int.natCast_mul, Int.toNat_of_nonneg (by omega)] at this
      exact this
    have e2 : (a.length : Int) ≤ (2 ^ 63 - 1) / k := by
      refine (Int.le_ediv_iff_mul_le (by omega)).mpr ?_
      omega
    omega
  · intro h3 h4
    unfold Builtin.Str.tooLong
    exact decide_eq_false (by omega)
  · split
    · rename_i h3
      refine ⟨by decide, .str (repS a k), H, I.tok _, ⟨s.toks, ?_⟩, q⟩
      have : k.toNat = 0 := by omega
      unfold repS
      rw [this]; rfl
    · split
      · rename_i h3 h4
        refine ⟨.str (repS a k), H, I, ⟨t, ?_⟩, q⟩
        have : repS a k = a := by
          unfold repS
          rw [Bool.or_eq_true] at h4
          rcases h4 with h4 | h4
          · have : k = 1 := by simpa using h4
            subst this
            show (⟨([a.cps.toList].flatten).toArray⟩ : Str) = a
            simp
          · have e0 : a.cps.toList = [] := by
              have : a.length = 0 := by simpa using h4
              exact List.length_eq_zero_iff.mp (by rw [Array.length_toList]; exact this)
            rw [e0]
            have : ∀ n : Nat, (List.replicate n ([] : List Nat)).flatten = [] := fun n => by simp
            rw [this]
            cases a with
            | mk cps =>
              simp only at e0
              rw [← e0]
        rw [this]
      · rename_i h3 h4
        have e1 : (⟨(List.replicate k.toNat a.cps).foldl (· ++ ·) #[]⟩ : Str) = repS a k := by
          unfold repS
          rw [rep_foldl]
          rfl
        rw [e1]
        refine ⟨?_, .str (repS a k), H, I.tok _, ⟨s.toks, rfl⟩, q⟩
        show (List.replicate k.toNat a.cps.toList).flatten.toArray.size ≤ sizeLine
        rw [List.size_toArray, PyProof.Rows.lm_len_rep_flat, Nat.mul_comm]
        exact hz
def rMulM : R2 := fun x y H Q => (rI CMul fun i j => .int (i * j)) x y H Q ∨ (rI CMulW fun i j => .int (i * j)) x y H Q ∨ rRep x y H Q ∨ rRepS x y H Q
theorem op_mulM {X : Cx} : OpR X (binaryOp .Mult) rMulM := OpR.or op_mul (OpR.or op_mulW (OpR.or op_rep op_repS))
theorem RVs.rep {H : Hp} {xs : List MV} {vs : List V} (h : RVs K H xs vs) : ∀ n : Nat, RVs K H (List.replicate n xs).flatten (List.replicate n vs).flatten
  | 0 => by simp [RVs]
  | n + 1 => by
    rw [List.replicate_succ, List.replicate_succ, List.flatten_cons, List.flatten_cons]
    exact h.append (RVs.rep h n)
theorem os_mul : OpS K fMul rMulM := by
  intro x y z v w Hk H Q e ex r1 r2 q qn
  unfold fMul at e
  split at e
  · rename_i i j
    split at e
    · rename_i h
      cases e
      unfold mulOk at h
      rw [Bool.or_eq_true] at h
      rcases h with h | h
      · refine .inl ⟨i, j, RV.int.mp r1, RV.int.mp r2, ?_, q _ (RV.int.mpr rfl)⟩
        simp only [Bool.or_eq_true, Bool.and_eq_true, decide_eq_true_eq] at h
        exact h
      · exact .inr (.inl ⟨i, j, RV.int.mp r1, RV.int.mp r2, of_decide_eq_true h, q _ (RV.int.mpr rfl)⟩)
    · cases e
  · rename_i a k
    split at e
    · rename_i h
      cases e
      simp only [Bool.and_eq_true, decide_eq_true_eq] at h
      exact .inr (.inr (.inr ⟨a, k, RV.str.mp r1, RV.int.mp r2, h.1.1, h.1.2, szOk_iff.mp h.2, q _ (RV.str.mpr rfl)⟩))
    · cases e
  · rename_i a k
    split at e
    · rename_i h
      cases e
      simp only [Bool.and_eq_true, decide_eq_true_eq] at h
      obtain ⟨p1, vs, rfl, h1, s1⟩ := RV.lst.mp r1
      refine .inr (.inr (.inl ⟨p1, k, vs, rfl, RV.int.mp r2, ex _ _ h1, h.1.1, h.1.2, ?_, fun p hp => qn p _ hp ?_⟩))
      · rw [s1.length]; exact szOk_iff.mp h.2
      · have z := Ex.new (o := .lst (List.replicate k.toNat vs).flatten) (ex.back hp)
        exact RV.lst.mpr ⟨p, _, rfl, upd_same, (RVs.rep s1 _).mono z⟩
    · cases e
  · cases e
def rDivM : R2 := fun x y H Q => (rI CDivN fun i j => .int (i.fdiv j)) x y H Q ∨ (rI CDivW fun i j => .int (i / j)) x y H Q
theorem op_divM {X : Cx} : OpR X (binaryOp .FloorDiv) rDivM := OpR.or op_fdivN op_fdivW
theorem os_div : OpS K fDiv rDivM := by
  intro x y z v w Hk H Q e ex r1 r2 q qn
  unfold fDiv at e
  split at e
  · rename_i i j
    split at e
    · rename_i h
      cases e
      unfold divOk at h
      rw [Bool.or_eq_true] at h
      rcases h with h | h
      · simp only [Bool.and_eq_true, decide_eq_true_eq] at h
        exact .inl ⟨i, j, RV.int.mp r1, RV.int.mp r2, h, q _ (RV.int.mpr rfl)⟩
      · simp only [Bool.and_eq_true, decide_eq_true_eq] at h
        refine .inr ⟨i, j, RV.int.mp r1, RV.int.mp r2, h, ?_⟩
        have := q _ (RV.int.mpr rfl)
        rw [Int.fdiv_eq_ediv_of_nonneg i (by omega)] at this
        exact this
    · cases e
  · cases e
theorem os_mod : OpS K fMod (rI (fun _ j => j ≠ 0) fun i j => .int (i.fmod j)) := by
  intro x y z v w Hk H Q e ex r1 r2 q qn
  unfold fMod at e
  split at e
  · split at e
    · rename_i h
      cases e
      exact ⟨_, _, RV.int.mp r1, RV.int.mp r2, of_decide_eq_true h, q _ (RV.int.mpr rfl)⟩
    · cases e
  · cases e
theorem os_pow : OpS K fPow (rI CPow fun i j => .int (i ^ j.toNat)) := by
  intro x y z v w Hk H Q e ex r1 r2 q qn
  unfold fPow at e
  split at e
  · split at e
    · rename_i h
      cases e
      simp only [Bool.and_eq_true, decide_eq_true_eq] at h
      exact ⟨_, _, RV.int.mp r1, RV.int.mp r2, ⟨h.1.1, h.1.2, h.2⟩, q _ (RV.int.mpr rfl)⟩
    · cases e
  · cases e
theorem os_and : OpS K fAnd (rI0 fun i j => .int (Builtin.bitAnd i j)) := by
  intro x y z v w Hk H Q e ex r1 r2 q qn
  unfold fAnd at e
  split at e
  · cases e; exact ⟨_, _, RV.int.mp r1, RV.int.mp r2, q _ (RV.int.mpr rfl)⟩
  · cases e
theorem os_or : OpS K fOr (rI0 fun i j => .int (Builtin.bitOr i j)) := by
  intro x y z v w Hk H Q e ex r1 r2 q qn
  unfold fOr at e
  split at e
  · cases e; exact ⟨_, _, RV.int.mp r1, RV.int.mp r2, q _ (RV.int.mpr rfl)⟩
  · cases e
theorem os_lt : OpS K fLt (rI0 fun i j => .bl (decide (i < j))) := by
  intro x y z v w Hk H Q e ex r1 r2 q qn
  unfold fLt at e
  split at e
  · cases e; exact ⟨_, _, RV.int.mp r1, RV.int.mp r2, q _ (RV.bl.mpr rfl)⟩
  · cases e
theorem os_le : OpS K fLe (rI0 fun i j => .bl (decide (i ≤ j))) := by
  intro x y z v w Hk H Q e ex r1 r2 q qn
  unfold fLe at e
  split at e
  · cases e; exact ⟨_, _, RV.int.mp r1, RV.int.mp r2, q _ (RV.bl.mpr rfl)⟩
  · cases e
theorem os_gt : OpS K fGt (rI0 fun i j => .bl (decide (j < i))) := by
  intro x y z v w Hk H Q e ex r1 r2 q qn
  unfold fGt at e
  split at e
  · cases e; exact ⟨_, _, RV.int.mp r1, RV.int.mp r2, q _ (RV.bl.mpr rfl)⟩
  · cases e
theorem os_ge : OpS K fGe (rI0 fun i j => .bl (decide (j ≤ i))) := by
  intro x y z v w Hk H Q e ex r1 r2 q qn
  unfold fGe at e
  split at e
  · cases e; exact ⟨_, _, RV.int.mp r1, RV.int.mp r2, q _ (RV.bl.mpr rfl)⟩
  · cases e

theorem RV.isnon {H : Hp} {x : MV} {v : V} (h : RV K H x v) : decide (v = .non) = x.isN := by
  cases x with
  | raw w => rw [RV.raw.mp h]; rfl
  | own _ => unfold RV at h; exact h.elim
  | obj _ _ => unfold RV at h; exact h.elim
  | non => rw [RV.non.mp h]; rfl
  | int i => rw [RV.int.mp h]; rfl
  | bl i => rw [RV.bl.mp h]; rfl
  | str i => rw [RV.str.mp h]; rfl
  | tup xs => obtain ⟨a, vs, e, _⟩ := RV.tup.mp h; rw [e]; rfl
  | lst xs => obtain ⟨a, vs, e, _⟩ := RV.lst.mp h; rw [e]; rfl
  | scr xs => obtain ⟨a, e, _⟩ := RV.scr.mp h; rw [e]; rfl
  | fnc x => obtain ⟨a, e, _⟩ := RV.fnc.mp h; rw [e]; rfl
theorem os_isN : OpS K fIsN (fun x y H Q => y = .non ∧ Q (.bl (decide (x = .non))) H) := by
  intro x y z v w Hk H Q e ex r1 r2 q qn
  unfold fIsN at e
  split at e
  · cases e; refine ⟨RV.non.mp r2, ?_⟩
    rw [r1.isnon]; exact q _ (RV.bl.mpr rfl)
  · cases e
theorem os_notN : OpS K fNotN (fun x y H Q => y = .non ∧ Q (.bl (!decide (x = .non))) H) := by
  intro x y z v w Hk H Q e ex r1 r2 q qn
  unfold fNotN at e
  split at e
  · cases e; refine ⟨RV.non.mp r2, ?_⟩
    rw [r1.isnon]; exact q _ (RV.bl.mpr rfl)
  · cases e
theorem scal_of {H : Hp} {x y : MV} {v w : V} (h : scalM x y = true) (r1 : RV K H x v) (r2 : RV K H y w) : scal v w = true ∧ decide (v = w) = sameM x y := by
  unfold scalM at h
  split at h <;> first | (cases h; done) | skip
  all_goals
    first
      | (rw [RV.non.mp r1] ) | (rw [RV.int.mp r1]) | (rw [RV.bl.mp r1]) | (rw [RV.str.mp r1])
    first
      | (rw [RV.non.mp r2] ) | (rw [RV.int.mp r2]) | (rw [RV.bl.mp r2]) | (rw [RV.str.mp r2])
    refine ⟨rfl, ?_⟩
    simp [sameM]
mutual
theorem Dp.of {Hk H : Hp} (ex : Ex Hk H) : ∀ (x : MV) (v : V) (d : PyData), RV K Hk x v → toD x = some d → Dp K H v d
  | .non, v, d, r, e => by rw [RV.non.mp r]; unfold toD at e; cases e; exact .non
  | .bl b, v, d, r, e => by rw [RV.bl.mp r]; unfold toD at e; cases e; exact .bl b
  | .int b, v, d, r, e => by rw [RV.int.mp r]; unfold toD at e; cases e; exact .int b
  | .str b, v, d, r, e => by rw [RV.str.mp r]; unfold toD at e; cases e; exact .str b
  | .tup xs, v, d, r, e => by
    obtain ⟨a, vs, rfl, h, s⟩ := RV.tup.mp r
    unfold toD at e
    cases e2 : toDs xs with
    | none => rw [e2] at e; cases e
    | some ds =>
      rw [e2] at e; cases e
      exact .tup (ex_t ex h) (DpAll.of ex xs vs ds s e2)
  | .lst xs, v, d, r, e => by
    obtain ⟨a, vs, rfl, h, s⟩ := RV.lst.mp r
    unfold toD at e
    cases e2 : toDs xs with
    | none => rw [e2] at e; cases e
    | some ds =>
      rw [e2] at e; cases e
      exact .lst (SqL.of (ex _ _ h)) (DpAll.of ex xs vs ds s e2)
  | .own _, v, d, r, e => by unfold toD at e; cases e
  | .raw _, v, d, r, e => by unfold toD at e; cases e
  | .scr _, v, d, r, e => by unfold toD at e; cases e
  | .fnc _, v, d, r, e => by unfold toD at e; cases e
  | .obj _ _, v, d, r, e => by unfold toD at e; cases e
theorem DpAll.of {Hk H : Hp} (ex : Ex Hk H) : ∀ (xs : List MV) (vs : List V) (ds : List PyData), RVs K Hk xs vs → toDs xs = some ds → DpAll K H vs ds
  | [], vs, ds, r, e => by rw [RVs.nil.mp r]; unfold toDs at e; cases e; exact .nil
  | x :: xs, vs, ds, r, e => by
    obtain ⟨v, us, rfl, r1, r2⟩ := RVs.cons.mp r
    unfold toDs at e
    split at e
    · rename_i d ds' e1 e2
      cases e
      exact .cons (Dp.of ex x v d r1 e1) (DpAll.of ex xs us ds' r2 e2)
    · cases e
end
def rEqM (K : PySem.W.Frag) : R2 := fun x y H Q => rEq x y H Q ∨ rEqD K x y H Q
def rNeM (K : PySem.W.Frag) : R2 := fun x y H Q => rNe x y H Q ∨ rNeD K x y H Q
theorem op_eqM {X : Cx} (hu : X.A.units + 64 < cLine) : OpR X (compareOp .Eq) (rEqM X.K) := OpR.or op_eq (op_eqD hu)
theorem op_neM {X : Cx} (hu : X.A.units + 64 < cLine) : OpR X (compareOp .NotEq) (rNeM X.K) := OpR.or op_ne (op_neD hu)
theorem os_eq : OpS K fEq (rEqM K) := by
  intro x y z v w Hk H Q e ex r1 r2 q qn
  unfold fEq eqM at e
  split at e
  · rename_i h
    obtain ⟨s1, s2⟩ := scal_of h r1 r2
    cases e
    refine .inl ⟨s1, ?_⟩
    rw [s2]; exact q _ (RV.bl.mpr rfl)
  · split at e
    · rename_i d e' e1 e2
      split at e
      · rename_i h
        rw [Bool.and_eq_true] at h
        cases e
        exact .inr ⟨d, e', Dp.of ex _ _ _ r1 e1, Dp.of ex _ _ _ r2 e2, h.1, h.2, q _ (RV.bl.mpr rfl)⟩
      · cases e
    · cases e
theorem os_ne : OpS K fNe (rNeM K) := by
  intro x y z v w Hk H Q e ex r1 r2 q qn
  unfold fNe eqM at e
  split at e
  · rename_i h
    obtain ⟨s1, s2⟩ := scal_of h r1 r2
    cases e
    refine .inl ⟨s1, ?_⟩
    rw [s2]; exact q _ (RV.bl.mpr rfl)
  · split at e
    · rename_i d e' e1 e2
      split at e
      · rename_i h
        rw [Bool.and_eq_true] at h
        cases e
        exact .inr ⟨d, e', Dp.of ex _ _ _ r1 e1, Dp.of ex _ _ _ r2 e2, h.1, h.2, q _ (RV.bl.mpr rfl)⟩
      · cases e
    · cases e
/-! ### items, membership -/
def fIx : MV → MV → Option MV
  | .lst xs, .int i => atI xs i
  | .tup xs, .int i => atI xs i
  | .scr ns, .int i => (atI ns i).map .int
  | .str z, .int i => if szOk z.length then (atI z.cps.toList i).map fun c => .str ⟨#[c]⟩ else none
  | _, _ => none
theorem atI_rv {H : Hp} {xs : List MV} {vs : List V} (r : RVs K H xs vs) {i : Int} {x : MV} (e : atI xs i = some x) : ∃ v, atI vs i = some v ∧ RV K H x v := by
  unfold atI at e ⊢
  rw [r.length]
  cases h : ixN xs.length i with
  | none => rw [h] at e; cases e
  | some j =>
    rw [h] at e
    exact r.get e
theorem atI_map {α β : Type} {f : α → β} {xs : List α} {i : Int} {x : α} (e : atI xs i = some x) : atI (xs.map f) i = some (f x) := by
  unfold atI at e ⊢
  rw [List.length_map]
  cases h : ixN xs.length i with
  | none => rw [h] at e; cases e
  | some j =>
    rw [h] at e
    show (xs.map f)[j]? = _
    rw [List.getElem?_map, show xs[j]? = some x from e]; rfl
theorem os_ix : OpS K fIx (rIx K) := by
  intro x y z v w Hk H Q e ex r1 r2 q qn
  unfold fIx at e
  split at e
  · obtain ⟨p1, vs, rfl, h1, s1⟩ := RV.lst.mp r1
    obtain ⟨u, eu, ru⟩ := atI_rv s1 e
    exact .inl ⟨p1, vs, _, u, rfl, RV.int.mp r2, SqL.of (ex _ _ h1), eu, q _ ru⟩
  · obtain ⟨p1, vs, rfl, h1, s1⟩ := RV.tup.mp r1
    obtain ⟨u, eu, ru⟩ := atI_rv s1 e
    exact .inr (.inl ⟨p1, vs, _, u, rfl, RV.int.mp r2, ex_t ex h1, eu, q _ ru⟩)
  · rename_i ns i
    obtain ⟨p1, rfl, h1⟩ := RV.scr.mp r1
    cases h : atI ns i with
    | none => rw [h] at e; cases e
    | some n =>
      rw [h] at e; cases e
      exact .inl ⟨p1, _, _, _, rfl, RV.int.mp r2, ex_l ex h1, atI_map h, q _ (RV.int.mpr rfl)⟩
  · rename_i s i
    split at e
    · rename_i hz
      cases h : atI s.cps.toList i with
      | none => rw [h] at e; cases e
      | some n =>
        rw [h] at e; cases e
        exact .inr (.inr ⟨s, i, n, RV.str.mp r1, RV.int.mp r2, szOk_iff.mp hz, h, q _ (RV.str.mpr rfl)⟩)
    · cases e
  · cases e
def flatM : MV → Bool
  | .non | .bl _ | .int _ | .str _ => true
  | _ => false
def eqFlat : MV → MV → Bool
  | .non, .non => true
  | .bl a, .bl b => a == b
  | .bl a, .int b => (if a then 1 else 0) == b
  | .int a, .bl b => a == (if b then 1 else 0)
  | .int a, .int b => a == b
  | .str a, .str b => a == b
  | _, _ => false
theorem flat_v {H : Hp} {x : MV} {v : V} (h : flatM x = true) (r : RV K H x v) : flatV v = true := by
  unfold flatM at h
  split at h <;> first | (cases h; done) | skip
  · rw [RV.non.mp r]; rfl
  · rw [RV.bl.mp r]; rfl
  · rw [RV.int.mp r]; rfl
  · rw [RV.str.mp r]; rfl
theorem flat_eq {H : Hp} {x y : MV} {v w : V} (h : flatM x = true) (h2 : flatM y = true) (r : RV K H x v) (r2 : RV K H y w) : eqV v w = eqFlat x y := by
  unfold flatM at h h2
  split at h <;> first | (cases h; done) | skip
  all_goals (split at h2 <;> first | (cases h2; done) | skip)
  all_goals
    first
      | (rw [RV.non.mp r] ) | (rw [RV.int.mp r]) | (rw [RV.bl.mp r]) | (rw [RV.str.mp r])
    first
      | (rw [RV.non.mp r2] ) | (rw [RV.int.mp r2]) | (rw [RV.bl.mp r2]) | (rw [RV.str.mp r2])
    rfl
theorem flats_v {H : Hp} : ∀ {xs : List MV} {vs : List V}, xs.all flatM = true → RVs K H xs vs → vs.all flatV = true
  | [], vs, _, r => by rw [RVs.nil.mp r]; rfl
  | x :: xs, vs, h, r => by
    obtain ⟨v, us, rfl, r1, r2⟩ := RVs.cons.mp r
    rw [List.all_cons, Bool.and_eq_true] at h
    rw [List.all_cons, flat_v h.1 r1, flats_v h.2 r2]; rfl
theorem inV_eq {H : Hp} {y : MV} {w : V} (hy : flatM y = true) (ry : RV K H y w) : ∀ {xs : List MV} {vs : List V}, xs.all flatM = true → RVs K H xs vs → inV w vs = xs.any fun x => eqFlat x y
  | [], vs, _, r => by rw [RVs.nil.mp r]; rfl
  | x :: xs, vs, h, r => by
    obtain ⟨v, us, rfl, r1, r2⟩ := RVs.cons.mp r
    rw [List.all_cons, Bool.and_eq_true] at h
    have ih := inV_eq hy ry h.2 r2
    unfold inV at ih ⊢
    rw [List.any_cons, List.any_cons, ih, flat_eq h.1 hy r1 ry]
def inM (y : MV) (xs : List MV) : Option Bool := if flatM y && xs.all flatM then some (xs.any fun x => eqFlat x y) else none
def inA : MV → MV → Option Bool
  | y, .lst xs => inM y xs
  | y, .tup xs => inM y xs
  | .str i, .str j => some (!(Builtin.Str.occurrences j i 0 j.length 1).isEmpty)
  | _, _ => none
def fIn (x y : MV) : Option MV := (inA x y).map .bl
def fNotIn (x y : MV) : Option MV := (inA x y).map fun b => .bl (!b)
def rInM (K : PySem.W.Frag) : R2 := fun x y H Q => rIn K false x y H Q ∨ (∃ i j, x = .str i ∧ y = .str j ∧ Q (.bl (!(Builtin.Str.occurrences j i 0 j.length 1).isEmpty)) H)
def rNotInM (K : PySem.W.Frag) : R2 := fun x y H Q => rIn K true x y H Q ∨ (∃ i j, x = .str i ∧ y = .str j ∧ Q (.bl (!(!(Builtin.Str.occurrences j i 0 j.length 1).isEmpty))) H)
theorem op_inM {X : Cx} : OpR X (compareOp .In) (rInM X.K) := OpR.or op_in_seq op_in_str
theorem op_notInM {X : Cx} : OpR X (compareOp .NotIn) (rNotInM X.K) := OpR.or op_notIn_seq op_notin_str
theorem in_sq {Hk H : Hp} {x y : MV} {v w : V} {b : Bool} (ex : Ex Hk H) (r1 : RV K Hk x v) (r2 : RV K Hk y w) (e : inA x y = some b) :
    (∃ p xs, w = .ref p ∧ (SqL K H p xs ∨ SqT K H p xs) ∧ flatV v = true ∧ xs.all flatV = true ∧ inV v xs = b) ∨ (∃ i j, v = .str i ∧ w = .str j ∧ (!(Builtin.Str.occurrences j i 0 j.length 1).isEmpty) = b) := by
  unfold inA at e
  split at e
  · unfold inM at e
    split at e
    · rename_i h
      cases e
      rw [Bool.and_eq_true] at h
      obtain ⟨p1, vs, rfl, h1, s1⟩ := RV.lst.mp r2
      exact .inl ⟨p1, vs, rfl, .inl (SqL.of (ex _ _ h1)), flat_v h.1 r1, flats_v h.2 s1, inV_eq h.1 r1 h.2 s1⟩
    · cases e
  · unfold inM at e
    split at e
    · rename_i h
      cases e
      rw [Bool.and_eq_true] at h
      obtain ⟨p1, vs, rfl, h1, s1⟩ := RV.tup.mp r2
      exact .inl ⟨p1, vs, rfl, .inr (ex_t ex h1), flat_v h.1 r1, flats_v h.2 s1, inV_eq h.1 r1 h.2 s1⟩
    · cases e
  · cases e
    exact .inr ⟨_, _, RV.str.mp r1, RV.str.mp r2, rfl⟩
  · cases e
theorem os_in : OpS K fIn (rInM K) := by
  intro x y z v w Hk H Q e ex r1 r2 q qn
  unfold fIn at e
  cases eb : inA x y with
  | none => rw [eb] at e; cases e
  | some b =>
    rw [eb] at e; cases e
    rcases in_sq ex r1 r2 eb with ⟨p, xs, e1, e2, e3, e4, e5⟩ | ⟨i, j, e1, e2, e3⟩
    · exact .inl ⟨p, xs, e1, e2, e3, e4, by rw [if_neg (by decide), e5]; exact q _ (RV.bl.mpr rfl)⟩
    · exact .inr ⟨i, j, e1, e2, by rw [e3]; exact q _ (RV.bl.mpr rfl)⟩
theorem os_notIn : OpS K fNotIn (rNotInM K) := by
  intro x y z v w Hk H Q e ex r1 r2 q qn
  unfold fNotIn at e
  cases eb : inA x y with
  | none => rw [eb] at e; cases e
  | some b =>
    rw [eb] at e; cases e
    rcases in_sq ex r1 r2 eb with ⟨p, xs, e1, e2, e3, e4, e5⟩ | ⟨i, j, e1, e2, e3⟩
    · exact .inl ⟨p, xs, e1, e2, e3, e4, by rw [if_pos rfl, e5]; exact q _ (RV.bl.mpr rfl)⟩
    · exact .inr ⟨i, j, e1, e2, by rw [e3]; exact q _ (RV.bl.mpr rfl)⟩
end
end Tm

set_option Elab.async false
set_option linter.all false
set_option maxRecDepth 100000
set_option maxHeartbeats 2000000
namespace Tm
open PySem L2
open Evl (Ex ex_rd ex_l ex_t)
/-! ### one step behind another -/
structure Post (c : Ct) (F : Hp) (bp : List (Nat × Addr)) (σ : St) {β : Type} (P : Hp → Res (β × Env) → Prop) : Prop where
  ex : ∀ Hk e ρ, P Hk (.exc e ρ) → Wish c F Hk bp σ e ρ
  st : ∀ Hk, ¬ P Hk .stuck
  mono : ∀ Hk Hk' r, Ex Hk Hk' → P Hk r → P Hk' r
section
variable {c : Ct} {F Hk H : Hp} {bp : List (Nat × Addr)} {σ : St} {ρ : Env} {β : Type}
theorem postE {Q : VK} : Post c F bp σ fun Hk r => okE c F Hk bp σ Q r := ⟨fun _ _ _ h => h, fun _ h => h, fun _ _ _ x h => okE.mono x h⟩
theorem postO {Q : VK} : Post c F bp σ fun Hk r => okO c F Hk bp σ Q r := ⟨fun _ _ _ h => h, fun _ h => h, fun _ _ _ x h => okO.mono x h⟩
theorem postT {Q : Bool → Hp → Prop} : Post c F bp σ fun Hk r => okT c F Hk bp σ Q r := ⟨fun _ _ _ h => h, fun _ h => h, fun _ _ _ x h => okT.mono x h⟩
theorem postA {Q : List V → Hp → Prop} : Post c F bp σ fun Hk r => okA c F Hk bp σ Q r := ⟨fun _ _ _ h => h, fun _ h => h, fun _ _ _ x h => okA.mono x h⟩
theorem postS {D : Ends} : Post c F bp σ fun Hk r => okS c F Hk bp D r := ⟨fun _ _ _ h Hk' H' cls d => h Hk' H' σ cls d, fun _ h => h, fun _ _ _ x h => okS.mono x h⟩
variable {P : Hp → Res (β × Env) → Prop}
theorem bE (p : Post c F bp σ P) {a : ME} {k : MV → Env → Res (β × Env)} (S : At c F Hk H bp σ ρ) (h : P Hk ((a ρ).bind k)) :
    rdE c a σ H fun v H1 => ∃ Hk1 x ρ1, Ex Hk Hk1 ∧ At c F Hk1 H1 bp σ ρ1 ∧ RV c.K Hk1 x v ∧ P Hk1 (k x ρ1) := by
  refine ⟨F, Hk, bp, ρ, S, ?_⟩
  cases e : a ρ with
  | stuck => rw [e] at h; exact p.st _ h
  | exc x ρ' => rw [e] at h; exact p.ex _ _ _ h
  | ok q =>
    rw [e] at h
    exact fun Hk1 H1 v x1 S1 r1 => ⟨Hk1, q.1, q.2, x1, ⟨S1, S.2⟩, r1, p.mono _ _ _ x1 h⟩
theorem bO (p : Post c F bp σ P) {a : ME} {k : MV → Env → Res (β × Env)} (S : At c F Hk H bp σ ρ) (h : P Hk ((a ρ).bind k)) :
    rdO c a σ H fun v H1 => ∃ Hk1 x ρ1, Ex Hk Hk1 ∧ RS c.K F Hk1 H1 bp (σ ++ [some v]) (ρ1 ++ [some x]) ∧ P Hk1 (k x ρ1) := by
  refine ⟨F, Hk, bp, ρ, S, ?_⟩
  cases e : a ρ with
  | stuck => rw [e] at h; exact p.st _ h
  | exc x ρ' => rw [e] at h; exact p.ex _ _ _ h
  | ok q =>
    rw [e] at h
    exact fun Hk1 H1 v x1 S1 => ⟨Hk1, q.1, q.2, x1, S1, p.mono _ _ _ x1 h⟩
theorem bT (p : Post c F bp σ P) {a : MT} {k : Bool → Env → Res (β × Env)} (S : At c F Hk H bp σ ρ) (h : P Hk ((a ρ).bind k)) :
    rdT c a σ H fun b H1 => ∃ Hk1 ρ1, Ex Hk Hk1 ∧ At c F Hk1 H1 bp σ ρ1 ∧ P Hk1 (k b ρ1) := by
  refine ⟨F, Hk, bp, ρ, S, ?_⟩
  cases e : a ρ with
  | stuck => rw [e] at h; exact p.st _ h
  | exc x ρ' => rw [e] at h; exact p.ex _ _ _ h
  | ok q =>
    rw [e] at h
    exact fun Hk1 H1 x1 S1 => ⟨Hk1, q.2, x1, ⟨S1, S.2⟩, p.mono _ _ _ x1 h⟩
theorem bA (p : Post c F bp σ P) {a : MA} {k : List MV → Env → Res (β × Env)} (S : At c F Hk H bp σ ρ) (h : P Hk ((a ρ).bind k)) :
    rdA c a σ H fun vs H1 => ∃ Hk1 xs ρ1, Ex Hk Hk1 ∧ At c F Hk1 H1 bp σ ρ1 ∧ RVs c.K Hk1 xs vs ∧ P Hk1 (k xs ρ1) := by
  refine ⟨F, Hk, bp, ρ, S, ?_⟩
  cases e : a ρ with
  | stuck => rw [e] at h; exact p.st _ h
  | exc x ρ' => rw [e] at h; exact p.ex _ _ _ h
  | ok q =>
    rw [e] at h
    exact fun Hk1 H1 vs x1 S1 r1 => ⟨Hk1, q.1, q.2, x1, ⟨S1, S.2⟩, r1, p.mono _ _ _ x1 h⟩
end

section
variable {c : Ct}
theorem okE.imp {F Hk : Hp} {bp : List (Nat × Addr)} {σ : St} {Q Q' : VK} {r : Res (MV × Env)} (h : okE c F Hk bp σ Q r) (w : ∀ v H, Q v H → Q' v H) : okE c F Hk bp σ Q' r := by
  cases r with
  | ok a => exact fun Hk2 H2 v x S r => w _ _ (h Hk2 H2 v x S r)
  | exc e ρ => exact h
  | stuck => exact h
theorem okT.imp {F Hk : Hp} {bp : List (Nat × Addr)} {σ : St} {Q Q' : Bool → Hp → Prop} {r : Res (Bool × Env)} (h : okT c F Hk bp σ Q r) (w : ∀ v H, Q v H → Q' v H) : okT c F Hk bp σ Q' r := by
  cases r with
  | ok a => exact fun Hk2 H2 x S => w _ _ (h Hk2 H2 x S)
  | exc e ρ => exact h
  | stuck => exact h
theorem okA.imp {F Hk : Hp} {bp : List (Nat × Addr)} {σ : St} {Q Q' : List V → Hp → Prop} {r : Res (List MV × Env)} (h : okA c F Hk bp σ Q r) (w : ∀ v H, Q v H → Q' v H) : okA c F Hk bp σ Q' r := by
  cases r with
  | ok a => exact fun Hk2 H2 v x S r => w _ _ (h Hk2 H2 v x S r)
  | exc e ρ => exact h
  | stuck => exact h
theorem okO.imp {F Hk : Hp} {bp : List (Nat × Addr)} {σ : St} {Q Q' : VK} {r : Res (MV × Env)} (h : okO c F Hk bp σ Q r) (w : ∀ v H, Q v H → Q' v H) : okO c F Hk bp σ Q' r := by
  cases r with
  | ok a => exact fun Hk2 H2 v x S => w _ _ (h Hk2 H2 v x S)
  | exc e ρ => exact h
  | stuck => exact h
theorem rdw {m : ME} {σ : St} {H : Hp} {Q Q' : VK} (h : rdE c m σ H Q) (w : ∀ v H, Q v H → Q' v H) : rdE c m σ H Q' := let ⟨F, Hk, bp, ρ, S, q⟩ := h; ⟨F, Hk, bp, ρ, S, q.imp w⟩
theorem rdOw {m : ME} {σ : St} {H : Hp} {Q Q' : VK} (h : rdO c m σ H Q) (w : ∀ v H, Q v H → Q' v H) : rdO c m σ H Q' := let ⟨F, Hk, bp, ρ, S, q⟩ := h; ⟨F, Hk, bp, ρ, S, q.imp w⟩
theorem rdTw {m : MT} {σ : St} {H : Hp} {Q Q' : Bool → Hp → Prop} (h : rdT c m σ H Q) (w : ∀ v H, Q v H → Q' v H) : rdT c m σ H Q' := let ⟨F, Hk, bp, ρ, S, q⟩ := h; ⟨F, Hk, bp, ρ, S, q.imp w⟩
theorem rdAw {m : MA} {σ : St} {H : Hp} {Q Q' : List V → Hp → Prop} (h : rdA c m σ H Q) (w : ∀ v H, Q v H → Q' v H) : rdA c m σ H Q' := let ⟨F, Hk, bp, ρ, S, q⟩ := h; ⟨F, Hk, bp, ρ, S, q.imp w⟩
end
section
variable {X : Cx} {c : Ct}
/-! ### tests -/
def mTest (a : ME) : MT := fun ρ => (a ρ).bind fun x ρ1 => match x with | .bl b => .ok (b, ρ1) | _ => .stuck
theorem rd_test {a : ME} {σ : St} {H : Hp} {Q : Bool → Hp → Prop} (h : rdT c (mTest a) σ H Q) : (rdE c a) σ H fun x H' => ∃ k, x = .bl k ∧ Q k H' := by
  obtain ⟨F, Hk, bp, ρ, S, h⟩ := h
  obtain ⟨F', Hk', bp', ρ', S', h'⟩ := bE postT S h
  refine ⟨F', Hk', bp', ρ', S', ?_⟩
  cases e : a ρ' with
  | stuck => rw [e] at h'; exact h'
  | exc x r => rw [e] at h'; exact h'
  | ok q =>
    rw [e] at h'
    intro Hk1 H1 v x1 S1 r1
    obtain ⟨Hk2, x, ρ2, x2, S2, r2, h2⟩ := h' Hk1 H1 v x1 S1 r1
    cases x with
    | bl b => exact ⟨b, RV.bl.mp r2, h2 _ _ (Ex.refl _) S2.1⟩
    | _ => exact h2.elim
theorem mt_cmp {op : CmpOp} {f : MV → MV → Option MV} {r : R2} {a b : Expr} {ma mb : ME} {pos : Pos} (ho : OpR X (compareOp op) r) (o : OpS c.K f r) (ha : PE X a (rdE c ma)) (hb : PE X b (rdE c mb)) (hm : behindInMarks op b = false) :
    PT X (.Compare a [op] [b] pos) (rdT c (mTest (mOp f ma mb))) := PTw (pt_cmpR ho ha hb hm) fun σ H Q h => rd_op (Q := fun x H' => ∃ k, x = .bl k ∧ Q k H') o (rd_test h)
theorem mt_val {e : Expr} {m : ME} (h : PE X e (rdE c m)) (he : ∀ whole, isTrue e X.env whole = (do let v ← whole; standAt e.pos; holding [v] (truthy v)) := by intro _; rfl) : PT X e (rdT c (mTest m)) :=
  PTw (pt_val h he) fun σ H Q h => rd_test h
def mChain (f g : MV → MV → Option MV) (a b d : ME) : ME := fun ρ => (a ρ).bind fun x ρ1 => (b ρ1).bind fun y ρ2 => match f x y with
  | some (.bl true) => (d ρ2).bind fun z ρ3 => match g y z with | some w => .ok (w, ρ3) | none => .stuck
  | some (.bl false) => .ok (.bl false, ρ2)
  | _ => .stuck

theorem opEnd {f : MV → MV → Option MV} {r : R2} (o : OpS c.K f r) {F Hk H : Hp} {bp : List (Nat × Addr)} {σ : St} {ρ : Env} {Q : VK} {x y : MV} {v w : V} (S : At c F Hk H bp σ ρ) (r1 : RV c.K Hk x v) (r2 : RV c.K Hk y w)
    (h : okE c F Hk bp σ Q (match f x y with | some z => .ok (z, ρ) | none => .stuck)) : r v w H Q := by
  cases e : f x y with
  | none => rw [e] at h; exact h.elim
  | some z =>
    rw [e] at h
    exact o x y z v w Hk H Q e S.1.ex r1 r2 (fun u ru => h _ _ u (Ex.refl _) S.1 ru) fun p ob hp ru => h _ _ _ (Ex.new (S.1.ex.back hp)) (S.1.new hp) ru
theorem rd_chain {f g : MV → MV → Option MV} {r r' : R2} (o : OpS c.K f r) (o' : OpS c.K g r') {a b d : ME} {σ : St} {H : Hp} {Q : VK} (h : rdE c (mChain f g a b d) σ H Q) : tChain r r' (rdE c a) (rdE c b) (rdE c d) σ H Q := by
  obtain ⟨F, Hk, bp, ρ, S, h⟩ := h
  refine rdw (bE postE S h) fun v H1 ⟨Hk1, x, ρ1, x1, S1, r1, h1⟩ => ?_
  refine rdw (bE postE S1 h1) fun w H2 ⟨Hk2, y, ρ2, x2, S2, r2, h2⟩ => ?_
  split at h2
  · rename_i e
    refine o x y _ v w Hk2 H2 _ e S2.1.ex (RV.mono x2 _ _ r1) r2 (fun u ru => ⟨true, RV.bl.mp ru, ?_⟩) fun p ob hp ru => nomatch (RV.bl.mp ru)
    rw [if_pos rfl]
    refine rdw (bE postE S2 h2) fun z H3 ⟨Hk3, zz, ρ3, x3, S3, r3, h3⟩ => ?_
    exact opEnd o' S3 (RV.mono x3 _ _ r2) r3 h3
  · rename_i e
    refine o x y _ v w Hk2 H2 _ e S2.1.ex (RV.mono x2 _ _ r1) r2 (fun u ru => ⟨false, RV.bl.mp ru, ?_⟩) fun p ob hp ru => nomatch (RV.bl.mp ru)
    rw [if_neg (by decide)]
    exact h2 _ _ _ (Ex.refl _) S2.1 (RV.bl.mpr rfl)
  · exact h2.elim
theorem me_chain {op op' : CmpOp} {f g : MV → MV → Option MV} {r r' : R2} {a b d : Expr} {ma mb md : ME} {pos : Pos} (ho : OpR X (compareOp op) r) (o : OpS c.K f r) (ho' : OpR X (compareOp op') r') (o' : OpS c.K g r')
    (ha : PE X a (rdE c ma)) (hb : PE X b (rdE c mb)) (hd : PE X d (rdE c md)) (hm : lastMarks [op, op'] [b, d] = false := by with_unfolding_all rfl) : PE X (.Compare a [op, op'] [b, d] pos) (rdE c (mChain f g ma mb md)) :=
  PEw (pe_chain ho ho' ha hb hd hm) fun _ _ _ h => rd_chain o o' h
theorem mt_chain {op op' : CmpOp} {f g : MV → MV → Option MV} {r r' : R2} {a b d : Expr} {ma mb md : ME} {pos : Pos} (ho : OpR X (compareOp op) r) (o : OpS c.K f r) (ho' : OpR X (compareOp op') r') (o' : OpS c.K g r')
    (ha : PE X a (rdE c ma)) (hb : PE X b (rdE c mb)) (hd : PE X d (rdE c md)) (hm : lastMarks [op, op'] [b, d] = false := by with_unfolding_all rfl) : PT X (.Compare a [op, op'] [b, d] pos) (rdT c (mTest (mChain f g ma mb md))) :=
  PTw (pt_chain ho ho' ha hb hd hm) fun σ H Q h => rd_chain (Q := fun x H' => ∃ k, x = .bl k ∧ Q k H') o o' (rd_test h)
/-! ### and, or, not; a if t else b -/
def mAndT (a b : MT) : MT := fun ρ => (a ρ).bind fun x ρ1 => if x then b ρ1 else .ok (false, ρ1)
def mOrT (a b : MT) : MT := fun ρ => (a ρ).bind fun x ρ1 => if x then .ok (true, ρ1) else b ρ1
def mNotT (a : MT) : MT := fun ρ => (a ρ).bind fun x ρ1 => .ok (!x, ρ1)
def mIf (t : MT) (a b : ME) : ME := fun ρ => (t ρ).bind fun x ρ1 => if x then a ρ1 else b ρ1
def mBv (t : MT) : ME := fun ρ => (t ρ).bind fun x ρ1 => .ok (.bl x, ρ1)
theorem rd_andT {a b : MT} {σ : St} {H : Hp} {Q : Bool → Hp → Prop} (h : rdT c (mAndT a b) σ H Q) : tAnd (rdT c a) (rdT c b) σ H Q := by
  obtain ⟨F, Hk, bp, ρ, S, h⟩ := h
  refine rdTw (bT postT S h) fun k H1 ⟨Hk1, ρ1, x1, S1, h1⟩ => ?_
  cases k with
  | true => rw [if_pos rfl] at h1 ⊢; exact ⟨F, Hk1, bp, ρ1, S1, h1⟩
  | false => rw [if_neg (by decide)] at h1 ⊢; exact h1 _ _ (Ex.refl _) S1.1
theorem rd_orT {a b : MT} {σ : St} {H : Hp} {Q : Bool → Hp → Prop} (h : rdT c (mOrT a b) σ H Q) : tOr (rdT c a) (rdT c b) σ H Q := by
  obtain ⟨F, Hk, bp, ρ, S, h⟩ := h
  refine rdTw (bT postT S h) fun k H1 ⟨Hk1, ρ1, x1, S1, h1⟩ => ?_
  cases k with
  | true => rw [if_pos rfl] at h1 ⊢; exact h1 _ _ (Ex.refl _) S1.1
  | false => rw [if_neg (by decide)] at h1 ⊢; exact ⟨F, Hk1, bp, ρ1, S1, h1⟩
theorem rd_notT {a : MT} {σ : St} {H : Hp} {Q : Bool → Hp → Prop} (h : rdT c (mNotT a) σ H Q) : tNot (rdT c a) σ H Q := by
  obtain ⟨F, Hk, bp, ρ, S, h⟩ := h
  exact rdTw (bT postT S h) fun k H1 ⟨Hk1, ρ1, x1, S1, h1⟩ => h1 _ _ (Ex.refl _) S1.1
theorem mw_one_and {a : Expr} {m : MT} {pos : Pos} (h : PT X a (rdT c m)) : PW X (.BoolOp .And [a] pos) (rdT c m) := pw_and1 h
theorem mw_one_or {a : Expr} {m : MT} {pos : Pos} (h : PT X a (rdT c m)) : PW X (.BoolOp .Or [a] pos) (rdT c m) := pw_or1 h
theorem mw_and {a b : Expr} {r : List Expr} {m n : MT} {pos : Pos} (h : PT X a (rdT c m)) (g : PW X (.BoolOp .And (b :: r) pos) (rdT c n)) : PW X (.BoolOp .And (a :: b :: r) pos) (rdT c (mAndT m n)) := PWw (pw_and h g) fun _ _ _ q => rd_andT q
theorem mw_or {a b : Expr} {r : List Expr} {m n : MT} {pos : Pos} (h : PT X a (rdT c m)) (g : PW X (.BoolOp .Or (b :: r) pos) (rdT c n)) : PW X (.BoolOp .Or (a :: b :: r) pos) (rdT c (mOrT m n)) := PWw (pw_or h g) fun _ _ _ q => rd_orT q
theorem mt_not {a : Expr} {m : MT} {pos : Pos} (h : PT X a (rdT c m)) : PT X (.UnaryOp .Not a pos) (rdT c (mNotT m)) := PTw (pt_not h) fun _ _ _ q => rd_notT q
theorem rd_if {t : MT} {a b : ME} {σ : St} {H : Hp} {Q : VK} (h : rdE c (mIf t a b) σ H Q) : tIf (rdT c t) (rdE c a) (rdE c b) σ H Q := by
  obtain ⟨F, Hk, bp, ρ, S, h⟩ := h
  refine rdTw (bT postE S h) fun k H1 ⟨Hk1, ρ1, x1, S1, h1⟩ => ?_
  cases k with
  | true => rw [if_pos rfl] at h1 ⊢; exact ⟨F, Hk1, bp, ρ1, S1, h1⟩
  | false => rw [if_neg (by decide)] at h1 ⊢; exact ⟨F, Hk1, bp, ρ1, S1, h1⟩
theorem me_if {t a b : Expr} {mt : MT} {ma mb : ME} {pos : Pos} (ht : PT X t (rdT c mt)) (ha : PE X a (rdE c ma)) (hb : PE X b (rdE c mb)) : PE X (.IfExp t a b pos) (rdE c (mIf mt ma mb)) := PEw (pe_ifExp ht ha hb) fun _ _ _ q => rd_if q
theorem okBv {F Hk : Hp} {bp : List (Nat × Addr)} {σ : St} {Q : VK} {r : Res (Bool × Env)} (h : okT c F Hk bp σ (fun k H => Q (.bl k) H) r) : okE c F Hk bp σ Q (r.bind fun x ρ1 => .ok (.bl x, ρ1)) := by
  cases r with
  | ok a =>
    intro Hk2 H2 v x S rv
    rw [RV.bl.mp rv]
    exact h Hk2 H2 x S
  | exc e ρ => exact h
  | stuck => exact h
theorem rdBv {t : MT} {σ : St} {H : Hp} {Q : VK} (h : rdT c t σ H fun k H1 => Q (.bl k) H1) : rdE c (mBv t) σ H Q := let ⟨F, Hk, bp, ρ, S, q⟩ := h; ⟨F, Hk, bp, ρ, S, okBv q⟩
theorem rdBv' {t : MT} {σ : St} {H : Hp} {Q : VK} (h : rdE c (mBv t) σ H Q) : rdT c t σ H fun k H1 => Q (.bl k) H1 := by
  obtain ⟨F, Hk, bp, ρ, S, h⟩ := h
  exact rdTw (bT postE S h) fun k H1 ⟨Hk1, ρ1, x1, S1, h1⟩ => h1 _ _ _ (Ex.refl _) S1.1 (RV.bl.mpr rfl)
theorem rd_andV {a b : ME} {σ : St} {H : Hp} {Q : VK} (h : rdE c (mBv (mAndT (mTest a) (mTest b))) σ H Q) : tAndV (rdE c a) (rdE c (mBv (mTest b))) σ H Q := by
  obtain ⟨F, Hk, bp, ρ, S, h⟩ := h
  have z : rdT c (mAndT (mTest a) (mTest b)) σ H fun k H1 => Q (.bl k) H1 := rdTw (bT postE S h) fun k H1 ⟨Hk1, ρ1, x1, S1, h1⟩ => h1 _ _ _ (Ex.refl _) S1.1 (RV.bl.mpr rfl)
  have z2 := rd_andT z
  refine rdw (rd_test z2) fun v H1 ⟨k, e, q⟩ => ⟨k, e, ?_⟩
  cases k with
  | true =>
    rw [if_pos rfl] at q ⊢
    exact rdBv q
  | false => rw [if_neg (by decide)] at q ⊢; exact q
theorem rd_orV {a b : ME} {σ : St} {H : Hp} {Q : VK} (h : rdE c (mBv (mOrT (mTest a) (mTest b))) σ H Q) : tOrV (rdE c a) (rdE c (mBv (mTest b))) σ H Q := by
  obtain ⟨F, Hk, bp, ρ, S, h⟩ := h
  have z : rdT c (mOrT (mTest a) (mTest b)) σ H fun k H1 => Q (.bl k) H1 := rdTw (bT postE S h) fun k H1 ⟨Hk1, ρ1, x1, S1, h1⟩ => h1 _ _ _ (Ex.refl _) S1.1 (RV.bl.mpr rfl)
  have z2 := rd_orT z
  refine rdw (rd_test z2) fun v H1 ⟨k, e, q⟩ => ⟨k, e, ?_⟩
  cases k with
  | true => rw [if_pos rfl] at q ⊢; exact q
  | false =>
    rw [if_neg (by decide)] at q ⊢
    exact rdBv q
end
end Tm

set_option Elab.async false
set_option linter.all false
set_option maxRecDepth 100000
set_option maxHeartbeats 2000000
namespace Tm
open PySem L2
open Evl (Ex ex_rd ex_l ex_t)
section
variable {X : Cx} {c : Ct}
/-! ### and, or, not as values -/
theorem rd_oneV {a : ME} {σ : St} {H : Hp} {Q : VK} (h : rdE c (mBv (mTest a)) σ H Q) : rdE c a σ H Q := rdw (rd_test (rdBv' h)) fun v H1 ⟨k, e, q⟩ => by rw [e]; exact q
theorem me_one {op : BoolOp} {a : Expr} {m : ME} {pos : Pos} (h : PE X a (rdE c m)) : PE X (.BoolOp op [a] pos) (rdE c (mBv (mTest m))) := PEw (pe_one h) fun _ _ _ q => rd_oneV q
theorem me_and {a b : Expr} {r : List Expr} {m : ME} {t : MT} {pos : Pos} (h : PE X a (rdE c m)) (g : PE X (.BoolOp .And (b :: r) pos) (rdE c (mBv t))) : PE X (.BoolOp .And (a :: b :: r) pos) (rdE c (mBv (mAndT (mTest m) t))) :=
  PEw (pe_and h g) fun σ H Q q => rdw (rd_test (rd_andT (rdBv' q))) fun v H1 ⟨k, e, q⟩ => ⟨k, e, by
    cases k with
    | true => rw [if_pos rfl] at q ⊢; exact rdBv q
    | false => rw [if_neg (by decide)] at q ⊢; exact q⟩
theorem me_or {a b : Expr} {r : List Expr} {m : ME} {t : MT} {pos : Pos} (h : PE X a (rdE c m)) (g : PE X (.BoolOp .Or (b :: r) pos) (rdE c (mBv t))) : PE X (.BoolOp .Or (a :: b :: r) pos) (rdE c (mBv (mOrT (mTest m) t))) :=
  PEw (pe_or h g) fun σ H Q q => rdw (rd_test (rd_orT (rdBv' q))) fun v H1 ⟨k, e, q⟩ => ⟨k, e, by
    cases k with
    | true => rw [if_pos rfl] at q ⊢; exact q
    | false => rw [if_neg (by decide)] at q ⊢; exact rdBv q⟩
theorem me_not {a : Expr} {m : ME} {pos : Pos} (h : PE X a (rdE c m)) : PE X (.UnaryOp .Not a pos) (rdE c (mBv (mNotT (mTest m)))) :=
  PEw (pe_not h) fun σ H Q q => rdw (rd_test (rd_notT (rdBv' q))) fun v H1 ⟨k, e, q⟩ => ⟨k, e, q⟩
/-! ### one operand -/
def mUn (f : MV → Option MV) (a : ME) : ME := fun ρ => (a ρ).bind fun x ρ1 => match f x with | some z => .ok (z, ρ1) | none => .stuck
def fNeg : MV → Option MV
  | .int i => some (.int (-i))
  | _ => none
def UnS (K : PySem.W.Frag) (f : MV → Option MV) (r : V → Hp → VK → Prop) : Prop := ∀ (x z : MV) (v : V) (Hk H : Hp) (Q : VK), f x = some z → Ex Hk H → RV K Hk x v → (∀ u, RV K Hk z u → Q u H) →
  (∀ p o, H p = none → RV K (upd Hk p o) z (.ref p) → Q (.ref p) (upd H p o)) → r v H Q
theorem unEnd {f : MV → Option MV} {r : V → Hp → VK → Prop} (o : UnS c.K f r) {F Hk H : Hp} {bp : List (Nat × Addr)} {σ : St} {ρ : Env} {Q : VK} {x : MV} {v : V} (S : At c F Hk H bp σ ρ) (r1 : RV c.K Hk x v)
    (h : okE c F Hk bp σ Q (match f x with | some z => .ok (z, ρ) | none => .stuck)) : r v H Q := by
  cases e : f x with
  | none => rw [e] at h; exact h.elim
  | some z =>
    rw [e] at h
    exact o x z v Hk H Q e S.1.ex r1 (fun u ru => h _ _ u (Ex.refl _) S.1 ru) fun p ob hp ru => h _ _ _ (Ex.new (S.1.ex.back hp)) (S.1.new hp) ru
theorem rd_un {f : MV → Option MV} {r : V → Hp → VK → Prop} (o : UnS c.K f r) {a : ME} {σ : St} {H : Hp} {Q : VK} (h : rdE c (mUn f a) σ H Q) : tUn r (rdE c a) σ H Q := by
  obtain ⟨F, Hk, bp, ρ, S, h⟩ := h
  exact rdw (bE postE S h) fun v H1 ⟨Hk1, x, ρ1, x1, S1, r1, h1⟩ => unEnd o S1 r1 h1
theorem us_neg {K : PySem.W.Frag} : UnS K fNeg (rU fun i => .int (-i)) := by
  intro x z v Hk H Q e ex r1 q qn
  unfold fNeg at e
  split at e
  · cases e; exact ⟨_, RV.int.mp r1, q _ (RV.int.mpr rfl)⟩
  · cases e
theorem me_neg {a : Expr} {m : ME} {pos : Pos} (h : PE X a (rdE c m)) : PE X (.UnaryOp .USub a pos) (rdE c (mUn fNeg m)) := PEw (pe_un un_neg h) fun _ _ _ q => rd_un us_neg q
/-! ### argument lists, displays -/
def mNil : MA := fun ρ => .ok ([], ρ)
def mCons (a : ME) (b : MA) : MA := fun ρ => (a ρ).bind fun x ρ1 => (b ρ1).bind fun xs ρ2 => .ok (x :: xs, ρ2)
theorem ma_nil : PA X [] (rdA c mNil) := PAw pa_nil fun σ H Q h => by
  obtain ⟨F, Hk, bp, ρ, S, h⟩ := h
  exact h _ _ _ (Ex.refl _) S.1 (RVs.nil.mpr rfl)
theorem ma_cons {e : Expr} {es : List Expr} {a : ME} {b : MA} (ha : PE X e (rdE c a)) (hb : PA X es (rdA c b)) (hs : starEach (e :: es) X.env = (false, eval e X.env) :: starEach es X.env := by rfl) : PA X (e :: es) (rdA c (mCons a b)) :=
  PAw (pa_cons ha hb hs) fun σ H Q h => by
    obtain ⟨F, Hk, bp, ρ, S, h⟩ := h
    refine rdw (bE postA S h) fun v H1 ⟨Hk1, x, ρ1, x1, S1, r1, h1⟩ => ?_
    refine rdAw (bA postA S1 h1) fun vs H2 ⟨Hk2, xs, ρ2, x2, S2, r2, h2⟩ => ?_
    exact h2 _ _ _ (Ex.refl _) S2.1 (RVs.cons.mpr ⟨v, vs, rfl, RV.mono x2 _ _ r1, r2⟩)
def mTup (a : MA) : ME := fun ρ => (a ρ).bind fun xs ρ1 => if szOk xs.length then .ok (.tup xs, ρ1) else .stuck
def mLst (a : MA) : ME := fun ρ => (a ρ).bind fun xs ρ1 => if szOk xs.length then .ok (.lst xs, ρ1) else .stuck
def mLstO (a : MA) : ME := fun ρ => (a ρ).bind fun xs ρ1 => if szOk xs.length then .ok (.own xs, ρ1) else .stuck
theorem me_tup {es : List Expr} {a : MA} {pos : Pos} {k : Nat} (h : PA X es (rdA c a)) : PE X (.Tuple es k pos) (rdE c (mTup a)) := PEw (pe_tup h) fun σ H Q h => by
  obtain ⟨F, Hk, bp, ρ, S, h⟩ := h
  refine rdAw (bA postE S h) fun vs H1 ⟨Hk1, xs, ρ1, x1, S1, r1, h1⟩ => ?_
  split at h1
  · rename_i hz
    refine ⟨by rw [r1.length]; exact szOk_iff.mp hz, fun p hp => h1 _ _ _ (Ex.new (S1.1.ex.back hp)) (S1.1.new hp) (RV.tup.mpr ⟨p, vs, rfl, SqT.of upd_same, r1.mono (Ex.new (S1.1.ex.back hp))⟩)⟩
  · exact h1.elim
theorem me_lst {es : List Expr} {a : MA} {pos : Pos} (h : PA X es (rdA c a)) : PE X (.List es pos) (rdE c (mLst a)) := PEw (pe_lst h) fun σ H Q h => by
  obtain ⟨F, Hk, bp, ρ, S, h⟩ := h
  refine rdAw (bA postE S h) fun vs H1 ⟨Hk1, xs, ρ1, x1, S1, r1, h1⟩ => ?_
  split at h1
  · rename_i hz
    refine ⟨by rw [r1.length]; exact szOk_iff.mp hz, fun p hp => h1 _ _ _ (Ex.new (S1.1.ex.back hp)) (S1.1.new hp) (RV.lst.mpr ⟨p, vs, rfl, upd_same, r1.mono (Ex.new (S1.1.ex.back hp))⟩)⟩
  · exact h1.elim
theorem mo_lst {es : List Expr} {a : MA} {pos : Pos} (h : PA X es (rdA c a)) : PE X (.List es pos) (rdO c (mLstO a)) := PEw (pe_lst h) fun σ H Q h => by
  obtain ⟨F, Hk, bp, ρ, S, h⟩ := h
  refine rdAw (bA postO S h) fun vs H1 ⟨Hk1, xs, ρ1, x1, S1, r1, h1⟩ => ?_
  split at h1
  · rename_i hz
    exact ⟨by rw [r1.length]; exact szOk_iff.mp hz, fun p hp => h1 _ _ _ (Ex.refl _) (S1.1.pushOwn hp r1)⟩
  · exact h1.elim
/-! ### items -/
theorem me_ix {a b : Expr} {ma mb : ME} {pos : Pos} (ha : PE X a (rdE c ma)) (hb : PE X b (rdE c mb)) (hK : c.K = X.K := by rfl) (hs : PlainIx b := by exact fun _ _ => rfl) : PE X (.Subscript a b pos) (rdE c (mOp fIx ma mb)) :=
  PEw (pe_ix ix_seq ha hb hs) fun _ _ _ q => rd_op (by rw [hK]; exact os_ix) q
def peek (ρ : Env) (i : Nat) : Option MV := match ρ[i]? with
  | some (some (.own xs)) => some (.lst xs)
  | some (some (.obj _ _)) => none
  | some (some x) => some x
  | _ => none
theorem peek_rs {F Hk H : Hp} {bp : List (Nat × Addr)} {σ : St} {ρ : Env} {i : Nat} {x : MV} (S : At c F Hk H bp σ ρ) (e : peek ρ i = some x) : ∃ v, σ[i]? = some (some v) ∧ RV c.K H x v := by
  unfold peek at e
  split at e
  · rename_i xs h
    cases e
    obtain ⟨p, vs, e1, e2, e3, _⟩ := S.1.getOwn h
    exact ⟨_, e1, RV.lst.mpr ⟨p, vs, rfl, e2, e3.mono S.1.ex⟩⟩
  · cases e
  · rename_i y n1 n2 h
    cases e
    have hp : x.per = true := by
      cases x <;> first | rfl | exact (n1 _ h rfl).elim | exact (n2 _ _ h rfl).elim | (exfalso; first | exact n1 _ h | exact n2 _ _ h | exact n1 _ rfl | exact n2 _ _ rfl)
    obtain ⟨v, e1, r⟩ := S.1.get h hp
    exact ⟨v, e1, RV.mono S.1.ex _ _ r⟩
  · cases e
theorem flat_rv {K : PySem.W.Frag} {H H' : Hp} {z : MV} {u : V} (h : flatM z = true) (r : RV K H z u) : RV K H' z u := by
  unfold flatM at h
  split at h <;> first | (cases h; done) | skip
  · rw [RV.non] at r ⊢; exact r
  · rw [RV.bl] at r ⊢; exact r
  · rw [RV.int] at r ⊢; exact r
  · rw [RV.str] at r ⊢; exact r
def has (ρ : Env) (i : Nat) : Bool := match ρ[i]? with | some (some _) => true | _ => false
theorem has_rs {F Hk H : Hp} {bp : List (Nat × Addr)} {σ : St} {ρ : Env} {i : Nat} (S : At c F Hk H bp σ ρ) (e : has ρ i = true) : ∃ v, σ[i]? = some (some v) := by
  unfold has at e
  split at e
  · rename_i x h
    obtain ⟨ow, s⟩ := S.1.ow
    obtain ⟨v, ev, _⟩ := s.s i x h
    exact ⟨v, ev⟩
  · cases e
def ixL (xs : List MV) : MV → Option MV
  | .int k => atI xs k
  | _ => none
def ixV (ρ : Env) (i : Nat) (y : MV) : Option MV := match ρ[i]? with
  | some (some (.own xs)) => ixL xs y
  | some (some x) => if x.per then fIx x y else none
  | _ => none
def mIxV (i : Nat) (b : ME) : ME := fun ρ => if has ρ i then (b ρ).bind fun y ρ1 => match ixV ρ1 i y with | some z => .ok (z, ρ1) | none => .stuck else .stuck
theorem rd_ixV {i : Nat} {b : ME} {σ : St} {H : Hp} {Q : VK} (h : rdE c (mIxV i b) σ H Q) : tOp (rIx c.K) (tVar i) (rdE c b) σ H Q := by
  obtain ⟨F, Hk, bp, ρ, S, h⟩ := h
  unfold mIxV at h
  split at h
  · rename_i hh
    obtain ⟨v, ev⟩ := has_rs S hh
    refine ⟨v, ev, ?_⟩
    refine rdw (bE postE S h) fun w H1 ⟨Hk1, y, ρ1, x1, S1, r1, h1⟩ => ?_
    cases e : ixV ρ1 i y with
    | none => rw [e] at h1; exact h1.elim
    | some z =>
      rw [e] at h1
      unfold ixV at e
      split at e
      · rename_i xs hx
        obtain ⟨p, vs, e1, e2, e3, e4, e5⟩ := S1.1.getOwn hx
        rw [ev] at e1
        cases e1
        unfold ixL at e
        split at e
        · obtain ⟨u, eu, ru⟩ := atI_rv e3 e
          exact .inl ⟨p, vs, _, u, rfl, RV.int.mp r1, SqL.of e2, eu, h1 _ _ u (Ex.refl _) S1.1 ru⟩
        · cases e
      · rename_i x n hx
        split at e
        · rename_i hp
          obtain ⟨w2, e1, r2⟩ := S1.1.get hx hp
          rw [ev] at e1
          cases e1
          exact os_ix _ _ _ _ _ Hk1 H1 Q e S1.1.ex r2 r1 (fun u ru => h1 _ _ u (Ex.refl _) S1.1 ru) fun p ob hp' ru => h1 _ _ _ (Ex.new (S1.1.ex.back hp')) (S1.1.new hp') ru
        · cases e
      · cases e
  · exact h.elim
theorem me_ixV {i : Nat} {x : Str} {b : Expr} {mb : ME} {pos pos' : Pos} (hN : X.N[i]? = some x) (hv : Vis X.env.scope x) (hb : PE X b (rdE c mb)) (hK : c.K = X.K := by rfl) (hs : PlainIx b := by exact fun _ _ => rfl) (hd : (x == ("__debug__" : Str)) = false := by decide) (hcd : (x == ("__classdict__" : Str)) = false := by decide) :
    PE X (.Subscript (.Name x pos') b pos) (rdE c (mIxV i mb)) := PEw (pe_ix ix_seq (pe_var hN hv hd hcd) hb hs) fun _ _ _ q => by rw [← hK]; exact rd_ixV q
/-! ### slices -/
def mNo : Env → Res (Option Int × Env) := fun ρ => .ok (none, ρ)
def mPart (a : ME) : Env → Res (Option Int × Env) := fun ρ => (a ρ).bind fun x ρ1 => match x with | .int i => .ok (some i, ρ1) | _ => .stuck
def okP (c : Ct) (F Hk : Hp) (bp : List (Nat × Addr)) (σ : St) (Q : Option Int → Hp → Prop) : Res (Option Int × Env) → Prop
  | .ok (x, ρ') => ∀ Hk' H', Ex Hk Hk' → RS c.K F Hk' H' bp σ ρ' → Q x H'
  | .exc e ρ' => Wish c F Hk bp σ e ρ'
  | .stuck => False
theorem okP.mono {F Hk Hk' : Hp} {bp : List (Nat × Addr)} {σ : St} {Q : Option Int → Hp → Prop} {r : Res (Option Int × Env)} (x : Ex Hk Hk') (h : okP c F Hk bp σ Q r) : okP c F Hk' bp σ Q r := by
  cases r with
  | ok a => exact fun Hk2 H2 x2 => h Hk2 H2 (x.trans x2)
  | exc e ρ => exact Wish.mono x h
  | stuck => exact h
theorem postP {F : Hp} {bp : List (Nat × Addr)} {σ : St} {Q : Option Int → Hp → Prop} : Post c F bp σ fun Hk r => okP c F Hk bp σ Q r := ⟨fun _ _ _ h => h, fun _ h => h, fun _ _ _ x h => okP.mono x h⟩
def rdP (c : Ct) (m : Env → Res (Option Int × Env)) : TO := fun σ H Q => ∃ F Hk bp ρ, At c F Hk H bp σ ρ ∧ okP c F Hk bp σ Q (m ρ)
theorem POw {e : Option Expr} {t t' : TO} (h : PO X e t) (w : ∀ σ H Q, t' σ H Q → t σ H Q) : PO X e t' := ⟨fun pins s σ H Q I q => h.run pins s σ H Q I (w σ H Q q)⟩
theorem mp_none : PO X none (rdP c mNo) := POw po_none fun σ H Q ⟨F, Hk, bp, ρ, S, h⟩ => h _ _ (Ex.refl _) S.1
theorem mp_some {e : Expr} {m : ME} (h : PE X e (rdE c m)) : PO X (some e) (rdP c (mPart m)) := POw (po_some h) fun σ H Q ⟨F, Hk, bp, ρ, S, h⟩ => rdw (bE postP S h) fun v H1 ⟨Hk1, x, ρ1, x1, S1, r1, h1⟩ => by
  cases x with
  | int i => exact ⟨i, RV.int.mp r1, h1 _ _ (Ex.refl _) S1.1⟩
  | _ => exact h1.elim
theorem bP {F Hk H : Hp} {bp : List (Nat × Addr)} {σ : St} {ρ : Env} {β : Type} {P : Hp → Res (β × Env) → Prop} (p : Post c F bp σ P) {a : Env → Res (Option Int × Env)} {k : Option Int → Env → Res (β × Env)} (S : At c F Hk H bp σ ρ) (h : P Hk ((a ρ).bind k)) :
    rdP c a σ H fun b H1 => ∃ Hk1 ρ1, Ex Hk Hk1 ∧ At c F Hk1 H1 bp σ ρ1 ∧ P Hk1 (k b ρ1) := by
  refine ⟨F, Hk, bp, ρ, S, ?_⟩
  cases e : a ρ with
  | stuck => rw [e] at h; exact p.st _ h
  | exc x ρ' => rw [e] at h; exact p.ex _ _ _ h
  | ok q =>
    rw [e] at h
    exact fun Hk1 H1 x1 S1 => ⟨Hk1, q.2, x1, ⟨S1, S.2⟩, p.mono _ _ _ x1 h⟩
def cutM (xs : List MV) (lo hi : Option Int) : List MV := (xs.drop (HT.sIx xs.length 0 lo)).take (HT.sIx xs.length xs.length hi - HT.sIx xs.length 0 lo)
theorem RVs.cut {K : PySem.W.Frag} {H : Hp} {xs : List MV} {vs : List V} (r : RVs K H xs vs) (lo hi : Option Int) : RVs K H (cutM xs lo hi) (cutV vs lo hi) := by
  unfold cutM cutV
  rw [r.length]
  exact (r.drop _).take _
def fSl : MV → Option Int → Option Int → Option MV
  | .lst xs, lo, hi => some (.lst (cutM xs lo hi))
  | .tup xs, lo, hi => some (.tup (cutM xs lo hi))
  | .str z, lo, hi => if szOk z.length then some (.str (cutS z lo hi)) else none
  | _, _, _ => none
def rSlM (K : PySem.W.Frag) : V → Option Int → Option Int → Hp → VK → Prop := fun x lo hi H Q => rSlL K x lo hi H Q ∨ rSlA K x lo hi H Q ∨ rSlS x lo hi H Q
theorem sl_M : SlR X (rSlM X.K) := SlR.or sl_list (SlR.or sl_tupA sl_str)
theorem whole_cut {xs : List MV} {lo hi : Option Int} (h : HT.sIx xs.length 0 lo = 0 ∧ HT.sIx xs.length xs.length hi = xs.length) : cutM xs lo hi = xs := by
  unfold cutM
  rw [h.1, h.2]
  simp
theorem os_sl {K : PySem.W.Frag} {x z : MV} {lo hi : Option Int} {v : V} {Hk H : Hp} {Q : VK} (e : fSl x lo hi = some z) (ex : Ex Hk H) (r1 : RV K Hk x v) (q : ∀ u, RV K Hk z u → Q u H)
    (qn : ∀ p o, H p = none → RV K (upd Hk p o) z (.ref p) → Q (.ref p) (upd H p o)) : rSlM K v lo hi H Q := by
  unfold fSl at e
  split at e
  · cases e
    obtain ⟨p1, vs, rfl, h1, s1⟩ := RV.lst.mp r1
    refine .inl ⟨p1, vs, rfl, SqL.of (ex _ _ h1), fun p hp => qn p _ hp ?_⟩
    exact RV.lst.mpr ⟨p, _, rfl, upd_same, (s1.cut lo hi).mono (Ex.new (ex.back hp))⟩
  · cases e
    obtain ⟨p1, vs, rfl, h1, s1⟩ := RV.tup.mp r1
    refine .inr (.inl ⟨p1, vs, rfl, ex_t ex h1, fun hw => ?_, fun hw p hp => qn p _ hp ?_⟩)
    · rw [s1.length] at hw
      rw [whole_cut hw] at q
      exact q _ r1
    · exact RV.tup.mpr ⟨p, _, rfl, SqT.of upd_same, (s1.cut lo hi).mono (Ex.new (ex.back hp))⟩
  · split at e
    · rename_i hz
      cases e
      exact .inr (.inr ⟨_, RV.str.mp r1, szOk_iff.mp hz, q _ (RV.str.mpr rfl)⟩)
    · cases e
  · cases e
def mSl (a : ME) (l h : Env → Res (Option Int × Env)) : ME := fun ρ => (a ρ).bind fun x ρ1 => (l ρ1).bind fun i ρ2 => (h ρ2).bind fun j ρ3 => match fSl x i j with | some z => .ok (z, ρ3) | none => .stuck
theorem rd_sl {a : ME} {l h' : Env → Res (Option Int × Env)} {σ : St} {H : Hp} {Q : VK} (h : rdE c (mSl a l h') σ H Q) : tSl (rSlM c.K) (rdE c a) (rdP c l) (rdP c h') σ H Q := by
  obtain ⟨F, Hk, bp, ρ, S, h⟩ := h
  refine rdw (bE postE S h) fun v H1 ⟨Hk1, x, ρ1, x1, S1, r1, h1⟩ => ?_
  have w : ∀ {m : Env → Res (Option Int × Env)} {σ : St} {H : Hp} {Q Q' : Option Int → Hp → Prop}, rdP c m σ H Q → (∀ v H, Q v H → Q' v H) → rdP c m σ H Q' := fun {m σ H Q Q'} ⟨F, Hk, bp, ρ, S, q⟩ w => ⟨F, Hk, bp, ρ, S, by
    cases e : m ρ with
    | ok a => rw [e] at q; exact fun Hk2 H2 x S => w _ _ (q Hk2 H2 x S)
    | exc e' ρ => rw [e] at q; exact q
    | stuck => rw [e] at q; exact q⟩
  refine w (bP postE S1 h1) fun i H2 ⟨Hk2, ρ2, x2, S2, h2⟩ => ?_
  refine w (bP postE S2 h2) fun j H3 ⟨Hk3, ρ3, x3, S3, h3⟩ => ?_
  have h3 : okE c F Hk3 bp σ Q (match fSl x i j with | some z => .ok (z, ρ3) | none => .stuck) := h3
  cases e : fSl x i j with
  | none => rw [e] at h3; exact h3.elim
  | some z =>
    rw [e] at h3
    exact os_sl e S3.1.ex (RV.mono (x2.trans x3) _ _ r1) (fun u ru => h3 _ _ u (Ex.refl _) S3.1 ru) fun p ob hp ru => h3 _ _ _ (Ex.new (S3.1.ex.back hp)) (S3.1.new hp) ru
theorem me_sl {a : Expr} {lo hi : Option Expr} {ma : ME} {ml mh : Env → Res (Option Int × Env)} {pos p2 : Pos} (ha : PE X a (rdE c ma)) (hl : PO X lo (rdP c ml)) (hh : PO X hi (rdP c mh)) (hK : c.K = X.K := by rfl) : PE X (.Subscript a (.Slice lo hi none p2) pos) (rdE c (mSl ma ml mh)) :=
  PEw (pe_slice sl_M ha hl hh) fun _ _ _ q => by rw [← hK]; exact rd_sl q
/-! ### operators by name -/
section
variable {a b : Expr} {ma mb : ME} {pos : Pos}
theorem me_add (ha : PE X a (rdE c ma)) (hb : PE X b (rdE c mb)) (hK : c.K = X.K := by rfl) : PE X (.BinOp a .Add b pos) (rdE c (mOp fAdd ma mb)) := me_op op_addM (by rw [← hK]; exact os_add) ha hb
theorem me_sub (ha : PE X a (rdE c ma)) (hb : PE X b (rdE c mb)) : PE X (.BinOp a .Sub b pos) (rdE c (mOp fSub ma mb)) := me_op op_sub os_sub ha hb
theorem me_mul (ha : PE X a (rdE c ma)) (hb : PE X b (rdE c mb)) : PE X (.BinOp a .Mult b pos) (rdE c (mOp fMul ma mb)) := me_op op_mulM os_mul ha hb
theorem me_div (ha : PE X a (rdE c ma)) (hb : PE X b (rdE c mb)) : PE X (.BinOp a .FloorDiv b pos) (rdE c (mOp fDiv ma mb)) := me_op op_divM os_div ha hb
theorem me_mod (ha : PE X a (rdE c ma)) (hb : PE X b (rdE c mb)) : PE X (.BinOp a .Mod b pos) (rdE c (mOp fMod ma mb)) := me_op op_modN os_mod ha hb
theorem me_pow (ha : PE X a (rdE c ma)) (hb : PE X b (rdE c mb)) : PE X (.BinOp a .Pow b pos) (rdE c (mOp fPow ma mb)) := me_op op_pow os_pow ha hb
theorem me_bitand (ha : PE X a (rdE c ma)) (hb : PE X b (rdE c mb)) : PE X (.BinOp a .BitAnd b pos) (rdE c (mOp fAnd ma mb)) := me_op op_and os_and ha hb
theorem me_bitor (ha : PE X a (rdE c ma)) (hb : PE X b (rdE c mb)) : PE X (.BinOp a .BitOr b pos) (rdE c (mOp fOr ma mb)) := me_op op_or os_or ha hb
end
end
end Tm

set_option Elab.async false
set_option linter.all false
set_option maxRecDepth 100000
set_option maxHeartbeats 2000000
namespace Tm
open PySem L2
open Evl (Ex ex_rd ex_l ex_t)
section
variable {X : Cx} {c : Ct}
/-! ### targets -/
abbrev MG := MV → Env → Option Env
def okG (c : Ct) (F Hk : Hp) (bp : List (Nat × Addr)) (Q : St → Hp → Prop) : Option Env → Prop
  | some ρ' => ∀ Hk' H' σ', Ex Hk Hk' → RS c.K F Hk' H' bp σ' ρ' → Q σ' H'
  | none => False
def rdG (c : Ct) (m : MG) : TG := fun v σ H Q => ∃ F Hk bp ρ x, At c F Hk H bp σ ρ ∧ RV c.K Hk x v ∧ okG c F Hk bp Q (m x ρ)
def rdGs (c : Ct) (m : List MV → Env → Option Env) : TGs := fun vs σ H Q => ∃ F Hk bp ρ xs, At c F Hk H bp σ ρ ∧ RVs c.K Hk xs vs ∧ okG c F Hk bp Q (m xs ρ)
theorem PGw {e : Expr} {t t' : TG} (h : PG X e t) (w : ∀ v σ H Q, t' v σ H Q → t v σ H Q) : PG X e t' := ⟨fun pins s σ H v u Q I r q => h.run pins s σ H v u Q I r (w v σ H Q q)⟩
theorem PGsw {e : List Expr} {t t' : TGs} (h : PGs X e t) (w : ∀ v σ H Q, t' v σ H Q → t v σ H Q) : PGs X e t' := ⟨fun pins s σ H v u Q I r q => h.run pins s σ H v u Q I r (w v σ H Q q)⟩
def gSet (i : Nat) : MG := fun x ρ => if i < ρ.length then some (ρ.set i (some x)) else none
theorem nb {bp : List (Nat × Addr)} {bs : List Nat} {i : Nat} (e : bp.map (·.1) = bs) (h : bs.contains i = false) : ∀ q ∈ bp, q.1 ≠ i := fun q hq z => by
  have m : i ∈ bs := by rw [← e, ← z]; exact List.mem_map.mpr ⟨q, hq, rfl⟩
  rw [List.contains_eq_mem] at h
  simp [m] at h
theorem rd_gname {i : Nat} (hb : c.bs.contains i = false) {v : V} {σ : St} {H : Hp} {Q : St → Hp → Prop} (h : rdG c (gSet i) v σ H Q) : gName i v σ H Q := by
  obtain ⟨F, Hk, bp, ρ, y, S, r, h⟩ := h
  unfold gSet at h
  split at h
  · rename_i hl
    exact h _ _ _ (Ex.refl _) (S.1.set hl r (nb S.2.1 hb))
  · exact h.elim
theorem mg_name {i : Nat} {x : Str} {pos : Pos} (hN : X.N.Nodup) (hi : X.N[i]? = some x) (hx : Loc X.env.scope x) (hb : c.bs.contains i = false := by rfl) (hf : X.fn x = true ∨ X.env.scope.names.lookup x = some .local := by first | exact .inl rfl | exact .inr rfl | assumption) : PG X (.Name x pos) (rdG c (gSet i)) :=
  PGw (pg_name hN hi hx hf) fun v σ H Q h => rd_gname hb h
def gsNil : List MV → Env → Option Env := fun xs ρ => match xs with | [] => some ρ | _ => none
def gsCons (a : MG) (b : List MV → Env → Option Env) : List MV → Env → Option Env := fun xs ρ => match xs with
  | x :: r => (match a x ρ with | some ρ1 => b r ρ1 | none => none)
  | [] => none
def gTp (n : Nat) (b : List MV → Env → Option Env) : MG := fun x ρ => match x with
  | .tup xs => if xs.length = n then b xs ρ else none
  | .lst xs => if xs.length = n then b xs ρ else none
  | _ => none
theorem PGor {e : Expr} {t t' : TG} (h : PG X e t) (g : PG X e t') : PG X e fun v σ H Q => t v σ H Q ∨ t' v σ H Q := ⟨fun pins s σ H v u Q I r q => by
  rcases q with q | q
  · exact h.run pins s σ H v u Q I r q
  · exact g.run pins s σ H v u Q I r q⟩
theorem mgs_nil : PGs X [] (rdGs c gsNil) := PGsw pgs_nil fun vs σ H Q ⟨F, Hk, bp, ρ, xs, S, r, h⟩ => by
  cases xs with
  | nil => exact ⟨RVs.nil.mp r, h _ _ _ (Ex.refl _) S.1⟩
  | cons x xs => exact h.elim
theorem mgs_cons {e : Expr} {es : List Expr} {a : MG} {b : List MV → Env → Option Env} (h1 : PG X e (rdG c a)) (h2 : PGs X es (rdGs c b)) (hs : (assignEach (e :: es) X.env).map (·.2) = assign e X.env :: (assignEach es X.env).map (·.2) := by rfl) : PGs X (e :: es) (rdGs c (gsCons a b)) := PGsw (pgs_cons h1 h2 hs) fun vs σ H Q ⟨F, Hk, bp, ρ, xs, S, r, h⟩ => by
  cases xs with
  | nil => exact h.elim
  | cons x xs =>
    obtain ⟨v, us, rfl, r1, r2⟩ := RVs.cons.mp r
    refine ⟨v, us, rfl, F, Hk, bp, ρ, x, S, r1, ?_⟩
    have h : okG c F Hk bp Q (match a x ρ with | some ρ1 => b xs ρ1 | none => none) := h
    cases e : a x ρ with
    | none => rw [e] at h; exact h
    | some ρ1 =>
      rw [e] at h
      intro Hk1 H1 σ1 x1 S1
      refine ⟨F, Hk1, bp, ρ1, xs, ⟨S1, S.2⟩, r2.mono x1, ?_⟩
      have h : okG c F Hk bp Q (b xs ρ1) := h
      cases e2 : b xs ρ1 with
      | none => rw [e2] at h; exact h
      | some ρ2 => rw [e2] at h; exact fun Hk2 H2 σ2 x2 => h Hk2 H2 σ2 (x1.trans x2)
theorem mg_tup {es : List Expr} {k : Nat} {b : List MV → Env → Option Env} {n : Nat} {pos : Pos} (hc : X.calm = true) (h : PGs X es (rdGs c b)) (hK : c.K = X.K := by rfl)
    (hn : (assignEach es X.env).length = n := by rfl) (hst : (assignEach es X.env).findIdx? (·.1) = none := by rfl) : PG X (.Tuple es k pos) (rdG c (gTp n b)) := PGw (PGor (pg_tup hc h hn hst) (pg_unl hc h hn hst)) fun v σ H Q ⟨F, Hk, bp, ρ, x, S, r, h⟩ => by
  unfold gTp at h
  split at h
  · split at h
    · rename_i xs hl
      obtain ⟨a, vs, rfl, h1, s1⟩ := RV.tup.mp r
      rw [← hK]
      exact .inl ⟨a, vs, rfl, ex_t S.1.ex h1, by rw [s1.length]; exact hl, F, Hk, bp, ρ, xs, S, s1, h⟩
    · exact h.elim
  · split at h
    · rename_i xs hl
      obtain ⟨a, vs, rfl, h1, s1⟩ := RV.lst.mp r
      rw [← hK]
      exact .inr ⟨a, vs, rfl, SqL.of (S.1.ex _ _ h1), by rw [s1.length]; exact hl, F, Hk, bp, ρ, xs, S, s1, h⟩
    · exact h.elim
  · exact h.elim
/-! ### assignments -/
def mAsg (a : ME) (g : MG) : MS := fun ρ => (a ρ).bind fun x ρ1 => match g x ρ1 with | some ρ2 => .ok (.nx, ρ2) | none => .stuck
theorem rd_asg {a : ME} {g : MG} {D : Ends} {σ : St} {H : Hp} (h : rdS c (mAsg a g) D σ H) : tAsg (rdE c a) (rdG c g) D σ H := by
  obtain ⟨F, Hk, bp, ρ, S, h⟩ := h
  refine rdw (bE (postS (σ := σ)) S h) fun v H1 ⟨Hk1, x, ρ1, x1, S1, r1, h1⟩ => ⟨F, Hk1, bp, ρ1, x, S1, r1, ?_⟩
  have h1 : okS c F Hk1 bp D (match g x ρ1 with | some ρ2 => .ok (.nx, ρ2) | none => .stuck) := h1
  cases e : g x ρ1 with
  | none => rw [e] at h1; exact h1
  | some ρ2 => rw [e] at h1; exact h1
theorem ms_asg {tg e : Expr} {a : ME} {g : MG} {pos : Pos} (he : PE X e (rdE c a)) (hg : PG X tg (rdG c g)) (hs : swapsWithSole [tg] e pos.line X.env = pure false := by rfl) (hw : swappedStores [tg] e X.env = pure none := by rfl)
    (h1 : (assignEach [tg] X.env).map (·.2) = [assign tg X.env] := by rfl) : PS X (.Assign [tg] e pos) (rdS c (mAsg a g)) := PSw (ps_asg he hg hs hw h1) fun _ _ _ h => rd_asg h
theorem rd_set {i : Nat} (hb : c.bs.contains i = false) {a : ME} {D : Ends} {σ : St} {H : Hp} (h : rdS c (mAsg a (gSet i)) D σ H) : tAsg (rdE c a) (gName i) D σ H := rdw (rd_asg h) fun _ _ q => rd_gname hb q
theorem ms_set {i : Nat} {x : Str} {e : Expr} {a : ME} {pos pos' : Pos} (hN : X.N.Nodup) (hi : X.N[i]? = some x) (hx : Loc X.env.scope x) (he : PE X e (rdE c a)) (hb : c.bs.contains i = false := by rfl) (hs : swapsWith e (some (.Name x pos')) pos.line X.env = pure false := by rfl)
    (hf : X.fn x = true ∨ X.env.scope.names.lookup x = some .local := by first | exact .inl rfl | exact .inr rfl | assumption) : PS X (.Assign [.Name x pos'] e pos) (rdS c (mAsg a (gSet i))) := PSw (ps_set hN hi hx he hs hf) fun _ _ _ h => rd_set hb h
def mSetO (i : Nat) (a : ME) : MS := fun ρ => (a ρ).bind fun x ρ1 => if i < ρ1.length then .ok (.nx, ρ1.set i (some x)) else .stuck
theorem rd_setO {i : Nat} {a : ME} {D : Ends} {σ : St} {H : Hp} (hb : c.bs.contains i = false) (h : rdS c (mSetO i a) D σ H) : tAsg (rdO c a) (gName i) D σ H := by
  obtain ⟨F, Hk, bp, ρ, S, h⟩ := h
  refine rdOw (bO (postS (σ := σ)) S h) fun v H1 ⟨Hk1, x, ρ1, x1, S1, h1⟩ => ?_
  split at h1
  · rename_i hl
    refine h1 _ _ _ (Ex.refl _) (S1.take hl fun q hq => ⟨nb S.2.1 hb q hq, ?_⟩)
    have l1 : σ.length = ρ1.length := by have := S1.len; simpa using this
    rw [← l1]
    exact lt_get (S.1.bor q hq)
  · exact h1.elim
theorem ms_setO {i : Nat} {x : Str} {e : Expr} {a : ME} {pos pos' : Pos} (hN : X.N.Nodup) (hi : X.N[i]? = some x) (hx : Loc X.env.scope x) (he : PE X e (rdO c a)) (hb : c.bs.contains i = false := by rfl) (hs : swapsWith e (some (.Name x pos')) pos.line X.env = pure false := by rfl)
    (hf : X.fn x = true ∨ X.env.scope.names.lookup x = some .local := by first | exact .inl rfl | exact .inr rfl | assumption) : PS X (.Assign [.Name x pos'] e pos) (rdS c (mSetO i a)) := PSw (ps_set hN hi hx he hs hf) fun _ _ _ h => rd_setO hb h
/-! ### blocks -/
def mPass : MS := fun ρ => .ok (.nx, ρ)
def mSeq (a b : MS) : MS := fun ρ => (a ρ).bind fun f ρ1 => match f with | .nx => b ρ1 | f => .ok (f, ρ1)
theorem okS.seq {F Hk : Hp} {bp : List (Nat × Addr)} {D : Ends} {b : MS} (eb : bp.map (·.1) = c.bs ∧ c.J F bp) {r : Res (Fl × Env)} (h : okS c F Hk bp D (r.bind fun f ρ1 => match f with | .nx => b ρ1 | f => .ok (f, ρ1))) : okS c F Hk bp { D with nx := rdS c b D } r := by
  cases r with
  | stuck => exact h
  | exc e ρ => exact h
  | ok q =>
    obtain ⟨f, ρ1⟩ := q
    cases f with
    | nx => exact fun Hk1 H1 σ1 x1 S1 => ⟨F, Hk1, bp, ρ1, ⟨S1, eb⟩, okS.mono x1 h⟩
    | br => exact h
    | ct => exact h
    | rt x => exact h
theorem rd_seq {a b : MS} {D : Ends} {σ : St} {H : Hp} (h : rdS c (mSeq a b) D σ H) : tSeq (rdS c a) (rdS c b) D σ H := by
  obtain ⟨F, Hk, bp, ρ, S, h⟩ := h
  exact ⟨F, Hk, bp, ρ, S, okS.seq S.2 h⟩
theorem mss_nil : PSs X [] (rdS c mPass) := PSsw pss_nil fun D σ H ⟨F, Hk, bp, ρ, S, h⟩ => h _ _ _ (Ex.refl _) S.1
theorem mss_one {st : Stmt} {a : MS} (h : PS X st (rdS c a)) : PSs X [st] (rdS c a) := pss_one h
theorem mss_cons {st : Stmt} {r : List Stmt} {a b : MS} (h : PS X st (rdS c a)) (g : PSs X r (rdS c b)) : PSs X (st :: r) (rdS c (mSeq a b)) := PSsw (pss_cons h g) fun _ _ _ q => rd_seq q
theorem ms_pass {pos : Pos} : PS X (.Pass pos) (rdS c mPass) := PSw ps_pass fun D σ H ⟨F, Hk, bp, ρ, S, h⟩ => h _ _ _ (Ex.refl _) S.1
def mIfS (t : MT) (a b : MS) : MS := fun ρ => (t ρ).bind fun x ρ1 => if x then a ρ1 else b ρ1
theorem ms_if {t : Expr} {a b : List Stmt} {mt : MT} {ma mb : MS} {pos : Pos} (ht : PT X t (rdT c mt)) (ha : PSs X a (rdS c ma)) (hb : PSs X b (rdS c mb)) : PS X (.If t a b pos) (rdS c (mIfS mt ma mb)) := PSw (ps_if ht ha hb) fun D σ H ⟨F, Hk, bp, ρ, S, h⟩ => by
  refine rdTw (bT (postS (σ := σ)) S h) fun k H1 ⟨Hk1, ρ1, x1, S1, h1⟩ => ?_
  cases k with
  | true => rw [if_pos rfl] at h1 ⊢; exact ⟨F, Hk1, bp, ρ1, S1, h1⟩
  | false => rw [if_neg (by decide)] at h1 ⊢; exact ⟨F, Hk1, bp, ρ1, S1, h1⟩
def mRet (a : ME) : MS := fun ρ => (a ρ).bind fun x ρ1 => .ok (.rt x, ρ1)
theorem ms_ret {e : Expr} {a : ME} {pos : Pos} (h : PE X e (rdE c a)) : PS X (.Return (some e) pos) (rdS c (mRet a)) := PSw (ps_ret h) fun D σ H ⟨F, Hk, bp, ρ, S, h⟩ =>
  rdw (bE (postS (σ := σ)) S h) fun v H1 ⟨Hk1, x, ρ1, x1, S1, r1, h1⟩ => h1 _ _ _ _ (Ex.refl _) (fun q hq => lt_get (S.1.bor q hq)) (S1.1.push r1)
theorem ms_retO {e : Expr} {a : ME} {pos : Pos} (h : PE X e (rdO c a)) : PS X (.Return (some e) pos) (rdS c (mRet a)) := PSw (ps_ret h) fun D σ H ⟨F, Hk, bp, ρ, S, h⟩ =>
  rdOw (bO (postS (σ := σ)) S h) fun v H1 ⟨Hk1, x, ρ1, x1, S1, h1⟩ => h1 _ _ _ _ (Ex.refl _) (fun q hq => lt_get (S.1.bor q hq)) S1
def mRetN : MS := fun ρ => .ok (.rt .non, ρ)
theorem ms_retN {pos : Pos} : PS X (.Return none pos) (rdS c mRetN) := PSw ps_retN fun D σ H ⟨F, Hk, bp, ρ, S, h⟩ => h _ _ _ _ (Ex.refl _) (fun q hq => lt_get (S.1.bor q hq)) (S.1.push (RV.non.mpr rfl))
def mDrop (a : ME) : MS := fun ρ => (a ρ).bind fun _ ρ1 => .ok (.nx, ρ1)
theorem ms_expr {e : Expr} {a : ME} {pos : Pos} (h : PE X e (rdE c a)) (hs : swapsWith e none pos.line X.env = pure false := by rfl) : PS X (.Expr e pos) (rdS c (mDrop a)) := PSw (ps_expr h hs) fun D σ H ⟨F, Hk, bp, ρ, S, h⟩ =>
  rdw (bE (postS (σ := σ)) S h) fun v H1 ⟨Hk1, x, ρ1, x1, S1, r1, h1⟩ => h1 _ _ _ (Ex.refl _) S1.1
def mBrk : MS := fun ρ => .ok (.br, ρ)
def mCnt : MS := fun ρ => .ok (.ct, ρ)
theorem ms_brk {pos : Pos} : PS X (.Break pos) (rdS c mBrk) := PSw ps_break fun D σ H ⟨F, Hk, bp, ρ, S, h⟩ => h _ _ _ (Ex.refl _) S.1
theorem ms_cnt {pos : Pos} : PS X (.Continue pos) (rdS c mCnt) := PSw ps_continue fun D σ H ⟨F, Hk, bp, ρ, S, h⟩ => h _ _ _ (Ex.refl _) S.1
def mMove (i : Nat) : ME := fun ρ => match ρ[i]? with
  | some (some (.obj _ _)) => .stuck
  | some (some x) => .ok (x, ρ.set i none)
  | _ => .stuck
def mAug (f : MV → MV → Option MV) (i : Nat) (a : ME) : MS := fun ρ => match ρ[i]? with
  | some (some x) => if flatM x then (a ρ).bind fun y ρ1 => (match f x y with | some z => if decide (i < ρ1.length) && flatM z then .ok (.nx, ρ1.set i (some z)) else .stuck | none => .stuck) else .stuck
  | _ => .stuck
theorem rd_move {i : Nat} (hb : c.bs.contains i = false) {σ : St} {H : Hp} {Q : VK} (h : rdO c (mMove i) σ H Q) : tVar i σ H Q := by
  obtain ⟨F, Hk, bp, ρ, S, h⟩ := h
  unfold mMove at h
  split at h
  · exact h.elim
  · rename_i x n hx
    obtain ⟨ow, s⟩ := S.1.ow
    obtain ⟨v, ev, ov⟩ := s.s i x hx
    have li := lt_get hx
    refine ⟨v, ev, h Hk H v (Ex.refl _) ?_⟩
    refine ⟨by simp [S.1.len], S.1.ex, S.1.fr, S.1.frk, ⟨put (put ow i []) ρ.length (ow i), ?_⟩, S.1.bor_app _⟩
    have nl : i ≠ ρ.length := Nat.ne_of_lt li
    have mem : ∀ j a, a ∈ put (put ow i []) ρ.length (ow i) j → (j = ρ.length ∧ a ∈ ow i) ∨ (j ≠ i ∧ j < ρ.length ∧ a ∈ ow j) := fun j a h => by
      by_cases e : j = ρ.length
      · rw [e, put_same] at h; exact .inl ⟨e, h⟩
      · rw [put_ne e] at h
        by_cases e2 : j = i
        · rw [e2, put_same] at h; cases h
        · rw [put_ne e2] at h
          exact .inr ⟨e2, s.w j (by intro z; rw [z] at h; cases h), h⟩
    refine ⟨fun j y hj => ?_, fun j a hj => ?_, fun j hj => ?_, fun j k a hjk hj hk => ?_⟩
    · rcases app_get hj with ⟨e1, e2⟩ | ⟨lt, e2⟩
      · cases e2
        rw [List.length_set] at e1
        refine ⟨v, by rw [e1, ← S.1.len]; simp, ?_⟩
        rw [e1, put_same]; exact ov
      · rcases set_get e2 with ⟨_, e3⟩ | ⟨ne, e3⟩
        · cases e3
        · obtain ⟨w, w1, w2⟩ := s.s j y e3
          have lj := lt_get e3
          exact ⟨w, by rw [List.getElem?_append_left (by rw [S.1.len]; exact lj)]; exact w1, by rw [put_ne (Nat.ne_of_lt lj), put_ne ne]; exact w2⟩
    · rcases mem j a hj with ⟨_, m⟩ | ⟨_, _, m⟩
      · exact s.f i a m
      · exact s.f j a m
    · cases e : put (put ow i []) ρ.length (ow i) j with
      | nil => exact (hj e).elim
      | cons a r =>
        rcases mem j a (by rw [e]; simp) with ⟨e, _⟩ | ⟨_, l, _⟩
        · rw [e]; simp
        · simp; omega
    · rcases mem j a hj with ⟨e1, m⟩ | ⟨e1, l1, m⟩ <;> rcases mem k a hk with ⟨e2, m2⟩ | ⟨e2, l2, m2⟩
      · exact hjk (e1.trans e2.symm)
      · exact s.d i k a (Ne.symm e2) m m2
      · exact s.d j i a e1 m m2
      · exact s.d j k a hjk m m2
  · exact h.elim
theorem mo_var {i : Nat} {x : Str} {pos : Pos} (hN : X.N[i]? = some x) (hv : Vis X.env.scope x) (hb : c.bs.contains i = false := by rfl) (hd : (x == ("__debug__" : Str)) = false := by decide) (hcd : (x == ("__classdict__" : Str)) = false := by decide) : PE X (.Name x pos) (rdO c (mMove i)) :=
  PEw (pe_var hN hv hd hcd) fun _ _ _ h => rd_move hb h
theorem mo_of {e : Expr} {a : ME} (h : PE X e (rdE c a)) : PE X e (rdO c a) := PEw h fun σ H Q ⟨F, Hk, bp, ρ, S, q⟩ => ⟨F, Hk, bp, ρ, S, by
  cases e : a ρ with
  | stuck => rw [e] at q; exact q
  | exc x ρ' => rw [e] at q; exact q
  | ok p => rw [e] at q; exact fun Hk1 H1 v x1 S1 r1 => q Hk1 H1 v x1 (S1.push r1)⟩
def ipM (f : MV → MV → Option MV) (t : TIp) (K : PySem.W.Frag) : Prop := ∀ (x y z : MV) (v w : V) (Hk H : Hp) (Q : VK), f x y = some z → flatM x = true → RV K Hk x v → RV K Hk y w → (∀ u, RV K Hk z u → Q u H) → t v w H Q
theorem im_add {K : PySem.W.Frag} : ipM (fun x y => match x, y with | .int i, .int j => some (.int (i + j)) | _, _ => none) (ipI fun i j => i + j) K := by
  intro x y z v w Hk H Q e _ r1 r2 q
  dsimp only at e
  split at e
  · cases e; exact ⟨_, _, RV.int.mp r1, RV.int.mp r2, q _ (RV.int.mpr rfl)⟩
  · cases e
theorem im_sub {K : PySem.W.Frag} : ipM (fun x y => match x, y with | .int i, .int j => some (.int (i - j)) | _, _ => none) (ipI fun i j => i - j) K := by
  intro x y z v w Hk H Q e _ r1 r2 q
  dsimp only at e
  split at e
  · cases e; exact ⟨_, _, RV.int.mp r1, RV.int.mp r2, q _ (RV.int.mpr rfl)⟩
  · cases e
def fAddI : MV → MV → Option MV := fun x y => match x, y with | .int i, .int j => some (.int (i + j)) | _, _ => none
def fSubI : MV → MV → Option MV := fun x y => match x, y with | .int i, .int j => some (.int (i - j)) | _, _ => none
theorem rd_aug {f : MV → MV → Option MV} {t : TIp} (o : ipM f t c.K) {i : Nat} (hb : c.bs.contains i = false) {a : ME} {D : Ends} {σ : St} {H : Hp} (h : rdS c (mAug f i a) D σ H) : tAug i (rdE c a) t D σ H := by
  obtain ⟨F, Hk, bp, ρ, S, h⟩ := h
  unfold mAug at h
  split at h
  · rename_i x hx
    split at h
    · rename_i hf
      have px : x.per = true := by cases x <;> first | rfl | cases hf
      obtain ⟨v, ev, rv⟩ := S.1.get hx px
      refine ⟨v, ev, ?_⟩
      refine rdw (bE (postS (σ := σ)) S h) fun w H1 ⟨Hk1, y, ρ1, x1, S1, r1, h1⟩ => ?_
      split at h1
      · rename_i z ez
        split at h1
        · rename_i hl
          rw [Bool.and_eq_true] at hl
          refine o x y z v w Hk1 H1 _ ez hf (flat_rv hf rv) r1 fun u ru => ?_
          exact h1 _ _ _ (Ex.refl _) (S1.1.set (of_decide_eq_true hl.1) ru (nb S.2.1 hb))
        · exact h1.elim
      · exact h1.elim
    · exact h.elim
  · exact h.elim
theorem ms_augAdd {i : Nat} {x : Str} {e : Expr} {a : ME} {pos pos' : Pos} (hN : X.N.Nodup) (hi : X.N[i]? = some x) (hx : Loc X.env.scope x) (he : PE X e (rdE c a)) (hb : c.bs.contains i = false := by rfl)
    (hf : X.fn x = true ∨ X.env.scope.names.lookup x = some .local := by first | exact .inl rfl | exact .inr rfl | assumption) : PS X (.AugAssign (.Name x pos') .Add e pos) (rdS c (mAug fAddI i a)) := PSw (ps_aug hN hi hx he ip_add hf) fun _ _ _ h => rd_aug im_add hb h
theorem ms_augSub {i : Nat} {x : Str} {e : Expr} {a : ME} {pos pos' : Pos} (hN : X.N.Nodup) (hi : X.N[i]? = some x) (hx : Loc X.env.scope x) (he : PE X e (rdE c a)) (hb : c.bs.contains i = false := by rfl)
    (hf : X.fn x = true ∨ X.env.scope.names.lookup x = some .local := by first | exact .inl rfl | exact .inr rfl | assumption) : PS X (.AugAssign (.Name x pos') .Sub e pos) (rdS c (mAug fSubI i a)) := PSw (ps_aug hN hi hx he ip_sub hf) fun _ _ _ h => rd_aug im_sub hb h
end
end Tm

set_option Elab.async false
set_option linter.all false
set_option maxRecDepth 100000
set_option maxHeartbeats 2000000
namespace Tm
open PySem L2
open Evl (Ex ex_rd ex_l ex_t)
/-! ### what is walked -/
structure Walks (K : PySem.W.Frag) (Hk : Hp) (J : It) (items : List MV) : Prop where
  go : ∀ i H, Ex Hk H → i < items.length → J.go i H
  stop : ∀ H, Ex Hk H → J.stop items.length H
  yld : ∀ i H x H', Ex Hk H → i < items.length → J.yld i H x H' → ∃ y, items[i]? = some y ∧ ((H' = H ∧ RV K Hk y x) ∨ ∃ p vs ys, H p = none ∧ H' = upd H p (.tup vs) ∧ x = .ref p ∧ y = .tup ys ∧ RVs K Hk ys vs)
abbrev MI := Env → Res (List MV × Env)
def okI (c : Ct) (F Hk : Hp) (bp : List (Nat × Addr)) (σ : St) (R : It → Hp → Prop) : Res (List MV × Env) → Prop
  | .ok (xs, ρ') => ∀ Hk' H' J, Ex Hk Hk' → RS c.K F Hk' H' bp σ ρ' → Walks c.K Hk' J xs → R J H'
  | .exc e ρ' => Wish c F Hk bp σ e ρ'
  | .stuck => False
theorem okI.mono {c : Ct} {F Hk Hk' : Hp} {bp : List (Nat × Addr)} {σ : St} {Q : It → Hp → Prop} {r : Res (List MV × Env)} (x : Ex Hk Hk') (h : okI c F Hk bp σ Q r) : okI c F Hk' bp σ Q r := by
  cases r with
  | ok a => exact fun Hk2 H2 v x2 => h Hk2 H2 v (x.trans x2)
  | exc e ρ => exact Wish.mono x h
  | stuck => exact h
theorem postI {c : Ct} {F : Hp} {bp : List (Nat × Addr)} {σ : St} {R : It → Hp → Prop} : Post c F bp σ fun Hk r => okI c F Hk bp σ R r := ⟨fun _ _ _ h => h, fun _ h => h, fun _ _ _ x h => okI.mono x h⟩
def rdI (c : Ct) (m : MI) : TI := fun σ H R => ∃ F Hk bp ρ, At c F Hk H bp σ ρ ∧ okI c F Hk bp σ R (m ρ)
theorem PIw {X : Cx} {tg e : Expr} {t t' : TI} (h : PI X tg e t) (w : ∀ σ H R, t' σ H R → t σ H R) : PI X tg e t' := ⟨fun pins s σ H R I q => h.run pins s σ H R I (w σ H R q)⟩
theorem walks_l {K : PySem.W.Frag} {Hk : Hp} {a : Addr} {xs : List MV} {vs : List V} (h : SqL K Hk a vs) (r : RVs K Hk xs vs) : Walks K Hk (Itl K a) xs := by
  refine ⟨fun i H e hi => ?_, fun H e => ⟨vs, ex_l e h, by rw [r.length]; exact Nat.le_refl _⟩, fun i H x H' e hi y => ?_⟩
  · obtain ⟨v, hv, _⟩ := r.get (i := i) (x := xs[i]) (by simp [hi])
    exact ⟨vs, v, ex_l e h, hv⟩
  · obtain ⟨v, hv, rv⟩ := r.get (i := i) (x := xs[i]) (by simp [hi])
    obtain ⟨e1, y⟩ := y
    have := y vs (ex_l e h)
    rw [hv] at this
    cases this
    exact ⟨xs[i], by simp [hi], .inl ⟨e1, rv⟩⟩
theorem walks_t {K : PySem.W.Frag} {Hk : Hp} {a : Addr} {xs : List MV} {vs : List V} (h : SqT K Hk a vs) (r : RVs K Hk xs vs) : Walks K Hk (Itt K a) xs := by
  refine ⟨fun i H e hi => ?_, fun H e => ⟨vs, ex_t e h, by rw [r.length]; exact Nat.le_refl _⟩, fun i H x H' e hi y => ?_⟩
  · obtain ⟨v, hv, _⟩ := r.get (i := i) (x := xs[i]) (by simp [hi])
    exact ⟨vs, v, ex_t e h, hv⟩
  · obtain ⟨v, hv, rv⟩ := r.get (i := i) (x := xs[i]) (by simp [hi])
    obtain ⟨e1, y⟩ := y
    have := y vs (ex_t e h)
    rw [hv] at this
    cases this
    exact ⟨xs[i], by simp [hi], .inl ⟨e1, rv⟩⟩
def rngM (lo c : Int) (n : Nat) : List MV := (List.range n).map fun i => .int (lo + (i : Nat) * c)
theorem rngM_get {lo c : Int} {n i : Nat} (h : i < n) : (rngM lo c n)[i]? = some (.int (lo + (i : Nat) * c)) := by
  unfold rngM
  rw [List.getElem?_map, List.getElem?_range h]; rfl
theorem rngM_len {lo c : Int} {n : Nat} : (rngM lo c n).length = n := by simp [rngM]
theorem walks_r {K : PySem.W.Frag} {Hk : Hp} {lo : Int} {n : Nat} : Walks K Hk (Itr lo n) (rngM lo 1 n) := by
  refine ⟨fun i H e hi => by rw [rngM_len] at hi; exact hi, fun H e => by rw [rngM_len]; exact Nat.le_refl n, fun i H x H' e hi y => ?_⟩
  rw [rngM_len] at hi
  obtain ⟨e1, e2⟩ := y
  exact ⟨_, rngM_get hi, .inl ⟨e1, by rw [e2, Int.mul_one]; exact RV.int.mpr rfl⟩⟩
theorem walks_rc {K : PySem.W.Frag} {Hk : Hp} {lo c : Int} {n : Nat} : Walks K Hk (Itc lo c n) (rngM lo c n) := by
  refine ⟨fun i H e hi => by rw [rngM_len] at hi; exact hi, fun H e => by rw [rngM_len]; exact Nat.le_refl n, fun i H x H' e hi y => ?_⟩
  rw [rngM_len] at hi
  obtain ⟨e1, e2⟩ := y
  exact ⟨_, rngM_get hi, .inl ⟨e1, by rw [e2]; exact RV.int.mpr rfl⟩⟩
def signsM (z : Str) : List MV := z.cps.toList.map fun c => .str ⟨#[c]⟩
theorem walks_s {K : PySem.W.Frag} {Hk : Hp} {z : Str} : Walks K Hk (Its z) (signsM z) := by
  have l : (signsM z).length = z.cps.size := by simp [signsM]
  refine ⟨fun i H e hi => by rw [l] at hi; exact hi, fun H e => by rw [l]; exact Nat.le_refl _, fun i H x H' e hi y => ?_⟩
  obtain ⟨e1, ch, e2, e3⟩ := y
  refine ⟨.str ⟨#[ch]⟩, ?_, .inl ⟨e1, by rw [e3]; exact RV.str.mpr rfl⟩⟩
  unfold signsM
  rw [List.getElem?_map, Array.getElem?_toList, e2]; rfl
def zipM (xs ys : List MV) : List MV := List.zipWith (fun x y => .tup [x, y]) xs ys
theorem zipM_get {xs ys : List MV} {i : Nat} {x y : MV} (h1 : xs[i]? = some x) (h2 : ys[i]? = some y) : (zipM xs ys)[i]? = some (.tup [x, y]) := by
  unfold zipM
  rw [List.getElem?_zipWith, h1, h2]
theorem zipM_len {xs ys : List MV} : (zipM xs ys).length = min xs.length ys.length := by simp [zipM]
theorem rvs2 {K : PySem.W.Frag} {H : Hp} {x y : MV} {v w : V} (h : RV K H x v) (g : RV K H y w) : RVs K H [x, y] [v, w] := RVs.cons.mpr ⟨v, _, rfl, h, RVs.cons.mpr ⟨w, _, rfl, g, RVs.nil.mpr rfl⟩⟩
theorem walks_zl {K : PySem.W.Frag} {Hk : Hp} {a b : Addr} {xs ys : List MV} {vs ws : List V} (h : SqL K Hk a vs) (r : RVs K Hk xs vs) (h2 : SqL K Hk b ws) (r2 : RVs K Hk ys ws) : Walks K Hk (Itz K a b) (zipM xs ys) := by
  refine ⟨fun i H e hi => ?_, fun H e => ⟨vs, ws, ex_l e h, ex_l e h2, by rw [zipM_len, r.length, r2.length]; omega⟩, fun i H x H' e hi y => ?_⟩
  · rw [zipM_len] at hi
    have l1 : i < xs.length := by omega
    have l2 : i < ys.length := by omega
    obtain ⟨v, hv, _⟩ := r.get (i := i) (x := xs[i]) (by simp [l1])
    obtain ⟨w, hw, _⟩ := r2.get (i := i) (x := ys[i]) (by simp [l2])
    exact ⟨vs, ws, v, w, ex_l e h, ex_l e h2, hv, hw⟩
  · rw [zipM_len] at hi
    have l1 : i < xs.length := by omega
    have l2 : i < ys.length := by omega
    obtain ⟨v, hv, rv⟩ := r.get (i := i) (x := xs[i]) (by simp [l1])
    obtain ⟨w, hw, rw'⟩ := r2.get (i := i) (x := ys[i]) (by simp [l2])
    obtain ⟨T, x1, y1, e1, e2, e3, e4, e5⟩ := y
    have q1 := e4 vs (ex_l e h)
    have q2 := e5 ws (ex_l e h2)
    rw [hv] at q1
    rw [hw] at q2
    cases q1
    cases q2
    exact ⟨_, zipM_get (x := xs[i]) (y := ys[i]) (by simp [l1]) (by simp [l2]), .inr ⟨T, _, _, e2, e3, e1, rfl, rvs2 rv rw'⟩⟩
theorem walks_zt {K : PySem.W.Frag} {Hk : Hp} {a b : Addr} {xs ys : List MV} {vs ws : List V} (h : SqT K Hk a vs) (r : RVs K Hk xs vs) (h2 : SqT K Hk b ws) (r2 : RVs K Hk ys ws) : Walks K Hk (RZ.ItzT K a b) (zipM xs ys) := by
  refine ⟨fun i H e hi => ?_, fun H e => ⟨vs, ws, ex_t e h, ex_t e h2, by rw [zipM_len, r.length, r2.length]; omega⟩, fun i H x H' e hi y => ?_⟩
  · rw [zipM_len] at hi
    have l1 : i < xs.length := by omega
    have l2 : i < ys.length := by omega
    obtain ⟨v, hv, _⟩ := r.get (i := i) (x := xs[i]) (by simp [l1])
    obtain ⟨w, hw, _⟩ := r2.get (i := i) (x := ys[i]) (by simp [l2])
    exact ⟨vs, ws, v, w, ex_t e h, ex_t e h2, hv, hw⟩
  · rw [zipM_len] at hi
    have l1 : i < xs.length := by omega
    have l2 : i < ys.length := by omega
    obtain ⟨v, hv, rv⟩ := r.get (i := i) (x := xs[i]) (by simp [l1])
    obtain ⟨w, hw, rw'⟩ := r2.get (i := i) (x := ys[i]) (by simp [l2])
    obtain ⟨T, x1, y1, e1, e2, e3, e4, e5⟩ := y
    have q1 := e4 vs (ex_t e h)
    have q2 := e5 ws (ex_t e h2)
    rw [hv] at q1
    rw [hw] at q2
    cases q1
    cases q2
    exact ⟨_, zipM_get (x := xs[i]) (y := ys[i]) (by simp [l1]) (by simp [l2]), .inr ⟨T, _, _, e2, e3, e1, rfl, rvs2 rv rw'⟩⟩
def enumFrom (k : Nat) : List MV → List MV
  | [] => []
  | x :: xs => .tup [.int (k : Nat), x] :: enumFrom (k + 1) xs
theorem enum_get : ∀ {xs : List MV} {k i : Nat} {x : MV}, xs[i]? = some x → (enumFrom k xs)[i]? = some (.tup [.int ((k + i : Nat) : Int), x])
  | [], _, _, _, h => by simp at h
  | y :: xs, k, 0, x, h => by simp at h; subst h; rfl
  | y :: xs, k, i + 1, x, h => by
    have := enum_get (xs := xs) (k := k + 1) (i := i) (x := x) (by simpa using h)
    rw [show k + (i + 1) = k + 1 + i by omega]
    exact this
theorem enum_len : ∀ {xs : List MV} {k : Nat}, (enumFrom k xs).length = xs.length
  | [], _ => rfl
  | x :: xs, k => by simp [enumFrom, enum_len]
theorem walks_e {K : PySem.W.Frag} {Hk : Hp} {a : Addr} {xs : List MV} {vs : List V} (h : SqL K Hk a vs) (r : RVs K Hk xs vs) : Walks K Hk (Ite K a) (enumFrom 0 xs) := by
  refine ⟨fun i H e hi => ?_, fun H e => ⟨vs, ex_l e h, by rw [enum_len, r.length]; exact Nat.le_refl _⟩, fun i H x H' e hi y => ?_⟩
  · rw [enum_len] at hi
    obtain ⟨v, hv, _⟩ := r.get (i := i) (x := xs[i]) (by simp [hi])
    exact ⟨vs, v, ex_l e h, hv⟩
  · rw [enum_len] at hi
    obtain ⟨v, hv, rv⟩ := r.get (i := i) (x := xs[i]) (by simp [hi])
    obtain ⟨T, x1, e1, e2, e3, e4⟩ := y
    have q1 := e4 vs (ex_l e h)
    rw [hv] at q1
    cases q1
    refine ⟨_, enum_get (x := xs[i]) (by simp [hi]), .inr ⟨T, _, _, e2, e3, e1, rfl, ?_⟩⟩
    rw [Nat.zero_add]
    exact rvs2 (RV.int.mpr rfl) rv
theorem walks_v {K : PySem.W.Frag} {Hk : Hp} {a : Addr} {xs : List MV} {vs : List V} (h : SqL K Hk a vs) (r : RVs K Hk xs vs) : Walks K Hk (Itv K a vs.length) xs.reverse := by
  refine ⟨fun i H e hi => ?_, fun H e => by rw [List.length_reverse, ← r.length]; exact Nat.le_refl vs.length, fun i H x H' e hi y => ?_⟩
  · rw [List.length_reverse] at hi
    obtain ⟨v, hv, _⟩ := r.get (i := vs.length - 1 - i) (x := xs[vs.length - 1 - i]'(by rw [r.length]; omega)) (by simp)
    exact ⟨by rw [r.length]; exact hi, vs, v, ex_l e h, hv⟩
  · rw [List.length_reverse] at hi
    have lk : xs.length - 1 - i < xs.length := by omega
    have ek : vs.length - 1 - i = xs.length - 1 - i := by rw [r.length]
    obtain ⟨v, hv, rv⟩ := r.get (i := xs.length - 1 - i) (x := xs[xs.length - 1 - i]) (by simp [lk])
    obtain ⟨e1, y⟩ := y
    have := y vs (ex_l e h)
    rw [ek, hv] at this
    cases this
    exact ⟨xs[xs.length - 1 - i], by rw [List.getElem?_reverse hi]; simp [lk], .inl ⟨e1, rv⟩⟩
section
variable {X : Cx} {c : Ct} {tg : Expr}
def itemsOf : MV → Option (List MV)
  | .lst xs => some xs
  | .tup xs => some xs
  | .scr ns => some (ns.map .int)
  | .str z => some (signsM z)
  | _ => none
def mItV (a : ME) : MI := fun ρ => (a ρ).bind fun x ρ1 => match itemsOf x with | some xs => .ok (xs, ρ1) | none => .stuck
theorem mi_val {e : Expr} {a : ME} (h : PE X e (rdE c a)) (hK : c.K = X.K := by rfl) : PI X tg e (rdI c (mItV a)) := by
  refine ⟨fun pins s σ H R I q => ?_⟩
  obtain ⟨F, Hk, bp, ρ, S, q⟩ := q
  cases ea : a ρ with
  | stuck => unfold mItV at q; rw [ea] at q; exact q.elim
  | exc x ρ1 =>
    have z : rdE c a σ H fun _ _ => False := ⟨F, Hk, bp, ρ, S, by
      unfold mItV at q; rw [ea] at q ⊢; exact q⟩
    exact (pi_str h).run pins s σ H R I (rdw z fun _ _ f => f.elim)
  | ok p =>
    obtain ⟨x, ρ1⟩ := p
    have q' : okI c F Hk bp σ R (match itemsOf x with | some xs => .ok (xs, ρ1) | none => .stuck) := by unfold mItV at q; rw [ea] at q; exact q
    have ok : ∀ Q : VK, (∀ Hk' H' v, Ex Hk Hk' → RS c.K F Hk' H' bp σ ρ1 → RV c.K Hk' x v → Q v H') → rdE c a σ H Q := fun Q k => ⟨F, Hk, bp, ρ, S, by rw [ea]; exact k⟩
    cases x with
    | lst xs =>
      refine (pi_list h).run pins s σ H R I (ok _ fun Hk1 H1 v x1 S1 r1 => ?_)
      obtain ⟨p, vs, rfl, h1, s1⟩ := RV.lst.mp r1
      refine ⟨p, rfl, ⟨vs, SqL.of (S1.ex _ _ h1)⟩, ?_⟩
      rw [← hK]
      exact q' Hk1 H1 _ x1 S1 (walks_l (SqL.of h1) s1)
    | tup xs =>
      refine (pi_tup h).run pins s σ H R I (ok _ fun Hk1 H1 v x1 S1 r1 => ?_)
      obtain ⟨p, vs, rfl, h1, s1⟩ := RV.tup.mp r1
      refine ⟨p, rfl, ⟨vs, by rw [← hK]; exact ex_t S1.ex h1⟩, ?_⟩
      rw [← hK]
      exact q' Hk1 H1 _ x1 S1 (walks_t h1 s1)
    | scr ns =>
      refine (pi_list h).run pins s σ H R I (ok _ fun Hk1 H1 v x1 S1 r1 => ?_)
      obtain ⟨p, rfl, h1⟩ := RV.scr.mp r1
      refine ⟨p, rfl, ⟨_, by rw [← hK]; exact ex_l S1.ex h1⟩, ?_⟩
      rw [← hK]
      exact q' Hk1 H1 _ x1 S1 (walks_l h1 (RVs.ints.mpr rfl))
    | str z =>
      refine (pi_str h).run pins s σ H R I (ok _ fun Hk1 H1 v x1 S1 r1 => ?_)
      exact ⟨z, RV.str.mp r1, q' Hk1 H1 _ x1 S1 walks_s⟩
    | _ => exact q'.elim
def inR (i : Int) : Bool := decide (-(2 ^ 62) ≤ i) && decide (i < 2 ^ 62)
theorem inR_iff {i : Int} : inR i = true ↔ -(2 ^ 62) ≤ i ∧ i < 2 ^ 62 := by unfold inR; simp
def mR1 (a : MA) : MI := fun ρ => (a ρ).bind fun xs ρ1 => match xs with
  | [.int j] => if inR j then .ok (rngM 0 1 j.toNat, ρ1) else .stuck
  | _ => .stuck
def mR2 (a : MA) : MI := fun ρ => (a ρ).bind fun xs ρ1 => match xs with
  | [.int i, .int j] => if inR i && inR j then .ok (rngM i 1 (j - i).toNat, ρ1) else .stuck
  | _ => .stuck
def rgOk (i j c : Int) : Bool := decide (c ≠ 0) && decide (c.natAbs < 1073741824) && Builtin.Range.small i j c && decide (Builtin.Range.rangeSize i j c = ((Builtin.Range.rangeSize i j c).toNat : Int))
def mR3 (a : MA) : MI := fun ρ => (a ρ).bind fun xs ρ1 => match xs with
  | [.int i, .int j, .int k] => if rgOk i j k then .ok (rngM i k (Builtin.Range.rangeSize i j k).toNat, ρ1) else .stuck
  | _ => .stuck
theorem rvs_int1 {K : PySem.W.Frag} {H : Hp} {i : Int} {vs : List V} (r : RVs K H [.int i] vs) : vs = [.int i] := (RVs.ints (ns := [i])).mp r
theorem rvs_int2 {K : PySem.W.Frag} {H : Hp} {i j : Int} {vs : List V} (r : RVs K H [.int i, .int j] vs) : vs = [.int i, .int j] := (RVs.ints (ns := [i, j])).mp r
theorem rvs_int3 {K : PySem.W.Frag} {H : Hp} {i j k : Int} {vs : List V} (r : RVs K H [.int i, .int j, .int k] vs) : vs = [.int i, .int j, .int k] := (RVs.ints (ns := [i, j, k])).mp r
theorem mi_r1 {a : Expr} {m : MA} {p pos : Pos} (hm : X.mg "range" = none) (ha : PA X [a] (rdA c m)) (hg : Gl X "range" := by rfl) (hs : starEach [a] X.env = [(false, eval a X.env)] := by rfl) : PI X tg (.Call (.Name "range" p) [a] [] pos) (rdI c (mR1 m)) :=
  PIw (pi_range1 hg hm ha hs) fun σ H R ⟨F, Hk, bp, ρ, S, h⟩ => rdAw (bA postI S h) fun vs H1 ⟨Hk1, xs, ρ1, x1, S1, r1, h1⟩ => by
    split at h1
    · rename_i j
      split at h1
      · rename_i hj
        have := inR_iff.mp hj
        exact ⟨j, rvs_int1 r1, this.1, this.2, h1 _ _ _ (Ex.refl _) S1.1 walks_r⟩
      · exact h1.elim
    · exact h1.elim
theorem mi_r2 {a b : Expr} {m : MA} {p pos : Pos} (hm : X.mg "range" = none) (ha : PA X [a, b] (rdA c m)) (hg : Gl X "range" := by rfl) (hs : starEach [a, b] X.env = [(false, eval a X.env), (false, eval b X.env)] := by rfl) (hs2 : starEach [b] X.env = [(false, eval b X.env)] := by rfl) :
    PI X tg (.Call (.Name "range" p) [a, b] [] pos) (rdI c (mR2 m)) :=
  PIw (pi_range2 hg hm ha hs hs2) fun σ H R ⟨F, Hk, bp, ρ, S, h⟩ => rdAw (bA postI S h) fun vs H1 ⟨Hk1, xs, ρ1, x1, S1, r1, h1⟩ => by
    split at h1
    · rename_i i j
      split at h1
      · rename_i hj
        rw [Bool.and_eq_true] at hj
        have q1 := inR_iff.mp hj.1
        have q2 := inR_iff.mp hj.2
        exact ⟨i, j, rvs_int2 r1, ⟨q1.1, q1.2, q2.1, q2.2⟩, h1 _ _ _ (Ex.refl _) S1.1 walks_r⟩
      · exact h1.elim
    · exact h1.elim
theorem mi_r3 {a b d : Expr} {m : MA} {p pos : Pos} (hm : X.mg "range" = none) (ha : PA X [a, b, d] (rdA c m)) (hg : Gl X "range" := by rfl)
    (hs : starEach [a, b, d] X.env = (false, eval a X.env) :: starEach [b, d] X.env := by rfl) (hpl : (backTo pos (starEach [b, d] X.env)).any (·.1) = false := by rfl) : PI X tg (.Call (.Name "range" p) [a, b, d] [] pos) (rdI c (mR3 m)) :=
  PIw (pi_range3 hg hm ha hs hpl) fun σ H R ⟨F, Hk, bp, ρ, S, h⟩ => rdAw (bA postI S h) fun vs H1 ⟨Hk1, xs, ρ1, x1, S1, r1, h1⟩ => by
    split at h1
    · rename_i i j k
      split at h1
      · rename_i hj
        unfold rgOk at hj
        simp only [Bool.and_eq_true, decide_eq_true_eq] at hj
        exact ⟨i, j, k, _, rvs_int3 r1, ⟨hj.1.1.1, hj.1.1.2, hj.1.2, hj.2⟩, h1 _ _ _ (Ex.refl _) S1.1 walks_rc⟩
      · exact h1.elim
    · exact h1.elim
def mZip (a : MA) : MI := fun ρ => (a ρ).bind fun xs ρ1 => match xs with
  | [.lst xs, .lst ys] => .ok (zipM xs ys, ρ1)
  | [.tup xs, .tup ys] => .ok (zipM xs ys, ρ1)
  | _ => .stuck
theorem mi_zip {e e2 : Expr} {m : MA} {p pos tpos : Pos} {elts : List Expr} {kk : Nat} (hm : X.mg "zip" = none) (ha : PA X [e, e2] (rdA c m)) (hg : Gl X "zip" := by rfl) (hK : c.K = X.K := by rfl)
    (hs : starEach [e, e2] X.env = (false, eval e X.env) :: starEach [e2] X.env := by rfl) (hpl : (backTo pos (starEach [e2] X.env)).any (·.1) = false := by rfl) : PI X (.Tuple elts kk tpos) (.Call (.Name "zip" p) [e, e2] [] pos) (rdI c (mZip m)) :=
  PIw (RZ.pi_zipA hg hm ha hs hpl) fun σ H R ⟨F, Hk, bp, ρ, S, h⟩ => rdAw (bA postI S h) fun vs H1 ⟨Hk1, xs, ρ1, x1, S1, r1, h1⟩ => by
    split at h1
    · obtain ⟨v, r, rfl, q1, q2⟩ := RVs.cons.mp r1
      obtain ⟨w, r', rfl, q3, q4⟩ := RVs.cons.mp q2
      rw [RVs.nil.mp q4]
      obtain ⟨p1, vs1, rfl, g1, s1⟩ := RV.lst.mp q1
      obtain ⟨p2, vs2, rfl, g2, s2⟩ := RV.lst.mp q3
      refine ⟨p1, p2, vs1, vs2, rfl, .inl ⟨SqL.of (S1.1.ex _ _ g1), SqL.of (S1.1.ex _ _ g2), ?_⟩⟩
      rw [← hK]
      exact h1 _ _ _ (Ex.refl _) S1.1 (walks_zl (SqL.of g1) s1 (SqL.of g2) s2)
    · obtain ⟨v, r, rfl, q1, q2⟩ := RVs.cons.mp r1
      obtain ⟨w, r', rfl, q3, q4⟩ := RVs.cons.mp q2
      rw [RVs.nil.mp q4]
      obtain ⟨p1, vs1, rfl, g1, s1⟩ := RV.tup.mp q1
      obtain ⟨p2, vs2, rfl, g2, s2⟩ := RV.tup.mp q3
      refine ⟨p1, p2, vs1, vs2, rfl, .inr ⟨by rw [← hK]; exact ex_t S1.1.ex g1, by rw [← hK]; exact ex_t S1.1.ex g2, ?_⟩⟩
      rw [← hK]
      exact h1 _ _ _ (Ex.refl _) S1.1 (walks_zt g1 s1 g2 s2)
    · exact h1.elim
def mEnum (a : MA) : MI := fun ρ => (a ρ).bind fun xs ρ1 => match xs with
  | [.lst xs] => .ok (enumFrom 0 xs, ρ1)
  | _ => .stuck
theorem mi_enum {e : Expr} {m : MA} {p pos tpos : Pos} {elts : List Expr} {kk : Nat} (hm : X.mg "enumerate" = none) (ha : PA X [e] (rdA c m)) (hg : Gl X "enumerate" := by rfl) (hK : c.K = X.K := by rfl)
    (hs : starEach [e] X.env = [(false, eval e X.env)] := by rfl) : PI X (.Tuple elts kk tpos) (.Call (.Name "enumerate" p) [e] [] pos) (rdI c (mEnum m)) :=
  PIw (pi_enum hg hm ha hs) fun σ H R ⟨F, Hk, bp, ρ, S, h⟩ => rdAw (bA postI S h) fun vs H1 ⟨Hk1, xs, ρ1, x1, S1, r1, h1⟩ => by
    split at h1
    · obtain ⟨v, r, rfl, q1, q2⟩ := RVs.cons.mp r1
      rw [RVs.nil.mp q2]
      obtain ⟨p1, vs1, rfl, g1, s1⟩ := RV.lst.mp q1
      refine ⟨p1, vs1, rfl, SqL.of (S1.1.ex _ _ g1), ?_⟩
      rw [← hK]
      exact h1 _ _ _ (Ex.refl _) S1.1 (walks_e (SqL.of g1) s1)
    · exact h1.elim
def mRev (a : MA) : MI := fun ρ => (a ρ).bind fun xs ρ1 => match xs with
  | [.lst xs] => .ok (xs.reverse, ρ1)
  | _ => .stuck
theorem mi_rev {e : Expr} {m : MA} {p pos : Pos} (hm : X.mg "reversed" = none) (ha : PA X [e] (rdA c m)) (hg : Gl X "reversed" := by rfl) (hK : c.K = X.K := by rfl) (hs : starEach [e] X.env = [(false, eval e X.env)] := by rfl) :
    PI X tg (.Call (.Name "reversed" p) [e] [] pos) (rdI c (mRev m)) := PIw (pi_reversed hg hm ha hs) fun σ H R ⟨F, Hk, bp, ρ, S, h⟩ => rdAw (bA postI S h) fun vs H1 ⟨Hk1, xs, ρ1, x1, S1, r1, h1⟩ => by
    split at h1
    · obtain ⟨v, r, rfl, q1, q2⟩ := RVs.cons.mp r1
      rw [RVs.nil.mp q2]
      obtain ⟨p1, vs1, rfl, g1, s1⟩ := RV.lst.mp q1
      refine ⟨p1, vs1, rfl, SqL.of (S1.1.ex _ _ g1), ?_⟩
      rw [← hK]
      exact h1 _ _ _ (Ex.refl _) S1.1 (walks_v (SqL.of g1) s1)
    · exact h1.elim
/-! ### for -/
def mLoop (g : MG) (b : MS) : List MV → Env → Res (Fl × Env)
  | [], ρ => .ok (.nx, ρ)
  | x :: xs, ρ => match g x ρ with
    | none => .stuck
    | some ρ1 => (b ρ1).bind fun f ρ2 => match f with
      | .nx => mLoop g b xs ρ2
      | .ct => mLoop g b xs ρ2
      | .br => .ok (.nx, ρ2)
      | .rt v => .ok (.rt v, ρ2)
def mFor (i : MI) (g : MG) (b : MS) : MS := fun ρ => (i ρ).bind fun xs ρ1 => mLoop g b xs ρ1
theorem okS.loop {F Hk : Hp} {bp : List (Nat × Addr)} {D : Ends} {g : MG} {b : MS} {xs : List MV} {N : St → Hp → Prop} (hN : ∀ Hk' H' σ' ρ', Ex Hk Hk' → RS c.K F Hk' H' bp σ' ρ' → okS c F Hk' bp D (mLoop g b xs ρ') → N σ' H') {r : Res (Fl × Env)}
    (h : okS c F Hk bp D (r.bind fun f ρ2 => match f with | .nx => mLoop g b xs ρ2 | .ct => mLoop g b xs ρ2 | .br => .ok (.nx, ρ2) | .rt v => .ok (.rt v, ρ2))) : okS c F Hk bp { D with nx := N, ct := N, bk := D.nx } r := by
  cases r with
  | stuck => exact h
  | exc e ρ => exact h
  | ok q =>
    obtain ⟨f, ρ1⟩ := q
    cases f with
    | nx => exact fun Hk1 H1 σ1 x1 S1 => hN Hk1 H1 σ1 ρ1 x1 S1 (okS.mono x1 h)
    | ct => exact fun Hk1 H1 σ1 x1 S1 => hN Hk1 H1 σ1 ρ1 x1 S1 (okS.mono x1 h)
    | br => exact h
    | rt x => exact h
theorem rd_for {it : MI} {g : MG} {b : MS} {D : Ends} {σ : St} {H : Hp} (h : rdS c (mFor it g b) D σ H) : tFor (rdI c it) (rdG c g) (rdS c b) D σ H := by
  obtain ⟨F, Hk, bp, ρ, S, h⟩ := h
  refine ⟨F, Hk, bp, ρ, S, ?_⟩
  have h : okS c F Hk bp D ((it ρ).bind fun xs ρ1 => mLoop g b xs ρ1) := h
  cases e : it ρ with
  | stuck => rw [e] at h; exact h
  | exc x ρ' => rw [e] at h; exact fun Hk1 H1 cls d => h Hk1 H1 σ cls d
  | ok p =>
    obtain ⟨xs, ρ1⟩ := p
    rw [e] at h
    intro Hk1 H1 J x1 S1 wk
    have h : okS c F Hk1 bp D (mLoop g b xs ρ1) := okS.mono x1 h
    refine ⟨fun i m σ' H' => m = xs.length - i ∧ i ≤ xs.length ∧ ∃ Hk' ρ', Ex Hk1 Hk' ∧ At c F Hk' H' bp σ' ρ' ∧ okS c F Hk' bp D (mLoop g b (xs.drop i) ρ'), ⟨xs.length, by simp, Nat.zero_le _, Hk1, ρ1, Ex.refl _, ⟨S1, S.2⟩, h⟩, ?_⟩
    rintro i m σ' H' ⟨rfl, hi, Hk', ρ', x', S', h'⟩
    by_cases hlt : i < xs.length
    · refine .inr ⟨wk.go i H' (x'.trans S'.1.ex) hlt, fun σ2 H2 => ∃ Hk2 ρ2, Ex Hk1 Hk2 ∧ At c F Hk2 H2 bp σ2 ρ2 ∧ okS c F Hk2 bp D (mLoop g b (xs.drop (i + 1)) ρ2), fun σ2 H2 ⟨Hk2, ρ2, x2, S2, h2⟩ => ⟨xs.length - (i + 1), by omega, rfl, hlt, Hk2, ρ2, x2, S2, h2⟩, fun x H2 y => ?_⟩
      obtain ⟨z, ez, hz⟩ := wk.yld i H' x H2 (x'.trans S'.1.ex) hlt y
      have ed : xs.drop i = z :: xs.drop (i + 1) := by
        rw [List.drop_eq_getElem_cons hlt]
        rw [List.getElem?_eq_getElem hlt] at ez
        cases ez; rfl
      rw [ed] at h'
      have fin : ∀ Hk3, Ex Hk' Hk3 → At c F Hk3 H2 bp σ' ρ' → RV c.K Hk3 z x → rdG c g x σ' H2 fun σ2 H2 => rdS c b { D with nx := fun σ2 H2 => ∃ Hk2 ρ2, Ex Hk1 Hk2 ∧ At c F Hk2 H2 bp σ2 ρ2 ∧ okS c F Hk2 bp D (mLoop g b (xs.drop (i + 1)) ρ2), ct := fun σ2 H2 => ∃ Hk2 ρ2, Ex Hk1 Hk2 ∧ At c F Hk2 H2 bp σ2 ρ2 ∧ okS c F Hk2 bp D (mLoop g b (xs.drop (i + 1)) ρ2), bk := D.nx } σ2 H2 := fun Hk3 x3 S3 r3 => by
        refine ⟨F, Hk3, bp, ρ', z, S3, r3, ?_⟩
        have h' := okS.mono x3 h'
        unfold mLoop at h'
        cases eg : g z ρ' with
        | none => rw [eg] at h'; exact h'
        | some ρ3 =>
          rw [eg] at h'
          intro Hk4 H4 σ4 x4 S4
          refine ⟨F, Hk4, bp, ρ3, ⟨S4, S.2⟩, okS.loop (fun Hk5 H5 σ5 ρ5 x5 S5 h5 => ⟨Hk5, ρ5, x'.trans (x3.trans (x4.trans x5)), ⟨S5, S.2⟩, h5⟩) (okS.mono x4 h')⟩
      rcases hz with ⟨rfl, r⟩ | ⟨p, vs, ys, hp, rfl, rfl, rfl, r⟩
      · exact fin Hk' (Ex.refl _) S' (RV.mono x' _ _ r)
      · have xn := Ex.new (o := .tup vs) (S'.1.ex.back hp)
        exact fin _ xn ⟨S'.1.new hp, S.2⟩ (RV.tup.mpr ⟨p, vs, rfl, SqT.of upd_same, r.mono (x'.trans xn)⟩)
    · have e : i = xs.length := by omega
      subst e
      rw [List.drop_length] at h'
      exact .inl ⟨wk.stop H' (x'.trans S'.1.ex), h' _ _ _ (Ex.refl _) S'.1⟩
theorem ms_for {iter : Expr} {body : List Stmt} {it : MI} {g : MG} {b : MS} {pos : Pos} (hp : PassesOwn (model X.prog X.w) X.A X.env X.xe) (hc : X.calm = true) (hi : PI X tg iter (rdI c it)) (hg : PG X tg (rdG c g)) (hb : PSs X body (rdS c b))
    (hs : ∀ x, foldedSetIterable iter X.env x = pure x := by intro _; rfl) : PS X (.For tg iter body [] pos) (rdS c (mFor it g b)) := PSw (ps_for hp hc hi hg hb hs) fun _ _ _ h => rd_for h
end
end Tm

set_option Elab.async false
set_option linter.all false
set_option maxRecDepth 100000
set_option maxHeartbeats 2000000
namespace Tm
open PySem L2
open Evl (Ex ex_rd ex_l ex_t)
/-! ### defs: what they are worth, what they promise -/
abbrev MF := List MV → Res (MV × Env)
def endOf (bs : List Nat) (ρ : Env) : Env := bs.map fun i => (ρ[i]?).join
def mFn (n : Nat) (bs : List Nat) (m : MS) : MF := fun xs => match m (xs.map some ++ List.replicate (n - xs.length) none) with
  | .ok (.rt v, ρ) => .ok (v, endOf bs ρ)
  | .ok (.nx, ρ) => .ok (.non, endOf bs ρ)
  | .exc e ρ => .exc e (endOf bs ρ)
  | _ => .stuck
def okF (K : PySem.W.Frag) (mg : Str → Option Value) (F Hk : Hp) (bσ : St) (Q : VK) (E : XK) : Res (MV × Env) → Prop
  | .ok (v, bs) => ∀ Hk' H' w, Ex Hk Hk' → RS K F Hk' H' [] (bσ ++ [some w]) (bs ++ [some v]) → Q w H'
  | .exc e bs => ∀ Hk' H' cls d, Ex Hk Hk' → RS K F Hk' H' [] bσ bs → ExR K mg Hk' e cls d → E cls d H'
  | .stuck => False
def spF (K : PySem.W.Frag) (mg : Str → Option Value) (np : Nat) (bs : List Nat) (f : MF) : Sp := fun vs H Q E => vs.length = np ∧ ∃ F Hk bp xs, RS K F Hk H bp (vs.map some) (xs.map some) ∧ bp.map (·.1) = bs ∧ okF K mg F Hk (bp.map fun q => some (.ref q.2)) Q E (f xs)
section
variable {K : PySem.W.Frag} {F Hk H : Hp} {bp : List (Nat × Addr)} {σ : St} {ρ : Env}
theorem RS.pick (S : RS K F Hk H bp (σ ++ [some v]) (ρ ++ [some x])) (is : List Nat) (nd : is.Nodup) (hl : ∀ i ∈ is, i < ρ.length) :
    RS K F Hk H [] ((is.map fun i => (σ[i]?).join) ++ [some v]) ((is.map fun i => (ρ[i]?).join) ++ [some x]) := by
  obtain ⟨ow, s⟩ := S.ow
  have hlen : σ.length = ρ.length := by have := S.len; simpa using this
  have old : ∀ {j i : Nat}, is[j]? = some i → i < ρ.length := fun h => hl _ (List.mem_of_getElem? h)
  refine ⟨by simp, S.ex, S.fr, S.frk, ⟨fun j => match is[j]? with | some i => ow i | none => if j = is.length then ow ρ.length else [], ?_⟩, fun q hq => nomatch hq⟩
  have own : ∀ j a, a ∈ (match is[j]? with | some i => ow i | none => if j = is.length then ow ρ.length else []) → (∃ i, is[j]? = some i ∧ a ∈ ow i) ∨ (j = is.length ∧ a ∈ ow ρ.length) := fun j a h => by
    cases e : is[j]? with
    | some i => rw [e] at h; exact .inl ⟨i, rfl, h⟩
    | none =>
      rw [e] at h
      by_cases e2 : j = is.length
      · rw [if_pos e2] at h; exact .inr ⟨e2, h⟩
      · rw [if_neg e2] at h; cases h
  refine ⟨fun j y h => ?_, fun j a h => ?_, fun j h => ?_, fun j k a hjk h1 h2 => ?_⟩
  · rcases app_get h with ⟨e1, e2⟩ | ⟨lt, e2⟩
    · cases e2
      rw [List.length_map] at e1
      subst e1
      obtain ⟨u, hu, ou⟩ := s.s ρ.length x (by simp)
      have ev : u = v := by rw [← hlen] at hu; simpa using hu.symm
      subst ev
      refine ⟨u, by simp, ?_⟩
      have : is[is.length]? = none := by simp
      rw [this, if_pos rfl]
      exact ou
    · rw [List.length_map] at lt
      rw [List.getElem?_map] at e2
      cases ei : is[j]? with
      | none => rw [ei] at e2; cases e2
      | some i =>
        rw [ei] at e2
        have e3 : ρ[i]? = some (some y) := by
          cases er : ρ[i]? with
          | none => rw [Option.map_some, er] at e2; cases e2
          | some o => rw [Option.map_some, er] at e2; cases o with
            | none => cases e2
            | some z => cases e2; rfl
        have li := old ei
        obtain ⟨w, w1, w2⟩ := s.s i y (by rw [List.getElem?_append_left li]; exact e3)
        rw [List.getElem?_append_left (by rw [hlen]; exact li)] at w1
        refine ⟨w, ?_, w2⟩
        rw [List.getElem?_append_left (by simpa using lt), List.getElem?_map, ei, Option.map_some, w1]; rfl
  · rcases own j a h with ⟨i, _, m⟩ | ⟨_, m⟩
    · exact s.f i a m
    · exact s.f _ a m
  · cases e : (match is[j]? with | some i => ow i | none => if j = is.length then ow ρ.length else []) with
    | nil => exact (h e).elim
    | cons a r =>
      rcases own j a (by rw [e]; simp) with ⟨i, ei, _⟩ | ⟨e2, _⟩
      · have := lt_get ei; simp; omega
      · simp; omega
  · rcases own j a h1 with ⟨i, ei, m⟩ | ⟨e1, m⟩ <;> rcases own k a h2 with ⟨i2, ei2, m2⟩ | ⟨e2, m2⟩
    · have ne : i ≠ i2 := fun z => by
        subst z
        obtain ⟨a1, a2⟩ := List.getElem?_eq_some_iff.mp ei
        obtain ⟨b1, b2⟩ := List.getElem?_eq_some_iff.mp ei2
        exact hjk ((List.getElem_inj nd).mp (a2.trans b2.symm))
      exact s.d i i2 a ne m m2
    · exact s.d i ρ.length a (Nat.ne_of_lt (old ei)) m m2
    · exact s.d i2 ρ.length a (Nat.ne_of_lt (old ei2)) m2 m
    · exact hjk (e1.trans e2.symm)
theorem RS.pad (S : RS K F Hk H bp σ ρ) (n : Nat) : RS K F Hk H bp (σ ++ List.replicate n none) (ρ ++ List.replicate n none) := by
  obtain ⟨ow, s⟩ := S.ow
  have g : ∀ {α : Type} {l : List (Option α)} {j : Nat} {y : α}, (l ++ List.replicate n none)[j]? = some (some y) → l[j]? = some (some y) := fun {α l j y} h => by
    by_cases e : j < l.length
    · rw [List.getElem?_append_left e] at h; exact h
    · rw [List.getElem?_append_right (Nat.le_of_not_lt e), List.getElem?_replicate] at h
      split at h <;> cases h
  have g2 : ∀ {α : Type} {l : List (Option α)} {j : Nat} {y : α}, l[j]? = some (some y) → (l ++ List.replicate n none)[j]? = some (some y) := fun {α l j y} h => by
    rw [List.getElem?_append_left (lt_get h)]; exact h
  refine ⟨by simp [S.len], S.ex, S.fr, S.frk, ⟨ow, fun j y h => ?_, s.f, fun j h => ?_, s.d⟩, fun q hq => g2 (S.bor q hq)⟩
  · obtain ⟨v, e, o⟩ := s.s j y (g h)
    exact ⟨v, g2 e, o⟩
  · have := s.w j h; simp; omega
theorem RS.args {xs : List MV} {vs : List V} (ex : Ex Hk H) (fr : Ex F H) (frk : ∀ a o, F a = some o → Hk a = none) (r : RVs K Hk xs vs) : RS K F Hk H [] (vs.map some) (xs.map some) := by
  refine ⟨by simp [r.length], ex, fr, frk, ⟨fun _ => [], fun j y h => ?_, fun j a h => (nomatch h), fun j h => (h rfl).elim, fun j k a _ h => nomatch h⟩, fun q hq => nomatch hq⟩
  rw [List.getElem?_map] at h
  cases e : xs[j]? with
  | none => rw [e] at h; cases h
  | some z =>
    rw [e] at h
    cases h
    obtain ⟨v, e1, rv⟩ := r.get e
    exact ⟨v, by rw [List.getElem?_map, e1]; rfl, rv.ov⟩
end

section
variable {X : Cx} {c : Ct}
def fz : MV → Option MV
  | .own xs => some (.lst xs)
  | .obj _ _ => none
  | x => some x
def mFz (m : ME) : ME := fun ρ => (m ρ).bind fun x ρ1 => match fz x with | some y => .ok (y, ρ1) | none => .stuck
theorem RS.last {K : PySem.W.Frag} {F Hk H : Hp} {bp : List (Nat × Addr)} {σ : St} {ρ : Env} {v : V} {x y : MV} (S : RS K F Hk H bp (σ ++ [some v]) (ρ ++ [some x])) (hb : ∀ q ∈ bp, q.1 < ρ.length) (e : fz x = some y) :
    ∃ Hk', Ex Hk Hk' ∧ RS K F Hk' H bp σ ρ ∧ RV K Hk' y v := by
  have hl : σ.length = ρ.length := by have := S.len; simpa using this
  have pl : x.per = true → y = x → ∃ Hk', Ex Hk Hk' ∧ RS K F Hk' H bp σ ρ ∧ RV K Hk' y v := fun px ey => by
    subst ey
    obtain ⟨w, ew, rw'⟩ := S.get (i := ρ.length) (x := y) (by simp) px
    rw [← hl] at ew
    have : w = v := by simpa using ew.symm
    subst this
    exact ⟨Hk, Ex.refl _, S.drop hb, rw'⟩
  cases x with
  | own xs =>
    cases e
    obtain ⟨p, vs, e1, ex, r, S'⟩ := S.freeze (i := ρ.length) (xs := xs) (by simp)
    rw [← hl] at e1
    have : v = .ref p := by simpa using e1
    subst this
    refine ⟨_, ex, ?_, r⟩
    have z : (ρ ++ [some (MV.own xs)]).set ρ.length (some (.lst xs)) = ρ ++ [some (.lst xs)] := by simp
    rw [z] at S'
    exact S'.drop hb
  | obj C fs => cases e
  | _ => cases e; exact pl rfl rfl
theorem rd_fz {m : ME} {σ : St} {H : Hp} {Q : VK} (h : rdE c (mFz m) σ H Q) : rdO c m σ H Q := by
  obtain ⟨F, Hk, bp, ρ, S, h⟩ := h
  refine ⟨F, Hk, bp, ρ, S, ?_⟩
  have h : okE c F Hk bp σ Q ((m ρ).bind fun x ρ1 => match fz x with | some y => .ok (y, ρ1) | none => .stuck) := h
  cases e : m ρ with
  | stuck => rw [e] at h; exact h
  | exc x ρ' => rw [e] at h; exact h
  | ok p =>
    obtain ⟨x, ρ1⟩ := p
    rw [e] at h
    intro Hk1 H1 v x1 S1
    have h : okE c F Hk bp σ Q (match fz x with | some y => .ok (y, ρ1) | none => .stuck) := h
    have l1 : σ.length = ρ1.length := by have := S1.len; simpa using this
    cases ez : fz x with
    | none => rw [ez] at h; exact h.elim
    | some y =>
      rw [ez] at h
      obtain ⟨Hk2, x2, S2, r2⟩ := S1.last (fun q hq => by rw [← l1]; exact lt_get (S.1.bor q hq)) ez
      exact h _ _ _ (x1.trans x2) S2 r2
theorem me_fz {e : Expr} {m : ME} (h : PE X e (rdO c m)) : PE X e (rdE c (mFz m)) := PEw h fun _ _ _ q => rd_fz q
/-! ### a call: the arguments plain -/
def mCall (f : MF) (a : MA) : ME := fun ρ => (a ρ).bind fun xs ρ1 => match f xs with
  | .ok (v, _) => .ok (v, ρ1)
  | .exc e _ => .exc e ρ1
  | .stuck => .stuck
theorem call_end {f : MF} {n : Nat} {F Hk H : Hp} {bp : List (Nat × Addr)} {σ : St} {ρ : Env} {xs : List MV} {vs : List V} {Q : VK} {E : XK} (S : At c F Hk H bp σ ρ) (r : RVs c.K Hk xs vs) (hn : xs.length = n)
    (hE : ∀ e, (∀ Hk' H' cls d, Ex Hk Hk' → RS c.K F Hk' H' bp σ ρ → ExR c.K c.mg Hk' e cls d → c.W cls d σ H') → ∀ Hk' H' cls d, Ex Hk Hk' → RS c.K F Hk' H' bp σ ρ → ExR c.K c.mg Hk' e cls d → E cls d H')
    (h : okO c F Hk bp σ Q (match f xs with | .ok (v, _) => .ok (v, ρ) | .exc e _ => .exc e ρ | .stuck => .stuck)) : spF c.K c.mg n [] f vs H Q E := by
  refine ⟨by rw [r.length]; exact hn, ?_⟩
  obtain ⟨ow, s⟩ := S.1.ow
  haveI : ∀ a, Decidable (∃ i, a ∈ ow i) := fun a => Classical.propDecidable _
  have fN : ∃ F' : Hp, (∀ i a, a ∈ ow i → F' a = H a) ∧ (∀ a o, F a = some o → F' a = some o) ∧ ∀ a o, F' a = some o → H a = some o ∧ Hk a = none := by
    refine ⟨fun a => if (∃ i, a ∈ ow i) then H a else F a, fun i a ha => if_pos ⟨i, ha⟩, fun a o ha => ?_, fun a o ha => ?_⟩
    · have : ¬ ∃ i, a ∈ ow i := fun ⟨i, hi⟩ => by have := (s.f i a hi).2.1; rw [ha] at this; cases this
      show (if (∃ i, a ∈ ow i) then H a else F a) = some o
      rw [if_neg this]; exact ha
    · have ha : (if (∃ i, a ∈ ow i) then H a else F a) = some o := ha
      by_cases e : ∃ i, a ∈ ow i
      · rw [if_pos e] at ha
        obtain ⟨i, hi⟩ := e
        exact ⟨ha, (s.f i a hi).1⟩
      · rw [if_neg e] at ha
        exact ⟨S.1.fr a o ha, S.1.frk a o ha⟩
  obtain ⟨F', f1, f2, f3⟩ := fN
  refine ⟨F', Hk, [], xs, RS.args S.1.ex (fun a o ha => (f3 a o ha).1) (fun a o ha => (f3 a o ha).2) r, rfl, ?_⟩
  -- what stands behind the call
  have back : ∀ {Hk' H' : Hp} {bσ : St} {bρ : Env}, Ex Hk Hk' → RS c.K F' Hk' H' [] bσ bρ → RS c.K F Hk' H' bp σ ρ ∧ SL c.K F Hk' H' ow σ ρ := fun {Hk' H' bσ bρ} x S' => by
    have own : ∀ i, ∀ a ∈ ow i, H' a = H a ∧ Hk' a = none := fun i a ha => by
      obtain ⟨g1, g2, o, g3⟩ := s.f i a ha
      have q : F' a = some o := (f1 i a ha).trans g3
      exact ⟨(S'.fr a o q).trans g3.symm, S'.frk a o q⟩
    have sl : SL c.K F Hk' H' ow σ ρ := s.step x own
    exact ⟨⟨S.1.len, S'.ex, fun a o ha => S'.fr a o (f2 a o ha), fun a o ha => S'.frk a o (f2 a o ha), ⟨ow, sl⟩, S.1.bor⟩, sl⟩
  cases ef : f xs with
  | stuck => rw [ef] at h; exact h.elim
  | exc e bs =>
    rw [ef] at h
    intro Hk' H' cls d x S' er
    exact hE e h Hk' H' cls d x (back x S').1 er
  | ok p =>
    obtain ⟨v, bs⟩ := p
    rw [ef] at h
    intro Hk' H' w x S'
    obtain ⟨R1, sl⟩ := back x S'
    refine h Hk' H' w x ?_
    obtain ⟨ow2, s2⟩ := S'.ow
    have bl : bs.length = 0 := by have := S'.len; simpa using this.symm
    have be : bs = [] := List.eq_nil_of_length_eq_zero bl
    subst be
    obtain ⟨w2, e2, o2⟩ := s2.s 0 v rfl
    cases e2
    refine ⟨by simp [S.1.len], R1.ex, R1.fr, R1.frk, ⟨_, sl.push S.1.len o2 (fun a ha => ?_) (fun i a ha hi => ?_)⟩, R1.bor_app _⟩
    · obtain ⟨g1, g2, _⟩ := s2.f 0 a ha
      refine ⟨g1, ?_⟩
      cases e : F a with
      | none => rfl
      | some o => rw [f2 a o e] at g2; cases g2
    · obtain ⟨g1, g2, o, g3⟩ := s2.f 0 a ha
      obtain ⟨_, _, o', q⟩ := s.f i a hi
      rw [f1 i a hi, q] at g2
      cases g2
theorem rd_call {f : MF} {n : Nat} {a : MA} {σ : St} {H : Hp} {Q : VK} (hn : ∀ ρ xs ρ', a ρ = .ok (xs, ρ') → xs.length = n) (h : rdO c (mCall f a) σ H Q) : tCallS (spF c.K c.mg n [] f) (WE c.W) (rdA c a) σ H Q := by
  obtain ⟨F, Hk, bp, ρ, S, h⟩ := h
  refine ⟨F, Hk, bp, ρ, S, ?_⟩
  have h : okO c F Hk bp σ Q ((a ρ).bind fun xs ρ1 => match f xs with | .ok (v, _) => .ok (v, ρ1) | .exc e _ => .exc e ρ1 | .stuck => .stuck) := h
  cases e : a ρ with
  | stuck => rw [e] at h; exact h
  | exc x ρ' => rw [e] at h; exact h
  | ok p =>
    obtain ⟨xs, ρ1⟩ := p
    rw [e] at h
    intro Hk1 H1 vs x1 S1 r1
    exact call_end ⟨S1, S.2⟩ r1 (hn _ _ _ e) (fun e q => q) (okO.mono x1 h)
def Lng (a : MA) (n : Nat) : Prop := ∀ ρ xs ρ', a ρ = .ok (xs, ρ') → xs.length = n
theorem lng_nil : Lng mNil 0 := fun ρ xs ρ' h => by cases h; rfl
theorem lng_cons {a : ME} {b : MA} {n : Nat} (h : Lng b n) : Lng (mCons a b) (n + 1) := fun ρ xs ρ' e => by
  unfold mCons at e
  cases ea : a ρ with
  | stuck => rw [ea] at e; cases e
  | exc x r => rw [ea] at e; cases e
  | ok p =>
    rw [ea] at e
    have e : (b p.2).bind (fun ys ρ2 => Res.ok (p.1 :: ys, ρ2)) = .ok (xs, ρ') := e
    cases eb : b p.2 with
    | stuck => rw [eb] at e; cases e
    | exc x r => rw [eb] at e; cases e
    | ok q =>
      rw [eb] at e
      cases e
      simp [h _ _ _ eb]
variable {k : Nat} {fa : Addr} {fd : FuncData} {ps : List Str} {x : Str} {p pos : Pos} {e : Expr} {es : List Expr} {f : MF} {a : MA} {n : Nat}
theorem mo_call (F : FnOk X.prog X.w X.K X.mg X.base (L2.CX X.prog X.w) k fa fd ps (spF X.K X.mg n [] f)) (hr : Room k X.A) (hm : X.mg x = some (.ref fa)) (hk : PySem.W.keepIn X.K (.ref fa) = true) (hb : Binds X.K fd ps []) (tk : Takes X c.W)
    (ha : PA X (e :: es) (rdA c a)) (hn : Lng a n) (hg : Gl X x := by rfl) (hK : c.K = X.K := by rfl) (hM : c.mg = X.mg := by rfl) (hdb : (x == ("__debug__" : Str)) = false := by decide) (he : starEach (e :: es) X.env = (false, eval e X.env) :: starEach es X.env := by rfl)
    (hpl : (backTo pos (starEach es X.env)).any (·.1) = false := by rfl) : PE X (.Call (.Name x p) (e :: es) [] pos) (rdO c (mCall f a)) :=
  PEw (pe_callS (E := WE c.W) F hr hg hm hk hb (fun σ => passAt tk σ) ha hdb he hpl) fun σ H Q h => by
    have := rd_call hn h
    rw [hK, hM] at this
    exact this
def mCall0 (f : MF) (a : MA) : ME := fun ρ => (a ρ).bind fun xs ρ1 => match f xs with
  | .ok (v, _) => .ok (v, ρ1)
  | _ => .stuck
theorem rd_call0 {f : MF} {n : Nat} {a : MA} {σ : St} {H : Hp} {Q : VK} (hn : Lng a n) (h : rdO c (mCall0 f a) σ H Q) : tCall (spF c.K c.mg n [] f) [] (fun _ _ _ => False) (rdA c a) σ H Q := by
  obtain ⟨F, Hk, bp, ρ, S, h⟩ := h
  refine ⟨F, Hk, bp, ρ, S, ?_⟩
  have h : okO c F Hk bp σ Q ((a ρ).bind fun xs ρ1 => match f xs with | .ok (v, _) => .ok (v, ρ1) | _ => .stuck) := h
  cases e : a ρ with
  | stuck => rw [e] at h; exact h
  | exc x ρ' => rw [e] at h; exact h
  | ok p =>
    obtain ⟨xs, ρ1⟩ := p
    rw [e] at h
    intro Hk1 H1 vs x1 S1 r1
    rw [List.append_nil]
    have h : okO c F Hk bp σ Q (match f xs with | .ok (v, _) => .ok (v, ρ1) | _ => .stuck) := h
    cases ef : f xs with
    | stuck => rw [ef] at h; exact h.elim
    | exc e bs => rw [ef] at h; exact h.elim
    | ok q =>
      rw [ef] at h
      refine call_end (f := f) (c := ⟨c.K, c.mg, fun _ _ _ _ => False, c.bs, c.J, c.Jm⟩) ⟨S1, S.2⟩ r1 (hn _ _ _ e) (fun e q => q) ?_
      rw [ef]
      exact fun Hk2 H2 w x2 => h Hk2 H2 w (x1.trans x2)
theorem passes0 {P : Program} {w : World} {X : Cx} : Passes (L2.CX P w) X fun _ _ _ => False := fun _ _ _ _ _ _ _ ⟨_, _, _, _, _, _, _, _, _, _, _, _, f⟩ => f.elim
theorem mo_call0 (F : FnOk X.prog X.w X.K X.mg X.base (L2.CX X.prog X.w) k fa fd ps (spF X.K X.mg n [] f)) (hr : Room k X.A) (hm : X.mg x = some (.ref fa)) (hk : PySem.W.keepIn X.K (.ref fa) = true) (hb : Binds X.K fd ps [])
    (ha : PA X (e :: es) (rdA c a)) (hn : Lng a n) (hg : Gl X x := by rfl) (hK : c.K = X.K := by rfl) (hM : c.mg = X.mg := by rfl) (hdb : (x == ("__debug__" : Str)) = false := by decide) (he : starEach (e :: es) X.env = (false, eval e X.env) :: starEach es X.env := by rfl)
    (hpl : (backTo pos (starEach es X.env)).any (·.1) = false := by rfl) : PE X (.Call (.Name x p) (e :: es) [] pos) (rdO c (mCall0 f a)) :=
  PEw (pe_call F hr hg hm hk hb .nil passes0 ha hdb he hpl) fun σ H Q h => by
    have := rd_call0 hn h
    rw [hK, hM] at this
    exact this
end
/-! ### a def keeps its promise -/
section
variable {P : Program} {w : World} {K : PySem.W.Frag} {mg : Str → Option Value} {base : Heap}
theorem start_eq {N : List Str} {vs : List V} {xs : List MV} (h : vs.length = xs.length) : L2.start N vs = vs.map some ++ List.replicate (N.length - xs.length) none := by unfold L2.start; rw [h]
theorem fn_ok {x qual : Str} {st : Stmt} {f : Addr} {fd : FuncData} {N ps : List Str} {k : Nat} {bs : List Nat} {m : MS} (F : Fun K x qual st f fd) (S : FnScope N ps (defScope st)) (nd : bs.Nodup) (hbs : ∀ i ∈ bs, i < ps.length)
    (hbody : ∀ (cdv : Value) (A : Around) (outer : List PySem.Env) (s : Shared) (H : Hp) (E : XK), Room k (A.deeper (PyProof.Rows.envOfC qual (defScope st) s.heap.objs.size f cdv)) →
      PSs (cxOf (L2.CX P w) P w K mg base N qual (defScope st) f cdv A outer s H E) (defBody st) (rdS ⟨K, mg, fun cls d _ H => E cls d H, bs, fun _ _ => True, fun _ _ _ _ _ => trivial⟩ m)) :
    FnOk P w K mg base (L2.CX P w) (k + 1) f fd ps (spF K mg ps.length bs (mFn N.length bs m)) := by
  refine F.okX S (fun vs H Q E h => h.1) (fun cdv A outer s H vs Q E hr h => ⟨_, hbody cdv A outer s H E hr, ?_⟩)
  obtain ⟨hl, F', Hk, bp, xs, R, eb, h⟩ := h
  have el : vs.length = xs.length := by have := R.len; simpa using this
  rw [start_eq el]
  refine ⟨F', Hk, bp, _, ⟨R.pad _, eb, trivial⟩, ?_⟩
  have bor : ∀ {σ' : St} {Hk' H' : Hp} {ρ' : Env}, RS K F' Hk' H' bp σ' ρ' → bs.map (fun i => (σ'[i]?).join) = bp.map (fun q => some (.ref q.2)) := fun {σ' Hk' H' ρ'} S' => by
    rw [← eb, List.map_map]
    refine List.map_congr_left fun q hq => ?_
    show (σ'[q.1]?).join = _
    rw [S'.bor q hq]; rfl
  have bl : ∀ {σ' : St} {Hk' H' : Hp} {ρ' : Env}, RS K F' Hk' H' bp σ' ρ' → ∀ i ∈ bs, i < ρ'.length := fun {σ' Hk' H' ρ'} S' i hi => by
    rw [← eb] at hi
    obtain ⟨q, hq, rfl⟩ := List.mem_map.mp hi
    rw [← S'.len]; exact lt_get (S'.bor q hq)
  unfold mFn at h
  cases em : m (xs.map some ++ List.replicate (N.length - xs.length) none) with
  | stuck => rw [em] at h; exact h.elim
  | exc e ρ' =>
    rw [em] at h
    intro Hk' H' σ' cls d x S' er
    refine h Hk' H' cls d x ?_ er
    have z := ((S'.push (x := .non) (v := .non) (RV.non.mpr rfl)).pick bs nd (bl S')).drop (fun _ hq => nomatch hq)
    rw [bor S'] at z
    exact z
  | ok p =>
    obtain ⟨fl, ρ'⟩ := p
    rw [em] at h
    have ret : ∀ {Hk' H' : Hp} {σ' : St} {u : V} {v : MV}, okF K mg F' Hk (bp.map fun q => some (.ref q.2)) Q E (.ok (v, endOf bs ρ')) → Ex Hk Hk' → RS K F' Hk' H' bp (σ' ++ [some u]) (ρ' ++ [some v]) → (∀ q ∈ bp, q.1 < ρ'.length) → Q u H' := fun {Hk' H' σ' u v} h x S' hq => by
      refine h Hk' H' u x ?_
      have z := S'.pick bs nd (fun i hi => by
        rw [← eb] at hi
        obtain ⟨q, hq', rfl⟩ := List.mem_map.mp hi
        exact hq q hq')
      have l1 : σ'.length = ρ'.length := by have := S'.len; simpa using this
      have e2 : bs.map (fun i => (σ'[i]?).join) = bp.map (fun q => some (.ref q.2)) := by
        rw [← eb, List.map_map]
        refine List.map_congr_left fun q hq' => ?_
        show (σ'[q.1]?).join = _
        have := S'.bor q hq'
        rw [List.getElem?_append_left (by rw [l1]; exact hq q hq')] at this
        rw [this]; rfl
      rw [e2] at z
      exact z
    cases fl with
    | nx => exact fun Hk' H' σ' x S' => ret h x (S'.push (x := .non) (v := .non) (RV.non.mpr rfl)) (fun q hq => by rw [← S'.len]; exact lt_get (S'.bor q hq))
    | br => exact h.elim
    | ct => exact h.elim
    | rt v =>
      intro Hk' H' σ' u x lq S'
      have l1 : σ'.length = ρ'.length := by have := S'.len; simpa using this
      exact ret h x S' fun q hq => by rw [← l1]; exact lq q hq
end
end Tm

set_option Elab.async false
set_option linter.all false
set_option maxRecDepth 100000
set_option maxHeartbeats 2000000
namespace Tm
open PySem L2
open Evl (Ex ex_rd ex_l ex_t)
/-! ### built-ins on plain values -/
def CallS (K : PySem.W.Frag) (f : List MV → Option MV) (r : List V → Hp → VK → Prop) : Prop := ∀ (xs : List MV) (z : MV) (vs : List V) (Hk H : Hp) (Q : VK), f xs = some z → Ex Hk H → RVs K Hk xs vs → (∀ u, RV K Hk z u → Q u H) →
  (∀ p o, H p = none → RV K (upd Hk p o) z (.ref p) → Q (.ref p) (upd H p o)) → r vs H Q
def mBlt (f : List MV → Option MV) (a : MA) : ME := fun ρ => (a ρ).bind fun xs ρ1 => match f xs with | some z => .ok (z, ρ1) | none => .stuck
section
variable {X : Cx} {c : Ct} {x : Str} {p pos : Pos} {e : Expr} {es : List Expr} {a : MA} {id T : String} {f : List MV → Option MV} {r : List V → Hp → VK → Prop}
theorem rd_blt (o : CallS c.K f r) {σ : St} {H : Hp} {Q : VK} (h : rdE c (mBlt f a) σ H Q) : tCB r (rdA c a) σ H Q := by
  obtain ⟨F, Hk, bp, ρ, S, h⟩ := h
  refine rdAw (bA postE S h) fun vs H1 ⟨Hk1, xs, ρ1, x1, S1, r1, h1⟩ => ?_
  have h1 : okE c F Hk1 bp σ Q (match f xs with | some z => .ok (z, ρ1) | none => .stuck) := h1
  cases ef : f xs with
  | none => rw [ef] at h1; exact h1.elim
  | some z =>
    rw [ef] at h1
    exact o xs z vs Hk1 H1 Q ef S1.1.ex r1 (fun u ru => h1 _ _ u (Ex.refl _) S1.1 ru) fun p ob hp ru => h1 _ _ _ (Ex.new (S1.1.ex.back hp)) (S1.1.new hp) ru
theorem me_blt (hc : CallR X (.builtin id) r) (o : CallS c.K f r) (hm : X.mg x = none) (hv : bootBuiltins x = some (.builtin id)) (ha : PA X (e :: es) (rdA c a)) (hg : Gl X x := by rfl) (hn : x ≠ "__name__" := by decide) (hdb : (x == ("__debug__" : Str)) = false := by decide)
    (he : starEach (e :: es) X.env = (false, eval e X.env) :: starEach es X.env := by rfl) (hpl : (backTo pos (starEach es X.env)).any (·.1) = false := by rfl) : PE X (.Call (.Name x p) (e :: es) [] pos) (rdE c (mBlt f a)) :=
  PEw (pe_callB hc hg hm hv ha hn hdb he hpl) fun _ _ _ h => rd_blt o h
theorem me_ty (hc : CallR X (.type T) r) (o : CallS c.K f r) (hm : X.mg x = none) (hv : bootBuiltins x = some (.type T)) (ha : PA X (e :: es) (rdA c a)) (hg : Gl X x := by rfl) (hn : x ≠ "__name__" := by decide) (hdb : (x == ("__debug__" : Str)) = false := by decide)
    (he : starEach (e :: es) X.env = (false, eval e X.env) :: starEach es X.env := by rfl) (hpl : (backTo pos (starEach es X.env)).any (·.1) = false := by rfl) : PE X (.Call (.Name x p) (e :: es) [] pos) (rdE c (mBlt f a)) :=
  PEw (pe_callTy hc hg hm hv ha hn hdb he hpl) fun _ _ _ h => rd_blt o h
theorem me_glob {v : MV} {w : V} {u : Value} (hm : X.mg x = some u) (rv : RelV w u) (r : ∀ H, RV c.K H v w) (hg : Gl X x := by rfl) (hd : (x == ("__debug__" : Str)) = false := by decide) : PE X (.Name x pos) (rdE c (mC v)) :=
  PEw (pe_glob hg hm rv hd) fun _ _ _ h => rd_c r h
theorem me_bltn {w : V} {u : Value} (hm : X.mg x = none) (hv : bootBuiltins x = some u) (rv : RelV w u) (hg : Gl X x := by rfl) (hn : x ≠ "__name__" := by decide) (hd : (x == ("__debug__" : Str)) = false := by decide) : PE X (.Name x pos) (rdE c (mC (.raw w))) :=
  PEw (pe_bltn hg hm hv rv hn hd) fun _ _ _ h => rd_c (fun _ => RV.raw.mpr rfl) h
end
section
variable {K : PySem.W.Frag}
theorem rvs1 {H : Hp} {x : MV} {vs : List V} (r : RVs K H [x] vs) : ∃ v, vs = [v] ∧ RV K H x v := by
  obtain ⟨v, r', rfl, q1, q2⟩ := RVs.cons.mp r
  rw [RVs.nil.mp q2]
  exact ⟨v, rfl, q1⟩
theorem rvs2' {H : Hp} {x y : MV} {vs : List V} (r : RVs K H [x, y] vs) : ∃ v w, vs = [v, w] ∧ RV K H x v ∧ RV K H y w := by
  obtain ⟨v, r', rfl, q1, q2⟩ := RVs.cons.mp r
  obtain ⟨w, rfl, q3⟩ := rvs1 q2
  exact ⟨v, w, rfl, q1, q3⟩
def bLen : List MV → Option MV
  | [.lst xs] => some (.int xs.length)
  | [.tup xs] => some (.int xs.length)
  | [.scr ns] => some (.int ns.length)
  | [.str z] => if szOk z.length then some (.int z.length) else none
  | _ => none
def rLenM (K : PySem.W.Frag) : List V → Hp → VK → Prop := fun xs H Q => (∃ p ys, xs = [.ref p] ∧ (SqL K H p ys ∨ SqT K H p ys) ∧ Q (.int ys.length) H) ∨ ∃ z, xs = [.str z] ∧ z.length ≤ sizeLine ∧ Q (.int z.length) H
theorem cr_lenM {X : Cx} : CallR X (.builtin "len") (rLenM X.K) := CallR.or call_len_seq call_len_str
theorem cs_len : CallS K bLen (rLenM K) := by
  intro xs z vs Hk H Q e ex r q qn
  unfold bLen at e
  split at e
  · cases e
    obtain ⟨v, rfl, rv⟩ := rvs1 r
    obtain ⟨p1, ws, rfl, h1, s1⟩ := RV.lst.mp rv
    exact .inl ⟨p1, ws, rfl, .inl (SqL.of (ex _ _ h1)), by rw [s1.length]; exact q _ (RV.int.mpr rfl)⟩
  · cases e
    obtain ⟨v, rfl, rv⟩ := rvs1 r
    obtain ⟨p1, ws, rfl, h1, s1⟩ := RV.tup.mp rv
    exact .inl ⟨p1, ws, rfl, .inr (ex_t ex h1), by rw [s1.length]; exact q _ (RV.int.mpr rfl)⟩
  · cases e
    obtain ⟨v, rfl, rv⟩ := rvs1 r
    obtain ⟨p1, rfl, h1⟩ := RV.scr.mp rv
    exact .inl ⟨p1, _, rfl, .inl (ex_l ex h1), by rw [List.length_map]; exact q _ (RV.int.mpr rfl)⟩
  · split at e
    · rename_i hz
      cases e
      obtain ⟨v, rfl, rv⟩ := rvs1 r
      exact .inr ⟨_, by rw [RV.str.mp rv], szOk_iff.mp hz, q _ (RV.int.mpr rfl)⟩
    · cases e
  · cases e
def bAbs : List MV → Option MV
  | [.int i] => some (.int (if i < 0 then -i else i))
  | _ => none
theorem cs_abs : CallS K bAbs (fun xs H Q => ∃ i, xs = [.int i] ∧ Q (.int (if i < 0 then -i else i)) H) := by
  intro xs z vs Hk H Q e ex r q qn
  unfold bAbs at e
  split at e
  · cases e
    exact ⟨_, rvs_int1 r, q _ (RV.int.mpr rfl)⟩
  · cases e
def bMax : List MV → Option MV
  | [.int i, .int j] => some (.int (if j > i then j else i))
  | _ => none
def bMin : List MV → Option MV
  | [.int i, .int j] => some (.int (if j < i then j else i))
  | _ => none
theorem cs_max : CallS K bMax (fun xs H Q => ∃ i j, xs = [.int i, .int j] ∧ Q (.int (if j > i then j else i)) H) := by
  intro xs z vs Hk H Q e ex r q qn
  unfold bMax at e
  split at e
  · cases e
    exact ⟨_, _, rvs_int2 r, q _ (RV.int.mpr rfl)⟩
  · cases e
theorem cs_min : CallS K bMin (fun xs H Q => ∃ i j, xs = [.int i, .int j] ∧ Q (.int (if j < i then j else i)) H) := by
  intro xs z vs Hk H Q e ex r q qn
  unfold bMin at e
  split at e
  · cases e
    exact ⟨_, _, rvs_int2 r, q _ (RV.int.mpr rfl)⟩
  · cases e
def bInt : List MV → Option MV
  | [.int i] => some (.int i)
  | [.bl k] => some (.int (if k then 1 else 0))
  | [.str s] => if decide (s.length ≤ 640) then (PySem.intText? s).map .int else none
  | _ => none
def rIntM : List V → Hp → VK → Prop := fun xs H Q => ((∃ i, xs = [.int i] ∧ Q (.int i) H) ∨ ∃ k, xs = [.bl k] ∧ Q (.int (if k then 1 else 0)) H) ∨ ∃ a n, xs = [.str a] ∧ PySem.intText? a = some n ∧ a.length ≤ 640 ∧ Q (.int n) H
theorem cr_intM {X : Cx} : CallR X (.type "int") rIntM := CallR.or call_int1 call_int_str
theorem cs_int : CallS K bInt rIntM := by
  intro xs z vs Hk H Q e ex r q qn
  unfold bInt at e
  split at e
  · cases e
    exact .inl (.inl ⟨_, rvs_int1 r, q _ (RV.int.mpr rfl)⟩)
  · cases e
    obtain ⟨v, rfl, rv⟩ := rvs1 r
    exact .inl (.inr ⟨_, by rw [RV.bl.mp rv], q _ (RV.int.mpr rfl)⟩)
  · split at e
    · rename_i s hs
      cases en : PySem.intText? s with
      | none => rw [en] at e; cases e
      | some n =>
        rw [en] at e
        cases e
        obtain ⟨v, rfl, rv⟩ := rvs1 r
        exact .inr ⟨s, n, by rw [RV.str.mp rv], en, of_decide_eq_true hs, q _ (RV.int.mpr rfl)⟩
    · cases e
  · cases e
def bStr : List MV → Option MV
  | [.int i] => if decide (i.natAbs.log2 < 1920) then some (.str (toString i)) else none
  | _ => none
theorem cs_str : CallS K bStr (fun xs H Q => ∃ i, xs = [.int i] ∧ i.natAbs.log2 < 1920 ∧ Q (.str (toString i)) H) := by
  intro xs z vs Hk H Q e ex r q qn
  unfold bStr at e
  split at e
  · split at e
    · rename_i h
      cases e
      exact ⟨_, rvs_int1 r, of_decide_eq_true h, q _ (RV.str.mpr rfl)⟩
    · cases e
  · cases e
def bTuple : List MV → Option MV
  | [.lst xs] => some (.tup xs)
  | [.tup xs] => some (.tup xs)
  | _ => none
theorem cs_tuple : CallS K bTuple (fun xs H Q => ∃ p ys, xs = [.ref p] ∧ ((SqL K H p ys ∧ ∀ l, H l = none → Q (.ref l) (upd H l (.tup ys))) ∨ (SqT K H p ys ∧ Q (.ref p) H))) := by
  intro xs z vs Hk H Q e ex r q qn
  unfold bTuple at e
  split at e
  · cases e
    obtain ⟨v, rfl, rv⟩ := rvs1 r
    obtain ⟨p1, ws, rfl, h1, s1⟩ := RV.lst.mp rv
    exact ⟨p1, ws, rfl, .inl ⟨SqL.of (ex _ _ h1), fun l hl => qn l _ hl (RV.tup.mpr ⟨l, ws, rfl, SqT.of upd_same, s1.mono (Ex.new (ex.back hl))⟩)⟩⟩
  · cases e
    obtain ⟨v, rfl, rv⟩ := rvs1 r
    obtain ⟨p1, ws, e1, h1, s1⟩ := RV.tup.mp rv
    subst e1
    exact ⟨p1, ws, rfl, .inr ⟨ex_t ex h1, q _ rv⟩⟩
  · cases e
def bList : List MV → Option MV
  | [.lst xs] => some (.lst xs)
  | [.tup xs] => some (.lst xs)
  | [.scr ns] => some (.lst (ns.map .int))
  | _ => none
def rListM (K : PySem.W.Frag) : List V → Hp → VK → Prop := fun xs H Q => ∃ p ys, xs = [.ref p] ∧ (SqL K H p ys ∨ SqT K H p ys) ∧ ∀ l, H l = none → Q (.ref l) (upd H l (.lst ys))
theorem list_src {Hk H : Hp} {xs : List MV} {ys : List MV} {vs : List V} (e : bList xs = some (.lst ys)) (ex : Ex Hk H) (r : RVs K Hk xs vs) : ∃ p ws, vs = [.ref p] ∧ (SqL K H p ws ∨ SqT K H p ws) ∧ RVs K Hk ys ws := by
  unfold bList at e
  split at e
  · cases e
    obtain ⟨v, rfl, rv⟩ := rvs1 r
    obtain ⟨p1, ws, rfl, h1, s1⟩ := RV.lst.mp rv
    exact ⟨p1, ws, rfl, .inl (SqL.of (ex _ _ h1)), s1⟩
  · cases e
    obtain ⟨v, rfl, rv⟩ := rvs1 r
    obtain ⟨p1, ws, rfl, h1, s1⟩ := RV.tup.mp rv
    exact ⟨p1, ws, rfl, .inr (ex_t ex h1), s1⟩
  · cases e
    obtain ⟨v, rfl, rv⟩ := rvs1 r
    obtain ⟨p1, rfl, h1⟩ := RV.scr.mp rv
    exact ⟨p1, _, rfl, .inl (ex_l ex h1), RVs.ints.mpr rfl⟩
  · cases e
theorem bList_lst {xs : List MV} {z : MV} (e : bList xs = some z) : ∃ ys, z = .lst ys := by
  unfold bList at e
  split at e <;> first | (cases e; exact ⟨_, rfl⟩) | cases e
theorem cs_list : CallS K bList (rListM K) := by
  intro xs z vs Hk H Q e ex r q qn
  obtain ⟨ys, rfl⟩ := bList_lst e
  obtain ⟨p, ws, rfl, h, s⟩ := list_src e ex r
  exact ⟨p, ws, rfl, h, fun l hl => qn l _ hl (RV.lst.mpr ⟨l, ws, rfl, upd_same, s.mono (Ex.new (ex.back hl))⟩)⟩
def blsOf : List MV → Option (List Bool)
  | [] => some []
  | .bl b :: r => (blsOf r).map (b :: ·)
  | _ => none
theorem bls_rv {H : Hp} : ∀ {xs : List MV} {bs : List Bool} {vs : List V}, blsOf xs = some bs → RVs K H xs vs → vs = bs.map V.bl
  | [], bs, vs, e, r => by cases e; rw [RVs.nil.mp r]; rfl
  | .bl b :: r', bs, vs, e, r => by
    unfold blsOf at e
    cases h : blsOf r' with
    | none => rw [h] at e; cases e
    | some cs =>
      rw [h] at e
      cases e
      obtain ⟨v, us, rfl, q1, q2⟩ := RVs.cons.mp r
      rw [RV.bl.mp q1, bls_rv h q2]; rfl
  | .non :: _, _, _, e, _ => by cases e
  | .int _ :: _, _, _, e, _ => by cases e
  | .str _ :: _, _, _, e, _ => by cases e
  | .tup _ :: _, _, _, e, _ => by cases e
  | .lst _ :: _, _, _, e, _ => by cases e
  | .own _ :: _, _, _, e, _ => by cases e
  | .raw _ :: _, _, _, e, _ => by cases e
  | .scr _ :: _, _, _, e, _ => by cases e
  | .fnc _ :: _, _, _, e, _ => by cases e
  | .obj _ _ :: _, _, _, e, _ => by cases e
def bAll : List MV → Option MV
  | [.lst xs] => (blsOf xs).map fun bs => .bl (bs.all id)
  | _ => none
def bAny : List MV → Option MV
  | [.lst xs] => (blsOf xs).map fun bs => .bl (bs.any id)
  | _ => none
theorem cs_all : CallS K bAll (rAll K) := by
  intro xs z vs Hk H Q e ex r q qn
  unfold bAll at e
  split at e
  · rename_i ys
    cases h : blsOf ys with
    | none => rw [h] at e; cases e
    | some bs =>
      rw [h] at e
      cases e
      obtain ⟨v, rfl, rv⟩ := rvs1 r
      obtain ⟨p1, ws, rfl, h1, s1⟩ := RV.lst.mp rv
      have ew := bls_rv h s1
      subst ew
      exact ⟨p1, bs, rfl, SqL.of (ex _ _ h1), q _ (RV.bl.mpr rfl)⟩
  · cases e
theorem cs_any : CallS K bAny (rAny K) := by
  intro xs z vs Hk H Q e ex r q qn
  unfold bAny at e
  split at e
  · rename_i ys
    cases h : blsOf ys with
    | none => rw [h] at e; cases e
    | some bs =>
      rw [h] at e
      cases e
      obtain ⟨v, rfl, rv⟩ := rvs1 r
      obtain ⟨p1, ws, rfl, h1, s1⟩ := RV.lst.mp rv
      have ew := bls_rv h s1
      subst ew
      exact ⟨p1, bs, rfl, SqL.of (ex _ _ h1), q _ (RV.bl.mpr rfl)⟩
  · cases e
inductive Kd where
  | non | bl | int | str | tup | lst
  deriving DecidableEq
def Kd.name : Kd → String
  | .non => "NoneType" | .bl => "bool" | .int => "int" | .str => "str" | .tup => "tuple" | .lst => "list"
def MV.kd : MV → Option Kd
  | .non => some .non | .bl _ => some .bl | .int _ => some .int | .str _ => some .str | .tup _ => some .tup | .lst _ => some .lst
  | _ => none
def kdOf : String → Option Kd
  | "bool" => some .bl | "int" => some .int | "str" => some .str | "tuple" => some .tup | "list" => some .lst
  | _ => none
def Kd.isa (a b : Kd) : Bool := decide (a = b) || (decide (a = .bl) && decide (b = .int))
theorem kit_kd (a b : Kd) (h : b ≠ .non) : kitB a.name b.name = some (a.isa b) := by
  cases a <;> cases b <;> first | exact (h rfl).elim | decide +kernel
def bIsi : List MV → Option MV
  | [x, .raw (.ty T)] => match x.kd, kdOf T with
    | some a, some b => some (.bl (a.isa b))
    | _, _ => none
  | _ => none
theorem kdOf_name {T : String} {b : Kd} (h : kdOf T = some b) : T = b.name ∧ b ≠ .non := by
  unfold kdOf at h
  split at h <;> first | (cases h; exact ⟨rfl, by decide⟩) | cases h
theorem ty_of {Hk H : Hp} {x : MV} {v : V} {a : Kd} (ex : Ex Hk H) (r : RV K Hk x v) (h : x.kd = some a) : TyX K H v (.type a.name) := by
  cases x with
  | non => cases h; rw [RV.non.mp r]; exact .base .non
  | bl b => cases h; rw [RV.bl.mp r]; exact .base (.bl b)
  | int b => cases h; rw [RV.int.mp r]; exact .base (.int b)
  | str b => cases h; rw [RV.str.mp r]; exact .base (.str b)
  | tup xs =>
    cases h
    obtain ⟨p, vs, rfl, h1, _⟩ := RV.tup.mp r
    rcases ex_t ex h1 with (h1 | ⟨o, h1⟩) | ⟨o, its, n, h1, h2, _⟩
    · exact .base (.tup h1)
    · exact .fTuple h1
    · exact .kTuple h1 h2
  | lst xs =>
    cases h
    obtain ⟨p, vs, rfl, h1, _⟩ := RV.lst.mp r
    exact .base (.lst (ex _ _ h1))
  | _ => cases h
theorem cs_isi : CallS K bIsi (rIsi K) := by
  intro xs z vs Hk H Q e ex r q qn
  unfold bIsi at e
  split at e
  · rename_i x T
    split at e
    · rename_i a b e1 e2
      cases e
      obtain ⟨v, w, rfl, r1, r2⟩ := rvs2' r
      obtain ⟨et, nb⟩ := kdOf_name e2
      refine ⟨v, w, _, .type T, _, rfl, ?_, ty_of ex r1 e1, ?_, q _ (RV.bl.mpr rfl)⟩
      · rw [RV.raw.mp r2]; exact .ty T
      · subst et; exact kit_ty (kit_kd a b nb)
    · cases e
  · cases e
def bDivmod : List MV → Option MV
  | [.int i, .int j] => if decide (0 < j) && decide (j < 1073741824) then some (.tup [.int (i / j), .int (i % j)]) else none
  | _ => none
theorem cs_divmod : CallS K bDivmod (fun xs H Q => ∃ i j, xs = [.int i, .int j] ∧ CDiv i j ∧ ∀ p, H p = none → Q (.ref p) (upd H p (.tup [.int (i / j), .int (i % j)]))) := by
  intro xs z vs Hk H Q e ex r q qn
  unfold bDivmod at e
  split at e
  · split at e
    · rename_i h
      cases e
      simp only [Bool.and_eq_true, decide_eq_true_eq] at h
      exact ⟨_, _, rvs_int2 r, h, fun p hp => qn p _ hp (RV.tup.mpr ⟨p, _, rfl, SqT.of upd_same, rvs2 (RV.int.mpr rfl) (RV.int.mpr rfl)⟩)⟩
    · cases e
  · cases e
def intsOf : List MV → Option (List Int)
  | [] => some []
  | .int b :: r => (intsOf r).map (b :: ·)
  | _ => none
theorem ints_rv {H : Hp} : ∀ {xs : List MV} {bs : List Int} {vs : List V}, intsOf xs = some bs → RVs K H xs vs → vs = bs.map V.int
  | [], bs, vs, e, r => by cases e; rw [RVs.nil.mp r]; rfl
  | .int b :: r', bs, vs, e, r => by
    unfold intsOf at e
    cases h : intsOf r' with
    | none => rw [h] at e; cases e
    | some cs =>
      rw [h] at e
      cases e
      obtain ⟨v, us, rfl, q1, q2⟩ := RVs.cons.mp r
      rw [RV.int.mp q1, ints_rv h q2]; rfl
  | .non :: _, _, _, e, _ => by cases e
  | .bl _ :: _, _, _, e, _ => by cases e
  | .str _ :: _, _, _, e, _ => by cases e
  | .tup _ :: _, _, _, e, _ => by cases e
  | .lst _ :: _, _, _, e, _ => by cases e
  | .own _ :: _, _, _, e, _ => by cases e
  | .raw _ :: _, _, _, e, _ => by cases e
  | .scr _ :: _, _, _, e, _ => by cases e
  | .fnc _ :: _, _, _, e, _ => by cases e
  | .obj _ _ :: _, _, _, e, _ => by cases e
def bSum : List MV → Option MV
  | [.lst xs] => (intsOf xs).map fun bs => .int bs.sum
  | _ => none
theorem cs_sum : CallS K bSum (rSum K) := by
  intro xs z vs Hk H Q e ex r q qn
  unfold bSum at e
  split at e
  · rename_i ys
    cases h : intsOf ys with
    | none => rw [h] at e; cases e
    | some bs =>
      rw [h] at e
      cases e
      obtain ⟨v, rfl, rv⟩ := rvs1 r
      obtain ⟨p1, ws, rfl, h1, s1⟩ := RV.lst.mp rv
      have ew := ints_rv h s1
      subst ew
      exact ⟨p1, bs, rfl, SqL.of (ex _ _ h1), q _ (RV.int.mpr rfl)⟩
  · cases e
end
section
variable {X : Cx} {c : Ct} {p pos : Pos} {e e2 : Expr} {es : List Expr} {a : MA}
theorem mb_len (hm : X.mg "len" = none) (ha : PA X [e] (rdA c a)) (hK : c.K = X.K := by rfl) (hg : Gl X "len" := by rfl) (he : starEach [e] X.env = (false, eval e X.env) :: starEach [] X.env := by rfl) (hpl : (backTo pos (starEach [] X.env)).any (·.1) = false := by rfl) : PE X (.Call (.Name "len" p) [e] [] pos) (rdE c (mBlt bLen a)) :=
  me_blt cr_lenM (by rw [← hK]; exact cs_len) hm PySem.boot_len ha hg (he := he) (hpl := hpl)
theorem mb_abs (hm : X.mg "abs" = none) (ha : PA X [e] (rdA c a)) (hg : Gl X "abs" := by rfl) (he : starEach [e] X.env = (false, eval e X.env) :: starEach [] X.env := by rfl) (hpl : (backTo pos (starEach [] X.env)).any (·.1) = false := by rfl) : PE X (.Call (.Name "abs" p) [e] [] pos) (rdE c (mBlt bAbs a)) :=
  me_blt call_abs cs_abs hm (by decide +kernel) ha hg (he := he) (hpl := hpl)
theorem mb_max (hc : X.calm = true) (hm : X.mg "max" = none) (ha : PA X [e, e2] (rdA c a)) (hg : Gl X "max" := by rfl) (he : starEach [e, e2] X.env = (false, eval e X.env) :: starEach [e2] X.env := by rfl) (hpl : (backTo pos (starEach [e2] X.env)).any (·.1) = false := by rfl) : PE X (.Call (.Name "max" p) [e, e2] [] pos) (rdE c (mBlt bMax a)) :=
  me_blt (call_max2 hc) cs_max hm (by decide +kernel) ha hg (he := he) (hpl := hpl)
theorem mb_min (hc : X.calm = true) (hm : X.mg "min" = none) (ha : PA X [e, e2] (rdA c a)) (hg : Gl X "min" := by rfl) (he : starEach [e, e2] X.env = (false, eval e X.env) :: starEach [e2] X.env := by rfl) (hpl : (backTo pos (starEach [e2] X.env)).any (·.1) = false := by rfl) : PE X (.Call (.Name "min" p) [e, e2] [] pos) (rdE c (mBlt bMin a)) :=
  me_blt (call_min2 hc) cs_min hm (by decide +kernel) ha hg (he := he) (hpl := hpl)
theorem mb_int (hm : X.mg "int" = none) (ha : PA X [e] (rdA c a)) (hg : Gl X "int" := by rfl) (he : starEach [e] X.env = (false, eval e X.env) :: starEach [] X.env := by rfl) (hpl : (backTo pos (starEach [] X.env)).any (·.1) = false := by rfl) : PE X (.Call (.Name "int" p) [e] [] pos) (rdE c (mBlt bInt a)) :=
  me_ty cr_intM cs_int hm (by decide +kernel) ha hg (he := he) (hpl := hpl)
theorem mb_str (hm : X.mg "str" = none) (ha : PA X [e] (rdA c a)) (hg : Gl X "str" := by rfl) (he : starEach [e] X.env = (false, eval e X.env) :: starEach [] X.env := by rfl) (hpl : (backTo pos (starEach [] X.env)).any (·.1) = false := by rfl) : PE X (.Call (.Name "str" p) [e] [] pos) (rdE c (mBlt bStr a)) :=
  me_ty call_str_int cs_str hm (by decide +kernel) ha hg (he := he) (hpl := hpl)
theorem mb_tuple (hm : X.mg "tuple" = none) (ha : PA X [e] (rdA c a)) (hK : c.K = X.K := by rfl) (hg : Gl X "tuple" := by rfl) (he : starEach [e] X.env = (false, eval e X.env) :: starEach [] X.env := by rfl) (hpl : (backTo pos (starEach [] X.env)).any (·.1) = false := by rfl) : PE X (.Call (.Name "tuple" p) [e] [] pos) (rdE c (mBlt bTuple a)) :=
  me_ty call_tuple_of (by rw [← hK]; exact cs_tuple) hm (by decide +kernel) ha hg (he := he) (hpl := hpl)
theorem mb_list (hm : X.mg "list" = none) (ha : PA X [e] (rdA c a)) (hK : c.K = X.K := by rfl) (hg : Gl X "list" := by rfl) (he : starEach [e] X.env = (false, eval e X.env) :: starEach [] X.env := by rfl) (hpl : (backTo pos (starEach [] X.env)).any (·.1) = false := by rfl) : PE X (.Call (.Name "list" p) [e] [] pos) (rdE c (mBlt bList a)) :=
  me_ty (r := rListM X.K) call_list_of (by rw [← hK]; exact cs_list) hm (by decide +kernel) ha hg (he := he) (hpl := hpl)
def mListO (a : MA) : ME := fun ρ => (a ρ).bind fun xs ρ1 => match bList xs with | some (.lst ys) => .ok (.own ys, ρ1) | _ => .stuck
theorem mbo_list (hm : X.mg "list" = none) (ha : PA X [e] (rdA c a)) (hK : c.K = X.K := by rfl) (hg : Gl X "list" := by rfl) (he : starEach [e] X.env = (false, eval e X.env) :: starEach [] X.env := by rfl) (hpl : (backTo pos (starEach [] X.env)).any (·.1) = false := by rfl) : PE X (.Call (.Name "list" p) [e] [] pos) (rdO c (mListO a)) :=
  PEw (pe_callTy (r := rListM X.K) call_list_of hg hm (by decide +kernel) ha (he := he) (hpl := hpl)) fun σ H Q h => by
    obtain ⟨F, Hk, bp, ρ, S, h⟩ := h
    refine rdAw (bA postO S h) fun vs H1 ⟨Hk1, xs, ρ1, x1, S1, r1, h1⟩ => ?_
    split at h1
    · rename_i ys ey
      obtain ⟨q, ws, rfl, g, s⟩ := list_src ey S1.1.ex r1
      exact ⟨q, ws, rfl, by rw [← hK]; exact g, fun l hl => h1 _ _ _ (Ex.refl _) (S1.1.pushOwn hl s)⟩
    · exact h1.elim
theorem mb_all (hc : X.calm = true) (hm : X.mg "all" = none) (ha : PA X [e] (rdA c a)) (hK : c.K = X.K := by rfl) (hg : Gl X "all" := by rfl) (he : starEach [e] X.env = (false, eval e X.env) :: starEach [] X.env := by rfl) (hpl : (backTo pos (starEach [] X.env)).any (·.1) = false := by rfl) : PE X (.Call (.Name "all" p) [e] [] pos) (rdE c (mBlt bAll a)) :=
  me_blt (cr_all hc) (by rw [← hK]; exact cs_all) hm (by decide +kernel) ha hg (he := he) (hpl := hpl)
theorem mb_any (hc : X.calm = true) (hm : X.mg "any" = none) (ha : PA X [e] (rdA c a)) (hK : c.K = X.K := by rfl) (hg : Gl X "any" := by rfl) (he : starEach [e] X.env = (false, eval e X.env) :: starEach [] X.env := by rfl) (hpl : (backTo pos (starEach [] X.env)).any (·.1) = false := by rfl) : PE X (.Call (.Name "any" p) [e] [] pos) (rdE c (mBlt bAny a)) :=
  me_blt (cr_any hc) (by rw [← hK]; exact cs_any) hm (by decide +kernel) ha hg (he := he) (hpl := hpl)
theorem mb_isi (hm : X.mg "isinstance" = none) (ha : PA X [e, e2] (rdA c a)) (hK : c.K = X.K := by rfl) (hg : Gl X "isinstance" := by rfl) (he : starEach [e, e2] X.env = (false, eval e X.env) :: starEach [e2] X.env := by rfl) (hpl : (backTo pos (starEach [e2] X.env)).any (·.1) = false := by rfl) : PE X (.Call (.Name "isinstance" p) [e, e2] [] pos) (rdE c (mBlt bIsi a)) :=
  me_blt call_isi (by rw [← hK]; exact cs_isi) hm (by decide +kernel) ha hg (he := he) (hpl := hpl)
theorem mb_divmod (hm : X.mg "divmod" = none) (ha : PA X [e, e2] (rdA c a)) (hg : Gl X "divmod" := by rfl) (he : starEach [e, e2] X.env = (false, eval e X.env) :: starEach [e2] X.env := by rfl) (hpl : (backTo pos (starEach [e2] X.env)).any (·.1) = false := by rfl) : PE X (.Call (.Name "divmod" p) [e, e2] [] pos) (rdE c (mBlt bDivmod a)) :=
  me_blt call_divmod cs_divmod hm (by decide +kernel) ha hg (he := he) (hpl := hpl)
theorem mb_sum (hc : X.calm = true) (hm : X.mg "sum" = none) (ha : PA X [e] (rdA c a)) (hK : c.K = X.K := by rfl) (hg : Gl X "sum" := by rfl) (he : starEach [e] X.env = (false, eval e X.env) :: starEach [] X.env := by rfl) (hpl : (backTo pos (starEach [] X.env)).any (·.1) = false := by rfl) : PE X (.Call (.Name "sum" p) [e] [] pos) (rdE c (mBlt bSum a)) :=
  me_blt (cr_sum hc) (by rw [← hK]; exact cs_sum) hm (by decide +kernel) ha hg (he := he) (hpl := hpl)
end
end Tm

set_option Elab.async false
set_option linter.all false
set_option maxRecDepth 100000
set_option maxHeartbeats 2000000
namespace Tm
open PySem L2
open Evl (Ex ex_rd ex_l ex_t)
section
variable {X : Cx} {c : Ct} {p pos apos cpos : Pos} {e e2 : Expr} {es : List Expr} {a b : ME} {m : MA} {x : Str} {i : Nat}
/-! ### an owned list's methods -/
def isOwn (ρ : Env) (i : Nat) : Bool := match ρ[i]? with | some (some (.own _)) => true | _ => false
theorem own_rs {F Hk H : Hp} {bp : List (Nat × Addr)} {σ : St} {ρ : Env} {i : Nat} (S : At c F Hk H bp σ ρ) (h : isOwn ρ i = true) : ∃ q vs, σ[i]? = some (some (.ref q)) ∧ H q = some (.lst vs) := by
  unfold isOwn at h
  split at h
  · rename_i xs e
    obtain ⟨q, vs, e1, e2, _⟩ := S.1.getOwn e
    exact ⟨q, vs, e1, e2⟩
  · cases h
theorem change_rs {F Hk H : Hp} {bp : List (Nat × Addr)} {σ : St} {ρ : Env} {i : Nat} {xs ys : List MV} {q : Addr} (S : At c F Hk H bp σ ρ) (h : ρ[i]? = some (some (.own xs))) (eq : σ[i]? = some (some (.ref q))) :
    ∃ vs, H q = some (.lst vs) ∧ RVs c.K Hk xs vs ∧ ∀ ws, RVs c.K Hk ys ws → RS c.K F Hk (upd H q (.lst ws)) bp σ (ρ.set i (some (.own ys))) := by
  obtain ⟨p, vs, e1, e2, e3, e4⟩ := S.1.change (ys := ys) h
  rw [eq] at e1
  cases e1
  exact ⟨vs, e2, e3, e4⟩
def mLm (f : List MV → List MV → Option (List MV × MV)) (i : Nat) (a : MA) : ME := fun ρ => if isOwn ρ i then (a ρ).bind fun ys ρ1 => match ρ1[i]? with
  | some (some (.own xs)) => (match f xs ys with | some (zs, z) => .ok (z, ρ1.set i (some (.own zs))) | none => .stuck)
  | _ => .stuck else .stuck
def LmS (K : PySem.W.Frag) (f : List MV → List MV → Option (List MV × MV)) (r : V → List V → Hp → VK → Prop) : Prop := ∀ (xs ys zs : List MV) (z : MV) (q : Addr) (vs us : List V) (Hk H : Hp) (Q : VK), f xs ys = some (zs, z) → Ex Hk H → H q = some (.lst vs) → RVs K Hk xs vs → RVs K Hk ys us →
  (∀ ws u, RVs K Hk zs ws → RV K Hk z u → Q u (upd H q (.lst ws))) → r (.ref q) us H Q
theorem rd_lm {f : List MV → List MV → Option (List MV × MV)} {r : V → List V → Hp → VK → Prop} (o : LmS c.K f r) {σ : St} {H : Hp} {Q : VK} (h : rdE c (mLm f i m) σ H Q) : tBM c.K "list" r (tVar i) (rdA c m) σ H Q := by
  obtain ⟨F, Hk, bp, ρ, S, h⟩ := h
  unfold mLm at h
  split at h
  · rename_i ho
    obtain ⟨q, vs0, eq, hq⟩ := own_rs S ho
    refine ⟨_, eq, .inl ⟨rfl, _, SqL.of hq⟩, ?_⟩
    refine rdAw (bA postE S h) fun us H1 ⟨Hk1, ys, ρ1, x1, S1, r1, h1⟩ => ?_
    split at h1
    · rename_i xs ex
      split at h1
      · rename_i zs z ef
        obtain ⟨vs, g1, g2, g3⟩ := change_rs (ys := zs) S1 ex eq
        exact o xs ys zs z q vs us Hk1 H1 Q ef S1.1.ex g1 g2 r1 fun ws u r2 r3 => h1 _ _ u (Ex.refl _) (g3 ws r2) r3
      · exact h1.elim
    · exact h1.elim
  · exact h.elim
def lmAppend : List MV → List MV → Option (List MV × MV)
  | xs, [y] => if decide (xs.length < sizeLine) then some (xs ++ [y], .non) else none
  | _, _ => none
theorem ls_append {K : PySem.W.Frag} : LmS K lmAppend rAppend := by
  intro xs ys zs z q vs us Hk H Q e ex hq r1 r2 k
  unfold lmAppend at e
  split at e
  · split at e
    · rename_i h
      cases e
      obtain ⟨v, rfl, rv⟩ := rvs1 r2
      refine ⟨q, vs, v, rfl, rfl, hq, by rw [r1.length]; exact of_decide_eq_true h, k _ _ (r1.append ?_) (RV.non.mpr rfl)⟩
      exact RVs.cons.mpr ⟨v, [], rfl, rv, RVs.nil.mpr rfl⟩
    · cases e
  · cases e
def lmExtend : List MV → List MV → Option (List MV × MV)
  | xs, [.lst ys] => if szOk (xs.length + ys.length) then some (xs ++ ys, .non) else none
  | _, _ => none
theorem ls_extend {K : PySem.W.Frag} : LmS K lmExtend rExtend := by
  intro xs ys zs z q vs us Hk H Q e ex hq r1 r2 k
  unfold lmExtend at e
  split at e
  · split at e
    · rename_i h
      cases e
      obtain ⟨v, rfl, rv⟩ := rvs1 r2
      obtain ⟨p1, ws, rfl, h1, s1⟩ := RV.lst.mp rv
      exact ⟨q, p1, vs, ws, rfl, rfl, hq, ex _ _ h1, by rw [r1.length, s1.length]; exact szOk_iff.mp h, k _ _ (r1.append s1) (RV.non.mpr rfl)⟩
    · cases e
  · cases e
theorem RVs.dropLast {K : PySem.W.Frag} {H : Hp} {xs : List MV} {vs : List V} (r : RVs K H xs vs) : RVs K H xs.dropLast vs.dropLast := by
  rw [List.dropLast_eq_take, List.dropLast_eq_take, r.length]
  exact r.take _
def lmPop : List MV → List MV → Option (List MV × MV)
  | xs, [] => match xs[xs.length - 1]? with | some y => some (xs.dropLast, y) | none => none
  | _, _ => none
theorem me_lm1 {f : List MV → List MV → Option (List MV × MV)} {r : V → List V → Hp → VK → Prop} {id : String} {name : Str} (o : LmS c.K f r) (slot : Slot "list" name id) (hty : typeOf (.builtin id) = pure (.type "method_descriptor")) (hm : MtR X id r) (hN : X.N[i]? = some x) (hv : Vis X.env.scope x) (ha : PA X (e :: es) (rdA c m)) (hK : c.K = X.K := by rfl)
    (hbase : attributeBase (.Name x p) name X.env (eval (.Name x p) X.env) = eval (.Name x p) X.env := by rfl)
    (hfew : ((backTo cpos (starEach (e :: es) X.env)).all (fun x => !x.1) && (backToKw cpos (keywordEach [] X.env)).all (fun x => x.1.isSome)
      && decide ((e :: es).length + ([] : List Keyword).length + (if ([] : List Keyword).isEmpty then 0 else 1) < 30)) = true := by rfl)
    (hline : (apos.endLine == cpos.line) = true := by rfl) (hs : starEach (e :: es) X.env = (false, eval e X.env) :: starEach es X.env := by rfl) (hplain : (backTo cpos (starEach es X.env)).any (·.1) = false := by rfl)
    (hd : (x == ("__debug__" : Str)) = false := by decide) (hcd : (x == ("__classdict__" : Str)) = false := by decide) : PE X (.Call (.Attribute (.Name x p) name apos) (e :: es) [] cpos) (rdE c (mLm f i m)) :=
  PEw (pe_bm PySem.F.plainAttrs_list slot hty hm (pe_var hN hv hd hcd) ha hbase hfew hline hs hplain) fun σ H Q h => by
    have := rd_lm o h
    rw [hK] at this
    exact this
/-! ### x[k] = e, an owned list's place -/
def mSetIx (i : Nat) (a b : ME) : MS := fun ρ => (a ρ).bind fun z ρ1 => if has ρ1 i then (b ρ1).bind fun y ρ2 => match ρ2[i]?, y with
  | some (some (.own xs)), .int k => (match ixN xs.length k with | some j => .ok (.nx, ρ2.set i (some (.own (xs.set j z)))) | none => .stuck)
  | _, _ => .stuck else .stuck
theorem rd_setIx {D : Ends} {σ : St} {H : Hp} (h : rdS c (mSetIx i a b) D σ H) : tAsg (rdE c a) (gSub (tVar i) (rdE c b) rSetL) D σ H := by
  obtain ⟨F, Hk, bp, ρ, S, h⟩ := h
  refine rdw (bE (postS (σ := σ)) S h) fun v H1 ⟨Hk1, z, ρ1, x1, S1, r1, h1⟩ => ?_
  split at h1
  · rename_i hh
    obtain ⟨w, ew⟩ := has_rs S1 hh
    refine ⟨w, ew, ?_⟩
    refine rdw (bE (postS (σ := σ)) S1 h1) fun y' H2 ⟨Hk2, y, ρ2, x2, S2, r2, h2⟩ => ?_
    split at h2
    · rename_i xs k hx
      split at h2
      · rename_i j ej
        obtain ⟨q, vs, e1, _⟩ := S2.1.getOwn hx
        rw [ew] at e1
        cases e1
        obtain ⟨vs, g1, g2, g3⟩ := change_rs (ys := xs.set j z) S2 hx ew
        exact ⟨q, vs, k, j, rfl, RV.int.mp r2, g1, by rw [g2.length]; exact ej, h2 _ _ _ (Ex.refl _) (g3 _ (g2.set j (RV.mono x2 _ _ r1)))⟩
      · exact h2.elim
    · exact h2.elim
  · exact h1.elim
theorem ms_setIx {ee : Expr} (hN : X.N[i]? = some x) (hv : Vis X.env.scope x) (he : PE X e (rdE c a)) (hb : PE X ee (rdE c b)) (hs : swapsWithSole [.Subscript (.Name x p) ee apos] e pos.line X.env = pure false := by rfl) (hw : swappedStores [.Subscript (.Name x p) ee apos] e X.env = pure none := by rfl)
    (h1 : (assignEach [.Subscript (.Name x p) ee apos] X.env).map (·.2) = [assign (.Subscript (.Name x p) ee apos) X.env] := by rfl)
    (ha : ∀ v, assign (.Subscript (.Name x p) ee apos) X.env v = (do
      let ov ← holding [v] (eval (.Name x p) X.env)
      let iv ← holding [v, ov] (eval ee X.env)
      standAt apos
      holding [v, ov, iv] (setItem ov iv v)
      release [v, ov, iv] []) := by intro _; rfl)
    (hd : (x == ("__debug__" : Str)) = false := by decide) (hcd : (x == ("__classdict__" : Str)) = false := by decide) : PS X (.Assign [.Subscript (.Name x p) ee apos] e pos) (rdS c (mSetIx i a b)) :=
  PSw (ps_asg he (pg_sub (pe_var hN hv hd hcd) hb set_list ha) hs hw h1) fun _ _ _ h => rd_setIx h
end
end Tm

set_option Elab.async false
set_option linter.all false
set_option maxRecDepth 100000
set_option maxHeartbeats 2000000
namespace Tm
open PySem L2
open Evl (Ex ex_rd ex_l ex_t)
/-! ### comprehensions: one clause -/
inductive Tgt where
  | nm (i : Nat) | tp (is : List Nat)
def gsOf : List Nat → TGs
  | [] => gNil
  | i :: is => gCons (gName i) (gsOf is)
def gOf (K : PySem.W.Frag) : Tgt → TG
  | .nm i => gName i
  | .tp is => gTup K is.length (gsOf is)
def setAll : List Nat → List MV → Env → Option Env
  | [], [], ρ => some ρ
  | i :: is, x :: xs, ρ => if i < ρ.length then setAll is xs (ρ.set i (some x)) else none
  | _, _, _ => none
def setT (t : Tgt) (x : MV) (ρ : Env) : Option Env := match t with
  | .nm i => if i < ρ.length then some (ρ.set i (some x)) else none
  | .tp is => match x with
    | .tup xs => if xs.length = is.length then setAll is xs ρ else none
    | _ => none
def Tgt.slots : Tgt → List Nat
  | .nm i => [i]
  | .tp is => is
theorem wipe_get (σ : St) : ∀ (vs : List Nat) (j : Nat), (wipe σ vs)[j]? = if j ∈ vs ∧ j < σ.length then some none else σ[j]?
  | [], j => by simp [wipe]
  | v :: vs, j => by
    unfold wipe
    by_cases e : v = j
    · subst e
      by_cases hl : v < σ.length
      · rw [List.getElem?_set_self (by rw [wipe_length]; exact hl), if_pos ⟨by simp, hl⟩]
      · rw [if_neg (by intro h; exact hl h.2), List.getElem?_eq_none (by rw [List.length_set, wipe_length]; omega), List.getElem?_eq_none (by omega)]
    · rw [List.getElem?_set_ne e, wipe_get σ vs j]
      by_cases hm : j ∈ vs ∧ j < σ.length
      · rw [if_pos hm, if_pos ⟨List.mem_cons_of_mem _ hm.1, hm.2⟩]
      · rw [if_neg hm, if_neg (fun h => hm ⟨(List.mem_cons.mp h.1).resolve_left (Ne.symm e), h.2⟩)]
theorem wipe_set {σ : St} {vs : List Nat} {i : Nat} {y : Option V} (h : i ∈ vs) : wipe (σ.set i y) vs = wipe σ vs := by
  refine List.ext_getElem? fun j => ?_
  rw [wipe_get, wipe_get, List.length_set]
  by_cases hm : j ∈ vs ∧ j < σ.length
  · rw [if_pos hm, if_pos hm]
  · rw [if_neg hm, if_neg hm]
    by_cases e : i = j
    · subst e
      have : σ.length ≤ i := Nat.le_of_not_lt fun z => hm ⟨h, z⟩
      rw [List.getElem?_eq_none (by simpa using this), List.getElem?_eq_none this]
    · rw [List.getElem?_set_ne e]
theorem wipe_wipe (σ : St) (vs : List Nat) : wipe (wipe σ vs) vs = wipe σ vs := by
  refine List.ext_getElem? fun j => ?_
  rw [wipe_get, wipe_length, wipe_get]
  by_cases hm : j ∈ vs ∧ j < σ.length
  · rw [if_pos hm, if_pos hm]
  · rw [if_neg hm]
def wipeM (ρ : Env) : List Nat → Env
  | [] => ρ
  | v :: vs => (wipeM ρ vs).set v none
theorem wipeM_len (ρ : Env) : ∀ vs : List Nat, (wipeM ρ vs).length = ρ.length
  | [] => rfl
  | v :: vs => by unfold wipeM; rw [List.length_set, wipeM_len ρ vs]
theorem wipeM_get (σ : Env) : ∀ (vs : List Nat) (j : Nat), (wipeM σ vs)[j]? = if j ∈ vs ∧ j < σ.length then some none else σ[j]?
  | [], j => by simp [wipeM]
  | v :: vs, j => by
    unfold wipeM
    by_cases e : v = j
    · subst e
      by_cases hl : v < σ.length
      · rw [List.getElem?_set_self (by rw [wipeM_len]; exact hl), if_pos ⟨by simp, hl⟩]
      · rw [if_neg (by intro h; exact hl h.2), List.getElem?_eq_none (by rw [List.length_set, wipeM_len]; omega), List.getElem?_eq_none (by omega)]
    · rw [List.getElem?_set_ne e, wipeM_get σ vs j]
      by_cases hm : j ∈ vs ∧ j < σ.length
      · rw [if_pos hm, if_pos ⟨List.mem_cons_of_mem _ hm.1, hm.2⟩]
      · rw [if_neg hm, if_neg (fun h => hm ⟨(List.mem_cons.mp h.1).resolve_left (Ne.symm e), h.2⟩)]
def perAt (ρ : Env) (vs : List Nat) : Bool := vs.all fun i => match ρ[i]? with
  | some (some x) => x.per
  | _ => true
def backM (ρ ρ' : Env) (vs : List Nat) : Env := vs.foldl (fun r i => r.set i ((ρ[i]?).join)) ρ'
section
variable {K : PySem.W.Frag} {F Hk H : Hp} {bp : List (Nat × Addr)} {σ : St} {ρ : Env}
theorem SL.setNone {ow : Nat → List Addr} (S : SL K F Hk H ow σ ρ) {i : Nat} : SL K F Hk H (put ow i []) (σ.set i none) (ρ.set i none) := by
  refine ⟨fun j y h => ?_, fun j a h => ?_, fun j h => ?_, fun j k a hjk h => ?_⟩
  · rcases set_get h with ⟨_, e⟩ | ⟨ne, e⟩
    · cases e
    · obtain ⟨u, e1, e2⟩ := S.s j y e
      exact ⟨u, by rw [List.getElem?_set_ne (Ne.symm ne)]; exact e1, by rw [put_ne ne]; exact e2⟩
  · by_cases e : j = i
    · rw [e, put_same] at h; cases h
    · rw [put_ne e] at h; exact S.f j a h
  · by_cases e : j = i
    · rw [e, put_same] at h; exact (h rfl).elim
    · rw [put_ne e] at h; rw [List.length_set]; exact S.w j h
  · by_cases e : j = i
    · rw [e, put_same] at h; cases h
    · rw [put_ne e] at h
      by_cases e2 : k = i
      · rw [e2, put_same]; simp
      · rw [put_ne e2]; exact S.d j k a hjk h
theorem RS.setNone (S : RS K F Hk H bp σ ρ) {i : Nat} (hb : ∀ q ∈ bp, q.1 ≠ i) : RS K F Hk H bp (σ.set i none) (ρ.set i none) := by
  obtain ⟨ow, s⟩ := S.ow
  exact ⟨by simp [S.len], S.ex, S.fr, S.frk, ⟨_, s.setNone⟩, fun q hq => by rw [List.getElem?_set_ne (Ne.symm (hb q hq))]; exact S.bor q hq⟩
theorem RS.wipe (S : RS K F Hk H bp σ ρ) : ∀ vs : List Nat, (∀ q ∈ bp, q.1 ∉ vs) → RS K F Hk H bp (L2.wipe σ vs) (wipeM ρ vs)
  | [], _ => S
  | v :: vs, hb => (RS.wipe S vs fun q hq z => hb q hq (List.mem_cons_of_mem _ z)).setNone fun q hq z => hb q hq (by rw [z]; simp)
theorem RS.back (S : RS K F Hk H bp (L2.wipe σ vs) (wipeM ρ' vs)) (S0 : ∀ i ∈ vs, ∀ x, ρ[i]? = some (some x) → ∃ v, σ[i]? = some (some v) ∧ RV K Hk x v) (hl : ρ.length = ρ'.length) (hl2 : σ.length = ρ.length) (hb : ∀ q ∈ bp, q.1 ∉ vs) : RS K F Hk H bp σ (backM ρ ρ' vs) := by
  have gb : ∀ (vs : List Nat) (r : Env) (j : Nat), r.length = ρ.length → (vs.foldl (fun r i => r.set i ((ρ[i]?).join)) r)[j]? = if j ∈ vs ∧ j < ρ.length then some ((ρ[j]?).join) else r[j]? := fun vs => by
    induction vs with
    | nil => intro r j _; simp
    | cons v vs ih =>
      intro r j hr
      rw [List.foldl_cons, ih _ j (by rw [List.length_set]; exact hr)]
      by_cases hm : j ∈ vs ∧ j < ρ.length
      · rw [if_pos hm, if_pos ⟨List.mem_cons_of_mem _ hm.1, hm.2⟩]
      · rw [if_neg hm]
        by_cases e : v = j
        · subst e
          by_cases hl : v < ρ.length
          · rw [List.getElem?_set_self (by rw [hr]; exact hl), if_pos ⟨by simp, hl⟩]
          · rw [if_neg (by intro h; exact hl h.2), List.getElem?_eq_none (by rw [List.length_set, hr]; omega), List.getElem?_eq_none (by omega)]
        · rw [List.getElem?_set_ne e, if_neg (fun h => hm ⟨(List.mem_cons.mp h.1).resolve_left (Ne.symm e), h.2⟩)]
  have gl : ∀ (vs : List Nat) (r : Env), (vs.foldl (fun r i => r.set i ((ρ[i]?).join)) r).length = r.length := fun vs => by
    induction vs with
    | nil => intro r; rfl
    | cons v vs ih => intro r; rw [List.foldl_cons, ih, List.length_set]
  obtain ⟨ow, s⟩ := S.ow
  have lb : (backM ρ ρ' vs).length = ρ.length := by unfold backM; rw [gl, ← hl]
  refine ⟨by rw [lb, hl2], S.ex, S.fr, S.frk, ⟨fun j => if j ∈ vs then [] else ow j, fun j y h => ?_, fun j a h => ?_, fun j h => ?_, fun j k a hjk h => ?_⟩, fun q hq => ?_⟩
  · unfold backM at h
    rw [gb vs ρ' j hl.symm] at h
    by_cases hm : j ∈ vs ∧ j < ρ.length
    · rw [if_pos hm] at h
      have e : ρ[j]? = some (some y) := by
        cases er : ρ[j]? with
        | none => rw [er] at h; cases h
        | some o => rw [er] at h; cases o with
          | none => cases h
          | some z => cases h; rfl
      obtain ⟨v, e1, r⟩ := S0 j hm.1 y e
      exact ⟨v, e1, by rw [if_pos hm.1]; exact r.ov⟩
    · rw [if_neg hm] at h
      have nj : j ∉ vs := fun z => hm ⟨z, by rw [hl]; exact lt_get h⟩
      obtain ⟨v, e1, o⟩ := s.s j y (by rw [wipeM_get, if_neg (fun z => nj z.1)]; exact h)
      rw [wipe_get, if_neg (fun z => nj z.1)] at e1
      exact ⟨v, e1, by rw [if_neg nj]; exact o⟩
  · by_cases e : j ∈ vs
    · rw [if_pos e] at h; cases h
    · rw [if_neg e] at h; exact s.f j a h
  · by_cases e : j ∈ vs
    · rw [if_pos e] at h; exact (h rfl).elim
    · rw [if_neg e] at h; have := s.w j h; rw [wipeM_len] at this; rw [lb, hl]; exact this
  · by_cases e : j ∈ vs
    · rw [if_pos e] at h; cases h
    · rw [if_neg e] at h
      by_cases e2 : k ∈ vs
      · rw [if_pos e2]; simp
      · rw [if_neg e2]; exact s.d j k a hjk h
  · have := S.bor q hq
    rw [wipe_get, if_neg (fun z => hb q hq z.1)] at this
    exact this
end
section
variable {X : Cx} {c : Ct}
theorem gs_rd {F Hk H : Hp} {bp : List (Nat × Addr)} {vs0 : List Nat} (hb : ∀ q ∈ bp, q.1 ∉ vs0) : ∀ (is : List Nat) (xs : List MV) (ws : List V) (σ : St) (ρ ρ' : Env) (Q : St → Hp → Prop), (∀ i ∈ is, i ∈ vs0) → RS c.K F Hk H bp σ ρ → RVs c.K Hk xs ws → setAll is xs ρ = some ρ' →
    (∀ σ', RS c.K F Hk H bp σ' ρ' → wipe σ' vs0 = wipe σ vs0 → Q σ' H) → gsOf is ws σ H Q
  | [], [], ws, σ, ρ, ρ', Q, _, S, r, e, k => by
    cases e
    exact ⟨RVs.nil.mp r, k σ S rfl⟩
  | [], x :: xs, ws, σ, ρ, ρ', Q, _, S, r, e, k => by cases e
  | i :: is, [], ws, σ, ρ, ρ', Q, _, S, r, e, k => by cases e
  | i :: is, x :: xs, ws, σ, ρ, ρ', Q, hi, S, r, e, k => by
    obtain ⟨v, us, rfl, r1, r2⟩ := RVs.cons.mp r
    unfold setAll at e
    split at e
    · rename_i hl
      have hm := hi i (by simp)
      refine ⟨v, us, rfl, ?_⟩
      refine gs_rd hb is xs us _ _ ρ' Q (fun j hj => hi j (List.mem_cons_of_mem _ hj)) (S.set hl r1 fun q hq z => hb q hq (z ▸ hm)) r2 e fun σ' S' w => k σ' S' (by rw [w, wipe_set hm])
    · cases e
theorem g_rd {F Hk H : Hp} {bp : List (Nat × Addr)} {vs0 : List Nat} (hb : ∀ q ∈ bp, q.1 ∉ vs0) {t : Tgt} {x : MV} {v : V} {σ : St} {ρ ρ' : Env} {Q : St → Hp → Prop} (hi : ∀ i ∈ t.slots, i ∈ vs0) (S : RS c.K F Hk H bp σ ρ) (r : RV c.K Hk x v) (e : setT t x ρ = some ρ')
    (k : ∀ σ', RS c.K F Hk H bp σ' ρ' → wipe σ' vs0 = wipe σ vs0 → Q σ' H) : gOf c.K t v σ H Q := by
  cases t with
  | nm i =>
    have e : (if i < ρ.length then some (ρ.set i (some x)) else none) = some ρ' := e
    split at e
    · rename_i hl
      cases e
      have hm := hi i (by simp [Tgt.slots])
      exact k _ (S.set hl r fun q hq z => hb q hq (z ▸ hm)) (wipe_set hm)
    · cases e
  | tp is =>
    cases x with
    | tup xs =>
      have e : (if xs.length = is.length then setAll is xs ρ else none) = some ρ' := e
      split at e
      · rename_i hl
        obtain ⟨a, ws, rfl, h1, s1⟩ := RV.tup.mp r
        exact ⟨a, ws, rfl, ex_t S.ex h1, by rw [s1.length, hl], gs_rd hb is xs ws σ ρ ρ' Q hi S s1 e k⟩
      · cases e
    | _ => cases e
def Res.b0 {α β : Type} (r : Res (α × Env)) (f : α → Env → Res (β × Env)) : Res (β × Env) :=
  match r with
  | .ok (x, ρ) => f x ρ
  | _ => .stuck
def mLcLoop (g : Tgt) (t : MT) (e : ME) (vs : List Nat) : List MV → List MV → Env → Res (List MV × Env)
  | [], acc, ρ => .ok (acc, ρ)
  | x :: xs, acc, ρ => match setT g x (wipeM ρ vs) with
    | none => .stuck
    | some ρ1 => (t ρ1).b0 fun b ρ2 => if b then (e ρ2).b0 fun y ρ3 => (if acc.length < sizeLine ∧ ρ3.length = ρ.length then mLcLoop g t e vs xs (acc ++ [y]) ρ3 else .stuck) else if ρ2.length = ρ.length then mLcLoop g t e vs xs acc ρ2 else .stuck
def mYes : MT := fun ρ => .ok (true, ρ)
def mLcO (it : MI) (g : Tgt) (t : MT) (e : ME) (vs : List Nat) : ME := fun ρ => (it ρ).bind fun xs ρ1 => if perAt ρ1 vs then (mLcLoop g t e vs xs [] ρ1).b0 fun ys ρ2 => .ok (.own ys, backM ρ1 ρ2 vs) else .stuck
theorem b0E {F Hk H : Hp} {bp : List (Nat × Addr)} {σ : St} {ρ : Env} {β : Type} {P : Hp → Res (β × Env) → Prop} (st : ∀ Hk, ¬ P Hk .stuck) (mo : ∀ Hk Hk' r, Ex Hk Hk' → P Hk r → P Hk' r) {a : ME} {k : MV → Env → Res (β × Env)} (S : At c F Hk H bp σ ρ) (h : P Hk ((a ρ).b0 k)) :
    rdE c a σ H fun v H1 => ∃ Hk1 x ρ1, Ex Hk Hk1 ∧ At c F Hk1 H1 bp σ ρ1 ∧ RV c.K Hk1 x v ∧ P Hk1 (k x ρ1) := by
  refine ⟨F, Hk, bp, ρ, S, ?_⟩
  cases e : a ρ with
  | stuck => rw [e] at h; exact st _ h
  | exc x ρ' => rw [e] at h; exact (st _ h).elim
  | ok q =>
    rw [e] at h
    exact fun Hk1 H1 v x1 S1 r1 => ⟨Hk1, q.1, q.2, x1, ⟨S1, S.2⟩, r1, mo _ _ _ x1 h⟩
theorem b0T {F Hk H : Hp} {bp : List (Nat × Addr)} {σ : St} {ρ : Env} {β : Type} {P : Hp → Res (β × Env) → Prop} (st : ∀ Hk, ¬ P Hk .stuck) (mo : ∀ Hk Hk' r, Ex Hk Hk' → P Hk r → P Hk' r) {a : MT} {k : Bool → Env → Res (β × Env)} (S : At c F Hk H bp σ ρ) (h : P Hk ((a ρ).b0 k)) :
    rdT c a σ H fun b H1 => ∃ Hk1 ρ1, Ex Hk Hk1 ∧ At c F Hk1 H1 bp σ ρ1 ∧ P Hk1 (k b ρ1) := by
  refine ⟨F, Hk, bp, ρ, S, ?_⟩
  cases e : a ρ with
  | stuck => rw [e] at h; exact st _ h
  | exc x ρ' => rw [e] at h; exact (st _ h).elim
  | ok q =>
    rw [e] at h
    exact fun Hk1 H1 x1 S1 => ⟨Hk1, q.2, x1, ⟨S1, S.2⟩, mo _ _ _ x1 h⟩
def okB (c : Ct) (F Hk : Hp) (bp : List (Nat × Addr)) (σ : St) (Q : VK) (ρ0 : Env) (vs : List Nat) : Res (List MV × Env) → Prop
  | .ok (ys, ρ') => okO c F Hk bp σ Q (.ok (.own ys, backM ρ0 ρ' vs))
  | _ => False
theorem okB.mono {F Hk Hk' : Hp} {bp : List (Nat × Addr)} {σ : St} {Q : VK} {ρ0 : Env} {vs : List Nat} {r : Res (List MV × Env)} (x : Ex Hk Hk') (h : okB c F Hk bp σ Q ρ0 vs r) : okB c F Hk' bp σ Q ρ0 vs r := by
  cases r with
  | ok a => exact okO.mono (r := .ok (.own a.1, backM ρ0 a.2 vs)) x h
  | exc e ρ => exact h
  | stuck => exact h
theorem RS.inFr {K : PySem.W.Frag} {F Hk H : Hp} {bp : List (Nat × Addr)} {σ : St} {ρ : Env} {D : Addr} {xs : List V} (S : RS K F Hk H bp σ ρ) (h : H D = none) : RS K (upd F D (.lst xs)) Hk (upd H D (.lst xs)) bp σ ρ := by
  have S' := S.more (o := .lst xs) h
  obtain ⟨ow, s⟩ := S.ow
  refine ⟨S.len, S'.ex, S.fr.both h, fun a o ha => ?_, ⟨ow, fun i x hx => ?_, fun i a ha => ?_, s.w, s.d⟩, S.bor⟩
  · by_cases e : a = D
    · rw [e]; exact S.ex.back h
    · rw [upd_ne e] at ha; exact S.frk a o ha
  · obtain ⟨v, ev, o⟩ := s.s i x hx
    exact ⟨v, ev, o.move (Ex.refl _) fun a ha u hu => by rw [upd_ne (ne_of_none hu h)]; exact hu⟩
  · obtain ⟨g1, g2, o, g3⟩ := s.f i a ha
    have ne := ne_of_none g3 h
    exact ⟨g1, by rw [upd_ne ne]; exact g2, o, by rw [upd_ne ne]; exact g3⟩
theorem RS.grow {K : PySem.W.Frag} {F Hk H : Hp} {bp : List (Nat × Addr)} {σ : St} {ρ : Env} {D : Addr} {xs ys : List V} (S : RS K (upd F D (.lst xs)) Hk H bp σ ρ) : RS K (upd F D (.lst ys)) Hk (upd H D (.lst ys)) bp σ ρ := by
  have hk : Hk D = none := S.frk D _ upd_same
  obtain ⟨ow, s⟩ := S.ow
  have nd : ∀ i a, a ∈ ow i → a ≠ D := fun i a ha e => by
    have := (s.f i a ha).2.1
    rw [e, upd_same] at this
    cases this
  refine ⟨S.len, S.ex.mut hk, fun a o ha => ?_, fun a o ha => ?_, ⟨ow, fun i x hx => ?_, fun i a ha => ?_, s.w, s.d⟩, S.bor⟩
  · by_cases e : a = D
    · subst e; rw [upd_same] at ha ⊢; exact ha
    · rw [upd_ne e] at ha ⊢; exact S.fr a o (by rw [upd_ne e]; exact ha)
  · by_cases e : a = D
    · rw [e]; exact hk
    · rw [upd_ne e] at ha; exact S.frk a o (by rw [upd_ne e]; exact ha)
  · obtain ⟨v, ev, o⟩ := s.s i x hx
    exact ⟨v, ev, o.move (Ex.refl _) fun a ha u hu => by rw [upd_ne (nd i a ha)]; exact hu⟩
  · obtain ⟨g1, g2, o, g3⟩ := s.f i a ha
    exact ⟨g1, by have := nd i a ha; rw [upd_ne this] at g2 ⊢; exact g2, o, by rw [upd_ne (nd i a ha)]; exact g3⟩
theorem RS.outFr {K : PySem.W.Frag} {F Hk H : Hp} {bp : List (Nat × Addr)} {σ : St} {ρ : Env} {D : Addr} {vs : List V} {xs : List MV} (S : RS K (upd F D (.lst vs)) Hk H bp σ ρ) (hF : F D = none) (r : RVs K Hk xs vs) : RS K F Hk H bp (σ ++ [some (.ref D)]) (ρ ++ [some (.own xs)]) := by
  have hk : Hk D = none := S.frk D _ upd_same
  have hH : H D = some (.lst vs) := S.fr D _ upd_same
  have up : ∀ a o, F a = some o → upd F D (.lst vs) a = some o := fun a o ha => by rw [upd_ne (ne_of_none ha hF)]; exact ha
  obtain ⟨ow, s⟩ := S.ow
  have nd : ∀ i a, a ∈ ow i → a ≠ D := fun i a ha e => by
    have := (s.f i a ha).2.1
    rw [e, upd_same] at this
    cases this
  have s' : SL K F Hk H ow σ ρ := ⟨s.s, fun i a ha => by
    obtain ⟨g1, g2, g3⟩ := s.f i a ha
    exact ⟨g1, by rw [upd_ne (nd i a ha)] at g2; exact g2, g3⟩, s.w, s.d⟩
  refine ⟨by simp [S.len], S.ex, fun a o ha => S.fr a o (up a o ha), fun a o ha => S.frk a o (up a o ha), ⟨_, s'.push S.len (A := [D]) (OV.own.mpr ⟨D, vs, rfl, rfl, hH, r⟩) (fun a ha => ?_) (fun i a ha hi => ?_)⟩, S.bor_app _⟩
  · simp at ha; subst ha; exact ⟨hk, hF⟩
  · simp at ha; subst ha; exact nd i a hi rfl
theorem rd_lc {it : MI} {g : Tgt} {t : MT} {e : ME} {vs : List Nat} {σ : St} {H : Hp} {Q : VK} (hg : ∀ i ∈ g.slots, i ∈ vs) (hbs : ∀ i ∈ vs, c.bs.contains i = false) (h : rdO c (mLcO it g t e vs) σ H Q) : tLc (rdI c it) (gOf c.K g) (rdT c t) (rdE c e) vs σ H Q := by
  obtain ⟨F, Hk, bp, ρ, S, h⟩ := h
  have hb : ∀ q ∈ bp, q.1 ∉ vs := fun q hq z => nb S.2.1 (hbs _ z) q hq rfl
  refine ⟨F, Hk, bp, ρ, S, ?_⟩
  have h : okO c F Hk bp σ Q ((it ρ).bind fun xs ρ1 => if perAt ρ1 vs then (mLcLoop g t e vs xs [] ρ1).b0 fun ys ρ2 => .ok (.own ys, backM ρ1 ρ2 vs) else .stuck) := h
  cases ei : it ρ with
  | stuck => rw [ei] at h; exact h
  | exc x ρ' => rw [ei] at h; exact h
  | ok p =>
    obtain ⟨xs, ρ1⟩ := p
    rw [ei] at h
    intro Hk1 H1 J x1 S1 wk D hD
    have h : okO c F Hk1 bp σ Q (if perAt ρ1 vs then (mLcLoop g t e vs xs [] ρ1).b0 fun ys ρ2 => .ok (.own ys, backM ρ1 ρ2 vs) else .stuck) := okO.mono x1 h
    split at h
    · rename_i hper
      have h : okB c F Hk1 bp σ Q ρ1 vs (mLcLoop g t e vs xs [] ρ1) := by
        cases e2 : mLcLoop g t e vs xs [] ρ1 with
        | ok q => rw [e2] at h; exact h
        | exc x r => rw [e2] at h; exact h
        | stuck => rw [e2] at h; exact h
      have fD : F D = none := by
        cases e : F D with
        | none => rfl
        | some o => have := S1.fr D o e; rw [hD] at this; cases this
      have p0 : ∀ i ∈ vs, ∀ x, ρ1[i]? = some (some x) → ∃ v, σ[i]? = some (some v) ∧ RV c.K Hk1 x v := fun i hi x hx => by
        have z := List.all_eq_true.mp hper i hi
        rw [hx] at z
        exact S1.get hx z
      refine ⟨fun i m H' => m = xs.length - i ∧ i ≤ xs.length ∧ ∃ Hk' ρ' acc ws, Ex Hk1 Hk' ∧ RS c.K (upd F D (.lst ws)) Hk' H' bp (wipe σ vs) (wipeM ρ' vs) ∧ RVs c.K Hk' acc ws ∧ ρ'.length = ρ1.length ∧ okB c F Hk' bp σ Q ρ1 vs (mLcLoop g t e vs (xs.drop i) acc ρ'),
        ⟨xs.length, by simp, Nat.zero_le _, Hk1, ρ1, [], [], Ex.refl _, (S1.wipe vs hb).inFr hD, RVs.nil.mpr rfl, rfl, h⟩, ?_⟩
      rintro i m H' ⟨rfl, hi, Hk', ρ', acc, ws, x', S', ra, hl, h'⟩
      by_cases hlt : i < xs.length
      · refine .inr ⟨wk.go i H' (x'.trans S'.ex) hlt, fun H2 => ∃ Hk2 ρ2 acc2 ws2, Ex Hk1 Hk2 ∧ RS c.K (upd F D (.lst ws2)) Hk2 H2 bp (wipe σ vs) (wipeM ρ2 vs) ∧ RVs c.K Hk2 acc2 ws2 ∧ ρ2.length = ρ1.length ∧ okB c F Hk2 bp σ Q ρ1 vs (mLcLoop g t e vs (xs.drop (i + 1)) acc2 ρ2),
          fun H2 z => ⟨xs.length - (i + 1), by omega, rfl, hlt, z⟩, fun x H2 y => ?_⟩
        obtain ⟨z, ez, hz⟩ := wk.yld i H' x H2 (x'.trans S'.ex) hlt y
        have ed : xs.drop i = z :: xs.drop (i + 1) := by
          rw [List.drop_eq_getElem_cons hlt]
          rw [List.getElem?_eq_getElem hlt] at ez
          cases ez; rfl
        rw [ed] at h'
        have st : ∀ Hk, ¬ okB c F Hk bp σ Q ρ1 vs .stuck := fun _ f => f
        have mo : ∀ Hk Hk' r, Ex Hk Hk' → okB c F Hk bp σ Q ρ1 vs r → okB c F Hk' bp σ Q ρ1 vs r := fun _ _ _ x h => okB.mono x h
        have fin : ∀ Hk3, Ex Hk' Hk3 → RS c.K (upd F D (.lst ws)) Hk3 H2 bp (wipe σ vs) (wipeM ρ' vs) → RV c.K Hk3 z x →
            gOf c.K g x (wipe σ vs) H2 fun σ2 H2 => wipe σ2 vs = wipe σ vs ∧ rdT c t σ2 H2 fun b H3 => if b = true then rdE c e σ2 H3 fun y H4 => ∃ acc, H4 D = some (.lst acc) ∧ acc.length < sizeLine ∧
              (∃ Hk2 ρ2 acc2 ws2, Ex Hk1 Hk2 ∧ RS c.K (upd F D (.lst ws2)) Hk2 (upd H4 D (.lst (acc ++ [y]))) bp (wipe σ vs) (wipeM ρ2 vs) ∧ RVs c.K Hk2 acc2 ws2 ∧ ρ2.length = ρ1.length ∧ okB c F Hk2 bp σ Q ρ1 vs (mLcLoop g t e vs (xs.drop (i + 1)) acc2 ρ2)) else
              ∃ Hk2 ρ2 acc2 ws2, Ex Hk1 Hk2 ∧ RS c.K (upd F D (.lst ws2)) Hk2 H3 bp (wipe σ vs) (wipeM ρ2 vs) ∧ RVs c.K Hk2 acc2 ws2 ∧ ρ2.length = ρ1.length ∧ okB c F Hk2 bp σ Q ρ1 vs (mLcLoop g t e vs (xs.drop (i + 1)) acc2 ρ2) := fun Hk3 x3 S3 r3 => by
          have h' := okB.mono x3 h'
          unfold mLcLoop at h'
          cases eg : setT g z (wipeM ρ' vs) with
          | none => rw [eg] at h'; exact h'.elim
          | some ρ3 =>
            rw [eg] at h'
            refine g_rd hb hg S3 r3 eg fun σ2 S4 w2 => ⟨by rw [w2, wipe_wipe], ?_⟩
            have w2' : wipe σ2 vs = wipe σ vs := by rw [w2, wipe_wipe]
            refine rdTw (b0T st mo ⟨S4, S.2.1, c.Jm _ _ _ (Ex.new fD) S.2.2⟩ h') fun b H3 ⟨Hk4, ρ4, x4, S5, h5⟩ => ?_
            cases b with
            | true =>
              rw [if_pos rfl] at h5 ⊢
              refine rdw (b0E st mo S5 h5) fun y H4 ⟨Hk5, yy, ρ5, x5, S6, r6, h6⟩ => ?_
              split at h6
              · rename_i hz
                have ra' := ra.mono (x3.trans (x4.trans x5))
                refine ⟨ws, S6.1.fr D _ upd_same, by rw [ra'.length]; exact hz.1, Hk5, ρ5, acc ++ [yy], ws ++ [y], x'.trans (x3.trans (x4.trans x5)), ?_, ra'.append (RVs.cons.mpr ⟨y, [], rfl, r6, RVs.nil.mpr rfl⟩), by rw [hz.2, hl], h6⟩
                have := (S6.1.wipe vs hb)
                rw [w2'] at this
                exact this.grow
              · exact h6.elim
            | false =>
              rw [if_neg (by decide)] at h5 ⊢
              split at h5
              · rename_i hz
                refine ⟨Hk4, ρ4, acc, ws, x'.trans (x3.trans x4), ?_, ra.mono (x3.trans x4), by rw [hz, hl], h5⟩
                have := (S5.1.wipe vs hb)
                rw [w2'] at this
                exact this
              · exact h5.elim
        rcases hz with ⟨rfl, r⟩ | ⟨p, us, ys, hp, rfl, rfl, rfl, r⟩
        · exact fin Hk' (Ex.refl _) S' (RV.mono x' _ _ r)
        · have xn := Ex.new (o := .tup us) (S'.ex.back hp)
          exact fin _ xn (S'.new hp) (RV.tup.mpr ⟨p, us, rfl, SqT.of upd_same, r.mono (x'.trans xn)⟩)
      · have e : i = xs.length := by omega
        subst e
        rw [List.drop_length] at h'
        refine .inl ⟨wk.stop H' (x'.trans S'.ex), ?_⟩
        have out := S'.outFr fD ra
        have bk : RS c.K (upd F D (.lst ws)) Hk' H' bp σ (backM ρ1 ρ' vs) := RS.back S' (fun i hi x hx => by
          obtain ⟨v, ev, rv⟩ := p0 i hi x hx
          exact ⟨v, ev, RV.mono x' _ _ rv⟩) hl.symm S1.len hb
        exact h' _ _ _ (Ex.refl _) (bk.outFr fD ra)
    · exact h.elim
end
end Tm

set_option Elab.async false
set_option linter.all false
set_option maxRecDepth 100000
set_option maxHeartbeats 2000000
namespace Tm
open PySem L2
open Evl (Ex ex_rd ex_l ex_t)
section
variable {X : Cx} {c : Ct} {elt tg iter : Expr} {ifs : List Expr} {scope : Scope} {own : List (Str × Nat)} {pos : Pos} {it : MI} {g : Tgt} {t : MT} {e : ME}
theorem mts_nil : PTs X [] (rdT c mYes) := ⟨fun pins s σ H Q I ⟨F, Hk, bp, ρ, S, h⟩ => pts_nil.run pins s σ H Q I (h _ _ (Ex.refl _) S.1)⟩
theorem mts_one {a : Expr} (h : PT X a (rdT c t)) : PTs X [a] (rdT c t) := pts_one h
theorem PTsw {e : List Expr} {t t' : TT} (h : PTs X e t) (w : ∀ σ H Q, t' σ H Q → t σ H Q) : PTs X e t' := ⟨fun pins s σ H Q I q => h.run pins s σ H Q I (w σ H Q q)⟩
theorem mo_lc (hc : X.calm = true) (hN : X.N.Nodup) (hi : PI X tg iter (rdI c it)) (ok : BlkOk X.N X.env.scope scope own) (hg : ∀ (s : Shared) (H : Hp) (C : Addr) (cl : List (Str × Addr)) (fp : List Addr), PG (X.blk s H scope (compEnvC scope cl C X.env) fp) tg (gOf X.K g))
    (ht : ∀ (s : Shared) (H : Hp) (C : Addr) (cl : List (Str × Addr)) (fp : List Addr), PTs (X.blk s H scope (compEnvC scope cl C X.env) fp) ifs (rdT c t)) (he : ∀ (s : Shared) (H : Hp) (C : Addr) (cl : List (Str × Addr)) (fp : List Addr), PE (X.blk s H scope (compEnvC scope cl C X.env) fp) elt (rdE c e))
    (hgs : ∀ i ∈ g.slots, i ∈ own.map (·.2) := by decide) (hbs : ∀ i ∈ own.map (·.2), c.bs.contains i = false := by decide) (hK : c.K = X.K := by rfl) (hs : ∀ x, foldedSetIterable iter X.env x = pure x := by intro _; rfl) :
    PE X (.ListComp elt [⟨tg, iter, ifs, 0⟩] scope pos) (rdO c (mLcO it g t e (own.map (·.2)))) := PEw (pe_lc hc hN hi ok hg ht he hs) fun σ H Q h => by rw [← hK]; exact rd_lc hgs hbs h
theorem ms_setLc {i : Nat} {y : Str} {py spos : Pos} (hc : X.calm = true) (hN : X.N.Nodup) (hy : X.N[i]? = some y) (hyl : X.env.scope.names.lookup y = some .local) (hsw : swapsWith (.ListComp elt [⟨tg, iter, ifs, 0⟩] scope pos) (some (.Name y py)) spos.line X.env = pure true)
    (hi : PI X tg iter (rdI c it)) (ok : BlkOk X.N X.env.scope scope own) (hg : ∀ (s : Shared) (H : Hp) (C : Addr) (cl : List (Str × Addr)) (fp : List Addr), PG (X.blk s H scope (compEnvC scope cl C X.env) fp) tg (gOf X.K g))
    (ht : ∀ (s : Shared) (H : Hp) (C : Addr) (cl : List (Str × Addr)) (fp : List Addr), PTs (X.blk s H scope (compEnvC scope cl C X.env) fp) ifs (rdT c t)) (he : ∀ (s : Shared) (H : Hp) (C : Addr) (cl : List (Str × Addr)) (fp : List Addr), PE (X.blk s H scope (compEnvC scope cl C X.env) fp) elt (rdE c e))
    (hb : c.bs.contains i = false := by rfl) (hgs : ∀ i ∈ g.slots, i ∈ own.map (·.2) := by decide) (hbs : ∀ i ∈ own.map (·.2), c.bs.contains i = false := by decide) (hK : c.K = X.K := by rfl) (hs : ∀ x, foldedSetIterable iter X.env x = pure x := by intro _; rfl) :
    PS X (.Assign [.Name y py] (.ListComp elt [⟨tg, iter, ifs, 0⟩] scope pos) spos) (rdS c (mSetO i (mLcO it g t e (own.map (·.2))))) := PSw (ps_setLc hc hN hy hyl hsw hi ok hg ht he hs) fun D σ H h => by
    obtain ⟨F, Hk, bp, ρ, S, h⟩ := rd_setO hb h
    rw [← hK]
    exact rd_lc hgs hbs ⟨F, Hk, bp, ρ, S, h⟩
end
/-! ### the law's own end -/
theorem only_rs {K : PySem.W.Frag} {H : Hp} {a : Addr} {ns : List Int} (h : SqL K H a (ns.map V.int)) : RS K (fun _ => none) H H [] ([V.ref a].map some) ([MV.scr ns].map some) :=
  RS.args (Ex.refl _) (fun _ _ z => nomatch z) (fun _ _ z => nomatch z) (RVs.cons.mpr ⟨_, [], rfl, RV.scr.mpr ⟨a, rfl, h⟩, RVs.nil.mpr rfl⟩)
theorem walk_law {l : PySem.W.OpenLaw} {k : Nat} {q : Program} {loose : List Str} {XP : (Str → Option Value) → Heap → Prop} {YP : World → Heap → Prop} {d : DefRec} {K : Params → PySem.W.Frag} {x : Str} {f : MF}
    (hn : l.most = some 63) (hdf : d.params.defaults = []) (hr : Room k callerA) (hY : ∀ (w : World) (h : Heap), YP w h → (K w.params).In h)
    (hf : ∀ ns : List Int, ns.length ≤ 63 → ∃ bs, f [.scr ns] = .ok (.bl true, bs))
    (F : ∀ (w : World) (mg : Str → Option Value) (fa : Addr) (h : Heap), (K w.params).In h → h.Ns mainGlobals mg → mg d.name = some (.ref fa) →
      ∃ fd : FuncData, (∀ (s : Shared) (u : Value), BindsTo s fd ⟨[u], []⟩ [(x, u)]) ∧
        ∀ base : Heap, (K w.params).In base → base.Ns mainGlobals mg → FnOk l.prog w (K w.params) mg base (L2.CX l.prog w) k fa fd [x] (spF (K w.params) mg 1 [] f)) :
    PySem.W.WalkO q loose XP YP l.row.toRowW d [] (fun f vs => PySem.call f vs) := by
  refine L2.walk_of (x := x) (K := K) (CX := fun w => L2.CX l.prog w) (sp := fun w vs H Q E => ∃ (a : Addr) (ns : List Int), vs = [.ref a] ∧ ns.length ≤ 63 ∧ SqL (K w.params) H a (ns.map V.int) ∧ ∀ H', Q (.bl true) H') hn (by rw [sizeLine_eq]; decide) hdf hr hY (fun w mg fa h KX G hmg => ?_) (fun w H a ns hl _ hS => ⟨a, ns, rfl, hl, hS, fun _ => rfl⟩) ?_
  · obtain ⟨fd, hb, hF⟩ := F w mg fa h KX G hmg
    refine ⟨fd, hb, fun base h1 h2 => (hF base h1 h2).imp ?_⟩
    rintro vs H Q E ⟨a, ns, rfl, hl, hS, q⟩
    obtain ⟨bs, e⟩ := hf ns hl
    refine ⟨rfl, fun _ => none, H, [], [.scr ns], only_rs hS, rfl, ?_⟩
    rw [e]
    intro Hk' H' w x S'
    have bl : bs.length = 0 := by have := S'.len; simpa using this.symm
    have be : bs = [] := List.eq_nil_of_length_eq_zero bl
    subst be
    obtain ⟨v, ev, rv⟩ := S'.get (i := 0) (x := .bl true) rfl rfl
    cases ev
    rw [RV.bl.mp rv]
    exact q _
  · rintro w H s e s' ⟨_, _, _, _, _, _, _, _, _, _, _, _, f⟩
    exact f

/-! ### a def of the text, in one hypothesis -/
structure Fd (P : Program) (w : World) (K : PySem.W.Frag) (mg : Str → Option Value) (base : Heap) (x : Str) (k : Nat) (ps : List Str) (bs : List Nat) (f : MF) : Prop where
  ex : ∃ (a : Addr) (fd : FuncData), FnOk P w K mg base (L2.CX P w) k a fd ps (spF K mg ps.length bs f) ∧ mg x = some (.ref a) ∧ PySem.W.keepIn K (.ref a) = true ∧ Binds K fd ps []
structure Bn (mg : Str → Option Value) : Prop where
  len : mg "len" = none
  range : mg "range" = none
  abs : mg "abs" = none
  max : mg "max" = none
  min : mg "min" = none
  int : mg "int" = none
  str : mg "str" = none
  tuple : mg "tuple" = none
  list : mg "list" = none
  all : mg "all" = none
  any : mg "any" = none
  isinstance : mg "isinstance" = none
  divmod : mg "divmod" = none
  sum : mg "sum" = none
  zip : mg "zip" = none
  enumerate : mg "enumerate" = none
  reversed : mg "reversed" = none
  sorted : mg "sorted" = none
  dict : mg "dict" = none
  set : mg "set" = none
  bool : mg "bool" = none
section
variable {X : Cx} {c : Ct} {k : Nat} {ps : List Str} {x : Str} {p pos : Pos} {e : Expr} {es : List Expr} {f : MF} {a : MA} {j : Nat}
theorem mf_call (G : Fd X.prog X.w X.K X.mg X.base x k ps [] f) (hr : Room j X.A) (hj : k ≤ j) (tk : Takes X c.W) (ha : PA X (e :: es) (rdA c a)) (hn : Lng a ps.length) (hg : Gl X x := by rfl) (hK : c.K = X.K := by rfl) (hM : c.mg = X.mg := by rfl) (hdb : (x == ("__debug__" : Str)) = false := by decide)
    (he : starEach (e :: es) X.env = (false, eval e X.env) :: starEach es X.env := by rfl) (hpl : (backTo pos (starEach es X.env)).any (·.1) = false := by rfl) : PE X (.Call (.Name x p) (e :: es) [] pos) (rdO c (mCall f a)) := by
  obtain ⟨fa, fd, F, hm, hk, hb⟩ := G.ex
  exact mo_call F (hr.mono hj) hm hk hb tk ha hn hg hK hM hdb he hpl
theorem mf_call0 (G : Fd X.prog X.w X.K X.mg X.base x k ps [] f) (hr : Room j X.A) (hj : k ≤ j) (ha : PA X (e :: es) (rdA c a)) (hn : Lng a ps.length) (hg : Gl X x := by rfl) (hK : c.K = X.K := by rfl) (hM : c.mg = X.mg := by rfl) (hdb : (x == ("__debug__" : Str)) = false := by decide)
    (he : starEach (e :: es) X.env = (false, eval e X.env) :: starEach es X.env := by rfl) (hpl : (backTo pos (starEach es X.env)).any (·.1) = false := by rfl) : PE X (.Call (.Name x p) (e :: es) [] pos) (rdO c (mCall0 f a)) := by
  obtain ⟨fa, fd, F, hm, hk, hb⟩ := G.ex
  exact mo_call0 F (hr.mono hj) hm hk hb ha hn hg hK hM hdb he hpl
end
end Tm

set_option Elab.async false
set_option linter.all false
set_option maxRecDepth 100000
set_option maxHeartbeats 2000000
namespace Tm
open PySem L2
open Evl (Ex ex_rd ex_l ex_t)
/-! ### constants of a module -/
def Cst (K : PySem.W.Frag) (mg : Str → Option Value) (x : Str) (v : MV) : Prop := ∃ w u, mg x = some u ∧ RelV w u ∧ ∀ H, RV K H v w
section
variable {X : Cx} {c : Ct} {x : Str} {pos : Pos}
theorem mf_con {v : MV} (h : Cst X.K X.mg x v) (hg : Gl X x := by rfl) (hK : c.K = X.K := by rfl) (hd : (x == ("__debug__" : Str)) = false := by decide) : PE X (.Name x pos) (rdE c (mC v)) := by
  obtain ⟨w, u, hm, rv, r⟩ := h
  exact me_glob hm rv (by rw [hK]; exact r) hg hd
end
theorem cst_int {K : PySem.W.Frag} {mg : Str → Option Value} {x : Str} {i : Int} {t : Tok} (h : mg x = some (.int i t)) : Cst K mg x (.int i) := ⟨.int i, _, h, ⟨t, rfl⟩, fun _ => RV.int.mpr rfl⟩
theorem cst_str {K : PySem.W.Frag} {mg : Str → Option Value} {x : Str} {i : Str} {t : Tok} (h : mg x = some (.str i t)) : Cst K mg x (.str i) := ⟨.str i, _, h, ⟨t, rfl⟩, fun _ => RV.str.mpr rfl⟩
def flatIs : MV → Value → Bool
  | .int i, .int j _ => i == j
  | .str i, .str j _ => i == j
  | .non, .none => true
  | .bl a, .bool b => a == b
  | _, _ => false
def flatsIs : List MV → List Value → Bool
  | [], [] => true
  | x :: xs, v :: vs => flatIs x v && flatsIs xs vs
  | _, _ => false
theorem flat_is {K : PySem.W.Frag} {H : Hp} {x : MV} {v : Value} (h : flatIs x v = true) : ∃ w, RelV w v ∧ RV K H x w := by
  unfold flatIs at h
  split at h
  · rw [beq_iff_eq.mp h]; exact ⟨.int _, ⟨_, rfl⟩, RV.int.mpr rfl⟩
  · rw [beq_iff_eq.mp h]; exact ⟨.str _, ⟨_, rfl⟩, RV.str.mpr rfl⟩
  · exact ⟨.non, rfl, RV.non.mpr rfl⟩
  · rw [beq_iff_eq.mp h]; exact ⟨.bl _, rfl, RV.bl.mpr rfl⟩
  · cases h
theorem flats_is {K : PySem.W.Frag} {H : Hp} : ∀ {xs : List MV} {vs : List Value}, flatsIs xs vs = true → ∃ ws, Vals ws vs ∧ RVs K H xs ws
  | [], [], _ => ⟨[], .nil, RVs.nil.mpr rfl⟩
  | x :: xs, v :: vs, h => by
    unfold flatsIs at h
    rw [Bool.and_eq_true] at h
    obtain ⟨w, r1, r2⟩ := flat_is (K := K) (H := H) h.1
    obtain ⟨ws, r3, r4⟩ := flats_is (K := K) (H := H) h.2
    exact ⟨w :: ws, .cons r1 r3, RVs.cons.mpr ⟨w, ws, rfl, r2, r4⟩⟩
  | [], _ :: _, h => by cases h
  | _ :: _, [], h => by cases h
theorem flats_rv {K : PySem.W.Frag} {H H' : Hp} : ∀ {xs : List MV} {ws : List V} {vs : List Value}, flatsIs xs vs = true → RVs K H xs ws → RVs K H' xs ws
  | [], _, _, _, r => RVs.nil.mpr (RVs.nil.mp r)
  | x :: xs, ws, [], h, r => by cases h
  | x :: xs, ws, v :: vs, h, r => by
    unfold flatsIs at h
    rw [Bool.and_eq_true] at h
    obtain ⟨w, us, rfl, r1, r2⟩ := RVs.cons.mp r
    have f : flatM x = true := by
      have := h.1
      unfold flatIs at this
      split at this <;> first | rfl | cases this
    exact RVs.cons.mpr ⟨w, us, rfl, flat_rv f r1, flats_rv h.2 r2⟩
theorem cst_tup {K : PySem.W.Frag} {mg : Str → Option Value} {x : Str} {a : Addr} {dd : Option Addr} {its : Array Value} {n : Nat} {sl : Array (Option Value)} {xs : List MV} (h : mg x = some (.ref a)) (l : K.lookup a = some ⟨.type "tuple", dd, .seq its n, sl⟩) (e : flatsIs xs its.toList = true) (z : its.size ≤ 1000) : Cst K mg x (.tup xs) := by
  obtain ⟨ws, r1, r2⟩ := flats_is (K := K) (H := fun _ => none) e
  exact ⟨.ref a, _, h, rfl, fun H => RV.tup.mpr ⟨a, ws, rfl, .inr ⟨_, its, n, l, rfl, rfl, Nat.le_trans z (by rw [sizeLine_eq]; decide), r1⟩, flats_rv e r2⟩⟩
/-! ### xs[::-1] -/
section
variable {X : Cx} {c : Ct}
def fRevL : MV → Option MV
  | .lst xs => some (.lst xs.reverse)
  | _ => none
def mRevL (a : ME) : ME := mUn fRevL a
theorem me_revL {e : Expr} {a : ME} {k : Nat} {p1 p2 p3 pos : Pos} (h : PE X e (rdE c a)) (hK : c.K = X.K := by rfl) : PE X (.Subscript e (.Slice none none (some (.UnaryOp .USub (.Constant (.int 1) k p1) p2)) p3) pos) (rdE c (mRevL a)) :=
  PEw (pe_revL h) fun σ H Q q => by
    obtain ⟨F, Hk, bp, ρ, S, q⟩ := q
    refine rdw (bE postE S q) fun v H1 ⟨Hk1, x, ρ1, x1, S1, r1, h1⟩ => ?_
    cases x with
    | lst xs =>
      obtain ⟨p, vs, rfl, g1, s1⟩ := RV.lst.mp r1
      refine ⟨p, vs, rfl, SqL.of (S1.1.ex _ _ g1), fun l hl => h1 _ _ _ (Ex.new (S1.1.ex.back hl)) (S1.1.new hl) (RV.lst.mpr ⟨l, _, rfl, upd_same, (s1.reverse).mono (Ex.new (S1.1.ex.back hl))⟩)⟩
    | _ => exact h1.elim
end
end Tm

set_option Elab.async false
set_option linter.all false
set_option maxRecDepth 100000
set_option maxHeartbeats 2000000
namespace Tm
open PySem L2
open Evl (Ex ex_rd ex_l ex_t)
/-! ### what is never reached -/
section
variable {X : Cx} {c : Ct}
def mOffS : MS := fun _ => .stuck
def mOffE : ME := fun _ => .stuck
theorem ms_off {s : Stmt} : PS X s (rdS c mOffS) := ⟨fun _ _ _ _ _ _ ⟨_, _, _, _, _, h⟩ => h.elim⟩
theorem mss_off {s : List Stmt} : PSs X s (rdS c mOffS) := ⟨fun _ _ _ _ _ _ ⟨_, _, _, _, _, h⟩ => h.elim⟩
theorem me_off {e : Expr} : PE X e (rdE c mOffE) := ⟨fun _ _ _ _ _ _ ⟨_, _, _, _, _, h⟩ => h.elim⟩
end
theorem blkOk_at {N N' : List Str} {sc sc' bs : Scope} {own : List (Str × Nat)} (hN : N = N') (hs : sc = sc') (h : blkC N' sc' bs own = true) : BlkOk N sc bs own := by
  subst hN hs
  exact blkOk_by h
/-! ### a def that calls itself -/
def mfOff : MF := fun _ => .stuck
def mRec (n : Nat) (bs : List Nat) (m : MF → MS) : Nat → MF
  | 0 => mfOff
  | k + 1 => mFn n bs (m (mRec n bs m k))
section
variable {P : Program} {w : World} {K : PySem.W.Frag} {mg : Str → Option Value} {base : Heap}
theorem spF_off {np : Nat} {bs : List Nat} {vs : List V} {H : Hp} {Q : VK} {E : XK} (h : spF K mg np bs mfOff vs H Q E) : False := by
  obtain ⟨_, _, _, _, _, _, _, h⟩ := h
  exact h
theorem fn_off {k : Nat} {f : Addr} {fd : FuncData} {ps : List Str} {np : Nat} {bs : List Nat} : FnOk P w K mg base (L2.CX P w) k f fd ps (spF K mg np bs mfOff) :=
  ⟨fun _ _ _ _ h => (spF_off h).elim, fun _ _ _ _ _ _ _ _ _ _ _ _ _ h => (spF_off h).elim⟩
end
end Tm

set_option Elab.async false
set_option linter.all false
set_option maxRecDepth 100000
set_option maxHeartbeats 2000000
/-! ### t[::-1] of a tuple -/
namespace HT
open PySem PySem.Spec PyProof.Rows
section
variable {prog : Program} {w : World} {A : Around} {E : Value → Shared → Prop} {s : Shared}
theorem fm_congr {α β : Type} {f g : α → Option β} : ∀ l : List α, (∀ x ∈ l, f x = g x) → l.filterMap f = l.filterMap g
  | [], _ => rfl
  | x :: l, h => by
    rw [List.filterMap_cons, List.filterMap_cons, h x (List.mem_cons_self ..), fm_congr l fun y hy => h y (List.mem_cons_of_mem _ hy)]
theorem rev_pick (xs : Array Value) : ((List.range xs.size).filterMap fun (m : Nat) => xs[(((xs.size : Int) - 1) + (m : Int) * (-1)).toNat]?).toArray = xs.toList.reverse.toArray := by
  have e : ((List.range xs.size).filterMap fun (m : Nat) => xs[(((xs.size : Int) - 1) + (m : Int) * (-1)).toNat]?) = ((List.range xs.size).map fun k => xs.size - 1 - k).filterMap (xs[·]?) := by
    rw [List.filterMap_map]
    refine fm_congr _ fun k hk => ?_
    have := List.mem_range.mp hk
    have e2 : (((xs.size : Int) - 1) + (k : Int) * (-1)).toNat = xs.size - 1 - k := by omega
    rw [e2]
    rfl
  rw [e, PySem.W.krv_range, List.filterMap_reverse, PySem.W.krv_all]
theorem sliceApplied_rev {sl : Addr} {vs : Value} {n : Nat} {Q : Int × Int × Nat → Shared → Prop} (hs : s.heap.IsSliceOf sl .none .none vs) (ps : IsPart vs (some (-1)))
    (h : Q ((n : Int) - 1, -1, n) s) : wpAny (model prog w) A (Builtin.Slice.sliceApplied (.ref sl) (pure (n : Int))) Q E s := by
  obtain ⟨os, hos, hcs, hds⟩ := id hs
  unfold Builtin.Slice.sliceApplied Builtin.Slice.sliceFields
  refine wpAny_bind (wpAny_bind (wpAny_field hos hds (x := .none) rfl (wpAny_bind (wpAny_field hos hds (x := .none) rfl (wpAny_bind (wpAny_field hos hds (x := vs) rfl (wpAny_pure ?_)))))))
  refine wpAny_bind (slicePart_ ps ?_)
  show wpAny _ _ (if ((-1 : Int) == 0) = true then _ else _) _ _ s
  rw [if_neg (by decide)]
  refine wpAny_bind (slicePart_none (wpAny_bind (slicePart_none (wpAny_bind (wpAny_pure ?_)))))
  show wpAny _ _ (match Builtin.Slice.sliceAdjust none none (-1) (n : Int) with | (lo, hi) => pure (lo, (-1 : Int), Builtin.Slice.slicePlaces lo hi (-1))) _ _ s
  have e : Builtin.Slice.sliceAdjust none none (-1) (n : Int) = ((n : Int) - 1, -1) := by
    simp [Builtin.Slice.sliceAdjust]
  rw [e]
  have e2 : Builtin.Slice.slicePlaces ((n : Int) - 1) (-1) (-1) = n := by
    unfold Builtin.Slice.slicePlaces
    simp
    omega
  show wpAny _ _ (pure ((n : Int) - 1, (-1 : Int), Builtin.Slice.slicePlaces ((n : Int) - 1) (-1) (-1))) _ _ s
  rw [e2]
  exact wpAny_pure h
theorem getItem_tuple_rev {t sl : Addr} {items : Array Value} {vs : Value} {Q : Value → Shared → Prop} (ht : IsTup s.heap t items) (hs : s.heap.IsSliceOf sl .none .none vs) (ps : IsPart vs (some (-1)))
    (h : Q (.ref s.heap.objs.size) { s with heap := s.heap.push { cls := .type "tuple", data := .seq items.toList.reverse.toArray } })
    (hsz : items.size ≤ sizeLine) : wpAny (model prog w) A (getItem (.ref t) (.ref sl)) Q E s := by
  have htake : sizeOk (.seq items.toList.reverse.toArray) := by
    show items.toList.reverse.toArray.size ≤ sizeLine
    rw [List.size_toArray, List.length_reverse, Array.length_toList]
    exact hsz
  obtain ⟨os, hos, hcs, hds⟩ := id hs
  have hTs : s.TypeIs (.ref sl) "slice" := ⟨os, hos, hcs⟩
  unfold getItem
  try with_reducible refine wpAny_holding ?_
  first | refine wpAny_bind (wpAny_pure ?_) | skip
  refine wpAny_bind (wpAny_sequenceKey ht.typeIs (by decide) ?_)
  refine wpAny_bind (wpAny_callSpecial?_slot (name := Str.ofString "__getitem__") ht.typeIs PyProof.Rows.slot_tuple_getitem
    (wpAny_call_entry PyProof.Rows.slot_tuple_getitem ht.typeIs entry_tuple_getitem ?_ (args_tuple_getitem _ _)))
  show wpAny _ _ (Builtin.Tuple.tupleItemsOf (.ref t) >>= _) _ _ s
  refine wpAny_bind (tupleItemsOf_ ht ?_)
  refine wpAny_bind (wpAny_typeOf hTs ?_)
  rw [if_pos (by decide)]
  refine wpAny_bind (sliceApplied_rev hs ps ?_)
  have hno : ¬ ((((items.size : Int) - 1) == 0 && (-1 : Int) == 1 && items.size == items.size) = true) := by simp
  show wpAny _ _ (if (((items.size : Int) - 1) == 0 && (-1 : Int) == 1 && items.size == items.size) = true then _ else _) _ _ s
  rw [if_neg hno, rev_pick]
  first
    | exact wpAny_bind (m := Builtin.Tuple.tupleExact _) (wpAny_newObj_type (wpAny_pure ⟨_, rfl, wpAny_pure h⟩) htake)
    | exact wpAny_bind (m := Builtin.Tuple.tupleExact _) (wpAny_newObj_type (wpAny_bind (wpAny_pure (wpAny_pure ⟨_, rfl, wpAny_pure h⟩))) htake)
    | exact wpAny_bind (wpAny_bind (m := Builtin.Tuple.tupleExact _) (wpAny_newObj_type (wpAny_pure (wpAny_pure ⟨_, rfl, wpAny_pure h⟩)) htake))
    | exact wpAny_bind (wpAny_bind (m := Builtin.Tuple.tupleExact _) (wpAny_newObj_type (wpAny_pure ⟨_, rfl, wpAny_pure h⟩) htake))
end
end HT
namespace Tm
open PySem L2 PySem.Spec PyProof.Rows
open Evl (Ex ex_rd ex_l ex_t)
def tRevT (K : PySem.W.Frag) (te : TE) : TE := fun σ H Q => te σ H fun x H1 => ∃ a xs, x = .ref a ∧ ((SqL K H1 a xs ∧ ∀ p, H1 p = none → Q (.ref p) (upd H1 p (.lst xs.reverse))) ∨ (SqT K H1 a xs ∧ ∀ p, H1 p = none → Q (.ref p) (upd H1 p (.tup xs.reverse))))
theorem pe_revT {X : Cx} {e : Expr} {te : TE} {k : Nat} {p1 p2 p3 pos : Pos} (he : PE X e te) : PE X (.Subscript e (.Slice none none (some (.UnaryOp .USub (.Constant (.int 1) k p1) p2)) p3) pos) (tRevT X.K te) := by
  refine ⟨fun pins s σ H Q I h => ?_⟩
  refine Subscript_ (thn (he.run pins s σ H _ I h) fun v s1 ⟨x, H1, I1, r1, q1⟩ => ?_)
  obtain ⟨a, xs, ex, hx⟩ := q1
  subst ex
  cases r1
  have hst : PO X (some (.UnaryOp .USub (.Constant (.int 1) k p1) p2)) (tPart (tUn (rU fun i => .int (-i)) (tC (.int 1)))) := po_some (pe_un un_neg pe_int)
  refine wpAny_Slice (thn (po_none.run pins s1 σ H1 (fun o H2 => o = none ∧ H2 = H1) I1 ⟨rfl, rfl⟩) fun vl s2 ⟨l, H2, I2, pl, el, e2⟩ => ?_)
  subst el e2
  refine thn (po_none.run pins s2 σ H2 (fun o H3 => o = none ∧ H3 = H2) I2 ⟨rfl, rfl⟩) fun vu s3 ⟨u, H3, I3, pu, eu, e3⟩ => ?_
  subst eu e3
  refine thn (hst.run pins s3 σ H3 (fun o H4 => o = some (-1) ∧ H4 = H3) I3 ⟨1, rfl, -1, rfl, rfl, rfl⟩) fun vs s4 ⟨o, H4, I4, ps, eo, e4⟩ => ?_
  subst eo e4
  cases pl
  cases pu
  have I5 : Inv X pins σ H4 { s4 with heap := s4.heap.push { cls := .type "slice", data := .fields #[.none, .none, vs] } } := I4.kept (t' := s4.toks) fun b ob q => Heap.get?_push_of_some _ q
  show wpAny (model X.prog X.w) X.A (subscriptTail e (.Slice none none (some (.UnaryOp .USub (.Constant (.int 1) k p1) p2)) p3) (.ref a) (.ref s4.heap.objs.size)) (EP X pins σ Q) X.xe { s4 with heap := s4.heap.push { cls := .type "slice", data := .fields #[.none, .none, vs] } }
  rcases hx with ⟨hx, q⟩ | ⟨hx, q⟩
  · obtain ⟨its, r, ht, hz⟩ := I5.list hx
    have hlen := r.length
    refine tail_any (ops := [.ref a, .ref s4.heap.objs.size]) ht.isList.typeIs (PySem.slot_list_getitem.lookup) ?_ (by with_unfolding_all rfl)
    refine wpAny_getItem_list_slice ht.isList (Heap.IsSliceOf.new _ _ _ vs) .none .none ps (by decide) ?_ (by rw [List.size_toArray]; omega)
    rw [PySem.W.krv_pick]
    refine ⟨.ref _, _, I5.laid (t' := s4.toks) (o := .lst xs.reverse) (fun b ob q => Heap.get?_push_of_some _ q) (Nat.le_refl _) ?_, rfl, q _ (I5.hok.fresh (Nat.le_refl _))⟩
    exact ⟨by rw [List.length_reverse]; exact hz, _, 0, r.reverse, Heap.get?_push_size _ rfl⟩
  · obtain ⟨its, r, ht, hz⟩ := I5.tuple hx
    have hlen := r.length
    refine tail_any (ops := [.ref a, .ref s4.heap.objs.size]) ht.typeIs (PyProof.Rows.slot_tuple_getitem.lookup) ?_ (by with_unfolding_all rfl)
    refine HT.getItem_tuple_rev ht (Heap.IsSliceOf.new _ _ _ vs) ps ?_ (by rw [List.size_toArray]; omega)
    refine ⟨.ref _, _, I5.laid (t' := s4.toks) (o := .tup xs.reverse) (fun b ob q => Heap.get?_push_of_some _ q) (Nat.le_refl _) ?_, rfl, q _ (I5.hok.fresh (Nat.le_refl _))⟩
    exact ⟨by rw [List.length_reverse]; exact hz, _, r.reverse, IsTup.new _ _⟩
section
variable {X : Cx} {c : Ct}
def fRevA : MV → Option MV
  | .lst xs => some (.lst xs.reverse)
  | .tup xs => some (.tup xs.reverse)
  | _ => none
def mRevA (a : ME) : ME := mUn fRevA a
theorem me_revA {e : Expr} {a : ME} {k : Nat} {p1 p2 p3 pos : Pos} (h : PE X e (rdE c a)) (hK : c.K = X.K := by rfl) : PE X (.Subscript e (.Slice none none (some (.UnaryOp .USub (.Constant (.int 1) k p1) p2)) p3) pos) (rdE c (mRevA a)) :=
  PEw (pe_revT h) fun σ H Q q => by
    obtain ⟨F, Hk, bp, ρ, S, q⟩ := q
    refine rdw (bE postE S q) fun v H1 ⟨Hk1, x, ρ1, x1, S1, r1, h1⟩ => ?_
    cases x with
    | lst xs =>
      obtain ⟨p, vs, rfl, g1, s1⟩ := RV.lst.mp r1
      refine ⟨p, vs, rfl, .inl ⟨SqL.of (S1.1.ex _ _ g1), fun l hl => h1 _ _ _ (Ex.new (S1.1.ex.back hl)) (S1.1.new hl) (RV.lst.mpr ⟨l, _, rfl, upd_same, (s1.reverse).mono (Ex.new (S1.1.ex.back hl))⟩)⟩⟩
    | tup xs =>
      obtain ⟨p, vs, rfl, g1, s1⟩ := RV.tup.mp r1
      refine ⟨p, vs, rfl, .inr ⟨by rw [← hK]; exact ex_t S1.1.ex g1, fun l hl => h1 _ _ _ (Ex.new (S1.1.ex.back hl)) (S1.1.new hl) (RV.tup.mpr ⟨l, _, rfl, SqT.of upd_same, (s1.reverse).mono (Ex.new (S1.1.ex.back hl))⟩)⟩⟩
    | _ => exact h1.elim
end
end Tm

set_option Elab.async false
set_option linter.all false
set_option maxRecDepth 100000
set_option maxHeartbeats 2000000
namespace Tm
open PySem L2 PySem.Spec PyProof.Rows
open Evl (Ex ex_rd ex_l ex_t)
/-! ### own exception classes -/
structure Bas (K : PySem.W.Frag) (mg : Str → Option Value) (y : Str) : Prop where
  ex : ∃ CL : Addr, mg y = some (.ref CL) ∧ PySem.W.readsIn K CL (.type "type") = true ∧ PySem.W.specialIn K (.ref CL) "__getattribute__" = some (some (.builtin "type.__getattribute__")) ∧ PySem.W.findCls K (.ref CL) (.type "type") "__init__" = some (.val (.builtin "ValueError.__init__"))
section
variable {X : Cx} {y : Str} {e : Expr} {es : List Expr} {ta : TA} {p1 p2 pos : Pos}
theorem pe_linit {pl : Sem Bool} (hg : Gl X y) (B : Bas X.K X.mg y) (ha : PA X (e :: es) ta)
    (hc : eval (.Call (.Attribute (.Name y p1) "__init__" p2) (e :: es) [] pos) X.env = (do
      let ov ← eval (.Name y p1) X.env
      standAt p2.atName
      let (f, first) ← holding [ov] (getMethod ov "__init__" pl)
      callWith pos f first (backTo pos (starEach (e :: es) X.env)) (backToKw pos (keywordEach [] X.env))) := by rfl)
    (hdb : (y == ("__debug__" : Str)) = false := by decide) (he : starEach (e :: es) X.env = (false, eval e X.env) :: starEach es X.env := by rfl) (hpl : (backTo pos (starEach es X.env)).any (·.1) = false := by rfl) :
    PE X (.Call (.Attribute (.Name y p1) "__init__" p2) (e :: es) [] pos) (tVeI X.K ta) := by
  obtain ⟨CL, hm, hr, hga, hf⟩ := B.ex
  refine ⟨fun pins s σ H Q I h => ?_⟩
  refine PySem.W.methodCall_KW (ld_glob I hg hm ?_ hdb) hc
  refine PySem.W.method_cls I.kIn hga (PySem.W.cls_value I.kIn hr hf (by decide +kernel) ?_)
  show wpAny _ _ (callWith pos (Value.builtin "ValueError.__init__") [] (backTo pos (starEach (e :: es) X.env)) []) _ _ _
  refine PyProof.Rows.callWith_method1 (thn (ha.run pos pins _ σ H _ (I.tok _) h) fun us s1 ⟨vs, H1, I1, r1, a, C, ws, ev, hl, T, ea, q⟩ => ?_) he hpl
  subst ev
  cases r1 with
  | @cons _ u0 _ ur ra rw' =>
    obtain rfl : u0 = Value.ref a := ra
    have hlen : ur.length ≤ sizeLine := by
      rw [← Paired.length rw', sizeLine_eq]
      omega
    exact oinit_ok T I1 ea hlen fun s' J => ⟨.non, H1, J, rfl, q⟩
end
structure OwX (K : PySem.W.Frag) (mg : Str → Option Value) (x : Str) (C fI : Addr) : Prop where
  T : OexC K C
  m : mg x = some (.ref C)
  iC : PySem.W.findIn K (.ref C) "__init__" = some (some (.ref fI))
  tI : PySem.W.typeIn K (.ref fI) = some (.type "function")
def spI1 (K : PySem.W.Frag) (f : Str) : Sp := fun vs H Q _ => ∃ (a C : Addr) (v : V), vs = [.ref a, v] ∧ OexC K C ∧ PySem.W.findIn K (.ref C) f = some none ∧ H a = some (exo a C none) ∧
  ∀ d, H d = none → d ≠ a → Q .non (upd (upd H d (exd d [(f, v)])) a (exo a C (some d)))
def spI2 (K : PySem.W.Frag) (f g : Str) : Sp := fun vs H Q _ => ∃ (a C : Addr) (v w : V), vs = [.ref a, v, w] ∧ OexC K C ∧ PySem.W.findIn K (.ref C) f = some none ∧ PySem.W.findIn K (.ref C) g = some none ∧ H a = some (exo a C none) ∧
  ∀ d, H d = none → d ≠ a → Q .non (upd (upd (upd H d (exd d [(f, v)])) a (exo a C (some d))) d (exd d [(g, w), (f, v)]))
section
variable {P : Program} {w : World} {K : PySem.W.Frag} {mg : Str → Option Value} {base : Heap}
theorem init1 {x qual y f p t : Str} {st : Stmt} {a : Addr} {fd : FuncData} {j : Nat} {p1 p2 p3 p4 p5 p6 q1 q2 q3 q4 : Pos} (F : Fun K x qual st a fd) (S : FnScope ["self", p] ["self", p] (defScope st)) (B : Bas K mg y)
    (hb : defBody st = [.Expr (.Call (.Attribute (.Name y p1) "__init__" p2) [.Name "self" p3, .Constant (.str t) j p4] [] p5) p6, .Assign [.Attribute (.Name "self" q1) f q2] (.Name p q3) q4])
    (hy : ∀ (L : Addr) (cd : Value), (envOfC qual (defScope st) L a cd).kindOf y = some NameKind.globalImplicit) (hs : (defScope st).names.lookup ("self" : Str) = some .local) (hp : (defScope st).names.lookup p = some .local)
    (hc : ∀ env : PySem.Env, ∃ pl : Sem Bool, eval (.Call (.Attribute (.Name y p1) "__init__" p2) [.Name "self" p3, .Constant (.str t) j p4] [] p5) env = (do
      let ov ← eval (.Name y p1) env
      standAt p2.atName
      let (f, first) ← holding [ov] (getMethod ov "__init__" pl)
      callWith p5 f first (backTo p5 (starEach [.Name "self" p3, .Constant (.str t) j p4] env)) (backToKw p5 (keywordEach [] env))))
    (hy1 : (y == ("__debug__" : Str)) = false) (hp1 : (p == ("__debug__" : Str)) = false) (hp2 : (p == ("__classdict__" : Str)) = false) :
    FnOk P w K mg base (L2.CX P w) 2 a fd ["self", p] (spI1 K f) := by
  refine F.okX S (fun vs H Q E h => ?_) (fun cdv A outer s H vs Q E hr h => ?_)
  · obtain ⟨_, _, _, rfl, _⟩ := h
    rfl
  obtain ⟨b, C, v, rfl, T, hf, hH, hq⟩ := h
  have nd := S.nd
  have hself : PE (cxOf (L2.CX P w) P w K mg base ["self", p] qual (defScope st) a cdv A outer s H E) (.Name "self" p3) (tVar 0) := pe_var (i := 0) rfl (.inl hs)
  have hself2 : PE (cxOf (L2.CX P w) P w K mg base ["self", p] qual (defScope st) a cdv A outer s H E) (.Name "self" q1) (tVar 0) := pe_var (i := 0) rfl (.inl hs)
  have hpar : PE (cxOf (L2.CX P w) P w K mg base ["self", p] qual (defScope st) a cdv A outer s H E) (.Name p q3) (tVar 1) := pe_var (i := 1) rfl (.inl hp) hp1 hp2
  obtain ⟨pl, hc⟩ := hc (cxOf (L2.CX P w) P w K mg base ["self", p] qual (defScope st) a cdv A outer s H E).env
  have h1 := pe_linit (pl := pl) (e := .Name "self" p3) (es := [.Constant (.str t) j p4]) (pos := p5) (p1 := p1) (p2 := p2) (X := cxOf (L2.CX P w) P w K mg base ["self", p] qual (defScope st) a cdv A outer s H E) (y := y) (hy _ _) B (pa_cons hself (pa_cons pe_str pa_nil)) (hc := hc) (hdb := hy1)
  refine ⟨_, by rw [hb]; exact pss_cons (ps_expr h1) (pss_cons (ps_ost hself2 hpar) pss_nil), ?_⟩
  exact ⟨.ref b, rfl, b, C, [.str t], rfl, by simp, T, hH, v, rfl, .ref b, rfl, b, C, rfl, T, hf, .inl ⟨hH, fun dx h1 h2 => hq dx h1 h2⟩⟩
theorem init2 {x qual y f g p r t : Str} {st : Stmt} {a : Addr} {fd : FuncData} {j : Nat} {p1 p2 p3 p4 p5 p6 q1 q2 q3 q4 q5 q6 q7 q8 : Pos} (F : Fun K x qual st a fd) (S : FnScope ["self", p, r] ["self", p, r] (defScope st)) (B : Bas K mg y)
    (hb : defBody st = [.Expr (.Call (.Attribute (.Name y p1) "__init__" p2) [.Name "self" p3, .Constant (.str t) j p4] [] p5) p6, .Assign [.Attribute (.Name "self" q1) f q2] (.Name p q3) q4, .Assign [.Attribute (.Name "self" q5) g q6] (.Name r q7) q8])
    (hy : ∀ (L : Addr) (cd : Value), (envOfC qual (defScope st) L a cd).kindOf y = some NameKind.globalImplicit) (hs : (defScope st).names.lookup ("self" : Str) = some .local) (hp : (defScope st).names.lookup p = some .local) (hr0 : (defScope st).names.lookup r = some .local)
    (hc : ∀ env : PySem.Env, ∃ pl : Sem Bool, eval (.Call (.Attribute (.Name y p1) "__init__" p2) [.Name "self" p3, .Constant (.str t) j p4] [] p5) env = (do
      let ov ← eval (.Name y p1) env
      standAt p2.atName
      let (f, first) ← holding [ov] (getMethod ov "__init__" pl)
      callWith p5 f first (backTo p5 (starEach [.Name "self" p3, .Constant (.str t) j p4] env)) (backToKw p5 (keywordEach [] env))))
    (hy1 : (y == ("__debug__" : Str)) = false) (hp1 : (p == ("__debug__" : Str)) = false) (hp2 : (p == ("__classdict__" : Str)) = false) (hr1 : (r == ("__debug__" : Str)) = false) (hr2 : (r == ("__classdict__" : Str)) = false) :
    FnOk P w K mg base (L2.CX P w) 2 a fd ["self", p, r] (spI2 K f g) := by
  refine F.okX S (fun vs H Q E h => ?_) (fun cdv A outer s H vs Q E hr h => ?_)
  · obtain ⟨_, _, _, _, rfl, _⟩ := h
    rfl
  obtain ⟨b, C, v, u, rfl, T, hf, hg, hH, hq⟩ := h
  have nd := S.nd
  have hself : PE (cxOf (L2.CX P w) P w K mg base ["self", p, r] qual (defScope st) a cdv A outer s H E) (.Name "self" p3) (tVar 0) := pe_var (i := 0) rfl (.inl hs)
  have hself2 : PE (cxOf (L2.CX P w) P w K mg base ["self", p, r] qual (defScope st) a cdv A outer s H E) (.Name "self" q1) (tVar 0) := pe_var (i := 0) rfl (.inl hs)
  have hpar : PE (cxOf (L2.CX P w) P w K mg base ["self", p, r] qual (defScope st) a cdv A outer s H E) (.Name p q3) (tVar 1) := pe_var (i := 1) rfl (.inl hp) hp1 hp2
  have hself3 : PE (cxOf (L2.CX P w) P w K mg base ["self", p, r] qual (defScope st) a cdv A outer s H E) (.Name "self" q5) (tVar 0) := pe_var (i := 0) rfl (.inl hs)
  have hpar2 : PE (cxOf (L2.CX P w) P w K mg base ["self", p, r] qual (defScope st) a cdv A outer s H E) (.Name r q7) (tVar 2) := pe_var (i := 2) rfl (.inl hr0) hr1 hr2
  obtain ⟨pl, hc⟩ := hc (cxOf (L2.CX P w) P w K mg base ["self", p, r] qual (defScope st) a cdv A outer s H E).env
  have h1 := pe_linit (pl := pl) (e := .Name "self" p3) (es := [.Constant (.str t) j p4]) (pos := p5) (p1 := p1) (p2 := p2) (X := cxOf (L2.CX P w) P w K mg base ["self", p, r] qual (defScope st) a cdv A outer s H E) (y := y) (hy _ _) B (pa_cons hself (pa_cons pe_str pa_nil)) (hc := hc) (hdb := hy1)
  refine ⟨_, by rw [hb]; exact pss_cons (ps_expr h1) (pss_cons (ps_ost hself2 hpar) (pss_cons (ps_ost hself3 hpar2) pss_nil)), ?_⟩
  refine ⟨.ref b, rfl, b, C, [.str t], rfl, by simp, T, hH, v, rfl, .ref b, rfl, b, C, rfl, T, hf, .inl ⟨hH, fun dx h1 h2 => ⟨u, rfl, .ref b, rfl, b, C, rfl, T, hg, .inr ⟨dx, [(f, v)], upd_same, ?_, by simp, hq dx h1 h2⟩⟩⟩⟩
  rw [upd_ne h2, upd_same]
end
theorem made_heap {H1 : Hp} {a d : Addr} {o u z : HO} (ha : H1 a = none) (hd : d ≠ a) : upd (del (upd (upd (upd H1 a o) d u) a z) a) d = upd H1 d := by
  funext y b
  by_cases e1 : b = d
  · subst e1; rw [upd_same, upd_same]
  · rw [upd_ne e1, upd_ne e1]
    by_cases e2 : b = a
    · subst e2; rw [del_same, ha]
    · rw [del_ne e2, upd_ne e2, upd_ne e1, upd_ne e2]
section
variable {X : Cx} {c : Ct} {x f g : Str} {C fI : Addr} {k : Nat} {fd : FuncData} {ps : List Str} {W : WX}
theorem never {W : WX} (tk : Takes X W) : Passes (L2.CX X.prog X.w) X (fun _ _ _ => False) := passes_call (E := fun _ _ _ => False) tk fun _ _ _ _ z => z.elim
def tMk1 (C : Addr) (f : Str) (ta : TA) : L2.St → Hp → XK → Prop := fun σ H Q => ta σ H fun vs H1 => ∃ v, vs = [v] ∧ ∀ d, H1 d = none → Q (.ref C) (some d) (upd H1 d (.xd [(f, v)]))
def tMk2 (C : Addr) (f g : Str) (ta : TA) : L2.St → Hp → XK → Prop := fun σ H Q => ta σ H fun vs H1 => ∃ v w, vs = [v, w] ∧ ∀ d, H1 d = none → Q (.ref C) (some d) (upd H1 d (.xd [(g, w), (f, v)]))
theorem pmk1 {e : Expr} {es : List Expr} {ta : TA} {p pos : Pos} (O : OwX X.K X.mg x C fI) (hf : PySem.W.findIn X.K (.ref C) f = some none) (F1 : FnOk X.prog X.w X.K X.mg X.base (L2.CX X.prog X.w) k fI fd ps (spI1 X.K f)) (hr : Room (k + 1) X.A) (hb : L2.Binds X.K fd ps []) (tk : Takes X W) (hg : Gl X x) (ha : PA X (e :: es) ta)
    (hm : ∀ σ H Q Q', ta σ H Q → (∀ vs H1, Q vs H1 → Q' vs H1) → ta σ H Q')
    (hdb : (x == ("__debug__" : Str)) = false := by decide) (he : starEach (e :: es) X.env = (false, eval e X.env) :: starEach es X.env := by rfl) (hpl : (backTo pos (starEach es X.env)).any (·.1) = false := by rfl) :
    PMk X (.Call (.Name x p) (e :: es) [] pos) (tMk1 C f ta) := by
  have z := pmk_oex (p := p) (ds := []) (dvs := []) O.T O.iC O.tI F1 hr hb .nil (never tk) hg O.m ha hdb he hpl
  intro pins s σ H Q I h
  refine z pins s σ H Q I (hm σ H _ _ h fun vs H1 ⟨v, ev, q⟩ => ?_)
  subst ev
  refine ⟨by simp, fun a ha => ⟨a, C, v, rfl, O.T, hf, upd_same, fun d hd hne => ⟨rfl, d, [(f, v)], upd_same, ?_, ?_, ?_⟩⟩⟩
  · rw [upd_ne hne, upd_same]
  · rw [upd_ne hne] at hd; exact hd
  · rw [made_heap ha hne]
    exact q d (by rw [upd_ne hne] at hd; exact hd)
theorem made_heap2 {H1 : Hp} {a d : Addr} {o u z y : HO} (ha : H1 a = none) (hd : d ≠ a) : upd (del (upd (upd (upd (upd H1 a o) d u) a z) d y) a) d = upd H1 d := by
  funext r b
  by_cases e1 : b = d
  · subst e1; rw [upd_same, upd_same]
  · rw [upd_ne e1, upd_ne e1]
    by_cases e2 : b = a
    · subst e2; rw [del_same, ha]
    · rw [del_ne e2, upd_ne e1, upd_ne e2, upd_ne e1, upd_ne e2]
theorem pmk2 {e : Expr} {es : List Expr} {ta : TA} {p pos : Pos} (O : OwX X.K X.mg x C fI) (hf : PySem.W.findIn X.K (.ref C) f = some none) (hfg : PySem.W.findIn X.K (.ref C) g = some none) (F1 : FnOk X.prog X.w X.K X.mg X.base (L2.CX X.prog X.w) k fI fd ps (spI2 X.K f g)) (hr : Room (k + 1) X.A) (hb : L2.Binds X.K fd ps []) (tk : Takes X W) (hg : Gl X x) (ha : PA X (e :: es) ta)
    (hm : ∀ σ H Q Q', ta σ H Q → (∀ vs H1, Q vs H1 → Q' vs H1) → ta σ H Q')
    (hdb : (x == ("__debug__" : Str)) = false := by decide) (he : starEach (e :: es) X.env = (false, eval e X.env) :: starEach es X.env := by rfl) (hpl : (backTo pos (starEach es X.env)).any (·.1) = false := by rfl) :
    PMk X (.Call (.Name x p) (e :: es) [] pos) (tMk2 C f g ta) := by
  have z := pmk_oex (p := p) (ds := []) (dvs := []) O.T O.iC O.tI F1 hr hb .nil (never tk) hg O.m ha hdb he hpl
  intro pins s σ H Q I h
  refine z pins s σ H Q I (hm σ H _ _ h fun vs H1 ⟨v, w, ev, q⟩ => ?_)
  subst ev
  refine ⟨by simp, fun a ha => ⟨a, C, v, w, rfl, O.T, hf, hfg, upd_same, fun d hd hne => ⟨rfl, d, [(g, w), (f, v)], ?_, upd_same, ?_, ?_⟩⟩⟩
  · rw [upd_ne (Ne.symm hne), upd_same]
  · rw [upd_ne hne] at hd; exact hd
  · rw [made_heap2 ha hne]
    exact q d (by rw [upd_ne hne] at hd; exact hd)
end
end Tm

set_option Elab.async false
set_option linter.all false
set_option maxRecDepth 100000
set_option maxHeartbeats 2000000
namespace Tm
open PySem L2 PySem.Spec PyProof.Rows
open Evl (Ex ex_rd ex_l ex_t)
/-! ### an exception's dict put aside -/
def NoX (H H' : Hp) : Prop := ∀ a o, H a = some o → (∀ fs, o ≠ .xd fs) → H' a = some o
theorem NoX.rdl {H H' : Hp} (e : NoX H H') {a : Addr} {xs : List V} (h : Rd H a (.lst xs)) : Rd H' a (.lst xs) := by
  rcases h with h | ⟨o, h⟩
  · exact Or.inl (e a _ h (fun _ z => nomatch z))
  · exact Or.inr ⟨o, e a _ h (fun _ z => nomatch z)⟩
theorem NoX.rdt {H H' : Hp} (e : NoX H H') {a : Addr} {xs : List V} (h : Rd H a (.tup xs)) : Rd H' a (.tup xs) := by
  rcases h with h | ⟨o, h⟩
  · exact Or.inl (e a _ h (fun _ z => nomatch z))
  · exact Or.inr ⟨o, e a _ h (fun _ z => nomatch z)⟩
mutual
theorem RV.sub {K : PySem.W.Frag} {H H' : Hp} (e : NoX H H') : ∀ (x : MV) (v : V), RV K H x v → RV K H' x v
  | .non, v, h => by unfold RV at h ⊢; exact h
  | .bl b, v, h => by unfold RV at h ⊢; exact h
  | .int i, v, h => by unfold RV at h ⊢; exact h
  | .str x, v, h => by unfold RV at h ⊢; exact h
  | .tup xs, v, h => by
    unfold RV at h ⊢
    obtain ⟨a, vs, e1, e2, e3⟩ := h
    exact ⟨a, vs, e1, e2.imp e.rdt id, RVs.sub e xs vs e3⟩
  | .lst xs, v, h => by
    unfold RV at h ⊢
    obtain ⟨a, vs, e1, e2, e3⟩ := h
    exact ⟨a, vs, e1, e _ _ e2 (fun _ z => nomatch z), RVs.sub e xs vs e3⟩
  | .own xs, v, h => by unfold RV at h; exact h.elim
  | .raw w, v, h => by unfold RV at h ⊢; exact h
  | .scr ns, v, h => by
    unfold RV at h ⊢
    obtain ⟨a, e1, e2⟩ := h
    exact ⟨a, e1, e2.imp e.rdl id⟩
  | .fnc x, v, h => by unfold RV at h ⊢; exact h
  | .obj C fs, v, h => by unfold RV at h; exact h.elim
theorem RVs.sub {K : PySem.W.Frag} {H H' : Hp} (e : NoX H H') : ∀ (xs : List MV) (vs : List V), RVs K H xs vs → RVs K H' xs vs
  | [], vs, h => by unfold RVs at h ⊢; exact h
  | x :: xs, vs, h => by
    unfold RVs at h ⊢
    obtain ⟨v, r, e1, e2, e3⟩ := h
    exact ⟨v, r, e1, RV.sub e x v e2, RVs.sub e xs r e3⟩
end
theorem OF.sub {K : PySem.W.Frag} {Hk Hk' H : Hp} {x : MV} {v : V} {A : List Addr} (e : NoX Hk Hk') (h : OF K Hk H x v A) : OF K Hk' H x v A := by
  cases x with
  | own xs =>
    unfold OF at h ⊢
    obtain ⟨p, vs, e1, e2, e3, e4⟩ := h
    exact ⟨p, vs, e1, e2, e3, RVs.sub e _ _ e4⟩
  | obj C fs => exact (show False by unfold OF at h; unfold RV at h; exact h.2).elim
  | _ =>
    unfold OF at h ⊢
    exact ⟨h.1, RV.sub e _ _ h.2⟩
theorem OFs.sub {K : PySem.W.Frag} {Hk Hk' H : Hp} (e : NoX Hk Hk') : ∀ {fs : List (Str × MV)} {vs : List (Str × V)} {A : List Addr}, OFs K Hk H fs vs A → OFs K Hk' H fs vs A
  | [], _, _, h => h
  | (n, x) :: fs, vs, A, h => by
    obtain ⟨v, r, B, C, e1, e2, h1, h2⟩ := h
    exact ⟨v, r, B, C, e1, e2, h1.sub e, OFs.sub e h2⟩
theorem OV.sub {K : PySem.W.Frag} {Hk Hk' H : Hp} {x : MV} {v : V} {A : List Addr} (e : NoX Hk Hk') (h : OV K Hk H x v A) : OV K Hk' H x v A := by
  cases x with
  | obj C fs =>
    unfold OV at h ⊢
    obtain ⟨p, CA, dx, vfs, B, e1, e2, e0, e3, e4, e5⟩ := h
    exact ⟨p, CA, dx, vfs, B, e1, e2, e0, e3, OFs.sub e e4, e5⟩
  | _ => (unfold OV at h ⊢; exact OF.sub e h)
section
variable {K : PySem.W.Frag} {F Hk H : Hp} {bp : List (Nat × Addr)} {σ : L2.St} {ρ : Env}
theorem SL.hole {ow : Nat → List Addr} (S : SL K F Hk H ow σ ρ) {i : Nat} (y : Option V) : SL K F Hk H (put ow i []) (σ.set i y) (ρ.set i none) := by
  refine ⟨fun j x h => ?_, fun j a h => ?_, fun j h => ?_, fun j k a hjk h => ?_⟩
  · rcases set_get h with ⟨_, e⟩ | ⟨ne, e⟩
    · cases e
    · obtain ⟨v, e1, o⟩ := S.s j x e
      refine ⟨v, by rw [List.getElem?_set_ne (Ne.symm ne)]; exact e1, ?_⟩
      unfold put
      rw [if_neg ne]; exact o
  · unfold put at h
    split at h
    · cases h
    · exact S.f j a h
  · unfold put at h
    split at h
    · exact absurd rfl h
    · rw [List.length_set]; exact S.w j h
  · unfold put at h ⊢
    split at h
    · cases h
    · split
      · simp
      · exact S.d j k a hjk h
theorem RS.hold (S : RS K F Hk H bp σ ρ) {i : Nat} {a : Addr} (hi : i < ρ.length) (hb : ∀ q ∈ bp, q.1 ≠ i) : RS K F Hk H ((i, a) :: bp) (σ.set i (some (.ref a))) (ρ.set i none) := by
  obtain ⟨ow, s⟩ := S.ow
  refine ⟨by rw [List.length_set, List.length_set, S.len], S.ex, S.fr, S.frk, ⟨_, s.hole _⟩, fun q hq => ?_⟩
  rcases List.mem_cons.mp hq with rfl | hq
  · exact List.getElem?_set_self (by rw [S.len]; exact hi)
  · rw [List.getElem?_set_ne (Ne.symm (hb q hq))]; exact S.bor q hq
theorem RS.unhold (S : RS K F Hk H ((i, a) :: bp) σ ρ) (hb : ∀ q ∈ bp, q.1 ≠ i) : RS K F Hk H bp (σ.set i none) (ρ.set i none) := by
  obtain ⟨ow, s⟩ := S.ow
  refine ⟨by rw [List.length_set, List.length_set, S.len], S.ex, S.fr, S.frk, ⟨_, s.hole _⟩, fun q hq => ?_⟩
  rw [List.getElem?_set_ne (Ne.symm (hb q hq))]; exact S.bor q (List.mem_cons_of_mem _ hq)
theorem RS.less (S : RS K F Hk H (p :: bp) σ ρ) : RS K F Hk H bp σ ρ := ⟨S.len, S.ex, S.fr, S.frk, S.ow, fun q hq => S.bor q (List.mem_cons_of_mem _ hq)⟩
theorem RS.aside (S : RS K F Hk H bp σ ρ) {dx : Addr} {fs : List (Str × V)} (hd : Hk dx = some (.xd fs)) : RS K (upd F dx (.xd fs)) (del Hk dx) H bp σ ρ := by
  have nx : NoX Hk (del Hk dx) := fun a o h n => by
    unfold del
    rw [if_neg (fun z => by subst z; rw [hd] at h; cases h; exact n _ rfl)]
    exact h
  have le : ∀ a o, del Hk dx a = some o → Hk a = some o := fun a o h => by
    unfold del at h
    split at h
    · cases h
    · exact h
  obtain ⟨ow, s⟩ := S.ow
  refine ⟨S.len, fun a o h => S.ex a o (le a o h), fun a o h => ?_, fun a o h => ?_, ⟨ow, fun i x h => ?_, fun i a h => ?_, s.w, s.d⟩, S.bor⟩
  · by_cases e : a = dx
    · subst e; rw [upd_same] at h; cases h; exact S.ex _ _ hd
    · rw [upd_ne e] at h; exact S.fr a o h
  · by_cases e : a = dx
    · subst e; exact del_same
    · rw [upd_ne e] at h; rw [del_ne e]; exact S.frk a o h
  · obtain ⟨v, e1, o⟩ := s.s i x h
    exact ⟨v, e1, o.sub nx⟩
  · obtain ⟨h1, h2, h3⟩ := s.f i a h
    have ne : a ≠ dx := fun z => by subst z; rw [hd] at h1; cases h1
    exact ⟨by rw [del_ne ne]; exact h1, by rw [upd_ne ne]; exact h2, h3⟩
theorem RS.back_in {dx : Addr} {fs : List (Str × V)} (S : RS K (upd F dx (.xd fs)) Hk H bp σ ρ) (hF : F dx = none) : RS K F (upd Hk dx (.xd fs)) H bp σ ρ := by
  have hk : Hk dx = none := S.frk dx _ upd_same
  have ex := Ex.new (o := HO.xd fs) hk
  obtain ⟨ow, s⟩ := S.ow
  refine ⟨S.len, fun a o h => ?_, fun a o h => ?_, fun a o h => ?_, ⟨ow, fun i x h => ?_, fun i a h => ?_, s.w, s.d⟩, S.bor⟩
  · by_cases e : a = dx
    · subst e; rw [upd_same] at h; cases h; exact S.fr _ _ upd_same
    · rw [upd_ne e] at h; exact S.ex a o h
  · have ne : a ≠ dx := fun z => by subst z; rw [hF] at h; cases h
    exact S.fr a o (by rw [upd_ne ne]; exact h)
  · have ne : a ≠ dx := fun z => by subst z; rw [hF] at h; cases h
    rw [upd_ne ne]
    exact S.frk a o (by rw [upd_ne ne]; exact h)
  · obtain ⟨v, e1, o⟩ := s.s i x h
    exact ⟨v, e1, o.move ex fun _ _ _ z => z⟩
  · obtain ⟨h1, h2, h3⟩ := s.f i a h
    have ne : a ≠ dx := fun z => by subst z; rw [upd_same] at h2; cases h2
    exact ⟨by rw [upd_ne ne]; exact h1, by rw [upd_ne ne] at h2; exact h2, h3⟩
end
/-! ### try: .. except y as n: .. -/
theorem RV.flat {K K' : PySem.W.Frag} {H H' : Hp} {x : MV} {v : V} (f : flatM x = true) (h : RV K H x v) : RV K' H' x v := by
  cases x <;> first | (simp [flatM] at f; done) | (unfold RV at h ⊢; exact h)
theorem XFs.flat {K K' : PySem.W.Frag} {H H' : Hp} : ∀ {xs : List (Str × MV)} {vs : List (Str × V)}, xs.all (fun p => flatM p.2) = true → XFs K H xs vs → XFs K' H' xs vs
  | [], _, _, h => h
  | (n, x) :: xs, vs, f, h => by
    obtain ⟨v, r, e1, e2, e3⟩ := h
    simp only [List.all_cons, Bool.and_eq_true] at f
    exact ⟨v, r, e1, e2.flat f.1, XFs.flat f.2 e3⟩
structure ExT (K : PySem.W.Frag) (mg : Str → Option Value) (y : Str) (x : Str) (b : Bool) : Prop where
  ex : ∃ C D, mg x = some (.ref C) ∧ mg y = some (.ref D) ∧ PySem.W.exmOne K (.ref C) (.ref D) = some b
def mTry (i : Nat) (tab : List (Str × Bool)) (mb : MS) (mh : MX → MS) : MS := fun ρ => match mb ρ with
  | .ok r => .ok r
  | .stuck => .stuck
  | .exc e ρ1 => match tab.lookup e.cls with
    | some true => if decide (i < ρ1.length) && e.fs.all (fun p => flatM p.2) then (match mh e (ρ1.set i none) with
      | .ok (.rt v, ρ2) => .ok (.rt v, ρ2)
      | .ok (f, ρ2) => .ok (f, ρ2.set i none)
      | _ => .stuck) else .stuck
    | some false => .exc e ρ1
    | none => .stuck
def XIn (F : Hp) (e : MX) (d : Option Addr) : Prop := (e.fs = [] ∧ d = none) ∨ ∃ dx vfs, d = some dx ∧ F dx = some (.xd vfs) ∧ ∀ K H, XFs K H e.fs vfs
def cH (c : Ct) (i : Nat) (a : Addr) (e : MX) (d : Option Addr) : Ct := ⟨c.K, c.mg, fun _ _ _ _ => False, i :: c.bs, fun F bp => (∃ bq, bp = (i, a) :: bq ∧ c.J F bq) ∧ XIn F e d, fun F F1 bp x h => by
  obtain ⟨⟨bq, e1, e2⟩, h2⟩ := h
  refine ⟨⟨bq, e1, c.Jm _ _ _ x e2⟩, ?_⟩
  rcases h2 with h2 | ⟨dx, vfs, q1, q2, q3⟩
  · exact .inl h2
  · exact .inr ⟨dx, vfs, q1, x _ _ q2, q3⟩⟩
section
variable {X : Cx} {c : Ct} {y n : Str} {i : Nat} {body suite : List Stmt} {b₀ : Stmt} {np pos pos' : Pos} {tab : List (Str × Bool)} {mb : MS} {mh : MX → MS}
theorem lookup_mem : ∀ {tab : List (Str × Bool)} {x : Str} {b : Bool}, tab.lookup x = some b → (x, b) ∈ tab
  | [], _, _, h => by simp at h
  | (z, k) :: tab, x, b, h => by
    rw [List.lookup_cons] at h
    by_cases e : x = z
    · subst e
      simp at h
      subst h
      exact List.mem_cons_self ..
    · have : (x == z) = false := by simpa using e
      rw [this] at h
      exact List.mem_cons_of_mem _ (lookup_mem h)
theorem ms_try (hs : X.stack = X.env :: X.outer) (hf : X.env.frame = some X.env.locals) (hN : X.N.Nodup) (hi : X.N[i]? = some n) (hln : X.env.kindOf n = some .local) (hg : Gl X y) (tk : Takes X c.W) (ht : ∀ p ∈ tab, ExT X.K X.mg y p.1 p.2) (hne : ∃ D, X.mg y = some (.ref D))
    (hb : ∀ (W : WX) (pn : List (Addr × Obj)) (xe : Value → Shared → Prop), Takes (X.tr pn xe) W → PassesOwn (model X.prog X.w) X.A X.env xe → PSs (X.tr pn xe) body (rdS ⟨c.K, c.mg, W, c.bs, c.J, c.Jm⟩ mb))
    (hsu : ∀ (a : Addr) (oe : Obj) (C : Addr) (d : Option Addr) (pn : List (Addr × Obj)) (e : MX), X.mg e.cls = some (.ref C) → (e.cls, true) ∈ tab → Zc (.ref C) d oe → (∃ vs, oe.data = .fields vs) → PSs (X.suite a ((a, oe) :: pn)) (b₀ :: suite) (rdS (cH c i a e d) (mh e)))
    (hbs : c.bs.contains i = false := by rfl) (hK : c.K = X.K := by rfl) (hmg : c.mg = X.mg := by rfl) (hdb : (y == ("__debug__" : Str)) = false := by decide) :
    PS X (.Try body [.ExceptHandler (some (.Name y np)) (some n) (b₀ :: suite) pos'] [] [] pos) (rdS c (mTry i tab mb mh)) := by
  obtain ⟨Dy, hDy⟩ := hne
  have z := ps_try_as (x := y) (c := .ref Dy) (np := np) (pos := pos) (pos' := pos') (tb := fun W => rdS ⟨c.K, c.mg, W, c.bs, c.J, c.Jm⟩ mb) (Wout := c.W)
    (ts := fun a cls d D σ H => ∃ e C, X.mg e.cls = some (.ref C) ∧ cls = .ref C ∧ (e.cls, true) ∈ tab ∧ rdS (cH c i a e d) (mh e) D σ H) hs hf hN hi hln ⟨hg, hdb, .inl hDy⟩ tk hb
    (fun a oe cls d pn hz hv => ⟨fun pins s σ H D I ⟨e, C, h1, h2, h3, h4⟩ => (hsu a oe C d pn e h1 h3 (by rw [← h2]; exact hz) hv).run pins s σ H D I h4⟩)
  refine PSw z fun D σ H h => ?_
  obtain ⟨F, Hk, bp, ρ, S, h⟩ := h
  refine ⟨F, Hk, bp, ρ, S, ?_⟩
  unfold mTry at h
  cases em : mb ρ with
  | stuck => rw [em] at h; exact h
  | ok r =>
    rw [em] at h
    obtain ⟨f, ρ'⟩ := r
    cases f <;> exact h
  | exc e ρ1 =>
    rw [em] at h
    intro Hk' H' σ' cls d x S1 er
    obtain ⟨C, g1, g2, g3⟩ := er
    subst g2
    have g1' : X.mg e.cls = some (.ref C) := by rw [← hmg]; exact g1
    cases el : tab.lookup e.cls with
    | none => simp only [el] at h; exact h.elim
    | some b =>
      obtain ⟨C', D', k1, k2, k3⟩ := (ht _ (lookup_mem el)).ex
      rw [g1'] at k1
      cases k1
      rw [hDy] at k2
      cases k2
      refine ⟨b, k3, fun hyes a ha => ?_, fun hno => ?_⟩
      · subst hyes
        simp only [el] at h
        split at h
        · rename_i hc
          simp only [Bool.and_eq_true, decide_eq_true_eq] at hc
          refine ⟨e, C, g1', rfl, lookup_mem el, ?_⟩
          have hbq : ∀ q ∈ bp, q.1 ≠ i := nb S.2.1 hbs
          -- the state of the clause
          have main : ∃ F2 Hk2, RS c.K F2 Hk2 H' ((i, a) :: bp) (σ'.set i (some (.ref a))) (ρ1.set i none) ∧ Ex F F2 ∧ XIn F2 e d ∧ ∀ Hk3 H3 bq σ3 ρ3, Ex Hk2 Hk3 → RS c.K F2 Hk3 H3 bq σ3 ρ3 → ∃ Hk4, Ex Hk' Hk4 ∧ RS c.K F Hk4 H3 bq σ3 ρ3 ∧ Ex Hk3 Hk4 := by
            rcases g3 with g3 | ⟨dx, vfs, q1, q2, q3⟩
            · exact ⟨F, Hk', S1.hold hc.1 hbq, Ex.refl _, .inl g3, fun Hk3 H3 bq σ3 ρ3 x3 S3 => ⟨Hk3, x3, S3, Ex.refl _⟩⟩
            · have fn : F dx = none := by
                cases e0 : F dx with
                | none => rfl
                | some o => have := S1.frk dx o e0; rw [q2] at this; cases this
              refine ⟨_, _, (S1.hold hc.1 hbq).aside q2, Ex.new fn, .inr ⟨dx, vfs, q1, upd_same, fun K H => q3.flat hc.2⟩, fun Hk3 H3 bq σ3 ρ3 x3 S3 => ⟨_, fun b o hb => ?_, S3.back_in fn, Ex.new (S3.frk dx _ upd_same)⟩⟩
              by_cases e0 : b = dx
              · subst e0; rw [q2] at hb; cases hb; exact upd_same
              · rw [upd_ne e0]
                exact x3 _ _ (by rw [del_ne e0]; exact hb)
          obtain ⟨F2, Hk2, S2, xF, xi, out⟩ := main
          refine ⟨F2, Hk2, (i, a) :: bp, _, ⟨S2, ?_, ⟨bp, rfl, c.Jm _ _ _ xF S.2.2⟩, xi⟩, ?_⟩
          · show i :: bp.map (·.1) = i :: c.bs
            rw [S.2.1]
          cases eh : mh e (ρ1.set i none) with
          | stuck => rw [eh] at h; exact h.elim
          | exc e2 ρ2 => rw [eh] at h; exact h.elim
          | ok r =>
            obtain ⟨f, ρ2⟩ := r
            rw [eh] at h
            cases f with
            | nx =>
              intro Hk3 H3 σ3 x3 S3
              obtain ⟨Hk4, x4, S4, _⟩ := out Hk3 H3 _ _ _ x3 S3
              exact h Hk4 H3 _ (x.trans x4) (S4.unhold hbq)
            | br =>
              intro Hk3 H3 σ3 x3 S3
              obtain ⟨Hk4, x4, S4, _⟩ := out Hk3 H3 _ _ _ x3 S3
              exact h Hk4 H3 _ (x.trans x4) (S4.unhold hbq)
            | ct =>
              intro Hk3 H3 σ3 x3 S3
              obtain ⟨Hk4, x4, S4, _⟩ := out Hk3 H3 _ _ _ x3 S3
              exact h Hk4 H3 _ (x.trans x4) (S4.unhold hbq)
            | rt v =>
              intro Hk3 H3 σ3 w x3 hq S3
              obtain ⟨Hk4, x4, S4, _⟩ := out Hk3 H3 _ _ _ x3 S3
              exact h Hk4 H3 _ w (x.trans x4) (fun q hq' => hq q (List.mem_cons_of_mem _ hq')) S4.less
        · exact h.elim
      · subst hno
        simp only [el] at h
        exact h Hk' H' σ' _ d x S1 ⟨C, g1, rfl, g3⟩
end
end Tm

set_option Elab.async false
set_option linter.all false
set_option maxRecDepth 100000
set_option maxHeartbeats 2000000
namespace Tm
open PySem L2 PySem.Spec PyProof.Rows
open Evl (Ex ex_rd ex_l ex_t)
/-! ### raise -/
def mRaise0 (x : Str) : MS := fun ρ => .exc ⟨x, []⟩ ρ
def mRaise1 (x f : Str) (a : ME) : MS := fun ρ => (a ρ).bind fun y ρ1 => .exc ⟨x, [(f, y)]⟩ ρ1
def mRaise2 (x f g : Str) (a b : ME) : MS := fun ρ => (a ρ).bind fun y ρ1 => (b ρ1).bind fun z ρ2 => .exc ⟨x, [(g, z), (f, y)]⟩ ρ2
structure Cl0 (K : PySem.W.Frag) (mg : Str → Option Value) (x : Str) : Prop where
  ex : ∃ C, mg x = some (.ref C) ∧ PySem.W.excIn K C PySem.HandSPX.veTail "ValueError.__new__" = true ∧ PySem.W.keepIn K (.ref C) = true ∧ PySem.W.subIn K (.ref C) (.type "BaseException") = some true ∧ PySem.W.typeIn K (.ref C) = some (.type "type")
structure Cl1 (P : Program) (w : World) (K : PySem.W.Frag) (mg : Str → Option Value) (base : Heap) (x f : Str) : Prop where
  ex : ∃ C fI fd ps, OwX K mg x C fI ∧ PySem.W.findIn K (.ref C) f = some none ∧ FnOk P w K mg base (L2.CX P w) 2 fI fd ps (spI1 K f) ∧ L2.Binds K fd ps []
structure Cl2 (P : Program) (w : World) (K : PySem.W.Frag) (mg : Str → Option Value) (base : Heap) (x f g : Str) : Prop where
  ex : ∃ C fI fd ps, OwX K mg x C fI ∧ PySem.W.findIn K (.ref C) f = some none ∧ PySem.W.findIn K (.ref C) g = some none ∧ FnOk P w K mg base (L2.CX P w) 2 fI fd ps (spI2 K f g) ∧ L2.Binds K fd ps []
section
variable {X : Cx} {c : Ct} {x f g m : Str} {k j : Nat}
theorem ms_raise0 {p p2 p3 pos : Pos} (Z : Cl0 X.K X.mg x) (hc : X.calm = true) (tk : Takes X c.W) (hg : Gl X x) (hmg : c.mg = X.mg := by rfl) (hdb : (x == ("__debug__" : Str)) = false := by decide) :
    PS X (.Raise (some (.Call (.Name x p) [.Constant (.str m) j p2] [] p3)) none pos) (rdS c (mRaise0 x)) := by
  obtain ⟨C, h1, h2, h3, h4, h5⟩ := Z.ex
  refine PSw (ps_raise hc tk (pmk_own (m := m) (j := j) F.excBase_ValueError h2 h1 h3 (raises_own h4 h5) hg hdb)) fun D σ H ⟨F, Hk, bp, ρ, S, h⟩ => ?_
  exact h _ _ _ _ _ (Ex.refl _) S.1 ⟨C, by rw [hmg]; exact h1, rfl, .inl ⟨rfl, rfl⟩⟩
theorem ms_raise1 {e : Expr} {a : ME} {p p2 pos : Pos} (Z : Cl1 X.prog X.w X.K X.mg X.base x f) (hc : X.calm = true) (hr : Room k X.A) (hk : 3 ≤ k) (tk : Takes X c.W) (hg : Gl X x) (he : PE X e (rdE c a)) (hmg : c.mg = X.mg := by rfl)
    (hdb : (x == ("__debug__" : Str)) = false := by decide) (hst : starEach [e] X.env = (false, eval e X.env) :: starEach [] X.env := by rfl) (hpl : (backTo p2 (starEach [] X.env)).any (·.1) = false := by rfl) :
    PS X (.Raise (some (.Call (.Name x p) [e] [] p2)) none pos) (rdS c (mRaise1 x f a)) := by
  obtain ⟨C, fI, fd, ps, O, h2, h3, h4⟩ := Z.ex
  refine PSw (ps_raise hc tk (pmk1 (W := c.W) O h2 h3 (hr.mono hk) h4 tk hg (ma_cons he ma_nil hst) (fun σ H Q Q' q w => rdAw q w) hdb hst hpl)) fun D σ H ⟨F, Hk, bp, ρ, S, h⟩ => ?_
  have h : okS c F Hk bp D ((a ρ).bind fun y ρ1 => .exc ⟨x, [(f, y)]⟩ ρ1) := h
  refine ⟨F, Hk, bp, ρ, S, ?_⟩
  show okA c F Hk bp σ _ ((a ρ).bind fun y ρ1 => (mNil ρ1).bind fun xs ρ2 => .ok (y :: xs, ρ2))
  cases ea : a ρ with
  | stuck => rw [ea] at h; exact h
  | exc e ρ' => rw [ea] at h; exact fun Hk' H' cls d => h Hk' H' σ cls d
  | ok q =>
    obtain ⟨y, ρ1⟩ := q
    rw [ea] at h
    intro Hk1 H1 vs x1 S1 r1
    obtain ⟨v, us, rfl, r2, r3⟩ := RVs.cons.mp r1
    cases RVs.nil.mp r3
    refine ⟨v, rfl, fun d hd => ?_⟩
    have xn := Ex.new (o := HO.xd [(f, v)]) (S1.ex.back hd)
    exact h _ _ _ _ _ (x1.trans xn) (S1.new hd) ⟨C, by rw [hmg]; exact O.m, rfl, .inr ⟨d, _, rfl, upd_same, v, [], rfl, r2.mono xn, rfl⟩⟩
theorem ms_raise2 {e e2 : Expr} {a b : ME} {p p2 pos : Pos} (Z : Cl2 X.prog X.w X.K X.mg X.base x f g) (hc : X.calm = true) (hr : Room k X.A) (hk : 3 ≤ k) (tk : Takes X c.W) (hg : Gl X x) (he : PE X e (rdE c a)) (he2 : PE X e2 (rdE c b)) (hmg : c.mg = X.mg := by rfl)
    (hdb : (x == ("__debug__" : Str)) = false := by decide) (hst : starEach [e, e2] X.env = (false, eval e X.env) :: starEach [e2] X.env := by rfl) (hst2 : starEach [e2] X.env = (false, eval e2 X.env) :: starEach [] X.env := by rfl) (hpl : (backTo p2 (starEach [e2] X.env)).any (·.1) = false := by rfl) :
    PS X (.Raise (some (.Call (.Name x p) [e, e2] [] p2)) none pos) (rdS c (mRaise2 x f g a b)) := by
  obtain ⟨C, fI, fd, ps, O, h2, h22, h3, h4⟩ := Z.ex
  refine PSw (ps_raise hc tk (pmk2 (W := c.W) O h2 h22 h3 (hr.mono hk) h4 tk hg (ma_cons he (ma_cons he2 ma_nil hst2) hst) (fun σ H Q Q' q w => rdAw q w) hdb hst hpl)) fun D σ H ⟨F, Hk, bp, ρ, S, h⟩ => ?_
  have h : okS c F Hk bp D ((a ρ).bind fun y ρ1 => (b ρ1).bind fun z ρ2 => .exc ⟨x, [(g, z), (f, y)]⟩ ρ2) := h
  refine ⟨F, Hk, bp, ρ, S, ?_⟩
  show okA c F Hk bp σ _ ((a ρ).bind fun y ρ1 => ((b ρ1).bind fun z ρ2 => (mNil ρ2).bind fun xs ρ3 => .ok (z :: xs, ρ3)).bind fun xs ρ3 => .ok (y :: xs, ρ3))
  cases ea : a ρ with
  | stuck => rw [ea] at h; exact h
  | exc e ρ' => rw [ea] at h; exact fun Hk' H' cls d => h Hk' H' σ cls d
  | ok q =>
    obtain ⟨y, ρ1⟩ := q
    rw [ea] at h
    have h : okS c F Hk bp D ((b ρ1).bind fun z ρ2 => .exc ⟨x, [(g, z), (f, y)]⟩ ρ2) := h
    show okA c F Hk bp σ _ (((b ρ1).bind fun z ρ2 => (mNil ρ2).bind fun xs ρ3 => .ok (z :: xs, ρ3)).bind fun xs ρ3 => .ok (y :: xs, ρ3))
    cases eb : b ρ1 with
    | stuck => rw [eb] at h; exact h
    | exc e ρ' => rw [eb] at h; exact fun Hk' H' cls d => h Hk' H' σ cls d
    | ok q =>
      obtain ⟨z, ρ2⟩ := q
      rw [eb] at h
      intro Hk1 H1 vs x1 S1 r1
      obtain ⟨v, us, rfl, r2, r3⟩ := RVs.cons.mp r1
      obtain ⟨u, us, rfl, r4, r5⟩ := RVs.cons.mp r3
      cases RVs.nil.mp r5
      refine ⟨v, u, rfl, fun d hd => ?_⟩
      have xn := Ex.new (o := HO.xd [(g, u), (f, v)]) (S1.ex.back hd)
      exact h _ _ _ _ _ (x1.trans xn) (S1.new hd) ⟨C, by rw [hmg]; exact O.m, rfl, .inr ⟨d, _, rfl, upd_same, u, _, rfl, r4.mono xn, v, [], rfl, r2.mono xn, rfl⟩⟩
end
/-! ### what a clause asks of its exception -/
section
variable {prog : Program} {w : World} {A : Around} {E : Value → Shared → Prop} {s : Shared} {K : PySem.W.Frag} {x D : Addr} {ox : Obj} {od : Option Obj}
theorem findObj_any {C : Addr} {name : Str} {a g : Value} (hc : (PySem.W.clsIn K C).isSome = true) (ha : PySem.W.findIn K (.ref C) name = some (some a)) (hg : PySem.W.specialIn K a "__get__" = some (some g)) (ht : PySem.W.takesIn K a = some true) : PySem.W.findObj K C od name = some (.bind g a) := by
  obtain ⟨cd, hc⟩ := Option.isSome_iff_exists.mp hc
  unfold PySem.W.findObj
  rw [hc, Option.bind_some, ha, Option.bind_some]
  simp [hg, ht]
open PySem.W PySem.Calls in
theorem class_any {Q : Option Value → Shared → Prop} (c : ExcC K D) (X : K.In s.heap) (I : InstAt s.heap x ox D od) (h : Q (some (.ref D)) { s with toks := s.toks + 1 }) : wpAny (model prog w) A (getAttr? (.ref x) "__class__") Q E s := by
  have hf : findObj K D od "__class__" = some (.bind (.builtin "getset_descriptor.__get__") (.builtin "object.__class__")) := findObj_any (by obtain ⟨cd, hc, _⟩ := any_some c.hd; rw [hc]; rfl) c.ha c.hn c.ht
  obtain ⟨hp, g, d, t, os⟩ := s
  have L0 := I.type (M := model prog w)
  have L1 := looks_findIn (M := model prog w) X c.hg
  have L2 := looks_findIn (M := model prog w) X c.hk
  have L3 := looks_find (M := model prog w) X I hf
  have sub : Looks (model prog w) hp (isInstance (.ref x) (.type "BaseException")) true := L0.andThen (looks_subIn X c.hs)
  have z0 : (false && onTheHeap (Value.builtin "BaseException.__getattribute__")) = false := rfl
  have z2 : (Value.builtin "BaseException.__getattribute__" == Value.builtin "object.__getattribute__") = false := by decide +kernel
  have z1 : (onTheHeap (Value.ref D) && Value.builtin "BaseException.__getattribute__" == Value.builtin "object.__getattribute__") = false := by rw [z2]; rfl
  unfold getAttr? getAttrBy? getAttrBy
  refine wpAny_bind (wpAny_mkText (wpAny_bind (wpAny_attempt (wpAny_holding (wpAny_bind (L0.at (wpAny_bind (L1.at ?_))))))))
  show wpAny _ _ (if (onTheHeap (Value.ref D) && Value.builtin "BaseException.__getattribute__" == Value.builtin "object.__getattribute__") = true then _ else _) _ _ _
  rw [z1, if_neg Bool.false_ne_true]
  unfold getAttrByItsOwn hookBefore
  refine wpAny_bind ?_
  rw [if_pos (show onTheHeap (Value.ref D) = true from rfl)]
  refine L2.at ?_
  refine wpAny_bind (wpAny_attempt (wpAny_holding ?_))
  unfold callGetattribute
  rw [z0, if_neg Bool.false_ne_true]
  unfold boundAndCalled
  rw [PySem.F.excAttr_ValueError.ga.bind (.ref x)]
  refine wpAny_bind (wpAny_pure ?_)
  show wpAny _ _ (call (.builtin "BaseException.__getattribute__") [.ref x, .str "__class__" t]) _ _ _
  refine wpAny_call (codeAny_call_builtin PySem.F.excAttr_ValueError.ga.plain PySem.F.entry_bexc_ga ?_)
  refine @check_slot (model prog w) _ _ ⟨hp, g, d, t + 1, os⟩ "BaseException.__getattribute__" "BaseException" "__getattribute__" (.ref x) [.str "__class__" t] [] _ (by decide +kernel) (by decide +kernel) sub (PySem.F.args_bexc_ga (.ref x) (.str "__class__" t)) ?_
  unfold Builtin.«object.__getattribute__»
  refine wpAny_bind (wpAny_of_eq (a := ((Value.ref x : Value), [Value.str "__class__" t])) (by first | rfl | (simp only [slotArgs]; rfl)) ?_)
  refine wpAny_bind (wpAny_pure (wpAny_bind (L0.at (wpAny_bind (L3.at ?_)))))
  show wpAny _ _ (holding [Value.builtin "object.__class__"] (call (.builtin "getset_descriptor.__get__") [.builtin "object.__class__", .ref x, .ref D]) >>= ret) _ _ _
  refine wpAny_bind (wpAny_holding (wpAny_call (class_get (s := ⟨hp, g, d, t + 1, os⟩) (ox := ox) (od := od) X I c.hm ?_)))
  refine wpAny_pure ?_
  show wpAny _ _ (handedOut (.ref D)) _ _ _
  rw [handedOut_of (v := .ref D) rfl]
  first
    | exact wpAny_pure (wpAny_pure h)
    | exact wpAny_pure h
    | exact wpAny_pure (wpAny_bind (wpAny_pure (wpAny_pure h)))
open PySem.W PySem.Calls in
theorem kitx_any (c : ExcC K D) : KitX K (.ref x) (.ref D) (fun h => InstAt h x ox D od) where
  ty := fun _ _ _ I => I.type
  it := fun _ _ X _ => by
    obtain ⟨cdD, hcD, _⟩ := any_some c.hd
    unfold clsIn at hcD
    split at hcD
    · rename_i c' d' cd' sl' ho
      intro A' Q' E' s' k q
      unfold isType loadHead
      exact wpAny_bind (wpAny_loadPart (k _ _ (X _ _ ho)) (wpAny_pure q))
    · cases hcD
  ne := fun h tp dd its n sl X htp => by
    obtain ⟨cdD, hcD, _⟩ := any_some c.hd
    refine Bool.eq_false_iff.mpr fun q => ?_
    have e : D = tp := Value.ref.inj (beq_iff_eq.mp q)
    subst e
    unfold clsIn at hcD
    split at hcD
    · rename_i c' d' cd' sl' ho
      have z := (X _ _ ho).symm.trans htp
      cases z
    · cases hcD
  ca := fun X I k => class_any c X I k
end
def rIsX (K : PySem.W.Frag) (D a : Addr) (d : Option Addr) : List V → Hp → VK → Prop := fun xs H Q => ∃ (c : V) (cv : Value) (b : Bool), xs = [.ref a, c] ∧ (∀ u, RelV c u → u = cv) ∧ PySem.W.kitOne K (.ref D) cv = some b ∧ (d = none ∨ ∃ dd fs, d = some dd ∧ H dd = some (.xd fs)) ∧ Q (.bl b) H
theorem call_isX {X : Cx} {a D : Addr} {oe : Obj} {d : Option Addr} {pn : List (Addr × Obj)} (C : ExcC X.K D) (hz : Zc (.ref D) d oe) (hf : ∃ vs, oe.data = .fields vs) : CallR (X.suite a ((a, oe) :: pn)) (.builtin "isinstance") (rIsX X.K D a d) := by
  intro pins s σ H xs us Q I r h
  obtain ⟨c, cv, b, rfl, hcv, e, hd, q⟩ := h
  cases r with
  | cons rx rr =>
    cases rr with
    | cons rt rr =>
      cases rr
      cases rx
      have ec := hcv _ rt
      subst ec
      obtain ⟨hget, _⟩ := I.pin (a, oe) (List.mem_append.mpr (.inl List.mem_cons_self))
      obtain ⟨vs, hv⟩ := hf
      have J : ∃ od, PySem.W.InstAt s.heap a oe D od := by
        rcases hd with hd | ⟨dd, fs, hd, hh⟩
        · exact ⟨none, hget, hz.1, by unfold PySem.W.notCls; rw [hv] <;> rfl, by rw [hz.2, hd]; trivial⟩
        · obtain ⟨mA, hns, _⟩ := I.hok dd _ hh
          obtain ⟨od, ho, _⟩ := lookIn_ns hns
          exact ⟨some od, hget, hz.1, by unfold PySem.W.notCls; rw [hv] <;> rfl, by rw [hz.2, hd]; exact ho⟩
      obtain ⟨od, J⟩ := J
      exact PySem.W.kia_one (kitx_any C) I.kIn J e (fun z => nomatch z) fun tk => ⟨.bl b, H, I.kept (t' := tk) fun _ _ z => z, rfl, q⟩
def mExF (e : MX) (f : Str) : ME := fun ρ => match e.fs.lookup f with
  | some x => .ok (x, ρ)
  | none => .stuck
def mExIs (e : MX) (tab : List (Str × Bool)) : ME := fun ρ => match tab.lookup e.cls with
  | some b => .ok (.bl b, ρ)
  | none => .stuck
theorem XFs.look {K : PySem.W.Frag} {H : Hp} {f : Str} {x : MV} : ∀ {xs : List (Str × MV)} {vs : List (Str × V)}, XFs K H xs vs → xs.lookup f = some x → ∃ v, vs.lookup f = some v ∧ RV K H x v
  | [], _, _, h => by simp at h
  | (n, y) :: xs, vs, r, h => by
    obtain ⟨v, rr, e1, e2, e3⟩ := r
    subst e1
    rw [List.lookup_cons] at h ⊢
    cases eq : f == n with
    | true => rw [eq] at h; cases h; exact ⟨v, rfl, e2⟩
    | false => rw [eq] at h; exact XFs.look e3 h
section
variable {X : Cx} {c : Ct} {a C : Addr} {oe : Obj} {d : Option Addr} {pn : List (Addr × Obj)} {e : MX} {i : Nat} {n f y : Str} {p p1 p2 pos : Pos}
theorem me_xf (T : XfC X.K C) (hno : PySem.W.findIn X.K (.ref C) f = some none) (hz : Zc (.ref C) d oe) (hf : ∃ vs, oe.data = .fields vs) (hN : X.N[i]? = some n) (hv : Vis X.env.scope n) (hK : c.K = X.K := by rfl)
    (hb : attributeBase (.Name n p) f X.env (eval (.Name n p) X.env) = eval (.Name n p) X.env := by rfl) (hd : (n == ("__debug__" : Str)) = false := by decide) (hcd : (n == ("__classdict__" : Str)) = false := by decide) :
    PE (X.suite a ((a, oe) :: pn)) (.Attribute (.Name n p) f pos) (rdE (cH c i a e d) (mExF e f)) := by
  refine PEw (pe_xf T hno hz hf (pe_var (i := i) hN hv hd hcd) hb) fun σ H Q ⟨F, Hk, bp, ρ, S, h⟩ => ?_
  obtain ⟨⟨bq, e1, e2⟩, xi⟩ := S.2.2
  refine ⟨.ref a, S.1.bor (i, a) (by rw [e1]; exact List.mem_cons_self ..), rfl, rfl, ?_⟩
  unfold mExF at h
  cases el : e.fs.lookup f with
  | none => rw [el] at h; exact h.elim
  | some x =>
    rw [el] at h
    rcases xi with ⟨z, _⟩ | ⟨dx, vfs, q1, q2, q3⟩
    · rw [z] at el; cases el
    · obtain ⟨v, g1, g2⟩ := (q3 (cH c i a e d).K Hk).look el
      exact ⟨dx, vfs, v, q1, S.1.fr _ _ q2, g1, h _ _ _ (Ex.refl _) S.1 g2⟩
theorem me_isX {tab : List (Str × Bool)} (T : ExcC X.K C) (hz : Zc (.ref C) d oe) (hf : ∃ vs, oe.data = .fields vs) (hN : X.N[i]? = some n) (hv : Vis X.env.scope n) (hi : X.mg "isinstance" = none) (hg : Gl X "isinstance") (hy : Gl X y) {Dy : Addr} (my : X.mg y = some (.ref Dy))
    (ht : ∀ b, tab.lookup e.cls = some b → PySem.W.kitOne X.K (.ref C) (.ref Dy) = some b)
    (hd : (n == ("__debug__" : Str)) = false := by decide) (hcd : (n == ("__classdict__" : Str)) = false := by decide) (hyd : (y == ("__debug__" : Str)) = false := by decide) :
    PE (X.suite a ((a, oe) :: pn)) (.Call (.Name "isinstance" p) [.Name n p1, .Name y p2] [] pos) (rdE (cH c i a e d) (mExIs e tab)) := by
  have ha : PA (X.suite a ((a, oe) :: pn)) [.Name n p1, .Name y p2] (tCons (tVar i) (tCons (tC (.ref Dy)) tNil)) := pa_cons (pe_var (i := i) hN hv hd hcd) (pa_cons (pe_glob hy my (v := .ref Dy) rfl hyd) pa_nil)
  refine PEw (pe_callB (call_isX T hz hf) hg hi (by decide +kernel) ha (by decide) (by decide)) fun σ H Q ⟨F, Hk, bp, ρ, S, h⟩ => ?_
  obtain ⟨⟨bq, e1, e2⟩, xi⟩ := S.2.2
  refine ⟨.ref a, S.1.bor (i, a) (by rw [e1]; exact List.mem_cons_self ..), ?_⟩
  unfold mExIs at h
  cases el : tab.lookup e.cls with
  | none => rw [el] at h; exact h.elim
  | some b =>
    rw [el] at h
    refine ⟨.ref Dy, .ref Dy, b, rfl, fun u r => r, ht b el, ?_, h _ _ _ (Ex.refl _) S.1 (RV.bl.mpr rfl)⟩
    rcases xi with ⟨_, z⟩ | ⟨dx, vfs, q1, q2, q3⟩
    · exact .inl z
    · exact .inr ⟨dx, vfs, q1, S.1.fr _ _ q2⟩
end
/-! ### what the text says of its exception classes -/
theorem fa_nil {α : Type} {P : α → Prop} : ∀ p ∈ ([] : List α), P p := fun _ h => nomatch h
theorem fa_cons {α : Type} {P : α → Prop} {x : α} {l : List α} (h : P x) (t : ∀ p ∈ l, P p) : ∀ p ∈ x :: l, P p := fun p hp => by
  rcases List.mem_cons.mp hp with rfl | hp
  · exact h
  · exact t p hp
def xcB (K : PySem.W.Frag) (C : Addr) (fs : List Str) : Bool := xfB K C && decide (PySem.W.findIn K (.ref C) "__class__" = some (some (.builtin "object.__class__"))) && decide (PySem.W.specialIn K (.builtin "object.__class__") "__get__" = some (some (.builtin "getset_descriptor.__get__"))) && decide (PySem.W.takesIn K (.builtin "object.__class__") = some true) && decide (PySem.W.mroIn K C (.type "object") = some true) && fs.all (fun f => decide (PySem.W.findIn K (.ref C) f = some none))
structure XcF (K : PySem.W.Frag) (mg : Str → Option Value) (fs : List Str) (x : Str) : Prop where
  ex : ∃ C, mg x = some (.ref C) ∧ xcB K C fs = true
structure KiT (K : PySem.W.Frag) (mg : Str → Option Value) (y x : Str) (b : Bool) : Prop where
  ex : ∃ C D, mg x = some (.ref C) ∧ mg y = some (.ref D) ∧ PySem.W.kitOne K (.ref C) (.ref D) = some b
structure XcG (K : PySem.W.Frag) (C : Addr) (fs : List Str) : Prop where
  xf : XfC K C
  xc : ExcC K C
  no : ∀ f ∈ fs, PySem.W.findIn K (.ref C) f = some none
theorem xcB_ok {K : PySem.W.Frag} {C : Addr} {fs : List Str} (h : xcB K C fs = true) : XcG K C fs := by
  unfold xcB at h
  simp only [Bool.and_eq_true, decide_eq_true_eq, List.all_eq_true] at h
  obtain ⟨⟨⟨⟨⟨h1, h2⟩, h3⟩, h4⟩, h5⟩, h6⟩ := h
  have T := xfB_ok h1
  exact ⟨T, ⟨T.ga, T.gg, T.exC, T.hdC, h2, h3, h4, h5⟩, h6⟩
theorem xc_at {K : PySem.W.Frag} {mg : Str → Option Value} {fs ts : List Str} {tab : List (Str × Bool)} {x : Str} {C : Addr} (Xs : ∀ x ∈ ts, XcF K mg fs x) (ht : tab.all (fun p => !p.2 || ts.contains p.1) = true) (hC : mg x = some (.ref C)) (hT : (x, true) ∈ tab) : XcG K C fs := by
  have h := List.all_eq_true.mp ht _ hT
  simp at h
  obtain ⟨C', h1, h2⟩ := (Xs x h).ex
  rw [hC] at h1
  cases h1
  exact xcB_ok h2
section
variable {X : Cx} {c : Ct} {a C : Addr} {oe : Obj} {d : Option Addr} {pn : List (Addr × Obj)} {e : MX} {i : Nat} {n f y : Str} {p p1 p2 pos : Pos} {fs : List Str} {tab tab2 : List (Str × Bool)}
theorem mx_f (G : XcG X.K C fs) (hf : f ∈ fs) (hz : Zc (.ref C) d oe) (hv : ∃ vs, oe.data = .fields vs) (hN : X.N[i]? = some n) (hl : Vis X.env.scope n)
    (hb : attributeBase (.Name n p) f X.env (eval (.Name n p) X.env) = eval (.Name n p) X.env := by rfl) (hd : (n == ("__debug__" : Str)) = false := by decide) (hcd : (n == ("__classdict__" : Str)) = false := by decide) (hK : c.K = X.K := by rfl) :
    PE (X.suite a ((a, oe) :: pn)) (.Attribute (.Name n p) f pos) (rdE (cH c i a e d) (mExF e f)) := me_xf G.xf (G.no f hf) hz hv hN hl hK hb hd hcd
theorem mx_is (G : XcG X.K C fs) (Ks : ∀ p ∈ tab2, KiT X.K X.mg y p.1 p.2) (ney : ∃ D, X.mg y = some (.ref D)) (hC : X.mg e.cls = some (.ref C)) (hz : Zc (.ref C) d oe) (hv : ∃ vs, oe.data = .fields vs) (hN : X.N[i]? = some n) (hl : Vis X.env.scope n) (hi : X.mg "isinstance" = none) (hg : Gl X "isinstance") (hy : Gl X y)
    (hd : (n == ("__debug__" : Str)) = false := by decide) (hcd : (n == ("__classdict__" : Str)) = false := by decide) (hyd : (y == ("__debug__" : Str)) = false := by decide) :
    PE (X.suite a ((a, oe) :: pn)) (.Call (.Name "isinstance" p) [.Name n p1, .Name y p2] [] pos) (rdE (cH c i a e d) (mExIs e tab2)) := by
  obtain ⟨Dy, my⟩ := ney
  refine me_isX G.xc hz hv hN hl hi hg hy my (fun b hb => ?_) hd hcd hyd
  obtain ⟨C', D', k1, k2, k3⟩ := (Ks _ (lookup_mem hb)).ex
  rw [hC] at k1
  cases k1
  rw [my] at k2
  cases k2
  exact k3
end
theorem takes_never {X : Cx} : Takes X (fun _ _ _ _ => False) := fun _ _ ⟨_, _, _, _, _, _, _, _, _, _, _, _, _, _, _, _, w⟩ => w.elim
def inCls (s : Stmt) (j : Nat) : Stmt := match s with
  | .ClassDef _ _ _ b _ _ _ _ _ _ _ => b.getD j (.Pass ⟨0, 0, 0, 0⟩)
  | _ => .Pass ⟨0, 0, 0, 0⟩
theorem owX_mk {K : PySem.W.Frag} {mg : Str → Option Value} {x : Str} {C fI : Addr} {nm q : Str} {N : Addr} {bs bm : List Value} {sn : List Str} {sub : List Value} {ab : Bool} {col : Option Bool} {dd : Option Addr} {k0 k1 k2 k3 k5 : Option Value}
    (m : mg x = some (.ref C)) (l : K.lookup C = some (excClassObj nm q C N bs bm true sn sub ab col dd k0 k1 k2 k3 k5 "ValueError.__new__")) (r : PySem.HandSPX.refsVE bm = true) (sa : PySem.W.findIn K (.ref C) "__setattr__" = some (some (.builtin "object.__setattr__")))
    (eC : PySem.W.subIn K (.ref C) (.type "BaseException") = some true) (tC : PySem.W.typeIn K (.ref C) = some (.type "type")) (kC : PySem.W.keepIn K (.ref C) = true) (iC : PySem.W.findIn K (.ref C) "__init__" = some (some (.ref fI))) (tI : PySem.W.typeIn K (.ref fI) = some (.type "function")) : OwX K mg x C fI :=
  ⟨⟨⟨nm, q, N, bs, bm, sn, sub, ab, col, dd, k0, k1, k2, k3, k5, l, r⟩, sa, eC, tC, kC⟩, m, iC, tI⟩
end Tm

set_option Elab.async false
set_option linter.all false
set_option maxRecDepth 100000
set_option maxHeartbeats 2000000
namespace Tm
open PySem L2
open Evl (Ex ex_rd ex_l ex_t)
/-! ### a new list out of an operator -/
def fAddL : MV → MV → Option (List MV)
  | .lst a, .lst b => if szOk (a.length + b.length) then some (a ++ b) else none
  | _, _ => none
def fMultL : MV → MV → Option (List MV)
  | .lst a, .int k => if decide (-(2 ^ 63) ≤ k) && decide (k < 2 ^ 63) && szOk (a.length * k.toNat) then some (List.replicate k.toNat a).flatten else none
  | _, _ => none
def mOpO (f : MV → MV → Option (List MV)) (a b : ME) : ME := fun ρ => (a ρ).bind fun x ρ1 => (b ρ1).bind fun y ρ2 => match f x y with
  | some zs => .ok (.own zs, ρ2)
  | none => .stuck
section
variable {X : Cx} {c : Ct} {a b : Expr} {ma mb : ME} {pos : Pos}
def OpN (K : PySem.W.Frag) (f : MV → MV → Option (List MV)) (r : R2) : Prop := ∀ (x y : MV) (zs : List MV) (v w : V) (Hk H : Hp) (Q : VK), f x y = some zs → Ex Hk H → RV K Hk x v → RV K Hk y w →
  (∀ p vs, H p = none → RVs K Hk zs vs → Q (.ref p) (upd H p (.lst vs))) → r v w H Q
theorem mo_op {op : Operator} {f : MV → MV → Option (List MV)} {r : R2} (hop : OpR X (binaryOp op) r) (o : OpN c.K f r) (ha : PE X a (rdE c ma)) (hb : PE X b (rdE c mb)) : PE X (.BinOp a op b pos) (rdO c (mOpO f ma mb)) :=
  PEw (pe_op hop ha hb) fun σ H Q h => by
    obtain ⟨F, Hk, bp, ρ, S, h⟩ := h
    refine rdw (bE postO S h) fun v H1 ⟨Hk1, x, ρ1, x1, S1, r1, h1⟩ => ?_
    refine rdw (bE postO S1 h1) fun w H2 ⟨Hk2, y, ρ2, x2, S2, r2, h2⟩ => ?_
    split at h2
    · rename_i zs e
      exact o x y zs v w Hk2 H2 Q e S2.1.ex (RV.mono x2 _ _ r1) r2 fun p vs hp rv => h2 _ _ _ (Ex.refl _) (S2.1.pushOwn hp rv)
    · exact h2.elim
theorem on_add {K : PySem.W.Frag} : OpN K fAddL (rAddM K) := by
  intro x y zs v w Hk H Q e ex r1 r2 q
  unfold fAddL at e
  split at e
  · split at e
    · rename_i a b h
      cases e
      obtain ⟨p1, vs, rfl, h1, s1⟩ := RV.lst.mp r1
      obtain ⟨p2, ws, rfl, h2, s2⟩ := RV.lst.mp r2
      refine .inr (.inr (.inr (.inl ⟨p1, p2, vs, ws, rfl, rfl, ex _ _ h1, ex _ _ h2, ?_, fun p hp => q p _ hp (s1.append s2)⟩)))
      rw [s1.length, s2.length]; exact szOk_iff.mp h
    · cases e
  · cases e
theorem on_mult {K : PySem.W.Frag} : OpN K fMultL rMulM := by
  intro x y zs v w Hk H Q e ex r1 r2 q
  unfold fMultL at e
  split at e
  · rename_i a k
    split at e
    · rename_i h
      cases e
      simp only [Bool.and_eq_true, decide_eq_true_eq] at h
      obtain ⟨p1, vs, rfl, h1, s1⟩ := RV.lst.mp r1
      refine .inr (.inr (.inl ⟨p1, k, vs, rfl, RV.int.mp r2, ex _ _ h1, h.1.1, h.1.2, ?_, fun p hp => q p _ hp (RVs.rep s1 _)⟩))
      rw [s1.length]; exact szOk_iff.mp h.2
    · cases e
  · cases e
theorem mo_add (ha : PE X a (rdE c ma)) (hb : PE X b (rdE c mb)) (hK : c.K = X.K := by rfl) : PE X (.BinOp a .Add b pos) (rdO c (mOpO fAddL ma mb)) := mo_op op_addM (by rw [← hK]; exact on_add) ha hb
theorem mo_mult (ha : PE X a (rdE c ma)) (hb : PE X b (rdE c mb)) : PE X (.BinOp a .Mult b pos) (rdO c (mOpO fMultL ma mb)) := mo_op op_mulM on_mult ha hb
end
end Tm

set_option Elab.async false
set_option linter.all false
set_option maxRecDepth 100000
set_option maxHeartbeats 2000000
namespace Tm
open PySem L2
open Evl (Ex ex_rd ex_l ex_t)
section
variable {X : Cx} {c : Ct} {p pos apos cpos : Pos} {o e : Expr} {es : List Expr} {a : ME} {m : MA}
/-! ### a text's methods -/
def smE (f : Str → List MV → Option MV) (z : Str) (ys : List MV) (ρ2 : Env) : Res (MV × Env) := match f z ys with | some w => .ok (w, ρ2) | none => .stuck
def mSm (f : Str → List MV → Option MV) (a : ME) (b : MA) : ME := fun ρ => (a ρ).bind fun x ρ1 => match x with
  | .str z => (b ρ1).bind (smE f z)
  | _ => .stuck
def SmS (K : PySem.W.Frag) (f : Str → List MV → Option MV) (r : V → List V → Hp → VK → Prop) : Prop := ∀ (z : Str) (ys : List MV) (w : MV) (us : List V) (Hk H : Hp) (Q : VK), f z ys = some w → Ex Hk H → RVs K Hk ys us → (∀ u, RV K Hk w u → Q u H) →
  (∀ q ob, H q = none → RV K (upd Hk q ob) w (.ref q) → Q (.ref q) (upd H q ob)) → r (.str z) us H Q
theorem rd_sm {f : Str → List MV → Option MV} {r : V → List V → Hp → VK → Prop} (s : SmS c.K f r) {σ : St} {H : Hp} {Q : VK} (h : rdE c (mSm f a m) σ H Q) : tBM c.K "str" r (rdE c a) (rdA c m) σ H Q := by
  obtain ⟨F, Hk, bp, ρ, S, h⟩ := h
  refine rdw (bE postE S h) fun v H1 ⟨Hk1, x, ρ1, x1, S1, r1, h1⟩ => ?_
  cases x with
  | str z =>
    rw [RV.str.mp r1]
    refine ⟨rfl, ?_⟩
    refine rdAw (bA postE S1 h1) fun us H2 ⟨Hk2, ys, ρ2, x2, S2, r2, h2⟩ => ?_
    have h2 : okE c F Hk2 bp σ Q (match f z ys with | some w => .ok (w, ρ2) | none => .stuck) := h2
    cases ef : f z ys with
    | none => rw [ef] at h2; exact h2.elim
    | some w =>
      rw [ef] at h2
      exact s z ys w us Hk2 H2 Q ef S2.1.ex r2 (fun u ru => h2 _ _ u (Ex.refl _) S2.1 ru) fun q ob hq ru => h2 _ _ _ (Ex.new (S2.1.ex.back hq)) (S2.1.new hq) ru
  | _ => exact h1.elim
theorem me_sm {f : Str → List MV → Option MV} {r : V → List V → Hp → VK → Prop} {id : String} {name : Str} (s : SmS c.K f r) (slot : Slot "str" name id) (hty : typeOf (.builtin id) = pure (.type "method_descriptor")) (hm : MtR X id r) (ho : PE X o (rdE c a)) (ha : PA X (e :: es) (rdA c m)) (hK : c.K = X.K := by rfl)
    (hbase : attributeBase o name X.env (eval o X.env) = eval o X.env := by rfl)
    (hfew : ((backTo cpos (starEach (e :: es) X.env)).all (fun x => !x.1) && (backToKw cpos (keywordEach [] X.env)).all (fun x => x.1.isSome)
      && decide ((e :: es).length + ([] : List Keyword).length + (if ([] : List Keyword).isEmpty then 0 else 1) < 30)) = true := by rfl)
    (hline : (apos.endLine == cpos.line) = true := by rfl) (hs : starEach (e :: es) X.env = (false, eval e X.env) :: starEach es X.env := by rfl) (hplain : (backTo cpos (starEach es X.env)).any (·.1) = false := by rfl) :
    PE X (.Call (.Attribute o name apos) (e :: es) [] cpos) (rdE c (mSm f a m)) :=
  PEw (pe_bm PySem.F.plainAttrs_str slot hty hm ho ha hbase hfew hline hs hplain) fun σ H Q h => by
    have := rd_sm s h
    rw [hK] at this
    exact this
/-! ### a list's methods that only read -/
def mLx (f : List MV → List MV → Option MV) (a : ME) (b : MA) : ME := fun ρ => (a ρ).bind fun x ρ1 => match x with
  | .lst xs => (b ρ1).bind fun ys ρ2 => (match f xs ys with | some w => .ok (w, ρ2) | none => .stuck)
  | _ => .stuck
def LxS (K : PySem.W.Frag) (f : List MV → List MV → Option MV) (r : V → List V → Hp → VK → Prop) : Prop := ∀ (xs ys : List MV) (w : MV) (q : Addr) (vs us : List V) (Hk H : Hp) (Q : VK), f xs ys = some w → Ex Hk H → H q = some (.lst vs) → RVs K Hk xs vs → RVs K Hk ys us → (∀ u, RV K Hk w u → Q u H) → r (.ref q) us H Q
theorem rd_lx {f : List MV → List MV → Option MV} {r : V → List V → Hp → VK → Prop} (s : LxS c.K f r) {σ : St} {H : Hp} {Q : VK} (h : rdE c (mLx f a m) σ H Q) : tBM c.K "list" r (rdE c a) (rdA c m) σ H Q := by
  obtain ⟨F, Hk, bp, ρ, S, h⟩ := h
  refine rdw (bE postE S h) fun v H1 ⟨Hk1, x, ρ1, x1, S1, r1, h1⟩ => ?_
  cases x with
  | lst xs =>
    obtain ⟨q, vs, rfl, g1, g2⟩ := RV.lst.mp r1
    refine ⟨.inl ⟨rfl, _, SqL.of (S1.1.ex _ _ g1)⟩, ?_⟩
    refine rdAw (bA postE S1 h1) fun us H2 ⟨Hk2, ys, ρ2, x2, S2, r2, h2⟩ => ?_
    have h2 : okE c F Hk2 bp σ Q (match f xs ys with | some w => .ok (w, ρ2) | none => .stuck) := h2
    cases ef : f xs ys with
    | none => rw [ef] at h2; exact h2.elim
    | some w =>
      rw [ef] at h2
      exact s xs ys w q vs us Hk2 H2 Q ef S2.1.ex (S2.1.ex _ _ (x2 _ _ g1)) (g2.mono x2) r2 (fun u ru => h2 _ _ u (Ex.refl _) S2.1 ru)
  | _ => exact h1.elim
theorem me_lx {f : List MV → List MV → Option MV} {r : V → List V → Hp → VK → Prop} {id : String} {name : Str} (s : LxS c.K f r) (slot : Slot "list" name id) (hty : typeOf (.builtin id) = pure (.type "method_descriptor")) (hm : MtR X id r) (ho : PE X o (rdE c a)) (ha : PA X (e :: es) (rdA c m)) (hK : c.K = X.K := by rfl)
    (hbase : attributeBase o name X.env (eval o X.env) = eval o X.env := by rfl)
    (hfew : ((backTo cpos (starEach (e :: es) X.env)).all (fun x => !x.1) && (backToKw cpos (keywordEach [] X.env)).all (fun x => x.1.isSome)
      && decide ((e :: es).length + ([] : List Keyword).length + (if ([] : List Keyword).isEmpty then 0 else 1) < 30)) = true := by rfl)
    (hline : (apos.endLine == cpos.line) = true := by rfl) (hs : starEach (e :: es) X.env = (false, eval e X.env) :: starEach es X.env := by rfl) (hplain : (backTo cpos (starEach es X.env)).any (·.1) = false := by rfl) :
    PE X (.Call (.Attribute o name apos) (e :: es) [] cpos) (rdE c (mLx f a m)) :=
  PEw (pe_bm PySem.F.plainAttrs_list slot hty hm ho ha hbase hfew hline hs hplain) fun σ H Q h => by
    have := rd_lx s h
    rw [hK] at this
    exact this
end
/-! ### which methods -/
def strsOf : List MV → Option (List Str)
  | [] => some []
  | .str z :: r => (match strsOf r with | some l => some (z :: l) | none => none)
  | _ :: _ => none
theorem strs_rv {K : PySem.W.Frag} {H : Hp} : ∀ {xs : List MV} {ss : List Str} {vs : List V}, strsOf xs = some ss → RVs K H xs vs → vs = ss.map V.str
  | [], ss, vs, h, r => by cases h; exact RVs.nil.mp r
  | .str z :: xs, ss, vs, h, r => by
    obtain ⟨v, us, rfl, r1, r2⟩ := RVs.cons.mp r
    unfold strsOf at h
    cases e : strsOf xs with
    | none => rw [e] at h; cases h
    | some l =>
      rw [e] at h
      cases h
      rw [RV.str.mp r1, strs_rv e r2]; rfl
  | .non :: _, _, _, h, _ => by cases h
  | .bl _ :: _, _, _, h, _ => by cases h
  | .int _ :: _, _, _, h, _ => by cases h
  | .tup _ :: _, _, _, h, _ => by cases h
  | .lst _ :: _, _, _, h, _ => by cases h
  | .own _ :: _, _, _, h, _ => by cases h
  | .raw _ :: _, _, _, h, _ => by cases h
  | .scr _ :: _, _, _, h, _ => by cases h
  | .fnc _ :: _, _, _, h, _ => by cases h
  | .obj _ _ :: _, _, _, h, _ => by cases h
def joinM (z : Str) (ss : List Str) : Option MV := if decide ((ss.map (·.length)).sum + ss.length * z.length ≤ 16777216) then some (.str (Txt.join z ss)) else none
def smJoin : Str → List MV → Option MV
  | z, [.lst xs] => (strsOf xs).bind (joinM z)
  | z, [.tup xs] => (strsOf xs).bind (joinM z)
  | _, _ => none
theorem strs_map {K : PySem.W.Frag} {H : Hp} : ∀ (ss : List Str), RVs K H (ss.map MV.str) (ss.map V.str)
  | [] => RVs.nil.mpr rfl
  | s :: ss => RVs.cons.mpr ⟨_, _, rfl, RV.str.mpr rfl, strs_map ss⟩
theorem ss_join {K : PySem.W.Frag} : SmS K smJoin (fun x xs H Q => ∃ a p, ∃ ys : List Str, x = .str a ∧ xs = [.ref p] ∧ (SqL K H p (ys.map V.str) ∨ SqT K H p (ys.map V.str)) ∧ (ys.map (·.length)).sum + ys.length * a.length ≤ 16777216 ∧ Q (.str (Txt.join a ys)) H) := by
  intro z ys w us Hk H Q e ex r q qn
  have fin : ∀ ss, joinM z ss = some w → (ss.map (·.length)).sum + ss.length * z.length ≤ 16777216 ∧ w = .str (Txt.join z ss) := fun ss h => by
    unfold joinM at h
    split at h
    · rename_i hd
      exact ⟨of_decide_eq_true hd, by cases h; rfl⟩
    · cases h
  unfold smJoin at e
  split at e
  · rename_i xs
    obtain ⟨v, rfl, rv⟩ := rvs1 r
    obtain ⟨p, vs, rfl, h1, s1⟩ := RV.lst.mp rv
    cases es : strsOf xs with
    | none => rw [es] at e; cases e
    | some ss =>
      rw [es] at e
      obtain ⟨f1, rfl⟩ := fin ss e
      have := strs_rv es s1
      subst this
      exact ⟨z, p, ss, rfl, rfl, .inl (SqL.of (ex _ _ h1)), f1, q _ (RV.str.mpr rfl)⟩
  · rename_i xs
    obtain ⟨v, rfl, rv⟩ := rvs1 r
    obtain ⟨p, vs, rfl, h1, s1⟩ := RV.tup.mp rv
    cases es : strsOf xs with
    | none => rw [es] at e; cases e
    | some ss =>
      rw [es] at e
      obtain ⟨f1, rfl⟩ := fin ss e
      have := strs_rv es s1
      subst this
      exact ⟨z, p, ss, rfl, rfl, .inr (ex_t ex h1), f1, q _ (RV.str.mpr rfl)⟩
  · cases e
def smSplit : Str → List MV → Option MV
  | z, [.str b] => if (b.length == 0) = false ∧ z.length + 2 ≤ sizeLine then some (.lst ((Txt.split z b).map MV.str)) else none
  | _, _ => none
theorem ss_split {K : PySem.W.Frag} : SmS K smSplit (fun x xs H Q => ∃ a b, x = .str a ∧ xs = [.str b] ∧ (b.length == 0) = false ∧ a.length + 2 ≤ sizeLine ∧ rNewStrs (Txt.split a b) H Q) := by
  intro z ys w us Hk H Q e ex r q qn
  unfold smSplit at e
  split at e
  · rename_i b
    split at e
    · rename_i h
      cases e
      obtain ⟨v, rfl, rv⟩ := rvs1 r
      rw [RV.str.mp rv]
      exact ⟨z, b, rfl, rfl, h.1, h.2, fun p hp => qn p _ hp (RV.lst.mpr ⟨p, _, rfl, upd_same, strs_map _⟩)⟩
    · cases e
  · cases e
def smPartition : Str → List MV → Option MV
  | z, [.str b] => if (b.length == 0) = false ∧ z.length ≤ sizeLine then some (.tup [.str (Txt.partition z b).1, .str (Txt.partition z b).2.1, .str (Txt.partition z b).2.2]) else none
  | _, _ => none
theorem ss_partition {K : PySem.W.Frag} : SmS K smPartition (fun x xs H Q => ∃ a b, x = .str a ∧ xs = [.str b] ∧ (b.length == 0) = false ∧ a.length ≤ sizeLine ∧
    ∀ p, H p = none → Q (.ref p) (upd H p (.tup [.str (Txt.partition a b).1, .str (Txt.partition a b).2.1, .str (Txt.partition a b).2.2]))) := by
  intro z ys w us Hk H Q e ex r q qn
  unfold smPartition at e
  split at e
  · rename_i b
    split at e
    · rename_i h
      cases e
      obtain ⟨v, rfl, rv⟩ := rvs1 r
      rw [RV.str.mp rv]
      exact ⟨z, b, rfl, rfl, h.1, h.2, fun p hp => qn p _ hp (RV.tup.mpr ⟨p, _, rfl, SqT.of upd_same, strs_map [(Txt.partition z b).1, (Txt.partition z b).2.1, (Txt.partition z b).2.2]⟩)⟩
    · cases e
  · cases e
def smZfill : Str → List MV → Option MV
  | z, [.int i] => if PadOk i = true then some (.str (Txt.zfill z i)) else none
  | _, _ => none
theorem ss_zfill {K : PySem.W.Frag} : SmS K smZfill (fun x xs H Q => ∃ (a : Str) (i : Int), x = .str a ∧ xs = [.int i] ∧ PadOk i = true ∧ Q (.str (Txt.zfill a i)) H) := by
  intro z ys w us Hk H Q e ex r q qn
  unfold smZfill at e
  split at e
  · rename_i i
    split at e
    · rename_i h
      cases e
      obtain ⟨v, rfl, rv⟩ := rvs1 r
      rw [RV.int.mp rv]
      exact ⟨z, i, rfl, rfl, h, q _ (RV.str.mpr rfl)⟩
    · cases e
  · cases e
def smIndex : Str → List MV → Option MV
  | z, [.str b] => (match Builtin.Str.occurrences z b 0 z.length 1 with | i :: _ => some (.int (i : Nat)) | [] => none)
  | _, _ => none
theorem ss_index {K : PySem.W.Frag} : SmS K smIndex (fun x xs H Q => ∃ a b i rest, x = .str a ∧ xs = [.str b] ∧ Builtin.Str.occurrences a b 0 a.length 1 = i :: rest ∧ Q (.int (i : Nat)) H) := by
  intro z ys w us Hk H Q e ex r q qn
  unfold smIndex at e
  split at e
  · rename_i b
    split at e
    · rename_i i rest h
      cases e
      obtain ⟨v, rfl, rv⟩ := rvs1 r
      rw [RV.str.mp rv]
      exact ⟨z, b, i, rest, rfl, rfl, h, q _ (RV.int.mpr rfl)⟩
    · cases e
  · cases e
def lxIndex : List MV → List MV → Option MV
  | xs, [.str b] => (match strsOf xs with
    | some ss => (match ss.findIdx? (fun s => decide (s = b)) with | some j => some (.int (j : Nat)) | none => none)
    | none => none)
  | _, _ => none
theorem lx_index {K : PySem.W.Frag} : LxS K lxIndex (rIndex K) := by
  intro xs ys w q vs us Hk H Q e ex hq r1 r2 k
  unfold lxIndex at e
  split at e
  · rename_i b
    split at e
    · rename_i ss es
      split at e
      · rename_i j ej
        cases e
        obtain ⟨v, rfl, rv⟩ := rvs1 r2
        rw [RV.str.mp rv]
        have := strs_rv es r1
        subst this
        obtain ⟨hj, h1, h2⟩ := List.findIdx?_eq_some_iff_getElem.mp ej
        refine ⟨q, ss.map V.str, .str b, j, .str ss[j], rfl, rfl, SqL.of hq, rfl, ?_, by simp [hj], ?_, fun m z' hm hz => ?_, k _ (RV.int.mpr rfl)⟩
        · rw [List.all_map, List.all_eq_true]
          exact fun _ _ => rfl
        · have h1 := of_decide_eq_true h1
          rw [h1]
          simp [eqV]
        · have hlt : m < ss.length := by omega
          have : z' = .str ss[m] := by simpa [hlt] using hz.symm
          subst this
          have h3 := h2 m hm
          have h3 : ¬ ss[m] = b := by simpa using h3
          simp [eqV, h3]
      · cases e
    · cases e
  · cases e
/-! ### while -/
def mWhileN : Nat → MT → MS → MS
  | 0, _, _ => fun _ => .stuck
  | n + 1, t, b => fun ρ => (t ρ).bind fun k ρ1 => if k then ((b ρ1).bind fun f ρ2 => match f with
    | .nx => mWhileN n t b ρ2
    | .ct => mWhileN n t b ρ2
    | .br => .ok (.nx, ρ2)
    | .rt v => .ok (.rt v, ρ2)) else .ok (.nx, ρ1)
def mWhile (t : MT) (b : MS) : MS := mWhileN 1000000 t b
section
variable {X : Cx} {c : Ct} {pos : Pos} {t : MT} {b : MS}
theorem okS.wl {F Hk : Hp} {bp : List (Nat × Addr)} {D : Ends} {n : Nat} {N : St → Hp → Prop} (hN : ∀ Hk' H' σ' ρ', Ex Hk Hk' → RS c.K F Hk' H' bp σ' ρ' → okS c F Hk' bp D (mWhileN n t b ρ') → N σ' H') {r : Res (Fl × Env)}
    (h : okS c F Hk bp D (r.bind fun f ρ2 => match f with | .nx => mWhileN n t b ρ2 | .ct => mWhileN n t b ρ2 | .br => .ok (.nx, ρ2) | .rt v => .ok (.rt v, ρ2))) : okS c F Hk bp { D with nx := N, ct := N, bk := D.nx } r := by
  cases r with
  | stuck => exact h
  | exc e ρ => exact h
  | ok q =>
    obtain ⟨f, ρ1⟩ := q
    cases f with
    | nx => exact fun Hk1 H1 σ1 x1 S1 => hN Hk1 H1 σ1 ρ1 x1 S1 (okS.mono x1 h)
    | ct => exact fun Hk1 H1 σ1 x1 S1 => hN Hk1 H1 σ1 ρ1 x1 S1 (okS.mono x1 h)
    | br => exact h
    | rt x => exact h
theorem ms_while {tst : Expr} {body : List Stmt} (hp : PassesOwn (model X.prog X.w) X.A X.env X.xe) (ht : PT X tst (rdT c t)) (hb : PSs X body (rdS c b)) : PS X (.While tst body [] pos) (rdS c (mWhile t b)) :=
  PSw (ps_while hp ht hb) fun D σ H h => by
    obtain ⟨F, Hk, bp, ρ, S, h⟩ := h
    refine ⟨fun m σ' H' => ∃ Hk' ρ', Ex Hk Hk' ∧ At c F Hk' H' bp σ' ρ' ∧ okS c F Hk' bp D (mWhileN m t b ρ'), ⟨1000000, Hk, ρ, Ex.refl _, S, h⟩, ?_⟩
    rintro m σ1 H1 ⟨Hk1, ρ1, x1, S1, h1⟩
    cases m with
    | zero => exact h1.elim
    | succ m =>
      refine rdTw (bT (postS (σ := σ1)) S1 h1) fun k H2 ⟨Hk2, ρ2, x2, S2, h2⟩ => ?_
      cases k with
      | false => rw [if_neg (by decide)] at h2 ⊢; exact h2 _ _ _ (Ex.refl _) S2.1
      | true =>
        rw [if_pos rfl] at h2 ⊢
        refine ⟨fun σ' H' => ∃ Hk' ρ', Ex Hk Hk' ∧ At c F Hk' H' bp σ' ρ' ∧ okS c F Hk' bp D (mWhileN m t b ρ'), fun σ' H' w => ⟨m, Nat.lt_succ_self _, w⟩, ?_⟩
        exact ⟨F, Hk2, bp, ρ2, S2, okS.wl (fun Hk' H' σ' ρ' x' S' h' => ⟨Hk', ρ', (x1.trans x2).trans x', ⟨S', S.2⟩, h'⟩) h2⟩
end
/-! ### a call without arguments -/
section
variable {X : Cx} {c : Ct} {k : Nat} {fa : Addr} {fd : FuncData} {ps : List Str} {x : Str} {p pos : Pos} {f : MF}
theorem mo_callZ (F : FnOk X.prog X.w X.K X.mg X.base (L2.CX X.prog X.w) k fa fd ps (spF X.K X.mg 0 [] f)) (hr : Room k X.A) (hm : X.mg x = some (.ref fa)) (hk : PySem.W.keepIn X.K (.ref fa) = true) (hb : Binds X.K fd ps [])
    (hg : Gl X x := by rfl) (hK : c.K = X.K := by rfl) (hM : c.mg = X.mg := by rfl) (hdb : (x == ("__debug__" : Str)) = false := by decide) : PE X (.Call (.Name x p) [] [] pos) (rdO c (mCall0 f mNil)) :=
  PEw (pe_call0 F hr hg hm hk hb .nil passes0 hdb) fun σ H Q h => by
    have := rd_call0 (a := mNil) lng_nil h
    rw [hK, hM] at this
    obtain ⟨F', Hk, bp, ρ, S, q⟩ := this
    exact q _ _ _ (Ex.refl _) S.1 (RVs.nil.mpr rfl)
theorem mf_callZ {j : Nat} (G : Fd X.prog X.w X.K X.mg X.base x k [] [] f) (hr : Room j X.A) (hj : k ≤ j) (hg : Gl X x := by rfl) (hK : c.K = X.K := by rfl) (hM : c.mg = X.mg := by rfl) (hdb : (x == ("__debug__" : Str)) = false := by decide) : PE X (.Call (.Name x p) [] [] pos) (rdO c (mCall0 f mNil)) := by
  obtain ⟨fa, fd, F, hm, hk, hb⟩ := G.ex
  exact mo_callZ F (hr.mono hj) hm hk hb hg hK hM hdb
end
end Tm

set_option Elab.async false
set_option linter.all false
set_option maxRecDepth 100000
set_option maxHeartbeats 2000000
namespace Tm
open PySem L2
open Evl (Ex ex_rd ex_l ex_t)
/-! ### an owned list looked at: its length, its slices -/
section
variable {X : Cx} {c : Ct} {p p2 pos : Pos} {x : Str} {i : Nat}
def lenV (ρ : Env) (i : Nat) : Option MV := match ρ[i]? with
  | some (some (.own xs)) => some (.int xs.length)
  | some (some x) => bLen [x]
  | _ => none
def mLenV (i : Nat) : ME := fun ρ => match lenV ρ i with | some z => .ok (z, ρ) | none => .stuck
theorem bLen_per {x z : MV} (h : bLen [x] = some z) : x.per = true := by
  cases x <;> first | rfl | cases h
theorem me_lenV (hm : X.mg "len" = none) (hN : X.N[i]? = some x) (hv : Vis X.env.scope x) (hg : Gl X "len" := by rfl) (hK : c.K = X.K := by rfl) (hd : (x == ("__debug__" : Str)) = false := by decide) (hcd : (x == ("__classdict__" : Str)) = false := by decide)
    (he : starEach [Expr.Name x p] X.env = (false, eval (.Name x p) X.env) :: starEach [] X.env := by rfl) (hpl : (backTo pos (starEach [] X.env)).any (·.1) = false := by rfl) : PE X (.Call (.Name "len" p2) [.Name x p] [] pos) (rdE c (mLenV i)) :=
  PEw (pe_callB cr_lenM hg hm (by decide +kernel) (pa_cons (pe_var hN hv hd hcd) pa_nil he) (by decide) (by decide) he hpl) fun σ H Q h => by
    obtain ⟨F, Hk, bp, ρ, S, h⟩ := h
    unfold mLenV at h
    cases e : lenV ρ i with
    | none => rw [e] at h; exact h.elim
    | some z =>
      rw [e] at h
      unfold lenV at e
      split at e
      · rename_i xs hx
        cases e
        obtain ⟨q, vs, e1, e2, e3, e4, e5⟩ := S.1.getOwn hx
        refine ⟨_, e1, ?_⟩
        rw [← hK]
        exact .inl ⟨q, vs, rfl, .inl (SqL.of e2), by rw [e3.length]; exact h _ _ _ (Ex.refl _) S.1 (RV.int.mpr rfl)⟩
      · rename_i x n hx
        have px := bLen_per e
        obtain ⟨w, e1, r1⟩ := S.1.get hx px
        refine ⟨w, e1, ?_⟩
        rw [← hK]
        exact cs_len [x] z [w] Hk H Q e S.1.ex (RVs.cons.mpr ⟨w, [], rfl, r1, RVs.nil.mpr rfl⟩) (fun u ru => h _ _ u (Ex.refl _) S.1 ru) fun q ob hq ru => h _ _ _ (Ex.new (S.1.ex.back hq)) (S.1.new hq) ru
      · cases e
abbrev MP := Env → Res (Option Int × Env)
def slV (ρ : Env) (i : Nat) (l h : Option Int) : Option (List MV) := match ρ[i]? with
  | some (some (.own xs)) => some (cutM xs l h)
  | some (some (.lst xs)) => some (cutM xs l h)
  | _ => none
theorem wP {m : MP} {σ : St} {H : Hp} {Q Q' : Option Int → Hp → Prop} : rdP c m σ H Q → (∀ v H, Q v H → Q' v H) → rdP c m σ H Q' := fun ⟨F, Hk, bp, ρ, S, q⟩ w => ⟨F, Hk, bp, ρ, S, by
  cases e : m ρ with
  | ok a => rw [e] at q; exact fun Hk2 H2 x S => w _ _ (q Hk2 H2 x S)
  | exc e' ρ => rw [e] at q; exact q
  | stuck => rw [e] at q; exact q⟩
def mSlV (i : Nat) (l h : MP) : ME := fun ρ => if has ρ i then (l ρ).bind fun a ρ1 => (h ρ1).bind fun b ρ2 => match slV ρ2 i a b with | some zs => .ok (.lst zs, ρ2) | none => .stuck else .stuck
def mSlVO (i : Nat) (l h : MP) : ME := fun ρ => if has ρ i then (l ρ).bind fun a ρ1 => (h ρ1).bind fun b ρ2 => match slV ρ2 i a b with | some zs => .ok (.own zs, ρ2) | none => .stuck else .stuck
theorem slV_rs {F Hk H : Hp} {bp : List (Nat × Addr)} {σ : St} {ρ : Env} {a b : Option Int} {zs : List MV} {v : V} (S : At c F Hk H bp σ ρ) (e : slV ρ i a b = some zs) (ev : σ[i]? = some (some v)) :
    ∃ q vs, v = .ref q ∧ SqL c.K H q vs ∧ RVs c.K Hk zs (cutV vs a b) := by
  unfold slV at e
  split at e
  · rename_i xs hx
    cases e
    obtain ⟨q, vs, e1, e2, e3, e4, e5⟩ := S.1.getOwn hx
    rw [ev] at e1
    cases e1
    exact ⟨q, vs, rfl, SqL.of e2, e3.cut a b⟩
  · rename_i xs hx
    cases e
    obtain ⟨w, e1, r1⟩ := S.1.get hx rfl
    rw [ev] at e1
    cases e1
    obtain ⟨q, vs, rfl, g1, g2⟩ := RV.lst.mp r1
    exact ⟨q, vs, rfl, SqL.of (S.1.ex _ _ g1), g2.cut a b⟩
  · cases e
theorem me_slV {lo hi : Option Expr} {ml mh : MP} (hN : X.N[i]? = some x) (hv : Vis X.env.scope x) (hl : PO X lo (rdP c ml)) (hh : PO X hi (rdP c mh)) (hK : c.K = X.K := by rfl) (hd : (x == ("__debug__" : Str)) = false := by decide) (hcd : (x == ("__classdict__" : Str)) = false := by decide) :
    PE X (.Subscript (.Name x p) (.Slice lo hi none p2) pos) (rdE c (mSlV i ml mh)) :=
  PEw (pe_slice sl_list (pe_var hN hv hd hcd) hl hh) fun σ H Q h => by
    obtain ⟨F, Hk, bp, ρ, S, h⟩ := h
    unfold mSlV at h
    split at h
    · rename_i hh
      obtain ⟨v, ev⟩ := has_rs S hh
      refine ⟨v, ev, ?_⟩
      refine wP (bP postE S h) fun a H2 ⟨Hk2, ρ2, x2, S2, h2⟩ => ?_
      refine wP (bP postE S2 h2) fun b H3 ⟨Hk3, ρ3, x3, S3, h3⟩ => ?_
      have h3 : okE c F Hk3 bp σ Q (match slV ρ3 i a b with | some zs => .ok (.lst zs, ρ3) | none => .stuck) := h3
      cases e : slV ρ3 i a b with
      | none => rw [e] at h3; exact h3.elim
      | some zs =>
        rw [e] at h3
        obtain ⟨q, vs, rfl, s1, s2⟩ := slV_rs S3 e ev
        rw [← hK]
        exact ⟨q, vs, rfl, s1, fun w hw => h3 _ _ _ (Ex.new (S3.1.ex.back hw)) (S3.1.new hw) (RV.lst.mpr ⟨w, _, rfl, upd_same, s2.mono (Ex.new (S3.1.ex.back hw))⟩)⟩
    · exact h.elim
theorem mo_slV {lo hi : Option Expr} {ml mh : MP} (hN : X.N[i]? = some x) (hv : Vis X.env.scope x) (hl : PO X lo (rdP c ml)) (hh : PO X hi (rdP c mh)) (hK : c.K = X.K := by rfl) (hd : (x == ("__debug__" : Str)) = false := by decide) (hcd : (x == ("__classdict__" : Str)) = false := by decide) :
    PE X (.Subscript (.Name x p) (.Slice lo hi none p2) pos) (rdO c (mSlVO i ml mh)) :=
  PEw (pe_slice sl_list (pe_var hN hv hd hcd) hl hh) fun σ H Q h => by
    obtain ⟨F, Hk, bp, ρ, S, h⟩ := h
    unfold mSlVO at h
    split at h
    · rename_i hh
      obtain ⟨v, ev⟩ := has_rs S hh
      refine ⟨v, ev, ?_⟩
      refine wP (bP postO S h) fun a H2 ⟨Hk2, ρ2, x2, S2, h2⟩ => ?_
      refine wP (bP postO S2 h2) fun b H3 ⟨Hk3, ρ3, x3, S3, h3⟩ => ?_
      have h3 : okO c F Hk3 bp σ Q (match slV ρ3 i a b with | some zs => .ok (.own zs, ρ3) | none => .stuck) := h3
      cases e : slV ρ3 i a b with
      | none => rw [e] at h3; exact h3.elim
      | some zs =>
        rw [e] at h3
        obtain ⟨q, vs, rfl, s1, s2⟩ := slV_rs S3 e ev
        rw [← hK]
        exact ⟨q, vs, rfl, s1, fun w hw => h3 _ _ _ (Ex.refl _) (S3.1.pushOwn hw s2)⟩
    · exact h.elim
def mSlO (a : ME) (l h : MP) : ME := fun ρ => (a ρ).bind fun x ρ1 => (l ρ1).bind fun i ρ2 => (h ρ2).bind fun j ρ3 => match x with | .lst xs => .ok (.own (cutM xs i j), ρ3) | _ => .stuck
theorem mo_sl {a : Expr} {lo hi : Option Expr} {ma : ME} {ml mh : MP} (ha : PE X a (rdE c ma)) (hl : PO X lo (rdP c ml)) (hh : PO X hi (rdP c mh)) (hK : c.K = X.K := by rfl) : PE X (.Subscript a (.Slice lo hi none p2) pos) (rdO c (mSlO ma ml mh)) :=
  PEw (pe_slice sl_list ha hl hh) fun σ H Q h => by
    obtain ⟨F, Hk, bp, ρ, S, h⟩ := h
    refine rdw (bE postO S h) fun v H1 ⟨Hk1, x, ρ1, x1, S1, r1, h1⟩ => ?_
    refine wP (bP postO S1 h1) fun i H2 ⟨Hk2, ρ2, x2, S2, h2⟩ => ?_
    refine wP (bP postO S2 h2) fun j H3 ⟨Hk3, ρ3, x3, S3, h3⟩ => ?_
    cases x with
    | lst xs =>
      obtain ⟨q, vs, rfl, g1, g2⟩ := RV.lst.mp r1
      rw [← hK]
      exact ⟨q, vs, rfl, SqL.of (S3.1.ex _ _ ((x2.trans x3) _ _ g1)), fun w hw => h3 _ _ _ (Ex.refl _) (S3.1.pushOwn hw ((g2.mono (x2.trans x3)).cut i j))⟩
    | _ => exact h3.elim
end
end Tm

set_option Elab.async false
set_option linter.all false
set_option maxRecDepth 100000
set_option maxHeartbeats 2000000
namespace Tm
open PySem L2
open Evl (Ex ex_rd ex_l ex_t)
/-! ### arguments, some of them borrowed: a name's owned list or object that the callee may change -/
inductive BA where
  | v (x : MV) | b (i : Nat)
abbrev MB := Env → Res (List BA × Env)
def mbNil : MB := fun ρ => .ok ([], ρ)
def mbV (a : ME) (b : MB) : MB := fun ρ => (a ρ).bind fun x ρ1 => (b ρ1).bind fun xs ρ2 => .ok (.v x :: xs, ρ2)
def mbB (i : Nat) (b : MB) : MB := fun ρ => if has ρ i then (b ρ).bind fun xs ρ2 => .ok (.b i :: xs, ρ2) else .stuck
def idxB : List BA → List Nat
  | [] => []
  | .v _ :: r => idxB r
  | .b i :: r => i :: idxB r
def posB : List BA → Nat → List Nat
  | [], _ => []
  | .v _ :: r, k => posB r (k + 1)
  | .b _ :: r, k => k :: posB r (k + 1)
def MV.held : MV → Bool
  | .own _ => true
  | .obj _ _ => true
  | _ => false
def fill : List BA → Env → Option (List MV)
  | [], _ => some []
  | .v x :: r, ρ => (match fill r ρ with | some xs => some (x :: xs) | none => none)
  | .b i :: r, ρ => (match ρ[i]?, fill r ρ with | some (some x), some xs => if x.held then some (x :: xs) else none | _, _ => none)
def back (ρ : Env) : List Nat → Env → Env
  | [], _ => ρ
  | i :: is, os => back (ρ.set i (os.head?).join) is os.tail
def BVs (K : PySem.W.Frag) (Hk : Hp) (σ : St) : List BA → List V → Prop
  | [], vs => vs = []
  | .v x :: r, vs => ∃ v us, vs = v :: us ∧ RV K Hk x v ∧ BVs K Hk σ r us
  | .b i :: r, vs => ∃ v us, vs = v :: us ∧ σ[i]? = some (some v) ∧ BVs K Hk σ r us
theorem BVs.mono {K : PySem.W.Frag} {Hk Hk' : Hp} {σ : St} (e : Ex Hk Hk') : ∀ {xs : List BA} {vs : List V}, BVs K Hk σ xs vs → BVs K Hk' σ xs vs
  | [], _, h => h
  | .v x :: r, vs, ⟨v, us, e1, e2, e3⟩ => ⟨v, us, e1, RV.mono e _ _ e2, BVs.mono e e3⟩
  | .b i :: r, vs, ⟨v, us, e1, e2, e3⟩ => ⟨v, us, e1, e2, BVs.mono e e3⟩
theorem BVs.length {K : PySem.W.Frag} {Hk : Hp} {σ : St} : ∀ {xs : List BA} {vs : List V}, BVs K Hk σ xs vs → vs.length = xs.length
  | [], _, h => by rw [show _ = [] from h]; rfl
  | .v x :: r, vs, ⟨v, us, e1, e2, e3⟩ => by rw [e1, List.length_cons, List.length_cons, e3.length]
  | .b i :: r, vs, ⟨v, us, e1, e2, e3⟩ => by rw [e1, List.length_cons, List.length_cons, e3.length]
def okBA (c : Ct) (F Hk : Hp) (bp : List (Nat × Addr)) (σ : St) (Q : List V → Hp → Prop) : Res (List BA × Env) → Prop
  | .ok (xs, ρ') => ∀ Hk' H' vs, Ex Hk Hk' → RS c.K F Hk' H' bp σ ρ' → BVs c.K Hk' σ xs vs → Q vs H'
  | .exc e ρ' => Wish c F Hk bp σ e ρ'
  | .stuck => False
theorem okBA.mono {c : Ct} {F Hk Hk' : Hp} {bp : List (Nat × Addr)} {σ : St} {Q : List V → Hp → Prop} {r : Res (List BA × Env)} (x : Ex Hk Hk') (h : okBA c F Hk bp σ Q r) : okBA c F Hk' bp σ Q r := by
  cases r with
  | ok a => exact fun Hk2 H2 v x2 => h Hk2 H2 v (x.trans x2)
  | exc e ρ => exact Wish.mono x h
  | stuck => exact h
def rdBA (c : Ct) (m : MB) : TA := fun σ H Q => ∃ F Hk bp ρ, At c F Hk H bp σ ρ ∧ okBA c F Hk bp σ Q (m ρ)
theorem postBA {c : Ct} {F : Hp} {bp : List (Nat × Addr)} {σ : St} {Q : List V → Hp → Prop} : Post c F bp σ fun Hk r => okBA c F Hk bp σ Q r := ⟨fun _ _ _ h => h, fun _ h => h, fun _ _ _ x h => okBA.mono x h⟩
section
variable {X : Cx} {c : Ct} {x : Str} {i : Nat} {p pos : Pos} {e : Expr} {es : List Expr}
theorem rdBAw {m : MB} {σ : St} {H : Hp} {Q Q' : List V → Hp → Prop} (h : rdBA c m σ H Q) (w : ∀ v H, Q v H → Q' v H) : rdBA c m σ H Q' := by
  obtain ⟨F, Hk, bp, ρ, S, q⟩ := h
  refine ⟨F, Hk, bp, ρ, S, ?_⟩
  cases e : m ρ with
  | ok a => rw [e] at q; exact fun Hk2 H2 v x S r => w _ _ (q Hk2 H2 v x S r)
  | exc e' ρ => rw [e] at q; exact q
  | stuck => rw [e] at q; exact q
theorem bBA {F Hk H : Hp} {bp : List (Nat × Addr)} {σ : St} {ρ : Env} {β : Type} {P : Hp → Res (β × Env) → Prop} (p : Post c F bp σ P) {a : MB} {k : List BA → Env → Res (β × Env)} (S : At c F Hk H bp σ ρ) (h : P Hk ((a ρ).bind k)) :
    rdBA c a σ H fun vs H1 => ∃ Hk1 xs ρ1, Ex Hk Hk1 ∧ At c F Hk1 H1 bp σ ρ1 ∧ BVs c.K Hk1 σ xs vs ∧ P Hk1 (k xs ρ1) := by
  refine ⟨F, Hk, bp, ρ, S, ?_⟩
  cases e : a ρ with
  | stuck => rw [e] at h; exact p.st _ h
  | exc x ρ' => rw [e] at h; exact p.ex _ _ _ h
  | ok q =>
    rw [e] at h
    exact fun Hk1 H1 v x1 S1 r1 => ⟨Hk1, q.1, q.2, x1, ⟨S1, S.2⟩, r1, p.mono _ _ _ x1 h⟩
theorem pb_nil : PA X [] (rdBA c mbNil) := PAw pa_nil fun σ H Q h => by
  obtain ⟨F, Hk, bp, ρ, S, h⟩ := h
  exact h _ _ _ (Ex.refl _) S.1 rfl
theorem pb_v {a : ME} {b : MB} (ha : PE X e (rdE c a)) (hb : PA X es (rdBA c b)) (hs : starEach (e :: es) X.env = (false, eval e X.env) :: starEach es X.env := by rfl) : PA X (e :: es) (rdBA c (mbV a b)) :=
  PAw (pa_cons ha hb hs) fun σ H Q h => by
    obtain ⟨F, Hk, bp, ρ, S, h⟩ := h
    refine rdw (bE postBA S h) fun v H1 ⟨Hk1, x, ρ1, x1, S1, r1, h1⟩ => ?_
    refine rdBAw (bBA postBA S1 h1) fun vs H2 ⟨Hk2, xs, ρ2, x2, S2, r2, h2⟩ => ?_
    exact h2 _ _ _ (Ex.refl _) S2.1 ⟨v, vs, rfl, RV.mono x2 _ _ r1, r2⟩
theorem pb_b {b : MB} (hN : X.N[i]? = some x) (hv : Vis X.env.scope x) (hb : PA X es (rdBA c b)) (hd : (x == ("__debug__" : Str)) = false := by decide) (hcd : (x == ("__classdict__" : Str)) = false := by decide) (hs : starEach (Expr.Name x p :: es) X.env = (false, eval (.Name x p) X.env) :: starEach es X.env := by rfl) : PA X (.Name x p :: es) (rdBA c (mbB i b)) :=
  PAw (pa_cons (pe_var hN hv hd hcd) hb hs) fun σ H Q h => by
    obtain ⟨F, Hk, bp, ρ, S, h⟩ := h
    unfold mbB at h
    split at h
    · rename_i hh
      obtain ⟨v, ev⟩ := has_rs S hh
      refine ⟨v, ev, ?_⟩
      refine rdBAw (bBA postBA S h) fun vs H2 ⟨Hk2, xs, ρ2, x2, S2, r2, h2⟩ => ?_
      exact h2 _ _ _ (Ex.refl _) S2.1 ⟨v, vs, rfl, ev, r2⟩
    · exact h.elim
end
/-! ### the arguments as the callee finds them -/
theorem fill_at {K : PySem.W.Frag} {Hk : Hp} {σ : St} {ρ : Env} : ∀ {args : List BA} {vs : List V} {xs : List MV}, BVs K Hk σ args vs → fill args ρ = some xs → ∀ (j : Nat) (x : MV), xs[j]? = some x →
    ∃ v, vs[j]? = some v ∧ ((args[j]? = some (.v x) ∧ RV K Hk x v) ∨ ∃ i, args[j]? = some (.b i) ∧ ρ[i]? = some (some x) ∧ σ[i]? = some (some v) ∧ x.held = true)
  | [], vs, xs, r, f, j, x, h => by cases f; simp at h
  | .v y :: args, vs, xs, r, f, j, x, h => by
    obtain ⟨v, us, rfl, r1, r2⟩ := r
    unfold fill at f
    cases e : fill args ρ with
    | none => rw [e] at f; cases f
    | some zs =>
      rw [e] at f
      cases f
      match j with
      | 0 => simp at h; subst h; exact ⟨v, rfl, .inl ⟨rfl, r1⟩⟩
      | j + 1 => simpa using fill_at r2 e j x (by simpa using h)
  | .b i :: args, vs, xs, r, f, j, x, h => by
    obtain ⟨v, us, rfl, r1, r2⟩ := r
    unfold fill at f
    split at f
    · rename_i y zs e1 e2
      split at f
      · rename_i hh
        cases f
        match j with
        | 0 => simp at h; subst h; exact ⟨v, rfl, .inr ⟨i, rfl, e1, r1, hh⟩⟩
        | j + 1 => simpa using fill_at r2 e2 j x (by simpa using h)
      · cases f
    · cases f
theorem fill_len {ρ : Env} : ∀ {args : List BA} {xs : List MV}, fill args ρ = some xs → xs.length = args.length
  | [], xs, f => by cases f; rfl
  | .v y :: args, xs, f => by
    unfold fill at f
    cases e : fill args ρ with
    | none => rw [e] at f; cases f
    | some zs => rw [e] at f; cases f; simp [fill_len e]
  | .b i :: args, xs, f => by
    unfold fill at f
    split at f
    · rename_i y zs e1 e2
      split at f
      · cases f; simp [fill_len e2]
      · cases f
    · cases f
theorem fill_has {ρ : Env} : ∀ {args : List BA} {xs : List MV}, fill args ρ = some xs → ∀ i ∈ idxB args, ∃ x, ρ[i]? = some (some x) ∧ x.held = true
  | [], xs, f, i, h => by cases h
  | .v y :: args, xs, f, i, h => by
    unfold fill at f
    cases e : fill args ρ with
    | none => rw [e] at f; cases f
    | some zs => exact fill_has e i h
  | .b k :: args, xs, f, i, h => by
    unfold fill at f
    split at f
    · rename_i y zs e1 e2
      split at f
      · rename_i hh
        rcases List.mem_cons.mp h with rfl | h
        · exact ⟨y, e1, hh⟩
        · exact fill_has e2 i h
      · cases f
    · cases f
theorem idx_mem : ∀ {args : List BA} {j i : Nat}, args[j]? = some (.b i) → i ∈ idxB args
  | [], j, i, h => by simp at h
  | .v y :: args, 0, i, h => by simp at h
  | .v y :: args, j + 1, i, h => idx_mem (args := args) (j := j) (by simpa using h)
  | .b k :: args, 0, i, h => by simp at h; subst h; simp [idxB]
  | .b k :: args, j + 1, i, h => List.mem_cons_of_mem _ (idx_mem (args := args) (j := j) (by simpa using h))
theorem idx_inj : ∀ {args : List BA} {j k i : Nat}, (idxB args).Nodup → args[j]? = some (.b i) → args[k]? = some (.b i) → j = k
  | [], j, k, i, _, h, _ => by simp at h
  | .v y :: args, 0, k, i, _, h, _ => by simp at h
  | .v y :: args, _ + 1, 0, i, _, _, h => by simp at h
  | .v y :: args, j + 1, k + 1, i, nd, h1, h2 => by have := idx_inj (args := args) (j := j) (k := k) (i := i) nd (by simpa using h1) (by simpa using h2); omega
  | .b n :: args, 0, 0, i, _, _, _ => rfl
  | .b n :: args, 0, k + 1, i, nd, h1, h2 => by
    simp at h1; subst h1
    exact absurd (idx_mem (args := args) (j := k) (by simpa using h2)) (List.nodup_cons.mp nd).1
  | .b n :: args, j + 1, 0, i, nd, h1, h2 => by
    simp at h2; subst h2
    exact absurd (idx_mem (args := args) (j := j) (by simpa using h1)) (List.nodup_cons.mp nd).1
  | .b n :: args, j + 1, k + 1, i, nd, h1, h2 => by have := idx_inj (args := args) (j := j) (k := k) (i := i) (List.nodup_cons.mp nd).2 (by simpa using h1) (by simpa using h2); omega
def addrOf : V → Addr
  | .ref a => a
  | _ => 0
def bqOf : List BA → List V → Nat → List (Nat × Addr)
  | .v _ :: r, _ :: us, k => bqOf r us (k + 1)
  | .b _ :: r, v :: us, k => (k, addrOf v) :: bqOf r us (k + 1)
  | _, _, _ => []
theorem bq_pos {K : PySem.W.Frag} {Hk : Hp} {σ : St} : ∀ {args : List BA} {vs : List V} (k : Nat), BVs K Hk σ args vs → (bqOf args vs k).map (·.1) = posB args k
  | [], vs, k, _ => by cases vs <;> rfl
  | .v y :: args, vs, k, ⟨v, us, e, _, r⟩ => by subst e; exact bq_pos (k + 1) r
  | .b i :: args, vs, k, ⟨v, us, e, _, r⟩ => by subst e; show k :: _ = k :: _; rw [bq_pos (k + 1) r]
theorem bq_idx {K : PySem.W.Frag} {Hk : Hp} {σ : St} : ∀ {args : List BA} {vs : List V} (k : Nat), BVs K Hk σ args vs → (∀ i ∈ idxB args, ∃ a, σ[i]? = some (some (.ref a))) → (bqOf args vs k).map (fun q => some (V.ref q.2)) = (idxB args).map fun i => (σ[i]?).join
  | [], vs, k, _, _ => by cases vs <;> rfl
  | .v y :: args, vs, k, ⟨v, us, e, _, r⟩, h => by subst e; exact bq_idx (k + 1) r h
  | .b i :: args, vs, k, ⟨v, us, e, e2, r⟩, h => by
    subst e
    obtain ⟨a, ha⟩ := h i (by simp [idxB])
    rw [ha] at e2
    cases e2
    show some (V.ref a) :: _ = (σ[i]?).join :: _
    rw [ha, bq_idx (k + 1) r fun j hj => h j (by simp [idxB, hj])]; rfl
theorem bq_bor {K : PySem.W.Frag} {Hk : Hp} {σ : St} : ∀ {args : List BA} {vs : List V} (k : Nat), BVs K Hk σ args vs → (∀ i ∈ idxB args, ∃ a, σ[i]? = some (some (.ref a))) → ∀ q ∈ bqOf args vs k, k ≤ q.1 ∧ vs[q.1 - k]? = some (.ref q.2)
  | [], vs, k, _, _, q, hq => by cases vs <;> cases hq
  | .v y :: args, vs, k, ⟨v, us, e, _, r⟩, h, q, hq => by
    subst e
    obtain ⟨h1, h2⟩ := bq_bor (k + 1) r h q hq
    refine ⟨by omega, ?_⟩
    rw [show q.1 - k = q.1 - (k + 1) + 1 by omega]; exact h2
  | .b i :: args, vs, k, ⟨v, us, e, e2, r⟩, h, q, hq => by
    subst e
    obtain ⟨a, ha⟩ := h i (by simp [idxB])
    rw [ha] at e2
    cases e2
    rcases List.mem_cons.mp hq with rfl | hq
    · exact ⟨Nat.le_refl _, by simp [addrOf]⟩
    · obtain ⟨h1, h2⟩ := bq_bor (k + 1) r (fun j hj => h j (by simp [idxB, hj])) q hq
      refine ⟨by omega, ?_⟩
      rw [show q.1 - k = q.1 - (k + 1) + 1 by omega]; exact h2
theorem back_len : ∀ {is : List Nat} {ρ os : Env}, (back ρ is os).length = ρ.length
  | [], _, _ => rfl
  | i :: is, ρ, os => by unfold back; rw [back_len, List.length_set]
theorem back_ne : ∀ {is : List Nat} {ρ os : Env} {j : Nat}, j ∉ is → (back ρ is os)[j]? = ρ[j]?
  | [], _, _, _, _ => rfl
  | i :: is, ρ, os, j, h => by
    unfold back
    rw [back_ne (fun z => h (List.mem_cons_of_mem _ z)), List.getElem?_set_ne (fun z => h (by simp [z]))]
theorem back_at : ∀ {is : List Nat} {ρ os : Env} {k i : Nat}, is.Nodup → is[k]? = some i → i < ρ.length → (back ρ is os)[i]? = some (os[k]?).join
  | [], _, _, _, _, _, h, _ => by simp at h
  | n :: is, ρ, os, 0, i, nd, h, hl => by
    simp at h; subst h
    unfold back
    rw [back_ne (List.nodup_cons.mp nd).1, List.getElem?_set_self hl]
    cases os <;> rfl
  | n :: is, ρ, os, k + 1, i, nd, h, hl => by
    unfold back
    rw [back_at (is := is) (k := k) (List.nodup_cons.mp nd).2 (by simpa using h) (by simpa using hl)]
    cases os <;> simp
end Tm

set_option Elab.async false
set_option linter.all false
set_option maxRecDepth 100000
set_option maxHeartbeats 2000000
namespace Tm
open PySem L2
open Evl (Ex ex_rd ex_l ex_t)
/-! ### a call with borrowed arguments -/
theorem held_ref {K : PySem.W.Frag} {Hk H : Hp} {x : MV} {v : V} {A : List Addr} (h : x.held = true) (o : OV K Hk H x v A) : ∃ a, v = .ref a := by
  cases x with
  | own xs => obtain ⟨p, vs, e, _⟩ := OV.own.mp o; exact ⟨p, e⟩
  | obj C fs =>
    unfold OV at o
    obtain ⟨p, CA, dx, vfs, B, e, _⟩ := o
    exact ⟨p, e⟩
  | _ => cases h
section
variable {c : Ct} {F Hk H : Hp} {bp : List (Nat × Addr)} {σ : St} {ρ : Env} {args : List BA} {vs : List V} {xs : List MV} {ow : Nat → List Addr}
def owB (is : List Nat) (ow ow2 : Nat → List Addr) (j : Nat) : List Addr := if j ∈ is then ow2 (is.idxOf j) else ow j
theorem callB_end {f : MF} {n : Nat} {bs : List Nat} {Q : VK} {E : XK} (S : At c F Hk H bp σ ρ) (r : BVs c.K Hk σ args vs) (hn : args.length = n) (nd : (idxB args).Nodup) (hbs : posB args 0 = bs) (hf : fill args ρ = some xs)
    (hE : ∀ e ρ', (∀ Hk' H' cls d, Ex Hk Hk' → RS c.K F Hk' H' bp σ ρ' → ExR c.K c.mg Hk' e cls d → c.W cls d σ H') → ∀ Hk' H' cls d, Ex Hk Hk' → RS c.K F Hk' H' bp σ ρ' → ExR c.K c.mg Hk' e cls d → E cls d H')
    (h : okO c F Hk bp σ Q (match f xs with | .ok (v, os) => .ok (v, back ρ (idxB args) os) | .exc e os => .exc e (back ρ (idxB args) os) | .stuck => .stuck)) : spF c.K c.mg n bs f vs H Q E := by
  refine ⟨by rw [r.length]; exact hn, ?_⟩
  obtain ⟨ow, s⟩ := S.1.ow
  have ih := fill_has hf
  have refs : ∀ i ∈ idxB args, ∃ a, σ[i]? = some (some (.ref a)) := fun i hi => by
    obtain ⟨x, ex, hx⟩ := ih i hi
    obtain ⟨v, ev, o⟩ := s.s i x ex
    obtain ⟨a, rfl⟩ := held_ref hx o
    exact ⟨a, ev⟩
  have lti : ∀ i ∈ idxB args, i < ρ.length := fun i hi => by
    obtain ⟨x, ex, _⟩ := ih i hi
    exact lt_get ex
  haveI : ∀ a, Decidable (∃ i, i ∉ idxB args ∧ a ∈ ow i) := fun a => Classical.propDecidable _
  have fN : ∃ F' : Hp, (∀ i a, i ∉ idxB args → a ∈ ow i → F' a = H a) ∧ (∀ a o, F a = some o → F' a = some o) ∧ (∀ a o, F' a = some o → H a = some o ∧ Hk a = none) ∧ (∀ i a, i ∈ idxB args → a ∈ ow i → F' a = none) := by
    refine ⟨fun a => if (∃ i, i ∉ idxB args ∧ a ∈ ow i) then H a else F a, fun i a hi ha => if_pos ⟨i, hi, ha⟩, fun a o ha => ?_, fun a o ha => ?_, fun i a hi ha => ?_⟩
    · have : ¬ ∃ i, i ∉ idxB args ∧ a ∈ ow i := fun ⟨i, _, hi⟩ => by have := (s.f i a hi).2.1; rw [ha] at this; cases this
      show (if (∃ i, i ∉ idxB args ∧ a ∈ ow i) then H a else F a) = some o
      rw [if_neg this]; exact ha
    · have ha : (if (∃ i, i ∉ idxB args ∧ a ∈ ow i) then H a else F a) = some o := ha
      by_cases e : ∃ i, i ∉ idxB args ∧ a ∈ ow i
      · rw [if_pos e] at ha
        obtain ⟨i, _, hi⟩ := e
        exact ⟨ha, (s.f i a hi).1⟩
      · rw [if_neg e] at ha
        exact ⟨S.1.fr a o ha, S.1.frk a o ha⟩
    · have : ¬ ∃ i, i ∉ idxB args ∧ a ∈ ow i := fun ⟨k, hk, hka⟩ => s.d i k a (fun z => hk (z ▸ hi)) ha hka
      show (if (∃ i, i ∉ idxB args ∧ a ∈ ow i) then H a else F a) = none
      rw [if_neg this]; exact (s.f i a ha).2.1
  obtain ⟨F', f1, f2, f3, f4⟩ := fN
  have hlv : vs.length = xs.length := by rw [r.length, fill_len hf]
  have at_ : ∀ {j i : Nat} {a : Addr}, a ∈ (match args[j]? with | some (BA.b i) => ow i | _ => []) → ∃ i, args[j]? = some (.b i) ∧ a ∈ ow i := fun {j i a} h => by
    split at h
    · rename_i k e; exact ⟨k, e, h⟩
    · cases h
  refine ⟨F', Hk, bqOf args vs 0, xs, ?_, by rw [bq_pos 0 r, hbs], ?_⟩
  · refine ⟨by simp [hlv], S.1.ex, fun a o ha => (f3 a o ha).1, fun a o ha => (f3 a o ha).2, ⟨fun j => match args[j]? with | some (BA.b i) => ow i | _ => [], ?_⟩, fun q hq => ?_⟩
    · refine ⟨fun j y hj => ?_, fun j a hj => ?_, fun j hj => ?_, fun j k a hjk h1 h2 => ?_⟩
      · rw [List.getElem?_map] at hj
        cases ex : xs[j]? with
        | none => rw [ex] at hj; cases hj
        | some x =>
          rw [ex] at hj
          cases hj
          obtain ⟨v, ev, hv⟩ := fill_at r hf j y ex
          refine ⟨v, by rw [List.getElem?_map, ev]; rfl, ?_⟩
          rcases hv with ⟨e1, r1⟩ | ⟨i, e1, e2, e3, _⟩
          · rw [e1]; exact r1.ov
          · rw [e1]
            obtain ⟨u, eu, ou⟩ := s.s i y e2
            rw [e3] at eu
            cases eu
            exact ou
      · obtain ⟨i, e1, hi⟩ := at_ (i := 0) hj
        obtain ⟨g1, g2, g3⟩ := s.f i a hi
        exact ⟨g1, f4 i a (idx_mem e1) hi, g3⟩
      · cases e : args[j]? with
        | none => rw [e] at hj; exact (hj rfl).elim
        | some b =>
          have := lt_get e
          rw [List.length_map, fill_len hf]; exact this
      · obtain ⟨i1, e1, m1⟩ := at_ (i := 0) h1
        obtain ⟨i2, e2, m2⟩ := at_ (i := 0) h2
        by_cases e : i1 = i2
        · subst e; exact hjk (idx_inj nd e1 e2)
        · exact s.d i1 i2 a e m1 m2
    · obtain ⟨_, h2⟩ := bq_bor 0 r refs q hq
      rw [List.getElem?_map, show vs[q.1]? = some (.ref q.2) from h2]; rfl
  -- what stands behind the call
  have bidx := bq_idx (k := 0) r refs
  have main : ∀ {Hk' H' : Hp} {τ : St} {os υ : Env}, Ex Hk Hk' → RS c.K F' Hk' H' [] ((idxB args).map (fun i => (σ[i]?).join) ++ τ) (os ++ υ) → os.length = (idxB args).length → ∀ ow2, SL c.K F' Hk' H' ow2 ((idxB args).map (fun i => (σ[i]?).join) ++ τ) (os ++ υ) →
      SL c.K F Hk' H' (owB (idxB args) ow ow2) σ (back ρ (idxB args) os) ∧ RS c.K F Hk' H' bp σ (back ρ (idxB args) os) := fun {Hk' H' τ os υ} x S' hos ow2 s2 => by
    have other : ∀ j, j ∉ idxB args → ∀ a ∈ ow j, F' a = H a ∧ ∃ o, H a = some o ∧ H' a = some o ∧ Hk' a = none := fun j hj a ha => by
      obtain ⟨g1, g2, o, g3⟩ := s.f j a ha
      have q : F' a = some o := (f1 j a hj ha).trans g3
      exact ⟨f1 j a hj ha, o, g3, S'.fr a o q, S'.frk a o q⟩
    have idl : ∀ j ∈ idxB args, (idxB args).idxOf j < (idxB args).length := fun j hj => List.idxOf_lt_length_of_mem hj
    have idg : ∀ j ∈ idxB args, (idxB args)[(idxB args).idxOf j]? = some j := fun j hj => by
      rw [List.getElem?_eq_getElem (idl j hj), List.getElem_idxOf]
    have inj : ∀ j k, j ∈ idxB args → k ∈ idxB args → (idxB args).idxOf j = (idxB args).idxOf k → j = k := fun j k hj hk e => by
      have a := idg j hj
      have b := idg k hk
      rw [e, b] at a
      cases a; rfl
    have sl : SL c.K F Hk' H' (owB (idxB args) ow ow2) σ (back ρ (idxB args) os) := by
      refine ⟨fun j y hj => ?_, fun j a hj => ?_, fun j hj => ?_, fun j k a hjk h1 h2 => ?_⟩
      · unfold owB
        by_cases e : j ∈ idxB args
        · rw [if_pos e]
          rw [back_at nd (idg j e) (lti j e)] at hj
          have lk := idl j e
          have gk := idg j e
          generalize (idxB args).idxOf j = k at hj lk gk ⊢
          have ek : os[k]? = some (some y) := by
            cases eo : os[k]? with
            | none => rw [eo] at hj; cases hj
            | some o => rw [eo] at hj; cases o with
              | none => cases hj
              | some z => cases hj; rfl
          obtain ⟨u, eu, ou⟩ := s2.s k y (by rw [List.getElem?_append_left (by rw [hos]; exact lk)]; exact ek)
          rw [List.getElem?_append_left (by simpa using lk), List.getElem?_map] at eu
          refine ⟨u, ?_, ou⟩
          obtain ⟨a, ha⟩ := refs j e
          rw [gk, Option.map_some, ha] at eu
          rw [ha]
          exact eu
        · rw [if_neg e]
          rw [back_ne e] at hj
          obtain ⟨u, e1, o1⟩ := s.s j y hj
          refine ⟨u, e1, o1.move x fun a ha o ho => ?_⟩
          obtain ⟨_, o', g1, g2, _⟩ := other j e a ha
          rw [ho] at g1; cases g1; exact g2
      · unfold owB at hj
        by_cases e : j ∈ idxB args
        · rw [if_pos e] at hj
          obtain ⟨g1, g2, g3⟩ := s2.f _ a hj
          refine ⟨g1, ?_, g3⟩
          cases ef : F a with
          | none => rfl
          | some o => rw [f2 a o ef] at g2; cases g2
        · rw [if_neg e] at hj
          obtain ⟨_, o', g1, g2, g3⟩ := other j e a hj
          exact ⟨g3, (s.f j a hj).2.1, o', g2⟩
      · unfold owB at hj
        rw [back_len]
        by_cases e : j ∈ idxB args
        · exact lti j e
        · rw [if_neg e] at hj; exact s.w j hj
      · unfold owB at h1 h2
        by_cases e1 : j ∈ idxB args <;> by_cases e2 : k ∈ idxB args
        · rw [if_pos e1] at h1; rw [if_pos e2] at h2
          exact s2.d _ _ a (fun z => hjk (inj j k e1 e2 z)) h1 h2
        · rw [if_pos e1] at h1; rw [if_neg e2] at h2
          obtain ⟨q, o', g1, _⟩ := other k e2 a h2
          have := (s2.f _ a h1).2.1
          rw [q, g1] at this; cases this
        · rw [if_neg e1] at h1; rw [if_pos e2] at h2
          obtain ⟨q, o', g1, _⟩ := other j e1 a h1
          have := (s2.f _ a h2).2.1
          rw [q, g1] at this; cases this
        · rw [if_neg e1] at h1; rw [if_neg e2] at h2
          exact s.d j k a hjk h1 h2
    exact ⟨sl, by rw [back_len]; exact S.1.len, S'.ex, fun a o ha => S'.fr a o (f2 a o ha), fun a o ha => S'.frk a o (f2 a o ha), ⟨_, sl⟩, S.1.bor⟩
  rw [bidx]
  cases ef : f xs with
  | stuck => rw [ef] at h; exact h.elim
  | exc e os =>
    rw [ef] at h
    intro Hk' H' cls d x S' er
    obtain ⟨ow2, s2⟩ := S'.ow
    have hos : os.length = (idxB args).length := by have := S'.len; simpa using this.symm
    have m := main (τ := []) (υ := []) x (by simpa using S') hos ow2 (by simpa using s2)
    exact hE e _ h Hk' H' cls d x m.2 er
  | ok p =>
    obtain ⟨v, os⟩ := p
    rw [ef] at h
    intro Hk' H' w x S'
    obtain ⟨ow2, s2⟩ := S'.ow
    have hos : os.length = (idxB args).length := by have := S'.len; simpa using this.symm
    obtain ⟨sl, R1⟩ := main x S' hos ow2 s2
    obtain ⟨u, eu, ou⟩ := s2.s os.length v (by simp)
    have : u = w := by
      rw [hos, List.getElem?_append_right (by simp)] at eu
      simpa using eu.symm
    subst this
    refine h Hk' H' u x ?_
    refine ⟨by simp [back_len, S.1.len], R1.ex, R1.fr, R1.frk, ⟨_, sl.push (by rw [back_len]; exact S.1.len) ou (fun a ha => ?_) (fun i a ha hi => ?_)⟩, R1.bor_app _⟩
    · obtain ⟨g1, g2, _⟩ := s2.f _ a ha
      refine ⟨g1, ?_⟩
      cases e : F a with
      | none => rfl
      | some o => rw [f2 a o e] at g2; cases g2
    · obtain ⟨g1, g2, o, g3⟩ := s2.f _ a ha
      unfold owB at hi
      by_cases e : i ∈ idxB args
      · rw [if_pos e] at hi
        have lk := List.idxOf_lt_length_of_mem e
        exact s2.d _ _ a (by omega) ha hi
      · rw [if_neg e] at hi
        obtain ⟨_, _, o', q⟩ := s.f i a hi
        rw [f1 i a e hi, q] at g2
        cases g2
end
def Bsh (a : MB) (k : Nat) (is bs : List Nat) (n : Nat) : Prop := ∀ ρ xs ρ', a ρ = .ok (xs, ρ') → idxB xs = is ∧ posB xs k = bs ∧ xs.length = n
theorem bsh_nil {k : Nat} : Bsh mbNil k [] [] 0 := fun ρ xs ρ' h => by cases h; exact ⟨rfl, rfl, rfl⟩
theorem bsh_v {a : ME} {b : MB} {k n : Nat} {is bs : List Nat} (h : Bsh b (k + 1) is bs n) : Bsh (mbV a b) k is bs (n + 1) := fun ρ xs ρ' e => by
  unfold mbV at e
  cases ea : a ρ with
  | stuck => rw [ea] at e; cases e
  | exc x r => rw [ea] at e; cases e
  | ok p =>
    rw [ea] at e
    have e : (b p.2).bind (fun ys ρ2 => Res.ok (BA.v p.1 :: ys, ρ2)) = .ok (xs, ρ') := e
    cases eb : b p.2 with
    | stuck => rw [eb] at e; cases e
    | exc x r => rw [eb] at e; cases e
    | ok q =>
      rw [eb] at e
      cases e
      obtain ⟨h1, h2, h3⟩ := h _ _ _ eb
      exact ⟨h1, h2, by simp [h3]⟩
theorem bsh_b {i : Nat} {b : MB} {k n : Nat} {is bs : List Nat} (h : Bsh b (k + 1) is bs n) : Bsh (mbB i b) k (i :: is) (k :: bs) (n + 1) := fun ρ xs ρ' e => by
  unfold mbB at e
  split at e
  · cases eb : b ρ with
    | stuck => rw [eb] at e; cases e
    | exc x r => rw [eb] at e; cases e
    | ok q =>
      rw [eb] at e
      cases e
      obtain ⟨h1, h2, h3⟩ := h _ _ _ eb
      exact ⟨by show i :: _ = _; rw [h1], by show k :: _ = _; rw [h2], by simp [h3]⟩
  · cases e
def cbE (f : MF) (args : List BA) (ρ : Env) : Res (MV × Env) := match fill args ρ with
  | some xs => (match f xs with | .ok (v, os) => .ok (v, back ρ (idxB args) os) | .exc e os => .exc e (back ρ (idxB args) os) | .stuck => .stuck)
  | none => .stuck
def mCallB (f : MF) (a : MB) : ME := fun ρ => (a ρ).bind (cbE f)
section
variable {X : Cx} {c : Ct} {k : Nat} {fa : Addr} {fd : FuncData} {ps : List Str} {x : Str} {p pos : Pos} {e : Expr} {es : List Expr} {f : MF} {a : MB} {n : Nat} {is bs : List Nat}
theorem rd_callB (sh : Bsh a 0 is bs n) (nd : is.Nodup) {σ : St} {H : Hp} {Q : VK} (h : rdO c (mCallB f a) σ H Q) : tCallS (spF c.K c.mg n bs f) (WE c.W) (rdBA c a) σ H Q := by
  obtain ⟨F, Hk, bp, ρ, S, h⟩ := h
  refine ⟨F, Hk, bp, ρ, S, ?_⟩
  have h : okO c F Hk bp σ Q ((a ρ).bind (cbE f)) := h
  cases e : a ρ with
  | stuck => rw [e] at h; exact h
  | exc x ρ' => rw [e] at h; exact h
  | ok q =>
    obtain ⟨args, ρ1⟩ := q
    rw [e] at h
    intro Hk1 H1 vs x1 S1 r1
    have h : okO c F Hk1 bp σ Q (cbE f args ρ1) := okO.mono x1 h
    unfold cbE at h
    obtain ⟨q1, q2, q3⟩ := sh _ _ _ e
    cases ef : fill args ρ1 with
    | none => rw [ef] at h; exact h.elim
    | some xs =>
      rw [ef] at h
      exact callB_end ⟨S1, S.2⟩ r1 q3 (by rw [q1]; exact nd) q2 ef (fun e ρ' q => q) h
theorem mo_callB (F : FnOk X.prog X.w X.K X.mg X.base (L2.CX X.prog X.w) k fa fd ps (spF X.K X.mg n bs f)) (hr : Room k X.A) (hm : X.mg x = some (.ref fa)) (hk : PySem.W.keepIn X.K (.ref fa) = true) (hb : Binds X.K fd ps []) (tk : Takes X c.W)
    (ha : PA X (e :: es) (rdBA c a)) (sh : Bsh a 0 is bs n) (nd : is.Nodup := by decide) (hg : Gl X x := by rfl) (hK : c.K = X.K := by rfl) (hM : c.mg = X.mg := by rfl) (hdb : (x == ("__debug__" : Str)) = false := by decide) (he : starEach (e :: es) X.env = (false, eval e X.env) :: starEach es X.env := by rfl)
    (hpl : (backTo pos (starEach es X.env)).any (·.1) = false := by rfl) : PE X (.Call (.Name x p) (e :: es) [] pos) (rdO c (mCallB f a)) :=
  PEw (pe_callS (E := WE c.W) F hr hg hm hk hb (fun σ => passAt tk σ) ha hdb he hpl) fun σ H Q h => by
    have := rd_callB sh nd h
    rw [hK, hM] at this
    exact this
theorem mf_callB {j : Nat} (G : Fd X.prog X.w X.K X.mg X.base x k ps bs f) (hr : Room j X.A) (hj : k ≤ j) (tk : Takes X c.W) (ha : PA X (e :: es) (rdBA c a)) (sh : Bsh a 0 is bs ps.length) (nd : is.Nodup := by decide) (hg : Gl X x := by rfl) (hK : c.K = X.K := by rfl) (hM : c.mg = X.mg := by rfl) (hdb : (x == ("__debug__" : Str)) = false := by decide)
    (he : starEach (e :: es) X.env = (false, eval e X.env) :: starEach es X.env := by rfl) (hpl : (backTo pos (starEach es X.env)).any (·.1) = false := by rfl) : PE X (.Call (.Name x p) (e :: es) [] pos) (rdO c (mCallB f a)) := by
  obtain ⟨fa, fd, F, hm, hk, hb⟩ := G.ex
  exact mo_callB F (hr.mono hj) hm hk hb tk ha sh nd hg hK hM hdb he hpl
end
end Tm

set_option Elab.async false
set_option linter.all false
set_option maxRecDepth 100000
set_option maxHeartbeats 2000000
namespace Tm
open PySem L2
open Evl (Ex ex_rd ex_l ex_t)
/-! ### a slot's content anew -/
section
variable {K : PySem.W.Frag} {F Hk H : Hp} {bp : List (Nat × Addr)} {σ : St} {ρ : Env}
theorem SL.re {ow : Nat → List Addr} (S : RS K F Hk H bp σ ρ) (s : SL K F Hk H ow σ ρ) {i : Nat} {x : MV} {v : V} (hi : ρ[i]? = some (some x)) (ev : σ[i]? = some (some v)) {Hk' H' : Hp} {y : MV} {A' : List Addr} (e1 : Ex Hk Hk') (e2 : Ex Hk' H')
    (k1 : ∀ a, a ∉ ow i → ∀ o, H a = some o → H' a = some o) (k2 : ∀ a, a ∉ ow i → Hk a = none → (∃ o, H a = some o) → Hk' a = none) (o : OV K Hk' H' y v A') (hA : ∀ a ∈ A', (a ∈ ow i ∨ H a = none) ∧ Hk' a = none) :
    SL K F Hk' H' (put ow i A') σ (ρ.set i (some y)) ∧ RS K F Hk' H' bp σ (ρ.set i (some y)) := by
  have li := lt_get hi
  have sl : SL K F Hk' H' (put ow i A') σ (ρ.set i (some y)) := by
    refine ⟨fun j z hj => ?_, fun j a hj => ?_, fun j hj => ?_, fun j k a hjk h1 h2 => ?_⟩
    · rcases set_get hj with ⟨rfl, e⟩ | ⟨ne, e⟩
      · cases e; exact ⟨v, ev, by rw [put_same]; exact o⟩
      · obtain ⟨u, u1, u2⟩ := s.s j z e
        exact ⟨u, u1, by rw [put_ne ne]; exact u2.move e1 fun a ha o ho => k1 a (fun m => s.d j i a ne ha m) o ho⟩
    · by_cases e : j = i
      · rw [e, put_same] at hj
        obtain ⟨g1, g2⟩ := hA a hj
        refine ⟨g2, ?_, o.there a hj⟩
        rcases g1 with g1 | g1
        · exact (s.f i a g1).2.1
        · cases ef : F a with
          | none => rfl
          | some o => have := S.fr a o ef; rw [g1] at this; cases this
      · rw [put_ne e] at hj
        obtain ⟨g1, g2, o', g3⟩ := s.f j a hj
        have na : a ∉ ow i := fun m => s.d j i a e hj m
        exact ⟨k2 a na g1 ⟨o', g3⟩, g2, o', k1 a na o' g3⟩
    · rw [List.length_set]
      by_cases e : j = i
      · rw [e]; exact li
      · rw [put_ne e] at hj; exact s.w j hj
    · have key : ∀ m, m ≠ i → a ∈ A' → a ∈ ow m → False := fun m hm ha hm2 => by
        rcases (hA a ha).1 with g | g
        · exact s.d m i a hm hm2 g
        · obtain ⟨_, _, o', q⟩ := s.f m a hm2
          rw [g] at q; cases q
      by_cases e : j = i
      · rw [e, put_same] at h1
        by_cases e' : k = i
        · exact hjk (e.trans e'.symm)
        · rw [put_ne e'] at h2; exact key k e' h1 h2
      · rw [put_ne e] at h1
        by_cases e' : k = i
        · rw [e', put_same] at h2; exact key j e h2 h1
        · rw [put_ne e'] at h2; exact s.d j k a hjk h1 h2
  refine ⟨sl, by rw [List.length_set]; exact S.len, e2, fun a o' ha => ?_, fun a o' ha => ?_, ⟨_, sl⟩, S.bor⟩
  · exact k1 a (fun m => by have := (s.f i a m).2.1; rw [ha] at this; cases this) o' (S.fr a o' ha)
  · exact k2 a (fun m => by have := (s.f i a m).2.1; rw [ha] at this; cases this) (S.frk a o' ha) ⟨o', S.fr a o' ha⟩
end
/-! ### an object's fields -/
def putM (f : Str) (v : MV) : List (Str × MV) → List (Str × MV)
  | [] => [(f, v)]
  | (g, x) :: r => if g = f then (g, v) :: r else (g, x) :: putM f v r
theorem look_eq {α : Type} {f g : Str} {x : α} {r : List (Str × α)} : ((g, x) :: r).lookup f = if g = f then some x else r.lookup f := by
  rw [List.lookup_cons]
  by_cases e : g = f
  · subst e; simp
  · rw [if_neg e]
    have : (f == g) = false := by simpa using fun z => e z.symm
    rw [this]
section
variable {K : PySem.W.Frag} {Hk H : Hp}
theorem OFs.focus : ∀ {fs : List (Str × MV)} {vfs : List (Str × V)} {B : List Addr} {f : Str} {x : MV}, OFs K Hk H fs vfs B → fs.lookup f = some x → ∃ v A1 B1 B2, vfs.lookup f = some v ∧ B = B1 ++ A1 ++ B2 ∧ OF K Hk H x v A1 ∧
    ∀ (Hk' H' : Hp) (x' : MV) (v' : V) (A1' : List Addr), Ex Hk Hk' → (∀ a ∈ B1 ++ B2, ∀ o, H a = some o → H' a = some o) → OF K Hk' H' x' v' A1' → OFs K Hk' H' (putM f x' fs) (putF f v' vfs) (B1 ++ A1' ++ B2)
  | [], _, _, _, _, _, h => by simp at h
  | (n, y) :: fs, vfs, B, f, x, ⟨v, r, C, D, e1, e2, o1, o2⟩, h => by
    subst e1 e2
    rw [look_eq] at h
    by_cases e : n = f
    · rw [if_pos e] at h
      cases h
      refine ⟨v, C, [], D, by rw [look_eq, if_pos e], by simp, o1, fun Hk' H' x' v' A1' ex k o' => ?_⟩
      unfold putM putF
      rw [if_pos e, if_pos e]
      exact ⟨v', r, A1', D, rfl, by simp, o', OFs.move o2 ex fun a ha => k a (by simpa using ha)⟩
    · rw [if_neg e] at h
      obtain ⟨w, A1, B1, B2, g1, g2, g3, g4⟩ := OFs.focus o2 h
      refine ⟨w, A1, C ++ B1, B2, by rw [look_eq, if_neg e]; exact g1, by rw [g2]; simp, g3, fun Hk' H' x' v' A1' ex k o' => ?_⟩
      unfold putM putF
      rw [if_neg e, if_neg e]
      exact ⟨v, _, C, B1 ++ A1' ++ B2, rfl, by simp, o1.move ex fun a ha => k a (by simp [ha]), g4 Hk' H' x' v' A1' ex (fun a ha => k a (by rcases List.mem_append.mp ha with h | h <;> simp [h])) o'⟩
theorem OFs.fresh : ∀ {fs : List (Str × MV)} {vfs : List (Str × V)} {B : List Addr} {f : Str}, OFs K Hk H fs vfs B → fs.lookup f = none → vfs.lookup f = none ∧
    ∀ (Hk' H' : Hp) (x' : MV) (v' : V) (A1' : List Addr), Ex Hk Hk' → (∀ a ∈ B, ∀ o, H a = some o → H' a = some o) → OF K Hk' H' x' v' A1' → OFs K Hk' H' (putM f x' fs) (putF f v' vfs) (B ++ A1')
  | [], vfs, B, f, ⟨e1, e2⟩, _ => by
    subst e1 e2
    exact ⟨rfl, fun Hk' H' x' v' A1' ex k o' => ⟨v', [], A1', [], rfl, by simp, o', rfl, rfl⟩⟩
  | (n, y) :: fs, vfs, B, f, ⟨v, r, C, D, e1, e2, o1, o2⟩, h => by
    subst e1 e2
    rw [look_eq] at h
    by_cases e : n = f
    · rw [if_pos e] at h; cases h
    · rw [if_neg e] at h
      obtain ⟨g1, g4⟩ := OFs.fresh o2 h
      refine ⟨by rw [look_eq, if_neg e]; exact g1, fun Hk' H' x' v' A1' ex k o' => ?_⟩
      unfold putM putF
      rw [if_neg e, if_neg e]
      exact ⟨v, _, C, D ++ A1', rfl, by simp, o1.move ex fun a ha => k a (by simp [ha]), g4 Hk' H' x' v' A1' ex (fun a ha => k a (by simp [ha])) o'⟩
theorem OFs.len : ∀ {fs : List (Str × MV)} {vfs : List (Str × V)} {B : List Addr}, OFs K Hk H fs vfs B → vfs.length = fs.length
  | [], vfs, B, ⟨e1, _⟩ => by rw [e1]; rfl
  | _ :: fs, vfs, B, ⟨v, r, C, D, e1, e2, o1, o2⟩ => by rw [e1, List.length_cons, List.length_cons, o2.len]
theorem OV.obj {C : Str} {fs : List (Str × MV)} {v : V} {A : List Addr} : OV K Hk H (.obj C fs) v A ↔ ∃ p CA dx vfs B, v = .ref p ∧ A = p :: B ∧ PySem.W.nsIn K mainGlobals C = some (some (.ref CA)) ∧ H p = some (.ins CA dx vfs) ∧ OFs K Hk H fs vfs B ∧ (p :: B).Nodup := by
  unfold OV; rfl
theorem OF.own {xs : List MV} {v : V} {A : List Addr} : OF K Hk H (.own xs) v A ↔ ∃ p vs, v = .ref p ∧ A = [p] ∧ H p = some (.lst vs) ∧ RVs K Hk xs vs := by
  unfold OF; rfl
end
structure ObC (K : PySem.W.Frag) (C : Str) (fs : List Str) : Prop where
  ex : ∀ CA, PySem.W.nsIn K mainGlobals C = some (some (.ref CA)) → Cls K CA ∧ ∀ f ∈ fs, NoAttr K CA f
section
variable {X : Cx} {c : Ct} {C x f : Str} {fl : List Str} {i : Nat} {p p2 pos apos cpos : Pos} {e : Expr} {es : List Expr}
def objAt (ρ : Env) (i : Nat) (C : Str) : Option (List (Str × MV)) := match ρ[i]? with
  | some (some (.obj D fs)) => if D = C then some fs else none
  | _ => none
theorem obj_at {ρ : Env} {i : Nat} {C : Str} {fs : List (Str × MV)} (h : objAt ρ i C = some fs) : ρ[i]? = some (some (.obj C fs)) := by
  unfold objAt at h
  split at h
  · rename_i D gs e
    split at h
    · rename_i hD; subst hD; cases h; exact e
    · cases h
  · cases h
theorem obj_rs {F Hk H : Hp} {bp : List (Nat × Addr)} {σ : St} {ρ : Env} {fs : List (Str × MV)} (S : At c F Hk H bp σ ρ) (h : ρ[i]? = some (some (.obj C fs))) :
    ∃ ow p CA dx vfs B, SL c.K F Hk H ow σ ρ ∧ σ[i]? = some (some (.ref p)) ∧ ow i = p :: B ∧ PySem.W.nsIn c.K mainGlobals C = some (some (.ref CA)) ∧ H p = some (.ins CA dx vfs) ∧ OFs c.K Hk H fs vfs B ∧ (p :: B).Nodup := by
  obtain ⟨ow, s⟩ := S.1.ow
  obtain ⟨v, ev, o⟩ := s.s i _ h
  obtain ⟨p, CA, dx, vfs, B, e1, e2, e3, e4, e5, e6⟩ := OV.obj.mp o
  subst e1
  exact ⟨ow, p, CA, dx, vfs, B, s, ev, e2, e3, e4, e5, e6⟩
def mFld (C : Str) (i : Nat) (f : Str) : ME := fun ρ => match objAt ρ i C with
  | some fs => (match fs.lookup f with
    | some (.own xs) => .ok (.lst xs, ρ.set i (some (.obj C (putM f (.lst xs) fs))))
    | some y => if y.per then .ok (y, ρ) else .stuck
    | none => .stuck)
  | none => .stuck
theorem putF_same {f : Str} {v : V} : ∀ {vfs : List (Str × V)}, vfs.lookup f = some v → putF f v vfs = vfs
  | [], h => by simp at h
  | (n, y) :: r, h => by
    rw [look_eq] at h
    unfold putF
    by_cases e : n = f
    · rw [if_pos e] at h ⊢; cases h; rfl
    · rw [if_neg e] at h ⊢; rw [putF_same h]
theorem me_fld (Z : ObC X.K C fl) (hfl : f ∈ fl) (hN : X.N[i]? = some x) (hv : Vis X.env.scope x) (hK : c.K = X.K := by rfl) (hb : attributeBase (.Name x p) f X.env (eval (.Name x p) X.env) = eval (.Name x p) X.env := by rfl) (hd : (x == ("__debug__" : Str)) = false := by decide) (hcd : (x == ("__classdict__" : Str)) = false := by decide) :
    PE X (.Attribute (.Name x p) f pos) (rdE c (mFld C i f)) :=
  PEw (pe_fld (pe_var hN hv hd hcd) hb) fun σ H Q h => by
    obtain ⟨F, Hk, bp, ρ, S, h⟩ := h
    unfold mFld at h
    cases eo : objAt ρ i C with
    | none => rw [eo] at h; exact h.elim
    | some fs =>
      rw [eo] at h
      have hi := obj_at eo
      obtain ⟨ow, q, CA, dx, vfs, B, s, ev, eow, ns, hq, ofs, nd⟩ := obj_rs S hi
      obtain ⟨cl, na⟩ := Z.ex CA (by rw [← hK]; exact ns)
      refine ⟨_, ev, q, CA, dx, vfs, ?_⟩
      cases el : fs.lookup f with
      | none => simp only [el] at h; exact h.elim
      | some y =>
        obtain ⟨v, A1, B1, B2, g1, g2, g3, g4⟩ := ofs.focus el
        refine ⟨v, rfl, hq, cl, na f hfl, g1, ?_⟩
        have pl : y.per = true → okE c F Hk bp σ Q (if y.per then .ok (y, ρ) else .stuck) → Q v H := fun py h => by
          rw [if_pos py] at h
          exact h _ _ _ (Ex.refl _) S.1 ((OF.per py).mp g3).2
        by_cases hown : ∃ xs, y = .own xs
        · obtain ⟨xs, rfl⟩ := hown
          simp only [el] at h
          obtain ⟨r, vs, rfl, rfl, hr, rv⟩ := OF.own.mp g3
          have mr : r ∈ ow i := by rw [eow, g2]; simp
          obtain ⟨k0, f0, _⟩ := s.f i r mr
          have ex := Ex.new (o := HO.lst vs) k0
          have rl : RV c.K (upd Hk r (.lst vs)) (.lst xs) (.ref r) := RV.lst.mpr ⟨r, vs, rfl, upd_same, rv.mono ex⟩
          have nB : r ∉ q :: (B1 ++ B2) := by
            rw [g2] at nd
            have : (r :: (q :: (B1 ++ B2))).Nodup := nd.perm (by
              refine List.Perm.symm ?_
              simp only [List.append_assoc]
              exact (List.Perm.swap q r _).trans (List.Perm.cons q (List.perm_middle.symm)))
            exact (List.nodup_cons.mp this).1
          have nd2 : (q :: (B1 ++ B2)).Nodup := by
            rw [g2] at nd
            refine nd.sublist (List.Sublist.cons_cons q ?_)
            simp only [List.append_assoc]
            exact List.Sublist.append_left (List.sublist_append_right [r] B2) B1
          obtain ⟨sl, R⟩ := SL.re (y := .obj C (putM f (.lst xs) fs)) (A' := q :: (B1 ++ B2)) S.1 s hi ev ex (S.1.ex.updL hr) (fun a _ o ho => ho) (fun a ha hn _ => by
            rw [upd_ne (fun z => ha (by rw [z]; exact mr))]; exact hn) (OV.obj.mpr ⟨q, CA, dx, vfs, B1 ++ B2, rfl, rfl, ns, hq, by
              have := g4 (upd Hk r (.lst vs)) H (.lst xs) (.ref r) [] ex (fun _ _ _ z => z) ((OF.per rfl).mpr ⟨rfl, rl⟩)
              rw [putF_same g1] at this
              simpa using this, nd2⟩) (fun a ha => by
              have ma : a ∈ ow i := by
                rw [eow, g2]
                rcases List.mem_cons.mp ha with rfl | ha
                · simp
                · rcases List.mem_append.mp ha with h | h <;> simp [h]
              exact ⟨.inl ma, by rw [upd_ne (fun z => nB (by rw [← z]; exact ha))]; exact (s.f i a ma).1⟩)
          exact h _ _ _ ex R rl
        · have py : y.per = true := by
            cases y with
            | own xs => exact (hown ⟨xs, rfl⟩).elim
            | obj C fs => exact (show False by unfold OF at g3; unfold RV at g3; exact g3.2).elim
            | _ => rfl
          refine pl py ?_
          cases y <;> first | (exact (hown ⟨_, rfl⟩).elim) | (simp only [el] at h; exact h)
def fldSet (C : Str) (i : Nat) (f : Str) (y : MV) (ρ1 : Env) : Res (Fl × Env) := match objAt ρ1 i C with
  | some fs => if y.per && decide (fs.length < 900) then .ok (.nx, ρ1.set i (some (.obj C (putM f y fs)))) else .stuck
  | none => .stuck
def mFldSet (C : Str) (i : Nat) (f : Str) (a : ME) : MS := fun ρ => (a ρ).bind (fldSet C i f)
theorem obj_put {F Hk H : Hp} {bp : List (Nat × Addr)} {σ : St} {ρ : Env} {fs : List (Str × MV)} {ow : Nat → List Addr} {q CA dx : Addr} {vfs : List (Str × V)} {B : List Addr} {y : MV} {v : V} (S : RS c.K F Hk H bp σ ρ) (s : SL c.K F Hk H ow σ ρ) (hi : ρ[i]? = some (some (.obj C fs))) (ev : σ[i]? = some (some (.ref q))) (eow : ow i = q :: B)
    (ns : PySem.W.nsIn c.K mainGlobals C = some (some (.ref CA))) (hq : H q = some (.ins CA dx vfs)) (ofs : OFs c.K Hk H fs vfs B) (nd : (q :: B).Nodup) (py : y.per = true) (r : RV c.K Hk y v) :
    RS c.K F Hk (upd H q (.ins CA dx (putF f v vfs))) bp σ (ρ.set i (some (.obj C (putM f y fs)))) := by
  have mq : q ∈ ow i := by rw [eow]; simp
  obtain ⟨k0, f0, _⟩ := s.f i q mq
  have sub : ∃ B', OFs c.K Hk (upd H q (.ins CA dx (putF f v vfs))) (putM f y fs) (putF f v vfs) B' ∧ B'.Sublist B := by
    have nq : ∀ a ∈ B, a ≠ q := fun a ha z => (List.nodup_cons.mp nd).1 (by rw [← z]; exact ha)
    have st : ∀ a ∈ B, ∀ o, H a = some o → upd H q (.ins CA dx (putF f v vfs)) a = some o := fun a ha o ho => by rw [upd_ne (nq a ha)]; exact ho
    cases el : fs.lookup f with
    | some z =>
      obtain ⟨w, A1, B1, B2, g1, g2, g3, g4⟩ := ofs.focus el
      refine ⟨B1 ++ [] ++ B2, g4 Hk _ y v [] (Ex.refl _) (fun a ha => st a (by rw [g2]; rcases List.mem_append.mp ha with h | h <;> simp [h])) ((OF.per py).mpr ⟨rfl, r⟩), ?_⟩
      rw [g2]
      simp only [List.append_nil, List.append_assoc]
      exact List.Sublist.append_left (List.sublist_append_right A1 B2) B1
    | none =>
      obtain ⟨g1, g4⟩ := ofs.fresh el
      exact ⟨B ++ [], g4 Hk _ y v [] (Ex.refl _) st ((OF.per py).mpr ⟨rfl, r⟩), by simp⟩
  obtain ⟨B', o', sb⟩ := sub
  refine (SL.re (A' := q :: B') S s hi ev (Ex.refl _) (S.ex.mut k0) (fun a ha o ho => by rw [upd_ne (fun z => ha (by rw [z]; exact mq))]; exact ho) (fun a _ hn _ => hn)
    (OV.obj.mpr ⟨q, CA, dx, _, B', rfl, rfl, ns, upd_same, o', nd.sublist (sb.cons_cons q)⟩) (fun a ha => ?_)).2
  have ma : a ∈ ow i := by
    rw [eow]
    rcases List.mem_cons.mp ha with rfl | ha
    · simp
    · exact List.mem_cons_of_mem _ (sb.subset ha)
  exact ⟨.inl ma, (s.f i a ma).1⟩
theorem ms_fldSet {a : ME} (Z : ObC X.K C fl) (hfl : f ∈ fl) (hN : X.N[i]? = some x) (hv : Vis X.env.scope x) (he : PE X e (rdE c a)) (hK : c.K = X.K := by rfl) (hs : swapsWith e (some (.Attribute (.Name x p) f p2)) pos.line X.env = pure false := by rfl) (hd : (x == ("__debug__" : Str)) = false := by decide) (hcd : (x == ("__classdict__" : Str)) = false := by decide) :
    PS X (.Assign [.Attribute (.Name x p) f p2] e pos) (rdS c (mFldSet C i f a)) :=
  PSw (ps_fld (pe_var hN hv hd hcd) he hs) fun D σ H h => by
    obtain ⟨F, Hk, bp, ρ, S, h⟩ := h
    refine rdw (bE (postS (σ := σ)) S h) fun v H1 ⟨Hk1, y, ρ1, x1, S1, r1, h1⟩ => ?_
    unfold fldSet at h1
    cases eo : objAt ρ1 i C with
    | none => rw [eo] at h1; exact h1.elim
    | some fs =>
      rw [eo] at h1
      have h1 : okS c F Hk1 bp D (if (y.per && decide (fs.length < 900)) = true then .ok (.nx, ρ1.set i (some (.obj C (putM f y fs)))) else .stuck) := h1
      split at h1
      · rename_i hc
        simp only [Bool.and_eq_true, decide_eq_true_eq] at hc
        have hi := obj_at eo
        obtain ⟨ow, q, CA, dx, vfs, B, s, ev, eow, ns, hq, ofs, nd⟩ := obj_rs S1 hi
        obtain ⟨cl, na⟩ := Z.ex CA (by rw [← hK]; exact ns)
        refine ⟨_, ev, q, CA, dx, vfs, rfl, hq, cl, na f hfl, by rw [ofs.len]; omega, ?_⟩
        exact h1 _ _ _ (Ex.refl _) (obj_put S1.1 s hi ev eow ns hq ofs nd hc.1 r1)
      · exact h1.elim
def mFldNil (C : Str) (i : Nat) (f : Str) : MS := fun ρ => match objAt ρ i C with
  | some fs => if decide (fs.length < 900) then .ok (.nx, ρ.set i (some (.obj C (putM f (.own []) fs)))) else .stuck
  | none => .stuck
theorem ms_fldNil {p3 : Pos} (Z : ObC X.K C fl) (hfl : f ∈ fl) (hN : X.N[i]? = some x) (hv : Vis X.env.scope x) (hK : c.K = X.K := by rfl) (hd : (x == ("__debug__" : Str)) = false := by decide) (hcd : (x == ("__classdict__" : Str)) = false := by decide)
    (hs : swapsWith (.List [] p3) (some (.Attribute (.Name x p) f p2)) pos.line X.env = pure false := by rfl) :
    PS X (.Assign [.Attribute (.Name x p) f p2] (.List [] p3) pos) (rdS c (mFldNil C i f)) :=
  PSw (ps_fld (pe_var hN hv hd hcd) (pe_lst pa_nil) hs) fun D σ H h => by
    obtain ⟨F, Hk, bp, ρ, S, h⟩ := h
    unfold mFldNil at h
    cases eo : objAt ρ i C with
    | none => rw [eo] at h; exact h.elim
    | some fs =>
      rw [eo] at h
      have h : okS c F Hk bp D (if decide (fs.length < 900) = true then .ok (.nx, ρ.set i (some (.obj C (putM f (.own []) fs)))) else .stuck) := h
      split at h
      · rename_i hc
        have hc := of_decide_eq_true hc
        have hi := obj_at eo
        refine ⟨by rw [sizeLine_eq]; decide, fun l hl => ?_⟩
        obtain ⟨ow, q, CA, dx, vfs, B, s, ev, eow, ns, hq, ofs, nd⟩ := obj_rs S hi
        obtain ⟨cl, na⟩ := Z.ex CA (by rw [← hK]; exact ns)
        have nlq : l ≠ q := fun z => by rw [z, hq] at hl; cases hl
        refine ⟨_, ev, q, CA, dx, vfs, rfl, by rw [upd_ne (Ne.symm nlq)]; exact hq, cl, na f hfl, by rw [ofs.len]; omega, ?_⟩
        have mq : q ∈ ow i := by rw [eow]; simp
        obtain ⟨k0, f0, _⟩ := s.f i q mq
        have kl := S.1.ex.back hl
        have st : ∀ a ∈ B, ∀ o, H a = some o → upd (upd H l (.lst [])) q (.ins CA dx (putF f (.ref l) vfs)) a = some o := fun a ha o ho => by
          rw [upd_ne (fun z => (List.nodup_cons.mp nd).1 (by rw [← z]; exact ha)), upd_ne (fun z => by rw [z, hl] at ho; cases ho)]; exact ho
        have ol : OF c.K Hk (upd (upd H l (.lst [])) q (.ins CA dx (putF f (.ref l) vfs))) (.own []) (.ref l) [l] := OF.own.mpr ⟨l, [], rfl, rfl, by rw [upd_ne nlq, upd_same], RVs.nil.mpr rfl⟩
        have sub : ∃ B', OFs c.K Hk (upd (upd H l (.lst [])) q (.ins CA dx (putF f (.ref l) vfs))) (putM f (.own []) fs) (putF f (.ref l) vfs) B' ∧ (∀ a ∈ B', a = l ∨ a ∈ B) ∧ (q :: B').Nodup := by
          have lB : l ∉ q :: B := fun m => by
            obtain ⟨_, _, o, g⟩ := s.f i l (by rw [eow]; exact m)
            rw [hl] at g; cases g
          cases el : fs.lookup f with
          | some z =>
            obtain ⟨w, A1, B1, B2, g1, g2, g3, g4⟩ := ofs.focus el
            refine ⟨B1 ++ [l] ++ B2, g4 Hk _ _ _ [l] (Ex.refl _) (fun a ha => st a (by rw [g2]; rcases List.mem_append.mp ha with h | h <;> simp [h])) ol, fun a ha => ?_, ?_⟩
            · rw [g2]
              simp only [List.mem_append, List.mem_singleton] at ha ⊢
              rcases ha with (h | h) | h
              · exact .inr (.inl (.inl h))
              · exact .inl h
              · exact .inr (.inr h)
            · have n2 : (q :: (B1 ++ B2)).Nodup := by
                rw [g2] at nd
                refine nd.sublist (List.Sublist.cons_cons q ?_)
                simp only [List.append_assoc]
                exact List.Sublist.append_left (List.sublist_append_right A1 B2) B1
              have : (l :: (q :: (B1 ++ B2))).Nodup := List.nodup_cons.mpr ⟨fun m => lB (by
                rw [g2]
                rcases List.mem_cons.mp m with h | h
                · simp [h]
                · rcases List.mem_append.mp h with h | h <;> simp [h]), n2⟩
              refine this.perm ?_
              simp only [List.append_assoc]
              exact (List.Perm.swap q l _).trans (List.Perm.cons q (List.perm_middle.symm))
          | none =>
            obtain ⟨g1, g4⟩ := ofs.fresh el
            refine ⟨B ++ [l], g4 Hk _ _ _ [l] (Ex.refl _) st ol, fun a ha => ?_, ?_⟩
            · simp only [List.mem_append, List.mem_singleton] at ha; exact ha.symm
            · have : (l :: (q :: B)).Nodup := List.nodup_cons.mpr ⟨lB, nd⟩
              refine this.perm ?_
              exact (List.perm_append_singleton l (q :: B)).symm
        obtain ⟨B', o', sb, nd'⟩ := sub
        refine h _ _ _ (Ex.refl _) (SL.re (A' := q :: B') S.1 s hi ev (Ex.refl _) (fun a o ha => ?_) (fun a ha o ho => ?_) (fun a _ hn _ => hn)
          (OV.obj.mpr ⟨q, CA, dx, _, B', rfl, rfl, ns, upd_same, o', nd'⟩) (fun a ha => ?_)).2
        · rw [upd_ne (fun z => by rw [z, k0] at ha; cases ha), upd_ne (fun z => by rw [z, kl] at ha; cases ha)]
          exact S.1.ex a o ha
        · rw [upd_ne (fun z => ha (by rw [z]; exact mq)), upd_ne (fun z => by rw [z, hl] at ho; cases ho)]; exact ho
        · rcases List.mem_cons.mp ha with rfl | ha
          · exact ⟨.inl mq, k0⟩
          · rcases sb a ha with rfl | ha
            · exact ⟨.inr hl, kl⟩
            · have ma : a ∈ ow i := by rw [eow]; exact List.mem_cons_of_mem _ ha
              exact ⟨.inl ma, (s.f i a ma).1⟩
      · exact h.elim
def fldAug (g : MV → MV → Option MV) (C : Str) (i : Nat) (f : Str) (u y : MV) (ρ1 : Env) : Res (Fl × Env) := match objAt ρ1 i C with
  | some fs => (match g u y with | some z => if flatM z && decide (fs.length < 900) then .ok (.nx, ρ1.set i (some (.obj C (putM f z fs)))) else .stuck | none => .stuck)
  | none => .stuck
def mFldAug (g : MV → MV → Option MV) (C : Str) (i : Nat) (f : Str) (a : ME) : MS := fun ρ => match objAt ρ i C with
  | some fs => (match fs.lookup f with | some (.int k) => (a ρ).bind (fldAug g C i f (.int k)) | _ => .stuck)
  | none => .stuck
theorem ms_fldAug {a : ME} (Z : ObC X.K C fl) (hfl : f ∈ fl) (hN : X.N[i]? = some x) (hv : Vis X.env.scope x) (he : PE X e (rdE c a)) (hK : c.K = X.K := by rfl) (hd : (x == ("__debug__" : Str)) = false := by decide) (hcd : (x == ("__classdict__" : Str)) = false := by decide) :
    PS X (.AugAssign (.Attribute (.Name x p) f p2) .Add e pos) (rdS c (mFldAug fAddI C i f a)) :=
  PSw (ps_fldaug (pe_var hN hv hd hcd) he in_add) fun D σ H h => by
    obtain ⟨F, Hk, bp, ρ, S, h⟩ := h
    unfold mFldAug at h
    cases eo : objAt ρ i C with
    | none => rw [eo] at h; exact h.elim
    | some fs =>
      rw [eo] at h
      have hi := obj_at eo
      obtain ⟨ow, q, CA, dx, vfs, B, s, ev, eow, ns, hq, ofs, nd⟩ := obj_rs S hi
      obtain ⟨cl, na⟩ := Z.ex CA (by rw [← hK]; exact ns)
      refine ⟨_, ev, q, CA, dx, vfs, ?_⟩
      split at h
      · rename_i fs' efs
        cases efs
        split at h
        · rename_i k el
          obtain ⟨v, A1, B1, B2, g1, g2, g3, g4⟩ := ofs.focus el
          have ekv : v = .int k := RV.int.mp ((OF.per rfl).mp g3).2
          refine ⟨v, rfl, hq, cl, na f hfl, g1, ?_⟩
          refine rdw (bE (postS (σ := σ)) S h) fun w H1 ⟨Hk1, y, ρ1, x1, S1, r1, h1⟩ => ?_
          unfold fldAug at h1
          split at h1
          · rename_i fs1 eo1
            split at h1
            · rename_i z ez
              split at h1
              · rename_i hc
                simp only [Bool.and_eq_true, decide_eq_true_eq] at hc
                have hi1 := obj_at eo1
                obtain ⟨ow1, q1, CA1, dx1, vfs1, B1', s1, ev1, eow1, ns1, hq1, ofs1, nd1⟩ := obj_rs S1 hi1
                rw [ev] at ev1
                cases ev1
                rw [ns] at ns1
                cases ns1
                cases y with
                | int j1 =>
                  have ez : some (MV.int (k + j1)) = some z := ez
                  cases ez
                  refine ⟨k, j1, ekv, RV.int.mp r1, dx1, vfs1, hq1, by rw [ofs1.len]; omega, ?_⟩
                  exact h1 _ _ _ (Ex.refl _) (obj_put S1.1 s1 hi1 ev eow1 ns hq1 ofs1 nd1 rfl (RV.int.mpr rfl))
                | _ => cases ez
              · exact h1.elim
            · exact h1.elim
          · exact h1.elim
        · exact h.elim
      · exact h.elim
end
end Tm

set_option Elab.async false
set_option linter.all false
set_option maxRecDepth 100000
set_option maxHeartbeats 2000000
namespace Tm
open PySem L2
open Evl (Ex ex_rd ex_l ex_t)
/-! ### methods of an own object -/
structure ObM (P : Program) (w : World) (K : PySem.W.Frag) (mg : Str → Option Value) (base : Heap) (C m : Str) (k : Nat) (ps : List Str) (bs : List Nat) (f : MF) : Prop where
  ex : ∃ CA g fd, PySem.W.nsIn K mainGlobals C = some (some (.ref CA)) ∧ Cls K CA ∧ Meth K CA m g ∧ FnOk P w K mg base (L2.CX P w) k g fd ps (spF K mg ps.length bs f) ∧ Binds K fd ps []
def mbO (C m : Str) (i : Nat) (b : MB) : MB := fun ρ => match objAt ρ i C with
  | some fs => if (fs.lookup m).isNone then (b ρ).bind fun xs ρ2 => .ok (.b i :: xs, ρ2) else .stuck
  | none => .stuck
theorem bsh_o {C m : Str} {i : Nat} {b : MB} {k n : Nat} {is bs : List Nat} (h : Bsh b (k + 1) is bs n) : Bsh (mbO C m i b) k (i :: is) (k :: bs) (n + 1) := fun ρ xs ρ' e => by
  unfold mbO at e
  split at e
  · split at e
    · cases eb : b ρ with
      | stuck => rw [eb] at e; cases e
      | exc x r => rw [eb] at e; cases e
      | ok q =>
        rw [eb] at e
        cases e
        obtain ⟨h1, h2, h3⟩ := h _ _ _ eb
        exact ⟨by show i :: _ = _; rw [h1], by show k :: _ = _; rw [h2], by simp [h3]⟩
    · cases e
  · cases e
def tMethS (C : Addr) (m : Str) (sp : Sp) (E : St → XK) (ta : TE) (t : TA) : TE := fun σ H Q => ta σ H fun x H1 => ∃ a dx fs, x = .ref a ∧ H1 a = some (.ins C dx fs) ∧ fs.lookup m = none ∧ t σ H1 fun vs H2 => sp (x :: vs) H2 Q (E σ)
section
variable {X : Cx} {CX : CXT} {k : Nat} {g CA : Addr} {fd : FuncData} {ps : List Str} {sp : Sp} {E : St → XK} {m : Str} {pos apos : Pos} {e o : Expr} {es : List Expr} {ta : TE} {t : TA}
theorem pe_methS {pl : Sem Bool} (he : PE X o ta) (c : Cls X.K CA) (hm : Meth X.K CA m g) (F : FnOk X.prog X.w X.K X.mg X.base CX k g fd ps sp) (hr : Room k X.A) (hb : Binds X.K fd ps []) (hx : ∀ σ, PassesAt CX X σ (E σ)) (ha : PA X (e :: es) t)
    (hst : starEach (e :: es) X.env = (false, eval e X.env) :: starEach es X.env := by rfl) (hpl : (backTo pos (starEach es X.env)).any (·.1) = false := by rfl)
    (ht : eval (.Call (.Attribute o m apos) (e :: es) [] pos) X.env = (do
      let ov ← eval o X.env
      standAt apos.atName
      let (f, first) ← holding [ov] (getMethod ov m pl)
      callWith pos f first (backTo pos (starEach (e :: es) X.env)) (backToKw pos (keywordEach [] X.env))) := by rfl) :
    PE X (.Call (.Attribute o m apos) (e :: es) [] pos) (tMethS CA m sp E ta t) := by
  refine ⟨fun pins s σ H Q I h => ?_⟩
  refine PySem.W.methodCall_KW (pl := pl) (thn (he.run pins s σ H _ I h) fun u s1 ⟨x, H1, I1, rx, a, dx, fs, ex, ea, l, q⟩ => ?_) ht
  subst ex
  obtain rfl : u = Value.ref a := rx
  refine getmeth_ok I1 ea c hm l ?_
  refine PySem.W.callWith_K (first := [.ref a]) (h₀ := X.base) I.ok.mod.kin hm.kp (thn (ha.run pos pins s1 σ H1 _ I1 q) fun us s2 ⟨vs, H2, I2, r, q2⟩ => ⟨I2.kIn, ?_⟩) hst hpl
  exact run_fnS (us := .ref a :: us) (vs := .ref a :: vs) F hr hb (hx σ) I2 (.cons rfl r) q2
theorem pe_methS0 {pl : Sem Bool} (he : PE X o ta) (c : Cls X.K CA) (hm : Meth X.K CA m g) (F : FnOk X.prog X.w X.K X.mg X.base CX k g fd ps sp) (hr : Room k X.A) (hb : Binds X.K fd ps []) (hx : ∀ σ, PassesAt CX X σ (E σ))
    (ht : eval (.Call (.Attribute o m apos) [] [] pos) X.env = (do
      let ov ← eval o X.env
      standAt apos.atName
      let (f, first) ← holding [ov] (getMethod ov m pl)
      callWith pos f first (backTo pos (starEach [] X.env)) (backToKw pos (keywordEach [] X.env))) := by rfl) :
    PE X (.Call (.Attribute o m apos) [] [] pos) (tMethS CA m sp E ta tNil) := by
  refine ⟨fun pins s σ H Q I h => ?_⟩
  refine PySem.W.methodCall_KW (pl := pl) (thn (he.run pins s σ H _ I h) fun u s1 ⟨x, H1, I1, rx, a, dx, fs, ex, ea, l, q⟩ => ?_) ht
  subst ex
  obtain rfl : u = Value.ref a := rx
  refine getmeth_ok I1 ea c hm l ?_
  exact PySem.W.callWith_K0 (first := [.ref a]) I1.kIn hm.kp (run_fnS (us := [.ref a]) (vs := [.ref a]) F hr hb (hx σ) I1 (.cons rfl .nil) q)
end
def cbE0 (f : MF) (args : List BA) (ρ : Env) : Res (MV × Env) := match fill args ρ with
  | some xs => (match f xs with | .ok (v, os) => .ok (v, back ρ (idxB args) os) | _ => .stuck)
  | none => .stuck
def mCallB0 (f : MF) (a : MB) : ME := fun ρ => (a ρ).bind (cbE0 f)
theorem cb0_okO {c : Ct} {F Hk : Hp} {bp : List (Nat × Addr)} {σ : St} {Q : VK} {f : MF} {args : List BA} {ρ : Env} {W : WX} (h : okO c F Hk bp σ Q (cbE0 f args ρ)) : okO ⟨c.K, c.mg, W, c.bs, c.J, c.Jm⟩ F Hk bp σ Q (cbE f args ρ) := by
  unfold cbE0 at h
  unfold cbE
  cases ef : fill args ρ with
  | none => rw [ef] at h; exact h.elim
  | some xs =>
    rw [ef] at h
    simp only at h ⊢
    cases e : f xs with
    | stuck => rw [e] at h; exact h.elim
    | exc x os => rw [e] at h; exact h.elim
    | ok q => rw [e] at h; exact h
section
variable {X : Cx} {c : Ct} {k j : Nat} {fa : Addr} {fd : FuncData} {ps : List Str} {x C m : Str} {p pos apos : Pos} {e : Expr} {es : List Expr} {f : MF} {a : MB} {n i : Nat} {is bs : List Nat}
theorem rd_cB0 (sh : Bsh a 0 is bs n) (nd : is.Nodup) {σ : St} {H : Hp} {Q : VK} (h : rdO c (mCallB0 f a) σ H Q) : tCall (spF c.K c.mg n bs f) [] (fun _ _ _ => False) (rdBA c a) σ H Q := by
  obtain ⟨F, Hk, bp, ρ, S, h⟩ := h
  refine ⟨F, Hk, bp, ρ, S, ?_⟩
  have h : okO c F Hk bp σ Q ((a ρ).bind (cbE0 f)) := h
  cases e : a ρ with
  | stuck => rw [e] at h; exact h
  | exc x ρ' => rw [e] at h; exact h
  | ok q =>
    obtain ⟨args, ρ1⟩ := q
    rw [e] at h
    intro Hk1 H1 vs x1 S1 r1
    rw [List.append_nil]
    have h : okO c F Hk1 bp σ Q (cbE0 f args ρ1) := okO.mono x1 h
    have h2 := cb0_okO (W := fun _ _ _ _ => False) h
    unfold cbE at h2
    obtain ⟨q1, q2, q3⟩ := sh _ _ _ e
    cases ef : fill args ρ1 with
    | none => rw [ef] at h2; exact h2.elim
    | some xs =>
      rw [ef] at h2
      exact callB_end (c := ⟨c.K, c.mg, fun _ _ _ _ => False, c.bs, c.J, c.Jm⟩) ⟨S1, S.2⟩ r1 q3 (by rw [q1]; exact nd) q2 ef (fun e ρ' q => q) h2
theorem mf_callB0 (G : Fd X.prog X.w X.K X.mg X.base x k ps bs f) (hr : Room j X.A) (hj : k ≤ j) (ha : PA X (e :: es) (rdBA c a)) (sh : Bsh a 0 is bs ps.length) (nd : is.Nodup := by decide) (hg : Gl X x := by rfl) (hK : c.K = X.K := by rfl) (hM : c.mg = X.mg := by rfl) (hdb : (x == ("__debug__" : Str)) = false := by decide)
    (he : starEach (e :: es) X.env = (false, eval e X.env) :: starEach es X.env := by rfl) (hpl : (backTo pos (starEach es X.env)).any (·.1) = false := by rfl) : PE X (.Call (.Name x p) (e :: es) [] pos) (rdO c (mCallB0 f a)) := by
  obtain ⟨fa, fd, F, hm, hk, hb⟩ := G.ex
  exact PEw (pe_call F (hr.mono hj) hg hm hk hb .nil passes0 ha hdb he hpl) fun σ H Q h => by
    have := rd_cB0 sh nd h
    rw [hK, hM] at this
    exact this
theorem rd_meth {CA : Addr} (ns : PySem.W.nsIn c.K mainGlobals C = some (some (.ref CA))) {σ : St} {H : Hp} {Q : List V → Hp → Prop} (h : rdBA c (mbO C m i a) σ H Q) : tVar i σ H fun x H1 => ∃ q dx fs, x = .ref q ∧ H1 q = some (.ins CA dx fs) ∧ fs.lookup m = none ∧ rdBA c a σ H1 fun vs H2 => Q (x :: vs) H2 := by
  obtain ⟨F, Hk, bp, ρ, S, h⟩ := h
  unfold mbO at h
  cases eo : objAt ρ i C with
  | none => simp only [eo] at h; exact h.elim
  | some fs =>
    simp only [eo] at h
    split at h
    · rename_i hn
      have hi := obj_at eo
      obtain ⟨ow, q, CA', dx, vfs, B, s, ev, eow, ns', hq, ofs, nd⟩ := obj_rs S hi
      rw [ns] at ns'
      cases ns'
      have ln : fs.lookup m = none := by simpa using hn
      refine ⟨_, ev, q, dx, vfs, rfl, hq, (ofs.fresh ln).1, ?_⟩
      refine rdBAw (bBA postBA S h) fun vs H2 ⟨Hk2, xs, ρ2, x2, S2, r2, h2⟩ => ?_
      exact h2 _ _ _ (Ex.refl _) S2.1 ⟨_, vs, rfl, ev, r2⟩
    · exact h.elim
theorem mo_meth (hr : Room j X.A) (hj : k ≤ j) (tk : Takes X c.W) (hN : X.N[i]? = some x) (hv : Vis X.env.scope x) (ha : PA X (e :: es) (rdBA c a)) (sh : Bsh a 1 is bs n) {bs' : List Nat} (hbs : 0 :: bs = bs') (hn : n + 1 = ps.length) (G : ObM X.prog X.w X.K X.mg X.base C m k ps bs' f) (nd : (i :: is).Nodup := by decide) (hK : c.K = X.K := by rfl) (hM : c.mg = X.mg := by rfl) (hd : (x == ("__debug__" : Str)) = false := by decide) (hcd : (x == ("__classdict__" : Str)) = false := by decide)
    {pl : Sem Bool} (hst : starEach (e :: es) X.env = (false, eval e X.env) :: starEach es X.env := by rfl) (hpl : (backTo pos (starEach es X.env)).any (·.1) = false := by rfl)
    (ht : eval (.Call (.Attribute (.Name x p) m apos) (e :: es) [] pos) X.env = (do
      let ov ← eval (.Name x p) X.env
      standAt apos.atName
      let (f, first) ← holding [ov] (getMethod ov m pl)
      callWith pos f first (backTo pos (starEach (e :: es) X.env)) (backToKw pos (keywordEach [] X.env))) := by rfl) :
    PE X (.Call (.Attribute (.Name x p) m apos) (e :: es) [] pos) (rdO c (mCallB f (mbO C m i a))) := by
  subst hbs
  obtain ⟨CA, g, fd, ns, cl, me, F, hb⟩ := G.ex
  refine PEw (pe_methS (pl := pl) (E := WE c.W) (pe_var hN hv hd hcd) cl me F (hr.mono hj) hb (fun σ => passAt tk σ) ha hst hpl ht) fun σ H Q h => ?_
  have z := rd_callB (c := c) (f := f) (a := mbO C m i a) (n := n + 1) (is := i :: is) (bs := 0 :: bs) (bsh_o sh) nd h
  have z2 := rd_meth (by rw [hK]; exact ns) z
  obtain ⟨v, ev, q, dx, fs, e1, e2, e3, e4⟩ := z2
  refine ⟨v, ev, q, dx, fs, e1, e2, e3, rdBAw e4 fun vs H2 w => ?_⟩
  rw [hK, hM, hn] at w
  exact w
theorem mo_meth0 {bs' : List Nat} (G : ObM X.prog X.w X.K X.mg X.base C m k ps bs' f) (hbs : [0] = bs') (hn : 1 = ps.length) (hr : Room j X.A) (hj : k ≤ j) (tk : Takes X c.W) (hN : X.N[i]? = some x) (hv : Vis X.env.scope x) (hK : c.K = X.K := by rfl) (hM : c.mg = X.mg := by rfl) (hd : (x == ("__debug__" : Str)) = false := by decide) (hcd : (x == ("__classdict__" : Str)) = false := by decide)
    {pl : Sem Bool} (ht : eval (.Call (.Attribute (.Name x p) m apos) [] [] pos) X.env = (do
      let ov ← eval (.Name x p) X.env
      standAt apos.atName
      let (f, first) ← holding [ov] (getMethod ov m pl)
      callWith pos f first (backTo pos (starEach [] X.env)) (backToKw pos (keywordEach [] X.env))) := by rfl) :
    PE X (.Call (.Attribute (.Name x p) m apos) [] [] pos) (rdO c (mCallB f (mbO C m i mbNil))) := by
  subst hbs
  obtain ⟨CA, g, fd, ns, cl, me, F, hb⟩ := G.ex
  refine PEw (pe_methS0 (pl := pl) (E := WE c.W) (pe_var hN hv hd hcd) cl me F (hr.mono hj) hb (fun σ => passAt tk σ) ht) fun σ H Q h => ?_
  have z := rd_callB (c := c) (f := f) (a := mbO C m i mbNil) (n := 1) (is := [i]) (bs := [0]) (bsh_o (n := 0) bsh_nil) (by simp) h
  have z2 := rd_meth (by rw [hK]; exact ns) z
  obtain ⟨v, ev, q, dx, fs, e1, e2, e3, F', Hk, bp, ρ, S, e4⟩ := z2
  refine ⟨v, ev, q, dx, fs, e1, e2, e3, ?_⟩
  have w := e4 _ _ _ (Ex.refl _) S.1 rfl
  show spF X.K X.mg ps.length [0] f [v] H Q (WE c.W σ)
  rw [← hn, ← hK, ← hM]
  exact w
theorem mo_methB0 {bs' : List Nat} (G : ObM X.prog X.w X.K X.mg X.base C m k ps bs' f) (hbs : 0 :: bs = bs') (hn : n + 1 = ps.length) (hr : Room j X.A) (hj : k ≤ j) (hN : X.N[i]? = some x) (hv : Vis X.env.scope x) (ha : PA X (e :: es) (rdBA c a)) (sh : Bsh a 1 is bs n) (nd : (i :: is).Nodup := by decide) (hK : c.K = X.K := by rfl) (hM : c.mg = X.mg := by rfl) (hd : (x == ("__debug__" : Str)) = false := by decide) (hcd : (x == ("__classdict__" : Str)) = false := by decide)
    {pl : Sem Bool} (hst : starEach (e :: es) X.env = (false, eval e X.env) :: starEach es X.env := by rfl) (hpl : (backTo pos (starEach es X.env)).any (·.1) = false := by rfl)
    (ht : eval (.Call (.Attribute (.Name x p) m apos) (e :: es) [] pos) X.env = (do
      let ov ← eval (.Name x p) X.env
      standAt apos.atName
      let (f, first) ← holding [ov] (getMethod ov m pl)
      callWith pos f first (backTo pos (starEach (e :: es) X.env)) (backToKw pos (keywordEach [] X.env))) := by rfl) :
    PE X (.Call (.Attribute (.Name x p) m apos) (e :: es) [] pos) (rdO c (mCallB0 f (mbO C m i a))) := by
  subst hbs
  obtain ⟨CA, g, fd, ns, cl, me, F, hb⟩ := G.ex
  refine PEw (pe_meth (pl := pl) (pe_var hN hv hd hcd) cl me F (hr.mono hj) hb .nil passes0 ha hst hpl ht) fun σ H Q h => ?_
  have z := rd_cB0 (c := c) (f := f) (a := mbO C m i a) (n := n + 1) (is := i :: is) (bs := 0 :: bs) (bsh_o sh) nd h
  have z2 := rd_meth (by rw [hK]; exact ns) z
  obtain ⟨v, ev, q, dx, fs, e1, e2, e3, e4⟩ := z2
  refine ⟨v, ev, q, dx, fs, e1, e2, e3, rdBAw e4 fun vs H2 w => ?_⟩
  rw [hK, hM, hn] at w
  exact w
end
/-! ### an object is made -/
structure ObN (P : Program) (w : World) (K : PySem.W.Frag) (mg : Str → Option Value) (base : Heap) (C : Str) (k : Nat) (f : MF) : Prop where
  ex : ∃ CA g fd ps, PySem.W.nsIn K mainGlobals C = some (some (.ref CA)) ∧ mg C = some (.ref CA) ∧ Mk K CA g ∧ FnOk P w K mg base (L2.CX P w) k g fd ps (spF K mg 1 [0] f) ∧ Binds K fd ps []
def mMake (C : Str) (f : MF) : ME := fun ρ => match f [.obj C []] with
  | .ok (.non, [some y]) => if y.held then .ok (y, ρ) else .stuck
  | _ => .stuck
section
variable {X : Cx} {c : Ct} {k j : Nat} {C : Str} {p pos : Pos} {f : MF}
theorem RS.pushObj {K : PySem.W.Frag} {F Hk H : Hp} {bp : List (Nat × Addr)} {σ : St} {ρ : Env} (S : RS K F Hk H bp σ ρ) {q dx CA : Addr} (hq : H q = none) (hd : H dx = none) (ne : dx ≠ q) (ns : PySem.W.nsIn K mainGlobals C = some (some (.ref CA))) :
    RS K F Hk (upd (upd H dx (.own q)) q (.ins CA dx [])) bp (σ ++ [some (.ref q)]) (ρ ++ [some (.obj C [])]) := by
  have S1 := S.more (o := .own q) hd
  have hq1 : upd H dx (.own q) q = none := by rw [upd_ne (Ne.symm ne)]; exact hq
  have S2 := S1.more (o := .ins CA dx []) hq1
  obtain ⟨ow, s⟩ := S1.ow
  have s2 : SL K F Hk (upd (upd H dx (.own q)) q (.ins CA dx [])) ow σ ρ := s.step (Ex.refl _) fun i a ha => by
    obtain ⟨g1, g2, o, g3⟩ := s.f i a ha
    exact ⟨upd_ne (fun z => by rw [z, hq1] at g3; cases g3), g1⟩
  refine ⟨by simp [S.len], S2.ex, S2.fr, S2.frk, ⟨_, s2.push S.len (A := [q]) (OV.obj.mpr ⟨q, CA, dx, [], [], rfl, rfl, ns, upd_same, ⟨rfl, rfl⟩, by simp⟩) (fun a ha => ?_) (fun i a ha hi => ?_)⟩, S2.bor_app _⟩
  · have : a = q := by simpa using ha
    subst this
    refine ⟨S1.ex.back hq1, ?_⟩
    cases e : F a with
    | none => rfl
    | some o => have := S1.fr a o e; rw [hq1] at this; cases this
  · have : a = q := by simpa using ha
    subst this
    exact s.fresh hq1 i hi
theorem mo_make (G : ObN X.prog X.w X.K X.mg X.base C k f) (hr : Room j X.A) (hj : k + 1 ≤ j) (tk : Takes X c.W) (hg : Gl X C := by rfl) (hK : c.K = X.K := by rfl) (hM : c.mg = X.mg := by rfl) (hdb : (C == ("__debug__" : Str)) = false := by decide) :
    PE X (.Call (.Name C p) [] [] pos) (rdO c (mMake C f)) := by
  obtain ⟨CA, g, fd, ps, ns, hm, mk, F, hb⟩ := G.ex
  refine PEw (pe_make0 mk F (hr.mono hj) hg hm hb .nil passes0 hdb) fun σ H Q h => ?_
  obtain ⟨F', Hk, bp, ρ, S, h⟩ := h
  unfold mMake at h
  split at h
  · rename_i y ef
    split at h
    · rename_i hy
      intro q dx hq hd ne
      have S1 := S.1.pushObj (C := C) hq hd ne (by rw [hK]; exact ns)
      have hl : σ.length = ρ.length := S.1.len
      have A1 : At ⟨c.K, c.mg, fun _ _ _ _ => False, c.bs, c.J, c.Jm⟩ F' Hk (upd (upd H dx (.own q)) q (.ins CA dx [])) bp (σ ++ [some (.ref q)]) (ρ ++ [some (.obj C [])]) := ⟨S1, S.2⟩
      have z := callB_end (args := [.b ρ.length]) (vs := [.ref q]) (xs := [.obj C []]) (f := f) (n := 1) (bs := [0]) (E := fun _ _ _ => False) (Q := fun v H2 => v = .non ∧ Q (.ref q) H2) A1 ⟨.ref q, [], rfl, by rw [← hl]; simp, rfl⟩ rfl (by simp [idxB]) rfl (by simp [fill, MV.held]) (fun e ρ' k => k) (by
        rw [ef]
        intro Hk1 H1 w x1 S2
        have eb : back (ρ ++ [some (MV.obj C [])]) (idxB [.b ρ.length]) [some y] = ρ ++ [some y] := by simp [back, idxB]
        rw [eb] at S2
        obtain ⟨u, hu, ru⟩ := S2.get (i := (ρ ++ [some y]).length) (x := .non) (by simp) rfl
        have ew : w = .non := by
          have e1 : u = w := by
            rw [show (ρ ++ [some y]).length = (σ ++ [some (V.ref q)]).length by simp [hl]] at hu
            simpa using hu.symm
          rw [← e1]; exact RV.non.mp ru
        refine ⟨ew, ?_⟩
        have S3 := S2.drop (fun q' hq' => by
          have := lt_get (S.1.bor q' hq')
          rw [List.length_append]; omega)
        exact h _ _ _ x1 S3)
      rw [hK, hM] at z
      exact z
    · exact h.elim
  · exact h.elim
end
end Tm

set_option Elab.async false
set_option linter.all false
set_option maxRecDepth 100000
set_option maxHeartbeats 2000000
namespace Tm
open PySem L2
open Evl (Ex ex_rd ex_l ex_t)
/-! ### == of functions -/
theorem slot_fn_eq : Slot "function" (cmpInfo .Eq).2.1 "object.__eq__" :=
  .of (owner := "object") (n := "__eq__") (by rw [typeLookup_type, builtinLookup_eq_fast]; kernel_rfl) (by decide +kernel) (by decide +kernel) (by decide +kernel)
    (by first | exact .inl (by decide +kernel) | exact .inr (by decide +kernel)) (by rw [isSubtype_type]; kernel_rfl)
theorem slot_fn_eq2 : Slot "function" (cmpInfo .Eq).2.2 "object.__eq__" := slot_fn_eq
theorem rc_fns {A : Around} {s : Shared} {f g : Addr} (hne : f ≠ g) (hf : s.TypeIs (.ref f) "function") (hg : s.TypeIs (.ref g) "function") (hu : A.units < cLine) : SeqAt.RcAt A s (.ref f) (.ref g) false := fun prog w E Q h => by
  obtain ⟨of, ef, cf⟩ := id hf
  obtain ⟨og, eg, cg⟩ := id hg
  have nt : of.cls ≠ .type "tuple" := by rw [cf]; decide
  have nt2 : og.cls ≠ .type "tuple" := by rw [cg]; decide
  have e2 : cmpInfo CmpOp.Eq = (("==", "__eq__", "__eq__") : String × Str × Str) := rfl
  have dec : ∀ {x y : Addr} {ox oy : Obj} {Q' : Option Value → Shared → Prop}, x ≠ y → s.heap.get? x = some ox → s.heap.get? y = some oy → ox.cls ≠ .type "tuple" → s.TypeIs (.ref x) "function" → Q' none s → wpAny (model prog w) A (tryCompare (.ref x) "__eq__" (.ref y)) Q' E s := fun {x y ox oy Q'} n1 n2 n3 n4 n5 q =>
    wpAny_tryCompare_declines n5 slot_fn_eq (wpAny_call_entry slot_fn_eq n5 F.cmpEntry_eq (objEq_entry_other n1 n2 n3 n4 ⟨_, rfl, rfl, q⟩) (F.cmpArgs_eq _ _))
  simp only [richCompare, e2, hf.oneThing_none]
  refine wpAny_holding ?_
  refine wpAny_bind (wpAny_cRoomFor_or (.inr hu) ?_)
  refine wpAny_bind (wpAny_typeOf hf (wpAny_bind (wpAny_typeOf hg ?_)))
  rw [show (Value.type "function" != Value.type "function") = false by decide]
  simp only [Bool.false_eq_true, if_false, Bool.not_false, if_true]
  refine wpAny_bind (wpAny_pure ?_)
  simp only [Bool.false_eq_true, if_false, Bool.not_false, if_true]
  refine wpAny_bind (dec hne ef eg nt hf ?_)
  refine wpAny_bind (dec (Ne.symm hne) eg ef nt2 hg ?_)
  exact wpAny_bind (wpAny_rule (wpAny_bind (SeqAt.wpAny_isSame_ref_other' hne ef eg nt2 (wpAny_pure h))))
/-! ### functions as values -/
def FnA (K : PySem.W.Frag) (a : Addr) : Prop := ∃ o, K.lookup a = some o ∧ o.cls = .type "function"
theorem fna_of {K : PySem.W.Frag} {a : Addr} (h : PySem.W.typeIn K (.ref a) = some (.type "function")) : FnA K a := by
  have h : (K.lookup a).map (·.cls) = some (.type "function") := h
  obtain ⟨o, h1, h2⟩ := Option.map_eq_some_iff.mp h
  exact ⟨o, h1, h2⟩
theorem FnA.ty {X : Cx} {pins : List (Addr × Obj)} {σ : St} {H : Hp} {s : Shared} {a : Addr} (I : Inv X pins σ H s) (h : FnA X.K a) : s.TypeIs (.ref a) "function" := by
  obtain ⟨o, h1, h2⟩ := h
  exact ⟨o, I.kIn _ _ h1, h2⟩
structure FnI (K : PySem.W.Frag) (N : List Str) : Prop where
  fn : ∀ x ∈ N, ∀ a, PySem.W.nsIn K mainGlobals x = some (some (.ref a)) → FnA K a
  inj : ∀ x ∈ N, ∀ y ∈ N, ∀ a, PySem.W.nsIn K mainGlobals x = some (some (.ref a)) → PySem.W.nsIn K mainGlobals y = some (some (.ref a)) → x = y
structure FnT (P : Program) (w : World) (K : PySem.W.Frag) (mg : Str → Option Value) (base : Heap) (T : List (Str × MF)) : Prop where
  ex : ∀ x f, T.lookup x = some f → ∀ a, PySem.W.nsIn K mainGlobals x = some (some (.ref a)) → ∃ fd ps, FnOk P w K mg base (L2.CX P w) 2 a fd ps (spF K mg 1 [] f) ∧ PySem.W.keepIn K (.ref a) = true ∧ Binds K fd ps []
def fncsOf : List MV → Option (List Str)
  | [] => some []
  | .fnc z :: r => (match fncsOf r with | some l => some (z :: l) | none => none)
  | _ :: _ => none
theorem fncs_map : ∀ ws : List Str, fncsOf (ws.map MV.fnc) = some ws
  | [] => rfl
  | w :: ws => by
    show (match fncsOf (ws.map MV.fnc) with | some l => some (w :: l) | none => none) = _
    rw [fncs_map ws]
theorem fncs_rv {K : PySem.W.Frag} {H : Hp} : ∀ {xs : List MV} {ws : List Str} {vs : List V}, fncsOf xs = some ws → RVs K H xs vs → ∃ as : List Addr, vs = as.map V.ref ∧ as.length = ws.length ∧ ∀ (i : Nat) (w : Str), ws[i]? = some w → ∃ a : Addr, as[i]? = some a ∧ PySem.W.nsIn K mainGlobals w = some (some (.ref a))
  | [], ws, vs, h, r => by cases h; exact ⟨[], RVs.nil.mp r, rfl, fun i w h => by simp at h⟩
  | .fnc z :: xs, ws, vs, h, r => by
    obtain ⟨v, us, rfl, r1, r2⟩ := RVs.cons.mp r
    unfold fncsOf at h
    cases e : fncsOf xs with
    | none => rw [e] at h; cases h
    | some l =>
      rw [e] at h
      cases h
      obtain ⟨as, rfl, hl, hi⟩ := fncs_rv e r2
      obtain ⟨a, rfl, ha⟩ := RV.fnc.mp r1
      refine ⟨a :: as, rfl, by simp [hl], fun i w hw => ?_⟩
      match i with
      | 0 => simp at hw; subst hw; exact ⟨a, rfl, ha⟩
      | i + 1 => simpa using hi i w (by simpa using hw)
  | .non :: _, _, _, h, _ => by cases h
  | .bl _ :: _, _, _, h, _ => by cases h
  | .int _ :: _, _, _, h, _ => by cases h
  | .str _ :: _, _, _, h, _ => by cases h
  | .tup _ :: _, _, _, h, _ => by cases h
  | .lst _ :: _, _, _, h, _ => by cases h
  | .own _ :: _, _, _, h, _ => by cases h
  | .raw _ :: _, _, _, h, _ => by cases h
  | .scr _ :: _, _, _, h, _ => by cases h
  | .obj _ _ :: _, _, _, h, _ => by cases h
theorem vals_refs : ∀ {as : List Addr} {us : List Value}, Vals (as.map V.ref) us → us = as.map Value.ref
  | [], us, h => by cases h; rfl
  | a :: as, us, h => by
    cases h with
    | cons r t => cases r; rw [vals_refs t]; rfl
def isRef (a : Addr) (u : Value) : Bool := match u with | .ref b => decide (b = a) | _ => false
theorem eqAt_fns {X : Cx} {pins : List (Addr × Obj)} {σ : St} {H : Hp} {s : Shared} (I : Inv X pins σ H s) {A : Around} {a : Addr} {as : List Addr} (fa : FnA X.K a) (fs : ∀ b ∈ as, FnA X.K b) (hu : A.units < cLine) : ∀ w ∈ as.map Value.ref, SeqAt.EqAt A s w (.ref a) (isRef a w) := fun w hw => by
  obtain ⟨b, hb, rfl⟩ := List.mem_map.mp hw
  show SeqAt.EqAt A s (.ref b) (.ref a) (decide (b = a))
  by_cases e : b = a
  · subst e; simp; exact SeqAt.EqAt.same _
  · rw [decide_eq_false e]
    exact SeqAt.EqAt.of_refs e (rc_fns e ((fs b hb).ty I) (fa.ty I) hu)
def rInFn (K : PySem.W.Frag) : R2 := fun x y H Q => ∃ (a p : Addr) (as : List Addr), x = .ref a ∧ y = .ref p ∧ SqL K H p (as.map V.ref) ∧ FnA K a ∧ (∀ b ∈ as, FnA K b) ∧ Q (.bl (!as.any fun b => decide (b = a))) H
theorem op_notInFn {X : Cx} (hu : X.A.units + 64 < cLine) : OpR X (compareOp .NotIn) (rInFn X.K) := by
  intro pins s σ H x y v u Q I rx ry h
  obtain ⟨a, p, as, rfl, rfl, hq, fa, fs, q⟩ := h
  cases rx
  cases ry
  obtain ⟨its, r, pl, hz⟩ := I.list hq
  have e := vals_refs r
  subst e
  refine SeqAt.notIn_listAt (isRef a) pl.isList (fun w hw => eqAt_fns I fa fs (by show X.A.units + 1 < cLine; omega) w (by simpa using hw)) ⟨.bl _, H, I, rfl, ?_⟩
  have e2 : (as.map Value.ref).toArray.any (isRef a) = as.any fun b => decide (b = a) := by
    rw [show (as.map Value.ref).toArray.any (isRef a) = (as.map Value.ref).any (isRef a) by simp, List.any_map]; rfl
  rw [e2]
  exact q
def rIndexFn (K : PySem.W.Frag) : V → List V → Hp → VK → Prop := fun x xs H Q => ∃ (a p : Addr) (as : List Addr) (j : Nat), x = V.ref p ∧ xs = [.ref a] ∧ SqL K H p (as.map V.ref) ∧ FnA K a ∧ (∀ b ∈ as, FnA K b) ∧ as[j]? = some a ∧ (∀ m b, m < j → as[m]? = some b → b ≠ a) ∧ Q (.int (j : Nat)) H
theorem mt_indexFn {X : Cx} (hu : X.A.units + 64 < cLine) : MtR X "list.index" (rIndexFn X.K) := by
  intro pins s σ H x xs v us Q I rx rxs h
  obtain ⟨a, p, as, j, rfl, rfl, hs, fa, fs, hj, hno, q⟩ := h
  cases rx
  cases rxs with
  | cons ry rt =>
    rename_i uy ut
    cases rt
    cases ry
    obtain ⟨its, rv, ⟨⟨cls, dd, data, sl⟩, n, ho, hc, hdn, hd⟩, hlen⟩ := I.list hs
    simp only at hc hd
    subst hc hd
    have e := vals_refs rv
    subst e
    have hjl := lt_get hj
    have hsl := sizeLine_eq
    have hlen' : as.length ≤ sizeLine := by simpa using hlen
    refine call_meets PySem.F.slot_list_index ⟨_, ho, rfl⟩ PySem.F.entry_list_index (PySem.F.args_list_index_2 _ _)
      (SeqAt.list_indexAt p (as.map Value.ref).toArray n dd sl (.ref a) (isRef a) j (by simpa using hjl) (by omega) ?_ ?_) ⟨ho, fun u' hu' => eqAt_fns I fa fs (by show X.A.units + 1 < cLine; omega) u' (by simpa using hu'), ?_⟩
    · have : as[j] = a := (List.getElem?_eq_some_iff.mp hj).2
      simp [isRef, this]
    · intro m hm hmj
      have hml : m < as.length := by simpa using hm
      have := hno m as[m] hmj (List.getElem?_eq_getElem hml)
      simp [isRef, this]
    · exact ⟨.int (j : Nat), H, I.tok _, ⟨_, rfl⟩, q⟩
/-! ### pure arguments: nothing owned is changed on the way -/
abbrev XM := Env → Option MV
abbrev XMs := Env → Option (List MV)
def rdX (c : Ct) (m : XM) : TE := fun σ H Q => ∃ F Hk bp ρ ow, At c F Hk H bp σ ρ ∧ SL c.K F Hk H ow σ ρ ∧ ∃ x, m ρ = some x ∧
  ∀ Hk' H' v, Ex Hk Hk' → RS c.K F Hk' H' bp σ ρ → SL c.K F Hk' H' ow σ ρ → (∀ j a, a ∈ ow j → H' a = H a) → RV c.K Hk' x v → Q v H'
def rdXs (c : Ct) (m : XMs) : TA := fun σ H Q => ∃ F Hk bp ρ ow, At c F Hk H bp σ ρ ∧ SL c.K F Hk H ow σ ρ ∧ ∃ xs, m ρ = some xs ∧
  ∀ Hk' H' vs, Ex Hk Hk' → RS c.K F Hk' H' bp σ ρ → SL c.K F Hk' H' ow σ ρ → (∀ j a, a ∈ ow j → H' a = H a) → RVs c.K Hk' xs vs → Q vs H'
def xC (x : MV) : XM := fun _ => some x
def xV (i : Nat) : XM := fun ρ => match ρ[i]? with | some (some x) => if x.per then some x else none | _ => none
def xNil : XMs := fun _ => some []
def xCons (a : XM) (b : XMs) : XMs := fun ρ => match a ρ, b ρ with | some x, some xs => some (x :: xs) | _, _ => none
def xTup (a : XMs) : XM := fun ρ => match a ρ with | some xs => if szOk xs.length then some (.tup xs) else none | none => none
def xCall (f : MF) (a : XMs) : XM := fun ρ => match a ρ with | some xs => (match f xs with | .ok (v, _) => if v.per then some v else none | _ => none) | none => none
section
variable {X : Cx} {c : Ct} {x : Str} {i : Nat} {pos p : Pos} {e : Expr} {es : List Expr}
theorem rdX_c {y : MV} {v : V} (r : ∀ H, RV c.K H y v) {σ : St} {H : Hp} {Q : VK} (h : rdX c (xC y) σ H Q) : tC v σ H Q := by
  obtain ⟨F, Hk, bp, ρ, ow, S, s, z, e, h⟩ := h
  cases e
  exact h Hk H v (Ex.refl _) S.1 s (fun _ _ _ => rfl) (r _)
theorem px_int {i j pos} : PE X (.Constant (.int i) j pos) (rdX c (xC (.int i))) := PEw pe_int fun _ _ _ h => rdX_c (fun _ => RV.int.mpr rfl) h
theorem px_str {x j pos} : PE X (.Constant (.str x) j pos) (rdX c (xC (.str x))) := PEw pe_str fun _ _ _ h => rdX_c (fun _ => RV.str.mpr rfl) h
theorem px_var (hN : X.N[i]? = some x) (hv : Vis X.env.scope x) (hd : (x == ("__debug__" : Str)) = false := by decide) (hcd : (x == ("__classdict__" : Str)) = false := by decide) : PE X (.Name x pos) (rdX c (xV i)) :=
  PEw (pe_var hN hv hd hcd) fun σ H Q h => by
    obtain ⟨F, Hk, bp, ρ, ow, S, s, z, e, h⟩ := h
    unfold xV at e
    split at e
    · rename_i y hy
      split at e
      · rename_i py
        cases e
        obtain ⟨v, ev, r⟩ := S.1.get hy py
        exact ⟨v, ev, h Hk H v (Ex.refl _) S.1 s (fun _ _ _ => rfl) r⟩
      · cases e
    · cases e
theorem pxs_nil : PA X [] (rdXs c xNil) := PAw pa_nil fun σ H Q h => by
  obtain ⟨F, Hk, bp, ρ, ow, S, s, z, e, h⟩ := h
  cases e
  exact h Hk H _ (Ex.refl _) S.1 s (fun _ _ _ => rfl) (RVs.nil.mpr rfl)
theorem pxs_cons {a : XM} {b : XMs} (ha : PE X e (rdX c a)) (hb : PA X es (rdXs c b)) (hs : starEach (e :: es) X.env = (false, eval e X.env) :: starEach es X.env := by rfl) : PA X (e :: es) (rdXs c (xCons a b)) :=
  PAw (pa_cons ha hb hs) fun σ H Q h => by
    obtain ⟨F, Hk, bp, ρ, ow, S, s, z, e, h⟩ := h
    unfold xCons at e
    split at e
    · rename_i y ys e1 e2
      cases e
      refine ⟨F, Hk, bp, ρ, ow, S, s, y, e1, fun Hk1 H1 v x1 S1 s1 k1 r1 => ?_⟩
      refine ⟨F, Hk1, bp, ρ, ow, ⟨S1, S.2⟩, s1, ys, e2, fun Hk2 H2 vs x2 S2 s2 k2 r2 => ?_⟩
      exact h Hk2 H2 _ (x1.trans x2) S2 s2 (fun j a ha => (k2 j a ha).trans (k1 j a ha)) (RVs.cons.mpr ⟨v, vs, rfl, RV.mono x2 _ _ r1, r2⟩)
    · cases e
theorem px_tup {a : XMs} {k : Nat} (h : PA X es (rdXs c a)) : PE X (.Tuple es k pos) (rdX c (xTup a)) := PEw (pe_tup h) fun σ H Q h => by
  obtain ⟨F, Hk, bp, ρ, ow, S, s, z, e, h⟩ := h
  unfold xTup at e
  split at e
  · rename_i ys e1
    split at e
    · rename_i hz
      cases e
      refine ⟨F, Hk, bp, ρ, ow, S, s, ys, e1, fun Hk1 H1 vs x1 S1 s1 k1 r1 => ⟨by rw [r1.length]; exact szOk_iff.mp hz, fun q hq => ?_⟩⟩
      have xn := Ex.new (o := HO.tup vs) (S1.ex.back hq)
      have ne : ∀ j a, a ∈ ow j → a ≠ q := fun j a ha z => by
        obtain ⟨_, _, o, g⟩ := s1.f j a ha
        rw [z, hq] at g; cases g
      refine h _ _ _ (x1.trans xn) (S1.new hq) (s1.step xn fun j a ha => ⟨upd_ne (ne j a ha), by rw [upd_ne (ne j a ha)]; exact (s1.f j a ha).1⟩) (fun j a ha => by rw [upd_ne (ne j a ha)]; exact k1 j a ha) ?_
      exact RV.tup.mpr ⟨q, vs, rfl, SqT.of upd_same, r1.mono xn⟩
    · cases e
  · cases e
theorem px_call {f : MF} {a : XMs} {k j n : Nat} {fa : Addr} {fd : FuncData} {ps : List Str} (F : FnOk X.prog X.w X.K X.mg X.base (L2.CX X.prog X.w) k fa fd ps (spF X.K X.mg n [] f)) (hr : Room k X.A) (hm : X.mg x = some (.ref fa)) (hk : PySem.W.keepIn X.K (.ref fa) = true) (hb : Binds X.K fd ps [])
    (ha : PA X (e :: es) (rdXs c a)) (hn : ∀ ρ xs, a ρ = some xs → xs.length = n) (hg : Gl X x := by rfl) (hK : c.K = X.K := by rfl) (hM : c.mg = X.mg := by rfl) (hdb : (x == ("__debug__" : Str)) = false := by decide) (he : starEach (e :: es) X.env = (false, eval e X.env) :: starEach es X.env := by rfl)
    (hpl : (backTo pos (starEach es X.env)).any (·.1) = false := by rfl) : PE X (.Call (.Name x p) (e :: es) [] pos) (rdX c (xCall f a)) :=
  PEw (pe_call F hr hg hm hk hb .nil passes0 ha hdb he hpl) fun σ H Q h => by
    obtain ⟨F', Hk, bp, ρ, ow, S, s, z, e, h⟩ := h
    unfold xCall at e
    split at e
    · rename_i xs e1
      split at e
      · rename_i v os e2
        split at e
        · rename_i pv
          cases e
          refine ⟨F', Hk, bp, ρ, ow, S, s, xs, e1, fun Hk1 H1 vs x1 S1 s1 k1 r1 => ?_⟩
          show spF X.K X.mg n [] f (vs ++ []) H1 Q _
          rw [List.append_nil, ← hK, ← hM]
          refine ⟨by rw [r1.length]; exact hn _ _ e1, ?_⟩
          haveI : ∀ a, Decidable (∃ i, a ∈ ow i) := fun a => Classical.propDecidable _
          have fN : ∃ G : Hp, (∀ i a, a ∈ ow i → G a = H1 a) ∧ (∀ a o, F' a = some o → G a = some o) ∧ ∀ a o, G a = some o → H1 a = some o ∧ Hk1 a = none := by
            refine ⟨fun a => if (∃ i, a ∈ ow i) then H1 a else F' a, fun i a ha => if_pos ⟨i, ha⟩, fun a o ha => ?_, fun a o ha => ?_⟩
            · have : ¬ ∃ i, a ∈ ow i := fun ⟨i, hi⟩ => by have := (s1.f i a hi).2.1; rw [ha] at this; cases this
              show (if (∃ i, a ∈ ow i) then H1 a else F' a) = some o
              rw [if_neg this]; exact ha
            · have ha : (if (∃ i, a ∈ ow i) then H1 a else F' a) = some o := ha
              by_cases e : ∃ i, a ∈ ow i
              · rw [if_pos e] at ha
                obtain ⟨i, hi⟩ := e
                exact ⟨ha, (s1.f i a hi).1⟩
              · rw [if_neg e] at ha
                exact ⟨S1.fr a o ha, S1.frk a o ha⟩
          obtain ⟨G, f1, f2, f3⟩ := fN
          refine ⟨G, Hk1, [], xs, RS.args S1.ex (fun a o ha => (f3 a o ha).1) (fun a o ha => (f3 a o ha).2) r1, rfl, ?_⟩
          rw [e2]
          intro Hk2 H2 w x2 S2
          have own : ∀ i, ∀ a ∈ ow i, H2 a = H1 a ∧ Hk2 a = none := fun i a ha => by
            obtain ⟨g1, g2, o, g3⟩ := s1.f i a ha
            have q : G a = some o := (f1 i a ha).trans g3
            exact ⟨(S2.fr a o q).trans g3.symm, S2.frk a o q⟩
          have sl : SL c.K F' Hk2 H2 ow σ ρ := s1.step x2 own
          have R2 : RS c.K F' Hk2 H2 bp σ ρ := ⟨S1.len, S2.ex, fun a o ha => S2.fr a o (f2 a o ha), fun a o ha => S2.frk a o (f2 a o ha), ⟨ow, sl⟩, S1.bor⟩
          have bl : os.length = 0 := by have := S2.len; simpa using this.symm
          have be : os = [] := List.eq_nil_of_length_eq_zero bl
          subst be
          obtain ⟨u, eu, ru⟩ := S2.get (i := 0) (x := z) rfl pv
          cases eu
          exact h Hk2 H2 w (x1.trans x2) R2 sl (fun j a ha => ((own j a ha).1).trans (k1 j a ha)) ru
        · cases e
      · cases e
    · cases e
theorem pf_call {f : MF} {a : XMs} {k j : Nat} {ps : List Str} (G : Fd X.prog X.w X.K X.mg X.base x k ps [] f) (hr : Room j X.A) (hj : k ≤ j) (ha : PA X (e :: es) (rdXs c a)) (hn : ∀ ρ xs, a ρ = some xs → xs.length = ps.length) (hg : Gl X x := by rfl) (hK : c.K = X.K := by rfl) (hM : c.mg = X.mg := by rfl) (hdb : (x == ("__debug__" : Str)) = false := by decide)
    (he : starEach (e :: es) X.env = (false, eval e X.env) :: starEach es X.env := by rfl) (hpl : (backTo pos (starEach es X.env)).any (·.1) = false := by rfl) : PE X (.Call (.Name x p) (e :: es) [] pos) (rdX c (xCall f a)) := by
  obtain ⟨fa, fd, F, hm, hk, hb⟩ := G.ex
  exact px_call (j := 0) F (hr.mono hj) hm hk hb ha hn hg hK hM hdb he hpl
theorem xn_nil : ∀ ρ xs, xNil ρ = some xs → xs.length = 0 := fun ρ xs h => by cases h; rfl
theorem xn_cons {a : XM} {b : XMs} {n : Nat} (h : ∀ ρ xs, b ρ = some xs → xs.length = n) : ∀ ρ xs, xCons a b ρ = some xs → xs.length = n + 1 := fun ρ xs e => by
  unfold xCons at e
  split at e
  · rename_i y ys e1 e2; cases e; simp [h _ _ e2]
  · cases e
end
end Tm

set_option Elab.async false
set_option linter.all false
set_option maxRecDepth 100000
set_option maxHeartbeats 2000000
namespace Tm
open PySem L2
/-! ### reckoning with mirrors -/
theorem nr {α : Sort _} {a b : α} (h : a = b) : a = b := h
section
variable {α β : Type} {a b : ME} {ρ ρ1 : Env} {r : Option MV} {x y z : MV}
theorem bind_cg {x y : Res (α × Env)} {f : α → Env → Res (β × Env)} (h : x = y) : x.bind f = y.bind f := h ▸ rfl
@[simp] theorem bind_ok {x : α} {f : α → Env → Res (β × Env)} : (Res.ok (x, ρ)).bind f = f x ρ := nr rfl
@[simp] theorem bind_exc {e : MX} {f : α → Env → Res (β × Env)} : (Res.exc e ρ : Res (α × Env)).bind f = .exc e ρ := nr rfl
@[simp] theorem bind_stuck {f : α → Env → Res (β × Env)} : (Res.stuck : Res (α × Env)).bind f = .stuck := nr rfl
@[simp] theorem b0_ok {x : α} {f : α → Env → Res (β × Env)} : (Res.ok (x, ρ)).b0 f = f x ρ := nr rfl
@[simp] theorem mVar_ap {i : Nat} : mVar i (r :: ρ) = match (r :: ρ)[i]? with
  | some (some (.own xs)) => .ok (.lst xs, (r :: ρ).set i (some (.lst xs)))
  | some (some (.obj _ _)) => .stuck
  | some (some x) => .ok (x, (r :: ρ))
  | _ => .stuck := nr rfl
@[simp] theorem mC_ap  : mC x (r :: ρ) = .ok (x, (r :: ρ)) := nr rfl
@[simp] theorem mOp_ap {f : MV → MV → Option MV} : mOp f a b (r :: ρ) = (a (r :: ρ)).bind fun x ρ1 => (b ρ1).bind fun y ρ2 => match f x y with | some z => .ok (z, ρ2) | none => .stuck := nr rfl
@[simp] theorem mUn_ap {f : MV → Option MV} : mUn f a (r :: ρ) = (a (r :: ρ)).bind fun x ρ1 => match f x with | some z => .ok (z, ρ1) | none => .stuck := nr rfl
@[simp] theorem mTest_ap  : mTest a (r :: ρ) = (a (r :: ρ)).bind fun x ρ1 => match x with | .bl b => .ok (b, ρ1) | _ => .stuck := nr rfl
@[simp] theorem mChain_ap {f g : MV → MV → Option MV} {d : ME} : mChain f g a b d (r :: ρ) = (a (r :: ρ)).bind fun x ρ1 => (b ρ1).bind fun y ρ2 => match f x y with
  | some (.bl true) => (d ρ2).bind fun z ρ3 => match g y z with | some w => .ok (w, ρ3) | none => .stuck
  | some (.bl false) => .ok (.bl false, ρ2)
  | _ => .stuck := nr rfl
@[simp] theorem mAndT_ap {a b : MT} : mAndT a b (r :: ρ) = (a (r :: ρ)).bind fun x ρ1 => if x then b ρ1 else .ok (false, ρ1) := nr rfl
@[simp] theorem mOrT_ap {a b : MT} : mOrT a b (r :: ρ) = (a (r :: ρ)).bind fun x ρ1 => if x then .ok (true, ρ1) else b ρ1 := nr rfl
@[simp] theorem mNotT_ap {a : MT} : mNotT a (r :: ρ) = (a (r :: ρ)).bind fun x ρ1 => .ok (!x, ρ1) := nr rfl
@[simp] theorem mIf_ap {t : MT} : mIf t a b (r :: ρ) = (t (r :: ρ)).bind fun x ρ1 => if x then a ρ1 else b ρ1 := nr rfl
@[simp] theorem mBv_ap {t : MT} : mBv t (r :: ρ) = (t (r :: ρ)).bind fun x ρ1 => .ok (.bl x, ρ1) := nr rfl
@[simp] theorem mNil_ap  : mNil (r :: ρ) = .ok ([], (r :: ρ)) := nr rfl
@[simp] theorem mCons_ap {b : MA} : mCons a b (r :: ρ) = (a (r :: ρ)).bind fun x ρ1 => (b ρ1).bind fun xs ρ2 => .ok (x :: xs, ρ2) := nr rfl
@[simp] theorem mTup_ap {a : MA} : mTup a (r :: ρ) = (a (r :: ρ)).bind fun xs ρ1 => if szOk xs.length then .ok (.tup xs, ρ1) else .stuck := nr rfl
@[simp] theorem mLst_ap {a : MA} : mLst a (r :: ρ) = (a (r :: ρ)).bind fun xs ρ1 => if szOk xs.length then .ok (.lst xs, ρ1) else .stuck := nr rfl
@[simp] theorem mLstO_ap {a : MA} : mLstO a (r :: ρ) = (a (r :: ρ)).bind fun xs ρ1 => if szOk xs.length then .ok (.own xs, ρ1) else .stuck := nr rfl
@[simp] theorem mIxV_ap {i : Nat} : mIxV i b (r :: ρ) = if has (r :: ρ) i then (b (r :: ρ)).bind fun y ρ1 => match ixV ρ1 i y with | some z => .ok (z, ρ1) | none => .stuck else .stuck := nr rfl
@[simp] theorem mNo_ap  : mNo (r :: ρ) = .ok (none, (r :: ρ)) := nr rfl
@[simp] theorem mPart_ap  : mPart a (r :: ρ) = (a (r :: ρ)).bind fun x ρ1 => match x with | .int i => .ok (some i, ρ1) | _ => .stuck := nr rfl
@[simp] theorem mSl_ap {l h : Env → Res (Option Int × Env)} : mSl a l h (r :: ρ) = (a (r :: ρ)).bind fun x ρ1 => (l ρ1).bind fun i ρ2 => (h ρ2).bind fun j ρ3 => match fSl x i j with | some z => .ok (z, ρ3) | none => .stuck := nr rfl
@[simp] theorem gSet_ap {i : Nat} : gSet i x (r :: ρ) = if i < (r :: ρ).length then some ((r :: ρ).set i (some x)) else none := nr rfl
@[simp] theorem gsNil_ap  : gsNil [] (r :: ρ) = some (r :: ρ) := nr rfl
@[simp] theorem gsCons_ap {g : MG} {h : List MV → Env → Option Env} {xs : List MV} : gsCons g h (x :: xs) (r :: ρ) = match g x (r :: ρ) with | some ρ1 => h xs ρ1 | none => none := nr rfl
@[simp] theorem gTp_tup {n : Nat} {h : List MV → Env → Option Env} {xs : List MV} : gTp n h (.tup xs) ρ = if xs.length = n then h xs ρ else none := nr rfl
@[simp] theorem gTp_lst {n : Nat} {h : List MV → Env → Option Env} {xs : List MV} : gTp n h (.lst xs) ρ = if xs.length = n then h xs ρ else none := nr rfl
@[simp] theorem mAsg_ap {g : MG} : mAsg a g (r :: ρ) = (a (r :: ρ)).bind fun x ρ1 => match g x ρ1 with | some ρ2 => .ok (.nx, ρ2) | none => .stuck := nr rfl
@[simp] theorem mSetO_ap {i : Nat} : mSetO i a (r :: ρ) = (a (r :: ρ)).bind fun x ρ1 => if i < ρ1.length then .ok (.nx, ρ1.set i (some x)) else .stuck := nr rfl
@[simp] theorem mPass_ap  : mPass (r :: ρ) = .ok (.nx, (r :: ρ)) := nr rfl
@[simp] theorem mSeq_ap {a b : MS} : mSeq a b (r :: ρ) = (a (r :: ρ)).bind fun f ρ1 => match f with | .nx => b ρ1 | f => .ok (f, ρ1) := nr rfl
@[simp] theorem mIfS_ap {t : MT} {a b : MS} : mIfS t a b (r :: ρ) = (t (r :: ρ)).bind fun x ρ1 => if x then a ρ1 else b ρ1 := nr rfl
@[simp] theorem mRet_ap  : mRet a (r :: ρ) = (a (r :: ρ)).bind fun x ρ1 => .ok (.rt x, ρ1) := nr rfl
@[simp] theorem mRetN_ap  : mRetN (r :: ρ) = .ok (.rt .non, (r :: ρ)) := nr rfl
@[simp] theorem mDrop_ap  : mDrop a (r :: ρ) = (a (r :: ρ)).bind fun _ ρ1 => .ok (.nx, ρ1) := nr rfl
@[simp] theorem mBrk_ap  : mBrk (r :: ρ) = .ok (.br, (r :: ρ)) := nr rfl
@[simp] theorem mCnt_ap  : mCnt (r :: ρ) = .ok (.ct, (r :: ρ)) := nr rfl
@[simp] theorem mMove_ap {i : Nat} : mMove i (r :: ρ) = match (r :: ρ)[i]? with
  | some (some (.obj _ _)) => .stuck
  | some (some x) => .ok (x, (r :: ρ).set i none)
  | _ => .stuck := nr rfl
@[simp] theorem mFz_ap  : mFz a (r :: ρ) = (a (r :: ρ)).bind fun x ρ1 => match fz x with | some y => .ok (y, ρ1) | none => .stuck := nr rfl
@[simp] theorem mCall_ap {f : MF} {a : MA} : mCall f a (r :: ρ) = (a (r :: ρ)).bind fun xs ρ1 => match f xs with
  | .ok (v, _) => .ok (v, ρ1)
  | .exc e _ => .exc e ρ1
  | .stuck => .stuck := nr rfl
@[simp] theorem mCall0_ap {f : MF} {a : MA} : mCall0 f a (r :: ρ) = (a (r :: ρ)).bind fun xs ρ1 => match f xs with
  | .ok (v, _) => .ok (v, ρ1)
  | _ => .stuck := nr rfl
@[simp] theorem mBlt_ap {f : List MV → Option MV} {a : MA} : mBlt f a (r :: ρ) = (a (r :: ρ)).bind fun xs ρ1 => match f xs with | some z => .ok (z, ρ1) | none => .stuck := nr rfl
@[simp] theorem mListO_ap {a : MA} : mListO a (r :: ρ) = (a (r :: ρ)).bind fun xs ρ1 => match bList xs with | some (.lst ys) => .ok (.own ys, ρ1) | _ => .stuck := nr rfl
def r1M (xs : List MV) (ρ1 : Env) : Res (List MV × Env) := match xs with
  | [.int j] => if inR j then .ok (rngM 0 1 j.toNat, ρ1) else .stuck
  | _ => .stuck
@[simp] theorem mR1_ap {a : MA} : mR1 a (r :: ρ) = (a (r :: ρ)).bind r1M := nr rfl
@[simp] theorem r1M_i {j : Int} (h : inR j = true) : r1M [.int j] ρ = .ok (rngM 0 1 j.toNat, ρ) := if_pos h
def r2M (xs : List MV) (ρ1 : Env) : Res (List MV × Env) := match xs with
  | [.int i, .int j] => if inR i && inR j then .ok (rngM i 1 (j - i).toNat, ρ1) else .stuck
  | _ => .stuck
@[simp] theorem mR2_ap {a : MA} : mR2 a (r :: ρ) = (a (r :: ρ)).bind r2M := nr rfl
@[simp] theorem r2M_i {i j : Int} (h : inR i = true) (h2 : inR j = true) : r2M [.int i, .int j] ρ = .ok (rngM i 1 (j - i).toNat, ρ) := if_pos (by rw [h, h2]; rfl)
def r3M (xs : List MV) (ρ1 : Env) : Res (List MV × Env) := match xs with
  | [.int i, .int j, .int k] => if rgOk i j k then .ok (rngM i k (Builtin.Range.rangeSize i j k).toNat, ρ1) else .stuck
  | _ => .stuck
@[simp] theorem mR3_ap {a : MA} : mR3 a (r :: ρ) = (a (r :: ρ)).bind r3M := nr rfl
@[simp] theorem r3M_i {i j k : Int} (h : rgOk i j k = true) : r3M [.int i, .int j, .int k] ρ = .ok (rngM i k (Builtin.Range.rangeSize i j k).toNat, ρ) := if_pos h
def lmM (f : List MV → List MV → Option (List MV × MV)) (i : Nat) (ys : List MV) (ρ1 : Env) : Res (MV × Env) := match ρ1[i]? with
  | some (some (.own xs)) => (match f xs ys with | some (zs, z) => .ok (z, ρ1.set i (some (.own zs))) | none => .stuck)
  | _ => .stuck
@[simp] theorem mLm_ap {f : List MV → List MV → Option (List MV × MV)} {i : Nat} {a : MA} : mLm f i a (r :: ρ) = if isOwn (r :: ρ) i then (a (r :: ρ)).bind (lmM f i) else .stuck := nr rfl
@[simp] theorem lmM_o {f : List MV → List MV → Option (List MV × MV)} {i : Nat} {xs ys : List MV} (h : ρ[i]? = some (some (.own xs))) : lmM f i ys ρ = (match f xs ys with | some (zs, z) => .ok (z, ρ.set i (some (.own zs))) | none => .stuck) := by unfold lmM; rw [h]
@[simp] theorem isOwn_o {i : Nat} {xs : List MV} (h : ρ[i]? = some (some (.own xs))) : isOwn ρ i = true := by unfold isOwn; rw [h]
@[simp] theorem has_o {i : Nat} {x : MV} (h : ρ[i]? = some (some x)) : has ρ i = true := by unfold has; rw [h]
def setIxM (i : Nat) (z y : MV) (ρ2 : Env) : Res (Fl × Env) := match ρ2[i]?, y with
  | some (some (.own xs)), .int k => (match ixN xs.length k with | some j => .ok (.nx, ρ2.set i (some (.own (xs.set j z)))) | none => .stuck)
  | _, _ => .stuck
@[simp] theorem mSetIx_ap {i : Nat} : mSetIx i a b (r :: ρ) = (a (r :: ρ)).bind fun z ρ1 => if has ρ1 i then (b ρ1).bind (setIxM i z) else .stuck := nr rfl
theorem setIxM_o {i : Nat} {z : MV} {xs : List MV} {k : Int} {j : Nat} (h : ρ[i]? = some (some (.own xs))) (h2 : ixN xs.length k = some j) : setIxM i z (.int k) ρ = .ok (.nx, ρ.set i (some (.own (xs.set j z)))) := by unfold setIxM; rw [h]; simp only [h2]
def augM (f : MV → MV → Option MV) (i : Nat) (x y : MV) (ρ1 : Env) : Res (Fl × Env) := match f x y with
  | some z => if decide (i < ρ1.length) && flatM z then .ok (.nx, ρ1.set i (some z)) else .stuck
  | none => .stuck
theorem mAug_ap {f : MV → MV → Option MV} {i : Nat} {x : MV} (h : ρ[i]? = some (some x)) (h2 : flatM x = true) : mAug f i a ρ = (a ρ).bind (augM f i x) := by
  unfold mAug
  rw [h]
  simp only [h2, if_true]
  rfl
theorem augM_o {f : MV → MV → Option MV} {i : Nat} {z : MV} (h : f x y = some z) (h2 : i < ρ.length) (h3 : flatM z = true) : augM f i x y ρ = .ok (.nx, ρ.set i (some z)) := by
  unfold augM; rw [h]; simp only [h2, h3, decide_true, Bool.and_true, if_true]
@[simp] theorem mAug_i {f : MV → MV → Option MV} {i : Nat} {k : Int} (h : (r :: ρ)[i]? = some (some (.int k))) : mAug f i a (r :: ρ) = (a (r :: ρ)).bind (augM f i (.int k)) := mAug_ap h rfl
@[simp] theorem augM_i {f : MV → MV → Option MV} {i : Nat} {k j : Int} : augM f i (.int k) (.int j) (r :: ρ) = (match f (.int k) (.int j) with | some z => if decide (i < (r :: ρ).length) && flatM z then .ok (.nx, (r :: ρ).set i (some z)) else .stuck | none => .stuck) := nr rfl
@[simp] theorem flatM_i {k : Int} : flatM (.int k) = true := nr rfl
@[simp] theorem mItV_ap  : mItV a (r :: ρ) = (a (r :: ρ)).bind fun x ρ1 => match itemsOf x with | some xs => .ok (xs, ρ1) | none => .stuck := nr rfl
@[simp] theorem mZip_ap {a : MA} : mZip a (r :: ρ) = (a (r :: ρ)).bind fun xs ρ1 => match xs with
  | [.lst xs, .lst ys] => .ok (zipM xs ys, ρ1)
  | [.tup xs, .tup ys] => .ok (zipM xs ys, ρ1)
  | _ => .stuck := nr rfl
@[simp] theorem mEnum_ap {a : MA} : mEnum a (r :: ρ) = (a (r :: ρ)).bind fun xs ρ1 => match xs with
  | [.lst xs] => .ok (enumFrom 0 xs, ρ1)
  | _ => .stuck := nr rfl
@[simp] theorem mRev_ap {a : MA} : mRev a (r :: ρ) = (a (r :: ρ)).bind fun xs ρ1 => match xs with
  | [.lst xs] => .ok (xs.reverse, ρ1)
  | _ => .stuck := nr rfl
@[simp] theorem mRevL_ap  : mRevL a (r :: ρ) = (a (r :: ρ)).bind fun x ρ1 => match fRevL x with | some z => .ok (z, ρ1) | none => .stuck := nr rfl
@[simp] theorem mYes_ap  : mYes (r :: ρ) = .ok (true, (r :: ρ)) := nr rfl
@[simp] theorem mFor_ap {i : MI} {g : MG} {b : MS} : mFor i g b (r :: ρ) = (i (r :: ρ)).bind fun xs ρ1 => mLoop g b xs ρ1 := nr rfl
@[simp] theorem mLcO_ap {it : MI} {g : Tgt} {t : MT} {vs : List Nat} : mLcO it g t a vs (r :: ρ) = (it (r :: ρ)).bind fun xs ρ1 => if perAt ρ1 vs then (mLcLoop g t a vs xs [] ρ1).b0 fun ys ρ2 => .ok (.own ys, backM ρ1 ρ2 vs) else .stuck := nr rfl
end
@[simp] theorem fz_lst {xs : List MV} : fz (.lst xs) = some (.lst xs) := nr rfl
@[simp] theorem fz_own {xs : List MV} : fz (.own xs) = some (.lst xs) := nr rfl
@[simp] theorem fz_tup {xs : List MV} : fz (.tup xs) = some (.tup xs) := nr rfl
@[simp] theorem fz_int {i : Int} : fz (.int i) = some (.int i) := nr rfl
@[simp] theorem fz_bl {i : Bool} : fz (.bl i) = some (.bl i) := nr rfl
@[simp] theorem fz_str {i : Str} : fz (.str i) = some (.str i) := nr rfl
@[simp] theorem fz_non : fz .non = some .non := nr rfl
@[simp] theorem fz_scr {i : List Int} : fz (.scr i) = some (.scr i) := nr rfl
section
variable {i j : Int}
@[simp] theorem fAdd_ii : fAdd (.int i) (.int j) = some (.int (i + j)) := nr rfl
@[simp] theorem fAdd_ss {a b : Str} : fAdd (.str a) (.str b) = if szOk (a.length + b.length) then some (.str (a ++ b)) else none := nr rfl
@[simp] theorem fAdd_ll {a b : List MV} : fAdd (.lst a) (.lst b) = if szOk (a.length + b.length) then some (.lst (a ++ b)) else none := nr rfl
@[simp] theorem fAdd_tt {a b : List MV} : fAdd (.tup a) (.tup b) = if szOk (a.length + b.length) then some (.tup (a ++ b)) else none := nr rfl
@[simp] theorem fSub_ii : fSub (.int i) (.int j) = some (.int (i - j)) := nr rfl
@[simp] theorem fMul_ii : fMul (.int i) (.int j) = if mulOk i j then some (.int (i * j)) else none := nr rfl
@[simp] theorem fDiv_ii : fDiv (.int i) (.int j) = if divOk j then some (.int (i.fdiv j)) else none := nr rfl
@[simp] theorem fMod_ii : fMod (.int i) (.int j) = if decide (j ≠ 0) then some (.int (i.fmod j)) else none := nr rfl
@[simp] theorem fPow_ii : fPow (.int i) (.int j) = if decide (0 ≤ j) && decide (j ≤ 1000000) && decide (i.natAbs < 2 ^ 64) then some (.int (i ^ j.toNat)) else none := nr rfl
@[simp] theorem fLt_ii : fLt (.int i) (.int j) = some (.bl (decide (i < j))) := nr rfl
@[simp] theorem fLe_ii : fLe (.int i) (.int j) = some (.bl (decide (i ≤ j))) := nr rfl
@[simp] theorem fGt_ii : fGt (.int i) (.int j) = some (.bl (decide (j < i))) := nr rfl
@[simp] theorem fGe_ii : fGe (.int i) (.int j) = some (.bl (decide (j ≤ i))) := nr rfl
@[simp] theorem fNeg_i : fNeg (.int i) = some (.int (-i)) := nr rfl
@[simp] theorem fAddI_ii : fAddI (.int i) (.int j) = some (.int (i + j)) := nr rfl
@[simp] theorem fSubI_ii : fSubI (.int i) (.int j) = some (.int (i - j)) := nr rfl
@[simp] theorem fEq_ii : fEq (.int i) (.int j) = some (.bl (decide (i = j))) := nr rfl
@[simp] theorem fNe_ii : fNe (.int i) (.int j) = some (.bl (!decide (i = j))) := nr rfl
@[simp] theorem fEq_ss {a b : Str} : fEq (.str a) (.str b) = some (.bl (decide (a = b))) := nr rfl
@[simp] theorem fNe_ss {a b : Str} : fNe (.str a) (.str b) = some (.bl (!decide (a = b))) := nr rfl
@[simp] theorem bLen_l {a : List MV} : bLen [.lst a] = some (.int a.length) := nr rfl
@[simp] theorem bLen_t {a : List MV} : bLen [.tup a] = some (.int a.length) := nr rfl
@[simp] theorem bLen_c {a : List Int} : bLen [.scr a] = some (.int a.length) := nr rfl
@[simp] theorem bAbs_i : bAbs [.int i] = some (.int (if i < 0 then -i else i)) := nr rfl
@[simp] theorem bMax_i : bMax [.int i, .int j] = some (.int (if j > i then j else i)) := nr rfl
@[simp] theorem bMin_i : bMin [.int i, .int j] = some (.int (if j < i then j else i)) := nr rfl
@[simp] theorem bInt_i : bInt [.int i] = some (.int i) := nr rfl
@[simp] theorem bInt_b {k : Bool} : bInt [.bl k] = some (.int (if k then 1 else 0)) := nr rfl
@[simp] theorem fIx_l {a : List MV} : fIx (.lst a) (.int i) = atI a i := nr rfl
@[simp] theorem fIx_t {a : List MV} : fIx (.tup a) (.int i) = atI a i := nr rfl
@[simp] theorem fIx_c {a : List Int} : fIx (.scr a) (.int i) = (atI a i).map .int := nr rfl
@[simp] theorem ixL_i {a : List MV} : ixL a (.int i) = atI a i := nr rfl
@[simp] theorem itemsOf_l {a : List MV} : itemsOf (.lst a) = some a := nr rfl
@[simp] theorem itemsOf_t {a : List MV} : itemsOf (.tup a) = some a := nr rfl
@[simp] theorem itemsOf_c {a : List Int} : itemsOf (.scr a) = some (a.map .int) := nr rfl
@[simp] theorem bTuple_l {a : List MV} : bTuple [.lst a] = some (.tup a) := nr rfl
@[simp] theorem bTuple_t {a : List MV} : bTuple [.tup a] = some (.tup a) := nr rfl
@[simp] theorem fRevL_l {a : List MV} : fRevL (.lst a) = some (.lst a.reverse) := nr rfl
@[simp] theorem lmAppend_1 {a : List MV} {y : MV} : lmAppend a [y] = if decide (a.length < sizeLine) then some (a ++ [y], .non) else none := nr rfl
end
@[simp] theorem nat_neg {k : Nat} : ((k : Int) < 0) = False := by simp
@[simp] theorem nat_toNat {k : Nat} : ((k : Int)).toNat = k := nr rfl
theorem szOk_small {n : Nat} (h : n ≤ 16777216) : szOk n = true := szOk_iff.mpr (by rw [sizeLine_eq]; exact h)
theorem atI_ge {α : Type} {xs : List α} {i : Int} (h : 0 ≤ i) : atI xs i = xs[i.toNat]? := by
  unfold atI ixN
  rw [if_pos h]
  by_cases e : i < xs.length
  · rw [if_pos e]; rfl
  · rw [if_neg e, List.getElem?_eq_none (by omega)]; rfl
@[simp] theorem atI_0 {α : Type} {xs : List α} : atI xs 0 = xs[0]? := atI_ge (by decide)
@[simp] theorem atI_1 {α : Type} {xs : List α} : atI xs 1 = xs[1]? := atI_ge (by decide)
@[simp] theorem atI_2 {α : Type} {xs : List α} : atI xs 2 = xs[2]? := atI_ge (by decide)
@[simp] theorem atI_3 {α : Type} {xs : List α} : atI xs 3 = xs[3]? := atI_ge (by decide)
@[simp] theorem atI_4 {α : Type} {xs : List α} : atI xs 4 = xs[4]? := atI_ge (by decide)
@[simp] theorem atI_5 {α : Type} {xs : List α} : atI xs 5 = xs[5]? := atI_ge (by decide)
@[simp] theorem atI_6 {α : Type} {xs : List α} : atI xs 6 = xs[6]? := atI_ge (by decide)
@[simp] theorem atI_7 {α : Type} {xs : List α} : atI xs 7 = xs[7]? := atI_ge (by decide)
@[simp] theorem atI_8 {α : Type} {xs : List α} : atI xs 8 = xs[8]? := atI_ge (by decide)
@[simp] theorem atI_9 {α : Type} {xs : List α} : atI xs 9 = xs[9]? := atI_ge (by decide)
@[simp] theorem atI_10 {α : Type} {xs : List α} : atI xs 10 = xs[10]? := atI_ge (by decide)
@[simp] theorem atI_11 {α : Type} {xs : List α} : atI xs 11 = xs[11]? := atI_ge (by decide)
@[simp] theorem atI_12 {α : Type} {xs : List α} : atI xs 12 = xs[12]? := atI_ge (by decide)
@[simp] theorem atI_13 {α : Type} {xs : List α} : atI xs 13 = xs[13]? := atI_ge (by decide)
@[simp] theorem atI_14 {α : Type} {xs : List α} : atI xs 14 = xs[14]? := atI_ge (by decide)
@[simp] theorem atI_15 {α : Type} {xs : List α} : atI xs 15 = xs[15]? := atI_ge (by decide)
theorem atI_neg {α : Type} {xs : List α} {i : Int} (h : i < 0) (h2 : 0 ≤ i + xs.length) : atI xs i = xs[(i + xs.length).toNat]? := by
  unfold atI ixN
  rw [if_neg (by omega), if_pos (by omega)]
  rfl
theorem mulOk_l {i j : Int} (h1 : -(2 ^ 64) < i) (h2 : i < 2 ^ 64) : mulOk i j = true := by simp only [mulOk, Bool.or_eq_true, Bool.and_eq_true, decide_eq_true_eq]; exact .inl (.inl ⟨h1, h2⟩)
theorem mulOk_r {i j : Int} (h1 : -(2 ^ 64) < j) (h2 : j < 2 ^ 64) : mulOk i j = true := by simp only [mulOk, Bool.or_eq_true, Bool.and_eq_true, decide_eq_true_eq]; exact .inl (.inr ⟨h1, h2⟩)
theorem inR_of {i : Int} (h1 : -(2 ^ 62) ≤ i) (h2 : i < 2 ^ 62) : inR i = true := inR_iff.mpr ⟨h1, h2⟩
theorem loop_inv {g : MG} {b : MS} (I : Nat → Env → Prop) : ∀ (xs : List MV) (k : Nat) (ρ : Env), I k ρ → (∀ i x ρ, xs[i]? = some x → I (k + i) ρ → ∃ ρ1 ρ2, g x ρ = some ρ1 ∧ (b ρ1 = .ok (.nx, ρ2) ∨ b ρ1 = .ok (.ct, ρ2)) ∧ I (k + i + 1) ρ2) → ∃ ρ', mLoop g b xs ρ = .ok (.nx, ρ') ∧ I (k + xs.length) ρ'
  | [], k, ρ, h, _ => ⟨ρ, rfl, h⟩
  | x :: xs, k, ρ, h, hs => by
    obtain ⟨ρ1, ρ2, e1, e2, h2⟩ := hs 0 x ρ rfl h
    obtain ⟨ρ', e3, h3⟩ := loop_inv I xs (k + 1) ρ2 h2 (fun i y ρ hy hi => by
      have := hs (i + 1) y ρ (by simpa using hy) (by rw [show k + (i + 1) = k + 1 + i by omega]; exact hi)
      rw [show k + 1 + i + 1 = k + (i + 1) + 1 by omega]
      exact this)
    refine ⟨ρ', ?_, by rw [List.length_cons, show k + (xs.length + 1) = k + 1 + xs.length by omega]; exact h3⟩
    unfold mLoop
    rw [e1]
    rcases e2 with e2 | e2 <;> (simp only [e2, bind_ok]; exact e3)
theorem loop_rng {g : MG} {b : MS} {lo c : Int} {n : Nat} {ρ : Env} (I : Nat → Env → Prop) (h0 : I 0 ρ) (hs : ∀ i ρ, i < n → I i ρ → ∃ ρ1 ρ2, g (.int (lo + (i : Nat) * c)) ρ = some ρ1 ∧ (b ρ1 = .ok (.nx, ρ2) ∨ b ρ1 = .ok (.ct, ρ2)) ∧ I (i + 1) ρ2) :
    ∃ ρ', mLoop g b (rngM lo c n) ρ = .ok (.nx, ρ') ∧ I n ρ' := by
  obtain ⟨ρ', e, h⟩ := loop_inv I (rngM lo c n) 0 ρ h0 fun i x ρ hx hi => by
    have li := lt_get hx
    rw [rngM_len] at li
    rw [rngM_get li] at hx
    cases hx
    have := hs i ρ li (by simpa using hi)
    simpa using this
  rw [rngM_len, Nat.zero_add] at h
  exact ⟨ρ', e, h⟩
theorem loop_nx {g : MG} {b : MS} (I : Nat → Env → Prop) (xs : List MV) {ρ : Env} (h0 : I 0 ρ) (hs : ∀ i x ρ, xs[i]? = some x → I i ρ → ∃ ρ1, g x ρ = some ρ1 ∧ ∃ ρ2, b ρ1 = .ok (.nx, ρ2) ∧ I (i + 1) ρ2) : ∃ ρ', mLoop g b xs ρ = .ok (.nx, ρ') ∧ I xs.length ρ' := by
  have := loop_inv (g := g) (b := b) I xs 0 ρ h0 fun i x ρ hx hi => by
    obtain ⟨ρ1, e, ρ2, e2, h⟩ := hs i x ρ hx (by simpa using hi)
    exact ⟨ρ1, ρ2, e, .inl e2, by simpa using h⟩
  simpa using this
theorem loop_nxr {g : MG} {b : MS} {lo c : Int} {n : Nat} {ρ : Env} (I : Nat → Env → Prop) (h0 : I 0 ρ) (hs : ∀ i ρ, i < n → I i ρ → ∃ ρ1, g (.int (lo + (i : Nat) * c)) ρ = some ρ1 ∧ ∃ ρ2, b ρ1 = .ok (.nx, ρ2) ∧ I (i + 1) ρ2) :
    ∃ ρ', mLoop g b (rngM lo c n) ρ = .ok (.nx, ρ') ∧ I n ρ' := by
  refine loop_rng I h0 fun i ρ hi h => ?_
  obtain ⟨ρ1, e, ρ2, e2, h⟩ := hs i ρ hi h
  exact ⟨ρ1, ρ2, e, .inl e2, h⟩
def okD : Nat → MV → Bool
  | _, .non => true
  | _, .bl _ => true
  | _, .int _ => true
  | _, .str x => (PyData.str x).canLay0
  | n + 1, .tup xs => xs.all (okD n)
  | n + 1, .lst xs => xs.all (okD n)
  | _, _ => false
theorem okDs_to {n : Nat} (ih : ∀ x, okD n x = true → ∃ d, toD x = some d ∧ d.canLay0 = true ∧ d.depth ≤ n) : ∀ xs : List MV, xs.all (okD n) = true → ∃ ds, toDs xs = some ds ∧ PyData.canLayAll0 ds = true ∧ PyData.depthAll ds ≤ n
  | [], _ => ⟨[], rfl, by simp [PyData.canLayAll0], by simp [PyData.depthAll]⟩
  | x :: xs, h => by
    simp only [List.all_cons, Bool.and_eq_true] at h
    obtain ⟨d, e, c, p⟩ := ih x h.1
    obtain ⟨ds, es, cs, ps⟩ := okDs_to ih xs h.2
    refine ⟨d :: ds, by simp [toDs, e, es], by simp [PyData.canLayAll0, c, cs], by simp only [PyData.depthAll]; omega⟩
theorem okD_to : ∀ (n : Nat) (x : MV), okD n x = true → ∃ d, toD x = some d ∧ d.canLay0 = true ∧ d.depth ≤ n
  | n, .non, _ => ⟨_, rfl, rfl, by simp [PyData.depth]⟩
  | n, .bl _, _ => ⟨_, rfl, rfl, by simp [PyData.depth]⟩
  | n, .int _, _ => ⟨_, rfl, rfl, by simp [PyData.depth]⟩
  | n, .str x, h => ⟨.str x, rfl, by cases n <;> exact h, by simp [PyData.depth]⟩
  | 0, .tup _, h => by simp [okD] at h
  | 0, .lst _, h => by simp [okD] at h
  | n + 1, .tup xs, h => by
    obtain ⟨ds, e, c, p⟩ := okDs_to (okD_to n) xs h
    exact ⟨.tuple ds, by simp [toD, e], by simpa [PyData.canLay0] using c, by simp only [PyData.depth]; omega⟩
  | n + 1, .lst xs, h => by
    obtain ⟨ds, e, c, p⟩ := okDs_to (okD_to n) xs h
    exact ⟨.list ds, by simp [toD, e], by simpa [PyData.canLay0] using c, by simp only [PyData.depth]; omega⟩
  | n, .own _, h => by cases n <;> simp [okD] at h
  | n, .raw _, h => by cases n <;> simp [okD] at h
  | n, .scr _, h => by cases n <;> simp [okD] at h
  | n, .fnc _, h => by cases n <;> simp [okD] at h
  | n, .obj _ _, h => by cases n <;> simp [okD] at h
theorem eqM_self {n : Nat} {x : MV} (hn : n ≤ 64) (h : okD n x = true) : eqM x x = some true := by
  unfold eqM
  by_cases hs : scalM x x = true
  · rw [if_pos hs]
    cases x <;> simp_all [scalM, sameM]
  · rw [if_neg hs]
    obtain ⟨d, e, c, p⟩ := okD_to n x h
    have hd : SeqAt.shaped d = true := by
      unfold SeqAt.shaped
      rw [c]
      simp
      omega
    rw [e]
    simp only [hd, Bool.and_self, if_true]
    rw [SeqAt.eqv_refl d c]
@[simp] theorem fEq_tt {xs : List MV} (h : xs.all (okD 20) = true) : fEq (.tup xs) (.tup xs) = some (.bl true) := by unfold fEq; rw [eqM_self (n := 21) (by decide) (x := .tup xs) h]; rfl
@[simp] theorem fNe_tt {xs : List MV} (h : xs.all (okD 20) = true) : fNe (.tup xs) (.tup xs) = some (.bl false) := by unfold fNe; rw [eqM_self (n := 21) (by decide) (x := .tup xs) h]; rfl
@[simp] theorem fEq_lle {xs : List MV} (h : xs.all (okD 20) = true) : fEq (.lst xs) (.lst xs) = some (.bl true) := by unfold fEq; rw [eqM_self (n := 21) (by decide) (x := .lst xs) h]; rfl
@[simp] theorem fNe_lle {xs : List MV} (h : xs.all (okD 20) = true) : fNe (.lst xs) (.lst xs) = some (.bl false) := by unfold fNe; rw [eqM_self (n := 21) (by decide) (x := .lst xs) h]; rfl
@[simp] theorem okD_i {n : Nat} {i : Int} : okD n (.int i) = true := by cases n <;> rfl
@[simp] theorem okD_b {n : Nat} {i : Bool} : okD n (.bl i) = true := by cases n <;> rfl
@[simp] theorem okD_n {n : Nat} : okD n .non = true := by cases n <;> rfl
@[simp] theorem fSl_t {xs : List MV} {lo hi : Option Int} : fSl (.tup xs) lo hi = some (.tup (cutM xs lo hi)) := nr rfl
@[simp] theorem fSl_l {xs : List MV} {lo hi : Option Int} : fSl (.lst xs) lo hi = some (.lst (cutM xs lo hi)) := nr rfl
@[simp] theorem cutM_none {xs : List MV} : cutM xs none none = xs := by simp [cutM, HT.sIx]
theorem cutM_to {xs : List MV} {k : Int} (h : 0 ≤ k) : cutM xs none (some k) = xs.take k.toNat := by
  simp [cutM, HT.sIx, show ¬ k < 0 by omega, List.take_eq_take_min]
theorem cutM_from {xs : List MV} {k : Int} (h : 0 ≤ k) : cutM xs (some k) none = xs.drop k.toNat := by
  simp [cutM, HT.sIx, show ¬ k < 0 by omega]
  by_cases e : k.toNat ≤ xs.length
  · rw [Nat.min_eq_left e, List.take_of_length_le (by simp)]
  · rw [Nat.min_eq_right (by omega), List.drop_of_length_le (by omega), List.drop_of_length_le (by omega)]; simp
end Tm

set_option Elab.async false
set_option linter.all false
set_option maxRecDepth 100000
set_option maxHeartbeats 2000000
namespace Tm
open PySem L2
/-! ### loops as folds, comprehensions as maps -/
@[simp] theorem mOffS_ap {ρ : Env} : mOffS ρ = .stuck := nr rfl
@[simp] theorem mRevA_ap {a : ME} {r : Option MV} {ρ : Env} : mRevA a (r :: ρ) = (a (r :: ρ)).bind fun x ρ1 => match fRevA x with | some z => .ok (z, ρ1) | none => .stuck := nr rfl
@[simp] theorem fRevA_l {a : List MV} : fRevA (.lst a) = some (.lst a.reverse) := nr rfl
@[simp] theorem fRevA_t {a : List MV} : fRevA (.tup a) = some (.tup a.reverse) := nr rfl
theorem mFn_ok {n : Nat} {m : MS} {xs : List MV} {v : MV} (h : ∃ ρ, m (xs.map some ++ List.replicate (n - xs.length) none) = .ok (.rt v, ρ)) : mFn n [] m xs = .ok (v, []) := by
  obtain ⟨ρ, h⟩ := h
  unfold mFn; rw [h]; rfl
theorem fmod_lt' {a b : Int} (h : 0 < b) : a.fmod b < b := Int.fmod_lt_of_pos a h
theorem fmod_ge' {a b : Int} (h : 0 < b) : 0 ≤ a.fmod b := Int.fmod_nonneg_of_pos a h
theorem nat_fmod (a b : Nat) : (a : Int).fmod (b : Int) = ((a % b : Nat) : Int) := by rw [Int.fmod_eq_emod_of_nonneg _ (Int.natCast_nonneg b)]; exact (Int.natCast_emod a b).symm
theorem nat_fdiv (a b : Nat) : (a : Int).fdiv (b : Int) = ((a / b : Nat) : Int) := by rw [Int.fdiv_eq_ediv_of_nonneg _ (Int.natCast_nonneg b)]; exact (Int.natCast_ediv a b).symm
theorem loop_foldl {S α : Type} {g : MG} {b : MS} (env : S → Env) (item : α → MV) (f : S → α → S) (I : Nat → S → Prop) : ∀ (xs : List α) (k : Nat) (s : S), I k s → (∀ i s x, x ∈ xs → I i s → i < k + xs.length → (∃ ρ1, g (item x) (env s) = some ρ1 ∧ b ρ1 = .ok (.nx, env (f s x))) ∧ I (i + 1) (f s x)) →
    mLoop g b (xs.map item) (env s) = .ok (.nx, env (xs.foldl f s)) ∧ I (k + xs.length) (xs.foldl f s)
  | [], k, s, h, _ => ⟨rfl, h⟩
  | x :: xs, k, s, h, hs => by
    obtain ⟨⟨ρ1, e1, e2⟩, h2⟩ := hs k s x (List.mem_cons_self ..) h (by simp)
    have := loop_foldl (g := g) (b := b) env item f I xs (k + 1) (f s x) h2 (fun i s y hy hi hl => hs i s y (List.mem_cons_of_mem _ hy) hi (by simp; omega))
    rw [List.map_cons, List.foldl_cons, List.length_cons, show k + (xs.length + 1) = k + 1 + xs.length by omega]
    refine ⟨?_, this.2⟩
    unfold mLoop
    rw [e1]
    simp only [e2, bind_ok]
    exact this.1
theorem loop_fold {S α : Type} {g : MG} {b : MS} (env : S → Env) (item : α → MV) (f : S → α → S) (xs : List α) (s : S) (hs : ∀ s x, x ∈ xs → ∃ ρ1, g (item x) (env s) = some ρ1 ∧ b ρ1 = .ok (.nx, env (f s x))) :
    mLoop g b (xs.map item) (env s) = .ok (.nx, env (xs.foldl f s)) := (loop_foldl env item f (fun _ _ => True) xs 0 s trivial fun i s x hx _ _ => ⟨hs s x hx, trivial⟩).1
theorem back_wipe : ∀ (vs : List Nat) (ρ ρ' : Env), ρ.length = ρ'.length → (∀ j, j ∉ vs → ρ'[j]? = ρ[j]?) → backM ρ ρ' vs = ρ := by
  have key : ∀ (vs : List Nat) (ρ ρ' : Env) (j : Nat), ρ.length = ρ'.length → (backM ρ ρ' vs)[j]? = if j ∈ vs then ρ[j]? else ρ'[j]? := by
    intro vs
    induction vs with
    | nil => intro ρ ρ' j hl; simp [backM]
    | cons v vs ih =>
      intro ρ ρ' j hl
      show (backM ρ (ρ'.set v ((ρ[v]?).join)) vs)[j]? = _
      rw [ih ρ _ j (by simp [hl])]
      by_cases e : j ∈ vs
      · simp [e]
      · by_cases e2 : j = v
        · subst e2
          by_cases hlt : j < ρ'.length
          · simp [e, List.getElem?_set_self hlt, show j < ρ.length by omega]
          · simp [e, List.getElem?_eq_none (show ρ'.length ≤ j by omega), List.getElem?_eq_none (show ρ.length ≤ j by omega)]
            omega
        · simp [e, e2, List.getElem?_set_ne (Ne.symm e2)]
  intro vs ρ ρ' hl h
  apply List.ext_getElem?
  intro j
  rw [key vs ρ ρ' j hl]
  by_cases e : j ∈ vs
  · simp [e]
  · simp [e, h j e]
theorem wipe_other {ρ ρ' : Env} {vs : List Nat} (hl : ρ.length = ρ'.length) (h : wipeM ρ' vs = wipeM ρ vs) : ∀ j, j ∉ vs → ρ'[j]? = ρ[j]? := by
  intro j hj
  have h1 := wipeM_get ρ vs j
  have h2 := wipeM_get ρ' vs j
  rw [if_neg (by simp [hj])] at h1 h2
  rw [← h1, ← h2, h]
theorem lc_map {g : Tgt} {e : ME} {vs : List Nat} {W : Env} (y : MV → MV) : ∀ (xs acc : List MV) (ρ : Env), (∀ x ∈ xs, ∃ ρ1, setT g x W = some ρ1 ∧ e ρ1 = .ok (y x, ρ1) ∧ wipeM ρ1 vs = W ∧ ρ1.length = W.length) → wipeM ρ vs = W → ρ.length = W.length → acc.length + xs.length ≤ sizeLine →
    ∃ ρ', mLcLoop g mYes e vs xs acc ρ = .ok (acc ++ xs.map y, ρ') ∧ wipeM ρ' vs = W ∧ ρ'.length = W.length
  | [], acc, ρ, _, hw, hl, _ => ⟨ρ, by simp [mLcLoop], hw, hl⟩
  | x :: xs, acc, ρ, h, hw, hl, hz => by
    obtain ⟨ρ1, e1, e2, e3, e4⟩ := h x (List.mem_cons_self ..)
    rw [List.length_cons] at hz
    obtain ⟨ρ', r1, r2, r3⟩ := lc_map (g := g) (e := e) (vs := vs) y xs (acc ++ [y x]) ρ1 (fun z hz => h z (List.mem_cons_of_mem _ hz)) e3 e4 (by rw [List.length_append, List.length_singleton]; omega)
    refine ⟨ρ', ?_, r2, r3⟩
    unfold mLcLoop
    rw [hw, e1]
    simp only [mYes, b0_ok, if_true, e2]
    rw [if_pos ⟨by omega, by rw [e4, hl]⟩, r1]
    simp
theorem mLcO_map {it : MI} {g : Tgt} {e : ME} {vs : List Nat} {ρ ρ1 : Env} {xs : List MV} (y : MV → MV) (hi : it ρ = .ok (xs, ρ1)) (hp : perAt ρ1 vs = true) (hx : ∀ x ∈ xs, ∃ ρ2, setT g x (wipeM ρ1 vs) = some ρ2 ∧ e ρ2 = .ok (y x, ρ2) ∧ wipeM ρ2 vs = wipeM ρ1 vs ∧ ρ2.length = ρ1.length) (hz : xs.length ≤ sizeLine) :
    mLcO it g mYes e vs ρ = .ok (.own (xs.map y), ρ1) := by
  obtain ⟨ρ', r1, r2, r3⟩ := lc_map (g := g) (e := e) (vs := vs) (W := wipeM ρ1 vs) y xs [] ρ1 (fun x h => by
    obtain ⟨ρ2, a, b, c, d⟩ := hx x h
    exact ⟨ρ2, a, b, c, by rw [d, wipeM_len]⟩) rfl (wipeM_len ..).symm (by simpa using hz)
  unfold mLcO
  rw [hi, bind_ok, if_pos hp, r1]
  simp only [b0_ok, List.nil_append]
  rw [back_wipe vs ρ1 ρ' (by rw [r3, wipeM_len]) (wipe_other (by rw [r3, wipeM_len]) r2)]
/-! ### figures -/
def digs : Nat → Nat → List Nat
  | 0, _ => []
  | k + 1, n => n % 10 :: digs k (n / 10)
def digsB (k n : Nat) : List Nat := (digs k n).reverse
theorem digs_len : ∀ k n, (digs k n).length = k
  | 0, _ => rfl
  | k + 1, n => by simp [digs, digs_len k]
theorem digsB_len (k n : Nat) : (digsB k n).length = k := by simp [digsB, digs_len]
theorem digs_lt : ∀ k n, ∀ d ∈ digs k n, d < 10
  | 0, _, d, h => by simp [digs] at h
  | k + 1, n, d, h => by
    simp only [digs, List.mem_cons] at h
    rcases h with rfl | h
    · exact Nat.mod_lt _ (by decide)
    · exact digs_lt k _ d h
theorem digsB_lt {k n d : Nat} (h : d ∈ digsB k n) : d < 10 := digs_lt k n d (by simpa [digsB] using h)
theorem digsB_step (k n : Nat) : digsB (k + 1) n = digsB k (n / 10) ++ [n % 10] := by simp [digsB, digs]
theorem numL_digs (n : Nat) : TL.numL n = (digsB (TL.numL n).length n).map (48 + ·) := by
  induction n using Nat.strongRecOn with
  | _ n ih =>
    by_cases h : n < 10
    · rw [TL.numL_lt h]
      simp [digsB, digs, Nat.mod_eq_of_lt h]
    · have e := ih (n / 10) (by omega)
      rw [TL.numL_step (by omega), List.length_append, List.length_singleton, digsB_step, List.map_append, ← e]
      rfl
theorem digs_get : ∀ (k n i : Nat), i < k → (digs k n)[i]? = some (n / 10 ^ i % 10)
  | 0, _, _, h => by omega
  | k + 1, n, 0, _ => by simp [digs]
  | k + 1, n, i + 1, h => by
    simp only [digs, List.getElem?_cons_succ]
    rw [digs_get k (n / 10) i (by omega), Nat.div_div_eq_div_mul, Nat.pow_succ, Nat.mul_comm]
theorem digs_append : ∀ (k n : Nat), digs (k + 1) n = digs k n ++ [n / 10 ^ k % 10]
  | 0, n => by simp [digs]
  | k + 1, n => by
    rw [digs, digs_append k (n / 10)]
    show _ = (n % 10 :: digs k (n / 10)) ++ _
    rw [List.cons_append, Nat.div_div_eq_div_mul, Nat.pow_succ, Nat.mul_comm (10 ^ k) 10]
theorem foldl_fst {σ β α : Type} (f : σ → α → σ) (h : σ → α → β) : ∀ (xs : List α) (s : σ) (b : β), ∃ b', xs.foldl (fun (p : σ × β) x => (f p.1 x, h p.1 x)) (s, b) = (xs.foldl f s, b')
  | [], s, b => ⟨b, rfl⟩
  | x :: xs, s, b => by
    simp only [List.foldl_cons]
    exact foldl_fst f h xs (f s x) (h s x)
theorem loop_jx {σ β α : Type} {g : MG} {b : MS} (env : σ → β → Env) (item : α → MV) (f : σ → α → σ) (I : Nat → σ → Prop) : ∀ (xs : List α) (k : Nat) (s : σ) (z : β), I k s → (∀ i s z x, x ∈ xs → I i s → i < k + xs.length → (∃ ρ1, g (item x) (env s z) = some ρ1 ∧ ∃ z', b ρ1 = .ok (.nx, env (f s x) z')) ∧ I (i + 1) (f s x)) →
    (∃ z', mLoop g b (xs.map item) (env s z) = .ok (.nx, env (xs.foldl f s) z')) ∧ I (k + xs.length) (xs.foldl f s)
  | [], k, s, z, h, _ => ⟨⟨z, rfl⟩, h⟩
  | x :: xs, k, s, z, h, hs => by
    obtain ⟨⟨ρ1, e1, z', e2⟩, h2⟩ := hs k s z x (List.mem_cons_self ..) h (by simp)
    have := loop_jx (g := g) (b := b) env item f I xs (k + 1) (f s x) z' h2 (fun i s z y hy hi hl => hs i s z y (List.mem_cons_of_mem _ hy) hi (by simp; omega))
    rw [List.map_cons, List.foldl_cons, List.length_cons, show k + (xs.length + 1) = k + 1 + xs.length by omega]
    obtain ⟨⟨z2, e3⟩, h3⟩ := this
    refine ⟨⟨z2, ?_⟩, h3⟩
    unfold mLoop
    rw [e1]
    simp only [e2, bind_ok]
    exact e3
theorem loop_junk {σ β α : Type} {g : MG} {b : MS} (env : σ → β → Env) (item : α → MV) (f : σ → α → σ) (I : Nat → σ → Prop) (xs : List α) (s : σ) (z : β) (h0 : I 0 s)
    (hs : ∀ i s z x, x ∈ xs → I i s → i < xs.length → I (i + 1) (f s x) ∧ ∃ ρ1, g (item x) (env s z) = some ρ1 ∧ ∃ z', b ρ1 = .ok (.nx, env (f s x) z')) :
    (∃ z', mLoop g b (xs.map item) (env s z) = .ok (.nx, env (xs.foldl f s) z')) ∧ I xs.length (xs.foldl f s) := by
  have := loop_jx (g := g) (b := b) env item f I xs 0 s z h0 (fun i s z x hx hi hl => ⟨(hs i s z x hx hi (by simpa using hl)).2, (hs i s z x hx hi (by simpa using hl)).1⟩)
  rw [Nat.zero_add] at this
  exact this
theorem str_num (n : Nat) : (Str.ofString (toString ((n : Nat) : Int))) = ⟨((digsB (TL.numL n).length n).map (48 + ·)).toArray⟩ := by
  have e := TL.tl_num n
  rw [numL_digs n] at e
  rw [← e]
theorem signsM_num (n : Nat) : signsM (Str.ofString (toString ((n : Nat) : Int))) = (digsB (TL.numL n).length n).map fun d => MV.str ⟨#[48 + d]⟩ := by
  unfold signsM
  have e := TL.tl_num n
  show (TL.tl _).map _ = _
  rw [e, numL_digs n, List.map_map]
  simp [digsB_len]
theorem int_sign {d : Nat} (h : d < 10) : PySem.intText? ⟨#[48 + d]⟩ = some (d : Int) := by
  have e := TL.int_num (n := d) (by rw [TL.numL_lt h]; simp)
  have : (Str.ofString (toString ((d : Nat) : Int))) = ⟨#[48 + d]⟩ := by
    rw [str_num d, TL.numL_lt h]
    simp [digsB, digs, Nat.mod_eq_of_lt h]
  rw [this] at e
  exact e
theorem log2_small {n : Nat} (h : n < 10 ^ 200) : n.log2 < 1920 := by
  by_cases h0 : n = 0
  · subst h0; decide
  · rw [Nat.log2_lt h0]
    exact Nat.lt_trans h (by decide)
end Tm

set_option Elab.async false
set_option linter.all false
set_option maxRecDepth 100000
set_option maxHeartbeats 2000000
namespace Tm
open PySem L2
/-! ### reckoning with exceptions -/
section
variable {α β : Type} {ρ : Env} {r : Option MV} {x f g y : Str} {a b : ME}
@[simp] theorem mRaise0_ap : mRaise0 x (r :: ρ) = .exc ⟨x, []⟩ (r :: ρ) := nr rfl
@[simp] theorem mRaise1_ap : mRaise1 x f a (r :: ρ) = (a (r :: ρ)).bind fun y ρ1 => .exc ⟨x, [(f, y)]⟩ ρ1 := nr rfl
@[simp] theorem mRaise2_ap : mRaise2 x f g a b (r :: ρ) = (a (r :: ρ)).bind fun y ρ1 => (b ρ1).bind fun z ρ2 => .exc ⟨x, [(g, z), (f, y)]⟩ ρ2 := nr rfl
def tryM (i : Nat) (tab : List (Str × Bool)) (mh : MX → MS) (q : Res (Fl × Env)) : Res (Fl × Env) := match q with
  | .ok r => .ok r
  | .stuck => .stuck
  | .exc e ρ1 => match tab.lookup e.cls with
    | some true => if decide (i < ρ1.length) && e.fs.all (fun p => flatM p.2) then (match mh e (ρ1.set i none) with
      | .ok (.rt v, ρ2) => .ok (.rt v, ρ2)
      | .ok (f, ρ2) => .ok (f, ρ2.set i none)
      | _ => .stuck) else .stuck
    | some false => .exc e ρ1
    | none => .stuck
def endM (i : Nat) (q : Res (Fl × Env)) : Res (Fl × Env) := match q with
  | .ok (.rt v, ρ2) => .ok (.rt v, ρ2)
  | .ok (f, ρ2) => .ok (f, ρ2.set i none)
  | _ => .stuck
variable {i : Nat} {tab : List (Str × Bool)} {mb : MS} {mh : MX → MS} {e : MX} {q : Fl × Env}
@[simp] theorem mTry_ap : mTry i tab mb mh (r :: ρ) = tryM i tab mh (mb (r :: ρ)) := nr rfl
@[simp] theorem tryM_ok : tryM i tab mh (.ok q) = .ok q := nr rfl
@[simp] theorem tryM_exc (h : tab.lookup e.cls = some true) (h2 : i < ρ.length) (h3 : e.fs.all (fun p => flatM p.2) = true) : tryM i tab mh (.exc e ρ) = endM i (mh e (ρ.set i none)) := by
  unfold tryM
  simp only [h, h2, h3, decide_true, Bool.and_self, if_true]
  rfl
theorem tryM_out (h : tab.lookup e.cls = some false) : tryM i tab mh (.exc e ρ) = .exc e ρ := by
  unfold tryM
  simp only [h]
@[simp] theorem endM_nx : endM i (.ok (.nx, ρ)) = .ok (.nx, ρ.set i none) := nr rfl
@[simp] theorem endM_br : endM i (.ok (.br, ρ)) = .ok (.br, ρ.set i none) := nr rfl
@[simp] theorem endM_ct : endM i (.ok (.ct, ρ)) = .ok (.ct, ρ.set i none) := nr rfl
@[simp] theorem endM_rt {v : MV} : endM i (.ok (.rt v, ρ)) = .ok (.rt v, ρ) := nr rfl
@[simp] theorem mExF_ap : mExF e f (r :: ρ) = match e.fs.lookup f with | some x => .ok (x, r :: ρ) | none => .stuck := nr rfl
@[simp] theorem mExIs_ap : mExIs e tab (r :: ρ) = match tab.lookup e.cls with | some b => .ok (.bl b, r :: ρ) | none => .stuck := nr rfl
theorem mFn_exc {n : Nat} {m : MS} {xs : List MV} {e : MX} (h : ∃ ρ, m (xs.map some ++ List.replicate (n - xs.length) none) = .exc e ρ) : mFn n [] m xs = .exc e [] := by
  obtain ⟨ρ, h⟩ := h
  unfold mFn; rw [h]; rfl
end
/-! ### == of unlike scalars -/
section
variable {i : Int} {b b' : Bool} {x y : Str}
@[simp] theorem fEq_nn : fEq .non .non = some (.bl true) := nr rfl
@[simp] theorem fNe_nn : fNe .non .non = some (.bl false) := nr rfl
@[simp] theorem fEq_ni : fEq .non (.int i) = some (.bl false) := nr rfl
@[simp] theorem fEq_in : fEq (.int i) .non = some (.bl false) := nr rfl
@[simp] theorem fNe_ni : fNe .non (.int i) = some (.bl true) := nr rfl
@[simp] theorem fNe_in : fNe (.int i) .non = some (.bl true) := nr rfl
@[simp] theorem fEq_ns : fEq .non (.str x) = some (.bl false) := nr rfl
@[simp] theorem fEq_sn : fEq (.str x) .non = some (.bl false) := nr rfl
@[simp] theorem fNe_ns : fNe .non (.str x) = some (.bl true) := nr rfl
@[simp] theorem fNe_sn : fNe (.str x) .non = some (.bl true) := nr rfl
@[simp] theorem fEq_bb : fEq (.bl b) (.bl b') = some (.bl (decide (b = b'))) := nr rfl
@[simp] theorem fNe_bb : fNe (.bl b) (.bl b') = some (.bl (!decide (b = b'))) := nr rfl
@[simp] theorem fEq_is : fEq (.int i) (.str x) = some (.bl false) := nr rfl
@[simp] theorem fEq_si : fEq (.str x) (.int i) = some (.bl false) := nr rfl
@[simp] theorem fIsN_n : fIsN .non .non = some (.bl true) := nr rfl
@[simp] theorem fIsN_i : fIsN (.int i) .non = some (.bl false) := nr rfl
@[simp] theorem fIsN_s : fIsN (.str x) .non = some (.bl false) := nr rfl
@[simp] theorem fIsN_t {xs : List MV} : fIsN (.tup xs) .non = some (.bl false) := nr rfl
@[simp] theorem fIsN_b : fIsN (.bl b) .non = some (.bl false) := nr rfl
@[simp] theorem fNotN_n : fNotN .non .non = some (.bl false) := nr rfl
@[simp] theorem fNotN_i : fNotN (.int i) .non = some (.bl true) := nr rfl
@[simp] theorem fNotN_s : fNotN (.str x) .non = some (.bl true) := nr rfl
@[simp] theorem fNotN_t {xs : List MV} : fNotN (.tup xs) .non = some (.bl true) := nr rfl
@[simp] theorem fNotN_b : fNotN (.bl b) .non = some (.bl true) := nr rfl
end
/-! ### texts -/
def tOk (x : Str) : Prop := (PyData.str x).canLay0 = true
theorem tOk_iff {x : Str} : tOk x ↔ ∀ c ∈ x.cps.toList, c < 0x110000 := by
  show PyData.strOk x = true ↔ _
  unfold PyData.strOk
  rw [← Array.all_toList, List.all_eq_true]
  simp only [decide_eq_true_eq]
theorem okD_s {n : Nat} {x : Str} (h : tOk x) : okD n (.str x) = true := by cases n <;> exact h
theorem tl_app (a b : Str) : (a ++ b).cps.toList = a.cps.toList ++ b.cps.toList := TL.tl_append a b
theorem len_app (a b : Str) : (a ++ b).length = a.length + b.length := by
  rw [TL.len_tl, TL.len_tl, TL.len_tl, TL.tl_append, List.length_append]
theorem tOk_app {a b : Str} (h1 : tOk a) (h2 : tOk b) : tOk (a ++ b) := by
  rw [tOk_iff] at *
  intro c hc
  rw [tl_app] at hc
  rcases List.mem_append.mp hc with hc | hc
  · exact h1 c hc
  · exact h2 c hc
theorem tOk_cut {z : Str} {lo hi : Option Int} (h : tOk z) : tOk (cutS z lo hi) := by
  rw [tOk_iff] at *
  intro c hc
  exact h c (List.mem_of_mem_drop (List.mem_of_mem_take hc))
theorem len_cut {z : Str} {lo hi : Option Int} : (cutS z lo hi).length ≤ z.length := by
  rw [TL.len_tl, TL.len_tl]
  show (List.take _ (List.drop _ z.cps.toList)).length ≤ z.cps.toList.length
  rw [List.length_take, List.length_drop]
  omega
theorem tOk_sign {z : Str} {c : Nat} (h : tOk z) (hc : c ∈ z.cps.toList) : tOk ⟨#[c]⟩ := by
  rw [tOk_iff] at *
  intro d hd
  have : d = c := by simpa using hd
  rw [this]
  exact h c hc
@[simp] theorem fIx_s {z : Str} {i : Int} : fIx (.str z) (.int i) = if szOk z.length then (atI z.cps.toList i).map fun c => MV.str ⟨#[c]⟩ else none := nr rfl
@[simp] theorem fSl_s {z : Str} {lo hi : Option Int} : fSl (.str z) lo hi = if szOk z.length then some (.str (cutS z lo hi)) else none := nr rfl
@[simp] theorem bLen_s {z : Str} : bLen [.str z] = if szOk z.length then some (.int z.length) else none := nr rfl
theorem at_some {α : Type} {xs : List α} {i : Int} (h : 0 ≤ i) (h2 : i < xs.length) : ∃ x ∈ xs, atI xs i = some x := by
  rw [atI_ge h]
  have : i.toNat < xs.length := by omega
  exact ⟨xs[i.toNat], List.getElem_mem this, List.getElem?_eq_getElem this⟩
theorem fMul_l {a : List MV} {k : Int} (h : 0 ≤ k) (h2 : k < 2 ^ 63) (h3 : szOk (a.length * k.toNat) = true) : fMul (.lst a) (.int k) = some (.lst (List.replicate k.toNat a).flatten) := by
  show (if (decide (-(2 ^ 63) ≤ k) && decide (k < 2 ^ 63) && szOk (a.length * k.toNat)) = true then some (MV.lst (List.replicate k.toNat a).flatten) else none) = _
  rw [if_pos]
  simp only [h2, h3, decide_true, Bool.and_true, decide_eq_true_eq]
  omega
theorem rep_one {α : Type} (x : α) (k : Nat) : (List.replicate k [x]).flatten = List.replicate k x := by
  induction k with
  | zero => rfl
  | succ k ih => rw [List.replicate_succ, List.flatten_cons, ih]; rfl
theorem fMul_1 {x : MV} {k : Nat} (h : k < 1000000) : fMul (.lst [x]) (.int (k : Nat)) = some (.lst (List.replicate k x)) := by
  rw [fMul_l (by omega) (by omega) (szOk_small (by simp; omega))]
  show some (MV.lst (List.replicate k [x]).flatten) = _
  rw [rep_one]
@[simp] theorem fMul_10 {x : MV} : fMul (.lst [x]) (.int 0) = some (.lst []) := fMul_1 (k := 0) (by decide)
@[simp] theorem fMul_11 {x : MV} : fMul (.lst [x]) (.int 1) = some (.lst [x]) := fMul_1 (k := 1) (by decide)
@[simp] theorem mOpO_ap {f : MV → MV → Option (List MV)} {a b : ME} {r : Option MV} {ρ : Env} : mOpO f a b (r :: ρ) = (a (r :: ρ)).bind fun x ρ1 => (b ρ1).bind fun y ρ2 => match f x y with | some zs => .ok (.own zs, ρ2) | none => .stuck := nr rfl
theorem fMultL_l {a : List MV} {k : Int} (h : 0 ≤ k) (h2 : k < 2 ^ 63) (h3 : szOk (a.length * k.toNat) = true) : fMultL (.lst a) (.int k) = some (List.replicate k.toNat a).flatten := by
  show (if (decide (-(2 ^ 63) ≤ k) && decide (k < 2 ^ 63) && szOk (a.length * k.toNat)) = true then some (List.replicate k.toNat a).flatten else none) = _
  rw [if_pos]
  simp only [h2, h3, decide_true, Bool.and_true, decide_eq_true_eq]
  omega
theorem fMultL_1 {x : MV} {k : Nat} (h : k < 1000000) : fMultL (.lst [x]) (.int (k : Nat)) = some (List.replicate k x) := by
  rw [fMultL_l (by omega) (by omega) (szOk_small (by simp; omega))]
  show some (List.replicate k [x]).flatten = _
  rw [rep_one]
@[simp] theorem fAddL_ll {a b : List MV} : fAddL (.lst a) (.lst b) = if szOk (a.length + b.length) then some (a ++ b) else none := nr rfl
end Tm

set_option Elab.async false
set_option linter.all false
set_option maxRecDepth 100000
set_option maxHeartbeats 2000000
namespace Tm
open PySem L2
/-! ### loops with an early end, comprehensions with a test, text methods -/
def firstM (f : Nat → MV → Option MV) : Nat → List MV → Option MV
  | _, [] => none
  | k, x :: xs => match f k x with | some v => some v | none => firstM f (k + 1) xs
theorem loop_ret {g : MG} {b : MS} (I : Nat → Env → Prop) (f : Nat → MV → Option MV) : ∀ (xs : List MV) (k : Nat) (ρ : Env), I k ρ → (∀ i x ρ, xs[i]? = some x → I (k + i) ρ → ∃ ρ1, g x ρ = some ρ1 ∧ ((∃ v ρ2, f (k + i) x = some v ∧ b ρ1 = .ok (.rt v, ρ2)) ∨ (∃ ρ2, f (k + i) x = none ∧ b ρ1 = .ok (.nx, ρ2) ∧ I (k + i + 1) ρ2))) →
    (∃ v ρ', firstM f k xs = some v ∧ mLoop g b xs ρ = .ok (.rt v, ρ')) ∨ (∃ ρ', firstM f k xs = none ∧ mLoop g b xs ρ = .ok (.nx, ρ') ∧ I (k + xs.length) ρ')
  | [], k, ρ, h, _ => .inr ⟨ρ, rfl, rfl, h⟩
  | x :: xs, k, ρ, h, hs => by
    obtain ⟨ρ1, e1, e2⟩ := hs 0 x ρ rfl h
    rcases e2 with ⟨v, ρ2, e2, e3⟩ | ⟨ρ2, e2, e3, h2⟩
    · refine .inl ⟨v, ρ2, ?_, ?_⟩
      · unfold firstM; rw [Nat.add_zero] at e2; rw [e2]
      · unfold mLoop; rw [e1]; simp only [e3, bind_ok]
    · have := loop_ret (g := g) (b := b) I f xs (k + 1) ρ2 h2 (fun i y ρ hy hi => by
        have := hs (i + 1) y ρ (by simpa using hy) (by rw [show k + (i + 1) = k + 1 + i by omega]; exact hi)
        rw [show k + (i + 1) = k + 1 + i by omega] at this
        exact this)
      rw [Nat.add_zero] at e2
      rcases this with ⟨v, ρ', r1, r2⟩ | ⟨ρ', r1, r2, r3⟩
      · refine .inl ⟨v, ρ', ?_, ?_⟩
        · unfold firstM; rw [e2]; exact r1
        · unfold mLoop; rw [e1]; simp only [e3, bind_ok]; exact r2
      · refine .inr ⟨ρ', ?_, ?_, ?_⟩
        · unfold firstM; rw [e2]; exact r1
        · unfold mLoop; rw [e1]; simp only [e3, bind_ok]; exact r2
        · rw [List.length_cons, show k + (xs.length + 1) = k + 1 + xs.length by omega]; exact r3
theorem lc_filt {g : Tgt} {t : MT} {e : ME} {vs : List Nat} {W : Env} (p : MV → Bool) (y : MV → MV) : ∀ (xs acc : List MV) (ρ : Env), (∀ x ∈ xs, ∃ ρ1, setT g x W = some ρ1 ∧ t ρ1 = .ok (p x, ρ1) ∧ (p x = true → e ρ1 = .ok (y x, ρ1)) ∧ wipeM ρ1 vs = W ∧ ρ1.length = W.length) → wipeM ρ vs = W → ρ.length = W.length → acc.length + xs.length ≤ sizeLine →
    ∃ ρ', mLcLoop g t e vs xs acc ρ = .ok (acc ++ (xs.filter p).map y, ρ') ∧ wipeM ρ' vs = W ∧ ρ'.length = W.length
  | [], acc, ρ, _, hw, hl, _ => ⟨ρ, by simp [mLcLoop], hw, hl⟩
  | x :: xs, acc, ρ, h, hw, hl, hz => by
    obtain ⟨ρ1, e1, et, e2, e3, e4⟩ := h x (List.mem_cons_self ..)
    rw [List.length_cons] at hz
    cases hp : p x with
    | true =>
      obtain ⟨ρ', r1, r2, r3⟩ := lc_filt (g := g) (t := t) (e := e) (vs := vs) p y xs (acc ++ [y x]) ρ1 (fun z hz => h z (List.mem_cons_of_mem _ hz)) e3 e4 (by rw [List.length_append, List.length_singleton]; omega)
      refine ⟨ρ', ?_, r2, r3⟩
      unfold mLcLoop
      rw [hw, e1]
      simp only [et, hp, b0_ok, if_true, e2 hp]
      rw [if_pos ⟨by omega, by rw [e4, hl]⟩, r1, List.filter_cons_of_pos hp]
      simp
    | false =>
      obtain ⟨ρ', r1, r2, r3⟩ := lc_filt (g := g) (t := t) (e := e) (vs := vs) p y xs acc ρ1 (fun z hz => h z (List.mem_cons_of_mem _ hz)) e3 e4 (by omega)
      refine ⟨ρ', ?_, r2, r3⟩
      unfold mLcLoop
      rw [hw, e1]
      simp only [et, hp, b0_ok, Bool.false_eq_true, if_false]
      rw [if_pos (by rw [e4, hl]), r1, List.filter_cons_of_neg (by simp [hp])]
theorem mLcO_filt {it : MI} {g : Tgt} {t : MT} {e : ME} {vs : List Nat} {ρ ρ1 : Env} {xs : List MV} (p : MV → Bool) (y : MV → MV) (hi : it ρ = .ok (xs, ρ1)) (hp : perAt ρ1 vs = true) (hx : ∀ x ∈ xs, ∃ ρ2, setT g x (wipeM ρ1 vs) = some ρ2 ∧ t ρ2 = .ok (p x, ρ2) ∧ (p x = true → e ρ2 = .ok (y x, ρ2)) ∧ wipeM ρ2 vs = wipeM ρ1 vs ∧ ρ2.length = ρ1.length) (hz : xs.length ≤ sizeLine) :
    mLcO it g t e vs ρ = .ok (.own ((xs.filter p).map y), ρ1) := by
  obtain ⟨ρ', r1, r2, r3⟩ := lc_filt (g := g) (t := t) (e := e) (vs := vs) (W := wipeM ρ1 vs) p y xs [] ρ1 (fun x h => by
    obtain ⟨ρ2, a, b, c, d, f⟩ := hx x h
    exact ⟨ρ2, a, b, c, d, by rw [f, wipeM_len]⟩) rfl (wipeM_len ..).symm (by simpa using hz)
  unfold mLcO
  rw [hi, bind_ok, if_pos hp, r1]
  simp only [b0_ok, List.nil_append]
  rw [back_wipe vs ρ1 ρ' (by rw [r3, wipeM_len]) (wipe_other (by rw [r3, wipeM_len]) r2)]
theorem set_none {ρ : Env} {v : Nat} (hv : ρ[v]? = some none) : ρ.set v none = ρ := by
  apply List.ext_getElem?
  intro j
  by_cases e : v = j
  · subst e; rw [List.getElem?_set_self (lt_get hv), hv]
  · rw [List.getElem?_set_ne e]
theorem mLcO_nmf {it : MI} {t : MT} {e : ME} {v : Nat} {ρ : Env} {xs : List MV} (p : MV → Bool) (y : MV → MV) (hi : it ρ = .ok (xs, ρ)) (hv : ρ[v]? = some none) (ht : ∀ x ∈ xs, t (ρ.set v (some x)) = .ok (p x, ρ.set v (some x))) (he : ∀ x ∈ xs, p x = true → e (ρ.set v (some x)) = .ok (y x, ρ.set v (some x))) (hz : xs.length ≤ sizeLine) :
    mLcO it (.nm v) t e [v] ρ = .ok (.own ((xs.filter p).map y), ρ) := by
  have lv := lt_get hv
  have w : wipeM ρ [v] = ρ := set_none hv
  refine mLcO_filt p y hi (by simp [perAt, hv]) (fun x hx => ?_) hz
  rw [w]
  refine ⟨ρ.set v (some x), by simp [setT, lv], ht x hx, he x hx, ?_, by simp⟩
  show (ρ.set v (some x)).set v none = ρ
  rw [List.set_set]
  exact w
theorem mLcO_nm {it : MI} {e : ME} {v : Nat} {ρ : Env} {xs : List MV} (y : MV → MV) (hi : it ρ = .ok (xs, ρ)) (hv : ρ[v]? = some none) (he : ∀ x ∈ xs, e (ρ.set v (some x)) = .ok (y x, ρ.set v (some x))) (hz : xs.length ≤ sizeLine) :
    mLcO it (.nm v) mYes e [v] ρ = .ok (.own (xs.map y), ρ) := by
  have := mLcO_nmf (t := mYes) (fun _ => true) y hi hv (fun _ _ => rfl) (fun x hx _ => he x hx) hz
  rwa [List.filter_eq_self.mpr (fun _ _ => rfl)] at this
section
variable {α β : Type} {a b : ME} {m : MA} {ρ : Env} {r : Option MV}
@[simp] theorem mSm_ap {f : Str → List MV → Option MV} : mSm f a m (r :: ρ) = (a (r :: ρ)).bind fun x ρ1 => match x with | .str z => (m ρ1).bind (smE f z) | _ => .stuck := nr rfl
theorem smE_ok {f : Str → List MV → Option MV} {z : Str} {ys : List MV} {w : MV} (h : f z ys = some w) : smE f z ys ρ = .ok (w, ρ) := by unfold smE; rw [h]
@[simp] theorem mLx_ap {f : List MV → List MV → Option MV} : mLx f a m (r :: ρ) = (a (r :: ρ)).bind fun x ρ1 => match x with
  | .lst xs => (m ρ1).bind fun ys ρ2 => (match f xs ys with | some w => .ok (w, ρ2) | none => .stuck)
  | _ => .stuck := nr rfl
end
theorem strsOf_map : ∀ ss : List Str, strsOf (ss.map MV.str) = some ss
  | [] => rfl
  | s :: ss => by
    show (match strsOf (ss.map MV.str) with | some l => some (s :: l) | none => none) = _
    rw [strsOf_map ss]
theorem lxIndex_map {ss : List Str} {b : Str} {j : Nat} (h : ss.findIdx? (fun s => decide (s = b)) = some j) : lxIndex (ss.map MV.str) [.str b] = some (.int j) := by
  show (match strsOf (ss.map MV.str) with
    | some ss => (match ss.findIdx? (fun s => decide (s = b)) with | some j => some (MV.int (j : Nat)) | none => none)
    | none => none) = _
  rw [strsOf_map]
  simp only [h]
theorem while_inv {t : MT} {b : MS} (I : Nat → Env → Prop) : ∀ (n m : Nat) (ρ : Env), I m ρ → m < n → (∀ m ρ, I m ρ → (∃ ρ1, t ρ = .ok (false, ρ1) ∧ I 0 ρ1) ∨ (∃ ρ1 ρ2 m', t ρ = .ok (true, ρ1) ∧ b ρ1 = .ok (.nx, ρ2) ∧ m' < m ∧ I m' ρ2)) →
    ∃ ρ', mWhileN n t b ρ = .ok (.nx, ρ') ∧ I 0 ρ'
  | 0, m, ρ, _, hm, _ => absurd hm (Nat.not_lt_zero _)
  | n + 1, m, ρ, h, hm, hs => by
    unfold mWhileN
    rcases hs m ρ h with ⟨ρ1, e, h1⟩ | ⟨ρ1, ρ2, m', e, e2, hl, h1⟩
    · refine ⟨ρ1, ?_, h1⟩
      rw [e, bind_ok]; simp
    · obtain ⟨ρ', r1, r2⟩ := while_inv I n m' ρ2 h1 (by omega) hs
      refine ⟨ρ', ?_, r2⟩
      rw [e, bind_ok, if_pos rfl, e2, bind_ok]
      exact r1
/-! ### reckoning: owned lists looked at -/
@[simp] theorem mLenV_ap : mLenV i (r :: ρ) = match lenV (r :: ρ) i with | some z => .ok (z, r :: ρ) | none => .stuck := nr rfl
theorem lenV_own {ρ : Env} {i : Nat} {xs : List MV} (h : ρ[i]? = some (some (.own xs))) : lenV ρ i = some (.int xs.length) := by unfold lenV; rw [h]
@[simp] theorem lenV_get {ρ : Env} : lenV ρ i = match ρ[i]? with | some (some (.own xs)) => some (.int xs.length) | some (some x) => bLen [x] | _ => none := nr rfl
@[simp] theorem mSlV_ap {l h : MP} : mSlV i l h (r :: ρ) = if has (r :: ρ) i then (l (r :: ρ)).bind fun a ρ1 => (h ρ1).bind fun b ρ2 => match slV ρ2 i a b with | some zs => .ok (.lst zs, ρ2) | none => .stuck else .stuck := nr rfl
@[simp] theorem mSlVO_ap {l h : MP} : mSlVO i l h (r :: ρ) = if has (r :: ρ) i then (l (r :: ρ)).bind fun a ρ1 => (h ρ1).bind fun b ρ2 => match slV ρ2 i a b with | some zs => .ok (.own zs, ρ2) | none => .stuck else .stuck := nr rfl
@[simp] theorem mSlO_ap {a : ME} {l h : MP} : mSlO a l h (r :: ρ) = (a (r :: ρ)).bind fun x ρ1 => (l ρ1).bind fun i ρ2 => (h ρ2).bind fun j ρ3 => match x with | .lst xs => .ok (.own (cutM xs i j), ρ3) | _ => .stuck := nr rfl
@[simp] theorem fMul_s {a : Str} {k : Int} : fMul (.str a) (.int k) = if decide (-(2 ^ 63) ≤ k) && decide (k < 2 ^ 63) && szOk (a.length * k.toNat) then some (.str (repS a k)) else none := nr rfl
end Tm

set_option Elab.async false
set_option linter.all false
set_option maxRecDepth 100000
set_option maxHeartbeats 4000000
namespace Tm
open PySem L2
def m_lmixed : MS := mSeq (mAsg (mLst (mCons (mC (.int 2147483629)) (mCons (mC (.int 2147483587)) (mCons (mC (.int 2147483579)) (mCons (mC (.int 2147483563)) (mCons (mC (.int 2147483549)) (mCons (mC (.int 2147483543)) (mCons (mC (.int 2147483497)) (mCons (mC (.int 2147483489)) (mNil)))))))))) (gSet 3)) (mSeq (mAsg (mOp fMod (mOp fAdd (mOp fAdd (mOp fAdd (mVar 0) (mOp fMul (mC (.int 7919)) (mVar 2))) (mOp fMul (mC (.int 104729)) (mVar 1))) (mC (.int 13))) (mC (.int 2147483647))) (gSet 4)) (mSeq (mAsg (mOp fMod (mOp fPow (mVar 4) (mC (.int 5))) (mOp fIx (mVar 3) (mOp fMod (mVar 1) (mC (.int 8))))) (gSet 4)) (mSeq (mAsg (mOp fMod (mOp fAdd (mOp fAdd (mVar 4) (mOp fMul (mC (.int 40692)) (mVar 2))) (mVar 1)) (mC (.int 2147483647))) (gSet 5)) (mRet (mOp fAdd (mOp fMul (mOp fMod (mOp fPow (mVar 5) (mC (.int 5))) (mC (.int 2147483647))) (mC (.int 1000000007))) (mVar 4))))))
def f_lmixed : MF := mFn 6 [] m_lmixed
def b_ldraws_0 : MS := mIfS (mTest (mOp fGt (mVar 4) (mC (.int 0)))) (mSeq (mDrop (mLm lmAppend 3 (mCons (mOp fMod (mVar 4) (mOp fIx (mVar 2) (mVar 5))) (mNil)))) (mAsg (mOp fDiv (mVar 4) (mOp fIx (mVar 2) (mVar 5))) (gSet 4))) (mDrop (mLm lmAppend 3 (mCons (mOp fMod (mFz (mCall f_lmixed (mCons (mVar 0) (mCons (mVar 5) (mCons (mVar 1) (mNil)))))) (mOp fIx (mVar 2) (mVar 5))) (mNil))))
def m_ldraws : MS := mSeq (mSetO 3 (mLstO (mNil))) (mSeq (mAsg (mC (.int 0)) (gSet 4)) (mSeq (mIfS (mTest (mOp fGe (mBlt bAbs (mCons (mVar 0) (mNil))) (mOp fPow (mC (.int 10)) (mC (.int 18))))) (mAsg (mBlt bAbs (mCons (mVar 0) (mNil))) (gSet 4)) (mPass)) (mSeq (mFor (mR1 (mCons (mBlt bLen (mCons (mVar 2) (mNil))) (mNil))) (gSet 5) (b_ldraws_0)) (mRet (mMove 3)))))
def f_ldraws : MF := mFn 6 [] m_ldraws
def m_lcell : MS := mSeq (mIfS (mTest (mOp fLt (mVar 1) (mBlt bLen (mCons (mVar 0) (mNil))))) (mRet (mOp fIx (mVar 0) (mVar 1))) (mPass)) (mSeq (mIfS (mTest (mOp fEq (mBlt bLen (mCons (mVar 0) (mNil))) (mC (.int 0)))) (mRet (mOp fMul (mC (.int 7919)) (mOp fAdd (mVar 1) (mC (.int 1))))) (mPass)) (mRet (mOp fAdd (mOp fIx (mVar 0) (mOp fMod (mVar 1) (mBlt bLen (mCons (mVar 0) (mNil))))) (mOp fMul (mC (.int 104729)) (mVar 1)))))
def f_lcell : MF := mFn 2 [] m_lcell
def b_lpower_0 : MS := mAsg (mOp fMul (mVar 2) (mVar 0)) (gSet 2)
def m_lpower : MS := mSeq (mAsg (mC (.int 1)) (gSet 2)) (mSeq (mFor (mR1 (mCons (mVar 1) (mNil))) (gSet 3) (b_lpower_0)) (mRet (mVar 2)))
def f_lpower : MF := mFn 4 [] m_lpower
def m_lends : MS := mSeq (mAsg (mFz (mCall f_lpower (mCons (mC (.int 10)) (mCons (mOp fIx (mVar 0) (mC (.int 1))) (mNil))))) (gSet 1)) (mSeq (mIfS (mTest (mOp fEq (mOp fIx (mVar 0) (mC (.int 2))) (mC (.str "none")))) (mRet (mTup (mCons (mC (.int 0)) (mCons (mOp fSub (mVar 1) (mC (.int 1))) (mNil))))) (mPass)) (mSeq (mIfS (mTest (mOp fEq (mOp fIx (mVar 0) (mC (.int 2))) (mC (.str "end")))) (mRet (mTup (mCons (mOp fSub (mC (.int 1)) (mVar 1)) (mCons (mOp fSub (mVar 1) (mC (.int 1))) (mNil))))) (mPass)) (mRet (mTup (mCons (mOp fSub (mC (.int 0)) (mOp fDiv (mVar 1) (mC (.int 2)))) (mCons (mOp fSub (mOp fDiv (mVar 1) (mC (.int 2))) (mC (.int 1))) (mNil)))))))
def f_lends : MF := mFn 2 [] m_lends
def b_ppower_0 : MS := mAsg (mOp fMul (mVar 2) (mVar 0)) (gSet 2)
def m_ppower : MS := mSeq (mAsg (mC (.int 1)) (gSet 2)) (mSeq (mFor (mR1 (mCons (mVar 1) (mNil))) (gSet 3) (b_ppower_0)) (mRet (mVar 2)))
def f_ppower : MF := mFn 4 [] m_ppower
def m_pleast_of : MS := mSeq (mIfS (mTest (mOp fEq (mOp fIx (mVar 0) (mC (.int 2))) (mC (.str "none")))) (mRet (mC (.int 0))) (mPass)) (mSeq (mIfS (mTest (mOp fEq (mOp fIx (mVar 0) (mC (.int 2))) (mC (.str "end")))) (mRet (mOp fSub (mC (.int 1)) (mFz (mCall f_ppower (mCons (mC (.int 10)) (mCons (mOp fIx (mVar 0) (mC (.int 1))) (mNil))))))) (mPass)) (mRet (mOp fMul (mUn fNeg (mC (.int 5))) (mFz (mCall f_ppower (mCons (mC (.int 10)) (mCons (mOp fSub (mOp fIx (mVar 0) (mC (.int 1))) (mC (.int 1))) (mNil))))))))
def f_pleast_of : MF := mFn 1 [] m_pleast_of
def m_lform : MS := mSeq (mAsg (mOp fMod (mOp fAdd (mOp fAdd (mOp fMul (mC (.int 7)) (mVar 1)) (mOp fMul (mC (.int 3)) (mVar 0))) (mVar 2)) (mOp fAdd (mVar 1) (mC (.int 2)))) (gSet 3)) (mRet (mTup (mCons (mOp fIx (mLst (mCons (mC (.str "packed")) (mCons (mC (.str "spread")) (mNil)))) (mVar 0)) (mCons (mOp fAdd (mC (.int 1)) (mVar 1)) (mCons (mOp fIx (mLst (mCons (mC (.str "none")) (mCons (mC (.str "end")) (mCons (mC (.str "tens")) (mNil))))) (mVar 2)) (mCons (mVar 3) (mNil)))))))
def f_lform : MF := mFn 4 [] m_lform
def m_lwhole : MS := mRet (mBv (mAndT (mTest (mBlt bIsi (mCons (mVar 0) (mCons (mC (.raw (.ty "int"))) mNil)))) (mTest (mBv (mNotT (mTest (mBlt bIsi (mCons (mVar 0) (mCons (mC (.raw (.ty "bool"))) mNil)))))))))
def f_lwhole : MF := mFn 1 [] m_lwhole
def m_pmost_of : MS := mSeq (mIfS (mTest (mOp fEq (mOp fIx (mVar 0) (mC (.int 2))) (mC (.str "tens")))) (mRet (mOp fSub (mOp fMul (mC (.int 5)) (mFz (mCall f_ppower (mCons (mC (.int 10)) (mCons (mOp fSub (mOp fIx (mVar 0) (mC (.int 1))) (mC (.int 1))) (mNil)))))) (mC (.int 1)))) (mPass)) (mRet (mOp fSub (mFz (mCall f_ppower (mCons (mC (.int 10)) (mCons (mOp fIx (mVar 0) (mC (.int 1))) (mNil))))) (mC (.int 1))))
def f_pmost_of : MF := mFn 1 [] m_pmost_of
def m_lnumber : MS := mSeq (mAsg (mFz (mCall f_lends (mCons (mVar 0) (mNil)))) (gTp 2 (gsCons (gSet 6) (gsCons (gSet 7) (gsNil))))) (mSeq (mIfS (mTest (mOp fGt (mVar 1) (mC (.int 9)))) (mRet (mOp fAdd (mVar 6) (mOp fMod (mVar 2) (mOp fAdd (mOp fSub (mVar 7) (mVar 6)) (mC (.int 1)))))) (mPass)) (mSeq (mAsg (mFz (mCall f_lpower (mCons (mC (.int 10)) (mCons (mOp fMod (mVar 2) (mOp fIx (mVar 0) (mC (.int 1)))) (mNil))))) (gSet 3)) (mSeq (mSetO 4 (mLstO (mCons (mC (.int 0)) (mCons (mC (.int 1)) (mCons (mVar 7) (mCons (mVar 6) (mCons (mVar 3) (mCons (mOp fSub (mVar 3) (mC (.int 1))) (mCons (mOp fMul (mC (.int 5)) (mVar 3)) (mCons (mOp fMul (mC (.int 9)) (mVar 3)) (mCons (mOp fAdd (mVar 3) (mC (.int 1))) (mNil)))))))))))) (mSeq (mDrop (mLm lmAppend 4 (mCons (mOp fMod (mOp fDiv (mVar 2) (mC (.int 16))) (mOp fMul (mC (.int 10)) (mVar 3))) (mNil)))) (mSeq (mAsg (mIxV 4 (mVar 1)) (gSet 5)) (mSeq (mIfS (mAndT (mTest (mOp fLt (mVar 6) (mC (.int 0)))) (mTest (mOp fEq (mOp fMod (mOp fDiv (mVar 2) (mC (.int 13))) (mC (.int 2))) (mC (.int 1))))) (mAsg (mOp fSub (mC (.int 0)) (mVar 5)) (gSet 5)) (mPass)) (mRet (mBlt bMax (mCons (mVar 6) (mCons (mBlt bMin (mCons (mVar 7) (mCons (mVar 5) (mNil)))) (mNil)))))))))))
def f_lnumber : MF := mFn 8 [] m_lnumber
def b_pfigures_of_0 : MS := mSeq (mDrop (mLm lmAppend 2 (mCons (mOp fMod (mVar 0) (mC (.int 10))) (mNil)))) (mAsg (mOp fDiv (mVar 0) (mC (.int 10))) (gSet 0))
def m_pfigures_of : MS := mSeq (mSetO 2 (mLstO (mNil))) (mSeq (mFor (mR1 (mCons (mVar 1) (mNil))) (gSet 3) (b_pfigures_of_0)) (mRet (mRevA (mVar 2))))
def f_pfigures_of : MF := mFn 4 [] m_pfigures_of
def m_psign_half : MS := mSeq (mIfS (mTest (mOp fLt (mVar 0) (mC (.int 0)))) (mRet (mC (.int 13))) (mPass)) (mRet (mC (.int 12)))
def f_psign_half : MF := mFn 1 [] m_psign_half
def m_phalves_of : MS := mSeq (mAsg (mOp fAdd (mOp fIx (mVar 0) (mC (.int 1))) (mBlt bInt (mCons (mOp fEq (mOp fIx (mVar 0) (mC (.int 2))) (mC (.str "end"))) (mNil)))) (gSet 1)) (mRet (mTup (mCons (mOp fAdd (mVar 1) (mOp fMod (mVar 1) (mC (.int 2)))) (mCons (mOp fMod (mVar 1) (mC (.int 2))) (mNil)))))
def f_phalves_of : MF := mFn 2 [] m_phalves_of
def b_pkept_halves_0 : MS := mDrop (mLm lmExtend 3 (mCons (mLst (mCons (mC (.int 15)) (mCons (mVar 4) (mNil)))) (mNil)))
def m_pkept_halves : MS := mSeq (mIfS (mTest (mOp fEq (mOp fIx (mVar 0) (mC (.int 2))) (mC (.str "tens")))) (mAsg (mOp fMod (mVar 1) (mFz (mCall f_ppower (mCons (mC (.int 10)) (mCons (mOp fIx (mVar 0) (mC (.int 1))) (mNil)))))) (gSet 1)) (mPass)) (mSeq (mAsg (mFz (mCall f_pfigures_of (mCons (mBlt bAbs (mCons (mVar 1) (mNil))) (mCons (mOp fIx (mVar 0) (mC (.int 1))) (mNil))))) (gSet 2)) (mSeq (mIfS (mTest (mOp fEq (mOp fIx (mVar 0) (mC (.int 0))) (mC (.str "packed")))) (mSeq (mAsg (mOp fMul (mLst (mCons (mFz (mCall f_psign_half (mCons (mVar 1) (mNil)))) (mNil))) (mBlt bInt (mCons (mOp fEq (mOp fIx (mVar 0) (mC (.int 2))) (mC (.str "end"))) (mNil)))) (gSet 5)) (mRet (mOp fAdd (mOp fAdd (mOp fMul (mLst (mCons (mC (.int 0)) (mNil))) (mOp fIx (mFz (mCall f_phalves_of (mCons (mVar 0) (mNil)))) (mC (.int 1)))) (mVar 2)) (mVar 5)))) (mPass)) (mSeq (mSetO 3 (mLstO (mNil))) (mSeq (mFor (mItV (mVar 2)) (gSet 4) (b_pkept_halves_0)) (mSeq (mIfS (mTest (mOp fEq (mOp fIx (mVar 0) (mC (.int 2))) (mC (.str "end")))) (mSetIx 3 (mFz (mCall f_psign_half (mCons (mVar 1) (mNil)))) (mUn fNeg (mC (.int 2)))) (mPass)) (mRet (mMove 3)))))))
def f_pkept_halves : MF := mFn 6 [] m_pkept_halves
def m_pfits : MS := mRet (mChain fLe fLe (mFz (mCall f_pleast_of (mCons (mVar 0) (mNil)))) (mVar 1) (mFz (mCall f_pmost_of (mCons (mVar 0) (mNil)))))
def f_pfits : MF := mFn 2 [] m_pfits
def m_pkept : MS := mSeq (mIfS (mNotT (mTest (mFz (mCall f_pfits (mCons (mVar 0) (mCons (mVar 1) (mNil))))))) (mRaise1 "NoFit" "number" (mVar 1)) (mPass)) (mSeq (mAsg (mFz (mCall f_pkept_halves (mCons (mVar 0) (mCons (mVar 1) (mNil))))) (gSet 2)) (mRet (mBlt bTuple (mCons (mFz (mLcO (mR3 (mCons (mC (.int 0)) (mCons (mBlt bLen (mCons (mVar 2) (mNil))) (mCons (mC (.int 2)) (mNil))))) (.nm 3) (mYes) (mOp fAdd (mOp fMul (mC (.int 16)) (mOp fIx (mVar 2) (mVar 3))) (mOp fIx (mVar 2) (mOp fAdd (mVar 3) (mC (.int 1))))) [3])) (mNil)))))
def f_pkept : MF := mFn 4 [] m_pkept
def m_pwritten : MS := mSeq (mIfS (mNotT (mTest (mFz (mCall f_pfits (mCons (mVar 0) (mCons (mVar 1) (mNil))))))) (mRaise1 "NoFit" "number" (mVar 1)) (mPass)) (mSeq (mAsg (mSm smZfill (mBlt bStr (mCons (mBlt bAbs (mCons (mVar 1) (mNil))) (mNil))) (mCons (mOp fAdd (mOp fIx (mVar 0) (mC (.int 3))) (mC (.int 1))) (mNil))) (gSet 2)) (mSeq (mIfS (mTest (mOp fGt (mOp fIx (mVar 0) (mC (.int 3))) (mC (.int 0)))) (mAsg (mOp fAdd (mOp fAdd (mSl (mVar 2) (mNo) (mPart (mUn fNeg (mOp fIx (mVar 0) (mC (.int 3)))))) (mC (.str "."))) (mSl (mVar 2) (mPart (mUn fNeg (mOp fIx (mVar 0) (mC (.int 3))))) (mNo))) (gSet 2)) (mPass)) (mSeq (mIfS (mTest (mOp fLt (mVar 1) (mC (.int 0)))) (mRet (mOp fAdd (mC (.str "-")) (mVar 2))) (mPass)) (mRet (mVar 2)))))
def f_pwritten : MF := mFn 3 [] m_pwritten
def b_ltext2_0 : MS := mSeq (mAsg (mOp fAdd (mOp fIx (mC (.str "0123456789")) (mOp fMod (mVar 3) (mC (.int 10)))) (mVar 2)) (gSet 2)) (mAsg (mOp fDiv (mVar 3) (mC (.int 10))) (gSet 3))
def m_ltext2 : MS := mSeq (mAsg (mC (.str "")) (gSet 2)) (mSeq (mAsg (mBlt bAbs (mCons (mVar 1) (mNil))) (gSet 3)) (mSeq (mWhile (mOrT (mTest (mOp fGt (mVar 3) (mC (.int 0)))) (mTest (mOp fLt (mBlt bLen (mCons (mVar 2) (mNil))) (mOp fAdd (mOp fIx (mVar 0) (mC (.int 3))) (mC (.int 1)))))) (b_ltext2_0)) (mSeq (mIfS (mTest (mOp fGt (mOp fIx (mVar 0) (mC (.int 3))) (mC (.int 0)))) (mSeq (mAsg (mOp fSub (mBlt bLen (mCons (mVar 2) (mNil))) (mOp fIx (mVar 0) (mC (.int 3)))) (gSet 4)) (mAsg (mOp fAdd (mOp fAdd (mSl (mVar 2) (mNo) (mPart (mVar 4))) (mC (.str "."))) (mSl (mVar 2) (mPart (mVar 4)) (mNo))) (gSet 2))) (mPass)) (mRet (mOp fAdd (mOp fMul (mC (.str "-")) (mBlt bInt (mCons (mOp fLt (mVar 1) (mC (.int 0))) (mNil)))) (mVar 2))))))
def f_ltext2 : MF := mFn 5 [] m_ltext2
def b_lrefused2_0 : MS := mDrop (mFz (mCall f_pwritten (mCons (mVar 0) (mCons (mVar 1) (mNil)))))
def m_lrefused2 : MS := mSeq (mAsg (mC (.bl false)) (gSet 2)) (mSeq (mTry 3 [("NoFit", true)] (b_lrefused2_0) (fun ex => mAsg (mBv (mAndT (mTest (mExIs ex [("NoFit", true)])) (mAndT (mTest (mBv (mNotT (mTest (mExIs ex [("NoFit", false)]))))) (mTest (mOp fEq (mExF ex "number") (mVar 1)))))) (gSet 2))) (mRet (mVar 2)))
def f_lrefused2 : MF := mFn 4 [] m_lrefused2
def b_law8_0 : MS := mIfS (mTest (mOp fNe (mFz (mCall f_pwritten (mCons (mVar 5) (mCons (mVar 8) (mNil))))) (mFz (mCall f_ltext2 (mCons (mVar 5) (mCons (mVar 8) (mNil))))))) (mRet (mC (.bl false))) (mPass)
def b_law8_1 : MS := mSeq (mAsg (mFz (mCall f_ldraws (mCons (mFz (mCall f_lcell (mCons (mVar 0) (mCons (mOp fAdd (mC (.int 1)) (mVar 1)) (mNil))))) (mCons (mOp fAdd (mC (.int 3)) (mVar 1)) (mCons (mLst (mCons (mC (.int 16)) (mCons (mOp fPow (mC (.int 10)) (mC (.int 14))) (mCons (mOp fAdd (mC (.int 2)) (mVar 1)) (mCons (mC (.int 13)) (mCons (mOp fPow (mC (.int 10)) (mC (.int 39))) (mNil))))))) (mNil)))))) (gSet 4)) (mSeq (mAsg (mOp fAdd (mSl (mFz (mCall f_lform (mCons (mVar 2) (mCons (mVar 1) (mCons (mVar 3) (mNil)))))) (mNo) (mPart (mC (.int 3)))) (mTup (mCons (mOp fIx (mVar 4) (mC (.int 2))) (mNil)))) (gSet 5)) (mSeq (mAsg (mFz (mCall f_lends (mCons (mVar 5) (mNil)))) (gTp 2 (gsCons (gSet 10) (gsCons (gSet 11) (gsNil))))) (mSeq (mAsg (mFz (mCall f_lnumber (mCons (mVar 5) (mCons (mOp fIx (mVar 4) (mC (.int 0))) (mCons (mOp fIx (mVar 4) (mC (.int 1))) (mNil)))))) (gSet 6)) (mSeq (mAsg (mBlt bMax (mCons (mVar 10) (mCons (mBlt bMin (mCons (mVar 11) (mCons (mOp fDiv (mVar 6) (mFz (mCall f_lpower (mCons (mC (.int 10)) (mCons (mOp fIx (mVar 4) (mC (.int 3))) (mNil)))))) (mNil)))) (mNil)))) (gSet 7)) (mSeq (mFor (mItV (mTup (mCons (mVar 6) (mCons (mVar 7) (mCons (mC (.int 0)) (mNil)))))) (gSet 8) (b_law8_0)) (mSeq (mAsg (mOp fMul (mOp fIx (mVar 4) (mC (.int 4))) (mOp fMod (mOp fIx (mVar 4) (mC (.int 3))) (mC (.int 2)))) (gSet 9)) (mIfS (mOrT (mNotT (mTest (mFz (mCall f_lrefused2 (mCons (mVar 5) (mCons (mOp fAdd (mOp fAdd (mVar 11) (mC (.int 1))) (mVar 9)) (mNil))))))) (mNotT (mTest (mFz (mCall f_lrefused2 (mCons (mVar 5) (mCons (mOp fSub (mOp fSub (mVar 10) (mC (.int 1))) (mVar 9)) (mNil)))))))) (mRet (mC (.bl false))) (mPass))))))))
def m_law8 : MS := mSeq (mAsg (mFz (mCall f_ldraws (mCons (mFz (mCall f_lcell (mCons (mVar 0) (mCons (mC (.int 0)) (mNil))))) (mCons (mC (.int 2)) (mCons (mLst (mCons (mC (.int 2)) (mCons (mC (.int 3)) (mNil)))) (mNil)))))) (gTp 2 (gsCons (gSet 2) (gsCons (gSet 3) (gsNil))))) (mSeq (mFor (mR1 (mCons (mC (.int 12)) (mNil))) (gSet 1) (b_law8_1)) (mRet (mC (.bl true))))
def f_law8 : MF := mFn 12 [] m_law8
theorem lcell_ok (ns : List Int) (k : Nat) : ∃ v : Int, f_lcell [.scr ns, .int k] = .ok (.int v, []) := by
  unfold f_lcell
  by_cases h : (k : Int) < ns.length
  · have h' : k < ns.length := by omega
    refine ⟨ns[k], mFn_ok ?_⟩
    simp [m_lcell, h', atI_ge]
  · by_cases h0 : ns.length = 0
    · have h' : ns = [] := List.length_eq_zero_iff.mp h0
      subst h'
      refine ⟨7919 * (k + 1), mFn_ok ?_⟩
      simp [m_lcell, mulOk_l]
    · have h' : ¬ k < ns.length := by omega
      have hp : (0 : Int) < ns.length := by omega
      have e := fmod_ge' (a := k) hp
      have e2 := fmod_lt' (a := k) hp
      have h2 : ((k : Int).fmod ns.length).toNat < ns.length := by omega
      have h3 : ¬ ns = [] := by intro h; subst h; exact h0 rfl
      have h4 : ¬ ((ns.length : Int) = 0) := by omega
      refine ⟨ns[((k : Int).fmod ns.length).toNat] + 104729 * k, mFn_ok ?_⟩
      simp [m_lcell, h', h3, h4, atI_ge e, h2, mulOk_l]
theorem lmixed_ok (a b c : Int) : ∃ v : Int, f_lmixed [.int a, .int b, .int c] = .ok (.int v, []) := by
  unfold f_lmixed
  have e := fmod_ge' (a := b) (b := 8) (by decide)
  have e2 := fmod_lt' (a := b) (b := 8) (by decide)
  generalize hi : b.fmod 8 = i at e e2
  obtain ⟨p, hp, hp1, hp2⟩ : ∃ p : Int, atI [MV.int 2147483629, .int 2147483587, .int 2147483579, .int 2147483563, .int 2147483549, .int 2147483543, .int 2147483497, .int 2147483489] i = some (.int p) ∧ 0 < p ∧ p < 2147483648 := by
    obtain ⟨j, rfl⟩ := Int.eq_ofNat_of_zero_le e
    match j, e2 with
    | 0, _ => exact ⟨_, rfl, by decide, by decide⟩
    | 1, _ => exact ⟨_, rfl, by decide, by decide⟩
    | 2, _ => exact ⟨_, rfl, by decide, by decide⟩
    | 3, _ => exact ⟨_, rfl, by decide, by decide⟩
    | 4, _ => exact ⟨_, rfl, by decide, by decide⟩
    | 5, _ => exact ⟨_, rfl, by decide, by decide⟩
    | 6, _ => exact ⟨_, rfl, by decide, by decide⟩
    | 7, _ => exact ⟨_, rfl, by decide, by decide⟩
    | j + 8, h => exact absurd h (by omega)
  have b1 : ∀ x : Int, 0 ≤ x.fmod 2147483647 ∧ x.fmod 2147483647 < 2147483647 := fun x => ⟨fmod_ge' (by decide), fmod_lt' (by decide)⟩
  have b2 : ∀ x : Int, (x.fmod 2147483647).natAbs < 18446744073709551616 := fun x => by have := b1 x; omega
  have b3 : ∀ x : Int, mulOk (x.fmod 2147483647) 1000000007 = true := fun x => mulOk_r (by decide) (by decide)
  have h : ∃ v ρ, m_lmixed [some (.int a), some (.int b), some (.int c), none, none, none] = .ok (.rt (.int v), ρ) := by
    simp [m_lmixed, szOk_small, mulOk_l, hi, hp, hp1, Int.ne_of_gt hp1, b2, b3]
  obtain ⟨v, ρ, h⟩ := h
  exact ⟨v, mFn_ok ⟨ρ, h⟩⟩
def DrawsAre (ws ds : List Int) : Prop := ds.length = ws.length ∧ ∀ i (h : i < ws.length) (h' : i < ds.length), 0 ≤ ds[i] ∧ ds[i] < ws[i]
theorem ldraws_ok (cell salt : Int) (ws : List Int) (hn : ws.length < 1000) (hw : ∀ w ∈ ws, 0 < w ∧ divOk w = true) : ∃ ds : List Int, DrawsAre ws ds ∧ f_ldraws [.int cell, .int salt, .lst (ws.map .int)] = .ok (.own (ds.map .int), []) := by
  have key : ∀ l0 : Int, ∃ ρ', mLoop (gSet 5) b_ldraws_0 (rngM 0 1 ws.length) [some (.int cell), some (.int salt), some (.lst (ws.map .int)), some (.own []), some (.int l0), none] = .ok (.nx, ρ') ∧ ∃ ds l v, DrawsAre (ws.take ws.length) ds ∧ ρ' = [some (.int cell), some (.int salt), some (.lst (ws.map .int)), some (.own (ds.map .int)), some (.int l), v] := by
    intro l0
    refine loop_rng (fun i ρ => ∃ ds l v, DrawsAre (ws.take i) ds ∧ ρ = [some (.int cell), some (.int salt), some (.lst (ws.map .int)), some (.own (ds.map .int)), some (.int l), v]) ⟨[], l0, none, ⟨by simp, by simp⟩, rfl⟩ ?_
    rintro i ρ hi ⟨ds, l, v, ⟨hd1, hd2⟩, rfl⟩
    have hwi := hw ws[i] (List.getElem_mem hi)
    have hl : ds.length = i := by rw [hd1, List.length_take]; omega
    have ix : atI (ws.map MV.int) (i : Int) = some (.int ws[i]) := by rw [atI_ge (by omega)]; simp [hi]
    have ds' : ∀ d : Int, DrawsAre (ws.take (i + 1)) (ds ++ [d.fmod ws[i]]) := by
      intro d
      refine ⟨by simp [hl, List.length_take]; omega, fun j h h' => ?_⟩
      have hj : j ≤ i := by rw [List.length_take] at h; omega
      rw [List.getElem_take]
      by_cases e : j = i
      · subst e
        rw [List.getElem_append_right (by omega)]
        simp [hl]
        exact ⟨fmod_ge' hwi.1, fmod_lt' hwi.1⟩
      · have := hd2 j (by rw [List.length_take]; omega) (by omega)
        rw [List.getElem_append_left (by omega)]
        rw [List.getElem_take] at this
        exact this
    have hsz : ds.length < sizeLine := by rw [sizeLine_eq]; omega
    by_cases hp : 0 < l
    · refine ⟨[some (.int cell), some (.int salt), some (.lst (ws.map .int)), some (.own (ds.map .int)), some (.int l), some (.int i)], [some (.int cell), some (.int salt), some (.lst (ws.map .int)), some (.own ((ds ++ [l.fmod ws[i]]).map .int)), some (.int (l.fdiv ws[i])), some (.int i)], ?_, .inl ?_, ⟨_, _, _, ds' l, rfl⟩⟩
      · simp
      · simp [b_ldraws_0, hp, isOwn, ix, Int.ne_of_gt hwi.1, hsz, hwi.2]
    · obtain ⟨m, hm⟩ := lmixed_ok cell i salt
      refine ⟨[some (.int cell), some (.int salt), some (.lst (ws.map .int)), some (.own (ds.map .int)), some (.int l), some (.int i)], [some (.int cell), some (.int salt), some (.lst (ws.map .int)), some (.own ((ds ++ [m.fmod ws[i]]).map .int)), some (.int l), some (.int i)], ?_, .inl ?_, ⟨_, _, _, ds' m, rfl⟩⟩
      · simp
      · simp [b_ldraws_0, hp, isOwn, ix, hm, Int.ne_of_gt hwi.1, hsz]
  have e0 : inR (ws.length : Int) = true := inR_of (by omega) (by omega)
  unfold f_ldraws
  by_cases hc : (1000000000000000000 : Int) ≤ (if cell < 0 then -cell else cell)
  · obtain ⟨ρ', h, ds, l, v, hd, rfl⟩ := key (if cell < 0 then -cell else cell)
    refine ⟨ds, by simpa using hd, mFn_ok ?_⟩
    · simp [m_ldraws, szOk_small, hc, e0, h]
  · obtain ⟨ρ', h, ds, l, v, hd, rfl⟩ := key 0
    refine ⟨ds, by simpa using hd, mFn_ok ?_⟩
    · simp [m_ldraws, szOk_small, hc, e0, h]
theorem draws_nil {ds : List Int} : DrawsAre [] ds ↔ ds = [] := by
  constructor
  · intro h; exact List.length_eq_zero_iff.mp h.1
  · rintro rfl; exact ⟨rfl, by simp⟩
theorem draws_cons {w : Int} {ws ds : List Int} : DrawsAre (w :: ws) ds ↔ ∃ d r, ds = d :: r ∧ (0 ≤ d ∧ d < w) ∧ DrawsAre ws r := by
  constructor
  · intro h
    match ds, h with
    | [], h => exact absurd h.1 (by simp)
    | d :: r, h =>
      refine ⟨d, r, rfl, h.2 0 (by simp) (by simp), by simpa using h.1, fun i h1 h2 => ?_⟩
      exact h.2 (i + 1) (by simpa using h1) (by simpa using h2)
  · rintro ⟨d, r, rfl, h1, h2⟩
    refine ⟨by simpa using h2.1, fun i a b => ?_⟩
    match i with
    | 0 => exact h1
    | i + 1 => exact h2.2 i (by simpa using a) (by simpa using b)
theorem divOk_small {w : Int} (h : 0 < w) (h2 : w < 2 ^ 29) : divOk w = true := by
  unfold divOk
  have : w.natAbs < 1073741824 := by omega
  simp [this]; omega
theorem all_pos {ws : List Int} (h : ws.all (fun w => decide (0 < w) && divOk w) = true) : ∀ w ∈ ws, 0 < w ∧ divOk w = true := fun w hw => by
  have := List.all_eq_true.mp h w hw
  simpa using this
theorem ppower_eq {b : Int} {k : Int} (hb : -(2 ^ 64) < b ∧ b < 2 ^ 64) (hk : k < 2 ^ 40) (hk0 : -(2 ^ 40) < k) : f_ppower [.int b, .int k] = .ok (.int (b ^ k.toNat), []) := by
  obtain ⟨ρ', e, h⟩ := loop_rng (g := gSet 3) (b := b_ppower_0) (lo := 0) (c := 1) (n := k.toNat) (ρ := [some (.int b), some (.int k), some (.int 1), none])
    (fun i ρ => ∃ v, ρ = [some (.int b), some (.int k), some (.int (b ^ i)), v]) ⟨none, by simp⟩ (by
      rintro i ρ hi ⟨v, rfl⟩
      simp [mulOk_r hb.1 hb.2, Int.pow_succ, b_ppower_0])
  obtain ⟨v, rfl⟩ := h
  refine mFn_ok ?_
  simp [m_ppower, inR_of (i := k) (by omega) (by omega), e]
theorem pten_eq {k : Int} (hk : k < 2 ^ 40) (hk0 : -(2 ^ 40) < k) : f_ppower [.int 10, .int k] = .ok (.int (10 ^ k.toNat), []) := ppower_eq (by decide) hk hk0
theorem lpower_eq {b : Int} {k : Int} (hb : -(2 ^ 64) < b ∧ b < 2 ^ 64) (hk : k < 2 ^ 40) (hk0 : -(2 ^ 40) < k) : f_lpower [.int b, .int k] = .ok (.int (b ^ k.toNat), []) := by
  obtain ⟨ρ', e, h⟩ := loop_rng (g := gSet 3) (b := b_lpower_0) (lo := 0) (c := 1) (n := k.toNat) (ρ := [some (.int b), some (.int k), some (.int 1), none])
    (fun i ρ => ∃ v, ρ = [some (.int b), some (.int k), some (.int (b ^ i)), v]) ⟨none, by simp⟩ (by
      rintro i ρ hi ⟨v, rfl⟩
      simp [mulOk_r hb.1 hb.2, Int.pow_succ, b_lpower_0])
  obtain ⟨v, rfl⟩ := h
  refine mFn_ok ?_
  simp [m_lpower, inR_of (i := k) (by omega) (by omega), e]
theorem lten_eq {k : Int} (hk : k < 2 ^ 40) (hk0 : -(2 ^ 40) < k) : f_lpower [.int 10, .int k] = .ok (.int (10 ^ k.toNat), []) := lpower_eq (by decide) hk hk0
theorem lwhole_int (i : Int) : f_lwhole [.int i] = .ok (.bl true, []) := by
  refine mFn_ok ?_
  simp [m_lwhole, bIsi, MV.kd, kdOf, Kd.isa]
theorem pfigures_of_eq (n k : Nat) (hk : k < 1000000) : f_pfigures_of [.int n, .int k] = .ok (.lst ((digsB k n).map fun d : Nat => MV.int d), []) := by
  refine mFn_ok ?_
  obtain ⟨ρ', e, v, rfl⟩ := loop_nxr (g := gSet 3) (b := b_pfigures_of_0) (lo := 0) (c := 1) (n := k) (ρ := [some (.int n), some (.int k), some (.own []), none])
    (fun i ρ => ∃ v, ρ = [some (.int (n / 10 ^ i : Nat)), some (.int k), some (.own ((digs i n).map fun d : Nat => MV.int d)), v]) ⟨none, by simp [digs]⟩ (by
      rintro i ρ hi ⟨v, rfl⟩
      have hz : (digs i n).length < sizeLine := by rw [sizeLine_eq, digs_len]; omega
      have h1 : ((n / 10 ^ i : Nat) : Int).fmod 10 = ((n / 10 ^ i % 10 : Nat) : Int) := nat_fmod _ 10
      have h2 : ((n / 10 ^ i : Nat) : Int).fdiv 10 = ((n / 10 ^ (i + 1) : Nat) : Int) := by rw [Nat.pow_succ, ← Nat.div_div_eq_div_mul]; exact nat_fdiv _ 10
      generalize hq : n / 10 ^ i = q at h1 h2
      generalize hq2 : n / 10 ^ (i + 1) = q2 at h2
      have h3 : digs (i + 1) n = digs i n ++ [q % 10] := by rw [digs_append, hq]
      simp [b_pfigures_of_0, hz, divOk, h1, h2, h3])
  simp [m_pfigures_of, szOk_small, inR_of (i := (k : Int)) (by omega) (by omega), e, digsB]
def Form (kd : Str) (n : Nat) (sg : Str) (p : MV) : MV := .tup [.str kd, .int n, .str sg, p]
def least (n : Nat) (sg : Str) : Int := if sg = "none" then 0 else if sg = "end" then 1 - 10 ^ n else -5 * 10 ^ (n - 1)
def most (n : Nat) (sg : Str) : Int := if sg = "tens" then 5 * 10 ^ (n - 1) - 1 else 10 ^ n - 1
theorem sg_ne1 : ¬ (("end" : Str) = "none") := by decide
theorem sg_ne2 : ¬ (("tens" : Str) = "none") := by decide
theorem sg_ne3 : ¬ (("tens" : Str) = "end") := by decide
theorem sg_ne4 : ¬ (("none" : Str) = "tens") := by decide
theorem sg_ne5 : ¬ (("end" : Str) = "tens") := by decide
theorem sg_ne6 : ¬ (("none" : Str) = "end") := by decide
section
variable {kd sg : Str} {n : Nat} {p : MV}
theorem at1 {a b c d : MV} : atI [a, b, c, d] 1 = some b := rfl
theorem at2 {a b c d : MV} : atI [a, b, c, d] 2 = some c := rfl
theorem pleast_eq (hn : 1 ≤ n) (h : n < 100) : f_pleast_of [Form kd n sg p] = .ok (.int (least n sg), []) := by
  refine mFn_ok ?_
  by_cases h1 : sg = "none"
  · simp [m_pleast_of, Form, at2, h1, least]
  · by_cases h2 : sg = "end"
    · simp [m_pleast_of, Form, at2, at1, h2, least, sg_ne1, pten_eq (k := n) (by omega) (by omega)]
    · have e : ((n : Int) - 1).toNat = n - 1 := by omega
      simp [m_pleast_of, Form, at2, at1, h1, h2, least, pten_eq (k := (n : Int) - 1) (by omega) (by omega), e, mulOk_l]
theorem pmost_eq (hn : 1 ≤ n) (h : n < 100) : f_pmost_of [Form kd n sg p] = .ok (.int (most n sg), []) := by
  refine mFn_ok ?_
  by_cases h2 : sg = "tens"
  · have e : ((n : Int) - 1).toNat = n - 1 := by omega
    simp [m_pmost_of, Form, at2, at1, h2, most, pten_eq (k := (n : Int) - 1) (by omega) (by omega), e, mulOk_l]
  · simp [m_pmost_of, Form, at2, at1, h2, most, pten_eq (k := n) (by omega) (by omega)]
theorem ten_half (hn : 1 ≤ n) : ((10 : Int) ^ n).fdiv 2 = 5 * 10 ^ (n - 1) := by
  obtain ⟨k, rfl⟩ : ∃ k, n = k + 1 := ⟨n - 1, by omega⟩
  rw [Int.pow_succ, Nat.add_sub_cancel, show (10 : Int) ^ k * 10 = 2 * (5 * 10 ^ k) by omega, Int.mul_fdiv_cancel_left _ (by decide)]
theorem ten_pos (n : Nat) : (0 : Int) < 10 ^ n := Int.pow_pos (by decide)
theorem lends_eq (hn : 1 ≤ n) (h : n < 100) (hs : sg = "none" ∨ sg = "end" ∨ sg = "tens") : f_lends [Form kd n sg p] = .ok (.tup [.int (least n sg), .int (most n sg)], []) := by
  refine mFn_ok ?_
  rcases hs with rfl | rfl | rfl
  · simp [m_lends, Form, at2, at1, least, most, sg_ne4, lten_eq (k := n) (by omega) (by omega), szOk_small]
  · simp [m_lends, Form, at2, at1, least, most, sg_ne1, sg_ne5, lten_eq (k := n) (by omega) (by omega), szOk_small]
  · simp [m_lends, Form, at2, at1, least, most, sg_ne2, sg_ne3, lten_eq (k := n) (by omega) (by omega), szOk_small, ten_half hn, divOk]
    omega
end
theorem draws_two {ds : List Int} {a b : Int} (h : DrawsAre [a, b] ds) : ∃ x y, ds = [x, y] ∧ 0 ≤ x ∧ x < a ∧ 0 ≤ y ∧ y < b := by
  obtain ⟨h1, h2⟩ := h
  match ds, h1 with
  | [x, y], _ => exact ⟨x, y, rfl, (h2 0 (by simp) (by simp)).1, (h2 0 (by simp) (by simp)).2, (h2 1 (by simp) (by simp)).1, (h2 1 (by simp) (by simp)).2⟩
def pairUp : List Nat → List Nat
  | a :: b :: r => (16 * a + b) :: pairUp r
  | _ => []
theorem pairUp_len : ∀ (q : Nat) (h : List Nat), h.length = 2 * q → (pairUp h).length = q
  | 0, h, e => by
    have : h = [] := List.length_eq_zero_iff.mp (by omega)
    subst this; rfl
  | q + 1, [], e => by simp at e
  | q + 1, [a], e => by simp at e; omega
  | q + 1, a :: b :: r, e => by
    show (pairUp r).length + 1 = q + 1
    rw [pairUp_len q r (by simp at e; omega)]
theorem pairUp_get : ∀ (q : Nat) (h : List Nat), h.length = 2 * q → pairUp h = (List.range q).map fun i => 16 * h.getD (2 * i) 0 + h.getD (2 * i + 1) 0
  | 0, h, e => by
    have : h = [] := List.length_eq_zero_iff.mp (by omega)
    subst this; rfl
  | q + 1, [], e => by simp at e
  | q + 1, [a], e => by simp at e; omega
  | q + 1, a :: b :: r, e => by
    rw [List.range_succ_eq_map, List.map_cons, List.map_map]
    show _ :: pairUp r = _
    rw [pairUp_get q r (by simp at e; omega)]
    congr 1
theorem rg_two (q : Nat) (hq : q < 1000000) : rgOk 0 (2 * q : Nat) 2 = true ∧ (Builtin.Range.rangeSize 0 (2 * q : Nat) 2).toNat = q := by
  have e : Builtin.Range.rangeSize 0 (2 * q : Nat) 2 = q := by
    unfold Builtin.Range.rangeSize
    rw [if_pos (by decide)]
    split <;> omega
  refine ⟨?_, by rw [e]; rfl⟩
  unfold rgOk
  rw [e]
  have e1 : Builtin.Range.small 0 (2 * q : Nat) 2 = true := by
    unfold Builtin.Range.small
    rw [e]
    simp [Builtin.Range.rangeFitsLong]
    omega
  rw [e1]
  simp
theorem pairs_comp {ρ : Env} {s v : Nat} {h : List Nat} {q : Nat} {a : MA} (hq : q < 1000000) (hl : h.length = 2 * q) (ha : (mR3 a) ρ = .ok (rngM 0 2 q, ρ)) (hs : ρ[s]? = some (some (.lst (h.map fun d : Nat => MV.int d)))) (hv : ρ[v]? = some none) (hsv : s ≠ v) :
    mLcO (mR3 a) (.nm v) (mYes) (mOp fAdd (mOp fMul (mC (.int 16)) (mOp fIx (mVar s) (mVar v))) (mOp fIx (mVar s) (mOp fAdd (mVar v) (mC (.int 1))))) [v] ρ = .ok (.own ((pairUp h).map fun d : Nat => MV.int d), ρ) := by
  rw [pairUp_get q h hl]
  have e : ((List.range q).map fun i => 16 * h.getD (2 * i) 0 + h.getD (2 * i + 1) 0).map (fun d : Nat => MV.int d) = (rngM 0 2 q).map fun x => match x with | .int k => MV.int ((16 * h.getD k.toNat 0 + h.getD (k.toNat + 1) 0 : Nat) : Int) | _ => .non := by
    unfold rngM
    rw [List.map_map, List.map_map]
    refine List.map_congr_left fun i _ => ?_
    show MV.int _ = MV.int _
    have z : (0 + (i : Int) * 2).toNat = 2 * i := by omega
    rw [z]
  rw [e]
  have lv : v < ρ.length := by
    by_cases z : v < ρ.length
    · exact z
    · rw [List.getElem?_eq_none (by omega)] at hv; cases hv
  refine mLcO_map _ ha (by simp [perAt, hv]) ?_ (by rw [rngM_len, sizeLine_eq]; omega)
  intro x hx
  obtain ⟨i, hi, rfl⟩ : ∃ i, i < q ∧ MV.int (0 + (i : Int) * 2) = x := by simpa [rngM] using hx
  have w : wipeM ρ [v] = ρ := by
    show ρ.set v none = ρ
    apply List.ext_getElem?
    intro j
    by_cases e : v = j
    · subst e; rw [List.getElem?_set_self lv, hv]
    · rw [List.getElem?_set_ne e]
  rw [w]
  refine ⟨ρ.set v (some (.int (0 + (i : Int) * 2))), by simp [setT, lv], ?_, ?_, by simp⟩
  · generalize hk : (0 + (i : Int) * 2) = k
    have g1 : (ρ.set v (some (MV.int k)))[s]? = some (some (.lst (h.map fun d : Nat => MV.int d))) := by rw [List.getElem?_set_ne (Ne.symm hsv)]; exact hs
    have g2 : (ρ.set v (some (MV.int k)))[v]? = some (some (MV.int k)) := List.getElem?_set_self lv
    generalize ρ.set v (some (MV.int k)) = ρ1 at g1 g2
    have z : k.toNat = 2 * i := by omega
    have a1 : atI (h.map fun d : Nat => MV.int d) k = some (.int (h.getD (2 * i) 0)) := by
      rw [atI_ge (by omega), z]
      simp [show 2 * i < h.length by omega]
    have a2 : atI (h.map fun d : Nat => MV.int d) (k + 1) = some (.int (h.getD (2 * i + 1) 0)) := by
      rw [atI_ge (by omega), show (k + 1).toNat = 2 * i + 1 by omega]
      simp [show 2 * i + 1 < h.length by omega]
    show _ = Res.ok (MV.int ((16 * h.getD k.toNat 0 + h.getD (k.toNat + 1) 0 : Nat) : Int), ρ1)
    rw [z]
    generalize h.getD (2 * i) 0 = p1 at *
    generalize h.getD (2 * i + 1) 0 = p2 at *
    cases ρ1 with
    | nil => simp at g1
    | cons r ρ1 => simp [g1, g2, a1, a2, mulOk_l]
  · show (ρ.set v _).set v none = ρ
    rw [List.set_set]
    exact w
def sizeM (n : Nat) (sg : Str) (x : Int) : Nat := if sg = "tens" then (x.fmod (10 ^ n)).natAbs else x.natAbs
def halfM (x : Int) : Nat := if x < 0 then 13 else 12
def inter (zs fs : List Nat) : List Nat := (List.zipWith (fun z f => [z, f]) zs fs).flatten
def zonesM (n : Nat) (sg : Str) (x : Int) : List Nat := if sg = "end" then (List.replicate n 15).set (n - 1) (halfM x) else List.replicate n 15
def manyM (n : Nat) (sg : Str) : Nat := n + if sg = "end" then 1 else 0
def packM (n : Nat) (sg : Str) (x : Int) : List Nat := List.replicate (manyM n sg % 2) 0 ++ digsB n (sizeM n sg x) ++ if sg = "end" then [halfM x] else []
def rowM (kd sg : Str) (n : Nat) (x : Int) : List Nat := if kd = "packed" then pairUp (packM n sg x) else List.zipWith (fun z f => 16 * z + f) (zonesM n sg x) (digsB n (sizeM n sg x))
theorem inter_len : ∀ (zs fs : List Nat), zs.length = fs.length → (inter zs fs).length = 2 * fs.length
  | [], [], _ => rfl
  | z :: zs, f :: fs, h => by
    show ([z, f] ++ inter zs fs).length = _
    rw [List.length_append, inter_len zs fs (by simpa using h)]
    simp; omega
  | [], _ :: _, h => by simp at h
  | _ :: _, [], h => by simp at h
theorem inter_pair : ∀ (zs fs : List Nat), zs.length = fs.length → pairUp (inter zs fs) = List.zipWith (fun z f => 16 * z + f) zs fs
  | [], [], _ => rfl
  | z :: zs, f :: fs, h => by
    show (16 * z + f) :: pairUp (inter zs fs) = _
    rw [inter_pair zs fs (by simpa using h)]
    rfl
  | [], _ :: _, h => by simp at h
  | _ :: _, [], h => by simp at h
theorem inter_set : ∀ (zs fs : List Nat) (k v : Nat), zs.length = fs.length → k < zs.length → (inter zs fs).set (2 * k) v = inter (zs.set k v) fs
  | [], [], k, v, _, hk => by simp at hk
  | z :: zs, f :: fs, 0, v, _, _ => rfl
  | z :: zs, f :: fs, k + 1, v, h, hk => by
    show (z :: f :: inter zs fs).set (2 * (k + 1)) v = z :: f :: inter (zs.set k v) fs
    rw [show 2 * (k + 1) = 2 * k + 1 + 1 by omega, List.set_cons_succ, List.set_cons_succ, inter_set zs fs k v (by simpa using h) (by simpa using hk)]
  | [], _ :: _, _, _, h, _ => by simp at h
  | _ :: _, [], _, _, h, _ => by simp at h
theorem inter_15 : ∀ fs : List Nat, inter (List.replicate fs.length 15) fs = (fs.map fun f => [15, f]).flatten
  | [] => rfl
  | f :: fs => by
    show 15 :: f :: inter (List.replicate fs.length 15) fs = _
    rw [inter_15 fs]; rfl
theorem many_even (m : Nat) : m % 2 + m = 2 * ((m + 1) / 2) := by omega
theorem pack_len (n : Nat) (sg : Str) (x : Int) : (packM n sg x).length = 2 * ((manyM n sg + 1) / 2) := by
  rw [← many_even]
  unfold packM
  by_cases h : sg = "end"
  · simp [h, manyM, digsB_len]
  · simp [h, manyM, digsB_len]
theorem zones_len (n : Nat) (sg : Str) (x : Int) : (zonesM n sg x).length = n := by
  unfold zonesM; split <;> simp
theorem psign_half_eq (x : Int) : f_psign_half [.int x] = .ok (.int (halfM x), []) := by
  refine mFn_ok ?_
  by_cases h : x < 0
  · simp [m_psign_half, halfM, h]
  · simp [m_psign_half, halfM, h]
section
variable {kd sg : Str} {n : Nat} {p : MV}
theorem phalves_of_eq : f_phalves_of [Form kd n sg p] = .ok (.tup [.int (manyM n sg + manyM n sg % 2 : Nat), .int (manyM n sg % 2 : Nat)], []) := by
  refine mFn_ok ?_
  have e : ((manyM n sg : Nat) : Int).fmod 2 = (manyM n sg % 2 : Nat) := nat_fmod _ 2
  unfold Form
  by_cases h : sg = "end"
  · have z : (n : Int) + 1 = (manyM n sg : Nat) := by simp [manyM, h]
    subst h
    simp [m_phalves_of, z, e, szOk_small]
  · have z : (n : Int) + 0 = (manyM n sg : Nat) := by simp [manyM, h]
    have z' : (n : Int) = (manyM n sg : Nat) := by simp [manyM, h]
    simp [m_phalves_of, h, szOk_small]
    rw [z', e]
    simp
theorem abs_nat (x : Int) : (if x < 0 then -x else x) = (x.natAbs : Int) := by split <;> omega
theorem pk_loop (fs : List Nat) (hf : fs.length < 1000) (a b c d e : Option MV) : ∃ d', mLoop (gSet 4) b_pkept_halves_0 (fs.map fun d : Nat => MV.int d) [a, b, c, some (.own []), d, e] = .ok (.nx, [a, b, c, some (.own (((fs.map fun f => [15, f]).flatten).map fun d : Nat => MV.int d)), d', e]) := by
  obtain ⟨⟨z', h⟩, _⟩ := loop_junk (σ := List Nat) (β := Option MV) (g := gSet 4) (b := b_pkept_halves_0) (fun s z => [a, b, c, some (.own (s.map fun d : Nat => MV.int d)), z, e]) (fun d : Nat => MV.int d) (fun s f => s ++ [15, f]) (fun k s => s.length = 2 * k) fs [] d rfl (by
    intro i s z x hx hi hlt
    have hz : s.length + 2 ≤ sizeLine := by rw [sizeLine_eq]; omega
    refine ⟨by simp [hi]; omega, _, by simp; rfl, some (.int x), ?_⟩
    have hz' := szOk_iff.mpr hz
    simp [b_pkept_halves_0, lmExtend, szOk_small, hz, hz', isOwn])
  have e1 : ∀ (l : List Nat) (acc : List Nat), l.foldl (fun s f => s ++ [15, f]) acc = acc ++ (l.map fun f => [15, f]).flatten := by
    intro l
    induction l with
    | nil => intro acc; simp
    | cons x l ih => intro acc; rw [List.foldl_cons, ih]; simp
  rw [e1, List.nil_append] at h
  exact ⟨z', h⟩
end
section
variable {kd sg : Str} {n : Nat} {p : MV}
theorem tens_ne_end : ¬ (("tens" : Str) = "end") := by decide
theorem fig_of (x : Int) (hn : n < 100) : f_pfigures_of [.int (x.natAbs : Int), .int n] = .ok (.lst ((digsB n x.natAbs).map fun d : Nat => MV.int d), []) := pfigures_of_eq x.natAbs n (by omega)
theorem pkept_halves_packed (h1 : 1 ≤ n ∧ n < 100) (x : Int) : f_pkept_halves [Form "packed" n sg p, .int x] = .ok (.lst ((packM n sg x).map fun d : Nat => MV.int d), []) := by
  refine mFn_ok ?_
  have t1 := pten_eq (k := (n : Int)) (by omega) (by omega)
  simp at t1
  have ho := @phalves_of_eq "packed" sg n p
  have hm : manyM n sg % 2 < 2 := Nat.mod_lt _ (by decide)
  have hp := ten_pos n
  have hpz : ¬ ((10 : Int) ^ n = 0) := by omega
  unfold Form at ho
  simp at ho
  have r0 := @fMul_1 (.int 0) (manyM n sg % 2) (by omega)
  simp at r0
  have s1 : szOk (manyM n sg % 2 + n) = true := szOk_small (by omega)
  have s2 : szOk (manyM n sg % 2 + n + 1) = true := szOk_small (by omega)
  by_cases hs : sg = "tens"
  · subst hs
    have a1 := abs_nat (x.fmod (10 ^ n))
    have f1 := fig_of (n := n) (x.fmod (10 ^ n)) h1.2
    have q1 := psign_half_eq (x.fmod (10 ^ n))
    simp [m_pkept_halves, Form, t1, hpz, a1, f1, q1, ho, tens_ne_end, szOk_small, r0, s1, digsB_len, packM, sizeM]
  · have a1 := abs_nat x
    have f1 := fig_of (n := n) x h1.2
    have q1 := psign_half_eq x
    by_cases he : sg = "end"
    · subst he
      simp [m_pkept_halves, Form, hs, a1, f1, q1, ho, szOk_small, r0, s1, s2, digsB_len, packM, sizeM]
    · simp [m_pkept_halves, Form, hs, he, a1, f1, q1, ho, szOk_small, r0, s1, digsB_len, packM, sizeM]
end
section
variable {kd sg : Str} {n : Nat} {p : MV}
theorem spread_ne : ¬ (("spread" : Str) = "packed") := by decide
theorem ixN_neg2 {k : Nat} (h : 1 ≤ k) : ixN (2 * k) (-2) = some (2 * (k - 1)) := by
  unfold ixN
  rw [if_neg (by decide), if_pos (by omega)]
  congr 1
  omega
theorem map_set {α β : Type} (f : α → β) (l : List α) (k : Nat) (v : α) : (l.set k v).map f = (l.map f).set k (f v) := List.map_set ..
theorem pkept_halves_spread (h1 : 1 ≤ n ∧ n < 100) (x : Int) : f_pkept_halves [Form "spread" n sg p, .int x] = .ok (.own ((inter (zonesM n sg x) (digsB n (sizeM n sg x))).map fun d : Nat => MV.int d), []) := by
  refine mFn_ok ?_
  have t1 := pten_eq (k := (n : Int)) (by omega) (by omega)
  simp at t1
  have hp := ten_pos n
  have hpz : ¬ ((10 : Int) ^ n = 0) := by omega
  have lp : ∀ m : Nat, ∀ a b c d e : Option MV, ∃ d', mLoop (gSet 4) b_pkept_halves_0 ((digsB n m).map fun d : Nat => MV.int d) [a, b, c, some (.own []), d, e] = .ok (.nx, [a, b, c, some (.own ((inter (List.replicate n 15) (digsB n m)).map fun d : Nat => MV.int d)), d', e]) := by
    intro m a b c d e
    have := pk_loop (digsB n m) (by rw [digsB_len]; omega) a b c d e
    rw [← inter_15, digsB_len] at this
    exact this
  have il : ∀ m : Nat, (inter (List.replicate n 15) (digsB n m)).length = 2 * n := fun m => by rw [inter_len _ _ (by simp [digsB_len]), digsB_len]
  by_cases hs : sg = "tens"
  · subst hs
    have a1 := abs_nat (x.fmod (10 ^ n))
    have f1 := fig_of (n := n) (x.fmod (10 ^ n)) h1.2
    obtain ⟨d', l1⟩ := lp (x.fmod (10 ^ n)).natAbs (some (Form "spread" n "tens" p)) (some (.int (x.fmod (10 ^ n)))) (some (.lst ((digsB n (x.fmod (10 ^ n)).natAbs).map fun d : Nat => MV.int d))) none none
    unfold Form at l1
    simp [m_pkept_halves, Form, t1, hpz, a1, f1, tens_ne_end, szOk_small, spread_ne, l1, zonesM, sizeM]
  · have a1 := abs_nat x
    have f1 := fig_of (n := n) x h1.2
    have q1 := psign_half_eq x
    obtain ⟨d', l1⟩ := lp x.natAbs (some (Form "spread" n sg p)) (some (.int x)) (some (.lst ((digsB n x.natAbs).map fun d : Nat => MV.int d))) none none
    unfold Form at l1
    by_cases he : sg = "end"
    · subst he
      have z1 := ixN_neg2 h1.1
      have z2 := inter_set (List.replicate n 15) (digsB n x.natAbs) (n - 1) (halfM x) (by simp [digsB_len]) (by simp; omega)
      have z3 : ∀ ρ : Env, ρ[3]? = some (some (.own ((inter (List.replicate n 15) (digsB n x.natAbs)).map fun d : Nat => MV.int d))) → setIxM 3 (.int (halfM x : Nat)) (.int (-2)) ρ = .ok (.nx, ρ.set 3 (some (.own ((inter ((List.replicate n 15).set (n - 1) (halfM x)) (digsB n x.natAbs)).map fun d : Nat => MV.int d)))) := fun ρ h => by
        rw [setIxM_o h (j := 2 * (n - 1)) (by rw [List.length_map, il]; exact z1), ← z2, map_set]
      simp [m_pkept_halves, Form, hs, a1, f1, q1, szOk_small, spread_ne, l1, zonesM, sizeM, z3]
    · simp [m_pkept_halves, Form, hs, he, a1, f1, szOk_small, spread_ne, l1, zonesM, sizeM]
theorem pfits_eq (h1 : 1 ≤ n ∧ n < 100) (x : Int) : f_pfits [Form kd n sg p, .int x] = .ok (.bl (decide (least n sg ≤ x) && decide (x ≤ most n sg)), []) := by
  refine mFn_ok ?_
  have a := @pleast_eq kd sg n p h1.1 h1.2
  have b := @pmost_eq kd sg n p h1.1 h1.2
  unfold Form at a b
  by_cases c : least n sg ≤ x
  · simp [m_pfits, Form, a, b, c]
  · simp [m_pfits, Form, a, b, c]
end
section
variable {kd sg : Str} {n : Nat} {p : MV}
def halvesM (kd sg : Str) (n : Nat) (x : Int) : List Nat := if kd = "packed" then packM n sg x else inter (zonesM n sg x) (digsB n (sizeM n sg x))
def roomM (kd sg : Str) (n : Nat) : Nat := if kd = "packed" then (manyM n sg + 1) / 2 else n
theorem halves_len (x : Int) : (halvesM kd sg n x).length = 2 * roomM kd sg n := by
  unfold halvesM roomM
  split
  · exact pack_len n sg x
  · rw [inter_len _ _ (by rw [zones_len, digsB_len]), digsB_len]
theorem row_pair (x : Int) : pairUp (halvesM kd sg n x) = rowM kd sg n x := by
  unfold halvesM rowM
  split
  · rfl
  · rw [inter_pair _ _ (by rw [zones_len, digsB_len])]
theorem row_len (x : Int) : (rowM kd sg n x).length = roomM kd sg n := by rw [← row_pair, pairUp_len _ _ (halves_len x)]
theorem room_small (h : n < 100) : roomM kd sg n < 1000 := by
  unfold roomM manyM
  split <;> (try split) <;> omega
theorem pkept_eq (hk : kd = "packed" ∨ kd = "spread") (h1 : 1 ≤ n ∧ n < 100) (x : Int) (hf : least n sg ≤ x ∧ x ≤ most n sg) : f_pkept [Form kd n sg p, .int x] = .ok (.tup ((rowM kd sg n x).map fun d : Nat => MV.int d), []) := by
  refine mFn_ok ?_
  have a := @pfits_eq kd sg n p h1 x
  have hl := @halves_len kd sg n x
  have hr := @room_small kd sg n h1.2
  have g := rg_two (roomM kd sg n) (by omega)
  have c := pairs_comp (ρ := [some (Form kd n sg p), some (.int x), some (.lst ((halvesM kd sg n x).map fun d : Nat => MV.int d)), none]) (s := 2) (v := 3) (h := halvesM kd sg n x) (q := roomM kd sg n) (a := mCons (mC (.int 0)) (mCons (mBlt bLen (mCons (mVar 2) (mNil))) (mCons (mC (.int 2)) (mNil)))) (by omega) hl (by
    have g1 := g.1
    have g2 := g.2
    simp at g1 g2
    simp [hl, g1, g2]) rfl rfl (by decide)
  rw [row_pair] at c
  have fz1 : ∃ V, fz V = some (.lst ((halvesM kd sg n x).map fun d : Nat => MV.int d)) ∧ f_pkept_halves [Form kd n sg p, .int x] = .ok (V, []) := by
    rcases hk with rfl | rfl
    · exact ⟨_, by simp [halvesM], pkept_halves_packed h1 x⟩
    · exact ⟨_, by simp [halvesM, spread_ne], pkept_halves_spread h1 x⟩
  obtain ⟨V, v1, v2⟩ := fz1
  unfold Form at a c v2
  simp [m_pkept, Form, a, hf.1, hf.2, v1, v2, c]
theorem pkept_no (h1 : 1 ≤ n ∧ n < 100) (x : Int) (hf : ¬ (least n sg ≤ x ∧ x ≤ most n sg)) : f_pkept [Form kd n sg p, .int x] = .exc ⟨"NoFit", [("number", .int x)]⟩ [] := by
  refine mFn_exc ?_
  have a := @pfits_eq kd sg n p h1 x
  unfold Form at a
  by_cases c : least n sg ≤ x
  · have d : ¬ x ≤ most n sg := fun z => hf ⟨c, z⟩
    simp [m_pkept, Form, a, c, d]
  · simp [m_pkept, Form, a, c]
end
theorem least_le {n : Nat} {sg : Str} (h : 1 ≤ n) : least n sg ≤ most n sg := by
  have hp := ten_pos n
  have hp2 := ten_pos (n - 1)
  have h10 : (10 : Int) ^ n = 10 * 10 ^ (n - 1) := by
    obtain ⟨k, rfl⟩ : ∃ k, n = k + 1 := ⟨n - 1, by omega⟩
    rw [Int.pow_succ, Nat.add_sub_cancel, Int.mul_comm]
  unfold least most
  by_cases h1 : sg = "none"
  · subst h1; simp [sg_ne4]; omega
  · by_cases h2 : sg = "end"
    · subst h2; simp [sg_ne1, sg_ne5]; omega
    · by_cases h3 : sg = "tens"
      · subst h3; simp [sg_ne2, sg_ne3]; omega
      · simp [h1, h2, h3]; omega
theorem lnumber_ok {kd sg : Str} {n : Nat} {p : MV} (h1 : 1 ≤ n ∧ n < 100) (hs : sg = "none" ∨ sg = "end" ∨ sg = "tens") (way far : Int) (hw : 0 ≤ way) : ∃ x : Int, (least n sg ≤ x ∧ x ≤ most n sg) ∧ f_lnumber [Form kd n sg p, .int way, .int far] = .ok (.int x, []) := by
  have hle := @least_le n sg h1.1
  have e1 := @lends_eq kd sg n p h1.1 h1.2 hs
  unfold Form at e1
  generalize hlo : least n sg = lo at *
  generalize hhi : most n sg = hi at *
  have q1 := fmod_ge' (a := far) (b := (n : Int)) (by omega)
  have q2 := fmod_lt' (a := far) (b := (n : Int)) (by omega)
  have l1 := lten_eq (k := far.fmod n) (by omega) (by omega)
  have hpz := ten_pos (far.fmod n).toNat
  generalize (10 : Int) ^ (far.fmod n).toNat = q at l1 hpz
  have hn0 : ¬ n = 0 := by omega
  have key : ∃ x : Int, (lo ≤ x ∧ x ≤ hi) ∧ ∃ ρ : Env, m_lnumber [some (Form kd n sg p), some (.int way), some (.int far), none, none, none, none, none] = .ok (.rt (.int x), ρ) := by
    by_cases h9 : 9 < way
    · have r1 := fmod_ge' (a := far) (b := hi - lo + 1) (by omega)
      have r2 := fmod_lt' (a := far) (b := hi - lo + 1) (by omega)
      have hz : ¬ hi - lo + 1 = 0 := by omega
      refine ⟨lo + far.fmod (hi - lo + 1), by omega, ?_⟩
      simp [m_lnumber, Form, e1, h9, hz]
    · obtain ⟨j, hj⟩ : ∃ j : Int, atI [MV.int 0, .int 1, .int hi, .int lo, .int q, .int (q - 1), .int (5 * q), .int (9 * q), .int (q + 1), .int ((far.fdiv 16).fmod (10 * q))] way = some (.int j) := by
        rcases (show way = 0 ∨ way = 1 ∨ way = 2 ∨ way = 3 ∨ way = 4 ∨ way = 5 ∨ way = 6 ∨ way = 7 ∨ way = 8 ∨ way = 9 by omega) with rfl | rfl | rfl | rfl | rfl | rfl | rfl | rfl | rfl | rfl <;> exact ⟨_, rfl⟩
      have hz : ¬ 10 * q = 0 := by omega
      have hsz : (9 : Nat) < sizeLine := by rw [sizeLine_eq]; omega
      have hd1 : divOk 16 = true := by decide
      have hd2 : divOk 13 = true := by decide
      have cl : ∀ y : Int, lo ≤ (if (if y < hi then y else hi) > lo then (if y < hi then y else hi) else lo) ∧ (if (if y < hi then y else hi) > lo then (if y < hi then y else hi) else lo) ≤ hi := fun y => by
        split <;> split <;> omega
      by_cases hc : lo < 0 ∧ (far.fdiv 13).fmod 2 = 1
      · refine ⟨_, cl (0 - j), ?_⟩
        simp [m_lnumber, Form, e1, h9, l1, hn0, szOk_small, mulOk_l, hz, hsz, hd1, hd2, hj, hc.1, hc.2, ixV, ixL]
      · refine ⟨_, cl j, ?_⟩
        by_cases hc1 : lo < 0
        · have hc2 : ¬ (far.fdiv 13).fmod 2 = 1 := fun z => hc ⟨hc1, z⟩
          simp [m_lnumber, Form, e1, h9, l1, hn0, szOk_small, mulOk_l, hz, hsz, hd1, hd2, hj, hc1, hc2, ixV, ixL]
        · simp [m_lnumber, Form, e1, h9, l1, hn0, szOk_small, mulOk_l, hz, hsz, hd1, hd2, hj, hc1, ixV, ixL]
  obtain ⟨x, hx, ρ, h⟩ := key
  exact ⟨x, hx, mFn_ok ⟨ρ, h⟩⟩
theorem lform_kd {a m s : Int} (ha : 0 ≤ a ∧ a < 2) (hm : 0 ≤ m ∧ m < 50) (hs : 0 ≤ s ∧ s < 3) : ∃ (kd sg : Str) (pt : Int), (kd = "packed" ∨ kd = "spread") ∧ (sg = "none" ∨ sg = "end" ∨ sg = "tens") ∧ f_lform [.int a, .int m, .int s] = .ok (.tup [.str kd, .int (1 + m), .str sg, .int pt], []) := by
  have h1 : ¬ (m + 2 = 0) := by omega
  obtain ⟨kd, hkd, hk⟩ : ∃ kd : Str, (kd = "packed" ∨ kd = "spread") ∧ atI [MV.str "packed", .str "spread"] a = some (.str kd) := by
    rcases (show a = 0 ∨ a = 1 by omega) with rfl | rfl
    · exact ⟨_, .inl rfl, rfl⟩
    · exact ⟨_, .inr rfl, rfl⟩
  obtain ⟨sg, hsg, hg⟩ : ∃ sg : Str, (sg = "none" ∨ sg = "end" ∨ sg = "tens") ∧ atI [MV.str "none", .str "end", .str "tens"] s = some (.str sg) := by
    rcases (show s = 0 ∨ s = 1 ∨ s = 2 by omega) with rfl | rfl | rfl
    · exact ⟨_, .inl rfl, rfl⟩
    · exact ⟨_, .inr (.inl rfl), rfl⟩
    · exact ⟨_, .inr (.inr rfl), rfl⟩
  have key : ∃ pt ρ, m_lform [some (.int a), some (.int m), some (.int s), none] = .ok (.rt (.tup [.str kd, .int (1 + m), .str sg, .int pt]), ρ) := by
    simp [m_lform, mulOk_l, h1, szOk_small, hk, hg]
  obtain ⟨pt, ρ, h⟩ := key
  exact ⟨kd, sg, pt, hkd, hsg, mFn_ok ⟨ρ, h⟩⟩
theorem okD_row (xs : List Nat) : (xs.map fun d : Nat => MV.int d).all (okD 20) = true := by
  rw [List.all_map]
  exact List.all_eq_true.mpr fun d _ => okD_i
theorem zero_in {n : Nat} {sg : Str} (hn : 1 ≤ n) : least n sg ≤ 0 ∧ 0 ≤ most n sg := by
  have := ten_pos n
  have := ten_pos (n - 1)
  unfold least most
  constructor
  · split
    · omega
    · split <;> omega
  · split <;> omega
/-! figures as text -/
def dtx (ds : List Nat) : Str := ⟨(ds.map (48 + ·)).toArray⟩
theorem dtx_len (ds : List Nat) : (dtx ds).length = ds.length := by
  show (ds.map (48 + ·)).toArray.size = ds.length
  simp
theorem dtx_list (ds : List Nat) : (dtx ds).cps.toList = ds.map (48 + ·) := by simp [dtx]
theorem str_ext {a b : Str} (h : a.cps.toList = b.cps.toList) : a = b := by
  cases a; cases b
  simp only at h
  congr 1
  exact Array.toList_inj.mp h
theorem dtx_app (a b : List Nat) : dtx (a ++ b) = dtx a ++ dtx b := str_ext (by rw [tl_app, dtx_list, dtx_list, dtx_list, List.map_append])
theorem digit_nat : ∀ d, d < 10 → (Nat.digitChar d).toNat = 48 + d := by decide
def nd (m : Nat) : Nat := (Nat.toDigits 10 m).length
theorem dec_digs : ∀ (k m : Nat), m ≤ k → (Nat.toDigits 10 m).map Char.toNat = (digsB (nd m) m).map (48 + ·)
  | k, m, hk => by
    unfold nd
    rw [Nat.toDigits_eq_if (by decide)]
    split
    · rename_i h
      show [(Nat.digitChar m).toNat] = (digsB 1 m).map (48 + ·)
      rw [digit_nat m h, digsB_step]
      simp [digsB, digs, Nat.mod_eq_of_lt h]
    · rename_i h
      match k, hk with
      | 0, hk => omega
      | k + 1, hk =>
        have ih := dec_digs k (m / 10) (by omega)
        unfold nd at ih
        rw [List.map_append, ih, List.length_append]
        show _ = (digsB ((Nat.toDigits 10 (m / 10)).length + 1) m).map (48 + ·)
        rw [digsB_step, List.map_append]
        congr 1
        show [(Nat.digitChar (m % 10)).toNat] = [48 + m % 10]
        rw [digit_nat _ (Nat.mod_lt _ (by decide))]
theorem str_dec (m : Nat) : Str.ofString (toString (m : Int)) = dtx (digsB (nd m) m) := by
  refine (PyProof.Rows.text_ofNat m).trans (str_ext ?_)
  rw [dtx_list, ← dec_digs m m (Nat.le_refl _)]
theorem digsB_pad : ∀ (n j m : Nat), m < 10 ^ n → digsB (j + n) m = List.replicate j 0 ++ digsB n m
  | 0, j, m, h => by
    have : m = 0 := by simpa using h
    subst this
    have : ∀ j : Nat, digsB j 0 = List.replicate j 0 := by
      intro j
      induction j with
      | zero => rfl
      | succ j ih => rw [digsB_step, Nat.zero_div, ih, ← List.replicate_succ']
    rw [Nat.add_zero, this j]; simp [digsB, digs]
  | n + 1, j, m, h => by
    rw [← Nat.add_assoc, digsB_step, digsB_step, digsB_pad n j (m / 10) (by rw [Nat.pow_succ] at h; omega), List.append_assoc]
theorem nd_pos (m : Nat) : 1 ≤ nd m := by
  have := @Nat.length_toDigits_pos 10 m
  exact this
theorem lt_nd (m : Nat) : m < 10 ^ nd m := by
  have := (Nat.length_toDigits_le_iff (n := m) (b := 10) (k := nd m) (by decide) (nd_pos m)).mp (Nat.le_refl _)
  exact this
theorem nd_ge {m t : Nat} (h : t < nd m) (ht : 1 ≤ t) : 10 ^ t ≤ m := by
  have := fun h2 => (Nat.length_toDigits_le_iff (n := m) (b := 10) (k := t) (by decide) ht).mpr h2
  by_cases e : m < 10 ^ t
  · have := this e
    unfold nd at h; omega
  · omega
theorem nd_le {m t : Nat} (h : m < 10 ^ t) (ht : 1 ≤ t) : nd m ≤ t := (Nat.length_toDigits_le_iff (n := m) (b := 10) (k := t) (by decide) ht).mpr h
theorem zfill_dtx (m k : Nat) : Txt.zfill (dtx (digsB (nd m) m)) (k : Int) = dtx (digsB (max (nd m) k) m) := by
  unfold Txt.zfill
  rw [dtx_len, digsB_len]
  by_cases h : k ≤ nd m
  · rw [if_pos (by omega), Nat.max_eq_left h]
  · rw [if_neg (by omega), Nat.max_eq_right (by omega)]
    unfold zfilled
    have hf : ∃ d, d < 10 ∧ (dtx (digsB (nd m) m)).cps[0]? = some (48 + d) := by
      have hl : 0 < (digsB (nd m) m).length := by rw [digsB_len]; exact nd_pos m
      refine ⟨(digsB (nd m) m)[0], digsB_lt (List.getElem_mem hl), ?_⟩
      rw [← Array.getElem?_toList, dtx_list, List.getElem?_map, List.getElem?_eq_getElem hl]
      rfl
    obtain ⟨d, hd, e⟩ := hf
    rw [e]
    have e2 : Builtin.Str.padded (dtx (digsB (nd m) m)) ((k : Int).toNat - nd m) 0 48 = dtx (digsB k m) := by
      refine str_ext ?_
      have := digsB_pad (nd m) (k - nd m) m (lt_nd m)
      rw [show k - nd m + nd m = k by omega] at this
      rw [dtx_list, this, List.map_append, List.map_replicate, Int.toNat_natCast]
      show (Array.replicate (k - nd m) 48 ++ (dtx (digsB (nd m) m)).cps ++ Array.replicate 0 48).toList = _
      rw [Array.toList_append, Array.toList_append, Array.toList_replicate, Array.toList_replicate, dtx_list]
      simp
    split
    · rename_i h1; exact absurd (Option.some.inj h1) (by omega)
    · rename_i h1; exact absurd (Option.some.inj h1) (by omega)
    · exact e2
theorem pad_ok {k : Nat} (h : k < 1000) : PadOk (k : Int) = true := by
  unfold PadOk fitsSsize
  have h1 : Builtin.Str.tooLong (k : Int).toNat = false := by
    unfold Builtin.Str.tooLong
    rw [sizeLine_eq]
    exact decide_eq_false (by omega)
  rw [h1, decide_eq_false (by omega), decide_eq_false (by omega)]; rfl
theorem log_small {m : Nat} (h : m < 2 ^ 1000) : m.log2 < 1920 := by
  by_cases h0 : m = 0
  · subst h0; decide
  · have := (Nat.log2_lt h0).mpr h
    omega
theorem cutS_neg {z : Str} {p : Nat} (hp : 1 ≤ p) (h : p ≤ z.length) : cutS z none (some (-(p : Int))) = cutS z none (some ((z.length - p : Nat) : Int)) ∧ cutS z (some (-(p : Int))) none = cutS z (some ((z.length - p : Nat) : Int)) none := by
  have e : ∀ d, HT.sIx z.length d (some (-(p : Int))) = HT.sIx z.length d (some ((z.length - p : Nat) : Int)) := fun d => by
    simp only [HT.sIx]
    rw [if_pos (by omega), if_neg (by omega)]
    omega
  unfold cutS
  rw [e, e]
  exact ⟨rfl, rfl⟩
def txtM (p : Nat) (x : Int) : Str :=
  let z := dtx (digsB (max (nd x.natAbs) (p + 1)) x.natAbs)
  let z := if 0 < p then cutS z none (some ((z.length - p : Nat) : Int)) ++ ("." : Str) ++ cutS z (some ((z.length - p : Nat) : Int)) none else z
  if x < 0 then ("-" : Str) ++ z else z
theorem txt_len {p : Nat} {m T : Nat} (hp : p < T) (hT : T < 900) : (dtx (digsB T m)).length = T := by rw [dtx_len, digsB_len]
theorem pwritten_eq {kd sg : Str} {n p : Nat} (h1 : 1 ≤ n ∧ n < 100) (hp : p < 100) (x : Int) (hf : least n sg ≤ x ∧ x ≤ most n sg) (hx : x.natAbs < 10 ^ 100) :
    f_pwritten [Form kd n sg (.int p), .int x] = .ok (.str (txtM p x), []) := by
  refine mFn_ok ?_
  have f1 := @pfits_eq kd sg n (.int p) h1 x
  have fd : (decide (least n sg ≤ x) && decide (x ≤ most n sg)) = true := by simp [hf]
  rw [fd] at f1
  have l1 : x.natAbs.log2 < 1920 := log_small (Nat.lt_of_lt_of_le hx (by decide +kernel))
  have l2 : ((x.natAbs : Int)).natAbs.log2 < 1920 := by simpa using l1
  have s1 := str_dec x.natAbs
  have z1 := zfill_dtx x.natAbs (p + 1)
  have po := @pad_ok (p + 1) (by omega)
  have hnd : nd x.natAbs ≤ 100 := nd_le hx (by decide)
  unfold txtM
  dsimp only
  generalize hT : max (nd x.natAbs) (p + 1) = T at *
  have lz := @dtx_len (digsB T x.natAbs)
  rw [digsB_len] at lz
  generalize dtx (digsB T x.natAbs) = z at *
  generalize dtx (digsB (nd x.natAbs) x.natAbs) = y at *
  have sz : szOk z.length = true := szOk_small (by omega)
  have ld : ("." : Str).length = 1 := by decide +kernel
  have lm : ("-" : Str).length = 1 := by decide +kernel
  have st : smZfill y [.int ((p : Int) + 1)] = some (.str z) := by
    have e : ((p : Int) + 1) = ((p + 1 : Nat) : Int) := by omega
    rw [e, ← z1]
    exact if_pos po
  have bs : bStr [.int (x.natAbs : Int)] = some (.str y) := by
    show (if decide (((x.natAbs : Int)).natAbs.log2 < 1920) = true then some (MV.str (Str.ofString (toString (x.natAbs : Int)))) else none) = _
    rw [if_pos (decide_eq_true l2), s1]
  unfold Form at *
  by_cases hp0 : 0 < p
  · obtain ⟨c1, c2⟩ := @cutS_neg z p (by omega) (by omega)
    have lc1 := @len_cut z none (some ((z.length - p : Nat) : Int))
    have lc2 := @len_cut z (some ((z.length - p : Nat) : Int)) none
    generalize cutS z none (some ((z.length - p : Nat) : Int)) = a at *
    generalize cutS z (some ((z.length - p : Nat) : Int)) none = b at *
    have sa : szOk (a.length + 1) = true := szOk_small (by omega)
    have sb : szOk ((a ++ (Str.ofString ".")).length + b.length) = true := by
      rw [len_app]; exact szOk_small (by have : (Str.ofString ".").length = 1 := ld; omega)
    have sc : szOk (1 + ((a ++ (Str.ofString ".")) ++ b).length) = true := by
      rw [len_app, len_app]; exact szOk_small (by have : (Str.ofString ".").length = 1 := ld; omega)
    have hp0' : (0 : Int) < p := by omega
    by_cases hx0 : x < 0
    · rw [show (x.natAbs : Int) = -x by omega] at bs
      simp [m_pwritten, f1, bs, smE, st, hp0, hp0', hx0, sz, c1, c2, sa, sb, sc, ld, lm]
    · rw [show (x.natAbs : Int) = x by omega] at bs
      simp [m_pwritten, f1, bs, smE, st, hp0, hp0', hx0, sz, c1, c2, sa, sb, sc, ld, lm]
  · have hp0' : ¬ (0 : Int) < p := by omega
    have sc : szOk (1 + z.length) = true := szOk_small (by omega)
    by_cases hx0 : x < 0
    · rw [show (x.natAbs : Int) = -x by omega] at bs
      simp [m_pwritten, f1, bs, smE, st, hp0, hp0', hx0, sz, sc, lm]
    · rw [show (x.natAbs : Int) = x by omega] at bs
      simp [m_pwritten, f1, bs, smE, st, hp0, hp0', hx0, sz, sc, lm]
theorem text2_loop (m p T : Nat) (hT : T = max (nd m) (p + 1)) (hp : p < 100) (hn : nd m ≤ 100) (a b : Option MV) (kd sg : MV) (n : MV) (ha : a = some (.tup [kd, n, sg, .int p])) :
    ∃ ρ', mWhile (mOrT (mTest (mOp fGt (mVar 3) (mC (.int 0)))) (mTest (mOp fLt (mBlt bLen (mCons (mVar 2) (mNil))) (mOp fAdd (mOp fIx (mVar 0) (mC (.int 3))) (mC (.int 1)))))) (b_ltext2_0) [a, b, some (.str ""), some (.int m), none] = .ok (.nx, ρ') ∧ ρ' = [a, b, some (.str (dtx (digsB T m))), some (.int 0), none] := by
  subst ha
  obtain ⟨ρ', e, t, ht, h1, h2⟩ := while_inv (t := mOrT (mTest (mOp fGt (mVar 3) (mC (.int 0)))) (mTest (mOp fLt (mBlt bLen (mCons (mVar 2) (mNil))) (mOp fAdd (mOp fIx (mVar 0) (mC (.int 3))) (mC (.int 1)))))) (b := b_ltext2_0)
    (fun k ρ => ∃ t, t + k = T ∧ t ≤ T ∧ ρ = [some (.tup [kd, n, sg, .int p]), b, some (.str (dtx (digsB t m))), some (.int (m / 10 ^ t : Nat)), none]) 1000000 T [some (.tup [kd, n, sg, .int p]), b, some (.str ""), some (.int m), none] ⟨0, by omega, by omega, by simp [digsB, digs]; rfl⟩ (by omega) (by
      rintro k ρ ⟨t, h1, h2, rfl⟩
      have ld := dtx_len (digsB t m)
      rw [digsB_len] at ld
      have sz : szOk (dtx (digsB t m)).length = true := szOk_small (by omega)
      have sz' : szOk t = true := szOk_small (by omega)
      by_cases hk : t = T
      · refine .inl ⟨_, ?_, t, by omega, h2, rfl⟩
        have z : m / 10 ^ t = 0 := Nat.div_eq_of_lt (Nat.lt_of_lt_of_le (lt_nd m) (Nat.pow_le_pow_right (by decide) (by omega)))
        have c2 : ¬ ((t : Int) < (p : Int) + 1) := by omega
        rw [z]
        simp [sz, sz', ld, c2]
      · refine .inr ⟨[some (.tup [kd, n, sg, .int p]), b, some (.str (dtx (digsB t m))), some (.int (m / 10 ^ t : Nat)), none], _, k - 1, ?_, ?_, by omega, t + 1, by omega, by omega, rfl⟩
        · by_cases c : t < p + 1
          · have c2 : ((t : Int) < (p : Int) + 1) := by omega
            by_cases c3 : (0 : Int) < ((m / 10 ^ t : Nat) : Int)
            · generalize m / 10 ^ t = q at *
              have c4 : ¬ q = 0 := by omega
              simp [c3, c4]
            · generalize m / 10 ^ t = q at *
              simp [c3, sz, sz', ld, c2]
          · have c3 : (0 : Int) < ((m / 10 ^ t : Nat) : Int) := by
              have := nd_ge (m := m) (t := t) (by omega) (by omega)
              have := Nat.div_pos this (Nat.pow_pos (by decide))
              omega
            generalize m / 10 ^ t = q at *
            have c4 : ¬ q = 0 := by omega
            simp [c3, c4]
        · have ed : m / 10 ^ (t + 1) = m / 10 ^ t / 10 := by rw [Nat.pow_succ, Nat.div_div_eq_div_mul]
          have es : digsB (t + 1) m = (m / 10 ^ t % 10) :: digsB t m := by
            unfold digsB
            rw [digs_append]
            simp
          rw [ed, es]
          have dq := nat_fdiv (m / 10 ^ t) 10
          have dm := nat_fmod (m / 10 ^ t) 10
          have hq : m / 10 ^ t % 10 < 10 := Nat.mod_lt _ (by decide)
          have dc : ∀ d, d < 10 → atI (Str.ofString "0123456789").cps.toList (d : Nat) = some (48 + d) := by decide +kernel
          have dt := dc _ hq
          have ea : (⟨#[48 + m / 10 ^ t % 10]⟩ : Str) ++ dtx (digsB t m) = dtx ((m / 10 ^ t % 10) :: digsB t m) := str_ext (by rw [tl_app, dtx_list, dtx_list]; rfl)
          have l1 : (⟨#[48 + m / 10 ^ t % 10]⟩ : Str).length = 1 := rfl
          have sz2 : szOk (1 + (dtx (digsB t m)).length) = true := szOk_small (by omega)
          have l10 : (Str.ofString "0123456789").length = 10 := by decide +kernel
          have s10 : szOk 10 = true := szOk_small (by decide)
          generalize dtx (digsB t m) = z at *
          generalize m / 10 ^ t % 10 = d at *
          generalize m / 10 ^ t / 10 = q2 at *
          generalize m / 10 ^ t = q at *
          simp at dq dm dt
          simp [b_ltext2_0, divOk, dq, dm, dt, l10, s10, l1, sz2, ea])
  have : t = T := by omega
  subst this
  refine ⟨_, e, ?_⟩
  rw [h2]
  have z : m / 10 ^ t = 0 := Nat.div_eq_of_lt (Nat.lt_of_lt_of_le (lt_nd m) (Nat.pow_le_pow_right (by decide) (by omega)))
  rw [z]; rfl
theorem empty_app (z : Str) : (Str.ofString "") ++ z = z := str_ext (by rw [tl_app]; rfl)
theorem repS_one (a : Str) : repS a 1 = a := str_ext (by unfold repS; simp)
theorem repS_nil (a : Str) : repS a 0 = Str.ofString "" := str_ext (by unfold repS; rfl)
theorem ltext2_eq {kd sg : Str} {n p : Nat} (hp : p < 100) (x : Int) (hx : x.natAbs < 10 ^ 100) :
    f_ltext2 [Form kd n sg (.int p), .int x] = .ok (.str (txtM p x), []) := by
  refine mFn_ok ?_
  have hnd : nd x.natAbs ≤ 100 := nd_le hx (by decide)
  obtain ⟨ρ', lp, rfl⟩ := text2_loop x.natAbs p _ rfl hp hnd (some (Form kd n sg (.int p))) (some (.int x)) (.str kd) (.str sg) (.int n) rfl
  unfold txtM
  dsimp only
  generalize hT : max (nd x.natAbs) (p + 1) = T at *
  have lz := @dtx_len (digsB T x.natAbs)
  rw [digsB_len] at lz
  generalize dtx (digsB T x.natAbs) = z at *
  have sz : szOk z.length = true := szOk_small (by omega)
  have sT : szOk T = true := szOk_small (by omega)
  have ld : (Str.ofString ".").length = 1 := by decide +kernel
  have lm : (Str.ofString "-").length = 1 := by decide +kernel
  have l0 : (Str.ofString "").length = 0 := by decide +kernel
  have s1 : szOk 1 = true := szOk_small (by decide)
  have s0 : szOk 0 = true := szOk_small (by decide)
  have ev : (T : Int) - p = ((T - p : Nat) : Int) := by omega
  unfold Form at *
  rw [lz]
  by_cases hp0 : 0 < p
  · have lc1 := @len_cut z none (some ((T - p : Nat) : Int))
    have lc2 := @len_cut z (some ((T - p : Nat) : Int)) none
    generalize hca : cutS z none (some ((T - p : Nat) : Int)) = a at *
    generalize hcb : cutS z (some ((T - p : Nat) : Int)) none = b at *
    have sa : szOk (a.length + 1) = true := szOk_small (by omega)
    have sb : szOk ((a ++ (Str.ofString ".")).length + b.length) = true := by
      rw [len_app, ld]; exact szOk_small (by omega)
    have sc : szOk (1 + ((a ++ (Str.ofString ".")) ++ b).length) = true := by
      rw [len_app, len_app, ld]; exact szOk_small (by omega)
    have sd : szOk (0 + ((a ++ (Str.ofString ".")) ++ b).length) = true := by
      rw [len_app, len_app, ld]; exact szOk_small (by omega)
    have hp0' : (0 : Int) < p := by omega
    simp at sd
    by_cases hx0 : x < 0
    · rw [show (x.natAbs : Int) = -x by omega] at lp
      simp [m_ltext2, lp, hp0, hp0', hx0, sz, sT, lz, ev, hca, hcb, sa, sb, sc, ld, lm, s1, repS_one]
    · rw [show (x.natAbs : Int) = x by omega] at lp
      simp [m_ltext2, lp, hp0, hp0', hx0, sz, sT, lz, ev, hca, hcb, sa, sb, sd, ld, lm, l0, s0, repS_nil, empty_app]
  · have hp0' : ¬ (0 : Int) < p := by omega
    have sc : szOk (1 + z.length) = true := szOk_small (by omega)
    have sc' : szOk (1 + T) = true := szOk_small (by omega)
    by_cases hx0 : x < 0
    · rw [show (x.natAbs : Int) = -x by omega] at lp
      simp [m_ltext2, lp, hp0, hp0', hx0, sz, sT, lz, sc, sc', lm, s1, repS_one]
    · rw [show (x.natAbs : Int) = x by omega] at lp
      simp [m_ltext2, lp, hp0, hp0', hx0, sz, sT, lz, lm, l0, s0, repS_nil, empty_app]
theorem pwritten_no {kd sg : Str} {n : Nat} {p : MV} (h1 : 1 ≤ n ∧ n < 100) (x : Int) (hf : ¬ (least n sg ≤ x ∧ x ≤ most n sg)) : f_pwritten [Form kd n sg p, .int x] = .exc ⟨"NoFit", [("number", .int x)]⟩ [] := by
  refine mFn_exc ?_
  have f1 := @pfits_eq kd sg n p h1 x
  have fd : (decide (least n sg ≤ x) && decide (x ≤ most n sg)) = false := by
    rw [Bool.and_eq_false_iff]
    by_cases e : least n sg ≤ x
    · exact .inr (decide_eq_false fun h => hf ⟨e, h⟩)
    · exact .inl (decide_eq_false e)
  rw [fd] at f1
  unfold Form at *
  simp [m_pwritten, f1]
theorem lrefused2_ok {kd sg : Str} {n : Nat} {p : MV} (h1 : 1 ≤ n ∧ n < 100) (x : Int) (hf : ¬ (least n sg ≤ x ∧ x ≤ most n sg)) : f_lrefused2 [Form kd n sg p, .int x] = .ok (.bl true, []) := by
  refine mFn_ok ?_
  have h := @pwritten_no kd sg n p h1 x hf
  have lk : List.lookup (Str.ofString "NoFit") [(Str.ofString "NoFit", true)] = some true := by decide +kernel
  have lk2 : List.lookup (Str.ofString "NoFit") [(Str.ofString "NoFit", false)] = some false := by decide +kernel
  have lk3 : ∀ v : MV, List.lookup (Str.ofString "number") [(Str.ofString "number", v)] = some v := fun v => by simp [List.lookup]
  unfold Form at h
  simp [m_lrefused2, b_lrefused2_0, Form, h, lk, lk2, lk3, flatM]
theorem in_abs {n : Nat} {sg : Str} {x : Int} (hn : 1 ≤ n ∧ n < 100) (hx : least n sg ≤ x ∧ x ≤ most n sg) : x.natAbs < 10 ^ 100 := by
  have h1 : (10 : Int) ^ n ≤ 10 ^ 99 := by
    have : (10 : Nat) ^ n ≤ 10 ^ 99 := Nat.pow_le_pow_right (by decide) (by omega)
    exact_mod_cast this
  have h2 : (10 : Int) ^ (n - 1) ≤ 10 ^ 99 := by
    have : (10 : Nat) ^ (n - 1) ≤ 10 ^ 99 := Nat.pow_le_pow_right (by decide) (by omega)
    exact_mod_cast this
  have e : (10 : Int) ^ 99 * 10 = 10 ^ 100 := by decide +kernel
  have e2 : (((10 : Nat) ^ 100 : Nat) : Int) = 10 ^ 100 := by decide +kernel
  generalize (10 : Int) ^ 99 = T at *
  generalize (10 : Int) ^ 100 = U at *
  generalize (10 : Nat) ^ 100 = U2 at *
  have p1 := ten_pos n
  have p2 := ten_pos (n - 1)
  unfold least most at hx
  generalize (10 : Int) ^ n = A at *
  generalize (10 : Int) ^ (n - 1) = B at *
  obtain ⟨a, b⟩ := hx
  split at a <;> split at b <;> (try split at a) <;> omega
theorem divOk_ten {k : Nat} (h : k < 100) : divOk ((10 : Int) ^ k) = true := by
  unfold divOk
  have e : ((10 : Int) ^ k) = ((10 ^ k : Nat) : Int) := by simp
  have h1 : 10 ^ k < 2 ^ 1000 := Nat.lt_of_le_of_lt (Nat.pow_le_pow_right (by decide) (show k ≤ 100 by omega)) (by decide +kernel)
  have h2 := log_small h1
  have h3 : 0 < 10 ^ k := Nat.pow_pos (by decide)
  rw [e, Bool.or_eq_true]
  right
  simp only [Int.natAbs_natCast, Bool.and_eq_true, decide_eq_true_eq]
  omega
theorem txt_ok (p : Nat) (x : Int) : tOk (txtM p x) := by
  have hz : ∀ k m, tOk (dtx (digsB k m)) := fun k m => by
    rw [tOk_iff, dtx_list]
    intro c hc
    obtain ⟨d, hd, rfl⟩ := List.mem_map.mp hc
    have := digsB_lt hd
    omega
  have hd : tOk ("." : Str) := by unfold tOk; decide +kernel
  have hm : tOk ("-" : Str) := by unfold tOk; decide +kernel
  unfold txtM
  dsimp only
  have key : tOk (if 0 < p then cutS (dtx (digsB (max (nd x.natAbs) (p + 1)) x.natAbs)) none (some (((dtx (digsB (max (nd x.natAbs) (p + 1)) x.natAbs)).length - p : Nat) : Int)) ++ ("." : Str) ++ cutS (dtx (digsB (max (nd x.natAbs) (p + 1)) x.natAbs)) (some (((dtx (digsB (max (nd x.natAbs) (p + 1)) x.natAbs)).length - p : Nat) : Int)) none else dtx (digsB (max (nd x.natAbs) (p + 1)) x.natAbs)) := by
    split
    · exact tOk_app (tOk_app (tOk_cut (hz _ _)) hd) (tOk_cut (hz _ _))
    · exact hz _ _
  split
  · exact tOk_app hm key
  · exact key
theorem law_true : ∀ ns : List Int, ns.length ≤ 63 → ∃ bs, f_law8 [.scr ns] = .ok (.bl true, bs) := by
  intro ns hns
  refine ⟨[], mFn_ok ?_⟩
  obtain ⟨c0, hc0⟩ := lcell_ok ns 0
  obtain ⟨ds, hd, hds⟩ := ldraws_ok c0 2 [2, 3] (by decide) (by decide)
  obtain ⟨kk, ss, rfl, hk1, hk2, hs1, hs2⟩ := draws_two hd
  simp at hc0 hds
  obtain ⟨ρ', e, a, b, c, d, f, g, u, v, w, rfl⟩ := loop_nxr (g := gSet 1) (b := b_law8_1) (lo := 0) (c := 1) (n := 12) (ρ := [some (.scr ns), none, some (.int kk), some (.int ss), none, none, none, none, none, none, none, none])
    (fun _ ρ => ∃ a b c d f g u v w, ρ = [some (.scr ns), a, some (.int kk), some (.int ss), b, c, d, f, g, u, v, w]) ⟨_, _, _, _, _, _, _, _, _, rfl⟩ (by
      rintro i ρ hi ⟨a, b, c, d, f, g, u, v, w, rfl⟩
      obtain ⟨kd, sg, pt, hkd, hsg, hf⟩ := lform_kd (a := kk) (m := i) (s := ss) ⟨hk1, hk2⟩ (by omega) ⟨hs1, hs2⟩
      obtain ⟨c1, hc1⟩ := lcell_ok ns (1 + i)
      obtain ⟨ds1, hd1, hds1⟩ := ldraws_ok c1 (3 + i) [16, 100000000000000, 2 + i, 13, 1000000000000000000000000000000000000000] (by simp) (by
        intro w hw
        simp at hw
        rcases hw with rfl | rfl | rfl | rfl | rfl
        · decide
        · decide
        · exact ⟨by omega, divOk_small (by omega) (by omega)⟩
        · decide
        · exact ⟨by decide, divOk_ten (k := 39) (by decide)⟩)
      simp only [draws_cons, draws_nil] at hd1
      obtain ⟨d0, _, rfl, q0, d1, _, rfl, q1, d2, _, rfl, q2, d3, _, rfl, q3, d4, _, rfl, q4, rfl⟩ := hd1
      obtain ⟨p, rfl⟩ : ∃ p : Nat, d2 = p := ⟨d2.toNat, by omega⟩
      obtain ⟨k3, rfl⟩ : ∃ k3 : Nat, d3 = k3 := ⟨d3.toNat, by omega⟩
      have hn : 1 ≤ 1 + i ∧ 1 + i < 100 := by omega
      obtain ⟨x, hx, hxe⟩ := @lnumber_ok kd sg (1 + i) (.int p) hn hsg d0 d1 q0.1
      have le := @lends_eq kd sg (1 + i) (.int p) hn.1 hn.2 hsg
      have hle := @least_le (1 + i) sg hn.1
      have t1 := @lten_eq (k3 : Int) (by omega) (by omega)
      have dv := @divOk_ten k3 (by omega)
      have tp := ten_pos k3
      have hfew : ∃ y : Int, (least (1 + i) sg ≤ y ∧ y ≤ most (1 + i) sg) ∧ (let m := if x.fdiv (10 ^ k3) < most (1 + i) sg then x.fdiv (10 ^ k3) else most (1 + i) sg; if m > least (1 + i) sg then m else least (1 + i) sg) = y := by
        refine ⟨_, ?_, rfl⟩
        dsimp only
        split <;> split <;> omega
      obtain ⟨y, hy, hye⟩ := hfew
      have wr := fun (z : Int) hz => @pwritten_eq kd sg (1 + i) p hn (by omega) z hz (in_abs hn hz)
      have tx := fun (z : Int) hz => @ltext2_eq kd sg (1 + i) p (by omega) z (in_abs (n := 1 + i) (sg := sg) hn hz)
      have hz0 := @zero_in (1 + i) sg hn.1
      have w1 := wr x hx
      have w2 := wr y hy
      have w3 := wr 0 hz0
      have x1 := tx x hx
      have x2 := tx y hy
      have x3 := tx 0 hz0
      have ne : ∀ z : Int, fNe (.str (txtM p z)) (.str (txtM p z)) = some (.bl false) := fun z => by
        unfold fNe; rw [eqM_self (n := 21) (by decide) (okD_s (txt_ok p z))]; rfl
      have ne1 := ne x
      have ne2 := ne y
      have ne3 := ne 0
      have fm2 : 0 ≤ (k3 : Int).fmod 2 := Int.fmod_nonneg_of_pos _ (by decide)
      have fr : 0 ≤ d4 * (k3 : Int).fmod 2 := Int.mul_nonneg q4.1 fm2
      have mo := mulOk_r (i := d4) (j := (k3 : Int).fmod 2) (by omega) (by have := Int.fmod_lt_of_pos (k3 : Int) (show (0 : Int) < 2 by decide); omega)
      have r1 := @lrefused2_ok kd sg (1 + i) (.int p) hn (most (1 + i) sg + 1 + d4 * (k3 : Int).fmod 2) (by omega)
      have r2 := @lrefused2_ok kd sg (1 + i) (.int p) hn (least (1 + i) sg - 1 - d4 * (k3 : Int).fmod 2) (by omega)
      generalize least (1 + i) sg = lo at *
      generalize most (1 + i) sg = hi2 at *
      generalize txtM p x = tx1 at *
      generalize txtM p y = tx2 at *
      generalize txtM p 0 = tx3 at *
      generalize hfm : Form kd (1 + i) sg (.int p) = fm at *
      have fe : MV.tup [.str kd, .int (1 + (i : Int)), .str sg, .int p] = fm := by rw [← hfm]; unfold Form; simp
      obtain ⟨fx, rfl⟩ : ∃ fx, fm = .tup fx := ⟨_, fe.symm⟩
      simp at hc1 hds1 hxe t1
      simp [b_law8_1, b_law8_0, hf, hc1, hds1, fe, le, hxe, szOk_small, cutM_to, t1, dv, hye, w1, w2, w3, x1, x2, x3, ne1, ne2, ne3, mo, r1, r2, mLoop])
  simp [m_law8, hc0, hds, szOk_small, e, inR_of]
def top (i : Nat) : Stmt := PySem.Challenge.pw_tensloft_k07_written.main.body.getD i (.Pass ⟨0, 0, 0, 0⟩)
abbrev s_ini_NoFit : Stmt := inCls (top 2) 0
theorem sc_ini_NoFit : FnScope ["self", "number"] ["self", "number"] (defScope s_ini_NoFit) := ⟨rfl, rfl, rfl, by decide +kernel, rfl, by decide +kernel, by decide +kernel⟩
theorem ini_NoFit {P : Program} {w : World} {K : PySem.W.Frag} {mg : Str → Option Value} {base : Heap} {a : Addr} {fd : FuncData} (F : Fun K "__init__" "NoFit.__init__" s_ini_NoFit a fd) (B : Bas K mg "LoftError") : FnOk P w K mg base (L2.CX P w) 2 a fd ["self", "number"] (spI1 K "number") :=
  init1 F sc_ini_NoFit B rfl (fun _ _ => rfl) (by decide +kernel) (by decide +kernel) (fun _ => ⟨_, rfl⟩) (by decide) (by decide) (by decide)
abbrev s_lmixed : Stmt := top 14
theorem sc_lmixed : FnScope ["_law_cell_here", "_law_k", "_law_salt", "_law_primes", "_law_one", "_law_two"] ["_law_cell_here", "_law_k", "_law_salt"] (defScope s_lmixed) := ⟨rfl, rfl, rfl, by decide +kernel, rfl, by decide +kernel, by decide +kernel⟩
theorem v_lmixed_0 : (defScope s_lmixed).names.lookup ("_law_cell_here" : Str) = some NameKind.local := by decide +kernel
theorem v_lmixed_1 : (defScope s_lmixed).names.lookup ("_law_k" : Str) = some NameKind.local := by decide +kernel
theorem v_lmixed_2 : (defScope s_lmixed).names.lookup ("_law_salt" : Str) = some NameKind.local := by decide +kernel
theorem v_lmixed_3 : (defScope s_lmixed).names.lookup ("_law_primes" : Str) = some NameKind.local := by decide +kernel
theorem v_lmixed_4 : (defScope s_lmixed).names.lookup ("_law_one" : Str) = some NameKind.local := by decide +kernel
theorem v_lmixed_5 : (defScope s_lmixed).names.lookup ("_law_two" : Str) = some NameKind.local := by decide +kernel
theorem ok_lmixed {P : Program} {w : World} {K : PySem.W.Frag} {mg : Str → Option Value} {base : Heap} {f : Addr} {fd : FuncData} (F : Fun K "_law_mixed" "_law_mixed" s_lmixed f fd) (B : Bn mg)     :
    FnOk P w K mg base (L2.CX P w) 2 f fd ["_law_cell_here", "_law_k", "_law_salt"] (spF K mg 3 [] f_lmixed) := by
  refine fn_ok F sc_lmixed (by decide) (by decide) fun cdv A outer s H E hr => ?_
  have nd := sc_lmixed.nd
  have tk : Takes (cxOf (L2.CX P w) P w K mg base ["_law_cell_here", "_law_k", "_law_salt", "_law_primes", "_law_one", "_law_two"] "_law_mixed" (defScope s_lmixed) f cdv A outer s H E) (fun cls d _ H => E cls d H) := takes_of rfl rfl rfl rfl
  have pn : PassesOwn (model P w) (cxOf (L2.CX P w) P w K mg base ["_law_cell_here", "_law_k", "_law_salt", "_law_primes", "_law_one", "_law_two"] "_law_mixed" (defScope s_lmixed) f cdv A outer s H E).A (cxOf (L2.CX P w) P w K mg base ["_law_cell_here", "_law_k", "_law_salt", "_law_primes", "_law_one", "_law_two"] "_law_mixed" (defScope s_lmixed) f cdv A outer s H E).env (cxOf (L2.CX P w) P w K mg base ["_law_cell_here", "_law_k", "_law_salt", "_law_primes", "_law_one", "_law_two"] "_law_mixed" (defScope s_lmixed) f cdv A outer s H E).xe := passes_of rfl
  unfold m_lmixed
  exact mss_cons (ms_set (i := 3) nd rfl (.inl v_lmixed_3) (me_lst (ma_cons (me_int) (ma_cons (me_int) (ma_cons (me_int) (ma_cons (me_int) (ma_cons (me_int) (ma_cons (me_int) (ma_cons (me_int) (ma_cons (me_int) (ma_nil))))))))))) (mss_cons (ms_set (i := 4) nd rfl (.inl v_lmixed_4) (me_mod (me_add (me_add (me_add (me_var (i := 0) rfl (.inl v_lmixed_0)) (me_mul (me_int) (me_var (i := 2) rfl (.inl v_lmixed_2)))) (me_mul (me_int) (me_var (i := 1) rfl (.inl v_lmixed_1)))) (me_int)) (me_int))) (mss_cons (ms_set (i := 4) nd rfl (.inl v_lmixed_4) (me_mod (me_pow (me_var (i := 4) rfl (.inl v_lmixed_4)) (me_int)) (me_ix (me_var (i := 3) rfl (.inl v_lmixed_3)) (me_mod (me_var (i := 1) rfl (.inl v_lmixed_1)) (me_int))))) (mss_cons (ms_set (i := 5) nd rfl (.inl v_lmixed_5) (me_mod (me_add (me_add (me_var (i := 4) rfl (.inl v_lmixed_4)) (me_mul (me_int) (me_var (i := 2) rfl (.inl v_lmixed_2)))) (me_var (i := 1) rfl (.inl v_lmixed_1))) (me_int))) (mss_one (ms_ret (me_add (me_mul (me_mod (me_pow (me_var (i := 5) rfl (.inl v_lmixed_5)) (me_int)) (me_int)) (me_int)) (me_var (i := 4) rfl (.inl v_lmixed_4))))))))

abbrev s_ldraws : Stmt := top 15
theorem sc_ldraws : FnScope ["_law_cell_here", "_law_salt", "_law_widths", "_law_found", "_law_left", "_law_k"] ["_law_cell_here", "_law_salt", "_law_widths"] (defScope s_ldraws) := ⟨rfl, rfl, rfl, by decide +kernel, rfl, by decide +kernel, by decide +kernel⟩
theorem v_ldraws_0 : (defScope s_ldraws).names.lookup ("_law_cell_here" : Str) = some NameKind.local := by decide +kernel
theorem v_ldraws_1 : (defScope s_ldraws).names.lookup ("_law_salt" : Str) = some NameKind.local := by decide +kernel
theorem v_ldraws_2 : (defScope s_ldraws).names.lookup ("_law_widths" : Str) = some NameKind.local := by decide +kernel
theorem v_ldraws_3 : (defScope s_ldraws).names.lookup ("_law_found" : Str) = some NameKind.local := by decide +kernel
theorem v_ldraws_4 : (defScope s_ldraws).names.lookup ("_law_left" : Str) = some NameKind.local := by decide +kernel
theorem v_ldraws_5 : (defScope s_ldraws).names.lookup ("_law_k" : Str) = some NameKind.local := by decide +kernel
theorem g_ldraws_abs (L a : Addr) (cd : Value) : (PyProof.Rows.envOfC "_law_draws" (defScope s_ldraws) L a cd).kindOf ("abs" : Str) = some NameKind.globalImplicit := rfl
theorem g_ldraws_len (L a : Addr) (cd : Value) : (PyProof.Rows.envOfC "_law_draws" (defScope s_ldraws) L a cd).kindOf ("len" : Str) = some NameKind.globalImplicit := rfl
theorem g_ldraws_range (L a : Addr) (cd : Value) : (PyProof.Rows.envOfC "_law_draws" (defScope s_ldraws) L a cd).kindOf ("range" : Str) = some NameKind.globalImplicit := rfl
theorem g_ldraws_law_mixed (L a : Addr) (cd : Value) : (PyProof.Rows.envOfC "_law_draws" (defScope s_ldraws) L a cd).kindOf ("_law_mixed" : Str) = some NameKind.globalImplicit := rfl
theorem ok_ldraws {P : Program} {w : World} {K : PySem.W.Frag} {mg : Str → Option Value} {base : Heap} {f : Addr} {fd : FuncData} (F : Fun K "_law_draws" "_law_draws" s_ldraws f fd) (B : Bn mg) (h_lmixed : Fd P w K mg base "_law_mixed" 2 ["_law_cell_here", "_law_k", "_law_salt"] [] f_lmixed)    :
    FnOk P w K mg base (L2.CX P w) 4 f fd ["_law_cell_here", "_law_salt", "_law_widths"] (spF K mg 3 [] f_ldraws) := by
  refine fn_ok F sc_ldraws (by decide) (by decide) fun cdv A outer s H E hr => ?_
  have nd := sc_ldraws.nd
  have tk : Takes (cxOf (L2.CX P w) P w K mg base ["_law_cell_here", "_law_salt", "_law_widths", "_law_found", "_law_left", "_law_k"] "_law_draws" (defScope s_ldraws) f cdv A outer s H E) (fun cls d _ H => E cls d H) := takes_of rfl rfl rfl rfl
  have pn : PassesOwn (model P w) (cxOf (L2.CX P w) P w K mg base ["_law_cell_here", "_law_salt", "_law_widths", "_law_found", "_law_left", "_law_k"] "_law_draws" (defScope s_ldraws) f cdv A outer s H E).A (cxOf (L2.CX P w) P w K mg base ["_law_cell_here", "_law_salt", "_law_widths", "_law_found", "_law_left", "_law_k"] "_law_draws" (defScope s_ldraws) f cdv A outer s H E).env (cxOf (L2.CX P w) P w K mg base ["_law_cell_here", "_law_salt", "_law_widths", "_law_found", "_law_left", "_law_k"] "_law_draws" (defScope s_ldraws) f cdv A outer s H E).xe := passes_of rfl
  unfold m_ldraws
  exact mss_cons (ms_setO (i := 3) nd rfl (.inl v_ldraws_3) (mo_lst (ma_nil))) (mss_cons (ms_set (i := 4) nd rfl (.inl v_ldraws_4) (me_int)) (mss_cons (ms_if (mt_cmp op_ge os_ge (mb_abs B.abs (ma_cons (me_var (i := 0) rfl (.inl v_ldraws_0)) (ma_nil)) (hg := (g_ldraws_abs _ _ _))) (me_pow (me_int) (me_int)) (nomark _)) (mss_one (ms_set (i := 4) nd rfl (.inl v_ldraws_4) (mb_abs B.abs (ma_cons (me_var (i := 0) rfl (.inl v_ldraws_0)) (ma_nil)) (hg := (g_ldraws_abs _ _ _))))) (mss_nil)) (mss_cons (ms_for pn rfl (mi_r1 B.range (ma_cons (mb_len B.len (ma_cons (me_var (i := 2) rfl (.inl v_ldraws_2)) (ma_nil)) (hg := (g_ldraws_len _ _ _))) (ma_nil)) (hg := (g_ldraws_range _ _ _))) (mg_name (i := 5) nd rfl (.inl v_ldraws_5)) (mss_one (ms_if (mt_cmp op_gt os_gt (me_var (i := 4) rfl (.inl v_ldraws_4)) (me_int) (nomark _)) (mss_cons (ms_expr (me_lm1 ls_append PySem.F.slot_list_append PySem.F.type_list_append mt_append (i := 3) rfl (.inl v_ldraws_3) (ma_cons (me_mod (me_var (i := 4) rfl (.inl v_ldraws_4)) (me_ix (me_var (i := 2) rfl (.inl v_ldraws_2)) (me_var (i := 5) rfl (.inl v_ldraws_5)))) (ma_nil)))) (mss_one (ms_set (i := 4) nd rfl (.inl v_ldraws_4) (me_div (me_var (i := 4) rfl (.inl v_ldraws_4)) (me_ix (me_var (i := 2) rfl (.inl v_ldraws_2)) (me_var (i := 5) rfl (.inl v_ldraws_5))))))) (mss_one (ms_expr (me_lm1 ls_append PySem.F.slot_list_append PySem.F.type_list_append mt_append (i := 3) rfl (.inl v_ldraws_3) (ma_cons (me_mod (me_fz (mf_call h_lmixed hr (by decide) tk (ma_cons (me_var (i := 0) rfl (.inl v_ldraws_0)) (ma_cons (me_var (i := 5) rfl (.inl v_ldraws_5)) (ma_cons (me_var (i := 1) rfl (.inl v_ldraws_1)) (ma_nil)))) (lng_cons (lng_cons (lng_cons lng_nil))) (hg := (g_ldraws_law_mixed _ _ _)))) (me_ix (me_var (i := 2) rfl (.inl v_ldraws_2)) (me_var (i := 5) rfl (.inl v_ldraws_5)))) (ma_nil)))))))) (mss_one (ms_retO (mo_var (i := 3) rfl (.inl v_ldraws_3)))))))

abbrev s_lcell : Stmt := top 13
theorem sc_lcell : FnScope ["_law_script", "_law_k"] ["_law_script", "_law_k"] (defScope s_lcell) := ⟨rfl, rfl, rfl, by decide +kernel, rfl, by decide +kernel, by decide +kernel⟩
theorem v_lcell_0 : (defScope s_lcell).names.lookup ("_law_script" : Str) = some NameKind.local := by decide +kernel
theorem v_lcell_1 : (defScope s_lcell).names.lookup ("_law_k" : Str) = some NameKind.local := by decide +kernel
theorem g_lcell_len (L a : Addr) (cd : Value) : (PyProof.Rows.envOfC "_law_cell" (defScope s_lcell) L a cd).kindOf ("len" : Str) = some NameKind.globalImplicit := rfl
theorem ok_lcell {P : Program} {w : World} {K : PySem.W.Frag} {mg : Str → Option Value} {base : Heap} {f : Addr} {fd : FuncData} (F : Fun K "_law_cell" "_law_cell" s_lcell f fd) (B : Bn mg)     :
    FnOk P w K mg base (L2.CX P w) 2 f fd ["_law_script", "_law_k"] (spF K mg 2 [] f_lcell) := by
  refine fn_ok F sc_lcell (by decide) (by decide) fun cdv A outer s H E hr => ?_
  have nd := sc_lcell.nd
  have tk : Takes (cxOf (L2.CX P w) P w K mg base ["_law_script", "_law_k"] "_law_cell" (defScope s_lcell) f cdv A outer s H E) (fun cls d _ H => E cls d H) := takes_of rfl rfl rfl rfl
  have pn : PassesOwn (model P w) (cxOf (L2.CX P w) P w K mg base ["_law_script", "_law_k"] "_law_cell" (defScope s_lcell) f cdv A outer s H E).A (cxOf (L2.CX P w) P w K mg base ["_law_script", "_law_k"] "_law_cell" (defScope s_lcell) f cdv A outer s H E).env (cxOf (L2.CX P w) P w K mg base ["_law_script", "_law_k"] "_law_cell" (defScope s_lcell) f cdv A outer s H E).xe := passes_of rfl
  unfold m_lcell
  exact mss_cons (ms_if (mt_cmp op_lt os_lt (me_var (i := 1) rfl (.inl v_lcell_1)) (mb_len B.len (ma_cons (me_var (i := 0) rfl (.inl v_lcell_0)) (ma_nil)) (hg := (g_lcell_len _ _ _))) (nomark _)) (mss_one (ms_ret (me_ix (me_var (i := 0) rfl (.inl v_lcell_0)) (me_var (i := 1) rfl (.inl v_lcell_1))))) (mss_nil)) (mss_cons (ms_if (mt_cmp (op_eqM hr.units) os_eq (mb_len B.len (ma_cons (me_var (i := 0) rfl (.inl v_lcell_0)) (ma_nil)) (hg := (g_lcell_len _ _ _))) (me_int) (nomark _)) (mss_one (ms_ret (me_mul (me_int) (me_add (me_var (i := 1) rfl (.inl v_lcell_1)) (me_int))))) (mss_nil)) (mss_one (ms_ret (me_add (me_ix (me_var (i := 0) rfl (.inl v_lcell_0)) (me_mod (me_var (i := 1) rfl (.inl v_lcell_1)) (mb_len B.len (ma_cons (me_var (i := 0) rfl (.inl v_lcell_0)) (ma_nil)) (hg := (g_lcell_len _ _ _))))) (me_mul (me_int) (me_var (i := 1) rfl (.inl v_lcell_1)))))))

abbrev s_lpower : Stmt := top 16
theorem sc_lpower : FnScope ["_law_base", "_law_many", "_law_found", "_law_k"] ["_law_base", "_law_many"] (defScope s_lpower) := ⟨rfl, rfl, rfl, by decide +kernel, rfl, by decide +kernel, by decide +kernel⟩
theorem v_lpower_0 : (defScope s_lpower).names.lookup ("_law_base" : Str) = some NameKind.local := by decide +kernel
theorem v_lpower_1 : (defScope s_lpower).names.lookup ("_law_many" : Str) = some NameKind.local := by decide +kernel
theorem v_lpower_2 : (defScope s_lpower).names.lookup ("_law_found" : Str) = some NameKind.local := by decide +kernel
theorem v_lpower_3 : (defScope s_lpower).names.lookup ("_law_k" : Str) = some NameKind.local := by decide +kernel
theorem g_lpower_range (L a : Addr) (cd : Value) : (PyProof.Rows.envOfC "_law_power" (defScope s_lpower) L a cd).kindOf ("range" : Str) = some NameKind.globalImplicit := rfl
theorem ok_lpower {P : Program} {w : World} {K : PySem.W.Frag} {mg : Str → Option Value} {base : Heap} {f : Addr} {fd : FuncData} (F : Fun K "_law_power" "_law_power" s_lpower f fd) (B : Bn mg)     :
    FnOk P w K mg base (L2.CX P w) 2 f fd ["_law_base", "_law_many"] (spF K mg 2 [] f_lpower) := by
  refine fn_ok F sc_lpower (by decide) (by decide) fun cdv A outer s H E hr => ?_
  have nd := sc_lpower.nd
  have tk : Takes (cxOf (L2.CX P w) P w K mg base ["_law_base", "_law_many", "_law_found", "_law_k"] "_law_power" (defScope s_lpower) f cdv A outer s H E) (fun cls d _ H => E cls d H) := takes_of rfl rfl rfl rfl
  have pn : PassesOwn (model P w) (cxOf (L2.CX P w) P w K mg base ["_law_base", "_law_many", "_law_found", "_law_k"] "_law_power" (defScope s_lpower) f cdv A outer s H E).A (cxOf (L2.CX P w) P w K mg base ["_law_base", "_law_many", "_law_found", "_law_k"] "_law_power" (defScope s_lpower) f cdv A outer s H E).env (cxOf (L2.CX P w) P w K mg base ["_law_base", "_law_many", "_law_found", "_law_k"] "_law_power" (defScope s_lpower) f cdv A outer s H E).xe := passes_of rfl
  unfold m_lpower
  exact mss_cons (ms_set (i := 2) nd rfl (.inl v_lpower_2) (me_int)) (mss_cons (ms_for pn rfl (mi_r1 B.range (ma_cons (me_var (i := 1) rfl (.inl v_lpower_1)) (ma_nil)) (hg := (g_lpower_range _ _ _))) (mg_name (i := 3) nd rfl (.inl v_lpower_3)) (mss_one (ms_set (i := 2) nd rfl (.inl v_lpower_2) (me_mul (me_var (i := 2) rfl (.inl v_lpower_2)) (me_var (i := 0) rfl (.inl v_lpower_0)))))) (mss_one (ms_ret (me_var (i := 2) rfl (.inl v_lpower_2)))))

abbrev s_lends : Stmt := top 18
theorem sc_lends : FnScope ["_law_form_here", "_law_ten"] ["_law_form_here"] (defScope s_lends) := ⟨rfl, rfl, rfl, by decide +kernel, rfl, by decide +kernel, by decide +kernel⟩
theorem v_lends_0 : (defScope s_lends).names.lookup ("_law_form_here" : Str) = some NameKind.local := by decide +kernel
theorem v_lends_1 : (defScope s_lends).names.lookup ("_law_ten" : Str) = some NameKind.local := by decide +kernel
theorem g_lends_law_power (L a : Addr) (cd : Value) : (PyProof.Rows.envOfC "_law_ends" (defScope s_lends) L a cd).kindOf ("_law_power" : Str) = some NameKind.globalImplicit := rfl
theorem ok_lends {P : Program} {w : World} {K : PySem.W.Frag} {mg : Str → Option Value} {base : Heap} {f : Addr} {fd : FuncData} (F : Fun K "_law_ends" "_law_ends" s_lends f fd) (B : Bn mg) (h_lpower : Fd P w K mg base "_law_power" 2 ["_law_base", "_law_many"] [] f_lpower)    :
    FnOk P w K mg base (L2.CX P w) 4 f fd ["_law_form_here"] (spF K mg 1 [] f_lends) := by
  refine fn_ok F sc_lends (by decide) (by decide) fun cdv A outer s H E hr => ?_
  have nd := sc_lends.nd
  have tk : Takes (cxOf (L2.CX P w) P w K mg base ["_law_form_here", "_law_ten"] "_law_ends" (defScope s_lends) f cdv A outer s H E) (fun cls d _ H => E cls d H) := takes_of rfl rfl rfl rfl
  have pn : PassesOwn (model P w) (cxOf (L2.CX P w) P w K mg base ["_law_form_here", "_law_ten"] "_law_ends" (defScope s_lends) f cdv A outer s H E).A (cxOf (L2.CX P w) P w K mg base ["_law_form_here", "_law_ten"] "_law_ends" (defScope s_lends) f cdv A outer s H E).env (cxOf (L2.CX P w) P w K mg base ["_law_form_here", "_law_ten"] "_law_ends" (defScope s_lends) f cdv A outer s H E).xe := passes_of rfl
  unfold m_lends
  exact mss_cons (ms_set (i := 1) nd rfl (.inl v_lends_1) (me_fz (mf_call h_lpower hr (by decide) tk (ma_cons (me_int) (ma_cons (me_ix (me_var (i := 0) rfl (.inl v_lends_0)) (me_int)) (ma_nil))) (lng_cons (lng_cons lng_nil)) (hg := (g_lends_law_power _ _ _))))) (mss_cons (ms_if (mt_cmp (op_eqM hr.units) os_eq (me_ix (me_var (i := 0) rfl (.inl v_lends_0)) (me_int)) (me_str) (nomark _)) (mss_one (ms_ret (me_tup (ma_cons (me_int) (ma_cons (me_sub (me_var (i := 1) rfl (.inl v_lends_1)) (me_int)) (ma_nil)))))) (mss_nil)) (mss_cons (ms_if (mt_cmp (op_eqM hr.units) os_eq (me_ix (me_var (i := 0) rfl (.inl v_lends_0)) (me_int)) (me_str) (nomark _)) (mss_one (ms_ret (me_tup (ma_cons (me_sub (me_int) (me_var (i := 1) rfl (.inl v_lends_1))) (ma_cons (me_sub (me_var (i := 1) rfl (.inl v_lends_1)) (me_int)) (ma_nil)))))) (mss_nil)) (mss_one (ms_ret (me_tup (ma_cons (me_sub (me_int) (me_div (me_var (i := 1) rfl (.inl v_lends_1)) (me_int))) (ma_cons (me_sub (me_div (me_var (i := 1) rfl (.inl v_lends_1)) (me_int)) (me_int)) (ma_nil))))))))

abbrev s_lnumber : Stmt := top 19
theorem sc_lnumber : FnScope ["_law_form_here", "_law_way", "_law_far", "_law_size", "_law_some", "_law_number_here", "_law_low", "_law_high"] ["_law_form_here", "_law_way", "_law_far"] (defScope s_lnumber) := ⟨rfl, rfl, rfl, by decide +kernel, rfl, by decide +kernel, by decide +kernel⟩
theorem v_lnumber_0 : (defScope s_lnumber).names.lookup ("_law_form_here" : Str) = some NameKind.local := by decide +kernel
theorem v_lnumber_1 : (defScope s_lnumber).names.lookup ("_law_way" : Str) = some NameKind.local := by decide +kernel
theorem v_lnumber_2 : (defScope s_lnumber).names.lookup ("_law_far" : Str) = some NameKind.local := by decide +kernel
theorem v_lnumber_3 : (defScope s_lnumber).names.lookup ("_law_size" : Str) = some NameKind.local := by decide +kernel
theorem v_lnumber_4 : (defScope s_lnumber).names.lookup ("_law_some" : Str) = some NameKind.local := by decide +kernel
theorem v_lnumber_5 : (defScope s_lnumber).names.lookup ("_law_number_here" : Str) = some NameKind.local := by decide +kernel
theorem v_lnumber_6 : (defScope s_lnumber).names.lookup ("_law_low" : Str) = some NameKind.local := by decide +kernel
theorem v_lnumber_7 : (defScope s_lnumber).names.lookup ("_law_high" : Str) = some NameKind.local := by decide +kernel
theorem g_lnumber_law_ends (L a : Addr) (cd : Value) : (PyProof.Rows.envOfC "_law_number" (defScope s_lnumber) L a cd).kindOf ("_law_ends" : Str) = some NameKind.globalImplicit := rfl
theorem g_lnumber_law_power (L a : Addr) (cd : Value) : (PyProof.Rows.envOfC "_law_number" (defScope s_lnumber) L a cd).kindOf ("_law_power" : Str) = some NameKind.globalImplicit := rfl
theorem g_lnumber_min (L a : Addr) (cd : Value) : (PyProof.Rows.envOfC "_law_number" (defScope s_lnumber) L a cd).kindOf ("min" : Str) = some NameKind.globalImplicit := rfl
theorem g_lnumber_max (L a : Addr) (cd : Value) : (PyProof.Rows.envOfC "_law_number" (defScope s_lnumber) L a cd).kindOf ("max" : Str) = some NameKind.globalImplicit := rfl
theorem ok_lnumber {P : Program} {w : World} {K : PySem.W.Frag} {mg : Str → Option Value} {base : Heap} {f : Addr} {fd : FuncData} (F : Fun K "_law_number" "_law_number" s_lnumber f fd) (B : Bn mg) (h_lends : Fd P w K mg base "_law_ends" 4 ["_law_form_here"] [] f_lends) (h_lpower : Fd P w K mg base "_law_power" 2 ["_law_base", "_law_many"] [] f_lpower)    :
    FnOk P w K mg base (L2.CX P w) 6 f fd ["_law_form_here", "_law_way", "_law_far"] (spF K mg 3 [] f_lnumber) := by
  refine fn_ok F sc_lnumber (by decide) (by decide) fun cdv A outer s H E hr => ?_
  have nd := sc_lnumber.nd
  have tk : Takes (cxOf (L2.CX P w) P w K mg base ["_law_form_here", "_law_way", "_law_far", "_law_size", "_law_some", "_law_number_here", "_law_low", "_law_high"] "_law_number" (defScope s_lnumber) f cdv A outer s H E) (fun cls d _ H => E cls d H) := takes_of rfl rfl rfl rfl
  have pn : PassesOwn (model P w) (cxOf (L2.CX P w) P w K mg base ["_law_form_here", "_law_way", "_law_far", "_law_size", "_law_some", "_law_number_here", "_law_low", "_law_high"] "_law_number" (defScope s_lnumber) f cdv A outer s H E).A (cxOf (L2.CX P w) P w K mg base ["_law_form_here", "_law_way", "_law_far", "_law_size", "_law_some", "_law_number_here", "_law_low", "_law_high"] "_law_number" (defScope s_lnumber) f cdv A outer s H E).env (cxOf (L2.CX P w) P w K mg base ["_law_form_here", "_law_way", "_law_far", "_law_size", "_law_some", "_law_number_here", "_law_low", "_law_high"] "_law_number" (defScope s_lnumber) f cdv A outer s H E).xe := passes_of rfl
  unfold m_lnumber
  exact mss_cons (ms_asg (me_fz (mf_call h_lends hr (by decide) tk (ma_cons (me_var (i := 0) rfl (.inl v_lnumber_0)) (ma_nil)) (lng_cons lng_nil) (hg := (g_lnumber_law_ends _ _ _)))) (mg_tup rfl (mgs_cons (mg_name (i := 6) nd rfl (.inl v_lnumber_6)) (mgs_cons (mg_name (i := 7) nd rfl (.inl v_lnumber_7)) (mgs_nil))))) (mss_cons (ms_if (mt_cmp op_gt os_gt (me_var (i := 1) rfl (.inl v_lnumber_1)) (me_int) (nomark _)) (mss_one (ms_ret (me_add (me_var (i := 6) rfl (.inl v_lnumber_6)) (me_mod (me_var (i := 2) rfl (.inl v_lnumber_2)) (me_add (me_sub (me_var (i := 7) rfl (.inl v_lnumber_7)) (me_var (i := 6) rfl (.inl v_lnumber_6))) (me_int)))))) (mss_nil)) (mss_cons (ms_set (i := 3) nd rfl (.inl v_lnumber_3) (me_fz (mf_call h_lpower hr (by decide) tk (ma_cons (me_int) (ma_cons (me_mod (me_var (i := 2) rfl (.inl v_lnumber_2)) (me_ix (me_var (i := 0) rfl (.inl v_lnumber_0)) (me_int))) (ma_nil))) (lng_cons (lng_cons lng_nil)) (hg := (g_lnumber_law_power _ _ _))))) (mss_cons (ms_setO (i := 4) nd rfl (.inl v_lnumber_4) (mo_lst (ma_cons (me_int) (ma_cons (me_int) (ma_cons (me_var (i := 7) rfl (.inl v_lnumber_7)) (ma_cons (me_var (i := 6) rfl (.inl v_lnumber_6)) (ma_cons (me_var (i := 3) rfl (.inl v_lnumber_3)) (ma_cons (me_sub (me_var (i := 3) rfl (.inl v_lnumber_3)) (me_int)) (ma_cons (me_mul (me_int) (me_var (i := 3) rfl (.inl v_lnumber_3))) (ma_cons (me_mul (me_int) (me_var (i := 3) rfl (.inl v_lnumber_3))) (ma_cons (me_add (me_var (i := 3) rfl (.inl v_lnumber_3)) (me_int)) (ma_nil)))))))))))) (mss_cons (ms_expr (me_lm1 ls_append PySem.F.slot_list_append PySem.F.type_list_append mt_append (i := 4) rfl (.inl v_lnumber_4) (ma_cons (me_mod (me_div (me_var (i := 2) rfl (.inl v_lnumber_2)) (me_int)) (me_mul (me_int) (me_var (i := 3) rfl (.inl v_lnumber_3)))) (ma_nil)))) (mss_cons (ms_set (i := 5) nd rfl (.inl v_lnumber_5) (me_ixV (i := 4) rfl (.inl v_lnumber_4) (me_var (i := 1) rfl (.inl v_lnumber_1)))) (mss_cons (ms_if (PW.pt (mw_and (mt_cmp op_lt os_lt (me_var (i := 6) rfl (.inl v_lnumber_6)) (me_int) (nomark _)) (mw_one_and (mt_cmp (op_eqM hr.units) os_eq (me_mod (me_div (me_var (i := 2) rfl (.inl v_lnumber_2)) (me_int)) (me_int)) (me_int) (nomark _))))) (mss_one (ms_set (i := 5) nd rfl (.inl v_lnumber_5) (me_sub (me_int) (me_var (i := 5) rfl (.inl v_lnumber_5))))) (mss_nil)) (mss_one (ms_ret (mb_max rfl B.max (ma_cons (me_var (i := 6) rfl (.inl v_lnumber_6)) (ma_cons (mb_min rfl B.min (ma_cons (me_var (i := 7) rfl (.inl v_lnumber_7)) (ma_cons (me_var (i := 5) rfl (.inl v_lnumber_5)) (ma_nil))) (hg := (g_lnumber_min _ _ _))) (ma_nil))) (hg := (g_lnumber_max _ _ _)))))))))))

abbrev s_lform : Stmt := top 17
theorem sc_lform : FnScope ["_law_kind", "_law_many", "_law_sign", "_law_point"] ["_law_kind", "_law_many", "_law_sign"] (defScope s_lform) := ⟨rfl, rfl, rfl, by decide +kernel, rfl, by decide +kernel, by decide +kernel⟩
theorem v_lform_0 : (defScope s_lform).names.lookup ("_law_kind" : Str) = some NameKind.local := by decide +kernel
theorem v_lform_1 : (defScope s_lform).names.lookup ("_law_many" : Str) = some NameKind.local := by decide +kernel
theorem v_lform_2 : (defScope s_lform).names.lookup ("_law_sign" : Str) = some NameKind.local := by decide +kernel
theorem v_lform_3 : (defScope s_lform).names.lookup ("_law_point" : Str) = some NameKind.local := by decide +kernel
theorem ok_lform {P : Program} {w : World} {K : PySem.W.Frag} {mg : Str → Option Value} {base : Heap} {f : Addr} {fd : FuncData} (F : Fun K "_law_form" "_law_form" s_lform f fd) (B : Bn mg)     :
    FnOk P w K mg base (L2.CX P w) 2 f fd ["_law_kind", "_law_many", "_law_sign"] (spF K mg 3 [] f_lform) := by
  refine fn_ok F sc_lform (by decide) (by decide) fun cdv A outer s H E hr => ?_
  have nd := sc_lform.nd
  have tk : Takes (cxOf (L2.CX P w) P w K mg base ["_law_kind", "_law_many", "_law_sign", "_law_point"] "_law_form" (defScope s_lform) f cdv A outer s H E) (fun cls d _ H => E cls d H) := takes_of rfl rfl rfl rfl
  have pn : PassesOwn (model P w) (cxOf (L2.CX P w) P w K mg base ["_law_kind", "_law_many", "_law_sign", "_law_point"] "_law_form" (defScope s_lform) f cdv A outer s H E).A (cxOf (L2.CX P w) P w K mg base ["_law_kind", "_law_many", "_law_sign", "_law_point"] "_law_form" (defScope s_lform) f cdv A outer s H E).env (cxOf (L2.CX P w) P w K mg base ["_law_kind", "_law_many", "_law_sign", "_law_point"] "_law_form" (defScope s_lform) f cdv A outer s H E).xe := passes_of rfl
  unfold m_lform
  exact mss_cons (ms_set (i := 3) nd rfl (.inl v_lform_3) (me_mod (me_add (me_add (me_mul (me_int) (me_var (i := 1) rfl (.inl v_lform_1))) (me_mul (me_int) (me_var (i := 0) rfl (.inl v_lform_0)))) (me_var (i := 2) rfl (.inl v_lform_2))) (me_add (me_var (i := 1) rfl (.inl v_lform_1)) (me_int)))) (mss_one (ms_ret (me_tup (ma_cons (me_ix (me_lst (ma_cons (me_str) (ma_cons (me_str) (ma_nil)))) (me_var (i := 0) rfl (.inl v_lform_0))) (ma_cons (me_add (me_int) (me_var (i := 1) rfl (.inl v_lform_1))) (ma_cons (me_ix (me_lst (ma_cons (me_str) (ma_cons (me_str) (ma_cons (me_str) (ma_nil))))) (me_var (i := 2) rfl (.inl v_lform_2))) (ma_cons (me_var (i := 3) rfl (.inl v_lform_3)) (ma_nil))))))))

abbrev s_ppower : Stmt := top 5
theorem sc_ppower : FnScope ["base", "many", "found", "k"] ["base", "many"] (defScope s_ppower) := ⟨rfl, rfl, rfl, by decide +kernel, rfl, by decide +kernel, by decide +kernel⟩
theorem v_ppower_0 : (defScope s_ppower).names.lookup ("base" : Str) = some NameKind.local := by decide +kernel
theorem v_ppower_1 : (defScope s_ppower).names.lookup ("many" : Str) = some NameKind.local := by decide +kernel
theorem v_ppower_2 : (defScope s_ppower).names.lookup ("found" : Str) = some NameKind.local := by decide +kernel
theorem v_ppower_3 : (defScope s_ppower).names.lookup ("k" : Str) = some NameKind.local := by decide +kernel
theorem g_ppower_range (L a : Addr) (cd : Value) : (PyProof.Rows.envOfC "power" (defScope s_ppower) L a cd).kindOf ("range" : Str) = some NameKind.globalImplicit := rfl
theorem ok_ppower {P : Program} {w : World} {K : PySem.W.Frag} {mg : Str → Option Value} {base : Heap} {f : Addr} {fd : FuncData} (F : Fun K "power" "power" s_ppower f fd) (B : Bn mg)     :
    FnOk P w K mg base (L2.CX P w) 2 f fd ["base", "many"] (spF K mg 2 [] f_ppower) := by
  refine fn_ok F sc_ppower (by decide) (by decide) fun cdv A outer s H E hr => ?_
  have nd := sc_ppower.nd
  have tk : Takes (cxOf (L2.CX P w) P w K mg base ["base", "many", "found", "k"] "power" (defScope s_ppower) f cdv A outer s H E) (fun cls d _ H => E cls d H) := takes_of rfl rfl rfl rfl
  have pn : PassesOwn (model P w) (cxOf (L2.CX P w) P w K mg base ["base", "many", "found", "k"] "power" (defScope s_ppower) f cdv A outer s H E).A (cxOf (L2.CX P w) P w K mg base ["base", "many", "found", "k"] "power" (defScope s_ppower) f cdv A outer s H E).env (cxOf (L2.CX P w) P w K mg base ["base", "many", "found", "k"] "power" (defScope s_ppower) f cdv A outer s H E).xe := passes_of rfl
  unfold m_ppower
  exact mss_cons (ms_set (i := 2) nd rfl (.inl v_ppower_2) (me_int)) (mss_cons (ms_for pn rfl (mi_r1 B.range (ma_cons (me_var (i := 1) rfl (.inl v_ppower_1)) (ma_nil)) (hg := (g_ppower_range _ _ _))) (mg_name (i := 3) nd rfl (.inl v_ppower_3)) (mss_one (ms_set (i := 2) nd rfl (.inl v_ppower_2) (me_mul (me_var (i := 2) rfl (.inl v_ppower_2)) (me_var (i := 0) rfl (.inl v_ppower_0)))))) (mss_one (ms_ret (me_var (i := 2) rfl (.inl v_ppower_2)))))

abbrev s_pleast_of : Stmt := top 7
theorem sc_pleast_of : FnScope ["form"] ["form"] (defScope s_pleast_of) := ⟨rfl, rfl, rfl, by decide +kernel, rfl, by decide +kernel, by decide +kernel⟩
theorem v_pleast_of_0 : (defScope s_pleast_of).names.lookup ("form" : Str) = some NameKind.local := by decide +kernel
theorem g_pleast_of_power (L a : Addr) (cd : Value) : (PyProof.Rows.envOfC "least_of" (defScope s_pleast_of) L a cd).kindOf ("power" : Str) = some NameKind.globalImplicit := rfl
theorem ok_pleast_of {P : Program} {w : World} {K : PySem.W.Frag} {mg : Str → Option Value} {base : Heap} {f : Addr} {fd : FuncData} (F : Fun K "least_of" "least_of" s_pleast_of f fd) (B : Bn mg) (h_ppower : Fd P w K mg base "power" 2 ["base", "many"] [] f_ppower)    :
    FnOk P w K mg base (L2.CX P w) 4 f fd ["form"] (spF K mg 1 [] f_pleast_of) := by
  refine fn_ok F sc_pleast_of (by decide) (by decide) fun cdv A outer s H E hr => ?_
  have nd := sc_pleast_of.nd
  have tk : Takes (cxOf (L2.CX P w) P w K mg base ["form"] "least_of" (defScope s_pleast_of) f cdv A outer s H E) (fun cls d _ H => E cls d H) := takes_of rfl rfl rfl rfl
  have pn : PassesOwn (model P w) (cxOf (L2.CX P w) P w K mg base ["form"] "least_of" (defScope s_pleast_of) f cdv A outer s H E).A (cxOf (L2.CX P w) P w K mg base ["form"] "least_of" (defScope s_pleast_of) f cdv A outer s H E).env (cxOf (L2.CX P w) P w K mg base ["form"] "least_of" (defScope s_pleast_of) f cdv A outer s H E).xe := passes_of rfl
  unfold m_pleast_of
  exact mss_cons (ms_if (mt_cmp (op_eqM hr.units) os_eq (me_ix (me_var (i := 0) rfl (.inl v_pleast_of_0)) (me_int)) (me_str) (nomark _)) (mss_one (ms_ret (me_int))) (mss_nil)) (mss_cons (ms_if (mt_cmp (op_eqM hr.units) os_eq (me_ix (me_var (i := 0) rfl (.inl v_pleast_of_0)) (me_int)) (me_str) (nomark _)) (mss_one (ms_ret (me_sub (me_int) (me_fz (mf_call h_ppower hr (by decide) tk (ma_cons (me_int) (ma_cons (me_ix (me_var (i := 0) rfl (.inl v_pleast_of_0)) (me_int)) (ma_nil))) (lng_cons (lng_cons lng_nil)) (hg := (g_pleast_of_power _ _ _))))))) (mss_nil)) (mss_one (ms_ret (me_mul (me_neg (me_int)) (me_fz (mf_call h_ppower hr (by decide) tk (ma_cons (me_int) (ma_cons (me_sub (me_ix (me_var (i := 0) rfl (.inl v_pleast_of_0)) (me_int)) (me_int)) (ma_nil))) (lng_cons (lng_cons lng_nil)) (hg := (g_pleast_of_power _ _ _))))))))

abbrev s_pmost_of : Stmt := top 8
theorem sc_pmost_of : FnScope ["form"] ["form"] (defScope s_pmost_of) := ⟨rfl, rfl, rfl, by decide +kernel, rfl, by decide +kernel, by decide +kernel⟩
theorem v_pmost_of_0 : (defScope s_pmost_of).names.lookup ("form" : Str) = some NameKind.local := by decide +kernel
theorem g_pmost_of_power (L a : Addr) (cd : Value) : (PyProof.Rows.envOfC "most_of" (defScope s_pmost_of) L a cd).kindOf ("power" : Str) = some NameKind.globalImplicit := rfl
theorem ok_pmost_of {P : Program} {w : World} {K : PySem.W.Frag} {mg : Str → Option Value} {base : Heap} {f : Addr} {fd : FuncData} (F : Fun K "most_of" "most_of" s_pmost_of f fd) (B : Bn mg) (h_ppower : Fd P w K mg base "power" 2 ["base", "many"] [] f_ppower)    :
    FnOk P w K mg base (L2.CX P w) 4 f fd ["form"] (spF K mg 1 [] f_pmost_of) := by
  refine fn_ok F sc_pmost_of (by decide) (by decide) fun cdv A outer s H E hr => ?_
  have nd := sc_pmost_of.nd
  have tk : Takes (cxOf (L2.CX P w) P w K mg base ["form"] "most_of" (defScope s_pmost_of) f cdv A outer s H E) (fun cls d _ H => E cls d H) := takes_of rfl rfl rfl rfl
  have pn : PassesOwn (model P w) (cxOf (L2.CX P w) P w K mg base ["form"] "most_of" (defScope s_pmost_of) f cdv A outer s H E).A (cxOf (L2.CX P w) P w K mg base ["form"] "most_of" (defScope s_pmost_of) f cdv A outer s H E).env (cxOf (L2.CX P w) P w K mg base ["form"] "most_of" (defScope s_pmost_of) f cdv A outer s H E).xe := passes_of rfl
  unfold m_pmost_of
  exact mss_cons (ms_if (mt_cmp (op_eqM hr.units) os_eq (me_ix (me_var (i := 0) rfl (.inl v_pmost_of_0)) (me_int)) (me_str) (nomark _)) (mss_one (ms_ret (me_sub (me_mul (me_int) (me_fz (mf_call h_ppower hr (by decide) tk (ma_cons (me_int) (ma_cons (me_sub (me_ix (me_var (i := 0) rfl (.inl v_pmost_of_0)) (me_int)) (me_int)) (ma_nil))) (lng_cons (lng_cons lng_nil)) (hg := (g_pmost_of_power _ _ _))))) (me_int)))) (mss_nil)) (mss_one (ms_ret (me_sub (me_fz (mf_call h_ppower hr (by decide) tk (ma_cons (me_int) (ma_cons (me_ix (me_var (i := 0) rfl (.inl v_pmost_of_0)) (me_int)) (ma_nil))) (lng_cons (lng_cons lng_nil)) (hg := (g_pmost_of_power _ _ _)))) (me_int))))

abbrev s_pfits : Stmt := top 9
theorem sc_pfits : FnScope ["form", "number"] ["form", "number"] (defScope s_pfits) := ⟨rfl, rfl, rfl, by decide +kernel, rfl, by decide +kernel, by decide +kernel⟩
theorem v_pfits_0 : (defScope s_pfits).names.lookup ("form" : Str) = some NameKind.local := by decide +kernel
theorem v_pfits_1 : (defScope s_pfits).names.lookup ("number" : Str) = some NameKind.local := by decide +kernel
theorem g_pfits_least_of (L a : Addr) (cd : Value) : (PyProof.Rows.envOfC "fits" (defScope s_pfits) L a cd).kindOf ("least_of" : Str) = some NameKind.globalImplicit := rfl
theorem g_pfits_most_of (L a : Addr) (cd : Value) : (PyProof.Rows.envOfC "fits" (defScope s_pfits) L a cd).kindOf ("most_of" : Str) = some NameKind.globalImplicit := rfl
theorem ok_pfits {P : Program} {w : World} {K : PySem.W.Frag} {mg : Str → Option Value} {base : Heap} {f : Addr} {fd : FuncData} (F : Fun K "fits" "fits" s_pfits f fd) (B : Bn mg) (h_pleast_of : Fd P w K mg base "least_of" 4 ["form"] [] f_pleast_of) (h_pmost_of : Fd P w K mg base "most_of" 4 ["form"] [] f_pmost_of)    :
    FnOk P w K mg base (L2.CX P w) 6 f fd ["form", "number"] (spF K mg 2 [] f_pfits) := by
  refine fn_ok F sc_pfits (by decide) (by decide) fun cdv A outer s H E hr => ?_
  have nd := sc_pfits.nd
  have tk : Takes (cxOf (L2.CX P w) P w K mg base ["form", "number"] "fits" (defScope s_pfits) f cdv A outer s H E) (fun cls d _ H => E cls d H) := takes_of rfl rfl rfl rfl
  have pn : PassesOwn (model P w) (cxOf (L2.CX P w) P w K mg base ["form", "number"] "fits" (defScope s_pfits) f cdv A outer s H E).A (cxOf (L2.CX P w) P w K mg base ["form", "number"] "fits" (defScope s_pfits) f cdv A outer s H E).env (cxOf (L2.CX P w) P w K mg base ["form", "number"] "fits" (defScope s_pfits) f cdv A outer s H E).xe := passes_of rfl
  unfold m_pfits
  exact mss_one (ms_ret (me_chain op_le os_le op_le os_le (me_fz (mf_call h_pleast_of hr (by decide) tk (ma_cons (me_var (i := 0) rfl (.inl v_pfits_0)) (ma_nil)) (lng_cons lng_nil) (hg := (g_pfits_least_of _ _ _)))) (me_var (i := 1) rfl (.inl v_pfits_1)) (me_fz (mf_call h_pmost_of hr (by decide) tk (ma_cons (me_var (i := 0) rfl (.inl v_pfits_0)) (ma_nil)) (lng_cons lng_nil) (hg := (g_pfits_most_of _ _ _))))))

abbrev s_pwritten : Stmt := top 11
theorem sc_pwritten : FnScope ["form", "number", "figures"] ["form", "number"] (defScope s_pwritten) := ⟨rfl, rfl, rfl, by decide +kernel, rfl, by decide +kernel, by decide +kernel⟩
theorem v_pwritten_0 : (defScope s_pwritten).names.lookup ("form" : Str) = some NameKind.local := by decide +kernel
theorem v_pwritten_1 : (defScope s_pwritten).names.lookup ("number" : Str) = some NameKind.local := by decide +kernel
theorem v_pwritten_2 : (defScope s_pwritten).names.lookup ("figures" : Str) = some NameKind.local := by decide +kernel
theorem g_pwritten_fits (L a : Addr) (cd : Value) : (PyProof.Rows.envOfC "written" (defScope s_pwritten) L a cd).kindOf ("fits" : Str) = some NameKind.globalImplicit := rfl
theorem g_pwritten_NoFit (L a : Addr) (cd : Value) : (PyProof.Rows.envOfC "written" (defScope s_pwritten) L a cd).kindOf ("NoFit" : Str) = some NameKind.globalImplicit := rfl
theorem g_pwritten_abs (L a : Addr) (cd : Value) : (PyProof.Rows.envOfC "written" (defScope s_pwritten) L a cd).kindOf ("abs" : Str) = some NameKind.globalImplicit := rfl
theorem g_pwritten_str (L a : Addr) (cd : Value) : (PyProof.Rows.envOfC "written" (defScope s_pwritten) L a cd).kindOf ("str" : Str) = some NameKind.globalImplicit := rfl
theorem ok_pwritten {P : Program} {w : World} {K : PySem.W.Frag} {mg : Str → Option Value} {base : Heap} {f : Addr} {fd : FuncData} (F : Fun K "written" "written" s_pwritten f fd) (B : Bn mg) (h_pfits : Fd P w K mg base "fits" 6 ["form", "number"] [] f_pfits)  (xcl1_NoFit_number : Cl1 P w K mg base "NoFit" "number")  :
    FnOk P w K mg base (L2.CX P w) 8 f fd ["form", "number"] (spF K mg 2 [] f_pwritten) := by
  refine fn_ok F sc_pwritten (by decide) (by decide) fun cdv A outer s H E hr => ?_
  have nd := sc_pwritten.nd
  have tk : Takes (cxOf (L2.CX P w) P w K mg base ["form", "number", "figures"] "written" (defScope s_pwritten) f cdv A outer s H E) (fun cls d _ H => E cls d H) := takes_of rfl rfl rfl rfl
  have pn : PassesOwn (model P w) (cxOf (L2.CX P w) P w K mg base ["form", "number", "figures"] "written" (defScope s_pwritten) f cdv A outer s H E).A (cxOf (L2.CX P w) P w K mg base ["form", "number", "figures"] "written" (defScope s_pwritten) f cdv A outer s H E).env (cxOf (L2.CX P w) P w K mg base ["form", "number", "figures"] "written" (defScope s_pwritten) f cdv A outer s H E).xe := passes_of rfl
  unfold m_pwritten
  exact mss_cons (ms_if (mt_not (mt_val (me_fz (mf_call h_pfits hr (by decide) tk (ma_cons (me_var (i := 0) rfl (.inl v_pwritten_0)) (ma_cons (me_var (i := 1) rfl (.inl v_pwritten_1)) (ma_nil))) (lng_cons (lng_cons lng_nil)) (hg := (g_pwritten_fits _ _ _)))))) (mss_one (ms_raise1 xcl1_NoFit_number rfl hr (by decide) tk (g_pwritten_NoFit _ _ _) (me_var (i := 1) rfl (.inl v_pwritten_1)))) (mss_nil)) (mss_cons (ms_set (i := 2) nd rfl (.inl v_pwritten_2) (me_sm ss_zfill PySem.F.slot_str_zfill PySem.F.type_str_zfill mt_zfill (mb_str B.str (ma_cons (mb_abs B.abs (ma_cons (me_var (i := 1) rfl (.inl v_pwritten_1)) (ma_nil)) (hg := (g_pwritten_abs _ _ _))) (ma_nil)) (hg := (g_pwritten_str _ _ _))) (ma_cons (me_add (me_ix (me_var (i := 0) rfl (.inl v_pwritten_0)) (me_int)) (me_int)) (ma_nil)))) (mss_cons (ms_if (mt_cmp op_gt os_gt (me_ix (me_var (i := 0) rfl (.inl v_pwritten_0)) (me_int)) (me_int) (nomark _)) (mss_one (ms_set (i := 2) nd rfl (.inl v_pwritten_2) (me_add (me_add (me_sl (me_var (i := 2) rfl (.inl v_pwritten_2)) (mp_none) (mp_some (me_neg (me_ix (me_var (i := 0) rfl (.inl v_pwritten_0)) (me_int))))) (me_str)) (me_sl (me_var (i := 2) rfl (.inl v_pwritten_2)) (mp_some (me_neg (me_ix (me_var (i := 0) rfl (.inl v_pwritten_0)) (me_int)))) (mp_none))))) (mss_nil)) (mss_cons (ms_if (mt_cmp op_lt os_lt (me_var (i := 1) rfl (.inl v_pwritten_1)) (me_int) (nomark _)) (mss_one (ms_ret (me_add (me_str) (me_var (i := 2) rfl (.inl v_pwritten_2))))) (mss_nil)) (mss_one (ms_ret (me_var (i := 2) rfl (.inl v_pwritten_2)))))))

abbrev s_ltext2 : Stmt := top 20
theorem sc_ltext2 : FnScope ["_law_form_here", "_law_number_here", "_law_figures", "_law_size", "_law_at"] ["_law_form_here", "_law_number_here"] (defScope s_ltext2) := ⟨rfl, rfl, rfl, by decide +kernel, rfl, by decide +kernel, by decide +kernel⟩
theorem v_ltext2_0 : (defScope s_ltext2).names.lookup ("_law_form_here" : Str) = some NameKind.local := by decide +kernel
theorem v_ltext2_1 : (defScope s_ltext2).names.lookup ("_law_number_here" : Str) = some NameKind.local := by decide +kernel
theorem v_ltext2_2 : (defScope s_ltext2).names.lookup ("_law_figures" : Str) = some NameKind.local := by decide +kernel
theorem v_ltext2_3 : (defScope s_ltext2).names.lookup ("_law_size" : Str) = some NameKind.local := by decide +kernel
theorem v_ltext2_4 : (defScope s_ltext2).names.lookup ("_law_at" : Str) = some NameKind.local := by decide +kernel
theorem g_ltext2_abs (L a : Addr) (cd : Value) : (PyProof.Rows.envOfC "_law_text" (defScope s_ltext2) L a cd).kindOf ("abs" : Str) = some NameKind.globalImplicit := rfl
theorem g_ltext2_len (L a : Addr) (cd : Value) : (PyProof.Rows.envOfC "_law_text" (defScope s_ltext2) L a cd).kindOf ("len" : Str) = some NameKind.globalImplicit := rfl
theorem g_ltext2_int (L a : Addr) (cd : Value) : (PyProof.Rows.envOfC "_law_text" (defScope s_ltext2) L a cd).kindOf ("int" : Str) = some NameKind.globalImplicit := rfl
theorem ok_ltext2 {P : Program} {w : World} {K : PySem.W.Frag} {mg : Str → Option Value} {base : Heap} {f : Addr} {fd : FuncData} (F : Fun K "_law_text" "_law_text" s_ltext2 f fd) (B : Bn mg)     :
    FnOk P w K mg base (L2.CX P w) 2 f fd ["_law_form_here", "_law_number_here"] (spF K mg 2 [] f_ltext2) := by
  refine fn_ok F sc_ltext2 (by decide) (by decide) fun cdv A outer s H E hr => ?_
  have nd := sc_ltext2.nd
  have tk : Takes (cxOf (L2.CX P w) P w K mg base ["_law_form_here", "_law_number_here", "_law_figures", "_law_size", "_law_at"] "_law_text" (defScope s_ltext2) f cdv A outer s H E) (fun cls d _ H => E cls d H) := takes_of rfl rfl rfl rfl
  have pn : PassesOwn (model P w) (cxOf (L2.CX P w) P w K mg base ["_law_form_here", "_law_number_here", "_law_figures", "_law_size", "_law_at"] "_law_text" (defScope s_ltext2) f cdv A outer s H E).A (cxOf (L2.CX P w) P w K mg base ["_law_form_here", "_law_number_here", "_law_figures", "_law_size", "_law_at"] "_law_text" (defScope s_ltext2) f cdv A outer s H E).env (cxOf (L2.CX P w) P w K mg base ["_law_form_here", "_law_number_here", "_law_figures", "_law_size", "_law_at"] "_law_text" (defScope s_ltext2) f cdv A outer s H E).xe := passes_of rfl
  unfold m_ltext2
  exact mss_cons (ms_set (i := 2) nd rfl (.inl v_ltext2_2) (me_str)) (mss_cons (ms_set (i := 3) nd rfl (.inl v_ltext2_3) (mb_abs B.abs (ma_cons (me_var (i := 1) rfl (.inl v_ltext2_1)) (ma_nil)) (hg := (g_ltext2_abs _ _ _)))) (mss_cons (ms_while pn (PW.pt (mw_or (mt_cmp op_gt os_gt (me_var (i := 3) rfl (.inl v_ltext2_3)) (me_int) (nomark _)) (mw_one_or (mt_cmp op_lt os_lt (mb_len B.len (ma_cons (me_var (i := 2) rfl (.inl v_ltext2_2)) (ma_nil)) (hg := (g_ltext2_len _ _ _))) (me_add (me_ix (me_var (i := 0) rfl (.inl v_ltext2_0)) (me_int)) (me_int)) (nomark _))))) (mss_cons (ms_set (i := 2) nd rfl (.inl v_ltext2_2) (me_add (me_ix (me_str) (me_mod (me_var (i := 3) rfl (.inl v_ltext2_3)) (me_int))) (me_var (i := 2) rfl (.inl v_ltext2_2)))) (mss_one (ms_set (i := 3) nd rfl (.inl v_ltext2_3) (me_div (me_var (i := 3) rfl (.inl v_ltext2_3)) (me_int)))))) (mss_cons (ms_if (mt_cmp op_gt os_gt (me_ix (me_var (i := 0) rfl (.inl v_ltext2_0)) (me_int)) (me_int) (nomark _)) (mss_cons (ms_set (i := 4) nd rfl (.inl v_ltext2_4) (me_sub (mb_len B.len (ma_cons (me_var (i := 2) rfl (.inl v_ltext2_2)) (ma_nil)) (hg := (g_ltext2_len _ _ _))) (me_ix (me_var (i := 0) rfl (.inl v_ltext2_0)) (me_int)))) (mss_one (ms_set (i := 2) nd rfl (.inl v_ltext2_2) (me_add (me_add (me_sl (me_var (i := 2) rfl (.inl v_ltext2_2)) (mp_none) (mp_some (me_var (i := 4) rfl (.inl v_ltext2_4)))) (me_str)) (me_sl (me_var (i := 2) rfl (.inl v_ltext2_2)) (mp_some (me_var (i := 4) rfl (.inl v_ltext2_4))) (mp_none)))))) (mss_nil)) (mss_one (ms_ret (me_add (me_mul (me_str) (mb_int B.int (ma_cons (me_cmp op_lt os_lt (me_var (i := 1) rfl (.inl v_ltext2_1)) (me_int) (nomark _)) (ma_nil)) (hg := (g_ltext2_int _ _ _)))) (me_var (i := 2) rfl (.inl v_ltext2_2))))))))

abbrev s_lrefused2 : Stmt := top 21
theorem sc_lrefused2 : FnScope ["_law_form_here", "_law_number_here", "_law_good", "e"] ["_law_form_here", "_law_number_here"] (defScope s_lrefused2) := ⟨rfl, rfl, rfl, by decide +kernel, rfl, by decide +kernel, by decide +kernel⟩
theorem v_lrefused2_0 : (defScope s_lrefused2).names.lookup ("_law_form_here" : Str) = some NameKind.local := by decide +kernel
theorem v_lrefused2_1 : (defScope s_lrefused2).names.lookup ("_law_number_here" : Str) = some NameKind.local := by decide +kernel
theorem v_lrefused2_2 : (defScope s_lrefused2).names.lookup ("_law_good" : Str) = some NameKind.local := by decide +kernel
theorem v_lrefused2_3 : (defScope s_lrefused2).names.lookup ("e" : Str) = some NameKind.local := by decide +kernel
theorem g_lrefused2_NoFit (L a : Addr) (cd : Value) : (PyProof.Rows.envOfC "_law_refused" (defScope s_lrefused2) L a cd).kindOf ("NoFit" : Str) = some NameKind.globalImplicit := rfl
theorem g_lrefused2_written (L a : Addr) (cd : Value) : (PyProof.Rows.envOfC "_law_refused" (defScope s_lrefused2) L a cd).kindOf ("written" : Str) = some NameKind.globalImplicit := rfl
theorem g_lrefused2_isinstance (L a : Addr) (cd : Value) : (PyProof.Rows.envOfC "_law_refused" (defScope s_lrefused2) L a cd).kindOf ("isinstance" : Str) = some NameKind.globalImplicit := rfl
theorem g_lrefused2_LoftError (L a : Addr) (cd : Value) : (PyProof.Rows.envOfC "_law_refused" (defScope s_lrefused2) L a cd).kindOf ("LoftError" : Str) = some NameKind.globalImplicit := rfl
theorem g_lrefused2_NoText (L a : Addr) (cd : Value) : (PyProof.Rows.envOfC "_law_refused" (defScope s_lrefused2) L a cd).kindOf ("NoText" : Str) = some NameKind.globalImplicit := rfl
theorem ok_lrefused2 {P : Program} {w : World} {K : PySem.W.Frag} {mg : Str → Option Value} {base : Heap} {f : Addr} {fd : FuncData} (F : Fun K "_law_refused" "_law_refused" s_lrefused2 f fd) (B : Bn mg) (h_pwritten : Fd P w K mg base "written" 8 ["form", "number"] [] f_pwritten)  (xext_NoFit_NoFit_True : ExT K mg "NoFit" "NoFit" true) (xcls_NoFit : ∃ D, mg "NoFit" = some (.ref D)) (xxcf_NoFit_number : XcF K mg ["number"] "NoFit") (xkit_LoftError_NoFit_True : KiT K mg "LoftError" "NoFit" true) (xcls_LoftError : ∃ D, mg "LoftError" = some (.ref D)) (xkit_NoText_NoFit_False : KiT K mg "NoText" "NoFit" false) (xcls_NoText : ∃ D, mg "NoText" = some (.ref D))  :
    FnOk P w K mg base (L2.CX P w) 10 f fd ["_law_form_here", "_law_number_here"] (spF K mg 2 [] f_lrefused2) := by
  refine fn_ok F sc_lrefused2 (by decide) (by decide) fun cdv A outer s H E hr => ?_
  have nd := sc_lrefused2.nd
  have tk : Takes (cxOf (L2.CX P w) P w K mg base ["_law_form_here", "_law_number_here", "_law_good", "e"] "_law_refused" (defScope s_lrefused2) f cdv A outer s H E) (fun cls d _ H => E cls d H) := takes_of rfl rfl rfl rfl
  have pn : PassesOwn (model P w) (cxOf (L2.CX P w) P w K mg base ["_law_form_here", "_law_number_here", "_law_good", "e"] "_law_refused" (defScope s_lrefused2) f cdv A outer s H E).A (cxOf (L2.CX P w) P w K mg base ["_law_form_here", "_law_number_here", "_law_good", "e"] "_law_refused" (defScope s_lrefused2) f cdv A outer s H E).env (cxOf (L2.CX P w) P w K mg base ["_law_form_here", "_law_number_here", "_law_good", "e"] "_law_refused" (defScope s_lrefused2) f cdv A outer s H E).xe := passes_of rfl
  unfold m_lrefused2
  exact mss_cons (ms_set (i := 2) nd rfl (.inl v_lrefused2_2) (me_bl)) (mss_cons (ms_try (i := 3) (tab := [("NoFit", true)]) rfl rfl nd rfl (by first | rfl | decide +kernel) (g_lrefused2_NoFit _ _ _) tk (fa_cons xext_NoFit_NoFit_True (fa_nil)) xcls_NoFit (fun W pl xe tk pn => mss_one (ms_expr (me_fz (mf_call h_pwritten hr (by decide) tk (ma_cons (me_var (i := 0) rfl (.inl v_lrefused2_0)) (ma_cons (me_var (i := 1) rfl (.inl v_lrefused2_1)) (ma_nil))) (lng_cons (lng_cons lng_nil)) (hg := (g_lrefused2_written _ _ _)))))) (fun a oe C d pl e hC hT hz hv => mss_one (ms_set (i := 2) nd rfl (.inl v_lrefused2_2) (me_and (mx_is (xc_at (fs := ["number"]) (ts := ["NoFit"]) (fa_cons xxcf_NoFit_number (fa_nil)) (by decide) hC hT) (fa_cons xkit_LoftError_NoFit_True (fa_nil)) xcls_LoftError hC hz hv rfl (.inl v_lrefused2_3) B.isinstance (g_lrefused2_isinstance _ _ _) (g_lrefused2_LoftError _ _ _)) (me_and (me_not (mx_is (xc_at (fs := ["number"]) (ts := ["NoFit"]) (fa_cons xxcf_NoFit_number (fa_nil)) (by decide) hC hT) (fa_cons xkit_NoText_NoFit_False (fa_nil)) xcls_NoText hC hz hv rfl (.inl v_lrefused2_3) B.isinstance (g_lrefused2_isinstance _ _ _) (g_lrefused2_NoText _ _ _))) (me_one (me_cmp (op_eqM hr.units) os_eq (mx_f (xc_at (fs := ["number"]) (ts := ["NoFit"]) (fa_cons xxcf_NoFit_number (fa_nil)) (by decide) hC hT) (by decide) hz hv rfl (.inl v_lrefused2_3)) (me_var (i := 1) rfl (.inl v_lrefused2_1)) (nomark _)))))))) (mss_one (ms_ret (me_var (i := 2) rfl (.inl v_lrefused2_2)))))

abbrev s_law8 : Stmt := top 22
theorem sc_law8 : FnScope ["_law_script", "_law_many", "_law_kind", "_law_sign", "_law_draws_here", "_law_form_here", "_law_number_here", "_law_few", "_law_one", "_law_far", "_law_low", "_law_high"] ["_law_script"] (defScope s_law8) := ⟨rfl, rfl, rfl, by decide +kernel, rfl, by decide +kernel, by decide +kernel⟩
theorem v_law8_0 : (defScope s_law8).names.lookup ("_law_script" : Str) = some NameKind.local := by decide +kernel
theorem v_law8_1 : (defScope s_law8).names.lookup ("_law_many" : Str) = some NameKind.local := by decide +kernel
theorem v_law8_2 : (defScope s_law8).names.lookup ("_law_kind" : Str) = some NameKind.local := by decide +kernel
theorem v_law8_3 : (defScope s_law8).names.lookup ("_law_sign" : Str) = some NameKind.local := by decide +kernel
theorem v_law8_4 : (defScope s_law8).names.lookup ("_law_draws_here" : Str) = some NameKind.local := by decide +kernel
theorem v_law8_5 : (defScope s_law8).names.lookup ("_law_form_here" : Str) = some NameKind.local := by decide +kernel
theorem v_law8_6 : (defScope s_law8).names.lookup ("_law_number_here" : Str) = some NameKind.local := by decide +kernel
theorem v_law8_7 : (defScope s_law8).names.lookup ("_law_few" : Str) = some NameKind.local := by decide +kernel
theorem v_law8_8 : (defScope s_law8).names.lookup ("_law_one" : Str) = some NameKind.local := by decide +kernel
theorem v_law8_9 : (defScope s_law8).names.lookup ("_law_far" : Str) = some NameKind.local := by decide +kernel
theorem v_law8_10 : (defScope s_law8).names.lookup ("_law_low" : Str) = some NameKind.local := by decide +kernel
theorem v_law8_11 : (defScope s_law8).names.lookup ("_law_high" : Str) = some NameKind.local := by decide +kernel
theorem g_law8_law_cell (L a : Addr) (cd : Value) : (PyProof.Rows.envOfC "law" (defScope s_law8) L a cd).kindOf ("_law_cell" : Str) = some NameKind.globalImplicit := rfl
theorem g_law8_law_draws (L a : Addr) (cd : Value) : (PyProof.Rows.envOfC "law" (defScope s_law8) L a cd).kindOf ("_law_draws" : Str) = some NameKind.globalImplicit := rfl
theorem g_law8_range (L a : Addr) (cd : Value) : (PyProof.Rows.envOfC "law" (defScope s_law8) L a cd).kindOf ("range" : Str) = some NameKind.globalImplicit := rfl
theorem g_law8_law_form (L a : Addr) (cd : Value) : (PyProof.Rows.envOfC "law" (defScope s_law8) L a cd).kindOf ("_law_form" : Str) = some NameKind.globalImplicit := rfl
theorem g_law8_law_ends (L a : Addr) (cd : Value) : (PyProof.Rows.envOfC "law" (defScope s_law8) L a cd).kindOf ("_law_ends" : Str) = some NameKind.globalImplicit := rfl
theorem g_law8_law_number (L a : Addr) (cd : Value) : (PyProof.Rows.envOfC "law" (defScope s_law8) L a cd).kindOf ("_law_number" : Str) = some NameKind.globalImplicit := rfl
theorem g_law8_law_power (L a : Addr) (cd : Value) : (PyProof.Rows.envOfC "law" (defScope s_law8) L a cd).kindOf ("_law_power" : Str) = some NameKind.globalImplicit := rfl
theorem g_law8_min (L a : Addr) (cd : Value) : (PyProof.Rows.envOfC "law" (defScope s_law8) L a cd).kindOf ("min" : Str) = some NameKind.globalImplicit := rfl
theorem g_law8_max (L a : Addr) (cd : Value) : (PyProof.Rows.envOfC "law" (defScope s_law8) L a cd).kindOf ("max" : Str) = some NameKind.globalImplicit := rfl
theorem g_law8_written (L a : Addr) (cd : Value) : (PyProof.Rows.envOfC "law" (defScope s_law8) L a cd).kindOf ("written" : Str) = some NameKind.globalImplicit := rfl
theorem g_law8_law_text (L a : Addr) (cd : Value) : (PyProof.Rows.envOfC "law" (defScope s_law8) L a cd).kindOf ("_law_text" : Str) = some NameKind.globalImplicit := rfl
theorem g_law8_law_refused (L a : Addr) (cd : Value) : (PyProof.Rows.envOfC "law" (defScope s_law8) L a cd).kindOf ("_law_refused" : Str) = some NameKind.globalImplicit := rfl
theorem ok_law8 {P : Program} {w : World} {K : PySem.W.Frag} {mg : Str → Option Value} {base : Heap} {f : Addr} {fd : FuncData} (F : Fun K "law" "law" s_law8 f fd) (B : Bn mg) (h_ldraws : Fd P w K mg base "_law_draws" 4 ["_law_cell_here", "_law_salt", "_law_widths"] [] f_ldraws) (h_lcell : Fd P w K mg base "_law_cell" 2 ["_law_script", "_law_k"] [] f_lcell) (h_lform : Fd P w K mg base "_law_form" 2 ["_law_kind", "_law_many", "_law_sign"] [] f_lform) (h_lends : Fd P w K mg base "_law_ends" 4 ["_law_form_here"] [] f_lends) (h_lnumber : Fd P w K mg base "_law_number" 6 ["_law_form_here", "_law_way", "_law_far"] [] f_lnumber) (h_lpower : Fd P w K mg base "_law_power" 2 ["_law_base", "_law_many"] [] f_lpower) (h_pwritten : Fd P w K mg base "written" 8 ["form", "number"] [] f_pwritten) (h_ltext2 : Fd P w K mg base "_law_text" 2 ["_law_form_here", "_law_number_here"] [] f_ltext2) (h_lrefused2 : Fd P w K mg base "_law_refused" 10 ["_law_form_here", "_law_number_here"] [] f_lrefused2)    :
    FnOk P w K mg base (L2.CX P w) 12 f fd ["_law_script"] (spF K mg 1 [] f_law8) := by
  refine fn_ok F sc_law8 (by decide) (by decide) fun cdv A outer s H E hr => ?_
  have nd := sc_law8.nd
  have tk : Takes (cxOf (L2.CX P w) P w K mg base ["_law_script", "_law_many", "_law_kind", "_law_sign", "_law_draws_here", "_law_form_here", "_law_number_here", "_law_few", "_law_one", "_law_far", "_law_low", "_law_high"] "law" (defScope s_law8) f cdv A outer s H E) (fun cls d _ H => E cls d H) := takes_of rfl rfl rfl rfl
  have pn : PassesOwn (model P w) (cxOf (L2.CX P w) P w K mg base ["_law_script", "_law_many", "_law_kind", "_law_sign", "_law_draws_here", "_law_form_here", "_law_number_here", "_law_few", "_law_one", "_law_far", "_law_low", "_law_high"] "law" (defScope s_law8) f cdv A outer s H E).A (cxOf (L2.CX P w) P w K mg base ["_law_script", "_law_many", "_law_kind", "_law_sign", "_law_draws_here", "_law_form_here", "_law_number_here", "_law_few", "_law_one", "_law_far", "_law_low", "_law_high"] "law" (defScope s_law8) f cdv A outer s H E).env (cxOf (L2.CX P w) P w K mg base ["_law_script", "_law_many", "_law_kind", "_law_sign", "_law_draws_here", "_law_form_here", "_law_number_here", "_law_few", "_law_one", "_law_far", "_law_low", "_law_high"] "law" (defScope s_law8) f cdv A outer s H E).xe := passes_of rfl
  unfold m_law8
  exact mss_cons (ms_asg (me_fz (mf_call h_ldraws hr (by decide) tk (ma_cons (me_fz (mf_call h_lcell hr (by decide) tk (ma_cons (me_var (i := 0) rfl (.inl v_law8_0)) (ma_cons (me_int) (ma_nil))) (lng_cons (lng_cons lng_nil)) (hg := (g_law8_law_cell _ _ _)))) (ma_cons (me_int) (ma_cons (me_lst (ma_cons (me_int) (ma_cons (me_int) (ma_nil)))) (ma_nil)))) (lng_cons (lng_cons (lng_cons lng_nil))) (hg := (g_law8_law_draws _ _ _)))) (mg_tup rfl (mgs_cons (mg_name (i := 2) nd rfl (.inl v_law8_2)) (mgs_cons (mg_name (i := 3) nd rfl (.inl v_law8_3)) (mgs_nil))))) (mss_cons (ms_for pn rfl (mi_r1 B.range (ma_cons (me_int) (ma_nil)) (hg := (g_law8_range _ _ _))) (mg_name (i := 1) nd rfl (.inl v_law8_1)) (mss_cons (ms_set (i := 4) nd rfl (.inl v_law8_4) (me_fz (mf_call h_ldraws hr (by decide) tk (ma_cons (me_fz (mf_call h_lcell hr (by decide) tk (ma_cons (me_var (i := 0) rfl (.inl v_law8_0)) (ma_cons (me_add (me_int) (me_var (i := 1) rfl (.inl v_law8_1))) (ma_nil))) (lng_cons (lng_cons lng_nil)) (hg := (g_law8_law_cell _ _ _)))) (ma_cons (me_add (me_int) (me_var (i := 1) rfl (.inl v_law8_1))) (ma_cons (me_lst (ma_cons (me_int) (ma_cons (me_pow (me_int) (me_int)) (ma_cons (me_add (me_int) (me_var (i := 1) rfl (.inl v_law8_1))) (ma_cons (me_int) (ma_cons (me_pow (me_int) (me_int)) (ma_nil))))))) (ma_nil)))) (lng_cons (lng_cons (lng_cons lng_nil))) (hg := (g_law8_law_draws _ _ _))))) (mss_cons (ms_set (i := 5) nd rfl (.inl v_law8_5) (me_add (me_sl (me_fz (mf_call h_lform hr (by decide) tk (ma_cons (me_var (i := 2) rfl (.inl v_law8_2)) (ma_cons (me_var (i := 1) rfl (.inl v_law8_1)) (ma_cons (me_var (i := 3) rfl (.inl v_law8_3)) (ma_nil)))) (lng_cons (lng_cons (lng_cons lng_nil))) (hg := (g_law8_law_form _ _ _)))) (mp_none) (mp_some (me_int))) (me_tup (ma_cons (me_ix (me_var (i := 4) rfl (.inl v_law8_4)) (me_int)) (ma_nil))))) (mss_cons (ms_asg (me_fz (mf_call h_lends hr (by decide) tk (ma_cons (me_var (i := 5) rfl (.inl v_law8_5)) (ma_nil)) (lng_cons lng_nil) (hg := (g_law8_law_ends _ _ _)))) (mg_tup rfl (mgs_cons (mg_name (i := 10) nd rfl (.inl v_law8_10)) (mgs_cons (mg_name (i := 11) nd rfl (.inl v_law8_11)) (mgs_nil))))) (mss_cons (ms_set (i := 6) nd rfl (.inl v_law8_6) (me_fz (mf_call h_lnumber hr (by decide) tk (ma_cons (me_var (i := 5) rfl (.inl v_law8_5)) (ma_cons (me_ix (me_var (i := 4) rfl (.inl v_law8_4)) (me_int)) (ma_cons (me_ix (me_var (i := 4) rfl (.inl v_law8_4)) (me_int)) (ma_nil)))) (lng_cons (lng_cons (lng_cons lng_nil))) (hg := (g_law8_law_number _ _ _))))) (mss_cons (ms_set (i := 7) nd rfl (.inl v_law8_7) (mb_max rfl B.max (ma_cons (me_var (i := 10) rfl (.inl v_law8_10)) (ma_cons (mb_min rfl B.min (ma_cons (me_var (i := 11) rfl (.inl v_law8_11)) (ma_cons (me_div (me_var (i := 6) rfl (.inl v_law8_6)) (me_fz (mf_call h_lpower hr (by decide) tk (ma_cons (me_int) (ma_cons (me_ix (me_var (i := 4) rfl (.inl v_law8_4)) (me_int)) (ma_nil))) (lng_cons (lng_cons lng_nil)) (hg := (g_law8_law_power _ _ _))))) (ma_nil))) (hg := (g_law8_min _ _ _))) (ma_nil))) (hg := (g_law8_max _ _ _)))) (mss_cons (ms_for pn rfl (mi_val (me_tup (ma_cons (me_var (i := 6) rfl (.inl v_law8_6)) (ma_cons (me_var (i := 7) rfl (.inl v_law8_7)) (ma_cons (me_int) (ma_nil)))))) (mg_name (i := 8) nd rfl (.inl v_law8_8)) (mss_one (ms_if (mt_cmp (op_neM hr.units) os_ne (me_fz (mf_call h_pwritten hr (by decide) tk (ma_cons (me_var (i := 5) rfl (.inl v_law8_5)) (ma_cons (me_var (i := 8) rfl (.inl v_law8_8)) (ma_nil))) (lng_cons (lng_cons lng_nil)) (hg := (g_law8_written _ _ _)))) (me_fz (mf_call h_ltext2 hr (by decide) tk (ma_cons (me_var (i := 5) rfl (.inl v_law8_5)) (ma_cons (me_var (i := 8) rfl (.inl v_law8_8)) (ma_nil))) (lng_cons (lng_cons lng_nil)) (hg := (g_law8_law_text _ _ _)))) (nomark _)) (mss_one (ms_ret (me_bl))) (mss_nil)))) (mss_cons (ms_set (i := 9) nd rfl (.inl v_law8_9) (me_mul (me_ix (me_var (i := 4) rfl (.inl v_law8_4)) (me_int)) (me_mod (me_ix (me_var (i := 4) rfl (.inl v_law8_4)) (me_int)) (me_int)))) (mss_one (ms_if (PW.pt (mw_or (mt_not (mt_val (me_fz (mf_call h_lrefused2 hr (by decide) tk (ma_cons (me_var (i := 5) rfl (.inl v_law8_5)) (ma_cons (me_add (me_add (me_var (i := 11) rfl (.inl v_law8_11)) (me_int)) (me_var (i := 9) rfl (.inl v_law8_9))) (ma_nil))) (lng_cons (lng_cons lng_nil)) (hg := (g_law8_law_refused _ _ _)))))) (mw_one_or (mt_not (mt_val (me_fz (mf_call h_lrefused2 hr (by decide) tk (ma_cons (me_var (i := 5) rfl (.inl v_law8_5)) (ma_cons (me_sub (me_sub (me_var (i := 10) rfl (.inl v_law8_10)) (me_int)) (me_var (i := 9) rfl (.inl v_law8_9))) (ma_nil))) (lng_cons (lng_cons lng_nil)) (hg := (g_law8_law_refused _ _ _))))))))) (mss_one (ms_ret (me_bl))) (mss_nil))))))))))) (mss_one (ms_ret (me_bl))))

theorem all_mk {l : PySem.W.OpenLaw} {w : World} {K : PySem.W.Frag} {h : Heap} {mg : Str → Option Value} {fa f0 f1 f2 f3 f4 f5 f6 f7 f8 f9 f10 f11 f12 f13 f14 : Addr} (X : K.In h) (G : h.Ns mainGlobals mg) (hfa : mg "law" = some (.ref fa))
    {od0 an0 od1 an1 od2 an2 od3 an3 od4 an4 od5 an5 od6 an6 od7 an7 od8 an8 od9 an9 od10 an10 od11 an11 od12 an12 od13 an13 od14 an14 : Option Addr} {sl0 sl1 sl2 sl3 sl4 sl5 sl6 sl7 sl8 sl9 sl10 sl11 sl12 sl13 sl14 : Array (Option Value)} {oc0 kV0 dc0 pm0 cd0 ct0 oc1 kV1 dc1 pm1 cd1 ct1 oc2 kV2 dc2 pm2 cd2 ct2 oc3 kV3 dc3 pm3 cd3 ct3 oc4 kV4 dc4 pm4 cd4 ct4 oc5 kV5 dc5 pm5 cd5 ct5 oc6 kV6 dc6 pm6 cd6 ct6 oc7 kV7 dc7 pm7 cd7 ct7 oc8 kV8 dc8 pm8 cd8 ct8 oc9 kV9 dc9 pm9 cd9 ct9 oc10 kV10 dc10 pm10 cd10 ct10 oc11 kV11 dc11 pm11 cd11 ct11 oc12 kV12 dc12 pm12 cd12 ct12 oc13 kV13 dc13 pm13 cd13 ct13 oc14 kV14 dc14 pm14 cd14 ct14 : Value}
    (a0 : PySem.W.nsIn K mainGlobals "_law_mixed" = some (some (.ref f0))) (l0 : K.lookup f0 = some ⟨oc0, od0, .func (PySem.W.fnOf "_law_mixed" "_law_mixed" (defArgs s_lmixed) (defBody s_lmixed) (defScope s_lmixed) .none kV0 dc0 pm0 an0 cd0 ct0), sl0⟩) (c0 : PySem.W.codeIn K cd0 "_law_mixed" = true) (k0 : PySem.W.keepIn K (.ref f0) = true)
    (a1 : PySem.W.nsIn K mainGlobals "_law_draws" = some (some (.ref f1))) (l1 : K.lookup f1 = some ⟨oc1, od1, .func (PySem.W.fnOf "_law_draws" "_law_draws" (defArgs s_ldraws) (defBody s_ldraws) (defScope s_ldraws) .none kV1 dc1 pm1 an1 cd1 ct1), sl1⟩) (c1 : PySem.W.codeIn K cd1 "_law_draws" = true) (k1 : PySem.W.keepIn K (.ref f1) = true)
    (a2 : PySem.W.nsIn K mainGlobals "_law_cell" = some (some (.ref f2))) (l2 : K.lookup f2 = some ⟨oc2, od2, .func (PySem.W.fnOf "_law_cell" "_law_cell" (defArgs s_lcell) (defBody s_lcell) (defScope s_lcell) .none kV2 dc2 pm2 an2 cd2 ct2), sl2⟩) (c2 : PySem.W.codeIn K cd2 "_law_cell" = true) (k2 : PySem.W.keepIn K (.ref f2) = true)
    (a3 : PySem.W.nsIn K mainGlobals "_law_power" = some (some (.ref f3))) (l3 : K.lookup f3 = some ⟨oc3, od3, .func (PySem.W.fnOf "_law_power" "_law_power" (defArgs s_lpower) (defBody s_lpower) (defScope s_lpower) .none kV3 dc3 pm3 an3 cd3 ct3), sl3⟩) (c3 : PySem.W.codeIn K cd3 "_law_power" = true) (k3 : PySem.W.keepIn K (.ref f3) = true)
    (a4 : PySem.W.nsIn K mainGlobals "_law_ends" = some (some (.ref f4))) (l4 : K.lookup f4 = some ⟨oc4, od4, .func (PySem.W.fnOf "_law_ends" "_law_ends" (defArgs s_lends) (defBody s_lends) (defScope s_lends) .none kV4 dc4 pm4 an4 cd4 ct4), sl4⟩) (c4 : PySem.W.codeIn K cd4 "_law_ends" = true) (k4 : PySem.W.keepIn K (.ref f4) = true)
    (a5 : PySem.W.nsIn K mainGlobals "_law_number" = some (some (.ref f5))) (l5 : K.lookup f5 = some ⟨oc5, od5, .func (PySem.W.fnOf "_law_number" "_law_number" (defArgs s_lnumber) (defBody s_lnumber) (defScope s_lnumber) .none kV5 dc5 pm5 an5 cd5 ct5), sl5⟩) (c5 : PySem.W.codeIn K cd5 "_law_number" = true) (k5 : PySem.W.keepIn K (.ref f5) = true)
    (a6 : PySem.W.nsIn K mainGlobals "_law_form" = some (some (.ref f6))) (l6 : K.lookup f6 = some ⟨oc6, od6, .func (PySem.W.fnOf "_law_form" "_law_form" (defArgs s_lform) (defBody s_lform) (defScope s_lform) .none kV6 dc6 pm6 an6 cd6 ct6), sl6⟩) (c6 : PySem.W.codeIn K cd6 "_law_form" = true) (k6 : PySem.W.keepIn K (.ref f6) = true)
    (a7 : PySem.W.nsIn K mainGlobals "power" = some (some (.ref f7))) (l7 : K.lookup f7 = some ⟨oc7, od7, .func (PySem.W.fnOf "power" "power" (defArgs s_ppower) (defBody s_ppower) (defScope s_ppower) .none kV7 dc7 pm7 an7 cd7 ct7), sl7⟩) (c7 : PySem.W.codeIn K cd7 "power" = true) (k7 : PySem.W.keepIn K (.ref f7) = true)
    (a8 : PySem.W.nsIn K mainGlobals "least_of" = some (some (.ref f8))) (l8 : K.lookup f8 = some ⟨oc8, od8, .func (PySem.W.fnOf "least_of" "least_of" (defArgs s_pleast_of) (defBody s_pleast_of) (defScope s_pleast_of) .none kV8 dc8 pm8 an8 cd8 ct8), sl8⟩) (c8 : PySem.W.codeIn K cd8 "least_of" = true) (k8 : PySem.W.keepIn K (.ref f8) = true)
    (a9 : PySem.W.nsIn K mainGlobals "most_of" = some (some (.ref f9))) (l9 : K.lookup f9 = some ⟨oc9, od9, .func (PySem.W.fnOf "most_of" "most_of" (defArgs s_pmost_of) (defBody s_pmost_of) (defScope s_pmost_of) .none kV9 dc9 pm9 an9 cd9 ct9), sl9⟩) (c9 : PySem.W.codeIn K cd9 "most_of" = true) (k9 : PySem.W.keepIn K (.ref f9) = true)
    (a10 : PySem.W.nsIn K mainGlobals "fits" = some (some (.ref f10))) (l10 : K.lookup f10 = some ⟨oc10, od10, .func (PySem.W.fnOf "fits" "fits" (defArgs s_pfits) (defBody s_pfits) (defScope s_pfits) .none kV10 dc10 pm10 an10 cd10 ct10), sl10⟩) (c10 : PySem.W.codeIn K cd10 "fits" = true) (k10 : PySem.W.keepIn K (.ref f10) = true)
    (a11 : PySem.W.nsIn K mainGlobals "written" = some (some (.ref f11))) (l11 : K.lookup f11 = some ⟨oc11, od11, .func (PySem.W.fnOf "written" "written" (defArgs s_pwritten) (defBody s_pwritten) (defScope s_pwritten) .none kV11 dc11 pm11 an11 cd11 ct11), sl11⟩) (c11 : PySem.W.codeIn K cd11 "written" = true) (k11 : PySem.W.keepIn K (.ref f11) = true)
    (a12 : PySem.W.nsIn K mainGlobals "_law_text" = some (some (.ref f12))) (l12 : K.lookup f12 = some ⟨oc12, od12, .func (PySem.W.fnOf "_law_text" "_law_text" (defArgs s_ltext2) (defBody s_ltext2) (defScope s_ltext2) .none kV12 dc12 pm12 an12 cd12 ct12), sl12⟩) (c12 : PySem.W.codeIn K cd12 "_law_text" = true) (k12 : PySem.W.keepIn K (.ref f12) = true)
    (a13 : PySem.W.nsIn K mainGlobals "_law_refused" = some (some (.ref f13))) (l13 : K.lookup f13 = some ⟨oc13, od13, .func (PySem.W.fnOf "_law_refused" "_law_refused" (defArgs s_lrefused2) (defBody s_lrefused2) (defScope s_lrefused2) .none kV13 dc13 pm13 an13 cd13 ct13), sl13⟩) (c13 : PySem.W.codeIn K cd13 "_law_refused" = true) (k13 : PySem.W.keepIn K (.ref f13) = true)
    (a14 : PySem.W.nsIn K mainGlobals "law" = some (some (.ref f14))) (l14 : K.lookup f14 = some ⟨oc14, od14, .func (PySem.W.fnOf "law" "law" (defArgs s_law8) (defBody s_law8) (defScope s_law8) .none kV14 dc14 pm14 an14 cd14 ct14), sl14⟩) (c14 : PySem.W.codeIn K cd14 "law" = true) (k14 : PySem.W.keepIn K (.ref f14) = true)
    (z_len : PySem.W.nsIn K mainGlobals "len" = some none)
    (z_range : PySem.W.nsIn K mainGlobals "range" = some none)
    (z_abs : PySem.W.nsIn K mainGlobals "abs" = some none)
    (z_max : PySem.W.nsIn K mainGlobals "max" = some none)
    (z_min : PySem.W.nsIn K mainGlobals "min" = some none)
    (z_int : PySem.W.nsIn K mainGlobals "int" = some none)
    (z_str : PySem.W.nsIn K mainGlobals "str" = some none)
    (z_tuple : PySem.W.nsIn K mainGlobals "tuple" = some none)
    (z_list : PySem.W.nsIn K mainGlobals "list" = some none)
    (z_all : PySem.W.nsIn K mainGlobals "all" = some none)
    (z_any : PySem.W.nsIn K mainGlobals "any" = some none)
    (z_isinstance : PySem.W.nsIn K mainGlobals "isinstance" = some none)
    (z_divmod : PySem.W.nsIn K mainGlobals "divmod" = some none)
    (z_sum : PySem.W.nsIn K mainGlobals "sum" = some none)
    (z_zip : PySem.W.nsIn K mainGlobals "zip" = some none)
    (z_enumerate : PySem.W.nsIn K mainGlobals "enumerate" = some none)
    (z_reversed : PySem.W.nsIn K mainGlobals "reversed" = some none)
    (z_sorted : PySem.W.nsIn K mainGlobals "sorted" = some none)
    (z_dict : PySem.W.nsIn K mainGlobals "dict" = some none)
    (z_set : PySem.W.nsIn K mainGlobals "set" = some none)
    (z_bool : PySem.W.nsIn K mainGlobals "bool" = some none)
    {c_LoftError : Addr} (n_LoftError : PySem.W.nsIn K mainGlobals "LoftError" = some (some (.ref c_LoftError)))
    {c_NoFit : Addr} (n_NoFit : PySem.W.nsIn K mainGlobals "NoFit" = some (some (.ref c_NoFit)))
    {c_NoText : Addr} (n_NoText : PySem.W.nsIn K mainGlobals "NoText" = some (some (.ref c_NoText)))
    (b1_LoftError : PySem.W.readsIn K c_LoftError (.type "type") = true)
    (b2_LoftError : PySem.W.specialIn K (.ref c_LoftError) "__getattribute__" = some (some (.builtin "type.__getattribute__")))
    (b3_LoftError : PySem.W.findCls K (.ref c_LoftError) (.type "type") "__init__" = some (.val (.builtin "ValueError.__init__")))
    {nm_NoFit q_NoFit : Str} {N_NoFit i_NoFit : Addr} {bs_NoFit : List Value} {sn_NoFit : List Str} {sub_NoFit : List Value} {ab_NoFit : Bool} {col_NoFit : Option Bool} {dd_NoFit : Option Addr} {k0_NoFit k1_NoFit k2_NoFit k3_NoFit k5_NoFit : Option Value}
    (l_NoFit : K.lookup c_NoFit = some (excClassObj nm_NoFit q_NoFit c_NoFit N_NoFit bs_NoFit [.ref c_LoftError, .type "ValueError", .type "Exception", .type "BaseException", .type "object"] true sn_NoFit sub_NoFit ab_NoFit col_NoFit dd_NoFit k0_NoFit k1_NoFit k2_NoFit k3_NoFit k5_NoFit "ValueError.__new__"))
    (s_NoFit : PySem.W.findIn K (.ref c_NoFit) "__setattr__" = some (some (.builtin "object.__setattr__")))
    (e_NoFit : PySem.W.subIn K (.ref c_NoFit) (.type "BaseException") = some true)
    (t_NoFit : PySem.W.typeIn K (.ref c_NoFit) = some (.type "type"))
    (p_NoFit : PySem.W.keepIn K (.ref c_NoFit) = true)
    (i_NoFit_ : PySem.W.findIn K (.ref c_NoFit) "__init__" = some (some (.ref i_NoFit)))
    (j_NoFit : PySem.W.typeIn K (.ref i_NoFit) = some (.type "function"))
    (f_NoFit_number : PySem.W.findIn K (.ref c_NoFit) "number" = some none)
    {io_NoFit ik_NoFit id_NoFit ip_NoFit ic_NoFit it_NoFit : Value} {iod_NoFit ia_NoFit : Option Addr} {is_NoFit : Array (Option Value)}
    (g_NoFit : K.lookup i_NoFit = some ⟨io_NoFit, iod_NoFit, .func (PySem.W.fnOf "__init__" "NoFit.__init__" (defArgs s_ini_NoFit) (defBody s_ini_NoFit) (defScope s_ini_NoFit) .none ik_NoFit id_NoFit ip_NoFit ia_NoFit ic_NoFit it_NoFit), is_NoFit⟩)
    (h_NoFit_ : PySem.W.codeIn K ic_NoFit "NoFit.__init__" = true)
    (m_NoFit_ : PySem.W.keepIn K (.ref i_NoFit) = true)
    (yxext_NoFit_NoFit_True : PySem.W.exmOne K (.ref c_NoFit) (.ref c_NoFit) = some true)
    (yxxcf_NoFit_number : xcB K c_NoFit ["number"] = true)
    (yxkit_LoftError_NoFit_True : PySem.W.kitOne K (.ref c_NoFit) (.ref c_LoftError) = some true)
    (yxkit_NoText_NoFit_False : PySem.W.kitOne K (.ref c_NoFit) (.ref c_NoText) = some false)
    : ∃ fd : FuncData, (∀ (s : Shared) (u : Value), BindsTo s fd ⟨[u], []⟩ [("_law_script", u)]) ∧ ∀ base : Heap, K.In base → base.Ns mainGlobals mg → FnOk l.prog w K mg base (L2.CX l.prog w) 12 fa fd ["_law_script"] (spF K mg 1 [] f_law8) := by
  have e := hfa.symm.trans (PySem.W.mg_of X G a14)
  cases e
  have B : Bn mg := ⟨PySem.W.mg_none_of X G z_len, PySem.W.mg_none_of X G z_range, PySem.W.mg_none_of X G z_abs, PySem.W.mg_none_of X G z_max, PySem.W.mg_none_of X G z_min, PySem.W.mg_none_of X G z_int, PySem.W.mg_none_of X G z_str, PySem.W.mg_none_of X G z_tuple, PySem.W.mg_none_of X G z_list, PySem.W.mg_none_of X G z_all, PySem.W.mg_none_of X G z_any, PySem.W.mg_none_of X G z_isinstance, PySem.W.mg_none_of X G z_divmod, PySem.W.mg_none_of X G z_sum, PySem.W.mg_none_of X G z_zip, PySem.W.mg_none_of X G z_enumerate, PySem.W.mg_none_of X G z_reversed, PySem.W.mg_none_of X G z_sorted, PySem.W.mg_none_of X G z_dict, PySem.W.mg_none_of X G z_set, PySem.W.mg_none_of X G z_bool⟩
  have F0 := fun_mk (st := s_lmixed) l0 c0 k0
  have b0 := F0.binds (ps := ["_law_cell_here", "_law_k", "_law_salt"]) fun _ _ _ _ _ _ us hl => match us, hl with | [_, _, _], _ => rfl
  have F1 := fun_mk (st := s_ldraws) l1 c1 k1
  have b1 := F1.binds (ps := ["_law_cell_here", "_law_salt", "_law_widths"]) fun _ _ _ _ _ _ us hl => match us, hl with | [_, _, _], _ => rfl
  have F2 := fun_mk (st := s_lcell) l2 c2 k2
  have b2 := F2.binds (ps := ["_law_script", "_law_k"]) fun _ _ _ _ _ _ us hl => match us, hl with | [_, _], _ => rfl
  have F3 := fun_mk (st := s_lpower) l3 c3 k3
  have b3 := F3.binds (ps := ["_law_base", "_law_many"]) fun _ _ _ _ _ _ us hl => match us, hl with | [_, _], _ => rfl
  have F4 := fun_mk (st := s_lends) l4 c4 k4
  have b4 := F4.binds (ps := ["_law_form_here"]) fun _ _ _ _ _ _ us hl => match us, hl with | [_], _ => rfl
  have F5 := fun_mk (st := s_lnumber) l5 c5 k5
  have b5 := F5.binds (ps := ["_law_form_here", "_law_way", "_law_far"]) fun _ _ _ _ _ _ us hl => match us, hl with | [_, _, _], _ => rfl
  have F6 := fun_mk (st := s_lform) l6 c6 k6
  have b6 := F6.binds (ps := ["_law_kind", "_law_many", "_law_sign"]) fun _ _ _ _ _ _ us hl => match us, hl with | [_, _, _], _ => rfl
  have F7 := fun_mk (st := s_ppower) l7 c7 k7
  have b7 := F7.binds (ps := ["base", "many"]) fun _ _ _ _ _ _ us hl => match us, hl with | [_, _], _ => rfl
  have F8 := fun_mk (st := s_pleast_of) l8 c8 k8
  have b8 := F8.binds (ps := ["form"]) fun _ _ _ _ _ _ us hl => match us, hl with | [_], _ => rfl
  have F9 := fun_mk (st := s_pmost_of) l9 c9 k9
  have b9 := F9.binds (ps := ["form"]) fun _ _ _ _ _ _ us hl => match us, hl with | [_], _ => rfl
  have F10 := fun_mk (st := s_pfits) l10 c10 k10
  have b10 := F10.binds (ps := ["form", "number"]) fun _ _ _ _ _ _ us hl => match us, hl with | [_, _], _ => rfl
  have F11 := fun_mk (st := s_pwritten) l11 c11 k11
  have b11 := F11.binds (ps := ["form", "number"]) fun _ _ _ _ _ _ us hl => match us, hl with | [_, _], _ => rfl
  have F12 := fun_mk (st := s_ltext2) l12 c12 k12
  have b12 := F12.binds (ps := ["_law_form_here", "_law_number_here"]) fun _ _ _ _ _ _ us hl => match us, hl with | [_, _], _ => rfl
  have F13 := fun_mk (st := s_lrefused2) l13 c13 k13
  have b13 := F13.binds (ps := ["_law_form_here", "_law_number_here"]) fun _ _ _ _ _ _ us hl => match us, hl with | [_, _], _ => rfl
  have F14 := fun_mk (st := s_law8) l14 c14 k14
  have b14 := F14.binds (ps := ["_law_script"]) fun _ _ _ _ _ _ us hl => match us, hl with | [_], _ => rfl
  refine ⟨PySem.W.fnOf "law" "law" (defArgs s_law8) (defBody s_law8) (defScope s_law8) .none kV14 dc14 pm14 an14 cd14 ct14, fun s v => .of_eq rfl, fun base _ _ => ?_⟩
  have B_LoftError : Bas K mg "LoftError" := ⟨c_LoftError, PySem.W.mg_of X G n_LoftError, b1_LoftError, b2_LoftError, b3_LoftError⟩
  have FI_NoFit := fun_mk (st := s_ini_NoFit) g_NoFit h_NoFit_ m_NoFit_
  have bI_NoFit := FI_NoFit.binds (ps := ["self", "number"]) fun _ _ _ _ _ _ us hl => match us, hl with | [_, _], _ => rfl
  have xcl1_NoFit_number : Cl1 l.prog w K mg base "NoFit" "number" := ⟨_, _, _, _, owX_mk (PySem.W.mg_of X G n_NoFit) l_NoFit rfl s_NoFit e_NoFit t_NoFit p_NoFit i_NoFit_ j_NoFit, f_NoFit_number, ini_NoFit FI_NoFit B_LoftError, bI_NoFit⟩
  have xext_NoFit_NoFit_True : ExT K mg "NoFit" "NoFit" true := ⟨_, _, PySem.W.mg_of X G n_NoFit, PySem.W.mg_of X G n_NoFit, yxext_NoFit_NoFit_True⟩
  have xcls_NoFit : ∃ D, mg "NoFit" = some (.ref D) := ⟨_, PySem.W.mg_of X G n_NoFit⟩
  have xxcf_NoFit_number : XcF K mg ["number"] "NoFit" := ⟨_, PySem.W.mg_of X G n_NoFit, yxxcf_NoFit_number⟩
  have xkit_LoftError_NoFit_True : KiT K mg "LoftError" "NoFit" true := ⟨_, _, PySem.W.mg_of X G n_NoFit, PySem.W.mg_of X G n_LoftError, yxkit_LoftError_NoFit_True⟩
  have xcls_LoftError : ∃ D, mg "LoftError" = some (.ref D) := ⟨_, PySem.W.mg_of X G n_LoftError⟩
  have xkit_NoText_NoFit_False : KiT K mg "NoText" "NoFit" false := ⟨_, _, PySem.W.mg_of X G n_NoFit, PySem.W.mg_of X G n_NoText, yxkit_NoText_NoFit_False⟩
  have xcls_NoText : ∃ D, mg "NoText" = some (.ref D) := ⟨_, PySem.W.mg_of X G n_NoText⟩
  have h_lmixed : Fd l.prog w K mg base "_law_mixed" 2 ["_law_cell_here", "_law_k", "_law_salt"] [] f_lmixed := ⟨_, _, ok_lmixed F0 B   , PySem.W.mg_of X G a0, k0, b0⟩
  have h_ldraws : Fd l.prog w K mg base "_law_draws" 4 ["_law_cell_here", "_law_salt", "_law_widths"] [] f_ldraws := ⟨_, _, ok_ldraws F1 B h_lmixed  , PySem.W.mg_of X G a1, k1, b1⟩
  have h_lcell : Fd l.prog w K mg base "_law_cell" 2 ["_law_script", "_law_k"] [] f_lcell := ⟨_, _, ok_lcell F2 B   , PySem.W.mg_of X G a2, k2, b2⟩
  have h_lpower : Fd l.prog w K mg base "_law_power" 2 ["_law_base", "_law_many"] [] f_lpower := ⟨_, _, ok_lpower F3 B   , PySem.W.mg_of X G a3, k3, b3⟩
  have h_lends : Fd l.prog w K mg base "_law_ends" 4 ["_law_form_here"] [] f_lends := ⟨_, _, ok_lends F4 B h_lpower  , PySem.W.mg_of X G a4, k4, b4⟩
  have h_lnumber : Fd l.prog w K mg base "_law_number" 6 ["_law_form_here", "_law_way", "_law_far"] [] f_lnumber := ⟨_, _, ok_lnumber F5 B h_lends h_lpower  , PySem.W.mg_of X G a5, k5, b5⟩
  have h_lform : Fd l.prog w K mg base "_law_form" 2 ["_law_kind", "_law_many", "_law_sign"] [] f_lform := ⟨_, _, ok_lform F6 B   , PySem.W.mg_of X G a6, k6, b6⟩
  have h_ppower : Fd l.prog w K mg base "power" 2 ["base", "many"] [] f_ppower := ⟨_, _, ok_ppower F7 B   , PySem.W.mg_of X G a7, k7, b7⟩
  have h_pleast_of : Fd l.prog w K mg base "least_of" 4 ["form"] [] f_pleast_of := ⟨_, _, ok_pleast_of F8 B h_ppower  , PySem.W.mg_of X G a8, k8, b8⟩
  have h_pmost_of : Fd l.prog w K mg base "most_of" 4 ["form"] [] f_pmost_of := ⟨_, _, ok_pmost_of F9 B h_ppower  , PySem.W.mg_of X G a9, k9, b9⟩
  have h_pfits : Fd l.prog w K mg base "fits" 6 ["form", "number"] [] f_pfits := ⟨_, _, ok_pfits F10 B h_pleast_of h_pmost_of  , PySem.W.mg_of X G a10, k10, b10⟩
  have h_pwritten : Fd l.prog w K mg base "written" 8 ["form", "number"] [] f_pwritten := ⟨_, _, ok_pwritten F11 B h_pfits xcl1_NoFit_number , PySem.W.mg_of X G a11, k11, b11⟩
  have h_ltext2 : Fd l.prog w K mg base "_law_text" 2 ["_law_form_here", "_law_number_here"] [] f_ltext2 := ⟨_, _, ok_ltext2 F12 B   , PySem.W.mg_of X G a12, k12, b12⟩
  have h_lrefused2 : Fd l.prog w K mg base "_law_refused" 10 ["_law_form_here", "_law_number_here"] [] f_lrefused2 := ⟨_, _, ok_lrefused2 F13 B h_pwritten xext_NoFit_NoFit_True xcls_NoFit xxcf_NoFit_number xkit_LoftError_NoFit_True xcls_LoftError xkit_NoText_NoFit_False xcls_NoText , PySem.W.mg_of X G a13, k13, b13⟩
  exact ok_law8 F14 B h_ldraws h_lcell h_lform h_lends h_lnumber h_lpower h_pwritten h_ltext2 h_lrefused2  
end Tm
open PySem PySem.W PyProof.Rows in
set_option maxRecDepth 100000 in
set_option maxHeartbeats 0 in
theorem PySem.Challenge.cw_tensloft_k07_written_holds : PySem.Challenge.rw_tensloft_k07_written.Holds := by
  w_on; o_law; k_head; (case hw => w_witness2)
  k_fill
  refine Tm.walk_law (l := PySem.Challenge.rw_tensloft_k07_written) (f := Tm.f_law8) (x := "_law_script") (k := 12) rfl rfl ⟨rfl, by decide, by decide⟩ (fun w h Y => PySem.W.kIn_of Y) Tm.law_true ?F
  case F =>
    intro w mg fa h KX G hmg
    refine' Tm.all_mk KX G hmg ?a0 ?l0 ?c0 ?k0 ?a1 ?l1 ?c1 ?k1 ?a2 ?l2 ?c2 ?k2 ?a3 ?l3 ?c3 ?k3 ?a4 ?l4 ?c4 ?k4 ?a5 ?l5 ?c5 ?k5 ?a6 ?l6 ?c6 ?k6 ?a7 ?l7 ?c7 ?k7 ?a8 ?l8 ?c8 ?k8 ?a9 ?l9 ?c9 ?k9 ?a10 ?l10 ?c10 ?k10 ?a11 ?l11 ?c11 ?k11 ?a12 ?l12 ?c12 ?k12 ?a13 ?l13 ?c13 ?k13 ?a14 ?l14 ?c14 ?k14 ?z_len ?z_range ?z_abs ?z_max ?z_min ?z_int ?z_str ?z_tuple ?z_list ?z_all ?z_any ?z_isinstance ?z_divmod ?z_sum ?z_zip ?z_enumerate ?z_reversed ?z_sorted ?z_dict ?z_set ?z_bool ?n_LoftError ?n_NoFit ?n_NoText ?b1_LoftError ?b2_LoftError ?b3_LoftError ?l_NoFit ?s_NoFit ?e_NoFit ?t_NoFit ?p_NoFit ?i_NoFit_ ?j_NoFit ?f_NoFit_number ?g_NoFit ?h_NoFit_ ?m_NoFit_ ?yxext_NoFit_NoFit_True ?yxxcf_NoFit_number ?yxkit_LoftError_NoFit_True ?yxkit_NoText_NoFit_False
    (case a0 => k_is)
    (case l0 => k_is)
    (case c0 => k_is)
    (case k0 => k_is)
    (case a1 => k_is)
    (case l1 => k_is)
    (case c1 => k_is)
    (case k1 => k_is)
    (case a2 => k_is)
    (case l2 => k_is)
    (case c2 => k_is)
    (case k2 => k_is)
    (case a3 => k_is)
    (case l3 => k_is)
    (case c3 => k_is)
    (case k3 => k_is)
    (case a4 => k_is)
    (case l4 => k_is)
    (case c4 => k_is)
    (case k4 => k_is)
    (case a5 => k_is)
    (case l5 => k_is)
    (case c5 => k_is)
    (case k5 => k_is)
    (case a6 => k_is)
    (case l6 => k_is)
    (case c6 => k_is)
    (case k6 => k_is)
    (case a7 => k_is)
    (case l7 => k_is)
    (case c7 => k_is)
    (case k7 => k_is)
    (case a8 => k_is)
    (case l8 => k_is)
    (case c8 => k_is)
    (case k8 => k_is)
    (case a9 => k_is)
    (case l9 => k_is)
    (case c9 => k_is)
    (case k9 => k_is)
    (case a10 => k_is)
    (case l10 => k_is)
    (case c10 => k_is)
    (case k10 => k_is)
    (case a11 => k_is)
    (case l11 => k_is)
    (case c11 => k_is)
    (case k11 => k_is)
    (case a12 => k_is)
    (case l12 => k_is)
    (case c12 => k_is)
    (case k12 => k_is)
    (case a13 => k_is)
    (case l13 => k_is)
    (case c13 => k_is)
    (case k13 => k_is)
    (case a14 => k_is)
    (case l14 => k_is)
    (case c14 => k_is)
    (case k14 => k_is)
    (case z_len => k_is)
    (case z_range => k_is)
    (case z_abs => k_is)
    (case z_max => k_is)
    (case z_min => k_is)
    (case z_int => k_is)
    (case z_str => k_is)
    (case z_tuple => k_is)
    (case z_list => k_is)
    (case z_all => k_is)
    (case z_any => k_is)
    (case z_isinstance => k_is)
    (case z_divmod => k_is)
    (case z_sum => k_is)
    (case z_zip => k_is)
    (case z_enumerate => k_is)
    (case z_reversed => k_is)
    (case z_sorted => k_is)
    (case z_dict => k_is)
    (case z_set => k_is)
    (case z_bool => k_is)
    (case n_LoftError => k_is)
    (case n_NoFit => k_is)
    (case n_NoText => k_is)
    (case b1_LoftError => k_is)
    (case b2_LoftError => k_is)
    (case b3_LoftError => k_is)
    (case l_NoFit => k_is)
    (case s_NoFit => k_is)
    (case e_NoFit => k_is)
    (case t_NoFit => k_is)
    (case p_NoFit => k_is)
    (case i_NoFit_ => k_is)
    (case j_NoFit => k_is)
    (case f_NoFit_number => k_is)
    (case g_NoFit => k_is)
    (case h_NoFit_ => k_is)
    (case m_NoFit_ => k_is)
    (case yxext_NoFit_NoFit_True => first | rfl | decide +kernel)
    (case yxxcf_NoFit_number => first | rfl | decide +kernel)
    (case yxkit_LoftError_NoFit_True => first | rfl | decide +kernel)
    (case yxkit_NoText_NoFit_False => first | rfl | decide +kernel)
