import PyProof.Rows.All
import Wide.All
import OpenK.AllK
import Wide.FinOn
import HandS.ForMost
import HandS.ForExc
import HandS.Wide
import HandS.Evl
import HandS.TupAny
import HandS.TupMul
import HandS.NoneIn
import HandS.Zip
import HandS.IsInst
import HandS.Text
import HandS.StrMore
import HandS.Comp
import HandS.Style
import PyProof.StrOps2
import KE.GoesMore
import KE.GoesEnum
import KE.GoesZip
import HandS.ExcCtx
import HandS.ExcOwn
import HandS.ExcInit
import HandS.ExcIs
import HandS.ExcField
import HandS.Replace
import HandS.CallLocal
import HandS.WideBits
import HandS.Conv
import KE.GoesEnumKw
import PyProof.Rows.CallKwBuiltin
import HandS.HotCalls
import PySem.Challenge.RW_tensloft_k31_moved_programs
set_option Elab.async false
set_option linter.all false
set_option maxRecDepth 100000
set_option maxHeartbeats 2000000
namespace Tm
open PySem L2
inductive MV where
  | non | bl (b : Bool) | int (i : Int) | str (x : Str)
  | tup (xs : List MV) | lst (xs : List MV) | own (xs : List MV)
  | raw (v : V) | scr (ns : List Int)
  | fnc (x : Str)
  | obj (C : Str) (fs : List (Str × MV))
instance : Inhabited MV := ⟨.non⟩
abbrev Env := List (Option MV)
structure MX where
  cls : Str
  fs : List (Str × MV)
inductive Res (α : Type) where
  | ok (a : α) | exc (e : MX) (ρ : Env) | stuck
inductive Fl where
  | nx | br | ct | rt (x : MV)
open Evl (Ex ex_rd ex_l ex_t)
theorem _root_.Evl.Ex.back {H H' : Hp} {p : Addr} (e : Ex H H') (h : H' p = none) : H p = none := Evl.fresh_back e h
theorem _root_.Evl.Ex.both {H H' : Hp} {p : Addr} {o : HO} (e : Ex H H') (h : H' p = none) : Ex (upd H p o) (upd H' p o) := fun a u ha => by
  by_cases hp : a = p
  · subst hp; rw [upd_same] at ha ⊢; exact ha
  · rw [upd_ne hp] at ha ⊢; exact e a u ha
theorem _root_.Evl.Ex.updL {H H' : Hp} {p : Addr} {o : HO} (e : Ex H H') (h : H' p = some o) : Ex (upd H p o) H' := fun a u ha => by
  by_cases hp : a = p
  · subst hp; rw [upd_same] at ha; cases ha; exact h
  · rw [upd_ne hp] at ha; exact e a u ha
mutual
def RV (K : PySem.W.Frag) (H : Hp) : MV → V → Prop
  | .non, v => v = .non
  | .bl b, v => v = .bl b
  | .int i, v => v = .int i
  | .str x, v => v = .str x
  | .tup xs, v => ∃ a vs, v = .ref a ∧ SqT K H a vs ∧ RVs K H xs vs
  | .lst xs, v => ∃ a vs, v = .ref a ∧ H a = some (.lst vs) ∧ RVs K H xs vs
  | .own _, _ => False
  | .raw w, v => v = w
  | .scr ns, v => ∃ a, v = .ref a ∧ SqL K H a (ns.map V.int)
  | .fnc x, v => ∃ a, v = .ref a ∧ PySem.W.nsIn K mainGlobals x = some (some (.ref a))
  | .obj _ _, _ => False
def RVs (K : PySem.W.Frag) (H : Hp) : List MV → List V → Prop
  | [], vs => vs = []
  | x :: xs, vs => ∃ v r, vs = v :: r ∧ RV K H x v ∧ RVs K H xs r
end
mutual
theorem RV.mono {K : PySem.W.Frag} {H H' : Hp} (e : Ex H H') : ∀ (x : MV) (v : V), RV K H x v → RV K H' x v
  | .non, v, h => by unfold RV at h ⊢; exact h
  | .bl b, v, h => by unfold RV at h ⊢; exact h
  | .int i, v, h => by unfold RV at h ⊢; exact h
  | .str x, v, h => by unfold RV at h ⊢; exact h
  | .tup xs, v, h => by
    unfold RV at h ⊢
    obtain ⟨a, vs, e1, e2, e3⟩ := h
    exact ⟨a, vs, e1, ex_t e e2, RVs.mono e xs vs e3⟩
  | .lst xs, v, h => by
    unfold RV at h ⊢
    obtain ⟨a, vs, e1, e2, e3⟩ := h
    exact ⟨a, vs, e1, e _ _ e2, RVs.mono e xs vs e3⟩
  | .own xs, v, h => by unfold RV at h; exact h.elim
  | .raw w, v, h => by unfold RV at h ⊢; exact h
  | .scr ns, v, h => by
    unfold RV at h ⊢
    obtain ⟨a, e1, e2⟩ := h
    exact ⟨a, e1, ex_l e e2⟩
  | .fnc x, v, h => by unfold RV at h ⊢; exact h
  | .obj C fs, v, h => by unfold RV at h; exact h.elim
theorem RVs.mono {K : PySem.W.Frag} {H H' : Hp} (e : Ex H H') : ∀ (xs : List MV) (vs : List V), RVs K H xs vs → RVs K H' xs vs
  | [], vs, h => by unfold RVs at h ⊢; exact h
  | x :: xs, vs, h => by
    unfold RVs at h ⊢
    obtain ⟨v, r, e1, e2, e3⟩ := h
    exact ⟨v, r, e1, RV.mono e x v e2, RVs.mono e xs r e3⟩
end
section
variable {K : PySem.W.Frag} {H : Hp}
theorem RV.int {i : Int} {v : V} : RV K H (.int i) v ↔ v = .int i := by unfold RV; rfl
theorem RV.bl {i : Bool} {v : V} : RV K H (.bl i) v ↔ v = .bl i := by unfold RV; rfl
theorem RV.str {i : Str} {v : V} : RV K H (.str i) v ↔ v = .str i := by unfold RV; rfl
theorem RV.non {v : V} : RV K H .non v ↔ v = .non := by unfold RV; rfl
theorem RV.raw {w v : V} : RV K H (.raw w) v ↔ v = w := by unfold RV; rfl
theorem RV.tup {xs : List MV} {v : V} : RV K H (.tup xs) v ↔ ∃ a vs, v = .ref a ∧ SqT K H a vs ∧ RVs K H xs vs := by
  constructor <;> intro h <;> (unfold RV at *; exact h)
theorem RV.lst {xs : List MV} {v : V} : RV K H (.lst xs) v ↔ ∃ a vs, v = .ref a ∧ H a = some (.lst vs) ∧ RVs K H xs vs := by
  constructor <;> intro h <;> (unfold RV at *; exact h)
theorem RV.scr {ns : List Int} {v : V} : RV K H (.scr ns) v ↔ ∃ a, v = .ref a ∧ SqL K H a (ns.map V.int) := by
  constructor <;> intro h <;> (unfold RV at *; exact h)
theorem RV.fnc {x : Str} {v : V} : RV K H (.fnc x) v ↔ ∃ a, v = .ref a ∧ PySem.W.nsIn K mainGlobals x = some (some (.ref a)) := by
  constructor <;> intro h <;> (unfold RV at *; exact h)
theorem RVs.nil {vs : List V} : RVs K H [] vs ↔ vs = [] := by unfold RVs; rfl
theorem RVs.cons {x : MV} {xs : List MV} {vs : List V} : RVs K H (x :: xs) vs ↔ ∃ v r, vs = v :: r ∧ RV K H x v ∧ RVs K H xs r := by
  rw [RVs]
theorem RVs.length : ∀ {xs : List MV} {vs : List V}, RVs K H xs vs → vs.length = xs.length
  | [], vs, h => by rw [RVs.nil] at h; subst h; rfl
  | x :: xs, vs, h => by
    rw [RVs.cons] at h
    obtain ⟨v, r, rfl, _, h⟩ := h
    simp [RVs.length h]
theorem RVs.get : ∀ {xs : List MV} {vs : List V} {i : Nat} {x : MV}, RVs K H xs vs → xs[i]? = some x → ∃ v, vs[i]? = some v ∧ RV K H x v
  | [], _, i, x, _, e => by simp at e
  | y :: xs, vs, 0, x, h, e => by
    rw [RVs.cons] at h
    obtain ⟨v, r, rfl, h1, _⟩ := h
    simp at e; subst e; exact ⟨v, rfl, h1⟩
  | y :: xs, vs, i + 1, x, h, e => by
    rw [RVs.cons] at h
    obtain ⟨v, r, rfl, _, h⟩ := h
    obtain ⟨u, h1, h2⟩ := RVs.get (i := i) (x := x) h (by simpa using e)
    exact ⟨u, by simpa using h1, h2⟩
theorem RVs.append : ∀ {xs ys : List MV} {vs ws : List V}, RVs K H xs vs → RVs K H ys ws → RVs K H (xs ++ ys) (vs ++ ws)
  | [], ys, vs, ws, h, h2 => by rw [RVs.nil] at h; subst h; exact h2
  | x :: xs, ys, vs, ws, h, h2 => by
    rw [RVs.cons] at h
    obtain ⟨v, r, rfl, h1, h⟩ := h
    show RVs K H (x :: (xs ++ ys)) (v :: (r ++ ws))
    rw [RVs.cons]
    exact ⟨v, r ++ ws, rfl, h1, RVs.append h h2⟩
theorem RVs.take : ∀ {xs : List MV} {vs : List V} (n : Nat), RVs K H xs vs → RVs K H (xs.take n) (vs.take n)
  | _, _, 0, _ => by simp [RVs]
  | [], vs, n + 1, h => by rw [RVs.nil] at h; subst h; simp [RVs]
  | x :: xs, vs, n + 1, h => by
    rw [RVs.cons] at h
    obtain ⟨v, r, rfl, h1, h⟩ := h
    show RVs K H (x :: xs.take n) (v :: r.take n)
    rw [RVs.cons]
    exact ⟨v, _, rfl, h1, RVs.take n h⟩
theorem RVs.drop : ∀ {xs : List MV} {vs : List V} (n : Nat), RVs K H xs vs → RVs K H (xs.drop n) (vs.drop n)
  | _, _, 0, h => h
  | [], vs, n + 1, h => by rw [RVs.nil] at h; subst h; simp [RVs]
  | x :: xs, vs, n + 1, h => by
    rw [RVs.cons] at h
    obtain ⟨v, r, rfl, h1, h⟩ := h
    exact RVs.drop n h
theorem RVs.set : ∀ {xs : List MV} {vs : List V} (i : Nat) {x : MV} {v : V}, RVs K H xs vs → RV K H x v → RVs K H (xs.set i x) (vs.set i v)
  | [], vs, i, x, v, h, _ => by rw [RVs.nil] at h; subst h; simp [RVs]
  | y :: xs, vs, 0, x, v, h, h2 => by
    rw [RVs.cons] at h
    obtain ⟨u, r, rfl, h1, h⟩ := h
    show RVs K H (x :: xs) (v :: r)
    rw [RVs.cons]; exact ⟨v, r, rfl, h2, h⟩
  | y :: xs, vs, i + 1, x, v, h, h2 => by
    rw [RVs.cons] at h
    obtain ⟨u, r, rfl, h1, h⟩ := h
    show RVs K H (y :: xs.set i x) (u :: r.set i v)
    rw [RVs.cons]; exact ⟨u, _, rfl, h1, RVs.set i h h2⟩
theorem RVs.reverse : ∀ {xs : List MV} {vs : List V}, RVs K H xs vs → RVs K H xs.reverse vs.reverse
  | [], vs, h => by rw [RVs.nil] at h; subst h; simp [RVs]
  | x :: xs, vs, h => by
    rw [RVs.cons] at h
    obtain ⟨v, r, rfl, h1, h⟩ := h
    rw [List.reverse_cons, List.reverse_cons]
    refine RVs.append (RVs.reverse h) ?_
    rw [RVs.cons]; exact ⟨v, [], rfl, h1, RVs.nil.mpr rfl⟩
theorem RVs.ints : ∀ {ns : List Int} {vs : List V}, RVs K H (ns.map MV.int) vs ↔ vs = ns.map V.int
  | [], vs => RVs.nil
  | n :: ns, vs => by
    rw [List.map_cons, RVs.cons]
    constructor
    · rintro ⟨v, r, rfl, h1, h2⟩
      rw [RV.int.mp h1, RVs.ints.mp h2]; rfl
    · rintro rfl
      exact ⟨_, _, rfl, RV.int.mpr rfl, RVs.ints.mpr rfl⟩
end
def OF (K : PySem.W.Frag) (Hk H : Hp) : MV → V → List Addr → Prop
  | .own xs, v, A => ∃ p vs, v = .ref p ∧ A = [p] ∧ H p = some (.lst vs) ∧ RVs K Hk xs vs
  | x, v, A => A = [] ∧ RV K Hk x v
def OFs (K : PySem.W.Frag) (Hk H : Hp) : List (Str × MV) → List (Str × V) → List Addr → Prop
  | [], vs, A => vs = [] ∧ A = []
  | (n, x) :: xs, vs, A => ∃ v r B C, vs = (n, v) :: r ∧ A = B ++ C ∧ OF K Hk H x v B ∧ OFs K Hk H xs r C
def OV (K : PySem.W.Frag) (Hk H : Hp) : MV → V → List Addr → Prop
  | .obj C fs, v, A => ∃ p CA dx vfs B, v = .ref p ∧ A = p :: B ∧ PySem.W.nsIn K mainGlobals C = some (some (.ref CA)) ∧ H p = some (.ins CA dx vfs) ∧ OFs K Hk H fs vfs B ∧ (p :: B).Nodup
  | x, v, A => OF K Hk H x v A
def MV.per : MV → Bool
  | .own _ => false
  | .obj _ _ => false
  | _ => true
theorem OF.per {K : PySem.W.Frag} {Hk H : Hp} {x : MV} {v : V} {A : List Addr} (h : x.per = true) : OF K Hk H x v A ↔ A = [] ∧ RV K Hk x v := by
  cases x <;> first | (simp [MV.per] at h; done) | (unfold OF; rfl)
theorem OV.per {K : PySem.W.Frag} {Hk H : Hp} {x : MV} {v : V} {A : List Addr} (h : x.per = true) : OV K Hk H x v A ↔ A = [] ∧ RV K Hk x v := by
  cases x <;> first | (simp [MV.per] at h; done) | (unfold OV OF; rfl)
theorem OV.own {K : PySem.W.Frag} {Hk H : Hp} {xs : List MV} {v : V} {A : List Addr} : OV K Hk H (.own xs) v A ↔ ∃ p vs, v = .ref p ∧ A = [p] ∧ H p = some (.lst vs) ∧ RVs K Hk xs vs := by
  unfold OV OF; rfl
theorem RV.isper {K : PySem.W.Frag} {H : Hp} {x : MV} {v : V} (h : RV K H x v) : x.per = true := by
  cases x <;> first | rfl | (unfold RV at h; exact h.elim)
theorem RV.ov {K : PySem.W.Frag} {Hk H : Hp} {x : MV} {v : V} (h : RV K Hk x v) : OV K Hk H x v [] := (OV.per h.isper).mpr ⟨rfl, h⟩
theorem OF.move {K : PySem.W.Frag} {Hk Hk' H H' : Hp} {x : MV} {v : V} {A : List Addr} (h : OF K Hk H x v A) (e : Ex Hk Hk') (k : ∀ a ∈ A, ∀ o, H a = some o → H' a = some o) : OF K Hk' H' x v A := by
  cases x with
  | own xs =>
    unfold OF at h ⊢
    obtain ⟨p, vs, e1, e2, e3, e4⟩ := h
    exact ⟨p, vs, e1, e2, k p (by rw [e2]; simp) _ e3, e4.mono e⟩
  | obj C fs => exact (show False by unfold OF at h; unfold RV at h; exact h.2).elim
  | _ =>
    unfold OF at h ⊢
    exact ⟨h.1, RV.mono e _ _ h.2⟩
theorem OFs.move {K : PySem.W.Frag} {Hk Hk' H H' : Hp} : ∀ {fs : List (Str × MV)} {vs : List (Str × V)} {A : List Addr}, OFs K Hk H fs vs A → Ex Hk Hk' → (∀ a ∈ A, ∀ o, H a = some o → H' a = some o) → OFs K Hk' H' fs vs A
  | [], _, _, h, _, _ => h
  | (n, x) :: fs, vs, A, h, e, k => by
    obtain ⟨v, r, B, C, e1, e2, h1, h2⟩ := h
    refine ⟨v, r, B, C, e1, e2, h1.move e fun a ha => k a (by rw [e2]; exact List.mem_append_left _ ha), OFs.move h2 e fun a ha => k a (by rw [e2]; exact List.mem_append_right _ ha)⟩
theorem OV.move {K : PySem.W.Frag} {Hk Hk' H H' : Hp} {x : MV} {v : V} {A : List Addr} (h : OV K Hk H x v A) (e : Ex Hk Hk') (k : ∀ a ∈ A, ∀ o, H a = some o → H' a = some o) : OV K Hk' H' x v A := by
  cases x with
  | obj C fs =>
    unfold OV at h ⊢
    obtain ⟨p, CA, dx, vfs, B, e1, e2, e0, e3, e4, e5⟩ := h
    exact ⟨p, CA, dx, vfs, B, e1, e2, e0, k p (by rw [e2]; simp) _ e3, OFs.move e4 e fun a ha => k a (by rw [e2]; exact List.mem_cons_of_mem _ ha), e5⟩
  | _ => (unfold OV at h ⊢; exact OF.move h e k)
theorem OF.there {K : PySem.W.Frag} {Hk H : Hp} {x : MV} {v : V} {A : List Addr} (h : OF K Hk H x v A) : ∀ a ∈ A, ∃ o, H a = some o := by
  cases x with
  | own xs =>
    unfold OF at h
    obtain ⟨p, vs, e1, e2, e3, e4⟩ := h
    intro a ha
    rw [e2] at ha
    simp at ha
    subst ha
    exact ⟨_, e3⟩
  | _ =>
    unfold OF at h
    intro a ha
    rw [h.1] at ha
    cases ha
theorem OFs.there {K : PySem.W.Frag} {Hk H : Hp} : ∀ {fs : List (Str × MV)} {vs : List (Str × V)} {A : List Addr}, OFs K Hk H fs vs A → ∀ a ∈ A, ∃ o, H a = some o
  | [], _, _, h, a, ha => by rw [h.2] at ha; cases ha
  | (n, x) :: fs, vs, A, h, a, ha => by
    obtain ⟨v, r, B, C, e1, e2, h1, h2⟩ := h
    rw [e2] at ha
    rcases List.mem_append.mp ha with ha | ha
    · exact h1.there a ha
    · exact OFs.there h2 a ha
theorem OV.there {K : PySem.W.Frag} {Hk H : Hp} {x : MV} {v : V} {A : List Addr} (h : OV K Hk H x v A) : ∀ a ∈ A, ∃ o, H a = some o := by
  cases x with
  | obj C fs =>
    unfold OV at h
    obtain ⟨p, CA, dx, vfs, B, e1, e2, e0, e3, e4, e5⟩ := h
    intro a ha
    rw [e2] at ha
    rcases List.mem_cons.mp ha with rfl | ha
    · exact ⟨_, e3⟩
    · exact OFs.there e4 a ha
  | _ => (unfold OV at h; exact OF.there h)
def put (ow : Nat → List Addr) (i : Nat) (A : List Addr) : Nat → List Addr := fun j => if j = i then A else ow j
theorem put_same {ow : Nat → List Addr} {i : Nat} {A : List Addr} : put ow i A i = A := if_pos rfl
theorem put_ne {ow : Nat → List Addr} {i j : Nat} {A : List Addr} (h : j ≠ i) : put ow i A j = ow j := if_neg h
structure SL (K : PySem.W.Frag) (F Hk H : Hp) (ow : Nat → List Addr) (σ : St) (ρ : Env) : Prop where
  s : ∀ (i : Nat) x, ρ[i]? = some (some x) → ∃ v, σ[i]? = some (some v) ∧ OV K Hk H x v (ow i)
  f : ∀ i a, a ∈ ow i → Hk a = none ∧ F a = none ∧ ∃ o, H a = some o
  w : ∀ i, ow i ≠ [] → i < ρ.length
  d : ∀ i j a, i ≠ j → a ∈ ow i → a ∉ ow j
structure RS (K : PySem.W.Frag) (F Hk H : Hp) (bp : List (Nat × Addr)) (σ : St) (ρ : Env) : Prop where
  len : σ.length = ρ.length
  ex : Ex Hk H
  fr : Ex F H
  frk : ∀ a o, F a = some o → Hk a = none
  ow : ∃ ow, SL K F Hk H ow σ ρ
  bor : ∀ q ∈ bp, σ[q.1]? = some (some (.ref q.2))
theorem set_get {α : Type} {l : List α} {i j : Nat} {x y : α} (h : (l.set i x)[j]? = some y) : (j = i ∧ y = x) ∨ (j ≠ i ∧ l[j]? = some y) := by
  by_cases e : i = j
  · subst e
    rw [List.getElem?_set] at h
    simp at h
    exact .inl ⟨rfl, h.2.symm⟩
  · rw [List.getElem?_set_ne e] at h
    exact .inr ⟨fun q => e q.symm, h⟩
theorem app_get {α : Type} {l : List α} {j : Nat} {x y : α} (h : (l ++ [x])[j]? = some y) : (j = l.length ∧ y = x) ∨ (j < l.length ∧ l[j]? = some y) := by
  by_cases e : j < l.length
  · rw [List.getElem?_append_left e] at h; exact .inr ⟨e, h⟩
  · rw [List.getElem?_append_right (Nat.le_of_not_lt e)] at h
    have := (List.getElem?_eq_some_iff.mp h).1
    simp at this
    have ej : j = l.length := by omega
    subst ej
    simp at h
    exact .inl ⟨rfl, h.symm⟩
theorem lt_get {α : Type} {l : List α} {j : Nat} {y : α} (h : l[j]? = some y) : j < l.length := (List.getElem?_eq_some_iff.mp h).1
section
variable {K : PySem.W.Frag} {F Hk Hk' H H' : Hp} {bp : List (Nat × Addr)} {σ : St} {ρ : Env} {ow : Nat → List Addr}
theorem SL.out (S : SL K F Hk H ow σ ρ) {i : Nat} (h : ρ.length ≤ i) : ow i = [] := by
  cases e : ow i with
  | nil => rfl
  | cons a r => exact absurd (S.w i (by rw [e]; simp)) (by omega)
theorem SL.fresh (S : SL K F Hk H ow σ ρ) {p : Addr} (h : H p = none) (i : Nat) : p ∉ ow i := fun m => by
  obtain ⟨_, _, o, e⟩ := S.f i p m
  rw [h] at e; cases e
theorem SL.kn (S : SL K F Hk H ow σ ρ) {p : Addr} {o : HO} (h : Hk p = some o) (i : Nat) : p ∉ ow i := fun m => by
  obtain ⟨e, _⟩ := S.f i p m
  rw [h] at e; cases e
theorem SL.step (S : SL K F Hk H ow σ ρ) (e : Ex Hk Hk') (k : ∀ i, ∀ a ∈ ow i, H' a = H a ∧ Hk' a = none) : SL K F Hk' H' ow σ ρ := by
  refine ⟨fun i x h => ?_, fun i a h => ?_, S.w, S.d⟩
  · obtain ⟨v, ev, o⟩ := S.s i x h
    exact ⟨v, ev, o.move e fun a ha u hu => by rw [(k i a ha).1]; exact hu⟩
  · obtain ⟨f1, f2, o, f3⟩ := S.f i a h
    exact ⟨(k i a h).2, f2, o, by rw [(k i a h).1]; exact f3⟩
theorem SL.set (S : SL K F Hk H ow σ ρ) (hl : σ.length = ρ.length) {i : Nat} {x : MV} {v : V} (hi : i < ρ.length) (r : RV K Hk x v) : SL K F Hk H (put ow i []) (σ.set i (some v)) (ρ.set i (some x)) := by
  refine ⟨fun j y h => ?_, fun j a h => ?_, fun j h => ?_, fun j k a hjk h => ?_⟩
  · rcases set_get h with ⟨rfl, e⟩ | ⟨ne, e⟩
    · cases e
      refine ⟨v, by rw [List.getElem?_set_self (by rw [hl]; exact hi)], ?_⟩
      rw [put_same]; exact r.ov
    · obtain ⟨u, e1, e2⟩ := S.s j y e
      exact ⟨u, by rw [List.getElem?_set_ne (Ne.symm ne)]; exact e1, by rw [put_ne ne]; exact e2⟩
  · by_cases e : j = i
    · rw [e, put_same] at h; cases h
    · rw [put_ne e] at h; exact S.f j a h
  · by_cases e : j = i
    · rw [e, put_same] at h; exact (h rfl).elim
    · rw [put_ne e] at h; rw [List.length_set]; exact S.w j h
  · by_cases e : j = i
    · rw [e, put_same] at h; cases h
    · rw [put_ne e] at h
      by_cases e2 : k = i
      · rw [e2, put_same]; simp
      · rw [put_ne e2]; exact S.d j k a hjk h
theorem SL.push (S : SL K F Hk H ow σ ρ) (hl : σ.length = ρ.length) {x : MV} {v : V} {A : List Addr} (o : OV K Hk H x v A) (hf : ∀ a ∈ A, Hk a = none ∧ F a = none) (hd : ∀ i, ∀ a ∈ A, a ∉ ow i) :
    SL K F Hk H (put ow ρ.length A) (σ ++ [some v]) (ρ ++ [some x]) := by
  refine ⟨fun j y h => ?_, fun j a h => ?_, fun j h => ?_, fun j k a hjk h => ?_⟩
  · rcases app_get h with ⟨rfl, e⟩ | ⟨lt, e⟩
    · cases e
      refine ⟨v, by rw [← hl]; simp, ?_⟩
      rw [put_same]; exact o
    · obtain ⟨u, e1, e2⟩ := S.s j y e
      exact ⟨u, by rw [List.getElem?_append_left (by rw [hl]; exact lt)]; exact e1, by rw [put_ne (Nat.ne_of_lt lt)]; exact e2⟩
  · by_cases e : j = ρ.length
    · rw [e, put_same] at h; exact ⟨(hf a h).1, (hf a h).2, o.there a h⟩
    · rw [put_ne e] at h; exact S.f j a h
  · by_cases e : j = ρ.length
    · rw [e]; simp
    · rw [put_ne e] at h; have := S.w j h; simp; omega
  · by_cases e : j = ρ.length
    · rw [e, put_same] at h
      rw [put_ne (fun z => hjk (e.trans z.symm))]
      exact hd k a h
    · rw [put_ne e] at h
      by_cases e2 : k = ρ.length
      · rw [e2, put_same]; exact fun z => hd j a z h
      · rw [put_ne e2]; exact S.d j k a hjk h
theorem SL.take (S : SL K F Hk H ow (σ ++ [some v]) (ρ ++ [some x])) (hl : σ.length = ρ.length) {i : Nat} (hi : i < ρ.length) : SL K F Hk H (put (put ow i (ow ρ.length)) ρ.length []) (σ.set i (some v)) (ρ.set i (some x)) := by
  have ne : i ≠ ρ.length := Nat.ne_of_lt hi
  obtain ⟨u, hu, ou⟩ := S.s ρ.length x (by simp)
  have ev : u = v := by rw [← hl] at hu; simpa using hu.symm
  subst ev
  have lt : ∀ j a, a ∈ put (put ow i (ow ρ.length)) ρ.length [] j → (j = i ∧ a ∈ ow ρ.length) ∨ (j ≠ i ∧ j < ρ.length ∧ a ∈ ow j) := fun j a h => by
    by_cases e : j = ρ.length
    · rw [e, put_same] at h; cases h
    · rw [put_ne e] at h
      by_cases e2 : j = i
      · rw [e2, put_same] at h; exact .inl ⟨e2, h⟩
      · rw [put_ne e2] at h
        have := S.w j (by intro z; rw [z] at h; cases h)
        simp at this
        exact .inr ⟨e2, by omega, h⟩
  refine ⟨fun j y h => ?_, fun j a h => ?_, fun j h => ?_, fun j k a hjk h => ?_⟩
  · rcases set_get h with ⟨rfl, e⟩ | ⟨ne2, e⟩
    · cases e
      refine ⟨u, by rw [List.getElem?_set_self (by rw [hl]; exact hi)], ?_⟩
      rw [put_ne ne, put_same]; exact ou
    · have lj := lt_get e
      obtain ⟨w, e1, e2⟩ := S.s j y (by rw [List.getElem?_append_left lj]; exact e)
      rw [List.getElem?_append_left (by rw [hl]; exact lj)] at e1
      exact ⟨w, by rw [List.getElem?_set_ne (Ne.symm ne2)]; exact e1, by rw [put_ne (Nat.ne_of_lt lj), put_ne ne2]; exact e2⟩
  · rcases lt j a h with ⟨_, m⟩ | ⟨_, _, m⟩
    · exact S.f _ a m
    · exact S.f _ a m
  · rw [List.length_set]
    cases e : put (put ow i (ow ρ.length)) ρ.length [] j with
    | nil => exact (h e).elim
    | cons a r =>
      rcases lt j a (by rw [e]; simp) with ⟨e, _⟩ | ⟨_, l, _⟩
      · rw [e]; exact hi
      · exact l
  · intro hk
    rcases lt j a h with ⟨e1, m⟩ | ⟨e1, l1, m⟩ <;> rcases lt k a hk with ⟨e2, m2⟩ | ⟨e2, l2, m2⟩
    · exact hjk (e1.trans e2.symm)
    · exact S.d ρ.length k a (by omega) m m2
    · exact S.d j ρ.length a (by omega) m m2
    · exact S.d j k a hjk m m2
theorem SL.drop (S : SL K F Hk H ow (σ ++ [y]) (ρ ++ [x])) (hl : σ.length = ρ.length) : SL K F Hk H (put ow ρ.length []) σ ρ := by
  refine ⟨fun j y h => ?_, fun j a h => ?_, fun j h => ?_, fun j k a hjk h => ?_⟩
  · have lj := lt_get h
    obtain ⟨w, e1, e2⟩ := S.s j y (by rw [List.getElem?_append_left lj]; exact h)
    rw [List.getElem?_append_left (by rw [hl]; exact lj)] at e1
    exact ⟨w, e1, by rw [put_ne (Nat.ne_of_lt lj)]; exact e2⟩
  · by_cases e : j = ρ.length
    · rw [e, put_same] at h; cases h
    · rw [put_ne e] at h; exact S.f j a h
  · by_cases e : j = ρ.length
    · rw [e, put_same] at h; exact (h rfl).elim
    · rw [put_ne e] at h; have := S.w j h; simp at this; omega
  · by_cases e : j = ρ.length
    · rw [e, put_same] at h; cases h
    · rw [put_ne e] at h
      by_cases e2 : k = ρ.length
      · rw [e2, put_same]; simp
      · rw [put_ne e2]; exact S.d j k a hjk h
theorem RS.get (S : RS K F Hk H bp σ ρ) {i : Nat} {x : MV} (h : ρ[i]? = some (some x)) (hp : x.per = true) : ∃ v, σ[i]? = some (some v) ∧ RV K Hk x v := by
  obtain ⟨ow, s⟩ := S.ow
  obtain ⟨v, e, o⟩ := s.s i x h
  exact ⟨v, e, ((OV.per hp).mp o).2⟩
theorem RS.getOwn (S : RS K F Hk H bp σ ρ) {i : Nat} {xs : List MV} (h : ρ[i]? = some (some (.own xs))) : ∃ p vs, σ[i]? = some (some (.ref p)) ∧ H p = some (.lst vs) ∧ RVs K Hk xs vs ∧ Hk p = none ∧ F p = none := by
  obtain ⟨ow, s⟩ := S.ow
  obtain ⟨v, e, o⟩ := s.s i _ h
  obtain ⟨p, vs, e1, e2, e3, e4⟩ := OV.own.mp o
  have m : p ∈ ow i := by rw [e2]; simp
  exact ⟨p, vs, by rw [e, e1], e3, e4, (s.f i p m).1, (s.f i p m).2.1⟩
theorem RS.step (S : RS K F Hk H bp σ ρ) (e : Ex Hk Hk') (e' : Ex Hk' H') (k : ∀ a o, Hk a = none → H a = some o → H' a = some o ∧ Hk' a = none) : RS K F Hk' H' bp σ ρ := by
  obtain ⟨ow, s⟩ := S.ow
  refine ⟨S.len, e', fun a o h => (k a o (S.frk a o h) (S.fr a o h)).1, fun a o h => (k a o (S.frk a o h) (S.fr a o h)).2, ⟨ow, s.step e fun i a h => ?_⟩, S.bor⟩
  obtain ⟨f1, _, o, f2⟩ := s.f i a h
  exact ⟨((k a o f1 f2).1).trans f2.symm, (k a o f1 f2).2⟩
theorem RS.new (S : RS K F Hk H bp σ ρ) {p : Addr} {o : HO} (h : H p = none) : RS K F (upd Hk p o) (upd H p o) bp σ ρ :=
  S.step (Ex.new (S.ex.back h)) (S.ex.both h) fun a u hk ha => by
    have ne := ne_of_none ha h
    rw [upd_ne ne, upd_ne ne]
    exact ⟨ha, hk⟩
theorem RS.more (S : RS K F Hk H bp σ ρ) {p : Addr} {o : HO} (h : H p = none) : RS K F Hk (upd H p o) bp σ ρ :=
  S.step (Ex.refl _) (S.ex.mut (S.ex.back h)) fun a u hk ha => by
    rw [upd_ne (ne_of_none ha h)]
    exact ⟨ha, hk⟩
theorem RS.set (S : RS K F Hk H bp σ ρ) {i : Nat} {x : MV} {v : V} (hi : i < ρ.length) (r : RV K Hk x v) (hb : ∀ q ∈ bp, q.1 ≠ i) : RS K F Hk H bp (σ.set i (some v)) (ρ.set i (some x)) := by
  obtain ⟨ow, s⟩ := S.ow
  exact ⟨by simp [S.len], S.ex, S.fr, S.frk, ⟨_, s.set S.len hi r⟩, fun q hq => by rw [List.getElem?_set_ne (Ne.symm (hb q hq))]; exact S.bor q hq⟩
theorem RS.bor_app (S : RS K F Hk H bp σ ρ) (y : Option V) : ∀ q ∈ bp, (σ ++ [y])[q.1]? = some (some (.ref q.2)) := fun q hq => by
  have q1 := S.bor q hq
  rw [List.getElem?_append_left (lt_get q1)]; exact q1
theorem RS.push (S : RS K F Hk H bp σ ρ) {x : MV} {v : V} (r : RV K Hk x v) : RS K F Hk H bp (σ ++ [some v]) (ρ ++ [some x]) := by
  obtain ⟨ow, s⟩ := S.ow
  exact ⟨by simp [S.len], S.ex, S.fr, S.frk, ⟨_, s.push S.len r.ov (fun _ h => nomatch h) (fun _ _ h => nomatch h)⟩, S.bor_app _⟩
theorem RS.pushOwn (S : RS K F Hk H bp σ ρ) {p : Addr} {xs : List MV} {vs : List V} (h : H p = none) (r : RVs K Hk xs vs) : RS K F Hk (upd H p (.lst vs)) bp (σ ++ [some (.ref p)]) (ρ ++ [some (.own xs)]) := by
  obtain ⟨ow, s⟩ := S.ow
  have S' := S.more (o := .lst vs) h
  have s' : SL K F Hk (upd H p (.lst vs)) ow σ ρ := s.step (Ex.refl _) fun i a ha => by
    obtain ⟨f1, f2, o, f3⟩ := s.f i a ha
    exact ⟨upd_ne (ne_of_none f3 h), f1⟩
  have fp : F p = none := by
    cases e : F p with
    | none => rfl
    | some o => have := S.fr p o e; rw [h] at this; cases this
  refine ⟨by simp [S.len], S'.ex, S'.fr, S'.frk, ⟨_, s'.push S.len (A := [p]) (OV.own.mpr ⟨p, vs, rfl, rfl, upd_same, r⟩) (fun a ha => ?_) (fun i a ha => ?_)⟩, S.bor_app _⟩
  · simp at ha; subst ha; exact ⟨S.ex.back h, fp⟩
  · simp at ha; subst ha; exact s.fresh h i
theorem RS.take {v : V} {x : MV} (S : RS K F Hk H bp (σ ++ [some v]) (ρ ++ [some x])) {i : Nat} (hi : i < ρ.length) (hb : ∀ q ∈ bp, q.1 ≠ i ∧ q.1 < ρ.length) : RS K F Hk H bp (σ.set i (some v)) (ρ.set i (some x)) := by
  obtain ⟨ow, s⟩ := S.ow
  have hl : σ.length = ρ.length := by have := S.len; simpa using this
  refine ⟨by simp [hl], S.ex, S.fr, S.frk, ⟨_, s.take hl hi⟩, fun q hq => ?_⟩
  have q1 := S.bor q hq
  rw [List.getElem?_append_left (by rw [hl]; exact (hb q hq).2)] at q1
  rw [List.getElem?_set_ne (Ne.symm (hb q hq).1)]; exact q1
theorem RS.drop {y : Option V} {x : Option MV} (S : RS K F Hk H bp (σ ++ [y]) (ρ ++ [x])) (hb : ∀ q ∈ bp, q.1 < ρ.length) : RS K F Hk H bp σ ρ := by
  obtain ⟨ow, s⟩ := S.ow
  have hl : σ.length = ρ.length := by have := S.len; simpa using this
  refine ⟨hl, S.ex, S.fr, S.frk, ⟨_, s.drop hl⟩, fun q hq => ?_⟩
  have q1 := S.bor q hq
  rw [List.getElem?_append_left (by rw [hl]; exact hb q hq)] at q1
  exact q1
theorem RS.freeze (S : RS K F Hk H bp σ ρ) {i : Nat} {xs : List MV} (h : ρ[i]? = some (some (.own xs))) :
    ∃ p vs, σ[i]? = some (some (.ref p)) ∧ Ex Hk (upd Hk p (.lst vs)) ∧ RV K (upd Hk p (.lst vs)) (.lst xs) (.ref p) ∧ RS K F (upd Hk p (.lst vs)) H bp σ (ρ.set i (some (.lst xs))) := by
  obtain ⟨ow, s⟩ := S.ow
  obtain ⟨v, ev, o⟩ := s.s i _ h
  obtain ⟨p, vs, e1, e2, e3, e4⟩ := OV.own.mp o
  have m : p ∈ ow i := by rw [e2]; simp
  obtain ⟨f1, f2, _⟩ := s.f i p m
  have ex : Ex Hk (upd Hk p (.lst vs)) := Ex.new f1
  have rv : RV K (upd Hk p (.lst vs)) (.lst xs) (.ref p) := RV.lst.mpr ⟨p, vs, rfl, upd_same, e4.mono ex⟩
  have li := lt_get h
  refine ⟨p, vs, by rw [ev, e1], ex, rv, by simp [S.len], S.ex.updL e3, S.fr, fun a u ha => ?_, ⟨put ow i [], ?_⟩, S.bor⟩
  · rw [upd_ne (ne_of_none ha f2)]; exact S.frk a u ha
  · refine ⟨fun j y hj => ?_, fun j a hj => ?_, fun j hj => ?_, fun j k a hjk hj => ?_⟩
    · rcases set_get hj with ⟨rfl, e⟩ | ⟨ne, e⟩
      · cases e
        exact ⟨v, ev, by rw [put_same, e1]; exact rv.ov⟩
      · obtain ⟨u, u1, u2⟩ := s.s j y e
        exact ⟨u, u1, by rw [put_ne ne]; exact u2.move ex fun _ _ _ z => z⟩
    · by_cases e : j = i
      · rw [e, put_same] at hj; cases hj
      · rw [put_ne e] at hj
        obtain ⟨g1, g2⟩ := s.f j a hj
        refine ⟨?_, g2⟩
        rw [upd_ne (fun z => s.d j i a e hj (by rw [z]; exact m))]; exact g1
    · by_cases e : j = i
      · rw [e, put_same] at hj; exact (hj rfl).elim
      · rw [put_ne e] at hj; rw [List.length_set]; exact s.w j hj
    · by_cases e : j = i
      · rw [e, put_same] at hj; cases hj
      · rw [put_ne e] at hj
        by_cases e2 : k = i
        · rw [e2, put_same]; simp
        · rw [put_ne e2]; exact s.d j k a hjk hj
theorem RS.change (S : RS K F Hk H bp σ ρ) {i : Nat} {xs ys : List MV} (h : ρ[i]? = some (some (.own xs))) :
    ∃ p vs, σ[i]? = some (some (.ref p)) ∧ H p = some (.lst vs) ∧ RVs K Hk xs vs ∧ ∀ ws, RVs K Hk ys ws → RS K F Hk (upd H p (.lst ws)) bp σ (ρ.set i (some (.own ys))) := by
  obtain ⟨ow, s⟩ := S.ow
  obtain ⟨v, ev, o⟩ := s.s i _ h
  obtain ⟨p, vs, e1, e2, e3, e4⟩ := OV.own.mp o
  have m : p ∈ ow i := by rw [e2]; simp
  obtain ⟨f1, f2, _⟩ := s.f i p m
  refine ⟨p, vs, by rw [ev, e1], e3, e4, fun ws r => ⟨by simp [S.len], S.ex.mut f1, S.fr.mut f2, S.frk, ⟨ow, ?_⟩, S.bor⟩⟩
  refine ⟨fun j y hj => ?_, fun j a hj => ?_, fun j hj => by rw [List.length_set]; exact s.w j hj, s.d⟩
  · rcases set_get hj with ⟨rfl, e⟩ | ⟨ne, e⟩
    · cases e
      exact ⟨v, ev, OV.own.mpr ⟨p, ws, e1, e2, upd_same, r⟩⟩
    · obtain ⟨u, u1, u2⟩ := s.s j y e
      exact ⟨u, u1, u2.move (Ex.refl _) fun a ha o ho => by rw [upd_ne (fun z => s.d j i a ne ha (by rw [z]; exact m))]; exact ho⟩
  · obtain ⟨g1, g2, o, g3⟩ := s.f j a hj
    by_cases e : a = p
    · subst e; exact ⟨g1, g2, _, upd_same⟩
    · exact ⟨g1, g2, o, by rw [upd_ne e]; exact g3⟩
end
end Tm
set_option Elab.async false
set_option linter.all false
set_option maxRecDepth 100000
set_option maxHeartbeats 2000000
namespace Tm
open PySem L2
open Evl (Ex ex_rd ex_l ex_t)
structure Ct where
  K : PySem.W.Frag
  mg : Str → Option Value
  W : WX
  bs : List Nat
  J : Hp → List (Nat × Addr) → Prop
  Jm : ∀ F F1 bp, Ex F F1 → J F bp → J F1 bp
def XFs (K : PySem.W.Frag) (H : Hp) : List (Str × MV) → List (Str × V) → Prop
  | [], vs => vs = []
  | (n, x) :: xs, vs => ∃ v r, vs = (n, v) :: r ∧ RV K H x v ∧ XFs K H xs r
def ExR (K : PySem.W.Frag) (mg : Str → Option Value) (H : Hp) (e : MX) (cls : Value) (d : Option Addr) : Prop :=
  ∃ C, mg e.cls = some (.ref C) ∧ cls = .ref C ∧ ((e.fs = [] ∧ d = none) ∨ ∃ dx vfs, d = some dx ∧ H dx = some (.xd vfs) ∧ XFs K H e.fs vfs)
theorem XFs.mono {K : PySem.W.Frag} {H H' : Hp} (e : Ex H H') : ∀ {xs : List (Str × MV)} {vs : List (Str × V)}, XFs K H xs vs → XFs K H' xs vs
  | [], _, h => h
  | (n, x) :: xs, vs, h => by
    obtain ⟨v, r, e1, e2, e3⟩ := h
    exact ⟨v, r, e1, RV.mono e _ _ e2, XFs.mono e e3⟩
theorem ExR.mono {K : PySem.W.Frag} {mg : Str → Option Value} {H H' : Hp} {e : MX} {cls : Value} {d : Option Addr} (x : Ex H H') (h : ExR K mg H e cls d) : ExR K mg H' e cls d := by
  obtain ⟨C, h1, h2, h3⟩ := h
  refine ⟨C, h1, h2, ?_⟩
  rcases h3 with h3 | ⟨dx, vfs, a, b, c⟩
  · exact .inl h3
  · exact .inr ⟨dx, vfs, a, x _ _ b, c.mono x⟩
abbrev ME := Env → Res (MV × Env)
abbrev MT := Env → Res (Bool × Env)
abbrev MA := Env → Res (List MV × Env)
abbrev MS := Env → Res (Fl × Env)
def Wish (c : Ct) (F Hk : Hp) (bp : List (Nat × Addr)) (σ : St) (e : MX) (ρ : Env) : Prop :=
  ∀ Hk' H' cls d, Ex Hk Hk' → RS c.K F Hk' H' bp σ ρ → ExR c.K c.mg Hk' e cls d → c.W cls d σ H'
def okE (c : Ct) (F Hk : Hp) (bp : List (Nat × Addr)) (σ : St) (Q : VK) : Res (MV × Env) → Prop
  | .ok (x, ρ') => ∀ Hk' H' v, Ex Hk Hk' → RS c.K F Hk' H' bp σ ρ' → RV c.K Hk' x v → Q v H'
  | .exc e ρ' => Wish c F Hk bp σ e ρ'
  | .stuck => False
def okO (c : Ct) (F Hk : Hp) (bp : List (Nat × Addr)) (σ : St) (Q : VK) : Res (MV × Env) → Prop
  | .ok (x, ρ') => ∀ Hk' H' v, Ex Hk Hk' → RS c.K F Hk' H' bp (σ ++ [some v]) (ρ' ++ [some x]) → Q v H'
  | .exc e ρ' => Wish c F Hk bp σ e ρ'
  | .stuck => False
def okT (c : Ct) (F Hk : Hp) (bp : List (Nat × Addr)) (σ : St) (Q : Bool → Hp → Prop) : Res (Bool × Env) → Prop
  | .ok (x, ρ') => ∀ Hk' H', Ex Hk Hk' → RS c.K F Hk' H' bp σ ρ' → Q x H'
  | .exc e ρ' => Wish c F Hk bp σ e ρ'
  | .stuck => False
def okA (c : Ct) (F Hk : Hp) (bp : List (Nat × Addr)) (σ : St) (Q : List V → Hp → Prop) : Res (List MV × Env) → Prop
  | .ok (xs, ρ') => ∀ Hk' H' vs, Ex Hk Hk' → RS c.K F Hk' H' bp σ ρ' → RVs c.K Hk' xs vs → Q vs H'
  | .exc e ρ' => Wish c F Hk bp σ e ρ'
  | .stuck => False
def okS (c : Ct) (F Hk : Hp) (bp : List (Nat × Addr)) (D : Ends) : Res (Fl × Env) → Prop
  | .ok (.nx, ρ') => ∀ Hk' H' σ', Ex Hk Hk' → RS c.K F Hk' H' bp σ' ρ' → D.nx σ' H'
  | .ok (.br, ρ') => ∀ Hk' H' σ', Ex Hk Hk' → RS c.K F Hk' H' bp σ' ρ' → D.bk σ' H'
  | .ok (.ct, ρ') => ∀ Hk' H' σ', Ex Hk Hk' → RS c.K F Hk' H' bp σ' ρ' → D.ct σ' H'
  | .ok (.rt x, ρ') => ∀ Hk' H' σ' v, Ex Hk Hk' → (∀ q ∈ bp, q.1 < σ'.length) → RS c.K F Hk' H' bp (σ' ++ [some v]) (ρ' ++ [some x]) → D.rt v H'
  | .exc e ρ' => ∀ Hk' H' σ' cls d, Ex Hk Hk' → RS c.K F Hk' H' bp σ' ρ' → ExR c.K c.mg Hk' e cls d → c.W cls d σ' H'
  | .stuck => False
def At (c : Ct) (F Hk H : Hp) (bp : List (Nat × Addr)) (σ : St) (ρ : Env) : Prop := RS c.K F Hk H bp σ ρ ∧ bp.map (·.1) = c.bs ∧ c.J F bp
def rdE (c : Ct) (m : ME) : TE := fun σ H Q => ∃ F Hk bp ρ, At c F Hk H bp σ ρ ∧ okE c F Hk bp σ Q (m ρ)
def rdO (c : Ct) (m : ME) : TE := fun σ H Q => ∃ F Hk bp ρ, At c F Hk H bp σ ρ ∧ okO c F Hk bp σ Q (m ρ)
def rdT (c : Ct) (m : MT) : TT := fun σ H Q => ∃ F Hk bp ρ, At c F Hk H bp σ ρ ∧ okT c F Hk bp σ Q (m ρ)
def rdA (c : Ct) (m : MA) : TA := fun σ H Q => ∃ F Hk bp ρ, At c F Hk H bp σ ρ ∧ okA c F Hk bp σ Q (m ρ)
def rdS (c : Ct) (m : MS) : TS := fun D σ H => ∃ F Hk bp ρ, At c F Hk H bp σ ρ ∧ okS c F Hk bp D (m ρ)
section
variable {c : Ct} {F Hk Hk' H H' : Hp} {bp : List (Nat × Addr)} {σ : St} {ρ : Env}
theorem Wish.mono {e : MX} (x : Ex Hk Hk') (h : Wish c F Hk bp σ e ρ) : Wish c F Hk' bp σ e ρ := fun Hk2 H2 cls d x2 => h Hk2 H2 cls d (x.trans x2)
theorem okE.mono {Q : VK} {r : Res (MV × Env)} (x : Ex Hk Hk') (h : okE c F Hk bp σ Q r) : okE c F Hk' bp σ Q r := by
  cases r with
  | ok a => exact fun Hk2 H2 v x2 => h Hk2 H2 v (x.trans x2)
  | exc e ρ => exact Wish.mono x h
  | stuck => exact h
theorem okO.mono {Q : VK} {r : Res (MV × Env)} (x : Ex Hk Hk') (h : okO c F Hk bp σ Q r) : okO c F Hk' bp σ Q r := by
  cases r with
  | ok a => exact fun Hk2 H2 v x2 => h Hk2 H2 v (x.trans x2)
  | exc e ρ => exact Wish.mono x h
  | stuck => exact h
theorem okT.mono {Q : Bool → Hp → Prop} {r : Res (Bool × Env)} (x : Ex Hk Hk') (h : okT c F Hk bp σ Q r) : okT c F Hk' bp σ Q r := by
  cases r with
  | ok a => exact fun Hk2 H2 x2 => h Hk2 H2 (x.trans x2)
  | exc e ρ => exact Wish.mono x h
  | stuck => exact h
theorem okA.mono {Q : List V → Hp → Prop} {r : Res (List MV × Env)} (x : Ex Hk Hk') (h : okA c F Hk bp σ Q r) : okA c F Hk' bp σ Q r := by
  cases r with
  | ok a => exact fun Hk2 H2 v x2 => h Hk2 H2 v (x.trans x2)
  | exc e ρ => exact Wish.mono x h
  | stuck => exact h
theorem okS.mono {D : Ends} {r : Res (Fl × Env)} (x : Ex Hk Hk') (h : okS c F Hk bp D r) : okS c F Hk' bp D r := by
  cases r with
  | ok a =>
    obtain ⟨f, ρ'⟩ := a
    cases f with
    | nx => exact fun Hk2 H2 σ' x2 => h Hk2 H2 σ' (x.trans x2)
    | br => exact fun Hk2 H2 σ' x2 => h Hk2 H2 σ' (x.trans x2)
    | ct => exact fun Hk2 H2 σ' x2 => h Hk2 H2 σ' (x.trans x2)
    | rt y => exact fun Hk2 H2 σ' v x2 => h Hk2 H2 σ' v (x.trans x2)
  | exc e ρ' => exact fun Hk2 H2 σ' cls d x2 => h Hk2 H2 σ' cls d (x.trans x2)
  | stuck => exact h
def Res.bind {α β : Type} (r : Res (α × Env)) (f : α → Env → Res (β × Env)) : Res (β × Env) :=
  match r with
  | .ok (x, ρ) => f x ρ
  | .exc e ρ => .exc e ρ
  | .stuck => .stuck
end
theorem PEw {X : Cx} {e : Expr} {t t' : TE} (h : PE X e t) (w : ∀ σ H Q, t' σ H Q → t σ H Q) : PE X e t' := ⟨fun pins s σ H Q I q => h.run pins s σ H Q I (w σ H Q q)⟩
theorem PTw {X : Cx} {e : Expr} {t t' : TT} (h : PT X e t) (w : ∀ σ H Q, t' σ H Q → t σ H Q) : PT X e t' := ⟨fun pins s σ H Q I q => h.run pins s σ H Q I (w σ H Q q)⟩
theorem PWw {X : Cx} {e : Expr} {t t' : TT} (h : PW X e t) (w : ∀ σ H Q, t' σ H Q → t σ H Q) : PW X e t' := ⟨fun wh pins s σ H Q I q => h.run wh pins s σ H Q I (w σ H Q q)⟩
theorem PAw {X : Cx} {e : List Expr} {t t' : TA} (h : PA X e t) (w : ∀ σ H Q, t' σ H Q → t σ H Q) : PA X e t' := ⟨fun pos pins s σ H Q I q => h.run pos pins s σ H Q I (w σ H Q q)⟩
theorem PSw {X : Cx} {e : Stmt} {t t' : TS} (h : PS X e t) (w : ∀ D σ H, t' D σ H → t D σ H) : PS X e t' := ⟨fun pins s σ H D I q => h.run pins s σ H D I (w D σ H q)⟩
theorem PSsw {X : Cx} {e : List Stmt} {t t' : TS} (h : PSs X e t) (w : ∀ D σ H, t' D σ H → t D σ H) : PSs X e t' := ⟨fun pins s σ H D I q => h.run pins s σ H D I (w D σ H q)⟩
section
variable {X : Cx} {c : Ct}
def mVar (i : Nat) : ME := fun ρ => match ρ[i]? with
  | some (some (.own xs)) => .ok (.lst xs, ρ.set i (some (.lst xs)))
  | some (some (.obj _ _)) => .stuck
  | some (some x) => .ok (x, ρ)
  | _ => .stuck
def mC (x : MV) : ME := fun ρ => .ok (x, ρ)
theorem rd_var {i : Nat} {σ : St} {H : Hp} {Q : VK} (h : rdE c (mVar i) σ H Q) : tVar i σ H Q := by
  obtain ⟨F, Hk, bp, ρ, ⟨S, _⟩, h⟩ := h
  have pl : ∀ x : MV, x.per = true → ρ[i]? = some (some x) → (∀ Hk' H' v, Ex Hk Hk' → RS c.K F Hk' H' bp σ ρ → RV c.K Hk' x v → Q v H') → tVar i σ H Q := fun x px e q => by
    obtain ⟨v, ev, r⟩ := S.get e px
    exact ⟨v, ev, q Hk H v (Ex.refl _) S r⟩
  unfold mVar at h
  split at h
  · rename_i xs e
    obtain ⟨p, vs, e1, ex, r, S'⟩ := S.freeze e
    exact ⟨_, e1, h _ _ _ ex S' r⟩
  · exact h.elim
  · rename_i x n1 n2 e
    refine pl x ?_ e h
    cases x <;> first | rfl | exact (n1 _ e rfl).elim | exact (n2 _ _ e rfl).elim | (exfalso; first | exact n1 _ e | exact n2 _ _ e | exact n1 _ rfl | exact n2 _ _ rfl)
  · exact h.elim
theorem me_var {i : Nat} {x : Str} {pos : Pos} (hN : X.N[i]? = some x) (hv : Vis X.env.scope x) (hd : (x == ("__debug__" : Str)) = false := by decide) (hcd : (x == ("__classdict__" : Str)) = false := by decide) : PE X (.Name x pos) (rdE c (mVar i)) :=
  PEw (pe_var hN hv hd hcd) fun _ _ _ h => rd_var h
theorem rd_c {x : MV} {v : V} (r : ∀ H, RV c.K H x v) {σ : St} {H : Hp} {Q : VK} (h : rdE c (mC x) σ H Q) : tC v σ H Q := by
  obtain ⟨F, Hk, bp, ρ, ⟨S, _⟩, h⟩ := h
  exact h Hk H v (Ex.refl _) S (r _)
theorem me_int {i j pos} : PE X (.Constant (.int i) j pos) (rdE c (mC (.int i))) := PEw pe_int fun _ _ _ h => rd_c (fun _ => RV.int.mpr rfl) h
theorem me_bl {b j pos} : PE X (.Constant (.bool b) j pos) (rdE c (mC (.bl b))) := PEw pe_bl fun _ _ _ h => rd_c (fun _ => RV.bl.mpr rfl) h
theorem me_non {j pos} : PE X (.Constant .none j pos) (rdE c (mC .non)) := PEw pe_non fun _ _ _ h => rd_c (fun _ => RV.non.mpr rfl) h
theorem me_str {x j pos} : PE X (.Constant (.str x) j pos) (rdE c (mC (.str x))) := PEw pe_str fun _ _ _ h => rd_c (fun _ => RV.str.mpr rfl) h
def mOp (f : MV → MV → Option MV) (a b : ME) : ME := fun ρ => (a ρ).bind fun x ρ1 => (b ρ1).bind fun y ρ2 => match f x y with | some z => .ok (z, ρ2) | none => .stuck
def OpS (K : PySem.W.Frag) (f : MV → MV → Option MV) (r : R2) : Prop := ∀ (x y z : MV) (v w : V) (Hk H : Hp) (Q : VK), f x y = some z → Ex Hk H → RV K Hk x v → RV K Hk y w → (∀ u, RV K Hk z u → Q u H) →
  (∀ p o, H p = none → RV K (upd Hk p o) z (.ref p) → Q (.ref p) (upd H p o)) → r v w H Q
theorem rd_op {f : MV → MV → Option MV} {r : R2} (o : OpS c.K f r) {a b : ME} {σ : St} {H : Hp} {Q : VK} (h : rdE c (mOp f a b) σ H Q) : tOp r (rdE c a) (rdE c b) σ H Q := by
  obtain ⟨F, Hk, bp, ρ, ⟨S, eb⟩, h⟩ := h
  refine ⟨F, Hk, bp, ρ, ⟨S, eb⟩, ?_⟩
  unfold mOp at h
  cases ea : a ρ with
  | stuck => rw [ea] at h; exact h.elim
  | exc e ρ' => rw [ea] at h; exact h
  | ok p =>
    obtain ⟨x, ρ1⟩ := p
    rw [ea] at h
    intro Hk1 H1 v x1 S1 r1
    refine ⟨F, Hk1, bp, ρ1, ⟨S1, eb⟩, ?_⟩
    have h : okE c F Hk bp σ Q ((b ρ1).bind fun y ρ2 => match f x y with | some z => .ok (z, ρ2) | none => .stuck) := h
    cases e2 : b ρ1 with
    | stuck => rw [e2] at h; exact h.elim
    | exc e ρ' => rw [e2] at h; exact Wish.mono x1 h
    | ok p =>
      obtain ⟨y, ρ2⟩ := p
      rw [e2] at h
      intro Hk2 H2 w x2 S2 r2
      have h : okE c F Hk bp σ Q (match f x y with | some z => .ok (z, ρ2) | none => .stuck) := h
      cases ez : f x y with
      | none => rw [ez] at h; exact h.elim
      | some z =>
        rw [ez] at h
        refine o x y z v w Hk2 H2 Q ez S2.ex (RV.mono x2 _ _ r1) r2 (fun u ru => h Hk2 H2 u (x1.trans x2) S2 ru) fun p ob hp ru => ?_
        exact h _ _ _ ((x1.trans x2).trans (Ex.new (S2.ex.back hp))) (S2.new hp) ru
theorem me_op {op : Operator} {f : MV → MV → Option MV} {r : R2} {a b : Expr} {ma mb : ME} {pos : Pos} (ho : OpR X (binaryOp op) r) (o : OpS c.K f r) (ha : PE X a (rdE c ma)) (hb : PE X b (rdE c mb)) : PE X (.BinOp a op b pos) (rdE c (mOp f ma mb)) :=
  PEw (pe_op ho ha hb) fun _ _ _ h => rd_op o h
theorem me_cmp {op : CmpOp} {f : MV → MV → Option MV} {r : R2} {a b : Expr} {ma mb : ME} {pos : Pos} (ho : OpR X (compareOp op) r) (o : OpS c.K f r) (ha : PE X a (rdE c ma)) (hb : PE X b (rdE c mb)) (hm : behindInMarks op b = false) : PE X (.Compare a [op] [b] pos) (rdE c (mOp f ma mb)) :=
  PEw (pe_cmpR ho ha hb hm) fun _ _ _ h => rd_op o h
end
end Tm
set_option Elab.async false
set_option linter.all false
set_option maxRecDepth 100000
set_option maxHeartbeats 2000000
namespace Tm
open PySem L2
open Evl (Ex ex_rd ex_l ex_t)
def szOk (n : Nat) : Bool := decide (n ≤ sizeLine)
def fAdd : MV → MV → Option MV
  | .int i, .int j => some (.int (i + j))
  | .int i, .bl b => some (.int (i + PyProof.Rows.b2i b))
  | .str a, .str b => if szOk (a.length + b.length) then some (.str (a ++ b)) else none
  | .lst a, .lst b => if szOk (a.length + b.length) then some (.lst (a ++ b)) else none
  | .tup a, .tup b => if szOk (a.length + b.length) then some (.tup (a ++ b)) else none
  | _, _ => none
def fSub : MV → MV → Option MV
  | .int i, .int j => some (.int (i - j))
  | _, _ => none
def mulOk (i j : Int) : Bool := (decide (-(2 ^ 64) < i) && decide (i < 2 ^ 64)) || (decide (-(2 ^ 64) < j) && decide (j < 2 ^ 64)) || decide (i.natAbs.log2 + j.natAbs.log2 < 1000000)
instance (i j : Int) : Decidable (CMulW i j) := inferInstanceAs (Decidable (i.natAbs.log2 + j.natAbs.log2 < 1000000))
def repS (a : Str) (k : Int) : Str := ⟨(List.replicate k.toNat a.cps.toList).flatten.toArray⟩
def fMul : MV → MV → Option MV
  | .int i, .int j => if mulOk i j then some (.int (i * j)) else none
  | .tup a, .int k => if decide (-(2 ^ 63) ≤ k) && decide (k < 2 ^ 63) && (decide (k = 1) || a.isEmpty || (decide (2 ≤ k) && decide (k ≤ 1000) && decide (a.length ≤ 1000))) then some (.tup (List.replicate k.toNat a).flatten) else none
  | .str a, .int k => if decide (-(2 ^ 63) ≤ k) && decide (k < 2 ^ 63) && szOk (a.length * k.toNat) then some (.str (repS a k)) else none
  | .lst a, .int k => if decide (-(2 ^ 63) ≤ k) && decide (k < 2 ^ 63) && szOk (a.length * k.toNat) then some (.lst (List.replicate k.toNat a).flatten) else none
  | _, _ => none
def divOk (j : Int) : Bool := (decide (j ≠ 0) && decide (j.natAbs < 1073741824)) || (decide (0 < j) && decide (j.natAbs.log2 < 9000))
def fDiv : MV → MV → Option MV
  | .int i, .int j => if divOk j then some (.int (i.fdiv j)) else none
  | _, _ => none
def fMod : MV → MV → Option MV
  | .int i, .int j => if decide (j ≠ 0) then some (.int (i.fmod j)) else none
  | _, _ => none
def fPow : MV → MV → Option MV
  | .int i, .int j => if decide (0 ≤ j) && decide (j ≤ 1000000) && decide (i.natAbs < 2 ^ 64) then some (.int (i ^ j.toNat)) else none
  | _, _ => none
def fLt : MV → MV → Option MV
  | .int i, .int j => some (.bl (decide (i < j)))
  | _, _ => none
def fLe : MV → MV → Option MV
  | .int i, .int j => some (.bl (decide (i ≤ j)))
  | _, _ => none
def fGt : MV → MV → Option MV
  | .int i, .int j => some (.bl (decide (j < i)))
  | _, _ => none
def fGe : MV → MV → Option MV
  | .int i, .int j => some (.bl (decide (j ≤ i)))
  | _, _ => none
def MV.isN : MV → Bool
  | .non => true
  | .raw w => decide (w = .non)
  | _ => false
def fNotN : MV → MV → Option MV
  | x, .non => some (.bl (!x.isN))
  | _, _ => none
def scalM : MV → MV → Bool
  | .non, .non => true | .non, .int _ => true | .int _, .non => true | .non, .bl _ => true | .bl _, .non => true | .non, .str _ => true | .str _, .non => true
  | .int _, .int _ => true | .bl _, .bl _ => true | .str _, .str _ => true
  | .int _, .str _ => true | .str _, .int _ => true | .bl _, .str _ => true | .str _, .bl _ => true
  | _, _ => false
def sameM : MV → MV → Bool
  | .non, .non => true
  | .int i, .int j => decide (i = j)
  | .bl i, .bl j => decide (i = j)
  | .str i, .str j => decide (i = j)
  | _, _ => false
mutual
def toD : MV → Option PyData
  | .non => some .none
  | .bl b => some (.bool b)
  | .int i => some (.int i)
  | .str x => some (.str x)
  | .tup xs => (toDs xs).map .tuple
  | .lst xs => (toDs xs).map .list
  | _ => none
def toDs : List MV → Option (List PyData)
  | [] => some []
  | x :: xs => match toD x, toDs xs with
    | some d, some ds => some (d :: ds)
    | _, _ => none
end
def eqM (x y : MV) : Option Bool :=
  if scalM x y then some (sameM x y) else
  match toD x, toD y with
  | some d, some e => if SeqAt.shaped d && SeqAt.shaped e then some (PyData.eqv d e) else none
  | _, _ => none
def fEq (x y : MV) : Option MV := (eqM x y).map .bl
def fNe (x y : MV) : Option MV := (eqM x y).map fun b => .bl (!b)
section
variable {K : PySem.W.Frag}
def rAddM (K : PySem.W.Frag) : R2 := fun x y H Q => (rI0 fun i j => .int (i + j)) x y H Q ∨ (∃ i k, x = .int i ∧ y = .bl k ∧ Q (.int (i + PyProof.Rows.b2i k)) H) ∨ (∃ i j, x = .str i ∧ y = .str j ∧ i.length + j.length ≤ sizeLine ∧ Q (.str (i ++ j)) H) ∨ rCat x y H Q ∨ rCatA K x y H Q
theorem op_addM {X : Cx} : OpR X (binaryOp .Add) (rAddM X.K) := OpR.or op_add (OpR.or op_add_ib (OpR.or op_add_str (OpR.or op_cat op_catA)))
theorem szOk_iff {n : Nat} : szOk n = true ↔ n ≤ sizeLine := by unfold szOk; simp
theorem os_add : OpS K fAdd (rAddM K) := by
  intro x y z v w Hk H Q e ex r1 r2 q qn
  unfold fAdd at e
  split at e
  · cases e
    exact .inl ⟨_, _, RV.int.mp r1, RV.int.mp r2, q _ (RV.int.mpr rfl)⟩
  · cases e
    exact .inr (.inl ⟨_, _, RV.int.mp r1, RV.bl.mp r2, q _ (RV.int.mpr rfl)⟩)
  · split at e
    · rename_i a b h
      cases e
      exact .inr (.inr (.inl ⟨_, _, RV.str.mp r1, RV.str.mp r2, szOk_iff.mp h, q _ (RV.str.mpr rfl)⟩))
    · cases e
  · split at e
    · rename_i a b h
      cases e
      obtain ⟨p1, vs, rfl, h1, s1⟩ := RV.lst.mp r1
      obtain ⟨p2, ws, rfl, h2, s2⟩ := RV.lst.mp r2
      refine .inr (.inr (.inr (.inl ⟨p1, p2, vs, ws, rfl, rfl, ex _ _ h1, ex _ _ h2, ?_, fun p hp => qn p _ hp ?_⟩)))
      · rw [s1.length, s2.length]; exact szOk_iff.mp h
      · have z := Ex.new (o := .lst (vs ++ ws)) (ex.back hp)
        exact RV.lst.mpr ⟨p, _, rfl, upd_same, (s1.append s2).mono z⟩
    · cases e
  · split at e
    · rename_i a b h
      cases e
      obtain ⟨p1, vs, rfl, h1, s1⟩ := RV.tup.mp r1
      obtain ⟨p2, ws, rfl, h2, s2⟩ := RV.tup.mp r2
      refine .inr (.inr (.inr (.inr ⟨p1, p2, vs, ws, rfl, rfl, ex_t ex h1, ex_t ex h2, ?_, fun e0 => ?_, fun e0 e1 => ?_, fun e0 e1 p hp => qn p _ hp ?_⟩)))
      · rw [s1.length, s2.length]; exact szOk_iff.mp h
      · have z := s1.append s2
        rw [e0, List.nil_append] at z
        exact q _ (RV.tup.mpr ⟨p2, ws, rfl, h2, z⟩)
      · have z := s1.append s2
        rw [e1, List.append_nil] at z
        exact q _ (RV.tup.mpr ⟨p1, vs, rfl, h1, z⟩)
      · have z := Ex.new (o := .tup (vs ++ ws)) (ex.back hp)
        exact RV.tup.mpr ⟨p, _, rfl, SqT.of upd_same, (s1.append s2).mono z⟩
    · cases e
  · cases e
theorem os_sub : OpS K fSub (rI0 fun i j => .int (i - j)) := by
  intro x y z v w Hk H Q e ex r1 r2 q qn
  unfold fSub at e
  split at e
  · cases e; exact ⟨_, _, RV.int.mp r1, RV.int.mp r2, q _ (RV.int.mpr rfl)⟩
  · cases e
open PySem.Spec PyProof.Rows in
theorem tuple_mulSame (l : Addr) (items : Array Value) (n : Nat) (dd : Option Addr) (sl : Array (Option Value)) (x : Int) (u : Tok) (c0 : (decide (x < -(2 ^ 63)) || decide (x ≥ 2 ^ 63)) = false) (c1 : (items.isEmpty || x == 1) = true) :
    Meets (Builtin.«tuple.__mul__» ⟨[.ref l, .int x u], []⟩) (fun _ R s => s.heap.get? l = some { cls := .type "tuple", dict := dd, data := .seq items n, slots := sl } ∧ R (.ok (.ret (Value.ref l))) s) :=
  .of_wp fun prog w A R s h => by
    obtain ⟨hp, g, d, tk, os⟩ := s
    obtain ⟨hl, h⟩ := h
    have f1 := AutoSeq1.idx_int
    wp_walk using wpAny_loadPart' hl
    repeat (first
      | (refine wpAny_ite_false (decide_eq_false (by rw [c0]; exact Bool.false_ne_true)) ?_; wp_walk using wpAny_loadPart' hl)
      | (refine wpAny_ite_true (decide_eq_true c1) ?_; wp_walk using wpAny_loadPart' hl))
    exact ⟨_, rfl, h⟩
def rRepTS (K : PySem.W.Frag) : R2 := fun x y H Q => ∃ l k xs, x = .ref l ∧ y = .int k ∧ SqT K H l xs ∧ (k = 1 ∨ xs = []) ∧ -(2 ^ 63) ≤ k ∧ k < 2 ^ 63 ∧ Q (.ref l) H
open PySem.Spec PyProof.Rows in
theorem op_repTS {X : Cx} : OpR X (binaryOp .Mult) (rRepTS X.K) := by
  intro pins s σ H x y v u Q I rx ry h
  obtain ⟨l, k, xs, rfl, rfl, hT, hs, h1, h2, q⟩ := h
  cases rx
  obtain ⟨t, rfl⟩ := ry
  obtain ⟨its, r, ⟨⟨cls, dd, data, sl⟩, ho, hc, n, hd⟩, _⟩ := I.tuple hT
  simp only at hc hd
  subst hc hd
  have hle : its.length = xs.length := r.length.symm
  have c0 : (decide (k < -(2 ^ 63)) || decide (k ≥ 2 ^ 63)) = false := by
    rw [decide_eq_false (by omega), decide_eq_false (by omega)] <;> rfl
  have c1 : (its.toArray.isEmpty || k == 1) = true := by
    rw [Bool.or_eq_true]
    rcases hs with rfl | rfl
    · exact .inr rfl
    · have : its = [] := List.length_eq_zero_iff.mp hle
      subst this
      exact .inl rfl
  exact wpAny_binaryOp_repeat_ref (T := "tuple") (U := "int") (by decide) ⟨_, ho, rfl⟩ (fun s' => typeIs_int s' k t) noFill_tuple_mul F.fills_int_mul F.slot_int_rmul repeat_tuple F.slot_int_index.lookup
    (call_meets F.slot_int_rmul (typeIs_int s k t) F.entry_int_rmul (F.args_int_rmul_2 _ _) (int_rmul_tuple k t l its.toArray n dd sl)
      ⟨ho, rfl, ⟨_, ho, rfl⟩, call_meets F.slot_tuple_mul ⟨_, ho, rfl⟩ F.entry_tuple_mul (F.args_tuple_mul_2 _ _) (tuple_mulSame l its.toArray n dd sl k t c0 c1) ⟨ho, ⟨.ref l, H, I, rfl, q⟩⟩⟩)
def rRepS : R2 := fun x y H Q => ∃ a k, x = .str a ∧ y = .int k ∧ -(2 ^ 63) ≤ k ∧ k < 2 ^ 63 ∧ a.length * k.toNat ≤ sizeLine ∧ Q (.str (repS a k)) H
theorem rep_foldl (l : Array Nat) : ∀ (n : Nat) (acc : Array Nat), (List.replicate n l).foldl (· ++ ·) acc = (acc.toList ++ (List.replicate n l.toList).flatten).toArray
  | 0, acc => by simp
  | n + 1, acc => by
    rw [List.replicate_succ, List.foldl_cons, rep_foldl l n, List.replicate_succ, List.flatten_cons]
    simp
theorem op_repS {X : Cx} : OpR X (binaryOp .Mult) rRepS := by
  intro pins s σ H x y v u Q I rx ry h
  obtain ⟨a, k, rfl, rfl, h1, h2, hz, q⟩ := h
  obtain ⟨t, rfl⟩ := rx
  obtain ⟨t', rfl⟩ := ry
  have sz : sizeLine = 16777216 := rfl
  refine PySem.P.mul_str ?_ ?_ ?_ ?_
  · rw [decide_eq_false (by omega), decide_eq_false (by omega)]; rfl
  · intro h3 h4 h5
    have hk : 1 < k := by
      have : (k == 1) = false := by cases e : (k == 1) <;> simp [e] at h4 ⊢
      have := beq_eq_false_iff_ne.mp this
      omega
    have e1 : ((a.length : Int) * k) ≤ 16777216 := by
      rw [sz] at hz
      have : ((a.length * k.toNat : Nat) : Int) ≤ 16777216 := by omega
      rw [Int.natCast_mul, Int.toNat_of_nonneg (by omega)] at this
      exact this
    have e2 : (a.length : Int) ≤ (2 ^ 63 - 1) / k := by
      refine (Int.le_ediv_iff_mul_le (by omega)).mpr ?_
      omega
    omega
  · intro h3 h4
    unfold Builtin.Str.tooLong
    exact decide_eq_false (by omega)
  · split
    · rename_i h3
      refine ⟨by decide, .str (repS a k), H, I.tok _, ⟨s.toks, ?_⟩, q⟩
      have : k.toNat = 0 := by omega
      unfold repS
      rw [this]; rfl
    · split
      · rename_i h3 h4
        refine ⟨.str (repS a k), H, I, ⟨t, ?_⟩, q⟩
        have : repS a k = a := by
          unfold repS
          rw [Bool.or_eq_true] at h4
          rcases h4 with h4 | h4
          · have : k = 1 := by simpa using h4
            subst this
            show (⟨([a.cps.toList].flatten).toArray⟩ : Str) = a
            simp
          · have e0 : a.cps.toList = [] := by
              have : a.length = 0 := by simpa using h4
              exact List.length_eq_zero_iff.mp (by rw [Array.length_toList]; exact this)
            rw [e0]
            have : ∀ n : Nat, (List.replicate n ([] : List Nat)).flatten = [] := fun n => by simp
            rw [this]
            cases a with
            | mk cps =>
              simp only at e0
              rw [← e0]
        rw [this]
      · rename_i h3 h4
        have e1 : (⟨(List.replicate k.toNat a.cps).foldl (· ++ ·) #[]⟩ : Str) = repS a k := by
          unfold repS
          rw [rep_foldl]
          rfl
        rw [e1]
        refine ⟨?_, .str (repS a k), H, I.tok _, ⟨s.toks, rfl⟩, q⟩
        show (List.replicate k.toNat a.cps.toList).flatten.toArray.size ≤ sizeLine
        rw [List.size_toArray, PyProof.Rows.lm_len_rep_flat, Nat.mul_comm]
        exact hz
def rMulM (K : PySem.W.Frag) : R2 := fun x y H Q => (rI CMul fun i j => .int (i * j)) x y H Q ∨ (rI CMulW fun i j => .int (i * j)) x y H Q ∨ rRep x y H Q ∨ rRepS x y H Q ∨ rRepTS K x y H Q ∨ rRepT K x y H Q
theorem op_mulM {X : Cx} : OpR X (binaryOp .Mult) (rMulM X.K) := OpR.or op_mul (OpR.or op_mulW (OpR.or op_rep (OpR.or op_repS (OpR.or op_repTS op_repT))))
theorem RVs.rep {H : Hp} {xs : List MV} {vs : List V} (h : RVs K H xs vs) : ∀ n : Nat, RVs K H (List.replicate n xs).flatten (List.replicate n vs).flatten
  | 0 => by simp [RVs]
  | n + 1 => by
    rw [List.replicate_succ, List.replicate_succ, List.flatten_cons, List.flatten_cons]
    exact h.append (RVs.rep h n)
theorem os_mul : OpS K fMul (rMulM K) := by
  intro x y z v w Hk H Q e ex r1 r2 q qn
  unfold fMul at e
  split at e
  · rename_i i j
    split at e
    · rename_i h
      cases e
      unfold mulOk at h
      rw [Bool.or_eq_true] at h
      rcases h with h | h
      · refine .inl ⟨i, j, RV.int.mp r1, RV.int.mp r2, ?_, q _ (RV.int.mpr rfl)⟩
        simp only [Bool.or_eq_true, Bool.and_eq_true, decide_eq_true_eq] at h
        exact h
      · exact .inr (.inl ⟨i, j, RV.int.mp r1, RV.int.mp r2, of_decide_eq_true h, q _ (RV.int.mpr rfl)⟩)
    · cases e
  · rename_i a k
    split at e
    · rename_i h
      cases e
      simp only [Bool.and_eq_true, Bool.or_eq_true, decide_eq_true_eq] at h
      obtain ⟨p1, vs, rfl, h1, s1⟩ := RV.tup.mp r1
      have hvl := s1.length
      by_cases hk : k = 1 ∨ vs = []
      · refine .inr (.inr (.inr (.inr (.inl ⟨p1, k, vs, rfl, RV.int.mp r2, ex_t ex h1, hk, h.1.1, h.1.2, q _ ?_⟩))))
        have er : (List.replicate k.toNat a).flatten = a := by
          rcases hk with rfl | rfl
          · simp
          · have : a = [] := List.length_eq_zero_iff.mp (by simpa using hvl.symm)
            subst this; simp
        rw [er]
        exact RV.tup.mpr ⟨p1, vs, rfl, h1, s1⟩
      · have hk2 : 2 ≤ k ∧ k ≤ 1000 ∧ a.length ≤ 1000 := by
          rcases h.2 with (h2 | h2) | h2
          · exact absurd (.inl h2) hk
          · exact absurd (.inr (List.length_eq_zero_iff.mp (by rw [hvl]; simpa using h2))) hk
          · exact ⟨h2.1.1, h2.1.2, h2.2⟩
        refine .inr (.inr (.inr (.inr (.inr ⟨p1, k, vs, rfl, RV.int.mp r2, ex_t ex h1, fun e0 => hk (.inr e0), hk2.1, hk2.2.1, by rw [hvl]; exact hk2.2.2, fun p hp => qn p _ hp ?_⟩))))
        have z := Ex.new (o := .tup (List.replicate k.toNat vs).flatten) (ex.back hp)
        exact RV.tup.mpr ⟨p, _, rfl, SqT.of upd_same, (RVs.rep s1 _).mono z⟩
    · cases e
  · rename_i a k
    split at e
    · rename_i h
      cases e
      simp only [Bool.and_eq_true, decide_eq_true_eq] at h
      exact .inr (.inr (.inr (.inl ⟨a, k, RV.str.mp r1, RV.int.mp r2, h.1.1, h.1.2, szOk_iff.mp h.2, q _ (RV.str.mpr rfl)⟩)))
    · cases e
  · rename_i a k
    split at e
    · rename_i h
      cases e
      simp only [Bool.and_eq_true, decide_eq_true_eq] at h
      obtain ⟨p1, vs, rfl, h1, s1⟩ := RV.lst.mp r1
      refine .inr (.inr (.inl ⟨p1, k, vs, rfl, RV.int.mp r2, ex _ _ h1, h.1.1, h.1.2, ?_, fun p hp => qn p _ hp ?_⟩))
      · rw [s1.length]; exact szOk_iff.mp h.2
      · have z := Ex.new (o := .lst (List.replicate k.toNat vs).flatten) (ex.back hp)
        exact RV.lst.mpr ⟨p, _, rfl, upd_same, (RVs.rep s1 _).mono z⟩
    · cases e
  · cases e
def rDivM : R2 := fun x y H Q => (rI CDivN fun i j => .int (i.fdiv j)) x y H Q ∨ (rI CDivW fun i j => .int (i / j)) x y H Q
theorem op_divM {X : Cx} : OpR X (binaryOp .FloorDiv) rDivM := OpR.or op_fdivN op_fdivW
theorem os_div : OpS K fDiv rDivM := by
  intro x y z v w Hk H Q e ex r1 r2 q qn
  unfold fDiv at e
  split at e
  · rename_i i j
    split at e
    · rename_i h
      cases e
      unfold divOk at h
      rw [Bool.or_eq_true] at h
      rcases h with h | h
      · simp only [Bool.and_eq_true, decide_eq_true_eq] at h
        exact .inl ⟨i, j, RV.int.mp r1, RV.int.mp r2, h, q _ (RV.int.mpr rfl)⟩
      · simp only [Bool.and_eq_true, decide_eq_true_eq] at h
        refine .inr ⟨i, j, RV.int.mp r1, RV.int.mp r2, h, ?_⟩
        have := q _ (RV.int.mpr rfl)
        rw [Int.fdiv_eq_ediv_of_nonneg i (by omega)] at this
        exact this
    · cases e
  · cases e
theorem os_mod : OpS K fMod (rI (fun _ j => j ≠ 0) fun i j => .int (i.fmod j)) := by
  intro x y z v w Hk H Q e ex r1 r2 q qn
  unfold fMod at e
  split at e
  · split at e
    · rename_i h
      cases e
      exact ⟨_, _, RV.int.mp r1, RV.int.mp r2, of_decide_eq_true h, q _ (RV.int.mpr rfl)⟩
    · cases e
  · cases e
theorem os_pow : OpS K fPow (rI CPow fun i j => .int (i ^ j.toNat)) := by
  intro x y z v w Hk H Q e ex r1 r2 q qn
  unfold fPow at e
  split at e
  · split at e
    · rename_i h
      cases e
      simp only [Bool.and_eq_true, decide_eq_true_eq] at h
      exact ⟨_, _, RV.int.mp r1, RV.int.mp r2, ⟨h.1.1, h.1.2, h.2⟩, q _ (RV.int.mpr rfl)⟩
    · cases e
  · cases e
theorem os_lt : OpS K fLt (rI0 fun i j => .bl (decide (i < j))) := by
  intro x y z v w Hk H Q e ex r1 r2 q qn
  unfold fLt at e
  split at e
  · cases e; exact ⟨_, _, RV.int.mp r1, RV.int.mp r2, q _ (RV.bl.mpr rfl)⟩
  · cases e
theorem os_le : OpS K fLe (rI0 fun i j => .bl (decide (i ≤ j))) := by
  intro x y z v w Hk H Q e ex r1 r2 q qn
  unfold fLe at e
  split at e
  · cases e; exact ⟨_, _, RV.int.mp r1, RV.int.mp r2, q _ (RV.bl.mpr rfl)⟩
  · cases e
theorem os_gt : OpS K fGt (rI0 fun i j => .bl (decide (j < i))) := by
  intro x y z v w Hk H Q e ex r1 r2 q qn
  unfold fGt at e
  split at e
  · cases e; exact ⟨_, _, RV.int.mp r1, RV.int.mp r2, q _ (RV.bl.mpr rfl)⟩
  · cases e
theorem os_ge : OpS K fGe (rI0 fun i j => .bl (decide (j ≤ i))) := by
  intro x y z v w Hk H Q e ex r1 r2 q qn
  unfold fGe at e
  split at e
  · cases e; exact ⟨_, _, RV.int.mp r1, RV.int.mp r2, q _ (RV.bl.mpr rfl)⟩
  · cases e
theorem RV.isnon {H : Hp} {x : MV} {v : V} (h : RV K H x v) : decide (v = .non) = x.isN := by
  cases x with
  | raw w => rw [RV.raw.mp h]; rfl
  | own _ => unfold RV at h; exact h.elim
  | obj _ _ => unfold RV at h; exact h.elim
  | non => rw [RV.non.mp h]; rfl
  | int i => rw [RV.int.mp h]; rfl
  | bl i => rw [RV.bl.mp h]; rfl
  | str i => rw [RV.str.mp h]; rfl
  | tup xs => obtain ⟨a, vs, e, _⟩ := RV.tup.mp h; rw [e]; rfl
  | lst xs => obtain ⟨a, vs, e, _⟩ := RV.lst.mp h; rw [e]; rfl
  | scr xs => obtain ⟨a, e, _⟩ := RV.scr.mp h; rw [e]; rfl
  | fnc x => obtain ⟨a, e, _⟩ := RV.fnc.mp h; rw [e]; rfl
theorem os_notN : OpS K fNotN (fun x y H Q => y = .non ∧ Q (.bl (!decide (x = .non))) H) := by
  intro x y z v w Hk H Q e ex r1 r2 q qn
  unfold fNotN at e
  split at e
  · cases e; refine ⟨RV.non.mp r2, ?_⟩
    rw [r1.isnon]; exact q _ (RV.bl.mpr rfl)
  · cases e
theorem scal_of {H : Hp} {x y : MV} {v w : V} (h : scalM x y = true) (r1 : RV K H x v) (r2 : RV K H y w) : scal v w = true ∧ decide (v = w) = sameM x y := by
  unfold scalM at h
  split at h <;> first | (cases h; done) | skip
  all_goals
    first
      | (rw [RV.non.mp r1] ) | (rw [RV.int.mp r1]) | (rw [RV.bl.mp r1]) | (rw [RV.str.mp r1])
    first
      | (rw [RV.non.mp r2] ) | (rw [RV.int.mp r2]) | (rw [RV.bl.mp r2]) | (rw [RV.str.mp r2])
    refine ⟨rfl, ?_⟩
    simp [sameM]
mutual
theorem Dp.of {Hk H : Hp} (ex : Ex Hk H) : ∀ (x : MV) (v : V) (d : PyData), RV K Hk x v → toD x = some d → Dp K H v d
  | .non, v, d, r, e => by rw [RV.non.mp r]; unfold toD at e; cases e; exact .non
  | .bl b, v, d, r, e => by rw [RV.bl.mp r]; unfold toD at e; cases e; exact .bl b
  | .int b, v, d, r, e => by rw [RV.int.mp r]; unfold toD at e; cases e; exact .int b
  | .str b, v, d, r, e => by rw [RV.str.mp r]; unfold toD at e; cases e; exact .str b
  | .tup xs, v, d, r, e => by
    obtain ⟨a, vs, rfl, h, s⟩ := RV.tup.mp r
    unfold toD at e
    cases e2 : toDs xs with
    | none => rw [e2] at e; cases e
    | some ds =>
      rw [e2] at e; cases e
      exact .tup (ex_t ex h) (DpAll.of ex xs vs ds s e2)
  | .lst xs, v, d, r, e => by
    obtain ⟨a, vs, rfl, h, s⟩ := RV.lst.mp r
    unfold toD at e
    cases e2 : toDs xs with
    | none => rw [e2] at e; cases e
    | some ds =>
      rw [e2] at e; cases e
      exact .lst (SqL.of (ex _ _ h)) (DpAll.of ex xs vs ds s e2)
  | .own _, v, d, r, e => by unfold toD at e; cases e
  | .raw _, v, d, r, e => by unfold toD at e; cases e
  | .scr _, v, d, r, e => by unfold toD at e; cases e
  | .fnc _, v, d, r, e => by unfold toD at e; cases e
  | .obj _ _, v, d, r, e => by unfold toD at e; cases e
theorem DpAll.of {Hk H : Hp} (ex : Ex Hk H) : ∀ (xs : List MV) (vs : List V) (ds : List PyData), RVs K Hk xs vs → toDs xs = some ds → DpAll K H vs ds
  | [], vs, ds, r, e => by rw [RVs.nil.mp r]; unfold toDs at e; cases e; exact .nil
  | x :: xs, vs, ds, r, e => by
    obtain ⟨v, us, rfl, r1, r2⟩ := RVs.cons.mp r
    unfold toDs at e
    split at e
    · rename_i d ds' e1 e2
      cases e
      exact .cons (Dp.of ex x v d r1 e1) (DpAll.of ex xs us ds' r2 e2)
    · cases e
end
def rEqM (K : PySem.W.Frag) : R2 := fun x y H Q => rEq x y H Q ∨ rEqD K x y H Q
def rNeM (K : PySem.W.Frag) : R2 := fun x y H Q => rNe x y H Q ∨ rNeD K x y H Q
theorem op_eqM {X : Cx} (hu : X.A.units + 64 < cLine) : OpR X (compareOp .Eq) (rEqM X.K) := OpR.or op_eq (op_eqD hu)
theorem op_neM {X : Cx} (hu : X.A.units + 64 < cLine) : OpR X (compareOp .NotEq) (rNeM X.K) := OpR.or op_ne (op_neD hu)
theorem os_eq : OpS K fEq (rEqM K) := by
  intro x y z v w Hk H Q e ex r1 r2 q qn
  unfold fEq eqM at e
  split at e
  · rename_i h
    obtain ⟨s1, s2⟩ := scal_of h r1 r2
    cases e
    refine .inl ⟨s1, ?_⟩
    rw [s2]; exact q _ (RV.bl.mpr rfl)
  · split at e
    · rename_i d e' e1 e2
      split at e
      · rename_i h
        rw [Bool.and_eq_true] at h
        cases e
        exact .inr ⟨d, e', Dp.of ex _ _ _ r1 e1, Dp.of ex _ _ _ r2 e2, h.1, h.2, q _ (RV.bl.mpr rfl)⟩
      · cases e
    · cases e
theorem os_ne : OpS K fNe (rNeM K) := by
  intro x y z v w Hk H Q e ex r1 r2 q qn
  unfold fNe eqM at e
  split at e
  · rename_i h
    obtain ⟨s1, s2⟩ := scal_of h r1 r2
    cases e
    refine .inl ⟨s1, ?_⟩
    rw [s2]; exact q _ (RV.bl.mpr rfl)
  · split at e
    · rename_i d e' e1 e2
      split at e
      · rename_i h
        rw [Bool.and_eq_true] at h
        cases e
        exact .inr ⟨d, e', Dp.of ex _ _ _ r1 e1, Dp.of ex _ _ _ r2 e2, h.1, h.2, q _ (RV.bl.mpr rfl)⟩
      · cases e
    · cases e
def fIx : MV → MV → Option MV
  | .lst xs, .int i => atI xs i
  | .tup xs, .int i => atI xs i
  | .scr ns, .int i => (atI ns i).map .int
  | .str z, .int i => if szOk z.length then (atI z.cps.toList i).map fun c => .str ⟨#[c]⟩ else none
  | _, _ => none
theorem atI_rv {H : Hp} {xs : List MV} {vs : List V} (r : RVs K H xs vs) {i : Int} {x : MV} (e : atI xs i = some x) : ∃ v, atI vs i = some v ∧ RV K H x v := by
  unfold atI at e ⊢
  rw [r.length]
  cases h : ixN xs.length i with
  | none => rw [h] at e; cases e
  | some j =>
    rw [h] at e
    exact r.get e
theorem atI_map {α β : Type} {f : α → β} {xs : List α} {i : Int} {x : α} (e : atI xs i = some x) : atI (xs.map f) i = some (f x) := by
  unfold atI at e ⊢
  rw [List.length_map]
  cases h : ixN xs.length i with
  | none => rw [h] at e; cases e
  | some j =>
    rw [h] at e
    show (xs.map f)[j]? = _
    rw [List.getElem?_map, show xs[j]? = some x from e]; rfl
theorem os_ix : OpS K fIx (rIx K) := by
  intro x y z v w Hk H Q e ex r1 r2 q qn
  unfold fIx at e
  split at e
  · obtain ⟨p1, vs, rfl, h1, s1⟩ := RV.lst.mp r1
    obtain ⟨u, eu, ru⟩ := atI_rv s1 e
    exact .inl ⟨p1, vs, _, u, rfl, RV.int.mp r2, SqL.of (ex _ _ h1), eu, q _ ru⟩
  · obtain ⟨p1, vs, rfl, h1, s1⟩ := RV.tup.mp r1
    obtain ⟨u, eu, ru⟩ := atI_rv s1 e
    exact .inr (.inl ⟨p1, vs, _, u, rfl, RV.int.mp r2, ex_t ex h1, eu, q _ ru⟩)
  · rename_i ns i
    obtain ⟨p1, rfl, h1⟩ := RV.scr.mp r1
    cases h : atI ns i with
    | none => rw [h] at e; cases e
    | some n =>
      rw [h] at e; cases e
      exact .inl ⟨p1, _, _, _, rfl, RV.int.mp r2, ex_l ex h1, atI_map h, q _ (RV.int.mpr rfl)⟩
  · rename_i s i
    split at e
    · rename_i hz
      cases h : atI s.cps.toList i with
      | none => rw [h] at e; cases e
      | some n =>
        rw [h] at e; cases e
        exact .inr (.inr ⟨s, i, n, RV.str.mp r1, RV.int.mp r2, szOk_iff.mp hz, h, q _ (RV.str.mpr rfl)⟩)
    · cases e
  · cases e
def flatM : MV → Bool
  | .non | .bl _ | .int _ | .str _ => true
  | _ => false
def eqFlat : MV → MV → Bool
  | .non, .non => true
  | .bl a, .bl b => a == b
  | .bl a, .int b => (if a then 1 else 0) == b
  | .int a, .bl b => a == (if b then 1 else 0)
  | .int a, .int b => a == b
  | .str a, .str b => a == b
  | _, _ => false
theorem flat_v {H : Hp} {x : MV} {v : V} (h : flatM x = true) (r : RV K H x v) : flatV v = true := by
  unfold flatM at h
  split at h <;> first | (cases h; done) | skip
  · rw [RV.non.mp r]; rfl
  · rw [RV.bl.mp r]; rfl
  · rw [RV.int.mp r]; rfl
  · rw [RV.str.mp r]; rfl
theorem flat_eq {H : Hp} {x y : MV} {v w : V} (h : flatM x = true) (h2 : flatM y = true) (r : RV K H x v) (r2 : RV K H y w) : eqV v w = eqFlat x y := by
  unfold flatM at h h2
  split at h <;> first | (cases h; done) | skip
  all_goals (split at h2 <;> first | (cases h2; done) | skip)
  all_goals
    first
      | (rw [RV.non.mp r] ) | (rw [RV.int.mp r]) | (rw [RV.bl.mp r]) | (rw [RV.str.mp r])
    first
      | (rw [RV.non.mp r2] ) | (rw [RV.int.mp r2]) | (rw [RV.bl.mp r2]) | (rw [RV.str.mp r2])
    rfl
theorem flats_v {H : Hp} : ∀ {xs : List MV} {vs : List V}, xs.all flatM = true → RVs K H xs vs → vs.all flatV = true
  | [], vs, _, r => by rw [RVs.nil.mp r]; rfl
  | x :: xs, vs, h, r => by
    obtain ⟨v, us, rfl, r1, r2⟩ := RVs.cons.mp r
    rw [List.all_cons, Bool.and_eq_true] at h
    rw [List.all_cons, flat_v h.1 r1, flats_v h.2 r2]; rfl
theorem inV_eq {H : Hp} {y : MV} {w : V} (hy : flatM y = true) (ry : RV K H y w) : ∀ {xs : List MV} {vs : List V}, xs.all flatM = true → RVs K H xs vs → inV w vs = xs.any fun x => eqFlat x y
  | [], vs, _, r => by rw [RVs.nil.mp r]; rfl
  | x :: xs, vs, h, r => by
    obtain ⟨v, us, rfl, r1, r2⟩ := RVs.cons.mp r
    rw [List.all_cons, Bool.and_eq_true] at h
    have ih := inV_eq hy ry h.2 r2
    unfold inV at ih ⊢
    rw [List.any_cons, List.any_cons, ih, flat_eq h.1 hy r1 ry]
def inM (y : MV) (xs : List MV) : Option Bool := if flatM y && xs.all flatM then some (xs.any fun x => eqFlat x y) else none
def inA : MV → MV → Option Bool
  | y, .lst xs => inM y xs
  | y, .tup xs => inM y xs
  | .str i, .str j => some (!(Builtin.Str.occurrences j i 0 j.length 1).isEmpty)
  | _, _ => none
def fIn (x y : MV) : Option MV := (inA x y).map .bl
def fNotIn (x y : MV) : Option MV := (inA x y).map fun b => .bl (!b)
def rInM (K : PySem.W.Frag) : R2 := fun x y H Q => rIn K false x y H Q ∨ (∃ i j, x = .str i ∧ y = .str j ∧ Q (.bl (!(Builtin.Str.occurrences j i 0 j.length 1).isEmpty)) H)
def rNotInM (K : PySem.W.Frag) : R2 := fun x y H Q => rIn K true x y H Q ∨ (∃ i j, x = .str i ∧ y = .str j ∧ Q (.bl (!(!(Builtin.Str.occurrences j i 0 j.length 1).isEmpty))) H)
theorem op_inM {X : Cx} : OpR X (compareOp .In) (rInM X.K) := OpR.or op_in_seq op_in_str
theorem op_notInM {X : Cx} : OpR X (compareOp .NotIn) (rNotInM X.K) := OpR.or op_notIn_seq op_notin_str
theorem in_sq {Hk H : Hp} {x y : MV} {v w : V} {b : Bool} (ex : Ex Hk H) (r1 : RV K Hk x v) (r2 : RV K Hk y w) (e : inA x y = some b) :
    (∃ p xs, w = .ref p ∧ (SqL K H p xs ∨ SqT K H p xs) ∧ flatV v = true ∧ xs.all flatV = true ∧ inV v xs = b) ∨ (∃ i j, v = .str i ∧ w = .str j ∧ (!(Builtin.Str.occurrences j i 0 j.length 1).isEmpty) = b) := by
  unfold inA at e
  split at e
  · unfold inM at e
    split at e
    · rename_i h
      cases e
      rw [Bool.and_eq_true] at h
      obtain ⟨p1, vs, rfl, h1, s1⟩ := RV.lst.mp r2
      exact .inl ⟨p1, vs, rfl, .inl (SqL.of (ex _ _ h1)), flat_v h.1 r1, flats_v h.2 s1, inV_eq h.1 r1 h.2 s1⟩
    · cases e
  · unfold inM at e
    split at e
    · rename_i h
      cases e
      rw [Bool.and_eq_true] at h
      obtain ⟨p1, vs, rfl, h1, s1⟩ := RV.tup.mp r2
      exact .inl ⟨p1, vs, rfl, .inr (ex_t ex h1), flat_v h.1 r1, flats_v h.2 s1, inV_eq h.1 r1 h.2 s1⟩
    · cases e
  · cases e
    exact .inr ⟨_, _, RV.str.mp r1, RV.str.mp r2, rfl⟩
  · cases e
theorem os_in : OpS K fIn (rInM K) := by
  intro x y z v w Hk H Q e ex r1 r2 q qn
  unfold fIn at e
  cases eb : inA x y with
  | none => rw [eb] at e; cases e
  | some b =>
    rw [eb] at e; cases e
    rcases in_sq ex r1 r2 eb with ⟨p, xs, e1, e2, e3, e4, e5⟩ | ⟨i, j, e1, e2, e3⟩
    · exact .inl ⟨p, xs, e1, e2, e3, e4, by rw [if_neg (by decide), e5]; exact q _ (RV.bl.mpr rfl)⟩
    · exact .inr ⟨i, j, e1, e2, by rw [e3]; exact q _ (RV.bl.mpr rfl)⟩
theorem os_notIn : OpS K fNotIn (rNotInM K) := by
  intro x y z v w Hk H Q e ex r1 r2 q qn
  unfold fNotIn at e
  cases eb : inA x y with
  | none => rw [eb] at e; cases e
  | some b =>
    rw [eb] at e; cases e
    rcases in_sq ex r1 r2 eb with ⟨p, xs, e1, e2, e3, e4, e5⟩ | ⟨i, j, e1, e2, e3⟩
    · exact .inl ⟨p, xs, e1, e2, e3, e4, by rw [if_pos rfl, e5]; exact q _ (RV.bl.mpr rfl)⟩
    · exact .inr ⟨i, j, e1, e2, by rw [e3]; exact q _ (RV.bl.mpr rfl)⟩
end
end Tm
set_option Elab.async false
set_option linter.all false
set_option maxRecDepth 100000
set_option maxHeartbeats 2000000
namespace Tm
open PySem L2
open Evl (Ex ex_rd ex_l ex_t)
structure Post (c : Ct) (F : Hp) (bp : List (Nat × Addr)) (σ : St) {β : Type} (P : Hp → Res (β × Env) → Prop) : Prop where
  ex : ∀ Hk e ρ, P Hk (.exc e ρ) → Wish c F Hk bp σ e ρ
  st : ∀ Hk, ¬ P Hk .stuck
  mono : ∀ Hk Hk' r, Ex Hk Hk' → P Hk r → P Hk' r
section
variable {c : Ct} {F Hk H : Hp} {bp : List (Nat × Addr)} {σ : St} {ρ : Env} {β : Type}
theorem postE {Q : VK} : Post c F bp σ fun Hk r => okE c F Hk bp σ Q r := ⟨fun _ _ _ h => h, fun _ h => h, fun _ _ _ x h => okE.mono x h⟩
theorem postO {Q : VK} : Post c F bp σ fun Hk r => okO c F Hk bp σ Q r := ⟨fun _ _ _ h => h, fun _ h => h, fun _ _ _ x h => okO.mono x h⟩
theorem postT {Q : Bool → Hp → Prop} : Post c F bp σ fun Hk r => okT c F Hk bp σ Q r := ⟨fun _ _ _ h => h, fun _ h => h, fun _ _ _ x h => okT.mono x h⟩
theorem postA {Q : List V → Hp → Prop} : Post c F bp σ fun Hk r => okA c F Hk bp σ Q r := ⟨fun _ _ _ h => h, fun _ h => h, fun _ _ _ x h => okA.mono x h⟩
theorem postS {D : Ends} : Post c F bp σ fun Hk r => okS c F Hk bp D r := ⟨fun _ _ _ h Hk' H' cls d => h Hk' H' σ cls d, fun _ h => h, fun _ _ _ x h => okS.mono x h⟩
variable {P : Hp → Res (β × Env) → Prop}
theorem bE (p : Post c F bp σ P) {a : ME} {k : MV → Env → Res (β × Env)} (S : At c F Hk H bp σ ρ) (h : P Hk ((a ρ).bind k)) :
    rdE c a σ H fun v H1 => ∃ Hk1 x ρ1, Ex Hk Hk1 ∧ At c F Hk1 H1 bp σ ρ1 ∧ RV c.K Hk1 x v ∧ P Hk1 (k x ρ1) := by
  refine ⟨F, Hk, bp, ρ, S, ?_⟩
  cases e : a ρ with
  | stuck => rw [e] at h; exact p.st _ h
  | exc x ρ' => rw [e] at h; exact p.ex _ _ _ h
  | ok q =>
    rw [e] at h
    exact fun Hk1 H1 v x1 S1 r1 => ⟨Hk1, q.1, q.2, x1, ⟨S1, S.2⟩, r1, p.mono _ _ _ x1 h⟩
theorem bO (p : Post c F bp σ P) {a : ME} {k : MV → Env → Res (β × Env)} (S : At c F Hk H bp σ ρ) (h : P Hk ((a ρ).bind k)) :
    rdO c a σ H fun v H1 => ∃ Hk1 x ρ1, Ex Hk Hk1 ∧ RS c.K F Hk1 H1 bp (σ ++ [some v]) (ρ1 ++ [some x]) ∧ P Hk1 (k x ρ1) := by
  refine ⟨F, Hk, bp, ρ, S, ?_⟩
  cases e : a ρ with
  | stuck => rw [e] at h; exact p.st _ h
  | exc x ρ' => rw [e] at h; exact p.ex _ _ _ h
  | ok q =>
    rw [e] at h
    exact fun Hk1 H1 v x1 S1 => ⟨Hk1, q.1, q.2, x1, S1, p.mono _ _ _ x1 h⟩
theorem bT (p : Post c F bp σ P) {a : MT} {k : Bool → Env → Res (β × Env)} (S : At c F Hk H bp σ ρ) (h : P Hk ((a ρ).bind k)) :
    rdT c a σ H fun b H1 => ∃ Hk1 ρ1, Ex Hk Hk1 ∧ At c F Hk1 H1 bp σ ρ1 ∧ P Hk1 (k b ρ1) := by
  refine ⟨F, Hk, bp, ρ, S, ?_⟩
  cases e : a ρ with
  | stuck => rw [e] at h; exact p.st _ h
  | exc x ρ' => rw [e] at h; exact p.ex _ _ _ h
  | ok q =>
    rw [e] at h
    exact fun Hk1 H1 x1 S1 => ⟨Hk1, q.2, x1, ⟨S1, S.2⟩, p.mono _ _ _ x1 h⟩
theorem bA (p : Post c F bp σ P) {a : MA} {k : List MV → Env → Res (β × Env)} (S : At c F Hk H bp σ ρ) (h : P Hk ((a ρ).bind k)) :
    rdA c a σ H fun vs H1 => ∃ Hk1 xs ρ1, Ex Hk Hk1 ∧ At c F Hk1 H1 bp σ ρ1 ∧ RVs c.K Hk1 xs vs ∧ P Hk1 (k xs ρ1) := by
  refine ⟨F, Hk, bp, ρ, S, ?_⟩
  cases e : a ρ with
  | stuck => rw [e] at h; exact p.st _ h
  | exc x ρ' => rw [e] at h; exact p.ex _ _ _ h
  | ok q =>
    rw [e] at h
    exact fun Hk1 H1 vs x1 S1 r1 => ⟨Hk1, q.1, q.2, x1, ⟨S1, S.2⟩, r1, p.mono _ _ _ x1 h⟩
end
section
variable {c : Ct}
theorem okE.imp {F Hk : Hp} {bp : List (Nat × Addr)} {σ : St} {Q Q' : VK} {r : Res (MV × Env)} (h : okE c F Hk bp σ Q r) (w : ∀ v H, Q v H → Q' v H) : okE c F Hk bp σ Q' r := by
  cases r with
  | ok a => exact fun Hk2 H2 v x S r => w _ _ (h Hk2 H2 v x S r)
  | exc e ρ => exact h
  | stuck => exact h
theorem okT.imp {F Hk : Hp} {bp : List (Nat × Addr)} {σ : St} {Q Q' : Bool → Hp → Prop} {r : Res (Bool × Env)} (h : okT c F Hk bp σ Q r) (w : ∀ v H, Q v H → Q' v H) : okT c F Hk bp σ Q' r := by
  cases r with
  | ok a => exact fun Hk2 H2 x S => w _ _ (h Hk2 H2 x S)
  | exc e ρ => exact h
  | stuck => exact h
theorem okA.imp {F Hk : Hp} {bp : List (Nat × Addr)} {σ : St} {Q Q' : List V → Hp → Prop} {r : Res (List MV × Env)} (h : okA c F Hk bp σ Q r) (w : ∀ v H, Q v H → Q' v H) : okA c F Hk bp σ Q' r := by
  cases r with
  | ok a => exact fun Hk2 H2 v x S r => w _ _ (h Hk2 H2 v x S r)
  | exc e ρ => exact h
  | stuck => exact h
theorem okO.imp {F Hk : Hp} {bp : List (Nat × Addr)} {σ : St} {Q Q' : VK} {r : Res (MV × Env)} (h : okO c F Hk bp σ Q r) (w : ∀ v H, Q v H → Q' v H) : okO c F Hk bp σ Q' r := by
  cases r with
  | ok a => exact fun Hk2 H2 v x S => w _ _ (h Hk2 H2 v x S)
  | exc e ρ => exact h
  | stuck => exact h
theorem rdw {m : ME} {σ : St} {H : Hp} {Q Q' : VK} (h : rdE c m σ H Q) (w : ∀ v H, Q v H → Q' v H) : rdE c m σ H Q' := let ⟨F, Hk, bp, ρ, S, q⟩ := h; ⟨F, Hk, bp, ρ, S, q.imp w⟩
theorem rdOw {m : ME} {σ : St} {H : Hp} {Q Q' : VK} (h : rdO c m σ H Q) (w : ∀ v H, Q v H → Q' v H) : rdO c m σ H Q' := let ⟨F, Hk, bp, ρ, S, q⟩ := h; ⟨F, Hk, bp, ρ, S, q.imp w⟩
theorem rdTw {m : MT} {σ : St} {H : Hp} {Q Q' : Bool → Hp → Prop} (h : rdT c m σ H Q) (w : ∀ v H, Q v H → Q' v H) : rdT c m σ H Q' := let ⟨F, Hk, bp, ρ, S, q⟩ := h; ⟨F, Hk, bp, ρ, S, q.imp w⟩
theorem rdAw {m : MA} {σ : St} {H : Hp} {Q Q' : List V → Hp → Prop} (h : rdA c m σ H Q) (w : ∀ v H, Q v H → Q' v H) : rdA c m σ H Q' := let ⟨F, Hk, bp, ρ, S, q⟩ := h; ⟨F, Hk, bp, ρ, S, q.imp w⟩
end
section
variable {X : Cx} {c : Ct}
def mTest (a : ME) : MT := fun ρ => (a ρ).bind fun x ρ1 => match x with | .bl b => .ok (b, ρ1) | _ => .stuck
theorem rd_test {a : ME} {σ : St} {H : Hp} {Q : Bool → Hp → Prop} (h : rdT c (mTest a) σ H Q) : (rdE c a) σ H fun x H' => ∃ k, x = .bl k ∧ Q k H' := by
  obtain ⟨F, Hk, bp, ρ, S, h⟩ := h
  obtain ⟨F', Hk', bp', ρ', S', h'⟩ := bE postT S h
  refine ⟨F', Hk', bp', ρ', S', ?_⟩
  cases e : a ρ' with
  | stuck => rw [e] at h'; exact h'
  | exc x r => rw [e] at h'; exact h'
  | ok q =>
    rw [e] at h'
    intro Hk1 H1 v x1 S1 r1
    obtain ⟨Hk2, x, ρ2, x2, S2, r2, h2⟩ := h' Hk1 H1 v x1 S1 r1
    cases x with
    | bl b => exact ⟨b, RV.bl.mp r2, h2 _ _ (Ex.refl _) S2.1⟩
    | _ => exact h2.elim
theorem mt_cmp {op : CmpOp} {f : MV → MV → Option MV} {r : R2} {a b : Expr} {ma mb : ME} {pos : Pos} (ho : OpR X (compareOp op) r) (o : OpS c.K f r) (ha : PE X a (rdE c ma)) (hb : PE X b (rdE c mb)) (hm : behindInMarks op b = false) :
    PT X (.Compare a [op] [b] pos) (rdT c (mTest (mOp f ma mb))) := PTw (pt_cmpR ho ha hb hm) fun σ H Q h => rd_op (Q := fun x H' => ∃ k, x = .bl k ∧ Q k H') o (rd_test h)
theorem mt_val {e : Expr} {m : ME} (h : PE X e (rdE c m)) (he : ∀ whole, isTrue e X.env whole = (do let v ← whole; standAt e.pos; holding [v] (truthy v)) := by intro _; rfl) : PT X e (rdT c (mTest m)) :=
  PTw (pt_val h he) fun σ H Q h => rd_test h
def mChain (f g : MV → MV → Option MV) (a b d : ME) : ME := fun ρ => (a ρ).bind fun x ρ1 => (b ρ1).bind fun y ρ2 => match f x y with
  | some (.bl true) => (d ρ2).bind fun z ρ3 => match g y z with | some w => .ok (w, ρ3) | none => .stuck
  | some (.bl false) => .ok (.bl false, ρ2)
  | _ => .stuck
theorem opEnd {f : MV → MV → Option MV} {r : R2} (o : OpS c.K f r) {F Hk H : Hp} {bp : List (Nat × Addr)} {σ : St} {ρ : Env} {Q : VK} {x y : MV} {v w : V} (S : At c F Hk H bp σ ρ) (r1 : RV c.K Hk x v) (r2 : RV c.K Hk y w)
    (h : okE c F Hk bp σ Q (match f x y with | some z => .ok (z, ρ) | none => .stuck)) : r v w H Q := by
  cases e : f x y with
  | none => rw [e] at h; exact h.elim
  | some z =>
    rw [e] at h
    exact o x y z v w Hk H Q e S.1.ex r1 r2 (fun u ru => h _ _ u (Ex.refl _) S.1 ru) fun p ob hp ru => h _ _ _ (Ex.new (S.1.ex.back hp)) (S.1.new hp) ru
theorem rd_chain {f g : MV → MV → Option MV} {r r' : R2} (o : OpS c.K f r) (o' : OpS c.K g r') {a b d : ME} {σ : St} {H : Hp} {Q : VK} (h : rdE c (mChain f g a b d) σ H Q) : tChain r r' (rdE c a) (rdE c b) (rdE c d) σ H Q := by
  obtain ⟨F, Hk, bp, ρ, S, h⟩ := h
  refine rdw (bE postE S h) fun v H1 ⟨Hk1, x, ρ1, x1, S1, r1, h1⟩ => ?_
  refine rdw (bE postE S1 h1) fun w H2 ⟨Hk2, y, ρ2, x2, S2, r2, h2⟩ => ?_
  split at h2
  · rename_i e
    refine o x y _ v w Hk2 H2 _ e S2.1.ex (RV.mono x2 _ _ r1) r2 (fun u ru => ⟨true, RV.bl.mp ru, ?_⟩) fun p ob hp ru => nomatch (RV.bl.mp ru)
    rw [if_pos rfl]
    refine rdw (bE postE S2 h2) fun z H3 ⟨Hk3, zz, ρ3, x3, S3, r3, h3⟩ => ?_
    exact opEnd o' S3 (RV.mono x3 _ _ r2) r3 h3
  · rename_i e
    refine o x y _ v w Hk2 H2 _ e S2.1.ex (RV.mono x2 _ _ r1) r2 (fun u ru => ⟨false, RV.bl.mp ru, ?_⟩) fun p ob hp ru => nomatch (RV.bl.mp ru)
    rw [if_neg (by decide)]
    exact h2 _ _ _ (Ex.refl _) S2.1 (RV.bl.mpr rfl)
  · exact h2.elim
theorem me_chain {op op' : CmpOp} {f g : MV → MV → Option MV} {r r' : R2} {a b d : Expr} {ma mb md : ME} {pos : Pos} (ho : OpR X (compareOp op) r) (o : OpS c.K f r) (ho' : OpR X (compareOp op') r') (o' : OpS c.K g r')
    (ha : PE X a (rdE c ma)) (hb : PE X b (rdE c mb)) (hd : PE X d (rdE c md)) (hm : lastMarks [op, op'] [b, d] = false := by with_unfolding_all rfl) : PE X (.Compare a [op, op'] [b, d] pos) (rdE c (mChain f g ma mb md)) :=
  PEw (pe_chain ho ho' ha hb hd hm) fun _ _ _ h => rd_chain o o' h
def mAndT (a b : MT) : MT := fun ρ => (a ρ).bind fun x ρ1 => if x then b ρ1 else .ok (false, ρ1)
def mOrT (a b : MT) : MT := fun ρ => (a ρ).bind fun x ρ1 => if x then .ok (true, ρ1) else b ρ1
def mNotT (a : MT) : MT := fun ρ => (a ρ).bind fun x ρ1 => .ok (!x, ρ1)
def mBv (t : MT) : ME := fun ρ => (t ρ).bind fun x ρ1 => .ok (.bl x, ρ1)
theorem rd_andT {a b : MT} {σ : St} {H : Hp} {Q : Bool → Hp → Prop} (h : rdT c (mAndT a b) σ H Q) : tAnd (rdT c a) (rdT c b) σ H Q := by
  obtain ⟨F, Hk, bp, ρ, S, h⟩ := h
  refine rdTw (bT postT S h) fun k H1 ⟨Hk1, ρ1, x1, S1, h1⟩ => ?_
  cases k with
  | true => rw [if_pos rfl] at h1 ⊢; exact ⟨F, Hk1, bp, ρ1, S1, h1⟩
  | false => rw [if_neg (by decide)] at h1 ⊢; exact h1 _ _ (Ex.refl _) S1.1
theorem rd_orT {a b : MT} {σ : St} {H : Hp} {Q : Bool → Hp → Prop} (h : rdT c (mOrT a b) σ H Q) : tOr (rdT c a) (rdT c b) σ H Q := by
  obtain ⟨F, Hk, bp, ρ, S, h⟩ := h
  refine rdTw (bT postT S h) fun k H1 ⟨Hk1, ρ1, x1, S1, h1⟩ => ?_
  cases k with
  | true => rw [if_pos rfl] at h1 ⊢; exact h1 _ _ (Ex.refl _) S1.1
  | false => rw [if_neg (by decide)] at h1 ⊢; exact ⟨F, Hk1, bp, ρ1, S1, h1⟩
theorem rd_notT {a : MT} {σ : St} {H : Hp} {Q : Bool → Hp → Prop} (h : rdT c (mNotT a) σ H Q) : tNot (rdT c a) σ H Q := by
  obtain ⟨F, Hk, bp, ρ, S, h⟩ := h
  exact rdTw (bT postT S h) fun k H1 ⟨Hk1, ρ1, x1, S1, h1⟩ => h1 _ _ (Ex.refl _) S1.1
theorem mw_one_and {a : Expr} {m : MT} {pos : Pos} (h : PT X a (rdT c m)) : PW X (.BoolOp .And [a] pos) (rdT c m) := pw_and1 h
theorem mw_one_or {a : Expr} {m : MT} {pos : Pos} (h : PT X a (rdT c m)) : PW X (.BoolOp .Or [a] pos) (rdT c m) := pw_or1 h
theorem mw_and {a b : Expr} {r : List Expr} {m n : MT} {pos : Pos} (h : PT X a (rdT c m)) (g : PW X (.BoolOp .And (b :: r) pos) (rdT c n)) : PW X (.BoolOp .And (a :: b :: r) pos) (rdT c (mAndT m n)) := PWw (pw_and h g) fun _ _ _ q => rd_andT q
theorem mw_or {a b : Expr} {r : List Expr} {m n : MT} {pos : Pos} (h : PT X a (rdT c m)) (g : PW X (.BoolOp .Or (b :: r) pos) (rdT c n)) : PW X (.BoolOp .Or (a :: b :: r) pos) (rdT c (mOrT m n)) := PWw (pw_or h g) fun _ _ _ q => rd_orT q
theorem mt_not {a : Expr} {m : MT} {pos : Pos} (h : PT X a (rdT c m)) : PT X (.UnaryOp .Not a pos) (rdT c (mNotT m)) := PTw (pt_not h) fun _ _ _ q => rd_notT q
theorem okBv {F Hk : Hp} {bp : List (Nat × Addr)} {σ : St} {Q : VK} {r : Res (Bool × Env)} (h : okT c F Hk bp σ (fun k H => Q (.bl k) H) r) : okE c F Hk bp σ Q (r.bind fun x ρ1 => .ok (.bl x, ρ1)) := by
  cases r with
  | ok a =>
    intro Hk2 H2 v x S rv
    rw [RV.bl.mp rv]
    exact h Hk2 H2 x S
  | exc e ρ => exact h
  | stuck => exact h
theorem rdBv {t : MT} {σ : St} {H : Hp} {Q : VK} (h : rdT c t σ H fun k H1 => Q (.bl k) H1) : rdE c (mBv t) σ H Q := let ⟨F, Hk, bp, ρ, S, q⟩ := h; ⟨F, Hk, bp, ρ, S, okBv q⟩
theorem rdBv' {t : MT} {σ : St} {H : Hp} {Q : VK} (h : rdE c (mBv t) σ H Q) : rdT c t σ H fun k H1 => Q (.bl k) H1 := by
  obtain ⟨F, Hk, bp, ρ, S, h⟩ := h
  exact rdTw (bT postE S h) fun k H1 ⟨Hk1, ρ1, x1, S1, h1⟩ => h1 _ _ _ (Ex.refl _) S1.1 (RV.bl.mpr rfl)
end
end Tm
set_option Elab.async false
set_option linter.all false
set_option maxRecDepth 100000
set_option maxHeartbeats 2000000
namespace Tm
open PySem L2
open Evl (Ex ex_rd ex_l ex_t)
section
variable {X : Cx} {c : Ct}
theorem rd_oneV {a : ME} {σ : St} {H : Hp} {Q : VK} (h : rdE c (mBv (mTest a)) σ H Q) : rdE c a σ H Q := rdw (rd_test (rdBv' h)) fun v H1 ⟨k, e, q⟩ => by rw [e]; exact q
theorem me_one {op : BoolOp} {a : Expr} {m : ME} {pos : Pos} (h : PE X a (rdE c m)) : PE X (.BoolOp op [a] pos) (rdE c (mBv (mTest m))) := PEw (pe_one h) fun _ _ _ q => rd_oneV q
theorem me_and {a b : Expr} {r : List Expr} {m : ME} {t : MT} {pos : Pos} (h : PE X a (rdE c m)) (g : PE X (.BoolOp .And (b :: r) pos) (rdE c (mBv t))) : PE X (.BoolOp .And (a :: b :: r) pos) (rdE c (mBv (mAndT (mTest m) t))) :=
  PEw (pe_and h g) fun σ H Q q => rdw (rd_test (rd_andT (rdBv' q))) fun v H1 ⟨k, e, q⟩ => ⟨k, e, by
    cases k with
    | true => rw [if_pos rfl] at q ⊢; exact rdBv q
    | false => rw [if_neg (by decide)] at q ⊢; exact q⟩
theorem me_not {a : Expr} {m : ME} {pos : Pos} (h : PE X a (rdE c m)) : PE X (.UnaryOp .Not a pos) (rdE c (mBv (mNotT (mTest m)))) :=
  PEw (pe_not h) fun σ H Q q => rdw (rd_test (rd_notT (rdBv' q))) fun v H1 ⟨k, e, q⟩ => ⟨k, e, q⟩
def mUn (f : MV → Option MV) (a : ME) : ME := fun ρ => (a ρ).bind fun x ρ1 => match f x with | some z => .ok (z, ρ1) | none => .stuck
def fNeg : MV → Option MV
  | .int i => some (.int (-i))
  | _ => none
def UnS (K : PySem.W.Frag) (f : MV → Option MV) (r : V → Hp → VK → Prop) : Prop := ∀ (x z : MV) (v : V) (Hk H : Hp) (Q : VK), f x = some z → Ex Hk H → RV K Hk x v → (∀ u, RV K Hk z u → Q u H) →
  (∀ p o, H p = none → RV K (upd Hk p o) z (.ref p) → Q (.ref p) (upd H p o)) → r v H Q
theorem unEnd {f : MV → Option MV} {r : V → Hp → VK → Prop} (o : UnS c.K f r) {F Hk H : Hp} {bp : List (Nat × Addr)} {σ : St} {ρ : Env} {Q : VK} {x : MV} {v : V} (S : At c F Hk H bp σ ρ) (r1 : RV c.K Hk x v)
    (h : okE c F Hk bp σ Q (match f x with | some z => .ok (z, ρ) | none => .stuck)) : r v H Q := by
  cases e : f x with
  | none => rw [e] at h; exact h.elim
  | some z =>
    rw [e] at h
    exact o x z v Hk H Q e S.1.ex r1 (fun u ru => h _ _ u (Ex.refl _) S.1 ru) fun p ob hp ru => h _ _ _ (Ex.new (S.1.ex.back hp)) (S.1.new hp) ru
theorem rd_un {f : MV → Option MV} {r : V → Hp → VK → Prop} (o : UnS c.K f r) {a : ME} {σ : St} {H : Hp} {Q : VK} (h : rdE c (mUn f a) σ H Q) : tUn r (rdE c a) σ H Q := by
  obtain ⟨F, Hk, bp, ρ, S, h⟩ := h
  exact rdw (bE postE S h) fun v H1 ⟨Hk1, x, ρ1, x1, S1, r1, h1⟩ => unEnd o S1 r1 h1
theorem us_neg {K : PySem.W.Frag} : UnS K fNeg (rU fun i => .int (-i)) := by
  intro x z v Hk H Q e ex r1 q qn
  unfold fNeg at e
  split at e
  · cases e; exact ⟨_, RV.int.mp r1, q _ (RV.int.mpr rfl)⟩
  · cases e
theorem me_neg {a : Expr} {m : ME} {pos : Pos} (h : PE X a (rdE c m)) : PE X (.UnaryOp .USub a pos) (rdE c (mUn fNeg m)) := PEw (pe_un un_neg h) fun _ _ _ q => rd_un us_neg q
def mNil : MA := fun ρ => .ok ([], ρ)
def mCons (a : ME) (b : MA) : MA := fun ρ => (a ρ).bind fun x ρ1 => (b ρ1).bind fun xs ρ2 => .ok (x :: xs, ρ2)
theorem ma_nil : PA X [] (rdA c mNil) := PAw pa_nil fun σ H Q h => by
  obtain ⟨F, Hk, bp, ρ, S, h⟩ := h
  exact h _ _ _ (Ex.refl _) S.1 (RVs.nil.mpr rfl)
theorem ma_cons {e : Expr} {es : List Expr} {a : ME} {b : MA} (ha : PE X e (rdE c a)) (hb : PA X es (rdA c b)) (hs : starEach (e :: es) X.env = (false, eval e X.env) :: starEach es X.env := by rfl) : PA X (e :: es) (rdA c (mCons a b)) :=
  PAw (pa_cons ha hb hs) fun σ H Q h => by
    obtain ⟨F, Hk, bp, ρ, S, h⟩ := h
    refine rdw (bE postA S h) fun v H1 ⟨Hk1, x, ρ1, x1, S1, r1, h1⟩ => ?_
    refine rdAw (bA postA S1 h1) fun vs H2 ⟨Hk2, xs, ρ2, x2, S2, r2, h2⟩ => ?_
    exact h2 _ _ _ (Ex.refl _) S2.1 (RVs.cons.mpr ⟨v, vs, rfl, RV.mono x2 _ _ r1, r2⟩)
def mTup (a : MA) : ME := fun ρ => (a ρ).bind fun xs ρ1 => if szOk xs.length then .ok (.tup xs, ρ1) else .stuck
def mLst (a : MA) : ME := fun ρ => (a ρ).bind fun xs ρ1 => if szOk xs.length then .ok (.lst xs, ρ1) else .stuck
def mLstO (a : MA) : ME := fun ρ => (a ρ).bind fun xs ρ1 => if szOk xs.length then .ok (.own xs, ρ1) else .stuck
theorem me_tup {es : List Expr} {a : MA} {pos : Pos} {k : Nat} (h : PA X es (rdA c a)) : PE X (.Tuple es k pos) (rdE c (mTup a)) := PEw (pe_tup h) fun σ H Q h => by
  obtain ⟨F, Hk, bp, ρ, S, h⟩ := h
  refine rdAw (bA postE S h) fun vs H1 ⟨Hk1, xs, ρ1, x1, S1, r1, h1⟩ => ?_
  split at h1
  · rename_i hz
    refine ⟨by rw [r1.length]; exact szOk_iff.mp hz, fun p hp => h1 _ _ _ (Ex.new (S1.1.ex.back hp)) (S1.1.new hp) (RV.tup.mpr ⟨p, vs, rfl, SqT.of upd_same, r1.mono (Ex.new (S1.1.ex.back hp))⟩)⟩
  · exact h1.elim
theorem me_lst {es : List Expr} {a : MA} {pos : Pos} (h : PA X es (rdA c a)) : PE X (.List es pos) (rdE c (mLst a)) := PEw (pe_lst h) fun σ H Q h => by
  obtain ⟨F, Hk, bp, ρ, S, h⟩ := h
  refine rdAw (bA postE S h) fun vs H1 ⟨Hk1, xs, ρ1, x1, S1, r1, h1⟩ => ?_
  split at h1
  · rename_i hz
    refine ⟨by rw [r1.length]; exact szOk_iff.mp hz, fun p hp => h1 _ _ _ (Ex.new (S1.1.ex.back hp)) (S1.1.new hp) (RV.lst.mpr ⟨p, vs, rfl, upd_same, r1.mono (Ex.new (S1.1.ex.back hp))⟩)⟩
  · exact h1.elim
theorem mo_lst {es : List Expr} {a : MA} {pos : Pos} (h : PA X es (rdA c a)) : PE X (.List es pos) (rdO c (mLstO a)) := PEw (pe_lst h) fun σ H Q h => by
  obtain ⟨F, Hk, bp, ρ, S, h⟩ := h
  refine rdAw (bA postO S h) fun vs H1 ⟨Hk1, xs, ρ1, x1, S1, r1, h1⟩ => ?_
  split at h1
  · rename_i hz
    exact ⟨by rw [r1.length]; exact szOk_iff.mp hz, fun p hp => h1 _ _ _ (Ex.refl _) (S1.1.pushOwn hp r1)⟩
  · exact h1.elim
theorem me_ix {a b : Expr} {ma mb : ME} {pos : Pos} (ha : PE X a (rdE c ma)) (hb : PE X b (rdE c mb)) (hK : c.K = X.K := by rfl) (hs : PlainIx b := by exact fun _ _ => rfl) : PE X (.Subscript a b pos) (rdE c (mOp fIx ma mb)) :=
  PEw (pe_ix ix_seq ha hb hs) fun _ _ _ q => rd_op (by rw [hK]; exact os_ix) q
theorem flat_rv {K : PySem.W.Frag} {H H' : Hp} {z : MV} {u : V} (h : flatM z = true) (r : RV K H z u) : RV K H' z u := by
  unfold flatM at h
  split at h <;> first | (cases h; done) | skip
  · rw [RV.non] at r ⊢; exact r
  · rw [RV.bl] at r ⊢; exact r
  · rw [RV.int] at r ⊢; exact r
  · rw [RV.str] at r ⊢; exact r
def has (ρ : Env) (i : Nat) : Bool := match ρ[i]? with | some (some _) => true | _ => false
theorem has_rs {F Hk H : Hp} {bp : List (Nat × Addr)} {σ : St} {ρ : Env} {i : Nat} (S : At c F Hk H bp σ ρ) (e : has ρ i = true) : ∃ v, σ[i]? = some (some v) := by
  unfold has at e
  split at e
  · rename_i x h
    obtain ⟨ow, s⟩ := S.1.ow
    obtain ⟨v, ev, _⟩ := s.s i x h
    exact ⟨v, ev⟩
  · cases e
def ixL (xs : List MV) : MV → Option MV
  | .int k => atI xs k
  | _ => none
def ixV (ρ : Env) (i : Nat) (y : MV) : Option MV := match ρ[i]? with
  | some (some (.own xs)) => ixL xs y
  | some (some x) => if x.per then fIx x y else none
  | _ => none
def mIxV (i : Nat) (b : ME) : ME := fun ρ => if has ρ i then (b ρ).bind fun y ρ1 => match ixV ρ1 i y with | some z => .ok (z, ρ1) | none => .stuck else .stuck
theorem rd_ixV {i : Nat} {b : ME} {σ : St} {H : Hp} {Q : VK} (h : rdE c (mIxV i b) σ H Q) : tOp (rIx c.K) (tVar i) (rdE c b) σ H Q := by
  obtain ⟨F, Hk, bp, ρ, S, h⟩ := h
  unfold mIxV at h
  split at h
  · rename_i hh
    obtain ⟨v, ev⟩ := has_rs S hh
    refine ⟨v, ev, ?_⟩
    refine rdw (bE postE S h) fun w H1 ⟨Hk1, y, ρ1, x1, S1, r1, h1⟩ => ?_
    cases e : ixV ρ1 i y with
    | none => rw [e] at h1; exact h1.elim
    | some z =>
      rw [e] at h1
      unfold ixV at e
      split at e
      · rename_i xs hx
        obtain ⟨p, vs, e1, e2, e3, e4, e5⟩ := S1.1.getOwn hx
        rw [ev] at e1
        cases e1
        unfold ixL at e
        split at e
        · obtain ⟨u, eu, ru⟩ := atI_rv e3 e
          exact .inl ⟨p, vs, _, u, rfl, RV.int.mp r1, SqL.of e2, eu, h1 _ _ u (Ex.refl _) S1.1 ru⟩
        · cases e
      · rename_i x n hx
        split at e
        · rename_i hp
          obtain ⟨w2, e1, r2⟩ := S1.1.get hx hp
          rw [ev] at e1
          cases e1
          exact os_ix _ _ _ _ _ Hk1 H1 Q e S1.1.ex r2 r1 (fun u ru => h1 _ _ u (Ex.refl _) S1.1 ru) fun p ob hp' ru => h1 _ _ _ (Ex.new (S1.1.ex.back hp')) (S1.1.new hp') ru
        · cases e
      · cases e
  · exact h.elim
theorem me_ixV {i : Nat} {x : Str} {b : Expr} {mb : ME} {pos pos' : Pos} (hN : X.N[i]? = some x) (hv : Vis X.env.scope x) (hb : PE X b (rdE c mb)) (hK : c.K = X.K := by rfl) (hs : PlainIx b := by exact fun _ _ => rfl) (hd : (x == ("__debug__" : Str)) = false := by decide) (hcd : (x == ("__classdict__" : Str)) = false := by decide) :
    PE X (.Subscript (.Name x pos') b pos) (rdE c (mIxV i mb)) := PEw (pe_ix ix_seq (pe_var hN hv hd hcd) hb hs) fun _ _ _ q => by rw [← hK]; exact rd_ixV q
def mNo : Env → Res (Option Int × Env) := fun ρ => .ok (none, ρ)
def mPart (a : ME) : Env → Res (Option Int × Env) := fun ρ => (a ρ).bind fun x ρ1 => match x with | .int i => .ok (some i, ρ1) | _ => .stuck
def okP (c : Ct) (F Hk : Hp) (bp : List (Nat × Addr)) (σ : St) (Q : Option Int → Hp → Prop) : Res (Option Int × Env) → Prop
  | .ok (x, ρ') => ∀ Hk' H', Ex Hk Hk' → RS c.K F Hk' H' bp σ ρ' → Q x H'
  | .exc e ρ' => Wish c F Hk bp σ e ρ'
  | .stuck => False
theorem okP.mono {F Hk Hk' : Hp} {bp : List (Nat × Addr)} {σ : St} {Q : Option Int → Hp → Prop} {r : Res (Option Int × Env)} (x : Ex Hk Hk') (h : okP c F Hk bp σ Q r) : okP c F Hk' bp σ Q r := by
  cases r with
  | ok a => exact fun Hk2 H2 x2 => h Hk2 H2 (x.trans x2)
  | exc e ρ => exact Wish.mono x h
  | stuck => exact h
theorem postP {F : Hp} {bp : List (Nat × Addr)} {σ : St} {Q : Option Int → Hp → Prop} : Post c F bp σ fun Hk r => okP c F Hk bp σ Q r := ⟨fun _ _ _ h => h, fun _ h => h, fun _ _ _ x h => okP.mono x h⟩
def rdP (c : Ct) (m : Env → Res (Option Int × Env)) : TO := fun σ H Q => ∃ F Hk bp ρ, At c F Hk H bp σ ρ ∧ okP c F Hk bp σ Q (m ρ)
theorem POw {e : Option Expr} {t t' : TO} (h : PO X e t) (w : ∀ σ H Q, t' σ H Q → t σ H Q) : PO X e t' := ⟨fun pins s σ H Q I q => h.run pins s σ H Q I (w σ H Q q)⟩
theorem mp_none : PO X none (rdP c mNo) := POw po_none fun σ H Q ⟨F, Hk, bp, ρ, S, h⟩ => h _ _ (Ex.refl _) S.1
theorem mp_some {e : Expr} {m : ME} (h : PE X e (rdE c m)) : PO X (some e) (rdP c (mPart m)) := POw (po_some h) fun σ H Q ⟨F, Hk, bp, ρ, S, h⟩ => rdw (bE postP S h) fun v H1 ⟨Hk1, x, ρ1, x1, S1, r1, h1⟩ => by
  cases x with
  | int i => exact ⟨i, RV.int.mp r1, h1 _ _ (Ex.refl _) S1.1⟩
  | _ => exact h1.elim
theorem bP {F Hk H : Hp} {bp : List (Nat × Addr)} {σ : St} {ρ : Env} {β : Type} {P : Hp → Res (β × Env) → Prop} (p : Post c F bp σ P) {a : Env → Res (Option Int × Env)} {k : Option Int → Env → Res (β × Env)} (S : At c F Hk H bp σ ρ) (h : P Hk ((a ρ).bind k)) :
    rdP c a σ H fun b H1 => ∃ Hk1 ρ1, Ex Hk Hk1 ∧ At c F Hk1 H1 bp σ ρ1 ∧ P Hk1 (k b ρ1) := by
  refine ⟨F, Hk, bp, ρ, S, ?_⟩
  cases e : a ρ with
  | stuck => rw [e] at h; exact p.st _ h
  | exc x ρ' => rw [e] at h; exact p.ex _ _ _ h
  | ok q =>
    rw [e] at h
    exact fun Hk1 H1 x1 S1 => ⟨Hk1, q.2, x1, ⟨S1, S.2⟩, p.mono _ _ _ x1 h⟩
def cutM (xs : List MV) (lo hi : Option Int) : List MV := (xs.drop (HT.sIx xs.length 0 lo)).take (HT.sIx xs.length xs.length hi - HT.sIx xs.length 0 lo)
theorem RVs.cut {K : PySem.W.Frag} {H : Hp} {xs : List MV} {vs : List V} (r : RVs K H xs vs) (lo hi : Option Int) : RVs K H (cutM xs lo hi) (cutV vs lo hi) := by
  unfold cutM cutV
  rw [r.length]
  exact (r.drop _).take _
def fSl : MV → Option Int → Option Int → Option MV
  | .lst xs, lo, hi => some (.lst (cutM xs lo hi))
  | .tup xs, lo, hi => some (.tup (cutM xs lo hi))
  | .str z, lo, hi => if szOk z.length then some (.str (cutS z lo hi)) else none
  | _, _, _ => none
def rSlM (K : PySem.W.Frag) : V → Option Int → Option Int → Hp → VK → Prop := fun x lo hi H Q => rSlL K x lo hi H Q ∨ rSlA K x lo hi H Q ∨ rSlS x lo hi H Q
theorem sl_M : SlR X (rSlM X.K) := SlR.or sl_list (SlR.or sl_tupA sl_str)
theorem whole_cut {xs : List MV} {lo hi : Option Int} (h : HT.sIx xs.length 0 lo = 0 ∧ HT.sIx xs.length xs.length hi = xs.length) : cutM xs lo hi = xs := by
  unfold cutM
  rw [h.1, h.2]
  simp
theorem os_sl {K : PySem.W.Frag} {x z : MV} {lo hi : Option Int} {v : V} {Hk H : Hp} {Q : VK} (e : fSl x lo hi = some z) (ex : Ex Hk H) (r1 : RV K Hk x v) (q : ∀ u, RV K Hk z u → Q u H)
    (qn : ∀ p o, H p = none → RV K (upd Hk p o) z (.ref p) → Q (.ref p) (upd H p o)) : rSlM K v lo hi H Q := by
  unfold fSl at e
  split at e
  · cases e
    obtain ⟨p1, vs, rfl, h1, s1⟩ := RV.lst.mp r1
    refine .inl ⟨p1, vs, rfl, SqL.of (ex _ _ h1), fun p hp => qn p _ hp ?_⟩
    exact RV.lst.mpr ⟨p, _, rfl, upd_same, (s1.cut lo hi).mono (Ex.new (ex.back hp))⟩
  · cases e
    obtain ⟨p1, vs, rfl, h1, s1⟩ := RV.tup.mp r1
    refine .inr (.inl ⟨p1, vs, rfl, ex_t ex h1, fun hw => ?_, fun hw p hp => qn p _ hp ?_⟩)
    · rw [s1.length] at hw
      rw [whole_cut hw] at q
      exact q _ r1
    · exact RV.tup.mpr ⟨p, _, rfl, SqT.of upd_same, (s1.cut lo hi).mono (Ex.new (ex.back hp))⟩
  · split at e
    · rename_i hz
      cases e
      exact .inr (.inr ⟨_, RV.str.mp r1, szOk_iff.mp hz, q _ (RV.str.mpr rfl)⟩)
    · cases e
  · cases e
def mSl (a : ME) (l h : Env → Res (Option Int × Env)) : ME := fun ρ => (a ρ).bind fun x ρ1 => (l ρ1).bind fun i ρ2 => (h ρ2).bind fun j ρ3 => match fSl x i j with | some z => .ok (z, ρ3) | none => .stuck
theorem rd_sl {a : ME} {l h' : Env → Res (Option Int × Env)} {σ : St} {H : Hp} {Q : VK} (h : rdE c (mSl a l h') σ H Q) : tSl (rSlM c.K) (rdE c a) (rdP c l) (rdP c h') σ H Q := by
  obtain ⟨F, Hk, bp, ρ, S, h⟩ := h
  refine rdw (bE postE S h) fun v H1 ⟨Hk1, x, ρ1, x1, S1, r1, h1⟩ => ?_
  have w : ∀ {m : Env → Res (Option Int × Env)} {σ : St} {H : Hp} {Q Q' : Option Int → Hp → Prop}, rdP c m σ H Q → (∀ v H, Q v H → Q' v H) → rdP c m σ H Q' := fun {m σ H Q Q'} ⟨F, Hk, bp, ρ, S, q⟩ w => ⟨F, Hk, bp, ρ, S, by
    cases e : m ρ with
    | ok a => rw [e] at q; exact fun Hk2 H2 x S => w _ _ (q Hk2 H2 x S)
    | exc e' ρ => rw [e] at q; exact q
    | stuck => rw [e] at q; exact q⟩
  refine w (bP postE S1 h1) fun i H2 ⟨Hk2, ρ2, x2, S2, h2⟩ => ?_
  refine w (bP postE S2 h2) fun j H3 ⟨Hk3, ρ3, x3, S3, h3⟩ => ?_
  have h3 : okE c F Hk3 bp σ Q (match fSl x i j with | some z => .ok (z, ρ3) | none => .stuck) := h3
  cases e : fSl x i j with
  | none => rw [e] at h3; exact h3.elim
  | some z =>
    rw [e] at h3
    exact os_sl e S3.1.ex (RV.mono (x2.trans x3) _ _ r1) (fun u ru => h3 _ _ u (Ex.refl _) S3.1 ru) fun p ob hp ru => h3 _ _ _ (Ex.new (S3.1.ex.back hp)) (S3.1.new hp) ru
theorem me_sl {a : Expr} {lo hi : Option Expr} {ma : ME} {ml mh : Env → Res (Option Int × Env)} {pos p2 : Pos} (ha : PE X a (rdE c ma)) (hl : PO X lo (rdP c ml)) (hh : PO X hi (rdP c mh)) (hK : c.K = X.K := by rfl) : PE X (.Subscript a (.Slice lo hi none p2) pos) (rdE c (mSl ma ml mh)) :=
  PEw (pe_slice sl_M ha hl hh) fun _ _ _ q => by rw [← hK]; exact rd_sl q
section
variable {a b : Expr} {ma mb : ME} {pos : Pos}
theorem me_add (ha : PE X a (rdE c ma)) (hb : PE X b (rdE c mb)) (hK : c.K = X.K := by rfl) : PE X (.BinOp a .Add b pos) (rdE c (mOp fAdd ma mb)) := me_op op_addM (by rw [← hK]; exact os_add) ha hb
theorem me_sub (ha : PE X a (rdE c ma)) (hb : PE X b (rdE c mb)) : PE X (.BinOp a .Sub b pos) (rdE c (mOp fSub ma mb)) := me_op op_sub os_sub ha hb
theorem me_mul (ha : PE X a (rdE c ma)) (hb : PE X b (rdE c mb)) (hK : c.K = X.K := by rfl) : PE X (.BinOp a .Mult b pos) (rdE c (mOp fMul ma mb)) := me_op op_mulM (by rw [← hK]; exact os_mul) ha hb
theorem me_div (ha : PE X a (rdE c ma)) (hb : PE X b (rdE c mb)) : PE X (.BinOp a .FloorDiv b pos) (rdE c (mOp fDiv ma mb)) := me_op op_divM os_div ha hb
theorem me_mod (ha : PE X a (rdE c ma)) (hb : PE X b (rdE c mb)) : PE X (.BinOp a .Mod b pos) (rdE c (mOp fMod ma mb)) := me_op op_modN os_mod ha hb
theorem me_pow (ha : PE X a (rdE c ma)) (hb : PE X b (rdE c mb)) : PE X (.BinOp a .Pow b pos) (rdE c (mOp fPow ma mb)) := me_op op_pow os_pow ha hb
end
end
end Tm
set_option Elab.async false
set_option linter.all false
set_option maxRecDepth 100000
set_option maxHeartbeats 2000000
namespace Tm
open PySem L2
open Evl (Ex ex_rd ex_l ex_t)
section
variable {X : Cx} {c : Ct}
abbrev MG := MV → Env → Option Env
def okG (c : Ct) (F Hk : Hp) (bp : List (Nat × Addr)) (Q : St → Hp → Prop) : Option Env → Prop
  | some ρ' => ∀ Hk' H' σ', Ex Hk Hk' → RS c.K F Hk' H' bp σ' ρ' → Q σ' H'
  | none => False
def rdG (c : Ct) (m : MG) : TG := fun v σ H Q => ∃ F Hk bp ρ x, At c F Hk H bp σ ρ ∧ RV c.K Hk x v ∧ okG c F Hk bp Q (m x ρ)
def rdGs (c : Ct) (m : List MV → Env → Option Env) : TGs := fun vs σ H Q => ∃ F Hk bp ρ xs, At c F Hk H bp σ ρ ∧ RVs c.K Hk xs vs ∧ okG c F Hk bp Q (m xs ρ)
theorem PGw {e : Expr} {t t' : TG} (h : PG X e t) (w : ∀ v σ H Q, t' v σ H Q → t v σ H Q) : PG X e t' := ⟨fun pins s σ H v u Q I r q => h.run pins s σ H v u Q I r (w v σ H Q q)⟩
theorem PGsw {e : List Expr} {t t' : TGs} (h : PGs X e t) (w : ∀ v σ H Q, t' v σ H Q → t v σ H Q) : PGs X e t' := ⟨fun pins s σ H v u Q I r q => h.run pins s σ H v u Q I r (w v σ H Q q)⟩
def gSet (i : Nat) : MG := fun x ρ => if i < ρ.length then some (ρ.set i (some x)) else none
theorem nb {bp : List (Nat × Addr)} {bs : List Nat} {i : Nat} (e : bp.map (·.1) = bs) (h : bs.contains i = false) : ∀ q ∈ bp, q.1 ≠ i := fun q hq z => by
  have m : i ∈ bs := by rw [← e, ← z]; exact List.mem_map.mpr ⟨q, hq, rfl⟩
  rw [List.contains_eq_mem] at h
  simp [m] at h
theorem rd_gname {i : Nat} (hb : c.bs.contains i = false) {v : V} {σ : St} {H : Hp} {Q : St → Hp → Prop} (h : rdG c (gSet i) v σ H Q) : gName i v σ H Q := by
  obtain ⟨F, Hk, bp, ρ, y, S, r, h⟩ := h
  unfold gSet at h
  split at h
  · rename_i hl
    exact h _ _ _ (Ex.refl _) (S.1.set hl r (nb S.2.1 hb))
  · exact h.elim
theorem mg_name {i : Nat} {x : Str} {pos : Pos} (hN : X.N.Nodup) (hi : X.N[i]? = some x) (hx : Loc X.env.scope x) (hb : c.bs.contains i = false := by rfl) (hf : X.fn x = true ∨ X.env.scope.names.lookup x = some .local := by first | exact .inl rfl | exact .inr rfl | assumption) : PG X (.Name x pos) (rdG c (gSet i)) :=
  PGw (pg_name hN hi hx hf) fun v σ H Q h => rd_gname hb h
def gsNil : List MV → Env → Option Env := fun xs ρ => match xs with | [] => some ρ | _ => none
def gsCons (a : MG) (b : List MV → Env → Option Env) : List MV → Env → Option Env := fun xs ρ => match xs with
  | x :: r => (match a x ρ with | some ρ1 => b r ρ1 | none => none)
  | [] => none
def gTp (n : Nat) (b : List MV → Env → Option Env) : MG := fun x ρ => match x with
  | .tup xs => if xs.length = n then b xs ρ else none
  | .lst xs => if xs.length = n then b xs ρ else none
  | _ => none
theorem PGor {e : Expr} {t t' : TG} (h : PG X e t) (g : PG X e t') : PG X e fun v σ H Q => t v σ H Q ∨ t' v σ H Q := ⟨fun pins s σ H v u Q I r q => by
  rcases q with q | q
  · exact h.run pins s σ H v u Q I r q
  · exact g.run pins s σ H v u Q I r q⟩
theorem mgs_nil : PGs X [] (rdGs c gsNil) := PGsw pgs_nil fun vs σ H Q ⟨F, Hk, bp, ρ, xs, S, r, h⟩ => by
  cases xs with
  | nil => exact ⟨RVs.nil.mp r, h _ _ _ (Ex.refl _) S.1⟩
  | cons x xs => exact h.elim
theorem mgs_cons {e : Expr} {es : List Expr} {a : MG} {b : List MV → Env → Option Env} (h1 : PG X e (rdG c a)) (h2 : PGs X es (rdGs c b)) (hs : (assignEach (e :: es) X.env).map (·.2) = assign e X.env :: (assignEach es X.env).map (·.2) := by rfl) : PGs X (e :: es) (rdGs c (gsCons a b)) := PGsw (pgs_cons h1 h2 hs) fun vs σ H Q ⟨F, Hk, bp, ρ, xs, S, r, h⟩ => by
  cases xs with
  | nil => exact h.elim
  | cons x xs =>
    obtain ⟨v, us, rfl, r1, r2⟩ := RVs.cons.mp r
    refine ⟨v, us, rfl, F, Hk, bp, ρ, x, S, r1, ?_⟩
    have h : okG c F Hk bp Q (match a x ρ with | some ρ1 => b xs ρ1 | none => none) := h
    cases e : a x ρ with
    | none => rw [e] at h; exact h
    | some ρ1 =>
      rw [e] at h
      intro Hk1 H1 σ1 x1 S1
      refine ⟨F, Hk1, bp, ρ1, xs, ⟨S1, S.2⟩, r2.mono x1, ?_⟩
      have h : okG c F Hk bp Q (b xs ρ1) := h
      cases e2 : b xs ρ1 with
      | none => rw [e2] at h; exact h
      | some ρ2 => rw [e2] at h; exact fun Hk2 H2 σ2 x2 => h Hk2 H2 σ2 (x1.trans x2)
theorem mg_tup {es : List Expr} {k : Nat} {b : List MV → Env → Option Env} {n : Nat} {pos : Pos} (hc : X.calm = true) (h : PGs X es (rdGs c b)) (hK : c.K = X.K := by rfl)
    (hn : (assignEach es X.env).length = n := by rfl) (hst : (assignEach es X.env).findIdx? (·.1) = none := by rfl) : PG X (.Tuple es k pos) (rdG c (gTp n b)) := PGw (PGor (pg_tup hc h hn hst) (pg_unl hc h hn hst)) fun v σ H Q ⟨F, Hk, bp, ρ, x, S, r, h⟩ => by
  unfold gTp at h
  split at h
  · split at h
    · rename_i xs hl
      obtain ⟨a, vs, rfl, h1, s1⟩ := RV.tup.mp r
      rw [← hK]
      exact .inl ⟨a, vs, rfl, ex_t S.1.ex h1, by rw [s1.length]; exact hl, F, Hk, bp, ρ, xs, S, s1, h⟩
    · exact h.elim
  · split at h
    · rename_i xs hl
      obtain ⟨a, vs, rfl, h1, s1⟩ := RV.lst.mp r
      rw [← hK]
      exact .inr ⟨a, vs, rfl, SqL.of (S.1.ex _ _ h1), by rw [s1.length]; exact hl, F, Hk, bp, ρ, xs, S, s1, h⟩
    · exact h.elim
  · exact h.elim
def mAsg (a : ME) (g : MG) : MS := fun ρ => (a ρ).bind fun x ρ1 => match g x ρ1 with | some ρ2 => .ok (.nx, ρ2) | none => .stuck
theorem rd_asg {a : ME} {g : MG} {D : Ends} {σ : St} {H : Hp} (h : rdS c (mAsg a g) D σ H) : tAsg (rdE c a) (rdG c g) D σ H := by
  obtain ⟨F, Hk, bp, ρ, S, h⟩ := h
  refine rdw (bE (postS (σ := σ)) S h) fun v H1 ⟨Hk1, x, ρ1, x1, S1, r1, h1⟩ => ⟨F, Hk1, bp, ρ1, x, S1, r1, ?_⟩
  have h1 : okS c F Hk1 bp D (match g x ρ1 with | some ρ2 => .ok (.nx, ρ2) | none => .stuck) := h1
  cases e : g x ρ1 with
  | none => rw [e] at h1; exact h1
  | some ρ2 => rw [e] at h1; exact h1
theorem ms_asg {tg e : Expr} {a : ME} {g : MG} {pos : Pos} (he : PE X e (rdE c a)) (hg : PG X tg (rdG c g)) (hs : swapsWithSole [tg] e pos.line X.env = pure false := by rfl) (hw : swappedStores [tg] e X.env = pure none := by rfl)
    (h1 : (assignEach [tg] X.env).map (·.2) = [assign tg X.env] := by rfl) : PS X (.Assign [tg] e pos) (rdS c (mAsg a g)) := PSw (ps_asg he hg hs hw h1) fun _ _ _ h => rd_asg h
theorem rd_set {i : Nat} (hb : c.bs.contains i = false) {a : ME} {D : Ends} {σ : St} {H : Hp} (h : rdS c (mAsg a (gSet i)) D σ H) : tAsg (rdE c a) (gName i) D σ H := rdw (rd_asg h) fun _ _ q => rd_gname hb q
theorem ms_set {i : Nat} {x : Str} {e : Expr} {a : ME} {pos pos' : Pos} (hN : X.N.Nodup) (hi : X.N[i]? = some x) (hx : Loc X.env.scope x) (he : PE X e (rdE c a)) (hb : c.bs.contains i = false := by rfl) (hs : swapsWith e (some (.Name x pos')) pos.line X.env = pure false := by rfl)
    (hf : X.fn x = true ∨ X.env.scope.names.lookup x = some .local := by first | exact .inl rfl | exact .inr rfl | assumption) : PS X (.Assign [.Name x pos'] e pos) (rdS c (mAsg a (gSet i))) := PSw (ps_set hN hi hx he hs hf) fun _ _ _ h => rd_set hb h
def mSetO (i : Nat) (a : ME) : MS := fun ρ => (a ρ).bind fun x ρ1 => if i < ρ1.length then .ok (.nx, ρ1.set i (some x)) else .stuck
theorem rd_setO {i : Nat} {a : ME} {D : Ends} {σ : St} {H : Hp} (hb : c.bs.contains i = false) (h : rdS c (mSetO i a) D σ H) : tAsg (rdO c a) (gName i) D σ H := by
  obtain ⟨F, Hk, bp, ρ, S, h⟩ := h
  refine rdOw (bO (postS (σ := σ)) S h) fun v H1 ⟨Hk1, x, ρ1, x1, S1, h1⟩ => ?_
  split at h1
  · rename_i hl
    refine h1 _ _ _ (Ex.refl _) (S1.take hl fun q hq => ⟨nb S.2.1 hb q hq, ?_⟩)
    have l1 : σ.length = ρ1.length := by have := S1.len; simpa using this
    rw [← l1]
    exact lt_get (S.1.bor q hq)
  · exact h1.elim
theorem ms_setO {i : Nat} {x : Str} {e : Expr} {a : ME} {pos pos' : Pos} (hN : X.N.Nodup) (hi : X.N[i]? = some x) (hx : Loc X.env.scope x) (he : PE X e (rdO c a)) (hb : c.bs.contains i = false := by rfl) (hs : swapsWith e (some (.Name x pos')) pos.line X.env = pure false := by rfl)
    (hf : X.fn x = true ∨ X.env.scope.names.lookup x = some .local := by first | exact .inl rfl | exact .inr rfl | assumption) : PS X (.Assign [.Name x pos'] e pos) (rdS c (mSetO i a)) := PSw (ps_set hN hi hx he hs hf) fun _ _ _ h => rd_setO hb h
def mPass : MS := fun ρ => .ok (.nx, ρ)
def mSeq (a b : MS) : MS := fun ρ => (a ρ).bind fun f ρ1 => match f with | .nx => b ρ1 | f => .ok (f, ρ1)
theorem okS.seq {F Hk : Hp} {bp : List (Nat × Addr)} {D : Ends} {b : MS} (eb : bp.map (·.1) = c.bs ∧ c.J F bp) {r : Res (Fl × Env)} (h : okS c F Hk bp D (r.bind fun f ρ1 => match f with | .nx => b ρ1 | f => .ok (f, ρ1))) : okS c F Hk bp { D with nx := rdS c b D } r := by
  cases r with
  | stuck => exact h
  | exc e ρ => exact h
  | ok q =>
    obtain ⟨f, ρ1⟩ := q
    cases f with
    | nx => exact fun Hk1 H1 σ1 x1 S1 => ⟨F, Hk1, bp, ρ1, ⟨S1, eb⟩, okS.mono x1 h⟩
    | br => exact h
    | ct => exact h
    | rt x => exact h
theorem rd_seq {a b : MS} {D : Ends} {σ : St} {H : Hp} (h : rdS c (mSeq a b) D σ H) : tSeq (rdS c a) (rdS c b) D σ H := by
  obtain ⟨F, Hk, bp, ρ, S, h⟩ := h
  exact ⟨F, Hk, bp, ρ, S, okS.seq S.2 h⟩
theorem mss_nil : PSs X [] (rdS c mPass) := PSsw pss_nil fun D σ H ⟨F, Hk, bp, ρ, S, h⟩ => h _ _ _ (Ex.refl _) S.1
theorem mss_one {st : Stmt} {a : MS} (h : PS X st (rdS c a)) : PSs X [st] (rdS c a) := pss_one h
theorem mss_cons {st : Stmt} {r : List Stmt} {a b : MS} (h : PS X st (rdS c a)) (g : PSs X r (rdS c b)) : PSs X (st :: r) (rdS c (mSeq a b)) := PSsw (pss_cons h g) fun _ _ _ q => rd_seq q
def mIfS (t : MT) (a b : MS) : MS := fun ρ => (t ρ).bind fun x ρ1 => if x then a ρ1 else b ρ1
theorem ms_if {t : Expr} {a b : List Stmt} {mt : MT} {ma mb : MS} {pos : Pos} (ht : PT X t (rdT c mt)) (ha : PSs X a (rdS c ma)) (hb : PSs X b (rdS c mb)) : PS X (.If t a b pos) (rdS c (mIfS mt ma mb)) := PSw (ps_if ht ha hb) fun D σ H ⟨F, Hk, bp, ρ, S, h⟩ => by
  refine rdTw (bT (postS (σ := σ)) S h) fun k H1 ⟨Hk1, ρ1, x1, S1, h1⟩ => ?_
  cases k with
  | true => rw [if_pos rfl] at h1 ⊢; exact ⟨F, Hk1, bp, ρ1, S1, h1⟩
  | false => rw [if_neg (by decide)] at h1 ⊢; exact ⟨F, Hk1, bp, ρ1, S1, h1⟩
def mRet (a : ME) : MS := fun ρ => (a ρ).bind fun x ρ1 => .ok (.rt x, ρ1)
theorem ms_ret {e : Expr} {a : ME} {pos : Pos} (h : PE X e (rdE c a)) : PS X (.Return (some e) pos) (rdS c (mRet a)) := PSw (ps_ret h) fun D σ H ⟨F, Hk, bp, ρ, S, h⟩ =>
  rdw (bE (postS (σ := σ)) S h) fun v H1 ⟨Hk1, x, ρ1, x1, S1, r1, h1⟩ => h1 _ _ _ _ (Ex.refl _) (fun q hq => lt_get (S.1.bor q hq)) (S1.1.push r1)
theorem ms_retO {e : Expr} {a : ME} {pos : Pos} (h : PE X e (rdO c a)) : PS X (.Return (some e) pos) (rdS c (mRet a)) := PSw (ps_ret h) fun D σ H ⟨F, Hk, bp, ρ, S, h⟩ =>
  rdOw (bO (postS (σ := σ)) S h) fun v H1 ⟨Hk1, x, ρ1, x1, S1, h1⟩ => h1 _ _ _ _ (Ex.refl _) (fun q hq => lt_get (S.1.bor q hq)) S1
def mRetN : MS := fun ρ => .ok (.rt .non, ρ)
theorem ms_retN {pos : Pos} : PS X (.Return none pos) (rdS c mRetN) := PSw ps_retN fun D σ H ⟨F, Hk, bp, ρ, S, h⟩ => h _ _ _ _ (Ex.refl _) (fun q hq => lt_get (S.1.bor q hq)) (S.1.push (RV.non.mpr rfl))
def mDrop (a : ME) : MS := fun ρ => (a ρ).bind fun _ ρ1 => .ok (.nx, ρ1)
theorem ms_expr {e : Expr} {a : ME} {pos : Pos} (h : PE X e (rdE c a)) (hs : swapsWith e none pos.line X.env = pure false := by rfl) : PS X (.Expr e pos) (rdS c (mDrop a)) := PSw (ps_expr h hs) fun D σ H ⟨F, Hk, bp, ρ, S, h⟩ =>
  rdw (bE (postS (σ := σ)) S h) fun v H1 ⟨Hk1, x, ρ1, x1, S1, r1, h1⟩ => h1 _ _ _ (Ex.refl _) S1.1
def mMove (i : Nat) : ME := fun ρ => match ρ[i]? with
  | some (some (.obj _ _)) => .stuck
  | some (some x) => .ok (x, ρ.set i none)
  | _ => .stuck
theorem rd_move {i : Nat} (hb : c.bs.contains i = false) {σ : St} {H : Hp} {Q : VK} (h : rdO c (mMove i) σ H Q) : tVar i σ H Q := by
  obtain ⟨F, Hk, bp, ρ, S, h⟩ := h
  unfold mMove at h
  split at h
  · exact h.elim
  · rename_i x n hx
    obtain ⟨ow, s⟩ := S.1.ow
    obtain ⟨v, ev, ov⟩ := s.s i x hx
    have li := lt_get hx
    refine ⟨v, ev, h Hk H v (Ex.refl _) ?_⟩
    refine ⟨by simp [S.1.len], S.1.ex, S.1.fr, S.1.frk, ⟨put (put ow i []) ρ.length (ow i), ?_⟩, S.1.bor_app _⟩
    have nl : i ≠ ρ.length := Nat.ne_of_lt li
    have mem : ∀ j a, a ∈ put (put ow i []) ρ.length (ow i) j → (j = ρ.length ∧ a ∈ ow i) ∨ (j ≠ i ∧ j < ρ.length ∧ a ∈ ow j) := fun j a h => by
      by_cases e : j = ρ.length
      · rw [e, put_same] at h; exact .inl ⟨e, h⟩
      · rw [put_ne e] at h
        by_cases e2 : j = i
        · rw [e2, put_same] at h; cases h
        · rw [put_ne e2] at h
          exact .inr ⟨e2, s.w j (by intro z; rw [z] at h; cases h), h⟩
    refine ⟨fun j y hj => ?_, fun j a hj => ?_, fun j hj => ?_, fun j k a hjk hj hk => ?_⟩
    · rcases app_get hj with ⟨e1, e2⟩ | ⟨lt, e2⟩
      · cases e2
        rw [List.length_set] at e1
        refine ⟨v, by rw [e1, ← S.1.len]; simp, ?_⟩
        rw [e1, put_same]; exact ov
      · rcases set_get e2 with ⟨_, e3⟩ | ⟨ne, e3⟩
        · cases e3
        · obtain ⟨w, w1, w2⟩ := s.s j y e3
          have lj := lt_get e3
          exact ⟨w, by rw [List.getElem?_append_left (by rw [S.1.len]; exact lj)]; exact w1, by rw [put_ne (Nat.ne_of_lt lj), put_ne ne]; exact w2⟩
    · rcases mem j a hj with ⟨_, m⟩ | ⟨_, _, m⟩
      · exact s.f i a m
      · exact s.f j a m
    · cases e : put (put ow i []) ρ.length (ow i) j with
      | nil => exact (hj e).elim
      | cons a r =>
        rcases mem j a (by rw [e]; simp) with ⟨e, _⟩ | ⟨_, l, _⟩
        · rw [e]; simp
        · simp; omega
    · rcases mem j a hj with ⟨e1, m⟩ | ⟨e1, l1, m⟩ <;> rcases mem k a hk with ⟨e2, m2⟩ | ⟨e2, l2, m2⟩
      · exact hjk (e1.trans e2.symm)
      · exact s.d i k a (Ne.symm e2) m m2
      · exact s.d j i a e1 m m2
      · exact s.d j k a hjk m m2
  · exact h.elim
theorem mo_var {i : Nat} {x : Str} {pos : Pos} (hN : X.N[i]? = some x) (hv : Vis X.env.scope x) (hb : c.bs.contains i = false := by rfl) (hd : (x == ("__debug__" : Str)) = false := by decide) (hcd : (x == ("__classdict__" : Str)) = false := by decide) : PE X (.Name x pos) (rdO c (mMove i)) :=
  PEw (pe_var hN hv hd hcd) fun _ _ _ h => rd_move hb h
def fAddI : MV → MV → Option MV := fun x y => match x, y with | .int i, .int j => some (.int (i + j)) | _, _ => none
end
end Tm
set_option Elab.async false
set_option linter.all false
set_option maxRecDepth 100000
set_option maxHeartbeats 2000000
namespace Tm
open PySem L2 PySem.Spec PyProof.Rows
structure ZSrc (P : Program) (w : World) (K : PySem.W.Frag) (it : Addr) (fp : List Addr) (S : Hp → List V → Prop) (tn : Nat → Heap → Prop) : Prop where
  obj : ∀ i h, tn i h → ∃ o, h.get? it = some o ∧ ∀ v, o.data ≠ .cell v
  keep : ∀ i h h', tn i h → (∀ o, h.get? it = some o → h'.get? it = some o) → tn i h'
  inj : ∀ (X : Cx), X.K = K → ∀ pins (s : Shared) σ H xs ys, Inv X pins σ H s → S H xs → S H ys → xs = ys
  draw : ∀ (X : Cx), X.prog = P → X.w = w → X.K = K → X.calm = true → ∀ pins (s : Shared) σ H xs i, Inv X pins σ H s → S H xs → tn i s.heap →
    ∃ (Y : Nat → Value → Prop) (St : Nat → Heap → Prop), Draws P w X.A.in1 it fp xs.length Y St ∧ St i s.heap ∧ (∀ j u, Y j u → ∃ x, xs[j]? = some x ∧ RelV x u) ∧ ∀ j h, St j h → tn j h
end Tm
set_option Elab.async false
set_option linter.all false
set_option maxRecDepth 100000
set_option maxHeartbeats 2000000
namespace Tm
open PySem L2
open Evl (Ex ex_rd ex_l ex_t)
structure Walks (K : PySem.W.Frag) (Hk : Hp) (J : It) (items : List MV) : Prop where
  go : ∀ i H, Ex Hk H → i < items.length → J.go i H
  stop : ∀ H, Ex Hk H → J.stop items.length H
  yld : ∀ i H x H', Ex Hk H → i < items.length → J.yld i H x H' → ∃ y, items[i]? = some y ∧ ((H' = H ∧ RV K Hk y x) ∨ ∃ p vs ys, H p = none ∧ H' = upd H p (.tup vs) ∧ x = .ref p ∧ y = .tup ys ∧ RVs K Hk ys vs)
abbrev MI := Env → Res (List MV × Env)
def okI (c : Ct) (F Hk : Hp) (bp : List (Nat × Addr)) (σ : St) (R : It → Hp → Prop) : Res (List MV × Env) → Prop
  | .ok (xs, ρ') => ∀ Hk' H' J, Ex Hk Hk' → RS c.K F Hk' H' bp σ ρ' → Walks c.K Hk' J xs → R J H'
  | .exc e ρ' => Wish c F Hk bp σ e ρ'
  | .stuck => False
theorem okI.mono {c : Ct} {F Hk Hk' : Hp} {bp : List (Nat × Addr)} {σ : St} {Q : It → Hp → Prop} {r : Res (List MV × Env)} (x : Ex Hk Hk') (h : okI c F Hk bp σ Q r) : okI c F Hk' bp σ Q r := by
  cases r with
  | ok a => exact fun Hk2 H2 v x2 => h Hk2 H2 v (x.trans x2)
  | exc e ρ => exact Wish.mono x h
  | stuck => exact h
theorem postI {c : Ct} {F : Hp} {bp : List (Nat × Addr)} {σ : St} {R : It → Hp → Prop} : Post c F bp σ fun Hk r => okI c F Hk bp σ R r := ⟨fun _ _ _ h => h, fun _ h => h, fun _ _ _ x h => okI.mono x h⟩
def rdI (c : Ct) (m : MI) : TI := fun σ H R => ∃ F Hk bp ρ, At c F Hk H bp σ ρ ∧ okI c F Hk bp σ R (m ρ)
theorem PIw {X : Cx} {tg e : Expr} {t t' : TI} (h : PI X tg e t) (w : ∀ σ H R, t' σ H R → t σ H R) : PI X tg e t' := ⟨fun pins s σ H R I q => h.run pins s σ H R I (w σ H R q)⟩
theorem walks_l {K : PySem.W.Frag} {Hk : Hp} {a : Addr} {xs : List MV} {vs : List V} (h : SqL K Hk a vs) (r : RVs K Hk xs vs) : Walks K Hk (Itl K a) xs := by
  refine ⟨fun i H e hi => ?_, fun H e => ⟨vs, ex_l e h, by rw [r.length]; exact Nat.le_refl _⟩, fun i H x H' e hi y => ?_⟩
  · obtain ⟨v, hv, _⟩ := r.get (i := i) (x := xs[i]) (by simp [hi])
    exact ⟨vs, v, ex_l e h, hv⟩
  · obtain ⟨v, hv, rv⟩ := r.get (i := i) (x := xs[i]) (by simp [hi])
    obtain ⟨e1, y⟩ := y
    have := y vs (ex_l e h)
    rw [hv] at this
    cases this
    exact ⟨xs[i], by simp [hi], .inl ⟨e1, rv⟩⟩
theorem walks_t {K : PySem.W.Frag} {Hk : Hp} {a : Addr} {xs : List MV} {vs : List V} (h : SqT K Hk a vs) (r : RVs K Hk xs vs) : Walks K Hk (Itt K a) xs := by
  refine ⟨fun i H e hi => ?_, fun H e => ⟨vs, ex_t e h, by rw [r.length]; exact Nat.le_refl _⟩, fun i H x H' e hi y => ?_⟩
  · obtain ⟨v, hv, _⟩ := r.get (i := i) (x := xs[i]) (by simp [hi])
    exact ⟨vs, v, ex_t e h, hv⟩
  · obtain ⟨v, hv, rv⟩ := r.get (i := i) (x := xs[i]) (by simp [hi])
    obtain ⟨e1, y⟩ := y
    have := y vs (ex_t e h)
    rw [hv] at this
    cases this
    exact ⟨xs[i], by simp [hi], .inl ⟨e1, rv⟩⟩
def rngM (lo c : Int) (n : Nat) : List MV := (List.range n).map fun i => .int (lo + (i : Nat) * c)
theorem rngM_get {lo c : Int} {n i : Nat} (h : i < n) : (rngM lo c n)[i]? = some (.int (lo + (i : Nat) * c)) := by
  unfold rngM
  rw [List.getElem?_map, List.getElem?_range h]; rfl
theorem rngM_len {lo c : Int} {n : Nat} : (rngM lo c n).length = n := by simp [rngM]
theorem walks_r {K : PySem.W.Frag} {Hk : Hp} {lo : Int} {n : Nat} : Walks K Hk (Itr lo n) (rngM lo 1 n) := by
  refine ⟨fun i H e hi => by rw [rngM_len] at hi; exact hi, fun H e => by rw [rngM_len]; exact Nat.le_refl n, fun i H x H' e hi y => ?_⟩
  rw [rngM_len] at hi
  obtain ⟨e1, e2⟩ := y
  exact ⟨_, rngM_get hi, .inl ⟨e1, by rw [e2, Int.mul_one]; exact RV.int.mpr rfl⟩⟩
theorem walks_rc {K : PySem.W.Frag} {Hk : Hp} {lo c : Int} {n : Nat} : Walks K Hk (Itc lo c n) (rngM lo c n) := by
  refine ⟨fun i H e hi => by rw [rngM_len] at hi; exact hi, fun H e => by rw [rngM_len]; exact Nat.le_refl n, fun i H x H' e hi y => ?_⟩
  rw [rngM_len] at hi
  obtain ⟨e1, e2⟩ := y
  exact ⟨_, rngM_get hi, .inl ⟨e1, by rw [e2]; exact RV.int.mpr rfl⟩⟩
def signsM (z : Str) : List MV := z.cps.toList.map fun c => .str ⟨#[c]⟩
theorem walks_s {K : PySem.W.Frag} {Hk : Hp} {z : Str} : Walks K Hk (Its z) (signsM z) := by
  have l : (signsM z).length = z.cps.size := by simp [signsM]
  refine ⟨fun i H e hi => by rw [l] at hi; exact hi, fun H e => by rw [l]; exact Nat.le_refl _, fun i H x H' e hi y => ?_⟩
  obtain ⟨e1, ch, e2, e3⟩ := y
  refine ⟨.str ⟨#[ch]⟩, ?_, .inl ⟨e1, by rw [e3]; exact RV.str.mpr rfl⟩⟩
  unfold signsM
  rw [List.getElem?_map, Array.getElem?_toList, e2]; rfl
theorem walks_v {K : PySem.W.Frag} {Hk : Hp} {a : Addr} {xs : List MV} {vs : List V} (h : SqL K Hk a vs) (r : RVs K Hk xs vs) : Walks K Hk (Itv K a vs.length) xs.reverse := by
  refine ⟨fun i H e hi => ?_, fun H e => by rw [List.length_reverse, ← r.length]; exact Nat.le_refl vs.length, fun i H x H' e hi y => ?_⟩
  · rw [List.length_reverse] at hi
    obtain ⟨v, hv, _⟩ := r.get (i := vs.length - 1 - i) (x := xs[vs.length - 1 - i]'(by rw [r.length]; omega)) (by simp)
    exact ⟨by rw [r.length]; exact hi, vs, v, ex_l e h, hv⟩
  · rw [List.length_reverse] at hi
    have lk : xs.length - 1 - i < xs.length := by omega
    have ek : vs.length - 1 - i = xs.length - 1 - i := by rw [r.length]
    obtain ⟨v, hv, rv⟩ := r.get (i := xs.length - 1 - i) (x := xs[xs.length - 1 - i]) (by simp [lk])
    obtain ⟨e1, y⟩ := y
    have := y vs (ex_l e h)
    rw [ek, hv] at this
    cases this
    exact ⟨xs[xs.length - 1 - i], by rw [List.getElem?_reverse hi]; simp [lk], .inl ⟨e1, rv⟩⟩
section
variable {X : Cx} {c : Ct} {tg : Expr}
def itemsOf : MV → Option (List MV)
  | .lst xs => some xs
  | .tup xs => some xs
  | .scr ns => some (ns.map .int)
  | .str z => some (signsM z)
  | _ => none
def mItV (a : ME) : MI := fun ρ => (a ρ).bind fun x ρ1 => match itemsOf x with | some xs => .ok (xs, ρ1) | none => .stuck
theorem mi_val {e : Expr} {a : ME} (h : PE X e (rdE c a)) (hK : c.K = X.K := by rfl) : PI X tg e (rdI c (mItV a)) := by
  refine ⟨fun pins s σ H R I q => ?_⟩
  obtain ⟨F, Hk, bp, ρ, S, q⟩ := q
  cases ea : a ρ with
  | stuck => unfold mItV at q; rw [ea] at q; exact q.elim
  | exc x ρ1 =>
    have z : rdE c a σ H fun _ _ => False := ⟨F, Hk, bp, ρ, S, by
      unfold mItV at q; rw [ea] at q ⊢; exact q⟩
    exact (pi_str h).run pins s σ H R I (rdw z fun _ _ f => f.elim)
  | ok p =>
    obtain ⟨x, ρ1⟩ := p
    have q' : okI c F Hk bp σ R (match itemsOf x with | some xs => .ok (xs, ρ1) | none => .stuck) := by unfold mItV at q; rw [ea] at q; exact q
    have ok : ∀ Q : VK, (∀ Hk' H' v, Ex Hk Hk' → RS c.K F Hk' H' bp σ ρ1 → RV c.K Hk' x v → Q v H') → rdE c a σ H Q := fun Q k => ⟨F, Hk, bp, ρ, S, by rw [ea]; exact k⟩
    cases x with
    | lst xs =>
      refine (pi_list h).run pins s σ H R I (ok _ fun Hk1 H1 v x1 S1 r1 => ?_)
      obtain ⟨p, vs, rfl, h1, s1⟩ := RV.lst.mp r1
      refine ⟨p, rfl, ⟨vs, SqL.of (S1.ex _ _ h1)⟩, ?_⟩
      rw [← hK]
      exact q' Hk1 H1 _ x1 S1 (walks_l (SqL.of h1) s1)
    | tup xs =>
      refine (pi_tup h).run pins s σ H R I (ok _ fun Hk1 H1 v x1 S1 r1 => ?_)
      obtain ⟨p, vs, rfl, h1, s1⟩ := RV.tup.mp r1
      refine ⟨p, rfl, ⟨vs, by rw [← hK]; exact ex_t S1.ex h1⟩, ?_⟩
      rw [← hK]
      exact q' Hk1 H1 _ x1 S1 (walks_t h1 s1)
    | scr ns =>
      refine (pi_list h).run pins s σ H R I (ok _ fun Hk1 H1 v x1 S1 r1 => ?_)
      obtain ⟨p, rfl, h1⟩ := RV.scr.mp r1
      refine ⟨p, rfl, ⟨_, by rw [← hK]; exact ex_l S1.ex h1⟩, ?_⟩
      rw [← hK]
      exact q' Hk1 H1 _ x1 S1 (walks_l h1 (RVs.ints.mpr rfl))
    | str z =>
      refine (pi_str h).run pins s σ H R I (ok _ fun Hk1 H1 v x1 S1 r1 => ?_)
      exact ⟨z, RV.str.mp r1, q' Hk1 H1 _ x1 S1 walks_s⟩
    | _ => exact q'.elim
def inR (i : Int) : Bool := decide (-(2 ^ 62) ≤ i) && decide (i < 2 ^ 62)
theorem inR_iff {i : Int} : inR i = true ↔ -(2 ^ 62) ≤ i ∧ i < 2 ^ 62 := by unfold inR; simp
def mR1 (a : MA) : MI := fun ρ => (a ρ).bind fun xs ρ1 => match xs with
  | [.int j] => if inR j then .ok (rngM 0 1 j.toNat, ρ1) else .stuck
  | _ => .stuck
def rgOk (i j c : Int) : Bool := decide (c ≠ 0) && decide (c.natAbs < 1073741824) && Builtin.Range.small i j c && decide (Builtin.Range.rangeSize i j c = ((Builtin.Range.rangeSize i j c).toNat : Int))
def mR3 (a : MA) : MI := fun ρ => (a ρ).bind fun xs ρ1 => match xs with
  | [.int i, .int j, .int k] => if rgOk i j k then .ok (rngM i k (Builtin.Range.rangeSize i j k).toNat, ρ1) else .stuck
  | _ => .stuck
theorem rvs_int1 {K : PySem.W.Frag} {H : Hp} {i : Int} {vs : List V} (r : RVs K H [.int i] vs) : vs = [.int i] := (RVs.ints (ns := [i])).mp r
theorem rvs_int2 {K : PySem.W.Frag} {H : Hp} {i j : Int} {vs : List V} (r : RVs K H [.int i, .int j] vs) : vs = [.int i, .int j] := (RVs.ints (ns := [i, j])).mp r
theorem rvs_int3 {K : PySem.W.Frag} {H : Hp} {i j k : Int} {vs : List V} (r : RVs K H [.int i, .int j, .int k] vs) : vs = [.int i, .int j, .int k] := (RVs.ints (ns := [i, j, k])).mp r
theorem mi_r1 {a : Expr} {m : MA} {p pos : Pos} (hm : X.mg "range" = none) (ha : PA X [a] (rdA c m)) (hg : Gl X "range" := by rfl) (hs : starEach [a] X.env = [(false, eval a X.env)] := by rfl) : PI X tg (.Call (.Name "range" p) [a] [] pos) (rdI c (mR1 m)) :=
  PIw (pi_range1 hg hm ha hs) fun σ H R ⟨F, Hk, bp, ρ, S, h⟩ => rdAw (bA postI S h) fun vs H1 ⟨Hk1, xs, ρ1, x1, S1, r1, h1⟩ => by
    split at h1
    · rename_i j
      split at h1
      · rename_i hj
        have := inR_iff.mp hj
        exact ⟨j, rvs_int1 r1, this.1, this.2, h1 _ _ _ (Ex.refl _) S1.1 walks_r⟩
      · exact h1.elim
    · exact h1.elim
theorem mi_r3 {a b d : Expr} {m : MA} {p pos : Pos} (hm : X.mg "range" = none) (ha : PA X [a, b, d] (rdA c m)) (hg : Gl X "range" := by rfl)
    (hs : starEach [a, b, d] X.env = (false, eval a X.env) :: starEach [b, d] X.env := by rfl) (hpl : (backTo pos (starEach [b, d] X.env)).any (·.1) = false := by rfl) : PI X tg (.Call (.Name "range" p) [a, b, d] [] pos) (rdI c (mR3 m)) :=
  PIw (pi_range3 hg hm ha hs hpl) fun σ H R ⟨F, Hk, bp, ρ, S, h⟩ => rdAw (bA postI S h) fun vs H1 ⟨Hk1, xs, ρ1, x1, S1, r1, h1⟩ => by
    split at h1
    · rename_i i j k
      split at h1
      · rename_i hj
        unfold rgOk at hj
        simp only [Bool.and_eq_true, decide_eq_true_eq] at hj
        exact ⟨i, j, k, _, rvs_int3 r1, ⟨hj.1.1.1, hj.1.1.2, hj.1.2, hj.2⟩, h1 _ _ _ (Ex.refl _) S1.1 walks_rc⟩
      · exact h1.elim
    · exact h1.elim
def mRev (a : MA) : MI := fun ρ => (a ρ).bind fun xs ρ1 => match xs with
  | [.lst xs] => .ok (xs.reverse, ρ1)
  | _ => .stuck
theorem mi_rev {e : Expr} {m : MA} {p pos : Pos} (hm : X.mg "reversed" = none) (ha : PA X [e] (rdA c m)) (hg : Gl X "reversed" := by rfl) (hK : c.K = X.K := by rfl) (hs : starEach [e] X.env = [(false, eval e X.env)] := by rfl) :
    PI X tg (.Call (.Name "reversed" p) [e] [] pos) (rdI c (mRev m)) := PIw (pi_reversed hg hm ha hs) fun σ H R ⟨F, Hk, bp, ρ, S, h⟩ => rdAw (bA postI S h) fun vs H1 ⟨Hk1, xs, ρ1, x1, S1, r1, h1⟩ => by
    split at h1
    · obtain ⟨v, r, rfl, q1, q2⟩ := RVs.cons.mp r1
      rw [RVs.nil.mp q2]
      obtain ⟨p1, vs1, rfl, g1, s1⟩ := RV.lst.mp q1
      refine ⟨p1, vs1, rfl, SqL.of (S1.1.ex _ _ g1), ?_⟩
      rw [← hK]
      exact h1 _ _ _ (Ex.refl _) S1.1 (walks_v (SqL.of g1) s1)
    · exact h1.elim
def mLoop (g : MG) (b : MS) : List MV → Env → Res (Fl × Env)
  | [], ρ => .ok (.nx, ρ)
  | x :: xs, ρ => match g x ρ with
    | none => .stuck
    | some ρ1 => (b ρ1).bind fun f ρ2 => match f with
      | .nx => mLoop g b xs ρ2
      | .ct => mLoop g b xs ρ2
      | .br => .ok (.nx, ρ2)
      | .rt v => .ok (.rt v, ρ2)
def mFor (i : MI) (g : MG) (b : MS) : MS := fun ρ => (i ρ).bind fun xs ρ1 => mLoop g b xs ρ1
theorem okS.loop {F Hk : Hp} {bp : List (Nat × Addr)} {D : Ends} {g : MG} {b : MS} {xs : List MV} {N : St → Hp → Prop} (hN : ∀ Hk' H' σ' ρ', Ex Hk Hk' → RS c.K F Hk' H' bp σ' ρ' → okS c F Hk' bp D (mLoop g b xs ρ') → N σ' H') {r : Res (Fl × Env)}
    (h : okS c F Hk bp D (r.bind fun f ρ2 => match f with | .nx => mLoop g b xs ρ2 | .ct => mLoop g b xs ρ2 | .br => .ok (.nx, ρ2) | .rt v => .ok (.rt v, ρ2))) : okS c F Hk bp { D with nx := N, ct := N, bk := D.nx } r := by
  cases r with
  | stuck => exact h
  | exc e ρ => exact h
  | ok q =>
    obtain ⟨f, ρ1⟩ := q
    cases f with
    | nx => exact fun Hk1 H1 σ1 x1 S1 => hN Hk1 H1 σ1 ρ1 x1 S1 (okS.mono x1 h)
    | ct => exact fun Hk1 H1 σ1 x1 S1 => hN Hk1 H1 σ1 ρ1 x1 S1 (okS.mono x1 h)
    | br => exact h
    | rt x => exact h
theorem rd_for {it : MI} {g : MG} {b : MS} {D : Ends} {σ : St} {H : Hp} (h : rdS c (mFor it g b) D σ H) : tFor (rdI c it) (rdG c g) (rdS c b) D σ H := by
  obtain ⟨F, Hk, bp, ρ, S, h⟩ := h
  refine ⟨F, Hk, bp, ρ, S, ?_⟩
  have h : okS c F Hk bp D ((it ρ).bind fun xs ρ1 => mLoop g b xs ρ1) := h
  cases e : it ρ with
  | stuck => rw [e] at h; exact h
  | exc x ρ' => rw [e] at h; exact fun Hk1 H1 cls d => h Hk1 H1 σ cls d
  | ok p =>
    obtain ⟨xs, ρ1⟩ := p
    rw [e] at h
    intro Hk1 H1 J x1 S1 wk
    have h : okS c F Hk1 bp D (mLoop g b xs ρ1) := okS.mono x1 h
    refine ⟨fun i m σ' H' => m = xs.length - i ∧ i ≤ xs.length ∧ ∃ Hk' ρ', Ex Hk1 Hk' ∧ At c F Hk' H' bp σ' ρ' ∧ okS c F Hk' bp D (mLoop g b (xs.drop i) ρ'), ⟨xs.length, by simp, Nat.zero_le _, Hk1, ρ1, Ex.refl _, ⟨S1, S.2⟩, h⟩, ?_⟩
    rintro i m σ' H' ⟨rfl, hi, Hk', ρ', x', S', h'⟩
    by_cases hlt : i < xs.length
    · refine .inr ⟨wk.go i H' (x'.trans S'.1.ex) hlt, fun σ2 H2 => ∃ Hk2 ρ2, Ex Hk1 Hk2 ∧ At c F Hk2 H2 bp σ2 ρ2 ∧ okS c F Hk2 bp D (mLoop g b (xs.drop (i + 1)) ρ2), fun σ2 H2 ⟨Hk2, ρ2, x2, S2, h2⟩ => ⟨xs.length - (i + 1), by omega, rfl, hlt, Hk2, ρ2, x2, S2, h2⟩, fun x H2 y => ?_⟩
      obtain ⟨z, ez, hz⟩ := wk.yld i H' x H2 (x'.trans S'.1.ex) hlt y
      have ed : xs.drop i = z :: xs.drop (i + 1) := by
        rw [List.drop_eq_getElem_cons hlt]
        rw [List.getElem?_eq_getElem hlt] at ez
        cases ez; rfl
      rw [ed] at h'
      have fin : ∀ Hk3, Ex Hk' Hk3 → At c F Hk3 H2 bp σ' ρ' → RV c.K Hk3 z x → rdG c g x σ' H2 fun σ2 H2 => rdS c b { D with nx := fun σ2 H2 => ∃ Hk2 ρ2, Ex Hk1 Hk2 ∧ At c F Hk2 H2 bp σ2 ρ2 ∧ okS c F Hk2 bp D (mLoop g b (xs.drop (i + 1)) ρ2), ct := fun σ2 H2 => ∃ Hk2 ρ2, Ex Hk1 Hk2 ∧ At c F Hk2 H2 bp σ2 ρ2 ∧ okS c F Hk2 bp D (mLoop g b (xs.drop (i + 1)) ρ2), bk := D.nx } σ2 H2 := fun Hk3 x3 S3 r3 => by
        refine ⟨F, Hk3, bp, ρ', z, S3, r3, ?_⟩
        have h' := okS.mono x3 h'
        unfold mLoop at h'
        cases eg : g z ρ' with
        | none => rw [eg] at h'; exact h'
        | some ρ3 =>
          rw [eg] at h'
          intro Hk4 H4 σ4 x4 S4
          refine ⟨F, Hk4, bp, ρ3, ⟨S4, S.2⟩, okS.loop (fun Hk5 H5 σ5 ρ5 x5 S5 h5 => ⟨Hk5, ρ5, x'.trans (x3.trans (x4.trans x5)), ⟨S5, S.2⟩, h5⟩) (okS.mono x4 h')⟩
      rcases hz with ⟨rfl, r⟩ | ⟨p, vs, ys, hp, rfl, rfl, rfl, r⟩
      · exact fin Hk' (Ex.refl _) S' (RV.mono x' _ _ r)
      · have xn := Ex.new (o := .tup vs) (S'.1.ex.back hp)
        exact fin _ xn ⟨S'.1.new hp, S.2⟩ (RV.tup.mpr ⟨p, vs, rfl, SqT.of upd_same, r.mono (x'.trans xn)⟩)
    · have e : i = xs.length := by omega
      subst e
      rw [List.drop_length] at h'
      exact .inl ⟨wk.stop H' (x'.trans S'.1.ex), h' _ _ _ (Ex.refl _) S'.1⟩
theorem ms_for {iter : Expr} {body : List Stmt} {it : MI} {g : MG} {b : MS} {pos : Pos} (hp : PassesOwn (model X.prog X.w) X.A X.env X.xe) (hc : X.calm = true) (hi : PI X tg iter (rdI c it)) (hg : PG X tg (rdG c g)) (hb : PSs X body (rdS c b))
    (hs : ∀ x, foldedSetIterable iter X.env x = pure x := by intro _; rfl) : PS X (.For tg iter body [] pos) (rdS c (mFor it g b)) := PSw (ps_for hp hc hi hg hb hs) fun _ _ _ h => rd_for h
end
end Tm
set_option Elab.async false
set_option linter.all false
set_option maxRecDepth 100000
set_option maxHeartbeats 2000000
namespace Tm
open PySem L2
open Evl (Ex ex_rd ex_l ex_t)
theorem okXN {P : Program} {w : World} {K : PySem.W.Frag} {mg : Str → Option Value} {base : Heap} {x qual : Str} {st : Stmt} {f : Addr} {fd : FuncData} {N ps : List Str} {k : Nat} {sp : Sp} (F : Fun K x qual st f fd) (S : FnScope N ps (defScope st)) (hl : ∀ vs H Q E, sp vs H Q E → vs.length = ps.length)
    (b : ∀ (cdv : Value) (A : Around) (outer : List PySem.Env) (s : Shared) (H : Hp) (vs : List V) (Q : VK) (E : XK), Room k (A.deeper (PyProof.Rows.envOfC qual (defScope st) s.heap.objs.size f cdv)) → sp vs H Q E →
      ∃ t, PSs (cxOf (L2N.CX P w) P w K mg base N qual (defScope st) f cdv A outer s H E) (defBody st) t ∧ t { nx := fun _ H' => Q .non H', rt := Q } (L2.start N vs) H) : FnOk P w K mg base (L2N.CX P w) (k + 1) f fd ps sp := by
  obtain ⟨_, _, _, _, _, _, cv, _, _, rfl, e, hc⟩ := F.ex
  exact fn_of e hc S hl fun A outer s H vs Q E hr h => b cv A outer s H vs Q E hr h
abbrev MF := List MV → Res (MV × Env)
def endOf (bs : List Nat) (ρ : Env) : Env := bs.map fun i => (ρ[i]?).join
def mFn (n : Nat) (bs : List Nat) (m : MS) : MF := fun xs => match m (xs.map some ++ List.replicate (n - xs.length) none) with
  | .ok (.rt v, ρ) => .ok (v, endOf bs ρ)
  | .ok (.nx, ρ) => .ok (.non, endOf bs ρ)
  | .exc e ρ => .exc e (endOf bs ρ)
  | _ => .stuck
def okF (K : PySem.W.Frag) (mg : Str → Option Value) (F Hk : Hp) (bσ : St) (Q : VK) (E : XK) : Res (MV × Env) → Prop
  | .ok (v, bs) => ∀ Hk' H' w, Ex Hk Hk' → RS K F Hk' H' [] (bσ ++ [some w]) (bs ++ [some v]) → Q w H'
  | .exc e bs => ∀ Hk' H' cls d, Ex Hk Hk' → RS K F Hk' H' [] bσ bs → ExR K mg Hk' e cls d → E cls d H'
  | .stuck => False
def spF (K : PySem.W.Frag) (mg : Str → Option Value) (np : Nat) (bs : List Nat) (f : MF) : Sp := fun vs H Q E => vs.length = np ∧ ∃ F Hk bp xs, RS K F Hk H bp (vs.map some) (xs.map some) ∧ bp.map (·.1) = bs ∧ okF K mg F Hk (bp.map fun q => some (.ref q.2)) Q E (f xs)
section
variable {K : PySem.W.Frag} {F Hk H : Hp} {bp : List (Nat × Addr)} {σ : St} {ρ : Env}
theorem RS.pick (S : RS K F Hk H bp (σ ++ [some v]) (ρ ++ [some x])) (is : List Nat) (nd : is.Nodup) (hl : ∀ i ∈ is, i < ρ.length) :
    RS K F Hk H [] ((is.map fun i => (σ[i]?).join) ++ [some v]) ((is.map fun i => (ρ[i]?).join) ++ [some x]) := by
  obtain ⟨ow, s⟩ := S.ow
  have hlen : σ.length = ρ.length := by have := S.len; simpa using this
  have old : ∀ {j i : Nat}, is[j]? = some i → i < ρ.length := fun h => hl _ (List.mem_of_getElem? h)
  refine ⟨by simp, S.ex, S.fr, S.frk, ⟨fun j => match is[j]? with | some i => ow i | none => if j = is.length then ow ρ.length else [], ?_⟩, fun q hq => nomatch hq⟩
  have own : ∀ j a, a ∈ (match is[j]? with | some i => ow i | none => if j = is.length then ow ρ.length else []) → (∃ i, is[j]? = some i ∧ a ∈ ow i) ∨ (j = is.length ∧ a ∈ ow ρ.length) := fun j a h => by
    cases e : is[j]? with
    | some i => rw [e] at h; exact .inl ⟨i, rfl, h⟩
    | none =>
      rw [e] at h
      by_cases e2 : j = is.length
      · rw [if_pos e2] at h; exact .inr ⟨e2, h⟩
      · rw [if_neg e2] at h; cases h
  refine ⟨fun j y h => ?_, fun j a h => ?_, fun j h => ?_, fun j k a hjk h1 h2 => ?_⟩
  · rcases app_get h with ⟨e1, e2⟩ | ⟨lt, e2⟩
    · cases e2
      rw [List.length_map] at e1
      subst e1
      obtain ⟨u, hu, ou⟩ := s.s ρ.length x (by simp)
      have ev : u = v := by rw [← hlen] at hu; simpa using hu.symm
      subst ev
      refine ⟨u, by simp, ?_⟩
      have : is[is.length]? = none := by simp
      rw [this, if_pos rfl]
      exact ou
    · rw [List.length_map] at lt
      rw [List.getElem?_map] at e2
      cases ei : is[j]? with
      | none => rw [ei] at e2; cases e2
      | some i =>
        rw [ei] at e2
        have e3 : ρ[i]? = some (some y) := by
          cases er : ρ[i]? with
          | none => rw [Option.map_some, er] at e2; cases e2
          | some o => rw [Option.map_some, er] at e2; cases o with
            | none => cases e2
            | some z => cases e2; rfl
        have li := old ei
        obtain ⟨w, w1, w2⟩ := s.s i y (by rw [List.getElem?_append_left li]; exact e3)
        rw [List.getElem?_append_left (by rw [hlen]; exact li)] at w1
        refine ⟨w, ?_, w2⟩
        rw [List.getElem?_append_left (by simpa using lt), List.getElem?_map, ei, Option.map_some, w1]; rfl
  · rcases own j a h with ⟨i, _, m⟩ | ⟨_, m⟩
    · exact s.f i a m
    · exact s.f _ a m
  · cases e : (match is[j]? with | some i => ow i | none => if j = is.length then ow ρ.length else []) with
    | nil => exact (h e).elim
    | cons a r =>
      rcases own j a (by rw [e]; simp) with ⟨i, ei, _⟩ | ⟨e2, _⟩
      · have := lt_get ei; simp; omega
      · simp; omega
  · rcases own j a h1 with ⟨i, ei, m⟩ | ⟨e1, m⟩ <;> rcases own k a h2 with ⟨i2, ei2, m2⟩ | ⟨e2, m2⟩
    · have ne : i ≠ i2 := fun z => by
        subst z
        obtain ⟨a1, a2⟩ := List.getElem?_eq_some_iff.mp ei
        obtain ⟨b1, b2⟩ := List.getElem?_eq_some_iff.mp ei2
        exact hjk ((List.getElem_inj nd).mp (a2.trans b2.symm))
      exact s.d i i2 a ne m m2
    · exact s.d i ρ.length a (Nat.ne_of_lt (old ei)) m m2
    · exact s.d i2 ρ.length a (Nat.ne_of_lt (old ei2)) m2 m
    · exact hjk (e1.trans e2.symm)
theorem RS.pad (S : RS K F Hk H bp σ ρ) (n : Nat) : RS K F Hk H bp (σ ++ List.replicate n none) (ρ ++ List.replicate n none) := by
  obtain ⟨ow, s⟩ := S.ow
  have g : ∀ {α : Type} {l : List (Option α)} {j : Nat} {y : α}, (l ++ List.replicate n none)[j]? = some (some y) → l[j]? = some (some y) := fun {α l j y} h => by
    by_cases e : j < l.length
    · rw [List.getElem?_append_left e] at h; exact h
    · rw [List.getElem?_append_right (Nat.le_of_not_lt e), List.getElem?_replicate] at h
      split at h <;> cases h
  have g2 : ∀ {α : Type} {l : List (Option α)} {j : Nat} {y : α}, l[j]? = some (some y) → (l ++ List.replicate n none)[j]? = some (some y) := fun {α l j y} h => by
    rw [List.getElem?_append_left (lt_get h)]; exact h
  refine ⟨by simp [S.len], S.ex, S.fr, S.frk, ⟨ow, fun j y h => ?_, s.f, fun j h => ?_, s.d⟩, fun q hq => g2 (S.bor q hq)⟩
  · obtain ⟨v, e, o⟩ := s.s j y (g h)
    exact ⟨v, g2 e, o⟩
  · have := s.w j h; simp; omega
theorem RS.args {xs : List MV} {vs : List V} (ex : Ex Hk H) (fr : Ex F H) (frk : ∀ a o, F a = some o → Hk a = none) (r : RVs K Hk xs vs) : RS K F Hk H [] (vs.map some) (xs.map some) := by
  refine ⟨by simp [r.length], ex, fr, frk, ⟨fun _ => [], fun j y h => ?_, fun j a h => (nomatch h), fun j h => (h rfl).elim, fun j k a _ h => nomatch h⟩, fun q hq => nomatch hq⟩
  rw [List.getElem?_map] at h
  cases e : xs[j]? with
  | none => rw [e] at h; cases h
  | some z =>
    rw [e] at h
    cases h
    obtain ⟨v, e1, rv⟩ := r.get e
    exact ⟨v, by rw [List.getElem?_map, e1]; rfl, rv.ov⟩
end
section
variable {X : Cx} {c : Ct}
def fz : MV → Option MV
  | .own xs => some (.lst xs)
  | .obj _ _ => none
  | x => some x
def mFz (m : ME) : ME := fun ρ => (m ρ).bind fun x ρ1 => match fz x with | some y => .ok (y, ρ1) | none => .stuck
theorem RS.last {K : PySem.W.Frag} {F Hk H : Hp} {bp : List (Nat × Addr)} {σ : St} {ρ : Env} {v : V} {x y : MV} (S : RS K F Hk H bp (σ ++ [some v]) (ρ ++ [some x])) (hb : ∀ q ∈ bp, q.1 < ρ.length) (e : fz x = some y) :
    ∃ Hk', Ex Hk Hk' ∧ RS K F Hk' H bp σ ρ ∧ RV K Hk' y v := by
  have hl : σ.length = ρ.length := by have := S.len; simpa using this
  have pl : x.per = true → y = x → ∃ Hk', Ex Hk Hk' ∧ RS K F Hk' H bp σ ρ ∧ RV K Hk' y v := fun px ey => by
    subst ey
    obtain ⟨w, ew, rw'⟩ := S.get (i := ρ.length) (x := y) (by simp) px
    rw [← hl] at ew
    have : w = v := by simpa using ew.symm
    subst this
    exact ⟨Hk, Ex.refl _, S.drop hb, rw'⟩
  cases x with
  | own xs =>
    cases e
    obtain ⟨p, vs, e1, ex, r, S'⟩ := S.freeze (i := ρ.length) (xs := xs) (by simp)
    rw [← hl] at e1
    have : v = .ref p := by simpa using e1
    subst this
    refine ⟨_, ex, ?_, r⟩
    have z : (ρ ++ [some (MV.own xs)]).set ρ.length (some (.lst xs)) = ρ ++ [some (.lst xs)] := by simp
    rw [z] at S'
    exact S'.drop hb
  | obj C fs => cases e
  | _ => cases e; exact pl rfl rfl
theorem rd_fz {m : ME} {σ : St} {H : Hp} {Q : VK} (h : rdE c (mFz m) σ H Q) : rdO c m σ H Q := by
  obtain ⟨F, Hk, bp, ρ, S, h⟩ := h
  refine ⟨F, Hk, bp, ρ, S, ?_⟩
  have h : okE c F Hk bp σ Q ((m ρ).bind fun x ρ1 => match fz x with | some y => .ok (y, ρ1) | none => .stuck) := h
  cases e : m ρ with
  | stuck => rw [e] at h; exact h
  | exc x ρ' => rw [e] at h; exact h
  | ok p =>
    obtain ⟨x, ρ1⟩ := p
    rw [e] at h
    intro Hk1 H1 v x1 S1
    have h : okE c F Hk bp σ Q (match fz x with | some y => .ok (y, ρ1) | none => .stuck) := h
    have l1 : σ.length = ρ1.length := by have := S1.len; simpa using this
    cases ez : fz x with
    | none => rw [ez] at h; exact h.elim
    | some y =>
      rw [ez] at h
      obtain ⟨Hk2, x2, S2, r2⟩ := S1.last (fun q hq => by rw [← l1]; exact lt_get (S.1.bor q hq)) ez
      exact h _ _ _ (x1.trans x2) S2 r2
theorem me_fz {e : Expr} {m : ME} (h : PE X e (rdO c m)) : PE X e (rdE c (mFz m)) := PEw h fun _ _ _ q => rd_fz q
def mCall (f : MF) (a : MA) : ME := fun ρ => (a ρ).bind fun xs ρ1 => match f xs with
  | .ok (v, _) => .ok (v, ρ1)
  | .exc e _ => .exc e ρ1
  | .stuck => .stuck
theorem call_end {f : MF} {n : Nat} {F Hk H : Hp} {bp : List (Nat × Addr)} {σ : St} {ρ : Env} {xs : List MV} {vs : List V} {Q : VK} {E : XK} (S : At c F Hk H bp σ ρ) (r : RVs c.K Hk xs vs) (hn : xs.length = n)
    (hE : ∀ e, (∀ Hk' H' cls d, Ex Hk Hk' → RS c.K F Hk' H' bp σ ρ → ExR c.K c.mg Hk' e cls d → c.W cls d σ H') → ∀ Hk' H' cls d, Ex Hk Hk' → RS c.K F Hk' H' bp σ ρ → ExR c.K c.mg Hk' e cls d → E cls d H')
    (h : okO c F Hk bp σ Q (match f xs with | .ok (v, _) => .ok (v, ρ) | .exc e _ => .exc e ρ | .stuck => .stuck)) : spF c.K c.mg n [] f vs H Q E := by
  refine ⟨by rw [r.length]; exact hn, ?_⟩
  obtain ⟨ow, s⟩ := S.1.ow
  haveI : ∀ a, Decidable (∃ i, a ∈ ow i) := fun a => Classical.propDecidable _
  have fN : ∃ F' : Hp, (∀ i a, a ∈ ow i → F' a = H a) ∧ (∀ a o, F a = some o → F' a = some o) ∧ ∀ a o, F' a = some o → H a = some o ∧ Hk a = none := by
    refine ⟨fun a => if (∃ i, a ∈ ow i) then H a else F a, fun i a ha => if_pos ⟨i, ha⟩, fun a o ha => ?_, fun a o ha => ?_⟩
    · have : ¬ ∃ i, a ∈ ow i := fun ⟨i, hi⟩ => by have := (s.f i a hi).2.1; rw [ha] at this; cases this
      show (if (∃ i, a ∈ ow i) then H a else F a) = some o
      rw [if_neg this]; exact ha
    · have ha : (if (∃ i, a ∈ ow i) then H a else F a) = some o := ha
      by_cases e : ∃ i, a ∈ ow i
      · rw [if_pos e] at ha
        obtain ⟨i, hi⟩ := e
        exact ⟨ha, (s.f i a hi).1⟩
      · rw [if_neg e] at ha
        exact ⟨S.1.fr a o ha, S.1.frk a o ha⟩
  obtain ⟨F', f1, f2, f3⟩ := fN
  refine ⟨F', Hk, [], xs, RS.args S.1.ex (fun a o ha => (f3 a o ha).1) (fun a o ha => (f3 a o ha).2) r, rfl, ?_⟩
  -- what stands behind the call
  have back : ∀ {Hk' H' : Hp} {bσ : St} {bρ : Env}, Ex Hk Hk' → RS c.K F' Hk' H' [] bσ bρ → RS c.K F Hk' H' bp σ ρ ∧ SL c.K F Hk' H' ow σ ρ := fun {Hk' H' bσ bρ} x S' => by
    have own : ∀ i, ∀ a ∈ ow i, H' a = H a ∧ Hk' a = none := fun i a ha => by
      obtain ⟨g1, g2, o, g3⟩ := s.f i a ha
      have q : F' a = some o := (f1 i a ha).trans g3
      exact ⟨(S'.fr a o q).trans g3.symm, S'.frk a o q⟩
    have sl : SL c.K F Hk' H' ow σ ρ := s.step x own
    exact ⟨⟨S.1.len, S'.ex, fun a o ha => S'.fr a o (f2 a o ha), fun a o ha => S'.frk a o (f2 a o ha), ⟨ow, sl⟩, S.1.bor⟩, sl⟩
  cases ef : f xs with
  | stuck => rw [ef] at h; exact h.elim
  | exc e bs =>
    rw [ef] at h
    intro Hk' H' cls d x S' er
    exact hE e h Hk' H' cls d x (back x S').1 er
  | ok p =>
    obtain ⟨v, bs⟩ := p
    rw [ef] at h
    intro Hk' H' w x S'
    obtain ⟨R1, sl⟩ := back x S'
    refine h Hk' H' w x ?_
    obtain ⟨ow2, s2⟩ := S'.ow
    have bl : bs.length = 0 := by have := S'.len; simpa using this.symm
    have be : bs = [] := List.eq_nil_of_length_eq_zero bl
    subst be
    obtain ⟨w2, e2, o2⟩ := s2.s 0 v rfl
    cases e2
    refine ⟨by simp [S.1.len], R1.ex, R1.fr, R1.frk, ⟨_, sl.push S.1.len o2 (fun a ha => ?_) (fun i a ha hi => ?_)⟩, R1.bor_app _⟩
    · obtain ⟨g1, g2, _⟩ := s2.f 0 a ha
      refine ⟨g1, ?_⟩
      cases e : F a with
      | none => rfl
      | some o => rw [f2 a o e] at g2; cases g2
    · obtain ⟨g1, g2, o, g3⟩ := s2.f 0 a ha
      obtain ⟨_, _, o', q⟩ := s.f i a hi
      rw [f1 i a hi, q] at g2
      cases g2
theorem rd_call {f : MF} {n : Nat} {a : MA} {σ : St} {H : Hp} {Q : VK} (hn : ∀ ρ xs ρ', a ρ = .ok (xs, ρ') → xs.length = n) (h : rdO c (mCall f a) σ H Q) : tCallS (spF c.K c.mg n [] f) (WE c.W) (rdA c a) σ H Q := by
  obtain ⟨F, Hk, bp, ρ, S, h⟩ := h
  refine ⟨F, Hk, bp, ρ, S, ?_⟩
  have h : okO c F Hk bp σ Q ((a ρ).bind fun xs ρ1 => match f xs with | .ok (v, _) => .ok (v, ρ1) | .exc e _ => .exc e ρ1 | .stuck => .stuck) := h
  cases e : a ρ with
  | stuck => rw [e] at h; exact h
  | exc x ρ' => rw [e] at h; exact h
  | ok p =>
    obtain ⟨xs, ρ1⟩ := p
    rw [e] at h
    intro Hk1 H1 vs x1 S1 r1
    exact call_end ⟨S1, S.2⟩ r1 (hn _ _ _ e) (fun e q => q) (okO.mono x1 h)
def Lng (a : MA) (n : Nat) : Prop := ∀ ρ xs ρ', a ρ = .ok (xs, ρ') → xs.length = n
theorem lng_nil : Lng mNil 0 := fun ρ xs ρ' h => by cases h; rfl
theorem lng_cons {a : ME} {b : MA} {n : Nat} (h : Lng b n) : Lng (mCons a b) (n + 1) := fun ρ xs ρ' e => by
  unfold mCons at e
  cases ea : a ρ with
  | stuck => rw [ea] at e; cases e
  | exc x r => rw [ea] at e; cases e
  | ok p =>
    rw [ea] at e
    have e : (b p.2).bind (fun ys ρ2 => Res.ok (p.1 :: ys, ρ2)) = .ok (xs, ρ') := e
    cases eb : b p.2 with
    | stuck => rw [eb] at e; cases e
    | exc x r => rw [eb] at e; cases e
    | ok q =>
      rw [eb] at e
      cases e
      simp [h _ _ _ eb]
variable {k : Nat} {fa : Addr} {fd : FuncData} {ps : List Str} {x : Str} {p pos : Pos} {e : Expr} {es : List Expr} {f : MF} {a : MA} {n : Nat}
theorem mo_call (F : FnOk X.prog X.w X.K X.mg X.base (L2N.CX X.prog X.w) k fa fd ps (spF X.K X.mg n [] f)) (hr : Room k X.A) (hm : X.mg x = some (.ref fa)) (hk : PySem.W.keepIn X.K (.ref fa) = true) (hb : Binds X.K fd ps []) (tk : L2N.Takes X c.W)
    (ha : PA X (e :: es) (rdA c a)) (hn : Lng a n) (hg : Gl X x := by rfl) (hK : c.K = X.K := by rfl) (hM : c.mg = X.mg := by rfl) (hdb : (x == ("__debug__" : Str)) = false := by decide) (he : starEach (e :: es) X.env = (false, eval e X.env) :: starEach es X.env := by rfl)
    (hpl : (backTo pos (starEach es X.env)).any (·.1) = false := by rfl) : PE X (.Call (.Name x p) (e :: es) [] pos) (rdO c (mCall f a)) :=
  PEw (pe_callS (E := WE c.W) F hr hg hm hk hb (fun σ => L2N.passAt tk σ) ha hdb he hpl) fun σ H Q h => by
    have := rd_call hn h
    rw [hK, hM] at this
    exact this
def mCall0 (f : MF) (a : MA) : ME := fun ρ => (a ρ).bind fun xs ρ1 => match f xs with
  | .ok (v, _) => .ok (v, ρ1)
  | _ => .stuck
theorem rd_call0 {f : MF} {n : Nat} {a : MA} {σ : St} {H : Hp} {Q : VK} (hn : Lng a n) (h : rdO c (mCall0 f a) σ H Q) : tCall (spF c.K c.mg n [] f) [] (fun _ _ _ => False) (rdA c a) σ H Q := by
  obtain ⟨F, Hk, bp, ρ, S, h⟩ := h
  refine ⟨F, Hk, bp, ρ, S, ?_⟩
  have h : okO c F Hk bp σ Q ((a ρ).bind fun xs ρ1 => match f xs with | .ok (v, _) => .ok (v, ρ1) | _ => .stuck) := h
  cases e : a ρ with
  | stuck => rw [e] at h; exact h
  | exc x ρ' => rw [e] at h; exact h
  | ok p =>
    obtain ⟨xs, ρ1⟩ := p
    rw [e] at h
    intro Hk1 H1 vs x1 S1 r1
    rw [List.append_nil]
    have h : okO c F Hk bp σ Q (match f xs with | .ok (v, _) => .ok (v, ρ1) | _ => .stuck) := h
    cases ef : f xs with
    | stuck => rw [ef] at h; exact h.elim
    | exc e bs => rw [ef] at h; exact h.elim
    | ok q =>
      rw [ef] at h
      refine call_end (f := f) (c := ⟨c.K, c.mg, fun _ _ _ _ => False, c.bs, c.J, c.Jm⟩) ⟨S1, S.2⟩ r1 (hn _ _ _ e) (fun e q => q) ?_
      rw [ef]
      exact fun Hk2 H2 w x2 => h Hk2 H2 w (x1.trans x2)
theorem passes0 {P : Program} {w : World} {X : Cx} : Passes (L2N.CX P w) X fun _ _ _ => False := fun _ _ _ _ _ _ _ ⟨_, _, _, _, _, _, _, _, _, _, _, _, f⟩ => f.elim
theorem mo_call0 (F : FnOk X.prog X.w X.K X.mg X.base (L2N.CX X.prog X.w) k fa fd ps (spF X.K X.mg n [] f)) (hr : Room k X.A) (hm : X.mg x = some (.ref fa)) (hk : PySem.W.keepIn X.K (.ref fa) = true) (hb : Binds X.K fd ps [])
    (ha : PA X (e :: es) (rdA c a)) (hn : Lng a n) (hg : Gl X x := by rfl) (hK : c.K = X.K := by rfl) (hM : c.mg = X.mg := by rfl) (hdb : (x == ("__debug__" : Str)) = false := by decide) (he : starEach (e :: es) X.env = (false, eval e X.env) :: starEach es X.env := by rfl)
    (hpl : (backTo pos (starEach es X.env)).any (·.1) = false := by rfl) : PE X (.Call (.Name x p) (e :: es) [] pos) (rdO c (mCall0 f a)) :=
  PEw (pe_call F hr hg hm hk hb .nil passes0 ha hdb he hpl) fun σ H Q h => by
    have := rd_call0 hn h
    rw [hK, hM] at this
    exact this
end
section
variable {P : Program} {w : World} {K : PySem.W.Frag} {mg : Str → Option Value} {base : Heap}
theorem start_eq {N : List Str} {vs : List V} {xs : List MV} (h : vs.length = xs.length) : L2.start N vs = vs.map some ++ List.replicate (N.length - xs.length) none := by unfold L2.start; rw [h]
theorem fn_ok {x qual : Str} {st : Stmt} {f : Addr} {fd : FuncData} {N ps : List Str} {k : Nat} {bs : List Nat} {m : MS} (F : Fun K x qual st f fd) (S : FnScope N ps (defScope st)) (nd : bs.Nodup) (hbs : ∀ i ∈ bs, i < ps.length)
    (hbody : ∀ (cdv : Value) (A : Around) (outer : List PySem.Env) (s : Shared) (H : Hp) (E : XK), Room k (A.deeper (PyProof.Rows.envOfC qual (defScope st) s.heap.objs.size f cdv)) →
      PSs (cxOf (L2N.CX P w) P w K mg base N qual (defScope st) f cdv A outer s H E) (defBody st) (rdS ⟨K, mg, fun cls d _ H => E cls d H, bs, fun _ _ => True, fun _ _ _ _ _ => trivial⟩ m)) :
    FnOk P w K mg base (L2N.CX P w) (k + 1) f fd ps (spF K mg ps.length bs (mFn N.length bs m)) := by
  refine okXN F S (fun vs H Q E h => h.1) (fun cdv A outer s H vs Q E hr h => ⟨_, hbody cdv A outer s H E hr, ?_⟩)
  obtain ⟨hl, F', Hk, bp, xs, R, eb, h⟩ := h
  have el : vs.length = xs.length := by have := R.len; simpa using this
  rw [start_eq el]
  refine ⟨F', Hk, bp, _, ⟨R.pad _, eb, trivial⟩, ?_⟩
  have bor : ∀ {σ' : St} {Hk' H' : Hp} {ρ' : Env}, RS K F' Hk' H' bp σ' ρ' → bs.map (fun i => (σ'[i]?).join) = bp.map (fun q => some (.ref q.2)) := fun {σ' Hk' H' ρ'} S' => by
    rw [← eb, List.map_map]
    refine List.map_congr_left fun q hq => ?_
    show (σ'[q.1]?).join = _
    rw [S'.bor q hq]; rfl
  have bl : ∀ {σ' : St} {Hk' H' : Hp} {ρ' : Env}, RS K F' Hk' H' bp σ' ρ' → ∀ i ∈ bs, i < ρ'.length := fun {σ' Hk' H' ρ'} S' i hi => by
    rw [← eb] at hi
    obtain ⟨q, hq, rfl⟩ := List.mem_map.mp hi
    rw [← S'.len]; exact lt_get (S'.bor q hq)
  unfold mFn at h
  cases em : m (xs.map some ++ List.replicate (N.length - xs.length) none) with
  | stuck => rw [em] at h; exact h.elim
  | exc e ρ' =>
    rw [em] at h
    intro Hk' H' σ' cls d x S' er
    refine h Hk' H' cls d x ?_ er
    have z := ((S'.push (x := .non) (v := .non) (RV.non.mpr rfl)).pick bs nd (bl S')).drop (fun _ hq => nomatch hq)
    rw [bor S'] at z
    exact z
  | ok p =>
    obtain ⟨fl, ρ'⟩ := p
    rw [em] at h
    have ret : ∀ {Hk' H' : Hp} {σ' : St} {u : V} {v : MV}, okF K mg F' Hk (bp.map fun q => some (.ref q.2)) Q E (.ok (v, endOf bs ρ')) → Ex Hk Hk' → RS K F' Hk' H' bp (σ' ++ [some u]) (ρ' ++ [some v]) → (∀ q ∈ bp, q.1 < ρ'.length) → Q u H' := fun {Hk' H' σ' u v} h x S' hq => by
      refine h Hk' H' u x ?_
      have z := S'.pick bs nd (fun i hi => by
        rw [← eb] at hi
        obtain ⟨q, hq', rfl⟩ := List.mem_map.mp hi
        exact hq q hq')
      have l1 : σ'.length = ρ'.length := by have := S'.len; simpa using this
      have e2 : bs.map (fun i => (σ'[i]?).join) = bp.map (fun q => some (.ref q.2)) := by
        rw [← eb, List.map_map]
        refine List.map_congr_left fun q hq' => ?_
        show (σ'[q.1]?).join = _
        have := S'.bor q hq'
        rw [List.getElem?_append_left (by rw [l1]; exact hq q hq')] at this
        rw [this]; rfl
      rw [e2] at z
      exact z
    cases fl with
    | nx => exact fun Hk' H' σ' x S' => ret h x (S'.push (x := .non) (v := .non) (RV.non.mpr rfl)) (fun q hq => by rw [← S'.len]; exact lt_get (S'.bor q hq))
    | br => exact h.elim
    | ct => exact h.elim
    | rt v =>
      intro Hk' H' σ' u x lq S'
      have l1 : σ'.length = ρ'.length := by have := S'.len; simpa using this
      exact ret h x S' fun q hq => by rw [← l1]; exact lq q hq
end
end Tm
set_option Elab.async false
set_option linter.all false
set_option maxRecDepth 100000
set_option maxHeartbeats 2000000
namespace Tm
open PySem L2
open Evl (Ex ex_rd ex_l ex_t)
def CallS (K : PySem.W.Frag) (f : List MV → Option MV) (r : List V → Hp → VK → Prop) : Prop := ∀ (xs : List MV) (z : MV) (vs : List V) (Hk H : Hp) (Q : VK), f xs = some z → Ex Hk H → RVs K Hk xs vs → (∀ u, RV K Hk z u → Q u H) →
  (∀ p o, H p = none → RV K (upd Hk p o) z (.ref p) → Q (.ref p) (upd H p o)) → r vs H Q
def mBlt (f : List MV → Option MV) (a : MA) : ME := fun ρ => (a ρ).bind fun xs ρ1 => match f xs with | some z => .ok (z, ρ1) | none => .stuck
section
variable {X : Cx} {c : Ct} {x : Str} {p pos : Pos} {e : Expr} {es : List Expr} {a : MA} {id T : String} {f : List MV → Option MV} {r : List V → Hp → VK → Prop}
theorem rd_blt (o : CallS c.K f r) {σ : St} {H : Hp} {Q : VK} (h : rdE c (mBlt f a) σ H Q) : tCB r (rdA c a) σ H Q := by
  obtain ⟨F, Hk, bp, ρ, S, h⟩ := h
  refine rdAw (bA postE S h) fun vs H1 ⟨Hk1, xs, ρ1, x1, S1, r1, h1⟩ => ?_
  have h1 : okE c F Hk1 bp σ Q (match f xs with | some z => .ok (z, ρ1) | none => .stuck) := h1
  cases ef : f xs with
  | none => rw [ef] at h1; exact h1.elim
  | some z =>
    rw [ef] at h1
    exact o xs z vs Hk1 H1 Q ef S1.1.ex r1 (fun u ru => h1 _ _ u (Ex.refl _) S1.1 ru) fun p ob hp ru => h1 _ _ _ (Ex.new (S1.1.ex.back hp)) (S1.1.new hp) ru
theorem me_blt (hc : CallR X (.builtin id) r) (o : CallS c.K f r) (hm : X.mg x = none) (hv : bootBuiltins x = some (.builtin id)) (ha : PA X (e :: es) (rdA c a)) (hg : Gl X x := by rfl) (hn : x ≠ "__name__" := by decide) (hdb : (x == ("__debug__" : Str)) = false := by decide)
    (he : starEach (e :: es) X.env = (false, eval e X.env) :: starEach es X.env := by rfl) (hpl : (backTo pos (starEach es X.env)).any (·.1) = false := by rfl) : PE X (.Call (.Name x p) (e :: es) [] pos) (rdE c (mBlt f a)) :=
  PEw (pe_callB hc hg hm hv ha hn hdb he hpl) fun _ _ _ h => rd_blt o h
theorem me_ty (hc : CallR X (.type T) r) (o : CallS c.K f r) (hm : X.mg x = none) (hv : bootBuiltins x = some (.type T)) (ha : PA X (e :: es) (rdA c a)) (hg : Gl X x := by rfl) (hn : x ≠ "__name__" := by decide) (hdb : (x == ("__debug__" : Str)) = false := by decide)
    (he : starEach (e :: es) X.env = (false, eval e X.env) :: starEach es X.env := by rfl) (hpl : (backTo pos (starEach es X.env)).any (·.1) = false := by rfl) : PE X (.Call (.Name x p) (e :: es) [] pos) (rdE c (mBlt f a)) :=
  PEw (pe_callTy hc hg hm hv ha hn hdb he hpl) fun _ _ _ h => rd_blt o h
theorem me_glob {v : MV} {w : V} {u : Value} (hm : X.mg x = some u) (rv : RelV w u) (r : ∀ H, RV c.K H v w) (hg : Gl X x := by rfl) (hd : (x == ("__debug__" : Str)) = false := by decide) : PE X (.Name x pos) (rdE c (mC v)) :=
  PEw (pe_glob hg hm rv hd) fun _ _ _ h => rd_c r h
theorem me_bltn {w : V} {u : Value} (hm : X.mg x = none) (hv : bootBuiltins x = some u) (rv : RelV w u) (hg : Gl X x := by rfl) (hn : x ≠ "__name__" := by decide) (hd : (x == ("__debug__" : Str)) = false := by decide) : PE X (.Name x pos) (rdE c (mC (.raw w))) :=
  PEw (pe_bltn hg hm hv rv hn hd) fun _ _ _ h => rd_c (fun _ => RV.raw.mpr rfl) h
end
section
variable {K : PySem.W.Frag}
theorem rvs1 {H : Hp} {x : MV} {vs : List V} (r : RVs K H [x] vs) : ∃ v, vs = [v] ∧ RV K H x v := by
  obtain ⟨v, r', rfl, q1, q2⟩ := RVs.cons.mp r
  rw [RVs.nil.mp q2]
  exact ⟨v, rfl, q1⟩
theorem rvs2' {H : Hp} {x y : MV} {vs : List V} (r : RVs K H [x, y] vs) : ∃ v w, vs = [v, w] ∧ RV K H x v ∧ RV K H y w := by
  obtain ⟨v, r', rfl, q1, q2⟩ := RVs.cons.mp r
  obtain ⟨w, rfl, q3⟩ := rvs1 q2
  exact ⟨v, w, rfl, q1, q3⟩
def bLen : List MV → Option MV
  | [.lst xs] => some (.int xs.length)
  | [.tup xs] => some (.int xs.length)
  | [.scr ns] => some (.int ns.length)
  | [.str z] => if szOk z.length then some (.int z.length) else none
  | _ => none
def rLenM (K : PySem.W.Frag) : List V → Hp → VK → Prop := fun xs H Q => (∃ p ys, xs = [.ref p] ∧ (SqL K H p ys ∨ SqT K H p ys) ∧ Q (.int ys.length) H) ∨ ∃ z, xs = [.str z] ∧ z.length ≤ sizeLine ∧ Q (.int z.length) H
theorem cr_lenM {X : Cx} : CallR X (.builtin "len") (rLenM X.K) := CallR.or call_len_seq call_len_str
theorem cs_len : CallS K bLen (rLenM K) := by
  intro xs z vs Hk H Q e ex r q qn
  unfold bLen at e
  split at e
  · cases e
    obtain ⟨v, rfl, rv⟩ := rvs1 r
    obtain ⟨p1, ws, rfl, h1, s1⟩ := RV.lst.mp rv
    exact .inl ⟨p1, ws, rfl, .inl (SqL.of (ex _ _ h1)), by rw [s1.length]; exact q _ (RV.int.mpr rfl)⟩
  · cases e
    obtain ⟨v, rfl, rv⟩ := rvs1 r
    obtain ⟨p1, ws, rfl, h1, s1⟩ := RV.tup.mp rv
    exact .inl ⟨p1, ws, rfl, .inr (ex_t ex h1), by rw [s1.length]; exact q _ (RV.int.mpr rfl)⟩
  · cases e
    obtain ⟨v, rfl, rv⟩ := rvs1 r
    obtain ⟨p1, rfl, h1⟩ := RV.scr.mp rv
    exact .inl ⟨p1, _, rfl, .inl (ex_l ex h1), by rw [List.length_map]; exact q _ (RV.int.mpr rfl)⟩
  · split at e
    · rename_i hz
      cases e
      obtain ⟨v, rfl, rv⟩ := rvs1 r
      exact .inr ⟨_, by rw [RV.str.mp rv], szOk_iff.mp hz, q _ (RV.int.mpr rfl)⟩
    · cases e
  · cases e
def bAbs : List MV → Option MV
  | [.int i] => some (.int (if i < 0 then -i else i))
  | _ => none
theorem cs_abs : CallS K bAbs (fun xs H Q => ∃ i, xs = [.int i] ∧ Q (.int (if i < 0 then -i else i)) H) := by
  intro xs z vs Hk H Q e ex r q qn
  unfold bAbs at e
  split at e
  · cases e
    exact ⟨_, rvs_int1 r, q _ (RV.int.mpr rfl)⟩
  · cases e
def bMax : List MV → Option MV
  | [.int i, .int j] => some (.int (if j > i then j else i))
  | _ => none
theorem cs_max : CallS K bMax (fun xs H Q => ∃ i j, xs = [.int i, .int j] ∧ Q (.int (if j > i then j else i)) H) := by
  intro xs z vs Hk H Q e ex r q qn
  unfold bMax at e
  split at e
  · cases e
    exact ⟨_, _, rvs_int2 r, q _ (RV.int.mpr rfl)⟩
  · cases e
def bInt : List MV → Option MV
  | [.int i] => some (.int i)
  | [.bl k] => some (.int (if k then 1 else 0))
  | [.str s] => if decide (s.length ≤ 640) then (PySem.intText? s).map .int else none
  | _ => none
def rIntM : List V → Hp → VK → Prop := fun xs H Q => ((∃ i, xs = [.int i] ∧ Q (.int i) H) ∨ ∃ k, xs = [.bl k] ∧ Q (.int (if k then 1 else 0)) H) ∨ ∃ a n, xs = [.str a] ∧ PySem.intText? a = some n ∧ a.length ≤ 640 ∧ Q (.int n) H
theorem cr_intM {X : Cx} : CallR X (.type "int") rIntM := CallR.or call_int1 call_int_str
theorem cs_int : CallS K bInt rIntM := by
  intro xs z vs Hk H Q e ex r q qn
  unfold bInt at e
  split at e
  · cases e
    exact .inl (.inl ⟨_, rvs_int1 r, q _ (RV.int.mpr rfl)⟩)
  · cases e
    obtain ⟨v, rfl, rv⟩ := rvs1 r
    exact .inl (.inr ⟨_, by rw [RV.bl.mp rv], q _ (RV.int.mpr rfl)⟩)
  · split at e
    · rename_i s hs
      cases en : PySem.intText? s with
      | none => rw [en] at e; cases e
      | some n =>
        rw [en] at e
        cases e
        obtain ⟨v, rfl, rv⟩ := rvs1 r
        exact .inr ⟨s, n, by rw [RV.str.mp rv], en, of_decide_eq_true hs, q _ (RV.int.mpr rfl)⟩
    · cases e
  · cases e
def bTuple : List MV → Option MV
  | [.lst xs] => some (.tup xs)
  | [.tup xs] => some (.tup xs)
  | _ => none
theorem cs_tuple : CallS K bTuple (fun xs H Q => ∃ p ys, xs = [.ref p] ∧ ((SqL K H p ys ∧ ∀ l, H l = none → Q (.ref l) (upd H l (.tup ys))) ∨ (SqT K H p ys ∧ Q (.ref p) H))) := by
  intro xs z vs Hk H Q e ex r q qn
  unfold bTuple at e
  split at e
  · cases e
    obtain ⟨v, rfl, rv⟩ := rvs1 r
    obtain ⟨p1, ws, rfl, h1, s1⟩ := RV.lst.mp rv
    exact ⟨p1, ws, rfl, .inl ⟨SqL.of (ex _ _ h1), fun l hl => qn l _ hl (RV.tup.mpr ⟨l, ws, rfl, SqT.of upd_same, s1.mono (Ex.new (ex.back hl))⟩)⟩⟩
  · cases e
    obtain ⟨v, rfl, rv⟩ := rvs1 r
    obtain ⟨p1, ws, e1, h1, s1⟩ := RV.tup.mp rv
    subst e1
    exact ⟨p1, ws, rfl, .inr ⟨ex_t ex h1, q _ rv⟩⟩
  · cases e
def bList : List MV → Option MV
  | [.lst xs] => some (.lst xs)
  | [.tup xs] => some (.lst xs)
  | [.scr ns] => some (.lst (ns.map .int))
  | _ => none
def rListM (K : PySem.W.Frag) : List V → Hp → VK → Prop := fun xs H Q => ∃ p ys, xs = [.ref p] ∧ (SqL K H p ys ∨ SqT K H p ys) ∧ ∀ l, H l = none → Q (.ref l) (upd H l (.lst ys))
theorem list_src {Hk H : Hp} {xs : List MV} {ys : List MV} {vs : List V} (e : bList xs = some (.lst ys)) (ex : Ex Hk H) (r : RVs K Hk xs vs) : ∃ p ws, vs = [.ref p] ∧ (SqL K H p ws ∨ SqT K H p ws) ∧ RVs K Hk ys ws := by
  unfold bList at e
  split at e
  · cases e
    obtain ⟨v, rfl, rv⟩ := rvs1 r
    obtain ⟨p1, ws, rfl, h1, s1⟩ := RV.lst.mp rv
    exact ⟨p1, ws, rfl, .inl (SqL.of (ex _ _ h1)), s1⟩
  · cases e
    obtain ⟨v, rfl, rv⟩ := rvs1 r
    obtain ⟨p1, ws, rfl, h1, s1⟩ := RV.tup.mp rv
    exact ⟨p1, ws, rfl, .inr (ex_t ex h1), s1⟩
  · cases e
    obtain ⟨v, rfl, rv⟩ := rvs1 r
    obtain ⟨p1, rfl, h1⟩ := RV.scr.mp rv
    exact ⟨p1, _, rfl, .inl (ex_l ex h1), RVs.ints.mpr rfl⟩
  · cases e
theorem bList_lst {xs : List MV} {z : MV} (e : bList xs = some z) : ∃ ys, z = .lst ys := by
  unfold bList at e
  split at e <;> first | (cases e; exact ⟨_, rfl⟩) | cases e
theorem cs_list : CallS K bList (rListM K) := by
  intro xs z vs Hk H Q e ex r q qn
  obtain ⟨ys, rfl⟩ := bList_lst e
  obtain ⟨p, ws, rfl, h, s⟩ := list_src e ex r
  exact ⟨p, ws, rfl, h, fun l hl => qn l _ hl (RV.lst.mpr ⟨l, ws, rfl, upd_same, s.mono (Ex.new (ex.back hl))⟩)⟩
def blsOf : List MV → Option (List Bool)
  | [] => some []
  | .bl b :: r => (blsOf r).map (b :: ·)
  | _ => none
theorem bls_rv {H : Hp} : ∀ {xs : List MV} {bs : List Bool} {vs : List V}, blsOf xs = some bs → RVs K H xs vs → vs = bs.map V.bl
  | [], bs, vs, e, r => by cases e; rw [RVs.nil.mp r]; rfl
  | .bl b :: r', bs, vs, e, r => by
    unfold blsOf at e
    cases h : blsOf r' with
    | none => rw [h] at e; cases e
    | some cs =>
      rw [h] at e
      cases e
      obtain ⟨v, us, rfl, q1, q2⟩ := RVs.cons.mp r
      rw [RV.bl.mp q1, bls_rv h q2]; rfl
  | .non :: _, _, _, e, _ => by cases e
  | .int _ :: _, _, _, e, _ => by cases e
  | .str _ :: _, _, _, e, _ => by cases e
  | .tup _ :: _, _, _, e, _ => by cases e
  | .lst _ :: _, _, _, e, _ => by cases e
  | .own _ :: _, _, _, e, _ => by cases e
  | .raw _ :: _, _, _, e, _ => by cases e
  | .scr _ :: _, _, _, e, _ => by cases e
  | .fnc _ :: _, _, _, e, _ => by cases e
  | .obj _ _ :: _, _, _, e, _ => by cases e
def bAll : List MV → Option MV
  | [.lst xs] => (blsOf xs).map fun bs => .bl (bs.all id)
  | _ => none
theorem cs_all : CallS K bAll (rAll K) := by
  intro xs z vs Hk H Q e ex r q qn
  unfold bAll at e
  split at e
  · rename_i ys
    cases h : blsOf ys with
    | none => rw [h] at e; cases e
    | some bs =>
      rw [h] at e
      cases e
      obtain ⟨v, rfl, rv⟩ := rvs1 r
      obtain ⟨p1, ws, rfl, h1, s1⟩ := RV.lst.mp rv
      have ew := bls_rv h s1
      subst ew
      exact ⟨p1, bs, rfl, SqL.of (ex _ _ h1), q _ (RV.bl.mpr rfl)⟩
  · cases e
inductive Kd where
  | non | bl | int | str | tup | lst
  deriving DecidableEq
def Kd.name : Kd → String
  | .non => "NoneType" | .bl => "bool" | .int => "int" | .str => "str" | .tup => "tuple" | .lst => "list"
def MV.kd : MV → Option Kd
  | .non => some .non | .bl _ => some .bl | .int _ => some .int | .str _ => some .str | .tup _ => some .tup | .lst _ => some .lst
  | _ => none
def kdOf : String → Option Kd
  | "bool" => some .bl | "int" => some .int | "str" => some .str | "tuple" => some .tup | "list" => some .lst
  | _ => none
def Kd.isa (a b : Kd) : Bool := decide (a = b) || (decide (a = .bl) && decide (b = .int))
theorem kit_kd (a b : Kd) (h : b ≠ .non) : kitB a.name b.name = some (a.isa b) := by
  cases a <;> cases b <;> first | exact (h rfl).elim | decide +kernel
def bIsi : List MV → Option MV
  | [x, .raw (.ty T)] => match x.kd, kdOf T with
    | some a, some b => some (.bl (a.isa b))
    | _, _ => none
  | _ => none
theorem kdOf_name {T : String} {b : Kd} (h : kdOf T = some b) : T = b.name ∧ b ≠ .non := by
  unfold kdOf at h
  split at h <;> first | (cases h; exact ⟨rfl, by decide⟩) | cases h
theorem ty_of {Hk H : Hp} {x : MV} {v : V} {a : Kd} (ex : Ex Hk H) (r : RV K Hk x v) (h : x.kd = some a) : TyX K H v (.type a.name) := by
  cases x with
  | non => cases h; rw [RV.non.mp r]; exact .base .non
  | bl b => cases h; rw [RV.bl.mp r]; exact .base (.bl b)
  | int b => cases h; rw [RV.int.mp r]; exact .base (.int b)
  | str b => cases h; rw [RV.str.mp r]; exact .base (.str b)
  | tup xs =>
    cases h
    obtain ⟨p, vs, rfl, h1, _⟩ := RV.tup.mp r
    rcases ex_t ex h1 with (h1 | ⟨o, h1⟩) | ⟨o, its, n, h1, h2, _⟩
    · exact .base (.tup h1)
    · exact .fTuple h1
    · exact .kTuple h1 h2
  | lst xs =>
    cases h
    obtain ⟨p, vs, rfl, h1, _⟩ := RV.lst.mp r
    exact .base (.lst (ex _ _ h1))
  | _ => cases h
theorem cs_isi : CallS K bIsi (rIsi K) := by
  intro xs z vs Hk H Q e ex r q qn
  unfold bIsi at e
  split at e
  · rename_i x T
    split at e
    · rename_i a b e1 e2
      cases e
      obtain ⟨v, w, rfl, r1, r2⟩ := rvs2' r
      obtain ⟨et, nb⟩ := kdOf_name e2
      refine ⟨v, w, _, .type T, _, rfl, ?_, ty_of ex r1 e1, ?_, q _ (RV.bl.mpr rfl)⟩
      · rw [RV.raw.mp r2]; exact .ty T
      · subst et; exact kit_ty (kit_kd a b nb)
    · cases e
  · cases e
end
section
variable {X : Cx} {c : Ct} {p pos : Pos} {e e2 : Expr} {es : List Expr} {a : MA}
theorem mb_len (hm : X.mg "len" = none) (ha : PA X [e] (rdA c a)) (hK : c.K = X.K := by rfl) (hg : Gl X "len" := by rfl) (he : starEach [e] X.env = (false, eval e X.env) :: starEach [] X.env := by rfl) (hpl : (backTo pos (starEach [] X.env)).any (·.1) = false := by rfl) : PE X (.Call (.Name "len" p) [e] [] pos) (rdE c (mBlt bLen a)) :=
  me_blt cr_lenM (by rw [← hK]; exact cs_len) hm PySem.boot_len ha hg (he := he) (hpl := hpl)
theorem mb_abs (hm : X.mg "abs" = none) (ha : PA X [e] (rdA c a)) (hg : Gl X "abs" := by rfl) (he : starEach [e] X.env = (false, eval e X.env) :: starEach [] X.env := by rfl) (hpl : (backTo pos (starEach [] X.env)).any (·.1) = false := by rfl) : PE X (.Call (.Name "abs" p) [e] [] pos) (rdE c (mBlt bAbs a)) :=
  me_blt call_abs cs_abs hm (by decide +kernel) ha hg (he := he) (hpl := hpl)
theorem mb_max (hc : X.calm = true) (hm : X.mg "max" = none) (ha : PA X [e, e2] (rdA c a)) (hg : Gl X "max" := by rfl) (he : starEach [e, e2] X.env = (false, eval e X.env) :: starEach [e2] X.env := by rfl) (hpl : (backTo pos (starEach [e2] X.env)).any (·.1) = false := by rfl) : PE X (.Call (.Name "max" p) [e, e2] [] pos) (rdE c (mBlt bMax a)) :=
  me_blt (call_max2 hc) cs_max hm (by decide +kernel) ha hg (he := he) (hpl := hpl)
theorem mb_int (hm : X.mg "int" = none) (ha : PA X [e] (rdA c a)) (hg : Gl X "int" := by rfl) (he : starEach [e] X.env = (false, eval e X.env) :: starEach [] X.env := by rfl) (hpl : (backTo pos (starEach [] X.env)).any (·.1) = false := by rfl) : PE X (.Call (.Name "int" p) [e] [] pos) (rdE c (mBlt bInt a)) :=
  me_ty cr_intM cs_int hm (by decide +kernel) ha hg (he := he) (hpl := hpl)
theorem mb_tuple (hm : X.mg "tuple" = none) (ha : PA X [e] (rdA c a)) (hK : c.K = X.K := by rfl) (hg : Gl X "tuple" := by rfl) (he : starEach [e] X.env = (false, eval e X.env) :: starEach [] X.env := by rfl) (hpl : (backTo pos (starEach [] X.env)).any (·.1) = false := by rfl) : PE X (.Call (.Name "tuple" p) [e] [] pos) (rdE c (mBlt bTuple a)) :=
  me_ty call_tuple_of (by rw [← hK]; exact cs_tuple) hm (by decide +kernel) ha hg (he := he) (hpl := hpl)
theorem mb_list (hm : X.mg "list" = none) (ha : PA X [e] (rdA c a)) (hK : c.K = X.K := by rfl) (hg : Gl X "list" := by rfl) (he : starEach [e] X.env = (false, eval e X.env) :: starEach [] X.env := by rfl) (hpl : (backTo pos (starEach [] X.env)).any (·.1) = false := by rfl) : PE X (.Call (.Name "list" p) [e] [] pos) (rdE c (mBlt bList a)) :=
  me_ty (r := rListM X.K) call_list_of (by rw [← hK]; exact cs_list) hm (by decide +kernel) ha hg (he := he) (hpl := hpl)
theorem mb_all (hc : X.calm = true) (hm : X.mg "all" = none) (ha : PA X [e] (rdA c a)) (hK : c.K = X.K := by rfl) (hg : Gl X "all" := by rfl) (he : starEach [e] X.env = (false, eval e X.env) :: starEach [] X.env := by rfl) (hpl : (backTo pos (starEach [] X.env)).any (·.1) = false := by rfl) : PE X (.Call (.Name "all" p) [e] [] pos) (rdE c (mBlt bAll a)) :=
  me_blt (cr_all hc) (by rw [← hK]; exact cs_all) hm (by decide +kernel) ha hg (he := he) (hpl := hpl)
theorem mb_isi (hm : X.mg "isinstance" = none) (ha : PA X [e, e2] (rdA c a)) (hK : c.K = X.K := by rfl) (hg : Gl X "isinstance" := by rfl) (he : starEach [e, e2] X.env = (false, eval e X.env) :: starEach [e2] X.env := by rfl) (hpl : (backTo pos (starEach [e2] X.env)).any (·.1) = false := by rfl) : PE X (.Call (.Name "isinstance" p) [e, e2] [] pos) (rdE c (mBlt bIsi a)) :=
  me_blt call_isi (by rw [← hK]; exact cs_isi) hm (by decide +kernel) ha hg (he := he) (hpl := hpl)
end
end Tm
set_option Elab.async false
set_option linter.all false
set_option maxRecDepth 100000
set_option maxHeartbeats 2000000
namespace Tm
open PySem L2
open Evl (Ex ex_rd ex_l ex_t)
section
variable {X : Cx} {c : Ct} {p pos apos cpos : Pos} {e e2 : Expr} {es : List Expr} {a b : ME} {m : MA} {x : Str} {i : Nat}
def isOwn (ρ : Env) (i : Nat) : Bool := match ρ[i]? with | some (some (.own _)) => true | _ => false
theorem own_rs {F Hk H : Hp} {bp : List (Nat × Addr)} {σ : St} {ρ : Env} {i : Nat} (S : At c F Hk H bp σ ρ) (h : isOwn ρ i = true) : ∃ q vs, σ[i]? = some (some (.ref q)) ∧ H q = some (.lst vs) := by
  unfold isOwn at h
  split at h
  · rename_i xs e
    obtain ⟨q, vs, e1, e2, _⟩ := S.1.getOwn e
    exact ⟨q, vs, e1, e2⟩
  · cases h
theorem change_rs {F Hk H : Hp} {bp : List (Nat × Addr)} {σ : St} {ρ : Env} {i : Nat} {xs ys : List MV} {q : Addr} (S : At c F Hk H bp σ ρ) (h : ρ[i]? = some (some (.own xs))) (eq : σ[i]? = some (some (.ref q))) :
    ∃ vs, H q = some (.lst vs) ∧ RVs c.K Hk xs vs ∧ ∀ ws, RVs c.K Hk ys ws → RS c.K F Hk (upd H q (.lst ws)) bp σ (ρ.set i (some (.own ys))) := by
  obtain ⟨p, vs, e1, e2, e3, e4⟩ := S.1.change (ys := ys) h
  rw [eq] at e1
  cases e1
  exact ⟨vs, e2, e3, e4⟩
def mLm (f : List MV → List MV → Option (List MV × MV)) (i : Nat) (a : MA) : ME := fun ρ => if isOwn ρ i then (a ρ).bind fun ys ρ1 => match ρ1[i]? with
  | some (some (.own xs)) => (match f xs ys with | some (zs, z) => .ok (z, ρ1.set i (some (.own zs))) | none => .stuck)
  | _ => .stuck else .stuck
def LmS (K : PySem.W.Frag) (f : List MV → List MV → Option (List MV × MV)) (r : V → List V → Hp → VK → Prop) : Prop := ∀ (xs ys zs : List MV) (z : MV) (q : Addr) (vs us : List V) (Hk H : Hp) (Q : VK), f xs ys = some (zs, z) → Ex Hk H → H q = some (.lst vs) → RVs K Hk xs vs → RVs K Hk ys us →
  (∀ ws u, RVs K Hk zs ws → RV K Hk z u → Q u (upd H q (.lst ws))) → r (.ref q) us H Q
theorem rd_lm {f : List MV → List MV → Option (List MV × MV)} {r : V → List V → Hp → VK → Prop} (o : LmS c.K f r) {σ : St} {H : Hp} {Q : VK} (h : rdE c (mLm f i m) σ H Q) : tBM c.K "list" r (tVar i) (rdA c m) σ H Q := by
  obtain ⟨F, Hk, bp, ρ, S, h⟩ := h
  unfold mLm at h
  split at h
  · rename_i ho
    obtain ⟨q, vs0, eq, hq⟩ := own_rs S ho
    refine ⟨_, eq, .inl ⟨rfl, _, SqL.of hq⟩, ?_⟩
    refine rdAw (bA postE S h) fun us H1 ⟨Hk1, ys, ρ1, x1, S1, r1, h1⟩ => ?_
    split at h1
    · rename_i xs ex
      split at h1
      · rename_i zs z ef
        obtain ⟨vs, g1, g2, g3⟩ := change_rs (ys := zs) S1 ex eq
        exact o xs ys zs z q vs us Hk1 H1 Q ef S1.1.ex g1 g2 r1 fun ws u r2 r3 => h1 _ _ u (Ex.refl _) (g3 ws r2) r3
      · exact h1.elim
    · exact h1.elim
  · exact h.elim
def lmAppend : List MV → List MV → Option (List MV × MV)
  | xs, [y] => if decide (xs.length < sizeLine) then some (xs ++ [y], .non) else none
  | _, _ => none
theorem ls_append {K : PySem.W.Frag} : LmS K lmAppend rAppend := by
  intro xs ys zs z q vs us Hk H Q e ex hq r1 r2 k
  unfold lmAppend at e
  split at e
  · split at e
    · rename_i h
      cases e
      obtain ⟨v, rfl, rv⟩ := rvs1 r2
      refine ⟨q, vs, v, rfl, rfl, hq, by rw [r1.length]; exact of_decide_eq_true h, k _ _ (r1.append ?_) (RV.non.mpr rfl)⟩
      exact RVs.cons.mpr ⟨v, [], rfl, rv, RVs.nil.mpr rfl⟩
    · cases e
  · cases e
theorem me_lm1 {f : List MV → List MV → Option (List MV × MV)} {r : V → List V → Hp → VK → Prop} {id : String} {name : Str} (o : LmS c.K f r) (slot : Slot "list" name id) (hty : typeOf (.builtin id) = pure (.type "method_descriptor")) (hm : MtR X id r) (hN : X.N[i]? = some x) (hv : Vis X.env.scope x) (ha : PA X (e :: es) (rdA c m)) (hK : c.K = X.K := by rfl)
    (hbase : attributeBase (.Name x p) name X.env (eval (.Name x p) X.env) = eval (.Name x p) X.env := by rfl)
    (hfew : ((backTo cpos (starEach (e :: es) X.env)).all (fun x => !x.1) && (backToKw cpos (keywordEach [] X.env)).all (fun x => x.1.isSome)
      && decide ((e :: es).length + ([] : List Keyword).length + (if ([] : List Keyword).isEmpty then 0 else 1) < 30)) = true := by rfl)
    (hline : (apos.endLine == cpos.line) = true := by rfl) (hs : starEach (e :: es) X.env = (false, eval e X.env) :: starEach es X.env := by rfl) (hplain : (backTo cpos (starEach es X.env)).any (·.1) = false := by rfl)
    (hd : (x == ("__debug__" : Str)) = false := by decide) (hcd : (x == ("__classdict__" : Str)) = false := by decide) : PE X (.Call (.Attribute (.Name x p) name apos) (e :: es) [] cpos) (rdE c (mLm f i m)) :=
  PEw (pe_bm PySem.F.plainAttrs_list slot hty hm (pe_var hN hv hd hcd) ha hbase hfew hline hs hplain) fun σ H Q h => by
    have := rd_lm o h
    rw [hK] at this
    exact this
end
end Tm
set_option Elab.async false
set_option linter.all false
set_option maxRecDepth 100000
set_option maxHeartbeats 2000000
namespace Tm
open PySem L2
open Evl (Ex ex_rd ex_l ex_t)
inductive Tgt where
  | nm (i : Nat) | tp (is : List Nat)
def gsOf : List Nat → TGs
  | [] => gNil
  | i :: is => gCons (gName i) (gsOf is)
def gOf (K : PySem.W.Frag) : Tgt → TG
  | .nm i => gName i
  | .tp is => gTup K is.length (gsOf is)
def setAll : List Nat → List MV → Env → Option Env
  | [], [], ρ => some ρ
  | i :: is, x :: xs, ρ => if i < ρ.length then setAll is xs (ρ.set i (some x)) else none
  | _, _, _ => none
def setT (t : Tgt) (x : MV) (ρ : Env) : Option Env := match t with
  | .nm i => if i < ρ.length then some (ρ.set i (some x)) else none
  | .tp is => match x with
    | .tup xs => if xs.length = is.length then setAll is xs ρ else none
    | _ => none
def Tgt.slots : Tgt → List Nat
  | .nm i => [i]
  | .tp is => is
theorem wipe_get (σ : St) : ∀ (vs : List Nat) (j : Nat), (wipe σ vs)[j]? = if j ∈ vs ∧ j < σ.length then some none else σ[j]?
  | [], j => by simp [wipe]
  | v :: vs, j => by
    unfold wipe
    by_cases e : v = j
    · subst e
      by_cases hl : v < σ.length
      · rw [List.getElem?_set_self (by rw [wipe_length]; exact hl), if_pos ⟨by simp, hl⟩]
      · rw [if_neg (by intro h; exact hl h.2), List.getElem?_eq_none (by rw [List.length_set, wipe_length]; omega), List.getElem?_eq_none (by omega)]
    · rw [List.getElem?_set_ne e, wipe_get σ vs j]
      by_cases hm : j ∈ vs ∧ j < σ.length
      · rw [if_pos hm, if_pos ⟨List.mem_cons_of_mem _ hm.1, hm.2⟩]
      · rw [if_neg hm, if_neg (fun h => hm ⟨(List.mem_cons.mp h.1).resolve_left (Ne.symm e), h.2⟩)]
theorem wipe_set {σ : St} {vs : List Nat} {i : Nat} {y : Option V} (h : i ∈ vs) : wipe (σ.set i y) vs = wipe σ vs := by
  refine List.ext_getElem? fun j => ?_
  rw [wipe_get, wipe_get, List.length_set]
  by_cases hm : j ∈ vs ∧ j < σ.length
  · rw [if_pos hm, if_pos hm]
  · rw [if_neg hm, if_neg hm]
    by_cases e : i = j
    · subst e
      have : σ.length ≤ i := Nat.le_of_not_lt fun z => hm ⟨h, z⟩
      rw [List.getElem?_eq_none (by simpa using this), List.getElem?_eq_none this]
    · rw [List.getElem?_set_ne e]
theorem wipe_wipe (σ : St) (vs : List Nat) : wipe (wipe σ vs) vs = wipe σ vs := by
  refine List.ext_getElem? fun j => ?_
  rw [wipe_get, wipe_length, wipe_get]
  by_cases hm : j ∈ vs ∧ j < σ.length
  · rw [if_pos hm, if_pos hm]
  · rw [if_neg hm]
def wipeM (ρ : Env) : List Nat → Env
  | [] => ρ
  | v :: vs => (wipeM ρ vs).set v none
theorem wipeM_len (ρ : Env) : ∀ vs : List Nat, (wipeM ρ vs).length = ρ.length
  | [] => rfl
  | v :: vs => by unfold wipeM; rw [List.length_set, wipeM_len ρ vs]
theorem wipeM_get (σ : Env) : ∀ (vs : List Nat) (j : Nat), (wipeM σ vs)[j]? = if j ∈ vs ∧ j < σ.length then some none else σ[j]?
  | [], j => by simp [wipeM]
  | v :: vs, j => by
    unfold wipeM
    by_cases e : v = j
    · subst e
      by_cases hl : v < σ.length
      · rw [List.getElem?_set_self (by rw [wipeM_len]; exact hl), if_pos ⟨by simp, hl⟩]
      · rw [if_neg (by intro h; exact hl h.2), List.getElem?_eq_none (by rw [List.length_set, wipeM_len]; omega), List.getElem?_eq_none (by omega)]
    · rw [List.getElem?_set_ne e, wipeM_get σ vs j]
      by_cases hm : j ∈ vs ∧ j < σ.length
      · rw [if_pos hm, if_pos ⟨List.mem_cons_of_mem _ hm.1, hm.2⟩]
      · rw [if_neg hm, if_neg (fun h => hm ⟨(List.mem_cons.mp h.1).resolve_left (Ne.symm e), h.2⟩)]
def perAt (ρ : Env) (vs : List Nat) : Bool := vs.all fun i => match ρ[i]? with
  | some (some x) => x.per
  | _ => true
def backM (ρ ρ' : Env) (vs : List Nat) : Env := vs.foldl (fun r i => r.set i ((ρ[i]?).join)) ρ'
section
variable {K : PySem.W.Frag} {F Hk H : Hp} {bp : List (Nat × Addr)} {σ : St} {ρ : Env}
theorem SL.setNone {ow : Nat → List Addr} (S : SL K F Hk H ow σ ρ) {i : Nat} : SL K F Hk H (put ow i []) (σ.set i none) (ρ.set i none) := by
  refine ⟨fun j y h => ?_, fun j a h => ?_, fun j h => ?_, fun j k a hjk h => ?_⟩
  · rcases set_get h with ⟨_, e⟩ | ⟨ne, e⟩
    · cases e
    · obtain ⟨u, e1, e2⟩ := S.s j y e
      exact ⟨u, by rw [List.getElem?_set_ne (Ne.symm ne)]; exact e1, by rw [put_ne ne]; exact e2⟩
  · by_cases e : j = i
    · rw [e, put_same] at h; cases h
    · rw [put_ne e] at h; exact S.f j a h
  · by_cases e : j = i
    · rw [e, put_same] at h; exact (h rfl).elim
    · rw [put_ne e] at h; rw [List.length_set]; exact S.w j h
  · by_cases e : j = i
    · rw [e, put_same] at h; cases h
    · rw [put_ne e] at h
      by_cases e2 : k = i
      · rw [e2, put_same]; simp
      · rw [put_ne e2]; exact S.d j k a hjk h
theorem RS.setNone (S : RS K F Hk H bp σ ρ) {i : Nat} (hb : ∀ q ∈ bp, q.1 ≠ i) : RS K F Hk H bp (σ.set i none) (ρ.set i none) := by
  obtain ⟨ow, s⟩ := S.ow
  exact ⟨by simp [S.len], S.ex, S.fr, S.frk, ⟨_, s.setNone⟩, fun q hq => by rw [List.getElem?_set_ne (Ne.symm (hb q hq))]; exact S.bor q hq⟩
theorem RS.wipe (S : RS K F Hk H bp σ ρ) : ∀ vs : List Nat, (∀ q ∈ bp, q.1 ∉ vs) → RS K F Hk H bp (L2.wipe σ vs) (wipeM ρ vs)
  | [], _ => S
  | v :: vs, hb => (RS.wipe S vs fun q hq z => hb q hq (List.mem_cons_of_mem _ z)).setNone fun q hq z => hb q hq (by rw [z]; simp)
theorem RS.back (S : RS K F Hk H bp (L2.wipe σ vs) (wipeM ρ' vs)) (S0 : ∀ i ∈ vs, ∀ x, ρ[i]? = some (some x) → ∃ v, σ[i]? = some (some v) ∧ RV K Hk x v) (hl : ρ.length = ρ'.length) (hl2 : σ.length = ρ.length) (hb : ∀ q ∈ bp, q.1 ∉ vs) : RS K F Hk H bp σ (backM ρ ρ' vs) := by
  have gb : ∀ (vs : List Nat) (r : Env) (j : Nat), r.length = ρ.length → (vs.foldl (fun r i => r.set i ((ρ[i]?).join)) r)[j]? = if j ∈ vs ∧ j < ρ.length then some ((ρ[j]?).join) else r[j]? := fun vs => by
    induction vs with
    | nil => intro r j _; simp
    | cons v vs ih =>
      intro r j hr
      rw [List.foldl_cons, ih _ j (by rw [List.length_set]; exact hr)]
      by_cases hm : j ∈ vs ∧ j < ρ.length
      · rw [if_pos hm, if_pos ⟨List.mem_cons_of_mem _ hm.1, hm.2⟩]
      · rw [if_neg hm]
        by_cases e : v = j
        · subst e
          by_cases hl : v < ρ.length
          · rw [List.getElem?_set_self (by rw [hr]; exact hl), if_pos ⟨by simp, hl⟩]
          · rw [if_neg (by intro h; exact hl h.2), List.getElem?_eq_none (by rw [List.length_set, hr]; omega), List.getElem?_eq_none (by omega)]
        · rw [List.getElem?_set_ne e, if_neg (fun h => hm ⟨(List.mem_cons.mp h.1).resolve_left (Ne.symm e), h.2⟩)]
  have gl : ∀ (vs : List Nat) (r : Env), (vs.foldl (fun r i => r.set i ((ρ[i]?).join)) r).length = r.length := fun vs => by
    induction vs with
    | nil => intro r; rfl
    | cons v vs ih => intro r; rw [List.foldl_cons, ih, List.length_set]
  obtain ⟨ow, s⟩ := S.ow
  have lb : (backM ρ ρ' vs).length = ρ.length := by unfold backM; rw [gl, ← hl]
  refine ⟨by rw [lb, hl2], S.ex, S.fr, S.frk, ⟨fun j => if j ∈ vs then [] else ow j, fun j y h => ?_, fun j a h => ?_, fun j h => ?_, fun j k a hjk h => ?_⟩, fun q hq => ?_⟩
  · unfold backM at h
    rw [gb vs ρ' j hl.symm] at h
    by_cases hm : j ∈ vs ∧ j < ρ.length
    · rw [if_pos hm] at h
      have e : ρ[j]? = some (some y) := by
        cases er : ρ[j]? with
        | none => rw [er] at h; cases h
        | some o => rw [er] at h; cases o with
          | none => cases h
          | some z => cases h; rfl
      obtain ⟨v, e1, r⟩ := S0 j hm.1 y e
      exact ⟨v, e1, by rw [if_pos hm.1]; exact r.ov⟩
    · rw [if_neg hm] at h
      have nj : j ∉ vs := fun z => hm ⟨z, by rw [hl]; exact lt_get h⟩
      obtain ⟨v, e1, o⟩ := s.s j y (by rw [wipeM_get, if_neg (fun z => nj z.1)]; exact h)
      rw [wipe_get, if_neg (fun z => nj z.1)] at e1
      exact ⟨v, e1, by rw [if_neg nj]; exact o⟩
  · by_cases e : j ∈ vs
    · rw [if_pos e] at h; cases h
    · rw [if_neg e] at h; exact s.f j a h
  · by_cases e : j ∈ vs
    · rw [if_pos e] at h; exact (h rfl).elim
    · rw [if_neg e] at h; have := s.w j h; rw [wipeM_len] at this; rw [lb, hl]; exact this
  · by_cases e : j ∈ vs
    · rw [if_pos e] at h; cases h
    · rw [if_neg e] at h
      by_cases e2 : k ∈ vs
      · rw [if_pos e2]; simp
      · rw [if_neg e2]; exact s.d j k a hjk h
  · have := S.bor q hq
    rw [wipe_get, if_neg (fun z => hb q hq z.1)] at this
    exact this
end
section
variable {X : Cx} {c : Ct}
theorem gs_rd {F Hk H : Hp} {bp : List (Nat × Addr)} {vs0 : List Nat} (hb : ∀ q ∈ bp, q.1 ∉ vs0) : ∀ (is : List Nat) (xs : List MV) (ws : List V) (σ : St) (ρ ρ' : Env) (Q : St → Hp → Prop), (∀ i ∈ is, i ∈ vs0) → RS c.K F Hk H bp σ ρ → RVs c.K Hk xs ws → setAll is xs ρ = some ρ' →
    (∀ σ', RS c.K F Hk H bp σ' ρ' → wipe σ' vs0 = wipe σ vs0 → Q σ' H) → gsOf is ws σ H Q
  | [], [], ws, σ, ρ, ρ', Q, _, S, r, e, k => by
    cases e
    exact ⟨RVs.nil.mp r, k σ S rfl⟩
  | [], x :: xs, ws, σ, ρ, ρ', Q, _, S, r, e, k => by cases e
  | i :: is, [], ws, σ, ρ, ρ', Q, _, S, r, e, k => by cases e
  | i :: is, x :: xs, ws, σ, ρ, ρ', Q, hi, S, r, e, k => by
    obtain ⟨v, us, rfl, r1, r2⟩ := RVs.cons.mp r
    unfold setAll at e
    split at e
    · rename_i hl
      have hm := hi i (by simp)
      refine ⟨v, us, rfl, ?_⟩
      refine gs_rd hb is xs us _ _ ρ' Q (fun j hj => hi j (List.mem_cons_of_mem _ hj)) (S.set hl r1 fun q hq z => hb q hq (z ▸ hm)) r2 e fun σ' S' w => k σ' S' (by rw [w, wipe_set hm])
    · cases e
theorem g_rd {F Hk H : Hp} {bp : List (Nat × Addr)} {vs0 : List Nat} (hb : ∀ q ∈ bp, q.1 ∉ vs0) {t : Tgt} {x : MV} {v : V} {σ : St} {ρ ρ' : Env} {Q : St → Hp → Prop} (hi : ∀ i ∈ t.slots, i ∈ vs0) (S : RS c.K F Hk H bp σ ρ) (r : RV c.K Hk x v) (e : setT t x ρ = some ρ')
    (k : ∀ σ', RS c.K F Hk H bp σ' ρ' → wipe σ' vs0 = wipe σ vs0 → Q σ' H) : gOf c.K t v σ H Q := by
  cases t with
  | nm i =>
    have e : (if i < ρ.length then some (ρ.set i (some x)) else none) = some ρ' := e
    split at e
    · rename_i hl
      cases e
      have hm := hi i (by simp [Tgt.slots])
      exact k _ (S.set hl r fun q hq z => hb q hq (z ▸ hm)) (wipe_set hm)
    · cases e
  | tp is =>
    cases x with
    | tup xs =>
      have e : (if xs.length = is.length then setAll is xs ρ else none) = some ρ' := e
      split at e
      · rename_i hl
        obtain ⟨a, ws, rfl, h1, s1⟩ := RV.tup.mp r
        exact ⟨a, ws, rfl, ex_t S.ex h1, by rw [s1.length, hl], gs_rd hb is xs ws σ ρ ρ' Q hi S s1 e k⟩
      · cases e
    | _ => cases e
def Res.b0 {α β : Type} (r : Res (α × Env)) (f : α → Env → Res (β × Env)) : Res (β × Env) :=
  match r with
  | .ok (x, ρ) => f x ρ
  | _ => .stuck
def mLcLoop (g : Tgt) (t : MT) (e : ME) (vs : List Nat) : List MV → List MV → Env → Res (List MV × Env)
  | [], acc, ρ => .ok (acc, ρ)
  | x :: xs, acc, ρ => match setT g x (wipeM ρ vs) with
    | none => .stuck
    | some ρ1 => (t ρ1).b0 fun b ρ2 => if b then (e ρ2).b0 fun y ρ3 => (if acc.length < sizeLine ∧ ρ3.length = ρ.length then mLcLoop g t e vs xs (acc ++ [y]) ρ3 else .stuck) else if ρ2.length = ρ.length then mLcLoop g t e vs xs acc ρ2 else .stuck
def mYes : MT := fun ρ => .ok (true, ρ)
def mLcO (it : MI) (g : Tgt) (t : MT) (e : ME) (vs : List Nat) : ME := fun ρ => (it ρ).bind fun xs ρ1 => if perAt ρ1 vs then (mLcLoop g t e vs xs [] ρ1).b0 fun ys ρ2 => .ok (.own ys, backM ρ1 ρ2 vs) else .stuck
theorem b0E {F Hk H : Hp} {bp : List (Nat × Addr)} {σ : St} {ρ : Env} {β : Type} {P : Hp → Res (β × Env) → Prop} (st : ∀ Hk, ¬ P Hk .stuck) (mo : ∀ Hk Hk' r, Ex Hk Hk' → P Hk r → P Hk' r) {a : ME} {k : MV → Env → Res (β × Env)} (S : At c F Hk H bp σ ρ) (h : P Hk ((a ρ).b0 k)) :
    rdE c a σ H fun v H1 => ∃ Hk1 x ρ1, Ex Hk Hk1 ∧ At c F Hk1 H1 bp σ ρ1 ∧ RV c.K Hk1 x v ∧ P Hk1 (k x ρ1) := by
  refine ⟨F, Hk, bp, ρ, S, ?_⟩
  cases e : a ρ with
  | stuck => rw [e] at h; exact st _ h
  | exc x ρ' => rw [e] at h; exact (st _ h).elim
  | ok q =>
    rw [e] at h
    exact fun Hk1 H1 v x1 S1 r1 => ⟨Hk1, q.1, q.2, x1, ⟨S1, S.2⟩, r1, mo _ _ _ x1 h⟩
theorem b0T {F Hk H : Hp} {bp : List (Nat × Addr)} {σ : St} {ρ : Env} {β : Type} {P : Hp → Res (β × Env) → Prop} (st : ∀ Hk, ¬ P Hk .stuck) (mo : ∀ Hk Hk' r, Ex Hk Hk' → P Hk r → P Hk' r) {a : MT} {k : Bool → Env → Res (β × Env)} (S : At c F Hk H bp σ ρ) (h : P Hk ((a ρ).b0 k)) :
    rdT c a σ H fun b H1 => ∃ Hk1 ρ1, Ex Hk Hk1 ∧ At c F Hk1 H1 bp σ ρ1 ∧ P Hk1 (k b ρ1) := by
  refine ⟨F, Hk, bp, ρ, S, ?_⟩
  cases e : a ρ with
  | stuck => rw [e] at h; exact st _ h
  | exc x ρ' => rw [e] at h; exact (st _ h).elim
  | ok q =>
    rw [e] at h
    exact fun Hk1 H1 x1 S1 => ⟨Hk1, q.2, x1, ⟨S1, S.2⟩, mo _ _ _ x1 h⟩
def okB (c : Ct) (F Hk : Hp) (bp : List (Nat × Addr)) (σ : St) (Q : VK) (ρ0 : Env) (vs : List Nat) : Res (List MV × Env) → Prop
  | .ok (ys, ρ') => okO c F Hk bp σ Q (.ok (.own ys, backM ρ0 ρ' vs))
  | _ => False
theorem okB.mono {F Hk Hk' : Hp} {bp : List (Nat × Addr)} {σ : St} {Q : VK} {ρ0 : Env} {vs : List Nat} {r : Res (List MV × Env)} (x : Ex Hk Hk') (h : okB c F Hk bp σ Q ρ0 vs r) : okB c F Hk' bp σ Q ρ0 vs r := by
  cases r with
  | ok a => exact okO.mono (r := .ok (.own a.1, backM ρ0 a.2 vs)) x h
  | exc e ρ => exact h
  | stuck => exact h
theorem RS.inFr {K : PySem.W.Frag} {F Hk H : Hp} {bp : List (Nat × Addr)} {σ : St} {ρ : Env} {D : Addr} {xs : List V} (S : RS K F Hk H bp σ ρ) (h : H D = none) : RS K (upd F D (.lst xs)) Hk (upd H D (.lst xs)) bp σ ρ := by
  have S' := S.more (o := .lst xs) h
  obtain ⟨ow, s⟩ := S.ow
  refine ⟨S.len, S'.ex, S.fr.both h, fun a o ha => ?_, ⟨ow, fun i x hx => ?_, fun i a ha => ?_, s.w, s.d⟩, S.bor⟩
  · by_cases e : a = D
    · rw [e]; exact S.ex.back h
    · rw [upd_ne e] at ha; exact S.frk a o ha
  · obtain ⟨v, ev, o⟩ := s.s i x hx
    exact ⟨v, ev, o.move (Ex.refl _) fun a ha u hu => by rw [upd_ne (ne_of_none hu h)]; exact hu⟩
  · obtain ⟨g1, g2, o, g3⟩ := s.f i a ha
    have ne := ne_of_none g3 h
    exact ⟨g1, by rw [upd_ne ne]; exact g2, o, by rw [upd_ne ne]; exact g3⟩
theorem RS.grow {K : PySem.W.Frag} {F Hk H : Hp} {bp : List (Nat × Addr)} {σ : St} {ρ : Env} {D : Addr} {xs ys : List V} (S : RS K (upd F D (.lst xs)) Hk H bp σ ρ) : RS K (upd F D (.lst ys)) Hk (upd H D (.lst ys)) bp σ ρ := by
  have hk : Hk D = none := S.frk D _ upd_same
  obtain ⟨ow, s⟩ := S.ow
  have nd : ∀ i a, a ∈ ow i → a ≠ D := fun i a ha e => by
    have := (s.f i a ha).2.1
    rw [e, upd_same] at this
    cases this
  refine ⟨S.len, S.ex.mut hk, fun a o ha => ?_, fun a o ha => ?_, ⟨ow, fun i x hx => ?_, fun i a ha => ?_, s.w, s.d⟩, S.bor⟩
  · by_cases e : a = D
    · subst e; rw [upd_same] at ha ⊢; exact ha
    · rw [upd_ne e] at ha ⊢; exact S.fr a o (by rw [upd_ne e]; exact ha)
  · by_cases e : a = D
    · rw [e]; exact hk
    · rw [upd_ne e] at ha; exact S.frk a o (by rw [upd_ne e]; exact ha)
  · obtain ⟨v, ev, o⟩ := s.s i x hx
    exact ⟨v, ev, o.move (Ex.refl _) fun a ha u hu => by rw [upd_ne (nd i a ha)]; exact hu⟩
  · obtain ⟨g1, g2, o, g3⟩ := s.f i a ha
    exact ⟨g1, by have := nd i a ha; rw [upd_ne this] at g2 ⊢; exact g2, o, by rw [upd_ne (nd i a ha)]; exact g3⟩
theorem RS.outFr {K : PySem.W.Frag} {F Hk H : Hp} {bp : List (Nat × Addr)} {σ : St} {ρ : Env} {D : Addr} {vs : List V} {xs : List MV} (S : RS K (upd F D (.lst vs)) Hk H bp σ ρ) (hF : F D = none) (r : RVs K Hk xs vs) : RS K F Hk H bp (σ ++ [some (.ref D)]) (ρ ++ [some (.own xs)]) := by
  have hk : Hk D = none := S.frk D _ upd_same
  have hH : H D = some (.lst vs) := S.fr D _ upd_same
  have up : ∀ a o, F a = some o → upd F D (.lst vs) a = some o := fun a o ha => by rw [upd_ne (ne_of_none ha hF)]; exact ha
  obtain ⟨ow, s⟩ := S.ow
  have nd : ∀ i a, a ∈ ow i → a ≠ D := fun i a ha e => by
    have := (s.f i a ha).2.1
    rw [e, upd_same] at this
    cases this
  have s' : SL K F Hk H ow σ ρ := ⟨s.s, fun i a ha => by
    obtain ⟨g1, g2, g3⟩ := s.f i a ha
    exact ⟨g1, by rw [upd_ne (nd i a ha)] at g2; exact g2, g3⟩, s.w, s.d⟩
  refine ⟨by simp [S.len], S.ex, fun a o ha => S.fr a o (up a o ha), fun a o ha => S.frk a o (up a o ha), ⟨_, s'.push S.len (A := [D]) (OV.own.mpr ⟨D, vs, rfl, rfl, hH, r⟩) (fun a ha => ?_) (fun i a ha hi => ?_)⟩, S.bor_app _⟩
  · simp at ha; subst ha; exact ⟨hk, hF⟩
  · simp at ha; subst ha; exact nd i a hi rfl
theorem rd_lc {it : MI} {g : Tgt} {t : MT} {e : ME} {vs : List Nat} {σ : St} {H : Hp} {Q : VK} (hg : ∀ i ∈ g.slots, i ∈ vs) (hbs : ∀ i ∈ vs, c.bs.contains i = false) (h : rdO c (mLcO it g t e vs) σ H Q) : tLc (rdI c it) (gOf c.K g) (rdT c t) (rdE c e) vs σ H Q := by
  obtain ⟨F, Hk, bp, ρ, S, h⟩ := h
  have hb : ∀ q ∈ bp, q.1 ∉ vs := fun q hq z => nb S.2.1 (hbs _ z) q hq rfl
  refine ⟨F, Hk, bp, ρ, S, ?_⟩
  have h : okO c F Hk bp σ Q ((it ρ).bind fun xs ρ1 => if perAt ρ1 vs then (mLcLoop g t e vs xs [] ρ1).b0 fun ys ρ2 => .ok (.own ys, backM ρ1 ρ2 vs) else .stuck) := h
  cases ei : it ρ with
  | stuck => rw [ei] at h; exact h
  | exc x ρ' => rw [ei] at h; exact h
  | ok p =>
    obtain ⟨xs, ρ1⟩ := p
    rw [ei] at h
    intro Hk1 H1 J x1 S1 wk D hD
    have h : okO c F Hk1 bp σ Q (if perAt ρ1 vs then (mLcLoop g t e vs xs [] ρ1).b0 fun ys ρ2 => .ok (.own ys, backM ρ1 ρ2 vs) else .stuck) := okO.mono x1 h
    split at h
    · rename_i hper
      have h : okB c F Hk1 bp σ Q ρ1 vs (mLcLoop g t e vs xs [] ρ1) := by
        cases e2 : mLcLoop g t e vs xs [] ρ1 with
        | ok q => rw [e2] at h; exact h
        | exc x r => rw [e2] at h; exact h
        | stuck => rw [e2] at h; exact h
      have fD : F D = none := by
        cases e : F D with
        | none => rfl
        | some o => have := S1.fr D o e; rw [hD] at this; cases this
      have p0 : ∀ i ∈ vs, ∀ x, ρ1[i]? = some (some x) → ∃ v, σ[i]? = some (some v) ∧ RV c.K Hk1 x v := fun i hi x hx => by
        have z := List.all_eq_true.mp hper i hi
        rw [hx] at z
        exact S1.get hx z
      refine ⟨fun i m H' => m = xs.length - i ∧ i ≤ xs.length ∧ ∃ Hk' ρ' acc ws, Ex Hk1 Hk' ∧ RS c.K (upd F D (.lst ws)) Hk' H' bp (wipe σ vs) (wipeM ρ' vs) ∧ RVs c.K Hk' acc ws ∧ ρ'.length = ρ1.length ∧ okB c F Hk' bp σ Q ρ1 vs (mLcLoop g t e vs (xs.drop i) acc ρ'),
        ⟨xs.length, by simp, Nat.zero_le _, Hk1, ρ1, [], [], Ex.refl _, (S1.wipe vs hb).inFr hD, RVs.nil.mpr rfl, rfl, h⟩, ?_⟩
      rintro i m H' ⟨rfl, hi, Hk', ρ', acc, ws, x', S', ra, hl, h'⟩
      by_cases hlt : i < xs.length
      · refine .inr ⟨wk.go i H' (x'.trans S'.ex) hlt, fun H2 => ∃ Hk2 ρ2 acc2 ws2, Ex Hk1 Hk2 ∧ RS c.K (upd F D (.lst ws2)) Hk2 H2 bp (wipe σ vs) (wipeM ρ2 vs) ∧ RVs c.K Hk2 acc2 ws2 ∧ ρ2.length = ρ1.length ∧ okB c F Hk2 bp σ Q ρ1 vs (mLcLoop g t e vs (xs.drop (i + 1)) acc2 ρ2),
          fun H2 z => ⟨xs.length - (i + 1), by omega, rfl, hlt, z⟩, fun x H2 y => ?_⟩
        obtain ⟨z, ez, hz⟩ := wk.yld i H' x H2 (x'.trans S'.ex) hlt y
        have ed : xs.drop i = z :: xs.drop (i + 1) := by
          rw [List.drop_eq_getElem_cons hlt]
          rw [List.getElem?_eq_getElem hlt] at ez
          cases ez; rfl
        rw [ed] at h'
        have st : ∀ Hk, ¬ okB c F Hk bp σ Q ρ1 vs .stuck := fun _ f => f
        have mo : ∀ Hk Hk' r, Ex Hk Hk' → okB c F Hk bp σ Q ρ1 vs r → okB c F Hk' bp σ Q ρ1 vs r := fun _ _ _ x h => okB.mono x h
        have fin : ∀ Hk3, Ex Hk' Hk3 → RS c.K (upd F D (.lst ws)) Hk3 H2 bp (wipe σ vs) (wipeM ρ' vs) → RV c.K Hk3 z x →
            gOf c.K g x (wipe σ vs) H2 fun σ2 H2 => wipe σ2 vs = wipe σ vs ∧ rdT c t σ2 H2 fun b H3 => if b = true then rdE c e σ2 H3 fun y H4 => ∃ acc, H4 D = some (.lst acc) ∧ acc.length < sizeLine ∧
              (∃ Hk2 ρ2 acc2 ws2, Ex Hk1 Hk2 ∧ RS c.K (upd F D (.lst ws2)) Hk2 (upd H4 D (.lst (acc ++ [y]))) bp (wipe σ vs) (wipeM ρ2 vs) ∧ RVs c.K Hk2 acc2 ws2 ∧ ρ2.length = ρ1.length ∧ okB c F Hk2 bp σ Q ρ1 vs (mLcLoop g t e vs (xs.drop (i + 1)) acc2 ρ2)) else
              ∃ Hk2 ρ2 acc2 ws2, Ex Hk1 Hk2 ∧ RS c.K (upd F D (.lst ws2)) Hk2 H3 bp (wipe σ vs) (wipeM ρ2 vs) ∧ RVs c.K Hk2 acc2 ws2 ∧ ρ2.length = ρ1.length ∧ okB c F Hk2 bp σ Q ρ1 vs (mLcLoop g t e vs (xs.drop (i + 1)) acc2 ρ2) := fun Hk3 x3 S3 r3 => by
          have h' := okB.mono x3 h'
          unfold mLcLoop at h'
          cases eg : setT g z (wipeM ρ' vs) with
          | none => rw [eg] at h'; exact h'.elim
          | some ρ3 =>
            rw [eg] at h'
            refine g_rd hb hg S3 r3 eg fun σ2 S4 w2 => ⟨by rw [w2, wipe_wipe], ?_⟩
            have w2' : wipe σ2 vs = wipe σ vs := by rw [w2, wipe_wipe]
            refine rdTw (b0T st mo ⟨S4, S.2.1, c.Jm _ _ _ (Ex.new fD) S.2.2⟩ h') fun b H3 ⟨Hk4, ρ4, x4, S5, h5⟩ => ?_
            cases b with
            | true =>
              rw [if_pos rfl] at h5 ⊢
              refine rdw (b0E st mo S5 h5) fun y H4 ⟨Hk5, yy, ρ5, x5, S6, r6, h6⟩ => ?_
              split at h6
              · rename_i hz
                have ra' := ra.mono (x3.trans (x4.trans x5))
                refine ⟨ws, S6.1.fr D _ upd_same, by rw [ra'.length]; exact hz.1, Hk5, ρ5, acc ++ [yy], ws ++ [y], x'.trans (x3.trans (x4.trans x5)), ?_, ra'.append (RVs.cons.mpr ⟨y, [], rfl, r6, RVs.nil.mpr rfl⟩), by rw [hz.2, hl], h6⟩
                have := (S6.1.wipe vs hb)
                rw [w2'] at this
                exact this.grow
              · exact h6.elim
            | false =>
              rw [if_neg (by decide)] at h5 ⊢
              split at h5
              · rename_i hz
                refine ⟨Hk4, ρ4, acc, ws, x'.trans (x3.trans x4), ?_, ra.mono (x3.trans x4), by rw [hz, hl], h5⟩
                have := (S5.1.wipe vs hb)
                rw [w2'] at this
                exact this
              · exact h5.elim
        rcases hz with ⟨rfl, r⟩ | ⟨p, us, ys, hp, rfl, rfl, rfl, r⟩
        · exact fin Hk' (Ex.refl _) S' (RV.mono x' _ _ r)
        · have xn := Ex.new (o := .tup us) (S'.ex.back hp)
          exact fin _ xn (S'.new hp) (RV.tup.mpr ⟨p, us, rfl, SqT.of upd_same, r.mono (x'.trans xn)⟩)
      · have e : i = xs.length := by omega
        subst e
        rw [List.drop_length] at h'
        refine .inl ⟨wk.stop H' (x'.trans S'.ex), ?_⟩
        have out := S'.outFr fD ra
        have bk : RS c.K (upd F D (.lst ws)) Hk' H' bp σ (backM ρ1 ρ' vs) := RS.back S' (fun i hi x hx => by
          obtain ⟨v, ev, rv⟩ := p0 i hi x hx
          exact ⟨v, ev, RV.mono x' _ _ rv⟩) hl.symm S1.len hb
        exact h' _ _ _ (Ex.refl _) (bk.outFr fD ra)
    · exact h.elim
end
end Tm
set_option Elab.async false
set_option linter.all false
set_option maxRecDepth 100000
set_option maxHeartbeats 2000000
namespace Tm
open PySem L2
theorem hbs_of {bs vs : List Nat} (h : (vs.all fun v => !bs.contains v) = true) : ∀ i ∈ vs, bs.contains i = false := fun i hi => by
  have := List.all_eq_true.mp h i hi
  simpa using this
open Evl (Ex ex_rd ex_l ex_t)
section
variable {X : Cx} {c : Ct} {elt tg iter : Expr} {ifs : List Expr} {scope : Scope} {own : List (Str × Nat)} {pos : Pos} {it : MI} {g : Tgt} {t : MT} {e : ME}
theorem mts_nil : PTs X [] (rdT c mYes) := ⟨fun pins s σ H Q I ⟨F, Hk, bp, ρ, S, h⟩ => pts_nil.run pins s σ H Q I (h _ _ (Ex.refl _) S.1)⟩
theorem mts_one {a : Expr} (h : PT X a (rdT c t)) : PTs X [a] (rdT c t) := pts_one h
theorem mo_lc (hc : X.calm = true) (hN : X.N.Nodup) (hi : PI X tg iter (rdI c it)) (ok : BlkOk X.N X.env.scope scope own) (hg : ∀ (s : Shared) (H : Hp) (C : Addr) (cl : List (Str × Addr)) (fp : List Addr), PG (X.blk s H scope (compEnvC scope cl C X.env) fp) tg (gOf X.K g))
    (ht : ∀ (s : Shared) (H : Hp) (C : Addr) (cl : List (Str × Addr)) (fp : List Addr), PTs (X.blk s H scope (compEnvC scope cl C X.env) fp) ifs (rdT c t)) (he : ∀ (s : Shared) (H : Hp) (C : Addr) (cl : List (Str × Addr)) (fp : List Addr), PE (X.blk s H scope (compEnvC scope cl C X.env) fp) elt (rdE c e))
    (hgs : ∀ i ∈ g.slots, i ∈ own.map (·.2) := by decide) (hbs : ∀ i ∈ own.map (·.2), c.bs.contains i = false := by decide) (hK : c.K = X.K := by rfl) (hs : ∀ x, foldedSetIterable iter X.env x = pure x := by intro _; rfl) :
    PE X (.ListComp elt [⟨tg, iter, ifs, 0⟩] scope pos) (rdO c (mLcO it g t e (own.map (·.2)))) := PEw (pe_lc hc hN hi ok hg ht he hs) fun σ H Q h => by rw [← hK]; exact rd_lc hgs hbs h
end
theorem only_rs {K : PySem.W.Frag} {H : Hp} {a : Addr} {ns : List Int} (h : SqL K H a (ns.map V.int)) : RS K (fun _ => none) H H [] ([V.ref a].map some) ([MV.scr ns].map some) :=
  RS.args (Ex.refl _) (fun _ _ z => nomatch z) (fun _ _ z => nomatch z) (RVs.cons.mpr ⟨_, [], rfl, RV.scr.mpr ⟨a, rfl, h⟩, RVs.nil.mpr rfl⟩)
theorem walk_law {l : PySem.W.OpenLaw} {k : Nat} {q : Program} {loose : List Str} {XP : (Str → Option Value) → Heap → Prop} {YP : World → Heap → Prop} {d : DefRec} {K : Params → PySem.W.Frag} {x : Str} {f : MF}
    (hn : l.most = some 63) (hdf : d.params.defaults = []) (hr : Room k callerA) (hY : ∀ (w : World) (h : Heap), YP w h → (K w.params).In h)
    (hf : ∀ ns : List Int, ns.length ≤ 63 → ∃ bs, f [.scr ns] = .ok (.bl true, bs))
    (F : ∀ (w : World) (mg : Str → Option Value) (fa : Addr) (h : Heap), (K w.params).In h → h.Ns mainGlobals mg → mg d.name = some (.ref fa) →
      ∃ fd : FuncData, (∀ (s : Shared) (u : Value), BindsTo s fd ⟨[u], []⟩ [(x, u)]) ∧
        ∀ base : Heap, (K w.params).In base → base.Ns mainGlobals mg → FnOk l.prog w (K w.params) mg base (L2N.CX l.prog w) k fa fd [x] (spF (K w.params) mg 1 [] f)) :
    PySem.W.WalkO q loose XP YP l.row.toRowW d [] (fun f vs => PySem.call f vs) := by
  refine L2.walk_of (x := x) (K := K) (CX := fun w => L2N.CX l.prog w) (sp := fun w vs H Q E => ∃ (a : Addr) (ns : List Int), vs = [.ref a] ∧ ns.length ≤ 63 ∧ SqL (K w.params) H a (ns.map V.int) ∧ ∀ H', Q (.bl true) H') hn (by rw [sizeLine_eq]; decide) hdf hr hY (fun w mg fa h KX G hmg => ?_) (fun w H a ns hl _ hS => ⟨a, ns, rfl, hl, hS, fun _ => rfl⟩) ?_
  · obtain ⟨fd, hb, hF⟩ := F w mg fa h KX G hmg
    refine ⟨fd, hb, fun base h1 h2 => (hF base h1 h2).imp ?_⟩
    rintro vs H Q E ⟨a, ns, rfl, hl, hS, q⟩
    obtain ⟨bs, e⟩ := hf ns hl
    refine ⟨rfl, fun _ => none, H, [], [.scr ns], only_rs hS, rfl, ?_⟩
    rw [e]
    intro Hk' H' w x S'
    have bl : bs.length = 0 := by have := S'.len; simpa using this.symm
    have be : bs = [] := List.eq_nil_of_length_eq_zero bl
    subst be
    obtain ⟨v, ev, rv⟩ := S'.get (i := 0) (x := .bl true) rfl rfl
    cases ev
    rw [RV.bl.mp rv]
    exact q _
  · rintro w H s e s' ⟨_, _, _, _, _, _, _, _, _, _, _, _, f⟩
    exact f
structure Fd (P : Program) (w : World) (K : PySem.W.Frag) (mg : Str → Option Value) (base : Heap) (x : Str) (k : Nat) (ps : List Str) (bs : List Nat) (f : MF) : Prop where
  ex : ∃ (a : Addr) (fd : FuncData), FnOk P w K mg base (L2N.CX P w) k a fd ps (spF K mg ps.length bs f) ∧ mg x = some (.ref a) ∧ PySem.W.keepIn K (.ref a) = true ∧ Binds K fd ps []
structure Bn (mg : Str → Option Value) : Prop where
  len : mg "len" = none
  range : mg "range" = none
  abs : mg "abs" = none
  max : mg "max" = none
  min : mg "min" = none
  int : mg "int" = none
  str : mg "str" = none
  tuple : mg "tuple" = none
  list : mg "list" = none
  all : mg "all" = none
  any : mg "any" = none
  isinstance : mg "isinstance" = none
  divmod : mg "divmod" = none
  sum : mg "sum" = none
  zip : mg "zip" = none
  enumerate : mg "enumerate" = none
  reversed : mg "reversed" = none
  sorted : mg "sorted" = none
  dict : mg "dict" = none
  set : mg "set" = none
  bool : mg "bool" = none
section
variable {X : Cx} {c : Ct} {k : Nat} {ps : List Str} {x : Str} {p pos : Pos} {e : Expr} {es : List Expr} {f : MF} {a : MA} {j : Nat}
theorem mf_call (G : Fd X.prog X.w X.K X.mg X.base x k ps [] f) (hr : Room j X.A) (hj : k ≤ j) (tk : L2N.Takes X c.W) (ha : PA X (e :: es) (rdA c a)) (hn : Lng a ps.length) (hg : Gl X x := by rfl) (hK : c.K = X.K := by rfl) (hM : c.mg = X.mg := by rfl) (hdb : (x == ("__debug__" : Str)) = false := by decide)
    (he : starEach (e :: es) X.env = (false, eval e X.env) :: starEach es X.env := by rfl) (hpl : (backTo pos (starEach es X.env)).any (·.1) = false := by rfl) : PE X (.Call (.Name x p) (e :: es) [] pos) (rdO c (mCall f a)) := by
  obtain ⟨fa, fd, F, hm, hk, hb⟩ := G.ex
  exact mo_call F (hr.mono hj) hm hk hb tk ha hn hg hK hM hdb he hpl
theorem mf_call0 (G : Fd X.prog X.w X.K X.mg X.base x k ps [] f) (hr : Room j X.A) (hj : k ≤ j) (ha : PA X (e :: es) (rdA c a)) (hn : Lng a ps.length) (hg : Gl X x := by rfl) (hK : c.K = X.K := by rfl) (hM : c.mg = X.mg := by rfl) (hdb : (x == ("__debug__" : Str)) = false := by decide)
    (he : starEach (e :: es) X.env = (false, eval e X.env) :: starEach es X.env := by rfl) (hpl : (backTo pos (starEach es X.env)).any (·.1) = false := by rfl) : PE X (.Call (.Name x p) (e :: es) [] pos) (rdO c (mCall0 f a)) := by
  obtain ⟨fa, fd, F, hm, hk, hb⟩ := G.ex
  exact mo_call0 F (hr.mono hj) hm hk hb ha hn hg hK hM hdb he hpl
end
end Tm
set_option Elab.async false
set_option linter.all false
set_option maxRecDepth 100000
set_option maxHeartbeats 2000000
namespace Tm
open PySem L2
open Evl (Ex ex_rd ex_l ex_t)
def Cst (K : PySem.W.Frag) (mg : Str → Option Value) (x : Str) (v : MV) : Prop := ∃ w u, mg x = some u ∧ RelV w u ∧ ∀ H, RV K H v w
section
variable {X : Cx} {c : Ct} {x : Str} {pos : Pos}
theorem mf_con {v : MV} (h : Cst X.K X.mg x v) (hg : Gl X x := by rfl) (hK : c.K = X.K := by rfl) (hd : (x == ("__debug__" : Str)) = false := by decide) : PE X (.Name x pos) (rdE c (mC v)) := by
  obtain ⟨w, u, hm, rv, r⟩ := h
  exact me_glob hm rv (by rw [hK]; exact r) hg hd
end
theorem cst_int {K : PySem.W.Frag} {mg : Str → Option Value} {x : Str} {i : Int} {t : Tok} (h : mg x = some (.int i t)) : Cst K mg x (.int i) := ⟨.int i, _, h, ⟨t, rfl⟩, fun _ => RV.int.mpr rfl⟩
def flatIs : MV → Value → Bool
  | .int i, .int j _ => i == j
  | .str i, .str j _ => i == j
  | .non, .none => true
  | .bl a, .bool b => a == b
  | _, _ => false
def flatsIs : List MV → List Value → Bool
  | [], [] => true
  | x :: xs, v :: vs => flatIs x v && flatsIs xs vs
  | _, _ => false
theorem flat_is {K : PySem.W.Frag} {H : Hp} {x : MV} {v : Value} (h : flatIs x v = true) : ∃ w, RelV w v ∧ RV K H x w := by
  unfold flatIs at h
  split at h
  · rw [beq_iff_eq.mp h]; exact ⟨.int _, ⟨_, rfl⟩, RV.int.mpr rfl⟩
  · rw [beq_iff_eq.mp h]; exact ⟨.str _, ⟨_, rfl⟩, RV.str.mpr rfl⟩
  · exact ⟨.non, rfl, RV.non.mpr rfl⟩
  · rw [beq_iff_eq.mp h]; exact ⟨.bl _, rfl, RV.bl.mpr rfl⟩
  · cases h
theorem flats_is {K : PySem.W.Frag} {H : Hp} : ∀ {xs : List MV} {vs : List Value}, flatsIs xs vs = true → ∃ ws, Vals ws vs ∧ RVs K H xs ws
  | [], [], _ => ⟨[], .nil, RVs.nil.mpr rfl⟩
  | x :: xs, v :: vs, h => by
    unfold flatsIs at h
    rw [Bool.and_eq_true] at h
    obtain ⟨w, r1, r2⟩ := flat_is (K := K) (H := H) h.1
    obtain ⟨ws, r3, r4⟩ := flats_is (K := K) (H := H) h.2
    exact ⟨w :: ws, .cons r1 r3, RVs.cons.mpr ⟨w, ws, rfl, r2, r4⟩⟩
  | [], _ :: _, h => by cases h
  | _ :: _, [], h => by cases h
theorem flats_rv {K : PySem.W.Frag} {H H' : Hp} : ∀ {xs : List MV} {ws : List V} {vs : List Value}, flatsIs xs vs = true → RVs K H xs ws → RVs K H' xs ws
  | [], _, _, _, r => RVs.nil.mpr (RVs.nil.mp r)
  | x :: xs, ws, [], h, r => by cases h
  | x :: xs, ws, v :: vs, h, r => by
    unfold flatsIs at h
    rw [Bool.and_eq_true] at h
    obtain ⟨w, us, rfl, r1, r2⟩ := RVs.cons.mp r
    have f : flatM x = true := by
      have := h.1
      unfold flatIs at this
      split at this <;> first | rfl | cases this
    exact RVs.cons.mpr ⟨w, us, rfl, flat_rv f r1, flats_rv h.2 r2⟩
theorem cst_tup {K : PySem.W.Frag} {mg : Str → Option Value} {x : Str} {a : Addr} {dd : Option Addr} {its : Array Value} {n : Nat} {sl : Array (Option Value)} {xs : List MV} (h : mg x = some (.ref a)) (l : K.lookup a = some ⟨.type "tuple", dd, .seq its n, sl⟩) (e : flatsIs xs its.toList = true) (z : its.size ≤ 1000) : Cst K mg x (.tup xs) := by
  obtain ⟨ws, r1, r2⟩ := flats_is (K := K) (H := fun _ => none) e
  exact ⟨.ref a, _, h, rfl, fun H => RV.tup.mpr ⟨a, ws, rfl, .inr ⟨_, its, n, l, rfl, rfl, Nat.le_trans z (by rw [sizeLine_eq]; decide), r1⟩, flats_rv e r2⟩⟩
end Tm
set_option Elab.async false
set_option linter.all false
set_option maxRecDepth 100000
set_option maxHeartbeats 2000000
namespace Tm
open PySem L2
open Evl (Ex ex_rd ex_l ex_t)
theorem blkOk_at {N N' : List Str} {sc sc' bs : Scope} {own : List (Str × Nat)} (hN : N = N') (hs : sc = sc') (h : blkC N' sc' bs own = true) : BlkOk N sc bs own := by
  subst hN hs
  exact blkOk_by h
end Tm
set_option Elab.async false
set_option linter.all false
set_option maxRecDepth 100000
set_option maxHeartbeats 2000000
namespace Tm
open PySem L2 PySem.Spec PyProof.Rows
open Evl (Ex ex_rd ex_l ex_t)
structure Bas (K : PySem.W.Frag) (mg : Str → Option Value) (y : Str) : Prop where
  ex : ∃ CL : Addr, mg y = some (.ref CL) ∧ PySem.W.readsIn K CL (.type "type") = true ∧ PySem.W.specialIn K (.ref CL) "__getattribute__" = some (some (.builtin "type.__getattribute__")) ∧ PySem.W.findCls K (.ref CL) (.type "type") "__init__" = some (.val (.builtin "ValueError.__init__"))
section
variable {X : Cx} {y : Str} {e : Expr} {es : List Expr} {ta : TA} {p1 p2 pos : Pos}
theorem pe_linit {pl : Sem Bool} (hg : Gl X y) (B : Bas X.K X.mg y) (ha : PA X (e :: es) ta)
    (hc : eval (.Call (.Attribute (.Name y p1) "__init__" p2) (e :: es) [] pos) X.env = (do
      let ov ← eval (.Name y p1) X.env
      standAt p2.atName
      let (f, first) ← holding [ov] (getMethod ov "__init__" pl)
      callWith pos f first (backTo pos (starEach (e :: es) X.env)) (backToKw pos (keywordEach [] X.env))) := by rfl)
    (hdb : (y == ("__debug__" : Str)) = false := by decide) (he : starEach (e :: es) X.env = (false, eval e X.env) :: starEach es X.env := by rfl) (hpl : (backTo pos (starEach es X.env)).any (·.1) = false := by rfl) :
    PE X (.Call (.Attribute (.Name y p1) "__init__" p2) (e :: es) [] pos) (tVeI X.K ta) := by
  obtain ⟨CL, hm, hr, hga, hf⟩ := B.ex
  refine ⟨fun pins s σ H Q I h => ?_⟩
  refine PySem.W.methodCall_KW (ld_glob I hg hm ?_ hdb) hc
  refine PySem.W.method_cls I.kIn hga (PySem.W.cls_value I.kIn hr hf (by decide +kernel) ?_)
  show wpAny _ _ (callWith pos (Value.builtin "ValueError.__init__") [] (backTo pos (starEach (e :: es) X.env)) []) _ _ _
  refine PyProof.Rows.callWith_method1 (thn (ha.run pos pins _ σ H _ (I.tok _) h) fun us s1 ⟨vs, H1, I1, r1, a, C, ws, ev, hl, T, ea, q⟩ => ?_) he hpl
  subst ev
  cases r1 with
  | @cons _ u0 _ ur ra rw' =>
    obtain rfl : u0 = Value.ref a := ra
    have hlen : ur.length ≤ sizeLine := by
      rw [← Paired.length rw', sizeLine_eq]
      omega
    exact oinit_ok T I1 ea hlen fun s' J => ⟨.non, H1, J, rfl, q⟩
end
structure OwX (K : PySem.W.Frag) (mg : Str → Option Value) (x : Str) (C fI : Addr) : Prop where
  T : OexC K C
  m : mg x = some (.ref C)
  iC : PySem.W.findIn K (.ref C) "__init__" = some (some (.ref fI))
  tI : PySem.W.typeIn K (.ref fI) = some (.type "function")
def spI1 (K : PySem.W.Frag) (f : Str) : Sp := fun vs H Q _ => ∃ (a C : Addr) (v : V), vs = [.ref a, v] ∧ OexC K C ∧ PySem.W.findIn K (.ref C) f = some none ∧ H a = some (exo a C none) ∧
  ∀ d, H d = none → d ≠ a → Q .non (upd (upd H d (exd d [(f, v)])) a (exo a C (some d)))
def spI2 (K : PySem.W.Frag) (f g : Str) : Sp := fun vs H Q _ => ∃ (a C : Addr) (v w : V), vs = [.ref a, v, w] ∧ OexC K C ∧ PySem.W.findIn K (.ref C) f = some none ∧ PySem.W.findIn K (.ref C) g = some none ∧ H a = some (exo a C none) ∧
  ∀ d, H d = none → d ≠ a → Q .non (upd (upd (upd H d (exd d [(f, v)])) a (exo a C (some d))) d (exd d [(g, w), (f, v)]))
section
variable {P : Program} {w : World} {K : PySem.W.Frag} {mg : Str → Option Value} {base : Heap}
theorem init1 {x qual y f p t : Str} {st : Stmt} {a : Addr} {fd : FuncData} {j : Nat} {p1 p2 p3 p4 p5 p6 q1 q2 q3 q4 : Pos} (F : Fun K x qual st a fd) (S : FnScope ["self", p] ["self", p] (defScope st)) (B : Bas K mg y)
    (hb : defBody st = [.Expr (.Call (.Attribute (.Name y p1) "__init__" p2) [.Name "self" p3, .Constant (.str t) j p4] [] p5) p6, .Assign [.Attribute (.Name "self" q1) f q2] (.Name p q3) q4])
    (hy : ∀ (L : Addr) (cd : Value), (envOfC qual (defScope st) L a cd).kindOf y = some NameKind.globalImplicit) (hs : (defScope st).names.lookup ("self" : Str) = some .local) (hp : (defScope st).names.lookup p = some .local)
    (hc : ∀ env : PySem.Env, ∃ pl : Sem Bool, eval (.Call (.Attribute (.Name y p1) "__init__" p2) [.Name "self" p3, .Constant (.str t) j p4] [] p5) env = (do
      let ov ← eval (.Name y p1) env
      standAt p2.atName
      let (f, first) ← holding [ov] (getMethod ov "__init__" pl)
      callWith p5 f first (backTo p5 (starEach [.Name "self" p3, .Constant (.str t) j p4] env)) (backToKw p5 (keywordEach [] env))))
    (hy1 : (y == ("__debug__" : Str)) = false) (hp1 : (p == ("__debug__" : Str)) = false) (hp2 : (p == ("__classdict__" : Str)) = false) :
    FnOk P w K mg base (L2N.CX P w) 2 a fd ["self", p] (spI1 K f) := by
  refine okXN F S (fun vs H Q E h => ?_) (fun cdv A outer s H vs Q E hr h => ?_)
  · obtain ⟨_, _, _, rfl, _⟩ := h
    rfl
  obtain ⟨b, C, v, rfl, T, hf, hH, hq⟩ := h
  have nd := S.nd
  have hself : PE (cxOf (L2N.CX P w) P w K mg base ["self", p] qual (defScope st) a cdv A outer s H E) (.Name "self" p3) (tVar 0) := pe_var (i := 0) rfl (.inl hs)
  have hself2 : PE (cxOf (L2N.CX P w) P w K mg base ["self", p] qual (defScope st) a cdv A outer s H E) (.Name "self" q1) (tVar 0) := pe_var (i := 0) rfl (.inl hs)
  have hpar : PE (cxOf (L2N.CX P w) P w K mg base ["self", p] qual (defScope st) a cdv A outer s H E) (.Name p q3) (tVar 1) := pe_var (i := 1) rfl (.inl hp) hp1 hp2
  obtain ⟨pl, hc⟩ := hc (cxOf (L2N.CX P w) P w K mg base ["self", p] qual (defScope st) a cdv A outer s H E).env
  have h1 := pe_linit (pl := pl) (e := .Name "self" p3) (es := [.Constant (.str t) j p4]) (pos := p5) (p1 := p1) (p2 := p2) (X := cxOf (L2N.CX P w) P w K mg base ["self", p] qual (defScope st) a cdv A outer s H E) (y := y) (hy _ _) B (pa_cons hself (pa_cons pe_str pa_nil)) (hc := hc) (hdb := hy1)
  refine ⟨_, by rw [hb]; exact pss_cons (ps_expr h1) (pss_cons (ps_ost hself2 hpar) pss_nil), ?_⟩
  exact ⟨.ref b, rfl, b, C, [.str t], rfl, by simp, T, hH, v, rfl, .ref b, rfl, b, C, rfl, T, hf, .inl ⟨hH, fun dx h1 h2 => hq dx h1 h2⟩⟩
end
section
variable {X : Cx} {e : Expr} {es : List Expr} {ta : TA} {p pos : Pos}
theorem pmk_oexN {CX : CXT} {x : Str} {C fI : Addr} {k : Nat} {fd : FuncData} {ps : List Str} {sp : Sp} {ds : List Value} {dvs : List V} (T : OexC X.K C) (iC : PySem.W.findIn X.K (.ref C) "__init__" = some (some (.ref fI))) (tI : PySem.W.typeIn X.K (.ref fI) = some (.type "function"))
    (F1 : FnOk X.prog X.w X.K X.mg X.base CX k fI fd ps sp) (hr : Room (k + 1) X.A) (hb : L2.Binds X.K fd ps ds) (hd : Vals dvs ds) (hx : Passes CX X (fun _ _ _ => False)) (hg : Gl X x) (hm : X.mg x = some (.ref C)) (ha : PA X (e :: es) ta)
    (hdb : (x == ("__debug__" : Str)) = false := by decide) (he : starEach (e :: es) X.env = (false, eval e X.env) :: starEach es X.env := by rfl) (hpl : (backTo pos (starEach es X.env)).any (·.1) = false := by rfl) :
    L2N.PMk X (.Call (.Name x p) (e :: es) [] pos) (tMkO C sp dvs ta) := fun pins s σ H Q I h => by
  obtain ⟨_, _, _, _, bm, _, _, _, _, _, _, _, _, _, _, look, hbm⟩ := T.cls
  refine wpAny_Call_Name_kw (ld_glob I hg hm ?_ hdb)
  refine PySem.W.callWith_K (h₀ := X.base) I.ok.mod.kin T.kC (thn (ha.run pos pins s σ H _ I h) fun us s1 q0 => ⟨q0.choose_spec.choose_spec.1.kIn, ?_⟩) he hpl
  obtain ⟨vs, G, J, r, hz, q⟩ := q0
  show wpAny _ _ (call (.ref C) us) _ _ _
  obtain ⟨hp, gs, dr, tk, os⟩ := s1
  obtain ⟨n, hn⟩ : ∃ n, hp.objs.size = n := ⟨_, rfl⟩
  have le1 : hp.objs.size ≤ n + 1 := by omega
  have sp1 := q (n + 1) (J.hok.fresh le1)
  have keep : ∀ b o, hp.get? b = some o → ((hp.push (PySem.W.kdv_tup us)).push (PySem.HandSPX.excO C n)).get? b = some o := fun b o z => Heap.get?_push_of_some _ (Heap.get?_push_of_some _ z)
  have there : ((hp.push (PySem.W.kdv_tup us)).push (PySem.HandSPX.excO C n)).get? (n + 1) = some (PySem.HandSPX.excO C n) := by subst hn; heap_get
  have J2 : Inv X pins σ (upd G (n + 1) (exo (n + 1) C none)) ⟨(hp.push (PySem.W.kdv_tup us)).push (PySem.HandSPX.excO C n), gs, dr, tk, os⟩ :=
    J.laid (t' := tk) (a := n + 1) (o := exo (n + 1) C none) (h' := (hp.push (PySem.W.kdv_tup us)).push (PySem.HandSPX.excO C n)) keep le1 (exo_ok there)
  have r2 : Vals (V.ref (n + 1) :: (vs ++ dvs)) (Value.ref (n + 1) :: (us ++ ds)) := .cons rfl (r.append hd)
  have len2 : (Value.ref (n + 1) :: us ++ ds).length = ps.length := (F1.len _ _ _ _ sp1 ▸ r2.length).symm
  have small : us.length ≤ sizeLine := by
    have := Paired.length r
    rw [sizeLine_eq]; omega
  subst hn
  refine wpAny_call (PySem.HandSPX.call_own F.excBase_ValueError (fun Y => PySem.HandSPX.refsVE_contains Y bm hbm) (J.kIn _ _ look) (PySem.W.looks_findIn J.kIn iC) (fun self => PySem.W.bind_fn J.kIn self tI) small (codeAny_mono
    (F1.run _ X.stack _ _ ⟨Value.ref (hp.objs.size + 1) :: us, []⟩ (Value.ref (hp.objs.size + 1) :: (us ++ ds)) _ _ (fun _ _ _ => False) (hr.make C us []) (J2.env0.make C us []) (hb _ (Value.ref (hp.objs.size + 1) :: us) J2.kIn len2) r2 sp1) fun z s' hq => ?_))
  match z, hq with
  | .error er, hq => exact hx pins σ _ _ er s' J2 hq
  | .ok (.ret u), hq =>
    obtain ⟨v, G2, o2, b2, un2, ok2, rv, rfl, d, fs, ea, ed, hd1, w⟩ := hq
    obtain ⟨h2, g2, d2, t2, _⟩ := s'
    obtain ⟨t0, B, JB, kB, gB, at2, na⟩ := mk_end0 (d2 := d2) (t2 := t2) J le1 keep un2 ok2 o2 b2 ea ed hd1
    exact ⟨rv, ⟨_, _, _, ⟨B, g2, d2, t2, _⟩, _, .ref C, some d, rfl, JB, kB, gB, at2, ⟨rfl, rfl, fun vs hv => by cases hv; rfl⟩, rfl, rfl, na, rfl, b2, raises_own T.exC T.tyC, w⟩⟩
  | .ok .next, hq => exact hq.elim
  | .ok .brk, hq => exact hq.elim
  | .ok .cont, hq => exact hq.elim
end
theorem made_heap {H1 : Hp} {a d : Addr} {o u z : HO} (ha : H1 a = none) (hd : d ≠ a) : upd (del (upd (upd (upd H1 a o) d u) a z) a) d = upd H1 d := by
  funext y b
  by_cases e1 : b = d
  · subst e1; rw [upd_same, upd_same]
  · rw [upd_ne e1, upd_ne e1]
    by_cases e2 : b = a
    · subst e2; rw [del_same, ha]
    · rw [del_ne e2, upd_ne e2, upd_ne e1, upd_ne e2]
section
variable {X : Cx} {c : Ct} {x f g : Str} {C fI : Addr} {k : Nat} {fd : FuncData} {ps : List Str} {W : WX}
theorem never {W : WX} (tk : L2N.Takes X W) : Passes (L2N.CX X.prog X.w) X (fun _ _ _ => False) := L2N.passes_call (E := fun _ _ _ => False) tk fun _ _ _ _ z => z.elim
def tMk1 (C : Addr) (f : Str) (ta : TA) : L2.St → Hp → XK → Prop := fun σ H Q => ta σ H fun vs H1 => ∃ v, vs = [v] ∧ ∀ d, H1 d = none → Q (.ref C) (some d) (upd H1 d (.xd [(f, v)]))
theorem pmk1 {e : Expr} {es : List Expr} {ta : TA} {p pos : Pos} (O : OwX X.K X.mg x C fI) (hf : PySem.W.findIn X.K (.ref C) f = some none) (F1 : FnOk X.prog X.w X.K X.mg X.base (L2N.CX X.prog X.w) k fI fd ps (spI1 X.K f)) (hr : Room (k + 1) X.A) (hb : L2.Binds X.K fd ps []) (tk : L2N.Takes X W) (hg : Gl X x) (ha : PA X (e :: es) ta)
    (hm : ∀ σ H Q Q', ta σ H Q → (∀ vs H1, Q vs H1 → Q' vs H1) → ta σ H Q')
    (hdb : (x == ("__debug__" : Str)) = false := by decide) (he : starEach (e :: es) X.env = (false, eval e X.env) :: starEach es X.env := by rfl) (hpl : (backTo pos (starEach es X.env)).any (·.1) = false := by rfl) :
    L2N.PMk X (.Call (.Name x p) (e :: es) [] pos) (tMk1 C f ta) := by
  have z := pmk_oexN (p := p) (ds := []) (dvs := []) O.T O.iC O.tI F1 hr hb .nil (never tk) hg O.m ha hdb he hpl
  intro pins s σ H Q I h
  refine z pins s σ H Q I (hm σ H _ _ h fun vs H1 ⟨v, ev, q⟩ => ?_)
  subst ev
  refine ⟨by simp, fun a ha => ⟨a, C, v, rfl, O.T, hf, upd_same, fun d hd hne => ⟨rfl, d, [(f, v)], upd_same, ?_, ?_, ?_⟩⟩⟩
  · rw [upd_ne hne, upd_same]
  · rw [upd_ne hne] at hd; exact hd
  · rw [made_heap ha hne]
    exact q d (by rw [upd_ne hne] at hd; exact hd)
end
end Tm
set_option Elab.async false
set_option linter.all false
set_option maxRecDepth 100000
set_option maxHeartbeats 2000000
namespace Tm
open PySem L2 PySem.Spec PyProof.Rows
open Evl (Ex ex_rd ex_l ex_t)
def NoX (H H' : Hp) : Prop := ∀ a o, H a = some o → (∀ fs, o ≠ .xd fs) → H' a = some o
theorem NoX.rdl {H H' : Hp} (e : NoX H H') {a : Addr} {xs : List V} (h : Rd H a (.lst xs)) : Rd H' a (.lst xs) := by
  rcases h with h | ⟨o, h⟩
  · exact Or.inl (e a _ h (fun _ z => nomatch z))
  · exact Or.inr ⟨o, e a _ h (fun _ z => nomatch z)⟩
theorem NoX.rdt {H H' : Hp} (e : NoX H H') {a : Addr} {xs : List V} (h : Rd H a (.tup xs)) : Rd H' a (.tup xs) := by
  rcases h with h | ⟨o, h⟩
  · exact Or.inl (e a _ h (fun _ z => nomatch z))
  · exact Or.inr ⟨o, e a _ h (fun _ z => nomatch z)⟩
mutual
theorem RV.sub {K : PySem.W.Frag} {H H' : Hp} (e : NoX H H') : ∀ (x : MV) (v : V), RV K H x v → RV K H' x v
  | .non, v, h => by unfold RV at h ⊢; exact h
  | .bl b, v, h => by unfold RV at h ⊢; exact h
  | .int i, v, h => by unfold RV at h ⊢; exact h
  | .str x, v, h => by unfold RV at h ⊢; exact h
  | .tup xs, v, h => by
    unfold RV at h ⊢
    obtain ⟨a, vs, e1, e2, e3⟩ := h
    exact ⟨a, vs, e1, e2.imp e.rdt id, RVs.sub e xs vs e3⟩
  | .lst xs, v, h => by
    unfold RV at h ⊢
    obtain ⟨a, vs, e1, e2, e3⟩ := h
    exact ⟨a, vs, e1, e _ _ e2 (fun _ z => nomatch z), RVs.sub e xs vs e3⟩
  | .own xs, v, h => by unfold RV at h; exact h.elim
  | .raw w, v, h => by unfold RV at h ⊢; exact h
  | .scr ns, v, h => by
    unfold RV at h ⊢
    obtain ⟨a, e1, e2⟩ := h
    exact ⟨a, e1, e2.imp e.rdl id⟩
  | .fnc x, v, h => by unfold RV at h ⊢; exact h
  | .obj C fs, v, h => by unfold RV at h; exact h.elim
theorem RVs.sub {K : PySem.W.Frag} {H H' : Hp} (e : NoX H H') : ∀ (xs : List MV) (vs : List V), RVs K H xs vs → RVs K H' xs vs
  | [], vs, h => by unfold RVs at h ⊢; exact h
  | x :: xs, vs, h => by
    unfold RVs at h ⊢
    obtain ⟨v, r, e1, e2, e3⟩ := h
    exact ⟨v, r, e1, RV.sub e x v e2, RVs.sub e xs r e3⟩
end
theorem OF.sub {K : PySem.W.Frag} {Hk Hk' H : Hp} {x : MV} {v : V} {A : List Addr} (e : NoX Hk Hk') (h : OF K Hk H x v A) : OF K Hk' H x v A := by
  cases x with
  | own xs =>
    unfold OF at h ⊢
    obtain ⟨p, vs, e1, e2, e3, e4⟩ := h
    exact ⟨p, vs, e1, e2, e3, RVs.sub e _ _ e4⟩
  | obj C fs => exact (show False by unfold OF at h; unfold RV at h; exact h.2).elim
  | _ =>
    unfold OF at h ⊢
    exact ⟨h.1, RV.sub e _ _ h.2⟩
theorem OFs.sub {K : PySem.W.Frag} {Hk Hk' H : Hp} (e : NoX Hk Hk') : ∀ {fs : List (Str × MV)} {vs : List (Str × V)} {A : List Addr}, OFs K Hk H fs vs A → OFs K Hk' H fs vs A
  | [], _, _, h => h
  | (n, x) :: fs, vs, A, h => by
    obtain ⟨v, r, B, C, e1, e2, h1, h2⟩ := h
    exact ⟨v, r, B, C, e1, e2, h1.sub e, OFs.sub e h2⟩
theorem OV.sub {K : PySem.W.Frag} {Hk Hk' H : Hp} {x : MV} {v : V} {A : List Addr} (e : NoX Hk Hk') (h : OV K Hk H x v A) : OV K Hk' H x v A := by
  cases x with
  | obj C fs =>
    unfold OV at h ⊢
    obtain ⟨p, CA, dx, vfs, B, e1, e2, e0, e3, e4, e5⟩ := h
    exact ⟨p, CA, dx, vfs, B, e1, e2, e0, e3, OFs.sub e e4, e5⟩
  | _ => (unfold OV at h ⊢; exact OF.sub e h)
section
variable {K : PySem.W.Frag} {F Hk H : Hp} {bp : List (Nat × Addr)} {σ : L2.St} {ρ : Env}
theorem SL.hole {ow : Nat → List Addr} (S : SL K F Hk H ow σ ρ) {i : Nat} (y : Option V) : SL K F Hk H (put ow i []) (σ.set i y) (ρ.set i none) := by
  refine ⟨fun j x h => ?_, fun j a h => ?_, fun j h => ?_, fun j k a hjk h => ?_⟩
  · rcases set_get h with ⟨_, e⟩ | ⟨ne, e⟩
    · cases e
    · obtain ⟨v, e1, o⟩ := S.s j x e
      refine ⟨v, by rw [List.getElem?_set_ne (Ne.symm ne)]; exact e1, ?_⟩
      unfold put
      rw [if_neg ne]; exact o
  · unfold put at h
    split at h
    · cases h
    · exact S.f j a h
  · unfold put at h
    split at h
    · exact absurd rfl h
    · rw [List.length_set]; exact S.w j h
  · unfold put at h ⊢
    split at h
    · cases h
    · split
      · simp
      · exact S.d j k a hjk h
theorem RS.hold (S : RS K F Hk H bp σ ρ) {i : Nat} {a : Addr} (hi : i < ρ.length) (hb : ∀ q ∈ bp, q.1 ≠ i) : RS K F Hk H ((i, a) :: bp) (σ.set i (some (.ref a))) (ρ.set i none) := by
  obtain ⟨ow, s⟩ := S.ow
  refine ⟨by rw [List.length_set, List.length_set, S.len], S.ex, S.fr, S.frk, ⟨_, s.hole _⟩, fun q hq => ?_⟩
  rcases List.mem_cons.mp hq with rfl | hq
  · exact List.getElem?_set_self (by rw [S.len]; exact hi)
  · rw [List.getElem?_set_ne (Ne.symm (hb q hq))]; exact S.bor q hq
theorem RS.unhold (S : RS K F Hk H ((i, a) :: bp) σ ρ) (hb : ∀ q ∈ bp, q.1 ≠ i) : RS K F Hk H bp (σ.set i none) (ρ.set i none) := by
  obtain ⟨ow, s⟩ := S.ow
  refine ⟨by rw [List.length_set, List.length_set, S.len], S.ex, S.fr, S.frk, ⟨_, s.hole _⟩, fun q hq => ?_⟩
  rw [List.getElem?_set_ne (Ne.symm (hb q hq))]; exact S.bor q (List.mem_cons_of_mem _ hq)
theorem RS.less (S : RS K F Hk H (p :: bp) σ ρ) : RS K F Hk H bp σ ρ := ⟨S.len, S.ex, S.fr, S.frk, S.ow, fun q hq => S.bor q (List.mem_cons_of_mem _ hq)⟩
theorem RS.aside (S : RS K F Hk H bp σ ρ) {dx : Addr} {fs : List (Str × V)} (hd : Hk dx = some (.xd fs)) : RS K (upd F dx (.xd fs)) (del Hk dx) H bp σ ρ := by
  have nx : NoX Hk (del Hk dx) := fun a o h n => by
    unfold del
    rw [if_neg (fun z => by subst z; rw [hd] at h; cases h; exact n _ rfl)]
    exact h
  have le : ∀ a o, del Hk dx a = some o → Hk a = some o := fun a o h => by
    unfold del at h
    split at h
    · cases h
    · exact h
  obtain ⟨ow, s⟩ := S.ow
  refine ⟨S.len, fun a o h => S.ex a o (le a o h), fun a o h => ?_, fun a o h => ?_, ⟨ow, fun i x h => ?_, fun i a h => ?_, s.w, s.d⟩, S.bor⟩
  · by_cases e : a = dx
    · subst e; rw [upd_same] at h; cases h; exact S.ex _ _ hd
    · rw [upd_ne e] at h; exact S.fr a o h
  · by_cases e : a = dx
    · subst e; exact del_same
    · rw [upd_ne e] at h; rw [del_ne e]; exact S.frk a o h
  · obtain ⟨v, e1, o⟩ := s.s i x h
    exact ⟨v, e1, o.sub nx⟩
  · obtain ⟨h1, h2, h3⟩ := s.f i a h
    have ne : a ≠ dx := fun z => by subst z; rw [hd] at h1; cases h1
    exact ⟨by rw [del_ne ne]; exact h1, by rw [upd_ne ne]; exact h2, h3⟩
theorem RS.back_in {dx : Addr} {fs : List (Str × V)} (S : RS K (upd F dx (.xd fs)) Hk H bp σ ρ) (hF : F dx = none) : RS K F (upd Hk dx (.xd fs)) H bp σ ρ := by
  have hk : Hk dx = none := S.frk dx _ upd_same
  have ex := Ex.new (o := HO.xd fs) hk
  obtain ⟨ow, s⟩ := S.ow
  refine ⟨S.len, fun a o h => ?_, fun a o h => ?_, fun a o h => ?_, ⟨ow, fun i x h => ?_, fun i a h => ?_, s.w, s.d⟩, S.bor⟩
  · by_cases e : a = dx
    · subst e; rw [upd_same] at h; cases h; exact S.fr _ _ upd_same
    · rw [upd_ne e] at h; exact S.ex a o h
  · have ne : a ≠ dx := fun z => by subst z; rw [hF] at h; cases h
    exact S.fr a o (by rw [upd_ne ne]; exact h)
  · have ne : a ≠ dx := fun z => by subst z; rw [hF] at h; cases h
    rw [upd_ne ne]
    exact S.frk a o (by rw [upd_ne ne]; exact h)
  · obtain ⟨v, e1, o⟩ := s.s i x h
    exact ⟨v, e1, o.move ex fun _ _ _ z => z⟩
  · obtain ⟨h1, h2, h3⟩ := s.f i a h
    have ne : a ≠ dx := fun z => by subst z; rw [upd_same] at h2; cases h2
    exact ⟨by rw [upd_ne ne]; exact h1, by rw [upd_ne ne] at h2; exact h2, h3⟩
end
theorem RV.flat {K K' : PySem.W.Frag} {H H' : Hp} {x : MV} {v : V} (f : flatM x = true) (h : RV K H x v) : RV K' H' x v := by
  cases x <;> first | (simp [flatM] at f; done) | (unfold RV at h ⊢; exact h)
theorem XFs.flat {K K' : PySem.W.Frag} {H H' : Hp} : ∀ {xs : List (Str × MV)} {vs : List (Str × V)}, xs.all (fun p => flatM p.2) = true → XFs K H xs vs → XFs K' H' xs vs
  | [], _, _, h => h
  | (n, x) :: xs, vs, f, h => by
    obtain ⟨v, r, e1, e2, e3⟩ := h
    simp only [List.all_cons, Bool.and_eq_true] at f
    exact ⟨v, r, e1, e2.flat f.1, XFs.flat f.2 e3⟩
structure ExT (K : PySem.W.Frag) (mg : Str → Option Value) (y : Str) (x : Str) (b : Bool) : Prop where
  ex : ∃ C D, mg x = some (.ref C) ∧ mg y = some (.ref D) ∧ PySem.W.exmOne K (.ref C) (.ref D) = some b
def mTry (i : Nat) (tab : List (Str × Bool)) (mb : MS) (mh : MX → MS) : MS := fun ρ => match mb ρ with
  | .ok r => .ok r
  | .stuck => .stuck
  | .exc e ρ1 => match tab.lookup e.cls with
    | some true => if decide (i < ρ1.length) && e.fs.all (fun p => flatM p.2) then (match mh e (ρ1.set i none) with
      | .ok (.rt v, ρ2) => .ok (.rt v, ρ2)
      | .ok (f, ρ2) => .ok (f, ρ2.set i none)
      | _ => .stuck) else .stuck
    | some false => .exc e ρ1
    | none => .stuck
def XIn (F : Hp) (e : MX) (d : Option Addr) : Prop := (e.fs = [] ∧ d = none) ∨ ∃ dx vfs, d = some dx ∧ F dx = some (.xd vfs) ∧ ∀ K H, XFs K H e.fs vfs
def cH (c : Ct) (i : Nat) (a : Addr) (e : MX) (d : Option Addr) : Ct := ⟨c.K, c.mg, fun _ _ _ _ => False, i :: c.bs, fun F bp => (∃ bq, bp = (i, a) :: bq ∧ c.J F bq) ∧ XIn F e d, fun F F1 bp x h => by
  obtain ⟨⟨bq, e1, e2⟩, h2⟩ := h
  refine ⟨⟨bq, e1, c.Jm _ _ _ x e2⟩, ?_⟩
  rcases h2 with h2 | ⟨dx, vfs, q1, q2, q3⟩
  · exact .inl h2
  · exact .inr ⟨dx, vfs, q1, x _ _ q2, q3⟩⟩
section
variable {X : Cx} {c : Ct} {y n : Str} {i : Nat} {body suite : List Stmt} {b₀ : Stmt} {np pos pos' : Pos} {tab : List (Str × Bool)} {mb : MS} {mh : MX → MS}
theorem lookup_mem : ∀ {tab : List (Str × Bool)} {x : Str} {b : Bool}, tab.lookup x = some b → (x, b) ∈ tab
  | [], _, _, h => by simp at h
  | (z, k) :: tab, x, b, h => by
    rw [List.lookup_cons] at h
    by_cases e : x = z
    · subst e
      simp at h
      subst h
      exact List.mem_cons_self ..
    · have : (x == z) = false := by simpa using e
      rw [this] at h
      exact List.mem_cons_of_mem _ (lookup_mem h)
theorem ms_try (hs : X.stack = X.env :: X.outer) (hf : X.env.frame = some X.env.locals) (hN : X.N.Nodup) (hi : X.N[i]? = some n) (hln : X.env.kindOf n = some .local) (hg : Gl X y) (tk : L2N.Takes X c.W) (ht : ∀ p ∈ tab, ExT X.K X.mg y p.1 p.2) (hne : ∃ D, X.mg y = some (.ref D))
    (hb : ∀ (W : WX) (pn : List (Addr × Obj)) (xe : Value → Shared → Prop), L2N.Takes (X.tr pn xe) W → PassesOwn (model X.prog X.w) X.A X.env xe → PSs (X.tr pn xe) body (rdS ⟨c.K, c.mg, W, c.bs, c.J, c.Jm⟩ mb))
    (hsu : ∀ (a : Addr) (oe : Obj) (C : Addr) (d : Option Addr) (pn : List (Addr × Obj)) (e : MX), X.mg e.cls = some (.ref C) → (e.cls, true) ∈ tab → L2N.Zn (.ref C) d oe → (∃ vs, oe.data = .fields vs) → PSs (X.suite a ((a, oe) :: pn)) (b₀ :: suite) (rdS (cH c i a e d) (mh e)))
    (hbs : c.bs.contains i = false := by rfl) (hK : c.K = X.K := by rfl) (hmg : c.mg = X.mg := by rfl) (hdb : (y == ("__debug__" : Str)) = false := by decide) :
    PS X (.Try body [.ExceptHandler (some (.Name y np)) (some n) (b₀ :: suite) pos'] [] [] pos) (rdS c (mTry i tab mb mh)) := by
  obtain ⟨Dy, hDy⟩ := hne
  have z := L2N.ps_try_as (x := y) (c := .ref Dy) (np := np) (pos := pos) (pos' := pos') (tb := fun W => rdS ⟨c.K, c.mg, W, c.bs, c.J, c.Jm⟩ mb) (Wout := c.W)
    (ts := fun a cls d D σ H => ∃ e C, X.mg e.cls = some (.ref C) ∧ cls = .ref C ∧ (e.cls, true) ∈ tab ∧ rdS (cH c i a e d) (mh e) D σ H) hs hf hN hi hln ⟨hg, hdb, .inl hDy⟩ tk hb
    (fun a oe cls d pn hz hv => ⟨fun pins s σ H D I ⟨e, C, h1, h2, h3, h4⟩ => (hsu a oe C d pn e h1 h3 (by rw [← h2]; exact hz) hv).run pins s σ H D I h4⟩)
  refine PSw z fun D σ H h => ?_
  obtain ⟨F, Hk, bp, ρ, S, h⟩ := h
  refine ⟨F, Hk, bp, ρ, S, ?_⟩
  unfold mTry at h
  cases em : mb ρ with
  | stuck => rw [em] at h; exact h
  | ok r =>
    rw [em] at h
    obtain ⟨f, ρ'⟩ := r
    cases f <;> exact h
  | exc e ρ1 =>
    rw [em] at h
    intro Hk' H' σ' cls d x S1 er
    obtain ⟨C, g1, g2, g3⟩ := er
    subst g2
    have g1' : X.mg e.cls = some (.ref C) := by rw [← hmg]; exact g1
    cases el : tab.lookup e.cls with
    | none => simp only [el] at h; exact h.elim
    | some b =>
      obtain ⟨C', D', k1, k2, k3⟩ := (ht _ (lookup_mem el)).ex
      rw [g1'] at k1
      cases k1
      rw [hDy] at k2
      cases k2
      refine ⟨b, k3, fun hyes a ha => ?_, fun hno => ?_⟩
      · subst hyes
        simp only [el] at h
        split at h
        · rename_i hc
          simp only [Bool.and_eq_true, decide_eq_true_eq] at hc
          refine ⟨e, C, g1', rfl, lookup_mem el, ?_⟩
          have hbq : ∀ q ∈ bp, q.1 ≠ i := nb S.2.1 hbs
          -- the state of the clause
          have main : ∃ F2 Hk2, RS c.K F2 Hk2 H' ((i, a) :: bp) (σ'.set i (some (.ref a))) (ρ1.set i none) ∧ Ex F F2 ∧ XIn F2 e d ∧ ∀ Hk3 H3 bq σ3 ρ3, Ex Hk2 Hk3 → RS c.K F2 Hk3 H3 bq σ3 ρ3 → ∃ Hk4, Ex Hk' Hk4 ∧ RS c.K F Hk4 H3 bq σ3 ρ3 ∧ Ex Hk3 Hk4 := by
            rcases g3 with g3 | ⟨dx, vfs, q1, q2, q3⟩
            · exact ⟨F, Hk', S1.hold hc.1 hbq, Ex.refl _, .inl g3, fun Hk3 H3 bq σ3 ρ3 x3 S3 => ⟨Hk3, x3, S3, Ex.refl _⟩⟩
            · have fn : F dx = none := by
                cases e0 : F dx with
                | none => rfl
                | some o => have := S1.frk dx o e0; rw [q2] at this; cases this
              refine ⟨_, _, (S1.hold hc.1 hbq).aside q2, Ex.new fn, .inr ⟨dx, vfs, q1, upd_same, fun K H => q3.flat hc.2⟩, fun Hk3 H3 bq σ3 ρ3 x3 S3 => ⟨_, fun b o hb => ?_, S3.back_in fn, Ex.new (S3.frk dx _ upd_same)⟩⟩
              by_cases e0 : b = dx
              · subst e0; rw [q2] at hb; cases hb; exact upd_same
              · rw [upd_ne e0]
                exact x3 _ _ (by rw [del_ne e0]; exact hb)
          obtain ⟨F2, Hk2, S2, xF, xi, out⟩ := main
          refine ⟨F2, Hk2, (i, a) :: bp, _, ⟨S2, ?_, ⟨bp, rfl, c.Jm _ _ _ xF S.2.2⟩, xi⟩, ?_⟩
          · show i :: bp.map (·.1) = i :: c.bs
            rw [S.2.1]
          cases eh : mh e (ρ1.set i none) with
          | stuck => rw [eh] at h; exact h.elim
          | exc e2 ρ2 => rw [eh] at h; exact h.elim
          | ok r =>
            obtain ⟨f, ρ2⟩ := r
            rw [eh] at h
            cases f with
            | nx =>
              intro Hk3 H3 σ3 x3 S3
              obtain ⟨Hk4, x4, S4, _⟩ := out Hk3 H3 _ _ _ x3 S3
              exact h Hk4 H3 _ (x.trans x4) (S4.unhold hbq)
            | br =>
              intro Hk3 H3 σ3 x3 S3
              obtain ⟨Hk4, x4, S4, _⟩ := out Hk3 H3 _ _ _ x3 S3
              exact h Hk4 H3 _ (x.trans x4) (S4.unhold hbq)
            | ct =>
              intro Hk3 H3 σ3 x3 S3
              obtain ⟨Hk4, x4, S4, _⟩ := out Hk3 H3 _ _ _ x3 S3
              exact h Hk4 H3 _ (x.trans x4) (S4.unhold hbq)
            | rt v =>
              intro Hk3 H3 σ3 w x3 hq S3
              obtain ⟨Hk4, x4, S4, _⟩ := out Hk3 H3 _ _ _ x3 S3
              exact h Hk4 H3 _ w (x.trans x4) (fun q hq' => hq q (List.mem_cons_of_mem _ hq')) S4.less
        · exact h.elim
      · subst hno
        simp only [el] at h
        exact h Hk' H' σ' _ d x S1 ⟨C, g1, rfl, g3⟩
end
end Tm
set_option Elab.async false
set_option linter.all false
set_option maxRecDepth 100000
set_option maxHeartbeats 2000000
namespace Tm
open PySem L2 PySem.Spec PyProof.Rows
open Evl (Ex ex_rd ex_l ex_t)
def mRaise1 (x f : Str) (a : ME) : MS := fun ρ => (a ρ).bind fun y ρ1 => .exc ⟨x, [(f, y)]⟩ ρ1
structure Cl0 (K : PySem.W.Frag) (mg : Str → Option Value) (x : Str) : Prop where
  ex : ∃ C, mg x = some (.ref C) ∧ PySem.W.excIn K C PySem.HandSPX.veTail "ValueError.__new__" = true ∧ PySem.W.keepIn K (.ref C) = true ∧ PySem.W.subIn K (.ref C) (.type "BaseException") = some true ∧ PySem.W.typeIn K (.ref C) = some (.type "type")
structure Cl1 (P : Program) (w : World) (K : PySem.W.Frag) (mg : Str → Option Value) (base : Heap) (x f : Str) : Prop where
  ex : ∃ C fI fd ps, OwX K mg x C fI ∧ PySem.W.findIn K (.ref C) f = some none ∧ FnOk P w K mg base (L2N.CX P w) 2 fI fd ps (spI1 K f) ∧ L2.Binds K fd ps []
structure Cl2 (P : Program) (w : World) (K : PySem.W.Frag) (mg : Str → Option Value) (base : Heap) (x f g : Str) : Prop where
  ex : ∃ C fI fd ps, OwX K mg x C fI ∧ PySem.W.findIn K (.ref C) f = some none ∧ PySem.W.findIn K (.ref C) g = some none ∧ FnOk P w K mg base (L2N.CX P w) 2 fI fd ps (spI2 K f g) ∧ L2.Binds K fd ps []
section
variable {X : Cx} {c : Ct} {x f g m : Str} {k j : Nat}
theorem ms_raise1 {e : Expr} {a : ME} {p p2 pos : Pos} (Z : Cl1 X.prog X.w X.K X.mg X.base x f) (hc : X.calm = true) (hr : Room k X.A) (hk : 3 ≤ k) (tk : L2N.Takes X c.W) (hg : Gl X x) (he : PE X e (rdE c a)) (hmg : c.mg = X.mg := by rfl)
    (hdb : (x == ("__debug__" : Str)) = false := by decide) (hst : starEach [e] X.env = (false, eval e X.env) :: starEach [] X.env := by rfl) (hpl : (backTo p2 (starEach [] X.env)).any (·.1) = false := by rfl) :
    PS X (.Raise (some (.Call (.Name x p) [e] [] p2)) none pos) (rdS c (mRaise1 x f a)) := by
  obtain ⟨C, fI, fd, ps, O, h2, h3, h4⟩ := Z.ex
  refine PSw (L2N.ps_raise hc tk (pmk1 (W := c.W) O h2 h3 (hr.mono hk) h4 tk hg (ma_cons he ma_nil hst) (fun σ H Q Q' q w => rdAw q w) hdb hst hpl)) fun D σ H ⟨F, Hk, bp, ρ, S, h⟩ => ?_
  have h : okS c F Hk bp D ((a ρ).bind fun y ρ1 => .exc ⟨x, [(f, y)]⟩ ρ1) := h
  refine ⟨F, Hk, bp, ρ, S, ?_⟩
  show okA c F Hk bp σ _ ((a ρ).bind fun y ρ1 => (mNil ρ1).bind fun xs ρ2 => .ok (y :: xs, ρ2))
  cases ea : a ρ with
  | stuck => rw [ea] at h; exact h
  | exc e ρ' => rw [ea] at h; exact fun Hk' H' cls d => h Hk' H' σ cls d
  | ok q =>
    obtain ⟨y, ρ1⟩ := q
    rw [ea] at h
    intro Hk1 H1 vs x1 S1 r1
    obtain ⟨v, us, rfl, r2, r3⟩ := RVs.cons.mp r1
    cases RVs.nil.mp r3
    refine ⟨v, rfl, fun d hd => ?_⟩
    have xn := Ex.new (o := HO.xd [(f, v)]) (S1.ex.back hd)
    exact h _ _ _ _ _ (x1.trans xn) (S1.new hd) ⟨C, by rw [hmg]; exact O.m, rfl, .inr ⟨d, _, rfl, upd_same, v, [], rfl, r2.mono xn, rfl⟩⟩
end
section
variable {prog : Program} {w : World} {A : Around} {E : Value → Shared → Prop} {s : Shared} {K : PySem.W.Frag} {x D : Addr} {ox : Obj} {od : Option Obj}
theorem findObj_any {C : Addr} {name : Str} {a g : Value} (hc : (PySem.W.clsIn K C).isSome = true) (ha : PySem.W.findIn K (.ref C) name = some (some a)) (hg : PySem.W.specialIn K a "__get__" = some (some g)) (ht : PySem.W.takesIn K a = some true) : PySem.W.findObj K C od name = some (.bind g a) := by
  obtain ⟨cd, hc⟩ := Option.isSome_iff_exists.mp hc
  unfold PySem.W.findObj
  rw [hc, Option.bind_some, ha, Option.bind_some]
  simp [hg, ht]
open PySem.W PySem.Calls in
theorem class_any {Q : Option Value → Shared → Prop} (c : ExcC K D) (X : K.In s.heap) (I : InstAt s.heap x ox D od) (h : Q (some (.ref D)) { s with toks := s.toks + 1 }) : wpAny (model prog w) A (getAttr? (.ref x) "__class__") Q E s := by
  have hf : findObj K D od "__class__" = some (.bind (.builtin "getset_descriptor.__get__") (.builtin "object.__class__")) := findObj_any (by obtain ⟨cd, hc, _⟩ := any_some c.hd; rw [hc]; rfl) c.ha c.hn c.ht
  obtain ⟨hp, g, d, t, os⟩ := s
  have L0 := I.type (M := model prog w)
  have L1 := looks_findIn (M := model prog w) X c.hg
  have L2 := looks_findIn (M := model prog w) X c.hk
  have L3 := looks_find (M := model prog w) X I hf
  have sub : Looks (model prog w) hp (isInstance (.ref x) (.type "BaseException")) true := L0.andThen (looks_subIn X c.hs)
  have z0 : (false && onTheHeap (Value.builtin "BaseException.__getattribute__")) = false := rfl
  have z2 : (Value.builtin "BaseException.__getattribute__" == Value.builtin "object.__getattribute__") = false := by decide +kernel
  have z1 : (onTheHeap (Value.ref D) && Value.builtin "BaseException.__getattribute__" == Value.builtin "object.__getattribute__") = false := by rw [z2]; rfl
  unfold getAttr? getAttrBy? getAttrBy
  refine wpAny_bind (wpAny_mkText (wpAny_bind (wpAny_attempt (wpAny_holding (wpAny_bind (L0.at (wpAny_bind (L1.at ?_))))))))
  show wpAny _ _ (if (onTheHeap (Value.ref D) && Value.builtin "BaseException.__getattribute__" == Value.builtin "object.__getattribute__") = true then _ else _) _ _ _
  rw [z1, if_neg Bool.false_ne_true]
  unfold getAttrByItsOwn hookBefore
  refine wpAny_bind ?_
  rw [if_pos (show onTheHeap (Value.ref D) = true from rfl)]
  refine L2.at ?_
  refine wpAny_bind (wpAny_attempt (wpAny_holding ?_))
  unfold callGetattribute
  rw [z0, if_neg Bool.false_ne_true]
  unfold boundAndCalled
  rw [PySem.F.excAttr_ValueError.ga.bind (.ref x)]
  refine wpAny_bind (wpAny_pure ?_)
  show wpAny _ _ (call (.builtin "BaseException.__getattribute__") [.ref x, .str "__class__" t]) _ _ _
  refine wpAny_call (codeAny_call_builtin PySem.F.excAttr_ValueError.ga.plain PySem.F.entry_bexc_ga ?_)
  refine @check_slot (model prog w) _ _ ⟨hp, g, d, t + 1, os⟩ "BaseException.__getattribute__" "BaseException" "__getattribute__" (.ref x) [.str "__class__" t] [] _ (by decide +kernel) (by decide +kernel) sub (PySem.F.args_bexc_ga (.ref x) (.str "__class__" t)) ?_
  unfold Builtin.«object.__getattribute__»
  refine wpAny_bind (wpAny_of_eq (a := ((Value.ref x : Value), [Value.str "__class__" t])) (by first | rfl | (simp only [slotArgs]; rfl)) ?_)
  refine wpAny_bind (wpAny_pure (wpAny_bind (L0.at (wpAny_bind (L3.at ?_)))))
  show wpAny _ _ (holding [Value.builtin "object.__class__"] (call (.builtin "getset_descriptor.__get__") [.builtin "object.__class__", .ref x, .ref D]) >>= ret) _ _ _
  refine wpAny_bind (wpAny_holding (wpAny_call (class_get (s := ⟨hp, g, d, t + 1, os⟩) (ox := ox) (od := od) X I c.hm ?_)))
  refine wpAny_pure ?_
  show wpAny _ _ (handedOut (.ref D)) _ _ _
  rw [handedOut_of (v := .ref D) rfl]
  first
    | exact wpAny_pure (wpAny_pure h)
    | exact wpAny_pure h
    | exact wpAny_pure (wpAny_bind (wpAny_pure (wpAny_pure h)))
open PySem.W PySem.Calls in
theorem kitx_any (c : ExcC K D) : KitX K (.ref x) (.ref D) (fun h => InstAt h x ox D od) where
  ty := fun _ _ _ I => I.type
  it := fun _ _ X _ => by
    obtain ⟨cdD, hcD, _⟩ := any_some c.hd
    unfold clsIn at hcD
    split at hcD
    · rename_i c' d' cd' sl' ho
      intro A' Q' E' s' k q
      unfold isType loadHead
      exact wpAny_bind (wpAny_loadPart (k _ _ (X _ _ ho)) (wpAny_pure q))
    · cases hcD
  ne := fun h tp dd its n sl X htp => by
    obtain ⟨cdD, hcD, _⟩ := any_some c.hd
    refine Bool.eq_false_iff.mpr fun q => ?_
    have e : D = tp := Value.ref.inj (beq_iff_eq.mp q)
    subst e
    unfold clsIn at hcD
    split at hcD
    · rename_i c' d' cd' sl' ho
      have z := (X _ _ ho).symm.trans htp
      cases z
    · cases hcD
  ca := fun X I k => class_any c X I k
end
def rIsX (K : PySem.W.Frag) (D a : Addr) (d : Option Addr) : List V → Hp → VK → Prop := fun xs H Q => ∃ (c : V) (cv : Value) (b : Bool), xs = [.ref a, c] ∧ (∀ u, RelV c u → u = cv) ∧ PySem.W.kitOne K (.ref D) cv = some b ∧ (d = none ∨ ∃ dd fs, d = some dd ∧ H dd = some (.xd fs)) ∧ Q (.bl b) H
theorem call_isX {X : Cx} {a D : Addr} {oe : Obj} {d : Option Addr} (hm : (a, oe) ∈ X.pn) (C : ExcC X.K D) (hz : Zc (.ref D) d oe) (hf : ∃ vs, oe.data = .fields vs) : CallR X (.builtin "isinstance") (rIsX X.K D a d) := by
  intro pins s σ H xs us Q I r h
  obtain ⟨c, cv, b, rfl, hcv, e, hd, q⟩ := h
  cases r with
  | cons rx rr =>
    cases rr with
    | cons rt rr =>
      cases rr
      cases rx
      have ec := hcv _ rt
      subst ec
      obtain ⟨hget, _⟩ := I.pin (a, oe) (List.mem_append.mpr (.inl hm))
      obtain ⟨vs, hv⟩ := hf
      have J : ∃ od, PySem.W.InstAt s.heap a oe D od := by
        rcases hd with hd | ⟨dd, fs, hd, hh⟩
        · exact ⟨none, hget, hz.1, by unfold PySem.W.notCls; rw [hv] <;> rfl, by rw [hz.2, hd]; trivial⟩
        · obtain ⟨mA, hns, _⟩ := I.hok dd _ hh
          obtain ⟨od, ho, _⟩ := lookIn_ns hns
          exact ⟨some od, hget, hz.1, by unfold PySem.W.notCls; rw [hv] <;> rfl, by rw [hz.2, hd]; exact ho⟩
      obtain ⟨od, J⟩ := J
      exact PySem.W.kia_one (kitx_any C) I.kIn J e (fun z => nomatch z) fun tk => ⟨.bl b, H, I.kept (t' := tk) fun _ _ z => z, rfl, q⟩
def mExF (e : MX) (f : Str) : ME := fun ρ => match e.fs.lookup f with
  | some x => .ok (x, ρ)
  | none => .stuck
def mExIs (e : MX) (tab : List (Str × Bool)) : ME := fun ρ => match tab.lookup e.cls with
  | some b => .ok (.bl b, ρ)
  | none => .stuck
theorem XFs.look {K : PySem.W.Frag} {H : Hp} {f : Str} {x : MV} : ∀ {xs : List (Str × MV)} {vs : List (Str × V)}, XFs K H xs vs → xs.lookup f = some x → ∃ v, vs.lookup f = some v ∧ RV K H x v
  | [], _, _, h => by simp at h
  | (n, y) :: xs, vs, r, h => by
    obtain ⟨v, rr, e1, e2, e3⟩ := r
    subst e1
    rw [List.lookup_cons] at h ⊢
    cases eq : f == n with
    | true => rw [eq] at h; cases h; exact ⟨v, rfl, e2⟩
    | false => rw [eq] at h; exact XFs.look e3 h
section
variable {X : Cx} {c : Ct} {a C : Addr} {oe : Obj} {d : Option Addr} {pn : List (Addr × Obj)} {e : MX} {i : Nat} {n f y : Str} {p p1 p2 pos : Pos}
theorem me_xf (T : XfC X.K C) (hno : PySem.W.findIn X.K (.ref C) f = some none) (hz : Zc (.ref C) d oe) (hf : ∃ vs, oe.data = .fields vs) (hN : X.N[i]? = some n) (hv : Vis X.env.scope n) (hK : c.K = X.K := by rfl)
    (hb : attributeBase (.Name n p) f X.env (eval (.Name n p) X.env) = eval (.Name n p) X.env := by rfl) (hd : (n == ("__debug__" : Str)) = false := by decide) (hcd : (n == ("__classdict__" : Str)) = false := by decide) :
    PE (X.suite a ((a, oe) :: pn)) (.Attribute (.Name n p) f pos) (rdE (cH c i a e d) (mExF e f)) := by
  refine PEw (pe_xf T hno hz hf (pe_var (i := i) hN hv hd hcd) hb) fun σ H Q ⟨F, Hk, bp, ρ, S, h⟩ => ?_
  obtain ⟨⟨bq, e1, e2⟩, xi⟩ := S.2.2
  refine ⟨.ref a, S.1.bor (i, a) (by rw [e1]; exact List.mem_cons_self ..), rfl, rfl, ?_⟩
  unfold mExF at h
  cases el : e.fs.lookup f with
  | none => rw [el] at h; exact h.elim
  | some x =>
    rw [el] at h
    rcases xi with ⟨z, _⟩ | ⟨dx, vfs, q1, q2, q3⟩
    · rw [z] at el; cases el
    · obtain ⟨v, g1, g2⟩ := (q3 (cH c i a e d).K Hk).look el
      exact ⟨dx, vfs, v, q1, S.1.fr _ _ q2, g1, h _ _ _ (Ex.refl _) S.1 g2⟩
theorem me_isXG {tab : List (Str × Bool)} {v : V} {cv : Value} (hm : (a, oe) ∈ X.pn) (T : ExcC X.K C) (hz : Zc (.ref C) d oe) (hf : ∃ vs, oe.data = .fields vs) (hN : X.N[i]? = some n) (hv : Vis X.env.scope n) (hi : X.mg "isinstance" = none) (hg : Gl X "isinstance") (he : PE X (.Name y p2) (tC v)) (hc : ∀ u, RelV v u → u = cv)
    (ht : ∀ b, tab.lookup e.cls = some b → PySem.W.kitOne X.K (.ref C) cv = some b)
    (hd : (n == ("__debug__" : Str)) = false := by decide) (hcd : (n == ("__classdict__" : Str)) = false := by decide) :
    PE X (.Call (.Name "isinstance" p) [.Name n p1, .Name y p2] [] pos) (rdE (cH c i a e d) (mExIs e tab)) := by
  have ha : PA X [.Name n p1, .Name y p2] (tCons (tVar i) (tCons (tC v) tNil)) := pa_cons (pe_var (i := i) hN hv hd hcd) (pa_cons he pa_nil)
  refine PEw (pe_callB (call_isX hm T hz hf) hg hi (by decide +kernel) ha (by decide) (by decide)) fun σ H Q ⟨F, Hk, bp, ρ, S, h⟩ => ?_
  obtain ⟨⟨bq, e1, e2⟩, xi⟩ := S.2.2
  refine ⟨.ref a, S.1.bor (i, a) (by rw [e1]; exact List.mem_cons_self ..), ?_⟩
  unfold mExIs at h
  cases el : tab.lookup e.cls with
  | none => rw [el] at h; exact h.elim
  | some b =>
    rw [el] at h
    refine ⟨v, cv, b, rfl, hc, ht b el, ?_, h _ _ _ (Ex.refl _) S.1 (RV.bl.mpr rfl)⟩
    rcases xi with ⟨_, z⟩ | ⟨dx, vfs, q1, q2, q3⟩
    · exact .inl z
    · exact .inr ⟨dx, vfs, q1, S.1.fr _ _ q2⟩
theorem me_isX {tab : List (Str × Bool)} (hm : (a, oe) ∈ X.pn) (T : ExcC X.K C) (hz : Zc (.ref C) d oe) (hf : ∃ vs, oe.data = .fields vs) (hN : X.N[i]? = some n) (hv : Vis X.env.scope n) (hi : X.mg "isinstance" = none) (hg : Gl X "isinstance") (hy : Gl X y) {Dy : Addr} (my : X.mg y = some (.ref Dy))
    (ht : ∀ b, tab.lookup e.cls = some b → PySem.W.kitOne X.K (.ref C) (.ref Dy) = some b)
    (hd : (n == ("__debug__" : Str)) = false := by decide) (hcd : (n == ("__classdict__" : Str)) = false := by decide) (hyd : (y == ("__debug__" : Str)) = false := by decide) :
    PE X (.Call (.Name "isinstance" p) [.Name n p1, .Name y p2] [] pos) (rdE (cH c i a e d) (mExIs e tab)) := me_isXG hm T hz hf hN hv hi hg (pe_glob hy my (v := .ref Dy) rfl hyd) (fun _ r => r) ht hd hcd
end
theorem fa_nil {α : Type} {P : α → Prop} : ∀ p ∈ ([] : List α), P p := fun _ h => nomatch h
theorem fa_cons {α : Type} {P : α → Prop} {x : α} {l : List α} (h : P x) (t : ∀ p ∈ l, P p) : ∀ p ∈ x :: l, P p := fun p hp => by
  rcases List.mem_cons.mp hp with rfl | hp
  · exact h
  · exact t p hp
def xcB (K : PySem.W.Frag) (C : Addr) (fs : List Str) : Bool := xfB K C && decide (PySem.W.findIn K (.ref C) "__class__" = some (some (.builtin "object.__class__"))) && decide (PySem.W.specialIn K (.builtin "object.__class__") "__get__" = some (some (.builtin "getset_descriptor.__get__"))) && decide (PySem.W.takesIn K (.builtin "object.__class__") = some true) && decide (PySem.W.mroIn K C (.type "object") = some true) && fs.all (fun f => decide (PySem.W.findIn K (.ref C) f = some none))
structure XcF (K : PySem.W.Frag) (mg : Str → Option Value) (fs : List Str) (x : Str) : Prop where
  ex : ∃ C, mg x = some (.ref C) ∧ xcB K C fs = true
structure KiT (K : PySem.W.Frag) (mg : Str → Option Value) (y x : Str) (b : Bool) : Prop where
  ex : ∃ C D, mg x = some (.ref C) ∧ mg y = some (.ref D) ∧ PySem.W.kitOne K (.ref C) (.ref D) = some b
structure XcG (K : PySem.W.Frag) (C : Addr) (fs : List Str) : Prop where
  xf : XfC K C
  xc : ExcC K C
  no : ∀ f ∈ fs, PySem.W.findIn K (.ref C) f = some none
theorem xcB_ok {K : PySem.W.Frag} {C : Addr} {fs : List Str} (h : xcB K C fs = true) : XcG K C fs := by
  unfold xcB at h
  simp only [Bool.and_eq_true, decide_eq_true_eq, List.all_eq_true] at h
  obtain ⟨⟨⟨⟨⟨h1, h2⟩, h3⟩, h4⟩, h5⟩, h6⟩ := h
  have T := xfB_ok h1
  exact ⟨T, ⟨T.ga, T.gg, T.exC, T.hdC, h2, h3, h4, h5⟩, h6⟩
theorem xc_at {K : PySem.W.Frag} {mg : Str → Option Value} {fs ts : List Str} {tab : List (Str × Bool)} {x : Str} {C : Addr} (Xs : ∀ x ∈ ts, XcF K mg fs x) (ht : tab.all (fun p => !p.2 || ts.contains p.1) = true) (hC : mg x = some (.ref C)) (hT : (x, true) ∈ tab) : XcG K C fs := by
  have h := List.all_eq_true.mp ht _ hT
  simp at h
  obtain ⟨C', h1, h2⟩ := (Xs x h).ex
  rw [hC] at h1
  cases h1
  exact xcB_ok h2
section
variable {X : Cx} {c : Ct} {a C : Addr} {oe : Obj} {d : Option Addr} {pn : List (Addr × Obj)} {e : MX} {i : Nat} {n f y : Str} {p p1 p2 pos : Pos} {fs : List Str} {tab tab2 : List (Str × Bool)}
theorem mx_f (G : XcG X.K C fs) (hf : f ∈ fs) (hz : L2N.Zn (.ref C) d oe) (hv : ∃ vs, oe.data = .fields vs) (hN : X.N[i]? = some n) (hl : Vis X.env.scope n)
    (hb : attributeBase (.Name n p) f X.env (eval (.Name n p) X.env) = eval (.Name n p) X.env := by rfl) (hd : (n == ("__debug__" : Str)) = false := by decide) (hcd : (n == ("__classdict__" : Str)) = false := by decide) (hK : c.K = X.K := by rfl) :
    PE (X.suite a ((a, oe) :: pn)) (.Attribute (.Name n p) f pos) (rdE (cH c i a e d) (mExF e f)) := me_xf G.xf (G.no f hf) hz.zc hv hN hl hK hb hd hcd
theorem mx_isG (hm : (a, oe) ∈ X.pn) (G : XcG X.K C fs) (Ks : ∀ b, tab2.lookup e.cls = some b → KiT X.K X.mg y e.cls b) (ney : ∃ D, X.mg y = some (.ref D)) (hC : X.mg e.cls = some (.ref C)) (hz : L2N.Zn (.ref C) d oe) (hv : ∃ vs, oe.data = .fields vs) (hN : X.N[i]? = some n) (hl : Vis X.env.scope n) (hi : X.mg "isinstance" = none) (hg : Gl X "isinstance") (hy : Gl X y)
    (hd : (n == ("__debug__" : Str)) = false := by decide) (hcd : (n == ("__classdict__" : Str)) = false := by decide) (hyd : (y == ("__debug__" : Str)) = false := by decide) :
    PE X (.Call (.Name "isinstance" p) [.Name n p1, .Name y p2] [] pos) (rdE (cH c i a e d) (mExIs e tab2)) := by
  obtain ⟨Dy, my⟩ := ney
  refine me_isX hm G.xc hz.zc hv hN hl hi hg hy my (fun b hb => ?_) hd hcd hyd
  obtain ⟨C', D', k1, k2, k3⟩ := (Ks _ hb).ex
  rw [hC] at k1
  cases k1
  rw [my] at k2
  cases k2
  exact k3
theorem mx_isT {T : String} (hm : (a, oe) ∈ X.pn) (G : XcG X.K C fs) (Ks : PySem.W.kitOne X.K (.ref C) (.type T) = some true) (ht : tab2.all (·.2) = true) (hz : L2N.Zn (.ref C) d oe) (hv : ∃ vs, oe.data = .fields vs) (hN : X.N[i]? = some n) (hl : Vis X.env.scope n) (hi : X.mg "isinstance" = none) (hg : Gl X "isinstance") (hy : Gl X y) (my : X.mg y = none) (hb : bootBuiltins y = some (.type T))
    (hd : (n == ("__debug__" : Str)) = false := by decide) (hcd : (n == ("__classdict__" : Str)) = false := by decide) (hyn : y ≠ "__name__" := by decide) (hyd : (y == ("__debug__" : Str)) = false := by decide) :
    PE X (.Call (.Name "isinstance" p) [.Name n p1, .Name y p2] [] pos) (rdE (cH c i a e d) (mExIs e tab2)) :=
  me_isXG hm G.xc hz.zc hv hN hl hi hg (pe_bltn hy my hb (v := .ty T) rfl hyn hyd) (fun _ r => r) (fun b hb => by
    have := List.all_eq_true.mp ht _ (lookup_mem hb)
    have e : b = true := this
    rw [e]; exact Ks) hd hcd
end
def inCls (s : Stmt) (j : Nat) : Stmt := match s with
  | .ClassDef _ _ _ b _ _ _ _ _ _ _ => b.getD j (.Pass ⟨0, 0, 0, 0⟩)
  | _ => .Pass ⟨0, 0, 0, 0⟩
theorem owX_mk {K : PySem.W.Frag} {mg : Str → Option Value} {x : Str} {C fI : Addr} {nm q : Str} {N : Addr} {bs bm : List Value} {sn : List Str} {sub : List Value} {ab : Bool} {col : Option Bool} {dd : Option Addr} {k0 k1 k2 k3 k5 : Option Value}
    (m : mg x = some (.ref C)) (l : K.lookup C = some (excClassObj nm q C N bs bm true sn sub ab col dd k0 k1 k2 k3 k5 "ValueError.__new__")) (r : PySem.HandSPX.refsVE bm = true) (sa : PySem.W.findIn K (.ref C) "__setattr__" = some (some (.builtin "object.__setattr__")))
    (eC : PySem.W.subIn K (.ref C) (.type "BaseException") = some true) (tC : PySem.W.typeIn K (.ref C) = some (.type "type")) (kC : PySem.W.keepIn K (.ref C) = true) (iC : PySem.W.findIn K (.ref C) "__init__" = some (some (.ref fI))) (tI : PySem.W.typeIn K (.ref fI) = some (.type "function")) : OwX K mg x C fI :=
  ⟨⟨⟨nm, q, N, bs, bm, sn, sub, ab, col, dd, k0, k1, k2, k3, k5, l, r⟩, sa, eC, tC, kC⟩, m, iC, tI⟩
end Tm
set_option Elab.async false
set_option linter.all false
set_option maxRecDepth 100000
set_option maxHeartbeats 2000000
namespace Tm
open PySem L2
open Evl (Ex ex_rd ex_l ex_t)
def fAddL : MV → MV → Option (List MV)
  | .lst a, .lst b => if szOk (a.length + b.length) then some (a ++ b) else none
  | _, _ => none
def mOpO (f : MV → MV → Option (List MV)) (a b : ME) : ME := fun ρ => (a ρ).bind fun x ρ1 => (b ρ1).bind fun y ρ2 => match f x y with
  | some zs => .ok (.own zs, ρ2)
  | none => .stuck
section
variable {X : Cx} {c : Ct} {a b : Expr} {ma mb : ME} {pos : Pos}
def OpN (K : PySem.W.Frag) (f : MV → MV → Option (List MV)) (r : R2) : Prop := ∀ (x y : MV) (zs : List MV) (v w : V) (Hk H : Hp) (Q : VK), f x y = some zs → Ex Hk H → RV K Hk x v → RV K Hk y w →
  (∀ p vs, H p = none → RVs K Hk zs vs → Q (.ref p) (upd H p (.lst vs))) → r v w H Q
theorem mo_op {op : Operator} {f : MV → MV → Option (List MV)} {r : R2} (hop : OpR X (binaryOp op) r) (o : OpN c.K f r) (ha : PE X a (rdE c ma)) (hb : PE X b (rdE c mb)) : PE X (.BinOp a op b pos) (rdO c (mOpO f ma mb)) :=
  PEw (pe_op hop ha hb) fun σ H Q h => by
    obtain ⟨F, Hk, bp, ρ, S, h⟩ := h
    refine rdw (bE postO S h) fun v H1 ⟨Hk1, x, ρ1, x1, S1, r1, h1⟩ => ?_
    refine rdw (bE postO S1 h1) fun w H2 ⟨Hk2, y, ρ2, x2, S2, r2, h2⟩ => ?_
    split at h2
    · rename_i zs e
      exact o x y zs v w Hk2 H2 Q e S2.1.ex (RV.mono x2 _ _ r1) r2 fun p vs hp rv => h2 _ _ _ (Ex.refl _) (S2.1.pushOwn hp rv)
    · exact h2.elim
theorem on_add {K : PySem.W.Frag} : OpN K fAddL (rAddM K) := by
  intro x y zs v w Hk H Q e ex r1 r2 q
  unfold fAddL at e
  split at e
  · split at e
    · rename_i a b h
      cases e
      obtain ⟨p1, vs, rfl, h1, s1⟩ := RV.lst.mp r1
      obtain ⟨p2, ws, rfl, h2, s2⟩ := RV.lst.mp r2
      refine .inr (.inr (.inr (.inl ⟨p1, p2, vs, ws, rfl, rfl, ex _ _ h1, ex _ _ h2, ?_, fun p hp => q p _ hp (s1.append s2)⟩)))
      rw [s1.length, s2.length]; exact szOk_iff.mp h
    · cases e
  · cases e
theorem mo_add (ha : PE X a (rdE c ma)) (hb : PE X b (rdE c mb)) (hK : c.K = X.K := by rfl) : PE X (.BinOp a .Add b pos) (rdO c (mOpO fAddL ma mb)) := mo_op op_addM (by rw [← hK]; exact on_add) ha hb
end
end Tm
set_option Elab.async false
set_option linter.all false
set_option maxRecDepth 100000
set_option maxHeartbeats 2000000
namespace Tm
open PySem L2
open Evl (Ex ex_rd ex_l ex_t)
section
variable {X : Cx} {c : Ct} {p pos apos cpos : Pos} {o e : Expr} {es : List Expr} {a : ME} {m : MA}
def smE (f : Str → List MV → Option MV) (z : Str) (ys : List MV) (ρ2 : Env) : Res (MV × Env) := match f z ys with | some w => .ok (w, ρ2) | none => .stuck
def mSm (f : Str → List MV → Option MV) (a : ME) (b : MA) : ME := fun ρ => (a ρ).bind fun x ρ1 => match x with
  | .str z => (b ρ1).bind (smE f z)
  | _ => .stuck
def SmS (K : PySem.W.Frag) (f : Str → List MV → Option MV) (r : V → List V → Hp → VK → Prop) : Prop := ∀ (z : Str) (ys : List MV) (w : MV) (us : List V) (Hk H : Hp) (Q : VK), f z ys = some w → Ex Hk H → RVs K Hk ys us → (∀ u, RV K Hk w u → Q u H) →
  (∀ q ob, H q = none → RV K (upd Hk q ob) w (.ref q) → Q (.ref q) (upd H q ob)) → r (.str z) us H Q
theorem rd_sm {f : Str → List MV → Option MV} {r : V → List V → Hp → VK → Prop} (s : SmS c.K f r) {σ : St} {H : Hp} {Q : VK} (h : rdE c (mSm f a m) σ H Q) : tBM c.K "str" r (rdE c a) (rdA c m) σ H Q := by
  obtain ⟨F, Hk, bp, ρ, S, h⟩ := h
  refine rdw (bE postE S h) fun v H1 ⟨Hk1, x, ρ1, x1, S1, r1, h1⟩ => ?_
  cases x with
  | str z =>
    rw [RV.str.mp r1]
    refine ⟨rfl, ?_⟩
    refine rdAw (bA postE S1 h1) fun us H2 ⟨Hk2, ys, ρ2, x2, S2, r2, h2⟩ => ?_
    have h2 : okE c F Hk2 bp σ Q (match f z ys with | some w => .ok (w, ρ2) | none => .stuck) := h2
    cases ef : f z ys with
    | none => rw [ef] at h2; exact h2.elim
    | some w =>
      rw [ef] at h2
      exact s z ys w us Hk2 H2 Q ef S2.1.ex r2 (fun u ru => h2 _ _ u (Ex.refl _) S2.1 ru) fun q ob hq ru => h2 _ _ _ (Ex.new (S2.1.ex.back hq)) (S2.1.new hq) ru
  | _ => exact h1.elim
theorem me_sm {f : Str → List MV → Option MV} {r : V → List V → Hp → VK → Prop} {id : String} {name : Str} (s : SmS c.K f r) (slot : Slot "str" name id) (hty : typeOf (.builtin id) = pure (.type "method_descriptor")) (hm : MtR X id r) (ho : PE X o (rdE c a)) (ha : PA X (e :: es) (rdA c m)) (hK : c.K = X.K := by rfl)
    (hbase : attributeBase o name X.env (eval o X.env) = eval o X.env := by rfl)
    (hfew : ((backTo cpos (starEach (e :: es) X.env)).all (fun x => !x.1) && (backToKw cpos (keywordEach [] X.env)).all (fun x => x.1.isSome)
      && decide ((e :: es).length + ([] : List Keyword).length + (if ([] : List Keyword).isEmpty then 0 else 1) < 30)) = true := by rfl)
    (hline : (apos.endLine == cpos.line) = true := by rfl) (hs : starEach (e :: es) X.env = (false, eval e X.env) :: starEach es X.env := by rfl) (hplain : (backTo cpos (starEach es X.env)).any (·.1) = false := by rfl) :
    PE X (.Call (.Attribute o name apos) (e :: es) [] cpos) (rdE c (mSm f a m)) :=
  PEw (pe_bm PySem.F.plainAttrs_str slot hty hm ho ha hbase hfew hline hs hplain) fun σ H Q h => by
    have := rd_sm s h
    rw [hK] at this
    exact this
end
def strsOf : List MV → Option (List Str)
  | [] => some []
  | .str z :: r => (match strsOf r with | some l => some (z :: l) | none => none)
  | _ :: _ => none
theorem strs_rv {K : PySem.W.Frag} {H : Hp} : ∀ {xs : List MV} {ss : List Str} {vs : List V}, strsOf xs = some ss → RVs K H xs vs → vs = ss.map V.str
  | [], ss, vs, h, r => by cases h; exact RVs.nil.mp r
  | .str z :: xs, ss, vs, h, r => by
    obtain ⟨v, us, rfl, r1, r2⟩ := RVs.cons.mp r
    unfold strsOf at h
    cases e : strsOf xs with
    | none => rw [e] at h; cases h
    | some l =>
      rw [e] at h
      cases h
      rw [RV.str.mp r1, strs_rv e r2]; rfl
  | .non :: _, _, _, h, _ => by cases h
  | .bl _ :: _, _, _, h, _ => by cases h
  | .int _ :: _, _, _, h, _ => by cases h
  | .tup _ :: _, _, _, h, _ => by cases h
  | .lst _ :: _, _, _, h, _ => by cases h
  | .own _ :: _, _, _, h, _ => by cases h
  | .raw _ :: _, _, _, h, _ => by cases h
  | .scr _ :: _, _, _, h, _ => by cases h
  | .fnc _ :: _, _, _, h, _ => by cases h
  | .obj _ _ :: _, _, _, h, _ => by cases h
def joinM (z : Str) (ss : List Str) : Option MV := if decide ((ss.map (·.length)).sum + ss.length * z.length ≤ 16777216) then some (.str (Txt.join z ss)) else none
def smJoin : Str → List MV → Option MV
  | z, [.lst xs] => (strsOf xs).bind (joinM z)
  | z, [.tup xs] => (strsOf xs).bind (joinM z)
  | _, _ => none
theorem ss_join {K : PySem.W.Frag} : SmS K smJoin (fun x xs H Q => ∃ a p, ∃ ys : List Str, x = .str a ∧ xs = [.ref p] ∧ (SqL K H p (ys.map V.str) ∨ SqT K H p (ys.map V.str)) ∧ (ys.map (·.length)).sum + ys.length * a.length ≤ 16777216 ∧ Q (.str (Txt.join a ys)) H) := by
  intro z ys w us Hk H Q e ex r q qn
  have fin : ∀ ss, joinM z ss = some w → (ss.map (·.length)).sum + ss.length * z.length ≤ 16777216 ∧ w = .str (Txt.join z ss) := fun ss h => by
    unfold joinM at h
    split at h
    · rename_i hd
      exact ⟨of_decide_eq_true hd, by cases h; rfl⟩
    · cases h
  unfold smJoin at e
  split at e
  · rename_i xs
    obtain ⟨v, rfl, rv⟩ := rvs1 r
    obtain ⟨p, vs, rfl, h1, s1⟩ := RV.lst.mp rv
    cases es : strsOf xs with
    | none => rw [es] at e; cases e
    | some ss =>
      rw [es] at e
      obtain ⟨f1, rfl⟩ := fin ss e
      have := strs_rv es s1
      subst this
      exact ⟨z, p, ss, rfl, rfl, .inl (SqL.of (ex _ _ h1)), f1, q _ (RV.str.mpr rfl)⟩
  · rename_i xs
    obtain ⟨v, rfl, rv⟩ := rvs1 r
    obtain ⟨p, vs, rfl, h1, s1⟩ := RV.tup.mp rv
    cases es : strsOf xs with
    | none => rw [es] at e; cases e
    | some ss =>
      rw [es] at e
      obtain ⟨f1, rfl⟩ := fin ss e
      have := strs_rv es s1
      subst this
      exact ⟨z, p, ss, rfl, rfl, .inr (ex_t ex h1), f1, q _ (RV.str.mpr rfl)⟩
  · cases e
section
variable {X : Cx} {c : Ct} {k : Nat} {fa : Addr} {fd : FuncData} {ps : List Str} {x : Str} {p pos : Pos} {f : MF}
theorem mo_callZ (F : FnOk X.prog X.w X.K X.mg X.base (L2N.CX X.prog X.w) k fa fd ps (spF X.K X.mg 0 [] f)) (hr : Room k X.A) (hm : X.mg x = some (.ref fa)) (hk : PySem.W.keepIn X.K (.ref fa) = true) (hb : Binds X.K fd ps [])
    (hg : Gl X x := by rfl) (hK : c.K = X.K := by rfl) (hM : c.mg = X.mg := by rfl) (hdb : (x == ("__debug__" : Str)) = false := by decide) : PE X (.Call (.Name x p) [] [] pos) (rdO c (mCall0 f mNil)) :=
  PEw (pe_call0 F hr hg hm hk hb .nil passes0 hdb) fun σ H Q h => by
    have := rd_call0 (a := mNil) lng_nil h
    rw [hK, hM] at this
    obtain ⟨F', Hk, bp, ρ, S, q⟩ := this
    exact q _ _ _ (Ex.refl _) S.1 (RVs.nil.mpr rfl)
theorem mf_callZ {j : Nat} (G : Fd X.prog X.w X.K X.mg X.base x k [] [] f) (hr : Room j X.A) (hj : k ≤ j) (hg : Gl X x := by rfl) (hK : c.K = X.K := by rfl) (hM : c.mg = X.mg := by rfl) (hdb : (x == ("__debug__" : Str)) = false := by decide) : PE X (.Call (.Name x p) [] [] pos) (rdO c (mCall0 f mNil)) := by
  obtain ⟨fa, fd, F, hm, hk, hb⟩ := G.ex
  exact mo_callZ F (hr.mono hj) hm hk hb hg hK hM hdb
end
end Tm
set_option Elab.async false
set_option linter.all false
set_option maxRecDepth 100000
set_option maxHeartbeats 2000000
namespace Tm
open PySem L2
open Evl (Ex ex_rd ex_l ex_t)
section
variable {X : Cx} {c : Ct} {p p2 pos : Pos} {x : Str} {i : Nat}
def lenV (ρ : Env) (i : Nat) : Option MV := match ρ[i]? with
  | some (some (.own xs)) => some (.int xs.length)
  | some (some x) => bLen [x]
  | _ => none
def mLenV (i : Nat) : ME := fun ρ => match lenV ρ i with | some z => .ok (z, ρ) | none => .stuck
theorem bLen_per {x z : MV} (h : bLen [x] = some z) : x.per = true := by
  cases x <;> first | rfl | cases h
theorem me_lenV (hm : X.mg "len" = none) (hN : X.N[i]? = some x) (hv : Vis X.env.scope x) (hg : Gl X "len" := by rfl) (hK : c.K = X.K := by rfl) (hd : (x == ("__debug__" : Str)) = false := by decide) (hcd : (x == ("__classdict__" : Str)) = false := by decide)
    (he : starEach [Expr.Name x p] X.env = (false, eval (.Name x p) X.env) :: starEach [] X.env := by rfl) (hpl : (backTo pos (starEach [] X.env)).any (·.1) = false := by rfl) : PE X (.Call (.Name "len" p2) [.Name x p] [] pos) (rdE c (mLenV i)) :=
  PEw (pe_callB cr_lenM hg hm (by decide +kernel) (pa_cons (pe_var hN hv hd hcd) pa_nil he) (by decide) (by decide) he hpl) fun σ H Q h => by
    obtain ⟨F, Hk, bp, ρ, S, h⟩ := h
    unfold mLenV at h
    cases e : lenV ρ i with
    | none => rw [e] at h; exact h.elim
    | some z =>
      rw [e] at h
      unfold lenV at e
      split at e
      · rename_i xs hx
        cases e
        obtain ⟨q, vs, e1, e2, e3, e4, e5⟩ := S.1.getOwn hx
        refine ⟨_, e1, ?_⟩
        rw [← hK]
        exact .inl ⟨q, vs, rfl, .inl (SqL.of e2), by rw [e3.length]; exact h _ _ _ (Ex.refl _) S.1 (RV.int.mpr rfl)⟩
      · rename_i x n hx
        have px := bLen_per e
        obtain ⟨w, e1, r1⟩ := S.1.get hx px
        refine ⟨w, e1, ?_⟩
        rw [← hK]
        exact cs_len [x] z [w] Hk H Q e S.1.ex (RVs.cons.mpr ⟨w, [], rfl, r1, RVs.nil.mpr rfl⟩) (fun u ru => h _ _ u (Ex.refl _) S.1 ru) fun q ob hq ru => h _ _ _ (Ex.new (S.1.ex.back hq)) (S.1.new hq) ru
      · cases e
end
end Tm
set_option Elab.async false
set_option linter.all false
set_option maxRecDepth 100000
set_option maxHeartbeats 2000000
namespace Tm
open PySem L2
open Evl (Ex ex_rd ex_l ex_t)
inductive BA where
  | v (x : MV) | b (i : Nat)
abbrev MB := Env → Res (List BA × Env)
def mbNil : MB := fun ρ => .ok ([], ρ)
def mbV (a : ME) (b : MB) : MB := fun ρ => (a ρ).bind fun x ρ1 => (b ρ1).bind fun xs ρ2 => .ok (.v x :: xs, ρ2)
def mbB (i : Nat) (b : MB) : MB := fun ρ => if has ρ i then (b ρ).bind fun xs ρ2 => .ok (.b i :: xs, ρ2) else .stuck
def idxB : List BA → List Nat
  | [] => []
  | .v _ :: r => idxB r
  | .b i :: r => i :: idxB r
def posB : List BA → Nat → List Nat
  | [], _ => []
  | .v _ :: r, k => posB r (k + 1)
  | .b _ :: r, k => k :: posB r (k + 1)
def MV.held : MV → Bool
  | .own _ => true
  | .obj _ _ => true
  | _ => false
def fill : List BA → Env → Option (List MV)
  | [], _ => some []
  | .v x :: r, ρ => (match fill r ρ with | some xs => some (x :: xs) | none => none)
  | .b i :: r, ρ => (match ρ[i]?, fill r ρ with | some (some x), some xs => if x.held then some (x :: xs) else none | _, _ => none)
def back (ρ : Env) : List Nat → Env → Env
  | [], _ => ρ
  | i :: is, os => back (ρ.set i (os.head?).join) is os.tail
def BVs (K : PySem.W.Frag) (Hk : Hp) (σ : St) : List BA → List V → Prop
  | [], vs => vs = []
  | .v x :: r, vs => ∃ v us, vs = v :: us ∧ RV K Hk x v ∧ BVs K Hk σ r us
  | .b i :: r, vs => ∃ v us, vs = v :: us ∧ σ[i]? = some (some v) ∧ BVs K Hk σ r us
theorem BVs.mono {K : PySem.W.Frag} {Hk Hk' : Hp} {σ : St} (e : Ex Hk Hk') : ∀ {xs : List BA} {vs : List V}, BVs K Hk σ xs vs → BVs K Hk' σ xs vs
  | [], _, h => h
  | .v x :: r, vs, ⟨v, us, e1, e2, e3⟩ => ⟨v, us, e1, RV.mono e _ _ e2, BVs.mono e e3⟩
  | .b i :: r, vs, ⟨v, us, e1, e2, e3⟩ => ⟨v, us, e1, e2, BVs.mono e e3⟩
theorem BVs.length {K : PySem.W.Frag} {Hk : Hp} {σ : St} : ∀ {xs : List BA} {vs : List V}, BVs K Hk σ xs vs → vs.length = xs.length
  | [], _, h => by rw [show _ = [] from h]; rfl
  | .v x :: r, vs, ⟨v, us, e1, e2, e3⟩ => by rw [e1, List.length_cons, List.length_cons, e3.length]
  | .b i :: r, vs, ⟨v, us, e1, e2, e3⟩ => by rw [e1, List.length_cons, List.length_cons, e3.length]
def okBA (c : Ct) (F Hk : Hp) (bp : List (Nat × Addr)) (σ : St) (Q : List V → Hp → Prop) : Res (List BA × Env) → Prop
  | .ok (xs, ρ') => ∀ Hk' H' vs, Ex Hk Hk' → RS c.K F Hk' H' bp σ ρ' → BVs c.K Hk' σ xs vs → Q vs H'
  | .exc e ρ' => Wish c F Hk bp σ e ρ'
  | .stuck => False
theorem okBA.mono {c : Ct} {F Hk Hk' : Hp} {bp : List (Nat × Addr)} {σ : St} {Q : List V → Hp → Prop} {r : Res (List BA × Env)} (x : Ex Hk Hk') (h : okBA c F Hk bp σ Q r) : okBA c F Hk' bp σ Q r := by
  cases r with
  | ok a => exact fun Hk2 H2 v x2 => h Hk2 H2 v (x.trans x2)
  | exc e ρ => exact Wish.mono x h
  | stuck => exact h
def rdBA (c : Ct) (m : MB) : TA := fun σ H Q => ∃ F Hk bp ρ, At c F Hk H bp σ ρ ∧ okBA c F Hk bp σ Q (m ρ)
theorem postBA {c : Ct} {F : Hp} {bp : List (Nat × Addr)} {σ : St} {Q : List V → Hp → Prop} : Post c F bp σ fun Hk r => okBA c F Hk bp σ Q r := ⟨fun _ _ _ h => h, fun _ h => h, fun _ _ _ x h => okBA.mono x h⟩
section
variable {X : Cx} {c : Ct} {x : Str} {i : Nat} {p pos : Pos} {e : Expr} {es : List Expr}
theorem rdBAw {m : MB} {σ : St} {H : Hp} {Q Q' : List V → Hp → Prop} (h : rdBA c m σ H Q) (w : ∀ v H, Q v H → Q' v H) : rdBA c m σ H Q' := by
  obtain ⟨F, Hk, bp, ρ, S, q⟩ := h
  refine ⟨F, Hk, bp, ρ, S, ?_⟩
  cases e : m ρ with
  | ok a => rw [e] at q; exact fun Hk2 H2 v x S r => w _ _ (q Hk2 H2 v x S r)
  | exc e' ρ => rw [e] at q; exact q
  | stuck => rw [e] at q; exact q
theorem bBA {F Hk H : Hp} {bp : List (Nat × Addr)} {σ : St} {ρ : Env} {β : Type} {P : Hp → Res (β × Env) → Prop} (p : Post c F bp σ P) {a : MB} {k : List BA → Env → Res (β × Env)} (S : At c F Hk H bp σ ρ) (h : P Hk ((a ρ).bind k)) :
    rdBA c a σ H fun vs H1 => ∃ Hk1 xs ρ1, Ex Hk Hk1 ∧ At c F Hk1 H1 bp σ ρ1 ∧ BVs c.K Hk1 σ xs vs ∧ P Hk1 (k xs ρ1) := by
  refine ⟨F, Hk, bp, ρ, S, ?_⟩
  cases e : a ρ with
  | stuck => rw [e] at h; exact p.st _ h
  | exc x ρ' => rw [e] at h; exact p.ex _ _ _ h
  | ok q =>
    rw [e] at h
    exact fun Hk1 H1 v x1 S1 r1 => ⟨Hk1, q.1, q.2, x1, ⟨S1, S.2⟩, r1, p.mono _ _ _ x1 h⟩
theorem pb_nil : PA X [] (rdBA c mbNil) := PAw pa_nil fun σ H Q h => by
  obtain ⟨F, Hk, bp, ρ, S, h⟩ := h
  exact h _ _ _ (Ex.refl _) S.1 rfl
theorem pb_v {a : ME} {b : MB} (ha : PE X e (rdE c a)) (hb : PA X es (rdBA c b)) (hs : starEach (e :: es) X.env = (false, eval e X.env) :: starEach es X.env := by rfl) : PA X (e :: es) (rdBA c (mbV a b)) :=
  PAw (pa_cons ha hb hs) fun σ H Q h => by
    obtain ⟨F, Hk, bp, ρ, S, h⟩ := h
    refine rdw (bE postBA S h) fun v H1 ⟨Hk1, x, ρ1, x1, S1, r1, h1⟩ => ?_
    refine rdBAw (bBA postBA S1 h1) fun vs H2 ⟨Hk2, xs, ρ2, x2, S2, r2, h2⟩ => ?_
    exact h2 _ _ _ (Ex.refl _) S2.1 ⟨v, vs, rfl, RV.mono x2 _ _ r1, r2⟩
theorem pb_b {b : MB} (hN : X.N[i]? = some x) (hv : Vis X.env.scope x) (hb : PA X es (rdBA c b)) (hd : (x == ("__debug__" : Str)) = false := by decide) (hcd : (x == ("__classdict__" : Str)) = false := by decide) (hs : starEach (Expr.Name x p :: es) X.env = (false, eval (.Name x p) X.env) :: starEach es X.env := by rfl) : PA X (.Name x p :: es) (rdBA c (mbB i b)) :=
  PAw (pa_cons (pe_var hN hv hd hcd) hb hs) fun σ H Q h => by
    obtain ⟨F, Hk, bp, ρ, S, h⟩ := h
    unfold mbB at h
    split at h
    · rename_i hh
      obtain ⟨v, ev⟩ := has_rs S hh
      refine ⟨v, ev, ?_⟩
      refine rdBAw (bBA postBA S h) fun vs H2 ⟨Hk2, xs, ρ2, x2, S2, r2, h2⟩ => ?_
      exact h2 _ _ _ (Ex.refl _) S2.1 ⟨v, vs, rfl, ev, r2⟩
    · exact h.elim
end
theorem fill_at {K : PySem.W.Frag} {Hk : Hp} {σ : St} {ρ : Env} : ∀ {args : List BA} {vs : List V} {xs : List MV}, BVs K Hk σ args vs → fill args ρ = some xs → ∀ (j : Nat) (x : MV), xs[j]? = some x →
    ∃ v, vs[j]? = some v ∧ ((args[j]? = some (.v x) ∧ RV K Hk x v) ∨ ∃ i, args[j]? = some (.b i) ∧ ρ[i]? = some (some x) ∧ σ[i]? = some (some v) ∧ x.held = true)
  | [], vs, xs, r, f, j, x, h => by cases f; simp at h
  | .v y :: args, vs, xs, r, f, j, x, h => by
    obtain ⟨v, us, rfl, r1, r2⟩ := r
    unfold fill at f
    cases e : fill args ρ with
    | none => rw [e] at f; cases f
    | some zs =>
      rw [e] at f
      cases f
      match j with
      | 0 => simp at h; subst h; exact ⟨v, rfl, .inl ⟨rfl, r1⟩⟩
      | j + 1 => simpa using fill_at r2 e j x (by simpa using h)
  | .b i :: args, vs, xs, r, f, j, x, h => by
    obtain ⟨v, us, rfl, r1, r2⟩ := r
    unfold fill at f
    split at f
    · rename_i y zs e1 e2
      split at f
      · rename_i hh
        cases f
        match j with
        | 0 => simp at h; subst h; exact ⟨v, rfl, .inr ⟨i, rfl, e1, r1, hh⟩⟩
        | j + 1 => simpa using fill_at r2 e2 j x (by simpa using h)
      · cases f
    · cases f
theorem fill_len {ρ : Env} : ∀ {args : List BA} {xs : List MV}, fill args ρ = some xs → xs.length = args.length
  | [], xs, f => by cases f; rfl
  | .v y :: args, xs, f => by
    unfold fill at f
    cases e : fill args ρ with
    | none => rw [e] at f; cases f
    | some zs => rw [e] at f; cases f; simp [fill_len e]
  | .b i :: args, xs, f => by
    unfold fill at f
    split at f
    · rename_i y zs e1 e2
      split at f
      · cases f; simp [fill_len e2]
      · cases f
    · cases f
theorem fill_has {ρ : Env} : ∀ {args : List BA} {xs : List MV}, fill args ρ = some xs → ∀ i ∈ idxB args, ∃ x, ρ[i]? = some (some x) ∧ x.held = true
  | [], xs, f, i, h => by cases h
  | .v y :: args, xs, f, i, h => by
    unfold fill at f
    cases e : fill args ρ with
    | none => rw [e] at f; cases f
    | some zs => exact fill_has e i h
  | .b k :: args, xs, f, i, h => by
    unfold fill at f
    split at f
    · rename_i y zs e1 e2
      split at f
      · rename_i hh
        rcases List.mem_cons.mp h with rfl | h
        · exact ⟨y, e1, hh⟩
        · exact fill_has e2 i h
      · cases f
    · cases f
theorem idx_mem : ∀ {args : List BA} {j i : Nat}, args[j]? = some (.b i) → i ∈ idxB args
  | [], j, i, h => by simp at h
  | .v y :: args, 0, i, h => by simp at h
  | .v y :: args, j + 1, i, h => idx_mem (args := args) (j := j) (by simpa using h)
  | .b k :: args, 0, i, h => by simp at h; subst h; simp [idxB]
  | .b k :: args, j + 1, i, h => List.mem_cons_of_mem _ (idx_mem (args := args) (j := j) (by simpa using h))
theorem idx_inj : ∀ {args : List BA} {j k i : Nat}, (idxB args).Nodup → args[j]? = some (.b i) → args[k]? = some (.b i) → j = k
  | [], j, k, i, _, h, _ => by simp at h
  | .v y :: args, 0, k, i, _, h, _ => by simp at h
  | .v y :: args, _ + 1, 0, i, _, _, h => by simp at h
  | .v y :: args, j + 1, k + 1, i, nd, h1, h2 => by have := idx_inj (args := args) (j := j) (k := k) (i := i) nd (by simpa using h1) (by simpa using h2); omega
  | .b n :: args, 0, 0, i, _, _, _ => rfl
  | .b n :: args, 0, k + 1, i, nd, h1, h2 => by
    simp at h1; subst h1
    exact absurd (idx_mem (args := args) (j := k) (by simpa using h2)) (List.nodup_cons.mp nd).1
  | .b n :: args, j + 1, 0, i, nd, h1, h2 => by
    simp at h2; subst h2
    exact absurd (idx_mem (args := args) (j := j) (by simpa using h1)) (List.nodup_cons.mp nd).1
  | .b n :: args, j + 1, k + 1, i, nd, h1, h2 => by have := idx_inj (args := args) (j := j) (k := k) (i := i) (List.nodup_cons.mp nd).2 (by simpa using h1) (by simpa using h2); omega
def addrOf : V → Addr
  | .ref a => a
  | _ => 0
def bqOf : List BA → List V → Nat → List (Nat × Addr)
  | .v _ :: r, _ :: us, k => bqOf r us (k + 1)
  | .b _ :: r, v :: us, k => (k, addrOf v) :: bqOf r us (k + 1)
  | _, _, _ => []
theorem bq_pos {K : PySem.W.Frag} {Hk : Hp} {σ : St} : ∀ {args : List BA} {vs : List V} (k : Nat), BVs K Hk σ args vs → (bqOf args vs k).map (·.1) = posB args k
  | [], vs, k, _ => by cases vs <;> rfl
  | .v y :: args, vs, k, ⟨v, us, e, _, r⟩ => by subst e; exact bq_pos (k + 1) r
  | .b i :: args, vs, k, ⟨v, us, e, _, r⟩ => by subst e; show k :: _ = k :: _; rw [bq_pos (k + 1) r]
theorem bq_idx {K : PySem.W.Frag} {Hk : Hp} {σ : St} : ∀ {args : List BA} {vs : List V} (k : Nat), BVs K Hk σ args vs → (∀ i ∈ idxB args, ∃ a, σ[i]? = some (some (.ref a))) → (bqOf args vs k).map (fun q => some (V.ref q.2)) = (idxB args).map fun i => (σ[i]?).join
  | [], vs, k, _, _ => by cases vs <;> rfl
  | .v y :: args, vs, k, ⟨v, us, e, _, r⟩, h => by subst e; exact bq_idx (k + 1) r h
  | .b i :: args, vs, k, ⟨v, us, e, e2, r⟩, h => by
    subst e
    obtain ⟨a, ha⟩ := h i (by simp [idxB])
    rw [ha] at e2
    cases e2
    show some (V.ref a) :: _ = (σ[i]?).join :: _
    rw [ha, bq_idx (k + 1) r fun j hj => h j (by simp [idxB, hj])]; rfl
theorem bq_bor {K : PySem.W.Frag} {Hk : Hp} {σ : St} : ∀ {args : List BA} {vs : List V} (k : Nat), BVs K Hk σ args vs → (∀ i ∈ idxB args, ∃ a, σ[i]? = some (some (.ref a))) → ∀ q ∈ bqOf args vs k, k ≤ q.1 ∧ vs[q.1 - k]? = some (.ref q.2)
  | [], vs, k, _, _, q, hq => by cases vs <;> cases hq
  | .v y :: args, vs, k, ⟨v, us, e, _, r⟩, h, q, hq => by
    subst e
    obtain ⟨h1, h2⟩ := bq_bor (k + 1) r h q hq
    refine ⟨by omega, ?_⟩
    rw [show q.1 - k = q.1 - (k + 1) + 1 by omega]; exact h2
  | .b i :: args, vs, k, ⟨v, us, e, e2, r⟩, h, q, hq => by
    subst e
    obtain ⟨a, ha⟩ := h i (by simp [idxB])
    rw [ha] at e2
    cases e2
    rcases List.mem_cons.mp hq with rfl | hq
    · exact ⟨Nat.le_refl _, by simp [addrOf]⟩
    · obtain ⟨h1, h2⟩ := bq_bor (k + 1) r (fun j hj => h j (by simp [idxB, hj])) q hq
      refine ⟨by omega, ?_⟩
      rw [show q.1 - k = q.1 - (k + 1) + 1 by omega]; exact h2
theorem back_len : ∀ {is : List Nat} {ρ os : Env}, (back ρ is os).length = ρ.length
  | [], _, _ => rfl
  | i :: is, ρ, os => by unfold back; rw [back_len, List.length_set]
theorem back_ne : ∀ {is : List Nat} {ρ os : Env} {j : Nat}, j ∉ is → (back ρ is os)[j]? = ρ[j]?
  | [], _, _, _, _ => rfl
  | i :: is, ρ, os, j, h => by
    unfold back
    rw [back_ne (fun z => h (List.mem_cons_of_mem _ z)), List.getElem?_set_ne (fun z => h (by simp [z]))]
theorem back_at : ∀ {is : List Nat} {ρ os : Env} {k i : Nat}, is.Nodup → is[k]? = some i → i < ρ.length → (back ρ is os)[i]? = some (os[k]?).join
  | [], _, _, _, _, _, h, _ => by simp at h
  | n :: is, ρ, os, 0, i, nd, h, hl => by
    simp at h; subst h
    unfold back
    rw [back_ne (List.nodup_cons.mp nd).1, List.getElem?_set_self hl]
    cases os <;> rfl
  | n :: is, ρ, os, k + 1, i, nd, h, hl => by
    unfold back
    rw [back_at (is := is) (k := k) (List.nodup_cons.mp nd).2 (by simpa using h) (by simpa using hl)]
    cases os <;> simp
end Tm
set_option Elab.async false
set_option linter.all false
set_option maxRecDepth 100000
set_option maxHeartbeats 2000000
namespace Tm
open PySem L2
open Evl (Ex ex_rd ex_l ex_t)
theorem held_ref {K : PySem.W.Frag} {Hk H : Hp} {x : MV} {v : V} {A : List Addr} (h : x.held = true) (o : OV K Hk H x v A) : ∃ a, v = .ref a := by
  cases x with
  | own xs => obtain ⟨p, vs, e, _⟩ := OV.own.mp o; exact ⟨p, e⟩
  | obj C fs =>
    unfold OV at o
    obtain ⟨p, CA, dx, vfs, B, e, _⟩ := o
    exact ⟨p, e⟩
  | _ => cases h
section
variable {c : Ct} {F Hk H : Hp} {bp : List (Nat × Addr)} {σ : St} {ρ : Env} {args : List BA} {vs : List V} {xs : List MV} {ow : Nat → List Addr}
def owB (is : List Nat) (ow ow2 : Nat → List Addr) (j : Nat) : List Addr := if j ∈ is then ow2 (is.idxOf j) else ow j
theorem callB_end {f : MF} {n : Nat} {bs : List Nat} {Q : VK} {E : XK} (S : At c F Hk H bp σ ρ) (r : BVs c.K Hk σ args vs) (hn : args.length = n) (nd : (idxB args).Nodup) (hbs : posB args 0 = bs) (hf : fill args ρ = some xs)
    (hE : ∀ e ρ', (∀ Hk' H' cls d, Ex Hk Hk' → RS c.K F Hk' H' bp σ ρ' → ExR c.K c.mg Hk' e cls d → c.W cls d σ H') → ∀ Hk' H' cls d, Ex Hk Hk' → RS c.K F Hk' H' bp σ ρ' → ExR c.K c.mg Hk' e cls d → E cls d H')
    (h : okO c F Hk bp σ Q (match f xs with | .ok (v, os) => .ok (v, back ρ (idxB args) os) | .exc e os => .exc e (back ρ (idxB args) os) | .stuck => .stuck)) : spF c.K c.mg n bs f vs H Q E := by
  refine ⟨by rw [r.length]; exact hn, ?_⟩
  obtain ⟨ow, s⟩ := S.1.ow
  have ih := fill_has hf
  have refs : ∀ i ∈ idxB args, ∃ a, σ[i]? = some (some (.ref a)) := fun i hi => by
    obtain ⟨x, ex, hx⟩ := ih i hi
    obtain ⟨v, ev, o⟩ := s.s i x ex
    obtain ⟨a, rfl⟩ := held_ref hx o
    exact ⟨a, ev⟩
  have lti : ∀ i ∈ idxB args, i < ρ.length := fun i hi => by
    obtain ⟨x, ex, _⟩ := ih i hi
    exact lt_get ex
  haveI : ∀ a, Decidable (∃ i, i ∉ idxB args ∧ a ∈ ow i) := fun a => Classical.propDecidable _
  have fN : ∃ F' : Hp, (∀ i a, i ∉ idxB args → a ∈ ow i → F' a = H a) ∧ (∀ a o, F a = some o → F' a = some o) ∧ (∀ a o, F' a = some o → H a = some o ∧ Hk a = none) ∧ (∀ i a, i ∈ idxB args → a ∈ ow i → F' a = none) := by
    refine ⟨fun a => if (∃ i, i ∉ idxB args ∧ a ∈ ow i) then H a else F a, fun i a hi ha => if_pos ⟨i, hi, ha⟩, fun a o ha => ?_, fun a o ha => ?_, fun i a hi ha => ?_⟩
    · have : ¬ ∃ i, i ∉ idxB args ∧ a ∈ ow i := fun ⟨i, _, hi⟩ => by have := (s.f i a hi).2.1; rw [ha] at this; cases this
      show (if (∃ i, i ∉ idxB args ∧ a ∈ ow i) then H a else F a) = some o
      rw [if_neg this]; exact ha
    · have ha : (if (∃ i, i ∉ idxB args ∧ a ∈ ow i) then H a else F a) = some o := ha
      by_cases e : ∃ i, i ∉ idxB args ∧ a ∈ ow i
      · rw [if_pos e] at ha
        obtain ⟨i, _, hi⟩ := e
        exact ⟨ha, (s.f i a hi).1⟩
      · rw [if_neg e] at ha
        exact ⟨S.1.fr a o ha, S.1.frk a o ha⟩
    · have : ¬ ∃ i, i ∉ idxB args ∧ a ∈ ow i := fun ⟨k, hk, hka⟩ => s.d i k a (fun z => hk (z ▸ hi)) ha hka
      show (if (∃ i, i ∉ idxB args ∧ a ∈ ow i) then H a else F a) = none
      rw [if_neg this]; exact (s.f i a ha).2.1
  obtain ⟨F', f1, f2, f3, f4⟩ := fN
  have hlv : vs.length = xs.length := by rw [r.length, fill_len hf]
  have at_ : ∀ {j i : Nat} {a : Addr}, a ∈ (match args[j]? with | some (BA.b i) => ow i | _ => []) → ∃ i, args[j]? = some (.b i) ∧ a ∈ ow i := fun {j i a} h => by
    split at h
    · rename_i k e; exact ⟨k, e, h⟩
    · cases h
  refine ⟨F', Hk, bqOf args vs 0, xs, ?_, by rw [bq_pos 0 r, hbs], ?_⟩
  · refine ⟨by simp [hlv], S.1.ex, fun a o ha => (f3 a o ha).1, fun a o ha => (f3 a o ha).2, ⟨fun j => match args[j]? with | some (BA.b i) => ow i | _ => [], ?_⟩, fun q hq => ?_⟩
    · refine ⟨fun j y hj => ?_, fun j a hj => ?_, fun j hj => ?_, fun j k a hjk h1 h2 => ?_⟩
      · rw [List.getElem?_map] at hj
        cases ex : xs[j]? with
        | none => rw [ex] at hj; cases hj
        | some x =>
          rw [ex] at hj
          cases hj
          obtain ⟨v, ev, hv⟩ := fill_at r hf j y ex
          refine ⟨v, by rw [List.getElem?_map, ev]; rfl, ?_⟩
          rcases hv with ⟨e1, r1⟩ | ⟨i, e1, e2, e3, _⟩
          · rw [e1]; exact r1.ov
          · rw [e1]
            obtain ⟨u, eu, ou⟩ := s.s i y e2
            rw [e3] at eu
            cases eu
            exact ou
      · obtain ⟨i, e1, hi⟩ := at_ (i := 0) hj
        obtain ⟨g1, g2, g3⟩ := s.f i a hi
        exact ⟨g1, f4 i a (idx_mem e1) hi, g3⟩
      · cases e : args[j]? with
        | none => rw [e] at hj; exact (hj rfl).elim
        | some b =>
          have := lt_get e
          rw [List.length_map, fill_len hf]; exact this
      · obtain ⟨i1, e1, m1⟩ := at_ (i := 0) h1
        obtain ⟨i2, e2, m2⟩ := at_ (i := 0) h2
        by_cases e : i1 = i2
        · subst e; exact hjk (idx_inj nd e1 e2)
        · exact s.d i1 i2 a e m1 m2
    · obtain ⟨_, h2⟩ := bq_bor 0 r refs q hq
      rw [List.getElem?_map, show vs[q.1]? = some (.ref q.2) from h2]; rfl
  -- what stands behind the call
  have bidx := bq_idx (k := 0) r refs
  have main : ∀ {Hk' H' : Hp} {τ : St} {os υ : Env}, Ex Hk Hk' → RS c.K F' Hk' H' [] ((idxB args).map (fun i => (σ[i]?).join) ++ τ) (os ++ υ) → os.length = (idxB args).length → ∀ ow2, SL c.K F' Hk' H' ow2 ((idxB args).map (fun i => (σ[i]?).join) ++ τ) (os ++ υ) →
      SL c.K F Hk' H' (owB (idxB args) ow ow2) σ (back ρ (idxB args) os) ∧ RS c.K F Hk' H' bp σ (back ρ (idxB args) os) := fun {Hk' H' τ os υ} x S' hos ow2 s2 => by
    have other : ∀ j, j ∉ idxB args → ∀ a ∈ ow j, F' a = H a ∧ ∃ o, H a = some o ∧ H' a = some o ∧ Hk' a = none := fun j hj a ha => by
      obtain ⟨g1, g2, o, g3⟩ := s.f j a ha
      have q : F' a = some o := (f1 j a hj ha).trans g3
      exact ⟨f1 j a hj ha, o, g3, S'.fr a o q, S'.frk a o q⟩
    have idl : ∀ j ∈ idxB args, (idxB args).idxOf j < (idxB args).length := fun j hj => List.idxOf_lt_length_of_mem hj
    have idg : ∀ j ∈ idxB args, (idxB args)[(idxB args).idxOf j]? = some j := fun j hj => by
      rw [List.getElem?_eq_getElem (idl j hj), List.getElem_idxOf]
    have inj : ∀ j k, j ∈ idxB args → k ∈ idxB args → (idxB args).idxOf j = (idxB args).idxOf k → j = k := fun j k hj hk e => by
      have a := idg j hj
      have b := idg k hk
      rw [e, b] at a
      cases a; rfl
    have sl : SL c.K F Hk' H' (owB (idxB args) ow ow2) σ (back ρ (idxB args) os) := by
      refine ⟨fun j y hj => ?_, fun j a hj => ?_, fun j hj => ?_, fun j k a hjk h1 h2 => ?_⟩
      · unfold owB
        by_cases e : j ∈ idxB args
        · rw [if_pos e]
          rw [back_at nd (idg j e) (lti j e)] at hj
          have lk := idl j e
          have gk := idg j e
          generalize (idxB args).idxOf j = k at hj lk gk ⊢
          have ek : os[k]? = some (some y) := by
            cases eo : os[k]? with
            | none => rw [eo] at hj; cases hj
            | some o => rw [eo] at hj; cases o with
              | none => cases hj
              | some z => cases hj; rfl
          obtain ⟨u, eu, ou⟩ := s2.s k y (by rw [List.getElem?_append_left (by rw [hos]; exact lk)]; exact ek)
          rw [List.getElem?_append_left (by simpa using lk), List.getElem?_map] at eu
          refine ⟨u, ?_, ou⟩
          obtain ⟨a, ha⟩ := refs j e
          rw [gk, Option.map_some, ha] at eu
          rw [ha]
          exact eu
        · rw [if_neg e]
          rw [back_ne e] at hj
          obtain ⟨u, e1, o1⟩ := s.s j y hj
          refine ⟨u, e1, o1.move x fun a ha o ho => ?_⟩
          obtain ⟨_, o', g1, g2, _⟩ := other j e a ha
          rw [ho] at g1; cases g1; exact g2
      · unfold owB at hj
        by_cases e : j ∈ idxB args
        · rw [if_pos e] at hj
          obtain ⟨g1, g2, g3⟩ := s2.f _ a hj
          refine ⟨g1, ?_, g3⟩
          cases ef : F a with
          | none => rfl
          | some o => rw [f2 a o ef] at g2; cases g2
        · rw [if_neg e] at hj
          obtain ⟨_, o', g1, g2, g3⟩ := other j e a hj
          exact ⟨g3, (s.f j a hj).2.1, o', g2⟩
      · unfold owB at hj
        rw [back_len]
        by_cases e : j ∈ idxB args
        · exact lti j e
        · rw [if_neg e] at hj; exact s.w j hj
      · unfold owB at h1 h2
        by_cases e1 : j ∈ idxB args <;> by_cases e2 : k ∈ idxB args
        · rw [if_pos e1] at h1; rw [if_pos e2] at h2
          exact s2.d _ _ a (fun z => hjk (inj j k e1 e2 z)) h1 h2
        · rw [if_pos e1] at h1; rw [if_neg e2] at h2
          obtain ⟨q, o', g1, _⟩ := other k e2 a h2
          have := (s2.f _ a h1).2.1
          rw [q, g1] at this; cases this
        · rw [if_neg e1] at h1; rw [if_pos e2] at h2
          obtain ⟨q, o', g1, _⟩ := other j e1 a h1
          have := (s2.f _ a h2).2.1
          rw [q, g1] at this; cases this
        · rw [if_neg e1] at h1; rw [if_neg e2] at h2
          exact s.d j k a hjk h1 h2
    exact ⟨sl, by rw [back_len]; exact S.1.len, S'.ex, fun a o ha => S'.fr a o (f2 a o ha), fun a o ha => S'.frk a o (f2 a o ha), ⟨_, sl⟩, S.1.bor⟩
  rw [bidx]
  cases ef : f xs with
  | stuck => rw [ef] at h; exact h.elim
  | exc e os =>
    rw [ef] at h
    intro Hk' H' cls d x S' er
    obtain ⟨ow2, s2⟩ := S'.ow
    have hos : os.length = (idxB args).length := by have := S'.len; simpa using this.symm
    have m := main (τ := []) (υ := []) x (by simpa using S') hos ow2 (by simpa using s2)
    exact hE e _ h Hk' H' cls d x m.2 er
  | ok p =>
    obtain ⟨v, os⟩ := p
    rw [ef] at h
    intro Hk' H' w x S'
    obtain ⟨ow2, s2⟩ := S'.ow
    have hos : os.length = (idxB args).length := by have := S'.len; simpa using this.symm
    obtain ⟨sl, R1⟩ := main x S' hos ow2 s2
    obtain ⟨u, eu, ou⟩ := s2.s os.length v (by simp)
    have : u = w := by
      rw [hos, List.getElem?_append_right (by simp)] at eu
      simpa using eu.symm
    subst this
    refine h Hk' H' u x ?_
    refine ⟨by simp [back_len, S.1.len], R1.ex, R1.fr, R1.frk, ⟨_, sl.push (by rw [back_len]; exact S.1.len) ou (fun a ha => ?_) (fun i a ha hi => ?_)⟩, R1.bor_app _⟩
    · obtain ⟨g1, g2, _⟩ := s2.f _ a ha
      refine ⟨g1, ?_⟩
      cases e : F a with
      | none => rfl
      | some o => rw [f2 a o e] at g2; cases g2
    · obtain ⟨g1, g2, o, g3⟩ := s2.f _ a ha
      unfold owB at hi
      by_cases e : i ∈ idxB args
      · rw [if_pos e] at hi
        have lk := List.idxOf_lt_length_of_mem e
        exact s2.d _ _ a (by omega) ha hi
      · rw [if_neg e] at hi
        obtain ⟨_, _, o', q⟩ := s.f i a hi
        rw [f1 i a e hi, q] at g2
        cases g2
end
def Bsh (a : MB) (k : Nat) (is bs : List Nat) (n : Nat) : Prop := ∀ ρ xs ρ', a ρ = .ok (xs, ρ') → idxB xs = is ∧ posB xs k = bs ∧ xs.length = n
theorem bsh_nil {k : Nat} : Bsh mbNil k [] [] 0 := fun ρ xs ρ' h => by cases h; exact ⟨rfl, rfl, rfl⟩
theorem bsh_v {a : ME} {b : MB} {k n : Nat} {is bs : List Nat} (h : Bsh b (k + 1) is bs n) : Bsh (mbV a b) k is bs (n + 1) := fun ρ xs ρ' e => by
  unfold mbV at e
  cases ea : a ρ with
  | stuck => rw [ea] at e; cases e
  | exc x r => rw [ea] at e; cases e
  | ok p =>
    rw [ea] at e
    have e : (b p.2).bind (fun ys ρ2 => Res.ok (BA.v p.1 :: ys, ρ2)) = .ok (xs, ρ') := e
    cases eb : b p.2 with
    | stuck => rw [eb] at e; cases e
    | exc x r => rw [eb] at e; cases e
    | ok q =>
      rw [eb] at e
      cases e
      obtain ⟨h1, h2, h3⟩ := h _ _ _ eb
      exact ⟨h1, h2, by simp [h3]⟩
theorem bsh_b {i : Nat} {b : MB} {k n : Nat} {is bs : List Nat} (h : Bsh b (k + 1) is bs n) : Bsh (mbB i b) k (i :: is) (k :: bs) (n + 1) := fun ρ xs ρ' e => by
  unfold mbB at e
  split at e
  · cases eb : b ρ with
    | stuck => rw [eb] at e; cases e
    | exc x r => rw [eb] at e; cases e
    | ok q =>
      rw [eb] at e
      cases e
      obtain ⟨h1, h2, h3⟩ := h _ _ _ eb
      exact ⟨by show i :: _ = _; rw [h1], by show k :: _ = _; rw [h2], by simp [h3]⟩
  · cases e
def cbE (f : MF) (args : List BA) (ρ : Env) : Res (MV × Env) := match fill args ρ with
  | some xs => (match f xs with | .ok (v, os) => .ok (v, back ρ (idxB args) os) | .exc e os => .exc e (back ρ (idxB args) os) | .stuck => .stuck)
  | none => .stuck
def mCallB (f : MF) (a : MB) : ME := fun ρ => (a ρ).bind (cbE f)
section
variable {X : Cx} {c : Ct} {k : Nat} {fa : Addr} {fd : FuncData} {ps : List Str} {x : Str} {p pos : Pos} {e : Expr} {es : List Expr} {f : MF} {a : MB} {n : Nat} {is bs : List Nat}
theorem rd_callB (sh : Bsh a 0 is bs n) (nd : is.Nodup) {σ : St} {H : Hp} {Q : VK} (h : rdO c (mCallB f a) σ H Q) : tCallS (spF c.K c.mg n bs f) (WE c.W) (rdBA c a) σ H Q := by
  obtain ⟨F, Hk, bp, ρ, S, h⟩ := h
  refine ⟨F, Hk, bp, ρ, S, ?_⟩
  have h : okO c F Hk bp σ Q ((a ρ).bind (cbE f)) := h
  cases e : a ρ with
  | stuck => rw [e] at h; exact h
  | exc x ρ' => rw [e] at h; exact h
  | ok q =>
    obtain ⟨args, ρ1⟩ := q
    rw [e] at h
    intro Hk1 H1 vs x1 S1 r1
    have h : okO c F Hk1 bp σ Q (cbE f args ρ1) := okO.mono x1 h
    unfold cbE at h
    obtain ⟨q1, q2, q3⟩ := sh _ _ _ e
    cases ef : fill args ρ1 with
    | none => rw [ef] at h; exact h.elim
    | some xs =>
      rw [ef] at h
      exact callB_end ⟨S1, S.2⟩ r1 q3 (by rw [q1]; exact nd) q2 ef (fun e ρ' q => q) h
theorem mo_callB (F : FnOk X.prog X.w X.K X.mg X.base (L2N.CX X.prog X.w) k fa fd ps (spF X.K X.mg n bs f)) (hr : Room k X.A) (hm : X.mg x = some (.ref fa)) (hk : PySem.W.keepIn X.K (.ref fa) = true) (hb : Binds X.K fd ps []) (tk : L2N.Takes X c.W)
    (ha : PA X (e :: es) (rdBA c a)) (sh : Bsh a 0 is bs n) (nd : is.Nodup := by decide) (hg : Gl X x := by rfl) (hK : c.K = X.K := by rfl) (hM : c.mg = X.mg := by rfl) (hdb : (x == ("__debug__" : Str)) = false := by decide) (he : starEach (e :: es) X.env = (false, eval e X.env) :: starEach es X.env := by rfl)
    (hpl : (backTo pos (starEach es X.env)).any (·.1) = false := by rfl) : PE X (.Call (.Name x p) (e :: es) [] pos) (rdO c (mCallB f a)) :=
  PEw (pe_callS (E := WE c.W) F hr hg hm hk hb (fun σ => L2N.passAt tk σ) ha hdb he hpl) fun σ H Q h => by
    have := rd_callB sh nd h
    rw [hK, hM] at this
    exact this
theorem mf_callB {j : Nat} (G : Fd X.prog X.w X.K X.mg X.base x k ps bs f) (hr : Room j X.A) (hj : k ≤ j) (tk : L2N.Takes X c.W) (ha : PA X (e :: es) (rdBA c a)) (sh : Bsh a 0 is bs ps.length) (nd : is.Nodup := by decide) (hg : Gl X x := by rfl) (hK : c.K = X.K := by rfl) (hM : c.mg = X.mg := by rfl) (hdb : (x == ("__debug__" : Str)) = false := by decide)
    (he : starEach (e :: es) X.env = (false, eval e X.env) :: starEach es X.env := by rfl) (hpl : (backTo pos (starEach es X.env)).any (·.1) = false := by rfl) : PE X (.Call (.Name x p) (e :: es) [] pos) (rdO c (mCallB f a)) := by
  obtain ⟨fa, fd, F, hm, hk, hb⟩ := G.ex
  exact mo_callB F (hr.mono hj) hm hk hb tk ha sh nd hg hK hM hdb he hpl
end
end Tm
set_option Elab.async false
set_option linter.all false
set_option maxRecDepth 100000
set_option maxHeartbeats 2000000
namespace Tm
open PySem L2
open Evl (Ex ex_rd ex_l ex_t)
section
variable {K : PySem.W.Frag} {F Hk H : Hp} {bp : List (Nat × Addr)} {σ : St} {ρ : Env}
theorem SL.re {ow : Nat → List Addr} (S : RS K F Hk H bp σ ρ) (s : SL K F Hk H ow σ ρ) {i : Nat} {x : MV} {v : V} (hi : ρ[i]? = some (some x)) (ev : σ[i]? = some (some v)) {Hk' H' : Hp} {y : MV} {A' : List Addr} (e1 : Ex Hk Hk') (e2 : Ex Hk' H')
    (k1 : ∀ a, a ∉ ow i → ∀ o, H a = some o → H' a = some o) (k2 : ∀ a, a ∉ ow i → Hk a = none → (∃ o, H a = some o) → Hk' a = none) (o : OV K Hk' H' y v A') (hA : ∀ a ∈ A', (a ∈ ow i ∨ H a = none) ∧ Hk' a = none) :
    SL K F Hk' H' (put ow i A') σ (ρ.set i (some y)) ∧ RS K F Hk' H' bp σ (ρ.set i (some y)) := by
  have li := lt_get hi
  have sl : SL K F Hk' H' (put ow i A') σ (ρ.set i (some y)) := by
    refine ⟨fun j z hj => ?_, fun j a hj => ?_, fun j hj => ?_, fun j k a hjk h1 h2 => ?_⟩
    · rcases set_get hj with ⟨rfl, e⟩ | ⟨ne, e⟩
      · cases e; exact ⟨v, ev, by rw [put_same]; exact o⟩
      · obtain ⟨u, u1, u2⟩ := s.s j z e
        exact ⟨u, u1, by rw [put_ne ne]; exact u2.move e1 fun a ha o ho => k1 a (fun m => s.d j i a ne ha m) o ho⟩
    · by_cases e : j = i
      · rw [e, put_same] at hj
        obtain ⟨g1, g2⟩ := hA a hj
        refine ⟨g2, ?_, o.there a hj⟩
        rcases g1 with g1 | g1
        · exact (s.f i a g1).2.1
        · cases ef : F a with
          | none => rfl
          | some o => have := S.fr a o ef; rw [g1] at this; cases this
      · rw [put_ne e] at hj
        obtain ⟨g1, g2, o', g3⟩ := s.f j a hj
        have na : a ∉ ow i := fun m => s.d j i a e hj m
        exact ⟨k2 a na g1 ⟨o', g3⟩, g2, o', k1 a na o' g3⟩
    · rw [List.length_set]
      by_cases e : j = i
      · rw [e]; exact li
      · rw [put_ne e] at hj; exact s.w j hj
    · have key : ∀ m, m ≠ i → a ∈ A' → a ∈ ow m → False := fun m hm ha hm2 => by
        rcases (hA a ha).1 with g | g
        · exact s.d m i a hm hm2 g
        · obtain ⟨_, _, o', q⟩ := s.f m a hm2
          rw [g] at q; cases q
      by_cases e : j = i
      · rw [e, put_same] at h1
        by_cases e' : k = i
        · exact hjk (e.trans e'.symm)
        · rw [put_ne e'] at h2; exact key k e' h1 h2
      · rw [put_ne e] at h1
        by_cases e' : k = i
        · rw [e', put_same] at h2; exact key j e h2 h1
        · rw [put_ne e'] at h2; exact s.d j k a hjk h1 h2
  refine ⟨sl, by rw [List.length_set]; exact S.len, e2, fun a o' ha => ?_, fun a o' ha => ?_, ⟨_, sl⟩, S.bor⟩
  · exact k1 a (fun m => by have := (s.f i a m).2.1; rw [ha] at this; cases this) o' (S.fr a o' ha)
  · exact k2 a (fun m => by have := (s.f i a m).2.1; rw [ha] at this; cases this) (S.frk a o' ha) ⟨o', S.fr a o' ha⟩
end
def putM (f : Str) (v : MV) : List (Str × MV) → List (Str × MV)
  | [] => [(f, v)]
  | (g, x) :: r => if g = f then (g, v) :: r else (g, x) :: putM f v r
theorem look_eq {α : Type} {f g : Str} {x : α} {r : List (Str × α)} : ((g, x) :: r).lookup f = if g = f then some x else r.lookup f := by
  rw [List.lookup_cons]
  by_cases e : g = f
  · subst e; simp
  · rw [if_neg e]
    have : (f == g) = false := by simpa using fun z => e z.symm
    rw [this]
section
variable {K : PySem.W.Frag} {Hk H : Hp}
theorem OFs.focus : ∀ {fs : List (Str × MV)} {vfs : List (Str × V)} {B : List Addr} {f : Str} {x : MV}, OFs K Hk H fs vfs B → fs.lookup f = some x → ∃ v A1 B1 B2, vfs.lookup f = some v ∧ B = B1 ++ A1 ++ B2 ∧ OF K Hk H x v A1 ∧
    ∀ (Hk' H' : Hp) (x' : MV) (v' : V) (A1' : List Addr), Ex Hk Hk' → (∀ a ∈ B1 ++ B2, ∀ o, H a = some o → H' a = some o) → OF K Hk' H' x' v' A1' → OFs K Hk' H' (putM f x' fs) (putF f v' vfs) (B1 ++ A1' ++ B2)
  | [], _, _, _, _, _, h => by simp at h
  | (n, y) :: fs, vfs, B, f, x, ⟨v, r, C, D, e1, e2, o1, o2⟩, h => by
    subst e1 e2
    rw [look_eq] at h
    by_cases e : n = f
    · rw [if_pos e] at h
      cases h
      refine ⟨v, C, [], D, by rw [look_eq, if_pos e], by simp, o1, fun Hk' H' x' v' A1' ex k o' => ?_⟩
      unfold putM putF
      rw [if_pos e, if_pos e]
      exact ⟨v', r, A1', D, rfl, by simp, o', OFs.move o2 ex fun a ha => k a (by simpa using ha)⟩
    · rw [if_neg e] at h
      obtain ⟨w, A1, B1, B2, g1, g2, g3, g4⟩ := OFs.focus o2 h
      refine ⟨w, A1, C ++ B1, B2, by rw [look_eq, if_neg e]; exact g1, by rw [g2]; simp, g3, fun Hk' H' x' v' A1' ex k o' => ?_⟩
      unfold putM putF
      rw [if_neg e, if_neg e]
      exact ⟨v, _, C, B1 ++ A1' ++ B2, rfl, by simp, o1.move ex fun a ha => k a (by simp [ha]), g4 Hk' H' x' v' A1' ex (fun a ha => k a (by rcases List.mem_append.mp ha with h | h <;> simp [h])) o'⟩
theorem OFs.fresh : ∀ {fs : List (Str × MV)} {vfs : List (Str × V)} {B : List Addr} {f : Str}, OFs K Hk H fs vfs B → fs.lookup f = none → vfs.lookup f = none ∧
    ∀ (Hk' H' : Hp) (x' : MV) (v' : V) (A1' : List Addr), Ex Hk Hk' → (∀ a ∈ B, ∀ o, H a = some o → H' a = some o) → OF K Hk' H' x' v' A1' → OFs K Hk' H' (putM f x' fs) (putF f v' vfs) (B ++ A1')
  | [], vfs, B, f, ⟨e1, e2⟩, _ => by
    subst e1 e2
    exact ⟨rfl, fun Hk' H' x' v' A1' ex k o' => ⟨v', [], A1', [], rfl, by simp, o', rfl, rfl⟩⟩
  | (n, y) :: fs, vfs, B, f, ⟨v, r, C, D, e1, e2, o1, o2⟩, h => by
    subst e1 e2
    rw [look_eq] at h
    by_cases e : n = f
    · rw [if_pos e] at h; cases h
    · rw [if_neg e] at h
      obtain ⟨g1, g4⟩ := OFs.fresh o2 h
      refine ⟨by rw [look_eq, if_neg e]; exact g1, fun Hk' H' x' v' A1' ex k o' => ?_⟩
      unfold putM putF
      rw [if_neg e, if_neg e]
      exact ⟨v, _, C, D ++ A1', rfl, by simp, o1.move ex fun a ha => k a (by simp [ha]), g4 Hk' H' x' v' A1' ex (fun a ha => k a (by simp [ha])) o'⟩
theorem OFs.len : ∀ {fs : List (Str × MV)} {vfs : List (Str × V)} {B : List Addr}, OFs K Hk H fs vfs B → vfs.length = fs.length
  | [], vfs, B, ⟨e1, _⟩ => by rw [e1]; rfl
  | _ :: fs, vfs, B, ⟨v, r, C, D, e1, e2, o1, o2⟩ => by rw [e1, List.length_cons, List.length_cons, o2.len]
theorem OV.obj {C : Str} {fs : List (Str × MV)} {v : V} {A : List Addr} : OV K Hk H (.obj C fs) v A ↔ ∃ p CA dx vfs B, v = .ref p ∧ A = p :: B ∧ PySem.W.nsIn K mainGlobals C = some (some (.ref CA)) ∧ H p = some (.ins CA dx vfs) ∧ OFs K Hk H fs vfs B ∧ (p :: B).Nodup := by
  unfold OV; rfl
theorem OF.own {xs : List MV} {v : V} {A : List Addr} : OF K Hk H (.own xs) v A ↔ ∃ p vs, v = .ref p ∧ A = [p] ∧ H p = some (.lst vs) ∧ RVs K Hk xs vs := by
  unfold OF; rfl
end
structure ObC (K : PySem.W.Frag) (C : Str) (fs : List Str) : Prop where
  ex : ∀ CA, PySem.W.nsIn K mainGlobals C = some (some (.ref CA)) → Cls K CA ∧ ∀ f ∈ fs, NoAttr K CA f
section
variable {X : Cx} {c : Ct} {C x f : Str} {fl : List Str} {i : Nat} {p p2 pos apos cpos : Pos} {e : Expr} {es : List Expr}
def objAt (ρ : Env) (i : Nat) (C : Str) : Option (List (Str × MV)) := match ρ[i]? with
  | some (some (.obj D fs)) => if D = C then some fs else none
  | _ => none
theorem obj_at {ρ : Env} {i : Nat} {C : Str} {fs : List (Str × MV)} (h : objAt ρ i C = some fs) : ρ[i]? = some (some (.obj C fs)) := by
  unfold objAt at h
  split at h
  · rename_i D gs e
    split at h
    · rename_i hD; subst hD; cases h; exact e
    · cases h
  · cases h
theorem obj_rs {F Hk H : Hp} {bp : List (Nat × Addr)} {σ : St} {ρ : Env} {fs : List (Str × MV)} (S : At c F Hk H bp σ ρ) (h : ρ[i]? = some (some (.obj C fs))) :
    ∃ ow p CA dx vfs B, SL c.K F Hk H ow σ ρ ∧ σ[i]? = some (some (.ref p)) ∧ ow i = p :: B ∧ PySem.W.nsIn c.K mainGlobals C = some (some (.ref CA)) ∧ H p = some (.ins CA dx vfs) ∧ OFs c.K Hk H fs vfs B ∧ (p :: B).Nodup := by
  obtain ⟨ow, s⟩ := S.1.ow
  obtain ⟨v, ev, o⟩ := s.s i _ h
  obtain ⟨p, CA, dx, vfs, B, e1, e2, e3, e4, e5, e6⟩ := OV.obj.mp o
  subst e1
  exact ⟨ow, p, CA, dx, vfs, B, s, ev, e2, e3, e4, e5, e6⟩
def mFld (C : Str) (i : Nat) (f : Str) : ME := fun ρ => match objAt ρ i C with
  | some fs => (match fs.lookup f with
    | some (.own xs) => .ok (.lst xs, ρ.set i (some (.obj C (putM f (.lst xs) fs))))
    | some y => if y.per then .ok (y, ρ) else .stuck
    | none => .stuck)
  | none => .stuck
theorem putF_same {f : Str} {v : V} : ∀ {vfs : List (Str × V)}, vfs.lookup f = some v → putF f v vfs = vfs
  | [], h => by simp at h
  | (n, y) :: r, h => by
    rw [look_eq] at h
    unfold putF
    by_cases e : n = f
    · rw [if_pos e] at h ⊢; cases h; rfl
    · rw [if_neg e] at h ⊢; rw [putF_same h]
theorem me_fld (Z : ObC X.K C fl) (hfl : f ∈ fl) (hN : X.N[i]? = some x) (hv : Vis X.env.scope x) (hK : c.K = X.K := by rfl) (hb : attributeBase (.Name x p) f X.env (eval (.Name x p) X.env) = eval (.Name x p) X.env := by rfl) (hd : (x == ("__debug__" : Str)) = false := by decide) (hcd : (x == ("__classdict__" : Str)) = false := by decide) :
    PE X (.Attribute (.Name x p) f pos) (rdE c (mFld C i f)) :=
  PEw (pe_fld (pe_var hN hv hd hcd) hb) fun σ H Q h => by
    obtain ⟨F, Hk, bp, ρ, S, h⟩ := h
    unfold mFld at h
    cases eo : objAt ρ i C with
    | none => rw [eo] at h; exact h.elim
    | some fs =>
      rw [eo] at h
      have hi := obj_at eo
      obtain ⟨ow, q, CA, dx, vfs, B, s, ev, eow, ns, hq, ofs, nd⟩ := obj_rs S hi
      obtain ⟨cl, na⟩ := Z.ex CA (by rw [← hK]; exact ns)
      refine ⟨_, ev, q, CA, dx, vfs, ?_⟩
      cases el : fs.lookup f with
      | none => simp only [el] at h; exact h.elim
      | some y =>
        obtain ⟨v, A1, B1, B2, g1, g2, g3, g4⟩ := ofs.focus el
        refine ⟨v, rfl, hq, cl, na f hfl, g1, ?_⟩
        have pl : y.per = true → okE c F Hk bp σ Q (if y.per then .ok (y, ρ) else .stuck) → Q v H := fun py h => by
          rw [if_pos py] at h
          exact h _ _ _ (Ex.refl _) S.1 ((OF.per py).mp g3).2
        by_cases hown : ∃ xs, y = .own xs
        · obtain ⟨xs, rfl⟩ := hown
          simp only [el] at h
          obtain ⟨r, vs, rfl, rfl, hr, rv⟩ := OF.own.mp g3
          have mr : r ∈ ow i := by rw [eow, g2]; simp
          obtain ⟨k0, f0, _⟩ := s.f i r mr
          have ex := Ex.new (o := HO.lst vs) k0
          have rl : RV c.K (upd Hk r (.lst vs)) (.lst xs) (.ref r) := RV.lst.mpr ⟨r, vs, rfl, upd_same, rv.mono ex⟩
          have nB : r ∉ q :: (B1 ++ B2) := by
            rw [g2] at nd
            have : (r :: (q :: (B1 ++ B2))).Nodup := nd.perm (by
              refine List.Perm.symm ?_
              simp only [List.append_assoc]
              exact (List.Perm.swap q r _).trans (List.Perm.cons q (List.perm_middle.symm)))
            exact (List.nodup_cons.mp this).1
          have nd2 : (q :: (B1 ++ B2)).Nodup := by
            rw [g2] at nd
            refine nd.sublist (List.Sublist.cons_cons q ?_)
            simp only [List.append_assoc]
            exact List.Sublist.append_left (List.sublist_append_right [r] B2) B1
          obtain ⟨sl, R⟩ := SL.re (y := .obj C (putM f (.lst xs) fs)) (A' := q :: (B1 ++ B2)) S.1 s hi ev ex (S.1.ex.updL hr) (fun a _ o ho => ho) (fun a ha hn _ => by
            rw [upd_ne (fun z => ha (by rw [z]; exact mr))]; exact hn) (OV.obj.mpr ⟨q, CA, dx, vfs, B1 ++ B2, rfl, rfl, ns, hq, by
              have := g4 (upd Hk r (.lst vs)) H (.lst xs) (.ref r) [] ex (fun _ _ _ z => z) ((OF.per rfl).mpr ⟨rfl, rl⟩)
              rw [putF_same g1] at this
              simpa using this, nd2⟩) (fun a ha => by
              have ma : a ∈ ow i := by
                rw [eow, g2]
                rcases List.mem_cons.mp ha with rfl | ha
                · simp
                · rcases List.mem_append.mp ha with h | h <;> simp [h]
              exact ⟨.inl ma, by rw [upd_ne (fun z => nB (by rw [← z]; exact ha))]; exact (s.f i a ma).1⟩)
          exact h _ _ _ ex R rl
        · have py : y.per = true := by
            cases y with
            | own xs => exact (hown ⟨xs, rfl⟩).elim
            | obj C fs => exact (show False by unfold OF at g3; unfold RV at g3; exact g3.2).elim
            | _ => rfl
          refine pl py ?_
          cases y <;> first | (exact (hown ⟨_, rfl⟩).elim) | (simp only [el] at h; exact h)
def fldSet (C : Str) (i : Nat) (f : Str) (y : MV) (ρ1 : Env) : Res (Fl × Env) := match objAt ρ1 i C with
  | some fs => if y.per && decide (fs.length < 900) then .ok (.nx, ρ1.set i (some (.obj C (putM f y fs)))) else .stuck
  | none => .stuck
def mFldSet (C : Str) (i : Nat) (f : Str) (a : ME) : MS := fun ρ => (a ρ).bind (fldSet C i f)
theorem obj_put {F Hk H : Hp} {bp : List (Nat × Addr)} {σ : St} {ρ : Env} {fs : List (Str × MV)} {ow : Nat → List Addr} {q CA dx : Addr} {vfs : List (Str × V)} {B : List Addr} {y : MV} {v : V} (S : RS c.K F Hk H bp σ ρ) (s : SL c.K F Hk H ow σ ρ) (hi : ρ[i]? = some (some (.obj C fs))) (ev : σ[i]? = some (some (.ref q))) (eow : ow i = q :: B)
    (ns : PySem.W.nsIn c.K mainGlobals C = some (some (.ref CA))) (hq : H q = some (.ins CA dx vfs)) (ofs : OFs c.K Hk H fs vfs B) (nd : (q :: B).Nodup) (py : y.per = true) (r : RV c.K Hk y v) :
    RS c.K F Hk (upd H q (.ins CA dx (putF f v vfs))) bp σ (ρ.set i (some (.obj C (putM f y fs)))) := by
  have mq : q ∈ ow i := by rw [eow]; simp
  obtain ⟨k0, f0, _⟩ := s.f i q mq
  have sub : ∃ B', OFs c.K Hk (upd H q (.ins CA dx (putF f v vfs))) (putM f y fs) (putF f v vfs) B' ∧ B'.Sublist B := by
    have nq : ∀ a ∈ B, a ≠ q := fun a ha z => (List.nodup_cons.mp nd).1 (by rw [← z]; exact ha)
    have st : ∀ a ∈ B, ∀ o, H a = some o → upd H q (.ins CA dx (putF f v vfs)) a = some o := fun a ha o ho => by rw [upd_ne (nq a ha)]; exact ho
    cases el : fs.lookup f with
    | some z =>
      obtain ⟨w, A1, B1, B2, g1, g2, g3, g4⟩ := ofs.focus el
      refine ⟨B1 ++ [] ++ B2, g4 Hk _ y v [] (Ex.refl _) (fun a ha => st a (by rw [g2]; rcases List.mem_append.mp ha with h | h <;> simp [h])) ((OF.per py).mpr ⟨rfl, r⟩), ?_⟩
      rw [g2]
      simp only [List.append_nil, List.append_assoc]
      exact List.Sublist.append_left (List.sublist_append_right A1 B2) B1
    | none =>
      obtain ⟨g1, g4⟩ := ofs.fresh el
      exact ⟨B ++ [], g4 Hk _ y v [] (Ex.refl _) st ((OF.per py).mpr ⟨rfl, r⟩), by simp⟩
  obtain ⟨B', o', sb⟩ := sub
  refine (SL.re (A' := q :: B') S s hi ev (Ex.refl _) (S.ex.mut k0) (fun a ha o ho => by rw [upd_ne (fun z => ha (by rw [z]; exact mq))]; exact ho) (fun a _ hn _ => hn)
    (OV.obj.mpr ⟨q, CA, dx, _, B', rfl, rfl, ns, upd_same, o', nd.sublist (sb.cons_cons q)⟩) (fun a ha => ?_)).2
  have ma : a ∈ ow i := by
    rw [eow]
    rcases List.mem_cons.mp ha with rfl | ha
    · simp
    · exact List.mem_cons_of_mem _ (sb.subset ha)
  exact ⟨.inl ma, (s.f i a ma).1⟩
theorem ms_fldSet {a : ME} (Z : ObC X.K C fl) (hfl : f ∈ fl) (hN : X.N[i]? = some x) (hv : Vis X.env.scope x) (he : PE X e (rdE c a)) (hK : c.K = X.K := by rfl) (hs : swapsWith e (some (.Attribute (.Name x p) f p2)) pos.line X.env = pure false := by rfl) (hd : (x == ("__debug__" : Str)) = false := by decide) (hcd : (x == ("__classdict__" : Str)) = false := by decide) :
    PS X (.Assign [.Attribute (.Name x p) f p2] e pos) (rdS c (mFldSet C i f a)) :=
  PSw (ps_fld (pe_var hN hv hd hcd) he hs) fun D σ H h => by
    obtain ⟨F, Hk, bp, ρ, S, h⟩ := h
    refine rdw (bE (postS (σ := σ)) S h) fun v H1 ⟨Hk1, y, ρ1, x1, S1, r1, h1⟩ => ?_
    unfold fldSet at h1
    cases eo : objAt ρ1 i C with
    | none => rw [eo] at h1; exact h1.elim
    | some fs =>
      rw [eo] at h1
      have h1 : okS c F Hk1 bp D (if (y.per && decide (fs.length < 900)) = true then .ok (.nx, ρ1.set i (some (.obj C (putM f y fs)))) else .stuck) := h1
      split at h1
      · rename_i hc
        simp only [Bool.and_eq_true, decide_eq_true_eq] at hc
        have hi := obj_at eo
        obtain ⟨ow, q, CA, dx, vfs, B, s, ev, eow, ns, hq, ofs, nd⟩ := obj_rs S1 hi
        obtain ⟨cl, na⟩ := Z.ex CA (by rw [← hK]; exact ns)
        refine ⟨_, ev, q, CA, dx, vfs, rfl, hq, cl, na f hfl, by rw [ofs.len]; omega, ?_⟩
        exact h1 _ _ _ (Ex.refl _) (obj_put S1.1 s hi ev eow ns hq ofs nd hc.1 r1)
      · exact h1.elim
def mFldNil (C : Str) (i : Nat) (f : Str) : MS := fun ρ => match objAt ρ i C with
  | some fs => if decide (fs.length < 900) then .ok (.nx, ρ.set i (some (.obj C (putM f (.own []) fs)))) else .stuck
  | none => .stuck
theorem ms_fldNil {p3 : Pos} (Z : ObC X.K C fl) (hfl : f ∈ fl) (hN : X.N[i]? = some x) (hv : Vis X.env.scope x) (hK : c.K = X.K := by rfl) (hd : (x == ("__debug__" : Str)) = false := by decide) (hcd : (x == ("__classdict__" : Str)) = false := by decide)
    (hs : swapsWith (.List [] p3) (some (.Attribute (.Name x p) f p2)) pos.line X.env = pure false := by rfl) :
    PS X (.Assign [.Attribute (.Name x p) f p2] (.List [] p3) pos) (rdS c (mFldNil C i f)) :=
  PSw (ps_fld (pe_var hN hv hd hcd) (pe_lst pa_nil) hs) fun D σ H h => by
    obtain ⟨F, Hk, bp, ρ, S, h⟩ := h
    unfold mFldNil at h
    cases eo : objAt ρ i C with
    | none => rw [eo] at h; exact h.elim
    | some fs =>
      rw [eo] at h
      have h : okS c F Hk bp D (if decide (fs.length < 900) = true then .ok (.nx, ρ.set i (some (.obj C (putM f (.own []) fs)))) else .stuck) := h
      split at h
      · rename_i hc
        have hc := of_decide_eq_true hc
        have hi := obj_at eo
        refine ⟨by rw [sizeLine_eq]; decide, fun l hl => ?_⟩
        obtain ⟨ow, q, CA, dx, vfs, B, s, ev, eow, ns, hq, ofs, nd⟩ := obj_rs S hi
        obtain ⟨cl, na⟩ := Z.ex CA (by rw [← hK]; exact ns)
        have nlq : l ≠ q := fun z => by rw [z, hq] at hl; cases hl
        refine ⟨_, ev, q, CA, dx, vfs, rfl, by rw [upd_ne (Ne.symm nlq)]; exact hq, cl, na f hfl, by rw [ofs.len]; omega, ?_⟩
        have mq : q ∈ ow i := by rw [eow]; simp
        obtain ⟨k0, f0, _⟩ := s.f i q mq
        have kl := S.1.ex.back hl
        have st : ∀ a ∈ B, ∀ o, H a = some o → upd (upd H l (.lst [])) q (.ins CA dx (putF f (.ref l) vfs)) a = some o := fun a ha o ho => by
          rw [upd_ne (fun z => (List.nodup_cons.mp nd).1 (by rw [← z]; exact ha)), upd_ne (fun z => by rw [z, hl] at ho; cases ho)]; exact ho
        have ol : OF c.K Hk (upd (upd H l (.lst [])) q (.ins CA dx (putF f (.ref l) vfs))) (.own []) (.ref l) [l] := OF.own.mpr ⟨l, [], rfl, rfl, by rw [upd_ne nlq, upd_same], RVs.nil.mpr rfl⟩
        have sub : ∃ B', OFs c.K Hk (upd (upd H l (.lst [])) q (.ins CA dx (putF f (.ref l) vfs))) (putM f (.own []) fs) (putF f (.ref l) vfs) B' ∧ (∀ a ∈ B', a = l ∨ a ∈ B) ∧ (q :: B').Nodup := by
          have lB : l ∉ q :: B := fun m => by
            obtain ⟨_, _, o, g⟩ := s.f i l (by rw [eow]; exact m)
            rw [hl] at g; cases g
          cases el : fs.lookup f with
          | some z =>
            obtain ⟨w, A1, B1, B2, g1, g2, g3, g4⟩ := ofs.focus el
            refine ⟨B1 ++ [l] ++ B2, g4 Hk _ _ _ [l] (Ex.refl _) (fun a ha => st a (by rw [g2]; rcases List.mem_append.mp ha with h | h <;> simp [h])) ol, fun a ha => ?_, ?_⟩
            · rw [g2]
              simp only [List.mem_append, List.mem_singleton] at ha ⊢
              rcases ha with (h | h) | h
              · exact .inr (.inl (.inl h))
              · exact .inl h
              · exact .inr (.inr h)
            · have n2 : (q :: (B1 ++ B2)).Nodup := by
                rw [g2] at nd
                refine nd.sublist (List.Sublist.cons_cons q ?_)
                simp only [List.append_assoc]
                exact List.Sublist.append_left (List.sublist_append_right A1 B2) B1
              have : (l :: (q :: (B1 ++ B2))).Nodup := List.nodup_cons.mpr ⟨fun m => lB (by
                rw [g2]
                rcases List.mem_cons.mp m with h | h
                · simp [h]
                · rcases List.mem_append.mp h with h | h <;> simp [h]), n2⟩
              refine this.perm ?_
              simp only [List.append_assoc]
              exact (List.Perm.swap q l _).trans (List.Perm.cons q (List.perm_middle.symm))
          | none =>
            obtain ⟨g1, g4⟩ := ofs.fresh el
            refine ⟨B ++ [l], g4 Hk _ _ _ [l] (Ex.refl _) st ol, fun a ha => ?_, ?_⟩
            · simp only [List.mem_append, List.mem_singleton] at ha; exact ha.symm
            · have : (l :: (q :: B)).Nodup := List.nodup_cons.mpr ⟨lB, nd⟩
              refine this.perm ?_
              exact (List.perm_append_singleton l (q :: B)).symm
        obtain ⟨B', o', sb, nd'⟩ := sub
        refine h _ _ _ (Ex.refl _) (SL.re (A' := q :: B') S.1 s hi ev (Ex.refl _) (fun a o ha => ?_) (fun a ha o ho => ?_) (fun a _ hn _ => hn)
          (OV.obj.mpr ⟨q, CA, dx, _, B', rfl, rfl, ns, upd_same, o', nd'⟩) (fun a ha => ?_)).2
        · rw [upd_ne (fun z => by rw [z, k0] at ha; cases ha), upd_ne (fun z => by rw [z, kl] at ha; cases ha)]
          exact S.1.ex a o ha
        · rw [upd_ne (fun z => ha (by rw [z]; exact mq)), upd_ne (fun z => by rw [z, hl] at ho; cases ho)]; exact ho
        · rcases List.mem_cons.mp ha with rfl | ha
          · exact ⟨.inl mq, k0⟩
          · rcases sb a ha with rfl | ha
            · exact ⟨.inr hl, kl⟩
            · have ma : a ∈ ow i := by rw [eow]; exact List.mem_cons_of_mem _ ha
              exact ⟨.inl ma, (s.f i a ma).1⟩
      · exact h.elim
def fldAug (g : MV → MV → Option MV) (C : Str) (i : Nat) (f : Str) (u y : MV) (ρ1 : Env) : Res (Fl × Env) := match objAt ρ1 i C with
  | some fs => (match g u y with | some z => if flatM z && decide (fs.length < 900) then .ok (.nx, ρ1.set i (some (.obj C (putM f z fs)))) else .stuck | none => .stuck)
  | none => .stuck
def mFldAug (g : MV → MV → Option MV) (C : Str) (i : Nat) (f : Str) (a : ME) : MS := fun ρ => match objAt ρ i C with
  | some fs => (match fs.lookup f with | some (.int k) => (a ρ).bind (fldAug g C i f (.int k)) | _ => .stuck)
  | none => .stuck
theorem ms_fldAug {a : ME} (Z : ObC X.K C fl) (hfl : f ∈ fl) (hN : X.N[i]? = some x) (hv : Vis X.env.scope x) (he : PE X e (rdE c a)) (hK : c.K = X.K := by rfl) (hd : (x == ("__debug__" : Str)) = false := by decide) (hcd : (x == ("__classdict__" : Str)) = false := by decide) :
    PS X (.AugAssign (.Attribute (.Name x p) f p2) .Add e pos) (rdS c (mFldAug fAddI C i f a)) :=
  PSw (ps_fldaug (pe_var hN hv hd hcd) he in_add) fun D σ H h => by
    obtain ⟨F, Hk, bp, ρ, S, h⟩ := h
    unfold mFldAug at h
    cases eo : objAt ρ i C with
    | none => rw [eo] at h; exact h.elim
    | some fs =>
      rw [eo] at h
      have hi := obj_at eo
      obtain ⟨ow, q, CA, dx, vfs, B, s, ev, eow, ns, hq, ofs, nd⟩ := obj_rs S hi
      obtain ⟨cl, na⟩ := Z.ex CA (by rw [← hK]; exact ns)
      refine ⟨_, ev, q, CA, dx, vfs, ?_⟩
      split at h
      · rename_i fs' efs
        cases efs
        split at h
        · rename_i k el
          obtain ⟨v, A1, B1, B2, g1, g2, g3, g4⟩ := ofs.focus el
          have ekv : v = .int k := RV.int.mp ((OF.per rfl).mp g3).2
          refine ⟨v, rfl, hq, cl, na f hfl, g1, ?_⟩
          refine rdw (bE (postS (σ := σ)) S h) fun w H1 ⟨Hk1, y, ρ1, x1, S1, r1, h1⟩ => ?_
          unfold fldAug at h1
          split at h1
          · rename_i fs1 eo1
            split at h1
            · rename_i z ez
              split at h1
              · rename_i hc
                simp only [Bool.and_eq_true, decide_eq_true_eq] at hc
                have hi1 := obj_at eo1
                obtain ⟨ow1, q1, CA1, dx1, vfs1, B1', s1, ev1, eow1, ns1, hq1, ofs1, nd1⟩ := obj_rs S1 hi1
                rw [ev] at ev1
                cases ev1
                rw [ns] at ns1
                cases ns1
                cases y with
                | int j1 =>
                  have ez : some (MV.int (k + j1)) = some z := ez
                  cases ez
                  refine ⟨k, j1, ekv, RV.int.mp r1, dx1, vfs1, hq1, by rw [ofs1.len]; omega, ?_⟩
                  exact h1 _ _ _ (Ex.refl _) (obj_put S1.1 s1 hi1 ev eow1 ns hq1 ofs1 nd1 rfl (RV.int.mpr rfl))
                | _ => cases ez
              · exact h1.elim
            · exact h1.elim
          · exact h1.elim
        · exact h.elim
      · exact h.elim
end
end Tm
set_option Elab.async false
set_option linter.all false
set_option maxRecDepth 100000
set_option maxHeartbeats 2000000
namespace Tm
open PySem L2
open Evl (Ex ex_rd ex_l ex_t)
structure ObM (P : Program) (w : World) (K : PySem.W.Frag) (mg : Str → Option Value) (base : Heap) (C m : Str) (k : Nat) (ps : List Str) (bs : List Nat) (f : MF) : Prop where
  ex : ∃ CA g fd, PySem.W.nsIn K mainGlobals C = some (some (.ref CA)) ∧ Cls K CA ∧ Meth K CA m g ∧ FnOk P w K mg base (L2N.CX P w) k g fd ps (spF K mg ps.length bs f) ∧ Binds K fd ps []
def mbO (C m : Str) (i : Nat) (b : MB) : MB := fun ρ => match objAt ρ i C with
  | some fs => if (fs.lookup m).isNone then (b ρ).bind fun xs ρ2 => .ok (.b i :: xs, ρ2) else .stuck
  | none => .stuck
theorem bsh_o {C m : Str} {i : Nat} {b : MB} {k n : Nat} {is bs : List Nat} (h : Bsh b (k + 1) is bs n) : Bsh (mbO C m i b) k (i :: is) (k :: bs) (n + 1) := fun ρ xs ρ' e => by
  unfold mbO at e
  split at e
  · split at e
    · cases eb : b ρ with
      | stuck => rw [eb] at e; cases e
      | exc x r => rw [eb] at e; cases e
      | ok q =>
        rw [eb] at e
        cases e
        obtain ⟨h1, h2, h3⟩ := h _ _ _ eb
        exact ⟨by show i :: _ = _; rw [h1], by show k :: _ = _; rw [h2], by simp [h3]⟩
    · cases e
  · cases e
def tMethS (C : Addr) (m : Str) (sp : Sp) (E : St → XK) (ta : TE) (t : TA) : TE := fun σ H Q => ta σ H fun x H1 => ∃ a dx fs, x = .ref a ∧ H1 a = some (.ins C dx fs) ∧ fs.lookup m = none ∧ t σ H1 fun vs H2 => sp (x :: vs) H2 Q (E σ)
section
variable {X : Cx} {CX : CXT} {k : Nat} {g CA : Addr} {fd : FuncData} {ps : List Str} {sp : Sp} {E : St → XK} {m : Str} {pos apos : Pos} {e o : Expr} {es : List Expr} {ta : TE} {t : TA}
theorem pe_methS {pl : Sem Bool} (he : PE X o ta) (c : Cls X.K CA) (hm : Meth X.K CA m g) (F : FnOk X.prog X.w X.K X.mg X.base CX k g fd ps sp) (hr : Room k X.A) (hb : Binds X.K fd ps []) (hx : ∀ σ, PassesAt CX X σ (E σ)) (ha : PA X (e :: es) t)
    (hst : starEach (e :: es) X.env = (false, eval e X.env) :: starEach es X.env := by rfl) (hpl : (backTo pos (starEach es X.env)).any (·.1) = false := by rfl)
    (ht : eval (.Call (.Attribute o m apos) (e :: es) [] pos) X.env = (do
      let ov ← eval o X.env
      standAt apos.atName
      let (f, first) ← holding [ov] (getMethod ov m pl)
      callWith pos f first (backTo pos (starEach (e :: es) X.env)) (backToKw pos (keywordEach [] X.env))) := by rfl) :
    PE X (.Call (.Attribute o m apos) (e :: es) [] pos) (tMethS CA m sp E ta t) := by
  refine ⟨fun pins s σ H Q I h => ?_⟩
  refine PySem.W.methodCall_KW (pl := pl) (thn (he.run pins s σ H _ I h) fun u s1 ⟨x, H1, I1, rx, a, dx, fs, ex, ea, l, q⟩ => ?_) ht
  subst ex
  obtain rfl : u = Value.ref a := rx
  refine getmeth_ok I1 ea c hm l ?_
  refine PySem.W.callWith_K (first := [.ref a]) (h₀ := X.base) I.ok.mod.kin hm.kp (thn (ha.run pos pins s1 σ H1 _ I1 q) fun us s2 ⟨vs, H2, I2, r, q2⟩ => ⟨I2.kIn, ?_⟩) hst hpl
  exact run_fnS (us := .ref a :: us) (vs := .ref a :: vs) F hr hb (hx σ) I2 (.cons rfl r) q2
theorem pe_methS0 {pl : Sem Bool} (he : PE X o ta) (c : Cls X.K CA) (hm : Meth X.K CA m g) (F : FnOk X.prog X.w X.K X.mg X.base CX k g fd ps sp) (hr : Room k X.A) (hb : Binds X.K fd ps []) (hx : ∀ σ, PassesAt CX X σ (E σ))
    (ht : eval (.Call (.Attribute o m apos) [] [] pos) X.env = (do
      let ov ← eval o X.env
      standAt apos.atName
      let (f, first) ← holding [ov] (getMethod ov m pl)
      callWith pos f first (backTo pos (starEach [] X.env)) (backToKw pos (keywordEach [] X.env))) := by rfl) :
    PE X (.Call (.Attribute o m apos) [] [] pos) (tMethS CA m sp E ta tNil) := by
  refine ⟨fun pins s σ H Q I h => ?_⟩
  refine PySem.W.methodCall_KW (pl := pl) (thn (he.run pins s σ H _ I h) fun u s1 ⟨x, H1, I1, rx, a, dx, fs, ex, ea, l, q⟩ => ?_) ht
  subst ex
  obtain rfl : u = Value.ref a := rx
  refine getmeth_ok I1 ea c hm l ?_
  exact PySem.W.callWith_K0 (first := [.ref a]) I1.kIn hm.kp (run_fnS (us := [.ref a]) (vs := [.ref a]) F hr hb (hx σ) I1 (.cons rfl .nil) q)
end
def cbE0 (f : MF) (args : List BA) (ρ : Env) : Res (MV × Env) := match fill args ρ with
  | some xs => (match f xs with | .ok (v, os) => .ok (v, back ρ (idxB args) os) | _ => .stuck)
  | none => .stuck
def mCallB0 (f : MF) (a : MB) : ME := fun ρ => (a ρ).bind (cbE0 f)
theorem cb0_okO {c : Ct} {F Hk : Hp} {bp : List (Nat × Addr)} {σ : St} {Q : VK} {f : MF} {args : List BA} {ρ : Env} {W : WX} (h : okO c F Hk bp σ Q (cbE0 f args ρ)) : okO ⟨c.K, c.mg, W, c.bs, c.J, c.Jm⟩ F Hk bp σ Q (cbE f args ρ) := by
  unfold cbE0 at h
  unfold cbE
  cases ef : fill args ρ with
  | none => rw [ef] at h; exact h.elim
  | some xs =>
    rw [ef] at h
    simp only at h ⊢
    cases e : f xs with
    | stuck => rw [e] at h; exact h.elim
    | exc x os => rw [e] at h; exact h.elim
    | ok q => rw [e] at h; exact h
section
variable {X : Cx} {c : Ct} {k j : Nat} {fa : Addr} {fd : FuncData} {ps : List Str} {x C m : Str} {p pos apos : Pos} {e : Expr} {es : List Expr} {f : MF} {a : MB} {n i : Nat} {is bs : List Nat}
theorem rd_cB0 (sh : Bsh a 0 is bs n) (nd : is.Nodup) {σ : St} {H : Hp} {Q : VK} (h : rdO c (mCallB0 f a) σ H Q) : tCall (spF c.K c.mg n bs f) [] (fun _ _ _ => False) (rdBA c a) σ H Q := by
  obtain ⟨F, Hk, bp, ρ, S, h⟩ := h
  refine ⟨F, Hk, bp, ρ, S, ?_⟩
  have h : okO c F Hk bp σ Q ((a ρ).bind (cbE0 f)) := h
  cases e : a ρ with
  | stuck => rw [e] at h; exact h
  | exc x ρ' => rw [e] at h; exact h
  | ok q =>
    obtain ⟨args, ρ1⟩ := q
    rw [e] at h
    intro Hk1 H1 vs x1 S1 r1
    rw [List.append_nil]
    have h : okO c F Hk1 bp σ Q (cbE0 f args ρ1) := okO.mono x1 h
    have h2 := cb0_okO (W := fun _ _ _ _ => False) h
    unfold cbE at h2
    obtain ⟨q1, q2, q3⟩ := sh _ _ _ e
    cases ef : fill args ρ1 with
    | none => rw [ef] at h2; exact h2.elim
    | some xs =>
      rw [ef] at h2
      exact callB_end (c := ⟨c.K, c.mg, fun _ _ _ _ => False, c.bs, c.J, c.Jm⟩) ⟨S1, S.2⟩ r1 q3 (by rw [q1]; exact nd) q2 ef (fun e ρ' q => q) h2
theorem rd_meth {CA : Addr} (ns : PySem.W.nsIn c.K mainGlobals C = some (some (.ref CA))) {σ : St} {H : Hp} {Q : List V → Hp → Prop} (h : rdBA c (mbO C m i a) σ H Q) : tVar i σ H fun x H1 => ∃ q dx fs, x = .ref q ∧ H1 q = some (.ins CA dx fs) ∧ fs.lookup m = none ∧ rdBA c a σ H1 fun vs H2 => Q (x :: vs) H2 := by
  obtain ⟨F, Hk, bp, ρ, S, h⟩ := h
  unfold mbO at h
  cases eo : objAt ρ i C with
  | none => simp only [eo] at h; exact h.elim
  | some fs =>
    simp only [eo] at h
    split at h
    · rename_i hn
      have hi := obj_at eo
      obtain ⟨ow, q, CA', dx, vfs, B, s, ev, eow, ns', hq, ofs, nd⟩ := obj_rs S hi
      rw [ns] at ns'
      cases ns'
      have ln : fs.lookup m = none := by simpa using hn
      refine ⟨_, ev, q, dx, vfs, rfl, hq, (ofs.fresh ln).1, ?_⟩
      refine rdBAw (bBA postBA S h) fun vs H2 ⟨Hk2, xs, ρ2, x2, S2, r2, h2⟩ => ?_
      exact h2 _ _ _ (Ex.refl _) S2.1 ⟨_, vs, rfl, ev, r2⟩
    · exact h.elim
theorem mo_meth (hr : Room j X.A) (hj : k ≤ j) (tk : L2N.Takes X c.W) (hN : X.N[i]? = some x) (hv : Vis X.env.scope x) (ha : PA X (e :: es) (rdBA c a)) (sh : Bsh a 1 is bs n) {bs' : List Nat} (hbs : 0 :: bs = bs') (hn : n + 1 = ps.length) (G : ObM X.prog X.w X.K X.mg X.base C m k ps bs' f) (nd : (i :: is).Nodup := by decide) (hK : c.K = X.K := by rfl) (hM : c.mg = X.mg := by rfl) (hd : (x == ("__debug__" : Str)) = false := by decide) (hcd : (x == ("__classdict__" : Str)) = false := by decide)
    {pl : Sem Bool} (hst : starEach (e :: es) X.env = (false, eval e X.env) :: starEach es X.env := by rfl) (hpl : (backTo pos (starEach es X.env)).any (·.1) = false := by rfl)
    (ht : eval (.Call (.Attribute (.Name x p) m apos) (e :: es) [] pos) X.env = (do
      let ov ← eval (.Name x p) X.env
      standAt apos.atName
      let (f, first) ← holding [ov] (getMethod ov m pl)
      callWith pos f first (backTo pos (starEach (e :: es) X.env)) (backToKw pos (keywordEach [] X.env))) := by rfl) :
    PE X (.Call (.Attribute (.Name x p) m apos) (e :: es) [] pos) (rdO c (mCallB f (mbO C m i a))) := by
  subst hbs
  obtain ⟨CA, g, fd, ns, cl, me, F, hb⟩ := G.ex
  refine PEw (pe_methS (pl := pl) (E := WE c.W) (pe_var hN hv hd hcd) cl me F (hr.mono hj) hb (fun σ => L2N.passAt tk σ) ha hst hpl ht) fun σ H Q h => ?_
  have z := rd_callB (c := c) (f := f) (a := mbO C m i a) (n := n + 1) (is := i :: is) (bs := 0 :: bs) (bsh_o sh) nd h
  have z2 := rd_meth (by rw [hK]; exact ns) z
  obtain ⟨v, ev, q, dx, fs, e1, e2, e3, e4⟩ := z2
  refine ⟨v, ev, q, dx, fs, e1, e2, e3, rdBAw e4 fun vs H2 w => ?_⟩
  rw [hK, hM, hn] at w
  exact w
theorem mo_meth0 {bs' : List Nat} (G : ObM X.prog X.w X.K X.mg X.base C m k ps bs' f) (hbs : [0] = bs') (hn : 1 = ps.length) (hr : Room j X.A) (hj : k ≤ j) (tk : L2N.Takes X c.W) (hN : X.N[i]? = some x) (hv : Vis X.env.scope x) (hK : c.K = X.K := by rfl) (hM : c.mg = X.mg := by rfl) (hd : (x == ("__debug__" : Str)) = false := by decide) (hcd : (x == ("__classdict__" : Str)) = false := by decide)
    {pl : Sem Bool} (ht : eval (.Call (.Attribute (.Name x p) m apos) [] [] pos) X.env = (do
      let ov ← eval (.Name x p) X.env
      standAt apos.atName
      let (f, first) ← holding [ov] (getMethod ov m pl)
      callWith pos f first (backTo pos (starEach [] X.env)) (backToKw pos (keywordEach [] X.env))) := by rfl) :
    PE X (.Call (.Attribute (.Name x p) m apos) [] [] pos) (rdO c (mCallB f (mbO C m i mbNil))) := by
  subst hbs
  obtain ⟨CA, g, fd, ns, cl, me, F, hb⟩ := G.ex
  refine PEw (pe_methS0 (pl := pl) (E := WE c.W) (pe_var hN hv hd hcd) cl me F (hr.mono hj) hb (fun σ => L2N.passAt tk σ) ht) fun σ H Q h => ?_
  have z := rd_callB (c := c) (f := f) (a := mbO C m i mbNil) (n := 1) (is := [i]) (bs := [0]) (bsh_o (n := 0) bsh_nil) (by simp) h
  have z2 := rd_meth (by rw [hK]; exact ns) z
  obtain ⟨v, ev, q, dx, fs, e1, e2, e3, F', Hk, bp, ρ, S, e4⟩ := z2
  refine ⟨v, ev, q, dx, fs, e1, e2, e3, ?_⟩
  have w := e4 _ _ _ (Ex.refl _) S.1 rfl
  show spF X.K X.mg ps.length [0] f [v] H Q (WE c.W σ)
  rw [← hn, ← hK, ← hM]
  exact w
theorem mo_methB0 {bs' : List Nat} (G : ObM X.prog X.w X.K X.mg X.base C m k ps bs' f) (hbs : 0 :: bs = bs') (hn : n + 1 = ps.length) (hr : Room j X.A) (hj : k ≤ j) (hN : X.N[i]? = some x) (hv : Vis X.env.scope x) (ha : PA X (e :: es) (rdBA c a)) (sh : Bsh a 1 is bs n) (nd : (i :: is).Nodup := by decide) (hK : c.K = X.K := by rfl) (hM : c.mg = X.mg := by rfl) (hd : (x == ("__debug__" : Str)) = false := by decide) (hcd : (x == ("__classdict__" : Str)) = false := by decide)
    {pl : Sem Bool} (hst : starEach (e :: es) X.env = (false, eval e X.env) :: starEach es X.env := by rfl) (hpl : (backTo pos (starEach es X.env)).any (·.1) = false := by rfl)
    (ht : eval (.Call (.Attribute (.Name x p) m apos) (e :: es) [] pos) X.env = (do
      let ov ← eval (.Name x p) X.env
      standAt apos.atName
      let (f, first) ← holding [ov] (getMethod ov m pl)
      callWith pos f first (backTo pos (starEach (e :: es) X.env)) (backToKw pos (keywordEach [] X.env))) := by rfl) :
    PE X (.Call (.Attribute (.Name x p) m apos) (e :: es) [] pos) (rdO c (mCallB0 f (mbO C m i a))) := by
  subst hbs
  obtain ⟨CA, g, fd, ns, cl, me, F, hb⟩ := G.ex
  refine PEw (pe_meth (pl := pl) (pe_var hN hv hd hcd) cl me F (hr.mono hj) hb .nil passes0 ha hst hpl ht) fun σ H Q h => ?_
  have z := rd_cB0 (c := c) (f := f) (a := mbO C m i a) (n := n + 1) (is := i :: is) (bs := 0 :: bs) (bsh_o sh) nd h
  have z2 := rd_meth (by rw [hK]; exact ns) z
  obtain ⟨v, ev, q, dx, fs, e1, e2, e3, e4⟩ := z2
  refine ⟨v, ev, q, dx, fs, e1, e2, e3, rdBAw e4 fun vs H2 w => ?_⟩
  rw [hK, hM, hn] at w
  exact w
end
structure ObN (P : Program) (w : World) (K : PySem.W.Frag) (mg : Str → Option Value) (base : Heap) (C : Str) (k : Nat) (f : MF) : Prop where
  ex : ∃ CA g fd ps, PySem.W.nsIn K mainGlobals C = some (some (.ref CA)) ∧ mg C = some (.ref CA) ∧ Mk K CA g ∧ FnOk P w K mg base (L2N.CX P w) k g fd ps (spF K mg 1 [0] f) ∧ Binds K fd ps []
def mMake (C : Str) (f : MF) : ME := fun ρ => match f [.obj C []] with
  | .ok (.non, [some y]) => if y.held then .ok (y, ρ) else .stuck
  | _ => .stuck
section
variable {X : Cx} {c : Ct} {k j : Nat} {C : Str} {p pos : Pos} {f : MF}
theorem RS.pushObj {K : PySem.W.Frag} {F Hk H : Hp} {bp : List (Nat × Addr)} {σ : St} {ρ : Env} (S : RS K F Hk H bp σ ρ) {q dx CA : Addr} (hq : H q = none) (hd : H dx = none) (ne : dx ≠ q) (ns : PySem.W.nsIn K mainGlobals C = some (some (.ref CA))) :
    RS K F Hk (upd (upd H dx (.own q)) q (.ins CA dx [])) bp (σ ++ [some (.ref q)]) (ρ ++ [some (.obj C [])]) := by
  have S1 := S.more (o := .own q) hd
  have hq1 : upd H dx (.own q) q = none := by rw [upd_ne (Ne.symm ne)]; exact hq
  have S2 := S1.more (o := .ins CA dx []) hq1
  obtain ⟨ow, s⟩ := S1.ow
  have s2 : SL K F Hk (upd (upd H dx (.own q)) q (.ins CA dx [])) ow σ ρ := s.step (Ex.refl _) fun i a ha => by
    obtain ⟨g1, g2, o, g3⟩ := s.f i a ha
    exact ⟨upd_ne (fun z => by rw [z, hq1] at g3; cases g3), g1⟩
  refine ⟨by simp [S.len], S2.ex, S2.fr, S2.frk, ⟨_, s2.push S.len (A := [q]) (OV.obj.mpr ⟨q, CA, dx, [], [], rfl, rfl, ns, upd_same, ⟨rfl, rfl⟩, by simp⟩) (fun a ha => ?_) (fun i a ha hi => ?_)⟩, S2.bor_app _⟩
  · have : a = q := by simpa using ha
    subst this
    refine ⟨S1.ex.back hq1, ?_⟩
    cases e : F a with
    | none => rfl
    | some o => have := S1.fr a o e; rw [hq1] at this; cases this
  · have : a = q := by simpa using ha
    subst this
    exact s.fresh hq1 i hi
theorem mo_make (G : ObN X.prog X.w X.K X.mg X.base C k f) (hr : Room j X.A) (hj : k + 1 ≤ j) (tk : L2N.Takes X c.W) (hg : Gl X C := by rfl) (hK : c.K = X.K := by rfl) (hM : c.mg = X.mg := by rfl) (hdb : (C == ("__debug__" : Str)) = false := by decide) :
    PE X (.Call (.Name C p) [] [] pos) (rdO c (mMake C f)) := by
  obtain ⟨CA, g, fd, ps, ns, hm, mk, F, hb⟩ := G.ex
  refine PEw (pe_make0 mk F (hr.mono hj) hg hm hb .nil passes0 hdb) fun σ H Q h => ?_
  obtain ⟨F', Hk, bp, ρ, S, h⟩ := h
  unfold mMake at h
  split at h
  · rename_i y ef
    split at h
    · rename_i hy
      intro q dx hq hd ne
      have S1 := S.1.pushObj (C := C) hq hd ne (by rw [hK]; exact ns)
      have hl : σ.length = ρ.length := S.1.len
      have A1 : At ⟨c.K, c.mg, fun _ _ _ _ => False, c.bs, c.J, c.Jm⟩ F' Hk (upd (upd H dx (.own q)) q (.ins CA dx [])) bp (σ ++ [some (.ref q)]) (ρ ++ [some (.obj C [])]) := ⟨S1, S.2⟩
      have z := callB_end (args := [.b ρ.length]) (vs := [.ref q]) (xs := [.obj C []]) (f := f) (n := 1) (bs := [0]) (E := fun _ _ _ => False) (Q := fun v H2 => v = .non ∧ Q (.ref q) H2) A1 ⟨.ref q, [], rfl, by rw [← hl]; simp, rfl⟩ rfl (by simp [idxB]) rfl (by simp [fill, MV.held]) (fun e ρ' k => k) (by
        rw [ef]
        intro Hk1 H1 w x1 S2
        have eb : back (ρ ++ [some (MV.obj C [])]) (idxB [.b ρ.length]) [some y] = ρ ++ [some y] := by simp [back, idxB]
        rw [eb] at S2
        obtain ⟨u, hu, ru⟩ := S2.get (i := (ρ ++ [some y]).length) (x := .non) (by simp) rfl
        have ew : w = .non := by
          have e1 : u = w := by
            rw [show (ρ ++ [some y]).length = (σ ++ [some (V.ref q)]).length by simp [hl]] at hu
            simpa using hu.symm
          rw [← e1]; exact RV.non.mp ru
        refine ⟨ew, ?_⟩
        have S3 := S2.drop (fun q' hq' => by
          have := lt_get (S.1.bor q' hq')
          rw [List.length_append]; omega)
        exact h _ _ _ x1 S3)
      rw [hK, hM] at z
      exact z
    · exact h.elim
  · exact h.elim
end
end Tm
set_option Elab.async false
set_option linter.all false
set_option maxRecDepth 100000
set_option maxHeartbeats 2000000
namespace Tm
open PySem L2
open Evl (Ex ex_rd ex_l ex_t)
theorem slot_fn_eq : Slot "function" (cmpInfo .Eq).2.1 "object.__eq__" :=
  .of (owner := "object") (n := "__eq__") (by rw [typeLookup_type, builtinLookup_eq_fast]; kernel_rfl) (by decide +kernel) (by decide +kernel) (by decide +kernel)
    (by first | exact .inl (by decide +kernel) | exact .inr (by decide +kernel)) (by rw [isSubtype_type]; kernel_rfl)
theorem rc_fns {A : Around} {s : Shared} {f g : Addr} (hne : f ≠ g) (hf : s.TypeIs (.ref f) "function") (hg : s.TypeIs (.ref g) "function") (hu : A.units < cLine) : SeqAt.RcAt A s (.ref f) (.ref g) false := fun prog w E Q h => by
  obtain ⟨of, ef, cf⟩ := id hf
  obtain ⟨og, eg, cg⟩ := id hg
  have nt : of.cls ≠ .type "tuple" := by rw [cf]; decide
  have nt2 : og.cls ≠ .type "tuple" := by rw [cg]; decide
  have e2 : cmpInfo CmpOp.Eq = (("==", "__eq__", "__eq__") : String × Str × Str) := rfl
  have dec : ∀ {x y : Addr} {ox oy : Obj} {Q' : Option Value → Shared → Prop}, x ≠ y → s.heap.get? x = some ox → s.heap.get? y = some oy → ox.cls ≠ .type "tuple" → s.TypeIs (.ref x) "function" → Q' none s → wpAny (model prog w) A (tryCompare (.ref x) "__eq__" (.ref y)) Q' E s := fun {x y ox oy Q'} n1 n2 n3 n4 n5 q =>
    wpAny_tryCompare_declines n5 slot_fn_eq (wpAny_call_entry slot_fn_eq n5 F.cmpEntry_eq (objEq_entry_other n1 n2 n3 n4 ⟨_, rfl, rfl, q⟩) (F.cmpArgs_eq _ _))
  simp only [richCompare, e2, hf.oneThing_none]
  refine wpAny_holding ?_
  refine wpAny_bind (wpAny_cRoomFor_or (.inr hu) ?_)
  refine wpAny_bind (wpAny_typeOf hf (wpAny_bind (wpAny_typeOf hg ?_)))
  rw [show (Value.type "function" != Value.type "function") = false by decide]
  simp only [Bool.false_eq_true, if_false, Bool.not_false, if_true]
  refine wpAny_bind (wpAny_pure ?_)
  simp only [Bool.false_eq_true, if_false, Bool.not_false, if_true]
  refine wpAny_bind (dec hne ef eg nt hf ?_)
  refine wpAny_bind (dec (Ne.symm hne) eg ef nt2 hg ?_)
  exact wpAny_bind (wpAny_rule (wpAny_bind (SeqAt.wpAny_isSame_ref_other' hne ef eg nt2 (wpAny_pure h))))
def FnA (K : PySem.W.Frag) (a : Addr) : Prop := ∃ o, K.lookup a = some o ∧ o.cls = .type "function"
theorem fna_of {K : PySem.W.Frag} {a : Addr} (h : PySem.W.typeIn K (.ref a) = some (.type "function")) : FnA K a := by
  have h : (K.lookup a).map (·.cls) = some (.type "function") := h
  obtain ⟨o, h1, h2⟩ := Option.map_eq_some_iff.mp h
  exact ⟨o, h1, h2⟩
theorem FnA.ty {X : Cx} {pins : List (Addr × Obj)} {σ : St} {H : Hp} {s : Shared} {a : Addr} (I : Inv X pins σ H s) (h : FnA X.K a) : s.TypeIs (.ref a) "function" := by
  obtain ⟨o, h1, h2⟩ := h
  exact ⟨o, I.kIn _ _ h1, h2⟩
structure FnI (K : PySem.W.Frag) (N : List Str) : Prop where
  fn : ∀ x ∈ N, ∀ a, PySem.W.nsIn K mainGlobals x = some (some (.ref a)) → FnA K a
  inj : ∀ x ∈ N, ∀ y ∈ N, ∀ a, PySem.W.nsIn K mainGlobals x = some (some (.ref a)) → PySem.W.nsIn K mainGlobals y = some (some (.ref a)) → x = y
structure FnT (P : Program) (w : World) (K : PySem.W.Frag) (mg : Str → Option Value) (base : Heap) (T : List (Str × MF)) : Prop where
  ex : ∀ x f, T.lookup x = some f → ∀ a, PySem.W.nsIn K mainGlobals x = some (some (.ref a)) → ∃ fd ps, FnOk P w K mg base (L2N.CX P w) 2 a fd ps (spF K mg 1 [] f) ∧ PySem.W.keepIn K (.ref a) = true ∧ Binds K fd ps []
def fncsOf : List MV → Option (List Str)
  | [] => some []
  | .fnc z :: r => (match fncsOf r with | some l => some (z :: l) | none => none)
  | _ :: _ => none
theorem fncs_map : ∀ ws : List Str, fncsOf (ws.map MV.fnc) = some ws
  | [] => rfl
  | w :: ws => by
    show (match fncsOf (ws.map MV.fnc) with | some l => some (w :: l) | none => none) = _
    rw [fncs_map ws]
theorem fncs_rv {K : PySem.W.Frag} {H : Hp} : ∀ {xs : List MV} {ws : List Str} {vs : List V}, fncsOf xs = some ws → RVs K H xs vs → ∃ as : List Addr, vs = as.map V.ref ∧ as.length = ws.length ∧ ∀ (i : Nat) (w : Str), ws[i]? = some w → ∃ a : Addr, as[i]? = some a ∧ PySem.W.nsIn K mainGlobals w = some (some (.ref a))
  | [], ws, vs, h, r => by cases h; exact ⟨[], RVs.nil.mp r, rfl, fun i w h => by simp at h⟩
  | .fnc z :: xs, ws, vs, h, r => by
    obtain ⟨v, us, rfl, r1, r2⟩ := RVs.cons.mp r
    unfold fncsOf at h
    cases e : fncsOf xs with
    | none => rw [e] at h; cases h
    | some l =>
      rw [e] at h
      cases h
      obtain ⟨as, rfl, hl, hi⟩ := fncs_rv e r2
      obtain ⟨a, rfl, ha⟩ := RV.fnc.mp r1
      refine ⟨a :: as, rfl, by simp [hl], fun i w hw => ?_⟩
      match i with
      | 0 => simp at hw; subst hw; exact ⟨a, rfl, ha⟩
      | i + 1 => simpa using hi i w (by simpa using hw)
  | .non :: _, _, _, h, _ => by cases h
  | .bl _ :: _, _, _, h, _ => by cases h
  | .int _ :: _, _, _, h, _ => by cases h
  | .str _ :: _, _, _, h, _ => by cases h
  | .tup _ :: _, _, _, h, _ => by cases h
  | .lst _ :: _, _, _, h, _ => by cases h
  | .own _ :: _, _, _, h, _ => by cases h
  | .raw _ :: _, _, _, h, _ => by cases h
  | .scr _ :: _, _, _, h, _ => by cases h
  | .obj _ _ :: _, _, _, h, _ => by cases h
theorem vals_refs : ∀ {as : List Addr} {us : List Value}, Vals (as.map V.ref) us → us = as.map Value.ref
  | [], us, h => by cases h; rfl
  | a :: as, us, h => by
    cases h with
    | cons r t => cases r; rw [vals_refs t]; rfl
def isRef (a : Addr) (u : Value) : Bool := match u with | .ref b => decide (b = a) | _ => false
theorem eqAt_fns {X : Cx} {pins : List (Addr × Obj)} {σ : St} {H : Hp} {s : Shared} (I : Inv X pins σ H s) {A : Around} {a : Addr} {as : List Addr} (fa : FnA X.K a) (fs : ∀ b ∈ as, FnA X.K b) (hu : A.units < cLine) : ∀ w ∈ as.map Value.ref, SeqAt.EqAt A s w (.ref a) (isRef a w) := fun w hw => by
  obtain ⟨b, hb, rfl⟩ := List.mem_map.mp hw
  show SeqAt.EqAt A s (.ref b) (.ref a) (decide (b = a))
  by_cases e : b = a
  · subst e; simp; exact SeqAt.EqAt.same _
  · rw [decide_eq_false e]
    exact SeqAt.EqAt.of_refs e (rc_fns e ((fs b hb).ty I) (fa.ty I) hu)
def rInFn (K : PySem.W.Frag) : R2 := fun x y H Q => ∃ (a p : Addr) (as : List Addr), x = .ref a ∧ y = .ref p ∧ SqL K H p (as.map V.ref) ∧ FnA K a ∧ (∀ b ∈ as, FnA K b) ∧ Q (.bl (!as.any fun b => decide (b = a))) H
theorem op_notInFn {X : Cx} (hu : X.A.units + 64 < cLine) : OpR X (compareOp .NotIn) (rInFn X.K) := by
  intro pins s σ H x y v u Q I rx ry h
  obtain ⟨a, p, as, rfl, rfl, hq, fa, fs, q⟩ := h
  cases rx
  cases ry
  obtain ⟨its, r, pl, hz⟩ := I.list hq
  have e := vals_refs r
  subst e
  refine SeqAt.notIn_listAt (isRef a) pl.isList (fun w hw => eqAt_fns I fa fs (by show X.A.units + 1 < cLine; omega) w (by simpa using hw)) ⟨.bl _, H, I, rfl, ?_⟩
  have e2 : (as.map Value.ref).toArray.any (isRef a) = as.any fun b => decide (b = a) := by
    rw [show (as.map Value.ref).toArray.any (isRef a) = (as.map Value.ref).any (isRef a) by simp, List.any_map]; rfl
  rw [e2]
  exact q
def rIndexFn (K : PySem.W.Frag) : V → List V → Hp → VK → Prop := fun x xs H Q => ∃ (a p : Addr) (as : List Addr) (j : Nat), x = V.ref p ∧ xs = [.ref a] ∧ SqL K H p (as.map V.ref) ∧ FnA K a ∧ (∀ b ∈ as, FnA K b) ∧ as[j]? = some a ∧ (∀ m b, m < j → as[m]? = some b → b ≠ a) ∧ Q (.int (j : Nat)) H
theorem mt_indexFn {X : Cx} (hu : X.A.units + 64 < cLine) : MtR X "list.index" (rIndexFn X.K) := by
  intro pins s σ H x xs v us Q I rx rxs h
  obtain ⟨a, p, as, j, rfl, rfl, hs, fa, fs, hj, hno, q⟩ := h
  cases rx
  cases rxs with
  | cons ry rt =>
    rename_i uy ut
    cases rt
    cases ry
    obtain ⟨its, rv, ⟨⟨cls, dd, data, sl⟩, n, ho, hc, hdn, hd⟩, hlen⟩ := I.list hs
    simp only at hc hd
    subst hc hd
    have e := vals_refs rv
    subst e
    have hjl := lt_get hj
    have hsl := sizeLine_eq
    have hlen' : as.length ≤ sizeLine := by simpa using hlen
    refine call_meets PySem.F.slot_list_index ⟨_, ho, rfl⟩ PySem.F.entry_list_index (PySem.F.args_list_index_2 _ _)
      (SeqAt.list_indexAt p (as.map Value.ref).toArray n dd sl (.ref a) (isRef a) j (by simpa using hjl) (by omega) ?_ ?_) ⟨ho, fun u' hu' => eqAt_fns I fa fs (by show X.A.units + 1 < cLine; omega) u' (by simpa using hu'), ?_⟩
    · have : as[j] = a := (List.getElem?_eq_some_iff.mp hj).2
      simp [isRef, this]
    · intro m hm hmj
      have hml : m < as.length := by simpa using hm
      have := hno m as[m] hmj (List.getElem?_eq_getElem hml)
      simp [isRef, this]
    · exact ⟨.int (j : Nat), H, I.tok _, ⟨_, rfl⟩, q⟩
abbrev XM := Env → Option MV
abbrev XMs := Env → Option (List MV)
def rdX (c : Ct) (m : XM) : TE := fun σ H Q => ∃ F Hk bp ρ ow, At c F Hk H bp σ ρ ∧ SL c.K F Hk H ow σ ρ ∧ ∃ x, m ρ = some x ∧
  ∀ Hk' H' v, Ex Hk Hk' → RS c.K F Hk' H' bp σ ρ → SL c.K F Hk' H' ow σ ρ → (∀ j a, a ∈ ow j → H' a = H a) → RV c.K Hk' x v → Q v H'
def rdXs (c : Ct) (m : XMs) : TA := fun σ H Q => ∃ F Hk bp ρ ow, At c F Hk H bp σ ρ ∧ SL c.K F Hk H ow σ ρ ∧ ∃ xs, m ρ = some xs ∧
  ∀ Hk' H' vs, Ex Hk Hk' → RS c.K F Hk' H' bp σ ρ → SL c.K F Hk' H' ow σ ρ → (∀ j a, a ∈ ow j → H' a = H a) → RVs c.K Hk' xs vs → Q vs H'
def xC (x : MV) : XM := fun _ => some x
def xV (i : Nat) : XM := fun ρ => match ρ[i]? with | some (some x) => if x.per then some x else none | _ => none
def xNil : XMs := fun _ => some []
def xCons (a : XM) (b : XMs) : XMs := fun ρ => match a ρ, b ρ with | some x, some xs => some (x :: xs) | _, _ => none
def xTup (a : XMs) : XM := fun ρ => match a ρ with | some xs => if szOk xs.length then some (.tup xs) else none | none => none
def xCall (f : MF) (a : XMs) : XM := fun ρ => match a ρ with | some xs => (match f xs with | .ok (v, _) => if v.per then some v else none | _ => none) | none => none
section
variable {X : Cx} {c : Ct} {x : Str} {i : Nat} {pos p : Pos} {e : Expr} {es : List Expr}
theorem rdX_c {y : MV} {v : V} (r : ∀ H, RV c.K H y v) {σ : St} {H : Hp} {Q : VK} (h : rdX c (xC y) σ H Q) : tC v σ H Q := by
  obtain ⟨F, Hk, bp, ρ, ow, S, s, z, e, h⟩ := h
  cases e
  exact h Hk H v (Ex.refl _) S.1 s (fun _ _ _ => rfl) (r _)
theorem px_str {x j pos} : PE X (.Constant (.str x) j pos) (rdX c (xC (.str x))) := PEw pe_str fun _ _ _ h => rdX_c (fun _ => RV.str.mpr rfl) h
theorem px_var (hN : X.N[i]? = some x) (hv : Vis X.env.scope x) (hd : (x == ("__debug__" : Str)) = false := by decide) (hcd : (x == ("__classdict__" : Str)) = false := by decide) : PE X (.Name x pos) (rdX c (xV i)) :=
  PEw (pe_var hN hv hd hcd) fun σ H Q h => by
    obtain ⟨F, Hk, bp, ρ, ow, S, s, z, e, h⟩ := h
    unfold xV at e
    split at e
    · rename_i y hy
      split at e
      · rename_i py
        cases e
        obtain ⟨v, ev, r⟩ := S.1.get hy py
        exact ⟨v, ev, h Hk H v (Ex.refl _) S.1 s (fun _ _ _ => rfl) r⟩
      · cases e
    · cases e
theorem pxs_nil : PA X [] (rdXs c xNil) := PAw pa_nil fun σ H Q h => by
  obtain ⟨F, Hk, bp, ρ, ow, S, s, z, e, h⟩ := h
  cases e
  exact h Hk H _ (Ex.refl _) S.1 s (fun _ _ _ => rfl) (RVs.nil.mpr rfl)
theorem pxs_cons {a : XM} {b : XMs} (ha : PE X e (rdX c a)) (hb : PA X es (rdXs c b)) (hs : starEach (e :: es) X.env = (false, eval e X.env) :: starEach es X.env := by rfl) : PA X (e :: es) (rdXs c (xCons a b)) :=
  PAw (pa_cons ha hb hs) fun σ H Q h => by
    obtain ⟨F, Hk, bp, ρ, ow, S, s, z, e, h⟩ := h
    unfold xCons at e
    split at e
    · rename_i y ys e1 e2
      cases e
      refine ⟨F, Hk, bp, ρ, ow, S, s, y, e1, fun Hk1 H1 v x1 S1 s1 k1 r1 => ?_⟩
      refine ⟨F, Hk1, bp, ρ, ow, ⟨S1, S.2⟩, s1, ys, e2, fun Hk2 H2 vs x2 S2 s2 k2 r2 => ?_⟩
      exact h Hk2 H2 _ (x1.trans x2) S2 s2 (fun j a ha => (k2 j a ha).trans (k1 j a ha)) (RVs.cons.mpr ⟨v, vs, rfl, RV.mono x2 _ _ r1, r2⟩)
    · cases e
theorem px_tup {a : XMs} {k : Nat} (h : PA X es (rdXs c a)) : PE X (.Tuple es k pos) (rdX c (xTup a)) := PEw (pe_tup h) fun σ H Q h => by
  obtain ⟨F, Hk, bp, ρ, ow, S, s, z, e, h⟩ := h
  unfold xTup at e
  split at e
  · rename_i ys e1
    split at e
    · rename_i hz
      cases e
      refine ⟨F, Hk, bp, ρ, ow, S, s, ys, e1, fun Hk1 H1 vs x1 S1 s1 k1 r1 => ⟨by rw [r1.length]; exact szOk_iff.mp hz, fun q hq => ?_⟩⟩
      have xn := Ex.new (o := HO.tup vs) (S1.ex.back hq)
      have ne : ∀ j a, a ∈ ow j → a ≠ q := fun j a ha z => by
        obtain ⟨_, _, o, g⟩ := s1.f j a ha
        rw [z, hq] at g; cases g
      refine h _ _ _ (x1.trans xn) (S1.new hq) (s1.step xn fun j a ha => ⟨upd_ne (ne j a ha), by rw [upd_ne (ne j a ha)]; exact (s1.f j a ha).1⟩) (fun j a ha => by rw [upd_ne (ne j a ha)]; exact k1 j a ha) ?_
      exact RV.tup.mpr ⟨q, vs, rfl, SqT.of upd_same, r1.mono xn⟩
    · cases e
  · cases e
theorem px_call {f : MF} {a : XMs} {k j n : Nat} {fa : Addr} {fd : FuncData} {ps : List Str} (F : FnOk X.prog X.w X.K X.mg X.base (L2N.CX X.prog X.w) k fa fd ps (spF X.K X.mg n [] f)) (hr : Room k X.A) (hm : X.mg x = some (.ref fa)) (hk : PySem.W.keepIn X.K (.ref fa) = true) (hb : Binds X.K fd ps [])
    (ha : PA X (e :: es) (rdXs c a)) (hn : ∀ ρ xs, a ρ = some xs → xs.length = n) (hg : Gl X x := by rfl) (hK : c.K = X.K := by rfl) (hM : c.mg = X.mg := by rfl) (hdb : (x == ("__debug__" : Str)) = false := by decide) (he : starEach (e :: es) X.env = (false, eval e X.env) :: starEach es X.env := by rfl)
    (hpl : (backTo pos (starEach es X.env)).any (·.1) = false := by rfl) : PE X (.Call (.Name x p) (e :: es) [] pos) (rdX c (xCall f a)) :=
  PEw (pe_call F hr hg hm hk hb .nil passes0 ha hdb he hpl) fun σ H Q h => by
    obtain ⟨F', Hk, bp, ρ, ow, S, s, z, e, h⟩ := h
    unfold xCall at e
    split at e
    · rename_i xs e1
      split at e
      · rename_i v os e2
        split at e
        · rename_i pv
          cases e
          refine ⟨F', Hk, bp, ρ, ow, S, s, xs, e1, fun Hk1 H1 vs x1 S1 s1 k1 r1 => ?_⟩
          show spF X.K X.mg n [] f (vs ++ []) H1 Q _
          rw [List.append_nil, ← hK, ← hM]
          refine ⟨by rw [r1.length]; exact hn _ _ e1, ?_⟩
          haveI : ∀ a, Decidable (∃ i, a ∈ ow i) := fun a => Classical.propDecidable _
          have fN : ∃ G : Hp, (∀ i a, a ∈ ow i → G a = H1 a) ∧ (∀ a o, F' a = some o → G a = some o) ∧ ∀ a o, G a = some o → H1 a = some o ∧ Hk1 a = none := by
            refine ⟨fun a => if (∃ i, a ∈ ow i) then H1 a else F' a, fun i a ha => if_pos ⟨i, ha⟩, fun a o ha => ?_, fun a o ha => ?_⟩
            · have : ¬ ∃ i, a ∈ ow i := fun ⟨i, hi⟩ => by have := (s1.f i a hi).2.1; rw [ha] at this; cases this
              show (if (∃ i, a ∈ ow i) then H1 a else F' a) = some o
              rw [if_neg this]; exact ha
            · have ha : (if (∃ i, a ∈ ow i) then H1 a else F' a) = some o := ha
              by_cases e : ∃ i, a ∈ ow i
              · rw [if_pos e] at ha
                obtain ⟨i, hi⟩ := e
                exact ⟨ha, (s1.f i a hi).1⟩
              · rw [if_neg e] at ha
                exact ⟨S1.fr a o ha, S1.frk a o ha⟩
          obtain ⟨G, f1, f2, f3⟩ := fN
          refine ⟨G, Hk1, [], xs, RS.args S1.ex (fun a o ha => (f3 a o ha).1) (fun a o ha => (f3 a o ha).2) r1, rfl, ?_⟩
          rw [e2]
          intro Hk2 H2 w x2 S2
          have own : ∀ i, ∀ a ∈ ow i, H2 a = H1 a ∧ Hk2 a = none := fun i a ha => by
            obtain ⟨g1, g2, o, g3⟩ := s1.f i a ha
            have q : G a = some o := (f1 i a ha).trans g3
            exact ⟨(S2.fr a o q).trans g3.symm, S2.frk a o q⟩
          have sl : SL c.K F' Hk2 H2 ow σ ρ := s1.step x2 own
          have R2 : RS c.K F' Hk2 H2 bp σ ρ := ⟨S1.len, S2.ex, fun a o ha => S2.fr a o (f2 a o ha), fun a o ha => S2.frk a o (f2 a o ha), ⟨ow, sl⟩, S1.bor⟩
          have bl : os.length = 0 := by have := S2.len; simpa using this.symm
          have be : os = [] := List.eq_nil_of_length_eq_zero bl
          subst be
          obtain ⟨u, eu, ru⟩ := S2.get (i := 0) (x := z) rfl pv
          cases eu
          exact h Hk2 H2 w (x1.trans x2) R2 sl (fun j a ha => ((own j a ha).1).trans (k1 j a ha)) ru
        · cases e
      · cases e
    · cases e
theorem pf_call {f : MF} {a : XMs} {k j : Nat} {ps : List Str} (G : Fd X.prog X.w X.K X.mg X.base x k ps [] f) (hr : Room j X.A) (hj : k ≤ j) (ha : PA X (e :: es) (rdXs c a)) (hn : ∀ ρ xs, a ρ = some xs → xs.length = ps.length) (hg : Gl X x := by rfl) (hK : c.K = X.K := by rfl) (hM : c.mg = X.mg := by rfl) (hdb : (x == ("__debug__" : Str)) = false := by decide)
    (he : starEach (e :: es) X.env = (false, eval e X.env) :: starEach es X.env := by rfl) (hpl : (backTo pos (starEach es X.env)).any (·.1) = false := by rfl) : PE X (.Call (.Name x p) (e :: es) [] pos) (rdX c (xCall f a)) := by
  obtain ⟨fa, fd, F, hm, hk, hb⟩ := G.ex
  exact px_call (j := 0) F (hr.mono hj) hm hk hb ha hn hg hK hM hdb he hpl
theorem xn_nil : ∀ ρ xs, xNil ρ = some xs → xs.length = 0 := fun ρ xs h => by cases h; rfl
theorem xn_cons {a : XM} {b : XMs} {n : Nat} (h : ∀ ρ xs, b ρ = some xs → xs.length = n) : ∀ ρ xs, xCons a b ρ = some xs → xs.length = n + 1 := fun ρ xs e => by
  unfold xCons at e
  split at e
  · rename_i y ys e1 e2; cases e; simp [h _ _ e2]
  · cases e
end
end Tm
set_option Elab.async false
set_option linter.all false
set_option maxRecDepth 100000
set_option maxHeartbeats 2000000
namespace Tm
open PySem L2
open Evl (Ex ex_rd ex_l ex_t)
section
variable {X : Cx} {c : Ct} {C x f : Str} {fl : List Str} {i : Nat} {p p2 pos apos cpos : Pos} {e : Expr} {es : List Expr}
def mFldLm (g : List MV → List MV → Option (List MV × MV)) (C : Str) (i : Nat) (f : Str) (a : XMs) : ME := fun ρ => match objAt ρ i C with
  | some fs => (match fs.lookup f, a ρ with
    | some (.own xs), some ys => (match g xs ys with | some (zs, z) => if z.per then .ok (z, ρ.set i (some (.obj C (putM f (.own zs) fs)))) else .stuck | none => .stuck)
    | _, _ => .stuck)
  | none => .stuck
theorem obj_lm {F Hk H : Hp} {bp : List (Nat × Addr)} {σ : St} {ρ : Env} {fs : List (Str × MV)} {ow : Nat → List Addr} {q CA dx r : Addr} {vfs : List (Str × V)} {B : List Addr} {xs zs : List MV} {ws : List V} (S : RS c.K F Hk H bp σ ρ) (s : SL c.K F Hk H ow σ ρ) (hi : ρ[i]? = some (some (.obj C fs))) (ev : σ[i]? = some (some (.ref q))) (eow : ow i = q :: B)
    (ns : PySem.W.nsIn c.K mainGlobals C = some (some (.ref CA))) (hq : H q = some (.ins CA dx vfs)) (ofs : OFs c.K Hk H fs vfs B) (nd : (q :: B).Nodup) (el : fs.lookup f = some (.own xs)) (evf : vfs.lookup f = some (.ref r)) (rw_ : RVs c.K Hk zs ws) :
    RS c.K F Hk (upd H r (.lst ws)) bp σ (ρ.set i (some (.obj C (putM f (.own zs) fs)))) := by
  obtain ⟨v, A1, B1, B2, g1, g2, g3, g4⟩ := ofs.focus el
  rw [evf] at g1
  cases g1
  obtain ⟨r', vs, e1, rfl, hr, rv⟩ := OF.own.mp g3
  cases e1
  have mr : r ∈ ow i := by rw [eow, g2]; simp
  obtain ⟨k0, f0, _⟩ := s.f i r mr
  have nrq : q ≠ r := fun z => by
    rw [g2] at nd
    exact (List.nodup_cons.mp nd).1 (by rw [z]; simp)
  have nB : ∀ a ∈ B1 ++ B2, a ≠ r := fun a ha z => by
    have n2 := (List.nodup_cons.mp nd).2
    rw [g2] at n2
    have : (r :: (B1 ++ B2)).Nodup := n2.perm (by simp only [List.append_assoc]; exact List.perm_middle)
    exact (List.nodup_cons.mp this).1 (by rw [← z]; exact ha)
  have o2 := g4 Hk (upd H r (.lst ws)) (.own zs) (.ref r) [r] (Ex.refl _) (fun a ha o ho => by rw [upd_ne (nB a ha)]; exact ho) (OF.own.mpr ⟨r, ws, rfl, rfl, upd_same, rw_⟩)
  rw [putF_same evf] at o2
  refine (SL.re (A' := q :: B) S s hi ev (Ex.refl _) (S.ex.mut k0) (fun a ha o ho => by rw [upd_ne (fun z => ha (by rw [z]; exact mr))]; exact ho) (fun a _ hn _ => hn)
    (OV.obj.mpr ⟨q, CA, dx, vfs, B, rfl, rfl, ns, by rw [upd_ne nrq]; exact hq, by rw [g2]; exact o2, nd⟩) (fun a ha => ?_)).2
  exact ⟨.inl (by rw [eow]; exact ha), (s.f i a (by rw [eow]; exact ha)).1⟩
theorem me_fldLm {g : List MV → List MV → Option (List MV × MV)} {r : V → List V → Hp → VK → Prop} {id : String} {name : Str} {a : XMs} (o : LmS c.K g r) (slot : Slot "list" name id) (hty : typeOf (.builtin id) = pure (.type "method_descriptor")) (hm : MtR X id r) (Z : ObC X.K C fl) (hfl : f ∈ fl) (hN : X.N[i]? = some x) (hv : Vis X.env.scope x) (ha : PA X (e :: es) (rdXs c a)) (hK : c.K = X.K := by rfl)
    (hb : attributeBase (.Name x p) f X.env (eval (.Name x p) X.env) = eval (.Name x p) X.env := by rfl)
    (hbase : attributeBase (.Attribute (.Name x p) f p2) name X.env (eval (.Attribute (.Name x p) f p2) X.env) = eval (.Attribute (.Name x p) f p2) X.env := by rfl)
    (hfew : ((backTo cpos (starEach (e :: es) X.env)).all (fun x => !x.1) && (backToKw cpos (keywordEach [] X.env)).all (fun x => x.1.isSome)
      && decide ((e :: es).length + ([] : List Keyword).length + (if ([] : List Keyword).isEmpty then 0 else 1) < 30)) = true := by rfl)
    (hline : (apos.endLine == cpos.line) = true := by rfl) (hs : starEach (e :: es) X.env = (false, eval e X.env) :: starEach es X.env := by rfl) (hplain : (backTo cpos (starEach es X.env)).any (·.1) = false := by rfl)
    (hd : (x == ("__debug__" : Str)) = false := by decide) (hcd : (x == ("__classdict__" : Str)) = false := by decide) : PE X (.Call (.Attribute (.Attribute (.Name x p) f p2) name apos) (e :: es) [] cpos) (rdE c (mFldLm g C i f a)) :=
  PEw (pe_bm PySem.F.plainAttrs_list slot hty hm (pe_fld (pe_var hN hv hd hcd) hb) ha hbase hfew hline hs hplain) fun σ H Q h => by
    obtain ⟨F, Hk, bp, ρ, S, h⟩ := h
    unfold mFldLm at h
    split at h
    · rename_i fs eo
      have hi := obj_at eo
      obtain ⟨ow, q, CA, dx, vfs, B, s, ev, eow, ns, hq, ofs, nd⟩ := obj_rs S hi
      obtain ⟨cl, na⟩ := Z.ex CA (by rw [← hK]; exact ns)
      split at h
      · rename_i xs ys el ea
        obtain ⟨v, A1, B1, B2, g1, g2, g3, g4⟩ := ofs.focus el
        obtain ⟨rr, vs, rfl, rfl, hr, rv⟩ := OF.own.mp g3
        refine ⟨_, ev, q, CA, dx, vfs, _, rfl, hq, cl, na f hfl, g1, .inl ⟨rfl, vs, SqL.of hr⟩, ?_⟩
        refine ⟨F, Hk, bp, ρ, ow, S, s, ys, ea, fun Hk1 H1 us x1 S1 s1 k1 r1 => ?_⟩
        split at h
        · rename_i zs z eg
          split at h
          · rename_i pz
            have hr1 : H1 rr = some (.lst vs) := by rw [k1 i rr (by rw [eow, g2]; simp)]; exact hr
            have hq1 : H1 q = some (.ins CA dx vfs) := by rw [k1 i q (by rw [eow]; simp)]; exact hq
            have ofs1 : OFs c.K Hk1 H1 fs vfs B := OFs.move ofs x1 fun a ha o ho => by rw [k1 i a (by rw [eow]; exact List.mem_cons_of_mem _ ha)]; exact ho
            refine o xs ys zs z rr vs us Hk1 H1 Q eg S1.ex hr1 (rv.mono x1) r1 fun ws u r2 r3 => ?_
            exact h _ _ u x1 (obj_lm S1 s1 hi ev eow ns hq1 ofs1 nd el g1 r2) r3
          · exact h.elim
        · exact h.elim
      · exact h.elim
    · exact h.elim
def mFldNotIn (N : List Str) (C : Str) (i : Nat) (f : Str) (j : Nat) : ME := fun ρ => match objAt ρ i C, ρ[j]? with
  | some fs, some (some (.fnc w)) => (match fs.lookup f with
    | some (.own xs) => (match fncsOf xs with | some ws => if N.contains w && ws.all N.contains then .ok (.bl (!ws.any fun z => decide (z = w)), ρ) else .stuck | none => .stuck)
    | _ => .stuck)
  | _, _ => .stuck
def xFldIdx (N : List Str) (C : Str) (i : Nat) (f : Str) (j : Nat) : XM := fun ρ => match objAt ρ i C, ρ[j]? with
  | some fs, some (some (.fnc w)) => (match fs.lookup f with
    | some (.own xs) => (match fncsOf xs with | some ws => if N.contains w && ws.all N.contains then (match ws.findIdx? fun z => decide (z = w) with | some k => some (.int (k : Nat)) | none => none) else none | none => none)
    | _ => none)
  | _, _ => none
theorem fn_addrs {K : PySem.W.Frag} {N : List Str} (T : FnI K N) {w : Str} {ws : List Str} {a : Addr} {as : List Addr} (hw : w ∈ N) (hws : ∀ z ∈ ws, z ∈ N) (ha : PySem.W.nsIn K mainGlobals w = some (some (.ref a))) (hl : as.length = ws.length)
    (hi : ∀ (i : Nat) (w : Str), ws[i]? = some w → ∃ a : Addr, as[i]? = some a ∧ PySem.W.nsIn K mainGlobals w = some (some (.ref a))) : FnA K a ∧ (∀ b ∈ as, FnA K b) ∧ (∀ (i : Nat) (b : Addr) (z : Str), as[i]? = some b → ws[i]? = some z → (b = a ↔ z = w)) := by
  refine ⟨T.fn w hw a ha, fun b hb => ?_, fun i b z hb hz => ?_⟩
  · obtain ⟨i, hil, e⟩ := List.mem_iff_getElem.mp hb
    have hw' : ws[i]? = some ws[i] := List.getElem?_eq_getElem (by omega)
    obtain ⟨a', h1, h2⟩ := hi i _ hw'
    rw [List.getElem?_eq_getElem hil, e] at h1
    cases h1
    exact T.fn _ (hws _ (List.getElem_mem _)) b h2
  · obtain ⟨a', h1, h2⟩ := hi i z hz
    rw [hb] at h1
    cases h1
    constructor
    · rintro rfl
      exact T.inj z (hws z (List.mem_of_getElem? hz)) w hw b h2 ha
    · rintro rfl
      rw [h2] at ha
      cases ha; rfl
theorem mt_fldNotIn {N : List Str} {j k : Nat} {y : Str} {p3 : Pos} (T : FnI X.K N) (hr : Room k X.A) (Z : ObC X.K C fl) (hfl : f ∈ fl) (hN : X.N[i]? = some x) (hv : Vis X.env.scope x) (hNy : X.N[j]? = some y) (hvy : Vis X.env.scope y) (hK : c.K = X.K := by rfl)
    (hb : attributeBase (.Name x p) f X.env (eval (.Name x p) X.env) = eval (.Name x p) X.env := by rfl) (hm : behindInMarks .NotIn (.Attribute (.Name x p) f p2) = false := by rfl)
    (hd : (x == ("__debug__" : Str)) = false := by decide) (hcd : (x == ("__classdict__" : Str)) = false := by decide) (hdy : (y == ("__debug__" : Str)) = false := by decide) (hcdy : (y == ("__classdict__" : Str)) = false := by decide) :
    PT X (.Compare (.Name y p3) [.NotIn] [.Attribute (.Name x p) f p2] pos) (rdT c (mTest (mFldNotIn N C i f j))) :=
  PTw (pt_cmpR (op_notInFn hr.units) (pe_var hNy hvy hdy hcdy) (pe_fld (pe_var hN hv hd hcd) hb) hm) fun σ H Q h => by
    have h := rd_test h
    obtain ⟨F, Hk, bp, ρ, S, h⟩ := h
    unfold mFldNotIn at h
    split at h
    · rename_i fs w eo ej
      have hi := obj_at eo
      obtain ⟨ow, q, CA, dx, vfs, B, s, ev, eow, ns, hq, ofs, nd⟩ := obj_rs S hi
      obtain ⟨cl, na⟩ := Z.ex CA (by rw [← hK]; exact ns)
      obtain ⟨vw, evw, rw1⟩ := S.1.get ej rfl
      obtain ⟨a, rfl, ha⟩ := RV.fnc.mp rw1
      split at h
      · rename_i xs el
        split at h
        · rename_i ws ews
          split at h
          · rename_i hc
            simp only [Bool.and_eq_true, List.contains_iff_mem, List.all_eq_true] at hc
            obtain ⟨v, A1, B1, B2, g1, g2, g3, g4⟩ := ofs.focus el
            obtain ⟨rr, vs, rfl, rfl, hrr, rv⟩ := OF.own.mp g3
            obtain ⟨as, rfl, hl, hi2⟩ := fncs_rv ews rv
            rw [hK] at ha hi2
            obtain ⟨t1, t2, t3⟩ := fn_addrs T hc.1 hc.2 ha hl hi2
            refine ⟨_, evw, _, ev, q, CA, dx, vfs, _, rfl, hq, cl, na f hfl, g1, a, rr, as, rfl, rfl, SqL.of hrr, t1, t2, ?_⟩
            have e2 : (as.any fun b => decide (b = a)) = ws.any fun z => decide (z = w) := by
              rw [Bool.eq_iff_iff, List.any_eq_true, List.any_eq_true]
              constructor
              · rintro ⟨b, hb, hba⟩
                obtain ⟨m, hm, e⟩ := List.mem_iff_getElem.mp hb
                have hz : ws[m]? = some ws[m] := List.getElem?_eq_getElem (by omega)
                exact ⟨ws[m], List.getElem_mem _, by have := (t3 m b ws[m] (by rw [List.getElem?_eq_getElem hm, e]) hz).mp (of_decide_eq_true hba); simpa using this⟩
              · rintro ⟨z, hz, hzw⟩
                obtain ⟨m, hm, e⟩ := List.mem_iff_getElem.mp hz
                have hb : as[m]? = some as[m] := List.getElem?_eq_getElem (by omega)
                exact ⟨as[m], List.getElem_mem _, by have := (t3 m as[m] z hb (by rw [List.getElem?_eq_getElem hm, e])).mpr (of_decide_eq_true hzw); simpa using this⟩
            rw [e2]
            exact h _ _ _ (Ex.refl _) S.1 (RV.bl.mpr rfl)
          · exact h.elim
        · exact h.elim
      · exact h.elim
    · exact h.elim
theorem px_fldIdx {N : List Str} {j k : Nat} {y : Str} {p3 : Pos} (T : FnI X.K N) (hr : Room k X.A) (Z : ObC X.K C fl) (hfl : f ∈ fl) (hN : X.N[i]? = some x) (hv : Vis X.env.scope x) (hNy : X.N[j]? = some y) (hvy : Vis X.env.scope y) (hK : c.K = X.K := by rfl)
    (hb : attributeBase (.Name x p) f X.env (eval (.Name x p) X.env) = eval (.Name x p) X.env := by rfl)
    (hbase : attributeBase (.Attribute (.Name x p) f p2) "index" X.env (eval (.Attribute (.Name x p) f p2) X.env) = eval (.Attribute (.Name x p) f p2) X.env := by rfl)
    (hfew : ((backTo cpos (starEach [Expr.Name y p3] X.env)).all (fun x => !x.1) && (backToKw cpos (keywordEach [] X.env)).all (fun x => x.1.isSome)
      && decide ([Expr.Name y p3].length + ([] : List Keyword).length + (if ([] : List Keyword).isEmpty then 0 else 1) < 30)) = true := by rfl)
    (hline : (apos.endLine == cpos.line) = true := by rfl) (hs : starEach [Expr.Name y p3] X.env = (false, eval (.Name y p3) X.env) :: starEach [] X.env := by rfl) (hplain : (backTo cpos (starEach [] X.env)).any (·.1) = false := by rfl)
    (hd : (x == ("__debug__" : Str)) = false := by decide) (hcd : (x == ("__classdict__" : Str)) = false := by decide) (hdy : (y == ("__debug__" : Str)) = false := by decide) (hcdy : (y == ("__classdict__" : Str)) = false := by decide) :
    PE X (.Call (.Attribute (.Attribute (.Name x p) f p2) "index" apos) [.Name y p3] [] cpos) (rdX c (xFldIdx N C i f j)) :=
  PEw (pe_bm PySem.F.plainAttrs_list PySem.F.slot_list_index PySem.F.type_list_index (mt_indexFn hr.units) (pe_fld (pe_var hN hv hd hcd) hb) (pa_cons (pe_var hNy hvy hdy hcdy) pa_nil hs) hbase hfew hline hs hplain) fun σ H Q h => by
    obtain ⟨F, Hk, bp, ρ, ow, S, s, z, e, h⟩ := h
    unfold xFldIdx at e
    split at e
    · rename_i fs w eo ej
      have hi := obj_at eo
      obtain ⟨ow', q, CA, dx, vfs, B, s', ev, eow, ns, hq, ofs, nd⟩ := obj_rs S hi
      obtain ⟨cl, na⟩ := Z.ex CA (by rw [← hK]; exact ns)
      obtain ⟨vw, evw, rw1⟩ := S.1.get ej rfl
      obtain ⟨a, rfl, ha⟩ := RV.fnc.mp rw1
      split at e
      · rename_i xs el
        split at e
        · rename_i ws ews
          split at e
          · rename_i hc
            simp only [Bool.and_eq_true, List.contains_iff_mem, List.all_eq_true] at hc
            split at e
            · rename_i m em
              cases e
              obtain ⟨v, A1, B1, B2, g1, g2, g3, g4⟩ := ofs.focus el
              obtain ⟨rr, vs, rfl, rfl, hrr, rv⟩ := OF.own.mp g3
              obtain ⟨as, rfl, hl, hi2⟩ := fncs_rv ews rv
              rw [hK] at ha hi2
              obtain ⟨t1, t2, t3⟩ := fn_addrs T hc.1 hc.2 ha hl hi2
              obtain ⟨hm, q1, q2⟩ := List.findIdx?_eq_some_iff_getElem.mp em
              refine ⟨_, ev, q, CA, dx, vfs, _, rfl, hq, cl, na f hfl, g1, .inl ⟨rfl, _, SqL.of hrr⟩, _, evw, a, rr, as, m, rfl, rfl, SqL.of hrr, t1, t2, ?_, fun n b hn hb => ?_, ?_⟩
              · have hb : as[m]? = some as[m] := List.getElem?_eq_getElem (by omega)
                rw [hb, (t3 m as[m] ws[m] hb (List.getElem?_eq_getElem hm)).mpr (of_decide_eq_true q1)]
              · have hz : ws[n]? = some ws[n] := List.getElem?_eq_getElem (by omega)
                intro z
                have := (t3 n b ws[n] hb hz).mp z
                have h2 := q2 n hn
                simp [this] at h2
              · exact h Hk H _ (Ex.refl _) S.1 s (fun _ _ _ => rfl) (RV.int.mpr rfl)
            · cases e
          · cases e
        · cases e
      · cases e
    · cases e
def mCallV (T : List (Str × MF)) (i : Nat) (a : MA) : ME := fun ρ => match ρ[i]? with
  | some (some (.fnc w)) => (match T.lookup w with | some f => mCall0 f a ρ | none => .stuck)
  | _ => .stuck
theorem mo_callV {T : List (Str × MF)} {k : Nat} {a : MA} (G : FnT X.prog X.w X.K X.mg X.base T) (hr : Room k X.A) (hk : 2 ≤ k) (hN : X.N[i]? = some x) (hv : Vis X.env.scope x) (ha : PA X (e :: es) (rdA c a)) (hn : Lng a 1) (hK : c.K = X.K := by rfl) (hM : c.mg = X.mg := by rfl)
    (hd : (x == ("__debug__" : Str)) = false := by decide) (hcd : (x == ("__classdict__" : Str)) = false := by decide) (he : starEach (e :: es) X.env = (false, eval e X.env) :: starEach es X.env := by rfl) (hpl : (backTo pos (starEach es X.env)).any (·.1) = false := by rfl) :
    PE X (.Call (.Name x p) (e :: es) [] pos) (rdO c (mCallV T i a)) := by
  refine ⟨fun pins s σ H Q I h => ?_⟩
  obtain ⟨F, Hk, bp, ρ, S, h⟩ := h
  unfold mCallV at h
  split at h
  · rename_i w hw
    split at h
    · rename_i f ef
      obtain ⟨v, ev, r⟩ := S.1.get hw rfl
      obtain ⟨b, rfl, hb⟩ := RV.fnc.mp r
      rw [hK] at hb
      obtain ⟨fd, ps, Fn, kp, bd⟩ := G.ex w f ef b hb
      refine (pe_callL Fn (hr.mono hk) hN hv kp bd .nil passes0 ha hd hcd he hpl).run pins s σ H Q I ⟨ev, ?_⟩
      have := rd_call0 hn ⟨F, Hk, bp, ρ, S, h⟩
      rw [hK, hM] at this
      exact this
    · exact h.elim
  · exact h.elim
structure FnG (K : PySem.W.Frag) (mg : Str → Option Value) (x : Str) : Prop where
  ex : ∃ a, mg x = some (.ref a) ∧ PySem.W.nsIn K mainGlobals x = some (some (.ref a))
theorem me_fnc (G : FnG X.K X.mg x) (hg : Gl X x := by rfl) (hK : c.K = X.K := by rfl) (hd : (x == ("__debug__" : Str)) = false := by decide) : PE X (.Name x pos) (rdE c (mC (.fnc x))) := by
  obtain ⟨a, h1, h2⟩ := G.ex
  exact me_glob h1 (w := .ref a) rfl (fun H => RV.fnc.mpr ⟨a, rfl, by rw [hK]; exact h2⟩) hg hd
end
end Tm
set_option Elab.async false
set_option linter.all false
set_option maxRecDepth 100000
set_option maxHeartbeats 2000000
namespace Tm
open PySem L2
open Evl (Ex ex_rd ex_l ex_t)
def spCellX (K : PySem.W.Frag) (C : Str) : Sp := fun vs H Q E => ∃ (p CA dx : Addr) (vfs : List (Str × V)) (n : Int), vs = [.ref p] ∧ PySem.W.nsIn K mainGlobals C = some (some (.ref CA)) ∧ H p = some (.ins CA dx vfs) ∧ vfs.lookup ("free" : Str) = some (.int n) ∧ vfs.length < 900 ∧
  Q (.int n) (upd H p (.ins CA dx (putF ("free" : Str) (.int (n + 1)) vfs)))
def spRowX (K : PySem.W.Frag) (C : Str) : Sp := fun vs H Q E => ∃ (p CA dx r : Addr) (vfs : List (Str × V)) (a b d : V) (xs : List V), vs = [.ref p, a, b, d] ∧ PySem.W.nsIn K mainGlobals C = some (some (.ref CA)) ∧ H p = some (.ins CA dx vfs) ∧ vfs.lookup ("rows" : Str) = some (.ref r) ∧ H r = some (.lst xs) ∧ xs.length < sizeLine ∧
  ∀ t, H t = none → Q .non (upd (upd H t (.tup [a, b, d])) r (.lst (xs ++ [.ref t])))
def spCopX (K : PySem.W.Frag) (C : Str) : Sp := fun vs H Q E => ∃ (p CA dx r : Addr) (vfs : List (Str × V)) (d : V) (n : Int) (xs : List V), vs = [.ref p, d] ∧ PySem.W.nsIn K mainGlobals C = some (some (.ref CA)) ∧ H p = some (.ins CA dx vfs) ∧ vfs.lookup ("free" : Str) = some (.int n) ∧ vfs.lookup ("rows" : Str) = some (.ref r) ∧ H r = some (.lst xs) ∧ xs.length < sizeLine ∧ vfs.length < 900 ∧
  vfs.lookup ("cell" : Str) = none ∧ vfs.lookup ("row" : Str) = none ∧
  ∀ t, H t = none → Q (.int n) (upd (upd (upd H p (.ins CA dx (putF ("free" : Str) (.int (n + 1)) vfs))) t (.tup [.str "copy", .int n, d])) r (.lst (xs ++ [.ref t])))
structure ObX (P : Program) (w : World) (K : PySem.W.Frag) (mg : Str → Option Value) (base : Heap) (C m : Str) (k : Nat) (ps : List Str) (sp : Sp) : Prop where
  ex : ∃ CA g fd, PySem.W.nsIn K mainGlobals C = some (some (.ref CA)) ∧ Cls K CA ∧ Meth K CA m g ∧ FnOk P w K mg base (L2N.CX P w) k g fd ps sp ∧ Binds K fd ps []
section
variable {X : Cx} {C x y : Str} {fl : List Str} {i j k l : Nat} {p1 p2 p3 p4 p5 p6 p7 p8 p9 p10 p11 pos : Pos} {ps : List Str}
theorem rx_cell (Z : ObC X.K C fl) (hfl : ("free" : Str) ∈ fl) (hN : X.N[0]? = some x) (hv : Vis X.env.scope x) {k1 k2 : Nat} (hb : attributeBase (.Name x p5) "free" X.env (eval (.Name x p5) X.env) = eval (.Name x p5) X.env := by rfl) (hd : (x == ("__debug__" : Str)) = false := by decide) (hcd : (x == ("__classdict__" : Str)) = false := by decide) :
    ∃ t, PSs X [.AugAssign (.Attribute (.Name x p1) "free" p2) .Add (.Constant (.int 1) k1 p3) p4, .Return (some (.BinOp (.Attribute (.Name x p5) "free" p6) .Sub (.Constant (.int 1) k2 p7) p8)) p9] t ∧ ∀ vs H Q E (D : Ends) (σ : St), D.rt = Q → σ[0]? = vs[0]?.map some → spCellX X.K C vs H Q E → t D σ H := by
  refine ⟨_, pss_cons (ps_fldaug (pe_var (i := 0) hN hv hd hcd) pe_int in_add) (pss_one (ps_ret (pe_op op_sub (pe_fld (pe_var (i := 0) hN hv hd hcd) hb) pe_int))), fun vs H Q E D σ hD hσ h => ?_⟩
  obtain ⟨p, CA, dx, vfs, n, rfl, ns, hp, hf, hl, q⟩ := h
  obtain ⟨cl, na⟩ := Z.ex CA ns
  refine ⟨.ref p, hσ, p, CA, dx, vfs, .int n, rfl, hp, cl, na _ hfl, hf, n, 1, rfl, rfl, dx, vfs, hp, by omega, ?_⟩
  refine ⟨.ref p, hσ, p, CA, dx, _, .int (n + 1), rfl, upd_same, cl, na _ hfl, by rw [lookup_putF, if_pos rfl], n + 1, 1, rfl, rfl, ?_⟩
  subst hD
  show D.rt (.int (n + 1 - 1)) _
  rw [show n + 1 - 1 = n by omega]
  exact q
theorem rx_row {a b d : Str} {kk : Nat} (Z : ObC X.K C fl) (hfl : ("rows" : Str) ∈ fl) (hN : X.N[0]? = some x) (hv : Vis X.env.scope x) (h1 : X.N[1]? = some a) (v1 : Vis X.env.scope a) (h2 : X.N[2]? = some b) (v2 : Vis X.env.scope b) (h3 : X.N[3]? = some d) (v3 : Vis X.env.scope d)
    (hb : attributeBase (.Name x p1) "rows" X.env (eval (.Name x p1) X.env) = eval (.Name x p1) X.env := by rfl)
    (hbase : attributeBase (.Attribute (.Name x p1) "rows" p2) "append" X.env (eval (.Attribute (.Name x p1) "rows" p2) X.env) = eval (.Attribute (.Name x p1) "rows" p2) X.env := by rfl)
    (hs0 : starEach [Expr.Name a p4, .Name b p5, .Name d p6] X.env = (false, eval (.Name a p4) X.env) :: starEach [.Name b p5, .Name d p6] X.env := by rfl) (hs1 : starEach [Expr.Name b p5, .Name d p6] X.env = (false, eval (.Name b p5) X.env) :: starEach [.Name d p6] X.env := by rfl) (hs2 : starEach [Expr.Name d p6] X.env = (false, eval (.Name d p6) X.env) :: starEach [] X.env := by rfl)
    (hfew : ((backTo p8 (starEach [Expr.Tuple [.Name a p4, .Name b p5, .Name d p6] kk p7] X.env)).all (fun x => !x.1) && (backToKw p8 (keywordEach [] X.env)).all (fun x => x.1.isSome)
      && decide ([Expr.Tuple [.Name a p4, .Name b p5, .Name d p6] kk p7].length + ([] : List Keyword).length + (if ([] : List Keyword).isEmpty then 0 else 1) < 30)) = true := by rfl)
    (hline : (p3.endLine == p8.line) = true := by rfl) (hs : starEach [Expr.Tuple [.Name a p4, .Name b p5, .Name d p6] kk p7] X.env = (false, eval (.Tuple [.Name a p4, .Name b p5, .Name d p6] kk p7) X.env) :: starEach [] X.env := by rfl) (hplain : (backTo p8 (starEach [] X.env)).any (·.1) = false := by rfl)
    (hsw : swapsWith (.Call (.Attribute (.Attribute (.Name x p1) "rows" p2) "append" p3) [.Tuple [.Name a p4, .Name b p5, .Name d p6] kk p7] [] p8) none p9.line X.env = pure false := by rfl)
    (hd : (x == ("__debug__" : Str)) = false := by decide) (hcd : (x == ("__classdict__" : Str)) = false := by decide) (ha : (a == ("__debug__" : Str)) = false := by decide) (hca : (a == ("__classdict__" : Str)) = false := by decide) (hbb : (b == ("__debug__" : Str)) = false := by decide) (hcb : (b == ("__classdict__" : Str)) = false := by decide) (hdd : (d == ("__debug__" : Str)) = false := by decide) (hcdd : (d == ("__classdict__" : Str)) = false := by decide) :
    ∃ t, PSs X [.Expr (.Call (.Attribute (.Attribute (.Name x p1) "rows" p2) "append" p3) [.Tuple [.Name a p4, .Name b p5, .Name d p6] kk p7] [] p8) p9] t ∧ ∀ vs H Q E (D : Ends) (σ : St), D.nx = (fun _ H' => Q .non H') → (∀ i, i < 4 → σ[i]? = vs[i]?.map some) → spRowX X.K C vs H Q E → t D σ H := by
  refine ⟨_, pss_one (ps_expr (pe_bm PySem.F.plainAttrs_list PySem.F.slot_list_append PySem.F.type_list_append mt_append (pe_fld (pe_var (i := 0) hN hv hd hcd) hb) (pa_cons (pe_tup (pa_cons (pe_var (i := 1) h1 v1 ha hca) (pa_cons (pe_var (i := 2) h2 v2 hbb hcb) (pa_cons (pe_var (i := 3) h3 v3 hdd hcdd) pa_nil hs2) hs1) hs0)) pa_nil hs) hbase hfew hline hs hplain) hsw), fun vs H Q E D σ hD hσ h => ?_⟩
  obtain ⟨p, CA, dx, r, vfs, a, b, d, xs, rfl, ns, hp, hf, hr, hl, q⟩ := h
  obtain ⟨cl, na⟩ := Z.ex CA ns
  refine ⟨.ref p, hσ 0 (by omega), p, CA, dx, vfs, .ref r, rfl, hp, cl, na _ hfl, hf, .inl ⟨rfl, xs, SqL.of hr⟩, a, hσ 1 (by omega), b, hσ 2 (by omega), d, hσ 3 (by omega), by rw [sizeLine_eq]; show 3 ≤ _; decide, fun t ht => ?_⟩
  refine ⟨r, xs, .ref t, rfl, rfl, by rw [upd_ne (fun z => by rw [z, ht] at hr; cases hr)]; exact hr, hl, ?_⟩
  rw [hD]
  exact q t ht
theorem rx_cop {nw ce : Str} {jj : Nat} {pl : Sem Bool} (G1 : ObX X.prog X.w X.K X.mg X.base C "cell" k ["self"] (spCellX X.K C)) (G2 : ObX X.prog X.w X.K X.mg X.base C "row" k ps (spRowX X.K C)) (hr : Room l X.A) (hk : k ≤ l) (hnd : X.N.Nodup) (hN : X.N[0]? = some x) (hv : Vis X.env.scope x) (h1 : X.N[1]? = some ce) (v1 : Vis X.env.scope ce) (h2 : X.N[2]? = some nw) (v2 : Vis X.env.scope nw) (l2 : Loc X.env.scope nw) (len : X.N.length = 3)
    (hsw1 : swapsWith (.Call (.Attribute (.Name x p1) "cell" p2) [] [] p3) (some (.Name nw p4)) p5.line X.env = pure false := by rfl)
    (hsw2 : swapsWith (.Call (.Attribute (.Name x p6) "row" p7) [.Constant (.str "copy") jj p8, .Name nw p9, .Name ce p10] [] p11) none pos.line X.env = pure false := by rfl)
    (hs0 : starEach [Expr.Constant (.str "copy") jj p8, .Name nw p9, .Name ce p10] X.env = (false, eval (.Constant (.str "copy") jj p8) X.env) :: starEach [.Name nw p9, .Name ce p10] X.env := by rfl) (hs1 : starEach [Expr.Name nw p9, .Name ce p10] X.env = (false, eval (.Name nw p9) X.env) :: starEach [.Name ce p10] X.env := by rfl) (hs2 : starEach [Expr.Name ce p10] X.env = (false, eval (.Name ce p10) X.env) :: starEach [] X.env := by rfl)
    (hpl : (backTo p11 (starEach [Expr.Name nw p9, .Name ce p10] X.env)).any (·.1) = false := by rfl)
    (ht1 : eval (.Call (.Attribute (.Name x p1) "cell" p2) [] [] p3) X.env = (do
      let ov ← eval (.Name x p1) X.env
      standAt p2.atName
      let (f, first) ← holding [ov] (getMethod ov "cell" pl)
      callWith p3 f first (backTo p3 (starEach [] X.env)) (backToKw p3 (keywordEach [] X.env))) := by rfl)
    (ht2 : eval (.Call (.Attribute (.Name x p6) "row" p7) [.Constant (.str "copy") jj p8, .Name nw p9, .Name ce p10] [] p11) X.env = (do
      let ov ← eval (.Name x p6) X.env
      standAt p7.atName
      let (f, first) ← holding [ov] (getMethod ov "row" pl)
      callWith p11 f first (backTo p11 (starEach [Expr.Constant (.str "copy") jj p8, .Name nw p9, .Name ce p10] X.env)) (backToKw p11 (keywordEach [] X.env))) := by rfl)
    (hf : X.fn nw = true ∨ X.env.scope.names.lookup nw = some .local := by first | exact .inl rfl | exact .inr rfl)
    (hd : (x == ("__debug__" : Str)) = false := by decide) (hcd : (x == ("__classdict__" : Str)) = false := by decide) (ha : (nw == ("__debug__" : Str)) = false := by decide) (hca : (nw == ("__classdict__" : Str)) = false := by decide) (hbb : (ce == ("__debug__" : Str)) = false := by decide) (hcb : (ce == ("__classdict__" : Str)) = false := by decide) {q1 q2 : Pos} :
    ∃ t, PSs X [.Assign [.Name nw p4] (.Call (.Attribute (.Name x p1) "cell" p2) [] [] p3) p5, .Expr (.Call (.Attribute (.Name x p6) "row" p7) [.Constant (.str "copy") jj p8, .Name nw p9, .Name ce p10] [] p11) pos, .Return (some (.Name nw q1)) q2] t ∧ ∀ vs H Q E (D : Ends) (σ : St), D.rt = Q → σ.length = 3 → (∀ i, i < 2 → σ[i]? = vs[i]?.map some) → spCopX X.K C vs H Q E → t D σ H := by
  obtain ⟨CA, g1, fd1, ns1, cl1, me1, F1, b1⟩ := G1.ex
  obtain ⟨CA2, g2, fd2, ns2, cl2, me2, F2, b2⟩ := G2.ex
  rw [ns1] at ns2
  cases ns2
  refine ⟨_, pss_cons (ps_set (i := 2) hnd h2 l2 (pe_meth0 (pl := pl) (pe_var (i := 0) hN hv hd hcd) cl1 me1 F1 (hr.mono hk) b1 .nil passes0 ht1) hsw1 hf) (pss_cons (ps_expr (pe_meth (pl := pl) (pe_var (i := 0) hN hv hd hcd) cl1 me2 F2 (hr.mono hk) b2 .nil passes0 (pa_cons pe_str (pa_cons (pe_var (i := 2) h2 v2 ha hca) (pa_cons (pe_var (i := 1) h1 v1 hbb hcb) pa_nil hs2) hs1) hs0) hs0 hpl ht2) hsw2) (pss_one (ps_ret (pe_var (i := 2) h2 v2 ha hca)))), fun vs H Q E D σ hD hl hσ h => ?_⟩
  obtain ⟨p, CA', dx, r, vfs, d, n, xs, rfl, ns, hp, hfr, hrw, hrl, hsz, hlen, hc, hro, q⟩ := h
  rw [ns1] at ns
  cases ns
  have e0 : σ[0]? = some (some (.ref p)) := hσ 0 (by omega)
  have e1 : σ[1]? = some (some d) := hσ 1 (by omega)
  have npr : p ≠ r := fun z => by rw [z, hrl] at hp; cases hp
  refine ⟨.ref p, e0, p, dx, vfs, rfl, hp, hc, p, CA, dx, vfs, n, rfl, ns1, hp, hfr, hlen, ?_⟩
  refine ⟨.ref p, by rw [List.getElem?_set_ne (by omega)]; exact e0, p, dx, _, rfl, upd_same, by rw [lookup_putF, if_neg (by decide)]; exact hro, .int n, by rw [List.getElem?_set_self (by omega)], d, by rw [List.getElem?_set_ne (by omega)]; exact e1, ?_⟩
  refine ⟨p, CA, dx, r, _, .str "copy", .int n, d, xs, rfl, ns1, upd_same, by rw [lookup_putF, if_neg (by decide)]; exact hrw, by rw [upd_ne (Ne.symm npr)]; exact hrl, hsz, fun t ht => ?_⟩
  refine ⟨.int n, by rw [List.getElem?_set_self (by omega)], ?_⟩
  rw [hD]
  refine q t ?_
  by_cases e : t = p
  · rw [e, upd_same] at ht; cases ht
  · rw [upd_ne e] at ht; exact ht
def mEnd1 (wd : Str) (C : Str) : MS := fun ρ => match objAt ρ 0 C, ρ[1]? with
  | some fs, some (some d) => (match fs.lookup ("free" : Str), fs.lookup ("rows" : Str) with
    | some (.int n), some (.own xs) => if d.per && decide (xs.length + 2 < sizeLine) && decide (fs.length < 900) && (fs.lookup ("cell" : Str)).isNone && (fs.lookup ("row" : Str)).isNone && (fs.lookup ("copied" : Str)).isNone then
        .ok (.nx, ρ.set 0 (some (.obj C (putM ("rows" : Str) (.own (xs ++ [.tup [.str "copy", .int n, d], .tup [.str wd, .int n]])) (putM ("free" : Str) (.int (n + 1)) fs))))) else .stuck
    | _, _ => .stuck)
  | _, _ => .stuck
theorem lookM {f g : Str} (v : MV) : ∀ fs : List (Str × MV), (putM f v fs).lookup g = if g = f then some v else fs.lookup g
  | [] => by
    unfold putM
    rw [look_eq]
    by_cases e : f = g
    · rw [if_pos e, if_pos e.symm]
    · rw [if_neg e, if_neg (Ne.symm e)]
  | (n, y) :: r => by
    unfold putM
    by_cases e : n = f
    · rw [if_pos e, look_eq, look_eq]
      by_cases e2 : n = g
      · rw [if_pos e2, if_pos (by rw [← e2, e])]
      · rw [if_neg e2, if_neg e2, if_neg (fun z => e2 (by rw [e, z]))]
    · rw [if_neg e, look_eq, look_eq]
      by_cases e2 : n = g
      · rw [if_pos e2, if_pos e2, if_neg (fun z => e (by rw [e2, z]))]
      · rw [if_neg e2, if_neg e2, lookM v r]
theorem ms_end1 {c : Ct} {wd ce : Str} {jj kk : Nat} {pl : Sem Bool} (Z : ObC X.K C fl) (hfl : ("rows" : Str) ∈ fl) (G : ObX X.prog X.w X.K X.mg X.base C "copied" k ps (spCopX X.K C)) (hr : Room l X.A) (hk : k ≤ l) (hN : X.N[0]? = some x) (hv : Vis X.env.scope x) (h1 : X.N[1]? = some ce) (v1 : Vis X.env.scope ce) (hK : c.K = X.K := by rfl)
    (hb : attributeBase (.Name x p1) "rows" X.env (eval (.Name x p1) X.env) = eval (.Name x p1) X.env := by rfl)
    (hbase : attributeBase (.Attribute (.Name x p1) "rows" p2) "append" X.env (eval (.Attribute (.Name x p1) "rows" p2) X.env) = eval (.Attribute (.Name x p1) "rows" p2) X.env := by rfl)
    (hs0 : starEach [Expr.Constant (.str wd) jj p4, .Call (.Attribute (.Name x p5) "copied" p6) [.Name ce p7] [] p8] X.env = (false, eval (.Constant (.str wd) jj p4) X.env) :: starEach [.Call (.Attribute (.Name x p5) "copied" p6) [.Name ce p7] [] p8] X.env := by rfl)
    (hs1 : starEach [Expr.Call (.Attribute (.Name x p5) "copied" p6) [.Name ce p7] [] p8] X.env = (false, eval (.Call (.Attribute (.Name x p5) "copied" p6) [.Name ce p7] [] p8) X.env) :: starEach [] X.env := by rfl)
    (hs2 : starEach [Expr.Name ce p7] X.env = (false, eval (.Name ce p7) X.env) :: starEach [] X.env := by rfl) (hpl2 : (backTo p8 (starEach [] X.env)).any (·.1) = false := by rfl)
    (hfew : ((backTo p10 (starEach [Expr.Tuple [.Constant (.str wd) jj p4, .Call (.Attribute (.Name x p5) "copied" p6) [.Name ce p7] [] p8] kk p9] X.env)).all (fun x => !x.1) && (backToKw p10 (keywordEach [] X.env)).all (fun x => x.1.isSome)
      && decide ([Expr.Tuple [.Constant (.str wd) jj p4, .Call (.Attribute (.Name x p5) "copied" p6) [.Name ce p7] [] p8] kk p9].length + ([] : List Keyword).length + (if ([] : List Keyword).isEmpty then 0 else 1) < 30)) = true := by rfl)
    (hline : (p3.endLine == p10.line) = true := by rfl) (hs : starEach [Expr.Tuple [.Constant (.str wd) jj p4, .Call (.Attribute (.Name x p5) "copied" p6) [.Name ce p7] [] p8] kk p9] X.env = (false, eval (.Tuple [.Constant (.str wd) jj p4, .Call (.Attribute (.Name x p5) "copied" p6) [.Name ce p7] [] p8] kk p9) X.env) :: starEach [] X.env := by rfl) (hplain : (backTo p10 (starEach [] X.env)).any (·.1) = false := by rfl)
    (hsw : swapsWith (.Call (.Attribute (.Attribute (.Name x p1) "rows" p2) "append" p3) [.Tuple [.Constant (.str wd) jj p4, .Call (.Attribute (.Name x p5) "copied" p6) [.Name ce p7] [] p8] kk p9] [] p10) none pos.line X.env = pure false := by rfl)
    (ht : eval (.Call (.Attribute (.Name x p5) "copied" p6) [.Name ce p7] [] p8) X.env = (do
      let ov ← eval (.Name x p5) X.env
      standAt p6.atName
      let (f, first) ← holding [ov] (getMethod ov "copied" pl)
      callWith p8 f first (backTo p8 (starEach [Expr.Name ce p7] X.env)) (backToKw p8 (keywordEach [] X.env))) := by rfl)
    (hd : (x == ("__debug__" : Str)) = false := by decide) (hcd : (x == ("__classdict__" : Str)) = false := by decide) (ha : (ce == ("__debug__" : Str)) = false := by decide) (hca : (ce == ("__classdict__" : Str)) = false := by decide) :
    PS X (.Expr (.Call (.Attribute (.Attribute (.Name x p1) "rows" p2) "append" p3) [.Tuple [.Constant (.str wd) jj p4, .Call (.Attribute (.Name x p5) "copied" p6) [.Name ce p7] [] p8] kk p9] [] p10) pos) (rdS c (mEnd1 wd C)) := by
  obtain ⟨CA, g, fd, ns, cl, me, F, b⟩ := G.ex
  refine PSw (ps_expr (pe_bm PySem.F.plainAttrs_list PySem.F.slot_list_append PySem.F.type_list_append mt_append (pe_fld (pe_var (i := 0) hN hv hd hcd) hb) (pa_cons (pe_tup (pa_cons pe_str (pa_cons (pe_meth (pl := pl) (pe_var (i := 0) hN hv hd hcd) cl me F (hr.mono hk) b .nil passes0 (pa_cons (pe_var (i := 1) h1 v1 ha hca) pa_nil hs2) hs2 hpl2 ht) pa_nil hs1) hs0)) pa_nil hs) hbase hfew hline hs hplain) hsw) fun D σ H h => ?_
  obtain ⟨F', Hk, bp, ρ, S, h⟩ := h
  unfold mEnd1 at h
  split at h
  · rename_i fs d eo ed
    have hi := obj_at eo
    obtain ⟨ow, q, CA', dx, vfs, B, s, ev, eow, ns', hq, ofs, nd⟩ := obj_rs S hi
    rw [hK, ns] at ns'
    cases ns'
    obtain ⟨_, na⟩ := Z.ex CA ns
    split at h
    · rename_i n xs eln elr
      split at h
      · rename_i hc
        simp only [Bool.and_eq_true, decide_eq_true_eq, Option.isNone_iff_eq_none] at hc
        obtain ⟨⟨⟨⟨⟨pd, hz⟩, hfl9⟩, nc⟩, nr⟩, ncp⟩ := hc
        obtain ⟨vd, evd, rd⟩ := S.1.get ed pd
        obtain ⟨vr, A1, B1, B2, g1, g2, g3, g4⟩ := ofs.focus elr
        obtain ⟨r, vs, rfl, rfl, hrr, rv⟩ := OF.own.mp g3
        obtain ⟨vn, A3, B3, B4, k1, k2, k3, k4⟩ := ofs.focus eln
        have k3' := (OF.per (x := .int n) rfl).mp k3
        obtain ⟨hA3, rn⟩ := k3'
        have evn := RV.int.mp rn
        subst evn
        have mq : q ∈ ow 0 := by rw [eow]; simp
        have mr : r ∈ ow 0 := by rw [eow, g2]; simp
        have nqr : q ≠ r := fun z => by rw [z, hrr] at hq; cases hq
        have lv := ofs.len
        refine ⟨_, ev, q, CA, dx, vfs, .ref r, rfl, hq, cl, na _ hfl, g1, .inl ⟨rfl, vs, SqL.of hrr⟩, ?_⟩
        refine ⟨_, ev, q, dx, vfs, rfl, hq, (ofs.fresh ncp).1, vd, evd, q, CA, dx, r, vfs, vd, n, vs, rfl, ns, hq, k1, g1, hrr, by rw [rv.length]; omega, by omega, (ofs.fresh nc).1, (ofs.fresh nr).1, fun t ht => ?_⟩
        refine ⟨by rw [sizeLine_eq]; show 2 ≤ _; decide, fun t2 ht2 => ?_⟩
        have ntq : t ≠ q := fun z => by rw [z, hq] at ht; cases ht
        have ntr : t ≠ r := fun z => by rw [z, hrr] at ht; cases ht
        have nt2r : t2 ≠ r := fun z => by rw [z, upd_same] at ht2; cases ht2
        rw [upd_ne nt2r] at ht2
        have nt2t : t2 ≠ t := fun z => by rw [z, upd_same] at ht2; cases ht2
        rw [upd_ne nt2t] at ht2
        have nt2q : t2 ≠ q := fun z => by rw [z, upd_same] at ht2; cases ht2
        rw [upd_ne nt2q] at ht2
        refine ⟨r, vs ++ [.ref t], .ref t2, rfl, rfl, by rw [upd_ne (Ne.symm nt2r), upd_same], by rw [List.length_append, rv.length]; simp; omega, ?_⟩
        -- the heap behind the row
        have kt := S.1.ex.back ht
        have kt2 := S.1.ex.back ht2
        have e1 := Ex.new (o := HO.tup [V.str "copy", .int n, vd]) kt
        have kt2' : upd Hk t (.tup [V.str "copy", .int n, vd]) t2 = none := by rw [upd_ne nt2t]; exact kt2
        have e2 := Ex.new (o := HO.tup [V.str wd, .int n]) kt2'
        have e12 := e1.trans e2
        have hH : ∀ a, a ≠ q → a ≠ r → a ≠ t → a ≠ t2 → upd (upd (upd (upd (upd H q (.ins CA dx (putF ("free" : Str) (.int (n + 1)) vfs))) t (.tup [.str "copy", .int n, vd])) r (.lst (vs ++ [.ref t]))) t2 (.tup [.str wd, .int n])) r (.lst (vs ++ [.ref t] ++ [.ref t2])) a = H a := fun a a1 a2 a3 a4 => by
          rw [upd_ne a2, upd_ne a4, upd_ne a2, upd_ne a3, upd_ne a1]
        have hHq : upd (upd (upd (upd (upd H q (.ins CA dx (putF ("free" : Str) (.int (n + 1)) vfs))) t (.tup [.str "copy", .int n, vd])) r (.lst (vs ++ [.ref t]))) t2 (.tup [.str wd, .int n])) r (.lst (vs ++ [.ref t] ++ [.ref t2])) q = some (.ins CA dx (putF ("free" : Str) (.int (n + 1)) vfs)) := by
          rw [upd_ne nqr, upd_ne (Ne.symm nt2q), upd_ne nqr, upd_ne (Ne.symm ntq), upd_same]
        have hHt : upd (upd (upd (upd (upd H q (.ins CA dx (putF ("free" : Str) (.int (n + 1)) vfs))) t (.tup [.str "copy", .int n, vd])) r (.lst (vs ++ [.ref t]))) t2 (.tup [.str wd, .int n])) r (.lst (vs ++ [.ref t] ++ [.ref t2])) t = some (.tup [.str "copy", .int n, vd]) := by
          rw [upd_ne ntr, upd_ne (Ne.symm nt2t), upd_ne ntr, upd_same]
        have hHt2 : upd (upd (upd (upd (upd H q (.ins CA dx (putF ("free" : Str) (.int (n + 1)) vfs))) t (.tup [.str "copy", .int n, vd])) r (.lst (vs ++ [.ref t]))) t2 (.tup [.str wd, .int n])) r (.lst (vs ++ [.ref t] ++ [.ref t2])) t2 = some (.tup [.str wd, .int n]) := by
          rw [upd_ne nt2r, upd_same]
        generalize hG : upd (upd (upd (upd (upd H q (.ins CA dx (putF ("free" : Str) (.int (n + 1)) vfs))) t (.tup [.str "copy", .int n, vd])) r (.lst (vs ++ [.ref t]))) t2 (.tup [.str wd, .int n])) r (.lst (vs ++ [.ref t] ++ [.ref t2])) = G at hH hHq hHt hHt2 ⊢
        have hGr : G r = some (.lst (vs ++ [.ref t] ++ [.ref t2])) := by rw [← hG, upd_same]
        have gB : ∀ a ∈ B, a ≠ q ∧ a ≠ t ∧ a ≠ t2 := fun a ha => by
          obtain ⟨_, _, o, ho⟩ := s.f 0 a (by rw [eow]; exact List.mem_cons_of_mem _ ha)
          exact ⟨fun z => (List.nodup_cons.mp nd).1 (by rw [← z]; exact ha), fun z => (by rw [z, ht] at ho; cases ho), fun z => (by rw [z, ht2] at ho; cases ho)⟩
        have ofree := k4 Hk H (.int (n + 1)) (.int (n + 1)) [] (Ex.refl _) (fun _ _ _ z => z) ((OF.per rfl).mpr ⟨rfl, RV.int.mpr rfl⟩)
        have hB' : B3 ++ [] ++ B4 = B := by rw [k2, hA3]
        rw [hB'] at ofree
        have elr2 : (putM ("free" : Str) (.int (n + 1)) fs).lookup ("rows" : Str) = some (.own xs) := by rw [lookM, if_neg (by decide)]; exact elr
        obtain ⟨vr2, A5, B5, B6, m1, m2, m3, m4⟩ := ofree.focus elr2
        rw [lookup_putF, if_neg (by decide), g1] at m1
        cases m1
        obtain ⟨r2, vs2, er, rfl, hr2, _⟩ := OF.own.mp m3
        cases er
        have nB : ∀ a ∈ B5 ++ B6, a ≠ r := fun a ha z => by
          have n2 := (List.nodup_cons.mp nd).2
          rw [m2] at n2
          have : (r :: (B5 ++ B6)).Nodup := n2.perm (by simp only [List.append_assoc]; exact List.perm_middle)
          exact (List.nodup_cons.mp this).1 (by rw [← z]; exact ha)
        have ofin := m4 (upd (upd Hk t (.tup [V.str "copy", .int n, vd])) t2 (.tup [V.str wd, .int n])) G (.own (xs ++ [.tup [.str "copy", .int n, d], .tup [.str wd, .int n]])) (.ref r) [r] e12 (fun a ha o ho => by
          have mB : a ∈ B := by rw [m2]; rcases List.mem_append.mp ha with h | h <;> simp [h]
          obtain ⟨a1, a2, a3⟩ := gB a mB
          rw [hH a a1 (nB a ha) a2 a3]; exact ho) (OF.own.mpr ⟨r, _, rfl, rfl, hGr, by
          rw [List.append_assoc]
          refine (rv.mono e12).append ?_
          refine RVs.cons.mpr ⟨.ref t, [.ref t2], rfl, RV.tup.mpr ⟨t, _, rfl, SqT.of (by rw [upd_ne (Ne.symm nt2t), upd_same]), ?_⟩, RVs.cons.mpr ⟨.ref t2, [], rfl, RV.tup.mpr ⟨t2, _, rfl, SqT.of upd_same, ?_⟩, RVs.nil.mpr rfl⟩⟩
          · exact RVs.cons.mpr ⟨_, _, rfl, RV.str.mpr rfl, RVs.cons.mpr ⟨_, _, rfl, RV.int.mpr rfl, RVs.cons.mpr ⟨_, _, rfl, RV.mono e12 _ _ rd, RVs.nil.mpr rfl⟩⟩⟩
          · exact RVs.cons.mpr ⟨_, _, rfl, RV.str.mpr rfl, RVs.cons.mpr ⟨_, _, rfl, RV.int.mpr rfl, RVs.nil.mpr rfl⟩⟩⟩)
        rw [putF_same (by rw [lookup_putF, if_neg (by decide)]; exact g1), ← m2] at ofin
        refine h _ _ _ e12 (SL.re (A' := q :: B) S.1 s hi ev e12 (fun a o ho => ?_) (fun a ha o ho => ?_) (fun a ha hn ⟨o, ho⟩ => ?_) (OV.obj.mpr ⟨q, CA, dx, _, B, rfl, rfl, by rw [hK]; exact ns, hHq, ofin, nd⟩) (fun a ha => ?_)).2
        · by_cases a1 : a = t2
          · subst a1; rw [upd_same] at ho; cases ho; exact hHt2
          · rw [upd_ne a1] at ho
            by_cases a2 : a = t
            · subst a2; rw [upd_same] at ho; cases ho; exact hHt
            · rw [upd_ne a2] at ho
              rw [hH a (fun z => by have := (s.f 0 q mq).1; rw [← z, ho] at this; cases this) (fun z => by have := (s.f 0 r mr).1; rw [← z, ho] at this; cases this) a2 a1]
              exact S.1.ex a o ho
        · rw [hH a (fun z => ha (by rw [z]; exact mq)) (fun z => ha (by rw [z]; exact mr)) (fun z => by rw [z, ht] at ho; cases ho) (fun z => by rw [z, ht2] at ho; cases ho)]; exact ho
        · rw [upd_ne (fun z => by rw [z, ht2] at ho; cases ho), upd_ne (fun z => by rw [z, ht] at ho; cases ho)]; exact hn
        · have ma : a ∈ ow 0 := by rw [eow]; exact ha
          obtain ⟨f1, f2, o, f3⟩ := s.f 0 a ma
          exact ⟨.inl ma, by rw [upd_ne (fun z => by rw [z, ht2] at f3; cases f3), upd_ne (fun z => by rw [z, ht] at f3; cases f3)]; exact f1⟩
      · exact h.elim
    · exact h.elim
  · exact h.elim
end
theorem start_get {N : List Str} {vs : List V} {i : Nat} (h : i < vs.length) : (L2.start N vs)[i]? = (vs[i]?).map some := by
  unfold L2.start
  rw [List.getElem?_append_left (by simpa using h), List.getElem?_map]
theorem fni_mk {K : PySem.W.Frag} {N : List Str} (L : List (Str × Addr)) (h1 : ∀ x ∈ N, ∀ a, PySem.W.nsIn K mainGlobals x = some (some (.ref a)) → (x, a) ∈ L) (h2 : ∀ p ∈ L, PySem.W.typeIn K (.ref p.2) = some (.type "function")) (h3 : (L.map (·.2)).Nodup) : FnI K N := by
  refine ⟨fun x hx a ha => fna_of (h2 _ (h1 x hx a ha)), fun x hx y hy a ha hb => ?_⟩
  have m1 := h1 x hx a ha
  have m2 := h1 y hy a hb
  obtain ⟨i, hi, e1⟩ := List.mem_iff_getElem.mp m1
  obtain ⟨j, hj, e2⟩ := List.mem_iff_getElem.mp m2
  have : i = j := (List.getElem_inj h3 (h₀ := by simpa using hi) (h₁ := by simpa using hj)).mp (by simp [e1, e2])
  subst this
  rw [e1] at e2
  cases e2; rfl
theorem fni_one {K : PySem.W.Frag} {x : Str} {b : Addr} {L : List (Str × Addr)} (h : PySem.W.nsIn K mainGlobals x = some (some (.ref b))) (m : (x, b) ∈ L) : ∀ a, PySem.W.nsIn K mainGlobals x = some (some (.ref a)) → (x, a) ∈ L := fun a ha => by
  rw [h] at ha; cases ha; exact m
theorem fni_no {K : PySem.W.Frag} {x : Str} {Q : Addr → Prop} (h : PySem.W.nsIn K mainGlobals x = some none) : ∀ a, PySem.W.nsIn K mainGlobals x = some (some (.ref a)) → Q a := fun a ha => by
  rw [h] at ha; cases ha
theorem lookup_memP {α : Type} : ∀ {tab : List (Str × α)} {x : Str} {b : α}, tab.lookup x = some b → (x, b) ∈ tab
  | [], _, _, h => by simp at h
  | (z, k) :: tab, x, b, h => by
    rw [look_eq] at h
    by_cases e : z = x
    · rw [if_pos e] at h; cases h; subst e; exact List.mem_cons_self ..
    · rw [if_neg e] at h; exact List.mem_cons_of_mem _ (lookup_memP h)
section
variable {P : Program} {w : World} {K : PySem.W.Frag} {mg : Str → Option Value} {base : Heap}
theorem fnt_mk {T : List (Str × MF)} (h : ∀ p ∈ T, ∀ a, PySem.W.nsIn K mainGlobals p.1 = some (some (.ref a)) → ∃ fd ps, FnOk P w K mg base (L2N.CX P w) 2 a fd ps (spF K mg 1 [] p.2) ∧ PySem.W.keepIn K (.ref a) = true ∧ Binds K fd ps []) : FnT P w K mg base T :=
  ⟨fun x f hx a ha => h (x, f) (lookup_memP hx) a ha⟩
theorem fnt_one {x : Str} {ps : List Str} {f : MF} {b : Addr} (G : Fd P w K mg base x 2 ps [] f) (hl : ps.length = 1) (hm : mg x = some (.ref b)) (hn : PySem.W.nsIn K mainGlobals x = some (some (.ref b))) : ∀ a, PySem.W.nsIn K mainGlobals x = some (some (.ref a)) → ∃ fd ps, FnOk P w K mg base (L2N.CX P w) 2 a fd ps (spF K mg 1 [] f) ∧ PySem.W.keepIn K (.ref a) = true ∧ Binds K fd ps [] := fun a ha => by
  rw [hn] at ha
  cases ha
  obtain ⟨fa, fd, F, m2, hk, hb⟩ := G.ex
  rw [hm] at m2
  cases m2
  rw [hl] at F
  exact ⟨fd, ps, F, hk, hb⟩
theorem obc_mk {C : Str} {CA : Addr} {fs : List Str} (n : PySem.W.nsIn K mainGlobals C = some (some (.ref CA))) (c1 : PySem.W.plainGet K CA Str.empty = true) (c2 : PySem.W.hasDictIn K CA = true) (c3 : PySem.W.plainOver K CA = true) (c4 : PySem.W.findIn K (.ref CA) "__setattr__" = some (some (.builtin "object.__setattr__"))) (h : ∀ f ∈ fs, PySem.W.findIn K (.ref CA) f = some none) : ObC K C fs :=
  ⟨fun A hA => by
    rw [n] at hA
    cases hA
    exact ⟨⟨c1, c2, c3, c4⟩, h⟩⟩
end
end Tm
set_option Elab.async false
set_option linter.all false
set_option maxRecDepth 100000
set_option maxHeartbeats 2000000
namespace Tm
open PySem L2
theorem nr {α : Sort _} {a b : α} (h : a = b) : a = b := h
section
variable {α β : Type} {a b : ME} {ρ ρ1 : Env} {r : Option MV} {x y z : MV}
@[simp] theorem bind_ok {x : α} {f : α → Env → Res (β × Env)} : (Res.ok (x, ρ)).bind f = f x ρ := nr rfl
@[simp] theorem bind_exc {e : MX} {f : α → Env → Res (β × Env)} : (Res.exc e ρ : Res (α × Env)).bind f = .exc e ρ := nr rfl
@[simp] theorem bind_stuck {f : α → Env → Res (β × Env)} : (Res.stuck : Res (α × Env)).bind f = .stuck := nr rfl
@[simp] theorem b0_ok {x : α} {f : α → Env → Res (β × Env)} : (Res.ok (x, ρ)).b0 f = f x ρ := nr rfl
@[simp] theorem mVar_ap {i : Nat} : mVar i (r :: ρ) = match (r :: ρ)[i]? with
  | some (some (.own xs)) => .ok (.lst xs, (r :: ρ).set i (some (.lst xs)))
  | some (some (.obj _ _)) => .stuck
  | some (some x) => .ok (x, (r :: ρ))
  | _ => .stuck := nr rfl
@[simp] theorem mC_ap  : mC x (r :: ρ) = .ok (x, (r :: ρ)) := nr rfl
@[simp] theorem mOp_ap {f : MV → MV → Option MV} : mOp f a b (r :: ρ) = (a (r :: ρ)).bind fun x ρ1 => (b ρ1).bind fun y ρ2 => match f x y with | some z => .ok (z, ρ2) | none => .stuck := nr rfl
@[simp] theorem mUn_ap {f : MV → Option MV} : mUn f a (r :: ρ) = (a (r :: ρ)).bind fun x ρ1 => match f x with | some z => .ok (z, ρ1) | none => .stuck := nr rfl
@[simp] theorem mTest_ap  : mTest a (r :: ρ) = (a (r :: ρ)).bind fun x ρ1 => match x with | .bl b => .ok (b, ρ1) | _ => .stuck := nr rfl
@[simp] theorem mChain_ap {f g : MV → MV → Option MV} {d : ME} : mChain f g a b d (r :: ρ) = (a (r :: ρ)).bind fun x ρ1 => (b ρ1).bind fun y ρ2 => match f x y with
  | some (.bl true) => (d ρ2).bind fun z ρ3 => match g y z with | some w => .ok (w, ρ3) | none => .stuck
  | some (.bl false) => .ok (.bl false, ρ2)
  | _ => .stuck := nr rfl
@[simp] theorem mAndT_ap {a b : MT} : mAndT a b (r :: ρ) = (a (r :: ρ)).bind fun x ρ1 => if x then b ρ1 else .ok (false, ρ1) := nr rfl
@[simp] theorem mOrT_ap {a b : MT} : mOrT a b (r :: ρ) = (a (r :: ρ)).bind fun x ρ1 => if x then .ok (true, ρ1) else b ρ1 := nr rfl
@[simp] theorem mNotT_ap {a : MT} : mNotT a (r :: ρ) = (a (r :: ρ)).bind fun x ρ1 => .ok (!x, ρ1) := nr rfl
@[simp] theorem mBv_ap {t : MT} : mBv t (r :: ρ) = (t (r :: ρ)).bind fun x ρ1 => .ok (.bl x, ρ1) := nr rfl
@[simp] theorem mNil_ap  : mNil (r :: ρ) = .ok ([], (r :: ρ)) := nr rfl
@[simp] theorem mCons_ap {b : MA} : mCons a b (r :: ρ) = (a (r :: ρ)).bind fun x ρ1 => (b ρ1).bind fun xs ρ2 => .ok (x :: xs, ρ2) := nr rfl
@[simp] theorem mTup_ap {a : MA} : mTup a (r :: ρ) = (a (r :: ρ)).bind fun xs ρ1 => if szOk xs.length then .ok (.tup xs, ρ1) else .stuck := nr rfl
@[simp] theorem mLst_ap {a : MA} : mLst a (r :: ρ) = (a (r :: ρ)).bind fun xs ρ1 => if szOk xs.length then .ok (.lst xs, ρ1) else .stuck := nr rfl
@[simp] theorem mLstO_ap {a : MA} : mLstO a (r :: ρ) = (a (r :: ρ)).bind fun xs ρ1 => if szOk xs.length then .ok (.own xs, ρ1) else .stuck := nr rfl
@[simp] theorem mIxV_ap {i : Nat} : mIxV i b (r :: ρ) = if has (r :: ρ) i then (b (r :: ρ)).bind fun y ρ1 => match ixV ρ1 i y with | some z => .ok (z, ρ1) | none => .stuck else .stuck := nr rfl
@[simp] theorem mNo_ap  : mNo (r :: ρ) = .ok (none, (r :: ρ)) := nr rfl
@[simp] theorem mPart_ap  : mPart a (r :: ρ) = (a (r :: ρ)).bind fun x ρ1 => match x with | .int i => .ok (some i, ρ1) | _ => .stuck := nr rfl
@[simp] theorem mSl_ap {l h : Env → Res (Option Int × Env)} : mSl a l h (r :: ρ) = (a (r :: ρ)).bind fun x ρ1 => (l ρ1).bind fun i ρ2 => (h ρ2).bind fun j ρ3 => match fSl x i j with | some z => .ok (z, ρ3) | none => .stuck := nr rfl
@[simp] theorem gSet_ap {i : Nat} : gSet i x (r :: ρ) = if i < (r :: ρ).length then some ((r :: ρ).set i (some x)) else none := nr rfl
@[simp] theorem gsNil_ap  : gsNil [] (r :: ρ) = some (r :: ρ) := nr rfl
@[simp] theorem gsCons_ap {g : MG} {h : List MV → Env → Option Env} {xs : List MV} : gsCons g h (x :: xs) (r :: ρ) = match g x (r :: ρ) with | some ρ1 => h xs ρ1 | none => none := nr rfl
@[simp] theorem gTp_tup {n : Nat} {h : List MV → Env → Option Env} {xs : List MV} : gTp n h (.tup xs) ρ = if xs.length = n then h xs ρ else none := nr rfl
@[simp] theorem gTp_lst {n : Nat} {h : List MV → Env → Option Env} {xs : List MV} : gTp n h (.lst xs) ρ = if xs.length = n then h xs ρ else none := nr rfl
@[simp] theorem mAsg_ap {g : MG} : mAsg a g (r :: ρ) = (a (r :: ρ)).bind fun x ρ1 => match g x ρ1 with | some ρ2 => .ok (.nx, ρ2) | none => .stuck := nr rfl
@[simp] theorem mSetO_ap {i : Nat} : mSetO i a (r :: ρ) = (a (r :: ρ)).bind fun x ρ1 => if i < ρ1.length then .ok (.nx, ρ1.set i (some x)) else .stuck := nr rfl
@[simp] theorem mPass_ap  : mPass (r :: ρ) = .ok (.nx, (r :: ρ)) := nr rfl
@[simp] theorem mSeq_ap {a b : MS} : mSeq a b (r :: ρ) = (a (r :: ρ)).bind fun f ρ1 => match f with | .nx => b ρ1 | f => .ok (f, ρ1) := nr rfl
@[simp] theorem mIfS_ap {t : MT} {a b : MS} : mIfS t a b (r :: ρ) = (t (r :: ρ)).bind fun x ρ1 => if x then a ρ1 else b ρ1 := nr rfl
@[simp] theorem mRet_ap  : mRet a (r :: ρ) = (a (r :: ρ)).bind fun x ρ1 => .ok (.rt x, ρ1) := nr rfl
@[simp] theorem mRetN_ap  : mRetN (r :: ρ) = .ok (.rt .non, (r :: ρ)) := nr rfl
@[simp] theorem mDrop_ap  : mDrop a (r :: ρ) = (a (r :: ρ)).bind fun _ ρ1 => .ok (.nx, ρ1) := nr rfl
@[simp] theorem mMove_ap {i : Nat} : mMove i (r :: ρ) = match (r :: ρ)[i]? with
  | some (some (.obj _ _)) => .stuck
  | some (some x) => .ok (x, (r :: ρ).set i none)
  | _ => .stuck := nr rfl
@[simp] theorem mFz_ap  : mFz a (r :: ρ) = (a (r :: ρ)).bind fun x ρ1 => match fz x with | some y => .ok (y, ρ1) | none => .stuck := nr rfl
@[simp] theorem mCall_ap {f : MF} {a : MA} : mCall f a (r :: ρ) = (a (r :: ρ)).bind fun xs ρ1 => match f xs with
  | .ok (v, _) => .ok (v, ρ1)
  | .exc e _ => .exc e ρ1
  | .stuck => .stuck := nr rfl
@[simp] theorem mCall0_ap {f : MF} {a : MA} : mCall0 f a (r :: ρ) = (a (r :: ρ)).bind fun xs ρ1 => match f xs with
  | .ok (v, _) => .ok (v, ρ1)
  | _ => .stuck := nr rfl
@[simp] theorem mBlt_ap {f : List MV → Option MV} {a : MA} : mBlt f a (r :: ρ) = (a (r :: ρ)).bind fun xs ρ1 => match f xs with | some z => .ok (z, ρ1) | none => .stuck := nr rfl
def r1M (xs : List MV) (ρ1 : Env) : Res (List MV × Env) := match xs with
  | [.int j] => if inR j then .ok (rngM 0 1 j.toNat, ρ1) else .stuck
  | _ => .stuck
@[simp] theorem mR1_ap {a : MA} : mR1 a (r :: ρ) = (a (r :: ρ)).bind r1M := nr rfl
@[simp] theorem r1M_i {j : Int} (h : inR j = true) : r1M [.int j] ρ = .ok (rngM 0 1 j.toNat, ρ) := if_pos h
def r3M (xs : List MV) (ρ1 : Env) : Res (List MV × Env) := match xs with
  | [.int i, .int j, .int k] => if rgOk i j k then .ok (rngM i k (Builtin.Range.rangeSize i j k).toNat, ρ1) else .stuck
  | _ => .stuck
@[simp] theorem mR3_ap {a : MA} : mR3 a (r :: ρ) = (a (r :: ρ)).bind r3M := nr rfl
@[simp] theorem r3M_i {i j k : Int} (h : rgOk i j k = true) : r3M [.int i, .int j, .int k] ρ = .ok (rngM i k (Builtin.Range.rangeSize i j k).toNat, ρ) := if_pos h
def lmM (f : List MV → List MV → Option (List MV × MV)) (i : Nat) (ys : List MV) (ρ1 : Env) : Res (MV × Env) := match ρ1[i]? with
  | some (some (.own xs)) => (match f xs ys with | some (zs, z) => .ok (z, ρ1.set i (some (.own zs))) | none => .stuck)
  | _ => .stuck
@[simp] theorem mLm_ap {f : List MV → List MV → Option (List MV × MV)} {i : Nat} {a : MA} : mLm f i a (r :: ρ) = if isOwn (r :: ρ) i then (a (r :: ρ)).bind (lmM f i) else .stuck := nr rfl
@[simp] theorem lmM_o {f : List MV → List MV → Option (List MV × MV)} {i : Nat} {xs ys : List MV} (h : ρ[i]? = some (some (.own xs))) : lmM f i ys ρ = (match f xs ys with | some (zs, z) => .ok (z, ρ.set i (some (.own zs))) | none => .stuck) := by unfold lmM; rw [h]
@[simp] theorem isOwn_o {i : Nat} {xs : List MV} (h : ρ[i]? = some (some (.own xs))) : isOwn ρ i = true := by unfold isOwn; rw [h]
@[simp] theorem has_o {i : Nat} {x : MV} (h : ρ[i]? = some (some x)) : has ρ i = true := by unfold has; rw [h]
@[simp] theorem flatM_i {k : Int} : flatM (.int k) = true := nr rfl
@[simp] theorem mItV_ap  : mItV a (r :: ρ) = (a (r :: ρ)).bind fun x ρ1 => match itemsOf x with | some xs => .ok (xs, ρ1) | none => .stuck := nr rfl
@[simp] theorem mRev_ap {a : MA} : mRev a (r :: ρ) = (a (r :: ρ)).bind fun xs ρ1 => match xs with
  | [.lst xs] => .ok (xs.reverse, ρ1)
  | _ => .stuck := nr rfl
@[simp] theorem mYes_ap  : mYes (r :: ρ) = .ok (true, (r :: ρ)) := nr rfl
@[simp] theorem mFor_ap {i : MI} {g : MG} {b : MS} : mFor i g b (r :: ρ) = (i (r :: ρ)).bind fun xs ρ1 => mLoop g b xs ρ1 := nr rfl
@[simp] theorem mLcO_ap {it : MI} {g : Tgt} {t : MT} {vs : List Nat} : mLcO it g t a vs (r :: ρ) = (it (r :: ρ)).bind fun xs ρ1 => if perAt ρ1 vs then (mLcLoop g t a vs xs [] ρ1).b0 fun ys ρ2 => .ok (.own ys, backM ρ1 ρ2 vs) else .stuck := nr rfl
end
@[simp] theorem fz_lst {xs : List MV} : fz (.lst xs) = some (.lst xs) := nr rfl
@[simp] theorem fz_own {xs : List MV} : fz (.own xs) = some (.lst xs) := nr rfl
@[simp] theorem fz_tup {xs : List MV} : fz (.tup xs) = some (.tup xs) := nr rfl
@[simp] theorem fz_int {i : Int} : fz (.int i) = some (.int i) := nr rfl
@[simp] theorem fz_bl {i : Bool} : fz (.bl i) = some (.bl i) := nr rfl
@[simp] theorem fz_str {i : Str} : fz (.str i) = some (.str i) := nr rfl
@[simp] theorem fz_non : fz .non = some .non := nr rfl
@[simp] theorem fz_scr {i : List Int} : fz (.scr i) = some (.scr i) := nr rfl
section
variable {i j : Int}
@[simp] theorem fAdd_ii : fAdd (.int i) (.int j) = some (.int (i + j)) := nr rfl
@[simp] theorem fAdd_ss {a b : Str} : fAdd (.str a) (.str b) = if szOk (a.length + b.length) then some (.str (a ++ b)) else none := nr rfl
@[simp] theorem fAdd_ll {a b : List MV} : fAdd (.lst a) (.lst b) = if szOk (a.length + b.length) then some (.lst (a ++ b)) else none := nr rfl
@[simp] theorem fAdd_tt {a b : List MV} : fAdd (.tup a) (.tup b) = if szOk (a.length + b.length) then some (.tup (a ++ b)) else none := nr rfl
@[simp] theorem fSub_ii : fSub (.int i) (.int j) = some (.int (i - j)) := nr rfl
@[simp] theorem fMul_ii : fMul (.int i) (.int j) = if mulOk i j then some (.int (i * j)) else none := nr rfl
@[simp] theorem fDiv_ii : fDiv (.int i) (.int j) = if divOk j then some (.int (i.fdiv j)) else none := nr rfl
@[simp] theorem fMod_ii : fMod (.int i) (.int j) = if decide (j ≠ 0) then some (.int (i.fmod j)) else none := nr rfl
@[simp] theorem fPow_ii : fPow (.int i) (.int j) = if decide (0 ≤ j) && decide (j ≤ 1000000) && decide (i.natAbs < 2 ^ 64) then some (.int (i ^ j.toNat)) else none := nr rfl
@[simp] theorem fLt_ii : fLt (.int i) (.int j) = some (.bl (decide (i < j))) := nr rfl
@[simp] theorem fLe_ii : fLe (.int i) (.int j) = some (.bl (decide (i ≤ j))) := nr rfl
@[simp] theorem fGt_ii : fGt (.int i) (.int j) = some (.bl (decide (j < i))) := nr rfl
@[simp] theorem fGe_ii : fGe (.int i) (.int j) = some (.bl (decide (j ≤ i))) := nr rfl
@[simp] theorem fNeg_i : fNeg (.int i) = some (.int (-i)) := nr rfl
@[simp] theorem fAddI_ii : fAddI (.int i) (.int j) = some (.int (i + j)) := nr rfl
@[simp] theorem fEq_ii : fEq (.int i) (.int j) = some (.bl (decide (i = j))) := nr rfl
@[simp] theorem fNe_ii : fNe (.int i) (.int j) = some (.bl (!decide (i = j))) := nr rfl
@[simp] theorem fEq_ss {a b : Str} : fEq (.str a) (.str b) = some (.bl (decide (a = b))) := nr rfl
@[simp] theorem fNe_ss {a b : Str} : fNe (.str a) (.str b) = some (.bl (!decide (a = b))) := nr rfl
@[simp] theorem bLen_l {a : List MV} : bLen [.lst a] = some (.int a.length) := nr rfl
@[simp] theorem bLen_t {a : List MV} : bLen [.tup a] = some (.int a.length) := nr rfl
@[simp] theorem bLen_c {a : List Int} : bLen [.scr a] = some (.int a.length) := nr rfl
@[simp] theorem bAbs_i : bAbs [.int i] = some (.int (if i < 0 then -i else i)) := nr rfl
@[simp] theorem bMax_i : bMax [.int i, .int j] = some (.int (if j > i then j else i)) := nr rfl
@[simp] theorem bInt_i : bInt [.int i] = some (.int i) := nr rfl
@[simp] theorem bInt_b {k : Bool} : bInt [.bl k] = some (.int (if k then 1 else 0)) := nr rfl
@[simp] theorem fIx_l {a : List MV} : fIx (.lst a) (.int i) = atI a i := nr rfl
@[simp] theorem fIx_t {a : List MV} : fIx (.tup a) (.int i) = atI a i := nr rfl
@[simp] theorem fIx_c {a : List Int} : fIx (.scr a) (.int i) = (atI a i).map .int := nr rfl
@[simp] theorem ixL_i {a : List MV} : ixL a (.int i) = atI a i := nr rfl
@[simp] theorem itemsOf_l {a : List MV} : itemsOf (.lst a) = some a := nr rfl
@[simp] theorem itemsOf_t {a : List MV} : itemsOf (.tup a) = some a := nr rfl
@[simp] theorem itemsOf_c {a : List Int} : itemsOf (.scr a) = some (a.map .int) := nr rfl
@[simp] theorem bTuple_l {a : List MV} : bTuple [.lst a] = some (.tup a) := nr rfl
@[simp] theorem bTuple_t {a : List MV} : bTuple [.tup a] = some (.tup a) := nr rfl
@[simp] theorem lmAppend_1 {a : List MV} {y : MV} : lmAppend a [y] = if decide (a.length < sizeLine) then some (a ++ [y], .non) else none := nr rfl
end
@[simp] theorem nat_neg {k : Nat} : ((k : Int) < 0) = False := by simp
@[simp] theorem nat_toNat {k : Nat} : ((k : Int)).toNat = k := nr rfl
theorem szOk_small {n : Nat} (h : n ≤ 16777216) : szOk n = true := szOk_iff.mpr (by rw [sizeLine_eq]; exact h)
theorem atI_ge {α : Type} {xs : List α} {i : Int} (h : 0 ≤ i) : atI xs i = xs[i.toNat]? := by
  unfold atI ixN
  rw [if_pos h]
  by_cases e : i < xs.length
  · rw [if_pos e]; rfl
  · rw [if_neg e, List.getElem?_eq_none (by omega)]; rfl
@[simp] theorem atI_0 {α : Type} {xs : List α} : atI xs 0 = xs[0]? := atI_ge (by decide)
@[simp] theorem atI_1 {α : Type} {xs : List α} : atI xs 1 = xs[1]? := atI_ge (by decide)
@[simp] theorem atI_2 {α : Type} {xs : List α} : atI xs 2 = xs[2]? := atI_ge (by decide)
@[simp] theorem atI_3 {α : Type} {xs : List α} : atI xs 3 = xs[3]? := atI_ge (by decide)
@[simp] theorem atI_4 {α : Type} {xs : List α} : atI xs 4 = xs[4]? := atI_ge (by decide)
@[simp] theorem atI_5 {α : Type} {xs : List α} : atI xs 5 = xs[5]? := atI_ge (by decide)
@[simp] theorem atI_6 {α : Type} {xs : List α} : atI xs 6 = xs[6]? := atI_ge (by decide)
@[simp] theorem atI_7 {α : Type} {xs : List α} : atI xs 7 = xs[7]? := atI_ge (by decide)
@[simp] theorem atI_8 {α : Type} {xs : List α} : atI xs 8 = xs[8]? := atI_ge (by decide)
@[simp] theorem atI_9 {α : Type} {xs : List α} : atI xs 9 = xs[9]? := atI_ge (by decide)
@[simp] theorem atI_10 {α : Type} {xs : List α} : atI xs 10 = xs[10]? := atI_ge (by decide)
@[simp] theorem atI_11 {α : Type} {xs : List α} : atI xs 11 = xs[11]? := atI_ge (by decide)
@[simp] theorem atI_12 {α : Type} {xs : List α} : atI xs 12 = xs[12]? := atI_ge (by decide)
@[simp] theorem atI_13 {α : Type} {xs : List α} : atI xs 13 = xs[13]? := atI_ge (by decide)
@[simp] theorem atI_14 {α : Type} {xs : List α} : atI xs 14 = xs[14]? := atI_ge (by decide)
@[simp] theorem atI_15 {α : Type} {xs : List α} : atI xs 15 = xs[15]? := atI_ge (by decide)
theorem atI_neg {α : Type} {xs : List α} {i : Int} (h : i < 0) (h2 : 0 ≤ i + xs.length) : atI xs i = xs[(i + xs.length).toNat]? := by
  unfold atI ixN
  rw [if_neg (by omega), if_pos (by omega)]
  rfl
theorem mulOk_l {i j : Int} (h1 : -(2 ^ 64) < i) (h2 : i < 2 ^ 64) : mulOk i j = true := by simp only [mulOk, Bool.or_eq_true, Bool.and_eq_true, decide_eq_true_eq]; exact .inl (.inl ⟨h1, h2⟩)
theorem mulOk_r {i j : Int} (h1 : -(2 ^ 64) < j) (h2 : j < 2 ^ 64) : mulOk i j = true := by simp only [mulOk, Bool.or_eq_true, Bool.and_eq_true, decide_eq_true_eq]; exact .inl (.inr ⟨h1, h2⟩)
theorem inR_of {i : Int} (h1 : -(2 ^ 62) ≤ i) (h2 : i < 2 ^ 62) : inR i = true := inR_iff.mpr ⟨h1, h2⟩
theorem loop_inv {g : MG} {b : MS} (I : Nat → Env → Prop) : ∀ (xs : List MV) (k : Nat) (ρ : Env), I k ρ → (∀ i x ρ, xs[i]? = some x → I (k + i) ρ → ∃ ρ1 ρ2, g x ρ = some ρ1 ∧ (b ρ1 = .ok (.nx, ρ2) ∨ b ρ1 = .ok (.ct, ρ2)) ∧ I (k + i + 1) ρ2) → ∃ ρ', mLoop g b xs ρ = .ok (.nx, ρ') ∧ I (k + xs.length) ρ'
  | [], k, ρ, h, _ => ⟨ρ, rfl, h⟩
  | x :: xs, k, ρ, h, hs => by
    obtain ⟨ρ1, ρ2, e1, e2, h2⟩ := hs 0 x ρ rfl h
    obtain ⟨ρ', e3, h3⟩ := loop_inv I xs (k + 1) ρ2 h2 (fun i y ρ hy hi => by
      have := hs (i + 1) y ρ (by simpa using hy) (by rw [show k + (i + 1) = k + 1 + i by omega]; exact hi)
      rw [show k + 1 + i + 1 = k + (i + 1) + 1 by omega]
      exact this)
    refine ⟨ρ', ?_, by rw [List.length_cons, show k + (xs.length + 1) = k + 1 + xs.length by omega]; exact h3⟩
    unfold mLoop
    rw [e1]
    rcases e2 with e2 | e2 <;> (simp only [e2, bind_ok]; exact e3)
theorem loop_rng {g : MG} {b : MS} {lo c : Int} {n : Nat} {ρ : Env} (I : Nat → Env → Prop) (h0 : I 0 ρ) (hs : ∀ i ρ, i < n → I i ρ → ∃ ρ1 ρ2, g (.int (lo + (i : Nat) * c)) ρ = some ρ1 ∧ (b ρ1 = .ok (.nx, ρ2) ∨ b ρ1 = .ok (.ct, ρ2)) ∧ I (i + 1) ρ2) :
    ∃ ρ', mLoop g b (rngM lo c n) ρ = .ok (.nx, ρ') ∧ I n ρ' := by
  obtain ⟨ρ', e, h⟩ := loop_inv I (rngM lo c n) 0 ρ h0 fun i x ρ hx hi => by
    have li := lt_get hx
    rw [rngM_len] at li
    rw [rngM_get li] at hx
    cases hx
    have := hs i ρ li (by simpa using hi)
    simpa using this
  rw [rngM_len, Nat.zero_add] at h
  exact ⟨ρ', e, h⟩
theorem loop_nxr {g : MG} {b : MS} {lo c : Int} {n : Nat} {ρ : Env} (I : Nat → Env → Prop) (h0 : I 0 ρ) (hs : ∀ i ρ, i < n → I i ρ → ∃ ρ1, g (.int (lo + (i : Nat) * c)) ρ = some ρ1 ∧ ∃ ρ2, b ρ1 = .ok (.nx, ρ2) ∧ I (i + 1) ρ2) :
    ∃ ρ', mLoop g b (rngM lo c n) ρ = .ok (.nx, ρ') ∧ I n ρ' := by
  refine loop_rng I h0 fun i ρ hi h => ?_
  obtain ⟨ρ1, e, ρ2, e2, h⟩ := hs i ρ hi h
  exact ⟨ρ1, ρ2, e, .inl e2, h⟩
def okD : Nat → MV → Bool
  | _, .non => true
  | _, .bl _ => true
  | _, .int _ => true
  | _, .str x => (PyData.str x).canLay0
  | n + 1, .tup xs => xs.all (okD n)
  | n + 1, .lst xs => xs.all (okD n)
  | _, _ => false
theorem okDs_to {n : Nat} (ih : ∀ x, okD n x = true → ∃ d, toD x = some d ∧ d.canLay0 = true ∧ d.depth ≤ n) : ∀ xs : List MV, xs.all (okD n) = true → ∃ ds, toDs xs = some ds ∧ PyData.canLayAll0 ds = true ∧ PyData.depthAll ds ≤ n
  | [], _ => ⟨[], rfl, by simp [PyData.canLayAll0], by simp [PyData.depthAll]⟩
  | x :: xs, h => by
    simp only [List.all_cons, Bool.and_eq_true] at h
    obtain ⟨d, e, c, p⟩ := ih x h.1
    obtain ⟨ds, es, cs, ps⟩ := okDs_to ih xs h.2
    refine ⟨d :: ds, by simp [toDs, e, es], by simp [PyData.canLayAll0, c, cs], by simp only [PyData.depthAll]; omega⟩
theorem okD_to : ∀ (n : Nat) (x : MV), okD n x = true → ∃ d, toD x = some d ∧ d.canLay0 = true ∧ d.depth ≤ n
  | n, .non, _ => ⟨_, rfl, rfl, by simp [PyData.depth]⟩
  | n, .bl _, _ => ⟨_, rfl, rfl, by simp [PyData.depth]⟩
  | n, .int _, _ => ⟨_, rfl, rfl, by simp [PyData.depth]⟩
  | n, .str x, h => ⟨.str x, rfl, by cases n <;> exact h, by simp [PyData.depth]⟩
  | 0, .tup _, h => by simp [okD] at h
  | 0, .lst _, h => by simp [okD] at h
  | n + 1, .tup xs, h => by
    obtain ⟨ds, e, c, p⟩ := okDs_to (okD_to n) xs h
    exact ⟨.tuple ds, by simp [toD, e], by simpa [PyData.canLay0] using c, by simp only [PyData.depth]; omega⟩
  | n + 1, .lst xs, h => by
    obtain ⟨ds, e, c, p⟩ := okDs_to (okD_to n) xs h
    exact ⟨.list ds, by simp [toD, e], by simpa [PyData.canLay0] using c, by simp only [PyData.depth]; omega⟩
  | n, .own _, h => by cases n <;> simp [okD] at h
  | n, .raw _, h => by cases n <;> simp [okD] at h
  | n, .scr _, h => by cases n <;> simp [okD] at h
  | n, .fnc _, h => by cases n <;> simp [okD] at h
  | n, .obj _ _, h => by cases n <;> simp [okD] at h
theorem eqM_self {n : Nat} {x : MV} (hn : n ≤ 64) (h : okD n x = true) : eqM x x = some true := by
  unfold eqM
  by_cases hs : scalM x x = true
  · rw [if_pos hs]
    cases x <;> simp_all [scalM, sameM]
  · rw [if_neg hs]
    obtain ⟨d, e, c, p⟩ := okD_to n x h
    have hd : SeqAt.shaped d = true := by
      unfold SeqAt.shaped
      rw [c]
      simp
      omega
    rw [e]
    simp only [hd, Bool.and_self, if_true]
    rw [SeqAt.eqv_refl d c]
@[simp] theorem fEq_tt {xs : List MV} (h : xs.all (okD 20) = true) : fEq (.tup xs) (.tup xs) = some (.bl true) := by unfold fEq; rw [eqM_self (n := 21) (by decide) (x := .tup xs) h]; rfl
@[simp] theorem fNe_tt {xs : List MV} (h : xs.all (okD 20) = true) : fNe (.tup xs) (.tup xs) = some (.bl false) := by unfold fNe; rw [eqM_self (n := 21) (by decide) (x := .tup xs) h]; rfl
@[simp] theorem fEq_lle {xs : List MV} (h : xs.all (okD 20) = true) : fEq (.lst xs) (.lst xs) = some (.bl true) := by unfold fEq; rw [eqM_self (n := 21) (by decide) (x := .lst xs) h]; rfl
@[simp] theorem fNe_lle {xs : List MV} (h : xs.all (okD 20) = true) : fNe (.lst xs) (.lst xs) = some (.bl false) := by unfold fNe; rw [eqM_self (n := 21) (by decide) (x := .lst xs) h]; rfl
@[simp] theorem okD_i {n : Nat} {i : Int} : okD n (.int i) = true := by cases n <;> rfl
@[simp] theorem okD_b {n : Nat} {i : Bool} : okD n (.bl i) = true := by cases n <;> rfl
@[simp] theorem okD_n {n : Nat} : okD n .non = true := by cases n <;> rfl
@[simp] theorem fSl_t {xs : List MV} {lo hi : Option Int} : fSl (.tup xs) lo hi = some (.tup (cutM xs lo hi)) := nr rfl
@[simp] theorem fSl_l {xs : List MV} {lo hi : Option Int} : fSl (.lst xs) lo hi = some (.lst (cutM xs lo hi)) := nr rfl
@[simp] theorem cutM_none {xs : List MV} : cutM xs none none = xs := by simp [cutM, HT.sIx]
theorem cutM_to {xs : List MV} {k : Int} (h : 0 ≤ k) : cutM xs none (some k) = xs.take k.toNat := by
  simp [cutM, HT.sIx, show ¬ k < 0 by omega, List.take_eq_take_min]
theorem cutM_from {xs : List MV} {k : Int} (h : 0 ≤ k) : cutM xs (some k) none = xs.drop k.toNat := by
  simp [cutM, HT.sIx, show ¬ k < 0 by omega]
  by_cases e : k.toNat ≤ xs.length
  · rw [Nat.min_eq_left e, List.take_of_length_le (by simp)]
  · rw [Nat.min_eq_right (by omega), List.drop_of_length_le (by omega), List.drop_of_length_le (by omega)]; simp
end Tm
set_option Elab.async false
set_option linter.all false
set_option maxRecDepth 100000
set_option maxHeartbeats 2000000
namespace Tm
open PySem L2
theorem mFn_ok {n : Nat} {m : MS} {xs : List MV} {v : MV} (h : ∃ ρ, m (xs.map some ++ List.replicate (n - xs.length) none) = .ok (.rt v, ρ)) : mFn n [] m xs = .ok (v, []) := by
  obtain ⟨ρ, h⟩ := h
  unfold mFn; rw [h]; rfl
theorem fmod_lt' {a b : Int} (h : 0 < b) : a.fmod b < b := Int.fmod_lt_of_pos a h
theorem fmod_ge' {a b : Int} (h : 0 < b) : 0 ≤ a.fmod b := Int.fmod_nonneg_of_pos a h
theorem nat_fmod (a b : Nat) : (a : Int).fmod (b : Int) = ((a % b : Nat) : Int) := by rw [Int.fmod_eq_emod_of_nonneg _ (Int.natCast_nonneg b)]; exact (Int.natCast_emod a b).symm
theorem nat_fdiv (a b : Nat) : (a : Int).fdiv (b : Int) = ((a / b : Nat) : Int) := by rw [Int.fdiv_eq_ediv_of_nonneg _ (Int.natCast_nonneg b)]; exact (Int.natCast_ediv a b).symm
theorem back_wipe : ∀ (vs : List Nat) (ρ ρ' : Env), ρ.length = ρ'.length → (∀ j, j ∉ vs → ρ'[j]? = ρ[j]?) → backM ρ ρ' vs = ρ := by
  have key : ∀ (vs : List Nat) (ρ ρ' : Env) (j : Nat), ρ.length = ρ'.length → (backM ρ ρ' vs)[j]? = if j ∈ vs then ρ[j]? else ρ'[j]? := by
    intro vs
    induction vs with
    | nil => intro ρ ρ' j hl; simp [backM]
    | cons v vs ih =>
      intro ρ ρ' j hl
      show (backM ρ (ρ'.set v ((ρ[v]?).join)) vs)[j]? = _
      rw [ih ρ _ j (by simp [hl])]
      by_cases e : j ∈ vs
      · simp [e]
      · by_cases e2 : j = v
        · subst e2
          by_cases hlt : j < ρ'.length
          · simp [e, List.getElem?_set_self hlt, show j < ρ.length by omega]
          · simp [e, List.getElem?_eq_none (show ρ'.length ≤ j by omega), List.getElem?_eq_none (show ρ.length ≤ j by omega)]
            omega
        · simp [e, e2, List.getElem?_set_ne (Ne.symm e2)]
  intro vs ρ ρ' hl h
  apply List.ext_getElem?
  intro j
  rw [key vs ρ ρ' j hl]
  by_cases e : j ∈ vs
  · simp [e]
  · simp [e, h j e]
theorem wipe_other {ρ ρ' : Env} {vs : List Nat} (hl : ρ.length = ρ'.length) (h : wipeM ρ' vs = wipeM ρ vs) : ∀ j, j ∉ vs → ρ'[j]? = ρ[j]? := by
  intro j hj
  have h1 := wipeM_get ρ vs j
  have h2 := wipeM_get ρ' vs j
  rw [if_neg (by simp [hj])] at h1 h2
  rw [← h1, ← h2, h]
theorem lc_map {g : Tgt} {e : ME} {vs : List Nat} {W : Env} (y : MV → MV) : ∀ (xs acc : List MV) (ρ : Env), (∀ x ∈ xs, ∃ ρ1, setT g x W = some ρ1 ∧ e ρ1 = .ok (y x, ρ1) ∧ wipeM ρ1 vs = W ∧ ρ1.length = W.length) → wipeM ρ vs = W → ρ.length = W.length → acc.length + xs.length ≤ sizeLine →
    ∃ ρ', mLcLoop g mYes e vs xs acc ρ = .ok (acc ++ xs.map y, ρ') ∧ wipeM ρ' vs = W ∧ ρ'.length = W.length
  | [], acc, ρ, _, hw, hl, _ => ⟨ρ, by simp [mLcLoop], hw, hl⟩
  | x :: xs, acc, ρ, h, hw, hl, hz => by
    obtain ⟨ρ1, e1, e2, e3, e4⟩ := h x (List.mem_cons_self ..)
    rw [List.length_cons] at hz
    obtain ⟨ρ', r1, r2, r3⟩ := lc_map (g := g) (e := e) (vs := vs) y xs (acc ++ [y x]) ρ1 (fun z hz => h z (List.mem_cons_of_mem _ hz)) e3 e4 (by rw [List.length_append, List.length_singleton]; omega)
    refine ⟨ρ', ?_, r2, r3⟩
    unfold mLcLoop
    rw [hw, e1]
    simp only [mYes, b0_ok, if_true, e2]
    rw [if_pos ⟨by omega, by rw [e4, hl]⟩, r1]
    simp
theorem mLcO_map {it : MI} {g : Tgt} {e : ME} {vs : List Nat} {ρ ρ1 : Env} {xs : List MV} (y : MV → MV) (hi : it ρ = .ok (xs, ρ1)) (hp : perAt ρ1 vs = true) (hx : ∀ x ∈ xs, ∃ ρ2, setT g x (wipeM ρ1 vs) = some ρ2 ∧ e ρ2 = .ok (y x, ρ2) ∧ wipeM ρ2 vs = wipeM ρ1 vs ∧ ρ2.length = ρ1.length) (hz : xs.length ≤ sizeLine) :
    mLcO it g mYes e vs ρ = .ok (.own (xs.map y), ρ1) := by
  obtain ⟨ρ', r1, r2, r3⟩ := lc_map (g := g) (e := e) (vs := vs) (W := wipeM ρ1 vs) y xs [] ρ1 (fun x h => by
    obtain ⟨ρ2, a, b, c, d⟩ := hx x h
    exact ⟨ρ2, a, b, c, by rw [d, wipeM_len]⟩) rfl (wipeM_len ..).symm (by simpa using hz)
  unfold mLcO
  rw [hi, bind_ok, if_pos hp, r1]
  simp only [b0_ok, List.nil_append]
  rw [back_wipe vs ρ1 ρ' (by rw [r3, wipeM_len]) (wipe_other (by rw [r3, wipeM_len]) r2)]
end Tm
set_option Elab.async false
set_option linter.all false
set_option maxRecDepth 100000
set_option maxHeartbeats 2000000
namespace Tm
open PySem L2
section
variable {α β : Type} {ρ : Env} {r : Option MV} {x f g y : Str} {a b : ME}
@[simp] theorem mRaise1_ap : mRaise1 x f a (r :: ρ) = (a (r :: ρ)).bind fun y ρ1 => .exc ⟨x, [(f, y)]⟩ ρ1 := nr rfl
def tryM (i : Nat) (tab : List (Str × Bool)) (mh : MX → MS) (q : Res (Fl × Env)) : Res (Fl × Env) := match q with
  | .ok r => .ok r
  | .stuck => .stuck
  | .exc e ρ1 => match tab.lookup e.cls with
    | some true => if decide (i < ρ1.length) && e.fs.all (fun p => flatM p.2) then (match mh e (ρ1.set i none) with
      | .ok (.rt v, ρ2) => .ok (.rt v, ρ2)
      | .ok (f, ρ2) => .ok (f, ρ2.set i none)
      | _ => .stuck) else .stuck
    | some false => .exc e ρ1
    | none => .stuck
def endM (i : Nat) (q : Res (Fl × Env)) : Res (Fl × Env) := match q with
  | .ok (.rt v, ρ2) => .ok (.rt v, ρ2)
  | .ok (f, ρ2) => .ok (f, ρ2.set i none)
  | _ => .stuck
variable {i : Nat} {tab : List (Str × Bool)} {mb : MS} {mh : MX → MS} {e : MX} {q : Fl × Env}
@[simp] theorem mTry_ap : mTry i tab mb mh (r :: ρ) = tryM i tab mh (mb (r :: ρ)) := nr rfl
@[simp] theorem tryM_ok : tryM i tab mh (.ok q) = .ok q := nr rfl
@[simp] theorem tryM_exc (h : tab.lookup e.cls = some true) (h2 : i < ρ.length) (h3 : e.fs.all (fun p => flatM p.2) = true) : tryM i tab mh (.exc e ρ) = endM i (mh e (ρ.set i none)) := by
  unfold tryM
  simp only [h, h2, h3, decide_true, Bool.and_self, if_true]
  rfl
@[simp] theorem endM_nx : endM i (.ok (.nx, ρ)) = .ok (.nx, ρ.set i none) := nr rfl
@[simp] theorem endM_br : endM i (.ok (.br, ρ)) = .ok (.br, ρ.set i none) := nr rfl
@[simp] theorem endM_ct : endM i (.ok (.ct, ρ)) = .ok (.ct, ρ.set i none) := nr rfl
@[simp] theorem endM_rt {v : MV} : endM i (.ok (.rt v, ρ)) = .ok (.rt v, ρ) := nr rfl
@[simp] theorem mExF_ap : mExF e f (r :: ρ) = match e.fs.lookup f with | some x => .ok (x, r :: ρ) | none => .stuck := nr rfl
@[simp] theorem mExIs_ap : mExIs e tab (r :: ρ) = match tab.lookup e.cls with | some b => .ok (.bl b, r :: ρ) | none => .stuck := nr rfl
theorem mFn_exc {n : Nat} {m : MS} {xs : List MV} {e : MX} (h : ∃ ρ, m (xs.map some ++ List.replicate (n - xs.length) none) = .exc e ρ) : mFn n [] m xs = .exc e [] := by
  obtain ⟨ρ, h⟩ := h
  unfold mFn; rw [h]; rfl
end
section
variable {i : Int} {b b' : Bool} {x y : Str}
@[simp] theorem fEq_nn : fEq .non .non = some (.bl true) := nr rfl
@[simp] theorem fNe_nn : fNe .non .non = some (.bl false) := nr rfl
@[simp] theorem fEq_ni : fEq .non (.int i) = some (.bl false) := nr rfl
@[simp] theorem fEq_in : fEq (.int i) .non = some (.bl false) := nr rfl
@[simp] theorem fNe_ni : fNe .non (.int i) = some (.bl true) := nr rfl
@[simp] theorem fNe_in : fNe (.int i) .non = some (.bl true) := nr rfl
@[simp] theorem fEq_ns : fEq .non (.str x) = some (.bl false) := nr rfl
@[simp] theorem fEq_sn : fEq (.str x) .non = some (.bl false) := nr rfl
@[simp] theorem fNe_ns : fNe .non (.str x) = some (.bl true) := nr rfl
@[simp] theorem fNe_sn : fNe (.str x) .non = some (.bl true) := nr rfl
@[simp] theorem fEq_bb : fEq (.bl b) (.bl b') = some (.bl (decide (b = b'))) := nr rfl
@[simp] theorem fNe_bb : fNe (.bl b) (.bl b') = some (.bl (!decide (b = b'))) := nr rfl
@[simp] theorem fEq_is : fEq (.int i) (.str x) = some (.bl false) := nr rfl
@[simp] theorem fEq_si : fEq (.str x) (.int i) = some (.bl false) := nr rfl
@[simp] theorem fNotN_n : fNotN .non .non = some (.bl false) := nr rfl
@[simp] theorem fNotN_i : fNotN (.int i) .non = some (.bl true) := nr rfl
@[simp] theorem fNotN_s : fNotN (.str x) .non = some (.bl true) := nr rfl
@[simp] theorem fNotN_t {xs : List MV} : fNotN (.tup xs) .non = some (.bl true) := nr rfl
@[simp] theorem fNotN_b : fNotN (.bl b) .non = some (.bl true) := nr rfl
end
@[simp] theorem fIx_s {z : Str} {i : Int} : fIx (.str z) (.int i) = if szOk z.length then (atI z.cps.toList i).map fun c => MV.str ⟨#[c]⟩ else none := nr rfl
@[simp] theorem fSl_s {z : Str} {lo hi : Option Int} : fSl (.str z) lo hi = if szOk z.length then some (.str (cutS z lo hi)) else none := nr rfl
@[simp] theorem bLen_s {z : Str} : bLen [.str z] = if szOk z.length then some (.int z.length) else none := nr rfl
theorem fMul_l {a : List MV} {k : Int} (h : 0 ≤ k) (h2 : k < 2 ^ 63) (h3 : szOk (a.length * k.toNat) = true) : fMul (.lst a) (.int k) = some (.lst (List.replicate k.toNat a).flatten) := by
  show (if (decide (-(2 ^ 63) ≤ k) && decide (k < 2 ^ 63) && szOk (a.length * k.toNat)) = true then some (MV.lst (List.replicate k.toNat a).flatten) else none) = _
  rw [if_pos]
  simp only [h2, h3, decide_true, Bool.and_true, decide_eq_true_eq]
  omega
theorem rep_one {α : Type} (x : α) (k : Nat) : (List.replicate k [x]).flatten = List.replicate k x := by
  induction k with
  | zero => rfl
  | succ k ih => rw [List.replicate_succ, List.flatten_cons, ih]; rfl
theorem fMul_1 {x : MV} {k : Nat} (h : k < 1000000) : fMul (.lst [x]) (.int (k : Nat)) = some (.lst (List.replicate k x)) := by
  rw [fMul_l (by omega) (by omega) (szOk_small (by simp; omega))]
  show some (MV.lst (List.replicate k [x]).flatten) = _
  rw [rep_one]
@[simp] theorem fMul_10 {x : MV} : fMul (.lst [x]) (.int 0) = some (.lst []) := fMul_1 (k := 0) (by decide)
@[simp] theorem fMul_11 {x : MV} : fMul (.lst [x]) (.int 1) = some (.lst [x]) := fMul_1 (k := 1) (by decide)
@[simp] theorem mOpO_ap {f : MV → MV → Option (List MV)} {a b : ME} {r : Option MV} {ρ : Env} : mOpO f a b (r :: ρ) = (a (r :: ρ)).bind fun x ρ1 => (b ρ1).bind fun y ρ2 => match f x y with | some zs => .ok (.own zs, ρ2) | none => .stuck := nr rfl
@[simp] theorem fAddL_ll {a b : List MV} : fAddL (.lst a) (.lst b) = if szOk (a.length + b.length) then some (a ++ b) else none := nr rfl
end Tm
set_option Elab.async false
set_option linter.all false
set_option maxRecDepth 100000
set_option maxHeartbeats 2000000
namespace Tm
open PySem L2
theorem lc_filt {g : Tgt} {t : MT} {e : ME} {vs : List Nat} {W : Env} (p : MV → Bool) (y : MV → MV) : ∀ (xs acc : List MV) (ρ : Env), (∀ x ∈ xs, ∃ ρ1, setT g x W = some ρ1 ∧ t ρ1 = .ok (p x, ρ1) ∧ (p x = true → e ρ1 = .ok (y x, ρ1)) ∧ wipeM ρ1 vs = W ∧ ρ1.length = W.length) → wipeM ρ vs = W → ρ.length = W.length → acc.length + xs.length ≤ sizeLine →
    ∃ ρ', mLcLoop g t e vs xs acc ρ = .ok (acc ++ (xs.filter p).map y, ρ') ∧ wipeM ρ' vs = W ∧ ρ'.length = W.length
  | [], acc, ρ, _, hw, hl, _ => ⟨ρ, by simp [mLcLoop], hw, hl⟩
  | x :: xs, acc, ρ, h, hw, hl, hz => by
    obtain ⟨ρ1, e1, et, e2, e3, e4⟩ := h x (List.mem_cons_self ..)
    rw [List.length_cons] at hz
    cases hp : p x with
    | true =>
      obtain ⟨ρ', r1, r2, r3⟩ := lc_filt (g := g) (t := t) (e := e) (vs := vs) p y xs (acc ++ [y x]) ρ1 (fun z hz => h z (List.mem_cons_of_mem _ hz)) e3 e4 (by rw [List.length_append, List.length_singleton]; omega)
      refine ⟨ρ', ?_, r2, r3⟩
      unfold mLcLoop
      rw [hw, e1]
      simp only [et, hp, b0_ok, if_true, e2 hp]
      rw [if_pos ⟨by omega, by rw [e4, hl]⟩, r1, List.filter_cons_of_pos hp]
      simp
    | false =>
      obtain ⟨ρ', r1, r2, r3⟩ := lc_filt (g := g) (t := t) (e := e) (vs := vs) p y xs acc ρ1 (fun z hz => h z (List.mem_cons_of_mem _ hz)) e3 e4 (by omega)
      refine ⟨ρ', ?_, r2, r3⟩
      unfold mLcLoop
      rw [hw, e1]
      simp only [et, hp, b0_ok, Bool.false_eq_true, if_false]
      rw [if_pos (by rw [e4, hl]), r1, List.filter_cons_of_neg (by simp [hp])]
theorem mLcO_filt {it : MI} {g : Tgt} {t : MT} {e : ME} {vs : List Nat} {ρ ρ1 : Env} {xs : List MV} (p : MV → Bool) (y : MV → MV) (hi : it ρ = .ok (xs, ρ1)) (hp : perAt ρ1 vs = true) (hx : ∀ x ∈ xs, ∃ ρ2, setT g x (wipeM ρ1 vs) = some ρ2 ∧ t ρ2 = .ok (p x, ρ2) ∧ (p x = true → e ρ2 = .ok (y x, ρ2)) ∧ wipeM ρ2 vs = wipeM ρ1 vs ∧ ρ2.length = ρ1.length) (hz : xs.length ≤ sizeLine) :
    mLcO it g t e vs ρ = .ok (.own ((xs.filter p).map y), ρ1) := by
  obtain ⟨ρ', r1, r2, r3⟩ := lc_filt (g := g) (t := t) (e := e) (vs := vs) (W := wipeM ρ1 vs) p y xs [] ρ1 (fun x h => by
    obtain ⟨ρ2, a, b, c, d, f⟩ := hx x h
    exact ⟨ρ2, a, b, c, d, by rw [f, wipeM_len]⟩) rfl (wipeM_len ..).symm (by simpa using hz)
  unfold mLcO
  rw [hi, bind_ok, if_pos hp, r1]
  simp only [b0_ok, List.nil_append]
  rw [back_wipe vs ρ1 ρ' (by rw [r3, wipeM_len]) (wipe_other (by rw [r3, wipeM_len]) r2)]
theorem set_none {ρ : Env} {v : Nat} (hv : ρ[v]? = some none) : ρ.set v none = ρ := by
  apply List.ext_getElem?
  intro j
  by_cases e : v = j
  · subst e; rw [List.getElem?_set_self (lt_get hv), hv]
  · rw [List.getElem?_set_ne e]
theorem mLcO_nmf {it : MI} {t : MT} {e : ME} {v : Nat} {ρ : Env} {xs : List MV} (p : MV → Bool) (y : MV → MV) (hi : it ρ = .ok (xs, ρ)) (hv : ρ[v]? = some none) (ht : ∀ x ∈ xs, t (ρ.set v (some x)) = .ok (p x, ρ.set v (some x))) (he : ∀ x ∈ xs, p x = true → e (ρ.set v (some x)) = .ok (y x, ρ.set v (some x))) (hz : xs.length ≤ sizeLine) :
    mLcO it (.nm v) t e [v] ρ = .ok (.own ((xs.filter p).map y), ρ) := by
  have lv := lt_get hv
  have w : wipeM ρ [v] = ρ := set_none hv
  refine mLcO_filt p y hi (by simp [perAt, hv]) (fun x hx => ?_) hz
  rw [w]
  refine ⟨ρ.set v (some x), by simp [setT, lv], ht x hx, he x hx, ?_, by simp⟩
  show (ρ.set v (some x)).set v none = ρ
  rw [List.set_set]
  exact w
theorem mLcO_nm {it : MI} {e : ME} {v : Nat} {ρ : Env} {xs : List MV} (y : MV → MV) (hi : it ρ = .ok (xs, ρ)) (hv : ρ[v]? = some none) (he : ∀ x ∈ xs, e (ρ.set v (some x)) = .ok (y x, ρ.set v (some x))) (hz : xs.length ≤ sizeLine) :
    mLcO it (.nm v) mYes e [v] ρ = .ok (.own (xs.map y), ρ) := by
  have := mLcO_nmf (t := mYes) (fun _ => true) y hi hv (fun _ _ => rfl) (fun x hx _ => he x hx) hz
  rwa [List.filter_eq_self.mpr (fun _ _ => rfl)] at this
section
variable {α β : Type} {a b : ME} {m : MA} {ρ : Env} {r : Option MV}
@[simp] theorem mSm_ap {f : Str → List MV → Option MV} : mSm f a m (r :: ρ) = (a (r :: ρ)).bind fun x ρ1 => match x with | .str z => (m ρ1).bind (smE f z) | _ => .stuck := nr rfl
end
@[simp] theorem mLenV_ap : mLenV i (r :: ρ) = match lenV (r :: ρ) i with | some z => .ok (z, r :: ρ) | none => .stuck := nr rfl
@[simp] theorem lenV_get {ρ : Env} : lenV ρ i = match ρ[i]? with | some (some (.own xs)) => some (.int xs.length) | some (some x) => bLen [x] | _ => none := nr rfl
@[simp] theorem fMul_s {a : Str} {k : Int} : fMul (.str a) (.int k) = if decide (-(2 ^ 63) ≤ k) && decide (k < 2 ^ 63) && szOk (a.length * k.toNat) then some (.str (repS a k)) else none := nr rfl
theorem fMul_tup {a : List MV} {k : Int} : fMul (.tup a) (.int k) = if (decide (-(2 ^ 63) ≤ k) && decide (k < 2 ^ 63) && (decide (k = 1) || a.isEmpty || (decide (2 ≤ k) && decide (k ≤ 1000) && decide (a.length ≤ 1000)))) = true then some (.tup (List.replicate k.toNat a).flatten) else none := rfl
@[simp] theorem fMul_t1 {a : List MV} : fMul (.tup a) (.int 1) = some (.tup a) := by
  rw [fMul_tup, if_pos (by simp)]
  simp
end Tm
set_option Elab.async false
set_option linter.all false
set_option maxRecDepth 100000
set_option maxHeartbeats 2000000
namespace Tm
open PySem L2
section
variable {ρ : Env} {r : Option MV}
@[simp] theorem mCallB_ap {f : MF} {a : MB} : mCallB f a (r :: ρ) = (a (r :: ρ)).bind (cbE f) := nr rfl
@[simp] theorem mCallB0_ap {f : MF} {a : MB} : mCallB0 f a (r :: ρ) = (a (r :: ρ)).bind (cbE0 f) := nr rfl
@[simp] theorem cbE_ap {f : MF} {args : List BA} : cbE f args (r :: ρ) = match fill args (r :: ρ) with
  | some xs => (match f xs with | .ok (v, os) => .ok (v, back (r :: ρ) (idxB args) os) | .exc e os => .exc e (back (r :: ρ) (idxB args) os) | .stuck => .stuck)
  | none => .stuck := nr rfl
@[simp] theorem cbE0_ap {f : MF} {args : List BA} : cbE0 f args (r :: ρ) = match fill args (r :: ρ) with
  | some xs => (match f xs with | .ok (v, os) => .ok (v, back (r :: ρ) (idxB args) os) | _ => .stuck)
  | none => .stuck := nr rfl
@[simp] theorem mbNil_ap : mbNil (r :: ρ) = .ok ([], r :: ρ) := nr rfl
@[simp] theorem mbV_ap {a : ME} {b : MB} : mbV a b (r :: ρ) = (a (r :: ρ)).bind fun x ρ1 => (b ρ1).bind fun xs ρ2 => .ok (.v x :: xs, ρ2) := nr rfl
@[simp] theorem mbB_ap {i : Nat} {b : MB} : mbB i b (r :: ρ) = if has (r :: ρ) i then (b (r :: ρ)).bind fun xs ρ2 => .ok (.b i :: xs, ρ2) else .stuck := nr rfl
@[simp] theorem mbO_ap {C m : Str} {i : Nat} {b : MB} : mbO C m i b (r :: ρ) = match objAt (r :: ρ) i C with
  | some fs => if (fs.lookup m).isNone then (b (r :: ρ)).bind fun xs ρ2 => .ok (.b i :: xs, ρ2) else .stuck
  | none => .stuck := nr rfl
@[simp] theorem fill_nil {ρ : Env} : fill [] ρ = some [] := nr rfl
@[simp] theorem fill_v {ρ : Env} {x : MV} {s : List BA} : fill (.v x :: s) ρ = match fill s ρ with | some xs => some (x :: xs) | none => none := nr rfl
@[simp] theorem fill_b {ρ : Env} {i : Nat} {s : List BA} : fill (.b i :: s) ρ = match ρ[i]?, fill s ρ with | some (some x), some xs => if x.held then some (x :: xs) else none | _, _ => none := nr rfl
@[simp] theorem idxB_nil : idxB [] = [] := nr rfl
@[simp] theorem idxB_v {x : MV} {s : List BA} : idxB (.v x :: s) = idxB s := nr rfl
@[simp] theorem idxB_b {i : Nat} {s : List BA} : idxB (.b i :: s) = i :: idxB s := nr rfl
@[simp] theorem back_nil {ρ os : Env} : back ρ [] os = ρ := nr rfl
@[simp] theorem back_cons {ρ os : Env} {i : Nat} {is : List Nat} {o : Option MV} : back ρ (i :: is) (o :: os) = back (ρ.set i o) is os := nr rfl
@[simp] theorem held_own {xs : List MV} : (MV.own xs).held = true := nr rfl
@[simp] theorem held_obj {C : Str} {fs : List (Str × MV)} : (MV.obj C fs).held = true := nr rfl
theorem objAt_get {ρ : Env} {i : Nat} {C : Str} {fs : List (Str × MV)} (h : ρ[i]? = some (some (.obj C fs))) : objAt ρ i C = some fs := by
  unfold objAt; rw [h]; exact if_pos rfl
@[simp] theorem mFldSet_ap {C f : Str} {i : Nat} {a : ME} : mFldSet C i f a (r :: ρ) = (a (r :: ρ)).bind (fldSet C i f) := nr rfl
end
theorem mFn_rtB {n : Nat} {bs : List Nat} {m : MS} {xs : List MV} {v : MV} {os : Env} (h : ∃ ρ, m (xs.map some ++ List.replicate (n - xs.length) none) = .ok (.rt v, ρ) ∧ endOf bs ρ = os) : mFn n bs m xs = .ok (v, os) := by
  obtain ⟨ρ, h, rfl⟩ := h
  show (match m (xs.map some ++ List.replicate (n - xs.length) none) with | .ok (.rt v, ρ) => _ | .ok (.nx, ρ) => _ | .exc e ρ => _ | _ => _) = _
  rw [h]
theorem mFn_nxB {n : Nat} {bs : List Nat} {m : MS} {xs : List MV} {os : Env} (h : ∃ ρ, m (xs.map some ++ List.replicate (n - xs.length) none) = .ok (.nx, ρ) ∧ endOf bs ρ = os) : mFn n bs m xs = .ok (.non, os) := by
  obtain ⟨ρ, h, rfl⟩ := h
  show (match m (xs.map some ++ List.replicate (n - xs.length) none) with | .ok (.rt v, ρ) => _ | .ok (.nx, ρ) => _ | .exc e ρ => _ | _ => _) = _
  rw [h]
theorem char_list_inj : ∀ {a b : List Char}, a.map Char.toNat = b.map Char.toNat → a = b
  | [], [], _ => rfl
  | [], _ :: _, h => by simp at h
  | _ :: _, [], h => by simp at h
  | c :: a, d :: b, h => by
    simp only [List.map_cons, List.cons.injEq] at h
    have e : c = d := by rw [← Char.ofNat_toNat c, ← Char.ofNat_toNat d, h.1]
    rw [e, char_list_inj h.2]
@[simp] theorem str_inj {a b : String} : (Str.ofString a = Str.ofString b) = (a = b) := by
  refine propext ⟨fun h => ?_, fun h => by rw [h]⟩
  rw [Str.ofString_eq_toList, Str.ofString_eq_toList] at h
  have h2 := congrArg (fun z : Str => z.cps.toList) h
  simp only at h2
  exact String.toList_inj.mp (char_list_inj h2)
end Tm
set_option Elab.async false
set_option linter.all false
set_option maxRecDepth 100000
set_option maxHeartbeats 2000000
namespace Tm
open PySem L2 PySem.Spec PyProof.Rows HotX
section
variable {prog : Program} {w : World} {A : Around} {E : Value → Shared → Prop} {s : Shared}
theorem hot_two {h : Heap} {x1 it : Addr} {o1 o : Obj} {vs1 : Array Value} {a b : Value} (h1 : h.get? x1 = some o1) (d1 : o1.data = .fields vs1) (c1 : vs1[2]? = some .none) (ho : h.get? it = some o) (hd : o.data = .fields #[a, b]) : it ≠ x1 := fun z => by
  rw [z, h1] at ho
  cases ho
  rw [d1] at hd
  cases hd
  simp at c1
theorem stop_hot {it x1 : Addr} {f : Obj → Obj} {R : Fin → Shared → Prop} {Q : Option Value → Shared → Prop} (hot : HotAt A x1 s.heap) (ne : it ≠ x1) (hQ : ∀ h', Heap.ExtBut it s.heap h' → Q none { s with heap := h' }) :
    wpAny (model prog w) A.in1 Builtin.SmallTypes.stopIteration R (fun e s' => wpAny (model prog w) A (do
      let b ← isInstance e (Value.type "StopIteration")
      if b = true then pure none else throw e) Q E s') { s with heap := s.heap.update it f } := by
  obtain ⟨hh, o1, vs1, h1, d1, c1⟩ := hot
  have h2 : (s.heap.update it f).get? x1 = some o1 := (Heap.get?_update_other _ f ne).trans h1
  show wpAny _ _ (newExc (.type "StopIteration") [] >>= _) _ _ _
  refine wpAny_bind ?_
  simp only [newExc, newTuple]
  refine wpAny_bind (wpAny_newObj_type ?_ (by size_fits))
  refine wpAny_bind (m := firstArgMember _ _) (wpAny_of_eq (a := Value.none) (by first | rfl | (simp only [firstArgMember]; rfl)) ?_)
  refine wpAny_newObj_type ?_ (by size_fits)
  have p2 := fun (o o' : Obj) => Heap.get?_push_of_some o' (Heap.get?_push_of_some o h2)
  refine raiseNew_hot ⟨hh, o1, vs1, p2 _ _, d1, c1⟩ (Nat.ne_of_lt (Heap.lt_size (Heap.get?_push_of_some _ h2))) (Heap.get?_push_size _ rfl) rfl (by first | (simp; done) | (simp; omega)) ?_
  refine wpAny_bind (wpAny_isInstance (T := "StopIteration") (b := true) ⟨_, Heap.get?_update_self _ (Heap.get?_push_size _ rfl) rfl, rfl⟩ isSubtype_stop (wpAny_pure (hQ _ fun b o hb e => ?_)))
  have e1 : (s.heap.update it f).get? b = some o := (Heap.get?_update_other _ f (Ne.symm hb)).trans e
  rw [Heap.get?_update_other _ _ (Nat.ne_of_gt (Heap.lt_size (Heap.get?_push_of_some _ e1)))]
  exact Heap.get?_push_of_some _ (Heap.get?_push_of_some _ e1)
theorem list_end_hot {it l x1 : Addr} {i : Nat} {items : Array Value} {Q : Option Value → Shared → Prop} (hot : HotAt A x1 s.heap) (hit : s.heap.IsListIter it l i) (hl : s.heap.IsList l items) (hx : items[i]? = none)
    (hQ : ∀ h', Heap.ExtBut it s.heap h' → Q none { s with heap := h' }) : wpAny (model prog w) A (pyNext (.ref it)) Q E s := by
  obtain ⟨o, ho, _, hd⟩ := id hit
  obtain ⟨_, h1, _, _, h2⟩ := hl
  have ne : it ≠ x1 := by
    obtain ⟨_, _, _, g1, g2, g3⟩ := id hot
    exact hot_two g1 g2 g3 ho hd
  unfold pyNext
  refine wpAny_bind (wpAny_attempt (wpAny_callSpecial?_slot (name := Str.ofString "__next__") hit.typeIs slot_listiter_next (wpAny_call_entry slot_listiter_next hit.typeIs entry_listiter_next ?_ (args_listiter_next _))))
  show wpAny _ _ (field (.ref it) 0 >>= _) _ _ s
  refine wpAny_bind (wpAny_field ho hd (x := .ref l) rfl ?_)
  show wpAny _ _ (if (Value.ref l == Value.none) = true then _ else _) _ _ s
  rw [if_neg (by exact Bool.false_ne_true)]
  show wpAny _ _ (field (.ref it) 1 >>= _) _ _ s
  refine wpAny_bind (wpAny_field ho hd (x := .int i 0) rfl (wpAny_bind (wpAny_seqItems h1 h2 ?_)))
  simp only [Int.toNat_natCast, hx]
  refine wpAny_bind (wpAny_rule (wpAny_bind (wpAny_setField ho hd (by simp) ?_)))
  exact stop_hot hot ne hQ
theorem tup_end_hot {it t x1 : Addr} {i : Nat} {items : Array Value} {Q : Option Value → Shared → Prop} (hot : HotAt A x1 s.heap) (hit : IsTupIter s.heap it t i) (ht : IsTup s.heap t items) (hx : items[i]? = none)
    (hQ : ∀ h', Heap.ExtBut it s.heap h' → Q none { s with heap := h' }) : wpAny (model prog w) A (pyNext (.ref it)) Q E s := by
  obtain ⟨o, ho, _, hd⟩ := id hit
  obtain ⟨_, h1, _, _, h2⟩ := ht
  have ne : it ≠ x1 := by
    obtain ⟨_, _, _, g1, g2, g3⟩ := id hot
    exact hot_two g1 g2 g3 ho hd
  unfold pyNext
  refine wpAny_bind (wpAny_attempt (wpAny_callSpecial?_slot (name := Str.ofString "__next__") hit.typeIs slot_tupleiter_next (wpAny_call_entry slot_tupleiter_next hit.typeIs entry_tupleiter_next ?_ (args_tupleiter_next _))))
  show wpAny _ _ (field (.ref it) 0 >>= _) _ _ s
  refine wpAny_bind (wpAny_field ho hd (x := .ref t) rfl ?_)
  show wpAny _ _ (if (Value.ref t == Value.none) = true then _ else _) _ _ s
  rw [if_neg (by exact Bool.false_ne_true)]
  show wpAny _ _ (field (.ref it) 1 >>= _) _ _ s
  refine wpAny_bind (wpAny_field ho hd (x := .int i 0) rfl (wpAny_bind (wpAny_seqItems h1 h2 ?_)))
  simp only [Int.toNat_natCast, hx]
  refine wpAny_bind (wpAny_rule (wpAny_bind (wpAny_setField ho hd (by simp) ?_)))
  exact stop_hot hot ne hQ
theorem unpack_hot {env : PySem.Env} {elts : List Expr} {k : Nat} {pos : Pos} {t x1 : Addr} {items : Array Value} {Q : Unit → Shared → Prop} (hot : HotAt A x1 s.heap) (ht : IsTup s.heap t items)
    (hn : (assignEach elts env).length = items.size) (hst : (assignEach elts env).findIdx? (·.1) = none)
    (h : ∀ h', Heap.ExtBut s.heap.objs.size s.heap h' → wpAny (model prog w) A (assignInOrder ((assignEach elts env).map (·.2)) items.toList) Q E { s with heap := h' }) :
    wpAny (model prog w) A (assign (.Tuple elts k pos) env (.ref t)) Q E s := by
  have tne : t ≠ s.heap.objs.size := by
    obtain ⟨_, ho, _⟩ := ht
    exact Nat.ne_of_lt (Heap.lt_size ho)
  rw [assign_Tuple]
  refine wpAny_bind (wpAny_standAt ?_)
  unfold unpack
  rw [hn, hst]
  refine wpAny_bind (wpAny_holding ?_)
  unfold unpackItems notIterableAtAll
  refine wpAny_bind (wpAny_bind (wpAny_specialOf ht.typeIs slot_tuple_iter.lookup (wpAny_pure ?_)))
  simp only [Bool.false_eq_true, if_false]
  refine wpAny_bind (wpAny_holding (iter_tuple ht (wpAny_bind (wpAny_holding (draw_tuple tne items.size 0 _ _ ⟨_, Heap.get?_push_size _ rfl, rfl, rfl⟩ (ht.push _) (by omega) fun h1 it1 sb1 => ?_)))))
  rw [List.drop_zero, List.take_of_length_le (by simp), if_neg (by simp)]
  have old : ∀ b o, s.heap.get? b = some o → h1.get? b = some o := fun b o e => sb1.extBut b o (Nat.ne_of_lt (Heap.lt_size e)) (Heap.get?_push_of_some _ e)
  have hot1 : HotAt A x1 h1 := by
    obtain ⟨g0, o1, vs1, g1, g2, g3⟩ := hot
    exact ⟨g0, o1, vs1, old _ _ g1, g2, g3⟩
  refine wpAny_bind (wpAny_holding (tup_end_hot hot1 it1 ((ht.push _).extBut sb1.extBut tne) (by simp) fun h2 sb2 => ?_))
  simp only [Option.isSome_none, Bool.false_eq_true, if_false]
  exact wpAny_pure (h h2 fun b o hb e => sb2 b o hb (old b o e))
end
def HotS (X : Cx) : Prop := ∀ (pins : List (Addr × Obj)) (σ : L2.St) (H : Hp) (s : Shared), Inv X pins σ H s → ∃ x1, HotAt X.A x1 s.heap
theorem hotS_blk {X : Cx} {pins : List (Addr × Obj)} {σ : L2.St} {H : Hp} {s : Shared} {scope : Scope} {cenv : PySem.Env} {fp : List Addr} (c : L2H.HotC X) (I : Inv X pins σ H s) (hf : ∀ b ∈ fp, ∀ p ∈ X.pn ++ pins, p.1 ≠ b) : HotS (X.blk s H scope cenv fp) := by
  obtain ⟨p, ⟨hh, vs, hd, hc⟩, hp⟩ := c
  have mp : p ∈ X.pn ++ pins := List.mem_append_left _ hp
  intro _ _ _ s' J
  have P := I.pin p mp
  have B : Un (X.blk s H scope cenv fp).fs fp H _ s.heap s'.heap := J.base
  obtain ⟨sl, e⟩ := B.any P.1 P.2.1 fun hm => hf _ hm p mp rfl
  exact ⟨p.1, hh, _, vs, e, hd, hc⟩
section
variable {X : Cx} {pos : Pos}
theorem pg_tupS {es : List Expr} {k n : Nat} {t : TGs} (hc : HotS X) (h : PGs X es t) (hn : (assignEach es X.env).length = n := by rfl) (hst : (assignEach es X.env).findIdx? (·.1) = none := by rfl) : PG X (.Tuple es k pos) (gTup X.K n t) := by
  refine ⟨fun pins s σ H v u Q I r hw => ?_⟩
  obtain ⟨a, xs, rfl, hq, hl, hw⟩ := hw
  cases r
  obtain ⟨its, rv, ht, _⟩ := I.tuple hq
  obtain ⟨x1, hot⟩ := hc _ _ _ _ I
  refine unpack_hot hot ht (by rw [hn, ← hl, rv.length]; simp) hst fun h' old => ?_
  exact h.run pins _ σ H xs _ Q (I.kept (t' := s.toks) fun b o e => old b o (Nat.ne_of_lt (Heap.lt_size e)) e) (by simpa using rv) hw
end
structure TurnS (P : Program) (w : World) (K : PySem.W.Frag) (tg : Expr) (J : It) (it : Addr) (tn : Nat → Heap → Prop) : Prop where
  obj : ∀ i h, tn i h → ∃ o, h.get? it = some o ∧ ∀ v, o.data ≠ .cell v
  keep : ∀ i h h', tn i h → (∀ o, h.get? it = some o → h'.get? it = some o) → tn i h'
  item : ∀ (X : Cx), X.prog = P → X.w = w → X.K = K → ∀ (i : Nat) (pins : List (Addr × Obj)) (s : Shared) (σ : L2.St) (H : Hp) (E : Value → Shared → Prop), Inv X pins σ H s → FpOk X pins H it → tn i s.heap → J.go i H →
    wpAny (model P w) X.A (pyNext (.ref it)) (fun r s1 => ∃ u, r = some u ∧ wpAny (model P w) X.A (letOwnedTupleGo tg (.ref it) u) (fun _ s2 => ∃ x H', Inv X pins σ H' s2 ∧ RelV x u ∧ J.yld i H x H' ∧ tn (i + 1) s2.heap ∧ H' it = none) E s1) E s
  done : ∀ (X : Cx), X.prog = P → X.w = w → X.K = K → HotS X → ∀ (i : Nat) (pins : List (Addr × Obj)) (s : Shared) (σ : L2.St) (H : Hp) (E : Value → Shared → Prop), Inv X pins σ H s → FpOk X pins H it → tn i s.heap → J.stop i H →
    wpAny (model P w) X.A (pyNext (.ref it)) (fun r s1 => r = none ∧ Inv X pins σ H s1) E s
  self : ∀ (A : Around) (i : Nat) (s : Shared) (Q : Value → Shared → Prop) (E : Value → Shared → Prop), tn i s.heap → Q (.ref it) s → wpAny (model P w) A (pyIter (.ref it)) Q E s
theorem turnS_list {P : Program} {w : World} {K : PySem.W.Frag} {tg : Expr} (a it : Addr) : TurnS P w K tg (Itl K a) it fun i h => h.IsListIter it a i where
  obj := fun i h st => by
    obtain ⟨o, e, _, d⟩ := st
    exact ⟨o, e, fun v z => by rw [d] at z; cases z⟩
  keep := fun i h h' st k => st.at fun o e => k o e
  item := by
    rintro X rfl rfl rfl i pins s σ H E I ⟨f0, f1, f2, f3, f4, f5⟩ st ⟨xs, x, hq, hx⟩
    obtain ⟨its, rv, p, _⟩ := I.list hq
    obtain ⟨u, hu, ru⟩ := rv.get hx
    refine wpAny_pyNext_list_item st p.isList (x := u) (by simpa using hu) fun h' st2 sb => ?_
    have J := I.turned (h' := h') (t' := s.toks) (fun b o hb e => (sb.2 b hb).trans e) f0 f1 f3 f4 f5
    obtain ⟨o, e, c, d⟩ := id st2
    exact ⟨u, rfl, go_of (s := { s with heap := h' }) e c d (by decide) ⟨x, H, J, ru, ⟨rfl, fun ys hy => by rw [I.list_inj hy hq]; exact hx⟩, st2, f0⟩⟩
  done := by
    rintro X rfl rfl rfl hc i pins s σ H E I ⟨f0, f1, f2, f3, f4, f5⟩ st ⟨xs, hq, hx⟩
    obtain ⟨its, rv, p, _⟩ := I.list hq
    have hl := rv.length
    obtain ⟨x1, hot⟩ := hc _ _ _ _ I
    exact list_end_hot hot st p.isList (by simp; omega) fun h' eb => ⟨rfl, I.turned (t' := s.toks) (fun b o hb e => eb b o hb e) f0 f1 f3 f4 f5⟩
  self := fun _ _ _ _ _ st h => wpAny_pyIter_listiter st h
structure PIS (X : Cx) (tg iter : Expr) (wi : TI) : Prop where
  run : ∀ (pins : List (Addr × Obj)) (s : Shared) (σ : L2.St) (H : Hp) (R : It → Hp → Prop), Inv X pins σ H s → wi σ H R →
    wpAny (model X.prog X.w) X.A (eval iter X.env) (fun v s1 => wpAny (model X.prog X.w) X.A (pyIter v) (fun u s2 => ∃ (it : Addr) (tn : Nat → Heap → Prop) (J : It) (H' : Hp), u = .ref it ∧ Inv X pins σ H' s2 ∧ TurnS X.prog X.w X.K tg J it tn ∧ tn 0 s2.heap ∧ FpOk X pins H' it ∧ R J H') X.xe s1) X.xe s
theorem pis_list {X : Cx} {tg l : Expr} {tl : TE} (hl : PE X l tl) : PIS X tg l (iList X.K tl) := by
  refine ⟨fun pins s σ H R I h => thn (hl.run pins s σ H _ I h) fun v s1 ⟨x, H1, J, r, a, e, ⟨xs, hq⟩, q⟩ => ?_⟩
  subst e
  cases r
  obtain ⟨its, rv, p, _⟩ := J.list hq
  exact wpAny_pyIter_list p.isList ⟨s1.heap.objs.size, _, _, H1, rfl, J.kept (t' := s1.toks) fun b o e => Heap.get?_push_of_some _ e, turnS_list a _, ⟨_, Heap.get?_push_size _ rfl, rfl, rfl⟩,
    J.fpOk (Nat.le_refl _) (J.hok.fresh (Nat.le_refl _)), q⟩
section
variable {X : Cx} {elt tg iter : Expr} {ifs : List Expr} {scope : Scope} {own : List (Str × Nat)} {pos : Pos} {wi : TI} {g : TG} {tt : TT} {te : TE}
theorem pe_lcS (hc : L2H.HotC X) (hN : X.N.Nodup) (hi : PIS X tg iter wi) (ok : BlkOk X.N X.env.scope scope own)
    (hg : ∀ (s : Shared) (H : Hp) (C : Addr) (cl : List (Str × Addr)) (fp : List Addr), HotS (X.blk s H scope (compEnvC scope cl C X.env) fp) → PG (X.blk s H scope (compEnvC scope cl C X.env) fp) tg g)
    (ht : ∀ (s : Shared) (H : Hp) (C : Addr) (cl : List (Str × Addr)) (fp : List Addr), PTs (X.blk s H scope (compEnvC scope cl C X.env) fp) ifs tt)
    (he : ∀ (s : Shared) (H : Hp) (C : Addr) (cl : List (Str × Addr)) (fp : List Addr), PE (X.blk s H scope (compEnvC scope cl C X.env) fp) elt te) (hs : ∀ x, foldedSetIterable iter X.env x = pure x := by intro _; rfl) :
    PE X (.ListComp elt [⟨tg, iter, ifs, 0⟩] scope pos) (tLc wi g tt te (own.map (·.2))) := by
  refine ⟨fun pins s σ H Q I h => ?_⟩
  rw [eval_ListComp]
  have fr : ∀ y ∈ scope.names, y.2 = .free → ∃ c, X.env.cells.lookup y.1 = some c := fun y hy e => I.ok.has _ (ok.free y hy e)
  refine wpAny_comprehension_free (use := none) rfl hs (closure_ok fr) ok.kind (fun y hy e => by rw [ok.uniq y hy, e]) (thn (hi.run pins s σ H _ I h) fun xv s1 hx => thn hx fun itv s2 ⟨it, tn, J, H2, e, I2, T, st2, f2, q⟩ => ?_)
  subst e
  refine wpAny_newObj_type (newEnv_comp ?_) (by show 0 ≤ sizeLine; decide)
  obtain ⟨D, hD⟩ : ∃ D, s2.heap.objs.size = D := ⟨_, rfl⟩
  obtain ⟨W, ⟨m0, w0⟩, turn⟩ := q D (I2.hok.fresh (Nat.le_of_eq hD))
  rw [hD]
  obtain ⟨s3, hs3⟩ : ∃ s3 : Shared, ({ s2 with heap := s2.heap.push { cls := .type "list", data := .seq ([] : List Value).toArray } } : Shared) = s3 := ⟨_, rfl⟩
  have push3 : ∀ b o, s2.heap.get? b = some o → s3.heap.get? b = some o := fun b o z => by rw [← hs3]; exact Heap.get?_push_of_some _ z
  have I3 : Inv X pins σ (upd H2 D (.lst [])) s3 := by
    rw [← hs3]
    exact I2.laid (t' := s2.toks) (fun b o z => Heap.get?_push_of_some _ z) (Nat.le_of_eq hD) ⟨Nat.zero_le _, [], 0, .nil, by rw [← hD]; exact Heap.get?_push_size _ rfl⟩
  have st3 : tn 0 s3.heap := T.keep _ _ _ st2 fun o z => push3 _ o z
  have lt2 : it < s2.heap.objs.size := by
    obtain ⟨o, z, _⟩ := T.obj _ _ st2
    exact Heap.lt_size z
  obtain ⟨H3, hH3⟩ : ∃ H3, upd H2 D (.lst []) = H3 := ⟨_, rfl⟩
  have f3 : FpOk X pins H3 it := ⟨by rw [← hH3, upd_ne (Nat.ne_of_lt (hD ▸ lt2))]; exact f2.1, f2.2⟩
  have lt3 : it < s3.heap.objs.size := by
    obtain ⟨o, z, _⟩ := T.obj _ _ st3
    exact Heap.lt_size z
  rw [hs3]
  rw [hH3] at I3 w0
  have I4 := block_start (fp := [it]) I3 ok hN fun b hb => by
    have z : b = it := by simpa using hb
    rw [z]; exact ⟨f3, lt3⟩
  have hot := hotS_blk (scope := scope) (cenv := compEnvC scope (cellsFrom (s3.heap.objs.size + 1) scope.names (cloFrom X.env.cells scope.names [])) s3.heap.objs.size X.env) (fp := [it]) hc I3 fun b hb p hp => by
    have z : b = it := by simpa using hb
    rw [z]; exact f3.2.2.2.2.2 p hp
  have pg := hg s3 H3 s3.heap.objs.size (cellsFrom (s3.heap.objs.size + 1) scope.names (cloFrom X.env.cells scope.names [])) [it] hot
  have pt := ht s3 H3 s3.heap.objs.size (cellsFrom (s3.heap.objs.size + 1) scope.names (cloFrom X.env.cells scope.names [])) [it]
  have pe := he s3 H3 s3.heap.objs.size (cellsFrom (s3.heap.objs.size + 1) scope.names (cloFrom X.env.cells scope.names [])) [it]
  obtain ⟨ce, hce⟩ : ∃ ce, compEnvC scope (cellsFrom (s3.heap.objs.size + 1) scope.names (cloFrom X.env.cells scope.names [])) s3.heap.objs.size X.env = ce := ⟨_, rfl⟩
  have hL : ce.locals = s3.heap.objs.size := by rw [← hce]; rfl
  show codeAny _ _ (.compStart (.ListComp elt [⟨tg, iter, ifs, 0⟩] scope pos) 0 (.ref it) (.ref D) (compEnvC scope (cellsFrom (s3.heap.objs.size + 1) scope.names (cloFrom X.env.cells scope.names [])) s3.heap.objs.size X.env)) (compPost (model X.prog X.w) X.A X.xe none _ (.ref D) s3.heap.objs.size) { s3 with heap := pushCells (s3.heap.push { cls := .type "dict", data := .dict #[] }) scope.names }
  rw [hce] at I4 pg pt pe hot ⊢
  obtain ⟨s4, hs4⟩ : ∃ s4 : Shared, ({ s3 with heap := pushCells (s3.heap.push { cls := .type "dict", data := .dict #[] }) scope.names } : Shared) = s4 := ⟨_, rfl⟩
  rw [hs4] at I4 ⊢
  have st4 : tn 0 s4.heap := T.keep _ _ _ st3 fun o z => by rw [← hs4]; exact pushCells_keeps _ _ _ _ (Heap.get?_push_of_some _ z)
  obtain ⟨vs, hvs⟩ : ∃ vs, own.map (·.2) = vs := ⟨_, rfl⟩
  rw [hvs] at turn I4
  -- the iterator stays out of reach
  have stat : ∀ {σ' : L2.St} {H' : Hp} {s' : Shared}, Inv (X.blk s3 H3 scope ce [it]) [] σ' H' s' → H' it = none → FpOk (X.blk s3 H3 scope ce [it]) [] H' it := fun {σ' H' s'} J' n =>
    ⟨n, (J'.ok.exf it (by simp)).1, J'.ok.exfs it (by simp), .inl (by simp), fun x c z => (J'.ok.exf it (by simp)).2 x c z, fun p hp => by cases hp⟩
  have loop : codeAny (model X.prog X.w) X.A (.compLoop (.ListComp elt [⟨tg, iter, ifs, 0⟩] scope pos) 0 (.ref it) (.ref D) ce) (compPost (model X.prog X.w) X.A X.xe none (EP X pins σ Q) (.ref D) s3.heap.objs.size) s4 := by
    refine compLoop_any (fun n s' => ∃ i H', Inv (X.blk s3 H3 scope ce [it]) [] (wipe σ vs) H' s' ∧ tn i s'.heap ∧ H' it = none ∧ W i n H') ?_ m0 ⟨0, H3, I4, st4, f3.1, w0⟩
    rintro n s5 ⟨i, H5, I5, st5, n5, w5⟩
    rcases turn i n H5 w5 with ⟨stop, qq⟩ | ⟨go, Nx, hNx, step⟩
    · refine thnF (T.done (X.blk s3 H3 scope ce [it]) rfl rfl rfl hot i [] s5 _ H5 (fun _ _ => False) I5 (stat I5 n5) st5 stop) fun r s6 ⟨hr, I6⟩ => ?_
      subst hr
      have I7 : Inv X pins σ H5 s6 := I3.call' (ch := [it]) I6.os I6.base I6.hok I6.bare fun b hb => by
        have z : b = it := by simpa using hb
        rw [z]; exact ⟨f3.2.2.2.1, f3.2.1, f3.2.2.2.2.1, f3.2.2.2.2.2⟩
      have nC : H5 s3.heap.objs.size = none := by rw [← hL]; exact I6.free
      obtain ⟨m, hn, _⟩ := I6.loc
      have hn : s6.heap.Ns ce.locals m := hn
      rw [hL] at hn
      obtain ⟨g0, g1, g2, g3, g4, g5⟩ := I3.fpOk (H' := H5) (Nat.le_refl _) nC
      exact ⟨m, hn, fun h'' sb => ⟨.ref D, H5, I7.turned (t' := s6.toks) (fun b o hb z => (sb.2 b hb).trans z) g0 g1 g3 g4 g5, rfl, qq⟩⟩
    · refine thnF (T.item (X.blk s3 H3 scope ce [it]) rfl rfl rfl i [] s5 _ H5 (fun _ _ => False) I5 (stat I5 n5) st5 go) fun r s6 ⟨u, hr, h6⟩ => ?_
      subst hr
      refine thnF h6 fun _ s7 ⟨x, H7, I7, r7, y7, st7, n7⟩ => ?_
      have I7' := I7.pinned (fp := [it]) (fun b hb => by have z : b = it := (by simpa using hb); rw [z]; exact stat I7 n7) (fun b hb => by have z : b = it := (by simpa using hb); rw [z]; exact T.obj _ _ st7)
      refine thnF (pg.run _ s7 _ H7 x u _ I7' r7 (step x H7 y7)) fun _ s8 ⟨σ8, H8, I8, hw8, q8⟩ => thnF (pt.run _ s8 σ8 H8 _ I8 q8) fun b s9 ⟨H9, I9, q9⟩ => ?_
      have fin : ∀ {s' : Shared} {H' : Hp}, Inv (X.blk s3 H3 scope ce [it]) ([] ++ pinsAt [it] s7.heap) σ8 H' s' → Nx H' → ∃ m, m < n ∧ ∃ i H', Inv (X.blk s3 H3 scope ce [it]) [] (wipe σ vs) H' s' ∧ tn i s'.heap ∧ H' it = none ∧ W i m H' := fun {s' H'} J' nx => by
        obtain ⟨m', hm, w'⟩ := hNx H' nx
        have pin : ∀ o, s7.heap.get? it = some o → s'.heap.get? it = some o ∧ H' it = none := fun o z =>
          have y := J'.pin (it, o) (List.mem_append_right _ (List.mem_append_right _ (mem_pinsAt (by simp) z)))
          ⟨y.1, y.2.1⟩
        obtain ⟨o, z, _⟩ := T.obj _ _ st7
        refine ⟨m', hm, i + 1, H', (J'.unpinned (pins := [])).weak (by rw [← hw8, wipe_length]) (fun j v e => ?_), T.keep _ _ _ st7 fun o z => (pin o z).1, (pin o z).2, w'⟩
        rw [← hw8] at e
        exact (wipe_some e).1
      cases b with
      | false => exact fin I9 q9
      | true => exact thnF (pe.run _ s9 σ8 H9 _ I9 q9) fun z s10 ⟨yv, H10, I10, r10, acc, hD10, hz10, nx⟩ => app_ok (X := X.blk s3 H3 scope ce [it]) I10 hD10 hz10 r10 fun s11 I11 => fin I11 nx
  exact codeAny_compStart_list loop (T.self X.A 0 _ _ _ st4 loop)
end
end Tm
set_option Elab.async false
set_option linter.all false
set_option maxRecDepth 100000
set_option maxHeartbeats 2000000
namespace Tm
open PySem L2 PySem.Spec PyProof.Rows
open Evl (Ex ex_rd ex_l ex_t)
structure FnE (P : Program) (w : World) (K : PySem.W.Frag) (mg : Str → Option Value) (base : Heap) (CX : CXT) (k : Nat) (f : Addr) (fd : FuncData) (ps : List Str) (sp : Addr × Obj → Sp) : Prop where
  len : ∀ p vs H Q E, sp p vs H Q E → vs.length = ps.length
  run : ∀ (A : Around) (outer : List PySem.Env) (s : Shared) (H : Hp) (args : Args) (us : List Value) (vs : List V) (Q : VK) (E : XK) (p : Addr × Obj), L2H.RoomH k A → L2H.Hot1 A p → L2H.PinOk outer H s p → Env0 P w K mg base A outer s H → BindsTo s fd args (ps.zip us) → Vals vs us → sp p vs H Q E →
    codeAny (model P w) A (.call (.ref f) args) (CR CX outer P w H s Q E) s
def mFnE (n : Nat) (m : MX → MS) : MX → Res (MV × Env) := fun e => match m e (List.replicate n none) with
  | .ok (.rt v, ρ) => .ok (v, ρ)
  | _ => .stuck
def spE (K : PySem.W.Frag) (mg : Str → Option Value) (ts : List Str) (f : MX → Res (MV × Env)) : Addr × Obj → Sp := fun p vs H Q _ => vs = [.ref p.1] ∧ ∃ (F Hk : Hp) (e : MX) (C : Addr) (d : Option Addr) (v : MV) (ρ' : Env), Ex Hk H ∧ Ex F H ∧ (∀ a o, F a = some o → Hk a = none) ∧
  mg e.cls = some (.ref C) ∧ e.cls ∈ ts ∧ L2N.Zn (.ref C) d p.2 ∧ (∃ vs, p.2.data = .fields vs) ∧ XIn F e d ∧ f e = .ok (v, ρ') ∧ flatM v = true ∧ ∀ Hk' H' u, Ex Hk Hk' → Ex Hk' H' → Ex F H' → (∀ a o, F a = some o → Hk' a = none) → RV K Hk' v u → Q u H'
def cE (K : PySem.W.Frag) (mg : Str → Option Value) (a : Addr) (e : MX) (d : Option Addr) : Ct := cH ⟨K, mg, fun _ _ _ _ => False, [], fun _ _ => True, fun _ _ _ _ _ => trivial⟩ 0 a e d
section
variable {P : Program} {w : World} {K : PySem.W.Frag} {mg : Str → Option Value} {base : Heap}
theorem fnE_ok {x qual q : Str} {st : Stmt} {f : Addr} {fd : FuncData} {N : List Str} {k : Nat} {ts : List Str} {m : MX → MS} (F : Fun K x qual st f fd) (S : FnScope N [q] (defScope st)) (hN : 1 ≤ N.length)
    (hb : ∀ (cdv : Value) (A : Around) (outer : List PySem.Env) (s : Shared) (H : Hp) (E : XK) (p : Addr × Obj) (e : MX) (C : Addr) (d : Option Addr), L2H.Hot1 A p → L2H.RoomH k (A.deeper (envOfC qual (defScope st) s.heap.objs.size f cdv)) → mg e.cls = some (.ref C) → e.cls ∈ ts → L2N.Zn (.ref C) d p.2 → (∃ vs, p.2.data = .fields vs) →
      PSs (L2H.cxH (L2N.CX P w) P w K mg base N qual (defScope st) f cdv A outer s H E p) (defBody st) (rdS (cE K mg p.1 e d) (m e))) :
    FnE P w K mg base (L2N.CX P w) (k + 1) f fd [q] (spE K mg ts (mFnE N.length m)) := by
  obtain ⟨_, _, _, _, _, _, cv, _, _, rfl, look, hc⟩ := F.ex
  refine ⟨fun p vs H Q E h => by rw [h.1]; rfl, fun A outer s H args us vs Q E p hr hot hpin e0 bd r h => ?_⟩
  obtain ⟨rfl, F', Hk, e, C, d, v, ρ', x1, x2, x3, h1, h2, h3, h4, h5, h6, h7, h8⟩ := h
  have keep := fun b o z => (e0.bs b o z).1
  have KX : K.In s.heap := e0.mod.kin.keeps keep
  have hk : ∀ y ∈ [q].zip us, (defScope st).names.lookup y.1 = some .local ∨ ((defScope st).names.lookup y.1 = some .cell ∧ ((cellsFrom (s.heap.objs.size + 1) (defScope st).names []).lookup y.1).isSome = true) := fun ⟨n, u⟩ hy =>
    (S.par n (List.of_mem_zip hy).1).elim .inl fun z => .inr ⟨z, PySem.W.cellsFrom_some _ _ _ (.inl z)⟩
  refine codeAny_call_function hr.depth (KX _ _ look) rfl S.co S.gen rfl (PySem.W.codeRec_of KX hc) (bd _ _ _ _ (wpAny_newFunctionEnv_cells S.kind hk fun env he s1 y => ?_))
  subst he
  refine ⟨(e0.mod.nolimit.keeps keep).keeps y.toInCall.keep, codeAny_func ?_⟩
  have I : Inv (L2H.cxH (L2N.CX P w) P w K mg base N qual (defScope st) f cv A outer s H E p) [] (L2.start N [V.ref p.1]) H s1 := L2H.inv_startH S hpin e0 rfl r y
  have R : RS K F' Hk H [(0, p.1)] (L2.start N [V.ref p.1]) (List.replicate N.length none) := by
    have ln : (L2.start N [V.ref p.1]).length = N.length := by
      unfold L2.start
      simp
      omega
    refine ⟨by rw [ln, List.length_replicate], x1, x2, x3, ⟨fun _ => [], fun i y h => ?_, fun i a h => (nomatch h), fun i h => (h rfl).elim, fun i j a _ h => (nomatch h)⟩, fun z hz => ?_⟩
    · rw [List.getElem?_replicate] at h
      split at h <;> cases h
    · rw [List.mem_singleton.mp hz]; rfl
  refine wpAny_mono ((hb cv A outer s H E p e C d hot (hr.deeper _) h1 h2 h3 h4).run [] s1 _ H { nx := fun _ _ => False, rt := Q } I ⟨F', Hk, [(0, p.1)], _, ⟨R, rfl, ⟨[], rfl, trivial⟩, h5⟩, ?_⟩) (fun fl s' hs => ?_) fun e s' hs => hs
  · unfold mFnE at h6
    cases em : m e (List.replicate N.length none) with
    | stuck => rw [em] at h6; cases h6
    | exc _ _ => rw [em] at h6; cases h6
    | ok r =>
      obtain ⟨fl, ρ2⟩ := r
      rw [em] at h6
      cases fl with
      | rt u =>
        cases h6
        intro Hk' H' σ' z x' hq S'
        obtain ⟨ow, sl⟩ := S'.ow
        obtain ⟨z2, ez, rz⟩ := S'.get (i := ρ'.length) (x := v) (by simp) (by cases v <;> first | rfl | (simp [flatM] at h7))
        have hl : σ'.length = ρ'.length := by have := S'.len; simpa using this
        have : z2 = z := by rw [← hl] at ez; simpa using ez.symm
        subst this
        exact h8 Hk' H' z2 x' S'.ex S'.fr S'.frk rz
      | nx => cases h6
      | br => cases h6
      | ct => cases h6
  · match fl, hs with
    | .ret u, hs =>
      obtain ⟨v2, σ', H', J, rv, z⟩ := hs
      exact ⟨v2, H', J.os, J.bare, J.base, J.hok, rv, z⟩
    | .next, hs => obtain ⟨_, _, _, z⟩ := hs; exact z.elim
    | .brk, hs => obtain ⟨_, _, _, z⟩ := hs; exact False.elim z
    | .cont, hs => obtain ⟨_, _, _, z⟩ := hs; exact False.elim z
end
def mCallE (f : MX → Res (MV × Env)) (e : MX) : ME := fun ρ => match f e with
  | .ok (v, _) => if flatM v then .ok (v, ρ) else .stuck
  | _ => .stuck
theorem RS.callee {K : PySem.W.Frag} {F Hk H : Hp} {bp : List (Nat × Addr)} {σ : L2.St} {ρ : Env} (S : RS K F Hk H bp σ ρ) : ∃ F' : Hp, Ex F F' ∧ Ex F' H ∧ (∀ a o, F' a = some o → Hk a = none) ∧ ∀ Hk' H', Ex Hk Hk' → Ex Hk' H' → Ex F' H' → (∀ a o, F' a = some o → Hk' a = none) → RS K F Hk' H' bp σ ρ := by
  obtain ⟨ow, s⟩ := S.ow
  haveI : ∀ a, Decidable (∃ i, a ∈ ow i) := fun a => Classical.propDecidable _
  have at1 : ∀ i a, a ∈ ow i → (if (∃ i, a ∈ ow i) then H a else F a) = H a := fun i a h => if_pos ⟨i, h⟩
  have xF : ∀ a o, F a = some o → (if (∃ i, a ∈ ow i) then H a else F a) = some o := fun a o h => by
    rw [if_neg (fun ⟨i, m⟩ => by rw [(s.f i a m).2.1] at h; cases h)]; exact h
  have both : ∀ a o, (if (∃ i, a ∈ ow i) then H a else F a) = some o → H a = some o ∧ Hk a = none := fun a o h => by
    by_cases e : ∃ i, a ∈ ow i
    · rw [if_pos e] at h
      exact ⟨h, e.elim fun i m => (s.f i a m).1⟩
    · rw [if_neg e] at h
      exact ⟨S.fr a o h, S.frk a o h⟩
  refine ⟨fun a => if (∃ i, a ∈ ow i) then H a else F a, xF, fun a o h => (both a o h).1, fun a o h => (both a o h).2, fun Hk' H' x1 x2 x3 x4 => ⟨S.len, x2, fun a o h => x3 a o (xF a o h), fun a o h => x4 a o (xF a o h), ⟨ow, s.step x1 fun i a m => ?_⟩, S.bor⟩⟩
  obtain ⟨_, _, o, g⟩ := s.f i a m
  have z := (at1 i a m).trans g
  exact ⟨(x3 a o z).trans g.symm, x4 a o z⟩
structure FdE (P : Program) (w : World) (K : PySem.W.Frag) (mg : Str → Option Value) (base : Heap) (x : Str) (k : Nat) (q : Str) (ts : List Str) (f : MX → Res (MV × Env)) : Prop where
  ex : ∃ (a : Addr) (fd : FuncData), FnE P w K mg base (L2N.CX P w) k a fd [q] (spE K mg ts f) ∧ mg x = some (.ref a) ∧ PySem.W.keepIn K (.ref a) = true ∧ Binds K fd [q] []
section
variable {X : Cx} {c : Ct} {a C : Addr} {oe : Obj} {d : Option Addr} {pn : List (Addr × Obj)} {e : MX} {i j k : Nat} {n x q : Str} {p p1 pos : Pos} {ts : List Str} {tab : List (Str × Bool)} {f : MX → Res (MV × Env)}
theorem me_callE (G : FdE X.prog X.w X.K X.mg X.base x k q ts f) (hr : Room j X.A) (hj : k ≤ j) (hC : X.mg e.cls = some (.ref C)) (hT : (e.cls, true) ∈ tab) (hts : tab.all (fun p => !p.2 || ts.contains p.1) = true) (hz : L2N.Zn (.ref C) d oe) (hv : ∃ vs, oe.data = .fields vs) (hN : X.N[i]? = some n) (hl : Vis X.env.scope n) (hg : Gl X x)
    (hK : c.K = X.K := by rfl) (hd : (n == ("__debug__" : Str)) = false := by decide) (hcd : (n == ("__classdict__" : Str)) = false := by decide) (hdb : (x == ("__debug__" : Str)) = false := by decide)
    (he : starEach [.Name n p1] X.env = (false, eval (.Name n p1) X.env) :: starEach [] X.env := by rfl) (hpl : (backTo pos (starEach [] X.env)).any (·.1) = false := by rfl) :
    PE (X.suite a ((a, oe) :: pn)) (.Call (.Name x p) [.Name n p1] [] pos) (rdE (cH c i a e d) (mCallE f e)) := by
  obtain ⟨fa, fd, F, hm, hk, hb⟩ := G.ex
  refine ⟨fun pins s σ H Q I ⟨Fr, Hk, bp, ρ, S, h⟩ => ?_⟩
  obtain ⟨⟨bq, e1, e2⟩, xi⟩ := S.2.2
  have sl : σ[i]? = some (some (.ref a)) := S.1.bor (i, a) (by rw [e1]; exact List.mem_cons_self ..)
  have ha : PA (X.suite a ((a, oe) :: pn)) [.Name n p1] (tCons (tVar i) tNil) := pa_cons (pe_var (i := i) hN hl hd hcd) pa_nil
  refine wpAny_Call_Name_kw (ld_glob I hg hm ?_ hdb)
  refine PySem.W.callWith_K (h₀ := X.base) I.ok.mod.kin hk (thn (ha.run pos pins s σ H (fun vs H1 => vs = [V.ref a] ∧ H1 = H) I ⟨.ref a, sl, rfl, rfl⟩) fun us s1 ⟨vs, H1, I1, r, ev, eH⟩ => ⟨I1.kIn, ?_⟩) he hpl
  subst ev
  subst eH
  have hin : (a, oe) ∈ (X.suite a ((a, oe) :: pn)).pn := List.mem_cons_self
  have P1 := I1.pin (a, oe) (List.mem_append_left _ hin)
  have pin : L2H.PinOk (X.suite a ((a, oe) :: pn)).stack H1 s1 (a, oe) := ⟨P1.1, P1.2.1, fun z => (List.mem_cons.mp (I1.stkSub a z)).elim P1.2.2.1 P1.2.2.2.1, P1.2.2.2.2⟩
  obtain ⟨vs, hvs⟩ := hv
  have hot : L2H.Hot1 (X.suite a ((a, oe) :: pn)).A (a, oe) := ⟨rfl, vs, hvs, hz.2.2 vs hvs⟩
  have lu : us.length = 1 := r.length.symm
  have b2 := hb s1 us I1.kIn (by rw [List.append_nil]; exact lu)
  rw [List.append_nil] at b2
  have mem : e.cls ∈ ts := by
    have := List.all_eq_true.mp hts _ hT
    simpa using this
  unfold mCallE at h
  cases ef : f e with
  | stuck => rw [ef] at h; exact h.elim
  | exc _ _ => rw [ef] at h; exact h.elim
  | ok z =>
    obtain ⟨v, ρ'⟩ := z
    rw [ef] at h
    dsimp only at h
    split at h
    · rename_i hf
      obtain ⟨F', y1, y2, y3, y4⟩ := S.1.callee
      have xi' : XIn F' e d := by
        rcases xi with z | ⟨dx, vfs, q1, q2, q3⟩
        · exact .inl z
        · exact .inr ⟨dx, vfs, q1, y1 _ _ q2, q3⟩
      have sp : spE X.K X.mg ts f (a, oe) [.ref a] H1 Q (fun _ _ _ => False) := ⟨rfl, F', Hk, e, C, d, v, ρ', S.1.ex, y2, y3, hC, mem, hz, ⟨vs, hvs⟩, xi', ef, hf, fun Hk' H' u x1 x2 x3 x4 rv => by
        refine h Hk' H' u x1 (y4 Hk' H' x1 x2 x3 x4) ?_
        show RV c.K Hk' v u
        rw [hK]; exact rv⟩
      refine wpAny_call (codeAny_mono (F.run (X.suite a ((a, oe) :: pn)).A X.stack s1 H1 ⟨us, []⟩ us _ Q (fun _ _ _ => False) (a, oe) ⟨(hr.mono hj).dp, (hr.mono hj).un⟩ hot pin I1.env0 b2 r sp) fun r s' hq => ?_)
      match r, hq with
      | .ok (.ret u), hq => exact I1.after hq
      | .ok .next, hq => exact hq.elim
      | .ok .brk, hq => exact hq.elim
      | .ok .cont, hq => exact hq.elim
      | .error er, hq =>
        obtain ⟨_, _, _, _, _, _, _, _, _, _, _, _, z⟩ := hq
        exact z.elim
    · exact h.elim
end
def mItL (a : ME) : MI := fun ρ => (a ρ).bind fun x ρ1 => match x with | .lst xs => .ok (xs, ρ1) | _ => .stuck
section
variable {X : Cx} {c : Ct} {elt tg iter : Expr} {ifs : List Expr} {scope : Scope} {own : List (Str × Nat)} {pos : Pos} {a : ME} {g : Tgt} {t : MT} {e : ME}
theorem mi_listS (h : PE X iter (rdE c a)) (hK : c.K = X.K := by rfl) : PIS X tg iter (rdI c (mItL a)) := by
  have z := pis_list (tg := tg) h
  refine ⟨fun pins s σ H R I q => z.run pins s σ H R I ?_⟩
  obtain ⟨F, Hk, bp, ρ, S, q⟩ := q
  refine rdw (bE postI S q) fun v H1 ⟨Hk1, x, ρ1, x1, S1, r1, h1⟩ => ?_
  cases x with
  | lst xs =>
    obtain ⟨p, vs, rfl, g1, s1⟩ := RV.lst.mp r1
    have sq : ∀ H, Ex Hk1 H → SqL X.K H p vs := fun H ex => SqL.of (ex _ _ g1)
    refine ⟨p, rfl, ⟨vs, sq _ S1.1.ex⟩, h1 _ _ _ (Ex.refl _) S1.1 ?_⟩
    rw [hK]
    rw [hK] at s1
    exact walks_l (SqL.of g1) s1
  | _ => exact h1.elim
theorem mo_lcS (hc : L2H.HotC X) (hN : X.N.Nodup) (hi : PIS X tg iter (rdI c (mItL a))) (ok : BlkOk X.N X.env.scope scope own)
    (hg : ∀ (s : Shared) (H : Hp) (C : Addr) (cl : List (Str × Addr)) (fp : List Addr), HotS (X.blk s H scope (compEnvC scope cl C X.env) fp) → PG (X.blk s H scope (compEnvC scope cl C X.env) fp) tg (gOf X.K g))
    (ht : ∀ (s : Shared) (H : Hp) (C : Addr) (cl : List (Str × Addr)) (fp : List Addr), PTs (X.blk s H scope (compEnvC scope cl C X.env) fp) ifs (rdT c t)) (he : ∀ (s : Shared) (H : Hp) (C : Addr) (cl : List (Str × Addr)) (fp : List Addr), PE (X.blk s H scope (compEnvC scope cl C X.env) fp) elt (rdE c e))
    (hgs : ∀ i ∈ g.slots, i ∈ own.map (·.2) := by decide) (hbs : ∀ i ∈ own.map (·.2), c.bs.contains i = false := by decide) (hK : c.K = X.K := by rfl) (hs : ∀ x, foldedSetIterable iter X.env x = pure x := by intro _; rfl) :
    PE X (.ListComp elt [⟨tg, iter, ifs, 0⟩] scope pos) (rdO c (mLcO (mItL a) g t e (own.map (·.2)))) := PEw (pe_lcS hc hN hi ok hg ht he hs) fun σ H Q h => by rw [← hK]; exact rd_lc hgs hbs h
end
theorem xc_of {K : PySem.W.Frag} {mg : Str → Option Value} {fs ts : List Str} {x : Str} {C : Addr} (Xs : ∀ x ∈ ts, XcF K mg fs x) (hC : mg x = some (.ref C)) (hT : x ∈ ts) : XcG K C fs := by
  obtain ⟨C', h1, h2⟩ := (Xs x hT).ex
  rw [hC] at h1
  cases h1
  exact xcB_ok h2
theorem ki_of {K : PySem.W.Frag} {mg : Str → Option Value} {y x : Str} {ts : List Str} {l tab : List (Str × Bool)} (Ks : ∀ p ∈ l, KiT K mg y p.1 p.2) (h : ts.all (fun x => match tab.lookup x with | some b => l.contains (x, b) | none => true) = true) (hT : x ∈ ts) : ∀ b, tab.lookup x = some b → KiT K mg y x b := fun b hb => by
  have z := List.all_eq_true.mp h x hT
  rw [hb] at z
  exact Ks (x, b) (by simpa using z)
structure KiB (K : PySem.W.Frag) (mg : Str → Option Value) (T : String) (x : Str) : Prop where
  ex : ∃ C, mg x = some (.ref C) ∧ PySem.W.kitOne K (.ref C) (.type T) = some true
theorem kib_of {K : PySem.W.Frag} {mg : Str → Option Value} {T : String} {ts : List Str} {x : Str} {C : Addr} (Ks : ∀ x ∈ ts, KiB K mg T x) (hC : mg x = some (.ref C)) (hT : x ∈ ts) : PySem.W.kitOne K (.ref C) (.type T) = some true := by
  obtain ⟨C', h1, h2⟩ := (Ks x hT).ex
  rw [hC] at h1
  cases h1
  exact h2
@[simp] theorem mItL_ap {a : ME} {r : Option MV} {ρ : Env} : mItL a (r :: ρ) = (a (r :: ρ)).bind fun x ρ1 => match x with | .lst xs => .ok (xs, ρ1) | _ => .stuck := nr rfl
end Tm
set_option Elab.async false
set_option linter.all false
set_option maxRecDepth 100000
set_option maxHeartbeats 4000000
namespace Tm
open PySem L2
def m_pahead_of_last : MS := mRet (mOp fDiv (mVar 0) (mC (.int 10)))
def f_pahead_of_last : MF := mFn 1 [] m_pahead_of_last
def m_pfive_on : MS := mRet (mBlt bInt (mCons (mOp fGt (mVar 0) (mC (.int 4))) (mNil)))
def f_pfive_on : MF := mFn 1 [] m_pfive_on
def m_phalf_up : MS := mRet (mOp fMul (mOp fMod (mVar 0) (mC (.int 16))) (mC (.int 16)))
def f_phalf_up : MF := mFn 1 [] m_phalf_up
def m_phigh_half : MS := mRet (mOp fDiv (mVar 0) (mC (.int 16)))
def f_phigh_half : MF := mFn 1 [] m_phigh_half
def m_plast_figure : MS := mRet (mOp fMod (mVar 0) (mC (.int 10)))
def f_plast_figure : MF := mFn 1 [] m_plast_figure
def m_plow_half : MS := mRet (mOp fMod (mVar 0) (mC (.int 16)))
def f_plow_half : MF := mFn 1 [] m_plow_half
def m_pnine_less : MS := mSeq (mIfS (mAndT (mTest (mOp fGt (mVar 0) (mC (.int 9)))) (mTest (mOp fLt (mVar 0) (mC (.int 20))))) (mRet (mOp fSub (mC (.int 19)) (mVar 0))) (mPass)) (mRet (mVar 0))
def f_pnine_less : MF := mFn 1 [] m_pnine_less
def m_pone_of_two : MS := mRet (mBlt bInt (mCons (mOp fIn (mOp fMod (mVar 0) (mC (.int 4))) (mTup (mCons (mC (.int 1)) (mCons (mC (.int 2)) (mNil))))) (mNil)))
def f_pone_of_two : MF := mFn 1 [] m_pone_of_two
def m_pone_or_none : MS := mRet (mBlt bInt (mCons (mOp fGt (mVar 0) (mC (.int 0))) (mNil)))
def f_pone_or_none : MF := mFn 1 [] m_pone_or_none
def m_psign_below : MS := mRet (mBlt bInt (mCons (mOp fIn (mOp fMod (mVar 0) (mC (.int 16))) (mTup (mCons (mC (.int 11)) (mCons (mC (.int 13)) (mNil))))) (mNil)))
def f_psign_below : MF := mFn 1 [] m_psign_below
def m_pten_or_none : MS := mRet (mOp fMul (mC (.int 10)) (mBlt bInt (mCons (mOp fGt (mVar 0) (mC (.int 0))) (mNil))))
def f_pten_or_none : MF := mFn 1 [] m_pten_or_none
def m_pone_of_none : MS := mRet (mBlt bInt (mCons (mOp fEq (mVar 0) (mC (.int 0))) (mNil)))
def f_pone_of_none : MF := mFn 1 [] m_pone_of_none
def m_porder_byte : MS := mRet (mOp fIx (mTup (mCons (mC (.int 1)) (mCons (mC (.int 2)) (mCons (mC (.int 1)) (mCons (mC (.int 0)) (mNil)))))) (mOp fMod (mVar 0) (mC (.int 4))))
def f_porder_byte : MF := mFn 1 [] m_porder_byte
def m_plowest_two : MS := mRet (mOp fMod (mVar 0) (mC (.int 2)))
def f_plowest_two : MF := mFn 1 [] m_plowest_two
def m_psix_on : MS := mRet (mBlt bInt (mCons (mOp fGt (mVar 0) (mC (.int 5))) (mNil)))
def f_psix_on : MF := mFn 1 [] m_psix_on
def m_pproduct_byte : MS := mRet (mOp fMul (mOp fDiv (mVar 0) (mC (.int 16))) (mOp fMod (mVar 0) (mC (.int 16))))
def f_pproduct_byte : MF := mFn 1 [] m_pproduct_byte
def m_pall_or_none : MS := mRet (mOp fMul (mC (.int 255)) (mBlt bInt (mCons (mOp fGt (mVar 0) (mC (.int 0))) (mNil))))
def f_pall_or_none : MF := mFn 1 [] m_pall_or_none
def m_pfill : MS := mRet (mOp fMul (mC (.int 255)) (mOp fSub (mC (.int 1)) (mOp fDiv (mVar 0) (mC (.int 128)))))
def f_pfill : MF := mFn 1 [] m_pfill
def m_placking : MS := mRet (mOp fMod (mOp fSub (mC (.int 9)) (mVar 0)) (mC (.int 10)))
def f_placking : MF := mFn 1 [] m_placking
def m_pnone_or_all : MS := mRet (mOp fMul (mC (.int 255)) (mBlt bInt (mCons (mOp fEq (mVar 0) (mC (.int 0))) (mNil))))
def f_pnone_or_all : MF := mFn 1 [] m_pnone_or_all
def m_pnot_all : MS := mRet (mBlt bInt (mCons (mOp fLt (mVar 0) (mC (.int 255))) (mNil)))
def f_pnot_all : MF := mFn 1 [] m_pnot_all
def m_pother_twos : MS := mRet (mOp fSub (mC (.int 255)) (mVar 0))
def f_pother_twos : MF := mFn 1 [] m_pother_twos
def m_pten_high : MS := mRet (mOp fDiv (mOp fMul (mC (.int 10)) (mVar 0)) (mC (.int 256)))
def f_pten_high : MF := mFn 1 [] m_pten_high
def m_pten_low : MS := mRet (mOp fMod (mOp fMul (mC (.int 10)) (mVar 0)) (mC (.int 256)))
def f_pten_low : MF := mFn 1 [] m_pten_low
def m_ptop_two : MS := mRet (mOp fDiv (mVar 0) (mC (.int 128)))
def f_ptop_two : MF := mFn 1 [] m_ptop_two
def fnNames : List Str := ["ahead_of_last", "all_or_none", "fill", "five_on", "half_up", "high_half", "lacking", "last_figure", "low_half", "lowest_two", "nine_less", "none_or_all", "not_all", "one_of_none", "one_of_two", "one_or_none", "order_byte", "other_twos", "product_byte", "sign_below", "six_on", "ten_high", "ten_low", "ten_or_none", "top_two"]
def fnTab : List (Str × MF) := [("ahead_of_last", f_pahead_of_last), ("all_or_none", f_pall_or_none), ("fill", f_pfill), ("five_on", f_pfive_on), ("half_up", f_phalf_up), ("high_half", f_phigh_half), ("lacking", f_placking), ("last_figure", f_plast_figure), ("low_half", f_plow_half), ("lowest_two", f_plowest_two), ("nine_less", f_pnine_less), ("none_or_all", f_pnone_or_all), ("not_all", f_pnot_all), ("one_of_none", f_pone_of_none), ("one_of_two", f_pone_of_two), ("one_or_none", f_pone_or_none), ("order_byte", f_porder_byte), ("other_twos", f_pother_twos), ("product_byte", f_pproduct_byte), ("sign_below", f_psign_below), ("six_on", f_psix_on), ("ten_high", f_pten_high), ("ten_low", f_pten_low), ("ten_or_none", f_pten_or_none), ("top_two", f_ptop_two)]
def m_lmixed : MS := mSeq (mAsg (mLst (mCons (mC (.int 2147483629)) (mCons (mC (.int 2147483587)) (mCons (mC (.int 2147483579)) (mCons (mC (.int 2147483563)) (mCons (mC (.int 2147483549)) (mCons (mC (.int 2147483543)) (mCons (mC (.int 2147483497)) (mCons (mC (.int 2147483489)) (mNil)))))))))) (gSet 3)) (mSeq (mAsg (mOp fMod (mOp fAdd (mOp fAdd (mOp fAdd (mVar 0) (mOp fMul (mC (.int 7919)) (mVar 2))) (mOp fMul (mC (.int 104729)) (mVar 1))) (mC (.int 13))) (mC (.int 2147483647))) (gSet 4)) (mSeq (mAsg (mOp fMod (mOp fPow (mVar 4) (mC (.int 5))) (mOp fIx (mVar 3) (mOp fMod (mVar 1) (mC (.int 8))))) (gSet 4)) (mSeq (mAsg (mOp fMod (mOp fAdd (mOp fAdd (mVar 4) (mOp fMul (mC (.int 40692)) (mVar 2))) (mVar 1)) (mC (.int 2147483647))) (gSet 5)) (mRet (mOp fAdd (mOp fMul (mOp fMod (mOp fPow (mVar 5) (mC (.int 5))) (mC (.int 2147483647))) (mC (.int 1000000007))) (mVar 4))))))
def f_lmixed : MF := mFn 6 [] m_lmixed
def b_ldraws_0 : MS := mIfS (mTest (mOp fGt (mVar 4) (mC (.int 0)))) (mSeq (mDrop (mLm lmAppend 3 (mCons (mOp fMod (mVar 4) (mOp fIx (mVar 2) (mVar 5))) (mNil)))) (mAsg (mOp fDiv (mVar 4) (mOp fIx (mVar 2) (mVar 5))) (gSet 4))) (mDrop (mLm lmAppend 3 (mCons (mOp fMod (mFz (mCall f_lmixed (mCons (mVar 0) (mCons (mVar 5) (mCons (mVar 1) (mNil)))))) (mOp fIx (mVar 2) (mVar 5))) (mNil))))
def m_ldraws : MS := mSeq (mSetO 3 (mLstO (mNil))) (mSeq (mAsg (mC (.int 0)) (gSet 4)) (mSeq (mIfS (mTest (mOp fGe (mBlt bAbs (mCons (mVar 0) (mNil))) (mOp fPow (mC (.int 10)) (mC (.int 18))))) (mAsg (mBlt bAbs (mCons (mVar 0) (mNil))) (gSet 4)) (mPass)) (mSeq (mFor (mR1 (mCons (mBlt bLen (mCons (mVar 2) (mNil))) (mNil))) (gSet 5) (b_ldraws_0)) (mRet (mMove 3)))))
def f_ldraws : MF := mFn 6 [] m_ldraws
def m_lcell : MS := mSeq (mIfS (mTest (mOp fLt (mVar 1) (mBlt bLen (mCons (mVar 0) (mNil))))) (mRet (mOp fIx (mVar 0) (mVar 1))) (mPass)) (mSeq (mIfS (mTest (mOp fEq (mBlt bLen (mCons (mVar 0) (mNil))) (mC (.int 0)))) (mRet (mOp fMul (mC (.int 7919)) (mOp fAdd (mVar 1) (mC (.int 1))))) (mPass)) (mRet (mOp fAdd (mOp fIx (mVar 0) (mOp fMod (mVar 1) (mBlt bLen (mCons (mVar 0) (mNil))))) (mOp fMul (mC (.int 104729)) (mVar 1)))))
def f_lcell : MF := mFn 2 [] m_lcell
def m_lform : MS := mSeq (mAsg (mOp fMod (mOp fAdd (mOp fAdd (mOp fMul (mC (.int 7)) (mVar 1)) (mOp fMul (mC (.int 3)) (mVar 0))) (mVar 2)) (mOp fAdd (mVar 1) (mC (.int 2)))) (gSet 3)) (mRet (mTup (mCons (mOp fIx (mLst (mCons (mC (.str "packed")) (mCons (mC (.str "spread")) (mNil)))) (mVar 0)) (mCons (mOp fAdd (mC (.int 1)) (mVar 1)) (mCons (mOp fIx (mLst (mCons (mC (.str "none")) (mCons (mC (.str "end")) (mCons (mC (.str "tens")) (mNil))))) (mVar 2)) (mCons (mVar 3) (mNil)))))))
def f_lform : MF := mFn 4 [] m_lform
def m_lwhole : MS := mRet (mBv (mAndT (mTest (mBlt bIsi (mCons (mVar 0) (mCons (mC (.raw (.ty "int"))) mNil)))) (mTest (mBv (mNotT (mTest (mBlt bIsi (mCons (mVar 0) (mCons (mC (.raw (.ty "bool"))) mNil)))))))))
def f_lwhole : MF := mFn 1 [] m_lwhole
def m_phalves_of : MS := mSeq (mAsg (mOp fAdd (mOp fIx (mVar 0) (mC (.int 1))) (mBlt bInt (mCons (mOp fEq (mOp fIx (mVar 0) (mC (.int 2))) (mC (.str "end"))) (mNil)))) (gSet 1)) (mRet (mTup (mCons (mOp fAdd (mVar 1) (mOp fMod (mVar 1) (mC (.int 2)))) (mCons (mOp fMod (mVar 1) (mC (.int 2))) (mNil)))))
def f_phalves_of : MF := mFn 2 [] m_phalves_of
def m_lbytes : MS := mSeq (mIfS (mOrT (mNotT (mTest (mBlt bIsi (mCons (mVar 0) (mCons (mC (.raw (.ty "tuple"))) mNil))))) (mTest (mOp fNe (mBlt bLen (mCons (mVar 0) (mNil))) (mVar 1)))) (mRet (mC (.bl false))) (mPass)) (mRet (mBlt bAll (mCons (mFz (mLcO (mItV (mVar 0)) (.nm 2) (mYes) (mBv (mAndT (mTest (mFz (mCall0 f_lwhole (mCons (mVar 2) (mNil))))) (mTest (mChain fLe fLt (mC (.int 0)) (mVar 2) (mC (.int 256)))))) [2])) (mNil))))
def f_lbytes : MF := mFn 3 [] m_lbytes
def m_pwidth : MS := mSeq (mIfS (mTest (mOp fEq (mOp fIx (mVar 0) (mC (.int 0))) (mC (.str "packed")))) (mRet (mOp fDiv (mOp fIx (mFz (mCall f_phalves_of (mCons (mVar 0) (mNil)))) (mC (.int 0))) (mC (.int 2)))) (mPass)) (mRet (mOp fIx (mVar 0) (mC (.int 1))))
def f_pwidth : MF := mFn 1 [] m_pwidth
def m_lsorts (ex : MX) : MS := mSeq (mAsg (mLst (mCons (mTup (mCons (mC (.str "NoShape")) (mCons (mExIs ex [("BadLine", false), ("NoDeed", false), ("NoFit", false), ("NoLine", false), ("NoName", false), ("NoRow", false), ("NoRule", false), ("NoShape", true), ("NoTable", false), ("NoText", false), ("NothingDone", false), ("Nought", false), ("TooLong", false), ("Unlike", false), ("Wrong", false)]) (mNil)))) (mCons (mTup (mCons (mC (.str "NoFit")) (mCons (mExIs ex [("BadLine", false), ("NoDeed", false), ("NoFit", true), ("NoLine", false), ("NoName", false), ("NoRow", false), ("NoRule", false), ("NoShape", false), ("NoTable", false), ("NoText", false), ("NothingDone", false), ("Nought", false), ("TooLong", false), ("Unlike", false), ("Wrong", false)]) (mNil)))) (mCons (mTup (mCons (mC (.str "Wrong")) (mCons (mExIs ex [("BadLine", false), ("NoDeed", false), ("NoFit", false), ("NoLine", false), ("NoName", false), ("NoRow", false), ("NoRule", false), ("NoShape", false), ("NoTable", false), ("NoText", false), ("NothingDone", false), ("Nought", false), ("TooLong", false), ("Unlike", false), ("Wrong", true)]) (mNil)))) (mNil))))) (gSet 1)) (mSeq (mAsg (mOp fAdd (mVar 1) (mLst (mCons (mTup (mCons (mC (.str "NoTable")) (mCons (mExIs ex [("BadLine", false), ("NoDeed", false), ("NoFit", false), ("NoLine", false), ("NoName", false), ("NoRow", false), ("NoRule", false), ("NoShape", false), ("NoTable", true), ("NoText", false), ("NothingDone", false), ("Nought", false), ("TooLong", false), ("Unlike", false), ("Wrong", false)]) (mNil)))) (mCons (mTup (mCons (mC (.str "NoRow")) (mCons (mExIs ex [("BadLine", false), ("NoDeed", false), ("NoFit", false), ("NoLine", false), ("NoName", false), ("NoRow", true), ("NoRule", false), ("NoShape", false), ("NoTable", false), ("NoText", false), ("NothingDone", false), ("Nought", false), ("TooLong", false), ("Unlike", false), ("Wrong", false)]) (mNil)))) (mNil))))) (gSet 1)) (mSeq (mAsg (mOp fAdd (mVar 1) (mLst (mCons (mTup (mCons (mC (.str "BadLine")) (mCons (mExIs ex [("BadLine", true), ("NoDeed", false), ("NoFit", false), ("NoLine", false), ("NoName", false), ("NoRow", false), ("NoRule", false), ("NoShape", false), ("NoTable", false), ("NoText", false), ("NothingDone", false), ("Nought", false), ("TooLong", false), ("Unlike", false), ("Wrong", false)]) (mNil)))) (mCons (mTup (mCons (mC (.str "TooLong")) (mCons (mExIs ex [("BadLine", false), ("NoDeed", false), ("NoFit", false), ("NoLine", false), ("NoName", false), ("NoRow", false), ("NoRule", false), ("NoShape", false), ("NoTable", false), ("NoText", false), ("NothingDone", false), ("Nought", false), ("TooLong", true), ("Unlike", false), ("Wrong", false)]) (mNil)))) (mNil))))) (gSet 1)) (mSeq (mAsg (mOp fAdd (mVar 1) (mLst (mCons (mTup (mCons (mC (.str "NoRule")) (mCons (mExIs ex [("BadLine", false), ("NoDeed", false), ("NoFit", false), ("NoLine", false), ("NoName", false), ("NoRow", false), ("NoRule", true), ("NoShape", false), ("NoTable", false), ("NoText", false), ("NothingDone", false), ("Nought", false), ("TooLong", false), ("Unlike", false), ("Wrong", false)]) (mNil)))) (mCons (mTup (mCons (mC (.str "NoDeed")) (mCons (mExIs ex [("BadLine", false), ("NoDeed", true), ("NoFit", false), ("NoLine", false), ("NoName", false), ("NoRow", false), ("NoRule", false), ("NoShape", false), ("NoTable", false), ("NoText", false), ("NothingDone", false), ("Nought", false), ("TooLong", false), ("Unlike", false), ("Wrong", false)]) (mNil)))) (mNil))))) (gSet 1)) (mSeq (mAsg (mOp fAdd (mVar 1) (mLst (mCons (mTup (mCons (mC (.str "NoName")) (mCons (mExIs ex [("BadLine", false), ("NoDeed", false), ("NoFit", false), ("NoLine", false), ("NoName", true), ("NoRow", false), ("NoRule", false), ("NoShape", false), ("NoTable", false), ("NoText", false), ("NothingDone", false), ("Nought", false), ("TooLong", false), ("Unlike", false), ("Wrong", false)]) (mNil)))) (mCons (mTup (mCons (mC (.str "NoText")) (mCons (mExIs ex [("BadLine", false), ("NoDeed", false), ("NoFit", false), ("NoLine", false), ("NoName", false), ("NoRow", false), ("NoRule", false), ("NoShape", false), ("NoTable", false), ("NoText", true), ("NothingDone", false), ("Nought", false), ("TooLong", false), ("Unlike", false), ("Wrong", false)]) (mNil)))) (mNil))))) (gSet 1)) (mSeq (mAsg (mOp fAdd (mVar 1) (mLst (mCons (mTup (mCons (mC (.str "Nought")) (mCons (mExIs ex [("BadLine", false), ("NoDeed", false), ("NoFit", false), ("NoLine", false), ("NoName", false), ("NoRow", false), ("NoRule", false), ("NoShape", false), ("NoTable", false), ("NoText", false), ("NothingDone", false), ("Nought", true), ("TooLong", false), ("Unlike", false), ("Wrong", false)]) (mNil)))) (mCons (mTup (mCons (mC (.str "Unlike")) (mCons (mExIs ex [("BadLine", false), ("NoDeed", false), ("NoFit", false), ("NoLine", false), ("NoName", false), ("NoRow", false), ("NoRule", false), ("NoShape", false), ("NoTable", false), ("NoText", false), ("NothingDone", false), ("Nought", false), ("TooLong", false), ("Unlike", true), ("Wrong", false)]) (mNil)))) (mNil))))) (gSet 1)) (mSeq (mAsg (mOp fAdd (mVar 1) (mLst (mCons (mTup (mCons (mC (.str "NoLine")) (mCons (mExIs ex [("BadLine", false), ("NoDeed", false), ("NoFit", false), ("NoLine", true), ("NoName", false), ("NoRow", false), ("NoRule", false), ("NoShape", false), ("NoTable", false), ("NoText", false), ("NothingDone", false), ("Nought", false), ("TooLong", false), ("Unlike", false), ("Wrong", false)]) (mNil)))) (mCons (mTup (mCons (mC (.str "NothingDone")) (mCons (mExIs ex [("BadLine", false), ("NoDeed", false), ("NoFit", false), ("NoLine", false), ("NoName", false), ("NoRow", false), ("NoRule", false), ("NoShape", false), ("NoTable", false), ("NoText", false), ("NothingDone", true), ("Nought", false), ("TooLong", false), ("Unlike", false), ("Wrong", false)]) (mNil)))) (mNil))))) (gSet 1)) (mSeq (mAsg (mOp fAdd (mVar 1) (mLst (mCons (mTup (mCons (mC (.str "no LoftError")) (mCons (mBv (mNotT (mTest (mExIs ex [("BadLine", true), ("NoDeed", true), ("NoFit", true), ("NoLine", true), ("NoName", true), ("NoRow", true), ("NoRule", true), ("NoShape", true), ("NoTable", true), ("NoText", true), ("NothingDone", true), ("Nought", true), ("TooLong", true), ("Unlike", true), ("Wrong", true)])))) (mNil)))) (mCons (mTup (mCons (mC (.str "no ValueError")) (mCons (mBv (mNotT (mTest (mExIs ex [("BadLine", true), ("NoDeed", true), ("NoFit", true), ("NoLine", true), ("NoName", true), ("NoRow", true), ("NoRule", true), ("NoShape", true), ("NoTable", true), ("NoText", true), ("NothingDone", true), ("Nought", true), ("TooLong", true), ("Unlike", true), ("Wrong", true)])))) (mNil)))) (mNil))))) (gSet 1)) (mRet (mSm smJoin (mC (.str " ")) (mCons (mFz (mLcO (mItL (mVar 1)) (.tp [2, 3]) (mTest (mVar 3)) (mVar 2) [2, 3])) (mNil)))))))))))
def f_lsorts : MX → Res (MV × Env) := mFnE 4 m_lsorts
def m_pBuilder_program : MS := mRet (mTup (mCons (mBlt bTuple (mCons (mFld "Builder" 0 "tables") (mNil))) (mCons (mBlt bTuple (mCons (mFld "Builder" 0 "rows") (mNil))) (mNil))))
def f_pBuilder_program : MF := mFn 1 [0] m_pBuilder_program
def m_pBuilder_cell : MS := mSeq (mFldAug fAddI "Builder" 0 "free" (mC (.int 1))) (mRet (mOp fSub (mFld "Builder" 0 "free") (mC (.int 1))))
def f_pBuilder_cell : MF := mFn 1 [0] m_pBuilder_cell
def m_pBuilder_row : MS := mDrop (mFldLm lmAppend "Builder" 0 "rows" (xCons (xTup (xCons (xV 1) (xCons (xV 2) (xCons (xV 3) (xNil))))) (xNil)))
def f_pBuilder_row : MF := mFn 4 [0] m_pBuilder_row
def m_pBuilder_copied : MS := mSeq (mAsg (mFz (mCallB f_pBuilder_cell (mbO "Builder" "cell" 0 mbNil))) (gSet 2)) (mSeq (mDrop (mFz (mCallB f_pBuilder_row (mbO "Builder" "row" 0 (mbV (mC (.str "copy")) (mbV (mVar 2) (mbV (mVar 1) (mbNil)))))))) (mRet (mVar 2)))
def f_pBuilder_copied : MF := mFn 3 [0] m_pBuilder_copied
def m_pBuilder_ended : MS := mSeq (mEnd1 "right" "Builder") (mRet (mFz (mCallB f_pBuilder_program (mbO "Builder" "program" 0 mbNil))))
def f_pBuilder_ended : MF := mFn 2 [0] m_pBuilder_ended
def m_pBuilder_init : MS := mSeq (mFldNil "Builder" 0 "rows") (mSeq (mFldNil "Builder" 0 "tables") (mSeq (mFldNil "Builder" 0 "worths") (mFldSet "Builder" 0 "free" (mC (.int 32)))))
def f_pBuilder_init : MF := mFn 1 [0] m_pBuilder_init
def m_ptable_of : MS := mRet (mBlt bTuple (mCons (mFz (mLcO (mR1 (mCons (mC (.int 256)) (mNil))) (.nm 1) (mYes) (mFz (mCallV fnTab 0 (mCons (mVar 1) (mNil)))) [1])) (mNil)))
def f_ptable_of : MF := mFn 2 [] m_ptable_of
def m_pBuilder_look : MS := mSeq (mIfS (mTest (mFldNotIn fnNames "Builder" 0 "worths" 2)) (mSeq (mDrop (mFldLm lmAppend "Builder" 0 "worths" (xCons (xV 2) (xNil)))) (mDrop (mFldLm lmAppend "Builder" 0 "tables" (xCons (xCall f_ptable_of (xCons (xV 2) (xNil))) (xNil))))) (mPass)) (mDrop (mFldLm lmAppend "Builder" 0 "rows" (xCons (xTup (xCons (xC (.str "look")) (xCons (xV 1) (xCons (xFldIdx fnNames "Builder" 0 "worths" 2) (xNil))))) (xNil))))
def f_pBuilder_look : MF := mFn 3 [0] m_pBuilder_look
def m_pBuilder_looked : MS := mSeq (mAsg (mFz (mCallB f_pBuilder_copied (mbO "Builder" "copied" 0 (mbV (mVar 1) (mbNil))))) (gSet 3)) (mSeq (mDrop (mFz (mCallB f_pBuilder_look (mbO "Builder" "look" 0 (mbV (mVar 3) (mbV (mVar 2) (mbNil))))))) (mRet (mVar 3)))
def f_pBuilder_looked : MF := mFn 4 [0] m_pBuilder_looked
def m_pBuilder_put : MS := mSeq (mAsg (mFz (mCallB f_pBuilder_cell (mbO "Builder" "cell" 0 mbNil))) (gSet 2)) (mSeq (mDrop (mFldLm lmAppend "Builder" 0 "rows" (xCons (xTup (xCons (xC (.str "put")) (xCons (xV 2) (xCons (xV 1) (xNil))))) (xNil)))) (mRet (mVar 2)))
def f_pBuilder_put : MF := mFn 3 [0] m_pBuilder_put
def m_pcarried : MS := mSeq (mDrop (mFz (mCallB f_pBuilder_row (mbO "Builder" "row" 0 (mbV (mC (.str "add")) (mbV (mVar 1) (mbV (mVar 2) (mbNil)))))))) (mSeq (mDrop (mFz (mCallB f_pBuilder_row (mbO "Builder" "row" 0 (mbV (mC (.str "copy")) (mbV (mVar 2) (mbV (mVar 1) (mbNil)))))))) (mSeq (mDrop (mFz (mCallB f_pBuilder_look (mbO "Builder" "look" 0 (mbV (mVar 2) (mbV (mC (.fnc "ahead_of_last")) (mbNil))))))) (mDrop (mFz (mCallB f_pBuilder_look (mbO "Builder" "look" 0 (mbV (mVar 1) (mbV (mC (.fnc "last_figure")) (mbNil)))))))))
def f_pcarried : MF := mFn 3 [0] m_pcarried
def b_pturn_by_0 : MS := mSeq (mDrop (mFz (mCallB f_pBuilder_row (mbO "Builder" "row" 0 (mbV (mC (.str "add")) (mbV (mOp fIx (mVar 1) (mVar 5)) (mbV (mVar 3) (mbNil)))))))) (mSeq (mDrop (mFz (mCallB f_pBuilder_look (mbO "Builder" "look" 0 (mbV (mOp fIx (mVar 1) (mVar 5)) (mbV (mC (.fnc "nine_less")) (mbNil))))))) (mDrop (mFz (mCallB f_pcarried (mbB 0 (mbV (mOp fIx (mVar 1) (mVar 5)) (mbV (mVar 4) (mbNil))))))))
def m_pturn_by : MS := mSeq (mAsg (mFz (mCallB f_pBuilder_looked (mbO "Builder" "looked" 0 (mbV (mVar 2) (mbV (mC (.fnc "ten_or_none")) (mbNil)))))) (gSet 3)) (mSeq (mAsg (mFz (mCallB f_pBuilder_copied (mbO "Builder" "copied" 0 (mbV (mVar 2) (mbNil))))) (gSet 4)) (mFor (mR3 (mCons (mOp fSub (mBlt bLen (mCons (mVar 1) (mNil))) (mC (.int 1))) (mCons (mUn fNeg (mC (.int 1))) (mCons (mUn fNeg (mC (.int 1))) (mNil))))) (gSet 5) (b_pturn_by_0)))
def f_pturn_by : MF := mFn 6 [0] m_pturn_by
def b_ploaded_0 : MS := mIfS (mTest (mOp fEq (mOp fIx (mVar 1) (mC (.int 0))) (mC (.str "spread")))) (mDrop (mLm lmAppend 3 (mCons (mFz (mCallB f_pBuilder_looked (mbO "Builder" "looked" 0 (mbV (mOp fAdd (mVar 2) (mVar 5)) (mbV (mC (.fnc "low_half")) (mbNil)))))) (mNil)))) (mDrop (mLm lmAppend 3 (mCons (mFz (mCallB f_pBuilder_looked (mbO "Builder" "looked" 0 (mbV (mOp fAdd (mVar 2) (mOp fDiv (mOp fAdd (mVar 5) (mVar 4)) (mC (.int 2)))) (mbV (mOp fIx (mTup (mCons (mC (.fnc "high_half")) (mCons (mC (.fnc "low_half")) (mNil)))) (mOp fMod (mOp fAdd (mVar 5) (mVar 4)) (mC (.int 2)))) (mbNil)))))) (mNil))))
def m_ploaded : MS := mSeq (mSetO 3 (mLstO (mNil))) (mSeq (mAsg (mOp fIx (mFz (mCall f_phalves_of (mCons (mVar 1) (mNil)))) (mC (.int 1))) (gSet 4)) (mSeq (mFor (mR1 (mCons (mOp fIx (mVar 1) (mC (.int 1))) (mNil))) (gSet 5) (b_ploaded_0)) (mSeq (mIfS (mTest (mOp fEq (mOp fIx (mVar 1) (mC (.int 2))) (mC (.str "none")))) (mRet (mTup (mCons (mVar 3) (mCons (mFz (mCallB f_pBuilder_put (mbO "Builder" "put" 0 (mbV (mC (.int 0)) (mbNil))))) (mNil))))) (mPass)) (mSeq (mIfS (mTest (mOp fEq (mOp fIx (mVar 1) (mC (.int 2))) (mC (.str "tens")))) (mSeq (mAsg (mFz (mCallB f_pBuilder_looked (mbO "Builder" "looked" 0 (mbV (mIxV 3 (mC (.int 0))) (mbV (mC (.fnc "five_on")) (mbNil)))))) (gSet 6)) (mSeq (mDrop (mFz (mCallB f_pturn_by (mbB 0 (mbV (mVar 3) (mbV (mVar 6) (mbNil))))))) (mRet (mTup (mCons (mVar 3) (mCons (mVar 6) (mNil))))))) (mPass)) (mSeq (mAsg (mFz (mCallB f_pBuilder_copied (mbO "Builder" "copied" 0 (mbV (mOp fSub (mOp fAdd (mVar 2) (mFz (mCall f_pwidth (mCons (mVar 1) (mNil))))) (mC (.int 1))) (mbNil))))) (gSet 6)) (mSeq (mIfS (mTest (mOp fEq (mOp fIx (mVar 1) (mC (.int 0))) (mC (.str "spread")))) (mDrop (mFz (mCallB f_pBuilder_look (mbO "Builder" "look" 0 (mbV (mVar 6) (mbV (mC (.fnc "high_half")) (mbNil))))))) (mPass)) (mSeq (mDrop (mFz (mCallB f_pBuilder_look (mbO "Builder" "look" 0 (mbV (mVar 6) (mbV (mC (.fnc "sign_below")) (mbNil))))))) (mRet (mTup (mCons (mVar 3) (mCons (mVar 6) (mNil))))))))))))
def f_ploaded : MF := mFn 7 [0] m_ploaded
def m_pnoughts : MS := mRet (mFz (mLcO (mR1 (mCons (mVar 1) (mNil))) (.nm 2) (mYes) (mFz (mCallB0 f_pBuilder_put (mbO "Builder" "put" 0 (mbV (mC (.int 0)) (mbNil))))) [2]))
def f_pnoughts : MF := mFn 3 [0] m_pnoughts
def m_ptaken : MS := mRet (mFz (mLcO (mItV (mVar 1)) (.nm 2) (mYes) (mFz (mCallB0 f_pBuilder_copied (mbO "Builder" "copied" 0 (mbV (mVar 2) (mbNil))))) [2]))
def f_ptaken : MF := mFn 3 [0] m_ptaken
def b_pany_of_0 : MS := mDrop (mFz (mCallB f_pBuilder_row (mbO "Builder" "row" 0 (mbV (mC (.str "or")) (mbV (mVar 2) (mbV (mVar 3) (mbNil)))))))
def m_pany_of : MS := mSeq (mAsg (mFz (mCallB f_pBuilder_put (mbO "Builder" "put" 0 (mbV (mC (.int 0)) (mbNil))))) (gSet 2)) (mSeq (mFor (mItV (mVar 1)) (gSet 3) (b_pany_of_0)) (mSeq (mDrop (mFz (mCallB f_pBuilder_look (mbO "Builder" "look" 0 (mbV (mVar 2) (mbV (mC (.fnc "one_or_none")) (mbNil))))))) (mRet (mVar 2))))
def f_pany_of : MF := mFn 4 [0] m_pany_of
def m_pboth : MS := mSeq (mAsg (mFz (mCallB f_pBuilder_copied (mbO "Builder" "copied" 0 (mbV (mVar 1) (mbNil))))) (gSet 3)) (mSeq (mDrop (mFz (mCallB f_pBuilder_row (mbO "Builder" "row" 0 (mbV (mC (.str "and")) (mbV (mVar 3) (mbV (mVar 2) (mbNil)))))))) (mRet (mVar 3)))
def f_pboth : MF := mFn 4 [0] m_pboth
def m_pjoined : MS := mSeq (mAsg (mFz (mCallB f_pBuilder_looked (mbO "Builder" "looked" 0 (mbV (mVar 1) (mbV (mC (.fnc "half_up")) (mbNil)))))) (gSet 4)) (mSeq (mDrop (mFz (mCallB f_pBuilder_row (mbO "Builder" "row" 0 (mbV (mC (.str "or")) (mbV (mVar 4) (mbV (mVar 2) (mbNil)))))))) (mDrop (mFz (mCallB f_pBuilder_row (mbO "Builder" "row" 0 (mbV (mC (.str "copy")) (mbV (mVar 3) (mbV (mVar 4) (mbNil)))))))))
def f_pjoined : MF := mFn 5 [0] m_pjoined
def b_pstored_0 : MS := mSeq (mDrop (mFz (mCallB f_pBuilder_row (mbO "Builder" "row" 0 (mbV (mC (.str "copy")) (mbV (mOp fAdd (mVar 4) (mVar 7)) (mbV (mOp fIx (mVar 2) (mVar 7)) (mbNil)))))))) (mIfS (mOrT (mTest (mOp fLt (mVar 7) (mOp fSub (mOp fIx (mVar 1) (mC (.int 1))) (mC (.int 1))))) (mTest (mOp fNe (mOp fIx (mVar 1) (mC (.int 2))) (mC (.str "end"))))) (mDrop (mFz (mCallB f_pBuilder_row (mbO "Builder" "row" 0 (mbV (mC (.str "or")) (mbV (mOp fAdd (mVar 4) (mVar 7)) (mbV (mVar 8) (mbNil)))))))) (mDrop (mFz (mCallB f_pjoined (mbB 0 (mbV (mVar 5) (mbV (mOp fIx (mVar 2) (mVar 7)) (mbV (mOp fAdd (mVar 4) (mVar 7)) (mbNil)))))))))
def b_pstored_1 : MS := mDrop (mFz (mCallB f_pjoined (mbB 0 (mbV (mIxV 6 (mVar 7)) (mbV (mIxV 6 (mOp fAdd (mVar 7) (mC (.int 1)))) (mbV (mOp fAdd (mVar 4) (mOp fDiv (mVar 7) (mC (.int 2)))) (mbNil)))))))
def m_pstored : MS := mSeq (mAsg (mFz (mCallB f_pBuilder_put (mbO "Builder" "put" 0 (mbV (mC (.int 12)) (mbNil))))) (gSet 5)) (mSeq (mDrop (mFz (mCallB f_pBuilder_row (mbO "Builder" "row" 0 (mbV (mC (.str "add")) (mbV (mVar 5) (mbV (mVar 3) (mbNil)))))))) (mSeq (mIfS (mTest (mOp fEq (mOp fIx (mVar 1) (mC (.int 0))) (mC (.str "spread")))) (mSeq (mAsg (mFz (mCallB f_pBuilder_put (mbO "Builder" "put" 0 (mbV (mC (.int 240)) (mbNil))))) (gSet 8)) (mSeq (mFor (mR1 (mCons (mOp fIx (mVar 1) (mC (.int 1))) (mNil))) (gSet 7) (b_pstored_0)) (mRetN))) (mPass)) (mSeq (mSetO 6 (mOpO fAddL (mFz (mCallB f_pnoughts (mbB 0 (mbV (mOp fIx (mFz (mCall f_phalves_of (mCons (mVar 1) (mNil)))) (mC (.int 1))) (mbNil))))) (mBlt bList (mCons (mVar 2) (mNil))))) (mSeq (mIfS (mTest (mOp fEq (mOp fIx (mVar 1) (mC (.int 2))) (mC (.str "end")))) (mDrop (mLm lmAppend 6 (mCons (mVar 5) (mNil)))) (mPass)) (mFor (mR3 (mCons (mC (.int 0)) (mCons (mLenV 6) (mCons (mC (.int 2)) (mNil))))) (gSet 7) (b_pstored_1))))))
def f_pstored : MF := mFn 9 [0] m_pstored
def m_pfinished : MS := mSeq (mAsg (mOp fAdd (mFz (mCallB f_pnoughts (mbB 0 (mbV (mBlt bMax (mCons (mC (.int 0)) (mCons (mOp fSub (mOp fIx (mVar 1) (mC (.int 1))) (mBlt bLen (mCons (mVar 2) (mNil)))) (mNil)))) (mbNil))))) (mFz (mCallB f_ptaken (mbB 0 (mbV (mSl (mVar 2) (mPart (mUn fNeg (mOp fIx (mVar 1) (mC (.int 1))))) (mNo)) (mbNil)))))) (gSet 5)) (mSeq (mAsg (mFz (mCallB f_pany_of (mbB 0 (mbV (mSl (mVar 2) (mNo) (mPart (mBlt bMax (mCons (mC (.int 0)) (mCons (mOp fSub (mBlt bLen (mCons (mVar 2) (mNil))) (mOp fIx (mVar 1) (mC (.int 1)))) (mNil)))))) (mbNil))))) (gSet 6)) (mSeq (mAsg (mFz (mCallB f_pboth (mbB 0 (mbV (mFz (mCallB f_pany_of (mbB 0 (mbV (mVar 2) (mbNil))))) (mbV (mVar 3) (mbNil)))))) (gSet 7)) (mSeq (mIfS (mTest (mOp fEq (mOp fIx (mVar 1) (mC (.int 2))) (mC (.str "end")))) (mSeq (mDrop (mFz (mCallB f_pstored (mbB 0 (mbV (mVar 1) (mbV (mVar 5) (mbV (mFz (mCallB f_pboth (mbB 0 (mbV (mFz (mCallB f_pany_of (mbB 0 (mbV (mVar 5) (mbNil))))) (mbV (mVar 3) (mbNil)))))) (mbV (mVar 4) (mbNil))))))))) (mRet (mVar 6))) (mPass)) (mSeq (mDrop (mFz (mCallB f_pturn_by (mbB 0 (mbV (mVar 5) (mbV (mVar 7) (mbNil))))))) (mSeq (mIfS (mTest (mOp fEq (mOp fIx (mVar 1) (mC (.int 2))) (mC (.str "tens")))) (mSeq (mAsg (mFz (mCallB f_pBuilder_looked (mbO "Builder" "looked" 0 (mbV (mOp fIx (mVar 5) (mC (.int 0))) (mbV (mC (.fnc "five_on")) (mbNil)))))) (gSet 8)) (mSeq (mDrop (mFz (mCallB f_pBuilder_row (mbO "Builder" "row" 0 (mbV (mC (.str "add")) (mbV (mVar 8) (mbV (mVar 7) (mbNil)))))))) (mSeq (mDrop (mFz (mCallB f_pBuilder_row (mbO "Builder" "row" 0 (mbV (mC (.str "add")) (mbV (mVar 8) (mbV (mVar 7) (mbNil)))))))) (mSeq (mDrop (mFz (mCallB f_pBuilder_look (mbO "Builder" "look" 0 (mbV (mVar 8) (mbV (mC (.fnc "one_of_two")) (mbNil))))))) (mDrop (mFz (mCallB f_pBuilder_row (mbO "Builder" "row" 0 (mbV (mC (.str "or")) (mbV (mVar 6) (mbV (mVar 8) (mbNil)))))))))))) (mDrop (mFz (mCallB f_pBuilder_row (mbO "Builder" "row" 0 (mbV (mC (.str "or")) (mbV (mVar 6) (mbV (mVar 7) (mbNil))))))))) (mSeq (mDrop (mFz (mCallB f_pstored (mbB 0 (mbV (mVar 1) (mbV (mVar 5) (mbV (mVar 3) (mbV (mVar 4) (mbNil))))))))) (mRet (mVar 6))))))))
def f_pfinished : MF := mFn 9 [0] m_pfinished
def m_lis_row : MS := mSeq (mIfS (mOrT (mNotT (mTest (mBlt bIsi (mCons (mVar 0) (mCons (mC (.raw (.ty "tuple"))) mNil))))) (mOrT (mTest (mOp fLt (mBlt bLen (mCons (mVar 0) (mNil))) (mC (.int 2)))) (mNotT (mTest (mBlt bIsi (mCons (mOp fIx (mVar 0) (mC (.int 0))) (mCons (mC (.raw (.ty "str"))) mNil))))))) (mRet (mC (.bl false))) (mPass)) (mSeq (mIfS (mNotT (mTest (mBlt bAll (mCons (mFz (mLcO (mItV (mSl (mVar 0) (mPart (mC (.int 1))) (mNo))) (.nm 2) (mYes) (mBv (mAndT (mTest (mFz (mCall0 f_lwhole (mCons (mVar 2) (mNil))))) (mTest (mChain fLe fLt (mC (.int 0)) (mVar 2) (mC (.int 256)))))) [2])) (mNil))))) (mRet (mC (.bl false))) (mPass)) (mSeq (mIfS (mTest (mOp fIn (mOp fIx (mVar 0) (mC (.int 0))) (mTup (mCons (mC (.str "left")) (mCons (mC (.str "right")) (mNil)))))) (mRet (mOp fEq (mBlt bLen (mCons (mVar 0) (mNil))) (mC (.int 2)))) (mPass)) (mSeq (mIfS (mTest (mOp fEq (mOp fIx (mVar 0) (mC (.int 0))) (mC (.str "mark")))) (mRet (mBv (mAndT (mTest (mOp fEq (mBlt bLen (mCons (mVar 0) (mNil))) (mC (.int 2)))) (mTest (mOp fLt (mOp fIx (mVar 0) (mC (.int 1))) (mC (.int 2))))))) (mPass)) (mSeq (mIfS (mTest (mOp fEq (mOp fIx (mVar 0) (mC (.int 0))) (mC (.str "look")))) (mRet (mBv (mAndT (mTest (mOp fEq (mBlt bLen (mCons (mVar 0) (mNil))) (mC (.int 3)))) (mTest (mOp fLt (mOp fIx (mVar 0) (mC (.int 2))) (mVar 1)))))) (mPass)) (mRet (mBv (mAndT (mTest (mOp fEq (mBlt bLen (mCons (mVar 0) (mNil))) (mC (.int 3)))) (mTest (mOp fIn (mOp fIx (mVar 0) (mC (.int 0))) (mTup (mCons (mC (.str "put")) (mCons (mC (.str "copy")) (mCons (mC (.str "add")) (mCons (mC (.str "addc")) (mCons (mC (.str "and")) (mCons (mC (.str "or")) (mNil)))))))))))))))))
def f_lis_row : MF := mFn 3 [] m_lis_row
def m_lis_program : MS := mSeq (mIfS (mOrT (mNotT (mTest (mBlt bIsi (mCons (mVar 0) (mCons (mC (.raw (.ty "tuple"))) mNil))))) (mOrT (mTest (mOp fNe (mBlt bLen (mCons (mVar 0) (mNil))) (mC (.int 2)))) (mNotT (mTest (mBlt bAll (mCons (mFz (mLcO (mItV (mVar 0)) (.nm 3) (mYes) (mBlt bIsi (mCons (mVar 3) (mCons (mC (.raw (.ty "tuple"))) mNil))) [3])) (mNil))))))) (mRet (mC (.bl false))) (mPass)) (mSeq (mIfS (mOrT (mTest (mOp fGt (mBlt bLen (mCons (mOp fIx (mVar 0) (mC (.int 0))) (mNil))) (mC (.int 16)))) (mTest (mOp fGt (mBlt bLen (mCons (mOp fIx (mVar 0) (mC (.int 1))) (mNil))) (mC (.int 9000))))) (mRet (mC (.bl false))) (mPass)) (mSeq (mIfS (mNotT (mTest (mBlt bAll (mCons (mFz (mLcO (mItV (mOp fIx (mVar 0) (mC (.int 0)))) (.nm 2) (mYes) (mFz (mCall0 f_lbytes (mCons (mVar 2) (mCons (mC (.int 256)) (mNil))))) [2])) (mNil))))) (mRet (mC (.bl false))) (mPass)) (mRet (mBlt bAll (mCons (mFz (mLcO (mItV (mOp fIx (mVar 0) (mC (.int 1)))) (.nm 1) (mYes) (mFz (mCall0 f_lis_row (mCons (mVar 1) (mCons (mBlt bLen (mCons (mOp fIx (mVar 0) (mC (.int 0))) (mNil))) (mNil))))) [1])) (mNil))))))
def f_lis_program : MF := mFn 4 [] m_lis_program
def m_lrules : MS := mRet (mLst (mCons (mC (.str "cut")) (mCons (mC (.str "up")) (mCons (mC (.str "half")) (mCons (mC (.str "even")) (mCons (mC (.str "floor")) (mCons (mC (.str "ceil")) (mNil))))))))
def f_lrules : MF := mFn 0 [] m_lrules
def m_ppast_half : MS := mSeq (mAsg (mFz (mCallB f_pBuilder_looked (mbO "Builder" "looked" 0 (mbV (mVar 1) (mbV (mC (.fnc "five_on")) (mbNil)))))) (gSet 4)) (mSeq (mAsg (mFz (mCallB f_pany_of (mbB 0 (mbV (mVar 2) (mbNil))))) (gSet 5)) (mSeq (mIfS (mTest (mOp fNotN (mVar 3) (mC .non))) (mDrop (mFz (mCallB f_pBuilder_row (mbO "Builder" "row" 0 (mbV (mC (.str "or")) (mbV (mVar 5) (mbV (mFz (mCallB f_pBuilder_looked (mbO "Builder" "looked" 0 (mbV (mVar 3) (mbV (mC (.fnc "lowest_two")) (mbNil)))))) (mbNil)))))))) (mPass)) (mSeq (mAsg (mFz (mCallB f_pboth (mbB 0 (mbV (mVar 4) (mbV (mVar 5) (mbNil)))))) (gSet 6)) (mSeq (mDrop (mFz (mCallB f_pBuilder_row (mbO "Builder" "row" 0 (mbV (mC (.str "or")) (mbV (mVar 6) (mbV (mFz (mCallB f_pBuilder_looked (mbO "Builder" "looked" 0 (mbV (mVar 1) (mbV (mC (.fnc "six_on")) (mbNil)))))) (mbNil)))))))) (mRet (mVar 6))))))
def f_ppast_half : MF := mFn 7 [0] m_ppast_half
def m_padded_by : MS := mSeq (mIfS (mTest (mOp fEq (mVar 4) (mC (.str "cut")))) (mRet (mFz (mCallB f_pBuilder_put (mbO "Builder" "put" 0 (mbV (mC (.int 0)) (mbNil)))))) (mPass)) (mSeq (mIfS (mTest (mOp fEq (mVar 4) (mC (.str "half")))) (mRet (mFz (mCallB f_pBuilder_looked (mbO "Builder" "looked" 0 (mbV (mOp fIx (mVar 2) (mC (.int 0))) (mbV (mC (.fnc "five_on")) (mbNil))))))) (mPass)) (mSeq (mIfS (mTest (mOp fEq (mVar 4) (mC (.str "even")))) (mSeq (mAsg (mC .non) (gSet 6)) (mSeq (mIfS (mTest (mOp fGt (mBlt bLen (mCons (mVar 1) (mNil))) (mC (.int 0)))) (mAsg (mOp fIx (mVar 1) (mUn fNeg (mC (.int 1)))) (gSet 6)) (mPass)) (mRet (mFz (mCallB f_ppast_half (mbB 0 (mbV (mOp fIx (mVar 2) (mC (.int 0))) (mbV (mSl (mVar 2) (mPart (mC (.int 1))) (mNo)) (mbV (mVar 6) (mbNil)))))))))) (mPass)) (mSeq (mAsg (mFz (mCallB f_pany_of (mbB 0 (mbV (mVar 2) (mbNil))))) (gSet 5)) (mSeq (mIfS (mTest (mOp fEq (mVar 4) (mC (.str "floor")))) (mRet (mFz (mCallB f_pboth (mbB 0 (mbV (mVar 5) (mbV (mVar 3) (mbNil))))))) (mPass)) (mSeq (mIfS (mTest (mOp fEq (mVar 4) (mC (.str "ceil")))) (mRet (mFz (mCallB f_pboth (mbB 0 (mbV (mVar 5) (mbV (mFz (mCallB f_pBuilder_looked (mbO "Builder" "looked" 0 (mbV (mVar 3) (mbV (mC (.fnc "one_of_none")) (mbNil)))))) (mbNil))))))) (mPass)) (mRet (mVar 5)))))))
def f_padded_by : MF := mFn 7 [0] m_padded_by
def b_pmoved_rows_0 : MS := mDrop (mFz (mCallB f_pcarried (mbB 3 (mbV (mVar 7) (mbV (mVar 5) (mbNil))))))
def m_pmoved_rows : MS := mSeq (mIfS (mTest (mOp fNotIn (mVar 2) (mC (.tup [(.str "cut"), (.str "up"), (.str "half"), (.str "even"), (.str "floor"), (.str "ceil")])))) (mRaise1 "NoRule" "rule" (mVar 2)) (mPass)) (mSeq (mIfS (mTest (mOp fGt (mBlt bAbs (mCons (mVar 1) (mNil))) (mOp fIx (mVar 0) (mC (.int 1))))) (mRaise1 "TooLong" "number" (mVar 1)) (mPass)) (mSeq (mSetO 3 (mMake "Builder" f_pBuilder_init)) (mSeq (mAsg (mFz (mCallB f_ploaded (mbB 3 (mbV (mVar 0) (mbV (mC (.int 0)) (mbNil)))))) (gTp 2 (gsCons (gSet 8) (gsCons (gSet 9) (gsNil))))) (mSeq (mIfS (mTest (mOp fGe (mVar 1) (mC (.int 0)))) (mRet (mFz (mCallB f_pBuilder_ended (mbO "Builder" "ended" 3 (mbV (mFz (mCallB f_pfinished (mbB 3 (mbV (mVar 0) (mbV (mOp fAdd (mVar 8) (mFz (mCallB f_pnoughts (mbB 3 (mbV (mVar 1) (mbNil)))))) (mbV (mVar 9) (mbV (mC (.int 0)) (mbNil)))))))) (mbNil)))))) (mPass)) (mSeq (mAsg (mSl (mVar 8) (mNo) (mPart (mOp fAdd (mOp fIx (mVar 0) (mC (.int 1))) (mVar 1)))) (gSet 4)) (mSeq (mAsg (mFz (mCallB f_padded_by (mbB 3 (mbV (mVar 4) (mbV (mSl (mVar 8) (mPart (mOp fAdd (mOp fIx (mVar 0) (mC (.int 1))) (mVar 1))) (mNo)) (mbV (mVar 9) (mbV (mVar 2) (mbNil)))))))) (gSet 5)) (mSeq (mAsg (mOp fAdd (mFz (mCallB f_pnoughts (mbB 3 (mbV (mC (.int 1)) (mbNil))))) (mVar 4)) (gSet 6)) (mSeq (mFor (mRev (mCons (mVar 6) (mNil))) (gSet 7) (b_pmoved_rows_0)) (mRet (mFz (mCallB f_pBuilder_ended (mbO "Builder" "ended" 3 (mbV (mFz (mCallB f_pfinished (mbB 3 (mbV (mVar 0) (mbV (mVar 6) (mbV (mVar 9) (mbV (mC (.int 0)) (mbNil)))))))) (mbNil))))))))))))))
def f_pmoved_rows : MF := mFn 10 [] m_pmoved_rows
def b_lasked3_0 : MS := mAsg (mFz (mCall f_pmoved_rows (mCons (mVar 0) (mCons (mVar 1) (mCons (mVar 2) (mNil)))))) (gSet 3)
def m_lasked3 : MS := mSeq (mAsg (mC .non) (gSet 3)) (mSeq (mAsg (mC (.str "")) (gSet 4)) (mSeq (mTry 5 [("NoRule", true), ("TooLong", true)] (b_lasked3_0) (fun ex => mSeq (mAsg (mCallE f_lsorts ex) (gSet 4)) (mSeq (mIfS (mTest (mOp fEq (mVar 4) (mC (.str "NoRule")))) (mAsg (mExF ex "rule") (gSet 3)) (mPass)) (mIfS (mTest (mOp fEq (mVar 4) (mC (.str "TooLong")))) (mAsg (mExF ex "number") (gSet 3)) (mPass))))) (mRet (mTup (mCons (mVar 3) (mCons (mVar 4) (mNil)))))))
def f_lasked3 : MF := mFn 6 [] m_lasked3
def m_lright2 : MS := mSeq (mAsg (mFz (mCall f_ldraws (mCons (mFz (mCall f_lcell (mCons (mVar 0) (mCons (mVar 1) (mNil))))) (mCons (mC (.int 3)) (mCons (mLst (mCons (mC (.int 6)) (mCons (mC (.int 2)) (mCons (mC (.int 3)) (mCons (mC (.int 6)) (mCons (mC (.int 12)) (mNil))))))) (mNil)))))) (gTp 5 (gsCons (gSet 5) (gsCons (gSet 6) (gsCons (gSet 7) (gsCons (gSet 8) (gsCons (gSet 9) (gsNil)))))))) (mSeq (mAsg (mFz (mCall f_ldraws (mCons (mFz (mCall f_lcell (mCons (mVar 0) (mCons (mOp fAdd (mVar 1) (mC (.int 1))) (mNil))))) (mCons (mC (.int 4)) (mCons (mLst (mCons (mC (.int 25)) (mCons (mC (.int 13)) (mCons (mC (.int 8)) (mCons (mC (.int 2)) (mCons (mOp fPow (mC (.int 10)) (mC (.int 39))) (mNil))))))) (mNil)))))) (gTp 5 (gsCons (gSet 3) (gsCons (gSet 10) (gsCons (gSet 11) (gsCons (gSet 12) (gsCons (gSet 13) (gsNil)))))))) (mSeq (mAsg (mFz (mCall f_lform (mCons (mVar 6) (mCons (mVar 9) (mCons (mVar 7) (mNil)))))) (gSet 2)) (mSeq (mAsg (mOp fAdd (mSl (mVar 2) (mNo) (mPart (mC (.int 3)))) (mTup (mCons (mOp fMod (mVar 10) (mOp fAdd (mOp fIx (mVar 2) (mC (.int 1))) (mC (.int 1)))) (mNil)))) (gSet 2)) (mSeq (mAsg (mOp fSub (mOp fMod (mVar 3) (mOp fAdd (mOp fMul (mC (.int 2)) (mOp fIx (mVar 2) (mC (.int 1)))) (mC (.int 1)))) (mOp fIx (mVar 2) (mC (.int 1)))) (gSet 3)) (mSeq (mAsg (mOp fIx (mFz (mCall0 f_lrules mNil)) (mVar 8)) (gSet 4)) (mSeq (mIfS (mOrT (mTest (mOp fEq (mVar 5) (mC (.int 0)))) (mTest (mOp fEq (mVar 5) (mC (.int 2))))) (mAsg (mOp fMul (mOp fAdd (mOp fAdd (mOp fIx (mVar 2) (mC (.int 1))) (mC (.int 1))) (mOp fMod (mVar 13) (mOp fIx (mLst (mCons (mC (.int 40)) (mCons (mOp fPow (mC (.int 10)) (mC (.int 39))) (mNil)))) (mVar 12)))) (mOp fSub (mC (.int 1)) (mOp fMul (mC (.int 2)) (mOp fMod (mVar 10) (mC (.int 2)))))) (gSet 3)) (mPass)) (mSeq (mIfS (mOrT (mTest (mOp fEq (mVar 5) (mC (.int 1)))) (mTest (mOp fEq (mVar 5) (mC (.int 2))))) (mAsg (mOp fIx (mLst (mCons (mC (.str "")) (mCons (mC (.str "odd")) (mCons (mC (.str "down")) (mCons (mC (.str "Cut")) (mCons (mC (.str "up ")) (mCons (mC (.str "halfs")) (mCons (mC (.str "eve")) (mCons (mC (.str "floors")) (mNil)))))))))) (mVar 11)) (gSet 4)) (mPass)) (mSeq (mAsg (mFz (mCall f_lasked3 (mCons (mVar 2) (mCons (mVar 3) (mCons (mVar 4) (mNil)))))) (gTp 2 (gsCons (gSet 14) (gsCons (gSet 15) (gsNil))))) (mSeq (mIfS (mOrT (mTest (mOp fEq (mVar 5) (mC (.int 1)))) (mTest (mOp fEq (mVar 5) (mC (.int 2))))) (mRet (mBv (mAndT (mTest (mOp fEq (mVar 15) (mC (.str "NoRule")))) (mTest (mOp fEq (mVar 14) (mVar 4)))))) (mPass)) (mSeq (mIfS (mTest (mOp fEq (mVar 5) (mC (.int 0)))) (mRet (mBv (mAndT (mTest (mOp fEq (mVar 15) (mC (.str "TooLong")))) (mAndT (mTest (mFz (mCall f_lwhole (mCons (mVar 14) (mNil))))) (mTest (mOp fEq (mVar 14) (mVar 3))))))) (mPass)) (mRet (mBv (mAndT (mTest (mOp fEq (mVar 15) (mC (.str "")))) (mTest (mFz (mCall f_lis_program (mCons (mVar 14) (mNil))))))))))))))))))
def f_lright2 : MF := mFn 16 [] m_lright2
def m_law34 : MS := mRet (mBlt bAll (mCons (mFz (mLcO (mR1 (mCons (mC (.int 6)) (mNil))) (.nm 1) (mYes) (mFz (mCall0 f_lright2 (mCons (mVar 0) (mCons (mOp fMul (mC (.int 2)) (mVar 1)) (mNil))))) [1])) (mNil)))
def f_law34 : MF := mFn 2 [] m_law34
theorem lcell_ok (ns : List Int) (k : Nat) : ∃ v : Int, f_lcell [.scr ns, .int k] = .ok (.int v, []) := by
  unfold f_lcell
  by_cases h : (k : Int) < ns.length
  · have h' : k < ns.length := by omega
    refine ⟨ns[k], mFn_ok ?_⟩
    simp [m_lcell, h', atI_ge]
  · by_cases h0 : ns.length = 0
    · have h' : ns = [] := List.length_eq_zero_iff.mp h0
      subst h'
      refine ⟨7919 * (k + 1), mFn_ok ?_⟩
      simp [m_lcell, mulOk_l]
    · have h' : ¬ k < ns.length := by omega
      have hp : (0 : Int) < ns.length := by omega
      have e := fmod_ge' (a := k) hp
      have e2 := fmod_lt' (a := k) hp
      have h2 : ((k : Int).fmod ns.length).toNat < ns.length := by omega
      have h3 : ¬ ns = [] := by intro h; subst h; exact h0 rfl
      have h4 : ¬ ((ns.length : Int) = 0) := by omega
      refine ⟨ns[((k : Int).fmod ns.length).toNat] + 104729 * k, mFn_ok ?_⟩
      simp [m_lcell, h', h3, h4, atI_ge e, h2, mulOk_l]
theorem lmixed_ok (a b c : Int) : ∃ v : Int, f_lmixed [.int a, .int b, .int c] = .ok (.int v, []) := by
  unfold f_lmixed
  have e := fmod_ge' (a := b) (b := 8) (by decide)
  have e2 := fmod_lt' (a := b) (b := 8) (by decide)
  generalize hi : b.fmod 8 = i at e e2
  obtain ⟨p, hp, hp1, hp2⟩ : ∃ p : Int, atI [MV.int 2147483629, .int 2147483587, .int 2147483579, .int 2147483563, .int 2147483549, .int 2147483543, .int 2147483497, .int 2147483489] i = some (.int p) ∧ 0 < p ∧ p < 2147483648 := by
    obtain ⟨j, rfl⟩ := Int.eq_ofNat_of_zero_le e
    match j, e2 with
    | 0, _ => exact ⟨_, rfl, by decide, by decide⟩
    | 1, _ => exact ⟨_, rfl, by decide, by decide⟩
    | 2, _ => exact ⟨_, rfl, by decide, by decide⟩
    | 3, _ => exact ⟨_, rfl, by decide, by decide⟩
    | 4, _ => exact ⟨_, rfl, by decide, by decide⟩
    | 5, _ => exact ⟨_, rfl, by decide, by decide⟩
    | 6, _ => exact ⟨_, rfl, by decide, by decide⟩
    | 7, _ => exact ⟨_, rfl, by decide, by decide⟩
    | j + 8, h => exact absurd h (by omega)
  have b1 : ∀ x : Int, 0 ≤ x.fmod 2147483647 ∧ x.fmod 2147483647 < 2147483647 := fun x => ⟨fmod_ge' (by decide), fmod_lt' (by decide)⟩
  have b2 : ∀ x : Int, (x.fmod 2147483647).natAbs < 18446744073709551616 := fun x => by have := b1 x; omega
  have b3 : ∀ x : Int, mulOk (x.fmod 2147483647) 1000000007 = true := fun x => mulOk_r (by decide) (by decide)
  have h : ∃ v ρ, m_lmixed [some (.int a), some (.int b), some (.int c), none, none, none] = .ok (.rt (.int v), ρ) := by
    simp [m_lmixed, szOk_small, mulOk_l, hi, hp, hp1, Int.ne_of_gt hp1, b2, b3]
  obtain ⟨v, ρ, h⟩ := h
  exact ⟨v, mFn_ok ⟨ρ, h⟩⟩
def DrawsAre (ws ds : List Int) : Prop := ds.length = ws.length ∧ ∀ i (h : i < ws.length) (h' : i < ds.length), 0 ≤ ds[i] ∧ ds[i] < ws[i]
theorem ldraws_ok (cell salt : Int) (ws : List Int) (hn : ws.length < 1000) (hw : ∀ w ∈ ws, 0 < w ∧ divOk w = true) : ∃ ds : List Int, DrawsAre ws ds ∧ f_ldraws [.int cell, .int salt, .lst (ws.map .int)] = .ok (.own (ds.map .int), []) := by
  have key : ∀ l0 : Int, ∃ ρ', mLoop (gSet 5) b_ldraws_0 (rngM 0 1 ws.length) [some (.int cell), some (.int salt), some (.lst (ws.map .int)), some (.own []), some (.int l0), none] = .ok (.nx, ρ') ∧ ∃ ds l v, DrawsAre (ws.take ws.length) ds ∧ ρ' = [some (.int cell), some (.int salt), some (.lst (ws.map .int)), some (.own (ds.map .int)), some (.int l), v] := by
    intro l0
    refine loop_rng (fun i ρ => ∃ ds l v, DrawsAre (ws.take i) ds ∧ ρ = [some (.int cell), some (.int salt), some (.lst (ws.map .int)), some (.own (ds.map .int)), some (.int l), v]) ⟨[], l0, none, ⟨by simp, by simp⟩, rfl⟩ ?_
    rintro i ρ hi ⟨ds, l, v, ⟨hd1, hd2⟩, rfl⟩
    have hwi := hw ws[i] (List.getElem_mem hi)
    have hl : ds.length = i := by rw [hd1, List.length_take]; omega
    have ix : atI (ws.map MV.int) (i : Int) = some (.int ws[i]) := by rw [atI_ge (by omega)]; simp [hi]
    have ds' : ∀ d : Int, DrawsAre (ws.take (i + 1)) (ds ++ [d.fmod ws[i]]) := by
      intro d
      refine ⟨by simp [hl, List.length_take]; omega, fun j h h' => ?_⟩
      have hj : j ≤ i := by rw [List.length_take] at h; omega
      rw [List.getElem_take]
      by_cases e : j = i
      · subst e
        rw [List.getElem_append_right (by omega)]
        simp [hl]
        exact ⟨fmod_ge' hwi.1, fmod_lt' hwi.1⟩
      · have := hd2 j (by rw [List.length_take]; omega) (by omega)
        rw [List.getElem_append_left (by omega)]
        rw [List.getElem_take] at this
        exact this
    have hsz : ds.length < sizeLine := by rw [sizeLine_eq]; omega
    by_cases hp : 0 < l
    · refine ⟨[some (.int cell), some (.int salt), some (.lst (ws.map .int)), some (.own (ds.map .int)), some (.int l), some (.int i)], [some (.int cell), some (.int salt), some (.lst (ws.map .int)), some (.own ((ds ++ [l.fmod ws[i]]).map .int)), some (.int (l.fdiv ws[i])), some (.int i)], ?_, .inl ?_, ⟨_, _, _, ds' l, rfl⟩⟩
      · simp
      · simp [b_ldraws_0, hp, isOwn, ix, Int.ne_of_gt hwi.1, hsz, hwi.2]
    · obtain ⟨m, hm⟩ := lmixed_ok cell i salt
      refine ⟨[some (.int cell), some (.int salt), some (.lst (ws.map .int)), some (.own (ds.map .int)), some (.int l), some (.int i)], [some (.int cell), some (.int salt), some (.lst (ws.map .int)), some (.own ((ds ++ [m.fmod ws[i]]).map .int)), some (.int l), some (.int i)], ?_, .inl ?_, ⟨_, _, _, ds' m, rfl⟩⟩
      · simp
      · simp [b_ldraws_0, hp, isOwn, ix, hm, Int.ne_of_gt hwi.1, hsz]
  have e0 : inR (ws.length : Int) = true := inR_of (by omega) (by omega)
  unfold f_ldraws
  by_cases hc : (1000000000000000000 : Int) ≤ (if cell < 0 then -cell else cell)
  · obtain ⟨ρ', h, ds, l, v, hd, rfl⟩ := key (if cell < 0 then -cell else cell)
    refine ⟨ds, by simpa using hd, mFn_ok ?_⟩
    · simp [m_ldraws, szOk_small, hc, e0, h]
  · obtain ⟨ρ', h, ds, l, v, hd, rfl⟩ := key 0
    refine ⟨ds, by simpa using hd, mFn_ok ?_⟩
    · simp [m_ldraws, szOk_small, hc, e0, h]
theorem draws_nil {ds : List Int} : DrawsAre [] ds ↔ ds = [] := by
  constructor
  · intro h; exact List.length_eq_zero_iff.mp h.1
  · rintro rfl; exact ⟨rfl, by simp⟩
theorem draws_cons {w : Int} {ws ds : List Int} : DrawsAre (w :: ws) ds ↔ ∃ d r, ds = d :: r ∧ (0 ≤ d ∧ d < w) ∧ DrawsAre ws r := by
  constructor
  · intro h
    match ds, h with
    | [], h => exact absurd h.1 (by simp)
    | d :: r, h =>
      refine ⟨d, r, rfl, h.2 0 (by simp) (by simp), by simpa using h.1, fun i h1 h2 => ?_⟩
      exact h.2 (i + 1) (by simpa using h1) (by simpa using h2)
  · rintro ⟨d, r, rfl, h1, h2⟩
    refine ⟨by simpa using h2.1, fun i a b => ?_⟩
    match i with
    | 0 => exact h1
    | i + 1 => exact h2.2 i (by simpa using a) (by simpa using b)
theorem lwhole_int (i : Int) : f_lwhole [.int i] = .ok (.bl true, []) := by
  refine mFn_ok ?_
  simp [m_lwhole, bIsi, MV.kd, kdOf, Kd.isa]
def Form (kd : Str) (n : Nat) (sg : Str) (p : MV) : MV := .tup [.str kd, .int n, .str sg, p]
def most (n : Nat) (sg : Str) : Int := if sg = "tens" then 5 * 10 ^ (n - 1) - 1 else 10 ^ n - 1
section
variable {kd sg : Str} {n : Nat} {p : MV}
theorem at1 {a b c d : MV} : atI [a, b, c, d] 1 = some b := rfl
theorem at2 {a b c d : MV} : atI [a, b, c, d] 2 = some c := rfl
end
theorem rg_two (q : Nat) (hq : q < 1000000) : rgOk 0 (2 * q : Nat) 2 = true ∧ (Builtin.Range.rangeSize 0 (2 * q : Nat) 2).toNat = q := by
  have e : Builtin.Range.rangeSize 0 (2 * q : Nat) 2 = q := by
    unfold Builtin.Range.rangeSize
    rw [if_pos (by decide)]
    split <;> omega
  refine ⟨?_, by rw [e]; rfl⟩
  unfold rgOk
  rw [e]
  have e1 : Builtin.Range.small 0 (2 * q : Nat) 2 = true := by
    unfold Builtin.Range.small
    rw [e]
    simp [Builtin.Range.rangeFitsLong]
    omega
  rw [e1]
  simp
def manyM (n : Nat) (sg : Str) : Nat := n + if sg = "end" then 1 else 0
theorem many_even (m : Nat) : m % 2 + m = 2 * ((m + 1) / 2) := by omega
section
variable {kd sg : Str} {n : Nat} {p : MV}
theorem phalves_of_eq : f_phalves_of [Form kd n sg p] = .ok (.tup [.int (manyM n sg + manyM n sg % 2 : Nat), .int (manyM n sg % 2 : Nat)], []) := by
  refine mFn_ok ?_
  have e : ((manyM n sg : Nat) : Int).fmod 2 = (manyM n sg % 2 : Nat) := nat_fmod _ 2
  unfold Form
  by_cases h : sg = "end"
  · have z : (n : Int) + 1 = (manyM n sg : Nat) := by simp [manyM, h]
    subst h
    simp [m_phalves_of, z, e, szOk_small]
  · have z : (n : Int) + 0 = (manyM n sg : Nat) := by simp [manyM, h]
    have z' : (n : Int) = (manyM n sg : Nat) := by simp [manyM, h]
    simp [m_phalves_of, h, szOk_small]
    rw [z', e]
    simp
end
section
variable {kd sg : Str} {n : Nat} {p : MV}
theorem spread_ne : ¬ (("spread" : Str) = "packed") := by decide
end
section
variable {kd sg : Str} {n : Nat} {p : MV}
def roomM (kd sg : Str) (n : Nat) : Nat := if kd = "packed" then (manyM n sg + 1) / 2 else n
end
section
variable {kd sg : Str} {n : Nat} {p : MV}
theorem room_int : ((manyM n sg + manyM n sg % 2 : Nat) : Int).fdiv 2 = ((manyM n sg + 1) / 2 : Nat) := by
  rw [show ((manyM n sg + manyM n sg % 2 : Nat) : Int).fdiv 2 = ((manyM n sg + manyM n sg % 2) / 2 : Nat) from nat_fdiv _ 2]
  congr 1
  omega
theorem pwidth_eq (hk : kd = "packed" ∨ kd = "spread") : f_pwidth [Form kd n sg p] = .ok (.int (roomM kd sg n), []) := by
  refine mFn_ok ?_
  rcases hk with rfl | rfl
  · have ho := @phalves_of_eq "packed" sg n p
    have e := @room_int sg n
    unfold Form at ho
    generalize hq : ((manyM n sg + manyM n sg % 2 : Nat) : Int) = q at ho e
    simp [m_pwidth, Form, ho, e, divOk, roomM]
  · simp [m_pwidth, Form, spread_ne, roomM]
end
theorem blsOf_rep : ∀ n : Nat, blsOf (List.replicate n (.bl true)) = some (List.replicate n true)
  | 0 => rfl
  | n + 1 => by
    rw [List.replicate_succ]
    simp only [blsOf, blsOf_rep n]
    rfl
theorem lbytes_ok (xs : List Nat) (hl : xs.length ≤ 100000) (hx : ∀ b ∈ xs, b < 256) : f_lbytes [.tup (xs.map fun d : Nat => MV.int d), .int xs.length] = .ok (.bl true, []) := by
  refine mFn_ok ?_
  have key : mLcO (mItV (mVar 0)) (.nm 2) (mYes) (mBv (mAndT (mTest (mFz (mCall0 f_lwhole (mCons (mVar 2) (mNil))))) (mTest (mChain fLe fLt (mC (.int 0)) (mVar 2) (mC (.int 256)))))) [2] [some (.tup (xs.map fun d : Nat => MV.int d)), some (.int xs.length), none] = .ok (.own (List.replicate xs.length (.bl true)), [some (.tup (xs.map fun d : Nat => MV.int d)), some (.int xs.length), none]) := by
    rw [← show (xs.map fun d : Nat => MV.int d).map (fun _ => MV.bl true) = List.replicate xs.length (.bl true) by rw [List.map_const', List.length_map]]
    refine mLcO_map (fun _ => .bl true) (by simp) (by simp [perAt]) ?_ (by rw [sizeLine_eq, List.length_map]; omega)
    intro z hz
    obtain ⟨d, hd, rfl⟩ := List.mem_map.mp hz
    have h1 := hx d hd
    have h2 : (d : Int) < 256 := by omega
    have h3 := lwhole_int d
    refine ⟨[some (.tup (xs.map fun d : Nat => MV.int d)), some (.int xs.length), some (.int d)], by simp [setT, wipeM], by simp [h2, h3], by simp [wipeM], by simp⟩
  simp [m_lbytes, bIsi, MV.kd, kdOf, Kd.isa, key, bAll, blsOf_rep]
theorem room_pos (kd sg : Str) {n : Nat} (h : 1 ≤ n) : 1 ≤ roomM kd sg n := by
  have : n ≤ manyM n sg := by unfold manyM; omega
  unfold roomM
  split <;> omega
def fB (fr : Nat) (ws : List Str) (rs : List MV) (tab : Str → MV) : List (Str × MV) := [("rows", .own rs), ("tables", .own (ws.map tab)), ("worths", .own (ws.map MV.fnc)), ("free", .int fr)]
def Bo (fr : Nat) (ws : List Str) (rs : List MV) (tab : Str → MV) : MV := .obj "Builder" (fB fr ws rs tab)
section
variable {fr : Nat} {ws : List Str} {rs : List MV} {tab : Str → MV} {ρ : Env} {r x y z : Option MV}
@[simp] theorem Bo_held : (Bo fr ws rs tab).held = true := nr rfl
@[simp] theorem Bo_fold : MV.obj (Str.ofString "Builder") (fB fr ws rs tab) = Bo fr ws rs tab := nr rfl
@[simp] theorem oat0 : objAt (some (Bo fr ws rs tab) :: ρ) 0 (Str.ofString "Builder") = some (fB fr ws rs tab) := nr (objAt_get rfl)
@[simp] theorem oat1 : objAt (x :: some (Bo fr ws rs tab) :: ρ) 1 (Str.ofString "Builder") = some (fB fr ws rs tab) := nr (objAt_get rfl)
@[simp] theorem oat2 : objAt (x :: y :: some (Bo fr ws rs tab) :: ρ) 2 (Str.ofString "Builder") = some (fB fr ws rs tab) := nr (objAt_get rfl)
@[simp] theorem oat3 : objAt (x :: y :: z :: some (Bo fr ws rs tab) :: ρ) 3 (Str.ofString "Builder") = some (fB fr ws rs tab) := nr (objAt_get rfl)
@[simp] theorem lk_rows : (fB fr ws rs tab).lookup (Str.ofString "rows") = some (.own rs) := nr rfl
@[simp] theorem lk_tables : (fB fr ws rs tab).lookup (Str.ofString "tables") = some (.own (ws.map tab)) := nr rfl
@[simp] theorem lk_worths : (fB fr ws rs tab).lookup (Str.ofString "worths") = some (.own (ws.map MV.fnc)) := nr rfl
@[simp] theorem lk_free : (fB fr ws rs tab).lookup (Str.ofString "free") = some (.int fr) := nr rfl
@[simp] theorem lk_cell : (fB fr ws rs tab).lookup (Str.ofString "cell") = none := nr rfl
@[simp] theorem lk_put : (fB fr ws rs tab).lookup (Str.ofString "put") = none := nr rfl
@[simp] theorem lk_row : (fB fr ws rs tab).lookup (Str.ofString "row") = none := nr rfl
@[simp] theorem lk_look : (fB fr ws rs tab).lookup (Str.ofString "look") = none := nr rfl
@[simp] theorem lk_copied : (fB fr ws rs tab).lookup (Str.ofString "copied") = none := nr rfl
@[simp] theorem lk_looked : (fB fr ws rs tab).lookup (Str.ofString "looked") = none := nr rfl
@[simp] theorem lk_ended : (fB fr ws rs tab).lookup (Str.ofString "ended") = none := nr rfl
@[simp] theorem lk_program : (fB fr ws rs tab).lookup (Str.ofString "program") = none := nr rfl
@[simp] theorem lk_back_to : (fB fr ws rs tab).lookup (Str.ofString "back_to") = none := nr rfl
@[simp] theorem put_rows {zs : List MV} : putM (Str.ofString "rows") (.own zs) (fB fr ws rs tab) = fB fr ws zs tab := nr rfl
@[simp] theorem put_free {k : Nat} : putM (Str.ofString "free") (.int k) (fB fr ws rs tab) = fB k ws rs tab := nr rfl
@[simp] theorem put_free1 : putM (Str.ofString "free") (.int ((fr : Int) + 1)) (fB fr ws rs tab) = fB (fr + 1) ws rs tab := nr rfl
@[simp] theorem fB_len : (fB fr ws rs tab).length = 4 := nr rfl
theorem pinit_eq : f_pBuilder_init [.obj "Builder" []] = .ok (.non, [some (Bo 32 [] [] tab)]) := mFn_nxB ⟨_, rfl, rfl⟩
theorem make_eq : mMake "Builder" f_pBuilder_init (r :: ρ) = .ok (Bo 32 [] [] tab, r :: ρ) := by
  unfold mMake
  rw [@pinit_eq tab]
  rfl
theorem pcell_eq : f_pBuilder_cell [Bo fr ws rs tab] = .ok (.int fr, [some (Bo (fr + 1) ws rs tab)]) := by
  refine mFn_rtB ⟨[some (Bo (fr + 1) ws rs tab)], ?_, rfl⟩
  simp [m_pBuilder_cell, mFldAug, fldAug, mFld, fAddI, flatM, MV.per]
theorem prow_eq {w : Str} {a b : Int} (h : rs.length < 16777216) : f_pBuilder_row [Bo fr ws rs tab, .str w, .int a, .int b] = .ok (.non, [some (Bo fr ws (rs ++ [.tup [.str w, .int a, .int b]]) tab)]) := by
  refine mFn_nxB ⟨[some (Bo fr ws (rs ++ [.tup [.str w, .int a, .int b]]) tab), some (.str w), some (.int a), some (.int b)], ?_, rfl⟩
  have hz : rs.length < sizeLine := by rw [sizeLine_eq]; exact h
  simp [m_pBuilder_row, mFldLm, xCons, xTup, xV, xNil, MV.per, szOk_small, lmAppend, hz]
theorem pput_eq {v : Int} (h : rs.length < 16777216) : f_pBuilder_put [Bo fr ws rs tab, .int v] = .ok (.int fr, [some (Bo (fr + 1) ws (rs ++ [.tup [.str "put", .int fr, .int v]]) tab)]) := by
  refine mFn_rtB ⟨[some (Bo (fr + 1) ws (rs ++ [.tup [.str "put", .int fr, .int v]]) tab), some (.int v), some (.int fr)], ?_, rfl⟩
  have hz : rs.length < sizeLine := by rw [sizeLine_eq]; exact h
  have c := @pcell_eq fr ws rs tab
  simp [m_pBuilder_put, c, mFldLm, xCons, xTup, xV, xC, xNil, MV.per, szOk_small, lmAppend, hz]
theorem pcopied_eq {v : Int} (h : rs.length < 16777216) : f_pBuilder_copied [Bo fr ws rs tab, .int v] = .ok (.int fr, [some (Bo (fr + 1) ws (rs ++ [.tup [.str "copy", .int fr, .int v]]) tab)]) := by
  refine mFn_rtB ⟨[some (Bo (fr + 1) ws (rs ++ [.tup [.str "copy", .int fr, .int v]]) tab), some (.int v), some (.int fr)], ?_, rfl⟩
  have c := @pcell_eq fr ws rs tab
  have d := @prow_eq (fr + 1) ws rs tab "copy" fr v h
  simp [m_pBuilder_copied, c, d]
def lkW (ws : List Str) (w : Str) : List Str := if w ∈ ws then ws else ws ++ [w]
def lkI (ws : List Str) (w : Str) : Nat := (lkW ws w).findIdx fun z => decide (z = w)
theorem lk_mem (ws : List Str) (w : Str) : w ∈ lkW ws w := by
  unfold lkW; split
  · assumption
  · simp
theorem lk_find (ws : List Str) (w : Str) : ((lkW ws w).findIdx? fun z => decide (z = w)) = some (lkI ws w) := by
  unfold lkI
  rw [List.findIdx?_eq_guard_findIdx_lt]
  have : (lkW ws w).findIdx (fun z => decide (z = w)) < (lkW ws w).length := List.findIdx_lt_length_of_exists ⟨w, lk_mem ws w, by simp⟩
  simp [Option.guard, this]
theorem plook_eq {c : Int} {w : Str} (hz : rs.length < 16777216) (hl : ws.length < 100) (hw : w ∈ fnNames) (hs : ∀ z ∈ ws, z ∈ fnNames) (ht : f_ptable_of [.fnc w] = .ok (tab w, [])) (hp : (tab w).per = true) :
    f_pBuilder_look [Bo fr ws rs tab, .int c, .fnc w] = .ok (.non, [some (Bo fr (lkW ws w) (rs ++ [.tup [.str "look", .int c, .int (lkI ws w)]]) tab)]) := by
  refine mFn_nxB ⟨[some (Bo fr (lkW ws w) (rs ++ [.tup [.str "look", .int c, .int (lkI ws w)]]) tab), some (.int c), some (.fnc w)], ?_, rfl⟩
  have hz' : rs.length < sizeLine := by rw [sizeLine_eq]; exact hz
  have hl' : ws.length < sizeLine := by rw [sizeLine_eq]; omega
  have hf := lk_find ws w
  have c1 : (fnNames.contains w && ws.all fnNames.contains) = true := by
    rw [Bool.and_eq_true, List.contains_iff_mem, List.all_eq_true]
    exact ⟨hw, fun z h => List.contains_iff_mem.mpr (hs z h)⟩
  have c2 : (fnNames.contains w && (lkW ws w).all fnNames.contains) = true := by
    rw [Bool.and_eq_true, List.contains_iff_mem, List.all_eq_true]
    refine ⟨hw, fun z h => List.contains_iff_mem.mpr ?_⟩
    unfold lkW at h
    split at h
    · exact hs z h
    · rcases List.mem_append.mp h with h | h
      · exact hs z h
      · rw [List.mem_singleton.mp h]; exact hw
  have last : ∀ ws2, lkW ws w = ws2 → (mDrop (mFldLm lmAppend "Builder" 0 "rows" (xCons (xTup (xCons (xC (.str "look")) (xCons (xV 1) (xCons (xFldIdx fnNames "Builder" 0 "worths" 2) (xNil))))) (xNil)))) [some (Bo fr ws2 rs tab), some (.int c), some (.fnc w)] = .ok (.nx, [some (Bo fr (lkW ws w) (rs ++ [.tup [.str "look", .int c, .int (lkI ws w)]]) tab), some (.int c), some (.fnc w)]) := by
    intro ws2 e
    subst e
    have fm := fncs_map (lkW ws w)
    have fx : xFldIdx fnNames "Builder" 0 "worths" 2 [some (Bo fr (lkW ws w) rs tab), some (.int c), some (.fnc w)] = some (.int (lkI ws w)) := by
      show (match objAt [some (Bo fr (lkW ws w) rs tab), some (.int c), some (.fnc w)] 0 "Builder", some (some (MV.fnc w)) with
        | some fs, some (some (.fnc w)) => (match fs.lookup ("worths" : Str) with
          | some (.own xs) => (match fncsOf xs with | some ws => if (fnNames.contains w && ws.all fnNames.contains) = true then (match ws.findIdx? fun z => decide (z = w) with | some k => some (MV.int (k : Nat)) | none => none) else none | none => none)
          | _ => none)
        | _, _ => none) = _
      rw [oat0]
      show (match fncsOf ((lkW ws w).map MV.fnc) with | some ws => if (fnNames.contains w && ws.all fnNames.contains) = true then (match ws.findIdx? fun z => decide (z = w) with | some k => some (MV.int (k : Nat)) | none => none) else none | none => none) = _
      rw [fm]
      show (if (fnNames.contains w && (lkW ws w).all fnNames.contains) = true then (match (lkW ws w).findIdx? fun z => decide (z = w) with | some k => some (MV.int (k : Nat)) | none => none) else none) = _
      rw [if_pos c2, hf]
    generalize lkW ws w = W at *
    generalize lkI ws w = I at *
    simp [mFldLm, xCons, xTup, xV, xC, xNil, fx, MV.per, szOk_small, lmAppend, hz']
  have nin : mTest (mFldNotIn fnNames "Builder" 0 "worths" 2) [some (Bo fr ws rs tab), some (.int c), some (.fnc w)] = .ok (!ws.any fun z => decide (z = w), [some (Bo fr ws rs tab), some (.int c), some (.fnc w)]) := by
    have e : mFldNotIn fnNames "Builder" 0 "worths" 2 [some (Bo fr ws rs tab), some (.int c), some (.fnc w)] = .ok (.bl (!ws.any fun z => decide (z = w)), [some (Bo fr ws rs tab), some (.int c), some (.fnc w)]) := by
      show (match objAt [some (Bo fr ws rs tab), some (.int c), some (.fnc w)] 0 "Builder", some (some (MV.fnc w)) with
        | some fs, some (some (.fnc w)) => (match fs.lookup ("worths" : Str) with
          | some (.own xs) => (match fncsOf xs with | some ws2 => if (fnNames.contains w && ws2.all fnNames.contains) = true then Res.ok (MV.bl (!ws2.any fun z => decide (z = w)), [some (Bo fr ws rs tab), some (MV.int c), some (MV.fnc w)]) else Res.stuck | none => .stuck)
          | _ => .stuck)
        | _, _ => .stuck) = _
      rw [oat0]
      show (match fncsOf (ws.map MV.fnc) with | some ws2 => if (fnNames.contains w && ws2.all fnNames.contains) = true then Res.ok (MV.bl (!ws2.any fun z => decide (z = w)), [some (Bo fr ws rs tab), some (MV.int c), some (MV.fnc w)]) else Res.stuck | none => .stuck) = _
      rw [fncs_map]
      exact if_pos c1
    rw [mTest_ap, e]; rfl
  by_cases hm : w ∈ ws
  · have ha : (ws.any fun z => decide (z = w)) = true := List.any_eq_true.mpr ⟨w, hm, by simp⟩
    rw [ha] at nin
    have l := last ws (by unfold lkW; rw [if_pos hm])
    simp [m_pBuilder_look, nin, l]
  · have ha : (ws.any fun z => decide (z = w)) = false := by
      rw [List.any_eq_false]
      intro z hz
      simp only [decide_eq_true_eq]
      intro e; exact hm (e ▸ hz)
    rw [ha] at nin
    have l := last (ws ++ [w]) (by unfold lkW; rw [if_neg hm])
    have a1 : lmAppend (ws.map MV.fnc) [MV.fnc w] = some (ws.map MV.fnc ++ [MV.fnc w], .non) := by
      show (if _ then _ else _) = _
      rw [if_pos (decide_eq_true (by rw [List.length_map]; exact hl'))]
    have a2 : lmAppend (ws.map tab) [tab w] = some (ws.map tab ++ [tab w], .non) := by
      show (if _ then _ else _) = _
      rw [if_pos (decide_eq_true (by rw [List.length_map]; exact hl'))]
    have s1 : (mDrop (mFldLm lmAppend "Builder" 0 "worths" (xCons (xV 2) (xNil)))) [some (Bo fr ws rs tab), some (.int c), some (.fnc w)] = .ok (.nx, [some (.obj "Builder" [("rows", .own rs), ("tables", .own (ws.map tab)), ("worths", .own (ws.map MV.fnc ++ [MV.fnc w])), ("free", .int fr)]), some (.int c), some (.fnc w)]) := by
      show ((match lmAppend (ws.map MV.fnc) [MV.fnc w] with | some (zs, z) => if z.per then Res.ok (z, [some (MV.obj "Builder" (putM "worths" (.own zs) (fB fr ws rs tab))), some (MV.int c), some (MV.fnc w)]) else .stuck | none => .stuck).bind fun _ ρ1 => Res.ok (Fl.nx, ρ1)) = _
      rw [a1]; rfl
    have x2 : (xCons (xCall f_ptable_of (xCons (xV 2) (xNil))) (xNil)) [some (.obj "Builder" [("rows", .own rs), ("tables", .own (ws.map tab)), ("worths", .own (ws.map MV.fnc ++ [MV.fnc w])), ("free", .int fr)]), some (.int c), some (.fnc w)] = some [tab w] := by
      show (match (match f_ptable_of [.fnc w] with | .ok (v, _) => if v.per then some v else none | _ => none), some [] with | some x, some xs => some (x :: xs) | _, _ => none) = _
      rw [ht]
      show (match (if (tab w).per = true then some (tab w) else none), some [] with | some x, some xs => some (x :: xs) | _, _ => none) = _
      rw [if_pos hp]
    have s2 : (mDrop (mFldLm lmAppend "Builder" 0 "tables" (xCons (xCall f_ptable_of (xCons (xV 2) (xNil))) (xNil)))) [some (.obj "Builder" [("rows", .own rs), ("tables", .own (ws.map tab)), ("worths", .own (ws.map MV.fnc ++ [MV.fnc w])), ("free", .int fr)]), some (.int c), some (.fnc w)] = .ok (.nx, [some (Bo fr (ws ++ [w]) rs tab), some (.int c), some (.fnc w)]) := by
      show ((match some (MV.own (ws.map tab)), (xCons (xCall f_ptable_of (xCons (xV 2) (xNil))) (xNil)) [some (.obj "Builder" [("rows", .own rs), ("tables", .own (ws.map tab)), ("worths", .own (ws.map MV.fnc ++ [MV.fnc w])), ("free", .int fr)]), some (.int c), some (.fnc w)] with
        | some (.own xs), some ys => (match lmAppend xs ys with | some (zs, z) => if z.per then Res.ok (z, [some (MV.obj "Builder" (putM "tables" (.own zs) [("rows", .own rs), ("tables", .own (ws.map tab)), ("worths", .own (ws.map MV.fnc ++ [MV.fnc w])), ("free", .int fr)])), some (MV.int c), some (MV.fnc w)]) else .stuck | none => .stuck)
        | _, _ => .stuck).bind fun _ ρ1 => Res.ok (Fl.nx, ρ1)) = _
      rw [x2]
      show ((match lmAppend (ws.map tab) [tab w] with | some (zs, z) => if z.per then Res.ok (z, [some (MV.obj "Builder" (putM "tables" (.own zs) [("rows", .own rs), ("tables", .own (ws.map tab)), ("worths", .own (ws.map MV.fnc ++ [MV.fnc w])), ("free", .int fr)])), some (MV.int c), some (MV.fnc w)]) else .stuck | none => .stuck).bind fun _ ρ1 => Res.ok (Fl.nx, ρ1)) = _
      rw [a2]
      unfold Bo fB
      rw [List.map_append, List.map_append]
      rfl
    simp only [mDrop_ap] at s1 s2 l
    simp [m_pBuilder_look, nin, s1, s2, l]
theorem plooked_eq {c : Int} {w : Str} (hz : rs.length + 2 < 16777216) (hl : ws.length < 100) (hw : w ∈ fnNames) (hs : ∀ z ∈ ws, z ∈ fnNames) (ht : f_ptable_of [.fnc w] = .ok (tab w, [])) (hp : (tab w).per = true) :
    f_pBuilder_looked [Bo fr ws rs tab, .int c, .fnc w] = .ok (.int fr, [some (Bo (fr + 1) (lkW ws w) (rs ++ [.tup [.str "copy", .int fr, .int c], .tup [.str "look", .int fr, .int (lkI ws w)]]) tab)]) := by
  refine mFn_rtB ⟨[some (Bo (fr + 1) (lkW ws w) (rs ++ [.tup [.str "copy", .int fr, .int c], .tup [.str "look", .int fr, .int (lkI ws w)]]) tab), some (.int c), some (.fnc w), some (.int fr)], ?_, rfl⟩
  have a := @pcopied_eq fr ws rs tab c (by omega)
  have b := @plook_eq (fr + 1) ws (rs ++ [.tup [.str "copy", .int fr, .int c]]) tab fr w (by simp; omega) hl hw hs ht hp
  rw [List.append_assoc] at b
  have e : ∀ x y : MV, [x] ++ [y] = [x, y] := fun _ _ => rfl
  rw [e] at b
  simp [m_pBuilder_looked, a, b]
theorem pprogram_eq : f_pBuilder_program [Bo fr ws rs tab] = .ok (.tup [.tup (ws.map tab), .tup rs], [some (.obj "Builder" [("rows", .lst rs), ("tables", .lst (ws.map tab)), ("worths", .own (ws.map MV.fnc)), ("free", .int fr)])]) := by
  refine mFn_rtB ⟨[some (.obj "Builder" [("rows", .lst rs), ("tables", .lst (ws.map tab)), ("worths", .own (ws.map MV.fnc)), ("free", .int fr)])], ?_, rfl⟩
  rfl
theorem ptable_eq {w : Str} {f : MF} {g : Nat → Nat} (hf : fnTab.lookup w = some f) (h : ∀ b : Nat, b < 256 → f [.int b] = .ok (.int (g b), [])) : f_ptable_of [.fnc w] = .ok (.tup ((List.range 256).map fun b => .int (g b)), []) := by
  refine mFn_ok ?_
  have lc : mLcO (mR1 (mCons (mC (.int 256)) (mNil))) (.nm 1) (mYes) (mFz (mCallV fnTab 0 (mCons (mVar 1) (mNil)))) [1] [some (.fnc w), none] = .ok (.own ((List.range 256).map fun b => .int (g b)), [some (.fnc w), none]) := by
    have e := mLcO_nm (it := mR1 (mCons (mC (.int 256)) (mNil))) (e := mFz (mCallV fnTab 0 (mCons (mVar 1) (mNil)))) (v := 1) (ρ := [some (.fnc w), none]) (xs := rngM 0 1 256) (fun x => match x with | .int i => .int (g i.toNat) | _ => .non) (by
      have : inR (256 : Int) = true := inR_of (by decide) (by decide)
      simp [this]) rfl (by
      intro x hx
      obtain ⟨i, hi, rfl⟩ := List.mem_map.mp hx
      have hi := List.mem_range.mp hi
      have e0 : (0 + (i : Nat) * (1 : Int)) = i := by omega
      rw [e0]
      have hb := h i hi
      show ((mCallV fnTab 0 (mCons (mVar 1) (mNil))) [some (.fnc w), some (.int i)]).bind _ = _
      show (Res.bind (match fnTab.lookup w with | some f => mCall0 f (mCons (mVar 1) (mNil)) [some (MV.fnc w), some (MV.int i)] | none => .stuck) _) = _
      rw [hf]
      simp [hb]) (by rw [sizeLine_eq]; show 256 ≤ _; decide)
    rw [e]
    have e2 : (rngM 0 1 256).map (fun x => match x with | .int i => MV.int (g i.toNat) | _ => MV.non) = (List.range 256).map fun b => MV.int (g b) := by
      unfold rngM
      rw [List.map_map]
      apply List.map_congr_left
      intro i _
      have : (0 + (i : Nat) * (1 : Int)).toNat = i := by omega
      show MV.int (g (0 + (i : Nat) * (1 : Int)).toNat) = MV.int (g i)
      rw [this]
    rw [e2]
  simp [m_ptable_of, lc]
end
def w01 (p : Bool) : Nat := if p then 1 else 0
def wtab : List (Str × (Nat → Nat)) := [
  ("sign_below", fun b => w01 (decide (b % 16 = 11 ∨ b % 16 = 13))),
  ("five_on", fun b => w01 (decide (4 < b))),
  ("ten_or_none", fun b => 10 * w01 (decide (0 < b))),
  ("nine_less", fun b => if 9 < b ∧ b < 20 then 19 - b else b),
  ("ahead_of_last", fun b => b / 10),
  ("last_figure", fun b => b % 10),
  ("high_half", fun b => b / 16),
  ("low_half", fun b => b % 16),
  ("one_or_none", fun b => w01 (decide (0 < b))),
  ("half_up", fun b => b % 16 * 16),
  ("one_of_two", fun b => w01 (decide (b % 4 = 1 ∨ b % 4 = 2))),
  ("not_all", fun b => w01 (decide (b < 255))),
  ("none_or_all", fun b => 255 * w01 (decide (b = 0))),
  ("lacking", fun b => (9 + 10 * 26 - b) % 10),
  ("fill", fun b => 255 * (1 - b / 128)),
  ("top_two", fun b => b / 128),
  ("other_twos", fun b => 255 - b),
  ("ten_low", fun b => 10 * b % 256),
  ("ten_high", fun b => 10 * b / 256),
  ("six_on", fun b => w01 (decide (5 < b))),
  ("product_byte", fun b => b / 16 * (b % 16)),
  ("order_byte", fun b => if b % 4 = 0 then 1 else if b % 4 = 1 then 2 else if b % 4 = 2 then 1 else 0),
  ("one_of_none", fun b => w01 (decide (b = 0))),
  ("lowest_two", fun b => b % 2),
  ("all_or_none", fun b => 255 * w01 (decide (0 < b)))]
def worthV (w : Str) (b : Nat) : Nat := match wtab.lookup w with | some g => g b | none => 0
def tabW (w : Str) : MV := .tup ((List.range 256).map fun b => .int (worthV w b))
def okW (f : MF) (g : Nat → Nat) : Bool := (List.range 256).all fun b => match f [.int b] with | .ok (.int v, []) => v == (g b : Int) | _ => false
theorem okW_of {f : MF} {g : Nat → Nat} (h : okW f g = true) : ∀ b : Nat, b < 256 → f [.int b] = .ok (.int (g b), []) := by
  intro b hb
  have := List.all_eq_true.mp h b (List.mem_range.mpr hb)
  split at this
  · rename_i v e
    rw [e]
    have : v = (g b : Int) := by simpa using this
    rw [this]
  · cases this
theorem tabs_ok : (fnTab.all fun p => okW p.2 (worthV p.1)) = true := by decide +kernel
theorem names_tab : (fnNames.all fun w => (fnTab.lookup w).isSome) = true := by decide +kernel
theorem tab_ok {w : Str} (h : w ∈ fnNames) : f_ptable_of [.fnc w] = .ok (tabW w, []) := by
  have h1 := List.all_eq_true.mp names_tab w h
  obtain ⟨f, hf⟩ := Option.isSome_iff_exists.mp h1
  have h2 := List.all_eq_true.mp tabs_ok (w, f) (lookup_memP hf)
  exact ptable_eq hf (okW_of h2)
inductive Rw where
  | put (a v : Nat) | copy (a b : Nat) | look (a k : Nat) | add (a b : Nat) | addc (a b : Nat) | and_ (a b : Nat) | or_ (a b : Nat) | left (a : Nat) | right (a : Nat) | mark (v : Nat)
def enR : Rw → MV
  | .put a v => .tup [.str "put", .int a, .int v]
  | .copy a b => .tup [.str "copy", .int a, .int b]
  | .look a k => .tup [.str "look", .int a, .int k]
  | .add a b => .tup [.str "add", .int a, .int b]
  | .addc a b => .tup [.str "addc", .int a, .int b]
  | .and_ a b => .tup [.str "and", .int a, .int b]
  | .or_ a b => .tup [.str "or", .int a, .int b]
  | .left a => .tup [.str "left", .int a]
  | .right a => .tup [.str "right", .int a]
  | .mark v => .tup [.str "mark", .int v]
def cg (c : List Nat) (i : Nat) : Nat := c.getD i 0
def okR (nt : Nat) : Rw → Bool
  | .put a v => decide (a < 256) && decide (v < 256)
  | .look a k => decide (a < 256) && decide (k < nt)
  | .copy a b => decide (a < 256) && decide (b < 256)
  | .add a b => decide (a < 256) && decide (b < 256)
  | .addc a b => decide (a < 256) && decide (b < 256)
  | .and_ a b => decide (a < 256) && decide (b < 256)
  | .or_ a b => decide (a < 256) && decide (b < 256)
  | .left a => decide (a < 256)
  | .right a => decide (a < 256)
  | .mark v => decide (v < 2)
def encC (c : List Nat) : List MV := c.map fun d : Nat => MV.int d
theorem encC_at {c : List Nat} {i : Nat} (h : i < c.length) : atI (encC c) (i : Int) = some (.int (cg c i : Nat)) := by
  rw [atI_ge (by omega)]
  simp [encC, cg, h]
def Cells (c : List Nat) : Prop := c.length = 256 ∧ ∀ i, cg c i < 256
theorem cg_set {c : List Nat} {a v i : Nat} : cg (c.set a v) i = if i = a ∧ a < c.length then v else cg c i := by
  unfold cg
  rw [List.getD_eq_getElem?_getD, List.getD_eq_getElem?_getD, List.getElem?_set]
  by_cases h : a = i
  · subst h
    by_cases h2 : a < c.length
    · simp [h2]
    · simp [h2, List.getElem?_eq_none (Nat.le_of_not_lt h2)]
  · have : ¬ (i = a) := fun e => h e.symm
    simp [h, this]
theorem Cells.set {c : List Nat} (h : Cells c) {a v : Nat} (hv : v < 256) : Cells (c.set a v) := by
  refine ⟨by rw [List.length_set]; exact h.1, fun i => ?_⟩
  rw [cg_set]
  split
  · exact hv
  · exact h.2 i
inductive Ab where
  | r (x : Rw) | lk (c : Nat) (w : Str)
def layA (s : List Str × List Rw) : Ab → List Str × List Rw
  | .r x => (s.1, s.2 ++ [x])
  | .lk c w => (lkW s.1 w, s.2 ++ [.look c (lkI s.1 w)])
def lays (as : List Ab) (s : List Str × List Rw) : List Str × List Rw := as.foldl layA s
def okAb : Ab → Bool
  | .r _ => true
  | .lk _ w => fnNames.contains w
theorem lays_app (a b : List Ab) (s : List Str × List Rw) : lays (a ++ b) s = lays b (lays a s) := List.foldl_append
def Gd (s : List Str × List Rw) (k : Nat) : Prop := s.1.Nodup ∧ (∀ z ∈ s.1, z ∈ fnNames) ∧ s.2.length + k < 16777216
theorem nodup_le : ∀ {l m : List Str}, l.Nodup → (∀ z ∈ l, z ∈ m) → l.length ≤ m.length
  | [], m, _, _ => Nat.zero_le _
  | a :: l, m, h, hs => by
    obtain ⟨h1, h2⟩ := List.nodup_cons.mp h
    have ha := hs a (by simp)
    have ih := @nodup_le l (m.erase a) h2 (fun z hz => by
      have ne : z ≠ a := fun e => h1 (by rw [← e]; exact hz)
      exact (List.mem_erase_of_ne ne).mpr (hs z (List.mem_cons_of_mem _ hz)))
    rw [List.length_erase_of_mem ha] at ih
    have := List.length_pos_of_mem ha
    simp; omega
theorem Gd.len {s : List Str × List Rw} {k : Nat} (h : Gd s k) : s.1.length < 100 := by
  have h1 : s.1.length ≤ fnNames.length := nodup_le h.1 fun z hz => h.2.1 z hz
  have h2 : fnNames.length < 100 := by decide +kernel
  omega
theorem Gd.less {s : List Str × List Rw} {k j : Nat} (h : Gd s k) (hj : j ≤ k) : Gd s j := ⟨h.1, h.2.1, by have := h.2.2; omega⟩
theorem layA_len (s : List Str × List Rw) (a : Ab) : (layA s a).2.length = s.2.length + 1 := by cases a <;> simp [layA]
theorem lkW_nodup {ws : List Str} {w : Str} (h : ws.Nodup) : (lkW ws w).Nodup := by
  unfold lkW
  split
  · exact h
  · rename_i hn
    rw [List.nodup_append]
    refine ⟨h, by simp, ?_⟩
    intro a ha b hb e
    rw [List.mem_singleton.mp hb] at e
    exact hn (e ▸ ha)
theorem Gd.step {s : List Str × List Rw} {k : Nat} (h : Gd s (k + 1)) {a : Ab} (ha : okAb a = true) : Gd (layA s a) k := by
  refine ⟨?_, ?_, by rw [layA_len]; have := h.2.2; omega⟩
  · cases a with
    | r x => exact h.1
    | lk c w => exact lkW_nodup h.1
  · cases a with
    | r x => exact h.2.1
    | lk c w =>
      intro z hz
      have hw : w ∈ fnNames := List.contains_iff_mem.mp ha
      simp only [layA] at hz
      unfold lkW at hz
      split at hz
      · exact h.2.1 z hz
      · rcases List.mem_append.mp hz with hz | hz
        · exact h.2.1 z hz
        · rw [List.mem_singleton.mp hz]; exact hw
theorem Gd.lays {k : Nat} : ∀ {as : List Ab} {s : List Str × List Rw}, Gd s (as.length + k) → as.all okAb = true → Gd (lays as s) k
  | [], s, h, _ => by simpa [Tm.lays] using h
  | a :: as, s, h, ha => by
    rw [List.all_cons, Bool.and_eq_true] at ha
    have h1 : Gd (layA s a) (as.length + k) := Gd.step (h.less (by simp; omega)) ha.1
    show Gd (Tm.lays as (layA s a)) k
    exact Gd.lays h1 ha.2
def bS (fr : Nat) (s : List Str × List Rw) : MV := Bo fr s.1 (s.2.map enR) tabW
theorem bput {fr : Nat} {s : List Str × List Rw} (h : Gd s 1) (v : Nat) : f_pBuilder_put [bS fr s, .int v] = .ok (.int fr, [some (bS (fr + 1) (layA s (.r (.put fr v))))]) := by
  have := @pput_eq fr s.1 (s.2.map enR) tabW v (by have := h.2.2; simp; omega)
  unfold bS
  rw [this]
  simp [layA, enR]
theorem bcopied {fr : Nat} {s : List Str × List Rw} (h : Gd s 1) (c : Nat) : f_pBuilder_copied [bS fr s, .int c] = .ok (.int fr, [some (bS (fr + 1) (layA s (.r (.copy fr c))))]) := by
  have := @pcopied_eq fr s.1 (s.2.map enR) tabW c (by have := h.2.2; simp; omega)
  unfold bS
  rw [this]
  simp [layA, enR]
theorem blook {fr : Nat} {s : List Str × List Rw} (h : Gd s 1) (c : Nat) {w : Str} (hw : w ∈ fnNames) : f_pBuilder_look [bS fr s, .int c, .fnc w] = .ok (.non, [some (bS fr (layA s (.lk c w)))]) := by
  have := @plook_eq fr s.1 (s.2.map enR) tabW c w (by have := h.2.2; simp; omega) h.len hw h.2.1 (tab_ok hw) rfl
  unfold bS
  rw [this]
  simp [layA, enR]
theorem blooked {fr : Nat} {s : List Str × List Rw} (h : Gd s 2) (c : Nat) {w : Str} (hw : w ∈ fnNames) : f_pBuilder_looked [bS fr s, .int c, .fnc w] = .ok (.int fr, [some (bS (fr + 1) (layA (layA s (.r (.copy fr c))) (.lk fr w)))]) := by
  have := @plooked_eq fr s.1 (s.2.map enR) tabW c w (by have := h.2.2; simp; omega) h.len hw h.2.1 (tab_ok hw) rfl
  unfold bS
  rw [this]
  simp [layA, enR]
theorem brow2 {fr : Nat} {s : List Str × List Rw} (h : Gd s 1) (wd : Str) (a b : Nat) (x : Rw) (hx : enR x = .tup [.str wd, .int a, .int b]) : f_pBuilder_row [bS fr s, .str wd, .int a, .int b] = .ok (.non, [some (bS fr (layA s (.r x)))]) := by
  have := @prow_eq fr s.1 (s.2.map enR) tabW wd a b (by have := h.2.2; simp; omega)
  unfold bS
  rw [this]
  simp [layA, hx]
theorem lkW_pre (ws : List Str) (w : Str) : ws <+: lkW ws w := by
  unfold lkW
  split
  · exact List.prefix_refl _
  · exact List.prefix_append _ _
theorem lc_st {e : ME} {v : Nat} (st : Nat → Env) (y : Nat → MV) : ∀ (xs : List MV) (k : Nat) (acc : List MV) (ρ : Env), ρ.set v none = st k → (∀ i x, xs[i]? = some x → (st (k + i))[v]? = some none ∧ e ((st (k + i)).set v (some x)) = .ok (y (k + i), (st (k + i + 1)).set v (some x)) ∧ (st (k + i + 1)).length = (st (k + i)).length ∧ (st (k + i + 1))[v]? = some none) → acc.length + xs.length ≤ sizeLine →
    ∃ ρ', mLcLoop (.nm v) mYes e [v] xs acc ρ = .ok (acc ++ (List.range xs.length).map (fun i => y (k + i)), ρ') ∧ ρ'.set v none = st (k + xs.length)
  | [], k, acc, ρ, h, _, _ => ⟨ρ, by simp [mLcLoop], h⟩
  | x :: xs, k, acc, ρ, h, hs, hz => by
    obtain ⟨h1, h2, h3, h4⟩ := hs 0 x rfl
    rw [Nat.add_zero] at h1 h2 h3 h4
    have lv : v < (st k).length := lt_get h1
    have w : wipeM ρ [v] = st k := h
    have ll : ρ.length = (st k).length := by rw [← h, List.length_set]
    obtain ⟨ρ', r1, r2⟩ := lc_st (e := e) (v := v) st y xs (k + 1) (acc ++ [y k]) ((st (k + 1)).set v (some x)) (by rw [List.set_set]; exact set_none h4) (fun i z hi => by
      have := hs (i + 1) z (by simpa using hi)
      rw [show k + (i + 1) = k + 1 + i by omega] at this
      exact this) (by simp at hz ⊢; omega)
    refine ⟨ρ', ?_, by rw [r2]; congr 1; simp; omega⟩
    rw [mLcLoop, w]
    have e1 : setT (.nm v) x (st k) = some ((st k).set v (some x)) := if_pos lv
    rw [e1]
    show (e ((st k).set v (some x))).b0 _ = _
    rw [h2]
    show (if acc.length < sizeLine ∧ ((st (k + 1)).set v (some x)).length = ρ.length then mLcLoop (.nm v) mYes e [v] xs (acc ++ [y k]) ((st (k + 1)).set v (some x)) else .stuck) = _
    rw [if_pos ⟨by simp at hz; omega, by rw [List.length_set, ll]; exact h3⟩, r1]
    congr 2
    rw [List.length_cons, List.range_succ_eq_map, List.map_cons, List.map_map, List.append_assoc]
    congr 1
    show y k :: _ = y (k + 0) :: _
    congr 1
    apply List.map_congr_left
    intro i _
    show y (k + 1 + i) = y (k + (i + 1))
    congr 1; omega
theorem mLcO_st {it : MI} {e : ME} {v : Nat} {ρ : Env} {xs : List MV} (st : Nat → Env) (y : Nat → MV) (hi : it ρ = .ok (xs, st 0)) (hv : (st 0)[v]? = some none) (hs : ∀ i x, xs[i]? = some x → (st i)[v]? = some none ∧ e ((st i).set v (some x)) = .ok (y i, (st (i + 1)).set v (some x)) ∧ (st (i + 1)).length = (st i).length ∧ (st (i + 1))[v]? = some none) (hz : xs.length ≤ sizeLine) :
    mLcO it (.nm v) mYes e [v] ρ = .ok (.own ((List.range xs.length).map y), st xs.length) := by
  obtain ⟨ρ', r1, r2⟩ := lc_st (e := e) (v := v) st y xs 0 [] (st 0) (set_none hv) (by simpa using hs) (by simpa using hz)
  unfold mLcO
  rw [hi, bind_ok, if_pos (by simp [perAt, hv]), r1]
  simp only [b0_ok, List.nil_append, Nat.zero_add]
  rw [Nat.zero_add] at r2
  have : backM (st 0) ρ' [v] = ρ'.set v none := by
    show ρ'.set v (((st 0)[v]?).join) = _
    rw [hv]; rfl
  rw [this, r2]
section
variable {fr : Nat} {s : List Str × List Rw} {ρ : Env} {x y z : Option MV}
@[simp] theorem bS_held : (bS fr s).held = true := nr rfl
@[simp] theorem bat0 : objAt (some (bS fr s) :: ρ) 0 (Str.ofString "Builder") = some (fB fr s.1 (s.2.map enR) tabW) := nr (objAt_get rfl)
@[simp] theorem bat1 : objAt (x :: some (bS fr s) :: ρ) 1 (Str.ofString "Builder") = some (fB fr s.1 (s.2.map enR) tabW) := nr (objAt_get rfl)
@[simp] theorem bat2 : objAt (x :: y :: some (bS fr s) :: ρ) 2 (Str.ofString "Builder") = some (fB fr s.1 (s.2.map enR) tabW) := nr (objAt_get rfl)
@[simp] theorem bat3 : objAt (x :: y :: z :: some (bS fr s) :: ρ) 3 (Str.ofString "Builder") = some (fB fr s.1 (s.2.map enR) tabW) := nr (objAt_get rfl)
end
theorem nm (w : Str) (h : fnNames.contains w = true) : w ∈ fnNames := List.contains_iff_mem.mp h
def carA (cell carry : Nat) : List Ab := [.r (.add cell carry), .r (.copy carry cell), .lk carry "ahead_of_last", .lk cell "last_figure"]
theorem pcarried_eq {fr : Nat} {s : List Str × List Rw} {cell carry : Nat} (h : Gd s 4) : f_pcarried [bS fr s, .int cell, .int carry] = .ok (.non, [some (bS fr (lays (carA cell carry) s))]) := by
  refine mFn_nxB ⟨[some (bS fr (lays (carA cell carry) s)), some (.int cell), some (.int carry)], ?_, rfl⟩
  have e1 := @brow2 fr s (h.less (by decide)) "add" cell carry (.add cell carry) rfl
  have g1 := Gd.step (k := 3) h (a := .r (.add cell carry)) rfl
  have e2 := @brow2 fr _ (g1.less (by decide)) "copy" carry cell (.copy carry cell) rfl
  have g2 := Gd.step (k := 2) g1 (a := .r (.copy carry cell)) rfl
  have e3 := @blook fr _ (g2.less (by decide)) carry "ahead_of_last" (nm _ (by decide +kernel))
  have g3 := Gd.step (k := 1) g2 (a := .lk carry "ahead_of_last") (show fnNames.contains ("ahead_of_last" : Str) = true by decide +kernel)
  have e4 := @blook fr _ (g3.less (by decide)) cell "last_figure" (nm _ (by decide +kernel))
  simp [m_pcarried, e1, e2, e3, e4, lays, carA]
def putA (v fr many : Nat) : List Ab := (List.range many).map fun k => .r (.put (fr + k) v)
def cells (fr many : Nat) : List Nat := (List.range many).map (fr + ·)
theorem putA_succ (v fr i : Nat) (s : List Str × List Rw) : lays (putA v fr (i + 1)) s = layA (lays (putA v fr i) s) (.r (.put (fr + i) v)) := by
  unfold putA
  rw [List.range_succ, List.map_append, lays_app]; rfl
theorem putA_len (v fr i : Nat) : (putA v fr i).length = i := by simp [putA]
theorem putA_ok (v fr i : Nat) : (putA v fr i).all okAb = true := by
  rw [List.all_eq_true]
  intro a ha
  obtain ⟨k, _, rfl⟩ := List.mem_map.mp ha
  rfl
theorem pnoughts_eq {fr many : Nat} {s : List Str × List Rw} (h : Gd s many) (hm : many < 1000) : f_pnoughts [bS fr s, .int many] = .ok (.lst (encC (cells fr many)), [some (bS (fr + many) (lays (putA 0 fr many) s))]) := by
  refine mFn_rtB ⟨[some (bS (fr + many) (lays (putA 0 fr many) s)), some (.int many), none], ?_, rfl⟩
  have lc := mLcO_st (it := mR1 (mCons (mVar 1) (mNil))) (e := mFz (mCallB0 f_pBuilder_put (mbO "Builder" "put" 0 (mbV (mC (.int 0)) (mbNil))))) (v := 2) (ρ := [some (bS fr s), some (.int many), none]) (xs := rngM 0 1 many)
    (fun i => [some (bS (fr + i) (lays (putA 0 fr i) s)), some (.int many), none]) (fun i => .int ((fr + i : Nat) : Int)) (by
      have : inR (many : Int) = true := inR_of (by omega) (by omega)
      simp [this, putA, lays]) rfl (by
      intro i x hx
      have hi : i < many := by
        have := (List.getElem?_eq_some_iff.mp hx).1
        rwa [rngM_len] at this
      have g : Gd (lays (putA 0 fr i) s) 1 := Gd.lays (h.less (by rw [putA_len]; omega)) (putA_ok _ _ _)
      have b := @bput (fr + i) _ g 0
      rw [putA_succ]
      generalize lays (putA 0 fr i) s = t at *
      refine ⟨rfl, ?_, rfl, rfl⟩
      simp at b
      simp [b, Nat.add_assoc]) (by rw [rngM_len, sizeLine_eq]; omega)
  rw [rngM_len] at lc
  have e : (List.range many).map (fun i => MV.int ((fr + i : Nat) : Int)) = encC (cells fr many) := by
    unfold encC cells
    rw [List.map_map]; rfl
  rw [e] at lc
  simp [m_pnoughts, lc]
def takI (fr : Nat) (cs : List Nat) (i : Nat) : List Ab := (List.range i).map fun k => .r (.copy (fr + k) (cs.getD k 0))
def takA (fr : Nat) (cs : List Nat) : List Ab := takI fr cs cs.length
theorem takI_succ (fr : Nat) (cs : List Nat) (i : Nat) (s : List Str × List Rw) : lays (takI fr cs (i + 1)) s = layA (lays (takI fr cs i) s) (.r (.copy (fr + i) (cs.getD i 0))) := by
  unfold takI
  rw [List.range_succ, List.map_append, lays_app]; rfl
theorem takI_len (fr : Nat) (cs : List Nat) (i : Nat) : (takI fr cs i).length = i := by simp [takI]
theorem takI_ok (fr : Nat) (cs : List Nat) (i : Nat) : (takI fr cs i).all okAb = true := by
  rw [List.all_eq_true]
  intro a ha
  obtain ⟨k, _, rfl⟩ := List.mem_map.mp ha
  rfl
theorem ptaken_eq {fr : Nat} {cs : List Nat} {s : List Str × List Rw} (h : Gd s cs.length) (hm : cs.length < 1000) : f_ptaken [bS fr s, .lst (encC cs)] = .ok (.lst (encC (cells fr cs.length)), [some (bS (fr + cs.length) (lays (takA fr cs) s))]) := by
  refine mFn_rtB ⟨[some (bS (fr + cs.length) (lays (takA fr cs) s)), some (.lst (encC cs)), none], ?_, rfl⟩
  have le : (encC cs).length = cs.length := by simp [encC]
  have lc := mLcO_st (it := mItV (mVar 1)) (e := mFz (mCallB0 f_pBuilder_copied (mbO "Builder" "copied" 0 (mbV (mVar 2) (mbNil))))) (v := 2) (ρ := [some (bS fr s), some (.lst (encC cs)), none]) (xs := encC cs)
    (fun i => [some (bS (fr + i) (lays (takI fr cs i) s)), some (.lst (encC cs)), none]) (fun i => .int ((fr + i : Nat) : Int)) (by
      generalize encC cs = E
      simp [takI, lays]) rfl (by
      intro i x hx
      have hi : i < cs.length := by
        have := (List.getElem?_eq_some_iff.mp hx).1
        rwa [le] at this
      have ex : x = .int (cs.getD i 0 : Nat) := by
        unfold encC at hx
        rw [List.getElem?_map, List.getElem?_eq_getElem hi] at hx
        rw [List.getD_eq_getElem?_getD, List.getElem?_eq_getElem hi]
        exact (Option.some.inj hx).symm
      subst ex
      have g : Gd (lays (takI fr cs i) s) 1 := Gd.lays (h.less (by rw [takI_len]; omega)) (takI_ok _ _ _)
      have b := @bcopied (fr + i) _ g (cs.getD i 0)
      rw [takI_succ]
      generalize lays (takI fr cs i) s = t at *
      generalize cs.getD i 0 = d at *
      generalize encC cs = E at *
      refine ⟨rfl, ?_, rfl, rfl⟩
      simp at b
      simp [b, Nat.add_assoc]) (by rw [le, sizeLine_eq]; omega)
  rw [le] at lc
  have e : (List.range cs.length).map (fun i => MV.int ((fr + i : Nat) : Int)) = encC (cells fr cs.length) := by
    unfold encC cells
    rw [List.map_map]; rfl
  rw [e] at lc
  have t0 : takI fr cs cs.length = takA fr cs := rfl
  rw [t0] at lc
  simp [m_ptaken, lc]
def orA (to : Nat) (cs : List Nat) : List Ab := cs.map fun c => .r (.or_ to c)
def anyA (fr : Nat) (cs : List Nat) : List Ab := .r (.put fr 0) :: (orA fr cs ++ [.lk fr "one_or_none"])
def bothA (fr one other : Nat) : List Ab := [.r (.copy fr one), .r (.and_ fr other)]
theorem pboth_eq {fr one other : Nat} {s : List Str × List Rw} (h : Gd s 2) : f_pboth [bS fr s, .int one, .int other] = .ok (.int fr, [some (bS (fr + 1) (lays (bothA fr one other) s))]) := by
  refine mFn_rtB ⟨[some (bS (fr + 1) (lays (bothA fr one other) s)), some (.int one), some (.int other), some (.int fr)], ?_, rfl⟩
  have e1 := @bcopied fr s (h.less (by decide)) one
  have g1 := Gd.step (k := 1) h (a := .r (.copy fr one)) rfl
  have e2 := @brow2 (fr + 1) _ (g1.less (by decide)) "and" fr other (.and_ fr other) rfl
  simp [m_pboth, e1, e2, lays, bothA]
theorem lays_one (a : Ab) (s : List Str × List Rw) : lays [a] s = layA s a := rfl
theorem lays_cons (a : Ab) (as : List Ab) (s : List Str × List Rw) : lays (a :: as) s = lays as (layA s a) := rfl
theorem any_loop {fr to : Nat} (x1 : Option MV) : ∀ (cs : List Nat) (s : List Str × List Rw) (x3 : Option MV), Gd s cs.length → ∃ y3, mLoop (gSet 3) b_pany_of_0 (encC cs) [some (bS fr s), x1, some (.int to), x3] = .ok (.nx, [some (bS fr (lays (orA to cs) s)), x1, some (.int to), y3])
  | [], s, x3, _ => ⟨x3, rfl⟩
  | c :: cs, s, x3, h => by
    have e1 := @brow2 fr s (h.less (by simp)) "or" to c (.or_ to c) rfl
    have g1 := Gd.step (k := cs.length) h (a := .r (.or_ to c)) rfl
    obtain ⟨y3, ih⟩ := any_loop (fr := fr) (to := to) x1 cs _ (some (.int c)) g1
    refine ⟨y3, ?_⟩
    show mLoop (gSet 3) b_pany_of_0 (.int c :: encC cs) _ = _
    rw [mLoop]
    show (b_pany_of_0 [some (bS fr s), x1, some (.int to), some (.int c)]).bind _ = _
    have : b_pany_of_0 [some (bS fr s), x1, some (.int to), some (.int c)] = .ok (.nx, [some (bS fr (layA s (.r (.or_ to c)))), x1, some (.int to), some (.int c)]) := by
      simp [b_pany_of_0, e1]
    rw [this]
    exact ih
theorem pany_of_eq {fr : Nat} {cs : List Nat} {s : List Str × List Rw} (h : Gd s (cs.length + 2)) : f_pany_of [bS fr s, .lst (encC cs)] = .ok (.int fr, [some (bS (fr + 1) (lays (anyA fr cs) s))]) := by
  have e1 := @bput fr s (h.less (by omega)) 0
  have g1 := Gd.step (k := cs.length + 1) h (a := .r (.put fr 0)) rfl
  obtain ⟨y3, lp⟩ := any_loop (fr := fr + 1) (to := fr) (some (.lst (encC cs))) cs _ none (g1.less (by omega))
  have g2 : Gd (lays (orA fr cs) (layA s (.r (.put fr 0)))) 1 := Gd.lays (by simpa [orA] using g1) (by rw [List.all_eq_true]; intro a ha; obtain ⟨k, _, rfl⟩ := List.mem_map.mp ha; rfl)
  have e2 := @blook (fr + 1) _ g2 fr "one_or_none" (nm _ (by decide +kernel))
  have ea : lays (anyA fr cs) s = layA (lays (orA fr cs) (layA s (.r (.put fr 0)))) (.lk fr "one_or_none") := by
    unfold anyA
    rw [lays_cons, lays_app]; rfl
  rw [ea]
  refine mFn_rtB ⟨[some (bS (fr + 1) (layA (lays (orA fr cs) (layA s (.r (.put fr 0)))) (.lk fr "one_or_none"))), some (.lst (encC cs)), some (.int fr), y3], ?_, rfl⟩
  generalize encC cs = E at *
  simp at e1
  simp [m_pany_of, e1, lp, e2]
theorem rg_dn (k : Nat) (hk : k ≤ 64) : rgOk ((k : Int) - 1) (-1) (-1) = true ∧ (Builtin.Range.rangeSize ((k : Int) - 1) (-1) (-1)).toNat = k := by
  have : ∀ k : Fin 65, rgOk ((k.val : Int) - 1) (-1) (-1) = true ∧ (Builtin.Range.rangeSize ((k.val : Int) - 1) (-1) (-1)).toNat = k.val := by decide +kernel
  exact this ⟨k, by omega⟩
theorem rngM_dn (k : Nat) : rngM (((k + 1 : Nat) : Int) - 1) (-1) (k + 1) = .int k :: rngM ((k : Int) - 1) (-1) k := by
  unfold rngM
  rw [List.range_succ_eq_map, List.map_cons, List.map_map]
  congr 1
  · show MV.int _ = MV.int _
    congr 1; simp
  · apply List.map_congr_left
    intro i _
    show MV.int _ = MV.int _
    congr 1; simp; omega
def downA (f : Nat → List Ab) : Nat → List Ab
  | 0 => []
  | k + 1 => f k ++ downA f k
theorem downA_len (f : Nat → List Ab) (q : Nat) (h : ∀ k, (f k).length = q) : ∀ k, (downA f k).length = q * k
  | 0 => rfl
  | k + 1 => by rw [downA, List.length_append, h, downA_len f q h k, Nat.mul_succ]; omega
def turnF (xs : List Nat) (more carry k : Nat) : List Ab := .r (.add (cg xs k) more) :: .lk (cg xs k) "nine_less" :: carA (cg xs k) carry
def turnA (fr : Nat) (xs : List Nat) (flag : Nat) : List Ab := .r (.copy fr flag) :: .lk fr "ten_or_none" :: .r (.copy (fr + 1) flag) :: downA (turnF xs fr (fr + 1)) xs.length
theorem turn_loop {fr more carry : Nat} {xs : List Nat} (x2 x3 x4 : Option MV) (hx3 : x3 = some (.int more)) (hx4 : x4 = some (.int carry)) : ∀ (k : Nat) (s : List Str × List Rw) (x5 : Option MV), k ≤ xs.length → Gd s (6 * k) → ∃ y5, mLoop (gSet 5) b_pturn_by_0 (rngM ((k : Int) - 1) (-1) k) [some (bS fr s), some (.lst (encC xs)), x2, x3, x4, x5] = .ok (.nx, [some (bS fr (lays (downA (turnF xs more carry) k) s)), some (.lst (encC xs)), x2, x3, x4, y5])
  | 0, s, x5, _, _ => ⟨x5, rfl⟩
  | k + 1, s, x5, h1, h => by
    subst hx3 hx4
    have a1 := encC_at (c := xs) (i := k) (by omega)
    have e1 := @brow2 fr s (h.less (by omega)) "add" (cg xs k) more (.add (cg xs k) more) rfl
    have g1 := Gd.step (k := 6 * k + 5) (h.less (by omega)) (a := .r (.add (cg xs k) more)) rfl
    have e2 := @blook fr _ (g1.less (by omega)) (cg xs k) "nine_less" (nm _ (by decide +kernel))
    have g2 := Gd.step (k := 6 * k + 4) (g1.less (by omega)) (a := .lk (cg xs k) "nine_less") (show fnNames.contains ("nine_less" : Str) = true by decide +kernel)
    have e3 := @pcarried_eq fr _ (cg xs k) carry (g2.less (by omega))
    have g3 : Gd (lays (carA (cg xs k) carry) (layA (layA s (.r (.add (cg xs k) more))) (.lk (cg xs k) "nine_less"))) (6 * k) := Gd.lays (g2.less (by simp [carA]; omega)) (show (true && (true && (fnNames.contains ("ahead_of_last" : Str) && (fnNames.contains ("last_figure" : Str) && true)))) = true by decide +kernel)
    obtain ⟨y5, ih⟩ := turn_loop (fr := fr) (more := more) (carry := carry) (xs := xs) x2 _ _ rfl rfl k _ (some (.int k)) (by omega) g3
    refine ⟨y5, ?_⟩
    rw [rngM_dn, mLoop]
    show (b_pturn_by_0 [some (bS fr s), some (.lst (encC xs)), x2, some (.int more), some (.int carry), some (.int k)]).bind _ = _
    have : b_pturn_by_0 [some (bS fr s), some (.lst (encC xs)), x2, some (.int more), some (.int carry), some (.int k)] = .ok (.nx, [some (bS fr (lays (carA (cg xs k) carry) (layA (layA s (.r (.add (cg xs k) more))) (.lk (cg xs k) "nine_less")))), some (.lst (encC xs)), x2, some (.int more), some (.int carry), some (.int k)]) := by
      simp [b_pturn_by_0, a1, e1, e2, e3]
    rw [this]
    rw [downA, lays_app]
    exact ih
theorem pturn_by_eq {fr flag : Nat} {xs : List Nat} {s : List Str × List Rw} (hs : xs.length ≤ 64) (h : Gd s (6 * xs.length + 3)) : f_pturn_by [bS fr s, .lst (encC xs), .int flag] = .ok (.non, [some (bS (fr + 2) (lays (turnA fr xs flag) s))]) := by
  have e1 := @blooked fr s (h.less (by omega)) flag "ten_or_none" (nm _ (by decide +kernel))
  have g1 := Gd.step (k := 6 * xs.length + 2) h (a := .r (.copy fr flag)) rfl
  have g2 := Gd.step (k := 6 * xs.length + 1) g1 (a := .lk fr "ten_or_none") (show fnNames.contains ("ten_or_none" : Str) = true by decide +kernel)
  have e2 := @bcopied (fr + 1) _ (g2.less (by omega)) flag
  have g3 := Gd.step (k := 6 * xs.length) g2 (a := .r (.copy (fr + 1) flag)) rfl
  obtain ⟨y5, lp⟩ := turn_loop (fr := fr + 1 + 1) (more := fr) (carry := fr + 1) (xs := xs) (some (.int flag)) _ _ rfl rfl xs.length _ none (by omega) g3
  obtain ⟨r1, r2⟩ := rg_dn xs.length hs
  refine mFn_nxB ⟨[some (bS (fr + 2) (lays (turnA fr xs flag) s)), some (.lst (encC xs)), some (.int flag), some (.int fr), some (.int (fr + 1 : Nat)), y5], ?_, rfl⟩
  have le : (encC xs).length = xs.length := by simp [encC]
  have sz : szOk xs.length = true := szOk_small (by omega)
  have t0 : lays (downA (turnF xs fr (fr + 1)) xs.length) (layA (layA (layA s (.r (.copy fr flag))) (.lk fr "ten_or_none")) (.r (.copy (fr + 1) flag))) = lays (turnA fr xs flag) s := rfl
  rw [t0] at lp
  generalize lays (turnA fr xs flag) s = s' at *
  generalize encC xs = X at *
  simp at e2 lp
  simp [m_pturn_by, le, sz, r1, r2, e1, e2, lp]
def joinA (fr one other to : Nat) : List Ab := [.r (.copy fr one), .lk fr "half_up", .r (.or_ fr other), .r (.copy to fr)]
theorem pjoined_eq {fr one other to : Nat} {s : List Str × List Rw} (h : Gd s 4) : f_pjoined [bS fr s, .int one, .int other, .int to] = .ok (.non, [some (bS (fr + 1) (lays (joinA fr one other to) s))]) := by
  have e1 := @blooked fr s (h.less (by decide)) one "half_up" (nm _ (by decide +kernel))
  have g1 := Gd.step (k := 3) h (a := .r (.copy fr one)) rfl
  have g2 := Gd.step (k := 2) g1 (a := .lk fr "half_up") (show fnNames.contains ("half_up" : Str) = true by decide +kernel)
  have e2 := @brow2 (fr + 1) _ (g2.less (by decide)) "or" fr other (.or_ fr other) rfl
  have g3 := Gd.step (k := 1) g2 (a := .r (.or_ fr other)) rfl
  have e3 := @brow2 (fr + 1) _ (g3.less (by decide)) "copy" to fr (.copy to fr) rfl
  refine mFn_nxB ⟨[some (bS (fr + 1) (lays (joinA fr one other to) s)), some (.int one), some (.int other), some (.int to), some (.int fr)], ?_, rfl⟩
  simp [m_pjoined, e1, e2, e3, lays, joinA]
def ldC (kd : Str) (ah at_ k : Nat) : Nat := if kd = "spread" then at_ + k else at_ + (k + ah) / 2
def ldW (kd : Str) (ah k : Nat) : Str := if kd = "spread" then "low_half" else if (k + ah) % 2 = 0 then "high_half" else "low_half"
def ldA (kd : Str) (ah fr at_ : Nat) : Nat → List Ab
  | 0 => []
  | k + 1 => ldA kd ah fr at_ k ++ [.r (.copy (fr + k) (ldC kd ah at_ k)), .lk (fr + k) (ldW kd ah k)]
theorem ldA_len (kd : Str) (ah fr at_ : Nat) : ∀ k, (ldA kd ah fr at_ k).length = 2 * k
  | 0 => rfl
  | k + 1 => by rw [ldA, List.length_append, ldA_len kd ah fr at_ k]; simp; omega
theorem ldW_ok (kd : Str) (ah k : Nat) : fnNames.contains (ldW kd ah k) = true := by
  unfold ldW
  split
  · decide +kernel
  · split <;> decide +kernel
theorem ldA_ok (kd : Str) (ah fr at_ : Nat) : ∀ k, (ldA kd ah fr at_ k).all okAb = true
  | 0 => rfl
  | k + 1 => by
    rw [ldA, List.all_append, ldA_ok kd ah fr at_ k, Bool.true_and]
    show (true && (fnNames.contains (ldW kd ah k) && true)) = true
    rw [ldW_ok]; rfl
theorem cells_succ (fr k : Nat) : encC (cells fr (k + 1)) = encC (cells fr k) ++ [.int ((fr + k : Nat) : Int)] := by
  unfold encC cells
  rw [List.range_succ, List.map_append, List.map_append]; rfl
theorem cells_len (fr k : Nat) : (cells fr k).length = k := by simp [cells]
theorem encC_len (c : List Nat) : (encC c).length = c.length := by simp [encC]
theorem load_loop {kd sg : Str} {n fr ah at_ : Nat} {p : MV} {s : List Str × List Rw} (hk : kd = "packed" ∨ kd = "spread") (x6 : Option MV) (hn : n < 1000) (h : Gd s (2 * n)) :
    ∃ y5, mLoop (gSet 5) b_ploaded_0 (rngM 0 1 n) [some (bS fr s), some (Form kd n sg p), some (.int at_), some (.own []), some (.int ah), none, x6] = .ok (.nx, [some (bS (fr + n) (lays (ldA kd ah fr at_ n) s)), some (Form kd n sg p), some (.int at_), some (.own (encC (cells fr n))), some (.int ah), y5, x6]) := by
  generalize hf : Form kd n sg p = fm
  obtain ⟨fx, rfl⟩ : ∃ fx, fm = .tup fx := ⟨_, hf.symm⟩
  have f0 : atI fx 0 = some (.str kd) := by
    unfold Form at hf
    injection hf with hf
    rw [← hf]; rfl
  obtain ⟨ρ', e, y5, rfl⟩ := loop_nxr (g := gSet 5) (b := b_ploaded_0) (lo := 0) (c := 1) (n := n) (ρ := [some (bS fr s), some (.tup fx), some (.int at_), some (.own []), some (.int ah), none, x6])
    (fun i ρ => ∃ y5, ρ = [some (bS (fr + i) (lays (ldA kd ah fr at_ i) s)), some (.tup fx), some (.int at_), some (.own (encC (cells fr i))), some (.int ah), y5, x6]) ⟨none, rfl⟩ (by
      rintro i ρ hi ⟨y5, rfl⟩
      have g : Gd (lays (ldA kd ah fr at_ i) s) 2 := Gd.lays (h.less (by rw [ldA_len]; omega)) (ldA_ok _ _ _ _ _)
      have e1 := @blooked (fr + i) _ g (ldC kd ah at_ i) (ldW kd ah i) (nm _ (ldW_ok _ _ _))
      have es : lays (ldA kd ah fr at_ (i + 1)) s = layA (layA (lays (ldA kd ah fr at_ i) s) (.r (.copy (fr + i) (ldC kd ah at_ i)))) (.lk (fr + i) (ldW kd ah i)) := by
        rw [ldA, lays_app]; rfl
      have sz : (encC (cells fr i)).length < sizeLine := by rw [encC_len, cells_len, sizeLine_eq]; omega
      refine ⟨_, rfl, [some (bS (fr + (i + 1)) (lays (ldA kd ah fr at_ (i + 1)) s)), some (.tup fx), some (.int at_), some (.own (encC (cells fr (i + 1)))), some (.int ah), some (.int (0 + (i : Nat) * 1)), x6], ?_, _, rfl⟩
      rw [es, cells_succ]
      generalize lays (ldA kd ah fr at_ i) s = t at *
      generalize encC (cells fr i) = E at *
      unfold ldC ldW at *
      rcases hk with rfl | rfl
      · have d1 : ((i : Int) + ah).fdiv 2 = (((i + ah) / 2 : Nat) : Int) := by
          have := nat_fdiv (i + ah) 2
          rw [← this]; simp
        have d2 : ((i : Int) + ah).fmod 2 = (((i + ah) % 2 : Nat) : Int) := by
          have := nat_fmod (i + ah) 2
          rw [← this]; simp
        have q2 : (i + ah) % 2 = 0 ∨ (i + ah) % 2 = 1 := by omega
        generalize (i + ah) / 2 = a at *
        generalize (i + ah) % 2 = b at *
        rcases q2 with rfl | rfl
        · simp at e1
          simp [b_ploaded_0, f0, divOk, d1, d2, szOk_small, isOwn, lmAppend, sz, e1, Nat.add_assoc]
        · simp at e1
          simp [b_ploaded_0, f0, divOk, d1, d2, szOk_small, isOwn, lmAppend, sz, e1, Nat.add_assoc]
      · simp at e1
        simp [b_ploaded_0, f0, isOwn, lmAppend, sz, e1, Nat.add_assoc])
  exact ⟨y5, e⟩
def ahM (n : Nat) (sg : Str) : Nat := manyM n sg % 2
def loadT (kd sg : Str) (n fr at_ : Nat) : List Ab :=
  if sg = "none" then [.r (.put (fr + n) 0)]
  else if sg = "tens" then .r (.copy (fr + n) fr) :: .lk (fr + n) "five_on" :: turnA (fr + n + 1) (cells fr n) (fr + n)
  else .r (.copy (fr + n) (at_ + roomM kd sg n - 1)) :: ((if kd = "spread" then [.lk (fr + n) "high_half"] else []) ++ [.lk (fr + n) "sign_below"])
def loadA (kd sg : Str) (n fr at_ : Nat) : List Ab := ldA kd (ahM n sg) fr at_ n ++ loadT kd sg n fr at_
def loadN (sg : Str) : Nat := if sg = "tens" then 3 else 1
theorem turnA_len (fr : Nat) (xs : List Nat) (flag : Nat) : (turnA fr xs flag).length = 6 * xs.length + 3 := by
  unfold turnA
  rw [List.length_cons, List.length_cons, List.length_cons, downA_len _ 6 (fun k => rfl)]
theorem ploaded_eq {kd sg : Str} {n fr at_ : Nat} {p : MV} {s : List Str × List Rw} (hk : kd = "packed" ∨ kd = "spread") (hsg : sg = "none" ∨ sg = "end" ∨ sg = "tens") (hn : 1 ≤ n ∧ n < 60) (h : Gd s (10 * n + 10)) :
    f_ploaded [bS fr s, Form kd n sg p, .int at_] = .ok (.tup [.lst (encC (cells fr n)), .int (fr + n : Nat)], [some (bS (fr + n + loadN sg) (lays (loadA kd sg n fr at_) s))]) := by
  have ho := @phalves_of_eq kd sg n p
  have hw := @pwidth_eq kd sg n p hk
  obtain ⟨y5, lp⟩ := load_loop (kd := kd) (sg := sg) (n := n) (fr := fr) (ah := ahM n sg) (at_ := at_) (p := p) (s := s) hk none (by omega) (h.less (by omega))
  have g0 : Gd (lays (ldA kd (ahM n sg) fr at_ n) s) (8 * n + 10) := Gd.lays (h.less (by rw [ldA_len]; omega)) (ldA_ok _ _ _ _ _)
  have es : lays (loadA kd sg n fr at_) s = lays (loadT kd sg n fr at_) (lays (ldA kd (ahM n sg) fr at_ n) s) := by unfold loadA; rw [lays_app]
  rw [es]
  generalize lays (ldA kd (ahM n sg) fr at_ n) s = t at *
  have c0 : atI (encC (cells fr n)) 0 = some (.int fr) := by
    have := encC_at (c := cells fr n) (i := 0) (by rw [cells_len]; omega)
    have e : cg (cells fr n) 0 = fr := by
      unfold cg cells
      rw [List.getD_eq_getElem?_getD, List.getElem?_map, List.getElem?_range (by omega)]
      simp
    rw [e] at this; exact this
  have ir : inR (n : Int) = true := inR_of (by omega) (by omega)
  have ld : ldC "x" 0 0 0 = 0 := rfl
  have tb := @pturn_by_eq (fr + n + 1) (fr + n) (cells fr n) (layA (layA t (.r (.copy (fr + n) fr))) (.lk (fr + n) "five_on")) (by rw [cells_len]; omega) (by
    rw [cells_len]
    exact Gd.step (k := 6 * n + 3) (Gd.step (k := 6 * n + 4) (g0.less (by omega)) (a := .r (.copy (fr + n) fr)) rfl) (a := .lk (fr + n) "five_on") (show fnNames.contains ("five_on" : Str) = true by decide +kernel))
  have ep := @bput (fr + n) t (g0.less (by omega)) 0
  have e5 := @blooked (fr + n) t (g0.less (by omega)) fr "five_on" (nm _ (by decide +kernel))
  have hr := room_pos kd sg hn.1
  have ec := @bcopied (fr + n) t (g0.less (by omega)) (at_ + roomM kd sg n - 1)
  have g1 := Gd.step (k := 8 * n + 9) (g0.less (by omega)) (a := .r (.copy (fr + n) (at_ + roomM kd sg n - 1))) rfl
  have eh := @blook (fr + n + 1) _ (g1.less (by omega)) (fr + n) "high_half" (nm _ (by decide +kernel))
  have g2 := Gd.step (k := 8 * n + 8) g1 (a := .lk (fr + n) "high_half") (show fnNames.contains ("high_half" : Str) = true by decide +kernel)
  have el1 := @blook (fr + n + 1) _ (g1.less (by omega)) (fr + n) "sign_below" (nm _ (by decide +kernel))
  have el2 := @blook (fr + n + 1) _ (g2.less (by omega)) (fr + n) "sign_below" (nm _ (by decide +kernel))
  have ew : (at_ : Int) + (roomM kd sg n : Int) - 1 = ((at_ + roomM kd sg n - 1 : Nat) : Int) := by omega
  unfold ahM at lp
  unfold Form at *
  rcases hsg with rfl | rfl | rfl
  · have et : loadT kd "none" n fr at_ = [.r (.put (fr + n) 0)] := by unfold loadT; rw [if_pos rfl]
    rw [et, show loadN "none" = 1 from rfl, lays_one]
    refine mFn_rtB ⟨[some (bS (fr + n + 1) (layA t (.r (.put (fr + n) 0)))), some (.tup [.str kd, .int n, .str "none", p]), some (.int at_), some (.lst (encC (cells fr n))), some (.int (manyM n "none" % 2 : Nat)), y5, none], ?_, rfl⟩
    generalize encC (cells fr n) = E at *
    simp at ep ho lp
    simp [m_ploaded, ho, ir, lp, ep, szOk_small]
  · have et : loadT kd "end" n fr at_ = .r (.copy (fr + n) (at_ + roomM kd "end" n - 1)) :: ((if kd = "spread" then [.lk (fr + n) "high_half"] else []) ++ [.lk (fr + n) "sign_below"]) := by
      unfold loadT; rw [if_neg (by decide), if_neg (by decide)]
    rw [et, show loadN "end" = 1 from rfl]
    rcases hk with rfl | rfl
    · have e9 : (if ("packed" : Str) = "spread" then [Ab.lk (fr + n) "high_half"] else []) = [] := if_neg (by decide)
      rw [e9]
      refine mFn_rtB ⟨[some (bS (fr + n + 1) (layA (layA t (.r (.copy (fr + n) (at_ + roomM "packed" "end" n - 1)))) (.lk (fr + n) "sign_below"))), some (.tup [.str "packed", .int n, .str "end", p]), some (.int at_), some (.lst (encC (cells fr n))), some (.int (manyM n "end" % 2 : Nat)), y5, some (.int (fr + n : Nat))], ?_, rfl⟩
      generalize encC (cells fr n) = E at *
      generalize at_ + roomM "packed" "end" n - 1 = q at *
      simp at ec ho lp el1 hw ew
      simp [m_ploaded, ho, ir, lp, hw, ew, ec, el1, szOk_small]
    · have e9 : (if ("spread" : Str) = "spread" then [Ab.lk (fr + n) "high_half"] else []) = [Ab.lk (fr + n) "high_half"] := if_pos rfl
      rw [e9]
      refine mFn_rtB ⟨[some (bS (fr + n + 1) (layA (layA (layA t (.r (.copy (fr + n) (at_ + roomM "spread" "end" n - 1)))) (.lk (fr + n) "high_half")) (.lk (fr + n) "sign_below"))), some (.tup [.str "spread", .int n, .str "end", p]), some (.int at_), some (.lst (encC (cells fr n))), some (.int (manyM n "end" % 2 : Nat)), y5, some (.int (fr + n : Nat))], ?_, rfl⟩
      generalize encC (cells fr n) = E at *
      generalize at_ + roomM "spread" "end" n - 1 = q at *
      simp at ec ho lp el2 eh hw ew
      simp [m_ploaded, ho, ir, lp, hw, ew, ec, eh, el2, szOk_small]
  · have et : loadT kd "tens" n fr at_ = .r (.copy (fr + n) fr) :: .lk (fr + n) "five_on" :: turnA (fr + n + 1) (cells fr n) (fr + n) := by
      unfold loadT; rw [if_neg (by decide), if_pos rfl]
    rw [et, show loadN "tens" = 3 from rfl]
    refine mFn_rtB ⟨[some (bS (fr + n + 3) (lays (turnA (fr + n + 1) (cells fr n) (fr + n)) (layA (layA t (.r (.copy (fr + n) fr))) (.lk (fr + n) "five_on")))), some (.tup [.str kd, .int n, .str "tens", p]), some (.int at_), some (.lst (encC (cells fr n))), some (.int (manyM n "tens" % 2 : Nat)), y5, some (.int (fr + n : Nat))], ?_, rfl⟩
    have iv : ixV [some (bS (fr + n) t), some (.tup [.str kd, .int n, .str "tens", p]), some (.int at_), some (.own (encC (cells fr n))), some (.int (manyM n "tens" % 2 : Nat)), y5, none] 3 (.int 0) = some (.int fr) := c0
    generalize lays (turnA (fr + n + 1) (cells fr n) (fr + n)) (layA (layA t (.r (.copy (fr + n) fr))) (.lk (fr + n) "five_on")) = t9 at *
    generalize encC (cells fr n) = E at *
    simp at e5 ho lp tb iv
    simp [m_ploaded, ho, ir, lp, e5, tb, iv, szOk_small]
def stS (n : Nat) (sg : Str) (fr at_ : Nat) (xs : List Nat) : Nat → List Ab
  | 0 => []
  | k + 1 => stS n sg fr at_ xs k ++ (.r (.copy (at_ + k) (cg xs k)) :: (if k + 1 < n ∨ sg ≠ "end" then [.r (.or_ (at_ + k) (fr + 1))] else joinA (fr + 2) fr (cg xs k) (at_ + k)))
def pairA (hs : List Nat) (fr at_ : Nat) : Nat → List Ab
  | 0 => []
  | k + 1 => pairA hs fr at_ k ++ joinA (fr + k) (cg hs (2 * k)) (cg hs (2 * k + 1)) (at_ + k)
def stH (n : Nat) (sg : Str) (fr : Nat) (xs : List Nat) : List Nat := cells (fr + 1) (ahM n sg) ++ xs ++ (if sg = "end" then [fr] else [])
def storeA (kd sg : Str) (n fr at_ : Nat) (xs : List Nat) (below : Nat) : List Ab :=
  .r (.put fr 12) :: .r (.add fr below) :: (if kd = "spread" then .r (.put (fr + 1) 240) :: stS n sg fr at_ xs n
  else putA 0 (fr + 1) (ahM n sg) ++ pairA (stH n sg fr xs) (fr + 1 + ahM n sg) at_ (roomM "packed" sg n))
def storeN (kd sg : Str) (n : Nat) : Nat := if kd = "spread" then (if sg = "end" then 3 else 2) else 1 + ahM n sg + roomM "packed" sg n
theorem joinA_ok (fr one other to : Nat) : (joinA fr one other to).all okAb = true := by
  show (true && (fnNames.contains ("half_up" : Str) && (true && (true && true)))) = true
  decide +kernel
theorem stS_len (n : Nat) (sg : Str) (fr at_ : Nat) (xs : List Nat) : ∀ k, (stS n sg fr at_ xs k).length ≤ 5 * k
  | 0 => Nat.le_refl _
  | k + 1 => by
    have := stS_len n sg fr at_ xs k
    rw [stS, List.length_append, List.length_cons]
    split
    · simp; omega
    · simp [joinA]; omega
theorem stS_ok (n : Nat) (sg : Str) (fr at_ : Nat) (xs : List Nat) : ∀ k, (stS n sg fr at_ xs k).all okAb = true
  | 0 => rfl
  | k + 1 => by
    rw [stS, List.all_append, stS_ok n sg fr at_ xs k, Bool.true_and, List.all_cons]
    split
    · rfl
    · rw [joinA_ok]; rfl
theorem stS_loop {kd sg : Str} {n fr at_ below : Nat} {p : MV} {xs : List Nat} {s : List Str × List Rw} (hl : n ≤ xs.length) (hn : n < 1000) (h : Gd s (5 * n)) :
    ∃ y7, mLoop (gSet 7) b_pstored_0 (rngM 0 1 n) [some (bS (fr + 2) s), some (Form kd n sg p), some (.lst (encC xs)), some (.int below), some (.int at_), some (.int fr), none, none, some (.int (fr + 1 : Nat))] = .ok (.nx, [some (bS (fr + 2 + if sg = "end" ∧ n ≠ 0 then 1 else 0) (lays (stS n sg fr at_ xs n) s)), some (Form kd n sg p), some (.lst (encC xs)), some (.int below), some (.int at_), some (.int fr), none, y7, some (.int (fr + 1 : Nat))]) := by
  generalize hf : Form kd n sg p = fm
  obtain ⟨fx, rfl⟩ : ∃ fx, fm = .tup fx := ⟨_, hf.symm⟩
  have f1 : atI fx 1 = some (.int n) := by
    unfold Form at hf
    injection hf with hf
    rw [← hf]; rfl
  have f2 : atI fx 2 = some (.str sg) := by
    unfold Form at hf
    injection hf with hf
    rw [← hf]; rfl
  obtain ⟨ρ', e, y7, rfl⟩ := loop_nxr (g := gSet 7) (b := b_pstored_0) (lo := 0) (c := 1) (n := n) (ρ := [some (bS (fr + 2) s), some (.tup fx), some (.lst (encC xs)), some (.int below), some (.int at_), some (.int fr), none, none, some (.int (fr + 1 : Nat))])
    (fun i ρ => ∃ y7, ρ = [some (bS (fr + 2 + if sg = "end" ∧ n ≠ 0 ∧ i = n then 1 else 0) (lays (stS n sg fr at_ xs i) s)), some (.tup fx), some (.lst (encC xs)), some (.int below), some (.int at_), some (.int fr), none, y7, some (.int (fr + 1 : Nat))]) ⟨none, by
      have : ¬ (sg = "end" ∧ n ≠ 0 ∧ 0 = n) := fun h => h.2.1 h.2.2.symm
      rw [if_neg this]; rfl⟩ (by
      rintro i ρ hi ⟨y7, rfl⟩
      have ne : ¬ (sg = "end" ∧ n ≠ 0 ∧ i = n) := fun h => by omega
      rw [if_neg ne, Nat.add_zero]
      have sl := stS_len n sg fr at_ xs i
      have g : Gd (lays (stS n sg fr at_ xs i) s) 5 := Gd.lays (h.less (by omega)) (stS_ok _ _ _ _ _ _)
      have a1 := encC_at (c := xs) (i := i) (by omega)
      have e1 := @brow2 (fr + 2) _ (g.less (by omega)) "copy" (at_ + i) (cg xs i) (.copy (at_ + i) (cg xs i)) rfl
      have g1 := Gd.step (k := 4) g (a := .r (.copy (at_ + i) (cg xs i))) rfl
      have e2 := @brow2 (fr + 2) _ (g1.less (by omega)) "or" (at_ + i) (fr + 1) (.or_ (at_ + i) (fr + 1)) rfl
      have e3 := @pjoined_eq (fr + 2) fr (cg xs i) (at_ + i) _ g1
      by_cases hb : i + 1 < n ∨ sg ≠ "end"
      · have es : lays (stS n sg fr at_ xs (i + 1)) s = layA (layA (lays (stS n sg fr at_ xs i) s) (.r (.copy (at_ + i) (cg xs i)))) (.r (.or_ (at_ + i) (fr + 1))) := by
          rw [stS, if_pos hb, lays_app]; rfl
        have ne2 : ¬ (sg = "end" ∧ n ≠ 0 ∧ i + 1 = n) := fun h => by
          rcases hb with hb | hb
          · omega
          · exact hb h.1
        refine ⟨_, rfl, [some (bS (fr + 2 + if sg = "end" ∧ n ≠ 0 ∧ i + 1 = n then 1 else 0) (lays (stS n sg fr at_ xs (i + 1)) s)), some (.tup fx), some (.lst (encC xs)), some (.int below), some (.int at_), some (.int fr), none, some (.int (0 + (i : Nat) * 1)), some (.int (fr + 1 : Nat))], ?_, _, rfl⟩
        rw [if_neg ne2, es]
        generalize lays (stS n sg fr at_ xs i) s = t at *
        generalize encC xs = X at *
        generalize cg xs i = d at *
        simp at e1 e2
        rcases hb with hb | hb
        · have c1 : (i : Int) < (n : Int) - 1 := by omega
          simp [b_pstored_0, f1, f2, a1, e1, e2, c1]
        · by_cases c1 : (i : Int) < (n : Int) - 1
          · simp [b_pstored_0, f1, f2, a1, e1, e2, c1]
          · simp [b_pstored_0, f1, f2, a1, e1, e2, c1, hb]
      · have es : lays (stS n sg fr at_ xs (i + 1)) s = lays (joinA (fr + 2) fr (cg xs i) (at_ + i)) (layA (lays (stS n sg fr at_ xs i) s) (.r (.copy (at_ + i) (cg xs i)))) := by
          rw [stS, if_neg hb, lays_app]; rfl
        have he : sg = "end" := Classical.byContradiction fun h => hb (.inr h)
        have hin : i + 1 = n := by
          have : ¬ i + 1 < n := fun h => hb (.inl h)
          omega
        have ne2 : (sg = "end" ∧ n ≠ 0 ∧ i + 1 = n) := ⟨he, by omega, hin⟩
        refine ⟨_, rfl, [some (bS (fr + 2 + if sg = "end" ∧ n ≠ 0 ∧ i + 1 = n then 1 else 0) (lays (stS n sg fr at_ xs (i + 1)) s)), some (.tup fx), some (.lst (encC xs)), some (.int below), some (.int at_), some (.int fr), none, some (.int (0 + (i : Nat) * 1)), some (.int (fr + 1 : Nat))], ?_, _, rfl⟩
        rw [if_pos ne2, es]
        generalize lays (joinA (fr + 2) fr (cg xs i) (at_ + i)) (layA (lays (stS n sg fr at_ xs i) s) (.r (.copy (at_ + i) (cg xs i)))) = t2 at *
        generalize lays (stS n sg fr at_ xs i) s = t at *
        generalize encC xs = X at *
        generalize cg xs i = d at *
        have c1 : ¬ (i : Int) < (n : Int) - 1 := by omega
        subst he
        simp at e1 e3
        simp [b_pstored_0, f1, f2, a1, e1, e3, c1])
  refine ⟨y7, ?_⟩
  rw [e]
  have : (if sg = "end" ∧ n ≠ 0 ∧ n = n then 1 else 0) = (if sg = "end" ∧ n ≠ 0 then 1 else 0) := by
    by_cases h1 : sg = "end" ∧ n ≠ 0
    · rw [if_pos h1, if_pos ⟨h1.1, h1.2, rfl⟩]
    · rw [if_neg h1, if_neg (fun h => h1 ⟨h.1, h.2.1⟩)]
  rw [this]
theorem pairA_len (hs : List Nat) (fr at_ : Nat) : ∀ k, (pairA hs fr at_ k).length = 4 * k
  | 0 => rfl
  | k + 1 => by rw [pairA, List.length_append, pairA_len hs fr at_ k]; rfl
theorem pairA_ok (hs : List Nat) (fr at_ : Nat) : ∀ k, (pairA hs fr at_ k).all okAb = true
  | 0 => rfl
  | k + 1 => by rw [pairA, List.all_append, pairA_ok hs fr at_ k, joinA_ok]; rfl
theorem ixV_at {ρ : Env} {j : Nat} {c : List Nat} {i : Nat} (h : ρ[j]? = some (some (.own (encC c)))) (hi : i < c.length) : ixV ρ j (.int i) = some (.int (cg c i : Nat)) := by
  unfold ixV
  rw [h]
  exact encC_at hi
theorem pair_loop {fr at_ q : Nat} {hs : List Nat} {s : List Str × List Rw} (x1 x2 x3 x5 x8 : Option MV) (hl : hs.length = 2 * q) (hq : q < 1000) (h : Gd s (4 * q)) :
    ∃ y7, mLoop (gSet 7) b_pstored_1 (rngM 0 2 q) [some (bS fr s), x1, x2, x3, some (.int at_), x5, some (.own (encC hs)), none, x8] = .ok (.nx, [some (bS (fr + q) (lays (pairA hs fr at_ q) s)), x1, x2, x3, some (.int at_), x5, some (.own (encC hs)), y7, x8]) := by
  obtain ⟨ρ', e, y7, rfl⟩ := loop_nxr (g := gSet 7) (b := b_pstored_1) (lo := 0) (c := 2) (n := q) (ρ := [some (bS fr s), x1, x2, x3, some (.int at_), x5, some (.own (encC hs)), none, x8])
    (fun i ρ => ∃ y7, ρ = [some (bS (fr + i) (lays (pairA hs fr at_ i) s)), x1, x2, x3, some (.int at_), x5, some (.own (encC hs)), y7, x8]) ⟨none, rfl⟩ (by
      rintro i ρ hi ⟨y7, rfl⟩
      have g : Gd (lays (pairA hs fr at_ i) s) 4 := Gd.lays (h.less (by rw [pairA_len]; omega)) (pairA_ok _ _ _ _)
      have e3 := @pjoined_eq (fr + i) (cg hs (2 * i)) (cg hs (2 * i + 1)) (at_ + i) _ g
      have es : lays (pairA hs fr at_ (i + 1)) s = lays (joinA (fr + i) (cg hs (2 * i)) (cg hs (2 * i + 1)) (at_ + i)) (lays (pairA hs fr at_ i) s) := by
        rw [pairA, lays_app]
      have d2 : ((0 : Int) + (i : Nat) * 2).fdiv 2 = (i : Int) := by
        have := nat_fdiv (i * 2) 2
        rw [show i * 2 / 2 = i by omega] at this
        rw [← this]; simp
      have v1 : ∀ y0 y7 : Option MV, ixV [y0, x1, x2, x3, some (.int at_), x5, some (.own (encC hs)), y7, x8] 6 (.int (0 + (i : Nat) * 2)) = some (.int (cg hs (2 * i) : Nat)) := fun y0 y7 => by
        rw [show (0 : Int) + (i : Nat) * 2 = ((2 * i : Nat) : Int) by omega]
        exact ixV_at rfl (by omega)
      have v2 : ∀ y0 y7 : Option MV, ixV [y0, x1, x2, x3, some (.int at_), x5, some (.own (encC hs)), y7, x8] 6 (.int (0 + (i : Nat) * 2 + 1)) = some (.int (cg hs (2 * i + 1) : Nat)) := fun y0 y7 => by
        rw [show (0 : Int) + (i : Nat) * 2 + 1 = ((2 * i + 1 : Nat) : Int) by omega]
        exact ixV_at rfl (by omega)
      refine ⟨_, rfl, [some (bS (fr + (i + 1)) (lays (pairA hs fr at_ (i + 1)) s)), x1, x2, x3, some (.int at_), x5, some (.own (encC hs)), some (.int (0 + (i : Nat) * 2)), x8], ?_, _, rfl⟩
      rw [es]
      generalize lays (joinA (fr + i) (cg hs (2 * i)) (cg hs (2 * i + 1)) (at_ + i)) (lays (pairA hs fr at_ i) s) = t2 at *
      generalize lays (pairA hs fr at_ i) s = t at *
      generalize cg hs (2 * i) = a at *
      generalize cg hs (2 * i + 1) = b at *
      generalize encC hs = E at *
      show b_pstored_1 [some (bS (fr + i) t), x1, x2, x3, some (.int at_), x5, some (.own E), some (.int (0 + (i : Nat) * 2)), x8] = _
      generalize (0 : Int) + (i : Nat) * 2 = k2 at *
      simp at e3
      simp [b_pstored_1, v1, v2, divOk, d2, e3, Nat.add_assoc])
  exact ⟨y7, e⟩
abbrev CF := Nat → Nat
def bdA : Ab → Bool
  | .r x => okR 0 x
  | .lk c w => decide (c < 256) && fnNames.contains w
theorem cg_cells {p n k : Nat} (h : k < n) : cg (cells p n) k = p + k := by
  unfold cg cells
  rw [List.getD_eq_getElem?_getD, List.getElem?_map, List.getElem?_range h]; rfl
theorem cells_app (p a b : Nat) : cells p a ++ cells (p + a) b = cells p (a + b) := by
  unfold cells
  rw [List.range_add, List.map_append, List.map_map]
  congr 1
  apply List.map_congr_left
  intro i _
  show p + a + i = p + (a + i); omega
theorem cells_take (p a b : Nat) (h : a ≤ b) : (cells p b).take a = cells p a := by
  unfold cells
  rw [← List.map_take, List.take_range, Nat.min_eq_left h]
theorem cells_drop (p a b : Nat) (h : a ≤ b) : (cells p b).drop a = cells (p + a) (b - a) := by
  obtain ⟨c, rfl⟩ : ∃ c, b = a + c := ⟨b - a, by omega⟩
  rw [← cells_app, List.drop_append_of_le_length (by rw [cells_len]; omega), List.drop_eq_nil_of_le (by rw [cells_len]; omega), List.nil_append, Nat.add_sub_cancel_left]
theorem cells_mem {p n c : Nat} (h : c ∈ cells p n) : p ≤ c ∧ c < p + n := by
  unfold cells at h
  obtain ⟨i, hi, rfl⟩ := List.mem_map.mp h
  have := List.mem_range.mp hi
  omega
theorem seq_nx {a b : MS} {ρ ρ1 : Env} {R : Res (Fl × Env)} (h : a ρ = .ok (.nx, ρ1)) (h2 : b ρ1 = R) : mSeq a b ρ = R := by
  show (a ρ).bind _ = R
  rw [h]; exact h2
theorem room_le2 {kd sg : Str} {n : Nat} (h : 1 ≤ n) : roomM kd sg n ≤ n := by
  have : manyM n sg ≤ n + 1 := by unfold manyM; split <;> omega
  unfold roomM
  split <;> omega
theorem stH_len {n : Nat} {sg : Str} {fr : Nat} {xs : List Nat} (hl : xs.length = n) : (stH n sg fr xs).length = 2 * roomM "packed" sg n := by
  unfold stH roomM
  rw [if_pos rfl, ← many_even, List.length_append, List.length_append, cells_len, hl]
  unfold ahM manyM
  split <;> simp <;> omega
theorem encC_app (a b : List Nat) : encC (a ++ b) = encC a ++ encC b := by simp [encC]
theorem cbE_b0 {f : MF} {x v : MV} {ys : List MV} {args : List BA} {ρ : Env} {y : Option MV} (h : x.held = true) (hf : fill args (some x :: ρ) = some ys) (hi : idxB args = []) (en : f (x :: ys) = .ok (v, [y])) : cbE f (.b 0 :: args) (some x :: ρ) = .ok (v, y :: ρ) := by
  rw [cbE_ap]
  have e : fill (.b 0 :: args) (some x :: ρ) = some (x :: ys) := by
    rw [fill_b, hf]
    simp [h]
  rw [e]
  show (match f (x :: ys) with | .ok (v, os) => _ | .exc e os => _ | .stuck => _) = _
  rw [en]
  rw [idxB_b, hi]
  rfl
theorem cb1 {f : MF} {fr fr' : Nat} {s s' : List Str × List Rw} {a v : MV} (en : f [bS fr s, a] = .ok (v, [some (bS fr' s')])) (ρ : Env) : cbE f [.b 0, .v a] (some (bS fr s) :: ρ) = .ok (v, some (bS fr' s') :: ρ) := cbE_b0 rfl rfl rfl en
theorem cb2 {f : MF} {fr fr' : Nat} {s s' : List Str × List Rw} {a b v : MV} (en : f [bS fr s, a, b] = .ok (v, [some (bS fr' s')])) (ρ : Env) : cbE f [.b 0, .v a, .v b] (some (bS fr s) :: ρ) = .ok (v, some (bS fr' s') :: ρ) := cbE_b0 rfl rfl rfl en
theorem cb3 {f : MF} {fr fr' : Nat} {s s' : List Str × List Rw} {a b c v : MV} (en : f [bS fr s, a, b, c] = .ok (v, [some (bS fr' s')])) (ρ : Env) : cbE f [.b 0, .v a, .v b, .v c] (some (bS fr s) :: ρ) = .ok (v, some (bS fr' s') :: ρ) := cbE_b0 rfl rfl rfl en
theorem cb4 {f : MF} {fr fr' : Nat} {s s' : List Str × List Rw} {a b c d v : MV} (en : f [bS fr s, a, b, c, d] = .ok (v, [some (bS fr' s')])) (ρ : Env) : cbE f [.b 0, .v a, .v b, .v c, .v d] (some (bS fr s) :: ρ) = .ok (v, some (bS fr' s') :: ρ) := cbE_b0 rfl rfl rfl en
theorem pstored_eq {kd sg : Str} {n fr at_ below : Nat} {p : MV} {xs : List Nat} {s : List Str × List Rw} (hk : kd = "packed" ∨ kd = "spread") (hn : 1 ≤ n ∧ n < 60) (hl : xs.length = n) (h : Gd s (8 * n + 20)) :
    f_pstored [bS fr s, Form kd n sg p, .lst (encC xs), .int below, .int at_] = .ok (.non, [some (bS (fr + storeN kd sg n) (lays (storeA kd sg n fr at_ xs below) s))]) := by
  have ho := @phalves_of_eq kd sg n p
  have e1 := @bput fr s (h.less (by omega)) 12
  have g1 := Gd.step (k := 8 * n + 19) h (a := .r (.put fr 12)) rfl
  have e2 := @brow2 (fr + 1) _ (g1.less (by omega)) "add" fr below (.add fr below) rfl
  have g2 := Gd.step (k := 8 * n + 18) g1 (a := .r (.add fr below)) rfl
  have ir : inR (n : Int) = true := inR_of (by omega) (by omega)
  generalize ht : layA (layA s (.r (.put fr 12))) (.r (.add fr below)) = t at *
  rcases hk with rfl | rfl
  · have hah : ahM n sg < 2 := Nat.mod_lt _ (by decide)
    have rl := @room_le2 "packed" sg n hn.1
    have en := @pnoughts_eq (fr + 1) (ahM n sg) t (g2.less (by omega)) (by omega)
    have g3 : Gd (lays (putA 0 (fr + 1) (ahM n sg)) t) (8 * n + 10) := Gd.lays (g2.less (by rw [putA_len]; omega)) (putA_ok _ _ _)
    obtain ⟨y7, lp⟩ := pair_loop (fr := fr + 1 + ahM n sg) (at_ := at_) (q := roomM "packed" sg n) (hs := stH n sg fr xs) (s := lays (putA 0 (fr + 1) (ahM n sg)) t) (some (Form "packed" n sg p)) (some (.lst (encC xs))) (some (.int below)) (some (.int fr)) none (stH_len hl) (by omega) (g3.less (by omega))
    have es : lays (storeA "packed" sg n fr at_ xs below) s = lays (pairA (stH n sg fr xs) (fr + 1 + ahM n sg) at_ (roomM "packed" sg n)) (lays (putA 0 (fr + 1) (ahM n sg)) t) := by
      unfold storeA
      rw [if_neg (by decide), lays_cons, lays_cons, lays_app, ht]
    have eN : storeN "packed" sg n = 1 + ahM n sg + roomM "packed" sg n := if_neg (by decide)
    have hg := rg_two (roomM "packed" sg n) (by omega)
    have hL := @stH_len n sg fr xs hl
    rw [es, eN, show fr + (1 + ahM n sg + roomM "packed" sg n) = fr + 1 + ahM n sg + roomM "packed" sg n by omega]
    have lx : (encC xs).length = n := by rw [encC_len, hl]
    have lc : (encC (cells (fr + 1) (ahM n sg))).length = ahM n sg := by rw [encC_len, cells_len]
    have lE : (encC (stH n sg fr xs)).length = 2 * roomM "packed" sg n := by rw [encC_len, hL]
    have eE : encC (stH n sg fr xs) = encC (cells (fr + 1) (ahM n sg)) ++ encC xs ++ (if sg = "end" then [MV.int fr] else []) := by
      unfold stH
      rw [encC_app, encC_app]
      split <;> rfl
    have sz1 : szOk (ahM n sg + n) = true := szOk_small (by omega)
    have sz2 : ahM n sg + n < sizeLine := by rw [sizeLine_eq]; omega
    have bl : bList [.lst (encC xs)] = some (.lst (encC xs)) := rfl
    generalize lays (pairA (stH n sg fr xs) (fr + 1 + ahM n sg) at_ (roomM "packed" sg n)) (lays (putA 0 (fr + 1) (ahM n sg)) t) = t3 at *
    generalize lays (putA 0 (fr + 1) (ahM n sg)) t = t2 at *
    generalize fr + 1 + ahM n sg + roomM "packed" sg n = f9 at *
    generalize hEE : encC (stH n sg fr xs) = EE at *
    generalize encC (cells (fr + 1) (ahM n sg)) = C0 at *
    generalize encC xs = X at *
    generalize roomM "packed" sg n = rm at *
    unfold ahM at *
    generalize manyM n sg % 2 = ah at *
    unfold Form at *
    refine mFn_nxB ⟨[some (bS f9 t3), some (.tup [.str "packed", .int n, .str sg, p]), some (.lst X), some (.int below), some (.int at_), some (.int fr), some (.own EE), y7, none], ?_, rfl⟩
    have hg1 := hg.1
    have hg2 := hg.2
    unfold m_pstored
    have fe : (if sg = "end" then [MV.int fr] else []) = (if sg = "end" then [MV.int fr] else []) := rfl
    refine seq_nx (ρ1 := [some (bS (fr + 1) (layA s (.r (.put fr 12)))), some (.tup [.str "packed", .int n, .str sg, p]), some (.lst X), some (.int below), some (.int at_), some (.int fr), none, none, none]) ?_ ?_
    · simp at e1
      simp [e1]
    refine seq_nx (ρ1 := [some (bS (fr + 1) t), some (.tup [.str "packed", .int n, .str sg, p]), some (.lst X), some (.int below), some (.int at_), some (.int fr), none, none, none]) ?_ ?_
    · simp [e2]
    refine seq_nx (ρ1 := [some (bS (fr + 1) t), some (.tup [.str "packed", .int n, .str sg, p]), some (.lst X), some (.int below), some (.int at_), some (.int fr), none, none, none]) ?_ ?_
    · simp
    refine seq_nx (ρ1 := [some (bS (fr + 1 + ah) t2), some (.tup [.str "packed", .int n, .str sg, p]), some (.lst X), some (.int below), some (.int at_), some (.int fr), some (.own (C0 ++ X)), none, none]) ?_ ?_
    · have c1 := cb1 en
      simp [-cbE_ap, ho, c1, bl, lc, lx, sz1]
    refine seq_nx (ρ1 := [some (bS (fr + 1 + ah) t2), some (.tup [.str "packed", .int n, .str sg, p]), some (.lst X), some (.int below), some (.int at_), some (.int fr), some (.own EE), none, none]) ?_ ?_
    · rw [eE]
      by_cases he : sg = "end"
      · subst he
        simp [isOwn, lmAppend, lc, lx, sz2]
      · simp [he]
    · have hg1 := hg.1
      have hg2 := hg.2
      simp at hg1 hg2 lp
      simp [lE, hg1, hg2, lp]
  · obtain ⟨y7, lp⟩ := stS_loop (kd := "spread") (sg := sg) (n := n) (fr := fr) (at_ := at_) (below := below) (p := p) (xs := xs) (s := layA t (.r (.put (fr + 1) 240))) (by omega) (by omega) ((Gd.step (k := 8 * n + 17) g2 (a := .r (.put (fr + 1) 240)) rfl).less (by omega))
    have e3 := @bput (fr + 1) t (g2.less (by omega)) 240
    have es : lays (storeA "spread" sg n fr at_ xs below) s = lays (stS n sg fr at_ xs n) (layA t (.r (.put (fr + 1) 240))) := by
      unfold storeA
      rw [if_pos rfl, lays_cons, lays_cons, ht]; rfl
    have eN : fr + storeN "spread" sg n = fr + 2 + (if sg = "end" ∧ n ≠ 0 then 1 else 0) := by
      unfold storeN
      rw [if_pos rfl]
      by_cases he : sg = "end"
      · rw [if_pos he, if_pos ⟨he, by omega⟩]
      · rw [if_neg he, if_neg (fun h => he h.1)]
    rw [es, eN]
    generalize lays (stS n sg fr at_ xs n) (layA t (.r (.put (fr + 1) 240))) = t3 at *
    generalize fr + 2 + (if sg = "end" ∧ n ≠ 0 then 1 else 0) = f9 at *
    generalize encC xs = X at *
    unfold Form at *
    refine mFn_rtB ⟨[some (bS f9 t3), some (.tup [.str "spread", .int n, .str sg, p]), some (.lst X), some (.int below), some (.int at_), some (.int fr), none, y7, some (.int (fr + 1 : Nat))], ?_, rfl⟩
    simp at e1 e2 e3 lp
    simp [m_pstored, ir, e1, e2, e3, lp]
theorem downA_ok {f : Nat → List Ab} (h : ∀ k, (f k).all okAb = true) : ∀ k, (downA f k).all okAb = true
  | 0 => rfl
  | k + 1 => by rw [downA, List.all_append, h k, downA_ok h k]; rfl
theorem carA_ok (cell carry : Nat) : (carA cell carry).all okAb = true := by
  show (true && (true && (fnNames.contains ("ahead_of_last" : Str) && (fnNames.contains ("last_figure" : Str) && true)))) = true
  decide +kernel
theorem takA_ok (fr : Nat) (cs : List Nat) : (takA fr cs).all okAb = true := takI_ok _ _ _
theorem takA_len (fr : Nat) (cs : List Nat) : (takA fr cs).length = cs.length := takI_len _ _ _
theorem turnA_ok (fr : Nat) (xs : List Nat) (flag : Nat) : (turnA fr xs flag).all okAb = true := by
  unfold turnA
  rw [List.all_cons, List.all_cons, List.all_cons, downA_ok]
  · show (true && (fnNames.contains ("ten_or_none" : Str) && (true && true))) = true
    decide +kernel
  · intro k
    unfold turnF
    rw [List.all_cons, List.all_cons, carA_ok]
    show (true && (fnNames.contains ("nine_less" : Str) && true)) = true
    decide +kernel
theorem orA_ok (to : Nat) (cs : List Nat) : (orA to cs).all okAb = true := by
  rw [List.all_eq_true]
  intro a ha
  obtain ⟨k, _, rfl⟩ := List.mem_map.mp ha
  rfl
theorem anyA_ok (fr : Nat) (cs : List Nat) : (anyA fr cs).all okAb = true := by
  unfold anyA
  rw [List.all_cons, List.all_append, orA_ok]
  show (true && (true && (fnNames.contains ("one_or_none" : Str) && true))) = true
  decide +kernel
theorem anyA_len (fr : Nat) (cs : List Nat) : (anyA fr cs).length = cs.length + 2 := by simp [anyA, orA]
theorem loadT_ok (kd sg : Str) (n fr at_ : Nat) : (loadT kd sg n fr at_).all okAb = true := by
  have h1 : fnNames.contains ("five_on" : Str) = true := by decide +kernel
  have h2 : fnNames.contains ("high_half" : Str) = true := by decide +kernel
  have h3 : fnNames.contains ("sign_below" : Str) = true := by decide +kernel
  unfold loadT
  split
  · rfl
  · split
    · rw [List.all_cons, List.all_cons, turnA_ok]
      show (true && (fnNames.contains ("five_on" : Str) && true)) = true
      rw [h1]; rfl
    · rw [List.all_cons, List.all_append]
      have e : (if kd = "spread" then [Ab.lk (fr + n) "high_half"] else []).all okAb = true := by
        split
        · show (fnNames.contains ("high_half" : Str) && true) = true
          rw [h2]; rfl
        · rfl
      rw [e]
      show (true && (true && (fnNames.contains ("sign_below" : Str) && true))) = true
      rw [h3]; rfl
theorem loadA_ok (kd sg : Str) (n fr at_ : Nat) : (loadA kd sg n fr at_).all okAb = true := by
  unfold loadA
  rw [List.all_append, ldA_ok, loadT_ok]; rfl
theorem loadA_len (kd sg : Str) (n fr at_ : Nat) : (loadA kd sg n fr at_).length ≤ 8 * n + 5 := by
  unfold loadA
  rw [List.length_append, ldA_len]
  unfold loadT
  split
  · simp; omega
  · split
    · rw [List.length_cons, List.length_cons, turnA_len, cells_len]; omega
    · split <;> simp <;> omega
theorem storeA_ok (kd sg : Str) (n fr at_ : Nat) (xs : List Nat) (below : Nat) : (storeA kd sg n fr at_ xs below).all okAb = true := by
  unfold storeA
  rw [List.all_cons, List.all_cons]
  split
  · rw [List.all_cons, stS_ok]; rfl
  · rw [List.all_append, putA_ok, pairA_ok]; rfl
theorem storeA_len {kd sg : Str} {n fr at_ : Nat} {xs : List Nat} {below : Nat} (hn : 1 ≤ n) : (storeA kd sg n fr at_ xs below).length ≤ 5 * n + 4 := by
  unfold storeA
  rw [List.length_cons, List.length_cons]
  split
  · have := stS_len n sg fr at_ xs n
    rw [List.length_cons]; omega
  · have := @room_le2 "packed" sg n hn
    have h2 : ahM n sg < 2 := Nat.mod_lt _ (by decide)
    rw [List.length_append, putA_len, pairA_len]; omega
def finL (fr : Nat) (kd sg : Str) (n : Nat) (P : List Nat) (below at_ : Nat) : List Ab :=
  putA 0 fr (n - P.length) ++ (takA (fr + (n - P.length)) (P.drop (P.length - n)) ++ (anyA (fr + n) (P.take (P.length - n)) ++ (anyA (fr + n + 1) P ++ (bothA (fr + n + 1 + 1) (fr + n + 1) below ++
    (if sg = "end" then anyA (fr + n + 1 + 1 + 1) (cells fr n) ++ (bothA (fr + n + 1 + 1 + 1 + 1) (fr + n + 1 + 1 + 1) below ++ storeA kd sg n (fr + n + 1 + 1 + 1 + 1 + 1) at_ (cells fr n) (fr + n + 1 + 1 + 1 + 1))
    else turnA (fr + n + 1 + 1 + 1) (cells fr n) (fr + n + 1 + 1) ++ (if sg = "tens" then
      .r (.copy (fr + n + 1 + 1 + 1 + 2) fr) :: .lk (fr + n + 1 + 1 + 1 + 2) "five_on" :: .r (.add (fr + n + 1 + 1 + 1 + 2) (fr + n + 1 + 1)) :: .r (.add (fr + n + 1 + 1 + 1 + 2) (fr + n + 1 + 1)) :: .lk (fr + n + 1 + 1 + 1 + 2) "one_of_two" :: .r (.or_ (fr + n) (fr + n + 1 + 1 + 1 + 2)) :: storeA kd sg n (fr + n + 1 + 1 + 1 + 2 + 1) at_ (cells fr n) below
      else .r (.or_ (fr + n) (fr + n + 1 + 1)) :: storeA kd sg n (fr + n + 1 + 1 + 1 + 2) at_ (cells fr n) below))))))
def finN (kd sg : Str) (fr n : Nat) : Nat := (if sg = "end" then fr + n + 1 + 1 + 1 + 1 + 1 else if sg = "tens" then fr + n + 1 + 1 + 1 + 2 + 1 else fr + n + 1 + 1 + 1 + 2) + storeN kd sg n
theorem bothA_ok (fr one other : Nat) : (bothA fr one other).all okAb = true := rfl
theorem finL_ok (fr : Nat) (kd sg : Str) (n : Nat) (P : List Nat) (below at_ : Nat) : (finL fr kd sg n P below at_).all okAb = true := by
  have h1 : fnNames.contains ("five_on" : Str) = true := by decide +kernel
  have h2 : fnNames.contains ("one_of_two" : Str) = true := by decide +kernel
  unfold finL
  simp only [List.all_append, putA_ok, takA_ok, anyA_ok, bothA_ok, Bool.true_and]
  split
  · simp only [List.all_append, anyA_ok, bothA_ok, storeA_ok, Bool.true_and]
  · rw [List.all_append, turnA_ok, Bool.true_and]
    split
    · simp only [List.all_cons, storeA_ok, Bool.and_true]
      show (true && (fnNames.contains ("five_on" : Str) && (true && (true && (fnNames.contains ("one_of_two" : Str) && true))))) = true
      rw [h1, h2]; rfl
    · rw [List.all_cons, storeA_ok]; rfl
theorem cut_lastL {P : List Nat} {n : Nat} (h : 1 ≤ n) : cutM (encC P) (some (-(n : Int))) none = encC (P.drop (P.length - n)) := by
  have e : HT.sIx (encC P).length 0 (some (-(n : Int))) = P.length - n := by
    rw [encC_len]
    simp only [HT.sIx]
    split <;> omega
  unfold cutM
  rw [e]
  have e2 : HT.sIx (encC P).length (encC P).length none = P.length := by
    rw [encC_len]; rfl
  rw [e2, show encC P = P.map (fun d : Nat => MV.int d) from rfl, ← List.map_drop, ← List.map_take, List.take_of_length_le (by rw [List.length_drop]; omega)]
  rfl
theorem pfinishedL_eq {kd sg : Str} {n fr L below at_ : Nat} {P : List Nat} {pt : MV} {s : List Str × List Rw} (hP : P.length = L) (hk : kd = "packed" ∨ kd = "spread") (hsg : sg = "none" ∨ sg = "end" ∨ sg = "tens") (hn : 1 ≤ n ∧ n < 60) (hL : L < 900) (h : Gd s (2 * L + 20 * n + 60)) :
    f_pfinished [bS fr s, Form kd n sg pt, .lst (encC P), .int below, .int at_] = .ok (.int (fr + n : Nat), [some (bS (finN kd sg fr n) (lays (finL fr kd sg n P below at_) s))]) := by
  have cl := @cut_lastL P n hn.1
  rw [hP] at cl
  have ct : cutM (encC P) none (some ((L - n : Nat) : Int)) = encC (P.take (L - n)) := by
    rw [cutM_to (by omega), Int.toNat_natCast]
    show (P.map _).take _ = _
    rw [← List.map_take]; rfl
  have m1 : bMax [.int 0, .int ((n : Int) - L)] = some (.int ((n - L : Nat) : Int)) := by
    rw [bMax_i]
    congr 2
    split <;> omega
  have m2 : bMax [.int 0, .int ((L : Int) - n)] = some (.int ((L - n : Nat) : Int)) := by
    rw [bMax_i]
    congr 2
    split <;> omega
  have lL : (encC P).length = L := by rw [encC_len, hP]
  have szL : szOk L = true := szOk_small (by omega)
  have ld : (P.drop (L - n)).length = L - (L - n) := by rw [List.length_drop, hP]
  have lt : (P.take (L - n)).length = L - n := by rw [List.length_take, hP]; omega
  -- the lower figures
  have q1 := @pnoughts_eq fr (n - L) s (h.less (by omega)) (by omega)
  have g1 : Gd (lays (putA 0 fr (n - L)) s) (2 * L + 19 * n + 60) := Gd.lays (h.less (by rw [putA_len]; omega)) (putA_ok _ _ _)
  unfold finL
  rw [hP, lays_app]
  generalize lays (putA 0 fr (n - L)) s = s1 at *
  have q2 := @ptaken_eq (fr + (n - L)) (P.drop (L - n)) s1 (g1.less (by rw [ld]; omega)) (by rw [ld]; omega)
  have g2 : Gd (lays (takA (fr + (n - L)) (P.drop (L - n))) s1) (2 * L + 18 * n + 60) := Gd.lays (g1.less (by rw [takA_len, ld]; omega)) (takA_ok _ _)
  rw [ld, show fr + (n - L) + (L - (L - n)) = fr + n by omega] at q2
  rw [lays_app]
  generalize lays (takA (fr + (n - L)) (P.drop (L - n))) s1 = s2 at *
  have ec1 : encC (cells fr (n - L)) ++ encC (cells (fr + (n - L)) (L - (L - n))) = encC (cells fr n) := by
    rw [← encC_app, cells_app, show n - L + (L - (L - n)) = n by omega]
  have lc1 : (encC (cells fr (n - L))).length + (encC (cells (fr + (n - L)) (L - (L - n)))).length = n := by
    rw [encC_len, encC_len, cells_len, cells_len]; omega
  have szn : szOk n = true := szOk_small (by omega)
  have q3 := @pany_of_eq (fr + n) (P.take (L - n)) s2 (g2.less (by rw [lt]; omega))
  have g3 : Gd (lays (anyA (fr + n) (P.take (L - n))) s2) (L + 18 * n + 58) := Gd.lays (g2.less (by rw [anyA_len, lt]; omega)) (anyA_ok _ _)
  rw [lays_app]
  generalize lays (anyA (fr + n) (P.take (L - n))) s2 = s3 at *
  have q4 := @pany_of_eq (fr + n + 1) P s3 (g3.less (by rw [hP]; omega))
  have g4 : Gd (lays (anyA (fr + n + 1) P) s3) (18 * n + 56) := Gd.lays (g3.less (by rw [anyA_len, hP]; omega)) (anyA_ok _ _)
  rw [lays_app]
  generalize lays (anyA (fr + n + 1) P) s3 = s4 at *
  have q5 := @pboth_eq (fr + n + 1 + 1) (fr + n + 1) below s4 (g4.less (by omega))
  have g5 : Gd (lays (bothA (fr + n + 1 + 1) (fr + n + 1) below) s4) (18 * n + 54) := Gd.lays (g4.less (by simp [bothA]; omega)) (bothA_ok _ _ _)
  rw [lays_app]
  generalize lays (bothA (fr + n + 1 + 1) (fr + n + 1) below) s4 = s5 at *
  have c0 : atI (encC (cells fr n)) 0 = some (.int fr) := by
    have := encC_at (c := cells fr n) (i := 0) (by rw [cells_len]; omega)
    rw [cg_cells (by omega)] at this; exact this
  have fe : Form kd n sg pt = .tup [.str kd, .int n, .str sg, pt] := rfl
  generalize encC (P.take (L - n)) = P0 at *
  generalize encC (P.drop (L - n)) = P1 at *
  generalize hPP : encC P = PP at *
  generalize encC (cells fr (n - L)) = A0 at *
  generalize encC (cells (fr + (n - L)) (L - (L - n))) = A1 at *
  have d1 := cb1 q1
  have d2 := cb1 q2
  have d3 := cb1 q3
  have d4 := cb1 q4
  have d5 := cb2 q5
  have st1 : (mAsg (mOp fAdd (mFz (mCallB f_pnoughts (mbB 0 (mbV (mBlt bMax (mCons (mC (.int 0)) (mCons (mOp fSub (mOp fIx (mVar 1) (mC (.int 1))) (mBlt bLen (mCons (mVar 2) (mNil)))) (mNil)))) (mbNil))))) (mFz (mCallB f_ptaken (mbB 0 (mbV (mSl (mVar 2) (mPart (mUn fNeg (mOp fIx (mVar 1) (mC (.int 1))))) (mNo)) (mbNil)))))) (gSet 5)) [some (bS fr s), some (Form kd n sg pt), some (.lst PP), some (.int below), some (.int at_), none, none, none, none] = .ok (.nx, [some (bS (fr + n) s2), some (Form kd n sg pt), some (.lst PP), some (.int below), some (.int at_), some (.lst (encC (cells fr n))), none, none, none]) := by
    rw [fe]
    generalize encC (cells fr n) = A at *
    simp [-cbE_ap, -bMax_i, lL, szL, m1, d1, d2, cl, lc1, szn, ec1]
  have st2 : (mAsg (mFz (mCallB f_pany_of (mbB 0 (mbV (mSl (mVar 2) (mNo) (mPart (mBlt bMax (mCons (mC (.int 0)) (mCons (mOp fSub (mBlt bLen (mCons (mVar 2) (mNil))) (mOp fIx (mVar 1) (mC (.int 1)))) (mNil)))))) (mbNil))))) (gSet 6)) [some (bS (fr + n) s2), some (Form kd n sg pt), some (.lst PP), some (.int below), some (.int at_), some (.lst (encC (cells fr n))), none, none, none] = .ok (.nx, [some (bS (fr + n + 1) s3), some (Form kd n sg pt), some (.lst PP), some (.int below), some (.int at_), some (.lst (encC (cells fr n))), some (.int (fr + n : Nat)), none, none]) := by
    rw [fe]
    generalize encC (cells fr n) = A at *
    generalize fr + n = f1 at *
    simp [-cbE_ap, -bMax_i, lL, szL, m2, d3, ct]
  have st3 : (mAsg (mFz (mCallB f_pboth (mbB 0 (mbV (mFz (mCallB f_pany_of (mbB 0 (mbV (mVar 2) (mbNil))))) (mbV (mVar 3) (mbNil)))))) (gSet 7)) [some (bS (fr + n + 1) s3), some (Form kd n sg pt), some (.lst PP), some (.int below), some (.int at_), some (.lst (encC (cells fr n))), some (.int (fr + n : Nat)), none, none] = .ok (.nx, [some (bS (fr + n + 1 + 1 + 1) s5), some (Form kd n sg pt), some (.lst PP), some (.int below), some (.int at_), some (.lst (encC (cells fr n))), some (.int (fr + n : Nat)), some (.int (fr + n + 1 + 1 : Nat)), none]) := by
    rw [fe]
    generalize encC (cells fr n) = A at *
    generalize fr + n + 1 + 1 = f3 at *
    generalize fr + n + 1 = f2 at *
    generalize fr + n = f1 at *
    simp [-cbE_ap, d4, d5]
  clear d1 d2 d3 d4 d5 q1 q2 q3 q4 q5 cl ct m1 m2 ec1 lc1
  by_cases he : sg = "end"
  · subst he
    rw [if_pos rfl, lays_app, lays_app]
    have q6 := @pany_of_eq (fr + n + 1 + 1 + 1) (cells fr n) s5 (g5.less (by rw [cells_len]; omega))
    have g6 : Gd (lays (anyA (fr + n + 1 + 1 + 1) (cells fr n)) s5) (17 * n + 52) := Gd.lays (g5.less (by rw [anyA_len, cells_len]; omega)) (anyA_ok _ _)
    generalize lays (anyA (fr + n + 1 + 1 + 1) (cells fr n)) s5 = s6 at *
    have q7 := @pboth_eq (fr + n + 1 + 1 + 1 + 1) (fr + n + 1 + 1 + 1) below s6 (g6.less (by omega))
    have g7 : Gd (lays (bothA (fr + n + 1 + 1 + 1 + 1) (fr + n + 1 + 1 + 1) below) s6) (17 * n + 50) := Gd.lays (g6.less (by simp [bothA]; omega)) (bothA_ok _ _ _)
    generalize lays (bothA (fr + n + 1 + 1 + 1 + 1) (fr + n + 1 + 1 + 1) below) s6 = s7 at *
    have q8 := @pstored_eq kd "end" n (fr + n + 1 + 1 + 1 + 1 + 1) at_ (fr + n + 1 + 1 + 1 + 1) pt (cells fr n) s7 hk hn (cells_len _ _) (g7.less (by omega))
    have eN : finN kd "end" fr n = fr + n + 1 + 1 + 1 + 1 + 1 + storeN kd "end" n := by unfold finN; rw [if_pos rfl]
    rw [eN]
    generalize fr + n + 1 + 1 + 1 + 1 + 1 + storeN kd "end" n = f9 at *
    generalize lays (storeA kd "end" n (fr + n + 1 + 1 + 1 + 1 + 1) at_ (cells fr n) (fr + n + 1 + 1 + 1 + 1)) s7 = s8 at *
    have d6 := cb1 q6
    have d7 := cb2 q7
    have d8 := cb4 q8
    refine mFn_rtB ⟨[some (bS f9 s8), some (Form kd n "end" pt), some (.lst PP), some (.int below), some (.int at_), some (.lst (encC (cells fr n))), some (.int (fr + n : Nat)), some (.int (fr + n + 1 + 1 : Nat)), none], ?_, rfl⟩
    unfold m_pfinished
    refine seq_nx st1 (seq_nx st2 (seq_nx st3 ?_))
    rw [fe] at d8 ⊢
    clear st1 st2 st3
    generalize encC (cells fr n) = A at *
    generalize fr + n + 1 + 1 + 1 + 1 + 1 = f6 at *
    generalize fr + n + 1 + 1 + 1 + 1 = f5 at *
    generalize fr + n + 1 + 1 + 1 = f4 at *
    generalize fr + n + 1 + 1 = f3 at *
    generalize fr + n = f1 at *
    simp [-cbE_ap, d6, d7, d8]
  · rw [if_neg he, lays_app]
    have q6 := @pturn_by_eq (fr + n + 1 + 1 + 1) (fr + n + 1 + 1) (cells fr n) s5 (by rw [cells_len]; omega) (g5.less (by rw [cells_len]; omega))
    have g6 : Gd (lays (turnA (fr + n + 1 + 1 + 1) (cells fr n) (fr + n + 1 + 1)) s5) (12 * n + 51) := Gd.lays (g5.less (by rw [turnA_len, cells_len]; omega)) (turnA_ok _ _ _)
    generalize lays (turnA (fr + n + 1 + 1 + 1) (cells fr n) (fr + n + 1 + 1)) s5 = s6 at *
    have d6 := cb2 q6
    by_cases ht : sg = "tens"
    · subst ht
      rw [if_pos rfl]
      have e1 := @blooked (fr + n + 1 + 1 + 1 + 2) s6 (g6.less (by omega)) fr "five_on" (nm _ (by decide +kernel))
      have g7 := Gd.step (k := 12 * n + 50) g6 (a := .r (.copy (fr + n + 1 + 1 + 1 + 2) fr)) rfl
      have g8 := Gd.step (k := 12 * n + 49) g7 (a := .lk (fr + n + 1 + 1 + 1 + 2) "five_on") (show fnNames.contains ("five_on" : Str) = true by decide +kernel)
      rw [lays_cons, lays_cons]
      generalize layA (layA s6 (.r (.copy (fr + n + 1 + 1 + 1 + 2) fr))) (.lk (fr + n + 1 + 1 + 1 + 2) "five_on") = s7 at *
      have e2 := @brow2 (fr + n + 1 + 1 + 1 + 2 + 1) s7 (g8.less (by omega)) "add" (fr + n + 1 + 1 + 1 + 2) (fr + n + 1 + 1) (.add (fr + n + 1 + 1 + 1 + 2) (fr + n + 1 + 1)) rfl
      have g9 := Gd.step (k := 12 * n + 48) g8 (a := .r (.add (fr + n + 1 + 1 + 1 + 2) (fr + n + 1 + 1))) rfl
      rw [lays_cons]
      generalize layA s7 (.r (.add (fr + n + 1 + 1 + 1 + 2) (fr + n + 1 + 1))) = s8 at *
      have e3 := @brow2 (fr + n + 1 + 1 + 1 + 2 + 1) s8 (g9.less (by omega)) "add" (fr + n + 1 + 1 + 1 + 2) (fr + n + 1 + 1) (.add (fr + n + 1 + 1 + 1 + 2) (fr + n + 1 + 1)) rfl
      have g10 := Gd.step (k := 12 * n + 47) g9 (a := .r (.add (fr + n + 1 + 1 + 1 + 2) (fr + n + 1 + 1))) rfl
      rw [lays_cons]
      generalize layA s8 (.r (.add (fr + n + 1 + 1 + 1 + 2) (fr + n + 1 + 1))) = s9 at *
      have e4 := @blook (fr + n + 1 + 1 + 1 + 2 + 1) s9 (g10.less (by omega)) (fr + n + 1 + 1 + 1 + 2) "one_of_two" (nm _ (by decide +kernel))
      have g11 := Gd.step (k := 12 * n + 46) g10 (a := .lk (fr + n + 1 + 1 + 1 + 2) "one_of_two") (show fnNames.contains ("one_of_two" : Str) = true by decide +kernel)
      rw [lays_cons]
      generalize layA s9 (.lk (fr + n + 1 + 1 + 1 + 2) "one_of_two") = s10 at *
      have e5 := @brow2 (fr + n + 1 + 1 + 1 + 2 + 1) s10 (g11.less (by omega)) "or" (fr + n) (fr + n + 1 + 1 + 1 + 2) (.or_ (fr + n) (fr + n + 1 + 1 + 1 + 2)) rfl
      have g12 := Gd.step (k := 12 * n + 45) g11 (a := .r (.or_ (fr + n) (fr + n + 1 + 1 + 1 + 2))) rfl
      rw [lays_cons]
      generalize layA s10 (.r (.or_ (fr + n) (fr + n + 1 + 1 + 1 + 2))) = s11 at *
      have q8 := @pstored_eq kd "tens" n (fr + n + 1 + 1 + 1 + 2 + 1) at_ below pt (cells fr n) s11 hk hn (cells_len _ _) (g12.less (by omega))
      have eN : finN kd "tens" fr n = fr + n + 1 + 1 + 1 + 2 + 1 + storeN kd "tens" n := by unfold finN; rw [if_neg (by decide), if_pos rfl]
      rw [eN]
      generalize fr + n + 1 + 1 + 1 + 2 + 1 + storeN kd "tens" n = f9 at *
      generalize lays (storeA kd "tens" n (fr + n + 1 + 1 + 1 + 2 + 1) at_ (cells fr n) below) s11 = s12 at *
      have d8 := cb4 q8
      have k1 := cb2 e1
      have k2 := cb3 e2
      have k3 := cb3 e3
      have k4 := cb2 e4
      have k5 := cb3 e5
      refine mFn_rtB ⟨[some (bS f9 s12), some (Form kd n "tens" pt), some (.lst PP), some (.int below), some (.int at_), some (.lst (encC (cells fr n))), some (.int (fr + n : Nat)), some (.int (fr + n + 1 + 1 : Nat)), some (.int (fr + n + 1 + 1 + 1 + 2 : Nat))], ?_, rfl⟩
      unfold m_pfinished
      refine seq_nx st1 (seq_nx st2 (seq_nx st3 ?_))
      rw [fe] at d8 ⊢
      clear st1 st2 st3
      generalize encC (cells fr n) = A at *
      generalize fr + n + 1 + 1 + 1 + 2 + 1 = f6 at *
      generalize fr + n + 1 + 1 + 1 + 2 = f5 at *
      generalize fr + n + 1 + 1 + 1 = f4 at *
      generalize fr + n + 1 + 1 = f3 at *
      generalize fr + n = f1 at *
      simp [-cbE_ap, d6, d8, k1, k2, k3, k4, k5, c0]
    · rw [if_neg ht]
      have e5 := @brow2 (fr + n + 1 + 1 + 1 + 2) s6 (g6.less (by omega)) "or" (fr + n) (fr + n + 1 + 1) (.or_ (fr + n) (fr + n + 1 + 1)) rfl
      have g12 := Gd.step (k := 12 * n + 50) g6 (a := .r (.or_ (fr + n) (fr + n + 1 + 1))) rfl
      rw [lays_cons]
      generalize layA s6 (.r (.or_ (fr + n) (fr + n + 1 + 1))) = s11 at *
      have q8 := @pstored_eq kd sg n (fr + n + 1 + 1 + 1 + 2) at_ below pt (cells fr n) s11 hk hn (cells_len _ _) (g12.less (by omega))
      have eN : finN kd sg fr n = fr + n + 1 + 1 + 1 + 2 + storeN kd sg n := by unfold finN; rw [if_neg he, if_neg ht]
      rw [eN]
      generalize fr + n + 1 + 1 + 1 + 2 + storeN kd sg n = f9 at *
      generalize lays (storeA kd sg n (fr + n + 1 + 1 + 1 + 2) at_ (cells fr n) below) s11 = s12 at *
      have d8 := cb4 q8
      have k5 := cb3 e5
      refine mFn_rtB ⟨[some (bS f9 s12), some (Form kd n sg pt), some (.lst PP), some (.int below), some (.int at_), some (.lst (encC (cells fr n))), some (.int (fr + n : Nat)), some (.int (fr + n + 1 + 1 : Nat)), none], ?_, rfl⟩
      unfold m_pfinished
      refine seq_nx st1 (seq_nx st2 (seq_nx st3 ?_))
      rw [fe] at d8 ⊢
      clear st1 st2 st3
      generalize encC (cells fr n) = A at *
      generalize fr + n + 1 + 1 + 1 + 2 = f5 at *
      generalize fr + n + 1 + 1 + 1 = f4 at *
      generalize fr + n + 1 + 1 = f3 at *
      generalize fr + n = f1 at *
      simp [-cbE_ap, he, ht, d6, d8, k5]
def frzB (fr : Nat) (s : List Str × List Rw) : MV := .obj "Builder" [("rows", .lst (s.2.map enR)), ("tables", .lst (s.1.map tabW)), ("worths", .own (s.1.map MV.fnc)), ("free", .int fr)]
def progOf (s : List Str × List Rw) : MV := .tup [.tup (s.1.map tabW), .tup (s.2.map enR)]
theorem bprogram {fr : Nat} {s : List Str × List Rw} : f_pBuilder_program [bS fr s] = .ok (progOf s, [some (frzB fr s)]) := pprogram_eq
def endA (fr c : Nat) : List Ab := [.r (.copy fr c), .r (.right fr)]
theorem pended_eq {fr c : Nat} {s : List Str × List Rw} (h : Gd s 2) : f_pBuilder_ended [bS fr s, .int c] = .ok (progOf (lays (endA fr c) s), [some (frzB (fr + 1) (lays (endA fr c) s))]) := by
  refine mFn_rtB ⟨[some (frzB (fr + 1) (lays (endA fr c) s)), some (.int c)], ?_, rfl⟩
  have hz : s.2.length + 2 < sizeLine := by have := h.2.2; rw [sizeLine_eq]; omega
  have e1 : mEnd1 "right" "Builder" [some (bS fr s), some (.int c)] = .ok (.nx, [some (bS (fr + 1) (lays (endA fr c) s)), some (.int c)]) := by
    have e2 : (lays (endA fr c) s) = (s.1, s.2 ++ [.copy fr c, .right fr]) := by
      show (s.1, (s.2 ++ [.copy fr c]) ++ [.right fr]) = _
      rw [List.append_assoc]; rfl
    rw [e2]
    have e3 : bS (fr + 1) (s.1, s.2 ++ [.copy fr c, .right fr]) = Bo (fr + 1) s.1 (s.2.map enR ++ [.tup [.str "copy", .int fr, .int c], .tup [.str "right", .int fr]]) tabW := by
      unfold bS
      rw [List.map_append]; rfl
    rw [e3]
    have hz2 : (s.2.map enR).length + 2 < sizeLine := by rw [List.length_map]; exact hz
    unfold bS
    generalize s.2.map enR = R at *
    simp [mEnd1, hz2, MV.per]
  refine seq_nx e1 ?_
  have b := cbE_b0 (args := []) (ρ := [some (.int c)]) (x := bS (fr + 1) (lays (endA fr c) s)) rfl rfl rfl bprogram
  generalize lays (endA fr c) s = t at *
  simp [-cbE_ap, b]
  rfl
def sumF1 (sg : Str) (n : Nat) : Nat := 32 + n + loadN sg
theorem finL_len {fr n below at_ : Nat} {P : List Nat} {kd sg : Str} (hn : 1 ≤ n) : (finL fr kd sg n P below at_).length ≤ 2 * P.length + 13 * n + 30 := by
  have s1 := fun fr below => @storeA_len kd sg n fr at_ (cells (fr) n) below hn
  have s2 : ∀ fr xs below, (storeA kd sg n fr at_ xs below).length ≤ 5 * n + 4 := fun fr xs below => storeA_len hn
  unfold finL
  simp only [List.length_append, putA_len, takA_len, anyA_len, cells_len, List.length_drop, List.length_take]
  have e : (bothA (fr + n + 1 + 1) (fr + n + 1) below).length = 2 := rfl
  rw [e]
  by_cases h1 : sg = "end"
  · rw [if_pos h1]
    simp only [List.length_append, anyA_len, cells_len]
    have := s2 (fr + n + 1 + 1 + 1 + 1 + 1) (cells fr n) (fr + n + 1 + 1 + 1 + 1)
    have e2 : (bothA (fr + n + 1 + 1 + 1 + 1) (fr + n + 1 + 1 + 1) below).length = 2 := rfl
    omega
  · rw [if_neg h1, List.length_append, turnA_len, cells_len]
    by_cases h2 : sg = "tens"
    · rw [if_pos h2]
      have := s2 (fr + n + 1 + 1 + 1 + 2 + 1) (cells fr n) below
      simp only [List.length_cons]
      omega
    · rw [if_neg h2]
      have := s2 (fr + n + 1 + 1 + 1 + 2) (cells fr n) below
      simp only [List.length_cons]
      omega
theorem cg_memL {P : List Nat} {i : Nat} (h : i < P.length) : cg P i ∈ P := by
  unfold cg
  rw [List.getD_eq_getElem?_getD, List.getElem?_eq_getElem h]
  exact List.getElem_mem h
def pv (f : CF) (P : List Nat) : CF := fun i => f (cg P i)
def wdIn (L : List Str) : Ab → Bool
  | .r _ => true
  | .lk _ w => L.contains w
theorem okR_mono {a b : Nat} (h : a ≤ b) {x : Rw} (k : okR a x = true) : okR b x = true := by
  cases x with
  | look c i =>
    simp only [okR, Bool.and_eq_true, decide_eq_true_eq] at k ⊢
    omega
  | _ => exact k
theorem lkW_len (ws : List Str) (w : Str) : ws.length ≤ (lkW ws w).length := (lkW_pre ws w).length_le
theorem lkI_lt (ws : List Str) (w : Str) : lkI ws w < (lkW ws w).length := List.findIdx_lt_length_of_exists ⟨w, lk_mem ws w, by simp⟩
theorem lays_okR : ∀ (as : List Ab) (s : List Str × List Rw), as.all bdA = true → s.2.all (okR s.1.length) = true → (lays as s).2.all (okR (lays as s).1.length) = true
  | [], s, _, h => h
  | a :: as, s, h, hs => by
    rw [List.all_cons, Bool.and_eq_true] at h
    refine lays_okR as (layA s a) h.2 ?_
    cases a with
    | r x =>
      show (s.2 ++ [x]).all _ = true
      rw [List.all_append, show s.2.all (okR (layA s (.r x)).1.length) = true from hs, Bool.true_and, List.all_cons]
      rw [okR_mono (Nat.zero_le _) (show okR 0 x = true from h.1)]; rfl
    | lk c w =>
      have hc : c < 256 := by
        have := h.1
        simp only [bdA, Bool.and_eq_true, decide_eq_true_eq] at this
        exact this.1
      show (s.2 ++ [Rw.look c (lkI s.1 w)]).all (okR (lkW s.1 w).length) = true
      rw [List.all_append, List.all_cons]
      have h1 : s.2.all (okR (lkW s.1 w).length) = true := by
        rw [List.all_eq_true] at hs ⊢
        exact fun y hy => okR_mono (lkW_len _ _) (hs y hy)
      rw [h1]
      show (true && (decide (c < 256) && decide (lkI s.1 w < (lkW s.1 w).length) && true)) = true
      rw [decide_eq_true hc, decide_eq_true (lkI_lt _ _)]; rfl
theorem worth_lt : (fnNames.all fun w => (List.range 256).all fun v => decide (worthV w v < 256)) = true := by decide +kernel
theorem words_fn : ∀ (as : List Ab) (s : List Str × List Rw), as.all bdA = true → (∀ z ∈ s.1, z ∈ fnNames) → ∀ z ∈ (lays as s).1, z ∈ fnNames
  | [], s, _, h => h
  | a :: as, s, h, hs => by
    rw [List.all_cons, Bool.and_eq_true] at h
    refine words_fn as (layA s a) h.2 ?_
    cases a with
    | r x => exact hs
    | lk c w =>
      have hw : w ∈ fnNames := by
        have := h.1
        simp only [bdA, Bool.and_eq_true] at this
        exact List.contains_iff_mem.mp this.2
      intro z hz
      have hz : z ∈ lkW s.1 w := hz
      unfold lkW at hz
      split at hz
      · exact hs z hz
      · rcases List.mem_append.mp hz with hz | hz
        · exact hs z hz
        · rw [List.mem_singleton.mp hz]; exact hw
theorem lis_comp {e : ME} (he : e = mBv (mAndT (mTest (mFz (mCall0 f_lwhole (mCons (mVar 2) (mNil))))) (mTest (mChain fLe fLt (mC (.int 0)) (mVar 2) (mC (.int 256)))))) (x : MV) (xs : List Nat) (nt : Nat) (hl : xs.length < 1000) (hx : ∀ b ∈ xs, b < 256) :
    mLcO (mItV (mSl (mVar 0) (mPart (mC (.int 1))) (mNo))) (.nm 2) (mYes) e [2] [some (.tup (x :: xs.map fun d : Nat => MV.int d)), some (.int nt), none] = .ok (.own (List.replicate xs.length (.bl true)), [some (.tup (x :: xs.map fun d : Nat => MV.int d)), some (.int nt), none]) := by
  subst he
  rw [← show (xs.map fun d : Nat => MV.int d).map (fun _ => MV.bl true) = List.replicate xs.length (.bl true) by rw [List.map_const', List.length_map]]
  refine mLcO_map (fun _ => .bl true) (by simp [cutM_from]) (by simp [perAt]) ?_ (by rw [sizeLine_eq, List.length_map]; omega)
  intro z hz
  obtain ⟨d, hd, rfl⟩ := List.mem_map.mp hz
  have h1 := hx d hd
  have h2 : (d : Int) < 256 := by omega
  have h3 := lwhole_int d
  refine ⟨[some (.tup (x :: xs.map fun d : Nat => MV.int d)), some (.int nt), some (.int d)], by simp [setT, wipeM], by simp [h2, h3], by simp [wipeM], by simp⟩
def w3 : List MV := [.str "put", .str "copy", .str "add", .str "addc", .str "and", .str "or"]
def w2 : List MV := [.str "left", .str "right"]
theorem lis_row3 {nt a b : Nat} {wd : Str} (ha : a < 256) (hb : b < 256) (h1 : fIn (.str wd) (.tup w2) = some (.bl false)) (h2 : ¬ wd = "mark") (h3 : ¬ wd = "look") (h4 : fIn (.str wd) (.tup w3) = some (.bl true)) : f_lis_row [.tup [.str wd, .int a, .int b], .int nt] = .ok (.bl true, []) := by
  refine mFn_ok ?_
  have lc := lis_comp rfl (.str wd) [a, b] nt (by simp) (by intro x hx; simp at hx; omega)
  unfold w2 at h1
  unfold w3 at h4
  simp at lc
  simp [m_lis_row, bIsi, MV.kd, kdOf, Kd.isa, szOk_small, lc, bAll, blsOf, h1, h2, h3, h4]
theorem lis_row2 {nt a : Nat} {wd : Str} (ha : a < 256) (h1 : fIn (.str wd) (.tup w2) = some (.bl true)) : f_lis_row [.tup [.str wd, .int a], .int nt] = .ok (.bl true, []) := by
  refine mFn_ok ?_
  have lc := lis_comp rfl (.str wd) [a] nt (by simp) (by intro x hx; simp at hx; omega)
  unfold w2 at h1
  simp at lc
  simp [m_lis_row, bIsi, MV.kd, kdOf, Kd.isa, szOk_small, lc, bAll, blsOf, h1]
theorem lis_rowL {nt a b : Nat} (ha : a < 256) (hb : b < nt) (hn : nt ≤ 256) (h1 : fIn (.str "look") (.tup w2) = some (.bl false)) : f_lis_row [.tup [.str "look", .int a, .int b], .int nt] = .ok (.bl true, []) := by
  refine mFn_ok ?_
  have lc := lis_comp rfl (.str "look") [a, b] nt (by simp) (by intro x hx; simp at hx; omega)
  unfold w2 at h1
  simp at lc h1
  simp [m_lis_row, bIsi, MV.kd, kdOf, Kd.isa, szOk_small, lc, bAll, blsOf, h1, hb]
theorem lis_rowM {nt a : Nat} (ha : a < 2) (h1 : fIn (.str "mark") (.tup w2) = some (.bl false)) : f_lis_row [.tup [.str "mark", .int a], .int nt] = .ok (.bl true, []) := by
  refine mFn_ok ?_
  have lc := lis_comp rfl (.str "mark") [a] nt (by simp) (by intro x hx; simp at hx; omega)
  have h2 : (a : Int) < 2 := by omega
  unfold w2 at h1
  simp at lc h1
  simp [m_lis_row, bIsi, MV.kd, kdOf, Kd.isa, szOk_small, lc, bAll, blsOf, h1, h2]
theorem lis_row_eq {nt : Nat} (hn : nt ≤ 256) {r : Rw} (h : okR nt r = true) : f_lis_row [enR r, .int nt] = .ok (.bl true, []) := by
  cases r with
  | put a b =>
    simp only [okR, Bool.and_eq_true, decide_eq_true_eq] at h
    exact lis_row3 h.1 h.2 rfl (by decide) (by decide) rfl
  | copy a b =>
    simp only [okR, Bool.and_eq_true, decide_eq_true_eq] at h
    exact lis_row3 h.1 h.2 rfl (by decide) (by decide) rfl
  | add a b =>
    simp only [okR, Bool.and_eq_true, decide_eq_true_eq] at h
    exact lis_row3 h.1 h.2 rfl (by decide) (by decide) rfl
  | addc a b =>
    simp only [okR, Bool.and_eq_true, decide_eq_true_eq] at h
    exact lis_row3 h.1 h.2 rfl (by decide) (by decide) rfl
  | and_ a b =>
    simp only [okR, Bool.and_eq_true, decide_eq_true_eq] at h
    exact lis_row3 h.1 h.2 rfl (by decide) (by decide) rfl
  | or_ a b =>
    simp only [okR, Bool.and_eq_true, decide_eq_true_eq] at h
    exact lis_row3 h.1 h.2 rfl (by decide) (by decide) rfl
  | look a b =>
    simp only [okR, Bool.and_eq_true, decide_eq_true_eq] at h
    exact lis_rowL h.1 h.2 hn rfl
  | left a =>
    simp only [okR, decide_eq_true_eq] at h
    exact lis_row2 h rfl
  | right a =>
    simp only [okR, decide_eq_true_eq] at h
    exact lis_row2 h rfl
  | mark a =>
    simp only [okR, decide_eq_true_eq] at h
    exact lis_rowM h rfl
theorem words_in (L : List Str) : ∀ (as : List Ab) (s : List Str × List Rw), as.all (wdIn L) = true → (∀ z ∈ s.1, z ∈ L) → ∀ z ∈ (lays as s).1, z ∈ L
  | [], s, _, h => h
  | a :: as, s, h, hs => by
    rw [List.all_cons, Bool.and_eq_true] at h
    refine words_in L as (layA s a) h.2 ?_
    cases a with
    | r x => exact hs
    | lk c w =>
      have hw : w ∈ L := List.contains_iff_mem.mp h.1
      intro z hz
      have hz : z ∈ lkW s.1 w := hz
      unfold lkW at hz
      split at hz
      · exact hs z hz
      · rcases List.mem_append.mp hz with hz | hz
        · exact hs z hz
        · rw [List.mem_singleton.mp hz]; exact hw
theorem words_nodup : ∀ (as : List Ab) (s : List Str × List Rw), s.1.Nodup → (lays as s).1.Nodup
  | [], s, h => h
  | a :: as, s, h => by
    refine words_nodup as (layA s a) ?_
    cases a with
    | r x => exact h
    | lk c w => exact lkW_nodup h
theorem lays_len : ∀ (as : List Ab) (s : List Str × List Rw), (lays as s).2.length = s.2.length + as.length
  | [], s => rfl
  | a :: as, s => by
    show (lays as (layA s a)).2.length = _
    rw [lays_len as, layA_len, List.length_cons]; omega
theorem lis_program_eq {as : List Ab} {L : List Str} (hb : as.all bdA = true) (hw : as.all (wdIn L) = true) (hL : L.length ≤ 16) (hr : as.length ≤ 9000) : f_lis_program [progOf (lays as ([], []))] = .ok (.bl true, []) := by
  have w1 := words_fn as ([], []) hb (fun z hz => by simp at hz)
  have w2 := lays_okR as ([], []) hb rfl
  have w3 : (lays as ([], [])).1.length ≤ 16 := Nat.le_trans (nodup_le (words_nodup as ([], []) List.nodup_nil) (words_in L as ([], []) hw (fun z hz => by simp at hz))) hL
  have w4 : (lays as ([], [])).2.length ≤ 9000 := by rw [lays_len]; show 0 + as.length ≤ 9000; omega
  generalize lays as ([], []) = s at *
  have tb : ∀ w, w ∈ s.1 → f_lbytes [tabW w, .int 256] = .ok (.bl true, []) := fun w hw => by
    have e : tabW w = .tup (((List.range 256).map (worthV w)).map fun d : Nat => MV.int d) := by
      unfold tabW
      rw [List.map_map]; rfl
    have := lbytes_ok ((List.range 256).map (worthV w)) (by rw [List.length_map, List.length_range]; decide) (by
      intro b hb
      obtain ⟨v, hv, rfl⟩ := List.mem_map.mp hb
      exact of_decide_eq_true (List.all_eq_true.mp (List.all_eq_true.mp worth_lt w (w1 w hw)) v hv))
    rw [List.length_map, List.length_range] at this
    rw [e]; exact this
  have rw_ : ∀ r, r ∈ s.2 → f_lis_row [enR r, .int s.1.length] = .ok (.bl true, []) := fun r hr => lis_row_eq (by omega) (List.all_eq_true.mp w2 r hr)
  refine mFn_ok ?_
  unfold progOf
  have hT : (s.1.map tabW).length = s.1.length := List.length_map ..
  have hR : (s.2.map enR).length = s.2.length := List.length_map ..
  have kt : ∀ x ∈ s.1.map tabW, ∃ ys, x = .tup ys ∧ f_lbytes [.tup ys, .int 256] = .ok (.bl true, []) := fun x hx => by
    obtain ⟨w, hw, rfl⟩ := List.mem_map.mp hx
    exact ⟨_, rfl, tb w hw⟩
  have kr : ∀ x ∈ s.2.map enR, ∃ ys, x = .tup ys ∧ f_lis_row [.tup ys, .int s.1.length] = .ok (.bl true, []) := fun x hx => by
    obtain ⟨r, hr, rfl⟩ := List.mem_map.mp hx
    have := rw_ r hr
    cases r <;> exact ⟨_, rfl, this⟩
  generalize s.1.map tabW = T at *
  generalize s.2.map enR = R at *
  have c1 : ∀ ρ : Env, ρ = [some (.tup [.tup T, .tup R]), none, none, none] → mLcO (mItV (mVar 0)) (.nm 3) (mYes) (mBlt bIsi (mCons (mVar 3) (mCons (mC (.raw (.ty "tuple"))) mNil))) [3] ρ = .ok (.own [.bl true, .bl true], ρ) := by
    rintro ρ rfl
    refine mLcO_nm (xs := [.tup T, .tup R]) (fun _ => .bl true) (by simp) rfl ?_ (by rw [sizeLine_eq]; show 2 ≤ 16777216; decide)
    intro z hz
    simp only [List.mem_cons, List.not_mem_nil, or_false] at hz
    rcases hz with rfl | rfl <;> simp [bIsi, MV.kd, kdOf, Kd.isa]
  have c2 : ∀ ρ : Env, ρ = [some (.tup [.tup T, .tup R]), none, none, none] → mLcO (mItV (mOp fIx (mVar 0) (mC (.int 0)))) (.nm 2) (mYes) (mFz (mCall0 f_lbytes (mCons (mVar 2) (mCons (mC (.int 256)) (mNil))))) [2] ρ = .ok (.own (T.map fun _ => .bl true), ρ) := by
    rintro ρ rfl
    refine mLcO_nm (fun _ => .bl true) (by simp) rfl ?_ (by rw [sizeLine_eq]; omega)
    intro z hz
    obtain ⟨ys, rfl, this⟩ := kt z hz
    simp [this]
  have c3 : ∀ ρ : Env, ρ = [some (.tup [.tup T, .tup R]), none, none, none] → mLcO (mItV (mOp fIx (mVar 0) (mC (.int 1)))) (.nm 1) (mYes) (mFz (mCall0 f_lis_row (mCons (mVar 1) (mCons (mBlt bLen (mCons (mOp fIx (mVar 0) (mC (.int 0))) (mNil))) (mNil))))) [1] ρ = .ok (.own (R.map fun _ => .bl true), ρ) := by
    rintro ρ rfl
    refine mLcO_nm (fun _ => .bl true) (by simp) rfl ?_ (by rw [sizeLine_eq]; omega)
    intro z hz
    obtain ⟨ys, rfl, this⟩ := kr z hz
    have sz : szOk T.length = true := szOk_small (by omega)
    rw [← hT] at this
    simp [this, sz]
  have e1 := c1 _ rfl
  have e2 := c2 _ rfl
  have e3 := c3 _ rfl
  have a1 : ∀ {α : Type} (xs : List α), bAll [.lst (xs.map fun _ => MV.bl true)] = some (.bl true) := fun xs => by
    rw [List.map_const']
    simp [bAll, blsOf_rep]
  have b1 : bAll [.lst [.bl true, .bl true]] = some (.bl true) := rfl
  have b2 := a1 T
  have b3 := a1 R
  have sT : szOk T.length = true := szOk_small (by omega)
  have sR : szOk R.length = true := szOk_small (by omega)
  have n1 : ¬ ((T.length : Int) > 16) := by omega
  have n2 : ¬ ((R.length : Int) > 9000) := by omega
  have n1' : ¬ (16 < (T.length : Int)) := by omega
  have n2' : ¬ (9000 < (R.length : Int)) := by omega
  generalize (T.map fun _ => MV.bl true) = BT at *
  generalize (R.map fun _ => MV.bl true) = BR at *
  clear c1 c2 c3 kt kr
  simp [m_lis_program, bIsi, MV.kd, kdOf, Kd.isa, szOk_small, e1, e2, e3, b1, b2, b3, sT, sR, n1', n2']
theorem cbE_b2 {f : MF} {x v : MV} {ys : List MV} {args : List BA} {ρ : Env} {r q y : Option MV} (h : x.held = true) (hf : fill args (r :: q :: some x :: ρ) = some ys) (hi : idxB args = []) (en : f (x :: ys) = .ok (v, [y])) : cbE f (.b 2 :: args) (r :: q :: some x :: ρ) = .ok (v, r :: q :: y :: ρ) := by
  rw [cbE_ap]
  have e : fill (.b 2 :: args) (r :: q :: some x :: ρ) = some (x :: ys) := by
    rw [fill_b, hf]
    simp [h]
  rw [e]
  show (match f (x :: ys) with | .ok (v, os) => _ | .exc e os => _ | .stuck => _) = _
  rw [en]
  rw [idxB_b, hi]
  rfl
section
variable {f : MF} {fr fr' : Nat} {s s' : List Str × List Rw} {a b c d v : MV}
theorem cd1 (en : f [bS fr s, a] = .ok (v, [some (bS fr' s')])) (r q : Option MV) (ρ : Env) : cbE f [.b 2, .v a] (r :: q :: some (bS fr s) :: ρ) = .ok (v, r :: q :: some (bS fr' s') :: ρ) := cbE_b2 rfl rfl rfl en
theorem cd2 (en : f [bS fr s, a, b] = .ok (v, [some (bS fr' s')])) (r q : Option MV) (ρ : Env) : cbE f [.b 2, .v a, .v b] (r :: q :: some (bS fr s) :: ρ) = .ok (v, r :: q :: some (bS fr' s') :: ρ) := cbE_b2 rfl rfl rfl en
theorem cd3 (en : f [bS fr s, a, b, c] = .ok (v, [some (bS fr' s')])) (r q : Option MV) (ρ : Env) : cbE f [.b 2, .v a, .v b, .v c] (r :: q :: some (bS fr s) :: ρ) = .ok (v, r :: q :: some (bS fr' s') :: ρ) := cbE_b2 rfl rfl rfl en
theorem cd4 (en : f [bS fr s, a, b, c, d] = .ok (v, [some (bS fr' s')])) (r q : Option MV) (ρ : Env) : cbE f [.b 2, .v a, .v b, .v c, .v d] (r :: q :: some (bS fr s) :: ρ) = .ok (v, r :: q :: some (bS fr' s') :: ρ) := cbE_b2 rfl rfl rfl en
end
theorem mk_bS (r : Option MV) (ρ : Env) : mMake "Builder" f_pBuilder_init (r :: ρ) = .ok (bS 32 ([], []), r :: ρ) := make_eq
theorem gd0 : Gd (([], []) : List Str × List Rw) 10000 := ⟨List.nodup_nil, fun z hz => by simp at hz, by show 0 + 10000 < 16777216; omega⟩
theorem fz_prog (s : List Str × List Rw) : fz (progOf s) = some (progOf s) := rfl
def gdP (L : List Str) : Ab → Prop
  | .r x => okR 0 x = true
  | .lk c w => c < 256 ∧ w ∈ L
def AllG (L : List Str) (as : List Ab) : Prop := ∀ a ∈ as, gdP L a
theorem allG_cons {L : List Str} {a : Ab} {as : List Ab} (h : gdP L a) (t : AllG L as) : AllG L (a :: as) := fun x hx => by
  rcases List.mem_cons.mp hx with rfl | hx
  · exact h
  · exact t x hx
theorem allG_app {L : List Str} {as bs : List Ab} (h : AllG L as) (t : AllG L bs) : AllG L (as ++ bs) := fun x hx => by
  rcases List.mem_append.mp hx with hx | hx
  · exact h x hx
  · exact t x hx
theorem allG_nil {L : List Str} : AllG L [] := fun _ h => nomatch h
structure Bs (L : List Str) : Prop where
  ah : ("ahead_of_last" : Str) ∈ L
  la : ("last_figure" : Str) ∈ L
  ni : ("nine_less" : Str) ∈ L
  hi : ("high_half" : Str) ∈ L
  lo : ("low_half" : Str) ∈ L
  up : ("half_up" : Str) ∈ L
  te : ("ten_or_none" : Str) ∈ L
  fi : ("five_on" : Str) ∈ L
  on : ("one_or_none" : Str) ∈ L
  be : ("sign_below" : Str) ∈ L
  tw : ("one_of_two" : Str) ∈ L
theorem ok2 {a b : Nat} (ha : a < 256) (hb : b < 256) : (decide (a < 256) && decide (b < 256)) = true := by rw [decide_eq_true ha, decide_eq_true hb]; rfl
section
variable {L : List Str} (B : Bs L)
theorem putA_gd {v fr k : Nat} (hv : v < 256) (h : fr + k ≤ 256) : AllG L (putA v fr k) := fun a ha => by
  obtain ⟨i, hi, rfl⟩ := List.mem_map.mp ha
  have := List.mem_range.mp hi
  exact ok2 (by omega) hv
theorem anyC_gd (B : Bs L) {fr p n : Nat} (h : fr < 256) (hp : p + n ≤ 256) : AllG L (anyA fr (cells p n)) := by
  unfold anyA
  refine allG_cons (ok2 h (by decide)) (allG_app (fun a ha => ?_) (allG_cons ⟨h, B.on⟩ allG_nil))
  obtain ⟨i, hi, rfl⟩ := List.mem_map.mp ha
  have := cells_mem hi
  exact ok2 h (by omega)
theorem bothA_gd {fr one other : Nat} (h : fr < 256) (h1 : one < 256) (h2 : other < 256) : AllG L (bothA fr one other) := allG_cons (ok2 h h1) (allG_cons (ok2 h h2) allG_nil)
theorem carA_gd (B : Bs L) {cell carry : Nat} (h : cell < 256) (h1 : carry < 256) : AllG L (carA cell carry) := allG_cons (ok2 h h1) (allG_cons (ok2 h1 h) (allG_cons ⟨h1, B.ah⟩ (allG_cons ⟨h, B.la⟩ allG_nil)))
theorem downA_gd {f : Nat → List Ab} : ∀ {k : Nat}, (∀ i, i < k → AllG L (f i)) → AllG L (downA f k)
  | 0, _ => allG_nil
  | k + 1, h => allG_app (h k (by omega)) (downA_gd fun i hi => h i (by omega))
theorem turnC_gd (B : Bs L) {fr p n flag : Nat} (h : fr + 2 ≤ 256) (hp : p + n ≤ 256) (h1 : flag < 256) : AllG L (turnA fr (cells p n) flag) := by
  unfold turnA
  rw [cells_len]
  refine allG_cons (ok2 (by omega) h1) (allG_cons ⟨by omega, B.te⟩ (allG_cons (ok2 (by omega) h1) (downA_gd fun i hi => ?_)))
  unfold turnF
  rw [cg_cells hi]
  exact allG_cons (ok2 (by omega) (by omega)) (allG_cons ⟨by omega, B.ni⟩ (carA_gd B (by omega) (by omega)))
theorem joinA_gd (B : Bs L) {fr one other to : Nat} (h : fr < 256) (h1 : one < 256) (h2 : other < 256) (h3 : to < 256) : AllG L (joinA fr one other to) := allG_cons (ok2 h h1) (allG_cons ⟨h, B.up⟩ (allG_cons (ok2 h h2) (allG_cons (ok2 h3 h) allG_nil)))
theorem stS_gd (B : Bs L) {n p fr at_ : Nat} {sg : Str} (h : fr + 3 ≤ 256) (hp : p + n ≤ 256) (ha : at_ + n ≤ 256) : ∀ k, k ≤ n → AllG L (stS n sg fr at_ (cells p n) k)
  | 0, _ => allG_nil
  | k + 1, hk => by
    rw [stS, cg_cells (by omega)]
    refine allG_app (stS_gd B h hp ha k (by omega)) (allG_cons (ok2 (by omega) (by omega)) ?_)
    split
    · exact allG_cons (ok2 (by omega) (by omega)) allG_nil
    · exact joinA_gd B (by omega) (by omega) (by omega) (by omega)
theorem pairA_gd (B : Bs L) {hs : List Nat} {fr at_ q : Nat} (h : fr + q ≤ 256) (h1 : ∀ j, j < 2 * q → cg hs j < 256) (ha : at_ + q ≤ 256) : ∀ k, k ≤ q → AllG L (pairA hs fr at_ k)
  | 0, _ => allG_nil
  | k + 1, hk => by
    rw [pairA]
    exact allG_app (pairA_gd B h h1 ha k (by omega)) (joinA_gd B (by omega) (h1 _ (by omega)) (h1 _ (by omega)) (by omega))
theorem cg_lt {l : List Nat} (h : ∀ x ∈ l, x < 256) (j : Nat) : cg l j < 256 := by
  unfold cg
  rw [List.getD_eq_getElem?_getD]
  cases e : l[j]? with
  | none => show (0 : Nat) < 256; decide
  | some x => exact h x (List.mem_of_getElem? e)
theorem storeA_gd (B : Bs L) {kd sg : Str} {n p fr at_ below : Nat} (hk : kd = "packed" ∨ kd = "spread") (hn : 1 ≤ n) (h : fr + n + 4 ≤ 256) (hp : p + n ≤ 256) (ha : at_ + n ≤ 256) (hb : below < 256) : AllG L (storeA kd sg n fr at_ (cells p n) below) := by
  have rn := @room_le2 "packed" sg n hn
  have hah : ahM n sg < 2 := Nat.mod_lt _ (by decide)
  unfold storeA
  refine allG_cons (ok2 (by omega) (by decide)) (allG_cons (ok2 (by omega) hb) ?_)
  split
  · exact allG_cons (ok2 (by omega) (by decide)) (stS_gd B (by omega) hp ha n (Nat.le_refl _))
  · refine allG_app (putA_gd (by decide) (by omega)) (pairA_gd B (by omega) (fun j _ => cg_lt (fun x hx => ?_) j) (by omega) _ (Nat.le_refl _))
    unfold stH at hx
    rcases List.mem_append.mp hx with hx | hx
    · rcases List.mem_append.mp hx with hx | hx
      · have := cells_mem hx; omega
      · have := cells_mem hx; omega
    · split at hx
      · have : x = fr := by simpa using hx
        omega
      · simp at hx
theorem ldA_gd (B : Bs L) {kd : Str} {ah fr at_ : Nat} : ∀ k, fr + k ≤ 256 → (∀ i, i < k → ldC kd ah at_ i < 256) → AllG L (ldA kd ah fr at_ k)
  | 0, _, _ => allG_nil
  | k + 1, h, hc => by
    rw [ldA]
    refine allG_app (ldA_gd B k (by omega) (fun i hi => hc i (by omega))) (allG_cons (ok2 (by omega) (hc k (by omega))) (allG_cons ⟨by omega, ?_⟩ allG_nil))
    unfold ldW
    split
    · exact B.lo
    · split
      · exact B.hi
      · exact B.lo
theorem loadA_gd (B : Bs L) {kd sg : Str} {n fr at_ : Nat} (hk : kd = "packed" ∨ kd = "spread") (hn : 1 ≤ n) (h : fr + n + loadN sg ≤ 256) (ha : at_ + roomM kd sg n ≤ 256) : AllG L (loadA kd sg n fr at_) := by
  have hW := room_pos kd sg hn
  have l1 : 1 ≤ loadN sg := by unfold loadN; split <;> omega
  unfold loadA
  refine allG_app (ldA_gd B n (by omega) fun i hi => ?_) ?_
  · have : ldC kd (ahM n sg) at_ i < at_ + roomM kd sg n := by
      unfold ldC roomM ahM manyM
      rcases hk with rfl | rfl
      · rw [if_neg (by decide), if_pos rfl]; split <;> omega
      · rw [if_pos rfl, if_neg (by decide)]; omega
    omega
  · unfold loadT
    split
    · exact allG_cons (ok2 (by omega) (by decide)) allG_nil
    · split
      · rename_i h1
        have : loadN sg = 3 := by unfold loadN; rw [if_pos h1]
        exact allG_cons (ok2 (by omega) (by omega)) (allG_cons ⟨by omega, B.fi⟩ (turnC_gd B (by omega) (by omega) (by omega)))
      · refine allG_cons (ok2 (by omega) (by omega)) (allG_app ?_ (allG_cons ⟨by omega, B.be⟩ allG_nil))
        split
        · exact allG_cons ⟨by omega, B.hi⟩ allG_nil
        · exact allG_nil
theorem takL_gd {fr : Nat} {P : List Nat} (h : fr + P.length ≤ 256) (hp : ∀ c ∈ P, c < 256) : AllG L (takA fr P) := fun a ha => by
  unfold takA takI at ha
  obtain ⟨i, hi, rfl⟩ := List.mem_map.mp ha
  have hi := List.mem_range.mp hi
  exact ok2 (by omega) (hp _ (cg_memL hi))
theorem anyL_gd (B : Bs L) {fr : Nat} {P : List Nat} (h : fr < 256) (hp : ∀ c ∈ P, c < 256) : AllG L (anyA fr P) := by
  unfold anyA
  refine allG_cons (ok2 h (by decide)) (allG_app (fun a ha => ?_) (allG_cons ⟨h, B.on⟩ allG_nil))
  obtain ⟨i, hi, rfl⟩ := List.mem_map.mp ha
  exact ok2 h (hp _ hi)
theorem finL_gd (B : Bs L) {kd sg : Str} {fr n below at_ : Nat} {P : List Nat} (hk : kd = "packed" ∨ kd = "spread") (hn : 1 ≤ n) (h : fr + 2 * n + 16 ≤ 256) (hp : ∀ c ∈ P, c < 256) (h1 : below < 256) (ha : at_ + n ≤ 256) : AllG L (finL fr kd sg n P below at_) := by
  unfold finL
  refine allG_app (putA_gd (by decide) (by omega)) (allG_app (takL_gd (by rw [List.length_drop]; omega) fun c hc => hp c (List.mem_of_mem_drop hc)) (allG_app (anyL_gd B (by omega) fun c hc => hp c (List.mem_of_mem_take hc)) (allG_app (anyL_gd B (by omega) hp) (allG_app (bothA_gd (by omega) (by omega) h1) ?_))))
  split
  · exact allG_app (anyC_gd B (by omega) (by omega)) (allG_app (bothA_gd (by omega) (by omega) h1) (storeA_gd B hk hn (by omega) (by omega) ha (by omega)))
  · refine allG_app (turnC_gd B (by omega) (by omega) (by omega)) ?_
    split
    · exact allG_cons (ok2 (by omega) (by omega)) (allG_cons ⟨by omega, B.fi⟩ (allG_cons (ok2 (by omega) (by omega)) (allG_cons (ok2 (by omega) (by omega)) (allG_cons ⟨by omega, B.tw⟩ (allG_cons (ok2 (by omega) (by omega)) (storeA_gd B hk hn (by omega) (by omega) ha h1))))))
    · exact allG_cons (ok2 (by omega) (by omega)) (storeA_gd B hk hn (by omega) (by omega) ha h1)
theorem endA_gd {fr c : Nat} (h : fr < 256) (hc : c < 256) : AllG L (endA fr c) := allG_cons (ok2 h hc) (allG_cons (show decide (fr < 256) = true from decide_eq_true h) allG_nil)
end
theorem allG_bd {L : List Str} (hL : ∀ w ∈ L, w ∈ fnNames) {as : List Ab} (h : AllG L as) : as.all bdA = true := by
  rw [List.all_eq_true]
  intro a ha
  have := h a ha
  cases a with
  | r x => exact this
  | lk c w =>
    show (decide (c < 256) && fnNames.contains w) = true
    rw [decide_eq_true this.1, List.contains_iff_mem.mpr (hL w this.2)]; rfl
theorem allG_wd {L : List Str} {as : List Ab} (h : AllG L as) : as.all (wdIn L) = true := by
  rw [List.all_eq_true]
  intro a ha
  have := h a ha
  cases a with
  | r x => rfl
  | lk c w => exact List.contains_iff_mem.mpr this.2
theorem fn_all {L : List Str} (h : (L.all fun w => fnNames.contains w) = true) : ∀ w ∈ L, w ∈ fnNames := fun w hw => List.contains_iff_mem.mp (List.all_eq_true.mp h w hw)
theorem finN_le {kd sg : Str} {fr n : Nat} (hn : 1 ≤ n) : finN kd sg fr n ≤ fr + 2 * n + 9 := by
  have rn := @room_le2 "packed" sg n hn
  have hah : ahM n sg < 2 := Nat.mod_lt _ (by decide)
  unfold finN storeN
  split <;> split <;> (try split) <;> omega
theorem loadN_le (sg : Str) : 1 ≤ loadN sg ∧ loadN sg ≤ 3 := by unfold loadN; split <;> omega
theorem allG_len_prog {as : List Ab} {L : List Str} (h : AllG L as) (hL : ∀ w ∈ L, w ∈ fnNames) (h16 : L.length ≤ 16) (hl : as.length ≤ 9000) : f_lis_program [progOf (lays as ([], []))] = .ok (.bl true, []) := lis_program_eq (allG_bd hL h) (allG_wd h) h16 hl
def kdM (a : Int) : Str := if a = 0 then "packed" else "spread"
def sgM (s : Int) : Str := if s = 0 then "none" else if s = 1 then "end" else "tens"
theorem kdM_or (a : Int) : kdM a = "packed" ∨ kdM a = "spread" := by unfold kdM; split <;> simp
theorem sgM_or (s : Int) : sgM s = "none" ∨ sgM s = "end" ∨ sgM s = "tens" := by
  unfold sgM
  split
  · exact .inl rfl
  · split
    · exact .inr (.inl rfl)
    · exact .inr (.inr rfl)
theorem lform_kd2 {a s : Int} {k n : Nat} (ha : 0 ≤ a ∧ a < 2) (hm : k < 50) (hs : 0 ≤ s ∧ s < 3) (hn : n = 1 + k) : ∃ pt : Int, f_lform [.int a, .int k, .int s] = .ok (Form (kdM a) n (sgM s) (.int pt), []) := by
  have h1 : ¬ ((k : Int) + 2 = 0) := by omega
  have hk : atI [MV.str "packed", .str "spread"] a = some (.str (kdM a)) := by
    rcases (show a = 0 ∨ a = 1 by omega) with rfl | rfl <;> rfl
  have hg : atI [MV.str "none", .str "end", .str "tens"] s = some (.str (sgM s)) := by
    rcases (show s = 0 ∨ s = 1 ∨ s = 2 by omega) with rfl | rfl | rfl <;> rfl
  have key : ∃ pt ρ, m_lform [some (.int a), some (.int k), some (.int s), none] = .ok (.rt (.tup [.str (kdM a), .int (1 + (k : Int)), .str (sgM s), .int pt]), ρ) := by
    generalize kdM a = kd at *
    generalize sgM s = sg at *
    simp [m_lform, mulOk_l, h1, szOk_small, hk, hg]
  obtain ⟨pt, ρ, h⟩ := key
  refine ⟨pt, mFn_ok ⟨ρ, ?_⟩⟩
  have : MV.tup [.str (kdM a), .int (1 + (k : Int)), .str (sgM s), .int pt] = Form (kdM a) n (sgM s) (.int pt) := by rw [hn]; unfold Form; simp
  rw [← this]; exact h
theorem Gd.go {s : List Str × List Rw} {N : Nat} {as : List Ab} (h : Gd s N) (ok : as.all okAb = true) (k : Nat) (hl : as.length + k ≤ N) : Gd (Tm.lays as s) k := Gd.lays (h.less hl) ok
def lookA (fr c : Nat) (w : Str) : List Ab := [.r (.copy fr c), .lk fr w]
theorem lookA_ok {fr c : Nat} {w : Str} (h : fnNames.contains w = true) : (lookA fr c w).all okAb = true := by
  show (true && (fnNames.contains w && true)) = true
  rw [h]; rfl
theorem blookedA {fr : Nat} {s : List Str × List Rw} (h : Gd s 2) (c : Nat) {w : Str} (hw : fnNames.contains w = true) : f_pBuilder_looked [bS fr s, .int c, .fnc w] = .ok (.int fr, [some (bS (fr + 1) (lays (lookA fr c w) s))]) := blooked h c (nm w hw)
theorem browA {fr : Nat} {s : List Str × List Rw} (h : Gd s 1) (wd : Str) (a b : Nat) (x : Rw) (hx : enR x = .tup [.str wd, .int a, .int b]) : f_pBuilder_row [bS fr s, .str wd, .int a, .int b] = .ok (.non, [some (bS fr (lays [.r x] s))]) := brow2 h wd a b x hx
theorem bputA {fr : Nat} {s : List Str × List Rw} (h : Gd s 1) (v : Nat) : f_pBuilder_put [bS fr s, .int v] = .ok (.int fr, [some (bS (fr + 1) (lays [.r (.put fr v)] s))]) := bput h v
theorem fn_five : fnNames.contains ("five_on" : Str) = true := by decide +kernel
theorem fn_six : fnNames.contains ("six_on" : Str) = true := by decide +kernel
theorem fn_low2 : fnNames.contains ("lowest_two" : Str) = true := by decide +kernel
theorem fn_none : fnNames.contains ("one_of_none" : Str) = true := by decide +kernel
def lastN : Option Nat → Nat
  | none => 0
  | some _ => 1
def lastM : Option Nat → MV
  | none => .non
  | some l => .int l
def lastA (fr more : Nat) : Option Nat → List Ab
  | none => []
  | some l => lookA fr l "lowest_two" ++ [.r (.or_ more fr)]
def halfA (fr first : Nat) (rest : List Nat) (last : Option Nat) : List Ab :=
  lookA fr first "five_on" ++ (anyA (fr + 1) rest ++ (lastA (fr + 1 + 1) (fr + 1) last ++ (bothA (fr + 1 + 1 + lastN last) fr (fr + 1) ++
    (lookA (fr + 1 + 1 + lastN last + 1) first "six_on" ++ [.r (.or_ (fr + 1 + 1 + lastN last) (fr + 1 + 1 + lastN last + 1))]))))
theorem lastA_ok (fr more : Nat) (last : Option Nat) : (lastA fr more last).all okAb = true := by
  cases last with
  | none => rfl
  | some l =>
    show (lookA fr l "lowest_two" ++ [Ab.r (.or_ more fr)]).all okAb = true
    rw [List.all_append, lookA_ok fn_low2]; rfl
theorem halfA_ok (fr first : Nat) (rest : List Nat) (last : Option Nat) : (halfA fr first rest last).all okAb = true := by
  unfold halfA
  simp only [List.all_append, lookA_ok fn_five, anyA_ok, lastA_ok, bothA_ok, lookA_ok fn_six, Bool.true_and]
  rfl
theorem lastA_len (fr more : Nat) (last : Option Nat) : (lastA fr more last).length ≤ 3 := by
  cases last with
  | none => exact Nat.zero_le _
  | some l => exact Nat.le_refl _
theorem halfA_len (fr first : Nat) (rest : List Nat) (last : Option Nat) : (halfA fr first rest last).length ≤ rest.length + 12 := by
  have := lastA_len (fr + 1 + 1) (fr + 1) last
  unfold halfA
  simp only [List.length_append, anyA_len]
  have e1 : ∀ a b w, (lookA a b w).length = 2 := fun _ _ _ => rfl
  have e2 : ∀ a b c, (bothA a b c).length = 2 := fun _ _ _ => rfl
  rw [e1, e1, e2]
  simp only [List.length_cons, List.length_nil]
  omega
theorem ppast_half_eq {fr first : Nat} {rest : List Nat} {last : Option Nat} {s : List Str × List Rw} (h : Gd s (rest.length + 20)) :
    f_ppast_half [bS fr s, .int first, .lst (encC rest), lastM last] = .ok (.int (fr + 1 + 1 + lastN last : Nat), [some (bS (fr + 1 + 1 + lastN last + 1 + 1) (lays (halfA fr first rest last) s))]) := by
  have q1 := @blookedA fr s (h.less (by omega)) first "five_on" fn_five
  have g1 := h.go (lookA_ok (fr := fr) (c := first) fn_five) (rest.length + 18) (by show 2 + _ ≤ _; omega)
  unfold halfA
  rw [lays_app]
  generalize lays (lookA fr first "five_on") s = s1 at *
  have q2 := @pany_of_eq (fr + 1) rest s1 (g1.less (by omega))
  have g2 := g1.go (anyA_ok (fr + 1) rest) 16 (by rw [anyA_len]; omega)
  rw [lays_app]
  generalize lays (anyA (fr + 1) rest) s1 = s2 at *
  cases last with
  | none =>
    rw [lays_app]
    show _ = Res.ok (MV.int (fr + 1 + 1 : Nat), [some (bS (fr + 1 + 1 + 1 + 1) (lays (bothA (fr + 1 + 1) fr (fr + 1) ++ (lookA (fr + 1 + 1 + 1) first "six_on" ++ [.r (.or_ (fr + 1 + 1) (fr + 1 + 1 + 1))])) s2))])
    have q3 := @pboth_eq (fr + 1 + 1) fr (fr + 1) s2 (g2.less (by omega))
    have g3 := g2.go (bothA_ok (fr + 1 + 1) fr (fr + 1)) 14 (by show 2 + _ ≤ _; omega)
    rw [lays_app]
    generalize lays (bothA (fr + 1 + 1) fr (fr + 1)) s2 = s3 at *
    have q4 := @blookedA (fr + 1 + 1 + 1) s3 (g3.less (by omega)) first "six_on" fn_six
    have g4 := g3.go (lookA_ok (fr := fr + 1 + 1 + 1) (c := first) fn_six) 12 (by show 2 + _ ≤ _; omega)
    rw [lays_app]
    generalize lays (lookA (fr + 1 + 1 + 1) first "six_on") s3 = s4 at *
    have q5 := @browA (fr + 1 + 1 + 1 + 1) s4 (g4.less (by omega)) "or" (fr + 1 + 1) (fr + 1 + 1 + 1) (.or_ (fr + 1 + 1) (fr + 1 + 1 + 1)) rfl
    generalize lays [.r (.or_ (fr + 1 + 1) (fr + 1 + 1 + 1))] s4 = s5 at *
    generalize encC rest = R at *
    generalize fr + 1 + 1 + 1 + 1 = f4 at *
    generalize fr + 1 + 1 + 1 = f3 at *
    generalize fr + 1 + 1 = f2 at *
    generalize fr + 1 = f1 at *
    have d1 := cb2 q1
    have d2 := cb1 q2
    have d3 := cb2 q3
    have d4 := cb2 q4
    have d5 := cb3 q5
    refine mFn_rtB ⟨[some (bS f4 s5), some (.int first), some (.lst R), some .non, some (.int fr), some (.int f1), some (.int f2)], ?_, rfl⟩
    simp [m_ppast_half, lastM, -cbE_ap, d1, d2, d3, d4, d5]
  | some l =>
    have e0 : lays (lastA (fr + 1 + 1) (fr + 1) (some l)) s2 = lays [.r (.or_ (fr + 1) (fr + 1 + 1))] (lays (lookA (fr + 1 + 1) l "lowest_two") s2) := lays_app _ _ _
    rw [lays_app, e0]
    show _ = Res.ok (MV.int (fr + 1 + 1 + 1 : Nat), [some (bS (fr + 1 + 1 + 1 + 1 + 1) (lays (bothA (fr + 1 + 1 + 1) fr (fr + 1) ++ (lookA (fr + 1 + 1 + 1 + 1) first "six_on" ++ [.r (.or_ (fr + 1 + 1 + 1) (fr + 1 + 1 + 1 + 1))])) _))])
    have p1 := @blookedA (fr + 1 + 1) s2 (g2.less (by omega)) l "lowest_two" fn_low2
    have w1 := g2.go (lookA_ok (fr := fr + 1 + 1) (c := l) fn_low2) 14 (by show 2 + _ ≤ _; omega)
    generalize lays (lookA (fr + 1 + 1) l "lowest_two") s2 = t1 at *
    have p2 := @browA (fr + 1 + 1 + 1) t1 (w1.less (by omega)) "or" (fr + 1) (fr + 1 + 1) (.or_ (fr + 1) (fr + 1 + 1)) rfl
    have w2 := w1.go (as := [.r (.or_ (fr + 1) (fr + 1 + 1))]) rfl 13 (by show 1 + _ ≤ _; omega)
    generalize lays [.r (.or_ (fr + 1) (fr + 1 + 1))] t1 = t2 at *
    have q3 := @pboth_eq (fr + 1 + 1 + 1) fr (fr + 1) t2 (w2.less (by omega))
    have g3 := w2.go (bothA_ok (fr + 1 + 1 + 1) fr (fr + 1)) 11 (by show 2 + _ ≤ _; omega)
    rw [lays_app]
    generalize lays (bothA (fr + 1 + 1 + 1) fr (fr + 1)) t2 = s3 at *
    have q4 := @blookedA (fr + 1 + 1 + 1 + 1) s3 (g3.less (by omega)) first "six_on" fn_six
    have g4 := g3.go (lookA_ok (fr := fr + 1 + 1 + 1 + 1) (c := first) fn_six) 9 (by show 2 + _ ≤ _; omega)
    rw [lays_app]
    generalize lays (lookA (fr + 1 + 1 + 1 + 1) first "six_on") s3 = s4 at *
    have q5 := @browA (fr + 1 + 1 + 1 + 1 + 1) s4 (g4.less (by omega)) "or" (fr + 1 + 1 + 1) (fr + 1 + 1 + 1 + 1) (.or_ (fr + 1 + 1 + 1) (fr + 1 + 1 + 1 + 1)) rfl
    generalize lays [.r (.or_ (fr + 1 + 1 + 1) (fr + 1 + 1 + 1 + 1))] s4 = s5 at *
    generalize encC rest = R at *
    generalize fr + 1 + 1 + 1 + 1 + 1 = f5 at *
    generalize fr + 1 + 1 + 1 + 1 = f4 at *
    generalize fr + 1 + 1 + 1 = f3 at *
    generalize fr + 1 + 1 = f2 at *
    generalize fr + 1 = f1 at *
    have d1 := cb2 q1
    have d2 := cb1 q2
    have d3 := cb2 q3
    have d4 := cb2 q4
    have d5 := cb3 q5
    have k1 := cb2 p1
    have k2 := cb3 p2
    refine mFn_rtB ⟨[some (bS f5 s5), some (.int first), some (.lst R), some (.int l), some (.int fr), some (.int f1), some (.int f3)], ?_, rfl⟩
    simp [m_ppast_half, lastM, -cbE_ap, d1, d2, d3, d4, d5, k1, k2]
theorem cbE_b3 {f : MF} {x v : MV} {ys : List MV} {args : List BA} {ρ : Env} {r q w y : Option MV} (h : x.held = true) (hf : fill args (r :: q :: w :: some x :: ρ) = some ys) (hi : idxB args = []) (en : f (x :: ys) = .ok (v, [y])) : cbE f (.b 3 :: args) (r :: q :: w :: some x :: ρ) = .ok (v, r :: q :: w :: y :: ρ) := by
  rw [cbE_ap]
  have e : fill (.b 3 :: args) (r :: q :: w :: some x :: ρ) = some (x :: ys) := by
    rw [fill_b, hf]
    simp [h]
  rw [e]
  show (match f (x :: ys) with | .ok (v, os) => _ | .exc e os => _ | .stuck => _) = _
  rw [en]
  rw [idxB_b, hi]
  rfl
section
variable {f : MF} {fr fr' : Nat} {s s' : List Str × List Rw} {a b c d v : MV}
theorem ce1 (en : f [bS fr s, a] = .ok (v, [some (bS fr' s')])) (r q w : Option MV) (ρ : Env) : cbE f [.b 3, .v a] (r :: q :: w :: some (bS fr s) :: ρ) = .ok (v, r :: q :: w :: some (bS fr' s') :: ρ) := cbE_b3 rfl rfl rfl en
theorem ce2 (en : f [bS fr s, a, b] = .ok (v, [some (bS fr' s')])) (r q w : Option MV) (ρ : Env) : cbE f [.b 3, .v a, .v b] (r :: q :: w :: some (bS fr s) :: ρ) = .ok (v, r :: q :: w :: some (bS fr' s') :: ρ) := cbE_b3 rfl rfl rfl en
theorem ce4 (en : f [bS fr s, a, b, c, d] = .ok (v, [some (bS fr' s')])) (r q w : Option MV) (ρ : Env) : cbE f [.b 3, .v a, .v b, .v c, .v d] (r :: q :: w :: some (bS fr s) :: ρ) = .ok (v, r :: q :: w :: some (bS fr' s') :: ρ) := cbE_b3 rfl rfl rfl en
end
def lastO (left : List Nat) : Option Nat := if left.length = 0 then none else some (cg left (left.length - 1))
def addedA (rule : Str) (fr : Nat) (left lost : List Nat) (below : Nat) : List Ab :=
  if rule = "cut" then [.r (.put fr 0)]
  else if rule = "half" then lookA fr (cg lost 0) "five_on"
  else if rule = "even" then halfA fr (cg lost 0) (lost.drop 1) (lastO left)
  else if rule = "floor" then anyA fr lost ++ bothA (fr + 1) fr below
  else if rule = "ceil" then anyA fr lost ++ (lookA (fr + 1) below "one_of_none" ++ bothA (fr + 1 + 1) fr (fr + 1))
  else anyA fr lost
def addedC (rule : Str) (fr : Nat) (left : List Nat) : Nat :=
  if rule = "even" then fr + 1 + 1 + lastN (lastO left) else if rule = "floor" then fr + 1 else if rule = "ceil" then fr + 1 + 1 else fr
def addedN (rule : Str) (fr : Nat) (left : List Nat) : Nat :=
  if rule = "even" then fr + 1 + 1 + lastN (lastO left) + 1 + 1 else if rule = "floor" then fr + 1 + 1 else if rule = "ceil" then fr + 1 + 1 + 1 else fr + 1
def IsRule (rule : Str) : Prop := rule = "cut" ∨ rule = "up" ∨ rule = "half" ∨ rule = "even" ∨ rule = "floor" ∨ rule = "ceil"
theorem addedA_ok (rule : Str) (fr : Nat) (left lost : List Nat) (below : Nat) : (addedA rule fr left lost below).all okAb = true := by
  unfold addedA
  split
  · rfl
  · split
    · exact lookA_ok fn_five
    · split
      · exact halfA_ok _ _ _ _
      · split
        · rw [List.all_append, anyA_ok, bothA_ok]; rfl
        · split
          · rw [List.all_append, List.all_append, anyA_ok, lookA_ok fn_none, bothA_ok]; rfl
          · exact anyA_ok _ _
theorem addedA_len (rule : Str) (fr : Nat) (left lost : List Nat) (below : Nat) : (addedA rule fr left lost below).length ≤ lost.length + 12 := by
  have e1 : ∀ a b w, (lookA a b w).length = 2 := fun _ _ _ => rfl
  have e2 : ∀ a b c, (bothA a b c).length = 2 := fun _ _ _ => rfl
  have e3 := halfA_len fr (cg lost 0) (lost.drop 1) (lastO left)
  rw [List.length_drop] at e3
  unfold addedA
  split
  · show 1 ≤ _; omega
  · split
    · rw [e1]; omega
    · split
      · omega
      · split
        · rw [List.length_append, anyA_len, e2]; omega
        · split
          · rw [List.length_append, List.length_append, anyA_len, e1, e2]; omega
          · rw [anyA_len]; omega
theorem padded_by_eq {rule : Str} {fr below : Nat} {left lost : List Nat} {s : List Str × List Rw} (hr : IsRule rule) (hl : 1 ≤ lost.length ∧ lost.length < 100) (hl2 : left.length < 100) (h : Gd s (lost.length + 30)) :
    f_padded_by [bS fr s, .lst (encC left), .lst (encC lost), .int below, .str rule] = .ok (.int (addedC rule fr left : Nat), [some (bS (addedN rule fr left) (lays (addedA rule fr left lost below) s))]) := by
  have c0 : atI (encC lost) 0 = some (.int (cg lost 0 : Nat)) := encC_at (c := lost) (i := 0) hl.1
  rcases hr with rfl | rfl | rfl | rfl | rfl | rfl
  · have q1 := @bputA fr s (h.less (by omega)) 0
    refine mFn_rtB ⟨[some (bS (fr + 1) (lays [.r (.put fr 0)] s)), some (.lst (encC left)), some (.lst (encC lost)), some (.int below), some (.str "cut"), none, none], ?_, rfl⟩
    generalize lays [.r (.put fr 0)] s = s1 at *
    generalize encC left = L1 at *
    generalize encC lost = L2 at *
    simp at q1
    have d1 := cb1 q1
    simp [m_padded_by, -cbE_ap, d1, addedC]
  · have q1 := @pany_of_eq fr lost s (h.less (by omega))
    have e : addedA "up" fr left lost below = anyA fr lost := rfl
    rw [e]
    refine mFn_rtB ⟨[some (bS (fr + 1) (lays (anyA fr lost) s)), some (.lst (encC left)), some (.lst (encC lost)), some (.int below), some (.str "up"), some (.int fr), none], ?_, rfl⟩
    generalize lays (anyA fr lost) s = s1 at *
    generalize encC left = L1 at *
    generalize encC lost = L2 at *
    have d1 := cb1 q1
    simp [m_padded_by, -cbE_ap, d1, addedC]
  · have q1 := @blookedA fr s (h.less (by omega)) (cg lost 0) "five_on" fn_five
    have e : addedA "half" fr left lost below = lookA fr (cg lost 0) "five_on" := rfl
    rw [e]
    refine mFn_rtB ⟨[some (bS (fr + 1) (lays (lookA fr (cg lost 0) "five_on") s)), some (.lst (encC left)), some (.lst (encC lost)), some (.int below), some (.str "half"), none, none], ?_, rfl⟩
    generalize lays (lookA fr (cg lost 0) "five_on") s = s1 at *
    generalize cg lost 0 = c at *
    generalize encC left = L1 at *
    generalize encC lost = L2 at *
    have d1 := cb2 q1
    simp [m_padded_by, -cbE_ap, d1, addedC, c0]
  · have q1 := @ppast_half_eq fr (cg lost 0) (lost.drop 1) (lastO left) s (h.less (by rw [List.length_drop]; omega))
    have e : addedA "even" fr left lost below = halfA fr (cg lost 0) (lost.drop 1) (lastO left) := rfl
    have eN : addedN "even" fr left = fr + 1 + 1 + lastN (lastO left) + 1 + 1 := rfl
    have eC : addedC "even" fr left = fr + 1 + 1 + lastN (lastO left) := rfl
    rw [e, eN, eC]
    have ct : cutM (encC lost) (some 1) none = encC (lost.drop 1) := by
      rw [cutM_from (by omega)]
      show (lost.map _).drop 1 = _
      rw [← List.map_drop]; rfl
    have ll : (encC left).length = left.length := encC_len left
    have sl : szOk left.length = true := szOk_small (by omega)
    refine mFn_rtB ⟨[some (bS (fr + 1 + 1 + lastN (lastO left) + 1 + 1) (lays (halfA fr (cg lost 0) (lost.drop 1) (lastO left)) s)), some (.lst (encC left)), some (.lst (encC lost)), some (.int below), some (.str "even"), none, some (lastM (lastO left))], ?_, rfl⟩
    by_cases z : left.length = 0
    · have ez : lastO left = none := if_pos z
      rw [ez] at q1 ⊢
      rw [z] at ll sl
      have em : lastM none = .non := rfl
      rw [em] at q1 ⊢
      generalize lays (halfA fr (cg lost 0) (lost.drop 1) none) s = s1 at *
      generalize encC left = L1 at *
      generalize encC lost = L2 at *
      generalize cg lost 0 = c at *
      generalize encC (lost.drop 1) = L3 at *
      generalize fr + 1 + 1 + lastN none + 1 + 1 = f2 at *
      generalize fr + 1 + 1 + lastN none = f1 at *
      have d1 := cb3 q1
      simp [m_padded_by, -cbE_ap, d1, c0, ct, ll, sl]
    · have ez : lastO left = some (cg left (left.length - 1)) := if_neg z
      have c1 : atI (encC left) (-1) = some (.int (cg left (left.length - 1) : Nat)) := by
        have := encC_at (c := left) (i := left.length - 1) (by omega)
        rw [← this, atI_neg (by decide) (by rw [encC_len]; omega), encC_len, atI_ge (by omega)]
        congr 1
        omega
      rw [ez] at q1 ⊢
      generalize cg left (left.length - 1) = l at *
      have em : lastM (some l) = .int l := rfl
      rw [em] at q1 ⊢
      have nz : 0 < left.length := by omega
      generalize lays (halfA fr (cg lost 0) (lost.drop 1) (some l)) s = s1 at *
      generalize encC left = L1 at *
      generalize encC lost = L2 at *
      generalize cg lost 0 = c at *
      generalize encC (lost.drop 1) = L3 at *
      generalize fr + 1 + 1 + lastN (some l) + 1 + 1 = f2 at *
      generalize fr + 1 + 1 + lastN (some l) = f1 at *
      have d1 := cb3 q1
      simp [m_padded_by, -cbE_ap, d1, c0, c1, ct, ll, sl, nz]
  · have q1 := @pany_of_eq fr lost s (h.less (by omega))
    have e : addedA "floor" fr left lost below = anyA fr lost ++ bothA (fr + 1) fr below := rfl
    have eN : addedN "floor" fr left = fr + 1 + 1 := rfl
    have eC : addedC "floor" fr left = fr + 1 := rfl
    rw [e, eN, eC, lays_app]
    have g1 := h.go (anyA_ok fr lost) 20 (by rw [anyA_len]; omega)
    generalize lays (anyA fr lost) s = s1 at *
    have q2 := @pboth_eq (fr + 1) fr below s1 (g1.less (by omega))
    refine mFn_rtB ⟨[some (bS (fr + 1 + 1) (lays (bothA (fr + 1) fr below) s1)), some (.lst (encC left)), some (.lst (encC lost)), some (.int below), some (.str "floor"), some (.int fr), none], ?_, rfl⟩
    generalize lays (bothA (fr + 1) fr below) s1 = s2 at *
    generalize encC left = L1 at *
    generalize encC lost = L2 at *
    generalize fr + 1 + 1 = f2 at *
    generalize fr + 1 = f1 at *
    have d1 := cb1 q1
    have d2 := cb2 q2
    simp [m_padded_by, -cbE_ap, d1, d2]
  · have q1 := @pany_of_eq fr lost s (h.less (by omega))
    have e : addedA "ceil" fr left lost below = anyA fr lost ++ (lookA (fr + 1) below "one_of_none" ++ bothA (fr + 1 + 1) fr (fr + 1)) := rfl
    have eN : addedN "ceil" fr left = fr + 1 + 1 + 1 := rfl
    have eC : addedC "ceil" fr left = fr + 1 + 1 := rfl
    rw [e, eN, eC, lays_app, lays_app]
    have g1 := h.go (anyA_ok fr lost) 20 (by rw [anyA_len]; omega)
    generalize lays (anyA fr lost) s = s1 at *
    have q2 := @blookedA (fr + 1) s1 (g1.less (by omega)) below "one_of_none" fn_none
    have g2 := g1.go (lookA_ok (fr := fr + 1) (c := below) fn_none) 18 (by show 2 + _ ≤ _; omega)
    generalize lays (lookA (fr + 1) below "one_of_none") s1 = s2 at *
    have q3 := @pboth_eq (fr + 1 + 1) fr (fr + 1) s2 (g2.less (by omega))
    refine mFn_rtB ⟨[some (bS (fr + 1 + 1 + 1) (lays (bothA (fr + 1 + 1) fr (fr + 1)) s2)), some (.lst (encC left)), some (.lst (encC lost)), some (.int below), some (.str "ceil"), some (.int fr), none], ?_, rfl⟩
    generalize lays (bothA (fr + 1 + 1) fr (fr + 1)) s2 = s3 at *
    generalize encC left = L1 at *
    generalize encC lost = L2 at *
    generalize fr + 1 + 1 + 1 = f3 at *
    generalize fr + 1 + 1 = f2 at *
    generalize fr + 1 = f1 at *
    have d1 := cb1 q1
    have d2 := cb2 q2
    have d3 := cb2 q3
    simp [m_padded_by, -cbE_ap, d1, d2, d3]
theorem flat_down (g : Nat → List Ab) (P : List Nat) : ∀ k, k ≤ P.length → (P.take k).reverse.flatMap g = downA (fun i => g (cg P i)) k
  | 0, _ => by simp [downA]
  | k + 1, h => by
    have e : cg P k = P[k] := by unfold cg; rw [List.getD_eq_getElem?_getD, List.getElem?_eq_getElem h]; rfl
    rw [List.take_succ_eq_append_getElem h, List.reverse_append, List.reverse_singleton, List.singleton_append, List.flatMap_cons, flat_down g P k (by omega)]
    show _ = g (cg P k) ++ _
    rw [e]
def incA (P : List Nat) (carry : Nat) : List Ab := downA (fun i => carA (cg P i) carry) P.length
theorem incA_flat (P : List Nat) (carry : Nat) : P.reverse.flatMap (fun c => carA c carry) = incA P carry := by
  have := flat_down (fun c => carA c carry) P P.length (Nat.le_refl _)
  rw [List.take_length] at this
  exact this
theorem incA_ok (P : List Nat) (carry : Nat) : (incA P carry).all okAb = true := downA_ok (fun k => carA_ok _ _) _
theorem incA_len (P : List Nat) (carry : Nat) : (incA P carry).length = 4 * P.length := downA_len _ 4 (fun _ => rfl) _
theorem inc_loop {fr carry : Nat} (x0 x1 x2 x4 x6 x8 x9 : Option MV) : ∀ (Q : List Nat) (s : List Str × List Rw) (x7 : Option MV), Gd s (4 * Q.length) →
    ∃ y7, mLoop (gSet 7) b_pmoved_rows_0 (encC Q) [x0, x1, x2, some (bS fr s), x4, some (.int carry), x6, x7, x8, x9] = .ok (.nx, [x0, x1, x2, some (bS fr (lays (Q.flatMap (fun c => carA c carry)) s)), x4, some (.int carry), x6, y7, x8, x9])
  | [], s, x7, _ => ⟨x7, rfl⟩
  | c :: Q, s, x7, h => by
    rw [List.length_cons] at h
    have q1 := @pcarried_eq fr s c carry (h.less (by omega))
    have g1 := h.go (carA_ok c carry) (4 * Q.length) (by show 4 + _ ≤ _; omega)
    rw [List.flatMap_cons, lays_app]
    generalize lays (carA c carry) s = s1 at *
    obtain ⟨y7, ih⟩ := inc_loop (fr := fr) (carry := carry) x0 x1 x2 x4 x6 x8 x9 Q s1 (some (.int c)) g1
    refine ⟨y7, ?_⟩
    show mLoop (gSet 7) b_pmoved_rows_0 (.int c :: encC Q) _ = _
    rw [mLoop]
    show (b_pmoved_rows_0 [x0, x1, x2, some (bS fr s), x4, some (.int carry), x6, some (.int c), x8, x9]).bind _ = _
    have d1 := @cbE_b3 f_pcarried (bS fr s) .non [.int c, .int carry] [.v (.int c), .v (.int carry)] [x4, some (.int carry), x6, some (.int c), x8, x9] x0 x1 x2 (some (bS fr s1)) rfl rfl rfl q1
    have : b_pmoved_rows_0 [x0, x1, x2, some (bS fr s), x4, some (.int carry), x6, some (.int c), x8, x9] = .ok (.nx, [x0, x1, x2, some (bS fr s1), x4, some (.int carry), x6, some (.int c), x8, x9]) := by
      simp [b_pmoved_rows_0, -cbE_ap, d1]
    rw [this]
    exact ih
def mvlA (kd sg : Str) (n k : Nat) : List Ab :=
  loadA kd sg n 32 0 ++ (putA 0 (sumF1 sg n) k ++ (finL (sumF1 sg n + k) kd sg n (cells 32 n ++ cells (sumF1 sg n) k) (32 + n) 0 ++ endA (finN kd sg (sumF1 sg n + k) n) (sumF1 sg n + k + n)))
def mvS (rule sg : Str) (n k : Nat) : Nat := addedN rule (sumF1 sg n) (cells 32 (n - k))
def mvC (rule sg : Str) (n k : Nat) : Nat := addedC rule (sumF1 sg n) (cells 32 (n - k))
def mvrA (kd sg : Str) (n k : Nat) (rule : Str) : List Ab :=
  loadA kd sg n 32 0 ++ (addedA rule (sumF1 sg n) (cells 32 (n - k)) (cells (32 + (n - k)) k) (32 + n) ++ (putA 0 (mvS rule sg n k) 1 ++ (incA (mvS rule sg n k :: cells 32 (n - k)) (mvC rule sg n k) ++
    (finL (mvS rule sg n k + 1) kd sg n (mvS rule sg n k :: cells 32 (n - k)) (32 + n) 0 ++ endA (finN kd sg (mvS rule sg n k + 1) n) (mvS rule sg n k + 1 + n)))))
theorem rule_in {rule : Str} (h : IsRule rule) : fNotIn (.str rule) (.tup [(.str "cut"), (.str "up"), (.str "half"), (.str "even"), (.str "floor"), (.str "ceil")]) = some (.bl false) := by
  rcases h with rfl | rfl | rfl | rfl | rfl | rfl <;> rfl
theorem pmoved_left_eq {kd sg rule : Str} {n k : Nat} {p : MV} (hk : kd = "packed" ∨ kd = "spread") (hsg : sg = "none" ∨ sg = "end" ∨ sg = "tens") (hn : 1 ≤ n ∧ n < 50) (hkn : k ≤ n) (hr : IsRule rule) :
    f_pmoved_rows [Form kd n sg p, .int k, .str rule] = .ok (progOf (lays (mvlA kd sg n k) ([], [])), []) := by
  have g0 := gd0
  have mk := mk_bS
  have ri := rule_in hr
  have fe : Form kd n sg p = .tup [.str kd, .int n, .str sg, p] := rfl
  have q1 := @ploaded_eq kd sg n 32 0 p ([], []) hk hsg (by omega) (g0.less (by omega))
  have l1 := loadA_len kd sg n 32 0
  have g1 := g0.go (loadA_ok kd sg n 32 0) 9000 (by omega)
  unfold mvlA
  rw [lays_app]
  generalize lays (loadA kd sg n 32 0) ([], []) = s1 at *
  generalize (([], []) : List Str × List Rw) = s0 at *
  rw [show 32 + n + loadN sg = sumF1 sg n from rfl] at q1
  have q2 := @pnoughts_eq (sumF1 sg n) k s1 (g1.less (by omega)) (by omega)
  have g2 := g1.go (putA_ok 0 (sumF1 sg n) k) 8000 (by rw [putA_len]; omega)
  rw [lays_app]
  generalize lays (putA 0 (sumF1 sg n) k) s1 = s2 at *
  have lP : (cells 32 n ++ cells (sumF1 sg n) k).length = n + k := by rw [List.length_append, cells_len, cells_len]
  have q4 := @pfinishedL_eq kd sg n (sumF1 sg n + k) (n + k) (32 + n) 0 _ p s2 lP hk hsg (by omega) (by omega) (g2.less (by omega))
  have l4 := @finL_len (sumF1 sg n + k) n (32 + n) 0 (cells 32 n ++ cells (sumF1 sg n) k) kd sg hn.1
  rw [lP] at l4
  have g4 := g2.go (finL_ok (sumF1 sg n + k) kd sg n (cells 32 n ++ cells (sumF1 sg n) k) (32 + n) 0) 4000 (by omega)
  have ea := (encC_app (cells 32 n) (cells (sumF1 sg n) k)).symm
  have sz : szOk ((encC (cells 32 n)).length + (encC (cells (sumF1 sg n) k)).length) = true := by
    rw [encC_len, encC_len, cells_len, cells_len]
    exact szOk_small (by omega)
  rw [lays_app]
  generalize lays (finL (sumF1 sg n + k) kd sg n (cells 32 n ++ cells (sumF1 sg n) k) (32 + n) 0) s2 = s4 at *
  have q5 := @pended_eq (finN kd sg (sumF1 sg n + k) n) (sumF1 sg n + k + n) s4 (g4.less (by omega))
  generalize lays (endA (finN kd sg (sumF1 sg n + k) n) (sumF1 sg n + k + n)) s4 = s5 at *
  generalize finN kd sg (sumF1 sg n + k) n = f9 at *
  generalize sumF1 sg n + k + n = mo at *
  generalize encC (cells 32 n ++ cells (sumF1 sg n) k) = T at *
  generalize encC (cells (sumF1 sg n) k) = Y at *
  generalize sumF1 sg n + k = f2 at *
  generalize sumF1 sg n = f1 at *
  generalize encC (cells 32 n) = X at *
  generalize 32 + n = by1 at *
  rw [fe] at q1 q4 ⊢
  simp at q1 q4
  have d1 := ce2 q1
  have d2 := ce1 q2
  have d4 := ce4 q4
  have d5 := fun ρ => cbE_b3 (args := [.v (.int mo)]) (ρ := ρ) (r := some (.tup [.str kd, .int n, .str sg, p])) (q := some (.int k)) (w := some (.str rule)) (x := bS f9 s4) rfl rfl rfl q5
  have fzp := fz_prog s5
  have kn : ¬ ((n : Int) < k) := by omega
  refine mFn_ok ?_
  simp [m_pmoved_rows, -cbE_ap, mk, ri, kn, hkn, d1, d2, d4, d5, fzp, ea, sz]
theorem pmoved_right_eq {kd sg rule : Str} {n k : Nat} {p : MV} (hk : kd = "packed" ∨ kd = "spread") (hsg : sg = "none" ∨ sg = "end" ∨ sg = "tens") (hn : 1 ≤ n ∧ n < 50) (hkn : 1 ≤ k ∧ k ≤ n) (hr : IsRule rule) :
    f_pmoved_rows [Form kd n sg p, .int (-(k : Int)), .str rule] = .ok (progOf (lays (mvrA kd sg n k rule) ([], [])), []) := by
  have g0 := gd0
  have mk := mk_bS
  have ri := rule_in hr
  have fe : Form kd n sg p = .tup [.str kd, .int n, .str sg, p] := rfl
  have q1 := @ploaded_eq kd sg n 32 0 p ([], []) hk hsg (by omega) (g0.less (by omega))
  have l1 := loadA_len kd sg n 32 0
  have g1 := g0.go (loadA_ok kd sg n 32 0) 9000 (by omega)
  unfold mvrA
  rw [lays_app]
  generalize lays (loadA kd sg n 32 0) ([], []) = s1 at *
  generalize (([], []) : List Str × List Rw) = s0 at *
  rw [show 32 + n + loadN sg = sumF1 sg n from rfl] at q1
  have q2 := @padded_by_eq rule (sumF1 sg n) (32 + n) (cells 32 (n - k)) (cells (32 + (n - k)) k) s1 hr (by rw [cells_len]; omega) (by rw [cells_len]; omega) (g1.less (by rw [cells_len]; omega))
  have l2 := addedA_len rule (sumF1 sg n) (cells 32 (n - k)) (cells (32 + (n - k)) k) (32 + n)
  rw [cells_len] at l2
  have g2 := g1.go (addedA_ok rule (sumF1 sg n) (cells 32 (n - k)) (cells (32 + (n - k)) k) (32 + n)) 8000 (by omega)
  rw [lays_app]
  generalize lays (addedA rule (sumF1 sg n) (cells 32 (n - k)) (cells (32 + (n - k)) k) (32 + n)) s1 = s2 at *
  rw [show addedN rule (sumF1 sg n) (cells 32 (n - k)) = mvS rule sg n k from rfl, show addedC rule (sumF1 sg n) (cells 32 (n - k)) = mvC rule sg n k from rfl] at q2
  generalize mvS rule sg n k = A at *
  generalize mvC rule sg n k = C at *
  have q3 := @pnoughts_eq A 1 s2 (g2.less (by omega)) (by omega)
  have g3 := g2.go (putA_ok 0 A 1) 7900 (by rw [putA_len]; omega)
  rw [lays_app]
  generalize lays (putA 0 A 1) s2 = s3 at *
  have ec : encC (cells A 1) ++ encC (cells 32 (n - k)) = encC (A :: cells 32 (n - k)) := by rw [← encC_app]; rfl
  have lP : (A :: cells 32 (n - k)).length = n - k + 1 := by rw [List.length_cons, cells_len]
  obtain ⟨y7, lp⟩ := @inc_loop (A + 1) C (some (.tup [.str kd, .int n, .str sg, p])) (some (.int (-(k : Int)))) (some (.str rule)) (some (.lst (encC (cells 32 (n - k))))) (some (.lst (encC (A :: cells 32 (n - k))))) (some (.lst (encC (cells 32 n)))) (some (.int (32 + n : Nat))) (A :: cells 32 (n - k)).reverse s3 none (g3.less (by rw [List.length_reverse, lP]; omega))
  rw [incA_flat] at lp
  have er : (encC (A :: cells 32 (n - k))).reverse = encC (A :: cells 32 (n - k)).reverse := by unfold encC; rw [List.map_reverse]
  have g4 := g3.go (incA_ok (A :: cells 32 (n - k)) C) 7000 (by rw [incA_len, lP]; omega)
  rw [lays_app]
  generalize lays (incA (A :: cells 32 (n - k)) C) s3 = s4 at *
  have q6 := @pfinishedL_eq kd sg n (A + 1) (n - k + 1) (32 + n) 0 _ p s4 lP hk hsg (by omega) (by omega) (g4.less (by omega))
  have l6 := @finL_len (A + 1) n (32 + n) 0 (A :: cells 32 (n - k)) kd sg hn.1
  rw [lP] at l6
  have g6 := g4.go (finL_ok (A + 1) kd sg n (A :: cells 32 (n - k)) (32 + n) 0) 4000 (by omega)
  rw [lays_app]
  generalize lays (finL (A + 1) kd sg n (A :: cells 32 (n - k)) (32 + n) 0) s4 = s6 at *
  have q7 := @pended_eq (finN kd sg (A + 1) n) (A + 1 + n) s6 (g6.less (by omega))
  generalize lays (endA (finN kd sg (A + 1) n) (A + 1 + n)) s6 = s7 at *
  generalize finN kd sg (A + 1) n = f9 at *
  generalize A + 1 + n = mo at *
  have ct1 : cutM (encC (cells 32 n)) none (some ((n : Int) + -(k : Int))) = encC (cells 32 (n - k)) := by
    rw [show (n : Int) + -(k : Int) = ((n - k : Nat) : Int) by omega, cutM_to (by omega), Int.toNat_natCast]
    show ((cells 32 n).map _).take _ = _
    rw [← List.map_take, cells_take _ _ _ (by omega)]; rfl
  have ct2 : cutM (encC (cells 32 n)) (some ((n : Int) + -(k : Int))) none = encC (cells (32 + (n - k)) k) := by
    rw [show (n : Int) + -(k : Int) = ((n - k : Nat) : Int) by omega, cutM_from (by omega), Int.toNat_natCast]
    show ((cells 32 n).map _).drop _ = _
    rw [← List.map_drop, cells_drop _ _ _ (by omega), show n - (n - k) = k by omega]; rfl
  have sz : szOk ((encC (cells A 1)).length + (encC (cells 32 (n - k))).length) = true := by
    rw [encC_len, encC_len, cells_len, cells_len]
    exact szOk_small (by omega)
  have lr : (encC (A :: cells 32 (n - k)).reverse).length ≤ 100 := by rw [encC_len, List.length_reverse, lP]; omega
  generalize encC (A :: cells 32 (n - k)).reverse = R at *
  generalize encC (A :: cells 32 (n - k)) = T at *
  generalize encC (cells A 1) = Y at *
  generalize encC (cells 32 (n - k)) = X1 at *
  generalize encC (cells (32 + (n - k)) k) = X2 at *
  generalize encC (cells 32 n) = X at *
  generalize sumF1 sg n = f1 at *
  generalize 32 + n = by1 at *
  rw [fe] at q1 q6 ⊢
  simp at q1 q3 q6
  have d1 := ce2 q1
  have d2 := ce4 q2
  have d3 := ce1 q3
  have d6 := ce4 q6
  have d7 := fun ρ => cbE_b3 (args := [.v (.int mo)]) (ρ := ρ) (r := some (.tup [.str kd, .int n, .str sg, p])) (q := some (.int (-(k : Int)))) (w := some (.str rule)) (x := bS f9 s6) rfl rfl rfl q7
  have fzp := fz_prog s7
  have kn : ¬ ((n : Int) < k) := by omega
  have kz : ¬ ((k : Int) ≤ 0) := by omega
  have kz2 : ¬ (k = 0) := by omega
  have kp : 0 < k := by omega
  refine mFn_ok ?_
  simp [m_pmoved_rows, -cbE_ap, mk, ri, kn, hkn.2, kz, kz2, kp, d1, d2, d3, d6, d7, fzp, ec, sz, ct1, ct2, er, lp]
theorem mvS_le {rule sg : Str} {n k : Nat} : sumF1 sg n < mvS rule sg n k ∧ mvS rule sg n k ≤ sumF1 sg n + 5 ∧ mvC rule sg n k < mvS rule sg n k ∧ sumF1 sg n ≤ mvC rule sg n k := by
  have l1 : lastN (lastO (cells 32 (n - k))) ≤ 1 := by
    unfold lastN; split <;> omega
  unfold mvS mvC addedN addedC
  split
  · omega
  · split
    · omega
    · split <;> omega
theorem lookA_gd {L : List Str} {fr c : Nat} {w : Str} (h : fr < 256) (hc : c < 256) (hw : w ∈ L) : AllG L (lookA fr c w) := allG_cons (ok2 h hc) (allG_cons ⟨h, hw⟩ allG_nil)
theorem incA_gd {L : List Str} (B : Bs L) {P : List Nat} {carry : Nat} (hp : ∀ c ∈ P, c < 256) (h1 : carry < 256) : AllG L (incA P carry) := downA_gd fun i hi => carA_gd B (hp _ (cg_memL hi)) h1
theorem added_gd {L : List Str} (B : Bs L) (hno : ("one_of_none" : Str) ∈ L) (hlo : ("lowest_two" : Str) ∈ L) (hsi : ("six_on" : Str) ∈ L) {rule : Str} {fr p m k below : Nat} (hk : 1 ≤ k) (hp : p + m + k ≤ fr) (hf : fr + 8 ≤ 256) (hb : below < 256) : AllG L (addedA rule fr (cells p m) (cells (p + m) k) below) := by
  have c0 : cg (cells (p + m) k) 0 = p + m := by rw [cg_cells (by omega)]; rfl
  have an := @anyC_gd L B fr (p + m) k (by omega) (by omega)
  unfold addedA
  split
  · exact allG_cons (ok2 (by omega) (by decide)) allG_nil
  · split
    · exact lookA_gd (by omega) (by rw [c0]; omega) B.fi
    · split
      · have l1 : lastN (lastO (cells p m)) ≤ 1 := by unfold lastN; split <;> omega
        unfold halfA
        refine allG_app (lookA_gd (by omega) (by rw [c0]; omega) B.fi) (allG_app (anyL_gd B (by omega) fun c hc => ?_) (allG_app ?_ (allG_app (bothA_gd (by omega) (by omega) (by omega)) (allG_app (lookA_gd (by omega) (by rw [c0]; omega) hsi) (allG_cons (ok2 (by omega) (by omega)) allG_nil)))))
        · have := cells_mem (List.mem_of_mem_drop hc); omega
        · unfold lastO
          rw [cells_len]
          by_cases z : m = 0
          · rw [if_pos z]; exact allG_nil
          · rw [if_neg z, cg_cells (by omega)]
            exact allG_app (lookA_gd (by omega) (by omega) hlo) (allG_cons (ok2 (by omega) (by omega)) allG_nil)
      · split
        · exact allG_app an (bothA_gd (by omega) (by omega) (by omega))
        · split
          · exact allG_app an (allG_app (lookA_gd (by omega) (by omega) hno) (bothA_gd (by omega) (by omega) (by omega)))
          · exact an
theorem mvr_gd {L : List Str} (B : Bs L) (hno : ("one_of_none" : Str) ∈ L) (hlo : ("lowest_two" : Str) ∈ L) (hsi : ("six_on" : Str) ∈ L) {kd sg rule : Str} {n k : Nat} (hk : kd = "packed" ∨ kd = "spread") (hn : 1 ≤ n) (hn2 : n ≤ 16) (hkn : 1 ≤ k ∧ k ≤ n) : AllG L (mvrA kd sg n k rule) := by
  have rn := @room_le2 kd sg n hn
  have lN := loadN_le sg
  have e1 : 32 + n + loadN sg = sumF1 sg n := rfl
  obtain ⟨m1, m2, m3, m4⟩ := @mvS_le rule sg n k
  have fl := @finN_le kd sg (mvS rule sg n k + 1) n hn
  have hP : ∀ c ∈ mvS rule sg n k :: cells 32 (n - k), c < 256 := fun c hc => by
    rcases List.mem_cons.mp hc with rfl | hc
    · omega
    · have := cells_mem hc; omega
  unfold mvrA
  exact allG_app (loadA_gd B hk hn (by omega) (by omega)) (allG_app (added_gd B hno hlo hsi hkn.1 (by omega) (by omega) (by omega)) (allG_app (putA_gd (by decide) (by omega)) (allG_app (incA_gd B hP (by omega)) (allG_app (finL_gd B hk hn (by omega) hP (by omega) (by omega)) (endA_gd (by omega) (by omega))))))
theorem mvl_gd {L : List Str} (B : Bs L) {kd sg : Str} {n k : Nat} (hk : kd = "packed" ∨ kd = "spread") (hn : 1 ≤ n) (hn2 : n ≤ 16) (hkn : k ≤ n) : AllG L (mvlA kd sg n k) := by
  have rn := @room_le2 kd sg n hn
  have lN := loadN_le sg
  have e1 : 32 + n + loadN sg = sumF1 sg n := rfl
  have fl := @finN_le kd sg (sumF1 sg n + k) n hn
  unfold mvlA
  exact allG_app (loadA_gd B hk hn (by omega) (by omega)) (allG_app (putA_gd (by decide) (by omega)) (allG_app (finL_gd B hk hn (by omega) (fun c hc => by
    rcases List.mem_append.mp hc with hc | hc
    · have := cells_mem hc; omega
    · have := cells_mem hc; omega) (by omega) (by omega)) (endA_gd (by omega) (by omega))))
def movW : List Str := ["ahead_of_last", "last_figure", "nine_less", "high_half", "low_half", "half_up", "ten_or_none", "five_on", "one_or_none", "sign_below", "one_of_two", "one_of_none", "lowest_two", "six_on"]
theorem movW_bs : Bs movW := ⟨List.contains_iff_mem.mp (by decide +kernel), List.contains_iff_mem.mp (by decide +kernel), List.contains_iff_mem.mp (by decide +kernel), List.contains_iff_mem.mp (by decide +kernel), List.contains_iff_mem.mp (by decide +kernel), List.contains_iff_mem.mp (by decide +kernel), List.contains_iff_mem.mp (by decide +kernel), List.contains_iff_mem.mp (by decide +kernel), List.contains_iff_mem.mp (by decide +kernel), List.contains_iff_mem.mp (by decide +kernel), List.contains_iff_mem.mp (by decide +kernel)⟩
theorem movW_fn : ∀ w ∈ movW, w ∈ fnNames := fn_all (by decide +kernel)
theorem movW_no : ("one_of_none" : Str) ∈ movW := List.contains_iff_mem.mp (by decide +kernel)
theorem movW_lo : ("lowest_two" : Str) ∈ movW := List.contains_iff_mem.mp (by decide +kernel)
theorem movW_si : ("six_on" : Str) ∈ movW := List.contains_iff_mem.mp (by decide +kernel)
theorem mvrA_len {kd sg rule : Str} {n k : Nat} (hn : 1 ≤ n ∧ n ≤ 12) (hkn : k ≤ n) : (mvrA kd sg n k rule).length ≤ 9000 := by
  have l1 := loadA_len kd sg n 32 0
  have l2 := addedA_len rule (sumF1 sg n) (cells 32 (n - k)) (cells (32 + (n - k)) k) (32 + n)
  rw [cells_len] at l2
  have l6 := @finL_len (mvS rule sg n k + 1) n (32 + n) 0 (mvS rule sg n k :: cells 32 (n - k)) kd sg hn.1
  rw [List.length_cons, cells_len] at l6
  unfold mvrA
  simp only [List.length_append, putA_len, incA_len, List.length_cons, cells_len]
  have l5 : (endA (finN kd sg (mvS rule sg n k + 1) n) (mvS rule sg n k + 1 + n)).length = 2 := rfl
  omega
theorem mvlA_len {kd sg : Str} {n k : Nat} (hn : 1 ≤ n ∧ n ≤ 12) (hkn : k ≤ n) : (mvlA kd sg n k).length ≤ 9000 := by
  have l1 := loadA_len kd sg n 32 0
  have l6 := @finL_len (sumF1 sg n + k) n (32 + n) 0 (cells 32 n ++ cells (sumF1 sg n) k) kd sg hn.1
  rw [List.length_append, cells_len, cells_len] at l6
  unfold mvlA
  simp only [List.length_append, putA_len]
  have l5 : (endA (finN kd sg (sumF1 sg n + k) n) (sumF1 sg n + k + n)).length = 2 := rfl
  omega
def rulesL : List MV := [.str "cut", .str "up", .str "half", .str "even", .str "floor", .str "ceil"]
theorem lrules_eq : f_lrules [] = .ok (.lst rulesL, []) := mFn_ok ⟨[], rfl⟩
theorem rule_at {d : Int} (h : 0 ≤ d ∧ d < 6) : ∃ rule : Str, IsRule rule ∧ atI rulesL d = some (.str rule) := by
  rcases (show d = 0 ∨ d = 1 ∨ d = 2 ∨ d = 3 ∨ d = 4 ∨ d = 5 by omega) with rfl | rfl | rfl | rfl | rfl | rfl
  · exact ⟨"cut", .inl rfl, rfl⟩
  · exact ⟨"up", .inr (.inl rfl), rfl⟩
  · exact ⟨"half", .inr (.inr (.inl rfl)), rfl⟩
  · exact ⟨"even", .inr (.inr (.inr (.inl rfl))), rfl⟩
  · exact ⟨"floor", .inr (.inr (.inr (.inr (.inl rfl)))), rfl⟩
  · exact ⟨"ceil", .inr (.inr (.inr (.inr (.inr rfl)))), rfl⟩
@[simp] theorem mCallE_ap {f : MX → Res (MV × Env)} {e : MX} {r : Option MV} {ρ : Env} : mCallE f e (r :: ρ) = match f e with | .ok (v, _) => (if flatM v then .ok (v, r :: ρ) else .stuck) | _ => .stuck := nr rfl
theorem lsorts_TooLong (fs : List (Str × MV)) : ∃ ρ, f_lsorts ⟨"TooLong", fs⟩ = .ok (.str "TooLong", ρ) := ⟨_, rfl⟩
theorem lsorts_NoRule (fs : List (Str × MV)) : ∃ ρ, f_lsorts ⟨"NoRule", fs⟩ = .ok (.str "NoRule", ρ) := ⟨_, rfl⟩
theorem pmoved_norule {fm : List MV} {v : Int} {rule : Str} (h : fNotIn (.str rule) (.tup [(.str "cut"), (.str "up"), (.str "half"), (.str "even"), (.str "floor"), (.str "ceil")]) = some (.bl true)) : f_pmoved_rows [.tup fm, .int v, .str rule] = .exc ⟨"NoRule", [("rule", .str rule)]⟩ [] := by
  refine mFn_exc ?_
  simp [m_pmoved_rows, h]
theorem pmoved_long {kd sg rule : Str} {n : Nat} {v : Int} {p : MV} (hr : IsRule rule) (h : n < v.natAbs) : f_pmoved_rows [Form kd n sg p, .int v, .str rule] = .exc ⟨"TooLong", [("number", .int v)]⟩ [] := by
  refine mFn_exc ?_
  have ri := rule_in hr
  have ab : bAbs [.int v] = some (.int (v.natAbs : Int)) := by
    rw [bAbs_i]
    congr 2
    split <;> omega
  rw [show Form kd n sg p = .tup [.str kd, .int n, .str sg, p] from rfl]
  simp [m_pmoved_rows, ri, ab, h]
theorem lasked3_norule {fm : List MV} {v : Int} {rule : Str} (h : fNotIn (.str rule) (.tup [(.str "cut"), (.str "up"), (.str "half"), (.str "even"), (.str "floor"), (.str "ceil")]) = some (.bl true)) : f_lasked3 [.tup fm, .int v, .str rule] = .ok (.tup [.str rule, .str "NoRule"], []) := by
  refine mFn_ok ?_
  have e := @pmoved_norule fm v rule h
  obtain ⟨ρ, hs⟩ := lsorts_NoRule [("rule", .str rule)]
  have lk : List.lookup (Str.ofString "NoRule") [(Str.ofString "NoRule", true), (Str.ofString "TooLong", true)] = some true := by decide +kernel
  have tr : ∀ (mh : MX → MS) (a b c d e f : Option MV), tryM 5 [("NoRule", true), ("TooLong", true)] mh (.exc ⟨"NoRule", [("rule", .str rule)]⟩ [a, b, c, d, e, f]) = endM 5 (mh ⟨"NoRule", [("rule", .str rule)]⟩ [a, b, c, d, e, none]) := fun mh a b c d e f => tryM_exc lk (by show 5 < 6; decide) rfl
  have lk3 : List.lookup (Str.ofString "rule") [(Str.ofString "rule", MV.str rule)] = some (.str rule) := by simp [List.lookup]
  have ne : ¬ (Str.ofString "NoRule" = Str.ofString "TooLong") := by decide +kernel
  simp [m_lasked3, b_lasked3_0, e, tr, hs, lk3, ne, flatM, szOk_small]
theorem lasked3_long {kd sg rule : Str} {n : Nat} {v : Int} {p : MV} (hr : IsRule rule) (h : n < v.natAbs) : f_lasked3 [Form kd n sg p, .int v, .str rule] = .ok (.tup [.int v, .str "TooLong"], []) := by
  refine mFn_ok ?_
  have e := @pmoved_long kd sg rule n v p hr h
  obtain ⟨ρ, hs⟩ := lsorts_TooLong [("number", .int v)]
  have lk : List.lookup (Str.ofString "TooLong") [(Str.ofString "NoRule", true), (Str.ofString "TooLong", true)] = some true := by decide +kernel
  have tr : ∀ (mh : MX → MS) (a b c d e f : Option MV), tryM 5 [("NoRule", true), ("TooLong", true)] mh (.exc ⟨"TooLong", [("number", .int v)]⟩ [a, b, c, d, e, f]) = endM 5 (mh ⟨"TooLong", [("number", .int v)]⟩ [a, b, c, d, e, none]) := fun mh a b c d e f => tryM_exc lk (by show 5 < 6; decide) rfl
  have lk3 : List.lookup (Str.ofString "number") [(Str.ofString "number", MV.int v)] = some (.int v) := by simp [List.lookup]
  have ne : ¬ (Str.ofString "TooLong" = Str.ofString "NoRule") := by decide +kernel
  rw [show Form kd n sg p = .tup [.str kd, .int n, .str sg, p] from rfl] at *
  simp [m_lasked3, b_lasked3_0, e, tr, hs, lk3, ne, flatM, szOk_small]
theorem lasked3_ok {fm px : List MV} {v : Int} {rule : Str} (e : f_pmoved_rows [.tup fm, .int v, .str rule] = .ok (.tup px, [])) : f_lasked3 [.tup fm, .int v, .str rule] = .ok (.tup [.tup px, .str ""], []) := by
  refine mFn_ok ?_
  simp [m_lasked3, b_lasked3_0, e, szOk_small]
theorem moved_prog {kd sg rule : Str} {n : Nat} {v : Int} {p : MV} (hk : kd = "packed" ∨ kd = "spread") (hsg : sg = "none" ∨ sg = "end" ∨ sg = "tens") (hn : 1 ≤ n ∧ n ≤ 12) (hr : IsRule rule) (h : v.natAbs ≤ n) :
    ∃ px, f_pmoved_rows [Form kd n sg p, .int v, .str rule] = .ok (.tup px, []) ∧ f_lis_program [.tup px] = .ok (.bl true, []) := by
  by_cases z : 0 ≤ v
  · obtain ⟨k, rfl⟩ : ∃ k : Nat, (k : Int) = v := ⟨v.toNat, by omega⟩
    have hk2 : k ≤ n := by omega
    exact ⟨_, pmoved_left_eq hk hsg ⟨hn.1, by omega⟩ hk2 hr, allG_len_prog (@mvl_gd movW movW_bs kd sg n k hk hn.1 (by omega) hk2) movW_fn (by decide +kernel) (mvlA_len hn hk2)⟩
  · obtain ⟨k, rfl⟩ : ∃ k : Nat, -(k : Int) = v := ⟨(-v).toNat, by omega⟩
    have hk2 : 1 ≤ k ∧ k ≤ n := by omega
    exact ⟨_, pmoved_right_eq hk hsg ⟨hn.1, by omega⟩ hk2 hr, allG_len_prog (@mvr_gd movW movW_bs movW_no movW_lo movW_si kd sg rule n k hk hn.1 (by omega) hk2) movW_fn (by decide +kernel) (mvrA_len hn hk2.2)⟩
theorem bad_word {d : Int} (h : 0 ≤ d ∧ d < 8) : ∃ w : Str, atI [MV.str "", .str "odd", .str "down", .str "Cut", .str "up ", .str "halfs", .str "eve", .str "floors"] d = some (.str w) ∧ fNotIn (.str w) (.tup [(.str "cut"), (.str "up"), (.str "half"), (.str "even"), (.str "floor"), (.str "ceil")]) = some (.bl true) := by
  rcases (show d = 0 ∨ d = 1 ∨ d = 2 ∨ d = 3 ∨ d = 4 ∨ d = 5 ∨ d = 6 ∨ d = 7 by omega) with rfl | rfl | rfl | rfl | rfl | rfl | rfl | rfl <;> exact ⟨_, rfl, rfl⟩
theorem lright2_ok (ns : List Int) (at0 : Nat) : f_lright2 [.scr ns, .int at0] = .ok (.bl true, []) := by
  refine mFn_ok ?_
  obtain ⟨c0, hc0⟩ := lcell_ok ns at0
  obtain ⟨c1, hc1⟩ := lcell_ok ns (at0 + 1)
  obtain ⟨M, hM⟩ : ∃ M : Int, (10 : Int) ^ 39 = M := ⟨_, rfl⟩
  have hMb : 10 ≤ M ∧ M.natAbs.log2 < 9000 := by rw [← hM]; decide
  have fp39 : fPow (.int 10) (.int 39) = some (.int M) := by rw [← hM]; rfl
  have dM : divOk M = true := by
    unfold divOk
    rw [Bool.or_eq_true]
    right
    simp only [Bool.and_eq_true, decide_eq_true_eq]
    exact ⟨by omega, hMb.2⟩
  obtain ⟨ds, hd, hds⟩ := ldraws_ok c0 3 [6, 2, 3, 6, 12] (by decide) (by decide)
  simp only [draws_cons, draws_nil] at hd
  obtain ⟨wy, _, rfl, t0, kk, _, rfl, t1, ss, _, rfl, t2, pk, _, rfl, t3, a', _, rfl, t4, rfl⟩ := hd
  obtain ⟨es, he, hes⟩ := ldraws_ok c1 4 [25, 13, 8, 2, M] (by simp) (by
    intro w hw
    simp only [List.mem_cons, List.not_mem_nil, or_false] at hw
    rcases hw with rfl | rfl | rfl | rfl | rfl
    · decide
    · decide
    · decide
    · decide
    · exact ⟨by omega, dM⟩)
  simp only [draws_cons, draws_nil] at he
  obtain ⟨by0, _, rfl, u0, pt, _, rfl, u1, wd, _, rfl, u2, gr, _, rfl, u3, bd, _, rfl, u4, rfl⟩ := he
  obtain ⟨a, rfl⟩ : ∃ a : Nat, (a : Int) = a' := ⟨a'.toNat, by omega⟩
  obtain ⟨D, hD, hD0⟩ : ∃ D : Int, atI [MV.int 40, .int M] gr = some (.int D) ∧ 0 < D := by
    rcases (show gr = 0 ∨ gr = 1 by omega) with rfl | rfl
    · exact ⟨40, rfl, by decide⟩
    · exact ⟨M, rfl, by omega⟩
  have b0 := fmod_ge' (a := bd) hD0
  obtain ⟨bd1, hbd⟩ : ∃ bd1, bd.fmod D = bd1 := ⟨_, rfl⟩
  rw [hbd] at b0
  have Dn : ¬ D = 0 := by omega
  have hkd := kdM_or kk
  have hsg := sgM_or ss
  obtain ⟨q1, hf1⟩ := @lform_kd2 kk ss a (1 + a) t1 (by omega) t2 rfl
  obtain ⟨n, hn⟩ : ∃ n, 1 + a = n := ⟨_, rfl⟩
  rw [hn] at hf1
  have hn1 : 1 ≤ n ∧ n ≤ 12 := by omega
  have nz : ¬ ((n : Int) + 1 = 0) := by omega
  obtain ⟨p', hpp⟩ : ∃ p', pt.fmod ((n : Int) + 1) = p' := ⟨_, rfl⟩
  have m2 : mulOk 2 (n : Int) = true := mulOk_l (by decide) (by decide)
  have nz2 : ¬ (2 * (n : Int) + 1 = 0) := by omega
  have f0 := fmod_ge' (a := by0) (b := 2 * (n : Int) + 1) (by omega)
  have f1 := fmod_lt' (a := by0) (b := 2 * (n : Int) + 1) (by omega)
  obtain ⟨by1, hby⟩ : ∃ by1, by0.fmod (2 * (n : Int) + 1) = by1 := ⟨_, rfl⟩
  rw [hby] at f0 f1
  have s0 := fmod_ge' (a := pt) (b := 2) (by decide)
  have s1 := fmod_lt' (a := pt) (b := 2) (by decide)
  obtain ⟨sn, hsn⟩ : ∃ sn, pt.fmod 2 = sn := ⟨_, rfl⟩
  rw [hsn] at s0 s1
  have m3 : mulOk 2 sn = true := mulOk_l (by decide) (by decide)
  have m4 : ∀ z, mulOk z (1 - 2 * sn) = true := fun z => mulOk_r (by omega) (by omega)
  obtain ⟨far, hfar⟩ : ∃ far, ((n : Int) + 1 + bd1) * (1 - 2 * sn) = far := ⟨_, rfl⟩
  have farb : n < far.natAbs := by
    rw [← hfar]
    rcases (show sn = 0 ∨ sn = 1 by omega) with rfl | rfl <;> omega
  obtain ⟨rule, hr, hra⟩ := rule_at t3
  obtain ⟨w, hw, hwn⟩ := bad_word u2
  generalize kdM kk = kd at *
  generalize sgM ss = sg at *
  have fsl : cutM [MV.str kd, .int n, .str sg, .int q1] none (some 3) = [.str kd, .int n, .str sg] := rfl
  have fe1 : Form kd n sg (.int q1) = .tup [.str kd, .int n, .str sg, .int q1] := rfl
  rw [fe1] at hf1
  simp at hc0 hc1 hds hes
  have lw := fun v => lwhole_int v
  have e12 : ¬ (Str.ofString "NoRule" = Str.ofString "TooLong") := by decide +kernel
  by_cases z1 : wy = 1
  · subst z1
    have g := @lasked3_norule [.str kd, .int n, .str sg, .int p'] (by1 - n) w hwn
    simp [m_lright2, hc0, hc1, hds, hes, fp39, hf1, fsl, nz, hpp, m2, nz2, hby, lrules_eq, hra, hw, g, szOk_small]
  · by_cases z2 : wy = 2
    · subst z2
      have g := @lasked3_norule [.str kd, .int n, .str sg, .int p'] far w hwn
      simp [m_lright2, hc0, hc1, hds, hes, fp39, hf1, fsl, nz, hpp, m2, nz2, hby, lrules_eq, hra, hD, Dn, hbd, hsn, m3, m4, hfar, hw, g, szOk_small]
    · by_cases z0 : wy = 0
      · subst z0
        have g := @lasked3_long kd sg rule n far (.int p') hr farb
        rw [show Form kd n sg (.int p') = .tup [.str kd, .int n, .str sg, .int p'] from rfl] at g
        simp [m_lright2, hc0, hc1, hds, hes, fp39, hf1, fsl, nz, hpp, m2, nz2, hby, lrules_eq, hra, hD, Dn, hbd, hsn, m3, m4, hfar, g, lw, szOk_small]
      · obtain ⟨px, g1, g2⟩ := @moved_prog kd sg rule n (by1 - n) (.int p') hkd hsg hn1 hr (by omega)
        rw [show Form kd n sg (.int p') = .tup [.str kd, .int n, .str sg, .int p'] from rfl] at g1
        have g := lasked3_ok g1
        simp [m_lright2, hc0, hc1, hds, hes, fp39, hf1, fsl, nz, hpp, m2, nz2, hby, lrules_eq, hra, z0, z1, z2, g, g2, szOk_small]
theorem law_true : ∀ ns : List Int, ns.length ≤ 63 → ∃ bs, f_law34 [.scr ns] = .ok (.bl true, bs) := by
  intro ns hns
  refine ⟨[], mFn_ok ?_⟩
  have ir : inR (6 : Int) = true := inR_of (by omega) (by omega)
  have lc : mLcO (mR1 (mCons (mC (.int 6)) (mNil))) (.nm 1) (mYes) (mFz (mCall0 f_lright2 (mCons (mVar 0) (mCons (mOp fMul (mC (.int 2)) (mVar 1)) (mNil))))) [1] [some (.scr ns), none] =
      .ok (.own ((rngM 0 1 6).map fun _ => .bl true), [some (.scr ns), none]) := by
    refine mLcO_map (fun _ => .bl true) (by simp [ir]) (by simp [perAt]) ?_ (by rw [rngM_len, sizeLine_eq]; omega)
    intro x hx
    have : ∃ k : Nat, x = .int (k : Nat) ∧ k < 6 := by
      unfold rngM at hx
      obtain ⟨k, hk, rfl⟩ := List.mem_map.mp hx
      refine ⟨k, ?_, List.mem_range.mp hk⟩
      rw [show (0 : Int) + (k : Nat) * 1 = (k : Nat) by omega]
    obtain ⟨k, rfl, hk⟩ := this
    have lr := lright2_ok ns (2 * k)
    have mo : mulOk 2 (k : Int) = true := mulOk_l (by decide) (by decide)
    rw [show ((2 * k : Nat) : Int) = 2 * (k : Int) by omega] at lr
    exact ⟨_, rfl, by simp [wipeM, lr, mo], by simp [wipeM], by simp [wipeM]⟩
  have ba : bAll [.lst ((rngM 0 1 6).map fun _ => .bl true)] = some (.bl true) := rfl
  simp [m_law34, lc, ba]
def top (i : Nat) : Stmt := PySem.Challenge.pw_tensloft_k31_moved_programs.main.body.getD i (.Pass ⟨0, 0, 0, 0⟩)
abbrev s_ini_NoRule : Stmt := inCls (top 34) 0
theorem sc_ini_NoRule : FnScope ["self", "rule"] ["self", "rule"] (defScope s_ini_NoRule) := ⟨rfl, rfl, rfl, by decide +kernel, rfl, by decide +kernel, by decide +kernel⟩
theorem ini_NoRule {P : Program} {w : World} {K : PySem.W.Frag} {mg : Str → Option Value} {base : Heap} {a : Addr} {fd : FuncData} (F : Fun K "__init__" "NoRule.__init__" s_ini_NoRule a fd) (B : Bas K mg "LoftError") : FnOk P w K mg base (L2N.CX P w) 2 a fd ["self", "rule"] (spI1 K "rule") :=
  init1 F sc_ini_NoRule B rfl (fun _ _ => rfl) (by decide +kernel) (by decide +kernel) (fun _ => ⟨_, rfl⟩) (by decide) (by decide) (by decide)
abbrev s_ini_TooLong : Stmt := inCls (top 33) 0
theorem sc_ini_TooLong : FnScope ["self", "number"] ["self", "number"] (defScope s_ini_TooLong) := ⟨rfl, rfl, rfl, by decide +kernel, rfl, by decide +kernel, by decide +kernel⟩
theorem ini_TooLong {P : Program} {w : World} {K : PySem.W.Frag} {mg : Str → Option Value} {base : Heap} {a : Addr} {fd : FuncData} (F : Fun K "__init__" "TooLong.__init__" s_ini_TooLong a fd) (B : Bas K mg "LoftError") : FnOk P w K mg base (L2N.CX P w) 2 a fd ["self", "number"] (spI1 K "number") :=
  init1 F sc_ini_TooLong B rfl (fun _ _ => rfl) (by decide +kernel) (by decide +kernel) (fun _ => ⟨_, rfl⟩) (by decide) (by decide) (by decide)
abbrev s_pahead_of_last : Stmt := top 6
theorem sc_pahead_of_last : FnScope ["byte"] ["byte"] (defScope s_pahead_of_last) := ⟨rfl, rfl, rfl, by decide +kernel, rfl, by decide +kernel, by decide +kernel⟩
theorem v_pahead_of_last_0 : (defScope s_pahead_of_last).names.lookup ("byte" : Str) = some NameKind.local := by decide +kernel
theorem ok_pahead_of_last {P : Program} {w : World} {K : PySem.W.Frag} {mg : Str → Option Value} {base : Heap} {f : Addr} {fd : FuncData} (F : Fun K "ahead_of_last" "ahead_of_last" s_pahead_of_last f fd) (B : Bn mg)     :
    FnOk P w K mg base (L2N.CX P w) 2 f fd ["byte"] (spF K mg 1 [] f_pahead_of_last) := by
  refine fn_ok F sc_pahead_of_last (by decide) (by decide) fun cdv A outer s H E hr => ?_
  have nd := sc_pahead_of_last.nd
  have tk : L2N.Takes (cxOf (L2N.CX P w) P w K mg base ["byte"] "ahead_of_last" (defScope s_pahead_of_last) f cdv A outer s H E) (fun cls d _ H => E cls d H) := L2N.takes_of rfl rfl rfl rfl
  have pn : PassesOwn (model P w) (cxOf (L2N.CX P w) P w K mg base ["byte"] "ahead_of_last" (defScope s_pahead_of_last) f cdv A outer s H E).A (cxOf (L2N.CX P w) P w K mg base ["byte"] "ahead_of_last" (defScope s_pahead_of_last) f cdv A outer s H E).env (cxOf (L2N.CX P w) P w K mg base ["byte"] "ahead_of_last" (defScope s_pahead_of_last) f cdv A outer s H E).xe := passes_of rfl
  unfold m_pahead_of_last
  exact mss_one (ms_ret (me_div (me_var (i := 0) rfl (.inl v_pahead_of_last_0)) (me_int)))

abbrev s_pfive_on : Stmt := top 11
theorem sc_pfive_on : FnScope ["byte"] ["byte"] (defScope s_pfive_on) := ⟨rfl, rfl, rfl, by decide +kernel, rfl, by decide +kernel, by decide +kernel⟩
theorem v_pfive_on_0 : (defScope s_pfive_on).names.lookup ("byte" : Str) = some NameKind.local := by decide +kernel
theorem g_pfive_on_int (L a : Addr) (cd : Value) : (PyProof.Rows.envOfC "five_on" (defScope s_pfive_on) L a cd).kindOf ("int" : Str) = some NameKind.globalImplicit := rfl
theorem ok_pfive_on {P : Program} {w : World} {K : PySem.W.Frag} {mg : Str → Option Value} {base : Heap} {f : Addr} {fd : FuncData} (F : Fun K "five_on" "five_on" s_pfive_on f fd) (B : Bn mg)     :
    FnOk P w K mg base (L2N.CX P w) 2 f fd ["byte"] (spF K mg 1 [] f_pfive_on) := by
  refine fn_ok F sc_pfive_on (by decide) (by decide) fun cdv A outer s H E hr => ?_
  have nd := sc_pfive_on.nd
  have tk : L2N.Takes (cxOf (L2N.CX P w) P w K mg base ["byte"] "five_on" (defScope s_pfive_on) f cdv A outer s H E) (fun cls d _ H => E cls d H) := L2N.takes_of rfl rfl rfl rfl
  have pn : PassesOwn (model P w) (cxOf (L2N.CX P w) P w K mg base ["byte"] "five_on" (defScope s_pfive_on) f cdv A outer s H E).A (cxOf (L2N.CX P w) P w K mg base ["byte"] "five_on" (defScope s_pfive_on) f cdv A outer s H E).env (cxOf (L2N.CX P w) P w K mg base ["byte"] "five_on" (defScope s_pfive_on) f cdv A outer s H E).xe := passes_of rfl
  unfold m_pfive_on
  exact mss_one (ms_ret (mb_int B.int (ma_cons (me_cmp op_gt os_gt (me_var (i := 0) rfl (.inl v_pfive_on_0)) (me_int) (nomark _)) (ma_nil)) (hg := (g_pfive_on_int _ _ _))))

abbrev s_phalf_up : Stmt := top 4
theorem sc_phalf_up : FnScope ["byte"] ["byte"] (defScope s_phalf_up) := ⟨rfl, rfl, rfl, by decide +kernel, rfl, by decide +kernel, by decide +kernel⟩
theorem v_phalf_up_0 : (defScope s_phalf_up).names.lookup ("byte" : Str) = some NameKind.local := by decide +kernel
theorem ok_phalf_up {P : Program} {w : World} {K : PySem.W.Frag} {mg : Str → Option Value} {base : Heap} {f : Addr} {fd : FuncData} (F : Fun K "half_up" "half_up" s_phalf_up f fd) (B : Bn mg)     :
    FnOk P w K mg base (L2N.CX P w) 2 f fd ["byte"] (spF K mg 1 [] f_phalf_up) := by
  refine fn_ok F sc_phalf_up (by decide) (by decide) fun cdv A outer s H E hr => ?_
  have nd := sc_phalf_up.nd
  have tk : L2N.Takes (cxOf (L2N.CX P w) P w K mg base ["byte"] "half_up" (defScope s_phalf_up) f cdv A outer s H E) (fun cls d _ H => E cls d H) := L2N.takes_of rfl rfl rfl rfl
  have pn : PassesOwn (model P w) (cxOf (L2N.CX P w) P w K mg base ["byte"] "half_up" (defScope s_phalf_up) f cdv A outer s H E).A (cxOf (L2N.CX P w) P w K mg base ["byte"] "half_up" (defScope s_phalf_up) f cdv A outer s H E).env (cxOf (L2N.CX P w) P w K mg base ["byte"] "half_up" (defScope s_phalf_up) f cdv A outer s H E).xe := passes_of rfl
  unfold m_phalf_up
  exact mss_one (ms_ret (me_mul (me_mod (me_var (i := 0) rfl (.inl v_phalf_up_0)) (me_int)) (me_int)))

abbrev s_phigh_half : Stmt := top 2
theorem sc_phigh_half : FnScope ["byte"] ["byte"] (defScope s_phigh_half) := ⟨rfl, rfl, rfl, by decide +kernel, rfl, by decide +kernel, by decide +kernel⟩
theorem v_phigh_half_0 : (defScope s_phigh_half).names.lookup ("byte" : Str) = some NameKind.local := by decide +kernel
theorem ok_phigh_half {P : Program} {w : World} {K : PySem.W.Frag} {mg : Str → Option Value} {base : Heap} {f : Addr} {fd : FuncData} (F : Fun K "high_half" "high_half" s_phigh_half f fd) (B : Bn mg)     :
    FnOk P w K mg base (L2N.CX P w) 2 f fd ["byte"] (spF K mg 1 [] f_phigh_half) := by
  refine fn_ok F sc_phigh_half (by decide) (by decide) fun cdv A outer s H E hr => ?_
  have nd := sc_phigh_half.nd
  have tk : L2N.Takes (cxOf (L2N.CX P w) P w K mg base ["byte"] "high_half" (defScope s_phigh_half) f cdv A outer s H E) (fun cls d _ H => E cls d H) := L2N.takes_of rfl rfl rfl rfl
  have pn : PassesOwn (model P w) (cxOf (L2N.CX P w) P w K mg base ["byte"] "high_half" (defScope s_phigh_half) f cdv A outer s H E).A (cxOf (L2N.CX P w) P w K mg base ["byte"] "high_half" (defScope s_phigh_half) f cdv A outer s H E).env (cxOf (L2N.CX P w) P w K mg base ["byte"] "high_half" (defScope s_phigh_half) f cdv A outer s H E).xe := passes_of rfl
  unfold m_phigh_half
  exact mss_one (ms_ret (me_div (me_var (i := 0) rfl (.inl v_phigh_half_0)) (me_int)))

abbrev s_plast_figure : Stmt := top 5
theorem sc_plast_figure : FnScope ["byte"] ["byte"] (defScope s_plast_figure) := ⟨rfl, rfl, rfl, by decide +kernel, rfl, by decide +kernel, by decide +kernel⟩
theorem v_plast_figure_0 : (defScope s_plast_figure).names.lookup ("byte" : Str) = some NameKind.local := by decide +kernel
theorem ok_plast_figure {P : Program} {w : World} {K : PySem.W.Frag} {mg : Str → Option Value} {base : Heap} {f : Addr} {fd : FuncData} (F : Fun K "last_figure" "last_figure" s_plast_figure f fd) (B : Bn mg)     :
    FnOk P w K mg base (L2N.CX P w) 2 f fd ["byte"] (spF K mg 1 [] f_plast_figure) := by
  refine fn_ok F sc_plast_figure (by decide) (by decide) fun cdv A outer s H E hr => ?_
  have nd := sc_plast_figure.nd
  have tk : L2N.Takes (cxOf (L2N.CX P w) P w K mg base ["byte"] "last_figure" (defScope s_plast_figure) f cdv A outer s H E) (fun cls d _ H => E cls d H) := L2N.takes_of rfl rfl rfl rfl
  have pn : PassesOwn (model P w) (cxOf (L2N.CX P w) P w K mg base ["byte"] "last_figure" (defScope s_plast_figure) f cdv A outer s H E).A (cxOf (L2N.CX P w) P w K mg base ["byte"] "last_figure" (defScope s_plast_figure) f cdv A outer s H E).env (cxOf (L2N.CX P w) P w K mg base ["byte"] "last_figure" (defScope s_plast_figure) f cdv A outer s H E).xe := passes_of rfl
  unfold m_plast_figure
  exact mss_one (ms_ret (me_mod (me_var (i := 0) rfl (.inl v_plast_figure_0)) (me_int)))

abbrev s_plow_half : Stmt := top 3
theorem sc_plow_half : FnScope ["byte"] ["byte"] (defScope s_plow_half) := ⟨rfl, rfl, rfl, by decide +kernel, rfl, by decide +kernel, by decide +kernel⟩
theorem v_plow_half_0 : (defScope s_plow_half).names.lookup ("byte" : Str) = some NameKind.local := by decide +kernel
theorem ok_plow_half {P : Program} {w : World} {K : PySem.W.Frag} {mg : Str → Option Value} {base : Heap} {f : Addr} {fd : FuncData} (F : Fun K "low_half" "low_half" s_plow_half f fd) (B : Bn mg)     :
    FnOk P w K mg base (L2N.CX P w) 2 f fd ["byte"] (spF K mg 1 [] f_plow_half) := by
  refine fn_ok F sc_plow_half (by decide) (by decide) fun cdv A outer s H E hr => ?_
  have nd := sc_plow_half.nd
  have tk : L2N.Takes (cxOf (L2N.CX P w) P w K mg base ["byte"] "low_half" (defScope s_plow_half) f cdv A outer s H E) (fun cls d _ H => E cls d H) := L2N.takes_of rfl rfl rfl rfl
  have pn : PassesOwn (model P w) (cxOf (L2N.CX P w) P w K mg base ["byte"] "low_half" (defScope s_plow_half) f cdv A outer s H E).A (cxOf (L2N.CX P w) P w K mg base ["byte"] "low_half" (defScope s_plow_half) f cdv A outer s H E).env (cxOf (L2N.CX P w) P w K mg base ["byte"] "low_half" (defScope s_plow_half) f cdv A outer s H E).xe := passes_of rfl
  unfold m_plow_half
  exact mss_one (ms_ret (me_mod (me_var (i := 0) rfl (.inl v_plow_half_0)) (me_int)))

abbrev s_plowest_two : Stmt := top 14
theorem sc_plowest_two : FnScope ["byte"] ["byte"] (defScope s_plowest_two) := ⟨rfl, rfl, rfl, by decide +kernel, rfl, by decide +kernel, by decide +kernel⟩
theorem v_plowest_two_0 : (defScope s_plowest_two).names.lookup ("byte" : Str) = some NameKind.local := by decide +kernel
theorem ok_plowest_two {P : Program} {w : World} {K : PySem.W.Frag} {mg : Str → Option Value} {base : Heap} {f : Addr} {fd : FuncData} (F : Fun K "lowest_two" "lowest_two" s_plowest_two f fd) (B : Bn mg)     :
    FnOk P w K mg base (L2N.CX P w) 2 f fd ["byte"] (spF K mg 1 [] f_plowest_two) := by
  refine fn_ok F sc_plowest_two (by decide) (by decide) fun cdv A outer s H E hr => ?_
  have nd := sc_plowest_two.nd
  have tk : L2N.Takes (cxOf (L2N.CX P w) P w K mg base ["byte"] "lowest_two" (defScope s_plowest_two) f cdv A outer s H E) (fun cls d _ H => E cls d H) := L2N.takes_of rfl rfl rfl rfl
  have pn : PassesOwn (model P w) (cxOf (L2N.CX P w) P w K mg base ["byte"] "lowest_two" (defScope s_plowest_two) f cdv A outer s H E).A (cxOf (L2N.CX P w) P w K mg base ["byte"] "lowest_two" (defScope s_plowest_two) f cdv A outer s H E).env (cxOf (L2N.CX P w) P w K mg base ["byte"] "lowest_two" (defScope s_plowest_two) f cdv A outer s H E).xe := passes_of rfl
  unfold m_plowest_two
  exact mss_one (ms_ret (me_mod (me_var (i := 0) rfl (.inl v_plowest_two_0)) (me_int)))

abbrev s_pnine_less : Stmt := top 7
theorem sc_pnine_less : FnScope ["byte"] ["byte"] (defScope s_pnine_less) := ⟨rfl, rfl, rfl, by decide +kernel, rfl, by decide +kernel, by decide +kernel⟩
theorem v_pnine_less_0 : (defScope s_pnine_less).names.lookup ("byte" : Str) = some NameKind.local := by decide +kernel
theorem ok_pnine_less {P : Program} {w : World} {K : PySem.W.Frag} {mg : Str → Option Value} {base : Heap} {f : Addr} {fd : FuncData} (F : Fun K "nine_less" "nine_less" s_pnine_less f fd) (B : Bn mg)     :
    FnOk P w K mg base (L2N.CX P w) 2 f fd ["byte"] (spF K mg 1 [] f_pnine_less) := by
  refine fn_ok F sc_pnine_less (by decide) (by decide) fun cdv A outer s H E hr => ?_
  have nd := sc_pnine_less.nd
  have tk : L2N.Takes (cxOf (L2N.CX P w) P w K mg base ["byte"] "nine_less" (defScope s_pnine_less) f cdv A outer s H E) (fun cls d _ H => E cls d H) := L2N.takes_of rfl rfl rfl rfl
  have pn : PassesOwn (model P w) (cxOf (L2N.CX P w) P w K mg base ["byte"] "nine_less" (defScope s_pnine_less) f cdv A outer s H E).A (cxOf (L2N.CX P w) P w K mg base ["byte"] "nine_less" (defScope s_pnine_less) f cdv A outer s H E).env (cxOf (L2N.CX P w) P w K mg base ["byte"] "nine_less" (defScope s_pnine_less) f cdv A outer s H E).xe := passes_of rfl
  unfold m_pnine_less
  exact mss_cons (ms_if (PW.pt (mw_and (mt_cmp op_gt os_gt (me_var (i := 0) rfl (.inl v_pnine_less_0)) (me_int) (nomark _)) (mw_one_and (mt_cmp op_lt os_lt (me_var (i := 0) rfl (.inl v_pnine_less_0)) (me_int) (nomark _))))) (mss_one (ms_ret (me_sub (me_int) (me_var (i := 0) rfl (.inl v_pnine_less_0))))) (mss_nil)) (mss_one (ms_ret (me_var (i := 0) rfl (.inl v_pnine_less_0))))

abbrev s_pone_of_none : Stmt := top 10
theorem sc_pone_of_none : FnScope ["byte"] ["byte"] (defScope s_pone_of_none) := ⟨rfl, rfl, rfl, by decide +kernel, rfl, by decide +kernel, by decide +kernel⟩
theorem v_pone_of_none_0 : (defScope s_pone_of_none).names.lookup ("byte" : Str) = some NameKind.local := by decide +kernel
theorem g_pone_of_none_int (L a : Addr) (cd : Value) : (PyProof.Rows.envOfC "one_of_none" (defScope s_pone_of_none) L a cd).kindOf ("int" : Str) = some NameKind.globalImplicit := rfl
theorem ok_pone_of_none {P : Program} {w : World} {K : PySem.W.Frag} {mg : Str → Option Value} {base : Heap} {f : Addr} {fd : FuncData} (F : Fun K "one_of_none" "one_of_none" s_pone_of_none f fd) (B : Bn mg)     :
    FnOk P w K mg base (L2N.CX P w) 2 f fd ["byte"] (spF K mg 1 [] f_pone_of_none) := by
  refine fn_ok F sc_pone_of_none (by decide) (by decide) fun cdv A outer s H E hr => ?_
  have nd := sc_pone_of_none.nd
  have tk : L2N.Takes (cxOf (L2N.CX P w) P w K mg base ["byte"] "one_of_none" (defScope s_pone_of_none) f cdv A outer s H E) (fun cls d _ H => E cls d H) := L2N.takes_of rfl rfl rfl rfl
  have pn : PassesOwn (model P w) (cxOf (L2N.CX P w) P w K mg base ["byte"] "one_of_none" (defScope s_pone_of_none) f cdv A outer s H E).A (cxOf (L2N.CX P w) P w K mg base ["byte"] "one_of_none" (defScope s_pone_of_none) f cdv A outer s H E).env (cxOf (L2N.CX P w) P w K mg base ["byte"] "one_of_none" (defScope s_pone_of_none) f cdv A outer s H E).xe := passes_of rfl
  unfold m_pone_of_none
  exact mss_one (ms_ret (mb_int B.int (ma_cons (me_cmp (op_eqM hr.units) os_eq (me_var (i := 0) rfl (.inl v_pone_of_none_0)) (me_int) (nomark _)) (ma_nil)) (hg := (g_pone_of_none_int _ _ _))))

abbrev s_pone_of_two : Stmt := top 13
theorem sc_pone_of_two : FnScope ["byte"] ["byte"] (defScope s_pone_of_two) := ⟨rfl, rfl, rfl, by decide +kernel, rfl, by decide +kernel, by decide +kernel⟩
theorem v_pone_of_two_0 : (defScope s_pone_of_two).names.lookup ("byte" : Str) = some NameKind.local := by decide +kernel
theorem g_pone_of_two_int (L a : Addr) (cd : Value) : (PyProof.Rows.envOfC "one_of_two" (defScope s_pone_of_two) L a cd).kindOf ("int" : Str) = some NameKind.globalImplicit := rfl
theorem ok_pone_of_two {P : Program} {w : World} {K : PySem.W.Frag} {mg : Str → Option Value} {base : Heap} {f : Addr} {fd : FuncData} (F : Fun K "one_of_two" "one_of_two" s_pone_of_two f fd) (B : Bn mg)     :
    FnOk P w K mg base (L2N.CX P w) 2 f fd ["byte"] (spF K mg 1 [] f_pone_of_two) := by
  refine fn_ok F sc_pone_of_two (by decide) (by decide) fun cdv A outer s H E hr => ?_
  have nd := sc_pone_of_two.nd
  have tk : L2N.Takes (cxOf (L2N.CX P w) P w K mg base ["byte"] "one_of_two" (defScope s_pone_of_two) f cdv A outer s H E) (fun cls d _ H => E cls d H) := L2N.takes_of rfl rfl rfl rfl
  have pn : PassesOwn (model P w) (cxOf (L2N.CX P w) P w K mg base ["byte"] "one_of_two" (defScope s_pone_of_two) f cdv A outer s H E).A (cxOf (L2N.CX P w) P w K mg base ["byte"] "one_of_two" (defScope s_pone_of_two) f cdv A outer s H E).env (cxOf (L2N.CX P w) P w K mg base ["byte"] "one_of_two" (defScope s_pone_of_two) f cdv A outer s H E).xe := passes_of rfl
  unfold m_pone_of_two
  exact mss_one (ms_ret (mb_int B.int (ma_cons (me_cmp op_inM os_in (me_mod (me_var (i := 0) rfl (.inl v_pone_of_two_0)) (me_int)) (me_tup (ma_cons (me_int) (ma_cons (me_int) (ma_nil)))) rfl) (ma_nil)) (hg := (g_pone_of_two_int _ _ _))))

abbrev s_pone_or_none : Stmt := top 9
theorem sc_pone_or_none : FnScope ["byte"] ["byte"] (defScope s_pone_or_none) := ⟨rfl, rfl, rfl, by decide +kernel, rfl, by decide +kernel, by decide +kernel⟩
theorem v_pone_or_none_0 : (defScope s_pone_or_none).names.lookup ("byte" : Str) = some NameKind.local := by decide +kernel
theorem g_pone_or_none_int (L a : Addr) (cd : Value) : (PyProof.Rows.envOfC "one_or_none" (defScope s_pone_or_none) L a cd).kindOf ("int" : Str) = some NameKind.globalImplicit := rfl
theorem ok_pone_or_none {P : Program} {w : World} {K : PySem.W.Frag} {mg : Str → Option Value} {base : Heap} {f : Addr} {fd : FuncData} (F : Fun K "one_or_none" "one_or_none" s_pone_or_none f fd) (B : Bn mg)     :
    FnOk P w K mg base (L2N.CX P w) 2 f fd ["byte"] (spF K mg 1 [] f_pone_or_none) := by
  refine fn_ok F sc_pone_or_none (by decide) (by decide) fun cdv A outer s H E hr => ?_
  have nd := sc_pone_or_none.nd
  have tk : L2N.Takes (cxOf (L2N.CX P w) P w K mg base ["byte"] "one_or_none" (defScope s_pone_or_none) f cdv A outer s H E) (fun cls d _ H => E cls d H) := L2N.takes_of rfl rfl rfl rfl
  have pn : PassesOwn (model P w) (cxOf (L2N.CX P w) P w K mg base ["byte"] "one_or_none" (defScope s_pone_or_none) f cdv A outer s H E).A (cxOf (L2N.CX P w) P w K mg base ["byte"] "one_or_none" (defScope s_pone_or_none) f cdv A outer s H E).env (cxOf (L2N.CX P w) P w K mg base ["byte"] "one_or_none" (defScope s_pone_or_none) f cdv A outer s H E).xe := passes_of rfl
  unfold m_pone_or_none
  exact mss_one (ms_ret (mb_int B.int (ma_cons (me_cmp op_gt os_gt (me_var (i := 0) rfl (.inl v_pone_or_none_0)) (me_int) (nomark _)) (ma_nil)) (hg := (g_pone_or_none_int _ _ _))))

abbrev s_psign_below : Stmt := top 12
theorem sc_psign_below : FnScope ["byte"] ["byte"] (defScope s_psign_below) := ⟨rfl, rfl, rfl, by decide +kernel, rfl, by decide +kernel, by decide +kernel⟩
theorem v_psign_below_0 : (defScope s_psign_below).names.lookup ("byte" : Str) = some NameKind.local := by decide +kernel
theorem g_psign_below_int (L a : Addr) (cd : Value) : (PyProof.Rows.envOfC "sign_below" (defScope s_psign_below) L a cd).kindOf ("int" : Str) = some NameKind.globalImplicit := rfl
theorem ok_psign_below {P : Program} {w : World} {K : PySem.W.Frag} {mg : Str → Option Value} {base : Heap} {f : Addr} {fd : FuncData} (F : Fun K "sign_below" "sign_below" s_psign_below f fd) (B : Bn mg)     :
    FnOk P w K mg base (L2N.CX P w) 2 f fd ["byte"] (spF K mg 1 [] f_psign_below) := by
  refine fn_ok F sc_psign_below (by decide) (by decide) fun cdv A outer s H E hr => ?_
  have nd := sc_psign_below.nd
  have tk : L2N.Takes (cxOf (L2N.CX P w) P w K mg base ["byte"] "sign_below" (defScope s_psign_below) f cdv A outer s H E) (fun cls d _ H => E cls d H) := L2N.takes_of rfl rfl rfl rfl
  have pn : PassesOwn (model P w) (cxOf (L2N.CX P w) P w K mg base ["byte"] "sign_below" (defScope s_psign_below) f cdv A outer s H E).A (cxOf (L2N.CX P w) P w K mg base ["byte"] "sign_below" (defScope s_psign_below) f cdv A outer s H E).env (cxOf (L2N.CX P w) P w K mg base ["byte"] "sign_below" (defScope s_psign_below) f cdv A outer s H E).xe := passes_of rfl
  unfold m_psign_below
  exact mss_one (ms_ret (mb_int B.int (ma_cons (me_cmp op_inM os_in (me_mod (me_var (i := 0) rfl (.inl v_psign_below_0)) (me_int)) (me_tup (ma_cons (me_int) (ma_cons (me_int) (ma_nil)))) rfl) (ma_nil)) (hg := (g_psign_below_int _ _ _))))

abbrev s_psix_on : Stmt := top 53
theorem sc_psix_on : FnScope ["byte"] ["byte"] (defScope s_psix_on) := ⟨rfl, rfl, rfl, by decide +kernel, rfl, by decide +kernel, by decide +kernel⟩
theorem v_psix_on_0 : (defScope s_psix_on).names.lookup ("byte" : Str) = some NameKind.local := by decide +kernel
theorem g_psix_on_int (L a : Addr) (cd : Value) : (PyProof.Rows.envOfC "six_on" (defScope s_psix_on) L a cd).kindOf ("int" : Str) = some NameKind.globalImplicit := rfl
theorem ok_psix_on {P : Program} {w : World} {K : PySem.W.Frag} {mg : Str → Option Value} {base : Heap} {f : Addr} {fd : FuncData} (F : Fun K "six_on" "six_on" s_psix_on f fd) (B : Bn mg)     :
    FnOk P w K mg base (L2N.CX P w) 2 f fd ["byte"] (spF K mg 1 [] f_psix_on) := by
  refine fn_ok F sc_psix_on (by decide) (by decide) fun cdv A outer s H E hr => ?_
  have nd := sc_psix_on.nd
  have tk : L2N.Takes (cxOf (L2N.CX P w) P w K mg base ["byte"] "six_on" (defScope s_psix_on) f cdv A outer s H E) (fun cls d _ H => E cls d H) := L2N.takes_of rfl rfl rfl rfl
  have pn : PassesOwn (model P w) (cxOf (L2N.CX P w) P w K mg base ["byte"] "six_on" (defScope s_psix_on) f cdv A outer s H E).A (cxOf (L2N.CX P w) P w K mg base ["byte"] "six_on" (defScope s_psix_on) f cdv A outer s H E).env (cxOf (L2N.CX P w) P w K mg base ["byte"] "six_on" (defScope s_psix_on) f cdv A outer s H E).xe := passes_of rfl
  unfold m_psix_on
  exact mss_one (ms_ret (mb_int B.int (ma_cons (me_cmp op_gt os_gt (me_var (i := 0) rfl (.inl v_psix_on_0)) (me_int) (nomark _)) (ma_nil)) (hg := (g_psix_on_int _ _ _))))

abbrev s_pten_or_none : Stmt := top 8
theorem sc_pten_or_none : FnScope ["byte"] ["byte"] (defScope s_pten_or_none) := ⟨rfl, rfl, rfl, by decide +kernel, rfl, by decide +kernel, by decide +kernel⟩
theorem v_pten_or_none_0 : (defScope s_pten_or_none).names.lookup ("byte" : Str) = some NameKind.local := by decide +kernel
theorem g_pten_or_none_int (L a : Addr) (cd : Value) : (PyProof.Rows.envOfC "ten_or_none" (defScope s_pten_or_none) L a cd).kindOf ("int" : Str) = some NameKind.globalImplicit := rfl
theorem ok_pten_or_none {P : Program} {w : World} {K : PySem.W.Frag} {mg : Str → Option Value} {base : Heap} {f : Addr} {fd : FuncData} (F : Fun K "ten_or_none" "ten_or_none" s_pten_or_none f fd) (B : Bn mg)     :
    FnOk P w K mg base (L2N.CX P w) 2 f fd ["byte"] (spF K mg 1 [] f_pten_or_none) := by
  refine fn_ok F sc_pten_or_none (by decide) (by decide) fun cdv A outer s H E hr => ?_
  have nd := sc_pten_or_none.nd
  have tk : L2N.Takes (cxOf (L2N.CX P w) P w K mg base ["byte"] "ten_or_none" (defScope s_pten_or_none) f cdv A outer s H E) (fun cls d _ H => E cls d H) := L2N.takes_of rfl rfl rfl rfl
  have pn : PassesOwn (model P w) (cxOf (L2N.CX P w) P w K mg base ["byte"] "ten_or_none" (defScope s_pten_or_none) f cdv A outer s H E).A (cxOf (L2N.CX P w) P w K mg base ["byte"] "ten_or_none" (defScope s_pten_or_none) f cdv A outer s H E).env (cxOf (L2N.CX P w) P w K mg base ["byte"] "ten_or_none" (defScope s_pten_or_none) f cdv A outer s H E).xe := passes_of rfl
  unfold m_pten_or_none
  exact mss_one (ms_ret (me_mul (me_int) (mb_int B.int (ma_cons (me_cmp op_gt os_gt (me_var (i := 0) rfl (.inl v_pten_or_none_0)) (me_int) (nomark _)) (ma_nil)) (hg := (g_pten_or_none_int _ _ _)))))

abbrev s_lmixed : Stmt := top 59
theorem sc_lmixed : FnScope ["_law_cell_here", "_law_k", "_law_salt", "_law_primes", "_law_one", "_law_two"] ["_law_cell_here", "_law_k", "_law_salt"] (defScope s_lmixed) := ⟨rfl, rfl, rfl, by decide +kernel, rfl, by decide +kernel, by decide +kernel⟩
theorem v_lmixed_0 : (defScope s_lmixed).names.lookup ("_law_cell_here" : Str) = some NameKind.local := by decide +kernel
theorem v_lmixed_1 : (defScope s_lmixed).names.lookup ("_law_k" : Str) = some NameKind.local := by decide +kernel
theorem v_lmixed_2 : (defScope s_lmixed).names.lookup ("_law_salt" : Str) = some NameKind.local := by decide +kernel
theorem v_lmixed_3 : (defScope s_lmixed).names.lookup ("_law_primes" : Str) = some NameKind.local := by decide +kernel
theorem v_lmixed_4 : (defScope s_lmixed).names.lookup ("_law_one" : Str) = some NameKind.local := by decide +kernel
theorem v_lmixed_5 : (defScope s_lmixed).names.lookup ("_law_two" : Str) = some NameKind.local := by decide +kernel
theorem ok_lmixed {P : Program} {w : World} {K : PySem.W.Frag} {mg : Str → Option Value} {base : Heap} {f : Addr} {fd : FuncData} (F : Fun K "_law_mixed" "_law_mixed" s_lmixed f fd) (B : Bn mg)     :
    FnOk P w K mg base (L2N.CX P w) 2 f fd ["_law_cell_here", "_law_k", "_law_salt"] (spF K mg 3 [] f_lmixed) := by
  refine fn_ok F sc_lmixed (by decide) (by decide) fun cdv A outer s H E hr => ?_
  have nd := sc_lmixed.nd
  have tk : L2N.Takes (cxOf (L2N.CX P w) P w K mg base ["_law_cell_here", "_law_k", "_law_salt", "_law_primes", "_law_one", "_law_two"] "_law_mixed" (defScope s_lmixed) f cdv A outer s H E) (fun cls d _ H => E cls d H) := L2N.takes_of rfl rfl rfl rfl
  have pn : PassesOwn (model P w) (cxOf (L2N.CX P w) P w K mg base ["_law_cell_here", "_law_k", "_law_salt", "_law_primes", "_law_one", "_law_two"] "_law_mixed" (defScope s_lmixed) f cdv A outer s H E).A (cxOf (L2N.CX P w) P w K mg base ["_law_cell_here", "_law_k", "_law_salt", "_law_primes", "_law_one", "_law_two"] "_law_mixed" (defScope s_lmixed) f cdv A outer s H E).env (cxOf (L2N.CX P w) P w K mg base ["_law_cell_here", "_law_k", "_law_salt", "_law_primes", "_law_one", "_law_two"] "_law_mixed" (defScope s_lmixed) f cdv A outer s H E).xe := passes_of rfl
  unfold m_lmixed
  exact mss_cons (ms_set (i := 3) nd rfl (.inl v_lmixed_3) (me_lst (ma_cons (me_int) (ma_cons (me_int) (ma_cons (me_int) (ma_cons (me_int) (ma_cons (me_int) (ma_cons (me_int) (ma_cons (me_int) (ma_cons (me_int) (ma_nil))))))))))) (mss_cons (ms_set (i := 4) nd rfl (.inl v_lmixed_4) (me_mod (me_add (me_add (me_add (me_var (i := 0) rfl (.inl v_lmixed_0)) (me_mul (me_int) (me_var (i := 2) rfl (.inl v_lmixed_2)))) (me_mul (me_int) (me_var (i := 1) rfl (.inl v_lmixed_1)))) (me_int)) (me_int))) (mss_cons (ms_set (i := 4) nd rfl (.inl v_lmixed_4) (me_mod (me_pow (me_var (i := 4) rfl (.inl v_lmixed_4)) (me_int)) (me_ix (me_var (i := 3) rfl (.inl v_lmixed_3)) (me_mod (me_var (i := 1) rfl (.inl v_lmixed_1)) (me_int))))) (mss_cons (ms_set (i := 5) nd rfl (.inl v_lmixed_5) (me_mod (me_add (me_add (me_var (i := 4) rfl (.inl v_lmixed_4)) (me_mul (me_int) (me_var (i := 2) rfl (.inl v_lmixed_2)))) (me_var (i := 1) rfl (.inl v_lmixed_1))) (me_int))) (mss_one (ms_ret (me_add (me_mul (me_mod (me_pow (me_var (i := 5) rfl (.inl v_lmixed_5)) (me_int)) (me_int)) (me_int)) (me_var (i := 4) rfl (.inl v_lmixed_4))))))))

abbrev s_ldraws : Stmt := top 60
theorem sc_ldraws : FnScope ["_law_cell_here", "_law_salt", "_law_widths", "_law_found", "_law_left", "_law_k"] ["_law_cell_here", "_law_salt", "_law_widths"] (defScope s_ldraws) := ⟨rfl, rfl, rfl, by decide +kernel, rfl, by decide +kernel, by decide +kernel⟩
theorem v_ldraws_0 : (defScope s_ldraws).names.lookup ("_law_cell_here" : Str) = some NameKind.local := by decide +kernel
theorem v_ldraws_1 : (defScope s_ldraws).names.lookup ("_law_salt" : Str) = some NameKind.local := by decide +kernel
theorem v_ldraws_2 : (defScope s_ldraws).names.lookup ("_law_widths" : Str) = some NameKind.local := by decide +kernel
theorem v_ldraws_3 : (defScope s_ldraws).names.lookup ("_law_found" : Str) = some NameKind.local := by decide +kernel
theorem v_ldraws_4 : (defScope s_ldraws).names.lookup ("_law_left" : Str) = some NameKind.local := by decide +kernel
theorem v_ldraws_5 : (defScope s_ldraws).names.lookup ("_law_k" : Str) = some NameKind.local := by decide +kernel
theorem g_ldraws_abs (L a : Addr) (cd : Value) : (PyProof.Rows.envOfC "_law_draws" (defScope s_ldraws) L a cd).kindOf ("abs" : Str) = some NameKind.globalImplicit := rfl
theorem g_ldraws_len (L a : Addr) (cd : Value) : (PyProof.Rows.envOfC "_law_draws" (defScope s_ldraws) L a cd).kindOf ("len" : Str) = some NameKind.globalImplicit := rfl
theorem g_ldraws_range (L a : Addr) (cd : Value) : (PyProof.Rows.envOfC "_law_draws" (defScope s_ldraws) L a cd).kindOf ("range" : Str) = some NameKind.globalImplicit := rfl
theorem g_ldraws_law_mixed (L a : Addr) (cd : Value) : (PyProof.Rows.envOfC "_law_draws" (defScope s_ldraws) L a cd).kindOf ("_law_mixed" : Str) = some NameKind.globalImplicit := rfl
theorem ok_ldraws {P : Program} {w : World} {K : PySem.W.Frag} {mg : Str → Option Value} {base : Heap} {f : Addr} {fd : FuncData} (F : Fun K "_law_draws" "_law_draws" s_ldraws f fd) (B : Bn mg) (h_lmixed : Fd P w K mg base "_law_mixed" 2 ["_law_cell_here", "_law_k", "_law_salt"] [] f_lmixed)    :
    FnOk P w K mg base (L2N.CX P w) 4 f fd ["_law_cell_here", "_law_salt", "_law_widths"] (spF K mg 3 [] f_ldraws) := by
  refine fn_ok F sc_ldraws (by decide) (by decide) fun cdv A outer s H E hr => ?_
  have nd := sc_ldraws.nd
  have tk : L2N.Takes (cxOf (L2N.CX P w) P w K mg base ["_law_cell_here", "_law_salt", "_law_widths", "_law_found", "_law_left", "_law_k"] "_law_draws" (defScope s_ldraws) f cdv A outer s H E) (fun cls d _ H => E cls d H) := L2N.takes_of rfl rfl rfl rfl
  have pn : PassesOwn (model P w) (cxOf (L2N.CX P w) P w K mg base ["_law_cell_here", "_law_salt", "_law_widths", "_law_found", "_law_left", "_law_k"] "_law_draws" (defScope s_ldraws) f cdv A outer s H E).A (cxOf (L2N.CX P w) P w K mg base ["_law_cell_here", "_law_salt", "_law_widths", "_law_found", "_law_left", "_law_k"] "_law_draws" (defScope s_ldraws) f cdv A outer s H E).env (cxOf (L2N.CX P w) P w K mg base ["_law_cell_here", "_law_salt", "_law_widths", "_law_found", "_law_left", "_law_k"] "_law_draws" (defScope s_ldraws) f cdv A outer s H E).xe := passes_of rfl
  unfold m_ldraws
  exact mss_cons (ms_setO (i := 3) nd rfl (.inl v_ldraws_3) (mo_lst (ma_nil))) (mss_cons (ms_set (i := 4) nd rfl (.inl v_ldraws_4) (me_int)) (mss_cons (ms_if (mt_cmp op_ge os_ge (mb_abs B.abs (ma_cons (me_var (i := 0) rfl (.inl v_ldraws_0)) (ma_nil)) (hg := (g_ldraws_abs _ _ _))) (me_pow (me_int) (me_int)) (nomark _)) (mss_one (ms_set (i := 4) nd rfl (.inl v_ldraws_4) (mb_abs B.abs (ma_cons (me_var (i := 0) rfl (.inl v_ldraws_0)) (ma_nil)) (hg := (g_ldraws_abs _ _ _))))) (mss_nil)) (mss_cons (ms_for pn rfl (mi_r1 B.range (ma_cons (mb_len B.len (ma_cons (me_var (i := 2) rfl (.inl v_ldraws_2)) (ma_nil)) (hg := (g_ldraws_len _ _ _))) (ma_nil)) (hg := (g_ldraws_range _ _ _))) (mg_name (i := 5) nd rfl (.inl v_ldraws_5)) (mss_one (ms_if (mt_cmp op_gt os_gt (me_var (i := 4) rfl (.inl v_ldraws_4)) (me_int) (nomark _)) (mss_cons (ms_expr (me_lm1 ls_append PySem.F.slot_list_append PySem.F.type_list_append mt_append (i := 3) rfl (.inl v_ldraws_3) (ma_cons (me_mod (me_var (i := 4) rfl (.inl v_ldraws_4)) (me_ix (me_var (i := 2) rfl (.inl v_ldraws_2)) (me_var (i := 5) rfl (.inl v_ldraws_5)))) (ma_nil)))) (mss_one (ms_set (i := 4) nd rfl (.inl v_ldraws_4) (me_div (me_var (i := 4) rfl (.inl v_ldraws_4)) (me_ix (me_var (i := 2) rfl (.inl v_ldraws_2)) (me_var (i := 5) rfl (.inl v_ldraws_5))))))) (mss_one (ms_expr (me_lm1 ls_append PySem.F.slot_list_append PySem.F.type_list_append mt_append (i := 3) rfl (.inl v_ldraws_3) (ma_cons (me_mod (me_fz (mf_call h_lmixed hr (by decide) tk (ma_cons (me_var (i := 0) rfl (.inl v_ldraws_0)) (ma_cons (me_var (i := 5) rfl (.inl v_ldraws_5)) (ma_cons (me_var (i := 1) rfl (.inl v_ldraws_1)) (ma_nil)))) (lng_cons (lng_cons (lng_cons lng_nil))) (hg := (g_ldraws_law_mixed _ _ _)))) (me_ix (me_var (i := 2) rfl (.inl v_ldraws_2)) (me_var (i := 5) rfl (.inl v_ldraws_5)))) (ma_nil)))))))) (mss_one (ms_retO (mo_var (i := 3) rfl (.inl v_ldraws_3)))))))

abbrev s_lform : Stmt := top 61
theorem sc_lform : FnScope ["_law_kind", "_law_many", "_law_sign", "_law_point"] ["_law_kind", "_law_many", "_law_sign"] (defScope s_lform) := ⟨rfl, rfl, rfl, by decide +kernel, rfl, by decide +kernel, by decide +kernel⟩
theorem v_lform_0 : (defScope s_lform).names.lookup ("_law_kind" : Str) = some NameKind.local := by decide +kernel
theorem v_lform_1 : (defScope s_lform).names.lookup ("_law_many" : Str) = some NameKind.local := by decide +kernel
theorem v_lform_2 : (defScope s_lform).names.lookup ("_law_sign" : Str) = some NameKind.local := by decide +kernel
theorem v_lform_3 : (defScope s_lform).names.lookup ("_law_point" : Str) = some NameKind.local := by decide +kernel
theorem ok_lform {P : Program} {w : World} {K : PySem.W.Frag} {mg : Str → Option Value} {base : Heap} {f : Addr} {fd : FuncData} (F : Fun K "_law_form" "_law_form" s_lform f fd) (B : Bn mg)     :
    FnOk P w K mg base (L2N.CX P w) 2 f fd ["_law_kind", "_law_many", "_law_sign"] (spF K mg 3 [] f_lform) := by
  refine fn_ok F sc_lform (by decide) (by decide) fun cdv A outer s H E hr => ?_
  have nd := sc_lform.nd
  have tk : L2N.Takes (cxOf (L2N.CX P w) P w K mg base ["_law_kind", "_law_many", "_law_sign", "_law_point"] "_law_form" (defScope s_lform) f cdv A outer s H E) (fun cls d _ H => E cls d H) := L2N.takes_of rfl rfl rfl rfl
  have pn : PassesOwn (model P w) (cxOf (L2N.CX P w) P w K mg base ["_law_kind", "_law_many", "_law_sign", "_law_point"] "_law_form" (defScope s_lform) f cdv A outer s H E).A (cxOf (L2N.CX P w) P w K mg base ["_law_kind", "_law_many", "_law_sign", "_law_point"] "_law_form" (defScope s_lform) f cdv A outer s H E).env (cxOf (L2N.CX P w) P w K mg base ["_law_kind", "_law_many", "_law_sign", "_law_point"] "_law_form" (defScope s_lform) f cdv A outer s H E).xe := passes_of rfl
  unfold m_lform
  exact mss_cons (ms_set (i := 3) nd rfl (.inl v_lform_3) (me_mod (me_add (me_add (me_mul (me_int) (me_var (i := 1) rfl (.inl v_lform_1))) (me_mul (me_int) (me_var (i := 0) rfl (.inl v_lform_0)))) (me_var (i := 2) rfl (.inl v_lform_2))) (me_add (me_var (i := 1) rfl (.inl v_lform_1)) (me_int)))) (mss_one (ms_ret (me_tup (ma_cons (me_ix (me_lst (ma_cons (me_str) (ma_cons (me_str) (ma_nil)))) (me_var (i := 0) rfl (.inl v_lform_0))) (ma_cons (me_add (me_int) (me_var (i := 1) rfl (.inl v_lform_1))) (ma_cons (me_ix (me_lst (ma_cons (me_str) (ma_cons (me_str) (ma_cons (me_str) (ma_nil))))) (me_var (i := 2) rfl (.inl v_lform_2))) (ma_cons (me_var (i := 3) rfl (.inl v_lform_3)) (ma_nil))))))))

abbrev s_pBuilder_program : Stmt := inCls (top 18) 9
theorem sc_pBuilder_program : FnScope ["self"] ["self"] (defScope s_pBuilder_program) := ⟨rfl, rfl, rfl, by decide +kernel, rfl, by decide +kernel, by decide +kernel⟩
theorem v_pBuilder_program_0 : (defScope s_pBuilder_program).names.lookup ("self" : Str) = some NameKind.local := by decide +kernel
theorem g_pBuilder_program_tuple (L a : Addr) (cd : Value) : (PyProof.Rows.envOfC "Builder.program" (defScope s_pBuilder_program) L a cd).kindOf ("tuple" : Str) = some NameKind.globalImplicit := rfl
theorem ok_pBuilder_program {P : Program} {w : World} {K : PySem.W.Frag} {mg : Str → Option Value} {base : Heap} {f : Addr} {fd : FuncData} (F : Fun K "program" "Builder.program" s_pBuilder_program f fd) (B : Bn mg)  (oobc_Builder : ObC K "Builder" ["rows", "tables", "worths", "free"])   :
    FnOk P w K mg base (L2N.CX P w) 2 f fd ["self"] (spF K mg 1 [0] f_pBuilder_program) := by
  refine fn_ok F sc_pBuilder_program (by decide) (by decide) fun cdv A outer s H E hr => ?_
  have nd := sc_pBuilder_program.nd
  have tk : L2N.Takes (cxOf (L2N.CX P w) P w K mg base ["self"] "Builder.program" (defScope s_pBuilder_program) f cdv A outer s H E) (fun cls d _ H => E cls d H) := L2N.takes_of rfl rfl rfl rfl
  have pn : PassesOwn (model P w) (cxOf (L2N.CX P w) P w K mg base ["self"] "Builder.program" (defScope s_pBuilder_program) f cdv A outer s H E).A (cxOf (L2N.CX P w) P w K mg base ["self"] "Builder.program" (defScope s_pBuilder_program) f cdv A outer s H E).env (cxOf (L2N.CX P w) P w K mg base ["self"] "Builder.program" (defScope s_pBuilder_program) f cdv A outer s H E).xe := passes_of rfl
  unfold m_pBuilder_program
  exact mss_one (ms_ret (me_tup (ma_cons (mb_tuple B.tuple (ma_cons (me_fld oobc_Builder (by decide) (i := 0) rfl (.inl v_pBuilder_program_0)) (ma_nil)) (hg := (g_pBuilder_program_tuple _ _ _))) (ma_cons (mb_tuple B.tuple (ma_cons (me_fld oobc_Builder (by decide) (i := 0) rfl (.inl v_pBuilder_program_0)) (ma_nil)) (hg := (g_pBuilder_program_tuple _ _ _))) (ma_nil)))))

abbrev s_pBuilder_cell : Stmt := inCls (top 18) 1
theorem sc_pBuilder_cell : FnScope ["self"] ["self"] (defScope s_pBuilder_cell) := ⟨rfl, rfl, rfl, by decide +kernel, rfl, by decide +kernel, by decide +kernel⟩
theorem v_pBuilder_cell_0 : (defScope s_pBuilder_cell).names.lookup ("self" : Str) = some NameKind.local := by decide +kernel
theorem ok_pBuilder_cell {P : Program} {w : World} {K : PySem.W.Frag} {mg : Str → Option Value} {base : Heap} {f : Addr} {fd : FuncData} (F : Fun K "cell" "Builder.cell" s_pBuilder_cell f fd) (B : Bn mg)  (oobc_Builder : ObC K "Builder" ["rows", "tables", "worths", "free"])   :
    FnOk P w K mg base (L2N.CX P w) 2 f fd ["self"] (spF K mg 1 [0] f_pBuilder_cell) := by
  refine fn_ok F sc_pBuilder_cell (by decide) (by decide) fun cdv A outer s H E hr => ?_
  have nd := sc_pBuilder_cell.nd
  have tk : L2N.Takes (cxOf (L2N.CX P w) P w K mg base ["self"] "Builder.cell" (defScope s_pBuilder_cell) f cdv A outer s H E) (fun cls d _ H => E cls d H) := L2N.takes_of rfl rfl rfl rfl
  have pn : PassesOwn (model P w) (cxOf (L2N.CX P w) P w K mg base ["self"] "Builder.cell" (defScope s_pBuilder_cell) f cdv A outer s H E).A (cxOf (L2N.CX P w) P w K mg base ["self"] "Builder.cell" (defScope s_pBuilder_cell) f cdv A outer s H E).env (cxOf (L2N.CX P w) P w K mg base ["self"] "Builder.cell" (defScope s_pBuilder_cell) f cdv A outer s H E).xe := passes_of rfl
  unfold m_pBuilder_cell
  exact mss_cons (ms_fldAug oobc_Builder (by decide) (i := 0) rfl (.inl v_pBuilder_cell_0) (me_int)) (mss_one (ms_ret (me_sub (me_fld oobc_Builder (by decide) (i := 0) rfl (.inl v_pBuilder_cell_0)) (me_int))))
theorem okx_pBuilder_cell {P : Program} {w : World} {K : PySem.W.Frag} {mg : Str → Option Value} {base : Heap} {f : Addr} {fd : FuncData} (F : Fun K "cell" "Builder.cell" s_pBuilder_cell f fd) (oobc_Builder : ObC K "Builder" ["rows", "tables", "worths", "free"]) : FnOk P w K mg base (L2N.CX P w) 2 f fd ["self"] (spCellX K "Builder") := by
  refine okXN F (k := 1) sc_pBuilder_cell (fun vs H Q E h => by obtain ⟨p, CA, dx, vfs, n, rfl, _⟩ := h; rfl) (fun cdv A outer s H vs Q E hr h => ?_)
  obtain ⟨t, h1, h2⟩ : ∃ t, PSs (cxOf (L2N.CX P w) P w K mg base ["self"] "Builder.cell" (defScope s_pBuilder_cell) f cdv A outer s H E) (defBody s_pBuilder_cell) t ∧ ∀ (vs : List V) (H : Hp) (Q : VK) (E : XK) (D : Ends) (σ : St), D.rt = Q → σ[0]? = vs[0]?.map some → spCellX K "Builder" vs H Q E → t D σ H := rx_cell (X := cxOf (L2N.CX P w) P w K mg base ["self"] "Builder.cell" (defScope s_pBuilder_cell) f cdv A outer s H E) oobc_Builder (by decide) rfl (.inl v_pBuilder_cell_0)
  exact ⟨t, h1, h2 vs H Q E _ _ rfl (start_get (by obtain ⟨p, CA, dx, vfs, n, rfl, _⟩ := h; exact Nat.zero_lt_one)) h⟩

abbrev s_pBuilder_row : Stmt := inCls (top 18) 3
theorem sc_pBuilder_row : FnScope ["self", "word", "one", "other"] ["self", "word", "one", "other"] (defScope s_pBuilder_row) := ⟨rfl, rfl, rfl, by decide +kernel, rfl, by decide +kernel, by decide +kernel⟩
theorem v_pBuilder_row_0 : (defScope s_pBuilder_row).names.lookup ("self" : Str) = some NameKind.local := by decide +kernel
theorem v_pBuilder_row_1 : (defScope s_pBuilder_row).names.lookup ("word" : Str) = some NameKind.local := by decide +kernel
theorem v_pBuilder_row_2 : (defScope s_pBuilder_row).names.lookup ("one" : Str) = some NameKind.local := by decide +kernel
theorem v_pBuilder_row_3 : (defScope s_pBuilder_row).names.lookup ("other" : Str) = some NameKind.local := by decide +kernel
theorem ok_pBuilder_row {P : Program} {w : World} {K : PySem.W.Frag} {mg : Str → Option Value} {base : Heap} {f : Addr} {fd : FuncData} (F : Fun K "row" "Builder.row" s_pBuilder_row f fd) (B : Bn mg)  (oobc_Builder : ObC K "Builder" ["rows", "tables", "worths", "free"])   :
    FnOk P w K mg base (L2N.CX P w) 2 f fd ["self", "word", "one", "other"] (spF K mg 4 [0] f_pBuilder_row) := by
  refine fn_ok F sc_pBuilder_row (by decide) (by decide) fun cdv A outer s H E hr => ?_
  have nd := sc_pBuilder_row.nd
  have tk : L2N.Takes (cxOf (L2N.CX P w) P w K mg base ["self", "word", "one", "other"] "Builder.row" (defScope s_pBuilder_row) f cdv A outer s H E) (fun cls d _ H => E cls d H) := L2N.takes_of rfl rfl rfl rfl
  have pn : PassesOwn (model P w) (cxOf (L2N.CX P w) P w K mg base ["self", "word", "one", "other"] "Builder.row" (defScope s_pBuilder_row) f cdv A outer s H E).A (cxOf (L2N.CX P w) P w K mg base ["self", "word", "one", "other"] "Builder.row" (defScope s_pBuilder_row) f cdv A outer s H E).env (cxOf (L2N.CX P w) P w K mg base ["self", "word", "one", "other"] "Builder.row" (defScope s_pBuilder_row) f cdv A outer s H E).xe := passes_of rfl
  unfold m_pBuilder_row
  exact mss_one (ms_expr (me_fldLm ls_append PySem.F.slot_list_append PySem.F.type_list_append mt_append oobc_Builder (by decide) (i := 0) rfl (.inl v_pBuilder_row_0) (pxs_cons (px_tup (pxs_cons (px_var (i := 1) rfl (.inl v_pBuilder_row_1)) (pxs_cons (px_var (i := 2) rfl (.inl v_pBuilder_row_2)) (pxs_cons (px_var (i := 3) rfl (.inl v_pBuilder_row_3)) (pxs_nil))))) (pxs_nil))))
theorem okx_pBuilder_row {P : Program} {w : World} {K : PySem.W.Frag} {mg : Str → Option Value} {base : Heap} {f : Addr} {fd : FuncData} (F : Fun K "row" "Builder.row" s_pBuilder_row f fd) (oobc_Builder : ObC K "Builder" ["rows", "tables", "worths", "free"]) : FnOk P w K mg base (L2N.CX P w) 2 f fd ["self", "word", "one", "other"] (spRowX K "Builder") := by
  refine okXN F (k := 1) sc_pBuilder_row (fun vs H Q E h => by obtain ⟨p, CA, dx, r, vfs, a, b, d, xs, rfl, _⟩ := h; rfl) (fun cdv A outer s H vs Q E hr h => ?_)
  obtain ⟨t, h1, h2⟩ : ∃ t, PSs (cxOf (L2N.CX P w) P w K mg base ["self", "word", "one", "other"] "Builder.row" (defScope s_pBuilder_row) f cdv A outer s H E) (defBody s_pBuilder_row) t ∧ ∀ (vs : List V) (H : Hp) (Q : VK) (E : XK) (D : Ends) (σ : St), D.nx = (fun _ H' => Q .non H') → (∀ i : Nat, i < 4 → σ[i]? = vs[i]?.map some) → spRowX K "Builder" vs H Q E → t D σ H := rx_row (X := cxOf (L2N.CX P w) P w K mg base ["self", "word", "one", "other"] "Builder.row" (defScope s_pBuilder_row) f cdv A outer s H E) oobc_Builder (by decide) rfl (.inl v_pBuilder_row_0) rfl (.inl v_pBuilder_row_1) rfl (.inl v_pBuilder_row_2) rfl (.inl v_pBuilder_row_3)
  exact ⟨t, h1, h2 vs H Q E _ _ rfl (fun i hi => start_get (by obtain ⟨p, CA, dx, r, vfs, a, b, d, xs, rfl, _⟩ := h; exact hi)) h⟩

abbrev s_pBuilder_copied : Stmt := inCls (top 18) 5
theorem sc_pBuilder_copied : FnScope ["self", "cell", "new"] ["self", "cell"] (defScope s_pBuilder_copied) := ⟨rfl, rfl, rfl, by decide +kernel, rfl, by decide +kernel, by decide +kernel⟩
theorem v_pBuilder_copied_0 : (defScope s_pBuilder_copied).names.lookup ("self" : Str) = some NameKind.local := by decide +kernel
theorem v_pBuilder_copied_1 : (defScope s_pBuilder_copied).names.lookup ("cell" : Str) = some NameKind.local := by decide +kernel
theorem v_pBuilder_copied_2 : (defScope s_pBuilder_copied).names.lookup ("new" : Str) = some NameKind.local := by decide +kernel
theorem ok_pBuilder_copied {P : Program} {w : World} {K : PySem.W.Frag} {mg : Str → Option Value} {base : Heap} {f : Addr} {fd : FuncData} (F : Fun K "copied" "Builder.copied" s_pBuilder_copied f fd) (B : Bn mg) (h_pBuilder_cell : ObM P w K mg base "Builder" "cell" 2 ["self"] [0] f_pBuilder_cell) (h_pBuilder_row : ObM P w K mg base "Builder" "row" 2 ["self", "word", "one", "other"] [0] f_pBuilder_row)    :
    FnOk P w K mg base (L2N.CX P w) 4 f fd ["self", "cell"] (spF K mg 2 [0] f_pBuilder_copied) := by
  refine fn_ok F sc_pBuilder_copied (by decide) (by decide) fun cdv A outer s H E hr => ?_
  have nd := sc_pBuilder_copied.nd
  have tk : L2N.Takes (cxOf (L2N.CX P w) P w K mg base ["self", "cell", "new"] "Builder.copied" (defScope s_pBuilder_copied) f cdv A outer s H E) (fun cls d _ H => E cls d H) := L2N.takes_of rfl rfl rfl rfl
  have pn : PassesOwn (model P w) (cxOf (L2N.CX P w) P w K mg base ["self", "cell", "new"] "Builder.copied" (defScope s_pBuilder_copied) f cdv A outer s H E).A (cxOf (L2N.CX P w) P w K mg base ["self", "cell", "new"] "Builder.copied" (defScope s_pBuilder_copied) f cdv A outer s H E).env (cxOf (L2N.CX P w) P w K mg base ["self", "cell", "new"] "Builder.copied" (defScope s_pBuilder_copied) f cdv A outer s H E).xe := passes_of rfl
  unfold m_pBuilder_copied
  exact mss_cons (ms_set (i := 2) nd rfl (.inl v_pBuilder_copied_2) (me_fz (mo_meth0 h_pBuilder_cell rfl rfl hr (by decide) tk (i := 0) rfl (.inl v_pBuilder_copied_0)))) (mss_cons (ms_expr (me_fz (mo_meth hr (by decide) tk (i := 0) rfl (.inl v_pBuilder_copied_0) (pb_v (me_str) (pb_v (me_var (i := 2) rfl (.inl v_pBuilder_copied_2)) (pb_v (me_var (i := 1) rfl (.inl v_pBuilder_copied_1)) (pb_nil)))) (bsh_v (bsh_v (bsh_v (bsh_nil)))) rfl rfl h_pBuilder_row))) (mss_one (ms_ret (me_var (i := 2) rfl (.inl v_pBuilder_copied_2)))))
theorem okx_pBuilder_copied {P : Program} {w : World} {K : PySem.W.Frag} {mg : Str → Option Value} {base : Heap} {f : Addr} {fd : FuncData} (F : Fun K "copied" "Builder.copied" s_pBuilder_copied f fd) (oobc_Builder : ObC K "Builder" ["rows", "tables", "worths", "free"]) (h1 : ObX P w K mg base "Builder" "cell" 2 ["self"] (spCellX K "Builder")) (h2 : ObX P w K mg base "Builder" "row" 2 ["self", "word", "one", "other"] (spRowX K "Builder")) : FnOk P w K mg base (L2N.CX P w) 4 f fd ["self", "cell"] (spCopX K "Builder") := by
  refine okXN F (k := 3) sc_pBuilder_copied (fun vs H Q E h => by obtain ⟨p, CA, dx, r, vfs, d, n, xs, rfl, _⟩ := h; rfl) (fun cdv A outer s H vs Q E hr h => ?_)
  obtain ⟨t, h1, h2⟩ : ∃ t, PSs (cxOf (L2N.CX P w) P w K mg base ["self", "cell", "new"] "Builder.copied" (defScope s_pBuilder_copied) f cdv A outer s H E) (defBody s_pBuilder_copied) t ∧ ∀ (vs : List V) (H : Hp) (Q : VK) (E : XK) (D : Ends) (σ : St), D.rt = Q → σ.length = 3 → (∀ i : Nat, i < 2 → σ[i]? = vs[i]?.map some) → spCopX K "Builder" vs H Q E → t D σ H := rx_cop (X := cxOf (L2N.CX P w) P w K mg base ["self", "cell", "new"] "Builder.copied" (defScope s_pBuilder_copied) f cdv A outer s H E) h1 h2 hr (by decide) sc_pBuilder_copied.nd rfl (.inl v_pBuilder_copied_0) rfl (.inl v_pBuilder_copied_1) rfl (.inl v_pBuilder_copied_2) (.inl v_pBuilder_copied_2) rfl
  exact ⟨t, h1, h2 vs H Q E _ _ rfl (by obtain ⟨p, CA, dx, r, vfs, d, n, xs, rfl, _⟩ := h; rfl) (fun i hi => start_get (by obtain ⟨p, CA, dx, r, vfs, d, n, xs, rfl, _⟩ := h; exact hi)) h⟩

abbrev s_pBuilder_ended : Stmt := inCls (top 18) 8
theorem sc_pBuilder_ended : FnScope ["self", "cell"] ["self", "cell"] (defScope s_pBuilder_ended) := ⟨rfl, rfl, rfl, by decide +kernel, rfl, by decide +kernel, by decide +kernel⟩
theorem v_pBuilder_ended_0 : (defScope s_pBuilder_ended).names.lookup ("self" : Str) = some NameKind.local := by decide +kernel
theorem v_pBuilder_ended_1 : (defScope s_pBuilder_ended).names.lookup ("cell" : Str) = some NameKind.local := by decide +kernel
theorem ok_pBuilder_ended {P : Program} {w : World} {K : PySem.W.Frag} {mg : Str → Option Value} {base : Heap} {f : Addr} {fd : FuncData} (F : Fun K "ended" "Builder.ended" s_pBuilder_ended f fd) (B : Bn mg) (h_pBuilder_cell : ObM P w K mg base "Builder" "cell" 2 ["self"] [0] f_pBuilder_cell) (h_pBuilder_row : ObM P w K mg base "Builder" "row" 2 ["self", "word", "one", "other"] [0] f_pBuilder_row) (h_pBuilder_copied : ObM P w K mg base "Builder" "copied" 4 ["self", "cell"] [0] f_pBuilder_copied) (h_pBuilder_program : ObM P w K mg base "Builder" "program" 2 ["self"] [0] f_pBuilder_program) (oobc_Builder : ObC K "Builder" ["rows", "tables", "worths", "free"]) (oobx_Builder_copied : ObX P w K mg base "Builder" "copied" 4 ["self", "cell"] (spCopX K "Builder"))   :
    FnOk P w K mg base (L2N.CX P w) 6 f fd ["self", "cell"] (spF K mg 2 [0] f_pBuilder_ended) := by
  refine fn_ok F sc_pBuilder_ended (by decide) (by decide) fun cdv A outer s H E hr => ?_
  have nd := sc_pBuilder_ended.nd
  have tk : L2N.Takes (cxOf (L2N.CX P w) P w K mg base ["self", "cell"] "Builder.ended" (defScope s_pBuilder_ended) f cdv A outer s H E) (fun cls d _ H => E cls d H) := L2N.takes_of rfl rfl rfl rfl
  have pn : PassesOwn (model P w) (cxOf (L2N.CX P w) P w K mg base ["self", "cell"] "Builder.ended" (defScope s_pBuilder_ended) f cdv A outer s H E).A (cxOf (L2N.CX P w) P w K mg base ["self", "cell"] "Builder.ended" (defScope s_pBuilder_ended) f cdv A outer s H E).env (cxOf (L2N.CX P w) P w K mg base ["self", "cell"] "Builder.ended" (defScope s_pBuilder_ended) f cdv A outer s H E).xe := passes_of rfl
  unfold m_pBuilder_ended
  exact mss_cons (ms_end1 oobc_Builder (by decide) oobx_Builder_copied hr (by decide) rfl (.inl v_pBuilder_ended_0) rfl (.inl v_pBuilder_ended_1)) (mss_one (ms_ret (me_fz (mo_meth0 h_pBuilder_program rfl rfl hr (by decide) tk (i := 0) rfl (.inl v_pBuilder_ended_0)))))

abbrev s_pBuilder_init : Stmt := inCls (top 18) 0
theorem sc_pBuilder_init : FnScope ["self"] ["self"] (defScope s_pBuilder_init) := ⟨rfl, rfl, rfl, by decide +kernel, rfl, by decide +kernel, by decide +kernel⟩
theorem v_pBuilder_init_0 : (defScope s_pBuilder_init).names.lookup ("self" : Str) = some NameKind.local := by decide +kernel
theorem g_pBuilder_init_FIRST_FREE (L a : Addr) (cd : Value) : (PyProof.Rows.envOfC "Builder.__init__" (defScope s_pBuilder_init) L a cd).kindOf ("FIRST_FREE" : Str) = some NameKind.globalImplicit := rfl
theorem ok_pBuilder_init {P : Program} {w : World} {K : PySem.W.Frag} {mg : Str → Option Value} {base : Heap} {f : Addr} {fd : FuncData} (F : Fun K "__init__" "Builder.__init__" s_pBuilder_init f fd) (B : Bn mg)  (oobc_Builder : ObC K "Builder" ["rows", "tables", "worths", "free"])  (c_FIRST_FREE : Cst K mg "FIRST_FREE" (.int 32)) :
    FnOk P w K mg base (L2N.CX P w) 2 f fd ["self"] (spF K mg 1 [0] f_pBuilder_init) := by
  refine fn_ok F sc_pBuilder_init (by decide) (by decide) fun cdv A outer s H E hr => ?_
  have nd := sc_pBuilder_init.nd
  have tk : L2N.Takes (cxOf (L2N.CX P w) P w K mg base ["self"] "Builder.__init__" (defScope s_pBuilder_init) f cdv A outer s H E) (fun cls d _ H => E cls d H) := L2N.takes_of rfl rfl rfl rfl
  have pn : PassesOwn (model P w) (cxOf (L2N.CX P w) P w K mg base ["self"] "Builder.__init__" (defScope s_pBuilder_init) f cdv A outer s H E).A (cxOf (L2N.CX P w) P w K mg base ["self"] "Builder.__init__" (defScope s_pBuilder_init) f cdv A outer s H E).env (cxOf (L2N.CX P w) P w K mg base ["self"] "Builder.__init__" (defScope s_pBuilder_init) f cdv A outer s H E).xe := passes_of rfl
  unfold m_pBuilder_init
  exact mss_cons (ms_fldNil oobc_Builder (by decide) (i := 0) rfl (.inl v_pBuilder_init_0)) (mss_cons (ms_fldNil oobc_Builder (by decide) (i := 0) rfl (.inl v_pBuilder_init_0)) (mss_cons (ms_fldNil oobc_Builder (by decide) (i := 0) rfl (.inl v_pBuilder_init_0)) (mss_one (ms_fldSet oobc_Builder (by decide) (i := 0) rfl (.inl v_pBuilder_init_0) (mf_con c_FIRST_FREE (hg := (g_pBuilder_init_FIRST_FREE _ _ _)))))))

abbrev s_ptable_of : Stmt := top 15
theorem sc_ptable_of : FnScope ["worth", "byte"] ["worth"] (defScope s_ptable_of) := ⟨rfl, rfl, rfl, by decide +kernel, rfl, by decide +kernel, by decide +kernel⟩
theorem v_ptable_of_0 : (defScope s_ptable_of).names.lookup ("worth" : Str) = some NameKind.cell := by decide +kernel
theorem g_ptable_of_range (L a : Addr) (cd : Value) : (PyProof.Rows.envOfC "table_of" (defScope s_ptable_of) L a cd).kindOf ("range" : Str) = some NameKind.globalImplicit := rfl
theorem g_ptable_of_tuple (L a : Addr) (cd : Value) : (PyProof.Rows.envOfC "table_of" (defScope s_ptable_of) L a cd).kindOf ("tuple" : Str) = some NameKind.globalImplicit := rfl
theorem ok_ptable_of {P : Program} {w : World} {K : PySem.W.Frag} {mg : Str → Option Value} {base : Heap} {f : Addr} {fd : FuncData} (F : Fun K "table_of" "table_of" s_ptable_of f fd) (B : Bn mg)  (ofnt : FnT P w K mg base fnTab)   :
    FnOk P w K mg base (L2N.CX P w) 4 f fd ["worth"] (spF K mg 1 [] f_ptable_of) := by
  refine fn_ok F sc_ptable_of (by decide) (by decide) fun cdv A outer s H E hr => ?_
  have nd := sc_ptable_of.nd
  have tk : L2N.Takes (cxOf (L2N.CX P w) P w K mg base ["worth", "byte"] "table_of" (defScope s_ptable_of) f cdv A outer s H E) (fun cls d _ H => E cls d H) := L2N.takes_of rfl rfl rfl rfl
  have pn : PassesOwn (model P w) (cxOf (L2N.CX P w) P w K mg base ["worth", "byte"] "table_of" (defScope s_ptable_of) f cdv A outer s H E).A (cxOf (L2N.CX P w) P w K mg base ["worth", "byte"] "table_of" (defScope s_ptable_of) f cdv A outer s H E).env (cxOf (L2N.CX P w) P w K mg base ["worth", "byte"] "table_of" (defScope s_ptable_of) f cdv A outer s H E).xe := passes_of rfl
  unfold m_ptable_of
  exact mss_one (ms_ret (mb_tuple B.tuple (ma_cons (me_fz (mo_lc (own := [("byte", 1)]) (g := .nm 1) rfl nd (mi_r1 B.range (ma_cons (me_int) (ma_nil)) (hg := (g_ptable_of_range _ _ _))) (blkOk_at (N' := ["worth", "byte"]) (sc' := defScope s_ptable_of) rfl rfl (by decide +kernel)) (fun _ _ _ _ _ => pg_name (i := 1) nd rfl (Or.inl rfl)) (fun _ _ _ _ _ => mts_nil) (fun _ _ _ _ _ => me_fz (mo_callV ofnt hr (by decide) (i := 0) rfl (by first | exact .inr (.inr rfl) | exact .inl rfl | exact .inr (.inl rfl)) (ma_cons (me_var (i := 1) rfl (.inl rfl)) (ma_nil)) (lng_cons lng_nil))) (hbs := hbs_of rfl))) (ma_nil)) (hg := (g_ptable_of_tuple _ _ _))))

abbrev s_pBuilder_look : Stmt := inCls (top 18) 4
theorem sc_pBuilder_look : FnScope ["self", "cell", "worth"] ["self", "cell", "worth"] (defScope s_pBuilder_look) := ⟨rfl, rfl, rfl, by decide +kernel, rfl, by decide +kernel, by decide +kernel⟩
theorem v_pBuilder_look_0 : (defScope s_pBuilder_look).names.lookup ("self" : Str) = some NameKind.local := by decide +kernel
theorem v_pBuilder_look_1 : (defScope s_pBuilder_look).names.lookup ("cell" : Str) = some NameKind.local := by decide +kernel
theorem v_pBuilder_look_2 : (defScope s_pBuilder_look).names.lookup ("worth" : Str) = some NameKind.local := by decide +kernel
theorem g_pBuilder_look_table_of (L a : Addr) (cd : Value) : (PyProof.Rows.envOfC "Builder.look" (defScope s_pBuilder_look) L a cd).kindOf ("table_of" : Str) = some NameKind.globalImplicit := rfl
theorem ok_pBuilder_look {P : Program} {w : World} {K : PySem.W.Frag} {mg : Str → Option Value} {base : Heap} {f : Addr} {fd : FuncData} (F : Fun K "look" "Builder.look" s_pBuilder_look f fd) (B : Bn mg) (h_ptable_of : Fd P w K mg base "table_of" 4 ["worth"] [] f_ptable_of) (ofni : FnI K fnNames) (oobc_Builder : ObC K "Builder" ["rows", "tables", "worths", "free"])   :
    FnOk P w K mg base (L2N.CX P w) 6 f fd ["self", "cell", "worth"] (spF K mg 3 [0] f_pBuilder_look) := by
  refine fn_ok F sc_pBuilder_look (by decide) (by decide) fun cdv A outer s H E hr => ?_
  have nd := sc_pBuilder_look.nd
  have tk : L2N.Takes (cxOf (L2N.CX P w) P w K mg base ["self", "cell", "worth"] "Builder.look" (defScope s_pBuilder_look) f cdv A outer s H E) (fun cls d _ H => E cls d H) := L2N.takes_of rfl rfl rfl rfl
  have pn : PassesOwn (model P w) (cxOf (L2N.CX P w) P w K mg base ["self", "cell", "worth"] "Builder.look" (defScope s_pBuilder_look) f cdv A outer s H E).A (cxOf (L2N.CX P w) P w K mg base ["self", "cell", "worth"] "Builder.look" (defScope s_pBuilder_look) f cdv A outer s H E).env (cxOf (L2N.CX P w) P w K mg base ["self", "cell", "worth"] "Builder.look" (defScope s_pBuilder_look) f cdv A outer s H E).xe := passes_of rfl
  unfold m_pBuilder_look
  exact mss_cons (ms_if (mt_fldNotIn ofni hr oobc_Builder (by decide) (i := 0) rfl (.inl v_pBuilder_look_0) (j := 2) rfl (.inl v_pBuilder_look_2)) (mss_cons (ms_expr (me_fldLm ls_append PySem.F.slot_list_append PySem.F.type_list_append mt_append oobc_Builder (by decide) (i := 0) rfl (.inl v_pBuilder_look_0) (pxs_cons (px_var (i := 2) rfl (.inl v_pBuilder_look_2)) (pxs_nil)))) (mss_one (ms_expr (me_fldLm ls_append PySem.F.slot_list_append PySem.F.type_list_append mt_append oobc_Builder (by decide) (i := 0) rfl (.inl v_pBuilder_look_0) (pxs_cons (pf_call h_ptable_of hr (by decide) (pxs_cons (px_var (i := 2) rfl (.inl v_pBuilder_look_2)) (pxs_nil)) (xn_cons (xn_nil)) (hg := (g_pBuilder_look_table_of _ _ _))) (pxs_nil)))))) (mss_nil)) (mss_one (ms_expr (me_fldLm ls_append PySem.F.slot_list_append PySem.F.type_list_append mt_append oobc_Builder (by decide) (i := 0) rfl (.inl v_pBuilder_look_0) (pxs_cons (px_tup (pxs_cons (px_str) (pxs_cons (px_var (i := 1) rfl (.inl v_pBuilder_look_1)) (pxs_cons (px_fldIdx ofni hr oobc_Builder (by decide) (i := 0) rfl (.inl v_pBuilder_look_0) (j := 2) rfl (.inl v_pBuilder_look_2)) (pxs_nil))))) (pxs_nil)))))

abbrev s_pBuilder_looked : Stmt := inCls (top 18) 6
theorem sc_pBuilder_looked : FnScope ["self", "cell", "worth", "new"] ["self", "cell", "worth"] (defScope s_pBuilder_looked) := ⟨rfl, rfl, rfl, by decide +kernel, rfl, by decide +kernel, by decide +kernel⟩
theorem v_pBuilder_looked_0 : (defScope s_pBuilder_looked).names.lookup ("self" : Str) = some NameKind.local := by decide +kernel
theorem v_pBuilder_looked_1 : (defScope s_pBuilder_looked).names.lookup ("cell" : Str) = some NameKind.local := by decide +kernel
theorem v_pBuilder_looked_2 : (defScope s_pBuilder_looked).names.lookup ("worth" : Str) = some NameKind.local := by decide +kernel
theorem v_pBuilder_looked_3 : (defScope s_pBuilder_looked).names.lookup ("new" : Str) = some NameKind.local := by decide +kernel
theorem ok_pBuilder_looked {P : Program} {w : World} {K : PySem.W.Frag} {mg : Str → Option Value} {base : Heap} {f : Addr} {fd : FuncData} (F : Fun K "looked" "Builder.looked" s_pBuilder_looked f fd) (B : Bn mg) (h_pBuilder_copied : ObM P w K mg base "Builder" "copied" 4 ["self", "cell"] [0] f_pBuilder_copied) (h_pBuilder_look : ObM P w K mg base "Builder" "look" 6 ["self", "cell", "worth"] [0] f_pBuilder_look)    :
    FnOk P w K mg base (L2N.CX P w) 8 f fd ["self", "cell", "worth"] (spF K mg 3 [0] f_pBuilder_looked) := by
  refine fn_ok F sc_pBuilder_looked (by decide) (by decide) fun cdv A outer s H E hr => ?_
  have nd := sc_pBuilder_looked.nd
  have tk : L2N.Takes (cxOf (L2N.CX P w) P w K mg base ["self", "cell", "worth", "new"] "Builder.looked" (defScope s_pBuilder_looked) f cdv A outer s H E) (fun cls d _ H => E cls d H) := L2N.takes_of rfl rfl rfl rfl
  have pn : PassesOwn (model P w) (cxOf (L2N.CX P w) P w K mg base ["self", "cell", "worth", "new"] "Builder.looked" (defScope s_pBuilder_looked) f cdv A outer s H E).A (cxOf (L2N.CX P w) P w K mg base ["self", "cell", "worth", "new"] "Builder.looked" (defScope s_pBuilder_looked) f cdv A outer s H E).env (cxOf (L2N.CX P w) P w K mg base ["self", "cell", "worth", "new"] "Builder.looked" (defScope s_pBuilder_looked) f cdv A outer s H E).xe := passes_of rfl
  unfold m_pBuilder_looked
  exact mss_cons (ms_set (i := 3) nd rfl (.inl v_pBuilder_looked_3) (me_fz (mo_meth hr (by decide) tk (i := 0) rfl (.inl v_pBuilder_looked_0) (pb_v (me_var (i := 1) rfl (.inl v_pBuilder_looked_1)) (pb_nil)) (bsh_v (bsh_nil)) rfl rfl h_pBuilder_copied))) (mss_cons (ms_expr (me_fz (mo_meth hr (by decide) tk (i := 0) rfl (.inl v_pBuilder_looked_0) (pb_v (me_var (i := 3) rfl (.inl v_pBuilder_looked_3)) (pb_v (me_var (i := 2) rfl (.inl v_pBuilder_looked_2)) (pb_nil))) (bsh_v (bsh_v (bsh_nil))) rfl rfl h_pBuilder_look))) (mss_one (ms_ret (me_var (i := 3) rfl (.inl v_pBuilder_looked_3)))))

abbrev s_phalves_of : Stmt := top 45
theorem sc_phalves_of : FnScope ["form", "many"] ["form"] (defScope s_phalves_of) := ⟨rfl, rfl, rfl, by decide +kernel, rfl, by decide +kernel, by decide +kernel⟩
theorem v_phalves_of_0 : (defScope s_phalves_of).names.lookup ("form" : Str) = some NameKind.local := by decide +kernel
theorem v_phalves_of_1 : (defScope s_phalves_of).names.lookup ("many" : Str) = some NameKind.local := by decide +kernel
theorem g_phalves_of_int (L a : Addr) (cd : Value) : (PyProof.Rows.envOfC "halves_of" (defScope s_phalves_of) L a cd).kindOf ("int" : Str) = some NameKind.globalImplicit := rfl
theorem ok_phalves_of {P : Program} {w : World} {K : PySem.W.Frag} {mg : Str → Option Value} {base : Heap} {f : Addr} {fd : FuncData} (F : Fun K "halves_of" "halves_of" s_phalves_of f fd) (B : Bn mg)     :
    FnOk P w K mg base (L2N.CX P w) 2 f fd ["form"] (spF K mg 1 [] f_phalves_of) := by
  refine fn_ok F sc_phalves_of (by decide) (by decide) fun cdv A outer s H E hr => ?_
  have nd := sc_phalves_of.nd
  have tk : L2N.Takes (cxOf (L2N.CX P w) P w K mg base ["form", "many"] "halves_of" (defScope s_phalves_of) f cdv A outer s H E) (fun cls d _ H => E cls d H) := L2N.takes_of rfl rfl rfl rfl
  have pn : PassesOwn (model P w) (cxOf (L2N.CX P w) P w K mg base ["form", "many"] "halves_of" (defScope s_phalves_of) f cdv A outer s H E).A (cxOf (L2N.CX P w) P w K mg base ["form", "many"] "halves_of" (defScope s_phalves_of) f cdv A outer s H E).env (cxOf (L2N.CX P w) P w K mg base ["form", "many"] "halves_of" (defScope s_phalves_of) f cdv A outer s H E).xe := passes_of rfl
  unfold m_phalves_of
  exact mss_cons (ms_set (i := 1) nd rfl (.inl v_phalves_of_1) (me_add (me_ix (me_var (i := 0) rfl (.inl v_phalves_of_0)) (me_int)) (mb_int B.int (ma_cons (me_cmp (op_eqM hr.units) os_eq (me_ix (me_var (i := 0) rfl (.inl v_phalves_of_0)) (me_int)) (me_str) (nomark _)) (ma_nil)) (hg := (g_phalves_of_int _ _ _))))) (mss_one (ms_ret (me_tup (ma_cons (me_add (me_var (i := 1) rfl (.inl v_phalves_of_1)) (me_mod (me_var (i := 1) rfl (.inl v_phalves_of_1)) (me_int))) (ma_cons (me_mod (me_var (i := 1) rfl (.inl v_phalves_of_1)) (me_int)) (ma_nil))))))

abbrev s_pBuilder_put : Stmt := inCls (top 18) 2
theorem sc_pBuilder_put : FnScope ["self", "byte", "cell"] ["self", "byte"] (defScope s_pBuilder_put) := ⟨rfl, rfl, rfl, by decide +kernel, rfl, by decide +kernel, by decide +kernel⟩
theorem v_pBuilder_put_0 : (defScope s_pBuilder_put).names.lookup ("self" : Str) = some NameKind.local := by decide +kernel
theorem v_pBuilder_put_1 : (defScope s_pBuilder_put).names.lookup ("byte" : Str) = some NameKind.local := by decide +kernel
theorem v_pBuilder_put_2 : (defScope s_pBuilder_put).names.lookup ("cell" : Str) = some NameKind.local := by decide +kernel
theorem ok_pBuilder_put {P : Program} {w : World} {K : PySem.W.Frag} {mg : Str → Option Value} {base : Heap} {f : Addr} {fd : FuncData} (F : Fun K "put" "Builder.put" s_pBuilder_put f fd) (B : Bn mg) (h_pBuilder_cell : ObM P w K mg base "Builder" "cell" 2 ["self"] [0] f_pBuilder_cell) (oobc_Builder : ObC K "Builder" ["rows", "tables", "worths", "free"])   :
    FnOk P w K mg base (L2N.CX P w) 4 f fd ["self", "byte"] (spF K mg 2 [0] f_pBuilder_put) := by
  refine fn_ok F sc_pBuilder_put (by decide) (by decide) fun cdv A outer s H E hr => ?_
  have nd := sc_pBuilder_put.nd
  have tk : L2N.Takes (cxOf (L2N.CX P w) P w K mg base ["self", "byte", "cell"] "Builder.put" (defScope s_pBuilder_put) f cdv A outer s H E) (fun cls d _ H => E cls d H) := L2N.takes_of rfl rfl rfl rfl
  have pn : PassesOwn (model P w) (cxOf (L2N.CX P w) P w K mg base ["self", "byte", "cell"] "Builder.put" (defScope s_pBuilder_put) f cdv A outer s H E).A (cxOf (L2N.CX P w) P w K mg base ["self", "byte", "cell"] "Builder.put" (defScope s_pBuilder_put) f cdv A outer s H E).env (cxOf (L2N.CX P w) P w K mg base ["self", "byte", "cell"] "Builder.put" (defScope s_pBuilder_put) f cdv A outer s H E).xe := passes_of rfl
  unfold m_pBuilder_put
  exact mss_cons (ms_set (i := 2) nd rfl (.inl v_pBuilder_put_2) (me_fz (mo_meth0 h_pBuilder_cell rfl rfl hr (by decide) tk (i := 0) rfl (.inl v_pBuilder_put_0)))) (mss_cons (ms_expr (me_fldLm ls_append PySem.F.slot_list_append PySem.F.type_list_append mt_append oobc_Builder (by decide) (i := 0) rfl (.inl v_pBuilder_put_0) (pxs_cons (px_tup (pxs_cons (px_str) (pxs_cons (px_var (i := 2) rfl (.inl v_pBuilder_put_2)) (pxs_cons (px_var (i := 1) rfl (.inl v_pBuilder_put_1)) (pxs_nil))))) (pxs_nil)))) (mss_one (ms_ret (me_var (i := 2) rfl (.inl v_pBuilder_put_2)))))

abbrev s_pcarried : Stmt := top 23
theorem sc_pcarried : FnScope ["b", "cell", "carry"] ["b", "cell", "carry"] (defScope s_pcarried) := ⟨rfl, rfl, rfl, by decide +kernel, rfl, by decide +kernel, by decide +kernel⟩
theorem v_pcarried_0 : (defScope s_pcarried).names.lookup ("b" : Str) = some NameKind.local := by decide +kernel
theorem v_pcarried_1 : (defScope s_pcarried).names.lookup ("cell" : Str) = some NameKind.local := by decide +kernel
theorem v_pcarried_2 : (defScope s_pcarried).names.lookup ("carry" : Str) = some NameKind.local := by decide +kernel
theorem g_pcarried_ahead_of_last (L a : Addr) (cd : Value) : (PyProof.Rows.envOfC "carried" (defScope s_pcarried) L a cd).kindOf ("ahead_of_last" : Str) = some NameKind.globalImplicit := rfl
theorem g_pcarried_last_figure (L a : Addr) (cd : Value) : (PyProof.Rows.envOfC "carried" (defScope s_pcarried) L a cd).kindOf ("last_figure" : Str) = some NameKind.globalImplicit := rfl
theorem ok_pcarried {P : Program} {w : World} {K : PySem.W.Frag} {mg : Str → Option Value} {base : Heap} {f : Addr} {fd : FuncData} (F : Fun K "carried" "carried" s_pcarried f fd) (B : Bn mg) (h_pBuilder_row : ObM P w K mg base "Builder" "row" 2 ["self", "word", "one", "other"] [0] f_pBuilder_row) (h_pBuilder_look : ObM P w K mg base "Builder" "look" 6 ["self", "cell", "worth"] [0] f_pBuilder_look) (ofng_ahead_of_last : FnG K mg "ahead_of_last") (ofng_last_figure : FnG K mg "last_figure")   :
    FnOk P w K mg base (L2N.CX P w) 8 f fd ["b", "cell", "carry"] (spF K mg 3 [0] f_pcarried) := by
  refine fn_ok F sc_pcarried (by decide) (by decide) fun cdv A outer s H E hr => ?_
  have nd := sc_pcarried.nd
  have tk : L2N.Takes (cxOf (L2N.CX P w) P w K mg base ["b", "cell", "carry"] "carried" (defScope s_pcarried) f cdv A outer s H E) (fun cls d _ H => E cls d H) := L2N.takes_of rfl rfl rfl rfl
  have pn : PassesOwn (model P w) (cxOf (L2N.CX P w) P w K mg base ["b", "cell", "carry"] "carried" (defScope s_pcarried) f cdv A outer s H E).A (cxOf (L2N.CX P w) P w K mg base ["b", "cell", "carry"] "carried" (defScope s_pcarried) f cdv A outer s H E).env (cxOf (L2N.CX P w) P w K mg base ["b", "cell", "carry"] "carried" (defScope s_pcarried) f cdv A outer s H E).xe := passes_of rfl
  unfold m_pcarried
  exact mss_cons (ms_expr (me_fz (mo_meth hr (by decide) tk (i := 0) rfl (.inl v_pcarried_0) (pb_v (me_str) (pb_v (me_var (i := 1) rfl (.inl v_pcarried_1)) (pb_v (me_var (i := 2) rfl (.inl v_pcarried_2)) (pb_nil)))) (bsh_v (bsh_v (bsh_v (bsh_nil)))) rfl rfl h_pBuilder_row))) (mss_cons (ms_expr (me_fz (mo_meth hr (by decide) tk (i := 0) rfl (.inl v_pcarried_0) (pb_v (me_str) (pb_v (me_var (i := 2) rfl (.inl v_pcarried_2)) (pb_v (me_var (i := 1) rfl (.inl v_pcarried_1)) (pb_nil)))) (bsh_v (bsh_v (bsh_v (bsh_nil)))) rfl rfl h_pBuilder_row))) (mss_cons (ms_expr (me_fz (mo_meth hr (by decide) tk (i := 0) rfl (.inl v_pcarried_0) (pb_v (me_var (i := 2) rfl (.inl v_pcarried_2)) (pb_v (me_fnc ofng_ahead_of_last (hg := (g_pcarried_ahead_of_last _ _ _))) (pb_nil))) (bsh_v (bsh_v (bsh_nil))) rfl rfl h_pBuilder_look))) (mss_one (ms_expr (me_fz (mo_meth hr (by decide) tk (i := 0) rfl (.inl v_pcarried_0) (pb_v (me_var (i := 1) rfl (.inl v_pcarried_1)) (pb_v (me_fnc ofng_last_figure (hg := (g_pcarried_last_figure _ _ _))) (pb_nil))) (bsh_v (bsh_v (bsh_nil))) rfl rfl h_pBuilder_look))))))

abbrev s_pturn_by : Stmt := top 24
theorem sc_pturn_by : FnScope ["b", "figures", "flag", "more", "carry", "k"] ["b", "figures", "flag"] (defScope s_pturn_by) := ⟨rfl, rfl, rfl, by decide +kernel, rfl, by decide +kernel, by decide +kernel⟩
theorem v_pturn_by_0 : (defScope s_pturn_by).names.lookup ("b" : Str) = some NameKind.local := by decide +kernel
theorem v_pturn_by_1 : (defScope s_pturn_by).names.lookup ("figures" : Str) = some NameKind.local := by decide +kernel
theorem v_pturn_by_2 : (defScope s_pturn_by).names.lookup ("flag" : Str) = some NameKind.local := by decide +kernel
theorem v_pturn_by_3 : (defScope s_pturn_by).names.lookup ("more" : Str) = some NameKind.local := by decide +kernel
theorem v_pturn_by_4 : (defScope s_pturn_by).names.lookup ("carry" : Str) = some NameKind.local := by decide +kernel
theorem v_pturn_by_5 : (defScope s_pturn_by).names.lookup ("k" : Str) = some NameKind.local := by decide +kernel
theorem g_pturn_by_ten_or_none (L a : Addr) (cd : Value) : (PyProof.Rows.envOfC "turn_by" (defScope s_pturn_by) L a cd).kindOf ("ten_or_none" : Str) = some NameKind.globalImplicit := rfl
theorem g_pturn_by_len (L a : Addr) (cd : Value) : (PyProof.Rows.envOfC "turn_by" (defScope s_pturn_by) L a cd).kindOf ("len" : Str) = some NameKind.globalImplicit := rfl
theorem g_pturn_by_range (L a : Addr) (cd : Value) : (PyProof.Rows.envOfC "turn_by" (defScope s_pturn_by) L a cd).kindOf ("range" : Str) = some NameKind.globalImplicit := rfl
theorem g_pturn_by_nine_less (L a : Addr) (cd : Value) : (PyProof.Rows.envOfC "turn_by" (defScope s_pturn_by) L a cd).kindOf ("nine_less" : Str) = some NameKind.globalImplicit := rfl
theorem g_pturn_by_carried (L a : Addr) (cd : Value) : (PyProof.Rows.envOfC "turn_by" (defScope s_pturn_by) L a cd).kindOf ("carried" : Str) = some NameKind.globalImplicit := rfl
theorem ok_pturn_by {P : Program} {w : World} {K : PySem.W.Frag} {mg : Str → Option Value} {base : Heap} {f : Addr} {fd : FuncData} (F : Fun K "turn_by" "turn_by" s_pturn_by f fd) (B : Bn mg) (h_pBuilder_looked : ObM P w K mg base "Builder" "looked" 8 ["self", "cell", "worth"] [0] f_pBuilder_looked) (h_pBuilder_copied : ObM P w K mg base "Builder" "copied" 4 ["self", "cell"] [0] f_pBuilder_copied) (h_pBuilder_row : ObM P w K mg base "Builder" "row" 2 ["self", "word", "one", "other"] [0] f_pBuilder_row) (h_pBuilder_look : ObM P w K mg base "Builder" "look" 6 ["self", "cell", "worth"] [0] f_pBuilder_look) (h_pcarried : Fd P w K mg base "carried" 8 ["b", "cell", "carry"] [0] f_pcarried) (ofng_ten_or_none : FnG K mg "ten_or_none") (ofng_nine_less : FnG K mg "nine_less")   :
    FnOk P w K mg base (L2N.CX P w) 10 f fd ["b", "figures", "flag"] (spF K mg 3 [0] f_pturn_by) := by
  refine fn_ok F sc_pturn_by (by decide) (by decide) fun cdv A outer s H E hr => ?_
  have nd := sc_pturn_by.nd
  have tk : L2N.Takes (cxOf (L2N.CX P w) P w K mg base ["b", "figures", "flag", "more", "carry", "k"] "turn_by" (defScope s_pturn_by) f cdv A outer s H E) (fun cls d _ H => E cls d H) := L2N.takes_of rfl rfl rfl rfl
  have pn : PassesOwn (model P w) (cxOf (L2N.CX P w) P w K mg base ["b", "figures", "flag", "more", "carry", "k"] "turn_by" (defScope s_pturn_by) f cdv A outer s H E).A (cxOf (L2N.CX P w) P w K mg base ["b", "figures", "flag", "more", "carry", "k"] "turn_by" (defScope s_pturn_by) f cdv A outer s H E).env (cxOf (L2N.CX P w) P w K mg base ["b", "figures", "flag", "more", "carry", "k"] "turn_by" (defScope s_pturn_by) f cdv A outer s H E).xe := passes_of rfl
  unfold m_pturn_by
  exact mss_cons (ms_set (i := 3) nd rfl (.inl v_pturn_by_3) (me_fz (mo_meth hr (by decide) tk (i := 0) rfl (.inl v_pturn_by_0) (pb_v (me_var (i := 2) rfl (.inl v_pturn_by_2)) (pb_v (me_fnc ofng_ten_or_none (hg := (g_pturn_by_ten_or_none _ _ _))) (pb_nil))) (bsh_v (bsh_v (bsh_nil))) rfl rfl h_pBuilder_looked))) (mss_cons (ms_set (i := 4) nd rfl (.inl v_pturn_by_4) (me_fz (mo_meth hr (by decide) tk (i := 0) rfl (.inl v_pturn_by_0) (pb_v (me_var (i := 2) rfl (.inl v_pturn_by_2)) (pb_nil)) (bsh_v (bsh_nil)) rfl rfl h_pBuilder_copied))) (mss_one (ms_for pn rfl (mi_r3 B.range (ma_cons (me_sub (mb_len B.len (ma_cons (me_var (i := 1) rfl (.inl v_pturn_by_1)) (ma_nil)) (hg := (g_pturn_by_len _ _ _))) (me_int)) (ma_cons (me_neg (me_int)) (ma_cons (me_neg (me_int)) (ma_nil)))) (hg := (g_pturn_by_range _ _ _))) (mg_name (i := 5) nd rfl (.inl v_pturn_by_5)) (mss_cons (ms_expr (me_fz (mo_meth hr (by decide) tk (i := 0) rfl (.inl v_pturn_by_0) (pb_v (me_str) (pb_v (me_ix (me_var (i := 1) rfl (.inl v_pturn_by_1)) (me_var (i := 5) rfl (.inl v_pturn_by_5))) (pb_v (me_var (i := 3) rfl (.inl v_pturn_by_3)) (pb_nil)))) (bsh_v (bsh_v (bsh_v (bsh_nil)))) rfl rfl h_pBuilder_row))) (mss_cons (ms_expr (me_fz (mo_meth hr (by decide) tk (i := 0) rfl (.inl v_pturn_by_0) (pb_v (me_ix (me_var (i := 1) rfl (.inl v_pturn_by_1)) (me_var (i := 5) rfl (.inl v_pturn_by_5))) (pb_v (me_fnc ofng_nine_less (hg := (g_pturn_by_nine_less _ _ _))) (pb_nil))) (bsh_v (bsh_v (bsh_nil))) rfl rfl h_pBuilder_look))) (mss_one (ms_expr (me_fz (mf_callB h_pcarried hr (by decide) tk (pb_b (i := 0) rfl (.inl v_pturn_by_0) (pb_v (me_ix (me_var (i := 1) rfl (.inl v_pturn_by_1)) (me_var (i := 5) rfl (.inl v_pturn_by_5))) (pb_v (me_var (i := 4) rfl (.inl v_pturn_by_4)) (pb_nil)))) (bsh_b (bsh_v (bsh_v (bsh_nil)))) (hg := (g_pturn_by_carried _ _ _)))))))))))

abbrev s_pwidth : Stmt := top 46
theorem sc_pwidth : FnScope ["form"] ["form"] (defScope s_pwidth) := ⟨rfl, rfl, rfl, by decide +kernel, rfl, by decide +kernel, by decide +kernel⟩
theorem v_pwidth_0 : (defScope s_pwidth).names.lookup ("form" : Str) = some NameKind.local := by decide +kernel
theorem g_pwidth_halves_of (L a : Addr) (cd : Value) : (PyProof.Rows.envOfC "width" (defScope s_pwidth) L a cd).kindOf ("halves_of" : Str) = some NameKind.globalImplicit := rfl
theorem ok_pwidth {P : Program} {w : World} {K : PySem.W.Frag} {mg : Str → Option Value} {base : Heap} {f : Addr} {fd : FuncData} (F : Fun K "width" "width" s_pwidth f fd) (B : Bn mg) (h_phalves_of : Fd P w K mg base "halves_of" 2 ["form"] [] f_phalves_of)    :
    FnOk P w K mg base (L2N.CX P w) 4 f fd ["form"] (spF K mg 1 [] f_pwidth) := by
  refine fn_ok F sc_pwidth (by decide) (by decide) fun cdv A outer s H E hr => ?_
  have nd := sc_pwidth.nd
  have tk : L2N.Takes (cxOf (L2N.CX P w) P w K mg base ["form"] "width" (defScope s_pwidth) f cdv A outer s H E) (fun cls d _ H => E cls d H) := L2N.takes_of rfl rfl rfl rfl
  have pn : PassesOwn (model P w) (cxOf (L2N.CX P w) P w K mg base ["form"] "width" (defScope s_pwidth) f cdv A outer s H E).A (cxOf (L2N.CX P w) P w K mg base ["form"] "width" (defScope s_pwidth) f cdv A outer s H E).env (cxOf (L2N.CX P w) P w K mg base ["form"] "width" (defScope s_pwidth) f cdv A outer s H E).xe := passes_of rfl
  unfold m_pwidth
  exact mss_cons (ms_if (mt_cmp (op_eqM hr.units) os_eq (me_ix (me_var (i := 0) rfl (.inl v_pwidth_0)) (me_int)) (me_str) (nomark _)) (mss_one (ms_ret (me_div (me_ix (me_fz (mf_call h_phalves_of hr (by decide) tk (ma_cons (me_var (i := 0) rfl (.inl v_pwidth_0)) (ma_nil)) (lng_cons lng_nil) (hg := (g_pwidth_halves_of _ _ _)))) (me_int)) (me_int)))) (mss_nil)) (mss_one (ms_ret (me_ix (me_var (i := 0) rfl (.inl v_pwidth_0)) (me_int))))

abbrev s_ploaded : Stmt := top 47
theorem sc_ploaded : FnScope ["b", "form", "at", "figures", "ahead", "k", "below"] ["b", "form", "at"] (defScope s_ploaded) := ⟨rfl, rfl, rfl, by decide +kernel, rfl, by decide +kernel, by decide +kernel⟩
theorem v_ploaded_0 : (defScope s_ploaded).names.lookup ("b" : Str) = some NameKind.local := by decide +kernel
theorem v_ploaded_1 : (defScope s_ploaded).names.lookup ("form" : Str) = some NameKind.local := by decide +kernel
theorem v_ploaded_2 : (defScope s_ploaded).names.lookup ("at" : Str) = some NameKind.local := by decide +kernel
theorem v_ploaded_3 : (defScope s_ploaded).names.lookup ("figures" : Str) = some NameKind.local := by decide +kernel
theorem v_ploaded_4 : (defScope s_ploaded).names.lookup ("ahead" : Str) = some NameKind.local := by decide +kernel
theorem v_ploaded_5 : (defScope s_ploaded).names.lookup ("k" : Str) = some NameKind.local := by decide +kernel
theorem v_ploaded_6 : (defScope s_ploaded).names.lookup ("below" : Str) = some NameKind.local := by decide +kernel
theorem g_ploaded_halves_of (L a : Addr) (cd : Value) : (PyProof.Rows.envOfC "loaded" (defScope s_ploaded) L a cd).kindOf ("halves_of" : Str) = some NameKind.globalImplicit := rfl
theorem g_ploaded_range (L a : Addr) (cd : Value) : (PyProof.Rows.envOfC "loaded" (defScope s_ploaded) L a cd).kindOf ("range" : Str) = some NameKind.globalImplicit := rfl
theorem g_ploaded_low_half (L a : Addr) (cd : Value) : (PyProof.Rows.envOfC "loaded" (defScope s_ploaded) L a cd).kindOf ("low_half" : Str) = some NameKind.globalImplicit := rfl
theorem g_ploaded_high_half (L a : Addr) (cd : Value) : (PyProof.Rows.envOfC "loaded" (defScope s_ploaded) L a cd).kindOf ("high_half" : Str) = some NameKind.globalImplicit := rfl
theorem g_ploaded_five_on (L a : Addr) (cd : Value) : (PyProof.Rows.envOfC "loaded" (defScope s_ploaded) L a cd).kindOf ("five_on" : Str) = some NameKind.globalImplicit := rfl
theorem g_ploaded_turn_by (L a : Addr) (cd : Value) : (PyProof.Rows.envOfC "loaded" (defScope s_ploaded) L a cd).kindOf ("turn_by" : Str) = some NameKind.globalImplicit := rfl
theorem g_ploaded_width (L a : Addr) (cd : Value) : (PyProof.Rows.envOfC "loaded" (defScope s_ploaded) L a cd).kindOf ("width" : Str) = some NameKind.globalImplicit := rfl
theorem g_ploaded_sign_below (L a : Addr) (cd : Value) : (PyProof.Rows.envOfC "loaded" (defScope s_ploaded) L a cd).kindOf ("sign_below" : Str) = some NameKind.globalImplicit := rfl
theorem ok_ploaded {P : Program} {w : World} {K : PySem.W.Frag} {mg : Str → Option Value} {base : Heap} {f : Addr} {fd : FuncData} (F : Fun K "loaded" "loaded" s_ploaded f fd) (B : Bn mg) (h_phalves_of : Fd P w K mg base "halves_of" 2 ["form"] [] f_phalves_of) (h_pBuilder_looked : ObM P w K mg base "Builder" "looked" 8 ["self", "cell", "worth"] [0] f_pBuilder_looked) (h_pBuilder_put : ObM P w K mg base "Builder" "put" 4 ["self", "byte"] [0] f_pBuilder_put) (h_pturn_by : Fd P w K mg base "turn_by" 10 ["b", "figures", "flag"] [0] f_pturn_by) (h_pBuilder_copied : ObM P w K mg base "Builder" "copied" 4 ["self", "cell"] [0] f_pBuilder_copied) (h_pwidth : Fd P w K mg base "width" 4 ["form"] [] f_pwidth) (h_pBuilder_look : ObM P w K mg base "Builder" "look" 6 ["self", "cell", "worth"] [0] f_pBuilder_look) (ofng_low_half : FnG K mg "low_half") (ofng_high_half : FnG K mg "high_half") (ofng_five_on : FnG K mg "five_on") (ofng_sign_below : FnG K mg "sign_below")   :
    FnOk P w K mg base (L2N.CX P w) 12 f fd ["b", "form", "at"] (spF K mg 3 [0] f_ploaded) := by
  refine fn_ok F sc_ploaded (by decide) (by decide) fun cdv A outer s H E hr => ?_
  have nd := sc_ploaded.nd
  have tk : L2N.Takes (cxOf (L2N.CX P w) P w K mg base ["b", "form", "at", "figures", "ahead", "k", "below"] "loaded" (defScope s_ploaded) f cdv A outer s H E) (fun cls d _ H => E cls d H) := L2N.takes_of rfl rfl rfl rfl
  have pn : PassesOwn (model P w) (cxOf (L2N.CX P w) P w K mg base ["b", "form", "at", "figures", "ahead", "k", "below"] "loaded" (defScope s_ploaded) f cdv A outer s H E).A (cxOf (L2N.CX P w) P w K mg base ["b", "form", "at", "figures", "ahead", "k", "below"] "loaded" (defScope s_ploaded) f cdv A outer s H E).env (cxOf (L2N.CX P w) P w K mg base ["b", "form", "at", "figures", "ahead", "k", "below"] "loaded" (defScope s_ploaded) f cdv A outer s H E).xe := passes_of rfl
  unfold m_ploaded
  exact mss_cons (ms_setO (i := 3) nd rfl (.inl v_ploaded_3) (mo_lst (ma_nil))) (mss_cons (ms_set (i := 4) nd rfl (.inl v_ploaded_4) (me_ix (me_fz (mf_call h_phalves_of hr (by decide) tk (ma_cons (me_var (i := 1) rfl (.inl v_ploaded_1)) (ma_nil)) (lng_cons lng_nil) (hg := (g_ploaded_halves_of _ _ _)))) (me_int))) (mss_cons (ms_for pn rfl (mi_r1 B.range (ma_cons (me_ix (me_var (i := 1) rfl (.inl v_ploaded_1)) (me_int)) (ma_nil)) (hg := (g_ploaded_range _ _ _))) (mg_name (i := 5) nd rfl (.inl v_ploaded_5)) (mss_one (ms_if (mt_cmp (op_eqM hr.units) os_eq (me_ix (me_var (i := 1) rfl (.inl v_ploaded_1)) (me_int)) (me_str) (nomark _)) (mss_one (ms_expr (me_lm1 ls_append PySem.F.slot_list_append PySem.F.type_list_append mt_append (i := 3) rfl (.inl v_ploaded_3) (ma_cons (me_fz (mo_meth hr (by decide) tk (i := 0) rfl (.inl v_ploaded_0) (pb_v (me_add (me_var (i := 2) rfl (.inl v_ploaded_2)) (me_var (i := 5) rfl (.inl v_ploaded_5))) (pb_v (me_fnc ofng_low_half (hg := (g_ploaded_low_half _ _ _))) (pb_nil))) (bsh_v (bsh_v (bsh_nil))) rfl rfl h_pBuilder_looked)) (ma_nil))))) (mss_one (ms_expr (me_lm1 ls_append PySem.F.slot_list_append PySem.F.type_list_append mt_append (i := 3) rfl (.inl v_ploaded_3) (ma_cons (me_fz (mo_meth hr (by decide) tk (i := 0) rfl (.inl v_ploaded_0) (pb_v (me_add (me_var (i := 2) rfl (.inl v_ploaded_2)) (me_div (me_add (me_var (i := 5) rfl (.inl v_ploaded_5)) (me_var (i := 4) rfl (.inl v_ploaded_4))) (me_int))) (pb_v (me_ix (me_tup (ma_cons (me_fnc ofng_high_half (hg := (g_ploaded_high_half _ _ _))) (ma_cons (me_fnc ofng_low_half (hg := (g_ploaded_low_half _ _ _))) (ma_nil)))) (me_mod (me_add (me_var (i := 5) rfl (.inl v_ploaded_5)) (me_var (i := 4) rfl (.inl v_ploaded_4))) (me_int))) (pb_nil))) (bsh_v (bsh_v (bsh_nil))) rfl rfl h_pBuilder_looked)) (ma_nil)))))))) (mss_cons (ms_if (mt_cmp (op_eqM hr.units) os_eq (me_ix (me_var (i := 1) rfl (.inl v_ploaded_1)) (me_int)) (me_str) (nomark _)) (mss_one (ms_ret (me_tup (ma_cons (me_var (i := 3) rfl (.inl v_ploaded_3)) (ma_cons (me_fz (mo_meth hr (by decide) tk (i := 0) rfl (.inl v_ploaded_0) (pb_v (me_int) (pb_nil)) (bsh_v (bsh_nil)) rfl rfl h_pBuilder_put)) (ma_nil)))))) (mss_nil)) (mss_cons (ms_if (mt_cmp (op_eqM hr.units) os_eq (me_ix (me_var (i := 1) rfl (.inl v_ploaded_1)) (me_int)) (me_str) (nomark _)) (mss_cons (ms_set (i := 6) nd rfl (.inl v_ploaded_6) (me_fz (mo_meth hr (by decide) tk (i := 0) rfl (.inl v_ploaded_0) (pb_v (me_ixV (i := 3) rfl (.inl v_ploaded_3) (me_int)) (pb_v (me_fnc ofng_five_on (hg := (g_ploaded_five_on _ _ _))) (pb_nil))) (bsh_v (bsh_v (bsh_nil))) rfl rfl h_pBuilder_looked))) (mss_cons (ms_expr (me_fz (mf_callB h_pturn_by hr (by decide) tk (pb_b (i := 0) rfl (.inl v_ploaded_0) (pb_v (me_var (i := 3) rfl (.inl v_ploaded_3)) (pb_v (me_var (i := 6) rfl (.inl v_ploaded_6)) (pb_nil)))) (bsh_b (bsh_v (bsh_v (bsh_nil)))) (hg := (g_ploaded_turn_by _ _ _))))) (mss_one (ms_ret (me_tup (ma_cons (me_var (i := 3) rfl (.inl v_ploaded_3)) (ma_cons (me_var (i := 6) rfl (.inl v_ploaded_6)) (ma_nil)))))))) (mss_nil)) (mss_cons (ms_set (i := 6) nd rfl (.inl v_ploaded_6) (me_fz (mo_meth hr (by decide) tk (i := 0) rfl (.inl v_ploaded_0) (pb_v (me_sub (me_add (me_var (i := 2) rfl (.inl v_ploaded_2)) (me_fz (mf_call h_pwidth hr (by decide) tk (ma_cons (me_var (i := 1) rfl (.inl v_ploaded_1)) (ma_nil)) (lng_cons lng_nil) (hg := (g_ploaded_width _ _ _))))) (me_int)) (pb_nil)) (bsh_v (bsh_nil)) rfl rfl h_pBuilder_copied))) (mss_cons (ms_if (mt_cmp (op_eqM hr.units) os_eq (me_ix (me_var (i := 1) rfl (.inl v_ploaded_1)) (me_int)) (me_str) (nomark _)) (mss_one (ms_expr (me_fz (mo_meth hr (by decide) tk (i := 0) rfl (.inl v_ploaded_0) (pb_v (me_var (i := 6) rfl (.inl v_ploaded_6)) (pb_v (me_fnc ofng_high_half (hg := (g_ploaded_high_half _ _ _))) (pb_nil))) (bsh_v (bsh_v (bsh_nil))) rfl rfl h_pBuilder_look)))) (mss_nil)) (mss_cons (ms_expr (me_fz (mo_meth hr (by decide) tk (i := 0) rfl (.inl v_ploaded_0) (pb_v (me_var (i := 6) rfl (.inl v_ploaded_6)) (pb_v (me_fnc ofng_sign_below (hg := (g_ploaded_sign_below _ _ _))) (pb_nil))) (bsh_v (bsh_v (bsh_nil))) rfl rfl h_pBuilder_look))) (mss_one (ms_ret (me_tup (ma_cons (me_var (i := 3) rfl (.inl v_ploaded_3)) (ma_cons (me_var (i := 6) rfl (.inl v_ploaded_6)) (ma_nil)))))))))))))

abbrev s_pany_of : Stmt := top 21
theorem sc_pany_of : FnScope ["b", "cells", "found", "cell"] ["b", "cells"] (defScope s_pany_of) := ⟨rfl, rfl, rfl, by decide +kernel, rfl, by decide +kernel, by decide +kernel⟩
theorem v_pany_of_0 : (defScope s_pany_of).names.lookup ("b" : Str) = some NameKind.local := by decide +kernel
theorem v_pany_of_1 : (defScope s_pany_of).names.lookup ("cells" : Str) = some NameKind.local := by decide +kernel
theorem v_pany_of_2 : (defScope s_pany_of).names.lookup ("found" : Str) = some NameKind.local := by decide +kernel
theorem v_pany_of_3 : (defScope s_pany_of).names.lookup ("cell" : Str) = some NameKind.local := by decide +kernel
theorem g_pany_of_one_or_none (L a : Addr) (cd : Value) : (PyProof.Rows.envOfC "any_of" (defScope s_pany_of) L a cd).kindOf ("one_or_none" : Str) = some NameKind.globalImplicit := rfl
theorem ok_pany_of {P : Program} {w : World} {K : PySem.W.Frag} {mg : Str → Option Value} {base : Heap} {f : Addr} {fd : FuncData} (F : Fun K "any_of" "any_of" s_pany_of f fd) (B : Bn mg) (h_pBuilder_put : ObM P w K mg base "Builder" "put" 4 ["self", "byte"] [0] f_pBuilder_put) (h_pBuilder_row : ObM P w K mg base "Builder" "row" 2 ["self", "word", "one", "other"] [0] f_pBuilder_row) (h_pBuilder_look : ObM P w K mg base "Builder" "look" 6 ["self", "cell", "worth"] [0] f_pBuilder_look) (ofng_one_or_none : FnG K mg "one_or_none")   :
    FnOk P w K mg base (L2N.CX P w) 8 f fd ["b", "cells"] (spF K mg 2 [0] f_pany_of) := by
  refine fn_ok F sc_pany_of (by decide) (by decide) fun cdv A outer s H E hr => ?_
  have nd := sc_pany_of.nd
  have tk : L2N.Takes (cxOf (L2N.CX P w) P w K mg base ["b", "cells", "found", "cell"] "any_of" (defScope s_pany_of) f cdv A outer s H E) (fun cls d _ H => E cls d H) := L2N.takes_of rfl rfl rfl rfl
  have pn : PassesOwn (model P w) (cxOf (L2N.CX P w) P w K mg base ["b", "cells", "found", "cell"] "any_of" (defScope s_pany_of) f cdv A outer s H E).A (cxOf (L2N.CX P w) P w K mg base ["b", "cells", "found", "cell"] "any_of" (defScope s_pany_of) f cdv A outer s H E).env (cxOf (L2N.CX P w) P w K mg base ["b", "cells", "found", "cell"] "any_of" (defScope s_pany_of) f cdv A outer s H E).xe := passes_of rfl
  unfold m_pany_of
  exact mss_cons (ms_set (i := 2) nd rfl (.inl v_pany_of_2) (me_fz (mo_meth hr (by decide) tk (i := 0) rfl (.inl v_pany_of_0) (pb_v (me_int) (pb_nil)) (bsh_v (bsh_nil)) rfl rfl h_pBuilder_put))) (mss_cons (ms_for pn rfl (mi_val (me_var (i := 1) rfl (.inl v_pany_of_1))) (mg_name (i := 3) nd rfl (.inl v_pany_of_3)) (mss_one (ms_expr (me_fz (mo_meth hr (by decide) tk (i := 0) rfl (.inl v_pany_of_0) (pb_v (me_str) (pb_v (me_var (i := 2) rfl (.inl v_pany_of_2)) (pb_v (me_var (i := 3) rfl (.inl v_pany_of_3)) (pb_nil)))) (bsh_v (bsh_v (bsh_v (bsh_nil)))) rfl rfl h_pBuilder_row))))) (mss_cons (ms_expr (me_fz (mo_meth hr (by decide) tk (i := 0) rfl (.inl v_pany_of_0) (pb_v (me_var (i := 2) rfl (.inl v_pany_of_2)) (pb_v (me_fnc ofng_one_or_none (hg := (g_pany_of_one_or_none _ _ _))) (pb_nil))) (bsh_v (bsh_v (bsh_nil))) rfl rfl h_pBuilder_look))) (mss_one (ms_ret (me_var (i := 2) rfl (.inl v_pany_of_2))))))

abbrev s_pboth : Stmt := top 22
theorem sc_pboth : FnScope ["b", "one", "other", "found"] ["b", "one", "other"] (defScope s_pboth) := ⟨rfl, rfl, rfl, by decide +kernel, rfl, by decide +kernel, by decide +kernel⟩
theorem v_pboth_0 : (defScope s_pboth).names.lookup ("b" : Str) = some NameKind.local := by decide +kernel
theorem v_pboth_1 : (defScope s_pboth).names.lookup ("one" : Str) = some NameKind.local := by decide +kernel
theorem v_pboth_2 : (defScope s_pboth).names.lookup ("other" : Str) = some NameKind.local := by decide +kernel
theorem v_pboth_3 : (defScope s_pboth).names.lookup ("found" : Str) = some NameKind.local := by decide +kernel
theorem ok_pboth {P : Program} {w : World} {K : PySem.W.Frag} {mg : Str → Option Value} {base : Heap} {f : Addr} {fd : FuncData} (F : Fun K "both" "both" s_pboth f fd) (B : Bn mg) (h_pBuilder_copied : ObM P w K mg base "Builder" "copied" 4 ["self", "cell"] [0] f_pBuilder_copied) (h_pBuilder_row : ObM P w K mg base "Builder" "row" 2 ["self", "word", "one", "other"] [0] f_pBuilder_row)    :
    FnOk P w K mg base (L2N.CX P w) 6 f fd ["b", "one", "other"] (spF K mg 3 [0] f_pboth) := by
  refine fn_ok F sc_pboth (by decide) (by decide) fun cdv A outer s H E hr => ?_
  have nd := sc_pboth.nd
  have tk : L2N.Takes (cxOf (L2N.CX P w) P w K mg base ["b", "one", "other", "found"] "both" (defScope s_pboth) f cdv A outer s H E) (fun cls d _ H => E cls d H) := L2N.takes_of rfl rfl rfl rfl
  have pn : PassesOwn (model P w) (cxOf (L2N.CX P w) P w K mg base ["b", "one", "other", "found"] "both" (defScope s_pboth) f cdv A outer s H E).A (cxOf (L2N.CX P w) P w K mg base ["b", "one", "other", "found"] "both" (defScope s_pboth) f cdv A outer s H E).env (cxOf (L2N.CX P w) P w K mg base ["b", "one", "other", "found"] "both" (defScope s_pboth) f cdv A outer s H E).xe := passes_of rfl
  unfold m_pboth
  exact mss_cons (ms_set (i := 3) nd rfl (.inl v_pboth_3) (me_fz (mo_meth hr (by decide) tk (i := 0) rfl (.inl v_pboth_0) (pb_v (me_var (i := 1) rfl (.inl v_pboth_1)) (pb_nil)) (bsh_v (bsh_nil)) rfl rfl h_pBuilder_copied))) (mss_cons (ms_expr (me_fz (mo_meth hr (by decide) tk (i := 0) rfl (.inl v_pboth_0) (pb_v (me_str) (pb_v (me_var (i := 3) rfl (.inl v_pboth_3)) (pb_v (me_var (i := 2) rfl (.inl v_pboth_2)) (pb_nil)))) (bsh_v (bsh_v (bsh_v (bsh_nil)))) rfl rfl h_pBuilder_row))) (mss_one (ms_ret (me_var (i := 3) rfl (.inl v_pboth_3)))))

abbrev s_ppast_half : Stmt := top 54
theorem sc_ppast_half : FnScope ["b", "first", "rest", "last", "half", "more", "found"] ["b", "first", "rest", "last"] (defScope s_ppast_half) := ⟨rfl, rfl, rfl, by decide +kernel, rfl, by decide +kernel, by decide +kernel⟩
theorem v_ppast_half_0 : (defScope s_ppast_half).names.lookup ("b" : Str) = some NameKind.local := by decide +kernel
theorem v_ppast_half_1 : (defScope s_ppast_half).names.lookup ("first" : Str) = some NameKind.local := by decide +kernel
theorem v_ppast_half_2 : (defScope s_ppast_half).names.lookup ("rest" : Str) = some NameKind.local := by decide +kernel
theorem v_ppast_half_3 : (defScope s_ppast_half).names.lookup ("last" : Str) = some NameKind.local := by decide +kernel
theorem v_ppast_half_4 : (defScope s_ppast_half).names.lookup ("half" : Str) = some NameKind.local := by decide +kernel
theorem v_ppast_half_5 : (defScope s_ppast_half).names.lookup ("more" : Str) = some NameKind.local := by decide +kernel
theorem v_ppast_half_6 : (defScope s_ppast_half).names.lookup ("found" : Str) = some NameKind.local := by decide +kernel
theorem g_ppast_half_five_on (L a : Addr) (cd : Value) : (PyProof.Rows.envOfC "past_half" (defScope s_ppast_half) L a cd).kindOf ("five_on" : Str) = some NameKind.globalImplicit := rfl
theorem g_ppast_half_any_of (L a : Addr) (cd : Value) : (PyProof.Rows.envOfC "past_half" (defScope s_ppast_half) L a cd).kindOf ("any_of" : Str) = some NameKind.globalImplicit := rfl
theorem g_ppast_half_lowest_two (L a : Addr) (cd : Value) : (PyProof.Rows.envOfC "past_half" (defScope s_ppast_half) L a cd).kindOf ("lowest_two" : Str) = some NameKind.globalImplicit := rfl
theorem g_ppast_half_both (L a : Addr) (cd : Value) : (PyProof.Rows.envOfC "past_half" (defScope s_ppast_half) L a cd).kindOf ("both" : Str) = some NameKind.globalImplicit := rfl
theorem g_ppast_half_six_on (L a : Addr) (cd : Value) : (PyProof.Rows.envOfC "past_half" (defScope s_ppast_half) L a cd).kindOf ("six_on" : Str) = some NameKind.globalImplicit := rfl
theorem ok_ppast_half {P : Program} {w : World} {K : PySem.W.Frag} {mg : Str → Option Value} {base : Heap} {f : Addr} {fd : FuncData} (F : Fun K "past_half" "past_half" s_ppast_half f fd) (B : Bn mg) (h_pBuilder_looked : ObM P w K mg base "Builder" "looked" 8 ["self", "cell", "worth"] [0] f_pBuilder_looked) (h_pany_of : Fd P w K mg base "any_of" 8 ["b", "cells"] [0] f_pany_of) (h_pBuilder_row : ObM P w K mg base "Builder" "row" 2 ["self", "word", "one", "other"] [0] f_pBuilder_row) (h_pboth : Fd P w K mg base "both" 6 ["b", "one", "other"] [0] f_pboth) (ofng_five_on : FnG K mg "five_on") (ofng_lowest_two : FnG K mg "lowest_two") (ofng_six_on : FnG K mg "six_on")   :
    FnOk P w K mg base (L2N.CX P w) 10 f fd ["b", "first", "rest", "last"] (spF K mg 4 [0] f_ppast_half) := by
  refine fn_ok F sc_ppast_half (by decide) (by decide) fun cdv A outer s H E hr => ?_
  have nd := sc_ppast_half.nd
  have tk : L2N.Takes (cxOf (L2N.CX P w) P w K mg base ["b", "first", "rest", "last", "half", "more", "found"] "past_half" (defScope s_ppast_half) f cdv A outer s H E) (fun cls d _ H => E cls d H) := L2N.takes_of rfl rfl rfl rfl
  have pn : PassesOwn (model P w) (cxOf (L2N.CX P w) P w K mg base ["b", "first", "rest", "last", "half", "more", "found"] "past_half" (defScope s_ppast_half) f cdv A outer s H E).A (cxOf (L2N.CX P w) P w K mg base ["b", "first", "rest", "last", "half", "more", "found"] "past_half" (defScope s_ppast_half) f cdv A outer s H E).env (cxOf (L2N.CX P w) P w K mg base ["b", "first", "rest", "last", "half", "more", "found"] "past_half" (defScope s_ppast_half) f cdv A outer s H E).xe := passes_of rfl
  unfold m_ppast_half
  exact mss_cons (ms_set (i := 4) nd rfl (.inl v_ppast_half_4) (me_fz (mo_meth hr (by decide) tk (i := 0) rfl (.inl v_ppast_half_0) (pb_v (me_var (i := 1) rfl (.inl v_ppast_half_1)) (pb_v (me_fnc ofng_five_on (hg := (g_ppast_half_five_on _ _ _))) (pb_nil))) (bsh_v (bsh_v (bsh_nil))) rfl rfl h_pBuilder_looked))) (mss_cons (ms_set (i := 5) nd rfl (.inl v_ppast_half_5) (me_fz (mf_callB h_pany_of hr (by decide) tk (pb_b (i := 0) rfl (.inl v_ppast_half_0) (pb_v (me_var (i := 2) rfl (.inl v_ppast_half_2)) (pb_nil))) (bsh_b (bsh_v (bsh_nil))) (hg := (g_ppast_half_any_of _ _ _))))) (mss_cons (ms_if (mt_cmp op_notN os_notN (me_var (i := 3) rfl (.inl v_ppast_half_3)) (me_non) (nomark _)) (mss_one (ms_expr (me_fz (mo_meth hr (by decide) tk (i := 0) rfl (.inl v_ppast_half_0) (pb_v (me_str) (pb_v (me_var (i := 5) rfl (.inl v_ppast_half_5)) (pb_v (me_fz (mo_meth hr (by decide) tk (i := 0) rfl (.inl v_ppast_half_0) (pb_v (me_var (i := 3) rfl (.inl v_ppast_half_3)) (pb_v (me_fnc ofng_lowest_two (hg := (g_ppast_half_lowest_two _ _ _))) (pb_nil))) (bsh_v (bsh_v (bsh_nil))) rfl rfl h_pBuilder_looked)) (pb_nil)))) (bsh_v (bsh_v (bsh_v (bsh_nil)))) rfl rfl h_pBuilder_row)))) (mss_nil)) (mss_cons (ms_set (i := 6) nd rfl (.inl v_ppast_half_6) (me_fz (mf_callB h_pboth hr (by decide) tk (pb_b (i := 0) rfl (.inl v_ppast_half_0) (pb_v (me_var (i := 4) rfl (.inl v_ppast_half_4)) (pb_v (me_var (i := 5) rfl (.inl v_ppast_half_5)) (pb_nil)))) (bsh_b (bsh_v (bsh_v (bsh_nil)))) (hg := (g_ppast_half_both _ _ _))))) (mss_cons (ms_expr (me_fz (mo_meth hr (by decide) tk (i := 0) rfl (.inl v_ppast_half_0) (pb_v (me_str) (pb_v (me_var (i := 6) rfl (.inl v_ppast_half_6)) (pb_v (me_fz (mo_meth hr (by decide) tk (i := 0) rfl (.inl v_ppast_half_0) (pb_v (me_var (i := 1) rfl (.inl v_ppast_half_1)) (pb_v (me_fnc ofng_six_on (hg := (g_ppast_half_six_on _ _ _))) (pb_nil))) (bsh_v (bsh_v (bsh_nil))) rfl rfl h_pBuilder_looked)) (pb_nil)))) (bsh_v (bsh_v (bsh_v (bsh_nil)))) rfl rfl h_pBuilder_row))) (mss_one (ms_ret (me_var (i := 6) rfl (.inl v_ppast_half_6))))))))

abbrev s_padded_by : Stmt := top 55
theorem sc_padded_by : FnScope ["b", "left", "lost", "below", "rule", "found", "last"] ["b", "left", "lost", "below", "rule"] (defScope s_padded_by) := ⟨rfl, rfl, rfl, by decide +kernel, rfl, by decide +kernel, by decide +kernel⟩
theorem v_padded_by_0 : (defScope s_padded_by).names.lookup ("b" : Str) = some NameKind.local := by decide +kernel
theorem v_padded_by_1 : (defScope s_padded_by).names.lookup ("left" : Str) = some NameKind.local := by decide +kernel
theorem v_padded_by_2 : (defScope s_padded_by).names.lookup ("lost" : Str) = some NameKind.local := by decide +kernel
theorem v_padded_by_3 : (defScope s_padded_by).names.lookup ("below" : Str) = some NameKind.local := by decide +kernel
theorem v_padded_by_4 : (defScope s_padded_by).names.lookup ("rule" : Str) = some NameKind.local := by decide +kernel
theorem v_padded_by_5 : (defScope s_padded_by).names.lookup ("found" : Str) = some NameKind.local := by decide +kernel
theorem v_padded_by_6 : (defScope s_padded_by).names.lookup ("last" : Str) = some NameKind.local := by decide +kernel
theorem g_padded_by_five_on (L a : Addr) (cd : Value) : (PyProof.Rows.envOfC "added_by" (defScope s_padded_by) L a cd).kindOf ("five_on" : Str) = some NameKind.globalImplicit := rfl
theorem g_padded_by_len (L a : Addr) (cd : Value) : (PyProof.Rows.envOfC "added_by" (defScope s_padded_by) L a cd).kindOf ("len" : Str) = some NameKind.globalImplicit := rfl
theorem g_padded_by_past_half (L a : Addr) (cd : Value) : (PyProof.Rows.envOfC "added_by" (defScope s_padded_by) L a cd).kindOf ("past_half" : Str) = some NameKind.globalImplicit := rfl
theorem g_padded_by_any_of (L a : Addr) (cd : Value) : (PyProof.Rows.envOfC "added_by" (defScope s_padded_by) L a cd).kindOf ("any_of" : Str) = some NameKind.globalImplicit := rfl
theorem g_padded_by_both (L a : Addr) (cd : Value) : (PyProof.Rows.envOfC "added_by" (defScope s_padded_by) L a cd).kindOf ("both" : Str) = some NameKind.globalImplicit := rfl
theorem g_padded_by_one_of_none (L a : Addr) (cd : Value) : (PyProof.Rows.envOfC "added_by" (defScope s_padded_by) L a cd).kindOf ("one_of_none" : Str) = some NameKind.globalImplicit := rfl
theorem ok_padded_by {P : Program} {w : World} {K : PySem.W.Frag} {mg : Str → Option Value} {base : Heap} {f : Addr} {fd : FuncData} (F : Fun K "added_by" "added_by" s_padded_by f fd) (B : Bn mg) (h_pBuilder_put : ObM P w K mg base "Builder" "put" 4 ["self", "byte"] [0] f_pBuilder_put) (h_pBuilder_looked : ObM P w K mg base "Builder" "looked" 8 ["self", "cell", "worth"] [0] f_pBuilder_looked) (h_ppast_half : Fd P w K mg base "past_half" 10 ["b", "first", "rest", "last"] [0] f_ppast_half) (h_pany_of : Fd P w K mg base "any_of" 8 ["b", "cells"] [0] f_pany_of) (h_pboth : Fd P w K mg base "both" 6 ["b", "one", "other"] [0] f_pboth) (ofng_five_on : FnG K mg "five_on") (ofng_one_of_none : FnG K mg "one_of_none")   :
    FnOk P w K mg base (L2N.CX P w) 12 f fd ["b", "left", "lost", "below", "rule"] (spF K mg 5 [0] f_padded_by) := by
  refine fn_ok F sc_padded_by (by decide) (by decide) fun cdv A outer s H E hr => ?_
  have nd := sc_padded_by.nd
  have tk : L2N.Takes (cxOf (L2N.CX P w) P w K mg base ["b", "left", "lost", "below", "rule", "found", "last"] "added_by" (defScope s_padded_by) f cdv A outer s H E) (fun cls d _ H => E cls d H) := L2N.takes_of rfl rfl rfl rfl
  have pn : PassesOwn (model P w) (cxOf (L2N.CX P w) P w K mg base ["b", "left", "lost", "below", "rule", "found", "last"] "added_by" (defScope s_padded_by) f cdv A outer s H E).A (cxOf (L2N.CX P w) P w K mg base ["b", "left", "lost", "below", "rule", "found", "last"] "added_by" (defScope s_padded_by) f cdv A outer s H E).env (cxOf (L2N.CX P w) P w K mg base ["b", "left", "lost", "below", "rule", "found", "last"] "added_by" (defScope s_padded_by) f cdv A outer s H E).xe := passes_of rfl
  unfold m_padded_by
  exact mss_cons (ms_if (mt_cmp (op_eqM hr.units) os_eq (me_var (i := 4) rfl (.inl v_padded_by_4)) (me_str) (nomark _)) (mss_one (ms_ret (me_fz (mo_meth hr (by decide) tk (i := 0) rfl (.inl v_padded_by_0) (pb_v (me_int) (pb_nil)) (bsh_v (bsh_nil)) rfl rfl h_pBuilder_put)))) (mss_nil)) (mss_cons (ms_if (mt_cmp (op_eqM hr.units) os_eq (me_var (i := 4) rfl (.inl v_padded_by_4)) (me_str) (nomark _)) (mss_one (ms_ret (me_fz (mo_meth hr (by decide) tk (i := 0) rfl (.inl v_padded_by_0) (pb_v (me_ix (me_var (i := 2) rfl (.inl v_padded_by_2)) (me_int)) (pb_v (me_fnc ofng_five_on (hg := (g_padded_by_five_on _ _ _))) (pb_nil))) (bsh_v (bsh_v (bsh_nil))) rfl rfl h_pBuilder_looked)))) (mss_nil)) (mss_cons (ms_if (mt_cmp (op_eqM hr.units) os_eq (me_var (i := 4) rfl (.inl v_padded_by_4)) (me_str) (nomark _)) (mss_cons (ms_set (i := 6) nd rfl (.inl v_padded_by_6) (me_non)) (mss_cons (ms_if (mt_cmp op_gt os_gt (mb_len B.len (ma_cons (me_var (i := 1) rfl (.inl v_padded_by_1)) (ma_nil)) (hg := (g_padded_by_len _ _ _))) (me_int) (nomark _)) (mss_one (ms_set (i := 6) nd rfl (.inl v_padded_by_6) (me_ix (me_var (i := 1) rfl (.inl v_padded_by_1)) (me_neg (me_int))))) (mss_nil)) (mss_one (ms_ret (me_fz (mf_callB h_ppast_half hr (by decide) tk (pb_b (i := 0) rfl (.inl v_padded_by_0) (pb_v (me_ix (me_var (i := 2) rfl (.inl v_padded_by_2)) (me_int)) (pb_v (me_sl (me_var (i := 2) rfl (.inl v_padded_by_2)) (mp_some (me_int)) (mp_none)) (pb_v (me_var (i := 6) rfl (.inl v_padded_by_6)) (pb_nil))))) (bsh_b (bsh_v (bsh_v (bsh_v (bsh_nil))))) (hg := (g_padded_by_past_half _ _ _)))))))) (mss_nil)) (mss_cons (ms_set (i := 5) nd rfl (.inl v_padded_by_5) (me_fz (mf_callB h_pany_of hr (by decide) tk (pb_b (i := 0) rfl (.inl v_padded_by_0) (pb_v (me_var (i := 2) rfl (.inl v_padded_by_2)) (pb_nil))) (bsh_b (bsh_v (bsh_nil))) (hg := (g_padded_by_any_of _ _ _))))) (mss_cons (ms_if (mt_cmp (op_eqM hr.units) os_eq (me_var (i := 4) rfl (.inl v_padded_by_4)) (me_str) (nomark _)) (mss_one (ms_ret (me_fz (mf_callB h_pboth hr (by decide) tk (pb_b (i := 0) rfl (.inl v_padded_by_0) (pb_v (me_var (i := 5) rfl (.inl v_padded_by_5)) (pb_v (me_var (i := 3) rfl (.inl v_padded_by_3)) (pb_nil)))) (bsh_b (bsh_v (bsh_v (bsh_nil)))) (hg := (g_padded_by_both _ _ _)))))) (mss_nil)) (mss_cons (ms_if (mt_cmp (op_eqM hr.units) os_eq (me_var (i := 4) rfl (.inl v_padded_by_4)) (me_str) (nomark _)) (mss_one (ms_ret (me_fz (mf_callB h_pboth hr (by decide) tk (pb_b (i := 0) rfl (.inl v_padded_by_0) (pb_v (me_var (i := 5) rfl (.inl v_padded_by_5)) (pb_v (me_fz (mo_meth hr (by decide) tk (i := 0) rfl (.inl v_padded_by_0) (pb_v (me_var (i := 3) rfl (.inl v_padded_by_3)) (pb_v (me_fnc ofng_one_of_none (hg := (g_padded_by_one_of_none _ _ _))) (pb_nil))) (bsh_v (bsh_v (bsh_nil))) rfl rfl h_pBuilder_looked)) (pb_nil)))) (bsh_b (bsh_v (bsh_v (bsh_nil)))) (hg := (g_padded_by_both _ _ _)))))) (mss_nil)) (mss_one (ms_ret (me_var (i := 5) rfl (.inl v_padded_by_5)))))))))

abbrev s_pnoughts : Stmt := top 19
theorem sc_pnoughts : FnScope ["b", "many", "k"] ["b", "many"] (defScope s_pnoughts) := ⟨rfl, rfl, rfl, by decide +kernel, rfl, by decide +kernel, by decide +kernel⟩
theorem v_pnoughts_0 : (defScope s_pnoughts).names.lookup ("b" : Str) = some NameKind.cell := by decide +kernel
theorem v_pnoughts_1 : (defScope s_pnoughts).names.lookup ("many" : Str) = some NameKind.local := by decide +kernel
theorem g_pnoughts_range (L a : Addr) (cd : Value) : (PyProof.Rows.envOfC "noughts" (defScope s_pnoughts) L a cd).kindOf ("range" : Str) = some NameKind.globalImplicit := rfl
theorem ok_pnoughts {P : Program} {w : World} {K : PySem.W.Frag} {mg : Str → Option Value} {base : Heap} {f : Addr} {fd : FuncData} (F : Fun K "noughts" "noughts" s_pnoughts f fd) (B : Bn mg) (h_pBuilder_put : ObM P w K mg base "Builder" "put" 4 ["self", "byte"] [0] f_pBuilder_put)    :
    FnOk P w K mg base (L2N.CX P w) 6 f fd ["b", "many"] (spF K mg 2 [0] f_pnoughts) := by
  refine fn_ok F sc_pnoughts (by decide) (by decide) fun cdv A outer s H E hr => ?_
  have nd := sc_pnoughts.nd
  have tk : L2N.Takes (cxOf (L2N.CX P w) P w K mg base ["b", "many", "k"] "noughts" (defScope s_pnoughts) f cdv A outer s H E) (fun cls d _ H => E cls d H) := L2N.takes_of rfl rfl rfl rfl
  have pn : PassesOwn (model P w) (cxOf (L2N.CX P w) P w K mg base ["b", "many", "k"] "noughts" (defScope s_pnoughts) f cdv A outer s H E).A (cxOf (L2N.CX P w) P w K mg base ["b", "many", "k"] "noughts" (defScope s_pnoughts) f cdv A outer s H E).env (cxOf (L2N.CX P w) P w K mg base ["b", "many", "k"] "noughts" (defScope s_pnoughts) f cdv A outer s H E).xe := passes_of rfl
  unfold m_pnoughts
  exact mss_one (ms_ret (me_fz (mo_lc (own := [("k", 2)]) (g := .nm 2) rfl nd (mi_r1 B.range (ma_cons (me_var (i := 1) rfl (.inl v_pnoughts_1)) (ma_nil)) (hg := (g_pnoughts_range _ _ _))) (blkOk_at (N' := ["b", "many", "k"]) (sc' := defScope s_pnoughts) rfl rfl (by decide +kernel)) (fun _ _ _ _ _ => pg_name (i := 2) nd rfl (Or.inl rfl)) (fun _ _ _ _ _ => mts_nil) (fun _ _ _ _ _ => me_fz (mo_methB0 h_pBuilder_put rfl rfl hr (by decide) (i := 0) rfl (by first | exact .inr (.inr rfl) | exact .inl rfl | exact .inr (.inl rfl)) (pb_v (me_int) (pb_nil)) (bsh_v (bsh_nil)))) (hbs := hbs_of rfl))))

abbrev s_pjoined : Stmt := top 48
theorem sc_pjoined : FnScope ["b", "one", "other", "to", "part"] ["b", "one", "other", "to"] (defScope s_pjoined) := ⟨rfl, rfl, rfl, by decide +kernel, rfl, by decide +kernel, by decide +kernel⟩
theorem v_pjoined_0 : (defScope s_pjoined).names.lookup ("b" : Str) = some NameKind.local := by decide +kernel
theorem v_pjoined_1 : (defScope s_pjoined).names.lookup ("one" : Str) = some NameKind.local := by decide +kernel
theorem v_pjoined_2 : (defScope s_pjoined).names.lookup ("other" : Str) = some NameKind.local := by decide +kernel
theorem v_pjoined_3 : (defScope s_pjoined).names.lookup ("to" : Str) = some NameKind.local := by decide +kernel
theorem v_pjoined_4 : (defScope s_pjoined).names.lookup ("part" : Str) = some NameKind.local := by decide +kernel
theorem g_pjoined_half_up (L a : Addr) (cd : Value) : (PyProof.Rows.envOfC "joined" (defScope s_pjoined) L a cd).kindOf ("half_up" : Str) = some NameKind.globalImplicit := rfl
theorem ok_pjoined {P : Program} {w : World} {K : PySem.W.Frag} {mg : Str → Option Value} {base : Heap} {f : Addr} {fd : FuncData} (F : Fun K "joined" "joined" s_pjoined f fd) (B : Bn mg) (h_pBuilder_looked : ObM P w K mg base "Builder" "looked" 8 ["self", "cell", "worth"] [0] f_pBuilder_looked) (h_pBuilder_row : ObM P w K mg base "Builder" "row" 2 ["self", "word", "one", "other"] [0] f_pBuilder_row) (ofng_half_up : FnG K mg "half_up")   :
    FnOk P w K mg base (L2N.CX P w) 10 f fd ["b", "one", "other", "to"] (spF K mg 4 [0] f_pjoined) := by
  refine fn_ok F sc_pjoined (by decide) (by decide) fun cdv A outer s H E hr => ?_
  have nd := sc_pjoined.nd
  have tk : L2N.Takes (cxOf (L2N.CX P w) P w K mg base ["b", "one", "other", "to", "part"] "joined" (defScope s_pjoined) f cdv A outer s H E) (fun cls d _ H => E cls d H) := L2N.takes_of rfl rfl rfl rfl
  have pn : PassesOwn (model P w) (cxOf (L2N.CX P w) P w K mg base ["b", "one", "other", "to", "part"] "joined" (defScope s_pjoined) f cdv A outer s H E).A (cxOf (L2N.CX P w) P w K mg base ["b", "one", "other", "to", "part"] "joined" (defScope s_pjoined) f cdv A outer s H E).env (cxOf (L2N.CX P w) P w K mg base ["b", "one", "other", "to", "part"] "joined" (defScope s_pjoined) f cdv A outer s H E).xe := passes_of rfl
  unfold m_pjoined
  exact mss_cons (ms_set (i := 4) nd rfl (.inl v_pjoined_4) (me_fz (mo_meth hr (by decide) tk (i := 0) rfl (.inl v_pjoined_0) (pb_v (me_var (i := 1) rfl (.inl v_pjoined_1)) (pb_v (me_fnc ofng_half_up (hg := (g_pjoined_half_up _ _ _))) (pb_nil))) (bsh_v (bsh_v (bsh_nil))) rfl rfl h_pBuilder_looked))) (mss_cons (ms_expr (me_fz (mo_meth hr (by decide) tk (i := 0) rfl (.inl v_pjoined_0) (pb_v (me_str) (pb_v (me_var (i := 4) rfl (.inl v_pjoined_4)) (pb_v (me_var (i := 2) rfl (.inl v_pjoined_2)) (pb_nil)))) (bsh_v (bsh_v (bsh_v (bsh_nil)))) rfl rfl h_pBuilder_row))) (mss_one (ms_expr (me_fz (mo_meth hr (by decide) tk (i := 0) rfl (.inl v_pjoined_0) (pb_v (me_str) (pb_v (me_var (i := 3) rfl (.inl v_pjoined_3)) (pb_v (me_var (i := 4) rfl (.inl v_pjoined_4)) (pb_nil)))) (bsh_v (bsh_v (bsh_v (bsh_nil)))) rfl rfl h_pBuilder_row)))))

abbrev s_pstored : Stmt := top 49
theorem sc_pstored : FnScope ["b", "form", "figures", "below", "at", "sign", "halves", "k", "zone"] ["b", "form", "figures", "below", "at"] (defScope s_pstored) := ⟨rfl, rfl, rfl, by decide +kernel, rfl, by decide +kernel, by decide +kernel⟩
theorem v_pstored_0 : (defScope s_pstored).names.lookup ("b" : Str) = some NameKind.local := by decide +kernel
theorem v_pstored_1 : (defScope s_pstored).names.lookup ("form" : Str) = some NameKind.local := by decide +kernel
theorem v_pstored_2 : (defScope s_pstored).names.lookup ("figures" : Str) = some NameKind.local := by decide +kernel
theorem v_pstored_3 : (defScope s_pstored).names.lookup ("below" : Str) = some NameKind.local := by decide +kernel
theorem v_pstored_4 : (defScope s_pstored).names.lookup ("at" : Str) = some NameKind.local := by decide +kernel
theorem v_pstored_5 : (defScope s_pstored).names.lookup ("sign" : Str) = some NameKind.local := by decide +kernel
theorem v_pstored_6 : (defScope s_pstored).names.lookup ("halves" : Str) = some NameKind.local := by decide +kernel
theorem v_pstored_7 : (defScope s_pstored).names.lookup ("k" : Str) = some NameKind.local := by decide +kernel
theorem v_pstored_8 : (defScope s_pstored).names.lookup ("zone" : Str) = some NameKind.local := by decide +kernel
theorem g_pstored_PLUS (L a : Addr) (cd : Value) : (PyProof.Rows.envOfC "stored" (defScope s_pstored) L a cd).kindOf ("PLUS" : Str) = some NameKind.globalImplicit := rfl
theorem g_pstored_ZONE (L a : Addr) (cd : Value) : (PyProof.Rows.envOfC "stored" (defScope s_pstored) L a cd).kindOf ("ZONE" : Str) = some NameKind.globalImplicit := rfl
theorem g_pstored_range (L a : Addr) (cd : Value) : (PyProof.Rows.envOfC "stored" (defScope s_pstored) L a cd).kindOf ("range" : Str) = some NameKind.globalImplicit := rfl
theorem g_pstored_joined (L a : Addr) (cd : Value) : (PyProof.Rows.envOfC "stored" (defScope s_pstored) L a cd).kindOf ("joined" : Str) = some NameKind.globalImplicit := rfl
theorem g_pstored_halves_of (L a : Addr) (cd : Value) : (PyProof.Rows.envOfC "stored" (defScope s_pstored) L a cd).kindOf ("halves_of" : Str) = some NameKind.globalImplicit := rfl
theorem g_pstored_noughts (L a : Addr) (cd : Value) : (PyProof.Rows.envOfC "stored" (defScope s_pstored) L a cd).kindOf ("noughts" : Str) = some NameKind.globalImplicit := rfl
theorem g_pstored_list (L a : Addr) (cd : Value) : (PyProof.Rows.envOfC "stored" (defScope s_pstored) L a cd).kindOf ("list" : Str) = some NameKind.globalImplicit := rfl
theorem g_pstored_len (L a : Addr) (cd : Value) : (PyProof.Rows.envOfC "stored" (defScope s_pstored) L a cd).kindOf ("len" : Str) = some NameKind.globalImplicit := rfl
theorem ok_pstored {P : Program} {w : World} {K : PySem.W.Frag} {mg : Str → Option Value} {base : Heap} {f : Addr} {fd : FuncData} (F : Fun K "stored" "stored" s_pstored f fd) (B : Bn mg) (h_pBuilder_put : ObM P w K mg base "Builder" "put" 4 ["self", "byte"] [0] f_pBuilder_put) (h_pBuilder_row : ObM P w K mg base "Builder" "row" 2 ["self", "word", "one", "other"] [0] f_pBuilder_row) (h_pjoined : Fd P w K mg base "joined" 10 ["b", "one", "other", "to"] [0] f_pjoined) (h_pnoughts : Fd P w K mg base "noughts" 6 ["b", "many"] [0] f_pnoughts) (h_phalves_of : Fd P w K mg base "halves_of" 2 ["form"] [] f_phalves_of)   (c_PLUS : Cst K mg "PLUS" (.int 12)) (c_ZONE : Cst K mg "ZONE" (.int 240)) :
    FnOk P w K mg base (L2N.CX P w) 12 f fd ["b", "form", "figures", "below", "at"] (spF K mg 5 [0] f_pstored) := by
  refine fn_ok F sc_pstored (by decide) (by decide) fun cdv A outer s H E hr => ?_
  have nd := sc_pstored.nd
  have tk : L2N.Takes (cxOf (L2N.CX P w) P w K mg base ["b", "form", "figures", "below", "at", "sign", "halves", "k", "zone"] "stored" (defScope s_pstored) f cdv A outer s H E) (fun cls d _ H => E cls d H) := L2N.takes_of rfl rfl rfl rfl
  have pn : PassesOwn (model P w) (cxOf (L2N.CX P w) P w K mg base ["b", "form", "figures", "below", "at", "sign", "halves", "k", "zone"] "stored" (defScope s_pstored) f cdv A outer s H E).A (cxOf (L2N.CX P w) P w K mg base ["b", "form", "figures", "below", "at", "sign", "halves", "k", "zone"] "stored" (defScope s_pstored) f cdv A outer s H E).env (cxOf (L2N.CX P w) P w K mg base ["b", "form", "figures", "below", "at", "sign", "halves", "k", "zone"] "stored" (defScope s_pstored) f cdv A outer s H E).xe := passes_of rfl
  unfold m_pstored
  exact mss_cons (ms_set (i := 5) nd rfl (.inl v_pstored_5) (me_fz (mo_meth hr (by decide) tk (i := 0) rfl (.inl v_pstored_0) (pb_v (mf_con c_PLUS (hg := (g_pstored_PLUS _ _ _))) (pb_nil)) (bsh_v (bsh_nil)) rfl rfl h_pBuilder_put))) (mss_cons (ms_expr (me_fz (mo_meth hr (by decide) tk (i := 0) rfl (.inl v_pstored_0) (pb_v (me_str) (pb_v (me_var (i := 5) rfl (.inl v_pstored_5)) (pb_v (me_var (i := 3) rfl (.inl v_pstored_3)) (pb_nil)))) (bsh_v (bsh_v (bsh_v (bsh_nil)))) rfl rfl h_pBuilder_row))) (mss_cons (ms_if (mt_cmp (op_eqM hr.units) os_eq (me_ix (me_var (i := 1) rfl (.inl v_pstored_1)) (me_int)) (me_str) (nomark _)) (mss_cons (ms_set (i := 8) nd rfl (.inl v_pstored_8) (me_fz (mo_meth hr (by decide) tk (i := 0) rfl (.inl v_pstored_0) (pb_v (mf_con c_ZONE (hg := (g_pstored_ZONE _ _ _))) (pb_nil)) (bsh_v (bsh_nil)) rfl rfl h_pBuilder_put))) (mss_cons (ms_for pn rfl (mi_r1 B.range (ma_cons (me_ix (me_var (i := 1) rfl (.inl v_pstored_1)) (me_int)) (ma_nil)) (hg := (g_pstored_range _ _ _))) (mg_name (i := 7) nd rfl (.inl v_pstored_7)) (mss_cons (ms_expr (me_fz (mo_meth hr (by decide) tk (i := 0) rfl (.inl v_pstored_0) (pb_v (me_str) (pb_v (me_add (me_var (i := 4) rfl (.inl v_pstored_4)) (me_var (i := 7) rfl (.inl v_pstored_7))) (pb_v (me_ix (me_var (i := 2) rfl (.inl v_pstored_2)) (me_var (i := 7) rfl (.inl v_pstored_7))) (pb_nil)))) (bsh_v (bsh_v (bsh_v (bsh_nil)))) rfl rfl h_pBuilder_row))) (mss_one (ms_if (PW.pt (mw_or (mt_cmp op_lt os_lt (me_var (i := 7) rfl (.inl v_pstored_7)) (me_sub (me_ix (me_var (i := 1) rfl (.inl v_pstored_1)) (me_int)) (me_int)) (nomark _)) (mw_one_or (mt_cmp (op_neM hr.units) os_ne (me_ix (me_var (i := 1) rfl (.inl v_pstored_1)) (me_int)) (me_str) (nomark _))))) (mss_one (ms_expr (me_fz (mo_meth hr (by decide) tk (i := 0) rfl (.inl v_pstored_0) (pb_v (me_str) (pb_v (me_add (me_var (i := 4) rfl (.inl v_pstored_4)) (me_var (i := 7) rfl (.inl v_pstored_7))) (pb_v (me_var (i := 8) rfl (.inl v_pstored_8)) (pb_nil)))) (bsh_v (bsh_v (bsh_v (bsh_nil)))) rfl rfl h_pBuilder_row)))) (mss_one (ms_expr (me_fz (mf_callB h_pjoined hr (by decide) tk (pb_b (i := 0) rfl (.inl v_pstored_0) (pb_v (me_var (i := 5) rfl (.inl v_pstored_5)) (pb_v (me_ix (me_var (i := 2) rfl (.inl v_pstored_2)) (me_var (i := 7) rfl (.inl v_pstored_7))) (pb_v (me_add (me_var (i := 4) rfl (.inl v_pstored_4)) (me_var (i := 7) rfl (.inl v_pstored_7))) (pb_nil))))) (bsh_b (bsh_v (bsh_v (bsh_v (bsh_nil))))) (hg := (g_pstored_joined _ _ _)))))))))) (mss_one (ms_retN)))) (mss_nil)) (mss_cons (ms_setO (i := 6) nd rfl (.inl v_pstored_6) (mo_add (me_fz (mf_callB h_pnoughts hr (by decide) tk (pb_b (i := 0) rfl (.inl v_pstored_0) (pb_v (me_ix (me_fz (mf_call h_phalves_of hr (by decide) tk (ma_cons (me_var (i := 1) rfl (.inl v_pstored_1)) (ma_nil)) (lng_cons lng_nil) (hg := (g_pstored_halves_of _ _ _)))) (me_int)) (pb_nil))) (bsh_b (bsh_v (bsh_nil))) (hg := (g_pstored_noughts _ _ _)))) (mb_list B.list (ma_cons (me_var (i := 2) rfl (.inl v_pstored_2)) (ma_nil)) (hg := (g_pstored_list _ _ _))))) (mss_cons (ms_if (mt_cmp (op_eqM hr.units) os_eq (me_ix (me_var (i := 1) rfl (.inl v_pstored_1)) (me_int)) (me_str) (nomark _)) (mss_one (ms_expr (me_lm1 ls_append PySem.F.slot_list_append PySem.F.type_list_append mt_append (i := 6) rfl (.inl v_pstored_6) (ma_cons (me_var (i := 5) rfl (.inl v_pstored_5)) (ma_nil))))) (mss_nil)) (mss_one (ms_for pn rfl (mi_r3 B.range (ma_cons (me_int) (ma_cons (me_lenV B.len (i := 6) rfl (.inl v_pstored_6) (hg := (g_pstored_len _ _ _))) (ma_cons (me_int) (ma_nil)))) (hg := (g_pstored_range _ _ _))) (mg_name (i := 7) nd rfl (.inl v_pstored_7)) (mss_one (ms_expr (me_fz (mf_callB h_pjoined hr (by decide) tk (pb_b (i := 0) rfl (.inl v_pstored_0) (pb_v (me_ixV (i := 6) rfl (.inl v_pstored_6) (me_var (i := 7) rfl (.inl v_pstored_7))) (pb_v (me_ixV (i := 6) rfl (.inl v_pstored_6) (me_add (me_var (i := 7) rfl (.inl v_pstored_7)) (me_int))) (pb_v (me_add (me_var (i := 4) rfl (.inl v_pstored_4)) (me_div (me_var (i := 7) rfl (.inl v_pstored_7)) (me_int))) (pb_nil))))) (bsh_b (bsh_v (bsh_v (bsh_v (bsh_nil))))) (hg := (g_pstored_joined _ _ _))))))))))))

abbrev s_ptaken : Stmt := top 20
theorem sc_ptaken : FnScope ["b", "cells", "cell"] ["b", "cells"] (defScope s_ptaken) := ⟨rfl, rfl, rfl, by decide +kernel, rfl, by decide +kernel, by decide +kernel⟩
theorem v_ptaken_0 : (defScope s_ptaken).names.lookup ("b" : Str) = some NameKind.cell := by decide +kernel
theorem v_ptaken_1 : (defScope s_ptaken).names.lookup ("cells" : Str) = some NameKind.local := by decide +kernel
theorem ok_ptaken {P : Program} {w : World} {K : PySem.W.Frag} {mg : Str → Option Value} {base : Heap} {f : Addr} {fd : FuncData} (F : Fun K "taken" "taken" s_ptaken f fd) (B : Bn mg) (h_pBuilder_copied : ObM P w K mg base "Builder" "copied" 4 ["self", "cell"] [0] f_pBuilder_copied)    :
    FnOk P w K mg base (L2N.CX P w) 6 f fd ["b", "cells"] (spF K mg 2 [0] f_ptaken) := by
  refine fn_ok F sc_ptaken (by decide) (by decide) fun cdv A outer s H E hr => ?_
  have nd := sc_ptaken.nd
  have tk : L2N.Takes (cxOf (L2N.CX P w) P w K mg base ["b", "cells", "cell"] "taken" (defScope s_ptaken) f cdv A outer s H E) (fun cls d _ H => E cls d H) := L2N.takes_of rfl rfl rfl rfl
  have pn : PassesOwn (model P w) (cxOf (L2N.CX P w) P w K mg base ["b", "cells", "cell"] "taken" (defScope s_ptaken) f cdv A outer s H E).A (cxOf (L2N.CX P w) P w K mg base ["b", "cells", "cell"] "taken" (defScope s_ptaken) f cdv A outer s H E).env (cxOf (L2N.CX P w) P w K mg base ["b", "cells", "cell"] "taken" (defScope s_ptaken) f cdv A outer s H E).xe := passes_of rfl
  unfold m_ptaken
  exact mss_one (ms_ret (me_fz (mo_lc (own := [("cell", 2)]) (g := .nm 2) rfl nd (mi_val (me_var (i := 1) rfl (.inl v_ptaken_1))) (blkOk_at (N' := ["b", "cells", "cell"]) (sc' := defScope s_ptaken) rfl rfl (by decide +kernel)) (fun _ _ _ _ _ => pg_name (i := 2) nd rfl (Or.inl rfl)) (fun _ _ _ _ _ => mts_nil) (fun _ _ _ _ _ => me_fz (mo_methB0 h_pBuilder_copied rfl rfl hr (by decide) (i := 0) rfl (by first | exact .inr (.inr rfl) | exact .inl rfl | exact .inr (.inl rfl)) (pb_v (me_var (i := 2) rfl (.inl rfl)) (pb_nil)) (bsh_v (bsh_nil)))) (hbs := hbs_of rfl))))

abbrev s_pfinished : Stmt := top 50
theorem sc_pfinished : FnScope ["b", "form", "figures", "below", "at", "lower", "more", "real", "seen"] ["b", "form", "figures", "below", "at"] (defScope s_pfinished) := ⟨rfl, rfl, rfl, by decide +kernel, rfl, by decide +kernel, by decide +kernel⟩
theorem v_pfinished_0 : (defScope s_pfinished).names.lookup ("b" : Str) = some NameKind.local := by decide +kernel
theorem v_pfinished_1 : (defScope s_pfinished).names.lookup ("form" : Str) = some NameKind.local := by decide +kernel
theorem v_pfinished_2 : (defScope s_pfinished).names.lookup ("figures" : Str) = some NameKind.local := by decide +kernel
theorem v_pfinished_3 : (defScope s_pfinished).names.lookup ("below" : Str) = some NameKind.local := by decide +kernel
theorem v_pfinished_4 : (defScope s_pfinished).names.lookup ("at" : Str) = some NameKind.local := by decide +kernel
theorem v_pfinished_5 : (defScope s_pfinished).names.lookup ("lower" : Str) = some NameKind.local := by decide +kernel
theorem v_pfinished_6 : (defScope s_pfinished).names.lookup ("more" : Str) = some NameKind.local := by decide +kernel
theorem v_pfinished_7 : (defScope s_pfinished).names.lookup ("real" : Str) = some NameKind.local := by decide +kernel
theorem v_pfinished_8 : (defScope s_pfinished).names.lookup ("seen" : Str) = some NameKind.local := by decide +kernel
theorem g_pfinished_len (L a : Addr) (cd : Value) : (PyProof.Rows.envOfC "finished" (defScope s_pfinished) L a cd).kindOf ("len" : Str) = some NameKind.globalImplicit := rfl
theorem g_pfinished_max (L a : Addr) (cd : Value) : (PyProof.Rows.envOfC "finished" (defScope s_pfinished) L a cd).kindOf ("max" : Str) = some NameKind.globalImplicit := rfl
theorem g_pfinished_noughts (L a : Addr) (cd : Value) : (PyProof.Rows.envOfC "finished" (defScope s_pfinished) L a cd).kindOf ("noughts" : Str) = some NameKind.globalImplicit := rfl
theorem g_pfinished_taken (L a : Addr) (cd : Value) : (PyProof.Rows.envOfC "finished" (defScope s_pfinished) L a cd).kindOf ("taken" : Str) = some NameKind.globalImplicit := rfl
theorem g_pfinished_any_of (L a : Addr) (cd : Value) : (PyProof.Rows.envOfC "finished" (defScope s_pfinished) L a cd).kindOf ("any_of" : Str) = some NameKind.globalImplicit := rfl
theorem g_pfinished_both (L a : Addr) (cd : Value) : (PyProof.Rows.envOfC "finished" (defScope s_pfinished) L a cd).kindOf ("both" : Str) = some NameKind.globalImplicit := rfl
theorem g_pfinished_stored (L a : Addr) (cd : Value) : (PyProof.Rows.envOfC "finished" (defScope s_pfinished) L a cd).kindOf ("stored" : Str) = some NameKind.globalImplicit := rfl
theorem g_pfinished_turn_by (L a : Addr) (cd : Value) : (PyProof.Rows.envOfC "finished" (defScope s_pfinished) L a cd).kindOf ("turn_by" : Str) = some NameKind.globalImplicit := rfl
theorem g_pfinished_five_on (L a : Addr) (cd : Value) : (PyProof.Rows.envOfC "finished" (defScope s_pfinished) L a cd).kindOf ("five_on" : Str) = some NameKind.globalImplicit := rfl
theorem g_pfinished_one_of_two (L a : Addr) (cd : Value) : (PyProof.Rows.envOfC "finished" (defScope s_pfinished) L a cd).kindOf ("one_of_two" : Str) = some NameKind.globalImplicit := rfl
theorem ok_pfinished {P : Program} {w : World} {K : PySem.W.Frag} {mg : Str → Option Value} {base : Heap} {f : Addr} {fd : FuncData} (F : Fun K "finished" "finished" s_pfinished f fd) (B : Bn mg) (h_pnoughts : Fd P w K mg base "noughts" 6 ["b", "many"] [0] f_pnoughts) (h_ptaken : Fd P w K mg base "taken" 6 ["b", "cells"] [0] f_ptaken) (h_pany_of : Fd P w K mg base "any_of" 8 ["b", "cells"] [0] f_pany_of) (h_pboth : Fd P w K mg base "both" 6 ["b", "one", "other"] [0] f_pboth) (h_pstored : Fd P w K mg base "stored" 12 ["b", "form", "figures", "below", "at"] [0] f_pstored) (h_pturn_by : Fd P w K mg base "turn_by" 10 ["b", "figures", "flag"] [0] f_pturn_by) (h_pBuilder_looked : ObM P w K mg base "Builder" "looked" 8 ["self", "cell", "worth"] [0] f_pBuilder_looked) (h_pBuilder_row : ObM P w K mg base "Builder" "row" 2 ["self", "word", "one", "other"] [0] f_pBuilder_row) (h_pBuilder_look : ObM P w K mg base "Builder" "look" 6 ["self", "cell", "worth"] [0] f_pBuilder_look) (ofng_five_on : FnG K mg "five_on") (ofng_one_of_two : FnG K mg "one_of_two")   :
    FnOk P w K mg base (L2N.CX P w) 14 f fd ["b", "form", "figures", "below", "at"] (spF K mg 5 [0] f_pfinished) := by
  refine fn_ok F sc_pfinished (by decide) (by decide) fun cdv A outer s H E hr => ?_
  have nd := sc_pfinished.nd
  have tk : L2N.Takes (cxOf (L2N.CX P w) P w K mg base ["b", "form", "figures", "below", "at", "lower", "more", "real", "seen"] "finished" (defScope s_pfinished) f cdv A outer s H E) (fun cls d _ H => E cls d H) := L2N.takes_of rfl rfl rfl rfl
  have pn : PassesOwn (model P w) (cxOf (L2N.CX P w) P w K mg base ["b", "form", "figures", "below", "at", "lower", "more", "real", "seen"] "finished" (defScope s_pfinished) f cdv A outer s H E).A (cxOf (L2N.CX P w) P w K mg base ["b", "form", "figures", "below", "at", "lower", "more", "real", "seen"] "finished" (defScope s_pfinished) f cdv A outer s H E).env (cxOf (L2N.CX P w) P w K mg base ["b", "form", "figures", "below", "at", "lower", "more", "real", "seen"] "finished" (defScope s_pfinished) f cdv A outer s H E).xe := passes_of rfl
  unfold m_pfinished
  exact mss_cons (ms_set (i := 5) nd rfl (.inl v_pfinished_5) (me_add (me_fz (mf_callB h_pnoughts hr (by decide) tk (pb_b (i := 0) rfl (.inl v_pfinished_0) (pb_v (mb_max rfl B.max (ma_cons (me_int) (ma_cons (me_sub (me_ix (me_var (i := 1) rfl (.inl v_pfinished_1)) (me_int)) (mb_len B.len (ma_cons (me_var (i := 2) rfl (.inl v_pfinished_2)) (ma_nil)) (hg := (g_pfinished_len _ _ _)))) (ma_nil))) (hg := (g_pfinished_max _ _ _))) (pb_nil))) (bsh_b (bsh_v (bsh_nil))) (hg := (g_pfinished_noughts _ _ _)))) (me_fz (mf_callB h_ptaken hr (by decide) tk (pb_b (i := 0) rfl (.inl v_pfinished_0) (pb_v (me_sl (me_var (i := 2) rfl (.inl v_pfinished_2)) (mp_some (me_neg (me_ix (me_var (i := 1) rfl (.inl v_pfinished_1)) (me_int)))) (mp_none)) (pb_nil))) (bsh_b (bsh_v (bsh_nil))) (hg := (g_pfinished_taken _ _ _)))))) (mss_cons (ms_set (i := 6) nd rfl (.inl v_pfinished_6) (me_fz (mf_callB h_pany_of hr (by decide) tk (pb_b (i := 0) rfl (.inl v_pfinished_0) (pb_v (me_sl (me_var (i := 2) rfl (.inl v_pfinished_2)) (mp_none) (mp_some (mb_max rfl B.max (ma_cons (me_int) (ma_cons (me_sub (mb_len B.len (ma_cons (me_var (i := 2) rfl (.inl v_pfinished_2)) (ma_nil)) (hg := (g_pfinished_len _ _ _))) (me_ix (me_var (i := 1) rfl (.inl v_pfinished_1)) (me_int))) (ma_nil))) (hg := (g_pfinished_max _ _ _))))) (pb_nil))) (bsh_b (bsh_v (bsh_nil))) (hg := (g_pfinished_any_of _ _ _))))) (mss_cons (ms_set (i := 7) nd rfl (.inl v_pfinished_7) (me_fz (mf_callB h_pboth hr (by decide) tk (pb_b (i := 0) rfl (.inl v_pfinished_0) (pb_v (me_fz (mf_callB h_pany_of hr (by decide) tk (pb_b (i := 0) rfl (.inl v_pfinished_0) (pb_v (me_var (i := 2) rfl (.inl v_pfinished_2)) (pb_nil))) (bsh_b (bsh_v (bsh_nil))) (hg := (g_pfinished_any_of _ _ _)))) (pb_v (me_var (i := 3) rfl (.inl v_pfinished_3)) (pb_nil)))) (bsh_b (bsh_v (bsh_v (bsh_nil)))) (hg := (g_pfinished_both _ _ _))))) (mss_cons (ms_if (mt_cmp (op_eqM hr.units) os_eq (me_ix (me_var (i := 1) rfl (.inl v_pfinished_1)) (me_int)) (me_str) (nomark _)) (mss_cons (ms_expr (me_fz (mf_callB h_pstored hr (by decide) tk (pb_b (i := 0) rfl (.inl v_pfinished_0) (pb_v (me_var (i := 1) rfl (.inl v_pfinished_1)) (pb_v (me_var (i := 5) rfl (.inl v_pfinished_5)) (pb_v (me_fz (mf_callB h_pboth hr (by decide) tk (pb_b (i := 0) rfl (.inl v_pfinished_0) (pb_v (me_fz (mf_callB h_pany_of hr (by decide) tk (pb_b (i := 0) rfl (.inl v_pfinished_0) (pb_v (me_var (i := 5) rfl (.inl v_pfinished_5)) (pb_nil))) (bsh_b (bsh_v (bsh_nil))) (hg := (g_pfinished_any_of _ _ _)))) (pb_v (me_var (i := 3) rfl (.inl v_pfinished_3)) (pb_nil)))) (bsh_b (bsh_v (bsh_v (bsh_nil)))) (hg := (g_pfinished_both _ _ _)))) (pb_v (me_var (i := 4) rfl (.inl v_pfinished_4)) (pb_nil)))))) (bsh_b (bsh_v (bsh_v (bsh_v (bsh_v (bsh_nil)))))) (hg := (g_pfinished_stored _ _ _))))) (mss_one (ms_ret (me_var (i := 6) rfl (.inl v_pfinished_6))))) (mss_nil)) (mss_cons (ms_expr (me_fz (mf_callB h_pturn_by hr (by decide) tk (pb_b (i := 0) rfl (.inl v_pfinished_0) (pb_v (me_var (i := 5) rfl (.inl v_pfinished_5)) (pb_v (me_var (i := 7) rfl (.inl v_pfinished_7)) (pb_nil)))) (bsh_b (bsh_v (bsh_v (bsh_nil)))) (hg := (g_pfinished_turn_by _ _ _))))) (mss_cons (ms_if (mt_cmp (op_eqM hr.units) os_eq (me_ix (me_var (i := 1) rfl (.inl v_pfinished_1)) (me_int)) (me_str) (nomark _)) (mss_cons (ms_set (i := 8) nd rfl (.inl v_pfinished_8) (me_fz (mo_meth hr (by decide) tk (i := 0) rfl (.inl v_pfinished_0) (pb_v (me_ix (me_var (i := 5) rfl (.inl v_pfinished_5)) (me_int)) (pb_v (me_fnc ofng_five_on (hg := (g_pfinished_five_on _ _ _))) (pb_nil))) (bsh_v (bsh_v (bsh_nil))) rfl rfl h_pBuilder_looked))) (mss_cons (ms_expr (me_fz (mo_meth hr (by decide) tk (i := 0) rfl (.inl v_pfinished_0) (pb_v (me_str) (pb_v (me_var (i := 8) rfl (.inl v_pfinished_8)) (pb_v (me_var (i := 7) rfl (.inl v_pfinished_7)) (pb_nil)))) (bsh_v (bsh_v (bsh_v (bsh_nil)))) rfl rfl h_pBuilder_row))) (mss_cons (ms_expr (me_fz (mo_meth hr (by decide) tk (i := 0) rfl (.inl v_pfinished_0) (pb_v (me_str) (pb_v (me_var (i := 8) rfl (.inl v_pfinished_8)) (pb_v (me_var (i := 7) rfl (.inl v_pfinished_7)) (pb_nil)))) (bsh_v (bsh_v (bsh_v (bsh_nil)))) rfl rfl h_pBuilder_row))) (mss_cons (ms_expr (me_fz (mo_meth hr (by decide) tk (i := 0) rfl (.inl v_pfinished_0) (pb_v (me_var (i := 8) rfl (.inl v_pfinished_8)) (pb_v (me_fnc ofng_one_of_two (hg := (g_pfinished_one_of_two _ _ _))) (pb_nil))) (bsh_v (bsh_v (bsh_nil))) rfl rfl h_pBuilder_look))) (mss_one (ms_expr (me_fz (mo_meth hr (by decide) tk (i := 0) rfl (.inl v_pfinished_0) (pb_v (me_str) (pb_v (me_var (i := 6) rfl (.inl v_pfinished_6)) (pb_v (me_var (i := 8) rfl (.inl v_pfinished_8)) (pb_nil)))) (bsh_v (bsh_v (bsh_v (bsh_nil)))) rfl rfl h_pBuilder_row)))))))) (mss_one (ms_expr (me_fz (mo_meth hr (by decide) tk (i := 0) rfl (.inl v_pfinished_0) (pb_v (me_str) (pb_v (me_var (i := 6) rfl (.inl v_pfinished_6)) (pb_v (me_var (i := 7) rfl (.inl v_pfinished_7)) (pb_nil)))) (bsh_v (bsh_v (bsh_v (bsh_nil)))) rfl rfl h_pBuilder_row))))) (mss_cons (ms_expr (me_fz (mf_callB h_pstored hr (by decide) tk (pb_b (i := 0) rfl (.inl v_pfinished_0) (pb_v (me_var (i := 1) rfl (.inl v_pfinished_1)) (pb_v (me_var (i := 5) rfl (.inl v_pfinished_5)) (pb_v (me_var (i := 3) rfl (.inl v_pfinished_3)) (pb_v (me_var (i := 4) rfl (.inl v_pfinished_4)) (pb_nil)))))) (bsh_b (bsh_v (bsh_v (bsh_v (bsh_v (bsh_nil)))))) (hg := (g_pfinished_stored _ _ _))))) (mss_one (ms_ret (me_var (i := 6) rfl (.inl v_pfinished_6))))))))))

abbrev s_pmoved_rows : Stmt := top 56
theorem sc_pmoved_rows : FnScope ["form", "by", "rule", "b", "left", "carry", "size", "cell", "figures", "below"] ["form", "by", "rule"] (defScope s_pmoved_rows) := ⟨rfl, rfl, rfl, by decide +kernel, rfl, by decide +kernel, by decide +kernel⟩
theorem v_pmoved_rows_0 : (defScope s_pmoved_rows).names.lookup ("form" : Str) = some NameKind.local := by decide +kernel
theorem v_pmoved_rows_1 : (defScope s_pmoved_rows).names.lookup ("by" : Str) = some NameKind.local := by decide +kernel
theorem v_pmoved_rows_2 : (defScope s_pmoved_rows).names.lookup ("rule" : Str) = some NameKind.local := by decide +kernel
theorem v_pmoved_rows_3 : (defScope s_pmoved_rows).names.lookup ("b" : Str) = some NameKind.local := by decide +kernel
theorem v_pmoved_rows_4 : (defScope s_pmoved_rows).names.lookup ("left" : Str) = some NameKind.local := by decide +kernel
theorem v_pmoved_rows_5 : (defScope s_pmoved_rows).names.lookup ("carry" : Str) = some NameKind.local := by decide +kernel
theorem v_pmoved_rows_6 : (defScope s_pmoved_rows).names.lookup ("size" : Str) = some NameKind.local := by decide +kernel
theorem v_pmoved_rows_7 : (defScope s_pmoved_rows).names.lookup ("cell" : Str) = some NameKind.local := by decide +kernel
theorem v_pmoved_rows_8 : (defScope s_pmoved_rows).names.lookup ("figures" : Str) = some NameKind.local := by decide +kernel
theorem v_pmoved_rows_9 : (defScope s_pmoved_rows).names.lookup ("below" : Str) = some NameKind.local := by decide +kernel
theorem g_pmoved_rows_RULES (L a : Addr) (cd : Value) : (PyProof.Rows.envOfC "moved_rows" (defScope s_pmoved_rows) L a cd).kindOf ("RULES" : Str) = some NameKind.globalImplicit := rfl
theorem g_pmoved_rows_NoRule (L a : Addr) (cd : Value) : (PyProof.Rows.envOfC "moved_rows" (defScope s_pmoved_rows) L a cd).kindOf ("NoRule" : Str) = some NameKind.globalImplicit := rfl
theorem g_pmoved_rows_abs (L a : Addr) (cd : Value) : (PyProof.Rows.envOfC "moved_rows" (defScope s_pmoved_rows) L a cd).kindOf ("abs" : Str) = some NameKind.globalImplicit := rfl
theorem g_pmoved_rows_TooLong (L a : Addr) (cd : Value) : (PyProof.Rows.envOfC "moved_rows" (defScope s_pmoved_rows) L a cd).kindOf ("TooLong" : Str) = some NameKind.globalImplicit := rfl
theorem g_pmoved_rows_Builder (L a : Addr) (cd : Value) : (PyProof.Rows.envOfC "moved_rows" (defScope s_pmoved_rows) L a cd).kindOf ("Builder" : Str) = some NameKind.globalImplicit := rfl
theorem g_pmoved_rows_loaded (L a : Addr) (cd : Value) : (PyProof.Rows.envOfC "moved_rows" (defScope s_pmoved_rows) L a cd).kindOf ("loaded" : Str) = some NameKind.globalImplicit := rfl
theorem g_pmoved_rows_noughts (L a : Addr) (cd : Value) : (PyProof.Rows.envOfC "moved_rows" (defScope s_pmoved_rows) L a cd).kindOf ("noughts" : Str) = some NameKind.globalImplicit := rfl
theorem g_pmoved_rows_finished (L a : Addr) (cd : Value) : (PyProof.Rows.envOfC "moved_rows" (defScope s_pmoved_rows) L a cd).kindOf ("finished" : Str) = some NameKind.globalImplicit := rfl
theorem g_pmoved_rows_added_by (L a : Addr) (cd : Value) : (PyProof.Rows.envOfC "moved_rows" (defScope s_pmoved_rows) L a cd).kindOf ("added_by" : Str) = some NameKind.globalImplicit := rfl
theorem g_pmoved_rows_reversed (L a : Addr) (cd : Value) : (PyProof.Rows.envOfC "moved_rows" (defScope s_pmoved_rows) L a cd).kindOf ("reversed" : Str) = some NameKind.globalImplicit := rfl
theorem g_pmoved_rows_carried (L a : Addr) (cd : Value) : (PyProof.Rows.envOfC "moved_rows" (defScope s_pmoved_rows) L a cd).kindOf ("carried" : Str) = some NameKind.globalImplicit := rfl
theorem ok_pmoved_rows {P : Program} {w : World} {K : PySem.W.Frag} {mg : Str → Option Value} {base : Heap} {f : Addr} {fd : FuncData} (F : Fun K "moved_rows" "moved_rows" s_pmoved_rows f fd) (B : Bn mg) (h_pBuilder_init : ObN P w K mg base "Builder" 2 f_pBuilder_init) (h_ploaded : Fd P w K mg base "loaded" 12 ["b", "form", "at"] [0] f_ploaded) (h_pBuilder_ended : ObM P w K mg base "Builder" "ended" 6 ["self", "cell"] [0] f_pBuilder_ended) (h_pfinished : Fd P w K mg base "finished" 14 ["b", "form", "figures", "below", "at"] [0] f_pfinished) (h_pnoughts : Fd P w K mg base "noughts" 6 ["b", "many"] [0] f_pnoughts) (h_padded_by : Fd P w K mg base "added_by" 12 ["b", "left", "lost", "below", "rule"] [0] f_padded_by) (h_pcarried : Fd P w K mg base "carried" 8 ["b", "cell", "carry"] [0] f_pcarried)  (xcl1_NoRule_rule : Cl1 P w K mg base "NoRule" "rule") (xcl1_TooLong_number : Cl1 P w K mg base "TooLong" "number") (c_RULES : Cst K mg "RULES" (.tup [(.str "cut"), (.str "up"), (.str "half"), (.str "even"), (.str "floor"), (.str "ceil")])) :
    FnOk P w K mg base (L2N.CX P w) 16 f fd ["form", "by", "rule"] (spF K mg 3 [] f_pmoved_rows) := by
  refine fn_ok F sc_pmoved_rows (by decide) (by decide) fun cdv A outer s H E hr => ?_
  have nd := sc_pmoved_rows.nd
  have tk : L2N.Takes (cxOf (L2N.CX P w) P w K mg base ["form", "by", "rule", "b", "left", "carry", "size", "cell", "figures", "below"] "moved_rows" (defScope s_pmoved_rows) f cdv A outer s H E) (fun cls d _ H => E cls d H) := L2N.takes_of rfl rfl rfl rfl
  have pn : PassesOwn (model P w) (cxOf (L2N.CX P w) P w K mg base ["form", "by", "rule", "b", "left", "carry", "size", "cell", "figures", "below"] "moved_rows" (defScope s_pmoved_rows) f cdv A outer s H E).A (cxOf (L2N.CX P w) P w K mg base ["form", "by", "rule", "b", "left", "carry", "size", "cell", "figures", "below"] "moved_rows" (defScope s_pmoved_rows) f cdv A outer s H E).env (cxOf (L2N.CX P w) P w K mg base ["form", "by", "rule", "b", "left", "carry", "size", "cell", "figures", "below"] "moved_rows" (defScope s_pmoved_rows) f cdv A outer s H E).xe := passes_of rfl
  unfold m_pmoved_rows
  exact mss_cons (ms_if (mt_cmp op_notInM os_notIn (me_var (i := 2) rfl (.inl v_pmoved_rows_2)) (mf_con c_RULES (hg := (g_pmoved_rows_RULES _ _ _))) rfl) (mss_one (ms_raise1 xcl1_NoRule_rule rfl hr (by decide) tk (g_pmoved_rows_NoRule _ _ _) (me_var (i := 2) rfl (.inl v_pmoved_rows_2)))) (mss_nil)) (mss_cons (ms_if (mt_cmp op_gt os_gt (mb_abs B.abs (ma_cons (me_var (i := 1) rfl (.inl v_pmoved_rows_1)) (ma_nil)) (hg := (g_pmoved_rows_abs _ _ _))) (me_ix (me_var (i := 0) rfl (.inl v_pmoved_rows_0)) (me_int)) (nomark _)) (mss_one (ms_raise1 xcl1_TooLong_number rfl hr (by decide) tk (g_pmoved_rows_TooLong _ _ _) (me_var (i := 1) rfl (.inl v_pmoved_rows_1)))) (mss_nil)) (mss_cons (ms_setO (i := 3) nd rfl (.inl v_pmoved_rows_3) (mo_make h_pBuilder_init hr (by decide) tk (hg := (g_pmoved_rows_Builder _ _ _)))) (mss_cons (ms_asg (me_fz (mf_callB h_ploaded hr (by decide) tk (pb_b (i := 3) rfl (.inl v_pmoved_rows_3) (pb_v (me_var (i := 0) rfl (.inl v_pmoved_rows_0)) (pb_v (me_int) (pb_nil)))) (bsh_b (bsh_v (bsh_v (bsh_nil)))) (hg := (g_pmoved_rows_loaded _ _ _)))) (mg_tup rfl (mgs_cons (mg_name (i := 8) nd rfl (.inl v_pmoved_rows_8)) (mgs_cons (mg_name (i := 9) nd rfl (.inl v_pmoved_rows_9)) (mgs_nil))))) (mss_cons (ms_if (mt_cmp op_ge os_ge (me_var (i := 1) rfl (.inl v_pmoved_rows_1)) (me_int) (nomark _)) (mss_one (ms_ret (me_fz (mo_meth hr (by decide) tk (i := 3) rfl (.inl v_pmoved_rows_3) (pb_v (me_fz (mf_callB h_pfinished hr (by decide) tk (pb_b (i := 3) rfl (.inl v_pmoved_rows_3) (pb_v (me_var (i := 0) rfl (.inl v_pmoved_rows_0)) (pb_v (me_add (me_var (i := 8) rfl (.inl v_pmoved_rows_8)) (me_fz (mf_callB h_pnoughts hr (by decide) tk (pb_b (i := 3) rfl (.inl v_pmoved_rows_3) (pb_v (me_var (i := 1) rfl (.inl v_pmoved_rows_1)) (pb_nil))) (bsh_b (bsh_v (bsh_nil))) (hg := (g_pmoved_rows_noughts _ _ _))))) (pb_v (me_var (i := 9) rfl (.inl v_pmoved_rows_9)) (pb_v (me_int) (pb_nil)))))) (bsh_b (bsh_v (bsh_v (bsh_v (bsh_v (bsh_nil)))))) (hg := (g_pmoved_rows_finished _ _ _)))) (pb_nil)) (bsh_v (bsh_nil)) rfl rfl h_pBuilder_ended)))) (mss_nil)) (mss_cons (ms_set (i := 4) nd rfl (.inl v_pmoved_rows_4) (me_sl (me_var (i := 8) rfl (.inl v_pmoved_rows_8)) (mp_none) (mp_some (me_add (me_ix (me_var (i := 0) rfl (.inl v_pmoved_rows_0)) (me_int)) (me_var (i := 1) rfl (.inl v_pmoved_rows_1)))))) (mss_cons (ms_set (i := 5) nd rfl (.inl v_pmoved_rows_5) (me_fz (mf_callB h_padded_by hr (by decide) tk (pb_b (i := 3) rfl (.inl v_pmoved_rows_3) (pb_v (me_var (i := 4) rfl (.inl v_pmoved_rows_4)) (pb_v (me_sl (me_var (i := 8) rfl (.inl v_pmoved_rows_8)) (mp_some (me_add (me_ix (me_var (i := 0) rfl (.inl v_pmoved_rows_0)) (me_int)) (me_var (i := 1) rfl (.inl v_pmoved_rows_1)))) (mp_none)) (pb_v (me_var (i := 9) rfl (.inl v_pmoved_rows_9)) (pb_v (me_var (i := 2) rfl (.inl v_pmoved_rows_2)) (pb_nil)))))) (bsh_b (bsh_v (bsh_v (bsh_v (bsh_v (bsh_nil)))))) (hg := (g_pmoved_rows_added_by _ _ _))))) (mss_cons (ms_set (i := 6) nd rfl (.inl v_pmoved_rows_6) (me_add (me_fz (mf_callB h_pnoughts hr (by decide) tk (pb_b (i := 3) rfl (.inl v_pmoved_rows_3) (pb_v (me_int) (pb_nil))) (bsh_b (bsh_v (bsh_nil))) (hg := (g_pmoved_rows_noughts _ _ _)))) (me_var (i := 4) rfl (.inl v_pmoved_rows_4)))) (mss_cons (ms_for pn rfl (mi_rev B.reversed (ma_cons (me_var (i := 6) rfl (.inl v_pmoved_rows_6)) (ma_nil)) (hg := (g_pmoved_rows_reversed _ _ _))) (mg_name (i := 7) nd rfl (.inl v_pmoved_rows_7)) (mss_one (ms_expr (me_fz (mf_callB h_pcarried hr (by decide) tk (pb_b (i := 3) rfl (.inl v_pmoved_rows_3) (pb_v (me_var (i := 7) rfl (.inl v_pmoved_rows_7)) (pb_v (me_var (i := 5) rfl (.inl v_pmoved_rows_5)) (pb_nil)))) (bsh_b (bsh_v (bsh_v (bsh_nil)))) (hg := (g_pmoved_rows_carried _ _ _))))))) (mss_one (ms_ret (me_fz (mo_meth hr (by decide) tk (i := 3) rfl (.inl v_pmoved_rows_3) (pb_v (me_fz (mf_callB h_pfinished hr (by decide) tk (pb_b (i := 3) rfl (.inl v_pmoved_rows_3) (pb_v (me_var (i := 0) rfl (.inl v_pmoved_rows_0)) (pb_v (me_var (i := 6) rfl (.inl v_pmoved_rows_6)) (pb_v (me_var (i := 9) rfl (.inl v_pmoved_rows_9)) (pb_v (me_int) (pb_nil)))))) (bsh_b (bsh_v (bsh_v (bsh_v (bsh_v (bsh_nil)))))) (hg := (g_pmoved_rows_finished _ _ _)))) (pb_nil)) (bsh_v (bsh_nil)) rfl rfl h_pBuilder_ended))))))))))))

abbrev s_lsorts : Stmt := top 66
theorem sc_lsorts : FnScope ["_law_e", "_law_sorts_here", "_law_word", "_law_here"] ["_law_e"] (defScope s_lsorts) := ⟨rfl, rfl, rfl, by decide +kernel, rfl, by decide +kernel, by decide +kernel⟩
theorem v_lsorts_0 : (defScope s_lsorts).names.lookup ("_law_e" : Str) = some NameKind.local := by decide +kernel
theorem v_lsorts_1 : (defScope s_lsorts).names.lookup ("_law_sorts_here" : Str) = some NameKind.local := by decide +kernel
theorem g_lsorts_isinstance (L a : Addr) (cd : Value) : (PyProof.Rows.envOfC "_law_sorts" (defScope s_lsorts) L a cd).kindOf ("isinstance" : Str) = some NameKind.globalImplicit := rfl
theorem g_lsorts_Wrong (L a : Addr) (cd : Value) : (PyProof.Rows.envOfC "_law_sorts" (defScope s_lsorts) L a cd).kindOf ("Wrong" : Str) = some NameKind.globalImplicit := rfl
theorem g_lsorts_NoFit (L a : Addr) (cd : Value) : (PyProof.Rows.envOfC "_law_sorts" (defScope s_lsorts) L a cd).kindOf ("NoFit" : Str) = some NameKind.globalImplicit := rfl
theorem g_lsorts_NoShape (L a : Addr) (cd : Value) : (PyProof.Rows.envOfC "_law_sorts" (defScope s_lsorts) L a cd).kindOf ("NoShape" : Str) = some NameKind.globalImplicit := rfl
theorem g_lsorts_NoRow (L a : Addr) (cd : Value) : (PyProof.Rows.envOfC "_law_sorts" (defScope s_lsorts) L a cd).kindOf ("NoRow" : Str) = some NameKind.globalImplicit := rfl
theorem g_lsorts_NoTable (L a : Addr) (cd : Value) : (PyProof.Rows.envOfC "_law_sorts" (defScope s_lsorts) L a cd).kindOf ("NoTable" : Str) = some NameKind.globalImplicit := rfl
theorem g_lsorts_TooLong (L a : Addr) (cd : Value) : (PyProof.Rows.envOfC "_law_sorts" (defScope s_lsorts) L a cd).kindOf ("TooLong" : Str) = some NameKind.globalImplicit := rfl
theorem g_lsorts_BadLine (L a : Addr) (cd : Value) : (PyProof.Rows.envOfC "_law_sorts" (defScope s_lsorts) L a cd).kindOf ("BadLine" : Str) = some NameKind.globalImplicit := rfl
theorem g_lsorts_NoDeed (L a : Addr) (cd : Value) : (PyProof.Rows.envOfC "_law_sorts" (defScope s_lsorts) L a cd).kindOf ("NoDeed" : Str) = some NameKind.globalImplicit := rfl
theorem g_lsorts_NoRule (L a : Addr) (cd : Value) : (PyProof.Rows.envOfC "_law_sorts" (defScope s_lsorts) L a cd).kindOf ("NoRule" : Str) = some NameKind.globalImplicit := rfl
theorem g_lsorts_NoText (L a : Addr) (cd : Value) : (PyProof.Rows.envOfC "_law_sorts" (defScope s_lsorts) L a cd).kindOf ("NoText" : Str) = some NameKind.globalImplicit := rfl
theorem g_lsorts_NoName (L a : Addr) (cd : Value) : (PyProof.Rows.envOfC "_law_sorts" (defScope s_lsorts) L a cd).kindOf ("NoName" : Str) = some NameKind.globalImplicit := rfl
theorem g_lsorts_Unlike (L a : Addr) (cd : Value) : (PyProof.Rows.envOfC "_law_sorts" (defScope s_lsorts) L a cd).kindOf ("Unlike" : Str) = some NameKind.globalImplicit := rfl
theorem g_lsorts_Nought (L a : Addr) (cd : Value) : (PyProof.Rows.envOfC "_law_sorts" (defScope s_lsorts) L a cd).kindOf ("Nought" : Str) = some NameKind.globalImplicit := rfl
theorem g_lsorts_NothingDone (L a : Addr) (cd : Value) : (PyProof.Rows.envOfC "_law_sorts" (defScope s_lsorts) L a cd).kindOf ("NothingDone" : Str) = some NameKind.globalImplicit := rfl
theorem g_lsorts_NoLine (L a : Addr) (cd : Value) : (PyProof.Rows.envOfC "_law_sorts" (defScope s_lsorts) L a cd).kindOf ("NoLine" : Str) = some NameKind.globalImplicit := rfl
theorem g_lsorts_ValueError (L a : Addr) (cd : Value) : (PyProof.Rows.envOfC "_law_sorts" (defScope s_lsorts) L a cd).kindOf ("ValueError" : Str) = some NameKind.globalImplicit := rfl
theorem g_lsorts_LoftError (L a : Addr) (cd : Value) : (PyProof.Rows.envOfC "_law_sorts" (defScope s_lsorts) L a cd).kindOf ("LoftError" : Str) = some NameKind.globalImplicit := rfl
theorem ok_lsorts {P : Program} {w : World} {K : PySem.W.Frag} {mg : Str → Option Value} {base : Heap} {f : Addr} {fd : FuncData} (F : Fun K "_law_sorts" "_law_sorts" s_lsorts f fd) (B : Bn mg)   (xxcf_NoRule_ : XcF K mg [] "NoRule") (xxcf_TooLong_ : XcF K mg [] "TooLong") (xkit_Wrong_NoRule_False : KiT K mg "Wrong" "NoRule" false) (xkit_Wrong_TooLong_False : KiT K mg "Wrong" "TooLong" false) (xcls_Wrong : ∃ D, mg "Wrong" = some (.ref D)) (xkit_NoFit_NoRule_False : KiT K mg "NoFit" "NoRule" false) (xkit_NoFit_TooLong_False : KiT K mg "NoFit" "TooLong" false) (xcls_NoFit : ∃ D, mg "NoFit" = some (.ref D)) (xkit_NoShape_NoRule_False : KiT K mg "NoShape" "NoRule" false) (xkit_NoShape_TooLong_False : KiT K mg "NoShape" "TooLong" false) (xcls_NoShape : ∃ D, mg "NoShape" = some (.ref D)) (xkit_NoRow_NoRule_False : KiT K mg "NoRow" "NoRule" false) (xkit_NoRow_TooLong_False : KiT K mg "NoRow" "TooLong" false) (xcls_NoRow : ∃ D, mg "NoRow" = some (.ref D)) (xkit_NoTable_NoRule_False : KiT K mg "NoTable" "NoRule" false) (xkit_NoTable_TooLong_False : KiT K mg "NoTable" "TooLong" false) (xcls_NoTable : ∃ D, mg "NoTable" = some (.ref D)) (xkit_TooLong_NoRule_False : KiT K mg "TooLong" "NoRule" false) (xkit_TooLong_TooLong_True : KiT K mg "TooLong" "TooLong" true) (xcls_TooLong : ∃ D, mg "TooLong" = some (.ref D)) (xkit_BadLine_NoRule_False : KiT K mg "BadLine" "NoRule" false) (xkit_BadLine_TooLong_False : KiT K mg "BadLine" "TooLong" false) (xcls_BadLine : ∃ D, mg "BadLine" = some (.ref D)) (xkit_NoDeed_NoRule_False : KiT K mg "NoDeed" "NoRule" false) (xkit_NoDeed_TooLong_False : KiT K mg "NoDeed" "TooLong" false) (xcls_NoDeed : ∃ D, mg "NoDeed" = some (.ref D)) (xkit_NoRule_NoRule_True : KiT K mg "NoRule" "NoRule" true) (xkit_NoRule_TooLong_False : KiT K mg "NoRule" "TooLong" false) (xcls_NoRule : ∃ D, mg "NoRule" = some (.ref D)) (xkit_NoText_NoRule_False : KiT K mg "NoText" "NoRule" false) (xkit_NoText_TooLong_False : KiT K mg "NoText" "TooLong" false) (xcls_NoText : ∃ D, mg "NoText" = some (.ref D)) (xkit_NoName_NoRule_False : KiT K mg "NoName" "NoRule" false) (xkit_NoName_TooLong_False : KiT K mg "NoName" "TooLong" false) (xcls_NoName : ∃ D, mg "NoName" = some (.ref D)) (xkit_Unlike_NoRule_False : KiT K mg "Unlike" "NoRule" false) (xkit_Unlike_TooLong_False : KiT K mg "Unlike" "TooLong" false) (xcls_Unlike : ∃ D, mg "Unlike" = some (.ref D)) (xkit_Nought_NoRule_False : KiT K mg "Nought" "NoRule" false) (xkit_Nought_TooLong_False : KiT K mg "Nought" "TooLong" false) (xcls_Nought : ∃ D, mg "Nought" = some (.ref D)) (xkit_NothingDone_NoRule_False : KiT K mg "NothingDone" "NoRule" false) (xkit_NothingDone_TooLong_False : KiT K mg "NothingDone" "TooLong" false) (xcls_NothingDone : ∃ D, mg "NothingDone" = some (.ref D)) (xkit_NoLine_NoRule_False : KiT K mg "NoLine" "NoRule" false) (xkit_NoLine_TooLong_False : KiT K mg "NoLine" "TooLong" false) (xcls_NoLine : ∃ D, mg "NoLine" = some (.ref D)) (xkib_ValueError_NoRule : KiB K mg "ValueError" "NoRule") (xkib_ValueError_TooLong : KiB K mg "ValueError" "TooLong") (xnog_ValueError : mg "ValueError" = none) (xkit_LoftError_NoRule_True : KiT K mg "LoftError" "NoRule" true) (xkit_LoftError_TooLong_True : KiT K mg "LoftError" "TooLong" true) (xcls_LoftError : ∃ D, mg "LoftError" = some (.ref D))  :
    FnE P w K mg base (L2N.CX P w) 2 f fd ["_law_e"] (spE K mg ["NoRule", "TooLong"] f_lsorts) := by
  refine fnE_ok F sc_lsorts (by decide) fun cdv A outer s H E p e C d hot hr hC hT hz hv => ?_
  have nd := sc_lsorts.nd
  have hm : (p.1, p.2) ∈ (L2H.cxH (L2N.CX P w) P w K mg base ["_law_e", "_law_sorts_here", "_law_word", "_law_here"] "_law_sorts" (defScope s_lsorts) f cdv A outer s H E p).pn := List.mem_singleton.mpr rfl
  have hcH : L2H.HotC (L2H.cxH (L2N.CX P w) P w K mg base ["_law_e", "_law_sorts_here", "_law_word", "_law_here"] "_law_sorts" (defScope s_lsorts) f cdv A outer s H E p) := ⟨p, ⟨hot.1, hot.2⟩, List.mem_singleton.mpr rfl⟩
  unfold m_lsorts
  exact mss_cons (ms_set (i := 1) nd rfl (.inl v_lsorts_1) (me_lst (ma_cons (me_tup (ma_cons (me_str) (ma_cons (mx_isG hm (xc_of (fs := []) (ts := ["NoRule", "TooLong"]) (fa_cons xxcf_NoRule_ (fa_cons xxcf_TooLong_ (fa_nil))) hC hT) (ki_of (ts := ["NoRule", "TooLong"]) (l := [("NoRule", false), ("TooLong", false)]) (fa_cons xkit_NoShape_NoRule_False (fa_cons xkit_NoShape_TooLong_False (fa_nil))) (by decide) hT) xcls_NoShape hC hz hv rfl (.inl v_lsorts_0) B.isinstance (g_lsorts_isinstance _ _ _) (g_lsorts_NoShape _ _ _)) (ma_nil)))) (ma_cons (me_tup (ma_cons (me_str) (ma_cons (mx_isG hm (xc_of (fs := []) (ts := ["NoRule", "TooLong"]) (fa_cons xxcf_NoRule_ (fa_cons xxcf_TooLong_ (fa_nil))) hC hT) (ki_of (ts := ["NoRule", "TooLong"]) (l := [("NoRule", false), ("TooLong", false)]) (fa_cons xkit_NoFit_NoRule_False (fa_cons xkit_NoFit_TooLong_False (fa_nil))) (by decide) hT) xcls_NoFit hC hz hv rfl (.inl v_lsorts_0) B.isinstance (g_lsorts_isinstance _ _ _) (g_lsorts_NoFit _ _ _)) (ma_nil)))) (ma_cons (me_tup (ma_cons (me_str) (ma_cons (mx_isG hm (xc_of (fs := []) (ts := ["NoRule", "TooLong"]) (fa_cons xxcf_NoRule_ (fa_cons xxcf_TooLong_ (fa_nil))) hC hT) (ki_of (ts := ["NoRule", "TooLong"]) (l := [("NoRule", false), ("TooLong", false)]) (fa_cons xkit_Wrong_NoRule_False (fa_cons xkit_Wrong_TooLong_False (fa_nil))) (by decide) hT) xcls_Wrong hC hz hv rfl (.inl v_lsorts_0) B.isinstance (g_lsorts_isinstance _ _ _) (g_lsorts_Wrong _ _ _)) (ma_nil)))) (ma_nil)))))) (mss_cons (ms_set (i := 1) nd rfl (.inl v_lsorts_1) (me_add (me_var (i := 1) rfl (.inl v_lsorts_1)) (me_lst (ma_cons (me_tup (ma_cons (me_str) (ma_cons (mx_isG hm (xc_of (fs := []) (ts := ["NoRule", "TooLong"]) (fa_cons xxcf_NoRule_ (fa_cons xxcf_TooLong_ (fa_nil))) hC hT) (ki_of (ts := ["NoRule", "TooLong"]) (l := [("NoRule", false), ("TooLong", false)]) (fa_cons xkit_NoTable_NoRule_False (fa_cons xkit_NoTable_TooLong_False (fa_nil))) (by decide) hT) xcls_NoTable hC hz hv rfl (.inl v_lsorts_0) B.isinstance (g_lsorts_isinstance _ _ _) (g_lsorts_NoTable _ _ _)) (ma_nil)))) (ma_cons (me_tup (ma_cons (me_str) (ma_cons (mx_isG hm (xc_of (fs := []) (ts := ["NoRule", "TooLong"]) (fa_cons xxcf_NoRule_ (fa_cons xxcf_TooLong_ (fa_nil))) hC hT) (ki_of (ts := ["NoRule", "TooLong"]) (l := [("NoRule", false), ("TooLong", false)]) (fa_cons xkit_NoRow_NoRule_False (fa_cons xkit_NoRow_TooLong_False (fa_nil))) (by decide) hT) xcls_NoRow hC hz hv rfl (.inl v_lsorts_0) B.isinstance (g_lsorts_isinstance _ _ _) (g_lsorts_NoRow _ _ _)) (ma_nil)))) (ma_nil)))))) (mss_cons (ms_set (i := 1) nd rfl (.inl v_lsorts_1) (me_add (me_var (i := 1) rfl (.inl v_lsorts_1)) (me_lst (ma_cons (me_tup (ma_cons (me_str) (ma_cons (mx_isG hm (xc_of (fs := []) (ts := ["NoRule", "TooLong"]) (fa_cons xxcf_NoRule_ (fa_cons xxcf_TooLong_ (fa_nil))) hC hT) (ki_of (ts := ["NoRule", "TooLong"]) (l := [("NoRule", false), ("TooLong", false)]) (fa_cons xkit_BadLine_NoRule_False (fa_cons xkit_BadLine_TooLong_False (fa_nil))) (by decide) hT) xcls_BadLine hC hz hv rfl (.inl v_lsorts_0) B.isinstance (g_lsorts_isinstance _ _ _) (g_lsorts_BadLine _ _ _)) (ma_nil)))) (ma_cons (me_tup (ma_cons (me_str) (ma_cons (mx_isG hm (xc_of (fs := []) (ts := ["NoRule", "TooLong"]) (fa_cons xxcf_NoRule_ (fa_cons xxcf_TooLong_ (fa_nil))) hC hT) (ki_of (ts := ["NoRule", "TooLong"]) (l := [("NoRule", false), ("TooLong", true)]) (fa_cons xkit_TooLong_NoRule_False (fa_cons xkit_TooLong_TooLong_True (fa_nil))) (by decide) hT) xcls_TooLong hC hz hv rfl (.inl v_lsorts_0) B.isinstance (g_lsorts_isinstance _ _ _) (g_lsorts_TooLong _ _ _)) (ma_nil)))) (ma_nil)))))) (mss_cons (ms_set (i := 1) nd rfl (.inl v_lsorts_1) (me_add (me_var (i := 1) rfl (.inl v_lsorts_1)) (me_lst (ma_cons (me_tup (ma_cons (me_str) (ma_cons (mx_isG hm (xc_of (fs := []) (ts := ["NoRule", "TooLong"]) (fa_cons xxcf_NoRule_ (fa_cons xxcf_TooLong_ (fa_nil))) hC hT) (ki_of (ts := ["NoRule", "TooLong"]) (l := [("NoRule", true), ("TooLong", false)]) (fa_cons xkit_NoRule_NoRule_True (fa_cons xkit_NoRule_TooLong_False (fa_nil))) (by decide) hT) xcls_NoRule hC hz hv rfl (.inl v_lsorts_0) B.isinstance (g_lsorts_isinstance _ _ _) (g_lsorts_NoRule _ _ _)) (ma_nil)))) (ma_cons (me_tup (ma_cons (me_str) (ma_cons (mx_isG hm (xc_of (fs := []) (ts := ["NoRule", "TooLong"]) (fa_cons xxcf_NoRule_ (fa_cons xxcf_TooLong_ (fa_nil))) hC hT) (ki_of (ts := ["NoRule", "TooLong"]) (l := [("NoRule", false), ("TooLong", false)]) (fa_cons xkit_NoDeed_NoRule_False (fa_cons xkit_NoDeed_TooLong_False (fa_nil))) (by decide) hT) xcls_NoDeed hC hz hv rfl (.inl v_lsorts_0) B.isinstance (g_lsorts_isinstance _ _ _) (g_lsorts_NoDeed _ _ _)) (ma_nil)))) (ma_nil)))))) (mss_cons (ms_set (i := 1) nd rfl (.inl v_lsorts_1) (me_add (me_var (i := 1) rfl (.inl v_lsorts_1)) (me_lst (ma_cons (me_tup (ma_cons (me_str) (ma_cons (mx_isG hm (xc_of (fs := []) (ts := ["NoRule", "TooLong"]) (fa_cons xxcf_NoRule_ (fa_cons xxcf_TooLong_ (fa_nil))) hC hT) (ki_of (ts := ["NoRule", "TooLong"]) (l := [("NoRule", false), ("TooLong", false)]) (fa_cons xkit_NoName_NoRule_False (fa_cons xkit_NoName_TooLong_False (fa_nil))) (by decide) hT) xcls_NoName hC hz hv rfl (.inl v_lsorts_0) B.isinstance (g_lsorts_isinstance _ _ _) (g_lsorts_NoName _ _ _)) (ma_nil)))) (ma_cons (me_tup (ma_cons (me_str) (ma_cons (mx_isG hm (xc_of (fs := []) (ts := ["NoRule", "TooLong"]) (fa_cons xxcf_NoRule_ (fa_cons xxcf_TooLong_ (fa_nil))) hC hT) (ki_of (ts := ["NoRule", "TooLong"]) (l := [("NoRule", false), ("TooLong", false)]) (fa_cons xkit_NoText_NoRule_False (fa_cons xkit_NoText_TooLong_False (fa_nil))) (by decide) hT) xcls_NoText hC hz hv rfl (.inl v_lsorts_0) B.isinstance (g_lsorts_isinstance _ _ _) (g_lsorts_NoText _ _ _)) (ma_nil)))) (ma_nil)))))) (mss_cons (ms_set (i := 1) nd rfl (.inl v_lsorts_1) (me_add (me_var (i := 1) rfl (.inl v_lsorts_1)) (me_lst (ma_cons (me_tup (ma_cons (me_str) (ma_cons (mx_isG hm (xc_of (fs := []) (ts := ["NoRule", "TooLong"]) (fa_cons xxcf_NoRule_ (fa_cons xxcf_TooLong_ (fa_nil))) hC hT) (ki_of (ts := ["NoRule", "TooLong"]) (l := [("NoRule", false), ("TooLong", false)]) (fa_cons xkit_Nought_NoRule_False (fa_cons xkit_Nought_TooLong_False (fa_nil))) (by decide) hT) xcls_Nought hC hz hv rfl (.inl v_lsorts_0) B.isinstance (g_lsorts_isinstance _ _ _) (g_lsorts_Nought _ _ _)) (ma_nil)))) (ma_cons (me_tup (ma_cons (me_str) (ma_cons (mx_isG hm (xc_of (fs := []) (ts := ["NoRule", "TooLong"]) (fa_cons xxcf_NoRule_ (fa_cons xxcf_TooLong_ (fa_nil))) hC hT) (ki_of (ts := ["NoRule", "TooLong"]) (l := [("NoRule", false), ("TooLong", false)]) (fa_cons xkit_Unlike_NoRule_False (fa_cons xkit_Unlike_TooLong_False (fa_nil))) (by decide) hT) xcls_Unlike hC hz hv rfl (.inl v_lsorts_0) B.isinstance (g_lsorts_isinstance _ _ _) (g_lsorts_Unlike _ _ _)) (ma_nil)))) (ma_nil)))))) (mss_cons (ms_set (i := 1) nd rfl (.inl v_lsorts_1) (me_add (me_var (i := 1) rfl (.inl v_lsorts_1)) (me_lst (ma_cons (me_tup (ma_cons (me_str) (ma_cons (mx_isG hm (xc_of (fs := []) (ts := ["NoRule", "TooLong"]) (fa_cons xxcf_NoRule_ (fa_cons xxcf_TooLong_ (fa_nil))) hC hT) (ki_of (ts := ["NoRule", "TooLong"]) (l := [("NoRule", false), ("TooLong", false)]) (fa_cons xkit_NoLine_NoRule_False (fa_cons xkit_NoLine_TooLong_False (fa_nil))) (by decide) hT) xcls_NoLine hC hz hv rfl (.inl v_lsorts_0) B.isinstance (g_lsorts_isinstance _ _ _) (g_lsorts_NoLine _ _ _)) (ma_nil)))) (ma_cons (me_tup (ma_cons (me_str) (ma_cons (mx_isG hm (xc_of (fs := []) (ts := ["NoRule", "TooLong"]) (fa_cons xxcf_NoRule_ (fa_cons xxcf_TooLong_ (fa_nil))) hC hT) (ki_of (ts := ["NoRule", "TooLong"]) (l := [("NoRule", false), ("TooLong", false)]) (fa_cons xkit_NothingDone_NoRule_False (fa_cons xkit_NothingDone_TooLong_False (fa_nil))) (by decide) hT) xcls_NothingDone hC hz hv rfl (.inl v_lsorts_0) B.isinstance (g_lsorts_isinstance _ _ _) (g_lsorts_NothingDone _ _ _)) (ma_nil)))) (ma_nil)))))) (mss_cons (ms_set (i := 1) nd rfl (.inl v_lsorts_1) (me_add (me_var (i := 1) rfl (.inl v_lsorts_1)) (me_lst (ma_cons (me_tup (ma_cons (me_str) (ma_cons (me_not (mx_isG hm (xc_of (fs := []) (ts := ["NoRule", "TooLong"]) (fa_cons xxcf_NoRule_ (fa_cons xxcf_TooLong_ (fa_nil))) hC hT) (ki_of (ts := ["NoRule", "TooLong"]) (l := [("NoRule", true), ("TooLong", true)]) (fa_cons xkit_LoftError_NoRule_True (fa_cons xkit_LoftError_TooLong_True (fa_nil))) (by decide) hT) xcls_LoftError hC hz hv rfl (.inl v_lsorts_0) B.isinstance (g_lsorts_isinstance _ _ _) (g_lsorts_LoftError _ _ _))) (ma_nil)))) (ma_cons (me_tup (ma_cons (me_str) (ma_cons (me_not (mx_isT hm (xc_of (fs := []) (ts := ["NoRule", "TooLong"]) (fa_cons xxcf_NoRule_ (fa_cons xxcf_TooLong_ (fa_nil))) hC hT) (kib_of (ts := ["NoRule", "TooLong"]) (fa_cons xkib_ValueError_NoRule (fa_cons xkib_ValueError_TooLong (fa_nil))) hC hT) (by decide) hz hv rfl (.inl v_lsorts_0) B.isinstance (g_lsorts_isinstance _ _ _) (g_lsorts_ValueError _ _ _) xnog_ValueError (by decide +kernel))) (ma_nil)))) (ma_nil)))))) (mss_one (ms_ret (me_sm ss_join PySem.F.slot_str_join PySem.F.type_str_join mt_join (me_str) (ma_cons (me_fz (mo_lcS (own := [("_law_word", 2), ("_law_here", 3)]) (g := .tp [2, 3]) hcH nd (mi_listS (me_var (i := 1) rfl (.inl v_lsorts_1))) (blkOk_at (N' := ["_law_e", "_law_sorts_here", "_law_word", "_law_here"]) (sc' := defScope s_lsorts) rfl rfl (by decide +kernel)) (fun _ _ _ _ _ hh => pg_tupS hh (pgs_cons (pg_name (i := 2) nd rfl (Or.inl rfl)) (pgs_cons (pg_name (i := 3) nd rfl (Or.inl rfl)) (pgs_nil)))) (fun _ _ _ _ _ => mts_one (mt_val (me_var (i := 3) rfl (.inl rfl)))) (fun _ _ _ _ _ => me_var (i := 2) rfl (.inl rfl)) (hbs := hbs_of rfl))) (ma_nil))))))))))))

abbrev s_lasked3 : Stmt := top 68
theorem sc_lasked3 : FnScope ["_law_form_here", "_law_by", "_law_rule", "_law_found", "_law_sorts_here", "_law_e"] ["_law_form_here", "_law_by", "_law_rule"] (defScope s_lasked3) := ⟨rfl, rfl, rfl, by decide +kernel, rfl, by decide +kernel, by decide +kernel⟩
theorem v_lasked3_0 : (defScope s_lasked3).names.lookup ("_law_form_here" : Str) = some NameKind.local := by decide +kernel
theorem v_lasked3_1 : (defScope s_lasked3).names.lookup ("_law_by" : Str) = some NameKind.local := by decide +kernel
theorem v_lasked3_2 : (defScope s_lasked3).names.lookup ("_law_rule" : Str) = some NameKind.local := by decide +kernel
theorem v_lasked3_3 : (defScope s_lasked3).names.lookup ("_law_found" : Str) = some NameKind.local := by decide +kernel
theorem v_lasked3_4 : (defScope s_lasked3).names.lookup ("_law_sorts_here" : Str) = some NameKind.local := by decide +kernel
theorem v_lasked3_5 : (defScope s_lasked3).names.lookup ("_law_e" : Str) = some NameKind.local := by decide +kernel
theorem g_lasked3_LoftError (L a : Addr) (cd : Value) : (PyProof.Rows.envOfC "_law_asked" (defScope s_lasked3) L a cd).kindOf ("LoftError" : Str) = some NameKind.globalImplicit := rfl
theorem g_lasked3_moved_rows (L a : Addr) (cd : Value) : (PyProof.Rows.envOfC "_law_asked" (defScope s_lasked3) L a cd).kindOf ("moved_rows" : Str) = some NameKind.globalImplicit := rfl
theorem g_lasked3_law_sorts (L a : Addr) (cd : Value) : (PyProof.Rows.envOfC "_law_asked" (defScope s_lasked3) L a cd).kindOf ("_law_sorts" : Str) = some NameKind.globalImplicit := rfl
theorem ok_lasked3 {P : Program} {w : World} {K : PySem.W.Frag} {mg : Str → Option Value} {base : Heap} {f : Addr} {fd : FuncData} (F : Fun K "_law_asked" "_law_asked" s_lasked3 f fd) (B : Bn mg) (h_pmoved_rows : Fd P w K mg base "moved_rows" 16 ["form", "by", "rule"] [] f_pmoved_rows) (h_lsorts : FdE P w K mg base "_law_sorts" 2 "_law_e" ["NoRule", "TooLong"] f_lsorts)  (xext_LoftError_TooLong_True : ExT K mg "LoftError" "TooLong" true) (xext_LoftError_NoRule_True : ExT K mg "LoftError" "NoRule" true) (xcls_LoftError : ∃ D, mg "LoftError" = some (.ref D)) (xxcf_TooLong_number_rule : XcF K mg ["number", "rule"] "TooLong") (xxcf_NoRule_number_rule : XcF K mg ["number", "rule"] "NoRule")  :
    FnOk P w K mg base (L2N.CX P w) 18 f fd ["_law_form_here", "_law_by", "_law_rule"] (spF K mg 3 [] f_lasked3) := by
  refine fn_ok F sc_lasked3 (by decide) (by decide) fun cdv A outer s H E hr => ?_
  have nd := sc_lasked3.nd
  have tk : L2N.Takes (cxOf (L2N.CX P w) P w K mg base ["_law_form_here", "_law_by", "_law_rule", "_law_found", "_law_sorts_here", "_law_e"] "_law_asked" (defScope s_lasked3) f cdv A outer s H E) (fun cls d _ H => E cls d H) := L2N.takes_of rfl rfl rfl rfl
  have pn : PassesOwn (model P w) (cxOf (L2N.CX P w) P w K mg base ["_law_form_here", "_law_by", "_law_rule", "_law_found", "_law_sorts_here", "_law_e"] "_law_asked" (defScope s_lasked3) f cdv A outer s H E).A (cxOf (L2N.CX P w) P w K mg base ["_law_form_here", "_law_by", "_law_rule", "_law_found", "_law_sorts_here", "_law_e"] "_law_asked" (defScope s_lasked3) f cdv A outer s H E).env (cxOf (L2N.CX P w) P w K mg base ["_law_form_here", "_law_by", "_law_rule", "_law_found", "_law_sorts_here", "_law_e"] "_law_asked" (defScope s_lasked3) f cdv A outer s H E).xe := passes_of rfl
  unfold m_lasked3
  exact mss_cons (ms_set (i := 3) nd rfl (.inl v_lasked3_3) (me_non)) (mss_cons (ms_set (i := 4) nd rfl (.inl v_lasked3_4) (me_str)) (mss_cons (ms_try (i := 5) (tab := [("NoRule", true), ("TooLong", true)]) rfl rfl nd rfl (by first | rfl | decide +kernel) (g_lasked3_LoftError _ _ _) tk (fa_cons xext_LoftError_NoRule_True (fa_cons xext_LoftError_TooLong_True (fa_nil))) xcls_LoftError (fun W pl xe tk pn => mss_one (ms_set (i := 3) nd rfl (.inl v_lasked3_3) (me_fz (mf_call h_pmoved_rows hr (by decide) tk (ma_cons (me_var (i := 0) rfl (.inl v_lasked3_0)) (ma_cons (me_var (i := 1) rfl (.inl v_lasked3_1)) (ma_cons (me_var (i := 2) rfl (.inl v_lasked3_2)) (ma_nil)))) (lng_cons (lng_cons (lng_cons lng_nil))) (hg := (g_lasked3_moved_rows _ _ _)))))) (fun a oe C d pl e hC hT hz hv => mss_cons (ms_set (i := 4) nd rfl (.inl v_lasked3_4) (me_callE h_lsorts hr (by decide) hC hT (by decide) hz hv rfl (.inl v_lasked3_5) (g_lasked3_law_sorts _ _ _))) (mss_cons (ms_if (mt_cmp (op_eqM hr.units) os_eq (me_var (i := 4) rfl (.inl v_lasked3_4)) (me_str) (nomark _)) (mss_one (ms_set (i := 3) nd rfl (.inl v_lasked3_3) (mx_f (xc_at (fs := ["number", "rule"]) (ts := ["NoRule", "TooLong"]) (fa_cons xxcf_NoRule_number_rule (fa_cons xxcf_TooLong_number_rule (fa_nil))) (by decide) hC hT) (by decide) hz hv rfl (.inl v_lasked3_5)))) (mss_nil)) (mss_one (ms_if (mt_cmp (op_eqM hr.units) os_eq (me_var (i := 4) rfl (.inl v_lasked3_4)) (me_str) (nomark _)) (mss_one (ms_set (i := 3) nd rfl (.inl v_lasked3_3) (mx_f (xc_at (fs := ["number", "rule"]) (ts := ["NoRule", "TooLong"]) (fa_cons xxcf_NoRule_number_rule (fa_cons xxcf_TooLong_number_rule (fa_nil))) (by decide) hC hT) (by decide) hz hv rfl (.inl v_lasked3_5)))) (mss_nil)))))) (mss_one (ms_ret (me_tup (ma_cons (me_var (i := 3) rfl (.inl v_lasked3_3)) (ma_cons (me_var (i := 4) rfl (.inl v_lasked3_4)) (ma_nil))))))))

abbrev s_lcell : Stmt := top 58
theorem sc_lcell : FnScope ["_law_script", "_law_k"] ["_law_script", "_law_k"] (defScope s_lcell) := ⟨rfl, rfl, rfl, by decide +kernel, rfl, by decide +kernel, by decide +kernel⟩
theorem v_lcell_0 : (defScope s_lcell).names.lookup ("_law_script" : Str) = some NameKind.local := by decide +kernel
theorem v_lcell_1 : (defScope s_lcell).names.lookup ("_law_k" : Str) = some NameKind.local := by decide +kernel
theorem g_lcell_len (L a : Addr) (cd : Value) : (PyProof.Rows.envOfC "_law_cell" (defScope s_lcell) L a cd).kindOf ("len" : Str) = some NameKind.globalImplicit := rfl
theorem ok_lcell {P : Program} {w : World} {K : PySem.W.Frag} {mg : Str → Option Value} {base : Heap} {f : Addr} {fd : FuncData} (F : Fun K "_law_cell" "_law_cell" s_lcell f fd) (B : Bn mg)     :
    FnOk P w K mg base (L2N.CX P w) 2 f fd ["_law_script", "_law_k"] (spF K mg 2 [] f_lcell) := by
  refine fn_ok F sc_lcell (by decide) (by decide) fun cdv A outer s H E hr => ?_
  have nd := sc_lcell.nd
  have tk : L2N.Takes (cxOf (L2N.CX P w) P w K mg base ["_law_script", "_law_k"] "_law_cell" (defScope s_lcell) f cdv A outer s H E) (fun cls d _ H => E cls d H) := L2N.takes_of rfl rfl rfl rfl
  have pn : PassesOwn (model P w) (cxOf (L2N.CX P w) P w K mg base ["_law_script", "_law_k"] "_law_cell" (defScope s_lcell) f cdv A outer s H E).A (cxOf (L2N.CX P w) P w K mg base ["_law_script", "_law_k"] "_law_cell" (defScope s_lcell) f cdv A outer s H E).env (cxOf (L2N.CX P w) P w K mg base ["_law_script", "_law_k"] "_law_cell" (defScope s_lcell) f cdv A outer s H E).xe := passes_of rfl
  unfold m_lcell
  exact mss_cons (ms_if (mt_cmp op_lt os_lt (me_var (i := 1) rfl (.inl v_lcell_1)) (mb_len B.len (ma_cons (me_var (i := 0) rfl (.inl v_lcell_0)) (ma_nil)) (hg := (g_lcell_len _ _ _))) (nomark _)) (mss_one (ms_ret (me_ix (me_var (i := 0) rfl (.inl v_lcell_0)) (me_var (i := 1) rfl (.inl v_lcell_1))))) (mss_nil)) (mss_cons (ms_if (mt_cmp (op_eqM hr.units) os_eq (mb_len B.len (ma_cons (me_var (i := 0) rfl (.inl v_lcell_0)) (ma_nil)) (hg := (g_lcell_len _ _ _))) (me_int) (nomark _)) (mss_one (ms_ret (me_mul (me_int) (me_add (me_var (i := 1) rfl (.inl v_lcell_1)) (me_int))))) (mss_nil)) (mss_one (ms_ret (me_add (me_ix (me_var (i := 0) rfl (.inl v_lcell_0)) (me_mod (me_var (i := 1) rfl (.inl v_lcell_1)) (mb_len B.len (ma_cons (me_var (i := 0) rfl (.inl v_lcell_0)) (ma_nil)) (hg := (g_lcell_len _ _ _))))) (me_mul (me_int) (me_var (i := 1) rfl (.inl v_lcell_1)))))))

abbrev s_lrules : Stmt := top 67
theorem sc_lrules : FnScope [] [] (defScope s_lrules) := ⟨rfl, rfl, rfl, by decide +kernel, rfl, by decide +kernel, by decide +kernel⟩
theorem ok_lrules {P : Program} {w : World} {K : PySem.W.Frag} {mg : Str → Option Value} {base : Heap} {f : Addr} {fd : FuncData} (F : Fun K "_law_rules" "_law_rules" s_lrules f fd) (B : Bn mg)     :
    FnOk P w K mg base (L2N.CX P w) 2 f fd [] (spF K mg 0 [] f_lrules) := by
  refine fn_ok F sc_lrules (by decide) (by decide) fun cdv A outer s H E hr => ?_
  have nd := sc_lrules.nd
  have tk : L2N.Takes (cxOf (L2N.CX P w) P w K mg base [] "_law_rules" (defScope s_lrules) f cdv A outer s H E) (fun cls d _ H => E cls d H) := L2N.takes_of rfl rfl rfl rfl
  have pn : PassesOwn (model P w) (cxOf (L2N.CX P w) P w K mg base [] "_law_rules" (defScope s_lrules) f cdv A outer s H E).A (cxOf (L2N.CX P w) P w K mg base [] "_law_rules" (defScope s_lrules) f cdv A outer s H E).env (cxOf (L2N.CX P w) P w K mg base [] "_law_rules" (defScope s_lrules) f cdv A outer s H E).xe := passes_of rfl
  unfold m_lrules
  exact mss_one (ms_ret (me_lst (ma_cons (me_str) (ma_cons (me_str) (ma_cons (me_str) (ma_cons (me_str) (ma_cons (me_str) (ma_cons (me_str) (ma_nil)))))))))

abbrev s_lwhole : Stmt := top 62
theorem sc_lwhole : FnScope ["_law_found"] ["_law_found"] (defScope s_lwhole) := ⟨rfl, rfl, rfl, by decide +kernel, rfl, by decide +kernel, by decide +kernel⟩
theorem v_lwhole_0 : (defScope s_lwhole).names.lookup ("_law_found" : Str) = some NameKind.local := by decide +kernel
theorem g_lwhole_int (L a : Addr) (cd : Value) : (PyProof.Rows.envOfC "_law_whole" (defScope s_lwhole) L a cd).kindOf ("int" : Str) = some NameKind.globalImplicit := rfl
theorem g_lwhole_isinstance (L a : Addr) (cd : Value) : (PyProof.Rows.envOfC "_law_whole" (defScope s_lwhole) L a cd).kindOf ("isinstance" : Str) = some NameKind.globalImplicit := rfl
theorem g_lwhole_bool (L a : Addr) (cd : Value) : (PyProof.Rows.envOfC "_law_whole" (defScope s_lwhole) L a cd).kindOf ("bool" : Str) = some NameKind.globalImplicit := rfl
theorem ok_lwhole {P : Program} {w : World} {K : PySem.W.Frag} {mg : Str → Option Value} {base : Heap} {f : Addr} {fd : FuncData} (F : Fun K "_law_whole" "_law_whole" s_lwhole f fd) (B : Bn mg)     :
    FnOk P w K mg base (L2N.CX P w) 2 f fd ["_law_found"] (spF K mg 1 [] f_lwhole) := by
  refine fn_ok F sc_lwhole (by decide) (by decide) fun cdv A outer s H E hr => ?_
  have nd := sc_lwhole.nd
  have tk : L2N.Takes (cxOf (L2N.CX P w) P w K mg base ["_law_found"] "_law_whole" (defScope s_lwhole) f cdv A outer s H E) (fun cls d _ H => E cls d H) := L2N.takes_of rfl rfl rfl rfl
  have pn : PassesOwn (model P w) (cxOf (L2N.CX P w) P w K mg base ["_law_found"] "_law_whole" (defScope s_lwhole) f cdv A outer s H E).A (cxOf (L2N.CX P w) P w K mg base ["_law_found"] "_law_whole" (defScope s_lwhole) f cdv A outer s H E).env (cxOf (L2N.CX P w) P w K mg base ["_law_found"] "_law_whole" (defScope s_lwhole) f cdv A outer s H E).xe := passes_of rfl
  unfold m_lwhole
  exact mss_one (ms_ret (me_and (mb_isi B.isinstance (ma_cons (me_var (i := 0) rfl (.inl v_lwhole_0)) (ma_cons (me_bltn B.int (by decide +kernel) (w := .ty "int") rfl (hg := (g_lwhole_int _ _ _))) ma_nil)) (hg := (g_lwhole_isinstance _ _ _))) (me_one (me_not (mb_isi B.isinstance (ma_cons (me_var (i := 0) rfl (.inl v_lwhole_0)) (ma_cons (me_bltn B.bool (by decide +kernel) (w := .ty "bool") rfl (hg := (g_lwhole_bool _ _ _))) ma_nil)) (hg := (g_lwhole_isinstance _ _ _)))))))

abbrev s_lis_row : Stmt := top 64
theorem sc_lis_row : FnScope ["_law_row", "_law_many", "_law_part"] ["_law_row", "_law_many"] (defScope s_lis_row) := ⟨rfl, rfl, rfl, by decide +kernel, rfl, by decide +kernel, by decide +kernel⟩
theorem v_lis_row_0 : (defScope s_lis_row).names.lookup ("_law_row" : Str) = some NameKind.local := by decide +kernel
theorem v_lis_row_1 : (defScope s_lis_row).names.lookup ("_law_many" : Str) = some NameKind.local := by decide +kernel
theorem g_lis_row_tuple (L a : Addr) (cd : Value) : (PyProof.Rows.envOfC "_law_is_row" (defScope s_lis_row) L a cd).kindOf ("tuple" : Str) = some NameKind.globalImplicit := rfl
theorem g_lis_row_isinstance (L a : Addr) (cd : Value) : (PyProof.Rows.envOfC "_law_is_row" (defScope s_lis_row) L a cd).kindOf ("isinstance" : Str) = some NameKind.globalImplicit := rfl
theorem g_lis_row_len (L a : Addr) (cd : Value) : (PyProof.Rows.envOfC "_law_is_row" (defScope s_lis_row) L a cd).kindOf ("len" : Str) = some NameKind.globalImplicit := rfl
theorem g_lis_row_str (L a : Addr) (cd : Value) : (PyProof.Rows.envOfC "_law_is_row" (defScope s_lis_row) L a cd).kindOf ("str" : Str) = some NameKind.globalImplicit := rfl
theorem g_lis_row_all (L a : Addr) (cd : Value) : (PyProof.Rows.envOfC "_law_is_row" (defScope s_lis_row) L a cd).kindOf ("all" : Str) = some NameKind.globalImplicit := rfl
theorem ok_lis_row {P : Program} {w : World} {K : PySem.W.Frag} {mg : Str → Option Value} {base : Heap} {f : Addr} {fd : FuncData} (F : Fun K "_law_is_row" "_law_is_row" s_lis_row f fd) (B : Bn mg) (h_lwhole : Fd P w K mg base "_law_whole" 2 ["_law_found"] [] f_lwhole)    :
    FnOk P w K mg base (L2N.CX P w) 4 f fd ["_law_row", "_law_many"] (spF K mg 2 [] f_lis_row) := by
  refine fn_ok F sc_lis_row (by decide) (by decide) fun cdv A outer s H E hr => ?_
  have nd := sc_lis_row.nd
  have tk : L2N.Takes (cxOf (L2N.CX P w) P w K mg base ["_law_row", "_law_many", "_law_part"] "_law_is_row" (defScope s_lis_row) f cdv A outer s H E) (fun cls d _ H => E cls d H) := L2N.takes_of rfl rfl rfl rfl
  have pn : PassesOwn (model P w) (cxOf (L2N.CX P w) P w K mg base ["_law_row", "_law_many", "_law_part"] "_law_is_row" (defScope s_lis_row) f cdv A outer s H E).A (cxOf (L2N.CX P w) P w K mg base ["_law_row", "_law_many", "_law_part"] "_law_is_row" (defScope s_lis_row) f cdv A outer s H E).env (cxOf (L2N.CX P w) P w K mg base ["_law_row", "_law_many", "_law_part"] "_law_is_row" (defScope s_lis_row) f cdv A outer s H E).xe := passes_of rfl
  unfold m_lis_row
  exact mss_cons (ms_if (PW.pt (mw_or (mt_not (mt_val (mb_isi B.isinstance (ma_cons (me_var (i := 0) rfl (.inl v_lis_row_0)) (ma_cons (me_bltn B.tuple (by decide +kernel) (w := .ty "tuple") rfl (hg := (g_lis_row_tuple _ _ _))) ma_nil)) (hg := (g_lis_row_isinstance _ _ _))))) (mw_or (mt_cmp op_lt os_lt (mb_len B.len (ma_cons (me_var (i := 0) rfl (.inl v_lis_row_0)) (ma_nil)) (hg := (g_lis_row_len _ _ _))) (me_int) (nomark _)) (mw_one_or (mt_not (mt_val (mb_isi B.isinstance (ma_cons (me_ix (me_var (i := 0) rfl (.inl v_lis_row_0)) (me_int)) (ma_cons (me_bltn B.str (by decide +kernel) (w := .ty "str") rfl (hg := (g_lis_row_str _ _ _))) ma_nil)) (hg := (g_lis_row_isinstance _ _ _))))))))) (mss_one (ms_ret (me_bl))) (mss_nil)) (mss_cons (ms_if (mt_not (mt_val (mb_all rfl B.all (ma_cons (me_fz (mo_lc (own := [("_law_part", 2)]) (g := .nm 2) rfl nd (mi_val (me_sl (me_var (i := 0) rfl (.inl v_lis_row_0)) (mp_some (me_int)) (mp_none))) (blkOk_at (N' := ["_law_row", "_law_many", "_law_part"]) (sc' := defScope s_lis_row) rfl rfl (by decide +kernel)) (fun _ _ _ _ _ => pg_name (i := 2) nd rfl (Or.inl rfl)) (fun _ _ _ _ _ => mts_nil) (fun _ _ _ _ _ => me_and (me_fz (mf_call0 h_lwhole hr (by decide) (ma_cons (me_var (i := 2) rfl (.inl rfl)) (ma_nil)) (lng_cons lng_nil) (hg := rfl))) (me_one (me_chain op_le os_le op_lt os_lt (me_int) (me_var (i := 2) rfl (.inl rfl)) (me_int)))) (hbs := hbs_of rfl))) (ma_nil)) (hg := (g_lis_row_all _ _ _))))) (mss_one (ms_ret (me_bl))) (mss_nil)) (mss_cons (ms_if (mt_cmp op_inM os_in (me_ix (me_var (i := 0) rfl (.inl v_lis_row_0)) (me_int)) (me_tup (ma_cons (me_str) (ma_cons (me_str) (ma_nil)))) rfl) (mss_one (ms_ret (me_cmp (op_eqM hr.units) os_eq (mb_len B.len (ma_cons (me_var (i := 0) rfl (.inl v_lis_row_0)) (ma_nil)) (hg := (g_lis_row_len _ _ _))) (me_int) (nomark _)))) (mss_nil)) (mss_cons (ms_if (mt_cmp (op_eqM hr.units) os_eq (me_ix (me_var (i := 0) rfl (.inl v_lis_row_0)) (me_int)) (me_str) (nomark _)) (mss_one (ms_ret (me_and (me_cmp (op_eqM hr.units) os_eq (mb_len B.len (ma_cons (me_var (i := 0) rfl (.inl v_lis_row_0)) (ma_nil)) (hg := (g_lis_row_len _ _ _))) (me_int) (nomark _)) (me_one (me_cmp op_lt os_lt (me_ix (me_var (i := 0) rfl (.inl v_lis_row_0)) (me_int)) (me_int) (nomark _)))))) (mss_nil)) (mss_cons (ms_if (mt_cmp (op_eqM hr.units) os_eq (me_ix (me_var (i := 0) rfl (.inl v_lis_row_0)) (me_int)) (me_str) (nomark _)) (mss_one (ms_ret (me_and (me_cmp (op_eqM hr.units) os_eq (mb_len B.len (ma_cons (me_var (i := 0) rfl (.inl v_lis_row_0)) (ma_nil)) (hg := (g_lis_row_len _ _ _))) (me_int) (nomark _)) (me_one (me_cmp op_lt os_lt (me_ix (me_var (i := 0) rfl (.inl v_lis_row_0)) (me_int)) (me_var (i := 1) rfl (.inl v_lis_row_1)) (nomark _)))))) (mss_nil)) (mss_one (ms_ret (me_and (me_cmp (op_eqM hr.units) os_eq (mb_len B.len (ma_cons (me_var (i := 0) rfl (.inl v_lis_row_0)) (ma_nil)) (hg := (g_lis_row_len _ _ _))) (me_int) (nomark _)) (me_one (me_cmp op_inM os_in (me_ix (me_var (i := 0) rfl (.inl v_lis_row_0)) (me_int)) (me_tup (ma_cons (me_str) (ma_cons (me_str) (ma_cons (me_str) (ma_cons (me_str) (ma_cons (me_str) (ma_cons (me_str) (ma_nil)))))))) rfl)))))))))

abbrev s_lbytes : Stmt := top 63
theorem sc_lbytes : FnScope ["_law_found", "_law_many", "_law_part"] ["_law_found", "_law_many"] (defScope s_lbytes) := ⟨rfl, rfl, rfl, by decide +kernel, rfl, by decide +kernel, by decide +kernel⟩
theorem v_lbytes_0 : (defScope s_lbytes).names.lookup ("_law_found" : Str) = some NameKind.local := by decide +kernel
theorem v_lbytes_1 : (defScope s_lbytes).names.lookup ("_law_many" : Str) = some NameKind.local := by decide +kernel
theorem g_lbytes_tuple (L a : Addr) (cd : Value) : (PyProof.Rows.envOfC "_law_bytes" (defScope s_lbytes) L a cd).kindOf ("tuple" : Str) = some NameKind.globalImplicit := rfl
theorem g_lbytes_isinstance (L a : Addr) (cd : Value) : (PyProof.Rows.envOfC "_law_bytes" (defScope s_lbytes) L a cd).kindOf ("isinstance" : Str) = some NameKind.globalImplicit := rfl
theorem g_lbytes_len (L a : Addr) (cd : Value) : (PyProof.Rows.envOfC "_law_bytes" (defScope s_lbytes) L a cd).kindOf ("len" : Str) = some NameKind.globalImplicit := rfl
theorem g_lbytes_all (L a : Addr) (cd : Value) : (PyProof.Rows.envOfC "_law_bytes" (defScope s_lbytes) L a cd).kindOf ("all" : Str) = some NameKind.globalImplicit := rfl
theorem ok_lbytes {P : Program} {w : World} {K : PySem.W.Frag} {mg : Str → Option Value} {base : Heap} {f : Addr} {fd : FuncData} (F : Fun K "_law_bytes" "_law_bytes" s_lbytes f fd) (B : Bn mg) (h_lwhole : Fd P w K mg base "_law_whole" 2 ["_law_found"] [] f_lwhole)    :
    FnOk P w K mg base (L2N.CX P w) 4 f fd ["_law_found", "_law_many"] (spF K mg 2 [] f_lbytes) := by
  refine fn_ok F sc_lbytes (by decide) (by decide) fun cdv A outer s H E hr => ?_
  have nd := sc_lbytes.nd
  have tk : L2N.Takes (cxOf (L2N.CX P w) P w K mg base ["_law_found", "_law_many", "_law_part"] "_law_bytes" (defScope s_lbytes) f cdv A outer s H E) (fun cls d _ H => E cls d H) := L2N.takes_of rfl rfl rfl rfl
  have pn : PassesOwn (model P w) (cxOf (L2N.CX P w) P w K mg base ["_law_found", "_law_many", "_law_part"] "_law_bytes" (defScope s_lbytes) f cdv A outer s H E).A (cxOf (L2N.CX P w) P w K mg base ["_law_found", "_law_many", "_law_part"] "_law_bytes" (defScope s_lbytes) f cdv A outer s H E).env (cxOf (L2N.CX P w) P w K mg base ["_law_found", "_law_many", "_law_part"] "_law_bytes" (defScope s_lbytes) f cdv A outer s H E).xe := passes_of rfl
  unfold m_lbytes
  exact mss_cons (ms_if (PW.pt (mw_or (mt_not (mt_val (mb_isi B.isinstance (ma_cons (me_var (i := 0) rfl (.inl v_lbytes_0)) (ma_cons (me_bltn B.tuple (by decide +kernel) (w := .ty "tuple") rfl (hg := (g_lbytes_tuple _ _ _))) ma_nil)) (hg := (g_lbytes_isinstance _ _ _))))) (mw_one_or (mt_cmp (op_neM hr.units) os_ne (mb_len B.len (ma_cons (me_var (i := 0) rfl (.inl v_lbytes_0)) (ma_nil)) (hg := (g_lbytes_len _ _ _))) (me_var (i := 1) rfl (.inl v_lbytes_1)) (nomark _))))) (mss_one (ms_ret (me_bl))) (mss_nil)) (mss_one (ms_ret (mb_all rfl B.all (ma_cons (me_fz (mo_lc (own := [("_law_part", 2)]) (g := .nm 2) rfl nd (mi_val (me_var (i := 0) rfl (.inl v_lbytes_0))) (blkOk_at (N' := ["_law_found", "_law_many", "_law_part"]) (sc' := defScope s_lbytes) rfl rfl (by decide +kernel)) (fun _ _ _ _ _ => pg_name (i := 2) nd rfl (Or.inl rfl)) (fun _ _ _ _ _ => mts_nil) (fun _ _ _ _ _ => me_and (me_fz (mf_call0 h_lwhole hr (by decide) (ma_cons (me_var (i := 2) rfl (.inl rfl)) (ma_nil)) (lng_cons lng_nil) (hg := rfl))) (me_one (me_chain op_le os_le op_lt os_lt (me_int) (me_var (i := 2) rfl (.inl rfl)) (me_int)))) (hbs := hbs_of rfl))) (ma_nil)) (hg := (g_lbytes_all _ _ _)))))

abbrev s_lis_program : Stmt := top 65
theorem sc_lis_program : FnScope ["_law_found", "_law_row", "_law_table", "_law_part"] ["_law_found"] (defScope s_lis_program) := ⟨rfl, rfl, rfl, by decide +kernel, rfl, by decide +kernel, by decide +kernel⟩
theorem v_lis_program_0 : (defScope s_lis_program).names.lookup ("_law_found" : Str) = some NameKind.cell := by decide +kernel
theorem g_lis_program_tuple (L a : Addr) (cd : Value) : (PyProof.Rows.envOfC "_law_is_program" (defScope s_lis_program) L a cd).kindOf ("tuple" : Str) = some NameKind.globalImplicit := rfl
theorem g_lis_program_isinstance (L a : Addr) (cd : Value) : (PyProof.Rows.envOfC "_law_is_program" (defScope s_lis_program) L a cd).kindOf ("isinstance" : Str) = some NameKind.globalImplicit := rfl
theorem g_lis_program_len (L a : Addr) (cd : Value) : (PyProof.Rows.envOfC "_law_is_program" (defScope s_lis_program) L a cd).kindOf ("len" : Str) = some NameKind.globalImplicit := rfl
theorem g_lis_program_all (L a : Addr) (cd : Value) : (PyProof.Rows.envOfC "_law_is_program" (defScope s_lis_program) L a cd).kindOf ("all" : Str) = some NameKind.globalImplicit := rfl
theorem ok_lis_program {P : Program} {w : World} {K : PySem.W.Frag} {mg : Str → Option Value} {base : Heap} {f : Addr} {fd : FuncData} (F : Fun K "_law_is_program" "_law_is_program" s_lis_program f fd) (B : Bn mg) (h_lbytes : Fd P w K mg base "_law_bytes" 4 ["_law_found", "_law_many"] [] f_lbytes) (h_lis_row : Fd P w K mg base "_law_is_row" 4 ["_law_row", "_law_many"] [] f_lis_row)    :
    FnOk P w K mg base (L2N.CX P w) 6 f fd ["_law_found"] (spF K mg 1 [] f_lis_program) := by
  refine fn_ok F sc_lis_program (by decide) (by decide) fun cdv A outer s H E hr => ?_
  have nd := sc_lis_program.nd
  have tk : L2N.Takes (cxOf (L2N.CX P w) P w K mg base ["_law_found", "_law_row", "_law_table", "_law_part"] "_law_is_program" (defScope s_lis_program) f cdv A outer s H E) (fun cls d _ H => E cls d H) := L2N.takes_of rfl rfl rfl rfl
  have pn : PassesOwn (model P w) (cxOf (L2N.CX P w) P w K mg base ["_law_found", "_law_row", "_law_table", "_law_part"] "_law_is_program" (defScope s_lis_program) f cdv A outer s H E).A (cxOf (L2N.CX P w) P w K mg base ["_law_found", "_law_row", "_law_table", "_law_part"] "_law_is_program" (defScope s_lis_program) f cdv A outer s H E).env (cxOf (L2N.CX P w) P w K mg base ["_law_found", "_law_row", "_law_table", "_law_part"] "_law_is_program" (defScope s_lis_program) f cdv A outer s H E).xe := passes_of rfl
  unfold m_lis_program
  exact mss_cons (ms_if (PW.pt (mw_or (mt_not (mt_val (mb_isi B.isinstance (ma_cons (me_var (i := 0) rfl (.inr (.inl v_lis_program_0))) (ma_cons (me_bltn B.tuple (by decide +kernel) (w := .ty "tuple") rfl (hg := (g_lis_program_tuple _ _ _))) ma_nil)) (hg := (g_lis_program_isinstance _ _ _))))) (mw_or (mt_cmp (op_neM hr.units) os_ne (mb_len B.len (ma_cons (me_var (i := 0) rfl (.inr (.inl v_lis_program_0))) (ma_nil)) (hg := (g_lis_program_len _ _ _))) (me_int) (nomark _)) (mw_one_or (mt_not (mt_val (mb_all rfl B.all (ma_cons (me_fz (mo_lc (own := [("_law_part", 3)]) (g := .nm 3) rfl nd (mi_val (me_var (i := 0) rfl (.inr (.inl v_lis_program_0)))) (blkOk_at (N' := ["_law_found", "_law_row", "_law_table", "_law_part"]) (sc' := defScope s_lis_program) rfl rfl (by decide +kernel)) (fun _ _ _ _ _ => pg_name (i := 3) nd rfl (Or.inl rfl)) (fun _ _ _ _ _ => mts_nil) (fun _ _ _ _ _ => mb_isi B.isinstance (ma_cons (me_var (i := 3) rfl (.inl rfl)) (ma_cons (me_bltn B.tuple (by decide +kernel) (w := .ty "tuple") rfl (hg := rfl)) ma_nil)) (hg := rfl)) (hbs := hbs_of rfl))) (ma_nil)) (hg := (g_lis_program_all _ _ _))))))))) (mss_one (ms_ret (me_bl))) (mss_nil)) (mss_cons (ms_if (PW.pt (mw_or (mt_cmp op_gt os_gt (mb_len B.len (ma_cons (me_ix (me_var (i := 0) rfl (.inr (.inl v_lis_program_0))) (me_int)) (ma_nil)) (hg := (g_lis_program_len _ _ _))) (me_int) (nomark _)) (mw_one_or (mt_cmp op_gt os_gt (mb_len B.len (ma_cons (me_ix (me_var (i := 0) rfl (.inr (.inl v_lis_program_0))) (me_int)) (ma_nil)) (hg := (g_lis_program_len _ _ _))) (me_int) (nomark _))))) (mss_one (ms_ret (me_bl))) (mss_nil)) (mss_cons (ms_if (mt_not (mt_val (mb_all rfl B.all (ma_cons (me_fz (mo_lc (own := [("_law_table", 2)]) (g := .nm 2) rfl nd (mi_val (me_ix (me_var (i := 0) rfl (.inr (.inl v_lis_program_0))) (me_int))) (blkOk_at (N' := ["_law_found", "_law_row", "_law_table", "_law_part"]) (sc' := defScope s_lis_program) rfl rfl (by decide +kernel)) (fun _ _ _ _ _ => pg_name (i := 2) nd rfl (Or.inl rfl)) (fun _ _ _ _ _ => mts_nil) (fun _ _ _ _ _ => me_fz (mf_call0 h_lbytes hr (by decide) (ma_cons (me_var (i := 2) rfl (.inl rfl)) (ma_cons (me_int) (ma_nil))) (lng_cons (lng_cons lng_nil)) (hg := rfl))) (hbs := hbs_of rfl))) (ma_nil)) (hg := (g_lis_program_all _ _ _))))) (mss_one (ms_ret (me_bl))) (mss_nil)) (mss_one (ms_ret (mb_all rfl B.all (ma_cons (me_fz (mo_lc (own := [("_law_row", 1)]) (g := .nm 1) rfl nd (mi_val (me_ix (me_var (i := 0) rfl (.inr (.inl v_lis_program_0))) (me_int))) (blkOk_at (N' := ["_law_found", "_law_row", "_law_table", "_law_part"]) (sc' := defScope s_lis_program) rfl rfl (by decide +kernel)) (fun _ _ _ _ _ => pg_name (i := 1) nd rfl (Or.inl rfl)) (fun _ _ _ _ _ => mts_nil) (fun _ _ _ _ _ => me_fz (mf_call0 h_lis_row hr (by decide) (ma_cons (me_var (i := 1) rfl (.inl rfl)) (ma_cons (mb_len B.len (ma_cons (me_ix (me_var (i := 0) rfl (by first | exact .inr (.inr rfl) | exact .inl rfl | exact .inr (.inl rfl))) (me_int)) (ma_nil)) (hg := rfl)) (ma_nil))) (lng_cons (lng_cons lng_nil)) (hg := rfl))) (hbs := hbs_of rfl))) (ma_nil)) (hg := (g_lis_program_all _ _ _)))))))

abbrev s_lright2 : Stmt := top 69
theorem sc_lright2 : FnScope ["_law_script", "_law_at", "_law_form_here", "_law_by", "_law_rule", "_law_way", "_law_kind", "_law_sign", "_law_pick", "_law_many", "_law_point", "_law_word", "_law_great", "_law_beyond", "_law_found", "_law_sorts_here"] ["_law_script", "_law_at"] (defScope s_lright2) := ⟨rfl, rfl, rfl, by decide +kernel, rfl, by decide +kernel, by decide +kernel⟩
theorem v_lright2_0 : (defScope s_lright2).names.lookup ("_law_script" : Str) = some NameKind.local := by decide +kernel
theorem v_lright2_1 : (defScope s_lright2).names.lookup ("_law_at" : Str) = some NameKind.local := by decide +kernel
theorem v_lright2_2 : (defScope s_lright2).names.lookup ("_law_form_here" : Str) = some NameKind.local := by decide +kernel
theorem v_lright2_3 : (defScope s_lright2).names.lookup ("_law_by" : Str) = some NameKind.local := by decide +kernel
theorem v_lright2_4 : (defScope s_lright2).names.lookup ("_law_rule" : Str) = some NameKind.local := by decide +kernel
theorem v_lright2_5 : (defScope s_lright2).names.lookup ("_law_way" : Str) = some NameKind.local := by decide +kernel
theorem v_lright2_6 : (defScope s_lright2).names.lookup ("_law_kind" : Str) = some NameKind.local := by decide +kernel
theorem v_lright2_7 : (defScope s_lright2).names.lookup ("_law_sign" : Str) = some NameKind.local := by decide +kernel
theorem v_lright2_8 : (defScope s_lright2).names.lookup ("_law_pick" : Str) = some NameKind.local := by decide +kernel
theorem v_lright2_9 : (defScope s_lright2).names.lookup ("_law_many" : Str) = some NameKind.local := by decide +kernel
theorem v_lright2_10 : (defScope s_lright2).names.lookup ("_law_point" : Str) = some NameKind.local := by decide +kernel
theorem v_lright2_11 : (defScope s_lright2).names.lookup ("_law_word" : Str) = some NameKind.local := by decide +kernel
theorem v_lright2_12 : (defScope s_lright2).names.lookup ("_law_great" : Str) = some NameKind.local := by decide +kernel
theorem v_lright2_13 : (defScope s_lright2).names.lookup ("_law_beyond" : Str) = some NameKind.local := by decide +kernel
theorem v_lright2_14 : (defScope s_lright2).names.lookup ("_law_found" : Str) = some NameKind.local := by decide +kernel
theorem v_lright2_15 : (defScope s_lright2).names.lookup ("_law_sorts_here" : Str) = some NameKind.local := by decide +kernel
theorem g_lright2_law_cell (L a : Addr) (cd : Value) : (PyProof.Rows.envOfC "_law_right" (defScope s_lright2) L a cd).kindOf ("_law_cell" : Str) = some NameKind.globalImplicit := rfl
theorem g_lright2_law_draws (L a : Addr) (cd : Value) : (PyProof.Rows.envOfC "_law_right" (defScope s_lright2) L a cd).kindOf ("_law_draws" : Str) = some NameKind.globalImplicit := rfl
theorem g_lright2_law_form (L a : Addr) (cd : Value) : (PyProof.Rows.envOfC "_law_right" (defScope s_lright2) L a cd).kindOf ("_law_form" : Str) = some NameKind.globalImplicit := rfl
theorem g_lright2_law_rules (L a : Addr) (cd : Value) : (PyProof.Rows.envOfC "_law_right" (defScope s_lright2) L a cd).kindOf ("_law_rules" : Str) = some NameKind.globalImplicit := rfl
theorem g_lright2_law_asked (L a : Addr) (cd : Value) : (PyProof.Rows.envOfC "_law_right" (defScope s_lright2) L a cd).kindOf ("_law_asked" : Str) = some NameKind.globalImplicit := rfl
theorem g_lright2_law_whole (L a : Addr) (cd : Value) : (PyProof.Rows.envOfC "_law_right" (defScope s_lright2) L a cd).kindOf ("_law_whole" : Str) = some NameKind.globalImplicit := rfl
theorem g_lright2_law_is_program (L a : Addr) (cd : Value) : (PyProof.Rows.envOfC "_law_right" (defScope s_lright2) L a cd).kindOf ("_law_is_program" : Str) = some NameKind.globalImplicit := rfl
theorem ok_lright2 {P : Program} {w : World} {K : PySem.W.Frag} {mg : Str → Option Value} {base : Heap} {f : Addr} {fd : FuncData} (F : Fun K "_law_right" "_law_right" s_lright2 f fd) (B : Bn mg) (h_ldraws : Fd P w K mg base "_law_draws" 4 ["_law_cell_here", "_law_salt", "_law_widths"] [] f_ldraws) (h_lcell : Fd P w K mg base "_law_cell" 2 ["_law_script", "_law_k"] [] f_lcell) (h_lform : Fd P w K mg base "_law_form" 2 ["_law_kind", "_law_many", "_law_sign"] [] f_lform) (h_lrules : Fd P w K mg base "_law_rules" 2 [] [] f_lrules) (h_lasked3 : Fd P w K mg base "_law_asked" 18 ["_law_form_here", "_law_by", "_law_rule"] [] f_lasked3) (h_lwhole : Fd P w K mg base "_law_whole" 2 ["_law_found"] [] f_lwhole) (h_lis_program : Fd P w K mg base "_law_is_program" 6 ["_law_found"] [] f_lis_program)    :
    FnOk P w K mg base (L2N.CX P w) 20 f fd ["_law_script", "_law_at"] (spF K mg 2 [] f_lright2) := by
  refine fn_ok F sc_lright2 (by decide) (by decide) fun cdv A outer s H E hr => ?_
  have nd := sc_lright2.nd
  have tk : L2N.Takes (cxOf (L2N.CX P w) P w K mg base ["_law_script", "_law_at", "_law_form_here", "_law_by", "_law_rule", "_law_way", "_law_kind", "_law_sign", "_law_pick", "_law_many", "_law_point", "_law_word", "_law_great", "_law_beyond", "_law_found", "_law_sorts_here"] "_law_right" (defScope s_lright2) f cdv A outer s H E) (fun cls d _ H => E cls d H) := L2N.takes_of rfl rfl rfl rfl
  have pn : PassesOwn (model P w) (cxOf (L2N.CX P w) P w K mg base ["_law_script", "_law_at", "_law_form_here", "_law_by", "_law_rule", "_law_way", "_law_kind", "_law_sign", "_law_pick", "_law_many", "_law_point", "_law_word", "_law_great", "_law_beyond", "_law_found", "_law_sorts_here"] "_law_right" (defScope s_lright2) f cdv A outer s H E).A (cxOf (L2N.CX P w) P w K mg base ["_law_script", "_law_at", "_law_form_here", "_law_by", "_law_rule", "_law_way", "_law_kind", "_law_sign", "_law_pick", "_law_many", "_law_point", "_law_word", "_law_great", "_law_beyond", "_law_found", "_law_sorts_here"] "_law_right" (defScope s_lright2) f cdv A outer s H E).env (cxOf (L2N.CX P w) P w K mg base ["_law_script", "_law_at", "_law_form_here", "_law_by", "_law_rule", "_law_way", "_law_kind", "_law_sign", "_law_pick", "_law_many", "_law_point", "_law_word", "_law_great", "_law_beyond", "_law_found", "_law_sorts_here"] "_law_right" (defScope s_lright2) f cdv A outer s H E).xe := passes_of rfl
  unfold m_lright2
  exact mss_cons (ms_asg (me_fz (mf_call h_ldraws hr (by decide) tk (ma_cons (me_fz (mf_call h_lcell hr (by decide) tk (ma_cons (me_var (i := 0) rfl (.inl v_lright2_0)) (ma_cons (me_var (i := 1) rfl (.inl v_lright2_1)) (ma_nil))) (lng_cons (lng_cons lng_nil)) (hg := (g_lright2_law_cell _ _ _)))) (ma_cons (me_int) (ma_cons (me_lst (ma_cons (me_int) (ma_cons (me_int) (ma_cons (me_int) (ma_cons (me_int) (ma_cons (me_int) (ma_nil))))))) (ma_nil)))) (lng_cons (lng_cons (lng_cons lng_nil))) (hg := (g_lright2_law_draws _ _ _)))) (mg_tup rfl (mgs_cons (mg_name (i := 5) nd rfl (.inl v_lright2_5)) (mgs_cons (mg_name (i := 6) nd rfl (.inl v_lright2_6)) (mgs_cons (mg_name (i := 7) nd rfl (.inl v_lright2_7)) (mgs_cons (mg_name (i := 8) nd rfl (.inl v_lright2_8)) (mgs_cons (mg_name (i := 9) nd rfl (.inl v_lright2_9)) (mgs_nil)))))))) (mss_cons (ms_asg (me_fz (mf_call h_ldraws hr (by decide) tk (ma_cons (me_fz (mf_call h_lcell hr (by decide) tk (ma_cons (me_var (i := 0) rfl (.inl v_lright2_0)) (ma_cons (me_add (me_var (i := 1) rfl (.inl v_lright2_1)) (me_int)) (ma_nil))) (lng_cons (lng_cons lng_nil)) (hg := (g_lright2_law_cell _ _ _)))) (ma_cons (me_int) (ma_cons (me_lst (ma_cons (me_int) (ma_cons (me_int) (ma_cons (me_int) (ma_cons (me_int) (ma_cons (me_pow (me_int) (me_int)) (ma_nil))))))) (ma_nil)))) (lng_cons (lng_cons (lng_cons lng_nil))) (hg := (g_lright2_law_draws _ _ _)))) (mg_tup rfl (mgs_cons (mg_name (i := 3) nd rfl (.inl v_lright2_3)) (mgs_cons (mg_name (i := 10) nd rfl (.inl v_lright2_10)) (mgs_cons (mg_name (i := 11) nd rfl (.inl v_lright2_11)) (mgs_cons (mg_name (i := 12) nd rfl (.inl v_lright2_12)) (mgs_cons (mg_name (i := 13) nd rfl (.inl v_lright2_13)) (mgs_nil)))))))) (mss_cons (ms_set (i := 2) nd rfl (.inl v_lright2_2) (me_fz (mf_call h_lform hr (by decide) tk (ma_cons (me_var (i := 6) rfl (.inl v_lright2_6)) (ma_cons (me_var (i := 9) rfl (.inl v_lright2_9)) (ma_cons (me_var (i := 7) rfl (.inl v_lright2_7)) (ma_nil)))) (lng_cons (lng_cons (lng_cons lng_nil))) (hg := (g_lright2_law_form _ _ _))))) (mss_cons (ms_set (i := 2) nd rfl (.inl v_lright2_2) (me_add (me_sl (me_var (i := 2) rfl (.inl v_lright2_2)) (mp_none) (mp_some (me_int))) (me_tup (ma_cons (me_mod (me_var (i := 10) rfl (.inl v_lright2_10)) (me_add (me_ix (me_var (i := 2) rfl (.inl v_lright2_2)) (me_int)) (me_int))) (ma_nil))))) (mss_cons (ms_set (i := 3) nd rfl (.inl v_lright2_3) (me_sub (me_mod (me_var (i := 3) rfl (.inl v_lright2_3)) (me_add (me_mul (me_int) (me_ix (me_var (i := 2) rfl (.inl v_lright2_2)) (me_int))) (me_int))) (me_ix (me_var (i := 2) rfl (.inl v_lright2_2)) (me_int)))) (mss_cons (ms_set (i := 4) nd rfl (.inl v_lright2_4) (me_ix (me_fz (mf_callZ h_lrules hr (by decide) (hg := (g_lright2_law_rules _ _ _)))) (me_var (i := 8) rfl (.inl v_lright2_8)))) (mss_cons (ms_if (PW.pt (mw_or (mt_cmp (op_eqM hr.units) os_eq (me_var (i := 5) rfl (.inl v_lright2_5)) (me_int) (nomark _)) (mw_one_or (mt_cmp (op_eqM hr.units) os_eq (me_var (i := 5) rfl (.inl v_lright2_5)) (me_int) (nomark _))))) (mss_one (ms_set (i := 3) nd rfl (.inl v_lright2_3) (me_mul (me_add (me_add (me_ix (me_var (i := 2) rfl (.inl v_lright2_2)) (me_int)) (me_int)) (me_mod (me_var (i := 13) rfl (.inl v_lright2_13)) (me_ix (me_lst (ma_cons (me_int) (ma_cons (me_pow (me_int) (me_int)) (ma_nil)))) (me_var (i := 12) rfl (.inl v_lright2_12))))) (me_sub (me_int) (me_mul (me_int) (me_mod (me_var (i := 10) rfl (.inl v_lright2_10)) (me_int))))))) (mss_nil)) (mss_cons (ms_if (PW.pt (mw_or (mt_cmp (op_eqM hr.units) os_eq (me_var (i := 5) rfl (.inl v_lright2_5)) (me_int) (nomark _)) (mw_one_or (mt_cmp (op_eqM hr.units) os_eq (me_var (i := 5) rfl (.inl v_lright2_5)) (me_int) (nomark _))))) (mss_one (ms_set (i := 4) nd rfl (.inl v_lright2_4) (me_ix (me_lst (ma_cons (me_str) (ma_cons (me_str) (ma_cons (me_str) (ma_cons (me_str) (ma_cons (me_str) (ma_cons (me_str) (ma_cons (me_str) (ma_cons (me_str) (ma_nil)))))))))) (me_var (i := 11) rfl (.inl v_lright2_11))))) (mss_nil)) (mss_cons (ms_asg (me_fz (mf_call h_lasked3 hr (by decide) tk (ma_cons (me_var (i := 2) rfl (.inl v_lright2_2)) (ma_cons (me_var (i := 3) rfl (.inl v_lright2_3)) (ma_cons (me_var (i := 4) rfl (.inl v_lright2_4)) (ma_nil)))) (lng_cons (lng_cons (lng_cons lng_nil))) (hg := (g_lright2_law_asked _ _ _)))) (mg_tup rfl (mgs_cons (mg_name (i := 14) nd rfl (.inl v_lright2_14)) (mgs_cons (mg_name (i := 15) nd rfl (.inl v_lright2_15)) (mgs_nil))))) (mss_cons (ms_if (PW.pt (mw_or (mt_cmp (op_eqM hr.units) os_eq (me_var (i := 5) rfl (.inl v_lright2_5)) (me_int) (nomark _)) (mw_one_or (mt_cmp (op_eqM hr.units) os_eq (me_var (i := 5) rfl (.inl v_lright2_5)) (me_int) (nomark _))))) (mss_one (ms_ret (me_and (me_cmp (op_eqM hr.units) os_eq (me_var (i := 15) rfl (.inl v_lright2_15)) (me_str) (nomark _)) (me_one (me_cmp (op_eqM hr.units) os_eq (me_var (i := 14) rfl (.inl v_lright2_14)) (me_var (i := 4) rfl (.inl v_lright2_4)) (nomark _)))))) (mss_nil)) (mss_cons (ms_if (mt_cmp (op_eqM hr.units) os_eq (me_var (i := 5) rfl (.inl v_lright2_5)) (me_int) (nomark _)) (mss_one (ms_ret (me_and (me_cmp (op_eqM hr.units) os_eq (me_var (i := 15) rfl (.inl v_lright2_15)) (me_str) (nomark _)) (me_and (me_fz (mf_call h_lwhole hr (by decide) tk (ma_cons (me_var (i := 14) rfl (.inl v_lright2_14)) (ma_nil)) (lng_cons lng_nil) (hg := (g_lright2_law_whole _ _ _)))) (me_one (me_cmp (op_eqM hr.units) os_eq (me_var (i := 14) rfl (.inl v_lright2_14)) (me_var (i := 3) rfl (.inl v_lright2_3)) (nomark _))))))) (mss_nil)) (mss_one (ms_ret (me_and (me_cmp (op_eqM hr.units) os_eq (me_var (i := 15) rfl (.inl v_lright2_15)) (me_str) (nomark _)) (me_one (me_fz (mf_call h_lis_program hr (by decide) tk (ma_cons (me_var (i := 14) rfl (.inl v_lright2_14)) (ma_nil)) (lng_cons lng_nil) (hg := (g_lright2_law_is_program _ _ _))))))))))))))))))

abbrev s_law34 : Stmt := top 70
theorem sc_law34 : FnScope ["_law_script", "_law_k"] ["_law_script"] (defScope s_law34) := ⟨rfl, rfl, rfl, by decide +kernel, rfl, by decide +kernel, by decide +kernel⟩
theorem v_law34_0 : (defScope s_law34).names.lookup ("_law_script" : Str) = some NameKind.cell := by decide +kernel
theorem g_law34_range (L a : Addr) (cd : Value) : (PyProof.Rows.envOfC "law" (defScope s_law34) L a cd).kindOf ("range" : Str) = some NameKind.globalImplicit := rfl
theorem g_law34_all (L a : Addr) (cd : Value) : (PyProof.Rows.envOfC "law" (defScope s_law34) L a cd).kindOf ("all" : Str) = some NameKind.globalImplicit := rfl
theorem ok_law34 {P : Program} {w : World} {K : PySem.W.Frag} {mg : Str → Option Value} {base : Heap} {f : Addr} {fd : FuncData} (F : Fun K "law" "law" s_law34 f fd) (B : Bn mg) (h_lright2 : Fd P w K mg base "_law_right" 20 ["_law_script", "_law_at"] [] f_lright2)    :
    FnOk P w K mg base (L2N.CX P w) 22 f fd ["_law_script"] (spF K mg 1 [] f_law34) := by
  refine fn_ok F sc_law34 (by decide) (by decide) fun cdv A outer s H E hr => ?_
  have nd := sc_law34.nd
  have tk : L2N.Takes (cxOf (L2N.CX P w) P w K mg base ["_law_script", "_law_k"] "law" (defScope s_law34) f cdv A outer s H E) (fun cls d _ H => E cls d H) := L2N.takes_of rfl rfl rfl rfl
  have pn : PassesOwn (model P w) (cxOf (L2N.CX P w) P w K mg base ["_law_script", "_law_k"] "law" (defScope s_law34) f cdv A outer s H E).A (cxOf (L2N.CX P w) P w K mg base ["_law_script", "_law_k"] "law" (defScope s_law34) f cdv A outer s H E).env (cxOf (L2N.CX P w) P w K mg base ["_law_script", "_law_k"] "law" (defScope s_law34) f cdv A outer s H E).xe := passes_of rfl
  unfold m_law34
  exact mss_one (ms_ret (mb_all rfl B.all (ma_cons (me_fz (mo_lc (own := [("_law_k", 1)]) (g := .nm 1) rfl nd (mi_r1 B.range (ma_cons (me_int) (ma_nil)) (hg := (g_law34_range _ _ _))) (blkOk_at (N' := ["_law_script", "_law_k"]) (sc' := defScope s_law34) rfl rfl (by decide +kernel)) (fun _ _ _ _ _ => pg_name (i := 1) nd rfl (Or.inl rfl)) (fun _ _ _ _ _ => mts_nil) (fun _ _ _ _ _ => me_fz (mf_call0 h_lright2 hr (by decide) (ma_cons (me_var (i := 0) rfl (by first | exact .inr (.inr rfl) | exact .inl rfl | exact .inr (.inl rfl))) (ma_cons (me_mul (me_int) (me_var (i := 1) rfl (.inl rfl))) (ma_nil))) (lng_cons (lng_cons lng_nil)) (hg := rfl))) (hbs := hbs_of rfl))) (ma_nil)) (hg := (g_law34_all _ _ _))))

theorem all_mk {l : PySem.W.OpenLaw} {w : World} {K : PySem.W.Frag} {h : Heap} {mg : Str → Option Value} {fa f0 f1 f2 f3 f4 f5 f6 f7 f8 f9 f10 f11 f12 f13 f14 f15 f16 f17 f18 f19 f20 f21 f22 f23 f24 f25 f26 f27 f28 f29 f30 f31 f32 f33 f34 f35 f36 f37 f38 f39 f40 f41 f42 f43 f44 f45 f46 f47 f48 f49 f50 f51 : Addr} (X : K.In h) (G : h.Ns mainGlobals mg) (hfa : mg "law" = some (.ref fa))
    {od0 an0 od1 an1 od2 an2 od3 an3 od4 an4 od5 an5 od6 an6 od7 an7 od8 an8 od9 an9 od10 an10 od11 an11 od12 an12 od13 an13 od14 an14 od15 an15 od16 an16 od17 an17 od18 an18 od19 an19 od20 an20 od21 an21 od22 an22 od23 an23 od24 an24 od25 an25 od26 an26 od27 an27 od28 an28 od29 an29 od30 an30 od31 an31 od32 an32 od33 an33 od34 an34 od35 an35 od36 an36 od37 an37 od38 an38 od39 an39 od40 an40 od41 an41 od42 an42 od43 an43 od44 an44 od45 an45 od46 an46 od47 an47 od48 an48 od49 an49 od50 an50 od51 an51 : Option Addr} {sl0 sl1 sl2 sl3 sl4 sl5 sl6 sl7 sl8 sl9 sl10 sl11 sl12 sl13 sl14 sl15 sl16 sl17 sl18 sl19 sl20 sl21 sl22 sl23 sl24 sl25 sl26 sl27 sl28 sl29 sl30 sl31 sl32 sl33 sl34 sl35 sl36 sl37 sl38 sl39 sl40 sl41 sl42 sl43 sl44 sl45 sl46 sl47 sl48 sl49 sl50 sl51 : Array (Option Value)} {oc0 kV0 dc0 pm0 cd0 ct0 oc1 kV1 dc1 pm1 cd1 ct1 oc2 kV2 dc2 pm2 cd2 ct2 oc3 kV3 dc3 pm3 cd3 ct3 oc4 kV4 dc4 pm4 cd4 ct4 oc5 kV5 dc5 pm5 cd5 ct5 oc6 kV6 dc6 pm6 cd6 ct6 oc7 kV7 dc7 pm7 cd7 ct7 oc8 kV8 dc8 pm8 cd8 ct8 oc9 kV9 dc9 pm9 cd9 ct9 oc10 kV10 dc10 pm10 cd10 ct10 oc11 kV11 dc11 pm11 cd11 ct11 oc12 kV12 dc12 pm12 cd12 ct12 oc13 kV13 dc13 pm13 cd13 ct13 oc14 kV14 dc14 pm14 cd14 ct14 oc15 kV15 dc15 pm15 cd15 ct15 oc16 kV16 dc16 pm16 cd16 ct16 oc17 kV17 dc17 pm17 cd17 ct17 oc18 kV18 dc18 pm18 cd18 ct18 oc19 kV19 dc19 pm19 cd19 ct19 oc20 kV20 dc20 pm20 cd20 ct20 oc21 kV21 dc21 pm21 cd21 ct21 oc22 kV22 dc22 pm22 cd22 ct22 oc23 kV23 dc23 pm23 cd23 ct23 oc24 kV24 dc24 pm24 cd24 ct24 oc25 kV25 dc25 pm25 cd25 ct25 oc26 kV26 dc26 pm26 cd26 ct26 oc27 kV27 dc27 pm27 cd27 ct27 oc28 kV28 dc28 pm28 cd28 ct28 oc29 kV29 dc29 pm29 cd29 ct29 oc30 kV30 dc30 pm30 cd30 ct30 oc31 kV31 dc31 pm31 cd31 ct31 oc32 kV32 dc32 pm32 cd32 ct32 oc33 kV33 dc33 pm33 cd33 ct33 oc34 kV34 dc34 pm34 cd34 ct34 oc35 kV35 dc35 pm35 cd35 ct35 oc36 kV36 dc36 pm36 cd36 ct36 oc37 kV37 dc37 pm37 cd37 ct37 oc38 kV38 dc38 pm38 cd38 ct38 oc39 kV39 dc39 pm39 cd39 ct39 oc40 kV40 dc40 pm40 cd40 ct40 oc41 kV41 dc41 pm41 cd41 ct41 oc42 kV42 dc42 pm42 cd42 ct42 oc43 kV43 dc43 pm43 cd43 ct43 oc44 kV44 dc44 pm44 cd44 ct44 oc45 kV45 dc45 pm45 cd45 ct45 oc46 kV46 dc46 pm46 cd46 ct46 oc47 kV47 dc47 pm47 cd47 ct47 oc48 kV48 dc48 pm48 cd48 ct48 oc49 kV49 dc49 pm49 cd49 ct49 oc50 kV50 dc50 pm50 cd50 ct50 oc51 kV51 dc51 pm51 cd51 ct51 : Value}
    (a0 : PySem.W.nsIn K mainGlobals "ahead_of_last" = some (some (.ref f0))) (l0 : K.lookup f0 = some ⟨oc0, od0, .func (PySem.W.fnOf "ahead_of_last" "ahead_of_last" (defArgs s_pahead_of_last) (defBody s_pahead_of_last) (defScope s_pahead_of_last) .none kV0 dc0 pm0 an0 cd0 ct0), sl0⟩) (c0 : PySem.W.codeIn K cd0 "ahead_of_last" = true) (k0 : PySem.W.keepIn K (.ref f0) = true)
    (a1 : PySem.W.nsIn K mainGlobals "five_on" = some (some (.ref f1))) (l1 : K.lookup f1 = some ⟨oc1, od1, .func (PySem.W.fnOf "five_on" "five_on" (defArgs s_pfive_on) (defBody s_pfive_on) (defScope s_pfive_on) .none kV1 dc1 pm1 an1 cd1 ct1), sl1⟩) (c1 : PySem.W.codeIn K cd1 "five_on" = true) (k1 : PySem.W.keepIn K (.ref f1) = true)
    (a2 : PySem.W.nsIn K mainGlobals "half_up" = some (some (.ref f2))) (l2 : K.lookup f2 = some ⟨oc2, od2, .func (PySem.W.fnOf "half_up" "half_up" (defArgs s_phalf_up) (defBody s_phalf_up) (defScope s_phalf_up) .none kV2 dc2 pm2 an2 cd2 ct2), sl2⟩) (c2 : PySem.W.codeIn K cd2 "half_up" = true) (k2 : PySem.W.keepIn K (.ref f2) = true)
    (a3 : PySem.W.nsIn K mainGlobals "high_half" = some (some (.ref f3))) (l3 : K.lookup f3 = some ⟨oc3, od3, .func (PySem.W.fnOf "high_half" "high_half" (defArgs s_phigh_half) (defBody s_phigh_half) (defScope s_phigh_half) .none kV3 dc3 pm3 an3 cd3 ct3), sl3⟩) (c3 : PySem.W.codeIn K cd3 "high_half" = true) (k3 : PySem.W.keepIn K (.ref f3) = true)
    (a4 : PySem.W.nsIn K mainGlobals "last_figure" = some (some (.ref f4))) (l4 : K.lookup f4 = some ⟨oc4, od4, .func (PySem.W.fnOf "last_figure" "last_figure" (defArgs s_plast_figure) (defBody s_plast_figure) (defScope s_plast_figure) .none kV4 dc4 pm4 an4 cd4 ct4), sl4⟩) (c4 : PySem.W.codeIn K cd4 "last_figure" = true) (k4 : PySem.W.keepIn K (.ref f4) = true)
    (a5 : PySem.W.nsIn K mainGlobals "low_half" = some (some (.ref f5))) (l5 : K.lookup f5 = some ⟨oc5, od5, .func (PySem.W.fnOf "low_half" "low_half" (defArgs s_plow_half) (defBody s_plow_half) (defScope s_plow_half) .none kV5 dc5 pm5 an5 cd5 ct5), sl5⟩) (c5 : PySem.W.codeIn K cd5 "low_half" = true) (k5 : PySem.W.keepIn K (.ref f5) = true)
    (a6 : PySem.W.nsIn K mainGlobals "lowest_two" = some (some (.ref f6))) (l6 : K.lookup f6 = some ⟨oc6, od6, .func (PySem.W.fnOf "lowest_two" "lowest_two" (defArgs s_plowest_two) (defBody s_plowest_two) (defScope s_plowest_two) .none kV6 dc6 pm6 an6 cd6 ct6), sl6⟩) (c6 : PySem.W.codeIn K cd6 "lowest_two" = true) (k6 : PySem.W.keepIn K (.ref f6) = true)
    (a7 : PySem.W.nsIn K mainGlobals "nine_less" = some (some (.ref f7))) (l7 : K.lookup f7 = some ⟨oc7, od7, .func (PySem.W.fnOf "nine_less" "nine_less" (defArgs s_pnine_less) (defBody s_pnine_less) (defScope s_pnine_less) .none kV7 dc7 pm7 an7 cd7 ct7), sl7⟩) (c7 : PySem.W.codeIn K cd7 "nine_less" = true) (k7 : PySem.W.keepIn K (.ref f7) = true)
    (a8 : PySem.W.nsIn K mainGlobals "one_of_none" = some (some (.ref f8))) (l8 : K.lookup f8 = some ⟨oc8, od8, .func (PySem.W.fnOf "one_of_none" "one_of_none" (defArgs s_pone_of_none) (defBody s_pone_of_none) (defScope s_pone_of_none) .none kV8 dc8 pm8 an8 cd8 ct8), sl8⟩) (c8 : PySem.W.codeIn K cd8 "one_of_none" = true) (k8 : PySem.W.keepIn K (.ref f8) = true)
    (a9 : PySem.W.nsIn K mainGlobals "one_of_two" = some (some (.ref f9))) (l9 : K.lookup f9 = some ⟨oc9, od9, .func (PySem.W.fnOf "one_of_two" "one_of_two" (defArgs s_pone_of_two) (defBody s_pone_of_two) (defScope s_pone_of_two) .none kV9 dc9 pm9 an9 cd9 ct9), sl9⟩) (c9 : PySem.W.codeIn K cd9 "one_of_two" = true) (k9 : PySem.W.keepIn K (.ref f9) = true)
    (a10 : PySem.W.nsIn K mainGlobals "one_or_none" = some (some (.ref f10))) (l10 : K.lookup f10 = some ⟨oc10, od10, .func (PySem.W.fnOf "one_or_none" "one_or_none" (defArgs s_pone_or_none) (defBody s_pone_or_none) (defScope s_pone_or_none) .none kV10 dc10 pm10 an10 cd10 ct10), sl10⟩) (c10 : PySem.W.codeIn K cd10 "one_or_none" = true) (k10 : PySem.W.keepIn K (.ref f10) = true)
    (a11 : PySem.W.nsIn K mainGlobals "sign_below" = some (some (.ref f11))) (l11 : K.lookup f11 = some ⟨oc11, od11, .func (PySem.W.fnOf "sign_below" "sign_below" (defArgs s_psign_below) (defBody s_psign_below) (defScope s_psign_below) .none kV11 dc11 pm11 an11 cd11 ct11), sl11⟩) (c11 : PySem.W.codeIn K cd11 "sign_below" = true) (k11 : PySem.W.keepIn K (.ref f11) = true)
    (a12 : PySem.W.nsIn K mainGlobals "six_on" = some (some (.ref f12))) (l12 : K.lookup f12 = some ⟨oc12, od12, .func (PySem.W.fnOf "six_on" "six_on" (defArgs s_psix_on) (defBody s_psix_on) (defScope s_psix_on) .none kV12 dc12 pm12 an12 cd12 ct12), sl12⟩) (c12 : PySem.W.codeIn K cd12 "six_on" = true) (k12 : PySem.W.keepIn K (.ref f12) = true)
    (a13 : PySem.W.nsIn K mainGlobals "ten_or_none" = some (some (.ref f13))) (l13 : K.lookup f13 = some ⟨oc13, od13, .func (PySem.W.fnOf "ten_or_none" "ten_or_none" (defArgs s_pten_or_none) (defBody s_pten_or_none) (defScope s_pten_or_none) .none kV13 dc13 pm13 an13 cd13 ct13), sl13⟩) (c13 : PySem.W.codeIn K cd13 "ten_or_none" = true) (k13 : PySem.W.keepIn K (.ref f13) = true)
    (a14 : PySem.W.nsIn K mainGlobals "_law_mixed" = some (some (.ref f14))) (l14 : K.lookup f14 = some ⟨oc14, od14, .func (PySem.W.fnOf "_law_mixed" "_law_mixed" (defArgs s_lmixed) (defBody s_lmixed) (defScope s_lmixed) .none kV14 dc14 pm14 an14 cd14 ct14), sl14⟩) (c14 : PySem.W.codeIn K cd14 "_law_mixed" = true) (k14 : PySem.W.keepIn K (.ref f14) = true)
    (a15 : PySem.W.nsIn K mainGlobals "_law_draws" = some (some (.ref f15))) (l15 : K.lookup f15 = some ⟨oc15, od15, .func (PySem.W.fnOf "_law_draws" "_law_draws" (defArgs s_ldraws) (defBody s_ldraws) (defScope s_ldraws) .none kV15 dc15 pm15 an15 cd15 ct15), sl15⟩) (c15 : PySem.W.codeIn K cd15 "_law_draws" = true) (k15 : PySem.W.keepIn K (.ref f15) = true)
    (a16 : PySem.W.nsIn K mainGlobals "_law_form" = some (some (.ref f16))) (l16 : K.lookup f16 = some ⟨oc16, od16, .func (PySem.W.fnOf "_law_form" "_law_form" (defArgs s_lform) (defBody s_lform) (defScope s_lform) .none kV16 dc16 pm16 an16 cd16 ct16), sl16⟩) (c16 : PySem.W.codeIn K cd16 "_law_form" = true) (k16 : PySem.W.keepIn K (.ref f16) = true)
    (a23 : PySem.W.nsIn K mainGlobals "table_of" = some (some (.ref f23))) (l23 : K.lookup f23 = some ⟨oc23, od23, .func (PySem.W.fnOf "table_of" "table_of" (defArgs s_ptable_of) (defBody s_ptable_of) (defScope s_ptable_of) .none kV23 dc23 pm23 an23 cd23 ct23), sl23⟩) (c23 : PySem.W.codeIn K cd23 "table_of" = true) (k23 : PySem.W.keepIn K (.ref f23) = true)
    (a26 : PySem.W.nsIn K mainGlobals "halves_of" = some (some (.ref f26))) (l26 : K.lookup f26 = some ⟨oc26, od26, .func (PySem.W.fnOf "halves_of" "halves_of" (defArgs s_phalves_of) (defBody s_phalves_of) (defScope s_phalves_of) .none kV26 dc26 pm26 an26 cd26 ct26), sl26⟩) (c26 : PySem.W.codeIn K cd26 "halves_of" = true) (k26 : PySem.W.keepIn K (.ref f26) = true)
    (a28 : PySem.W.nsIn K mainGlobals "carried" = some (some (.ref f28))) (l28 : K.lookup f28 = some ⟨oc28, od28, .func (PySem.W.fnOf "carried" "carried" (defArgs s_pcarried) (defBody s_pcarried) (defScope s_pcarried) .none kV28 dc28 pm28 an28 cd28 ct28), sl28⟩) (c28 : PySem.W.codeIn K cd28 "carried" = true) (k28 : PySem.W.keepIn K (.ref f28) = true)
    (a29 : PySem.W.nsIn K mainGlobals "turn_by" = some (some (.ref f29))) (l29 : K.lookup f29 = some ⟨oc29, od29, .func (PySem.W.fnOf "turn_by" "turn_by" (defArgs s_pturn_by) (defBody s_pturn_by) (defScope s_pturn_by) .none kV29 dc29 pm29 an29 cd29 ct29), sl29⟩) (c29 : PySem.W.codeIn K cd29 "turn_by" = true) (k29 : PySem.W.keepIn K (.ref f29) = true)
    (a30 : PySem.W.nsIn K mainGlobals "width" = some (some (.ref f30))) (l30 : K.lookup f30 = some ⟨oc30, od30, .func (PySem.W.fnOf "width" "width" (defArgs s_pwidth) (defBody s_pwidth) (defScope s_pwidth) .none kV30 dc30 pm30 an30 cd30 ct30), sl30⟩) (c30 : PySem.W.codeIn K cd30 "width" = true) (k30 : PySem.W.keepIn K (.ref f30) = true)
    (a31 : PySem.W.nsIn K mainGlobals "loaded" = some (some (.ref f31))) (l31 : K.lookup f31 = some ⟨oc31, od31, .func (PySem.W.fnOf "loaded" "loaded" (defArgs s_ploaded) (defBody s_ploaded) (defScope s_ploaded) .none kV31 dc31 pm31 an31 cd31 ct31), sl31⟩) (c31 : PySem.W.codeIn K cd31 "loaded" = true) (k31 : PySem.W.keepIn K (.ref f31) = true)
    (a32 : PySem.W.nsIn K mainGlobals "any_of" = some (some (.ref f32))) (l32 : K.lookup f32 = some ⟨oc32, od32, .func (PySem.W.fnOf "any_of" "any_of" (defArgs s_pany_of) (defBody s_pany_of) (defScope s_pany_of) .none kV32 dc32 pm32 an32 cd32 ct32), sl32⟩) (c32 : PySem.W.codeIn K cd32 "any_of" = true) (k32 : PySem.W.keepIn K (.ref f32) = true)
    (a33 : PySem.W.nsIn K mainGlobals "both" = some (some (.ref f33))) (l33 : K.lookup f33 = some ⟨oc33, od33, .func (PySem.W.fnOf "both" "both" (defArgs s_pboth) (defBody s_pboth) (defScope s_pboth) .none kV33 dc33 pm33 an33 cd33 ct33), sl33⟩) (c33 : PySem.W.codeIn K cd33 "both" = true) (k33 : PySem.W.keepIn K (.ref f33) = true)
    (a34 : PySem.W.nsIn K mainGlobals "past_half" = some (some (.ref f34))) (l34 : K.lookup f34 = some ⟨oc34, od34, .func (PySem.W.fnOf "past_half" "past_half" (defArgs s_ppast_half) (defBody s_ppast_half) (defScope s_ppast_half) .none kV34 dc34 pm34 an34 cd34 ct34), sl34⟩) (c34 : PySem.W.codeIn K cd34 "past_half" = true) (k34 : PySem.W.keepIn K (.ref f34) = true)
    (a35 : PySem.W.nsIn K mainGlobals "added_by" = some (some (.ref f35))) (l35 : K.lookup f35 = some ⟨oc35, od35, .func (PySem.W.fnOf "added_by" "added_by" (defArgs s_padded_by) (defBody s_padded_by) (defScope s_padded_by) .none kV35 dc35 pm35 an35 cd35 ct35), sl35⟩) (c35 : PySem.W.codeIn K cd35 "added_by" = true) (k35 : PySem.W.keepIn K (.ref f35) = true)
    (a36 : PySem.W.nsIn K mainGlobals "noughts" = some (some (.ref f36))) (l36 : K.lookup f36 = some ⟨oc36, od36, .func (PySem.W.fnOf "noughts" "noughts" (defArgs s_pnoughts) (defBody s_pnoughts) (defScope s_pnoughts) .none kV36 dc36 pm36 an36 cd36 ct36), sl36⟩) (c36 : PySem.W.codeIn K cd36 "noughts" = true) (k36 : PySem.W.keepIn K (.ref f36) = true)
    (a37 : PySem.W.nsIn K mainGlobals "joined" = some (some (.ref f37))) (l37 : K.lookup f37 = some ⟨oc37, od37, .func (PySem.W.fnOf "joined" "joined" (defArgs s_pjoined) (defBody s_pjoined) (defScope s_pjoined) .none kV37 dc37 pm37 an37 cd37 ct37), sl37⟩) (c37 : PySem.W.codeIn K cd37 "joined" = true) (k37 : PySem.W.keepIn K (.ref f37) = true)
    (a38 : PySem.W.nsIn K mainGlobals "stored" = some (some (.ref f38))) (l38 : K.lookup f38 = some ⟨oc38, od38, .func (PySem.W.fnOf "stored" "stored" (defArgs s_pstored) (defBody s_pstored) (defScope s_pstored) .none kV38 dc38 pm38 an38 cd38 ct38), sl38⟩) (c38 : PySem.W.codeIn K cd38 "stored" = true) (k38 : PySem.W.keepIn K (.ref f38) = true)
    (a39 : PySem.W.nsIn K mainGlobals "taken" = some (some (.ref f39))) (l39 : K.lookup f39 = some ⟨oc39, od39, .func (PySem.W.fnOf "taken" "taken" (defArgs s_ptaken) (defBody s_ptaken) (defScope s_ptaken) .none kV39 dc39 pm39 an39 cd39 ct39), sl39⟩) (c39 : PySem.W.codeIn K cd39 "taken" = true) (k39 : PySem.W.keepIn K (.ref f39) = true)
    (a40 : PySem.W.nsIn K mainGlobals "finished" = some (some (.ref f40))) (l40 : K.lookup f40 = some ⟨oc40, od40, .func (PySem.W.fnOf "finished" "finished" (defArgs s_pfinished) (defBody s_pfinished) (defScope s_pfinished) .none kV40 dc40 pm40 an40 cd40 ct40), sl40⟩) (c40 : PySem.W.codeIn K cd40 "finished" = true) (k40 : PySem.W.keepIn K (.ref f40) = true)
    (a41 : PySem.W.nsIn K mainGlobals "moved_rows" = some (some (.ref f41))) (l41 : K.lookup f41 = some ⟨oc41, od41, .func (PySem.W.fnOf "moved_rows" "moved_rows" (defArgs s_pmoved_rows) (defBody s_pmoved_rows) (defScope s_pmoved_rows) .none kV41 dc41 pm41 an41 cd41 ct41), sl41⟩) (c41 : PySem.W.codeIn K cd41 "moved_rows" = true) (k41 : PySem.W.keepIn K (.ref f41) = true)
    (a42 : PySem.W.nsIn K mainGlobals "_law_sorts" = some (some (.ref f42))) (l42 : K.lookup f42 = some ⟨oc42, od42, .func (PySem.W.fnOf "_law_sorts" "_law_sorts" (defArgs s_lsorts) (defBody s_lsorts) (defScope s_lsorts) .none kV42 dc42 pm42 an42 cd42 ct42), sl42⟩) (c42 : PySem.W.codeIn K cd42 "_law_sorts" = true) (k42 : PySem.W.keepIn K (.ref f42) = true)
    (a43 : PySem.W.nsIn K mainGlobals "_law_asked" = some (some (.ref f43))) (l43 : K.lookup f43 = some ⟨oc43, od43, .func (PySem.W.fnOf "_law_asked" "_law_asked" (defArgs s_lasked3) (defBody s_lasked3) (defScope s_lasked3) .none kV43 dc43 pm43 an43 cd43 ct43), sl43⟩) (c43 : PySem.W.codeIn K cd43 "_law_asked" = true) (k43 : PySem.W.keepIn K (.ref f43) = true)
    (a44 : PySem.W.nsIn K mainGlobals "_law_cell" = some (some (.ref f44))) (l44 : K.lookup f44 = some ⟨oc44, od44, .func (PySem.W.fnOf "_law_cell" "_law_cell" (defArgs s_lcell) (defBody s_lcell) (defScope s_lcell) .none kV44 dc44 pm44 an44 cd44 ct44), sl44⟩) (c44 : PySem.W.codeIn K cd44 "_law_cell" = true) (k44 : PySem.W.keepIn K (.ref f44) = true)
    (a45 : PySem.W.nsIn K mainGlobals "_law_rules" = some (some (.ref f45))) (l45 : K.lookup f45 = some ⟨oc45, od45, .func (PySem.W.fnOf "_law_rules" "_law_rules" (defArgs s_lrules) (defBody s_lrules) (defScope s_lrules) .none kV45 dc45 pm45 an45 cd45 ct45), sl45⟩) (c45 : PySem.W.codeIn K cd45 "_law_rules" = true) (k45 : PySem.W.keepIn K (.ref f45) = true)
    (a46 : PySem.W.nsIn K mainGlobals "_law_whole" = some (some (.ref f46))) (l46 : K.lookup f46 = some ⟨oc46, od46, .func (PySem.W.fnOf "_law_whole" "_law_whole" (defArgs s_lwhole) (defBody s_lwhole) (defScope s_lwhole) .none kV46 dc46 pm46 an46 cd46 ct46), sl46⟩) (c46 : PySem.W.codeIn K cd46 "_law_whole" = true) (k46 : PySem.W.keepIn K (.ref f46) = true)
    (a47 : PySem.W.nsIn K mainGlobals "_law_is_row" = some (some (.ref f47))) (l47 : K.lookup f47 = some ⟨oc47, od47, .func (PySem.W.fnOf "_law_is_row" "_law_is_row" (defArgs s_lis_row) (defBody s_lis_row) (defScope s_lis_row) .none kV47 dc47 pm47 an47 cd47 ct47), sl47⟩) (c47 : PySem.W.codeIn K cd47 "_law_is_row" = true) (k47 : PySem.W.keepIn K (.ref f47) = true)
    (a48 : PySem.W.nsIn K mainGlobals "_law_bytes" = some (some (.ref f48))) (l48 : K.lookup f48 = some ⟨oc48, od48, .func (PySem.W.fnOf "_law_bytes" "_law_bytes" (defArgs s_lbytes) (defBody s_lbytes) (defScope s_lbytes) .none kV48 dc48 pm48 an48 cd48 ct48), sl48⟩) (c48 : PySem.W.codeIn K cd48 "_law_bytes" = true) (k48 : PySem.W.keepIn K (.ref f48) = true)
    (a49 : PySem.W.nsIn K mainGlobals "_law_is_program" = some (some (.ref f49))) (l49 : K.lookup f49 = some ⟨oc49, od49, .func (PySem.W.fnOf "_law_is_program" "_law_is_program" (defArgs s_lis_program) (defBody s_lis_program) (defScope s_lis_program) .none kV49 dc49 pm49 an49 cd49 ct49), sl49⟩) (c49 : PySem.W.codeIn K cd49 "_law_is_program" = true) (k49 : PySem.W.keepIn K (.ref f49) = true)
    (a50 : PySem.W.nsIn K mainGlobals "_law_right" = some (some (.ref f50))) (l50 : K.lookup f50 = some ⟨oc50, od50, .func (PySem.W.fnOf "_law_right" "_law_right" (defArgs s_lright2) (defBody s_lright2) (defScope s_lright2) .none kV50 dc50 pm50 an50 cd50 ct50), sl50⟩) (c50 : PySem.W.codeIn K cd50 "_law_right" = true) (k50 : PySem.W.keepIn K (.ref f50) = true)
    (a51 : PySem.W.nsIn K mainGlobals "law" = some (some (.ref f51))) (l51 : K.lookup f51 = some ⟨oc51, od51, .func (PySem.W.fnOf "law" "law" (defArgs s_law34) (defBody s_law34) (defScope s_law34) .none kV51 dc51 pm51 an51 cd51 ct51), sl51⟩) (c51 : PySem.W.codeIn K cd51 "law" = true) (k51 : PySem.W.keepIn K (.ref f51) = true)
    (z_len : PySem.W.nsIn K mainGlobals "len" = some none)
    (z_range : PySem.W.nsIn K mainGlobals "range" = some none)
    (z_abs : PySem.W.nsIn K mainGlobals "abs" = some none)
    (z_max : PySem.W.nsIn K mainGlobals "max" = some none)
    (z_min : PySem.W.nsIn K mainGlobals "min" = some none)
    (z_int : PySem.W.nsIn K mainGlobals "int" = some none)
    (z_str : PySem.W.nsIn K mainGlobals "str" = some none)
    (z_tuple : PySem.W.nsIn K mainGlobals "tuple" = some none)
    (z_list : PySem.W.nsIn K mainGlobals "list" = some none)
    (z_all : PySem.W.nsIn K mainGlobals "all" = some none)
    (z_any : PySem.W.nsIn K mainGlobals "any" = some none)
    (z_isinstance : PySem.W.nsIn K mainGlobals "isinstance" = some none)
    (z_divmod : PySem.W.nsIn K mainGlobals "divmod" = some none)
    (z_sum : PySem.W.nsIn K mainGlobals "sum" = some none)
    (z_zip : PySem.W.nsIn K mainGlobals "zip" = some none)
    (z_enumerate : PySem.W.nsIn K mainGlobals "enumerate" = some none)
    (z_reversed : PySem.W.nsIn K mainGlobals "reversed" = some none)
    (z_sorted : PySem.W.nsIn K mainGlobals "sorted" = some none)
    (z_dict : PySem.W.nsIn K mainGlobals "dict" = some none)
    (z_set : PySem.W.nsIn K mainGlobals "set" = some none)
    (z_bool : PySem.W.nsIn K mainGlobals "bool" = some none)
    {qt_FIRST_FREE : Tok} (qa_FIRST_FREE : PySem.W.nsIn K mainGlobals "FIRST_FREE" = some (some (.int 32 qt_FIRST_FREE)))
    {qt_PLUS : Tok} (qa_PLUS : PySem.W.nsIn K mainGlobals "PLUS" = some (some (.int 12 qt_PLUS)))
    {qt_ZONE : Tok} (qa_ZONE : PySem.W.nsIn K mainGlobals "ZONE" = some (some (.int 240 qt_ZONE)))
    {q_RULES : Addr} {qd_RULES : Option Addr} {qi_RULES : Array Value} {qn_RULES : Nat} {qs_RULES : Array (Option Value)} (qa_RULES : PySem.W.nsIn K mainGlobals "RULES" = some (some (.ref q_RULES))) (ql_RULES : K.lookup q_RULES = some ⟨.type "tuple", qd_RULES, .seq qi_RULES qn_RULES, qs_RULES⟩) (qe_RULES : flatsIs [(.str "cut"), (.str "up"), (.str "half"), (.str "even"), (.str "floor"), (.str "ceil")] qi_RULES.toList = true) (qz_RULES : qi_RULES.size ≤ 1000)
    {c_BadLine : Addr} (n_BadLine : PySem.W.nsIn K mainGlobals "BadLine" = some (some (.ref c_BadLine)))
    {c_Builder : Addr} (n_Builder : PySem.W.nsIn K mainGlobals "Builder" = some (some (.ref c_Builder)))
    {c_LoftError : Addr} (n_LoftError : PySem.W.nsIn K mainGlobals "LoftError" = some (some (.ref c_LoftError)))
    {c_NoDeed : Addr} (n_NoDeed : PySem.W.nsIn K mainGlobals "NoDeed" = some (some (.ref c_NoDeed)))
    {c_NoFit : Addr} (n_NoFit : PySem.W.nsIn K mainGlobals "NoFit" = some (some (.ref c_NoFit)))
    {c_NoLine : Addr} (n_NoLine : PySem.W.nsIn K mainGlobals "NoLine" = some (some (.ref c_NoLine)))
    {c_NoName : Addr} (n_NoName : PySem.W.nsIn K mainGlobals "NoName" = some (some (.ref c_NoName)))
    {c_NoRow : Addr} (n_NoRow : PySem.W.nsIn K mainGlobals "NoRow" = some (some (.ref c_NoRow)))
    {c_NoRule : Addr} (n_NoRule : PySem.W.nsIn K mainGlobals "NoRule" = some (some (.ref c_NoRule)))
    {c_NoShape : Addr} (n_NoShape : PySem.W.nsIn K mainGlobals "NoShape" = some (some (.ref c_NoShape)))
    {c_NoTable : Addr} (n_NoTable : PySem.W.nsIn K mainGlobals "NoTable" = some (some (.ref c_NoTable)))
    {c_NoText : Addr} (n_NoText : PySem.W.nsIn K mainGlobals "NoText" = some (some (.ref c_NoText)))
    {c_NothingDone : Addr} (n_NothingDone : PySem.W.nsIn K mainGlobals "NothingDone" = some (some (.ref c_NothingDone)))
    {c_Nought : Addr} (n_Nought : PySem.W.nsIn K mainGlobals "Nought" = some (some (.ref c_Nought)))
    {c_TooLong : Addr} (n_TooLong : PySem.W.nsIn K mainGlobals "TooLong" = some (some (.ref c_TooLong)))
    {c_Unlike : Addr} (n_Unlike : PySem.W.nsIn K mainGlobals "Unlike" = some (some (.ref c_Unlike)))
    {c_Wrong : Addr} (n_Wrong : PySem.W.nsIn K mainGlobals "Wrong" = some (some (.ref c_Wrong)))
    (fi17 : PySem.W.findIn K (.ref c_Builder) "program" = some (some (.ref f17)))
    (l17 : K.lookup f17 = some ⟨oc17, od17, .func (PySem.W.fnOf "program" "Builder.program" (defArgs s_pBuilder_program) (defBody s_pBuilder_program) (defScope s_pBuilder_program) .none kV17 dc17 pm17 an17 cd17 ct17), sl17⟩)
    (c17 : PySem.W.codeIn K cd17 "Builder.program" = true)
    (k17 : PySem.W.keepIn K (.ref f17) = true)
    (fn17 : PySem.W.isFn K (.ref f17) = true)
    (fi18 : PySem.W.findIn K (.ref c_Builder) "cell" = some (some (.ref f18)))
    (l18 : K.lookup f18 = some ⟨oc18, od18, .func (PySem.W.fnOf "cell" "Builder.cell" (defArgs s_pBuilder_cell) (defBody s_pBuilder_cell) (defScope s_pBuilder_cell) .none kV18 dc18 pm18 an18 cd18 ct18), sl18⟩)
    (c18 : PySem.W.codeIn K cd18 "Builder.cell" = true)
    (k18 : PySem.W.keepIn K (.ref f18) = true)
    (fn18 : PySem.W.isFn K (.ref f18) = true)
    (fi19 : PySem.W.findIn K (.ref c_Builder) "row" = some (some (.ref f19)))
    (l19 : K.lookup f19 = some ⟨oc19, od19, .func (PySem.W.fnOf "row" "Builder.row" (defArgs s_pBuilder_row) (defBody s_pBuilder_row) (defScope s_pBuilder_row) .none kV19 dc19 pm19 an19 cd19 ct19), sl19⟩)
    (c19 : PySem.W.codeIn K cd19 "Builder.row" = true)
    (k19 : PySem.W.keepIn K (.ref f19) = true)
    (fn19 : PySem.W.isFn K (.ref f19) = true)
    (fi20 : PySem.W.findIn K (.ref c_Builder) "copied" = some (some (.ref f20)))
    (l20 : K.lookup f20 = some ⟨oc20, od20, .func (PySem.W.fnOf "copied" "Builder.copied" (defArgs s_pBuilder_copied) (defBody s_pBuilder_copied) (defScope s_pBuilder_copied) .none kV20 dc20 pm20 an20 cd20 ct20), sl20⟩)
    (c20 : PySem.W.codeIn K cd20 "Builder.copied" = true)
    (k20 : PySem.W.keepIn K (.ref f20) = true)
    (fn20 : PySem.W.isFn K (.ref f20) = true)
    (fi21 : PySem.W.findIn K (.ref c_Builder) "ended" = some (some (.ref f21)))
    (l21 : K.lookup f21 = some ⟨oc21, od21, .func (PySem.W.fnOf "ended" "Builder.ended" (defArgs s_pBuilder_ended) (defBody s_pBuilder_ended) (defScope s_pBuilder_ended) .none kV21 dc21 pm21 an21 cd21 ct21), sl21⟩)
    (c21 : PySem.W.codeIn K cd21 "Builder.ended" = true)
    (k21 : PySem.W.keepIn K (.ref f21) = true)
    (fn21 : PySem.W.isFn K (.ref f21) = true)
    (fi22 : PySem.W.findIn K (.ref c_Builder) "__init__" = some (some (.ref f22)))
    (l22 : K.lookup f22 = some ⟨oc22, od22, .func (PySem.W.fnOf "__init__" "Builder.__init__" (defArgs s_pBuilder_init) (defBody s_pBuilder_init) (defScope s_pBuilder_init) .none kV22 dc22 pm22 an22 cd22 ct22), sl22⟩)
    (c22 : PySem.W.codeIn K cd22 "Builder.__init__" = true)
    (k22 : PySem.W.keepIn K (.ref f22) = true)
    (fn22 : PySem.W.isFn K (.ref f22) = true)
    (fi24 : PySem.W.findIn K (.ref c_Builder) "look" = some (some (.ref f24)))
    (l24 : K.lookup f24 = some ⟨oc24, od24, .func (PySem.W.fnOf "look" "Builder.look" (defArgs s_pBuilder_look) (defBody s_pBuilder_look) (defScope s_pBuilder_look) .none kV24 dc24 pm24 an24 cd24 ct24), sl24⟩)
    (c24 : PySem.W.codeIn K cd24 "Builder.look" = true)
    (k24 : PySem.W.keepIn K (.ref f24) = true)
    (fn24 : PySem.W.isFn K (.ref f24) = true)
    (fi25 : PySem.W.findIn K (.ref c_Builder) "looked" = some (some (.ref f25)))
    (l25 : K.lookup f25 = some ⟨oc25, od25, .func (PySem.W.fnOf "looked" "Builder.looked" (defArgs s_pBuilder_looked) (defBody s_pBuilder_looked) (defScope s_pBuilder_looked) .none kV25 dc25 pm25 an25 cd25 ct25), sl25⟩)
    (c25 : PySem.W.codeIn K cd25 "Builder.looked" = true)
    (k25 : PySem.W.keepIn K (.ref f25) = true)
    (fn25 : PySem.W.isFn K (.ref f25) = true)
    (fi27 : PySem.W.findIn K (.ref c_Builder) "put" = some (some (.ref f27)))
    (l27 : K.lookup f27 = some ⟨oc27, od27, .func (PySem.W.fnOf "put" "Builder.put" (defArgs s_pBuilder_put) (defBody s_pBuilder_put) (defScope s_pBuilder_put) .none kV27 dc27 pm27 an27 cd27 ct27), sl27⟩)
    (c27 : PySem.W.codeIn K cd27 "Builder.put" = true)
    (k27 : PySem.W.keepIn K (.ref f27) = true)
    (fn27 : PySem.W.isFn K (.ref f27) = true)
    (g1_Builder : PySem.W.plainGet K c_Builder Str.empty = true)
    (g2_Builder : PySem.W.hasDictIn K c_Builder = true)
    (g3_Builder : PySem.W.plainOver K c_Builder = true)
    (g4_Builder : PySem.W.findIn K (.ref c_Builder) "__setattr__" = some (some (.builtin "object.__setattr__")))
    (g5_Builder_rows : PySem.W.findIn K (.ref c_Builder) "rows" = some none)
    (g5_Builder_tables : PySem.W.findIn K (.ref c_Builder) "tables" = some none)
    (g5_Builder_worths : PySem.W.findIn K (.ref c_Builder) "worths" = some none)
    (g5_Builder_free : PySem.W.findIn K (.ref c_Builder) "free" = some none)
    (g6_Builder : PySem.W.makesIn K c_Builder = true)
    (g7_Builder : PySem.W.keepIn K (.ref c_Builder) = true)
    (ut_ahead_of_last : PySem.W.typeIn K (.ref f0) = some (.type "function"))
    (uz_all_or_none : PySem.W.nsIn K mainGlobals "all_or_none" = some none)
    (uz_fill : PySem.W.nsIn K mainGlobals "fill" = some none)
    (ut_five_on : PySem.W.typeIn K (.ref f1) = some (.type "function"))
    (ut_half_up : PySem.W.typeIn K (.ref f2) = some (.type "function"))
    (ut_high_half : PySem.W.typeIn K (.ref f3) = some (.type "function"))
    (uz_lacking : PySem.W.nsIn K mainGlobals "lacking" = some none)
    (ut_last_figure : PySem.W.typeIn K (.ref f4) = some (.type "function"))
    (ut_low_half : PySem.W.typeIn K (.ref f5) = some (.type "function"))
    (ut_lowest_two : PySem.W.typeIn K (.ref f6) = some (.type "function"))
    (ut_nine_less : PySem.W.typeIn K (.ref f7) = some (.type "function"))
    (uz_none_or_all : PySem.W.nsIn K mainGlobals "none_or_all" = some none)
    (uz_not_all : PySem.W.nsIn K mainGlobals "not_all" = some none)
    (ut_one_of_none : PySem.W.typeIn K (.ref f8) = some (.type "function"))
    (ut_one_of_two : PySem.W.typeIn K (.ref f9) = some (.type "function"))
    (ut_one_or_none : PySem.W.typeIn K (.ref f10) = some (.type "function"))
    (uz_order_byte : PySem.W.nsIn K mainGlobals "order_byte" = some none)
    (uz_other_twos : PySem.W.nsIn K mainGlobals "other_twos" = some none)
    (uz_product_byte : PySem.W.nsIn K mainGlobals "product_byte" = some none)
    (ut_sign_below : PySem.W.typeIn K (.ref f11) = some (.type "function"))
    (ut_six_on : PySem.W.typeIn K (.ref f12) = some (.type "function"))
    (uz_ten_high : PySem.W.nsIn K mainGlobals "ten_high" = some none)
    (uz_ten_low : PySem.W.nsIn K mainGlobals "ten_low" = some none)
    (ut_ten_or_none : PySem.W.typeIn K (.ref f13) = some (.type "function"))
    (uz_top_two : PySem.W.nsIn K mainGlobals "top_two" = some none)
    (und : [f0, f1, f2, f3, f4, f5, f6, f7, f8, f9, f10, f11, f12, f13].Nodup)
    (b1_LoftError : PySem.W.readsIn K c_LoftError (.type "type") = true)
    (b2_LoftError : PySem.W.specialIn K (.ref c_LoftError) "__getattribute__" = some (some (.builtin "type.__getattribute__")))
    (b3_LoftError : PySem.W.findCls K (.ref c_LoftError) (.type "type") "__init__" = some (.val (.builtin "ValueError.__init__")))
    {nm_NoRule q_NoRule : Str} {N_NoRule i_NoRule : Addr} {bs_NoRule : List Value} {sn_NoRule : List Str} {sub_NoRule : List Value} {ab_NoRule : Bool} {col_NoRule : Option Bool} {dd_NoRule : Option Addr} {k0_NoRule k1_NoRule k2_NoRule k3_NoRule k5_NoRule : Option Value}
    (l_NoRule : K.lookup c_NoRule = some (excClassObj nm_NoRule q_NoRule c_NoRule N_NoRule bs_NoRule [.ref c_LoftError, .type "ValueError", .type "Exception", .type "BaseException", .type "object"] true sn_NoRule sub_NoRule ab_NoRule col_NoRule dd_NoRule k0_NoRule k1_NoRule k2_NoRule k3_NoRule k5_NoRule "ValueError.__new__"))
    (s_NoRule : PySem.W.findIn K (.ref c_NoRule) "__setattr__" = some (some (.builtin "object.__setattr__")))
    (e_NoRule : PySem.W.subIn K (.ref c_NoRule) (.type "BaseException") = some true)
    (t_NoRule : PySem.W.typeIn K (.ref c_NoRule) = some (.type "type"))
    (p_NoRule : PySem.W.keepIn K (.ref c_NoRule) = true)
    (i_NoRule_ : PySem.W.findIn K (.ref c_NoRule) "__init__" = some (some (.ref i_NoRule)))
    (j_NoRule : PySem.W.typeIn K (.ref i_NoRule) = some (.type "function"))
    (f_NoRule_rule : PySem.W.findIn K (.ref c_NoRule) "rule" = some none)
    {io_NoRule ik_NoRule id_NoRule ip_NoRule ic_NoRule it_NoRule : Value} {iod_NoRule ia_NoRule : Option Addr} {is_NoRule : Array (Option Value)}
    (g_NoRule : K.lookup i_NoRule = some ⟨io_NoRule, iod_NoRule, .func (PySem.W.fnOf "__init__" "NoRule.__init__" (defArgs s_ini_NoRule) (defBody s_ini_NoRule) (defScope s_ini_NoRule) .none ik_NoRule id_NoRule ip_NoRule ia_NoRule ic_NoRule it_NoRule), is_NoRule⟩)
    (h_NoRule_ : PySem.W.codeIn K ic_NoRule "NoRule.__init__" = true)
    (m_NoRule_ : PySem.W.keepIn K (.ref i_NoRule) = true)
    {nm_TooLong q_TooLong : Str} {N_TooLong i_TooLong : Addr} {bs_TooLong : List Value} {sn_TooLong : List Str} {sub_TooLong : List Value} {ab_TooLong : Bool} {col_TooLong : Option Bool} {dd_TooLong : Option Addr} {k0_TooLong k1_TooLong k2_TooLong k3_TooLong k5_TooLong : Option Value}
    (l_TooLong : K.lookup c_TooLong = some (excClassObj nm_TooLong q_TooLong c_TooLong N_TooLong bs_TooLong [.ref c_LoftError, .type "ValueError", .type "Exception", .type "BaseException", .type "object"] true sn_TooLong sub_TooLong ab_TooLong col_TooLong dd_TooLong k0_TooLong k1_TooLong k2_TooLong k3_TooLong k5_TooLong "ValueError.__new__"))
    (s_TooLong : PySem.W.findIn K (.ref c_TooLong) "__setattr__" = some (some (.builtin "object.__setattr__")))
    (e_TooLong : PySem.W.subIn K (.ref c_TooLong) (.type "BaseException") = some true)
    (t_TooLong : PySem.W.typeIn K (.ref c_TooLong) = some (.type "type"))
    (p_TooLong : PySem.W.keepIn K (.ref c_TooLong) = true)
    (i_TooLong_ : PySem.W.findIn K (.ref c_TooLong) "__init__" = some (some (.ref i_TooLong)))
    (j_TooLong : PySem.W.typeIn K (.ref i_TooLong) = some (.type "function"))
    (f_TooLong_number : PySem.W.findIn K (.ref c_TooLong) "number" = some none)
    {io_TooLong ik_TooLong id_TooLong ip_TooLong ic_TooLong it_TooLong : Value} {iod_TooLong ia_TooLong : Option Addr} {is_TooLong : Array (Option Value)}
    (g_TooLong : K.lookup i_TooLong = some ⟨io_TooLong, iod_TooLong, .func (PySem.W.fnOf "__init__" "TooLong.__init__" (defArgs s_ini_TooLong) (defBody s_ini_TooLong) (defScope s_ini_TooLong) .none ik_TooLong id_TooLong ip_TooLong ia_TooLong ic_TooLong it_TooLong), is_TooLong⟩)
    (h_TooLong_ : PySem.W.codeIn K ic_TooLong "TooLong.__init__" = true)
    (m_TooLong_ : PySem.W.keepIn K (.ref i_TooLong) = true)
    (yxxcf_NoRule_ : xcB K c_NoRule [] = true)
    (yxxcf_TooLong_ : xcB K c_TooLong [] = true)
    (yxkit_Wrong_NoRule_False : PySem.W.kitOne K (.ref c_NoRule) (.ref c_Wrong) = some false)
    (yxkit_Wrong_TooLong_False : PySem.W.kitOne K (.ref c_TooLong) (.ref c_Wrong) = some false)
    (yxkit_NoFit_NoRule_False : PySem.W.kitOne K (.ref c_NoRule) (.ref c_NoFit) = some false)
    (yxkit_NoFit_TooLong_False : PySem.W.kitOne K (.ref c_TooLong) (.ref c_NoFit) = some false)
    (yxkit_NoShape_NoRule_False : PySem.W.kitOne K (.ref c_NoRule) (.ref c_NoShape) = some false)
    (yxkit_NoShape_TooLong_False : PySem.W.kitOne K (.ref c_TooLong) (.ref c_NoShape) = some false)
    (yxkit_NoRow_NoRule_False : PySem.W.kitOne K (.ref c_NoRule) (.ref c_NoRow) = some false)
    (yxkit_NoRow_TooLong_False : PySem.W.kitOne K (.ref c_TooLong) (.ref c_NoRow) = some false)
    (yxkit_NoTable_NoRule_False : PySem.W.kitOne K (.ref c_NoRule) (.ref c_NoTable) = some false)
    (yxkit_NoTable_TooLong_False : PySem.W.kitOne K (.ref c_TooLong) (.ref c_NoTable) = some false)
    (yxkit_TooLong_NoRule_False : PySem.W.kitOne K (.ref c_NoRule) (.ref c_TooLong) = some false)
    (yxkit_TooLong_TooLong_True : PySem.W.kitOne K (.ref c_TooLong) (.ref c_TooLong) = some true)
    (yxkit_BadLine_NoRule_False : PySem.W.kitOne K (.ref c_NoRule) (.ref c_BadLine) = some false)
    (yxkit_BadLine_TooLong_False : PySem.W.kitOne K (.ref c_TooLong) (.ref c_BadLine) = some false)
    (yxkit_NoDeed_NoRule_False : PySem.W.kitOne K (.ref c_NoRule) (.ref c_NoDeed) = some false)
    (yxkit_NoDeed_TooLong_False : PySem.W.kitOne K (.ref c_TooLong) (.ref c_NoDeed) = some false)
    (yxkit_NoRule_NoRule_True : PySem.W.kitOne K (.ref c_NoRule) (.ref c_NoRule) = some true)
    (yxkit_NoRule_TooLong_False : PySem.W.kitOne K (.ref c_TooLong) (.ref c_NoRule) = some false)
    (yxkit_NoText_NoRule_False : PySem.W.kitOne K (.ref c_NoRule) (.ref c_NoText) = some false)
    (yxkit_NoText_TooLong_False : PySem.W.kitOne K (.ref c_TooLong) (.ref c_NoText) = some false)
    (yxkit_NoName_NoRule_False : PySem.W.kitOne K (.ref c_NoRule) (.ref c_NoName) = some false)
    (yxkit_NoName_TooLong_False : PySem.W.kitOne K (.ref c_TooLong) (.ref c_NoName) = some false)
    (yxkit_Unlike_NoRule_False : PySem.W.kitOne K (.ref c_NoRule) (.ref c_Unlike) = some false)
    (yxkit_Unlike_TooLong_False : PySem.W.kitOne K (.ref c_TooLong) (.ref c_Unlike) = some false)
    (yxkit_Nought_NoRule_False : PySem.W.kitOne K (.ref c_NoRule) (.ref c_Nought) = some false)
    (yxkit_Nought_TooLong_False : PySem.W.kitOne K (.ref c_TooLong) (.ref c_Nought) = some false)
    (yxkit_NothingDone_NoRule_False : PySem.W.kitOne K (.ref c_NoRule) (.ref c_NothingDone) = some false)
    (yxkit_NothingDone_TooLong_False : PySem.W.kitOne K (.ref c_TooLong) (.ref c_NothingDone) = some false)
    (yxkit_NoLine_NoRule_False : PySem.W.kitOne K (.ref c_NoRule) (.ref c_NoLine) = some false)
    (yxkit_NoLine_TooLong_False : PySem.W.kitOne K (.ref c_TooLong) (.ref c_NoLine) = some false)
    (yxkib_ValueError_NoRule : PySem.W.kitOne K (.ref c_NoRule) (.type "ValueError") = some true)
    (yxkib_ValueError_TooLong : PySem.W.kitOne K (.ref c_TooLong) (.type "ValueError") = some true)
    (yxnog_ValueError : PySem.W.nsIn K mainGlobals "ValueError" = some none)
    (yxkit_LoftError_NoRule_True : PySem.W.kitOne K (.ref c_NoRule) (.ref c_LoftError) = some true)
    (yxkit_LoftError_TooLong_True : PySem.W.kitOne K (.ref c_TooLong) (.ref c_LoftError) = some true)
    (yxext_LoftError_TooLong_True : PySem.W.exmOne K (.ref c_TooLong) (.ref c_LoftError) = some true)
    (yxext_LoftError_NoRule_True : PySem.W.exmOne K (.ref c_NoRule) (.ref c_LoftError) = some true)
    (yxxcf_TooLong_number_rule : xcB K c_TooLong ["number", "rule"] = true)
    (yxxcf_NoRule_number_rule : xcB K c_NoRule ["number", "rule"] = true)
    : ∃ fd : FuncData, (∀ (s : Shared) (u : Value), BindsTo s fd ⟨[u], []⟩ [("_law_script", u)]) ∧ ∀ base : Heap, K.In base → base.Ns mainGlobals mg → FnOk l.prog w K mg base (L2N.CX l.prog w) 22 fa fd ["_law_script"] (spF K mg 1 [] f_law34) := by
  have e := hfa.symm.trans (PySem.W.mg_of X G a51)
  cases e
  have B : Bn mg := ⟨PySem.W.mg_none_of X G z_len, PySem.W.mg_none_of X G z_range, PySem.W.mg_none_of X G z_abs, PySem.W.mg_none_of X G z_max, PySem.W.mg_none_of X G z_min, PySem.W.mg_none_of X G z_int, PySem.W.mg_none_of X G z_str, PySem.W.mg_none_of X G z_tuple, PySem.W.mg_none_of X G z_list, PySem.W.mg_none_of X G z_all, PySem.W.mg_none_of X G z_any, PySem.W.mg_none_of X G z_isinstance, PySem.W.mg_none_of X G z_divmod, PySem.W.mg_none_of X G z_sum, PySem.W.mg_none_of X G z_zip, PySem.W.mg_none_of X G z_enumerate, PySem.W.mg_none_of X G z_reversed, PySem.W.mg_none_of X G z_sorted, PySem.W.mg_none_of X G z_dict, PySem.W.mg_none_of X G z_set, PySem.W.mg_none_of X G z_bool⟩
  have c_FIRST_FREE : Cst K mg "FIRST_FREE" (.int 32) := cst_int (PySem.W.mg_of X G qa_FIRST_FREE)
  have c_PLUS : Cst K mg "PLUS" (.int 12) := cst_int (PySem.W.mg_of X G qa_PLUS)
  have c_ZONE : Cst K mg "ZONE" (.int 240) := cst_int (PySem.W.mg_of X G qa_ZONE)
  have c_RULES : Cst K mg "RULES" (.tup [(.str "cut"), (.str "up"), (.str "half"), (.str "even"), (.str "floor"), (.str "ceil")]) := cst_tup (PySem.W.mg_of X G qa_RULES) ql_RULES qe_RULES qz_RULES
  have F0 := fun_mk (st := s_pahead_of_last) l0 c0 k0
  have b0 := F0.binds (ps := ["byte"]) fun _ _ _ _ _ _ us hl => match us, hl with | [_], _ => rfl
  have F1 := fun_mk (st := s_pfive_on) l1 c1 k1
  have b1 := F1.binds (ps := ["byte"]) fun _ _ _ _ _ _ us hl => match us, hl with | [_], _ => rfl
  have F2 := fun_mk (st := s_phalf_up) l2 c2 k2
  have b2 := F2.binds (ps := ["byte"]) fun _ _ _ _ _ _ us hl => match us, hl with | [_], _ => rfl
  have F3 := fun_mk (st := s_phigh_half) l3 c3 k3
  have b3 := F3.binds (ps := ["byte"]) fun _ _ _ _ _ _ us hl => match us, hl with | [_], _ => rfl
  have F4 := fun_mk (st := s_plast_figure) l4 c4 k4
  have b4 := F4.binds (ps := ["byte"]) fun _ _ _ _ _ _ us hl => match us, hl with | [_], _ => rfl
  have F5 := fun_mk (st := s_plow_half) l5 c5 k5
  have b5 := F5.binds (ps := ["byte"]) fun _ _ _ _ _ _ us hl => match us, hl with | [_], _ => rfl
  have F6 := fun_mk (st := s_plowest_two) l6 c6 k6
  have b6 := F6.binds (ps := ["byte"]) fun _ _ _ _ _ _ us hl => match us, hl with | [_], _ => rfl
  have F7 := fun_mk (st := s_pnine_less) l7 c7 k7
  have b7 := F7.binds (ps := ["byte"]) fun _ _ _ _ _ _ us hl => match us, hl with | [_], _ => rfl
  have F8 := fun_mk (st := s_pone_of_none) l8 c8 k8
  have b8 := F8.binds (ps := ["byte"]) fun _ _ _ _ _ _ us hl => match us, hl with | [_], _ => rfl
  have F9 := fun_mk (st := s_pone_of_two) l9 c9 k9
  have b9 := F9.binds (ps := ["byte"]) fun _ _ _ _ _ _ us hl => match us, hl with | [_], _ => rfl
  have F10 := fun_mk (st := s_pone_or_none) l10 c10 k10
  have b10 := F10.binds (ps := ["byte"]) fun _ _ _ _ _ _ us hl => match us, hl with | [_], _ => rfl
  have F11 := fun_mk (st := s_psign_below) l11 c11 k11
  have b11 := F11.binds (ps := ["byte"]) fun _ _ _ _ _ _ us hl => match us, hl with | [_], _ => rfl
  have F12 := fun_mk (st := s_psix_on) l12 c12 k12
  have b12 := F12.binds (ps := ["byte"]) fun _ _ _ _ _ _ us hl => match us, hl with | [_], _ => rfl
  have F13 := fun_mk (st := s_pten_or_none) l13 c13 k13
  have b13 := F13.binds (ps := ["byte"]) fun _ _ _ _ _ _ us hl => match us, hl with | [_], _ => rfl
  have F14 := fun_mk (st := s_lmixed) l14 c14 k14
  have b14 := F14.binds (ps := ["_law_cell_here", "_law_k", "_law_salt"]) fun _ _ _ _ _ _ us hl => match us, hl with | [_, _, _], _ => rfl
  have F15 := fun_mk (st := s_ldraws) l15 c15 k15
  have b15 := F15.binds (ps := ["_law_cell_here", "_law_salt", "_law_widths"]) fun _ _ _ _ _ _ us hl => match us, hl with | [_, _, _], _ => rfl
  have F16 := fun_mk (st := s_lform) l16 c16 k16
  have b16 := F16.binds (ps := ["_law_kind", "_law_many", "_law_sign"]) fun _ _ _ _ _ _ us hl => match us, hl with | [_, _, _], _ => rfl
  have F17 := fun_mk (st := s_pBuilder_program) l17 c17 k17
  have b17 := F17.binds (ps := ["self"]) fun _ _ _ _ _ _ us hl => match us, hl with | [_], _ => rfl
  have F18 := fun_mk (st := s_pBuilder_cell) l18 c18 k18
  have b18 := F18.binds (ps := ["self"]) fun _ _ _ _ _ _ us hl => match us, hl with | [_], _ => rfl
  have F19 := fun_mk (st := s_pBuilder_row) l19 c19 k19
  have b19 := F19.binds (ps := ["self", "word", "one", "other"]) fun _ _ _ _ _ _ us hl => match us, hl with | [_, _, _, _], _ => rfl
  have F20 := fun_mk (st := s_pBuilder_copied) l20 c20 k20
  have b20 := F20.binds (ps := ["self", "cell"]) fun _ _ _ _ _ _ us hl => match us, hl with | [_, _], _ => rfl
  have F21 := fun_mk (st := s_pBuilder_ended) l21 c21 k21
  have b21 := F21.binds (ps := ["self", "cell"]) fun _ _ _ _ _ _ us hl => match us, hl with | [_, _], _ => rfl
  have F22 := fun_mk (st := s_pBuilder_init) l22 c22 k22
  have b22 := F22.binds (ps := ["self"]) fun _ _ _ _ _ _ us hl => match us, hl with | [_], _ => rfl
  have F23 := fun_mk (st := s_ptable_of) l23 c23 k23
  have b23 := F23.binds (ps := ["worth"]) fun _ _ _ _ _ _ us hl => match us, hl with | [_], _ => rfl
  have F24 := fun_mk (st := s_pBuilder_look) l24 c24 k24
  have b24 := F24.binds (ps := ["self", "cell", "worth"]) fun _ _ _ _ _ _ us hl => match us, hl with | [_, _, _], _ => rfl
  have F25 := fun_mk (st := s_pBuilder_looked) l25 c25 k25
  have b25 := F25.binds (ps := ["self", "cell", "worth"]) fun _ _ _ _ _ _ us hl => match us, hl with | [_, _, _], _ => rfl
  have F26 := fun_mk (st := s_phalves_of) l26 c26 k26
  have b26 := F26.binds (ps := ["form"]) fun _ _ _ _ _ _ us hl => match us, hl with | [_], _ => rfl
  have F27 := fun_mk (st := s_pBuilder_put) l27 c27 k27
  have b27 := F27.binds (ps := ["self", "byte"]) fun _ _ _ _ _ _ us hl => match us, hl with | [_, _], _ => rfl
  have F28 := fun_mk (st := s_pcarried) l28 c28 k28
  have b28 := F28.binds (ps := ["b", "cell", "carry"]) fun _ _ _ _ _ _ us hl => match us, hl with | [_, _, _], _ => rfl
  have F29 := fun_mk (st := s_pturn_by) l29 c29 k29
  have b29 := F29.binds (ps := ["b", "figures", "flag"]) fun _ _ _ _ _ _ us hl => match us, hl with | [_, _, _], _ => rfl
  have F30 := fun_mk (st := s_pwidth) l30 c30 k30
  have b30 := F30.binds (ps := ["form"]) fun _ _ _ _ _ _ us hl => match us, hl with | [_], _ => rfl
  have F31 := fun_mk (st := s_ploaded) l31 c31 k31
  have b31 := F31.binds (ps := ["b", "form", "at"]) fun _ _ _ _ _ _ us hl => match us, hl with | [_, _, _], _ => rfl
  have F32 := fun_mk (st := s_pany_of) l32 c32 k32
  have b32 := F32.binds (ps := ["b", "cells"]) fun _ _ _ _ _ _ us hl => match us, hl with | [_, _], _ => rfl
  have F33 := fun_mk (st := s_pboth) l33 c33 k33
  have b33 := F33.binds (ps := ["b", "one", "other"]) fun _ _ _ _ _ _ us hl => match us, hl with | [_, _, _], _ => rfl
  have F34 := fun_mk (st := s_ppast_half) l34 c34 k34
  have b34 := F34.binds (ps := ["b", "first", "rest", "last"]) fun _ _ _ _ _ _ us hl => match us, hl with | [_, _, _, _], _ => rfl
  have F35 := fun_mk (st := s_padded_by) l35 c35 k35
  have b35 := F35.binds (ps := ["b", "left", "lost", "below", "rule"]) fun _ _ _ _ _ _ us hl => match us, hl with | [_, _, _, _, _], _ => rfl
  have F36 := fun_mk (st := s_pnoughts) l36 c36 k36
  have b36 := F36.binds (ps := ["b", "many"]) fun _ _ _ _ _ _ us hl => match us, hl with | [_, _], _ => rfl
  have F37 := fun_mk (st := s_pjoined) l37 c37 k37
  have b37 := F37.binds (ps := ["b", "one", "other", "to"]) fun _ _ _ _ _ _ us hl => match us, hl with | [_, _, _, _], _ => rfl
  have F38 := fun_mk (st := s_pstored) l38 c38 k38
  have b38 := F38.binds (ps := ["b", "form", "figures", "below", "at"]) fun _ _ _ _ _ _ us hl => match us, hl with | [_, _, _, _, _], _ => rfl
  have F39 := fun_mk (st := s_ptaken) l39 c39 k39
  have b39 := F39.binds (ps := ["b", "cells"]) fun _ _ _ _ _ _ us hl => match us, hl with | [_, _], _ => rfl
  have F40 := fun_mk (st := s_pfinished) l40 c40 k40
  have b40 := F40.binds (ps := ["b", "form", "figures", "below", "at"]) fun _ _ _ _ _ _ us hl => match us, hl with | [_, _, _, _, _], _ => rfl
  have F41 := fun_mk (st := s_pmoved_rows) l41 c41 k41
  have b41 := F41.binds (ps := ["form", "by", "rule"]) fun _ _ _ _ _ _ us hl => match us, hl with | [_, _, _], _ => rfl
  have F42 := fun_mk (st := s_lsorts) l42 c42 k42
  have b42 := F42.binds (ps := ["_law_e"]) fun _ _ _ _ _ _ us hl => match us, hl with | [_], _ => rfl
  have F43 := fun_mk (st := s_lasked3) l43 c43 k43
  have b43 := F43.binds (ps := ["_law_form_here", "_law_by", "_law_rule"]) fun _ _ _ _ _ _ us hl => match us, hl with | [_, _, _], _ => rfl
  have F44 := fun_mk (st := s_lcell) l44 c44 k44
  have b44 := F44.binds (ps := ["_law_script", "_law_k"]) fun _ _ _ _ _ _ us hl => match us, hl with | [_, _], _ => rfl
  have F45 := fun_mk (st := s_lrules) l45 c45 k45
  have b45 := F45.binds (ps := []) fun _ _ _ _ _ _ us hl => match us, hl with | [], _ => rfl
  have F46 := fun_mk (st := s_lwhole) l46 c46 k46
  have b46 := F46.binds (ps := ["_law_found"]) fun _ _ _ _ _ _ us hl => match us, hl with | [_], _ => rfl
  have F47 := fun_mk (st := s_lis_row) l47 c47 k47
  have b47 := F47.binds (ps := ["_law_row", "_law_many"]) fun _ _ _ _ _ _ us hl => match us, hl with | [_, _], _ => rfl
  have F48 := fun_mk (st := s_lbytes) l48 c48 k48
  have b48 := F48.binds (ps := ["_law_found", "_law_many"]) fun _ _ _ _ _ _ us hl => match us, hl with | [_, _], _ => rfl
  have F49 := fun_mk (st := s_lis_program) l49 c49 k49
  have b49 := F49.binds (ps := ["_law_found"]) fun _ _ _ _ _ _ us hl => match us, hl with | [_], _ => rfl
  have F50 := fun_mk (st := s_lright2) l50 c50 k50
  have b50 := F50.binds (ps := ["_law_script", "_law_at"]) fun _ _ _ _ _ _ us hl => match us, hl with | [_, _], _ => rfl
  have F51 := fun_mk (st := s_law34) l51 c51 k51
  have b51 := F51.binds (ps := ["_law_script"]) fun _ _ _ _ _ _ us hl => match us, hl with | [_], _ => rfl
  refine ⟨PySem.W.fnOf "law" "law" (defArgs s_law34) (defBody s_law34) (defScope s_law34) .none kV51 dc51 pm51 an51 cd51 ct51, fun s v => .of_eq rfl, fun base _ _ => ?_⟩
  have B_LoftError : Bas K mg "LoftError" := ⟨c_LoftError, PySem.W.mg_of X G n_LoftError, b1_LoftError, b2_LoftError, b3_LoftError⟩
  have FI_NoRule := fun_mk (st := s_ini_NoRule) g_NoRule h_NoRule_ m_NoRule_
  have bI_NoRule := FI_NoRule.binds (ps := ["self", "rule"]) fun _ _ _ _ _ _ us hl => match us, hl with | [_, _], _ => rfl
  have FI_TooLong := fun_mk (st := s_ini_TooLong) g_TooLong h_TooLong_ m_TooLong_
  have bI_TooLong := FI_TooLong.binds (ps := ["self", "number"]) fun _ _ _ _ _ _ us hl => match us, hl with | [_, _], _ => rfl
  have xcl1_NoRule_rule : Cl1 l.prog w K mg base "NoRule" "rule" := ⟨_, _, _, _, owX_mk (PySem.W.mg_of X G n_NoRule) l_NoRule rfl s_NoRule e_NoRule t_NoRule p_NoRule i_NoRule_ j_NoRule, f_NoRule_rule, ini_NoRule FI_NoRule B_LoftError, bI_NoRule⟩
  have xcl1_TooLong_number : Cl1 l.prog w K mg base "TooLong" "number" := ⟨_, _, _, _, owX_mk (PySem.W.mg_of X G n_TooLong) l_TooLong rfl s_TooLong e_TooLong t_TooLong p_TooLong i_TooLong_ j_TooLong, f_TooLong_number, ini_TooLong FI_TooLong B_LoftError, bI_TooLong⟩
  have xxcf_NoRule_ : XcF K mg [] "NoRule" := ⟨_, PySem.W.mg_of X G n_NoRule, yxxcf_NoRule_⟩
  have xxcf_TooLong_ : XcF K mg [] "TooLong" := ⟨_, PySem.W.mg_of X G n_TooLong, yxxcf_TooLong_⟩
  have xkit_Wrong_NoRule_False : KiT K mg "Wrong" "NoRule" false := ⟨_, _, PySem.W.mg_of X G n_NoRule, PySem.W.mg_of X G n_Wrong, yxkit_Wrong_NoRule_False⟩
  have xkit_Wrong_TooLong_False : KiT K mg "Wrong" "TooLong" false := ⟨_, _, PySem.W.mg_of X G n_TooLong, PySem.W.mg_of X G n_Wrong, yxkit_Wrong_TooLong_False⟩
  have xcls_Wrong : ∃ D, mg "Wrong" = some (.ref D) := ⟨_, PySem.W.mg_of X G n_Wrong⟩
  have xkit_NoFit_NoRule_False : KiT K mg "NoFit" "NoRule" false := ⟨_, _, PySem.W.mg_of X G n_NoRule, PySem.W.mg_of X G n_NoFit, yxkit_NoFit_NoRule_False⟩
  have xkit_NoFit_TooLong_False : KiT K mg "NoFit" "TooLong" false := ⟨_, _, PySem.W.mg_of X G n_TooLong, PySem.W.mg_of X G n_NoFit, yxkit_NoFit_TooLong_False⟩
  have xcls_NoFit : ∃ D, mg "NoFit" = some (.ref D) := ⟨_, PySem.W.mg_of X G n_NoFit⟩
  have xkit_NoShape_NoRule_False : KiT K mg "NoShape" "NoRule" false := ⟨_, _, PySem.W.mg_of X G n_NoRule, PySem.W.mg_of X G n_NoShape, yxkit_NoShape_NoRule_False⟩
  have xkit_NoShape_TooLong_False : KiT K mg "NoShape" "TooLong" false := ⟨_, _, PySem.W.mg_of X G n_TooLong, PySem.W.mg_of X G n_NoShape, yxkit_NoShape_TooLong_False⟩
  have xcls_NoShape : ∃ D, mg "NoShape" = some (.ref D) := ⟨_, PySem.W.mg_of X G n_NoShape⟩
  have xkit_NoRow_NoRule_False : KiT K mg "NoRow" "NoRule" false := ⟨_, _, PySem.W.mg_of X G n_NoRule, PySem.W.mg_of X G n_NoRow, yxkit_NoRow_NoRule_False⟩
  have xkit_NoRow_TooLong_False : KiT K mg "NoRow" "TooLong" false := ⟨_, _, PySem.W.mg_of X G n_TooLong, PySem.W.mg_of X G n_NoRow, yxkit_NoRow_TooLong_False⟩
  have xcls_NoRow : ∃ D, mg "NoRow" = some (.ref D) := ⟨_, PySem.W.mg_of X G n_NoRow⟩
  have xkit_NoTable_NoRule_False : KiT K mg "NoTable" "NoRule" false := ⟨_, _, PySem.W.mg_of X G n_NoRule, PySem.W.mg_of X G n_NoTable, yxkit_NoTable_NoRule_False⟩
  have xkit_NoTable_TooLong_False : KiT K mg "NoTable" "TooLong" false := ⟨_, _, PySem.W.mg_of X G n_TooLong, PySem.W.mg_of X G n_NoTable, yxkit_NoTable_TooLong_False⟩
  have xcls_NoTable : ∃ D, mg "NoTable" = some (.ref D) := ⟨_, PySem.W.mg_of X G n_NoTable⟩
  have xkit_TooLong_NoRule_False : KiT K mg "TooLong" "NoRule" false := ⟨_, _, PySem.W.mg_of X G n_NoRule, PySem.W.mg_of X G n_TooLong, yxkit_TooLong_NoRule_False⟩
  have xkit_TooLong_TooLong_True : KiT K mg "TooLong" "TooLong" true := ⟨_, _, PySem.W.mg_of X G n_TooLong, PySem.W.mg_of X G n_TooLong, yxkit_TooLong_TooLong_True⟩
  have xcls_TooLong : ∃ D, mg "TooLong" = some (.ref D) := ⟨_, PySem.W.mg_of X G n_TooLong⟩
  have xkit_BadLine_NoRule_False : KiT K mg "BadLine" "NoRule" false := ⟨_, _, PySem.W.mg_of X G n_NoRule, PySem.W.mg_of X G n_BadLine, yxkit_BadLine_NoRule_False⟩
  have xkit_BadLine_TooLong_False : KiT K mg "BadLine" "TooLong" false := ⟨_, _, PySem.W.mg_of X G n_TooLong, PySem.W.mg_of X G n_BadLine, yxkit_BadLine_TooLong_False⟩
  have xcls_BadLine : ∃ D, mg "BadLine" = some (.ref D) := ⟨_, PySem.W.mg_of X G n_BadLine⟩
  have xkit_NoDeed_NoRule_False : KiT K mg "NoDeed" "NoRule" false := ⟨_, _, PySem.W.mg_of X G n_NoRule, PySem.W.mg_of X G n_NoDeed, yxkit_NoDeed_NoRule_False⟩
  have xkit_NoDeed_TooLong_False : KiT K mg "NoDeed" "TooLong" false := ⟨_, _, PySem.W.mg_of X G n_TooLong, PySem.W.mg_of X G n_NoDeed, yxkit_NoDeed_TooLong_False⟩
  have xcls_NoDeed : ∃ D, mg "NoDeed" = some (.ref D) := ⟨_, PySem.W.mg_of X G n_NoDeed⟩
  have xkit_NoRule_NoRule_True : KiT K mg "NoRule" "NoRule" true := ⟨_, _, PySem.W.mg_of X G n_NoRule, PySem.W.mg_of X G n_NoRule, yxkit_NoRule_NoRule_True⟩
  have xkit_NoRule_TooLong_False : KiT K mg "NoRule" "TooLong" false := ⟨_, _, PySem.W.mg_of X G n_TooLong, PySem.W.mg_of X G n_NoRule, yxkit_NoRule_TooLong_False⟩
  have xcls_NoRule : ∃ D, mg "NoRule" = some (.ref D) := ⟨_, PySem.W.mg_of X G n_NoRule⟩
  have xkit_NoText_NoRule_False : KiT K mg "NoText" "NoRule" false := ⟨_, _, PySem.W.mg_of X G n_NoRule, PySem.W.mg_of X G n_NoText, yxkit_NoText_NoRule_False⟩
  have xkit_NoText_TooLong_False : KiT K mg "NoText" "TooLong" false := ⟨_, _, PySem.W.mg_of X G n_TooLong, PySem.W.mg_of X G n_NoText, yxkit_NoText_TooLong_False⟩
  have xcls_NoText : ∃ D, mg "NoText" = some (.ref D) := ⟨_, PySem.W.mg_of X G n_NoText⟩
  have xkit_NoName_NoRule_False : KiT K mg "NoName" "NoRule" false := ⟨_, _, PySem.W.mg_of X G n_NoRule, PySem.W.mg_of X G n_NoName, yxkit_NoName_NoRule_False⟩
  have xkit_NoName_TooLong_False : KiT K mg "NoName" "TooLong" false := ⟨_, _, PySem.W.mg_of X G n_TooLong, PySem.W.mg_of X G n_NoName, yxkit_NoName_TooLong_False⟩
  have xcls_NoName : ∃ D, mg "NoName" = some (.ref D) := ⟨_, PySem.W.mg_of X G n_NoName⟩
  have xkit_Unlike_NoRule_False : KiT K mg "Unlike" "NoRule" false := ⟨_, _, PySem.W.mg_of X G n_NoRule, PySem.W.mg_of X G n_Unlike, yxkit_Unlike_NoRule_False⟩
  have xkit_Unlike_TooLong_False : KiT K mg "Unlike" "TooLong" false := ⟨_, _, PySem.W.mg_of X G n_TooLong, PySem.W.mg_of X G n_Unlike, yxkit_Unlike_TooLong_False⟩
  have xcls_Unlike : ∃ D, mg "Unlike" = some (.ref D) := ⟨_, PySem.W.mg_of X G n_Unlike⟩
  have xkit_Nought_NoRule_False : KiT K mg "Nought" "NoRule" false := ⟨_, _, PySem.W.mg_of X G n_NoRule, PySem.W.mg_of X G n_Nought, yxkit_Nought_NoRule_False⟩
  have xkit_Nought_TooLong_False : KiT K mg "Nought" "TooLong" false := ⟨_, _, PySem.W.mg_of X G n_TooLong, PySem.W.mg_of X G n_Nought, yxkit_Nought_TooLong_False⟩
  have xcls_Nought : ∃ D, mg "Nought" = some (.ref D) := ⟨_, PySem.W.mg_of X G n_Nought⟩
  have xkit_NothingDone_NoRule_False : KiT K mg "NothingDone" "NoRule" false := ⟨_, _, PySem.W.mg_of X G n_NoRule, PySem.W.mg_of X G n_NothingDone, yxkit_NothingDone_NoRule_False⟩
  have xkit_NothingDone_TooLong_False : KiT K mg "NothingDone" "TooLong" false := ⟨_, _, PySem.W.mg_of X G n_TooLong, PySem.W.mg_of X G n_NothingDone, yxkit_NothingDone_TooLong_False⟩
  have xcls_NothingDone : ∃ D, mg "NothingDone" = some (.ref D) := ⟨_, PySem.W.mg_of X G n_NothingDone⟩
  have xkit_NoLine_NoRule_False : KiT K mg "NoLine" "NoRule" false := ⟨_, _, PySem.W.mg_of X G n_NoRule, PySem.W.mg_of X G n_NoLine, yxkit_NoLine_NoRule_False⟩
  have xkit_NoLine_TooLong_False : KiT K mg "NoLine" "TooLong" false := ⟨_, _, PySem.W.mg_of X G n_TooLong, PySem.W.mg_of X G n_NoLine, yxkit_NoLine_TooLong_False⟩
  have xcls_NoLine : ∃ D, mg "NoLine" = some (.ref D) := ⟨_, PySem.W.mg_of X G n_NoLine⟩
  have xkib_ValueError_NoRule : KiB K mg "ValueError" "NoRule" := ⟨_, PySem.W.mg_of X G n_NoRule, yxkib_ValueError_NoRule⟩
  have xkib_ValueError_TooLong : KiB K mg "ValueError" "TooLong" := ⟨_, PySem.W.mg_of X G n_TooLong, yxkib_ValueError_TooLong⟩
  have xnog_ValueError : mg "ValueError" = none := PySem.W.mg_none_of X G yxnog_ValueError
  have xkit_LoftError_NoRule_True : KiT K mg "LoftError" "NoRule" true := ⟨_, _, PySem.W.mg_of X G n_NoRule, PySem.W.mg_of X G n_LoftError, yxkit_LoftError_NoRule_True⟩
  have xkit_LoftError_TooLong_True : KiT K mg "LoftError" "TooLong" true := ⟨_, _, PySem.W.mg_of X G n_TooLong, PySem.W.mg_of X G n_LoftError, yxkit_LoftError_TooLong_True⟩
  have xcls_LoftError : ∃ D, mg "LoftError" = some (.ref D) := ⟨_, PySem.W.mg_of X G n_LoftError⟩
  have xext_LoftError_TooLong_True : ExT K mg "LoftError" "TooLong" true := ⟨_, _, PySem.W.mg_of X G n_TooLong, PySem.W.mg_of X G n_LoftError, yxext_LoftError_TooLong_True⟩
  have xext_LoftError_NoRule_True : ExT K mg "LoftError" "NoRule" true := ⟨_, _, PySem.W.mg_of X G n_NoRule, PySem.W.mg_of X G n_LoftError, yxext_LoftError_NoRule_True⟩
  have xxcf_TooLong_number_rule : XcF K mg ["number", "rule"] "TooLong" := ⟨_, PySem.W.mg_of X G n_TooLong, yxxcf_TooLong_number_rule⟩
  have xxcf_NoRule_number_rule : XcF K mg ["number", "rule"] "NoRule" := ⟨_, PySem.W.mg_of X G n_NoRule, yxxcf_NoRule_number_rule⟩
  have oobc_Builder : ObC K "Builder" ["rows", "tables", "worths", "free"] := obc_mk n_Builder g1_Builder g2_Builder g3_Builder g4_Builder (List.forall_mem_cons.mpr ⟨g5_Builder_rows, (List.forall_mem_cons.mpr ⟨g5_Builder_tables, (List.forall_mem_cons.mpr ⟨g5_Builder_worths, (List.forall_mem_cons.mpr ⟨g5_Builder_free, (fun _ h => absurd h (List.not_mem_nil))⟩)⟩)⟩)⟩)
  have ofng_ahead_of_last : FnG K mg "ahead_of_last" := ⟨⟨f0, PySem.W.mg_of X G a0, a0⟩⟩
  have ofng_five_on : FnG K mg "five_on" := ⟨⟨f1, PySem.W.mg_of X G a1, a1⟩⟩
  have ofng_half_up : FnG K mg "half_up" := ⟨⟨f2, PySem.W.mg_of X G a2, a2⟩⟩
  have ofng_high_half : FnG K mg "high_half" := ⟨⟨f3, PySem.W.mg_of X G a3, a3⟩⟩
  have ofng_last_figure : FnG K mg "last_figure" := ⟨⟨f4, PySem.W.mg_of X G a4, a4⟩⟩
  have ofng_low_half : FnG K mg "low_half" := ⟨⟨f5, PySem.W.mg_of X G a5, a5⟩⟩
  have ofng_lowest_two : FnG K mg "lowest_two" := ⟨⟨f6, PySem.W.mg_of X G a6, a6⟩⟩
  have ofng_nine_less : FnG K mg "nine_less" := ⟨⟨f7, PySem.W.mg_of X G a7, a7⟩⟩
  have ofng_one_of_none : FnG K mg "one_of_none" := ⟨⟨f8, PySem.W.mg_of X G a8, a8⟩⟩
  have ofng_one_of_two : FnG K mg "one_of_two" := ⟨⟨f9, PySem.W.mg_of X G a9, a9⟩⟩
  have ofng_one_or_none : FnG K mg "one_or_none" := ⟨⟨f10, PySem.W.mg_of X G a10, a10⟩⟩
  have ofng_sign_below : FnG K mg "sign_below" := ⟨⟨f11, PySem.W.mg_of X G a11, a11⟩⟩
  have ofng_six_on : FnG K mg "six_on" := ⟨⟨f12, PySem.W.mg_of X G a12, a12⟩⟩
  have ofng_ten_or_none : FnG K mg "ten_or_none" := ⟨⟨f13, PySem.W.mg_of X G a13, a13⟩⟩
  have ofni : FnI K fnNames := fni_mk [("ahead_of_last", f0), ("five_on", f1), ("half_up", f2), ("high_half", f3), ("last_figure", f4), ("low_half", f5), ("lowest_two", f6), ("nine_less", f7), ("one_of_none", f8), ("one_of_two", f9), ("one_or_none", f10), ("sign_below", f11), ("six_on", f12), ("ten_or_none", f13)] (List.forall_mem_cons.mpr ⟨(fni_one a0 (by simp)), (List.forall_mem_cons.mpr ⟨(fni_no uz_all_or_none), (List.forall_mem_cons.mpr ⟨(fni_no uz_fill), (List.forall_mem_cons.mpr ⟨(fni_one a1 (by simp)), (List.forall_mem_cons.mpr ⟨(fni_one a2 (by simp)), (List.forall_mem_cons.mpr ⟨(fni_one a3 (by simp)), (List.forall_mem_cons.mpr ⟨(fni_no uz_lacking), (List.forall_mem_cons.mpr ⟨(fni_one a4 (by simp)), (List.forall_mem_cons.mpr ⟨(fni_one a5 (by simp)), (List.forall_mem_cons.mpr ⟨(fni_one a6 (by simp)), (List.forall_mem_cons.mpr ⟨(fni_one a7 (by simp)), (List.forall_mem_cons.mpr ⟨(fni_no uz_none_or_all), (List.forall_mem_cons.mpr ⟨(fni_no uz_not_all), (List.forall_mem_cons.mpr ⟨(fni_one a8 (by simp)), (List.forall_mem_cons.mpr ⟨(fni_one a9 (by simp)), (List.forall_mem_cons.mpr ⟨(fni_one a10 (by simp)), (List.forall_mem_cons.mpr ⟨(fni_no uz_order_byte), (List.forall_mem_cons.mpr ⟨(fni_no uz_other_twos), (List.forall_mem_cons.mpr ⟨(fni_no uz_product_byte), (List.forall_mem_cons.mpr ⟨(fni_one a11 (by simp)), (List.forall_mem_cons.mpr ⟨(fni_one a12 (by simp)), (List.forall_mem_cons.mpr ⟨(fni_no uz_ten_high), (List.forall_mem_cons.mpr ⟨(fni_no uz_ten_low), (List.forall_mem_cons.mpr ⟨(fni_one a13 (by simp)), (List.forall_mem_cons.mpr ⟨(fni_no uz_top_two), (fun _ h => absurd h (List.not_mem_nil))⟩)⟩)⟩)⟩)⟩)⟩)⟩)⟩)⟩)⟩)⟩)⟩)⟩)⟩)⟩)⟩)⟩)⟩)⟩)⟩)⟩)⟩)⟩)⟩)⟩) (List.forall_mem_cons.mpr ⟨ut_ahead_of_last, (List.forall_mem_cons.mpr ⟨ut_five_on, (List.forall_mem_cons.mpr ⟨ut_half_up, (List.forall_mem_cons.mpr ⟨ut_high_half, (List.forall_mem_cons.mpr ⟨ut_last_figure, (List.forall_mem_cons.mpr ⟨ut_low_half, (List.forall_mem_cons.mpr ⟨ut_lowest_two, (List.forall_mem_cons.mpr ⟨ut_nine_less, (List.forall_mem_cons.mpr ⟨ut_one_of_none, (List.forall_mem_cons.mpr ⟨ut_one_of_two, (List.forall_mem_cons.mpr ⟨ut_one_or_none, (List.forall_mem_cons.mpr ⟨ut_sign_below, (List.forall_mem_cons.mpr ⟨ut_six_on, (List.forall_mem_cons.mpr ⟨ut_ten_or_none, (fun _ h => absurd h (List.not_mem_nil))⟩)⟩)⟩)⟩)⟩)⟩)⟩)⟩)⟩)⟩)⟩)⟩)⟩)⟩) und
  have h_pahead_of_last : Fd l.prog w K mg base "ahead_of_last" 2 ["byte"] [] f_pahead_of_last := ⟨_, _, ok_pahead_of_last F0 B    , PySem.W.mg_of X G a0, k0, b0⟩
  have h_pfive_on : Fd l.prog w K mg base "five_on" 2 ["byte"] [] f_pfive_on := ⟨_, _, ok_pfive_on F1 B    , PySem.W.mg_of X G a1, k1, b1⟩
  have h_phalf_up : Fd l.prog w K mg base "half_up" 2 ["byte"] [] f_phalf_up := ⟨_, _, ok_phalf_up F2 B    , PySem.W.mg_of X G a2, k2, b2⟩
  have h_phigh_half : Fd l.prog w K mg base "high_half" 2 ["byte"] [] f_phigh_half := ⟨_, _, ok_phigh_half F3 B    , PySem.W.mg_of X G a3, k3, b3⟩
  have h_plast_figure : Fd l.prog w K mg base "last_figure" 2 ["byte"] [] f_plast_figure := ⟨_, _, ok_plast_figure F4 B    , PySem.W.mg_of X G a4, k4, b4⟩
  have h_plow_half : Fd l.prog w K mg base "low_half" 2 ["byte"] [] f_plow_half := ⟨_, _, ok_plow_half F5 B    , PySem.W.mg_of X G a5, k5, b5⟩
  have h_plowest_two : Fd l.prog w K mg base "lowest_two" 2 ["byte"] [] f_plowest_two := ⟨_, _, ok_plowest_two F6 B    , PySem.W.mg_of X G a6, k6, b6⟩
  have h_pnine_less : Fd l.prog w K mg base "nine_less" 2 ["byte"] [] f_pnine_less := ⟨_, _, ok_pnine_less F7 B    , PySem.W.mg_of X G a7, k7, b7⟩
  have h_pone_of_none : Fd l.prog w K mg base "one_of_none" 2 ["byte"] [] f_pone_of_none := ⟨_, _, ok_pone_of_none F8 B    , PySem.W.mg_of X G a8, k8, b8⟩
  have h_pone_of_two : Fd l.prog w K mg base "one_of_two" 2 ["byte"] [] f_pone_of_two := ⟨_, _, ok_pone_of_two F9 B    , PySem.W.mg_of X G a9, k9, b9⟩
  have h_pone_or_none : Fd l.prog w K mg base "one_or_none" 2 ["byte"] [] f_pone_or_none := ⟨_, _, ok_pone_or_none F10 B    , PySem.W.mg_of X G a10, k10, b10⟩
  have h_psign_below : Fd l.prog w K mg base "sign_below" 2 ["byte"] [] f_psign_below := ⟨_, _, ok_psign_below F11 B    , PySem.W.mg_of X G a11, k11, b11⟩
  have h_psix_on : Fd l.prog w K mg base "six_on" 2 ["byte"] [] f_psix_on := ⟨_, _, ok_psix_on F12 B    , PySem.W.mg_of X G a12, k12, b12⟩
  have h_pten_or_none : Fd l.prog w K mg base "ten_or_none" 2 ["byte"] [] f_pten_or_none := ⟨_, _, ok_pten_or_none F13 B    , PySem.W.mg_of X G a13, k13, b13⟩
  have h_lmixed : Fd l.prog w K mg base "_law_mixed" 2 ["_law_cell_here", "_law_k", "_law_salt"] [] f_lmixed := ⟨_, _, ok_lmixed F14 B    , PySem.W.mg_of X G a14, k14, b14⟩
  have h_ldraws : Fd l.prog w K mg base "_law_draws" 4 ["_law_cell_here", "_law_salt", "_law_widths"] [] f_ldraws := ⟨_, _, ok_ldraws F15 B h_lmixed   , PySem.W.mg_of X G a15, k15, b15⟩
  have h_lform : Fd l.prog w K mg base "_law_form" 2 ["_law_kind", "_law_many", "_law_sign"] [] f_lform := ⟨_, _, ok_lform F16 B    , PySem.W.mg_of X G a16, k16, b16⟩
  have h_pBuilder_program : ObM l.prog w K mg base "Builder" "program" 2 ["self"] [0] f_pBuilder_program := ⟨c_Builder, f17, _, n_Builder, ⟨g1_Builder, g2_Builder, g3_Builder, g4_Builder⟩, ⟨fi17, fn17, k17⟩, ok_pBuilder_program F17 B  oobc_Builder  , b17⟩
  have h_pBuilder_cell : ObM l.prog w K mg base "Builder" "cell" 2 ["self"] [0] f_pBuilder_cell := ⟨c_Builder, f18, _, n_Builder, ⟨g1_Builder, g2_Builder, g3_Builder, g4_Builder⟩, ⟨fi18, fn18, k18⟩, ok_pBuilder_cell F18 B  oobc_Builder  , b18⟩
  have h_pBuilder_row : ObM l.prog w K mg base "Builder" "row" 2 ["self", "word", "one", "other"] [0] f_pBuilder_row := ⟨c_Builder, f19, _, n_Builder, ⟨g1_Builder, g2_Builder, g3_Builder, g4_Builder⟩, ⟨fi19, fn19, k19⟩, ok_pBuilder_row F19 B  oobc_Builder  , b19⟩
  have h_pBuilder_copied : ObM l.prog w K mg base "Builder" "copied" 4 ["self", "cell"] [0] f_pBuilder_copied := ⟨c_Builder, f20, _, n_Builder, ⟨g1_Builder, g2_Builder, g3_Builder, g4_Builder⟩, ⟨fi20, fn20, k20⟩, ok_pBuilder_copied F20 B h_pBuilder_cell h_pBuilder_row   , b20⟩
  have oobx_Builder_cell : ObX l.prog w K mg base "Builder" "cell" 2 ["self"] (spCellX K "Builder") := ⟨c_Builder, f18, _, n_Builder, ⟨g1_Builder, g2_Builder, g3_Builder, g4_Builder⟩, ⟨fi18, fn18, k18⟩, okx_pBuilder_cell F18 oobc_Builder, b18⟩
  have oobx_Builder_row : ObX l.prog w K mg base "Builder" "row" 2 ["self", "word", "one", "other"] (spRowX K "Builder") := ⟨c_Builder, f19, _, n_Builder, ⟨g1_Builder, g2_Builder, g3_Builder, g4_Builder⟩, ⟨fi19, fn19, k19⟩, okx_pBuilder_row F19 oobc_Builder, b19⟩
  have oobx_Builder_copied : ObX l.prog w K mg base "Builder" "copied" 4 ["self", "cell"] (spCopX K "Builder") := ⟨c_Builder, f20, _, n_Builder, ⟨g1_Builder, g2_Builder, g3_Builder, g4_Builder⟩, ⟨fi20, fn20, k20⟩, okx_pBuilder_copied F20 oobc_Builder oobx_Builder_cell oobx_Builder_row, b20⟩
  have h_pBuilder_ended : ObM l.prog w K mg base "Builder" "ended" 6 ["self", "cell"] [0] f_pBuilder_ended := ⟨c_Builder, f21, _, n_Builder, ⟨g1_Builder, g2_Builder, g3_Builder, g4_Builder⟩, ⟨fi21, fn21, k21⟩, ok_pBuilder_ended F21 B h_pBuilder_cell h_pBuilder_row h_pBuilder_copied h_pBuilder_program oobc_Builder oobx_Builder_copied  , b21⟩
  have h_pBuilder_init : ObN l.prog w K mg base "Builder" 2 f_pBuilder_init := ⟨c_Builder, f22, _, _, n_Builder, PySem.W.mg_of X G n_Builder, ⟨g6_Builder, fi22, fn22, g7_Builder⟩, ok_pBuilder_init F22 B  oobc_Builder  c_FIRST_FREE, b22⟩
  have ofnt : FnT l.prog w K mg base fnTab := fnt_mk (List.forall_mem_cons.mpr ⟨(fnt_one h_pahead_of_last rfl (PySem.W.mg_of X G a0) a0), (List.forall_mem_cons.mpr ⟨(fni_no uz_all_or_none), (List.forall_mem_cons.mpr ⟨(fni_no uz_fill), (List.forall_mem_cons.mpr ⟨(fnt_one h_pfive_on rfl (PySem.W.mg_of X G a1) a1), (List.forall_mem_cons.mpr ⟨(fnt_one h_phalf_up rfl (PySem.W.mg_of X G a2) a2), (List.forall_mem_cons.mpr ⟨(fnt_one h_phigh_half rfl (PySem.W.mg_of X G a3) a3), (List.forall_mem_cons.mpr ⟨(fni_no uz_lacking), (List.forall_mem_cons.mpr ⟨(fnt_one h_plast_figure rfl (PySem.W.mg_of X G a4) a4), (List.forall_mem_cons.mpr ⟨(fnt_one h_plow_half rfl (PySem.W.mg_of X G a5) a5), (List.forall_mem_cons.mpr ⟨(fnt_one h_plowest_two rfl (PySem.W.mg_of X G a6) a6), (List.forall_mem_cons.mpr ⟨(fnt_one h_pnine_less rfl (PySem.W.mg_of X G a7) a7), (List.forall_mem_cons.mpr ⟨(fni_no uz_none_or_all), (List.forall_mem_cons.mpr ⟨(fni_no uz_not_all), (List.forall_mem_cons.mpr ⟨(fnt_one h_pone_of_none rfl (PySem.W.mg_of X G a8) a8), (List.forall_mem_cons.mpr ⟨(fnt_one h_pone_of_two rfl (PySem.W.mg_of X G a9) a9), (List.forall_mem_cons.mpr ⟨(fnt_one h_pone_or_none rfl (PySem.W.mg_of X G a10) a10), (List.forall_mem_cons.mpr ⟨(fni_no uz_order_byte), (List.forall_mem_cons.mpr ⟨(fni_no uz_other_twos), (List.forall_mem_cons.mpr ⟨(fni_no uz_product_byte), (List.forall_mem_cons.mpr ⟨(fnt_one h_psign_below rfl (PySem.W.mg_of X G a11) a11), (List.forall_mem_cons.mpr ⟨(fnt_one h_psix_on rfl (PySem.W.mg_of X G a12) a12), (List.forall_mem_cons.mpr ⟨(fni_no uz_ten_high), (List.forall_mem_cons.mpr ⟨(fni_no uz_ten_low), (List.forall_mem_cons.mpr ⟨(fnt_one h_pten_or_none rfl (PySem.W.mg_of X G a13) a13), (List.forall_mem_cons.mpr ⟨(fni_no uz_top_two), (fun _ h => absurd h (List.not_mem_nil))⟩)⟩)⟩)⟩)⟩)⟩)⟩)⟩)⟩)⟩)⟩)⟩)⟩)⟩)⟩)⟩)⟩)⟩)⟩)⟩)⟩)⟩)⟩)⟩)⟩)
  have h_ptable_of : Fd l.prog w K mg base "table_of" 4 ["worth"] [] f_ptable_of := ⟨_, _, ok_ptable_of F23 B  ofnt  , PySem.W.mg_of X G a23, k23, b23⟩
  have h_pBuilder_look : ObM l.prog w K mg base "Builder" "look" 6 ["self", "cell", "worth"] [0] f_pBuilder_look := ⟨c_Builder, f24, _, n_Builder, ⟨g1_Builder, g2_Builder, g3_Builder, g4_Builder⟩, ⟨fi24, fn24, k24⟩, ok_pBuilder_look F24 B h_ptable_of ofni oobc_Builder  , b24⟩
  have h_pBuilder_looked : ObM l.prog w K mg base "Builder" "looked" 8 ["self", "cell", "worth"] [0] f_pBuilder_looked := ⟨c_Builder, f25, _, n_Builder, ⟨g1_Builder, g2_Builder, g3_Builder, g4_Builder⟩, ⟨fi25, fn25, k25⟩, ok_pBuilder_looked F25 B h_pBuilder_copied h_pBuilder_look   , b25⟩
  have h_phalves_of : Fd l.prog w K mg base "halves_of" 2 ["form"] [] f_phalves_of := ⟨_, _, ok_phalves_of F26 B    , PySem.W.mg_of X G a26, k26, b26⟩
  have h_pBuilder_put : ObM l.prog w K mg base "Builder" "put" 4 ["self", "byte"] [0] f_pBuilder_put := ⟨c_Builder, f27, _, n_Builder, ⟨g1_Builder, g2_Builder, g3_Builder, g4_Builder⟩, ⟨fi27, fn27, k27⟩, ok_pBuilder_put F27 B h_pBuilder_cell oobc_Builder  , b27⟩
  have h_pcarried : Fd l.prog w K mg base "carried" 8 ["b", "cell", "carry"] [0] f_pcarried := ⟨_, _, ok_pcarried F28 B h_pBuilder_row h_pBuilder_look ofng_ahead_of_last ofng_last_figure  , PySem.W.mg_of X G a28, k28, b28⟩
  have h_pturn_by : Fd l.prog w K mg base "turn_by" 10 ["b", "figures", "flag"] [0] f_pturn_by := ⟨_, _, ok_pturn_by F29 B h_pBuilder_looked h_pBuilder_copied h_pBuilder_row h_pBuilder_look h_pcarried ofng_ten_or_none ofng_nine_less  , PySem.W.mg_of X G a29, k29, b29⟩
  have h_pwidth : Fd l.prog w K mg base "width" 4 ["form"] [] f_pwidth := ⟨_, _, ok_pwidth F30 B h_phalves_of   , PySem.W.mg_of X G a30, k30, b30⟩
  have h_ploaded : Fd l.prog w K mg base "loaded" 12 ["b", "form", "at"] [0] f_ploaded := ⟨_, _, ok_ploaded F31 B h_phalves_of h_pBuilder_looked h_pBuilder_put h_pturn_by h_pBuilder_copied h_pwidth h_pBuilder_look ofng_low_half ofng_high_half ofng_five_on ofng_sign_below  , PySem.W.mg_of X G a31, k31, b31⟩
  have h_pany_of : Fd l.prog w K mg base "any_of" 8 ["b", "cells"] [0] f_pany_of := ⟨_, _, ok_pany_of F32 B h_pBuilder_put h_pBuilder_row h_pBuilder_look ofng_one_or_none  , PySem.W.mg_of X G a32, k32, b32⟩
  have h_pboth : Fd l.prog w K mg base "both" 6 ["b", "one", "other"] [0] f_pboth := ⟨_, _, ok_pboth F33 B h_pBuilder_copied h_pBuilder_row   , PySem.W.mg_of X G a33, k33, b33⟩
  have h_ppast_half : Fd l.prog w K mg base "past_half" 10 ["b", "first", "rest", "last"] [0] f_ppast_half := ⟨_, _, ok_ppast_half F34 B h_pBuilder_looked h_pany_of h_pBuilder_row h_pboth ofng_five_on ofng_lowest_two ofng_six_on  , PySem.W.mg_of X G a34, k34, b34⟩
  have h_padded_by : Fd l.prog w K mg base "added_by" 12 ["b", "left", "lost", "below", "rule"] [0] f_padded_by := ⟨_, _, ok_padded_by F35 B h_pBuilder_put h_pBuilder_looked h_ppast_half h_pany_of h_pboth ofng_five_on ofng_one_of_none  , PySem.W.mg_of X G a35, k35, b35⟩
  have h_pnoughts : Fd l.prog w K mg base "noughts" 6 ["b", "many"] [0] f_pnoughts := ⟨_, _, ok_pnoughts F36 B h_pBuilder_put   , PySem.W.mg_of X G a36, k36, b36⟩
  have h_pjoined : Fd l.prog w K mg base "joined" 10 ["b", "one", "other", "to"] [0] f_pjoined := ⟨_, _, ok_pjoined F37 B h_pBuilder_looked h_pBuilder_row ofng_half_up  , PySem.W.mg_of X G a37, k37, b37⟩
  have h_pstored : Fd l.prog w K mg base "stored" 12 ["b", "form", "figures", "below", "at"] [0] f_pstored := ⟨_, _, ok_pstored F38 B h_pBuilder_put h_pBuilder_row h_pjoined h_pnoughts h_phalves_of   c_PLUS c_ZONE, PySem.W.mg_of X G a38, k38, b38⟩
  have h_ptaken : Fd l.prog w K mg base "taken" 6 ["b", "cells"] [0] f_ptaken := ⟨_, _, ok_ptaken F39 B h_pBuilder_copied   , PySem.W.mg_of X G a39, k39, b39⟩
  have h_pfinished : Fd l.prog w K mg base "finished" 14 ["b", "form", "figures", "below", "at"] [0] f_pfinished := ⟨_, _, ok_pfinished F40 B h_pnoughts h_ptaken h_pany_of h_pboth h_pstored h_pturn_by h_pBuilder_looked h_pBuilder_row h_pBuilder_look ofng_five_on ofng_one_of_two  , PySem.W.mg_of X G a40, k40, b40⟩
  have h_pmoved_rows : Fd l.prog w K mg base "moved_rows" 16 ["form", "by", "rule"] [] f_pmoved_rows := ⟨_, _, ok_pmoved_rows F41 B h_pBuilder_init h_ploaded h_pBuilder_ended h_pfinished h_pnoughts h_padded_by h_pcarried  xcl1_NoRule_rule xcl1_TooLong_number c_RULES, PySem.W.mg_of X G a41, k41, b41⟩
  have h_lsorts : FdE l.prog w K mg base "_law_sorts" 2 "_law_e" ["NoRule", "TooLong"] f_lsorts := ⟨_, _, ok_lsorts F42 B   xxcf_NoRule_ xxcf_TooLong_ xkit_Wrong_NoRule_False xkit_Wrong_TooLong_False xcls_Wrong xkit_NoFit_NoRule_False xkit_NoFit_TooLong_False xcls_NoFit xkit_NoShape_NoRule_False xkit_NoShape_TooLong_False xcls_NoShape xkit_NoRow_NoRule_False xkit_NoRow_TooLong_False xcls_NoRow xkit_NoTable_NoRule_False xkit_NoTable_TooLong_False xcls_NoTable xkit_TooLong_NoRule_False xkit_TooLong_TooLong_True xcls_TooLong xkit_BadLine_NoRule_False xkit_BadLine_TooLong_False xcls_BadLine xkit_NoDeed_NoRule_False xkit_NoDeed_TooLong_False xcls_NoDeed xkit_NoRule_NoRule_True xkit_NoRule_TooLong_False xcls_NoRule xkit_NoText_NoRule_False xkit_NoText_TooLong_False xcls_NoText xkit_NoName_NoRule_False xkit_NoName_TooLong_False xcls_NoName xkit_Unlike_NoRule_False xkit_Unlike_TooLong_False xcls_Unlike xkit_Nought_NoRule_False xkit_Nought_TooLong_False xcls_Nought xkit_NothingDone_NoRule_False xkit_NothingDone_TooLong_False xcls_NothingDone xkit_NoLine_NoRule_False xkit_NoLine_TooLong_False xcls_NoLine xkib_ValueError_NoRule xkib_ValueError_TooLong xnog_ValueError xkit_LoftError_NoRule_True xkit_LoftError_TooLong_True xcls_LoftError , PySem.W.mg_of X G a42, k42, b42⟩
  have h_lasked3 : Fd l.prog w K mg base "_law_asked" 18 ["_law_form_here", "_law_by", "_law_rule"] [] f_lasked3 := ⟨_, _, ok_lasked3 F43 B h_pmoved_rows h_lsorts  xext_LoftError_TooLong_True xext_LoftError_NoRule_True xcls_LoftError xxcf_TooLong_number_rule xxcf_NoRule_number_rule , PySem.W.mg_of X G a43, k43, b43⟩
  have h_lcell : Fd l.prog w K mg base "_law_cell" 2 ["_law_script", "_law_k"] [] f_lcell := ⟨_, _, ok_lcell F44 B    , PySem.W.mg_of X G a44, k44, b44⟩
  have h_lrules : Fd l.prog w K mg base "_law_rules" 2 [] [] f_lrules := ⟨_, _, ok_lrules F45 B    , PySem.W.mg_of X G a45, k45, b45⟩
  have h_lwhole : Fd l.prog w K mg base "_law_whole" 2 ["_law_found"] [] f_lwhole := ⟨_, _, ok_lwhole F46 B    , PySem.W.mg_of X G a46, k46, b46⟩
  have h_lis_row : Fd l.prog w K mg base "_law_is_row" 4 ["_law_row", "_law_many"] [] f_lis_row := ⟨_, _, ok_lis_row F47 B h_lwhole   , PySem.W.mg_of X G a47, k47, b47⟩
  have h_lbytes : Fd l.prog w K mg base "_law_bytes" 4 ["_law_found", "_law_many"] [] f_lbytes := ⟨_, _, ok_lbytes F48 B h_lwhole   , PySem.W.mg_of X G a48, k48, b48⟩
  have h_lis_program : Fd l.prog w K mg base "_law_is_program" 6 ["_law_found"] [] f_lis_program := ⟨_, _, ok_lis_program F49 B h_lbytes h_lis_row   , PySem.W.mg_of X G a49, k49, b49⟩
  have h_lright2 : Fd l.prog w K mg base "_law_right" 20 ["_law_script", "_law_at"] [] f_lright2 := ⟨_, _, ok_lright2 F50 B h_ldraws h_lcell h_lform h_lrules h_lasked3 h_lwhole h_lis_program   , PySem.W.mg_of X G a50, k50, b50⟩
  exact ok_law34 F51 B h_lright2   
end Tm
open PySem PySem.W PyProof.Rows in
set_option maxRecDepth 100000 in
set_option maxHeartbeats 0 in
theorem PySem.Challenge.cw_tensloft_k31_moved_programs_holds : PySem.Challenge.rw_tensloft_k31_moved_programs.Holds := by
  w_on; o_law; k_head; (case hw => w_witness2)
  k_fill
  refine Tm.walk_law (l := PySem.Challenge.rw_tensloft_k31_moved_programs) (f := Tm.f_law34) (x := "_law_script") (k := 22) rfl rfl ⟨rfl, by decide, by decide⟩ (fun w h Y => PySem.W.kIn_of Y) Tm.law_true ?F
  case F =>
    intro w mg fa h KX G hmg
    refine' Tm.all_mk KX G hmg ?a0 ?l0 ?c0 ?k0 ?a1 ?l1 ?c1 ?k1 ?a2 ?l2 ?c2 ?k2 ?a3 ?l3 ?c3 ?k3 ?a4 ?l4 ?c4 ?k4 ?a5 ?l5 ?c5 ?k5 ?a6 ?l6 ?c6 ?k6 ?a7 ?l7 ?c7 ?k7 ?a8 ?l8 ?c8 ?k8 ?a9 ?l9 ?c9 ?k9 ?a10 ?l10 ?c10 ?k10 ?a11 ?l11 ?c11 ?k11 ?a12 ?l12 ?c12 ?k12 ?a13 ?l13 ?c13 ?k13 ?a14 ?l14 ?c14 ?k14 ?a15 ?l15 ?c15 ?k15 ?a16 ?l16 ?c16 ?k16 ?a23 ?l23 ?c23 ?k23 ?a26 ?l26 ?c26 ?k26 ?a28 ?l28 ?c28 ?k28 ?a29 ?l29 ?c29 ?k29 ?a30 ?l30 ?c30 ?k30 ?a31 ?l31 ?c31 ?k31 ?a32 ?l32 ?c32 ?k32 ?a33 ?l33 ?c33 ?k33 ?a34 ?l34 ?c34 ?k34 ?a35 ?l35 ?c35 ?k35 ?a36 ?l36 ?c36 ?k36 ?a37 ?l37 ?c37 ?k37 ?a38 ?l38 ?c38 ?k38 ?a39 ?l39 ?c39 ?k39 ?a40 ?l40 ?c40 ?k40 ?a41 ?l41 ?c41 ?k41 ?a42 ?l42 ?c42 ?k42 ?a43 ?l43 ?c43 ?k43 ?a44 ?l44 ?c44 ?k44 ?a45 ?l45 ?c45 ?k45 ?a46 ?l46 ?c46 ?k46 ?a47 ?l47 ?c47 ?k47 ?a48 ?l48 ?c48 ?k48 ?a49 ?l49 ?c49 ?k49 ?a50 ?l50 ?c50 ?k50 ?a51 ?l51 ?c51 ?k51 ?z_len ?z_range ?z_abs ?z_max ?z_min ?z_int ?z_str ?z_tuple ?z_list ?z_all ?z_any ?z_isinstance ?z_divmod ?z_sum ?z_zip ?z_enumerate ?z_reversed ?z_sorted ?z_dict ?z_set ?z_bool ?qa_FIRST_FREE ?qa_PLUS ?qa_ZONE ?qa_RULES ?ql_RULES ?qe_RULES ?qz_RULES ?n_BadLine ?n_Builder ?n_LoftError ?n_NoDeed ?n_NoFit ?n_NoLine ?n_NoName ?n_NoRow ?n_NoRule ?n_NoShape ?n_NoTable ?n_NoText ?n_NothingDone ?n_Nought ?n_TooLong ?n_Unlike ?n_Wrong ?fi17 ?l17 ?c17 ?k17 ?fn17 ?fi18 ?l18 ?c18 ?k18 ?fn18 ?fi19 ?l19 ?c19 ?k19 ?fn19 ?fi20 ?l20 ?c20 ?k20 ?fn20 ?fi21 ?l21 ?c21 ?k21 ?fn21 ?fi22 ?l22 ?c22 ?k22 ?fn22 ?fi24 ?l24 ?c24 ?k24 ?fn24 ?fi25 ?l25 ?c25 ?k25 ?fn25 ?fi27 ?l27 ?c27 ?k27 ?fn27 ?g1_Builder ?g2_Builder ?g3_Builder ?g4_Builder ?g5_Builder_rows ?g5_Builder_tables ?g5_Builder_worths ?g5_Builder_free ?g6_Builder ?g7_Builder ?ut_ahead_of_last ?uz_all_or_none ?uz_fill ?ut_five_on ?ut_half_up ?ut_high_half ?uz_lacking ?ut_last_figure ?ut_low_half ?ut_lowest_two ?ut_nine_less ?uz_none_or_all ?uz_not_all ?ut_one_of_none ?ut_one_of_two ?ut_one_or_none ?uz_order_byte ?uz_other_twos ?uz_product_byte ?ut_sign_below ?ut_six_on ?uz_ten_high ?uz_ten_low ?ut_ten_or_none ?uz_top_two ?und ?b1_LoftError ?b2_LoftError ?b3_LoftError ?l_NoRule ?s_NoRule ?e_NoRule ?t_NoRule ?p_NoRule ?i_NoRule_ ?j_NoRule ?f_NoRule_rule ?g_NoRule ?h_NoRule_ ?m_NoRule_ ?l_TooLong ?s_TooLong ?e_TooLong ?t_TooLong ?p_TooLong ?i_TooLong_ ?j_TooLong ?f_TooLong_number ?g_TooLong ?h_TooLong_ ?m_TooLong_ ?yxxcf_NoRule_ ?yxxcf_TooLong_ ?yxkit_Wrong_NoRule_False ?yxkit_Wrong_TooLong_False ?yxkit_NoFit_NoRule_False ?yxkit_NoFit_TooLong_False ?yxkit_NoShape_NoRule_False ?yxkit_NoShape_TooLong_False ?yxkit_NoRow_NoRule_False ?yxkit_NoRow_TooLong_False ?yxkit_NoTable_NoRule_False ?yxkit_NoTable_TooLong_False ?yxkit_TooLong_NoRule_False ?yxkit_TooLong_TooLong_True ?yxkit_BadLine_NoRule_False ?yxkit_BadLine_TooLong_False ?yxkit_NoDeed_NoRule_False ?yxkit_NoDeed_TooLong_False ?yxkit_NoRule_NoRule_True ?yxkit_NoRule_TooLong_False ?yxkit_NoText_NoRule_False ?yxkit_NoText_TooLong_False ?yxkit_NoName_NoRule_False ?yxkit_NoName_TooLong_False ?yxkit_Unlike_NoRule_False ?yxkit_Unlike_TooLong_False ?yxkit_Nought_NoRule_False ?yxkit_Nought_TooLong_False ?yxkit_NothingDone_NoRule_False ?yxkit_NothingDone_TooLong_False ?yxkit_NoLine_NoRule_False ?yxkit_NoLine_TooLong_False ?yxkib_ValueError_NoRule ?yxkib_ValueError_TooLong ?yxnog_ValueError ?yxkit_LoftError_NoRule_True ?yxkit_LoftError_TooLong_True ?yxext_LoftError_TooLong_True ?yxext_LoftError_NoRule_True ?yxxcf_TooLong_number_rule ?yxxcf_NoRule_number_rule
    (case a0 => k_is)
    (case l0 => k_is)
    (case c0 => k_is)
    (case k0 => k_is)
    (case a1 => k_is)
    (case l1 => k_is)
    (case c1 => k_is)
    (case k1 => k_is)
    (case a2 => k_is)
    (case l2 => k_is)
    (case c2 => k_is)
    (case k2 => k_is)
    (case a3 => k_is)
    (case l3 => k_is)
    (case c3 => k_is)
    (case k3 => k_is)
    (case a4 => k_is)
    (case l4 => k_is)
    (case c4 => k_is)
    (case k4 => k_is)
    (case a5 => k_is)
    (case l5 => k_is)
    (case c5 => k_is)
    (case k5 => k_is)
    (case a6 => k_is)
    (case l6 => k_is)
    (case c6 => k_is)
    (case k6 => k_is)
    (case a7 => k_is)
    (case l7 => k_is)
    (case c7 => k_is)
    (case k7 => k_is)
    (case a8 => k_is)
    (case l8 => k_is)
    (case c8 => k_is)
    (case k8 => k_is)
    (case a9 => k_is)
    (case l9 => k_is)
    (case c9 => k_is)
    (case k9 => k_is)
    (case a10 => k_is)
    (case l10 => k_is)
    (case c10 => k_is)
    (case k10 => k_is)
    (case a11 => k_is)
    (case l11 => k_is)
    (case c11 => k_is)
    (case k11 => k_is)
    (case a12 => k_is)
    (case l12 => k_is)
    (case c12 => k_is)
    (case k12 => k_is)
    (case a13 => k_is)
    (case l13 => k_is)
    (case c13 => k_is)
    (case k13 => k_is)
    (case a14 => k_is)
    (case l14 => k_is)
    (case c14 => k_is)
    (case k14 => k_is)
    (case a15 => k_is)
    (case l15 => k_is)
    (case c15 => k_is)
    (case k15 => k_is)
    (case a16 => k_is)
    (case l16 => k_is)
    (case c16 => k_is)
    (case k16 => k_is)
    (case a23 => k_is)
    (case l23 => k_is)
    (case c23 => k_is)
    (case k23 => k_is)
    (case a26 => k_is)
    (case l26 => k_is)
    (case c26 => k_is)
    (case k26 => k_is)
    (case a28 => k_is)
    (case l28 => k_is)
    (case c28 => k_is)
    (case k28 => k_is)
    (case a29 => k_is)
    (case l29 => k_is)
    (case c29 => k_is)
    (case k29 => k_is)
    (case a30 => k_is)
    (case l30 => k_is)
    (case c30 => k_is)
    (case k30 => k_is)
    (case a31 => k_is)
    (case l31 => k_is)
    (case c31 => k_is)
    (case k31 => k_is)
    (case a32 => k_is)
    (case l32 => k_is)
    (case c32 => k_is)
    (case k32 => k_is)
    (case a33 => k_is)
    (case l33 => k_is)
    (case c33 => k_is)
    (case k33 => k_is)
    (case a34 => k_is)
    (case l34 => k_is)
    (case c34 => k_is)
    (case k34 => k_is)
    (case a35 => k_is)
    (case l35 => k_is)
    (case c35 => k_is)
    (case k35 => k_is)
    (case a36 => k_is)
    (case l36 => k_is)
    (case c36 => k_is)
    (case k36 => k_is)
    (case a37 => k_is)
    (case l37 => k_is)
    (case c37 => k_is)
    (case k37 => k_is)
    (case a38 => k_is)
    (case l38 => k_is)
    (case c38 => k_is)
    (case k38 => k_is)
    (case a39 => k_is)
    (case l39 => k_is)
    (case c39 => k_is)
    (case k39 => k_is)
    (case a40 => k_is)
    (case l40 => k_is)
    (case c40 => k_is)
    (case k40 => k_is)
    (case a41 => k_is)
    (case l41 => k_is)
    (case c41 => k_is)
    (case k41 => k_is)
    (case a42 => k_is)
    (case l42 => k_is)
    (case c42 => k_is)
    (case k42 => k_is)
    (case a43 => k_is)
    (case l43 => k_is)
    (case c43 => k_is)
    (case k43 => k_is)
    (case a44 => k_is)
    (case l44 => k_is)
    (case c44 => k_is)
    (case k44 => k_is)
    (case a45 => k_is)
    (case l45 => k_is)
    (case c45 => k_is)
    (case k45 => k_is)
    (case a46 => k_is)
    (case l46 => k_is)
    (case c46 => k_is)
    (case k46 => k_is)
    (case a47 => k_is)
    (case l47 => k_is)
    (case c47 => k_is)
    (case k47 => k_is)
    (case a48 => k_is)
    (case l48 => k_is)
    (case c48 => k_is)
    (case k48 => k_is)
    (case a49 => k_is)
    (case l49 => k_is)
    (case c49 => k_is)
    (case k49 => k_is)
    (case a50 => k_is)
    (case l50 => k_is)
    (case c50 => k_is)
    (case k50 => k_is)
    (case a51 => k_is)
    (case l51 => k_is)
    (case c51 => k_is)
    (case k51 => k_is)
    (case z_len => k_is)
    (case z_range => k_is)
    (case z_abs => k_is)
    (case z_max => k_is)
    (case z_min => k_is)
    (case z_int => k_is)
    (case z_str => k_is)
    (case z_tuple => k_is)
    (case z_list => k_is)
    (case z_all => k_is)
    (case z_any => k_is)
    (case z_isinstance => k_is)
    (case z_divmod => k_is)
    (case z_sum => k_is)
    (case z_zip => k_is)
    (case z_enumerate => k_is)
    (case z_reversed => k_is)
    (case z_sorted => k_is)
    (case z_dict => k_is)
    (case z_set => k_is)
    (case z_bool => k_is)
    (case qa_FIRST_FREE => k_is)
    (case qa_PLUS => k_is)
    (case qa_ZONE => k_is)
    (case qa_RULES => k_is)
    (case ql_RULES => k_is)
    (case n_BadLine => k_is)
    (case n_Builder => k_is)
    (case n_LoftError => k_is)
    (case n_NoDeed => k_is)
    (case n_NoFit => k_is)
    (case n_NoLine => k_is)
    (case n_NoName => k_is)
    (case n_NoRow => k_is)
    (case n_NoRule => k_is)
    (case n_NoShape => k_is)
    (case n_NoTable => k_is)
    (case n_NoText => k_is)
    (case n_NothingDone => k_is)
    (case n_Nought => k_is)
    (case n_TooLong => k_is)
    (case n_Unlike => k_is)
    (case n_Wrong => k_is)
    (case fi17 => k_is)
    (case l17 => k_is)
    (case c17 => k_is)
    (case k17 => k_is)
    (case fn17 => k_is)
    (case fi18 => k_is)
    (case l18 => k_is)
    (case c18 => k_is)
    (case k18 => k_is)
    (case fn18 => k_is)
    (case fi19 => k_is)
    (case l19 => k_is)
    (case c19 => k_is)
    (case k19 => k_is)
    (case fn19 => k_is)
    (case fi20 => k_is)
    (case l20 => k_is)
    (case c20 => k_is)
    (case k20 => k_is)
    (case fn20 => k_is)
    (case fi21 => k_is)
    (case l21 => k_is)
    (case c21 => k_is)
    (case k21 => k_is)
    (case fn21 => k_is)
    (case fi22 => k_is)
    (case l22 => k_is)
    (case c22 => k_is)
    (case k22 => k_is)
    (case fn22 => k_is)
    (case fi24 => k_is)
    (case l24 => k_is)
    (case c24 => k_is)
    (case k24 => k_is)
    (case fn24 => k_is)
    (case fi25 => k_is)
    (case l25 => k_is)
    (case c25 => k_is)
    (case k25 => k_is)
    (case fn25 => k_is)
    (case fi27 => k_is)
    (case l27 => k_is)
    (case c27 => k_is)
    (case k27 => k_is)
    (case fn27 => k_is)
    (case g1_Builder => k_is)
    (case g2_Builder => k_is)
    (case g3_Builder => k_is)
    (case g4_Builder => k_is)
    (case g5_Builder_rows => k_is)
    (case g5_Builder_tables => k_is)
    (case g5_Builder_worths => k_is)
    (case g5_Builder_free => k_is)
    (case g6_Builder => k_is)
    (case g7_Builder => k_is)
    (case ut_ahead_of_last => k_is)
    (case uz_all_or_none => k_is)
    (case uz_fill => k_is)
    (case ut_five_on => k_is)
    (case ut_half_up => k_is)
    (case ut_high_half => k_is)
    (case uz_lacking => k_is)
    (case ut_last_figure => k_is)
    (case ut_low_half => k_is)
    (case ut_lowest_two => k_is)
    (case ut_nine_less => k_is)
    (case uz_none_or_all => k_is)
    (case uz_not_all => k_is)
    (case ut_one_of_none => k_is)
    (case ut_one_of_two => k_is)
    (case ut_one_or_none => k_is)
    (case uz_order_byte => k_is)
    (case uz_other_twos => k_is)
    (case uz_product_byte => k_is)
    (case ut_sign_below => k_is)
    (case ut_six_on => k_is)
    (case uz_ten_high => k_is)
    (case uz_ten_low => k_is)
    (case ut_ten_or_none => k_is)
    (case uz_top_two => k_is)
    (case b1_LoftError => k_is)
    (case b2_LoftError => k_is)
    (case b3_LoftError => k_is)
    (case l_NoRule => k_is)
    (case s_NoRule => k_is)
    (case e_NoRule => k_is)
    (case t_NoRule => k_is)
    (case p_NoRule => k_is)
    (case i_NoRule_ => k_is)
    (case j_NoRule => k_is)
    (case f_NoRule_rule => k_is)
    (case g_NoRule => k_is)
    (case h_NoRule_ => k_is)
    (case m_NoRule_ => k_is)
    (case l_TooLong => k_is)
    (case s_TooLong => k_is)
    (case e_TooLong => k_is)
    (case t_TooLong => k_is)
    (case p_TooLong => k_is)
    (case i_TooLong_ => k_is)
    (case j_TooLong => k_is)
    (case f_TooLong_number => k_is)
    (case g_TooLong => k_is)
    (case h_TooLong_ => k_is)
    (case m_TooLong_ => k_is)
    (case yxnog_ValueError => k_is)
    (case und => first | rfl | decide +kernel)
    (case yxxcf_NoRule_ => first | rfl | decide +kernel)
    (case yxxcf_TooLong_ => first | rfl | decide +kernel)
    (case yxkit_Wrong_NoRule_False => first | rfl | decide +kernel)
    (case yxkit_Wrong_TooLong_False => first | rfl | decide +kernel)
    (case yxkit_NoFit_NoRule_False => first | rfl | decide +kernel)
    (case yxkit_NoFit_TooLong_False => first | rfl | decide +kernel)
    (case yxkit_NoShape_NoRule_False => first | rfl | decide +kernel)
    (case yxkit_NoShape_TooLong_False => first | rfl | decide +kernel)
    (case yxkit_NoRow_NoRule_False => first | rfl | decide +kernel)
    (case yxkit_NoRow_TooLong_False => first | rfl | decide +kernel)
    (case yxkit_NoTable_NoRule_False => first | rfl | decide +kernel)
    (case yxkit_NoTable_TooLong_False => first | rfl | decide +kernel)
    (case yxkit_TooLong_NoRule_False => first | rfl | decide +kernel)
    (case yxkit_TooLong_TooLong_True => first | rfl | decide +kernel)
    (case yxkit_BadLine_NoRule_False => first | rfl | decide +kernel)
    (case yxkit_BadLine_TooLong_False => first | rfl | decide +kernel)
    (case yxkit_NoDeed_NoRule_False => first | rfl | decide +kernel)
    (case yxkit_NoDeed_TooLong_False => first | rfl | decide +kernel)
    (case yxkit_NoRule_NoRule_True => first | rfl | decide +kernel)
    (case yxkit_NoRule_TooLong_False => first | rfl | decide +kernel)
    (case yxkit_NoText_NoRule_False => first | rfl | decide +kernel)
    (case yxkit_NoText_TooLong_False => first | rfl | decide +kernel)
    (case yxkit_NoName_NoRule_False => first | rfl | decide +kernel)
    (case yxkit_NoName_TooLong_False => first | rfl | decide +kernel)
    (case yxkit_Unlike_NoRule_False => first | rfl | decide +kernel)
    (case yxkit_Unlike_TooLong_False => first | rfl | decide +kernel)
    (case yxkit_Nought_NoRule_False => first | rfl | decide +kernel)
    (case yxkit_Nought_TooLong_False => first | rfl | decide +kernel)
    (case yxkit_NothingDone_NoRule_False => first | rfl | decide +kernel)
    (case yxkit_NothingDone_TooLong_False => first | rfl | decide +kernel)
    (case yxkit_NoLine_NoRule_False => first | rfl | decide +kernel)
    (case yxkit_NoLine_TooLong_False => first | rfl | decide +kernel)
    (case yxkib_ValueError_NoRule => first | rfl | decide +kernel)
    (case yxkib_ValueError_TooLong => first | rfl | decide +kernel)
    (case yxkit_LoftError_NoRule_True => first | rfl | decide +kernel)
    (case yxkit_LoftError_TooLong_True => first | rfl | decide +kernel)
    (case yxext_LoftError_TooLong_True => first | rfl | decide +kernel)
    (case yxext_LoftError_NoRule_True => first | rfl | decide +kernel)
    (case yxxcf_TooLong_number_rule => first | rfl | decide +kernel)
    (case yxxcf_NoRule_number_rule => first | rfl | decide +kernel)
    (case qe_RULES => decide +kernel)
    (case qz_RULES => decide +kernel)
