import PyProof.Rows.All
import Wide.All
import OpenK.AllK
import Wide.FinOn
import HandS.ForMost
import HandS.ForExc
import HandS.Wide
import HandS.Evl
import HandS.TupAny
import HandS.TupMul
import HandS.NoneIn
import HandS.Zip
import HandS.IsInst
import HandS.Text
import HandS.StrMore
import HandS.Comp
import HandS.Style
import PyProof.StrOps2
import KE.GoesMore
import KE.GoesEnum
import KE.GoesZip
import HandS.ExcCtx
import HandS.ExcOwn
import HandS.ExcInit
import HandS.ExcIs
import HandS.ExcField
import HandS.Replace
import HandS.CallLocal
import HandS.WideBits
import HandS.Conv
import KE.GoesEnumKw
import PyProof.Rows.CallKwBuiltin
import HandS.HotCalls
import HandS.More
import HandS.RaiseMore
import HandS.TupLe
import HandS.Flt
import PySem.Challenge.RW_tensloft_k10_whole_kept_and_told
set_option Elab.async false
set_option linter.all false
set_option maxRecDepth 100000
set_option maxHeartbeats 2000000
namespace Tm
open PySem L2
inductive MV where
  | non | bl (b : Bool) | int (i : Int) | str (x : Str)
  | tup (xs : List MV) | lst (xs : List MV) | own (xs : List MV)
  | raw (v : V) | scr (ns : List Int)
  | fnc (x : Str)
  | obj (C : Str) (fs : List (Str × MV))
  | dct (ks : List Key) (xs : List MV)
  | dow (ks : List Key) (xs : List MV)
  | dot (ks : List (List Key)) (xs : List MV)
instance : Inhabited MV := ⟨.non⟩
abbrev Env := List (Option MV)
structure MX where
  cls : Str
  fs : List (Str × MV)
inductive Res (α : Type) where
  | ok (a : α) | exc (e : MX) (ρ : Env) | stuck
inductive Fl where
  | nx | br | ct | rt (x : MV)
open Evl (Ex ex_rd ex_l ex_t)
theorem _root_.Evl.Ex.back {H H' : Hp} {p : Addr} (e : Ex H H') (h : H' p = none) : H p = none := Evl.fresh_back e h
theorem _root_.Evl.Ex.both {H H' : Hp} {p : Addr} {o : HO} (e : Ex H H') (h : H' p = none) : Ex (upd H p o) (upd H' p o) := fun a u ha => by
  by_cases hp : a = p
  · subst hp; rw [upd_same] at ha ⊢; exact ha
  · rw [upd_ne hp] at ha ⊢; exact e a u ha
theorem _root_.Evl.Ex.updL {H H' : Hp} {p : Addr} {o : HO} (e : Ex H H') (h : H' p = some o) : Ex (upd H p o) H' := fun a u ha => by
  by_cases hp : a = p
  · subst hp; rw [upd_same] at ha; cases ha; exact h
  · rw [upd_ne hp] at ha; exact e a u ha
mutual
def RV (K : PySem.W.Frag) (H : Hp) : MV → V → Prop
  | .non, v => v = .non
  | .bl b, v => v = .bl b
  | .int i, v => v = .int i
  | .str x, v => v = .str x
  | .tup xs, v => ∃ a vs, v = .ref a ∧ SqT K H a vs ∧ RVs K H xs vs
  | .lst xs, v => ∃ a vs, v = .ref a ∧ H a = some (.lst vs) ∧ RVs K H xs vs
  | .own _, _ => False
  | .raw w, v => v = w
  | .scr ns, v => ∃ a, v = .ref a ∧ SqL K H a (ns.map V.int)
  | .fnc x, v => ∃ a, v = .ref a ∧ PySem.W.nsIn K mainGlobals x = some (some (.ref a))
  | .obj _ _, _ => False
  | .dct ks xs, v => ∃ a vs, v = .ref a ∧ H a = some (.dK (ks.zip vs)) ∧ ks.length = xs.length ∧ RVs K H xs vs
  | .dow _ _, _ => False
  | .dot _ _, _ => False
def RVs (K : PySem.W.Frag) (H : Hp) : List MV → List V → Prop
  | [], vs => vs = []
  | x :: xs, vs => ∃ v r, vs = v :: r ∧ RV K H x v ∧ RVs K H xs r
end
mutual
theorem RV.mono {K : PySem.W.Frag} {H H' : Hp} (e : Ex H H') : ∀ (x : MV) (v : V), RV K H x v → RV K H' x v
  | .non, v, h => by unfold RV at h ⊢; exact h
  | .bl b, v, h => by unfold RV at h ⊢; exact h
  | .int i, v, h => by unfold RV at h ⊢; exact h
  | .str x, v, h => by unfold RV at h ⊢; exact h
  | .tup xs, v, h => by
    unfold RV at h ⊢
    obtain ⟨a, vs, e1, e2, e3⟩ := h
    exact ⟨a, vs, e1, ex_t e e2, RVs.mono e xs vs e3⟩
  | .lst xs, v, h => by
    unfold RV at h ⊢
    obtain ⟨a, vs, e1, e2, e3⟩ := h
    exact ⟨a, vs, e1, e _ _ e2, RVs.mono e xs vs e3⟩
  | .own xs, v, h => by unfold RV at h; exact h.elim
  | .raw w, v, h => by unfold RV at h ⊢; exact h
  | .scr ns, v, h => by
    unfold RV at h ⊢
    obtain ⟨a, e1, e2⟩ := h
    exact ⟨a, e1, ex_l e e2⟩
  | .fnc x, v, h => by unfold RV at h ⊢; exact h
  | .obj C fs, v, h => by unfold RV at h; exact h.elim
  | .dct ks xs, v, h => by
    unfold RV at h ⊢
    obtain ⟨a, vs, e1, e2, e3, e4⟩ := h
    exact ⟨a, vs, e1, e _ _ e2, e3, RVs.mono e xs vs e4⟩
  | .dow ks xs, v, h => by unfold RV at h; exact h.elim
  | .dot ks xs, v, h => by unfold RV at h; exact h.elim
theorem RVs.mono {K : PySem.W.Frag} {H H' : Hp} (e : Ex H H') : ∀ (xs : List MV) (vs : List V), RVs K H xs vs → RVs K H' xs vs
  | [], vs, h => by unfold RVs at h ⊢; exact h
  | x :: xs, vs, h => by
    unfold RVs at h ⊢
    obtain ⟨v, r, e1, e2, e3⟩ := h
    exact ⟨v, r, e1, RV.mono e x v e2, RVs.mono e xs r e3⟩
end
section
variable {K : PySem.W.Frag} {H : Hp}
theorem RV.int {i : Int} {v : V} : RV K H (.int i) v ↔ v = .int i := by unfold RV; rfl
theorem RV.bl {i : Bool} {v : V} : RV K H (.bl i) v ↔ v = .bl i := by unfold RV; rfl
theorem RV.str {i : Str} {v : V} : RV K H (.str i) v ↔ v = .str i := by unfold RV; rfl
theorem RV.non {v : V} : RV K H .non v ↔ v = .non := by unfold RV; rfl
theorem RV.raw {w v : V} : RV K H (.raw w) v ↔ v = w := by unfold RV; rfl
theorem RV.tup {xs : List MV} {v : V} : RV K H (.tup xs) v ↔ ∃ a vs, v = .ref a ∧ SqT K H a vs ∧ RVs K H xs vs := by
  constructor <;> intro h <;> (unfold RV at *; exact h)
theorem RV.lst {xs : List MV} {v : V} : RV K H (.lst xs) v ↔ ∃ a vs, v = .ref a ∧ H a = some (.lst vs) ∧ RVs K H xs vs := by
  constructor <;> intro h <;> (unfold RV at *; exact h)
theorem RV.dct {ks : List Key} {xs : List MV} {v : V} : RV K H (.dct ks xs) v ↔ ∃ a vs, v = .ref a ∧ H a = some (.dK (ks.zip vs)) ∧ ks.length = xs.length ∧ RVs K H xs vs := by
  constructor <;> intro h <;> (unfold RV at *; exact h)
theorem RV.scr {ns : List Int} {v : V} : RV K H (.scr ns) v ↔ ∃ a, v = .ref a ∧ SqL K H a (ns.map V.int) := by
  constructor <;> intro h <;> (unfold RV at *; exact h)
theorem RV.fnc {x : Str} {v : V} : RV K H (.fnc x) v ↔ ∃ a, v = .ref a ∧ PySem.W.nsIn K mainGlobals x = some (some (.ref a)) := by
  constructor <;> intro h <;> (unfold RV at *; exact h)
theorem RVs.nil {vs : List V} : RVs K H [] vs ↔ vs = [] := by unfold RVs; rfl
theorem RVs.cons {x : MV} {xs : List MV} {vs : List V} : RVs K H (x :: xs) vs ↔ ∃ v r, vs = v :: r ∧ RV K H x v ∧ RVs K H xs r := by
  rw [RVs]
theorem RVs.length : ∀ {xs : List MV} {vs : List V}, RVs K H xs vs → vs.length = xs.length
  | [], vs, h => by rw [RVs.nil] at h; subst h; rfl
  | x :: xs, vs, h => by
    rw [RVs.cons] at h
    obtain ⟨v, r, rfl, _, h⟩ := h
    simp [RVs.length h]
theorem RVs.get : ∀ {xs : List MV} {vs : List V} {i : Nat} {x : MV}, RVs K H xs vs → xs[i]? = some x → ∃ v, vs[i]? = some v ∧ RV K H x v
  | [], _, i, x, _, e => by simp at e
  | y :: xs, vs, 0, x, h, e => by
    rw [RVs.cons] at h
    obtain ⟨v, r, rfl, h1, _⟩ := h
    simp at e; subst e; exact ⟨v, rfl, h1⟩
  | y :: xs, vs, i + 1, x, h, e => by
    rw [RVs.cons] at h
    obtain ⟨v, r, rfl, _, h⟩ := h
    obtain ⟨u, h1, h2⟩ := RVs.get (i := i) (x := x) h (by simpa using e)
    exact ⟨u, by simpa using h1, h2⟩
theorem RVs.append : ∀ {xs ys : List MV} {vs ws : List V}, RVs K H xs vs → RVs K H ys ws → RVs K H (xs ++ ys) (vs ++ ws)
  | [], ys, vs, ws, h, h2 => by rw [RVs.nil] at h; subst h; exact h2
  | x :: xs, ys, vs, ws, h, h2 => by
    rw [RVs.cons] at h
    obtain ⟨v, r, rfl, h1, h⟩ := h
    show RVs K H (x :: (xs ++ ys)) (v :: (r ++ ws))
    rw [RVs.cons]
    exact ⟨v, r ++ ws, rfl, h1, RVs.append h h2⟩
theorem RVs.take : ∀ {xs : List MV} {vs : List V} (n : Nat), RVs K H xs vs → RVs K H (xs.take n) (vs.take n)
  | _, _, 0, _ => by simp [RVs]
  | [], vs, n + 1, h => by rw [RVs.nil] at h; subst h; simp [RVs]
  | x :: xs, vs, n + 1, h => by
    rw [RVs.cons] at h
    obtain ⟨v, r, rfl, h1, h⟩ := h
    show RVs K H (x :: xs.take n) (v :: r.take n)
    rw [RVs.cons]
    exact ⟨v, _, rfl, h1, RVs.take n h⟩
theorem RVs.drop : ∀ {xs : List MV} {vs : List V} (n : Nat), RVs K H xs vs → RVs K H (xs.drop n) (vs.drop n)
  | _, _, 0, h => h
  | [], vs, n + 1, h => by rw [RVs.nil] at h; subst h; simp [RVs]
  | x :: xs, vs, n + 1, h => by
    rw [RVs.cons] at h
    obtain ⟨v, r, rfl, h1, h⟩ := h
    exact RVs.drop n h
theorem RVs.set : ∀ {xs : List MV} {vs : List V} (i : Nat) {x : MV} {v : V}, RVs K H xs vs → RV K H x v → RVs K H (xs.set i x) (vs.set i v)
  | [], vs, i, x, v, h, _ => by rw [RVs.nil] at h; subst h; simp [RVs]
  | y :: xs, vs, 0, x, v, h, h2 => by
    rw [RVs.cons] at h
    obtain ⟨u, r, rfl, h1, h⟩ := h
    show RVs K H (x :: xs) (v :: r)
    rw [RVs.cons]; exact ⟨v, r, rfl, h2, h⟩
  | y :: xs, vs, i + 1, x, v, h, h2 => by
    rw [RVs.cons] at h
    obtain ⟨u, r, rfl, h1, h⟩ := h
    show RVs K H (y :: xs.set i x) (u :: r.set i v)
    rw [RVs.cons]; exact ⟨u, _, rfl, h1, RVs.set i h h2⟩
theorem RVs.reverse : ∀ {xs : List MV} {vs : List V}, RVs K H xs vs → RVs K H xs.reverse vs.reverse
  | [], vs, h => by rw [RVs.nil] at h; subst h; simp [RVs]
  | x :: xs, vs, h => by
    rw [RVs.cons] at h
    obtain ⟨v, r, rfl, h1, h⟩ := h
    rw [List.reverse_cons, List.reverse_cons]
    refine RVs.append (RVs.reverse h) ?_
    rw [RVs.cons]; exact ⟨v, [], rfl, h1, RVs.nil.mpr rfl⟩
theorem RVs.ints : ∀ {ns : List Int} {vs : List V}, RVs K H (ns.map MV.int) vs ↔ vs = ns.map V.int
  | [], vs => RVs.nil
  | n :: ns, vs => by
    rw [List.map_cons, RVs.cons]
    constructor
    · rintro ⟨v, r, rfl, h1, h2⟩
      rw [RV.int.mp h1, RVs.ints.mp h2]; rfl
    · rintro rfl
      exact ⟨_, _, rfl, RV.int.mpr rfl, RVs.ints.mpr rfl⟩
end
def OF (K : PySem.W.Frag) (Hk H : Hp) : MV → V → List Addr → Prop
  | .own xs, v, A => ∃ p vs, v = .ref p ∧ A = [p] ∧ H p = some (.lst vs) ∧ RVs K Hk xs vs
  | .dow ks xs, v, A => ∃ p vs, v = .ref p ∧ A = [p] ∧ H p = some (.dK (ks.zip vs)) ∧ ks.length = xs.length ∧ RVs K Hk xs vs
  | .dot ks xs, v, A => ∃ p vs, v = .ref p ∧ A = [p] ∧ H p = some (.dT (ks.zip vs)) ∧ ks.length = xs.length ∧ RVs K Hk xs vs
  | x, v, A => A = [] ∧ RV K Hk x v
def OFs (K : PySem.W.Frag) (Hk H : Hp) : List (Str × MV) → List (Str × V) → List Addr → Prop
  | [], vs, A => vs = [] ∧ A = []
  | (n, x) :: xs, vs, A => ∃ v r B C, vs = (n, v) :: r ∧ A = B ++ C ∧ OF K Hk H x v B ∧ OFs K Hk H xs r C
def OV (K : PySem.W.Frag) (Hk H : Hp) : MV → V → List Addr → Prop
  | .obj C fs, v, A => ∃ p CA dx vfs B, v = .ref p ∧ A = p :: B ∧ PySem.W.nsIn K mainGlobals C = some (some (.ref CA)) ∧ H p = some (.ins CA dx vfs) ∧ OFs K Hk H fs vfs B ∧ (p :: B).Nodup
  | x, v, A => OF K Hk H x v A
def MV.per : MV → Bool
  | .own _ => false
  | .obj _ _ => false
  | .dow _ _ => false
  | .dot _ _ => false
  | _ => true
theorem OF.per {K : PySem.W.Frag} {Hk H : Hp} {x : MV} {v : V} {A : List Addr} (h : x.per = true) : OF K Hk H x v A ↔ A = [] ∧ RV K Hk x v := by
  cases x <;> first | (simp [MV.per] at h; done) | (unfold OF; rfl)
theorem OV.per {K : PySem.W.Frag} {Hk H : Hp} {x : MV} {v : V} {A : List Addr} (h : x.per = true) : OV K Hk H x v A ↔ A = [] ∧ RV K Hk x v := by
  cases x <;> first | (simp [MV.per] at h; done) | (unfold OV OF; rfl)
theorem OV.own {K : PySem.W.Frag} {Hk H : Hp} {xs : List MV} {v : V} {A : List Addr} : OV K Hk H (.own xs) v A ↔ ∃ p vs, v = .ref p ∧ A = [p] ∧ H p = some (.lst vs) ∧ RVs K Hk xs vs := by
  unfold OV OF; rfl
theorem RV.isper {K : PySem.W.Frag} {H : Hp} {x : MV} {v : V} (h : RV K H x v) : x.per = true := by
  cases x <;> first | rfl | (unfold RV at h; exact h.elim)
theorem RV.ov {K : PySem.W.Frag} {Hk H : Hp} {x : MV} {v : V} (h : RV K Hk x v) : OV K Hk H x v [] := (OV.per h.isper).mpr ⟨rfl, h⟩
theorem OF.move {K : PySem.W.Frag} {Hk Hk' H H' : Hp} {x : MV} {v : V} {A : List Addr} (h : OF K Hk H x v A) (e : Ex Hk Hk') (k : ∀ a ∈ A, ∀ o, H a = some o → H' a = some o) : OF K Hk' H' x v A := by
  cases x with
  | own xs =>
    unfold OF at h ⊢
    obtain ⟨p, vs, e1, e2, e3, e4⟩ := h
    exact ⟨p, vs, e1, e2, k p (by rw [e2]; simp) _ e3, e4.mono e⟩
  | dow ks xs =>
    unfold OF at h ⊢
    obtain ⟨p, vs, e1, e2, e3, e5, e4⟩ := h
    exact ⟨p, vs, e1, e2, k p (by rw [e2]; simp) _ e3, e5, e4.mono e⟩
  | dot ks xs =>
    unfold OF at h ⊢
    obtain ⟨p, vs, e1, e2, e3, e5, e4⟩ := h
    exact ⟨p, vs, e1, e2, k p (by rw [e2]; simp) _ e3, e5, e4.mono e⟩
  | obj C fs => exact (show False by unfold OF at h; unfold RV at h; exact h.2).elim
  | _ =>
    unfold OF at h ⊢
    exact ⟨h.1, RV.mono e _ _ h.2⟩
theorem OFs.move {K : PySem.W.Frag} {Hk Hk' H H' : Hp} : ∀ {fs : List (Str × MV)} {vs : List (Str × V)} {A : List Addr}, OFs K Hk H fs vs A → Ex Hk Hk' → (∀ a ∈ A, ∀ o, H a = some o → H' a = some o) → OFs K Hk' H' fs vs A
  | [], _, _, h, _, _ => h
  | (n, x) :: fs, vs, A, h, e, k => by
    obtain ⟨v, r, B, C, e1, e2, h1, h2⟩ := h
    refine ⟨v, r, B, C, e1, e2, h1.move e fun a ha => k a (by rw [e2]; exact List.mem_append_left _ ha), OFs.move h2 e fun a ha => k a (by rw [e2]; exact List.mem_append_right _ ha)⟩
theorem OV.move {K : PySem.W.Frag} {Hk Hk' H H' : Hp} {x : MV} {v : V} {A : List Addr} (h : OV K Hk H x v A) (e : Ex Hk Hk') (k : ∀ a ∈ A, ∀ o, H a = some o → H' a = some o) : OV K Hk' H' x v A := by
  cases x with
  | obj C fs =>
    unfold OV at h ⊢
    obtain ⟨p, CA, dx, vfs, B, e1, e2, e0, e3, e4, e5⟩ := h
    exact ⟨p, CA, dx, vfs, B, e1, e2, e0, k p (by rw [e2]; simp) _ e3, OFs.move e4 e fun a ha => k a (by rw [e2]; exact List.mem_cons_of_mem _ ha), e5⟩
  | _ => (unfold OV at h ⊢; exact OF.move h e k)
theorem OF.there {K : PySem.W.Frag} {Hk H : Hp} {x : MV} {v : V} {A : List Addr} (h : OF K Hk H x v A) : ∀ a ∈ A, ∃ o, H a = some o := by
  cases x with
  | own xs =>
    unfold OF at h
    obtain ⟨p, vs, e1, e2, e3, e4⟩ := h
    intro a ha
    rw [e2] at ha
    simp at ha
    subst ha
    exact ⟨_, e3⟩
  | dow ks xs =>
    unfold OF at h
    obtain ⟨p, vs, e1, e2, e3, e5, e4⟩ := h
    intro a ha
    rw [e2] at ha
    simp at ha
    subst ha
    exact ⟨_, e3⟩
  | dot ks xs =>
    unfold OF at h
    obtain ⟨p, vs, e1, e2, e3, e5, e4⟩ := h
    intro a ha
    rw [e2] at ha
    simp at ha
    subst ha
    exact ⟨_, e3⟩
  | _ =>
    unfold OF at h
    intro a ha
    rw [h.1] at ha
    cases ha
theorem OFs.there {K : PySem.W.Frag} {Hk H : Hp} : ∀ {fs : List (Str × MV)} {vs : List (Str × V)} {A : List Addr}, OFs K Hk H fs vs A → ∀ a ∈ A, ∃ o, H a = some o
  | [], _, _, h, a, ha => by rw [h.2] at ha; cases ha
  | (n, x) :: fs, vs, A, h, a, ha => by
    obtain ⟨v, r, B, C, e1, e2, h1, h2⟩ := h
    rw [e2] at ha
    rcases List.mem_append.mp ha with ha | ha
    · exact h1.there a ha
    · exact OFs.there h2 a ha
theorem OV.there {K : PySem.W.Frag} {Hk H : Hp} {x : MV} {v : V} {A : List Addr} (h : OV K Hk H x v A) : ∀ a ∈ A, ∃ o, H a = some o := by
  cases x with
  | obj C fs =>
    unfold OV at h
    obtain ⟨p, CA, dx, vfs, B, e1, e2, e0, e3, e4, e5⟩ := h
    intro a ha
    rw [e2] at ha
    rcases List.mem_cons.mp ha with rfl | ha
    · exact ⟨_, e3⟩
    · exact OFs.there e4 a ha
  | _ => (unfold OV at h; exact OF.there h)
def put (ow : Nat → List Addr) (i : Nat) (A : List Addr) : Nat → List Addr := fun j => if j = i then A else ow j
theorem put_same {ow : Nat → List Addr} {i : Nat} {A : List Addr} : put ow i A i = A := if_pos rfl
theorem put_ne {ow : Nat → List Addr} {i j : Nat} {A : List Addr} (h : j ≠ i) : put ow i A j = ow j := if_neg h
structure SL (K : PySem.W.Frag) (F Hk H : Hp) (ow : Nat → List Addr) (σ : St) (ρ : Env) : Prop where
  s : ∀ (i : Nat) x, ρ[i]? = some (some x) → ∃ v, σ[i]? = some (some v) ∧ OV K Hk H x v (ow i)
  f : ∀ i a, a ∈ ow i → Hk a = none ∧ F a = none ∧ ∃ o, H a = some o
  w : ∀ i, ow i ≠ [] → i < ρ.length
  d : ∀ i j a, i ≠ j → a ∈ ow i → a ∉ ow j
structure RS (K : PySem.W.Frag) (F Hk H : Hp) (bp : List (Nat × Addr)) (σ : St) (ρ : Env) : Prop where
  len : σ.length = ρ.length
  ex : Ex Hk H
  fr : Ex F H
  frk : ∀ a o, F a = some o → Hk a = none
  ow : ∃ ow, SL K F Hk H ow σ ρ
  bor : ∀ q ∈ bp, σ[q.1]? = some (some (.ref q.2))
theorem set_get {α : Type} {l : List α} {i j : Nat} {x y : α} (h : (l.set i x)[j]? = some y) : (j = i ∧ y = x) ∨ (j ≠ i ∧ l[j]? = some y) := by
  by_cases e : i = j
  · subst e
    rw [List.getElem?_set] at h
    simp at h
    exact .inl ⟨rfl, h.2.symm⟩
  · rw [List.getElem?_set_ne e] at h
    exact .inr ⟨fun q => e q.symm, h⟩
theorem app_get {α : Type} {l : List α} {j : Nat} {x y : α} (h : (l ++ [x])[j]? = some y) : (j = l.length ∧ y = x) ∨ (j < l.length ∧ l[j]? = some y) := by
  by_cases e : j < l.length
  · rw [List.getElem?_append_left e] at h; exact .inr ⟨e, h⟩
  · rw [List.getElem?_append_right (Nat.le_of_not_lt e)] at h
    have := (List.getElem?_eq_some_iff.mp h).1
    simp at this
    have ej : j = l.length := by omega
    subst ej
    simp at h
    exact .inl ⟨rfl, h.symm⟩
theorem lt_get {α : Type} {l : List α} {j : Nat} {y : α} (h : l[j]? = some y) : j < l.length := (List.getElem?_eq_some_iff.mp h).1
section
variable {K : PySem.W.Frag} {F Hk Hk' H H' : Hp} {bp : List (Nat × Addr)} {σ : St} {ρ : Env} {ow : Nat → List Addr}
theorem SL.out (S : SL K F Hk H ow σ ρ) {i : Nat} (h : ρ.length ≤ i) : ow i = [] := by
  cases e : ow i with
  | nil => rfl
  | cons a r => exact absurd (S.w i (by rw [e]; simp)) (by omega)
theorem SL.fresh (S : SL K F Hk H ow σ ρ) {p : Addr} (h : H p = none) (i : Nat) : p ∉ ow i := fun m => by
  obtain ⟨_, _, o, e⟩ := S.f i p m
  rw [h] at e; cases e
theorem SL.step (S : SL K F Hk H ow σ ρ) (e : Ex Hk Hk') (k : ∀ i, ∀ a ∈ ow i, H' a = H a ∧ Hk' a = none) : SL K F Hk' H' ow σ ρ := by
  refine ⟨fun i x h => ?_, fun i a h => ?_, S.w, S.d⟩
  · obtain ⟨v, ev, o⟩ := S.s i x h
    exact ⟨v, ev, o.move e fun a ha u hu => by rw [(k i a ha).1]; exact hu⟩
  · obtain ⟨f1, f2, o, f3⟩ := S.f i a h
    exact ⟨(k i a h).2, f2, o, by rw [(k i a h).1]; exact f3⟩
theorem SL.set (S : SL K F Hk H ow σ ρ) (hl : σ.length = ρ.length) {i : Nat} {x : MV} {v : V} (hi : i < ρ.length) (r : RV K Hk x v) : SL K F Hk H (put ow i []) (σ.set i (some v)) (ρ.set i (some x)) := by
  refine ⟨fun j y h => ?_, fun j a h => ?_, fun j h => ?_, fun j k a hjk h => ?_⟩
  · rcases set_get h with ⟨rfl, e⟩ | ⟨ne, e⟩
    · cases e
      refine ⟨v, by rw [List.getElem?_set_self (by rw [hl]; exact hi)], ?_⟩
      rw [put_same]; exact r.ov
    · obtain ⟨u, e1, e2⟩ := S.s j y e
      exact ⟨u, by rw [List.getElem?_set_ne (Ne.symm ne)]; exact e1, by rw [put_ne ne]; exact e2⟩
  · by_cases e : j = i
    · rw [e, put_same] at h; cases h
    · rw [put_ne e] at h; exact S.f j a h
  · by_cases e : j = i
    · rw [e, put_same] at h; exact (h rfl).elim
    · rw [put_ne e] at h; rw [List.length_set]; exact S.w j h
  · by_cases e : j = i
    · rw [e, put_same] at h; cases h
    · rw [put_ne e] at h
      by_cases e2 : k = i
      · rw [e2, put_same]; simp
      · rw [put_ne e2]; exact S.d j k a hjk h
theorem SL.push (S : SL K F Hk H ow σ ρ) (hl : σ.length = ρ.length) {x : MV} {v : V} {A : List Addr} (o : OV K Hk H x v A) (hf : ∀ a ∈ A, Hk a = none ∧ F a = none) (hd : ∀ i, ∀ a ∈ A, a ∉ ow i) :
    SL K F Hk H (put ow ρ.length A) (σ ++ [some v]) (ρ ++ [some x]) := by
  refine ⟨fun j y h => ?_, fun j a h => ?_, fun j h => ?_, fun j k a hjk h => ?_⟩
  · rcases app_get h with ⟨rfl, e⟩ | ⟨lt, e⟩
    · cases e
      refine ⟨v, by rw [← hl]; simp, ?_⟩
      rw [put_same]; exact o
    · obtain ⟨u, e1, e2⟩ := S.s j y e
      exact ⟨u, by rw [List.getElem?_append_left (by rw [hl]; exact lt)]; exact e1, by rw [put_ne (Nat.ne_of_lt lt)]; exact e2⟩
  · by_cases e : j = ρ.length
    · rw [e, put_same] at h; exact ⟨(hf a h).1, (hf a h).2, o.there a h⟩
    · rw [put_ne e] at h; exact S.f j a h
  · by_cases e : j = ρ.length
    · rw [e]; simp
    · rw [put_ne e] at h; have := S.w j h; simp; omega
  · by_cases e : j = ρ.length
    · rw [e, put_same] at h
      rw [put_ne (fun z => hjk (e.trans z.symm))]
      exact hd k a h
    · rw [put_ne e] at h
      by_cases e2 : k = ρ.length
      · rw [e2, put_same]; exact fun z => hd j a z h
      · rw [put_ne e2]; exact S.d j k a hjk h
theorem SL.take (S : SL K F Hk H ow (σ ++ [some v]) (ρ ++ [some x])) (hl : σ.length = ρ.length) {i : Nat} (hi : i < ρ.length) : SL K F Hk H (put (put ow i (ow ρ.length)) ρ.length []) (σ.set i (some v)) (ρ.set i (some x)) := by
  have ne : i ≠ ρ.length := Nat.ne_of_lt hi
  obtain ⟨u, hu, ou⟩ := S.s ρ.length x (by simp)
  have ev : u = v := by rw [← hl] at hu; simpa using hu.symm
  subst ev
  have lt : ∀ j a, a ∈ put (put ow i (ow ρ.length)) ρ.length [] j → (j = i ∧ a ∈ ow ρ.length) ∨ (j ≠ i ∧ j < ρ.length ∧ a ∈ ow j) := fun j a h => by
    by_cases e : j = ρ.length
    · rw [e, put_same] at h; cases h
    · rw [put_ne e] at h
      by_cases e2 : j = i
      · rw [e2, put_same] at h; exact .inl ⟨e2, h⟩
      · rw [put_ne e2] at h
        have := S.w j (by intro z; rw [z] at h; cases h)
        simp at this
        exact .inr ⟨e2, by omega, h⟩
  refine ⟨fun j y h => ?_, fun j a h => ?_, fun j h => ?_, fun j k a hjk h => ?_⟩
  · rcases set_get h with ⟨rfl, e⟩ | ⟨ne2, e⟩
    · cases e
      refine ⟨u, by rw [List.getElem?_set_self (by rw [hl]; exact hi)], ?_⟩
      rw [put_ne ne, put_same]; exact ou
    · have lj := lt_get e
      obtain ⟨w, e1, e2⟩ := S.s j y (by rw [List.getElem?_append_left lj]; exact e)
      rw [List.getElem?_append_left (by rw [hl]; exact lj)] at e1
      exact ⟨w, by rw [List.getElem?_set_ne (Ne.symm ne2)]; exact e1, by rw [put_ne (Nat.ne_of_lt lj), put_ne ne2]; exact e2⟩
  · rcases lt j a h with ⟨_, m⟩ | ⟨_, _, m⟩
    · exact S.f _ a m
    · exact S.f _ a m
  · rw [List.length_set]
    cases e : put (put ow i (ow ρ.length)) ρ.length [] j with
    | nil => exact (h e).elim
    | cons a r =>
      rcases lt j a (by rw [e]; simp) with ⟨e, _⟩ | ⟨_, l, _⟩
      · rw [e]; exact hi
      · exact l
  · intro hk
    rcases lt j a h with ⟨e1, m⟩ | ⟨e1, l1, m⟩ <;> rcases lt k a hk with ⟨e2, m2⟩ | ⟨e2, l2, m2⟩
    · exact hjk (e1.trans e2.symm)
    · exact S.d ρ.length k a (by omega) m m2
    · exact S.d j ρ.length a (by omega) m m2
    · exact S.d j k a hjk m m2
theorem SL.drop (S : SL K F Hk H ow (σ ++ [y]) (ρ ++ [x])) (hl : σ.length = ρ.length) : SL K F Hk H (put ow ρ.length []) σ ρ := by
  refine ⟨fun j y h => ?_, fun j a h => ?_, fun j h => ?_, fun j k a hjk h => ?_⟩
  · have lj := lt_get h
    obtain ⟨w, e1, e2⟩ := S.s j y (by rw [List.getElem?_append_left lj]; exact h)
    rw [List.getElem?_append_left (by rw [hl]; exact lj)] at e1
    exact ⟨w, e1, by rw [put_ne (Nat.ne_of_lt lj)]; exact e2⟩
  · by_cases e : j = ρ.length
    · rw [e, put_same] at h; cases h
    · rw [put_ne e] at h; exact S.f j a h
  · by_cases e : j = ρ.length
    · rw [e, put_same] at h; exact (h rfl).elim
    · rw [put_ne e] at h; have := S.w j h; simp at this; omega
  · by_cases e : j = ρ.length
    · rw [e, put_same] at h; cases h
    · rw [put_ne e] at h
      by_cases e2 : k = ρ.length
      · rw [e2, put_same]; simp
      · rw [put_ne e2]; exact S.d j k a hjk h
theorem RS.get (S : RS K F Hk H bp σ ρ) {i : Nat} {x : MV} (h : ρ[i]? = some (some x)) (hp : x.per = true) : ∃ v, σ[i]? = some (some v) ∧ RV K Hk x v := by
  obtain ⟨ow, s⟩ := S.ow
  obtain ⟨v, e, o⟩ := s.s i x h
  exact ⟨v, e, ((OV.per hp).mp o).2⟩
theorem RS.getOwn (S : RS K F Hk H bp σ ρ) {i : Nat} {xs : List MV} (h : ρ[i]? = some (some (.own xs))) : ∃ p vs, σ[i]? = some (some (.ref p)) ∧ H p = some (.lst vs) ∧ RVs K Hk xs vs ∧ Hk p = none ∧ F p = none := by
  obtain ⟨ow, s⟩ := S.ow
  obtain ⟨v, e, o⟩ := s.s i _ h
  obtain ⟨p, vs, e1, e2, e3, e4⟩ := OV.own.mp o
  have m : p ∈ ow i := by rw [e2]; simp
  exact ⟨p, vs, by rw [e, e1], e3, e4, (s.f i p m).1, (s.f i p m).2.1⟩
theorem RS.step (S : RS K F Hk H bp σ ρ) (e : Ex Hk Hk') (e' : Ex Hk' H') (k : ∀ a o, Hk a = none → H a = some o → H' a = some o ∧ Hk' a = none) : RS K F Hk' H' bp σ ρ := by
  obtain ⟨ow, s⟩ := S.ow
  refine ⟨S.len, e', fun a o h => (k a o (S.frk a o h) (S.fr a o h)).1, fun a o h => (k a o (S.frk a o h) (S.fr a o h)).2, ⟨ow, s.step e fun i a h => ?_⟩, S.bor⟩
  obtain ⟨f1, _, o, f2⟩ := s.f i a h
  exact ⟨((k a o f1 f2).1).trans f2.symm, (k a o f1 f2).2⟩
theorem RS.new (S : RS K F Hk H bp σ ρ) {p : Addr} {o : HO} (h : H p = none) : RS K F (upd Hk p o) (upd H p o) bp σ ρ :=
  S.step (Ex.new (S.ex.back h)) (S.ex.both h) fun a u hk ha => by
    have ne := ne_of_none ha h
    rw [upd_ne ne, upd_ne ne]
    exact ⟨ha, hk⟩
theorem RS.more (S : RS K F Hk H bp σ ρ) {p : Addr} {o : HO} (h : H p = none) : RS K F Hk (upd H p o) bp σ ρ :=
  S.step (Ex.refl _) (S.ex.mut (S.ex.back h)) fun a u hk ha => by
    rw [upd_ne (ne_of_none ha h)]
    exact ⟨ha, hk⟩
theorem RS.set (S : RS K F Hk H bp σ ρ) {i : Nat} {x : MV} {v : V} (hi : i < ρ.length) (r : RV K Hk x v) (hb : ∀ q ∈ bp, q.1 ≠ i) : RS K F Hk H bp (σ.set i (some v)) (ρ.set i (some x)) := by
  obtain ⟨ow, s⟩ := S.ow
  exact ⟨by simp [S.len], S.ex, S.fr, S.frk, ⟨_, s.set S.len hi r⟩, fun q hq => by rw [List.getElem?_set_ne (Ne.symm (hb q hq))]; exact S.bor q hq⟩
theorem RS.bor_app (S : RS K F Hk H bp σ ρ) (y : Option V) : ∀ q ∈ bp, (σ ++ [y])[q.1]? = some (some (.ref q.2)) := fun q hq => by
  have q1 := S.bor q hq
  rw [List.getElem?_append_left (lt_get q1)]; exact q1
theorem RS.push (S : RS K F Hk H bp σ ρ) {x : MV} {v : V} (r : RV K Hk x v) : RS K F Hk H bp (σ ++ [some v]) (ρ ++ [some x]) := by
  obtain ⟨ow, s⟩ := S.ow
  exact ⟨by simp [S.len], S.ex, S.fr, S.frk, ⟨_, s.push S.len r.ov (fun _ h => nomatch h) (fun _ _ h => nomatch h)⟩, S.bor_app _⟩
theorem RS.pushOwn (S : RS K F Hk H bp σ ρ) {p : Addr} {xs : List MV} {vs : List V} (h : H p = none) (r : RVs K Hk xs vs) : RS K F Hk (upd H p (.lst vs)) bp (σ ++ [some (.ref p)]) (ρ ++ [some (.own xs)]) := by
  obtain ⟨ow, s⟩ := S.ow
  have S' := S.more (o := .lst vs) h
  have s' : SL K F Hk (upd H p (.lst vs)) ow σ ρ := s.step (Ex.refl _) fun i a ha => by
    obtain ⟨f1, f2, o, f3⟩ := s.f i a ha
    exact ⟨upd_ne (ne_of_none f3 h), f1⟩
  have fp : F p = none := by
    cases e : F p with
    | none => rfl
    | some o => have := S.fr p o e; rw [h] at this; cases this
  refine ⟨by simp [S.len], S'.ex, S'.fr, S'.frk, ⟨_, s'.push S.len (A := [p]) (OV.own.mpr ⟨p, vs, rfl, rfl, upd_same, r⟩) (fun a ha => ?_) (fun i a ha => ?_)⟩, S.bor_app _⟩
  · simp at ha; subst ha; exact ⟨S.ex.back h, fp⟩
  · simp at ha; subst ha; exact s.fresh h i
theorem RS.take {v : V} {x : MV} (S : RS K F Hk H bp (σ ++ [some v]) (ρ ++ [some x])) {i : Nat} (hi : i < ρ.length) (hb : ∀ q ∈ bp, q.1 ≠ i ∧ q.1 < ρ.length) : RS K F Hk H bp (σ.set i (some v)) (ρ.set i (some x)) := by
  obtain ⟨ow, s⟩ := S.ow
  have hl : σ.length = ρ.length := by have := S.len; simpa using this
  refine ⟨by simp [hl], S.ex, S.fr, S.frk, ⟨_, s.take hl hi⟩, fun q hq => ?_⟩
  have q1 := S.bor q hq
  rw [List.getElem?_append_left (by rw [hl]; exact (hb q hq).2)] at q1
  rw [List.getElem?_set_ne (Ne.symm (hb q hq).1)]; exact q1
theorem RS.drop {y : Option V} {x : Option MV} (S : RS K F Hk H bp (σ ++ [y]) (ρ ++ [x])) (hb : ∀ q ∈ bp, q.1 < ρ.length) : RS K F Hk H bp σ ρ := by
  obtain ⟨ow, s⟩ := S.ow
  have hl : σ.length = ρ.length := by have := S.len; simpa using this
  refine ⟨hl, S.ex, S.fr, S.frk, ⟨_, s.drop hl⟩, fun q hq => ?_⟩
  have q1 := S.bor q hq
  rw [List.getElem?_append_left (by rw [hl]; exact hb q hq)] at q1
  exact q1
theorem RS.freeze (S : RS K F Hk H bp σ ρ) {i : Nat} {xs : List MV} (h : ρ[i]? = some (some (.own xs))) :
    ∃ p vs, σ[i]? = some (some (.ref p)) ∧ Ex Hk (upd Hk p (.lst vs)) ∧ RV K (upd Hk p (.lst vs)) (.lst xs) (.ref p) ∧ RS K F (upd Hk p (.lst vs)) H bp σ (ρ.set i (some (.lst xs))) := by
  obtain ⟨ow, s⟩ := S.ow
  obtain ⟨v, ev, o⟩ := s.s i _ h
  obtain ⟨p, vs, e1, e2, e3, e4⟩ := OV.own.mp o
  have m : p ∈ ow i := by rw [e2]; simp
  obtain ⟨f1, f2, _⟩ := s.f i p m
  have ex : Ex Hk (upd Hk p (.lst vs)) := Ex.new f1
  have rv : RV K (upd Hk p (.lst vs)) (.lst xs) (.ref p) := RV.lst.mpr ⟨p, vs, rfl, upd_same, e4.mono ex⟩
  have li := lt_get h
  refine ⟨p, vs, by rw [ev, e1], ex, rv, by simp [S.len], S.ex.updL e3, S.fr, fun a u ha => ?_, ⟨put ow i [], ?_⟩, S.bor⟩
  · rw [upd_ne (ne_of_none ha f2)]; exact S.frk a u ha
  · refine ⟨fun j y hj => ?_, fun j a hj => ?_, fun j hj => ?_, fun j k a hjk hj => ?_⟩
    · rcases set_get hj with ⟨rfl, e⟩ | ⟨ne, e⟩
      · cases e
        exact ⟨v, ev, by rw [put_same, e1]; exact rv.ov⟩
      · obtain ⟨u, u1, u2⟩ := s.s j y e
        exact ⟨u, u1, by rw [put_ne ne]; exact u2.move ex fun _ _ _ z => z⟩
    · by_cases e : j = i
      · rw [e, put_same] at hj; cases hj
      · rw [put_ne e] at hj
        obtain ⟨g1, g2⟩ := s.f j a hj
        refine ⟨?_, g2⟩
        rw [upd_ne (fun z => s.d j i a e hj (by rw [z]; exact m))]; exact g1
    · by_cases e : j = i
      · rw [e, put_same] at hj; exact (hj rfl).elim
      · rw [put_ne e] at hj; rw [List.length_set]; exact s.w j hj
    · by_cases e : j = i
      · rw [e, put_same] at hj; cases hj
      · rw [put_ne e] at hj
        by_cases e2 : k = i
        · rw [e2, put_same]; simp
        · rw [put_ne e2]; exact s.d j k a hjk hj
theorem RS.change (S : RS K F Hk H bp σ ρ) {i : Nat} {xs ys : List MV} (h : ρ[i]? = some (some (.own xs))) :
    ∃ p vs, σ[i]? = some (some (.ref p)) ∧ H p = some (.lst vs) ∧ RVs K Hk xs vs ∧ ∀ ws, RVs K Hk ys ws → RS K F Hk (upd H p (.lst ws)) bp σ (ρ.set i (some (.own ys))) := by
  obtain ⟨ow, s⟩ := S.ow
  obtain ⟨v, ev, o⟩ := s.s i _ h
  obtain ⟨p, vs, e1, e2, e3, e4⟩ := OV.own.mp o
  have m : p ∈ ow i := by rw [e2]; simp
  obtain ⟨f1, f2, _⟩ := s.f i p m
  refine ⟨p, vs, by rw [ev, e1], e3, e4, fun ws r => ⟨by simp [S.len], S.ex.mut f1, S.fr.mut f2, S.frk, ⟨ow, ?_⟩, S.bor⟩⟩
  refine ⟨fun j y hj => ?_, fun j a hj => ?_, fun j hj => by rw [List.length_set]; exact s.w j hj, s.d⟩
  · rcases set_get hj with ⟨rfl, e⟩ | ⟨ne, e⟩
    · cases e
      exact ⟨v, ev, OV.own.mpr ⟨p, ws, e1, e2, upd_same, r⟩⟩
    · obtain ⟨u, u1, u2⟩ := s.s j y e
      exact ⟨u, u1, u2.move (Ex.refl _) fun a ha o ho => by rw [upd_ne (fun z => s.d j i a ne ha (by rw [z]; exact m))]; exact ho⟩
  · obtain ⟨g1, g2, o, g3⟩ := s.f j a hj
    by_cases e : a = p
    · subst e; exact ⟨g1, g2, _, upd_same⟩
    · exact ⟨g1, g2, o, by rw [upd_ne e]; exact g3⟩
end
end Tm
set_option Elab.async false
set_option linter.all false
set_option maxRecDepth 100000
set_option maxHeartbeats 2000000
namespace Tm
open PySem L2
open Evl (Ex ex_rd ex_l ex_t)
structure Ct where
  K : PySem.W.Frag
  mg : Str → Option Value
  W : WX
  bs : List Nat
  J : Hp → List (Nat × Addr) → Prop
  Jm : ∀ F F1 bp, Ex F F1 → J F bp → J F1 bp
def XFs (K : PySem.W.Frag) (H : Hp) : List (Str × MV) → List (Str × V) → Prop
  | [], vs => vs = []
  | (n, x) :: xs, vs => ∃ v r, vs = (n, v) :: r ∧ RV K H x v ∧ XFs K H xs r
def ExR (K : PySem.W.Frag) (mg : Str → Option Value) (H : Hp) (e : MX) (cls : Value) (d : Option Addr) : Prop :=
  ∃ C, mg e.cls = some (.ref C) ∧ cls = .ref C ∧ ((e.fs = [] ∧ d = none) ∨ ∃ dx vfs, d = some dx ∧ H dx = some (.xd vfs) ∧ XFs K H e.fs vfs)
theorem XFs.mono {K : PySem.W.Frag} {H H' : Hp} (e : Ex H H') : ∀ {xs : List (Str × MV)} {vs : List (Str × V)}, XFs K H xs vs → XFs K H' xs vs
  | [], _, h => h
  | (n, x) :: xs, vs, h => by
    obtain ⟨v, r, e1, e2, e3⟩ := h
    exact ⟨v, r, e1, RV.mono e _ _ e2, XFs.mono e e3⟩
theorem ExR.mono {K : PySem.W.Frag} {mg : Str → Option Value} {H H' : Hp} {e : MX} {cls : Value} {d : Option Addr} (x : Ex H H') (h : ExR K mg H e cls d) : ExR K mg H' e cls d := by
  obtain ⟨C, h1, h2, h3⟩ := h
  refine ⟨C, h1, h2, ?_⟩
  rcases h3 with h3 | ⟨dx, vfs, a, b, c⟩
  · exact .inl h3
  · exact .inr ⟨dx, vfs, a, x _ _ b, c.mono x⟩
abbrev ME := Env → Res (MV × Env)
abbrev MT := Env → Res (Bool × Env)
abbrev MA := Env → Res (List MV × Env)
abbrev MS := Env → Res (Fl × Env)
def Wish (c : Ct) (F Hk : Hp) (bp : List (Nat × Addr)) (σ : St) (e : MX) (ρ : Env) : Prop :=
  ∀ Hk' H' cls d, Ex Hk Hk' → RS c.K F Hk' H' bp σ ρ → ExR c.K c.mg Hk' e cls d → c.W cls d σ H'
def okE (c : Ct) (F Hk : Hp) (bp : List (Nat × Addr)) (σ : St) (Q : VK) : Res (MV × Env) → Prop
  | .ok (x, ρ') => ∀ Hk' H' v, Ex Hk Hk' → RS c.K F Hk' H' bp σ ρ' → RV c.K Hk' x v → Q v H'
  | .exc e ρ' => Wish c F Hk bp σ e ρ'
  | .stuck => False
def okO (c : Ct) (F Hk : Hp) (bp : List (Nat × Addr)) (σ : St) (Q : VK) : Res (MV × Env) → Prop
  | .ok (x, ρ') => ∀ Hk' H' v, Ex Hk Hk' → RS c.K F Hk' H' bp (σ ++ [some v]) (ρ' ++ [some x]) → Q v H'
  | .exc e ρ' => Wish c F Hk bp σ e ρ'
  | .stuck => False
def okT (c : Ct) (F Hk : Hp) (bp : List (Nat × Addr)) (σ : St) (Q : Bool → Hp → Prop) : Res (Bool × Env) → Prop
  | .ok (x, ρ') => ∀ Hk' H', Ex Hk Hk' → RS c.K F Hk' H' bp σ ρ' → Q x H'
  | .exc e ρ' => Wish c F Hk bp σ e ρ'
  | .stuck => False
def okA (c : Ct) (F Hk : Hp) (bp : List (Nat × Addr)) (σ : St) (Q : List V → Hp → Prop) : Res (List MV × Env) → Prop
  | .ok (xs, ρ') => ∀ Hk' H' vs, Ex Hk Hk' → RS c.K F Hk' H' bp σ ρ' → RVs c.K Hk' xs vs → Q vs H'
  | .exc e ρ' => Wish c F Hk bp σ e ρ'
  | .stuck => False
def okS (c : Ct) (F Hk : Hp) (bp : List (Nat × Addr)) (D : Ends) : Res (Fl × Env) → Prop
  | .ok (.nx, ρ') => ∀ Hk' H' σ', Ex Hk Hk' → RS c.K F Hk' H' bp σ' ρ' → D.nx σ' H'
  | .ok (.br, ρ') => ∀ Hk' H' σ', Ex Hk Hk' → RS c.K F Hk' H' bp σ' ρ' → D.bk σ' H'
  | .ok (.ct, ρ') => ∀ Hk' H' σ', Ex Hk Hk' → RS c.K F Hk' H' bp σ' ρ' → D.ct σ' H'
  | .ok (.rt x, ρ') => ∀ Hk' H' σ' v, Ex Hk Hk' → (∀ q ∈ bp, q.1 < σ'.length) → RS c.K F Hk' H' bp (σ' ++ [some v]) (ρ' ++ [some x]) → D.rt v H'
  | .exc e ρ' => ∀ Hk' H' σ' cls d, Ex Hk Hk' → RS c.K F Hk' H' bp σ' ρ' → ExR c.K c.mg Hk' e cls d → c.W cls d σ' H'
  | .stuck => False
def At (c : Ct) (F Hk H : Hp) (bp : List (Nat × Addr)) (σ : St) (ρ : Env) : Prop := RS c.K F Hk H bp σ ρ ∧ bp.map (·.1) = c.bs ∧ c.J F bp
def rdE (c : Ct) (m : ME) : TE := fun σ H Q => ∃ F Hk bp ρ, At c F Hk H bp σ ρ ∧ okE c F Hk bp σ Q (m ρ)
def rdO (c : Ct) (m : ME) : TE := fun σ H Q => ∃ F Hk bp ρ, At c F Hk H bp σ ρ ∧ okO c F Hk bp σ Q (m ρ)
def rdT (c : Ct) (m : MT) : TT := fun σ H Q => ∃ F Hk bp ρ, At c F Hk H bp σ ρ ∧ okT c F Hk bp σ Q (m ρ)
def rdA (c : Ct) (m : MA) : TA := fun σ H Q => ∃ F Hk bp ρ, At c F Hk H bp σ ρ ∧ okA c F Hk bp σ Q (m ρ)
def rdS (c : Ct) (m : MS) : TS := fun D σ H => ∃ F Hk bp ρ, At c F Hk H bp σ ρ ∧ okS c F Hk bp D (m ρ)
section
variable {c : Ct} {F Hk Hk' H H' : Hp} {bp : List (Nat × Addr)} {σ : St} {ρ : Env}
theorem Wish.mono {e : MX} (x : Ex Hk Hk') (h : Wish c F Hk bp σ e ρ) : Wish c F Hk' bp σ e ρ := fun Hk2 H2 cls d x2 => h Hk2 H2 cls d (x.trans x2)
theorem okE.mono {Q : VK} {r : Res (MV × Env)} (x : Ex Hk Hk') (h : okE c F Hk bp σ Q r) : okE c F Hk' bp σ Q r := by
  cases r with
  | ok a => exact fun Hk2 H2 v x2 => h Hk2 H2 v (x.trans x2)
  | exc e ρ => exact Wish.mono x h
  | stuck => exact h
theorem okO.mono {Q : VK} {r : Res (MV × Env)} (x : Ex Hk Hk') (h : okO c F Hk bp σ Q r) : okO c F Hk' bp σ Q r := by
  cases r with
  | ok a => exact fun Hk2 H2 v x2 => h Hk2 H2 v (x.trans x2)
  | exc e ρ => exact Wish.mono x h
  | stuck => exact h
theorem okT.mono {Q : Bool → Hp → Prop} {r : Res (Bool × Env)} (x : Ex Hk Hk') (h : okT c F Hk bp σ Q r) : okT c F Hk' bp σ Q r := by
  cases r with
  | ok a => exact fun Hk2 H2 x2 => h Hk2 H2 (x.trans x2)
  | exc e ρ => exact Wish.mono x h
  | stuck => exact h
theorem okA.mono {Q : List V → Hp → Prop} {r : Res (List MV × Env)} (x : Ex Hk Hk') (h : okA c F Hk bp σ Q r) : okA c F Hk' bp σ Q r := by
  cases r with
  | ok a => exact fun Hk2 H2 v x2 => h Hk2 H2 v (x.trans x2)
  | exc e ρ => exact Wish.mono x h
  | stuck => exact h
theorem okS.mono {D : Ends} {r : Res (Fl × Env)} (x : Ex Hk Hk') (h : okS c F Hk bp D r) : okS c F Hk' bp D r := by
  cases r with
  | ok a =>
    obtain ⟨f, ρ'⟩ := a
    cases f with
    | nx => exact fun Hk2 H2 σ' x2 => h Hk2 H2 σ' (x.trans x2)
    | br => exact fun Hk2 H2 σ' x2 => h Hk2 H2 σ' (x.trans x2)
    | ct => exact fun Hk2 H2 σ' x2 => h Hk2 H2 σ' (x.trans x2)
    | rt y => exact fun Hk2 H2 σ' v x2 => h Hk2 H2 σ' v (x.trans x2)
  | exc e ρ' => exact fun Hk2 H2 σ' cls d x2 => h Hk2 H2 σ' cls d (x.trans x2)
  | stuck => exact h
def Res.bind {α β : Type} (r : Res (α × Env)) (f : α → Env → Res (β × Env)) : Res (β × Env) :=
  match r with
  | .ok (x, ρ) => f x ρ
  | .exc e ρ => .exc e ρ
  | .stuck => .stuck
end
theorem PEw {X : Cx} {e : Expr} {t t' : TE} (h : PE X e t) (w : ∀ σ H Q, t' σ H Q → t σ H Q) : PE X e t' := ⟨fun pins s σ H Q I q => h.run pins s σ H Q I (w σ H Q q)⟩
theorem PTw {X : Cx} {e : Expr} {t t' : TT} (h : PT X e t) (w : ∀ σ H Q, t' σ H Q → t σ H Q) : PT X e t' := ⟨fun pins s σ H Q I q => h.run pins s σ H Q I (w σ H Q q)⟩
theorem PWw {X : Cx} {e : Expr} {t t' : TT} (h : PW X e t) (w : ∀ σ H Q, t' σ H Q → t σ H Q) : PW X e t' := ⟨fun wh pins s σ H Q I q => h.run wh pins s σ H Q I (w σ H Q q)⟩
theorem PAw {X : Cx} {e : List Expr} {t t' : TA} (h : PA X e t) (w : ∀ σ H Q, t' σ H Q → t σ H Q) : PA X e t' := ⟨fun pos pins s σ H Q I q => h.run pos pins s σ H Q I (w σ H Q q)⟩
theorem PSw {X : Cx} {e : Stmt} {t t' : TS} (h : PS X e t) (w : ∀ D σ H, t' D σ H → t D σ H) : PS X e t' := ⟨fun pins s σ H D I q => h.run pins s σ H D I (w D σ H q)⟩
theorem PSsw {X : Cx} {e : List Stmt} {t t' : TS} (h : PSs X e t) (w : ∀ D σ H, t' D σ H → t D σ H) : PSs X e t' := ⟨fun pins s σ H D I q => h.run pins s σ H D I (w D σ H q)⟩
section
variable {X : Cx} {c : Ct}
def mVar (i : Nat) : ME := fun ρ => match ρ[i]? with
  | some (some (.own xs)) => .ok (.lst xs, ρ.set i (some (.lst xs)))
  | some (some (.obj _ _)) => .stuck
  | some (some (.dow _ _)) => .stuck
  | some (some (.dot _ _)) => .stuck
  | some (some x) => .ok (x, ρ)
  | _ => .stuck
def mC (x : MV) : ME := fun ρ => .ok (x, ρ)
theorem rd_var {i : Nat} {σ : St} {H : Hp} {Q : VK} (h : rdE c (mVar i) σ H Q) : tVar i σ H Q := by
  obtain ⟨F, Hk, bp, ρ, ⟨S, _⟩, h⟩ := h
  have pl : ∀ x : MV, x.per = true → ρ[i]? = some (some x) → (∀ Hk' H' v, Ex Hk Hk' → RS c.K F Hk' H' bp σ ρ → RV c.K Hk' x v → Q v H') → tVar i σ H Q := fun x px e q => by
    obtain ⟨v, ev, r⟩ := S.get e px
    exact ⟨v, ev, q Hk H v (Ex.refl _) S r⟩
  unfold mVar at h
  split at h
  · rename_i xs e
    obtain ⟨p, vs, e1, ex, r, S'⟩ := S.freeze e
    exact ⟨_, e1, h _ _ _ ex S' r⟩
  · exact h.elim
  · exact h.elim
  · exact h.elim
  · rename_i x n1 n2 n3 n4 e
    refine pl x ?_ e h
    cases x <;> first | rfl | (exfalso; first | exact n1 _ rfl | exact n2 _ _ rfl | exact n3 _ _ rfl | exact n4 _ _ rfl)
  · exact h.elim
theorem me_var {i : Nat} {x : Str} {pos : Pos} (hN : X.N[i]? = some x) (hv : Vis X.env.scope x) (hd : (x == ("__debug__" : Str)) = false := by decide) (hcd : (x == ("__classdict__" : Str)) = false := by decide) : PE X (.Name x pos) (rdE c (mVar i)) :=
  PEw (pe_var hN hv hd hcd) fun _ _ _ h => rd_var h
theorem rd_c {x : MV} {v : V} (r : ∀ H, RV c.K H x v) {σ : St} {H : Hp} {Q : VK} (h : rdE c (mC x) σ H Q) : tC v σ H Q := by
  obtain ⟨F, Hk, bp, ρ, ⟨S, _⟩, h⟩ := h
  exact h Hk H v (Ex.refl _) S (r _)
theorem me_int {i j pos} : PE X (.Constant (.int i) j pos) (rdE c (mC (.int i))) := PEw pe_int fun _ _ _ h => rd_c (fun _ => RV.int.mpr rfl) h
theorem me_bl {b j pos} : PE X (.Constant (.bool b) j pos) (rdE c (mC (.bl b))) := PEw pe_bl fun _ _ _ h => rd_c (fun _ => RV.bl.mpr rfl) h
theorem me_non {j pos} : PE X (.Constant .none j pos) (rdE c (mC .non)) := PEw pe_non fun _ _ _ h => rd_c (fun _ => RV.non.mpr rfl) h
theorem me_str {x j pos} : PE X (.Constant (.str x) j pos) (rdE c (mC (.str x))) := PEw pe_str fun _ _ _ h => rd_c (fun _ => RV.str.mpr rfl) h
def mOp (f : MV → MV → Option MV) (a b : ME) : ME := fun ρ => (a ρ).bind fun x ρ1 => (b ρ1).bind fun y ρ2 => match f x y with | some z => .ok (z, ρ2) | none => .stuck
def OpS (K : PySem.W.Frag) (f : MV → MV → Option MV) (r : R2) : Prop := ∀ (x y z : MV) (v w : V) (Hk H : Hp) (Q : VK), f x y = some z → Ex Hk H → RV K Hk x v → RV K Hk y w → (∀ u, RV K Hk z u → Q u H) →
  (∀ p o, H p = none → RV K (upd Hk p o) z (.ref p) → Q (.ref p) (upd H p o)) → r v w H Q
theorem rd_op {f : MV → MV → Option MV} {r : R2} (o : OpS c.K f r) {a b : ME} {σ : St} {H : Hp} {Q : VK} (h : rdE c (mOp f a b) σ H Q) : tOp r (rdE c a) (rdE c b) σ H Q := by
  obtain ⟨F, Hk, bp, ρ, ⟨S, eb⟩, h⟩ := h
  refine ⟨F, Hk, bp, ρ, ⟨S, eb⟩, ?_⟩
  unfold mOp at h
  cases ea : a ρ with
  | stuck => rw [ea] at h; exact h.elim
  | exc e ρ' => rw [ea] at h; exact h
  | ok p =>
    obtain ⟨x, ρ1⟩ := p
    rw [ea] at h
    intro Hk1 H1 v x1 S1 r1
    refine ⟨F, Hk1, bp, ρ1, ⟨S1, eb⟩, ?_⟩
    have h : okE c F Hk bp σ Q ((b ρ1).bind fun y ρ2 => match f x y with | some z => .ok (z, ρ2) | none => .stuck) := h
    cases e2 : b ρ1 with
    | stuck => rw [e2] at h; exact h.elim
    | exc e ρ' => rw [e2] at h; exact Wish.mono x1 h
    | ok p =>
      obtain ⟨y, ρ2⟩ := p
      rw [e2] at h
      intro Hk2 H2 w x2 S2 r2
      have h : okE c F Hk bp σ Q (match f x y with | some z => .ok (z, ρ2) | none => .stuck) := h
      cases ez : f x y with
      | none => rw [ez] at h; exact h.elim
      | some z =>
        rw [ez] at h
        refine o x y z v w Hk2 H2 Q ez S2.ex (RV.mono x2 _ _ r1) r2 (fun u ru => h Hk2 H2 u (x1.trans x2) S2 ru) fun p ob hp ru => ?_
        exact h _ _ _ ((x1.trans x2).trans (Ex.new (S2.ex.back hp))) (S2.new hp) ru
theorem me_op {op : Operator} {f : MV → MV → Option MV} {r : R2} {a b : Expr} {ma mb : ME} {pos : Pos} (ho : OpR X (binaryOp op) r) (o : OpS c.K f r) (ha : PE X a (rdE c ma)) (hb : PE X b (rdE c mb)) : PE X (.BinOp a op b pos) (rdE c (mOp f ma mb)) :=
  PEw (pe_op ho ha hb) fun _ _ _ h => rd_op o h
theorem me_cmp {op : CmpOp} {f : MV → MV → Option MV} {r : R2} {a b : Expr} {ma mb : ME} {pos : Pos} (ho : OpR X (compareOp op) r) (o : OpS c.K f r) (ha : PE X a (rdE c ma)) (hb : PE X b (rdE c mb)) (hm : behindInMarks op b = false) : PE X (.Compare a [op] [b] pos) (rdE c (mOp f ma mb)) :=
  PEw (pe_cmpR ho ha hb hm) fun _ _ _ h => rd_op o h
end
end Tm
set_option Elab.async false
set_option linter.all false
set_option maxRecDepth 100000
set_option maxHeartbeats 2000000
namespace Tm
open PySem L2
open Evl (Ex ex_rd ex_l ex_t)
def szOk (n : Nat) : Bool := decide (n ≤ sizeLine)
def fAdd : MV → MV → Option MV
  | .int i, .int j => some (.int (i + j))
  | .int i, .bl b => some (.int (i + PyProof.Rows.b2i b))
  | .str a, .str b => if szOk (a.length + b.length) then some (.str (a ++ b)) else none
  | .lst a, .lst b => if szOk (a.length + b.length) then some (.lst (a ++ b)) else none
  | .tup a, .tup b => if szOk (a.length + b.length) then some (.tup (a ++ b)) else none
  | _, _ => none
def fSub : MV → MV → Option MV
  | .int i, .int j => some (.int (i - j))
  | _, _ => none
def mulOk (i j : Int) : Bool := (decide (-(2 ^ 64) < i) && decide (i < 2 ^ 64)) || (decide (-(2 ^ 64) < j) && decide (j < 2 ^ 64)) || decide (i.natAbs.log2 + j.natAbs.log2 < 1000000)
instance (i j : Int) : Decidable (CMulW i j) := inferInstanceAs (Decidable (i.natAbs.log2 + j.natAbs.log2 < 1000000))
def repS (a : Str) (k : Int) : Str := ⟨(List.replicate k.toNat a.cps.toList).flatten.toArray⟩
def fMul : MV → MV → Option MV
  | .int i, .int j => if mulOk i j then some (.int (i * j)) else none
  | .tup a, .int k => if decide (-(2 ^ 63) ≤ k) && decide (k < 2 ^ 63) && (decide (k = 1) || a.isEmpty || (decide (2 ≤ k) && decide (k ≤ 1000) && decide (a.length ≤ 1000))) then some (.tup (List.replicate k.toNat a).flatten) else none
  | .str a, .int k => if decide (-(2 ^ 63) ≤ k) && decide (k < 2 ^ 63) && szOk (a.length * k.toNat) then some (.str (repS a k)) else none
  | .lst a, .int k => if decide (-(2 ^ 63) ≤ k) && decide (k < 2 ^ 63) && szOk (a.length * k.toNat) then some (.lst (List.replicate k.toNat a).flatten) else none
  | _, _ => none
def divOk (j : Int) : Bool := (decide (j ≠ 0) && decide (j.natAbs < 1073741824)) || (decide (0 < j) && decide (j.natAbs.log2 < 9000))
def fDiv : MV → MV → Option MV
  | .int i, .int j => if divOk j then some (.int (i.fdiv j)) else none
  | _, _ => none
def fMod : MV → MV → Option MV
  | .int i, .int j => if decide (j ≠ 0) then some (.int (i.fmod j)) else none
  | _, _ => none
def fPow : MV → MV → Option MV
  | .int i, .int j => if decide (0 ≤ j) && decide (j ≤ 1000000) && decide (i.natAbs < 2 ^ 64) then some (.int (i ^ j.toNat)) else none
  | _, _ => none
def fLt : MV → MV → Option MV
  | .int i, .int j => some (.bl (decide (i < j)))
  | _, _ => none
def fLe : MV → MV → Option MV
  | .int i, .int j => some (.bl (decide (i ≤ j)))
  | _, _ => none
def fGt : MV → MV → Option MV
  | .int i, .int j => some (.bl (decide (j < i)))
  | _, _ => none
def fGe : MV → MV → Option MV
  | .int i, .int j => some (.bl (decide (j ≤ i)))
  | _, _ => none
def MV.isN : MV → Bool
  | .non => true
  | .raw w => decide (w = .non)
  | _ => false
def fNotN : MV → MV → Option MV
  | x, .non => some (.bl (!x.isN))
  | _, _ => none
def scalM : MV → MV → Bool
  | .non, .non => true | .non, .int _ => true | .int _, .non => true | .non, .bl _ => true | .bl _, .non => true | .non, .str _ => true | .str _, .non => true
  | .int _, .int _ => true | .bl _, .bl _ => true | .str _, .str _ => true
  | .int _, .str _ => true | .str _, .int _ => true | .bl _, .str _ => true | .str _, .bl _ => true
  | _, _ => false
def sameM : MV → MV → Bool
  | .non, .non => true
  | .int i, .int j => decide (i = j)
  | .bl i, .bl j => decide (i = j)
  | .str i, .str j => decide (i = j)
  | _, _ => false
mutual
def toD : MV → Option PyData
  | .non => some .none
  | .bl b => some (.bool b)
  | .int i => some (.int i)
  | .str x => some (.str x)
  | .tup xs => (toDs xs).map .tuple
  | .lst xs => (toDs xs).map .list
  | _ => none
def toDs : List MV → Option (List PyData)
  | [] => some []
  | x :: xs => match toD x, toDs xs with
    | some d, some ds => some (d :: ds)
    | _, _ => none
end
def eqM (x y : MV) : Option Bool :=
  if scalM x y then some (sameM x y) else
  match toD x, toD y with
  | some d, some e => if SeqAt.shaped d && SeqAt.shaped e then some (PyData.eqv d e) else none
  | _, _ => none
def fEq (x y : MV) : Option MV := (eqM x y).map .bl
def fNe (x y : MV) : Option MV := (eqM x y).map fun b => .bl (!b)
section
variable {K : PySem.W.Frag}
def rAddM (K : PySem.W.Frag) : R2 := fun x y H Q => (rI0 fun i j => .int (i + j)) x y H Q ∨ (∃ i k, x = .int i ∧ y = .bl k ∧ Q (.int (i + PyProof.Rows.b2i k)) H) ∨ (∃ i j, x = .str i ∧ y = .str j ∧ i.length + j.length ≤ sizeLine ∧ Q (.str (i ++ j)) H) ∨ rCat x y H Q ∨ rCatA K x y H Q
theorem op_addM {X : Cx} : OpR X (binaryOp .Add) (rAddM X.K) := OpR.or op_add (OpR.or op_add_ib (OpR.or op_add_str (OpR.or op_cat op_catA)))
theorem szOk_iff {n : Nat} : szOk n = true ↔ n ≤ sizeLine := by unfold szOk; simp
theorem os_add : OpS K fAdd (rAddM K) := by
  intro x y z v w Hk H Q e ex r1 r2 q qn
  unfold fAdd at e
  split at e
  · cases e
    exact .inl ⟨_, _, RV.int.mp r1, RV.int.mp r2, q _ (RV.int.mpr rfl)⟩
  · cases e
    exact .inr (.inl ⟨_, _, RV.int.mp r1, RV.bl.mp r2, q _ (RV.int.mpr rfl)⟩)
  · split at e
    · rename_i a b h
      cases e
      exact .inr (.inr (.inl ⟨_, _, RV.str.mp r1, RV.str.mp r2, szOk_iff.mp h, q _ (RV.str.mpr rfl)⟩))
    · cases e
  · split at e
    · rename_i a b h
      cases e
      obtain ⟨p1, vs, rfl, h1, s1⟩ := RV.lst.mp r1
      obtain ⟨p2, ws, rfl, h2, s2⟩ := RV.lst.mp r2
      refine .inr (.inr (.inr (.inl ⟨p1, p2, vs, ws, rfl, rfl, ex _ _ h1, ex _ _ h2, ?_, fun p hp => qn p _ hp ?_⟩)))
      · rw [s1.length, s2.length]; exact szOk_iff.mp h
      · have z := Ex.new (o := .lst (vs ++ ws)) (ex.back hp)
        exact RV.lst.mpr ⟨p, _, rfl, upd_same, (s1.append s2).mono z⟩
    · cases e
  · split at e
    · rename_i a b h
      cases e
      obtain ⟨p1, vs, rfl, h1, s1⟩ := RV.tup.mp r1
      obtain ⟨p2, ws, rfl, h2, s2⟩ := RV.tup.mp r2
      refine .inr (.inr (.inr (.inr ⟨p1, p2, vs, ws, rfl, rfl, ex_t ex h1, ex_t ex h2, ?_, fun e0 => ?_, fun e0 e1 => ?_, fun e0 e1 p hp => qn p _ hp ?_⟩)))
      · rw [s1.length, s2.length]; exact szOk_iff.mp h
      · have z := s1.append s2
        rw [e0, List.nil_append] at z
        exact q _ (RV.tup.mpr ⟨p2, ws, rfl, h2, z⟩)
      · have z := s1.append s2
        rw [e1, List.append_nil] at z
        exact q _ (RV.tup.mpr ⟨p1, vs, rfl, h1, z⟩)
      · have z := Ex.new (o := .tup (vs ++ ws)) (ex.back hp)
        exact RV.tup.mpr ⟨p, _, rfl, SqT.of upd_same, (s1.append s2).mono z⟩
    · cases e
  · cases e
theorem os_sub : OpS K fSub (rI0 fun i j => .int (i - j)) := by
  intro x y z v w Hk H Q e ex r1 r2 q qn
  unfold fSub at e
  split at e
  · cases e; exact ⟨_, _, RV.int.mp r1, RV.int.mp r2, q _ (RV.int.mpr rfl)⟩
  · cases e
open PySem.Spec PyProof.Rows in
theorem tuple_mulSame (l : Addr) (items : Array Value) (n : Nat) (dd : Option Addr) (sl : Array (Option Value)) (x : Int) (u : Tok) (c0 : (decide (x < -(2 ^ 63)) || decide (x ≥ 2 ^ 63)) = false) (c1 : (items.isEmpty || x == 1) = true) :
    Meets (Builtin.«tuple.__mul__» ⟨[.ref l, .int x u], []⟩) (fun _ R s => s.heap.get? l = some { cls := .type "tuple", dict := dd, data := .seq items n, slots := sl } ∧ R (.ok (.ret (Value.ref l))) s) :=
  .of_wp fun prog w A R s h => by
    obtain ⟨hp, g, d, tk, os⟩ := s
    obtain ⟨hl, h⟩ := h
    have f1 := AutoSeq1.idx_int
    wp_walk using wpAny_loadPart' hl
    repeat (first
      | (refine wpAny_ite_false (decide_eq_false (by rw [c0]; exact Bool.false_ne_true)) ?_; wp_walk using wpAny_loadPart' hl)
      | (refine wpAny_ite_true (decide_eq_true c1) ?_; wp_walk using wpAny_loadPart' hl))
    exact ⟨_, rfl, h⟩
def rRepTS (K : PySem.W.Frag) : R2 := fun x y H Q => ∃ l k xs, x = .ref l ∧ y = .int k ∧ SqT K H l xs ∧ (k = 1 ∨ xs = []) ∧ -(2 ^ 63) ≤ k ∧ k < 2 ^ 63 ∧ Q (.ref l) H
open PySem.Spec PyProof.Rows in
theorem op_repTS {X : Cx} : OpR X (binaryOp .Mult) (rRepTS X.K) := by
  intro pins s σ H x y v u Q I rx ry h
  obtain ⟨l, k, xs, rfl, rfl, hT, hs, h1, h2, q⟩ := h
  cases rx
  obtain ⟨t, rfl⟩ := ry
  obtain ⟨its, r, ⟨⟨cls, dd, data, sl⟩, ho, hc, n, hd⟩, _⟩ := I.tuple hT
  simp only at hc hd
  subst hc hd
  have hle : its.length = xs.length := r.length.symm
  have c0 : (decide (k < -(2 ^ 63)) || decide (k ≥ 2 ^ 63)) = false := by
    rw [decide_eq_false (by omega), decide_eq_false (by omega)] <;> rfl
  have c1 : (its.toArray.isEmpty || k == 1) = true := by
    rw [Bool.or_eq_true]
    rcases hs with rfl | rfl
    · exact .inr rfl
    · have : its = [] := List.length_eq_zero_iff.mp hle
      subst this
      exact .inl rfl
  exact wpAny_binaryOp_repeat_ref (T := "tuple") (U := "int") (by decide) ⟨_, ho, rfl⟩ (fun s' => typeIs_int s' k t) noFill_tuple_mul F.fills_int_mul F.slot_int_rmul repeat_tuple F.slot_int_index.lookup
    (call_meets F.slot_int_rmul (typeIs_int s k t) F.entry_int_rmul (F.args_int_rmul_2 _ _) (int_rmul_tuple k t l its.toArray n dd sl)
      ⟨ho, rfl, ⟨_, ho, rfl⟩, call_meets F.slot_tuple_mul ⟨_, ho, rfl⟩ F.entry_tuple_mul (F.args_tuple_mul_2 _ _) (tuple_mulSame l its.toArray n dd sl k t c0 c1) ⟨ho, ⟨.ref l, H, I, rfl, q⟩⟩⟩)
def rRepS : R2 := fun x y H Q => ∃ a k, x = .str a ∧ y = .int k ∧ -(2 ^ 63) ≤ k ∧ k < 2 ^ 63 ∧ a.length * k.toNat ≤ sizeLine ∧ Q (.str (repS a k)) H
theorem rep_foldl (l : Array Nat) : ∀ (n : Nat) (acc : Array Nat), (List.replicate n l).foldl (· ++ ·) acc = (acc.toList ++ (List.replicate n l.toList).flatten).toArray
  | 0, acc => by simp
  | n + 1, acc => by
    rw [List.replicate_succ, List.foldl_cons, rep_foldl l n, List.replicate_succ, List.flatten_cons]
    simp
theorem op_repS {X : Cx} : OpR X (binaryOp .Mult) rRepS := by
  intro pins s σ H x y v u Q I rx ry h
  obtain ⟨a, k, rfl, rfl, h1, h2, hz, q⟩ := h
  obtain ⟨t, rfl⟩ := rx
  obtain ⟨t', rfl⟩ := ry
  have sz : sizeLine = 16777216 := rfl
  refine PySem.P.mul_str ?_ ?_ ?_ ?_
  · rw [decide_eq_false (by omega), decide_eq_false (by omega)]; rfl
  · intro h3 h4 h5
    have hk : 1 < k := by
      have : (k == 1) = false := by cases e : (k == 1) <;> simp [e] at h4 ⊢
      have := beq_eq_false_iff_ne.mp this
      omega
    have e1 : ((a.length : Int) * k) ≤ 16777216 := by
      rw [sz] at hz
      have : ((a.length * k.toNat : Nat) : Int) ≤ 16777216 := by omega
      rw [Int.natCast_mul, Int.toNat_of_nonneg (by omega)] at this
      exact this
    have e2 : (a.length : Int) ≤ (2 ^ 63 - 1) / k := by
      refine (Int.le_ediv_iff_mul_le (by omega)).mpr ?_
      omega
    omega
  · intro h3 h4
    unfold Builtin.Str.tooLong
    exact decide_eq_false (by omega)
  · split
    · rename_i h3
      refine ⟨by decide, .str (repS a k), H, I.tok _, ⟨s.toks, ?_⟩, q⟩
      have : k.toNat = 0 := by omega
      unfold repS
      rw [this]; rfl
    · split
      · rename_i h3 h4
        refine ⟨.str (repS a k), H, I, ⟨t, ?_⟩, q⟩
        have : repS a k = a := by
          unfold repS
          rw [Bool.or_eq_true] at h4
          rcases h4 with h4 | h4
          · have : k = 1 := by simpa using h4
            subst this
            show (⟨([a.cps.toList].flatten).toArray⟩ : Str) = a
            simp
          · have e0 : a.cps.toList = [] := by
              have : a.length = 0 := by simpa using h4
              exact List.length_eq_zero_iff.mp (by rw [Array.length_toList]; exact this)
            rw [e0]
            have : ∀ n : Nat, (List.replicate n ([] : List Nat)).flatten = [] := fun n => by simp
            rw [this]
            cases a with
            | mk cps =>
              simp only at e0
              rw [← e0]
        rw [this]
      · rename_i h3 h4
        have e1 : (⟨(List.replicate k.toNat a.cps).foldl (· ++ ·) #[]⟩ : Str) = repS a k := by
          unfold repS
          rw [rep_foldl]
          rfl
        rw [e1]
        refine ⟨?_, .str (repS a k), H, I.tok _, ⟨s.toks, rfl⟩, q⟩
        show (List.replicate k.toNat a.cps.toList).flatten.toArray.size ≤ sizeLine
        rw [List.size_toArray, PyProof.Rows.lm_len_rep_flat, Nat.mul_comm]
        exact hz
def rMulM (K : PySem.W.Frag) : R2 := fun x y H Q => (rI CMul fun i j => .int (i * j)) x y H Q ∨ (rI CMulW fun i j => .int (i * j)) x y H Q ∨ rRep x y H Q ∨ rRepS x y H Q ∨ rRepTS K x y H Q ∨ rRepT K x y H Q
theorem op_mulM {X : Cx} : OpR X (binaryOp .Mult) (rMulM X.K) := OpR.or op_mul (OpR.or op_mulW (OpR.or op_rep (OpR.or op_repS (OpR.or op_repTS op_repT))))
theorem RVs.rep {H : Hp} {xs : List MV} {vs : List V} (h : RVs K H xs vs) : ∀ n : Nat, RVs K H (List.replicate n xs).flatten (List.replicate n vs).flatten
  | 0 => by simp [RVs]
  | n + 1 => by
    rw [List.replicate_succ, List.replicate_succ, List.flatten_cons, List.flatten_cons]
    exact h.append (RVs.rep h n)
theorem os_mul : OpS K fMul (rMulM K) := by
  intro x y z v w Hk H Q e ex r1 r2 q qn
  unfold fMul at e
  split at e
  · rename_i i j
    split at e
    · rename_i h
      cases e
      unfold mulOk at h
      rw [Bool.or_eq_true] at h
      rcases h with h | h
      · refine .inl ⟨i, j, RV.int.mp r1, RV.int.mp r2, ?_, q _ (RV.int.mpr rfl)⟩
        simp only [Bool.or_eq_true, Bool.and_eq_true, decide_eq_true_eq] at h
        exact h
      · exact .inr (.inl ⟨i, j, RV.int.mp r1, RV.int.mp r2, of_decide_eq_true h, q _ (RV.int.mpr rfl)⟩)
    · cases e
  · rename_i a k
    split at e
    · rename_i h
      cases e
      simp only [Bool.and_eq_true, Bool.or_eq_true, decide_eq_true_eq] at h
      obtain ⟨p1, vs, rfl, h1, s1⟩ := RV.tup.mp r1
      have hvl := s1.length
      by_cases hk : k = 1 ∨ vs = []
      · refine .inr (.inr (.inr (.inr (.inl ⟨p1, k, vs, rfl, RV.int.mp r2, ex_t ex h1, hk, h.1.1, h.1.2, q _ ?_⟩))))
        have er : (List.replicate k.toNat a).flatten = a := by
          rcases hk with rfl | rfl
          · simp
          · have : a = [] := List.length_eq_zero_iff.mp (by simpa using hvl.symm)
            subst this; simp
        rw [er]
        exact RV.tup.mpr ⟨p1, vs, rfl, h1, s1⟩
      · have hk2 : 2 ≤ k ∧ k ≤ 1000 ∧ a.length ≤ 1000 := by
          rcases h.2 with (h2 | h2) | h2
          · exact absurd (.inl h2) hk
          · exact absurd (.inr (List.length_eq_zero_iff.mp (by rw [hvl]; simpa using h2))) hk
          · exact ⟨h2.1.1, h2.1.2, h2.2⟩
        refine .inr (.inr (.inr (.inr (.inr ⟨p1, k, vs, rfl, RV.int.mp r2, ex_t ex h1, fun e0 => hk (.inr e0), hk2.1, hk2.2.1, by rw [hvl]; exact hk2.2.2, fun p hp => qn p _ hp ?_⟩))))
        have z := Ex.new (o := .tup (List.replicate k.toNat vs).flatten) (ex.back hp)
        exact RV.tup.mpr ⟨p, _, rfl, SqT.of upd_same, (RVs.rep s1 _).mono z⟩
    · cases e
  · rename_i a k
    split at e
    · rename_i h
      cases e
      simp only [Bool.and_eq_true, decide_eq_true_eq] at h
      exact .inr (.inr (.inr (.inl ⟨a, k, RV.str.mp r1, RV.int.mp r2, h.1.1, h.1.2, szOk_iff.mp h.2, q _ (RV.str.mpr rfl)⟩)))
    · cases e
  · rename_i a k
    split at e
    · rename_i h
      cases e
      simp only [Bool.and_eq_true, decide_eq_true_eq] at h
      obtain ⟨p1, vs, rfl, h1, s1⟩ := RV.lst.mp r1
      refine .inr (.inr (.inl ⟨p1, k, vs, rfl, RV.int.mp r2, ex _ _ h1, h.1.1, h.1.2, ?_, fun p hp => qn p _ hp ?_⟩))
      · rw [s1.length]; exact szOk_iff.mp h.2
      · have z := Ex.new (o := .lst (List.replicate k.toNat vs).flatten) (ex.back hp)
        exact RV.lst.mpr ⟨p, _, rfl, upd_same, (RVs.rep s1 _).mono z⟩
    · cases e
  · cases e
def rDivM : R2 := fun x y H Q => (rI CDivN fun i j => .int (i.fdiv j)) x y H Q ∨ (rI CDivW fun i j => .int (i / j)) x y H Q
theorem op_divM {X : Cx} : OpR X (binaryOp .FloorDiv) rDivM := OpR.or op_fdivN op_fdivW
theorem os_div : OpS K fDiv rDivM := by
  intro x y z v w Hk H Q e ex r1 r2 q qn
  unfold fDiv at e
  split at e
  · rename_i i j
    split at e
    · rename_i h
      cases e
      unfold divOk at h
      rw [Bool.or_eq_true] at h
      rcases h with h | h
      · simp only [Bool.and_eq_true, decide_eq_true_eq] at h
        exact .inl ⟨i, j, RV.int.mp r1, RV.int.mp r2, h, q _ (RV.int.mpr rfl)⟩
      · simp only [Bool.and_eq_true, decide_eq_true_eq] at h
        refine .inr ⟨i, j, RV.int.mp r1, RV.int.mp r2, h, ?_⟩
        have := q _ (RV.int.mpr rfl)
        rw [Int.fdiv_eq_ediv_of_nonneg i (by omega)] at this
        exact this
    · cases e
  · cases e
theorem os_mod : OpS K fMod (rI (fun _ j => j ≠ 0) fun i j => .int (i.fmod j)) := by
  intro x y z v w Hk H Q e ex r1 r2 q qn
  unfold fMod at e
  split at e
  · split at e
    · rename_i h
      cases e
      exact ⟨_, _, RV.int.mp r1, RV.int.mp r2, of_decide_eq_true h, q _ (RV.int.mpr rfl)⟩
    · cases e
  · cases e
theorem os_pow : OpS K fPow (rI CPow fun i j => .int (i ^ j.toNat)) := by
  intro x y z v w Hk H Q e ex r1 r2 q qn
  unfold fPow at e
  split at e
  · split at e
    · rename_i h
      cases e
      simp only [Bool.and_eq_true, decide_eq_true_eq] at h
      exact ⟨_, _, RV.int.mp r1, RV.int.mp r2, ⟨h.1.1, h.1.2, h.2⟩, q _ (RV.int.mpr rfl)⟩
    · cases e
  · cases e
theorem os_lt : OpS K fLt (rI0 fun i j => .bl (decide (i < j))) := by
  intro x y z v w Hk H Q e ex r1 r2 q qn
  unfold fLt at e
  split at e
  · cases e; exact ⟨_, _, RV.int.mp r1, RV.int.mp r2, q _ (RV.bl.mpr rfl)⟩
  · cases e
theorem os_le : OpS K fLe (rI0 fun i j => .bl (decide (i ≤ j))) := by
  intro x y z v w Hk H Q e ex r1 r2 q qn
  unfold fLe at e
  split at e
  · cases e; exact ⟨_, _, RV.int.mp r1, RV.int.mp r2, q _ (RV.bl.mpr rfl)⟩
  · cases e
theorem os_gt : OpS K fGt (rI0 fun i j => .bl (decide (j < i))) := by
  intro x y z v w Hk H Q e ex r1 r2 q qn
  unfold fGt at e
  split at e
  · cases e; exact ⟨_, _, RV.int.mp r1, RV.int.mp r2, q _ (RV.bl.mpr rfl)⟩
  · cases e
theorem os_ge : OpS K fGe (rI0 fun i j => .bl (decide (j ≤ i))) := by
  intro x y z v w Hk H Q e ex r1 r2 q qn
  unfold fGe at e
  split at e
  · cases e; exact ⟨_, _, RV.int.mp r1, RV.int.mp r2, q _ (RV.bl.mpr rfl)⟩
  · cases e
theorem RV.isnon {H : Hp} {x : MV} {v : V} (h : RV K H x v) : decide (v = .non) = x.isN := by
  cases x with
  | raw w => rw [RV.raw.mp h]; rfl
  | own _ => unfold RV at h; exact h.elim
  | obj _ _ => unfold RV at h; exact h.elim
  | non => rw [RV.non.mp h]; rfl
  | int i => rw [RV.int.mp h]; rfl
  | bl i => rw [RV.bl.mp h]; rfl
  | str i => rw [RV.str.mp h]; rfl
  | tup xs => obtain ⟨a, vs, e, _⟩ := RV.tup.mp h; rw [e]; rfl
  | lst xs => obtain ⟨a, vs, e, _⟩ := RV.lst.mp h; rw [e]; rfl
  | scr xs => obtain ⟨a, e, _⟩ := RV.scr.mp h; rw [e]; rfl
  | fnc x => obtain ⟨a, e, _⟩ := RV.fnc.mp h; rw [e]; rfl
  | dct ks xs => obtain ⟨a, vs, e, _⟩ := RV.dct.mp h; rw [e]; rfl
  | dow _ _ => unfold RV at h; exact h.elim
  | dot _ _ => unfold RV at h; exact h.elim
theorem os_notN : OpS K fNotN (fun x y H Q => y = .non ∧ Q (.bl (!decide (x = .non))) H) := by
  intro x y z v w Hk H Q e ex r1 r2 q qn
  unfold fNotN at e
  split at e
  · cases e; refine ⟨RV.non.mp r2, ?_⟩
    rw [r1.isnon]; exact q _ (RV.bl.mpr rfl)
  · cases e
theorem scal_of {H : Hp} {x y : MV} {v w : V} (h : scalM x y = true) (r1 : RV K H x v) (r2 : RV K H y w) : scal v w = true ∧ decide (v = w) = sameM x y := by
  unfold scalM at h
  split at h <;> first | (cases h; done) | skip
  all_goals
    first
      | (rw [RV.non.mp r1] ) | (rw [RV.int.mp r1]) | (rw [RV.bl.mp r1]) | (rw [RV.str.mp r1])
    first
      | (rw [RV.non.mp r2] ) | (rw [RV.int.mp r2]) | (rw [RV.bl.mp r2]) | (rw [RV.str.mp r2])
    refine ⟨rfl, ?_⟩
    simp [sameM]
mutual
theorem Dp.of {Hk H : Hp} (ex : Ex Hk H) : ∀ (x : MV) (v : V) (d : PyData), RV K Hk x v → toD x = some d → Dp K H v d
  | .non, v, d, r, e => by rw [RV.non.mp r]; unfold toD at e; cases e; exact .non
  | .bl b, v, d, r, e => by rw [RV.bl.mp r]; unfold toD at e; cases e; exact .bl b
  | .int b, v, d, r, e => by rw [RV.int.mp r]; unfold toD at e; cases e; exact .int b
  | .str b, v, d, r, e => by rw [RV.str.mp r]; unfold toD at e; cases e; exact .str b
  | .tup xs, v, d, r, e => by
    obtain ⟨a, vs, rfl, h, s⟩ := RV.tup.mp r
    unfold toD at e
    cases e2 : toDs xs with
    | none => rw [e2] at e; cases e
    | some ds =>
      rw [e2] at e; cases e
      exact .tup (ex_t ex h) (DpAll.of ex xs vs ds s e2)
  | .lst xs, v, d, r, e => by
    obtain ⟨a, vs, rfl, h, s⟩ := RV.lst.mp r
    unfold toD at e
    cases e2 : toDs xs with
    | none => rw [e2] at e; cases e
    | some ds =>
      rw [e2] at e; cases e
      exact .lst (SqL.of (ex _ _ h)) (DpAll.of ex xs vs ds s e2)
  | .own _, v, d, r, e => by unfold toD at e; cases e
  | .raw _, v, d, r, e => by unfold toD at e; cases e
  | .scr _, v, d, r, e => by unfold toD at e; cases e
  | .fnc _, v, d, r, e => by unfold toD at e; cases e
  | .obj _ _, v, d, r, e => by unfold toD at e; cases e
  | .dct _ _, v, d, r, e => by unfold toD at e; cases e
  | .dow _ _, v, d, r, e => by unfold toD at e; cases e
  | .dot _ _, v, d, r, e => by unfold toD at e; cases e
theorem DpAll.of {Hk H : Hp} (ex : Ex Hk H) : ∀ (xs : List MV) (vs : List V) (ds : List PyData), RVs K Hk xs vs → toDs xs = some ds → DpAll K H vs ds
  | [], vs, ds, r, e => by rw [RVs.nil.mp r]; unfold toDs at e; cases e; exact .nil
  | x :: xs, vs, ds, r, e => by
    obtain ⟨v, us, rfl, r1, r2⟩ := RVs.cons.mp r
    unfold toDs at e
    split at e
    · rename_i d ds' e1 e2
      cases e
      exact .cons (Dp.of ex x v d r1 e1) (DpAll.of ex xs us ds' r2 e2)
    · cases e
end
def rEqM (K : PySem.W.Frag) : R2 := fun x y H Q => rEq x y H Q ∨ rEqD K x y H Q
def rNeM (K : PySem.W.Frag) : R2 := fun x y H Q => rNe x y H Q ∨ rNeD K x y H Q
theorem op_eqM {X : Cx} (hu : X.A.units + 64 < cLine) : OpR X (compareOp .Eq) (rEqM X.K) := OpR.or op_eq (op_eqD hu)
theorem op_neM {X : Cx} (hu : X.A.units + 64 < cLine) : OpR X (compareOp .NotEq) (rNeM X.K) := OpR.or op_ne (op_neD hu)
theorem os_eq : OpS K fEq (rEqM K) := by
  intro x y z v w Hk H Q e ex r1 r2 q qn
  unfold fEq eqM at e
  split at e
  · rename_i h
    obtain ⟨s1, s2⟩ := scal_of h r1 r2
    cases e
    refine .inl ⟨s1, ?_⟩
    rw [s2]; exact q _ (RV.bl.mpr rfl)
  · split at e
    · rename_i d e' e1 e2
      split at e
      · rename_i h
        rw [Bool.and_eq_true] at h
        cases e
        exact .inr ⟨d, e', Dp.of ex _ _ _ r1 e1, Dp.of ex _ _ _ r2 e2, h.1, h.2, q _ (RV.bl.mpr rfl)⟩
      · cases e
    · cases e
theorem os_ne : OpS K fNe (rNeM K) := by
  intro x y z v w Hk H Q e ex r1 r2 q qn
  unfold fNe eqM at e
  split at e
  · rename_i h
    obtain ⟨s1, s2⟩ := scal_of h r1 r2
    cases e
    refine .inl ⟨s1, ?_⟩
    rw [s2]; exact q _ (RV.bl.mpr rfl)
  · split at e
    · rename_i d e' e1 e2
      split at e
      · rename_i h
        rw [Bool.and_eq_true] at h
        cases e
        exact .inr ⟨d, e', Dp.of ex _ _ _ r1 e1, Dp.of ex _ _ _ r2 e2, h.1, h.2, q _ (RV.bl.mpr rfl)⟩
      · cases e
    · cases e
def fIx : MV → MV → Option MV
  | .lst xs, .int i => atI xs i
  | .tup xs, .int i => atI xs i
  | .scr ns, .int i => (atI ns i).map .int
  | .str z, .int i => if szOk z.length then (atI z.cps.toList i).map fun c => .str ⟨#[c]⟩ else none
  | _, _ => none
theorem atI_rv {H : Hp} {xs : List MV} {vs : List V} (r : RVs K H xs vs) {i : Int} {x : MV} (e : atI xs i = some x) : ∃ v, atI vs i = some v ∧ RV K H x v := by
  unfold atI at e ⊢
  rw [r.length]
  cases h : ixN xs.length i with
  | none => rw [h] at e; cases e
  | some j =>
    rw [h] at e
    exact r.get e
theorem atI_map {α β : Type} {f : α → β} {xs : List α} {i : Int} {x : α} (e : atI xs i = some x) : atI (xs.map f) i = some (f x) := by
  unfold atI at e ⊢
  rw [List.length_map]
  cases h : ixN xs.length i with
  | none => rw [h] at e; cases e
  | some j =>
    rw [h] at e
    show (xs.map f)[j]? = _
    rw [List.getElem?_map, show xs[j]? = some x from e]; rfl
theorem os_ix : OpS K fIx (rIx K) := by
  intro x y z v w Hk H Q e ex r1 r2 q qn
  unfold fIx at e
  split at e
  · obtain ⟨p1, vs, rfl, h1, s1⟩ := RV.lst.mp r1
    obtain ⟨u, eu, ru⟩ := atI_rv s1 e
    exact .inl ⟨p1, vs, _, u, rfl, RV.int.mp r2, SqL.of (ex _ _ h1), eu, q _ ru⟩
  · obtain ⟨p1, vs, rfl, h1, s1⟩ := RV.tup.mp r1
    obtain ⟨u, eu, ru⟩ := atI_rv s1 e
    exact .inr (.inl ⟨p1, vs, _, u, rfl, RV.int.mp r2, ex_t ex h1, eu, q _ ru⟩)
  · rename_i ns i
    obtain ⟨p1, rfl, h1⟩ := RV.scr.mp r1
    cases h : atI ns i with
    | none => rw [h] at e; cases e
    | some n =>
      rw [h] at e; cases e
      exact .inl ⟨p1, _, _, _, rfl, RV.int.mp r2, ex_l ex h1, atI_map h, q _ (RV.int.mpr rfl)⟩
  · rename_i s i
    split at e
    · rename_i hz
      cases h : atI s.cps.toList i with
      | none => rw [h] at e; cases e
      | some n =>
        rw [h] at e; cases e
        exact .inr (.inr ⟨s, i, n, RV.str.mp r1, RV.int.mp r2, szOk_iff.mp hz, h, q _ (RV.str.mpr rfl)⟩)
    · cases e
  · cases e
def flatM : MV → Bool
  | .non | .bl _ | .int _ | .str _ => true
  | _ => false
def eqFlat : MV → MV → Bool
  | .non, .non => true
  | .bl a, .bl b => a == b
  | .bl a, .int b => (if a then 1 else 0) == b
  | .int a, .bl b => a == (if b then 1 else 0)
  | .int a, .int b => a == b
  | .str a, .str b => a == b
  | _, _ => false
theorem flat_v {H : Hp} {x : MV} {v : V} (h : flatM x = true) (r : RV K H x v) : flatV v = true := by
  unfold flatM at h
  split at h <;> first | (cases h; done) | skip
  · rw [RV.non.mp r]; rfl
  · rw [RV.bl.mp r]; rfl
  · rw [RV.int.mp r]; rfl
  · rw [RV.str.mp r]; rfl
theorem flat_eq {H : Hp} {x y : MV} {v w : V} (h : flatM x = true) (h2 : flatM y = true) (r : RV K H x v) (r2 : RV K H y w) : eqV v w = eqFlat x y := by
  unfold flatM at h h2
  split at h <;> first | (cases h; done) | skip
  all_goals (split at h2 <;> first | (cases h2; done) | skip)
  all_goals
    first
      | (rw [RV.non.mp r] ) | (rw [RV.int.mp r]) | (rw [RV.bl.mp r]) | (rw [RV.str.mp r])
    first
      | (rw [RV.non.mp r2] ) | (rw [RV.int.mp r2]) | (rw [RV.bl.mp r2]) | (rw [RV.str.mp r2])
    rfl
theorem flats_v {H : Hp} : ∀ {xs : List MV} {vs : List V}, xs.all flatM = true → RVs K H xs vs → vs.all flatV = true
  | [], vs, _, r => by rw [RVs.nil.mp r]; rfl
  | x :: xs, vs, h, r => by
    obtain ⟨v, us, rfl, r1, r2⟩ := RVs.cons.mp r
    rw [List.all_cons, Bool.and_eq_true] at h
    rw [List.all_cons, flat_v h.1 r1, flats_v h.2 r2]; rfl
theorem inV_eq {H : Hp} {y : MV} {w : V} (hy : flatM y = true) (ry : RV K H y w) : ∀ {xs : List MV} {vs : List V}, xs.all flatM = true → RVs K H xs vs → inV w vs = xs.any fun x => eqFlat x y
  | [], vs, _, r => by rw [RVs.nil.mp r]; rfl
  | x :: xs, vs, h, r => by
    obtain ⟨v, us, rfl, r1, r2⟩ := RVs.cons.mp r
    rw [List.all_cons, Bool.and_eq_true] at h
    have ih := inV_eq hy ry h.2 r2
    unfold inV at ih ⊢
    rw [List.any_cons, List.any_cons, ih, flat_eq h.1 hy r1 ry]
def inM (y : MV) (xs : List MV) : Option Bool := if flatM y && xs.all flatM then some (xs.any fun x => eqFlat x y) else none
def inA : MV → MV → Option Bool
  | y, .lst xs => inM y xs
  | y, .tup xs => inM y xs
  | .str i, .str j => some (!(Builtin.Str.occurrences j i 0 j.length 1).isEmpty)
  | _, _ => none
def fIn (x y : MV) : Option MV := (inA x y).map .bl
def fNotIn (x y : MV) : Option MV := (inA x y).map fun b => .bl (!b)
def rInM (K : PySem.W.Frag) : R2 := fun x y H Q => rIn K false x y H Q ∨ (∃ i j, x = .str i ∧ y = .str j ∧ Q (.bl (!(Builtin.Str.occurrences j i 0 j.length 1).isEmpty)) H)
def rNotInM (K : PySem.W.Frag) : R2 := fun x y H Q => rIn K true x y H Q ∨ (∃ i j, x = .str i ∧ y = .str j ∧ Q (.bl (!(!(Builtin.Str.occurrences j i 0 j.length 1).isEmpty))) H)
theorem op_inM {X : Cx} : OpR X (compareOp .In) (rInM X.K) := OpR.or op_in_seq op_in_str
theorem op_notInM {X : Cx} : OpR X (compareOp .NotIn) (rNotInM X.K) := OpR.or op_notIn_seq op_notin_str
theorem in_sq {Hk H : Hp} {x y : MV} {v w : V} {b : Bool} (ex : Ex Hk H) (r1 : RV K Hk x v) (r2 : RV K Hk y w) (e : inA x y = some b) :
    (∃ p xs, w = .ref p ∧ (SqL K H p xs ∨ SqT K H p xs) ∧ flatV v = true ∧ xs.all flatV = true ∧ inV v xs = b) ∨ (∃ i j, v = .str i ∧ w = .str j ∧ (!(Builtin.Str.occurrences j i 0 j.length 1).isEmpty) = b) := by
  unfold inA at e
  split at e
  · unfold inM at e
    split at e
    · rename_i h
      cases e
      rw [Bool.and_eq_true] at h
      obtain ⟨p1, vs, rfl, h1, s1⟩ := RV.lst.mp r2
      exact .inl ⟨p1, vs, rfl, .inl (SqL.of (ex _ _ h1)), flat_v h.1 r1, flats_v h.2 s1, inV_eq h.1 r1 h.2 s1⟩
    · cases e
  · unfold inM at e
    split at e
    · rename_i h
      cases e
      rw [Bool.and_eq_true] at h
      obtain ⟨p1, vs, rfl, h1, s1⟩ := RV.tup.mp r2
      exact .inl ⟨p1, vs, rfl, .inr (ex_t ex h1), flat_v h.1 r1, flats_v h.2 s1, inV_eq h.1 r1 h.2 s1⟩
    · cases e
  · cases e
    exact .inr ⟨_, _, RV.str.mp r1, RV.str.mp r2, rfl⟩
  · cases e
theorem os_in : OpS K fIn (rInM K) := by
  intro x y z v w Hk H Q e ex r1 r2 q qn
  unfold fIn at e
  cases eb : inA x y with
  | none => rw [eb] at e; cases e
  | some b =>
    rw [eb] at e; cases e
    rcases in_sq ex r1 r2 eb with ⟨p, xs, e1, e2, e3, e4, e5⟩ | ⟨i, j, e1, e2, e3⟩
    · exact .inl ⟨p, xs, e1, e2, e3, e4, by rw [if_neg (by decide), e5]; exact q _ (RV.bl.mpr rfl)⟩
    · exact .inr ⟨i, j, e1, e2, by rw [e3]; exact q _ (RV.bl.mpr rfl)⟩
theorem os_notIn : OpS K fNotIn (rNotInM K) := by
  intro x y z v w Hk H Q e ex r1 r2 q qn
  unfold fNotIn at e
  cases eb : inA x y with
  | none => rw [eb] at e; cases e
  | some b =>
    rw [eb] at e; cases e
    rcases in_sq ex r1 r2 eb with ⟨p, xs, e1, e2, e3, e4, e5⟩ | ⟨i, j, e1, e2, e3⟩
    · exact .inl ⟨p, xs, e1, e2, e3, e4, by rw [if_pos rfl, e5]; exact q _ (RV.bl.mpr rfl)⟩
    · exact .inr ⟨i, j, e1, e2, by rw [e3]; exact q _ (RV.bl.mpr rfl)⟩
end
end Tm
set_option Elab.async false
set_option linter.all false
set_option maxRecDepth 100000
set_option maxHeartbeats 2000000
namespace Tm
open PySem L2
open Evl (Ex ex_rd ex_l ex_t)
structure Post (c : Ct) (F : Hp) (bp : List (Nat × Addr)) (σ : St) {β : Type} (P : Hp → Res (β × Env) → Prop) : Prop where
  ex : ∀ Hk e ρ, P Hk (.exc e ρ) → Wish c F Hk bp σ e ρ
  st : ∀ Hk, ¬ P Hk .stuck
  mono : ∀ Hk Hk' r, Ex Hk Hk' → P Hk r → P Hk' r
section
variable {c : Ct} {F Hk H : Hp} {bp : List (Nat × Addr)} {σ : St} {ρ : Env} {β : Type}
theorem postE {Q : VK} : Post c F bp σ fun Hk r => okE c F Hk bp σ Q r := ⟨fun _ _ _ h => h, fun _ h => h, fun _ _ _ x h => okE.mono x h⟩
theorem postO {Q : VK} : Post c F bp σ fun Hk r => okO c F Hk bp σ Q r := ⟨fun _ _ _ h => h, fun _ h => h, fun _ _ _ x h => okO.mono x h⟩
theorem postT {Q : Bool → Hp → Prop} : Post c F bp σ fun Hk r => okT c F Hk bp σ Q r := ⟨fun _ _ _ h => h, fun _ h => h, fun _ _ _ x h => okT.mono x h⟩
theorem postA {Q : List V → Hp → Prop} : Post c F bp σ fun Hk r => okA c F Hk bp σ Q r := ⟨fun _ _ _ h => h, fun _ h => h, fun _ _ _ x h => okA.mono x h⟩
theorem postS {D : Ends} : Post c F bp σ fun Hk r => okS c F Hk bp D r := ⟨fun _ _ _ h Hk' H' cls d => h Hk' H' σ cls d, fun _ h => h, fun _ _ _ x h => okS.mono x h⟩
variable {P : Hp → Res (β × Env) → Prop}
theorem bE (p : Post c F bp σ P) {a : ME} {k : MV → Env → Res (β × Env)} (S : At c F Hk H bp σ ρ) (h : P Hk ((a ρ).bind k)) :
    rdE c a σ H fun v H1 => ∃ Hk1 x ρ1, Ex Hk Hk1 ∧ At c F Hk1 H1 bp σ ρ1 ∧ RV c.K Hk1 x v ∧ P Hk1 (k x ρ1) := by
  refine ⟨F, Hk, bp, ρ, S, ?_⟩
  cases e : a ρ with
  | stuck => rw [e] at h; exact p.st _ h
  | exc x ρ' => rw [e] at h; exact p.ex _ _ _ h
  | ok q =>
    rw [e] at h
    exact fun Hk1 H1 v x1 S1 r1 => ⟨Hk1, q.1, q.2, x1, ⟨S1, S.2⟩, r1, p.mono _ _ _ x1 h⟩
theorem bO (p : Post c F bp σ P) {a : ME} {k : MV → Env → Res (β × Env)} (S : At c F Hk H bp σ ρ) (h : P Hk ((a ρ).bind k)) :
    rdO c a σ H fun v H1 => ∃ Hk1 x ρ1, Ex Hk Hk1 ∧ RS c.K F Hk1 H1 bp (σ ++ [some v]) (ρ1 ++ [some x]) ∧ P Hk1 (k x ρ1) := by
  refine ⟨F, Hk, bp, ρ, S, ?_⟩
  cases e : a ρ with
  | stuck => rw [e] at h; exact p.st _ h
  | exc x ρ' => rw [e] at h; exact p.ex _ _ _ h
  | ok q =>
    rw [e] at h
    exact fun Hk1 H1 v x1 S1 => ⟨Hk1, q.1, q.2, x1, S1, p.mono _ _ _ x1 h⟩
theorem bT (p : Post c F bp σ P) {a : MT} {k : Bool → Env → Res (β × Env)} (S : At c F Hk H bp σ ρ) (h : P Hk ((a ρ).bind k)) :
    rdT c a σ H fun b H1 => ∃ Hk1 ρ1, Ex Hk Hk1 ∧ At c F Hk1 H1 bp σ ρ1 ∧ P Hk1 (k b ρ1) := by
  refine ⟨F, Hk, bp, ρ, S, ?_⟩
  cases e : a ρ with
  | stuck => rw [e] at h; exact p.st _ h
  | exc x ρ' => rw [e] at h; exact p.ex _ _ _ h
  | ok q =>
    rw [e] at h
    exact fun Hk1 H1 x1 S1 => ⟨Hk1, q.2, x1, ⟨S1, S.2⟩, p.mono _ _ _ x1 h⟩
theorem bA (p : Post c F bp σ P) {a : MA} {k : List MV → Env → Res (β × Env)} (S : At c F Hk H bp σ ρ) (h : P Hk ((a ρ).bind k)) :
    rdA c a σ H fun vs H1 => ∃ Hk1 xs ρ1, Ex Hk Hk1 ∧ At c F Hk1 H1 bp σ ρ1 ∧ RVs c.K Hk1 xs vs ∧ P Hk1 (k xs ρ1) := by
  refine ⟨F, Hk, bp, ρ, S, ?_⟩
  cases e : a ρ with
  | stuck => rw [e] at h; exact p.st _ h
  | exc x ρ' => rw [e] at h; exact p.ex _ _ _ h
  | ok q =>
    rw [e] at h
    exact fun Hk1 H1 vs x1 S1 r1 => ⟨Hk1, q.1, q.2, x1, ⟨S1, S.2⟩, r1, p.mono _ _ _ x1 h⟩
end
section
variable {c : Ct}
theorem okE.imp {F Hk : Hp} {bp : List (Nat × Addr)} {σ : St} {Q Q' : VK} {r : Res (MV × Env)} (h : okE c F Hk bp σ Q r) (w : ∀ v H, Q v H → Q' v H) : okE c F Hk bp σ Q' r := by
  cases r with
  | ok a => exact fun Hk2 H2 v x S r => w _ _ (h Hk2 H2 v x S r)
  | exc e ρ => exact h
  | stuck => exact h
theorem okT.imp {F Hk : Hp} {bp : List (Nat × Addr)} {σ : St} {Q Q' : Bool → Hp → Prop} {r : Res (Bool × Env)} (h : okT c F Hk bp σ Q r) (w : ∀ v H, Q v H → Q' v H) : okT c F Hk bp σ Q' r := by
  cases r with
  | ok a => exact fun Hk2 H2 x S => w _ _ (h Hk2 H2 x S)
  | exc e ρ => exact h
  | stuck => exact h
theorem okA.imp {F Hk : Hp} {bp : List (Nat × Addr)} {σ : St} {Q Q' : List V → Hp → Prop} {r : Res (List MV × Env)} (h : okA c F Hk bp σ Q r) (w : ∀ v H, Q v H → Q' v H) : okA c F Hk bp σ Q' r := by
  cases r with
  | ok a => exact fun Hk2 H2 v x S r => w _ _ (h Hk2 H2 v x S r)
  | exc e ρ => exact h
  | stuck => exact h
theorem okO.imp {F Hk : Hp} {bp : List (Nat × Addr)} {σ : St} {Q Q' : VK} {r : Res (MV × Env)} (h : okO c F Hk bp σ Q r) (w : ∀ v H, Q v H → Q' v H) : okO c F Hk bp σ Q' r := by
  cases r with
  | ok a => exact fun Hk2 H2 v x S => w _ _ (h Hk2 H2 v x S)
  | exc e ρ => exact h
  | stuck => exact h
theorem rdw {m : ME} {σ : St} {H : Hp} {Q Q' : VK} (h : rdE c m σ H Q) (w : ∀ v H, Q v H → Q' v H) : rdE c m σ H Q' := let ⟨F, Hk, bp, ρ, S, q⟩ := h; ⟨F, Hk, bp, ρ, S, q.imp w⟩
theorem rdOw {m : ME} {σ : St} {H : Hp} {Q Q' : VK} (h : rdO c m σ H Q) (w : ∀ v H, Q v H → Q' v H) : rdO c m σ H Q' := let ⟨F, Hk, bp, ρ, S, q⟩ := h; ⟨F, Hk, bp, ρ, S, q.imp w⟩
theorem rdTw {m : MT} {σ : St} {H : Hp} {Q Q' : Bool → Hp → Prop} (h : rdT c m σ H Q) (w : ∀ v H, Q v H → Q' v H) : rdT c m σ H Q' := let ⟨F, Hk, bp, ρ, S, q⟩ := h; ⟨F, Hk, bp, ρ, S, q.imp w⟩
theorem rdAw {m : MA} {σ : St} {H : Hp} {Q Q' : List V → Hp → Prop} (h : rdA c m σ H Q) (w : ∀ v H, Q v H → Q' v H) : rdA c m σ H Q' := let ⟨F, Hk, bp, ρ, S, q⟩ := h; ⟨F, Hk, bp, ρ, S, q.imp w⟩
end
section
variable {X : Cx} {c : Ct}
def mTest (a : ME) : MT := fun ρ => (a ρ).bind fun x ρ1 => match x with | .bl b => .ok (b, ρ1) | _ => .stuck
theorem rd_test {a : ME} {σ : St} {H : Hp} {Q : Bool → Hp → Prop} (h : rdT c (mTest a) σ H Q) : (rdE c a) σ H fun x H' => ∃ k, x = .bl k ∧ Q k H' := by
  obtain ⟨F, Hk, bp, ρ, S, h⟩ := h
  obtain ⟨F', Hk', bp', ρ', S', h'⟩ := bE postT S h
  refine ⟨F', Hk', bp', ρ', S', ?_⟩
  cases e : a ρ' with
  | stuck => rw [e] at h'; exact h'
  | exc x r => rw [e] at h'; exact h'
  | ok q =>
    rw [e] at h'
    intro Hk1 H1 v x1 S1 r1
    obtain ⟨Hk2, x, ρ2, x2, S2, r2, h2⟩ := h' Hk1 H1 v x1 S1 r1
    cases x with
    | bl b => exact ⟨b, RV.bl.mp r2, h2 _ _ (Ex.refl _) S2.1⟩
    | _ => exact h2.elim
theorem mt_cmp {op : CmpOp} {f : MV → MV → Option MV} {r : R2} {a b : Expr} {ma mb : ME} {pos : Pos} (ho : OpR X (compareOp op) r) (o : OpS c.K f r) (ha : PE X a (rdE c ma)) (hb : PE X b (rdE c mb)) (hm : behindInMarks op b = false) :
    PT X (.Compare a [op] [b] pos) (rdT c (mTest (mOp f ma mb))) := PTw (pt_cmpR ho ha hb hm) fun σ H Q h => rd_op (Q := fun x H' => ∃ k, x = .bl k ∧ Q k H') o (rd_test h)
theorem mt_val {e : Expr} {m : ME} (h : PE X e (rdE c m)) (he : ∀ whole, isTrue e X.env whole = (do let v ← whole; standAt e.pos; holding [v] (truthy v)) := by intro _; rfl) : PT X e (rdT c (mTest m)) :=
  PTw (pt_val h he) fun σ H Q h => rd_test h
def mChain (f g : MV → MV → Option MV) (a b d : ME) : ME := fun ρ => (a ρ).bind fun x ρ1 => (b ρ1).bind fun y ρ2 => match f x y with
  | some (.bl true) => (d ρ2).bind fun z ρ3 => match g y z with | some w => .ok (w, ρ3) | none => .stuck
  | some (.bl false) => .ok (.bl false, ρ2)
  | _ => .stuck
theorem opEnd {f : MV → MV → Option MV} {r : R2} (o : OpS c.K f r) {F Hk H : Hp} {bp : List (Nat × Addr)} {σ : St} {ρ : Env} {Q : VK} {x y : MV} {v w : V} (S : At c F Hk H bp σ ρ) (r1 : RV c.K Hk x v) (r2 : RV c.K Hk y w)
    (h : okE c F Hk bp σ Q (match f x y with | some z => .ok (z, ρ) | none => .stuck)) : r v w H Q := by
  cases e : f x y with
  | none => rw [e] at h; exact h.elim
  | some z =>
    rw [e] at h
    exact o x y z v w Hk H Q e S.1.ex r1 r2 (fun u ru => h _ _ u (Ex.refl _) S.1 ru) fun p ob hp ru => h _ _ _ (Ex.new (S.1.ex.back hp)) (S.1.new hp) ru
theorem rd_chain {f g : MV → MV → Option MV} {r r' : R2} (o : OpS c.K f r) (o' : OpS c.K g r') {a b d : ME} {σ : St} {H : Hp} {Q : VK} (h : rdE c (mChain f g a b d) σ H Q) : tChain r r' (rdE c a) (rdE c b) (rdE c d) σ H Q := by
  obtain ⟨F, Hk, bp, ρ, S, h⟩ := h
  refine rdw (bE postE S h) fun v H1 ⟨Hk1, x, ρ1, x1, S1, r1, h1⟩ => ?_
  refine rdw (bE postE S1 h1) fun w H2 ⟨Hk2, y, ρ2, x2, S2, r2, h2⟩ => ?_
  split at h2
  · rename_i e
    refine o x y _ v w Hk2 H2 _ e S2.1.ex (RV.mono x2 _ _ r1) r2 (fun u ru => ⟨true, RV.bl.mp ru, ?_⟩) fun p ob hp ru => nomatch (RV.bl.mp ru)
    rw [if_pos rfl]
    refine rdw (bE postE S2 h2) fun z H3 ⟨Hk3, zz, ρ3, x3, S3, r3, h3⟩ => ?_
    exact opEnd o' S3 (RV.mono x3 _ _ r2) r3 h3
  · rename_i e
    refine o x y _ v w Hk2 H2 _ e S2.1.ex (RV.mono x2 _ _ r1) r2 (fun u ru => ⟨false, RV.bl.mp ru, ?_⟩) fun p ob hp ru => nomatch (RV.bl.mp ru)
    rw [if_neg (by decide)]
    exact h2 _ _ _ (Ex.refl _) S2.1 (RV.bl.mpr rfl)
  · exact h2.elim
theorem me_chain {op op' : CmpOp} {f g : MV → MV → Option MV} {r r' : R2} {a b d : Expr} {ma mb md : ME} {pos : Pos} (ho : OpR X (compareOp op) r) (o : OpS c.K f r) (ho' : OpR X (compareOp op') r') (o' : OpS c.K g r')
    (ha : PE X a (rdE c ma)) (hb : PE X b (rdE c mb)) (hd : PE X d (rdE c md)) (hm : lastMarks [op, op'] [b, d] = false := by with_unfolding_all rfl) : PE X (.Compare a [op, op'] [b, d] pos) (rdE c (mChain f g ma mb md)) :=
  PEw (pe_chain ho ho' ha hb hd hm) fun _ _ _ h => rd_chain o o' h
theorem mt_chain {op op' : CmpOp} {f g : MV → MV → Option MV} {r r' : R2} {a b d : Expr} {ma mb md : ME} {pos : Pos} (ho : OpR X (compareOp op) r) (o : OpS c.K f r) (ho' : OpR X (compareOp op') r') (o' : OpS c.K g r')
    (ha : PE X a (rdE c ma)) (hb : PE X b (rdE c mb)) (hd : PE X d (rdE c md)) (hm : lastMarks [op, op'] [b, d] = false := by with_unfolding_all rfl) : PT X (.Compare a [op, op'] [b, d] pos) (rdT c (mTest (mChain f g ma mb md))) :=
  PTw (pt_chain ho ho' ha hb hd hm) fun σ H Q h => rd_chain (Q := fun x H' => ∃ k, x = .bl k ∧ Q k H') o o' (rd_test h)
def mAndT (a b : MT) : MT := fun ρ => (a ρ).bind fun x ρ1 => if x then b ρ1 else .ok (false, ρ1)
def mOrT (a b : MT) : MT := fun ρ => (a ρ).bind fun x ρ1 => if x then .ok (true, ρ1) else b ρ1
def mNotT (a : MT) : MT := fun ρ => (a ρ).bind fun x ρ1 => .ok (!x, ρ1)
def mBv (t : MT) : ME := fun ρ => (t ρ).bind fun x ρ1 => .ok (.bl x, ρ1)
theorem rd_andT {a b : MT} {σ : St} {H : Hp} {Q : Bool → Hp → Prop} (h : rdT c (mAndT a b) σ H Q) : tAnd (rdT c a) (rdT c b) σ H Q := by
  obtain ⟨F, Hk, bp, ρ, S, h⟩ := h
  refine rdTw (bT postT S h) fun k H1 ⟨Hk1, ρ1, x1, S1, h1⟩ => ?_
  cases k with
  | true => rw [if_pos rfl] at h1 ⊢; exact ⟨F, Hk1, bp, ρ1, S1, h1⟩
  | false => rw [if_neg (by decide)] at h1 ⊢; exact h1 _ _ (Ex.refl _) S1.1
theorem rd_orT {a b : MT} {σ : St} {H : Hp} {Q : Bool → Hp → Prop} (h : rdT c (mOrT a b) σ H Q) : tOr (rdT c a) (rdT c b) σ H Q := by
  obtain ⟨F, Hk, bp, ρ, S, h⟩ := h
  refine rdTw (bT postT S h) fun k H1 ⟨Hk1, ρ1, x1, S1, h1⟩ => ?_
  cases k with
  | true => rw [if_pos rfl] at h1 ⊢; exact h1 _ _ (Ex.refl _) S1.1
  | false => rw [if_neg (by decide)] at h1 ⊢; exact ⟨F, Hk1, bp, ρ1, S1, h1⟩
theorem rd_notT {a : MT} {σ : St} {H : Hp} {Q : Bool → Hp → Prop} (h : rdT c (mNotT a) σ H Q) : tNot (rdT c a) σ H Q := by
  obtain ⟨F, Hk, bp, ρ, S, h⟩ := h
  exact rdTw (bT postT S h) fun k H1 ⟨Hk1, ρ1, x1, S1, h1⟩ => h1 _ _ (Ex.refl _) S1.1
theorem mw_one_and {a : Expr} {m : MT} {pos : Pos} (h : PT X a (rdT c m)) : PW X (.BoolOp .And [a] pos) (rdT c m) := pw_and1 h
theorem mw_one_or {a : Expr} {m : MT} {pos : Pos} (h : PT X a (rdT c m)) : PW X (.BoolOp .Or [a] pos) (rdT c m) := pw_or1 h
theorem mw_and {a b : Expr} {r : List Expr} {m n : MT} {pos : Pos} (h : PT X a (rdT c m)) (g : PW X (.BoolOp .And (b :: r) pos) (rdT c n)) : PW X (.BoolOp .And (a :: b :: r) pos) (rdT c (mAndT m n)) := PWw (pw_and h g) fun _ _ _ q => rd_andT q
theorem mw_or {a b : Expr} {r : List Expr} {m n : MT} {pos : Pos} (h : PT X a (rdT c m)) (g : PW X (.BoolOp .Or (b :: r) pos) (rdT c n)) : PW X (.BoolOp .Or (a :: b :: r) pos) (rdT c (mOrT m n)) := PWw (pw_or h g) fun _ _ _ q => rd_orT q
theorem mt_not {a : Expr} {m : MT} {pos : Pos} (h : PT X a (rdT c m)) : PT X (.UnaryOp .Not a pos) (rdT c (mNotT m)) := PTw (pt_not h) fun _ _ _ q => rd_notT q
theorem okBv {F Hk : Hp} {bp : List (Nat × Addr)} {σ : St} {Q : VK} {r : Res (Bool × Env)} (h : okT c F Hk bp σ (fun k H => Q (.bl k) H) r) : okE c F Hk bp σ Q (r.bind fun x ρ1 => .ok (.bl x, ρ1)) := by
  cases r with
  | ok a =>
    intro Hk2 H2 v x S rv
    rw [RV.bl.mp rv]
    exact h Hk2 H2 x S
  | exc e ρ => exact h
  | stuck => exact h
theorem rdBv {t : MT} {σ : St} {H : Hp} {Q : VK} (h : rdT c t σ H fun k H1 => Q (.bl k) H1) : rdE c (mBv t) σ H Q := let ⟨F, Hk, bp, ρ, S, q⟩ := h; ⟨F, Hk, bp, ρ, S, okBv q⟩
theorem rdBv' {t : MT} {σ : St} {H : Hp} {Q : VK} (h : rdE c (mBv t) σ H Q) : rdT c t σ H fun k H1 => Q (.bl k) H1 := by
  obtain ⟨F, Hk, bp, ρ, S, h⟩ := h
  exact rdTw (bT postE S h) fun k H1 ⟨Hk1, ρ1, x1, S1, h1⟩ => h1 _ _ _ (Ex.refl _) S1.1 (RV.bl.mpr rfl)
end
end Tm
set_option Elab.async false
set_option linter.all false
set_option maxRecDepth 100000
set_option maxHeartbeats 2000000
namespace Tm
open PySem L2
open Evl (Ex ex_rd ex_l ex_t)
section
variable {X : Cx} {c : Ct}
theorem rd_oneV {a : ME} {σ : St} {H : Hp} {Q : VK} (h : rdE c (mBv (mTest a)) σ H Q) : rdE c a σ H Q := rdw (rd_test (rdBv' h)) fun v H1 ⟨k, e, q⟩ => by rw [e]; exact q
theorem me_one {op : BoolOp} {a : Expr} {m : ME} {pos : Pos} (h : PE X a (rdE c m)) : PE X (.BoolOp op [a] pos) (rdE c (mBv (mTest m))) := PEw (pe_one h) fun _ _ _ q => rd_oneV q
theorem me_and {a b : Expr} {r : List Expr} {m : ME} {t : MT} {pos : Pos} (h : PE X a (rdE c m)) (g : PE X (.BoolOp .And (b :: r) pos) (rdE c (mBv t))) : PE X (.BoolOp .And (a :: b :: r) pos) (rdE c (mBv (mAndT (mTest m) t))) :=
  PEw (pe_and h g) fun σ H Q q => rdw (rd_test (rd_andT (rdBv' q))) fun v H1 ⟨k, e, q⟩ => ⟨k, e, by
    cases k with
    | true => rw [if_pos rfl] at q ⊢; exact rdBv q
    | false => rw [if_neg (by decide)] at q ⊢; exact q⟩
def mUn (f : MV → Option MV) (a : ME) : ME := fun ρ => (a ρ).bind fun x ρ1 => match f x with | some z => .ok (z, ρ1) | none => .stuck
def fNeg : MV → Option MV
  | .int i => some (.int (-i))
  | _ => none
def UnS (K : PySem.W.Frag) (f : MV → Option MV) (r : V → Hp → VK → Prop) : Prop := ∀ (x z : MV) (v : V) (Hk H : Hp) (Q : VK), f x = some z → Ex Hk H → RV K Hk x v → (∀ u, RV K Hk z u → Q u H) →
  (∀ p o, H p = none → RV K (upd Hk p o) z (.ref p) → Q (.ref p) (upd H p o)) → r v H Q
theorem unEnd {f : MV → Option MV} {r : V → Hp → VK → Prop} (o : UnS c.K f r) {F Hk H : Hp} {bp : List (Nat × Addr)} {σ : St} {ρ : Env} {Q : VK} {x : MV} {v : V} (S : At c F Hk H bp σ ρ) (r1 : RV c.K Hk x v)
    (h : okE c F Hk bp σ Q (match f x with | some z => .ok (z, ρ) | none => .stuck)) : r v H Q := by
  cases e : f x with
  | none => rw [e] at h; exact h.elim
  | some z =>
    rw [e] at h
    exact o x z v Hk H Q e S.1.ex r1 (fun u ru => h _ _ u (Ex.refl _) S.1 ru) fun p ob hp ru => h _ _ _ (Ex.new (S.1.ex.back hp)) (S.1.new hp) ru
theorem rd_un {f : MV → Option MV} {r : V → Hp → VK → Prop} (o : UnS c.K f r) {a : ME} {σ : St} {H : Hp} {Q : VK} (h : rdE c (mUn f a) σ H Q) : tUn r (rdE c a) σ H Q := by
  obtain ⟨F, Hk, bp, ρ, S, h⟩ := h
  exact rdw (bE postE S h) fun v H1 ⟨Hk1, x, ρ1, x1, S1, r1, h1⟩ => unEnd o S1 r1 h1
theorem us_neg {K : PySem.W.Frag} : UnS K fNeg (rU fun i => .int (-i)) := by
  intro x z v Hk H Q e ex r1 q qn
  unfold fNeg at e
  split at e
  · cases e; exact ⟨_, RV.int.mp r1, q _ (RV.int.mpr rfl)⟩
  · cases e
theorem me_neg {a : Expr} {m : ME} {pos : Pos} (h : PE X a (rdE c m)) : PE X (.UnaryOp .USub a pos) (rdE c (mUn fNeg m)) := PEw (pe_un un_neg h) fun _ _ _ q => rd_un us_neg q
def mNil : MA := fun ρ => .ok ([], ρ)
def mCons (a : ME) (b : MA) : MA := fun ρ => (a ρ).bind fun x ρ1 => (b ρ1).bind fun xs ρ2 => .ok (x :: xs, ρ2)
theorem ma_nil : PA X [] (rdA c mNil) := PAw pa_nil fun σ H Q h => by
  obtain ⟨F, Hk, bp, ρ, S, h⟩ := h
  exact h _ _ _ (Ex.refl _) S.1 (RVs.nil.mpr rfl)
theorem ma_cons {e : Expr} {es : List Expr} {a : ME} {b : MA} (ha : PE X e (rdE c a)) (hb : PA X es (rdA c b)) (hs : starEach (e :: es) X.env = (false, eval e X.env) :: starEach es X.env := by rfl) : PA X (e :: es) (rdA c (mCons a b)) :=
  PAw (pa_cons ha hb hs) fun σ H Q h => by
    obtain ⟨F, Hk, bp, ρ, S, h⟩ := h
    refine rdw (bE postA S h) fun v H1 ⟨Hk1, x, ρ1, x1, S1, r1, h1⟩ => ?_
    refine rdAw (bA postA S1 h1) fun vs H2 ⟨Hk2, xs, ρ2, x2, S2, r2, h2⟩ => ?_
    exact h2 _ _ _ (Ex.refl _) S2.1 (RVs.cons.mpr ⟨v, vs, rfl, RV.mono x2 _ _ r1, r2⟩)
def mTup (a : MA) : ME := fun ρ => (a ρ).bind fun xs ρ1 => if szOk xs.length then .ok (.tup xs, ρ1) else .stuck
def mLst (a : MA) : ME := fun ρ => (a ρ).bind fun xs ρ1 => if szOk xs.length then .ok (.lst xs, ρ1) else .stuck
def mLstO (a : MA) : ME := fun ρ => (a ρ).bind fun xs ρ1 => if szOk xs.length then .ok (.own xs, ρ1) else .stuck
theorem me_tup {es : List Expr} {a : MA} {pos : Pos} {k : Nat} (h : PA X es (rdA c a)) : PE X (.Tuple es k pos) (rdE c (mTup a)) := PEw (pe_tup h) fun σ H Q h => by
  obtain ⟨F, Hk, bp, ρ, S, h⟩ := h
  refine rdAw (bA postE S h) fun vs H1 ⟨Hk1, xs, ρ1, x1, S1, r1, h1⟩ => ?_
  split at h1
  · rename_i hz
    refine ⟨by rw [r1.length]; exact szOk_iff.mp hz, fun p hp => h1 _ _ _ (Ex.new (S1.1.ex.back hp)) (S1.1.new hp) (RV.tup.mpr ⟨p, vs, rfl, SqT.of upd_same, r1.mono (Ex.new (S1.1.ex.back hp))⟩)⟩
  · exact h1.elim
theorem me_lst {es : List Expr} {a : MA} {pos : Pos} (h : PA X es (rdA c a)) : PE X (.List es pos) (rdE c (mLst a)) := PEw (pe_lst h) fun σ H Q h => by
  obtain ⟨F, Hk, bp, ρ, S, h⟩ := h
  refine rdAw (bA postE S h) fun vs H1 ⟨Hk1, xs, ρ1, x1, S1, r1, h1⟩ => ?_
  split at h1
  · rename_i hz
    refine ⟨by rw [r1.length]; exact szOk_iff.mp hz, fun p hp => h1 _ _ _ (Ex.new (S1.1.ex.back hp)) (S1.1.new hp) (RV.lst.mpr ⟨p, vs, rfl, upd_same, r1.mono (Ex.new (S1.1.ex.back hp))⟩)⟩
  · exact h1.elim
theorem mo_lst {es : List Expr} {a : MA} {pos : Pos} (h : PA X es (rdA c a)) : PE X (.List es pos) (rdO c (mLstO a)) := PEw (pe_lst h) fun σ H Q h => by
  obtain ⟨F, Hk, bp, ρ, S, h⟩ := h
  refine rdAw (bA postO S h) fun vs H1 ⟨Hk1, xs, ρ1, x1, S1, r1, h1⟩ => ?_
  split at h1
  · rename_i hz
    exact ⟨by rw [r1.length]; exact szOk_iff.mp hz, fun p hp => h1 _ _ _ (Ex.refl _) (S1.1.pushOwn hp r1)⟩
  · exact h1.elim
theorem me_ix {a b : Expr} {ma mb : ME} {pos : Pos} (ha : PE X a (rdE c ma)) (hb : PE X b (rdE c mb)) (hK : c.K = X.K := by rfl) (hs : PlainIx b := by exact fun _ _ => rfl) : PE X (.Subscript a b pos) (rdE c (mOp fIx ma mb)) :=
  PEw (pe_ix ix_seq ha hb hs) fun _ _ _ q => rd_op (by rw [hK]; exact os_ix) q
theorem flat_rv {K : PySem.W.Frag} {H H' : Hp} {z : MV} {u : V} (h : flatM z = true) (r : RV K H z u) : RV K H' z u := by
  unfold flatM at h
  split at h <;> first | (cases h; done) | skip
  · rw [RV.non] at r ⊢; exact r
  · rw [RV.bl] at r ⊢; exact r
  · rw [RV.int] at r ⊢; exact r
  · rw [RV.str] at r ⊢; exact r
def has (ρ : Env) (i : Nat) : Bool := match ρ[i]? with | some (some _) => true | _ => false
theorem has_rs {F Hk H : Hp} {bp : List (Nat × Addr)} {σ : St} {ρ : Env} {i : Nat} (S : At c F Hk H bp σ ρ) (e : has ρ i = true) : ∃ v, σ[i]? = some (some v) := by
  unfold has at e
  split at e
  · rename_i x h
    obtain ⟨ow, s⟩ := S.1.ow
    obtain ⟨v, ev, _⟩ := s.s i x h
    exact ⟨v, ev⟩
  · cases e
def ixL (xs : List MV) : MV → Option MV
  | .int k => atI xs k
  | _ => none
def ixV (ρ : Env) (i : Nat) (y : MV) : Option MV := match ρ[i]? with
  | some (some (.own xs)) => ixL xs y
  | some (some x) => if x.per then fIx x y else none
  | _ => none
def mIxV (i : Nat) (b : ME) : ME := fun ρ => if has ρ i then (b ρ).bind fun y ρ1 => match ixV ρ1 i y with | some z => .ok (z, ρ1) | none => .stuck else .stuck
theorem rd_ixV {i : Nat} {b : ME} {σ : St} {H : Hp} {Q : VK} (h : rdE c (mIxV i b) σ H Q) : tOp (rIx c.K) (tVar i) (rdE c b) σ H Q := by
  obtain ⟨F, Hk, bp, ρ, S, h⟩ := h
  unfold mIxV at h
  split at h
  · rename_i hh
    obtain ⟨v, ev⟩ := has_rs S hh
    refine ⟨v, ev, ?_⟩
    refine rdw (bE postE S h) fun w H1 ⟨Hk1, y, ρ1, x1, S1, r1, h1⟩ => ?_
    cases e : ixV ρ1 i y with
    | none => rw [e] at h1; exact h1.elim
    | some z =>
      rw [e] at h1
      unfold ixV at e
      split at e
      · rename_i xs hx
        obtain ⟨p, vs, e1, e2, e3, e4, e5⟩ := S1.1.getOwn hx
        rw [ev] at e1
        cases e1
        unfold ixL at e
        split at e
        · obtain ⟨u, eu, ru⟩ := atI_rv e3 e
          exact .inl ⟨p, vs, _, u, rfl, RV.int.mp r1, SqL.of e2, eu, h1 _ _ u (Ex.refl _) S1.1 ru⟩
        · cases e
      · rename_i x n hx
        split at e
        · rename_i hp
          obtain ⟨w2, e1, r2⟩ := S1.1.get hx hp
          rw [ev] at e1
          cases e1
          exact os_ix _ _ _ _ _ Hk1 H1 Q e S1.1.ex r2 r1 (fun u ru => h1 _ _ u (Ex.refl _) S1.1 ru) fun p ob hp' ru => h1 _ _ _ (Ex.new (S1.1.ex.back hp')) (S1.1.new hp') ru
        · cases e
      · cases e
  · exact h.elim
theorem me_ixV {i : Nat} {x : Str} {b : Expr} {mb : ME} {pos pos' : Pos} (hN : X.N[i]? = some x) (hv : Vis X.env.scope x) (hb : PE X b (rdE c mb)) (hK : c.K = X.K := by rfl) (hs : PlainIx b := by exact fun _ _ => rfl) (hd : (x == ("__debug__" : Str)) = false := by decide) (hcd : (x == ("__classdict__" : Str)) = false := by decide) :
    PE X (.Subscript (.Name x pos') b pos) (rdE c (mIxV i mb)) := PEw (pe_ix ix_seq (pe_var hN hv hd hcd) hb hs) fun _ _ _ q => by rw [← hK]; exact rd_ixV q
def mNo : Env → Res (Option Int × Env) := fun ρ => .ok (none, ρ)
def mPart (a : ME) : Env → Res (Option Int × Env) := fun ρ => (a ρ).bind fun x ρ1 => match x with | .int i => .ok (some i, ρ1) | _ => .stuck
def okP (c : Ct) (F Hk : Hp) (bp : List (Nat × Addr)) (σ : St) (Q : Option Int → Hp → Prop) : Res (Option Int × Env) → Prop
  | .ok (x, ρ') => ∀ Hk' H', Ex Hk Hk' → RS c.K F Hk' H' bp σ ρ' → Q x H'
  | .exc e ρ' => Wish c F Hk bp σ e ρ'
  | .stuck => False
theorem okP.mono {F Hk Hk' : Hp} {bp : List (Nat × Addr)} {σ : St} {Q : Option Int → Hp → Prop} {r : Res (Option Int × Env)} (x : Ex Hk Hk') (h : okP c F Hk bp σ Q r) : okP c F Hk' bp σ Q r := by
  cases r with
  | ok a => exact fun Hk2 H2 x2 => h Hk2 H2 (x.trans x2)
  | exc e ρ => exact Wish.mono x h
  | stuck => exact h
theorem postP {F : Hp} {bp : List (Nat × Addr)} {σ : St} {Q : Option Int → Hp → Prop} : Post c F bp σ fun Hk r => okP c F Hk bp σ Q r := ⟨fun _ _ _ h => h, fun _ h => h, fun _ _ _ x h => okP.mono x h⟩
def rdP (c : Ct) (m : Env → Res (Option Int × Env)) : TO := fun σ H Q => ∃ F Hk bp ρ, At c F Hk H bp σ ρ ∧ okP c F Hk bp σ Q (m ρ)
theorem POw {e : Option Expr} {t t' : TO} (h : PO X e t) (w : ∀ σ H Q, t' σ H Q → t σ H Q) : PO X e t' := ⟨fun pins s σ H Q I q => h.run pins s σ H Q I (w σ H Q q)⟩
theorem mp_none : PO X none (rdP c mNo) := POw po_none fun σ H Q ⟨F, Hk, bp, ρ, S, h⟩ => h _ _ (Ex.refl _) S.1
theorem mp_some {e : Expr} {m : ME} (h : PE X e (rdE c m)) : PO X (some e) (rdP c (mPart m)) := POw (po_some h) fun σ H Q ⟨F, Hk, bp, ρ, S, h⟩ => rdw (bE postP S h) fun v H1 ⟨Hk1, x, ρ1, x1, S1, r1, h1⟩ => by
  cases x with
  | int i => exact ⟨i, RV.int.mp r1, h1 _ _ (Ex.refl _) S1.1⟩
  | _ => exact h1.elim
theorem bP {F Hk H : Hp} {bp : List (Nat × Addr)} {σ : St} {ρ : Env} {β : Type} {P : Hp → Res (β × Env) → Prop} (p : Post c F bp σ P) {a : Env → Res (Option Int × Env)} {k : Option Int → Env → Res (β × Env)} (S : At c F Hk H bp σ ρ) (h : P Hk ((a ρ).bind k)) :
    rdP c a σ H fun b H1 => ∃ Hk1 ρ1, Ex Hk Hk1 ∧ At c F Hk1 H1 bp σ ρ1 ∧ P Hk1 (k b ρ1) := by
  refine ⟨F, Hk, bp, ρ, S, ?_⟩
  cases e : a ρ with
  | stuck => rw [e] at h; exact p.st _ h
  | exc x ρ' => rw [e] at h; exact p.ex _ _ _ h
  | ok q =>
    rw [e] at h
    exact fun Hk1 H1 x1 S1 => ⟨Hk1, q.2, x1, ⟨S1, S.2⟩, p.mono _ _ _ x1 h⟩
def cutM (xs : List MV) (lo hi : Option Int) : List MV := (xs.drop (HT.sIx xs.length 0 lo)).take (HT.sIx xs.length xs.length hi - HT.sIx xs.length 0 lo)
theorem RVs.cut {K : PySem.W.Frag} {H : Hp} {xs : List MV} {vs : List V} (r : RVs K H xs vs) (lo hi : Option Int) : RVs K H (cutM xs lo hi) (cutV vs lo hi) := by
  unfold cutM cutV
  rw [r.length]
  exact (r.drop _).take _
def fSl : MV → Option Int → Option Int → Option MV
  | .lst xs, lo, hi => some (.lst (cutM xs lo hi))
  | .tup xs, lo, hi => some (.tup (cutM xs lo hi))
  | .str z, lo, hi => if szOk z.length then some (.str (cutS z lo hi)) else none
  | _, _, _ => none
def rSlM (K : PySem.W.Frag) : V → Option Int → Option Int → Hp → VK → Prop := fun x lo hi H Q => rSlL K x lo hi H Q ∨ rSlA K x lo hi H Q ∨ rSlS x lo hi H Q
theorem sl_M : SlR X (rSlM X.K) := SlR.or sl_list (SlR.or sl_tupA sl_str)
theorem whole_cut {xs : List MV} {lo hi : Option Int} (h : HT.sIx xs.length 0 lo = 0 ∧ HT.sIx xs.length xs.length hi = xs.length) : cutM xs lo hi = xs := by
  unfold cutM
  rw [h.1, h.2]
  simp
theorem os_sl {K : PySem.W.Frag} {x z : MV} {lo hi : Option Int} {v : V} {Hk H : Hp} {Q : VK} (e : fSl x lo hi = some z) (ex : Ex Hk H) (r1 : RV K Hk x v) (q : ∀ u, RV K Hk z u → Q u H)
    (qn : ∀ p o, H p = none → RV K (upd Hk p o) z (.ref p) → Q (.ref p) (upd H p o)) : rSlM K v lo hi H Q := by
  unfold fSl at e
  split at e
  · cases e
    obtain ⟨p1, vs, rfl, h1, s1⟩ := RV.lst.mp r1
    refine .inl ⟨p1, vs, rfl, SqL.of (ex _ _ h1), fun p hp => qn p _ hp ?_⟩
    exact RV.lst.mpr ⟨p, _, rfl, upd_same, (s1.cut lo hi).mono (Ex.new (ex.back hp))⟩
  · cases e
    obtain ⟨p1, vs, rfl, h1, s1⟩ := RV.tup.mp r1
    refine .inr (.inl ⟨p1, vs, rfl, ex_t ex h1, fun hw => ?_, fun hw p hp => qn p _ hp ?_⟩)
    · rw [s1.length] at hw
      rw [whole_cut hw] at q
      exact q _ r1
    · exact RV.tup.mpr ⟨p, _, rfl, SqT.of upd_same, (s1.cut lo hi).mono (Ex.new (ex.back hp))⟩
  · split at e
    · rename_i hz
      cases e
      exact .inr (.inr ⟨_, RV.str.mp r1, szOk_iff.mp hz, q _ (RV.str.mpr rfl)⟩)
    · cases e
  · cases e
def mSl (a : ME) (l h : Env → Res (Option Int × Env)) : ME := fun ρ => (a ρ).bind fun x ρ1 => (l ρ1).bind fun i ρ2 => (h ρ2).bind fun j ρ3 => match fSl x i j with | some z => .ok (z, ρ3) | none => .stuck
theorem rd_sl {a : ME} {l h' : Env → Res (Option Int × Env)} {σ : St} {H : Hp} {Q : VK} (h : rdE c (mSl a l h') σ H Q) : tSl (rSlM c.K) (rdE c a) (rdP c l) (rdP c h') σ H Q := by
  obtain ⟨F, Hk, bp, ρ, S, h⟩ := h
  refine rdw (bE postE S h) fun v H1 ⟨Hk1, x, ρ1, x1, S1, r1, h1⟩ => ?_
  have w : ∀ {m : Env → Res (Option Int × Env)} {σ : St} {H : Hp} {Q Q' : Option Int → Hp → Prop}, rdP c m σ H Q → (∀ v H, Q v H → Q' v H) → rdP c m σ H Q' := fun {m σ H Q Q'} ⟨F, Hk, bp, ρ, S, q⟩ w => ⟨F, Hk, bp, ρ, S, by
    cases e : m ρ with
    | ok a => rw [e] at q; exact fun Hk2 H2 x S => w _ _ (q Hk2 H2 x S)
    | exc e' ρ => rw [e] at q; exact q
    | stuck => rw [e] at q; exact q⟩
  refine w (bP postE S1 h1) fun i H2 ⟨Hk2, ρ2, x2, S2, h2⟩ => ?_
  refine w (bP postE S2 h2) fun j H3 ⟨Hk3, ρ3, x3, S3, h3⟩ => ?_
  have h3 : okE c F Hk3 bp σ Q (match fSl x i j with | some z => .ok (z, ρ3) | none => .stuck) := h3
  cases e : fSl x i j with
  | none => rw [e] at h3; exact h3.elim
  | some z =>
    rw [e] at h3
    exact os_sl e S3.1.ex (RV.mono (x2.trans x3) _ _ r1) (fun u ru => h3 _ _ u (Ex.refl _) S3.1 ru) fun p ob hp ru => h3 _ _ _ (Ex.new (S3.1.ex.back hp)) (S3.1.new hp) ru
theorem me_sl {a : Expr} {lo hi : Option Expr} {ma : ME} {ml mh : Env → Res (Option Int × Env)} {pos p2 : Pos} (ha : PE X a (rdE c ma)) (hl : PO X lo (rdP c ml)) (hh : PO X hi (rdP c mh)) (hK : c.K = X.K := by rfl) : PE X (.Subscript a (.Slice lo hi none p2) pos) (rdE c (mSl ma ml mh)) :=
  PEw (pe_slice sl_M ha hl hh) fun _ _ _ q => by rw [← hK]; exact rd_sl q
section
variable {a b : Expr} {ma mb : ME} {pos : Pos}
theorem me_add (ha : PE X a (rdE c ma)) (hb : PE X b (rdE c mb)) (hK : c.K = X.K := by rfl) : PE X (.BinOp a .Add b pos) (rdE c (mOp fAdd ma mb)) := me_op op_addM (by rw [← hK]; exact os_add) ha hb
theorem me_sub (ha : PE X a (rdE c ma)) (hb : PE X b (rdE c mb)) : PE X (.BinOp a .Sub b pos) (rdE c (mOp fSub ma mb)) := me_op op_sub os_sub ha hb
theorem me_mul (ha : PE X a (rdE c ma)) (hb : PE X b (rdE c mb)) (hK : c.K = X.K := by rfl) : PE X (.BinOp a .Mult b pos) (rdE c (mOp fMul ma mb)) := me_op op_mulM (by rw [← hK]; exact os_mul) ha hb
theorem me_div (ha : PE X a (rdE c ma)) (hb : PE X b (rdE c mb)) : PE X (.BinOp a .FloorDiv b pos) (rdE c (mOp fDiv ma mb)) := me_op op_divM os_div ha hb
theorem me_mod (ha : PE X a (rdE c ma)) (hb : PE X b (rdE c mb)) : PE X (.BinOp a .Mod b pos) (rdE c (mOp fMod ma mb)) := me_op op_modN os_mod ha hb
theorem me_pow (ha : PE X a (rdE c ma)) (hb : PE X b (rdE c mb)) : PE X (.BinOp a .Pow b pos) (rdE c (mOp fPow ma mb)) := me_op op_pow os_pow ha hb
end
end
end Tm
set_option Elab.async false
set_option linter.all false
set_option maxRecDepth 100000
set_option maxHeartbeats 2000000
namespace Tm
open PySem L2
open Evl (Ex ex_rd ex_l ex_t)
section
variable {X : Cx} {c : Ct}
abbrev MG := MV → Env → Option Env
def okG (c : Ct) (F Hk : Hp) (bp : List (Nat × Addr)) (Q : St → Hp → Prop) : Option Env → Prop
  | some ρ' => ∀ Hk' H' σ', Ex Hk Hk' → RS c.K F Hk' H' bp σ' ρ' → Q σ' H'
  | none => False
def rdG (c : Ct) (m : MG) : TG := fun v σ H Q => ∃ F Hk bp ρ x, At c F Hk H bp σ ρ ∧ RV c.K Hk x v ∧ okG c F Hk bp Q (m x ρ)
def rdGs (c : Ct) (m : List MV → Env → Option Env) : TGs := fun vs σ H Q => ∃ F Hk bp ρ xs, At c F Hk H bp σ ρ ∧ RVs c.K Hk xs vs ∧ okG c F Hk bp Q (m xs ρ)
theorem PGw {e : Expr} {t t' : TG} (h : PG X e t) (w : ∀ v σ H Q, t' v σ H Q → t v σ H Q) : PG X e t' := ⟨fun pins s σ H v u Q I r q => h.run pins s σ H v u Q I r (w v σ H Q q)⟩
theorem PGsw {e : List Expr} {t t' : TGs} (h : PGs X e t) (w : ∀ v σ H Q, t' v σ H Q → t v σ H Q) : PGs X e t' := ⟨fun pins s σ H v u Q I r q => h.run pins s σ H v u Q I r (w v σ H Q q)⟩
def gSet (i : Nat) : MG := fun x ρ => if i < ρ.length then some (ρ.set i (some x)) else none
theorem nb {bp : List (Nat × Addr)} {bs : List Nat} {i : Nat} (e : bp.map (·.1) = bs) (h : bs.contains i = false) : ∀ q ∈ bp, q.1 ≠ i := fun q hq z => by
  have m : i ∈ bs := by rw [← e, ← z]; exact List.mem_map.mpr ⟨q, hq, rfl⟩
  rw [List.contains_eq_mem] at h
  simp [m] at h
theorem rd_gname {i : Nat} (hb : c.bs.contains i = false) {v : V} {σ : St} {H : Hp} {Q : St → Hp → Prop} (h : rdG c (gSet i) v σ H Q) : gName i v σ H Q := by
  obtain ⟨F, Hk, bp, ρ, y, S, r, h⟩ := h
  unfold gSet at h
  split at h
  · rename_i hl
    exact h _ _ _ (Ex.refl _) (S.1.set hl r (nb S.2.1 hb))
  · exact h.elim
theorem mg_name {i : Nat} {x : Str} {pos : Pos} (hN : X.N.Nodup) (hi : X.N[i]? = some x) (hx : Loc X.env.scope x) (hb : c.bs.contains i = false := by rfl) (hf : X.fn x = true ∨ X.env.scope.names.lookup x = some .local := by first | exact .inl rfl | exact .inr rfl | assumption) : PG X (.Name x pos) (rdG c (gSet i)) :=
  PGw (pg_name hN hi hx hf) fun v σ H Q h => rd_gname hb h
def gsNil : List MV → Env → Option Env := fun xs ρ => match xs with | [] => some ρ | _ => none
def gsCons (a : MG) (b : List MV → Env → Option Env) : List MV → Env → Option Env := fun xs ρ => match xs with
  | x :: r => (match a x ρ with | some ρ1 => b r ρ1 | none => none)
  | [] => none
def gTp (n : Nat) (b : List MV → Env → Option Env) : MG := fun x ρ => match x with
  | .tup xs => if xs.length = n then b xs ρ else none
  | .lst xs => if xs.length = n then b xs ρ else none
  | _ => none
theorem PGor {e : Expr} {t t' : TG} (h : PG X e t) (g : PG X e t') : PG X e fun v σ H Q => t v σ H Q ∨ t' v σ H Q := ⟨fun pins s σ H v u Q I r q => by
  rcases q with q | q
  · exact h.run pins s σ H v u Q I r q
  · exact g.run pins s σ H v u Q I r q⟩
theorem mgs_nil : PGs X [] (rdGs c gsNil) := PGsw pgs_nil fun vs σ H Q ⟨F, Hk, bp, ρ, xs, S, r, h⟩ => by
  cases xs with
  | nil => exact ⟨RVs.nil.mp r, h _ _ _ (Ex.refl _) S.1⟩
  | cons x xs => exact h.elim
theorem mgs_cons {e : Expr} {es : List Expr} {a : MG} {b : List MV → Env → Option Env} (h1 : PG X e (rdG c a)) (h2 : PGs X es (rdGs c b)) (hs : (assignEach (e :: es) X.env).map (·.2) = assign e X.env :: (assignEach es X.env).map (·.2) := by rfl) : PGs X (e :: es) (rdGs c (gsCons a b)) := PGsw (pgs_cons h1 h2 hs) fun vs σ H Q ⟨F, Hk, bp, ρ, xs, S, r, h⟩ => by
  cases xs with
  | nil => exact h.elim
  | cons x xs =>
    obtain ⟨v, us, rfl, r1, r2⟩ := RVs.cons.mp r
    refine ⟨v, us, rfl, F, Hk, bp, ρ, x, S, r1, ?_⟩
    have h : okG c F Hk bp Q (match a x ρ with | some ρ1 => b xs ρ1 | none => none) := h
    cases e : a x ρ with
    | none => rw [e] at h; exact h
    | some ρ1 =>
      rw [e] at h
      intro Hk1 H1 σ1 x1 S1
      refine ⟨F, Hk1, bp, ρ1, xs, ⟨S1, S.2⟩, r2.mono x1, ?_⟩
      have h : okG c F Hk bp Q (b xs ρ1) := h
      cases e2 : b xs ρ1 with
      | none => rw [e2] at h; exact h
      | some ρ2 => rw [e2] at h; exact fun Hk2 H2 σ2 x2 => h Hk2 H2 σ2 (x1.trans x2)
theorem mg_tup {es : List Expr} {k : Nat} {b : List MV → Env → Option Env} {n : Nat} {pos : Pos} (hc : X.calm = true) (h : PGs X es (rdGs c b)) (hK : c.K = X.K := by rfl)
    (hn : (assignEach es X.env).length = n := by rfl) (hst : (assignEach es X.env).findIdx? (·.1) = none := by rfl) : PG X (.Tuple es k pos) (rdG c (gTp n b)) := PGw (PGor (pg_tup hc h hn hst) (pg_unl hc h hn hst)) fun v σ H Q ⟨F, Hk, bp, ρ, x, S, r, h⟩ => by
  unfold gTp at h
  split at h
  · split at h
    · rename_i xs hl
      obtain ⟨a, vs, rfl, h1, s1⟩ := RV.tup.mp r
      rw [← hK]
      exact .inl ⟨a, vs, rfl, ex_t S.1.ex h1, by rw [s1.length]; exact hl, F, Hk, bp, ρ, xs, S, s1, h⟩
    · exact h.elim
  · split at h
    · rename_i xs hl
      obtain ⟨a, vs, rfl, h1, s1⟩ := RV.lst.mp r
      rw [← hK]
      exact .inr ⟨a, vs, rfl, SqL.of (S.1.ex _ _ h1), by rw [s1.length]; exact hl, F, Hk, bp, ρ, xs, S, s1, h⟩
    · exact h.elim
  · exact h.elim
def mAsg (a : ME) (g : MG) : MS := fun ρ => (a ρ).bind fun x ρ1 => match g x ρ1 with | some ρ2 => .ok (.nx, ρ2) | none => .stuck
theorem rd_asg {a : ME} {g : MG} {D : Ends} {σ : St} {H : Hp} (h : rdS c (mAsg a g) D σ H) : tAsg (rdE c a) (rdG c g) D σ H := by
  obtain ⟨F, Hk, bp, ρ, S, h⟩ := h
  refine rdw (bE (postS (σ := σ)) S h) fun v H1 ⟨Hk1, x, ρ1, x1, S1, r1, h1⟩ => ⟨F, Hk1, bp, ρ1, x, S1, r1, ?_⟩
  have h1 : okS c F Hk1 bp D (match g x ρ1 with | some ρ2 => .ok (.nx, ρ2) | none => .stuck) := h1
  cases e : g x ρ1 with
  | none => rw [e] at h1; exact h1
  | some ρ2 => rw [e] at h1; exact h1
theorem ms_asg {tg e : Expr} {a : ME} {g : MG} {pos : Pos} (he : PE X e (rdE c a)) (hg : PG X tg (rdG c g)) (hs : swapsWithSole [tg] e pos.line X.env = pure false := by rfl) (hw : swappedStores [tg] e X.env = pure none := by rfl)
    (h1 : (assignEach [tg] X.env).map (·.2) = [assign tg X.env] := by rfl) : PS X (.Assign [tg] e pos) (rdS c (mAsg a g)) := PSw (ps_asg he hg hs hw h1) fun _ _ _ h => rd_asg h
theorem rd_set {i : Nat} (hb : c.bs.contains i = false) {a : ME} {D : Ends} {σ : St} {H : Hp} (h : rdS c (mAsg a (gSet i)) D σ H) : tAsg (rdE c a) (gName i) D σ H := rdw (rd_asg h) fun _ _ q => rd_gname hb q
theorem ms_set {i : Nat} {x : Str} {e : Expr} {a : ME} {pos pos' : Pos} (hN : X.N.Nodup) (hi : X.N[i]? = some x) (hx : Loc X.env.scope x) (he : PE X e (rdE c a)) (hb : c.bs.contains i = false := by rfl) (hs : swapsWith e (some (.Name x pos')) pos.line X.env = pure false := by rfl)
    (hf : X.fn x = true ∨ X.env.scope.names.lookup x = some .local := by first | exact .inl rfl | exact .inr rfl | assumption) : PS X (.Assign [.Name x pos'] e pos) (rdS c (mAsg a (gSet i))) := PSw (ps_set hN hi hx he hs hf) fun _ _ _ h => rd_set hb h
def mSetO (i : Nat) (a : ME) : MS := fun ρ => (a ρ).bind fun x ρ1 => if i < ρ1.length then .ok (.nx, ρ1.set i (some x)) else .stuck
theorem rd_setO {i : Nat} {a : ME} {D : Ends} {σ : St} {H : Hp} (hb : c.bs.contains i = false) (h : rdS c (mSetO i a) D σ H) : tAsg (rdO c a) (gName i) D σ H := by
  obtain ⟨F, Hk, bp, ρ, S, h⟩ := h
  refine rdOw (bO (postS (σ := σ)) S h) fun v H1 ⟨Hk1, x, ρ1, x1, S1, h1⟩ => ?_
  split at h1
  · rename_i hl
    refine h1 _ _ _ (Ex.refl _) (S1.take hl fun q hq => ⟨nb S.2.1 hb q hq, ?_⟩)
    have l1 : σ.length = ρ1.length := by have := S1.len; simpa using this
    rw [← l1]
    exact lt_get (S.1.bor q hq)
  · exact h1.elim
theorem ms_setO {i : Nat} {x : Str} {e : Expr} {a : ME} {pos pos' : Pos} (hN : X.N.Nodup) (hi : X.N[i]? = some x) (hx : Loc X.env.scope x) (he : PE X e (rdO c a)) (hb : c.bs.contains i = false := by rfl) (hs : swapsWith e (some (.Name x pos')) pos.line X.env = pure false := by rfl)
    (hf : X.fn x = true ∨ X.env.scope.names.lookup x = some .local := by first | exact .inl rfl | exact .inr rfl | assumption) : PS X (.Assign [.Name x pos'] e pos) (rdS c (mSetO i a)) := PSw (ps_set hN hi hx he hs hf) fun _ _ _ h => rd_setO hb h
def mPass : MS := fun ρ => .ok (.nx, ρ)
def mSeq (a b : MS) : MS := fun ρ => (a ρ).bind fun f ρ1 => match f with | .nx => b ρ1 | f => .ok (f, ρ1)
theorem okS.seq {F Hk : Hp} {bp : List (Nat × Addr)} {D : Ends} {b : MS} (eb : bp.map (·.1) = c.bs ∧ c.J F bp) {r : Res (Fl × Env)} (h : okS c F Hk bp D (r.bind fun f ρ1 => match f with | .nx => b ρ1 | f => .ok (f, ρ1))) : okS c F Hk bp { D with nx := rdS c b D } r := by
  cases r with
  | stuck => exact h
  | exc e ρ => exact h
  | ok q =>
    obtain ⟨f, ρ1⟩ := q
    cases f with
    | nx => exact fun Hk1 H1 σ1 x1 S1 => ⟨F, Hk1, bp, ρ1, ⟨S1, eb⟩, okS.mono x1 h⟩
    | br => exact h
    | ct => exact h
    | rt x => exact h
theorem rd_seq {a b : MS} {D : Ends} {σ : St} {H : Hp} (h : rdS c (mSeq a b) D σ H) : tSeq (rdS c a) (rdS c b) D σ H := by
  obtain ⟨F, Hk, bp, ρ, S, h⟩ := h
  exact ⟨F, Hk, bp, ρ, S, okS.seq S.2 h⟩
theorem mss_nil : PSs X [] (rdS c mPass) := PSsw pss_nil fun D σ H ⟨F, Hk, bp, ρ, S, h⟩ => h _ _ _ (Ex.refl _) S.1
theorem mss_one {st : Stmt} {a : MS} (h : PS X st (rdS c a)) : PSs X [st] (rdS c a) := pss_one h
theorem mss_cons {st : Stmt} {r : List Stmt} {a b : MS} (h : PS X st (rdS c a)) (g : PSs X r (rdS c b)) : PSs X (st :: r) (rdS c (mSeq a b)) := PSsw (pss_cons h g) fun _ _ _ q => rd_seq q
def mIfS (t : MT) (a b : MS) : MS := fun ρ => (t ρ).bind fun x ρ1 => if x then a ρ1 else b ρ1
theorem ms_if {t : Expr} {a b : List Stmt} {mt : MT} {ma mb : MS} {pos : Pos} (ht : PT X t (rdT c mt)) (ha : PSs X a (rdS c ma)) (hb : PSs X b (rdS c mb)) : PS X (.If t a b pos) (rdS c (mIfS mt ma mb)) := PSw (ps_if ht ha hb) fun D σ H ⟨F, Hk, bp, ρ, S, h⟩ => by
  refine rdTw (bT (postS (σ := σ)) S h) fun k H1 ⟨Hk1, ρ1, x1, S1, h1⟩ => ?_
  cases k with
  | true => rw [if_pos rfl] at h1 ⊢; exact ⟨F, Hk1, bp, ρ1, S1, h1⟩
  | false => rw [if_neg (by decide)] at h1 ⊢; exact ⟨F, Hk1, bp, ρ1, S1, h1⟩
def mRet (a : ME) : MS := fun ρ => (a ρ).bind fun x ρ1 => .ok (.rt x, ρ1)
theorem ms_ret {e : Expr} {a : ME} {pos : Pos} (h : PE X e (rdE c a)) : PS X (.Return (some e) pos) (rdS c (mRet a)) := PSw (ps_ret h) fun D σ H ⟨F, Hk, bp, ρ, S, h⟩ =>
  rdw (bE (postS (σ := σ)) S h) fun v H1 ⟨Hk1, x, ρ1, x1, S1, r1, h1⟩ => h1 _ _ _ _ (Ex.refl _) (fun q hq => lt_get (S.1.bor q hq)) (S1.1.push r1)
theorem ms_retO {e : Expr} {a : ME} {pos : Pos} (h : PE X e (rdO c a)) : PS X (.Return (some e) pos) (rdS c (mRet a)) := PSw (ps_ret h) fun D σ H ⟨F, Hk, bp, ρ, S, h⟩ =>
  rdOw (bO (postS (σ := σ)) S h) fun v H1 ⟨Hk1, x, ρ1, x1, S1, h1⟩ => h1 _ _ _ _ (Ex.refl _) (fun q hq => lt_get (S.1.bor q hq)) S1
def mDrop (a : ME) : MS := fun ρ => (a ρ).bind fun _ ρ1 => .ok (.nx, ρ1)
theorem ms_expr {e : Expr} {a : ME} {pos : Pos} (h : PE X e (rdE c a)) (hs : swapsWith e none pos.line X.env = pure false := by rfl) : PS X (.Expr e pos) (rdS c (mDrop a)) := PSw (ps_expr h hs) fun D σ H ⟨F, Hk, bp, ρ, S, h⟩ =>
  rdw (bE (postS (σ := σ)) S h) fun v H1 ⟨Hk1, x, ρ1, x1, S1, r1, h1⟩ => h1 _ _ _ (Ex.refl _) S1.1
def mMove (i : Nat) : ME := fun ρ => match ρ[i]? with
  | some (some (.obj _ _)) => .stuck
  | some (some x) => .ok (x, ρ.set i none)
  | _ => .stuck
theorem rd_move {i : Nat} (hb : c.bs.contains i = false) {σ : St} {H : Hp} {Q : VK} (h : rdO c (mMove i) σ H Q) : tVar i σ H Q := by
  obtain ⟨F, Hk, bp, ρ, S, h⟩ := h
  unfold mMove at h
  split at h
  · exact h.elim
  · rename_i x n hx
    obtain ⟨ow, s⟩ := S.1.ow
    obtain ⟨v, ev, ov⟩ := s.s i x hx
    have li := lt_get hx
    refine ⟨v, ev, h Hk H v (Ex.refl _) ?_⟩
    refine ⟨by simp [S.1.len], S.1.ex, S.1.fr, S.1.frk, ⟨put (put ow i []) ρ.length (ow i), ?_⟩, S.1.bor_app _⟩
    have nl : i ≠ ρ.length := Nat.ne_of_lt li
    have mem : ∀ j a, a ∈ put (put ow i []) ρ.length (ow i) j → (j = ρ.length ∧ a ∈ ow i) ∨ (j ≠ i ∧ j < ρ.length ∧ a ∈ ow j) := fun j a h => by
      by_cases e : j = ρ.length
      · rw [e, put_same] at h; exact .inl ⟨e, h⟩
      · rw [put_ne e] at h
        by_cases e2 : j = i
        · rw [e2, put_same] at h; cases h
        · rw [put_ne e2] at h
          exact .inr ⟨e2, s.w j (by intro z; rw [z] at h; cases h), h⟩
    refine ⟨fun j y hj => ?_, fun j a hj => ?_, fun j hj => ?_, fun j k a hjk hj hk => ?_⟩
    · rcases app_get hj with ⟨e1, e2⟩ | ⟨lt, e2⟩
      · cases e2
        rw [List.length_set] at e1
        refine ⟨v, by rw [e1, ← S.1.len]; simp, ?_⟩
        rw [e1, put_same]; exact ov
      · rcases set_get e2 with ⟨_, e3⟩ | ⟨ne, e3⟩
        · cases e3
        · obtain ⟨w, w1, w2⟩ := s.s j y e3
          have lj := lt_get e3
          exact ⟨w, by rw [List.getElem?_append_left (by rw [S.1.len]; exact lj)]; exact w1, by rw [put_ne (Nat.ne_of_lt lj), put_ne ne]; exact w2⟩
    · rcases mem j a hj with ⟨_, m⟩ | ⟨_, _, m⟩
      · exact s.f i a m
      · exact s.f j a m
    · cases e : put (put ow i []) ρ.length (ow i) j with
      | nil => exact (hj e).elim
      | cons a r =>
        rcases mem j a (by rw [e]; simp) with ⟨e, _⟩ | ⟨_, l, _⟩
        · rw [e]; simp
        · simp; omega
    · rcases mem j a hj with ⟨e1, m⟩ | ⟨e1, l1, m⟩ <;> rcases mem k a hk with ⟨e2, m2⟩ | ⟨e2, l2, m2⟩
      · exact hjk (e1.trans e2.symm)
      · exact s.d i k a (Ne.symm e2) m m2
      · exact s.d j i a e1 m m2
      · exact s.d j k a hjk m m2
  · exact h.elim
theorem mo_var {i : Nat} {x : Str} {pos : Pos} (hN : X.N[i]? = some x) (hv : Vis X.env.scope x) (hb : c.bs.contains i = false := by rfl) (hd : (x == ("__debug__" : Str)) = false := by decide) (hcd : (x == ("__classdict__" : Str)) = false := by decide) : PE X (.Name x pos) (rdO c (mMove i)) :=
  PEw (pe_var hN hv hd hcd) fun _ _ _ h => rd_move hb h
end
end Tm
set_option Elab.async false
set_option linter.all false
set_option maxRecDepth 100000
set_option maxHeartbeats 2000000
namespace Tm
open PySem L2 PySem.Spec PyProof.Rows
structure ZSrc (P : Program) (w : World) (K : PySem.W.Frag) (it : Addr) (fp : List Addr) (S : Hp → List V → Prop) (tn : Nat → Heap → Prop) : Prop where
  obj : ∀ i h, tn i h → ∃ o, h.get? it = some o ∧ ∀ v, o.data ≠ .cell v
  keep : ∀ i h h', tn i h → (∀ o, h.get? it = some o → h'.get? it = some o) → tn i h'
  inj : ∀ (X : Cx), X.K = K → ∀ pins (s : Shared) σ H xs ys, Inv X pins σ H s → S H xs → S H ys → xs = ys
  draw : ∀ (X : Cx), X.prog = P → X.w = w → X.K = K → X.calm = true → ∀ pins (s : Shared) σ H xs i, Inv X pins σ H s → S H xs → tn i s.heap →
    ∃ (Y : Nat → Value → Prop) (St : Nat → Heap → Prop), Draws P w X.A.in1 it fp xs.length Y St ∧ St i s.heap ∧ (∀ j u, Y j u → ∃ x, xs[j]? = some x ∧ RelV x u) ∧ ∀ j h, St j h → tn j h
end Tm
set_option Elab.async false
set_option linter.all false
set_option maxRecDepth 100000
set_option maxHeartbeats 2000000
namespace Tm
open PySem L2
open Evl (Ex ex_rd ex_l ex_t)
structure Walks (K : PySem.W.Frag) (Hk : Hp) (J : It) (items : List MV) : Prop where
  go : ∀ i H, Ex Hk H → i < items.length → J.go i H
  stop : ∀ H, Ex Hk H → J.stop items.length H
  yld : ∀ i H x H', Ex Hk H → i < items.length → J.yld i H x H' → ∃ y, items[i]? = some y ∧ ((H' = H ∧ RV K Hk y x) ∨ ∃ p vs ys, H p = none ∧ H' = upd H p (.tup vs) ∧ x = .ref p ∧ y = .tup ys ∧ RVs K Hk ys vs)
abbrev MI := Env → Res (List MV × Env)
def okI (c : Ct) (F Hk : Hp) (bp : List (Nat × Addr)) (σ : St) (R : It → Hp → Prop) : Res (List MV × Env) → Prop
  | .ok (xs, ρ') => ∀ Hk' H' J, Ex Hk Hk' → RS c.K F Hk' H' bp σ ρ' → Walks c.K Hk' J xs → R J H'
  | .exc e ρ' => Wish c F Hk bp σ e ρ'
  | .stuck => False
theorem okI.mono {c : Ct} {F Hk Hk' : Hp} {bp : List (Nat × Addr)} {σ : St} {Q : It → Hp → Prop} {r : Res (List MV × Env)} (x : Ex Hk Hk') (h : okI c F Hk bp σ Q r) : okI c F Hk' bp σ Q r := by
  cases r with
  | ok a => exact fun Hk2 H2 v x2 => h Hk2 H2 v (x.trans x2)
  | exc e ρ => exact Wish.mono x h
  | stuck => exact h
theorem postI {c : Ct} {F : Hp} {bp : List (Nat × Addr)} {σ : St} {R : It → Hp → Prop} : Post c F bp σ fun Hk r => okI c F Hk bp σ R r := ⟨fun _ _ _ h => h, fun _ h => h, fun _ _ _ x h => okI.mono x h⟩
def rdI (c : Ct) (m : MI) : TI := fun σ H R => ∃ F Hk bp ρ, At c F Hk H bp σ ρ ∧ okI c F Hk bp σ R (m ρ)
theorem PIw {X : Cx} {tg e : Expr} {t t' : TI} (h : PI X tg e t) (w : ∀ σ H R, t' σ H R → t σ H R) : PI X tg e t' := ⟨fun pins s σ H R I q => h.run pins s σ H R I (w σ H R q)⟩
theorem walks_l {K : PySem.W.Frag} {Hk : Hp} {a : Addr} {xs : List MV} {vs : List V} (h : SqL K Hk a vs) (r : RVs K Hk xs vs) : Walks K Hk (Itl K a) xs := by
  refine ⟨fun i H e hi => ?_, fun H e => ⟨vs, ex_l e h, by rw [r.length]; exact Nat.le_refl _⟩, fun i H x H' e hi y => ?_⟩
  · obtain ⟨v, hv, _⟩ := r.get (i := i) (x := xs[i]) (by simp [hi])
    exact ⟨vs, v, ex_l e h, hv⟩
  · obtain ⟨v, hv, rv⟩ := r.get (i := i) (x := xs[i]) (by simp [hi])
    obtain ⟨e1, y⟩ := y
    have := y vs (ex_l e h)
    rw [hv] at this
    cases this
    exact ⟨xs[i], by simp [hi], .inl ⟨e1, rv⟩⟩
theorem walks_t {K : PySem.W.Frag} {Hk : Hp} {a : Addr} {xs : List MV} {vs : List V} (h : SqT K Hk a vs) (r : RVs K Hk xs vs) : Walks K Hk (Itt K a) xs := by
  refine ⟨fun i H e hi => ?_, fun H e => ⟨vs, ex_t e h, by rw [r.length]; exact Nat.le_refl _⟩, fun i H x H' e hi y => ?_⟩
  · obtain ⟨v, hv, _⟩ := r.get (i := i) (x := xs[i]) (by simp [hi])
    exact ⟨vs, v, ex_t e h, hv⟩
  · obtain ⟨v, hv, rv⟩ := r.get (i := i) (x := xs[i]) (by simp [hi])
    obtain ⟨e1, y⟩ := y
    have := y vs (ex_t e h)
    rw [hv] at this
    cases this
    exact ⟨xs[i], by simp [hi], .inl ⟨e1, rv⟩⟩
def rngM (lo c : Int) (n : Nat) : List MV := (List.range n).map fun i => .int (lo + (i : Nat) * c)
theorem rngM_get {lo c : Int} {n i : Nat} (h : i < n) : (rngM lo c n)[i]? = some (.int (lo + (i : Nat) * c)) := by
  unfold rngM
  rw [List.getElem?_map, List.getElem?_range h]; rfl
theorem rngM_len {lo c : Int} {n : Nat} : (rngM lo c n).length = n := by simp [rngM]
theorem walks_r {K : PySem.W.Frag} {Hk : Hp} {lo : Int} {n : Nat} : Walks K Hk (Itr lo n) (rngM lo 1 n) := by
  refine ⟨fun i H e hi => by rw [rngM_len] at hi; exact hi, fun H e => by rw [rngM_len]; exact Nat.le_refl n, fun i H x H' e hi y => ?_⟩
  rw [rngM_len] at hi
  obtain ⟨e1, e2⟩ := y
  exact ⟨_, rngM_get hi, .inl ⟨e1, by rw [e2, Int.mul_one]; exact RV.int.mpr rfl⟩⟩
theorem walks_rc {K : PySem.W.Frag} {Hk : Hp} {lo c : Int} {n : Nat} : Walks K Hk (Itc lo c n) (rngM lo c n) := by
  refine ⟨fun i H e hi => by rw [rngM_len] at hi; exact hi, fun H e => by rw [rngM_len]; exact Nat.le_refl n, fun i H x H' e hi y => ?_⟩
  rw [rngM_len] at hi
  obtain ⟨e1, e2⟩ := y
  exact ⟨_, rngM_get hi, .inl ⟨e1, by rw [e2]; exact RV.int.mpr rfl⟩⟩
def signsM (z : Str) : List MV := z.cps.toList.map fun c => .str ⟨#[c]⟩
theorem walks_s {K : PySem.W.Frag} {Hk : Hp} {z : Str} : Walks K Hk (Its z) (signsM z) := by
  have l : (signsM z).length = z.cps.size := by simp [signsM]
  refine ⟨fun i H e hi => by rw [l] at hi; exact hi, fun H e => by rw [l]; exact Nat.le_refl _, fun i H x H' e hi y => ?_⟩
  obtain ⟨e1, ch, e2, e3⟩ := y
  refine ⟨.str ⟨#[ch]⟩, ?_, .inl ⟨e1, by rw [e3]; exact RV.str.mpr rfl⟩⟩
  unfold signsM
  rw [List.getElem?_map, Array.getElem?_toList, e2]; rfl
theorem rvs2 {K : PySem.W.Frag} {H : Hp} {x y : MV} {v w : V} (h : RV K H x v) (g : RV K H y w) : RVs K H [x, y] [v, w] := RVs.cons.mpr ⟨v, _, rfl, h, RVs.cons.mpr ⟨w, _, rfl, g, RVs.nil.mpr rfl⟩⟩
def enumFrom (k : Nat) : List MV → List MV
  | [] => []
  | x :: xs => .tup [.int (k : Nat), x] :: enumFrom (k + 1) xs
theorem enum_get : ∀ {xs : List MV} {k i : Nat} {x : MV}, xs[i]? = some x → (enumFrom k xs)[i]? = some (.tup [.int ((k + i : Nat) : Int), x])
  | [], _, _, _, h => by simp at h
  | y :: xs, k, 0, x, h => by simp at h; subst h; rfl
  | y :: xs, k, i + 1, x, h => by
    have := enum_get (xs := xs) (k := k + 1) (i := i) (x := x) (by simpa using h)
    rw [show k + (i + 1) = k + 1 + i by omega]
    exact this
theorem enum_len : ∀ {xs : List MV} {k : Nat}, (enumFrom k xs).length = xs.length
  | [], _ => rfl
  | x :: xs, k => by simp [enumFrom, enum_len]
theorem walks_e {K : PySem.W.Frag} {Hk : Hp} {a : Addr} {xs : List MV} {vs : List V} (h : SqL K Hk a vs) (r : RVs K Hk xs vs) : Walks K Hk (Ite K a) (enumFrom 0 xs) := by
  refine ⟨fun i H e hi => ?_, fun H e => ⟨vs, ex_l e h, by rw [enum_len, r.length]; exact Nat.le_refl _⟩, fun i H x H' e hi y => ?_⟩
  · rw [enum_len] at hi
    obtain ⟨v, hv, _⟩ := r.get (i := i) (x := xs[i]) (by simp [hi])
    exact ⟨vs, v, ex_l e h, hv⟩
  · rw [enum_len] at hi
    obtain ⟨v, hv, rv⟩ := r.get (i := i) (x := xs[i]) (by simp [hi])
    obtain ⟨T, x1, e1, e2, e3, e4⟩ := y
    have q1 := e4 vs (ex_l e h)
    rw [hv] at q1
    cases q1
    refine ⟨_, enum_get (x := xs[i]) (by simp [hi]), .inr ⟨T, _, _, e2, e3, e1, rfl, ?_⟩⟩
    rw [Nat.zero_add]
    exact rvs2 (RV.int.mpr rfl) rv
section
variable {X : Cx} {c : Ct} {tg : Expr}
def itemsOf : MV → Option (List MV)
  | .lst xs => some xs
  | .tup xs => some xs
  | .scr ns => some (ns.map .int)
  | .str z => some (signsM z)
  | _ => none
def mItV (a : ME) : MI := fun ρ => (a ρ).bind fun x ρ1 => match itemsOf x with | some xs => .ok (xs, ρ1) | none => .stuck
theorem mi_val {e : Expr} {a : ME} (h : PE X e (rdE c a)) (hK : c.K = X.K := by rfl) : PI X tg e (rdI c (mItV a)) := by
  refine ⟨fun pins s σ H R I q => ?_⟩
  obtain ⟨F, Hk, bp, ρ, S, q⟩ := q
  cases ea : a ρ with
  | stuck => unfold mItV at q; rw [ea] at q; exact q.elim
  | exc x ρ1 =>
    have z : rdE c a σ H fun _ _ => False := ⟨F, Hk, bp, ρ, S, by
      unfold mItV at q; rw [ea] at q ⊢; exact q⟩
    exact (pi_str h).run pins s σ H R I (rdw z fun _ _ f => f.elim)
  | ok p =>
    obtain ⟨x, ρ1⟩ := p
    have q' : okI c F Hk bp σ R (match itemsOf x with | some xs => .ok (xs, ρ1) | none => .stuck) := by unfold mItV at q; rw [ea] at q; exact q
    have ok : ∀ Q : VK, (∀ Hk' H' v, Ex Hk Hk' → RS c.K F Hk' H' bp σ ρ1 → RV c.K Hk' x v → Q v H') → rdE c a σ H Q := fun Q k => ⟨F, Hk, bp, ρ, S, by rw [ea]; exact k⟩
    cases x with
    | lst xs =>
      refine (pi_list h).run pins s σ H R I (ok _ fun Hk1 H1 v x1 S1 r1 => ?_)
      obtain ⟨p, vs, rfl, h1, s1⟩ := RV.lst.mp r1
      refine ⟨p, rfl, ⟨vs, SqL.of (S1.ex _ _ h1)⟩, ?_⟩
      rw [← hK]
      exact q' Hk1 H1 _ x1 S1 (walks_l (SqL.of h1) s1)
    | tup xs =>
      refine (pi_tup h).run pins s σ H R I (ok _ fun Hk1 H1 v x1 S1 r1 => ?_)
      obtain ⟨p, vs, rfl, h1, s1⟩ := RV.tup.mp r1
      refine ⟨p, rfl, ⟨vs, by rw [← hK]; exact ex_t S1.ex h1⟩, ?_⟩
      rw [← hK]
      exact q' Hk1 H1 _ x1 S1 (walks_t h1 s1)
    | scr ns =>
      refine (pi_list h).run pins s σ H R I (ok _ fun Hk1 H1 v x1 S1 r1 => ?_)
      obtain ⟨p, rfl, h1⟩ := RV.scr.mp r1
      refine ⟨p, rfl, ⟨_, by rw [← hK]; exact ex_l S1.ex h1⟩, ?_⟩
      rw [← hK]
      exact q' Hk1 H1 _ x1 S1 (walks_l h1 (RVs.ints.mpr rfl))
    | str z =>
      refine (pi_str h).run pins s σ H R I (ok _ fun Hk1 H1 v x1 S1 r1 => ?_)
      exact ⟨z, RV.str.mp r1, q' Hk1 H1 _ x1 S1 walks_s⟩
    | _ => exact q'.elim
def inR (i : Int) : Bool := decide (-(2 ^ 62) ≤ i) && decide (i < 2 ^ 62)
theorem inR_iff {i : Int} : inR i = true ↔ -(2 ^ 62) ≤ i ∧ i < 2 ^ 62 := by unfold inR; simp
def mR1 (a : MA) : MI := fun ρ => (a ρ).bind fun xs ρ1 => match xs with
  | [.int j] => if inR j then .ok (rngM 0 1 j.toNat, ρ1) else .stuck
  | _ => .stuck
def rgOk (i j c : Int) : Bool := decide (c ≠ 0) && decide (c.natAbs < 1073741824) && Builtin.Range.small i j c && decide (Builtin.Range.rangeSize i j c = ((Builtin.Range.rangeSize i j c).toNat : Int))
def mR3 (a : MA) : MI := fun ρ => (a ρ).bind fun xs ρ1 => match xs with
  | [.int i, .int j, .int k] => if rgOk i j k then .ok (rngM i k (Builtin.Range.rangeSize i j k).toNat, ρ1) else .stuck
  | _ => .stuck
theorem rvs_int1 {K : PySem.W.Frag} {H : Hp} {i : Int} {vs : List V} (r : RVs K H [.int i] vs) : vs = [.int i] := (RVs.ints (ns := [i])).mp r
theorem rvs_int3 {K : PySem.W.Frag} {H : Hp} {i j k : Int} {vs : List V} (r : RVs K H [.int i, .int j, .int k] vs) : vs = [.int i, .int j, .int k] := (RVs.ints (ns := [i, j, k])).mp r
theorem mi_r1 {a : Expr} {m : MA} {p pos : Pos} (hm : X.mg "range" = none) (ha : PA X [a] (rdA c m)) (hg : Gl X "range" := by rfl) (hs : starEach [a] X.env = [(false, eval a X.env)] := by rfl) : PI X tg (.Call (.Name "range" p) [a] [] pos) (rdI c (mR1 m)) :=
  PIw (pi_range1 hg hm ha hs) fun σ H R ⟨F, Hk, bp, ρ, S, h⟩ => rdAw (bA postI S h) fun vs H1 ⟨Hk1, xs, ρ1, x1, S1, r1, h1⟩ => by
    split at h1
    · rename_i j
      split at h1
      · rename_i hj
        have := inR_iff.mp hj
        exact ⟨j, rvs_int1 r1, this.1, this.2, h1 _ _ _ (Ex.refl _) S1.1 walks_r⟩
      · exact h1.elim
    · exact h1.elim
theorem mi_r3 {a b d : Expr} {m : MA} {p pos : Pos} (hm : X.mg "range" = none) (ha : PA X [a, b, d] (rdA c m)) (hg : Gl X "range" := by rfl)
    (hs : starEach [a, b, d] X.env = (false, eval a X.env) :: starEach [b, d] X.env := by rfl) (hpl : (backTo pos (starEach [b, d] X.env)).any (·.1) = false := by rfl) : PI X tg (.Call (.Name "range" p) [a, b, d] [] pos) (rdI c (mR3 m)) :=
  PIw (pi_range3 hg hm ha hs hpl) fun σ H R ⟨F, Hk, bp, ρ, S, h⟩ => rdAw (bA postI S h) fun vs H1 ⟨Hk1, xs, ρ1, x1, S1, r1, h1⟩ => by
    split at h1
    · rename_i i j k
      split at h1
      · rename_i hj
        unfold rgOk at hj
        simp only [Bool.and_eq_true, decide_eq_true_eq] at hj
        exact ⟨i, j, k, _, rvs_int3 r1, ⟨hj.1.1.1, hj.1.1.2, hj.1.2, hj.2⟩, h1 _ _ _ (Ex.refl _) S1.1 walks_rc⟩
      · exact h1.elim
    · exact h1.elim
def mEnum (a : MA) : MI := fun ρ => (a ρ).bind fun xs ρ1 => match xs with
  | [.lst xs] => .ok (enumFrom 0 xs, ρ1)
  | _ => .stuck
theorem mi_enum {e : Expr} {m : MA} {p pos tpos : Pos} {elts : List Expr} {kk : Nat} (hm : X.mg "enumerate" = none) (ha : PA X [e] (rdA c m)) (hg : Gl X "enumerate" := by rfl) (hK : c.K = X.K := by rfl)
    (hs : starEach [e] X.env = [(false, eval e X.env)] := by rfl) : PI X (.Tuple elts kk tpos) (.Call (.Name "enumerate" p) [e] [] pos) (rdI c (mEnum m)) :=
  PIw (pi_enum hg hm ha hs) fun σ H R ⟨F, Hk, bp, ρ, S, h⟩ => rdAw (bA postI S h) fun vs H1 ⟨Hk1, xs, ρ1, x1, S1, r1, h1⟩ => by
    split at h1
    · obtain ⟨v, r, rfl, q1, q2⟩ := RVs.cons.mp r1
      rw [RVs.nil.mp q2]
      obtain ⟨p1, vs1, rfl, g1, s1⟩ := RV.lst.mp q1
      refine ⟨p1, vs1, rfl, SqL.of (S1.1.ex _ _ g1), ?_⟩
      rw [← hK]
      exact h1 _ _ _ (Ex.refl _) S1.1 (walks_e (SqL.of g1) s1)
    · exact h1.elim
def mLoop (g : MG) (b : MS) : List MV → Env → Res (Fl × Env)
  | [], ρ => .ok (.nx, ρ)
  | x :: xs, ρ => match g x ρ with
    | none => .stuck
    | some ρ1 => (b ρ1).bind fun f ρ2 => match f with
      | .nx => mLoop g b xs ρ2
      | .ct => mLoop g b xs ρ2
      | .br => .ok (.nx, ρ2)
      | .rt v => .ok (.rt v, ρ2)
def mFor (i : MI) (g : MG) (b : MS) : MS := fun ρ => (i ρ).bind fun xs ρ1 => mLoop g b xs ρ1
theorem okS.loop {F Hk : Hp} {bp : List (Nat × Addr)} {D : Ends} {g : MG} {b : MS} {xs : List MV} {N : St → Hp → Prop} (hN : ∀ Hk' H' σ' ρ', Ex Hk Hk' → RS c.K F Hk' H' bp σ' ρ' → okS c F Hk' bp D (mLoop g b xs ρ') → N σ' H') {r : Res (Fl × Env)}
    (h : okS c F Hk bp D (r.bind fun f ρ2 => match f with | .nx => mLoop g b xs ρ2 | .ct => mLoop g b xs ρ2 | .br => .ok (.nx, ρ2) | .rt v => .ok (.rt v, ρ2))) : okS c F Hk bp { D with nx := N, ct := N, bk := D.nx } r := by
  cases r with
  | stuck => exact h
  | exc e ρ => exact h
  | ok q =>
    obtain ⟨f, ρ1⟩ := q
    cases f with
    | nx => exact fun Hk1 H1 σ1 x1 S1 => hN Hk1 H1 σ1 ρ1 x1 S1 (okS.mono x1 h)
    | ct => exact fun Hk1 H1 σ1 x1 S1 => hN Hk1 H1 σ1 ρ1 x1 S1 (okS.mono x1 h)
    | br => exact h
    | rt x => exact h
theorem rd_for {it : MI} {g : MG} {b : MS} {D : Ends} {σ : St} {H : Hp} (h : rdS c (mFor it g b) D σ H) : tFor (rdI c it) (rdG c g) (rdS c b) D σ H := by
  obtain ⟨F, Hk, bp, ρ, S, h⟩ := h
  refine ⟨F, Hk, bp, ρ, S, ?_⟩
  have h : okS c F Hk bp D ((it ρ).bind fun xs ρ1 => mLoop g b xs ρ1) := h
  cases e : it ρ with
  | stuck => rw [e] at h; exact h
  | exc x ρ' => rw [e] at h; exact fun Hk1 H1 cls d => h Hk1 H1 σ cls d
  | ok p =>
    obtain ⟨xs, ρ1⟩ := p
    rw [e] at h
    intro Hk1 H1 J x1 S1 wk
    have h : okS c F Hk1 bp D (mLoop g b xs ρ1) := okS.mono x1 h
    refine ⟨fun i m σ' H' => m = xs.length - i ∧ i ≤ xs.length ∧ ∃ Hk' ρ', Ex Hk1 Hk' ∧ At c F Hk' H' bp σ' ρ' ∧ okS c F Hk' bp D (mLoop g b (xs.drop i) ρ'), ⟨xs.length, by simp, Nat.zero_le _, Hk1, ρ1, Ex.refl _, ⟨S1, S.2⟩, h⟩, ?_⟩
    rintro i m σ' H' ⟨rfl, hi, Hk', ρ', x', S', h'⟩
    by_cases hlt : i < xs.length
    · refine .inr ⟨wk.go i H' (x'.trans S'.1.ex) hlt, fun σ2 H2 => ∃ Hk2 ρ2, Ex Hk1 Hk2 ∧ At c F Hk2 H2 bp σ2 ρ2 ∧ okS c F Hk2 bp D (mLoop g b (xs.drop (i + 1)) ρ2), fun σ2 H2 ⟨Hk2, ρ2, x2, S2, h2⟩ => ⟨xs.length - (i + 1), by omega, rfl, hlt, Hk2, ρ2, x2, S2, h2⟩, fun x H2 y => ?_⟩
      obtain ⟨z, ez, hz⟩ := wk.yld i H' x H2 (x'.trans S'.1.ex) hlt y
      have ed : xs.drop i = z :: xs.drop (i + 1) := by
        rw [List.drop_eq_getElem_cons hlt]
        rw [List.getElem?_eq_getElem hlt] at ez
        cases ez; rfl
      rw [ed] at h'
      have fin : ∀ Hk3, Ex Hk' Hk3 → At c F Hk3 H2 bp σ' ρ' → RV c.K Hk3 z x → rdG c g x σ' H2 fun σ2 H2 => rdS c b { D with nx := fun σ2 H2 => ∃ Hk2 ρ2, Ex Hk1 Hk2 ∧ At c F Hk2 H2 bp σ2 ρ2 ∧ okS c F Hk2 bp D (mLoop g b (xs.drop (i + 1)) ρ2), ct := fun σ2 H2 => ∃ Hk2 ρ2, Ex Hk1 Hk2 ∧ At c F Hk2 H2 bp σ2 ρ2 ∧ okS c F Hk2 bp D (mLoop g b (xs.drop (i + 1)) ρ2), bk := D.nx } σ2 H2 := fun Hk3 x3 S3 r3 => by
        refine ⟨F, Hk3, bp, ρ', z, S3, r3, ?_⟩
        have h' := okS.mono x3 h'
        unfold mLoop at h'
        cases eg : g z ρ' with
        | none => rw [eg] at h'; exact h'
        | some ρ3 =>
          rw [eg] at h'
          intro Hk4 H4 σ4 x4 S4
          refine ⟨F, Hk4, bp, ρ3, ⟨S4, S.2⟩, okS.loop (fun Hk5 H5 σ5 ρ5 x5 S5 h5 => ⟨Hk5, ρ5, x'.trans (x3.trans (x4.trans x5)), ⟨S5, S.2⟩, h5⟩) (okS.mono x4 h')⟩
      rcases hz with ⟨rfl, r⟩ | ⟨p, vs, ys, hp, rfl, rfl, rfl, r⟩
      · exact fin Hk' (Ex.refl _) S' (RV.mono x' _ _ r)
      · have xn := Ex.new (o := .tup vs) (S'.1.ex.back hp)
        exact fin _ xn ⟨S'.1.new hp, S.2⟩ (RV.tup.mpr ⟨p, vs, rfl, SqT.of upd_same, r.mono (x'.trans xn)⟩)
    · have e : i = xs.length := by omega
      subst e
      rw [List.drop_length] at h'
      exact .inl ⟨wk.stop H' (x'.trans S'.1.ex), h' _ _ _ (Ex.refl _) S'.1⟩
theorem ms_for {iter : Expr} {body : List Stmt} {it : MI} {g : MG} {b : MS} {pos : Pos} (hp : PassesOwn (model X.prog X.w) X.A X.env X.xe) (hc : X.calm = true) (hi : PI X tg iter (rdI c it)) (hg : PG X tg (rdG c g)) (hb : PSs X body (rdS c b))
    (hs : ∀ x, foldedSetIterable iter X.env x = pure x := by intro _; rfl) : PS X (.For tg iter body [] pos) (rdS c (mFor it g b)) := PSw (ps_for hp hc hi hg hb hs) fun _ _ _ h => rd_for h
end
end Tm
set_option Elab.async false
set_option linter.all false
set_option maxRecDepth 100000
set_option maxHeartbeats 2000000
namespace Tm
open PySem L2
open Evl (Ex ex_rd ex_l ex_t)
theorem okXN {P : Program} {w : World} {K : PySem.W.Frag} {mg : Str → Option Value} {base : Heap} {x qual : Str} {st : Stmt} {f : Addr} {fd : FuncData} {N ps : List Str} {k : Nat} {sp : Sp} (F : Fun K x qual st f fd) (S : FnScope N ps (defScope st)) (hl : ∀ vs H Q E, sp vs H Q E → vs.length = ps.length)
    (b : ∀ (cdv : Value) (A : Around) (outer : List PySem.Env) (s : Shared) (H : Hp) (vs : List V) (Q : VK) (E : XK), Room k (A.deeper (PyProof.Rows.envOfC qual (defScope st) s.heap.objs.size f cdv)) → sp vs H Q E →
      ∃ t, PSs (cxOf (L2N.CX P w) P w K mg base N qual (defScope st) f cdv A outer s H E) (defBody st) t ∧ t { nx := fun _ H' => Q .non H', rt := Q } (L2.start N vs) H) : FnOk P w K mg base (L2N.CX P w) (k + 1) f fd ps sp := by
  obtain ⟨_, _, _, _, _, _, cv, _, _, rfl, e, hc⟩ := F.ex
  exact fn_of e hc S hl fun A outer s H vs Q E hr h => b cv A outer s H vs Q E hr h
abbrev MF := List MV → Res (MV × Env)
def endOf (bs : List Nat) (ρ : Env) : Env := bs.map fun i => (ρ[i]?).join
def mFn (n : Nat) (bs : List Nat) (m : MS) : MF := fun xs => match m (xs.map some ++ List.replicate (n - xs.length) none) with
  | .ok (.rt v, ρ) => .ok (v, endOf bs ρ)
  | .ok (.nx, ρ) => .ok (.non, endOf bs ρ)
  | .exc e ρ => .exc e (endOf bs ρ)
  | _ => .stuck
def okF (K : PySem.W.Frag) (mg : Str → Option Value) (F Hk : Hp) (bσ : St) (Q : VK) (E : XK) : Res (MV × Env) → Prop
  | .ok (v, bs) => ∀ Hk' H' w, Ex Hk Hk' → RS K F Hk' H' [] (bσ ++ [some w]) (bs ++ [some v]) → Q w H'
  | .exc e bs => ∀ Hk' H' cls d, Ex Hk Hk' → RS K F Hk' H' [] bσ bs → ExR K mg Hk' e cls d → E cls d H'
  | .stuck => False
def spF (K : PySem.W.Frag) (mg : Str → Option Value) (np : Nat) (bs : List Nat) (f : MF) : Sp := fun vs H Q E => vs.length = np ∧ ∃ F Hk bp xs, RS K F Hk H bp (vs.map some) (xs.map some) ∧ bp.map (·.1) = bs ∧ okF K mg F Hk (bp.map fun q => some (.ref q.2)) Q E (f xs)
section
variable {K : PySem.W.Frag} {F Hk H : Hp} {bp : List (Nat × Addr)} {σ : St} {ρ : Env}
theorem RS.pick (S : RS K F Hk H bp (σ ++ [some v]) (ρ ++ [some x])) (is : List Nat) (nd : is.Nodup) (hl : ∀ i ∈ is, i < ρ.length) :
    RS K F Hk H [] ((is.map fun i => (σ[i]?).join) ++ [some v]) ((is.map fun i => (ρ[i]?).join) ++ [some x]) := by
  obtain ⟨ow, s⟩ := S.ow
  have hlen : σ.length = ρ.length := by have := S.len; simpa using this
  have old : ∀ {j i : Nat}, is[j]? = some i → i < ρ.length := fun h => hl _ (List.mem_of_getElem? h)
  refine ⟨by simp, S.ex, S.fr, S.frk, ⟨fun j => match is[j]? with | some i => ow i | none => if j = is.length then ow ρ.length else [], ?_⟩, fun q hq => nomatch hq⟩
  have own : ∀ j a, a ∈ (match is[j]? with | some i => ow i | none => if j = is.length then ow ρ.length else []) → (∃ i, is[j]? = some i ∧ a ∈ ow i) ∨ (j = is.length ∧ a ∈ ow ρ.length) := fun j a h => by
    cases e : is[j]? with
    | some i => rw [e] at h; exact .inl ⟨i, rfl, h⟩
    | none =>
      rw [e] at h
      by_cases e2 : j = is.length
      · rw [if_pos e2] at h; exact .inr ⟨e2, h⟩
      · rw [if_neg e2] at h; cases h
  refine ⟨fun j y h => ?_, fun j a h => ?_, fun j h => ?_, fun j k a hjk h1 h2 => ?_⟩
  · rcases app_get h with ⟨e1, e2⟩ | ⟨lt, e2⟩
    · cases e2
      rw [List.length_map] at e1
      subst e1
      obtain ⟨u, hu, ou⟩ := s.s ρ.length x (by simp)
      have ev : u = v := by rw [← hlen] at hu; simpa using hu.symm
      subst ev
      refine ⟨u, by simp, ?_⟩
      have : is[is.length]? = none := by simp
      rw [this, if_pos rfl]
      exact ou
    · rw [List.length_map] at lt
      rw [List.getElem?_map] at e2
      cases ei : is[j]? with
      | none => rw [ei] at e2; cases e2
      | some i =>
        rw [ei] at e2
        have e3 : ρ[i]? = some (some y) := by
          cases er : ρ[i]? with
          | none => rw [Option.map_some, er] at e2; cases e2
          | some o => rw [Option.map_some, er] at e2; cases o with
            | none => cases e2
            | some z => cases e2; rfl
        have li := old ei
        obtain ⟨w, w1, w2⟩ := s.s i y (by rw [List.getElem?_append_left li]; exact e3)
        rw [List.getElem?_append_left (by rw [hlen]; exact li)] at w1
        refine ⟨w, ?_, w2⟩
        rw [List.getElem?_append_left (by simpa using lt), List.getElem?_map, ei, Option.map_some, w1]; rfl
  · rcases own j a h with ⟨i, _, m⟩ | ⟨_, m⟩
    · exact s.f i a m
    · exact s.f _ a m
  · cases e : (match is[j]? with | some i => ow i | none => if j = is.length then ow ρ.length else []) with
    | nil => exact (h e).elim
    | cons a r =>
      rcases own j a (by rw [e]; simp) with ⟨i, ei, _⟩ | ⟨e2, _⟩
      · have := lt_get ei; simp; omega
      · simp; omega
  · rcases own j a h1 with ⟨i, ei, m⟩ | ⟨e1, m⟩ <;> rcases own k a h2 with ⟨i2, ei2, m2⟩ | ⟨e2, m2⟩
    · have ne : i ≠ i2 := fun z => by
        subst z
        obtain ⟨a1, a2⟩ := List.getElem?_eq_some_iff.mp ei
        obtain ⟨b1, b2⟩ := List.getElem?_eq_some_iff.mp ei2
        exact hjk ((List.getElem_inj nd).mp (a2.trans b2.symm))
      exact s.d i i2 a ne m m2
    · exact s.d i ρ.length a (Nat.ne_of_lt (old ei)) m m2
    · exact s.d i2 ρ.length a (Nat.ne_of_lt (old ei2)) m2 m
    · exact hjk (e1.trans e2.symm)
theorem RS.pad (S : RS K F Hk H bp σ ρ) (n : Nat) : RS K F Hk H bp (σ ++ List.replicate n none) (ρ ++ List.replicate n none) := by
  obtain ⟨ow, s⟩ := S.ow
  have g : ∀ {α : Type} {l : List (Option α)} {j : Nat} {y : α}, (l ++ List.replicate n none)[j]? = some (some y) → l[j]? = some (some y) := fun {α l j y} h => by
    by_cases e : j < l.length
    · rw [List.getElem?_append_left e] at h; exact h
    · rw [List.getElem?_append_right (Nat.le_of_not_lt e), List.getElem?_replicate] at h
      split at h <;> cases h
  have g2 : ∀ {α : Type} {l : List (Option α)} {j : Nat} {y : α}, l[j]? = some (some y) → (l ++ List.replicate n none)[j]? = some (some y) := fun {α l j y} h => by
    rw [List.getElem?_append_left (lt_get h)]; exact h
  refine ⟨by simp [S.len], S.ex, S.fr, S.frk, ⟨ow, fun j y h => ?_, s.f, fun j h => ?_, s.d⟩, fun q hq => g2 (S.bor q hq)⟩
  · obtain ⟨v, e, o⟩ := s.s j y (g h)
    exact ⟨v, g2 e, o⟩
  · have := s.w j h; simp; omega
theorem RS.args {xs : List MV} {vs : List V} (ex : Ex Hk H) (fr : Ex F H) (frk : ∀ a o, F a = some o → Hk a = none) (r : RVs K Hk xs vs) : RS K F Hk H [] (vs.map some) (xs.map some) := by
  refine ⟨by simp [r.length], ex, fr, frk, ⟨fun _ => [], fun j y h => ?_, fun j a h => (nomatch h), fun j h => (h rfl).elim, fun j k a _ h => nomatch h⟩, fun q hq => nomatch hq⟩
  rw [List.getElem?_map] at h
  cases e : xs[j]? with
  | none => rw [e] at h; cases h
  | some z =>
    rw [e] at h
    cases h
    obtain ⟨v, e1, rv⟩ := r.get e
    exact ⟨v, by rw [List.getElem?_map, e1]; rfl, rv.ov⟩
end
section
variable {X : Cx} {c : Ct}
def fz : MV → Option MV
  | .own xs => some (.lst xs)
  | .obj _ _ => none
  | .dow _ _ => none
  | .dot _ _ => none
  | x => some x
def mFz (m : ME) : ME := fun ρ => (m ρ).bind fun x ρ1 => match fz x with | some y => .ok (y, ρ1) | none => .stuck
theorem RS.last {K : PySem.W.Frag} {F Hk H : Hp} {bp : List (Nat × Addr)} {σ : St} {ρ : Env} {v : V} {x y : MV} (S : RS K F Hk H bp (σ ++ [some v]) (ρ ++ [some x])) (hb : ∀ q ∈ bp, q.1 < ρ.length) (e : fz x = some y) :
    ∃ Hk', Ex Hk Hk' ∧ RS K F Hk' H bp σ ρ ∧ RV K Hk' y v := by
  have hl : σ.length = ρ.length := by have := S.len; simpa using this
  have pl : x.per = true → y = x → ∃ Hk', Ex Hk Hk' ∧ RS K F Hk' H bp σ ρ ∧ RV K Hk' y v := fun px ey => by
    subst ey
    obtain ⟨w, ew, rw'⟩ := S.get (i := ρ.length) (x := y) (by simp) px
    rw [← hl] at ew
    have : w = v := by simpa using ew.symm
    subst this
    exact ⟨Hk, Ex.refl _, S.drop hb, rw'⟩
  cases x with
  | own xs =>
    cases e
    obtain ⟨p, vs, e1, ex, r, S'⟩ := S.freeze (i := ρ.length) (xs := xs) (by simp)
    rw [← hl] at e1
    have : v = .ref p := by simpa using e1
    subst this
    refine ⟨_, ex, ?_, r⟩
    have z : (ρ ++ [some (MV.own xs)]).set ρ.length (some (.lst xs)) = ρ ++ [some (.lst xs)] := by simp
    rw [z] at S'
    exact S'.drop hb
  | obj C fs => cases e
  | dow _ _ => cases e
  | dot _ _ => cases e
  | _ => cases e; exact pl rfl rfl
theorem rd_fz {m : ME} {σ : St} {H : Hp} {Q : VK} (h : rdE c (mFz m) σ H Q) : rdO c m σ H Q := by
  obtain ⟨F, Hk, bp, ρ, S, h⟩ := h
  refine ⟨F, Hk, bp, ρ, S, ?_⟩
  have h : okE c F Hk bp σ Q ((m ρ).bind fun x ρ1 => match fz x with | some y => .ok (y, ρ1) | none => .stuck) := h
  cases e : m ρ with
  | stuck => rw [e] at h; exact h
  | exc x ρ' => rw [e] at h; exact h
  | ok p =>
    obtain ⟨x, ρ1⟩ := p
    rw [e] at h
    intro Hk1 H1 v x1 S1
    have h : okE c F Hk bp σ Q (match fz x with | some y => .ok (y, ρ1) | none => .stuck) := h
    have l1 : σ.length = ρ1.length := by have := S1.len; simpa using this
    cases ez : fz x with
    | none => rw [ez] at h; exact h.elim
    | some y =>
      rw [ez] at h
      obtain ⟨Hk2, x2, S2, r2⟩ := S1.last (fun q hq => by rw [← l1]; exact lt_get (S.1.bor q hq)) ez
      exact h _ _ _ (x1.trans x2) S2 r2
theorem me_fz {e : Expr} {m : ME} (h : PE X e (rdO c m)) : PE X e (rdE c (mFz m)) := PEw h fun _ _ _ q => rd_fz q
def mCall (f : MF) (a : MA) : ME := fun ρ => (a ρ).bind fun xs ρ1 => match f xs with
  | .ok (v, _) => .ok (v, ρ1)
  | .exc e _ => .exc e ρ1
  | .stuck => .stuck
theorem call_end {f : MF} {n : Nat} {F Hk H : Hp} {bp : List (Nat × Addr)} {σ : St} {ρ : Env} {xs : List MV} {vs : List V} {Q : VK} {E : XK} (S : At c F Hk H bp σ ρ) (r : RVs c.K Hk xs vs) (hn : xs.length = n)
    (hE : ∀ e, (∀ Hk' H' cls d, Ex Hk Hk' → RS c.K F Hk' H' bp σ ρ → ExR c.K c.mg Hk' e cls d → c.W cls d σ H') → ∀ Hk' H' cls d, Ex Hk Hk' → RS c.K F Hk' H' bp σ ρ → ExR c.K c.mg Hk' e cls d → E cls d H')
    (h : okO c F Hk bp σ Q (match f xs with | .ok (v, _) => .ok (v, ρ) | .exc e _ => .exc e ρ | .stuck => .stuck)) : spF c.K c.mg n [] f vs H Q E := by
  refine ⟨by rw [r.length]; exact hn, ?_⟩
  obtain ⟨ow, s⟩ := S.1.ow
  haveI : ∀ a, Decidable (∃ i, a ∈ ow i) := fun a => Classical.propDecidable _
  have fN : ∃ F' : Hp, (∀ i a, a ∈ ow i → F' a = H a) ∧ (∀ a o, F a = some o → F' a = some o) ∧ ∀ a o, F' a = some o → H a = some o ∧ Hk a = none := by
    refine ⟨fun a => if (∃ i, a ∈ ow i) then H a else F a, fun i a ha => if_pos ⟨i, ha⟩, fun a o ha => ?_, fun a o ha => ?_⟩
    · have : ¬ ∃ i, a ∈ ow i := fun ⟨i, hi⟩ => by have := (s.f i a hi).2.1; rw [ha] at this; cases this
      show (if (∃ i, a ∈ ow i) then H a else F a) = some o
      rw [if_neg this]; exact ha
    · have ha : (if (∃ i, a ∈ ow i) then H a else F a) = some o := ha
      by_cases e : ∃ i, a ∈ ow i
      · rw [if_pos e] at ha
        obtain ⟨i, hi⟩ := e
        exact ⟨ha, (s.f i a hi).1⟩
      · rw [if_neg e] at ha
        exact ⟨S.1.fr a o ha, S.1.frk a o ha⟩
  obtain ⟨F', f1, f2, f3⟩ := fN
  refine ⟨F', Hk, [], xs, RS.args S.1.ex (fun a o ha => (f3 a o ha).1) (fun a o ha => (f3 a o ha).2) r, rfl, ?_⟩
  -- what stands behind the call
  have back : ∀ {Hk' H' : Hp} {bσ : St} {bρ : Env}, Ex Hk Hk' → RS c.K F' Hk' H' [] bσ bρ → RS c.K F Hk' H' bp σ ρ ∧ SL c.K F Hk' H' ow σ ρ := fun {Hk' H' bσ bρ} x S' => by
    have own : ∀ i, ∀ a ∈ ow i, H' a = H a ∧ Hk' a = none := fun i a ha => by
      obtain ⟨g1, g2, o, g3⟩ := s.f i a ha
      have q : F' a = some o := (f1 i a ha).trans g3
      exact ⟨(S'.fr a o q).trans g3.symm, S'.frk a o q⟩
    have sl : SL c.K F Hk' H' ow σ ρ := s.step x own
    exact ⟨⟨S.1.len, S'.ex, fun a o ha => S'.fr a o (f2 a o ha), fun a o ha => S'.frk a o (f2 a o ha), ⟨ow, sl⟩, S.1.bor⟩, sl⟩
  cases ef : f xs with
  | stuck => rw [ef] at h; exact h.elim
  | exc e bs =>
    rw [ef] at h
    intro Hk' H' cls d x S' er
    exact hE e h Hk' H' cls d x (back x S').1 er
  | ok p =>
    obtain ⟨v, bs⟩ := p
    rw [ef] at h
    intro Hk' H' w x S'
    obtain ⟨R1, sl⟩ := back x S'
    refine h Hk' H' w x ?_
    obtain ⟨ow2, s2⟩ := S'.ow
    have bl : bs.length = 0 := by have := S'.len; simpa using this.symm
    have be : bs = [] := List.eq_nil_of_length_eq_zero bl
    subst be
    obtain ⟨w2, e2, o2⟩ := s2.s 0 v rfl
    cases e2
    refine ⟨by simp [S.1.len], R1.ex, R1.fr, R1.frk, ⟨_, sl.push S.1.len o2 (fun a ha => ?_) (fun i a ha hi => ?_)⟩, R1.bor_app _⟩
    · obtain ⟨g1, g2, _⟩ := s2.f 0 a ha
      refine ⟨g1, ?_⟩
      cases e : F a with
      | none => rfl
      | some o => rw [f2 a o e] at g2; cases g2
    · obtain ⟨g1, g2, o, g3⟩ := s2.f 0 a ha
      obtain ⟨_, _, o', q⟩ := s.f i a hi
      rw [f1 i a hi, q] at g2
      cases g2
theorem rd_call {f : MF} {n : Nat} {a : MA} {σ : St} {H : Hp} {Q : VK} (hn : ∀ ρ xs ρ', a ρ = .ok (xs, ρ') → xs.length = n) (h : rdO c (mCall f a) σ H Q) : tCallS (spF c.K c.mg n [] f) (WE c.W) (rdA c a) σ H Q := by
  obtain ⟨F, Hk, bp, ρ, S, h⟩ := h
  refine ⟨F, Hk, bp, ρ, S, ?_⟩
  have h : okO c F Hk bp σ Q ((a ρ).bind fun xs ρ1 => match f xs with | .ok (v, _) => .ok (v, ρ1) | .exc e _ => .exc e ρ1 | .stuck => .stuck) := h
  cases e : a ρ with
  | stuck => rw [e] at h; exact h
  | exc x ρ' => rw [e] at h; exact h
  | ok p =>
    obtain ⟨xs, ρ1⟩ := p
    rw [e] at h
    intro Hk1 H1 vs x1 S1 r1
    exact call_end ⟨S1, S.2⟩ r1 (hn _ _ _ e) (fun e q => q) (okO.mono x1 h)
def Lng (a : MA) (n : Nat) : Prop := ∀ ρ xs ρ', a ρ = .ok (xs, ρ') → xs.length = n
theorem lng_nil : Lng mNil 0 := fun ρ xs ρ' h => by cases h; rfl
theorem lng_cons {a : ME} {b : MA} {n : Nat} (h : Lng b n) : Lng (mCons a b) (n + 1) := fun ρ xs ρ' e => by
  unfold mCons at e
  cases ea : a ρ with
  | stuck => rw [ea] at e; cases e
  | exc x r => rw [ea] at e; cases e
  | ok p =>
    rw [ea] at e
    have e : (b p.2).bind (fun ys ρ2 => Res.ok (p.1 :: ys, ρ2)) = .ok (xs, ρ') := e
    cases eb : b p.2 with
    | stuck => rw [eb] at e; cases e
    | exc x r => rw [eb] at e; cases e
    | ok q =>
      rw [eb] at e
      cases e
      simp [h _ _ _ eb]
variable {k : Nat} {fa : Addr} {fd : FuncData} {ps : List Str} {x : Str} {p pos : Pos} {e : Expr} {es : List Expr} {f : MF} {a : MA} {n : Nat}
theorem mo_call (F : FnOk X.prog X.w X.K X.mg X.base (L2N.CX X.prog X.w) k fa fd ps (spF X.K X.mg n [] f)) (hr : Room k X.A) (hm : X.mg x = some (.ref fa)) (hk : PySem.W.keepIn X.K (.ref fa) = true) (hb : Binds X.K fd ps []) (tk : L2N.Takes X c.W)
    (ha : PA X (e :: es) (rdA c a)) (hn : Lng a n) (hg : Gl X x := by rfl) (hK : c.K = X.K := by rfl) (hM : c.mg = X.mg := by rfl) (hdb : (x == ("__debug__" : Str)) = false := by decide) (he : starEach (e :: es) X.env = (false, eval e X.env) :: starEach es X.env := by rfl)
    (hpl : (backTo pos (starEach es X.env)).any (·.1) = false := by rfl) : PE X (.Call (.Name x p) (e :: es) [] pos) (rdO c (mCall f a)) :=
  PEw (pe_callS (E := WE c.W) F hr hg hm hk hb (fun σ => L2N.passAt tk σ) ha hdb he hpl) fun σ H Q h => by
    have := rd_call hn h
    rw [hK, hM] at this
    exact this
def mCall0 (f : MF) (a : MA) : ME := fun ρ => (a ρ).bind fun xs ρ1 => match f xs with
  | .ok (v, _) => .ok (v, ρ1)
  | _ => .stuck
theorem rd_call0 {f : MF} {n : Nat} {a : MA} {σ : St} {H : Hp} {Q : VK} (hn : Lng a n) (h : rdO c (mCall0 f a) σ H Q) : tCall (spF c.K c.mg n [] f) [] (fun _ _ _ => False) (rdA c a) σ H Q := by
  obtain ⟨F, Hk, bp, ρ, S, h⟩ := h
  refine ⟨F, Hk, bp, ρ, S, ?_⟩
  have h : okO c F Hk bp σ Q ((a ρ).bind fun xs ρ1 => match f xs with | .ok (v, _) => .ok (v, ρ1) | _ => .stuck) := h
  cases e : a ρ with
  | stuck => rw [e] at h; exact h
  | exc x ρ' => rw [e] at h; exact h
  | ok p =>
    obtain ⟨xs, ρ1⟩ := p
    rw [e] at h
    intro Hk1 H1 vs x1 S1 r1
    rw [List.append_nil]
    have h : okO c F Hk bp σ Q (match f xs with | .ok (v, _) => .ok (v, ρ1) | _ => .stuck) := h
    cases ef : f xs with
    | stuck => rw [ef] at h; exact h.elim
    | exc e bs => rw [ef] at h; exact h.elim
    | ok q =>
      rw [ef] at h
      refine call_end (f := f) (c := ⟨c.K, c.mg, fun _ _ _ _ => False, c.bs, c.J, c.Jm⟩) ⟨S1, S.2⟩ r1 (hn _ _ _ e) (fun e q => q) ?_
      rw [ef]
      exact fun Hk2 H2 w x2 => h Hk2 H2 w (x1.trans x2)
theorem passes0 {P : Program} {w : World} {X : Cx} : Passes (L2N.CX P w) X fun _ _ _ => False := fun _ _ _ _ _ _ _ ⟨_, _, _, _, _, _, _, _, _, _, _, _, f⟩ => f.elim
theorem mo_call0 (F : FnOk X.prog X.w X.K X.mg X.base (L2N.CX X.prog X.w) k fa fd ps (spF X.K X.mg n [] f)) (hr : Room k X.A) (hm : X.mg x = some (.ref fa)) (hk : PySem.W.keepIn X.K (.ref fa) = true) (hb : Binds X.K fd ps [])
    (ha : PA X (e :: es) (rdA c a)) (hn : Lng a n) (hg : Gl X x := by rfl) (hK : c.K = X.K := by rfl) (hM : c.mg = X.mg := by rfl) (hdb : (x == ("__debug__" : Str)) = false := by decide) (he : starEach (e :: es) X.env = (false, eval e X.env) :: starEach es X.env := by rfl)
    (hpl : (backTo pos (starEach es X.env)).any (·.1) = false := by rfl) : PE X (.Call (.Name x p) (e :: es) [] pos) (rdO c (mCall0 f a)) :=
  PEw (pe_call F hr hg hm hk hb .nil passes0 ha hdb he hpl) fun σ H Q h => by
    have := rd_call0 hn h
    rw [hK, hM] at this
    exact this
end
section
variable {P : Program} {w : World} {K : PySem.W.Frag} {mg : Str → Option Value} {base : Heap}
theorem start_eq {N : List Str} {vs : List V} {xs : List MV} (h : vs.length = xs.length) : L2.start N vs = vs.map some ++ List.replicate (N.length - xs.length) none := by unfold L2.start; rw [h]
theorem fn_ok {x qual : Str} {st : Stmt} {f : Addr} {fd : FuncData} {N ps : List Str} {k : Nat} {bs : List Nat} {m : MS} (F : Fun K x qual st f fd) (S : FnScope N ps (defScope st)) (nd : bs.Nodup) (hbs : ∀ i ∈ bs, i < ps.length)
    (hbody : ∀ (cdv : Value) (A : Around) (outer : List PySem.Env) (s : Shared) (H : Hp) (E : XK), Room k (A.deeper (PyProof.Rows.envOfC qual (defScope st) s.heap.objs.size f cdv)) →
      PSs (cxOf (L2N.CX P w) P w K mg base N qual (defScope st) f cdv A outer s H E) (defBody st) (rdS ⟨K, mg, fun cls d _ H => E cls d H, bs, fun _ _ => True, fun _ _ _ _ _ => trivial⟩ m)) :
    FnOk P w K mg base (L2N.CX P w) (k + 1) f fd ps (spF K mg ps.length bs (mFn N.length bs m)) := by
  refine okXN F S (fun vs H Q E h => h.1) (fun cdv A outer s H vs Q E hr h => ⟨_, hbody cdv A outer s H E hr, ?_⟩)
  obtain ⟨hl, F', Hk, bp, xs, R, eb, h⟩ := h
  have el : vs.length = xs.length := by have := R.len; simpa using this
  rw [start_eq el]
  refine ⟨F', Hk, bp, _, ⟨R.pad _, eb, trivial⟩, ?_⟩
  have bor : ∀ {σ' : St} {Hk' H' : Hp} {ρ' : Env}, RS K F' Hk' H' bp σ' ρ' → bs.map (fun i => (σ'[i]?).join) = bp.map (fun q => some (.ref q.2)) := fun {σ' Hk' H' ρ'} S' => by
    rw [← eb, List.map_map]
    refine List.map_congr_left fun q hq => ?_
    show (σ'[q.1]?).join = _
    rw [S'.bor q hq]; rfl
  have bl : ∀ {σ' : St} {Hk' H' : Hp} {ρ' : Env}, RS K F' Hk' H' bp σ' ρ' → ∀ i ∈ bs, i < ρ'.length := fun {σ' Hk' H' ρ'} S' i hi => by
    rw [← eb] at hi
    obtain ⟨q, hq, rfl⟩ := List.mem_map.mp hi
    rw [← S'.len]; exact lt_get (S'.bor q hq)
  unfold mFn at h
  cases em : m (xs.map some ++ List.replicate (N.length - xs.length) none) with
  | stuck => rw [em] at h; exact h.elim
  | exc e ρ' =>
    rw [em] at h
    intro Hk' H' σ' cls d x S' er
    refine h Hk' H' cls d x ?_ er
    have z := ((S'.push (x := .non) (v := .non) (RV.non.mpr rfl)).pick bs nd (bl S')).drop (fun _ hq => nomatch hq)
    rw [bor S'] at z
    exact z
  | ok p =>
    obtain ⟨fl, ρ'⟩ := p
    rw [em] at h
    have ret : ∀ {Hk' H' : Hp} {σ' : St} {u : V} {v : MV}, okF K mg F' Hk (bp.map fun q => some (.ref q.2)) Q E (.ok (v, endOf bs ρ')) → Ex Hk Hk' → RS K F' Hk' H' bp (σ' ++ [some u]) (ρ' ++ [some v]) → (∀ q ∈ bp, q.1 < ρ'.length) → Q u H' := fun {Hk' H' σ' u v} h x S' hq => by
      refine h Hk' H' u x ?_
      have z := S'.pick bs nd (fun i hi => by
        rw [← eb] at hi
        obtain ⟨q, hq', rfl⟩ := List.mem_map.mp hi
        exact hq q hq')
      have l1 : σ'.length = ρ'.length := by have := S'.len; simpa using this
      have e2 : bs.map (fun i => (σ'[i]?).join) = bp.map (fun q => some (.ref q.2)) := by
        rw [← eb, List.map_map]
        refine List.map_congr_left fun q hq' => ?_
        show (σ'[q.1]?).join = _
        have := S'.bor q hq'
        rw [List.getElem?_append_left (by rw [l1]; exact hq q hq')] at this
        rw [this]; rfl
      rw [e2] at z
      exact z
    cases fl with
    | nx => exact fun Hk' H' σ' x S' => ret h x (S'.push (x := .non) (v := .non) (RV.non.mpr rfl)) (fun q hq => by rw [← S'.len]; exact lt_get (S'.bor q hq))
    | br => exact h.elim
    | ct => exact h.elim
    | rt v =>
      intro Hk' H' σ' u x lq S'
      have l1 : σ'.length = ρ'.length := by have := S'.len; simpa using this
      exact ret h x S' fun q hq => by rw [← l1]; exact lq q hq
end
end Tm
set_option Elab.async false
set_option linter.all false
set_option maxRecDepth 100000
set_option maxHeartbeats 2000000
namespace Tm
open PySem L2
open Evl (Ex ex_rd ex_l ex_t)
def CallS (K : PySem.W.Frag) (f : List MV → Option MV) (r : List V → Hp → VK → Prop) : Prop := ∀ (xs : List MV) (z : MV) (vs : List V) (Hk H : Hp) (Q : VK), f xs = some z → Ex Hk H → RVs K Hk xs vs → (∀ u, RV K Hk z u → Q u H) →
  (∀ p o, H p = none → RV K (upd Hk p o) z (.ref p) → Q (.ref p) (upd H p o)) → r vs H Q
def mBlt (f : List MV → Option MV) (a : MA) : ME := fun ρ => (a ρ).bind fun xs ρ1 => match f xs with | some z => .ok (z, ρ1) | none => .stuck
section
variable {X : Cx} {c : Ct} {x : Str} {p pos : Pos} {e : Expr} {es : List Expr} {a : MA} {id T : String} {f : List MV → Option MV} {r : List V → Hp → VK → Prop}
theorem rd_blt (o : CallS c.K f r) {σ : St} {H : Hp} {Q : VK} (h : rdE c (mBlt f a) σ H Q) : tCB r (rdA c a) σ H Q := by
  obtain ⟨F, Hk, bp, ρ, S, h⟩ := h
  refine rdAw (bA postE S h) fun vs H1 ⟨Hk1, xs, ρ1, x1, S1, r1, h1⟩ => ?_
  have h1 : okE c F Hk1 bp σ Q (match f xs with | some z => .ok (z, ρ1) | none => .stuck) := h1
  cases ef : f xs with
  | none => rw [ef] at h1; exact h1.elim
  | some z =>
    rw [ef] at h1
    exact o xs z vs Hk1 H1 Q ef S1.1.ex r1 (fun u ru => h1 _ _ u (Ex.refl _) S1.1 ru) fun p ob hp ru => h1 _ _ _ (Ex.new (S1.1.ex.back hp)) (S1.1.new hp) ru
theorem me_blt (hc : CallR X (.builtin id) r) (o : CallS c.K f r) (hm : X.mg x = none) (hv : bootBuiltins x = some (.builtin id)) (ha : PA X (e :: es) (rdA c a)) (hg : Gl X x := by rfl) (hn : x ≠ "__name__" := by decide) (hdb : (x == ("__debug__" : Str)) = false := by decide)
    (he : starEach (e :: es) X.env = (false, eval e X.env) :: starEach es X.env := by rfl) (hpl : (backTo pos (starEach es X.env)).any (·.1) = false := by rfl) : PE X (.Call (.Name x p) (e :: es) [] pos) (rdE c (mBlt f a)) :=
  PEw (pe_callB hc hg hm hv ha hn hdb he hpl) fun _ _ _ h => rd_blt o h
theorem me_ty (hc : CallR X (.type T) r) (o : CallS c.K f r) (hm : X.mg x = none) (hv : bootBuiltins x = some (.type T)) (ha : PA X (e :: es) (rdA c a)) (hg : Gl X x := by rfl) (hn : x ≠ "__name__" := by decide) (hdb : (x == ("__debug__" : Str)) = false := by decide)
    (he : starEach (e :: es) X.env = (false, eval e X.env) :: starEach es X.env := by rfl) (hpl : (backTo pos (starEach es X.env)).any (·.1) = false := by rfl) : PE X (.Call (.Name x p) (e :: es) [] pos) (rdE c (mBlt f a)) :=
  PEw (pe_callTy hc hg hm hv ha hn hdb he hpl) fun _ _ _ h => rd_blt o h
theorem me_glob {v : MV} {w : V} {u : Value} (hm : X.mg x = some u) (rv : RelV w u) (r : ∀ H, RV c.K H v w) (hg : Gl X x := by rfl) (hd : (x == ("__debug__" : Str)) = false := by decide) : PE X (.Name x pos) (rdE c (mC v)) :=
  PEw (pe_glob hg hm rv hd) fun _ _ _ h => rd_c r h
end
section
variable {K : PySem.W.Frag}
theorem rvs1 {H : Hp} {x : MV} {vs : List V} (r : RVs K H [x] vs) : ∃ v, vs = [v] ∧ RV K H x v := by
  obtain ⟨v, r', rfl, q1, q2⟩ := RVs.cons.mp r
  rw [RVs.nil.mp q2]
  exact ⟨v, rfl, q1⟩
def bLen : List MV → Option MV
  | [.lst xs] => some (.int xs.length)
  | [.tup xs] => some (.int xs.length)
  | [.scr ns] => some (.int ns.length)
  | [.str z] => if szOk z.length then some (.int z.length) else none
  | _ => none
def rLenM (K : PySem.W.Frag) : List V → Hp → VK → Prop := fun xs H Q => (∃ p ys, xs = [.ref p] ∧ (SqL K H p ys ∨ SqT K H p ys) ∧ Q (.int ys.length) H) ∨ ∃ z, xs = [.str z] ∧ z.length ≤ sizeLine ∧ Q (.int z.length) H
theorem cr_lenM {X : Cx} : CallR X (.builtin "len") (rLenM X.K) := CallR.or call_len_seq call_len_str
theorem cs_len : CallS K bLen (rLenM K) := by
  intro xs z vs Hk H Q e ex r q qn
  unfold bLen at e
  split at e
  · cases e
    obtain ⟨v, rfl, rv⟩ := rvs1 r
    obtain ⟨p1, ws, rfl, h1, s1⟩ := RV.lst.mp rv
    exact .inl ⟨p1, ws, rfl, .inl (SqL.of (ex _ _ h1)), by rw [s1.length]; exact q _ (RV.int.mpr rfl)⟩
  · cases e
    obtain ⟨v, rfl, rv⟩ := rvs1 r
    obtain ⟨p1, ws, rfl, h1, s1⟩ := RV.tup.mp rv
    exact .inl ⟨p1, ws, rfl, .inr (ex_t ex h1), by rw [s1.length]; exact q _ (RV.int.mpr rfl)⟩
  · cases e
    obtain ⟨v, rfl, rv⟩ := rvs1 r
    obtain ⟨p1, rfl, h1⟩ := RV.scr.mp rv
    exact .inl ⟨p1, _, rfl, .inl (ex_l ex h1), by rw [List.length_map]; exact q _ (RV.int.mpr rfl)⟩
  · split at e
    · rename_i hz
      cases e
      obtain ⟨v, rfl, rv⟩ := rvs1 r
      exact .inr ⟨_, by rw [RV.str.mp rv], szOk_iff.mp hz, q _ (RV.int.mpr rfl)⟩
    · cases e
  · cases e
def bAbs : List MV → Option MV
  | [.int i] => some (.int (if i < 0 then -i else i))
  | _ => none
theorem cs_abs : CallS K bAbs (fun xs H Q => ∃ i, xs = [.int i] ∧ Q (.int (if i < 0 then -i else i)) H) := by
  intro xs z vs Hk H Q e ex r q qn
  unfold bAbs at e
  split at e
  · cases e
    exact ⟨_, rvs_int1 r, q _ (RV.int.mpr rfl)⟩
  · cases e
def bInt : List MV → Option MV
  | [.int i] => some (.int i)
  | [.bl k] => some (.int (if k then 1 else 0))
  | [.str s] => if decide (s.length ≤ 640) then (PySem.intText? s).map .int else none
  | _ => none
def rIntM : List V → Hp → VK → Prop := fun xs H Q => ((∃ i, xs = [.int i] ∧ Q (.int i) H) ∨ ∃ k, xs = [.bl k] ∧ Q (.int (if k then 1 else 0)) H) ∨ ∃ a n, xs = [.str a] ∧ PySem.intText? a = some n ∧ a.length ≤ 640 ∧ Q (.int n) H
theorem cr_intM {X : Cx} : CallR X (.type "int") rIntM := CallR.or call_int1 call_int_str
theorem cs_int : CallS K bInt rIntM := by
  intro xs z vs Hk H Q e ex r q qn
  unfold bInt at e
  split at e
  · cases e
    exact .inl (.inl ⟨_, rvs_int1 r, q _ (RV.int.mpr rfl)⟩)
  · cases e
    obtain ⟨v, rfl, rv⟩ := rvs1 r
    exact .inl (.inr ⟨_, by rw [RV.bl.mp rv], q _ (RV.int.mpr rfl)⟩)
  · split at e
    · rename_i s hs
      cases en : PySem.intText? s with
      | none => rw [en] at e; cases e
      | some n =>
        rw [en] at e
        cases e
        obtain ⟨v, rfl, rv⟩ := rvs1 r
        exact .inr ⟨s, n, by rw [RV.str.mp rv], en, of_decide_eq_true hs, q _ (RV.int.mpr rfl)⟩
    · cases e
  · cases e
def bStr : List MV → Option MV
  | [.int i] => if decide (i.natAbs.log2 < 1920) then some (.str (toString i)) else none
  | _ => none
theorem cs_str : CallS K bStr (fun xs H Q => ∃ i, xs = [.int i] ∧ i.natAbs.log2 < 1920 ∧ Q (.str (toString i)) H) := by
  intro xs z vs Hk H Q e ex r q qn
  unfold bStr at e
  split at e
  · split at e
    · rename_i h
      cases e
      exact ⟨_, rvs_int1 r, of_decide_eq_true h, q _ (RV.str.mpr rfl)⟩
    · cases e
  · cases e
def bTuple : List MV → Option MV
  | [.lst xs] => some (.tup xs)
  | [.tup xs] => some (.tup xs)
  | _ => none
theorem cs_tuple : CallS K bTuple (fun xs H Q => ∃ p ys, xs = [.ref p] ∧ ((SqL K H p ys ∧ ∀ l, H l = none → Q (.ref l) (upd H l (.tup ys))) ∨ (SqT K H p ys ∧ Q (.ref p) H))) := by
  intro xs z vs Hk H Q e ex r q qn
  unfold bTuple at e
  split at e
  · cases e
    obtain ⟨v, rfl, rv⟩ := rvs1 r
    obtain ⟨p1, ws, rfl, h1, s1⟩ := RV.lst.mp rv
    exact ⟨p1, ws, rfl, .inl ⟨SqL.of (ex _ _ h1), fun l hl => qn l _ hl (RV.tup.mpr ⟨l, ws, rfl, SqT.of upd_same, s1.mono (Ex.new (ex.back hl))⟩)⟩⟩
  · cases e
    obtain ⟨v, rfl, rv⟩ := rvs1 r
    obtain ⟨p1, ws, e1, h1, s1⟩ := RV.tup.mp rv
    subst e1
    exact ⟨p1, ws, rfl, .inr ⟨ex_t ex h1, q _ rv⟩⟩
  · cases e
def blsOf : List MV → Option (List Bool)
  | [] => some []
  | .bl b :: r => (blsOf r).map (b :: ·)
  | _ => none
theorem bls_rv {H : Hp} : ∀ {xs : List MV} {bs : List Bool} {vs : List V}, blsOf xs = some bs → RVs K H xs vs → vs = bs.map V.bl
  | [], bs, vs, e, r => by cases e; rw [RVs.nil.mp r]; rfl
  | .bl b :: r', bs, vs, e, r => by
    unfold blsOf at e
    cases h : blsOf r' with
    | none => rw [h] at e; cases e
    | some cs =>
      rw [h] at e
      cases e
      obtain ⟨v, us, rfl, q1, q2⟩ := RVs.cons.mp r
      rw [RV.bl.mp q1, bls_rv h q2]; rfl
  | .non :: _, _, _, e, _ => by cases e
  | .int _ :: _, _, _, e, _ => by cases e
  | .str _ :: _, _, _, e, _ => by cases e
  | .tup _ :: _, _, _, e, _ => by cases e
  | .lst _ :: _, _, _, e, _ => by cases e
  | .own _ :: _, _, _, e, _ => by cases e
  | .raw _ :: _, _, _, e, _ => by cases e
  | .scr _ :: _, _, _, e, _ => by cases e
  | .fnc _ :: _, _, _, e, _ => by cases e
  | .obj _ _ :: _, _, _, e, _ => by cases e
  | .dct _ _ :: _, _, _, e, _ => by cases e
  | .dow _ _ :: _, _, _, e, _ => by cases e
  | .dot _ _ :: _, _, _, e, _ => by cases e
def bAll : List MV → Option MV
  | [.lst xs] => (blsOf xs).map fun bs => .bl (bs.all id)
  | _ => none
theorem cs_all : CallS K bAll (rAll K) := by
  intro xs z vs Hk H Q e ex r q qn
  unfold bAll at e
  split at e
  · rename_i ys
    cases h : blsOf ys with
    | none => rw [h] at e; cases e
    | some bs =>
      rw [h] at e
      cases e
      obtain ⟨v, rfl, rv⟩ := rvs1 r
      obtain ⟨p1, ws, rfl, h1, s1⟩ := RV.lst.mp rv
      have ew := bls_rv h s1
      subst ew
      exact ⟨p1, bs, rfl, SqL.of (ex _ _ h1), q _ (RV.bl.mpr rfl)⟩
  · cases e
inductive Kd where
  | non | bl | int | str | tup | lst
  deriving DecidableEq
def Kd.name : Kd → String
  | .non => "NoneType" | .bl => "bool" | .int => "int" | .str => "str" | .tup => "tuple" | .lst => "list"
def MV.kd : MV → Option Kd
  | .non => some .non | .bl _ => some .bl | .int _ => some .int | .str _ => some .str | .tup _ => some .tup | .lst _ => some .lst
  | _ => none
end
section
variable {X : Cx} {c : Ct} {p pos : Pos} {e e2 : Expr} {es : List Expr} {a : MA}
theorem mb_len (hm : X.mg "len" = none) (ha : PA X [e] (rdA c a)) (hK : c.K = X.K := by rfl) (hg : Gl X "len" := by rfl) (he : starEach [e] X.env = (false, eval e X.env) :: starEach [] X.env := by rfl) (hpl : (backTo pos (starEach [] X.env)).any (·.1) = false := by rfl) : PE X (.Call (.Name "len" p) [e] [] pos) (rdE c (mBlt bLen a)) :=
  me_blt cr_lenM (by rw [← hK]; exact cs_len) hm PySem.boot_len ha hg (he := he) (hpl := hpl)
theorem mb_abs (hm : X.mg "abs" = none) (ha : PA X [e] (rdA c a)) (hg : Gl X "abs" := by rfl) (he : starEach [e] X.env = (false, eval e X.env) :: starEach [] X.env := by rfl) (hpl : (backTo pos (starEach [] X.env)).any (·.1) = false := by rfl) : PE X (.Call (.Name "abs" p) [e] [] pos) (rdE c (mBlt bAbs a)) :=
  me_blt call_abs cs_abs hm (by decide +kernel) ha hg (he := he) (hpl := hpl)
theorem mb_int (hm : X.mg "int" = none) (ha : PA X [e] (rdA c a)) (hg : Gl X "int" := by rfl) (he : starEach [e] X.env = (false, eval e X.env) :: starEach [] X.env := by rfl) (hpl : (backTo pos (starEach [] X.env)).any (·.1) = false := by rfl) : PE X (.Call (.Name "int" p) [e] [] pos) (rdE c (mBlt bInt a)) :=
  me_ty cr_intM cs_int hm (by decide +kernel) ha hg (he := he) (hpl := hpl)
theorem mb_str (hm : X.mg "str" = none) (ha : PA X [e] (rdA c a)) (hg : Gl X "str" := by rfl) (he : starEach [e] X.env = (false, eval e X.env) :: starEach [] X.env := by rfl) (hpl : (backTo pos (starEach [] X.env)).any (·.1) = false := by rfl) : PE X (.Call (.Name "str" p) [e] [] pos) (rdE c (mBlt bStr a)) :=
  me_ty call_str_int cs_str hm (by decide +kernel) ha hg (he := he) (hpl := hpl)
theorem mb_tuple (hm : X.mg "tuple" = none) (ha : PA X [e] (rdA c a)) (hK : c.K = X.K := by rfl) (hg : Gl X "tuple" := by rfl) (he : starEach [e] X.env = (false, eval e X.env) :: starEach [] X.env := by rfl) (hpl : (backTo pos (starEach [] X.env)).any (·.1) = false := by rfl) : PE X (.Call (.Name "tuple" p) [e] [] pos) (rdE c (mBlt bTuple a)) :=
  me_ty call_tuple_of (by rw [← hK]; exact cs_tuple) hm (by decide +kernel) ha hg (he := he) (hpl := hpl)
theorem mb_all (hc : X.calm = true) (hm : X.mg "all" = none) (ha : PA X [e] (rdA c a)) (hK : c.K = X.K := by rfl) (hg : Gl X "all" := by rfl) (he : starEach [e] X.env = (false, eval e X.env) :: starEach [] X.env := by rfl) (hpl : (backTo pos (starEach [] X.env)).any (·.1) = false := by rfl) : PE X (.Call (.Name "all" p) [e] [] pos) (rdE c (mBlt bAll a)) :=
  me_blt (cr_all hc) (by rw [← hK]; exact cs_all) hm (by decide +kernel) ha hg (he := he) (hpl := hpl)
end
end Tm
set_option Elab.async false
set_option linter.all false
set_option maxRecDepth 100000
set_option maxHeartbeats 2000000
namespace Tm
open PySem L2
open Evl (Ex ex_rd ex_l ex_t)
section
variable {X : Cx} {c : Ct} {p pos apos cpos : Pos} {e e2 : Expr} {es : List Expr} {a b : ME} {m : MA} {x : Str} {i : Nat}
def isOwn (ρ : Env) (i : Nat) : Bool := match ρ[i]? with | some (some (.own _)) => true | _ => false
theorem own_rs {F Hk H : Hp} {bp : List (Nat × Addr)} {σ : St} {ρ : Env} {i : Nat} (S : At c F Hk H bp σ ρ) (h : isOwn ρ i = true) : ∃ q vs, σ[i]? = some (some (.ref q)) ∧ H q = some (.lst vs) := by
  unfold isOwn at h
  split at h
  · rename_i xs e
    obtain ⟨q, vs, e1, e2, _⟩ := S.1.getOwn e
    exact ⟨q, vs, e1, e2⟩
  · cases h
theorem change_rs {F Hk H : Hp} {bp : List (Nat × Addr)} {σ : St} {ρ : Env} {i : Nat} {xs ys : List MV} {q : Addr} (S : At c F Hk H bp σ ρ) (h : ρ[i]? = some (some (.own xs))) (eq : σ[i]? = some (some (.ref q))) :
    ∃ vs, H q = some (.lst vs) ∧ RVs c.K Hk xs vs ∧ ∀ ws, RVs c.K Hk ys ws → RS c.K F Hk (upd H q (.lst ws)) bp σ (ρ.set i (some (.own ys))) := by
  obtain ⟨p, vs, e1, e2, e3, e4⟩ := S.1.change (ys := ys) h
  rw [eq] at e1
  cases e1
  exact ⟨vs, e2, e3, e4⟩
def mLm (f : List MV → List MV → Option (List MV × MV)) (i : Nat) (a : MA) : ME := fun ρ => if isOwn ρ i then (a ρ).bind fun ys ρ1 => match ρ1[i]? with
  | some (some (.own xs)) => (match f xs ys with | some (zs, z) => .ok (z, ρ1.set i (some (.own zs))) | none => .stuck)
  | _ => .stuck else .stuck
def LmS (K : PySem.W.Frag) (f : List MV → List MV → Option (List MV × MV)) (r : V → List V → Hp → VK → Prop) : Prop := ∀ (xs ys zs : List MV) (z : MV) (q : Addr) (vs us : List V) (Hk H : Hp) (Q : VK), f xs ys = some (zs, z) → Ex Hk H → H q = some (.lst vs) → RVs K Hk xs vs → RVs K Hk ys us →
  (∀ ws u, RVs K Hk zs ws → RV K Hk z u → Q u (upd H q (.lst ws))) → r (.ref q) us H Q
theorem rd_lm {f : List MV → List MV → Option (List MV × MV)} {r : V → List V → Hp → VK → Prop} (o : LmS c.K f r) {σ : St} {H : Hp} {Q : VK} (h : rdE c (mLm f i m) σ H Q) : tBM c.K "list" r (tVar i) (rdA c m) σ H Q := by
  obtain ⟨F, Hk, bp, ρ, S, h⟩ := h
  unfold mLm at h
  split at h
  · rename_i ho
    obtain ⟨q, vs0, eq, hq⟩ := own_rs S ho
    refine ⟨_, eq, .inl ⟨rfl, _, SqL.of hq⟩, ?_⟩
    refine rdAw (bA postE S h) fun us H1 ⟨Hk1, ys, ρ1, x1, S1, r1, h1⟩ => ?_
    split at h1
    · rename_i xs ex
      split at h1
      · rename_i zs z ef
        obtain ⟨vs, g1, g2, g3⟩ := change_rs (ys := zs) S1 ex eq
        exact o xs ys zs z q vs us Hk1 H1 Q ef S1.1.ex g1 g2 r1 fun ws u r2 r3 => h1 _ _ u (Ex.refl _) (g3 ws r2) r3
      · exact h1.elim
    · exact h1.elim
  · exact h.elim
def lmAppend : List MV → List MV → Option (List MV × MV)
  | xs, [y] => if decide (xs.length < sizeLine) then some (xs ++ [y], .non) else none
  | _, _ => none
theorem ls_append {K : PySem.W.Frag} : LmS K lmAppend rAppend := by
  intro xs ys zs z q vs us Hk H Q e ex hq r1 r2 k
  unfold lmAppend at e
  split at e
  · split at e
    · rename_i h
      cases e
      obtain ⟨v, rfl, rv⟩ := rvs1 r2
      refine ⟨q, vs, v, rfl, rfl, hq, by rw [r1.length]; exact of_decide_eq_true h, k _ _ (r1.append ?_) (RV.non.mpr rfl)⟩
      exact RVs.cons.mpr ⟨v, [], rfl, rv, RVs.nil.mpr rfl⟩
    · cases e
  · cases e
def lmExtend : List MV → List MV → Option (List MV × MV)
  | xs, [.lst ys] => if szOk (xs.length + ys.length) then some (xs ++ ys, .non) else none
  | _, _ => none
theorem ls_extend {K : PySem.W.Frag} : LmS K lmExtend rExtend := by
  intro xs ys zs z q vs us Hk H Q e ex hq r1 r2 k
  unfold lmExtend at e
  split at e
  · split at e
    · rename_i h
      cases e
      obtain ⟨v, rfl, rv⟩ := rvs1 r2
      obtain ⟨p1, ws, rfl, h1, s1⟩ := RV.lst.mp rv
      exact ⟨q, p1, vs, ws, rfl, rfl, hq, ex _ _ h1, by rw [r1.length, s1.length]; exact szOk_iff.mp h, k _ _ (r1.append s1) (RV.non.mpr rfl)⟩
    · cases e
  · cases e
theorem me_lm1 {f : List MV → List MV → Option (List MV × MV)} {r : V → List V → Hp → VK → Prop} {id : String} {name : Str} (o : LmS c.K f r) (slot : Slot "list" name id) (hty : typeOf (.builtin id) = pure (.type "method_descriptor")) (hm : MtR X id r) (hN : X.N[i]? = some x) (hv : Vis X.env.scope x) (ha : PA X (e :: es) (rdA c m)) (hK : c.K = X.K := by rfl)
    (hbase : attributeBase (.Name x p) name X.env (eval (.Name x p) X.env) = eval (.Name x p) X.env := by rfl)
    (hfew : ((backTo cpos (starEach (e :: es) X.env)).all (fun x => !x.1) && (backToKw cpos (keywordEach [] X.env)).all (fun x => x.1.isSome)
      && decide ((e :: es).length + ([] : List Keyword).length + (if ([] : List Keyword).isEmpty then 0 else 1) < 30)) = true := by rfl)
    (hline : (apos.endLine == cpos.line) = true := by rfl) (hs : starEach (e :: es) X.env = (false, eval e X.env) :: starEach es X.env := by rfl) (hplain : (backTo cpos (starEach es X.env)).any (·.1) = false := by rfl)
    (hd : (x == ("__debug__" : Str)) = false := by decide) (hcd : (x == ("__classdict__" : Str)) = false := by decide) : PE X (.Call (.Attribute (.Name x p) name apos) (e :: es) [] cpos) (rdE c (mLm f i m)) :=
  PEw (pe_bm PySem.F.plainAttrs_list slot hty hm (pe_var hN hv hd hcd) ha hbase hfew hline hs hplain) fun σ H Q h => by
    have := rd_lm o h
    rw [hK] at this
    exact this
def mSetIx (i : Nat) (a b : ME) : MS := fun ρ => (a ρ).bind fun z ρ1 => if has ρ1 i then (b ρ1).bind fun y ρ2 => match ρ2[i]?, y with
  | some (some (.own xs)), .int k => (match ixN xs.length k with | some j => .ok (.nx, ρ2.set i (some (.own (xs.set j z)))) | none => .stuck)
  | _, _ => .stuck else .stuck
theorem rd_setIx {D : Ends} {σ : St} {H : Hp} (h : rdS c (mSetIx i a b) D σ H) : tAsg (rdE c a) (gSub (tVar i) (rdE c b) rSetL) D σ H := by
  obtain ⟨F, Hk, bp, ρ, S, h⟩ := h
  refine rdw (bE (postS (σ := σ)) S h) fun v H1 ⟨Hk1, z, ρ1, x1, S1, r1, h1⟩ => ?_
  split at h1
  · rename_i hh
    obtain ⟨w, ew⟩ := has_rs S1 hh
    refine ⟨w, ew, ?_⟩
    refine rdw (bE (postS (σ := σ)) S1 h1) fun y' H2 ⟨Hk2, y, ρ2, x2, S2, r2, h2⟩ => ?_
    split at h2
    · rename_i xs k hx
      split at h2
      · rename_i j ej
        obtain ⟨q, vs, e1, _⟩ := S2.1.getOwn hx
        rw [ew] at e1
        cases e1
        obtain ⟨vs, g1, g2, g3⟩ := change_rs (ys := xs.set j z) S2 hx ew
        exact ⟨q, vs, k, j, rfl, RV.int.mp r2, g1, by rw [g2.length]; exact ej, h2 _ _ _ (Ex.refl _) (g3 _ (g2.set j (RV.mono x2 _ _ r1)))⟩
      · exact h2.elim
    · exact h2.elim
  · exact h1.elim
theorem ms_setIx {ee : Expr} (hN : X.N[i]? = some x) (hv : Vis X.env.scope x) (he : PE X e (rdE c a)) (hb : PE X ee (rdE c b)) (hs : swapsWithSole [.Subscript (.Name x p) ee apos] e pos.line X.env = pure false := by rfl) (hw : swappedStores [.Subscript (.Name x p) ee apos] e X.env = pure none := by rfl)
    (h1 : (assignEach [.Subscript (.Name x p) ee apos] X.env).map (·.2) = [assign (.Subscript (.Name x p) ee apos) X.env] := by rfl)
    (ha : ∀ v, assign (.Subscript (.Name x p) ee apos) X.env v = (do
      let ov ← holding [v] (eval (.Name x p) X.env)
      let iv ← holding [v, ov] (eval ee X.env)
      standAt apos
      holding [v, ov, iv] (setItem ov iv v)
      release [v, ov, iv] []) := by intro _; rfl)
    (hd : (x == ("__debug__" : Str)) = false := by decide) (hcd : (x == ("__classdict__" : Str)) = false := by decide) : PS X (.Assign [.Subscript (.Name x p) ee apos] e pos) (rdS c (mSetIx i a b)) :=
  PSw (ps_asg he (pg_sub (pe_var hN hv hd hcd) hb set_list ha) hs hw h1) fun _ _ _ h => rd_setIx h
end
end Tm
set_option Elab.async false
set_option linter.all false
set_option maxRecDepth 100000
set_option maxHeartbeats 2000000
namespace Tm
open PySem L2
open Evl (Ex ex_rd ex_l ex_t)
inductive Tgt where
  | nm (i : Nat) | tp (is : List Nat)
def gsOf : List Nat → TGs
  | [] => gNil
  | i :: is => gCons (gName i) (gsOf is)
def gOf (K : PySem.W.Frag) : Tgt → TG
  | .nm i => gName i
  | .tp is => gTup K is.length (gsOf is)
def setAll : List Nat → List MV → Env → Option Env
  | [], [], ρ => some ρ
  | i :: is, x :: xs, ρ => if i < ρ.length then setAll is xs (ρ.set i (some x)) else none
  | _, _, _ => none
def setT (t : Tgt) (x : MV) (ρ : Env) : Option Env := match t with
  | .nm i => if i < ρ.length then some (ρ.set i (some x)) else none
  | .tp is => match x with
    | .tup xs => if xs.length = is.length then setAll is xs ρ else none
    | _ => none
def Tgt.slots : Tgt → List Nat
  | .nm i => [i]
  | .tp is => is
theorem wipe_get (σ : St) : ∀ (vs : List Nat) (j : Nat), (wipe σ vs)[j]? = if j ∈ vs ∧ j < σ.length then some none else σ[j]?
  | [], j => by simp [wipe]
  | v :: vs, j => by
    unfold wipe
    by_cases e : v = j
    · subst e
      by_cases hl : v < σ.length
      · rw [List.getElem?_set_self (by rw [wipe_length]; exact hl), if_pos ⟨by simp, hl⟩]
      · rw [if_neg (by intro h; exact hl h.2), List.getElem?_eq_none (by rw [List.length_set, wipe_length]; omega), List.getElem?_eq_none (by omega)]
    · rw [List.getElem?_set_ne e, wipe_get σ vs j]
      by_cases hm : j ∈ vs ∧ j < σ.length
      · rw [if_pos hm, if_pos ⟨List.mem_cons_of_mem _ hm.1, hm.2⟩]
      · rw [if_neg hm, if_neg (fun h => hm ⟨(List.mem_cons.mp h.1).resolve_left (Ne.symm e), h.2⟩)]
theorem wipe_set {σ : St} {vs : List Nat} {i : Nat} {y : Option V} (h : i ∈ vs) : wipe (σ.set i y) vs = wipe σ vs := by
  refine List.ext_getElem? fun j => ?_
  rw [wipe_get, wipe_get, List.length_set]
  by_cases hm : j ∈ vs ∧ j < σ.length
  · rw [if_pos hm, if_pos hm]
  · rw [if_neg hm, if_neg hm]
    by_cases e : i = j
    · subst e
      have : σ.length ≤ i := Nat.le_of_not_lt fun z => hm ⟨h, z⟩
      rw [List.getElem?_eq_none (by simpa using this), List.getElem?_eq_none this]
    · rw [List.getElem?_set_ne e]
theorem wipe_wipe (σ : St) (vs : List Nat) : wipe (wipe σ vs) vs = wipe σ vs := by
  refine List.ext_getElem? fun j => ?_
  rw [wipe_get, wipe_length, wipe_get]
  by_cases hm : j ∈ vs ∧ j < σ.length
  · rw [if_pos hm, if_pos hm]
  · rw [if_neg hm]
def wipeM (ρ : Env) : List Nat → Env
  | [] => ρ
  | v :: vs => (wipeM ρ vs).set v none
theorem wipeM_len (ρ : Env) : ∀ vs : List Nat, (wipeM ρ vs).length = ρ.length
  | [] => rfl
  | v :: vs => by unfold wipeM; rw [List.length_set, wipeM_len ρ vs]
theorem wipeM_get (σ : Env) : ∀ (vs : List Nat) (j : Nat), (wipeM σ vs)[j]? = if j ∈ vs ∧ j < σ.length then some none else σ[j]?
  | [], j => by simp [wipeM]
  | v :: vs, j => by
    unfold wipeM
    by_cases e : v = j
    · subst e
      by_cases hl : v < σ.length
      · rw [List.getElem?_set_self (by rw [wipeM_len]; exact hl), if_pos ⟨by simp, hl⟩]
      · rw [if_neg (by intro h; exact hl h.2), List.getElem?_eq_none (by rw [List.length_set, wipeM_len]; omega), List.getElem?_eq_none (by omega)]
    · rw [List.getElem?_set_ne e, wipeM_get σ vs j]
      by_cases hm : j ∈ vs ∧ j < σ.length
      · rw [if_pos hm, if_pos ⟨List.mem_cons_of_mem _ hm.1, hm.2⟩]
      · rw [if_neg hm, if_neg (fun h => hm ⟨(List.mem_cons.mp h.1).resolve_left (Ne.symm e), h.2⟩)]
def perAt (ρ : Env) (vs : List Nat) : Bool := vs.all fun i => match ρ[i]? with
  | some (some x) => x.per
  | _ => true
def backM (ρ ρ' : Env) (vs : List Nat) : Env := vs.foldl (fun r i => r.set i ((ρ[i]?).join)) ρ'
section
variable {K : PySem.W.Frag} {F Hk H : Hp} {bp : List (Nat × Addr)} {σ : St} {ρ : Env}
theorem SL.setNone {ow : Nat → List Addr} (S : SL K F Hk H ow σ ρ) {i : Nat} : SL K F Hk H (put ow i []) (σ.set i none) (ρ.set i none) := by
  refine ⟨fun j y h => ?_, fun j a h => ?_, fun j h => ?_, fun j k a hjk h => ?_⟩
  · rcases set_get h with ⟨_, e⟩ | ⟨ne, e⟩
    · cases e
    · obtain ⟨u, e1, e2⟩ := S.s j y e
      exact ⟨u, by rw [List.getElem?_set_ne (Ne.symm ne)]; exact e1, by rw [put_ne ne]; exact e2⟩
  · by_cases e : j = i
    · rw [e, put_same] at h; cases h
    · rw [put_ne e] at h; exact S.f j a h
  · by_cases e : j = i
    · rw [e, put_same] at h; exact (h rfl).elim
    · rw [put_ne e] at h; rw [List.length_set]; exact S.w j h
  · by_cases e : j = i
    · rw [e, put_same] at h; cases h
    · rw [put_ne e] at h
      by_cases e2 : k = i
      · rw [e2, put_same]; simp
      · rw [put_ne e2]; exact S.d j k a hjk h
theorem RS.setNone (S : RS K F Hk H bp σ ρ) {i : Nat} (hb : ∀ q ∈ bp, q.1 ≠ i) : RS K F Hk H bp (σ.set i none) (ρ.set i none) := by
  obtain ⟨ow, s⟩ := S.ow
  exact ⟨by simp [S.len], S.ex, S.fr, S.frk, ⟨_, s.setNone⟩, fun q hq => by rw [List.getElem?_set_ne (Ne.symm (hb q hq))]; exact S.bor q hq⟩
theorem RS.wipe (S : RS K F Hk H bp σ ρ) : ∀ vs : List Nat, (∀ q ∈ bp, q.1 ∉ vs) → RS K F Hk H bp (L2.wipe σ vs) (wipeM ρ vs)
  | [], _ => S
  | v :: vs, hb => (RS.wipe S vs fun q hq z => hb q hq (List.mem_cons_of_mem _ z)).setNone fun q hq z => hb q hq (by rw [z]; simp)
theorem RS.back (S : RS K F Hk H bp (L2.wipe σ vs) (wipeM ρ' vs)) (S0 : ∀ i ∈ vs, ∀ x, ρ[i]? = some (some x) → ∃ v, σ[i]? = some (some v) ∧ RV K Hk x v) (hl : ρ.length = ρ'.length) (hl2 : σ.length = ρ.length) (hb : ∀ q ∈ bp, q.1 ∉ vs) : RS K F Hk H bp σ (backM ρ ρ' vs) := by
  have gb : ∀ (vs : List Nat) (r : Env) (j : Nat), r.length = ρ.length → (vs.foldl (fun r i => r.set i ((ρ[i]?).join)) r)[j]? = if j ∈ vs ∧ j < ρ.length then some ((ρ[j]?).join) else r[j]? := fun vs => by
    induction vs with
    | nil => intro r j _; simp
    | cons v vs ih =>
      intro r j hr
      rw [List.foldl_cons, ih _ j (by rw [List.length_set]; exact hr)]
      by_cases hm : j ∈ vs ∧ j < ρ.length
      · rw [if_pos hm, if_pos ⟨List.mem_cons_of_mem _ hm.1, hm.2⟩]
      · rw [if_neg hm]
        by_cases e : v = j
        · subst e
          by_cases hl : v < ρ.length
          · rw [List.getElem?_set_self (by rw [hr]; exact hl), if_pos ⟨by simp, hl⟩]
          · rw [if_neg (by intro h; exact hl h.2), List.getElem?_eq_none (by rw [List.length_set, hr]; omega), List.getElem?_eq_none (by omega)]
        · rw [List.getElem?_set_ne e, if_neg (fun h => hm ⟨(List.mem_cons.mp h.1).resolve_left (Ne.symm e), h.2⟩)]
  have gl : ∀ (vs : List Nat) (r : Env), (vs.foldl (fun r i => r.set i ((ρ[i]?).join)) r).length = r.length := fun vs => by
    induction vs with
    | nil => intro r; rfl
    | cons v vs ih => intro r; rw [List.foldl_cons, ih, List.length_set]
  obtain ⟨ow, s⟩ := S.ow
  have lb : (backM ρ ρ' vs).length = ρ.length := by unfold backM; rw [gl, ← hl]
  refine ⟨by rw [lb, hl2], S.ex, S.fr, S.frk, ⟨fun j => if j ∈ vs then [] else ow j, fun j y h => ?_, fun j a h => ?_, fun j h => ?_, fun j k a hjk h => ?_⟩, fun q hq => ?_⟩
  · unfold backM at h
    rw [gb vs ρ' j hl.symm] at h
    by_cases hm : j ∈ vs ∧ j < ρ.length
    · rw [if_pos hm] at h
      have e : ρ[j]? = some (some y) := by
        cases er : ρ[j]? with
        | none => rw [er] at h; cases h
        | some o => rw [er] at h; cases o with
          | none => cases h
          | some z => cases h; rfl
      obtain ⟨v, e1, r⟩ := S0 j hm.1 y e
      exact ⟨v, e1, by rw [if_pos hm.1]; exact r.ov⟩
    · rw [if_neg hm] at h
      have nj : j ∉ vs := fun z => hm ⟨z, by rw [hl]; exact lt_get h⟩
      obtain ⟨v, e1, o⟩ := s.s j y (by rw [wipeM_get, if_neg (fun z => nj z.1)]; exact h)
      rw [wipe_get, if_neg (fun z => nj z.1)] at e1
      exact ⟨v, e1, by rw [if_neg nj]; exact o⟩
  · by_cases e : j ∈ vs
    · rw [if_pos e] at h; cases h
    · rw [if_neg e] at h; exact s.f j a h
  · by_cases e : j ∈ vs
    · rw [if_pos e] at h; exact (h rfl).elim
    · rw [if_neg e] at h; have := s.w j h; rw [wipeM_len] at this; rw [lb, hl]; exact this
  · by_cases e : j ∈ vs
    · rw [if_pos e] at h; cases h
    · rw [if_neg e] at h
      by_cases e2 : k ∈ vs
      · rw [if_pos e2]; simp
      · rw [if_neg e2]; exact s.d j k a hjk h
  · have := S.bor q hq
    rw [wipe_get, if_neg (fun z => hb q hq z.1)] at this
    exact this
end
section
variable {X : Cx} {c : Ct}
theorem gs_rd {F Hk H : Hp} {bp : List (Nat × Addr)} {vs0 : List Nat} (hb : ∀ q ∈ bp, q.1 ∉ vs0) : ∀ (is : List Nat) (xs : List MV) (ws : List V) (σ : St) (ρ ρ' : Env) (Q : St → Hp → Prop), (∀ i ∈ is, i ∈ vs0) → RS c.K F Hk H bp σ ρ → RVs c.K Hk xs ws → setAll is xs ρ = some ρ' →
    (∀ σ', RS c.K F Hk H bp σ' ρ' → wipe σ' vs0 = wipe σ vs0 → Q σ' H) → gsOf is ws σ H Q
  | [], [], ws, σ, ρ, ρ', Q, _, S, r, e, k => by
    cases e
    exact ⟨RVs.nil.mp r, k σ S rfl⟩
  | [], x :: xs, ws, σ, ρ, ρ', Q, _, S, r, e, k => by cases e
  | i :: is, [], ws, σ, ρ, ρ', Q, _, S, r, e, k => by cases e
  | i :: is, x :: xs, ws, σ, ρ, ρ', Q, hi, S, r, e, k => by
    obtain ⟨v, us, rfl, r1, r2⟩ := RVs.cons.mp r
    unfold setAll at e
    split at e
    · rename_i hl
      have hm := hi i (by simp)
      refine ⟨v, us, rfl, ?_⟩
      refine gs_rd hb is xs us _ _ ρ' Q (fun j hj => hi j (List.mem_cons_of_mem _ hj)) (S.set hl r1 fun q hq z => hb q hq (z ▸ hm)) r2 e fun σ' S' w => k σ' S' (by rw [w, wipe_set hm])
    · cases e
theorem g_rd {F Hk H : Hp} {bp : List (Nat × Addr)} {vs0 : List Nat} (hb : ∀ q ∈ bp, q.1 ∉ vs0) {t : Tgt} {x : MV} {v : V} {σ : St} {ρ ρ' : Env} {Q : St → Hp → Prop} (hi : ∀ i ∈ t.slots, i ∈ vs0) (S : RS c.K F Hk H bp σ ρ) (r : RV c.K Hk x v) (e : setT t x ρ = some ρ')
    (k : ∀ σ', RS c.K F Hk H bp σ' ρ' → wipe σ' vs0 = wipe σ vs0 → Q σ' H) : gOf c.K t v σ H Q := by
  cases t with
  | nm i =>
    have e : (if i < ρ.length then some (ρ.set i (some x)) else none) = some ρ' := e
    split at e
    · rename_i hl
      cases e
      have hm := hi i (by simp [Tgt.slots])
      exact k _ (S.set hl r fun q hq z => hb q hq (z ▸ hm)) (wipe_set hm)
    · cases e
  | tp is =>
    cases x with
    | tup xs =>
      have e : (if xs.length = is.length then setAll is xs ρ else none) = some ρ' := e
      split at e
      · rename_i hl
        obtain ⟨a, ws, rfl, h1, s1⟩ := RV.tup.mp r
        exact ⟨a, ws, rfl, ex_t S.ex h1, by rw [s1.length, hl], gs_rd hb is xs ws σ ρ ρ' Q hi S s1 e k⟩
      · cases e
    | _ => cases e
def Res.b0 {α β : Type} (r : Res (α × Env)) (f : α → Env → Res (β × Env)) : Res (β × Env) :=
  match r with
  | .ok (x, ρ) => f x ρ
  | _ => .stuck
def mLcLoop (g : Tgt) (t : MT) (e : ME) (vs : List Nat) : List MV → List MV → Env → Res (List MV × Env)
  | [], acc, ρ => .ok (acc, ρ)
  | x :: xs, acc, ρ => match setT g x (wipeM ρ vs) with
    | none => .stuck
    | some ρ1 => (t ρ1).b0 fun b ρ2 => if b then (e ρ2).b0 fun y ρ3 => (if acc.length < sizeLine ∧ ρ3.length = ρ.length then mLcLoop g t e vs xs (acc ++ [y]) ρ3 else .stuck) else if ρ2.length = ρ.length then mLcLoop g t e vs xs acc ρ2 else .stuck
def mYes : MT := fun ρ => .ok (true, ρ)
def mLcO (it : MI) (g : Tgt) (t : MT) (e : ME) (vs : List Nat) : ME := fun ρ => (it ρ).bind fun xs ρ1 => if perAt ρ1 vs then (mLcLoop g t e vs xs [] ρ1).b0 fun ys ρ2 => .ok (.own ys, backM ρ1 ρ2 vs) else .stuck
theorem b0E {F Hk H : Hp} {bp : List (Nat × Addr)} {σ : St} {ρ : Env} {β : Type} {P : Hp → Res (β × Env) → Prop} (st : ∀ Hk, ¬ P Hk .stuck) (mo : ∀ Hk Hk' r, Ex Hk Hk' → P Hk r → P Hk' r) {a : ME} {k : MV → Env → Res (β × Env)} (S : At c F Hk H bp σ ρ) (h : P Hk ((a ρ).b0 k)) :
    rdE c a σ H fun v H1 => ∃ Hk1 x ρ1, Ex Hk Hk1 ∧ At c F Hk1 H1 bp σ ρ1 ∧ RV c.K Hk1 x v ∧ P Hk1 (k x ρ1) := by
  refine ⟨F, Hk, bp, ρ, S, ?_⟩
  cases e : a ρ with
  | stuck => rw [e] at h; exact st _ h
  | exc x ρ' => rw [e] at h; exact (st _ h).elim
  | ok q =>
    rw [e] at h
    exact fun Hk1 H1 v x1 S1 r1 => ⟨Hk1, q.1, q.2, x1, ⟨S1, S.2⟩, r1, mo _ _ _ x1 h⟩
theorem b0T {F Hk H : Hp} {bp : List (Nat × Addr)} {σ : St} {ρ : Env} {β : Type} {P : Hp → Res (β × Env) → Prop} (st : ∀ Hk, ¬ P Hk .stuck) (mo : ∀ Hk Hk' r, Ex Hk Hk' → P Hk r → P Hk' r) {a : MT} {k : Bool → Env → Res (β × Env)} (S : At c F Hk H bp σ ρ) (h : P Hk ((a ρ).b0 k)) :
    rdT c a σ H fun b H1 => ∃ Hk1 ρ1, Ex Hk Hk1 ∧ At c F Hk1 H1 bp σ ρ1 ∧ P Hk1 (k b ρ1) := by
  refine ⟨F, Hk, bp, ρ, S, ?_⟩
  cases e : a ρ with
  | stuck => rw [e] at h; exact st _ h
  | exc x ρ' => rw [e] at h; exact (st _ h).elim
  | ok q =>
    rw [e] at h
    exact fun Hk1 H1 x1 S1 => ⟨Hk1, q.2, x1, ⟨S1, S.2⟩, mo _ _ _ x1 h⟩
def okB (c : Ct) (F Hk : Hp) (bp : List (Nat × Addr)) (σ : St) (Q : VK) (ρ0 : Env) (vs : List Nat) : Res (List MV × Env) → Prop
  | .ok (ys, ρ') => okO c F Hk bp σ Q (.ok (.own ys, backM ρ0 ρ' vs))
  | _ => False
theorem okB.mono {F Hk Hk' : Hp} {bp : List (Nat × Addr)} {σ : St} {Q : VK} {ρ0 : Env} {vs : List Nat} {r : Res (List MV × Env)} (x : Ex Hk Hk') (h : okB c F Hk bp σ Q ρ0 vs r) : okB c F Hk' bp σ Q ρ0 vs r := by
  cases r with
  | ok a => exact okO.mono (r := .ok (.own a.1, backM ρ0 a.2 vs)) x h
  | exc e ρ => exact h
  | stuck => exact h
theorem RS.inFr {K : PySem.W.Frag} {F Hk H : Hp} {bp : List (Nat × Addr)} {σ : St} {ρ : Env} {D : Addr} {xs : List V} (S : RS K F Hk H bp σ ρ) (h : H D = none) : RS K (upd F D (.lst xs)) Hk (upd H D (.lst xs)) bp σ ρ := by
  have S' := S.more (o := .lst xs) h
  obtain ⟨ow, s⟩ := S.ow
  refine ⟨S.len, S'.ex, S.fr.both h, fun a o ha => ?_, ⟨ow, fun i x hx => ?_, fun i a ha => ?_, s.w, s.d⟩, S.bor⟩
  · by_cases e : a = D
    · rw [e]; exact S.ex.back h
    · rw [upd_ne e] at ha; exact S.frk a o ha
  · obtain ⟨v, ev, o⟩ := s.s i x hx
    exact ⟨v, ev, o.move (Ex.refl _) fun a ha u hu => by rw [upd_ne (ne_of_none hu h)]; exact hu⟩
  · obtain ⟨g1, g2, o, g3⟩ := s.f i a ha
    have ne := ne_of_none g3 h
    exact ⟨g1, by rw [upd_ne ne]; exact g2, o, by rw [upd_ne ne]; exact g3⟩
theorem RS.grow {K : PySem.W.Frag} {F Hk H : Hp} {bp : List (Nat × Addr)} {σ : St} {ρ : Env} {D : Addr} {xs ys : List V} (S : RS K (upd F D (.lst xs)) Hk H bp σ ρ) : RS K (upd F D (.lst ys)) Hk (upd H D (.lst ys)) bp σ ρ := by
  have hk : Hk D = none := S.frk D _ upd_same
  obtain ⟨ow, s⟩ := S.ow
  have nd : ∀ i a, a ∈ ow i → a ≠ D := fun i a ha e => by
    have := (s.f i a ha).2.1
    rw [e, upd_same] at this
    cases this
  refine ⟨S.len, S.ex.mut hk, fun a o ha => ?_, fun a o ha => ?_, ⟨ow, fun i x hx => ?_, fun i a ha => ?_, s.w, s.d⟩, S.bor⟩
  · by_cases e : a = D
    · subst e; rw [upd_same] at ha ⊢; exact ha
    · rw [upd_ne e] at ha ⊢; exact S.fr a o (by rw [upd_ne e]; exact ha)
  · by_cases e : a = D
    · rw [e]; exact hk
    · rw [upd_ne e] at ha; exact S.frk a o (by rw [upd_ne e]; exact ha)
  · obtain ⟨v, ev, o⟩ := s.s i x hx
    exact ⟨v, ev, o.move (Ex.refl _) fun a ha u hu => by rw [upd_ne (nd i a ha)]; exact hu⟩
  · obtain ⟨g1, g2, o, g3⟩ := s.f i a ha
    exact ⟨g1, by have := nd i a ha; rw [upd_ne this] at g2 ⊢; exact g2, o, by rw [upd_ne (nd i a ha)]; exact g3⟩
theorem RS.outFr {K : PySem.W.Frag} {F Hk H : Hp} {bp : List (Nat × Addr)} {σ : St} {ρ : Env} {D : Addr} {vs : List V} {xs : List MV} (S : RS K (upd F D (.lst vs)) Hk H bp σ ρ) (hF : F D = none) (r : RVs K Hk xs vs) : RS K F Hk H bp (σ ++ [some (.ref D)]) (ρ ++ [some (.own xs)]) := by
  have hk : Hk D = none := S.frk D _ upd_same
  have hH : H D = some (.lst vs) := S.fr D _ upd_same
  have up : ∀ a o, F a = some o → upd F D (.lst vs) a = some o := fun a o ha => by rw [upd_ne (ne_of_none ha hF)]; exact ha
  obtain ⟨ow, s⟩ := S.ow
  have nd : ∀ i a, a ∈ ow i → a ≠ D := fun i a ha e => by
    have := (s.f i a ha).2.1
    rw [e, upd_same] at this
    cases this
  have s' : SL K F Hk H ow σ ρ := ⟨s.s, fun i a ha => by
    obtain ⟨g1, g2, g3⟩ := s.f i a ha
    exact ⟨g1, by rw [upd_ne (nd i a ha)] at g2; exact g2, g3⟩, s.w, s.d⟩
  refine ⟨by simp [S.len], S.ex, fun a o ha => S.fr a o (up a o ha), fun a o ha => S.frk a o (up a o ha), ⟨_, s'.push S.len (A := [D]) (OV.own.mpr ⟨D, vs, rfl, rfl, hH, r⟩) (fun a ha => ?_) (fun i a ha hi => ?_)⟩, S.bor_app _⟩
  · simp at ha; subst ha; exact ⟨hk, hF⟩
  · simp at ha; subst ha; exact nd i a hi rfl
theorem rd_lc {it : MI} {g : Tgt} {t : MT} {e : ME} {vs : List Nat} {σ : St} {H : Hp} {Q : VK} (hg : ∀ i ∈ g.slots, i ∈ vs) (hbs : ∀ i ∈ vs, c.bs.contains i = false) (h : rdO c (mLcO it g t e vs) σ H Q) : tLc (rdI c it) (gOf c.K g) (rdT c t) (rdE c e) vs σ H Q := by
  obtain ⟨F, Hk, bp, ρ, S, h⟩ := h
  have hb : ∀ q ∈ bp, q.1 ∉ vs := fun q hq z => nb S.2.1 (hbs _ z) q hq rfl
  refine ⟨F, Hk, bp, ρ, S, ?_⟩
  have h : okO c F Hk bp σ Q ((it ρ).bind fun xs ρ1 => if perAt ρ1 vs then (mLcLoop g t e vs xs [] ρ1).b0 fun ys ρ2 => .ok (.own ys, backM ρ1 ρ2 vs) else .stuck) := h
  cases ei : it ρ with
  | stuck => rw [ei] at h; exact h
  | exc x ρ' => rw [ei] at h; exact h
  | ok p =>
    obtain ⟨xs, ρ1⟩ := p
    rw [ei] at h
    intro Hk1 H1 J x1 S1 wk D hD
    have h : okO c F Hk1 bp σ Q (if perAt ρ1 vs then (mLcLoop g t e vs xs [] ρ1).b0 fun ys ρ2 => .ok (.own ys, backM ρ1 ρ2 vs) else .stuck) := okO.mono x1 h
    split at h
    · rename_i hper
      have h : okB c F Hk1 bp σ Q ρ1 vs (mLcLoop g t e vs xs [] ρ1) := by
        cases e2 : mLcLoop g t e vs xs [] ρ1 with
        | ok q => rw [e2] at h; exact h
        | exc x r => rw [e2] at h; exact h
        | stuck => rw [e2] at h; exact h
      have fD : F D = none := by
        cases e : F D with
        | none => rfl
        | some o => have := S1.fr D o e; rw [hD] at this; cases this
      have p0 : ∀ i ∈ vs, ∀ x, ρ1[i]? = some (some x) → ∃ v, σ[i]? = some (some v) ∧ RV c.K Hk1 x v := fun i hi x hx => by
        have z := List.all_eq_true.mp hper i hi
        rw [hx] at z
        exact S1.get hx z
      refine ⟨fun i m H' => m = xs.length - i ∧ i ≤ xs.length ∧ ∃ Hk' ρ' acc ws, Ex Hk1 Hk' ∧ RS c.K (upd F D (.lst ws)) Hk' H' bp (wipe σ vs) (wipeM ρ' vs) ∧ RVs c.K Hk' acc ws ∧ ρ'.length = ρ1.length ∧ okB c F Hk' bp σ Q ρ1 vs (mLcLoop g t e vs (xs.drop i) acc ρ'),
        ⟨xs.length, by simp, Nat.zero_le _, Hk1, ρ1, [], [], Ex.refl _, (S1.wipe vs hb).inFr hD, RVs.nil.mpr rfl, rfl, h⟩, ?_⟩
      rintro i m H' ⟨rfl, hi, Hk', ρ', acc, ws, x', S', ra, hl, h'⟩
      by_cases hlt : i < xs.length
      · refine .inr ⟨wk.go i H' (x'.trans S'.ex) hlt, fun H2 => ∃ Hk2 ρ2 acc2 ws2, Ex Hk1 Hk2 ∧ RS c.K (upd F D (.lst ws2)) Hk2 H2 bp (wipe σ vs) (wipeM ρ2 vs) ∧ RVs c.K Hk2 acc2 ws2 ∧ ρ2.length = ρ1.length ∧ okB c F Hk2 bp σ Q ρ1 vs (mLcLoop g t e vs (xs.drop (i + 1)) acc2 ρ2),
          fun H2 z => ⟨xs.length - (i + 1), by omega, rfl, hlt, z⟩, fun x H2 y => ?_⟩
        obtain ⟨z, ez, hz⟩ := wk.yld i H' x H2 (x'.trans S'.ex) hlt y
        have ed : xs.drop i = z :: xs.drop (i + 1) := by
          rw [List.drop_eq_getElem_cons hlt]
          rw [List.getElem?_eq_getElem hlt] at ez
          cases ez; rfl
        rw [ed] at h'
        have st : ∀ Hk, ¬ okB c F Hk bp σ Q ρ1 vs .stuck := fun _ f => f
        have mo : ∀ Hk Hk' r, Ex Hk Hk' → okB c F Hk bp σ Q ρ1 vs r → okB c F Hk' bp σ Q ρ1 vs r := fun _ _ _ x h => okB.mono x h
        have fin : ∀ Hk3, Ex Hk' Hk3 → RS c.K (upd F D (.lst ws)) Hk3 H2 bp (wipe σ vs) (wipeM ρ' vs) → RV c.K Hk3 z x →
            gOf c.K g x (wipe σ vs) H2 fun σ2 H2 => wipe σ2 vs = wipe σ vs ∧ rdT c t σ2 H2 fun b H3 => if b = true then rdE c e σ2 H3 fun y H4 => ∃ acc, H4 D = some (.lst acc) ∧ acc.length < sizeLine ∧
              (∃ Hk2 ρ2 acc2 ws2, Ex Hk1 Hk2 ∧ RS c.K (upd F D (.lst ws2)) Hk2 (upd H4 D (.lst (acc ++ [y]))) bp (wipe σ vs) (wipeM ρ2 vs) ∧ RVs c.K Hk2 acc2 ws2 ∧ ρ2.length = ρ1.length ∧ okB c F Hk2 bp σ Q ρ1 vs (mLcLoop g t e vs (xs.drop (i + 1)) acc2 ρ2)) else
              ∃ Hk2 ρ2 acc2 ws2, Ex Hk1 Hk2 ∧ RS c.K (upd F D (.lst ws2)) Hk2 H3 bp (wipe σ vs) (wipeM ρ2 vs) ∧ RVs c.K Hk2 acc2 ws2 ∧ ρ2.length = ρ1.length ∧ okB c F Hk2 bp σ Q ρ1 vs (mLcLoop g t e vs (xs.drop (i + 1)) acc2 ρ2) := fun Hk3 x3 S3 r3 => by
          have h' := okB.mono x3 h'
          unfold mLcLoop at h'
          cases eg : setT g z (wipeM ρ' vs) with
          | none => rw [eg] at h'; exact h'.elim
          | some ρ3 =>
            rw [eg] at h'
            refine g_rd hb hg S3 r3 eg fun σ2 S4 w2 => ⟨by rw [w2, wipe_wipe], ?_⟩
            have w2' : wipe σ2 vs = wipe σ vs := by rw [w2, wipe_wipe]
            refine rdTw (b0T st mo ⟨S4, S.2.1, c.Jm _ _ _ (Ex.new fD) S.2.2⟩ h') fun b H3 ⟨Hk4, ρ4, x4, S5, h5⟩ => ?_
            cases b with
            | true =>
              rw [if_pos rfl] at h5 ⊢
              refine rdw (b0E st mo S5 h5) fun y H4 ⟨Hk5, yy, ρ5, x5, S6, r6, h6⟩ => ?_
              split at h6
              · rename_i hz
                have ra' := ra.mono (x3.trans (x4.trans x5))
                refine ⟨ws, S6.1.fr D _ upd_same, by rw [ra'.length]; exact hz.1, Hk5, ρ5, acc ++ [yy], ws ++ [y], x'.trans (x3.trans (x4.trans x5)), ?_, ra'.append (RVs.cons.mpr ⟨y, [], rfl, r6, RVs.nil.mpr rfl⟩), by rw [hz.2, hl], h6⟩
                have := (S6.1.wipe vs hb)
                rw [w2'] at this
                exact this.grow
              · exact h6.elim
            | false =>
              rw [if_neg (by decide)] at h5 ⊢
              split at h5
              · rename_i hz
                refine ⟨Hk4, ρ4, acc, ws, x'.trans (x3.trans x4), ?_, ra.mono (x3.trans x4), by rw [hz, hl], h5⟩
                have := (S5.1.wipe vs hb)
                rw [w2'] at this
                exact this
              · exact h5.elim
        rcases hz with ⟨rfl, r⟩ | ⟨p, us, ys, hp, rfl, rfl, rfl, r⟩
        · exact fin Hk' (Ex.refl _) S' (RV.mono x' _ _ r)
        · have xn := Ex.new (o := .tup us) (S'.ex.back hp)
          exact fin _ xn (S'.new hp) (RV.tup.mpr ⟨p, us, rfl, SqT.of upd_same, r.mono (x'.trans xn)⟩)
      · have e : i = xs.length := by omega
        subst e
        rw [List.drop_length] at h'
        refine .inl ⟨wk.stop H' (x'.trans S'.ex), ?_⟩
        have out := S'.outFr fD ra
        have bk : RS c.K (upd F D (.lst ws)) Hk' H' bp σ (backM ρ1 ρ' vs) := RS.back S' (fun i hi x hx => by
          obtain ⟨v, ev, rv⟩ := p0 i hi x hx
          exact ⟨v, ev, RV.mono x' _ _ rv⟩) hl.symm S1.len hb
        exact h' _ _ _ (Ex.refl _) (bk.outFr fD ra)
    · exact h.elim
end
end Tm
set_option Elab.async false
set_option linter.all false
set_option maxRecDepth 100000
set_option maxHeartbeats 2000000
namespace Tm
open PySem L2
theorem hbs_of {bs vs : List Nat} (h : (vs.all fun v => !bs.contains v) = true) : ∀ i ∈ vs, bs.contains i = false := fun i hi => by
  have := List.all_eq_true.mp h i hi
  simpa using this
open Evl (Ex ex_rd ex_l ex_t)
section
variable {X : Cx} {c : Ct} {elt tg iter : Expr} {ifs : List Expr} {scope : Scope} {own : List (Str × Nat)} {pos : Pos} {it : MI} {g : Tgt} {t : MT} {e : ME}
theorem mts_nil : PTs X [] (rdT c mYes) := ⟨fun pins s σ H Q I ⟨F, Hk, bp, ρ, S, h⟩ => pts_nil.run pins s σ H Q I (h _ _ (Ex.refl _) S.1)⟩
theorem mts_one {a : Expr} (h : PT X a (rdT c t)) : PTs X [a] (rdT c t) := pts_one h
theorem mo_lc (hc : X.calm = true) (hN : X.N.Nodup) (hi : PI X tg iter (rdI c it)) (ok : BlkOk X.N X.env.scope scope own) (hg : ∀ (s : Shared) (H : Hp) (C : Addr) (cl : List (Str × Addr)) (fp : List Addr), PG (X.blk s H scope (compEnvC scope cl C X.env) fp) tg (gOf X.K g))
    (ht : ∀ (s : Shared) (H : Hp) (C : Addr) (cl : List (Str × Addr)) (fp : List Addr), PTs (X.blk s H scope (compEnvC scope cl C X.env) fp) ifs (rdT c t)) (he : ∀ (s : Shared) (H : Hp) (C : Addr) (cl : List (Str × Addr)) (fp : List Addr), PE (X.blk s H scope (compEnvC scope cl C X.env) fp) elt (rdE c e))
    (hgs : ∀ i ∈ g.slots, i ∈ own.map (·.2) := by decide) (hbs : ∀ i ∈ own.map (·.2), c.bs.contains i = false := by decide) (hK : c.K = X.K := by rfl) (hs : ∀ x, foldedSetIterable iter X.env x = pure x := by intro _; rfl) :
    PE X (.ListComp elt [⟨tg, iter, ifs, 0⟩] scope pos) (rdO c (mLcO it g t e (own.map (·.2)))) := PEw (pe_lc hc hN hi ok hg ht he hs) fun σ H Q h => by rw [← hK]; exact rd_lc hgs hbs h
theorem ms_setLc {i : Nat} {y : Str} {py spos : Pos} (hc : X.calm = true) (hN : X.N.Nodup) (hy : X.N[i]? = some y) (hyl : X.env.scope.names.lookup y = some .local) (hsw : swapsWith (.ListComp elt [⟨tg, iter, ifs, 0⟩] scope pos) (some (.Name y py)) spos.line X.env = pure true)
    (hi : PI X tg iter (rdI c it)) (ok : BlkOk X.N X.env.scope scope own) (hg : ∀ (s : Shared) (H : Hp) (C : Addr) (cl : List (Str × Addr)) (fp : List Addr), PG (X.blk s H scope (compEnvC scope cl C X.env) fp) tg (gOf X.K g))
    (ht : ∀ (s : Shared) (H : Hp) (C : Addr) (cl : List (Str × Addr)) (fp : List Addr), PTs (X.blk s H scope (compEnvC scope cl C X.env) fp) ifs (rdT c t)) (he : ∀ (s : Shared) (H : Hp) (C : Addr) (cl : List (Str × Addr)) (fp : List Addr), PE (X.blk s H scope (compEnvC scope cl C X.env) fp) elt (rdE c e))
    (hb : c.bs.contains i = false := by rfl) (hgs : ∀ i ∈ g.slots, i ∈ own.map (·.2) := by decide) (hbs : ∀ i ∈ own.map (·.2), c.bs.contains i = false := by decide) (hK : c.K = X.K := by rfl) (hs : ∀ x, foldedSetIterable iter X.env x = pure x := by intro _; rfl) :
    PS X (.Assign [.Name y py] (.ListComp elt [⟨tg, iter, ifs, 0⟩] scope pos) spos) (rdS c (mSetO i (mLcO it g t e (own.map (·.2))))) := PSw (ps_setLc hc hN hy hyl hsw hi ok hg ht he hs) fun D σ H h => by
    obtain ⟨F, Hk, bp, ρ, S, h⟩ := rd_setO hb h
    rw [← hK]
    exact rd_lc hgs hbs ⟨F, Hk, bp, ρ, S, h⟩
end
theorem only_rs {K : PySem.W.Frag} {H : Hp} {a : Addr} {ns : List Int} (h : SqL K H a (ns.map V.int)) : RS K (fun _ => none) H H [] ([V.ref a].map some) ([MV.scr ns].map some) :=
  RS.args (Ex.refl _) (fun _ _ z => nomatch z) (fun _ _ z => nomatch z) (RVs.cons.mpr ⟨_, [], rfl, RV.scr.mpr ⟨a, rfl, h⟩, RVs.nil.mpr rfl⟩)
theorem walk_law {l : PySem.W.OpenLaw} {k : Nat} {q : Program} {loose : List Str} {XP : (Str → Option Value) → Heap → Prop} {YP : World → Heap → Prop} {d : DefRec} {K : Params → PySem.W.Frag} {x : Str} {f : MF}
    (hn : l.most = some 63) (hdf : d.params.defaults = []) (hr : Room k callerA) (hY : ∀ (w : World) (h : Heap), YP w h → (K w.params).In h)
    (hf : ∀ ns : List Int, ns.length ≤ 63 → ∃ bs, f [.scr ns] = .ok (.bl true, bs))
    (F : ∀ (w : World) (mg : Str → Option Value) (fa : Addr) (h : Heap), (K w.params).In h → h.Ns mainGlobals mg → mg d.name = some (.ref fa) →
      ∃ fd : FuncData, (∀ (s : Shared) (u : Value), BindsTo s fd ⟨[u], []⟩ [(x, u)]) ∧
        ∀ base : Heap, (K w.params).In base → base.Ns mainGlobals mg → FnOk l.prog w (K w.params) mg base (L2N.CX l.prog w) k fa fd [x] (spF (K w.params) mg 1 [] f)) :
    PySem.W.WalkO q loose XP YP l.row.toRowW d [] (fun f vs => PySem.call f vs) := by
  refine L2.walk_of (x := x) (K := K) (CX := fun w => L2N.CX l.prog w) (sp := fun w vs H Q E => ∃ (a : Addr) (ns : List Int), vs = [.ref a] ∧ ns.length ≤ 63 ∧ SqL (K w.params) H a (ns.map V.int) ∧ ∀ H', Q (.bl true) H') hn (by rw [sizeLine_eq]; decide) hdf hr hY (fun w mg fa h KX G hmg => ?_) (fun w H a ns hl _ hS => ⟨a, ns, rfl, hl, hS, fun _ => rfl⟩) ?_
  · obtain ⟨fd, hb, hF⟩ := F w mg fa h KX G hmg
    refine ⟨fd, hb, fun base h1 h2 => (hF base h1 h2).imp ?_⟩
    rintro vs H Q E ⟨a, ns, rfl, hl, hS, q⟩
    obtain ⟨bs, e⟩ := hf ns hl
    refine ⟨rfl, fun _ => none, H, [], [.scr ns], only_rs hS, rfl, ?_⟩
    rw [e]
    intro Hk' H' w x S'
    have bl : bs.length = 0 := by have := S'.len; simpa using this.symm
    have be : bs = [] := List.eq_nil_of_length_eq_zero bl
    subst be
    obtain ⟨v, ev, rv⟩ := S'.get (i := 0) (x := .bl true) rfl rfl
    cases ev
    rw [RV.bl.mp rv]
    exact q _
  · rintro w H s e s' ⟨_, _, _, _, _, _, _, _, _, _, _, _, f⟩
    exact f
structure Fd (P : Program) (w : World) (K : PySem.W.Frag) (mg : Str → Option Value) (base : Heap) (x : Str) (k : Nat) (ps : List Str) (bs : List Nat) (f : MF) : Prop where
  ex : ∃ (a : Addr) (fd : FuncData), FnOk P w K mg base (L2N.CX P w) k a fd ps (spF K mg ps.length bs f) ∧ mg x = some (.ref a) ∧ PySem.W.keepIn K (.ref a) = true ∧ Binds K fd ps []
structure Bn (mg : Str → Option Value) : Prop where
  len : mg "len" = none
  range : mg "range" = none
  abs : mg "abs" = none
  max : mg "max" = none
  min : mg "min" = none
  int : mg "int" = none
  str : mg "str" = none
  tuple : mg "tuple" = none
  list : mg "list" = none
  all : mg "all" = none
  any : mg "any" = none
  isinstance : mg "isinstance" = none
  divmod : mg "divmod" = none
  sum : mg "sum" = none
  zip : mg "zip" = none
  enumerate : mg "enumerate" = none
  reversed : mg "reversed" = none
  sorted : mg "sorted" = none
  dict : mg "dict" = none
  set : mg "set" = none
  bool : mg "bool" = none
section
variable {X : Cx} {c : Ct} {k : Nat} {ps : List Str} {x : Str} {p pos : Pos} {e : Expr} {es : List Expr} {f : MF} {a : MA} {j : Nat}
theorem mf_call (G : Fd X.prog X.w X.K X.mg X.base x k ps [] f) (hr : Room j X.A) (hj : k ≤ j) (tk : L2N.Takes X c.W) (ha : PA X (e :: es) (rdA c a)) (hn : Lng a ps.length) (hg : Gl X x := by rfl) (hK : c.K = X.K := by rfl) (hM : c.mg = X.mg := by rfl) (hdb : (x == ("__debug__" : Str)) = false := by decide)
    (he : starEach (e :: es) X.env = (false, eval e X.env) :: starEach es X.env := by rfl) (hpl : (backTo pos (starEach es X.env)).any (·.1) = false := by rfl) : PE X (.Call (.Name x p) (e :: es) [] pos) (rdO c (mCall f a)) := by
  obtain ⟨fa, fd, F, hm, hk, hb⟩ := G.ex
  exact mo_call F (hr.mono hj) hm hk hb tk ha hn hg hK hM hdb he hpl
theorem mf_call0 (G : Fd X.prog X.w X.K X.mg X.base x k ps [] f) (hr : Room j X.A) (hj : k ≤ j) (ha : PA X (e :: es) (rdA c a)) (hn : Lng a ps.length) (hg : Gl X x := by rfl) (hK : c.K = X.K := by rfl) (hM : c.mg = X.mg := by rfl) (hdb : (x == ("__debug__" : Str)) = false := by decide)
    (he : starEach (e :: es) X.env = (false, eval e X.env) :: starEach es X.env := by rfl) (hpl : (backTo pos (starEach es X.env)).any (·.1) = false := by rfl) : PE X (.Call (.Name x p) (e :: es) [] pos) (rdO c (mCall0 f a)) := by
  obtain ⟨fa, fd, F, hm, hk, hb⟩ := G.ex
  exact mo_call0 F (hr.mono hj) hm hk hb ha hn hg hK hM hdb he hpl
end
end Tm
set_option Elab.async false
set_option linter.all false
set_option maxRecDepth 100000
set_option maxHeartbeats 2000000
namespace Tm
open PySem L2
open Evl (Ex ex_rd ex_l ex_t)
def Cst (K : PySem.W.Frag) (mg : Str → Option Value) (x : Str) (v : MV) : Prop := ∃ w u, mg x = some u ∧ RelV w u ∧ ∀ H, RV K H v w
section
variable {X : Cx} {c : Ct} {x : Str} {pos : Pos}
theorem mf_con {v : MV} (h : Cst X.K X.mg x v) (hg : Gl X x := by rfl) (hK : c.K = X.K := by rfl) (hd : (x == ("__debug__" : Str)) = false := by decide) : PE X (.Name x pos) (rdE c (mC v)) := by
  obtain ⟨w, u, hm, rv, r⟩ := h
  exact me_glob hm rv (by rw [hK]; exact r) hg hd
end
theorem cst_int {K : PySem.W.Frag} {mg : Str → Option Value} {x : Str} {i : Int} {t : Tok} (h : mg x = some (.int i t)) : Cst K mg x (.int i) := ⟨.int i, _, h, ⟨t, rfl⟩, fun _ => RV.int.mpr rfl⟩
theorem cst_str {K : PySem.W.Frag} {mg : Str → Option Value} {x : Str} {i : Str} {t : Tok} (h : mg x = some (.str i t)) : Cst K mg x (.str i) := ⟨.str i, _, h, ⟨t, rfl⟩, fun _ => RV.str.mpr rfl⟩
def flatIs : MV → Value → Bool
  | .int i, .int j _ => i == j
  | .str i, .str j _ => i == j
  | .non, .none => true
  | .bl a, .bool b => a == b
  | _, _ => false
def flatsIs : List MV → List Value → Bool
  | [], [] => true
  | x :: xs, v :: vs => flatIs x v && flatsIs xs vs
  | _, _ => false
theorem flat_is {K : PySem.W.Frag} {H : Hp} {x : MV} {v : Value} (h : flatIs x v = true) : ∃ w, RelV w v ∧ RV K H x w := by
  unfold flatIs at h
  split at h
  · rw [beq_iff_eq.mp h]; exact ⟨.int _, ⟨_, rfl⟩, RV.int.mpr rfl⟩
  · rw [beq_iff_eq.mp h]; exact ⟨.str _, ⟨_, rfl⟩, RV.str.mpr rfl⟩
  · exact ⟨.non, rfl, RV.non.mpr rfl⟩
  · rw [beq_iff_eq.mp h]; exact ⟨.bl _, rfl, RV.bl.mpr rfl⟩
  · cases h
theorem flats_is {K : PySem.W.Frag} {H : Hp} : ∀ {xs : List MV} {vs : List Value}, flatsIs xs vs = true → ∃ ws, Vals ws vs ∧ RVs K H xs ws
  | [], [], _ => ⟨[], .nil, RVs.nil.mpr rfl⟩
  | x :: xs, v :: vs, h => by
    unfold flatsIs at h
    rw [Bool.and_eq_true] at h
    obtain ⟨w, r1, r2⟩ := flat_is (K := K) (H := H) h.1
    obtain ⟨ws, r3, r4⟩ := flats_is (K := K) (H := H) h.2
    exact ⟨w :: ws, .cons r1 r3, RVs.cons.mpr ⟨w, ws, rfl, r2, r4⟩⟩
  | [], _ :: _, h => by cases h
  | _ :: _, [], h => by cases h
theorem flats_rv {K : PySem.W.Frag} {H H' : Hp} : ∀ {xs : List MV} {ws : List V} {vs : List Value}, flatsIs xs vs = true → RVs K H xs ws → RVs K H' xs ws
  | [], _, _, _, r => RVs.nil.mpr (RVs.nil.mp r)
  | x :: xs, ws, [], h, r => by cases h
  | x :: xs, ws, v :: vs, h, r => by
    unfold flatsIs at h
    rw [Bool.and_eq_true] at h
    obtain ⟨w, us, rfl, r1, r2⟩ := RVs.cons.mp r
    have f : flatM x = true := by
      have := h.1
      unfold flatIs at this
      split at this <;> first | rfl | cases this
    exact RVs.cons.mpr ⟨w, us, rfl, flat_rv f r1, flats_rv h.2 r2⟩
theorem cst_tup {K : PySem.W.Frag} {mg : Str → Option Value} {x : Str} {a : Addr} {dd : Option Addr} {its : Array Value} {n : Nat} {sl : Array (Option Value)} {xs : List MV} (h : mg x = some (.ref a)) (l : K.lookup a = some ⟨.type "tuple", dd, .seq its n, sl⟩) (e : flatsIs xs its.toList = true) (z : its.size ≤ 1000) : Cst K mg x (.tup xs) := by
  obtain ⟨ws, r1, r2⟩ := flats_is (K := K) (H := fun _ => none) e
  exact ⟨.ref a, _, h, rfl, fun H => RV.tup.mpr ⟨a, ws, rfl, .inr ⟨_, its, n, l, rfl, rfl, Nat.le_trans z (by rw [sizeLine_eq]; decide), r1⟩, flats_rv e r2⟩⟩
end Tm
set_option Elab.async false
set_option linter.all false
set_option maxRecDepth 100000
set_option maxHeartbeats 2000000
namespace Tm
open PySem L2
open Evl (Ex ex_rd ex_l ex_t)
theorem blkOk_at {N N' : List Str} {sc sc' bs : Scope} {own : List (Str × Nat)} (hN : N = N') (hs : sc = sc') (h : blkC N' sc' bs own = true) : BlkOk N sc bs own := by
  subst hN hs
  exact blkOk_by h
end Tm
set_option Elab.async false
set_option linter.all false
set_option maxRecDepth 100000
set_option maxHeartbeats 2000000
namespace HT
open PySem PySem.Spec PyProof.Rows
section
variable {prog : Program} {w : World} {A : Around} {E : Value → Shared → Prop} {s : Shared}
theorem fm_congr {α β : Type} {f g : α → Option β} : ∀ l : List α, (∀ x ∈ l, f x = g x) → l.filterMap f = l.filterMap g
  | [], _ => rfl
  | x :: l, h => by
    rw [List.filterMap_cons, List.filterMap_cons, h x (List.mem_cons_self ..), fm_congr l fun y hy => h y (List.mem_cons_of_mem _ hy)]
theorem rev_pick (xs : Array Value) : ((List.range xs.size).filterMap fun (m : Nat) => xs[(((xs.size : Int) - 1) + (m : Int) * (-1)).toNat]?).toArray = xs.toList.reverse.toArray := by
  have e : ((List.range xs.size).filterMap fun (m : Nat) => xs[(((xs.size : Int) - 1) + (m : Int) * (-1)).toNat]?) = ((List.range xs.size).map fun k => xs.size - 1 - k).filterMap (xs[·]?) := by
    rw [List.filterMap_map]
    refine fm_congr _ fun k hk => ?_
    have := List.mem_range.mp hk
    have e2 : (((xs.size : Int) - 1) + (k : Int) * (-1)).toNat = xs.size - 1 - k := by omega
    rw [e2]
    rfl
  rw [e, PySem.W.krv_range, List.filterMap_reverse, PySem.W.krv_all]
theorem sliceApplied_rev {sl : Addr} {vs : Value} {n : Nat} {Q : Int × Int × Nat → Shared → Prop} (hs : s.heap.IsSliceOf sl .none .none vs) (ps : IsPart vs (some (-1)))
    (h : Q ((n : Int) - 1, -1, n) s) : wpAny (model prog w) A (Builtin.Slice.sliceApplied (.ref sl) (pure (n : Int))) Q E s := by
  obtain ⟨os, hos, hcs, hds⟩ := id hs
  unfold Builtin.Slice.sliceApplied Builtin.Slice.sliceFields
  refine wpAny_bind (wpAny_bind (wpAny_field hos hds (x := .none) rfl (wpAny_bind (wpAny_field hos hds (x := .none) rfl (wpAny_bind (wpAny_field hos hds (x := vs) rfl (wpAny_pure ?_)))))))
  refine wpAny_bind (slicePart_ ps ?_)
  show wpAny _ _ (if ((-1 : Int) == 0) = true then _ else _) _ _ s
  rw [if_neg (by decide)]
  refine wpAny_bind (slicePart_none (wpAny_bind (slicePart_none (wpAny_bind (wpAny_pure ?_)))))
  show wpAny _ _ (match Builtin.Slice.sliceAdjust none none (-1) (n : Int) with | (lo, hi) => pure (lo, (-1 : Int), Builtin.Slice.slicePlaces lo hi (-1))) _ _ s
  have e : Builtin.Slice.sliceAdjust none none (-1) (n : Int) = ((n : Int) - 1, -1) := by
    simp [Builtin.Slice.sliceAdjust]
  rw [e]
  have e2 : Builtin.Slice.slicePlaces ((n : Int) - 1) (-1) (-1) = n := by
    unfold Builtin.Slice.slicePlaces
    simp
    omega
  show wpAny _ _ (pure ((n : Int) - 1, (-1 : Int), Builtin.Slice.slicePlaces ((n : Int) - 1) (-1) (-1))) _ _ s
  rw [e2]
  exact wpAny_pure h
theorem getItem_tuple_rev {t sl : Addr} {items : Array Value} {vs : Value} {Q : Value → Shared → Prop} (ht : IsTup s.heap t items) (hs : s.heap.IsSliceOf sl .none .none vs) (ps : IsPart vs (some (-1)))
    (h : Q (.ref s.heap.objs.size) { s with heap := s.heap.push { cls := .type "tuple", data := .seq items.toList.reverse.toArray } })
    (hsz : items.size ≤ sizeLine) : wpAny (model prog w) A (getItem (.ref t) (.ref sl)) Q E s := by
  have htake : sizeOk (.seq items.toList.reverse.toArray) := by
    show items.toList.reverse.toArray.size ≤ sizeLine
    rw [List.size_toArray, List.length_reverse, Array.length_toList]
    exact hsz
  obtain ⟨os, hos, hcs, hds⟩ := id hs
  have hTs : s.TypeIs (.ref sl) "slice" := ⟨os, hos, hcs⟩
  unfold getItem
  try with_reducible refine wpAny_holding ?_
  first | refine wpAny_bind (wpAny_pure ?_) | skip
  refine wpAny_bind (wpAny_sequenceKey ht.typeIs (by decide) ?_)
  refine wpAny_bind (wpAny_callSpecial?_slot (name := Str.ofString "__getitem__") ht.typeIs PyProof.Rows.slot_tuple_getitem
    (wpAny_call_entry PyProof.Rows.slot_tuple_getitem ht.typeIs entry_tuple_getitem ?_ (args_tuple_getitem _ _)))
  show wpAny _ _ (Builtin.Tuple.tupleItemsOf (.ref t) >>= _) _ _ s
  refine wpAny_bind (tupleItemsOf_ ht ?_)
  refine wpAny_bind (wpAny_typeOf hTs ?_)
  rw [if_pos (by decide)]
  refine wpAny_bind (sliceApplied_rev hs ps ?_)
  have hno : ¬ ((((items.size : Int) - 1) == 0 && (-1 : Int) == 1 && items.size == items.size) = true) := by simp
  show wpAny _ _ (if (((items.size : Int) - 1) == 0 && (-1 : Int) == 1 && items.size == items.size) = true then _ else _) _ _ s
  rw [if_neg hno, rev_pick]
  first
    | exact wpAny_bind (m := Builtin.Tuple.tupleExact _) (wpAny_newObj_type (wpAny_pure ⟨_, rfl, wpAny_pure h⟩) htake)
    | exact wpAny_bind (m := Builtin.Tuple.tupleExact _) (wpAny_newObj_type (wpAny_bind (wpAny_pure (wpAny_pure ⟨_, rfl, wpAny_pure h⟩))) htake)
    | exact wpAny_bind (wpAny_bind (m := Builtin.Tuple.tupleExact _) (wpAny_newObj_type (wpAny_pure (wpAny_pure ⟨_, rfl, wpAny_pure h⟩)) htake))
    | exact wpAny_bind (wpAny_bind (m := Builtin.Tuple.tupleExact _) (wpAny_newObj_type (wpAny_pure ⟨_, rfl, wpAny_pure h⟩) htake))
end
end HT
namespace Tm
open PySem L2 PySem.Spec PyProof.Rows
open Evl (Ex ex_rd ex_l ex_t)
def tRevT (K : PySem.W.Frag) (te : TE) : TE := fun σ H Q => te σ H fun x H1 => ∃ a xs, x = .ref a ∧ ((SqL K H1 a xs ∧ ∀ p, H1 p = none → Q (.ref p) (upd H1 p (.lst xs.reverse))) ∨ (SqT K H1 a xs ∧ ∀ p, H1 p = none → Q (.ref p) (upd H1 p (.tup xs.reverse))))
theorem pe_revT {X : Cx} {e : Expr} {te : TE} {k : Nat} {p1 p2 p3 pos : Pos} (he : PE X e te) : PE X (.Subscript e (.Slice none none (some (.UnaryOp .USub (.Constant (.int 1) k p1) p2)) p3) pos) (tRevT X.K te) := by
  refine ⟨fun pins s σ H Q I h => ?_⟩
  refine Subscript_ (thn (he.run pins s σ H _ I h) fun v s1 ⟨x, H1, I1, r1, q1⟩ => ?_)
  obtain ⟨a, xs, ex, hx⟩ := q1
  subst ex
  cases r1
  have hst : PO X (some (.UnaryOp .USub (.Constant (.int 1) k p1) p2)) (tPart (tUn (rU fun i => .int (-i)) (tC (.int 1)))) := po_some (pe_un un_neg pe_int)
  refine wpAny_Slice (thn (po_none.run pins s1 σ H1 (fun o H2 => o = none ∧ H2 = H1) I1 ⟨rfl, rfl⟩) fun vl s2 ⟨l, H2, I2, pl, el, e2⟩ => ?_)
  subst el e2
  refine thn (po_none.run pins s2 σ H2 (fun o H3 => o = none ∧ H3 = H2) I2 ⟨rfl, rfl⟩) fun vu s3 ⟨u, H3, I3, pu, eu, e3⟩ => ?_
  subst eu e3
  refine thn (hst.run pins s3 σ H3 (fun o H4 => o = some (-1) ∧ H4 = H3) I3 ⟨1, rfl, -1, rfl, rfl, rfl⟩) fun vs s4 ⟨o, H4, I4, ps, eo, e4⟩ => ?_
  subst eo e4
  cases pl
  cases pu
  have I5 : Inv X pins σ H4 { s4 with heap := s4.heap.push { cls := .type "slice", data := .fields #[.none, .none, vs] } } := I4.kept (t' := s4.toks) fun b ob q => Heap.get?_push_of_some _ q
  show wpAny (model X.prog X.w) X.A (subscriptTail e (.Slice none none (some (.UnaryOp .USub (.Constant (.int 1) k p1) p2)) p3) (.ref a) (.ref s4.heap.objs.size)) (EP X pins σ Q) X.xe { s4 with heap := s4.heap.push { cls := .type "slice", data := .fields #[.none, .none, vs] } }
  rcases hx with ⟨hx, q⟩ | ⟨hx, q⟩
  · obtain ⟨its, r, ht, hz⟩ := I5.list hx
    have hlen := r.length
    refine tail_any (ops := [.ref a, .ref s4.heap.objs.size]) ht.isList.typeIs (PySem.slot_list_getitem.lookup) ?_ (by with_unfolding_all rfl)
    refine wpAny_getItem_list_slice ht.isList (Heap.IsSliceOf.new _ _ _ vs) .none .none ps (by decide) ?_ (by rw [List.size_toArray]; omega)
    rw [PySem.W.krv_pick]
    refine ⟨.ref _, _, I5.laid (t' := s4.toks) (o := .lst xs.reverse) (fun b ob q => Heap.get?_push_of_some _ q) (Nat.le_refl _) ?_, rfl, q _ (I5.hok.fresh (Nat.le_refl _))⟩
    exact ⟨by rw [List.length_reverse]; exact hz, _, 0, r.reverse, Heap.get?_push_size _ rfl⟩
  · obtain ⟨its, r, ht, hz⟩ := I5.tuple hx
    have hlen := r.length
    refine tail_any (ops := [.ref a, .ref s4.heap.objs.size]) ht.typeIs (PyProof.Rows.slot_tuple_getitem.lookup) ?_ (by with_unfolding_all rfl)
    refine HT.getItem_tuple_rev ht (Heap.IsSliceOf.new _ _ _ vs) ps ?_ (by rw [List.size_toArray]; omega)
    refine ⟨.ref _, _, I5.laid (t' := s4.toks) (o := .tup xs.reverse) (fun b ob q => Heap.get?_push_of_some _ q) (Nat.le_refl _) ?_, rfl, q _ (I5.hok.fresh (Nat.le_refl _))⟩
    exact ⟨by rw [List.length_reverse]; exact hz, _, r.reverse, IsTup.new _ _⟩
section
variable {X : Cx} {c : Ct}
def fRevA : MV → Option MV
  | .lst xs => some (.lst xs.reverse)
  | .tup xs => some (.tup xs.reverse)
  | _ => none
def mRevA (a : ME) : ME := mUn fRevA a
theorem me_revA {e : Expr} {a : ME} {k : Nat} {p1 p2 p3 pos : Pos} (h : PE X e (rdE c a)) (hK : c.K = X.K := by rfl) : PE X (.Subscript e (.Slice none none (some (.UnaryOp .USub (.Constant (.int 1) k p1) p2)) p3) pos) (rdE c (mRevA a)) :=
  PEw (pe_revT h) fun σ H Q q => by
    obtain ⟨F, Hk, bp, ρ, S, q⟩ := q
    refine rdw (bE postE S q) fun v H1 ⟨Hk1, x, ρ1, x1, S1, r1, h1⟩ => ?_
    cases x with
    | lst xs =>
      obtain ⟨p, vs, rfl, g1, s1⟩ := RV.lst.mp r1
      refine ⟨p, vs, rfl, .inl ⟨SqL.of (S1.1.ex _ _ g1), fun l hl => h1 _ _ _ (Ex.new (S1.1.ex.back hl)) (S1.1.new hl) (RV.lst.mpr ⟨l, _, rfl, upd_same, (s1.reverse).mono (Ex.new (S1.1.ex.back hl))⟩)⟩⟩
    | tup xs =>
      obtain ⟨p, vs, rfl, g1, s1⟩ := RV.tup.mp r1
      refine ⟨p, vs, rfl, .inr ⟨by rw [← hK]; exact ex_t S1.1.ex g1, fun l hl => h1 _ _ _ (Ex.new (S1.1.ex.back hl)) (S1.1.new hl) (RV.tup.mpr ⟨l, _, rfl, SqT.of upd_same, (s1.reverse).mono (Ex.new (S1.1.ex.back hl))⟩)⟩⟩
    | _ => exact h1.elim
end
end Tm
set_option Elab.async false
set_option linter.all false
set_option maxRecDepth 100000
set_option maxHeartbeats 2000000
namespace Tm
open PySem L2 PySem.Spec PyProof.Rows
open Evl (Ex ex_rd ex_l ex_t)
structure Bas (K : PySem.W.Frag) (mg : Str → Option Value) (y : Str) : Prop where
  ex : ∃ CL : Addr, mg y = some (.ref CL) ∧ PySem.W.readsIn K CL (.type "type") = true ∧ PySem.W.specialIn K (.ref CL) "__getattribute__" = some (some (.builtin "type.__getattribute__")) ∧ PySem.W.findCls K (.ref CL) (.type "type") "__init__" = some (.val (.builtin "ValueError.__init__"))
section
variable {X : Cx} {y : Str} {e : Expr} {es : List Expr} {ta : TA} {p1 p2 pos : Pos}
theorem pe_linit {pl : Sem Bool} (hg : Gl X y) (B : Bas X.K X.mg y) (ha : PA X (e :: es) ta)
    (hc : eval (.Call (.Attribute (.Name y p1) "__init__" p2) (e :: es) [] pos) X.env = (do
      let ov ← eval (.Name y p1) X.env
      standAt p2.atName
      let (f, first) ← holding [ov] (getMethod ov "__init__" pl)
      callWith pos f first (backTo pos (starEach (e :: es) X.env)) (backToKw pos (keywordEach [] X.env))) := by rfl)
    (hdb : (y == ("__debug__" : Str)) = false := by decide) (he : starEach (e :: es) X.env = (false, eval e X.env) :: starEach es X.env := by rfl) (hpl : (backTo pos (starEach es X.env)).any (·.1) = false := by rfl) :
    PE X (.Call (.Attribute (.Name y p1) "__init__" p2) (e :: es) [] pos) (tVeI X.K ta) := by
  obtain ⟨CL, hm, hr, hga, hf⟩ := B.ex
  refine ⟨fun pins s σ H Q I h => ?_⟩
  refine PySem.W.methodCall_KW (ld_glob I hg hm ?_ hdb) hc
  refine PySem.W.method_cls I.kIn hga (PySem.W.cls_value I.kIn hr hf (by decide +kernel) ?_)
  show wpAny _ _ (callWith pos (Value.builtin "ValueError.__init__") [] (backTo pos (starEach (e :: es) X.env)) []) _ _ _
  refine PyProof.Rows.callWith_method1 (thn (ha.run pos pins _ σ H _ (I.tok _) h) fun us s1 ⟨vs, H1, I1, r1, a, C, ws, ev, hl, T, ea, q⟩ => ?_) he hpl
  subst ev
  cases r1 with
  | @cons _ u0 _ ur ra rw' =>
    obtain rfl : u0 = Value.ref a := ra
    have hlen : ur.length ≤ sizeLine := by
      rw [← Paired.length rw', sizeLine_eq]
      omega
    exact oinit_ok T I1 ea hlen fun s' J => ⟨.non, H1, J, rfl, q⟩
end
structure OwX (K : PySem.W.Frag) (mg : Str → Option Value) (x : Str) (C fI : Addr) : Prop where
  T : OexC K C
  m : mg x = some (.ref C)
  iC : PySem.W.findIn K (.ref C) "__init__" = some (some (.ref fI))
  tI : PySem.W.typeIn K (.ref fI) = some (.type "function")
def spI1 (K : PySem.W.Frag) (f : Str) : Sp := fun vs H Q _ => ∃ (a C : Addr) (v : V), vs = [.ref a, v] ∧ OexC K C ∧ PySem.W.findIn K (.ref C) f = some none ∧ H a = some (exo a C none) ∧
  ∀ d, H d = none → d ≠ a → Q .non (upd (upd H d (exd d [(f, v)])) a (exo a C (some d)))
def spI2 (K : PySem.W.Frag) (f g : Str) : Sp := fun vs H Q _ => ∃ (a C : Addr) (v w : V), vs = [.ref a, v, w] ∧ OexC K C ∧ PySem.W.findIn K (.ref C) f = some none ∧ PySem.W.findIn K (.ref C) g = some none ∧ H a = some (exo a C none) ∧
  ∀ d, H d = none → d ≠ a → Q .non (upd (upd (upd H d (exd d [(f, v)])) a (exo a C (some d))) d (exd d [(g, w), (f, v)]))
section
variable {P : Program} {w : World} {K : PySem.W.Frag} {mg : Str → Option Value} {base : Heap}
theorem init1 {x qual y f p t : Str} {st : Stmt} {a : Addr} {fd : FuncData} {j : Nat} {p1 p2 p3 p4 p5 p6 q1 q2 q3 q4 : Pos} (F : Fun K x qual st a fd) (S : FnScope ["self", p] ["self", p] (defScope st)) (B : Bas K mg y)
    (hb : defBody st = [.Expr (.Call (.Attribute (.Name y p1) "__init__" p2) [.Name "self" p3, .Constant (.str t) j p4] [] p5) p6, .Assign [.Attribute (.Name "self" q1) f q2] (.Name p q3) q4])
    (hy : ∀ (L : Addr) (cd : Value), (envOfC qual (defScope st) L a cd).kindOf y = some NameKind.globalImplicit) (hs : (defScope st).names.lookup ("self" : Str) = some .local) (hp : (defScope st).names.lookup p = some .local)
    (hc : ∀ env : PySem.Env, ∃ pl : Sem Bool, eval (.Call (.Attribute (.Name y p1) "__init__" p2) [.Name "self" p3, .Constant (.str t) j p4] [] p5) env = (do
      let ov ← eval (.Name y p1) env
      standAt p2.atName
      let (f, first) ← holding [ov] (getMethod ov "__init__" pl)
      callWith p5 f first (backTo p5 (starEach [.Name "self" p3, .Constant (.str t) j p4] env)) (backToKw p5 (keywordEach [] env))))
    (hy1 : (y == ("__debug__" : Str)) = false) (hp1 : (p == ("__debug__" : Str)) = false) (hp2 : (p == ("__classdict__" : Str)) = false) :
    FnOk P w K mg base (L2N.CX P w) 2 a fd ["self", p] (spI1 K f) := by
  refine okXN F S (fun vs H Q E h => ?_) (fun cdv A outer s H vs Q E hr h => ?_)
  · obtain ⟨_, _, _, rfl, _⟩ := h
    rfl
  obtain ⟨b, C, v, rfl, T, hf, hH, hq⟩ := h
  have nd := S.nd
  have hself : PE (cxOf (L2N.CX P w) P w K mg base ["self", p] qual (defScope st) a cdv A outer s H E) (.Name "self" p3) (tVar 0) := pe_var (i := 0) rfl (.inl hs)
  have hself2 : PE (cxOf (L2N.CX P w) P w K mg base ["self", p] qual (defScope st) a cdv A outer s H E) (.Name "self" q1) (tVar 0) := pe_var (i := 0) rfl (.inl hs)
  have hpar : PE (cxOf (L2N.CX P w) P w K mg base ["self", p] qual (defScope st) a cdv A outer s H E) (.Name p q3) (tVar 1) := pe_var (i := 1) rfl (.inl hp) hp1 hp2
  obtain ⟨pl, hc⟩ := hc (cxOf (L2N.CX P w) P w K mg base ["self", p] qual (defScope st) a cdv A outer s H E).env
  have h1 := pe_linit (pl := pl) (e := .Name "self" p3) (es := [.Constant (.str t) j p4]) (pos := p5) (p1 := p1) (p2 := p2) (X := cxOf (L2N.CX P w) P w K mg base ["self", p] qual (defScope st) a cdv A outer s H E) (y := y) (hy _ _) B (pa_cons hself (pa_cons pe_str pa_nil)) (hc := hc) (hdb := hy1)
  refine ⟨_, by rw [hb]; exact pss_cons (ps_expr h1) (pss_cons (ps_ost hself2 hpar) pss_nil), ?_⟩
  exact ⟨.ref b, rfl, b, C, [.str t], rfl, by simp, T, hH, v, rfl, .ref b, rfl, b, C, rfl, T, hf, .inl ⟨hH, fun dx h1 h2 => hq dx h1 h2⟩⟩
theorem init2 {x qual y f g p r t : Str} {st : Stmt} {a : Addr} {fd : FuncData} {j : Nat} {p1 p2 p3 p4 p5 p6 q1 q2 q3 q4 q5 q6 q7 q8 : Pos} (F : Fun K x qual st a fd) (S : FnScope ["self", p, r] ["self", p, r] (defScope st)) (B : Bas K mg y)
    (hb : defBody st = [.Expr (.Call (.Attribute (.Name y p1) "__init__" p2) [.Name "self" p3, .Constant (.str t) j p4] [] p5) p6, .Assign [.Attribute (.Name "self" q1) f q2] (.Name p q3) q4, .Assign [.Attribute (.Name "self" q5) g q6] (.Name r q7) q8])
    (hy : ∀ (L : Addr) (cd : Value), (envOfC qual (defScope st) L a cd).kindOf y = some NameKind.globalImplicit) (hs : (defScope st).names.lookup ("self" : Str) = some .local) (hp : (defScope st).names.lookup p = some .local) (hr0 : (defScope st).names.lookup r = some .local)
    (hc : ∀ env : PySem.Env, ∃ pl : Sem Bool, eval (.Call (.Attribute (.Name y p1) "__init__" p2) [.Name "self" p3, .Constant (.str t) j p4] [] p5) env = (do
      let ov ← eval (.Name y p1) env
      standAt p2.atName
      let (f, first) ← holding [ov] (getMethod ov "__init__" pl)
      callWith p5 f first (backTo p5 (starEach [.Name "self" p3, .Constant (.str t) j p4] env)) (backToKw p5 (keywordEach [] env))))
    (hy1 : (y == ("__debug__" : Str)) = false) (hp1 : (p == ("__debug__" : Str)) = false) (hp2 : (p == ("__classdict__" : Str)) = false) (hr1 : (r == ("__debug__" : Str)) = false) (hr2 : (r == ("__classdict__" : Str)) = false) :
    FnOk P w K mg base (L2N.CX P w) 2 a fd ["self", p, r] (spI2 K f g) := by
  refine okXN F S (fun vs H Q E h => ?_) (fun cdv A outer s H vs Q E hr h => ?_)
  · obtain ⟨_, _, _, _, rfl, _⟩ := h
    rfl
  obtain ⟨b, C, v, u, rfl, T, hf, hg, hH, hq⟩ := h
  have nd := S.nd
  have hself : PE (cxOf (L2N.CX P w) P w K mg base ["self", p, r] qual (defScope st) a cdv A outer s H E) (.Name "self" p3) (tVar 0) := pe_var (i := 0) rfl (.inl hs)
  have hself2 : PE (cxOf (L2N.CX P w) P w K mg base ["self", p, r] qual (defScope st) a cdv A outer s H E) (.Name "self" q1) (tVar 0) := pe_var (i := 0) rfl (.inl hs)
  have hpar : PE (cxOf (L2N.CX P w) P w K mg base ["self", p, r] qual (defScope st) a cdv A outer s H E) (.Name p q3) (tVar 1) := pe_var (i := 1) rfl (.inl hp) hp1 hp2
  have hself3 : PE (cxOf (L2N.CX P w) P w K mg base ["self", p, r] qual (defScope st) a cdv A outer s H E) (.Name "self" q5) (tVar 0) := pe_var (i := 0) rfl (.inl hs)
  have hpar2 : PE (cxOf (L2N.CX P w) P w K mg base ["self", p, r] qual (defScope st) a cdv A outer s H E) (.Name r q7) (tVar 2) := pe_var (i := 2) rfl (.inl hr0) hr1 hr2
  obtain ⟨pl, hc⟩ := hc (cxOf (L2N.CX P w) P w K mg base ["self", p, r] qual (defScope st) a cdv A outer s H E).env
  have h1 := pe_linit (pl := pl) (e := .Name "self" p3) (es := [.Constant (.str t) j p4]) (pos := p5) (p1 := p1) (p2 := p2) (X := cxOf (L2N.CX P w) P w K mg base ["self", p, r] qual (defScope st) a cdv A outer s H E) (y := y) (hy _ _) B (pa_cons hself (pa_cons pe_str pa_nil)) (hc := hc) (hdb := hy1)
  refine ⟨_, by rw [hb]; exact pss_cons (ps_expr h1) (pss_cons (ps_ost hself2 hpar) (pss_cons (ps_ost hself3 hpar2) pss_nil)), ?_⟩
  refine ⟨.ref b, rfl, b, C, [.str t], rfl, by simp, T, hH, v, rfl, .ref b, rfl, b, C, rfl, T, hf, .inl ⟨hH, fun dx h1 h2 => ⟨u, rfl, .ref b, rfl, b, C, rfl, T, hg, .inr ⟨dx, [(f, v)], upd_same, ?_, by simp, hq dx h1 h2⟩⟩⟩⟩
  rw [upd_ne h2, upd_same]
end
section
variable {X : Cx} {e : Expr} {es : List Expr} {ta : TA} {p pos : Pos}
theorem pmk_oexN {CX : CXT} {x : Str} {C fI : Addr} {k : Nat} {fd : FuncData} {ps : List Str} {sp : Sp} {ds : List Value} {dvs : List V} (T : OexC X.K C) (iC : PySem.W.findIn X.K (.ref C) "__init__" = some (some (.ref fI))) (tI : PySem.W.typeIn X.K (.ref fI) = some (.type "function"))
    (F1 : FnOk X.prog X.w X.K X.mg X.base CX k fI fd ps sp) (hr : Room (k + 1) X.A) (hb : L2.Binds X.K fd ps ds) (hd : Vals dvs ds) (hx : Passes CX X (fun _ _ _ => False)) (hg : Gl X x) (hm : X.mg x = some (.ref C)) (ha : PA X (e :: es) ta)
    (hdb : (x == ("__debug__" : Str)) = false := by decide) (he : starEach (e :: es) X.env = (false, eval e X.env) :: starEach es X.env := by rfl) (hpl : (backTo pos (starEach es X.env)).any (·.1) = false := by rfl) :
    L2N.PMk X (.Call (.Name x p) (e :: es) [] pos) (tMkO C sp dvs ta) := fun pins s σ H Q I h => by
  obtain ⟨_, _, _, _, bm, _, _, _, _, _, _, _, _, _, _, look, hbm⟩ := T.cls
  refine wpAny_Call_Name_kw (ld_glob I hg hm ?_ hdb)
  refine PySem.W.callWith_K (h₀ := X.base) I.ok.mod.kin T.kC (thn (ha.run pos pins s σ H _ I h) fun us s1 q0 => ⟨q0.choose_spec.choose_spec.1.kIn, ?_⟩) he hpl
  obtain ⟨vs, G, J, r, hz, q⟩ := q0
  show wpAny _ _ (call (.ref C) us) _ _ _
  obtain ⟨hp, gs, dr, tk, os⟩ := s1
  obtain ⟨n, hn⟩ : ∃ n, hp.objs.size = n := ⟨_, rfl⟩
  have le1 : hp.objs.size ≤ n + 1 := by omega
  have sp1 := q (n + 1) (J.hok.fresh le1)
  have keep : ∀ b o, hp.get? b = some o → ((hp.push (PySem.W.kdv_tup us)).push (PySem.HandSPX.excO C n)).get? b = some o := fun b o z => Heap.get?_push_of_some _ (Heap.get?_push_of_some _ z)
  have there : ((hp.push (PySem.W.kdv_tup us)).push (PySem.HandSPX.excO C n)).get? (n + 1) = some (PySem.HandSPX.excO C n) := by subst hn; heap_get
  have J2 : Inv X pins σ (upd G (n + 1) (exo (n + 1) C none)) ⟨(hp.push (PySem.W.kdv_tup us)).push (PySem.HandSPX.excO C n), gs, dr, tk, os⟩ :=
    J.laid (t' := tk) (a := n + 1) (o := exo (n + 1) C none) (h' := (hp.push (PySem.W.kdv_tup us)).push (PySem.HandSPX.excO C n)) keep le1 (exo_ok there)
  have r2 : Vals (V.ref (n + 1) :: (vs ++ dvs)) (Value.ref (n + 1) :: (us ++ ds)) := .cons rfl (r.append hd)
  have len2 : (Value.ref (n + 1) :: us ++ ds).length = ps.length := (F1.len _ _ _ _ sp1 ▸ r2.length).symm
  have small : us.length ≤ sizeLine := by
    have := Paired.length r
    rw [sizeLine_eq]; omega
  subst hn
  refine wpAny_call (PySem.HandSPX.call_own F.excBase_ValueError (fun Y => PySem.HandSPX.refsVE_contains Y bm hbm) (J.kIn _ _ look) (PySem.W.looks_findIn J.kIn iC) (fun self => PySem.W.bind_fn J.kIn self tI) small (codeAny_mono
    (F1.run _ X.stack _ _ ⟨Value.ref (hp.objs.size + 1) :: us, []⟩ (Value.ref (hp.objs.size + 1) :: (us ++ ds)) _ _ (fun _ _ _ => False) (hr.make C us []) (J2.env0.make C us []) (hb _ (Value.ref (hp.objs.size + 1) :: us) J2.kIn len2) r2 sp1) fun z s' hq => ?_))
  match z, hq with
  | .error er, hq => exact hx pins σ _ _ er s' J2 hq
  | .ok (.ret u), hq =>
    obtain ⟨v, G2, o2, b2, un2, ok2, rv, rfl, d, fs, ea, ed, hd1, w⟩ := hq
    obtain ⟨h2, g2, d2, t2, _⟩ := s'
    obtain ⟨t0, B, JB, kB, gB, at2, na⟩ := mk_end0 (d2 := d2) (t2 := t2) J le1 keep un2 ok2 o2 b2 ea ed hd1
    exact ⟨rv, ⟨_, _, _, ⟨B, g2, d2, t2, _⟩, _, .ref C, some d, rfl, JB, kB, gB, at2, ⟨rfl, rfl, fun vs hv => by cases hv; rfl⟩, rfl, rfl, na, rfl, b2, raises_own T.exC T.tyC, w⟩⟩
  | .ok .next, hq => exact hq.elim
  | .ok .brk, hq => exact hq.elim
  | .ok .cont, hq => exact hq.elim
end
theorem made_heap {H1 : Hp} {a d : Addr} {o u z : HO} (ha : H1 a = none) (hd : d ≠ a) : upd (del (upd (upd (upd H1 a o) d u) a z) a) d = upd H1 d := by
  funext y b
  by_cases e1 : b = d
  · subst e1; rw [upd_same, upd_same]
  · rw [upd_ne e1, upd_ne e1]
    by_cases e2 : b = a
    · subst e2; rw [del_same, ha]
    · rw [del_ne e2, upd_ne e2, upd_ne e1, upd_ne e2]
section
variable {X : Cx} {c : Ct} {x f g : Str} {C fI : Addr} {k : Nat} {fd : FuncData} {ps : List Str} {W : WX}
theorem never {W : WX} (tk : L2N.Takes X W) : Passes (L2N.CX X.prog X.w) X (fun _ _ _ => False) := L2N.passes_call (E := fun _ _ _ => False) tk fun _ _ _ _ z => z.elim
def tMk1 (C : Addr) (f : Str) (ta : TA) : L2.St → Hp → XK → Prop := fun σ H Q => ta σ H fun vs H1 => ∃ v, vs = [v] ∧ ∀ d, H1 d = none → Q (.ref C) (some d) (upd H1 d (.xd [(f, v)]))
def tMk2 (C : Addr) (f g : Str) (ta : TA) : L2.St → Hp → XK → Prop := fun σ H Q => ta σ H fun vs H1 => ∃ v w, vs = [v, w] ∧ ∀ d, H1 d = none → Q (.ref C) (some d) (upd H1 d (.xd [(g, w), (f, v)]))
theorem pmk1 {e : Expr} {es : List Expr} {ta : TA} {p pos : Pos} (O : OwX X.K X.mg x C fI) (hf : PySem.W.findIn X.K (.ref C) f = some none) (F1 : FnOk X.prog X.w X.K X.mg X.base (L2N.CX X.prog X.w) k fI fd ps (spI1 X.K f)) (hr : Room (k + 1) X.A) (hb : L2.Binds X.K fd ps []) (tk : L2N.Takes X W) (hg : Gl X x) (ha : PA X (e :: es) ta)
    (hm : ∀ σ H Q Q', ta σ H Q → (∀ vs H1, Q vs H1 → Q' vs H1) → ta σ H Q')
    (hdb : (x == ("__debug__" : Str)) = false := by decide) (he : starEach (e :: es) X.env = (false, eval e X.env) :: starEach es X.env := by rfl) (hpl : (backTo pos (starEach es X.env)).any (·.1) = false := by rfl) :
    L2N.PMk X (.Call (.Name x p) (e :: es) [] pos) (tMk1 C f ta) := by
  have z := pmk_oexN (p := p) (ds := []) (dvs := []) O.T O.iC O.tI F1 hr hb .nil (never tk) hg O.m ha hdb he hpl
  intro pins s σ H Q I h
  refine z pins s σ H Q I (hm σ H _ _ h fun vs H1 ⟨v, ev, q⟩ => ?_)
  subst ev
  refine ⟨by simp, fun a ha => ⟨a, C, v, rfl, O.T, hf, upd_same, fun d hd hne => ⟨rfl, d, [(f, v)], upd_same, ?_, ?_, ?_⟩⟩⟩
  · rw [upd_ne hne, upd_same]
  · rw [upd_ne hne] at hd; exact hd
  · rw [made_heap ha hne]
    exact q d (by rw [upd_ne hne] at hd; exact hd)
theorem made_heap2 {H1 : Hp} {a d : Addr} {o u z y : HO} (ha : H1 a = none) (hd : d ≠ a) : upd (del (upd (upd (upd (upd H1 a o) d u) a z) d y) a) d = upd H1 d := by
  funext r b
  by_cases e1 : b = d
  · subst e1; rw [upd_same, upd_same]
  · rw [upd_ne e1, upd_ne e1]
    by_cases e2 : b = a
    · subst e2; rw [del_same, ha]
    · rw [del_ne e2, upd_ne e1, upd_ne e2, upd_ne e1, upd_ne e2]
theorem pmk2 {e : Expr} {es : List Expr} {ta : TA} {p pos : Pos} (O : OwX X.K X.mg x C fI) (hf : PySem.W.findIn X.K (.ref C) f = some none) (hfg : PySem.W.findIn X.K (.ref C) g = some none) (F1 : FnOk X.prog X.w X.K X.mg X.base (L2N.CX X.prog X.w) k fI fd ps (spI2 X.K f g)) (hr : Room (k + 1) X.A) (hb : L2.Binds X.K fd ps []) (tk : L2N.Takes X W) (hg : Gl X x) (ha : PA X (e :: es) ta)
    (hm : ∀ σ H Q Q', ta σ H Q → (∀ vs H1, Q vs H1 → Q' vs H1) → ta σ H Q')
    (hdb : (x == ("__debug__" : Str)) = false := by decide) (he : starEach (e :: es) X.env = (false, eval e X.env) :: starEach es X.env := by rfl) (hpl : (backTo pos (starEach es X.env)).any (·.1) = false := by rfl) :
    L2N.PMk X (.Call (.Name x p) (e :: es) [] pos) (tMk2 C f g ta) := by
  have z := pmk_oexN (p := p) (ds := []) (dvs := []) O.T O.iC O.tI F1 hr hb .nil (never tk) hg O.m ha hdb he hpl
  intro pins s σ H Q I h
  refine z pins s σ H Q I (hm σ H _ _ h fun vs H1 ⟨v, w, ev, q⟩ => ?_)
  subst ev
  refine ⟨by simp, fun a ha => ⟨a, C, v, w, rfl, O.T, hf, hfg, upd_same, fun d hd hne => ⟨rfl, d, [(g, w), (f, v)], ?_, upd_same, ?_, ?_⟩⟩⟩
  · rw [upd_ne (Ne.symm hne), upd_same]
  · rw [upd_ne hne] at hd; exact hd
  · rw [made_heap2 ha hne]
    exact q d (by rw [upd_ne hne] at hd; exact hd)
end
end Tm
set_option Elab.async false
set_option linter.all false
set_option maxRecDepth 100000
set_option maxHeartbeats 2000000
namespace Tm
open PySem L2 PySem.Spec PyProof.Rows
open Evl (Ex ex_rd ex_l ex_t)
def NoX (H H' : Hp) : Prop := ∀ a o, H a = some o → (∀ fs, o ≠ .xd fs) → H' a = some o
theorem NoX.rdl {H H' : Hp} (e : NoX H H') {a : Addr} {xs : List V} (h : Rd H a (.lst xs)) : Rd H' a (.lst xs) := by
  rcases h with h | ⟨o, h⟩
  · exact Or.inl (e a _ h (fun _ z => nomatch z))
  · exact Or.inr ⟨o, e a _ h (fun _ z => nomatch z)⟩
theorem NoX.rdt {H H' : Hp} (e : NoX H H') {a : Addr} {xs : List V} (h : Rd H a (.tup xs)) : Rd H' a (.tup xs) := by
  rcases h with h | ⟨o, h⟩
  · exact Or.inl (e a _ h (fun _ z => nomatch z))
  · exact Or.inr ⟨o, e a _ h (fun _ z => nomatch z)⟩
mutual
theorem RV.sub {K : PySem.W.Frag} {H H' : Hp} (e : NoX H H') : ∀ (x : MV) (v : V), RV K H x v → RV K H' x v
  | .non, v, h => by unfold RV at h ⊢; exact h
  | .bl b, v, h => by unfold RV at h ⊢; exact h
  | .int i, v, h => by unfold RV at h ⊢; exact h
  | .str x, v, h => by unfold RV at h ⊢; exact h
  | .tup xs, v, h => by
    unfold RV at h ⊢
    obtain ⟨a, vs, e1, e2, e3⟩ := h
    exact ⟨a, vs, e1, e2.imp e.rdt id, RVs.sub e xs vs e3⟩
  | .lst xs, v, h => by
    unfold RV at h ⊢
    obtain ⟨a, vs, e1, e2, e3⟩ := h
    exact ⟨a, vs, e1, e _ _ e2 (fun _ z => nomatch z), RVs.sub e xs vs e3⟩
  | .own xs, v, h => by unfold RV at h; exact h.elim
  | .raw w, v, h => by unfold RV at h ⊢; exact h
  | .scr ns, v, h => by
    unfold RV at h ⊢
    obtain ⟨a, e1, e2⟩ := h
    exact ⟨a, e1, e2.imp e.rdl id⟩
  | .fnc x, v, h => by unfold RV at h ⊢; exact h
  | .obj C fs, v, h => by unfold RV at h; exact h.elim
  | .dct ks xs, v, h => by
    unfold RV at h ⊢
    obtain ⟨a, vs, e1, e2, e3, e4⟩ := h
    exact ⟨a, vs, e1, e _ _ e2 (fun _ z => nomatch z), e3, RVs.sub e xs vs e4⟩
  | .dow ks xs, v, h => by unfold RV at h; exact h.elim
  | .dot ks xs, v, h => by unfold RV at h; exact h.elim
theorem RVs.sub {K : PySem.W.Frag} {H H' : Hp} (e : NoX H H') : ∀ (xs : List MV) (vs : List V), RVs K H xs vs → RVs K H' xs vs
  | [], vs, h => by unfold RVs at h ⊢; exact h
  | x :: xs, vs, h => by
    unfold RVs at h ⊢
    obtain ⟨v, r, e1, e2, e3⟩ := h
    exact ⟨v, r, e1, RV.sub e x v e2, RVs.sub e xs r e3⟩
end
theorem OF.sub {K : PySem.W.Frag} {Hk Hk' H : Hp} {x : MV} {v : V} {A : List Addr} (e : NoX Hk Hk') (h : OF K Hk H x v A) : OF K Hk' H x v A := by
  cases x with
  | own xs =>
    unfold OF at h ⊢
    obtain ⟨p, vs, e1, e2, e3, e4⟩ := h
    exact ⟨p, vs, e1, e2, e3, RVs.sub e _ _ e4⟩
  | dow ks xs =>
    unfold OF at h ⊢
    obtain ⟨p, vs, e1, e2, e3, e5, e4⟩ := h
    exact ⟨p, vs, e1, e2, e3, e5, RVs.sub e _ _ e4⟩
  | dot ks xs =>
    unfold OF at h ⊢
    obtain ⟨p, vs, e1, e2, e3, e5, e4⟩ := h
    exact ⟨p, vs, e1, e2, e3, e5, RVs.sub e _ _ e4⟩
  | obj C fs => exact (show False by unfold OF at h; unfold RV at h; exact h.2).elim
  | _ =>
    unfold OF at h ⊢
    exact ⟨h.1, RV.sub e _ _ h.2⟩
theorem OFs.sub {K : PySem.W.Frag} {Hk Hk' H : Hp} (e : NoX Hk Hk') : ∀ {fs : List (Str × MV)} {vs : List (Str × V)} {A : List Addr}, OFs K Hk H fs vs A → OFs K Hk' H fs vs A
  | [], _, _, h => h
  | (n, x) :: fs, vs, A, h => by
    obtain ⟨v, r, B, C, e1, e2, h1, h2⟩ := h
    exact ⟨v, r, B, C, e1, e2, h1.sub e, OFs.sub e h2⟩
theorem OV.sub {K : PySem.W.Frag} {Hk Hk' H : Hp} {x : MV} {v : V} {A : List Addr} (e : NoX Hk Hk') (h : OV K Hk H x v A) : OV K Hk' H x v A := by
  cases x with
  | obj C fs =>
    unfold OV at h ⊢
    obtain ⟨p, CA, dx, vfs, B, e1, e2, e0, e3, e4, e5⟩ := h
    exact ⟨p, CA, dx, vfs, B, e1, e2, e0, e3, OFs.sub e e4, e5⟩
  | _ => (unfold OV at h ⊢; exact OF.sub e h)
section
variable {K : PySem.W.Frag} {F Hk H : Hp} {bp : List (Nat × Addr)} {σ : L2.St} {ρ : Env}
theorem RS.less (S : RS K F Hk H (p :: bp) σ ρ) : RS K F Hk H bp σ ρ := ⟨S.len, S.ex, S.fr, S.frk, S.ow, fun q hq => S.bor q (List.mem_cons_of_mem _ hq)⟩
end
structure ExT (K : PySem.W.Frag) (mg : Str → Option Value) (y : Str) (x : Str) (b : Bool) : Prop where
  ex : ∃ C D, mg x = some (.ref C) ∧ mg y = some (.ref D) ∧ PySem.W.exmOne K (.ref C) (.ref D) = some b
def XIn (F : Hp) (e : MX) (d : Option Addr) : Prop := (e.fs = [] ∧ d = none) ∨ ∃ dx vfs, d = some dx ∧ F dx = some (.xd vfs) ∧ ∀ K H, XFs K H e.fs vfs
def cH (c : Ct) (i : Nat) (a : Addr) (e : MX) (d : Option Addr) : Ct := ⟨c.K, c.mg, fun _ _ _ _ => False, i :: c.bs, fun F bp => (∃ bq, bp = (i, a) :: bq ∧ c.J F bq) ∧ XIn F e d, fun F F1 bp x h => by
  obtain ⟨⟨bq, e1, e2⟩, h2⟩ := h
  refine ⟨⟨bq, e1, c.Jm _ _ _ x e2⟩, ?_⟩
  rcases h2 with h2 | ⟨dx, vfs, q1, q2, q3⟩
  · exact .inl h2
  · exact .inr ⟨dx, vfs, q1, x _ _ q2, q3⟩⟩
end Tm
set_option Elab.async false
set_option linter.all false
set_option maxRecDepth 100000
set_option maxHeartbeats 2000000
namespace Tm
open PySem L2 PySem.Spec PyProof.Rows
open Evl (Ex ex_rd ex_l ex_t)
def mRaise0 (x : Str) : MS := fun ρ => .exc ⟨x, []⟩ ρ
def mRaise1 (x f : Str) (a : ME) : MS := fun ρ => (a ρ).bind fun y ρ1 => .exc ⟨x, [(f, y)]⟩ ρ1
def mRaise2 (x f g : Str) (a b : ME) : MS := fun ρ => (a ρ).bind fun y ρ1 => (b ρ1).bind fun z ρ2 => .exc ⟨x, [(g, z), (f, y)]⟩ ρ2
structure Cl0 (K : PySem.W.Frag) (mg : Str → Option Value) (x : Str) : Prop where
  ex : ∃ C, mg x = some (.ref C) ∧ PySem.W.excIn K C PySem.HandSPX.veTail "ValueError.__new__" = true ∧ PySem.W.keepIn K (.ref C) = true ∧ PySem.W.subIn K (.ref C) (.type "BaseException") = some true ∧ PySem.W.typeIn K (.ref C) = some (.type "type")
structure Cl1 (P : Program) (w : World) (K : PySem.W.Frag) (mg : Str → Option Value) (base : Heap) (x f : Str) : Prop where
  ex : ∃ C fI fd ps, OwX K mg x C fI ∧ PySem.W.findIn K (.ref C) f = some none ∧ FnOk P w K mg base (L2N.CX P w) 2 fI fd ps (spI1 K f) ∧ L2.Binds K fd ps []
structure Cl2 (P : Program) (w : World) (K : PySem.W.Frag) (mg : Str → Option Value) (base : Heap) (x f g : Str) : Prop where
  ex : ∃ C fI fd ps, OwX K mg x C fI ∧ PySem.W.findIn K (.ref C) f = some none ∧ PySem.W.findIn K (.ref C) g = some none ∧ FnOk P w K mg base (L2N.CX P w) 2 fI fd ps (spI2 K f g) ∧ L2.Binds K fd ps []
section
variable {X : Cx} {c : Ct} {x f g m : Str} {k j : Nat}
theorem ms_raise0 {p p2 p3 pos : Pos} (Z : Cl0 X.K X.mg x) (hc : X.calm = true) (tk : L2N.Takes X c.W) (hg : Gl X x) (hmg : c.mg = X.mg := by rfl) (hdb : (x == ("__debug__" : Str)) = false := by decide) :
    PS X (.Raise (some (.Call (.Name x p) [.Constant (.str m) j p2] [] p3)) none pos) (rdS c (mRaise0 x)) := by
  obtain ⟨C, h1, h2, h3, h4, h5⟩ := Z.ex
  refine PSw (L2N.ps_raise hc tk (L2N.pmk_own (m := m) (j := j) F.excBase_ValueError h2 h1 h3 (raises_own h4 h5) hg hdb)) fun D σ H ⟨F, Hk, bp, ρ, S, h⟩ => ?_
  exact h _ _ _ _ _ (Ex.refl _) S.1 ⟨C, by rw [hmg]; exact h1, rfl, .inl ⟨rfl, rfl⟩⟩
theorem ms_raise1 {e : Expr} {a : ME} {p p2 pos : Pos} (Z : Cl1 X.prog X.w X.K X.mg X.base x f) (hc : X.calm = true) (hr : Room k X.A) (hk : 3 ≤ k) (tk : L2N.Takes X c.W) (hg : Gl X x) (he : PE X e (rdE c a)) (hmg : c.mg = X.mg := by rfl)
    (hdb : (x == ("__debug__" : Str)) = false := by decide) (hst : starEach [e] X.env = (false, eval e X.env) :: starEach [] X.env := by rfl) (hpl : (backTo p2 (starEach [] X.env)).any (·.1) = false := by rfl) :
    PS X (.Raise (some (.Call (.Name x p) [e] [] p2)) none pos) (rdS c (mRaise1 x f a)) := by
  obtain ⟨C, fI, fd, ps, O, h2, h3, h4⟩ := Z.ex
  refine PSw (L2N.ps_raise hc tk (pmk1 (W := c.W) O h2 h3 (hr.mono hk) h4 tk hg (ma_cons he ma_nil hst) (fun σ H Q Q' q w => rdAw q w) hdb hst hpl)) fun D σ H ⟨F, Hk, bp, ρ, S, h⟩ => ?_
  have h : okS c F Hk bp D ((a ρ).bind fun y ρ1 => .exc ⟨x, [(f, y)]⟩ ρ1) := h
  refine ⟨F, Hk, bp, ρ, S, ?_⟩
  show okA c F Hk bp σ _ ((a ρ).bind fun y ρ1 => (mNil ρ1).bind fun xs ρ2 => .ok (y :: xs, ρ2))
  cases ea : a ρ with
  | stuck => rw [ea] at h; exact h
  | exc e ρ' => rw [ea] at h; exact fun Hk' H' cls d => h Hk' H' σ cls d
  | ok q =>
    obtain ⟨y, ρ1⟩ := q
    rw [ea] at h
    intro Hk1 H1 vs x1 S1 r1
    obtain ⟨v, us, rfl, r2, r3⟩ := RVs.cons.mp r1
    cases RVs.nil.mp r3
    refine ⟨v, rfl, fun d hd => ?_⟩
    have xn := Ex.new (o := HO.xd [(f, v)]) (S1.ex.back hd)
    exact h _ _ _ _ _ (x1.trans xn) (S1.new hd) ⟨C, by rw [hmg]; exact O.m, rfl, .inr ⟨d, _, rfl, upd_same, v, [], rfl, r2.mono xn, rfl⟩⟩
theorem ms_raise2 {e e2 : Expr} {a b : ME} {p p2 pos : Pos} (Z : Cl2 X.prog X.w X.K X.mg X.base x f g) (hc : X.calm = true) (hr : Room k X.A) (hk : 3 ≤ k) (tk : L2N.Takes X c.W) (hg : Gl X x) (he : PE X e (rdE c a)) (he2 : PE X e2 (rdE c b)) (hmg : c.mg = X.mg := by rfl)
    (hdb : (x == ("__debug__" : Str)) = false := by decide) (hst : starEach [e, e2] X.env = (false, eval e X.env) :: starEach [e2] X.env := by rfl) (hst2 : starEach [e2] X.env = (false, eval e2 X.env) :: starEach [] X.env := by rfl) (hpl : (backTo p2 (starEach [e2] X.env)).any (·.1) = false := by rfl) :
    PS X (.Raise (some (.Call (.Name x p) [e, e2] [] p2)) none pos) (rdS c (mRaise2 x f g a b)) := by
  obtain ⟨C, fI, fd, ps, O, h2, h22, h3, h4⟩ := Z.ex
  refine PSw (L2N.ps_raise hc tk (pmk2 (W := c.W) O h2 h22 h3 (hr.mono hk) h4 tk hg (ma_cons he (ma_cons he2 ma_nil hst2) hst) (fun σ H Q Q' q w => rdAw q w) hdb hst hpl)) fun D σ H ⟨F, Hk, bp, ρ, S, h⟩ => ?_
  have h : okS c F Hk bp D ((a ρ).bind fun y ρ1 => (b ρ1).bind fun z ρ2 => .exc ⟨x, [(g, z), (f, y)]⟩ ρ2) := h
  refine ⟨F, Hk, bp, ρ, S, ?_⟩
  show okA c F Hk bp σ _ ((a ρ).bind fun y ρ1 => ((b ρ1).bind fun z ρ2 => (mNil ρ2).bind fun xs ρ3 => .ok (z :: xs, ρ3)).bind fun xs ρ3 => .ok (y :: xs, ρ3))
  cases ea : a ρ with
  | stuck => rw [ea] at h; exact h
  | exc e ρ' => rw [ea] at h; exact fun Hk' H' cls d => h Hk' H' σ cls d
  | ok q =>
    obtain ⟨y, ρ1⟩ := q
    rw [ea] at h
    have h : okS c F Hk bp D ((b ρ1).bind fun z ρ2 => .exc ⟨x, [(g, z), (f, y)]⟩ ρ2) := h
    show okA c F Hk bp σ _ (((b ρ1).bind fun z ρ2 => (mNil ρ2).bind fun xs ρ3 => .ok (z :: xs, ρ3)).bind fun xs ρ3 => .ok (y :: xs, ρ3))
    cases eb : b ρ1 with
    | stuck => rw [eb] at h; exact h
    | exc e ρ' => rw [eb] at h; exact fun Hk' H' cls d => h Hk' H' σ cls d
    | ok q =>
      obtain ⟨z, ρ2⟩ := q
      rw [eb] at h
      intro Hk1 H1 vs x1 S1 r1
      obtain ⟨v, us, rfl, r2, r3⟩ := RVs.cons.mp r1
      obtain ⟨u, us, rfl, r4, r5⟩ := RVs.cons.mp r3
      cases RVs.nil.mp r5
      refine ⟨v, u, rfl, fun d hd => ?_⟩
      have xn := Ex.new (o := HO.xd [(g, u), (f, v)]) (S1.ex.back hd)
      exact h _ _ _ _ _ (x1.trans xn) (S1.new hd) ⟨C, by rw [hmg]; exact O.m, rfl, .inr ⟨d, _, rfl, upd_same, u, _, rfl, r4.mono xn, v, [], rfl, r2.mono xn, rfl⟩⟩
end
theorem XFs.look {K : PySem.W.Frag} {H : Hp} {f : Str} {x : MV} : ∀ {xs : List (Str × MV)} {vs : List (Str × V)}, XFs K H xs vs → xs.lookup f = some x → ∃ v, vs.lookup f = some v ∧ RV K H x v
  | [], _, _, h => by simp at h
  | (n, y) :: xs, vs, r, h => by
    obtain ⟨v, rr, e1, e2, e3⟩ := r
    subst e1
    rw [List.lookup_cons] at h ⊢
    cases eq : f == n with
    | true => rw [eq] at h; cases h; exact ⟨v, rfl, e2⟩
    | false => rw [eq] at h; exact XFs.look e3 h
def xcB (K : PySem.W.Frag) (C : Addr) (fs : List Str) : Bool := xfB K C && decide (PySem.W.findIn K (.ref C) "__class__" = some (some (.builtin "object.__class__"))) && decide (PySem.W.specialIn K (.builtin "object.__class__") "__get__" = some (some (.builtin "getset_descriptor.__get__"))) && decide (PySem.W.takesIn K (.builtin "object.__class__") = some true) && decide (PySem.W.mroIn K C (.type "object") = some true) && fs.all (fun f => decide (PySem.W.findIn K (.ref C) f = some none))
structure XcF (K : PySem.W.Frag) (mg : Str → Option Value) (fs : List Str) (x : Str) : Prop where
  ex : ∃ C, mg x = some (.ref C) ∧ xcB K C fs = true
structure KiT (K : PySem.W.Frag) (mg : Str → Option Value) (y x : Str) (b : Bool) : Prop where
  ex : ∃ C D, mg x = some (.ref C) ∧ mg y = some (.ref D) ∧ PySem.W.kitOne K (.ref C) (.ref D) = some b
structure XcG (K : PySem.W.Frag) (C : Addr) (fs : List Str) : Prop where
  xf : XfC K C
  xc : ExcC K C
  no : ∀ f ∈ fs, PySem.W.findIn K (.ref C) f = some none
def inCls (s : Stmt) (j : Nat) : Stmt := match s with
  | .ClassDef _ _ _ b _ _ _ _ _ _ _ => b.getD j (.Pass ⟨0, 0, 0, 0⟩)
  | _ => .Pass ⟨0, 0, 0, 0⟩
theorem owX_mk {K : PySem.W.Frag} {mg : Str → Option Value} {x : Str} {C fI : Addr} {nm q : Str} {N : Addr} {bs bm : List Value} {sn : List Str} {sub : List Value} {ab : Bool} {col : Option Bool} {dd : Option Addr} {k0 k1 k2 k3 k5 : Option Value}
    (m : mg x = some (.ref C)) (l : K.lookup C = some (excClassObj nm q C N bs bm true sn sub ab col dd k0 k1 k2 k3 k5 "ValueError.__new__")) (r : PySem.HandSPX.refsVE bm = true) (sa : PySem.W.findIn K (.ref C) "__setattr__" = some (some (.builtin "object.__setattr__")))
    (eC : PySem.W.subIn K (.ref C) (.type "BaseException") = some true) (tC : PySem.W.typeIn K (.ref C) = some (.type "type")) (kC : PySem.W.keepIn K (.ref C) = true) (iC : PySem.W.findIn K (.ref C) "__init__" = some (some (.ref fI))) (tI : PySem.W.typeIn K (.ref fI) = some (.type "function")) : OwX K mg x C fI :=
  ⟨⟨⟨nm, q, N, bs, bm, sn, sub, ab, col, dd, k0, k1, k2, k3, k5, l, r⟩, sa, eC, tC, kC⟩, m, iC, tI⟩
end Tm
set_option Elab.async false
set_option linter.all false
set_option maxRecDepth 100000
set_option maxHeartbeats 2000000
namespace Tm
open PySem L2
open Evl (Ex ex_rd ex_l ex_t)
def fMultL : MV → MV → Option (List MV)
  | .lst a, .int k => if decide (-(2 ^ 63) ≤ k) && decide (k < 2 ^ 63) && szOk (a.length * k.toNat) then some (List.replicate k.toNat a).flatten else none
  | _, _ => none
def mOpO (f : MV → MV → Option (List MV)) (a b : ME) : ME := fun ρ => (a ρ).bind fun x ρ1 => (b ρ1).bind fun y ρ2 => match f x y with
  | some zs => .ok (.own zs, ρ2)
  | none => .stuck
section
variable {X : Cx} {c : Ct} {a b : Expr} {ma mb : ME} {pos : Pos}
def OpN (K : PySem.W.Frag) (f : MV → MV → Option (List MV)) (r : R2) : Prop := ∀ (x y : MV) (zs : List MV) (v w : V) (Hk H : Hp) (Q : VK), f x y = some zs → Ex Hk H → RV K Hk x v → RV K Hk y w →
  (∀ p vs, H p = none → RVs K Hk zs vs → Q (.ref p) (upd H p (.lst vs))) → r v w H Q
theorem mo_op {op : Operator} {f : MV → MV → Option (List MV)} {r : R2} (hop : OpR X (binaryOp op) r) (o : OpN c.K f r) (ha : PE X a (rdE c ma)) (hb : PE X b (rdE c mb)) : PE X (.BinOp a op b pos) (rdO c (mOpO f ma mb)) :=
  PEw (pe_op hop ha hb) fun σ H Q h => by
    obtain ⟨F, Hk, bp, ρ, S, h⟩ := h
    refine rdw (bE postO S h) fun v H1 ⟨Hk1, x, ρ1, x1, S1, r1, h1⟩ => ?_
    refine rdw (bE postO S1 h1) fun w H2 ⟨Hk2, y, ρ2, x2, S2, r2, h2⟩ => ?_
    split at h2
    · rename_i zs e
      exact o x y zs v w Hk2 H2 Q e S2.1.ex (RV.mono x2 _ _ r1) r2 fun p vs hp rv => h2 _ _ _ (Ex.refl _) (S2.1.pushOwn hp rv)
    · exact h2.elim
theorem on_mult {K : PySem.W.Frag} : OpN K fMultL (rMulM K) := by
  intro x y zs v w Hk H Q e ex r1 r2 q
  unfold fMultL at e
  split at e
  · rename_i a k
    split at e
    · rename_i h
      cases e
      simp only [Bool.and_eq_true, decide_eq_true_eq] at h
      obtain ⟨p1, vs, rfl, h1, s1⟩ := RV.lst.mp r1
      refine .inr (.inr (.inl ⟨p1, k, vs, rfl, RV.int.mp r2, ex _ _ h1, h.1.1, h.1.2, ?_, fun p hp => q p _ hp (RVs.rep s1 _)⟩))
      rw [s1.length]; exact szOk_iff.mp h.2
    · cases e
  · cases e
theorem mo_mult (ha : PE X a (rdE c ma)) (hb : PE X b (rdE c mb)) (hK : c.K = X.K := by rfl) : PE X (.BinOp a .Mult b pos) (rdO c (mOpO fMultL ma mb)) := mo_op op_mulM (by rw [← hK]; exact on_mult) ha hb
end
end Tm
set_option Elab.async false
set_option linter.all false
set_option maxRecDepth 100000
set_option maxHeartbeats 2000000
namespace Tm
open PySem L2
open Evl (Ex ex_rd ex_l ex_t)
section
variable {X : Cx} {c : Ct} {p pos apos cpos : Pos} {o e : Expr} {es : List Expr} {a : ME} {m : MA}
def smE (f : Str → List MV → Option MV) (z : Str) (ys : List MV) (ρ2 : Env) : Res (MV × Env) := match f z ys with | some w => .ok (w, ρ2) | none => .stuck
def mSm (f : Str → List MV → Option MV) (a : ME) (b : MA) : ME := fun ρ => (a ρ).bind fun x ρ1 => match x with
  | .str z => (b ρ1).bind (smE f z)
  | _ => .stuck
def SmS (K : PySem.W.Frag) (f : Str → List MV → Option MV) (r : V → List V → Hp → VK → Prop) : Prop := ∀ (z : Str) (ys : List MV) (w : MV) (us : List V) (Hk H : Hp) (Q : VK), f z ys = some w → Ex Hk H → RVs K Hk ys us → (∀ u, RV K Hk w u → Q u H) →
  (∀ q ob, H q = none → RV K (upd Hk q ob) w (.ref q) → Q (.ref q) (upd H q ob)) → r (.str z) us H Q
theorem rd_sm {f : Str → List MV → Option MV} {r : V → List V → Hp → VK → Prop} (s : SmS c.K f r) {σ : St} {H : Hp} {Q : VK} (h : rdE c (mSm f a m) σ H Q) : tBM c.K "str" r (rdE c a) (rdA c m) σ H Q := by
  obtain ⟨F, Hk, bp, ρ, S, h⟩ := h
  refine rdw (bE postE S h) fun v H1 ⟨Hk1, x, ρ1, x1, S1, r1, h1⟩ => ?_
  cases x with
  | str z =>
    rw [RV.str.mp r1]
    refine ⟨rfl, ?_⟩
    refine rdAw (bA postE S1 h1) fun us H2 ⟨Hk2, ys, ρ2, x2, S2, r2, h2⟩ => ?_
    have h2 : okE c F Hk2 bp σ Q (match f z ys with | some w => .ok (w, ρ2) | none => .stuck) := h2
    cases ef : f z ys with
    | none => rw [ef] at h2; exact h2.elim
    | some w =>
      rw [ef] at h2
      exact s z ys w us Hk2 H2 Q ef S2.1.ex r2 (fun u ru => h2 _ _ u (Ex.refl _) S2.1 ru) fun q ob hq ru => h2 _ _ _ (Ex.new (S2.1.ex.back hq)) (S2.1.new hq) ru
  | _ => exact h1.elim
theorem me_sm {f : Str → List MV → Option MV} {r : V → List V → Hp → VK → Prop} {id : String} {name : Str} (s : SmS c.K f r) (slot : Slot "str" name id) (hty : typeOf (.builtin id) = pure (.type "method_descriptor")) (hm : MtR X id r) (ho : PE X o (rdE c a)) (ha : PA X (e :: es) (rdA c m)) (hK : c.K = X.K := by rfl)
    (hbase : attributeBase o name X.env (eval o X.env) = eval o X.env := by rfl)
    (hfew : ((backTo cpos (starEach (e :: es) X.env)).all (fun x => !x.1) && (backToKw cpos (keywordEach [] X.env)).all (fun x => x.1.isSome)
      && decide ((e :: es).length + ([] : List Keyword).length + (if ([] : List Keyword).isEmpty then 0 else 1) < 30)) = true := by rfl)
    (hline : (apos.endLine == cpos.line) = true := by rfl) (hs : starEach (e :: es) X.env = (false, eval e X.env) :: starEach es X.env := by rfl) (hplain : (backTo cpos (starEach es X.env)).any (·.1) = false := by rfl) :
    PE X (.Call (.Attribute o name apos) (e :: es) [] cpos) (rdE c (mSm f a m)) :=
  PEw (pe_bm PySem.F.plainAttrs_str slot hty hm ho ha hbase hfew hline hs hplain) fun σ H Q h => by
    have := rd_sm s h
    rw [hK] at this
    exact this
def mLx (f : List MV → List MV → Option MV) (a : ME) (b : MA) : ME := fun ρ => (a ρ).bind fun x ρ1 => match x with
  | .lst xs => (b ρ1).bind fun ys ρ2 => (match f xs ys with | some w => .ok (w, ρ2) | none => .stuck)
  | _ => .stuck
def LxS (K : PySem.W.Frag) (f : List MV → List MV → Option MV) (r : V → List V → Hp → VK → Prop) : Prop := ∀ (xs ys : List MV) (w : MV) (q : Addr) (vs us : List V) (Hk H : Hp) (Q : VK), f xs ys = some w → Ex Hk H → H q = some (.lst vs) → RVs K Hk xs vs → RVs K Hk ys us → (∀ u, RV K Hk w u → Q u H) → r (.ref q) us H Q
theorem rd_lx {f : List MV → List MV → Option MV} {r : V → List V → Hp → VK → Prop} (s : LxS c.K f r) {σ : St} {H : Hp} {Q : VK} (h : rdE c (mLx f a m) σ H Q) : tBM c.K "list" r (rdE c a) (rdA c m) σ H Q := by
  obtain ⟨F, Hk, bp, ρ, S, h⟩ := h
  refine rdw (bE postE S h) fun v H1 ⟨Hk1, x, ρ1, x1, S1, r1, h1⟩ => ?_
  cases x with
  | lst xs =>
    obtain ⟨q, vs, rfl, g1, g2⟩ := RV.lst.mp r1
    refine ⟨.inl ⟨rfl, _, SqL.of (S1.1.ex _ _ g1)⟩, ?_⟩
    refine rdAw (bA postE S1 h1) fun us H2 ⟨Hk2, ys, ρ2, x2, S2, r2, h2⟩ => ?_
    have h2 : okE c F Hk2 bp σ Q (match f xs ys with | some w => .ok (w, ρ2) | none => .stuck) := h2
    cases ef : f xs ys with
    | none => rw [ef] at h2; exact h2.elim
    | some w =>
      rw [ef] at h2
      exact s xs ys w q vs us Hk2 H2 Q ef S2.1.ex (S2.1.ex _ _ (x2 _ _ g1)) (g2.mono x2) r2 (fun u ru => h2 _ _ u (Ex.refl _) S2.1 ru)
  | _ => exact h1.elim
theorem me_lx {f : List MV → List MV → Option MV} {r : V → List V → Hp → VK → Prop} {id : String} {name : Str} (s : LxS c.K f r) (slot : Slot "list" name id) (hty : typeOf (.builtin id) = pure (.type "method_descriptor")) (hm : MtR X id r) (ho : PE X o (rdE c a)) (ha : PA X (e :: es) (rdA c m)) (hK : c.K = X.K := by rfl)
    (hbase : attributeBase o name X.env (eval o X.env) = eval o X.env := by rfl)
    (hfew : ((backTo cpos (starEach (e :: es) X.env)).all (fun x => !x.1) && (backToKw cpos (keywordEach [] X.env)).all (fun x => x.1.isSome)
      && decide ((e :: es).length + ([] : List Keyword).length + (if ([] : List Keyword).isEmpty then 0 else 1) < 30)) = true := by rfl)
    (hline : (apos.endLine == cpos.line) = true := by rfl) (hs : starEach (e :: es) X.env = (false, eval e X.env) :: starEach es X.env := by rfl) (hplain : (backTo cpos (starEach es X.env)).any (·.1) = false := by rfl) :
    PE X (.Call (.Attribute o name apos) (e :: es) [] cpos) (rdE c (mLx f a m)) :=
  PEw (pe_bm PySem.F.plainAttrs_list slot hty hm ho ha hbase hfew hline hs hplain) fun σ H Q h => by
    have := rd_lx s h
    rw [hK] at this
    exact this
end
def strsOf : List MV → Option (List Str)
  | [] => some []
  | .str z :: r => (match strsOf r with | some l => some (z :: l) | none => none)
  | _ :: _ => none
theorem strs_rv {K : PySem.W.Frag} {H : Hp} : ∀ {xs : List MV} {ss : List Str} {vs : List V}, strsOf xs = some ss → RVs K H xs vs → vs = ss.map V.str
  | [], ss, vs, h, r => by cases h; exact RVs.nil.mp r
  | .str z :: xs, ss, vs, h, r => by
    obtain ⟨v, us, rfl, r1, r2⟩ := RVs.cons.mp r
    unfold strsOf at h
    cases e : strsOf xs with
    | none => rw [e] at h; cases h
    | some l =>
      rw [e] at h
      cases h
      rw [RV.str.mp r1, strs_rv e r2]; rfl
  | .non :: _, _, _, h, _ => by cases h
  | .bl _ :: _, _, _, h, _ => by cases h
  | .int _ :: _, _, _, h, _ => by cases h
  | .tup _ :: _, _, _, h, _ => by cases h
  | .lst _ :: _, _, _, h, _ => by cases h
  | .own _ :: _, _, _, h, _ => by cases h
  | .raw _ :: _, _, _, h, _ => by cases h
  | .scr _ :: _, _, _, h, _ => by cases h
  | .fnc _ :: _, _, _, h, _ => by cases h
  | .obj _ _ :: _, _, _, h, _ => by cases h
  | .dct _ _ :: _, _, _, h, _ => by cases h
  | .dow _ _ :: _, _, _, h, _ => by cases h
  | .dot _ _ :: _, _, _, h, _ => by cases h
def joinM (z : Str) (ss : List Str) : Option MV := if decide ((ss.map (·.length)).sum + ss.length * z.length ≤ 16777216) then some (.str (Txt.join z ss)) else none
def smJoin : Str → List MV → Option MV
  | z, [.lst xs] => (strsOf xs).bind (joinM z)
  | z, [.tup xs] => (strsOf xs).bind (joinM z)
  | _, _ => none
theorem strs_map {K : PySem.W.Frag} {H : Hp} : ∀ (ss : List Str), RVs K H (ss.map MV.str) (ss.map V.str)
  | [] => RVs.nil.mpr rfl
  | s :: ss => RVs.cons.mpr ⟨_, _, rfl, RV.str.mpr rfl, strs_map ss⟩
theorem ss_join {K : PySem.W.Frag} : SmS K smJoin (fun x xs H Q => ∃ a p, ∃ ys : List Str, x = .str a ∧ xs = [.ref p] ∧ (SqL K H p (ys.map V.str) ∨ SqT K H p (ys.map V.str)) ∧ (ys.map (·.length)).sum + ys.length * a.length ≤ 16777216 ∧ Q (.str (Txt.join a ys)) H) := by
  intro z ys w us Hk H Q e ex r q qn
  have fin : ∀ ss, joinM z ss = some w → (ss.map (·.length)).sum + ss.length * z.length ≤ 16777216 ∧ w = .str (Txt.join z ss) := fun ss h => by
    unfold joinM at h
    split at h
    · rename_i hd
      exact ⟨of_decide_eq_true hd, by cases h; rfl⟩
    · cases h
  unfold smJoin at e
  split at e
  · rename_i xs
    obtain ⟨v, rfl, rv⟩ := rvs1 r
    obtain ⟨p, vs, rfl, h1, s1⟩ := RV.lst.mp rv
    cases es : strsOf xs with
    | none => rw [es] at e; cases e
    | some ss =>
      rw [es] at e
      obtain ⟨f1, rfl⟩ := fin ss e
      have := strs_rv es s1
      subst this
      exact ⟨z, p, ss, rfl, rfl, .inl (SqL.of (ex _ _ h1)), f1, q _ (RV.str.mpr rfl)⟩
  · rename_i xs
    obtain ⟨v, rfl, rv⟩ := rvs1 r
    obtain ⟨p, vs, rfl, h1, s1⟩ := RV.tup.mp rv
    cases es : strsOf xs with
    | none => rw [es] at e; cases e
    | some ss =>
      rw [es] at e
      obtain ⟨f1, rfl⟩ := fin ss e
      have := strs_rv es s1
      subst this
      exact ⟨z, p, ss, rfl, rfl, .inr (ex_t ex h1), f1, q _ (RV.str.mpr rfl)⟩
  · cases e
def smSplit : Str → List MV → Option MV
  | z, [.str b] => if (b.length == 0) = false ∧ z.length + 2 ≤ sizeLine then some (.lst ((Txt.split z b).map MV.str)) else none
  | _, _ => none
theorem ss_split {K : PySem.W.Frag} : SmS K smSplit (fun x xs H Q => ∃ a b, x = .str a ∧ xs = [.str b] ∧ (b.length == 0) = false ∧ a.length + 2 ≤ sizeLine ∧ rNewStrs (Txt.split a b) H Q) := by
  intro z ys w us Hk H Q e ex r q qn
  unfold smSplit at e
  split at e
  · rename_i b
    split at e
    · rename_i h
      cases e
      obtain ⟨v, rfl, rv⟩ := rvs1 r
      rw [RV.str.mp rv]
      exact ⟨z, b, rfl, rfl, h.1, h.2, fun p hp => qn p _ hp (RV.lst.mpr ⟨p, _, rfl, upd_same, strs_map _⟩)⟩
    · cases e
  · cases e
def smPartition : Str → List MV → Option MV
  | z, [.str b] => if (b.length == 0) = false ∧ z.length ≤ sizeLine then some (.tup [.str (Txt.partition z b).1, .str (Txt.partition z b).2.1, .str (Txt.partition z b).2.2]) else none
  | _, _ => none
theorem ss_partition {K : PySem.W.Frag} : SmS K smPartition (fun x xs H Q => ∃ a b, x = .str a ∧ xs = [.str b] ∧ (b.length == 0) = false ∧ a.length ≤ sizeLine ∧
    ∀ p, H p = none → Q (.ref p) (upd H p (.tup [.str (Txt.partition a b).1, .str (Txt.partition a b).2.1, .str (Txt.partition a b).2.2]))) := by
  intro z ys w us Hk H Q e ex r q qn
  unfold smPartition at e
  split at e
  · rename_i b
    split at e
    · rename_i h
      cases e
      obtain ⟨v, rfl, rv⟩ := rvs1 r
      rw [RV.str.mp rv]
      exact ⟨z, b, rfl, rfl, h.1, h.2, fun p hp => qn p _ hp (RV.tup.mpr ⟨p, _, rfl, SqT.of upd_same, strs_map [(Txt.partition z b).1, (Txt.partition z b).2.1, (Txt.partition z b).2.2]⟩)⟩
    · cases e
  · cases e
def smZfill : Str → List MV → Option MV
  | z, [.int i] => if PadOk i = true then some (.str (Txt.zfill z i)) else none
  | _, _ => none
theorem ss_zfill {K : PySem.W.Frag} : SmS K smZfill (fun x xs H Q => ∃ (a : Str) (i : Int), x = .str a ∧ xs = [.int i] ∧ PadOk i = true ∧ Q (.str (Txt.zfill a i)) H) := by
  intro z ys w us Hk H Q e ex r q qn
  unfold smZfill at e
  split at e
  · rename_i i
    split at e
    · rename_i h
      cases e
      obtain ⟨v, rfl, rv⟩ := rvs1 r
      rw [RV.int.mp rv]
      exact ⟨z, i, rfl, rfl, h, q _ (RV.str.mpr rfl)⟩
    · cases e
  · cases e
def smIndex : Str → List MV → Option MV
  | z, [.str b] => (match Builtin.Str.occurrences z b 0 z.length 1 with | i :: _ => some (.int (i : Nat)) | [] => none)
  | _, _ => none
theorem ss_index {K : PySem.W.Frag} : SmS K smIndex (fun x xs H Q => ∃ a b i rest, x = .str a ∧ xs = [.str b] ∧ Builtin.Str.occurrences a b 0 a.length 1 = i :: rest ∧ Q (.int (i : Nat)) H) := by
  intro z ys w us Hk H Q e ex r q qn
  unfold smIndex at e
  split at e
  · rename_i b
    split at e
    · rename_i i rest h
      cases e
      obtain ⟨v, rfl, rv⟩ := rvs1 r
      rw [RV.str.mp rv]
      exact ⟨z, b, i, rest, rfl, rfl, h, q _ (RV.int.mpr rfl)⟩
    · cases e
  · cases e
def lxIndex : List MV → List MV → Option MV
  | xs, [.str b] => (match strsOf xs with
    | some ss => (match ss.findIdx? (fun s => decide (s = b)) with | some j => some (.int (j : Nat)) | none => none)
    | none => none)
  | _, _ => none
theorem lx_index {K : PySem.W.Frag} : LxS K lxIndex (rIndex K) := by
  intro xs ys w q vs us Hk H Q e ex hq r1 r2 k
  unfold lxIndex at e
  split at e
  · rename_i b
    split at e
    · rename_i ss es
      split at e
      · rename_i j ej
        cases e
        obtain ⟨v, rfl, rv⟩ := rvs1 r2
        rw [RV.str.mp rv]
        have := strs_rv es r1
        subst this
        obtain ⟨hj, h1, h2⟩ := List.findIdx?_eq_some_iff_getElem.mp ej
        refine ⟨q, ss.map V.str, .str b, j, .str ss[j], rfl, rfl, SqL.of hq, rfl, ?_, by simp [hj], ?_, fun m z' hm hz => ?_, k _ (RV.int.mpr rfl)⟩
        · rw [List.all_map, List.all_eq_true]
          exact fun _ _ => rfl
        · have h1 := of_decide_eq_true h1
          rw [h1]
          simp [eqV]
        · have hlt : m < ss.length := by omega
          have : z' = .str ss[m] := by simpa [hlt] using hz.symm
          subst this
          have h3 := h2 m hm
          have h3 : ¬ ss[m] = b := by simpa using h3
          simp [eqV, h3]
      · cases e
    · cases e
  · cases e
end Tm
set_option Elab.async false
set_option linter.all false
set_option maxRecDepth 100000
set_option maxHeartbeats 2000000
namespace Tm
open PySem L2
open Evl (Ex ex_rd ex_l ex_t)
inductive BA where
  | v (x : MV) | b (i : Nat)
abbrev MB := Env → Res (List BA × Env)
def idxB : List BA → List Nat
  | [] => []
  | .v _ :: r => idxB r
  | .b i :: r => i :: idxB r
def MV.held : MV → Bool
  | .own _ => true
  | .obj _ _ => true
  | _ => false
def fill : List BA → Env → Option (List MV)
  | [], _ => some []
  | .v x :: r, ρ => (match fill r ρ with | some xs => some (x :: xs) | none => none)
  | .b i :: r, ρ => (match ρ[i]?, fill r ρ with | some (some x), some xs => if x.held then some (x :: xs) else none | _, _ => none)
def back (ρ : Env) : List Nat → Env → Env
  | [], _ => ρ
  | i :: is, os => back (ρ.set i (os.head?).join) is os.tail
def BVs (K : PySem.W.Frag) (Hk : Hp) (σ : St) : List BA → List V → Prop
  | [], vs => vs = []
  | .v x :: r, vs => ∃ v us, vs = v :: us ∧ RV K Hk x v ∧ BVs K Hk σ r us
  | .b i :: r, vs => ∃ v us, vs = v :: us ∧ σ[i]? = some (some v) ∧ BVs K Hk σ r us
theorem BVs.mono {K : PySem.W.Frag} {Hk Hk' : Hp} {σ : St} (e : Ex Hk Hk') : ∀ {xs : List BA} {vs : List V}, BVs K Hk σ xs vs → BVs K Hk' σ xs vs
  | [], _, h => h
  | .v x :: r, vs, ⟨v, us, e1, e2, e3⟩ => ⟨v, us, e1, RV.mono e _ _ e2, BVs.mono e e3⟩
  | .b i :: r, vs, ⟨v, us, e1, e2, e3⟩ => ⟨v, us, e1, e2, BVs.mono e e3⟩
theorem BVs.length {K : PySem.W.Frag} {Hk : Hp} {σ : St} : ∀ {xs : List BA} {vs : List V}, BVs K Hk σ xs vs → vs.length = xs.length
  | [], _, h => by rw [show _ = [] from h]; rfl
  | .v x :: r, vs, ⟨v, us, e1, e2, e3⟩ => by rw [e1, List.length_cons, List.length_cons, e3.length]
  | .b i :: r, vs, ⟨v, us, e1, e2, e3⟩ => by rw [e1, List.length_cons, List.length_cons, e3.length]
def okBA (c : Ct) (F Hk : Hp) (bp : List (Nat × Addr)) (σ : St) (Q : List V → Hp → Prop) : Res (List BA × Env) → Prop
  | .ok (xs, ρ') => ∀ Hk' H' vs, Ex Hk Hk' → RS c.K F Hk' H' bp σ ρ' → BVs c.K Hk' σ xs vs → Q vs H'
  | .exc e ρ' => Wish c F Hk bp σ e ρ'
  | .stuck => False
theorem okBA.mono {c : Ct} {F Hk Hk' : Hp} {bp : List (Nat × Addr)} {σ : St} {Q : List V → Hp → Prop} {r : Res (List BA × Env)} (x : Ex Hk Hk') (h : okBA c F Hk bp σ Q r) : okBA c F Hk' bp σ Q r := by
  cases r with
  | ok a => exact fun Hk2 H2 v x2 => h Hk2 H2 v (x.trans x2)
  | exc e ρ => exact Wish.mono x h
  | stuck => exact h
end Tm
set_option Elab.async false
set_option linter.all false
set_option maxRecDepth 100000
set_option maxHeartbeats 2000000
namespace Tm
open PySem L2
open Evl (Ex ex_rd ex_l ex_t)
def cbE (f : MF) (args : List BA) (ρ : Env) : Res (MV × Env) := match fill args ρ with
  | some xs => (match f xs with | .ok (v, os) => .ok (v, back ρ (idxB args) os) | .exc e os => .exc e (back ρ (idxB args) os) | .stuck => .stuck)
  | none => .stuck
end Tm
set_option Elab.async false
set_option linter.all false
set_option maxRecDepth 100000
set_option maxHeartbeats 2000000
namespace Tm
open PySem L2
open Evl (Ex ex_rd ex_l ex_t)
def putM (f : Str) (v : MV) : List (Str × MV) → List (Str × MV)
  | [] => [(f, v)]
  | (g, x) :: r => if g = f then (g, v) :: r else (g, x) :: putM f v r
theorem look_eq {α : Type} {f g : Str} {x : α} {r : List (Str × α)} : ((g, x) :: r).lookup f = if g = f then some x else r.lookup f := by
  rw [List.lookup_cons]
  by_cases e : g = f
  · subst e; simp
  · rw [if_neg e]
    have : (f == g) = false := by simpa using fun z => e z.symm
    rw [this]
section
variable {K : PySem.W.Frag} {Hk H : Hp}
theorem OFs.fresh : ∀ {fs : List (Str × MV)} {vfs : List (Str × V)} {B : List Addr} {f : Str}, OFs K Hk H fs vfs B → fs.lookup f = none → vfs.lookup f = none ∧
    ∀ (Hk' H' : Hp) (x' : MV) (v' : V) (A1' : List Addr), Ex Hk Hk' → (∀ a ∈ B, ∀ o, H a = some o → H' a = some o) → OF K Hk' H' x' v' A1' → OFs K Hk' H' (putM f x' fs) (putF f v' vfs) (B ++ A1')
  | [], vfs, B, f, ⟨e1, e2⟩, _ => by
    subst e1 e2
    exact ⟨rfl, fun Hk' H' x' v' A1' ex k o' => ⟨v', [], A1', [], rfl, by simp, o', rfl, rfl⟩⟩
  | (n, y) :: fs, vfs, B, f, ⟨v, r, C, D, e1, e2, o1, o2⟩, h => by
    subst e1 e2
    rw [look_eq] at h
    by_cases e : n = f
    · rw [if_pos e] at h; cases h
    · rw [if_neg e] at h
      obtain ⟨g1, g4⟩ := OFs.fresh o2 h
      refine ⟨by rw [look_eq, if_neg e]; exact g1, fun Hk' H' x' v' A1' ex k o' => ?_⟩
      unfold putM putF
      rw [if_neg e, if_neg e]
      exact ⟨v, _, C, D ++ A1', rfl, by simp, o1.move ex fun a ha => k a (by simp [ha]), g4 Hk' H' x' v' A1' ex (fun a ha => k a (by simp [ha])) o'⟩
theorem OFs.len : ∀ {fs : List (Str × MV)} {vfs : List (Str × V)} {B : List Addr}, OFs K Hk H fs vfs B → vfs.length = fs.length
  | [], vfs, B, ⟨e1, _⟩ => by rw [e1]; rfl
  | _ :: fs, vfs, B, ⟨v, r, C, D, e1, e2, o1, o2⟩ => by rw [e1, List.length_cons, List.length_cons, o2.len]
theorem OV.obj {C : Str} {fs : List (Str × MV)} {v : V} {A : List Addr} : OV K Hk H (.obj C fs) v A ↔ ∃ p CA dx vfs B, v = .ref p ∧ A = p :: B ∧ PySem.W.nsIn K mainGlobals C = some (some (.ref CA)) ∧ H p = some (.ins CA dx vfs) ∧ OFs K Hk H fs vfs B ∧ (p :: B).Nodup := by
  unfold OV; rfl
theorem OF.own {xs : List MV} {v : V} {A : List Addr} : OF K Hk H (.own xs) v A ↔ ∃ p vs, v = .ref p ∧ A = [p] ∧ H p = some (.lst vs) ∧ RVs K Hk xs vs := by
  unfold OF; rfl
end
structure ObC (K : PySem.W.Frag) (C : Str) (fs : List Str) : Prop where
  ex : ∀ CA, PySem.W.nsIn K mainGlobals C = some (some (.ref CA)) → Cls K CA ∧ ∀ f ∈ fs, NoAttr K CA f
end Tm
set_option Elab.async false
set_option linter.all false
set_option maxRecDepth 100000
set_option maxHeartbeats 2000000
namespace Tm
open PySem L2
open Evl (Ex ex_rd ex_l ex_t)
structure ObM (P : Program) (w : World) (K : PySem.W.Frag) (mg : Str → Option Value) (base : Heap) (C m : Str) (k : Nat) (ps : List Str) (bs : List Nat) (f : MF) : Prop where
  ex : ∃ CA g fd, PySem.W.nsIn K mainGlobals C = some (some (.ref CA)) ∧ Cls K CA ∧ Meth K CA m g ∧ FnOk P w K mg base (L2N.CX P w) k g fd ps (spF K mg ps.length bs f) ∧ Binds K fd ps []
structure ObN (P : Program) (w : World) (K : PySem.W.Frag) (mg : Str → Option Value) (base : Heap) (C : Str) (k : Nat) (f : MF) : Prop where
  ex : ∃ CA g fd ps, PySem.W.nsIn K mainGlobals C = some (some (.ref CA)) ∧ mg C = some (.ref CA) ∧ Mk K CA g ∧ FnOk P w K mg base (L2N.CX P w) k g fd ps (spF K mg 1 [0] f) ∧ Binds K fd ps []
end Tm
set_option Elab.async false
set_option linter.all false
set_option maxRecDepth 100000
set_option maxHeartbeats 2000000
namespace Tm
open PySem L2
open Evl (Ex ex_rd ex_l ex_t)
def FnA (K : PySem.W.Frag) (a : Addr) : Prop := ∃ o, K.lookup a = some o ∧ o.cls = .type "function"
structure FnI (K : PySem.W.Frag) (N : List Str) : Prop where
  fn : ∀ x ∈ N, ∀ a, PySem.W.nsIn K mainGlobals x = some (some (.ref a)) → FnA K a
  inj : ∀ x ∈ N, ∀ y ∈ N, ∀ a, PySem.W.nsIn K mainGlobals x = some (some (.ref a)) → PySem.W.nsIn K mainGlobals y = some (some (.ref a)) → x = y
structure FnT (P : Program) (w : World) (K : PySem.W.Frag) (mg : Str → Option Value) (base : Heap) (T : List (Str × MF)) : Prop where
  ex : ∀ x f, T.lookup x = some f → ∀ a, PySem.W.nsIn K mainGlobals x = some (some (.ref a)) → ∃ fd ps, FnOk P w K mg base (L2N.CX P w) 2 a fd ps (spF K mg 1 [] f) ∧ PySem.W.keepIn K (.ref a) = true ∧ Binds K fd ps []
end Tm
set_option Elab.async false
set_option linter.all false
set_option maxRecDepth 100000
set_option maxHeartbeats 2000000
namespace Tm
open PySem L2
open Evl (Ex ex_rd ex_l ex_t)
section
variable {X : Cx} {c : Ct} {C x f : Str} {fl : List Str} {i : Nat} {p p2 pos apos cpos : Pos} {e : Expr} {es : List Expr}
structure FnG (K : PySem.W.Frag) (mg : Str → Option Value) (x : Str) : Prop where
  ex : ∃ a, mg x = some (.ref a) ∧ PySem.W.nsIn K mainGlobals x = some (some (.ref a))
end
end Tm
set_option Elab.async false
set_option linter.all false
set_option maxRecDepth 100000
set_option maxHeartbeats 2000000
namespace Tm
open PySem L2
open Evl (Ex ex_rd ex_l ex_t)
structure ObX (P : Program) (w : World) (K : PySem.W.Frag) (mg : Str → Option Value) (base : Heap) (C m : Str) (k : Nat) (ps : List Str) (sp : Sp) : Prop where
  ex : ∃ CA g fd, PySem.W.nsIn K mainGlobals C = some (some (.ref CA)) ∧ Cls K CA ∧ Meth K CA m g ∧ FnOk P w K mg base (L2N.CX P w) k g fd ps sp ∧ Binds K fd ps []
end Tm
set_option Elab.async false
set_option linter.all false
set_option maxRecDepth 100000
set_option maxHeartbeats 2000000
namespace Tm
open PySem L2
theorem nr {α : Sort _} {a b : α} (h : a = b) : a = b := h
section
variable {α β : Type} {a b : ME} {ρ ρ1 : Env} {r : Option MV} {x y z : MV}
@[simp] theorem bind_ok {x : α} {f : α → Env → Res (β × Env)} : (Res.ok (x, ρ)).bind f = f x ρ := nr rfl
@[simp] theorem bind_exc {e : MX} {f : α → Env → Res (β × Env)} : (Res.exc e ρ : Res (α × Env)).bind f = .exc e ρ := nr rfl
@[simp] theorem bind_stuck {f : α → Env → Res (β × Env)} : (Res.stuck : Res (α × Env)).bind f = .stuck := nr rfl
@[simp] theorem b0_ok {x : α} {f : α → Env → Res (β × Env)} : (Res.ok (x, ρ)).b0 f = f x ρ := nr rfl
@[simp] theorem mVar_ap {i : Nat} : mVar i (r :: ρ) = match (r :: ρ)[i]? with
  | some (some (.own xs)) => .ok (.lst xs, (r :: ρ).set i (some (.lst xs)))
  | some (some (.obj _ _)) => .stuck
  | some (some (.dow _ _)) => .stuck
  | some (some (.dot _ _)) => .stuck
  | some (some x) => .ok (x, (r :: ρ))
  | _ => .stuck := nr rfl
@[simp] theorem mC_ap  : mC x (r :: ρ) = .ok (x, (r :: ρ)) := nr rfl
@[simp] theorem mOp_ap {f : MV → MV → Option MV} : mOp f a b (r :: ρ) = (a (r :: ρ)).bind fun x ρ1 => (b ρ1).bind fun y ρ2 => match f x y with | some z => .ok (z, ρ2) | none => .stuck := nr rfl
@[simp] theorem mUn_ap {f : MV → Option MV} : mUn f a (r :: ρ) = (a (r :: ρ)).bind fun x ρ1 => match f x with | some z => .ok (z, ρ1) | none => .stuck := nr rfl
@[simp] theorem mTest_ap  : mTest a (r :: ρ) = (a (r :: ρ)).bind fun x ρ1 => match x with | .bl b => .ok (b, ρ1) | _ => .stuck := nr rfl
@[simp] theorem mChain_ap {f g : MV → MV → Option MV} {d : ME} : mChain f g a b d (r :: ρ) = (a (r :: ρ)).bind fun x ρ1 => (b ρ1).bind fun y ρ2 => match f x y with
  | some (.bl true) => (d ρ2).bind fun z ρ3 => match g y z with | some w => .ok (w, ρ3) | none => .stuck
  | some (.bl false) => .ok (.bl false, ρ2)
  | _ => .stuck := nr rfl
@[simp] theorem mAndT_ap {a b : MT} : mAndT a b (r :: ρ) = (a (r :: ρ)).bind fun x ρ1 => if x then b ρ1 else .ok (false, ρ1) := nr rfl
@[simp] theorem mOrT_ap {a b : MT} : mOrT a b (r :: ρ) = (a (r :: ρ)).bind fun x ρ1 => if x then .ok (true, ρ1) else b ρ1 := nr rfl
@[simp] theorem mNotT_ap {a : MT} : mNotT a (r :: ρ) = (a (r :: ρ)).bind fun x ρ1 => .ok (!x, ρ1) := nr rfl
@[simp] theorem mBv_ap {t : MT} : mBv t (r :: ρ) = (t (r :: ρ)).bind fun x ρ1 => .ok (.bl x, ρ1) := nr rfl
@[simp] theorem mNil_ap  : mNil (r :: ρ) = .ok ([], (r :: ρ)) := nr rfl
@[simp] theorem mCons_ap {b : MA} : mCons a b (r :: ρ) = (a (r :: ρ)).bind fun x ρ1 => (b ρ1).bind fun xs ρ2 => .ok (x :: xs, ρ2) := nr rfl
@[simp] theorem mTup_ap {a : MA} : mTup a (r :: ρ) = (a (r :: ρ)).bind fun xs ρ1 => if szOk xs.length then .ok (.tup xs, ρ1) else .stuck := nr rfl
@[simp] theorem mLst_ap {a : MA} : mLst a (r :: ρ) = (a (r :: ρ)).bind fun xs ρ1 => if szOk xs.length then .ok (.lst xs, ρ1) else .stuck := nr rfl
@[simp] theorem mLstO_ap {a : MA} : mLstO a (r :: ρ) = (a (r :: ρ)).bind fun xs ρ1 => if szOk xs.length then .ok (.own xs, ρ1) else .stuck := nr rfl
@[simp] theorem mIxV_ap {i : Nat} : mIxV i b (r :: ρ) = if has (r :: ρ) i then (b (r :: ρ)).bind fun y ρ1 => match ixV ρ1 i y with | some z => .ok (z, ρ1) | none => .stuck else .stuck := nr rfl
@[simp] theorem mNo_ap  : mNo (r :: ρ) = .ok (none, (r :: ρ)) := nr rfl
@[simp] theorem mPart_ap  : mPart a (r :: ρ) = (a (r :: ρ)).bind fun x ρ1 => match x with | .int i => .ok (some i, ρ1) | _ => .stuck := nr rfl
@[simp] theorem mSl_ap {l h : Env → Res (Option Int × Env)} : mSl a l h (r :: ρ) = (a (r :: ρ)).bind fun x ρ1 => (l ρ1).bind fun i ρ2 => (h ρ2).bind fun j ρ3 => match fSl x i j with | some z => .ok (z, ρ3) | none => .stuck := nr rfl
@[simp] theorem gSet_ap {i : Nat} : gSet i x (r :: ρ) = if i < (r :: ρ).length then some ((r :: ρ).set i (some x)) else none := nr rfl
@[simp] theorem gsNil_ap  : gsNil [] (r :: ρ) = some (r :: ρ) := nr rfl
@[simp] theorem gsCons_ap {g : MG} {h : List MV → Env → Option Env} {xs : List MV} : gsCons g h (x :: xs) (r :: ρ) = match g x (r :: ρ) with | some ρ1 => h xs ρ1 | none => none := nr rfl
@[simp] theorem gTp_tup {n : Nat} {h : List MV → Env → Option Env} {xs : List MV} : gTp n h (.tup xs) ρ = if xs.length = n then h xs ρ else none := nr rfl
@[simp] theorem gTp_lst {n : Nat} {h : List MV → Env → Option Env} {xs : List MV} : gTp n h (.lst xs) ρ = if xs.length = n then h xs ρ else none := nr rfl
@[simp] theorem mAsg_ap {g : MG} : mAsg a g (r :: ρ) = (a (r :: ρ)).bind fun x ρ1 => match g x ρ1 with | some ρ2 => .ok (.nx, ρ2) | none => .stuck := nr rfl
@[simp] theorem mSetO_ap {i : Nat} : mSetO i a (r :: ρ) = (a (r :: ρ)).bind fun x ρ1 => if i < ρ1.length then .ok (.nx, ρ1.set i (some x)) else .stuck := nr rfl
@[simp] theorem mPass_ap  : mPass (r :: ρ) = .ok (.nx, (r :: ρ)) := nr rfl
@[simp] theorem mSeq_ap {a b : MS} : mSeq a b (r :: ρ) = (a (r :: ρ)).bind fun f ρ1 => match f with | .nx => b ρ1 | f => .ok (f, ρ1) := nr rfl
@[simp] theorem mIfS_ap {t : MT} {a b : MS} : mIfS t a b (r :: ρ) = (t (r :: ρ)).bind fun x ρ1 => if x then a ρ1 else b ρ1 := nr rfl
@[simp] theorem mRet_ap  : mRet a (r :: ρ) = (a (r :: ρ)).bind fun x ρ1 => .ok (.rt x, ρ1) := nr rfl
@[simp] theorem mDrop_ap  : mDrop a (r :: ρ) = (a (r :: ρ)).bind fun _ ρ1 => .ok (.nx, ρ1) := nr rfl
@[simp] theorem mMove_ap {i : Nat} : mMove i (r :: ρ) = match (r :: ρ)[i]? with
  | some (some (.obj _ _)) => .stuck
  | some (some x) => .ok (x, (r :: ρ).set i none)
  | _ => .stuck := nr rfl
@[simp] theorem mFz_ap  : mFz a (r :: ρ) = (a (r :: ρ)).bind fun x ρ1 => match fz x with | some y => .ok (y, ρ1) | none => .stuck := nr rfl
@[simp] theorem mCall_ap {f : MF} {a : MA} : mCall f a (r :: ρ) = (a (r :: ρ)).bind fun xs ρ1 => match f xs with
  | .ok (v, _) => .ok (v, ρ1)
  | .exc e _ => .exc e ρ1
  | .stuck => .stuck := nr rfl
@[simp] theorem mCall0_ap {f : MF} {a : MA} : mCall0 f a (r :: ρ) = (a (r :: ρ)).bind fun xs ρ1 => match f xs with
  | .ok (v, _) => .ok (v, ρ1)
  | _ => .stuck := nr rfl
@[simp] theorem mBlt_ap {f : List MV → Option MV} {a : MA} : mBlt f a (r :: ρ) = (a (r :: ρ)).bind fun xs ρ1 => match f xs with | some z => .ok (z, ρ1) | none => .stuck := nr rfl
def r1M (xs : List MV) (ρ1 : Env) : Res (List MV × Env) := match xs with
  | [.int j] => if inR j then .ok (rngM 0 1 j.toNat, ρ1) else .stuck
  | _ => .stuck
@[simp] theorem mR1_ap {a : MA} : mR1 a (r :: ρ) = (a (r :: ρ)).bind r1M := nr rfl
@[simp] theorem r1M_i {j : Int} (h : inR j = true) : r1M [.int j] ρ = .ok (rngM 0 1 j.toNat, ρ) := if_pos h
def r3M (xs : List MV) (ρ1 : Env) : Res (List MV × Env) := match xs with
  | [.int i, .int j, .int k] => if rgOk i j k then .ok (rngM i k (Builtin.Range.rangeSize i j k).toNat, ρ1) else .stuck
  | _ => .stuck
@[simp] theorem mR3_ap {a : MA} : mR3 a (r :: ρ) = (a (r :: ρ)).bind r3M := nr rfl
@[simp] theorem r3M_i {i j k : Int} (h : rgOk i j k = true) : r3M [.int i, .int j, .int k] ρ = .ok (rngM i k (Builtin.Range.rangeSize i j k).toNat, ρ) := if_pos h
def lmM (f : List MV → List MV → Option (List MV × MV)) (i : Nat) (ys : List MV) (ρ1 : Env) : Res (MV × Env) := match ρ1[i]? with
  | some (some (.own xs)) => (match f xs ys with | some (zs, z) => .ok (z, ρ1.set i (some (.own zs))) | none => .stuck)
  | _ => .stuck
@[simp] theorem mLm_ap {f : List MV → List MV → Option (List MV × MV)} {i : Nat} {a : MA} : mLm f i a (r :: ρ) = if isOwn (r :: ρ) i then (a (r :: ρ)).bind (lmM f i) else .stuck := nr rfl
@[simp] theorem lmM_o {f : List MV → List MV → Option (List MV × MV)} {i : Nat} {xs ys : List MV} (h : ρ[i]? = some (some (.own xs))) : lmM f i ys ρ = (match f xs ys with | some (zs, z) => .ok (z, ρ.set i (some (.own zs))) | none => .stuck) := by unfold lmM; rw [h]
@[simp] theorem isOwn_o {i : Nat} {xs : List MV} (h : ρ[i]? = some (some (.own xs))) : isOwn ρ i = true := by unfold isOwn; rw [h]
@[simp] theorem has_o {i : Nat} {x : MV} (h : ρ[i]? = some (some x)) : has ρ i = true := by unfold has; rw [h]
def setIxM (i : Nat) (z y : MV) (ρ2 : Env) : Res (Fl × Env) := match ρ2[i]?, y with
  | some (some (.own xs)), .int k => (match ixN xs.length k with | some j => .ok (.nx, ρ2.set i (some (.own (xs.set j z)))) | none => .stuck)
  | _, _ => .stuck
@[simp] theorem mSetIx_ap {i : Nat} : mSetIx i a b (r :: ρ) = (a (r :: ρ)).bind fun z ρ1 => if has ρ1 i then (b ρ1).bind (setIxM i z) else .stuck := nr rfl
theorem setIxM_o {i : Nat} {z : MV} {xs : List MV} {k : Int} {j : Nat} (h : ρ[i]? = some (some (.own xs))) (h2 : ixN xs.length k = some j) : setIxM i z (.int k) ρ = .ok (.nx, ρ.set i (some (.own (xs.set j z)))) := by unfold setIxM; rw [h]; simp only [h2]
@[simp] theorem flatM_i {k : Int} : flatM (.int k) = true := nr rfl
@[simp] theorem mItV_ap  : mItV a (r :: ρ) = (a (r :: ρ)).bind fun x ρ1 => match itemsOf x with | some xs => .ok (xs, ρ1) | none => .stuck := nr rfl
@[simp] theorem mEnum_ap {a : MA} : mEnum a (r :: ρ) = (a (r :: ρ)).bind fun xs ρ1 => match xs with
  | [.lst xs] => .ok (enumFrom 0 xs, ρ1)
  | _ => .stuck := nr rfl
@[simp] theorem mYes_ap  : mYes (r :: ρ) = .ok (true, (r :: ρ)) := nr rfl
@[simp] theorem mFor_ap {i : MI} {g : MG} {b : MS} : mFor i g b (r :: ρ) = (i (r :: ρ)).bind fun xs ρ1 => mLoop g b xs ρ1 := nr rfl
@[simp] theorem mLcO_ap {it : MI} {g : Tgt} {t : MT} {vs : List Nat} : mLcO it g t a vs (r :: ρ) = (it (r :: ρ)).bind fun xs ρ1 => if perAt ρ1 vs then (mLcLoop g t a vs xs [] ρ1).b0 fun ys ρ2 => .ok (.own ys, backM ρ1 ρ2 vs) else .stuck := nr rfl
end
@[simp] theorem fz_lst {xs : List MV} : fz (.lst xs) = some (.lst xs) := nr rfl
@[simp] theorem fz_own {xs : List MV} : fz (.own xs) = some (.lst xs) := nr rfl
@[simp] theorem fz_tup {xs : List MV} : fz (.tup xs) = some (.tup xs) := nr rfl
@[simp] theorem fz_int {i : Int} : fz (.int i) = some (.int i) := nr rfl
@[simp] theorem fz_bl {i : Bool} : fz (.bl i) = some (.bl i) := nr rfl
@[simp] theorem fz_str {i : Str} : fz (.str i) = some (.str i) := nr rfl
@[simp] theorem fz_non : fz .non = some .non := nr rfl
@[simp] theorem fz_scr {i : List Int} : fz (.scr i) = some (.scr i) := nr rfl
section
variable {i j : Int}
@[simp] theorem fAdd_ii : fAdd (.int i) (.int j) = some (.int (i + j)) := nr rfl
@[simp] theorem fAdd_ss {a b : Str} : fAdd (.str a) (.str b) = if szOk (a.length + b.length) then some (.str (a ++ b)) else none := nr rfl
@[simp] theorem fAdd_ll {a b : List MV} : fAdd (.lst a) (.lst b) = if szOk (a.length + b.length) then some (.lst (a ++ b)) else none := nr rfl
@[simp] theorem fAdd_tt {a b : List MV} : fAdd (.tup a) (.tup b) = if szOk (a.length + b.length) then some (.tup (a ++ b)) else none := nr rfl
@[simp] theorem fSub_ii : fSub (.int i) (.int j) = some (.int (i - j)) := nr rfl
@[simp] theorem fMul_ii : fMul (.int i) (.int j) = if mulOk i j then some (.int (i * j)) else none := nr rfl
@[simp] theorem fDiv_ii : fDiv (.int i) (.int j) = if divOk j then some (.int (i.fdiv j)) else none := nr rfl
@[simp] theorem fMod_ii : fMod (.int i) (.int j) = if decide (j ≠ 0) then some (.int (i.fmod j)) else none := nr rfl
@[simp] theorem fPow_ii : fPow (.int i) (.int j) = if decide (0 ≤ j) && decide (j ≤ 1000000) && decide (i.natAbs < 2 ^ 64) then some (.int (i ^ j.toNat)) else none := nr rfl
@[simp] theorem fLt_ii : fLt (.int i) (.int j) = some (.bl (decide (i < j))) := nr rfl
@[simp] theorem fLe_ii : fLe (.int i) (.int j) = some (.bl (decide (i ≤ j))) := nr rfl
@[simp] theorem fGt_ii : fGt (.int i) (.int j) = some (.bl (decide (j < i))) := nr rfl
@[simp] theorem fGe_ii : fGe (.int i) (.int j) = some (.bl (decide (j ≤ i))) := nr rfl
@[simp] theorem fNeg_i : fNeg (.int i) = some (.int (-i)) := nr rfl
@[simp] theorem fEq_ii : fEq (.int i) (.int j) = some (.bl (decide (i = j))) := nr rfl
@[simp] theorem fNe_ii : fNe (.int i) (.int j) = some (.bl (!decide (i = j))) := nr rfl
@[simp] theorem fEq_ss {a b : Str} : fEq (.str a) (.str b) = some (.bl (decide (a = b))) := nr rfl
@[simp] theorem fNe_ss {a b : Str} : fNe (.str a) (.str b) = some (.bl (!decide (a = b))) := nr rfl
@[simp] theorem bLen_l {a : List MV} : bLen [.lst a] = some (.int a.length) := nr rfl
@[simp] theorem bLen_t {a : List MV} : bLen [.tup a] = some (.int a.length) := nr rfl
@[simp] theorem bLen_c {a : List Int} : bLen [.scr a] = some (.int a.length) := nr rfl
@[simp] theorem bAbs_i : bAbs [.int i] = some (.int (if i < 0 then -i else i)) := nr rfl
@[simp] theorem bInt_i : bInt [.int i] = some (.int i) := nr rfl
@[simp] theorem bInt_b {k : Bool} : bInt [.bl k] = some (.int (if k then 1 else 0)) := nr rfl
@[simp] theorem fIx_l {a : List MV} : fIx (.lst a) (.int i) = atI a i := nr rfl
@[simp] theorem fIx_t {a : List MV} : fIx (.tup a) (.int i) = atI a i := nr rfl
@[simp] theorem fIx_c {a : List Int} : fIx (.scr a) (.int i) = (atI a i).map .int := nr rfl
@[simp] theorem ixL_i {a : List MV} : ixL a (.int i) = atI a i := nr rfl
@[simp] theorem itemsOf_l {a : List MV} : itemsOf (.lst a) = some a := nr rfl
@[simp] theorem itemsOf_t {a : List MV} : itemsOf (.tup a) = some a := nr rfl
@[simp] theorem itemsOf_c {a : List Int} : itemsOf (.scr a) = some (a.map .int) := nr rfl
@[simp] theorem bTuple_l {a : List MV} : bTuple [.lst a] = some (.tup a) := nr rfl
@[simp] theorem bTuple_t {a : List MV} : bTuple [.tup a] = some (.tup a) := nr rfl
@[simp] theorem lmAppend_1 {a : List MV} {y : MV} : lmAppend a [y] = if decide (a.length < sizeLine) then some (a ++ [y], .non) else none := nr rfl
end
@[simp] theorem nat_neg {k : Nat} : ((k : Int) < 0) = False := by simp
@[simp] theorem nat_toNat {k : Nat} : ((k : Int)).toNat = k := nr rfl
theorem szOk_small {n : Nat} (h : n ≤ 16777216) : szOk n = true := szOk_iff.mpr (by rw [sizeLine_eq]; exact h)
theorem atI_ge {α : Type} {xs : List α} {i : Int} (h : 0 ≤ i) : atI xs i = xs[i.toNat]? := by
  unfold atI ixN
  rw [if_pos h]
  by_cases e : i < xs.length
  · rw [if_pos e]; rfl
  · rw [if_neg e, List.getElem?_eq_none (by omega)]; rfl
@[simp] theorem atI_0 {α : Type} {xs : List α} : atI xs 0 = xs[0]? := atI_ge (by decide)
@[simp] theorem atI_1 {α : Type} {xs : List α} : atI xs 1 = xs[1]? := atI_ge (by decide)
@[simp] theorem atI_2 {α : Type} {xs : List α} : atI xs 2 = xs[2]? := atI_ge (by decide)
@[simp] theorem atI_3 {α : Type} {xs : List α} : atI xs 3 = xs[3]? := atI_ge (by decide)
@[simp] theorem atI_4 {α : Type} {xs : List α} : atI xs 4 = xs[4]? := atI_ge (by decide)
@[simp] theorem atI_5 {α : Type} {xs : List α} : atI xs 5 = xs[5]? := atI_ge (by decide)
@[simp] theorem atI_6 {α : Type} {xs : List α} : atI xs 6 = xs[6]? := atI_ge (by decide)
@[simp] theorem atI_7 {α : Type} {xs : List α} : atI xs 7 = xs[7]? := atI_ge (by decide)
@[simp] theorem atI_8 {α : Type} {xs : List α} : atI xs 8 = xs[8]? := atI_ge (by decide)
@[simp] theorem atI_9 {α : Type} {xs : List α} : atI xs 9 = xs[9]? := atI_ge (by decide)
@[simp] theorem atI_10 {α : Type} {xs : List α} : atI xs 10 = xs[10]? := atI_ge (by decide)
@[simp] theorem atI_11 {α : Type} {xs : List α} : atI xs 11 = xs[11]? := atI_ge (by decide)
@[simp] theorem atI_12 {α : Type} {xs : List α} : atI xs 12 = xs[12]? := atI_ge (by decide)
@[simp] theorem atI_13 {α : Type} {xs : List α} : atI xs 13 = xs[13]? := atI_ge (by decide)
@[simp] theorem atI_14 {α : Type} {xs : List α} : atI xs 14 = xs[14]? := atI_ge (by decide)
@[simp] theorem atI_15 {α : Type} {xs : List α} : atI xs 15 = xs[15]? := atI_ge (by decide)
theorem mulOk_l {i j : Int} (h1 : -(2 ^ 64) < i) (h2 : i < 2 ^ 64) : mulOk i j = true := by simp only [mulOk, Bool.or_eq_true, Bool.and_eq_true, decide_eq_true_eq]; exact .inl (.inl ⟨h1, h2⟩)
theorem mulOk_r {i j : Int} (h1 : -(2 ^ 64) < j) (h2 : j < 2 ^ 64) : mulOk i j = true := by simp only [mulOk, Bool.or_eq_true, Bool.and_eq_true, decide_eq_true_eq]; exact .inl (.inr ⟨h1, h2⟩)
theorem inR_of {i : Int} (h1 : -(2 ^ 62) ≤ i) (h2 : i < 2 ^ 62) : inR i = true := inR_iff.mpr ⟨h1, h2⟩
theorem loop_inv {g : MG} {b : MS} (I : Nat → Env → Prop) : ∀ (xs : List MV) (k : Nat) (ρ : Env), I k ρ → (∀ i x ρ, xs[i]? = some x → I (k + i) ρ → ∃ ρ1 ρ2, g x ρ = some ρ1 ∧ (b ρ1 = .ok (.nx, ρ2) ∨ b ρ1 = .ok (.ct, ρ2)) ∧ I (k + i + 1) ρ2) → ∃ ρ', mLoop g b xs ρ = .ok (.nx, ρ') ∧ I (k + xs.length) ρ'
  | [], k, ρ, h, _ => ⟨ρ, rfl, h⟩
  | x :: xs, k, ρ, h, hs => by
    obtain ⟨ρ1, ρ2, e1, e2, h2⟩ := hs 0 x ρ rfl h
    obtain ⟨ρ', e3, h3⟩ := loop_inv I xs (k + 1) ρ2 h2 (fun i y ρ hy hi => by
      have := hs (i + 1) y ρ (by simpa using hy) (by rw [show k + (i + 1) = k + 1 + i by omega]; exact hi)
      rw [show k + 1 + i + 1 = k + (i + 1) + 1 by omega]
      exact this)
    refine ⟨ρ', ?_, by rw [List.length_cons, show k + (xs.length + 1) = k + 1 + xs.length by omega]; exact h3⟩
    unfold mLoop
    rw [e1]
    rcases e2 with e2 | e2 <;> (simp only [e2, bind_ok]; exact e3)
theorem loop_rng {g : MG} {b : MS} {lo c : Int} {n : Nat} {ρ : Env} (I : Nat → Env → Prop) (h0 : I 0 ρ) (hs : ∀ i ρ, i < n → I i ρ → ∃ ρ1 ρ2, g (.int (lo + (i : Nat) * c)) ρ = some ρ1 ∧ (b ρ1 = .ok (.nx, ρ2) ∨ b ρ1 = .ok (.ct, ρ2)) ∧ I (i + 1) ρ2) :
    ∃ ρ', mLoop g b (rngM lo c n) ρ = .ok (.nx, ρ') ∧ I n ρ' := by
  obtain ⟨ρ', e, h⟩ := loop_inv I (rngM lo c n) 0 ρ h0 fun i x ρ hx hi => by
    have li := lt_get hx
    rw [rngM_len] at li
    rw [rngM_get li] at hx
    cases hx
    have := hs i ρ li (by simpa using hi)
    simpa using this
  rw [rngM_len, Nat.zero_add] at h
  exact ⟨ρ', e, h⟩
theorem loop_nxr {g : MG} {b : MS} {lo c : Int} {n : Nat} {ρ : Env} (I : Nat → Env → Prop) (h0 : I 0 ρ) (hs : ∀ i ρ, i < n → I i ρ → ∃ ρ1, g (.int (lo + (i : Nat) * c)) ρ = some ρ1 ∧ ∃ ρ2, b ρ1 = .ok (.nx, ρ2) ∧ I (i + 1) ρ2) :
    ∃ ρ', mLoop g b (rngM lo c n) ρ = .ok (.nx, ρ') ∧ I n ρ' := by
  refine loop_rng I h0 fun i ρ hi h => ?_
  obtain ⟨ρ1, e, ρ2, e2, h⟩ := hs i ρ hi h
  exact ⟨ρ1, ρ2, e, .inl e2, h⟩
def okD : Nat → MV → Bool
  | _, .non => true
  | _, .bl _ => true
  | _, .int _ => true
  | _, .str x => (PyData.str x).canLay0
  | n + 1, .tup xs => xs.all (okD n)
  | n + 1, .lst xs => xs.all (okD n)
  | _, _ => false
theorem okDs_to {n : Nat} (ih : ∀ x, okD n x = true → ∃ d, toD x = some d ∧ d.canLay0 = true ∧ d.depth ≤ n) : ∀ xs : List MV, xs.all (okD n) = true → ∃ ds, toDs xs = some ds ∧ PyData.canLayAll0 ds = true ∧ PyData.depthAll ds ≤ n
  | [], _ => ⟨[], rfl, by simp [PyData.canLayAll0], by simp [PyData.depthAll]⟩
  | x :: xs, h => by
    simp only [List.all_cons, Bool.and_eq_true] at h
    obtain ⟨d, e, c, p⟩ := ih x h.1
    obtain ⟨ds, es, cs, ps⟩ := okDs_to ih xs h.2
    refine ⟨d :: ds, by simp [toDs, e, es], by simp [PyData.canLayAll0, c, cs], by simp only [PyData.depthAll]; omega⟩
theorem okD_to : ∀ (n : Nat) (x : MV), okD n x = true → ∃ d, toD x = some d ∧ d.canLay0 = true ∧ d.depth ≤ n
  | n, .non, _ => ⟨_, rfl, rfl, by simp [PyData.depth]⟩
  | n, .bl _, _ => ⟨_, rfl, rfl, by simp [PyData.depth]⟩
  | n, .int _, _ => ⟨_, rfl, rfl, by simp [PyData.depth]⟩
  | n, .str x, h => ⟨.str x, rfl, by cases n <;> exact h, by simp [PyData.depth]⟩
  | 0, .tup _, h => by simp [okD] at h
  | 0, .lst _, h => by simp [okD] at h
  | n + 1, .tup xs, h => by
    obtain ⟨ds, e, c, p⟩ := okDs_to (okD_to n) xs h
    exact ⟨.tuple ds, by simp [toD, e], by simpa [PyData.canLay0] using c, by simp only [PyData.depth]; omega⟩
  | n + 1, .lst xs, h => by
    obtain ⟨ds, e, c, p⟩ := okDs_to (okD_to n) xs h
    exact ⟨.list ds, by simp [toD, e], by simpa [PyData.canLay0] using c, by simp only [PyData.depth]; omega⟩
  | n, .own _, h => by cases n <;> simp [okD] at h
  | n, .raw _, h => by cases n <;> simp [okD] at h
  | n, .scr _, h => by cases n <;> simp [okD] at h
  | n, .fnc _, h => by cases n <;> simp [okD] at h
  | n, .obj _ _, h => by cases n <;> simp [okD] at h
  | n, .dct _ _, h => by cases n <;> simp [okD] at h
  | n, .dow _ _, h => by cases n <;> simp [okD] at h
  | n, .dot _ _, h => by cases n <;> simp [okD] at h
theorem eqM_self {n : Nat} {x : MV} (hn : n ≤ 64) (h : okD n x = true) : eqM x x = some true := by
  unfold eqM
  by_cases hs : scalM x x = true
  · rw [if_pos hs]
    cases x <;> simp_all [scalM, sameM]
  · rw [if_neg hs]
    obtain ⟨d, e, c, p⟩ := okD_to n x h
    have hd : SeqAt.shaped d = true := by
      unfold SeqAt.shaped
      rw [c]
      simp
      omega
    rw [e]
    simp only [hd, Bool.and_self, if_true]
    rw [SeqAt.eqv_refl d c]
@[simp] theorem fEq_tt {xs : List MV} (h : xs.all (okD 20) = true) : fEq (.tup xs) (.tup xs) = some (.bl true) := by unfold fEq; rw [eqM_self (n := 21) (by decide) (x := .tup xs) h]; rfl
@[simp] theorem fNe_tt {xs : List MV} (h : xs.all (okD 20) = true) : fNe (.tup xs) (.tup xs) = some (.bl false) := by unfold fNe; rw [eqM_self (n := 21) (by decide) (x := .tup xs) h]; rfl
@[simp] theorem fEq_lle {xs : List MV} (h : xs.all (okD 20) = true) : fEq (.lst xs) (.lst xs) = some (.bl true) := by unfold fEq; rw [eqM_self (n := 21) (by decide) (x := .lst xs) h]; rfl
@[simp] theorem fNe_lle {xs : List MV} (h : xs.all (okD 20) = true) : fNe (.lst xs) (.lst xs) = some (.bl false) := by unfold fNe; rw [eqM_self (n := 21) (by decide) (x := .lst xs) h]; rfl
@[simp] theorem okD_i {n : Nat} {i : Int} : okD n (.int i) = true := by cases n <;> rfl
@[simp] theorem okD_b {n : Nat} {i : Bool} : okD n (.bl i) = true := by cases n <;> rfl
@[simp] theorem okD_n {n : Nat} : okD n .non = true := by cases n <;> rfl
@[simp] theorem fSl_t {xs : List MV} {lo hi : Option Int} : fSl (.tup xs) lo hi = some (.tup (cutM xs lo hi)) := nr rfl
@[simp] theorem fSl_l {xs : List MV} {lo hi : Option Int} : fSl (.lst xs) lo hi = some (.lst (cutM xs lo hi)) := nr rfl
@[simp] theorem cutM_none {xs : List MV} : cutM xs none none = xs := by simp [cutM, HT.sIx]
end Tm
set_option Elab.async false
set_option linter.all false
set_option maxRecDepth 100000
set_option maxHeartbeats 2000000
namespace Tm
open PySem L2
@[simp] theorem mRevA_ap {a : ME} {r : Option MV} {ρ : Env} : mRevA a (r :: ρ) = (a (r :: ρ)).bind fun x ρ1 => match fRevA x with | some z => .ok (z, ρ1) | none => .stuck := nr rfl
@[simp] theorem fRevA_l {a : List MV} : fRevA (.lst a) = some (.lst a.reverse) := nr rfl
@[simp] theorem fRevA_t {a : List MV} : fRevA (.tup a) = some (.tup a.reverse) := nr rfl
theorem mFn_ok {n : Nat} {m : MS} {xs : List MV} {v : MV} (h : ∃ ρ, m (xs.map some ++ List.replicate (n - xs.length) none) = .ok (.rt v, ρ)) : mFn n [] m xs = .ok (v, []) := by
  obtain ⟨ρ, h⟩ := h
  unfold mFn; rw [h]; rfl
theorem fmod_lt' {a b : Int} (h : 0 < b) : a.fmod b < b := Int.fmod_lt_of_pos a h
theorem fmod_ge' {a b : Int} (h : 0 < b) : 0 ≤ a.fmod b := Int.fmod_nonneg_of_pos a h
theorem nat_fmod (a b : Nat) : (a : Int).fmod (b : Int) = ((a % b : Nat) : Int) := by rw [Int.fmod_eq_emod_of_nonneg _ (Int.natCast_nonneg b)]; exact (Int.natCast_emod a b).symm
theorem nat_fdiv (a b : Nat) : (a : Int).fdiv (b : Int) = ((a / b : Nat) : Int) := by rw [Int.fdiv_eq_ediv_of_nonneg _ (Int.natCast_nonneg b)]; exact (Int.natCast_ediv a b).symm
theorem back_wipe : ∀ (vs : List Nat) (ρ ρ' : Env), ρ.length = ρ'.length → (∀ j, j ∉ vs → ρ'[j]? = ρ[j]?) → backM ρ ρ' vs = ρ := by
  have key : ∀ (vs : List Nat) (ρ ρ' : Env) (j : Nat), ρ.length = ρ'.length → (backM ρ ρ' vs)[j]? = if j ∈ vs then ρ[j]? else ρ'[j]? := by
    intro vs
    induction vs with
    | nil => intro ρ ρ' j hl; simp [backM]
    | cons v vs ih =>
      intro ρ ρ' j hl
      show (backM ρ (ρ'.set v ((ρ[v]?).join)) vs)[j]? = _
      rw [ih ρ _ j (by simp [hl])]
      by_cases e : j ∈ vs
      · simp [e]
      · by_cases e2 : j = v
        · subst e2
          by_cases hlt : j < ρ'.length
          · simp [e, List.getElem?_set_self hlt, show j < ρ.length by omega]
          · simp [e, List.getElem?_eq_none (show ρ'.length ≤ j by omega), List.getElem?_eq_none (show ρ.length ≤ j by omega)]
            omega
        · simp [e, e2, List.getElem?_set_ne (Ne.symm e2)]
  intro vs ρ ρ' hl h
  apply List.ext_getElem?
  intro j
  rw [key vs ρ ρ' j hl]
  by_cases e : j ∈ vs
  · simp [e]
  · simp [e, h j e]
theorem wipe_other {ρ ρ' : Env} {vs : List Nat} (hl : ρ.length = ρ'.length) (h : wipeM ρ' vs = wipeM ρ vs) : ∀ j, j ∉ vs → ρ'[j]? = ρ[j]? := by
  intro j hj
  have h1 := wipeM_get ρ vs j
  have h2 := wipeM_get ρ' vs j
  rw [if_neg (by simp [hj])] at h1 h2
  rw [← h1, ← h2, h]
theorem lc_map {g : Tgt} {e : ME} {vs : List Nat} {W : Env} (y : MV → MV) : ∀ (xs acc : List MV) (ρ : Env), (∀ x ∈ xs, ∃ ρ1, setT g x W = some ρ1 ∧ e ρ1 = .ok (y x, ρ1) ∧ wipeM ρ1 vs = W ∧ ρ1.length = W.length) → wipeM ρ vs = W → ρ.length = W.length → acc.length + xs.length ≤ sizeLine →
    ∃ ρ', mLcLoop g mYes e vs xs acc ρ = .ok (acc ++ xs.map y, ρ') ∧ wipeM ρ' vs = W ∧ ρ'.length = W.length
  | [], acc, ρ, _, hw, hl, _ => ⟨ρ, by simp [mLcLoop], hw, hl⟩
  | x :: xs, acc, ρ, h, hw, hl, hz => by
    obtain ⟨ρ1, e1, e2, e3, e4⟩ := h x (List.mem_cons_self ..)
    rw [List.length_cons] at hz
    obtain ⟨ρ', r1, r2, r3⟩ := lc_map (g := g) (e := e) (vs := vs) y xs (acc ++ [y x]) ρ1 (fun z hz => h z (List.mem_cons_of_mem _ hz)) e3 e4 (by rw [List.length_append, List.length_singleton]; omega)
    refine ⟨ρ', ?_, r2, r3⟩
    unfold mLcLoop
    rw [hw, e1]
    simp only [mYes, b0_ok, if_true, e2]
    rw [if_pos ⟨by omega, by rw [e4, hl]⟩, r1]
    simp
theorem mLcO_map {it : MI} {g : Tgt} {e : ME} {vs : List Nat} {ρ ρ1 : Env} {xs : List MV} (y : MV → MV) (hi : it ρ = .ok (xs, ρ1)) (hp : perAt ρ1 vs = true) (hx : ∀ x ∈ xs, ∃ ρ2, setT g x (wipeM ρ1 vs) = some ρ2 ∧ e ρ2 = .ok (y x, ρ2) ∧ wipeM ρ2 vs = wipeM ρ1 vs ∧ ρ2.length = ρ1.length) (hz : xs.length ≤ sizeLine) :
    mLcO it g mYes e vs ρ = .ok (.own (xs.map y), ρ1) := by
  obtain ⟨ρ', r1, r2, r3⟩ := lc_map (g := g) (e := e) (vs := vs) (W := wipeM ρ1 vs) y xs [] ρ1 (fun x h => by
    obtain ⟨ρ2, a, b, c, d⟩ := hx x h
    exact ⟨ρ2, a, b, c, by rw [d, wipeM_len]⟩) rfl (wipeM_len ..).symm (by simpa using hz)
  unfold mLcO
  rw [hi, bind_ok, if_pos hp, r1]
  simp only [b0_ok, List.nil_append]
  rw [back_wipe vs ρ1 ρ' (by rw [r3, wipeM_len]) (wipe_other (by rw [r3, wipeM_len]) r2)]
def digs : Nat → Nat → List Nat
  | 0, _ => []
  | k + 1, n => n % 10 :: digs k (n / 10)
def digsB (k n : Nat) : List Nat := (digs k n).reverse
theorem digs_len : ∀ k n, (digs k n).length = k
  | 0, _ => rfl
  | k + 1, n => by simp [digs, digs_len k]
theorem digsB_len (k n : Nat) : (digsB k n).length = k := by simp [digsB, digs_len]
theorem digs_lt : ∀ k n, ∀ d ∈ digs k n, d < 10
  | 0, _, d, h => by simp [digs] at h
  | k + 1, n, d, h => by
    simp only [digs, List.mem_cons] at h
    rcases h with rfl | h
    · exact Nat.mod_lt _ (by decide)
    · exact digs_lt k _ d h
theorem digsB_lt {k n d : Nat} (h : d ∈ digsB k n) : d < 10 := digs_lt k n d (by simpa [digsB] using h)
theorem digsB_step (k n : Nat) : digsB (k + 1) n = digsB k (n / 10) ++ [n % 10] := by simp [digsB, digs]
theorem digs_append : ∀ (k n : Nat), digs (k + 1) n = digs k n ++ [n / 10 ^ k % 10]
  | 0, n => by simp [digs]
  | k + 1, n => by
    rw [digs, digs_append k (n / 10)]
    show _ = (n % 10 :: digs k (n / 10)) ++ _
    rw [List.cons_append, Nat.div_div_eq_div_mul, Nat.pow_succ, Nat.mul_comm (10 ^ k) 10]
theorem loop_jx {σ β α : Type} {g : MG} {b : MS} (env : σ → β → Env) (item : α → MV) (f : σ → α → σ) (I : Nat → σ → Prop) : ∀ (xs : List α) (k : Nat) (s : σ) (z : β), I k s → (∀ i s z x, x ∈ xs → I i s → i < k + xs.length → (∃ ρ1, g (item x) (env s z) = some ρ1 ∧ ∃ z', b ρ1 = .ok (.nx, env (f s x) z')) ∧ I (i + 1) (f s x)) →
    (∃ z', mLoop g b (xs.map item) (env s z) = .ok (.nx, env (xs.foldl f s) z')) ∧ I (k + xs.length) (xs.foldl f s)
  | [], k, s, z, h, _ => ⟨⟨z, rfl⟩, h⟩
  | x :: xs, k, s, z, h, hs => by
    obtain ⟨⟨ρ1, e1, z', e2⟩, h2⟩ := hs k s z x (List.mem_cons_self ..) h (by simp)
    have := loop_jx (g := g) (b := b) env item f I xs (k + 1) (f s x) z' h2 (fun i s z y hy hi hl => hs i s z y (List.mem_cons_of_mem _ hy) hi (by simp; omega))
    rw [List.map_cons, List.foldl_cons, List.length_cons, show k + (xs.length + 1) = k + 1 + xs.length by omega]
    obtain ⟨⟨z2, e3⟩, h3⟩ := this
    refine ⟨⟨z2, ?_⟩, h3⟩
    unfold mLoop
    rw [e1]
    simp only [e2, bind_ok]
    exact e3
theorem loop_junk {σ β α : Type} {g : MG} {b : MS} (env : σ → β → Env) (item : α → MV) (f : σ → α → σ) (I : Nat → σ → Prop) (xs : List α) (s : σ) (z : β) (h0 : I 0 s)
    (hs : ∀ i s z x, x ∈ xs → I i s → i < xs.length → I (i + 1) (f s x) ∧ ∃ ρ1, g (item x) (env s z) = some ρ1 ∧ ∃ z', b ρ1 = .ok (.nx, env (f s x) z')) :
    (∃ z', mLoop g b (xs.map item) (env s z) = .ok (.nx, env (xs.foldl f s) z')) ∧ I xs.length (xs.foldl f s) := by
  have := loop_jx (g := g) (b := b) env item f I xs 0 s z h0 (fun i s z x hx hi hl => ⟨(hs i s z x hx hi (by simpa using hl)).2, (hs i s z x hx hi (by simpa using hl)).1⟩)
  rw [Nat.zero_add] at this
  exact this
end Tm
set_option Elab.async false
set_option linter.all false
set_option maxRecDepth 100000
set_option maxHeartbeats 2000000
namespace Tm
open PySem L2
section
variable {α β : Type} {ρ : Env} {r : Option MV} {x f g y : Str} {a b : ME}
@[simp] theorem mRaise0_ap : mRaise0 x (r :: ρ) = .exc ⟨x, []⟩ (r :: ρ) := nr rfl
@[simp] theorem mRaise1_ap : mRaise1 x f a (r :: ρ) = (a (r :: ρ)).bind fun y ρ1 => .exc ⟨x, [(f, y)]⟩ ρ1 := nr rfl
@[simp] theorem mRaise2_ap : mRaise2 x f g a b (r :: ρ) = (a (r :: ρ)).bind fun y ρ1 => (b ρ1).bind fun z ρ2 => .exc ⟨x, [(g, z), (f, y)]⟩ ρ2 := nr rfl
variable {i : Nat} {tab : List (Str × Bool)} {mb : MS} {mh : MX → MS} {e : MX} {q : Fl × Env}
theorem mFn_exc {n : Nat} {m : MS} {xs : List MV} {e : MX} (h : ∃ ρ, m (xs.map some ++ List.replicate (n - xs.length) none) = .exc e ρ) : mFn n [] m xs = .exc e [] := by
  obtain ⟨ρ, h⟩ := h
  unfold mFn; rw [h]; rfl
end
section
variable {i : Int} {b b' : Bool} {x y : Str}
@[simp] theorem fEq_nn : fEq .non .non = some (.bl true) := nr rfl
@[simp] theorem fNe_nn : fNe .non .non = some (.bl false) := nr rfl
@[simp] theorem fEq_ni : fEq .non (.int i) = some (.bl false) := nr rfl
@[simp] theorem fEq_in : fEq (.int i) .non = some (.bl false) := nr rfl
@[simp] theorem fNe_ni : fNe .non (.int i) = some (.bl true) := nr rfl
@[simp] theorem fNe_in : fNe (.int i) .non = some (.bl true) := nr rfl
@[simp] theorem fEq_ns : fEq .non (.str x) = some (.bl false) := nr rfl
@[simp] theorem fEq_sn : fEq (.str x) .non = some (.bl false) := nr rfl
@[simp] theorem fNe_ns : fNe .non (.str x) = some (.bl true) := nr rfl
@[simp] theorem fNe_sn : fNe (.str x) .non = some (.bl true) := nr rfl
@[simp] theorem fEq_bb : fEq (.bl b) (.bl b') = some (.bl (decide (b = b'))) := nr rfl
@[simp] theorem fNe_bb : fNe (.bl b) (.bl b') = some (.bl (!decide (b = b'))) := nr rfl
@[simp] theorem fEq_is : fEq (.int i) (.str x) = some (.bl false) := nr rfl
@[simp] theorem fEq_si : fEq (.str x) (.int i) = some (.bl false) := nr rfl
@[simp] theorem fNotN_n : fNotN .non .non = some (.bl false) := nr rfl
@[simp] theorem fNotN_i : fNotN (.int i) .non = some (.bl true) := nr rfl
@[simp] theorem fNotN_s : fNotN (.str x) .non = some (.bl true) := nr rfl
@[simp] theorem fNotN_t {xs : List MV} : fNotN (.tup xs) .non = some (.bl true) := nr rfl
@[simp] theorem fNotN_b : fNotN (.bl b) .non = some (.bl true) := nr rfl
end
theorem tl_app (a b : Str) : (a ++ b).cps.toList = a.cps.toList ++ b.cps.toList := TL.tl_append a b
theorem len_app (a b : Str) : (a ++ b).length = a.length + b.length := by
  rw [TL.len_tl, TL.len_tl, TL.len_tl, TL.tl_append, List.length_append]
theorem len_cut {z : Str} {lo hi : Option Int} : (cutS z lo hi).length ≤ z.length := by
  rw [TL.len_tl, TL.len_tl]
  show (List.take _ (List.drop _ z.cps.toList)).length ≤ z.cps.toList.length
  rw [List.length_take, List.length_drop]
  omega
@[simp] theorem fIx_s {z : Str} {i : Int} : fIx (.str z) (.int i) = if szOk z.length then (atI z.cps.toList i).map fun c => MV.str ⟨#[c]⟩ else none := nr rfl
@[simp] theorem fSl_s {z : Str} {lo hi : Option Int} : fSl (.str z) lo hi = if szOk z.length then some (.str (cutS z lo hi)) else none := nr rfl
@[simp] theorem bLen_s {z : Str} : bLen [.str z] = if szOk z.length then some (.int z.length) else none := nr rfl
theorem fMul_l {a : List MV} {k : Int} (h : 0 ≤ k) (h2 : k < 2 ^ 63) (h3 : szOk (a.length * k.toNat) = true) : fMul (.lst a) (.int k) = some (.lst (List.replicate k.toNat a).flatten) := by
  show (if (decide (-(2 ^ 63) ≤ k) && decide (k < 2 ^ 63) && szOk (a.length * k.toNat)) = true then some (MV.lst (List.replicate k.toNat a).flatten) else none) = _
  rw [if_pos]
  simp only [h2, h3, decide_true, Bool.and_true, decide_eq_true_eq]
  omega
theorem rep_one {α : Type} (x : α) (k : Nat) : (List.replicate k [x]).flatten = List.replicate k x := by
  induction k with
  | zero => rfl
  | succ k ih => rw [List.replicate_succ, List.flatten_cons, ih]; rfl
theorem fMul_1 {x : MV} {k : Nat} (h : k < 1000000) : fMul (.lst [x]) (.int (k : Nat)) = some (.lst (List.replicate k x)) := by
  rw [fMul_l (by omega) (by omega) (szOk_small (by simp; omega))]
  show some (MV.lst (List.replicate k [x]).flatten) = _
  rw [rep_one]
@[simp] theorem fMul_10 {x : MV} : fMul (.lst [x]) (.int 0) = some (.lst []) := fMul_1 (k := 0) (by decide)
@[simp] theorem fMul_11 {x : MV} : fMul (.lst [x]) (.int 1) = some (.lst [x]) := fMul_1 (k := 1) (by decide)
@[simp] theorem mOpO_ap {f : MV → MV → Option (List MV)} {a b : ME} {r : Option MV} {ρ : Env} : mOpO f a b (r :: ρ) = (a (r :: ρ)).bind fun x ρ1 => (b ρ1).bind fun y ρ2 => match f x y with | some zs => .ok (.own zs, ρ2) | none => .stuck := nr rfl
theorem fMultL_l {a : List MV} {k : Int} (h : 0 ≤ k) (h2 : k < 2 ^ 63) (h3 : szOk (a.length * k.toNat) = true) : fMultL (.lst a) (.int k) = some (List.replicate k.toNat a).flatten := by
  show (if (decide (-(2 ^ 63) ≤ k) && decide (k < 2 ^ 63) && szOk (a.length * k.toNat)) = true then some (List.replicate k.toNat a).flatten else none) = _
  rw [if_pos]
  simp only [h2, h3, decide_true, Bool.and_true, decide_eq_true_eq]
  omega
end Tm
set_option Elab.async false
set_option linter.all false
set_option maxRecDepth 100000
set_option maxHeartbeats 2000000
namespace Tm
open PySem L2
theorem lc_filt {g : Tgt} {t : MT} {e : ME} {vs : List Nat} {W : Env} (p : MV → Bool) (y : MV → MV) : ∀ (xs acc : List MV) (ρ : Env), (∀ x ∈ xs, ∃ ρ1, setT g x W = some ρ1 ∧ t ρ1 = .ok (p x, ρ1) ∧ (p x = true → e ρ1 = .ok (y x, ρ1)) ∧ wipeM ρ1 vs = W ∧ ρ1.length = W.length) → wipeM ρ vs = W → ρ.length = W.length → acc.length + xs.length ≤ sizeLine →
    ∃ ρ', mLcLoop g t e vs xs acc ρ = .ok (acc ++ (xs.filter p).map y, ρ') ∧ wipeM ρ' vs = W ∧ ρ'.length = W.length
  | [], acc, ρ, _, hw, hl, _ => ⟨ρ, by simp [mLcLoop], hw, hl⟩
  | x :: xs, acc, ρ, h, hw, hl, hz => by
    obtain ⟨ρ1, e1, et, e2, e3, e4⟩ := h x (List.mem_cons_self ..)
    rw [List.length_cons] at hz
    cases hp : p x with
    | true =>
      obtain ⟨ρ', r1, r2, r3⟩ := lc_filt (g := g) (t := t) (e := e) (vs := vs) p y xs (acc ++ [y x]) ρ1 (fun z hz => h z (List.mem_cons_of_mem _ hz)) e3 e4 (by rw [List.length_append, List.length_singleton]; omega)
      refine ⟨ρ', ?_, r2, r3⟩
      unfold mLcLoop
      rw [hw, e1]
      simp only [et, hp, b0_ok, if_true, e2 hp]
      rw [if_pos ⟨by omega, by rw [e4, hl]⟩, r1, List.filter_cons_of_pos hp]
      simp
    | false =>
      obtain ⟨ρ', r1, r2, r3⟩ := lc_filt (g := g) (t := t) (e := e) (vs := vs) p y xs acc ρ1 (fun z hz => h z (List.mem_cons_of_mem _ hz)) e3 e4 (by omega)
      refine ⟨ρ', ?_, r2, r3⟩
      unfold mLcLoop
      rw [hw, e1]
      simp only [et, hp, b0_ok, Bool.false_eq_true, if_false]
      rw [if_pos (by rw [e4, hl]), r1, List.filter_cons_of_neg (by simp [hp])]
theorem mLcO_filt {it : MI} {g : Tgt} {t : MT} {e : ME} {vs : List Nat} {ρ ρ1 : Env} {xs : List MV} (p : MV → Bool) (y : MV → MV) (hi : it ρ = .ok (xs, ρ1)) (hp : perAt ρ1 vs = true) (hx : ∀ x ∈ xs, ∃ ρ2, setT g x (wipeM ρ1 vs) = some ρ2 ∧ t ρ2 = .ok (p x, ρ2) ∧ (p x = true → e ρ2 = .ok (y x, ρ2)) ∧ wipeM ρ2 vs = wipeM ρ1 vs ∧ ρ2.length = ρ1.length) (hz : xs.length ≤ sizeLine) :
    mLcO it g t e vs ρ = .ok (.own ((xs.filter p).map y), ρ1) := by
  obtain ⟨ρ', r1, r2, r3⟩ := lc_filt (g := g) (t := t) (e := e) (vs := vs) (W := wipeM ρ1 vs) p y xs [] ρ1 (fun x h => by
    obtain ⟨ρ2, a, b, c, d, f⟩ := hx x h
    exact ⟨ρ2, a, b, c, d, by rw [f, wipeM_len]⟩) rfl (wipeM_len ..).symm (by simpa using hz)
  unfold mLcO
  rw [hi, bind_ok, if_pos hp, r1]
  simp only [b0_ok, List.nil_append]
  rw [back_wipe vs ρ1 ρ' (by rw [r3, wipeM_len]) (wipe_other (by rw [r3, wipeM_len]) r2)]
theorem set_none {ρ : Env} {v : Nat} (hv : ρ[v]? = some none) : ρ.set v none = ρ := by
  apply List.ext_getElem?
  intro j
  by_cases e : v = j
  · subst e; rw [List.getElem?_set_self (lt_get hv), hv]
  · rw [List.getElem?_set_ne e]
theorem mLcO_nmf {it : MI} {t : MT} {e : ME} {v : Nat} {ρ : Env} {xs : List MV} (p : MV → Bool) (y : MV → MV) (hi : it ρ = .ok (xs, ρ)) (hv : ρ[v]? = some none) (ht : ∀ x ∈ xs, t (ρ.set v (some x)) = .ok (p x, ρ.set v (some x))) (he : ∀ x ∈ xs, p x = true → e (ρ.set v (some x)) = .ok (y x, ρ.set v (some x))) (hz : xs.length ≤ sizeLine) :
    mLcO it (.nm v) t e [v] ρ = .ok (.own ((xs.filter p).map y), ρ) := by
  have lv := lt_get hv
  have w : wipeM ρ [v] = ρ := set_none hv
  refine mLcO_filt p y hi (by simp [perAt, hv]) (fun x hx => ?_) hz
  rw [w]
  refine ⟨ρ.set v (some x), by simp [setT, lv], ht x hx, he x hx, ?_, by simp⟩
  show (ρ.set v (some x)).set v none = ρ
  rw [List.set_set]
  exact w
theorem mLcO_nm {it : MI} {e : ME} {v : Nat} {ρ : Env} {xs : List MV} (y : MV → MV) (hi : it ρ = .ok (xs, ρ)) (hv : ρ[v]? = some none) (he : ∀ x ∈ xs, e (ρ.set v (some x)) = .ok (y x, ρ.set v (some x))) (hz : xs.length ≤ sizeLine) :
    mLcO it (.nm v) mYes e [v] ρ = .ok (.own (xs.map y), ρ) := by
  have := mLcO_nmf (t := mYes) (fun _ => true) y hi hv (fun _ _ => rfl) (fun x hx _ => he x hx) hz
  rwa [List.filter_eq_self.mpr (fun _ _ => rfl)] at this
section
variable {α β : Type} {a b : ME} {m : MA} {ρ : Env} {r : Option MV}
@[simp] theorem mSm_ap {f : Str → List MV → Option MV} : mSm f a m (r :: ρ) = (a (r :: ρ)).bind fun x ρ1 => match x with | .str z => (m ρ1).bind (smE f z) | _ => .stuck := nr rfl
theorem smE_ok {f : Str → List MV → Option MV} {z : Str} {ys : List MV} {w : MV} (h : f z ys = some w) : smE f z ys ρ = .ok (w, ρ) := by unfold smE; rw [h]
@[simp] theorem mLx_ap {f : List MV → List MV → Option MV} : mLx f a m (r :: ρ) = (a (r :: ρ)).bind fun x ρ1 => match x with
  | .lst xs => (m ρ1).bind fun ys ρ2 => (match f xs ys with | some w => .ok (w, ρ2) | none => .stuck)
  | _ => .stuck := nr rfl
end
theorem strsOf_map : ∀ ss : List Str, strsOf (ss.map MV.str) = some ss
  | [] => rfl
  | s :: ss => by
    show (match strsOf (ss.map MV.str) with | some l => some (s :: l) | none => none) = _
    rw [strsOf_map ss]
theorem lxIndex_map {ss : List Str} {b : Str} {j : Nat} (h : ss.findIdx? (fun s => decide (s = b)) = some j) : lxIndex (ss.map MV.str) [.str b] = some (.int j) := by
  show (match strsOf (ss.map MV.str) with
    | some ss => (match ss.findIdx? (fun s => decide (s = b)) with | some j => some (MV.int (j : Nat)) | none => none)
    | none => none) = _
  rw [strsOf_map]
  simp only [h]
@[simp] theorem fMul_s {a : Str} {k : Int} : fMul (.str a) (.int k) = if decide (-(2 ^ 63) ≤ k) && decide (k < 2 ^ 63) && szOk (a.length * k.toNat) then some (.str (repS a k)) else none := nr rfl
theorem fMul_tup {a : List MV} {k : Int} : fMul (.tup a) (.int k) = if (decide (-(2 ^ 63) ≤ k) && decide (k < 2 ^ 63) && (decide (k = 1) || a.isEmpty || (decide (2 ≤ k) && decide (k ≤ 1000) && decide (a.length ≤ 1000)))) = true then some (.tup (List.replicate k.toNat a).flatten) else none := rfl
@[simp] theorem fMul_t1 {a : List MV} : fMul (.tup a) (.int 1) = some (.tup a) := by
  rw [fMul_tup, if_pos (by simp)]
  simp
end Tm
set_option Elab.async false
set_option linter.all false
set_option maxRecDepth 100000
set_option maxHeartbeats 2000000
namespace Tm
open PySem L2
section
variable {ρ : Env} {r : Option MV}
@[simp] theorem cbE_ap {f : MF} {args : List BA} : cbE f args (r :: ρ) = match fill args (r :: ρ) with
  | some xs => (match f xs with | .ok (v, os) => .ok (v, back (r :: ρ) (idxB args) os) | .exc e os => .exc e (back (r :: ρ) (idxB args) os) | .stuck => .stuck)
  | none => .stuck := nr rfl
@[simp] theorem fill_nil {ρ : Env} : fill [] ρ = some [] := nr rfl
@[simp] theorem fill_v {ρ : Env} {x : MV} {s : List BA} : fill (.v x :: s) ρ = match fill s ρ with | some xs => some (x :: xs) | none => none := nr rfl
@[simp] theorem fill_b {ρ : Env} {i : Nat} {s : List BA} : fill (.b i :: s) ρ = match ρ[i]?, fill s ρ with | some (some x), some xs => if x.held then some (x :: xs) else none | _, _ => none := nr rfl
@[simp] theorem idxB_nil : idxB [] = [] := nr rfl
@[simp] theorem idxB_v {x : MV} {s : List BA} : idxB (.v x :: s) = idxB s := nr rfl
@[simp] theorem idxB_b {i : Nat} {s : List BA} : idxB (.b i :: s) = i :: idxB s := nr rfl
@[simp] theorem back_nil {ρ os : Env} : back ρ [] os = ρ := nr rfl
@[simp] theorem back_cons {ρ os : Env} {i : Nat} {is : List Nat} {o : Option MV} : back ρ (i :: is) (o :: os) = back (ρ.set i o) is os := nr rfl
@[simp] theorem held_own {xs : List MV} : (MV.own xs).held = true := nr rfl
@[simp] theorem held_obj {C : Str} {fs : List (Str × MV)} : (MV.obj C fs).held = true := nr rfl
end
theorem char_list_inj : ∀ {a b : List Char}, a.map Char.toNat = b.map Char.toNat → a = b
  | [], [], _ => rfl
  | [], _ :: _, h => by simp at h
  | _ :: _, [], h => by simp at h
  | c :: a, d :: b, h => by
    simp only [List.map_cons, List.cons.injEq] at h
    have e : c = d := by rw [← Char.ofNat_toNat c, ← Char.ofNat_toNat d, h.1]
    rw [e, char_list_inj h.2]
@[simp] theorem str_inj {a b : String} : (Str.ofString a = Str.ofString b) = (a = b) := by
  refine propext ⟨fun h => ?_, fun h => by rw [h]⟩
  rw [Str.ofString_eq_toList, Str.ofString_eq_toList] at h
  have h2 := congrArg (fun z : Str => z.cps.toList) h
  simp only at h2
  exact String.toList_inj.mp (char_list_inj h2)
end Tm
set_option Elab.async false
set_option linter.all false
set_option maxRecDepth 100000
set_option maxHeartbeats 2000000
namespace Tm
open PySem L2 PySem.Spec PyProof.Rows HotX
def HotS (X : Cx) : Prop := ∀ (pins : List (Addr × Obj)) (σ : L2.St) (H : Hp) (s : Shared), Inv X pins σ H s → ∃ x1, HotAt X.A x1 s.heap
structure TurnS (P : Program) (w : World) (K : PySem.W.Frag) (tg : Expr) (J : It) (it : Addr) (tn : Nat → Heap → Prop) : Prop where
  obj : ∀ i h, tn i h → ∃ o, h.get? it = some o ∧ ∀ v, o.data ≠ .cell v
  keep : ∀ i h h', tn i h → (∀ o, h.get? it = some o → h'.get? it = some o) → tn i h'
  item : ∀ (X : Cx), X.prog = P → X.w = w → X.K = K → ∀ (i : Nat) (pins : List (Addr × Obj)) (s : Shared) (σ : L2.St) (H : Hp) (E : Value → Shared → Prop), Inv X pins σ H s → FpOk X pins H it → tn i s.heap → J.go i H →
    wpAny (model P w) X.A (pyNext (.ref it)) (fun r s1 => ∃ u, r = some u ∧ wpAny (model P w) X.A (letOwnedTupleGo tg (.ref it) u) (fun _ s2 => ∃ x H', Inv X pins σ H' s2 ∧ RelV x u ∧ J.yld i H x H' ∧ tn (i + 1) s2.heap ∧ H' it = none) E s1) E s
  done : ∀ (X : Cx), X.prog = P → X.w = w → X.K = K → HotS X → ∀ (i : Nat) (pins : List (Addr × Obj)) (s : Shared) (σ : L2.St) (H : Hp) (E : Value → Shared → Prop), Inv X pins σ H s → FpOk X pins H it → tn i s.heap → J.stop i H →
    wpAny (model P w) X.A (pyNext (.ref it)) (fun r s1 => r = none ∧ Inv X pins σ H s1) E s
  self : ∀ (A : Around) (i : Nat) (s : Shared) (Q : Value → Shared → Prop) (E : Value → Shared → Prop), tn i s.heap → Q (.ref it) s → wpAny (model P w) A (pyIter (.ref it)) Q E s
structure PIS (X : Cx) (tg iter : Expr) (wi : TI) : Prop where
  run : ∀ (pins : List (Addr × Obj)) (s : Shared) (σ : L2.St) (H : Hp) (R : It → Hp → Prop), Inv X pins σ H s → wi σ H R →
    wpAny (model X.prog X.w) X.A (eval iter X.env) (fun v s1 => wpAny (model X.prog X.w) X.A (pyIter v) (fun u s2 => ∃ (it : Addr) (tn : Nat → Heap → Prop) (J : It) (H' : Hp), u = .ref it ∧ Inv X pins σ H' s2 ∧ TurnS X.prog X.w X.K tg J it tn ∧ tn 0 s2.heap ∧ FpOk X pins H' it ∧ R J H') X.xe s1) X.xe s
end Tm
set_option Elab.async false
set_option linter.all false
set_option maxRecDepth 100000
set_option maxHeartbeats 2000000
namespace Tm
open PySem L2 PySem.Spec PyProof.Rows
open Evl (Ex ex_rd ex_l ex_t)
structure FnE (P : Program) (w : World) (K : PySem.W.Frag) (mg : Str → Option Value) (base : Heap) (CX : CXT) (k : Nat) (f : Addr) (fd : FuncData) (ps : List Str) (sp : Addr × Obj → Sp) : Prop where
  len : ∀ p vs H Q E, sp p vs H Q E → vs.length = ps.length
  run : ∀ (A : Around) (outer : List PySem.Env) (s : Shared) (H : Hp) (args : Args) (us : List Value) (vs : List V) (Q : VK) (E : XK) (p : Addr × Obj), L2H.RoomH k A → L2H.Hot1 A p → L2H.PinOk outer H s p → Env0 P w K mg base A outer s H → BindsTo s fd args (ps.zip us) → Vals vs us → sp p vs H Q E →
    codeAny (model P w) A (.call (.ref f) args) (CR CX outer P w H s Q E) s
def spE (K : PySem.W.Frag) (mg : Str → Option Value) (ts : List Str) (f : MX → Res (MV × Env)) : Addr × Obj → Sp := fun p vs H Q _ => vs = [.ref p.1] ∧ ∃ (F Hk : Hp) (e : MX) (C : Addr) (d : Option Addr) (v : MV) (ρ' : Env), Ex Hk H ∧ Ex F H ∧ (∀ a o, F a = some o → Hk a = none) ∧
  mg e.cls = some (.ref C) ∧ e.cls ∈ ts ∧ L2N.Zn (.ref C) d p.2 ∧ (∃ vs, p.2.data = .fields vs) ∧ XIn F e d ∧ f e = .ok (v, ρ') ∧ flatM v = true ∧ ∀ Hk' H' u, Ex Hk Hk' → Ex Hk' H' → Ex F H' → (∀ a o, F a = some o → Hk' a = none) → RV K Hk' v u → Q u H'
structure FdE (P : Program) (w : World) (K : PySem.W.Frag) (mg : Str → Option Value) (base : Heap) (x : Str) (k : Nat) (q : Str) (ts : List Str) (f : MX → Res (MV × Env)) : Prop where
  ex : ∃ (a : Addr) (fd : FuncData), FnE P w K mg base (L2N.CX P w) k a fd [q] (spE K mg ts f) ∧ mg x = some (.ref a) ∧ PySem.W.keepIn K (.ref a) = true ∧ Binds K fd [q] []
structure KiB (K : PySem.W.Frag) (mg : Str → Option Value) (T : String) (x : Str) : Prop where
  ex : ∃ C, mg x = some (.ref C) ∧ PySem.W.kitOne K (.ref C) (.type T) = some true
end Tm
set_option Elab.async false
set_option linter.all false
set_option maxRecDepth 100000
set_option maxHeartbeats 2000000
namespace Tm
open PySem L2 PySem.Spec PyProof.Rows
open Evl (Ex ex_rd ex_l ex_t)
inductive HdE (X : Cx) (n : Str) : List ExceptHandler → List (Value × (Addr → Value → Option Addr → TS)) → Prop
  | nil : HdE X n [] []
  | cons {y : Str} {c : Value} {ts : Addr → Value → Option Addr → TS} {b₀ : Stmt} {suite : List Stmt} {np p : Pos} {hds : List ExceptHandler} {l : List (Value × (Addr → Value → Option Addr → TS))} (hc : Names X y c)
      (hsu : ∀ (a : Addr) (oe : Obj) (cls : Value) (d : Option Addr) (pn : List (Addr × Obj)), L2N.Zn cls d oe → (∃ vs, oe.data = .fields vs) → PSs (X.suite a ((a, oe) :: pn)) (b₀ :: suite) (ts a cls d)) (r : HdE X n hds l) :
      HdE X n (.ExceptHandler (some (.Name y np)) (some n) (b₀ :: suite) p :: hds) ((c, ts) :: l)
inductive HdM (X : Cx) (c : Ct) (i : Nat) (n : Str) : List ExceptHandler → List (List (Str × Bool) × (MX → MS)) → Prop
  | nil : HdM X c i n [] []
  | cons {y : Str} {b₀ : Stmt} {suite : List Stmt} {np p : Pos} {hds : List ExceptHandler} {tab : List (Str × Bool)} {mh : MX → MS} {l : List (List (Str × Bool) × (MX → MS))} (hg : Gl X y) (ht : ∀ p ∈ tab, ExT X.K X.mg y p.1 p.2) (hne : ∃ D, X.mg y = some (.ref D))
      (hsu : ∀ (a : Addr) (oe : Obj) (C : Addr) (d : Option Addr) (pn : List (Addr × Obj)) (e : MX), X.mg e.cls = some (.ref C) → (e.cls, true) ∈ tab → L2N.Zn (.ref C) d oe → (∃ vs, oe.data = .fields vs) → PSs (X.suite a ((a, oe) :: pn)) (b₀ :: suite) (rdS (cH c i a e d) (mh e)))
      (hdb : (y == ("__debug__" : Str)) = false) (r : HdM X c i n hds l) :
      HdM X c i n (.ExceptHandler (some (.Name y np)) (some n) (b₀ :: suite) p :: hds) ((tab, mh) :: l)
end Tm
set_option Elab.async false
set_option linter.all false
set_option maxRecDepth 100000
set_option maxHeartbeats 2000000
namespace Tm
open PySem L2 PySem.Spec PyProof.Rows
open Evl (Ex ex_rd ex_l ex_t)
structure DPs (X : Cx) (c : Ct) (pos : Pos) (keys : List (Option Expr)) (values : List Expr) (ks : List Key) (m : MA) : Prop where
  ex : ∃ trs, PPs X pos keys values trs ∧ ∀ (σ : L2.St) (H : Hp) (Q : List (V × V) → Hp → Prop), rdA c m σ H (fun vs H' => Q ((ks.map kV).zip vs) H') → tPairs trs σ H Q
def dctIs : List (Str × MV) → List DictEntry → Bool
  | [], [] => true
  | p :: t, e :: r => e.key.isStr p.1 && flatIs p.2 e.val && dctIs t r
  | _, _ => false
structure DCst (K : PySem.W.Frag) (w : World) (mg : Str → Option Value) (x : Str) (tab : List (Str × MV)) : Prop where
  ex : ∃ a es n, mg x = some (.ref a) ∧ KDict K w a es n ∧ dctIs tab es.toList = true
end Tm
set_option Elab.async false
set_option linter.all false
set_option maxRecDepth 100000
set_option maxHeartbeats 2000000
namespace Tm
open PySem L2
open Evl (Ex ex_rd ex_l ex_t)
theorem OV.dow {K : PySem.W.Frag} {Hk H : Hp} {ks : List Key} {xs : List MV} {v : V} {A : List Addr} : OV K Hk H (.dow ks xs) v A ↔ ∃ p vs, v = .ref p ∧ A = [p] ∧ H p = some (.dK (ks.zip vs)) ∧ ks.length = xs.length ∧ RVs K Hk xs vs := by
  unfold OV OF; rfl
end Tm
set_option Elab.async false
set_option linter.all false
set_option maxRecDepth 100000
set_option maxHeartbeats 2000000
namespace Tm
open PySem L2 PySem.Spec PyProof.Rows
open Evl (Ex ex_rd ex_l ex_t)
inductive Tst
  | one (c : Value)
  | two (c1 c2 : Value)
inductive TstE (X : Cx) : Expr → Tst → Prop
  | one {y : Str} {c : Value} {np : Pos} (hc : Names X y c) : TstE X (.Name y np) (.one c)
  | two {y1 y2 : Str} {c1 c2 : Value} {p1 p2 tp : Pos} {k : Nat} (h1 : Names X y1 c1) (h2 : Names X y2 c2) : TstE X (.Tuple [.Name y1 p1, .Name y2 p2] k tp) (.two c1 c2)
theorem TstE.suite {X : Cx} {te : Expr} {t : Tst} (h : TstE X te t) (a : Addr) (pn : List (Addr × Obj)) : TstE (X.suite a pn) te t := by
  cases h with
  | one hc => exact .one hc
  | two h1 h2 => exact .two h1 h2
inductive HdT (X : Cx) (n : Str) : List ExceptHandler → List (Tst × (Addr → Value → Option Addr → TS)) → Prop
  | nil : HdT X n [] []
  | cons {te : Expr} {t : Tst} {ts : Addr → Value → Option Addr → TS} {b₀ : Stmt} {suite : List Stmt} {p : Pos} {hds : List ExceptHandler} {l : List (Tst × (Addr → Value → Option Addr → TS))} (hc : TstE X te t)
      (hsu : ∀ (a : Addr) (oe : Obj) (cls : Value) (d : Option Addr) (pn : List (Addr × Obj)), L2N.Zn cls d oe → (∃ vs, oe.data = .fields vs) → PSs (X.suite a ((a, oe) :: pn)) (b₀ :: suite) (ts a cls d)) (r : HdT X n hds l) :
      HdT X n (.ExceptHandler (some te) (some n) (b₀ :: suite) p :: hds) ((t, ts) :: l)
structure ExT2 (K : PySem.W.Frag) (mg : Str → Option Value) (y1 y2 : Str) (x : Str) (b : Bool) : Prop where
  ex : ∃ C D1 D2, mg x = some (.ref C) ∧ mg y1 = some (.ref D1) ∧ mg y2 = some (.ref D2) ∧ PySem.W.exmAny K (.ref C) [.ref D1, .ref D2] = some b
inductive HdMT (X : Cx) (c : Ct) (i : Nat) (n : Str) : List ExceptHandler → List (List (Str × Bool) × (MX → MS)) → Prop
  | nil : HdMT X c i n [] []
  | cons {y : Str} {b₀ : Stmt} {suite : List Stmt} {np p : Pos} {hds : List ExceptHandler} {tab : List (Str × Bool)} {mh : MX → MS} {l : List (List (Str × Bool) × (MX → MS))} (hg : Gl X y) (ht : ∀ p ∈ tab, ExT X.K X.mg y p.1 p.2) (hne : ∃ D, X.mg y = some (.ref D))
      (hsu : ∀ (a : Addr) (oe : Obj) (C : Addr) (d : Option Addr) (pn : List (Addr × Obj)) (e : MX), X.mg e.cls = some (.ref C) → (e.cls, true) ∈ tab → L2N.Zn (.ref C) d oe → (∃ vs, oe.data = .fields vs) → PSs (X.suite a ((a, oe) :: pn)) (b₀ :: suite) (rdS (cH c i a e d) (mh e)))
      (hdb : (y == ("__debug__" : Str)) = false) (r : HdMT X c i n hds l) :
      HdMT X c i n (.ExceptHandler (some (.Name y np)) (some n) (b₀ :: suite) p :: hds) ((tab, mh) :: l)
  | two {y1 y2 : Str} {b₀ : Stmt} {suite : List Stmt} {p1 p2 tp p : Pos} {k : Nat} {hds : List ExceptHandler} {tab : List (Str × Bool)} {mh : MX → MS} {l : List (List (Str × Bool) × (MX → MS))} (hg1 : Gl X y1) (hg2 : Gl X y2) (ht : ∀ p ∈ tab, ExT2 X.K X.mg y1 y2 p.1 p.2) (hne1 : ∃ D, X.mg y1 = some (.ref D)) (hne2 : ∃ D, X.mg y2 = some (.ref D))
      (hsu : ∀ (a : Addr) (oe : Obj) (C : Addr) (d : Option Addr) (pn : List (Addr × Obj)) (e : MX), X.mg e.cls = some (.ref C) → (e.cls, true) ∈ tab → L2N.Zn (.ref C) d oe → (∃ vs, oe.data = .fields vs) → PSs (X.suite a ((a, oe) :: pn)) (b₀ :: suite) (rdS (cH c i a e d) (mh e)))
      (hdb1 : (y1 == ("__debug__" : Str)) = false) (hdb2 : (y2 == ("__debug__" : Str)) = false) (r : HdMT X c i n hds l) :
      HdMT X c i n (.ExceptHandler (some (.Tuple [.Name y1 p1, .Name y2 p2] k tp)) (some n) (b₀ :: suite) p :: hds) ((tab, mh) :: l)
end Tm
set_option Elab.async false
set_option linter.all false
set_option maxRecDepth 100000
set_option maxHeartbeats 2000000
namespace Tm
open PySem L2 PySem.Spec PyProof.Rows
open Evl (Ex ex_rd ex_l ex_t)
structure FnF (P : Program) (w : World) (K : PySem.W.Frag) (mg : Str → Option Value) (base : Heap) (j n : Nat) (T : List (Str × MF)) : Prop where
  ex : ∀ x f, T.lookup x = some f → ∀ a, PySem.W.nsIn K mainGlobals x = some (some (.ref a)) → ∃ j' fd ps, j' ≤ j ∧ FnOk P w K mg base (L2N.CX P w) j' a fd ps (spF K mg n [] f) ∧ PySem.W.keepIn K (.ref a) = true ∧ Binds K fd ps []
end Tm
set_option Elab.async false
set_option linter.all false
set_option maxRecDepth 100000
set_option maxHeartbeats 4000000
namespace Tm
open PySem L2
def fnNames : List Str := ["ahead_of_last", "all_or_none", "fill", "five_on", "half_up", "high_half", "lacking", "last_figure", "low_half", "lowest_two", "nine_less", "none_or_all", "not_all", "one_of_none", "one_of_two", "one_or_none", "order_byte", "other_twos", "product_byte", "sign_below", "six_on", "ten_high", "ten_low", "ten_or_none", "top_two"]
def m_lmixed : MS := mSeq (mAsg (mLst (mCons (mC (.int 2147483629)) (mCons (mC (.int 2147483587)) (mCons (mC (.int 2147483579)) (mCons (mC (.int 2147483563)) (mCons (mC (.int 2147483549)) (mCons (mC (.int 2147483543)) (mCons (mC (.int 2147483497)) (mCons (mC (.int 2147483489)) (mNil)))))))))) (gSet 3)) (mSeq (mAsg (mOp fMod (mOp fAdd (mOp fAdd (mOp fAdd (mVar 0) (mOp fMul (mC (.int 7919)) (mVar 2))) (mOp fMul (mC (.int 104729)) (mVar 1))) (mC (.int 13))) (mC (.int 2147483647))) (gSet 4)) (mSeq (mAsg (mOp fMod (mOp fPow (mVar 4) (mC (.int 5))) (mOp fIx (mVar 3) (mOp fMod (mVar 1) (mC (.int 8))))) (gSet 4)) (mSeq (mAsg (mOp fMod (mOp fAdd (mOp fAdd (mVar 4) (mOp fMul (mC (.int 40692)) (mVar 2))) (mVar 1)) (mC (.int 2147483647))) (gSet 5)) (mRet (mOp fAdd (mOp fMul (mOp fMod (mOp fPow (mVar 5) (mC (.int 5))) (mC (.int 2147483647))) (mC (.int 1000000007))) (mVar 4))))))
def f_lmixed : MF := mFn 6 [] m_lmixed
def b_ldraws_0 : MS := mIfS (mTest (mOp fGt (mVar 4) (mC (.int 0)))) (mSeq (mDrop (mLm lmAppend 3 (mCons (mOp fMod (mVar 4) (mOp fIx (mVar 2) (mVar 5))) (mNil)))) (mAsg (mOp fDiv (mVar 4) (mOp fIx (mVar 2) (mVar 5))) (gSet 4))) (mDrop (mLm lmAppend 3 (mCons (mOp fMod (mFz (mCall f_lmixed (mCons (mVar 0) (mCons (mVar 5) (mCons (mVar 1) (mNil)))))) (mOp fIx (mVar 2) (mVar 5))) (mNil))))
def m_ldraws : MS := mSeq (mSetO 3 (mLstO (mNil))) (mSeq (mAsg (mC (.int 0)) (gSet 4)) (mSeq (mIfS (mTest (mOp fGe (mBlt bAbs (mCons (mVar 0) (mNil))) (mOp fPow (mC (.int 10)) (mC (.int 18))))) (mAsg (mBlt bAbs (mCons (mVar 0) (mNil))) (gSet 4)) (mPass)) (mSeq (mFor (mR1 (mCons (mBlt bLen (mCons (mVar 2) (mNil))) (mNil))) (gSet 5) (b_ldraws_0)) (mRet (mMove 3)))))
def f_ldraws : MF := mFn 6 [] m_ldraws
def m_lcell : MS := mSeq (mIfS (mTest (mOp fLt (mVar 1) (mBlt bLen (mCons (mVar 0) (mNil))))) (mRet (mOp fIx (mVar 0) (mVar 1))) (mPass)) (mSeq (mIfS (mTest (mOp fEq (mBlt bLen (mCons (mVar 0) (mNil))) (mC (.int 0)))) (mRet (mOp fMul (mC (.int 7919)) (mOp fAdd (mVar 1) (mC (.int 1))))) (mPass)) (mRet (mOp fAdd (mOp fIx (mVar 0) (mOp fMod (mVar 1) (mBlt bLen (mCons (mVar 0) (mNil))))) (mOp fMul (mC (.int 104729)) (mVar 1)))))
def f_lcell : MF := mFn 2 [] m_lcell
def m_pshape : MS := mSeq (mIfS (mTest (mOp fNotIn (mVar 0) (mC (.tup [(.str "packed"), (.str "spread")])))) (mRaise1 "NoShape" "part" (mC (.str "kind"))) (mPass)) (mSeq (mIfS (mNotT (mTest (mChain fLt fLe (mC (.int 0)) (mVar 1) (mC (.int 12))))) (mRaise1 "NoShape" "part" (mC (.str "figures"))) (mPass)) (mSeq (mIfS (mTest (mOp fNotIn (mVar 2) (mC (.tup [(.str "none"), (.str "end"), (.str "tens")])))) (mRaise1 "NoShape" "part" (mC (.str "sign"))) (mPass)) (mSeq (mIfS (mNotT (mTest (mChain fLe fLe (mC (.int 0)) (mVar 3) (mVar 1)))) (mRaise1 "NoShape" "part" (mC (.str "point"))) (mPass)) (mRet (mTup (mCons (mVar 0) (mCons (mVar 1) (mCons (mVar 2) (mCons (mVar 3) (mNil))))))))))
def f_pshape : MF := mFn 4 [] m_pshape
def b_ppower_0 : MS := mAsg (mOp fMul (mVar 2) (mVar 0)) (gSet 2)
def m_ppower : MS := mSeq (mAsg (mC (.int 1)) (gSet 2)) (mSeq (mFor (mR1 (mCons (mVar 1) (mNil))) (gSet 3) (b_ppower_0)) (mRet (mVar 2)))
def f_ppower : MF := mFn 4 [] m_ppower
def m_pleast_of : MS := mSeq (mIfS (mTest (mOp fEq (mOp fIx (mVar 0) (mC (.int 2))) (mC (.str "none")))) (mRet (mC (.int 0))) (mPass)) (mSeq (mIfS (mTest (mOp fEq (mOp fIx (mVar 0) (mC (.int 2))) (mC (.str "end")))) (mRet (mOp fSub (mC (.int 1)) (mFz (mCall f_ppower (mCons (mC (.int 10)) (mCons (mOp fIx (mVar 0) (mC (.int 1))) (mNil))))))) (mPass)) (mRet (mOp fMul (mUn fNeg (mC (.int 5))) (mFz (mCall f_ppower (mCons (mC (.int 10)) (mCons (mOp fSub (mOp fIx (mVar 0) (mC (.int 1))) (mC (.int 1))) (mNil))))))))
def f_pleast_of : MF := mFn 1 [] m_pleast_of
def m_pfolded : MS := mSeq (mAsg (mFz (mCall f_ppower (mCons (mC (.int 10)) (mCons (mOp fIx (mVar 0) (mC (.int 1))) (mNil))))) (gSet 2)) (mSeq (mIfS (mTest (mOp fEq (mOp fIx (mVar 0) (mC (.int 2))) (mC (.str "none")))) (mRet (mOp fMod (mVar 1) (mVar 2))) (mPass)) (mSeq (mIfS (mTest (mOp fEq (mOp fIx (mVar 0) (mC (.int 2))) (mC (.str "tens")))) (mRet (mOp fAdd (mOp fMod (mOp fSub (mVar 1) (mFz (mCall f_pleast_of (mCons (mVar 0) (mNil))))) (mVar 2)) (mFz (mCall f_pleast_of (mCons (mVar 0) (mNil)))))) (mPass)) (mSeq (mIfS (mTest (mOp fLt (mVar 1) (mC (.int 0)))) (mRet (mUn fNeg (mOp fMod (mUn fNeg (mVar 1)) (mVar 2)))) (mPass)) (mRet (mOp fMod (mVar 1) (mVar 2))))))
def f_pfolded : MF := mFn 3 [] m_pfolded
def m_lform : MS := mSeq (mAsg (mOp fMod (mOp fAdd (mOp fAdd (mOp fMul (mC (.int 7)) (mVar 1)) (mOp fMul (mC (.int 3)) (mVar 0))) (mVar 2)) (mOp fAdd (mVar 1) (mC (.int 2)))) (gSet 3)) (mRet (mTup (mCons (mOp fIx (mLst (mCons (mC (.str "packed")) (mCons (mC (.str "spread")) (mNil)))) (mVar 0)) (mCons (mOp fAdd (mC (.int 1)) (mVar 1)) (mCons (mOp fIx (mLst (mCons (mC (.str "none")) (mCons (mC (.str "end")) (mCons (mC (.str "tens")) (mNil))))) (mVar 2)) (mCons (mVar 3) (mNil)))))))
def f_lform : MF := mFn 4 [] m_lform
def m_pmost_of : MS := mSeq (mIfS (mTest (mOp fEq (mOp fIx (mVar 0) (mC (.int 2))) (mC (.str "tens")))) (mRet (mOp fSub (mOp fMul (mC (.int 5)) (mFz (mCall f_ppower (mCons (mC (.int 10)) (mCons (mOp fSub (mOp fIx (mVar 0) (mC (.int 1))) (mC (.int 1))) (mNil)))))) (mC (.int 1)))) (mPass)) (mRet (mOp fSub (mFz (mCall f_ppower (mCons (mC (.int 10)) (mCons (mOp fIx (mVar 0) (mC (.int 1))) (mNil))))) (mC (.int 1))))
def f_pmost_of : MF := mFn 1 [] m_pmost_of
def b_pfigures_of_0 : MS := mSeq (mDrop (mLm lmAppend 2 (mCons (mOp fMod (mVar 0) (mC (.int 10))) (mNil)))) (mAsg (mOp fDiv (mVar 0) (mC (.int 10))) (gSet 0))
def m_pfigures_of : MS := mSeq (mSetO 2 (mLstO (mNil))) (mSeq (mFor (mR1 (mCons (mVar 1) (mNil))) (gSet 3) (b_pfigures_of_0)) (mRet (mRevA (mVar 2))))
def f_pfigures_of : MF := mFn 4 [] m_pfigures_of
def m_psign_half : MS := mSeq (mIfS (mTest (mOp fLt (mVar 0) (mC (.int 0)))) (mRet (mC (.int 13))) (mPass)) (mRet (mC (.int 12)))
def f_psign_half : MF := mFn 1 [] m_psign_half
def m_phalves_of : MS := mSeq (mAsg (mOp fAdd (mOp fIx (mVar 0) (mC (.int 1))) (mBlt bInt (mCons (mOp fEq (mOp fIx (mVar 0) (mC (.int 2))) (mC (.str "end"))) (mNil)))) (gSet 1)) (mRet (mTup (mCons (mOp fAdd (mVar 1) (mOp fMod (mVar 1) (mC (.int 2)))) (mCons (mOp fMod (mVar 1) (mC (.int 2))) (mNil)))))
def f_phalves_of : MF := mFn 2 [] m_phalves_of
def b_pkept_halves_0 : MS := mDrop (mLm lmExtend 3 (mCons (mLst (mCons (mC (.int 15)) (mCons (mVar 4) (mNil)))) (mNil)))
def m_pkept_halves : MS := mSeq (mIfS (mTest (mOp fEq (mOp fIx (mVar 0) (mC (.int 2))) (mC (.str "tens")))) (mAsg (mOp fMod (mVar 1) (mFz (mCall f_ppower (mCons (mC (.int 10)) (mCons (mOp fIx (mVar 0) (mC (.int 1))) (mNil)))))) (gSet 1)) (mPass)) (mSeq (mAsg (mFz (mCall f_pfigures_of (mCons (mBlt bAbs (mCons (mVar 1) (mNil))) (mCons (mOp fIx (mVar 0) (mC (.int 1))) (mNil))))) (gSet 2)) (mSeq (mIfS (mTest (mOp fEq (mOp fIx (mVar 0) (mC (.int 0))) (mC (.str "packed")))) (mSeq (mAsg (mOp fMul (mLst (mCons (mFz (mCall f_psign_half (mCons (mVar 1) (mNil)))) (mNil))) (mBlt bInt (mCons (mOp fEq (mOp fIx (mVar 0) (mC (.int 2))) (mC (.str "end"))) (mNil)))) (gSet 5)) (mRet (mOp fAdd (mOp fAdd (mOp fMul (mLst (mCons (mC (.int 0)) (mNil))) (mOp fIx (mFz (mCall f_phalves_of (mCons (mVar 0) (mNil)))) (mC (.int 1)))) (mVar 2)) (mVar 5)))) (mPass)) (mSeq (mSetO 3 (mLstO (mNil))) (mSeq (mFor (mItV (mVar 2)) (gSet 4) (b_pkept_halves_0)) (mSeq (mIfS (mTest (mOp fEq (mOp fIx (mVar 0) (mC (.int 2))) (mC (.str "end")))) (mSetIx 3 (mFz (mCall f_psign_half (mCons (mVar 1) (mNil)))) (mUn fNeg (mC (.int 2)))) (mPass)) (mRet (mMove 3)))))))
def f_pkept_halves : MF := mFn 6 [] m_pkept_halves
def m_pfits : MS := mRet (mChain fLe fLe (mFz (mCall f_pleast_of (mCons (mVar 0) (mNil)))) (mVar 1) (mFz (mCall f_pmost_of (mCons (mVar 0) (mNil)))))
def f_pfits : MF := mFn 2 [] m_pfits
def m_pkept : MS := mSeq (mIfS (mNotT (mTest (mFz (mCall f_pfits (mCons (mVar 0) (mCons (mVar 1) (mNil))))))) (mRaise1 "NoFit" "number" (mVar 1)) (mPass)) (mSeq (mAsg (mFz (mCall f_pkept_halves (mCons (mVar 0) (mCons (mVar 1) (mNil))))) (gSet 2)) (mRet (mBlt bTuple (mCons (mFz (mLcO (mR3 (mCons (mC (.int 0)) (mCons (mBlt bLen (mCons (mVar 2) (mNil))) (mCons (mC (.int 2)) (mNil))))) (.nm 3) (mYes) (mOp fAdd (mOp fMul (mC (.int 16)) (mOp fIx (mVar 2) (mVar 3))) (mOp fIx (mVar 2) (mOp fAdd (mVar 3) (mC (.int 1))))) [3])) (mNil)))))
def f_pkept : MF := mFn 4 [] m_pkept
def m_pduties : MS := mSeq (mIfS (mTest (mOp fEq (mOp fIx (mVar 0) (mC (.int 0))) (mC (.str "packed")))) (mRet (mOp fAdd (mOp fAdd (mOp fMul (mLst (mCons (mC (.str "ahead")) (mNil))) (mOp fIx (mFz (mCall f_phalves_of (mCons (mVar 0) (mNil)))) (mC (.int 1)))) (mOp fMul (mLst (mCons (mC (.str "figure")) (mNil))) (mOp fIx (mVar 0) (mC (.int 1))))) (mOp fMul (mLst (mCons (mC (.str "sign")) (mNil))) (mBlt bInt (mCons (mOp fEq (mOp fIx (mVar 0) (mC (.int 2))) (mC (.str "end"))) (mNil)))))) (mPass)) (mSeq (mSetO 1 (mOpO fMultL (mLst (mCons (mC (.str "zone")) (mCons (mC (.str "figure")) (mNil)))) (mOp fIx (mVar 0) (mC (.int 1))))) (mSeq (mIfS (mTest (mOp fEq (mOp fIx (mVar 0) (mC (.int 2))) (mC (.str "end")))) (mSetIx 1 (mC (.str "sign")) (mUn fNeg (mC (.int 2)))) (mPass)) (mRet (mMove 1))))
def f_pduties : MF := mFn 2 [] m_pduties
def b_phalves_in_0 : MS := mDrop (mLm lmExtend 1 (mCons (mLst (mCons (mOp fDiv (mVar 2) (mC (.int 16))) (mCons (mOp fMod (mVar 2) (mC (.int 16))) (mNil)))) (mNil)))
def m_phalves_in : MS := mSeq (mSetO 1 (mLstO (mNil))) (mSeq (mFor (mItV (mVar 0)) (gSet 2) (b_phalves_in_0)) (mRet (mMove 1)))
def f_phalves_in : MF := mFn 3 [] m_phalves_in
def m_phalf_right : MS := mSeq (mIfS (mTest (mOp fEq (mVar 0) (mC (.str "ahead")))) (mRet (mOp fEq (mVar 1) (mC (.int 0)))) (mPass)) (mSeq (mIfS (mTest (mOp fEq (mVar 0) (mC (.str "figure")))) (mRet (mOp fLt (mVar 1) (mC (.int 10)))) (mPass)) (mSeq (mIfS (mTest (mOp fEq (mVar 0) (mC (.str "zone")))) (mRet (mOp fEq (mVar 1) (mC (.int 15)))) (mPass)) (mRet (mOp fGt (mVar 1) (mC (.int 9))))))
def f_phalf_right : MF := mFn 2 [] m_phalf_right
def b_pcaught_0 : MS := mSeq (mIfS (mTest (mOp fGe (mVar 4) (mBlt bLen (mCons (mVar 2) (mNil))))) (mRet (mTup (mCons (mVar 4) (mCons (mC (.str "length")) (mNil))))) (mPass)) (mIfS (mNotT (mTest (mFz (mCall f_phalf_right (mCons (mOp fIx (mVar 2) (mVar 4)) (mCons (mVar 5) (mNil))))))) (mRet (mTup (mCons (mVar 4) (mCons (mOp fIx (mVar 2) (mVar 4)) (mNil))))) (mPass))
def m_pcaught : MS := mSeq (mAsg (mFz (mCall f_pduties (mCons (mVar 0) (mNil)))) (gSet 2)) (mSeq (mAsg (mFz (mCall f_phalves_in (mCons (mVar 1) (mNil)))) (gSet 3)) (mSeq (mFor (mEnum (mCons (mVar 3) (mNil))) (gTp 2 (gsCons (gSet 4) (gsCons (gSet 5) (gsNil)))) (b_pcaught_0)) (mSeq (mIfS (mTest (mOp fLt (mBlt bLen (mCons (mVar 3) (mNil))) (mBlt bLen (mCons (mVar 2) (mNil))))) (mRet (mTup (mCons (mBlt bLen (mCons (mVar 3) (mNil))) (mCons (mC (.str "length")) (mNil))))) (mPass)) (mRet (mC .non)))))
def f_pcaught : MF := mFn 6 [] m_pcaught
def b_pnumber_by_0 : MS := mAsg (mOp fAdd (mOp fMul (mVar 2) (mVar 0)) (mVar 3)) (gSet 2)
def m_pnumber_by : MS := mSeq (mAsg (mC (.int 0)) (gSet 2)) (mSeq (mFor (mItV (mVar 1)) (gSet 3) (b_pnumber_by_0)) (mRet (mVar 2)))
def f_pnumber_by : MF := mFn 4 [] m_pnumber_by
def m_pnumber_of : MS := mSeq (mAsg (mFz (mCall f_pcaught (mCons (mVar 0) (mCons (mVar 1) (mNil))))) (gSet 2)) (mSeq (mIfS (mTest (mOp fNotN (mVar 2) (mC .non))) (mRaise2 "Wrong" "place" "why" (mOp fIx (mVar 2) (mC (.int 0))) (mOp fIx (mVar 2) (mC (.int 1)))) (mPass)) (mSeq (mAsg (mFz (mCall f_pduties (mCons (mVar 0) (mNil)))) (gSet 3)) (mSeq (mAsg (mFz (mCall f_phalves_in (mCons (mVar 1) (mNil)))) (gSet 4)) (mSeq (mSetO 5 (mLcO (mR1 (mCons (mBlt bLen (mCons (mVar 3) (mNil))) (mNil))) (.nm 7) (mTest (mOp fEq (mOp fIx (mVar 3) (mVar 7)) (mC (.str "figure")))) (mOp fIx (mVar 4) (mVar 7)) [7])) (mSeq (mAsg (mFz (mCall f_pnumber_by (mCons (mC (.int 10)) (mCons (mVar 5) (mNil))))) (gSet 6)) (mSeq (mIfS (mAndT (mTest (mOp fEq (mOp fIx (mVar 0) (mC (.int 2))) (mC (.str "end")))) (mTest (mOp fIn (mOp fIx (mVar 4) (mLx lxIndex (mVar 3) (mCons (mC (.str "sign")) (mNil)))) (mC (.tup [(.int 11), (.int 13)]))))) (mRet (mUn fNeg (mVar 6))) (mPass)) (mSeq (mIfS (mAndT (mTest (mOp fEq (mOp fIx (mVar 0) (mC (.int 2))) (mC (.str "tens")))) (mTest (mOp fGt (mOp fIx (mVar 5) (mC (.int 0))) (mC (.int 4))))) (mRet (mOp fSub (mVar 6) (mFz (mCall f_ppower (mCons (mC (.int 10)) (mCons (mOp fIx (mVar 0) (mC (.int 1))) (mNil))))))) (mPass)) (mRet (mVar 6)))))))))
def f_pnumber_of : MF := mFn 8 [] m_pnumber_of
def m_pwritten : MS := mSeq (mIfS (mNotT (mTest (mFz (mCall f_pfits (mCons (mVar 0) (mCons (mVar 1) (mNil))))))) (mRaise1 "NoFit" "number" (mVar 1)) (mPass)) (mSeq (mAsg (mSm smZfill (mBlt bStr (mCons (mBlt bAbs (mCons (mVar 1) (mNil))) (mNil))) (mCons (mOp fAdd (mOp fIx (mVar 0) (mC (.int 3))) (mC (.int 1))) (mNil))) (gSet 2)) (mSeq (mIfS (mTest (mOp fGt (mOp fIx (mVar 0) (mC (.int 3))) (mC (.int 0)))) (mAsg (mOp fAdd (mOp fAdd (mSl (mVar 2) (mNo) (mPart (mUn fNeg (mOp fIx (mVar 0) (mC (.int 3)))))) (mC (.str "."))) (mSl (mVar 2) (mPart (mUn fNeg (mOp fIx (mVar 0) (mC (.int 3))))) (mNo))) (gSet 2)) (mPass)) (mSeq (mIfS (mTest (mOp fLt (mVar 1) (mC (.int 0)))) (mRet (mOp fAdd (mC (.str "-")) (mVar 2))) (mPass)) (mRet (mVar 2)))))
def f_pwritten : MF := mFn 3 [] m_pwritten
def m_pis_figures : MS := mRet (mBv (mAndT (mTest (mChain fLt fLe (mC (.int 0)) (mBlt bLen (mCons (mVar 0) (mNil))) (mC (.int 30)))) (mTest (mBlt bAll (mCons (mFz (mLcO (mItV (mVar 0)) (.nm 1) (mYes) (mOp fIn (mVar 1) (mC (.str "0123456789"))) [1])) (mNil))))))
def f_pis_figures : MF := mFn 2 [] m_pis_figures
def m_pparts_of : MS := mSeq (mAsg (mSm smPartition (mVar 0) (mCons (mC (.str ".")) (mNil))) (gTp 3 (gsCons (gSet 1) (gsCons (gSet 2) (gsCons (gSet 3) (gsNil)))))) (mSeq (mIfS (mOrT (mNotT (mTest (mFz (mCall f_pis_figures (mCons (mVar 1) (mNil)))))) (mAndT (mTest (mOp fEq (mVar 2) (mC (.str ".")))) (mNotT (mTest (mFz (mCall f_pis_figures (mCons (mVar 3) (mNil)))))))) (mRaise0 "NoText") (mPass)) (mRet (mTup (mCons (mVar 1) (mCons (mVar 3) (mNil))))))
def f_pparts_of : MF := mFn 4 [] m_pparts_of
def m_ptold : MS := mSeq (mAsg (mSl (mVar 1) (mPart (mBlt bInt (mCons (mOp fEq (mSl (mVar 1) (mNo) (mPart (mC (.int 1)))) (mC (.str "-"))) (mNil)))) (mNo)) (gSet 2)) (mSeq (mAsg (mFz (mCall f_pparts_of (mCons (mVar 2) (mNil)))) (gTp 2 (gsCons (gSet 5) (gsCons (gSet 6) (gsNil))))) (mSeq (mAsg (mOp fMul (mBlt bInt (mCons (mOp fAdd (mVar 5) (mVar 6)) (mNil))) (mFz (mCall f_ppower (mCons (mC (.int 10)) (mCons (mOp fIx (mVar 0) (mC (.int 3))) (mNil)))))) (gSet 3)) (mSeq (mAsg (mFz (mCall f_ppower (mCons (mC (.int 10)) (mCons (mBlt bLen (mCons (mVar 6) (mNil))) (mNil))))) (gSet 4)) (mSeq (mIfS (mTest (mOp fNe (mOp fMod (mVar 3) (mVar 4)) (mC (.int 0)))) (mRaise1 "NoFit" "number" (mVar 1)) (mPass)) (mSeq (mAsg (mOp fDiv (mVar 3) (mVar 4)) (gSet 3)) (mSeq (mIfS (mTest (mOp fNe (mVar 2) (mVar 1))) (mAsg (mUn fNeg (mVar 3)) (gSet 3)) (mPass)) (mSeq (mIfS (mNotT (mTest (mFz (mCall f_pfits (mCons (mVar 0) (mCons (mVar 3) (mNil))))))) (mRaise1 "NoFit" "number" (mVar 1)) (mPass)) (mRet (mVar 3)))))))))
def f_ptold : MF := mFn 7 [] m_ptold
def m_pbyte_told : MS := mSeq (mIfS (mOrT (mTest (mOp fNe (mBlt bLen (mCons (mVar 0) (mNil))) (mC (.int 2)))) (mNotT (mTest (mBlt bAll (mCons (mFz (mLcO (mItV (mVar 0)) (.nm 1) (mYes) (mOp fIn (mVar 1) (mC (.str "0123456789ABCDEF"))) [1])) (mNil)))))) (mRaise0 "NoText") (mPass)) (mRet (mOp fAdd (mOp fMul (mC (.int 16)) (mSm smIndex (mC (.str "0123456789ABCDEF")) (mCons (mOp fIx (mVar 0) (mC (.int 0))) (mNil)))) (mSm smIndex (mC (.str "0123456789ABCDEF")) (mCons (mOp fIx (mVar 0) (mC (.int 1))) (mNil)))))
def f_pbyte_told : MF := mFn 2 [] m_pbyte_told
def m_punhexed : MS := mSeq (mIfS (mTest (mOp fEq (mVar 0) (mC (.str "")))) (mRet (mTup (mNil))) (mPass)) (mRet (mBlt bTuple (mCons (mFz (mLcO (mItV (mSm smSplit (mVar 0) (mCons (mC (.str " ")) (mNil)))) (.nm 1) (mYes) (mFz (mCall0 f_pbyte_told (mCons (mVar 1) (mNil)))) [1])) (mNil))))
def f_punhexed : MF := mFn 2 [] m_punhexed
def m_phexed : MS := mRet (mSm smJoin (mC (.str " ")) (mCons (mFz (mLcO (mItV (mVar 0)) (.nm 1) (mYes) (mOp fAdd (mOp fIx (mC (.str "0123456789ABCDEF")) (mOp fDiv (mVar 1) (mC (.int 16)))) (mOp fIx (mC (.str "0123456789ABCDEF")) (mOp fMod (mVar 1) (mC (.int 16))))) [1])) (mNil)))
def f_phexed : MF := mFn 2 [] m_phexed
def b_law9_0 : MS := mSeq (mAsg (mFz (mCall f_lform (mCons (mVar 6) (mCons (mOp fIx (mVar 4) (mC (.int 0))) (mCons (mOp fIx (mVar 4) (mC (.int 1))) (mNil)))))) (gSet 7)) (mSeq (mAsg (mFz (mCall f_pshape (mCons (mOp fIx (mVar 7) (mC (.int 0))) (mCons (mOp fIx (mVar 7) (mC (.int 1))) (mCons (mOp fIx (mVar 7) (mC (.int 2))) (mCons (mOp fMod (mOp fIx (mVar 4) (mC (.int 2))) (mOp fAdd (mC (.int 2)) (mOp fIx (mVar 4) (mC (.int 0))))) (mNil))))))) (gSet 7)) (mSeq (mAsg (mFz (mCall f_pfolded (mCons (mVar 7) (mCons (mVar 2) (mNil))))) (gSet 8)) (mSeq (mAsg (mFz (mCall f_pkept (mCons (mVar 7) (mCons (mVar 8) (mNil))))) (gSet 9)) (mSeq (mIfS (mOrT (mTest (mOp fNe (mFz (mCall f_pnumber_of (mCons (mVar 7) (mCons (mVar 9) (mNil))))) (mVar 8))) (mOrT (mTest (mOp fNe (mFz (mCall f_punhexed (mCons (mFz (mCall f_phexed (mCons (mVar 9) (mNil)))) (mNil)))) (mVar 9))) (mTest (mOp fNe (mFz (mCall f_pfolded (mCons (mVar 7) (mCons (mVar 8) (mNil))))) (mVar 8))))) (mRet (mC (.bl false))) (mPass)) (mSeq (mDrop (mLm lmAppend 5 (mCons (mFz (mCall f_pwritten (mCons (mVar 7) (mCons (mVar 8) (mNil))))) (mNil)))) (mIfS (mTest (mOp fNe (mFz (mCall f_ptold (mCons (mVar 7) (mCons (mIxV 5 (mVar 6)) (mNil))))) (mVar 8))) (mRet (mC (.bl false))) (mPass)))))))
def b_law9_1 : MS := mSeq (mAsg (mFz (mCall f_ldraws (mCons (mFz (mCall f_lcell (mCons (mVar 0) (mCons (mOp fAdd (mC (.int 1)) (mVar 3)) (mNil))))) (mCons (mOp fAdd (mC (.int 4)) (mVar 3)) (mCons (mLst (mCons (mC (.int 12)) (mCons (mC (.int 3)) (mCons (mC (.int 13)) (mNil))))) (mNil)))))) (gSet 4)) (mSeq (mSetO 5 (mLstO (mNil))) (mSeq (mFor (mR1 (mCons (mC (.int 2)) (mNil))) (gSet 6) (b_law9_0)) (mIfS (mTest (mOp fNe (mIxV 5 (mC (.int 0))) (mIxV 5 (mC (.int 1))))) (mRet (mC (.bl false))) (mPass))))
def m_law9 : MS := mSeq (mAsg (mFz (mCall f_ldraws (mCons (mFz (mCall f_lcell (mCons (mVar 0) (mCons (mC (.int 0)) (mNil))))) (mCons (mC (.int 3)) (mCons (mLst (mCons (mC (.int 2)) (mCons (mOp fPow (mC (.int 10)) (mC (.int 15))) (mCons (mOp fPow (mC (.int 10)) (mC (.int 25))) (mCons (mC (.int 4)) (mNil)))))) (mNil)))))) (gSet 1)) (mSeq (mAsg (mOp fMul (mOp fIx (mLst (mCons (mOp fIx (mVar 1) (mC (.int 1))) (mCons (mOp fIx (mVar 1) (mC (.int 2))) (mCons (mOp fMod (mOp fIx (mVar 1) (mC (.int 1))) (mC (.int 1000))) (mCons (mOp fDiv (mOp fIx (mVar 1) (mC (.int 2))) (mOp fPow (mC (.int 10)) (mC (.int 20)))) (mNil)))))) (mOp fIx (mVar 1) (mC (.int 3)))) (mOp fSub (mC (.int 1)) (mOp fMul (mC (.int 2)) (mOp fIx (mVar 1) (mC (.int 0)))))) (gSet 2)) (mSeq (mFor (mR1 (mCons (mC (.int 6)) (mNil))) (gSet 3) (b_law9_1)) (mRet (mC (.bl true)))))
def f_law9 : MF := mFn 10 [] m_law9
theorem lcell_ok (ns : List Int) (k : Nat) : ∃ v : Int, f_lcell [.scr ns, .int k] = .ok (.int v, []) := by
  unfold f_lcell
  by_cases h : (k : Int) < ns.length
  · have h' : k < ns.length := by omega
    refine ⟨ns[k], mFn_ok ?_⟩
    simp [m_lcell, h', atI_ge]
  · by_cases h0 : ns.length = 0
    · have h' : ns = [] := List.length_eq_zero_iff.mp h0
      subst h'
      refine ⟨7919 * (k + 1), mFn_ok ?_⟩
      simp [m_lcell, mulOk_l]
    · have h' : ¬ k < ns.length := by omega
      have hp : (0 : Int) < ns.length := by omega
      have e := fmod_ge' (a := k) hp
      have e2 := fmod_lt' (a := k) hp
      have h2 : ((k : Int).fmod ns.length).toNat < ns.length := by omega
      have h3 : ¬ ns = [] := by intro h; subst h; exact h0 rfl
      have h4 : ¬ ((ns.length : Int) = 0) := by omega
      refine ⟨ns[((k : Int).fmod ns.length).toNat] + 104729 * k, mFn_ok ?_⟩
      simp [m_lcell, h', h3, h4, atI_ge e, h2, mulOk_l]
theorem lmixed_ok (a b c : Int) : ∃ v : Int, f_lmixed [.int a, .int b, .int c] = .ok (.int v, []) := by
  unfold f_lmixed
  have e := fmod_ge' (a := b) (b := 8) (by decide)
  have e2 := fmod_lt' (a := b) (b := 8) (by decide)
  generalize hi : b.fmod 8 = i at e e2
  obtain ⟨p, hp, hp1, hp2⟩ : ∃ p : Int, atI [MV.int 2147483629, .int 2147483587, .int 2147483579, .int 2147483563, .int 2147483549, .int 2147483543, .int 2147483497, .int 2147483489] i = some (.int p) ∧ 0 < p ∧ p < 2147483648 := by
    obtain ⟨j, rfl⟩ := Int.eq_ofNat_of_zero_le e
    match j, e2 with
    | 0, _ => exact ⟨_, rfl, by decide, by decide⟩
    | 1, _ => exact ⟨_, rfl, by decide, by decide⟩
    | 2, _ => exact ⟨_, rfl, by decide, by decide⟩
    | 3, _ => exact ⟨_, rfl, by decide, by decide⟩
    | 4, _ => exact ⟨_, rfl, by decide, by decide⟩
    | 5, _ => exact ⟨_, rfl, by decide, by decide⟩
    | 6, _ => exact ⟨_, rfl, by decide, by decide⟩
    | 7, _ => exact ⟨_, rfl, by decide, by decide⟩
    | j + 8, h => exact absurd h (by omega)
  have b1 : ∀ x : Int, 0 ≤ x.fmod 2147483647 ∧ x.fmod 2147483647 < 2147483647 := fun x => ⟨fmod_ge' (by decide), fmod_lt' (by decide)⟩
  have b2 : ∀ x : Int, (x.fmod 2147483647).natAbs < 18446744073709551616 := fun x => by have := b1 x; omega
  have b3 : ∀ x : Int, mulOk (x.fmod 2147483647) 1000000007 = true := fun x => mulOk_r (by decide) (by decide)
  have h : ∃ v ρ, m_lmixed [some (.int a), some (.int b), some (.int c), none, none, none] = .ok (.rt (.int v), ρ) := by
    simp [m_lmixed, szOk_small, mulOk_l, hi, hp, hp1, Int.ne_of_gt hp1, b2, b3]
  obtain ⟨v, ρ, h⟩ := h
  exact ⟨v, mFn_ok ⟨ρ, h⟩⟩
def DrawsAre (ws ds : List Int) : Prop := ds.length = ws.length ∧ ∀ i (h : i < ws.length) (h' : i < ds.length), 0 ≤ ds[i] ∧ ds[i] < ws[i]
theorem ldraws_ok (cell salt : Int) (ws : List Int) (hn : ws.length < 1000) (hw : ∀ w ∈ ws, 0 < w ∧ divOk w = true) : ∃ ds : List Int, DrawsAre ws ds ∧ f_ldraws [.int cell, .int salt, .lst (ws.map .int)] = .ok (.own (ds.map .int), []) := by
  have key : ∀ l0 : Int, ∃ ρ', mLoop (gSet 5) b_ldraws_0 (rngM 0 1 ws.length) [some (.int cell), some (.int salt), some (.lst (ws.map .int)), some (.own []), some (.int l0), none] = .ok (.nx, ρ') ∧ ∃ ds l v, DrawsAre (ws.take ws.length) ds ∧ ρ' = [some (.int cell), some (.int salt), some (.lst (ws.map .int)), some (.own (ds.map .int)), some (.int l), v] := by
    intro l0
    refine loop_rng (fun i ρ => ∃ ds l v, DrawsAre (ws.take i) ds ∧ ρ = [some (.int cell), some (.int salt), some (.lst (ws.map .int)), some (.own (ds.map .int)), some (.int l), v]) ⟨[], l0, none, ⟨by simp, by simp⟩, rfl⟩ ?_
    rintro i ρ hi ⟨ds, l, v, ⟨hd1, hd2⟩, rfl⟩
    have hwi := hw ws[i] (List.getElem_mem hi)
    have hl : ds.length = i := by rw [hd1, List.length_take]; omega
    have ix : atI (ws.map MV.int) (i : Int) = some (.int ws[i]) := by rw [atI_ge (by omega)]; simp [hi]
    have ds' : ∀ d : Int, DrawsAre (ws.take (i + 1)) (ds ++ [d.fmod ws[i]]) := by
      intro d
      refine ⟨by simp [hl, List.length_take]; omega, fun j h h' => ?_⟩
      have hj : j ≤ i := by rw [List.length_take] at h; omega
      rw [List.getElem_take]
      by_cases e : j = i
      · subst e
        rw [List.getElem_append_right (by omega)]
        simp [hl]
        exact ⟨fmod_ge' hwi.1, fmod_lt' hwi.1⟩
      · have := hd2 j (by rw [List.length_take]; omega) (by omega)
        rw [List.getElem_append_left (by omega)]
        rw [List.getElem_take] at this
        exact this
    have hsz : ds.length < sizeLine := by rw [sizeLine_eq]; omega
    by_cases hp : 0 < l
    · refine ⟨[some (.int cell), some (.int salt), some (.lst (ws.map .int)), some (.own (ds.map .int)), some (.int l), some (.int i)], [some (.int cell), some (.int salt), some (.lst (ws.map .int)), some (.own ((ds ++ [l.fmod ws[i]]).map .int)), some (.int (l.fdiv ws[i])), some (.int i)], ?_, .inl ?_, ⟨_, _, _, ds' l, rfl⟩⟩
      · simp
      · simp [b_ldraws_0, hp, isOwn, ix, Int.ne_of_gt hwi.1, hsz, hwi.2]
    · obtain ⟨m, hm⟩ := lmixed_ok cell i salt
      refine ⟨[some (.int cell), some (.int salt), some (.lst (ws.map .int)), some (.own (ds.map .int)), some (.int l), some (.int i)], [some (.int cell), some (.int salt), some (.lst (ws.map .int)), some (.own ((ds ++ [m.fmod ws[i]]).map .int)), some (.int l), some (.int i)], ?_, .inl ?_, ⟨_, _, _, ds' m, rfl⟩⟩
      · simp
      · simp [b_ldraws_0, hp, isOwn, ix, hm, Int.ne_of_gt hwi.1, hsz]
  have e0 : inR (ws.length : Int) = true := inR_of (by omega) (by omega)
  unfold f_ldraws
  by_cases hc : (1000000000000000000 : Int) ≤ (if cell < 0 then -cell else cell)
  · obtain ⟨ρ', h, ds, l, v, hd, rfl⟩ := key (if cell < 0 then -cell else cell)
    refine ⟨ds, by simpa using hd, mFn_ok ?_⟩
    · simp [m_ldraws, szOk_small, hc, e0, h]
  · obtain ⟨ρ', h, ds, l, v, hd, rfl⟩ := key 0
    refine ⟨ds, by simpa using hd, mFn_ok ?_⟩
    · simp [m_ldraws, szOk_small, hc, e0, h]
theorem draws_nil {ds : List Int} : DrawsAre [] ds ↔ ds = [] := by
  constructor
  · intro h; exact List.length_eq_zero_iff.mp h.1
  · rintro rfl; exact ⟨rfl, by simp⟩
theorem draws_cons {w : Int} {ws ds : List Int} : DrawsAre (w :: ws) ds ↔ ∃ d r, ds = d :: r ∧ (0 ≤ d ∧ d < w) ∧ DrawsAre ws r := by
  constructor
  · intro h
    match ds, h with
    | [], h => exact absurd h.1 (by simp)
    | d :: r, h =>
      refine ⟨d, r, rfl, h.2 0 (by simp) (by simp), by simpa using h.1, fun i h1 h2 => ?_⟩
      exact h.2 (i + 1) (by simpa using h1) (by simpa using h2)
  · rintro ⟨d, r, rfl, h1, h2⟩
    refine ⟨by simpa using h2.1, fun i a b => ?_⟩
    match i with
    | 0 => exact h1
    | i + 1 => exact h2.2 i (by simpa using a) (by simpa using b)
theorem ppower_eq {b : Int} {k : Int} (hb : -(2 ^ 64) < b ∧ b < 2 ^ 64) (hk : k < 2 ^ 40) (hk0 : -(2 ^ 40) < k) : f_ppower [.int b, .int k] = .ok (.int (b ^ k.toNat), []) := by
  obtain ⟨ρ', e, h⟩ := loop_rng (g := gSet 3) (b := b_ppower_0) (lo := 0) (c := 1) (n := k.toNat) (ρ := [some (.int b), some (.int k), some (.int 1), none])
    (fun i ρ => ∃ v, ρ = [some (.int b), some (.int k), some (.int (b ^ i)), v]) ⟨none, by simp⟩ (by
      rintro i ρ hi ⟨v, rfl⟩
      simp [mulOk_r hb.1 hb.2, Int.pow_succ, b_ppower_0])
  obtain ⟨v, rfl⟩ := h
  refine mFn_ok ?_
  simp [m_ppower, inR_of (i := k) (by omega) (by omega), e]
theorem pten_eq {k : Int} (hk : k < 2 ^ 40) (hk0 : -(2 ^ 40) < k) : f_ppower [.int 10, .int k] = .ok (.int (10 ^ k.toNat), []) := ppower_eq (by decide) hk hk0
theorem pfigures_of_eq (n k : Nat) (hk : k < 1000000) : f_pfigures_of [.int n, .int k] = .ok (.lst ((digsB k n).map fun d : Nat => MV.int d), []) := by
  refine mFn_ok ?_
  obtain ⟨ρ', e, v, rfl⟩ := loop_nxr (g := gSet 3) (b := b_pfigures_of_0) (lo := 0) (c := 1) (n := k) (ρ := [some (.int n), some (.int k), some (.own []), none])
    (fun i ρ => ∃ v, ρ = [some (.int (n / 10 ^ i : Nat)), some (.int k), some (.own ((digs i n).map fun d : Nat => MV.int d)), v]) ⟨none, by simp [digs]⟩ (by
      rintro i ρ hi ⟨v, rfl⟩
      have hz : (digs i n).length < sizeLine := by rw [sizeLine_eq, digs_len]; omega
      have h1 : ((n / 10 ^ i : Nat) : Int).fmod 10 = ((n / 10 ^ i % 10 : Nat) : Int) := nat_fmod _ 10
      have h2 : ((n / 10 ^ i : Nat) : Int).fdiv 10 = ((n / 10 ^ (i + 1) : Nat) : Int) := by rw [Nat.pow_succ, ← Nat.div_div_eq_div_mul]; exact nat_fdiv _ 10
      generalize hq : n / 10 ^ i = q at h1 h2
      generalize hq2 : n / 10 ^ (i + 1) = q2 at h2
      have h3 : digs (i + 1) n = digs i n ++ [q % 10] := by rw [digs_append, hq]
      simp [b_pfigures_of_0, hz, divOk, h1, h2, h3])
  simp [m_pfigures_of, szOk_small, inR_of (i := (k : Int)) (by omega) (by omega), e, digsB]
def Form (kd : Str) (n : Nat) (sg : Str) (p : MV) : MV := .tup [.str kd, .int n, .str sg, p]
def least (n : Nat) (sg : Str) : Int := if sg = "none" then 0 else if sg = "end" then 1 - 10 ^ n else -5 * 10 ^ (n - 1)
def most (n : Nat) (sg : Str) : Int := if sg = "tens" then 5 * 10 ^ (n - 1) - 1 else 10 ^ n - 1
theorem sg_ne1 : ¬ (("end" : Str) = "none") := by decide
theorem sg_ne2 : ¬ (("tens" : Str) = "none") := by decide
theorem sg_ne3 : ¬ (("tens" : Str) = "end") := by decide
theorem sg_ne4 : ¬ (("none" : Str) = "tens") := by decide
theorem sg_ne5 : ¬ (("end" : Str) = "tens") := by decide
theorem sg_ne6 : ¬ (("none" : Str) = "end") := by decide
section
variable {kd sg : Str} {n : Nat} {p : MV}
theorem at1 {a b c d : MV} : atI [a, b, c, d] 1 = some b := rfl
theorem at2 {a b c d : MV} : atI [a, b, c, d] 2 = some c := rfl
theorem pleast_eq (hn : 1 ≤ n) (h : n < 100) : f_pleast_of [Form kd n sg p] = .ok (.int (least n sg), []) := by
  refine mFn_ok ?_
  by_cases h1 : sg = "none"
  · simp [m_pleast_of, Form, at2, h1, least]
  · by_cases h2 : sg = "end"
    · simp [m_pleast_of, Form, at2, at1, h2, least, sg_ne1, pten_eq (k := n) (by omega) (by omega)]
    · have e : ((n : Int) - 1).toNat = n - 1 := by omega
      simp [m_pleast_of, Form, at2, at1, h1, h2, least, pten_eq (k := (n : Int) - 1) (by omega) (by omega), e, mulOk_l]
theorem pmost_eq (hn : 1 ≤ n) (h : n < 100) : f_pmost_of [Form kd n sg p] = .ok (.int (most n sg), []) := by
  refine mFn_ok ?_
  by_cases h2 : sg = "tens"
  · have e : ((n : Int) - 1).toNat = n - 1 := by omega
    simp [m_pmost_of, Form, at2, at1, h2, most, pten_eq (k := (n : Int) - 1) (by omega) (by omega), e, mulOk_l]
  · simp [m_pmost_of, Form, at2, at1, h2, most, pten_eq (k := n) (by omega) (by omega)]
theorem ten_pos (n : Nat) : (0 : Int) < 10 ^ n := Int.pow_pos (by decide)
end
def pairUp : List Nat → List Nat
  | a :: b :: r => (16 * a + b) :: pairUp r
  | _ => []
theorem pairUp_len : ∀ (q : Nat) (h : List Nat), h.length = 2 * q → (pairUp h).length = q
  | 0, h, e => by
    have : h = [] := List.length_eq_zero_iff.mp (by omega)
    subst this; rfl
  | q + 1, [], e => by simp at e
  | q + 1, [a], e => by simp at e; omega
  | q + 1, a :: b :: r, e => by
    show (pairUp r).length + 1 = q + 1
    rw [pairUp_len q r (by simp at e; omega)]
theorem pairUp_get : ∀ (q : Nat) (h : List Nat), h.length = 2 * q → pairUp h = (List.range q).map fun i => 16 * h.getD (2 * i) 0 + h.getD (2 * i + 1) 0
  | 0, h, e => by
    have : h = [] := List.length_eq_zero_iff.mp (by omega)
    subst this; rfl
  | q + 1, [], e => by simp at e
  | q + 1, [a], e => by simp at e; omega
  | q + 1, a :: b :: r, e => by
    rw [List.range_succ_eq_map, List.map_cons, List.map_map]
    show _ :: pairUp r = _
    rw [pairUp_get q r (by simp at e; omega)]
    congr 1
theorem rg_two (q : Nat) (hq : q < 1000000) : rgOk 0 (2 * q : Nat) 2 = true ∧ (Builtin.Range.rangeSize 0 (2 * q : Nat) 2).toNat = q := by
  have e : Builtin.Range.rangeSize 0 (2 * q : Nat) 2 = q := by
    unfold Builtin.Range.rangeSize
    rw [if_pos (by decide)]
    split <;> omega
  refine ⟨?_, by rw [e]; rfl⟩
  unfold rgOk
  rw [e]
  have e1 : Builtin.Range.small 0 (2 * q : Nat) 2 = true := by
    unfold Builtin.Range.small
    rw [e]
    simp [Builtin.Range.rangeFitsLong]
    omega
  rw [e1]
  simp
theorem pairs_comp {ρ : Env} {s v : Nat} {h : List Nat} {q : Nat} {a : MA} (hq : q < 1000000) (hl : h.length = 2 * q) (ha : (mR3 a) ρ = .ok (rngM 0 2 q, ρ)) (hs : ρ[s]? = some (some (.lst (h.map fun d : Nat => MV.int d)))) (hv : ρ[v]? = some none) (hsv : s ≠ v) :
    mLcO (mR3 a) (.nm v) (mYes) (mOp fAdd (mOp fMul (mC (.int 16)) (mOp fIx (mVar s) (mVar v))) (mOp fIx (mVar s) (mOp fAdd (mVar v) (mC (.int 1))))) [v] ρ = .ok (.own ((pairUp h).map fun d : Nat => MV.int d), ρ) := by
  rw [pairUp_get q h hl]
  have e : ((List.range q).map fun i => 16 * h.getD (2 * i) 0 + h.getD (2 * i + 1) 0).map (fun d : Nat => MV.int d) = (rngM 0 2 q).map fun x => match x with | .int k => MV.int ((16 * h.getD k.toNat 0 + h.getD (k.toNat + 1) 0 : Nat) : Int) | _ => .non := by
    unfold rngM
    rw [List.map_map, List.map_map]
    refine List.map_congr_left fun i _ => ?_
    show MV.int _ = MV.int _
    have z : (0 + (i : Int) * 2).toNat = 2 * i := by omega
    rw [z]
  rw [e]
  have lv : v < ρ.length := by
    by_cases z : v < ρ.length
    · exact z
    · rw [List.getElem?_eq_none (by omega)] at hv; cases hv
  refine mLcO_map _ ha (by simp [perAt, hv]) ?_ (by rw [rngM_len, sizeLine_eq]; omega)
  intro x hx
  obtain ⟨i, hi, rfl⟩ : ∃ i, i < q ∧ MV.int (0 + (i : Int) * 2) = x := by simpa [rngM] using hx
  have w : wipeM ρ [v] = ρ := by
    show ρ.set v none = ρ
    apply List.ext_getElem?
    intro j
    by_cases e : v = j
    · subst e; rw [List.getElem?_set_self lv, hv]
    · rw [List.getElem?_set_ne e]
  rw [w]
  refine ⟨ρ.set v (some (.int (0 + (i : Int) * 2))), by simp [setT, lv], ?_, ?_, by simp⟩
  · generalize hk : (0 + (i : Int) * 2) = k
    have g1 : (ρ.set v (some (MV.int k)))[s]? = some (some (.lst (h.map fun d : Nat => MV.int d))) := by rw [List.getElem?_set_ne (Ne.symm hsv)]; exact hs
    have g2 : (ρ.set v (some (MV.int k)))[v]? = some (some (MV.int k)) := List.getElem?_set_self lv
    generalize ρ.set v (some (MV.int k)) = ρ1 at g1 g2
    have z : k.toNat = 2 * i := by omega
    have a1 : atI (h.map fun d : Nat => MV.int d) k = some (.int (h.getD (2 * i) 0)) := by
      rw [atI_ge (by omega), z]
      simp [show 2 * i < h.length by omega]
    have a2 : atI (h.map fun d : Nat => MV.int d) (k + 1) = some (.int (h.getD (2 * i + 1) 0)) := by
      rw [atI_ge (by omega), show (k + 1).toNat = 2 * i + 1 by omega]
      simp [show 2 * i + 1 < h.length by omega]
    show _ = Res.ok (MV.int ((16 * h.getD k.toNat 0 + h.getD (k.toNat + 1) 0 : Nat) : Int), ρ1)
    rw [z]
    generalize h.getD (2 * i) 0 = p1 at *
    generalize h.getD (2 * i + 1) 0 = p2 at *
    cases ρ1 with
    | nil => simp at g1
    | cons r ρ1 => simp [g1, g2, a1, a2, mulOk_l]
  · show (ρ.set v _).set v none = ρ
    rw [List.set_set]
    exact w
def sizeM (n : Nat) (sg : Str) (x : Int) : Nat := if sg = "tens" then (x.fmod (10 ^ n)).natAbs else x.natAbs
def halfM (x : Int) : Nat := if x < 0 then 13 else 12
def inter (zs fs : List Nat) : List Nat := (List.zipWith (fun z f => [z, f]) zs fs).flatten
def zonesM (n : Nat) (sg : Str) (x : Int) : List Nat := if sg = "end" then (List.replicate n 15).set (n - 1) (halfM x) else List.replicate n 15
def manyM (n : Nat) (sg : Str) : Nat := n + if sg = "end" then 1 else 0
def packM (n : Nat) (sg : Str) (x : Int) : List Nat := List.replicate (manyM n sg % 2) 0 ++ digsB n (sizeM n sg x) ++ if sg = "end" then [halfM x] else []
def rowM (kd sg : Str) (n : Nat) (x : Int) : List Nat := if kd = "packed" then pairUp (packM n sg x) else List.zipWith (fun z f => 16 * z + f) (zonesM n sg x) (digsB n (sizeM n sg x))
theorem inter_len : ∀ (zs fs : List Nat), zs.length = fs.length → (inter zs fs).length = 2 * fs.length
  | [], [], _ => rfl
  | z :: zs, f :: fs, h => by
    show ([z, f] ++ inter zs fs).length = _
    rw [List.length_append, inter_len zs fs (by simpa using h)]
    simp; omega
  | [], _ :: _, h => by simp at h
  | _ :: _, [], h => by simp at h
theorem inter_pair : ∀ (zs fs : List Nat), zs.length = fs.length → pairUp (inter zs fs) = List.zipWith (fun z f => 16 * z + f) zs fs
  | [], [], _ => rfl
  | z :: zs, f :: fs, h => by
    show (16 * z + f) :: pairUp (inter zs fs) = _
    rw [inter_pair zs fs (by simpa using h)]
    rfl
  | [], _ :: _, h => by simp at h
  | _ :: _, [], h => by simp at h
theorem inter_set : ∀ (zs fs : List Nat) (k v : Nat), zs.length = fs.length → k < zs.length → (inter zs fs).set (2 * k) v = inter (zs.set k v) fs
  | [], [], k, v, _, hk => by simp at hk
  | z :: zs, f :: fs, 0, v, _, _ => rfl
  | z :: zs, f :: fs, k + 1, v, h, hk => by
    show (z :: f :: inter zs fs).set (2 * (k + 1)) v = z :: f :: inter (zs.set k v) fs
    rw [show 2 * (k + 1) = 2 * k + 1 + 1 by omega, List.set_cons_succ, List.set_cons_succ, inter_set zs fs k v (by simpa using h) (by simpa using hk)]
  | [], _ :: _, _, _, h, _ => by simp at h
  | _ :: _, [], _, _, h, _ => by simp at h
theorem inter_15 : ∀ fs : List Nat, inter (List.replicate fs.length 15) fs = (fs.map fun f => [15, f]).flatten
  | [] => rfl
  | f :: fs => by
    show 15 :: f :: inter (List.replicate fs.length 15) fs = _
    rw [inter_15 fs]; rfl
theorem many_even (m : Nat) : m % 2 + m = 2 * ((m + 1) / 2) := by omega
theorem pack_len (n : Nat) (sg : Str) (x : Int) : (packM n sg x).length = 2 * ((manyM n sg + 1) / 2) := by
  rw [← many_even]
  unfold packM
  by_cases h : sg = "end"
  · simp [h, manyM, digsB_len]
  · simp [h, manyM, digsB_len]
theorem zones_len (n : Nat) (sg : Str) (x : Int) : (zonesM n sg x).length = n := by
  unfold zonesM; split <;> simp
theorem psign_half_eq (x : Int) : f_psign_half [.int x] = .ok (.int (halfM x), []) := by
  refine mFn_ok ?_
  by_cases h : x < 0
  · simp [m_psign_half, halfM, h]
  · simp [m_psign_half, halfM, h]
section
variable {kd sg : Str} {n : Nat} {p : MV}
theorem phalves_of_eq : f_phalves_of [Form kd n sg p] = .ok (.tup [.int (manyM n sg + manyM n sg % 2 : Nat), .int (manyM n sg % 2 : Nat)], []) := by
  refine mFn_ok ?_
  have e : ((manyM n sg : Nat) : Int).fmod 2 = (manyM n sg % 2 : Nat) := nat_fmod _ 2
  unfold Form
  by_cases h : sg = "end"
  · have z : (n : Int) + 1 = (manyM n sg : Nat) := by simp [manyM, h]
    subst h
    simp [m_phalves_of, z, e, szOk_small]
  · have z : (n : Int) + 0 = (manyM n sg : Nat) := by simp [manyM, h]
    have z' : (n : Int) = (manyM n sg : Nat) := by simp [manyM, h]
    simp [m_phalves_of, h, szOk_small]
    rw [z', e]
    simp
theorem abs_nat (x : Int) : (if x < 0 then -x else x) = (x.natAbs : Int) := by split <;> omega
theorem pk_loop (fs : List Nat) (hf : fs.length < 1000) (a b c d e : Option MV) : ∃ d', mLoop (gSet 4) b_pkept_halves_0 (fs.map fun d : Nat => MV.int d) [a, b, c, some (.own []), d, e] = .ok (.nx, [a, b, c, some (.own (((fs.map fun f => [15, f]).flatten).map fun d : Nat => MV.int d)), d', e]) := by
  obtain ⟨⟨z', h⟩, _⟩ := loop_junk (σ := List Nat) (β := Option MV) (g := gSet 4) (b := b_pkept_halves_0) (fun s z => [a, b, c, some (.own (s.map fun d : Nat => MV.int d)), z, e]) (fun d : Nat => MV.int d) (fun s f => s ++ [15, f]) (fun k s => s.length = 2 * k) fs [] d rfl (by
    intro i s z x hx hi hlt
    have hz : s.length + 2 ≤ sizeLine := by rw [sizeLine_eq]; omega
    refine ⟨by simp [hi]; omega, _, by simp; rfl, some (.int x), ?_⟩
    have hz' := szOk_iff.mpr hz
    simp [b_pkept_halves_0, lmExtend, szOk_small, hz, hz', isOwn])
  have e1 : ∀ (l : List Nat) (acc : List Nat), l.foldl (fun s f => s ++ [15, f]) acc = acc ++ (l.map fun f => [15, f]).flatten := by
    intro l
    induction l with
    | nil => intro acc; simp
    | cons x l ih => intro acc; rw [List.foldl_cons, ih]; simp
  rw [e1, List.nil_append] at h
  exact ⟨z', h⟩
end
section
variable {kd sg : Str} {n : Nat} {p : MV}
theorem tens_ne_end : ¬ (("tens" : Str) = "end") := by decide
theorem fig_of (x : Int) (hn : n < 100) : f_pfigures_of [.int (x.natAbs : Int), .int n] = .ok (.lst ((digsB n x.natAbs).map fun d : Nat => MV.int d), []) := pfigures_of_eq x.natAbs n (by omega)
theorem pkept_halves_packed (h1 : 1 ≤ n ∧ n < 100) (x : Int) : f_pkept_halves [Form "packed" n sg p, .int x] = .ok (.lst ((packM n sg x).map fun d : Nat => MV.int d), []) := by
  refine mFn_ok ?_
  have t1 := pten_eq (k := (n : Int)) (by omega) (by omega)
  simp at t1
  have ho := @phalves_of_eq "packed" sg n p
  have hm : manyM n sg % 2 < 2 := Nat.mod_lt _ (by decide)
  have hp := ten_pos n
  have hpz : ¬ ((10 : Int) ^ n = 0) := by omega
  unfold Form at ho
  simp at ho
  have r0 := @fMul_1 (.int 0) (manyM n sg % 2) (by omega)
  simp at r0
  have s1 : szOk (manyM n sg % 2 + n) = true := szOk_small (by omega)
  have s2 : szOk (manyM n sg % 2 + n + 1) = true := szOk_small (by omega)
  by_cases hs : sg = "tens"
  · subst hs
    have a1 := abs_nat (x.fmod (10 ^ n))
    have f1 := fig_of (n := n) (x.fmod (10 ^ n)) h1.2
    have q1 := psign_half_eq (x.fmod (10 ^ n))
    simp [m_pkept_halves, Form, t1, hpz, a1, f1, q1, ho, tens_ne_end, szOk_small, r0, s1, digsB_len, packM, sizeM]
  · have a1 := abs_nat x
    have f1 := fig_of (n := n) x h1.2
    have q1 := psign_half_eq x
    by_cases he : sg = "end"
    · subst he
      simp [m_pkept_halves, Form, hs, a1, f1, q1, ho, szOk_small, r0, s1, s2, digsB_len, packM, sizeM]
    · simp [m_pkept_halves, Form, hs, he, a1, f1, q1, ho, szOk_small, r0, s1, digsB_len, packM, sizeM]
end
section
variable {kd sg : Str} {n : Nat} {p : MV}
theorem spread_ne : ¬ (("spread" : Str) = "packed") := by decide
theorem ixN_neg2 {k : Nat} (h : 1 ≤ k) : ixN (2 * k) (-2) = some (2 * (k - 1)) := by
  unfold ixN
  rw [if_neg (by decide), if_pos (by omega)]
  congr 1
  omega
theorem map_set {α β : Type} (f : α → β) (l : List α) (k : Nat) (v : α) : (l.set k v).map f = (l.map f).set k (f v) := List.map_set ..
theorem pkept_halves_spread (h1 : 1 ≤ n ∧ n < 100) (x : Int) : f_pkept_halves [Form "spread" n sg p, .int x] = .ok (.own ((inter (zonesM n sg x) (digsB n (sizeM n sg x))).map fun d : Nat => MV.int d), []) := by
  refine mFn_ok ?_
  have t1 := pten_eq (k := (n : Int)) (by omega) (by omega)
  simp at t1
  have hp := ten_pos n
  have hpz : ¬ ((10 : Int) ^ n = 0) := by omega
  have lp : ∀ m : Nat, ∀ a b c d e : Option MV, ∃ d', mLoop (gSet 4) b_pkept_halves_0 ((digsB n m).map fun d : Nat => MV.int d) [a, b, c, some (.own []), d, e] = .ok (.nx, [a, b, c, some (.own ((inter (List.replicate n 15) (digsB n m)).map fun d : Nat => MV.int d)), d', e]) := by
    intro m a b c d e
    have := pk_loop (digsB n m) (by rw [digsB_len]; omega) a b c d e
    rw [← inter_15, digsB_len] at this
    exact this
  have il : ∀ m : Nat, (inter (List.replicate n 15) (digsB n m)).length = 2 * n := fun m => by rw [inter_len _ _ (by simp [digsB_len]), digsB_len]
  by_cases hs : sg = "tens"
  · subst hs
    have a1 := abs_nat (x.fmod (10 ^ n))
    have f1 := fig_of (n := n) (x.fmod (10 ^ n)) h1.2
    obtain ⟨d', l1⟩ := lp (x.fmod (10 ^ n)).natAbs (some (Form "spread" n "tens" p)) (some (.int (x.fmod (10 ^ n)))) (some (.lst ((digsB n (x.fmod (10 ^ n)).natAbs).map fun d : Nat => MV.int d))) none none
    unfold Form at l1
    simp [m_pkept_halves, Form, t1, hpz, a1, f1, tens_ne_end, szOk_small, spread_ne, l1, zonesM, sizeM]
  · have a1 := abs_nat x
    have f1 := fig_of (n := n) x h1.2
    have q1 := psign_half_eq x
    obtain ⟨d', l1⟩ := lp x.natAbs (some (Form "spread" n sg p)) (some (.int x)) (some (.lst ((digsB n x.natAbs).map fun d : Nat => MV.int d))) none none
    unfold Form at l1
    by_cases he : sg = "end"
    · subst he
      have z1 := ixN_neg2 h1.1
      have z2 := inter_set (List.replicate n 15) (digsB n x.natAbs) (n - 1) (halfM x) (by simp [digsB_len]) (by simp; omega)
      have z3 : ∀ ρ : Env, ρ[3]? = some (some (.own ((inter (List.replicate n 15) (digsB n x.natAbs)).map fun d : Nat => MV.int d))) → setIxM 3 (.int (halfM x : Nat)) (.int (-2)) ρ = .ok (.nx, ρ.set 3 (some (.own ((inter ((List.replicate n 15).set (n - 1) (halfM x)) (digsB n x.natAbs)).map fun d : Nat => MV.int d)))) := fun ρ h => by
        rw [setIxM_o h (j := 2 * (n - 1)) (by rw [List.length_map, il]; exact z1), ← z2, map_set]
      simp [m_pkept_halves, Form, hs, a1, f1, q1, szOk_small, spread_ne, l1, zonesM, sizeM, z3]
    · simp [m_pkept_halves, Form, hs, he, a1, f1, szOk_small, spread_ne, l1, zonesM, sizeM]
theorem pfits_eq (h1 : 1 ≤ n ∧ n < 100) (x : Int) : f_pfits [Form kd n sg p, .int x] = .ok (.bl (decide (least n sg ≤ x) && decide (x ≤ most n sg)), []) := by
  refine mFn_ok ?_
  have a := @pleast_eq kd sg n p h1.1 h1.2
  have b := @pmost_eq kd sg n p h1.1 h1.2
  unfold Form at a b
  by_cases c : least n sg ≤ x
  · simp [m_pfits, Form, a, b, c]
  · simp [m_pfits, Form, a, b, c]
end
section
variable {kd sg : Str} {n : Nat} {p : MV}
def halvesM (kd sg : Str) (n : Nat) (x : Int) : List Nat := if kd = "packed" then packM n sg x else inter (zonesM n sg x) (digsB n (sizeM n sg x))
def roomM (kd sg : Str) (n : Nat) : Nat := if kd = "packed" then (manyM n sg + 1) / 2 else n
theorem halves_len (x : Int) : (halvesM kd sg n x).length = 2 * roomM kd sg n := by
  unfold halvesM roomM
  split
  · exact pack_len n sg x
  · rw [inter_len _ _ (by rw [zones_len, digsB_len]), digsB_len]
theorem row_pair (x : Int) : pairUp (halvesM kd sg n x) = rowM kd sg n x := by
  unfold halvesM rowM
  split
  · rfl
  · rw [inter_pair _ _ (by rw [zones_len, digsB_len])]
theorem row_len (x : Int) : (rowM kd sg n x).length = roomM kd sg n := by rw [← row_pair, pairUp_len _ _ (halves_len x)]
theorem room_small (h : n < 100) : roomM kd sg n < 1000 := by
  unfold roomM manyM
  split <;> (try split) <;> omega
theorem pkept_eq (hk : kd = "packed" ∨ kd = "spread") (h1 : 1 ≤ n ∧ n < 100) (x : Int) (hf : least n sg ≤ x ∧ x ≤ most n sg) : f_pkept [Form kd n sg p, .int x] = .ok (.tup ((rowM kd sg n x).map fun d : Nat => MV.int d), []) := by
  refine mFn_ok ?_
  have a := @pfits_eq kd sg n p h1 x
  have hl := @halves_len kd sg n x
  have hr := @room_small kd sg n h1.2
  have g := rg_two (roomM kd sg n) (by omega)
  have c := pairs_comp (ρ := [some (Form kd n sg p), some (.int x), some (.lst ((halvesM kd sg n x).map fun d : Nat => MV.int d)), none]) (s := 2) (v := 3) (h := halvesM kd sg n x) (q := roomM kd sg n) (a := mCons (mC (.int 0)) (mCons (mBlt bLen (mCons (mVar 2) (mNil))) (mCons (mC (.int 2)) (mNil)))) (by omega) hl (by
    have g1 := g.1
    have g2 := g.2
    simp at g1 g2
    simp [hl, g1, g2]) rfl rfl (by decide)
  rw [row_pair] at c
  have fz1 : ∃ V, fz V = some (.lst ((halvesM kd sg n x).map fun d : Nat => MV.int d)) ∧ f_pkept_halves [Form kd n sg p, .int x] = .ok (V, []) := by
    rcases hk with rfl | rfl
    · exact ⟨_, by simp [halvesM], pkept_halves_packed h1 x⟩
    · exact ⟨_, by simp [halvesM, spread_ne], pkept_halves_spread h1 x⟩
  obtain ⟨V, v1, v2⟩ := fz1
  unfold Form at a c v2
  simp [m_pkept, Form, a, hf.1, hf.2, v1, v2, c]
end
theorem half_le (x : Int) : halfM x < 16 := by unfold halfM; split <;> decide
theorem pairUp_lt : ∀ h : List Nat, (∀ d ∈ h, d < 16) → ∀ b ∈ pairUp h, b < 256
  | [], _, b, hb => by simp [pairUp] at hb
  | [_], _, b, hb => by simp [pairUp] at hb
  | x :: y :: r, h, b, hb => by
    have h1 := h x (by simp)
    have h2 := h y (by simp)
    rcases List.mem_cons.mp (show b ∈ (16 * x + y) :: pairUp r from hb) with rfl | hb
    · omega
    · exact pairUp_lt r (fun d hd => h d (by simp [hd])) b hb
theorem inter_lt : ∀ (zs fs : List Nat), (∀ d ∈ zs, d < 16) → (∀ d ∈ fs, d < 16) → ∀ d ∈ inter zs fs, d < 16
  | [], _, _, _, d, h => by simp [inter] at h
  | _ :: _, [], _, _, d, h => by simp [inter] at h
  | z :: zs, f :: fs, hz, hf, d, h => by
    have h : d ∈ z :: f :: inter zs fs := h
    rcases List.mem_cons.mp h with rfl | h
    · exact hz _ (by simp)
    · rcases List.mem_cons.mp h with rfl | h
      · exact hf _ (by simp)
      · exact inter_lt zs fs (fun e he => hz e (by simp [he])) (fun e he => hf e (by simp [he])) d h
theorem row_lt (kd sg : Str) (n : Nat) (x : Int) : ∀ b ∈ rowM kd sg n x, b < 256 := by
  rw [← row_pair]
  refine pairUp_lt _ ?_
  have hd : ∀ m : Nat, ∀ d ∈ digsB n m, d < 16 := fun m d h => by have := digsB_lt h; omega
  have hh := half_le x
  unfold halvesM
  split
  · intro d h
    unfold packM at h
    rcases List.mem_append.mp h with h | h
    · rcases List.mem_append.mp h with h | h
      · have := List.eq_of_mem_replicate h; omega
      · exact hd _ d h
    · split at h
      · have : d = halfM x := by simpa using h
        omega
      · simp at h
  · refine inter_lt _ _ ?_ (hd _)
    intro d h
    unfold zonesM at h
    split at h
    · rcases List.mem_or_eq_of_mem_set h with h | h
      · have := List.eq_of_mem_replicate h; omega
      · omega
    · have := List.eq_of_mem_replicate h; omega
theorem okD_row (xs : List Nat) : (xs.map fun d : Nat => MV.int d).all (okD 20) = true := by
  rw [List.all_map]
  exact List.all_eq_true.mpr fun d _ => okD_i
def halvesOf (row : List Nat) : List Nat := (row.map fun b => [b / 16, b % 16]).flatten
theorem halvesOf_len (row : List Nat) : (halvesOf row).length = 2 * row.length := by
  unfold halvesOf
  induction row with
  | nil => rfl
  | cons b r ih => simp [List.length_append] at ih ⊢; omega
theorem halvesOf_pair : ∀ (q : Nat) (h : List Nat), h.length = 2 * q → (∀ d ∈ h, d < 16) → halvesOf (pairUp h) = h
  | 0, h, e, _ => by
    have : h = [] := List.length_eq_zero_iff.mp (by omega)
    subst this; rfl
  | q + 1, [], e, _ => by simp at e
  | q + 1, [a], e, _ => by simp at e; omega
  | q + 1, a :: b :: r, e, hd => by
    have h1 := hd a (by simp)
    have h2 := hd b (by simp)
    show [(16 * a + b) / 16, (16 * a + b) % 16] ++ halvesOf (pairUp r) = a :: b :: r
    rw [halvesOf_pair q r (by simp at e; omega) (fun d hd' => hd d (by simp [hd'])), show (16 * a + b) / 16 = a by omega, show (16 * a + b) % 16 = b by omega]
    rfl
theorem phalves_in_eq (row : List Nat) (hl : row.length ≤ 1000000) : f_phalves_in [.tup (row.map fun d : Nat => MV.int d)] = .ok (.own ((halvesOf row).map fun d : Nat => MV.int d), []) := by
  refine mFn_ok ?_
  obtain ⟨⟨z', h⟩, _⟩ := loop_junk (σ := List Nat) (β := Option MV) (g := gSet 2) (b := b_phalves_in_0) (fun s z => [some (.tup (row.map fun d : Nat => MV.int d)), some (.own (s.map fun d : Nat => MV.int d)), z]) (fun d : Nat => MV.int d) (fun s b => s ++ [b / 16, b % 16]) (fun k s => s.length = 2 * k) row [] none rfl (by
    intro i s z x hx hi hlt
    have hz : s.length + 2 ≤ sizeLine := by rw [sizeLine_eq]; omega
    refine ⟨by simp [hi]; omega, _, by simp; rfl, some (.int x), ?_⟩
    have hz' := szOk_iff.mpr hz
    have h1 : (x : Int).fdiv 16 = ((x / 16 : Nat) : Int) := nat_fdiv _ 16
    have h2 : (x : Int).fmod 16 = ((x % 16 : Nat) : Int) := nat_fmod _ 16
    generalize x / 16 = q1 at *
    generalize x % 16 = q2 at *
    simp [b_phalves_in_0, lmExtend, szOk_small, hz, hz', isOwn, divOk, h1, h2])
  have e1 : ∀ (l : List Nat) (acc : List Nat), l.foldl (fun s b => s ++ [b / 16, b % 16]) acc = acc ++ halvesOf l := by
    intro l
    induction l with
    | nil => intro acc; simp [halvesOf]
    | cons x l ih => intro acc; rw [List.foldl_cons, ih]; simp [halvesOf]
  rw [e1, List.nil_append] at h
  simp [m_phalves_in, szOk_small] at h ⊢
  simp [h]
def interG {α : Type} (zs fs : List α) : List α := (List.zipWith (fun z f => [z, f]) zs fs).flatten
theorem interG_cons {α : Type} (z f : α) (zs fs : List α) : interG (z :: zs) (f :: fs) = z :: f :: interG zs fs := rfl
theorem interG_len {α : Type} : ∀ (zs fs : List α), zs.length = fs.length → (interG zs fs).length = 2 * fs.length
  | [], [], _ => rfl
  | z :: zs, f :: fs, h => by
    rw [interG_cons, List.length_cons, List.length_cons, interG_len zs fs (by simpa using h)]
    simp; omega
  | [], _ :: _, h => by simp at h
  | _ :: _, [], h => by simp at h
theorem interG_set {α : Type} : ∀ (zs fs : List α) (k : Nat) (v : α), zs.length = fs.length → k < zs.length → (interG zs fs).set (2 * k) v = interG (zs.set k v) fs
  | [], [], k, v, _, hk => by simp at hk
  | z :: zs, f :: fs, 0, v, _, _ => rfl
  | z :: zs, f :: fs, k + 1, v, h, hk => by
    rw [interG_cons, show 2 * (k + 1) = 2 * k + 1 + 1 by omega, List.set_cons_succ, List.set_cons_succ, interG_set zs fs k v (by simpa using h) (by simpa using hk)]
    rfl
  | [], _ :: _, _, _, h, _ => by simp at h
  | _ :: _, [], _, _, h, _ => by simp at h
theorem interG_rep {α : Type} (z f : α) : ∀ n : Nat, (List.replicate n [z, f]).flatten = interG (List.replicate n z) (List.replicate n f)
  | 0 => rfl
  | n + 1 => by
    rw [List.replicate_succ, List.flatten_cons, interG_rep z f n]
    rfl
theorem interG_map {α β : Type} (g : α → β) : ∀ (zs fs : List α), (interG zs fs).map g = interG (zs.map g) (fs.map g)
  | [], fs => by cases fs <;> rfl
  | z :: zs, [] => rfl
  | z :: zs, f :: fs => by
    rw [interG_cons, List.map_cons, List.map_cons, interG_map g zs fs]
    rfl
def zoneD (n : Nat) (sg : Str) : List Str := if sg = "end" then (List.replicate n ("zone" : Str)).set (n - 1) "sign" else List.replicate n "zone"
def dutiesM (kd sg : Str) (n : Nat) : List Str := if kd = "packed" then List.replicate (manyM n sg % 2) ("ahead" : Str) ++ List.replicate n ("figure" : Str) ++ (if sg = "end" then [("sign" : Str)] else []) else interG (zoneD n sg) (List.replicate n ("figure" : Str))
theorem zoneD_len (n : Nat) (sg : Str) : (zoneD n sg).length = n := by unfold zoneD; split <;> simp
theorem duties_len (kd sg : Str) (n : Nat) : (dutiesM kd sg n).length = 2 * roomM kd sg n := by
  unfold dutiesM roomM
  split
  · rw [← many_even]
    by_cases h : sg = "end"
    · simp [h, manyM, Nat.add_assoc]
    · simp [h, manyM]
  · rw [interG_len _ _ (by rw [zoneD_len, List.length_replicate])]; simp
theorem pduties_eq {kd sg : Str} {n : Nat} {p : MV} (hk : kd = "packed" ∨ kd = "spread") (h1 : 1 ≤ n ∧ n < 100) : ∃ V, fz V = some (.lst ((dutiesM kd sg n).map MV.str)) ∧ f_pduties [Form kd n sg p] = .ok (V, []) := by
  have r1 := @fMul_1 (.str "figure") n (by omega)
  have hm : manyM n sg % 2 < 2 := Nat.mod_lt _ (by decide)
  have r0 := @fMul_1 (.str "ahead") (manyM n sg % 2) (by omega)
  simp at r0
  have ho := @phalves_of_eq kd sg n p
  unfold Form at ho
  simp at ho
  rcases hk with rfl | rfl
  · refine ⟨.lst _, rfl, mFn_ok ?_⟩
    have s1 : szOk (manyM n sg % 2 + n) = true := szOk_small (by omega)
    have s2 : szOk (manyM n sg % 2 + n + 1) = true := szOk_small (by omega)
    by_cases he : sg = "end"
    · subst he
      simp [m_pduties, Form, ho, r0, r1, szOk_small, s1, s2, dutiesM]
    · simp [m_pduties, Form, ho, r0, r1, szOk_small, s1, s2, dutiesM, he]
  · refine ⟨.own _, rfl, mFn_ok ?_⟩
    have r2 : fMultL (.lst [.str "zone", .str "figure"]) (.int n) = some (interG ((List.replicate n ("zone" : Str)).map MV.str) ((List.replicate n ("figure" : Str)).map MV.str)) := by
      rw [fMultL_l (by omega) (by omega) (szOk_small (by simp; omega))]
      simp only [Int.toNat_natCast]
      rw [interG_rep, List.map_replicate, List.map_replicate]
    have dm : ∀ zs : List Str, (interG zs (List.replicate n ("figure" : Str))).map MV.str = interG (zs.map MV.str) ((List.replicate n ("figure" : Str)).map MV.str) := fun zs => interG_map _ _ _
    by_cases he : sg = "end"
    · subst he
      have z3 : ∀ ρ : Env, ρ[1]? = some (some (.own (interG ((List.replicate n ("zone" : Str)).map MV.str) ((List.replicate n ("figure" : Str)).map MV.str)))) → setIxM 1 (.str "sign") (.int (-2)) ρ = .ok (.nx, ρ.set 1 (some (.own ((dutiesM "spread" "end" n).map MV.str)))) := fun ρ h => by
        rw [setIxM_o h (j := 2 * (n - 1)) (by rw [interG_len _ _ (by simp)]; simp only [List.length_map, List.length_replicate]; exact ixN_neg2 h1.1), interG_set _ _ _ _ (by simp) (by simp; omega)]
        unfold dutiesM zoneD
        rw [if_neg spread_ne, if_pos rfl, dm, List.map_set]
      simp only [List.map_replicate] at r2 z3
      simp [m_pduties, Form, spread_ne, szOk_small, r2, z3]
    · have : (dutiesM "spread" sg n).map MV.str = interG ((List.replicate n ("zone" : Str)).map MV.str) ((List.replicate n ("figure" : Str)).map MV.str) := by
        unfold dutiesM zoneD
        rw [if_neg spread_ne, if_neg he, dm]
      rw [this]
      simp only [List.map_replicate] at r2 ⊢
      simp [m_pduties, Form, spread_ne, szOk_small, r2, he]
def rightM (d : Str) (h : Nat) : Bool := if d = "ahead" then decide (h = 0) else if d = "figure" then decide (h < 10) else if d = "zone" then decide (h = 15) else decide (9 < h)
def scanM (due : List Str) : Nat → List Nat → Option (Nat × Str)
  | _, [] => none
  | k, h :: hs => if due.length ≤ k then some (k, "length") else if rightM (due.getD k "") h then scanM due (k + 1) hs else some (k, due.getD k "")
def caughtM (due : List Str) (hs : List Nat) : Option (Nat × Str) := match scanM due 0 hs with
  | some r => some r
  | none => if hs.length < due.length then some (hs.length, "length") else none
def encR (r : Nat × Str) : MV := .tup [.int r.1, .str r.2]
def encO : Option (Nat × Str) → MV
  | some r => encR r
  | none => .non
theorem phalf_right_eq (d : Str) (h : Nat) : f_phalf_right [.str d, .int h] = .ok (.bl (rightM d h), []) := by
  refine mFn_ok ?_
  unfold rightM
  by_cases h1 : d = "ahead"
  · subst h1; simp [m_phalf_right]
  · by_cases h2 : d = "figure"
    · subst h2; simp [m_phalf_right, h1]; omega
    · by_cases h3 : d = "zone"
      · subst h3; simp [m_phalf_right, h1, h2]; omega
      · simp [m_phalf_right, h1, h2, h3]; omega
theorem due_at {due : List Str} {k : Nat} (h : k < due.length) : atI (due.map MV.str) (k : Int) = some (.str (due.getD k "")) := by
  rw [atI_ge (by omega)]
  simp [h]
theorem caught_loop (due : List Str) (a b c : Option MV) : ∀ (hs : List Nat) (k : Nat) (e f : Option MV), match scanM due k hs with
    | some r => ∃ ρ', mLoop (gTp 2 (gsCons (gSet 4) (gsCons (gSet 5) gsNil))) b_pcaught_0 (enumFrom k (hs.map fun d : Nat => MV.int d)) [a, b, some (.lst (due.map MV.str)), c, e, f] = .ok (.rt (encR r), ρ')
    | none => ∃ e' f', mLoop (gTp 2 (gsCons (gSet 4) (gsCons (gSet 5) gsNil))) b_pcaught_0 (enumFrom k (hs.map fun d : Nat => MV.int d)) [a, b, some (.lst (due.map MV.str)), c, e, f] = .ok (.nx, [a, b, some (.lst (due.map MV.str)), c, e', f'])
  | [], k, e, f => ⟨e, f, rfl⟩
  | h :: hs, k, e, f => by
    unfold scanM
    have step : mLoop (gTp 2 (gsCons (gSet 4) (gsCons (gSet 5) gsNil))) b_pcaught_0 (enumFrom k ((h :: hs).map fun d : Nat => MV.int d)) [a, b, some (.lst (due.map MV.str)), c, e, f] =
      (b_pcaught_0 [a, b, some (.lst (due.map MV.str)), c, some (.int k), some (.int h)]).bind fun f' ρ2 => match f' with
        | .nx => mLoop (gTp 2 (gsCons (gSet 4) (gsCons (gSet 5) gsNil))) b_pcaught_0 (enumFrom (k + 1) (hs.map fun d : Nat => MV.int d)) ρ2
        | .ct => mLoop (gTp 2 (gsCons (gSet 4) (gsCons (gSet 5) gsNil))) b_pcaught_0 (enumFrom (k + 1) (hs.map fun d : Nat => MV.int d)) ρ2
        | .br => .ok (.nx, ρ2)
        | .rt v => .ok (.rt v, ρ2) := rfl
    rw [step]
    by_cases h1 : due.length ≤ k
    · rw [if_pos h1]
      simp [b_pcaught_0, h1, szOk_small, encR]
    · rw [if_neg h1]
      have h1' : ¬ ((due.length : Int) ≤ k) := by omega
      have d1 := due_at (due := due) (k := k) (by omega)
      have d2 := phalf_right_eq (due.getD k "") h
      generalize due.getD k "" = w at d1 d2
      cases hr : rightM w h with
      | true =>
        have ih := caught_loop due a b c hs (k + 1) (some (.int k)) (some (.int h))
        rw [hr] at d2
        simp [b_pcaught_0, h1, d1, d2] at ih ⊢
        exact ih
      | false =>
        rw [hr] at d2
        simp [b_pcaught_0, h1, d1, d2, szOk_small, encR]
theorem pcaught_eq {kd sg : Str} {n : Nat} {p : MV} (hk : kd = "packed" ∨ kd = "spread") (h1 : 1 ≤ n ∧ n < 100) (row : List Nat) (hl : row.length ≤ 100000) :
    f_pcaught [Form kd n sg p, .tup (row.map fun d : Nat => MV.int d)] = .ok (encO (caughtM (dutiesM kd sg n) (halvesOf row)), []) := by
  obtain ⟨V, v1, v2⟩ := @pduties_eq kd sg n p hk h1
  have i1 := phalves_in_eq row (by omega)
  have lp := caught_loop (dutiesM kd sg n) (some (Form kd n sg p)) (some (.tup (row.map fun d : Nat => MV.int d))) (some (.lst ((halvesOf row).map fun d : Nat => MV.int d))) (halvesOf row) 0 none none
  have hlen := halvesOf_len row
  generalize halvesOf row = hs at *
  generalize dutiesM kd sg n = due at *
  generalize hfm : Form kd n sg p = fm at *
  obtain ⟨fx, rfl⟩ : ∃ fx, fm = .tup fx := ⟨_, hfm.symm⟩
  refine mFn_ok ?_
  unfold caughtM
  cases e : scanM due 0 hs with
  | some r =>
    rw [e] at lp
    obtain ⟨ρ', lp⟩ := lp
    simp [m_pcaught, v1, v2, i1, lp, encO]
  | none =>
    rw [e] at lp
    obtain ⟨e', f', lp⟩ := lp
    by_cases hlt : hs.length < due.length
    · simp [m_pcaught, v1, v2, i1, lp, encO, hlt, szOk_small, encR]
    · simp [m_pcaught, v1, v2, i1, lp, encO, hlt]
def figsM (due : List Str) (hs : List Nat) : List Nat := ((due.zip hs).filter fun q : Str × Nat => decide (q.1 = "figure")).map (·.2)
def numB (fs : List Nat) : Nat := fs.foldl (fun a d => a * 10 + d) 0
def signAt (due : List Str) : Nat := (due.findIdx? fun s : Str => decide (s = "sign")).getD 0
def valueM (sg : Str) (n : Nat) (due : List Str) (hs : List Nat) : Int :=
  if sg = "end" ∧ (hs.getD (signAt due) 0 = 11 ∨ hs.getD (signAt due) 0 = 13) then -(numB (figsM due hs) : Int)
  else if sg = "tens" ∧ 4 < (figsM due hs).getD 0 0 then (numB (figsM due hs) : Int) - 10 ^ n
  else numB (figsM due hs)
theorem figs_range : ∀ (due : List Str) (hs : List Nat), due.length = hs.length → figsM due hs = ((List.range hs.length).filter fun i => decide (due.getD i "" = "figure")).map fun i => hs.getD i 0
  | [], [], _ => rfl
  | d :: due, h :: hs, e => by
    have ih := figs_range due hs (by simpa using e)
    unfold figsM at ih ⊢
    rw [List.length_cons, List.range_succ_eq_map, List.zip_cons_cons]
    by_cases hd : d = "figure"
    · rw [List.filter_cons_of_pos (by simpa using hd), List.filter_cons_of_pos (by simpa using hd), List.map_cons, List.map_cons, ih, List.filter_map, List.map_map]
      rfl
    · rw [List.filter_cons_of_neg (by simpa using hd), List.filter_cons_of_neg (by simpa using hd), ih, List.filter_map, List.map_map]
      rfl
  | [], _ :: _, e => by simp at e
  | _ :: _, [], e => by simp at e
theorem pnumber_by_eq (fs : List Nat) : f_pnumber_by [.int 10, .lst (fs.map fun d : Nat => MV.int d)] = .ok (.int (numB fs), []) := by
  refine mFn_ok ?_
  obtain ⟨⟨z', h⟩, _⟩ := loop_junk (σ := Nat) (β := Option MV) (g := gSet 3) (b := b_pnumber_by_0) (fun s z => [some (.int 10), some (.lst (fs.map fun d : Nat => MV.int d)), some (.int s), z]) (fun d : Nat => MV.int d) (fun s d => s * 10 + d) (fun _ _ => True) fs 0 none trivial (by
    intro i s z x hx hi hlt
    refine ⟨trivial, _, by simp; rfl, some (.int x), ?_⟩
    have h1 := mulOk_r (i := (s : Int)) (j := 10) (by decide) (by decide)
    simp [b_pnumber_by_0, h1])
  simp at h
  simp [m_pnumber_by, h, numB]
theorem fIn_sgn (h : Int) : fIn (.int h) (.tup [.int 11, .int 13]) = some (.bl (decide (h = 11 ∨ h = 13))) := by
  by_cases e1 : h = 11
  · subst e1; rfl
  · by_cases e2 : h = 13
    · subst e2; rfl
    · have a1 : (11 == h) = false := by simp; omega
      have a2 : (13 == h) = false := by simp; omega
      simp [fIn, inA, inM, flatM, eqFlat, e1, e2, a1, a2]
theorem numB_app (fs : List Nat) (d : Nat) : numB (fs ++ [d]) = numB fs * 10 + d := by simp [numB]
theorem numB_digs : ∀ n m : Nat, numB (digsB n m) = m % 10 ^ n
  | 0, m => by simp [digsB, digs, numB, Nat.mod_one]
  | n + 1, m => by
    rw [digsB_step, numB_app, numB_digs n (m / 10), Nat.pow_succ, Nat.mul_comm (10 ^ n) 10, Nat.mod_mul]
    omega
theorem digsB_first (n m : Nat) (h : 1 ≤ n) : (digsB n m).getD 0 0 = m / 10 ^ (n - 1) % 10 := by
  obtain ⟨k, rfl⟩ : ∃ k, n = k + 1 := ⟨n - 1, by omega⟩
  unfold digsB
  rw [digs_append]
  simp
theorem caught_none {due : List Str} {hs : List Nat} (h : caughtM due hs = none) : due.length = hs.length ∧ ∀ i, i < hs.length → rightM (due.getD i "") (hs.getD i 0) = true := by
  unfold caughtM at h
  have key : ∀ (hs : List Nat) (k : Nat), scanM due k hs = none → (k ≤ due.length → k + hs.length ≤ due.length) ∧ ∀ i, i < hs.length → rightM (due.getD (k + i) "") (hs.getD i 0) = true := by
    intro hs
    induction hs with
    | nil => intro k _; exact ⟨fun h => by simpa using h, fun i hi => by simp at hi⟩
    | cons x hs ih =>
      intro k e
      unfold scanM at e
      split at e
      · cases e
      · rename_i h1
        split at e
        · rename_i h2
          obtain ⟨i1, i2⟩ := ih (k + 1) e
          refine ⟨fun _ => ?_, fun i hi => ?_⟩
          · have := i1 (by omega)
            rw [List.length_cons]; omega
          · match i with
            | 0 => exact h2
            | i + 1 =>
              have := i2 i (by simpa using hi)
              rw [show k + (i + 1) = k + 1 + i by omega]
              exact this
        · cases e
  cases e : scanM due 0 hs with
  | some r => rw [e] at h; cases h
  | none =>
    rw [e] at h
    obtain ⟨k1, k2⟩ := key hs 0 e
    have k1 := k1 (Nat.zero_le _)
    simp only at h
    split at h
    · cases h
    · refine ⟨by omega, fun i hi => ?_⟩
      have := k2 i hi
      rw [Nat.zero_add] at this
      exact this
theorem none_caught {due : List Str} {hs : List Nat} (hl : due.length = hs.length) (h : ∀ q ∈ due.zip hs, rightM q.1 q.2 = true) : caughtM due hs = none := by
  have key : ∀ (hs : List Nat) (k : Nat), k + hs.length = due.length → (∀ i, i < hs.length → rightM (due.getD (k + i) "") (hs.getD i 0) = true) → scanM due k hs = none := by
    intro hs
    induction hs with
    | nil => intro k _ _; rfl
    | cons x hs ih =>
      intro k e r
      rw [List.length_cons] at e
      have r0 := r 0 (by simp)
      unfold scanM
      rw [if_neg (by omega), if_pos (by simpa using r0)]
      exact ih (k + 1) (by omega) fun i hi => by
        have := r (i + 1) (by simpa using hi)
        rw [show k + (i + 1) = k + 1 + i by omega] at this
        exact this
  unfold caughtM
  rw [key hs 0 (by omega) fun i hi => by
    have hd : i < due.length := by omega
    have := h (due[i], hs[i]) (by
      rw [List.mem_iff_getElem]
      exact ⟨i, by simp; omega, by simp⟩)
    simpa [hd, hi] using this]
  simp [hl]
theorem sign_some {kd : Str} {n : Nat} (hk : kd = "packed" ∨ kd = "spread") (h1 : 1 ≤ n) : ∃ j, (dutiesM kd "end" n).findIdx? (fun s : Str => decide (s = "sign")) = some j := by
  have : ("sign" : Str) ∈ dutiesM kd "end" n := by
    rcases hk with rfl | rfl
    · unfold dutiesM
      rw [if_pos rfl, if_pos rfl]
      simp
    · unfold dutiesM
      rw [if_neg spread_ne]
      have key : ∀ (zs fs : List Str), zs.length = fs.length → ("sign" : Str) ∈ zs → ("sign" : Str) ∈ interG zs fs := by
        intro zs
        induction zs with
        | nil => intro fs _ h; cases h
        | cons z zs ih =>
          intro fs hl h
          match fs with
          | [] => simp at hl
          | f :: fs =>
            rw [interG_cons]
            rcases List.mem_cons.mp h with e | h
            · rw [← e]; simp
            · have := ih fs (by simpa using hl) h
              simp [this]
      refine key _ _ (by rw [zoneD_len, List.length_replicate]) ?_
      unfold zoneD
      rw [if_pos rfl]
      exact List.mem_iff_getElem.mpr ⟨n - 1, by simp; omega, by simp⟩
  cases e : (dutiesM kd "end" n).findIdx? (fun s : Str => decide (s = "sign")) with
  | some j => exact ⟨j, rfl⟩
  | none =>
    rw [List.findIdx?_eq_none_iff] at e
    have := e _ this
    simp at this
theorem sign_lt {due : List Str} {j : Nat} (h : due.findIdx? (fun s : Str => decide (s = "sign")) = some j) : j < due.length := (List.findIdx?_eq_some_iff_getElem.mp h).1
theorem comp_figs {due : List Str} {hs : List Nat} (hl : due.length = hs.length) (hz : hs.length ≤ 100000) (a b c d e : Option MV) :
    mLcO (mR1 (mCons (mBlt bLen (mCons (mVar 3) (mNil))) (mNil))) (.nm 7) (mTest (mOp fEq (mOp fIx (mVar 3) (mVar 7)) (mC (.str "figure")))) (mOp fIx (mVar 4) (mVar 7)) [7] [a, b, c, some (.lst (due.map MV.str)), some (.lst (hs.map fun d : Nat => MV.int d)), d, e, none] =
    .ok (.own ((figsM due hs).map fun d : Nat => MV.int d), [a, b, c, some (.lst (due.map MV.str)), some (.lst (hs.map fun d : Nat => MV.int d)), d, e, none]) := by
  have ir : inR (hs.length : Int) = true := inR_of (by omega) (by omega)
  have e1 : (figsM due hs).map (fun d : Nat => MV.int d) = ((rngM 0 1 hs.length).filter fun x => match x with | .int k => decide (due.getD k.toNat "" = "figure") | _ => false).map fun x => match x with | .int k => MV.int (hs.getD k.toNat 0 : Nat) | _ => .non := by
    rw [figs_range due hs hl]
    unfold rngM
    rw [List.filter_map, List.map_map, List.map_map]
    have z : ∀ i : Nat, (0 + (i : Int) * 1).toNat = i := fun i => by omega
    have f1 : (List.range hs.length).filter (fun i => decide (due.getD i "" = "figure")) = (List.range hs.length).filter ((fun x => match x with | MV.int k => decide (due.getD k.toNat "" = "figure") | _ => false) ∘ fun i : Nat => MV.int (0 + (i : Int) * 1)) := by
      refine List.filter_congr fun i _ => ?_
      show _ = decide (due.getD (0 + (i : Int) * 1).toNat "" = "figure")
      rw [z]
    rw [f1]
    refine List.map_congr_left fun i _ => ?_
    show _ = MV.int (hs.getD (0 + (i : Int) * 1).toNat 0 : Nat)
    rw [z]; rfl
  rw [e1]
  refine mLcO_filt _ _ (by simp [hl, ir]) (by simp [perAt]) ?_ (by rw [rngM_len, sizeLine_eq]; omega)
  intro x hx
  obtain ⟨i, hi, rfl⟩ : ∃ i, i < hs.length ∧ MV.int (0 + (i : Int) * 1) = x := by
    unfold rngM at hx
    rw [List.mem_map] at hx
    obtain ⟨i, hi, e⟩ := hx
    exact ⟨i, List.mem_range.mp hi, e⟩
  have z : (0 + (i : Int) * 1) = (i : Int) := by omega
  have a1 := due_at (due := due) (k := i) (by omega)
  have a2 : atI (hs.map fun d : Nat => MV.int d) (i : Int) = some (.int (hs.getD i 0 : Nat)) := by
    rw [atI_ge (by omega)]
    simp [hi]
  rw [z]
  have tt : ∀ w : Str, atI (due.map MV.str) (i : Int) = some (.str w) → mTest (mOp fEq (mOp fIx (mVar 3) (mVar 7)) (mC (.str "figure"))) [a, b, c, some (.lst (due.map MV.str)), some (.lst (hs.map fun d : Nat => MV.int d)), d, e, some (.int i)] = .ok (decide (w = "figure"), [a, b, c, some (.lst (due.map MV.str)), some (.lst (hs.map fun d : Nat => MV.int d)), d, e, some (.int i)]) := fun w a1 => by simp [a1]
  have te : ∀ y : Nat, atI (hs.map fun d : Nat => MV.int d) (i : Int) = some (.int (y : Nat)) → mOp fIx (mVar 4) (mVar 7) [a, b, c, some (.lst (due.map MV.str)), some (.lst (hs.map fun d : Nat => MV.int d)), d, e, some (.int i)] = .ok (.int y, [a, b, c, some (.lst (due.map MV.str)), some (.lst (hs.map fun d : Nat => MV.int d)), d, e, some (.int i)]) := fun y a2 => by simp [a2]
  exact ⟨[a, b, c, some (.lst (due.map MV.str)), some (.lst (hs.map fun d : Nat => MV.int d)), d, e, some (.int i)], by simp [setT, wipeM], tt _ a1, fun _ => te _ a2, by simp [wipeM], by simp⟩
theorem pnumber_of_eq {kd sg : Str} {n : Nat} {p : MV} (hk : kd = "packed" ∨ kd = "spread") (hs : sg = "none" ∨ sg = "end" ∨ sg = "tens") (h1 : 1 ≤ n ∧ n < 100) (row : List Nat) (hl : row.length ≤ 50000) (hc : caughtM (dutiesM kd sg n) (halvesOf row) = none) (hf : 1 ≤ (figsM (dutiesM kd sg n) (halvesOf row)).length) :
    f_pnumber_of [Form kd n sg p, .tup (row.map fun d : Nat => MV.int d)] = .ok (.int (valueM sg n (dutiesM kd sg n) (halvesOf row)), []) := by
  obtain ⟨V, v1, v2⟩ := @pduties_eq kd sg n p hk h1
  have i1 := phalves_in_eq row (by omega)
  have c1 := @pcaught_eq kd sg n p hk h1 row (by omega)
  rw [hc] at c1
  obtain ⟨hlen, _⟩ := caught_none hc
  have hlen2 := halvesOf_len row
  have hsn : sg = "end" → ∃ j, (dutiesM kd sg n).findIdx? (fun s : Str => decide (s = "sign")) = some j := fun e => by subst e; exact sign_some hk h1.1
  have cf := comp_figs hlen (by omega) (some (Form kd n sg p)) (some (.tup (row.map fun d : Nat => MV.int d))) (some .non) none none
  have nb := pnumber_by_eq (figsM (dutiesM kd sg n) (halvesOf row))
  have t1 := pten_eq (k := (n : Int)) (by omega) (by omega)
  unfold valueM
  unfold Form at *
  generalize halvesOf row = hv at *
  generalize hdu : dutiesM kd sg n = due at *
  generalize hfs : figsM due hv = fs at *
  have nbv : (numB fs : Int) = numB fs := rfl
  generalize numB fs = N at *
  refine mFn_ok ?_
  simp only [encO, Int.toNat_natCast] at c1 t1
  have f0 : ∃ q : Nat, fs[0]? = some q ∧ fs.getD 0 0 = q := by
    match fs, hf with
    | q :: r, _ => exact ⟨q, rfl, rfl⟩
  obtain ⟨q, q1, q2⟩ := f0
  rcases hs with rfl | rfl | rfl
  · simp [m_pnumber_of, v1, v2, i1, c1, cf, nb, sg_ne6, sg_ne4]
  · obtain ⟨j, hj⟩ := hsn rfl
    have hjl := sign_lt hj
    have x1 := lxIndex_map hj
    have x2 : atI (hv.map fun d : Nat => MV.int d) (j : Int) = some (.int (hv.getD j 0 : Nat)) := by
      rw [atI_ge (by omega)]
      simp [show j < hv.length by omega]
    have x3 := fIn_sgn (hv.getD j 0 : Nat)
    have x4 : signAt due = j := by unfold signAt; rw [hj]; rfl
    rw [x4]
    generalize hv.getD j 0 = y at *
    by_cases hy : y = 11 ∨ y = 13
    · have hy' : ((y : Int) = 11 ∨ (y : Int) = 13) := by omega
      simp only [hy', decide_true] at x3
      simp [m_pnumber_of, v1, v2, i1, c1, cf, nb, x1, x2, x3, hy]
    · have hy' : ¬ ((y : Int) = 11 ∨ (y : Int) = 13) := by omega
      simp only [hy', decide_false] at x3
      simp [m_pnumber_of, v1, v2, i1, c1, cf, nb, x1, x2, x3, hy, sg_ne5]
  · by_cases hq : 4 < q
    · have hq' : (4 : Int) < q := by omega
      simp [m_pnumber_of, v1, v2, i1, c1, cf, nb, sg_ne3, q1, hq, hq', t1]
    · have hq' : ¬ (4 : Int) < q := by omega
      simp [m_pnumber_of, v1, v2, i1, c1, cf, nb, sg_ne3, q1, hq, hq', t1]
def packH (n : Nat) (sg : Str) (x : Int) (h : Nat) : List Nat := List.replicate (manyM n sg % 2) 0 ++ digsB n (sizeM n sg x) ++ if sg = "end" then [h] else []
def zonesH (n : Nat) (sg : Str) (h : Nat) : List Nat := if sg = "end" then (List.replicate n 15).set (n - 1) h else List.replicate n 15
def halvesH (kd sg : Str) (n : Nat) (x : Int) (h : Nat) : List Nat := if kd = "packed" then packH n sg x h else inter (zonesH n sg h) (digsB n (sizeM n sg x))
def rowH (kd sg : Str) (n : Nat) (x : Int) (h : Nat) : List Nat := pairUp (halvesH kd sg n x h)
theorem halvesH_M (kd sg : Str) (n : Nat) (x : Int) : halvesH kd sg n x (halfM x) = halvesM kd sg n x := rfl
theorem rowH_M (kd sg : Str) (n : Nat) (x : Int) : rowH kd sg n x (halfM x) = rowM kd sg n x := by
  unfold rowH; rw [halvesH_M, row_pair]
theorem packH_len (n : Nat) (sg : Str) (x : Int) (h : Nat) : (packH n sg x h).length = 2 * ((manyM n sg + 1) / 2) := by
  rw [← many_even]
  unfold packH
  by_cases h : sg = "end"
  · simp [h, manyM, digsB_len]
  · simp [h, manyM, digsB_len]
theorem zonesH_len (n : Nat) (sg : Str) (h : Nat) : (zonesH n sg h).length = n := by
  unfold zonesH; split <;> simp
theorem halvesH_len (kd sg : Str) (n : Nat) (x : Int) (h : Nat) : (halvesH kd sg n x h).length = 2 * roomM kd sg n := by
  unfold halvesH roomM
  split
  · exact packH_len n sg x h
  · rw [inter_len _ _ (by rw [zonesH_len, digsB_len]), digsB_len]
theorem rowH_len (kd sg : Str) (n : Nat) (x : Int) (h : Nat) : (rowH kd sg n x h).length = roomM kd sg n := pairUp_len _ _ (halvesH_len kd sg n x h)
theorem halvesH_lt (kd sg : Str) (n : Nat) (x : Int) (h : Nat) (hh : h < 16) : ∀ d ∈ halvesH kd sg n x h, d < 16 := by
  have hd : ∀ m : Nat, ∀ d ∈ digsB n m, d < 16 := fun m d h => by have := digsB_lt h; omega
  unfold halvesH
  split
  · intro d hm
    unfold packH at hm
    rcases List.mem_append.mp hm with hm | hm
    · rcases List.mem_append.mp hm with hm | hm
      · have := List.eq_of_mem_replicate hm; omega
      · exact hd _ d hm
    · split at hm
      · have : d = h := by simpa using hm
        omega
      · simp at hm
  · refine inter_lt _ _ ?_ (hd _)
    intro d hm
    unfold zonesH at hm
    split at hm
    · rcases List.mem_or_eq_of_mem_set hm with hm | hm
      · have := List.eq_of_mem_replicate hm; omega
      · omega
    · have := List.eq_of_mem_replicate hm; omega
theorem halves_rowH (kd sg : Str) (n : Nat) (x : Int) (h : Nat) (hh : h < 16) : halvesOf (rowH kd sg n x h) = halvesH kd sg n x h := halvesOf_pair _ _ (halvesH_len kd sg n x h) (halvesH_lt kd sg n x h hh)
theorem figs_app {ds es : List Str} {xs ys : List Nat} (h : ds.length = xs.length) : figsM (ds ++ es) (xs ++ ys) = figsM ds xs ++ figsM es ys := by
  unfold figsM
  rw [List.zip_append h, List.filter_append, List.map_append]
theorem figs_rep_no {d : Str} (hd : d ≠ "figure") : ∀ (k : Nat) (xs : List Nat), figsM (List.replicate k d) xs = []
  | 0, xs => by simp [figsM]
  | k + 1, [] => by simp [figsM]
  | k + 1, x :: xs => by
    have := figs_rep_no hd k xs
    unfold figsM at this ⊢
    rw [List.replicate_succ, List.zip_cons_cons, List.filter_cons_of_neg (by simpa using hd), this]
theorem figs_rep : ∀ (xs : List Nat), figsM (List.replicate xs.length "figure") xs = xs
  | [] => rfl
  | x :: xs => by
    have := figs_rep xs
    unfold figsM at this ⊢
    rw [List.length_cons, List.replicate_succ, List.zip_cons_cons, List.filter_cons_of_pos (by simp), List.map_cons, this]
theorem figs_inter : ∀ (zs : List Str) (hs fs : List Nat), (∀ z ∈ zs, z ≠ "figure") → zs.length = fs.length → hs.length = fs.length → figsM (interG zs (List.replicate fs.length "figure")) (inter hs fs) = fs
  | [], [], [], _, _, _ => rfl
  | z :: zs, h :: hs, f :: fs, hz, h1, h2 => by
    have ih := figs_inter zs hs fs (fun w hw => hz w (List.mem_cons_of_mem _ hw)) (by simpa using h1) (by simpa using h2)
    rw [List.length_cons, List.replicate_succ, interG_cons]
    show figsM (z :: "figure" :: interG zs (List.replicate fs.length "figure")) (h :: f :: inter hs fs) = f :: fs
    unfold figsM at ih ⊢
    rw [List.zip_cons_cons, List.zip_cons_cons, List.filter_cons_of_neg (by simpa using hz z (by simp)), List.filter_cons_of_pos (by simp), List.map_cons, ih]
  | [], _ :: _, [], _, _, h2 => by simp at h2
  | [], _, _ :: _, _, h1, _ => by simp at h1
  | _ :: _, [], _ :: _, _, _, h2 => by simp at h2
  | _ :: _, _, [], _, h1, _ => by simp at h1
theorem zoneD_mem {n : Nat} {sg z : Str} (h : z ∈ zoneD n sg) : z = "zone" ∨ z = "sign" := by
  unfold zoneD at h
  split at h
  · rcases List.mem_or_eq_of_mem_set h with h | h
    · exact .inl (List.eq_of_mem_replicate h)
    · exact .inr h
  · exact .inl (List.eq_of_mem_replicate h)
theorem zs_ne : ("zone" : Str) ≠ "figure" ∧ ("sign" : Str) ≠ "figure" ∧ ("ahead" : Str) ≠ "figure" := by decide
theorem figs_dressed {kd sg : Str} {n : Nat} (x : Int) (h : Nat) (hk : kd = "packed" ∨ kd = "spread") : figsM (dutiesM kd sg n) (halvesH kd sg n x h) = digsB n (sizeM n sg x) := by
  rcases hk with rfl | rfl
  · unfold dutiesM halvesH packH
    rw [if_pos rfl, if_pos rfl, figs_app (by simp [digsB_len]), figs_app (by simp), figs_rep_no zs_ne.2.2]
    have f1 := figs_rep (digsB n (sizeM n sg x))
    rw [digsB_len] at f1
    rw [f1]
    split
    · have : figsM [("sign" : Str)] [h] = [] := figs_rep_no zs_ne.2.1 1 [h]
      rw [this]; simp
    · have : figsM [] [] = [] := rfl
      rw [this]; simp
  · unfold dutiesM halvesH
    rw [if_neg spread_ne, if_neg spread_ne]
    have := figs_inter (zoneD n sg) (zonesH n sg h) (digsB n (sizeM n sg x)) (fun z hz => by
      rcases zoneD_mem hz with rfl | rfl
      · exact zs_ne.1
      · exact zs_ne.2.1) (by rw [zoneD_len, digsB_len]) (by rw [zonesH_len, digsB_len])
    rw [digsB_len] at this
    exact this
theorem zip_inter : ∀ (zs ds : List Str) (hs fs : List Nat) (q : Str × Nat), zs.length = ds.length → hs.length = fs.length → zs.length = hs.length → q ∈ (interG zs ds).zip (inter hs fs) → q ∈ zs.zip hs ∨ q ∈ ds.zip fs
  | [], [], [], [], q, _, _, _, h => by simp [interG, inter] at h
  | z :: zs, d :: ds, h :: hs, f :: fs, q, h1, h2, h3, hq => by
    rw [interG_cons] at hq
    have hq : q ∈ (z, h) :: (d, f) :: (interG zs ds).zip (inter hs fs) := hq
    rcases List.mem_cons.mp hq with rfl | hq
    · exact .inl (by simp)
    · rcases List.mem_cons.mp hq with rfl | hq
      · exact .inr (by simp)
      · rcases zip_inter zs ds hs fs q (by simpa using h1) (by simpa using h2) (by simpa using h3) hq with h | h
        · exact .inl (by simp [h])
        · exact .inr (by simp [h])
  | [], _ :: _, _, _, _, h1, _, _, _ => by simp at h1
  | _ :: _, [], _, _, _, h1, _, _, _ => by simp at h1
  | [], [], _ :: _, _, _, _, _, h3, _ => by simp at h3
  | _ :: _, _ :: _, [], _, _, _, _, h3, _ => by simp at h3
  | _, _, [], _ :: _, _, _, h2, _, _ => by simp at h2
  | _, _, _ :: _, [], _, _, h2, _, _ => by simp at h2
theorem rep_zip {α β : Type} {d : α} {k : Nat} {xs : List β} {q : α × β} (h : q ∈ (List.replicate k d).zip xs) : q.1 = d ∧ q.2 ∈ xs := by
  have := List.of_mem_zip (a := q.1) (b := q.2) h
  exact ⟨List.eq_of_mem_replicate this.1, this.2⟩
theorem right_fig {f : Nat} (h : f < 10) : rightM "figure" f = true := by
  unfold rightM
  rw [if_neg (by decide), if_pos rfl]; simpa using h
theorem right_sign {f : Nat} (h : 9 < f) : rightM "sign" f = true := by
  unfold rightM
  rw [if_neg (by decide), if_neg (by decide), if_neg (by decide)]; simpa using h
theorem dressed_none {kd sg : Str} {n : Nat} (x : Int) (h : Nat) (hk : kd = "packed" ∨ kd = "spread") (hn : 1 ≤ n) (hh : 9 < h) : caughtM (dutiesM kd sg n) (halvesH kd sg n x h) = none := by
  refine none_caught (by rw [duties_len, halvesH_len]) ?_
  rcases hk with rfl | rfl
  · unfold dutiesM halvesH packH
    rw [if_pos rfl, if_pos rfl, List.zip_append (by simp [digsB_len]), List.zip_append (by simp)]
    intro q hq
    rcases List.mem_append.mp hq with hq | hq
    · rcases List.mem_append.mp hq with hq | hq
      · obtain ⟨q1, q2⟩ := rep_zip hq
        rw [q1, List.eq_of_mem_replicate q2]; decide
      · obtain ⟨q1, q2⟩ := rep_zip hq
        rw [q1]
        exact right_fig (digsB_lt q2)
    · split at hq
      · have : q = (("sign" : Str), h) := by simpa using hq
        rw [this]; exact right_sign hh
      · simp at hq
  · unfold dutiesM halvesH
    rw [if_neg spread_ne, if_neg spread_ne]
    intro q hq
    rcases zip_inter _ _ _ _ q (by rw [zoneD_len, List.length_replicate]) (by rw [zonesH_len, digsB_len]) (by rw [zoneD_len, zonesH_len]) hq with hq | hq
    · unfold zoneD zonesH at hq
      by_cases he : sg = "end"
      · rw [if_pos he, if_pos he] at hq
        obtain ⟨i, hi, rfl⟩ := List.mem_iff_getElem.mp hq
        have hi' : i < n := by simp at hi; exact hi
        rw [List.getElem_zip]
        by_cases e : n - 1 = i
        · subst e; simp; exact right_sign hh
        · simp [e]; decide
      · rw [if_neg he, if_neg he] at hq
        obtain ⟨q1, q2⟩ := rep_zip hq
        rw [q1, List.eq_of_mem_replicate q2]; decide
    · obtain ⟨q1, q2⟩ := rep_zip hq
      rw [q1]
      exact right_fig (digsB_lt q2)
theorem sign_uniq {due : List Str} {j : Nat} (hj : due[j]? = some ("sign" : Str)) (h : ∀ i, i < j → due[i]? ≠ some ("sign" : Str)) : signAt due = j := by
  unfold signAt
  have : due.findIdx? (fun s : Str => decide (s = "sign")) = some j := by
    rw [List.findIdx?_eq_some_iff_getElem]
    obtain ⟨h1, h2⟩ := List.getElem?_eq_some_iff.mp hj
    refine ⟨h1, by simpa using h2, fun i hi => ?_⟩
    have := h i hi
    rw [List.getElem?_eq_getElem (by omega)] at this
    simpa using this
  rw [this]; rfl
theorem interG_get {α : Type} : ∀ (zs fs : List α) (i : Nat), zs.length = fs.length → (interG zs fs)[2 * i]? = zs[i]? ∧ (interG zs fs)[2 * i + 1]? = fs[i]?
  | [], [], i, _ => by simp [interG]
  | z :: zs, f :: fs, 0, _ => by rw [interG_cons]; simp
  | z :: zs, f :: fs, i + 1, h => by
    obtain ⟨a, b⟩ := interG_get zs fs i (by simpa using h)
    rw [interG_cons, show 2 * (i + 1) = 2 * i + 1 + 1 by omega]
    simp [a, b]
  | [], _ :: _, _, h => by simp at h
  | _ :: _, [], _, h => by simp at h
theorem sign_half {kd : Str} {n : Nat} (x : Int) (h : Nat) (hk : kd = "packed" ∨ kd = "spread") (hn : 1 ≤ n) : (halvesH kd "end" n x h).getD (signAt (dutiesM kd "end" n)) 0 = h := by
  rcases hk with rfl | rfl
  · have e : signAt (dutiesM "packed" "end" n) = manyM n "end" % 2 + n := by
      refine sign_uniq ?_ fun i hi => ?_
      · unfold dutiesM
        rw [if_pos rfl, if_pos rfl, List.getElem?_append_right (by simp)]
        simp
      · unfold dutiesM
        rw [if_pos rfl, if_pos rfl, List.getElem?_append_left (by simp; omega)]
        intro z
        have := List.mem_of_getElem? z
        rcases List.mem_append.mp this with m | m
        · have := List.eq_of_mem_replicate m; exact absurd this (by decide)
        · have := List.eq_of_mem_replicate m; exact absurd this (by decide)
    rw [e]
    unfold halvesH packH
    rw [if_pos rfl, if_pos rfl, List.getD_eq_getElem?_getD, List.getElem?_append_right (by simp [digsB_len])]
    simp [digsB_len]
  · have e : signAt (dutiesM "spread" "end" n) = 2 * (n - 1) := by
      have hl : (zoneD n "end").length = (List.replicate n ("figure" : Str)).length := by rw [zoneD_len, List.length_replicate]
      refine sign_uniq ?_ fun i hi => ?_
      · unfold dutiesM
        rw [if_neg spread_ne, (interG_get _ _ _ hl).1]
        unfold zoneD
        rw [if_pos rfl, List.getElem?_set_self (by simp; omega)]
      · unfold dutiesM
        rw [if_neg spread_ne]
        rcases Nat.mod_two_eq_zero_or_one i with e | e
        · have e2 : i = 2 * (i / 2) := by omega
          rw [e2, (interG_get _ _ _ hl).1]
          unfold zoneD
          rw [if_pos rfl, List.getElem?_set_ne (by omega)]
          intro z
          have := List.eq_of_mem_replicate (List.mem_of_getElem? z)
          exact absurd this (by decide)
        · have e2 : i = 2 * (i / 2) + 1 := by omega
          rw [e2, (interG_get _ _ _ hl).2]
          intro z
          have := List.eq_of_mem_replicate (List.mem_of_getElem? z)
          exact absurd this (by decide)
    rw [e]
    unfold halvesH
    rw [if_neg spread_ne, List.getD_eq_getElem?_getD, show inter = interG from rfl, (interG_get _ _ _ (by rw [zonesH_len, digsB_len])).1]
    unfold zonesH
    rw [if_pos rfl, List.getElem?_set_self (by simp; omega)]
    rfl
def FitH (x : Int) (h : Nat) : Prop := 9 < h ∧ h < 16 ∧ (x < 0 → h = 11 ∨ h = 13) ∧ (0 < x → h ≠ 11 ∧ h ≠ 13)
theorem fitH_M (x : Int) : FitH x (halfM x) := by
  unfold FitH halfM
  split <;> omega
theorem pow_step {n : Nat} (h : 1 ≤ n) : (10 : Nat) ^ n = 10 * 10 ^ (n - 1) := by
  obtain ⟨k, rfl⟩ : ∃ k, n = k + 1 := ⟨n - 1, by omega⟩
  rw [Nat.pow_succ, Nat.add_sub_cancel, Nat.mul_comm]
theorem value_dressed {kd sg : Str} {n : Nat} (x : Int) (h : Nat) (hk : kd = "packed" ∨ kd = "spread") (hs : sg = "none" ∨ sg = "end" ∨ sg = "tens") (hn : 1 ≤ n) (hh : FitH x h) (hx : least n sg ≤ x ∧ x ≤ most n sg) : valueM sg n (dutiesM kd sg n) (halvesH kd sg n x h) = x := by
  unfold valueM
  rw [figs_dressed x h hk, numB_digs, digsB_first _ _ hn]
  have e10 : ((10 ^ n : Nat) : Int) = (10 : Int) ^ n := by simp
  have e9 : ((10 ^ (n - 1) : Nat) : Int) = (10 : Int) ^ (n - 1) := by simp
  have st := pow_step hn
  have pp : 0 < 10 ^ (n - 1) := Nat.pos_of_ne_zero (by simp)
  obtain ⟨f1, f2, f3, f4⟩ := hh
  rcases hs with rfl | rfl | rfl
  · unfold least most sizeM at *
    simp only [sg_ne4, if_false, if_true, sg_ne6, false_and] at *
    rw [← e10] at hx
    rw [Nat.mod_eq_of_lt (by omega)]
    omega
  · rw [sign_half x h hk hn]
    unfold least most sizeM at *
    simp only [sg_ne1, sg_ne5, if_false, if_true, true_and, false_and] at *
    rw [← e10] at hx
    rw [Nat.mod_eq_of_lt (by omega)]
    split <;> omega
  · unfold least most sizeM at *
    simp only [sg_ne2, sg_ne3, if_false, if_true, true_and, false_and] at *
    have em : x.fmod (10 ^ n) = x % ((10 ^ n : Nat) : Int) := by rw [← e10]; exact Int.fmod_eq_emod_of_nonneg _ (by omega)
    rw [em, ← e10]
    rw [← e9] at hx
    obtain ⟨A, hA⟩ : ∃ A : Nat, 10 ^ (n - 1) = A := ⟨_, rfl⟩
    obtain ⟨B, hB⟩ : ∃ B : Nat, 10 ^ n = B := ⟨_, rfl⟩
    rw [hA] at hx pp st ⊢
    rw [hB] at st ⊢
    by_cases hx0 : 0 ≤ x
    · have : x % (B : Int) = x := Int.emod_eq_of_lt hx0 (by omega)
      rw [this, Nat.mod_eq_of_lt (show x.natAbs < B by omega)]
      have q : x.natAbs / A < 5 := by
        rw [Nat.div_lt_iff_lt_mul pp]; omega
      rw [Nat.mod_eq_of_lt (show x.natAbs / A < 10 by omega), if_neg (by omega)]; omega
    · have : x % (B : Int) = x + B := by
        rw [← Int.add_emod_right, Int.emod_eq_of_lt (by omega) (by omega)]
      rw [this, Nat.mod_eq_of_lt (show (x + B).natAbs < B by omega)]
      have q1 : 5 ≤ (x + B).natAbs / A := by rw [Nat.le_div_iff_mul_le pp]; omega
      have q2 : (x + B).natAbs / A < 10 := by rw [Nat.div_lt_iff_lt_mul pp]; omega
      rw [Nat.mod_eq_of_lt q2, if_pos (by omega)]; omega
theorem number_dressed {kd sg : Str} {n : Nat} {p : MV} (x : Int) (h : Nat) (hk : kd = "packed" ∨ kd = "spread") (hs : sg = "none" ∨ sg = "end" ∨ sg = "tens") (h1 : 1 ≤ n ∧ n < 100) (hh : FitH x h) (hx : least n sg ≤ x ∧ x ≤ most n sg) :
    f_pnumber_of [Form kd n sg p, .tup ((rowH kd sg n x h).map fun d : Nat => MV.int d)] = .ok (.int x, []) := by
  have e := halves_rowH kd sg n x h hh.2.1
  have hr := @room_small kd sg n h1.2
  have := @pnumber_of_eq kd sg n p hk hs h1 (rowH kd sg n x h) (by rw [rowH_len]; omega) (by rw [e]; exact dressed_none x h hk h1.1 hh.1) (by rw [e, figs_dressed x h hk, digsB_len]; omega)
  rw [e, value_dressed x h hk hs h1.1 hh hx] at this
  exact this
def fB (fr : Nat) (ws : List Str) (rs : List MV) (tab : Str → MV) : List (Str × MV) := [("rows", .own rs), ("tables", .own (ws.map tab)), ("worths", .own (ws.map MV.fnc)), ("free", .int fr)]
def Bo (fr : Nat) (ws : List Str) (rs : List MV) (tab : Str → MV) : MV := .obj "Builder" (fB fr ws rs tab)
section
variable {fr : Nat} {ws : List Str} {rs : List MV} {tab : Str → MV} {ρ : Env} {r x y z : Option MV}
@[simp] theorem Bo_held : (Bo fr ws rs tab).held = true := nr rfl
@[simp] theorem Bo_fold : MV.obj (Str.ofString "Builder") (fB fr ws rs tab) = Bo fr ws rs tab := nr rfl
@[simp] theorem lk_rows : (fB fr ws rs tab).lookup (Str.ofString "rows") = some (.own rs) := nr rfl
@[simp] theorem lk_tables : (fB fr ws rs tab).lookup (Str.ofString "tables") = some (.own (ws.map tab)) := nr rfl
@[simp] theorem lk_worths : (fB fr ws rs tab).lookup (Str.ofString "worths") = some (.own (ws.map MV.fnc)) := nr rfl
@[simp] theorem lk_free : (fB fr ws rs tab).lookup (Str.ofString "free") = some (.int fr) := nr rfl
@[simp] theorem lk_cell : (fB fr ws rs tab).lookup (Str.ofString "cell") = none := nr rfl
@[simp] theorem lk_put : (fB fr ws rs tab).lookup (Str.ofString "put") = none := nr rfl
@[simp] theorem lk_row : (fB fr ws rs tab).lookup (Str.ofString "row") = none := nr rfl
@[simp] theorem lk_look : (fB fr ws rs tab).lookup (Str.ofString "look") = none := nr rfl
@[simp] theorem lk_copied : (fB fr ws rs tab).lookup (Str.ofString "copied") = none := nr rfl
@[simp] theorem lk_looked : (fB fr ws rs tab).lookup (Str.ofString "looked") = none := nr rfl
@[simp] theorem lk_ended : (fB fr ws rs tab).lookup (Str.ofString "ended") = none := nr rfl
@[simp] theorem lk_program : (fB fr ws rs tab).lookup (Str.ofString "program") = none := nr rfl
@[simp] theorem lk_back_to : (fB fr ws rs tab).lookup (Str.ofString "back_to") = none := nr rfl
@[simp] theorem put_rows {zs : List MV} : putM (Str.ofString "rows") (.own zs) (fB fr ws rs tab) = fB fr ws zs tab := nr rfl
@[simp] theorem put_free {k : Nat} : putM (Str.ofString "free") (.int k) (fB fr ws rs tab) = fB k ws rs tab := nr rfl
@[simp] theorem put_free1 : putM (Str.ofString "free") (.int ((fr : Int) + 1)) (fB fr ws rs tab) = fB (fr + 1) ws rs tab := nr rfl
@[simp] theorem fB_len : (fB fr ws rs tab).length = 4 := nr rfl
def lkW (ws : List Str) (w : Str) : List Str := if w ∈ ws then ws else ws ++ [w]
def lkI (ws : List Str) (w : Str) : Nat := (lkW ws w).findIdx fun z => decide (z = w)
end
def w01 (p : Bool) : Nat := if p then 1 else 0
def wtab : List (Str × (Nat → Nat)) := [
  ("sign_below", fun b => w01 (decide (b % 16 = 11 ∨ b % 16 = 13))),
  ("five_on", fun b => w01 (decide (4 < b))),
  ("ten_or_none", fun b => 10 * w01 (decide (0 < b))),
  ("nine_less", fun b => if 9 < b ∧ b < 20 then 19 - b else b),
  ("ahead_of_last", fun b => b / 10),
  ("last_figure", fun b => b % 10),
  ("high_half", fun b => b / 16),
  ("low_half", fun b => b % 16),
  ("one_or_none", fun b => w01 (decide (0 < b))),
  ("half_up", fun b => b % 16 * 16),
  ("one_of_two", fun b => w01 (decide (b % 4 = 1 ∨ b % 4 = 2))),
  ("not_all", fun b => w01 (decide (b < 255))),
  ("none_or_all", fun b => 255 * w01 (decide (b = 0))),
  ("lacking", fun b => (9 + 10 * 26 - b) % 10),
  ("fill", fun b => 255 * (1 - b / 128)),
  ("top_two", fun b => b / 128),
  ("other_twos", fun b => 255 - b),
  ("ten_low", fun b => 10 * b % 256),
  ("ten_high", fun b => 10 * b / 256),
  ("six_on", fun b => w01 (decide (5 < b))),
  ("product_byte", fun b => b / 16 * (b % 16)),
  ("order_byte", fun b => if b % 4 = 0 then 1 else if b % 4 = 1 then 2 else if b % 4 = 2 then 1 else 0),
  ("one_of_none", fun b => w01 (decide (b = 0))),
  ("lowest_two", fun b => b % 2),
  ("all_or_none", fun b => 255 * w01 (decide (0 < b)))]
def worthV (w : Str) (b : Nat) : Nat := match wtab.lookup w with | some g => g b | none => 0
def tabW (w : Str) : MV := .tup ((List.range 256).map fun b => .int (worthV w b))
inductive Rw where
  | put (a v : Nat) | copy (a b : Nat) | look (a k : Nat) | add (a b : Nat) | addc (a b : Nat) | and_ (a b : Nat) | or_ (a b : Nat) | left (a : Nat) | right (a : Nat) | mark (v : Nat)
def enR : Rw → MV
  | .put a v => .tup [.str "put", .int a, .int v]
  | .copy a b => .tup [.str "copy", .int a, .int b]
  | .look a k => .tup [.str "look", .int a, .int k]
  | .add a b => .tup [.str "add", .int a, .int b]
  | .addc a b => .tup [.str "addc", .int a, .int b]
  | .and_ a b => .tup [.str "and", .int a, .int b]
  | .or_ a b => .tup [.str "or", .int a, .int b]
  | .left a => .tup [.str "left", .int a]
  | .right a => .tup [.str "right", .int a]
  | .mark v => .tup [.str "mark", .int v]
def cg (c : List Nat) (i : Nat) : Nat := c.getD i 0
def Cells (c : List Nat) : Prop := c.length = 256 ∧ ∀ i, cg c i < 256
def TabLt (tb : Nat → Nat → Nat) (nt : Nat) : Prop := ∀ k v, k < nt → v < 256 → tb k v < 256
theorem cg_set {c : List Nat} {a v i : Nat} : cg (c.set a v) i = if i = a ∧ a < c.length then v else cg c i := by
  unfold cg
  rw [List.getD_eq_getElem?_getD, List.getD_eq_getElem?_getD, List.getElem?_set]
  by_cases h : a = i
  · subst h
    by_cases h2 : a < c.length
    · simp [h2]
    · simp [h2, List.getElem?_eq_none (Nat.le_of_not_lt h2)]
  · have : ¬ (i = a) := fun e => h e.symm
    simp [h, this]
theorem Cells.set {c : List Nat} (h : Cells c) {a v : Nat} (hv : v < 256) : Cells (c.set a v) := by
  refine ⟨by rw [List.length_set]; exact h.1, fun i => ?_⟩
  rw [cg_set]
  split
  · exact hv
  · exact h.2 i
inductive Ab where
  | r (x : Rw) | lk (c : Nat) (w : Str)
def layA (s : List Str × List Rw) : Ab → List Str × List Rw
  | .r x => (s.1, s.2 ++ [x])
  | .lk c w => (lkW s.1 w, s.2 ++ [.look c (lkI s.1 w)])
def lays (as : List Ab) (s : List Str × List Rw) : List Str × List Rw := as.foldl layA s
def okAb : Ab → Bool
  | .r _ => true
  | .lk _ w => fnNames.contains w
def Gd (s : List Str × List Rw) (k : Nat) : Prop := s.1.Nodup ∧ (∀ z ∈ s.1, z ∈ fnNames) ∧ s.2.length + k < 16777216
theorem nodup_le : ∀ {l m : List Str}, l.Nodup → (∀ z ∈ l, z ∈ m) → l.length ≤ m.length
  | [], m, _, _ => Nat.zero_le _
  | a :: l, m, h, hs => by
    obtain ⟨h1, h2⟩ := List.nodup_cons.mp h
    have ha := hs a (by simp)
    have ih := @nodup_le l (m.erase a) h2 (fun z hz => by
      have ne : z ≠ a := fun e => h1 (by rw [← e]; exact hz)
      exact (List.mem_erase_of_ne ne).mpr (hs z (List.mem_cons_of_mem _ hz)))
    rw [List.length_erase_of_mem ha] at ih
    have := List.length_pos_of_mem ha
    simp; omega
theorem Gd.len {s : List Str × List Rw} {k : Nat} (h : Gd s k) : s.1.length < 100 := by
  have h1 : s.1.length ≤ fnNames.length := nodup_le h.1 fun z hz => h.2.1 z hz
  have h2 : fnNames.length < 100 := by decide +kernel
  omega
theorem Gd.less {s : List Str × List Rw} {k j : Nat} (h : Gd s k) (hj : j ≤ k) : Gd s j := ⟨h.1, h.2.1, by have := h.2.2; omega⟩
theorem layA_len (s : List Str × List Rw) (a : Ab) : (layA s a).2.length = s.2.length + 1 := by cases a <;> simp [layA]
theorem lkW_nodup {ws : List Str} {w : Str} (h : ws.Nodup) : (lkW ws w).Nodup := by
  unfold lkW
  split
  · exact h
  · rename_i hn
    rw [List.nodup_append]
    refine ⟨h, by simp, ?_⟩
    intro a ha b hb e
    rw [List.mem_singleton.mp hb] at e
    exact hn (e ▸ ha)
theorem Gd.step {s : List Str × List Rw} {k : Nat} (h : Gd s (k + 1)) {a : Ab} (ha : okAb a = true) : Gd (layA s a) k := by
  refine ⟨?_, ?_, by rw [layA_len]; have := h.2.2; omega⟩
  · cases a with
    | r x => exact h.1
    | lk c w => exact lkW_nodup h.1
  · cases a with
    | r x => exact h.2.1
    | lk c w =>
      intro z hz
      have hw : w ∈ fnNames := List.contains_iff_mem.mp ha
      simp only [layA] at hz
      unfold lkW at hz
      split at hz
      · exact h.2.1 z hz
      · rcases List.mem_append.mp hz with hz | hz
        · exact h.2.1 z hz
        · rw [List.mem_singleton.mp hz]; exact hw
theorem Gd.lays {k : Nat} : ∀ {as : List Ab} {s : List Str × List Rw}, Gd s (as.length + k) → as.all okAb = true → Gd (lays as s) k
  | [], s, h, _ => by simpa [Tm.lays] using h
  | a :: as, s, h, ha => by
    rw [List.all_cons, Bool.and_eq_true] at ha
    have h1 : Gd (layA s a) (as.length + k) := Gd.step (h.less (by simp; omega)) ha.1
    show Gd (Tm.lays as (layA s a)) k
    exact Gd.lays h1 ha.2
def bS (fr : Nat) (s : List Str × List Rw) : MV := Bo fr s.1 (s.2.map enR) tabW
section
variable {fr : Nat} {s : List Str × List Rw} {ρ : Env} {x y z : Option MV}
@[simp] theorem bS_held : (bS fr s).held = true := nr rfl
end
theorem nm (w : Str) (h : fnNames.contains w = true) : w ∈ fnNames := List.contains_iff_mem.mp h
theorem room_le2 {kd sg : Str} {n : Nat} (h : 1 ≤ n) : roomM kd sg n ≤ n := by
  have : manyM n sg ≤ n + 1 := by unfold manyM; split <;> omega
  unfold roomM
  split <;> omega
def folded (n : Nat) (sg : Str) (x : Int) : Int := if sg = "none" then x.fmod (10 ^ n) else if sg = "tens" then (x + 5 * 10 ^ (n - 1)).fmod (10 ^ n) - 5 * 10 ^ (n - 1) else if x < 0 then - (-x).fmod (10 ^ n) else x.fmod (10 ^ n)
def w3 : List MV := [.str "put", .str "copy", .str "add", .str "addc", .str "and", .str "or"]
def w2 : List MV := [.str "left", .str "right"]
theorem cbE_b2 {f : MF} {x v : MV} {ys : List MV} {args : List BA} {ρ : Env} {r q y : Option MV} (h : x.held = true) (hf : fill args (r :: q :: some x :: ρ) = some ys) (hi : idxB args = []) (en : f (x :: ys) = .ok (v, [y])) : cbE f (.b 2 :: args) (r :: q :: some x :: ρ) = .ok (v, r :: q :: y :: ρ) := by
  rw [cbE_ap]
  have e : fill (.b 2 :: args) (r :: q :: some x :: ρ) = some (x :: ys) := by
    rw [fill_b, hf]
    simp [h]
  rw [e]
  show (match f (x :: ys) with | .ok (v, os) => _ | .exc e os => _ | .stuck => _) = _
  rw [en]
  rw [idxB_b, hi]
  rfl
section
variable {f : MF} {fr fr' : Nat} {s s' : List Str × List Rw} {a b c d v : MV}
theorem cd1 (en : f [bS fr s, a] = .ok (v, [some (bS fr' s')])) (r q : Option MV) (ρ : Env) : cbE f [.b 2, .v a] (r :: q :: some (bS fr s) :: ρ) = .ok (v, r :: q :: some (bS fr' s') :: ρ) := cbE_b2 rfl rfl rfl en
theorem cd2 (en : f [bS fr s, a, b] = .ok (v, [some (bS fr' s')])) (r q : Option MV) (ρ : Env) : cbE f [.b 2, .v a, .v b] (r :: q :: some (bS fr s) :: ρ) = .ok (v, r :: q :: some (bS fr' s') :: ρ) := cbE_b2 rfl rfl rfl en
theorem cd3 (en : f [bS fr s, a, b, c] = .ok (v, [some (bS fr' s')])) (r q : Option MV) (ρ : Env) : cbE f [.b 2, .v a, .v b, .v c] (r :: q :: some (bS fr s) :: ρ) = .ok (v, r :: q :: some (bS fr' s') :: ρ) := cbE_b2 rfl rfl rfl en
theorem cd4 (en : f [bS fr s, a, b, c, d] = .ok (v, [some (bS fr' s')])) (r q : Option MV) (ρ : Env) : cbE f [.b 2, .v a, .v b, .v c, .v d] (r :: q :: some (bS fr s) :: ρ) = .ok (v, r :: q :: some (bS fr' s') :: ρ) := cbE_b2 rfl rfl rfl en
end
structure Bs (L : List Str) : Prop where
  ah : ("ahead_of_last" : Str) ∈ L
  la : ("last_figure" : Str) ∈ L
  ni : ("nine_less" : Str) ∈ L
  hi : ("high_half" : Str) ∈ L
  lo : ("low_half" : Str) ∈ L
  up : ("half_up" : Str) ∈ L
  te : ("ten_or_none" : Str) ∈ L
  fi : ("five_on" : Str) ∈ L
  on : ("one_or_none" : Str) ∈ L
  be : ("sign_below" : Str) ∈ L
  tw : ("one_of_two" : Str) ∈ L
theorem ok2 {a b : Nat} (ha : a < 256) (hb : b < 256) : (decide (a < 256) && decide (b < 256)) = true := by rw [decide_eq_true ha, decide_eq_true hb]; rfl
theorem folded_in {n : Nat} {sg : Str} (hn : 1 ≤ n) (hs : sg = "none" ∨ sg = "end" ∨ sg = "tens") (x : Int) : least n sg ≤ folded n sg x ∧ folded n sg x ≤ most n sg := by
  have hp := ten_pos n
  have hp1 := ten_pos (n - 1)
  have st := pow_step hn
  have e10 : ((10 ^ n : Nat) : Int) = (10 : Int) ^ n := by simp
  have e9 : ((10 ^ (n - 1) : Nat) : Int) = (10 : Int) ^ (n - 1) := by simp
  have a1 := fun y : Int => fmod_ge' (a := y) hp
  have a2 := fun y : Int => fmod_lt' (a := y) hp
  unfold least most folded
  rcases hs with rfl | rfl | rfl
  · simp only [sg_ne4, if_false, if_true]
    have := a1 x
    have := a2 x
    omega
  · simp only [sg_ne1, sg_ne5, if_false, if_true]
    have := a1 x
    have := a2 x
    have := a1 (-x)
    have := a2 (-x)
    split <;> omega
  · simp only [sg_ne2, sg_ne3, if_false, if_true]
    have q1 := a1 (x + 5 * 10 ^ (n - 1))
    have q2 := a2 (x + 5 * 10 ^ (n - 1))
    rw [← e10, ← e9] at *
    omega
theorem fold_fix {n : Nat} {sg : Str} (hn : 1 ≤ n) (hs : sg = "none" ∨ sg = "end" ∨ sg = "tens") {x : Int} (hx : least n sg ≤ x ∧ x ≤ most n sg) : folded n sg x = x := by
  have hp := ten_pos n
  have st := pow_step hn
  have e10 : ((10 ^ n : Nat) : Int) = (10 : Int) ^ n := by simp
  have e9 : ((10 ^ (n - 1) : Nat) : Int) = (10 : Int) ^ (n - 1) := by simp
  have fx : ∀ y : Int, 0 ≤ y → y < 10 ^ n → y.fmod (10 ^ n) = y := fun y h1 h2 => by
    rw [Int.fmod_eq_emod_of_nonneg _ (by omega)]
    exact Int.emod_eq_of_lt h1 h2
  unfold least most folded at *
  rcases hs with rfl | rfl | rfl
  · simp only [sg_ne4, if_false, if_true] at *
    exact fx x (by omega) (by omega)
  · simp only [sg_ne1, sg_ne5, if_false, if_true] at *
    split
    · rw [fx (-x) (by omega) (by omega)]; omega
    · exact fx x (by omega) (by omega)
  · simp only [sg_ne2, sg_ne3, if_false, if_true] at *
    rw [fx _ (by omega) (by rw [← e10, ← e9] at *; omega)]; omega
theorem log_small {m : Nat} (h : m < 2 ^ 1000) : m.log2 < 1920 := by
  by_cases h0 : m = 0
  · subst h0; decide
  · have := (Nat.log2_lt h0).mpr h
    omega
theorem divOk_ten {k : Nat} (h : k < 100) : divOk ((10 : Int) ^ k) = true := by
  unfold divOk
  have e : ((10 : Int) ^ k) = ((10 ^ k : Nat) : Int) := by simp
  have h1 : 10 ^ k < 2 ^ 1000 := Nat.lt_of_le_of_lt (Nat.pow_le_pow_right (by decide) (show k ≤ 100 by omega)) (by decide +kernel)
  have h2 := log_small h1
  have h3 : 0 < 10 ^ k := Nat.pow_pos (by decide)
  rw [e, Bool.or_eq_true]
  right
  simp only [Int.natAbs_natCast, Bool.and_eq_true, decide_eq_true_eq]
  omega
def kdM (a : Int) : Str := if a = 0 then "packed" else "spread"
def sgM (s : Int) : Str := if s = 0 then "none" else if s = 1 then "end" else "tens"
theorem kdM_or (a : Int) : kdM a = "packed" ∨ kdM a = "spread" := by unfold kdM; split <;> simp
theorem sgM_or (s : Int) : sgM s = "none" ∨ sgM s = "end" ∨ sgM s = "tens" := by
  unfold sgM
  split
  · exact .inl rfl
  · split
    · exact .inr (.inl rfl)
    · exact .inr (.inr rfl)
theorem lform_kd2 {a s : Int} {k n : Nat} (ha : 0 ≤ a ∧ a < 2) (hm : k < 50) (hs : 0 ≤ s ∧ s < 3) (hn : n = 1 + k) : ∃ pt : Int, f_lform [.int a, .int k, .int s] = .ok (Form (kdM a) n (sgM s) (.int pt), []) := by
  have h1 : ¬ ((k : Int) + 2 = 0) := by omega
  have hk : atI [MV.str "packed", .str "spread"] a = some (.str (kdM a)) := by
    rcases (show a = 0 ∨ a = 1 by omega) with rfl | rfl <;> rfl
  have hg : atI [MV.str "none", .str "end", .str "tens"] s = some (.str (sgM s)) := by
    rcases (show s = 0 ∨ s = 1 ∨ s = 2 by omega) with rfl | rfl | rfl <;> rfl
  have key : ∃ pt ρ, m_lform [some (.int a), some (.int k), some (.int s), none] = .ok (.rt (.tup [.str (kdM a), .int (1 + (k : Int)), .str (sgM s), .int pt]), ρ) := by
    generalize kdM a = kd at *
    generalize sgM s = sg at *
    simp [m_lform, mulOk_l, h1, szOk_small, hk, hg]
  obtain ⟨pt, ρ, h⟩ := key
  refine ⟨pt, mFn_ok ⟨ρ, ?_⟩⟩
  have : MV.tup [.str (kdM a), .int (1 + (k : Int)), .str (sgM s), .int pt] = Form (kdM a) n (sgM s) (.int pt) := by rw [hn]; unfold Form; simp
  rw [← this]; exact h
theorem Gd.go {s : List Str × List Rw} {N : Nat} {as : List Ab} (h : Gd s N) (ok : as.all okAb = true) (k : Nat) (hl : as.length + k ≤ N) : Gd (Tm.lays as s) k := Gd.lays (h.less hl) ok
def dl : Nat → Nat → List Nat
  | 0, _ => []
  | k + 1, n => n % 256 :: dl k (n / 256)
structure TwW (L : List Str) : Prop where
  al : ("all_or_none" : Str) ∈ L
  no : ("none_or_all" : Str) ∈ L
  ot : ("other_twos" : Str) ∈ L
  th : ("ten_high" : Str) ∈ L
  tl : ("ten_low" : Str) ∈ L
  fi : ("fill" : Str) ∈ L
  na : ("not_all" : Str) ∈ L
  on : ("one_or_none" : Str) ∈ L
structure Ls (L : List Str) : Prop where
  ah : ("ahead_of_last" : Str) ∈ L
  la : ("last_figure" : Str) ∈ L
  ni : ("nine_less" : Str) ∈ L
  hi : ("high_half" : Str) ∈ L
  lo : ("low_half" : Str) ∈ L
  te : ("ten_or_none" : Str) ∈ L
  fi : ("five_on" : Str) ∈ L
  be : ("sign_below" : Str) ∈ L
theorem bls_map {α : Type} (f : α → Bool) : ∀ l : List α, blsOf (l.map fun p => .bl (f p)) = some (l.map f)
  | [] => rfl
  | p :: l => by
    have := bls_map f l
    simp [blsOf, this]
theorem ball_map {α : Type} (f : α → Bool) (l : List α) : bAll [.lst (l.map fun p => .bl (f p))] = some (.bl (l.all f)) := by
  show (blsOf _).map _ = _
  rw [bls_map]
  simp
def okN (N nt : Nat) : Rw → Bool
  | .put a v => decide (a < N) && decide (v < 256)
  | .look a k => decide (a < N) && decide (k < nt)
  | .copy a b => decide (a < N) && decide (b < N)
  | .add a b => decide (a < N) && decide (b < N)
  | .addc a b => decide (a < N) && decide (b < N)
  | .and_ a b => decide (a < N) && decide (b < N)
  | .or_ a b => decide (a < N) && decide (b < N)
  | .left a => decide (a < N)
  | .right a => decide (a < N)
  | .mark v => decide (v < 2)
def CellsN (N : Nat) (c : List Nat) : Prop := c.length = N ∧ ∀ i, cg c i < 256
theorem CellsN.set {N : Nat} {c : List Nat} (h : CellsN N c) {a v : Nat} (hv : v < 256) : CellsN N (c.set a v) := by
  refine ⟨by rw [List.length_set]; exact h.1, fun i => ?_⟩
  rw [cg_set]
  split
  · exact hv
  · exact h.2 i
def CR (c : List Nat) (m : Nat) (p : List Nat × Nat) (a : Nat) : Prop := Cells p.1 ∧ p.2 = m ∧ (∀ i, i < 252 → cg p.1 i = cg c i) ∧ cg p.1 252 = a
structure DrP (N : Nat) where
  tb : Nat → Nat → Nat
  nt : Nat
  rs : List Rw
  c : List Nat
  m : Nat
  h16 : nt ≤ 16
  tl : TabLt tb nt
  ok : rs.all (okN N nt) = true
  h48 : rs.length ≤ 48
  cn : CellsN N c
  m2 : m < 2
def dtx (ds : List Nat) : Str := ⟨(ds.map (48 + ·)).toArray⟩
theorem dtx_len (ds : List Nat) : (dtx ds).length = ds.length := by
  show (ds.map (48 + ·)).toArray.size = ds.length
  simp
theorem dtx_list (ds : List Nat) : (dtx ds).cps.toList = ds.map (48 + ·) := by simp [dtx]
theorem str_ext {a b : Str} (h : a.cps.toList = b.cps.toList) : a = b := by
  cases a; cases b
  simp only at h
  congr 1
  exact Array.toList_inj.mp h
theorem dtx_app (a b : List Nat) : dtx (a ++ b) = dtx a ++ dtx b := str_ext (by rw [tl_app, dtx_list, dtx_list, dtx_list, List.map_append])
theorem digit_nat : ∀ d, d < 10 → (Nat.digitChar d).toNat = 48 + d := by decide
def nd (m : Nat) : Nat := (Nat.toDigits 10 m).length
theorem dec_digs : ∀ (k m : Nat), m ≤ k → (Nat.toDigits 10 m).map Char.toNat = (digsB (nd m) m).map (48 + ·)
  | k, m, hk => by
    unfold nd
    rw [Nat.toDigits_eq_if (by decide)]
    split
    · rename_i h
      show [(Nat.digitChar m).toNat] = (digsB 1 m).map (48 + ·)
      rw [digit_nat m h, digsB_step]
      simp [digsB, digs, Nat.mod_eq_of_lt h]
    · rename_i h
      match k, hk with
      | 0, hk => omega
      | k + 1, hk =>
        have ih := dec_digs k (m / 10) (by omega)
        unfold nd at ih
        rw [List.map_append, ih, List.length_append]
        show _ = (digsB ((Nat.toDigits 10 (m / 10)).length + 1) m).map (48 + ·)
        rw [digsB_step, List.map_append]
        congr 1
        show [(Nat.digitChar (m % 10)).toNat] = [48 + m % 10]
        rw [digit_nat _ (Nat.mod_lt _ (by decide))]
theorem str_dec (m : Nat) : Str.ofString (toString (m : Int)) = dtx (digsB (nd m) m) := by
  refine (PyProof.Rows.text_ofNat m).trans (str_ext ?_)
  rw [dtx_list, ← dec_digs m m (Nat.le_refl _)]
theorem digsB_pad : ∀ (n j m : Nat), m < 10 ^ n → digsB (j + n) m = List.replicate j 0 ++ digsB n m
  | 0, j, m, h => by
    have : m = 0 := by simpa using h
    subst this
    have : ∀ j : Nat, digsB j 0 = List.replicate j 0 := by
      intro j
      induction j with
      | zero => rfl
      | succ j ih => rw [digsB_step, Nat.zero_div, ih, ← List.replicate_succ']
    rw [Nat.add_zero, this j]; simp [digsB, digs]
  | n + 1, j, m, h => by
    rw [← Nat.add_assoc, digsB_step, digsB_step, digsB_pad n j (m / 10) (by rw [Nat.pow_succ] at h; omega), List.append_assoc]
theorem nd_pos (m : Nat) : 1 ≤ nd m := by
  have := @Nat.length_toDigits_pos 10 m
  exact this
theorem lt_nd (m : Nat) : m < 10 ^ nd m := by
  have := (Nat.length_toDigits_le_iff (n := m) (b := 10) (k := nd m) (by decide) (nd_pos m)).mp (Nat.le_refl _)
  exact this
theorem nd_le {m t : Nat} (h : m < 10 ^ t) (ht : 1 ≤ t) : nd m ≤ t := (Nat.length_toDigits_le_iff (n := m) (b := 10) (k := t) (by decide) ht).mpr h
theorem zfill_dtx (m k : Nat) : Txt.zfill (dtx (digsB (nd m) m)) (k : Int) = dtx (digsB (max (nd m) k) m) := by
  unfold Txt.zfill
  rw [dtx_len, digsB_len]
  by_cases h : k ≤ nd m
  · rw [if_pos (by omega), Nat.max_eq_left h]
  · rw [if_neg (by omega), Nat.max_eq_right (by omega)]
    unfold zfilled
    have hf : ∃ d, d < 10 ∧ (dtx (digsB (nd m) m)).cps[0]? = some (48 + d) := by
      have hl : 0 < (digsB (nd m) m).length := by rw [digsB_len]; exact nd_pos m
      refine ⟨(digsB (nd m) m)[0], digsB_lt (List.getElem_mem hl), ?_⟩
      rw [← Array.getElem?_toList, dtx_list, List.getElem?_map, List.getElem?_eq_getElem hl]
      rfl
    obtain ⟨d, hd, e⟩ := hf
    rw [e]
    have e2 : Builtin.Str.padded (dtx (digsB (nd m) m)) ((k : Int).toNat - nd m) 0 48 = dtx (digsB k m) := by
      refine str_ext ?_
      have := digsB_pad (nd m) (k - nd m) m (lt_nd m)
      rw [show k - nd m + nd m = k by omega] at this
      rw [dtx_list, this, List.map_append, List.map_replicate, Int.toNat_natCast]
      show (Array.replicate (k - nd m) 48 ++ (dtx (digsB (nd m) m)).cps ++ Array.replicate 0 48).toList = _
      rw [Array.toList_append, Array.toList_append, Array.toList_replicate, Array.toList_replicate, dtx_list]
      simp
    split
    · rename_i h1; exact absurd (Option.some.inj h1) (by omega)
    · rename_i h1; exact absurd (Option.some.inj h1) (by omega)
    · exact e2
theorem pad_ok {k : Nat} (h : k < 1000) : PadOk (k : Int) = true := by
  unfold PadOk fitsSsize
  have h1 : Builtin.Str.tooLong (k : Int).toNat = false := by
    unfold Builtin.Str.tooLong
    rw [sizeLine_eq]
    exact decide_eq_false (by omega)
  rw [h1, decide_eq_false (by omega), decide_eq_false (by omega)]; rfl
theorem log_small7 {m : Nat} (h : m < 2 ^ 1000) : m.log2 < 1920 := by
  by_cases h0 : m = 0
  · subst h0; decide
  · have := (Nat.log2_lt h0).mpr h
    omega
theorem cutS_neg {z : Str} {p : Nat} (hp : 1 ≤ p) (h : p ≤ z.length) : cutS z none (some (-(p : Int))) = cutS z none (some ((z.length - p : Nat) : Int)) ∧ cutS z (some (-(p : Int))) none = cutS z (some ((z.length - p : Nat) : Int)) none := by
  have e : ∀ d, HT.sIx z.length d (some (-(p : Int))) = HT.sIx z.length d (some ((z.length - p : Nat) : Int)) := fun d => by
    simp only [HT.sIx]
    rw [if_pos (by omega), if_neg (by omega)]
    omega
  unfold cutS
  rw [e, e]
  exact ⟨rfl, rfl⟩
def txtM (p : Nat) (x : Int) : Str :=
  let z := dtx (digsB (max (nd x.natAbs) (p + 1)) x.natAbs)
  let z := if 0 < p then cutS z none (some ((z.length - p : Nat) : Int)) ++ ("." : Str) ++ cutS z (some ((z.length - p : Nat) : Int)) none else z
  if x < 0 then ("-" : Str) ++ z else z
theorem pwritten_eq {kd sg : Str} {n p : Nat} (h1 : 1 ≤ n ∧ n < 100) (hp : p < 100) (x : Int) (hf : least n sg ≤ x ∧ x ≤ most n sg) (hx : x.natAbs < 10 ^ 100) :
    f_pwritten [Form kd n sg (.int p), .int x] = .ok (.str (txtM p x), []) := by
  refine mFn_ok ?_
  have f1 := @pfits_eq kd sg n (.int p) h1 x
  have fd : (decide (least n sg ≤ x) && decide (x ≤ most n sg)) = true := by simp [hf]
  rw [fd] at f1
  have l1 : x.natAbs.log2 < 1920 := log_small7 (Nat.lt_of_lt_of_le hx (by decide +kernel))
  have l2 : ((x.natAbs : Int)).natAbs.log2 < 1920 := by simpa using l1
  have s1 := str_dec x.natAbs
  have z1 := zfill_dtx x.natAbs (p + 1)
  have po := @pad_ok (p + 1) (by omega)
  have hnd : nd x.natAbs ≤ 100 := nd_le hx (by decide)
  unfold txtM
  dsimp only
  generalize hT : max (nd x.natAbs) (p + 1) = T at *
  have lz := @dtx_len (digsB T x.natAbs)
  rw [digsB_len] at lz
  generalize dtx (digsB T x.natAbs) = z at *
  generalize dtx (digsB (nd x.natAbs) x.natAbs) = y at *
  have sz : szOk z.length = true := szOk_small (by omega)
  have ld : ("." : Str).length = 1 := by decide +kernel
  have lm : ("-" : Str).length = 1 := by decide +kernel
  have st : smZfill y [.int ((p : Int) + 1)] = some (.str z) := by
    have e : ((p : Int) + 1) = ((p + 1 : Nat) : Int) := by omega
    rw [e, ← z1]
    exact if_pos po
  have bs : bStr [.int (x.natAbs : Int)] = some (.str y) := by
    show (if decide (((x.natAbs : Int)).natAbs.log2 < 1920) = true then some (MV.str (Str.ofString (toString (x.natAbs : Int)))) else none) = _
    rw [if_pos (decide_eq_true l2), s1]
  unfold Form at *
  by_cases hp0 : 0 < p
  · obtain ⟨c1, c2⟩ := @cutS_neg z p (by omega) (by omega)
    have lc1 := @len_cut z none (some ((z.length - p : Nat) : Int))
    have lc2 := @len_cut z (some ((z.length - p : Nat) : Int)) none
    generalize cutS z none (some ((z.length - p : Nat) : Int)) = a at *
    generalize cutS z (some ((z.length - p : Nat) : Int)) none = b at *
    have sa : szOk (a.length + 1) = true := szOk_small (by omega)
    have sb : szOk ((a ++ (Str.ofString ".")).length + b.length) = true := by
      rw [len_app]; exact szOk_small (by have : (Str.ofString ".").length = 1 := ld; omega)
    have sc : szOk (1 + ((a ++ (Str.ofString ".")) ++ b).length) = true := by
      rw [len_app, len_app]; exact szOk_small (by have : (Str.ofString ".").length = 1 := ld; omega)
    have hp0' : (0 : Int) < p := by omega
    by_cases hx0 : x < 0
    · rw [show (x.natAbs : Int) = -x by omega] at bs
      simp [m_pwritten, f1, bs, smE, st, hp0, hp0', hx0, sz, c1, c2, sa, sb, sc, ld, lm]
    · rw [show (x.natAbs : Int) = x by omega] at bs
      simp [m_pwritten, f1, bs, smE, st, hp0, hp0', hx0, sz, c1, c2, sa, sb, sc, ld, lm]
  · have hp0' : ¬ (0 : Int) < p := by omega
    have sc : szOk (1 + z.length) = true := szOk_small (by omega)
    by_cases hx0 : x < 0
    · rw [show (x.natAbs : Int) = -x by omega] at bs
      simp [m_pwritten, f1, bs, smE, st, hp0, hp0', hx0, sz, sc, lm]
    · rw [show (x.natAbs : Int) = x by omega] at bs
      simp [m_pwritten, f1, bs, smE, st, hp0, hp0', hx0, sz, sc, lm]
section
variable {kd sg : Str} {n : Nat} {p : MV}
theorem pfolded_eq (hn : 1 ≤ n) (h : n < 100) (hs : sg = "none" ∨ sg = "end" ∨ sg = "tens") (x : Int) : f_pfolded [Form kd n sg p, .int x] = .ok (.int (folded n sg x), []) := by
  refine mFn_ok ?_
  have hp := ten_pos n
  have hpl := @pleast_eq kd sg n p hn h
  unfold Form at hpl
  rcases hs with rfl | rfl | rfl
  · simp [m_pfolded, Form, at2, at1, folded, pten_eq (k := n) (by omega) (by omega), Int.ne_of_gt hp]
  · by_cases hx : x < 0
    · simp [m_pfolded, Form, at2, at1, folded, pten_eq (k := n) (by omega) (by omega), Int.ne_of_gt hp, sg_ne1, sg_ne5, hx]
    · simp [m_pfolded, Form, at2, at1, folded, pten_eq (k := n) (by omega) (by omega), Int.ne_of_gt hp, sg_ne1, sg_ne5, hx]
  · simp [m_pfolded, Form, at2, at1, folded, pten_eq (k := n) (by omega) (by omega), Int.ne_of_gt hp, sg_ne2, hpl]
    simp [least, sg_ne2, sg_ne3]
    rw [show x - -5 * 10 ^ (n - 1) = x + 5 * 10 ^ (n - 1) by omega]
    omega
end
theorem fIn_one (c : Nat) (z : Str) : fIn (.str ⟨#[c]⟩) (.str z) = some (.bl (decide (c ∈ z.cps.toList))) := by
  have h := PySem.StrLaws.found_iff z ⟨#[c]⟩
  have e : (!(Builtin.Str.occurrences z ⟨#[c]⟩ 0 z.length 1).isEmpty) = decide (c ∈ z.cps.toList) := by
    rw [Bool.eq_iff_iff, h, decide_eq_true_eq, List.mem_iff_getElem?]
    exact ⟨fun ⟨i, hi⟩ => ⟨i, (PySem.StrLaws.subAt_one z c i).mp hi⟩, fun ⟨i, hi⟩ => ⟨i, (PySem.StrLaws.subAt_one z c i).mpr hi⟩⟩
  show (some (!(Builtin.Str.occurrences z ⟨#[c]⟩ 0 z.length 1).isEmpty)).map MV.bl = _
  rw [e]; rfl
def figC (c : Nat) : Bool := decide (48 ≤ c) && decide (c ≤ 57)
theorem fig_list : (Str.ofString "0123456789").cps.toList = [48, 49, 50, 51, 52, 53, 54, 55, 56, 57] := by decide +kernel
theorem fIn_fig (c : Nat) : fIn (.str ⟨#[c]⟩) (.str (Str.ofString "0123456789")) = some (.bl (figC c)) := by
  have e : decide (c ∈ (Str.ofString "0123456789").cps.toList) = figC c := by
    rw [fig_list]
    unfold figC
    rw [Bool.eq_iff_iff]
    simp
    omega
  rw [fIn_one, e]
theorem figs_all (w : Str) (v : Nat) (ρ : Env) {a : ME} (ha : a ρ = .ok (.str w, ρ)) (hv : ρ[v]? = some none) (hz : w.length ≤ 100000) :
    mLcO (mItV a) (.nm v) mYes (mOp fIn (mVar v) (mC (.str (Str.ofString "0123456789")))) [v] ρ = .ok (.own (w.cps.toList.map fun c => .bl (figC c)), ρ) := by
  have hl : w.cps.toList.length = w.length := Array.length_toList
  have hlt : v < ρ.length := lt_get hv
  have := mLcO_nm (it := mItV a) (e := mOp fIn (mVar v) (mC (.str (Str.ofString "0123456789")))) (v := v) (ρ := ρ) (xs := signsM w) (fun z => match z with | .str s => .bl (figC (s.cps.getD 0 0)) | _ => .non)
    (by unfold mItV; rw [ha]; rfl) hv (by
      intro x hx
      obtain ⟨c, _, rfl⟩ := List.mem_map.mp hx
      have e1 : mVar v (ρ.set v (some (.str ⟨#[c]⟩))) = .ok (.str ⟨#[c]⟩, ρ.set v (some (.str ⟨#[c]⟩))) := by
        unfold mVar
        rw [List.getElem?_set_self hlt]
      unfold mOp
      rw [e1]
      show (match fIn (.str ⟨#[c]⟩) (.str (Str.ofString "0123456789")) with | some z => Res.ok (z, _) | none => .stuck) = _
      rw [fIn_fig]
      rfl) (by unfold signsM; rw [List.length_map, hl, sizeLine_eq]; omega)
  rw [this]
  unfold signsM
  rw [List.map_map]
  rfl
def digV (cs : List Nat) : Nat := cs.foldl (fun acc c => acc * 10 + (c - 48)) 0
theorem int_figs {w : Str} (h1 : 1 ≤ w.cps.toList.length) (h3 : w.cps.toList.length ≤ 600) (hf : w.cps.toList.all figC = true) : bInt [.str w] = some (.int (digV w.cps.toList : Nat)) := by
  have hl : w.cps.toList.length = w.length := Array.length_toList
  have := PySem.intText_digits (x := w) (by
    intro c hc
    have := List.all_eq_true.mp hf c hc
    unfold figC at this
    simpa using this) (by intro h; rw [h] at h1; simp at h1) (by omega)
  show (if decide (w.length ≤ 640) then (PySem.intText? w).map MV.int else none) = _
  rw [if_pos (decide_eq_true (by omega)), this]
  rfl
theorem split_sp {l : Str} (hz : l.length ≤ 100000) (b : Str) (hb : (b.length == 0) = false) : smSplit l [.str b] = some (.lst ((Txt.split l b).map MV.str)) := if_pos ⟨hb, by rw [sizeLine_eq]; omega⟩
section
variable {g : MG} {b : MS} {x v : MV} {xs : List MV} {ρ ρ1 ρ2 : Env} {e : MX}
theorem loop_c_nx (hg : g x ρ = some ρ1) (hb : b ρ1 = .ok (.nx, ρ2)) : mLoop g b (x :: xs) ρ = mLoop g b xs ρ2 := by
  conv => lhs; unfold mLoop
  rw [hg]; simp only [hb, bind_ok]
end
inductive Rd where
  | bad (j : Nat)
  | got (rs : List (Str × List Int))
theorem txt_join (z : Str) (ss : List Str) : Txt.join z ss = Str.join z ss := by
  show Builtin.Str.glued z ss = _
  rw [StrLaws.glued_eq_join]
theorem join_len (z a : Str) (ss : List Str) : (Txt.join z (a :: ss)).length = ((a :: ss).map (·.length)).sum + ss.length * z.length := by
  rw [txt_join, PyProof.Rows.len_join_cons]
theorem join_ok {z : Str} {ss : List Str} (h : (ss.map (·.length)).sum + ss.length * z.length ≤ 16777216) : smJoin z [.lst (ss.map MV.str)] = some (.str (Txt.join z ss)) := by
  show (strsOf (ss.map MV.str)).bind (joinM z) = _
  rw [strsOf_map]
  exact if_pos (decide_eq_true h)
theorem sum_le {n : Nat} : ∀ {ss : List Str}, (∀ s ∈ ss, s.length ≤ n) → (ss.map (·.length)).sum ≤ ss.length * n
  | [], _ => by simp
  | s :: ss, h => by
    have ih := sum_le (ss := ss) fun x hx => h x (List.mem_cons_of_mem _ hx)
    have := h s (List.mem_cons_self ..)
    rw [List.map_cons, List.sum_cons, List.length_cons, Nat.succ_mul]
    omega
theorem join_le {n : Nat} (z : Str) {ss : List Str} (h : ∀ s ∈ ss, s.length ≤ n) : (Txt.join z ss).length ≤ ss.length * (n + z.length) := by
  cases ss with
  | nil => show (Str.join z []).length ≤ _; exact Nat.zero_le _
  | cons a l =>
    rw [join_len, Nat.mul_add]
    have := sum_le h
    have h2 : l.length * z.length ≤ (a :: l).length * z.length := Nat.mul_le_mul_right _ (by simp)
    omega
theorem join_ok2 {n : Nat} (z : Str) {ss : List Str} (h : ∀ s ∈ ss, s.length ≤ n) (hn : n ≤ 1000) (hz : z.length ≤ 1) (hl : ss.length ≤ 10000) : smJoin z [.lst (ss.map MV.str)] = some (.str (Txt.join z ss)) := by
  refine join_ok ?_
  have h1 := sum_le h
  have h2 : ss.length * n ≤ 10000 * 1000 := Nat.mul_le_mul hl hn
  have h3 : ss.length * z.length ≤ 10000 * 1 := Nat.mul_le_mul hl hz
  omega
theorem mLcO_it {α : Type} {it : MI} {e : ME} {v : Nat} {ρ : Env} {l : List α} (item y : α → MV) (hi : it ρ = .ok (l.map item, ρ)) (hv : ρ[v]? = some none) (he : ∀ a ∈ l, e (ρ.set v (some (item a))) = .ok (y a, ρ.set v (some (item a)))) (hz : l.length ≤ sizeLine) :
    mLcO it (.nm v) mYes e [v] ρ = .ok (.own (l.map y), ρ) := by
  have := mLcO_nm (it := it) (e := e) (v := v) (ρ := ρ) (xs := l.map item) (fun z => match e (ρ.set v (some z)) with | .ok (r, _) => r | _ => .non) hi hv (fun x hx => by
    obtain ⟨a, ha, rfl⟩ := List.mem_map.mp hx
    rw [he a ha]) (by rw [List.length_map]; exact hz)
  rw [this, List.map_map]
  congr 3
  refine List.map_congr_left fun a ha => ?_
  show (match e (ρ.set v (some (item a))) with | .ok (r, _) => r | _ => .non) = y a
  rw [he a ha]
theorem join_two (z a b : Str) (l : List Str) : Str.join z (a :: b :: l) = a ++ z ++ Str.join z (b :: l) := rfl
theorem cut_inj {c : Nat} : ∀ {p q x y : List Nat}, c ∉ p → c ∉ q → p ++ c :: x = q ++ c :: y → p = q ∧ x = y
  | [], [], x, y, _, _, h => ⟨rfl, by simpa using h⟩
  | [], b :: q, x, y, _, hq, h => by
    simp at h
    exact absurd (h.1 ▸ List.mem_cons_self ..) hq
  | a :: p, [], x, y, hp, _, h => by
    simp at h
    exact absurd (h.1 ▸ List.mem_cons_self ..) hp
  | a :: p, b :: q, x, y, hp, hq, h => by
    simp at h
    obtain ⟨rfl, h⟩ := h
    obtain ⟨rfl, e⟩ := cut_inj (fun m => hp (List.mem_cons_of_mem _ m)) (fun m => hq (List.mem_cons_of_mem _ m)) h
    exact ⟨rfl, e⟩
theorem join_inj {c : Nat} : ∀ {ps qs : List Str}, ps ≠ [] → qs ≠ [] → (∀ p ∈ ps, c ∉ p.cps.toList) → (∀ q ∈ qs, c ∉ q.cps.toList) → Str.join ⟨#[c]⟩ ps = Str.join ⟨#[c]⟩ qs → ps = qs
  | [], _, h, _, _, _, _ => absurd rfl h
  | _, [], _, h, _, _, _ => absurd rfl h
  | [a], [b], _, _, _, _, h => by rw [show a = b from h]
  | [a], b :: d :: l, _, _, h1, _, h => by
    have h : a = b ++ ⟨#[c]⟩ ++ Str.join ⟨#[c]⟩ (d :: l) := h
    have := h1 a (List.mem_singleton.mpr rfl)
    rw [h, tl_app, tl_app] at this
    simp at this
  | a :: d :: l, [b], _, _, _, h2, h => by
    have h : a ++ ⟨#[c]⟩ ++ Str.join ⟨#[c]⟩ (d :: l) = b := h
    have := h2 b (List.mem_singleton.mpr rfl)
    rw [← h, tl_app, tl_app] at this
    simp at this
  | a :: d :: l, b :: e :: m, _, _, h1, h2, h => by
    have h : a ++ ⟨#[c]⟩ ++ Str.join ⟨#[c]⟩ (d :: l) = b ++ ⟨#[c]⟩ ++ Str.join ⟨#[c]⟩ (e :: m) := h
    have hl := congrArg (fun z : Str => z.cps.toList) h
    simp only [tl_app] at hl
    have hl : a.cps.toList ++ c :: (Str.join ⟨#[c]⟩ (d :: l)).cps.toList = b.cps.toList ++ c :: (Str.join ⟨#[c]⟩ (e :: m)).cps.toList := by simpa using hl
    obtain ⟨e1, e2⟩ := cut_inj (h1 a (List.mem_cons_self ..)) (h2 b (List.mem_cons_self ..)) hl
    rw [str_ext e1, join_inj (ps := d :: l) (qs := e :: m) (by simp) (by simp) (fun p hp => h1 p (List.mem_cons_of_mem _ hp)) (fun p hp => h2 p (List.mem_cons_of_mem _ hp)) (str_ext e2)]
theorem split_join {c : Nat} {ps : List Str} (h0 : ps ≠ []) (h : ∀ p ∈ ps, c ∉ p.cps.toList) : Txt.split (Txt.join ⟨#[c]⟩ ps) ⟨#[c]⟩ = ps := by
  have hj := StrLaws.join_split (Txt.join ⟨#[c]⟩ ps) ⟨#[c]⟩
  have hf := StrLaws.split_free (Txt.join ⟨#[c]⟩ ps) c
  have hp := PyProof.Rows.split_pos (Txt.join ⟨#[c]⟩ ps) ⟨#[c]⟩
  generalize Txt.split (Txt.join ⟨#[c]⟩ ps) ⟨#[c]⟩ = qs at *
  rw [txt_join] at hj
  exact (join_inj h0 (fun e => by rw [e] at hp; simp at hp) h hf hj.symm).symm
theorem spc_eq : Str.ofString " " = ⟨#[32]⟩ := rfl
theorem not_at {x : Str} {c i : Nat} (h : c ∉ x.cps.toList) : ¬ StrLaws.At x ⟨#[c]⟩ x.length i := fun hA => h (List.mem_of_getElem? ((StrLaws.subAt_one x c i).mp hA))
theorem partition_no {x : Str} {c : Nat} (h : c ∉ x.cps.toList) : Txt.partition x ⟨#[c]⟩ = (x, Str.empty, Str.empty) := by
  unfold Txt.partition
  rcases StrLaws.occ_head x ⟨#[c]⟩ 1 (Nat.le_refl 1) with ⟨e, _⟩ | ⟨i, r, e, hA, _⟩
  · rw [e]
  · exact absurd hA (not_at h)
theorem partition_at {x : Str} {c : Nat} {a t : Str} (ha : c ∉ a.cps.toList) (hx : x = a ++ ⟨#[c]⟩ ++ t) : Txt.partition x ⟨#[c]⟩ = (a, ⟨#[c]⟩, t) := by
  have hm : c ∈ x.cps.toList := by rw [hx, tl_app, tl_app]; simp
  have hs := StrLaws.partition_sum x ⟨#[c]⟩
  have key : ∃ h t', Txt.partition x ⟨#[c]⟩ = (h, ⟨#[c]⟩, t') ∧ c ∉ h.cps.toList := by
    unfold Txt.partition
    rcases StrLaws.occ_head x ⟨#[c]⟩ 1 (Nat.le_refl 1) with ⟨e, hn⟩ | ⟨i, r, e, hA, hn⟩
    · obtain ⟨j, hj⟩ := List.getElem?_of_mem hm
      exact absurd ((StrLaws.subAt_one x c j).mpr hj) (hn j)
    · rw [e]
      refine ⟨_, _, rfl, ?_⟩
      have hi := hA.1
      exact StrLaws.part_free x c 0 i (by omega) fun k _ h2 => hn k h2
  obtain ⟨h, t', e, hf⟩ := key
  rw [e] at hs ⊢
  have hs : h ++ ⟨#[c]⟩ ++ t' = x := hs
  rw [hx] at hs
  have hl := congrArg (fun z : Str => z.cps.toList) hs
  simp only [tl_app] at hl
  have hl : h.cps.toList ++ c :: t'.cps.toList = a.cps.toList ++ c :: t.cps.toList := by simpa using hl
  obtain ⟨e1, e2⟩ := cut_inj hf ha hl
  rw [str_ext e1, str_ext e2]
theorem part_split (z : Str) (c : Nat) : (∃ w, Txt.split z ⟨#[c]⟩ = [w] ∧ Txt.partition z ⟨#[c]⟩ = (w, Str.empty, Str.empty)) ∨ (∃ a b, Txt.split z ⟨#[c]⟩ = [a, b] ∧ Txt.partition z ⟨#[c]⟩ = (a, ⟨#[c]⟩, b)) ∨ ∃ a b d r t, Txt.split z ⟨#[c]⟩ = a :: b :: d :: r ∧ Txt.partition z ⟨#[c]⟩ = (a, ⟨#[c]⟩, t) ∧ c ∈ t.cps.toList := by
  have hj := StrLaws.join_split z ⟨#[c]⟩
  have hf := StrLaws.split_free z c
  have hp := PyProof.Rows.split_pos z ⟨#[c]⟩
  generalize Txt.split z ⟨#[c]⟩ = W at *
  match W, hp with
  | [w], _ =>
    have hj : w = z := hj
    subst hj
    exact .inl ⟨_, rfl, partition_no (hf _ (List.mem_singleton.mpr rfl))⟩
  | [a, b], _ =>
    exact .inr (.inl ⟨a, b, rfl, partition_at (hf a (by simp)) hj.symm⟩)
  | a :: b :: d :: r, _ =>
    refine .inr (.inr ⟨a, b, d, r, _, rfl, partition_at (hf a (by simp)) hj.symm, ?_⟩)
    rw [join_two, tl_app, tl_app]; simp
def figW (w : Str) : Bool := decide (0 < w.length) && decide (w.length ≤ 30) && w.cps.toList.all figC
theorem figs_test (w : Str) (hz : w.length ≤ 100000) (h : w.length ≤ 30 → True) : mTest (mBlt bAll (mCons (mFz (mLcO (mItV (mVar 0)) (.nm 1) (mYes) (mOp fIn (mVar 1) (mC (.str "0123456789"))) [1])) (mNil))) [some (.str w), none] = .ok (w.cps.toList.all figC, [some (.str w), none]) := by
  have fa := figs_all w 1 [some (.str w), none] (a := mVar 0) rfl rfl hz
  have ba := ball_map figC w.cps.toList
  simp [fa, ba]
theorem pis_figures_eq {w : Str} (hz : w.length ≤ 100000) : f_pis_figures [.str w] = .ok (.bl (figW w), []) := by
  refine mFn_ok ?_
  have sz : szOk w.length = true := szOk_small (by omega)
  have ft := figs_test w hz (fun _ => trivial)
  unfold m_pis_figures figW
  generalize mTest (mBlt bAll (mCons (mFz (mLcO (mItV (mVar 0)) (.nm 1) (mYes) (mOp fIn (mVar 1) (mC (.str "0123456789"))) [1])) (mNil))) = FT at *
  generalize w.cps.toList.all figC = b at *
  have e : (w.length : Int) ≤ 30 ↔ w.length ≤ 30 := by omega
  by_cases h0 : 0 < w.length <;> by_cases h1 : w.length ≤ 30 <;> simp [sz, ft, h0, h1, e]
theorem figW_of {w : Str} (h : figW w = true) : 1 ≤ w.length ∧ w.length ≤ 30 ∧ w.cps.toList.all figC = true := by
  unfold figW at h
  simp only [Bool.and_eq_true, decide_eq_true_eq] at h
  exact ⟨h.1.1, h.1.2, h.2⟩
theorem dot_eq : Str.ofString "." = ⟨#[46]⟩ := rfl
theorem not_figW {t : Str} (h : 46 ∈ t.cps.toList) : figW t = false := by
  have : t.cps.toList.all figC = false := by
    cases e : t.cps.toList.all figC with
    | false => rfl
    | true => have := List.all_eq_true.mp e 46 h; cases this
  unfold figW
  rw [this]; simp
theorem partM {z : Str} (hz : z.length ≤ 100000) : smPartition z [.str (Str.ofString ".")] = some (.tup [.str (Txt.partition z (Str.ofString ".")).1, .str (Txt.partition z (Str.ofString ".")).2.1, .str (Txt.partition z (Str.ofString ".")).2.2]) := if_pos ⟨rfl, by rw [sizeLine_eq]; omega⟩
theorem part_len {z y : Str} : (Txt.partition z y).1.length ≤ z.length ∧ (Txt.partition z y).2.1.length ≤ z.length ∧ (Txt.partition z y).2.2.length ≤ z.length := PyProof.Rows.fact_partition z y
def wordsN (z : Str) : Option (Str × Str) := match Txt.split z (Str.ofString ".") with
  | [a] => if figW a then some (a, Str.empty) else none
  | [a, b] => if figW a && figW b then some (a, b) else none
  | _ => none
theorem pparts_of_eq {z : Str} (hz : z.length ≤ 100000) : f_pparts_of [.str z] = match wordsN z with | some (a, b) => .ok (.tup [.str a, .str b], []) | none => .exc ⟨"NoText", []⟩ [] := by
  have pm := partM hz
  have pl := @part_len z (Str.ofString ".")
  unfold wordsN
  rw [dot_eq] at *
  rcases part_split z 46 with ⟨w, e1, e2⟩ | ⟨a, b, e1, e2⟩ | ⟨a, b, d, r, t, e1, e2, hm⟩
  · rw [e1]
    rw [e2] at pm pl
    have f1 := pis_figures_eq (w := w) (by have := pl.1; simp at this; omega)
    have ne : ¬ Str.empty = (⟨#[46]⟩ : Str) := by intro h; injection h with h; simp at h
    show f_pparts_of [.str z] = match (if figW w then some (w, Str.empty) else none) with | some (a, b) => _ | none => _
    cases hf : figW w with
    | true =>
      rw [hf] at f1
      exact mFn_ok ⟨[some (.str z), some (.str w), some (.str Str.empty), some (.str Str.empty)], by simp [m_pparts_of, dot_eq, smE_ok pm, f1, ne, szOk_small]⟩
    | false =>
      rw [hf] at f1
      exact mFn_exc ⟨[some (.str z), some (.str w), some (.str Str.empty), some (.str Str.empty)], by simp [m_pparts_of, dot_eq, smE_ok pm, f1, szOk_small]⟩
  · rw [e1]
    rw [e2] at pm pl
    have f1 := pis_figures_eq (w := a) (by have := pl.1; simp at this; omega)
    have f2 := pis_figures_eq (w := b) (by have := pl.2.2; simp at this; omega)
    show f_pparts_of [.str z] = match (if figW a && figW b then some (a, b) else none) with | some (a, b) => _ | none => _
    cases hf : figW a with
    | true =>
      rw [hf] at f1
      cases hg : figW b with
      | true =>
        rw [hg] at f2
        exact mFn_ok ⟨[some (.str z), some (.str a), some (.str ⟨#[46]⟩), some (.str b)], by simp [m_pparts_of, dot_eq, smE_ok pm, f1, f2, szOk_small]⟩
      | false =>
        rw [hg] at f2
        exact mFn_exc ⟨[some (.str z), some (.str a), some (.str ⟨#[46]⟩), some (.str b)], by simp [m_pparts_of, dot_eq, smE_ok pm, f1, f2, szOk_small]⟩
    | false =>
      rw [hf] at f1
      exact mFn_exc ⟨[some (.str z), some (.str a), some (.str ⟨#[46]⟩), some (.str b)], by simp [m_pparts_of, dot_eq, smE_ok pm, f1, szOk_small]⟩
  · rw [e1]
    rw [e2] at pm pl
    have f1 := pis_figures_eq (w := a) (by have := pl.1; simp at this; omega)
    have f2 := pis_figures_eq (w := t) (by have := pl.2.2; simp at this; omega)
    rw [not_figW hm] at f2
    show f_pparts_of [.str z] = .exc ⟨"NoText", []⟩ []
    cases hf : figW a with
    | true =>
      rw [hf] at f1
      exact mFn_exc ⟨[some (.str z), some (.str a), some (.str ⟨#[46]⟩), some (.str t)], by simp [m_pparts_of, dot_eq, smE_ok pm, f1, f2, szOk_small]⟩
    | false =>
      rw [hf] at f1
      exact mFn_exc ⟨[some (.str z), some (.str a), some (.str ⟨#[46]⟩), some (.str t)], by simp [m_pparts_of, dot_eq, smE_ok pm, f1, szOk_small]⟩
theorem cut_from (z : Str) (k : Nat) : (cutS z (some (k : Int)) none).cps.toList = z.cps.toList.drop k := by
  have hl : z.cps.toList.length = z.length := Array.length_toList
  unfold cutS
  simp [HT.sIx, show ¬ (k : Int) < 0 by omega]
  by_cases e : k ≤ z.length
  · rw [Nat.min_eq_left e, List.take_of_length_le (by rw [List.length_drop]; omega)]
  · rw [Nat.min_eq_right (by omega), List.drop_of_length_le (by omega), List.drop_of_length_le (by omega)]; simp
theorem cut_to (z : Str) (k : Nat) : (cutS z none (some (k : Int))).cps.toList = z.cps.toList.take k := by
  have hl : z.cps.toList.length = z.length := Array.length_toList
  unfold cutS
  rw [HT.sIx_nat]
  show ((z.cps.toList.drop 0).take (min k z.length - 0)).toArray.toList = _
  rw [List.drop_zero, Nat.sub_zero, ← hl]
  exact List.take_eq_take_min.symm
theorem ten_le (p : Nat) (hp : p ≤ 18) : (10 : Int) ^ p < 2 ^ 64 := by
  have h := Nat.pow_le_pow_right (n := 10) (by decide) hp
  have e : (10 : Int) ^ p = ((10 ^ p : Nat) : Int) := by push_cast; rfl
  have b : (10 : Nat) ^ 18 < 2 ^ 64 := by decide
  rw [e]
  have : ((10 ^ p : Nat) : Int) < ((2 ^ 64 : Nat) : Int) := Int.ofNat_lt.mpr (Nat.lt_of_le_of_lt h b)
  exact this
def minT (T : Str) : Bool := decide (T.cps.toList.head? = some 45)
theorem dash_eq : Str.ofString "-" = ⟨#[45]⟩ := rfl
theorem minus_iff (T : Str) : decide (cutS T none (some 1) = Str.ofString "-") = minT T := by
  have h := cut_to T 1
  unfold minT
  rw [dash_eq]
  have e : (cutS T none (some 1) = (⟨#[45]⟩ : Str)) ↔ T.cps.toList.head? = some 45 := by
    have h : (cutS T none (some 1)).cps.toList = T.cps.toList.take 1 := h
    constructor
    · intro q
      rw [q] at h
      cases hc : T.cps.toList with
      | nil => rw [hc] at h; simp at h
      | cons a r => rw [hc] at h; simp at h; rw [h]; rfl
    · intro q
      refine str_ext ?_
      rw [h]
      cases hc : T.cps.toList with
      | nil => rw [hc] at q; simp at q
      | cons a r => rw [hc] at q; simp at q; rw [q]; rfl
  exact decide_eq_decide.mpr e
def sizeT (T : Str) : Str := if minT T then cutS T (some 1) none else T
theorem cut_zero (T : Str) : cutS T (some 0) none = T := str_ext (by have := cut_from T 0; simpa using this)
theorem sizeT_ne {T : Str} : decide (sizeT T = T) = !minT T := by
  unfold sizeT
  cases h : minT T with
  | false => simp
  | true =>
    have hc := cut_from T 1
    have hn : ¬ cutS T (some 1) none = T := by
      intro e
      have hc : (cutS T (some 1) none).cps.toList = T.cps.toList.drop 1 := hc
      rw [e] at hc
      unfold minT at h
      cases hl : T.cps.toList with
      | nil => rw [hl] at h; simp at h
      | cons a r =>
        rw [hl] at hc
        have := congrArg List.length hc
        simp at this
    simp [hn]
theorem sizeT_len (T : Str) : (sizeT T).length ≤ T.length := by
  unfold sizeT
  split
  · exact len_cut
  · exact Nat.le_refl _
def tolN (lo hi : Int) (p : Nat) (m : Bool) (a b : Str) : Option Int :=
  if digV (a ++ b).cps.toList * 10 ^ p % 10 ^ b.length = 0 then
    (if lo ≤ (if m then -((digV (a ++ b).cps.toList * 10 ^ p / 10 ^ b.length : Nat) : Int) else ((digV (a ++ b).cps.toList * 10 ^ p / 10 ^ b.length : Nat) : Int)) ∧ (if m then -((digV (a ++ b).cps.toList * 10 ^ p / 10 ^ b.length : Nat) : Int) else ((digV (a ++ b).cps.toList * 10 ^ p / 10 ^ b.length : Nat) : Int)) ≤ hi
      then some (if m then -((digV (a ++ b).cps.toList * 10 ^ p / 10 ^ b.length : Nat) : Int) else ((digV (a ++ b).cps.toList * 10 ^ p / 10 ^ b.length : Nat) : Int)) else none)
  else none
theorem wordsN_some {z a b : Str} (h : wordsN z = some (a, b)) : figW a = true ∧ (b = Str.empty ∨ figW b = true) := by
  unfold wordsN at h
  split at h
  · split at h
    · rename_i w e hf
      cases h
      exact ⟨hf, .inl rfl⟩
    · cases h
  · split at h
    · rename_i x y e hf
      cases h
      simp only [Bool.and_eq_true] at hf
      exact ⟨hf.1, .inr hf.2⟩
    · cases h
  · cases h
theorem words_fig {z a b : Str} (h : wordsN z = some (a, b)) : 1 ≤ (a ++ b).cps.toList.length ∧ (a ++ b).cps.toList.length ≤ 60 ∧ (a ++ b).cps.toList.all figC = true ∧ b.length ≤ 30 ∧ a.length ≤ 30 := by
  obtain ⟨h1, h2⟩ := wordsN_some h
  obtain ⟨a1, a2, a3⟩ := figW_of h1
  have la : a.cps.toList.length = a.length := Array.length_toList
  have lb : b.cps.toList.length = b.length := Array.length_toList
  have hb : b.length ≤ 30 ∧ b.cps.toList.all figC = true := by
    rcases h2 with rfl | h2
    · exact ⟨by decide, rfl⟩
    · exact ⟨(figW_of h2).2.1, (figW_of h2).2.2⟩
  rw [tl_app, List.length_append, List.all_append, a3, hb.2]
  exact ⟨by omega, by omega, rfl, hb.1, a2⟩
theorem ptold_eq {kd sg : Str} {n p : Nat} (h1 : 1 ≤ n ∧ n < 100) (hp : p ≤ 18) {T : Str} (hz : T.length ≤ 100000) :
    f_ptold [Form kd n sg (.int p), .str T] = match wordsN (sizeT T) with
      | none => .exc ⟨"NoText", []⟩ []
      | some (a, b) => match tolN (least n sg) (most n sg) p (minT T) a b with
        | some s => .ok (.int s, [])
        | none => .exc ⟨"NoFit", [("number", .str T)]⟩ [] := by
  have sz : szOk T.length = true := szOk_small (by omega)
  have mi := minus_iff T
  have ne := @sizeT_ne T
  have st : ∀ X, cutS T (some (if minT T = true then 1 else 0)) none = X ↔ sizeT T = X := by
    intro X
    unfold sizeT
    cases minT T with
    | true => exact Iff.rfl
    | false => simp [cut_zero]
  have pp := pparts_of_eq (z := sizeT T) (by have := sizeT_len T; omega)
  have st2 : cutS T (some (if minT T = true then 1 else 0)) none = sizeT T := (st _).mpr rfl
  obtain ⟨fx, hfx⟩ : ∃ fx, Form kd n sg (.int p) = .tup fx := ⟨_, rfl⟩
  have f3 : atI fx 3 = some (.int p) := by unfold Form at hfx; cases hfx; rfl
  cases hw : wordsN (sizeT T) with
  | none =>
    rw [hw] at pp
    have pp : f_pparts_of [.str (sizeT T)] = .exc ⟨"NoText", []⟩ [] := pp
    generalize sizeT T = S at *
    refine mFn_exc ⟨[some (Form kd n sg (.int p)), some (.str T), some (.str S), none, none, none, none], ?_⟩
    rw [hfx]
    simp [m_ptold, sz, mi, st2, pp]
  | some ab =>
    obtain ⟨a, b⟩ := ab
    rw [hw] at pp
    obtain ⟨w1, w2, w3, w4, w5⟩ := words_fig hw
    have pp : f_pparts_of [.str (sizeT T)] = .ok (.tup [.str a, .str b], []) := pp
    have lab : (a ++ b).cps.toList.length = (a ++ b).length := Array.length_toList
    have bi := int_figs (w := a ++ b) w1 (by omega) w3
    have za : szOk (a.length + b.length) = true := szOk_small (by omega)
    have zb : szOk b.length = true := szOk_small (by omega)
    have pt := @pten_eq (p : Int) (by omega) (by omega)
    have pb := @pten_eq (b.length : Int) (by omega) (by omega)
    rw [Int.toNat_natCast] at pt pb
    have mk : mulOk (digV (a ++ b).cps.toList : Nat) ((10 : Int) ^ p) = true := mulOk_r (by have : (0 : Int) < 10 ^ p := Int.pow_pos (by decide); omega) (ten_le p hp)
    have pf := @pfits_eq kd sg n (.int p) h1
    show f_ptold [Form kd n sg (.int p), .str T] = match tolN (least n sg) (most n sg) p (minT T) a b with | some s => _ | none => _
    unfold tolN
    have dv : divOk ((10 : Int) ^ b.length) = true := divOk_ten (by omega)
    have cU : ((10 : Int) ^ b.length) = ((10 ^ b.length : Nat) : Int) := by push_cast; rfl
    have cN : ((digV (a ++ b).cps.toList : Nat) : Int) * (10 : Int) ^ p = ((digV (a ++ b).cps.toList * 10 ^ p : Nat) : Int) := by push_cast; rfl
    have fm := nat_fmod (digV (a ++ b).cps.toList * 10 ^ p) (10 ^ b.length)
    have fd := nat_fdiv (digV (a ++ b).cps.toList * 10 ^ p) (10 ^ b.length)
    have nz : ¬ ((10 : Int) ^ b.length = 0) := by have : (0 : Int) < 10 ^ b.length := Int.pow_pos (by decide); omega
    rw [← cU, ← cN] at fm fd
    generalize digV (a ++ b).cps.toList * 10 ^ p = N at *
    generalize hU : 10 ^ b.length = U at *
    generalize hUi : (10 : Int) ^ b.length = Ui at *
    generalize hPi : (10 : Int) ^ p = Pi at *
    generalize digV (a ++ b).cps.toList = V at *
    generalize hNi : (V : Int) * Pi = Ni at *
    generalize hS : sizeT T = S at *
    generalize hm : minT T = m at *
    generalize hq : N / U = q at *
    by_cases hr : N % U = 0
    · rw [if_pos hr]
      have fm : Ni.fmod Ui = 0 := by rw [fm, hr]; rfl
      have pf2 := pf (if m = true then -(q : Int) else (q : Int))
      generalize hX : (if m = true then -(q : Int) else (q : Int)) = X at *
      have nx : (if (!(!m)) = true then Res.ok (MV.int (-(q : Int)), ()) else .ok (.int q, ())) = Res.ok (.int X, ()) := by rw [← hX]; cases m <;> rfl
      rw [hfx] at pf2 ⊢
      by_cases hl : least n sg ≤ X ∧ X ≤ most n sg
      · rw [if_pos hl]
        rw [decide_eq_true hl.1, decide_eq_true hl.2] at pf2
        cases m with
        | true =>
          have hX : X = -(q : Int) := hX.symm
          rw [hX] at pf2 ⊢
          simp at ne st2
          exact mFn_ok ⟨[some (.tup fx), some (.str T), some (.str S), some (.int (-(q : Int))), some (.int Ui), some (.str a), some (.str b)], by simp [m_ptold, sz, mi, st2, pp, za, bi, f3, pt, mk, zb, pb, nz, fm, dv, fd, ne, pf2, hNi]⟩
        | false =>
          have hX : X = (q : Int) := hX.symm
          rw [hX] at pf2 ⊢
          simp at ne st2
          subst ne
          exact mFn_ok ⟨[some (.tup fx), some (.str S), some (.str S), some (.int (q : Int)), some (.int Ui), some (.str a), some (.str b)], by simp [m_ptold, sz, mi, st2, pp, za, bi, f3, pt, mk, zb, pb, nz, fm, dv, fd, pf2, hNi]⟩
      · rw [if_neg hl]
        have pf3 : f_pfits [.tup fx, .int X] = .ok (.bl false, []) := by
          have : (decide (least n sg ≤ X) && decide (X ≤ most n sg)) = false := by
            cases hb : (decide (least n sg ≤ X) && decide (X ≤ most n sg)) with
            | true => rw [Bool.and_eq_true] at hb; exact absurd ⟨of_decide_eq_true hb.1, of_decide_eq_true hb.2⟩ hl
            | false => rfl
          rw [this] at pf2
          exact pf2
        cases m with
        | true =>
          have hX : X = -(q : Int) := hX.symm
          rw [hX] at pf3
          simp at ne st2
          exact mFn_exc ⟨[some (.tup fx), some (.str T), some (.str S), some (.int (-(q : Int))), some (.int Ui), some (.str a), some (.str b)], by simp [m_ptold, sz, mi, st2, pp, za, bi, f3, pt, mk, zb, pb, nz, fm, dv, fd, ne, pf3, hNi]⟩
        | false =>
          have hX : X = (q : Int) := hX.symm
          rw [hX] at pf3
          simp at ne st2
          subst ne
          exact mFn_exc ⟨[some (.tup fx), some (.str S), some (.str S), some (.int (q : Int)), some (.int Ui), some (.str a), some (.str b)], by simp [m_ptold, sz, mi, st2, pp, za, bi, f3, pt, mk, zb, pb, nz, fm, dv, fd, pf3, hNi]⟩
    · rw [if_neg hr]
      have fm2 : ¬ Ni.fmod Ui = 0 := by rw [fm]; omega
      rw [hfx]
      exact mFn_exc ⟨[some (.tup fx), some (.str T), some (.str S), some (.int Ni), some (.int Ui), some (.str a), some (.str b)], by simp [m_ptold, sz, mi, st2, pp, za, bi, f3, pt, mk, zb, pb, nz, fm2, hNi]⟩
theorem app_empty (a : Str) : a ++ Str.empty = a := str_ext (by rw [tl_app]; simp [Str.empty])
theorem digV_dtx (ds : List Nat) (h : ∀ d ∈ ds, d < 10) : digV (dtx ds).cps.toList = numB ds := by
  rw [dtx_list]
  unfold digV numB
  rw [List.foldl_map]
  have : ∀ (l : List Nat) (s : Nat), l.foldl (fun acc c => acc * 10 + (48 + c - 48)) s = l.foldl (fun acc d => acc * 10 + d) s := by
    intro l
    induction l with
    | nil => intro s; rfl
    | cons a l ih => intro s; rw [List.foldl_cons, List.foldl_cons, show 48 + a - 48 = a by omega]; exact ih _
  exact this ds 0
theorem figW_dtx {ds : List Nat} (h : ∀ d ∈ ds, d < 10) (h1 : 1 ≤ ds.length) (h2 : ds.length ≤ 30) : figW (dtx ds) = true := by
  unfold figW
  rw [dtx_len, decide_eq_true (show 0 < ds.length by omega), decide_eq_true h2, dtx_list]
  simp only [Bool.and_self, Bool.true_and, List.all_map, List.all_eq_true]
  intro d hd
  have := h d hd
  show figC (48 + d) = true
  unfold figC
  simp
  omega
theorem dtx_no {ds : List Nat} (c : Nat) (hc : c < 48) : c ∉ (dtx ds).cps.toList := by
  rw [dtx_list]
  intro h
  obtain ⟨d, _, e⟩ := List.mem_map.mp h
  omega
theorem cut_dtx (ds : List Nat) (k : Nat) : cutS (dtx ds) none (some (k : Int)) = dtx (ds.take k) ∧ cutS (dtx ds) (some (k : Int)) none = dtx (ds.drop k) := by
  constructor
  · exact str_ext (by rw [cut_to, dtx_list, dtx_list, List.map_take])
  · exact str_ext (by rw [cut_from, dtx_list, dtx_list, List.map_drop])
theorem words_written {m p T : Nat} (hT : p < T) (hT2 : T ≤ 30) :
    wordsN (if 0 < p then dtx ((digsB T m).take (T - p)) ++ (Str.ofString ".") ++ dtx ((digsB T m).drop (T - p)) else dtx (digsB T m)) = some (if 0 < p then (dtx ((digsB T m).take (T - p)), dtx ((digsB T m).drop (T - p))) else (dtx (digsB T m), Str.empty)) := by
  have dl : ∀ d ∈ digsB T m, d < 10 := fun d hd => digsB_lt hd
  have ll := digsB_len T m
  unfold wordsN
  rw [dot_eq]
  by_cases hp : 0 < p
  · rw [if_pos hp, if_pos hp]
    have e : Txt.split (dtx ((digsB T m).take (T - p)) ++ (⟨#[46]⟩ : Str) ++ dtx ((digsB T m).drop (T - p))) ⟨#[46]⟩ = [dtx ((digsB T m).take (T - p)), dtx ((digsB T m).drop (T - p))] := by
      have := split_join (c := 46) (ps := [dtx ((digsB T m).take (T - p)), dtx ((digsB T m).drop (T - p))]) (by simp) (by
        intro q hq
        simp only [List.mem_cons, List.not_mem_nil, or_false] at hq
        rcases hq with rfl | rfl <;> exact dtx_no 46 (by decide))
      rw [txt_join] at this
      exact this
    rw [e]
    have f1 : figW (dtx ((digsB T m).take (T - p))) = true := figW_dtx (fun d hd => dl d (List.mem_of_mem_take hd)) (by rw [List.length_take]; omega) (by rw [List.length_take]; omega)
    have f2 : figW (dtx ((digsB T m).drop (T - p))) = true := figW_dtx (fun d hd => dl d (List.mem_of_mem_drop hd)) (by rw [List.length_drop]; omega) (by rw [List.length_drop]; omega)
    show (if figW (dtx ((digsB T m).take (T - p))) && figW (dtx ((digsB T m).drop (T - p))) then _ else _) = _
    rw [f1, f2]; rfl
  · rw [if_neg hp, if_neg hp]
    have e : Txt.split (dtx (digsB T m)) ⟨#[46]⟩ = [dtx (digsB T m)] := by
      have := split_join (c := 46) (ps := [dtx (digsB T m)]) (by simp) (by
        intro q hq
        rw [List.mem_singleton.mp hq]
        exact dtx_no 46 (by decide))
      rw [txt_join] at this
      exact this
    rw [e]
    have f1 : figW (dtx (digsB T m)) = true := figW_dtx dl (by omega) (by omega)
    show (if figW (dtx (digsB T m)) then _ else _) = _
    rw [f1]; rfl
theorem told_written {kd sg : Str} {n p : Nat} (h1 : 1 ≤ n ∧ n < 100) (hp : p ≤ 18) {x : Int} (hx : least n sg ≤ x ∧ x ≤ most n sg) (hb : x.natAbs < 10 ^ 20) :
    f_ptold [Form kd n sg (.int p), .str (txtM p x)] = .ok (.int x, []) := by
  have hnd : nd x.natAbs ≤ 20 := nd_le hb (by decide)
  obtain ⟨T, hT⟩ : ∃ T, max (nd x.natAbs) (p + 1) = T := ⟨_, rfl⟩
  have hpT : p < T := by omega
  have hT30 : T ≤ 30 := by omega
  have hlt : x.natAbs < 10 ^ T := Nat.lt_of_lt_of_le (lt_nd _) (Nat.pow_le_pow_right (by decide) (by omega))
  have ww := @words_written x.natAbs p T hpT hT30
  obtain ⟨c1, c2⟩ := cut_dtx (digsB T x.natAbs) (T - p)
  have et : txtM p x = if x < 0 then Str.ofString "-" ++ (if 0 < p then dtx ((digsB T x.natAbs).take (T - p)) ++ (Str.ofString ".") ++ dtx ((digsB T x.natAbs).drop (T - p)) else dtx (digsB T x.natAbs)) else (if 0 < p then dtx ((digsB T x.natAbs).take (T - p)) ++ (Str.ofString ".") ++ dtx ((digsB T x.natAbs).drop (T - p)) else dtx (digsB T x.natAbs)) := by
    unfold txtM
    dsimp only
    rw [hT, dtx_len, digsB_len, c1, c2]
  have ll := digsB_len T x.natAbs
  have dl : ∀ d ∈ digsB T x.natAbs, d < 10 := fun d hd => digsB_lt hd
  -- the body does not begin with a minus, and is short
  obtain ⟨B, hB⟩ : ∃ B : Str, (if 0 < p then dtx ((digsB T x.natAbs).take (T - p)) ++ (Str.ofString ".") ++ dtx ((digsB T x.natAbs).drop (T - p)) else dtx (digsB T x.natAbs)) = B := ⟨_, rfl⟩
  have hhead : ¬ B.cps.toList.head? = some 45 := by
    rw [← hB]
    obtain ⟨d, r, hd⟩ : ∃ d r, digsB T x.natAbs = d :: r := by
      cases h : digsB T x.natAbs with
      | nil => rw [h] at ll; simp at ll; omega
      | cons d r => exact ⟨d, r, rfl⟩
    split
    · rw [tl_app, tl_app, dtx_list, hd]
      obtain ⟨k, hk⟩ : ∃ k, T - p = k + 1 := ⟨T - p - 1, by omega⟩
      rw [hk, List.take_succ_cons]
      simp
      omega
    · rw [dtx_list, hd]
      simp
      omega
  have hBl : B.length ≤ 100 := by
    rw [← hB]
    split
    · rw [len_app, len_app, dtx_len, dtx_len, List.length_take, List.length_drop]
      have : (Str.ofString ".").length = 1 := rfl
      omega
    · rw [dtx_len]; omega
  rw [hB] at ww et
  have hm : minT (txtM p x) = decide (x < 0) := by
    rw [et]
    unfold minT
    by_cases hn : x < 0
    · rw [if_pos hn, tl_app, decide_eq_true hn, dash_eq]; rfl
    · rw [if_neg hn, decide_eq_false hn, decide_eq_false hhead]
  have hs : sizeT (txtM p x) = B := by
    unfold sizeT
    rw [hm]
    by_cases hn : x < 0
    · rw [decide_eq_true hn, if_pos rfl, et, if_pos hn]
      refine str_ext ?_
      have := cut_from (Str.ofString "-" ++ B) 1
      have this : (cutS (Str.ofString "-" ++ B) (some 1) none).cps.toList = (Str.ofString "-" ++ B).cps.toList.drop 1 := this
      rw [this, tl_app, dash_eq]; rfl
    · rw [decide_eq_false hn, et, if_neg hn]; rfl
  have htl : (txtM p x).length ≤ 100000 := by
    rw [et]
    split
    · rw [len_app]
      have : (Str.ofString "-").length = 1 := rfl
      omega
    · omega
  have pt := @ptold_eq kd sg n p h1 hp (txtM p x) htl
  rw [hs, ww, hm] at pt
  have fin : ∀ (a b : Str), digV (a ++ b).cps.toList = x.natAbs → b.length = p → tolN (least n sg) (most n sg) p (decide (x < 0)) a b = some x := by
    intro a b e1 e2
    unfold tolN
    rw [e1, e2]
    have pp : 0 < 10 ^ p := Nat.pow_pos (by decide)
    rw [Nat.mul_mod_left, if_pos rfl, Nat.mul_div_cancel _ pp]
    have es : (if decide (x < 0) = true then -((x.natAbs : Nat) : Int) else ((x.natAbs : Nat) : Int)) = x := by
      by_cases hn : x < 0
      · rw [decide_eq_true hn, if_pos rfl]; omega
      · rw [decide_eq_false hn]; simp; omega
    rw [es, if_pos hx]
  have hd : digV (dtx (digsB T x.natAbs)).cps.toList = x.natAbs := by rw [digV_dtx _ dl, numB_digs, Nat.mod_eq_of_lt hlt]
  by_cases hp0 : 0 < p
  · rw [if_pos hp0] at pt
    have f := fin (dtx ((digsB T x.natAbs).take (T - p))) (dtx ((digsB T x.natAbs).drop (T - p))) (by rw [← dtx_app, List.take_append_drop]; exact hd) (by rw [dtx_len, List.length_drop]; omega)
    rw [pt]
    show (match tolN (least n sg) (most n sg) p (decide (x < 0)) (dtx ((digsB T x.natAbs).take (T - p))) (dtx ((digsB T x.natAbs).drop (T - p))) with | some s => _ | none => _) = _
    rw [f]
  · rw [if_neg hp0] at pt
    have f := fin (dtx (digsB T x.natAbs)) Str.empty (by rw [app_empty]; exact hd) (by show (0 : Nat) = p; omega)
    rw [pt]
    show (match tolN (least n sg) (most n sg) p (decide (x < 0)) (dtx (digsB T x.natAbs)) Str.empty with | some s => _ | none => _) = _
    rw [f]
theorem signs_all {K : Str} {p : Nat → Bool} (hK : ∀ c, fIn (.str ⟨#[c]⟩) (.str K) = some (.bl (p c))) (w : Str) (v : Nat) (ρ : Env) {a : ME} (ha : a ρ = .ok (.str w, ρ)) (hv : ρ[v]? = some none) (hz : w.length ≤ 100000) :
    mLcO (mItV a) (.nm v) mYes (mOp fIn (mVar v) (mC (.str K))) [v] ρ = .ok (.own (w.cps.toList.map fun c => .bl (p c)), ρ) := by
  have hl : w.cps.toList.length = w.length := Array.length_toList
  have hlt : v < ρ.length := lt_get hv
  refine mLcO_it (fun c : Nat => .str ⟨#[c]⟩) (fun c => .bl (p c)) (by unfold mItV; rw [ha]; rfl) hv (fun c hc => ?_) (by rw [hl, sizeLine_eq]; omega)
  have e1 : mVar v (ρ.set v (some (.str ⟨#[c]⟩))) = .ok (.str ⟨#[c]⟩, ρ.set v (some (.str ⟨#[c]⟩))) := by
    unfold mVar
    rw [List.getElem?_set_self hlt]
  unfold mOp
  rw [e1]
  show (match fIn (.str ⟨#[c]⟩) (.str K) with | some z => Res.ok (z, _) | none => .stuck) = _
  rw [hK]
def hexC (c : Nat) : Bool := (decide (48 ≤ c) && decide (c ≤ 57)) || (decide (65 ≤ c) && decide (c ≤ 70))
def hexV (c : Nat) : Nat := if c ≤ 57 then c - 48 else c - 55
def hcO (d : Nat) : Nat := if d < 10 then 48 + d else 55 + d
theorem hex_list : (Str.ofString "0123456789ABCDEF").cps.toList = [48, 49, 50, 51, 52, 53, 54, 55, 56, 57, 65, 66, 67, 68, 69, 70] := by decide +kernel
theorem fIn_hex (c : Nat) : fIn (.str ⟨#[c]⟩) (.str (Str.ofString "0123456789ABCDEF")) = some (.bl (hexC c)) := by
  have e : decide (c ∈ (Str.ofString "0123456789ABCDEF").cps.toList) = hexC c := by
    rw [hex_list]
    unfold hexC
    rw [Bool.eq_iff_iff]
    simp
    omega
  rw [fIn_one, e]
theorem hexC_of {c : Nat} (h : hexC c = true) : ∃ d, d < 16 ∧ c = hcO d ∧ hexV c = d := by
  unfold hexC at h
  simp at h
  rcases h with h | h
  · exact ⟨c - 48, by omega, by unfold hcO; rw [if_pos (by omega)]; omega, by unfold hexV; rw [if_pos (by omega)]⟩
  · exact ⟨c - 55, by omega, by unfold hcO; rw [if_neg (by omega)]; omega, by unfold hexV; rw [if_neg (by omega)]⟩
theorem hexC_hc {d : Nat} (h : d < 16) : hexC (hcO d) = true ∧ hexV (hcO d) = d := by
  unfold hcO hexC hexV
  split
  · exact ⟨by simp; omega, by rw [if_pos (by omega)]; omega⟩
  · exact ⟨by simp; omega, by rw [if_neg (by omega)]; omega⟩
theorem occ_hex : ∀ d, d < 16 → Builtin.Str.occurrences (Str.ofString "0123456789ABCDEF") ⟨#[hcO d]⟩ 0 (Str.ofString "0123456789ABCDEF").length 1 = [d] := by decide +kernel
theorem index_hex {d : Nat} (h : d < 16) : smIndex (Str.ofString "0123456789ABCDEF") [.str ⟨#[hcO d]⟩] = some (.int d) := by
  show (match Builtin.Str.occurrences (Str.ofString "0123456789ABCDEF") ⟨#[hcO d]⟩ 0 (Str.ofString "0123456789ABCDEF").length 1 with | i :: _ => some (MV.int (i : Nat)) | [] => none) = _
  rw [occ_hex d h]
theorem at_hex : ∀ d, d < 16 → (Str.ofString "0123456789ABCDEF").cps.toList[d]? = some (hcO d) := by decide +kernel
theorem ix_hex {d : Nat} (h : d < 16) : fIx (.str (Str.ofString "0123456789ABCDEF")) (.int d) = some (.str ⟨#[hcO d]⟩) := by
  show (if szOk (Str.ofString "0123456789ABCDEF").length then (atI (Str.ofString "0123456789ABCDEF").cps.toList (d : Int)).map (fun c => MV.str ⟨#[c]⟩) else none) = _
  rw [if_pos (szOk_small (by decide)), atI_ge (by omega), Int.toNat_natCast, at_hex d h]
  rfl
def byteT (w : Str) : Option Nat := match w.cps.toList with
  | [a, b] => if hexC a && hexC b then some (16 * hexV a + hexV b) else none
  | _ => none
theorem byteT_no {w : Str} (h : ¬ w.length = 2) : byteT w = none := by
  have hl : w.cps.toList.length = w.length := Array.length_toList
  unfold byteT
  split
  · rename_i a b e
    rw [e] at hl
    simp at hl
    omega
  · rfl
theorem two_signs {w : Str} (h : w.length = 2) : ∃ a b, w = ⟨#[a, b]⟩ := by
  have hl : w.cps.toList.length = w.length := Array.length_toList
  rw [h] at hl
  match hc : w.cps.toList, hl with
  | [a, b], _ => exact ⟨a, b, str_ext hc⟩
theorem pbyte_told_eq {w : Str} (hz : w.length ≤ 100000) : f_pbyte_told [.str w] = match byteT w with | some n => .ok (.int n, []) | none => .exc ⟨"NoText", []⟩ [] := by
  have sz : szOk w.length = true := szOk_small (by omega)
  by_cases h2 : w.length = 2
  · obtain ⟨a, b, rfl⟩ := two_signs h2
    have fa := signs_all fIn_hex ⟨#[a, b]⟩ 1 [some (.str ⟨#[a, b]⟩), none] (a := mVar 0) rfl rfl hz
    have ba := ball_map hexC [a, b]
    have sz2 : szOk (⟨#[a, b]⟩ : Str).length = true := sz
    have l2 : (⟨#[a, b]⟩ : Str).length = 2 := rfl
    have eb : byteT ⟨#[a, b]⟩ = if hexC a && hexC b then some (16 * hexV a + hexV b) else none := rfl
    rw [eb]
    cases hc : (hexC a && hexC b) with
    | true =>
      rw [Bool.and_eq_true] at hc
      obtain ⟨d, hd, rfl, ev⟩ := hexC_of hc.1
      obtain ⟨d2, hd2, rfl, ev2⟩ := hexC_of hc.2
      rw [ev, ev2]
      have i1 := index_hex hd
      have i2 := index_hex hd2
      have g0 : fIx (.str ⟨#[hcO d, hcO d2]⟩) (.int 0) = some (.str ⟨#[hcO d]⟩) := rfl
      have g1 : fIx (.str ⟨#[hcO d, hcO d2]⟩) (.int 1) = some (.str ⟨#[hcO d2]⟩) := rfl
      have ml : mulOk 16 (d : Int) = true := mulOk_l (by decide) (by decide)
      have ba : bAll [.lst [.bl (hexC (hcO d)), .bl (hexC (hcO d2))]] = some (.bl true) := by rw [hc.1, hc.2]; rfl
      have fa : mLcO (mItV (mVar 0)) (.nm 1) mYes (mOp fIn (mVar 1) (mC (.str (Str.ofString "0123456789ABCDEF")))) [1] [some (.str ⟨#[hcO d, hcO d2]⟩), none] = .ok (.own [.bl (hexC (hcO d)), .bl (hexC (hcO d2))], [some (.str ⟨#[hcO d, hcO d2]⟩), none]) := fa
      have bl : bLen [.str ⟨#[hcO d, hcO d2]⟩] = some (.int 2) := rfl
      generalize (⟨#[hcO d, hcO d2]⟩ : Str) = W at *
      generalize (⟨#[hcO d]⟩ : Str) = W1 at *
      generalize (⟨#[hcO d2]⟩ : Str) = W2 at *
      exact mFn_ok ⟨[some (.str W), none], by simp [m_pbyte_told, -bLen_s, -fIx_s, bl, fa, ba, g0, g1, smE_ok i1, smE_ok i2, ml]⟩
    | false =>
      have ba : bAll [.lst [.bl (hexC a), .bl (hexC b)]] = some (.bl false) := by
        cases e1 : hexC a <;> cases e2 : hexC b <;> first | rfl | (rw [e1, e2] at hc; cases hc)
      have fa : mLcO (mItV (mVar 0)) (.nm 1) mYes (mOp fIn (mVar 1) (mC (.str (Str.ofString "0123456789ABCDEF")))) [1] [some (.str ⟨#[a, b]⟩), none] = .ok (.own [.bl (hexC a), .bl (hexC b)], [some (.str ⟨#[a, b]⟩), none]) := fa
      have bl : bLen [.str ⟨#[a, b]⟩] = some (.int 2) := rfl
      generalize (⟨#[a, b]⟩ : Str) = W at *
      exact mFn_exc ⟨[some (.str W), none], by simp [m_pbyte_told, -bLen_s, bl, fa, ba]⟩
  · rw [byteT_no h2]
    have h3 : ¬ (w.length : Int) = 2 := by omega
    exact mFn_exc ⟨[some (.str w), none], by simp [m_pbyte_told, sz, h3]⟩
def hxB (b : Nat) : Str := ⟨#[hcO (b / 16)]⟩ ++ ⟨#[hcO (b % 16)]⟩
def hexT (row : List Nat) : Str := Txt.join (Str.ofString " ") (row.map hxB)
theorem hxB_list (b : Nat) : (hxB b).cps.toList = [hcO (b / 16), hcO (b % 16)] := by unfold hxB; rw [tl_app]; rfl
theorem hxB_len (b : Nat) : (hxB b).length = 2 := by unfold hxB; rw [len_app]; rfl
theorem byteT_hx {b : Nat} (h : b < 256) : byteT (hxB b) = some b := by
  unfold byteT
  rw [hxB_list]
  obtain ⟨h1, h2⟩ := @hexC_hc (b / 16) (by omega)
  obtain ⟨h3, h4⟩ := @hexC_hc (b % 16) (by omega)
  simp only [h1, h2, h3, h4, Bool.and_self, if_true]
  congr 1
  omega
theorem hcO_ge (d : Nat) : 48 ≤ hcO d := by unfold hcO; split <;> omega
theorem hxB_free (b : Nat) : 32 ∉ (hxB b).cps.toList := by
  rw [hxB_list]
  intro h
  have := hcO_ge (b / 16)
  have := hcO_ge (b % 16)
  simp at h
  omega
theorem hexT_len (row : List Nat) : (hexT row).length ≤ row.length * 3 := by
  have := join_le (Str.ofString " ") (n := 2) (ss := row.map hxB) (fun s hs => by
    obtain ⟨b, _, rfl⟩ := List.mem_map.mp hs
    exact Nat.le_of_eq (hxB_len b))
  have e : (Str.ofString " ").length = 1 := rfl
  rw [e, List.length_map] at this
  exact this
theorem hexT_join {row : List Nat} (hl : row.length ≤ 10000) : smJoin (Str.ofString " ") [.lst (row.map fun b => .str (hxB b))] = some (.str (hexT row)) := by
  have := join_ok2 (Str.ofString " ") (n := 2) (ss := row.map hxB) (fun s hs => by
    obtain ⟨b, _, rfl⟩ := List.mem_map.mp hs
    exact Nat.le_of_eq (hxB_len b)) (by decide) (by decide) (by rw [List.length_map]; exact hl)
  rw [List.map_map] at this
  exact this
theorem half_ix {b : Nat} (h : b < 256) : fDiv (.int b) (.int 16) = some (.int (b / 16 : Nat)) ∧ fMod (.int b) (.int 16) = some (.int (b % 16 : Nat)) := by
  constructor
  · show (if divOk 16 then some (MV.int ((b : Int).fdiv 16)) else none) = _
    rw [if_pos (show divOk 16 = true from rfl), show (b : Int).fdiv 16 = ((b / 16 : Nat) : Int) from nat_fdiv b 16]
  · show (if decide ((16 : Int) ≠ 0) then some (MV.int ((b : Int).fmod 16)) else none) = _
    rw [if_pos (by decide), show (b : Int).fmod 16 = ((b % 16 : Nat) : Int) from nat_fmod b 16]
theorem phexed_eq {row : List Nat} (h : ∀ b ∈ row, b < 256) (hl : row.length ≤ 10000) : f_phexed [.tup (row.map fun d : Nat => .int d)] = .ok (.str (hexT row), []) := by
  refine mFn_ok ?_
  have lc := mLcO_it (it := mItV (mVar 0)) (e := mOp fAdd (mOp fIx (mC (.str "0123456789ABCDEF")) (mOp fDiv (mVar 1) (mC (.int 16)))) (mOp fIx (mC (.str "0123456789ABCDEF")) (mOp fMod (mVar 1) (mC (.int 16))))) (v := 1) (ρ := [some (.tup (row.map fun d : Nat => .int d)), none]) (l := row) (fun d : Nat => .int d) (fun b => .str (hxB b)) (by simp) rfl (by
    intro b hb
    have hb := h b hb
    obtain ⟨f1, f2⟩ := half_ix hb
    have x1 := ix_hex (d := b / 16) (by omega)
    have x2 := ix_hex (d := b % 16) (by omega)
    have l1 : (⟨#[hcO (b / 16)]⟩ : Str).length = 1 := rfl
    have l2 : (⟨#[hcO (b % 16)]⟩ : Str).length = 1 := rfl
    have s2 : szOk (1 + 1) = true := szOk_small (by decide)
    unfold hxB
    generalize ((b / 16 : Nat) : Int) = P at *
    generalize ((b % 16 : Nat) : Int) = Q at *
    generalize (⟨#[hcO (b / 16)]⟩ : Str) = W1 at *
    generalize (⟨#[hcO (b % 16)]⟩ : Str) = W2 at *
    generalize row.map (fun d : Nat => MV.int d) = RM at *
    simp [-fDiv_ii, -fMod_ii, -fIx_s, f1, f2, x1, x2, l1, l2, s2]) (by rw [sizeLine_eq]; omega)
  have tj := hexT_join hl
  generalize (row.map fun b => MV.str (hxB b)) = HB at *
  generalize row.map (fun d : Nat => MV.int d) = RM at *
  show ∃ ρ, m_phexed [some (.tup RM), none] = _
  simp [m_phexed, lc, smE_ok tj]
theorem hexT_split {row : List Nat} (h0 : row ≠ []) : Txt.split (hexT row) (Str.ofString " ") = row.map hxB := by
  unfold hexT
  rw [spc_eq]
  exact split_join (by simpa using h0) fun p hp => by
    obtain ⟨b, _, rfl⟩ := List.mem_map.mp hp
    exact hxB_free b
theorem hexT_ne {row : List Nat} (h0 : row ≠ []) : ¬ hexT row = Str.ofString "" := by
  intro e
  have h := hexT_split h0
  rw [e] at h
  have e0 : Txt.split (Str.ofString "") (Str.ofString " ") = [Str.ofString ""] := rfl
  rw [e0] at h
  cases row with
  | nil => exact h0 rfl
  | cons b r =>
    rw [List.map_cons] at h
    have h1 : hxB b = Str.ofString "" := by injection h with h _; exact h.symm
    have := hxB_len b
    rw [h1] at this
    cases this
theorem punhexed_hex {row : List Nat} (h : ∀ b ∈ row, b < 256) (hl : row.length ≤ 10000) : f_punhexed [.str (hexT row)] = .ok (.tup (row.map fun d : Nat => .int d), []) := by
  by_cases h0 : row = []
  · subst h0
    have e : hexT [] = Str.ofString "" := rfl
    rw [e]
    exact mFn_ok ⟨[some (.str (Str.ofString "")), none], by simp [m_punhexed, szOk_small]⟩
  · have hs := split_sp (l := hexT row) (by have := hexT_len row; omega) (Str.ofString " ") rfl
    rw [hexT_split h0, List.map_map] at hs
    have hs : smSplit (hexT row) [.str (Str.ofString " ")] = some (.lst (row.map fun b => .str (hxB b))) := hs
    have ne := hexT_ne h0
    generalize hexT row = T at *
    have lc := mLcO_it (it := mItV (mSm smSplit (mVar 0) (mCons (mC (.str " ")) mNil))) (e := mFz (mCall0 f_pbyte_told (mCons (mVar 1) mNil))) (v := 1) (ρ := [some (.str T), none]) (l := row) (fun b => .str (hxB b)) (fun d : Nat => .int d) (by simp [smE_ok hs]) rfl (by
      intro b hb
      have := pbyte_told_eq (w := hxB b) (by rw [hxB_len]; decide)
      rw [byteT_hx (h b hb)] at this
      have this : f_pbyte_told [.str (hxB b)] = .ok (.int b, []) := this
      simp [this]) (by rw [sizeLine_eq]; omega)
    generalize row.map (fun d : Nat => MV.int d) = RM at *
    exact mFn_ok ⟨[some (.str T), none], by simp [m_punhexed, ne, lc]⟩
theorem pshape_ok {kd sg : Str} {n p : Nat} (hk : kd = "packed" ∨ kd = "spread") (hs : sg = "none" ∨ sg = "end" ∨ sg = "tens") (hn : 1 ≤ n ∧ n ≤ 12) (hp : p ≤ n) : f_pshape [.str kd, .int n, .str sg, .int p] = .ok (Form kd n sg (.int p), []) := by
  refine mFn_ok ?_
  have n1 : fNotIn (.str kd) (.tup [.str "packed", .str "spread"]) = some (.bl false) := by rcases hk with rfl | rfl <;> rfl
  have n2 : fNotIn (.str sg) (.tup [.str "none", .str "end", .str "tens"]) = some (.bl false) := by rcases hs with rfl | rfl | rfl <;> rfl
  have a1 : 0 < n := by omega
  have a2 : (n : Int) ≤ 12 := by omega
  have a3 : (0 : Int) ≤ p := by omega
  have a4 : p ≤ n := by omega
  simp [m_pshape, n1, n2, a1, a2, a3, a4, szOk_small, Form]
theorem in_abs10 {n : Nat} {sg : Str} {x : Int} (hn : 1 ≤ n ∧ n ≤ 12) (hx : least n sg ≤ x ∧ x ≤ most n sg) : x.natAbs < 10 ^ 13 := by
  have h := Nat.pow_le_pow_right (n := 10) (by decide) hn.2
  have hm : 10 ^ (n - 1) ≤ 10 ^ 12 := Nat.pow_le_pow_right (by decide) (by omega)
  have c : (10 : Int) ^ n = ((10 ^ n : Nat) : Int) := by push_cast; rfl
  have c2 : (10 : Int) ^ (n - 1) = ((10 ^ (n - 1) : Nat) : Int) := by push_cast; rfl
  unfold least most at hx
  rw [c, c2] at hx
  generalize 10 ^ n = a at *
  generalize 10 ^ (n - 1) = b at *
  split at hx <;> split at hx <;> (try split at hx) <;> omega
theorem body10 {x0 x1 x3 x7 x8 x9 : Option MV} {N d0 d1 d2 : Int} (b0 : 0 ≤ d0 ∧ d0 < 12) (b1 : 0 ≤ d1 ∧ d1 < 3) (b2 : 0 ≤ d2 ∧ d2 < 13) {n p : Nat} (hn : 1 + d0 = n) (hp : d2.fmod (2 + d0) = p) (j : Nat) (hj : j < 2) :
    ∃ y7 y8 y9, b_law9_0 [x0, x1, some (.int N), x3, some (.lst [.int d0, .int d1, .int d2]), some (.own (List.replicate j (.str (txtM p (folded n (sgM d1) N))))), some (.int j), x7, x8, x9] =
      .ok (.nx, [x0, x1, some (.int N), x3, some (.lst [.int d0, .int d1, .int d2]), some (.own (List.replicate (j + 1) (.str (txtM p (folded n (sgM d1) N))))), some (.int j), y7, y8, y9]) := by
  obtain ⟨k, rfl⟩ := Int.eq_ofNat_of_zero_le b0.1
  have hn' : n = 1 + k := by omega
  have hn12 : 1 ≤ n ∧ n ≤ 12 := by omega
  have ek : Int.ofNat k = (k : Int) := rfl
  have hp : d2.fmod (2 + (k : Int)) = p := hp
  have hn : 1 + (k : Int) = n := hn
  have b0 : (0 : Int) ≤ k ∧ (k : Int) < 12 := b0
  have hpn : p ≤ n := by have := @fmod_lt' d2 (2 + (k : Int)) (by omega); omega
  have kb : (0 : Int) ≤ (j : Nat) ∧ ((j : Nat) : Int) < 2 := by omega
  obtain ⟨pt, hf⟩ := @lform_kd2 (j : Int) d1 k n kb (by omega) b1 hn'
  have hkd := kdM_or (j : Int)
  have hsg := sgM_or d1
  generalize kdM (j : Int) = kd at *
  generalize sgM d1 = sg at *
  have sh := pshape_ok hkd hsg hn12 hpn
  have fo := @pfolded_eq kd sg n (.int p) hn12.1 (by omega) hsg N
  have hx := @folded_in n sg hn12.1 hsg N
  have fx := @fold_fix n sg hn12.1 hsg (folded n sg N) hx
  have fo2 := @pfolded_eq kd sg n (.int p) hn12.1 (by omega) hsg (folded n sg N)
  rw [fx] at fo2
  generalize folded n sg N = x at *
  have pk := @pkept_eq kd sg n (.int p) hkd ⟨hn12.1, by omega⟩ x hx
  have nd_ := @number_dressed kd sg n (.int p) x (halfM x) hkd hsg ⟨hn12.1, by omega⟩ (fitH_M x) hx
  rw [rowH_M] at nd_
  have lt := row_lt kd sg n x
  have ab := in_abs10 hn12 hx
  have ab1 : x.natAbs < 10 ^ 100 := Nat.lt_of_lt_of_le ab (Nat.pow_le_pow_right (by decide) (by decide))
  have ab2 : x.natAbs < 10 ^ 20 := Nat.lt_of_lt_of_le ab (Nat.pow_le_pow_right (by decide) (by decide))
  have rl : (rowM kd sg n x).length ≤ 10000 := by
    have := row_len (kd := kd) (sg := sg) (n := n) x
    have := @room_le2 kd sg n hn12.1
    omega
  have hx1 := phexed_eq lt rl
  have hx2 := punhexed_hex lt rl
  have pw := @pwritten_eq kd sg n p ⟨hn12.1, by omega⟩ (by omega) x hx ab1
  have tw := @told_written kd sg n p ⟨hn12.1, by omega⟩ (by omega) x hx ab2
  have ne := fNe_tt (okD_row (rowM kd sg n x))
  obtain ⟨fx_, hfx⟩ : ∃ fx_, Form kd n sg (.int p) = .tup fx_ := ⟨_, rfl⟩
  rw [hfx] at sh fo fo2 pk nd_ pw tw
  have ff : Form kd n sg (.int pt) = .tup [.str kd, .int n, .str sg, .int pt] := rfl
  rw [ff] at hf
  have nz : ¬ ((2 : Int) + k = 0) := by omega
  have hp : d2.fmod (2 + (k : Int)) = p := hp
  have hl : (List.replicate j (MV.str (txtM p x))).length < sizeLine := by rw [sizeLine_eq, List.length_replicate]; omega
  have hr : List.replicate j (MV.str (txtM p x)) ++ [.str (txtM p x)] = List.replicate (j + 1) (.str (txtM p x)) := by rw [List.replicate_succ']
  have ix : atI (List.replicate (j + 1) (MV.str (txtM p x))) (j : Int) = some (.str (txtM p x)) := by
    rw [atI_ge (by omega), Int.toNat_natCast, List.getElem?_replicate, if_pos (by omega)]
  generalize (rowM kd sg n x).map (fun d : Nat => MV.int d) = R at *
  generalize hexT (rowM kd sg n x) = HT at *
  generalize hL1 : List.replicate (j + 1) (MV.str (txtM p x)) = L1 at *
  generalize hL0 : List.replicate j (MV.str (txtM p x)) = L0 at *
  generalize txtM p x = T at *
  refine ⟨some (.tup fx_), some (.int x), some (.tup R), ?_⟩
  show b_law9_0 [x0, x1, some (.int N), x3, some (.lst [.int (k : Int), .int d1, .int d2]), some (.own L0), some (.int j), x7, x8, x9] = .ok (.nx, [x0, x1, some (.int N), x3, some (.lst [.int (k : Int), .int d1, .int d2]), some (.own L1), some (.int j), some (.tup fx_), some (.int x), some (.tup R)])
  simp [b_law9_0, hf, sh, nz, hp, fo, fo2, pk, nd_, hx1, hx2, pw, ne, hl, hr, ixV, ix, tw]
theorem outer10 (ns : List Int) (N : Int) (i : Nat) (x1 x4 x5 x6 x7 x8 x9 : Option MV) :
    ∃ y4 y5 y6 y7 y8 y9, b_law9_1 [some (.scr ns), x1, some (.int N), some (.int i), x4, x5, x6, x7, x8, x9] = .ok (.nx, [some (.scr ns), x1, some (.int N), some (.int i), y4, y5, y6, y7, y8, y9]) := by
  obtain ⟨c0, hc0⟩ := lcell_ok ns (1 + i)
  obtain ⟨ds, hd, hds⟩ := ldraws_ok c0 (4 + i) [12, 3, 13] (by decide) (by decide)
  simp only [draws_cons, draws_nil] at hd
  obtain ⟨d0, _, rfl, q0, d1, _, rfl, q1, d2, _, rfl, q2, rfl⟩ := hd
  obtain ⟨n, hn⟩ : ∃ n : Nat, 1 + d0 = n := ⟨(1 + d0).toNat, by omega⟩
  obtain ⟨p, hp⟩ : ∃ p : Nat, d2.fmod (2 + d0) = p := ⟨(d2.fmod (2 + d0)).toNat, by have := @fmod_ge' d2 (2 + d0) (by omega); omega⟩
  obtain ⟨u7, u8, u9, e1⟩ := @body10 (some (.scr ns)) x1 (some (.int i)) x7 x8 x9 N d0 d1 d2 q0 q1 q2 n p hn hp 0 (by decide)
  obtain ⟨v7, v8, v9, e2⟩ := @body10 (some (.scr ns)) x1 (some (.int i)) u7 u8 u9 N d0 d1 d2 q0 q1 q2 n p hn hp 1 (by decide)
  have e1 : b_law9_0 [some (.scr ns), x1, some (.int N), some (.int i), some (.lst [.int d0, .int d1, .int d2]), some (.own []), some (.int 0), x7, x8, x9] = .ok (.nx, [some (.scr ns), x1, some (.int N), some (.int i), some (.lst [.int d0, .int d1, .int d2]), some (.own [.str (txtM p (folded n (sgM d1) N))]), some (.int 0), u7, u8, u9]) := e1
  have e2 : b_law9_0 [some (.scr ns), x1, some (.int N), some (.int i), some (.lst [.int d0, .int d1, .int d2]), some (.own [.str (txtM p (folded n (sgM d1) N))]), some (.int 1), u7, u8, u9] = .ok (.nx, [some (.scr ns), x1, some (.int N), some (.int i), some (.lst [.int d0, .int d1, .int d2]), some (.own [.str (txtM p (folded n (sgM d1) N)), .str (txtM p (folded n (sgM d1) N))]), some (.int 1), v7, v8, v9]) := e2
  have rg : rngM 0 1 2 = [.int 0, .int 1] := rfl
  have i2 : inR 2 = true := inR_of (by decide) (by decide)
  generalize txtM p (folded n (sgM d1) N) = T at *
  refine ⟨some (.lst [.int d0, .int d1, .int d2]), some (.own [.str T, .str T]), some (.int 1), v7, v8, v9, ?_⟩
  have lp : mLoop (gSet 6) b_law9_0 [.int 0, .int 1] [some (.scr ns), x1, some (.int N), some (.int i), some (.lst [.int d0, .int d1, .int d2]), some (.own []), x6, x7, x8, x9] = .ok (.nx, [some (.scr ns), x1, some (.int N), some (.int i), some (.lst [.int d0, .int d1, .int d2]), some (.own [.str T, .str T]), some (.int 1), v7, v8, v9]) := by
    rw [loop_c_nx (ρ1 := [some (.scr ns), x1, some (.int N), some (.int i), some (.lst [.int d0, .int d1, .int d2]), some (.own []), some (.int 0), x7, x8, x9]) rfl e1, loop_c_nx (ρ1 := [some (.scr ns), x1, some (.int N), some (.int i), some (.lst [.int d0, .int d1, .int d2]), some (.own [.str T]), some (.int 1), u7, u8, u9]) rfl e2]
    rfl
  clear e1 e2
  have g0 : ∀ a b : MV, ixV [some (.scr ns), x1, some (.int N), some (.int i), some (.lst [.int d0, .int d1, .int d2]), some (.own [a, b]), some (.int 1), v7, v8, v9] 5 (.int 0) = some a := fun a b => rfl
  have g1 : ∀ a b : MV, ixV [some (.scr ns), x1, some (.int N), some (.int i), some (.lst [.int d0, .int d1, .int d2]), some (.own [a, b]), some (.int 1), v7, v8, v9] 5 (.int 1) = some b := fun a b => rfl
  generalize hB : b_law9_0 = BB at *
  simp at hc0 hds
  simp [b_law9_1, hB, hc0, hds, szOk_small, rg, i2, lp, g0, g1]
theorem law_true : ∀ ns : List Int, ns.length ≤ 63 → ∃ bs, f_law9 [.scr ns] = .ok (.bl true, bs) := by
  intro ns hns
  refine ⟨[], mFn_ok ?_⟩
  obtain ⟨c0, hc0⟩ := lcell_ok ns 0
  obtain ⟨ds, hd, hds⟩ := ldraws_ok c0 3 [2, 1000000000000000, 10000000000000000000000000, 4] (by decide) (by decide)
  simp only [draws_cons, draws_nil] at hd
  obtain ⟨d0, _, rfl, q0, d1, _, rfl, q1, d2, _, rfl, q2, d3, _, rfl, q3, rfl⟩ := hd
  have dv : divOk 100000000000000000000 = true := by decide
  obtain ⟨M, hM⟩ : ∃ M : Int, atI [MV.int d1, .int d2, .int (d1.fmod 1000), .int (d2.fdiv 100000000000000000000)] d3 = some (.int M) := by
    rcases (show d3 = 0 ∨ d3 = 1 ∨ d3 = 2 ∨ d3 = 3 by omega) with rfl | rfl | rfl | rfl <;> exact ⟨_, rfl⟩
  have m2 : mulOk 2 d0 = true := mulOk_l (by decide) (by decide)
  have mk : mulOk M (1 - 2 * d0) = true := mulOk_r (by omega) (by omega)
  generalize hN : M * (1 - 2 * d0) = N at *
  obtain ⟨ρ', e, a3, a4, a5, a6, a7, a8, a9, rfl⟩ := loop_nxr (g := gSet 3) (b := b_law9_1) (lo := 0) (c := 1) (n := 6) (ρ := [some (.scr ns), some (.lst [.int d0, .int d1, .int d2, .int d3]), some (.int N), none, none, none, none, none, none, none])
    (fun _ ρ => ∃ a3 a4 a5 a6 a7 a8 a9, ρ = [some (.scr ns), some (.lst [.int d0, .int d1, .int d2, .int d3]), some (.int N), a3, a4, a5, a6, a7, a8, a9]) ⟨_, _, _, _, _, _, _, rfl⟩ (by
      rintro i ρ hi ⟨a3, a4, a5, a6, a7, a8, a9, rfl⟩
      obtain ⟨b4, b5, b6, b7, b8, b9, e⟩ := outer10 ns N i (some (.lst [.int d0, .int d1, .int d2, .int d3])) a4 a5 a6 a7 a8 a9
      have ei : (0 : Int) + (i : Nat) * 1 = (i : Int) := by omega
      rw [ei]
      exact ⟨_, rfl, _, e, some (.int i), b4, b5, b6, b7, b8, b9, rfl⟩)
  have x0 : atI [MV.int d0, .int d1, .int d2, .int d3] 0 = some (.int d0) := rfl
  have x1 : atI [MV.int d0, .int d1, .int d2, .int d3] 1 = some (.int d1) := rfl
  have x2 : atI [MV.int d0, .int d1, .int d2, .int d3] 2 = some (.int d2) := rfl
  have x3 : atI [MV.int d0, .int d1, .int d2, .int d3] 3 = some (.int d3) := rfl
  simp at hc0 hds
  simp [m_law9, hc0, hds, szOk_small, x0, x1, x2, x3, dv, hM, m2, mk, hN, e, inR_of]
def top (i : Nat) : Stmt := PySem.Challenge.pw_tensloft_k10_whole_kept_and_told.main.body.getD i (.Pass ⟨0, 0, 0, 0⟩)
abbrev s_ini_NoFit : Stmt := inCls (top 3) 0
theorem sc_ini_NoFit : FnScope ["self", "number"] ["self", "number"] (defScope s_ini_NoFit) := ⟨rfl, rfl, rfl, by decide +kernel, rfl, by decide +kernel, by decide +kernel⟩
theorem ini_NoFit {P : Program} {w : World} {K : PySem.W.Frag} {mg : Str → Option Value} {base : Heap} {a : Addr} {fd : FuncData} (F : Fun K "__init__" "NoFit.__init__" s_ini_NoFit a fd) (B : Bas K mg "LoftError") : FnOk P w K mg base (L2N.CX P w) 2 a fd ["self", "number"] (spI1 K "number") :=
  init1 F sc_ini_NoFit B rfl (fun _ _ => rfl) (by decide +kernel) (by decide +kernel) (fun _ => ⟨_, rfl⟩) (by decide) (by decide) (by decide)
abbrev s_ini_NoShape : Stmt := inCls (top 2) 0
theorem sc_ini_NoShape : FnScope ["self", "part"] ["self", "part"] (defScope s_ini_NoShape) := ⟨rfl, rfl, rfl, by decide +kernel, rfl, by decide +kernel, by decide +kernel⟩
theorem ini_NoShape {P : Program} {w : World} {K : PySem.W.Frag} {mg : Str → Option Value} {base : Heap} {a : Addr} {fd : FuncData} (F : Fun K "__init__" "NoShape.__init__" s_ini_NoShape a fd) (B : Bas K mg "LoftError") : FnOk P w K mg base (L2N.CX P w) 2 a fd ["self", "part"] (spI1 K "part") :=
  init1 F sc_ini_NoShape B rfl (fun _ _ => rfl) (by decide +kernel) (by decide +kernel) (fun _ => ⟨_, rfl⟩) (by decide) (by decide) (by decide)
abbrev s_ini_Wrong : Stmt := inCls (top 4) 0
theorem sc_ini_Wrong : FnScope ["self", "place", "why"] ["self", "place", "why"] (defScope s_ini_Wrong) := ⟨rfl, rfl, rfl, by decide +kernel, rfl, by decide +kernel, by decide +kernel⟩
theorem ini_Wrong {P : Program} {w : World} {K : PySem.W.Frag} {mg : Str → Option Value} {base : Heap} {a : Addr} {fd : FuncData} (F : Fun K "__init__" "Wrong.__init__" s_ini_Wrong a fd) (B : Bas K mg "LoftError") : FnOk P w K mg base (L2N.CX P w) 2 a fd ["self", "place", "why"] (spI2 K "place" "why") :=
  init2 F sc_ini_Wrong B rfl (fun _ _ => rfl) (by decide +kernel) (by decide +kernel) (by decide +kernel) (fun _ => ⟨_, rfl⟩) (by decide) (by decide) (by decide) (by decide) (by decide)
abbrev s_lmixed : Stmt := top 47
theorem sc_lmixed : FnScope ["_law_cell_here", "_law_k", "_law_salt", "_law_primes", "_law_one", "_law_two"] ["_law_cell_here", "_law_k", "_law_salt"] (defScope s_lmixed) := ⟨rfl, rfl, rfl, by decide +kernel, rfl, by decide +kernel, by decide +kernel⟩
theorem v_lmixed_0 : (defScope s_lmixed).names.lookup ("_law_cell_here" : Str) = some NameKind.local := by decide +kernel
theorem v_lmixed_1 : (defScope s_lmixed).names.lookup ("_law_k" : Str) = some NameKind.local := by decide +kernel
theorem v_lmixed_2 : (defScope s_lmixed).names.lookup ("_law_salt" : Str) = some NameKind.local := by decide +kernel
theorem v_lmixed_3 : (defScope s_lmixed).names.lookup ("_law_primes" : Str) = some NameKind.local := by decide +kernel
theorem v_lmixed_4 : (defScope s_lmixed).names.lookup ("_law_one" : Str) = some NameKind.local := by decide +kernel
theorem v_lmixed_5 : (defScope s_lmixed).names.lookup ("_law_two" : Str) = some NameKind.local := by decide +kernel
theorem ok_lmixed {P : Program} {w : World} {K : PySem.W.Frag} {mg : Str → Option Value} {base : Heap} {f : Addr} {fd : FuncData} (F : Fun K "_law_mixed" "_law_mixed" s_lmixed f fd) (B : Bn mg)     :
    FnOk P w K mg base (L2N.CX P w) 2 f fd ["_law_cell_here", "_law_k", "_law_salt"] (spF K mg 3 [] f_lmixed) := by
  refine fn_ok F sc_lmixed (by decide) (by decide) fun cdv A outer s H E hr => ?_
  have nd := sc_lmixed.nd
  have tk : L2N.Takes (cxOf (L2N.CX P w) P w K mg base ["_law_cell_here", "_law_k", "_law_salt", "_law_primes", "_law_one", "_law_two"] "_law_mixed" (defScope s_lmixed) f cdv A outer s H E) (fun cls d _ H => E cls d H) := L2N.takes_of rfl rfl rfl rfl
  have pn : PassesOwn (model P w) (cxOf (L2N.CX P w) P w K mg base ["_law_cell_here", "_law_k", "_law_salt", "_law_primes", "_law_one", "_law_two"] "_law_mixed" (defScope s_lmixed) f cdv A outer s H E).A (cxOf (L2N.CX P w) P w K mg base ["_law_cell_here", "_law_k", "_law_salt", "_law_primes", "_law_one", "_law_two"] "_law_mixed" (defScope s_lmixed) f cdv A outer s H E).env (cxOf (L2N.CX P w) P w K mg base ["_law_cell_here", "_law_k", "_law_salt", "_law_primes", "_law_one", "_law_two"] "_law_mixed" (defScope s_lmixed) f cdv A outer s H E).xe := passes_of rfl
  unfold m_lmixed
  exact mss_cons (ms_set (i := 3) nd rfl (.inl v_lmixed_3) (me_lst (ma_cons (me_int) (ma_cons (me_int) (ma_cons (me_int) (ma_cons (me_int) (ma_cons (me_int) (ma_cons (me_int) (ma_cons (me_int) (ma_cons (me_int) (ma_nil))))))))))) (mss_cons (ms_set (i := 4) nd rfl (.inl v_lmixed_4) (me_mod (me_add (me_add (me_add (me_var (i := 0) rfl (.inl v_lmixed_0)) (me_mul (me_int) (me_var (i := 2) rfl (.inl v_lmixed_2)))) (me_mul (me_int) (me_var (i := 1) rfl (.inl v_lmixed_1)))) (me_int)) (me_int))) (mss_cons (ms_set (i := 4) nd rfl (.inl v_lmixed_4) (me_mod (me_pow (me_var (i := 4) rfl (.inl v_lmixed_4)) (me_int)) (me_ix (me_var (i := 3) rfl (.inl v_lmixed_3)) (me_mod (me_var (i := 1) rfl (.inl v_lmixed_1)) (me_int))))) (mss_cons (ms_set (i := 5) nd rfl (.inl v_lmixed_5) (me_mod (me_add (me_add (me_var (i := 4) rfl (.inl v_lmixed_4)) (me_mul (me_int) (me_var (i := 2) rfl (.inl v_lmixed_2)))) (me_var (i := 1) rfl (.inl v_lmixed_1))) (me_int))) (mss_one (ms_ret (me_add (me_mul (me_mod (me_pow (me_var (i := 5) rfl (.inl v_lmixed_5)) (me_int)) (me_int)) (me_int)) (me_var (i := 4) rfl (.inl v_lmixed_4))))))))

abbrev s_ldraws : Stmt := top 48
theorem sc_ldraws : FnScope ["_law_cell_here", "_law_salt", "_law_widths", "_law_found", "_law_left", "_law_k"] ["_law_cell_here", "_law_salt", "_law_widths"] (defScope s_ldraws) := ⟨rfl, rfl, rfl, by decide +kernel, rfl, by decide +kernel, by decide +kernel⟩
theorem v_ldraws_0 : (defScope s_ldraws).names.lookup ("_law_cell_here" : Str) = some NameKind.local := by decide +kernel
theorem v_ldraws_1 : (defScope s_ldraws).names.lookup ("_law_salt" : Str) = some NameKind.local := by decide +kernel
theorem v_ldraws_2 : (defScope s_ldraws).names.lookup ("_law_widths" : Str) = some NameKind.local := by decide +kernel
theorem v_ldraws_3 : (defScope s_ldraws).names.lookup ("_law_found" : Str) = some NameKind.local := by decide +kernel
theorem v_ldraws_4 : (defScope s_ldraws).names.lookup ("_law_left" : Str) = some NameKind.local := by decide +kernel
theorem v_ldraws_5 : (defScope s_ldraws).names.lookup ("_law_k" : Str) = some NameKind.local := by decide +kernel
theorem g_ldraws_abs (L a : Addr) (cd : Value) : (PyProof.Rows.envOfC "_law_draws" (defScope s_ldraws) L a cd).kindOf ("abs" : Str) = some NameKind.globalImplicit := rfl
theorem g_ldraws_len (L a : Addr) (cd : Value) : (PyProof.Rows.envOfC "_law_draws" (defScope s_ldraws) L a cd).kindOf ("len" : Str) = some NameKind.globalImplicit := rfl
theorem g_ldraws_range (L a : Addr) (cd : Value) : (PyProof.Rows.envOfC "_law_draws" (defScope s_ldraws) L a cd).kindOf ("range" : Str) = some NameKind.globalImplicit := rfl
theorem g_ldraws_law_mixed (L a : Addr) (cd : Value) : (PyProof.Rows.envOfC "_law_draws" (defScope s_ldraws) L a cd).kindOf ("_law_mixed" : Str) = some NameKind.globalImplicit := rfl
theorem ok_ldraws {P : Program} {w : World} {K : PySem.W.Frag} {mg : Str → Option Value} {base : Heap} {f : Addr} {fd : FuncData} (F : Fun K "_law_draws" "_law_draws" s_ldraws f fd) (B : Bn mg) (h_lmixed : Fd P w K mg base "_law_mixed" 2 ["_law_cell_here", "_law_k", "_law_salt"] [] f_lmixed)    :
    FnOk P w K mg base (L2N.CX P w) 4 f fd ["_law_cell_here", "_law_salt", "_law_widths"] (spF K mg 3 [] f_ldraws) := by
  refine fn_ok F sc_ldraws (by decide) (by decide) fun cdv A outer s H E hr => ?_
  have nd := sc_ldraws.nd
  have tk : L2N.Takes (cxOf (L2N.CX P w) P w K mg base ["_law_cell_here", "_law_salt", "_law_widths", "_law_found", "_law_left", "_law_k"] "_law_draws" (defScope s_ldraws) f cdv A outer s H E) (fun cls d _ H => E cls d H) := L2N.takes_of rfl rfl rfl rfl
  have pn : PassesOwn (model P w) (cxOf (L2N.CX P w) P w K mg base ["_law_cell_here", "_law_salt", "_law_widths", "_law_found", "_law_left", "_law_k"] "_law_draws" (defScope s_ldraws) f cdv A outer s H E).A (cxOf (L2N.CX P w) P w K mg base ["_law_cell_here", "_law_salt", "_law_widths", "_law_found", "_law_left", "_law_k"] "_law_draws" (defScope s_ldraws) f cdv A outer s H E).env (cxOf (L2N.CX P w) P w K mg base ["_law_cell_here", "_law_salt", "_law_widths", "_law_found", "_law_left", "_law_k"] "_law_draws" (defScope s_ldraws) f cdv A outer s H E).xe := passes_of rfl
  unfold m_ldraws
  exact mss_cons (ms_setO (i := 3) nd rfl (.inl v_ldraws_3) (mo_lst (ma_nil))) (mss_cons (ms_set (i := 4) nd rfl (.inl v_ldraws_4) (me_int)) (mss_cons (ms_if (mt_cmp op_ge os_ge (mb_abs B.abs (ma_cons (me_var (i := 0) rfl (.inl v_ldraws_0)) (ma_nil)) (hg := (g_ldraws_abs _ _ _))) (me_pow (me_int) (me_int)) (nomark _)) (mss_one (ms_set (i := 4) nd rfl (.inl v_ldraws_4) (mb_abs B.abs (ma_cons (me_var (i := 0) rfl (.inl v_ldraws_0)) (ma_nil)) (hg := (g_ldraws_abs _ _ _))))) (mss_nil)) (mss_cons (ms_for pn rfl (mi_r1 B.range (ma_cons (mb_len B.len (ma_cons (me_var (i := 2) rfl (.inl v_ldraws_2)) (ma_nil)) (hg := (g_ldraws_len _ _ _))) (ma_nil)) (hg := (g_ldraws_range _ _ _))) (mg_name (i := 5) nd rfl (.inl v_ldraws_5)) (mss_one (ms_if (mt_cmp op_gt os_gt (me_var (i := 4) rfl (.inl v_ldraws_4)) (me_int) (nomark _)) (mss_cons (ms_expr (me_lm1 ls_append PySem.F.slot_list_append PySem.F.type_list_append mt_append (i := 3) rfl (.inl v_ldraws_3) (ma_cons (me_mod (me_var (i := 4) rfl (.inl v_ldraws_4)) (me_ix (me_var (i := 2) rfl (.inl v_ldraws_2)) (me_var (i := 5) rfl (.inl v_ldraws_5)))) (ma_nil)))) (mss_one (ms_set (i := 4) nd rfl (.inl v_ldraws_4) (me_div (me_var (i := 4) rfl (.inl v_ldraws_4)) (me_ix (me_var (i := 2) rfl (.inl v_ldraws_2)) (me_var (i := 5) rfl (.inl v_ldraws_5))))))) (mss_one (ms_expr (me_lm1 ls_append PySem.F.slot_list_append PySem.F.type_list_append mt_append (i := 3) rfl (.inl v_ldraws_3) (ma_cons (me_mod (me_fz (mf_call h_lmixed hr (by decide) tk (ma_cons (me_var (i := 0) rfl (.inl v_ldraws_0)) (ma_cons (me_var (i := 5) rfl (.inl v_ldraws_5)) (ma_cons (me_var (i := 1) rfl (.inl v_ldraws_1)) (ma_nil)))) (lng_cons (lng_cons (lng_cons lng_nil))) (hg := (g_ldraws_law_mixed _ _ _)))) (me_ix (me_var (i := 2) rfl (.inl v_ldraws_2)) (me_var (i := 5) rfl (.inl v_ldraws_5)))) (ma_nil)))))))) (mss_one (ms_retO (mo_var (i := 3) rfl (.inl v_ldraws_3)))))))

abbrev s_lcell : Stmt := top 46
theorem sc_lcell : FnScope ["_law_script", "_law_k"] ["_law_script", "_law_k"] (defScope s_lcell) := ⟨rfl, rfl, rfl, by decide +kernel, rfl, by decide +kernel, by decide +kernel⟩
theorem v_lcell_0 : (defScope s_lcell).names.lookup ("_law_script" : Str) = some NameKind.local := by decide +kernel
theorem v_lcell_1 : (defScope s_lcell).names.lookup ("_law_k" : Str) = some NameKind.local := by decide +kernel
theorem g_lcell_len (L a : Addr) (cd : Value) : (PyProof.Rows.envOfC "_law_cell" (defScope s_lcell) L a cd).kindOf ("len" : Str) = some NameKind.globalImplicit := rfl
theorem ok_lcell {P : Program} {w : World} {K : PySem.W.Frag} {mg : Str → Option Value} {base : Heap} {f : Addr} {fd : FuncData} (F : Fun K "_law_cell" "_law_cell" s_lcell f fd) (B : Bn mg)     :
    FnOk P w K mg base (L2N.CX P w) 2 f fd ["_law_script", "_law_k"] (spF K mg 2 [] f_lcell) := by
  refine fn_ok F sc_lcell (by decide) (by decide) fun cdv A outer s H E hr => ?_
  have nd := sc_lcell.nd
  have tk : L2N.Takes (cxOf (L2N.CX P w) P w K mg base ["_law_script", "_law_k"] "_law_cell" (defScope s_lcell) f cdv A outer s H E) (fun cls d _ H => E cls d H) := L2N.takes_of rfl rfl rfl rfl
  have pn : PassesOwn (model P w) (cxOf (L2N.CX P w) P w K mg base ["_law_script", "_law_k"] "_law_cell" (defScope s_lcell) f cdv A outer s H E).A (cxOf (L2N.CX P w) P w K mg base ["_law_script", "_law_k"] "_law_cell" (defScope s_lcell) f cdv A outer s H E).env (cxOf (L2N.CX P w) P w K mg base ["_law_script", "_law_k"] "_law_cell" (defScope s_lcell) f cdv A outer s H E).xe := passes_of rfl
  unfold m_lcell
  exact mss_cons (ms_if (mt_cmp op_lt os_lt (me_var (i := 1) rfl (.inl v_lcell_1)) (mb_len B.len (ma_cons (me_var (i := 0) rfl (.inl v_lcell_0)) (ma_nil)) (hg := (g_lcell_len _ _ _))) (nomark _)) (mss_one (ms_ret (me_ix (me_var (i := 0) rfl (.inl v_lcell_0)) (me_var (i := 1) rfl (.inl v_lcell_1))))) (mss_nil)) (mss_cons (ms_if (mt_cmp (op_eqM hr.units) os_eq (mb_len B.len (ma_cons (me_var (i := 0) rfl (.inl v_lcell_0)) (ma_nil)) (hg := (g_lcell_len _ _ _))) (me_int) (nomark _)) (mss_one (ms_ret (me_mul (me_int) (me_add (me_var (i := 1) rfl (.inl v_lcell_1)) (me_int))))) (mss_nil)) (mss_one (ms_ret (me_add (me_ix (me_var (i := 0) rfl (.inl v_lcell_0)) (me_mod (me_var (i := 1) rfl (.inl v_lcell_1)) (mb_len B.len (ma_cons (me_var (i := 0) rfl (.inl v_lcell_0)) (ma_nil)) (hg := (g_lcell_len _ _ _))))) (me_mul (me_int) (me_var (i := 1) rfl (.inl v_lcell_1)))))))

abbrev s_lform : Stmt := top 49
theorem sc_lform : FnScope ["_law_kind", "_law_many", "_law_sign", "_law_point"] ["_law_kind", "_law_many", "_law_sign"] (defScope s_lform) := ⟨rfl, rfl, rfl, by decide +kernel, rfl, by decide +kernel, by decide +kernel⟩
theorem v_lform_0 : (defScope s_lform).names.lookup ("_law_kind" : Str) = some NameKind.local := by decide +kernel
theorem v_lform_1 : (defScope s_lform).names.lookup ("_law_many" : Str) = some NameKind.local := by decide +kernel
theorem v_lform_2 : (defScope s_lform).names.lookup ("_law_sign" : Str) = some NameKind.local := by decide +kernel
theorem v_lform_3 : (defScope s_lform).names.lookup ("_law_point" : Str) = some NameKind.local := by decide +kernel
theorem ok_lform {P : Program} {w : World} {K : PySem.W.Frag} {mg : Str → Option Value} {base : Heap} {f : Addr} {fd : FuncData} (F : Fun K "_law_form" "_law_form" s_lform f fd) (B : Bn mg)     :
    FnOk P w K mg base (L2N.CX P w) 2 f fd ["_law_kind", "_law_many", "_law_sign"] (spF K mg 3 [] f_lform) := by
  refine fn_ok F sc_lform (by decide) (by decide) fun cdv A outer s H E hr => ?_
  have nd := sc_lform.nd
  have tk : L2N.Takes (cxOf (L2N.CX P w) P w K mg base ["_law_kind", "_law_many", "_law_sign", "_law_point"] "_law_form" (defScope s_lform) f cdv A outer s H E) (fun cls d _ H => E cls d H) := L2N.takes_of rfl rfl rfl rfl
  have pn : PassesOwn (model P w) (cxOf (L2N.CX P w) P w K mg base ["_law_kind", "_law_many", "_law_sign", "_law_point"] "_law_form" (defScope s_lform) f cdv A outer s H E).A (cxOf (L2N.CX P w) P w K mg base ["_law_kind", "_law_many", "_law_sign", "_law_point"] "_law_form" (defScope s_lform) f cdv A outer s H E).env (cxOf (L2N.CX P w) P w K mg base ["_law_kind", "_law_many", "_law_sign", "_law_point"] "_law_form" (defScope s_lform) f cdv A outer s H E).xe := passes_of rfl
  unfold m_lform
  exact mss_cons (ms_set (i := 3) nd rfl (.inl v_lform_3) (me_mod (me_add (me_add (me_mul (me_int) (me_var (i := 1) rfl (.inl v_lform_1))) (me_mul (me_int) (me_var (i := 0) rfl (.inl v_lform_0)))) (me_var (i := 2) rfl (.inl v_lform_2))) (me_add (me_var (i := 1) rfl (.inl v_lform_1)) (me_int)))) (mss_one (ms_ret (me_tup (ma_cons (me_ix (me_lst (ma_cons (me_str) (ma_cons (me_str) (ma_nil)))) (me_var (i := 0) rfl (.inl v_lform_0))) (ma_cons (me_add (me_int) (me_var (i := 1) rfl (.inl v_lform_1))) (ma_cons (me_ix (me_lst (ma_cons (me_str) (ma_cons (me_str) (ma_cons (me_str) (ma_nil))))) (me_var (i := 2) rfl (.inl v_lform_2))) (ma_cons (me_var (i := 3) rfl (.inl v_lform_3)) (ma_nil))))))))

abbrev s_pshape : Stmt := top 16
theorem sc_pshape : FnScope ["kind", "figures", "sign", "point"] ["kind", "figures", "sign", "point"] (defScope s_pshape) := ⟨rfl, rfl, rfl, by decide +kernel, rfl, by decide +kernel, by decide +kernel⟩
theorem v_pshape_0 : (defScope s_pshape).names.lookup ("kind" : Str) = some NameKind.local := by decide +kernel
theorem v_pshape_1 : (defScope s_pshape).names.lookup ("figures" : Str) = some NameKind.local := by decide +kernel
theorem v_pshape_2 : (defScope s_pshape).names.lookup ("sign" : Str) = some NameKind.local := by decide +kernel
theorem v_pshape_3 : (defScope s_pshape).names.lookup ("point" : Str) = some NameKind.local := by decide +kernel
theorem g_pshape_KINDS (L a : Addr) (cd : Value) : (PyProof.Rows.envOfC "shape" (defScope s_pshape) L a cd).kindOf ("KINDS" : Str) = some NameKind.globalImplicit := rfl
theorem g_pshape_NoShape (L a : Addr) (cd : Value) : (PyProof.Rows.envOfC "shape" (defScope s_pshape) L a cd).kindOf ("NoShape" : Str) = some NameKind.globalImplicit := rfl
theorem g_pshape_MOST_FIGURES (L a : Addr) (cd : Value) : (PyProof.Rows.envOfC "shape" (defScope s_pshape) L a cd).kindOf ("MOST_FIGURES" : Str) = some NameKind.globalImplicit := rfl
theorem g_pshape_SIGNS (L a : Addr) (cd : Value) : (PyProof.Rows.envOfC "shape" (defScope s_pshape) L a cd).kindOf ("SIGNS" : Str) = some NameKind.globalImplicit := rfl
theorem ok_pshape {P : Program} {w : World} {K : PySem.W.Frag} {mg : Str → Option Value} {base : Heap} {f : Addr} {fd : FuncData} (F : Fun K "shape" "shape" s_pshape f fd) (B : Bn mg)   (xcl1_NoShape_part : Cl1 P w K mg base "NoShape" "part") (c_KINDS : Cst K mg "KINDS" (.tup [(.str "packed"), (.str "spread")])) (c_MOST_FIGURES : Cst K mg "MOST_FIGURES" (.int 12)) (c_SIGNS : Cst K mg "SIGNS" (.tup [(.str "none"), (.str "end"), (.str "tens")])) :
    FnOk P w K mg base (L2N.CX P w) 4 f fd ["kind", "figures", "sign", "point"] (spF K mg 4 [] f_pshape) := by
  refine fn_ok F sc_pshape (by decide) (by decide) fun cdv A outer s H E hr => ?_
  have nd := sc_pshape.nd
  have tk : L2N.Takes (cxOf (L2N.CX P w) P w K mg base ["kind", "figures", "sign", "point"] "shape" (defScope s_pshape) f cdv A outer s H E) (fun cls d _ H => E cls d H) := L2N.takes_of rfl rfl rfl rfl
  have pn : PassesOwn (model P w) (cxOf (L2N.CX P w) P w K mg base ["kind", "figures", "sign", "point"] "shape" (defScope s_pshape) f cdv A outer s H E).A (cxOf (L2N.CX P w) P w K mg base ["kind", "figures", "sign", "point"] "shape" (defScope s_pshape) f cdv A outer s H E).env (cxOf (L2N.CX P w) P w K mg base ["kind", "figures", "sign", "point"] "shape" (defScope s_pshape) f cdv A outer s H E).xe := passes_of rfl
  unfold m_pshape
  exact mss_cons (ms_if (mt_cmp op_notInM os_notIn (me_var (i := 0) rfl (.inl v_pshape_0)) (mf_con c_KINDS (hg := (g_pshape_KINDS _ _ _))) rfl) (mss_one (ms_raise1 xcl1_NoShape_part rfl hr (by decide) tk (g_pshape_NoShape _ _ _) (me_str))) (mss_nil)) (mss_cons (ms_if (mt_not (mt_chain op_lt os_lt op_le os_le (me_int) (me_var (i := 1) rfl (.inl v_pshape_1)) (mf_con c_MOST_FIGURES (hg := (g_pshape_MOST_FIGURES _ _ _))))) (mss_one (ms_raise1 xcl1_NoShape_part rfl hr (by decide) tk (g_pshape_NoShape _ _ _) (me_str))) (mss_nil)) (mss_cons (ms_if (mt_cmp op_notInM os_notIn (me_var (i := 2) rfl (.inl v_pshape_2)) (mf_con c_SIGNS (hg := (g_pshape_SIGNS _ _ _))) rfl) (mss_one (ms_raise1 xcl1_NoShape_part rfl hr (by decide) tk (g_pshape_NoShape _ _ _) (me_str))) (mss_nil)) (mss_cons (ms_if (mt_not (mt_chain op_le os_le op_le os_le (me_int) (me_var (i := 3) rfl (.inl v_pshape_3)) (me_var (i := 1) rfl (.inl v_pshape_1)))) (mss_one (ms_raise1 xcl1_NoShape_part rfl hr (by decide) tk (g_pshape_NoShape _ _ _) (me_str))) (mss_nil)) (mss_one (ms_ret (me_tup (ma_cons (me_var (i := 0) rfl (.inl v_pshape_0)) (ma_cons (me_var (i := 1) rfl (.inl v_pshape_1)) (ma_cons (me_var (i := 2) rfl (.inl v_pshape_2)) (ma_cons (me_var (i := 3) rfl (.inl v_pshape_3)) (ma_nil)))))))))))

abbrev s_ppower : Stmt := top 9
theorem sc_ppower : FnScope ["base", "many", "found", "k"] ["base", "many"] (defScope s_ppower) := ⟨rfl, rfl, rfl, by decide +kernel, rfl, by decide +kernel, by decide +kernel⟩
theorem v_ppower_0 : (defScope s_ppower).names.lookup ("base" : Str) = some NameKind.local := by decide +kernel
theorem v_ppower_1 : (defScope s_ppower).names.lookup ("many" : Str) = some NameKind.local := by decide +kernel
theorem v_ppower_2 : (defScope s_ppower).names.lookup ("found" : Str) = some NameKind.local := by decide +kernel
theorem v_ppower_3 : (defScope s_ppower).names.lookup ("k" : Str) = some NameKind.local := by decide +kernel
theorem g_ppower_range (L a : Addr) (cd : Value) : (PyProof.Rows.envOfC "power" (defScope s_ppower) L a cd).kindOf ("range" : Str) = some NameKind.globalImplicit := rfl
theorem ok_ppower {P : Program} {w : World} {K : PySem.W.Frag} {mg : Str → Option Value} {base : Heap} {f : Addr} {fd : FuncData} (F : Fun K "power" "power" s_ppower f fd) (B : Bn mg)     :
    FnOk P w K mg base (L2N.CX P w) 2 f fd ["base", "many"] (spF K mg 2 [] f_ppower) := by
  refine fn_ok F sc_ppower (by decide) (by decide) fun cdv A outer s H E hr => ?_
  have nd := sc_ppower.nd
  have tk : L2N.Takes (cxOf (L2N.CX P w) P w K mg base ["base", "many", "found", "k"] "power" (defScope s_ppower) f cdv A outer s H E) (fun cls d _ H => E cls d H) := L2N.takes_of rfl rfl rfl rfl
  have pn : PassesOwn (model P w) (cxOf (L2N.CX P w) P w K mg base ["base", "many", "found", "k"] "power" (defScope s_ppower) f cdv A outer s H E).A (cxOf (L2N.CX P w) P w K mg base ["base", "many", "found", "k"] "power" (defScope s_ppower) f cdv A outer s H E).env (cxOf (L2N.CX P w) P w K mg base ["base", "many", "found", "k"] "power" (defScope s_ppower) f cdv A outer s H E).xe := passes_of rfl
  unfold m_ppower
  exact mss_cons (ms_set (i := 2) nd rfl (.inl v_ppower_2) (me_int)) (mss_cons (ms_for pn rfl (mi_r1 B.range (ma_cons (me_var (i := 1) rfl (.inl v_ppower_1)) (ma_nil)) (hg := (g_ppower_range _ _ _))) (mg_name (i := 3) nd rfl (.inl v_ppower_3)) (mss_one (ms_set (i := 2) nd rfl (.inl v_ppower_2) (me_mul (me_var (i := 2) rfl (.inl v_ppower_2)) (me_var (i := 0) rfl (.inl v_ppower_0)))))) (mss_one (ms_ret (me_var (i := 2) rfl (.inl v_ppower_2)))))

abbrev s_pleast_of : Stmt := top 17
theorem sc_pleast_of : FnScope ["form"] ["form"] (defScope s_pleast_of) := ⟨rfl, rfl, rfl, by decide +kernel, rfl, by decide +kernel, by decide +kernel⟩
theorem v_pleast_of_0 : (defScope s_pleast_of).names.lookup ("form" : Str) = some NameKind.local := by decide +kernel
theorem g_pleast_of_power (L a : Addr) (cd : Value) : (PyProof.Rows.envOfC "least_of" (defScope s_pleast_of) L a cd).kindOf ("power" : Str) = some NameKind.globalImplicit := rfl
theorem ok_pleast_of {P : Program} {w : World} {K : PySem.W.Frag} {mg : Str → Option Value} {base : Heap} {f : Addr} {fd : FuncData} (F : Fun K "least_of" "least_of" s_pleast_of f fd) (B : Bn mg) (h_ppower : Fd P w K mg base "power" 2 ["base", "many"] [] f_ppower)    :
    FnOk P w K mg base (L2N.CX P w) 4 f fd ["form"] (spF K mg 1 [] f_pleast_of) := by
  refine fn_ok F sc_pleast_of (by decide) (by decide) fun cdv A outer s H E hr => ?_
  have nd := sc_pleast_of.nd
  have tk : L2N.Takes (cxOf (L2N.CX P w) P w K mg base ["form"] "least_of" (defScope s_pleast_of) f cdv A outer s H E) (fun cls d _ H => E cls d H) := L2N.takes_of rfl rfl rfl rfl
  have pn : PassesOwn (model P w) (cxOf (L2N.CX P w) P w K mg base ["form"] "least_of" (defScope s_pleast_of) f cdv A outer s H E).A (cxOf (L2N.CX P w) P w K mg base ["form"] "least_of" (defScope s_pleast_of) f cdv A outer s H E).env (cxOf (L2N.CX P w) P w K mg base ["form"] "least_of" (defScope s_pleast_of) f cdv A outer s H E).xe := passes_of rfl
  unfold m_pleast_of
  exact mss_cons (ms_if (mt_cmp (op_eqM hr.units) os_eq (me_ix (me_var (i := 0) rfl (.inl v_pleast_of_0)) (me_int)) (me_str) (nomark _)) (mss_one (ms_ret (me_int))) (mss_nil)) (mss_cons (ms_if (mt_cmp (op_eqM hr.units) os_eq (me_ix (me_var (i := 0) rfl (.inl v_pleast_of_0)) (me_int)) (me_str) (nomark _)) (mss_one (ms_ret (me_sub (me_int) (me_fz (mf_call h_ppower hr (by decide) tk (ma_cons (me_int) (ma_cons (me_ix (me_var (i := 0) rfl (.inl v_pleast_of_0)) (me_int)) (ma_nil))) (lng_cons (lng_cons lng_nil)) (hg := (g_pleast_of_power _ _ _))))))) (mss_nil)) (mss_one (ms_ret (me_mul (me_neg (me_int)) (me_fz (mf_call h_ppower hr (by decide) tk (ma_cons (me_int) (ma_cons (me_sub (me_ix (me_var (i := 0) rfl (.inl v_pleast_of_0)) (me_int)) (me_int)) (ma_nil))) (lng_cons (lng_cons lng_nil)) (hg := (g_pleast_of_power _ _ _))))))))

abbrev s_pfolded : Stmt := top 19
theorem sc_pfolded : FnScope ["form", "number", "whole"] ["form", "number"] (defScope s_pfolded) := ⟨rfl, rfl, rfl, by decide +kernel, rfl, by decide +kernel, by decide +kernel⟩
theorem v_pfolded_0 : (defScope s_pfolded).names.lookup ("form" : Str) = some NameKind.local := by decide +kernel
theorem v_pfolded_1 : (defScope s_pfolded).names.lookup ("number" : Str) = some NameKind.local := by decide +kernel
theorem v_pfolded_2 : (defScope s_pfolded).names.lookup ("whole" : Str) = some NameKind.local := by decide +kernel
theorem g_pfolded_power (L a : Addr) (cd : Value) : (PyProof.Rows.envOfC "folded" (defScope s_pfolded) L a cd).kindOf ("power" : Str) = some NameKind.globalImplicit := rfl
theorem g_pfolded_least_of (L a : Addr) (cd : Value) : (PyProof.Rows.envOfC "folded" (defScope s_pfolded) L a cd).kindOf ("least_of" : Str) = some NameKind.globalImplicit := rfl
theorem ok_pfolded {P : Program} {w : World} {K : PySem.W.Frag} {mg : Str → Option Value} {base : Heap} {f : Addr} {fd : FuncData} (F : Fun K "folded" "folded" s_pfolded f fd) (B : Bn mg) (h_ppower : Fd P w K mg base "power" 2 ["base", "many"] [] f_ppower) (h_pleast_of : Fd P w K mg base "least_of" 4 ["form"] [] f_pleast_of)    :
    FnOk P w K mg base (L2N.CX P w) 6 f fd ["form", "number"] (spF K mg 2 [] f_pfolded) := by
  refine fn_ok F sc_pfolded (by decide) (by decide) fun cdv A outer s H E hr => ?_
  have nd := sc_pfolded.nd
  have tk : L2N.Takes (cxOf (L2N.CX P w) P w K mg base ["form", "number", "whole"] "folded" (defScope s_pfolded) f cdv A outer s H E) (fun cls d _ H => E cls d H) := L2N.takes_of rfl rfl rfl rfl
  have pn : PassesOwn (model P w) (cxOf (L2N.CX P w) P w K mg base ["form", "number", "whole"] "folded" (defScope s_pfolded) f cdv A outer s H E).A (cxOf (L2N.CX P w) P w K mg base ["form", "number", "whole"] "folded" (defScope s_pfolded) f cdv A outer s H E).env (cxOf (L2N.CX P w) P w K mg base ["form", "number", "whole"] "folded" (defScope s_pfolded) f cdv A outer s H E).xe := passes_of rfl
  unfold m_pfolded
  exact mss_cons (ms_set (i := 2) nd rfl (.inl v_pfolded_2) (me_fz (mf_call h_ppower hr (by decide) tk (ma_cons (me_int) (ma_cons (me_ix (me_var (i := 0) rfl (.inl v_pfolded_0)) (me_int)) (ma_nil))) (lng_cons (lng_cons lng_nil)) (hg := (g_pfolded_power _ _ _))))) (mss_cons (ms_if (mt_cmp (op_eqM hr.units) os_eq (me_ix (me_var (i := 0) rfl (.inl v_pfolded_0)) (me_int)) (me_str) (nomark _)) (mss_one (ms_ret (me_mod (me_var (i := 1) rfl (.inl v_pfolded_1)) (me_var (i := 2) rfl (.inl v_pfolded_2))))) (mss_nil)) (mss_cons (ms_if (mt_cmp (op_eqM hr.units) os_eq (me_ix (me_var (i := 0) rfl (.inl v_pfolded_0)) (me_int)) (me_str) (nomark _)) (mss_one (ms_ret (me_add (me_mod (me_sub (me_var (i := 1) rfl (.inl v_pfolded_1)) (me_fz (mf_call h_pleast_of hr (by decide) tk (ma_cons (me_var (i := 0) rfl (.inl v_pfolded_0)) (ma_nil)) (lng_cons lng_nil) (hg := (g_pfolded_least_of _ _ _))))) (me_var (i := 2) rfl (.inl v_pfolded_2))) (me_fz (mf_call h_pleast_of hr (by decide) tk (ma_cons (me_var (i := 0) rfl (.inl v_pfolded_0)) (ma_nil)) (lng_cons lng_nil) (hg := (g_pfolded_least_of _ _ _))))))) (mss_nil)) (mss_cons (ms_if (mt_cmp op_lt os_lt (me_var (i := 1) rfl (.inl v_pfolded_1)) (me_int) (nomark _)) (mss_one (ms_ret (me_neg (me_mod (me_neg (me_var (i := 1) rfl (.inl v_pfolded_1))) (me_var (i := 2) rfl (.inl v_pfolded_2)))))) (mss_nil)) (mss_one (ms_ret (me_mod (me_var (i := 1) rfl (.inl v_pfolded_1)) (me_var (i := 2) rfl (.inl v_pfolded_2))))))))

abbrev s_pfigures_of : Stmt := top 10
theorem sc_pfigures_of : FnScope ["number", "many", "found", "k"] ["number", "many"] (defScope s_pfigures_of) := ⟨rfl, rfl, rfl, by decide +kernel, rfl, by decide +kernel, by decide +kernel⟩
theorem v_pfigures_of_0 : (defScope s_pfigures_of).names.lookup ("number" : Str) = some NameKind.local := by decide +kernel
theorem v_pfigures_of_1 : (defScope s_pfigures_of).names.lookup ("many" : Str) = some NameKind.local := by decide +kernel
theorem v_pfigures_of_2 : (defScope s_pfigures_of).names.lookup ("found" : Str) = some NameKind.local := by decide +kernel
theorem v_pfigures_of_3 : (defScope s_pfigures_of).names.lookup ("k" : Str) = some NameKind.local := by decide +kernel
theorem g_pfigures_of_range (L a : Addr) (cd : Value) : (PyProof.Rows.envOfC "figures_of" (defScope s_pfigures_of) L a cd).kindOf ("range" : Str) = some NameKind.globalImplicit := rfl
theorem ok_pfigures_of {P : Program} {w : World} {K : PySem.W.Frag} {mg : Str → Option Value} {base : Heap} {f : Addr} {fd : FuncData} (F : Fun K "figures_of" "figures_of" s_pfigures_of f fd) (B : Bn mg)     :
    FnOk P w K mg base (L2N.CX P w) 2 f fd ["number", "many"] (spF K mg 2 [] f_pfigures_of) := by
  refine fn_ok F sc_pfigures_of (by decide) (by decide) fun cdv A outer s H E hr => ?_
  have nd := sc_pfigures_of.nd
  have tk : L2N.Takes (cxOf (L2N.CX P w) P w K mg base ["number", "many", "found", "k"] "figures_of" (defScope s_pfigures_of) f cdv A outer s H E) (fun cls d _ H => E cls d H) := L2N.takes_of rfl rfl rfl rfl
  have pn : PassesOwn (model P w) (cxOf (L2N.CX P w) P w K mg base ["number", "many", "found", "k"] "figures_of" (defScope s_pfigures_of) f cdv A outer s H E).A (cxOf (L2N.CX P w) P w K mg base ["number", "many", "found", "k"] "figures_of" (defScope s_pfigures_of) f cdv A outer s H E).env (cxOf (L2N.CX P w) P w K mg base ["number", "many", "found", "k"] "figures_of" (defScope s_pfigures_of) f cdv A outer s H E).xe := passes_of rfl
  unfold m_pfigures_of
  exact mss_cons (ms_setO (i := 2) nd rfl (.inl v_pfigures_of_2) (mo_lst (ma_nil))) (mss_cons (ms_for pn rfl (mi_r1 B.range (ma_cons (me_var (i := 1) rfl (.inl v_pfigures_of_1)) (ma_nil)) (hg := (g_pfigures_of_range _ _ _))) (mg_name (i := 3) nd rfl (.inl v_pfigures_of_3)) (mss_cons (ms_expr (me_lm1 ls_append PySem.F.slot_list_append PySem.F.type_list_append mt_append (i := 2) rfl (.inl v_pfigures_of_2) (ma_cons (me_mod (me_var (i := 0) rfl (.inl v_pfigures_of_0)) (me_int)) (ma_nil)))) (mss_one (ms_set (i := 0) nd rfl (.inl v_pfigures_of_0) (me_div (me_var (i := 0) rfl (.inl v_pfigures_of_0)) (me_int)))))) (mss_one (ms_ret (me_revA (me_var (i := 2) rfl (.inl v_pfigures_of_2))))))

abbrev s_psign_half : Stmt := top 26
theorem sc_psign_half : FnScope ["number"] ["number"] (defScope s_psign_half) := ⟨rfl, rfl, rfl, by decide +kernel, rfl, by decide +kernel, by decide +kernel⟩
theorem v_psign_half_0 : (defScope s_psign_half).names.lookup ("number" : Str) = some NameKind.local := by decide +kernel
theorem g_psign_half_MINUS_HALF (L a : Addr) (cd : Value) : (PyProof.Rows.envOfC "sign_half" (defScope s_psign_half) L a cd).kindOf ("MINUS_HALF" : Str) = some NameKind.globalImplicit := rfl
theorem g_psign_half_PLUS_HALF (L a : Addr) (cd : Value) : (PyProof.Rows.envOfC "sign_half" (defScope s_psign_half) L a cd).kindOf ("PLUS_HALF" : Str) = some NameKind.globalImplicit := rfl
theorem ok_psign_half {P : Program} {w : World} {K : PySem.W.Frag} {mg : Str → Option Value} {base : Heap} {f : Addr} {fd : FuncData} (F : Fun K "sign_half" "sign_half" s_psign_half f fd) (B : Bn mg)    (c_MINUS_HALF : Cst K mg "MINUS_HALF" (.int 13)) (c_PLUS_HALF : Cst K mg "PLUS_HALF" (.int 12)) :
    FnOk P w K mg base (L2N.CX P w) 2 f fd ["number"] (spF K mg 1 [] f_psign_half) := by
  refine fn_ok F sc_psign_half (by decide) (by decide) fun cdv A outer s H E hr => ?_
  have nd := sc_psign_half.nd
  have tk : L2N.Takes (cxOf (L2N.CX P w) P w K mg base ["number"] "sign_half" (defScope s_psign_half) f cdv A outer s H E) (fun cls d _ H => E cls d H) := L2N.takes_of rfl rfl rfl rfl
  have pn : PassesOwn (model P w) (cxOf (L2N.CX P w) P w K mg base ["number"] "sign_half" (defScope s_psign_half) f cdv A outer s H E).A (cxOf (L2N.CX P w) P w K mg base ["number"] "sign_half" (defScope s_psign_half) f cdv A outer s H E).env (cxOf (L2N.CX P w) P w K mg base ["number"] "sign_half" (defScope s_psign_half) f cdv A outer s H E).xe := passes_of rfl
  unfold m_psign_half
  exact mss_cons (ms_if (mt_cmp op_lt os_lt (me_var (i := 0) rfl (.inl v_psign_half_0)) (me_int) (nomark _)) (mss_one (ms_ret (mf_con c_MINUS_HALF (hg := (g_psign_half_MINUS_HALF _ _ _))))) (mss_nil)) (mss_one (ms_ret (mf_con c_PLUS_HALF (hg := (g_psign_half_PLUS_HALF _ _ _)))))

abbrev s_phalves_of : Stmt := top 7
theorem sc_phalves_of : FnScope ["form", "many"] ["form"] (defScope s_phalves_of) := ⟨rfl, rfl, rfl, by decide +kernel, rfl, by decide +kernel, by decide +kernel⟩
theorem v_phalves_of_0 : (defScope s_phalves_of).names.lookup ("form" : Str) = some NameKind.local := by decide +kernel
theorem v_phalves_of_1 : (defScope s_phalves_of).names.lookup ("many" : Str) = some NameKind.local := by decide +kernel
theorem g_phalves_of_int (L a : Addr) (cd : Value) : (PyProof.Rows.envOfC "halves_of" (defScope s_phalves_of) L a cd).kindOf ("int" : Str) = some NameKind.globalImplicit := rfl
theorem ok_phalves_of {P : Program} {w : World} {K : PySem.W.Frag} {mg : Str → Option Value} {base : Heap} {f : Addr} {fd : FuncData} (F : Fun K "halves_of" "halves_of" s_phalves_of f fd) (B : Bn mg)     :
    FnOk P w K mg base (L2N.CX P w) 2 f fd ["form"] (spF K mg 1 [] f_phalves_of) := by
  refine fn_ok F sc_phalves_of (by decide) (by decide) fun cdv A outer s H E hr => ?_
  have nd := sc_phalves_of.nd
  have tk : L2N.Takes (cxOf (L2N.CX P w) P w K mg base ["form", "many"] "halves_of" (defScope s_phalves_of) f cdv A outer s H E) (fun cls d _ H => E cls d H) := L2N.takes_of rfl rfl rfl rfl
  have pn : PassesOwn (model P w) (cxOf (L2N.CX P w) P w K mg base ["form", "many"] "halves_of" (defScope s_phalves_of) f cdv A outer s H E).A (cxOf (L2N.CX P w) P w K mg base ["form", "many"] "halves_of" (defScope s_phalves_of) f cdv A outer s H E).env (cxOf (L2N.CX P w) P w K mg base ["form", "many"] "halves_of" (defScope s_phalves_of) f cdv A outer s H E).xe := passes_of rfl
  unfold m_phalves_of
  exact mss_cons (ms_set (i := 1) nd rfl (.inl v_phalves_of_1) (me_add (me_ix (me_var (i := 0) rfl (.inl v_phalves_of_0)) (me_int)) (mb_int B.int (ma_cons (me_cmp (op_eqM hr.units) os_eq (me_ix (me_var (i := 0) rfl (.inl v_phalves_of_0)) (me_int)) (me_str) (nomark _)) (ma_nil)) (hg := (g_phalves_of_int _ _ _))))) (mss_one (ms_ret (me_tup (ma_cons (me_add (me_var (i := 1) rfl (.inl v_phalves_of_1)) (me_mod (me_var (i := 1) rfl (.inl v_phalves_of_1)) (me_int))) (ma_cons (me_mod (me_var (i := 1) rfl (.inl v_phalves_of_1)) (me_int)) (ma_nil))))))

abbrev s_pkept_halves : Stmt := top 27
theorem sc_pkept_halves : FnScope ["form", "number", "figures", "found", "figure", "last"] ["form", "number"] (defScope s_pkept_halves) := ⟨rfl, rfl, rfl, by decide +kernel, rfl, by decide +kernel, by decide +kernel⟩
theorem v_pkept_halves_0 : (defScope s_pkept_halves).names.lookup ("form" : Str) = some NameKind.local := by decide +kernel
theorem v_pkept_halves_1 : (defScope s_pkept_halves).names.lookup ("number" : Str) = some NameKind.local := by decide +kernel
theorem v_pkept_halves_2 : (defScope s_pkept_halves).names.lookup ("figures" : Str) = some NameKind.local := by decide +kernel
theorem v_pkept_halves_3 : (defScope s_pkept_halves).names.lookup ("found" : Str) = some NameKind.local := by decide +kernel
theorem v_pkept_halves_4 : (defScope s_pkept_halves).names.lookup ("figure" : Str) = some NameKind.local := by decide +kernel
theorem v_pkept_halves_5 : (defScope s_pkept_halves).names.lookup ("last" : Str) = some NameKind.local := by decide +kernel
theorem g_pkept_halves_power (L a : Addr) (cd : Value) : (PyProof.Rows.envOfC "kept_halves" (defScope s_pkept_halves) L a cd).kindOf ("power" : Str) = some NameKind.globalImplicit := rfl
theorem g_pkept_halves_abs (L a : Addr) (cd : Value) : (PyProof.Rows.envOfC "kept_halves" (defScope s_pkept_halves) L a cd).kindOf ("abs" : Str) = some NameKind.globalImplicit := rfl
theorem g_pkept_halves_figures_of (L a : Addr) (cd : Value) : (PyProof.Rows.envOfC "kept_halves" (defScope s_pkept_halves) L a cd).kindOf ("figures_of" : Str) = some NameKind.globalImplicit := rfl
theorem g_pkept_halves_sign_half (L a : Addr) (cd : Value) : (PyProof.Rows.envOfC "kept_halves" (defScope s_pkept_halves) L a cd).kindOf ("sign_half" : Str) = some NameKind.globalImplicit := rfl
theorem g_pkept_halves_int (L a : Addr) (cd : Value) : (PyProof.Rows.envOfC "kept_halves" (defScope s_pkept_halves) L a cd).kindOf ("int" : Str) = some NameKind.globalImplicit := rfl
theorem g_pkept_halves_halves_of (L a : Addr) (cd : Value) : (PyProof.Rows.envOfC "kept_halves" (defScope s_pkept_halves) L a cd).kindOf ("halves_of" : Str) = some NameKind.globalImplicit := rfl
theorem g_pkept_halves_ZONE_HALF (L a : Addr) (cd : Value) : (PyProof.Rows.envOfC "kept_halves" (defScope s_pkept_halves) L a cd).kindOf ("ZONE_HALF" : Str) = some NameKind.globalImplicit := rfl
theorem ok_pkept_halves {P : Program} {w : World} {K : PySem.W.Frag} {mg : Str → Option Value} {base : Heap} {f : Addr} {fd : FuncData} (F : Fun K "kept_halves" "kept_halves" s_pkept_halves f fd) (B : Bn mg) (h_ppower : Fd P w K mg base "power" 2 ["base", "many"] [] f_ppower) (h_pfigures_of : Fd P w K mg base "figures_of" 2 ["number", "many"] [] f_pfigures_of) (h_psign_half : Fd P w K mg base "sign_half" 2 ["number"] [] f_psign_half) (h_phalves_of : Fd P w K mg base "halves_of" 2 ["form"] [] f_phalves_of)   (c_ZONE_HALF : Cst K mg "ZONE_HALF" (.int 15)) :
    FnOk P w K mg base (L2N.CX P w) 4 f fd ["form", "number"] (spF K mg 2 [] f_pkept_halves) := by
  refine fn_ok F sc_pkept_halves (by decide) (by decide) fun cdv A outer s H E hr => ?_
  have nd := sc_pkept_halves.nd
  have tk : L2N.Takes (cxOf (L2N.CX P w) P w K mg base ["form", "number", "figures", "found", "figure", "last"] "kept_halves" (defScope s_pkept_halves) f cdv A outer s H E) (fun cls d _ H => E cls d H) := L2N.takes_of rfl rfl rfl rfl
  have pn : PassesOwn (model P w) (cxOf (L2N.CX P w) P w K mg base ["form", "number", "figures", "found", "figure", "last"] "kept_halves" (defScope s_pkept_halves) f cdv A outer s H E).A (cxOf (L2N.CX P w) P w K mg base ["form", "number", "figures", "found", "figure", "last"] "kept_halves" (defScope s_pkept_halves) f cdv A outer s H E).env (cxOf (L2N.CX P w) P w K mg base ["form", "number", "figures", "found", "figure", "last"] "kept_halves" (defScope s_pkept_halves) f cdv A outer s H E).xe := passes_of rfl
  unfold m_pkept_halves
  exact mss_cons (ms_if (mt_cmp (op_eqM hr.units) os_eq (me_ix (me_var (i := 0) rfl (.inl v_pkept_halves_0)) (me_int)) (me_str) (nomark _)) (mss_one (ms_set (i := 1) nd rfl (.inl v_pkept_halves_1) (me_mod (me_var (i := 1) rfl (.inl v_pkept_halves_1)) (me_fz (mf_call h_ppower hr (by decide) tk (ma_cons (me_int) (ma_cons (me_ix (me_var (i := 0) rfl (.inl v_pkept_halves_0)) (me_int)) (ma_nil))) (lng_cons (lng_cons lng_nil)) (hg := (g_pkept_halves_power _ _ _))))))) (mss_nil)) (mss_cons (ms_set (i := 2) nd rfl (.inl v_pkept_halves_2) (me_fz (mf_call h_pfigures_of hr (by decide) tk (ma_cons (mb_abs B.abs (ma_cons (me_var (i := 1) rfl (.inl v_pkept_halves_1)) (ma_nil)) (hg := (g_pkept_halves_abs _ _ _))) (ma_cons (me_ix (me_var (i := 0) rfl (.inl v_pkept_halves_0)) (me_int)) (ma_nil))) (lng_cons (lng_cons lng_nil)) (hg := (g_pkept_halves_figures_of _ _ _))))) (mss_cons (ms_if (mt_cmp (op_eqM hr.units) os_eq (me_ix (me_var (i := 0) rfl (.inl v_pkept_halves_0)) (me_int)) (me_str) (nomark _)) (mss_cons (ms_set (i := 5) nd rfl (.inl v_pkept_halves_5) (me_mul (me_lst (ma_cons (me_fz (mf_call h_psign_half hr (by decide) tk (ma_cons (me_var (i := 1) rfl (.inl v_pkept_halves_1)) (ma_nil)) (lng_cons lng_nil) (hg := (g_pkept_halves_sign_half _ _ _)))) (ma_nil))) (mb_int B.int (ma_cons (me_cmp (op_eqM hr.units) os_eq (me_ix (me_var (i := 0) rfl (.inl v_pkept_halves_0)) (me_int)) (me_str) (nomark _)) (ma_nil)) (hg := (g_pkept_halves_int _ _ _))))) (mss_one (ms_ret (me_add (me_add (me_mul (me_lst (ma_cons (me_int) (ma_nil))) (me_ix (me_fz (mf_call h_phalves_of hr (by decide) tk (ma_cons (me_var (i := 0) rfl (.inl v_pkept_halves_0)) (ma_nil)) (lng_cons lng_nil) (hg := (g_pkept_halves_halves_of _ _ _)))) (me_int))) (me_var (i := 2) rfl (.inl v_pkept_halves_2))) (me_var (i := 5) rfl (.inl v_pkept_halves_5)))))) (mss_nil)) (mss_cons (ms_setO (i := 3) nd rfl (.inl v_pkept_halves_3) (mo_lst (ma_nil))) (mss_cons (ms_for pn rfl (mi_val (me_var (i := 2) rfl (.inl v_pkept_halves_2))) (mg_name (i := 4) nd rfl (.inl v_pkept_halves_4)) (mss_one (ms_expr (me_lm1 ls_extend PySem.F.slot_list_extend PySem.F.type_list_extend mt_extend (i := 3) rfl (.inl v_pkept_halves_3) (ma_cons (me_lst (ma_cons (mf_con c_ZONE_HALF (hg := (g_pkept_halves_ZONE_HALF _ _ _))) (ma_cons (me_var (i := 4) rfl (.inl v_pkept_halves_4)) (ma_nil)))) (ma_nil)))))) (mss_cons (ms_if (mt_cmp (op_eqM hr.units) os_eq (me_ix (me_var (i := 0) rfl (.inl v_pkept_halves_0)) (me_int)) (me_str) (nomark _)) (mss_one (ms_setIx (i := 3) rfl (.inl v_pkept_halves_3) (me_fz (mf_call h_psign_half hr (by decide) tk (ma_cons (me_var (i := 1) rfl (.inl v_pkept_halves_1)) (ma_nil)) (lng_cons lng_nil) (hg := (g_pkept_halves_sign_half _ _ _)))) (me_neg (me_int)))) (mss_nil)) (mss_one (ms_retO (mo_var (i := 3) rfl (.inl v_pkept_halves_3)))))))))

abbrev s_pmost_of : Stmt := top 18
theorem sc_pmost_of : FnScope ["form"] ["form"] (defScope s_pmost_of) := ⟨rfl, rfl, rfl, by decide +kernel, rfl, by decide +kernel, by decide +kernel⟩
theorem v_pmost_of_0 : (defScope s_pmost_of).names.lookup ("form" : Str) = some NameKind.local := by decide +kernel
theorem g_pmost_of_power (L a : Addr) (cd : Value) : (PyProof.Rows.envOfC "most_of" (defScope s_pmost_of) L a cd).kindOf ("power" : Str) = some NameKind.globalImplicit := rfl
theorem ok_pmost_of {P : Program} {w : World} {K : PySem.W.Frag} {mg : Str → Option Value} {base : Heap} {f : Addr} {fd : FuncData} (F : Fun K "most_of" "most_of" s_pmost_of f fd) (B : Bn mg) (h_ppower : Fd P w K mg base "power" 2 ["base", "many"] [] f_ppower)    :
    FnOk P w K mg base (L2N.CX P w) 4 f fd ["form"] (spF K mg 1 [] f_pmost_of) := by
  refine fn_ok F sc_pmost_of (by decide) (by decide) fun cdv A outer s H E hr => ?_
  have nd := sc_pmost_of.nd
  have tk : L2N.Takes (cxOf (L2N.CX P w) P w K mg base ["form"] "most_of" (defScope s_pmost_of) f cdv A outer s H E) (fun cls d _ H => E cls d H) := L2N.takes_of rfl rfl rfl rfl
  have pn : PassesOwn (model P w) (cxOf (L2N.CX P w) P w K mg base ["form"] "most_of" (defScope s_pmost_of) f cdv A outer s H E).A (cxOf (L2N.CX P w) P w K mg base ["form"] "most_of" (defScope s_pmost_of) f cdv A outer s H E).env (cxOf (L2N.CX P w) P w K mg base ["form"] "most_of" (defScope s_pmost_of) f cdv A outer s H E).xe := passes_of rfl
  unfold m_pmost_of
  exact mss_cons (ms_if (mt_cmp (op_eqM hr.units) os_eq (me_ix (me_var (i := 0) rfl (.inl v_pmost_of_0)) (me_int)) (me_str) (nomark _)) (mss_one (ms_ret (me_sub (me_mul (me_int) (me_fz (mf_call h_ppower hr (by decide) tk (ma_cons (me_int) (ma_cons (me_sub (me_ix (me_var (i := 0) rfl (.inl v_pmost_of_0)) (me_int)) (me_int)) (ma_nil))) (lng_cons (lng_cons lng_nil)) (hg := (g_pmost_of_power _ _ _))))) (me_int)))) (mss_nil)) (mss_one (ms_ret (me_sub (me_fz (mf_call h_ppower hr (by decide) tk (ma_cons (me_int) (ma_cons (me_ix (me_var (i := 0) rfl (.inl v_pmost_of_0)) (me_int)) (ma_nil))) (lng_cons (lng_cons lng_nil)) (hg := (g_pmost_of_power _ _ _)))) (me_int))))

abbrev s_pfits : Stmt := top 20
theorem sc_pfits : FnScope ["form", "number"] ["form", "number"] (defScope s_pfits) := ⟨rfl, rfl, rfl, by decide +kernel, rfl, by decide +kernel, by decide +kernel⟩
theorem v_pfits_0 : (defScope s_pfits).names.lookup ("form" : Str) = some NameKind.local := by decide +kernel
theorem v_pfits_1 : (defScope s_pfits).names.lookup ("number" : Str) = some NameKind.local := by decide +kernel
theorem g_pfits_least_of (L a : Addr) (cd : Value) : (PyProof.Rows.envOfC "fits" (defScope s_pfits) L a cd).kindOf ("least_of" : Str) = some NameKind.globalImplicit := rfl
theorem g_pfits_most_of (L a : Addr) (cd : Value) : (PyProof.Rows.envOfC "fits" (defScope s_pfits) L a cd).kindOf ("most_of" : Str) = some NameKind.globalImplicit := rfl
theorem ok_pfits {P : Program} {w : World} {K : PySem.W.Frag} {mg : Str → Option Value} {base : Heap} {f : Addr} {fd : FuncData} (F : Fun K "fits" "fits" s_pfits f fd) (B : Bn mg) (h_pleast_of : Fd P w K mg base "least_of" 4 ["form"] [] f_pleast_of) (h_pmost_of : Fd P w K mg base "most_of" 4 ["form"] [] f_pmost_of)    :
    FnOk P w K mg base (L2N.CX P w) 6 f fd ["form", "number"] (spF K mg 2 [] f_pfits) := by
  refine fn_ok F sc_pfits (by decide) (by decide) fun cdv A outer s H E hr => ?_
  have nd := sc_pfits.nd
  have tk : L2N.Takes (cxOf (L2N.CX P w) P w K mg base ["form", "number"] "fits" (defScope s_pfits) f cdv A outer s H E) (fun cls d _ H => E cls d H) := L2N.takes_of rfl rfl rfl rfl
  have pn : PassesOwn (model P w) (cxOf (L2N.CX P w) P w K mg base ["form", "number"] "fits" (defScope s_pfits) f cdv A outer s H E).A (cxOf (L2N.CX P w) P w K mg base ["form", "number"] "fits" (defScope s_pfits) f cdv A outer s H E).env (cxOf (L2N.CX P w) P w K mg base ["form", "number"] "fits" (defScope s_pfits) f cdv A outer s H E).xe := passes_of rfl
  unfold m_pfits
  exact mss_one (ms_ret (me_chain op_le os_le op_le os_le (me_fz (mf_call h_pleast_of hr (by decide) tk (ma_cons (me_var (i := 0) rfl (.inl v_pfits_0)) (ma_nil)) (lng_cons lng_nil) (hg := (g_pfits_least_of _ _ _)))) (me_var (i := 1) rfl (.inl v_pfits_1)) (me_fz (mf_call h_pmost_of hr (by decide) tk (ma_cons (me_var (i := 0) rfl (.inl v_pfits_0)) (ma_nil)) (lng_cons lng_nil) (hg := (g_pfits_most_of _ _ _))))))

abbrev s_pkept : Stmt := top 28
theorem sc_pkept : FnScope ["form", "number", "halves", "k"] ["form", "number"] (defScope s_pkept) := ⟨rfl, rfl, rfl, by decide +kernel, rfl, by decide +kernel, by decide +kernel⟩
theorem v_pkept_0 : (defScope s_pkept).names.lookup ("form" : Str) = some NameKind.local := by decide +kernel
theorem v_pkept_1 : (defScope s_pkept).names.lookup ("number" : Str) = some NameKind.local := by decide +kernel
theorem v_pkept_2 : (defScope s_pkept).names.lookup ("halves" : Str) = some NameKind.cell := by decide +kernel
theorem g_pkept_fits (L a : Addr) (cd : Value) : (PyProof.Rows.envOfC "kept" (defScope s_pkept) L a cd).kindOf ("fits" : Str) = some NameKind.globalImplicit := rfl
theorem g_pkept_NoFit (L a : Addr) (cd : Value) : (PyProof.Rows.envOfC "kept" (defScope s_pkept) L a cd).kindOf ("NoFit" : Str) = some NameKind.globalImplicit := rfl
theorem g_pkept_kept_halves (L a : Addr) (cd : Value) : (PyProof.Rows.envOfC "kept" (defScope s_pkept) L a cd).kindOf ("kept_halves" : Str) = some NameKind.globalImplicit := rfl
theorem g_pkept_len (L a : Addr) (cd : Value) : (PyProof.Rows.envOfC "kept" (defScope s_pkept) L a cd).kindOf ("len" : Str) = some NameKind.globalImplicit := rfl
theorem g_pkept_range (L a : Addr) (cd : Value) : (PyProof.Rows.envOfC "kept" (defScope s_pkept) L a cd).kindOf ("range" : Str) = some NameKind.globalImplicit := rfl
theorem g_pkept_tuple (L a : Addr) (cd : Value) : (PyProof.Rows.envOfC "kept" (defScope s_pkept) L a cd).kindOf ("tuple" : Str) = some NameKind.globalImplicit := rfl
theorem ok_pkept {P : Program} {w : World} {K : PySem.W.Frag} {mg : Str → Option Value} {base : Heap} {f : Addr} {fd : FuncData} (F : Fun K "kept" "kept" s_pkept f fd) (B : Bn mg) (h_pfits : Fd P w K mg base "fits" 6 ["form", "number"] [] f_pfits) (h_pkept_halves : Fd P w K mg base "kept_halves" 4 ["form", "number"] [] f_pkept_halves)  (xcl1_NoFit_number : Cl1 P w K mg base "NoFit" "number")  :
    FnOk P w K mg base (L2N.CX P w) 8 f fd ["form", "number"] (spF K mg 2 [] f_pkept) := by
  refine fn_ok F sc_pkept (by decide) (by decide) fun cdv A outer s H E hr => ?_
  have nd := sc_pkept.nd
  have tk : L2N.Takes (cxOf (L2N.CX P w) P w K mg base ["form", "number", "halves", "k"] "kept" (defScope s_pkept) f cdv A outer s H E) (fun cls d _ H => E cls d H) := L2N.takes_of rfl rfl rfl rfl
  have pn : PassesOwn (model P w) (cxOf (L2N.CX P w) P w K mg base ["form", "number", "halves", "k"] "kept" (defScope s_pkept) f cdv A outer s H E).A (cxOf (L2N.CX P w) P w K mg base ["form", "number", "halves", "k"] "kept" (defScope s_pkept) f cdv A outer s H E).env (cxOf (L2N.CX P w) P w K mg base ["form", "number", "halves", "k"] "kept" (defScope s_pkept) f cdv A outer s H E).xe := passes_of rfl
  unfold m_pkept
  exact mss_cons (ms_if (mt_not (mt_val (me_fz (mf_call h_pfits hr (by decide) tk (ma_cons (me_var (i := 0) rfl (.inl v_pkept_0)) (ma_cons (me_var (i := 1) rfl (.inl v_pkept_1)) (ma_nil))) (lng_cons (lng_cons lng_nil)) (hg := (g_pkept_fits _ _ _)))))) (mss_one (ms_raise1 xcl1_NoFit_number rfl hr (by decide) tk (g_pkept_NoFit _ _ _) (me_var (i := 1) rfl (.inl v_pkept_1)))) (mss_nil)) (mss_cons (ms_set (i := 2) nd rfl (.inr v_pkept_2) (me_fz (mf_call h_pkept_halves hr (by decide) tk (ma_cons (me_var (i := 0) rfl (.inl v_pkept_0)) (ma_cons (me_var (i := 1) rfl (.inl v_pkept_1)) (ma_nil))) (lng_cons (lng_cons lng_nil)) (hg := (g_pkept_kept_halves _ _ _))))) (mss_one (ms_ret (mb_tuple B.tuple (ma_cons (me_fz (mo_lc (own := [("k", 3)]) (g := .nm 3) rfl nd (mi_r3 B.range (ma_cons (me_int) (ma_cons (mb_len B.len (ma_cons (me_var (i := 2) rfl (.inr (.inl v_pkept_2))) (ma_nil)) (hg := (g_pkept_len _ _ _))) (ma_cons (me_int) (ma_nil)))) (hg := (g_pkept_range _ _ _))) (blkOk_at (N' := ["form", "number", "halves", "k"]) (sc' := defScope s_pkept) rfl rfl (by decide +kernel)) (fun _ _ _ _ _ => pg_name (i := 3) nd rfl (Or.inl rfl)) (fun _ _ _ _ _ => mts_nil) (fun _ _ _ _ _ => me_add (me_mul (me_int) (me_ix (me_var (i := 2) rfl (by first | exact .inr (.inr rfl) | exact .inl rfl | exact .inr (.inl rfl))) (me_var (i := 3) rfl (.inl rfl)))) (me_ix (me_var (i := 2) rfl (by first | exact .inr (.inr rfl) | exact .inl rfl | exact .inr (.inl rfl))) (me_add (me_var (i := 3) rfl (.inl rfl)) (me_int)))) (hbs := hbs_of rfl))) (ma_nil)) (hg := (g_pkept_tuple _ _ _))))))

abbrev s_pwritten : Stmt := top 38
theorem sc_pwritten : FnScope ["form", "number", "figures"] ["form", "number"] (defScope s_pwritten) := ⟨rfl, rfl, rfl, by decide +kernel, rfl, by decide +kernel, by decide +kernel⟩
theorem v_pwritten_0 : (defScope s_pwritten).names.lookup ("form" : Str) = some NameKind.local := by decide +kernel
theorem v_pwritten_1 : (defScope s_pwritten).names.lookup ("number" : Str) = some NameKind.local := by decide +kernel
theorem v_pwritten_2 : (defScope s_pwritten).names.lookup ("figures" : Str) = some NameKind.local := by decide +kernel
theorem g_pwritten_fits (L a : Addr) (cd : Value) : (PyProof.Rows.envOfC "written" (defScope s_pwritten) L a cd).kindOf ("fits" : Str) = some NameKind.globalImplicit := rfl
theorem g_pwritten_NoFit (L a : Addr) (cd : Value) : (PyProof.Rows.envOfC "written" (defScope s_pwritten) L a cd).kindOf ("NoFit" : Str) = some NameKind.globalImplicit := rfl
theorem g_pwritten_abs (L a : Addr) (cd : Value) : (PyProof.Rows.envOfC "written" (defScope s_pwritten) L a cd).kindOf ("abs" : Str) = some NameKind.globalImplicit := rfl
theorem g_pwritten_str (L a : Addr) (cd : Value) : (PyProof.Rows.envOfC "written" (defScope s_pwritten) L a cd).kindOf ("str" : Str) = some NameKind.globalImplicit := rfl
theorem ok_pwritten {P : Program} {w : World} {K : PySem.W.Frag} {mg : Str → Option Value} {base : Heap} {f : Addr} {fd : FuncData} (F : Fun K "written" "written" s_pwritten f fd) (B : Bn mg) (h_pfits : Fd P w K mg base "fits" 6 ["form", "number"] [] f_pfits)  (xcl1_NoFit_number : Cl1 P w K mg base "NoFit" "number")  :
    FnOk P w K mg base (L2N.CX P w) 8 f fd ["form", "number"] (spF K mg 2 [] f_pwritten) := by
  refine fn_ok F sc_pwritten (by decide) (by decide) fun cdv A outer s H E hr => ?_
  have nd := sc_pwritten.nd
  have tk : L2N.Takes (cxOf (L2N.CX P w) P w K mg base ["form", "number", "figures"] "written" (defScope s_pwritten) f cdv A outer s H E) (fun cls d _ H => E cls d H) := L2N.takes_of rfl rfl rfl rfl
  have pn : PassesOwn (model P w) (cxOf (L2N.CX P w) P w K mg base ["form", "number", "figures"] "written" (defScope s_pwritten) f cdv A outer s H E).A (cxOf (L2N.CX P w) P w K mg base ["form", "number", "figures"] "written" (defScope s_pwritten) f cdv A outer s H E).env (cxOf (L2N.CX P w) P w K mg base ["form", "number", "figures"] "written" (defScope s_pwritten) f cdv A outer s H E).xe := passes_of rfl
  unfold m_pwritten
  exact mss_cons (ms_if (mt_not (mt_val (me_fz (mf_call h_pfits hr (by decide) tk (ma_cons (me_var (i := 0) rfl (.inl v_pwritten_0)) (ma_cons (me_var (i := 1) rfl (.inl v_pwritten_1)) (ma_nil))) (lng_cons (lng_cons lng_nil)) (hg := (g_pwritten_fits _ _ _)))))) (mss_one (ms_raise1 xcl1_NoFit_number rfl hr (by decide) tk (g_pwritten_NoFit _ _ _) (me_var (i := 1) rfl (.inl v_pwritten_1)))) (mss_nil)) (mss_cons (ms_set (i := 2) nd rfl (.inl v_pwritten_2) (me_sm ss_zfill PySem.F.slot_str_zfill PySem.F.type_str_zfill mt_zfill (mb_str B.str (ma_cons (mb_abs B.abs (ma_cons (me_var (i := 1) rfl (.inl v_pwritten_1)) (ma_nil)) (hg := (g_pwritten_abs _ _ _))) (ma_nil)) (hg := (g_pwritten_str _ _ _))) (ma_cons (me_add (me_ix (me_var (i := 0) rfl (.inl v_pwritten_0)) (me_int)) (me_int)) (ma_nil)))) (mss_cons (ms_if (mt_cmp op_gt os_gt (me_ix (me_var (i := 0) rfl (.inl v_pwritten_0)) (me_int)) (me_int) (nomark _)) (mss_one (ms_set (i := 2) nd rfl (.inl v_pwritten_2) (me_add (me_add (me_sl (me_var (i := 2) rfl (.inl v_pwritten_2)) (mp_none) (mp_some (me_neg (me_ix (me_var (i := 0) rfl (.inl v_pwritten_0)) (me_int))))) (me_str)) (me_sl (me_var (i := 2) rfl (.inl v_pwritten_2)) (mp_some (me_neg (me_ix (me_var (i := 0) rfl (.inl v_pwritten_0)) (me_int)))) (mp_none))))) (mss_nil)) (mss_cons (ms_if (mt_cmp op_lt os_lt (me_var (i := 1) rfl (.inl v_pwritten_1)) (me_int) (nomark _)) (mss_one (ms_ret (me_add (me_str) (me_var (i := 2) rfl (.inl v_pwritten_2))))) (mss_nil)) (mss_one (ms_ret (me_var (i := 2) rfl (.inl v_pwritten_2)))))))

abbrev s_pis_figures : Stmt := top 39
theorem sc_pis_figures : FnScope ["word", "sign"] ["word"] (defScope s_pis_figures) := ⟨rfl, rfl, rfl, by decide +kernel, rfl, by decide +kernel, by decide +kernel⟩
theorem v_pis_figures_0 : (defScope s_pis_figures).names.lookup ("word" : Str) = some NameKind.local := by decide +kernel
theorem g_pis_figures_len (L a : Addr) (cd : Value) : (PyProof.Rows.envOfC "is_figures" (defScope s_pis_figures) L a cd).kindOf ("len" : Str) = some NameKind.globalImplicit := rfl
theorem g_pis_figures_MOST_READ (L a : Addr) (cd : Value) : (PyProof.Rows.envOfC "is_figures" (defScope s_pis_figures) L a cd).kindOf ("MOST_READ" : Str) = some NameKind.globalImplicit := rfl
theorem g_pis_figures_all (L a : Addr) (cd : Value) : (PyProof.Rows.envOfC "is_figures" (defScope s_pis_figures) L a cd).kindOf ("all" : Str) = some NameKind.globalImplicit := rfl
theorem ok_pis_figures {P : Program} {w : World} {K : PySem.W.Frag} {mg : Str → Option Value} {base : Heap} {f : Addr} {fd : FuncData} (F : Fun K "is_figures" "is_figures" s_pis_figures f fd) (B : Bn mg)    (c_MOST_READ : Cst K mg "MOST_READ" (.int 30)) (c_FIGURES : Cst K mg "FIGURES" (.str "0123456789")) :
    FnOk P w K mg base (L2N.CX P w) 2 f fd ["word"] (spF K mg 1 [] f_pis_figures) := by
  refine fn_ok F sc_pis_figures (by decide) (by decide) fun cdv A outer s H E hr => ?_
  have nd := sc_pis_figures.nd
  have tk : L2N.Takes (cxOf (L2N.CX P w) P w K mg base ["word", "sign"] "is_figures" (defScope s_pis_figures) f cdv A outer s H E) (fun cls d _ H => E cls d H) := L2N.takes_of rfl rfl rfl rfl
  have pn : PassesOwn (model P w) (cxOf (L2N.CX P w) P w K mg base ["word", "sign"] "is_figures" (defScope s_pis_figures) f cdv A outer s H E).A (cxOf (L2N.CX P w) P w K mg base ["word", "sign"] "is_figures" (defScope s_pis_figures) f cdv A outer s H E).env (cxOf (L2N.CX P w) P w K mg base ["word", "sign"] "is_figures" (defScope s_pis_figures) f cdv A outer s H E).xe := passes_of rfl
  unfold m_pis_figures
  exact mss_one (ms_ret (me_and (me_chain op_lt os_lt op_le os_le (me_int) (mb_len B.len (ma_cons (me_var (i := 0) rfl (.inl v_pis_figures_0)) (ma_nil)) (hg := (g_pis_figures_len _ _ _))) (mf_con c_MOST_READ (hg := (g_pis_figures_MOST_READ _ _ _)))) (me_one (mb_all rfl B.all (ma_cons (me_fz (mo_lc (own := [("sign", 1)]) (g := .nm 1) rfl nd (mi_val (me_var (i := 0) rfl (.inl v_pis_figures_0))) (blkOk_at (N' := ["word", "sign"]) (sc' := defScope s_pis_figures) rfl rfl (by decide +kernel)) (fun _ _ _ _ _ => pg_name (i := 1) nd rfl (Or.inl rfl)) (fun _ _ _ _ _ => mts_nil) (fun _ _ _ _ _ => me_cmp op_inM os_in (me_var (i := 1) rfl (.inl rfl)) (mf_con c_FIGURES (hg := rfl)) rfl) (hbs := hbs_of rfl))) (ma_nil)) (hg := (g_pis_figures_all _ _ _))))))

abbrev s_pparts_of : Stmt := top 40
theorem sc_pparts_of : FnScope ["text", "ahead", "point", "behind"] ["text"] (defScope s_pparts_of) := ⟨rfl, rfl, rfl, by decide +kernel, rfl, by decide +kernel, by decide +kernel⟩
theorem v_pparts_of_0 : (defScope s_pparts_of).names.lookup ("text" : Str) = some NameKind.local := by decide +kernel
theorem v_pparts_of_1 : (defScope s_pparts_of).names.lookup ("ahead" : Str) = some NameKind.local := by decide +kernel
theorem v_pparts_of_2 : (defScope s_pparts_of).names.lookup ("point" : Str) = some NameKind.local := by decide +kernel
theorem v_pparts_of_3 : (defScope s_pparts_of).names.lookup ("behind" : Str) = some NameKind.local := by decide +kernel
theorem g_pparts_of_is_figures (L a : Addr) (cd : Value) : (PyProof.Rows.envOfC "parts_of" (defScope s_pparts_of) L a cd).kindOf ("is_figures" : Str) = some NameKind.globalImplicit := rfl
theorem g_pparts_of_NoText (L a : Addr) (cd : Value) : (PyProof.Rows.envOfC "parts_of" (defScope s_pparts_of) L a cd).kindOf ("NoText" : Str) = some NameKind.globalImplicit := rfl
theorem ok_pparts_of {P : Program} {w : World} {K : PySem.W.Frag} {mg : Str → Option Value} {base : Heap} {f : Addr} {fd : FuncData} (F : Fun K "parts_of" "parts_of" s_pparts_of f fd) (B : Bn mg) (h_pis_figures : Fd P w K mg base "is_figures" 2 ["word"] [] f_pis_figures)  (xcl0_NoText : Cl0 K mg "NoText")  :
    FnOk P w K mg base (L2N.CX P w) 4 f fd ["text"] (spF K mg 1 [] f_pparts_of) := by
  refine fn_ok F sc_pparts_of (by decide) (by decide) fun cdv A outer s H E hr => ?_
  have nd := sc_pparts_of.nd
  have tk : L2N.Takes (cxOf (L2N.CX P w) P w K mg base ["text", "ahead", "point", "behind"] "parts_of" (defScope s_pparts_of) f cdv A outer s H E) (fun cls d _ H => E cls d H) := L2N.takes_of rfl rfl rfl rfl
  have pn : PassesOwn (model P w) (cxOf (L2N.CX P w) P w K mg base ["text", "ahead", "point", "behind"] "parts_of" (defScope s_pparts_of) f cdv A outer s H E).A (cxOf (L2N.CX P w) P w K mg base ["text", "ahead", "point", "behind"] "parts_of" (defScope s_pparts_of) f cdv A outer s H E).env (cxOf (L2N.CX P w) P w K mg base ["text", "ahead", "point", "behind"] "parts_of" (defScope s_pparts_of) f cdv A outer s H E).xe := passes_of rfl
  unfold m_pparts_of
  exact mss_cons (ms_asg (me_sm ss_partition PySem.F.slot_str_partition PySem.F.type_str_partition mt_partition (me_var (i := 0) rfl (.inl v_pparts_of_0)) (ma_cons (me_str) (ma_nil))) (mg_tup rfl (mgs_cons (mg_name (i := 1) nd rfl (.inl v_pparts_of_1)) (mgs_cons (mg_name (i := 2) nd rfl (.inl v_pparts_of_2)) (mgs_cons (mg_name (i := 3) nd rfl (.inl v_pparts_of_3)) (mgs_nil)))))) (mss_cons (ms_if (PW.pt (mw_or (mt_not (mt_val (me_fz (mf_call h_pis_figures hr (by decide) tk (ma_cons (me_var (i := 1) rfl (.inl v_pparts_of_1)) (ma_nil)) (lng_cons lng_nil) (hg := (g_pparts_of_is_figures _ _ _)))))) (mw_one_or (PW.pt (mw_and (mt_cmp (op_eqM hr.units) os_eq (me_var (i := 2) rfl (.inl v_pparts_of_2)) (me_str) (nomark _)) (mw_one_and (mt_not (mt_val (me_fz (mf_call h_pis_figures hr (by decide) tk (ma_cons (me_var (i := 3) rfl (.inl v_pparts_of_3)) (ma_nil)) (lng_cons lng_nil) (hg := (g_pparts_of_is_figures _ _ _)))))))))))) (mss_one (ms_raise0 xcl0_NoText rfl tk (g_pparts_of_NoText _ _ _))) (mss_nil)) (mss_one (ms_ret (me_tup (ma_cons (me_var (i := 1) rfl (.inl v_pparts_of_1)) (ma_cons (me_var (i := 3) rfl (.inl v_pparts_of_3)) (ma_nil)))))))

abbrev s_ptold : Stmt := top 41
theorem sc_ptold : FnScope ["form", "text", "size", "number", "under", "ahead", "behind"] ["form", "text"] (defScope s_ptold) := ⟨rfl, rfl, rfl, by decide +kernel, rfl, by decide +kernel, by decide +kernel⟩
theorem v_ptold_0 : (defScope s_ptold).names.lookup ("form" : Str) = some NameKind.local := by decide +kernel
theorem v_ptold_1 : (defScope s_ptold).names.lookup ("text" : Str) = some NameKind.local := by decide +kernel
theorem v_ptold_2 : (defScope s_ptold).names.lookup ("size" : Str) = some NameKind.local := by decide +kernel
theorem v_ptold_3 : (defScope s_ptold).names.lookup ("number" : Str) = some NameKind.local := by decide +kernel
theorem v_ptold_4 : (defScope s_ptold).names.lookup ("under" : Str) = some NameKind.local := by decide +kernel
theorem v_ptold_5 : (defScope s_ptold).names.lookup ("ahead" : Str) = some NameKind.local := by decide +kernel
theorem v_ptold_6 : (defScope s_ptold).names.lookup ("behind" : Str) = some NameKind.local := by decide +kernel
theorem g_ptold_int (L a : Addr) (cd : Value) : (PyProof.Rows.envOfC "told" (defScope s_ptold) L a cd).kindOf ("int" : Str) = some NameKind.globalImplicit := rfl
theorem g_ptold_parts_of (L a : Addr) (cd : Value) : (PyProof.Rows.envOfC "told" (defScope s_ptold) L a cd).kindOf ("parts_of" : Str) = some NameKind.globalImplicit := rfl
theorem g_ptold_power (L a : Addr) (cd : Value) : (PyProof.Rows.envOfC "told" (defScope s_ptold) L a cd).kindOf ("power" : Str) = some NameKind.globalImplicit := rfl
theorem g_ptold_len (L a : Addr) (cd : Value) : (PyProof.Rows.envOfC "told" (defScope s_ptold) L a cd).kindOf ("len" : Str) = some NameKind.globalImplicit := rfl
theorem g_ptold_NoFit (L a : Addr) (cd : Value) : (PyProof.Rows.envOfC "told" (defScope s_ptold) L a cd).kindOf ("NoFit" : Str) = some NameKind.globalImplicit := rfl
theorem g_ptold_fits (L a : Addr) (cd : Value) : (PyProof.Rows.envOfC "told" (defScope s_ptold) L a cd).kindOf ("fits" : Str) = some NameKind.globalImplicit := rfl
theorem ok_ptold {P : Program} {w : World} {K : PySem.W.Frag} {mg : Str → Option Value} {base : Heap} {f : Addr} {fd : FuncData} (F : Fun K "told" "told" s_ptold f fd) (B : Bn mg) (h_pparts_of : Fd P w K mg base "parts_of" 4 ["text"] [] f_pparts_of) (h_ppower : Fd P w K mg base "power" 2 ["base", "many"] [] f_ppower) (h_pfits : Fd P w K mg base "fits" 6 ["form", "number"] [] f_pfits)  (xcl1_NoFit_number : Cl1 P w K mg base "NoFit" "number")  :
    FnOk P w K mg base (L2N.CX P w) 8 f fd ["form", "text"] (spF K mg 2 [] f_ptold) := by
  refine fn_ok F sc_ptold (by decide) (by decide) fun cdv A outer s H E hr => ?_
  have nd := sc_ptold.nd
  have tk : L2N.Takes (cxOf (L2N.CX P w) P w K mg base ["form", "text", "size", "number", "under", "ahead", "behind"] "told" (defScope s_ptold) f cdv A outer s H E) (fun cls d _ H => E cls d H) := L2N.takes_of rfl rfl rfl rfl
  have pn : PassesOwn (model P w) (cxOf (L2N.CX P w) P w K mg base ["form", "text", "size", "number", "under", "ahead", "behind"] "told" (defScope s_ptold) f cdv A outer s H E).A (cxOf (L2N.CX P w) P w K mg base ["form", "text", "size", "number", "under", "ahead", "behind"] "told" (defScope s_ptold) f cdv A outer s H E).env (cxOf (L2N.CX P w) P w K mg base ["form", "text", "size", "number", "under", "ahead", "behind"] "told" (defScope s_ptold) f cdv A outer s H E).xe := passes_of rfl
  unfold m_ptold
  exact mss_cons (ms_set (i := 2) nd rfl (.inl v_ptold_2) (me_sl (me_var (i := 1) rfl (.inl v_ptold_1)) (mp_some (mb_int B.int (ma_cons (me_cmp (op_eqM hr.units) os_eq (me_sl (me_var (i := 1) rfl (.inl v_ptold_1)) (mp_none) (mp_some (me_int))) (me_str) (nomark _)) (ma_nil)) (hg := (g_ptold_int _ _ _)))) (mp_none))) (mss_cons (ms_asg (me_fz (mf_call h_pparts_of hr (by decide) tk (ma_cons (me_var (i := 2) rfl (.inl v_ptold_2)) (ma_nil)) (lng_cons lng_nil) (hg := (g_ptold_parts_of _ _ _)))) (mg_tup rfl (mgs_cons (mg_name (i := 5) nd rfl (.inl v_ptold_5)) (mgs_cons (mg_name (i := 6) nd rfl (.inl v_ptold_6)) (mgs_nil))))) (mss_cons (ms_set (i := 3) nd rfl (.inl v_ptold_3) (me_mul (mb_int B.int (ma_cons (me_add (me_var (i := 5) rfl (.inl v_ptold_5)) (me_var (i := 6) rfl (.inl v_ptold_6))) (ma_nil)) (hg := (g_ptold_int _ _ _))) (me_fz (mf_call h_ppower hr (by decide) tk (ma_cons (me_int) (ma_cons (me_ix (me_var (i := 0) rfl (.inl v_ptold_0)) (me_int)) (ma_nil))) (lng_cons (lng_cons lng_nil)) (hg := (g_ptold_power _ _ _)))))) (mss_cons (ms_set (i := 4) nd rfl (.inl v_ptold_4) (me_fz (mf_call h_ppower hr (by decide) tk (ma_cons (me_int) (ma_cons (mb_len B.len (ma_cons (me_var (i := 6) rfl (.inl v_ptold_6)) (ma_nil)) (hg := (g_ptold_len _ _ _))) (ma_nil))) (lng_cons (lng_cons lng_nil)) (hg := (g_ptold_power _ _ _))))) (mss_cons (ms_if (mt_cmp (op_neM hr.units) os_ne (me_mod (me_var (i := 3) rfl (.inl v_ptold_3)) (me_var (i := 4) rfl (.inl v_ptold_4))) (me_int) (nomark _)) (mss_one (ms_raise1 xcl1_NoFit_number rfl hr (by decide) tk (g_ptold_NoFit _ _ _) (me_var (i := 1) rfl (.inl v_ptold_1)))) (mss_nil)) (mss_cons (ms_set (i := 3) nd rfl (.inl v_ptold_3) (me_div (me_var (i := 3) rfl (.inl v_ptold_3)) (me_var (i := 4) rfl (.inl v_ptold_4)))) (mss_cons (ms_if (mt_cmp (op_neM hr.units) os_ne (me_var (i := 2) rfl (.inl v_ptold_2)) (me_var (i := 1) rfl (.inl v_ptold_1)) (nomark _)) (mss_one (ms_set (i := 3) nd rfl (.inl v_ptold_3) (me_neg (me_var (i := 3) rfl (.inl v_ptold_3))))) (mss_nil)) (mss_cons (ms_if (mt_not (mt_val (me_fz (mf_call h_pfits hr (by decide) tk (ma_cons (me_var (i := 0) rfl (.inl v_ptold_0)) (ma_cons (me_var (i := 3) rfl (.inl v_ptold_3)) (ma_nil))) (lng_cons (lng_cons lng_nil)) (hg := (g_ptold_fits _ _ _)))))) (mss_one (ms_raise1 xcl1_NoFit_number rfl hr (by decide) tk (g_ptold_NoFit _ _ _) (me_var (i := 1) rfl (.inl v_ptold_1)))) (mss_nil)) (mss_one (ms_ret (me_var (i := 3) rfl (.inl v_ptold_3)))))))))))

abbrev s_pduties : Stmt := top 30
theorem sc_pduties : FnScope ["form", "found"] ["form"] (defScope s_pduties) := ⟨rfl, rfl, rfl, by decide +kernel, rfl, by decide +kernel, by decide +kernel⟩
theorem v_pduties_0 : (defScope s_pduties).names.lookup ("form" : Str) = some NameKind.local := by decide +kernel
theorem v_pduties_1 : (defScope s_pduties).names.lookup ("found" : Str) = some NameKind.local := by decide +kernel
theorem g_pduties_halves_of (L a : Addr) (cd : Value) : (PyProof.Rows.envOfC "duties" (defScope s_pduties) L a cd).kindOf ("halves_of" : Str) = some NameKind.globalImplicit := rfl
theorem g_pduties_int (L a : Addr) (cd : Value) : (PyProof.Rows.envOfC "duties" (defScope s_pduties) L a cd).kindOf ("int" : Str) = some NameKind.globalImplicit := rfl
theorem ok_pduties {P : Program} {w : World} {K : PySem.W.Frag} {mg : Str → Option Value} {base : Heap} {f : Addr} {fd : FuncData} (F : Fun K "duties" "duties" s_pduties f fd) (B : Bn mg) (h_phalves_of : Fd P w K mg base "halves_of" 2 ["form"] [] f_phalves_of)    :
    FnOk P w K mg base (L2N.CX P w) 4 f fd ["form"] (spF K mg 1 [] f_pduties) := by
  refine fn_ok F sc_pduties (by decide) (by decide) fun cdv A outer s H E hr => ?_
  have nd := sc_pduties.nd
  have tk : L2N.Takes (cxOf (L2N.CX P w) P w K mg base ["form", "found"] "duties" (defScope s_pduties) f cdv A outer s H E) (fun cls d _ H => E cls d H) := L2N.takes_of rfl rfl rfl rfl
  have pn : PassesOwn (model P w) (cxOf (L2N.CX P w) P w K mg base ["form", "found"] "duties" (defScope s_pduties) f cdv A outer s H E).A (cxOf (L2N.CX P w) P w K mg base ["form", "found"] "duties" (defScope s_pduties) f cdv A outer s H E).env (cxOf (L2N.CX P w) P w K mg base ["form", "found"] "duties" (defScope s_pduties) f cdv A outer s H E).xe := passes_of rfl
  unfold m_pduties
  exact mss_cons (ms_if (mt_cmp (op_eqM hr.units) os_eq (me_ix (me_var (i := 0) rfl (.inl v_pduties_0)) (me_int)) (me_str) (nomark _)) (mss_one (ms_ret (me_add (me_add (me_mul (me_lst (ma_cons (me_str) (ma_nil))) (me_ix (me_fz (mf_call h_phalves_of hr (by decide) tk (ma_cons (me_var (i := 0) rfl (.inl v_pduties_0)) (ma_nil)) (lng_cons lng_nil) (hg := (g_pduties_halves_of _ _ _)))) (me_int))) (me_mul (me_lst (ma_cons (me_str) (ma_nil))) (me_ix (me_var (i := 0) rfl (.inl v_pduties_0)) (me_int)))) (me_mul (me_lst (ma_cons (me_str) (ma_nil))) (mb_int B.int (ma_cons (me_cmp (op_eqM hr.units) os_eq (me_ix (me_var (i := 0) rfl (.inl v_pduties_0)) (me_int)) (me_str) (nomark _)) (ma_nil)) (hg := (g_pduties_int _ _ _))))))) (mss_nil)) (mss_cons (ms_setO (i := 1) nd rfl (.inl v_pduties_1) (mo_mult (me_lst (ma_cons (me_str) (ma_cons (me_str) (ma_nil)))) (me_ix (me_var (i := 0) rfl (.inl v_pduties_0)) (me_int)))) (mss_cons (ms_if (mt_cmp (op_eqM hr.units) os_eq (me_ix (me_var (i := 0) rfl (.inl v_pduties_0)) (me_int)) (me_str) (nomark _)) (mss_one (ms_setIx (i := 1) rfl (.inl v_pduties_1) (me_str) (me_neg (me_int)))) (mss_nil)) (mss_one (ms_retO (mo_var (i := 1) rfl (.inl v_pduties_1))))))

abbrev s_phalves_in : Stmt := top 29
theorem sc_phalves_in : FnScope ["row", "found", "byte"] ["row"] (defScope s_phalves_in) := ⟨rfl, rfl, rfl, by decide +kernel, rfl, by decide +kernel, by decide +kernel⟩
theorem v_phalves_in_0 : (defScope s_phalves_in).names.lookup ("row" : Str) = some NameKind.local := by decide +kernel
theorem v_phalves_in_1 : (defScope s_phalves_in).names.lookup ("found" : Str) = some NameKind.local := by decide +kernel
theorem v_phalves_in_2 : (defScope s_phalves_in).names.lookup ("byte" : Str) = some NameKind.local := by decide +kernel
theorem ok_phalves_in {P : Program} {w : World} {K : PySem.W.Frag} {mg : Str → Option Value} {base : Heap} {f : Addr} {fd : FuncData} (F : Fun K "halves_in" "halves_in" s_phalves_in f fd) (B : Bn mg)     :
    FnOk P w K mg base (L2N.CX P w) 2 f fd ["row"] (spF K mg 1 [] f_phalves_in) := by
  refine fn_ok F sc_phalves_in (by decide) (by decide) fun cdv A outer s H E hr => ?_
  have nd := sc_phalves_in.nd
  have tk : L2N.Takes (cxOf (L2N.CX P w) P w K mg base ["row", "found", "byte"] "halves_in" (defScope s_phalves_in) f cdv A outer s H E) (fun cls d _ H => E cls d H) := L2N.takes_of rfl rfl rfl rfl
  have pn : PassesOwn (model P w) (cxOf (L2N.CX P w) P w K mg base ["row", "found", "byte"] "halves_in" (defScope s_phalves_in) f cdv A outer s H E).A (cxOf (L2N.CX P w) P w K mg base ["row", "found", "byte"] "halves_in" (defScope s_phalves_in) f cdv A outer s H E).env (cxOf (L2N.CX P w) P w K mg base ["row", "found", "byte"] "halves_in" (defScope s_phalves_in) f cdv A outer s H E).xe := passes_of rfl
  unfold m_phalves_in
  exact mss_cons (ms_setO (i := 1) nd rfl (.inl v_phalves_in_1) (mo_lst (ma_nil))) (mss_cons (ms_for pn rfl (mi_val (me_var (i := 0) rfl (.inl v_phalves_in_0))) (mg_name (i := 2) nd rfl (.inl v_phalves_in_2)) (mss_one (ms_expr (me_lm1 ls_extend PySem.F.slot_list_extend PySem.F.type_list_extend mt_extend (i := 1) rfl (.inl v_phalves_in_1) (ma_cons (me_lst (ma_cons (me_div (me_var (i := 2) rfl (.inl v_phalves_in_2)) (me_int)) (ma_cons (me_mod (me_var (i := 2) rfl (.inl v_phalves_in_2)) (me_int)) (ma_nil)))) (ma_nil)))))) (mss_one (ms_retO (mo_var (i := 1) rfl (.inl v_phalves_in_1)))))

abbrev s_phalf_right : Stmt := top 31
theorem sc_phalf_right : FnScope ["duty", "half"] ["duty", "half"] (defScope s_phalf_right) := ⟨rfl, rfl, rfl, by decide +kernel, rfl, by decide +kernel, by decide +kernel⟩
theorem v_phalf_right_0 : (defScope s_phalf_right).names.lookup ("duty" : Str) = some NameKind.local := by decide +kernel
theorem v_phalf_right_1 : (defScope s_phalf_right).names.lookup ("half" : Str) = some NameKind.local := by decide +kernel
theorem g_phalf_right_ZONE_HALF (L a : Addr) (cd : Value) : (PyProof.Rows.envOfC "half_right" (defScope s_phalf_right) L a cd).kindOf ("ZONE_HALF" : Str) = some NameKind.globalImplicit := rfl
theorem ok_phalf_right {P : Program} {w : World} {K : PySem.W.Frag} {mg : Str → Option Value} {base : Heap} {f : Addr} {fd : FuncData} (F : Fun K "half_right" "half_right" s_phalf_right f fd) (B : Bn mg)    (c_ZONE_HALF : Cst K mg "ZONE_HALF" (.int 15)) :
    FnOk P w K mg base (L2N.CX P w) 2 f fd ["duty", "half"] (spF K mg 2 [] f_phalf_right) := by
  refine fn_ok F sc_phalf_right (by decide) (by decide) fun cdv A outer s H E hr => ?_
  have nd := sc_phalf_right.nd
  have tk : L2N.Takes (cxOf (L2N.CX P w) P w K mg base ["duty", "half"] "half_right" (defScope s_phalf_right) f cdv A outer s H E) (fun cls d _ H => E cls d H) := L2N.takes_of rfl rfl rfl rfl
  have pn : PassesOwn (model P w) (cxOf (L2N.CX P w) P w K mg base ["duty", "half"] "half_right" (defScope s_phalf_right) f cdv A outer s H E).A (cxOf (L2N.CX P w) P w K mg base ["duty", "half"] "half_right" (defScope s_phalf_right) f cdv A outer s H E).env (cxOf (L2N.CX P w) P w K mg base ["duty", "half"] "half_right" (defScope s_phalf_right) f cdv A outer s H E).xe := passes_of rfl
  unfold m_phalf_right
  exact mss_cons (ms_if (mt_cmp (op_eqM hr.units) os_eq (me_var (i := 0) rfl (.inl v_phalf_right_0)) (me_str) (nomark _)) (mss_one (ms_ret (me_cmp (op_eqM hr.units) os_eq (me_var (i := 1) rfl (.inl v_phalf_right_1)) (me_int) (nomark _)))) (mss_nil)) (mss_cons (ms_if (mt_cmp (op_eqM hr.units) os_eq (me_var (i := 0) rfl (.inl v_phalf_right_0)) (me_str) (nomark _)) (mss_one (ms_ret (me_cmp op_lt os_lt (me_var (i := 1) rfl (.inl v_phalf_right_1)) (me_int) (nomark _)))) (mss_nil)) (mss_cons (ms_if (mt_cmp (op_eqM hr.units) os_eq (me_var (i := 0) rfl (.inl v_phalf_right_0)) (me_str) (nomark _)) (mss_one (ms_ret (me_cmp (op_eqM hr.units) os_eq (me_var (i := 1) rfl (.inl v_phalf_right_1)) (mf_con c_ZONE_HALF (hg := (g_phalf_right_ZONE_HALF _ _ _))) (nomark _)))) (mss_nil)) (mss_one (ms_ret (me_cmp op_gt os_gt (me_var (i := 1) rfl (.inl v_phalf_right_1)) (me_int) (nomark _))))))

abbrev s_pcaught : Stmt := top 32
theorem sc_pcaught : FnScope ["form", "row", "due", "halves", "place", "half"] ["form", "row"] (defScope s_pcaught) := ⟨rfl, rfl, rfl, by decide +kernel, rfl, by decide +kernel, by decide +kernel⟩
theorem v_pcaught_0 : (defScope s_pcaught).names.lookup ("form" : Str) = some NameKind.local := by decide +kernel
theorem v_pcaught_1 : (defScope s_pcaught).names.lookup ("row" : Str) = some NameKind.local := by decide +kernel
theorem v_pcaught_2 : (defScope s_pcaught).names.lookup ("due" : Str) = some NameKind.local := by decide +kernel
theorem v_pcaught_3 : (defScope s_pcaught).names.lookup ("halves" : Str) = some NameKind.local := by decide +kernel
theorem v_pcaught_4 : (defScope s_pcaught).names.lookup ("place" : Str) = some NameKind.local := by decide +kernel
theorem v_pcaught_5 : (defScope s_pcaught).names.lookup ("half" : Str) = some NameKind.local := by decide +kernel
theorem g_pcaught_duties (L a : Addr) (cd : Value) : (PyProof.Rows.envOfC "caught" (defScope s_pcaught) L a cd).kindOf ("duties" : Str) = some NameKind.globalImplicit := rfl
theorem g_pcaught_halves_in (L a : Addr) (cd : Value) : (PyProof.Rows.envOfC "caught" (defScope s_pcaught) L a cd).kindOf ("halves_in" : Str) = some NameKind.globalImplicit := rfl
theorem g_pcaught_enumerate (L a : Addr) (cd : Value) : (PyProof.Rows.envOfC "caught" (defScope s_pcaught) L a cd).kindOf ("enumerate" : Str) = some NameKind.globalImplicit := rfl
theorem g_pcaught_len (L a : Addr) (cd : Value) : (PyProof.Rows.envOfC "caught" (defScope s_pcaught) L a cd).kindOf ("len" : Str) = some NameKind.globalImplicit := rfl
theorem g_pcaught_half_right (L a : Addr) (cd : Value) : (PyProof.Rows.envOfC "caught" (defScope s_pcaught) L a cd).kindOf ("half_right" : Str) = some NameKind.globalImplicit := rfl
theorem ok_pcaught {P : Program} {w : World} {K : PySem.W.Frag} {mg : Str → Option Value} {base : Heap} {f : Addr} {fd : FuncData} (F : Fun K "caught" "caught" s_pcaught f fd) (B : Bn mg) (h_pduties : Fd P w K mg base "duties" 4 ["form"] [] f_pduties) (h_phalves_in : Fd P w K mg base "halves_in" 2 ["row"] [] f_phalves_in) (h_phalf_right : Fd P w K mg base "half_right" 2 ["duty", "half"] [] f_phalf_right)    :
    FnOk P w K mg base (L2N.CX P w) 6 f fd ["form", "row"] (spF K mg 2 [] f_pcaught) := by
  refine fn_ok F sc_pcaught (by decide) (by decide) fun cdv A outer s H E hr => ?_
  have nd := sc_pcaught.nd
  have tk : L2N.Takes (cxOf (L2N.CX P w) P w K mg base ["form", "row", "due", "halves", "place", "half"] "caught" (defScope s_pcaught) f cdv A outer s H E) (fun cls d _ H => E cls d H) := L2N.takes_of rfl rfl rfl rfl
  have pn : PassesOwn (model P w) (cxOf (L2N.CX P w) P w K mg base ["form", "row", "due", "halves", "place", "half"] "caught" (defScope s_pcaught) f cdv A outer s H E).A (cxOf (L2N.CX P w) P w K mg base ["form", "row", "due", "halves", "place", "half"] "caught" (defScope s_pcaught) f cdv A outer s H E).env (cxOf (L2N.CX P w) P w K mg base ["form", "row", "due", "halves", "place", "half"] "caught" (defScope s_pcaught) f cdv A outer s H E).xe := passes_of rfl
  unfold m_pcaught
  exact mss_cons (ms_set (i := 2) nd rfl (.inl v_pcaught_2) (me_fz (mf_call h_pduties hr (by decide) tk (ma_cons (me_var (i := 0) rfl (.inl v_pcaught_0)) (ma_nil)) (lng_cons lng_nil) (hg := (g_pcaught_duties _ _ _))))) (mss_cons (ms_set (i := 3) nd rfl (.inl v_pcaught_3) (me_fz (mf_call h_phalves_in hr (by decide) tk (ma_cons (me_var (i := 1) rfl (.inl v_pcaught_1)) (ma_nil)) (lng_cons lng_nil) (hg := (g_pcaught_halves_in _ _ _))))) (mss_cons (ms_for pn rfl (mi_enum B.enumerate (ma_cons (me_var (i := 3) rfl (.inl v_pcaught_3)) (ma_nil)) (hg := (g_pcaught_enumerate _ _ _))) (mg_tup rfl (mgs_cons (mg_name (i := 4) nd rfl (.inl v_pcaught_4)) (mgs_cons (mg_name (i := 5) nd rfl (.inl v_pcaught_5)) (mgs_nil)))) (mss_cons (ms_if (mt_cmp op_ge os_ge (me_var (i := 4) rfl (.inl v_pcaught_4)) (mb_len B.len (ma_cons (me_var (i := 2) rfl (.inl v_pcaught_2)) (ma_nil)) (hg := (g_pcaught_len _ _ _))) (nomark _)) (mss_one (ms_ret (me_tup (ma_cons (me_var (i := 4) rfl (.inl v_pcaught_4)) (ma_cons (me_str) (ma_nil)))))) (mss_nil)) (mss_one (ms_if (mt_not (mt_val (me_fz (mf_call h_phalf_right hr (by decide) tk (ma_cons (me_ix (me_var (i := 2) rfl (.inl v_pcaught_2)) (me_var (i := 4) rfl (.inl v_pcaught_4))) (ma_cons (me_var (i := 5) rfl (.inl v_pcaught_5)) (ma_nil))) (lng_cons (lng_cons lng_nil)) (hg := (g_pcaught_half_right _ _ _)))))) (mss_one (ms_ret (me_tup (ma_cons (me_var (i := 4) rfl (.inl v_pcaught_4)) (ma_cons (me_ix (me_var (i := 2) rfl (.inl v_pcaught_2)) (me_var (i := 4) rfl (.inl v_pcaught_4))) (ma_nil)))))) (mss_nil))))) (mss_cons (ms_if (mt_cmp op_lt os_lt (mb_len B.len (ma_cons (me_var (i := 3) rfl (.inl v_pcaught_3)) (ma_nil)) (hg := (g_pcaught_len _ _ _))) (mb_len B.len (ma_cons (me_var (i := 2) rfl (.inl v_pcaught_2)) (ma_nil)) (hg := (g_pcaught_len _ _ _))) (nomark _)) (mss_one (ms_ret (me_tup (ma_cons (mb_len B.len (ma_cons (me_var (i := 3) rfl (.inl v_pcaught_3)) (ma_nil)) (hg := (g_pcaught_len _ _ _))) (ma_cons (me_str) (ma_nil)))))) (mss_nil)) (mss_one (ms_ret (me_non))))))

abbrev s_pnumber_by : Stmt := top 11
theorem sc_pnumber_by : FnScope ["base", "digits", "found", "digit"] ["base", "digits"] (defScope s_pnumber_by) := ⟨rfl, rfl, rfl, by decide +kernel, rfl, by decide +kernel, by decide +kernel⟩
theorem v_pnumber_by_0 : (defScope s_pnumber_by).names.lookup ("base" : Str) = some NameKind.local := by decide +kernel
theorem v_pnumber_by_1 : (defScope s_pnumber_by).names.lookup ("digits" : Str) = some NameKind.local := by decide +kernel
theorem v_pnumber_by_2 : (defScope s_pnumber_by).names.lookup ("found" : Str) = some NameKind.local := by decide +kernel
theorem v_pnumber_by_3 : (defScope s_pnumber_by).names.lookup ("digit" : Str) = some NameKind.local := by decide +kernel
theorem ok_pnumber_by {P : Program} {w : World} {K : PySem.W.Frag} {mg : Str → Option Value} {base : Heap} {f : Addr} {fd : FuncData} (F : Fun K "number_by" "number_by" s_pnumber_by f fd) (B : Bn mg)     :
    FnOk P w K mg base (L2N.CX P w) 2 f fd ["base", "digits"] (spF K mg 2 [] f_pnumber_by) := by
  refine fn_ok F sc_pnumber_by (by decide) (by decide) fun cdv A outer s H E hr => ?_
  have nd := sc_pnumber_by.nd
  have tk : L2N.Takes (cxOf (L2N.CX P w) P w K mg base ["base", "digits", "found", "digit"] "number_by" (defScope s_pnumber_by) f cdv A outer s H E) (fun cls d _ H => E cls d H) := L2N.takes_of rfl rfl rfl rfl
  have pn : PassesOwn (model P w) (cxOf (L2N.CX P w) P w K mg base ["base", "digits", "found", "digit"] "number_by" (defScope s_pnumber_by) f cdv A outer s H E).A (cxOf (L2N.CX P w) P w K mg base ["base", "digits", "found", "digit"] "number_by" (defScope s_pnumber_by) f cdv A outer s H E).env (cxOf (L2N.CX P w) P w K mg base ["base", "digits", "found", "digit"] "number_by" (defScope s_pnumber_by) f cdv A outer s H E).xe := passes_of rfl
  unfold m_pnumber_by
  exact mss_cons (ms_set (i := 2) nd rfl (.inl v_pnumber_by_2) (me_int)) (mss_cons (ms_for pn rfl (mi_val (me_var (i := 1) rfl (.inl v_pnumber_by_1))) (mg_name (i := 3) nd rfl (.inl v_pnumber_by_3)) (mss_one (ms_set (i := 2) nd rfl (.inl v_pnumber_by_2) (me_add (me_mul (me_var (i := 2) rfl (.inl v_pnumber_by_2)) (me_var (i := 0) rfl (.inl v_pnumber_by_0))) (me_var (i := 3) rfl (.inl v_pnumber_by_3)))))) (mss_one (ms_ret (me_var (i := 2) rfl (.inl v_pnumber_by_2)))))

abbrev s_pnumber_of : Stmt := top 33
theorem sc_pnumber_of : FnScope ["form", "row", "amiss", "due", "halves", "figures", "number", "k"] ["form", "row"] (defScope s_pnumber_of) := ⟨rfl, rfl, rfl, by decide +kernel, rfl, by decide +kernel, by decide +kernel⟩
theorem v_pnumber_of_0 : (defScope s_pnumber_of).names.lookup ("form" : Str) = some NameKind.local := by decide +kernel
theorem v_pnumber_of_1 : (defScope s_pnumber_of).names.lookup ("row" : Str) = some NameKind.local := by decide +kernel
theorem v_pnumber_of_2 : (defScope s_pnumber_of).names.lookup ("amiss" : Str) = some NameKind.local := by decide +kernel
theorem v_pnumber_of_3 : (defScope s_pnumber_of).names.lookup ("due" : Str) = some NameKind.cell := by decide +kernel
theorem v_pnumber_of_4 : (defScope s_pnumber_of).names.lookup ("halves" : Str) = some NameKind.cell := by decide +kernel
theorem v_pnumber_of_5 : (defScope s_pnumber_of).names.lookup ("figures" : Str) = some NameKind.local := by decide +kernel
theorem v_pnumber_of_6 : (defScope s_pnumber_of).names.lookup ("number" : Str) = some NameKind.local := by decide +kernel
theorem g_pnumber_of_caught (L a : Addr) (cd : Value) : (PyProof.Rows.envOfC "number_of" (defScope s_pnumber_of) L a cd).kindOf ("caught" : Str) = some NameKind.globalImplicit := rfl
theorem g_pnumber_of_Wrong (L a : Addr) (cd : Value) : (PyProof.Rows.envOfC "number_of" (defScope s_pnumber_of) L a cd).kindOf ("Wrong" : Str) = some NameKind.globalImplicit := rfl
theorem g_pnumber_of_duties (L a : Addr) (cd : Value) : (PyProof.Rows.envOfC "number_of" (defScope s_pnumber_of) L a cd).kindOf ("duties" : Str) = some NameKind.globalImplicit := rfl
theorem g_pnumber_of_halves_in (L a : Addr) (cd : Value) : (PyProof.Rows.envOfC "number_of" (defScope s_pnumber_of) L a cd).kindOf ("halves_in" : Str) = some NameKind.globalImplicit := rfl
theorem g_pnumber_of_len (L a : Addr) (cd : Value) : (PyProof.Rows.envOfC "number_of" (defScope s_pnumber_of) L a cd).kindOf ("len" : Str) = some NameKind.globalImplicit := rfl
theorem g_pnumber_of_range (L a : Addr) (cd : Value) : (PyProof.Rows.envOfC "number_of" (defScope s_pnumber_of) L a cd).kindOf ("range" : Str) = some NameKind.globalImplicit := rfl
theorem g_pnumber_of_number_by (L a : Addr) (cd : Value) : (PyProof.Rows.envOfC "number_of" (defScope s_pnumber_of) L a cd).kindOf ("number_by" : Str) = some NameKind.globalImplicit := rfl
theorem g_pnumber_of_MINUS_HALVES (L a : Addr) (cd : Value) : (PyProof.Rows.envOfC "number_of" (defScope s_pnumber_of) L a cd).kindOf ("MINUS_HALVES" : Str) = some NameKind.globalImplicit := rfl
theorem g_pnumber_of_power (L a : Addr) (cd : Value) : (PyProof.Rows.envOfC "number_of" (defScope s_pnumber_of) L a cd).kindOf ("power" : Str) = some NameKind.globalImplicit := rfl
theorem ok_pnumber_of {P : Program} {w : World} {K : PySem.W.Frag} {mg : Str → Option Value} {base : Heap} {f : Addr} {fd : FuncData} (F : Fun K "number_of" "number_of" s_pnumber_of f fd) (B : Bn mg) (h_pcaught : Fd P w K mg base "caught" 6 ["form", "row"] [] f_pcaught) (h_pduties : Fd P w K mg base "duties" 4 ["form"] [] f_pduties) (h_phalves_in : Fd P w K mg base "halves_in" 2 ["row"] [] f_phalves_in) (h_pnumber_by : Fd P w K mg base "number_by" 2 ["base", "digits"] [] f_pnumber_by) (h_ppower : Fd P w K mg base "power" 2 ["base", "many"] [] f_ppower)  (xcl2_Wrong_place_why : Cl2 P w K mg base "Wrong" "place" "why") (c_MINUS_HALVES : Cst K mg "MINUS_HALVES" (.tup [(.int 11), (.int 13)])) :
    FnOk P w K mg base (L2N.CX P w) 8 f fd ["form", "row"] (spF K mg 2 [] f_pnumber_of) := by
  refine fn_ok F sc_pnumber_of (by decide) (by decide) fun cdv A outer s H E hr => ?_
  have nd := sc_pnumber_of.nd
  have tk : L2N.Takes (cxOf (L2N.CX P w) P w K mg base ["form", "row", "amiss", "due", "halves", "figures", "number", "k"] "number_of" (defScope s_pnumber_of) f cdv A outer s H E) (fun cls d _ H => E cls d H) := L2N.takes_of rfl rfl rfl rfl
  have pn : PassesOwn (model P w) (cxOf (L2N.CX P w) P w K mg base ["form", "row", "amiss", "due", "halves", "figures", "number", "k"] "number_of" (defScope s_pnumber_of) f cdv A outer s H E).A (cxOf (L2N.CX P w) P w K mg base ["form", "row", "amiss", "due", "halves", "figures", "number", "k"] "number_of" (defScope s_pnumber_of) f cdv A outer s H E).env (cxOf (L2N.CX P w) P w K mg base ["form", "row", "amiss", "due", "halves", "figures", "number", "k"] "number_of" (defScope s_pnumber_of) f cdv A outer s H E).xe := passes_of rfl
  unfold m_pnumber_of
  exact mss_cons (ms_set (i := 2) nd rfl (.inl v_pnumber_of_2) (me_fz (mf_call h_pcaught hr (by decide) tk (ma_cons (me_var (i := 0) rfl (.inl v_pnumber_of_0)) (ma_cons (me_var (i := 1) rfl (.inl v_pnumber_of_1)) (ma_nil))) (lng_cons (lng_cons lng_nil)) (hg := (g_pnumber_of_caught _ _ _))))) (mss_cons (ms_if (mt_cmp op_notN os_notN (me_var (i := 2) rfl (.inl v_pnumber_of_2)) (me_non) (nomark _)) (mss_one (ms_raise2 xcl2_Wrong_place_why rfl hr (by decide) tk (g_pnumber_of_Wrong _ _ _) (me_ix (me_var (i := 2) rfl (.inl v_pnumber_of_2)) (me_int)) (me_ix (me_var (i := 2) rfl (.inl v_pnumber_of_2)) (me_int)))) (mss_nil)) (mss_cons (ms_set (i := 3) nd rfl (.inr v_pnumber_of_3) (me_fz (mf_call h_pduties hr (by decide) tk (ma_cons (me_var (i := 0) rfl (.inl v_pnumber_of_0)) (ma_nil)) (lng_cons lng_nil) (hg := (g_pnumber_of_duties _ _ _))))) (mss_cons (ms_set (i := 4) nd rfl (.inr v_pnumber_of_4) (me_fz (mf_call h_phalves_in hr (by decide) tk (ma_cons (me_var (i := 1) rfl (.inl v_pnumber_of_1)) (ma_nil)) (lng_cons lng_nil) (hg := (g_pnumber_of_halves_in _ _ _))))) (mss_cons (ms_setLc (own := [("k", 7)]) (g := .nm 7) (i := 5) rfl nd rfl v_pnumber_of_5 (sw_true rfl v_pnumber_of_5 rfl (by decide +kernel)) (mi_r1 B.range (ma_cons (mb_len B.len (ma_cons (me_var (i := 3) rfl (.inr (.inl v_pnumber_of_3))) (ma_nil)) (hg := (g_pnumber_of_len _ _ _))) (ma_nil)) (hg := (g_pnumber_of_range _ _ _))) (blkOk_at (N' := ["form", "row", "amiss", "due", "halves", "figures", "number", "k"]) (sc' := defScope s_pnumber_of) rfl rfl (by decide +kernel)) (fun _ _ _ _ _ => pg_name (i := 7) nd rfl (Or.inl rfl)) (fun _ _ _ _ _ => mts_one (mt_cmp (op_eqM hr.units) os_eq (me_ix (me_var (i := 3) rfl (by first | exact .inr (.inr rfl) | exact .inl rfl | exact .inr (.inl rfl))) (me_var (i := 7) rfl (.inl rfl))) (me_str) (nomark _))) (fun _ _ _ _ _ => me_ix (me_var (i := 4) rfl (by first | exact .inr (.inr rfl) | exact .inl rfl | exact .inr (.inl rfl))) (me_var (i := 7) rfl (.inl rfl))) (hbs := hbs_of rfl)) (mss_cons (ms_set (i := 6) nd rfl (.inl v_pnumber_of_6) (me_fz (mf_call h_pnumber_by hr (by decide) tk (ma_cons (me_int) (ma_cons (me_var (i := 5) rfl (.inl v_pnumber_of_5)) (ma_nil))) (lng_cons (lng_cons lng_nil)) (hg := (g_pnumber_of_number_by _ _ _))))) (mss_cons (ms_if (PW.pt (mw_and (mt_cmp (op_eqM hr.units) os_eq (me_ix (me_var (i := 0) rfl (.inl v_pnumber_of_0)) (me_int)) (me_str) (nomark _)) (mw_one_and (mt_cmp op_inM os_in (me_ix (me_var (i := 4) rfl (.inr (.inl v_pnumber_of_4))) (me_lx lx_index PySem.F.slot_list_index PySem.F.type_list_index mt_index (me_var (i := 3) rfl (.inr (.inl v_pnumber_of_3))) (ma_cons (me_str) (ma_nil)))) (mf_con c_MINUS_HALVES (hg := (g_pnumber_of_MINUS_HALVES _ _ _))) rfl)))) (mss_one (ms_ret (me_neg (me_var (i := 6) rfl (.inl v_pnumber_of_6))))) (mss_nil)) (mss_cons (ms_if (PW.pt (mw_and (mt_cmp (op_eqM hr.units) os_eq (me_ix (me_var (i := 0) rfl (.inl v_pnumber_of_0)) (me_int)) (me_str) (nomark _)) (mw_one_and (mt_cmp op_gt os_gt (me_ix (me_var (i := 5) rfl (.inl v_pnumber_of_5)) (me_int)) (me_int) (nomark _))))) (mss_one (ms_ret (me_sub (me_var (i := 6) rfl (.inl v_pnumber_of_6)) (me_fz (mf_call h_ppower hr (by decide) tk (ma_cons (me_int) (ma_cons (me_ix (me_var (i := 0) rfl (.inl v_pnumber_of_0)) (me_int)) (ma_nil))) (lng_cons (lng_cons lng_nil)) (hg := (g_pnumber_of_power _ _ _))))))) (mss_nil)) (mss_one (ms_ret (me_var (i := 6) rfl (.inl v_pnumber_of_6)))))))))))

abbrev s_pbyte_told : Stmt := top 43
theorem sc_pbyte_told : FnScope ["word", "sign"] ["word"] (defScope s_pbyte_told) := ⟨rfl, rfl, rfl, by decide +kernel, rfl, by decide +kernel, by decide +kernel⟩
theorem v_pbyte_told_0 : (defScope s_pbyte_told).names.lookup ("word" : Str) = some NameKind.local := by decide +kernel
theorem g_pbyte_told_len (L a : Addr) (cd : Value) : (PyProof.Rows.envOfC "byte_told" (defScope s_pbyte_told) L a cd).kindOf ("len" : Str) = some NameKind.globalImplicit := rfl
theorem g_pbyte_told_all (L a : Addr) (cd : Value) : (PyProof.Rows.envOfC "byte_told" (defScope s_pbyte_told) L a cd).kindOf ("all" : Str) = some NameKind.globalImplicit := rfl
theorem g_pbyte_told_NoText (L a : Addr) (cd : Value) : (PyProof.Rows.envOfC "byte_told" (defScope s_pbyte_told) L a cd).kindOf ("NoText" : Str) = some NameKind.globalImplicit := rfl
theorem g_pbyte_told_SIGNS_OF_HALVES (L a : Addr) (cd : Value) : (PyProof.Rows.envOfC "byte_told" (defScope s_pbyte_told) L a cd).kindOf ("SIGNS_OF_HALVES" : Str) = some NameKind.globalImplicit := rfl
theorem ok_pbyte_told {P : Program} {w : World} {K : PySem.W.Frag} {mg : Str → Option Value} {base : Heap} {f : Addr} {fd : FuncData} (F : Fun K "byte_told" "byte_told" s_pbyte_told f fd) (B : Bn mg)   (xcl0_NoText : Cl0 K mg "NoText") (c_SIGNS_OF_HALVES : Cst K mg "SIGNS_OF_HALVES" (.str "0123456789ABCDEF")) :
    FnOk P w K mg base (L2N.CX P w) 2 f fd ["word"] (spF K mg 1 [] f_pbyte_told) := by
  refine fn_ok F sc_pbyte_told (by decide) (by decide) fun cdv A outer s H E hr => ?_
  have nd := sc_pbyte_told.nd
  have tk : L2N.Takes (cxOf (L2N.CX P w) P w K mg base ["word", "sign"] "byte_told" (defScope s_pbyte_told) f cdv A outer s H E) (fun cls d _ H => E cls d H) := L2N.takes_of rfl rfl rfl rfl
  have pn : PassesOwn (model P w) (cxOf (L2N.CX P w) P w K mg base ["word", "sign"] "byte_told" (defScope s_pbyte_told) f cdv A outer s H E).A (cxOf (L2N.CX P w) P w K mg base ["word", "sign"] "byte_told" (defScope s_pbyte_told) f cdv A outer s H E).env (cxOf (L2N.CX P w) P w K mg base ["word", "sign"] "byte_told" (defScope s_pbyte_told) f cdv A outer s H E).xe := passes_of rfl
  unfold m_pbyte_told
  exact mss_cons (ms_if (PW.pt (mw_or (mt_cmp (op_neM hr.units) os_ne (mb_len B.len (ma_cons (me_var (i := 0) rfl (.inl v_pbyte_told_0)) (ma_nil)) (hg := (g_pbyte_told_len _ _ _))) (me_int) (nomark _)) (mw_one_or (mt_not (mt_val (mb_all rfl B.all (ma_cons (me_fz (mo_lc (own := [("sign", 1)]) (g := .nm 1) rfl nd (mi_val (me_var (i := 0) rfl (.inl v_pbyte_told_0))) (blkOk_at (N' := ["word", "sign"]) (sc' := defScope s_pbyte_told) rfl rfl (by decide +kernel)) (fun _ _ _ _ _ => pg_name (i := 1) nd rfl (Or.inl rfl)) (fun _ _ _ _ _ => mts_nil) (fun _ _ _ _ _ => me_cmp op_inM os_in (me_var (i := 1) rfl (.inl rfl)) (mf_con c_SIGNS_OF_HALVES (hg := rfl)) rfl) (hbs := hbs_of rfl))) (ma_nil)) (hg := (g_pbyte_told_all _ _ _)))))))) (mss_one (ms_raise0 xcl0_NoText rfl tk (g_pbyte_told_NoText _ _ _))) (mss_nil)) (mss_one (ms_ret (me_add (me_mul (me_int) (me_sm ss_index PySem.F.slot_str_index PySem.F.type_str_index mt_sindex (mf_con c_SIGNS_OF_HALVES (hg := (g_pbyte_told_SIGNS_OF_HALVES _ _ _))) (ma_cons (me_ix (me_var (i := 0) rfl (.inl v_pbyte_told_0)) (me_int)) (ma_nil)))) (me_sm ss_index PySem.F.slot_str_index PySem.F.type_str_index mt_sindex (mf_con c_SIGNS_OF_HALVES (hg := (g_pbyte_told_SIGNS_OF_HALVES _ _ _))) (ma_cons (me_ix (me_var (i := 0) rfl (.inl v_pbyte_told_0)) (me_int)) (ma_nil))))))

abbrev s_punhexed : Stmt := top 44
theorem sc_punhexed : FnScope ["text", "word"] ["text"] (defScope s_punhexed) := ⟨rfl, rfl, rfl, by decide +kernel, rfl, by decide +kernel, by decide +kernel⟩
theorem v_punhexed_0 : (defScope s_punhexed).names.lookup ("text" : Str) = some NameKind.local := by decide +kernel
theorem g_punhexed_tuple (L a : Addr) (cd : Value) : (PyProof.Rows.envOfC "unhexed" (defScope s_punhexed) L a cd).kindOf ("tuple" : Str) = some NameKind.globalImplicit := rfl
theorem ok_punhexed {P : Program} {w : World} {K : PySem.W.Frag} {mg : Str → Option Value} {base : Heap} {f : Addr} {fd : FuncData} (F : Fun K "unhexed" "unhexed" s_punhexed f fd) (B : Bn mg) (h_pbyte_told : Fd P w K mg base "byte_told" 2 ["word"] [] f_pbyte_told)    :
    FnOk P w K mg base (L2N.CX P w) 4 f fd ["text"] (spF K mg 1 [] f_punhexed) := by
  refine fn_ok F sc_punhexed (by decide) (by decide) fun cdv A outer s H E hr => ?_
  have nd := sc_punhexed.nd
  have tk : L2N.Takes (cxOf (L2N.CX P w) P w K mg base ["text", "word"] "unhexed" (defScope s_punhexed) f cdv A outer s H E) (fun cls d _ H => E cls d H) := L2N.takes_of rfl rfl rfl rfl
  have pn : PassesOwn (model P w) (cxOf (L2N.CX P w) P w K mg base ["text", "word"] "unhexed" (defScope s_punhexed) f cdv A outer s H E).A (cxOf (L2N.CX P w) P w K mg base ["text", "word"] "unhexed" (defScope s_punhexed) f cdv A outer s H E).env (cxOf (L2N.CX P w) P w K mg base ["text", "word"] "unhexed" (defScope s_punhexed) f cdv A outer s H E).xe := passes_of rfl
  unfold m_punhexed
  exact mss_cons (ms_if (mt_cmp (op_eqM hr.units) os_eq (me_var (i := 0) rfl (.inl v_punhexed_0)) (me_str) (nomark _)) (mss_one (ms_ret (me_tup (ma_nil)))) (mss_nil)) (mss_one (ms_ret (mb_tuple B.tuple (ma_cons (me_fz (mo_lc (own := [("word", 1)]) (g := .nm 1) rfl nd (mi_val (me_sm ss_split PySem.F.slot_str_split PySem.F.type_str_split mt_split (me_var (i := 0) rfl (.inl v_punhexed_0)) (ma_cons (me_str) (ma_nil)))) (blkOk_at (N' := ["text", "word"]) (sc' := defScope s_punhexed) rfl rfl (by decide +kernel)) (fun _ _ _ _ _ => pg_name (i := 1) nd rfl (Or.inl rfl)) (fun _ _ _ _ _ => mts_nil) (fun _ _ _ _ _ => me_fz (mf_call0 h_pbyte_told hr (by decide) (ma_cons (me_var (i := 1) rfl (.inl rfl)) (ma_nil)) (lng_cons lng_nil) (hg := rfl))) (hbs := hbs_of rfl))) (ma_nil)) (hg := (g_punhexed_tuple _ _ _)))))

abbrev s_phexed : Stmt := top 42
theorem sc_phexed : FnScope ["row", "byte"] ["row"] (defScope s_phexed) := ⟨rfl, rfl, rfl, by decide +kernel, rfl, by decide +kernel, by decide +kernel⟩
theorem v_phexed_0 : (defScope s_phexed).names.lookup ("row" : Str) = some NameKind.local := by decide +kernel
theorem ok_phexed {P : Program} {w : World} {K : PySem.W.Frag} {mg : Str → Option Value} {base : Heap} {f : Addr} {fd : FuncData} (F : Fun K "hexed" "hexed" s_phexed f fd) (B : Bn mg)    (c_SIGNS_OF_HALVES : Cst K mg "SIGNS_OF_HALVES" (.str "0123456789ABCDEF")) :
    FnOk P w K mg base (L2N.CX P w) 2 f fd ["row"] (spF K mg 1 [] f_phexed) := by
  refine fn_ok F sc_phexed (by decide) (by decide) fun cdv A outer s H E hr => ?_
  have nd := sc_phexed.nd
  have tk : L2N.Takes (cxOf (L2N.CX P w) P w K mg base ["row", "byte"] "hexed" (defScope s_phexed) f cdv A outer s H E) (fun cls d _ H => E cls d H) := L2N.takes_of rfl rfl rfl rfl
  have pn : PassesOwn (model P w) (cxOf (L2N.CX P w) P w K mg base ["row", "byte"] "hexed" (defScope s_phexed) f cdv A outer s H E).A (cxOf (L2N.CX P w) P w K mg base ["row", "byte"] "hexed" (defScope s_phexed) f cdv A outer s H E).env (cxOf (L2N.CX P w) P w K mg base ["row", "byte"] "hexed" (defScope s_phexed) f cdv A outer s H E).xe := passes_of rfl
  unfold m_phexed
  exact mss_one (ms_ret (me_sm ss_join PySem.F.slot_str_join PySem.F.type_str_join mt_join (me_str) (ma_cons (me_fz (mo_lc (own := [("byte", 1)]) (g := .nm 1) rfl nd (mi_val (me_var (i := 0) rfl (.inl v_phexed_0))) (blkOk_at (N' := ["row", "byte"]) (sc' := defScope s_phexed) rfl rfl (by decide +kernel)) (fun _ _ _ _ _ => pg_name (i := 1) nd rfl (Or.inl rfl)) (fun _ _ _ _ _ => mts_nil) (fun _ _ _ _ _ => me_add (me_ix (mf_con c_SIGNS_OF_HALVES (hg := rfl)) (me_div (me_var (i := 1) rfl (.inl rfl)) (me_int))) (me_ix (mf_con c_SIGNS_OF_HALVES (hg := rfl)) (me_mod (me_var (i := 1) rfl (.inl rfl)) (me_int)))) (hbs := hbs_of rfl))) (ma_nil))))

abbrev s_law9 : Stmt := top 50
theorem sc_law9 : FnScope ["_law_script", "_law_first", "_law_number", "_law_k", "_law_draws_here", "_law_texts", "_law_kind", "_law_form_here", "_law_here", "_law_row"] ["_law_script"] (defScope s_law9) := ⟨rfl, rfl, rfl, by decide +kernel, rfl, by decide +kernel, by decide +kernel⟩
theorem v_law9_0 : (defScope s_law9).names.lookup ("_law_script" : Str) = some NameKind.local := by decide +kernel
theorem v_law9_1 : (defScope s_law9).names.lookup ("_law_first" : Str) = some NameKind.local := by decide +kernel
theorem v_law9_2 : (defScope s_law9).names.lookup ("_law_number" : Str) = some NameKind.local := by decide +kernel
theorem v_law9_3 : (defScope s_law9).names.lookup ("_law_k" : Str) = some NameKind.local := by decide +kernel
theorem v_law9_4 : (defScope s_law9).names.lookup ("_law_draws_here" : Str) = some NameKind.local := by decide +kernel
theorem v_law9_5 : (defScope s_law9).names.lookup ("_law_texts" : Str) = some NameKind.local := by decide +kernel
theorem v_law9_6 : (defScope s_law9).names.lookup ("_law_kind" : Str) = some NameKind.local := by decide +kernel
theorem v_law9_7 : (defScope s_law9).names.lookup ("_law_form_here" : Str) = some NameKind.local := by decide +kernel
theorem v_law9_8 : (defScope s_law9).names.lookup ("_law_here" : Str) = some NameKind.local := by decide +kernel
theorem v_law9_9 : (defScope s_law9).names.lookup ("_law_row" : Str) = some NameKind.local := by decide +kernel
theorem g_law9_law_cell (L a : Addr) (cd : Value) : (PyProof.Rows.envOfC "law" (defScope s_law9) L a cd).kindOf ("_law_cell" : Str) = some NameKind.globalImplicit := rfl
theorem g_law9_law_draws (L a : Addr) (cd : Value) : (PyProof.Rows.envOfC "law" (defScope s_law9) L a cd).kindOf ("_law_draws" : Str) = some NameKind.globalImplicit := rfl
theorem g_law9_range (L a : Addr) (cd : Value) : (PyProof.Rows.envOfC "law" (defScope s_law9) L a cd).kindOf ("range" : Str) = some NameKind.globalImplicit := rfl
theorem g_law9_law_form (L a : Addr) (cd : Value) : (PyProof.Rows.envOfC "law" (defScope s_law9) L a cd).kindOf ("_law_form" : Str) = some NameKind.globalImplicit := rfl
theorem g_law9_shape (L a : Addr) (cd : Value) : (PyProof.Rows.envOfC "law" (defScope s_law9) L a cd).kindOf ("shape" : Str) = some NameKind.globalImplicit := rfl
theorem g_law9_folded (L a : Addr) (cd : Value) : (PyProof.Rows.envOfC "law" (defScope s_law9) L a cd).kindOf ("folded" : Str) = some NameKind.globalImplicit := rfl
theorem g_law9_kept (L a : Addr) (cd : Value) : (PyProof.Rows.envOfC "law" (defScope s_law9) L a cd).kindOf ("kept" : Str) = some NameKind.globalImplicit := rfl
theorem g_law9_number_of (L a : Addr) (cd : Value) : (PyProof.Rows.envOfC "law" (defScope s_law9) L a cd).kindOf ("number_of" : Str) = some NameKind.globalImplicit := rfl
theorem g_law9_hexed (L a : Addr) (cd : Value) : (PyProof.Rows.envOfC "law" (defScope s_law9) L a cd).kindOf ("hexed" : Str) = some NameKind.globalImplicit := rfl
theorem g_law9_unhexed (L a : Addr) (cd : Value) : (PyProof.Rows.envOfC "law" (defScope s_law9) L a cd).kindOf ("unhexed" : Str) = some NameKind.globalImplicit := rfl
theorem g_law9_written (L a : Addr) (cd : Value) : (PyProof.Rows.envOfC "law" (defScope s_law9) L a cd).kindOf ("written" : Str) = some NameKind.globalImplicit := rfl
theorem g_law9_told (L a : Addr) (cd : Value) : (PyProof.Rows.envOfC "law" (defScope s_law9) L a cd).kindOf ("told" : Str) = some NameKind.globalImplicit := rfl
theorem ok_law9 {P : Program} {w : World} {K : PySem.W.Frag} {mg : Str → Option Value} {base : Heap} {f : Addr} {fd : FuncData} (F : Fun K "law" "law" s_law9 f fd) (B : Bn mg) (h_ldraws : Fd P w K mg base "_law_draws" 4 ["_law_cell_here", "_law_salt", "_law_widths"] [] f_ldraws) (h_lcell : Fd P w K mg base "_law_cell" 2 ["_law_script", "_law_k"] [] f_lcell) (h_lform : Fd P w K mg base "_law_form" 2 ["_law_kind", "_law_many", "_law_sign"] [] f_lform) (h_pshape : Fd P w K mg base "shape" 4 ["kind", "figures", "sign", "point"] [] f_pshape) (h_pfolded : Fd P w K mg base "folded" 6 ["form", "number"] [] f_pfolded) (h_pkept : Fd P w K mg base "kept" 8 ["form", "number"] [] f_pkept) (h_pnumber_of : Fd P w K mg base "number_of" 8 ["form", "row"] [] f_pnumber_of) (h_punhexed : Fd P w K mg base "unhexed" 4 ["text"] [] f_punhexed) (h_phexed : Fd P w K mg base "hexed" 2 ["row"] [] f_phexed) (h_pwritten : Fd P w K mg base "written" 8 ["form", "number"] [] f_pwritten) (h_ptold : Fd P w K mg base "told" 8 ["form", "text"] [] f_ptold)    :
    FnOk P w K mg base (L2N.CX P w) 10 f fd ["_law_script"] (spF K mg 1 [] f_law9) := by
  refine fn_ok F sc_law9 (by decide) (by decide) fun cdv A outer s H E hr => ?_
  have nd := sc_law9.nd
  have tk : L2N.Takes (cxOf (L2N.CX P w) P w K mg base ["_law_script", "_law_first", "_law_number", "_law_k", "_law_draws_here", "_law_texts", "_law_kind", "_law_form_here", "_law_here", "_law_row"] "law" (defScope s_law9) f cdv A outer s H E) (fun cls d _ H => E cls d H) := L2N.takes_of rfl rfl rfl rfl
  have pn : PassesOwn (model P w) (cxOf (L2N.CX P w) P w K mg base ["_law_script", "_law_first", "_law_number", "_law_k", "_law_draws_here", "_law_texts", "_law_kind", "_law_form_here", "_law_here", "_law_row"] "law" (defScope s_law9) f cdv A outer s H E).A (cxOf (L2N.CX P w) P w K mg base ["_law_script", "_law_first", "_law_number", "_law_k", "_law_draws_here", "_law_texts", "_law_kind", "_law_form_here", "_law_here", "_law_row"] "law" (defScope s_law9) f cdv A outer s H E).env (cxOf (L2N.CX P w) P w K mg base ["_law_script", "_law_first", "_law_number", "_law_k", "_law_draws_here", "_law_texts", "_law_kind", "_law_form_here", "_law_here", "_law_row"] "law" (defScope s_law9) f cdv A outer s H E).xe := passes_of rfl
  unfold m_law9
  exact mss_cons (ms_set (i := 1) nd rfl (.inl v_law9_1) (me_fz (mf_call h_ldraws hr (by decide) tk (ma_cons (me_fz (mf_call h_lcell hr (by decide) tk (ma_cons (me_var (i := 0) rfl (.inl v_law9_0)) (ma_cons (me_int) (ma_nil))) (lng_cons (lng_cons lng_nil)) (hg := (g_law9_law_cell _ _ _)))) (ma_cons (me_int) (ma_cons (me_lst (ma_cons (me_int) (ma_cons (me_pow (me_int) (me_int)) (ma_cons (me_pow (me_int) (me_int)) (ma_cons (me_int) (ma_nil)))))) (ma_nil)))) (lng_cons (lng_cons (lng_cons lng_nil))) (hg := (g_law9_law_draws _ _ _))))) (mss_cons (ms_set (i := 2) nd rfl (.inl v_law9_2) (me_mul (me_ix (me_lst (ma_cons (me_ix (me_var (i := 1) rfl (.inl v_law9_1)) (me_int)) (ma_cons (me_ix (me_var (i := 1) rfl (.inl v_law9_1)) (me_int)) (ma_cons (me_mod (me_ix (me_var (i := 1) rfl (.inl v_law9_1)) (me_int)) (me_int)) (ma_cons (me_div (me_ix (me_var (i := 1) rfl (.inl v_law9_1)) (me_int)) (me_pow (me_int) (me_int))) (ma_nil)))))) (me_ix (me_var (i := 1) rfl (.inl v_law9_1)) (me_int))) (me_sub (me_int) (me_mul (me_int) (me_ix (me_var (i := 1) rfl (.inl v_law9_1)) (me_int)))))) (mss_cons (ms_for pn rfl (mi_r1 B.range (ma_cons (me_int) (ma_nil)) (hg := (g_law9_range _ _ _))) (mg_name (i := 3) nd rfl (.inl v_law9_3)) (mss_cons (ms_set (i := 4) nd rfl (.inl v_law9_4) (me_fz (mf_call h_ldraws hr (by decide) tk (ma_cons (me_fz (mf_call h_lcell hr (by decide) tk (ma_cons (me_var (i := 0) rfl (.inl v_law9_0)) (ma_cons (me_add (me_int) (me_var (i := 3) rfl (.inl v_law9_3))) (ma_nil))) (lng_cons (lng_cons lng_nil)) (hg := (g_law9_law_cell _ _ _)))) (ma_cons (me_add (me_int) (me_var (i := 3) rfl (.inl v_law9_3))) (ma_cons (me_lst (ma_cons (me_int) (ma_cons (me_int) (ma_cons (me_int) (ma_nil))))) (ma_nil)))) (lng_cons (lng_cons (lng_cons lng_nil))) (hg := (g_law9_law_draws _ _ _))))) (mss_cons (ms_setO (i := 5) nd rfl (.inl v_law9_5) (mo_lst (ma_nil))) (mss_cons (ms_for pn rfl (mi_r1 B.range (ma_cons (me_int) (ma_nil)) (hg := (g_law9_range _ _ _))) (mg_name (i := 6) nd rfl (.inl v_law9_6)) (mss_cons (ms_set (i := 7) nd rfl (.inl v_law9_7) (me_fz (mf_call h_lform hr (by decide) tk (ma_cons (me_var (i := 6) rfl (.inl v_law9_6)) (ma_cons (me_ix (me_var (i := 4) rfl (.inl v_law9_4)) (me_int)) (ma_cons (me_ix (me_var (i := 4) rfl (.inl v_law9_4)) (me_int)) (ma_nil)))) (lng_cons (lng_cons (lng_cons lng_nil))) (hg := (g_law9_law_form _ _ _))))) (mss_cons (ms_set (i := 7) nd rfl (.inl v_law9_7) (me_fz (mf_call h_pshape hr (by decide) tk (ma_cons (me_ix (me_var (i := 7) rfl (.inl v_law9_7)) (me_int)) (ma_cons (me_ix (me_var (i := 7) rfl (.inl v_law9_7)) (me_int)) (ma_cons (me_ix (me_var (i := 7) rfl (.inl v_law9_7)) (me_int)) (ma_cons (me_mod (me_ix (me_var (i := 4) rfl (.inl v_law9_4)) (me_int)) (me_add (me_int) (me_ix (me_var (i := 4) rfl (.inl v_law9_4)) (me_int)))) (ma_nil))))) (lng_cons (lng_cons (lng_cons (lng_cons lng_nil)))) (hg := (g_law9_shape _ _ _))))) (mss_cons (ms_set (i := 8) nd rfl (.inl v_law9_8) (me_fz (mf_call h_pfolded hr (by decide) tk (ma_cons (me_var (i := 7) rfl (.inl v_law9_7)) (ma_cons (me_var (i := 2) rfl (.inl v_law9_2)) (ma_nil))) (lng_cons (lng_cons lng_nil)) (hg := (g_law9_folded _ _ _))))) (mss_cons (ms_set (i := 9) nd rfl (.inl v_law9_9) (me_fz (mf_call h_pkept hr (by decide) tk (ma_cons (me_var (i := 7) rfl (.inl v_law9_7)) (ma_cons (me_var (i := 8) rfl (.inl v_law9_8)) (ma_nil))) (lng_cons (lng_cons lng_nil)) (hg := (g_law9_kept _ _ _))))) (mss_cons (ms_if (PW.pt (mw_or (mt_cmp (op_neM hr.units) os_ne (me_fz (mf_call h_pnumber_of hr (by decide) tk (ma_cons (me_var (i := 7) rfl (.inl v_law9_7)) (ma_cons (me_var (i := 9) rfl (.inl v_law9_9)) (ma_nil))) (lng_cons (lng_cons lng_nil)) (hg := (g_law9_number_of _ _ _)))) (me_var (i := 8) rfl (.inl v_law9_8)) (nomark _)) (mw_or (mt_cmp (op_neM hr.units) os_ne (me_fz (mf_call h_punhexed hr (by decide) tk (ma_cons (me_fz (mf_call h_phexed hr (by decide) tk (ma_cons (me_var (i := 9) rfl (.inl v_law9_9)) (ma_nil)) (lng_cons lng_nil) (hg := (g_law9_hexed _ _ _)))) (ma_nil)) (lng_cons lng_nil) (hg := (g_law9_unhexed _ _ _)))) (me_var (i := 9) rfl (.inl v_law9_9)) (nomark _)) (mw_one_or (mt_cmp (op_neM hr.units) os_ne (me_fz (mf_call h_pfolded hr (by decide) tk (ma_cons (me_var (i := 7) rfl (.inl v_law9_7)) (ma_cons (me_var (i := 8) rfl (.inl v_law9_8)) (ma_nil))) (lng_cons (lng_cons lng_nil)) (hg := (g_law9_folded _ _ _)))) (me_var (i := 8) rfl (.inl v_law9_8)) (nomark _)))))) (mss_one (ms_ret (me_bl))) (mss_nil)) (mss_cons (ms_expr (me_lm1 ls_append PySem.F.slot_list_append PySem.F.type_list_append mt_append (i := 5) rfl (.inl v_law9_5) (ma_cons (me_fz (mf_call h_pwritten hr (by decide) tk (ma_cons (me_var (i := 7) rfl (.inl v_law9_7)) (ma_cons (me_var (i := 8) rfl (.inl v_law9_8)) (ma_nil))) (lng_cons (lng_cons lng_nil)) (hg := (g_law9_written _ _ _)))) (ma_nil)))) (mss_one (ms_if (mt_cmp (op_neM hr.units) os_ne (me_fz (mf_call h_ptold hr (by decide) tk (ma_cons (me_var (i := 7) rfl (.inl v_law9_7)) (ma_cons (me_ixV (i := 5) rfl (.inl v_law9_5) (me_var (i := 6) rfl (.inl v_law9_6))) (ma_nil))) (lng_cons (lng_cons lng_nil)) (hg := (g_law9_told _ _ _)))) (me_var (i := 8) rfl (.inl v_law9_8)) (nomark _)) (mss_one (ms_ret (me_bl))) (mss_nil)))))))))) (mss_one (ms_if (mt_cmp (op_neM hr.units) os_ne (me_ixV (i := 5) rfl (.inl v_law9_5) (me_int)) (me_ixV (i := 5) rfl (.inl v_law9_5) (me_int)) (nomark _)) (mss_one (ms_ret (me_bl))) (mss_nil))))))) (mss_one (ms_ret (me_bl)))))

theorem all_mk {l : PySem.W.OpenLaw} {w : World} {K : PySem.W.Frag} {h : Heap} {mg : Str → Option Value} {fa f0 f1 f2 f3 f4 f5 f6 f7 f8 f9 f10 f11 f12 f13 f14 f15 f16 f17 f18 f19 f20 f21 f22 f23 f24 f25 f26 f27 f28 : Addr} (X : K.In h) (G : h.Ns mainGlobals mg) (hfa : mg "law" = some (.ref fa))
    {od0 an0 od1 an1 od2 an2 od3 an3 od4 an4 od5 an5 od6 an6 od7 an7 od8 an8 od9 an9 od10 an10 od11 an11 od12 an12 od13 an13 od14 an14 od15 an15 od16 an16 od17 an17 od18 an18 od19 an19 od20 an20 od21 an21 od22 an22 od23 an23 od24 an24 od25 an25 od26 an26 od27 an27 od28 an28 : Option Addr} {sl0 sl1 sl2 sl3 sl4 sl5 sl6 sl7 sl8 sl9 sl10 sl11 sl12 sl13 sl14 sl15 sl16 sl17 sl18 sl19 sl20 sl21 sl22 sl23 sl24 sl25 sl26 sl27 sl28 : Array (Option Value)} {oc0 kV0 dc0 pm0 cd0 ct0 oc1 kV1 dc1 pm1 cd1 ct1 oc2 kV2 dc2 pm2 cd2 ct2 oc3 kV3 dc3 pm3 cd3 ct3 oc4 kV4 dc4 pm4 cd4 ct4 oc5 kV5 dc5 pm5 cd5 ct5 oc6 kV6 dc6 pm6 cd6 ct6 oc7 kV7 dc7 pm7 cd7 ct7 oc8 kV8 dc8 pm8 cd8 ct8 oc9 kV9 dc9 pm9 cd9 ct9 oc10 kV10 dc10 pm10 cd10 ct10 oc11 kV11 dc11 pm11 cd11 ct11 oc12 kV12 dc12 pm12 cd12 ct12 oc13 kV13 dc13 pm13 cd13 ct13 oc14 kV14 dc14 pm14 cd14 ct14 oc15 kV15 dc15 pm15 cd15 ct15 oc16 kV16 dc16 pm16 cd16 ct16 oc17 kV17 dc17 pm17 cd17 ct17 oc18 kV18 dc18 pm18 cd18 ct18 oc19 kV19 dc19 pm19 cd19 ct19 oc20 kV20 dc20 pm20 cd20 ct20 oc21 kV21 dc21 pm21 cd21 ct21 oc22 kV22 dc22 pm22 cd22 ct22 oc23 kV23 dc23 pm23 cd23 ct23 oc24 kV24 dc24 pm24 cd24 ct24 oc25 kV25 dc25 pm25 cd25 ct25 oc26 kV26 dc26 pm26 cd26 ct26 oc27 kV27 dc27 pm27 cd27 ct27 oc28 kV28 dc28 pm28 cd28 ct28 : Value}
    (a0 : PySem.W.nsIn K mainGlobals "_law_mixed" = some (some (.ref f0))) (l0 : K.lookup f0 = some ⟨oc0, od0, .func (PySem.W.fnOf "_law_mixed" "_law_mixed" (defArgs s_lmixed) (defBody s_lmixed) (defScope s_lmixed) .none kV0 dc0 pm0 an0 cd0 ct0), sl0⟩) (c0 : PySem.W.codeIn K cd0 "_law_mixed" = true) (k0 : PySem.W.keepIn K (.ref f0) = true)
    (a1 : PySem.W.nsIn K mainGlobals "_law_draws" = some (some (.ref f1))) (l1 : K.lookup f1 = some ⟨oc1, od1, .func (PySem.W.fnOf "_law_draws" "_law_draws" (defArgs s_ldraws) (defBody s_ldraws) (defScope s_ldraws) .none kV1 dc1 pm1 an1 cd1 ct1), sl1⟩) (c1 : PySem.W.codeIn K cd1 "_law_draws" = true) (k1 : PySem.W.keepIn K (.ref f1) = true)
    (a2 : PySem.W.nsIn K mainGlobals "_law_cell" = some (some (.ref f2))) (l2 : K.lookup f2 = some ⟨oc2, od2, .func (PySem.W.fnOf "_law_cell" "_law_cell" (defArgs s_lcell) (defBody s_lcell) (defScope s_lcell) .none kV2 dc2 pm2 an2 cd2 ct2), sl2⟩) (c2 : PySem.W.codeIn K cd2 "_law_cell" = true) (k2 : PySem.W.keepIn K (.ref f2) = true)
    (a3 : PySem.W.nsIn K mainGlobals "_law_form" = some (some (.ref f3))) (l3 : K.lookup f3 = some ⟨oc3, od3, .func (PySem.W.fnOf "_law_form" "_law_form" (defArgs s_lform) (defBody s_lform) (defScope s_lform) .none kV3 dc3 pm3 an3 cd3 ct3), sl3⟩) (c3 : PySem.W.codeIn K cd3 "_law_form" = true) (k3 : PySem.W.keepIn K (.ref f3) = true)
    (a4 : PySem.W.nsIn K mainGlobals "shape" = some (some (.ref f4))) (l4 : K.lookup f4 = some ⟨oc4, od4, .func (PySem.W.fnOf "shape" "shape" (defArgs s_pshape) (defBody s_pshape) (defScope s_pshape) .none kV4 dc4 pm4 an4 cd4 ct4), sl4⟩) (c4 : PySem.W.codeIn K cd4 "shape" = true) (k4 : PySem.W.keepIn K (.ref f4) = true)
    (a5 : PySem.W.nsIn K mainGlobals "power" = some (some (.ref f5))) (l5 : K.lookup f5 = some ⟨oc5, od5, .func (PySem.W.fnOf "power" "power" (defArgs s_ppower) (defBody s_ppower) (defScope s_ppower) .none kV5 dc5 pm5 an5 cd5 ct5), sl5⟩) (c5 : PySem.W.codeIn K cd5 "power" = true) (k5 : PySem.W.keepIn K (.ref f5) = true)
    (a6 : PySem.W.nsIn K mainGlobals "least_of" = some (some (.ref f6))) (l6 : K.lookup f6 = some ⟨oc6, od6, .func (PySem.W.fnOf "least_of" "least_of" (defArgs s_pleast_of) (defBody s_pleast_of) (defScope s_pleast_of) .none kV6 dc6 pm6 an6 cd6 ct6), sl6⟩) (c6 : PySem.W.codeIn K cd6 "least_of" = true) (k6 : PySem.W.keepIn K (.ref f6) = true)
    (a7 : PySem.W.nsIn K mainGlobals "folded" = some (some (.ref f7))) (l7 : K.lookup f7 = some ⟨oc7, od7, .func (PySem.W.fnOf "folded" "folded" (defArgs s_pfolded) (defBody s_pfolded) (defScope s_pfolded) .none kV7 dc7 pm7 an7 cd7 ct7), sl7⟩) (c7 : PySem.W.codeIn K cd7 "folded" = true) (k7 : PySem.W.keepIn K (.ref f7) = true)
    (a8 : PySem.W.nsIn K mainGlobals "figures_of" = some (some (.ref f8))) (l8 : K.lookup f8 = some ⟨oc8, od8, .func (PySem.W.fnOf "figures_of" "figures_of" (defArgs s_pfigures_of) (defBody s_pfigures_of) (defScope s_pfigures_of) .none kV8 dc8 pm8 an8 cd8 ct8), sl8⟩) (c8 : PySem.W.codeIn K cd8 "figures_of" = true) (k8 : PySem.W.keepIn K (.ref f8) = true)
    (a9 : PySem.W.nsIn K mainGlobals "sign_half" = some (some (.ref f9))) (l9 : K.lookup f9 = some ⟨oc9, od9, .func (PySem.W.fnOf "sign_half" "sign_half" (defArgs s_psign_half) (defBody s_psign_half) (defScope s_psign_half) .none kV9 dc9 pm9 an9 cd9 ct9), sl9⟩) (c9 : PySem.W.codeIn K cd9 "sign_half" = true) (k9 : PySem.W.keepIn K (.ref f9) = true)
    (a10 : PySem.W.nsIn K mainGlobals "halves_of" = some (some (.ref f10))) (l10 : K.lookup f10 = some ⟨oc10, od10, .func (PySem.W.fnOf "halves_of" "halves_of" (defArgs s_phalves_of) (defBody s_phalves_of) (defScope s_phalves_of) .none kV10 dc10 pm10 an10 cd10 ct10), sl10⟩) (c10 : PySem.W.codeIn K cd10 "halves_of" = true) (k10 : PySem.W.keepIn K (.ref f10) = true)
    (a11 : PySem.W.nsIn K mainGlobals "kept_halves" = some (some (.ref f11))) (l11 : K.lookup f11 = some ⟨oc11, od11, .func (PySem.W.fnOf "kept_halves" "kept_halves" (defArgs s_pkept_halves) (defBody s_pkept_halves) (defScope s_pkept_halves) .none kV11 dc11 pm11 an11 cd11 ct11), sl11⟩) (c11 : PySem.W.codeIn K cd11 "kept_halves" = true) (k11 : PySem.W.keepIn K (.ref f11) = true)
    (a12 : PySem.W.nsIn K mainGlobals "most_of" = some (some (.ref f12))) (l12 : K.lookup f12 = some ⟨oc12, od12, .func (PySem.W.fnOf "most_of" "most_of" (defArgs s_pmost_of) (defBody s_pmost_of) (defScope s_pmost_of) .none kV12 dc12 pm12 an12 cd12 ct12), sl12⟩) (c12 : PySem.W.codeIn K cd12 "most_of" = true) (k12 : PySem.W.keepIn K (.ref f12) = true)
    (a13 : PySem.W.nsIn K mainGlobals "fits" = some (some (.ref f13))) (l13 : K.lookup f13 = some ⟨oc13, od13, .func (PySem.W.fnOf "fits" "fits" (defArgs s_pfits) (defBody s_pfits) (defScope s_pfits) .none kV13 dc13 pm13 an13 cd13 ct13), sl13⟩) (c13 : PySem.W.codeIn K cd13 "fits" = true) (k13 : PySem.W.keepIn K (.ref f13) = true)
    (a14 : PySem.W.nsIn K mainGlobals "kept" = some (some (.ref f14))) (l14 : K.lookup f14 = some ⟨oc14, od14, .func (PySem.W.fnOf "kept" "kept" (defArgs s_pkept) (defBody s_pkept) (defScope s_pkept) .none kV14 dc14 pm14 an14 cd14 ct14), sl14⟩) (c14 : PySem.W.codeIn K cd14 "kept" = true) (k14 : PySem.W.keepIn K (.ref f14) = true)
    (a15 : PySem.W.nsIn K mainGlobals "written" = some (some (.ref f15))) (l15 : K.lookup f15 = some ⟨oc15, od15, .func (PySem.W.fnOf "written" "written" (defArgs s_pwritten) (defBody s_pwritten) (defScope s_pwritten) .none kV15 dc15 pm15 an15 cd15 ct15), sl15⟩) (c15 : PySem.W.codeIn K cd15 "written" = true) (k15 : PySem.W.keepIn K (.ref f15) = true)
    (a16 : PySem.W.nsIn K mainGlobals "is_figures" = some (some (.ref f16))) (l16 : K.lookup f16 = some ⟨oc16, od16, .func (PySem.W.fnOf "is_figures" "is_figures" (defArgs s_pis_figures) (defBody s_pis_figures) (defScope s_pis_figures) .none kV16 dc16 pm16 an16 cd16 ct16), sl16⟩) (c16 : PySem.W.codeIn K cd16 "is_figures" = true) (k16 : PySem.W.keepIn K (.ref f16) = true)
    (a17 : PySem.W.nsIn K mainGlobals "parts_of" = some (some (.ref f17))) (l17 : K.lookup f17 = some ⟨oc17, od17, .func (PySem.W.fnOf "parts_of" "parts_of" (defArgs s_pparts_of) (defBody s_pparts_of) (defScope s_pparts_of) .none kV17 dc17 pm17 an17 cd17 ct17), sl17⟩) (c17 : PySem.W.codeIn K cd17 "parts_of" = true) (k17 : PySem.W.keepIn K (.ref f17) = true)
    (a18 : PySem.W.nsIn K mainGlobals "told" = some (some (.ref f18))) (l18 : K.lookup f18 = some ⟨oc18, od18, .func (PySem.W.fnOf "told" "told" (defArgs s_ptold) (defBody s_ptold) (defScope s_ptold) .none kV18 dc18 pm18 an18 cd18 ct18), sl18⟩) (c18 : PySem.W.codeIn K cd18 "told" = true) (k18 : PySem.W.keepIn K (.ref f18) = true)
    (a19 : PySem.W.nsIn K mainGlobals "duties" = some (some (.ref f19))) (l19 : K.lookup f19 = some ⟨oc19, od19, .func (PySem.W.fnOf "duties" "duties" (defArgs s_pduties) (defBody s_pduties) (defScope s_pduties) .none kV19 dc19 pm19 an19 cd19 ct19), sl19⟩) (c19 : PySem.W.codeIn K cd19 "duties" = true) (k19 : PySem.W.keepIn K (.ref f19) = true)
    (a20 : PySem.W.nsIn K mainGlobals "halves_in" = some (some (.ref f20))) (l20 : K.lookup f20 = some ⟨oc20, od20, .func (PySem.W.fnOf "halves_in" "halves_in" (defArgs s_phalves_in) (defBody s_phalves_in) (defScope s_phalves_in) .none kV20 dc20 pm20 an20 cd20 ct20), sl20⟩) (c20 : PySem.W.codeIn K cd20 "halves_in" = true) (k20 : PySem.W.keepIn K (.ref f20) = true)
    (a21 : PySem.W.nsIn K mainGlobals "half_right" = some (some (.ref f21))) (l21 : K.lookup f21 = some ⟨oc21, od21, .func (PySem.W.fnOf "half_right" "half_right" (defArgs s_phalf_right) (defBody s_phalf_right) (defScope s_phalf_right) .none kV21 dc21 pm21 an21 cd21 ct21), sl21⟩) (c21 : PySem.W.codeIn K cd21 "half_right" = true) (k21 : PySem.W.keepIn K (.ref f21) = true)
    (a22 : PySem.W.nsIn K mainGlobals "caught" = some (some (.ref f22))) (l22 : K.lookup f22 = some ⟨oc22, od22, .func (PySem.W.fnOf "caught" "caught" (defArgs s_pcaught) (defBody s_pcaught) (defScope s_pcaught) .none kV22 dc22 pm22 an22 cd22 ct22), sl22⟩) (c22 : PySem.W.codeIn K cd22 "caught" = true) (k22 : PySem.W.keepIn K (.ref f22) = true)
    (a23 : PySem.W.nsIn K mainGlobals "number_by" = some (some (.ref f23))) (l23 : K.lookup f23 = some ⟨oc23, od23, .func (PySem.W.fnOf "number_by" "number_by" (defArgs s_pnumber_by) (defBody s_pnumber_by) (defScope s_pnumber_by) .none kV23 dc23 pm23 an23 cd23 ct23), sl23⟩) (c23 : PySem.W.codeIn K cd23 "number_by" = true) (k23 : PySem.W.keepIn K (.ref f23) = true)
    (a24 : PySem.W.nsIn K mainGlobals "number_of" = some (some (.ref f24))) (l24 : K.lookup f24 = some ⟨oc24, od24, .func (PySem.W.fnOf "number_of" "number_of" (defArgs s_pnumber_of) (defBody s_pnumber_of) (defScope s_pnumber_of) .none kV24 dc24 pm24 an24 cd24 ct24), sl24⟩) (c24 : PySem.W.codeIn K cd24 "number_of" = true) (k24 : PySem.W.keepIn K (.ref f24) = true)
    (a25 : PySem.W.nsIn K mainGlobals "byte_told" = some (some (.ref f25))) (l25 : K.lookup f25 = some ⟨oc25, od25, .func (PySem.W.fnOf "byte_told" "byte_told" (defArgs s_pbyte_told) (defBody s_pbyte_told) (defScope s_pbyte_told) .none kV25 dc25 pm25 an25 cd25 ct25), sl25⟩) (c25 : PySem.W.codeIn K cd25 "byte_told" = true) (k25 : PySem.W.keepIn K (.ref f25) = true)
    (a26 : PySem.W.nsIn K mainGlobals "unhexed" = some (some (.ref f26))) (l26 : K.lookup f26 = some ⟨oc26, od26, .func (PySem.W.fnOf "unhexed" "unhexed" (defArgs s_punhexed) (defBody s_punhexed) (defScope s_punhexed) .none kV26 dc26 pm26 an26 cd26 ct26), sl26⟩) (c26 : PySem.W.codeIn K cd26 "unhexed" = true) (k26 : PySem.W.keepIn K (.ref f26) = true)
    (a27 : PySem.W.nsIn K mainGlobals "hexed" = some (some (.ref f27))) (l27 : K.lookup f27 = some ⟨oc27, od27, .func (PySem.W.fnOf "hexed" "hexed" (defArgs s_phexed) (defBody s_phexed) (defScope s_phexed) .none kV27 dc27 pm27 an27 cd27 ct27), sl27⟩) (c27 : PySem.W.codeIn K cd27 "hexed" = true) (k27 : PySem.W.keepIn K (.ref f27) = true)
    (a28 : PySem.W.nsIn K mainGlobals "law" = some (some (.ref f28))) (l28 : K.lookup f28 = some ⟨oc28, od28, .func (PySem.W.fnOf "law" "law" (defArgs s_law9) (defBody s_law9) (defScope s_law9) .none kV28 dc28 pm28 an28 cd28 ct28), sl28⟩) (c28 : PySem.W.codeIn K cd28 "law" = true) (k28 : PySem.W.keepIn K (.ref f28) = true)
    (z_len : PySem.W.nsIn K mainGlobals "len" = some none)
    (z_range : PySem.W.nsIn K mainGlobals "range" = some none)
    (z_abs : PySem.W.nsIn K mainGlobals "abs" = some none)
    (z_max : PySem.W.nsIn K mainGlobals "max" = some none)
    (z_min : PySem.W.nsIn K mainGlobals "min" = some none)
    (z_int : PySem.W.nsIn K mainGlobals "int" = some none)
    (z_str : PySem.W.nsIn K mainGlobals "str" = some none)
    (z_tuple : PySem.W.nsIn K mainGlobals "tuple" = some none)
    (z_list : PySem.W.nsIn K mainGlobals "list" = some none)
    (z_all : PySem.W.nsIn K mainGlobals "all" = some none)
    (z_any : PySem.W.nsIn K mainGlobals "any" = some none)
    (z_isinstance : PySem.W.nsIn K mainGlobals "isinstance" = some none)
    (z_divmod : PySem.W.nsIn K mainGlobals "divmod" = some none)
    (z_sum : PySem.W.nsIn K mainGlobals "sum" = some none)
    (z_zip : PySem.W.nsIn K mainGlobals "zip" = some none)
    (z_enumerate : PySem.W.nsIn K mainGlobals "enumerate" = some none)
    (z_reversed : PySem.W.nsIn K mainGlobals "reversed" = some none)
    (z_sorted : PySem.W.nsIn K mainGlobals "sorted" = some none)
    (z_dict : PySem.W.nsIn K mainGlobals "dict" = some none)
    (z_set : PySem.W.nsIn K mainGlobals "set" = some none)
    (z_bool : PySem.W.nsIn K mainGlobals "bool" = some none)
    {q_KINDS : Addr} {qd_KINDS : Option Addr} {qi_KINDS : Array Value} {qn_KINDS : Nat} {qs_KINDS : Array (Option Value)} (qa_KINDS : PySem.W.nsIn K mainGlobals "KINDS" = some (some (.ref q_KINDS))) (ql_KINDS : K.lookup q_KINDS = some ⟨.type "tuple", qd_KINDS, .seq qi_KINDS qn_KINDS, qs_KINDS⟩) (qe_KINDS : flatsIs [(.str "packed"), (.str "spread")] qi_KINDS.toList = true) (qz_KINDS : qi_KINDS.size ≤ 1000)
    {qt_MOST_FIGURES : Tok} (qa_MOST_FIGURES : PySem.W.nsIn K mainGlobals "MOST_FIGURES" = some (some (.int 12 qt_MOST_FIGURES)))
    {q_SIGNS : Addr} {qd_SIGNS : Option Addr} {qi_SIGNS : Array Value} {qn_SIGNS : Nat} {qs_SIGNS : Array (Option Value)} (qa_SIGNS : PySem.W.nsIn K mainGlobals "SIGNS" = some (some (.ref q_SIGNS))) (ql_SIGNS : K.lookup q_SIGNS = some ⟨.type "tuple", qd_SIGNS, .seq qi_SIGNS qn_SIGNS, qs_SIGNS⟩) (qe_SIGNS : flatsIs [(.str "none"), (.str "end"), (.str "tens")] qi_SIGNS.toList = true) (qz_SIGNS : qi_SIGNS.size ≤ 1000)
    {qt_MINUS_HALF : Tok} (qa_MINUS_HALF : PySem.W.nsIn K mainGlobals "MINUS_HALF" = some (some (.int 13 qt_MINUS_HALF)))
    {qt_PLUS_HALF : Tok} (qa_PLUS_HALF : PySem.W.nsIn K mainGlobals "PLUS_HALF" = some (some (.int 12 qt_PLUS_HALF)))
    {qt_ZONE_HALF : Tok} (qa_ZONE_HALF : PySem.W.nsIn K mainGlobals "ZONE_HALF" = some (some (.int 15 qt_ZONE_HALF)))
    {qt_MOST_READ : Tok} (qa_MOST_READ : PySem.W.nsIn K mainGlobals "MOST_READ" = some (some (.int 30 qt_MOST_READ)))
    {qt_FIGURES : Tok} (qa_FIGURES : PySem.W.nsIn K mainGlobals "FIGURES" = some (some (.str "0123456789" qt_FIGURES)))
    {q_MINUS_HALVES : Addr} {qd_MINUS_HALVES : Option Addr} {qi_MINUS_HALVES : Array Value} {qn_MINUS_HALVES : Nat} {qs_MINUS_HALVES : Array (Option Value)} (qa_MINUS_HALVES : PySem.W.nsIn K mainGlobals "MINUS_HALVES" = some (some (.ref q_MINUS_HALVES))) (ql_MINUS_HALVES : K.lookup q_MINUS_HALVES = some ⟨.type "tuple", qd_MINUS_HALVES, .seq qi_MINUS_HALVES qn_MINUS_HALVES, qs_MINUS_HALVES⟩) (qe_MINUS_HALVES : flatsIs [(.int 11), (.int 13)] qi_MINUS_HALVES.toList = true) (qz_MINUS_HALVES : qi_MINUS_HALVES.size ≤ 1000)
    {qt_SIGNS_OF_HALVES : Tok} (qa_SIGNS_OF_HALVES : PySem.W.nsIn K mainGlobals "SIGNS_OF_HALVES" = some (some (.str "0123456789ABCDEF" qt_SIGNS_OF_HALVES)))
    {c_LoftError : Addr} (n_LoftError : PySem.W.nsIn K mainGlobals "LoftError" = some (some (.ref c_LoftError)))
    {c_NoFit : Addr} (n_NoFit : PySem.W.nsIn K mainGlobals "NoFit" = some (some (.ref c_NoFit)))
    {c_NoShape : Addr} (n_NoShape : PySem.W.nsIn K mainGlobals "NoShape" = some (some (.ref c_NoShape)))
    {c_NoText : Addr} (n_NoText : PySem.W.nsIn K mainGlobals "NoText" = some (some (.ref c_NoText)))
    {c_Wrong : Addr} (n_Wrong : PySem.W.nsIn K mainGlobals "Wrong" = some (some (.ref c_Wrong)))
    (b1_LoftError : PySem.W.readsIn K c_LoftError (.type "type") = true)
    (b2_LoftError : PySem.W.specialIn K (.ref c_LoftError) "__getattribute__" = some (some (.builtin "type.__getattribute__")))
    (b3_LoftError : PySem.W.findCls K (.ref c_LoftError) (.type "type") "__init__" = some (.val (.builtin "ValueError.__init__")))
    {nm_NoFit q_NoFit : Str} {N_NoFit i_NoFit : Addr} {bs_NoFit : List Value} {sn_NoFit : List Str} {sub_NoFit : List Value} {ab_NoFit : Bool} {col_NoFit : Option Bool} {dd_NoFit : Option Addr} {k0_NoFit k1_NoFit k2_NoFit k3_NoFit k5_NoFit : Option Value}
    (l_NoFit : K.lookup c_NoFit = some (excClassObj nm_NoFit q_NoFit c_NoFit N_NoFit bs_NoFit [.ref c_LoftError, .type "ValueError", .type "Exception", .type "BaseException", .type "object"] true sn_NoFit sub_NoFit ab_NoFit col_NoFit dd_NoFit k0_NoFit k1_NoFit k2_NoFit k3_NoFit k5_NoFit "ValueError.__new__"))
    (s_NoFit : PySem.W.findIn K (.ref c_NoFit) "__setattr__" = some (some (.builtin "object.__setattr__")))
    (e_NoFit : PySem.W.subIn K (.ref c_NoFit) (.type "BaseException") = some true)
    (t_NoFit : PySem.W.typeIn K (.ref c_NoFit) = some (.type "type"))
    (p_NoFit : PySem.W.keepIn K (.ref c_NoFit) = true)
    (i_NoFit_ : PySem.W.findIn K (.ref c_NoFit) "__init__" = some (some (.ref i_NoFit)))
    (j_NoFit : PySem.W.typeIn K (.ref i_NoFit) = some (.type "function"))
    (f_NoFit_number : PySem.W.findIn K (.ref c_NoFit) "number" = some none)
    {io_NoFit ik_NoFit id_NoFit ip_NoFit ic_NoFit it_NoFit : Value} {iod_NoFit ia_NoFit : Option Addr} {is_NoFit : Array (Option Value)}
    (g_NoFit : K.lookup i_NoFit = some ⟨io_NoFit, iod_NoFit, .func (PySem.W.fnOf "__init__" "NoFit.__init__" (defArgs s_ini_NoFit) (defBody s_ini_NoFit) (defScope s_ini_NoFit) .none ik_NoFit id_NoFit ip_NoFit ia_NoFit ic_NoFit it_NoFit), is_NoFit⟩)
    (h_NoFit_ : PySem.W.codeIn K ic_NoFit "NoFit.__init__" = true)
    (m_NoFit_ : PySem.W.keepIn K (.ref i_NoFit) = true)
    {nm_NoShape q_NoShape : Str} {N_NoShape i_NoShape : Addr} {bs_NoShape : List Value} {sn_NoShape : List Str} {sub_NoShape : List Value} {ab_NoShape : Bool} {col_NoShape : Option Bool} {dd_NoShape : Option Addr} {k0_NoShape k1_NoShape k2_NoShape k3_NoShape k5_NoShape : Option Value}
    (l_NoShape : K.lookup c_NoShape = some (excClassObj nm_NoShape q_NoShape c_NoShape N_NoShape bs_NoShape [.ref c_LoftError, .type "ValueError", .type "Exception", .type "BaseException", .type "object"] true sn_NoShape sub_NoShape ab_NoShape col_NoShape dd_NoShape k0_NoShape k1_NoShape k2_NoShape k3_NoShape k5_NoShape "ValueError.__new__"))
    (s_NoShape : PySem.W.findIn K (.ref c_NoShape) "__setattr__" = some (some (.builtin "object.__setattr__")))
    (e_NoShape : PySem.W.subIn K (.ref c_NoShape) (.type "BaseException") = some true)
    (t_NoShape : PySem.W.typeIn K (.ref c_NoShape) = some (.type "type"))
    (p_NoShape : PySem.W.keepIn K (.ref c_NoShape) = true)
    (i_NoShape_ : PySem.W.findIn K (.ref c_NoShape) "__init__" = some (some (.ref i_NoShape)))
    (j_NoShape : PySem.W.typeIn K (.ref i_NoShape) = some (.type "function"))
    (f_NoShape_part : PySem.W.findIn K (.ref c_NoShape) "part" = some none)
    {io_NoShape ik_NoShape id_NoShape ip_NoShape ic_NoShape it_NoShape : Value} {iod_NoShape ia_NoShape : Option Addr} {is_NoShape : Array (Option Value)}
    (g_NoShape : K.lookup i_NoShape = some ⟨io_NoShape, iod_NoShape, .func (PySem.W.fnOf "__init__" "NoShape.__init__" (defArgs s_ini_NoShape) (defBody s_ini_NoShape) (defScope s_ini_NoShape) .none ik_NoShape id_NoShape ip_NoShape ia_NoShape ic_NoShape it_NoShape), is_NoShape⟩)
    (h_NoShape_ : PySem.W.codeIn K ic_NoShape "NoShape.__init__" = true)
    (m_NoShape_ : PySem.W.keepIn K (.ref i_NoShape) = true)
    {nm_Wrong q_Wrong : Str} {N_Wrong i_Wrong : Addr} {bs_Wrong : List Value} {sn_Wrong : List Str} {sub_Wrong : List Value} {ab_Wrong : Bool} {col_Wrong : Option Bool} {dd_Wrong : Option Addr} {k0_Wrong k1_Wrong k2_Wrong k3_Wrong k5_Wrong : Option Value}
    (l_Wrong : K.lookup c_Wrong = some (excClassObj nm_Wrong q_Wrong c_Wrong N_Wrong bs_Wrong [.ref c_LoftError, .type "ValueError", .type "Exception", .type "BaseException", .type "object"] true sn_Wrong sub_Wrong ab_Wrong col_Wrong dd_Wrong k0_Wrong k1_Wrong k2_Wrong k3_Wrong k5_Wrong "ValueError.__new__"))
    (s_Wrong : PySem.W.findIn K (.ref c_Wrong) "__setattr__" = some (some (.builtin "object.__setattr__")))
    (e_Wrong : PySem.W.subIn K (.ref c_Wrong) (.type "BaseException") = some true)
    (t_Wrong : PySem.W.typeIn K (.ref c_Wrong) = some (.type "type"))
    (p_Wrong : PySem.W.keepIn K (.ref c_Wrong) = true)
    (i_Wrong_ : PySem.W.findIn K (.ref c_Wrong) "__init__" = some (some (.ref i_Wrong)))
    (j_Wrong : PySem.W.typeIn K (.ref i_Wrong) = some (.type "function"))
    (f_Wrong_place : PySem.W.findIn K (.ref c_Wrong) "place" = some none)
    (f_Wrong_why : PySem.W.findIn K (.ref c_Wrong) "why" = some none)
    {io_Wrong ik_Wrong id_Wrong ip_Wrong ic_Wrong it_Wrong : Value} {iod_Wrong ia_Wrong : Option Addr} {is_Wrong : Array (Option Value)}
    (g_Wrong : K.lookup i_Wrong = some ⟨io_Wrong, iod_Wrong, .func (PySem.W.fnOf "__init__" "Wrong.__init__" (defArgs s_ini_Wrong) (defBody s_ini_Wrong) (defScope s_ini_Wrong) .none ik_Wrong id_Wrong ip_Wrong ia_Wrong ic_Wrong it_Wrong), is_Wrong⟩)
    (h_Wrong_ : PySem.W.codeIn K ic_Wrong "Wrong.__init__" = true)
    (m_Wrong_ : PySem.W.keepIn K (.ref i_Wrong) = true)
    (yxcl0_NoText1 : PySem.W.excIn K c_NoText [.type "ValueError", .type "Exception", .type "BaseException", .type "object"] "ValueError.__new__" = true)
    (yxcl0_NoText2 : PySem.W.keepIn K (.ref c_NoText) = true)
    (yxcl0_NoText3 : PySem.W.subIn K (.ref c_NoText) (.type "BaseException") = some true)
    (yxcl0_NoText4 : PySem.W.typeIn K (.ref c_NoText) = some (.type "type"))
    : ∃ fd : FuncData, (∀ (s : Shared) (u : Value), BindsTo s fd ⟨[u], []⟩ [("_law_script", u)]) ∧ ∀ base : Heap, K.In base → base.Ns mainGlobals mg → FnOk l.prog w K mg base (L2N.CX l.prog w) 10 fa fd ["_law_script"] (spF K mg 1 [] f_law9) := by
  have e := hfa.symm.trans (PySem.W.mg_of X G a28)
  cases e
  have B : Bn mg := ⟨PySem.W.mg_none_of X G z_len, PySem.W.mg_none_of X G z_range, PySem.W.mg_none_of X G z_abs, PySem.W.mg_none_of X G z_max, PySem.W.mg_none_of X G z_min, PySem.W.mg_none_of X G z_int, PySem.W.mg_none_of X G z_str, PySem.W.mg_none_of X G z_tuple, PySem.W.mg_none_of X G z_list, PySem.W.mg_none_of X G z_all, PySem.W.mg_none_of X G z_any, PySem.W.mg_none_of X G z_isinstance, PySem.W.mg_none_of X G z_divmod, PySem.W.mg_none_of X G z_sum, PySem.W.mg_none_of X G z_zip, PySem.W.mg_none_of X G z_enumerate, PySem.W.mg_none_of X G z_reversed, PySem.W.mg_none_of X G z_sorted, PySem.W.mg_none_of X G z_dict, PySem.W.mg_none_of X G z_set, PySem.W.mg_none_of X G z_bool⟩
  have c_KINDS : Cst K mg "KINDS" (.tup [(.str "packed"), (.str "spread")]) := cst_tup (PySem.W.mg_of X G qa_KINDS) ql_KINDS qe_KINDS qz_KINDS
  have c_MOST_FIGURES : Cst K mg "MOST_FIGURES" (.int 12) := cst_int (PySem.W.mg_of X G qa_MOST_FIGURES)
  have c_SIGNS : Cst K mg "SIGNS" (.tup [(.str "none"), (.str "end"), (.str "tens")]) := cst_tup (PySem.W.mg_of X G qa_SIGNS) ql_SIGNS qe_SIGNS qz_SIGNS
  have c_MINUS_HALF : Cst K mg "MINUS_HALF" (.int 13) := cst_int (PySem.W.mg_of X G qa_MINUS_HALF)
  have c_PLUS_HALF : Cst K mg "PLUS_HALF" (.int 12) := cst_int (PySem.W.mg_of X G qa_PLUS_HALF)
  have c_ZONE_HALF : Cst K mg "ZONE_HALF" (.int 15) := cst_int (PySem.W.mg_of X G qa_ZONE_HALF)
  have c_MOST_READ : Cst K mg "MOST_READ" (.int 30) := cst_int (PySem.W.mg_of X G qa_MOST_READ)
  have c_FIGURES : Cst K mg "FIGURES" (.str "0123456789") := cst_str (PySem.W.mg_of X G qa_FIGURES)
  have c_MINUS_HALVES : Cst K mg "MINUS_HALVES" (.tup [(.int 11), (.int 13)]) := cst_tup (PySem.W.mg_of X G qa_MINUS_HALVES) ql_MINUS_HALVES qe_MINUS_HALVES qz_MINUS_HALVES
  have c_SIGNS_OF_HALVES : Cst K mg "SIGNS_OF_HALVES" (.str "0123456789ABCDEF") := cst_str (PySem.W.mg_of X G qa_SIGNS_OF_HALVES)
  have F0 := fun_mk (st := s_lmixed) l0 c0 k0
  have b0 := F0.binds (ps := ["_law_cell_here", "_law_k", "_law_salt"]) fun _ _ _ _ _ _ us hl => match us, hl with | [_, _, _], _ => rfl
  have F1 := fun_mk (st := s_ldraws) l1 c1 k1
  have b1 := F1.binds (ps := ["_law_cell_here", "_law_salt", "_law_widths"]) fun _ _ _ _ _ _ us hl => match us, hl with | [_, _, _], _ => rfl
  have F2 := fun_mk (st := s_lcell) l2 c2 k2
  have b2 := F2.binds (ps := ["_law_script", "_law_k"]) fun _ _ _ _ _ _ us hl => match us, hl with | [_, _], _ => rfl
  have F3 := fun_mk (st := s_lform) l3 c3 k3
  have b3 := F3.binds (ps := ["_law_kind", "_law_many", "_law_sign"]) fun _ _ _ _ _ _ us hl => match us, hl with | [_, _, _], _ => rfl
  have F4 := fun_mk (st := s_pshape) l4 c4 k4
  have b4 := F4.binds (ps := ["kind", "figures", "sign", "point"]) fun _ _ _ _ _ _ us hl => match us, hl with | [_, _, _, _], _ => rfl
  have F5 := fun_mk (st := s_ppower) l5 c5 k5
  have b5 := F5.binds (ps := ["base", "many"]) fun _ _ _ _ _ _ us hl => match us, hl with | [_, _], _ => rfl
  have F6 := fun_mk (st := s_pleast_of) l6 c6 k6
  have b6 := F6.binds (ps := ["form"]) fun _ _ _ _ _ _ us hl => match us, hl with | [_], _ => rfl
  have F7 := fun_mk (st := s_pfolded) l7 c7 k7
  have b7 := F7.binds (ps := ["form", "number"]) fun _ _ _ _ _ _ us hl => match us, hl with | [_, _], _ => rfl
  have F8 := fun_mk (st := s_pfigures_of) l8 c8 k8
  have b8 := F8.binds (ps := ["number", "many"]) fun _ _ _ _ _ _ us hl => match us, hl with | [_, _], _ => rfl
  have F9 := fun_mk (st := s_psign_half) l9 c9 k9
  have b9 := F9.binds (ps := ["number"]) fun _ _ _ _ _ _ us hl => match us, hl with | [_], _ => rfl
  have F10 := fun_mk (st := s_phalves_of) l10 c10 k10
  have b10 := F10.binds (ps := ["form"]) fun _ _ _ _ _ _ us hl => match us, hl with | [_], _ => rfl
  have F11 := fun_mk (st := s_pkept_halves) l11 c11 k11
  have b11 := F11.binds (ps := ["form", "number"]) fun _ _ _ _ _ _ us hl => match us, hl with | [_, _], _ => rfl
  have F12 := fun_mk (st := s_pmost_of) l12 c12 k12
  have b12 := F12.binds (ps := ["form"]) fun _ _ _ _ _ _ us hl => match us, hl with | [_], _ => rfl
  have F13 := fun_mk (st := s_pfits) l13 c13 k13
  have b13 := F13.binds (ps := ["form", "number"]) fun _ _ _ _ _ _ us hl => match us, hl with | [_, _], _ => rfl
  have F14 := fun_mk (st := s_pkept) l14 c14 k14
  have b14 := F14.binds (ps := ["form", "number"]) fun _ _ _ _ _ _ us hl => match us, hl with | [_, _], _ => rfl
  have F15 := fun_mk (st := s_pwritten) l15 c15 k15
  have b15 := F15.binds (ps := ["form", "number"]) fun _ _ _ _ _ _ us hl => match us, hl with | [_, _], _ => rfl
  have F16 := fun_mk (st := s_pis_figures) l16 c16 k16
  have b16 := F16.binds (ps := ["word"]) fun _ _ _ _ _ _ us hl => match us, hl with | [_], _ => rfl
  have F17 := fun_mk (st := s_pparts_of) l17 c17 k17
  have b17 := F17.binds (ps := ["text"]) fun _ _ _ _ _ _ us hl => match us, hl with | [_], _ => rfl
  have F18 := fun_mk (st := s_ptold) l18 c18 k18
  have b18 := F18.binds (ps := ["form", "text"]) fun _ _ _ _ _ _ us hl => match us, hl with | [_, _], _ => rfl
  have F19 := fun_mk (st := s_pduties) l19 c19 k19
  have b19 := F19.binds (ps := ["form"]) fun _ _ _ _ _ _ us hl => match us, hl with | [_], _ => rfl
  have F20 := fun_mk (st := s_phalves_in) l20 c20 k20
  have b20 := F20.binds (ps := ["row"]) fun _ _ _ _ _ _ us hl => match us, hl with | [_], _ => rfl
  have F21 := fun_mk (st := s_phalf_right) l21 c21 k21
  have b21 := F21.binds (ps := ["duty", "half"]) fun _ _ _ _ _ _ us hl => match us, hl with | [_, _], _ => rfl
  have F22 := fun_mk (st := s_pcaught) l22 c22 k22
  have b22 := F22.binds (ps := ["form", "row"]) fun _ _ _ _ _ _ us hl => match us, hl with | [_, _], _ => rfl
  have F23 := fun_mk (st := s_pnumber_by) l23 c23 k23
  have b23 := F23.binds (ps := ["base", "digits"]) fun _ _ _ _ _ _ us hl => match us, hl with | [_, _], _ => rfl
  have F24 := fun_mk (st := s_pnumber_of) l24 c24 k24
  have b24 := F24.binds (ps := ["form", "row"]) fun _ _ _ _ _ _ us hl => match us, hl with | [_, _], _ => rfl
  have F25 := fun_mk (st := s_pbyte_told) l25 c25 k25
  have b25 := F25.binds (ps := ["word"]) fun _ _ _ _ _ _ us hl => match us, hl with | [_], _ => rfl
  have F26 := fun_mk (st := s_punhexed) l26 c26 k26
  have b26 := F26.binds (ps := ["text"]) fun _ _ _ _ _ _ us hl => match us, hl with | [_], _ => rfl
  have F27 := fun_mk (st := s_phexed) l27 c27 k27
  have b27 := F27.binds (ps := ["row"]) fun _ _ _ _ _ _ us hl => match us, hl with | [_], _ => rfl
  have F28 := fun_mk (st := s_law9) l28 c28 k28
  have b28 := F28.binds (ps := ["_law_script"]) fun _ _ _ _ _ _ us hl => match us, hl with | [_], _ => rfl
  refine ⟨PySem.W.fnOf "law" "law" (defArgs s_law9) (defBody s_law9) (defScope s_law9) .none kV28 dc28 pm28 an28 cd28 ct28, fun s v => .of_eq rfl, fun base _ _ => ?_⟩
  have B_LoftError : Bas K mg "LoftError" := ⟨c_LoftError, PySem.W.mg_of X G n_LoftError, b1_LoftError, b2_LoftError, b3_LoftError⟩
  have FI_NoFit := fun_mk (st := s_ini_NoFit) g_NoFit h_NoFit_ m_NoFit_
  have bI_NoFit := FI_NoFit.binds (ps := ["self", "number"]) fun _ _ _ _ _ _ us hl => match us, hl with | [_, _], _ => rfl
  have FI_NoShape := fun_mk (st := s_ini_NoShape) g_NoShape h_NoShape_ m_NoShape_
  have bI_NoShape := FI_NoShape.binds (ps := ["self", "part"]) fun _ _ _ _ _ _ us hl => match us, hl with | [_, _], _ => rfl
  have FI_Wrong := fun_mk (st := s_ini_Wrong) g_Wrong h_Wrong_ m_Wrong_
  have bI_Wrong := FI_Wrong.binds (ps := ["self", "place", "why"]) fun _ _ _ _ _ _ us hl => match us, hl with | [_, _, _], _ => rfl
  have xcl1_NoShape_part : Cl1 l.prog w K mg base "NoShape" "part" := ⟨_, _, _, _, owX_mk (PySem.W.mg_of X G n_NoShape) l_NoShape rfl s_NoShape e_NoShape t_NoShape p_NoShape i_NoShape_ j_NoShape, f_NoShape_part, ini_NoShape FI_NoShape B_LoftError, bI_NoShape⟩
  have xcl1_NoFit_number : Cl1 l.prog w K mg base "NoFit" "number" := ⟨_, _, _, _, owX_mk (PySem.W.mg_of X G n_NoFit) l_NoFit rfl s_NoFit e_NoFit t_NoFit p_NoFit i_NoFit_ j_NoFit, f_NoFit_number, ini_NoFit FI_NoFit B_LoftError, bI_NoFit⟩
  have xcl0_NoText : Cl0 K mg "NoText" := ⟨_, PySem.W.mg_of X G n_NoText, yxcl0_NoText1, yxcl0_NoText2, yxcl0_NoText3, yxcl0_NoText4⟩
  have xcl2_Wrong_place_why : Cl2 l.prog w K mg base "Wrong" "place" "why" := ⟨_, _, _, _, owX_mk (PySem.W.mg_of X G n_Wrong) l_Wrong rfl s_Wrong e_Wrong t_Wrong p_Wrong i_Wrong_ j_Wrong, f_Wrong_place, f_Wrong_why, ini_Wrong FI_Wrong B_LoftError, bI_Wrong⟩
  have h_lmixed : Fd l.prog w K mg base "_law_mixed" 2 ["_law_cell_here", "_law_k", "_law_salt"] [] f_lmixed := ⟨_, _, ok_lmixed F0 B    , PySem.W.mg_of X G a0, k0, b0⟩
  have h_ldraws : Fd l.prog w K mg base "_law_draws" 4 ["_law_cell_here", "_law_salt", "_law_widths"] [] f_ldraws := ⟨_, _, ok_ldraws F1 B h_lmixed   , PySem.W.mg_of X G a1, k1, b1⟩
  have h_lcell : Fd l.prog w K mg base "_law_cell" 2 ["_law_script", "_law_k"] [] f_lcell := ⟨_, _, ok_lcell F2 B    , PySem.W.mg_of X G a2, k2, b2⟩
  have h_lform : Fd l.prog w K mg base "_law_form" 2 ["_law_kind", "_law_many", "_law_sign"] [] f_lform := ⟨_, _, ok_lform F3 B    , PySem.W.mg_of X G a3, k3, b3⟩
  have h_pshape : Fd l.prog w K mg base "shape" 4 ["kind", "figures", "sign", "point"] [] f_pshape := ⟨_, _, ok_pshape F4 B   xcl1_NoShape_part c_KINDS c_MOST_FIGURES c_SIGNS, PySem.W.mg_of X G a4, k4, b4⟩
  have h_ppower : Fd l.prog w K mg base "power" 2 ["base", "many"] [] f_ppower := ⟨_, _, ok_ppower F5 B    , PySem.W.mg_of X G a5, k5, b5⟩
  have h_pleast_of : Fd l.prog w K mg base "least_of" 4 ["form"] [] f_pleast_of := ⟨_, _, ok_pleast_of F6 B h_ppower   , PySem.W.mg_of X G a6, k6, b6⟩
  have h_pfolded : Fd l.prog w K mg base "folded" 6 ["form", "number"] [] f_pfolded := ⟨_, _, ok_pfolded F7 B h_ppower h_pleast_of   , PySem.W.mg_of X G a7, k7, b7⟩
  have h_pfigures_of : Fd l.prog w K mg base "figures_of" 2 ["number", "many"] [] f_pfigures_of := ⟨_, _, ok_pfigures_of F8 B    , PySem.W.mg_of X G a8, k8, b8⟩
  have h_psign_half : Fd l.prog w K mg base "sign_half" 2 ["number"] [] f_psign_half := ⟨_, _, ok_psign_half F9 B    c_MINUS_HALF c_PLUS_HALF, PySem.W.mg_of X G a9, k9, b9⟩
  have h_phalves_of : Fd l.prog w K mg base "halves_of" 2 ["form"] [] f_phalves_of := ⟨_, _, ok_phalves_of F10 B    , PySem.W.mg_of X G a10, k10, b10⟩
  have h_pkept_halves : Fd l.prog w K mg base "kept_halves" 4 ["form", "number"] [] f_pkept_halves := ⟨_, _, ok_pkept_halves F11 B h_ppower h_pfigures_of h_psign_half h_phalves_of   c_ZONE_HALF, PySem.W.mg_of X G a11, k11, b11⟩
  have h_pmost_of : Fd l.prog w K mg base "most_of" 4 ["form"] [] f_pmost_of := ⟨_, _, ok_pmost_of F12 B h_ppower   , PySem.W.mg_of X G a12, k12, b12⟩
  have h_pfits : Fd l.prog w K mg base "fits" 6 ["form", "number"] [] f_pfits := ⟨_, _, ok_pfits F13 B h_pleast_of h_pmost_of   , PySem.W.mg_of X G a13, k13, b13⟩
  have h_pkept : Fd l.prog w K mg base "kept" 8 ["form", "number"] [] f_pkept := ⟨_, _, ok_pkept F14 B h_pfits h_pkept_halves  xcl1_NoFit_number , PySem.W.mg_of X G a14, k14, b14⟩
  have h_pwritten : Fd l.prog w K mg base "written" 8 ["form", "number"] [] f_pwritten := ⟨_, _, ok_pwritten F15 B h_pfits  xcl1_NoFit_number , PySem.W.mg_of X G a15, k15, b15⟩
  have h_pis_figures : Fd l.prog w K mg base "is_figures" 2 ["word"] [] f_pis_figures := ⟨_, _, ok_pis_figures F16 B    c_MOST_READ c_FIGURES, PySem.W.mg_of X G a16, k16, b16⟩
  have h_pparts_of : Fd l.prog w K mg base "parts_of" 4 ["text"] [] f_pparts_of := ⟨_, _, ok_pparts_of F17 B h_pis_figures  xcl0_NoText , PySem.W.mg_of X G a17, k17, b17⟩
  have h_ptold : Fd l.prog w K mg base "told" 8 ["form", "text"] [] f_ptold := ⟨_, _, ok_ptold F18 B h_pparts_of h_ppower h_pfits  xcl1_NoFit_number , PySem.W.mg_of X G a18, k18, b18⟩
  have h_pduties : Fd l.prog w K mg base "duties" 4 ["form"] [] f_pduties := ⟨_, _, ok_pduties F19 B h_phalves_of   , PySem.W.mg_of X G a19, k19, b19⟩
  have h_phalves_in : Fd l.prog w K mg base "halves_in" 2 ["row"] [] f_phalves_in := ⟨_, _, ok_phalves_in F20 B    , PySem.W.mg_of X G a20, k20, b20⟩
  have h_phalf_right : Fd l.prog w K mg base "half_right" 2 ["duty", "half"] [] f_phalf_right := ⟨_, _, ok_phalf_right F21 B    c_ZONE_HALF, PySem.W.mg_of X G a21, k21, b21⟩
  have h_pcaught : Fd l.prog w K mg base "caught" 6 ["form", "row"] [] f_pcaught := ⟨_, _, ok_pcaught F22 B h_pduties h_phalves_in h_phalf_right   , PySem.W.mg_of X G a22, k22, b22⟩
  have h_pnumber_by : Fd l.prog w K mg base "number_by" 2 ["base", "digits"] [] f_pnumber_by := ⟨_, _, ok_pnumber_by F23 B    , PySem.W.mg_of X G a23, k23, b23⟩
  have h_pnumber_of : Fd l.prog w K mg base "number_of" 8 ["form", "row"] [] f_pnumber_of := ⟨_, _, ok_pnumber_of F24 B h_pcaught h_pduties h_phalves_in h_pnumber_by h_ppower  xcl2_Wrong_place_why c_MINUS_HALVES, PySem.W.mg_of X G a24, k24, b24⟩
  have h_pbyte_told : Fd l.prog w K mg base "byte_told" 2 ["word"] [] f_pbyte_told := ⟨_, _, ok_pbyte_told F25 B   xcl0_NoText c_SIGNS_OF_HALVES, PySem.W.mg_of X G a25, k25, b25⟩
  have h_punhexed : Fd l.prog w K mg base "unhexed" 4 ["text"] [] f_punhexed := ⟨_, _, ok_punhexed F26 B h_pbyte_told   , PySem.W.mg_of X G a26, k26, b26⟩
  have h_phexed : Fd l.prog w K mg base "hexed" 2 ["row"] [] f_phexed := ⟨_, _, ok_phexed F27 B    c_SIGNS_OF_HALVES, PySem.W.mg_of X G a27, k27, b27⟩
  exact ok_law9 F28 B h_ldraws h_lcell h_lform h_pshape h_pfolded h_pkept h_pnumber_of h_punhexed h_phexed h_pwritten h_ptold   
end Tm
open PySem PySem.W PyProof.Rows in
set_option maxRecDepth 100000 in
set_option maxHeartbeats 0 in
theorem PySem.Challenge.cw_tensloft_k10_whole_kept_and_told_holds : PySem.Challenge.rw_tensloft_k10_whole_kept_and_told.Holds := by
  w_on; o_law; k_head; (case hw => w_witness2)
  k_fill
  refine Tm.walk_law (l := PySem.Challenge.rw_tensloft_k10_whole_kept_and_told) (f := Tm.f_law9) (x := "_law_script") (k := 10) rfl rfl ⟨rfl, by decide, by decide⟩ (fun w h Y => PySem.W.kIn_of Y) Tm.law_true ?F
  case F =>
    intro w mg fa h KX G hmg
    refine' Tm.all_mk KX G hmg ?a0 ?l0 ?c0 ?k0 ?a1 ?l1 ?c1 ?k1 ?a2 ?l2 ?c2 ?k2 ?a3 ?l3 ?c3 ?k3 ?a4 ?l4 ?c4 ?k4 ?a5 ?l5 ?c5 ?k5 ?a6 ?l6 ?c6 ?k6 ?a7 ?l7 ?c7 ?k7 ?a8 ?l8 ?c8 ?k8 ?a9 ?l9 ?c9 ?k9 ?a10 ?l10 ?c10 ?k10 ?a11 ?l11 ?c11 ?k11 ?a12 ?l12 ?c12 ?k12 ?a13 ?l13 ?c13 ?k13 ?a14 ?l14 ?c14 ?k14 ?a15 ?l15 ?c15 ?k15 ?a16 ?l16 ?c16 ?k16 ?a17 ?l17 ?c17 ?k17 ?a18 ?l18 ?c18 ?k18 ?a19 ?l19 ?c19 ?k19 ?a20 ?l20 ?c20 ?k20 ?a21 ?l21 ?c21 ?k21 ?a22 ?l22 ?c22 ?k22 ?a23 ?l23 ?c23 ?k23 ?a24 ?l24 ?c24 ?k24 ?a25 ?l25 ?c25 ?k25 ?a26 ?l26 ?c26 ?k26 ?a27 ?l27 ?c27 ?k27 ?a28 ?l28 ?c28 ?k28 ?z_len ?z_range ?z_abs ?z_max ?z_min ?z_int ?z_str ?z_tuple ?z_list ?z_all ?z_any ?z_isinstance ?z_divmod ?z_sum ?z_zip ?z_enumerate ?z_reversed ?z_sorted ?z_dict ?z_set ?z_bool ?qa_KINDS ?ql_KINDS ?qe_KINDS ?qz_KINDS ?qa_MOST_FIGURES ?qa_SIGNS ?ql_SIGNS ?qe_SIGNS ?qz_SIGNS ?qa_MINUS_HALF ?qa_PLUS_HALF ?qa_ZONE_HALF ?qa_MOST_READ ?qa_FIGURES ?qa_MINUS_HALVES ?ql_MINUS_HALVES ?qe_MINUS_HALVES ?qz_MINUS_HALVES ?qa_SIGNS_OF_HALVES ?n_LoftError ?n_NoFit ?n_NoShape ?n_NoText ?n_Wrong ?b1_LoftError ?b2_LoftError ?b3_LoftError ?l_NoFit ?s_NoFit ?e_NoFit ?t_NoFit ?p_NoFit ?i_NoFit_ ?j_NoFit ?f_NoFit_number ?g_NoFit ?h_NoFit_ ?m_NoFit_ ?l_NoShape ?s_NoShape ?e_NoShape ?t_NoShape ?p_NoShape ?i_NoShape_ ?j_NoShape ?f_NoShape_part ?g_NoShape ?h_NoShape_ ?m_NoShape_ ?l_Wrong ?s_Wrong ?e_Wrong ?t_Wrong ?p_Wrong ?i_Wrong_ ?j_Wrong ?f_Wrong_place ?f_Wrong_why ?g_Wrong ?h_Wrong_ ?m_Wrong_ ?yxcl0_NoText1 ?yxcl0_NoText2 ?yxcl0_NoText3 ?yxcl0_NoText4
    (case a0 => k_is)
    (case l0 => k_is)
    (case c0 => k_is)
    (case k0 => k_is)
    (case a1 => k_is)
    (case l1 => k_is)
    (case c1 => k_is)
    (case k1 => k_is)
    (case a2 => k_is)
    (case l2 => k_is)
    (case c2 => k_is)
    (case k2 => k_is)
    (case a3 => k_is)
    (case l3 => k_is)
    (case c3 => k_is)
    (case k3 => k_is)
    (case a4 => k_is)
    (case l4 => k_is)
    (case c4 => k_is)
    (case k4 => k_is)
    (case a5 => k_is)
    (case l5 => k_is)
    (case c5 => k_is)
    (case k5 => k_is)
    (case a6 => k_is)
    (case l6 => k_is)
    (case c6 => k_is)
    (case k6 => k_is)
    (case a7 => k_is)
    (case l7 => k_is)
    (case c7 => k_is)
    (case k7 => k_is)
    (case a8 => k_is)
    (case l8 => k_is)
    (case c8 => k_is)
    (case k8 => k_is)
    (case a9 => k_is)
    (case l9 => k_is)
    (case c9 => k_is)
    (case k9 => k_is)
    (case a10 => k_is)
    (case l10 => k_is)
    (case c10 => k_is)
    (case k10 => k_is)
    (case a11 => k_is)
    (case l11 => k_is)
    (case c11 => k_is)
    (case k11 => k_is)
    (case a12 => k_is)
    (case l12 => k_is)
    (case c12 => k_is)
    (case k12 => k_is)
    (case a13 => k_is)
    (case l13 => k_is)
    (case c13 => k_is)
    (case k13 => k_is)
    (case a14 => k_is)
    (case l14 => k_is)
    (case c14 => k_is)
    (case k14 => k_is)
    (case a15 => k_is)
    (case l15 => k_is)
    (case c15 => k_is)
    (case k15 => k_is)
    (case a16 => k_is)
    (case l16 => k_is)
    (case c16 => k_is)
    (case k16 => k_is)
    (case a17 => k_is)
    (case l17 => k_is)
    (case c17 => k_is)
    (case k17 => k_is)
    (case a18 => k_is)
    (case l18 => k_is)
    (case c18 => k_is)
    (case k18 => k_is)
    (case a19 => k_is)
    (case l19 => k_is)
    (case c19 => k_is)
    (case k19 => k_is)
    (case a20 => k_is)
    (case l20 => k_is)
    (case c20 => k_is)
    (case k20 => k_is)
    (case a21 => k_is)
    (case l21 => k_is)
    (case c21 => k_is)
    (case k21 => k_is)
    (case a22 => k_is)
    (case l22 => k_is)
    (case c22 => k_is)
    (case k22 => k_is)
    (case a23 => k_is)
    (case l23 => k_is)
    (case c23 => k_is)
    (case k23 => k_is)
    (case a24 => k_is)
    (case l24 => k_is)
    (case c24 => k_is)
    (case k24 => k_is)
    (case a25 => k_is)
    (case l25 => k_is)
    (case c25 => k_is)
    (case k25 => k_is)
    (case a26 => k_is)
    (case l26 => k_is)
    (case c26 => k_is)
    (case k26 => k_is)
    (case a27 => k_is)
    (case l27 => k_is)
    (case c27 => k_is)
    (case k27 => k_is)
    (case a28 => k_is)
    (case l28 => k_is)
    (case c28 => k_is)
    (case k28 => k_is)
    (case z_len => k_is)
    (case z_range => k_is)
    (case z_abs => k_is)
    (case z_max => k_is)
    (case z_min => k_is)
    (case z_int => k_is)
    (case z_str => k_is)
    (case z_tuple => k_is)
    (case z_list => k_is)
    (case z_all => k_is)
    (case z_any => k_is)
    (case z_isinstance => k_is)
    (case z_divmod => k_is)
    (case z_sum => k_is)
    (case z_zip => k_is)
    (case z_enumerate => k_is)
    (case z_reversed => k_is)
    (case z_sorted => k_is)
    (case z_dict => k_is)
    (case z_set => k_is)
    (case z_bool => k_is)
    (case qa_KINDS => k_is)
    (case ql_KINDS => k_is)
    (case qa_MOST_FIGURES => k_is)
    (case qa_SIGNS => k_is)
    (case ql_SIGNS => k_is)
    (case qa_MINUS_HALF => k_is)
    (case qa_PLUS_HALF => k_is)
    (case qa_ZONE_HALF => k_is)
    (case qa_MOST_READ => k_is)
    (case qa_FIGURES => k_is)
    (case qa_MINUS_HALVES => k_is)
    (case ql_MINUS_HALVES => k_is)
    (case qa_SIGNS_OF_HALVES => k_is)
    (case n_LoftError => k_is)
    (case n_NoFit => k_is)
    (case n_NoShape => k_is)
    (case n_NoText => k_is)
    (case n_Wrong => k_is)
    (case b1_LoftError => k_is)
    (case b2_LoftError => k_is)
    (case b3_LoftError => k_is)
    (case l_NoFit => k_is)
    (case s_NoFit => k_is)
    (case e_NoFit => k_is)
    (case t_NoFit => k_is)
    (case p_NoFit => k_is)
    (case i_NoFit_ => k_is)
    (case j_NoFit => k_is)
    (case f_NoFit_number => k_is)
    (case g_NoFit => k_is)
    (case h_NoFit_ => k_is)
    (case m_NoFit_ => k_is)
    (case l_NoShape => k_is)
    (case s_NoShape => k_is)
    (case e_NoShape => k_is)
    (case t_NoShape => k_is)
    (case p_NoShape => k_is)
    (case i_NoShape_ => k_is)
    (case j_NoShape => k_is)
    (case f_NoShape_part => k_is)
    (case g_NoShape => k_is)
    (case h_NoShape_ => k_is)
    (case m_NoShape_ => k_is)
    (case l_Wrong => k_is)
    (case s_Wrong => k_is)
    (case e_Wrong => k_is)
    (case t_Wrong => k_is)
    (case p_Wrong => k_is)
    (case i_Wrong_ => k_is)
    (case j_Wrong => k_is)
    (case f_Wrong_place => k_is)
    (case f_Wrong_why => k_is)
    (case g_Wrong => k_is)
    (case h_Wrong_ => k_is)
    (case m_Wrong_ => k_is)
    (case yxcl0_NoText1 => k_exc)
    (case yxcl0_NoText2 => k_is)
    (case yxcl0_NoText3 => k_is)
    (case yxcl0_NoText4 => k_is)
    (case qe_KINDS => decide +kernel)
    (case qz_KINDS => decide +kernel)
    (case qe_SIGNS => decide +kernel)
    (case qz_SIGNS => decide +kernel)
    (case qe_MINUS_HALVES => decide +kernel)
    (case qz_MINUS_HALVES => decide +kernel)
