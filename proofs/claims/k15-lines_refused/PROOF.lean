import PyProof.Rows.All
import Wide.All
import OpenK.AllK
import Wide.FinOn
import HandS.ForMost
import HandS.ForExc
import HandS.Wide
import HandS.Evl
import HandS.TupAny
import HandS.TupMul
import HandS.NoneIn
import HandS.Zip
import HandS.IsInst
import HandS.Text
import HandS.StrMore
import HandS.Comp
import HandS.Style
import PyProof.StrOps2
import KE.GoesMore
import KE.GoesEnum
import KE.GoesZip
import HandS.ExcCtx
import HandS.ExcOwn
import HandS.ExcInit
import HandS.ExcIs
import HandS.ExcField
import HandS.Replace
import HandS.CallLocal
import HandS.WideBits
import HandS.Conv
import KE.GoesEnumKw
import PyProof.Rows.CallKwBuiltin
import HandS.HotCalls
import HandS.More
import HandS.RaiseMore
import HandS.TupLe
import HandS.Flt
import PySem.Challenge.RW_tensloft_k15_lines_refused
set_option Elab.async false
set_option linter.all false
set_option maxRecDepth 100000
set_option maxHeartbeats 2000000
namespace Tm
open PySem L2
inductive MV where
  | non | bl (b : Bool) | int (i : Int) | str (x : Str)
  | tup (xs : List MV) | lst (xs : List MV) | own (xs : List MV)
  | raw (v : V) | scr (ns : List Int)
  | fnc (x : Str)
  | obj (C : Str) (fs : List (Str × MV))
  | dct (ks : List Key) (xs : List MV)
  | dow (ks : List Key) (xs : List MV)
  | dot (ks : List (List Key)) (xs : List MV)
instance : Inhabited MV := ⟨.non⟩
abbrev Env := List (Option MV)
structure MX where
  cls : Str
  fs : List (Str × MV)
inductive Res (α : Type) where
  | ok (a : α) | exc (e : MX) (ρ : Env) | stuck
inductive Fl where
  | nx | br | ct | rt (x : MV)
open Evl (Ex ex_rd ex_l ex_t)
theorem _root_.Evl.Ex.back {H H' : Hp} {p : Addr} (e : Ex H H') (h : H' p = none) : H p = none := Evl.fresh_back e h
theorem _root_.Evl.Ex.both {H H' : Hp} {p : Addr} {o : HO} (e : Ex H H') (h : H' p = none) : Ex (upd H p o) (upd H' p o) := fun a u ha => by
  by_cases hp : a = p
  · subst hp; rw [upd_same] at ha ⊢; exact ha
  · rw [upd_ne hp] at ha ⊢; exact e a u ha
theorem _root_.Evl.Ex.updL {H H' : Hp} {p : Addr} {o : HO} (e : Ex H H') (h : H' p = some o) : Ex (upd H p o) H' := fun a u ha => by
  by_cases hp : a = p
  · subst hp; rw [upd_same] at ha; cases ha; exact h
  · rw [upd_ne hp] at ha; exact e a u ha
mutual
def RV (K : PySem.W.Frag) (H : Hp) : MV → V → Prop
  | .non, v => v = .non
  | .bl b, v => v = .bl b
  | .int i, v => v = .int i
  | .str x, v => v = .str x
  | .tup xs, v => ∃ a vs, v = .ref a ∧ SqT K H a vs ∧ RVs K H xs vs
  | .lst xs, v => ∃ a vs, v = .ref a ∧ H a = some (.lst vs) ∧ RVs K H xs vs
  | .own _, _ => False
  | .raw w, v => v = w
  | .scr ns, v => ∃ a, v = .ref a ∧ SqL K H a (ns.map V.int)
  | .fnc x, v => ∃ a, v = .ref a ∧ PySem.W.nsIn K mainGlobals x = some (some (.ref a))
  | .obj _ _, _ => False
  | .dct ks xs, v => ∃ a vs, v = .ref a ∧ H a = some (.dK (ks.zip vs)) ∧ ks.length = xs.length ∧ RVs K H xs vs
  | .dow _ _, _ => False
  | .dot _ _, _ => False
def RVs (K : PySem.W.Frag) (H : Hp) : List MV → List V → Prop
  | [], vs => vs = []
  | x :: xs, vs => ∃ v r, vs = v :: r ∧ RV K H x v ∧ RVs K H xs r
end
mutual
theorem RV.mono {K : PySem.W.Frag} {H H' : Hp} (e : Ex H H') : ∀ (x : MV) (v : V), RV K H x v → RV K H' x v
  | .non, v, h => by unfold RV at h ⊢; exact h
  | .bl b, v, h => by unfold RV at h ⊢; exact h
  | .int i, v, h => by unfold RV at h ⊢; exact h
  | .str x, v, h => by unfold RV at h ⊢; exact h
  | .tup xs, v, h => by
    unfold RV at h ⊢
    obtain ⟨a, vs, e1, e2, e3⟩ := h
    exact ⟨a, vs, e1, ex_t e e2, RVs.mono e xs vs e3⟩
  | .lst xs, v, h => by
    unfold RV at h ⊢
    obtain ⟨a, vs, e1, e2, e3⟩ := h
    exact ⟨a, vs, e1, e _ _ e2, RVs.mono e xs vs e3⟩
  | .own xs, v, h => by unfold RV at h; exact h.elim
  | .raw w, v, h => by unfold RV at h ⊢; exact h
  | .scr ns, v, h => by
    unfold RV at h ⊢
    obtain ⟨a, e1, e2⟩ := h
    exact ⟨a, e1, ex_l e e2⟩
  | .fnc x, v, h => by unfold RV at h ⊢; exact h
  | .obj C fs, v, h => by unfold RV at h; exact h.elim
  | .dct ks xs, v, h => by
    unfold RV at h ⊢
    obtain ⟨a, vs, e1, e2, e3, e4⟩ := h
    exact ⟨a, vs, e1, e _ _ e2, e3, RVs.mono e xs vs e4⟩
  | .dow ks xs, v, h => by unfold RV at h; exact h.elim
  | .dot ks xs, v, h => by unfold RV at h; exact h.elim
theorem RVs.mono {K : PySem.W.Frag} {H H' : Hp} (e : Ex H H') : ∀ (xs : List MV) (vs : List V), RVs K H xs vs → RVs K H' xs vs
  | [], vs, h => by unfold RVs at h ⊢; exact h
  | x :: xs, vs, h => by
    unfold RVs at h ⊢
    obtain ⟨v, r, e1, e2, e3⟩ := h
    exact ⟨v, r, e1, RV.mono e x v e2, RVs.mono e xs r e3⟩
end
section
variable {K : PySem.W.Frag} {H : Hp}
theorem RV.int {i : Int} {v : V} : RV K H (.int i) v ↔ v = .int i := by unfold RV; rfl
theorem RV.bl {i : Bool} {v : V} : RV K H (.bl i) v ↔ v = .bl i := by unfold RV; rfl
theorem RV.str {i : Str} {v : V} : RV K H (.str i) v ↔ v = .str i := by unfold RV; rfl
theorem RV.non {v : V} : RV K H .non v ↔ v = .non := by unfold RV; rfl
theorem RV.raw {w v : V} : RV K H (.raw w) v ↔ v = w := by unfold RV; rfl
theorem RV.tup {xs : List MV} {v : V} : RV K H (.tup xs) v ↔ ∃ a vs, v = .ref a ∧ SqT K H a vs ∧ RVs K H xs vs := by
  constructor <;> intro h <;> (unfold RV at *; exact h)
theorem RV.lst {xs : List MV} {v : V} : RV K H (.lst xs) v ↔ ∃ a vs, v = .ref a ∧ H a = some (.lst vs) ∧ RVs K H xs vs := by
  constructor <;> intro h <;> (unfold RV at *; exact h)
theorem RV.dct {ks : List Key} {xs : List MV} {v : V} : RV K H (.dct ks xs) v ↔ ∃ a vs, v = .ref a ∧ H a = some (.dK (ks.zip vs)) ∧ ks.length = xs.length ∧ RVs K H xs vs := by
  constructor <;> intro h <;> (unfold RV at *; exact h)
theorem RV.scr {ns : List Int} {v : V} : RV K H (.scr ns) v ↔ ∃ a, v = .ref a ∧ SqL K H a (ns.map V.int) := by
  constructor <;> intro h <;> (unfold RV at *; exact h)
theorem RV.fnc {x : Str} {v : V} : RV K H (.fnc x) v ↔ ∃ a, v = .ref a ∧ PySem.W.nsIn K mainGlobals x = some (some (.ref a)) := by
  constructor <;> intro h <;> (unfold RV at *; exact h)
theorem RVs.nil {vs : List V} : RVs K H [] vs ↔ vs = [] := by unfold RVs; rfl
theorem RVs.cons {x : MV} {xs : List MV} {vs : List V} : RVs K H (x :: xs) vs ↔ ∃ v r, vs = v :: r ∧ RV K H x v ∧ RVs K H xs r := by
  rw [RVs]
theorem RVs.length : ∀ {xs : List MV} {vs : List V}, RVs K H xs vs → vs.length = xs.length
  | [], vs, h => by rw [RVs.nil] at h; subst h; rfl
  | x :: xs, vs, h => by
    rw [RVs.cons] at h
    obtain ⟨v, r, rfl, _, h⟩ := h
    simp [RVs.length h]
theorem RVs.get : ∀ {xs : List MV} {vs : List V} {i : Nat} {x : MV}, RVs K H xs vs → xs[i]? = some x → ∃ v, vs[i]? = some v ∧ RV K H x v
  | [], _, i, x, _, e => by simp at e
  | y :: xs, vs, 0, x, h, e => by
    rw [RVs.cons] at h
    obtain ⟨v, r, rfl, h1, _⟩ := h
    simp at e; subst e; exact ⟨v, rfl, h1⟩
  | y :: xs, vs, i + 1, x, h, e => by
    rw [RVs.cons] at h
    obtain ⟨v, r, rfl, _, h⟩ := h
    obtain ⟨u, h1, h2⟩ := RVs.get (i := i) (x := x) h (by simpa using e)
    exact ⟨u, by simpa using h1, h2⟩
theorem RVs.append : ∀ {xs ys : List MV} {vs ws : List V}, RVs K H xs vs → RVs K H ys ws → RVs K H (xs ++ ys) (vs ++ ws)
  | [], ys, vs, ws, h, h2 => by rw [RVs.nil] at h; subst h; exact h2
  | x :: xs, ys, vs, ws, h, h2 => by
    rw [RVs.cons] at h
    obtain ⟨v, r, rfl, h1, h⟩ := h
    show RVs K H (x :: (xs ++ ys)) (v :: (r ++ ws))
    rw [RVs.cons]
    exact ⟨v, r ++ ws, rfl, h1, RVs.append h h2⟩
theorem RVs.take : ∀ {xs : List MV} {vs : List V} (n : Nat), RVs K H xs vs → RVs K H (xs.take n) (vs.take n)
  | _, _, 0, _ => by simp [RVs]
  | [], vs, n + 1, h => by rw [RVs.nil] at h; subst h; simp [RVs]
  | x :: xs, vs, n + 1, h => by
    rw [RVs.cons] at h
    obtain ⟨v, r, rfl, h1, h⟩ := h
    show RVs K H (x :: xs.take n) (v :: r.take n)
    rw [RVs.cons]
    exact ⟨v, _, rfl, h1, RVs.take n h⟩
theorem RVs.drop : ∀ {xs : List MV} {vs : List V} (n : Nat), RVs K H xs vs → RVs K H (xs.drop n) (vs.drop n)
  | _, _, 0, h => h
  | [], vs, n + 1, h => by rw [RVs.nil] at h; subst h; simp [RVs]
  | x :: xs, vs, n + 1, h => by
    rw [RVs.cons] at h
    obtain ⟨v, r, rfl, h1, h⟩ := h
    exact RVs.drop n h
theorem RVs.set : ∀ {xs : List MV} {vs : List V} (i : Nat) {x : MV} {v : V}, RVs K H xs vs → RV K H x v → RVs K H (xs.set i x) (vs.set i v)
  | [], vs, i, x, v, h, _ => by rw [RVs.nil] at h; subst h; simp [RVs]
  | y :: xs, vs, 0, x, v, h, h2 => by
    rw [RVs.cons] at h
    obtain ⟨u, r, rfl, h1, h⟩ := h
    show RVs K H (x :: xs) (v :: r)
    rw [RVs.cons]; exact ⟨v, r, rfl, h2, h⟩
  | y :: xs, vs, i + 1, x, v, h, h2 => by
    rw [RVs.cons] at h
    obtain ⟨u, r, rfl, h1, h⟩ := h
    show RVs K H (y :: xs.set i x) (u :: r.set i v)
    rw [RVs.cons]; exact ⟨u, _, rfl, h1, RVs.set i h h2⟩
theorem RVs.reverse : ∀ {xs : List MV} {vs : List V}, RVs K H xs vs → RVs K H xs.reverse vs.reverse
  | [], vs, h => by rw [RVs.nil] at h; subst h; simp [RVs]
  | x :: xs, vs, h => by
    rw [RVs.cons] at h
    obtain ⟨v, r, rfl, h1, h⟩ := h
    rw [List.reverse_cons, List.reverse_cons]
    refine RVs.append (RVs.reverse h) ?_
    rw [RVs.cons]; exact ⟨v, [], rfl, h1, RVs.nil.mpr rfl⟩
theorem RVs.ints : ∀ {ns : List Int} {vs : List V}, RVs K H (ns.map MV.int) vs ↔ vs = ns.map V.int
  | [], vs => RVs.nil
  | n :: ns, vs => by
    rw [List.map_cons, RVs.cons]
    constructor
    · rintro ⟨v, r, rfl, h1, h2⟩
      rw [RV.int.mp h1, RVs.ints.mp h2]; rfl
    · rintro rfl
      exact ⟨_, _, rfl, RV.int.mpr rfl, RVs.ints.mpr rfl⟩
end
def OF (K : PySem.W.Frag) (Hk H : Hp) : MV → V → List Addr → Prop
  | .own xs, v, A => ∃ p vs, v = .ref p ∧ A = [p] ∧ H p = some (.lst vs) ∧ RVs K Hk xs vs
  | .dow ks xs, v, A => ∃ p vs, v = .ref p ∧ A = [p] ∧ H p = some (.dK (ks.zip vs)) ∧ ks.length = xs.length ∧ RVs K Hk xs vs
  | .dot ks xs, v, A => ∃ p vs, v = .ref p ∧ A = [p] ∧ H p = some (.dT (ks.zip vs)) ∧ ks.length = xs.length ∧ RVs K Hk xs vs
  | x, v, A => A = [] ∧ RV K Hk x v
def OFs (K : PySem.W.Frag) (Hk H : Hp) : List (Str × MV) → List (Str × V) → List Addr → Prop
  | [], vs, A => vs = [] ∧ A = []
  | (n, x) :: xs, vs, A => ∃ v r B C, vs = (n, v) :: r ∧ A = B ++ C ∧ OF K Hk H x v B ∧ OFs K Hk H xs r C
def OV (K : PySem.W.Frag) (Hk H : Hp) : MV → V → List Addr → Prop
  | .obj C fs, v, A => ∃ p CA dx vfs B, v = .ref p ∧ A = p :: B ∧ PySem.W.nsIn K mainGlobals C = some (some (.ref CA)) ∧ H p = some (.ins CA dx vfs) ∧ OFs K Hk H fs vfs B ∧ (p :: B).Nodup
  | x, v, A => OF K Hk H x v A
def MV.per : MV → Bool
  | .own _ => false
  | .obj _ _ => false
  | .dow _ _ => false
  | .dot _ _ => false
  | _ => true
theorem OF.per {K : PySem.W.Frag} {Hk H : Hp} {x : MV} {v : V} {A : List Addr} (h : x.per = true) : OF K Hk H x v A ↔ A = [] ∧ RV K Hk x v := by
  cases x <;> first | (simp [MV.per] at h; done) | (unfold OF; rfl)
theorem OV.per {K : PySem.W.Frag} {Hk H : Hp} {x : MV} {v : V} {A : List Addr} (h : x.per = true) : OV K Hk H x v A ↔ A = [] ∧ RV K Hk x v := by
  cases x <;> first | (simp [MV.per] at h; done) | (unfold OV OF; rfl)
theorem OV.own {K : PySem.W.Frag} {Hk H : Hp} {xs : List MV} {v : V} {A : List Addr} : OV K Hk H (.own xs) v A ↔ ∃ p vs, v = .ref p ∧ A = [p] ∧ H p = some (.lst vs) ∧ RVs K Hk xs vs := by
  unfold OV OF; rfl
theorem RV.isper {K : PySem.W.Frag} {H : Hp} {x : MV} {v : V} (h : RV K H x v) : x.per = true := by
  cases x <;> first | rfl | (unfold RV at h; exact h.elim)
theorem RV.ov {K : PySem.W.Frag} {Hk H : Hp} {x : MV} {v : V} (h : RV K Hk x v) : OV K Hk H x v [] := (OV.per h.isper).mpr ⟨rfl, h⟩
theorem OF.move {K : PySem.W.Frag} {Hk Hk' H H' : Hp} {x : MV} {v : V} {A : List Addr} (h : OF K Hk H x v A) (e : Ex Hk Hk') (k : ∀ a ∈ A, ∀ o, H a = some o → H' a = some o) : OF K Hk' H' x v A := by
  cases x with
  | own xs =>
    unfold OF at h ⊢
    obtain ⟨p, vs, e1, e2, e3, e4⟩ := h
    exact ⟨p, vs, e1, e2, k p (by rw [e2]; simp) _ e3, e4.mono e⟩
  | dow ks xs =>
    unfold OF at h ⊢
    obtain ⟨p, vs, e1, e2, e3, e5, e4⟩ := h
    exact ⟨p, vs, e1, e2, k p (by rw [e2]; simp) _ e3, e5, e4.mono e⟩
  | dot ks xs =>
    unfold OF at h ⊢
    obtain ⟨p, vs, e1, e2, e3, e5, e4⟩ := h
    exact ⟨p, vs, e1, e2, k p (by rw [e2]; simp) _ e3, e5, e4.mono e⟩
  | obj C fs => exact (show False by unfold OF at h; unfold RV at h; exact h.2).elim
  | _ =>
    unfold OF at h ⊢
    exact ⟨h.1, RV.mono e _ _ h.2⟩
theorem OFs.move {K : PySem.W.Frag} {Hk Hk' H H' : Hp} : ∀ {fs : List (Str × MV)} {vs : List (Str × V)} {A : List Addr}, OFs K Hk H fs vs A → Ex Hk Hk' → (∀ a ∈ A, ∀ o, H a = some o → H' a = some o) → OFs K Hk' H' fs vs A
  | [], _, _, h, _, _ => h
  | (n, x) :: fs, vs, A, h, e, k => by
    obtain ⟨v, r, B, C, e1, e2, h1, h2⟩ := h
    refine ⟨v, r, B, C, e1, e2, h1.move e fun a ha => k a (by rw [e2]; exact List.mem_append_left _ ha), OFs.move h2 e fun a ha => k a (by rw [e2]; exact List.mem_append_right _ ha)⟩
theorem OV.move {K : PySem.W.Frag} {Hk Hk' H H' : Hp} {x : MV} {v : V} {A : List Addr} (h : OV K Hk H x v A) (e : Ex Hk Hk') (k : ∀ a ∈ A, ∀ o, H a = some o → H' a = some o) : OV K Hk' H' x v A := by
  cases x with
  | obj C fs =>
    unfold OV at h ⊢
    obtain ⟨p, CA, dx, vfs, B, e1, e2, e0, e3, e4, e5⟩ := h
    exact ⟨p, CA, dx, vfs, B, e1, e2, e0, k p (by rw [e2]; simp) _ e3, OFs.move e4 e fun a ha => k a (by rw [e2]; exact List.mem_cons_of_mem _ ha), e5⟩
  | _ => (unfold OV at h ⊢; exact OF.move h e k)
theorem OF.there {K : PySem.W.Frag} {Hk H : Hp} {x : MV} {v : V} {A : List Addr} (h : OF K Hk H x v A) : ∀ a ∈ A, ∃ o, H a = some o := by
  cases x with
  | own xs =>
    unfold OF at h
    obtain ⟨p, vs, e1, e2, e3, e4⟩ := h
    intro a ha
    rw [e2] at ha
    simp at ha
    subst ha
    exact ⟨_, e3⟩
  | dow ks xs =>
    unfold OF at h
    obtain ⟨p, vs, e1, e2, e3, e5, e4⟩ := h
    intro a ha
    rw [e2] at ha
    simp at ha
    subst ha
    exact ⟨_, e3⟩
  | dot ks xs =>
    unfold OF at h
    obtain ⟨p, vs, e1, e2, e3, e5, e4⟩ := h
    intro a ha
    rw [e2] at ha
    simp at ha
    subst ha
    exact ⟨_, e3⟩
  | _ =>
    unfold OF at h
    intro a ha
    rw [h.1] at ha
    cases ha
theorem OFs.there {K : PySem.W.Frag} {Hk H : Hp} : ∀ {fs : List (Str × MV)} {vs : List (Str × V)} {A : List Addr}, OFs K Hk H fs vs A → ∀ a ∈ A, ∃ o, H a = some o
  | [], _, _, h, a, ha => by rw [h.2] at ha; cases ha
  | (n, x) :: fs, vs, A, h, a, ha => by
    obtain ⟨v, r, B, C, e1, e2, h1, h2⟩ := h
    rw [e2] at ha
    rcases List.mem_append.mp ha with ha | ha
    · exact h1.there a ha
    · exact OFs.there h2 a ha
theorem OV.there {K : PySem.W.Frag} {Hk H : Hp} {x : MV} {v : V} {A : List Addr} (h : OV K Hk H x v A) : ∀ a ∈ A, ∃ o, H a = some o := by
  cases x with
  | obj C fs =>
    unfold OV at h
    obtain ⟨p, CA, dx, vfs, B, e1, e2, e0, e3, e4, e5⟩ := h
    intro a ha
    rw [e2] at ha
    rcases List.mem_cons.mp ha with rfl | ha
    · exact ⟨_, e3⟩
    · exact OFs.there e4 a ha
  | _ => (unfold OV at h; exact OF.there h)
def put (ow : Nat → List Addr) (i : Nat) (A : List Addr) : Nat → List Addr := fun j => if j = i then A else ow j
theorem put_same {ow : Nat → List Addr} {i : Nat} {A : List Addr} : put ow i A i = A := if_pos rfl
theorem put_ne {ow : Nat → List Addr} {i j : Nat} {A : List Addr} (h : j ≠ i) : put ow i A j = ow j := if_neg h
structure SL (K : PySem.W.Frag) (F Hk H : Hp) (ow : Nat → List Addr) (σ : St) (ρ : Env) : Prop where
  s : ∀ (i : Nat) x, ρ[i]? = some (some x) → ∃ v, σ[i]? = some (some v) ∧ OV K Hk H x v (ow i)
  f : ∀ i a, a ∈ ow i → Hk a = none ∧ F a = none ∧ ∃ o, H a = some o
  w : ∀ i, ow i ≠ [] → i < ρ.length
  d : ∀ i j a, i ≠ j → a ∈ ow i → a ∉ ow j
structure RS (K : PySem.W.Frag) (F Hk H : Hp) (bp : List (Nat × Addr)) (σ : St) (ρ : Env) : Prop where
  len : σ.length = ρ.length
  ex : Ex Hk H
  fr : Ex F H
  frk : ∀ a o, F a = some o → Hk a = none
  ow : ∃ ow, SL K F Hk H ow σ ρ
  bor : ∀ q ∈ bp, σ[q.1]? = some (some (.ref q.2))
theorem set_get {α : Type} {l : List α} {i j : Nat} {x y : α} (h : (l.set i x)[j]? = some y) : (j = i ∧ y = x) ∨ (j ≠ i ∧ l[j]? = some y) := by
  by_cases e : i = j
  · subst e
    rw [List.getElem?_set] at h
    simp at h
    exact .inl ⟨rfl, h.2.symm⟩
  · rw [List.getElem?_set_ne e] at h
    exact .inr ⟨fun q => e q.symm, h⟩
theorem app_get {α : Type} {l : List α} {j : Nat} {x y : α} (h : (l ++ [x])[j]? = some y) : (j = l.length ∧ y = x) ∨ (j < l.length ∧ l[j]? = some y) := by
  by_cases e : j < l.length
  · rw [List.getElem?_append_left e] at h; exact .inr ⟨e, h⟩
  · rw [List.getElem?_append_right (Nat.le_of_not_lt e)] at h
    have := (List.getElem?_eq_some_iff.mp h).1
    simp at this
    have ej : j = l.length := by omega
    subst ej
    simp at h
    exact .inl ⟨rfl, h.symm⟩
theorem lt_get {α : Type} {l : List α} {j : Nat} {y : α} (h : l[j]? = some y) : j < l.length := (List.getElem?_eq_some_iff.mp h).1
section
variable {K : PySem.W.Frag} {F Hk Hk' H H' : Hp} {bp : List (Nat × Addr)} {σ : St} {ρ : Env} {ow : Nat → List Addr}
theorem SL.out (S : SL K F Hk H ow σ ρ) {i : Nat} (h : ρ.length ≤ i) : ow i = [] := by
  cases e : ow i with
  | nil => rfl
  | cons a r => exact absurd (S.w i (by rw [e]; simp)) (by omega)
theorem SL.fresh (S : SL K F Hk H ow σ ρ) {p : Addr} (h : H p = none) (i : Nat) : p ∉ ow i := fun m => by
  obtain ⟨_, _, o, e⟩ := S.f i p m
  rw [h] at e; cases e
theorem SL.step (S : SL K F Hk H ow σ ρ) (e : Ex Hk Hk') (k : ∀ i, ∀ a ∈ ow i, H' a = H a ∧ Hk' a = none) : SL K F Hk' H' ow σ ρ := by
  refine ⟨fun i x h => ?_, fun i a h => ?_, S.w, S.d⟩
  · obtain ⟨v, ev, o⟩ := S.s i x h
    exact ⟨v, ev, o.move e fun a ha u hu => by rw [(k i a ha).1]; exact hu⟩
  · obtain ⟨f1, f2, o, f3⟩ := S.f i a h
    exact ⟨(k i a h).2, f2, o, by rw [(k i a h).1]; exact f3⟩
theorem SL.set (S : SL K F Hk H ow σ ρ) (hl : σ.length = ρ.length) {i : Nat} {x : MV} {v : V} (hi : i < ρ.length) (r : RV K Hk x v) : SL K F Hk H (put ow i []) (σ.set i (some v)) (ρ.set i (some x)) := by
  refine ⟨fun j y h => ?_, fun j a h => ?_, fun j h => ?_, fun j k a hjk h => ?_⟩
  · rcases set_get h with ⟨rfl, e⟩ | ⟨ne, e⟩
    · cases e
      refine ⟨v, by rw [List.getElem?_set_self (by rw [hl]; exact hi)], ?_⟩
      rw [put_same]; exact r.ov
    · obtain ⟨u, e1, e2⟩ := S.s j y e
      exact ⟨u, by rw [List.getElem?_set_ne (Ne.symm ne)]; exact e1, by rw [put_ne ne]; exact e2⟩
  · by_cases e : j = i
    · rw [e, put_same] at h; cases h
    · rw [put_ne e] at h; exact S.f j a h
  · by_cases e : j = i
    · rw [e, put_same] at h; exact (h rfl).elim
    · rw [put_ne e] at h; rw [List.length_set]; exact S.w j h
  · by_cases e : j = i
    · rw [e, put_same] at h; cases h
    · rw [put_ne e] at h
      by_cases e2 : k = i
      · rw [e2, put_same]; simp
      · rw [put_ne e2]; exact S.d j k a hjk h
theorem SL.push (S : SL K F Hk H ow σ ρ) (hl : σ.length = ρ.length) {x : MV} {v : V} {A : List Addr} (o : OV K Hk H x v A) (hf : ∀ a ∈ A, Hk a = none ∧ F a = none) (hd : ∀ i, ∀ a ∈ A, a ∉ ow i) :
    SL K F Hk H (put ow ρ.length A) (σ ++ [some v]) (ρ ++ [some x]) := by
  refine ⟨fun j y h => ?_, fun j a h => ?_, fun j h => ?_, fun j k a hjk h => ?_⟩
  · rcases app_get h with ⟨rfl, e⟩ | ⟨lt, e⟩
    · cases e
      refine ⟨v, by rw [← hl]; simp, ?_⟩
      rw [put_same]; exact o
    · obtain ⟨u, e1, e2⟩ := S.s j y e
      exact ⟨u, by rw [List.getElem?_append_left (by rw [hl]; exact lt)]; exact e1, by rw [put_ne (Nat.ne_of_lt lt)]; exact e2⟩
  · by_cases e : j = ρ.length
    · rw [e, put_same] at h; exact ⟨(hf a h).1, (hf a h).2, o.there a h⟩
    · rw [put_ne e] at h; exact S.f j a h
  · by_cases e : j = ρ.length
    · rw [e]; simp
    · rw [put_ne e] at h; have := S.w j h; simp; omega
  · by_cases e : j = ρ.length
    · rw [e, put_same] at h
      rw [put_ne (fun z => hjk (e.trans z.symm))]
      exact hd k a h
    · rw [put_ne e] at h
      by_cases e2 : k = ρ.length
      · rw [e2, put_same]; exact fun z => hd j a z h
      · rw [put_ne e2]; exact S.d j k a hjk h
theorem SL.take (S : SL K F Hk H ow (σ ++ [some v]) (ρ ++ [some x])) (hl : σ.length = ρ.length) {i : Nat} (hi : i < ρ.length) : SL K F Hk H (put (put ow i (ow ρ.length)) ρ.length []) (σ.set i (some v)) (ρ.set i (some x)) := by
  have ne : i ≠ ρ.length := Nat.ne_of_lt hi
  obtain ⟨u, hu, ou⟩ := S.s ρ.length x (by simp)
  have ev : u = v := by rw [← hl] at hu; simpa using hu.symm
  subst ev
  have lt : ∀ j a, a ∈ put (put ow i (ow ρ.length)) ρ.length [] j → (j = i ∧ a ∈ ow ρ.length) ∨ (j ≠ i ∧ j < ρ.length ∧ a ∈ ow j) := fun j a h => by
    by_cases e : j = ρ.length
    · rw [e, put_same] at h; cases h
    · rw [put_ne e] at h
      by_cases e2 : j = i
      · rw [e2, put_same] at h; exact .inl ⟨e2, h⟩
      · rw [put_ne e2] at h
        have := S.w j (by intro z; rw [z] at h; cases h)
        simp at this
        exact .inr ⟨e2, by omega, h⟩
  refine ⟨fun j y h => ?_, fun j a h => ?_, fun j h => ?_, fun j k a hjk h => ?_⟩
  · rcases set_get h with ⟨rfl, e⟩ | ⟨ne2, e⟩
    · cases e
      refine ⟨u, by rw [List.getElem?_set_self (by rw [hl]; exact hi)], ?_⟩
      rw [put_ne ne, put_same]; exact ou
    · have lj := lt_get e
      obtain ⟨w, e1, e2⟩ := S.s j y (by rw [List.getElem?_append_left lj]; exact e)
      rw [List.getElem?_append_left (by rw [hl]; exact lj)] at e1
      exact ⟨w, by rw [List.getElem?_set_ne (Ne.symm ne2)]; exact e1, by rw [put_ne (Nat.ne_of_lt lj), put_ne ne2]; exact e2⟩
  · rcases lt j a h with ⟨_, m⟩ | ⟨_, _, m⟩
    · exact S.f _ a m
    · exact S.f _ a m
  · rw [List.length_set]
    cases e : put (put ow i (ow ρ.length)) ρ.length [] j with
    | nil => exact (h e).elim
    | cons a r =>
      rcases lt j a (by rw [e]; simp) with ⟨e, _⟩ | ⟨_, l, _⟩
      · rw [e]; exact hi
      · exact l
  · intro hk
    rcases lt j a h with ⟨e1, m⟩ | ⟨e1, l1, m⟩ <;> rcases lt k a hk with ⟨e2, m2⟩ | ⟨e2, l2, m2⟩
    · exact hjk (e1.trans e2.symm)
    · exact S.d ρ.length k a (by omega) m m2
    · exact S.d j ρ.length a (by omega) m m2
    · exact S.d j k a hjk m m2
theorem SL.drop (S : SL K F Hk H ow (σ ++ [y]) (ρ ++ [x])) (hl : σ.length = ρ.length) : SL K F Hk H (put ow ρ.length []) σ ρ := by
  refine ⟨fun j y h => ?_, fun j a h => ?_, fun j h => ?_, fun j k a hjk h => ?_⟩
  · have lj := lt_get h
    obtain ⟨w, e1, e2⟩ := S.s j y (by rw [List.getElem?_append_left lj]; exact h)
    rw [List.getElem?_append_left (by rw [hl]; exact lj)] at e1
    exact ⟨w, e1, by rw [put_ne (Nat.ne_of_lt lj)]; exact e2⟩
  · by_cases e : j = ρ.length
    · rw [e, put_same] at h; cases h
    · rw [put_ne e] at h; exact S.f j a h
  · by_cases e : j = ρ.length
    · rw [e, put_same] at h; exact (h rfl).elim
    · rw [put_ne e] at h; have := S.w j h; simp at this; omega
  · by_cases e : j = ρ.length
    · rw [e, put_same] at h; cases h
    · rw [put_ne e] at h
      by_cases e2 : k = ρ.length
      · rw [e2, put_same]; simp
      · rw [put_ne e2]; exact S.d j k a hjk h
theorem RS.get (S : RS K F Hk H bp σ ρ) {i : Nat} {x : MV} (h : ρ[i]? = some (some x)) (hp : x.per = true) : ∃ v, σ[i]? = some (some v) ∧ RV K Hk x v := by
  obtain ⟨ow, s⟩ := S.ow
  obtain ⟨v, e, o⟩ := s.s i x h
  exact ⟨v, e, ((OV.per hp).mp o).2⟩
theorem RS.getOwn (S : RS K F Hk H bp σ ρ) {i : Nat} {xs : List MV} (h : ρ[i]? = some (some (.own xs))) : ∃ p vs, σ[i]? = some (some (.ref p)) ∧ H p = some (.lst vs) ∧ RVs K Hk xs vs ∧ Hk p = none ∧ F p = none := by
  obtain ⟨ow, s⟩ := S.ow
  obtain ⟨v, e, o⟩ := s.s i _ h
  obtain ⟨p, vs, e1, e2, e3, e4⟩ := OV.own.mp o
  have m : p ∈ ow i := by rw [e2]; simp
  exact ⟨p, vs, by rw [e, e1], e3, e4, (s.f i p m).1, (s.f i p m).2.1⟩
theorem RS.step (S : RS K F Hk H bp σ ρ) (e : Ex Hk Hk') (e' : Ex Hk' H') (k : ∀ a o, Hk a = none → H a = some o → H' a = some o ∧ Hk' a = none) : RS K F Hk' H' bp σ ρ := by
  obtain ⟨ow, s⟩ := S.ow
  refine ⟨S.len, e', fun a o h => (k a o (S.frk a o h) (S.fr a o h)).1, fun a o h => (k a o (S.frk a o h) (S.fr a o h)).2, ⟨ow, s.step e fun i a h => ?_⟩, S.bor⟩
  obtain ⟨f1, _, o, f2⟩ := s.f i a h
  exact ⟨((k a o f1 f2).1).trans f2.symm, (k a o f1 f2).2⟩
theorem RS.new (S : RS K F Hk H bp σ ρ) {p : Addr} {o : HO} (h : H p = none) : RS K F (upd Hk p o) (upd H p o) bp σ ρ :=
  S.step (Ex.new (S.ex.back h)) (S.ex.both h) fun a u hk ha => by
    have ne := ne_of_none ha h
    rw [upd_ne ne, upd_ne ne]
    exact ⟨ha, hk⟩
theorem RS.more (S : RS K F Hk H bp σ ρ) {p : Addr} {o : HO} (h : H p = none) : RS K F Hk (upd H p o) bp σ ρ :=
  S.step (Ex.refl _) (S.ex.mut (S.ex.back h)) fun a u hk ha => by
    rw [upd_ne (ne_of_none ha h)]
    exact ⟨ha, hk⟩
theorem RS.set (S : RS K F Hk H bp σ ρ) {i : Nat} {x : MV} {v : V} (hi : i < ρ.length) (r : RV K Hk x v) (hb : ∀ q ∈ bp, q.1 ≠ i) : RS K F Hk H bp (σ.set i (some v)) (ρ.set i (some x)) := by
  obtain ⟨ow, s⟩ := S.ow
  exact ⟨by simp [S.len], S.ex, S.fr, S.frk, ⟨_, s.set S.len hi r⟩, fun q hq => by rw [List.getElem?_set_ne (Ne.symm (hb q hq))]; exact S.bor q hq⟩
theorem RS.bor_app (S : RS K F Hk H bp σ ρ) (y : Option V) : ∀ q ∈ bp, (σ ++ [y])[q.1]? = some (some (.ref q.2)) := fun q hq => by
  have q1 := S.bor q hq
  rw [List.getElem?_append_left (lt_get q1)]; exact q1
theorem RS.push (S : RS K F Hk H bp σ ρ) {x : MV} {v : V} (r : RV K Hk x v) : RS K F Hk H bp (σ ++ [some v]) (ρ ++ [some x]) := by
  obtain ⟨ow, s⟩ := S.ow
  exact ⟨by simp [S.len], S.ex, S.fr, S.frk, ⟨_, s.push S.len r.ov (fun _ h => nomatch h) (fun _ _ h => nomatch h)⟩, S.bor_app _⟩
theorem RS.pushOwn (S : RS K F Hk H bp σ ρ) {p : Addr} {xs : List MV} {vs : List V} (h : H p = none) (r : RVs K Hk xs vs) : RS K F Hk (upd H p (.lst vs)) bp (σ ++ [some (.ref p)]) (ρ ++ [some (.own xs)]) := by
  obtain ⟨ow, s⟩ := S.ow
  have S' := S.more (o := .lst vs) h
  have s' : SL K F Hk (upd H p (.lst vs)) ow σ ρ := s.step (Ex.refl _) fun i a ha => by
    obtain ⟨f1, f2, o, f3⟩ := s.f i a ha
    exact ⟨upd_ne (ne_of_none f3 h), f1⟩
  have fp : F p = none := by
    cases e : F p with
    | none => rfl
    | some o => have := S.fr p o e; rw [h] at this; cases this
  refine ⟨by simp [S.len], S'.ex, S'.fr, S'.frk, ⟨_, s'.push S.len (A := [p]) (OV.own.mpr ⟨p, vs, rfl, rfl, upd_same, r⟩) (fun a ha => ?_) (fun i a ha => ?_)⟩, S.bor_app _⟩
  · simp at ha; subst ha; exact ⟨S.ex.back h, fp⟩
  · simp at ha; subst ha; exact s.fresh h i
theorem RS.take {v : V} {x : MV} (S : RS K F Hk H bp (σ ++ [some v]) (ρ ++ [some x])) {i : Nat} (hi : i < ρ.length) (hb : ∀ q ∈ bp, q.1 ≠ i ∧ q.1 < ρ.length) : RS K F Hk H bp (σ.set i (some v)) (ρ.set i (some x)) := by
  obtain ⟨ow, s⟩ := S.ow
  have hl : σ.length = ρ.length := by have := S.len; simpa using this
  refine ⟨by simp [hl], S.ex, S.fr, S.frk, ⟨_, s.take hl hi⟩, fun q hq => ?_⟩
  have q1 := S.bor q hq
  rw [List.getElem?_append_left (by rw [hl]; exact (hb q hq).2)] at q1
  rw [List.getElem?_set_ne (Ne.symm (hb q hq).1)]; exact q1
theorem RS.drop {y : Option V} {x : Option MV} (S : RS K F Hk H bp (σ ++ [y]) (ρ ++ [x])) (hb : ∀ q ∈ bp, q.1 < ρ.length) : RS K F Hk H bp σ ρ := by
  obtain ⟨ow, s⟩ := S.ow
  have hl : σ.length = ρ.length := by have := S.len; simpa using this
  refine ⟨hl, S.ex, S.fr, S.frk, ⟨_, s.drop hl⟩, fun q hq => ?_⟩
  have q1 := S.bor q hq
  rw [List.getElem?_append_left (by rw [hl]; exact hb q hq)] at q1
  exact q1
theorem RS.freeze (S : RS K F Hk H bp σ ρ) {i : Nat} {xs : List MV} (h : ρ[i]? = some (some (.own xs))) :
    ∃ p vs, σ[i]? = some (some (.ref p)) ∧ Ex Hk (upd Hk p (.lst vs)) ∧ RV K (upd Hk p (.lst vs)) (.lst xs) (.ref p) ∧ RS K F (upd Hk p (.lst vs)) H bp σ (ρ.set i (some (.lst xs))) := by
  obtain ⟨ow, s⟩ := S.ow
  obtain ⟨v, ev, o⟩ := s.s i _ h
  obtain ⟨p, vs, e1, e2, e3, e4⟩ := OV.own.mp o
  have m : p ∈ ow i := by rw [e2]; simp
  obtain ⟨f1, f2, _⟩ := s.f i p m
  have ex : Ex Hk (upd Hk p (.lst vs)) := Ex.new f1
  have rv : RV K (upd Hk p (.lst vs)) (.lst xs) (.ref p) := RV.lst.mpr ⟨p, vs, rfl, upd_same, e4.mono ex⟩
  have li := lt_get h
  refine ⟨p, vs, by rw [ev, e1], ex, rv, by simp [S.len], S.ex.updL e3, S.fr, fun a u ha => ?_, ⟨put ow i [], ?_⟩, S.bor⟩
  · rw [upd_ne (ne_of_none ha f2)]; exact S.frk a u ha
  · refine ⟨fun j y hj => ?_, fun j a hj => ?_, fun j hj => ?_, fun j k a hjk hj => ?_⟩
    · rcases set_get hj with ⟨rfl, e⟩ | ⟨ne, e⟩
      · cases e
        exact ⟨v, ev, by rw [put_same, e1]; exact rv.ov⟩
      · obtain ⟨u, u1, u2⟩ := s.s j y e
        exact ⟨u, u1, by rw [put_ne ne]; exact u2.move ex fun _ _ _ z => z⟩
    · by_cases e : j = i
      · rw [e, put_same] at hj; cases hj
      · rw [put_ne e] at hj
        obtain ⟨g1, g2⟩ := s.f j a hj
        refine ⟨?_, g2⟩
        rw [upd_ne (fun z => s.d j i a e hj (by rw [z]; exact m))]; exact g1
    · by_cases e : j = i
      · rw [e, put_same] at hj; exact (hj rfl).elim
      · rw [put_ne e] at hj; rw [List.length_set]; exact s.w j hj
    · by_cases e : j = i
      · rw [e, put_same] at hj; cases hj
      · rw [put_ne e] at hj
        by_cases e2 : k = i
        · rw [e2, put_same]; simp
        · rw [put_ne e2]; exact s.d j k a hjk hj
theorem RS.change (S : RS K F Hk H bp σ ρ) {i : Nat} {xs ys : List MV} (h : ρ[i]? = some (some (.own xs))) :
    ∃ p vs, σ[i]? = some (some (.ref p)) ∧ H p = some (.lst vs) ∧ RVs K Hk xs vs ∧ ∀ ws, RVs K Hk ys ws → RS K F Hk (upd H p (.lst ws)) bp σ (ρ.set i (some (.own ys))) := by
  obtain ⟨ow, s⟩ := S.ow
  obtain ⟨v, ev, o⟩ := s.s i _ h
  obtain ⟨p, vs, e1, e2, e3, e4⟩ := OV.own.mp o
  have m : p ∈ ow i := by rw [e2]; simp
  obtain ⟨f1, f2, _⟩ := s.f i p m
  refine ⟨p, vs, by rw [ev, e1], e3, e4, fun ws r => ⟨by simp [S.len], S.ex.mut f1, S.fr.mut f2, S.frk, ⟨ow, ?_⟩, S.bor⟩⟩
  refine ⟨fun j y hj => ?_, fun j a hj => ?_, fun j hj => by rw [List.length_set]; exact s.w j hj, s.d⟩
  · rcases set_get hj with ⟨rfl, e⟩ | ⟨ne, e⟩
    · cases e
      exact ⟨v, ev, OV.own.mpr ⟨p, ws, e1, e2, upd_same, r⟩⟩
    · obtain ⟨u, u1, u2⟩ := s.s j y e
      exact ⟨u, u1, u2.move (Ex.refl _) fun a ha o ho => by rw [upd_ne (fun z => s.d j i a ne ha (by rw [z]; exact m))]; exact ho⟩
  · obtain ⟨g1, g2, o, g3⟩ := s.f j a hj
    by_cases e : a = p
    · subst e; exact ⟨g1, g2, _, upd_same⟩
    · exact ⟨g1, g2, o, by rw [upd_ne e]; exact g3⟩
end
end Tm
set_option Elab.async false
set_option linter.all false
set_option maxRecDepth 100000
set_option maxHeartbeats 2000000
namespace Tm
open PySem L2
open Evl (Ex ex_rd ex_l ex_t)
structure Ct where
  K : PySem.W.Frag
  mg : Str → Option Value
  W : WX
  bs : List Nat
  J : Hp → List (Nat × Addr) → Prop
  Jm : ∀ F F1 bp, Ex F F1 → J F bp → J F1 bp
def XFs (K : PySem.W.Frag) (H : Hp) : List (Str × MV) → List (Str × V) → Prop
  | [], vs => vs = []
  | (n, x) :: xs, vs => ∃ v r, vs = (n, v) :: r ∧ RV K H x v ∧ XFs K H xs r
def ExR (K : PySem.W.Frag) (mg : Str → Option Value) (H : Hp) (e : MX) (cls : Value) (d : Option Addr) : Prop :=
  ∃ C, mg e.cls = some (.ref C) ∧ cls = .ref C ∧ ((e.fs = [] ∧ d = none) ∨ ∃ dx vfs, d = some dx ∧ H dx = some (.xd vfs) ∧ XFs K H e.fs vfs)
theorem XFs.mono {K : PySem.W.Frag} {H H' : Hp} (e : Ex H H') : ∀ {xs : List (Str × MV)} {vs : List (Str × V)}, XFs K H xs vs → XFs K H' xs vs
  | [], _, h => h
  | (n, x) :: xs, vs, h => by
    obtain ⟨v, r, e1, e2, e3⟩ := h
    exact ⟨v, r, e1, RV.mono e _ _ e2, XFs.mono e e3⟩
theorem ExR.mono {K : PySem.W.Frag} {mg : Str → Option Value} {H H' : Hp} {e : MX} {cls : Value} {d : Option Addr} (x : Ex H H') (h : ExR K mg H e cls d) : ExR K mg H' e cls d := by
  obtain ⟨C, h1, h2, h3⟩ := h
  refine ⟨C, h1, h2, ?_⟩
  rcases h3 with h3 | ⟨dx, vfs, a, b, c⟩
  · exact .inl h3
  · exact .inr ⟨dx, vfs, a, x _ _ b, c.mono x⟩
abbrev ME := Env → Res (MV × Env)
abbrev MT := Env → Res (Bool × Env)
abbrev MA := Env → Res (List MV × Env)
abbrev MS := Env → Res (Fl × Env)
def Wish (c : Ct) (F Hk : Hp) (bp : List (Nat × Addr)) (σ : St) (e : MX) (ρ : Env) : Prop :=
  ∀ Hk' H' cls d, Ex Hk Hk' → RS c.K F Hk' H' bp σ ρ → ExR c.K c.mg Hk' e cls d → c.W cls d σ H'
def okE (c : Ct) (F Hk : Hp) (bp : List (Nat × Addr)) (σ : St) (Q : VK) : Res (MV × Env) → Prop
  | .ok (x, ρ') => ∀ Hk' H' v, Ex Hk Hk' → RS c.K F Hk' H' bp σ ρ' → RV c.K Hk' x v → Q v H'
  | .exc e ρ' => Wish c F Hk bp σ e ρ'
  | .stuck => False
def okO (c : Ct) (F Hk : Hp) (bp : List (Nat × Addr)) (σ : St) (Q : VK) : Res (MV × Env) → Prop
  | .ok (x, ρ') => ∀ Hk' H' v, Ex Hk Hk' → RS c.K F Hk' H' bp (σ ++ [some v]) (ρ' ++ [some x]) → Q v H'
  | .exc e ρ' => Wish c F Hk bp σ e ρ'
  | .stuck => False
def okT (c : Ct) (F Hk : Hp) (bp : List (Nat × Addr)) (σ : St) (Q : Bool → Hp → Prop) : Res (Bool × Env) → Prop
  | .ok (x, ρ') => ∀ Hk' H', Ex Hk Hk' → RS c.K F Hk' H' bp σ ρ' → Q x H'
  | .exc e ρ' => Wish c F Hk bp σ e ρ'
  | .stuck => False
def okA (c : Ct) (F Hk : Hp) (bp : List (Nat × Addr)) (σ : St) (Q : List V → Hp → Prop) : Res (List MV × Env) → Prop
  | .ok (xs, ρ') => ∀ Hk' H' vs, Ex Hk Hk' → RS c.K F Hk' H' bp σ ρ' → RVs c.K Hk' xs vs → Q vs H'
  | .exc e ρ' => Wish c F Hk bp σ e ρ'
  | .stuck => False
def okS (c : Ct) (F Hk : Hp) (bp : List (Nat × Addr)) (D : Ends) : Res (Fl × Env) → Prop
  | .ok (.nx, ρ') => ∀ Hk' H' σ', Ex Hk Hk' → RS c.K F Hk' H' bp σ' ρ' → D.nx σ' H'
  | .ok (.br, ρ') => ∀ Hk' H' σ', Ex Hk Hk' → RS c.K F Hk' H' bp σ' ρ' → D.bk σ' H'
  | .ok (.ct, ρ') => ∀ Hk' H' σ', Ex Hk Hk' → RS c.K F Hk' H' bp σ' ρ' → D.ct σ' H'
  | .ok (.rt x, ρ') => ∀ Hk' H' σ' v, Ex Hk Hk' → (∀ q ∈ bp, q.1 < σ'.length) → RS c.K F Hk' H' bp (σ' ++ [some v]) (ρ' ++ [some x]) → D.rt v H'
  | .exc e ρ' => ∀ Hk' H' σ' cls d, Ex Hk Hk' → RS c.K F Hk' H' bp σ' ρ' → ExR c.K c.mg Hk' e cls d → c.W cls d σ' H'
  | .stuck => False
def At (c : Ct) (F Hk H : Hp) (bp : List (Nat × Addr)) (σ : St) (ρ : Env) : Prop := RS c.K F Hk H bp σ ρ ∧ bp.map (·.1) = c.bs ∧ c.J F bp
def rdE (c : Ct) (m : ME) : TE := fun σ H Q => ∃ F Hk bp ρ, At c F Hk H bp σ ρ ∧ okE c F Hk bp σ Q (m ρ)
def rdO (c : Ct) (m : ME) : TE := fun σ H Q => ∃ F Hk bp ρ, At c F Hk H bp σ ρ ∧ okO c F Hk bp σ Q (m ρ)
def rdT (c : Ct) (m : MT) : TT := fun σ H Q => ∃ F Hk bp ρ, At c F Hk H bp σ ρ ∧ okT c F Hk bp σ Q (m ρ)
def rdA (c : Ct) (m : MA) : TA := fun σ H Q => ∃ F Hk bp ρ, At c F Hk H bp σ ρ ∧ okA c F Hk bp σ Q (m ρ)
def rdS (c : Ct) (m : MS) : TS := fun D σ H => ∃ F Hk bp ρ, At c F Hk H bp σ ρ ∧ okS c F Hk bp D (m ρ)
section
variable {c : Ct} {F Hk Hk' H H' : Hp} {bp : List (Nat × Addr)} {σ : St} {ρ : Env}
theorem Wish.mono {e : MX} (x : Ex Hk Hk') (h : Wish c F Hk bp σ e ρ) : Wish c F Hk' bp σ e ρ := fun Hk2 H2 cls d x2 => h Hk2 H2 cls d (x.trans x2)
theorem okE.mono {Q : VK} {r : Res (MV × Env)} (x : Ex Hk Hk') (h : okE c F Hk bp σ Q r) : okE c F Hk' bp σ Q r := by
  cases r with
  | ok a => exact fun Hk2 H2 v x2 => h Hk2 H2 v (x.trans x2)
  | exc e ρ => exact Wish.mono x h
  | stuck => exact h
theorem okO.mono {Q : VK} {r : Res (MV × Env)} (x : Ex Hk Hk') (h : okO c F Hk bp σ Q r) : okO c F Hk' bp σ Q r := by
  cases r with
  | ok a => exact fun Hk2 H2 v x2 => h Hk2 H2 v (x.trans x2)
  | exc e ρ => exact Wish.mono x h
  | stuck => exact h
theorem okT.mono {Q : Bool → Hp → Prop} {r : Res (Bool × Env)} (x : Ex Hk Hk') (h : okT c F Hk bp σ Q r) : okT c F Hk' bp σ Q r := by
  cases r with
  | ok a => exact fun Hk2 H2 x2 => h Hk2 H2 (x.trans x2)
  | exc e ρ => exact Wish.mono x h
  | stuck => exact h
theorem okA.mono {Q : List V → Hp → Prop} {r : Res (List MV × Env)} (x : Ex Hk Hk') (h : okA c F Hk bp σ Q r) : okA c F Hk' bp σ Q r := by
  cases r with
  | ok a => exact fun Hk2 H2 v x2 => h Hk2 H2 v (x.trans x2)
  | exc e ρ => exact Wish.mono x h
  | stuck => exact h
theorem okS.mono {D : Ends} {r : Res (Fl × Env)} (x : Ex Hk Hk') (h : okS c F Hk bp D r) : okS c F Hk' bp D r := by
  cases r with
  | ok a =>
    obtain ⟨f, ρ'⟩ := a
    cases f with
    | nx => exact fun Hk2 H2 σ' x2 => h Hk2 H2 σ' (x.trans x2)
    | br => exact fun Hk2 H2 σ' x2 => h Hk2 H2 σ' (x.trans x2)
    | ct => exact fun Hk2 H2 σ' x2 => h Hk2 H2 σ' (x.trans x2)
    | rt y => exact fun Hk2 H2 σ' v x2 => h Hk2 H2 σ' v (x.trans x2)
  | exc e ρ' => exact fun Hk2 H2 σ' cls d x2 => h Hk2 H2 σ' cls d (x.trans x2)
  | stuck => exact h
def Res.bind {α β : Type} (r : Res (α × Env)) (f : α → Env → Res (β × Env)) : Res (β × Env) :=
  match r with
  | .ok (x, ρ) => f x ρ
  | .exc e ρ => .exc e ρ
  | .stuck => .stuck
end
theorem PEw {X : Cx} {e : Expr} {t t' : TE} (h : PE X e t) (w : ∀ σ H Q, t' σ H Q → t σ H Q) : PE X e t' := ⟨fun pins s σ H Q I q => h.run pins s σ H Q I (w σ H Q q)⟩
theorem PTw {X : Cx} {e : Expr} {t t' : TT} (h : PT X e t) (w : ∀ σ H Q, t' σ H Q → t σ H Q) : PT X e t' := ⟨fun pins s σ H Q I q => h.run pins s σ H Q I (w σ H Q q)⟩
theorem PWw {X : Cx} {e : Expr} {t t' : TT} (h : PW X e t) (w : ∀ σ H Q, t' σ H Q → t σ H Q) : PW X e t' := ⟨fun wh pins s σ H Q I q => h.run wh pins s σ H Q I (w σ H Q q)⟩
theorem PAw {X : Cx} {e : List Expr} {t t' : TA} (h : PA X e t) (w : ∀ σ H Q, t' σ H Q → t σ H Q) : PA X e t' := ⟨fun pos pins s σ H Q I q => h.run pos pins s σ H Q I (w σ H Q q)⟩
theorem PSw {X : Cx} {e : Stmt} {t t' : TS} (h : PS X e t) (w : ∀ D σ H, t' D σ H → t D σ H) : PS X e t' := ⟨fun pins s σ H D I q => h.run pins s σ H D I (w D σ H q)⟩
theorem PSsw {X : Cx} {e : List Stmt} {t t' : TS} (h : PSs X e t) (w : ∀ D σ H, t' D σ H → t D σ H) : PSs X e t' := ⟨fun pins s σ H D I q => h.run pins s σ H D I (w D σ H q)⟩
section
variable {X : Cx} {c : Ct}
def mVar (i : Nat) : ME := fun ρ => match ρ[i]? with
  | some (some (.own xs)) => .ok (.lst xs, ρ.set i (some (.lst xs)))
  | some (some (.obj _ _)) => .stuck
  | some (some (.dow _ _)) => .stuck
  | some (some (.dot _ _)) => .stuck
  | some (some x) => .ok (x, ρ)
  | _ => .stuck
def mC (x : MV) : ME := fun ρ => .ok (x, ρ)
theorem rd_var {i : Nat} {σ : St} {H : Hp} {Q : VK} (h : rdE c (mVar i) σ H Q) : tVar i σ H Q := by
  obtain ⟨F, Hk, bp, ρ, ⟨S, _⟩, h⟩ := h
  have pl : ∀ x : MV, x.per = true → ρ[i]? = some (some x) → (∀ Hk' H' v, Ex Hk Hk' → RS c.K F Hk' H' bp σ ρ → RV c.K Hk' x v → Q v H') → tVar i σ H Q := fun x px e q => by
    obtain ⟨v, ev, r⟩ := S.get e px
    exact ⟨v, ev, q Hk H v (Ex.refl _) S r⟩
  unfold mVar at h
  split at h
  · rename_i xs e
    obtain ⟨p, vs, e1, ex, r, S'⟩ := S.freeze e
    exact ⟨_, e1, h _ _ _ ex S' r⟩
  · exact h.elim
  · exact h.elim
  · exact h.elim
  · rename_i x n1 n2 n3 n4 e
    refine pl x ?_ e h
    cases x <;> first | rfl | (exfalso; first | exact n1 _ rfl | exact n2 _ _ rfl | exact n3 _ _ rfl | exact n4 _ _ rfl)
  · exact h.elim
theorem me_var {i : Nat} {x : Str} {pos : Pos} (hN : X.N[i]? = some x) (hv : Vis X.env.scope x) (hd : (x == ("__debug__" : Str)) = false := by decide) (hcd : (x == ("__classdict__" : Str)) = false := by decide) : PE X (.Name x pos) (rdE c (mVar i)) :=
  PEw (pe_var hN hv hd hcd) fun _ _ _ h => rd_var h
theorem rd_c {x : MV} {v : V} (r : ∀ H, RV c.K H x v) {σ : St} {H : Hp} {Q : VK} (h : rdE c (mC x) σ H Q) : tC v σ H Q := by
  obtain ⟨F, Hk, bp, ρ, ⟨S, _⟩, h⟩ := h
  exact h Hk H v (Ex.refl _) S (r _)
theorem me_int {i j pos} : PE X (.Constant (.int i) j pos) (rdE c (mC (.int i))) := PEw pe_int fun _ _ _ h => rd_c (fun _ => RV.int.mpr rfl) h
theorem me_bl {b j pos} : PE X (.Constant (.bool b) j pos) (rdE c (mC (.bl b))) := PEw pe_bl fun _ _ _ h => rd_c (fun _ => RV.bl.mpr rfl) h
theorem me_non {j pos} : PE X (.Constant .none j pos) (rdE c (mC .non)) := PEw pe_non fun _ _ _ h => rd_c (fun _ => RV.non.mpr rfl) h
theorem me_str {x j pos} : PE X (.Constant (.str x) j pos) (rdE c (mC (.str x))) := PEw pe_str fun _ _ _ h => rd_c (fun _ => RV.str.mpr rfl) h
def mOp (f : MV → MV → Option MV) (a b : ME) : ME := fun ρ => (a ρ).bind fun x ρ1 => (b ρ1).bind fun y ρ2 => match f x y with | some z => .ok (z, ρ2) | none => .stuck
def OpS (K : PySem.W.Frag) (f : MV → MV → Option MV) (r : R2) : Prop := ∀ (x y z : MV) (v w : V) (Hk H : Hp) (Q : VK), f x y = some z → Ex Hk H → RV K Hk x v → RV K Hk y w → (∀ u, RV K Hk z u → Q u H) →
  (∀ p o, H p = none → RV K (upd Hk p o) z (.ref p) → Q (.ref p) (upd H p o)) → r v w H Q
theorem rd_op {f : MV → MV → Option MV} {r : R2} (o : OpS c.K f r) {a b : ME} {σ : St} {H : Hp} {Q : VK} (h : rdE c (mOp f a b) σ H Q) : tOp r (rdE c a) (rdE c b) σ H Q := by
  obtain ⟨F, Hk, bp, ρ, ⟨S, eb⟩, h⟩ := h
  refine ⟨F, Hk, bp, ρ, ⟨S, eb⟩, ?_⟩
  unfold mOp at h
  cases ea : a ρ with
  | stuck => rw [ea] at h; exact h.elim
  | exc e ρ' => rw [ea] at h; exact h
  | ok p =>
    obtain ⟨x, ρ1⟩ := p
    rw [ea] at h
    intro Hk1 H1 v x1 S1 r1
    refine ⟨F, Hk1, bp, ρ1, ⟨S1, eb⟩, ?_⟩
    have h : okE c F Hk bp σ Q ((b ρ1).bind fun y ρ2 => match f x y with | some z => .ok (z, ρ2) | none => .stuck) := h
    cases e2 : b ρ1 with
    | stuck => rw [e2] at h; exact h.elim
    | exc e ρ' => rw [e2] at h; exact Wish.mono x1 h
    | ok p =>
      obtain ⟨y, ρ2⟩ := p
      rw [e2] at h
      intro Hk2 H2 w x2 S2 r2
      have h : okE c F Hk bp σ Q (match f x y with | some z => .ok (z, ρ2) | none => .stuck) := h
      cases ez : f x y with
      | none => rw [ez] at h; exact h.elim
      | some z =>
        rw [ez] at h
        refine o x y z v w Hk2 H2 Q ez S2.ex (RV.mono x2 _ _ r1) r2 (fun u ru => h Hk2 H2 u (x1.trans x2) S2 ru) fun p ob hp ru => ?_
        exact h _ _ _ ((x1.trans x2).trans (Ex.new (S2.ex.back hp))) (S2.new hp) ru
theorem me_op {op : Operator} {f : MV → MV → Option MV} {r : R2} {a b : Expr} {ma mb : ME} {pos : Pos} (ho : OpR X (binaryOp op) r) (o : OpS c.K f r) (ha : PE X a (rdE c ma)) (hb : PE X b (rdE c mb)) : PE X (.BinOp a op b pos) (rdE c (mOp f ma mb)) :=
  PEw (pe_op ho ha hb) fun _ _ _ h => rd_op o h
theorem me_cmp {op : CmpOp} {f : MV → MV → Option MV} {r : R2} {a b : Expr} {ma mb : ME} {pos : Pos} (ho : OpR X (compareOp op) r) (o : OpS c.K f r) (ha : PE X a (rdE c ma)) (hb : PE X b (rdE c mb)) (hm : behindInMarks op b = false) : PE X (.Compare a [op] [b] pos) (rdE c (mOp f ma mb)) :=
  PEw (pe_cmpR ho ha hb hm) fun _ _ _ h => rd_op o h
end
end Tm
set_option Elab.async false
set_option linter.all false
set_option maxRecDepth 100000
set_option maxHeartbeats 2000000
namespace Tm
open PySem L2
open Evl (Ex ex_rd ex_l ex_t)
def szOk (n : Nat) : Bool := decide (n ≤ sizeLine)
def fAdd : MV → MV → Option MV
  | .int i, .int j => some (.int (i + j))
  | .int i, .bl b => some (.int (i + PyProof.Rows.b2i b))
  | .str a, .str b => if szOk (a.length + b.length) then some (.str (a ++ b)) else none
  | .lst a, .lst b => if szOk (a.length + b.length) then some (.lst (a ++ b)) else none
  | .tup a, .tup b => if szOk (a.length + b.length) then some (.tup (a ++ b)) else none
  | _, _ => none
def fSub : MV → MV → Option MV
  | .int i, .int j => some (.int (i - j))
  | _, _ => none
def mulOk (i j : Int) : Bool := (decide (-(2 ^ 64) < i) && decide (i < 2 ^ 64)) || (decide (-(2 ^ 64) < j) && decide (j < 2 ^ 64)) || decide (i.natAbs.log2 + j.natAbs.log2 < 1000000)
instance (i j : Int) : Decidable (CMulW i j) := inferInstanceAs (Decidable (i.natAbs.log2 + j.natAbs.log2 < 1000000))
def repS (a : Str) (k : Int) : Str := ⟨(List.replicate k.toNat a.cps.toList).flatten.toArray⟩
def fMul : MV → MV → Option MV
  | .int i, .int j => if mulOk i j then some (.int (i * j)) else none
  | .tup a, .int k => if decide (-(2 ^ 63) ≤ k) && decide (k < 2 ^ 63) && (decide (k = 1) || a.isEmpty || (decide (2 ≤ k) && decide (k ≤ 1000) && decide (a.length ≤ 1000))) then some (.tup (List.replicate k.toNat a).flatten) else none
  | .str a, .int k => if decide (-(2 ^ 63) ≤ k) && decide (k < 2 ^ 63) && szOk (a.length * k.toNat) then some (.str (repS a k)) else none
  | .lst a, .int k => if decide (-(2 ^ 63) ≤ k) && decide (k < 2 ^ 63) && szOk (a.length * k.toNat) then some (.lst (List.replicate k.toNat a).flatten) else none
  | _, _ => none
def divOk (j : Int) : Bool := (decide (j ≠ 0) && decide (j.natAbs < 1073741824)) || (decide (0 < j) && decide (j.natAbs.log2 < 9000))
def fDiv : MV → MV → Option MV
  | .int i, .int j => if divOk j then some (.int (i.fdiv j)) else none
  | _, _ => none
def fMod : MV → MV → Option MV
  | .int i, .int j => if decide (j ≠ 0) then some (.int (i.fmod j)) else none
  | _, _ => none
def fPow : MV → MV → Option MV
  | .int i, .int j => if decide (0 ≤ j) && decide (j ≤ 1000000) && decide (i.natAbs < 2 ^ 64) then some (.int (i ^ j.toNat)) else none
  | _, _ => none
def fLt : MV → MV → Option MV
  | .int i, .int j => some (.bl (decide (i < j)))
  | _, _ => none
def fLe : MV → MV → Option MV
  | .int i, .int j => some (.bl (decide (i ≤ j)))
  | _, _ => none
def fGt : MV → MV → Option MV
  | .int i, .int j => some (.bl (decide (j < i)))
  | _, _ => none
def fGe : MV → MV → Option MV
  | .int i, .int j => some (.bl (decide (j ≤ i)))
  | _, _ => none
def MV.isN : MV → Bool
  | .non => true
  | .raw w => decide (w = .non)
  | _ => false
def fIsN : MV → MV → Option MV
  | x, .non => some (.bl x.isN)
  | _, _ => none
def scalM : MV → MV → Bool
  | .non, .non => true | .non, .int _ => true | .int _, .non => true | .non, .bl _ => true | .bl _, .non => true | .non, .str _ => true | .str _, .non => true
  | .int _, .int _ => true | .bl _, .bl _ => true | .str _, .str _ => true
  | .int _, .str _ => true | .str _, .int _ => true | .bl _, .str _ => true | .str _, .bl _ => true
  | _, _ => false
def sameM : MV → MV → Bool
  | .non, .non => true
  | .int i, .int j => decide (i = j)
  | .bl i, .bl j => decide (i = j)
  | .str i, .str j => decide (i = j)
  | _, _ => false
mutual
def toD : MV → Option PyData
  | .non => some .none
  | .bl b => some (.bool b)
  | .int i => some (.int i)
  | .str x => some (.str x)
  | .tup xs => (toDs xs).map .tuple
  | .lst xs => (toDs xs).map .list
  | _ => none
def toDs : List MV → Option (List PyData)
  | [] => some []
  | x :: xs => match toD x, toDs xs with
    | some d, some ds => some (d :: ds)
    | _, _ => none
end
def eqM (x y : MV) : Option Bool :=
  if scalM x y then some (sameM x y) else
  match toD x, toD y with
  | some d, some e => if SeqAt.shaped d && SeqAt.shaped e then some (PyData.eqv d e) else none
  | _, _ => none
def fEq (x y : MV) : Option MV := (eqM x y).map .bl
def fNe (x y : MV) : Option MV := (eqM x y).map fun b => .bl (!b)
section
variable {K : PySem.W.Frag}
def rAddM (K : PySem.W.Frag) : R2 := fun x y H Q => (rI0 fun i j => .int (i + j)) x y H Q ∨ (∃ i k, x = .int i ∧ y = .bl k ∧ Q (.int (i + PyProof.Rows.b2i k)) H) ∨ (∃ i j, x = .str i ∧ y = .str j ∧ i.length + j.length ≤ sizeLine ∧ Q (.str (i ++ j)) H) ∨ rCat x y H Q ∨ rCatA K x y H Q
theorem op_addM {X : Cx} : OpR X (binaryOp .Add) (rAddM X.K) := OpR.or op_add (OpR.or op_add_ib (OpR.or op_add_str (OpR.or op_cat op_catA)))
theorem szOk_iff {n : Nat} : szOk n = true ↔ n ≤ sizeLine := by unfold szOk; simp
theorem os_add : OpS K fAdd (rAddM K) := by
  intro x y z v w Hk H Q e ex r1 r2 q qn
  unfold fAdd at e
  split at e
  · cases e
    exact .inl ⟨_, _, RV.int.mp r1, RV.int.mp r2, q _ (RV.int.mpr rfl)⟩
  · cases e
    exact .inr (.inl ⟨_, _, RV.int.mp r1, RV.bl.mp r2, q _ (RV.int.mpr rfl)⟩)
  · split at e
    · rename_i a b h
      cases e
      exact .inr (.inr (.inl ⟨_, _, RV.str.mp r1, RV.str.mp r2, szOk_iff.mp h, q _ (RV.str.mpr rfl)⟩))
    · cases e
  · split at e
    · rename_i a b h
      cases e
      obtain ⟨p1, vs, rfl, h1, s1⟩ := RV.lst.mp r1
      obtain ⟨p2, ws, rfl, h2, s2⟩ := RV.lst.mp r2
      refine .inr (.inr (.inr (.inl ⟨p1, p2, vs, ws, rfl, rfl, ex _ _ h1, ex _ _ h2, ?_, fun p hp => qn p _ hp ?_⟩)))
      · rw [s1.length, s2.length]; exact szOk_iff.mp h
      · have z := Ex.new (o := .lst (vs ++ ws)) (ex.back hp)
        exact RV.lst.mpr ⟨p, _, rfl, upd_same, (s1.append s2).mono z⟩
    · cases e
  · split at e
    · rename_i a b h
      cases e
      obtain ⟨p1, vs, rfl, h1, s1⟩ := RV.tup.mp r1
      obtain ⟨p2, ws, rfl, h2, s2⟩ := RV.tup.mp r2
      refine .inr (.inr (.inr (.inr ⟨p1, p2, vs, ws, rfl, rfl, ex_t ex h1, ex_t ex h2, ?_, fun e0 => ?_, fun e0 e1 => ?_, fun e0 e1 p hp => qn p _ hp ?_⟩)))
      · rw [s1.length, s2.length]; exact szOk_iff.mp h
      · have z := s1.append s2
        rw [e0, List.nil_append] at z
        exact q _ (RV.tup.mpr ⟨p2, ws, rfl, h2, z⟩)
      · have z := s1.append s2
        rw [e1, List.append_nil] at z
        exact q _ (RV.tup.mpr ⟨p1, vs, rfl, h1, z⟩)
      · have z := Ex.new (o := .tup (vs ++ ws)) (ex.back hp)
        exact RV.tup.mpr ⟨p, _, rfl, SqT.of upd_same, (s1.append s2).mono z⟩
    · cases e
  · cases e
theorem os_sub : OpS K fSub (rI0 fun i j => .int (i - j)) := by
  intro x y z v w Hk H Q e ex r1 r2 q qn
  unfold fSub at e
  split at e
  · cases e; exact ⟨_, _, RV.int.mp r1, RV.int.mp r2, q _ (RV.int.mpr rfl)⟩
  · cases e
open PySem.Spec PyProof.Rows in
theorem tuple_mulSame (l : Addr) (items : Array Value) (n : Nat) (dd : Option Addr) (sl : Array (Option Value)) (x : Int) (u : Tok) (c0 : (decide (x < -(2 ^ 63)) || decide (x ≥ 2 ^ 63)) = false) (c1 : (items.isEmpty || x == 1) = true) :
    Meets (Builtin.«tuple.__mul__» ⟨[.ref l, .int x u], []⟩) (fun _ R s => s.heap.get? l = some { cls := .type "tuple", dict := dd, data := .seq items n, slots := sl } ∧ R (.ok (.ret (Value.ref l))) s) :=
  .of_wp fun prog w A R s h => by
    obtain ⟨hp, g, d, tk, os⟩ := s
    obtain ⟨hl, h⟩ := h
    have f1 := AutoSeq1.idx_int
    wp_walk using wpAny_loadPart' hl
    repeat (first
      | (refine wpAny_ite_false (decide_eq_false (by rw [c0]; exact Bool.false_ne_true)) ?_; wp_walk using wpAny_loadPart' hl)
      | (refine wpAny_ite_true (decide_eq_true c1) ?_; wp_walk using wpAny_loadPart' hl))
    exact ⟨_, rfl, h⟩
def rRepTS (K : PySem.W.Frag) : R2 := fun x y H Q => ∃ l k xs, x = .ref l ∧ y = .int k ∧ SqT K H l xs ∧ (k = 1 ∨ xs = []) ∧ -(2 ^ 63) ≤ k ∧ k < 2 ^ 63 ∧ Q (.ref l) H
open PySem.Spec PyProof.Rows in
theorem op_repTS {X : Cx} : OpR X (binaryOp .Mult) (rRepTS X.K) := by
  intro pins s σ H x y v u Q I rx ry h
  obtain ⟨l, k, xs, rfl, rfl, hT, hs, h1, h2, q⟩ := h
  cases rx
  obtain ⟨t, rfl⟩ := ry
  obtain ⟨its, r, ⟨⟨cls, dd, data, sl⟩, ho, hc, n, hd⟩, _⟩ := I.tuple hT
  simp only at hc hd
  subst hc hd
  have hle : its.length = xs.length := r.length.symm
  have c0 : (decide (k < -(2 ^ 63)) || decide (k ≥ 2 ^ 63)) = false := by
    rw [decide_eq_false (by omega), decide_eq_false (by omega)] <;> rfl
  have c1 : (its.toArray.isEmpty || k == 1) = true := by
    rw [Bool.or_eq_true]
    rcases hs with rfl | rfl
    · exact .inr rfl
    · have : its = [] := List.length_eq_zero_iff.mp hle
      subst this
      exact .inl rfl
  exact wpAny_binaryOp_repeat_ref (T := "tuple") (U := "int") (by decide) ⟨_, ho, rfl⟩ (fun s' => typeIs_int s' k t) noFill_tuple_mul F.fills_int_mul F.slot_int_rmul repeat_tuple F.slot_int_index.lookup
    (call_meets F.slot_int_rmul (typeIs_int s k t) F.entry_int_rmul (F.args_int_rmul_2 _ _) (int_rmul_tuple k t l its.toArray n dd sl)
      ⟨ho, rfl, ⟨_, ho, rfl⟩, call_meets F.slot_tuple_mul ⟨_, ho, rfl⟩ F.entry_tuple_mul (F.args_tuple_mul_2 _ _) (tuple_mulSame l its.toArray n dd sl k t c0 c1) ⟨ho, ⟨.ref l, H, I, rfl, q⟩⟩⟩)
def rRepS : R2 := fun x y H Q => ∃ a k, x = .str a ∧ y = .int k ∧ -(2 ^ 63) ≤ k ∧ k < 2 ^ 63 ∧ a.length * k.toNat ≤ sizeLine ∧ Q (.str (repS a k)) H
theorem rep_foldl (l : Array Nat) : ∀ (n : Nat) (acc : Array Nat), (List.replicate n l).foldl (· ++ ·) acc = (acc.toList ++ (List.replicate n l.toList).flatten).toArray
  | 0, acc => by simp
  | n + 1, acc => by
    rw [List.replicate_succ, List.foldl_cons, rep_foldl l n, List.replicate_succ, List.flatten_cons]
    simp
theorem op_repS {X : Cx} : OpR X (binaryOp .Mult) rRepS := by
  intro pins s σ H x y v u Q I rx ry h
  obtain ⟨a, k, rfl, rfl, h1, h2, hz, q⟩ := h
  obtain ⟨t, rfl⟩ := rx
  obtain ⟨t', rfl⟩ := ry
  have sz : sizeLine = 16777216 := rfl
  refine PySem.P.mul_str ?_ ?_ ?_ ?_
  · rw [decide_eq_false (by omega), decide_eq_false (by omega)]; rfl
  · intro h3 h4 h5
    have hk : 1 < k := by
      have : (k == 1) = false := by cases e : (k == 1) <;> simp [e] at h4 ⊢
      have := beq_eq_false_iff_ne.mp this
      omega
    have e1 : ((a.length : Int) * k) ≤ 16777216 := by
      rw [sz] at hz
      have : ((a.length * k.toNat : Nat) : Int) ≤ 16777216 := by omega
      rw [Int.natCast_mul, Int.toNat_of_nonneg (by omega)] at this
      exact this
    have e2 : (a.length : Int) ≤ (2 ^ 63 - 1) / k := by
      refine (Int.le_ediv_iff_mul_le (by omega)).mpr ?_
      omega
    omega
  · intro h3 h4
    unfold Builtin.Str.tooLong
    exact decide_eq_false (by omega)
  · split
    · rename_i h3
      refine ⟨by decide, .str (repS a k), H, I.tok _, ⟨s.toks, ?_⟩, q⟩
      have : k.toNat = 0 := by omega
      unfold repS
      rw [this]; rfl
    · split
      · rename_i h3 h4
        refine ⟨.str (repS a k), H, I, ⟨t, ?_⟩, q⟩
        have : repS a k = a := by
          unfold repS
          rw [Bool.or_eq_true] at h4
          rcases h4 with h4 | h4
          · have : k = 1 := by simpa using h4
            subst this
            show (⟨([a.cps.toList].flatten).toArray⟩ : Str) = a
            simp
          · have e0 : a.cps.toList = [] := by
              have : a.length = 0 := by simpa using h4
              exact List.length_eq_zero_iff.mp (by rw [Array.length_toList]; exact this)
            rw [e0]
            have : ∀ n : Nat, (List.replicate n ([] : List Nat)).flatten = [] := fun n => by simp
            rw [this]
            cases a with
            | mk cps =>
              simp only at e0
              rw [← e0]
        rw [this]
      · rename_i h3 h4
        have e1 : (⟨(List.replicate k.toNat a.cps).foldl (· ++ ·) #[]⟩ : Str) = repS a k := by
          unfold repS
          rw [rep_foldl]
          rfl
        rw [e1]
        refine ⟨?_, .str (repS a k), H, I.tok _, ⟨s.toks, rfl⟩, q⟩
        show (List.replicate k.toNat a.cps.toList).flatten.toArray.size ≤ sizeLine
        rw [List.size_toArray, PyProof.Rows.lm_len_rep_flat, Nat.mul_comm]
        exact hz
def rMulM (K : PySem.W.Frag) : R2 := fun x y H Q => (rI CMul fun i j => .int (i * j)) x y H Q ∨ (rI CMulW fun i j => .int (i * j)) x y H Q ∨ rRep x y H Q ∨ rRepS x y H Q ∨ rRepTS K x y H Q ∨ rRepT K x y H Q
theorem op_mulM {X : Cx} : OpR X (binaryOp .Mult) (rMulM X.K) := OpR.or op_mul (OpR.or op_mulW (OpR.or op_rep (OpR.or op_repS (OpR.or op_repTS op_repT))))
theorem RVs.rep {H : Hp} {xs : List MV} {vs : List V} (h : RVs K H xs vs) : ∀ n : Nat, RVs K H (List.replicate n xs).flatten (List.replicate n vs).flatten
  | 0 => by simp [RVs]
  | n + 1 => by
    rw [List.replicate_succ, List.replicate_succ, List.flatten_cons, List.flatten_cons]
    exact h.append (RVs.rep h n)
theorem os_mul : OpS K fMul (rMulM K) := by
  intro x y z v w Hk H Q e ex r1 r2 q qn
  unfold fMul at e
  split at e
  · rename_i i j
    split at e
    · rename_i h
      cases e
      unfold mulOk at h
      rw [Bool.or_eq_true] at h
      rcases h with h | h
      · refine .inl ⟨i, j, RV.int.mp r1, RV.int.mp r2, ?_, q _ (RV.int.mpr rfl)⟩
        simp only [Bool.or_eq_true, Bool.and_eq_true, decide_eq_true_eq] at h
        exact h
      · exact .inr (.inl ⟨i, j, RV.int.mp r1, RV.int.mp r2, of_decide_eq_true h, q _ (RV.int.mpr rfl)⟩)
    · cases e
  · rename_i a k
    split at e
    · rename_i h
      cases e
      simp only [Bool.and_eq_true, Bool.or_eq_true, decide_eq_true_eq] at h
      obtain ⟨p1, vs, rfl, h1, s1⟩ := RV.tup.mp r1
      have hvl := s1.length
      by_cases hk : k = 1 ∨ vs = []
      · refine .inr (.inr (.inr (.inr (.inl ⟨p1, k, vs, rfl, RV.int.mp r2, ex_t ex h1, hk, h.1.1, h.1.2, q _ ?_⟩))))
        have er : (List.replicate k.toNat a).flatten = a := by
          rcases hk with rfl | rfl
          · simp
          · have : a = [] := List.length_eq_zero_iff.mp (by simpa using hvl.symm)
            subst this; simp
        rw [er]
        exact RV.tup.mpr ⟨p1, vs, rfl, h1, s1⟩
      · have hk2 : 2 ≤ k ∧ k ≤ 1000 ∧ a.length ≤ 1000 := by
          rcases h.2 with (h2 | h2) | h2
          · exact absurd (.inl h2) hk
          · exact absurd (.inr (List.length_eq_zero_iff.mp (by rw [hvl]; simpa using h2))) hk
          · exact ⟨h2.1.1, h2.1.2, h2.2⟩
        refine .inr (.inr (.inr (.inr (.inr ⟨p1, k, vs, rfl, RV.int.mp r2, ex_t ex h1, fun e0 => hk (.inr e0), hk2.1, hk2.2.1, by rw [hvl]; exact hk2.2.2, fun p hp => qn p _ hp ?_⟩))))
        have z := Ex.new (o := .tup (List.replicate k.toNat vs).flatten) (ex.back hp)
        exact RV.tup.mpr ⟨p, _, rfl, SqT.of upd_same, (RVs.rep s1 _).mono z⟩
    · cases e
  · rename_i a k
    split at e
    · rename_i h
      cases e
      simp only [Bool.and_eq_true, decide_eq_true_eq] at h
      exact .inr (.inr (.inr (.inl ⟨a, k, RV.str.mp r1, RV.int.mp r2, h.1.1, h.1.2, szOk_iff.mp h.2, q _ (RV.str.mpr rfl)⟩)))
    · cases e
  · rename_i a k
    split at e
    · rename_i h
      cases e
      simp only [Bool.and_eq_true, decide_eq_true_eq] at h
      obtain ⟨p1, vs, rfl, h1, s1⟩ := RV.lst.mp r1
      refine .inr (.inr (.inl ⟨p1, k, vs, rfl, RV.int.mp r2, ex _ _ h1, h.1.1, h.1.2, ?_, fun p hp => qn p _ hp ?_⟩))
      · rw [s1.length]; exact szOk_iff.mp h.2
      · have z := Ex.new (o := .lst (List.replicate k.toNat vs).flatten) (ex.back hp)
        exact RV.lst.mpr ⟨p, _, rfl, upd_same, (RVs.rep s1 _).mono z⟩
    · cases e
  · cases e
def rDivM : R2 := fun x y H Q => (rI CDivN fun i j => .int (i.fdiv j)) x y H Q ∨ (rI CDivW fun i j => .int (i / j)) x y H Q
theorem op_divM {X : Cx} : OpR X (binaryOp .FloorDiv) rDivM := OpR.or op_fdivN op_fdivW
theorem os_div : OpS K fDiv rDivM := by
  intro x y z v w Hk H Q e ex r1 r2 q qn
  unfold fDiv at e
  split at e
  · rename_i i j
    split at e
    · rename_i h
      cases e
      unfold divOk at h
      rw [Bool.or_eq_true] at h
      rcases h with h | h
      · simp only [Bool.and_eq_true, decide_eq_true_eq] at h
        exact .inl ⟨i, j, RV.int.mp r1, RV.int.mp r2, h, q _ (RV.int.mpr rfl)⟩
      · simp only [Bool.and_eq_true, decide_eq_true_eq] at h
        refine .inr ⟨i, j, RV.int.mp r1, RV.int.mp r2, h, ?_⟩
        have := q _ (RV.int.mpr rfl)
        rw [Int.fdiv_eq_ediv_of_nonneg i (by omega)] at this
        exact this
    · cases e
  · cases e
theorem os_mod : OpS K fMod (rI (fun _ j => j ≠ 0) fun i j => .int (i.fmod j)) := by
  intro x y z v w Hk H Q e ex r1 r2 q qn
  unfold fMod at e
  split at e
  · split at e
    · rename_i h
      cases e
      exact ⟨_, _, RV.int.mp r1, RV.int.mp r2, of_decide_eq_true h, q _ (RV.int.mpr rfl)⟩
    · cases e
  · cases e
theorem os_pow : OpS K fPow (rI CPow fun i j => .int (i ^ j.toNat)) := by
  intro x y z v w Hk H Q e ex r1 r2 q qn
  unfold fPow at e
  split at e
  · split at e
    · rename_i h
      cases e
      simp only [Bool.and_eq_true, decide_eq_true_eq] at h
      exact ⟨_, _, RV.int.mp r1, RV.int.mp r2, ⟨h.1.1, h.1.2, h.2⟩, q _ (RV.int.mpr rfl)⟩
    · cases e
  · cases e
theorem os_lt : OpS K fLt (rI0 fun i j => .bl (decide (i < j))) := by
  intro x y z v w Hk H Q e ex r1 r2 q qn
  unfold fLt at e
  split at e
  · cases e; exact ⟨_, _, RV.int.mp r1, RV.int.mp r2, q _ (RV.bl.mpr rfl)⟩
  · cases e
theorem os_le : OpS K fLe (rI0 fun i j => .bl (decide (i ≤ j))) := by
  intro x y z v w Hk H Q e ex r1 r2 q qn
  unfold fLe at e
  split at e
  · cases e; exact ⟨_, _, RV.int.mp r1, RV.int.mp r2, q _ (RV.bl.mpr rfl)⟩
  · cases e
theorem os_gt : OpS K fGt (rI0 fun i j => .bl (decide (j < i))) := by
  intro x y z v w Hk H Q e ex r1 r2 q qn
  unfold fGt at e
  split at e
  · cases e; exact ⟨_, _, RV.int.mp r1, RV.int.mp r2, q _ (RV.bl.mpr rfl)⟩
  · cases e
theorem os_ge : OpS K fGe (rI0 fun i j => .bl (decide (j ≤ i))) := by
  intro x y z v w Hk H Q e ex r1 r2 q qn
  unfold fGe at e
  split at e
  · cases e; exact ⟨_, _, RV.int.mp r1, RV.int.mp r2, q _ (RV.bl.mpr rfl)⟩
  · cases e
theorem RV.isnon {H : Hp} {x : MV} {v : V} (h : RV K H x v) : decide (v = .non) = x.isN := by
  cases x with
  | raw w => rw [RV.raw.mp h]; rfl
  | own _ => unfold RV at h; exact h.elim
  | obj _ _ => unfold RV at h; exact h.elim
  | non => rw [RV.non.mp h]; rfl
  | int i => rw [RV.int.mp h]; rfl
  | bl i => rw [RV.bl.mp h]; rfl
  | str i => rw [RV.str.mp h]; rfl
  | tup xs => obtain ⟨a, vs, e, _⟩ := RV.tup.mp h; rw [e]; rfl
  | lst xs => obtain ⟨a, vs, e, _⟩ := RV.lst.mp h; rw [e]; rfl
  | scr xs => obtain ⟨a, e, _⟩ := RV.scr.mp h; rw [e]; rfl
  | fnc x => obtain ⟨a, e, _⟩ := RV.fnc.mp h; rw [e]; rfl
  | dct ks xs => obtain ⟨a, vs, e, _⟩ := RV.dct.mp h; rw [e]; rfl
  | dow _ _ => unfold RV at h; exact h.elim
  | dot _ _ => unfold RV at h; exact h.elim
theorem os_isN : OpS K fIsN (fun x y H Q => y = .non ∧ Q (.bl (decide (x = .non))) H) := by
  intro x y z v w Hk H Q e ex r1 r2 q qn
  unfold fIsN at e
  split at e
  · cases e; refine ⟨RV.non.mp r2, ?_⟩
    rw [r1.isnon]; exact q _ (RV.bl.mpr rfl)
  · cases e
theorem scal_of {H : Hp} {x y : MV} {v w : V} (h : scalM x y = true) (r1 : RV K H x v) (r2 : RV K H y w) : scal v w = true ∧ decide (v = w) = sameM x y := by
  unfold scalM at h
  split at h <;> first | (cases h; done) | skip
  all_goals
    first
      | (rw [RV.non.mp r1] ) | (rw [RV.int.mp r1]) | (rw [RV.bl.mp r1]) | (rw [RV.str.mp r1])
    first
      | (rw [RV.non.mp r2] ) | (rw [RV.int.mp r2]) | (rw [RV.bl.mp r2]) | (rw [RV.str.mp r2])
    refine ⟨rfl, ?_⟩
    simp [sameM]
mutual
theorem Dp.of {Hk H : Hp} (ex : Ex Hk H) : ∀ (x : MV) (v : V) (d : PyData), RV K Hk x v → toD x = some d → Dp K H v d
  | .non, v, d, r, e => by rw [RV.non.mp r]; unfold toD at e; cases e; exact .non
  | .bl b, v, d, r, e => by rw [RV.bl.mp r]; unfold toD at e; cases e; exact .bl b
  | .int b, v, d, r, e => by rw [RV.int.mp r]; unfold toD at e; cases e; exact .int b
  | .str b, v, d, r, e => by rw [RV.str.mp r]; unfold toD at e; cases e; exact .str b
  | .tup xs, v, d, r, e => by
    obtain ⟨a, vs, rfl, h, s⟩ := RV.tup.mp r
    unfold toD at e
    cases e2 : toDs xs with
    | none => rw [e2] at e; cases e
    | some ds =>
      rw [e2] at e; cases e
      exact .tup (ex_t ex h) (DpAll.of ex xs vs ds s e2)
  | .lst xs, v, d, r, e => by
    obtain ⟨a, vs, rfl, h, s⟩ := RV.lst.mp r
    unfold toD at e
    cases e2 : toDs xs with
    | none => rw [e2] at e; cases e
    | some ds =>
      rw [e2] at e; cases e
      exact .lst (SqL.of (ex _ _ h)) (DpAll.of ex xs vs ds s e2)
  | .own _, v, d, r, e => by unfold toD at e; cases e
  | .raw _, v, d, r, e => by unfold toD at e; cases e
  | .scr _, v, d, r, e => by unfold toD at e; cases e
  | .fnc _, v, d, r, e => by unfold toD at e; cases e
  | .obj _ _, v, d, r, e => by unfold toD at e; cases e
  | .dct _ _, v, d, r, e => by unfold toD at e; cases e
  | .dow _ _, v, d, r, e => by unfold toD at e; cases e
  | .dot _ _, v, d, r, e => by unfold toD at e; cases e
theorem DpAll.of {Hk H : Hp} (ex : Ex Hk H) : ∀ (xs : List MV) (vs : List V) (ds : List PyData), RVs K Hk xs vs → toDs xs = some ds → DpAll K H vs ds
  | [], vs, ds, r, e => by rw [RVs.nil.mp r]; unfold toDs at e; cases e; exact .nil
  | x :: xs, vs, ds, r, e => by
    obtain ⟨v, us, rfl, r1, r2⟩ := RVs.cons.mp r
    unfold toDs at e
    split at e
    · rename_i d ds' e1 e2
      cases e
      exact .cons (Dp.of ex x v d r1 e1) (DpAll.of ex xs us ds' r2 e2)
    · cases e
end
def rEqM (K : PySem.W.Frag) : R2 := fun x y H Q => rEq x y H Q ∨ rEqD K x y H Q
def rNeM (K : PySem.W.Frag) : R2 := fun x y H Q => rNe x y H Q ∨ rNeD K x y H Q
theorem op_eqM {X : Cx} (hu : X.A.units + 64 < cLine) : OpR X (compareOp .Eq) (rEqM X.K) := OpR.or op_eq (op_eqD hu)
theorem op_neM {X : Cx} (hu : X.A.units + 64 < cLine) : OpR X (compareOp .NotEq) (rNeM X.K) := OpR.or op_ne (op_neD hu)
theorem os_eq : OpS K fEq (rEqM K) := by
  intro x y z v w Hk H Q e ex r1 r2 q qn
  unfold fEq eqM at e
  split at e
  · rename_i h
    obtain ⟨s1, s2⟩ := scal_of h r1 r2
    cases e
    refine .inl ⟨s1, ?_⟩
    rw [s2]; exact q _ (RV.bl.mpr rfl)
  · split at e
    · rename_i d e' e1 e2
      split at e
      · rename_i h
        rw [Bool.and_eq_true] at h
        cases e
        exact .inr ⟨d, e', Dp.of ex _ _ _ r1 e1, Dp.of ex _ _ _ r2 e2, h.1, h.2, q _ (RV.bl.mpr rfl)⟩
      · cases e
    · cases e
theorem os_ne : OpS K fNe (rNeM K) := by
  intro x y z v w Hk H Q e ex r1 r2 q qn
  unfold fNe eqM at e
  split at e
  · rename_i h
    obtain ⟨s1, s2⟩ := scal_of h r1 r2
    cases e
    refine .inl ⟨s1, ?_⟩
    rw [s2]; exact q _ (RV.bl.mpr rfl)
  · split at e
    · rename_i d e' e1 e2
      split at e
      · rename_i h
        rw [Bool.and_eq_true] at h
        cases e
        exact .inr ⟨d, e', Dp.of ex _ _ _ r1 e1, Dp.of ex _ _ _ r2 e2, h.1, h.2, q _ (RV.bl.mpr rfl)⟩
      · cases e
    · cases e
def fIx : MV → MV → Option MV
  | .lst xs, .int i => atI xs i
  | .tup xs, .int i => atI xs i
  | .scr ns, .int i => (atI ns i).map .int
  | .str z, .int i => if szOk z.length then (atI z.cps.toList i).map fun c => .str ⟨#[c]⟩ else none
  | _, _ => none
theorem atI_rv {H : Hp} {xs : List MV} {vs : List V} (r : RVs K H xs vs) {i : Int} {x : MV} (e : atI xs i = some x) : ∃ v, atI vs i = some v ∧ RV K H x v := by
  unfold atI at e ⊢
  rw [r.length]
  cases h : ixN xs.length i with
  | none => rw [h] at e; cases e
  | some j =>
    rw [h] at e
    exact r.get e
theorem atI_map {α β : Type} {f : α → β} {xs : List α} {i : Int} {x : α} (e : atI xs i = some x) : atI (xs.map f) i = some (f x) := by
  unfold atI at e ⊢
  rw [List.length_map]
  cases h : ixN xs.length i with
  | none => rw [h] at e; cases e
  | some j =>
    rw [h] at e
    show (xs.map f)[j]? = _
    rw [List.getElem?_map, show xs[j]? = some x from e]; rfl
theorem os_ix : OpS K fIx (rIx K) := by
  intro x y z v w Hk H Q e ex r1 r2 q qn
  unfold fIx at e
  split at e
  · obtain ⟨p1, vs, rfl, h1, s1⟩ := RV.lst.mp r1
    obtain ⟨u, eu, ru⟩ := atI_rv s1 e
    exact .inl ⟨p1, vs, _, u, rfl, RV.int.mp r2, SqL.of (ex _ _ h1), eu, q _ ru⟩
  · obtain ⟨p1, vs, rfl, h1, s1⟩ := RV.tup.mp r1
    obtain ⟨u, eu, ru⟩ := atI_rv s1 e
    exact .inr (.inl ⟨p1, vs, _, u, rfl, RV.int.mp r2, ex_t ex h1, eu, q _ ru⟩)
  · rename_i ns i
    obtain ⟨p1, rfl, h1⟩ := RV.scr.mp r1
    cases h : atI ns i with
    | none => rw [h] at e; cases e
    | some n =>
      rw [h] at e; cases e
      exact .inl ⟨p1, _, _, _, rfl, RV.int.mp r2, ex_l ex h1, atI_map h, q _ (RV.int.mpr rfl)⟩
  · rename_i s i
    split at e
    · rename_i hz
      cases h : atI s.cps.toList i with
      | none => rw [h] at e; cases e
      | some n =>
        rw [h] at e; cases e
        exact .inr (.inr ⟨s, i, n, RV.str.mp r1, RV.int.mp r2, szOk_iff.mp hz, h, q _ (RV.str.mpr rfl)⟩)
    · cases e
  · cases e
def flatM : MV → Bool
  | .non | .bl _ | .int _ | .str _ => true
  | _ => false
def eqFlat : MV → MV → Bool
  | .non, .non => true
  | .bl a, .bl b => a == b
  | .bl a, .int b => (if a then 1 else 0) == b
  | .int a, .bl b => a == (if b then 1 else 0)
  | .int a, .int b => a == b
  | .str a, .str b => a == b
  | _, _ => false
theorem flat_v {H : Hp} {x : MV} {v : V} (h : flatM x = true) (r : RV K H x v) : flatV v = true := by
  unfold flatM at h
  split at h <;> first | (cases h; done) | skip
  · rw [RV.non.mp r]; rfl
  · rw [RV.bl.mp r]; rfl
  · rw [RV.int.mp r]; rfl
  · rw [RV.str.mp r]; rfl
theorem flat_eq {H : Hp} {x y : MV} {v w : V} (h : flatM x = true) (h2 : flatM y = true) (r : RV K H x v) (r2 : RV K H y w) : eqV v w = eqFlat x y := by
  unfold flatM at h h2
  split at h <;> first | (cases h; done) | skip
  all_goals (split at h2 <;> first | (cases h2; done) | skip)
  all_goals
    first
      | (rw [RV.non.mp r] ) | (rw [RV.int.mp r]) | (rw [RV.bl.mp r]) | (rw [RV.str.mp r])
    first
      | (rw [RV.non.mp r2] ) | (rw [RV.int.mp r2]) | (rw [RV.bl.mp r2]) | (rw [RV.str.mp r2])
    rfl
theorem flats_v {H : Hp} : ∀ {xs : List MV} {vs : List V}, xs.all flatM = true → RVs K H xs vs → vs.all flatV = true
  | [], vs, _, r => by rw [RVs.nil.mp r]; rfl
  | x :: xs, vs, h, r => by
    obtain ⟨v, us, rfl, r1, r2⟩ := RVs.cons.mp r
    rw [List.all_cons, Bool.and_eq_true] at h
    rw [List.all_cons, flat_v h.1 r1, flats_v h.2 r2]; rfl
theorem inV_eq {H : Hp} {y : MV} {w : V} (hy : flatM y = true) (ry : RV K H y w) : ∀ {xs : List MV} {vs : List V}, xs.all flatM = true → RVs K H xs vs → inV w vs = xs.any fun x => eqFlat x y
  | [], vs, _, r => by rw [RVs.nil.mp r]; rfl
  | x :: xs, vs, h, r => by
    obtain ⟨v, us, rfl, r1, r2⟩ := RVs.cons.mp r
    rw [List.all_cons, Bool.and_eq_true] at h
    have ih := inV_eq hy ry h.2 r2
    unfold inV at ih ⊢
    rw [List.any_cons, List.any_cons, ih, flat_eq h.1 hy r1 ry]
def inM (y : MV) (xs : List MV) : Option Bool := if flatM y && xs.all flatM then some (xs.any fun x => eqFlat x y) else none
def inA : MV → MV → Option Bool
  | y, .lst xs => inM y xs
  | y, .tup xs => inM y xs
  | .str i, .str j => some (!(Builtin.Str.occurrences j i 0 j.length 1).isEmpty)
  | _, _ => none
def fIn (x y : MV) : Option MV := (inA x y).map .bl
def fNotIn (x y : MV) : Option MV := (inA x y).map fun b => .bl (!b)
def rInM (K : PySem.W.Frag) : R2 := fun x y H Q => rIn K false x y H Q ∨ (∃ i j, x = .str i ∧ y = .str j ∧ Q (.bl (!(Builtin.Str.occurrences j i 0 j.length 1).isEmpty)) H)
def rNotInM (K : PySem.W.Frag) : R2 := fun x y H Q => rIn K true x y H Q ∨ (∃ i j, x = .str i ∧ y = .str j ∧ Q (.bl (!(!(Builtin.Str.occurrences j i 0 j.length 1).isEmpty))) H)
theorem op_inM {X : Cx} : OpR X (compareOp .In) (rInM X.K) := OpR.or op_in_seq op_in_str
theorem op_notInM {X : Cx} : OpR X (compareOp .NotIn) (rNotInM X.K) := OpR.or op_notIn_seq op_notin_str
theorem in_sq {Hk H : Hp} {x y : MV} {v w : V} {b : Bool} (ex : Ex Hk H) (r1 : RV K Hk x v) (r2 : RV K Hk y w) (e : inA x y = some b) :
    (∃ p xs, w = .ref p ∧ (SqL K H p xs ∨ SqT K H p xs) ∧ flatV v = true ∧ xs.all flatV = true ∧ inV v xs = b) ∨ (∃ i j, v = .str i ∧ w = .str j ∧ (!(Builtin.Str.occurrences j i 0 j.length 1).isEmpty) = b) := by
  unfold inA at e
  split at e
  · unfold inM at e
    split at e
    · rename_i h
      cases e
      rw [Bool.and_eq_true] at h
      obtain ⟨p1, vs, rfl, h1, s1⟩ := RV.lst.mp r2
      exact .inl ⟨p1, vs, rfl, .inl (SqL.of (ex _ _ h1)), flat_v h.1 r1, flats_v h.2 s1, inV_eq h.1 r1 h.2 s1⟩
    · cases e
  · unfold inM at e
    split at e
    · rename_i h
      cases e
      rw [Bool.and_eq_true] at h
      obtain ⟨p1, vs, rfl, h1, s1⟩ := RV.tup.mp r2
      exact .inl ⟨p1, vs, rfl, .inr (ex_t ex h1), flat_v h.1 r1, flats_v h.2 s1, inV_eq h.1 r1 h.2 s1⟩
    · cases e
  · cases e
    exact .inr ⟨_, _, RV.str.mp r1, RV.str.mp r2, rfl⟩
  · cases e
theorem os_in : OpS K fIn (rInM K) := by
  intro x y z v w Hk H Q e ex r1 r2 q qn
  unfold fIn at e
  cases eb : inA x y with
  | none => rw [eb] at e; cases e
  | some b =>
    rw [eb] at e; cases e
    rcases in_sq ex r1 r2 eb with ⟨p, xs, e1, e2, e3, e4, e5⟩ | ⟨i, j, e1, e2, e3⟩
    · exact .inl ⟨p, xs, e1, e2, e3, e4, by rw [if_neg (by decide), e5]; exact q _ (RV.bl.mpr rfl)⟩
    · exact .inr ⟨i, j, e1, e2, by rw [e3]; exact q _ (RV.bl.mpr rfl)⟩
theorem os_notIn : OpS K fNotIn (rNotInM K) := by
  intro x y z v w Hk H Q e ex r1 r2 q qn
  unfold fNotIn at e
  cases eb : inA x y with
  | none => rw [eb] at e; cases e
  | some b =>
    rw [eb] at e; cases e
    rcases in_sq ex r1 r2 eb with ⟨p, xs, e1, e2, e3, e4, e5⟩ | ⟨i, j, e1, e2, e3⟩
    · exact .inl ⟨p, xs, e1, e2, e3, e4, by rw [if_pos rfl, e5]; exact q _ (RV.bl.mpr rfl)⟩
    · exact .inr ⟨i, j, e1, e2, by rw [e3]; exact q _ (RV.bl.mpr rfl)⟩
end
end Tm
set_option Elab.async false
set_option linter.all false
set_option maxRecDepth 100000
set_option maxHeartbeats 2000000
namespace Tm
open PySem L2
open Evl (Ex ex_rd ex_l ex_t)
structure Post (c : Ct) (F : Hp) (bp : List (Nat × Addr)) (σ : St) {β : Type} (P : Hp → Res (β × Env) → Prop) : Prop where
  ex : ∀ Hk e ρ, P Hk (.exc e ρ) → Wish c F Hk bp σ e ρ
  st : ∀ Hk, ¬ P Hk .stuck
  mono : ∀ Hk Hk' r, Ex Hk Hk' → P Hk r → P Hk' r
section
variable {c : Ct} {F Hk H : Hp} {bp : List (Nat × Addr)} {σ : St} {ρ : Env} {β : Type}
theorem postE {Q : VK} : Post c F bp σ fun Hk r => okE c F Hk bp σ Q r := ⟨fun _ _ _ h => h, fun _ h => h, fun _ _ _ x h => okE.mono x h⟩
theorem postO {Q : VK} : Post c F bp σ fun Hk r => okO c F Hk bp σ Q r := ⟨fun _ _ _ h => h, fun _ h => h, fun _ _ _ x h => okO.mono x h⟩
theorem postT {Q : Bool → Hp → Prop} : Post c F bp σ fun Hk r => okT c F Hk bp σ Q r := ⟨fun _ _ _ h => h, fun _ h => h, fun _ _ _ x h => okT.mono x h⟩
theorem postA {Q : List V → Hp → Prop} : Post c F bp σ fun Hk r => okA c F Hk bp σ Q r := ⟨fun _ _ _ h => h, fun _ h => h, fun _ _ _ x h => okA.mono x h⟩
theorem postS {D : Ends} : Post c F bp σ fun Hk r => okS c F Hk bp D r := ⟨fun _ _ _ h Hk' H' cls d => h Hk' H' σ cls d, fun _ h => h, fun _ _ _ x h => okS.mono x h⟩
variable {P : Hp → Res (β × Env) → Prop}
theorem bE (p : Post c F bp σ P) {a : ME} {k : MV → Env → Res (β × Env)} (S : At c F Hk H bp σ ρ) (h : P Hk ((a ρ).bind k)) :
    rdE c a σ H fun v H1 => ∃ Hk1 x ρ1, Ex Hk Hk1 ∧ At c F Hk1 H1 bp σ ρ1 ∧ RV c.K Hk1 x v ∧ P Hk1 (k x ρ1) := by
  refine ⟨F, Hk, bp, ρ, S, ?_⟩
  cases e : a ρ with
  | stuck => rw [e] at h; exact p.st _ h
  | exc x ρ' => rw [e] at h; exact p.ex _ _ _ h
  | ok q =>
    rw [e] at h
    exact fun Hk1 H1 v x1 S1 r1 => ⟨Hk1, q.1, q.2, x1, ⟨S1, S.2⟩, r1, p.mono _ _ _ x1 h⟩
theorem bO (p : Post c F bp σ P) {a : ME} {k : MV → Env → Res (β × Env)} (S : At c F Hk H bp σ ρ) (h : P Hk ((a ρ).bind k)) :
    rdO c a σ H fun v H1 => ∃ Hk1 x ρ1, Ex Hk Hk1 ∧ RS c.K F Hk1 H1 bp (σ ++ [some v]) (ρ1 ++ [some x]) ∧ P Hk1 (k x ρ1) := by
  refine ⟨F, Hk, bp, ρ, S, ?_⟩
  cases e : a ρ with
  | stuck => rw [e] at h; exact p.st _ h
  | exc x ρ' => rw [e] at h; exact p.ex _ _ _ h
  | ok q =>
    rw [e] at h
    exact fun Hk1 H1 v x1 S1 => ⟨Hk1, q.1, q.2, x1, S1, p.mono _ _ _ x1 h⟩
theorem bT (p : Post c F bp σ P) {a : MT} {k : Bool → Env → Res (β × Env)} (S : At c F Hk H bp σ ρ) (h : P Hk ((a ρ).bind k)) :
    rdT c a σ H fun b H1 => ∃ Hk1 ρ1, Ex Hk Hk1 ∧ At c F Hk1 H1 bp σ ρ1 ∧ P Hk1 (k b ρ1) := by
  refine ⟨F, Hk, bp, ρ, S, ?_⟩
  cases e : a ρ with
  | stuck => rw [e] at h; exact p.st _ h
  | exc x ρ' => rw [e] at h; exact p.ex _ _ _ h
  | ok q =>
    rw [e] at h
    exact fun Hk1 H1 x1 S1 => ⟨Hk1, q.2, x1, ⟨S1, S.2⟩, p.mono _ _ _ x1 h⟩
theorem bA (p : Post c F bp σ P) {a : MA} {k : List MV → Env → Res (β × Env)} (S : At c F Hk H bp σ ρ) (h : P Hk ((a ρ).bind k)) :
    rdA c a σ H fun vs H1 => ∃ Hk1 xs ρ1, Ex Hk Hk1 ∧ At c F Hk1 H1 bp σ ρ1 ∧ RVs c.K Hk1 xs vs ∧ P Hk1 (k xs ρ1) := by
  refine ⟨F, Hk, bp, ρ, S, ?_⟩
  cases e : a ρ with
  | stuck => rw [e] at h; exact p.st _ h
  | exc x ρ' => rw [e] at h; exact p.ex _ _ _ h
  | ok q =>
    rw [e] at h
    exact fun Hk1 H1 vs x1 S1 r1 => ⟨Hk1, q.1, q.2, x1, ⟨S1, S.2⟩, r1, p.mono _ _ _ x1 h⟩
end
section
variable {c : Ct}
theorem okE.imp {F Hk : Hp} {bp : List (Nat × Addr)} {σ : St} {Q Q' : VK} {r : Res (MV × Env)} (h : okE c F Hk bp σ Q r) (w : ∀ v H, Q v H → Q' v H) : okE c F Hk bp σ Q' r := by
  cases r with
  | ok a => exact fun Hk2 H2 v x S r => w _ _ (h Hk2 H2 v x S r)
  | exc e ρ => exact h
  | stuck => exact h
theorem okT.imp {F Hk : Hp} {bp : List (Nat × Addr)} {σ : St} {Q Q' : Bool → Hp → Prop} {r : Res (Bool × Env)} (h : okT c F Hk bp σ Q r) (w : ∀ v H, Q v H → Q' v H) : okT c F Hk bp σ Q' r := by
  cases r with
  | ok a => exact fun Hk2 H2 x S => w _ _ (h Hk2 H2 x S)
  | exc e ρ => exact h
  | stuck => exact h
theorem okA.imp {F Hk : Hp} {bp : List (Nat × Addr)} {σ : St} {Q Q' : List V → Hp → Prop} {r : Res (List MV × Env)} (h : okA c F Hk bp σ Q r) (w : ∀ v H, Q v H → Q' v H) : okA c F Hk bp σ Q' r := by
  cases r with
  | ok a => exact fun Hk2 H2 v x S r => w _ _ (h Hk2 H2 v x S r)
  | exc e ρ => exact h
  | stuck => exact h
theorem okO.imp {F Hk : Hp} {bp : List (Nat × Addr)} {σ : St} {Q Q' : VK} {r : Res (MV × Env)} (h : okO c F Hk bp σ Q r) (w : ∀ v H, Q v H → Q' v H) : okO c F Hk bp σ Q' r := by
  cases r with
  | ok a => exact fun Hk2 H2 v x S => w _ _ (h Hk2 H2 v x S)
  | exc e ρ => exact h
  | stuck => exact h
theorem rdw {m : ME} {σ : St} {H : Hp} {Q Q' : VK} (h : rdE c m σ H Q) (w : ∀ v H, Q v H → Q' v H) : rdE c m σ H Q' := let ⟨F, Hk, bp, ρ, S, q⟩ := h; ⟨F, Hk, bp, ρ, S, q.imp w⟩
theorem rdOw {m : ME} {σ : St} {H : Hp} {Q Q' : VK} (h : rdO c m σ H Q) (w : ∀ v H, Q v H → Q' v H) : rdO c m σ H Q' := let ⟨F, Hk, bp, ρ, S, q⟩ := h; ⟨F, Hk, bp, ρ, S, q.imp w⟩
theorem rdTw {m : MT} {σ : St} {H : Hp} {Q Q' : Bool → Hp → Prop} (h : rdT c m σ H Q) (w : ∀ v H, Q v H → Q' v H) : rdT c m σ H Q' := let ⟨F, Hk, bp, ρ, S, q⟩ := h; ⟨F, Hk, bp, ρ, S, q.imp w⟩
theorem rdAw {m : MA} {σ : St} {H : Hp} {Q Q' : List V → Hp → Prop} (h : rdA c m σ H Q) (w : ∀ v H, Q v H → Q' v H) : rdA c m σ H Q' := let ⟨F, Hk, bp, ρ, S, q⟩ := h; ⟨F, Hk, bp, ρ, S, q.imp w⟩
end
section
variable {X : Cx} {c : Ct}
def mTest (a : ME) : MT := fun ρ => (a ρ).bind fun x ρ1 => match x with | .bl b => .ok (b, ρ1) | _ => .stuck
theorem rd_test {a : ME} {σ : St} {H : Hp} {Q : Bool → Hp → Prop} (h : rdT c (mTest a) σ H Q) : (rdE c a) σ H fun x H' => ∃ k, x = .bl k ∧ Q k H' := by
  obtain ⟨F, Hk, bp, ρ, S, h⟩ := h
  obtain ⟨F', Hk', bp', ρ', S', h'⟩ := bE postT S h
  refine ⟨F', Hk', bp', ρ', S', ?_⟩
  cases e : a ρ' with
  | stuck => rw [e] at h'; exact h'
  | exc x r => rw [e] at h'; exact h'
  | ok q =>
    rw [e] at h'
    intro Hk1 H1 v x1 S1 r1
    obtain ⟨Hk2, x, ρ2, x2, S2, r2, h2⟩ := h' Hk1 H1 v x1 S1 r1
    cases x with
    | bl b => exact ⟨b, RV.bl.mp r2, h2 _ _ (Ex.refl _) S2.1⟩
    | _ => exact h2.elim
theorem mt_cmp {op : CmpOp} {f : MV → MV → Option MV} {r : R2} {a b : Expr} {ma mb : ME} {pos : Pos} (ho : OpR X (compareOp op) r) (o : OpS c.K f r) (ha : PE X a (rdE c ma)) (hb : PE X b (rdE c mb)) (hm : behindInMarks op b = false) :
    PT X (.Compare a [op] [b] pos) (rdT c (mTest (mOp f ma mb))) := PTw (pt_cmpR ho ha hb hm) fun σ H Q h => rd_op (Q := fun x H' => ∃ k, x = .bl k ∧ Q k H') o (rd_test h)
theorem mt_val {e : Expr} {m : ME} (h : PE X e (rdE c m)) (he : ∀ whole, isTrue e X.env whole = (do let v ← whole; standAt e.pos; holding [v] (truthy v)) := by intro _; rfl) : PT X e (rdT c (mTest m)) :=
  PTw (pt_val h he) fun σ H Q h => rd_test h
def mChain (f g : MV → MV → Option MV) (a b d : ME) : ME := fun ρ => (a ρ).bind fun x ρ1 => (b ρ1).bind fun y ρ2 => match f x y with
  | some (.bl true) => (d ρ2).bind fun z ρ3 => match g y z with | some w => .ok (w, ρ3) | none => .stuck
  | some (.bl false) => .ok (.bl false, ρ2)
  | _ => .stuck
theorem opEnd {f : MV → MV → Option MV} {r : R2} (o : OpS c.K f r) {F Hk H : Hp} {bp : List (Nat × Addr)} {σ : St} {ρ : Env} {Q : VK} {x y : MV} {v w : V} (S : At c F Hk H bp σ ρ) (r1 : RV c.K Hk x v) (r2 : RV c.K Hk y w)
    (h : okE c F Hk bp σ Q (match f x y with | some z => .ok (z, ρ) | none => .stuck)) : r v w H Q := by
  cases e : f x y with
  | none => rw [e] at h; exact h.elim
  | some z =>
    rw [e] at h
    exact o x y z v w Hk H Q e S.1.ex r1 r2 (fun u ru => h _ _ u (Ex.refl _) S.1 ru) fun p ob hp ru => h _ _ _ (Ex.new (S.1.ex.back hp)) (S.1.new hp) ru
theorem rd_chain {f g : MV → MV → Option MV} {r r' : R2} (o : OpS c.K f r) (o' : OpS c.K g r') {a b d : ME} {σ : St} {H : Hp} {Q : VK} (h : rdE c (mChain f g a b d) σ H Q) : tChain r r' (rdE c a) (rdE c b) (rdE c d) σ H Q := by
  obtain ⟨F, Hk, bp, ρ, S, h⟩ := h
  refine rdw (bE postE S h) fun v H1 ⟨Hk1, x, ρ1, x1, S1, r1, h1⟩ => ?_
  refine rdw (bE postE S1 h1) fun w H2 ⟨Hk2, y, ρ2, x2, S2, r2, h2⟩ => ?_
  split at h2
  · rename_i e
    refine o x y _ v w Hk2 H2 _ e S2.1.ex (RV.mono x2 _ _ r1) r2 (fun u ru => ⟨true, RV.bl.mp ru, ?_⟩) fun p ob hp ru => nomatch (RV.bl.mp ru)
    rw [if_pos rfl]
    refine rdw (bE postE S2 h2) fun z H3 ⟨Hk3, zz, ρ3, x3, S3, r3, h3⟩ => ?_
    exact opEnd o' S3 (RV.mono x3 _ _ r2) r3 h3
  · rename_i e
    refine o x y _ v w Hk2 H2 _ e S2.1.ex (RV.mono x2 _ _ r1) r2 (fun u ru => ⟨false, RV.bl.mp ru, ?_⟩) fun p ob hp ru => nomatch (RV.bl.mp ru)
    rw [if_neg (by decide)]
    exact h2 _ _ _ (Ex.refl _) S2.1 (RV.bl.mpr rfl)
  · exact h2.elim
theorem me_chain {op op' : CmpOp} {f g : MV → MV → Option MV} {r r' : R2} {a b d : Expr} {ma mb md : ME} {pos : Pos} (ho : OpR X (compareOp op) r) (o : OpS c.K f r) (ho' : OpR X (compareOp op') r') (o' : OpS c.K g r')
    (ha : PE X a (rdE c ma)) (hb : PE X b (rdE c mb)) (hd : PE X d (rdE c md)) (hm : lastMarks [op, op'] [b, d] = false := by with_unfolding_all rfl) : PE X (.Compare a [op, op'] [b, d] pos) (rdE c (mChain f g ma mb md)) :=
  PEw (pe_chain ho ho' ha hb hd hm) fun _ _ _ h => rd_chain o o' h
def mAndT (a b : MT) : MT := fun ρ => (a ρ).bind fun x ρ1 => if x then b ρ1 else .ok (false, ρ1)
def mOrT (a b : MT) : MT := fun ρ => (a ρ).bind fun x ρ1 => if x then .ok (true, ρ1) else b ρ1
def mNotT (a : MT) : MT := fun ρ => (a ρ).bind fun x ρ1 => .ok (!x, ρ1)
def mBv (t : MT) : ME := fun ρ => (t ρ).bind fun x ρ1 => .ok (.bl x, ρ1)
theorem rd_andT {a b : MT} {σ : St} {H : Hp} {Q : Bool → Hp → Prop} (h : rdT c (mAndT a b) σ H Q) : tAnd (rdT c a) (rdT c b) σ H Q := by
  obtain ⟨F, Hk, bp, ρ, S, h⟩ := h
  refine rdTw (bT postT S h) fun k H1 ⟨Hk1, ρ1, x1, S1, h1⟩ => ?_
  cases k with
  | true => rw [if_pos rfl] at h1 ⊢; exact ⟨F, Hk1, bp, ρ1, S1, h1⟩
  | false => rw [if_neg (by decide)] at h1 ⊢; exact h1 _ _ (Ex.refl _) S1.1
theorem rd_orT {a b : MT} {σ : St} {H : Hp} {Q : Bool → Hp → Prop} (h : rdT c (mOrT a b) σ H Q) : tOr (rdT c a) (rdT c b) σ H Q := by
  obtain ⟨F, Hk, bp, ρ, S, h⟩ := h
  refine rdTw (bT postT S h) fun k H1 ⟨Hk1, ρ1, x1, S1, h1⟩ => ?_
  cases k with
  | true => rw [if_pos rfl] at h1 ⊢; exact h1 _ _ (Ex.refl _) S1.1
  | false => rw [if_neg (by decide)] at h1 ⊢; exact ⟨F, Hk1, bp, ρ1, S1, h1⟩
theorem rd_notT {a : MT} {σ : St} {H : Hp} {Q : Bool → Hp → Prop} (h : rdT c (mNotT a) σ H Q) : tNot (rdT c a) σ H Q := by
  obtain ⟨F, Hk, bp, ρ, S, h⟩ := h
  exact rdTw (bT postT S h) fun k H1 ⟨Hk1, ρ1, x1, S1, h1⟩ => h1 _ _ (Ex.refl _) S1.1
theorem mw_one_and {a : Expr} {m : MT} {pos : Pos} (h : PT X a (rdT c m)) : PW X (.BoolOp .And [a] pos) (rdT c m) := pw_and1 h
theorem mw_one_or {a : Expr} {m : MT} {pos : Pos} (h : PT X a (rdT c m)) : PW X (.BoolOp .Or [a] pos) (rdT c m) := pw_or1 h
theorem mw_and {a b : Expr} {r : List Expr} {m n : MT} {pos : Pos} (h : PT X a (rdT c m)) (g : PW X (.BoolOp .And (b :: r) pos) (rdT c n)) : PW X (.BoolOp .And (a :: b :: r) pos) (rdT c (mAndT m n)) := PWw (pw_and h g) fun _ _ _ q => rd_andT q
theorem mw_or {a b : Expr} {r : List Expr} {m n : MT} {pos : Pos} (h : PT X a (rdT c m)) (g : PW X (.BoolOp .Or (b :: r) pos) (rdT c n)) : PW X (.BoolOp .Or (a :: b :: r) pos) (rdT c (mOrT m n)) := PWw (pw_or h g) fun _ _ _ q => rd_orT q
theorem mt_not {a : Expr} {m : MT} {pos : Pos} (h : PT X a (rdT c m)) : PT X (.UnaryOp .Not a pos) (rdT c (mNotT m)) := PTw (pt_not h) fun _ _ _ q => rd_notT q
theorem rdBv' {t : MT} {σ : St} {H : Hp} {Q : VK} (h : rdE c (mBv t) σ H Q) : rdT c t σ H fun k H1 => Q (.bl k) H1 := by
  obtain ⟨F, Hk, bp, ρ, S, h⟩ := h
  exact rdTw (bT postE S h) fun k H1 ⟨Hk1, ρ1, x1, S1, h1⟩ => h1 _ _ _ (Ex.refl _) S1.1 (RV.bl.mpr rfl)
end
end Tm
set_option Elab.async false
set_option linter.all false
set_option maxRecDepth 100000
set_option maxHeartbeats 2000000
namespace Tm
open PySem L2
open Evl (Ex ex_rd ex_l ex_t)
section
variable {X : Cx} {c : Ct}
theorem me_not {a : Expr} {m : ME} {pos : Pos} (h : PE X a (rdE c m)) : PE X (.UnaryOp .Not a pos) (rdE c (mBv (mNotT (mTest m)))) :=
  PEw (pe_not h) fun σ H Q q => rdw (rd_test (rd_notT (rdBv' q))) fun v H1 ⟨k, e, q⟩ => ⟨k, e, q⟩
def mUn (f : MV → Option MV) (a : ME) : ME := fun ρ => (a ρ).bind fun x ρ1 => match f x with | some z => .ok (z, ρ1) | none => .stuck
def fNeg : MV → Option MV
  | .int i => some (.int (-i))
  | _ => none
def UnS (K : PySem.W.Frag) (f : MV → Option MV) (r : V → Hp → VK → Prop) : Prop := ∀ (x z : MV) (v : V) (Hk H : Hp) (Q : VK), f x = some z → Ex Hk H → RV K Hk x v → (∀ u, RV K Hk z u → Q u H) →
  (∀ p o, H p = none → RV K (upd Hk p o) z (.ref p) → Q (.ref p) (upd H p o)) → r v H Q
theorem unEnd {f : MV → Option MV} {r : V → Hp → VK → Prop} (o : UnS c.K f r) {F Hk H : Hp} {bp : List (Nat × Addr)} {σ : St} {ρ : Env} {Q : VK} {x : MV} {v : V} (S : At c F Hk H bp σ ρ) (r1 : RV c.K Hk x v)
    (h : okE c F Hk bp σ Q (match f x with | some z => .ok (z, ρ) | none => .stuck)) : r v H Q := by
  cases e : f x with
  | none => rw [e] at h; exact h.elim
  | some z =>
    rw [e] at h
    exact o x z v Hk H Q e S.1.ex r1 (fun u ru => h _ _ u (Ex.refl _) S.1 ru) fun p ob hp ru => h _ _ _ (Ex.new (S.1.ex.back hp)) (S.1.new hp) ru
theorem rd_un {f : MV → Option MV} {r : V → Hp → VK → Prop} (o : UnS c.K f r) {a : ME} {σ : St} {H : Hp} {Q : VK} (h : rdE c (mUn f a) σ H Q) : tUn r (rdE c a) σ H Q := by
  obtain ⟨F, Hk, bp, ρ, S, h⟩ := h
  exact rdw (bE postE S h) fun v H1 ⟨Hk1, x, ρ1, x1, S1, r1, h1⟩ => unEnd o S1 r1 h1
theorem us_neg {K : PySem.W.Frag} : UnS K fNeg (rU fun i => .int (-i)) := by
  intro x z v Hk H Q e ex r1 q qn
  unfold fNeg at e
  split at e
  · cases e; exact ⟨_, RV.int.mp r1, q _ (RV.int.mpr rfl)⟩
  · cases e
theorem me_neg {a : Expr} {m : ME} {pos : Pos} (h : PE X a (rdE c m)) : PE X (.UnaryOp .USub a pos) (rdE c (mUn fNeg m)) := PEw (pe_un un_neg h) fun _ _ _ q => rd_un us_neg q
def mNil : MA := fun ρ => .ok ([], ρ)
def mCons (a : ME) (b : MA) : MA := fun ρ => (a ρ).bind fun x ρ1 => (b ρ1).bind fun xs ρ2 => .ok (x :: xs, ρ2)
theorem ma_nil : PA X [] (rdA c mNil) := PAw pa_nil fun σ H Q h => by
  obtain ⟨F, Hk, bp, ρ, S, h⟩ := h
  exact h _ _ _ (Ex.refl _) S.1 (RVs.nil.mpr rfl)
theorem ma_cons {e : Expr} {es : List Expr} {a : ME} {b : MA} (ha : PE X e (rdE c a)) (hb : PA X es (rdA c b)) (hs : starEach (e :: es) X.env = (false, eval e X.env) :: starEach es X.env := by rfl) : PA X (e :: es) (rdA c (mCons a b)) :=
  PAw (pa_cons ha hb hs) fun σ H Q h => by
    obtain ⟨F, Hk, bp, ρ, S, h⟩ := h
    refine rdw (bE postA S h) fun v H1 ⟨Hk1, x, ρ1, x1, S1, r1, h1⟩ => ?_
    refine rdAw (bA postA S1 h1) fun vs H2 ⟨Hk2, xs, ρ2, x2, S2, r2, h2⟩ => ?_
    exact h2 _ _ _ (Ex.refl _) S2.1 (RVs.cons.mpr ⟨v, vs, rfl, RV.mono x2 _ _ r1, r2⟩)
def mTup (a : MA) : ME := fun ρ => (a ρ).bind fun xs ρ1 => if szOk xs.length then .ok (.tup xs, ρ1) else .stuck
def mLst (a : MA) : ME := fun ρ => (a ρ).bind fun xs ρ1 => if szOk xs.length then .ok (.lst xs, ρ1) else .stuck
def mLstO (a : MA) : ME := fun ρ => (a ρ).bind fun xs ρ1 => if szOk xs.length then .ok (.own xs, ρ1) else .stuck
theorem me_tup {es : List Expr} {a : MA} {pos : Pos} {k : Nat} (h : PA X es (rdA c a)) : PE X (.Tuple es k pos) (rdE c (mTup a)) := PEw (pe_tup h) fun σ H Q h => by
  obtain ⟨F, Hk, bp, ρ, S, h⟩ := h
  refine rdAw (bA postE S h) fun vs H1 ⟨Hk1, xs, ρ1, x1, S1, r1, h1⟩ => ?_
  split at h1
  · rename_i hz
    refine ⟨by rw [r1.length]; exact szOk_iff.mp hz, fun p hp => h1 _ _ _ (Ex.new (S1.1.ex.back hp)) (S1.1.new hp) (RV.tup.mpr ⟨p, vs, rfl, SqT.of upd_same, r1.mono (Ex.new (S1.1.ex.back hp))⟩)⟩
  · exact h1.elim
theorem me_lst {es : List Expr} {a : MA} {pos : Pos} (h : PA X es (rdA c a)) : PE X (.List es pos) (rdE c (mLst a)) := PEw (pe_lst h) fun σ H Q h => by
  obtain ⟨F, Hk, bp, ρ, S, h⟩ := h
  refine rdAw (bA postE S h) fun vs H1 ⟨Hk1, xs, ρ1, x1, S1, r1, h1⟩ => ?_
  split at h1
  · rename_i hz
    refine ⟨by rw [r1.length]; exact szOk_iff.mp hz, fun p hp => h1 _ _ _ (Ex.new (S1.1.ex.back hp)) (S1.1.new hp) (RV.lst.mpr ⟨p, vs, rfl, upd_same, r1.mono (Ex.new (S1.1.ex.back hp))⟩)⟩
  · exact h1.elim
theorem mo_lst {es : List Expr} {a : MA} {pos : Pos} (h : PA X es (rdA c a)) : PE X (.List es pos) (rdO c (mLstO a)) := PEw (pe_lst h) fun σ H Q h => by
  obtain ⟨F, Hk, bp, ρ, S, h⟩ := h
  refine rdAw (bA postO S h) fun vs H1 ⟨Hk1, xs, ρ1, x1, S1, r1, h1⟩ => ?_
  split at h1
  · rename_i hz
    exact ⟨by rw [r1.length]; exact szOk_iff.mp hz, fun p hp => h1 _ _ _ (Ex.refl _) (S1.1.pushOwn hp r1)⟩
  · exact h1.elim
theorem me_ix {a b : Expr} {ma mb : ME} {pos : Pos} (ha : PE X a (rdE c ma)) (hb : PE X b (rdE c mb)) (hK : c.K = X.K := by rfl) (hs : PlainIx b := by exact fun _ _ => rfl) : PE X (.Subscript a b pos) (rdE c (mOp fIx ma mb)) :=
  PEw (pe_ix ix_seq ha hb hs) fun _ _ _ q => rd_op (by rw [hK]; exact os_ix) q
def has (ρ : Env) (i : Nat) : Bool := match ρ[i]? with | some (some _) => true | _ => false
def mNo : Env → Res (Option Int × Env) := fun ρ => .ok (none, ρ)
def mPart (a : ME) : Env → Res (Option Int × Env) := fun ρ => (a ρ).bind fun x ρ1 => match x with | .int i => .ok (some i, ρ1) | _ => .stuck
def okP (c : Ct) (F Hk : Hp) (bp : List (Nat × Addr)) (σ : St) (Q : Option Int → Hp → Prop) : Res (Option Int × Env) → Prop
  | .ok (x, ρ') => ∀ Hk' H', Ex Hk Hk' → RS c.K F Hk' H' bp σ ρ' → Q x H'
  | .exc e ρ' => Wish c F Hk bp σ e ρ'
  | .stuck => False
theorem okP.mono {F Hk Hk' : Hp} {bp : List (Nat × Addr)} {σ : St} {Q : Option Int → Hp → Prop} {r : Res (Option Int × Env)} (x : Ex Hk Hk') (h : okP c F Hk bp σ Q r) : okP c F Hk' bp σ Q r := by
  cases r with
  | ok a => exact fun Hk2 H2 x2 => h Hk2 H2 (x.trans x2)
  | exc e ρ => exact Wish.mono x h
  | stuck => exact h
theorem postP {F : Hp} {bp : List (Nat × Addr)} {σ : St} {Q : Option Int → Hp → Prop} : Post c F bp σ fun Hk r => okP c F Hk bp σ Q r := ⟨fun _ _ _ h => h, fun _ h => h, fun _ _ _ x h => okP.mono x h⟩
def rdP (c : Ct) (m : Env → Res (Option Int × Env)) : TO := fun σ H Q => ∃ F Hk bp ρ, At c F Hk H bp σ ρ ∧ okP c F Hk bp σ Q (m ρ)
theorem POw {e : Option Expr} {t t' : TO} (h : PO X e t) (w : ∀ σ H Q, t' σ H Q → t σ H Q) : PO X e t' := ⟨fun pins s σ H Q I q => h.run pins s σ H Q I (w σ H Q q)⟩
theorem mp_none : PO X none (rdP c mNo) := POw po_none fun σ H Q ⟨F, Hk, bp, ρ, S, h⟩ => h _ _ (Ex.refl _) S.1
theorem mp_some {e : Expr} {m : ME} (h : PE X e (rdE c m)) : PO X (some e) (rdP c (mPart m)) := POw (po_some h) fun σ H Q ⟨F, Hk, bp, ρ, S, h⟩ => rdw (bE postP S h) fun v H1 ⟨Hk1, x, ρ1, x1, S1, r1, h1⟩ => by
  cases x with
  | int i => exact ⟨i, RV.int.mp r1, h1 _ _ (Ex.refl _) S1.1⟩
  | _ => exact h1.elim
theorem bP {F Hk H : Hp} {bp : List (Nat × Addr)} {σ : St} {ρ : Env} {β : Type} {P : Hp → Res (β × Env) → Prop} (p : Post c F bp σ P) {a : Env → Res (Option Int × Env)} {k : Option Int → Env → Res (β × Env)} (S : At c F Hk H bp σ ρ) (h : P Hk ((a ρ).bind k)) :
    rdP c a σ H fun b H1 => ∃ Hk1 ρ1, Ex Hk Hk1 ∧ At c F Hk1 H1 bp σ ρ1 ∧ P Hk1 (k b ρ1) := by
  refine ⟨F, Hk, bp, ρ, S, ?_⟩
  cases e : a ρ with
  | stuck => rw [e] at h; exact p.st _ h
  | exc x ρ' => rw [e] at h; exact p.ex _ _ _ h
  | ok q =>
    rw [e] at h
    exact fun Hk1 H1 x1 S1 => ⟨Hk1, q.2, x1, ⟨S1, S.2⟩, p.mono _ _ _ x1 h⟩
def cutM (xs : List MV) (lo hi : Option Int) : List MV := (xs.drop (HT.sIx xs.length 0 lo)).take (HT.sIx xs.length xs.length hi - HT.sIx xs.length 0 lo)
theorem RVs.cut {K : PySem.W.Frag} {H : Hp} {xs : List MV} {vs : List V} (r : RVs K H xs vs) (lo hi : Option Int) : RVs K H (cutM xs lo hi) (cutV vs lo hi) := by
  unfold cutM cutV
  rw [r.length]
  exact (r.drop _).take _
def fSl : MV → Option Int → Option Int → Option MV
  | .lst xs, lo, hi => some (.lst (cutM xs lo hi))
  | .tup xs, lo, hi => some (.tup (cutM xs lo hi))
  | .str z, lo, hi => if szOk z.length then some (.str (cutS z lo hi)) else none
  | _, _, _ => none
def rSlM (K : PySem.W.Frag) : V → Option Int → Option Int → Hp → VK → Prop := fun x lo hi H Q => rSlL K x lo hi H Q ∨ rSlA K x lo hi H Q ∨ rSlS x lo hi H Q
theorem sl_M : SlR X (rSlM X.K) := SlR.or sl_list (SlR.or sl_tupA sl_str)
theorem whole_cut {xs : List MV} {lo hi : Option Int} (h : HT.sIx xs.length 0 lo = 0 ∧ HT.sIx xs.length xs.length hi = xs.length) : cutM xs lo hi = xs := by
  unfold cutM
  rw [h.1, h.2]
  simp
theorem os_sl {K : PySem.W.Frag} {x z : MV} {lo hi : Option Int} {v : V} {Hk H : Hp} {Q : VK} (e : fSl x lo hi = some z) (ex : Ex Hk H) (r1 : RV K Hk x v) (q : ∀ u, RV K Hk z u → Q u H)
    (qn : ∀ p o, H p = none → RV K (upd Hk p o) z (.ref p) → Q (.ref p) (upd H p o)) : rSlM K v lo hi H Q := by
  unfold fSl at e
  split at e
  · cases e
    obtain ⟨p1, vs, rfl, h1, s1⟩ := RV.lst.mp r1
    refine .inl ⟨p1, vs, rfl, SqL.of (ex _ _ h1), fun p hp => qn p _ hp ?_⟩
    exact RV.lst.mpr ⟨p, _, rfl, upd_same, (s1.cut lo hi).mono (Ex.new (ex.back hp))⟩
  · cases e
    obtain ⟨p1, vs, rfl, h1, s1⟩ := RV.tup.mp r1
    refine .inr (.inl ⟨p1, vs, rfl, ex_t ex h1, fun hw => ?_, fun hw p hp => qn p _ hp ?_⟩)
    · rw [s1.length] at hw
      rw [whole_cut hw] at q
      exact q _ r1
    · exact RV.tup.mpr ⟨p, _, rfl, SqT.of upd_same, (s1.cut lo hi).mono (Ex.new (ex.back hp))⟩
  · split at e
    · rename_i hz
      cases e
      exact .inr (.inr ⟨_, RV.str.mp r1, szOk_iff.mp hz, q _ (RV.str.mpr rfl)⟩)
    · cases e
  · cases e
def mSl (a : ME) (l h : Env → Res (Option Int × Env)) : ME := fun ρ => (a ρ).bind fun x ρ1 => (l ρ1).bind fun i ρ2 => (h ρ2).bind fun j ρ3 => match fSl x i j with | some z => .ok (z, ρ3) | none => .stuck
theorem rd_sl {a : ME} {l h' : Env → Res (Option Int × Env)} {σ : St} {H : Hp} {Q : VK} (h : rdE c (mSl a l h') σ H Q) : tSl (rSlM c.K) (rdE c a) (rdP c l) (rdP c h') σ H Q := by
  obtain ⟨F, Hk, bp, ρ, S, h⟩ := h
  refine rdw (bE postE S h) fun v H1 ⟨Hk1, x, ρ1, x1, S1, r1, h1⟩ => ?_
  have w : ∀ {m : Env → Res (Option Int × Env)} {σ : St} {H : Hp} {Q Q' : Option Int → Hp → Prop}, rdP c m σ H Q → (∀ v H, Q v H → Q' v H) → rdP c m σ H Q' := fun {m σ H Q Q'} ⟨F, Hk, bp, ρ, S, q⟩ w => ⟨F, Hk, bp, ρ, S, by
    cases e : m ρ with
    | ok a => rw [e] at q; exact fun Hk2 H2 x S => w _ _ (q Hk2 H2 x S)
    | exc e' ρ => rw [e] at q; exact q
    | stuck => rw [e] at q; exact q⟩
  refine w (bP postE S1 h1) fun i H2 ⟨Hk2, ρ2, x2, S2, h2⟩ => ?_
  refine w (bP postE S2 h2) fun j H3 ⟨Hk3, ρ3, x3, S3, h3⟩ => ?_
  have h3 : okE c F Hk3 bp σ Q (match fSl x i j with | some z => .ok (z, ρ3) | none => .stuck) := h3
  cases e : fSl x i j with
  | none => rw [e] at h3; exact h3.elim
  | some z =>
    rw [e] at h3
    exact os_sl e S3.1.ex (RV.mono (x2.trans x3) _ _ r1) (fun u ru => h3 _ _ u (Ex.refl _) S3.1 ru) fun p ob hp ru => h3 _ _ _ (Ex.new (S3.1.ex.back hp)) (S3.1.new hp) ru
theorem me_sl {a : Expr} {lo hi : Option Expr} {ma : ME} {ml mh : Env → Res (Option Int × Env)} {pos p2 : Pos} (ha : PE X a (rdE c ma)) (hl : PO X lo (rdP c ml)) (hh : PO X hi (rdP c mh)) (hK : c.K = X.K := by rfl) : PE X (.Subscript a (.Slice lo hi none p2) pos) (rdE c (mSl ma ml mh)) :=
  PEw (pe_slice sl_M ha hl hh) fun _ _ _ q => by rw [← hK]; exact rd_sl q
section
variable {a b : Expr} {ma mb : ME} {pos : Pos}
theorem me_add (ha : PE X a (rdE c ma)) (hb : PE X b (rdE c mb)) (hK : c.K = X.K := by rfl) : PE X (.BinOp a .Add b pos) (rdE c (mOp fAdd ma mb)) := me_op op_addM (by rw [← hK]; exact os_add) ha hb
theorem me_sub (ha : PE X a (rdE c ma)) (hb : PE X b (rdE c mb)) : PE X (.BinOp a .Sub b pos) (rdE c (mOp fSub ma mb)) := me_op op_sub os_sub ha hb
theorem me_mul (ha : PE X a (rdE c ma)) (hb : PE X b (rdE c mb)) (hK : c.K = X.K := by rfl) : PE X (.BinOp a .Mult b pos) (rdE c (mOp fMul ma mb)) := me_op op_mulM (by rw [← hK]; exact os_mul) ha hb
theorem me_div (ha : PE X a (rdE c ma)) (hb : PE X b (rdE c mb)) : PE X (.BinOp a .FloorDiv b pos) (rdE c (mOp fDiv ma mb)) := me_op op_divM os_div ha hb
theorem me_mod (ha : PE X a (rdE c ma)) (hb : PE X b (rdE c mb)) : PE X (.BinOp a .Mod b pos) (rdE c (mOp fMod ma mb)) := me_op op_modN os_mod ha hb
theorem me_pow (ha : PE X a (rdE c ma)) (hb : PE X b (rdE c mb)) : PE X (.BinOp a .Pow b pos) (rdE c (mOp fPow ma mb)) := me_op op_pow os_pow ha hb
end
end
end Tm
set_option Elab.async false
set_option linter.all false
set_option maxRecDepth 100000
set_option maxHeartbeats 2000000
namespace Tm
open PySem L2
open Evl (Ex ex_rd ex_l ex_t)
section
variable {X : Cx} {c : Ct}
abbrev MG := MV → Env → Option Env
def okG (c : Ct) (F Hk : Hp) (bp : List (Nat × Addr)) (Q : St → Hp → Prop) : Option Env → Prop
  | some ρ' => ∀ Hk' H' σ', Ex Hk Hk' → RS c.K F Hk' H' bp σ' ρ' → Q σ' H'
  | none => False
def rdG (c : Ct) (m : MG) : TG := fun v σ H Q => ∃ F Hk bp ρ x, At c F Hk H bp σ ρ ∧ RV c.K Hk x v ∧ okG c F Hk bp Q (m x ρ)
def rdGs (c : Ct) (m : List MV → Env → Option Env) : TGs := fun vs σ H Q => ∃ F Hk bp ρ xs, At c F Hk H bp σ ρ ∧ RVs c.K Hk xs vs ∧ okG c F Hk bp Q (m xs ρ)
theorem PGw {e : Expr} {t t' : TG} (h : PG X e t) (w : ∀ v σ H Q, t' v σ H Q → t v σ H Q) : PG X e t' := ⟨fun pins s σ H v u Q I r q => h.run pins s σ H v u Q I r (w v σ H Q q)⟩
theorem PGsw {e : List Expr} {t t' : TGs} (h : PGs X e t) (w : ∀ v σ H Q, t' v σ H Q → t v σ H Q) : PGs X e t' := ⟨fun pins s σ H v u Q I r q => h.run pins s σ H v u Q I r (w v σ H Q q)⟩
def gSet (i : Nat) : MG := fun x ρ => if i < ρ.length then some (ρ.set i (some x)) else none
theorem nb {bp : List (Nat × Addr)} {bs : List Nat} {i : Nat} (e : bp.map (·.1) = bs) (h : bs.contains i = false) : ∀ q ∈ bp, q.1 ≠ i := fun q hq z => by
  have m : i ∈ bs := by rw [← e, ← z]; exact List.mem_map.mpr ⟨q, hq, rfl⟩
  rw [List.contains_eq_mem] at h
  simp [m] at h
theorem rd_gname {i : Nat} (hb : c.bs.contains i = false) {v : V} {σ : St} {H : Hp} {Q : St → Hp → Prop} (h : rdG c (gSet i) v σ H Q) : gName i v σ H Q := by
  obtain ⟨F, Hk, bp, ρ, y, S, r, h⟩ := h
  unfold gSet at h
  split at h
  · rename_i hl
    exact h _ _ _ (Ex.refl _) (S.1.set hl r (nb S.2.1 hb))
  · exact h.elim
theorem mg_name {i : Nat} {x : Str} {pos : Pos} (hN : X.N.Nodup) (hi : X.N[i]? = some x) (hx : Loc X.env.scope x) (hb : c.bs.contains i = false := by rfl) (hf : X.fn x = true ∨ X.env.scope.names.lookup x = some .local := by first | exact .inl rfl | exact .inr rfl | assumption) : PG X (.Name x pos) (rdG c (gSet i)) :=
  PGw (pg_name hN hi hx hf) fun v σ H Q h => rd_gname hb h
def gsNil : List MV → Env → Option Env := fun xs ρ => match xs with | [] => some ρ | _ => none
def gsCons (a : MG) (b : List MV → Env → Option Env) : List MV → Env → Option Env := fun xs ρ => match xs with
  | x :: r => (match a x ρ with | some ρ1 => b r ρ1 | none => none)
  | [] => none
def gTp (n : Nat) (b : List MV → Env → Option Env) : MG := fun x ρ => match x with
  | .tup xs => if xs.length = n then b xs ρ else none
  | .lst xs => if xs.length = n then b xs ρ else none
  | _ => none
theorem PGor {e : Expr} {t t' : TG} (h : PG X e t) (g : PG X e t') : PG X e fun v σ H Q => t v σ H Q ∨ t' v σ H Q := ⟨fun pins s σ H v u Q I r q => by
  rcases q with q | q
  · exact h.run pins s σ H v u Q I r q
  · exact g.run pins s σ H v u Q I r q⟩
theorem mgs_nil : PGs X [] (rdGs c gsNil) := PGsw pgs_nil fun vs σ H Q ⟨F, Hk, bp, ρ, xs, S, r, h⟩ => by
  cases xs with
  | nil => exact ⟨RVs.nil.mp r, h _ _ _ (Ex.refl _) S.1⟩
  | cons x xs => exact h.elim
theorem mgs_cons {e : Expr} {es : List Expr} {a : MG} {b : List MV → Env → Option Env} (h1 : PG X e (rdG c a)) (h2 : PGs X es (rdGs c b)) (hs : (assignEach (e :: es) X.env).map (·.2) = assign e X.env :: (assignEach es X.env).map (·.2) := by rfl) : PGs X (e :: es) (rdGs c (gsCons a b)) := PGsw (pgs_cons h1 h2 hs) fun vs σ H Q ⟨F, Hk, bp, ρ, xs, S, r, h⟩ => by
  cases xs with
  | nil => exact h.elim
  | cons x xs =>
    obtain ⟨v, us, rfl, r1, r2⟩ := RVs.cons.mp r
    refine ⟨v, us, rfl, F, Hk, bp, ρ, x, S, r1, ?_⟩
    have h : okG c F Hk bp Q (match a x ρ with | some ρ1 => b xs ρ1 | none => none) := h
    cases e : a x ρ with
    | none => rw [e] at h; exact h
    | some ρ1 =>
      rw [e] at h
      intro Hk1 H1 σ1 x1 S1
      refine ⟨F, Hk1, bp, ρ1, xs, ⟨S1, S.2⟩, r2.mono x1, ?_⟩
      have h : okG c F Hk bp Q (b xs ρ1) := h
      cases e2 : b xs ρ1 with
      | none => rw [e2] at h; exact h
      | some ρ2 => rw [e2] at h; exact fun Hk2 H2 σ2 x2 => h Hk2 H2 σ2 (x1.trans x2)
theorem mg_tup {es : List Expr} {k : Nat} {b : List MV → Env → Option Env} {n : Nat} {pos : Pos} (hc : X.calm = true) (h : PGs X es (rdGs c b)) (hK : c.K = X.K := by rfl)
    (hn : (assignEach es X.env).length = n := by rfl) (hst : (assignEach es X.env).findIdx? (·.1) = none := by rfl) : PG X (.Tuple es k pos) (rdG c (gTp n b)) := PGw (PGor (pg_tup hc h hn hst) (pg_unl hc h hn hst)) fun v σ H Q ⟨F, Hk, bp, ρ, x, S, r, h⟩ => by
  unfold gTp at h
  split at h
  · split at h
    · rename_i xs hl
      obtain ⟨a, vs, rfl, h1, s1⟩ := RV.tup.mp r
      rw [← hK]
      exact .inl ⟨a, vs, rfl, ex_t S.1.ex h1, by rw [s1.length]; exact hl, F, Hk, bp, ρ, xs, S, s1, h⟩
    · exact h.elim
  · split at h
    · rename_i xs hl
      obtain ⟨a, vs, rfl, h1, s1⟩ := RV.lst.mp r
      rw [← hK]
      exact .inr ⟨a, vs, rfl, SqL.of (S.1.ex _ _ h1), by rw [s1.length]; exact hl, F, Hk, bp, ρ, xs, S, s1, h⟩
    · exact h.elim
  · exact h.elim
def mAsg (a : ME) (g : MG) : MS := fun ρ => (a ρ).bind fun x ρ1 => match g x ρ1 with | some ρ2 => .ok (.nx, ρ2) | none => .stuck
theorem rd_asg {a : ME} {g : MG} {D : Ends} {σ : St} {H : Hp} (h : rdS c (mAsg a g) D σ H) : tAsg (rdE c a) (rdG c g) D σ H := by
  obtain ⟨F, Hk, bp, ρ, S, h⟩ := h
  refine rdw (bE (postS (σ := σ)) S h) fun v H1 ⟨Hk1, x, ρ1, x1, S1, r1, h1⟩ => ⟨F, Hk1, bp, ρ1, x, S1, r1, ?_⟩
  have h1 : okS c F Hk1 bp D (match g x ρ1 with | some ρ2 => .ok (.nx, ρ2) | none => .stuck) := h1
  cases e : g x ρ1 with
  | none => rw [e] at h1; exact h1
  | some ρ2 => rw [e] at h1; exact h1
theorem ms_asg {tg e : Expr} {a : ME} {g : MG} {pos : Pos} (he : PE X e (rdE c a)) (hg : PG X tg (rdG c g)) (hs : swapsWithSole [tg] e pos.line X.env = pure false := by rfl) (hw : swappedStores [tg] e X.env = pure none := by rfl)
    (h1 : (assignEach [tg] X.env).map (·.2) = [assign tg X.env] := by rfl) : PS X (.Assign [tg] e pos) (rdS c (mAsg a g)) := PSw (ps_asg he hg hs hw h1) fun _ _ _ h => rd_asg h
theorem rd_set {i : Nat} (hb : c.bs.contains i = false) {a : ME} {D : Ends} {σ : St} {H : Hp} (h : rdS c (mAsg a (gSet i)) D σ H) : tAsg (rdE c a) (gName i) D σ H := rdw (rd_asg h) fun _ _ q => rd_gname hb q
theorem ms_set {i : Nat} {x : Str} {e : Expr} {a : ME} {pos pos' : Pos} (hN : X.N.Nodup) (hi : X.N[i]? = some x) (hx : Loc X.env.scope x) (he : PE X e (rdE c a)) (hb : c.bs.contains i = false := by rfl) (hs : swapsWith e (some (.Name x pos')) pos.line X.env = pure false := by rfl)
    (hf : X.fn x = true ∨ X.env.scope.names.lookup x = some .local := by first | exact .inl rfl | exact .inr rfl | assumption) : PS X (.Assign [.Name x pos'] e pos) (rdS c (mAsg a (gSet i))) := PSw (ps_set hN hi hx he hs hf) fun _ _ _ h => rd_set hb h
def mSetO (i : Nat) (a : ME) : MS := fun ρ => (a ρ).bind fun x ρ1 => if i < ρ1.length then .ok (.nx, ρ1.set i (some x)) else .stuck
theorem rd_setO {i : Nat} {a : ME} {D : Ends} {σ : St} {H : Hp} (hb : c.bs.contains i = false) (h : rdS c (mSetO i a) D σ H) : tAsg (rdO c a) (gName i) D σ H := by
  obtain ⟨F, Hk, bp, ρ, S, h⟩ := h
  refine rdOw (bO (postS (σ := σ)) S h) fun v H1 ⟨Hk1, x, ρ1, x1, S1, h1⟩ => ?_
  split at h1
  · rename_i hl
    refine h1 _ _ _ (Ex.refl _) (S1.take hl fun q hq => ⟨nb S.2.1 hb q hq, ?_⟩)
    have l1 : σ.length = ρ1.length := by have := S1.len; simpa using this
    rw [← l1]
    exact lt_get (S.1.bor q hq)
  · exact h1.elim
theorem ms_setO {i : Nat} {x : Str} {e : Expr} {a : ME} {pos pos' : Pos} (hN : X.N.Nodup) (hi : X.N[i]? = some x) (hx : Loc X.env.scope x) (he : PE X e (rdO c a)) (hb : c.bs.contains i = false := by rfl) (hs : swapsWith e (some (.Name x pos')) pos.line X.env = pure false := by rfl)
    (hf : X.fn x = true ∨ X.env.scope.names.lookup x = some .local := by first | exact .inl rfl | exact .inr rfl | assumption) : PS X (.Assign [.Name x pos'] e pos) (rdS c (mSetO i a)) := PSw (ps_set hN hi hx he hs hf) fun _ _ _ h => rd_setO hb h
def mPass : MS := fun ρ => .ok (.nx, ρ)
def mSeq (a b : MS) : MS := fun ρ => (a ρ).bind fun f ρ1 => match f with | .nx => b ρ1 | f => .ok (f, ρ1)
theorem okS.seq {F Hk : Hp} {bp : List (Nat × Addr)} {D : Ends} {b : MS} (eb : bp.map (·.1) = c.bs ∧ c.J F bp) {r : Res (Fl × Env)} (h : okS c F Hk bp D (r.bind fun f ρ1 => match f with | .nx => b ρ1 | f => .ok (f, ρ1))) : okS c F Hk bp { D with nx := rdS c b D } r := by
  cases r with
  | stuck => exact h
  | exc e ρ => exact h
  | ok q =>
    obtain ⟨f, ρ1⟩ := q
    cases f with
    | nx => exact fun Hk1 H1 σ1 x1 S1 => ⟨F, Hk1, bp, ρ1, ⟨S1, eb⟩, okS.mono x1 h⟩
    | br => exact h
    | ct => exact h
    | rt x => exact h
theorem rd_seq {a b : MS} {D : Ends} {σ : St} {H : Hp} (h : rdS c (mSeq a b) D σ H) : tSeq (rdS c a) (rdS c b) D σ H := by
  obtain ⟨F, Hk, bp, ρ, S, h⟩ := h
  exact ⟨F, Hk, bp, ρ, S, okS.seq S.2 h⟩
theorem mss_nil : PSs X [] (rdS c mPass) := PSsw pss_nil fun D σ H ⟨F, Hk, bp, ρ, S, h⟩ => h _ _ _ (Ex.refl _) S.1
theorem mss_one {st : Stmt} {a : MS} (h : PS X st (rdS c a)) : PSs X [st] (rdS c a) := pss_one h
theorem mss_cons {st : Stmt} {r : List Stmt} {a b : MS} (h : PS X st (rdS c a)) (g : PSs X r (rdS c b)) : PSs X (st :: r) (rdS c (mSeq a b)) := PSsw (pss_cons h g) fun _ _ _ q => rd_seq q
def mIfS (t : MT) (a b : MS) : MS := fun ρ => (t ρ).bind fun x ρ1 => if x then a ρ1 else b ρ1
theorem ms_if {t : Expr} {a b : List Stmt} {mt : MT} {ma mb : MS} {pos : Pos} (ht : PT X t (rdT c mt)) (ha : PSs X a (rdS c ma)) (hb : PSs X b (rdS c mb)) : PS X (.If t a b pos) (rdS c (mIfS mt ma mb)) := PSw (ps_if ht ha hb) fun D σ H ⟨F, Hk, bp, ρ, S, h⟩ => by
  refine rdTw (bT (postS (σ := σ)) S h) fun k H1 ⟨Hk1, ρ1, x1, S1, h1⟩ => ?_
  cases k with
  | true => rw [if_pos rfl] at h1 ⊢; exact ⟨F, Hk1, bp, ρ1, S1, h1⟩
  | false => rw [if_neg (by decide)] at h1 ⊢; exact ⟨F, Hk1, bp, ρ1, S1, h1⟩
def mRet (a : ME) : MS := fun ρ => (a ρ).bind fun x ρ1 => .ok (.rt x, ρ1)
theorem ms_ret {e : Expr} {a : ME} {pos : Pos} (h : PE X e (rdE c a)) : PS X (.Return (some e) pos) (rdS c (mRet a)) := PSw (ps_ret h) fun D σ H ⟨F, Hk, bp, ρ, S, h⟩ =>
  rdw (bE (postS (σ := σ)) S h) fun v H1 ⟨Hk1, x, ρ1, x1, S1, r1, h1⟩ => h1 _ _ _ _ (Ex.refl _) (fun q hq => lt_get (S.1.bor q hq)) (S1.1.push r1)
theorem ms_retO {e : Expr} {a : ME} {pos : Pos} (h : PE X e (rdO c a)) : PS X (.Return (some e) pos) (rdS c (mRet a)) := PSw (ps_ret h) fun D σ H ⟨F, Hk, bp, ρ, S, h⟩ =>
  rdOw (bO (postS (σ := σ)) S h) fun v H1 ⟨Hk1, x, ρ1, x1, S1, h1⟩ => h1 _ _ _ _ (Ex.refl _) (fun q hq => lt_get (S.1.bor q hq)) S1
def mDrop (a : ME) : MS := fun ρ => (a ρ).bind fun _ ρ1 => .ok (.nx, ρ1)
theorem ms_expr {e : Expr} {a : ME} {pos : Pos} (h : PE X e (rdE c a)) (hs : swapsWith e none pos.line X.env = pure false := by rfl) : PS X (.Expr e pos) (rdS c (mDrop a)) := PSw (ps_expr h hs) fun D σ H ⟨F, Hk, bp, ρ, S, h⟩ =>
  rdw (bE (postS (σ := σ)) S h) fun v H1 ⟨Hk1, x, ρ1, x1, S1, r1, h1⟩ => h1 _ _ _ (Ex.refl _) S1.1
def mMove (i : Nat) : ME := fun ρ => match ρ[i]? with
  | some (some (.obj _ _)) => .stuck
  | some (some x) => .ok (x, ρ.set i none)
  | _ => .stuck
theorem rd_move {i : Nat} (hb : c.bs.contains i = false) {σ : St} {H : Hp} {Q : VK} (h : rdO c (mMove i) σ H Q) : tVar i σ H Q := by
  obtain ⟨F, Hk, bp, ρ, S, h⟩ := h
  unfold mMove at h
  split at h
  · exact h.elim
  · rename_i x n hx
    obtain ⟨ow, s⟩ := S.1.ow
    obtain ⟨v, ev, ov⟩ := s.s i x hx
    have li := lt_get hx
    refine ⟨v, ev, h Hk H v (Ex.refl _) ?_⟩
    refine ⟨by simp [S.1.len], S.1.ex, S.1.fr, S.1.frk, ⟨put (put ow i []) ρ.length (ow i), ?_⟩, S.1.bor_app _⟩
    have nl : i ≠ ρ.length := Nat.ne_of_lt li
    have mem : ∀ j a, a ∈ put (put ow i []) ρ.length (ow i) j → (j = ρ.length ∧ a ∈ ow i) ∨ (j ≠ i ∧ j < ρ.length ∧ a ∈ ow j) := fun j a h => by
      by_cases e : j = ρ.length
      · rw [e, put_same] at h; exact .inl ⟨e, h⟩
      · rw [put_ne e] at h
        by_cases e2 : j = i
        · rw [e2, put_same] at h; cases h
        · rw [put_ne e2] at h
          exact .inr ⟨e2, s.w j (by intro z; rw [z] at h; cases h), h⟩
    refine ⟨fun j y hj => ?_, fun j a hj => ?_, fun j hj => ?_, fun j k a hjk hj hk => ?_⟩
    · rcases app_get hj with ⟨e1, e2⟩ | ⟨lt, e2⟩
      · cases e2
        rw [List.length_set] at e1
        refine ⟨v, by rw [e1, ← S.1.len]; simp, ?_⟩
        rw [e1, put_same]; exact ov
      · rcases set_get e2 with ⟨_, e3⟩ | ⟨ne, e3⟩
        · cases e3
        · obtain ⟨w, w1, w2⟩ := s.s j y e3
          have lj := lt_get e3
          exact ⟨w, by rw [List.getElem?_append_left (by rw [S.1.len]; exact lj)]; exact w1, by rw [put_ne (Nat.ne_of_lt lj), put_ne ne]; exact w2⟩
    · rcases mem j a hj with ⟨_, m⟩ | ⟨_, _, m⟩
      · exact s.f i a m
      · exact s.f j a m
    · cases e : put (put ow i []) ρ.length (ow i) j with
      | nil => exact (hj e).elim
      | cons a r =>
        rcases mem j a (by rw [e]; simp) with ⟨e, _⟩ | ⟨_, l, _⟩
        · rw [e]; simp
        · simp; omega
    · rcases mem j a hj with ⟨e1, m⟩ | ⟨e1, l1, m⟩ <;> rcases mem k a hk with ⟨e2, m2⟩ | ⟨e2, l2, m2⟩
      · exact hjk (e1.trans e2.symm)
      · exact s.d i k a (Ne.symm e2) m m2
      · exact s.d j i a e1 m m2
      · exact s.d j k a hjk m m2
  · exact h.elim
theorem mo_var {i : Nat} {x : Str} {pos : Pos} (hN : X.N[i]? = some x) (hv : Vis X.env.scope x) (hb : c.bs.contains i = false := by rfl) (hd : (x == ("__debug__" : Str)) = false := by decide) (hcd : (x == ("__classdict__" : Str)) = false := by decide) : PE X (.Name x pos) (rdO c (mMove i)) :=
  PEw (pe_var hN hv hd hcd) fun _ _ _ h => rd_move hb h
end
end Tm
set_option Elab.async false
set_option linter.all false
set_option maxRecDepth 100000
set_option maxHeartbeats 2000000
namespace Tm
open PySem L2 PySem.Spec PyProof.Rows
structure ZSrc (P : Program) (w : World) (K : PySem.W.Frag) (it : Addr) (fp : List Addr) (S : Hp → List V → Prop) (tn : Nat → Heap → Prop) : Prop where
  obj : ∀ i h, tn i h → ∃ o, h.get? it = some o ∧ ∀ v, o.data ≠ .cell v
  keep : ∀ i h h', tn i h → (∀ o, h.get? it = some o → h'.get? it = some o) → tn i h'
  inj : ∀ (X : Cx), X.K = K → ∀ pins (s : Shared) σ H xs ys, Inv X pins σ H s → S H xs → S H ys → xs = ys
  draw : ∀ (X : Cx), X.prog = P → X.w = w → X.K = K → X.calm = true → ∀ pins (s : Shared) σ H xs i, Inv X pins σ H s → S H xs → tn i s.heap →
    ∃ (Y : Nat → Value → Prop) (St : Nat → Heap → Prop), Draws P w X.A.in1 it fp xs.length Y St ∧ St i s.heap ∧ (∀ j u, Y j u → ∃ x, xs[j]? = some x ∧ RelV x u) ∧ ∀ j h, St j h → tn j h
def ItzG (S1 S2 : Hp → List V → Prop) : It :=
  ⟨fun i H => ∃ (l1 l2 : List V) (x y : V), S1 H l1 ∧ S2 H l2 ∧ l1[i]? = some x ∧ l2[i]? = some y,
    fun i H v H' => ∃ p x y, v = .ref p ∧ H p = none ∧ H' = upd H p (.tup [x, y]) ∧ (∀ l, S1 H l → l[i]? = some x) ∧ ∀ l, S2 H l → l[i]? = some y,
    fun i H => ∃ l1 l2 : List V, S1 H l1 ∧ S2 H l2 ∧ (i = l1.length ∧ l1.length ≤ l2.length ∨ i = l2.length ∧ l2.length ≤ l1.length)⟩
section
variable {P : Program} {w : World} {K : PySem.W.Frag} {elts : List Expr} {kk : Nat} {tpos : Pos} {z TI TO i1 i2 : Addr} {f1 f2 : List Addr} {S1 S2 : Hp → List V → Prop} {tn1 tn2 : Nat → Heap → Prop}
theorem turn_zipG (D : ZipSep2 z TI TO i1 i2 f1 f2) (A1 : ZSrc P w K i1 f1 S1 tn1) (A2 : ZSrc P w K i2 f2 S2 tn2) :
    Turn P w K (.Tuple elts kk tpos) (ItzG S1 S2) [z, TI, TO, i1, i2] z (fun i h => (IsZip h z TI TO .none ∧ IsTupOf2 h TI (.ref i1) (.ref i2) ∧ ∃ x y, IsTupOf2 h TO x y) ∧ tn1 i h ∧ tn2 i h) where
  mem := List.mem_cons_self ..
  obj := by
    rintro i h ⟨⟨gz, gT, p0, q0, gO⟩, t1, t2⟩ c hc
    simp only [List.mem_cons, List.not_mem_nil, or_false] at hc
    rcases hc with rfl | rfl | rfl | rfl | rfl
    · exact ⟨_, gz, by intro v e; cases e⟩
    · exact ⟨_, gT, by intro v e; cases e⟩
    · exact ⟨_, gO, by intro v e; cases e⟩
    · exact A1.obj i h t1
    · exact A2.obj i h t2
  keep := by
    rintro i h h' ⟨⟨gz, gT, p0, q0, gO⟩, t1, t2⟩ hk
    exact ⟨⟨hk z (by simp) _ gz, hk TI (by simp) _ gT, p0, q0, hk TO (by simp) _ gO⟩, A1.keep i h h' t1 (hk i1 (by simp)), A2.keep i h h' t2 (hk i2 (by simp))⟩
  item := by
    intro X hP hw hK hc i pins s σ H E I hf st hg
    subst hP; subst hw; subst hK
    obtain ⟨⟨gz, gT, p0, q0, gO⟩, t1, t2⟩ := st
    obtain ⟨l1, l2, x, y, b1, b2, g1, g2⟩ := hg
    obtain ⟨Y1, St1, d1, e1, r1, k1⟩ := A1.draw X rfl rfl rfl hc pins s σ H l1 i I b1 t1
    obtain ⟨Y2, St2, d2, e2, r2, k2⟩ := A2.draw X rfl rfl rfl hc pins s σ H l2 i I b2 t2
    have m1 : i < l1.length := (List.getElem?_eq_some_iff.mp g1).1
    have m2 : i < l2.length := (List.getElem?_eq_some_iff.mp g2).1
    have zlt : z < s.heap.objs.size := Heap.lt_size gz
    refine wpAny_pyNext_zipD2_item D d1 d2 gz gT gO e1 e2 m1 m2 fun u1 u2 hp tk y1 y2 gz' gO' e1' e2' gN sz hk => ⟨_, rfl, ?_⟩
    obtain ⟨x', a1, v1⟩ := r1 i u1 y1
    obtain ⟨y', a2, v2⟩ := r2 i u2 y2
    rw [g1] at a1
    rw [g2] at a2
    cases a1
    cases a2
    refine wpAny_letOwnedTupleGo_zip (s := { s with heap := hp, toks := tk }) gz' fun hq gq sb => ?_
    have keep : ∀ c o, c ∉ [z, TI, TO, i1, i2] → s.heap.get? c = some o → hq.get? c = some o := by
      intro c o nc ec
      simp only [List.mem_cons, List.not_mem_nil, or_false, not_or] at nc
      exact (sb.2 c nc.1).trans (hk c o nc.1 nc.2.2.1 nc.2.2.2.1 nc.2.2.2.2 ec)
    have gT2 : IsTupOf2 hq s.heap.objs.size u1 u2 := (sb.2 _ (Nat.ne_of_gt zlt)).trans gN
    have new : ObjOk X.prog X.w (upd H s.heap.objs.size (.tup [x, y])) hq s.heap.objs.size (.tup [x, y]) :=
      ⟨by show 2 ≤ sizeLine; decide, [u1, u2], .cons v1 (.cons v2 .nil), ⟨_, gT2, rfl, _, rfl⟩⟩
    have I1 : Inv X pins σ (upd H s.heap.objs.size (.tup [x, y])) { s with heap := hq, toks := tk } := Inv.turnedNew I keep hf (Nat.le_refl _) new
    refine ⟨.ref s.heap.objs.size, _, I1, rfl, ⟨_, x, y, rfl, I.hok.fresh (Nat.le_refl _), rfl, fun l hl => ?_, fun l hl => ?_⟩, ⟨⟨gq, ?_, u1, u2, ?_⟩, ?_, ?_⟩, ?_⟩
    · rw [A1.inj X rfl pins s σ H l l1 I hl b1]; exact g1
    · rw [A2.inj X rfl pins s σ H l l2 I hl b2]; exact g2
    · exact (sb.2 TI D.TIz).trans (hk TI _ D.TIz D.TITO D.TIi1 D.TIi2 gT)
    · exact (sb.2 TO D.TOz).trans gO'
    · exact A1.keep _ hp hq (k1 _ _ e1') fun o e => (sb.2 i1 (Ne.symm D.zi1)).trans e
    · exact A2.keep _ hp hq (k2 _ _ e2') fun o e => (sb.2 i2 (Ne.symm D.zi2)).trans e
    · intro c hcm
      have clt : c < s.heap.objs.size := by
        simp only [List.mem_cons, List.not_mem_nil, or_false] at hcm
        rcases hcm with rfl | rfl | rfl | rfl | rfl
        · exact zlt
        · exact Heap.lt_size gT
        · exact Heap.lt_size gO
        · obtain ⟨o, eo, _⟩ := A1.obj i s.heap t1
          exact Heap.lt_size eo
        · obtain ⟨o, eo, _⟩ := A2.obj i s.heap t2
          exact Heap.lt_size eo
      rw [upd_ne (Nat.ne_of_lt clt)]
      exact (hf c hcm).1
  done := by
    intro X hP hw hK hc i pins s σ H E I hf st hg
    subst hP; subst hw; subst hK
    obtain ⟨⟨gz, gT, p0, q0, gO⟩, t1, t2⟩ := st
    obtain ⟨l1, l2, b1, b2, hend⟩ := hg
    obtain ⟨Y1, St1, d1, e1, r1, k1⟩ := A1.draw X rfl rfl rfl hc pins s σ H l1 i I b1 t1
    obtain ⟨Y2, St2, d2, e2, r2, k2⟩ := A2.draw X rfl rfl rfl hc pins s σ H l2 i I b2 t2
    refine wpAny_pyNext_zipD2_end D d1 d2 gz gT gO e1 e2 (by omega) (by omega) (by omega) fun hp tk hk => ⟨rfl, Inv.turnedL I (fun c o nc ec => ?_) hf⟩
    simp only [List.mem_cons, List.not_mem_nil, or_false, not_or] at nc
    exact hk c o nc.1 nc.2.2.1 nc.2.2.2.1 nc.2.2.2.2 ec
  self := fun A i s Q E st h => wpAny_pyIter_zip st.1.1 h
end
section
variable {P : Program} {w : World} {K : PySem.W.Frag}
theorem vals_back {xs : List V} {us : List Value} {j : Nat} {u : Value} (r : Vals xs us) (h : us[j]? = some u) : ∃ x, xs[j]? = some x ∧ RelV x u := by
  have lt : j < xs.length := by rw [r.length]; exact (List.getElem?_eq_some_iff.mp h).1
  obtain ⟨u', h1, h2⟩ := r.get (List.getElem?_eq_getElem lt)
  rw [h] at h1
  cases h1
  exact ⟨_, List.getElem?_eq_getElem lt, h2⟩
theorem zsrc_l {it a : Addr} (ne : a ≠ it) : ZSrc P w K it [it, a] (fun H xs => SqL K H a xs) (fun i h => h.IsListIter it a i) where
  obj := fun i h ⟨o, e, _, d⟩ => ⟨o, e, by intro v q; rw [d] at q; cases q⟩
  keep := fun i h h' t k => t.at k
  inj := fun X hK pins s σ H xs ys I h1 h2 => by subst hK; exact I.list_inj h1 h2
  draw := fun X hP hw hK hc pins s σ H xs i I h t => by
    subst hP; subst hw; subst hK
    obtain ⟨its, rv, p, _⟩ := I.list h
    have D := Draws.list (prog := X.prog) (w := X.w) (show X.A.in1.handled = none from I.ok.hd hc) it a ne its.toArray
    rw [show its.toArray.size = xs.length by rw [rv.length]; rfl] at D
    exact ⟨_, _, D, ⟨t, p.isList⟩, fun j u hu => vals_back rv (by simpa using hu), fun j h q => q.1⟩
theorem zsrc_t {it a : Addr} (ne : a ≠ it) : ZSrc P w K it [it, a] (fun H xs => SqT K H a xs) (fun i h => h.IsTupleIter it a i) where
  obj := fun i h ⟨o, e, _, d⟩ => ⟨o, e, by intro v q; rw [d] at q; cases q⟩
  keep := fun i h h' t k => t.at k
  inj := fun X hK pins s σ H xs ys I h1 h2 => by subst hK; exact I.tuple_inj h1 h2
  draw := fun X hP hw hK hc pins s σ H xs i I h t => by
    subst hP; subst hw; subst hK
    obtain ⟨its, rv, p, _⟩ := I.tuple h
    have D := Draws.tuple (prog := X.prog) (w := X.w) (show X.A.in1.handled = none from I.ok.hd hc) it a ne its.toArray
    rw [show its.toArray.size = xs.length by rw [rv.length]; rfl] at D
    exact ⟨_, _, D, ⟨t, p⟩, fun j u hu => vals_back rv (by simpa using hu), fun j h q => q.1⟩
def signsV (x : Str) : List V := x.cps.toList.map fun c => V.str ⟨#[c]⟩
theorem zsrc_s {it : Addr} {x : Str} {tk : Tok} : ZSrc P w K it [it] (fun _ xs => xs = signsV x) (fun i h => h.IsStrIter it (strIterType x) x tk i) where
  obj := fun i h ⟨o, e, _, d⟩ => ⟨o, e, by intro v q; rw [d] at q; cases q⟩
  keep := fun i h h' ⟨o, e, r⟩ k => ⟨o, k o e, r⟩
  inj := fun X hK pins s σ H xs ys I h1 h2 => by rw [h1, h2]
  draw := fun X hP hw hK hc pins s σ H xs i I h t => by
    subst hP; subst hw; subst h
    have D := Draws.text (prog := X.prog) (w := X.w) (show X.A.in1.handled = none from I.ok.hd hc) it x tk
    rw [show x.cps.size = (signsV x).length by simp [signsV]] at D
    refine ⟨_, _, D, t, fun j u ⟨c, k, h1, h2⟩ => ⟨.str ⟨#[c]⟩, ?_, ?_⟩, fun j h q => q⟩
    · unfold signsV
      rw [List.getElem?_map, Array.getElem?_toList, h1]; rfl
    · rw [h2]; exact ⟨k, rfl⟩
def ZArg (K : PySem.W.Frag) (H : Hp) (v : V) (S : Hp → List V → Prop) : Prop :=
  (∃ a xs, v = .ref a ∧ SqL K H a xs ∧ S = fun H xs => SqL K H a xs) ∨ (∃ a xs, v = .ref a ∧ SqT K H a xs ∧ S = fun H xs => SqT K H a xs) ∨ ∃ x, v = .str x ∧ S = fun _ xs => xs = signsV x
theorem zarg_begins {X : Cx} {pins : List (Addr × Obj)} {σ : L2.St} {H : Hp} {s : Shared} {v : V} {u : Value} {S : Hp → List V → Prop} (I : Inv X pins σ H s) (r : RelV v u) (h : ZArg X.K H v S) :
    ∃ (o : Obj) (Hb : Heap → Prop) (fp : List Addr), Begins u o Hb ∧ Hb s.heap ∧ (∀ b ∈ fp, b < s.heap.objs.size) ∧
      ∀ it, s.heap.objs.size ≤ it → ∃ tn : Nat → Heap → Prop, ZSrc X.prog X.w X.K it (it :: fp) S tn ∧ ∀ h', h'.get? it = some o → tn 0 h' := by
  rcases h with ⟨a, xs, rfl, hq, rfl⟩ | ⟨a, xs, rfl, hq, rfl⟩ | ⟨x, rfl, rfl⟩
  · cases r
    obtain ⟨its, rv, p, _⟩ := I.list hq
    have lt : a < s.heap.objs.size := p.lt
    exact ⟨_, _, [a], begins_list a its.toArray, p.isList, by simpa using lt, fun it hit => ⟨_, zsrc_l (Nat.ne_of_lt (Nat.lt_of_lt_of_le lt hit)), fun h' e => ⟨_, e, rfl, rfl⟩⟩⟩
  · cases r
    obtain ⟨its, rv, p, _⟩ := I.tuple hq
    have lt : a < s.heap.objs.size := by obtain ⟨o, e, _⟩ := id p; exact Heap.lt_size e
    exact ⟨_, _, [a], begins_tuple a its.toArray, p, by simpa using lt, fun it hit => ⟨_, zsrc_t (Nat.ne_of_lt (Nat.lt_of_lt_of_le lt hit)), fun h' e => ⟨_, e, rfl, rfl⟩⟩⟩
  · obtain ⟨tk, rfl⟩ := r
    exact ⟨_, _, [], begins_text x tk, trivial, by simp, fun it hit => ⟨_, zsrc_s, fun h' e => ⟨_, e, rfl, rfl⟩⟩⟩
end
def iZipG (K : PySem.W.Frag) (ta : TA) : TI := fun σ H R => ta σ H fun vs H1 => ∃ v1 v2 S1 S2, vs = [v1, v2] ∧ ZArg K H1 v1 S1 ∧ ZArg K H1 v2 S2 ∧ R (ItzG S1 S2) H1
theorem pi_zipG {X : Cx} {e e2 : Expr} {ta : TA} {p pos tpos : Pos} {elts : List Expr} {kk : Nat} (hg : Gl X "zip") (hm : X.mg "zip" = none) (ha : PA X [e, e2] ta)
    (hs : starEach [e, e2] X.env = (false, eval e X.env) :: starEach [e2] X.env := by rfl) (hpl : (backTo pos (starEach [e2] X.env)).any (·.1) = false := by rfl) :
    PI X (.Tuple elts kk tpos) (.Call (.Name "zip" p) [e, e2] [] pos) (iZipG X.K ta) := ⟨fun pins s σ H R I h => by
  refine Call_ (ld_blt I hg hm PyProof.Rows.boot_zip (PyProof.Rows.callWith_type1 (thn (ha.run pos pins s σ H _ I h) fun us s1 q => ?_) hs hpl))
  obtain ⟨vs, H1, I1, r1, v1, v2, S1, S2, ex, z1, z2, q⟩ := q
  subst ex
  cases r1 with
  | cons ra rr =>
    cases rr with
    | cons rb rr =>
      cases rr
      obtain ⟨o1, Hb1, fp1, B1, b1, lt1, k1⟩ := zarg_begins I1 ra z1
      obtain ⟨o2, Hb2, fp2, B2, b2, lt2, k2⟩ := zarg_begins I1 rb z2
      obtain ⟨tn1, A1, t1⟩ := k1 s1.heap.objs.size (Nat.le_refl _)
      obtain ⟨tn2, A2, t2⟩ := k2 (s1.heap.objs.size + 1) (Nat.le_add_right _ _)
      refine zip_begins2 B1 B2 b1 b2 fun h' gz gT gO g1 g2 sz hk => wpAny_pyIter_zip gz ?_
      have I2 : Inv X pins σ H1 { s1 with heap := h' } := I1.kept (t' := s1.toks) hk
      have new : ∀ c ∈ [s1.heap.objs.size + 4, s1.heap.objs.size + 2, s1.heap.objs.size + 3, s1.heap.objs.size, s1.heap.objs.size + 1], FpOk X pins H1 c := by
        intro c hc
        have le : s1.heap.objs.size ≤ c := by
          simp only [List.mem_cons, List.not_mem_nil, or_false] at hc
          rcases hc with rfl | rfl | rfl | rfl | rfl <;> first | exact Nat.le_refl _ | exact Nat.le_add_right _ _
        exact I1.fpOk le (I1.hok.fresh le)
      exact ⟨_, _, _, _, H1, rfl, I2, turn_zipG (zip_sep2 lt1 lt2) A1 A2, ⟨⟨gz, gT, _, _, gO⟩, t1 h' g1, t2 h' g2⟩, new, q⟩⟩
end Tm
set_option Elab.async false
set_option linter.all false
set_option maxRecDepth 100000
set_option maxHeartbeats 2000000
namespace Tm
open PySem L2
open Evl (Ex ex_rd ex_l ex_t)
structure Walks (K : PySem.W.Frag) (Hk : Hp) (J : It) (items : List MV) : Prop where
  go : ∀ i H, Ex Hk H → i < items.length → J.go i H
  stop : ∀ H, Ex Hk H → J.stop items.length H
  yld : ∀ i H x H', Ex Hk H → i < items.length → J.yld i H x H' → ∃ y, items[i]? = some y ∧ ((H' = H ∧ RV K Hk y x) ∨ ∃ p vs ys, H p = none ∧ H' = upd H p (.tup vs) ∧ x = .ref p ∧ y = .tup ys ∧ RVs K Hk ys vs)
abbrev MI := Env → Res (List MV × Env)
def okI (c : Ct) (F Hk : Hp) (bp : List (Nat × Addr)) (σ : St) (R : It → Hp → Prop) : Res (List MV × Env) → Prop
  | .ok (xs, ρ') => ∀ Hk' H' J, Ex Hk Hk' → RS c.K F Hk' H' bp σ ρ' → Walks c.K Hk' J xs → R J H'
  | .exc e ρ' => Wish c F Hk bp σ e ρ'
  | .stuck => False
theorem okI.mono {c : Ct} {F Hk Hk' : Hp} {bp : List (Nat × Addr)} {σ : St} {Q : It → Hp → Prop} {r : Res (List MV × Env)} (x : Ex Hk Hk') (h : okI c F Hk bp σ Q r) : okI c F Hk' bp σ Q r := by
  cases r with
  | ok a => exact fun Hk2 H2 v x2 => h Hk2 H2 v (x.trans x2)
  | exc e ρ => exact Wish.mono x h
  | stuck => exact h
theorem postI {c : Ct} {F : Hp} {bp : List (Nat × Addr)} {σ : St} {R : It → Hp → Prop} : Post c F bp σ fun Hk r => okI c F Hk bp σ R r := ⟨fun _ _ _ h => h, fun _ h => h, fun _ _ _ x h => okI.mono x h⟩
def rdI (c : Ct) (m : MI) : TI := fun σ H R => ∃ F Hk bp ρ, At c F Hk H bp σ ρ ∧ okI c F Hk bp σ R (m ρ)
theorem PIw {X : Cx} {tg e : Expr} {t t' : TI} (h : PI X tg e t) (w : ∀ σ H R, t' σ H R → t σ H R) : PI X tg e t' := ⟨fun pins s σ H R I q => h.run pins s σ H R I (w σ H R q)⟩
theorem walks_l {K : PySem.W.Frag} {Hk : Hp} {a : Addr} {xs : List MV} {vs : List V} (h : SqL K Hk a vs) (r : RVs K Hk xs vs) : Walks K Hk (Itl K a) xs := by
  refine ⟨fun i H e hi => ?_, fun H e => ⟨vs, ex_l e h, by rw [r.length]; exact Nat.le_refl _⟩, fun i H x H' e hi y => ?_⟩
  · obtain ⟨v, hv, _⟩ := r.get (i := i) (x := xs[i]) (by simp [hi])
    exact ⟨vs, v, ex_l e h, hv⟩
  · obtain ⟨v, hv, rv⟩ := r.get (i := i) (x := xs[i]) (by simp [hi])
    obtain ⟨e1, y⟩ := y
    have := y vs (ex_l e h)
    rw [hv] at this
    cases this
    exact ⟨xs[i], by simp [hi], .inl ⟨e1, rv⟩⟩
theorem walks_t {K : PySem.W.Frag} {Hk : Hp} {a : Addr} {xs : List MV} {vs : List V} (h : SqT K Hk a vs) (r : RVs K Hk xs vs) : Walks K Hk (Itt K a) xs := by
  refine ⟨fun i H e hi => ?_, fun H e => ⟨vs, ex_t e h, by rw [r.length]; exact Nat.le_refl _⟩, fun i H x H' e hi y => ?_⟩
  · obtain ⟨v, hv, _⟩ := r.get (i := i) (x := xs[i]) (by simp [hi])
    exact ⟨vs, v, ex_t e h, hv⟩
  · obtain ⟨v, hv, rv⟩ := r.get (i := i) (x := xs[i]) (by simp [hi])
    obtain ⟨e1, y⟩ := y
    have := y vs (ex_t e h)
    rw [hv] at this
    cases this
    exact ⟨xs[i], by simp [hi], .inl ⟨e1, rv⟩⟩
def rngM (lo c : Int) (n : Nat) : List MV := (List.range n).map fun i => .int (lo + (i : Nat) * c)
theorem rngM_get {lo c : Int} {n i : Nat} (h : i < n) : (rngM lo c n)[i]? = some (.int (lo + (i : Nat) * c)) := by
  unfold rngM
  rw [List.getElem?_map, List.getElem?_range h]; rfl
theorem rngM_len {lo c : Int} {n : Nat} : (rngM lo c n).length = n := by simp [rngM]
theorem walks_r {K : PySem.W.Frag} {Hk : Hp} {lo : Int} {n : Nat} : Walks K Hk (Itr lo n) (rngM lo 1 n) := by
  refine ⟨fun i H e hi => by rw [rngM_len] at hi; exact hi, fun H e => by rw [rngM_len]; exact Nat.le_refl n, fun i H x H' e hi y => ?_⟩
  rw [rngM_len] at hi
  obtain ⟨e1, e2⟩ := y
  exact ⟨_, rngM_get hi, .inl ⟨e1, by rw [e2, Int.mul_one]; exact RV.int.mpr rfl⟩⟩
theorem walks_rc {K : PySem.W.Frag} {Hk : Hp} {lo c : Int} {n : Nat} : Walks K Hk (Itc lo c n) (rngM lo c n) := by
  refine ⟨fun i H e hi => by rw [rngM_len] at hi; exact hi, fun H e => by rw [rngM_len]; exact Nat.le_refl n, fun i H x H' e hi y => ?_⟩
  rw [rngM_len] at hi
  obtain ⟨e1, e2⟩ := y
  exact ⟨_, rngM_get hi, .inl ⟨e1, by rw [e2]; exact RV.int.mpr rfl⟩⟩
def signsM (z : Str) : List MV := z.cps.toList.map fun c => .str ⟨#[c]⟩
theorem walks_s {K : PySem.W.Frag} {Hk : Hp} {z : Str} : Walks K Hk (Its z) (signsM z) := by
  have l : (signsM z).length = z.cps.size := by simp [signsM]
  refine ⟨fun i H e hi => by rw [l] at hi; exact hi, fun H e => by rw [l]; exact Nat.le_refl _, fun i H x H' e hi y => ?_⟩
  obtain ⟨e1, ch, e2, e3⟩ := y
  refine ⟨.str ⟨#[ch]⟩, ?_, .inl ⟨e1, by rw [e3]; exact RV.str.mpr rfl⟩⟩
  unfold signsM
  rw [List.getElem?_map, Array.getElem?_toList, e2]; rfl
def zipM (xs ys : List MV) : List MV := List.zipWith (fun x y => .tup [x, y]) xs ys
theorem zipM_get {xs ys : List MV} {i : Nat} {x y : MV} (h1 : xs[i]? = some x) (h2 : ys[i]? = some y) : (zipM xs ys)[i]? = some (.tup [x, y]) := by
  unfold zipM
  rw [List.getElem?_zipWith, h1, h2]
theorem zipM_len {xs ys : List MV} : (zipM xs ys).length = min xs.length ys.length := by simp [zipM]
theorem rvs2 {K : PySem.W.Frag} {H : Hp} {x y : MV} {v w : V} (h : RV K H x v) (g : RV K H y w) : RVs K H [x, y] [v, w] := RVs.cons.mpr ⟨v, _, rfl, h, RVs.cons.mpr ⟨w, _, rfl, g, RVs.nil.mpr rfl⟩⟩
def ZVal (K : PySem.W.Frag) (Hk : Hp) (S : Hp → List V → Prop) (xs : List MV) : Prop := ∃ vs, (∀ H, Ex Hk H → S H vs) ∧ RVs K Hk xs vs
theorem walks_zg {K : PySem.W.Frag} {Hk : Hp} {S1 S2 : Hp → List V → Prop} {xs ys : List MV} (h1 : ZVal K Hk S1 xs) (h2 : ZVal K Hk S2 ys) : Walks K Hk (ItzG S1 S2) (zipM xs ys) := by
  obtain ⟨vs, g1, r1⟩ := h1
  obtain ⟨ws, g2, r2⟩ := h2
  refine ⟨fun i H e hi => ?_, fun H e => ⟨vs, ws, g1 H e, g2 H e, ?_⟩, fun i H x H' e hi y => ?_⟩
  · rw [zipM_len] at hi
    obtain ⟨v, hv, _⟩ := r1.get (i := i) (x := xs[i]) (by first | (simp; done) | (simp; omega))
    obtain ⟨u, hu, _⟩ := r2.get (i := i) (x := ys[i]) (by first | (simp; done) | (simp; omega))
    exact ⟨vs, ws, v, u, g1 H e, g2 H e, hv, hu⟩
  · rw [zipM_len, r1.length, r2.length]; omega
  · rw [zipM_len] at hi
    obtain ⟨v, hv, rv⟩ := r1.get (i := i) (x := xs[i]) (by first | (simp; done) | (simp; omega))
    obtain ⟨u, hu, ru⟩ := r2.get (i := i) (x := ys[i]) (by first | (simp; done) | (simp; omega))
    obtain ⟨p, x1, y1, e1, e2, e3, e4, e5⟩ := y
    have a1 := e4 vs (g1 H e)
    have a2 := e5 ws (g2 H e)
    rw [hv] at a1
    rw [hu] at a2
    cases a1
    cases a2
    exact ⟨_, zipM_get (x := xs[i]) (y := ys[i]) (by first | (simp; done) | (simp; omega)) (by first | (simp; done) | (simp; omega)), .inr ⟨p, _, _, e2, e3, e1, rfl, rvs2 rv ru⟩⟩
def enumFrom (k : Nat) : List MV → List MV
  | [] => []
  | x :: xs => .tup [.int (k : Nat), x] :: enumFrom (k + 1) xs
theorem enum_get : ∀ {xs : List MV} {k i : Nat} {x : MV}, xs[i]? = some x → (enumFrom k xs)[i]? = some (.tup [.int ((k + i : Nat) : Int), x])
  | [], _, _, _, h => by simp at h
  | y :: xs, k, 0, x, h => by simp at h; subst h; rfl
  | y :: xs, k, i + 1, x, h => by
    have := enum_get (xs := xs) (k := k + 1) (i := i) (x := x) (by simpa using h)
    rw [show k + (i + 1) = k + 1 + i by omega]
    exact this
theorem enum_len : ∀ {xs : List MV} {k : Nat}, (enumFrom k xs).length = xs.length
  | [], _ => rfl
  | x :: xs, k => by simp [enumFrom, enum_len]
theorem walks_e {K : PySem.W.Frag} {Hk : Hp} {a : Addr} {xs : List MV} {vs : List V} (h : SqL K Hk a vs) (r : RVs K Hk xs vs) : Walks K Hk (Ite K a) (enumFrom 0 xs) := by
  refine ⟨fun i H e hi => ?_, fun H e => ⟨vs, ex_l e h, by rw [enum_len, r.length]; exact Nat.le_refl _⟩, fun i H x H' e hi y => ?_⟩
  · rw [enum_len] at hi
    obtain ⟨v, hv, _⟩ := r.get (i := i) (x := xs[i]) (by simp [hi])
    exact ⟨vs, v, ex_l e h, hv⟩
  · rw [enum_len] at hi
    obtain ⟨v, hv, rv⟩ := r.get (i := i) (x := xs[i]) (by simp [hi])
    obtain ⟨T, x1, e1, e2, e3, e4⟩ := y
    have q1 := e4 vs (ex_l e h)
    rw [hv] at q1
    cases q1
    refine ⟨_, enum_get (x := xs[i]) (by simp [hi]), .inr ⟨T, _, _, e2, e3, e1, rfl, ?_⟩⟩
    rw [Nat.zero_add]
    exact rvs2 (RV.int.mpr rfl) rv
section
variable {X : Cx} {c : Ct} {tg : Expr}
def itemsOf : MV → Option (List MV)
  | .lst xs => some xs
  | .tup xs => some xs
  | .scr ns => some (ns.map .int)
  | .str z => some (signsM z)
  | _ => none
def mItV (a : ME) : MI := fun ρ => (a ρ).bind fun x ρ1 => match itemsOf x with | some xs => .ok (xs, ρ1) | none => .stuck
theorem mi_val {e : Expr} {a : ME} (h : PE X e (rdE c a)) (hK : c.K = X.K := by rfl) : PI X tg e (rdI c (mItV a)) := by
  refine ⟨fun pins s σ H R I q => ?_⟩
  obtain ⟨F, Hk, bp, ρ, S, q⟩ := q
  cases ea : a ρ with
  | stuck => unfold mItV at q; rw [ea] at q; exact q.elim
  | exc x ρ1 =>
    have z : rdE c a σ H fun _ _ => False := ⟨F, Hk, bp, ρ, S, by
      unfold mItV at q; rw [ea] at q ⊢; exact q⟩
    exact (pi_str h).run pins s σ H R I (rdw z fun _ _ f => f.elim)
  | ok p =>
    obtain ⟨x, ρ1⟩ := p
    have q' : okI c F Hk bp σ R (match itemsOf x with | some xs => .ok (xs, ρ1) | none => .stuck) := by unfold mItV at q; rw [ea] at q; exact q
    have ok : ∀ Q : VK, (∀ Hk' H' v, Ex Hk Hk' → RS c.K F Hk' H' bp σ ρ1 → RV c.K Hk' x v → Q v H') → rdE c a σ H Q := fun Q k => ⟨F, Hk, bp, ρ, S, by rw [ea]; exact k⟩
    cases x with
    | lst xs =>
      refine (pi_list h).run pins s σ H R I (ok _ fun Hk1 H1 v x1 S1 r1 => ?_)
      obtain ⟨p, vs, rfl, h1, s1⟩ := RV.lst.mp r1
      refine ⟨p, rfl, ⟨vs, SqL.of (S1.ex _ _ h1)⟩, ?_⟩
      rw [← hK]
      exact q' Hk1 H1 _ x1 S1 (walks_l (SqL.of h1) s1)
    | tup xs =>
      refine (pi_tup h).run pins s σ H R I (ok _ fun Hk1 H1 v x1 S1 r1 => ?_)
      obtain ⟨p, vs, rfl, h1, s1⟩ := RV.tup.mp r1
      refine ⟨p, rfl, ⟨vs, by rw [← hK]; exact ex_t S1.ex h1⟩, ?_⟩
      rw [← hK]
      exact q' Hk1 H1 _ x1 S1 (walks_t h1 s1)
    | scr ns =>
      refine (pi_list h).run pins s σ H R I (ok _ fun Hk1 H1 v x1 S1 r1 => ?_)
      obtain ⟨p, rfl, h1⟩ := RV.scr.mp r1
      refine ⟨p, rfl, ⟨_, by rw [← hK]; exact ex_l S1.ex h1⟩, ?_⟩
      rw [← hK]
      exact q' Hk1 H1 _ x1 S1 (walks_l h1 (RVs.ints.mpr rfl))
    | str z =>
      refine (pi_str h).run pins s σ H R I (ok _ fun Hk1 H1 v x1 S1 r1 => ?_)
      exact ⟨z, RV.str.mp r1, q' Hk1 H1 _ x1 S1 walks_s⟩
    | _ => exact q'.elim
def inR (i : Int) : Bool := decide (-(2 ^ 62) ≤ i) && decide (i < 2 ^ 62)
theorem inR_iff {i : Int} : inR i = true ↔ -(2 ^ 62) ≤ i ∧ i < 2 ^ 62 := by unfold inR; simp
def mR1 (a : MA) : MI := fun ρ => (a ρ).bind fun xs ρ1 => match xs with
  | [.int j] => if inR j then .ok (rngM 0 1 j.toNat, ρ1) else .stuck
  | _ => .stuck
def rgOk (i j c : Int) : Bool := decide (c ≠ 0) && decide (c.natAbs < 1073741824) && Builtin.Range.small i j c && decide (Builtin.Range.rangeSize i j c = ((Builtin.Range.rangeSize i j c).toNat : Int))
def mR3 (a : MA) : MI := fun ρ => (a ρ).bind fun xs ρ1 => match xs with
  | [.int i, .int j, .int k] => if rgOk i j k then .ok (rngM i k (Builtin.Range.rangeSize i j k).toNat, ρ1) else .stuck
  | _ => .stuck
theorem rvs_int1 {K : PySem.W.Frag} {H : Hp} {i : Int} {vs : List V} (r : RVs K H [.int i] vs) : vs = [.int i] := (RVs.ints (ns := [i])).mp r
theorem rvs_int2 {K : PySem.W.Frag} {H : Hp} {i j : Int} {vs : List V} (r : RVs K H [.int i, .int j] vs) : vs = [.int i, .int j] := (RVs.ints (ns := [i, j])).mp r
theorem rvs_int3 {K : PySem.W.Frag} {H : Hp} {i j k : Int} {vs : List V} (r : RVs K H [.int i, .int j, .int k] vs) : vs = [.int i, .int j, .int k] := (RVs.ints (ns := [i, j, k])).mp r
theorem mi_r1 {a : Expr} {m : MA} {p pos : Pos} (hm : X.mg "range" = none) (ha : PA X [a] (rdA c m)) (hg : Gl X "range" := by rfl) (hs : starEach [a] X.env = [(false, eval a X.env)] := by rfl) : PI X tg (.Call (.Name "range" p) [a] [] pos) (rdI c (mR1 m)) :=
  PIw (pi_range1 hg hm ha hs) fun σ H R ⟨F, Hk, bp, ρ, S, h⟩ => rdAw (bA postI S h) fun vs H1 ⟨Hk1, xs, ρ1, x1, S1, r1, h1⟩ => by
    split at h1
    · rename_i j
      split at h1
      · rename_i hj
        have := inR_iff.mp hj
        exact ⟨j, rvs_int1 r1, this.1, this.2, h1 _ _ _ (Ex.refl _) S1.1 walks_r⟩
      · exact h1.elim
    · exact h1.elim
theorem mi_r3 {a b d : Expr} {m : MA} {p pos : Pos} (hm : X.mg "range" = none) (ha : PA X [a, b, d] (rdA c m)) (hg : Gl X "range" := by rfl)
    (hs : starEach [a, b, d] X.env = (false, eval a X.env) :: starEach [b, d] X.env := by rfl) (hpl : (backTo pos (starEach [b, d] X.env)).any (·.1) = false := by rfl) : PI X tg (.Call (.Name "range" p) [a, b, d] [] pos) (rdI c (mR3 m)) :=
  PIw (pi_range3 hg hm ha hs hpl) fun σ H R ⟨F, Hk, bp, ρ, S, h⟩ => rdAw (bA postI S h) fun vs H1 ⟨Hk1, xs, ρ1, x1, S1, r1, h1⟩ => by
    split at h1
    · rename_i i j k
      split at h1
      · rename_i hj
        unfold rgOk at hj
        simp only [Bool.and_eq_true, decide_eq_true_eq] at hj
        exact ⟨i, j, k, _, rvs_int3 r1, ⟨hj.1.1.1, hj.1.1.2, hj.1.2, hj.2⟩, h1 _ _ _ (Ex.refl _) S1.1 walks_rc⟩
      · exact h1.elim
    · exact h1.elim
def zitM : MV → Option (List MV)
  | .lst xs => some xs
  | .tup xs => some xs
  | .str z => some (signsM z)
  | _ => none
theorem rv_signs {K : PySem.W.Frag} {Hk : Hp} (z : Str) : RVs K Hk (signsM z) (signsV z) := by
  unfold signsM signsV
  generalize z.cps.toList = l
  induction l with
  | nil => exact RVs.nil.mpr rfl
  | cons c l ih => exact RVs.cons.mpr ⟨_, _, rfl, RV.str.mpr rfl, ih⟩
theorem zit_arg {K : PySem.W.Frag} {Hk H : Hp} {x : MV} {v : V} {xs : List MV} (e : Ex Hk H) (r : RV K Hk x v) (h : zitM x = some xs) : ∃ S, ZArg K H v S ∧ ZVal K Hk S xs := by
  cases x with
  | lst ys =>
    cases h
    obtain ⟨p, vs, rfl, g, s⟩ := RV.lst.mp r
    exact ⟨_, .inl ⟨p, vs, rfl, SqL.of (e _ _ g), rfl⟩, vs, fun H' e' => ex_l e' (SqL.of g), s⟩
  | tup ys =>
    cases h
    obtain ⟨p, vs, rfl, g, s⟩ := RV.tup.mp r
    exact ⟨_, .inr (.inl ⟨p, vs, rfl, ex_t e g, rfl⟩), vs, fun H' e' => ex_t e' g, s⟩
  | str z =>
    cases h
    rw [RV.str.mp r]
    exact ⟨_, .inr (.inr ⟨z, rfl, rfl⟩), signsV z, fun _ _ => rfl, rv_signs z⟩
  | _ => cases h
def mZip (a : MA) : MI := fun ρ => (a ρ).bind fun xs ρ1 => match xs with
  | [x, y] => (match zitM x, zitM y with | some xs, some ys => .ok (zipM xs ys, ρ1) | _, _ => .stuck)
  | _ => .stuck
theorem mi_zip {e e2 : Expr} {m : MA} {p pos tpos : Pos} {elts : List Expr} {kk : Nat} (hm : X.mg "zip" = none) (ha : PA X [e, e2] (rdA c m)) (hg : Gl X "zip" := by rfl) (hK : c.K = X.K := by rfl)
    (hs : starEach [e, e2] X.env = (false, eval e X.env) :: starEach [e2] X.env := by rfl) (hpl : (backTo pos (starEach [e2] X.env)).any (·.1) = false := by rfl) : PI X (.Tuple elts kk tpos) (.Call (.Name "zip" p) [e, e2] [] pos) (rdI c (mZip m)) :=
  PIw (pi_zipG hg hm ha hs hpl) fun σ H R ⟨F, Hk, bp, ρ, S, h⟩ => rdAw (bA postI S h) fun vs H1 ⟨Hk1, xs, ρ1, x1, S1, r1, h1⟩ => by
    split at h1
    · split at h1
      · rename_i z1 z2
        obtain ⟨v, r, rfl, q1, q2⟩ := RVs.cons.mp r1
        obtain ⟨w, r', rfl, q3, q4⟩ := RVs.cons.mp q2
        rw [RVs.nil.mp q4]
        obtain ⟨T1, y1, y2⟩ := zit_arg S1.1.ex q1 z1
        obtain ⟨T2, y3, y4⟩ := zit_arg S1.1.ex q3 z2
        refine ⟨v, w, T1, T2, rfl, hK ▸ y1, hK ▸ y3, ?_⟩
        exact h1 _ _ _ (Ex.refl _) S1.1 (walks_zg y2 y4)
      · exact h1.elim
    · exact h1.elim
def mEnum (a : MA) : MI := fun ρ => (a ρ).bind fun xs ρ1 => match xs with
  | [.lst xs] => .ok (enumFrom 0 xs, ρ1)
  | _ => .stuck
theorem mi_enum {e : Expr} {m : MA} {p pos tpos : Pos} {elts : List Expr} {kk : Nat} (hm : X.mg "enumerate" = none) (ha : PA X [e] (rdA c m)) (hg : Gl X "enumerate" := by rfl) (hK : c.K = X.K := by rfl)
    (hs : starEach [e] X.env = [(false, eval e X.env)] := by rfl) : PI X (.Tuple elts kk tpos) (.Call (.Name "enumerate" p) [e] [] pos) (rdI c (mEnum m)) :=
  PIw (pi_enum hg hm ha hs) fun σ H R ⟨F, Hk, bp, ρ, S, h⟩ => rdAw (bA postI S h) fun vs H1 ⟨Hk1, xs, ρ1, x1, S1, r1, h1⟩ => by
    split at h1
    · obtain ⟨v, r, rfl, q1, q2⟩ := RVs.cons.mp r1
      rw [RVs.nil.mp q2]
      obtain ⟨p1, vs1, rfl, g1, s1⟩ := RV.lst.mp q1
      refine ⟨p1, vs1, rfl, SqL.of (S1.1.ex _ _ g1), ?_⟩
      rw [← hK]
      exact h1 _ _ _ (Ex.refl _) S1.1 (walks_e (SqL.of g1) s1)
    · exact h1.elim
def mLoop (g : MG) (b : MS) : List MV → Env → Res (Fl × Env)
  | [], ρ => .ok (.nx, ρ)
  | x :: xs, ρ => match g x ρ with
    | none => .stuck
    | some ρ1 => (b ρ1).bind fun f ρ2 => match f with
      | .nx => mLoop g b xs ρ2
      | .ct => mLoop g b xs ρ2
      | .br => .ok (.nx, ρ2)
      | .rt v => .ok (.rt v, ρ2)
def mFor (i : MI) (g : MG) (b : MS) : MS := fun ρ => (i ρ).bind fun xs ρ1 => mLoop g b xs ρ1
theorem okS.loop {F Hk : Hp} {bp : List (Nat × Addr)} {D : Ends} {g : MG} {b : MS} {xs : List MV} {N : St → Hp → Prop} (hN : ∀ Hk' H' σ' ρ', Ex Hk Hk' → RS c.K F Hk' H' bp σ' ρ' → okS c F Hk' bp D (mLoop g b xs ρ') → N σ' H') {r : Res (Fl × Env)}
    (h : okS c F Hk bp D (r.bind fun f ρ2 => match f with | .nx => mLoop g b xs ρ2 | .ct => mLoop g b xs ρ2 | .br => .ok (.nx, ρ2) | .rt v => .ok (.rt v, ρ2))) : okS c F Hk bp { D with nx := N, ct := N, bk := D.nx } r := by
  cases r with
  | stuck => exact h
  | exc e ρ => exact h
  | ok q =>
    obtain ⟨f, ρ1⟩ := q
    cases f with
    | nx => exact fun Hk1 H1 σ1 x1 S1 => hN Hk1 H1 σ1 ρ1 x1 S1 (okS.mono x1 h)
    | ct => exact fun Hk1 H1 σ1 x1 S1 => hN Hk1 H1 σ1 ρ1 x1 S1 (okS.mono x1 h)
    | br => exact h
    | rt x => exact h
theorem rd_for {it : MI} {g : MG} {b : MS} {D : Ends} {σ : St} {H : Hp} (h : rdS c (mFor it g b) D σ H) : tFor (rdI c it) (rdG c g) (rdS c b) D σ H := by
  obtain ⟨F, Hk, bp, ρ, S, h⟩ := h
  refine ⟨F, Hk, bp, ρ, S, ?_⟩
  have h : okS c F Hk bp D ((it ρ).bind fun xs ρ1 => mLoop g b xs ρ1) := h
  cases e : it ρ with
  | stuck => rw [e] at h; exact h
  | exc x ρ' => rw [e] at h; exact fun Hk1 H1 cls d => h Hk1 H1 σ cls d
  | ok p =>
    obtain ⟨xs, ρ1⟩ := p
    rw [e] at h
    intro Hk1 H1 J x1 S1 wk
    have h : okS c F Hk1 bp D (mLoop g b xs ρ1) := okS.mono x1 h
    refine ⟨fun i m σ' H' => m = xs.length - i ∧ i ≤ xs.length ∧ ∃ Hk' ρ', Ex Hk1 Hk' ∧ At c F Hk' H' bp σ' ρ' ∧ okS c F Hk' bp D (mLoop g b (xs.drop i) ρ'), ⟨xs.length, by simp, Nat.zero_le _, Hk1, ρ1, Ex.refl _, ⟨S1, S.2⟩, h⟩, ?_⟩
    rintro i m σ' H' ⟨rfl, hi, Hk', ρ', x', S', h'⟩
    by_cases hlt : i < xs.length
    · refine .inr ⟨wk.go i H' (x'.trans S'.1.ex) hlt, fun σ2 H2 => ∃ Hk2 ρ2, Ex Hk1 Hk2 ∧ At c F Hk2 H2 bp σ2 ρ2 ∧ okS c F Hk2 bp D (mLoop g b (xs.drop (i + 1)) ρ2), fun σ2 H2 ⟨Hk2, ρ2, x2, S2, h2⟩ => ⟨xs.length - (i + 1), by omega, rfl, hlt, Hk2, ρ2, x2, S2, h2⟩, fun x H2 y => ?_⟩
      obtain ⟨z, ez, hz⟩ := wk.yld i H' x H2 (x'.trans S'.1.ex) hlt y
      have ed : xs.drop i = z :: xs.drop (i + 1) := by
        rw [List.drop_eq_getElem_cons hlt]
        rw [List.getElem?_eq_getElem hlt] at ez
        cases ez; rfl
      rw [ed] at h'
      have fin : ∀ Hk3, Ex Hk' Hk3 → At c F Hk3 H2 bp σ' ρ' → RV c.K Hk3 z x → rdG c g x σ' H2 fun σ2 H2 => rdS c b { D with nx := fun σ2 H2 => ∃ Hk2 ρ2, Ex Hk1 Hk2 ∧ At c F Hk2 H2 bp σ2 ρ2 ∧ okS c F Hk2 bp D (mLoop g b (xs.drop (i + 1)) ρ2), ct := fun σ2 H2 => ∃ Hk2 ρ2, Ex Hk1 Hk2 ∧ At c F Hk2 H2 bp σ2 ρ2 ∧ okS c F Hk2 bp D (mLoop g b (xs.drop (i + 1)) ρ2), bk := D.nx } σ2 H2 := fun Hk3 x3 S3 r3 => by
        refine ⟨F, Hk3, bp, ρ', z, S3, r3, ?_⟩
        have h' := okS.mono x3 h'
        unfold mLoop at h'
        cases eg : g z ρ' with
        | none => rw [eg] at h'; exact h'
        | some ρ3 =>
          rw [eg] at h'
          intro Hk4 H4 σ4 x4 S4
          refine ⟨F, Hk4, bp, ρ3, ⟨S4, S.2⟩, okS.loop (fun Hk5 H5 σ5 ρ5 x5 S5 h5 => ⟨Hk5, ρ5, x'.trans (x3.trans (x4.trans x5)), ⟨S5, S.2⟩, h5⟩) (okS.mono x4 h')⟩
      rcases hz with ⟨rfl, r⟩ | ⟨p, vs, ys, hp, rfl, rfl, rfl, r⟩
      · exact fin Hk' (Ex.refl _) S' (RV.mono x' _ _ r)
      · have xn := Ex.new (o := .tup vs) (S'.1.ex.back hp)
        exact fin _ xn ⟨S'.1.new hp, S.2⟩ (RV.tup.mpr ⟨p, vs, rfl, SqT.of upd_same, r.mono (x'.trans xn)⟩)
    · have e : i = xs.length := by omega
      subst e
      rw [List.drop_length] at h'
      exact .inl ⟨wk.stop H' (x'.trans S'.1.ex), h' _ _ _ (Ex.refl _) S'.1⟩
theorem ms_for {iter : Expr} {body : List Stmt} {it : MI} {g : MG} {b : MS} {pos : Pos} (hp : PassesOwn (model X.prog X.w) X.A X.env X.xe) (hc : X.calm = true) (hi : PI X tg iter (rdI c it)) (hg : PG X tg (rdG c g)) (hb : PSs X body (rdS c b))
    (hs : ∀ x, foldedSetIterable iter X.env x = pure x := by intro _; rfl) : PS X (.For tg iter body [] pos) (rdS c (mFor it g b)) := PSw (ps_for hp hc hi hg hb hs) fun _ _ _ h => rd_for h
end
end Tm
set_option Elab.async false
set_option linter.all false
set_option maxRecDepth 100000
set_option maxHeartbeats 2000000
namespace Tm
open PySem L2
open Evl (Ex ex_rd ex_l ex_t)
theorem okXN {P : Program} {w : World} {K : PySem.W.Frag} {mg : Str → Option Value} {base : Heap} {x qual : Str} {st : Stmt} {f : Addr} {fd : FuncData} {N ps : List Str} {k : Nat} {sp : Sp} (F : Fun K x qual st f fd) (S : FnScope N ps (defScope st)) (hl : ∀ vs H Q E, sp vs H Q E → vs.length = ps.length)
    (b : ∀ (cdv : Value) (A : Around) (outer : List PySem.Env) (s : Shared) (H : Hp) (vs : List V) (Q : VK) (E : XK), Room k (A.deeper (PyProof.Rows.envOfC qual (defScope st) s.heap.objs.size f cdv)) → sp vs H Q E →
      ∃ t, PSs (cxOf (L2N.CX P w) P w K mg base N qual (defScope st) f cdv A outer s H E) (defBody st) t ∧ t { nx := fun _ H' => Q .non H', rt := Q } (L2.start N vs) H) : FnOk P w K mg base (L2N.CX P w) (k + 1) f fd ps sp := by
  obtain ⟨_, _, _, _, _, _, cv, _, _, rfl, e, hc⟩ := F.ex
  exact fn_of e hc S hl fun A outer s H vs Q E hr h => b cv A outer s H vs Q E hr h
abbrev MF := List MV → Res (MV × Env)
def endOf (bs : List Nat) (ρ : Env) : Env := bs.map fun i => (ρ[i]?).join
def mFn (n : Nat) (bs : List Nat) (m : MS) : MF := fun xs => match m (xs.map some ++ List.replicate (n - xs.length) none) with
  | .ok (.rt v, ρ) => .ok (v, endOf bs ρ)
  | .ok (.nx, ρ) => .ok (.non, endOf bs ρ)
  | .exc e ρ => .exc e (endOf bs ρ)
  | _ => .stuck
def okF (K : PySem.W.Frag) (mg : Str → Option Value) (F Hk : Hp) (bσ : St) (Q : VK) (E : XK) : Res (MV × Env) → Prop
  | .ok (v, bs) => ∀ Hk' H' w, Ex Hk Hk' → RS K F Hk' H' [] (bσ ++ [some w]) (bs ++ [some v]) → Q w H'
  | .exc e bs => ∀ Hk' H' cls d, Ex Hk Hk' → RS K F Hk' H' [] bσ bs → ExR K mg Hk' e cls d → E cls d H'
  | .stuck => False
def spF (K : PySem.W.Frag) (mg : Str → Option Value) (np : Nat) (bs : List Nat) (f : MF) : Sp := fun vs H Q E => vs.length = np ∧ ∃ F Hk bp xs, RS K F Hk H bp (vs.map some) (xs.map some) ∧ bp.map (·.1) = bs ∧ okF K mg F Hk (bp.map fun q => some (.ref q.2)) Q E (f xs)
section
variable {K : PySem.W.Frag} {F Hk H : Hp} {bp : List (Nat × Addr)} {σ : St} {ρ : Env}
theorem RS.pick (S : RS K F Hk H bp (σ ++ [some v]) (ρ ++ [some x])) (is : List Nat) (nd : is.Nodup) (hl : ∀ i ∈ is, i < ρ.length) :
    RS K F Hk H [] ((is.map fun i => (σ[i]?).join) ++ [some v]) ((is.map fun i => (ρ[i]?).join) ++ [some x]) := by
  obtain ⟨ow, s⟩ := S.ow
  have hlen : σ.length = ρ.length := by have := S.len; simpa using this
  have old : ∀ {j i : Nat}, is[j]? = some i → i < ρ.length := fun h => hl _ (List.mem_of_getElem? h)
  refine ⟨by simp, S.ex, S.fr, S.frk, ⟨fun j => match is[j]? with | some i => ow i | none => if j = is.length then ow ρ.length else [], ?_⟩, fun q hq => nomatch hq⟩
  have own : ∀ j a, a ∈ (match is[j]? with | some i => ow i | none => if j = is.length then ow ρ.length else []) → (∃ i, is[j]? = some i ∧ a ∈ ow i) ∨ (j = is.length ∧ a ∈ ow ρ.length) := fun j a h => by
    cases e : is[j]? with
    | some i => rw [e] at h; exact .inl ⟨i, rfl, h⟩
    | none =>
      rw [e] at h
      by_cases e2 : j = is.length
      · rw [if_pos e2] at h; exact .inr ⟨e2, h⟩
      · rw [if_neg e2] at h; cases h
  refine ⟨fun j y h => ?_, fun j a h => ?_, fun j h => ?_, fun j k a hjk h1 h2 => ?_⟩
  · rcases app_get h with ⟨e1, e2⟩ | ⟨lt, e2⟩
    · cases e2
      rw [List.length_map] at e1
      subst e1
      obtain ⟨u, hu, ou⟩ := s.s ρ.length x (by simp)
      have ev : u = v := by rw [← hlen] at hu; simpa using hu.symm
      subst ev
      refine ⟨u, by simp, ?_⟩
      have : is[is.length]? = none := by simp
      rw [this, if_pos rfl]
      exact ou
    · rw [List.length_map] at lt
      rw [List.getElem?_map] at e2
      cases ei : is[j]? with
      | none => rw [ei] at e2; cases e2
      | some i =>
        rw [ei] at e2
        have e3 : ρ[i]? = some (some y) := by
          cases er : ρ[i]? with
          | none => rw [Option.map_some, er] at e2; cases e2
          | some o => rw [Option.map_some, er] at e2; cases o with
            | none => cases e2
            | some z => cases e2; rfl
        have li := old ei
        obtain ⟨w, w1, w2⟩ := s.s i y (by rw [List.getElem?_append_left li]; exact e3)
        rw [List.getElem?_append_left (by rw [hlen]; exact li)] at w1
        refine ⟨w, ?_, w2⟩
        rw [List.getElem?_append_left (by simpa using lt), List.getElem?_map, ei, Option.map_some, w1]; rfl
  · rcases own j a h with ⟨i, _, m⟩ | ⟨_, m⟩
    · exact s.f i a m
    · exact s.f _ a m
  · cases e : (match is[j]? with | some i => ow i | none => if j = is.length then ow ρ.length else []) with
    | nil => exact (h e).elim
    | cons a r =>
      rcases own j a (by rw [e]; simp) with ⟨i, ei, _⟩ | ⟨e2, _⟩
      · have := lt_get ei; simp; omega
      · simp; omega
  · rcases own j a h1 with ⟨i, ei, m⟩ | ⟨e1, m⟩ <;> rcases own k a h2 with ⟨i2, ei2, m2⟩ | ⟨e2, m2⟩
    · have ne : i ≠ i2 := fun z => by
        subst z
        obtain ⟨a1, a2⟩ := List.getElem?_eq_some_iff.mp ei
        obtain ⟨b1, b2⟩ := List.getElem?_eq_some_iff.mp ei2
        exact hjk ((List.getElem_inj nd).mp (a2.trans b2.symm))
      exact s.d i i2 a ne m m2
    · exact s.d i ρ.length a (Nat.ne_of_lt (old ei)) m m2
    · exact s.d i2 ρ.length a (Nat.ne_of_lt (old ei2)) m2 m
    · exact hjk (e1.trans e2.symm)
theorem RS.pad (S : RS K F Hk H bp σ ρ) (n : Nat) : RS K F Hk H bp (σ ++ List.replicate n none) (ρ ++ List.replicate n none) := by
  obtain ⟨ow, s⟩ := S.ow
  have g : ∀ {α : Type} {l : List (Option α)} {j : Nat} {y : α}, (l ++ List.replicate n none)[j]? = some (some y) → l[j]? = some (some y) := fun {α l j y} h => by
    by_cases e : j < l.length
    · rw [List.getElem?_append_left e] at h; exact h
    · rw [List.getElem?_append_right (Nat.le_of_not_lt e), List.getElem?_replicate] at h
      split at h <;> cases h
  have g2 : ∀ {α : Type} {l : List (Option α)} {j : Nat} {y : α}, l[j]? = some (some y) → (l ++ List.replicate n none)[j]? = some (some y) := fun {α l j y} h => by
    rw [List.getElem?_append_left (lt_get h)]; exact h
  refine ⟨by simp [S.len], S.ex, S.fr, S.frk, ⟨ow, fun j y h => ?_, s.f, fun j h => ?_, s.d⟩, fun q hq => g2 (S.bor q hq)⟩
  · obtain ⟨v, e, o⟩ := s.s j y (g h)
    exact ⟨v, g2 e, o⟩
  · have := s.w j h; simp; omega
theorem RS.args {xs : List MV} {vs : List V} (ex : Ex Hk H) (fr : Ex F H) (frk : ∀ a o, F a = some o → Hk a = none) (r : RVs K Hk xs vs) : RS K F Hk H [] (vs.map some) (xs.map some) := by
  refine ⟨by simp [r.length], ex, fr, frk, ⟨fun _ => [], fun j y h => ?_, fun j a h => (nomatch h), fun j h => (h rfl).elim, fun j k a _ h => nomatch h⟩, fun q hq => nomatch hq⟩
  rw [List.getElem?_map] at h
  cases e : xs[j]? with
  | none => rw [e] at h; cases h
  | some z =>
    rw [e] at h
    cases h
    obtain ⟨v, e1, rv⟩ := r.get e
    exact ⟨v, by rw [List.getElem?_map, e1]; rfl, rv.ov⟩
end
section
variable {X : Cx} {c : Ct}
def fz : MV → Option MV
  | .own xs => some (.lst xs)
  | .obj _ _ => none
  | .dow _ _ => none
  | .dot _ _ => none
  | x => some x
def mFz (m : ME) : ME := fun ρ => (m ρ).bind fun x ρ1 => match fz x with | some y => .ok (y, ρ1) | none => .stuck
theorem RS.last {K : PySem.W.Frag} {F Hk H : Hp} {bp : List (Nat × Addr)} {σ : St} {ρ : Env} {v : V} {x y : MV} (S : RS K F Hk H bp (σ ++ [some v]) (ρ ++ [some x])) (hb : ∀ q ∈ bp, q.1 < ρ.length) (e : fz x = some y) :
    ∃ Hk', Ex Hk Hk' ∧ RS K F Hk' H bp σ ρ ∧ RV K Hk' y v := by
  have hl : σ.length = ρ.length := by have := S.len; simpa using this
  have pl : x.per = true → y = x → ∃ Hk', Ex Hk Hk' ∧ RS K F Hk' H bp σ ρ ∧ RV K Hk' y v := fun px ey => by
    subst ey
    obtain ⟨w, ew, rw'⟩ := S.get (i := ρ.length) (x := y) (by simp) px
    rw [← hl] at ew
    have : w = v := by simpa using ew.symm
    subst this
    exact ⟨Hk, Ex.refl _, S.drop hb, rw'⟩
  cases x with
  | own xs =>
    cases e
    obtain ⟨p, vs, e1, ex, r, S'⟩ := S.freeze (i := ρ.length) (xs := xs) (by simp)
    rw [← hl] at e1
    have : v = .ref p := by simpa using e1
    subst this
    refine ⟨_, ex, ?_, r⟩
    have z : (ρ ++ [some (MV.own xs)]).set ρ.length (some (.lst xs)) = ρ ++ [some (.lst xs)] := by simp
    rw [z] at S'
    exact S'.drop hb
  | obj C fs => cases e
  | dow _ _ => cases e
  | dot _ _ => cases e
  | _ => cases e; exact pl rfl rfl
theorem rd_fz {m : ME} {σ : St} {H : Hp} {Q : VK} (h : rdE c (mFz m) σ H Q) : rdO c m σ H Q := by
  obtain ⟨F, Hk, bp, ρ, S, h⟩ := h
  refine ⟨F, Hk, bp, ρ, S, ?_⟩
  have h : okE c F Hk bp σ Q ((m ρ).bind fun x ρ1 => match fz x with | some y => .ok (y, ρ1) | none => .stuck) := h
  cases e : m ρ with
  | stuck => rw [e] at h; exact h
  | exc x ρ' => rw [e] at h; exact h
  | ok p =>
    obtain ⟨x, ρ1⟩ := p
    rw [e] at h
    intro Hk1 H1 v x1 S1
    have h : okE c F Hk bp σ Q (match fz x with | some y => .ok (y, ρ1) | none => .stuck) := h
    have l1 : σ.length = ρ1.length := by have := S1.len; simpa using this
    cases ez : fz x with
    | none => rw [ez] at h; exact h.elim
    | some y =>
      rw [ez] at h
      obtain ⟨Hk2, x2, S2, r2⟩ := S1.last (fun q hq => by rw [← l1]; exact lt_get (S.1.bor q hq)) ez
      exact h _ _ _ (x1.trans x2) S2 r2
theorem me_fz {e : Expr} {m : ME} (h : PE X e (rdO c m)) : PE X e (rdE c (mFz m)) := PEw h fun _ _ _ q => rd_fz q
def mCall (f : MF) (a : MA) : ME := fun ρ => (a ρ).bind fun xs ρ1 => match f xs with
  | .ok (v, _) => .ok (v, ρ1)
  | .exc e _ => .exc e ρ1
  | .stuck => .stuck
theorem call_end {f : MF} {n : Nat} {F Hk H : Hp} {bp : List (Nat × Addr)} {σ : St} {ρ : Env} {xs : List MV} {vs : List V} {Q : VK} {E : XK} (S : At c F Hk H bp σ ρ) (r : RVs c.K Hk xs vs) (hn : xs.length = n)
    (hE : ∀ e, (∀ Hk' H' cls d, Ex Hk Hk' → RS c.K F Hk' H' bp σ ρ → ExR c.K c.mg Hk' e cls d → c.W cls d σ H') → ∀ Hk' H' cls d, Ex Hk Hk' → RS c.K F Hk' H' bp σ ρ → ExR c.K c.mg Hk' e cls d → E cls d H')
    (h : okO c F Hk bp σ Q (match f xs with | .ok (v, _) => .ok (v, ρ) | .exc e _ => .exc e ρ | .stuck => .stuck)) : spF c.K c.mg n [] f vs H Q E := by
  refine ⟨by rw [r.length]; exact hn, ?_⟩
  obtain ⟨ow, s⟩ := S.1.ow
  haveI : ∀ a, Decidable (∃ i, a ∈ ow i) := fun a => Classical.propDecidable _
  have fN : ∃ F' : Hp, (∀ i a, a ∈ ow i → F' a = H a) ∧ (∀ a o, F a = some o → F' a = some o) ∧ ∀ a o, F' a = some o → H a = some o ∧ Hk a = none := by
    refine ⟨fun a => if (∃ i, a ∈ ow i) then H a else F a, fun i a ha => if_pos ⟨i, ha⟩, fun a o ha => ?_, fun a o ha => ?_⟩
    · have : ¬ ∃ i, a ∈ ow i := fun ⟨i, hi⟩ => by have := (s.f i a hi).2.1; rw [ha] at this; cases this
      show (if (∃ i, a ∈ ow i) then H a else F a) = some o
      rw [if_neg this]; exact ha
    · have ha : (if (∃ i, a ∈ ow i) then H a else F a) = some o := ha
      by_cases e : ∃ i, a ∈ ow i
      · rw [if_pos e] at ha
        obtain ⟨i, hi⟩ := e
        exact ⟨ha, (s.f i a hi).1⟩
      · rw [if_neg e] at ha
        exact ⟨S.1.fr a o ha, S.1.frk a o ha⟩
  obtain ⟨F', f1, f2, f3⟩ := fN
  refine ⟨F', Hk, [], xs, RS.args S.1.ex (fun a o ha => (f3 a o ha).1) (fun a o ha => (f3 a o ha).2) r, rfl, ?_⟩
  -- what stands behind the call
  have back : ∀ {Hk' H' : Hp} {bσ : St} {bρ : Env}, Ex Hk Hk' → RS c.K F' Hk' H' [] bσ bρ → RS c.K F Hk' H' bp σ ρ ∧ SL c.K F Hk' H' ow σ ρ := fun {Hk' H' bσ bρ} x S' => by
    have own : ∀ i, ∀ a ∈ ow i, H' a = H a ∧ Hk' a = none := fun i a ha => by
      obtain ⟨g1, g2, o, g3⟩ := s.f i a ha
      have q : F' a = some o := (f1 i a ha).trans g3
      exact ⟨(S'.fr a o q).trans g3.symm, S'.frk a o q⟩
    have sl : SL c.K F Hk' H' ow σ ρ := s.step x own
    exact ⟨⟨S.1.len, S'.ex, fun a o ha => S'.fr a o (f2 a o ha), fun a o ha => S'.frk a o (f2 a o ha), ⟨ow, sl⟩, S.1.bor⟩, sl⟩
  cases ef : f xs with
  | stuck => rw [ef] at h; exact h.elim
  | exc e bs =>
    rw [ef] at h
    intro Hk' H' cls d x S' er
    exact hE e h Hk' H' cls d x (back x S').1 er
  | ok p =>
    obtain ⟨v, bs⟩ := p
    rw [ef] at h
    intro Hk' H' w x S'
    obtain ⟨R1, sl⟩ := back x S'
    refine h Hk' H' w x ?_
    obtain ⟨ow2, s2⟩ := S'.ow
    have bl : bs.length = 0 := by have := S'.len; simpa using this.symm
    have be : bs = [] := List.eq_nil_of_length_eq_zero bl
    subst be
    obtain ⟨w2, e2, o2⟩ := s2.s 0 v rfl
    cases e2
    refine ⟨by simp [S.1.len], R1.ex, R1.fr, R1.frk, ⟨_, sl.push S.1.len o2 (fun a ha => ?_) (fun i a ha hi => ?_)⟩, R1.bor_app _⟩
    · obtain ⟨g1, g2, _⟩ := s2.f 0 a ha
      refine ⟨g1, ?_⟩
      cases e : F a with
      | none => rfl
      | some o => rw [f2 a o e] at g2; cases g2
    · obtain ⟨g1, g2, o, g3⟩ := s2.f 0 a ha
      obtain ⟨_, _, o', q⟩ := s.f i a hi
      rw [f1 i a hi, q] at g2
      cases g2
theorem rd_call {f : MF} {n : Nat} {a : MA} {σ : St} {H : Hp} {Q : VK} (hn : ∀ ρ xs ρ', a ρ = .ok (xs, ρ') → xs.length = n) (h : rdO c (mCall f a) σ H Q) : tCallS (spF c.K c.mg n [] f) (WE c.W) (rdA c a) σ H Q := by
  obtain ⟨F, Hk, bp, ρ, S, h⟩ := h
  refine ⟨F, Hk, bp, ρ, S, ?_⟩
  have h : okO c F Hk bp σ Q ((a ρ).bind fun xs ρ1 => match f xs with | .ok (v, _) => .ok (v, ρ1) | .exc e _ => .exc e ρ1 | .stuck => .stuck) := h
  cases e : a ρ with
  | stuck => rw [e] at h; exact h
  | exc x ρ' => rw [e] at h; exact h
  | ok p =>
    obtain ⟨xs, ρ1⟩ := p
    rw [e] at h
    intro Hk1 H1 vs x1 S1 r1
    exact call_end ⟨S1, S.2⟩ r1 (hn _ _ _ e) (fun e q => q) (okO.mono x1 h)
def Lng (a : MA) (n : Nat) : Prop := ∀ ρ xs ρ', a ρ = .ok (xs, ρ') → xs.length = n
theorem lng_nil : Lng mNil 0 := fun ρ xs ρ' h => by cases h; rfl
theorem lng_cons {a : ME} {b : MA} {n : Nat} (h : Lng b n) : Lng (mCons a b) (n + 1) := fun ρ xs ρ' e => by
  unfold mCons at e
  cases ea : a ρ with
  | stuck => rw [ea] at e; cases e
  | exc x r => rw [ea] at e; cases e
  | ok p =>
    rw [ea] at e
    have e : (b p.2).bind (fun ys ρ2 => Res.ok (p.1 :: ys, ρ2)) = .ok (xs, ρ') := e
    cases eb : b p.2 with
    | stuck => rw [eb] at e; cases e
    | exc x r => rw [eb] at e; cases e
    | ok q =>
      rw [eb] at e
      cases e
      simp [h _ _ _ eb]
variable {k : Nat} {fa : Addr} {fd : FuncData} {ps : List Str} {x : Str} {p pos : Pos} {e : Expr} {es : List Expr} {f : MF} {a : MA} {n : Nat}
theorem mo_call (F : FnOk X.prog X.w X.K X.mg X.base (L2N.CX X.prog X.w) k fa fd ps (spF X.K X.mg n [] f)) (hr : Room k X.A) (hm : X.mg x = some (.ref fa)) (hk : PySem.W.keepIn X.K (.ref fa) = true) (hb : Binds X.K fd ps []) (tk : L2N.Takes X c.W)
    (ha : PA X (e :: es) (rdA c a)) (hn : Lng a n) (hg : Gl X x := by rfl) (hK : c.K = X.K := by rfl) (hM : c.mg = X.mg := by rfl) (hdb : (x == ("__debug__" : Str)) = false := by decide) (he : starEach (e :: es) X.env = (false, eval e X.env) :: starEach es X.env := by rfl)
    (hpl : (backTo pos (starEach es X.env)).any (·.1) = false := by rfl) : PE X (.Call (.Name x p) (e :: es) [] pos) (rdO c (mCall f a)) :=
  PEw (pe_callS (E := WE c.W) F hr hg hm hk hb (fun σ => L2N.passAt tk σ) ha hdb he hpl) fun σ H Q h => by
    have := rd_call hn h
    rw [hK, hM] at this
    exact this
def mCall0 (f : MF) (a : MA) : ME := fun ρ => (a ρ).bind fun xs ρ1 => match f xs with
  | .ok (v, _) => .ok (v, ρ1)
  | _ => .stuck
theorem rd_call0 {f : MF} {n : Nat} {a : MA} {σ : St} {H : Hp} {Q : VK} (hn : Lng a n) (h : rdO c (mCall0 f a) σ H Q) : tCall (spF c.K c.mg n [] f) [] (fun _ _ _ => False) (rdA c a) σ H Q := by
  obtain ⟨F, Hk, bp, ρ, S, h⟩ := h
  refine ⟨F, Hk, bp, ρ, S, ?_⟩
  have h : okO c F Hk bp σ Q ((a ρ).bind fun xs ρ1 => match f xs with | .ok (v, _) => .ok (v, ρ1) | _ => .stuck) := h
  cases e : a ρ with
  | stuck => rw [e] at h; exact h
  | exc x ρ' => rw [e] at h; exact h
  | ok p =>
    obtain ⟨xs, ρ1⟩ := p
    rw [e] at h
    intro Hk1 H1 vs x1 S1 r1
    rw [List.append_nil]
    have h : okO c F Hk bp σ Q (match f xs with | .ok (v, _) => .ok (v, ρ1) | _ => .stuck) := h
    cases ef : f xs with
    | stuck => rw [ef] at h; exact h.elim
    | exc e bs => rw [ef] at h; exact h.elim
    | ok q =>
      rw [ef] at h
      refine call_end (f := f) (c := ⟨c.K, c.mg, fun _ _ _ _ => False, c.bs, c.J, c.Jm⟩) ⟨S1, S.2⟩ r1 (hn _ _ _ e) (fun e q => q) ?_
      rw [ef]
      exact fun Hk2 H2 w x2 => h Hk2 H2 w (x1.trans x2)
theorem passes0 {P : Program} {w : World} {X : Cx} : Passes (L2N.CX P w) X fun _ _ _ => False := fun _ _ _ _ _ _ _ ⟨_, _, _, _, _, _, _, _, _, _, _, _, f⟩ => f.elim
theorem mo_call0 (F : FnOk X.prog X.w X.K X.mg X.base (L2N.CX X.prog X.w) k fa fd ps (spF X.K X.mg n [] f)) (hr : Room k X.A) (hm : X.mg x = some (.ref fa)) (hk : PySem.W.keepIn X.K (.ref fa) = true) (hb : Binds X.K fd ps [])
    (ha : PA X (e :: es) (rdA c a)) (hn : Lng a n) (hg : Gl X x := by rfl) (hK : c.K = X.K := by rfl) (hM : c.mg = X.mg := by rfl) (hdb : (x == ("__debug__" : Str)) = false := by decide) (he : starEach (e :: es) X.env = (false, eval e X.env) :: starEach es X.env := by rfl)
    (hpl : (backTo pos (starEach es X.env)).any (·.1) = false := by rfl) : PE X (.Call (.Name x p) (e :: es) [] pos) (rdO c (mCall0 f a)) :=
  PEw (pe_call F hr hg hm hk hb .nil passes0 ha hdb he hpl) fun σ H Q h => by
    have := rd_call0 hn h
    rw [hK, hM] at this
    exact this
end
section
variable {P : Program} {w : World} {K : PySem.W.Frag} {mg : Str → Option Value} {base : Heap}
theorem start_eq {N : List Str} {vs : List V} {xs : List MV} (h : vs.length = xs.length) : L2.start N vs = vs.map some ++ List.replicate (N.length - xs.length) none := by unfold L2.start; rw [h]
theorem fn_ok {x qual : Str} {st : Stmt} {f : Addr} {fd : FuncData} {N ps : List Str} {k : Nat} {bs : List Nat} {m : MS} (F : Fun K x qual st f fd) (S : FnScope N ps (defScope st)) (nd : bs.Nodup) (hbs : ∀ i ∈ bs, i < ps.length)
    (hbody : ∀ (cdv : Value) (A : Around) (outer : List PySem.Env) (s : Shared) (H : Hp) (E : XK), Room k (A.deeper (PyProof.Rows.envOfC qual (defScope st) s.heap.objs.size f cdv)) →
      PSs (cxOf (L2N.CX P w) P w K mg base N qual (defScope st) f cdv A outer s H E) (defBody st) (rdS ⟨K, mg, fun cls d _ H => E cls d H, bs, fun _ _ => True, fun _ _ _ _ _ => trivial⟩ m)) :
    FnOk P w K mg base (L2N.CX P w) (k + 1) f fd ps (spF K mg ps.length bs (mFn N.length bs m)) := by
  refine okXN F S (fun vs H Q E h => h.1) (fun cdv A outer s H vs Q E hr h => ⟨_, hbody cdv A outer s H E hr, ?_⟩)
  obtain ⟨hl, F', Hk, bp, xs, R, eb, h⟩ := h
  have el : vs.length = xs.length := by have := R.len; simpa using this
  rw [start_eq el]
  refine ⟨F', Hk, bp, _, ⟨R.pad _, eb, trivial⟩, ?_⟩
  have bor : ∀ {σ' : St} {Hk' H' : Hp} {ρ' : Env}, RS K F' Hk' H' bp σ' ρ' → bs.map (fun i => (σ'[i]?).join) = bp.map (fun q => some (.ref q.2)) := fun {σ' Hk' H' ρ'} S' => by
    rw [← eb, List.map_map]
    refine List.map_congr_left fun q hq => ?_
    show (σ'[q.1]?).join = _
    rw [S'.bor q hq]; rfl
  have bl : ∀ {σ' : St} {Hk' H' : Hp} {ρ' : Env}, RS K F' Hk' H' bp σ' ρ' → ∀ i ∈ bs, i < ρ'.length := fun {σ' Hk' H' ρ'} S' i hi => by
    rw [← eb] at hi
    obtain ⟨q, hq, rfl⟩ := List.mem_map.mp hi
    rw [← S'.len]; exact lt_get (S'.bor q hq)
  unfold mFn at h
  cases em : m (xs.map some ++ List.replicate (N.length - xs.length) none) with
  | stuck => rw [em] at h; exact h.elim
  | exc e ρ' =>
    rw [em] at h
    intro Hk' H' σ' cls d x S' er
    refine h Hk' H' cls d x ?_ er
    have z := ((S'.push (x := .non) (v := .non) (RV.non.mpr rfl)).pick bs nd (bl S')).drop (fun _ hq => nomatch hq)
    rw [bor S'] at z
    exact z
  | ok p =>
    obtain ⟨fl, ρ'⟩ := p
    rw [em] at h
    have ret : ∀ {Hk' H' : Hp} {σ' : St} {u : V} {v : MV}, okF K mg F' Hk (bp.map fun q => some (.ref q.2)) Q E (.ok (v, endOf bs ρ')) → Ex Hk Hk' → RS K F' Hk' H' bp (σ' ++ [some u]) (ρ' ++ [some v]) → (∀ q ∈ bp, q.1 < ρ'.length) → Q u H' := fun {Hk' H' σ' u v} h x S' hq => by
      refine h Hk' H' u x ?_
      have z := S'.pick bs nd (fun i hi => by
        rw [← eb] at hi
        obtain ⟨q, hq', rfl⟩ := List.mem_map.mp hi
        exact hq q hq')
      have l1 : σ'.length = ρ'.length := by have := S'.len; simpa using this
      have e2 : bs.map (fun i => (σ'[i]?).join) = bp.map (fun q => some (.ref q.2)) := by
        rw [← eb, List.map_map]
        refine List.map_congr_left fun q hq' => ?_
        show (σ'[q.1]?).join = _
        have := S'.bor q hq'
        rw [List.getElem?_append_left (by rw [l1]; exact hq q hq')] at this
        rw [this]; rfl
      rw [e2] at z
      exact z
    cases fl with
    | nx => exact fun Hk' H' σ' x S' => ret h x (S'.push (x := .non) (v := .non) (RV.non.mpr rfl)) (fun q hq => by rw [← S'.len]; exact lt_get (S'.bor q hq))
    | br => exact h.elim
    | ct => exact h.elim
    | rt v =>
      intro Hk' H' σ' u x lq S'
      have l1 : σ'.length = ρ'.length := by have := S'.len; simpa using this
      exact ret h x S' fun q hq => by rw [← l1]; exact lq q hq
end
end Tm
set_option Elab.async false
set_option linter.all false
set_option maxRecDepth 100000
set_option maxHeartbeats 2000000
namespace Tm
open PySem L2
open Evl (Ex ex_rd ex_l ex_t)
def CallS (K : PySem.W.Frag) (f : List MV → Option MV) (r : List V → Hp → VK → Prop) : Prop := ∀ (xs : List MV) (z : MV) (vs : List V) (Hk H : Hp) (Q : VK), f xs = some z → Ex Hk H → RVs K Hk xs vs → (∀ u, RV K Hk z u → Q u H) →
  (∀ p o, H p = none → RV K (upd Hk p o) z (.ref p) → Q (.ref p) (upd H p o)) → r vs H Q
def mBlt (f : List MV → Option MV) (a : MA) : ME := fun ρ => (a ρ).bind fun xs ρ1 => match f xs with | some z => .ok (z, ρ1) | none => .stuck
section
variable {X : Cx} {c : Ct} {x : Str} {p pos : Pos} {e : Expr} {es : List Expr} {a : MA} {id T : String} {f : List MV → Option MV} {r : List V → Hp → VK → Prop}
theorem rd_blt (o : CallS c.K f r) {σ : St} {H : Hp} {Q : VK} (h : rdE c (mBlt f a) σ H Q) : tCB r (rdA c a) σ H Q := by
  obtain ⟨F, Hk, bp, ρ, S, h⟩ := h
  refine rdAw (bA postE S h) fun vs H1 ⟨Hk1, xs, ρ1, x1, S1, r1, h1⟩ => ?_
  have h1 : okE c F Hk1 bp σ Q (match f xs with | some z => .ok (z, ρ1) | none => .stuck) := h1
  cases ef : f xs with
  | none => rw [ef] at h1; exact h1.elim
  | some z =>
    rw [ef] at h1
    exact o xs z vs Hk1 H1 Q ef S1.1.ex r1 (fun u ru => h1 _ _ u (Ex.refl _) S1.1 ru) fun p ob hp ru => h1 _ _ _ (Ex.new (S1.1.ex.back hp)) (S1.1.new hp) ru
theorem me_blt (hc : CallR X (.builtin id) r) (o : CallS c.K f r) (hm : X.mg x = none) (hv : bootBuiltins x = some (.builtin id)) (ha : PA X (e :: es) (rdA c a)) (hg : Gl X x := by rfl) (hn : x ≠ "__name__" := by decide) (hdb : (x == ("__debug__" : Str)) = false := by decide)
    (he : starEach (e :: es) X.env = (false, eval e X.env) :: starEach es X.env := by rfl) (hpl : (backTo pos (starEach es X.env)).any (·.1) = false := by rfl) : PE X (.Call (.Name x p) (e :: es) [] pos) (rdE c (mBlt f a)) :=
  PEw (pe_callB hc hg hm hv ha hn hdb he hpl) fun _ _ _ h => rd_blt o h
theorem me_ty (hc : CallR X (.type T) r) (o : CallS c.K f r) (hm : X.mg x = none) (hv : bootBuiltins x = some (.type T)) (ha : PA X (e :: es) (rdA c a)) (hg : Gl X x := by rfl) (hn : x ≠ "__name__" := by decide) (hdb : (x == ("__debug__" : Str)) = false := by decide)
    (he : starEach (e :: es) X.env = (false, eval e X.env) :: starEach es X.env := by rfl) (hpl : (backTo pos (starEach es X.env)).any (·.1) = false := by rfl) : PE X (.Call (.Name x p) (e :: es) [] pos) (rdE c (mBlt f a)) :=
  PEw (pe_callTy hc hg hm hv ha hn hdb he hpl) fun _ _ _ h => rd_blt o h
theorem me_glob {v : MV} {w : V} {u : Value} (hm : X.mg x = some u) (rv : RelV w u) (r : ∀ H, RV c.K H v w) (hg : Gl X x := by rfl) (hd : (x == ("__debug__" : Str)) = false := by decide) : PE X (.Name x pos) (rdE c (mC v)) :=
  PEw (pe_glob hg hm rv hd) fun _ _ _ h => rd_c r h
theorem me_bltn {w : V} {u : Value} (hm : X.mg x = none) (hv : bootBuiltins x = some u) (rv : RelV w u) (hg : Gl X x := by rfl) (hn : x ≠ "__name__" := by decide) (hd : (x == ("__debug__" : Str)) = false := by decide) : PE X (.Name x pos) (rdE c (mC (.raw w))) :=
  PEw (pe_bltn hg hm hv rv hn hd) fun _ _ _ h => rd_c (fun _ => RV.raw.mpr rfl) h
end
section
variable {K : PySem.W.Frag}
theorem rvs1 {H : Hp} {x : MV} {vs : List V} (r : RVs K H [x] vs) : ∃ v, vs = [v] ∧ RV K H x v := by
  obtain ⟨v, r', rfl, q1, q2⟩ := RVs.cons.mp r
  rw [RVs.nil.mp q2]
  exact ⟨v, rfl, q1⟩
theorem rvs2' {H : Hp} {x y : MV} {vs : List V} (r : RVs K H [x, y] vs) : ∃ v w, vs = [v, w] ∧ RV K H x v ∧ RV K H y w := by
  obtain ⟨v, r', rfl, q1, q2⟩ := RVs.cons.mp r
  obtain ⟨w, rfl, q3⟩ := rvs1 q2
  exact ⟨v, w, rfl, q1, q3⟩
def bLen : List MV → Option MV
  | [.lst xs] => some (.int xs.length)
  | [.tup xs] => some (.int xs.length)
  | [.scr ns] => some (.int ns.length)
  | [.str z] => if szOk z.length then some (.int z.length) else none
  | _ => none
def rLenM (K : PySem.W.Frag) : List V → Hp → VK → Prop := fun xs H Q => (∃ p ys, xs = [.ref p] ∧ (SqL K H p ys ∨ SqT K H p ys) ∧ Q (.int ys.length) H) ∨ ∃ z, xs = [.str z] ∧ z.length ≤ sizeLine ∧ Q (.int z.length) H
theorem cr_lenM {X : Cx} : CallR X (.builtin "len") (rLenM X.K) := CallR.or call_len_seq call_len_str
theorem cs_len : CallS K bLen (rLenM K) := by
  intro xs z vs Hk H Q e ex r q qn
  unfold bLen at e
  split at e
  · cases e
    obtain ⟨v, rfl, rv⟩ := rvs1 r
    obtain ⟨p1, ws, rfl, h1, s1⟩ := RV.lst.mp rv
    exact .inl ⟨p1, ws, rfl, .inl (SqL.of (ex _ _ h1)), by rw [s1.length]; exact q _ (RV.int.mpr rfl)⟩
  · cases e
    obtain ⟨v, rfl, rv⟩ := rvs1 r
    obtain ⟨p1, ws, rfl, h1, s1⟩ := RV.tup.mp rv
    exact .inl ⟨p1, ws, rfl, .inr (ex_t ex h1), by rw [s1.length]; exact q _ (RV.int.mpr rfl)⟩
  · cases e
    obtain ⟨v, rfl, rv⟩ := rvs1 r
    obtain ⟨p1, rfl, h1⟩ := RV.scr.mp rv
    exact .inl ⟨p1, _, rfl, .inl (ex_l ex h1), by rw [List.length_map]; exact q _ (RV.int.mpr rfl)⟩
  · split at e
    · rename_i hz
      cases e
      obtain ⟨v, rfl, rv⟩ := rvs1 r
      exact .inr ⟨_, by rw [RV.str.mp rv], szOk_iff.mp hz, q _ (RV.int.mpr rfl)⟩
    · cases e
  · cases e
def bAbs : List MV → Option MV
  | [.int i] => some (.int (if i < 0 then -i else i))
  | _ => none
theorem cs_abs : CallS K bAbs (fun xs H Q => ∃ i, xs = [.int i] ∧ Q (.int (if i < 0 then -i else i)) H) := by
  intro xs z vs Hk H Q e ex r q qn
  unfold bAbs at e
  split at e
  · cases e
    exact ⟨_, rvs_int1 r, q _ (RV.int.mpr rfl)⟩
  · cases e
def bMin : List MV → Option MV
  | [.int i, .int j] => some (.int (if j < i then j else i))
  | _ => none
theorem cs_min : CallS K bMin (fun xs H Q => ∃ i j, xs = [.int i, .int j] ∧ Q (.int (if j < i then j else i)) H) := by
  intro xs z vs Hk H Q e ex r q qn
  unfold bMin at e
  split at e
  · cases e
    exact ⟨_, _, rvs_int2 r, q _ (RV.int.mpr rfl)⟩
  · cases e
def bInt : List MV → Option MV
  | [.int i] => some (.int i)
  | [.bl k] => some (.int (if k then 1 else 0))
  | [.str s] => if decide (s.length ≤ 640) then (PySem.intText? s).map .int else none
  | _ => none
def rIntM : List V → Hp → VK → Prop := fun xs H Q => ((∃ i, xs = [.int i] ∧ Q (.int i) H) ∨ ∃ k, xs = [.bl k] ∧ Q (.int (if k then 1 else 0)) H) ∨ ∃ a n, xs = [.str a] ∧ PySem.intText? a = some n ∧ a.length ≤ 640 ∧ Q (.int n) H
theorem cr_intM {X : Cx} : CallR X (.type "int") rIntM := CallR.or call_int1 call_int_str
theorem cs_int : CallS K bInt rIntM := by
  intro xs z vs Hk H Q e ex r q qn
  unfold bInt at e
  split at e
  · cases e
    exact .inl (.inl ⟨_, rvs_int1 r, q _ (RV.int.mpr rfl)⟩)
  · cases e
    obtain ⟨v, rfl, rv⟩ := rvs1 r
    exact .inl (.inr ⟨_, by rw [RV.bl.mp rv], q _ (RV.int.mpr rfl)⟩)
  · split at e
    · rename_i s hs
      cases en : PySem.intText? s with
      | none => rw [en] at e; cases e
      | some n =>
        rw [en] at e
        cases e
        obtain ⟨v, rfl, rv⟩ := rvs1 r
        exact .inr ⟨s, n, by rw [RV.str.mp rv], en, of_decide_eq_true hs, q _ (RV.int.mpr rfl)⟩
    · cases e
  · cases e
def bStr : List MV → Option MV
  | [.int i] => if decide (i.natAbs.log2 < 1920) then some (.str (toString i)) else none
  | _ => none
theorem cs_str : CallS K bStr (fun xs H Q => ∃ i, xs = [.int i] ∧ i.natAbs.log2 < 1920 ∧ Q (.str (toString i)) H) := by
  intro xs z vs Hk H Q e ex r q qn
  unfold bStr at e
  split at e
  · split at e
    · rename_i h
      cases e
      exact ⟨_, rvs_int1 r, of_decide_eq_true h, q _ (RV.str.mpr rfl)⟩
    · cases e
  · cases e
def bTuple : List MV → Option MV
  | [.lst xs] => some (.tup xs)
  | [.tup xs] => some (.tup xs)
  | _ => none
theorem cs_tuple : CallS K bTuple (fun xs H Q => ∃ p ys, xs = [.ref p] ∧ ((SqL K H p ys ∧ ∀ l, H l = none → Q (.ref l) (upd H l (.tup ys))) ∨ (SqT K H p ys ∧ Q (.ref p) H))) := by
  intro xs z vs Hk H Q e ex r q qn
  unfold bTuple at e
  split at e
  · cases e
    obtain ⟨v, rfl, rv⟩ := rvs1 r
    obtain ⟨p1, ws, rfl, h1, s1⟩ := RV.lst.mp rv
    exact ⟨p1, ws, rfl, .inl ⟨SqL.of (ex _ _ h1), fun l hl => qn l _ hl (RV.tup.mpr ⟨l, ws, rfl, SqT.of upd_same, s1.mono (Ex.new (ex.back hl))⟩)⟩⟩
  · cases e
    obtain ⟨v, rfl, rv⟩ := rvs1 r
    obtain ⟨p1, ws, e1, h1, s1⟩ := RV.tup.mp rv
    subst e1
    exact ⟨p1, ws, rfl, .inr ⟨ex_t ex h1, q _ rv⟩⟩
  · cases e
def blsOf : List MV → Option (List Bool)
  | [] => some []
  | .bl b :: r => (blsOf r).map (b :: ·)
  | _ => none
theorem bls_rv {H : Hp} : ∀ {xs : List MV} {bs : List Bool} {vs : List V}, blsOf xs = some bs → RVs K H xs vs → vs = bs.map V.bl
  | [], bs, vs, e, r => by cases e; rw [RVs.nil.mp r]; rfl
  | .bl b :: r', bs, vs, e, r => by
    unfold blsOf at e
    cases h : blsOf r' with
    | none => rw [h] at e; cases e
    | some cs =>
      rw [h] at e
      cases e
      obtain ⟨v, us, rfl, q1, q2⟩ := RVs.cons.mp r
      rw [RV.bl.mp q1, bls_rv h q2]; rfl
  | .non :: _, _, _, e, _ => by cases e
  | .int _ :: _, _, _, e, _ => by cases e
  | .str _ :: _, _, _, e, _ => by cases e
  | .tup _ :: _, _, _, e, _ => by cases e
  | .lst _ :: _, _, _, e, _ => by cases e
  | .own _ :: _, _, _, e, _ => by cases e
  | .raw _ :: _, _, _, e, _ => by cases e
  | .scr _ :: _, _, _, e, _ => by cases e
  | .fnc _ :: _, _, _, e, _ => by cases e
  | .obj _ _ :: _, _, _, e, _ => by cases e
  | .dct _ _ :: _, _, _, e, _ => by cases e
  | .dow _ _ :: _, _, _, e, _ => by cases e
  | .dot _ _ :: _, _, _, e, _ => by cases e
def bAll : List MV → Option MV
  | [.lst xs] => (blsOf xs).map fun bs => .bl (bs.all id)
  | _ => none
theorem cs_all : CallS K bAll (rAll K) := by
  intro xs z vs Hk H Q e ex r q qn
  unfold bAll at e
  split at e
  · rename_i ys
    cases h : blsOf ys with
    | none => rw [h] at e; cases e
    | some bs =>
      rw [h] at e
      cases e
      obtain ⟨v, rfl, rv⟩ := rvs1 r
      obtain ⟨p1, ws, rfl, h1, s1⟩ := RV.lst.mp rv
      have ew := bls_rv h s1
      subst ew
      exact ⟨p1, bs, rfl, SqL.of (ex _ _ h1), q _ (RV.bl.mpr rfl)⟩
  · cases e
inductive Kd where
  | non | bl | int | str | tup | lst
  deriving DecidableEq
def Kd.name : Kd → String
  | .non => "NoneType" | .bl => "bool" | .int => "int" | .str => "str" | .tup => "tuple" | .lst => "list"
def MV.kd : MV → Option Kd
  | .non => some .non | .bl _ => some .bl | .int _ => some .int | .str _ => some .str | .tup _ => some .tup | .lst _ => some .lst
  | _ => none
def kdOf : String → Option Kd
  | "bool" => some .bl | "int" => some .int | "str" => some .str | "tuple" => some .tup | "list" => some .lst
  | _ => none
def Kd.isa (a b : Kd) : Bool := decide (a = b) || (decide (a = .bl) && decide (b = .int))
theorem kit_kd (a b : Kd) (h : b ≠ .non) : kitB a.name b.name = some (a.isa b) := by
  cases a <;> cases b <;> first | exact (h rfl).elim | decide +kernel
def bIsi : List MV → Option MV
  | [x, .raw (.ty T)] => match x.kd, kdOf T with
    | some a, some b => some (.bl (a.isa b))
    | _, _ => none
  | _ => none
theorem kdOf_name {T : String} {b : Kd} (h : kdOf T = some b) : T = b.name ∧ b ≠ .non := by
  unfold kdOf at h
  split at h <;> first | (cases h; exact ⟨rfl, by decide⟩) | cases h
theorem ty_of {Hk H : Hp} {x : MV} {v : V} {a : Kd} (ex : Ex Hk H) (r : RV K Hk x v) (h : x.kd = some a) : TyX K H v (.type a.name) := by
  cases x with
  | non => cases h; rw [RV.non.mp r]; exact .base .non
  | bl b => cases h; rw [RV.bl.mp r]; exact .base (.bl b)
  | int b => cases h; rw [RV.int.mp r]; exact .base (.int b)
  | str b => cases h; rw [RV.str.mp r]; exact .base (.str b)
  | tup xs =>
    cases h
    obtain ⟨p, vs, rfl, h1, _⟩ := RV.tup.mp r
    rcases ex_t ex h1 with (h1 | ⟨o, h1⟩) | ⟨o, its, n, h1, h2, _⟩
    · exact .base (.tup h1)
    · exact .fTuple h1
    · exact .kTuple h1 h2
  | lst xs =>
    cases h
    obtain ⟨p, vs, rfl, h1, _⟩ := RV.lst.mp r
    exact .base (.lst (ex _ _ h1))
  | _ => cases h
theorem cs_isi : CallS K bIsi (rIsi K) := by
  intro xs z vs Hk H Q e ex r q qn
  unfold bIsi at e
  split at e
  · rename_i x T
    split at e
    · rename_i a b e1 e2
      cases e
      obtain ⟨v, w, rfl, r1, r2⟩ := rvs2' r
      obtain ⟨et, nb⟩ := kdOf_name e2
      refine ⟨v, w, _, .type T, _, rfl, ?_, ty_of ex r1 e1, ?_, q _ (RV.bl.mpr rfl)⟩
      · rw [RV.raw.mp r2]; exact .ty T
      · subst et; exact kit_ty (kit_kd a b nb)
    · cases e
  · cases e
end
section
variable {X : Cx} {c : Ct} {p pos : Pos} {e e2 : Expr} {es : List Expr} {a : MA}
theorem mb_len (hm : X.mg "len" = none) (ha : PA X [e] (rdA c a)) (hK : c.K = X.K := by rfl) (hg : Gl X "len" := by rfl) (he : starEach [e] X.env = (false, eval e X.env) :: starEach [] X.env := by rfl) (hpl : (backTo pos (starEach [] X.env)).any (·.1) = false := by rfl) : PE X (.Call (.Name "len" p) [e] [] pos) (rdE c (mBlt bLen a)) :=
  me_blt cr_lenM (by rw [← hK]; exact cs_len) hm PySem.boot_len ha hg (he := he) (hpl := hpl)
theorem mb_abs (hm : X.mg "abs" = none) (ha : PA X [e] (rdA c a)) (hg : Gl X "abs" := by rfl) (he : starEach [e] X.env = (false, eval e X.env) :: starEach [] X.env := by rfl) (hpl : (backTo pos (starEach [] X.env)).any (·.1) = false := by rfl) : PE X (.Call (.Name "abs" p) [e] [] pos) (rdE c (mBlt bAbs a)) :=
  me_blt call_abs cs_abs hm (by decide +kernel) ha hg (he := he) (hpl := hpl)
theorem mb_min (hc : X.calm = true) (hm : X.mg "min" = none) (ha : PA X [e, e2] (rdA c a)) (hg : Gl X "min" := by rfl) (he : starEach [e, e2] X.env = (false, eval e X.env) :: starEach [e2] X.env := by rfl) (hpl : (backTo pos (starEach [e2] X.env)).any (·.1) = false := by rfl) : PE X (.Call (.Name "min" p) [e, e2] [] pos) (rdE c (mBlt bMin a)) :=
  me_blt (call_min2 hc) cs_min hm (by decide +kernel) ha hg (he := he) (hpl := hpl)
theorem mb_int (hm : X.mg "int" = none) (ha : PA X [e] (rdA c a)) (hg : Gl X "int" := by rfl) (he : starEach [e] X.env = (false, eval e X.env) :: starEach [] X.env := by rfl) (hpl : (backTo pos (starEach [] X.env)).any (·.1) = false := by rfl) : PE X (.Call (.Name "int" p) [e] [] pos) (rdE c (mBlt bInt a)) :=
  me_ty cr_intM cs_int hm (by decide +kernel) ha hg (he := he) (hpl := hpl)
theorem mb_str (hm : X.mg "str" = none) (ha : PA X [e] (rdA c a)) (hg : Gl X "str" := by rfl) (he : starEach [e] X.env = (false, eval e X.env) :: starEach [] X.env := by rfl) (hpl : (backTo pos (starEach [] X.env)).any (·.1) = false := by rfl) : PE X (.Call (.Name "str" p) [e] [] pos) (rdE c (mBlt bStr a)) :=
  me_ty call_str_int cs_str hm (by decide +kernel) ha hg (he := he) (hpl := hpl)
theorem mb_tuple (hm : X.mg "tuple" = none) (ha : PA X [e] (rdA c a)) (hK : c.K = X.K := by rfl) (hg : Gl X "tuple" := by rfl) (he : starEach [e] X.env = (false, eval e X.env) :: starEach [] X.env := by rfl) (hpl : (backTo pos (starEach [] X.env)).any (·.1) = false := by rfl) : PE X (.Call (.Name "tuple" p) [e] [] pos) (rdE c (mBlt bTuple a)) :=
  me_ty call_tuple_of (by rw [← hK]; exact cs_tuple) hm (by decide +kernel) ha hg (he := he) (hpl := hpl)
theorem mb_all (hc : X.calm = true) (hm : X.mg "all" = none) (ha : PA X [e] (rdA c a)) (hK : c.K = X.K := by rfl) (hg : Gl X "all" := by rfl) (he : starEach [e] X.env = (false, eval e X.env) :: starEach [] X.env := by rfl) (hpl : (backTo pos (starEach [] X.env)).any (·.1) = false := by rfl) : PE X (.Call (.Name "all" p) [e] [] pos) (rdE c (mBlt bAll a)) :=
  me_blt (cr_all hc) (by rw [← hK]; exact cs_all) hm (by decide +kernel) ha hg (he := he) (hpl := hpl)
theorem mb_isi (hm : X.mg "isinstance" = none) (ha : PA X [e, e2] (rdA c a)) (hK : c.K = X.K := by rfl) (hg : Gl X "isinstance" := by rfl) (he : starEach [e, e2] X.env = (false, eval e X.env) :: starEach [e2] X.env := by rfl) (hpl : (backTo pos (starEach [e2] X.env)).any (·.1) = false := by rfl) : PE X (.Call (.Name "isinstance" p) [e, e2] [] pos) (rdE c (mBlt bIsi a)) :=
  me_blt call_isi (by rw [← hK]; exact cs_isi) hm (by decide +kernel) ha hg (he := he) (hpl := hpl)
end
end Tm
set_option Elab.async false
set_option linter.all false
set_option maxRecDepth 100000
set_option maxHeartbeats 2000000
namespace Tm
open PySem L2
open Evl (Ex ex_rd ex_l ex_t)
section
variable {X : Cx} {c : Ct} {p pos apos cpos : Pos} {e e2 : Expr} {es : List Expr} {a b : ME} {m : MA} {x : Str} {i : Nat}
def isOwn (ρ : Env) (i : Nat) : Bool := match ρ[i]? with | some (some (.own _)) => true | _ => false
theorem own_rs {F Hk H : Hp} {bp : List (Nat × Addr)} {σ : St} {ρ : Env} {i : Nat} (S : At c F Hk H bp σ ρ) (h : isOwn ρ i = true) : ∃ q vs, σ[i]? = some (some (.ref q)) ∧ H q = some (.lst vs) := by
  unfold isOwn at h
  split at h
  · rename_i xs e
    obtain ⟨q, vs, e1, e2, _⟩ := S.1.getOwn e
    exact ⟨q, vs, e1, e2⟩
  · cases h
theorem change_rs {F Hk H : Hp} {bp : List (Nat × Addr)} {σ : St} {ρ : Env} {i : Nat} {xs ys : List MV} {q : Addr} (S : At c F Hk H bp σ ρ) (h : ρ[i]? = some (some (.own xs))) (eq : σ[i]? = some (some (.ref q))) :
    ∃ vs, H q = some (.lst vs) ∧ RVs c.K Hk xs vs ∧ ∀ ws, RVs c.K Hk ys ws → RS c.K F Hk (upd H q (.lst ws)) bp σ (ρ.set i (some (.own ys))) := by
  obtain ⟨p, vs, e1, e2, e3, e4⟩ := S.1.change (ys := ys) h
  rw [eq] at e1
  cases e1
  exact ⟨vs, e2, e3, e4⟩
def mLm (f : List MV → List MV → Option (List MV × MV)) (i : Nat) (a : MA) : ME := fun ρ => if isOwn ρ i then (a ρ).bind fun ys ρ1 => match ρ1[i]? with
  | some (some (.own xs)) => (match f xs ys with | some (zs, z) => .ok (z, ρ1.set i (some (.own zs))) | none => .stuck)
  | _ => .stuck else .stuck
def LmS (K : PySem.W.Frag) (f : List MV → List MV → Option (List MV × MV)) (r : V → List V → Hp → VK → Prop) : Prop := ∀ (xs ys zs : List MV) (z : MV) (q : Addr) (vs us : List V) (Hk H : Hp) (Q : VK), f xs ys = some (zs, z) → Ex Hk H → H q = some (.lst vs) → RVs K Hk xs vs → RVs K Hk ys us →
  (∀ ws u, RVs K Hk zs ws → RV K Hk z u → Q u (upd H q (.lst ws))) → r (.ref q) us H Q
theorem rd_lm {f : List MV → List MV → Option (List MV × MV)} {r : V → List V → Hp → VK → Prop} (o : LmS c.K f r) {σ : St} {H : Hp} {Q : VK} (h : rdE c (mLm f i m) σ H Q) : tBM c.K "list" r (tVar i) (rdA c m) σ H Q := by
  obtain ⟨F, Hk, bp, ρ, S, h⟩ := h
  unfold mLm at h
  split at h
  · rename_i ho
    obtain ⟨q, vs0, eq, hq⟩ := own_rs S ho
    refine ⟨_, eq, .inl ⟨rfl, _, SqL.of hq⟩, ?_⟩
    refine rdAw (bA postE S h) fun us H1 ⟨Hk1, ys, ρ1, x1, S1, r1, h1⟩ => ?_
    split at h1
    · rename_i xs ex
      split at h1
      · rename_i zs z ef
        obtain ⟨vs, g1, g2, g3⟩ := change_rs (ys := zs) S1 ex eq
        exact o xs ys zs z q vs us Hk1 H1 Q ef S1.1.ex g1 g2 r1 fun ws u r2 r3 => h1 _ _ u (Ex.refl _) (g3 ws r2) r3
      · exact h1.elim
    · exact h1.elim
  · exact h.elim
def lmAppend : List MV → List MV → Option (List MV × MV)
  | xs, [y] => if decide (xs.length < sizeLine) then some (xs ++ [y], .non) else none
  | _, _ => none
theorem ls_append {K : PySem.W.Frag} : LmS K lmAppend rAppend := by
  intro xs ys zs z q vs us Hk H Q e ex hq r1 r2 k
  unfold lmAppend at e
  split at e
  · split at e
    · rename_i h
      cases e
      obtain ⟨v, rfl, rv⟩ := rvs1 r2
      refine ⟨q, vs, v, rfl, rfl, hq, by rw [r1.length]; exact of_decide_eq_true h, k _ _ (r1.append ?_) (RV.non.mpr rfl)⟩
      exact RVs.cons.mpr ⟨v, [], rfl, rv, RVs.nil.mpr rfl⟩
    · cases e
  · cases e
theorem me_lm1 {f : List MV → List MV → Option (List MV × MV)} {r : V → List V → Hp → VK → Prop} {id : String} {name : Str} (o : LmS c.K f r) (slot : Slot "list" name id) (hty : typeOf (.builtin id) = pure (.type "method_descriptor")) (hm : MtR X id r) (hN : X.N[i]? = some x) (hv : Vis X.env.scope x) (ha : PA X (e :: es) (rdA c m)) (hK : c.K = X.K := by rfl)
    (hbase : attributeBase (.Name x p) name X.env (eval (.Name x p) X.env) = eval (.Name x p) X.env := by rfl)
    (hfew : ((backTo cpos (starEach (e :: es) X.env)).all (fun x => !x.1) && (backToKw cpos (keywordEach [] X.env)).all (fun x => x.1.isSome)
      && decide ((e :: es).length + ([] : List Keyword).length + (if ([] : List Keyword).isEmpty then 0 else 1) < 30)) = true := by rfl)
    (hline : (apos.endLine == cpos.line) = true := by rfl) (hs : starEach (e :: es) X.env = (false, eval e X.env) :: starEach es X.env := by rfl) (hplain : (backTo cpos (starEach es X.env)).any (·.1) = false := by rfl)
    (hd : (x == ("__debug__" : Str)) = false := by decide) (hcd : (x == ("__classdict__" : Str)) = false := by decide) : PE X (.Call (.Attribute (.Name x p) name apos) (e :: es) [] cpos) (rdE c (mLm f i m)) :=
  PEw (pe_bm PySem.F.plainAttrs_list slot hty hm (pe_var hN hv hd hcd) ha hbase hfew hline hs hplain) fun σ H Q h => by
    have := rd_lm o h
    rw [hK] at this
    exact this
end
end Tm
set_option Elab.async false
set_option linter.all false
set_option maxRecDepth 100000
set_option maxHeartbeats 2000000
namespace Tm
open PySem L2
open Evl (Ex ex_rd ex_l ex_t)
inductive Tgt where
  | nm (i : Nat) | tp (is : List Nat)
def gsOf : List Nat → TGs
  | [] => gNil
  | i :: is => gCons (gName i) (gsOf is)
def gOf (K : PySem.W.Frag) : Tgt → TG
  | .nm i => gName i
  | .tp is => gTup K is.length (gsOf is)
def setAll : List Nat → List MV → Env → Option Env
  | [], [], ρ => some ρ
  | i :: is, x :: xs, ρ => if i < ρ.length then setAll is xs (ρ.set i (some x)) else none
  | _, _, _ => none
def setT (t : Tgt) (x : MV) (ρ : Env) : Option Env := match t with
  | .nm i => if i < ρ.length then some (ρ.set i (some x)) else none
  | .tp is => match x with
    | .tup xs => if xs.length = is.length then setAll is xs ρ else none
    | _ => none
def Tgt.slots : Tgt → List Nat
  | .nm i => [i]
  | .tp is => is
theorem wipe_get (σ : St) : ∀ (vs : List Nat) (j : Nat), (wipe σ vs)[j]? = if j ∈ vs ∧ j < σ.length then some none else σ[j]?
  | [], j => by simp [wipe]
  | v :: vs, j => by
    unfold wipe
    by_cases e : v = j
    · subst e
      by_cases hl : v < σ.length
      · rw [List.getElem?_set_self (by rw [wipe_length]; exact hl), if_pos ⟨by simp, hl⟩]
      · rw [if_neg (by intro h; exact hl h.2), List.getElem?_eq_none (by rw [List.length_set, wipe_length]; omega), List.getElem?_eq_none (by omega)]
    · rw [List.getElem?_set_ne e, wipe_get σ vs j]
      by_cases hm : j ∈ vs ∧ j < σ.length
      · rw [if_pos hm, if_pos ⟨List.mem_cons_of_mem _ hm.1, hm.2⟩]
      · rw [if_neg hm, if_neg (fun h => hm ⟨(List.mem_cons.mp h.1).resolve_left (Ne.symm e), h.2⟩)]
theorem wipe_set {σ : St} {vs : List Nat} {i : Nat} {y : Option V} (h : i ∈ vs) : wipe (σ.set i y) vs = wipe σ vs := by
  refine List.ext_getElem? fun j => ?_
  rw [wipe_get, wipe_get, List.length_set]
  by_cases hm : j ∈ vs ∧ j < σ.length
  · rw [if_pos hm, if_pos hm]
  · rw [if_neg hm, if_neg hm]
    by_cases e : i = j
    · subst e
      have : σ.length ≤ i := Nat.le_of_not_lt fun z => hm ⟨h, z⟩
      rw [List.getElem?_eq_none (by simpa using this), List.getElem?_eq_none this]
    · rw [List.getElem?_set_ne e]
theorem wipe_wipe (σ : St) (vs : List Nat) : wipe (wipe σ vs) vs = wipe σ vs := by
  refine List.ext_getElem? fun j => ?_
  rw [wipe_get, wipe_length, wipe_get]
  by_cases hm : j ∈ vs ∧ j < σ.length
  · rw [if_pos hm, if_pos hm]
  · rw [if_neg hm]
def wipeM (ρ : Env) : List Nat → Env
  | [] => ρ
  | v :: vs => (wipeM ρ vs).set v none
theorem wipeM_len (ρ : Env) : ∀ vs : List Nat, (wipeM ρ vs).length = ρ.length
  | [] => rfl
  | v :: vs => by unfold wipeM; rw [List.length_set, wipeM_len ρ vs]
theorem wipeM_get (σ : Env) : ∀ (vs : List Nat) (j : Nat), (wipeM σ vs)[j]? = if j ∈ vs ∧ j < σ.length then some none else σ[j]?
  | [], j => by simp [wipeM]
  | v :: vs, j => by
    unfold wipeM
    by_cases e : v = j
    · subst e
      by_cases hl : v < σ.length
      · rw [List.getElem?_set_self (by rw [wipeM_len]; exact hl), if_pos ⟨by simp, hl⟩]
      · rw [if_neg (by intro h; exact hl h.2), List.getElem?_eq_none (by rw [List.length_set, wipeM_len]; omega), List.getElem?_eq_none (by omega)]
    · rw [List.getElem?_set_ne e, wipeM_get σ vs j]
      by_cases hm : j ∈ vs ∧ j < σ.length
      · rw [if_pos hm, if_pos ⟨List.mem_cons_of_mem _ hm.1, hm.2⟩]
      · rw [if_neg hm, if_neg (fun h => hm ⟨(List.mem_cons.mp h.1).resolve_left (Ne.symm e), h.2⟩)]
def perAt (ρ : Env) (vs : List Nat) : Bool := vs.all fun i => match ρ[i]? with
  | some (some x) => x.per
  | _ => true
def backM (ρ ρ' : Env) (vs : List Nat) : Env := vs.foldl (fun r i => r.set i ((ρ[i]?).join)) ρ'
section
variable {K : PySem.W.Frag} {F Hk H : Hp} {bp : List (Nat × Addr)} {σ : St} {ρ : Env}
theorem SL.setNone {ow : Nat → List Addr} (S : SL K F Hk H ow σ ρ) {i : Nat} : SL K F Hk H (put ow i []) (σ.set i none) (ρ.set i none) := by
  refine ⟨fun j y h => ?_, fun j a h => ?_, fun j h => ?_, fun j k a hjk h => ?_⟩
  · rcases set_get h with ⟨_, e⟩ | ⟨ne, e⟩
    · cases e
    · obtain ⟨u, e1, e2⟩ := S.s j y e
      exact ⟨u, by rw [List.getElem?_set_ne (Ne.symm ne)]; exact e1, by rw [put_ne ne]; exact e2⟩
  · by_cases e : j = i
    · rw [e, put_same] at h; cases h
    · rw [put_ne e] at h; exact S.f j a h
  · by_cases e : j = i
    · rw [e, put_same] at h; exact (h rfl).elim
    · rw [put_ne e] at h; rw [List.length_set]; exact S.w j h
  · by_cases e : j = i
    · rw [e, put_same] at h; cases h
    · rw [put_ne e] at h
      by_cases e2 : k = i
      · rw [e2, put_same]; simp
      · rw [put_ne e2]; exact S.d j k a hjk h
theorem RS.setNone (S : RS K F Hk H bp σ ρ) {i : Nat} (hb : ∀ q ∈ bp, q.1 ≠ i) : RS K F Hk H bp (σ.set i none) (ρ.set i none) := by
  obtain ⟨ow, s⟩ := S.ow
  exact ⟨by simp [S.len], S.ex, S.fr, S.frk, ⟨_, s.setNone⟩, fun q hq => by rw [List.getElem?_set_ne (Ne.symm (hb q hq))]; exact S.bor q hq⟩
theorem RS.wipe (S : RS K F Hk H bp σ ρ) : ∀ vs : List Nat, (∀ q ∈ bp, q.1 ∉ vs) → RS K F Hk H bp (L2.wipe σ vs) (wipeM ρ vs)
  | [], _ => S
  | v :: vs, hb => (RS.wipe S vs fun q hq z => hb q hq (List.mem_cons_of_mem _ z)).setNone fun q hq z => hb q hq (by rw [z]; simp)
theorem RS.back (S : RS K F Hk H bp (L2.wipe σ vs) (wipeM ρ' vs)) (S0 : ∀ i ∈ vs, ∀ x, ρ[i]? = some (some x) → ∃ v, σ[i]? = some (some v) ∧ RV K Hk x v) (hl : ρ.length = ρ'.length) (hl2 : σ.length = ρ.length) (hb : ∀ q ∈ bp, q.1 ∉ vs) : RS K F Hk H bp σ (backM ρ ρ' vs) := by
  have gb : ∀ (vs : List Nat) (r : Env) (j : Nat), r.length = ρ.length → (vs.foldl (fun r i => r.set i ((ρ[i]?).join)) r)[j]? = if j ∈ vs ∧ j < ρ.length then some ((ρ[j]?).join) else r[j]? := fun vs => by
    induction vs with
    | nil => intro r j _; simp
    | cons v vs ih =>
      intro r j hr
      rw [List.foldl_cons, ih _ j (by rw [List.length_set]; exact hr)]
      by_cases hm : j ∈ vs ∧ j < ρ.length
      · rw [if_pos hm, if_pos ⟨List.mem_cons_of_mem _ hm.1, hm.2⟩]
      · rw [if_neg hm]
        by_cases e : v = j
        · subst e
          by_cases hl : v < ρ.length
          · rw [List.getElem?_set_self (by rw [hr]; exact hl), if_pos ⟨by simp, hl⟩]
          · rw [if_neg (by intro h; exact hl h.2), List.getElem?_eq_none (by rw [List.length_set, hr]; omega), List.getElem?_eq_none (by omega)]
        · rw [List.getElem?_set_ne e, if_neg (fun h => hm ⟨(List.mem_cons.mp h.1).resolve_left (Ne.symm e), h.2⟩)]
  have gl : ∀ (vs : List Nat) (r : Env), (vs.foldl (fun r i => r.set i ((ρ[i]?).join)) r).length = r.length := fun vs => by
    induction vs with
    | nil => intro r; rfl
    | cons v vs ih => intro r; rw [List.foldl_cons, ih, List.length_set]
  obtain ⟨ow, s⟩ := S.ow
  have lb : (backM ρ ρ' vs).length = ρ.length := by unfold backM; rw [gl, ← hl]
  refine ⟨by rw [lb, hl2], S.ex, S.fr, S.frk, ⟨fun j => if j ∈ vs then [] else ow j, fun j y h => ?_, fun j a h => ?_, fun j h => ?_, fun j k a hjk h => ?_⟩, fun q hq => ?_⟩
  · unfold backM at h
    rw [gb vs ρ' j hl.symm] at h
    by_cases hm : j ∈ vs ∧ j < ρ.length
    · rw [if_pos hm] at h
      have e : ρ[j]? = some (some y) := by
        cases er : ρ[j]? with
        | none => rw [er] at h; cases h
        | some o => rw [er] at h; cases o with
          | none => cases h
          | some z => cases h; rfl
      obtain ⟨v, e1, r⟩ := S0 j hm.1 y e
      exact ⟨v, e1, by rw [if_pos hm.1]; exact r.ov⟩
    · rw [if_neg hm] at h
      have nj : j ∉ vs := fun z => hm ⟨z, by rw [hl]; exact lt_get h⟩
      obtain ⟨v, e1, o⟩ := s.s j y (by rw [wipeM_get, if_neg (fun z => nj z.1)]; exact h)
      rw [wipe_get, if_neg (fun z => nj z.1)] at e1
      exact ⟨v, e1, by rw [if_neg nj]; exact o⟩
  · by_cases e : j ∈ vs
    · rw [if_pos e] at h; cases h
    · rw [if_neg e] at h; exact s.f j a h
  · by_cases e : j ∈ vs
    · rw [if_pos e] at h; exact (h rfl).elim
    · rw [if_neg e] at h; have := s.w j h; rw [wipeM_len] at this; rw [lb, hl]; exact this
  · by_cases e : j ∈ vs
    · rw [if_pos e] at h; cases h
    · rw [if_neg e] at h
      by_cases e2 : k ∈ vs
      · rw [if_pos e2]; simp
      · rw [if_neg e2]; exact s.d j k a hjk h
  · have := S.bor q hq
    rw [wipe_get, if_neg (fun z => hb q hq z.1)] at this
    exact this
end
section
variable {X : Cx} {c : Ct}
theorem gs_rd {F Hk H : Hp} {bp : List (Nat × Addr)} {vs0 : List Nat} (hb : ∀ q ∈ bp, q.1 ∉ vs0) : ∀ (is : List Nat) (xs : List MV) (ws : List V) (σ : St) (ρ ρ' : Env) (Q : St → Hp → Prop), (∀ i ∈ is, i ∈ vs0) → RS c.K F Hk H bp σ ρ → RVs c.K Hk xs ws → setAll is xs ρ = some ρ' →
    (∀ σ', RS c.K F Hk H bp σ' ρ' → wipe σ' vs0 = wipe σ vs0 → Q σ' H) → gsOf is ws σ H Q
  | [], [], ws, σ, ρ, ρ', Q, _, S, r, e, k => by
    cases e
    exact ⟨RVs.nil.mp r, k σ S rfl⟩
  | [], x :: xs, ws, σ, ρ, ρ', Q, _, S, r, e, k => by cases e
  | i :: is, [], ws, σ, ρ, ρ', Q, _, S, r, e, k => by cases e
  | i :: is, x :: xs, ws, σ, ρ, ρ', Q, hi, S, r, e, k => by
    obtain ⟨v, us, rfl, r1, r2⟩ := RVs.cons.mp r
    unfold setAll at e
    split at e
    · rename_i hl
      have hm := hi i (by simp)
      refine ⟨v, us, rfl, ?_⟩
      refine gs_rd hb is xs us _ _ ρ' Q (fun j hj => hi j (List.mem_cons_of_mem _ hj)) (S.set hl r1 fun q hq z => hb q hq (z ▸ hm)) r2 e fun σ' S' w => k σ' S' (by rw [w, wipe_set hm])
    · cases e
theorem g_rd {F Hk H : Hp} {bp : List (Nat × Addr)} {vs0 : List Nat} (hb : ∀ q ∈ bp, q.1 ∉ vs0) {t : Tgt} {x : MV} {v : V} {σ : St} {ρ ρ' : Env} {Q : St → Hp → Prop} (hi : ∀ i ∈ t.slots, i ∈ vs0) (S : RS c.K F Hk H bp σ ρ) (r : RV c.K Hk x v) (e : setT t x ρ = some ρ')
    (k : ∀ σ', RS c.K F Hk H bp σ' ρ' → wipe σ' vs0 = wipe σ vs0 → Q σ' H) : gOf c.K t v σ H Q := by
  cases t with
  | nm i =>
    have e : (if i < ρ.length then some (ρ.set i (some x)) else none) = some ρ' := e
    split at e
    · rename_i hl
      cases e
      have hm := hi i (by simp [Tgt.slots])
      exact k _ (S.set hl r fun q hq z => hb q hq (z ▸ hm)) (wipe_set hm)
    · cases e
  | tp is =>
    cases x with
    | tup xs =>
      have e : (if xs.length = is.length then setAll is xs ρ else none) = some ρ' := e
      split at e
      · rename_i hl
        obtain ⟨a, ws, rfl, h1, s1⟩ := RV.tup.mp r
        exact ⟨a, ws, rfl, ex_t S.ex h1, by rw [s1.length, hl], gs_rd hb is xs ws σ ρ ρ' Q hi S s1 e k⟩
      · cases e
    | _ => cases e
def Res.b0 {α β : Type} (r : Res (α × Env)) (f : α → Env → Res (β × Env)) : Res (β × Env) :=
  match r with
  | .ok (x, ρ) => f x ρ
  | _ => .stuck
def mLcLoop (g : Tgt) (t : MT) (e : ME) (vs : List Nat) : List MV → List MV → Env → Res (List MV × Env)
  | [], acc, ρ => .ok (acc, ρ)
  | x :: xs, acc, ρ => match setT g x (wipeM ρ vs) with
    | none => .stuck
    | some ρ1 => (t ρ1).b0 fun b ρ2 => if b then (e ρ2).b0 fun y ρ3 => (if acc.length < sizeLine ∧ ρ3.length = ρ.length then mLcLoop g t e vs xs (acc ++ [y]) ρ3 else .stuck) else if ρ2.length = ρ.length then mLcLoop g t e vs xs acc ρ2 else .stuck
def mYes : MT := fun ρ => .ok (true, ρ)
def mLcO (it : MI) (g : Tgt) (t : MT) (e : ME) (vs : List Nat) : ME := fun ρ => (it ρ).bind fun xs ρ1 => if perAt ρ1 vs then (mLcLoop g t e vs xs [] ρ1).b0 fun ys ρ2 => .ok (.own ys, backM ρ1 ρ2 vs) else .stuck
theorem b0E {F Hk H : Hp} {bp : List (Nat × Addr)} {σ : St} {ρ : Env} {β : Type} {P : Hp → Res (β × Env) → Prop} (st : ∀ Hk, ¬ P Hk .stuck) (mo : ∀ Hk Hk' r, Ex Hk Hk' → P Hk r → P Hk' r) {a : ME} {k : MV → Env → Res (β × Env)} (S : At c F Hk H bp σ ρ) (h : P Hk ((a ρ).b0 k)) :
    rdE c a σ H fun v H1 => ∃ Hk1 x ρ1, Ex Hk Hk1 ∧ At c F Hk1 H1 bp σ ρ1 ∧ RV c.K Hk1 x v ∧ P Hk1 (k x ρ1) := by
  refine ⟨F, Hk, bp, ρ, S, ?_⟩
  cases e : a ρ with
  | stuck => rw [e] at h; exact st _ h
  | exc x ρ' => rw [e] at h; exact (st _ h).elim
  | ok q =>
    rw [e] at h
    exact fun Hk1 H1 v x1 S1 r1 => ⟨Hk1, q.1, q.2, x1, ⟨S1, S.2⟩, r1, mo _ _ _ x1 h⟩
theorem b0T {F Hk H : Hp} {bp : List (Nat × Addr)} {σ : St} {ρ : Env} {β : Type} {P : Hp → Res (β × Env) → Prop} (st : ∀ Hk, ¬ P Hk .stuck) (mo : ∀ Hk Hk' r, Ex Hk Hk' → P Hk r → P Hk' r) {a : MT} {k : Bool → Env → Res (β × Env)} (S : At c F Hk H bp σ ρ) (h : P Hk ((a ρ).b0 k)) :
    rdT c a σ H fun b H1 => ∃ Hk1 ρ1, Ex Hk Hk1 ∧ At c F Hk1 H1 bp σ ρ1 ∧ P Hk1 (k b ρ1) := by
  refine ⟨F, Hk, bp, ρ, S, ?_⟩
  cases e : a ρ with
  | stuck => rw [e] at h; exact st _ h
  | exc x ρ' => rw [e] at h; exact (st _ h).elim
  | ok q =>
    rw [e] at h
    exact fun Hk1 H1 x1 S1 => ⟨Hk1, q.2, x1, ⟨S1, S.2⟩, mo _ _ _ x1 h⟩
def okB (c : Ct) (F Hk : Hp) (bp : List (Nat × Addr)) (σ : St) (Q : VK) (ρ0 : Env) (vs : List Nat) : Res (List MV × Env) → Prop
  | .ok (ys, ρ') => okO c F Hk bp σ Q (.ok (.own ys, backM ρ0 ρ' vs))
  | _ => False
theorem okB.mono {F Hk Hk' : Hp} {bp : List (Nat × Addr)} {σ : St} {Q : VK} {ρ0 : Env} {vs : List Nat} {r : Res (List MV × Env)} (x : Ex Hk Hk') (h : okB c F Hk bp σ Q ρ0 vs r) : okB c F Hk' bp σ Q ρ0 vs r := by
  cases r with
  | ok a => exact okO.mono (r := .ok (.own a.1, backM ρ0 a.2 vs)) x h
  | exc e ρ => exact h
  | stuck => exact h
theorem RS.inFr {K : PySem.W.Frag} {F Hk H : Hp} {bp : List (Nat × Addr)} {σ : St} {ρ : Env} {D : Addr} {xs : List V} (S : RS K F Hk H bp σ ρ) (h : H D = none) : RS K (upd F D (.lst xs)) Hk (upd H D (.lst xs)) bp σ ρ := by
  have S' := S.more (o := .lst xs) h
  obtain ⟨ow, s⟩ := S.ow
  refine ⟨S.len, S'.ex, S.fr.both h, fun a o ha => ?_, ⟨ow, fun i x hx => ?_, fun i a ha => ?_, s.w, s.d⟩, S.bor⟩
  · by_cases e : a = D
    · rw [e]; exact S.ex.back h
    · rw [upd_ne e] at ha; exact S.frk a o ha
  · obtain ⟨v, ev, o⟩ := s.s i x hx
    exact ⟨v, ev, o.move (Ex.refl _) fun a ha u hu => by rw [upd_ne (ne_of_none hu h)]; exact hu⟩
  · obtain ⟨g1, g2, o, g3⟩ := s.f i a ha
    have ne := ne_of_none g3 h
    exact ⟨g1, by rw [upd_ne ne]; exact g2, o, by rw [upd_ne ne]; exact g3⟩
theorem RS.grow {K : PySem.W.Frag} {F Hk H : Hp} {bp : List (Nat × Addr)} {σ : St} {ρ : Env} {D : Addr} {xs ys : List V} (S : RS K (upd F D (.lst xs)) Hk H bp σ ρ) : RS K (upd F D (.lst ys)) Hk (upd H D (.lst ys)) bp σ ρ := by
  have hk : Hk D = none := S.frk D _ upd_same
  obtain ⟨ow, s⟩ := S.ow
  have nd : ∀ i a, a ∈ ow i → a ≠ D := fun i a ha e => by
    have := (s.f i a ha).2.1
    rw [e, upd_same] at this
    cases this
  refine ⟨S.len, S.ex.mut hk, fun a o ha => ?_, fun a o ha => ?_, ⟨ow, fun i x hx => ?_, fun i a ha => ?_, s.w, s.d⟩, S.bor⟩
  · by_cases e : a = D
    · subst e; rw [upd_same] at ha ⊢; exact ha
    · rw [upd_ne e] at ha ⊢; exact S.fr a o (by rw [upd_ne e]; exact ha)
  · by_cases e : a = D
    · rw [e]; exact hk
    · rw [upd_ne e] at ha; exact S.frk a o (by rw [upd_ne e]; exact ha)
  · obtain ⟨v, ev, o⟩ := s.s i x hx
    exact ⟨v, ev, o.move (Ex.refl _) fun a ha u hu => by rw [upd_ne (nd i a ha)]; exact hu⟩
  · obtain ⟨g1, g2, o, g3⟩ := s.f i a ha
    exact ⟨g1, by have := nd i a ha; rw [upd_ne this] at g2 ⊢; exact g2, o, by rw [upd_ne (nd i a ha)]; exact g3⟩
theorem RS.outFr {K : PySem.W.Frag} {F Hk H : Hp} {bp : List (Nat × Addr)} {σ : St} {ρ : Env} {D : Addr} {vs : List V} {xs : List MV} (S : RS K (upd F D (.lst vs)) Hk H bp σ ρ) (hF : F D = none) (r : RVs K Hk xs vs) : RS K F Hk H bp (σ ++ [some (.ref D)]) (ρ ++ [some (.own xs)]) := by
  have hk : Hk D = none := S.frk D _ upd_same
  have hH : H D = some (.lst vs) := S.fr D _ upd_same
  have up : ∀ a o, F a = some o → upd F D (.lst vs) a = some o := fun a o ha => by rw [upd_ne (ne_of_none ha hF)]; exact ha
  obtain ⟨ow, s⟩ := S.ow
  have nd : ∀ i a, a ∈ ow i → a ≠ D := fun i a ha e => by
    have := (s.f i a ha).2.1
    rw [e, upd_same] at this
    cases this
  have s' : SL K F Hk H ow σ ρ := ⟨s.s, fun i a ha => by
    obtain ⟨g1, g2, g3⟩ := s.f i a ha
    exact ⟨g1, by rw [upd_ne (nd i a ha)] at g2; exact g2, g3⟩, s.w, s.d⟩
  refine ⟨by simp [S.len], S.ex, fun a o ha => S.fr a o (up a o ha), fun a o ha => S.frk a o (up a o ha), ⟨_, s'.push S.len (A := [D]) (OV.own.mpr ⟨D, vs, rfl, rfl, hH, r⟩) (fun a ha => ?_) (fun i a ha hi => ?_)⟩, S.bor_app _⟩
  · simp at ha; subst ha; exact ⟨hk, hF⟩
  · simp at ha; subst ha; exact nd i a hi rfl
theorem rd_lc {it : MI} {g : Tgt} {t : MT} {e : ME} {vs : List Nat} {σ : St} {H : Hp} {Q : VK} (hg : ∀ i ∈ g.slots, i ∈ vs) (hbs : ∀ i ∈ vs, c.bs.contains i = false) (h : rdO c (mLcO it g t e vs) σ H Q) : tLc (rdI c it) (gOf c.K g) (rdT c t) (rdE c e) vs σ H Q := by
  obtain ⟨F, Hk, bp, ρ, S, h⟩ := h
  have hb : ∀ q ∈ bp, q.1 ∉ vs := fun q hq z => nb S.2.1 (hbs _ z) q hq rfl
  refine ⟨F, Hk, bp, ρ, S, ?_⟩
  have h : okO c F Hk bp σ Q ((it ρ).bind fun xs ρ1 => if perAt ρ1 vs then (mLcLoop g t e vs xs [] ρ1).b0 fun ys ρ2 => .ok (.own ys, backM ρ1 ρ2 vs) else .stuck) := h
  cases ei : it ρ with
  | stuck => rw [ei] at h; exact h
  | exc x ρ' => rw [ei] at h; exact h
  | ok p =>
    obtain ⟨xs, ρ1⟩ := p
    rw [ei] at h
    intro Hk1 H1 J x1 S1 wk D hD
    have h : okO c F Hk1 bp σ Q (if perAt ρ1 vs then (mLcLoop g t e vs xs [] ρ1).b0 fun ys ρ2 => .ok (.own ys, backM ρ1 ρ2 vs) else .stuck) := okO.mono x1 h
    split at h
    · rename_i hper
      have h : okB c F Hk1 bp σ Q ρ1 vs (mLcLoop g t e vs xs [] ρ1) := by
        cases e2 : mLcLoop g t e vs xs [] ρ1 with
        | ok q => rw [e2] at h; exact h
        | exc x r => rw [e2] at h; exact h
        | stuck => rw [e2] at h; exact h
      have fD : F D = none := by
        cases e : F D with
        | none => rfl
        | some o => have := S1.fr D o e; rw [hD] at this; cases this
      have p0 : ∀ i ∈ vs, ∀ x, ρ1[i]? = some (some x) → ∃ v, σ[i]? = some (some v) ∧ RV c.K Hk1 x v := fun i hi x hx => by
        have z := List.all_eq_true.mp hper i hi
        rw [hx] at z
        exact S1.get hx z
      refine ⟨fun i m H' => m = xs.length - i ∧ i ≤ xs.length ∧ ∃ Hk' ρ' acc ws, Ex Hk1 Hk' ∧ RS c.K (upd F D (.lst ws)) Hk' H' bp (wipe σ vs) (wipeM ρ' vs) ∧ RVs c.K Hk' acc ws ∧ ρ'.length = ρ1.length ∧ okB c F Hk' bp σ Q ρ1 vs (mLcLoop g t e vs (xs.drop i) acc ρ'),
        ⟨xs.length, by simp, Nat.zero_le _, Hk1, ρ1, [], [], Ex.refl _, (S1.wipe vs hb).inFr hD, RVs.nil.mpr rfl, rfl, h⟩, ?_⟩
      rintro i m H' ⟨rfl, hi, Hk', ρ', acc, ws, x', S', ra, hl, h'⟩
      by_cases hlt : i < xs.length
      · refine .inr ⟨wk.go i H' (x'.trans S'.ex) hlt, fun H2 => ∃ Hk2 ρ2 acc2 ws2, Ex Hk1 Hk2 ∧ RS c.K (upd F D (.lst ws2)) Hk2 H2 bp (wipe σ vs) (wipeM ρ2 vs) ∧ RVs c.K Hk2 acc2 ws2 ∧ ρ2.length = ρ1.length ∧ okB c F Hk2 bp σ Q ρ1 vs (mLcLoop g t e vs (xs.drop (i + 1)) acc2 ρ2),
          fun H2 z => ⟨xs.length - (i + 1), by omega, rfl, hlt, z⟩, fun x H2 y => ?_⟩
        obtain ⟨z, ez, hz⟩ := wk.yld i H' x H2 (x'.trans S'.ex) hlt y
        have ed : xs.drop i = z :: xs.drop (i + 1) := by
          rw [List.drop_eq_getElem_cons hlt]
          rw [List.getElem?_eq_getElem hlt] at ez
          cases ez; rfl
        rw [ed] at h'
        have st : ∀ Hk, ¬ okB c F Hk bp σ Q ρ1 vs .stuck := fun _ f => f
        have mo : ∀ Hk Hk' r, Ex Hk Hk' → okB c F Hk bp σ Q ρ1 vs r → okB c F Hk' bp σ Q ρ1 vs r := fun _ _ _ x h => okB.mono x h
        have fin : ∀ Hk3, Ex Hk' Hk3 → RS c.K (upd F D (.lst ws)) Hk3 H2 bp (wipe σ vs) (wipeM ρ' vs) → RV c.K Hk3 z x →
            gOf c.K g x (wipe σ vs) H2 fun σ2 H2 => wipe σ2 vs = wipe σ vs ∧ rdT c t σ2 H2 fun b H3 => if b = true then rdE c e σ2 H3 fun y H4 => ∃ acc, H4 D = some (.lst acc) ∧ acc.length < sizeLine ∧
              (∃ Hk2 ρ2 acc2 ws2, Ex Hk1 Hk2 ∧ RS c.K (upd F D (.lst ws2)) Hk2 (upd H4 D (.lst (acc ++ [y]))) bp (wipe σ vs) (wipeM ρ2 vs) ∧ RVs c.K Hk2 acc2 ws2 ∧ ρ2.length = ρ1.length ∧ okB c F Hk2 bp σ Q ρ1 vs (mLcLoop g t e vs (xs.drop (i + 1)) acc2 ρ2)) else
              ∃ Hk2 ρ2 acc2 ws2, Ex Hk1 Hk2 ∧ RS c.K (upd F D (.lst ws2)) Hk2 H3 bp (wipe σ vs) (wipeM ρ2 vs) ∧ RVs c.K Hk2 acc2 ws2 ∧ ρ2.length = ρ1.length ∧ okB c F Hk2 bp σ Q ρ1 vs (mLcLoop g t e vs (xs.drop (i + 1)) acc2 ρ2) := fun Hk3 x3 S3 r3 => by
          have h' := okB.mono x3 h'
          unfold mLcLoop at h'
          cases eg : setT g z (wipeM ρ' vs) with
          | none => rw [eg] at h'; exact h'.elim
          | some ρ3 =>
            rw [eg] at h'
            refine g_rd hb hg S3 r3 eg fun σ2 S4 w2 => ⟨by rw [w2, wipe_wipe], ?_⟩
            have w2' : wipe σ2 vs = wipe σ vs := by rw [w2, wipe_wipe]
            refine rdTw (b0T st mo ⟨S4, S.2.1, c.Jm _ _ _ (Ex.new fD) S.2.2⟩ h') fun b H3 ⟨Hk4, ρ4, x4, S5, h5⟩ => ?_
            cases b with
            | true =>
              rw [if_pos rfl] at h5 ⊢
              refine rdw (b0E st mo S5 h5) fun y H4 ⟨Hk5, yy, ρ5, x5, S6, r6, h6⟩ => ?_
              split at h6
              · rename_i hz
                have ra' := ra.mono (x3.trans (x4.trans x5))
                refine ⟨ws, S6.1.fr D _ upd_same, by rw [ra'.length]; exact hz.1, Hk5, ρ5, acc ++ [yy], ws ++ [y], x'.trans (x3.trans (x4.trans x5)), ?_, ra'.append (RVs.cons.mpr ⟨y, [], rfl, r6, RVs.nil.mpr rfl⟩), by rw [hz.2, hl], h6⟩
                have := (S6.1.wipe vs hb)
                rw [w2'] at this
                exact this.grow
              · exact h6.elim
            | false =>
              rw [if_neg (by decide)] at h5 ⊢
              split at h5
              · rename_i hz
                refine ⟨Hk4, ρ4, acc, ws, x'.trans (x3.trans x4), ?_, ra.mono (x3.trans x4), by rw [hz, hl], h5⟩
                have := (S5.1.wipe vs hb)
                rw [w2'] at this
                exact this
              · exact h5.elim
        rcases hz with ⟨rfl, r⟩ | ⟨p, us, ys, hp, rfl, rfl, rfl, r⟩
        · exact fin Hk' (Ex.refl _) S' (RV.mono x' _ _ r)
        · have xn := Ex.new (o := .tup us) (S'.ex.back hp)
          exact fin _ xn (S'.new hp) (RV.tup.mpr ⟨p, us, rfl, SqT.of upd_same, r.mono (x'.trans xn)⟩)
      · have e : i = xs.length := by omega
        subst e
        rw [List.drop_length] at h'
        refine .inl ⟨wk.stop H' (x'.trans S'.ex), ?_⟩
        have out := S'.outFr fD ra
        have bk : RS c.K (upd F D (.lst ws)) Hk' H' bp σ (backM ρ1 ρ' vs) := RS.back S' (fun i hi x hx => by
          obtain ⟨v, ev, rv⟩ := p0 i hi x hx
          exact ⟨v, ev, RV.mono x' _ _ rv⟩) hl.symm S1.len hb
        exact h' _ _ _ (Ex.refl _) (bk.outFr fD ra)
    · exact h.elim
end
end Tm
set_option Elab.async false
set_option linter.all false
set_option maxRecDepth 100000
set_option maxHeartbeats 2000000
namespace Tm
open PySem L2
theorem hbs_of {bs vs : List Nat} (h : (vs.all fun v => !bs.contains v) = true) : ∀ i ∈ vs, bs.contains i = false := fun i hi => by
  have := List.all_eq_true.mp h i hi
  simpa using this
open Evl (Ex ex_rd ex_l ex_t)
section
variable {X : Cx} {c : Ct} {elt tg iter : Expr} {ifs : List Expr} {scope : Scope} {own : List (Str × Nat)} {pos : Pos} {it : MI} {g : Tgt} {t : MT} {e : ME}
theorem mts_nil : PTs X [] (rdT c mYes) := ⟨fun pins s σ H Q I ⟨F, Hk, bp, ρ, S, h⟩ => pts_nil.run pins s σ H Q I (h _ _ (Ex.refl _) S.1)⟩
theorem mts_one {a : Expr} (h : PT X a (rdT c t)) : PTs X [a] (rdT c t) := pts_one h
theorem mo_lc (hc : X.calm = true) (hN : X.N.Nodup) (hi : PI X tg iter (rdI c it)) (ok : BlkOk X.N X.env.scope scope own) (hg : ∀ (s : Shared) (H : Hp) (C : Addr) (cl : List (Str × Addr)) (fp : List Addr), PG (X.blk s H scope (compEnvC scope cl C X.env) fp) tg (gOf X.K g))
    (ht : ∀ (s : Shared) (H : Hp) (C : Addr) (cl : List (Str × Addr)) (fp : List Addr), PTs (X.blk s H scope (compEnvC scope cl C X.env) fp) ifs (rdT c t)) (he : ∀ (s : Shared) (H : Hp) (C : Addr) (cl : List (Str × Addr)) (fp : List Addr), PE (X.blk s H scope (compEnvC scope cl C X.env) fp) elt (rdE c e))
    (hgs : ∀ i ∈ g.slots, i ∈ own.map (·.2) := by decide) (hbs : ∀ i ∈ own.map (·.2), c.bs.contains i = false := by decide) (hK : c.K = X.K := by rfl) (hs : ∀ x, foldedSetIterable iter X.env x = pure x := by intro _; rfl) :
    PE X (.ListComp elt [⟨tg, iter, ifs, 0⟩] scope pos) (rdO c (mLcO it g t e (own.map (·.2)))) := PEw (pe_lc hc hN hi ok hg ht he hs) fun σ H Q h => by rw [← hK]; exact rd_lc hgs hbs h
theorem ms_setLc {i : Nat} {y : Str} {py spos : Pos} (hc : X.calm = true) (hN : X.N.Nodup) (hy : X.N[i]? = some y) (hyl : X.env.scope.names.lookup y = some .local) (hsw : swapsWith (.ListComp elt [⟨tg, iter, ifs, 0⟩] scope pos) (some (.Name y py)) spos.line X.env = pure true)
    (hi : PI X tg iter (rdI c it)) (ok : BlkOk X.N X.env.scope scope own) (hg : ∀ (s : Shared) (H : Hp) (C : Addr) (cl : List (Str × Addr)) (fp : List Addr), PG (X.blk s H scope (compEnvC scope cl C X.env) fp) tg (gOf X.K g))
    (ht : ∀ (s : Shared) (H : Hp) (C : Addr) (cl : List (Str × Addr)) (fp : List Addr), PTs (X.blk s H scope (compEnvC scope cl C X.env) fp) ifs (rdT c t)) (he : ∀ (s : Shared) (H : Hp) (C : Addr) (cl : List (Str × Addr)) (fp : List Addr), PE (X.blk s H scope (compEnvC scope cl C X.env) fp) elt (rdE c e))
    (hb : c.bs.contains i = false := by rfl) (hgs : ∀ i ∈ g.slots, i ∈ own.map (·.2) := by decide) (hbs : ∀ i ∈ own.map (·.2), c.bs.contains i = false := by decide) (hK : c.K = X.K := by rfl) (hs : ∀ x, foldedSetIterable iter X.env x = pure x := by intro _; rfl) :
    PS X (.Assign [.Name y py] (.ListComp elt [⟨tg, iter, ifs, 0⟩] scope pos) spos) (rdS c (mSetO i (mLcO it g t e (own.map (·.2))))) := PSw (ps_setLc hc hN hy hyl hsw hi ok hg ht he hs) fun D σ H h => by
    obtain ⟨F, Hk, bp, ρ, S, h⟩ := rd_setO hb h
    rw [← hK]
    exact rd_lc hgs hbs ⟨F, Hk, bp, ρ, S, h⟩
end
theorem only_rs {K : PySem.W.Frag} {H : Hp} {a : Addr} {ns : List Int} (h : SqL K H a (ns.map V.int)) : RS K (fun _ => none) H H [] ([V.ref a].map some) ([MV.scr ns].map some) :=
  RS.args (Ex.refl _) (fun _ _ z => nomatch z) (fun _ _ z => nomatch z) (RVs.cons.mpr ⟨_, [], rfl, RV.scr.mpr ⟨a, rfl, h⟩, RVs.nil.mpr rfl⟩)
theorem walk_law {l : PySem.W.OpenLaw} {k : Nat} {q : Program} {loose : List Str} {XP : (Str → Option Value) → Heap → Prop} {YP : World → Heap → Prop} {d : DefRec} {K : Params → PySem.W.Frag} {x : Str} {f : MF}
    (hn : l.most = some 63) (hdf : d.params.defaults = []) (hr : Room k callerA) (hY : ∀ (w : World) (h : Heap), YP w h → (K w.params).In h)
    (hf : ∀ ns : List Int, ns.length ≤ 63 → ∃ bs, f [.scr ns] = .ok (.bl true, bs))
    (F : ∀ (w : World) (mg : Str → Option Value) (fa : Addr) (h : Heap), (K w.params).In h → h.Ns mainGlobals mg → mg d.name = some (.ref fa) →
      ∃ fd : FuncData, (∀ (s : Shared) (u : Value), BindsTo s fd ⟨[u], []⟩ [(x, u)]) ∧
        ∀ base : Heap, (K w.params).In base → base.Ns mainGlobals mg → FnOk l.prog w (K w.params) mg base (L2N.CX l.prog w) k fa fd [x] (spF (K w.params) mg 1 [] f)) :
    PySem.W.WalkO q loose XP YP l.row.toRowW d [] (fun f vs => PySem.call f vs) := by
  refine L2.walk_of (x := x) (K := K) (CX := fun w => L2N.CX l.prog w) (sp := fun w vs H Q E => ∃ (a : Addr) (ns : List Int), vs = [.ref a] ∧ ns.length ≤ 63 ∧ SqL (K w.params) H a (ns.map V.int) ∧ ∀ H', Q (.bl true) H') hn (by rw [sizeLine_eq]; decide) hdf hr hY (fun w mg fa h KX G hmg => ?_) (fun w H a ns hl _ hS => ⟨a, ns, rfl, hl, hS, fun _ => rfl⟩) ?_
  · obtain ⟨fd, hb, hF⟩ := F w mg fa h KX G hmg
    refine ⟨fd, hb, fun base h1 h2 => (hF base h1 h2).imp ?_⟩
    rintro vs H Q E ⟨a, ns, rfl, hl, hS, q⟩
    obtain ⟨bs, e⟩ := hf ns hl
    refine ⟨rfl, fun _ => none, H, [], [.scr ns], only_rs hS, rfl, ?_⟩
    rw [e]
    intro Hk' H' w x S'
    have bl : bs.length = 0 := by have := S'.len; simpa using this.symm
    have be : bs = [] := List.eq_nil_of_length_eq_zero bl
    subst be
    obtain ⟨v, ev, rv⟩ := S'.get (i := 0) (x := .bl true) rfl rfl
    cases ev
    rw [RV.bl.mp rv]
    exact q _
  · rintro w H s e s' ⟨_, _, _, _, _, _, _, _, _, _, _, _, f⟩
    exact f
structure Fd (P : Program) (w : World) (K : PySem.W.Frag) (mg : Str → Option Value) (base : Heap) (x : Str) (k : Nat) (ps : List Str) (bs : List Nat) (f : MF) : Prop where
  ex : ∃ (a : Addr) (fd : FuncData), FnOk P w K mg base (L2N.CX P w) k a fd ps (spF K mg ps.length bs f) ∧ mg x = some (.ref a) ∧ PySem.W.keepIn K (.ref a) = true ∧ Binds K fd ps []
structure Bn (mg : Str → Option Value) : Prop where
  len : mg "len" = none
  range : mg "range" = none
  abs : mg "abs" = none
  max : mg "max" = none
  min : mg "min" = none
  int : mg "int" = none
  str : mg "str" = none
  tuple : mg "tuple" = none
  list : mg "list" = none
  all : mg "all" = none
  any : mg "any" = none
  isinstance : mg "isinstance" = none
  divmod : mg "divmod" = none
  sum : mg "sum" = none
  zip : mg "zip" = none
  enumerate : mg "enumerate" = none
  reversed : mg "reversed" = none
  sorted : mg "sorted" = none
  dict : mg "dict" = none
  set : mg "set" = none
  bool : mg "bool" = none
section
variable {X : Cx} {c : Ct} {k : Nat} {ps : List Str} {x : Str} {p pos : Pos} {e : Expr} {es : List Expr} {f : MF} {a : MA} {j : Nat}
theorem mf_call (G : Fd X.prog X.w X.K X.mg X.base x k ps [] f) (hr : Room j X.A) (hj : k ≤ j) (tk : L2N.Takes X c.W) (ha : PA X (e :: es) (rdA c a)) (hn : Lng a ps.length) (hg : Gl X x := by rfl) (hK : c.K = X.K := by rfl) (hM : c.mg = X.mg := by rfl) (hdb : (x == ("__debug__" : Str)) = false := by decide)
    (he : starEach (e :: es) X.env = (false, eval e X.env) :: starEach es X.env := by rfl) (hpl : (backTo pos (starEach es X.env)).any (·.1) = false := by rfl) : PE X (.Call (.Name x p) (e :: es) [] pos) (rdO c (mCall f a)) := by
  obtain ⟨fa, fd, F, hm, hk, hb⟩ := G.ex
  exact mo_call F (hr.mono hj) hm hk hb tk ha hn hg hK hM hdb he hpl
theorem mf_call0 (G : Fd X.prog X.w X.K X.mg X.base x k ps [] f) (hr : Room j X.A) (hj : k ≤ j) (ha : PA X (e :: es) (rdA c a)) (hn : Lng a ps.length) (hg : Gl X x := by rfl) (hK : c.K = X.K := by rfl) (hM : c.mg = X.mg := by rfl) (hdb : (x == ("__debug__" : Str)) = false := by decide)
    (he : starEach (e :: es) X.env = (false, eval e X.env) :: starEach es X.env := by rfl) (hpl : (backTo pos (starEach es X.env)).any (·.1) = false := by rfl) : PE X (.Call (.Name x p) (e :: es) [] pos) (rdO c (mCall0 f a)) := by
  obtain ⟨fa, fd, F, hm, hk, hb⟩ := G.ex
  exact mo_call0 F (hr.mono hj) hm hk hb ha hn hg hK hM hdb he hpl
end
end Tm
set_option Elab.async false
set_option linter.all false
set_option maxRecDepth 100000
set_option maxHeartbeats 2000000
namespace Tm
open PySem L2
open Evl (Ex ex_rd ex_l ex_t)
def Cst (K : PySem.W.Frag) (mg : Str → Option Value) (x : Str) (v : MV) : Prop := ∃ w u, mg x = some u ∧ RelV w u ∧ ∀ H, RV K H v w
section
variable {X : Cx} {c : Ct} {x : Str} {pos : Pos}
theorem mf_con {v : MV} (h : Cst X.K X.mg x v) (hg : Gl X x := by rfl) (hK : c.K = X.K := by rfl) (hd : (x == ("__debug__" : Str)) = false := by decide) : PE X (.Name x pos) (rdE c (mC v)) := by
  obtain ⟨w, u, hm, rv, r⟩ := h
  exact me_glob hm rv (by rw [hK]; exact r) hg hd
end
theorem cst_int {K : PySem.W.Frag} {mg : Str → Option Value} {x : Str} {i : Int} {t : Tok} (h : mg x = some (.int i t)) : Cst K mg x (.int i) := ⟨.int i, _, h, ⟨t, rfl⟩, fun _ => RV.int.mpr rfl⟩
theorem cst_str {K : PySem.W.Frag} {mg : Str → Option Value} {x : Str} {i : Str} {t : Tok} (h : mg x = some (.str i t)) : Cst K mg x (.str i) := ⟨.str i, _, h, ⟨t, rfl⟩, fun _ => RV.str.mpr rfl⟩
def flatIs : MV → Value → Bool
  | .int i, .int j _ => i == j
  | .str i, .str j _ => i == j
  | .non, .none => true
  | .bl a, .bool b => a == b
  | _, _ => false
end Tm
set_option Elab.async false
set_option linter.all false
set_option maxRecDepth 100000
set_option maxHeartbeats 2000000
namespace Tm
open PySem L2
open Evl (Ex ex_rd ex_l ex_t)
theorem blkOk_at {N N' : List Str} {sc sc' bs : Scope} {own : List (Str × Nat)} (hN : N = N') (hs : sc = sc') (h : blkC N' sc' bs own = true) : BlkOk N sc bs own := by
  subst hN hs
  exact blkOk_by h
end Tm
set_option Elab.async false
set_option linter.all false
set_option maxRecDepth 100000
set_option maxHeartbeats 2000000
namespace Tm
open PySem L2 PySem.Spec PyProof.Rows
open Evl (Ex ex_rd ex_l ex_t)
structure Bas (K : PySem.W.Frag) (mg : Str → Option Value) (y : Str) : Prop where
  ex : ∃ CL : Addr, mg y = some (.ref CL) ∧ PySem.W.readsIn K CL (.type "type") = true ∧ PySem.W.specialIn K (.ref CL) "__getattribute__" = some (some (.builtin "type.__getattribute__")) ∧ PySem.W.findCls K (.ref CL) (.type "type") "__init__" = some (.val (.builtin "ValueError.__init__"))
section
variable {X : Cx} {y : Str} {e : Expr} {es : List Expr} {ta : TA} {p1 p2 pos : Pos}
theorem pe_linit {pl : Sem Bool} (hg : Gl X y) (B : Bas X.K X.mg y) (ha : PA X (e :: es) ta)
    (hc : eval (.Call (.Attribute (.Name y p1) "__init__" p2) (e :: es) [] pos) X.env = (do
      let ov ← eval (.Name y p1) X.env
      standAt p2.atName
      let (f, first) ← holding [ov] (getMethod ov "__init__" pl)
      callWith pos f first (backTo pos (starEach (e :: es) X.env)) (backToKw pos (keywordEach [] X.env))) := by rfl)
    (hdb : (y == ("__debug__" : Str)) = false := by decide) (he : starEach (e :: es) X.env = (false, eval e X.env) :: starEach es X.env := by rfl) (hpl : (backTo pos (starEach es X.env)).any (·.1) = false := by rfl) :
    PE X (.Call (.Attribute (.Name y p1) "__init__" p2) (e :: es) [] pos) (tVeI X.K ta) := by
  obtain ⟨CL, hm, hr, hga, hf⟩ := B.ex
  refine ⟨fun pins s σ H Q I h => ?_⟩
  refine PySem.W.methodCall_KW (ld_glob I hg hm ?_ hdb) hc
  refine PySem.W.method_cls I.kIn hga (PySem.W.cls_value I.kIn hr hf (by decide +kernel) ?_)
  show wpAny _ _ (callWith pos (Value.builtin "ValueError.__init__") [] (backTo pos (starEach (e :: es) X.env)) []) _ _ _
  refine PyProof.Rows.callWith_method1 (thn (ha.run pos pins _ σ H _ (I.tok _) h) fun us s1 ⟨vs, H1, I1, r1, a, C, ws, ev, hl, T, ea, q⟩ => ?_) he hpl
  subst ev
  cases r1 with
  | @cons _ u0 _ ur ra rw' =>
    obtain rfl : u0 = Value.ref a := ra
    have hlen : ur.length ≤ sizeLine := by
      rw [← Paired.length rw', sizeLine_eq]
      omega
    exact oinit_ok T I1 ea hlen fun s' J => ⟨.non, H1, J, rfl, q⟩
end
structure OwX (K : PySem.W.Frag) (mg : Str → Option Value) (x : Str) (C fI : Addr) : Prop where
  T : OexC K C
  m : mg x = some (.ref C)
  iC : PySem.W.findIn K (.ref C) "__init__" = some (some (.ref fI))
  tI : PySem.W.typeIn K (.ref fI) = some (.type "function")
def spI1 (K : PySem.W.Frag) (f : Str) : Sp := fun vs H Q _ => ∃ (a C : Addr) (v : V), vs = [.ref a, v] ∧ OexC K C ∧ PySem.W.findIn K (.ref C) f = some none ∧ H a = some (exo a C none) ∧
  ∀ d, H d = none → d ≠ a → Q .non (upd (upd H d (exd d [(f, v)])) a (exo a C (some d)))
def spI2 (K : PySem.W.Frag) (f g : Str) : Sp := fun vs H Q _ => ∃ (a C : Addr) (v w : V), vs = [.ref a, v, w] ∧ OexC K C ∧ PySem.W.findIn K (.ref C) f = some none ∧ PySem.W.findIn K (.ref C) g = some none ∧ H a = some (exo a C none) ∧
  ∀ d, H d = none → d ≠ a → Q .non (upd (upd (upd H d (exd d [(f, v)])) a (exo a C (some d))) d (exd d [(g, w), (f, v)]))
section
variable {P : Program} {w : World} {K : PySem.W.Frag} {mg : Str → Option Value} {base : Heap}
theorem init1 {x qual y f p t : Str} {st : Stmt} {a : Addr} {fd : FuncData} {j : Nat} {p1 p2 p3 p4 p5 p6 q1 q2 q3 q4 : Pos} (F : Fun K x qual st a fd) (S : FnScope ["self", p] ["self", p] (defScope st)) (B : Bas K mg y)
    (hb : defBody st = [.Expr (.Call (.Attribute (.Name y p1) "__init__" p2) [.Name "self" p3, .Constant (.str t) j p4] [] p5) p6, .Assign [.Attribute (.Name "self" q1) f q2] (.Name p q3) q4])
    (hy : ∀ (L : Addr) (cd : Value), (envOfC qual (defScope st) L a cd).kindOf y = some NameKind.globalImplicit) (hs : (defScope st).names.lookup ("self" : Str) = some .local) (hp : (defScope st).names.lookup p = some .local)
    (hc : ∀ env : PySem.Env, ∃ pl : Sem Bool, eval (.Call (.Attribute (.Name y p1) "__init__" p2) [.Name "self" p3, .Constant (.str t) j p4] [] p5) env = (do
      let ov ← eval (.Name y p1) env
      standAt p2.atName
      let (f, first) ← holding [ov] (getMethod ov "__init__" pl)
      callWith p5 f first (backTo p5 (starEach [.Name "self" p3, .Constant (.str t) j p4] env)) (backToKw p5 (keywordEach [] env))))
    (hy1 : (y == ("__debug__" : Str)) = false) (hp1 : (p == ("__debug__" : Str)) = false) (hp2 : (p == ("__classdict__" : Str)) = false) :
    FnOk P w K mg base (L2N.CX P w) 2 a fd ["self", p] (spI1 K f) := by
  refine okXN F S (fun vs H Q E h => ?_) (fun cdv A outer s H vs Q E hr h => ?_)
  · obtain ⟨_, _, _, rfl, _⟩ := h
    rfl
  obtain ⟨b, C, v, rfl, T, hf, hH, hq⟩ := h
  have nd := S.nd
  have hself : PE (cxOf (L2N.CX P w) P w K mg base ["self", p] qual (defScope st) a cdv A outer s H E) (.Name "self" p3) (tVar 0) := pe_var (i := 0) rfl (.inl hs)
  have hself2 : PE (cxOf (L2N.CX P w) P w K mg base ["self", p] qual (defScope st) a cdv A outer s H E) (.Name "self" q1) (tVar 0) := pe_var (i := 0) rfl (.inl hs)
  have hpar : PE (cxOf (L2N.CX P w) P w K mg base ["self", p] qual (defScope st) a cdv A outer s H E) (.Name p q3) (tVar 1) := pe_var (i := 1) rfl (.inl hp) hp1 hp2
  obtain ⟨pl, hc⟩ := hc (cxOf (L2N.CX P w) P w K mg base ["self", p] qual (defScope st) a cdv A outer s H E).env
  have h1 := pe_linit (pl := pl) (e := .Name "self" p3) (es := [.Constant (.str t) j p4]) (pos := p5) (p1 := p1) (p2 := p2) (X := cxOf (L2N.CX P w) P w K mg base ["self", p] qual (defScope st) a cdv A outer s H E) (y := y) (hy _ _) B (pa_cons hself (pa_cons pe_str pa_nil)) (hc := hc) (hdb := hy1)
  refine ⟨_, by rw [hb]; exact pss_cons (ps_expr h1) (pss_cons (ps_ost hself2 hpar) pss_nil), ?_⟩
  exact ⟨.ref b, rfl, b, C, [.str t], rfl, by simp, T, hH, v, rfl, .ref b, rfl, b, C, rfl, T, hf, .inl ⟨hH, fun dx h1 h2 => hq dx h1 h2⟩⟩
end
section
variable {X : Cx} {e : Expr} {es : List Expr} {ta : TA} {p pos : Pos}
theorem pmk_oexN {CX : CXT} {x : Str} {C fI : Addr} {k : Nat} {fd : FuncData} {ps : List Str} {sp : Sp} {ds : List Value} {dvs : List V} (T : OexC X.K C) (iC : PySem.W.findIn X.K (.ref C) "__init__" = some (some (.ref fI))) (tI : PySem.W.typeIn X.K (.ref fI) = some (.type "function"))
    (F1 : FnOk X.prog X.w X.K X.mg X.base CX k fI fd ps sp) (hr : Room (k + 1) X.A) (hb : L2.Binds X.K fd ps ds) (hd : Vals dvs ds) (hx : Passes CX X (fun _ _ _ => False)) (hg : Gl X x) (hm : X.mg x = some (.ref C)) (ha : PA X (e :: es) ta)
    (hdb : (x == ("__debug__" : Str)) = false := by decide) (he : starEach (e :: es) X.env = (false, eval e X.env) :: starEach es X.env := by rfl) (hpl : (backTo pos (starEach es X.env)).any (·.1) = false := by rfl) :
    L2N.PMk X (.Call (.Name x p) (e :: es) [] pos) (tMkO C sp dvs ta) := fun pins s σ H Q I h => by
  obtain ⟨_, _, _, _, bm, _, _, _, _, _, _, _, _, _, _, look, hbm⟩ := T.cls
  refine wpAny_Call_Name_kw (ld_glob I hg hm ?_ hdb)
  refine PySem.W.callWith_K (h₀ := X.base) I.ok.mod.kin T.kC (thn (ha.run pos pins s σ H _ I h) fun us s1 q0 => ⟨q0.choose_spec.choose_spec.1.kIn, ?_⟩) he hpl
  obtain ⟨vs, G, J, r, hz, q⟩ := q0
  show wpAny _ _ (call (.ref C) us) _ _ _
  obtain ⟨hp, gs, dr, tk, os⟩ := s1
  obtain ⟨n, hn⟩ : ∃ n, hp.objs.size = n := ⟨_, rfl⟩
  have le1 : hp.objs.size ≤ n + 1 := by omega
  have sp1 := q (n + 1) (J.hok.fresh le1)
  have keep : ∀ b o, hp.get? b = some o → ((hp.push (PySem.W.kdv_tup us)).push (PySem.HandSPX.excO C n)).get? b = some o := fun b o z => Heap.get?_push_of_some _ (Heap.get?_push_of_some _ z)
  have there : ((hp.push (PySem.W.kdv_tup us)).push (PySem.HandSPX.excO C n)).get? (n + 1) = some (PySem.HandSPX.excO C n) := by subst hn; heap_get
  have J2 : Inv X pins σ (upd G (n + 1) (exo (n + 1) C none)) ⟨(hp.push (PySem.W.kdv_tup us)).push (PySem.HandSPX.excO C n), gs, dr, tk, os⟩ :=
    J.laid (t' := tk) (a := n + 1) (o := exo (n + 1) C none) (h' := (hp.push (PySem.W.kdv_tup us)).push (PySem.HandSPX.excO C n)) keep le1 (exo_ok there)
  have r2 : Vals (V.ref (n + 1) :: (vs ++ dvs)) (Value.ref (n + 1) :: (us ++ ds)) := .cons rfl (r.append hd)
  have len2 : (Value.ref (n + 1) :: us ++ ds).length = ps.length := (F1.len _ _ _ _ sp1 ▸ r2.length).symm
  have small : us.length ≤ sizeLine := by
    have := Paired.length r
    rw [sizeLine_eq]; omega
  subst hn
  refine wpAny_call (PySem.HandSPX.call_own F.excBase_ValueError (fun Y => PySem.HandSPX.refsVE_contains Y bm hbm) (J.kIn _ _ look) (PySem.W.looks_findIn J.kIn iC) (fun self => PySem.W.bind_fn J.kIn self tI) small (codeAny_mono
    (F1.run _ X.stack _ _ ⟨Value.ref (hp.objs.size + 1) :: us, []⟩ (Value.ref (hp.objs.size + 1) :: (us ++ ds)) _ _ (fun _ _ _ => False) (hr.make C us []) (J2.env0.make C us []) (hb _ (Value.ref (hp.objs.size + 1) :: us) J2.kIn len2) r2 sp1) fun z s' hq => ?_))
  match z, hq with
  | .error er, hq => exact hx pins σ _ _ er s' J2 hq
  | .ok (.ret u), hq =>
    obtain ⟨v, G2, o2, b2, un2, ok2, rv, rfl, d, fs, ea, ed, hd1, w⟩ := hq
    obtain ⟨h2, g2, d2, t2, _⟩ := s'
    obtain ⟨t0, B, JB, kB, gB, at2, na⟩ := mk_end0 (d2 := d2) (t2 := t2) J le1 keep un2 ok2 o2 b2 ea ed hd1
    exact ⟨rv, ⟨_, _, _, ⟨B, g2, d2, t2, _⟩, _, .ref C, some d, rfl, JB, kB, gB, at2, ⟨rfl, rfl, fun vs hv => by cases hv; rfl⟩, rfl, rfl, na, rfl, b2, raises_own T.exC T.tyC, w⟩⟩
  | .ok .next, hq => exact hq.elim
  | .ok .brk, hq => exact hq.elim
  | .ok .cont, hq => exact hq.elim
end
theorem made_heap {H1 : Hp} {a d : Addr} {o u z : HO} (ha : H1 a = none) (hd : d ≠ a) : upd (del (upd (upd (upd H1 a o) d u) a z) a) d = upd H1 d := by
  funext y b
  by_cases e1 : b = d
  · subst e1; rw [upd_same, upd_same]
  · rw [upd_ne e1, upd_ne e1]
    by_cases e2 : b = a
    · subst e2; rw [del_same, ha]
    · rw [del_ne e2, upd_ne e2, upd_ne e1, upd_ne e2]
section
variable {X : Cx} {c : Ct} {x f g : Str} {C fI : Addr} {k : Nat} {fd : FuncData} {ps : List Str} {W : WX}
theorem never {W : WX} (tk : L2N.Takes X W) : Passes (L2N.CX X.prog X.w) X (fun _ _ _ => False) := L2N.passes_call (E := fun _ _ _ => False) tk fun _ _ _ _ z => z.elim
def tMk1 (C : Addr) (f : Str) (ta : TA) : L2.St → Hp → XK → Prop := fun σ H Q => ta σ H fun vs H1 => ∃ v, vs = [v] ∧ ∀ d, H1 d = none → Q (.ref C) (some d) (upd H1 d (.xd [(f, v)]))
theorem pmk1 {e : Expr} {es : List Expr} {ta : TA} {p pos : Pos} (O : OwX X.K X.mg x C fI) (hf : PySem.W.findIn X.K (.ref C) f = some none) (F1 : FnOk X.prog X.w X.K X.mg X.base (L2N.CX X.prog X.w) k fI fd ps (spI1 X.K f)) (hr : Room (k + 1) X.A) (hb : L2.Binds X.K fd ps []) (tk : L2N.Takes X W) (hg : Gl X x) (ha : PA X (e :: es) ta)
    (hm : ∀ σ H Q Q', ta σ H Q → (∀ vs H1, Q vs H1 → Q' vs H1) → ta σ H Q')
    (hdb : (x == ("__debug__" : Str)) = false := by decide) (he : starEach (e :: es) X.env = (false, eval e X.env) :: starEach es X.env := by rfl) (hpl : (backTo pos (starEach es X.env)).any (·.1) = false := by rfl) :
    L2N.PMk X (.Call (.Name x p) (e :: es) [] pos) (tMk1 C f ta) := by
  have z := pmk_oexN (p := p) (ds := []) (dvs := []) O.T O.iC O.tI F1 hr hb .nil (never tk) hg O.m ha hdb he hpl
  intro pins s σ H Q I h
  refine z pins s σ H Q I (hm σ H _ _ h fun vs H1 ⟨v, ev, q⟩ => ?_)
  subst ev
  refine ⟨by simp, fun a ha => ⟨a, C, v, rfl, O.T, hf, upd_same, fun d hd hne => ⟨rfl, d, [(f, v)], upd_same, ?_, ?_, ?_⟩⟩⟩
  · rw [upd_ne hne, upd_same]
  · rw [upd_ne hne] at hd; exact hd
  · rw [made_heap ha hne]
    exact q d (by rw [upd_ne hne] at hd; exact hd)
end
end Tm
set_option Elab.async false
set_option linter.all false
set_option maxRecDepth 100000
set_option maxHeartbeats 2000000
namespace Tm
open PySem L2 PySem.Spec PyProof.Rows
open Evl (Ex ex_rd ex_l ex_t)
def NoX (H H' : Hp) : Prop := ∀ a o, H a = some o → (∀ fs, o ≠ .xd fs) → H' a = some o
theorem NoX.rdl {H H' : Hp} (e : NoX H H') {a : Addr} {xs : List V} (h : Rd H a (.lst xs)) : Rd H' a (.lst xs) := by
  rcases h with h | ⟨o, h⟩
  · exact Or.inl (e a _ h (fun _ z => nomatch z))
  · exact Or.inr ⟨o, e a _ h (fun _ z => nomatch z)⟩
theorem NoX.rdt {H H' : Hp} (e : NoX H H') {a : Addr} {xs : List V} (h : Rd H a (.tup xs)) : Rd H' a (.tup xs) := by
  rcases h with h | ⟨o, h⟩
  · exact Or.inl (e a _ h (fun _ z => nomatch z))
  · exact Or.inr ⟨o, e a _ h (fun _ z => nomatch z)⟩
mutual
theorem RV.sub {K : PySem.W.Frag} {H H' : Hp} (e : NoX H H') : ∀ (x : MV) (v : V), RV K H x v → RV K H' x v
  | .non, v, h => by unfold RV at h ⊢; exact h
  | .bl b, v, h => by unfold RV at h ⊢; exact h
  | .int i, v, h => by unfold RV at h ⊢; exact h
  | .str x, v, h => by unfold RV at h ⊢; exact h
  | .tup xs, v, h => by
    unfold RV at h ⊢
    obtain ⟨a, vs, e1, e2, e3⟩ := h
    exact ⟨a, vs, e1, e2.imp e.rdt id, RVs.sub e xs vs e3⟩
  | .lst xs, v, h => by
    unfold RV at h ⊢
    obtain ⟨a, vs, e1, e2, e3⟩ := h
    exact ⟨a, vs, e1, e _ _ e2 (fun _ z => nomatch z), RVs.sub e xs vs e3⟩
  | .own xs, v, h => by unfold RV at h; exact h.elim
  | .raw w, v, h => by unfold RV at h ⊢; exact h
  | .scr ns, v, h => by
    unfold RV at h ⊢
    obtain ⟨a, e1, e2⟩ := h
    exact ⟨a, e1, e2.imp e.rdl id⟩
  | .fnc x, v, h => by unfold RV at h ⊢; exact h
  | .obj C fs, v, h => by unfold RV at h; exact h.elim
  | .dct ks xs, v, h => by
    unfold RV at h ⊢
    obtain ⟨a, vs, e1, e2, e3, e4⟩ := h
    exact ⟨a, vs, e1, e _ _ e2 (fun _ z => nomatch z), e3, RVs.sub e xs vs e4⟩
  | .dow ks xs, v, h => by unfold RV at h; exact h.elim
  | .dot ks xs, v, h => by unfold RV at h; exact h.elim
theorem RVs.sub {K : PySem.W.Frag} {H H' : Hp} (e : NoX H H') : ∀ (xs : List MV) (vs : List V), RVs K H xs vs → RVs K H' xs vs
  | [], vs, h => by unfold RVs at h ⊢; exact h
  | x :: xs, vs, h => by
    unfold RVs at h ⊢
    obtain ⟨v, r, e1, e2, e3⟩ := h
    exact ⟨v, r, e1, RV.sub e x v e2, RVs.sub e xs r e3⟩
end
theorem OF.sub {K : PySem.W.Frag} {Hk Hk' H : Hp} {x : MV} {v : V} {A : List Addr} (e : NoX Hk Hk') (h : OF K Hk H x v A) : OF K Hk' H x v A := by
  cases x with
  | own xs =>
    unfold OF at h ⊢
    obtain ⟨p, vs, e1, e2, e3, e4⟩ := h
    exact ⟨p, vs, e1, e2, e3, RVs.sub e _ _ e4⟩
  | dow ks xs =>
    unfold OF at h ⊢
    obtain ⟨p, vs, e1, e2, e3, e5, e4⟩ := h
    exact ⟨p, vs, e1, e2, e3, e5, RVs.sub e _ _ e4⟩
  | dot ks xs =>
    unfold OF at h ⊢
    obtain ⟨p, vs, e1, e2, e3, e5, e4⟩ := h
    exact ⟨p, vs, e1, e2, e3, e5, RVs.sub e _ _ e4⟩
  | obj C fs => exact (show False by unfold OF at h; unfold RV at h; exact h.2).elim
  | _ =>
    unfold OF at h ⊢
    exact ⟨h.1, RV.sub e _ _ h.2⟩
theorem OFs.sub {K : PySem.W.Frag} {Hk Hk' H : Hp} (e : NoX Hk Hk') : ∀ {fs : List (Str × MV)} {vs : List (Str × V)} {A : List Addr}, OFs K Hk H fs vs A → OFs K Hk' H fs vs A
  | [], _, _, h => h
  | (n, x) :: fs, vs, A, h => by
    obtain ⟨v, r, B, C, e1, e2, h1, h2⟩ := h
    exact ⟨v, r, B, C, e1, e2, h1.sub e, OFs.sub e h2⟩
theorem OV.sub {K : PySem.W.Frag} {Hk Hk' H : Hp} {x : MV} {v : V} {A : List Addr} (e : NoX Hk Hk') (h : OV K Hk H x v A) : OV K Hk' H x v A := by
  cases x with
  | obj C fs =>
    unfold OV at h ⊢
    obtain ⟨p, CA, dx, vfs, B, e1, e2, e0, e3, e4, e5⟩ := h
    exact ⟨p, CA, dx, vfs, B, e1, e2, e0, e3, OFs.sub e e4, e5⟩
  | _ => (unfold OV at h ⊢; exact OF.sub e h)
section
variable {K : PySem.W.Frag} {F Hk H : Hp} {bp : List (Nat × Addr)} {σ : L2.St} {ρ : Env}
theorem SL.hole {ow : Nat → List Addr} (S : SL K F Hk H ow σ ρ) {i : Nat} (y : Option V) : SL K F Hk H (put ow i []) (σ.set i y) (ρ.set i none) := by
  refine ⟨fun j x h => ?_, fun j a h => ?_, fun j h => ?_, fun j k a hjk h => ?_⟩
  · rcases set_get h with ⟨_, e⟩ | ⟨ne, e⟩
    · cases e
    · obtain ⟨v, e1, o⟩ := S.s j x e
      refine ⟨v, by rw [List.getElem?_set_ne (Ne.symm ne)]; exact e1, ?_⟩
      unfold put
      rw [if_neg ne]; exact o
  · unfold put at h
    split at h
    · cases h
    · exact S.f j a h
  · unfold put at h
    split at h
    · exact absurd rfl h
    · rw [List.length_set]; exact S.w j h
  · unfold put at h ⊢
    split at h
    · cases h
    · split
      · simp
      · exact S.d j k a hjk h
theorem RS.hold (S : RS K F Hk H bp σ ρ) {i : Nat} {a : Addr} (hi : i < ρ.length) (hb : ∀ q ∈ bp, q.1 ≠ i) : RS K F Hk H ((i, a) :: bp) (σ.set i (some (.ref a))) (ρ.set i none) := by
  obtain ⟨ow, s⟩ := S.ow
  refine ⟨by rw [List.length_set, List.length_set, S.len], S.ex, S.fr, S.frk, ⟨_, s.hole _⟩, fun q hq => ?_⟩
  rcases List.mem_cons.mp hq with rfl | hq
  · exact List.getElem?_set_self (by rw [S.len]; exact hi)
  · rw [List.getElem?_set_ne (Ne.symm (hb q hq))]; exact S.bor q hq
theorem RS.unhold (S : RS K F Hk H ((i, a) :: bp) σ ρ) (hb : ∀ q ∈ bp, q.1 ≠ i) : RS K F Hk H bp (σ.set i none) (ρ.set i none) := by
  obtain ⟨ow, s⟩ := S.ow
  refine ⟨by rw [List.length_set, List.length_set, S.len], S.ex, S.fr, S.frk, ⟨_, s.hole _⟩, fun q hq => ?_⟩
  rw [List.getElem?_set_ne (Ne.symm (hb q hq))]; exact S.bor q (List.mem_cons_of_mem _ hq)
theorem RS.less (S : RS K F Hk H (p :: bp) σ ρ) : RS K F Hk H bp σ ρ := ⟨S.len, S.ex, S.fr, S.frk, S.ow, fun q hq => S.bor q (List.mem_cons_of_mem _ hq)⟩
theorem RS.aside (S : RS K F Hk H bp σ ρ) {dx : Addr} {fs : List (Str × V)} (hd : Hk dx = some (.xd fs)) : RS K (upd F dx (.xd fs)) (del Hk dx) H bp σ ρ := by
  have nx : NoX Hk (del Hk dx) := fun a o h n => by
    unfold del
    rw [if_neg (fun z => by subst z; rw [hd] at h; cases h; exact n _ rfl)]
    exact h
  have le : ∀ a o, del Hk dx a = some o → Hk a = some o := fun a o h => by
    unfold del at h
    split at h
    · cases h
    · exact h
  obtain ⟨ow, s⟩ := S.ow
  refine ⟨S.len, fun a o h => S.ex a o (le a o h), fun a o h => ?_, fun a o h => ?_, ⟨ow, fun i x h => ?_, fun i a h => ?_, s.w, s.d⟩, S.bor⟩
  · by_cases e : a = dx
    · subst e; rw [upd_same] at h; cases h; exact S.ex _ _ hd
    · rw [upd_ne e] at h; exact S.fr a o h
  · by_cases e : a = dx
    · subst e; exact del_same
    · rw [upd_ne e] at h; rw [del_ne e]; exact S.frk a o h
  · obtain ⟨v, e1, o⟩ := s.s i x h
    exact ⟨v, e1, o.sub nx⟩
  · obtain ⟨h1, h2, h3⟩ := s.f i a h
    have ne : a ≠ dx := fun z => by subst z; rw [hd] at h1; cases h1
    exact ⟨by rw [del_ne ne]; exact h1, by rw [upd_ne ne]; exact h2, h3⟩
theorem RS.back_in {dx : Addr} {fs : List (Str × V)} (S : RS K (upd F dx (.xd fs)) Hk H bp σ ρ) (hF : F dx = none) : RS K F (upd Hk dx (.xd fs)) H bp σ ρ := by
  have hk : Hk dx = none := S.frk dx _ upd_same
  have ex := Ex.new (o := HO.xd fs) hk
  obtain ⟨ow, s⟩ := S.ow
  refine ⟨S.len, fun a o h => ?_, fun a o h => ?_, fun a o h => ?_, ⟨ow, fun i x h => ?_, fun i a h => ?_, s.w, s.d⟩, S.bor⟩
  · by_cases e : a = dx
    · subst e; rw [upd_same] at h; cases h; exact S.fr _ _ upd_same
    · rw [upd_ne e] at h; exact S.ex a o h
  · have ne : a ≠ dx := fun z => by subst z; rw [hF] at h; cases h
    exact S.fr a o (by rw [upd_ne ne]; exact h)
  · have ne : a ≠ dx := fun z => by subst z; rw [hF] at h; cases h
    rw [upd_ne ne]
    exact S.frk a o (by rw [upd_ne ne]; exact h)
  · obtain ⟨v, e1, o⟩ := s.s i x h
    exact ⟨v, e1, o.move ex fun _ _ _ z => z⟩
  · obtain ⟨h1, h2, h3⟩ := s.f i a h
    have ne : a ≠ dx := fun z => by subst z; rw [upd_same] at h2; cases h2
    exact ⟨by rw [upd_ne ne]; exact h1, by rw [upd_ne ne] at h2; exact h2, h3⟩
end
theorem RV.flat {K K' : PySem.W.Frag} {H H' : Hp} {x : MV} {v : V} (f : flatM x = true) (h : RV K H x v) : RV K' H' x v := by
  cases x <;> first | (simp [flatM] at f; done) | (unfold RV at h ⊢; exact h)
theorem XFs.flat {K K' : PySem.W.Frag} {H H' : Hp} : ∀ {xs : List (Str × MV)} {vs : List (Str × V)}, xs.all (fun p => flatM p.2) = true → XFs K H xs vs → XFs K' H' xs vs
  | [], _, _, h => h
  | (n, x) :: xs, vs, f, h => by
    obtain ⟨v, r, e1, e2, e3⟩ := h
    simp only [List.all_cons, Bool.and_eq_true] at f
    exact ⟨v, r, e1, e2.flat f.1, XFs.flat f.2 e3⟩
structure ExT (K : PySem.W.Frag) (mg : Str → Option Value) (y : Str) (x : Str) (b : Bool) : Prop where
  ex : ∃ C D, mg x = some (.ref C) ∧ mg y = some (.ref D) ∧ PySem.W.exmOne K (.ref C) (.ref D) = some b
def mTry (i : Nat) (tab : List (Str × Bool)) (mb : MS) (mh : MX → MS) : MS := fun ρ => match mb ρ with
  | .ok r => .ok r
  | .stuck => .stuck
  | .exc e ρ1 => match tab.lookup e.cls with
    | some true => if decide (i < ρ1.length) && e.fs.all (fun p => flatM p.2) then (match mh e (ρ1.set i none) with
      | .ok (.rt v, ρ2) => .ok (.rt v, ρ2)
      | .ok (f, ρ2) => .ok (f, ρ2.set i none)
      | _ => .stuck) else .stuck
    | some false => .exc e ρ1
    | none => .stuck
def XIn (F : Hp) (e : MX) (d : Option Addr) : Prop := (e.fs = [] ∧ d = none) ∨ ∃ dx vfs, d = some dx ∧ F dx = some (.xd vfs) ∧ ∀ K H, XFs K H e.fs vfs
def cH (c : Ct) (i : Nat) (a : Addr) (e : MX) (d : Option Addr) : Ct := ⟨c.K, c.mg, fun _ _ _ _ => False, i :: c.bs, fun F bp => (∃ bq, bp = (i, a) :: bq ∧ c.J F bq) ∧ XIn F e d, fun F F1 bp x h => by
  obtain ⟨⟨bq, e1, e2⟩, h2⟩ := h
  refine ⟨⟨bq, e1, c.Jm _ _ _ x e2⟩, ?_⟩
  rcases h2 with h2 | ⟨dx, vfs, q1, q2, q3⟩
  · exact .inl h2
  · exact .inr ⟨dx, vfs, q1, x _ _ q2, q3⟩⟩
section
variable {X : Cx} {c : Ct} {y n : Str} {i : Nat} {body suite : List Stmt} {b₀ : Stmt} {np pos pos' : Pos} {tab : List (Str × Bool)} {mb : MS} {mh : MX → MS}
theorem lookup_mem : ∀ {tab : List (Str × Bool)} {x : Str} {b : Bool}, tab.lookup x = some b → (x, b) ∈ tab
  | [], _, _, h => by simp at h
  | (z, k) :: tab, x, b, h => by
    rw [List.lookup_cons] at h
    by_cases e : x = z
    · subst e
      simp at h
      subst h
      exact List.mem_cons_self ..
    · have : (x == z) = false := by simpa using e
      rw [this] at h
      exact List.mem_cons_of_mem _ (lookup_mem h)
theorem ms_try (hs : X.stack = X.env :: X.outer) (hf : X.env.frame = some X.env.locals) (hN : X.N.Nodup) (hi : X.N[i]? = some n) (hln : X.env.kindOf n = some .local) (hg : Gl X y) (tk : L2N.Takes X c.W) (ht : ∀ p ∈ tab, ExT X.K X.mg y p.1 p.2) (hne : ∃ D, X.mg y = some (.ref D))
    (hb : ∀ (W : WX) (pn : List (Addr × Obj)) (xe : Value → Shared → Prop), L2N.Takes (X.tr pn xe) W → PassesOwn (model X.prog X.w) X.A X.env xe → PSs (X.tr pn xe) body (rdS ⟨c.K, c.mg, W, c.bs, c.J, c.Jm⟩ mb))
    (hsu : ∀ (a : Addr) (oe : Obj) (C : Addr) (d : Option Addr) (pn : List (Addr × Obj)) (e : MX), X.mg e.cls = some (.ref C) → (e.cls, true) ∈ tab → L2N.Zn (.ref C) d oe → (∃ vs, oe.data = .fields vs) → PSs (X.suite a ((a, oe) :: pn)) (b₀ :: suite) (rdS (cH c i a e d) (mh e)))
    (hbs : c.bs.contains i = false := by rfl) (hK : c.K = X.K := by rfl) (hmg : c.mg = X.mg := by rfl) (hdb : (y == ("__debug__" : Str)) = false := by decide) :
    PS X (.Try body [.ExceptHandler (some (.Name y np)) (some n) (b₀ :: suite) pos'] [] [] pos) (rdS c (mTry i tab mb mh)) := by
  obtain ⟨Dy, hDy⟩ := hne
  have z := L2N.ps_try_as (x := y) (c := .ref Dy) (np := np) (pos := pos) (pos' := pos') (tb := fun W => rdS ⟨c.K, c.mg, W, c.bs, c.J, c.Jm⟩ mb) (Wout := c.W)
    (ts := fun a cls d D σ H => ∃ e C, X.mg e.cls = some (.ref C) ∧ cls = .ref C ∧ (e.cls, true) ∈ tab ∧ rdS (cH c i a e d) (mh e) D σ H) hs hf hN hi hln ⟨hg, hdb, .inl hDy⟩ tk hb
    (fun a oe cls d pn hz hv => ⟨fun pins s σ H D I ⟨e, C, h1, h2, h3, h4⟩ => (hsu a oe C d pn e h1 h3 (by rw [← h2]; exact hz) hv).run pins s σ H D I h4⟩)
  refine PSw z fun D σ H h => ?_
  obtain ⟨F, Hk, bp, ρ, S, h⟩ := h
  refine ⟨F, Hk, bp, ρ, S, ?_⟩
  unfold mTry at h
  cases em : mb ρ with
  | stuck => rw [em] at h; exact h
  | ok r =>
    rw [em] at h
    obtain ⟨f, ρ'⟩ := r
    cases f <;> exact h
  | exc e ρ1 =>
    rw [em] at h
    intro Hk' H' σ' cls d x S1 er
    obtain ⟨C, g1, g2, g3⟩ := er
    subst g2
    have g1' : X.mg e.cls = some (.ref C) := by rw [← hmg]; exact g1
    cases el : tab.lookup e.cls with
    | none => simp only [el] at h; exact h.elim
    | some b =>
      obtain ⟨C', D', k1, k2, k3⟩ := (ht _ (lookup_mem el)).ex
      rw [g1'] at k1
      cases k1
      rw [hDy] at k2
      cases k2
      refine ⟨b, k3, fun hyes a ha => ?_, fun hno => ?_⟩
      · subst hyes
        simp only [el] at h
        split at h
        · rename_i hc
          simp only [Bool.and_eq_true, decide_eq_true_eq] at hc
          refine ⟨e, C, g1', rfl, lookup_mem el, ?_⟩
          have hbq : ∀ q ∈ bp, q.1 ≠ i := nb S.2.1 hbs
          -- the state of the clause
          have main : ∃ F2 Hk2, RS c.K F2 Hk2 H' ((i, a) :: bp) (σ'.set i (some (.ref a))) (ρ1.set i none) ∧ Ex F F2 ∧ XIn F2 e d ∧ ∀ Hk3 H3 bq σ3 ρ3, Ex Hk2 Hk3 → RS c.K F2 Hk3 H3 bq σ3 ρ3 → ∃ Hk4, Ex Hk' Hk4 ∧ RS c.K F Hk4 H3 bq σ3 ρ3 ∧ Ex Hk3 Hk4 := by
            rcases g3 with g3 | ⟨dx, vfs, q1, q2, q3⟩
            · exact ⟨F, Hk', S1.hold hc.1 hbq, Ex.refl _, .inl g3, fun Hk3 H3 bq σ3 ρ3 x3 S3 => ⟨Hk3, x3, S3, Ex.refl _⟩⟩
            · have fn : F dx = none := by
                cases e0 : F dx with
                | none => rfl
                | some o => have := S1.frk dx o e0; rw [q2] at this; cases this
              refine ⟨_, _, (S1.hold hc.1 hbq).aside q2, Ex.new fn, .inr ⟨dx, vfs, q1, upd_same, fun K H => q3.flat hc.2⟩, fun Hk3 H3 bq σ3 ρ3 x3 S3 => ⟨_, fun b o hb => ?_, S3.back_in fn, Ex.new (S3.frk dx _ upd_same)⟩⟩
              by_cases e0 : b = dx
              · subst e0; rw [q2] at hb; cases hb; exact upd_same
              · rw [upd_ne e0]
                exact x3 _ _ (by rw [del_ne e0]; exact hb)
          obtain ⟨F2, Hk2, S2, xF, xi, out⟩ := main
          refine ⟨F2, Hk2, (i, a) :: bp, _, ⟨S2, ?_, ⟨bp, rfl, c.Jm _ _ _ xF S.2.2⟩, xi⟩, ?_⟩
          · show i :: bp.map (·.1) = i :: c.bs
            rw [S.2.1]
          cases eh : mh e (ρ1.set i none) with
          | stuck => rw [eh] at h; exact h.elim
          | exc e2 ρ2 => rw [eh] at h; exact h.elim
          | ok r =>
            obtain ⟨f, ρ2⟩ := r
            rw [eh] at h
            cases f with
            | nx =>
              intro Hk3 H3 σ3 x3 S3
              obtain ⟨Hk4, x4, S4, _⟩ := out Hk3 H3 _ _ _ x3 S3
              exact h Hk4 H3 _ (x.trans x4) (S4.unhold hbq)
            | br =>
              intro Hk3 H3 σ3 x3 S3
              obtain ⟨Hk4, x4, S4, _⟩ := out Hk3 H3 _ _ _ x3 S3
              exact h Hk4 H3 _ (x.trans x4) (S4.unhold hbq)
            | ct =>
              intro Hk3 H3 σ3 x3 S3
              obtain ⟨Hk4, x4, S4, _⟩ := out Hk3 H3 _ _ _ x3 S3
              exact h Hk4 H3 _ (x.trans x4) (S4.unhold hbq)
            | rt v =>
              intro Hk3 H3 σ3 w x3 hq S3
              obtain ⟨Hk4, x4, S4, _⟩ := out Hk3 H3 _ _ _ x3 S3
              exact h Hk4 H3 _ w (x.trans x4) (fun q hq' => hq q (List.mem_cons_of_mem _ hq')) S4.less
        · exact h.elim
      · subst hno
        simp only [el] at h
        exact h Hk' H' σ' _ d x S1 ⟨C, g1, rfl, g3⟩
end
end Tm
set_option Elab.async false
set_option linter.all false
set_option maxRecDepth 100000
set_option maxHeartbeats 2000000
namespace Tm
open PySem L2 PySem.Spec PyProof.Rows
open Evl (Ex ex_rd ex_l ex_t)
def mRaise1 (x f : Str) (a : ME) : MS := fun ρ => (a ρ).bind fun y ρ1 => .exc ⟨x, [(f, y)]⟩ ρ1
structure Cl0 (K : PySem.W.Frag) (mg : Str → Option Value) (x : Str) : Prop where
  ex : ∃ C, mg x = some (.ref C) ∧ PySem.W.excIn K C PySem.HandSPX.veTail "ValueError.__new__" = true ∧ PySem.W.keepIn K (.ref C) = true ∧ PySem.W.subIn K (.ref C) (.type "BaseException") = some true ∧ PySem.W.typeIn K (.ref C) = some (.type "type")
structure Cl1 (P : Program) (w : World) (K : PySem.W.Frag) (mg : Str → Option Value) (base : Heap) (x f : Str) : Prop where
  ex : ∃ C fI fd ps, OwX K mg x C fI ∧ PySem.W.findIn K (.ref C) f = some none ∧ FnOk P w K mg base (L2N.CX P w) 2 fI fd ps (spI1 K f) ∧ L2.Binds K fd ps []
structure Cl2 (P : Program) (w : World) (K : PySem.W.Frag) (mg : Str → Option Value) (base : Heap) (x f g : Str) : Prop where
  ex : ∃ C fI fd ps, OwX K mg x C fI ∧ PySem.W.findIn K (.ref C) f = some none ∧ PySem.W.findIn K (.ref C) g = some none ∧ FnOk P w K mg base (L2N.CX P w) 2 fI fd ps (spI2 K f g) ∧ L2.Binds K fd ps []
section
variable {X : Cx} {c : Ct} {x f g m : Str} {k j : Nat}
theorem ms_raise1 {e : Expr} {a : ME} {p p2 pos : Pos} (Z : Cl1 X.prog X.w X.K X.mg X.base x f) (hc : X.calm = true) (hr : Room k X.A) (hk : 3 ≤ k) (tk : L2N.Takes X c.W) (hg : Gl X x) (he : PE X e (rdE c a)) (hmg : c.mg = X.mg := by rfl)
    (hdb : (x == ("__debug__" : Str)) = false := by decide) (hst : starEach [e] X.env = (false, eval e X.env) :: starEach [] X.env := by rfl) (hpl : (backTo p2 (starEach [] X.env)).any (·.1) = false := by rfl) :
    PS X (.Raise (some (.Call (.Name x p) [e] [] p2)) none pos) (rdS c (mRaise1 x f a)) := by
  obtain ⟨C, fI, fd, ps, O, h2, h3, h4⟩ := Z.ex
  refine PSw (L2N.ps_raise hc tk (pmk1 (W := c.W) O h2 h3 (hr.mono hk) h4 tk hg (ma_cons he ma_nil hst) (fun σ H Q Q' q w => rdAw q w) hdb hst hpl)) fun D σ H ⟨F, Hk, bp, ρ, S, h⟩ => ?_
  have h : okS c F Hk bp D ((a ρ).bind fun y ρ1 => .exc ⟨x, [(f, y)]⟩ ρ1) := h
  refine ⟨F, Hk, bp, ρ, S, ?_⟩
  show okA c F Hk bp σ _ ((a ρ).bind fun y ρ1 => (mNil ρ1).bind fun xs ρ2 => .ok (y :: xs, ρ2))
  cases ea : a ρ with
  | stuck => rw [ea] at h; exact h
  | exc e ρ' => rw [ea] at h; exact fun Hk' H' cls d => h Hk' H' σ cls d
  | ok q =>
    obtain ⟨y, ρ1⟩ := q
    rw [ea] at h
    intro Hk1 H1 vs x1 S1 r1
    obtain ⟨v, us, rfl, r2, r3⟩ := RVs.cons.mp r1
    cases RVs.nil.mp r3
    refine ⟨v, rfl, fun d hd => ?_⟩
    have xn := Ex.new (o := HO.xd [(f, v)]) (S1.ex.back hd)
    exact h _ _ _ _ _ (x1.trans xn) (S1.new hd) ⟨C, by rw [hmg]; exact O.m, rfl, .inr ⟨d, _, rfl, upd_same, v, [], rfl, r2.mono xn, rfl⟩⟩
end
section
variable {prog : Program} {w : World} {A : Around} {E : Value → Shared → Prop} {s : Shared} {K : PySem.W.Frag} {x D : Addr} {ox : Obj} {od : Option Obj}
theorem findObj_any {C : Addr} {name : Str} {a g : Value} (hc : (PySem.W.clsIn K C).isSome = true) (ha : PySem.W.findIn K (.ref C) name = some (some a)) (hg : PySem.W.specialIn K a "__get__" = some (some g)) (ht : PySem.W.takesIn K a = some true) : PySem.W.findObj K C od name = some (.bind g a) := by
  obtain ⟨cd, hc⟩ := Option.isSome_iff_exists.mp hc
  unfold PySem.W.findObj
  rw [hc, Option.bind_some, ha, Option.bind_some]
  simp [hg, ht]
open PySem.W PySem.Calls in
theorem class_any {Q : Option Value → Shared → Prop} (c : ExcC K D) (X : K.In s.heap) (I : InstAt s.heap x ox D od) (h : Q (some (.ref D)) { s with toks := s.toks + 1 }) : wpAny (model prog w) A (getAttr? (.ref x) "__class__") Q E s := by
  have hf : findObj K D od "__class__" = some (.bind (.builtin "getset_descriptor.__get__") (.builtin "object.__class__")) := findObj_any (by obtain ⟨cd, hc, _⟩ := any_some c.hd; rw [hc]; rfl) c.ha c.hn c.ht
  obtain ⟨hp, g, d, t, os⟩ := s
  have L0 := I.type (M := model prog w)
  have L1 := looks_findIn (M := model prog w) X c.hg
  have L2 := looks_findIn (M := model prog w) X c.hk
  have L3 := looks_find (M := model prog w) X I hf
  have sub : Looks (model prog w) hp (isInstance (.ref x) (.type "BaseException")) true := L0.andThen (looks_subIn X c.hs)
  have z0 : (false && onTheHeap (Value.builtin "BaseException.__getattribute__")) = false := rfl
  have z2 : (Value.builtin "BaseException.__getattribute__" == Value.builtin "object.__getattribute__") = false := by decide +kernel
  have z1 : (onTheHeap (Value.ref D) && Value.builtin "BaseException.__getattribute__" == Value.builtin "object.__getattribute__") = false := by rw [z2]; rfl
  unfold getAttr? getAttrBy? getAttrBy
  refine wpAny_bind (wpAny_mkText (wpAny_bind (wpAny_attempt (wpAny_holding (wpAny_bind (L0.at (wpAny_bind (L1.at ?_))))))))
  show wpAny _ _ (if (onTheHeap (Value.ref D) && Value.builtin "BaseException.__getattribute__" == Value.builtin "object.__getattribute__") = true then _ else _) _ _ _
  rw [z1, if_neg Bool.false_ne_true]
  unfold getAttrByItsOwn hookBefore
  refine wpAny_bind ?_
  rw [if_pos (show onTheHeap (Value.ref D) = true from rfl)]
  refine L2.at ?_
  refine wpAny_bind (wpAny_attempt (wpAny_holding ?_))
  unfold callGetattribute
  rw [z0, if_neg Bool.false_ne_true]
  unfold boundAndCalled
  rw [PySem.F.excAttr_ValueError.ga.bind (.ref x)]
  refine wpAny_bind (wpAny_pure ?_)
  show wpAny _ _ (call (.builtin "BaseException.__getattribute__") [.ref x, .str "__class__" t]) _ _ _
  refine wpAny_call (codeAny_call_builtin PySem.F.excAttr_ValueError.ga.plain PySem.F.entry_bexc_ga ?_)
  refine @check_slot (model prog w) _ _ ⟨hp, g, d, t + 1, os⟩ "BaseException.__getattribute__" "BaseException" "__getattribute__" (.ref x) [.str "__class__" t] [] _ (by decide +kernel) (by decide +kernel) sub (PySem.F.args_bexc_ga (.ref x) (.str "__class__" t)) ?_
  unfold Builtin.«object.__getattribute__»
  refine wpAny_bind (wpAny_of_eq (a := ((Value.ref x : Value), [Value.str "__class__" t])) (by first | rfl | (simp only [slotArgs]; rfl)) ?_)
  refine wpAny_bind (wpAny_pure (wpAny_bind (L0.at (wpAny_bind (L3.at ?_)))))
  show wpAny _ _ (holding [Value.builtin "object.__class__"] (call (.builtin "getset_descriptor.__get__") [.builtin "object.__class__", .ref x, .ref D]) >>= ret) _ _ _
  refine wpAny_bind (wpAny_holding (wpAny_call (class_get (s := ⟨hp, g, d, t + 1, os⟩) (ox := ox) (od := od) X I c.hm ?_)))
  refine wpAny_pure ?_
  show wpAny _ _ (handedOut (.ref D)) _ _ _
  rw [handedOut_of (v := .ref D) rfl]
  first
    | exact wpAny_pure (wpAny_pure h)
    | exact wpAny_pure h
    | exact wpAny_pure (wpAny_bind (wpAny_pure (wpAny_pure h)))
open PySem.W PySem.Calls in
theorem kitx_any (c : ExcC K D) : KitX K (.ref x) (.ref D) (fun h => InstAt h x ox D od) where
  ty := fun _ _ _ I => I.type
  it := fun _ _ X _ => by
    obtain ⟨cdD, hcD, _⟩ := any_some c.hd
    unfold clsIn at hcD
    split at hcD
    · rename_i c' d' cd' sl' ho
      intro A' Q' E' s' k q
      unfold isType loadHead
      exact wpAny_bind (wpAny_loadPart (k _ _ (X _ _ ho)) (wpAny_pure q))
    · cases hcD
  ne := fun h tp dd its n sl X htp => by
    obtain ⟨cdD, hcD, _⟩ := any_some c.hd
    refine Bool.eq_false_iff.mpr fun q => ?_
    have e : D = tp := Value.ref.inj (beq_iff_eq.mp q)
    subst e
    unfold clsIn at hcD
    split at hcD
    · rename_i c' d' cd' sl' ho
      have z := (X _ _ ho).symm.trans htp
      cases z
    · cases hcD
  ca := fun X I k => class_any c X I k
end
def rIsX (K : PySem.W.Frag) (D a : Addr) (d : Option Addr) : List V → Hp → VK → Prop := fun xs H Q => ∃ (c : V) (cv : Value) (b : Bool), xs = [.ref a, c] ∧ (∀ u, RelV c u → u = cv) ∧ PySem.W.kitOne K (.ref D) cv = some b ∧ (d = none ∨ ∃ dd fs, d = some dd ∧ H dd = some (.xd fs)) ∧ Q (.bl b) H
theorem call_isX {X : Cx} {a D : Addr} {oe : Obj} {d : Option Addr} (hm : (a, oe) ∈ X.pn) (C : ExcC X.K D) (hz : Zc (.ref D) d oe) (hf : ∃ vs, oe.data = .fields vs) : CallR X (.builtin "isinstance") (rIsX X.K D a d) := by
  intro pins s σ H xs us Q I r h
  obtain ⟨c, cv, b, rfl, hcv, e, hd, q⟩ := h
  cases r with
  | cons rx rr =>
    cases rr with
    | cons rt rr =>
      cases rr
      cases rx
      have ec := hcv _ rt
      subst ec
      obtain ⟨hget, _⟩ := I.pin (a, oe) (List.mem_append.mpr (.inl hm))
      obtain ⟨vs, hv⟩ := hf
      have J : ∃ od, PySem.W.InstAt s.heap a oe D od := by
        rcases hd with hd | ⟨dd, fs, hd, hh⟩
        · exact ⟨none, hget, hz.1, by unfold PySem.W.notCls; rw [hv] <;> rfl, by rw [hz.2, hd]; trivial⟩
        · obtain ⟨mA, hns, _⟩ := I.hok dd _ hh
          obtain ⟨od, ho, _⟩ := lookIn_ns hns
          exact ⟨some od, hget, hz.1, by unfold PySem.W.notCls; rw [hv] <;> rfl, by rw [hz.2, hd]; exact ho⟩
      obtain ⟨od, J⟩ := J
      exact PySem.W.kia_one (kitx_any C) I.kIn J e (fun z => nomatch z) fun tk => ⟨.bl b, H, I.kept (t' := tk) fun _ _ z => z, rfl, q⟩
def mExF (e : MX) (f : Str) : ME := fun ρ => match e.fs.lookup f with
  | some x => .ok (x, ρ)
  | none => .stuck
def mExIs (e : MX) (tab : List (Str × Bool)) : ME := fun ρ => match tab.lookup e.cls with
  | some b => .ok (.bl b, ρ)
  | none => .stuck
theorem XFs.look {K : PySem.W.Frag} {H : Hp} {f : Str} {x : MV} : ∀ {xs : List (Str × MV)} {vs : List (Str × V)}, XFs K H xs vs → xs.lookup f = some x → ∃ v, vs.lookup f = some v ∧ RV K H x v
  | [], _, _, h => by simp at h
  | (n, y) :: xs, vs, r, h => by
    obtain ⟨v, rr, e1, e2, e3⟩ := r
    subst e1
    rw [List.lookup_cons] at h ⊢
    cases eq : f == n with
    | true => rw [eq] at h; cases h; exact ⟨v, rfl, e2⟩
    | false => rw [eq] at h; exact XFs.look e3 h
section
variable {X : Cx} {c : Ct} {a C : Addr} {oe : Obj} {d : Option Addr} {pn : List (Addr × Obj)} {e : MX} {i : Nat} {n f y : Str} {p p1 p2 pos : Pos}
theorem me_xf (T : XfC X.K C) (hno : PySem.W.findIn X.K (.ref C) f = some none) (hz : Zc (.ref C) d oe) (hf : ∃ vs, oe.data = .fields vs) (hN : X.N[i]? = some n) (hv : Vis X.env.scope n) (hK : c.K = X.K := by rfl)
    (hb : attributeBase (.Name n p) f X.env (eval (.Name n p) X.env) = eval (.Name n p) X.env := by rfl) (hd : (n == ("__debug__" : Str)) = false := by decide) (hcd : (n == ("__classdict__" : Str)) = false := by decide) :
    PE (X.suite a ((a, oe) :: pn)) (.Attribute (.Name n p) f pos) (rdE (cH c i a e d) (mExF e f)) := by
  refine PEw (pe_xf T hno hz hf (pe_var (i := i) hN hv hd hcd) hb) fun σ H Q ⟨F, Hk, bp, ρ, S, h⟩ => ?_
  obtain ⟨⟨bq, e1, e2⟩, xi⟩ := S.2.2
  refine ⟨.ref a, S.1.bor (i, a) (by rw [e1]; exact List.mem_cons_self ..), rfl, rfl, ?_⟩
  unfold mExF at h
  cases el : e.fs.lookup f with
  | none => rw [el] at h; exact h.elim
  | some x =>
    rw [el] at h
    rcases xi with ⟨z, _⟩ | ⟨dx, vfs, q1, q2, q3⟩
    · rw [z] at el; cases el
    · obtain ⟨v, g1, g2⟩ := (q3 (cH c i a e d).K Hk).look el
      exact ⟨dx, vfs, v, q1, S.1.fr _ _ q2, g1, h _ _ _ (Ex.refl _) S.1 g2⟩
theorem me_isXG {tab : List (Str × Bool)} {v : V} {cv : Value} (hm : (a, oe) ∈ X.pn) (T : ExcC X.K C) (hz : Zc (.ref C) d oe) (hf : ∃ vs, oe.data = .fields vs) (hN : X.N[i]? = some n) (hv : Vis X.env.scope n) (hi : X.mg "isinstance" = none) (hg : Gl X "isinstance") (he : PE X (.Name y p2) (tC v)) (hc : ∀ u, RelV v u → u = cv)
    (ht : ∀ b, tab.lookup e.cls = some b → PySem.W.kitOne X.K (.ref C) cv = some b)
    (hd : (n == ("__debug__" : Str)) = false := by decide) (hcd : (n == ("__classdict__" : Str)) = false := by decide) :
    PE X (.Call (.Name "isinstance" p) [.Name n p1, .Name y p2] [] pos) (rdE (cH c i a e d) (mExIs e tab)) := by
  have ha : PA X [.Name n p1, .Name y p2] (tCons (tVar i) (tCons (tC v) tNil)) := pa_cons (pe_var (i := i) hN hv hd hcd) (pa_cons he pa_nil)
  refine PEw (pe_callB (call_isX hm T hz hf) hg hi (by decide +kernel) ha (by decide) (by decide)) fun σ H Q ⟨F, Hk, bp, ρ, S, h⟩ => ?_
  obtain ⟨⟨bq, e1, e2⟩, xi⟩ := S.2.2
  refine ⟨.ref a, S.1.bor (i, a) (by rw [e1]; exact List.mem_cons_self ..), ?_⟩
  unfold mExIs at h
  cases el : tab.lookup e.cls with
  | none => rw [el] at h; exact h.elim
  | some b =>
    rw [el] at h
    refine ⟨v, cv, b, rfl, hc, ht b el, ?_, h _ _ _ (Ex.refl _) S.1 (RV.bl.mpr rfl)⟩
    rcases xi with ⟨_, z⟩ | ⟨dx, vfs, q1, q2, q3⟩
    · exact .inl z
    · exact .inr ⟨dx, vfs, q1, S.1.fr _ _ q2⟩
theorem me_isX {tab : List (Str × Bool)} (hm : (a, oe) ∈ X.pn) (T : ExcC X.K C) (hz : Zc (.ref C) d oe) (hf : ∃ vs, oe.data = .fields vs) (hN : X.N[i]? = some n) (hv : Vis X.env.scope n) (hi : X.mg "isinstance" = none) (hg : Gl X "isinstance") (hy : Gl X y) {Dy : Addr} (my : X.mg y = some (.ref Dy))
    (ht : ∀ b, tab.lookup e.cls = some b → PySem.W.kitOne X.K (.ref C) (.ref Dy) = some b)
    (hd : (n == ("__debug__" : Str)) = false := by decide) (hcd : (n == ("__classdict__" : Str)) = false := by decide) (hyd : (y == ("__debug__" : Str)) = false := by decide) :
    PE X (.Call (.Name "isinstance" p) [.Name n p1, .Name y p2] [] pos) (rdE (cH c i a e d) (mExIs e tab)) := me_isXG hm T hz hf hN hv hi hg (pe_glob hy my (v := .ref Dy) rfl hyd) (fun _ r => r) ht hd hcd
end
theorem fa_nil {α : Type} {P : α → Prop} : ∀ p ∈ ([] : List α), P p := fun _ h => nomatch h
theorem fa_cons {α : Type} {P : α → Prop} {x : α} {l : List α} (h : P x) (t : ∀ p ∈ l, P p) : ∀ p ∈ x :: l, P p := fun p hp => by
  rcases List.mem_cons.mp hp with rfl | hp
  · exact h
  · exact t p hp
def xcB (K : PySem.W.Frag) (C : Addr) (fs : List Str) : Bool := xfB K C && decide (PySem.W.findIn K (.ref C) "__class__" = some (some (.builtin "object.__class__"))) && decide (PySem.W.specialIn K (.builtin "object.__class__") "__get__" = some (some (.builtin "getset_descriptor.__get__"))) && decide (PySem.W.takesIn K (.builtin "object.__class__") = some true) && decide (PySem.W.mroIn K C (.type "object") = some true) && fs.all (fun f => decide (PySem.W.findIn K (.ref C) f = some none))
structure XcF (K : PySem.W.Frag) (mg : Str → Option Value) (fs : List Str) (x : Str) : Prop where
  ex : ∃ C, mg x = some (.ref C) ∧ xcB K C fs = true
structure KiT (K : PySem.W.Frag) (mg : Str → Option Value) (y x : Str) (b : Bool) : Prop where
  ex : ∃ C D, mg x = some (.ref C) ∧ mg y = some (.ref D) ∧ PySem.W.kitOne K (.ref C) (.ref D) = some b
structure XcG (K : PySem.W.Frag) (C : Addr) (fs : List Str) : Prop where
  xf : XfC K C
  xc : ExcC K C
  no : ∀ f ∈ fs, PySem.W.findIn K (.ref C) f = some none
theorem xcB_ok {K : PySem.W.Frag} {C : Addr} {fs : List Str} (h : xcB K C fs = true) : XcG K C fs := by
  unfold xcB at h
  simp only [Bool.and_eq_true, decide_eq_true_eq, List.all_eq_true] at h
  obtain ⟨⟨⟨⟨⟨h1, h2⟩, h3⟩, h4⟩, h5⟩, h6⟩ := h
  have T := xfB_ok h1
  exact ⟨T, ⟨T.ga, T.gg, T.exC, T.hdC, h2, h3, h4, h5⟩, h6⟩
theorem xc_at {K : PySem.W.Frag} {mg : Str → Option Value} {fs ts : List Str} {tab : List (Str × Bool)} {x : Str} {C : Addr} (Xs : ∀ x ∈ ts, XcF K mg fs x) (ht : tab.all (fun p => !p.2 || ts.contains p.1) = true) (hC : mg x = some (.ref C)) (hT : (x, true) ∈ tab) : XcG K C fs := by
  have h := List.all_eq_true.mp ht _ hT
  simp at h
  obtain ⟨C', h1, h2⟩ := (Xs x h).ex
  rw [hC] at h1
  cases h1
  exact xcB_ok h2
section
variable {X : Cx} {c : Ct} {a C : Addr} {oe : Obj} {d : Option Addr} {pn : List (Addr × Obj)} {e : MX} {i : Nat} {n f y : Str} {p p1 p2 pos : Pos} {fs : List Str} {tab tab2 : List (Str × Bool)}
theorem mx_f (G : XcG X.K C fs) (hf : f ∈ fs) (hz : L2N.Zn (.ref C) d oe) (hv : ∃ vs, oe.data = .fields vs) (hN : X.N[i]? = some n) (hl : Vis X.env.scope n)
    (hb : attributeBase (.Name n p) f X.env (eval (.Name n p) X.env) = eval (.Name n p) X.env := by rfl) (hd : (n == ("__debug__" : Str)) = false := by decide) (hcd : (n == ("__classdict__" : Str)) = false := by decide) (hK : c.K = X.K := by rfl) :
    PE (X.suite a ((a, oe) :: pn)) (.Attribute (.Name n p) f pos) (rdE (cH c i a e d) (mExF e f)) := me_xf G.xf (G.no f hf) hz.zc hv hN hl hK hb hd hcd
theorem mx_isG (hm : (a, oe) ∈ X.pn) (G : XcG X.K C fs) (Ks : ∀ b, tab2.lookup e.cls = some b → KiT X.K X.mg y e.cls b) (ney : ∃ D, X.mg y = some (.ref D)) (hC : X.mg e.cls = some (.ref C)) (hz : L2N.Zn (.ref C) d oe) (hv : ∃ vs, oe.data = .fields vs) (hN : X.N[i]? = some n) (hl : Vis X.env.scope n) (hi : X.mg "isinstance" = none) (hg : Gl X "isinstance") (hy : Gl X y)
    (hd : (n == ("__debug__" : Str)) = false := by decide) (hcd : (n == ("__classdict__" : Str)) = false := by decide) (hyd : (y == ("__debug__" : Str)) = false := by decide) :
    PE X (.Call (.Name "isinstance" p) [.Name n p1, .Name y p2] [] pos) (rdE (cH c i a e d) (mExIs e tab2)) := by
  obtain ⟨Dy, my⟩ := ney
  refine me_isX hm G.xc hz.zc hv hN hl hi hg hy my (fun b hb => ?_) hd hcd hyd
  obtain ⟨C', D', k1, k2, k3⟩ := (Ks _ hb).ex
  rw [hC] at k1
  cases k1
  rw [my] at k2
  cases k2
  exact k3
theorem mx_isT {T : String} (hm : (a, oe) ∈ X.pn) (G : XcG X.K C fs) (Ks : PySem.W.kitOne X.K (.ref C) (.type T) = some true) (ht : tab2.all (·.2) = true) (hz : L2N.Zn (.ref C) d oe) (hv : ∃ vs, oe.data = .fields vs) (hN : X.N[i]? = some n) (hl : Vis X.env.scope n) (hi : X.mg "isinstance" = none) (hg : Gl X "isinstance") (hy : Gl X y) (my : X.mg y = none) (hb : bootBuiltins y = some (.type T))
    (hd : (n == ("__debug__" : Str)) = false := by decide) (hcd : (n == ("__classdict__" : Str)) = false := by decide) (hyn : y ≠ "__name__" := by decide) (hyd : (y == ("__debug__" : Str)) = false := by decide) :
    PE X (.Call (.Name "isinstance" p) [.Name n p1, .Name y p2] [] pos) (rdE (cH c i a e d) (mExIs e tab2)) :=
  me_isXG hm G.xc hz.zc hv hN hl hi hg (pe_bltn hy my hb (v := .ty T) rfl hyn hyd) (fun _ r => r) (fun b hb => by
    have := List.all_eq_true.mp ht _ (lookup_mem hb)
    have e : b = true := this
    rw [e]; exact Ks) hd hcd
end
def inCls (s : Stmt) (j : Nat) : Stmt := match s with
  | .ClassDef _ _ _ b _ _ _ _ _ _ _ => b.getD j (.Pass ⟨0, 0, 0, 0⟩)
  | _ => .Pass ⟨0, 0, 0, 0⟩
theorem owX_mk {K : PySem.W.Frag} {mg : Str → Option Value} {x : Str} {C fI : Addr} {nm q : Str} {N : Addr} {bs bm : List Value} {sn : List Str} {sub : List Value} {ab : Bool} {col : Option Bool} {dd : Option Addr} {k0 k1 k2 k3 k5 : Option Value}
    (m : mg x = some (.ref C)) (l : K.lookup C = some (excClassObj nm q C N bs bm true sn sub ab col dd k0 k1 k2 k3 k5 "ValueError.__new__")) (r : PySem.HandSPX.refsVE bm = true) (sa : PySem.W.findIn K (.ref C) "__setattr__" = some (some (.builtin "object.__setattr__")))
    (eC : PySem.W.subIn K (.ref C) (.type "BaseException") = some true) (tC : PySem.W.typeIn K (.ref C) = some (.type "type")) (kC : PySem.W.keepIn K (.ref C) = true) (iC : PySem.W.findIn K (.ref C) "__init__" = some (some (.ref fI))) (tI : PySem.W.typeIn K (.ref fI) = some (.type "function")) : OwX K mg x C fI :=
  ⟨⟨⟨nm, q, N, bs, bm, sn, sub, ab, col, dd, k0, k1, k2, k3, k5, l, r⟩, sa, eC, tC, kC⟩, m, iC, tI⟩
end Tm
set_option Elab.async false
set_option linter.all false
set_option maxRecDepth 100000
set_option maxHeartbeats 2000000
namespace Tm
open PySem L2
open Evl (Ex ex_rd ex_l ex_t)
def fMultL : MV → MV → Option (List MV)
  | .lst a, .int k => if decide (-(2 ^ 63) ≤ k) && decide (k < 2 ^ 63) && szOk (a.length * k.toNat) then some (List.replicate k.toNat a).flatten else none
  | _, _ => none
def mOpO (f : MV → MV → Option (List MV)) (a b : ME) : ME := fun ρ => (a ρ).bind fun x ρ1 => (b ρ1).bind fun y ρ2 => match f x y with
  | some zs => .ok (.own zs, ρ2)
  | none => .stuck
section
variable {X : Cx} {c : Ct} {a b : Expr} {ma mb : ME} {pos : Pos}
def OpN (K : PySem.W.Frag) (f : MV → MV → Option (List MV)) (r : R2) : Prop := ∀ (x y : MV) (zs : List MV) (v w : V) (Hk H : Hp) (Q : VK), f x y = some zs → Ex Hk H → RV K Hk x v → RV K Hk y w →
  (∀ p vs, H p = none → RVs K Hk zs vs → Q (.ref p) (upd H p (.lst vs))) → r v w H Q
theorem mo_op {op : Operator} {f : MV → MV → Option (List MV)} {r : R2} (hop : OpR X (binaryOp op) r) (o : OpN c.K f r) (ha : PE X a (rdE c ma)) (hb : PE X b (rdE c mb)) : PE X (.BinOp a op b pos) (rdO c (mOpO f ma mb)) :=
  PEw (pe_op hop ha hb) fun σ H Q h => by
    obtain ⟨F, Hk, bp, ρ, S, h⟩ := h
    refine rdw (bE postO S h) fun v H1 ⟨Hk1, x, ρ1, x1, S1, r1, h1⟩ => ?_
    refine rdw (bE postO S1 h1) fun w H2 ⟨Hk2, y, ρ2, x2, S2, r2, h2⟩ => ?_
    split at h2
    · rename_i zs e
      exact o x y zs v w Hk2 H2 Q e S2.1.ex (RV.mono x2 _ _ r1) r2 fun p vs hp rv => h2 _ _ _ (Ex.refl _) (S2.1.pushOwn hp rv)
    · exact h2.elim
theorem on_mult {K : PySem.W.Frag} : OpN K fMultL (rMulM K) := by
  intro x y zs v w Hk H Q e ex r1 r2 q
  unfold fMultL at e
  split at e
  · rename_i a k
    split at e
    · rename_i h
      cases e
      simp only [Bool.and_eq_true, decide_eq_true_eq] at h
      obtain ⟨p1, vs, rfl, h1, s1⟩ := RV.lst.mp r1
      refine .inr (.inr (.inl ⟨p1, k, vs, rfl, RV.int.mp r2, ex _ _ h1, h.1.1, h.1.2, ?_, fun p hp => q p _ hp (RVs.rep s1 _)⟩))
      rw [s1.length]; exact szOk_iff.mp h.2
    · cases e
  · cases e
theorem mo_mult (ha : PE X a (rdE c ma)) (hb : PE X b (rdE c mb)) (hK : c.K = X.K := by rfl) : PE X (.BinOp a .Mult b pos) (rdO c (mOpO fMultL ma mb)) := mo_op op_mulM (by rw [← hK]; exact on_mult) ha hb
end
end Tm
set_option Elab.async false
set_option linter.all false
set_option maxRecDepth 100000
set_option maxHeartbeats 2000000
namespace Tm
open PySem L2
open Evl (Ex ex_rd ex_l ex_t)
section
variable {X : Cx} {c : Ct} {p pos apos cpos : Pos} {o e : Expr} {es : List Expr} {a : ME} {m : MA}
def smE (f : Str → List MV → Option MV) (z : Str) (ys : List MV) (ρ2 : Env) : Res (MV × Env) := match f z ys with | some w => .ok (w, ρ2) | none => .stuck
def mSm (f : Str → List MV → Option MV) (a : ME) (b : MA) : ME := fun ρ => (a ρ).bind fun x ρ1 => match x with
  | .str z => (b ρ1).bind (smE f z)
  | _ => .stuck
def SmS (K : PySem.W.Frag) (f : Str → List MV → Option MV) (r : V → List V → Hp → VK → Prop) : Prop := ∀ (z : Str) (ys : List MV) (w : MV) (us : List V) (Hk H : Hp) (Q : VK), f z ys = some w → Ex Hk H → RVs K Hk ys us → (∀ u, RV K Hk w u → Q u H) →
  (∀ q ob, H q = none → RV K (upd Hk q ob) w (.ref q) → Q (.ref q) (upd H q ob)) → r (.str z) us H Q
theorem rd_sm {f : Str → List MV → Option MV} {r : V → List V → Hp → VK → Prop} (s : SmS c.K f r) {σ : St} {H : Hp} {Q : VK} (h : rdE c (mSm f a m) σ H Q) : tBM c.K "str" r (rdE c a) (rdA c m) σ H Q := by
  obtain ⟨F, Hk, bp, ρ, S, h⟩ := h
  refine rdw (bE postE S h) fun v H1 ⟨Hk1, x, ρ1, x1, S1, r1, h1⟩ => ?_
  cases x with
  | str z =>
    rw [RV.str.mp r1]
    refine ⟨rfl, ?_⟩
    refine rdAw (bA postE S1 h1) fun us H2 ⟨Hk2, ys, ρ2, x2, S2, r2, h2⟩ => ?_
    have h2 : okE c F Hk2 bp σ Q (match f z ys with | some w => .ok (w, ρ2) | none => .stuck) := h2
    cases ef : f z ys with
    | none => rw [ef] at h2; exact h2.elim
    | some w =>
      rw [ef] at h2
      exact s z ys w us Hk2 H2 Q ef S2.1.ex r2 (fun u ru => h2 _ _ u (Ex.refl _) S2.1 ru) fun q ob hq ru => h2 _ _ _ (Ex.new (S2.1.ex.back hq)) (S2.1.new hq) ru
  | _ => exact h1.elim
theorem me_sm {f : Str → List MV → Option MV} {r : V → List V → Hp → VK → Prop} {id : String} {name : Str} (s : SmS c.K f r) (slot : Slot "str" name id) (hty : typeOf (.builtin id) = pure (.type "method_descriptor")) (hm : MtR X id r) (ho : PE X o (rdE c a)) (ha : PA X (e :: es) (rdA c m)) (hK : c.K = X.K := by rfl)
    (hbase : attributeBase o name X.env (eval o X.env) = eval o X.env := by rfl)
    (hfew : ((backTo cpos (starEach (e :: es) X.env)).all (fun x => !x.1) && (backToKw cpos (keywordEach [] X.env)).all (fun x => x.1.isSome)
      && decide ((e :: es).length + ([] : List Keyword).length + (if ([] : List Keyword).isEmpty then 0 else 1) < 30)) = true := by rfl)
    (hline : (apos.endLine == cpos.line) = true := by rfl) (hs : starEach (e :: es) X.env = (false, eval e X.env) :: starEach es X.env := by rfl) (hplain : (backTo cpos (starEach es X.env)).any (·.1) = false := by rfl) :
    PE X (.Call (.Attribute o name apos) (e :: es) [] cpos) (rdE c (mSm f a m)) :=
  PEw (pe_bm PySem.F.plainAttrs_str slot hty hm ho ha hbase hfew hline hs hplain) fun σ H Q h => by
    have := rd_sm s h
    rw [hK] at this
    exact this
end
def strsOf : List MV → Option (List Str)
  | [] => some []
  | .str z :: r => (match strsOf r with | some l => some (z :: l) | none => none)
  | _ :: _ => none
theorem strs_rv {K : PySem.W.Frag} {H : Hp} : ∀ {xs : List MV} {ss : List Str} {vs : List V}, strsOf xs = some ss → RVs K H xs vs → vs = ss.map V.str
  | [], ss, vs, h, r => by cases h; exact RVs.nil.mp r
  | .str z :: xs, ss, vs, h, r => by
    obtain ⟨v, us, rfl, r1, r2⟩ := RVs.cons.mp r
    unfold strsOf at h
    cases e : strsOf xs with
    | none => rw [e] at h; cases h
    | some l =>
      rw [e] at h
      cases h
      rw [RV.str.mp r1, strs_rv e r2]; rfl
  | .non :: _, _, _, h, _ => by cases h
  | .bl _ :: _, _, _, h, _ => by cases h
  | .int _ :: _, _, _, h, _ => by cases h
  | .tup _ :: _, _, _, h, _ => by cases h
  | .lst _ :: _, _, _, h, _ => by cases h
  | .own _ :: _, _, _, h, _ => by cases h
  | .raw _ :: _, _, _, h, _ => by cases h
  | .scr _ :: _, _, _, h, _ => by cases h
  | .fnc _ :: _, _, _, h, _ => by cases h
  | .obj _ _ :: _, _, _, h, _ => by cases h
  | .dct _ _ :: _, _, _, h, _ => by cases h
  | .dow _ _ :: _, _, _, h, _ => by cases h
  | .dot _ _ :: _, _, _, h, _ => by cases h
def joinM (z : Str) (ss : List Str) : Option MV := if decide ((ss.map (·.length)).sum + ss.length * z.length ≤ 16777216) then some (.str (Txt.join z ss)) else none
def smJoin : Str → List MV → Option MV
  | z, [.lst xs] => (strsOf xs).bind (joinM z)
  | z, [.tup xs] => (strsOf xs).bind (joinM z)
  | _, _ => none
theorem strs_map {K : PySem.W.Frag} {H : Hp} : ∀ (ss : List Str), RVs K H (ss.map MV.str) (ss.map V.str)
  | [] => RVs.nil.mpr rfl
  | s :: ss => RVs.cons.mpr ⟨_, _, rfl, RV.str.mpr rfl, strs_map ss⟩
theorem ss_join {K : PySem.W.Frag} : SmS K smJoin (fun x xs H Q => ∃ a p, ∃ ys : List Str, x = .str a ∧ xs = [.ref p] ∧ (SqL K H p (ys.map V.str) ∨ SqT K H p (ys.map V.str)) ∧ (ys.map (·.length)).sum + ys.length * a.length ≤ 16777216 ∧ Q (.str (Txt.join a ys)) H) := by
  intro z ys w us Hk H Q e ex r q qn
  have fin : ∀ ss, joinM z ss = some w → (ss.map (·.length)).sum + ss.length * z.length ≤ 16777216 ∧ w = .str (Txt.join z ss) := fun ss h => by
    unfold joinM at h
    split at h
    · rename_i hd
      exact ⟨of_decide_eq_true hd, by cases h; rfl⟩
    · cases h
  unfold smJoin at e
  split at e
  · rename_i xs
    obtain ⟨v, rfl, rv⟩ := rvs1 r
    obtain ⟨p, vs, rfl, h1, s1⟩ := RV.lst.mp rv
    cases es : strsOf xs with
    | none => rw [es] at e; cases e
    | some ss =>
      rw [es] at e
      obtain ⟨f1, rfl⟩ := fin ss e
      have := strs_rv es s1
      subst this
      exact ⟨z, p, ss, rfl, rfl, .inl (SqL.of (ex _ _ h1)), f1, q _ (RV.str.mpr rfl)⟩
  · rename_i xs
    obtain ⟨v, rfl, rv⟩ := rvs1 r
    obtain ⟨p, vs, rfl, h1, s1⟩ := RV.tup.mp rv
    cases es : strsOf xs with
    | none => rw [es] at e; cases e
    | some ss =>
      rw [es] at e
      obtain ⟨f1, rfl⟩ := fin ss e
      have := strs_rv es s1
      subst this
      exact ⟨z, p, ss, rfl, rfl, .inr (ex_t ex h1), f1, q _ (RV.str.mpr rfl)⟩
  · cases e
def smSplit : Str → List MV → Option MV
  | z, [.str b] => if (b.length == 0) = false ∧ z.length + 2 ≤ sizeLine then some (.lst ((Txt.split z b).map MV.str)) else none
  | _, _ => none
theorem ss_split {K : PySem.W.Frag} : SmS K smSplit (fun x xs H Q => ∃ a b, x = .str a ∧ xs = [.str b] ∧ (b.length == 0) = false ∧ a.length + 2 ≤ sizeLine ∧ rNewStrs (Txt.split a b) H Q) := by
  intro z ys w us Hk H Q e ex r q qn
  unfold smSplit at e
  split at e
  · rename_i b
    split at e
    · rename_i h
      cases e
      obtain ⟨v, rfl, rv⟩ := rvs1 r
      rw [RV.str.mp rv]
      exact ⟨z, b, rfl, rfl, h.1, h.2, fun p hp => qn p _ hp (RV.lst.mpr ⟨p, _, rfl, upd_same, strs_map _⟩)⟩
    · cases e
  · cases e
def smIndex : Str → List MV → Option MV
  | z, [.str b] => (match Builtin.Str.occurrences z b 0 z.length 1 with | i :: _ => some (.int (i : Nat)) | [] => none)
  | _, _ => none
theorem ss_index {K : PySem.W.Frag} : SmS K smIndex (fun x xs H Q => ∃ a b i rest, x = .str a ∧ xs = [.str b] ∧ Builtin.Str.occurrences a b 0 a.length 1 = i :: rest ∧ Q (.int (i : Nat)) H) := by
  intro z ys w us Hk H Q e ex r q qn
  unfold smIndex at e
  split at e
  · rename_i b
    split at e
    · rename_i i rest h
      cases e
      obtain ⟨v, rfl, rv⟩ := rvs1 r
      rw [RV.str.mp rv]
      exact ⟨z, b, i, rest, rfl, rfl, h, q _ (RV.int.mpr rfl)⟩
    · cases e
  · cases e
end Tm
set_option Elab.async false
set_option linter.all false
set_option maxRecDepth 100000
set_option maxHeartbeats 2000000
namespace Tm
open PySem L2
open Evl (Ex ex_rd ex_l ex_t)
inductive BA where
  | v (x : MV) | b (i : Nat)
abbrev MB := Env → Res (List BA × Env)
def idxB : List BA → List Nat
  | [] => []
  | .v _ :: r => idxB r
  | .b i :: r => i :: idxB r
def MV.held : MV → Bool
  | .own _ => true
  | .obj _ _ => true
  | _ => false
def fill : List BA → Env → Option (List MV)
  | [], _ => some []
  | .v x :: r, ρ => (match fill r ρ with | some xs => some (x :: xs) | none => none)
  | .b i :: r, ρ => (match ρ[i]?, fill r ρ with | some (some x), some xs => if x.held then some (x :: xs) else none | _, _ => none)
def back (ρ : Env) : List Nat → Env → Env
  | [], _ => ρ
  | i :: is, os => back (ρ.set i (os.head?).join) is os.tail
def BVs (K : PySem.W.Frag) (Hk : Hp) (σ : St) : List BA → List V → Prop
  | [], vs => vs = []
  | .v x :: r, vs => ∃ v us, vs = v :: us ∧ RV K Hk x v ∧ BVs K Hk σ r us
  | .b i :: r, vs => ∃ v us, vs = v :: us ∧ σ[i]? = some (some v) ∧ BVs K Hk σ r us
theorem BVs.mono {K : PySem.W.Frag} {Hk Hk' : Hp} {σ : St} (e : Ex Hk Hk') : ∀ {xs : List BA} {vs : List V}, BVs K Hk σ xs vs → BVs K Hk' σ xs vs
  | [], _, h => h
  | .v x :: r, vs, ⟨v, us, e1, e2, e3⟩ => ⟨v, us, e1, RV.mono e _ _ e2, BVs.mono e e3⟩
  | .b i :: r, vs, ⟨v, us, e1, e2, e3⟩ => ⟨v, us, e1, e2, BVs.mono e e3⟩
theorem BVs.length {K : PySem.W.Frag} {Hk : Hp} {σ : St} : ∀ {xs : List BA} {vs : List V}, BVs K Hk σ xs vs → vs.length = xs.length
  | [], _, h => by rw [show _ = [] from h]; rfl
  | .v x :: r, vs, ⟨v, us, e1, e2, e3⟩ => by rw [e1, List.length_cons, List.length_cons, e3.length]
  | .b i :: r, vs, ⟨v, us, e1, e2, e3⟩ => by rw [e1, List.length_cons, List.length_cons, e3.length]
def okBA (c : Ct) (F Hk : Hp) (bp : List (Nat × Addr)) (σ : St) (Q : List V → Hp → Prop) : Res (List BA × Env) → Prop
  | .ok (xs, ρ') => ∀ Hk' H' vs, Ex Hk Hk' → RS c.K F Hk' H' bp σ ρ' → BVs c.K Hk' σ xs vs → Q vs H'
  | .exc e ρ' => Wish c F Hk bp σ e ρ'
  | .stuck => False
theorem okBA.mono {c : Ct} {F Hk Hk' : Hp} {bp : List (Nat × Addr)} {σ : St} {Q : List V → Hp → Prop} {r : Res (List BA × Env)} (x : Ex Hk Hk') (h : okBA c F Hk bp σ Q r) : okBA c F Hk' bp σ Q r := by
  cases r with
  | ok a => exact fun Hk2 H2 v x2 => h Hk2 H2 v (x.trans x2)
  | exc e ρ => exact Wish.mono x h
  | stuck => exact h
end Tm
set_option Elab.async false
set_option linter.all false
set_option maxRecDepth 100000
set_option maxHeartbeats 2000000
namespace Tm
open PySem L2
open Evl (Ex ex_rd ex_l ex_t)
def cbE (f : MF) (args : List BA) (ρ : Env) : Res (MV × Env) := match fill args ρ with
  | some xs => (match f xs with | .ok (v, os) => .ok (v, back ρ (idxB args) os) | .exc e os => .exc e (back ρ (idxB args) os) | .stuck => .stuck)
  | none => .stuck
end Tm
set_option Elab.async false
set_option linter.all false
set_option maxRecDepth 100000
set_option maxHeartbeats 2000000
namespace Tm
open PySem L2
open Evl (Ex ex_rd ex_l ex_t)
def putM (f : Str) (v : MV) : List (Str × MV) → List (Str × MV)
  | [] => [(f, v)]
  | (g, x) :: r => if g = f then (g, v) :: r else (g, x) :: putM f v r
theorem look_eq {α : Type} {f g : Str} {x : α} {r : List (Str × α)} : ((g, x) :: r).lookup f = if g = f then some x else r.lookup f := by
  rw [List.lookup_cons]
  by_cases e : g = f
  · subst e; simp
  · rw [if_neg e]
    have : (f == g) = false := by simpa using fun z => e z.symm
    rw [this]
section
variable {K : PySem.W.Frag} {Hk H : Hp}
theorem OFs.fresh : ∀ {fs : List (Str × MV)} {vfs : List (Str × V)} {B : List Addr} {f : Str}, OFs K Hk H fs vfs B → fs.lookup f = none → vfs.lookup f = none ∧
    ∀ (Hk' H' : Hp) (x' : MV) (v' : V) (A1' : List Addr), Ex Hk Hk' → (∀ a ∈ B, ∀ o, H a = some o → H' a = some o) → OF K Hk' H' x' v' A1' → OFs K Hk' H' (putM f x' fs) (putF f v' vfs) (B ++ A1')
  | [], vfs, B, f, ⟨e1, e2⟩, _ => by
    subst e1 e2
    exact ⟨rfl, fun Hk' H' x' v' A1' ex k o' => ⟨v', [], A1', [], rfl, by simp, o', rfl, rfl⟩⟩
  | (n, y) :: fs, vfs, B, f, ⟨v, r, C, D, e1, e2, o1, o2⟩, h => by
    subst e1 e2
    rw [look_eq] at h
    by_cases e : n = f
    · rw [if_pos e] at h; cases h
    · rw [if_neg e] at h
      obtain ⟨g1, g4⟩ := OFs.fresh o2 h
      refine ⟨by rw [look_eq, if_neg e]; exact g1, fun Hk' H' x' v' A1' ex k o' => ?_⟩
      unfold putM putF
      rw [if_neg e, if_neg e]
      exact ⟨v, _, C, D ++ A1', rfl, by simp, o1.move ex fun a ha => k a (by simp [ha]), g4 Hk' H' x' v' A1' ex (fun a ha => k a (by simp [ha])) o'⟩
theorem OFs.len : ∀ {fs : List (Str × MV)} {vfs : List (Str × V)} {B : List Addr}, OFs K Hk H fs vfs B → vfs.length = fs.length
  | [], vfs, B, ⟨e1, _⟩ => by rw [e1]; rfl
  | _ :: fs, vfs, B, ⟨v, r, C, D, e1, e2, o1, o2⟩ => by rw [e1, List.length_cons, List.length_cons, o2.len]
theorem OV.obj {C : Str} {fs : List (Str × MV)} {v : V} {A : List Addr} : OV K Hk H (.obj C fs) v A ↔ ∃ p CA dx vfs B, v = .ref p ∧ A = p :: B ∧ PySem.W.nsIn K mainGlobals C = some (some (.ref CA)) ∧ H p = some (.ins CA dx vfs) ∧ OFs K Hk H fs vfs B ∧ (p :: B).Nodup := by
  unfold OV; rfl
theorem OF.own {xs : List MV} {v : V} {A : List Addr} : OF K Hk H (.own xs) v A ↔ ∃ p vs, v = .ref p ∧ A = [p] ∧ H p = some (.lst vs) ∧ RVs K Hk xs vs := by
  unfold OF; rfl
end
structure ObC (K : PySem.W.Frag) (C : Str) (fs : List Str) : Prop where
  ex : ∀ CA, PySem.W.nsIn K mainGlobals C = some (some (.ref CA)) → Cls K CA ∧ ∀ f ∈ fs, NoAttr K CA f
end Tm
set_option Elab.async false
set_option linter.all false
set_option maxRecDepth 100000
set_option maxHeartbeats 2000000
namespace Tm
open PySem L2
open Evl (Ex ex_rd ex_l ex_t)
structure ObM (P : Program) (w : World) (K : PySem.W.Frag) (mg : Str → Option Value) (base : Heap) (C m : Str) (k : Nat) (ps : List Str) (bs : List Nat) (f : MF) : Prop where
  ex : ∃ CA g fd, PySem.W.nsIn K mainGlobals C = some (some (.ref CA)) ∧ Cls K CA ∧ Meth K CA m g ∧ FnOk P w K mg base (L2N.CX P w) k g fd ps (spF K mg ps.length bs f) ∧ Binds K fd ps []
structure ObN (P : Program) (w : World) (K : PySem.W.Frag) (mg : Str → Option Value) (base : Heap) (C : Str) (k : Nat) (f : MF) : Prop where
  ex : ∃ CA g fd ps, PySem.W.nsIn K mainGlobals C = some (some (.ref CA)) ∧ mg C = some (.ref CA) ∧ Mk K CA g ∧ FnOk P w K mg base (L2N.CX P w) k g fd ps (spF K mg 1 [0] f) ∧ Binds K fd ps []
end Tm
set_option Elab.async false
set_option linter.all false
set_option maxRecDepth 100000
set_option maxHeartbeats 2000000
namespace Tm
open PySem L2
open Evl (Ex ex_rd ex_l ex_t)
def FnA (K : PySem.W.Frag) (a : Addr) : Prop := ∃ o, K.lookup a = some o ∧ o.cls = .type "function"
theorem FnA.ty {X : Cx} {pins : List (Addr × Obj)} {σ : St} {H : Hp} {s : Shared} {a : Addr} (I : Inv X pins σ H s) (h : FnA X.K a) : s.TypeIs (.ref a) "function" := by
  obtain ⟨o, h1, h2⟩ := h
  exact ⟨o, I.kIn _ _ h1, h2⟩
structure FnI (K : PySem.W.Frag) (N : List Str) : Prop where
  fn : ∀ x ∈ N, ∀ a, PySem.W.nsIn K mainGlobals x = some (some (.ref a)) → FnA K a
  inj : ∀ x ∈ N, ∀ y ∈ N, ∀ a, PySem.W.nsIn K mainGlobals x = some (some (.ref a)) → PySem.W.nsIn K mainGlobals y = some (some (.ref a)) → x = y
structure FnT (P : Program) (w : World) (K : PySem.W.Frag) (mg : Str → Option Value) (base : Heap) (T : List (Str × MF)) : Prop where
  ex : ∀ x f, T.lookup x = some f → ∀ a, PySem.W.nsIn K mainGlobals x = some (some (.ref a)) → ∃ fd ps, FnOk P w K mg base (L2N.CX P w) 2 a fd ps (spF K mg 1 [] f) ∧ PySem.W.keepIn K (.ref a) = true ∧ Binds K fd ps []
end Tm
set_option Elab.async false
set_option linter.all false
set_option maxRecDepth 100000
set_option maxHeartbeats 2000000
namespace Tm
open PySem L2
open Evl (Ex ex_rd ex_l ex_t)
section
variable {X : Cx} {c : Ct} {C x f : Str} {fl : List Str} {i : Nat} {p p2 pos apos cpos : Pos} {e : Expr} {es : List Expr}
structure FnG (K : PySem.W.Frag) (mg : Str → Option Value) (x : Str) : Prop where
  ex : ∃ a, mg x = some (.ref a) ∧ PySem.W.nsIn K mainGlobals x = some (some (.ref a))
end
end Tm
set_option Elab.async false
set_option linter.all false
set_option maxRecDepth 100000
set_option maxHeartbeats 2000000
namespace Tm
open PySem L2
open Evl (Ex ex_rd ex_l ex_t)
structure ObX (P : Program) (w : World) (K : PySem.W.Frag) (mg : Str → Option Value) (base : Heap) (C m : Str) (k : Nat) (ps : List Str) (sp : Sp) : Prop where
  ex : ∃ CA g fd, PySem.W.nsIn K mainGlobals C = some (some (.ref CA)) ∧ Cls K CA ∧ Meth K CA m g ∧ FnOk P w K mg base (L2N.CX P w) k g fd ps sp ∧ Binds K fd ps []
end Tm
set_option Elab.async false
set_option linter.all false
set_option maxRecDepth 100000
set_option maxHeartbeats 2000000
namespace Tm
open PySem L2
theorem nr {α : Sort _} {a b : α} (h : a = b) : a = b := h
section
variable {α β : Type} {a b : ME} {ρ ρ1 : Env} {r : Option MV} {x y z : MV}
@[simp] theorem bind_ok {x : α} {f : α → Env → Res (β × Env)} : (Res.ok (x, ρ)).bind f = f x ρ := nr rfl
@[simp] theorem bind_exc {e : MX} {f : α → Env → Res (β × Env)} : (Res.exc e ρ : Res (α × Env)).bind f = .exc e ρ := nr rfl
@[simp] theorem bind_stuck {f : α → Env → Res (β × Env)} : (Res.stuck : Res (α × Env)).bind f = .stuck := nr rfl
@[simp] theorem b0_ok {x : α} {f : α → Env → Res (β × Env)} : (Res.ok (x, ρ)).b0 f = f x ρ := nr rfl
@[simp] theorem mVar_ap {i : Nat} : mVar i (r :: ρ) = match (r :: ρ)[i]? with
  | some (some (.own xs)) => .ok (.lst xs, (r :: ρ).set i (some (.lst xs)))
  | some (some (.obj _ _)) => .stuck
  | some (some (.dow _ _)) => .stuck
  | some (some (.dot _ _)) => .stuck
  | some (some x) => .ok (x, (r :: ρ))
  | _ => .stuck := nr rfl
@[simp] theorem mC_ap  : mC x (r :: ρ) = .ok (x, (r :: ρ)) := nr rfl
@[simp] theorem mOp_ap {f : MV → MV → Option MV} : mOp f a b (r :: ρ) = (a (r :: ρ)).bind fun x ρ1 => (b ρ1).bind fun y ρ2 => match f x y with | some z => .ok (z, ρ2) | none => .stuck := nr rfl
@[simp] theorem mUn_ap {f : MV → Option MV} : mUn f a (r :: ρ) = (a (r :: ρ)).bind fun x ρ1 => match f x with | some z => .ok (z, ρ1) | none => .stuck := nr rfl
@[simp] theorem mTest_ap  : mTest a (r :: ρ) = (a (r :: ρ)).bind fun x ρ1 => match x with | .bl b => .ok (b, ρ1) | _ => .stuck := nr rfl
@[simp] theorem mChain_ap {f g : MV → MV → Option MV} {d : ME} : mChain f g a b d (r :: ρ) = (a (r :: ρ)).bind fun x ρ1 => (b ρ1).bind fun y ρ2 => match f x y with
  | some (.bl true) => (d ρ2).bind fun z ρ3 => match g y z with | some w => .ok (w, ρ3) | none => .stuck
  | some (.bl false) => .ok (.bl false, ρ2)
  | _ => .stuck := nr rfl
@[simp] theorem mAndT_ap {a b : MT} : mAndT a b (r :: ρ) = (a (r :: ρ)).bind fun x ρ1 => if x then b ρ1 else .ok (false, ρ1) := nr rfl
@[simp] theorem mOrT_ap {a b : MT} : mOrT a b (r :: ρ) = (a (r :: ρ)).bind fun x ρ1 => if x then .ok (true, ρ1) else b ρ1 := nr rfl
@[simp] theorem mNotT_ap {a : MT} : mNotT a (r :: ρ) = (a (r :: ρ)).bind fun x ρ1 => .ok (!x, ρ1) := nr rfl
@[simp] theorem mBv_ap {t : MT} : mBv t (r :: ρ) = (t (r :: ρ)).bind fun x ρ1 => .ok (.bl x, ρ1) := nr rfl
@[simp] theorem mNil_ap  : mNil (r :: ρ) = .ok ([], (r :: ρ)) := nr rfl
@[simp] theorem mCons_ap {b : MA} : mCons a b (r :: ρ) = (a (r :: ρ)).bind fun x ρ1 => (b ρ1).bind fun xs ρ2 => .ok (x :: xs, ρ2) := nr rfl
@[simp] theorem mTup_ap {a : MA} : mTup a (r :: ρ) = (a (r :: ρ)).bind fun xs ρ1 => if szOk xs.length then .ok (.tup xs, ρ1) else .stuck := nr rfl
@[simp] theorem mLst_ap {a : MA} : mLst a (r :: ρ) = (a (r :: ρ)).bind fun xs ρ1 => if szOk xs.length then .ok (.lst xs, ρ1) else .stuck := nr rfl
@[simp] theorem mLstO_ap {a : MA} : mLstO a (r :: ρ) = (a (r :: ρ)).bind fun xs ρ1 => if szOk xs.length then .ok (.own xs, ρ1) else .stuck := nr rfl
@[simp] theorem mNo_ap  : mNo (r :: ρ) = .ok (none, (r :: ρ)) := nr rfl
@[simp] theorem mPart_ap  : mPart a (r :: ρ) = (a (r :: ρ)).bind fun x ρ1 => match x with | .int i => .ok (some i, ρ1) | _ => .stuck := nr rfl
@[simp] theorem mSl_ap {l h : Env → Res (Option Int × Env)} : mSl a l h (r :: ρ) = (a (r :: ρ)).bind fun x ρ1 => (l ρ1).bind fun i ρ2 => (h ρ2).bind fun j ρ3 => match fSl x i j with | some z => .ok (z, ρ3) | none => .stuck := nr rfl
@[simp] theorem gSet_ap {i : Nat} : gSet i x (r :: ρ) = if i < (r :: ρ).length then some ((r :: ρ).set i (some x)) else none := nr rfl
@[simp] theorem gsNil_ap  : gsNil [] (r :: ρ) = some (r :: ρ) := nr rfl
@[simp] theorem gsCons_ap {g : MG} {h : List MV → Env → Option Env} {xs : List MV} : gsCons g h (x :: xs) (r :: ρ) = match g x (r :: ρ) with | some ρ1 => h xs ρ1 | none => none := nr rfl
@[simp] theorem gTp_tup {n : Nat} {h : List MV → Env → Option Env} {xs : List MV} : gTp n h (.tup xs) ρ = if xs.length = n then h xs ρ else none := nr rfl
@[simp] theorem gTp_lst {n : Nat} {h : List MV → Env → Option Env} {xs : List MV} : gTp n h (.lst xs) ρ = if xs.length = n then h xs ρ else none := nr rfl
@[simp] theorem mAsg_ap {g : MG} : mAsg a g (r :: ρ) = (a (r :: ρ)).bind fun x ρ1 => match g x ρ1 with | some ρ2 => .ok (.nx, ρ2) | none => .stuck := nr rfl
@[simp] theorem mSetO_ap {i : Nat} : mSetO i a (r :: ρ) = (a (r :: ρ)).bind fun x ρ1 => if i < ρ1.length then .ok (.nx, ρ1.set i (some x)) else .stuck := nr rfl
@[simp] theorem mPass_ap  : mPass (r :: ρ) = .ok (.nx, (r :: ρ)) := nr rfl
@[simp] theorem mSeq_ap {a b : MS} : mSeq a b (r :: ρ) = (a (r :: ρ)).bind fun f ρ1 => match f with | .nx => b ρ1 | f => .ok (f, ρ1) := nr rfl
@[simp] theorem mIfS_ap {t : MT} {a b : MS} : mIfS t a b (r :: ρ) = (t (r :: ρ)).bind fun x ρ1 => if x then a ρ1 else b ρ1 := nr rfl
@[simp] theorem mRet_ap  : mRet a (r :: ρ) = (a (r :: ρ)).bind fun x ρ1 => .ok (.rt x, ρ1) := nr rfl
@[simp] theorem mDrop_ap  : mDrop a (r :: ρ) = (a (r :: ρ)).bind fun _ ρ1 => .ok (.nx, ρ1) := nr rfl
@[simp] theorem mMove_ap {i : Nat} : mMove i (r :: ρ) = match (r :: ρ)[i]? with
  | some (some (.obj _ _)) => .stuck
  | some (some x) => .ok (x, (r :: ρ).set i none)
  | _ => .stuck := nr rfl
@[simp] theorem mFz_ap  : mFz a (r :: ρ) = (a (r :: ρ)).bind fun x ρ1 => match fz x with | some y => .ok (y, ρ1) | none => .stuck := nr rfl
@[simp] theorem mCall_ap {f : MF} {a : MA} : mCall f a (r :: ρ) = (a (r :: ρ)).bind fun xs ρ1 => match f xs with
  | .ok (v, _) => .ok (v, ρ1)
  | .exc e _ => .exc e ρ1
  | .stuck => .stuck := nr rfl
@[simp] theorem mCall0_ap {f : MF} {a : MA} : mCall0 f a (r :: ρ) = (a (r :: ρ)).bind fun xs ρ1 => match f xs with
  | .ok (v, _) => .ok (v, ρ1)
  | _ => .stuck := nr rfl
@[simp] theorem mBlt_ap {f : List MV → Option MV} {a : MA} : mBlt f a (r :: ρ) = (a (r :: ρ)).bind fun xs ρ1 => match f xs with | some z => .ok (z, ρ1) | none => .stuck := nr rfl
def r1M (xs : List MV) (ρ1 : Env) : Res (List MV × Env) := match xs with
  | [.int j] => if inR j then .ok (rngM 0 1 j.toNat, ρ1) else .stuck
  | _ => .stuck
@[simp] theorem mR1_ap {a : MA} : mR1 a (r :: ρ) = (a (r :: ρ)).bind r1M := nr rfl
@[simp] theorem r1M_i {j : Int} (h : inR j = true) : r1M [.int j] ρ = .ok (rngM 0 1 j.toNat, ρ) := if_pos h
def r3M (xs : List MV) (ρ1 : Env) : Res (List MV × Env) := match xs with
  | [.int i, .int j, .int k] => if rgOk i j k then .ok (rngM i k (Builtin.Range.rangeSize i j k).toNat, ρ1) else .stuck
  | _ => .stuck
@[simp] theorem mR3_ap {a : MA} : mR3 a (r :: ρ) = (a (r :: ρ)).bind r3M := nr rfl
@[simp] theorem r3M_i {i j k : Int} (h : rgOk i j k = true) : r3M [.int i, .int j, .int k] ρ = .ok (rngM i k (Builtin.Range.rangeSize i j k).toNat, ρ) := if_pos h
def lmM (f : List MV → List MV → Option (List MV × MV)) (i : Nat) (ys : List MV) (ρ1 : Env) : Res (MV × Env) := match ρ1[i]? with
  | some (some (.own xs)) => (match f xs ys with | some (zs, z) => .ok (z, ρ1.set i (some (.own zs))) | none => .stuck)
  | _ => .stuck
@[simp] theorem mLm_ap {f : List MV → List MV → Option (List MV × MV)} {i : Nat} {a : MA} : mLm f i a (r :: ρ) = if isOwn (r :: ρ) i then (a (r :: ρ)).bind (lmM f i) else .stuck := nr rfl
@[simp] theorem lmM_o {f : List MV → List MV → Option (List MV × MV)} {i : Nat} {xs ys : List MV} (h : ρ[i]? = some (some (.own xs))) : lmM f i ys ρ = (match f xs ys with | some (zs, z) => .ok (z, ρ.set i (some (.own zs))) | none => .stuck) := by unfold lmM; rw [h]
@[simp] theorem isOwn_o {i : Nat} {xs : List MV} (h : ρ[i]? = some (some (.own xs))) : isOwn ρ i = true := by unfold isOwn; rw [h]
@[simp] theorem has_o {i : Nat} {x : MV} (h : ρ[i]? = some (some x)) : has ρ i = true := by unfold has; rw [h]
@[simp] theorem flatM_i {k : Int} : flatM (.int k) = true := nr rfl
@[simp] theorem mItV_ap  : mItV a (r :: ρ) = (a (r :: ρ)).bind fun x ρ1 => match itemsOf x with | some xs => .ok (xs, ρ1) | none => .stuck := nr rfl
@[simp] theorem mZip_ap {a : MA} : mZip a (r :: ρ) = (a (r :: ρ)).bind fun xs ρ1 => match xs with
  | [x, y] => (match zitM x, zitM y with | some xs, some ys => .ok (zipM xs ys, ρ1) | _, _ => .stuck)
  | _ => .stuck := nr rfl
@[simp] theorem zitM_l {xs : List MV} : zitM (.lst xs) = some xs := nr rfl
@[simp] theorem zitM_t {xs : List MV} : zitM (.tup xs) = some xs := nr rfl
@[simp] theorem zitM_s {z : Str} : zitM (.str z) = some (signsM z) := nr rfl
@[simp] theorem mEnum_ap {a : MA} : mEnum a (r :: ρ) = (a (r :: ρ)).bind fun xs ρ1 => match xs with
  | [.lst xs] => .ok (enumFrom 0 xs, ρ1)
  | _ => .stuck := nr rfl
@[simp] theorem mYes_ap  : mYes (r :: ρ) = .ok (true, (r :: ρ)) := nr rfl
@[simp] theorem mFor_ap {i : MI} {g : MG} {b : MS} : mFor i g b (r :: ρ) = (i (r :: ρ)).bind fun xs ρ1 => mLoop g b xs ρ1 := nr rfl
@[simp] theorem mLcO_ap {it : MI} {g : Tgt} {t : MT} {vs : List Nat} : mLcO it g t a vs (r :: ρ) = (it (r :: ρ)).bind fun xs ρ1 => if perAt ρ1 vs then (mLcLoop g t a vs xs [] ρ1).b0 fun ys ρ2 => .ok (.own ys, backM ρ1 ρ2 vs) else .stuck := nr rfl
end
@[simp] theorem fz_lst {xs : List MV} : fz (.lst xs) = some (.lst xs) := nr rfl
@[simp] theorem fz_own {xs : List MV} : fz (.own xs) = some (.lst xs) := nr rfl
@[simp] theorem fz_tup {xs : List MV} : fz (.tup xs) = some (.tup xs) := nr rfl
@[simp] theorem fz_int {i : Int} : fz (.int i) = some (.int i) := nr rfl
@[simp] theorem fz_bl {i : Bool} : fz (.bl i) = some (.bl i) := nr rfl
@[simp] theorem fz_str {i : Str} : fz (.str i) = some (.str i) := nr rfl
@[simp] theorem fz_non : fz .non = some .non := nr rfl
@[simp] theorem fz_scr {i : List Int} : fz (.scr i) = some (.scr i) := nr rfl
section
variable {i j : Int}
@[simp] theorem fAdd_ii : fAdd (.int i) (.int j) = some (.int (i + j)) := nr rfl
@[simp] theorem fAdd_ss {a b : Str} : fAdd (.str a) (.str b) = if szOk (a.length + b.length) then some (.str (a ++ b)) else none := nr rfl
@[simp] theorem fAdd_ll {a b : List MV} : fAdd (.lst a) (.lst b) = if szOk (a.length + b.length) then some (.lst (a ++ b)) else none := nr rfl
@[simp] theorem fAdd_tt {a b : List MV} : fAdd (.tup a) (.tup b) = if szOk (a.length + b.length) then some (.tup (a ++ b)) else none := nr rfl
@[simp] theorem fSub_ii : fSub (.int i) (.int j) = some (.int (i - j)) := nr rfl
@[simp] theorem fMul_ii : fMul (.int i) (.int j) = if mulOk i j then some (.int (i * j)) else none := nr rfl
@[simp] theorem fDiv_ii : fDiv (.int i) (.int j) = if divOk j then some (.int (i.fdiv j)) else none := nr rfl
@[simp] theorem fMod_ii : fMod (.int i) (.int j) = if decide (j ≠ 0) then some (.int (i.fmod j)) else none := nr rfl
@[simp] theorem fPow_ii : fPow (.int i) (.int j) = if decide (0 ≤ j) && decide (j ≤ 1000000) && decide (i.natAbs < 2 ^ 64) then some (.int (i ^ j.toNat)) else none := nr rfl
@[simp] theorem fLt_ii : fLt (.int i) (.int j) = some (.bl (decide (i < j))) := nr rfl
@[simp] theorem fLe_ii : fLe (.int i) (.int j) = some (.bl (decide (i ≤ j))) := nr rfl
@[simp] theorem fGt_ii : fGt (.int i) (.int j) = some (.bl (decide (j < i))) := nr rfl
@[simp] theorem fGe_ii : fGe (.int i) (.int j) = some (.bl (decide (j ≤ i))) := nr rfl
@[simp] theorem fNeg_i : fNeg (.int i) = some (.int (-i)) := nr rfl
@[simp] theorem fEq_ii : fEq (.int i) (.int j) = some (.bl (decide (i = j))) := nr rfl
@[simp] theorem fNe_ii : fNe (.int i) (.int j) = some (.bl (!decide (i = j))) := nr rfl
@[simp] theorem fEq_ss {a b : Str} : fEq (.str a) (.str b) = some (.bl (decide (a = b))) := nr rfl
@[simp] theorem fNe_ss {a b : Str} : fNe (.str a) (.str b) = some (.bl (!decide (a = b))) := nr rfl
@[simp] theorem bLen_l {a : List MV} : bLen [.lst a] = some (.int a.length) := nr rfl
@[simp] theorem bLen_t {a : List MV} : bLen [.tup a] = some (.int a.length) := nr rfl
@[simp] theorem bLen_c {a : List Int} : bLen [.scr a] = some (.int a.length) := nr rfl
@[simp] theorem bAbs_i : bAbs [.int i] = some (.int (if i < 0 then -i else i)) := nr rfl
@[simp] theorem bMin_i : bMin [.int i, .int j] = some (.int (if j < i then j else i)) := nr rfl
@[simp] theorem bInt_i : bInt [.int i] = some (.int i) := nr rfl
@[simp] theorem bInt_b {k : Bool} : bInt [.bl k] = some (.int (if k then 1 else 0)) := nr rfl
@[simp] theorem fIx_l {a : List MV} : fIx (.lst a) (.int i) = atI a i := nr rfl
@[simp] theorem fIx_t {a : List MV} : fIx (.tup a) (.int i) = atI a i := nr rfl
@[simp] theorem fIx_c {a : List Int} : fIx (.scr a) (.int i) = (atI a i).map .int := nr rfl
@[simp] theorem itemsOf_l {a : List MV} : itemsOf (.lst a) = some a := nr rfl
@[simp] theorem itemsOf_t {a : List MV} : itemsOf (.tup a) = some a := nr rfl
@[simp] theorem itemsOf_c {a : List Int} : itemsOf (.scr a) = some (a.map .int) := nr rfl
@[simp] theorem bTuple_l {a : List MV} : bTuple [.lst a] = some (.tup a) := nr rfl
@[simp] theorem bTuple_t {a : List MV} : bTuple [.tup a] = some (.tup a) := nr rfl
@[simp] theorem lmAppend_1 {a : List MV} {y : MV} : lmAppend a [y] = if decide (a.length < sizeLine) then some (a ++ [y], .non) else none := nr rfl
end
@[simp] theorem nat_neg {k : Nat} : ((k : Int) < 0) = False := by simp
@[simp] theorem nat_toNat {k : Nat} : ((k : Int)).toNat = k := nr rfl
theorem szOk_small {n : Nat} (h : n ≤ 16777216) : szOk n = true := szOk_iff.mpr (by rw [sizeLine_eq]; exact h)
theorem atI_ge {α : Type} {xs : List α} {i : Int} (h : 0 ≤ i) : atI xs i = xs[i.toNat]? := by
  unfold atI ixN
  rw [if_pos h]
  by_cases e : i < xs.length
  · rw [if_pos e]; rfl
  · rw [if_neg e, List.getElem?_eq_none (by omega)]; rfl
@[simp] theorem atI_0 {α : Type} {xs : List α} : atI xs 0 = xs[0]? := atI_ge (by decide)
@[simp] theorem atI_1 {α : Type} {xs : List α} : atI xs 1 = xs[1]? := atI_ge (by decide)
@[simp] theorem atI_2 {α : Type} {xs : List α} : atI xs 2 = xs[2]? := atI_ge (by decide)
@[simp] theorem atI_3 {α : Type} {xs : List α} : atI xs 3 = xs[3]? := atI_ge (by decide)
@[simp] theorem atI_4 {α : Type} {xs : List α} : atI xs 4 = xs[4]? := atI_ge (by decide)
@[simp] theorem atI_5 {α : Type} {xs : List α} : atI xs 5 = xs[5]? := atI_ge (by decide)
@[simp] theorem atI_6 {α : Type} {xs : List α} : atI xs 6 = xs[6]? := atI_ge (by decide)
@[simp] theorem atI_7 {α : Type} {xs : List α} : atI xs 7 = xs[7]? := atI_ge (by decide)
@[simp] theorem atI_8 {α : Type} {xs : List α} : atI xs 8 = xs[8]? := atI_ge (by decide)
@[simp] theorem atI_9 {α : Type} {xs : List α} : atI xs 9 = xs[9]? := atI_ge (by decide)
@[simp] theorem atI_10 {α : Type} {xs : List α} : atI xs 10 = xs[10]? := atI_ge (by decide)
@[simp] theorem atI_11 {α : Type} {xs : List α} : atI xs 11 = xs[11]? := atI_ge (by decide)
@[simp] theorem atI_12 {α : Type} {xs : List α} : atI xs 12 = xs[12]? := atI_ge (by decide)
@[simp] theorem atI_13 {α : Type} {xs : List α} : atI xs 13 = xs[13]? := atI_ge (by decide)
@[simp] theorem atI_14 {α : Type} {xs : List α} : atI xs 14 = xs[14]? := atI_ge (by decide)
@[simp] theorem atI_15 {α : Type} {xs : List α} : atI xs 15 = xs[15]? := atI_ge (by decide)
theorem mulOk_l {i j : Int} (h1 : -(2 ^ 64) < i) (h2 : i < 2 ^ 64) : mulOk i j = true := by simp only [mulOk, Bool.or_eq_true, Bool.and_eq_true, decide_eq_true_eq]; exact .inl (.inl ⟨h1, h2⟩)
theorem mulOk_r {i j : Int} (h1 : -(2 ^ 64) < j) (h2 : j < 2 ^ 64) : mulOk i j = true := by simp only [mulOk, Bool.or_eq_true, Bool.and_eq_true, decide_eq_true_eq]; exact .inl (.inr ⟨h1, h2⟩)
theorem inR_of {i : Int} (h1 : -(2 ^ 62) ≤ i) (h2 : i < 2 ^ 62) : inR i = true := inR_iff.mpr ⟨h1, h2⟩
theorem loop_inv {g : MG} {b : MS} (I : Nat → Env → Prop) : ∀ (xs : List MV) (k : Nat) (ρ : Env), I k ρ → (∀ i x ρ, xs[i]? = some x → I (k + i) ρ → ∃ ρ1 ρ2, g x ρ = some ρ1 ∧ (b ρ1 = .ok (.nx, ρ2) ∨ b ρ1 = .ok (.ct, ρ2)) ∧ I (k + i + 1) ρ2) → ∃ ρ', mLoop g b xs ρ = .ok (.nx, ρ') ∧ I (k + xs.length) ρ'
  | [], k, ρ, h, _ => ⟨ρ, rfl, h⟩
  | x :: xs, k, ρ, h, hs => by
    obtain ⟨ρ1, ρ2, e1, e2, h2⟩ := hs 0 x ρ rfl h
    obtain ⟨ρ', e3, h3⟩ := loop_inv I xs (k + 1) ρ2 h2 (fun i y ρ hy hi => by
      have := hs (i + 1) y ρ (by simpa using hy) (by rw [show k + (i + 1) = k + 1 + i by omega]; exact hi)
      rw [show k + 1 + i + 1 = k + (i + 1) + 1 by omega]
      exact this)
    refine ⟨ρ', ?_, by rw [List.length_cons, show k + (xs.length + 1) = k + 1 + xs.length by omega]; exact h3⟩
    unfold mLoop
    rw [e1]
    rcases e2 with e2 | e2 <;> (simp only [e2, bind_ok]; exact e3)
theorem loop_rng {g : MG} {b : MS} {lo c : Int} {n : Nat} {ρ : Env} (I : Nat → Env → Prop) (h0 : I 0 ρ) (hs : ∀ i ρ, i < n → I i ρ → ∃ ρ1 ρ2, g (.int (lo + (i : Nat) * c)) ρ = some ρ1 ∧ (b ρ1 = .ok (.nx, ρ2) ∨ b ρ1 = .ok (.ct, ρ2)) ∧ I (i + 1) ρ2) :
    ∃ ρ', mLoop g b (rngM lo c n) ρ = .ok (.nx, ρ') ∧ I n ρ' := by
  obtain ⟨ρ', e, h⟩ := loop_inv I (rngM lo c n) 0 ρ h0 fun i x ρ hx hi => by
    have li := lt_get hx
    rw [rngM_len] at li
    rw [rngM_get li] at hx
    cases hx
    have := hs i ρ li (by simpa using hi)
    simpa using this
  rw [rngM_len, Nat.zero_add] at h
  exact ⟨ρ', e, h⟩
theorem loop_nxr {g : MG} {b : MS} {lo c : Int} {n : Nat} {ρ : Env} (I : Nat → Env → Prop) (h0 : I 0 ρ) (hs : ∀ i ρ, i < n → I i ρ → ∃ ρ1, g (.int (lo + (i : Nat) * c)) ρ = some ρ1 ∧ ∃ ρ2, b ρ1 = .ok (.nx, ρ2) ∧ I (i + 1) ρ2) :
    ∃ ρ', mLoop g b (rngM lo c n) ρ = .ok (.nx, ρ') ∧ I n ρ' := by
  refine loop_rng I h0 fun i ρ hi h => ?_
  obtain ⟨ρ1, e, ρ2, e2, h⟩ := hs i ρ hi h
  exact ⟨ρ1, ρ2, e, .inl e2, h⟩
def okD : Nat → MV → Bool
  | _, .non => true
  | _, .bl _ => true
  | _, .int _ => true
  | _, .str x => (PyData.str x).canLay0
  | n + 1, .tup xs => xs.all (okD n)
  | n + 1, .lst xs => xs.all (okD n)
  | _, _ => false
theorem okDs_to {n : Nat} (ih : ∀ x, okD n x = true → ∃ d, toD x = some d ∧ d.canLay0 = true ∧ d.depth ≤ n) : ∀ xs : List MV, xs.all (okD n) = true → ∃ ds, toDs xs = some ds ∧ PyData.canLayAll0 ds = true ∧ PyData.depthAll ds ≤ n
  | [], _ => ⟨[], rfl, by simp [PyData.canLayAll0], by simp [PyData.depthAll]⟩
  | x :: xs, h => by
    simp only [List.all_cons, Bool.and_eq_true] at h
    obtain ⟨d, e, c, p⟩ := ih x h.1
    obtain ⟨ds, es, cs, ps⟩ := okDs_to ih xs h.2
    refine ⟨d :: ds, by simp [toDs, e, es], by simp [PyData.canLayAll0, c, cs], by simp only [PyData.depthAll]; omega⟩
theorem okD_to : ∀ (n : Nat) (x : MV), okD n x = true → ∃ d, toD x = some d ∧ d.canLay0 = true ∧ d.depth ≤ n
  | n, .non, _ => ⟨_, rfl, rfl, by simp [PyData.depth]⟩
  | n, .bl _, _ => ⟨_, rfl, rfl, by simp [PyData.depth]⟩
  | n, .int _, _ => ⟨_, rfl, rfl, by simp [PyData.depth]⟩
  | n, .str x, h => ⟨.str x, rfl, by cases n <;> exact h, by simp [PyData.depth]⟩
  | 0, .tup _, h => by simp [okD] at h
  | 0, .lst _, h => by simp [okD] at h
  | n + 1, .tup xs, h => by
    obtain ⟨ds, e, c, p⟩ := okDs_to (okD_to n) xs h
    exact ⟨.tuple ds, by simp [toD, e], by simpa [PyData.canLay0] using c, by simp only [PyData.depth]; omega⟩
  | n + 1, .lst xs, h => by
    obtain ⟨ds, e, c, p⟩ := okDs_to (okD_to n) xs h
    exact ⟨.list ds, by simp [toD, e], by simpa [PyData.canLay0] using c, by simp only [PyData.depth]; omega⟩
  | n, .own _, h => by cases n <;> simp [okD] at h
  | n, .raw _, h => by cases n <;> simp [okD] at h
  | n, .scr _, h => by cases n <;> simp [okD] at h
  | n, .fnc _, h => by cases n <;> simp [okD] at h
  | n, .obj _ _, h => by cases n <;> simp [okD] at h
  | n, .dct _ _, h => by cases n <;> simp [okD] at h
  | n, .dow _ _, h => by cases n <;> simp [okD] at h
  | n, .dot _ _, h => by cases n <;> simp [okD] at h
theorem eqM_self {n : Nat} {x : MV} (hn : n ≤ 64) (h : okD n x = true) : eqM x x = some true := by
  unfold eqM
  by_cases hs : scalM x x = true
  · rw [if_pos hs]
    cases x <;> simp_all [scalM, sameM]
  · rw [if_neg hs]
    obtain ⟨d, e, c, p⟩ := okD_to n x h
    have hd : SeqAt.shaped d = true := by
      unfold SeqAt.shaped
      rw [c]
      simp
      omega
    rw [e]
    simp only [hd, Bool.and_self, if_true]
    rw [SeqAt.eqv_refl d c]
@[simp] theorem fEq_tt {xs : List MV} (h : xs.all (okD 20) = true) : fEq (.tup xs) (.tup xs) = some (.bl true) := by unfold fEq; rw [eqM_self (n := 21) (by decide) (x := .tup xs) h]; rfl
@[simp] theorem fNe_tt {xs : List MV} (h : xs.all (okD 20) = true) : fNe (.tup xs) (.tup xs) = some (.bl false) := by unfold fNe; rw [eqM_self (n := 21) (by decide) (x := .tup xs) h]; rfl
@[simp] theorem fEq_lle {xs : List MV} (h : xs.all (okD 20) = true) : fEq (.lst xs) (.lst xs) = some (.bl true) := by unfold fEq; rw [eqM_self (n := 21) (by decide) (x := .lst xs) h]; rfl
@[simp] theorem fNe_lle {xs : List MV} (h : xs.all (okD 20) = true) : fNe (.lst xs) (.lst xs) = some (.bl false) := by unfold fNe; rw [eqM_self (n := 21) (by decide) (x := .lst xs) h]; rfl
@[simp] theorem okD_i {n : Nat} {i : Int} : okD n (.int i) = true := by cases n <;> rfl
@[simp] theorem okD_b {n : Nat} {i : Bool} : okD n (.bl i) = true := by cases n <;> rfl
@[simp] theorem okD_n {n : Nat} : okD n .non = true := by cases n <;> rfl
@[simp] theorem fSl_t {xs : List MV} {lo hi : Option Int} : fSl (.tup xs) lo hi = some (.tup (cutM xs lo hi)) := nr rfl
@[simp] theorem fSl_l {xs : List MV} {lo hi : Option Int} : fSl (.lst xs) lo hi = some (.lst (cutM xs lo hi)) := nr rfl
@[simp] theorem cutM_none {xs : List MV} : cutM xs none none = xs := by simp [cutM, HT.sIx]
theorem cutM_to {xs : List MV} {k : Int} (h : 0 ≤ k) : cutM xs none (some k) = xs.take k.toNat := by
  simp [cutM, HT.sIx, show ¬ k < 0 by omega, List.take_eq_take_min]
theorem cutM_from {xs : List MV} {k : Int} (h : 0 ≤ k) : cutM xs (some k) none = xs.drop k.toNat := by
  simp [cutM, HT.sIx, show ¬ k < 0 by omega]
  by_cases e : k.toNat ≤ xs.length
  · rw [Nat.min_eq_left e, List.take_of_length_le (by simp)]
  · rw [Nat.min_eq_right (by omega), List.drop_of_length_le (by omega), List.drop_of_length_le (by omega)]; simp
end Tm
set_option Elab.async false
set_option linter.all false
set_option maxRecDepth 100000
set_option maxHeartbeats 2000000
namespace Tm
open PySem L2
theorem mFn_ok {n : Nat} {m : MS} {xs : List MV} {v : MV} (h : ∃ ρ, m (xs.map some ++ List.replicate (n - xs.length) none) = .ok (.rt v, ρ)) : mFn n [] m xs = .ok (v, []) := by
  obtain ⟨ρ, h⟩ := h
  unfold mFn; rw [h]; rfl
theorem fmod_lt' {a b : Int} (h : 0 < b) : a.fmod b < b := Int.fmod_lt_of_pos a h
theorem fmod_ge' {a b : Int} (h : 0 < b) : 0 ≤ a.fmod b := Int.fmod_nonneg_of_pos a h
theorem nat_fmod (a b : Nat) : (a : Int).fmod (b : Int) = ((a % b : Nat) : Int) := by rw [Int.fmod_eq_emod_of_nonneg _ (Int.natCast_nonneg b)]; exact (Int.natCast_emod a b).symm
theorem nat_fdiv (a b : Nat) : (a : Int).fdiv (b : Int) = ((a / b : Nat) : Int) := by rw [Int.fdiv_eq_ediv_of_nonneg _ (Int.natCast_nonneg b)]; exact (Int.natCast_ediv a b).symm
theorem back_wipe : ∀ (vs : List Nat) (ρ ρ' : Env), ρ.length = ρ'.length → (∀ j, j ∉ vs → ρ'[j]? = ρ[j]?) → backM ρ ρ' vs = ρ := by
  have key : ∀ (vs : List Nat) (ρ ρ' : Env) (j : Nat), ρ.length = ρ'.length → (backM ρ ρ' vs)[j]? = if j ∈ vs then ρ[j]? else ρ'[j]? := by
    intro vs
    induction vs with
    | nil => intro ρ ρ' j hl; simp [backM]
    | cons v vs ih =>
      intro ρ ρ' j hl
      show (backM ρ (ρ'.set v ((ρ[v]?).join)) vs)[j]? = _
      rw [ih ρ _ j (by simp [hl])]
      by_cases e : j ∈ vs
      · simp [e]
      · by_cases e2 : j = v
        · subst e2
          by_cases hlt : j < ρ'.length
          · simp [e, List.getElem?_set_self hlt, show j < ρ.length by omega]
          · simp [e, List.getElem?_eq_none (show ρ'.length ≤ j by omega), List.getElem?_eq_none (show ρ.length ≤ j by omega)]
            omega
        · simp [e, e2, List.getElem?_set_ne (Ne.symm e2)]
  intro vs ρ ρ' hl h
  apply List.ext_getElem?
  intro j
  rw [key vs ρ ρ' j hl]
  by_cases e : j ∈ vs
  · simp [e]
  · simp [e, h j e]
theorem wipe_other {ρ ρ' : Env} {vs : List Nat} (hl : ρ.length = ρ'.length) (h : wipeM ρ' vs = wipeM ρ vs) : ∀ j, j ∉ vs → ρ'[j]? = ρ[j]? := by
  intro j hj
  have h1 := wipeM_get ρ vs j
  have h2 := wipeM_get ρ' vs j
  rw [if_neg (by simp [hj])] at h1 h2
  rw [← h1, ← h2, h]
theorem lc_map {g : Tgt} {e : ME} {vs : List Nat} {W : Env} (y : MV → MV) : ∀ (xs acc : List MV) (ρ : Env), (∀ x ∈ xs, ∃ ρ1, setT g x W = some ρ1 ∧ e ρ1 = .ok (y x, ρ1) ∧ wipeM ρ1 vs = W ∧ ρ1.length = W.length) → wipeM ρ vs = W → ρ.length = W.length → acc.length + xs.length ≤ sizeLine →
    ∃ ρ', mLcLoop g mYes e vs xs acc ρ = .ok (acc ++ xs.map y, ρ') ∧ wipeM ρ' vs = W ∧ ρ'.length = W.length
  | [], acc, ρ, _, hw, hl, _ => ⟨ρ, by simp [mLcLoop], hw, hl⟩
  | x :: xs, acc, ρ, h, hw, hl, hz => by
    obtain ⟨ρ1, e1, e2, e3, e4⟩ := h x (List.mem_cons_self ..)
    rw [List.length_cons] at hz
    obtain ⟨ρ', r1, r2, r3⟩ := lc_map (g := g) (e := e) (vs := vs) y xs (acc ++ [y x]) ρ1 (fun z hz => h z (List.mem_cons_of_mem _ hz)) e3 e4 (by rw [List.length_append, List.length_singleton]; omega)
    refine ⟨ρ', ?_, r2, r3⟩
    unfold mLcLoop
    rw [hw, e1]
    simp only [mYes, b0_ok, if_true, e2]
    rw [if_pos ⟨by omega, by rw [e4, hl]⟩, r1]
    simp
theorem mLcO_map {it : MI} {g : Tgt} {e : ME} {vs : List Nat} {ρ ρ1 : Env} {xs : List MV} (y : MV → MV) (hi : it ρ = .ok (xs, ρ1)) (hp : perAt ρ1 vs = true) (hx : ∀ x ∈ xs, ∃ ρ2, setT g x (wipeM ρ1 vs) = some ρ2 ∧ e ρ2 = .ok (y x, ρ2) ∧ wipeM ρ2 vs = wipeM ρ1 vs ∧ ρ2.length = ρ1.length) (hz : xs.length ≤ sizeLine) :
    mLcO it g mYes e vs ρ = .ok (.own (xs.map y), ρ1) := by
  obtain ⟨ρ', r1, r2, r3⟩ := lc_map (g := g) (e := e) (vs := vs) (W := wipeM ρ1 vs) y xs [] ρ1 (fun x h => by
    obtain ⟨ρ2, a, b, c, d⟩ := hx x h
    exact ⟨ρ2, a, b, c, by rw [d, wipeM_len]⟩) rfl (wipeM_len ..).symm (by simpa using hz)
  unfold mLcO
  rw [hi, bind_ok, if_pos hp, r1]
  simp only [b0_ok, List.nil_append]
  rw [back_wipe vs ρ1 ρ' (by rw [r3, wipeM_len]) (wipe_other (by rw [r3, wipeM_len]) r2)]
def digs : Nat → Nat → List Nat
  | 0, _ => []
  | k + 1, n => n % 10 :: digs k (n / 10)
def digsB (k n : Nat) : List Nat := (digs k n).reverse
theorem digs_len : ∀ k n, (digs k n).length = k
  | 0, _ => rfl
  | k + 1, n => by simp [digs, digs_len k]
theorem digsB_len (k n : Nat) : (digsB k n).length = k := by simp [digsB, digs_len]
theorem digsB_step (k n : Nat) : digsB (k + 1) n = digsB k (n / 10) ++ [n % 10] := by simp [digsB, digs]
theorem loop_jx {σ β α : Type} {g : MG} {b : MS} (env : σ → β → Env) (item : α → MV) (f : σ → α → σ) (I : Nat → σ → Prop) : ∀ (xs : List α) (k : Nat) (s : σ) (z : β), I k s → (∀ i s z x, x ∈ xs → I i s → i < k + xs.length → (∃ ρ1, g (item x) (env s z) = some ρ1 ∧ ∃ z', b ρ1 = .ok (.nx, env (f s x) z')) ∧ I (i + 1) (f s x)) →
    (∃ z', mLoop g b (xs.map item) (env s z) = .ok (.nx, env (xs.foldl f s) z')) ∧ I (k + xs.length) (xs.foldl f s)
  | [], k, s, z, h, _ => ⟨⟨z, rfl⟩, h⟩
  | x :: xs, k, s, z, h, hs => by
    obtain ⟨⟨ρ1, e1, z', e2⟩, h2⟩ := hs k s z x (List.mem_cons_self ..) h (by simp)
    have := loop_jx (g := g) (b := b) env item f I xs (k + 1) (f s x) z' h2 (fun i s z y hy hi hl => hs i s z y (List.mem_cons_of_mem _ hy) hi (by simp; omega))
    rw [List.map_cons, List.foldl_cons, List.length_cons, show k + (xs.length + 1) = k + 1 + xs.length by omega]
    obtain ⟨⟨z2, e3⟩, h3⟩ := this
    refine ⟨⟨z2, ?_⟩, h3⟩
    unfold mLoop
    rw [e1]
    simp only [e2, bind_ok]
    exact e3
theorem loop_junk {σ β α : Type} {g : MG} {b : MS} (env : σ → β → Env) (item : α → MV) (f : σ → α → σ) (I : Nat → σ → Prop) (xs : List α) (s : σ) (z : β) (h0 : I 0 s)
    (hs : ∀ i s z x, x ∈ xs → I i s → i < xs.length → I (i + 1) (f s x) ∧ ∃ ρ1, g (item x) (env s z) = some ρ1 ∧ ∃ z', b ρ1 = .ok (.nx, env (f s x) z')) :
    (∃ z', mLoop g b (xs.map item) (env s z) = .ok (.nx, env (xs.foldl f s) z')) ∧ I xs.length (xs.foldl f s) := by
  have := loop_jx (g := g) (b := b) env item f I xs 0 s z h0 (fun i s z x hx hi hl => ⟨(hs i s z x hx hi (by simpa using hl)).2, (hs i s z x hx hi (by simpa using hl)).1⟩)
  rw [Nat.zero_add] at this
  exact this
theorem log2_small {n : Nat} (h : n < 10 ^ 200) : n.log2 < 1920 := by
  by_cases h0 : n = 0
  · subst h0; decide
  · rw [Nat.log2_lt h0]
    exact Nat.lt_trans h (by decide)
end Tm
set_option Elab.async false
set_option linter.all false
set_option maxRecDepth 100000
set_option maxHeartbeats 2000000
namespace Tm
open PySem L2
section
variable {α β : Type} {ρ : Env} {r : Option MV} {x f g y : Str} {a b : ME}
@[simp] theorem mRaise1_ap : mRaise1 x f a (r :: ρ) = (a (r :: ρ)).bind fun y ρ1 => .exc ⟨x, [(f, y)]⟩ ρ1 := nr rfl
def tryM (i : Nat) (tab : List (Str × Bool)) (mh : MX → MS) (q : Res (Fl × Env)) : Res (Fl × Env) := match q with
  | .ok r => .ok r
  | .stuck => .stuck
  | .exc e ρ1 => match tab.lookup e.cls with
    | some true => if decide (i < ρ1.length) && e.fs.all (fun p => flatM p.2) then (match mh e (ρ1.set i none) with
      | .ok (.rt v, ρ2) => .ok (.rt v, ρ2)
      | .ok (f, ρ2) => .ok (f, ρ2.set i none)
      | _ => .stuck) else .stuck
    | some false => .exc e ρ1
    | none => .stuck
def endM (i : Nat) (q : Res (Fl × Env)) : Res (Fl × Env) := match q with
  | .ok (.rt v, ρ2) => .ok (.rt v, ρ2)
  | .ok (f, ρ2) => .ok (f, ρ2.set i none)
  | _ => .stuck
variable {i : Nat} {tab : List (Str × Bool)} {mb : MS} {mh : MX → MS} {e : MX} {q : Fl × Env}
@[simp] theorem mTry_ap : mTry i tab mb mh (r :: ρ) = tryM i tab mh (mb (r :: ρ)) := nr rfl
@[simp] theorem tryM_ok : tryM i tab mh (.ok q) = .ok q := nr rfl
@[simp] theorem tryM_exc (h : tab.lookup e.cls = some true) (h2 : i < ρ.length) (h3 : e.fs.all (fun p => flatM p.2) = true) : tryM i tab mh (.exc e ρ) = endM i (mh e (ρ.set i none)) := by
  unfold tryM
  simp only [h, h2, h3, decide_true, Bool.and_self, if_true]
  rfl
@[simp] theorem endM_nx : endM i (.ok (.nx, ρ)) = .ok (.nx, ρ.set i none) := nr rfl
@[simp] theorem endM_br : endM i (.ok (.br, ρ)) = .ok (.br, ρ.set i none) := nr rfl
@[simp] theorem endM_ct : endM i (.ok (.ct, ρ)) = .ok (.ct, ρ.set i none) := nr rfl
@[simp] theorem endM_rt {v : MV} : endM i (.ok (.rt v, ρ)) = .ok (.rt v, ρ) := nr rfl
@[simp] theorem mExF_ap : mExF e f (r :: ρ) = match e.fs.lookup f with | some x => .ok (x, r :: ρ) | none => .stuck := nr rfl
@[simp] theorem mExIs_ap : mExIs e tab (r :: ρ) = match tab.lookup e.cls with | some b => .ok (.bl b, r :: ρ) | none => .stuck := nr rfl
theorem mFn_exc {n : Nat} {m : MS} {xs : List MV} {e : MX} (h : ∃ ρ, m (xs.map some ++ List.replicate (n - xs.length) none) = .exc e ρ) : mFn n [] m xs = .exc e [] := by
  obtain ⟨ρ, h⟩ := h
  unfold mFn; rw [h]; rfl
end
section
variable {i : Int} {b b' : Bool} {x y : Str}
@[simp] theorem fEq_nn : fEq .non .non = some (.bl true) := nr rfl
@[simp] theorem fNe_nn : fNe .non .non = some (.bl false) := nr rfl
@[simp] theorem fEq_ni : fEq .non (.int i) = some (.bl false) := nr rfl
@[simp] theorem fEq_in : fEq (.int i) .non = some (.bl false) := nr rfl
@[simp] theorem fNe_ni : fNe .non (.int i) = some (.bl true) := nr rfl
@[simp] theorem fNe_in : fNe (.int i) .non = some (.bl true) := nr rfl
@[simp] theorem fEq_ns : fEq .non (.str x) = some (.bl false) := nr rfl
@[simp] theorem fEq_sn : fEq (.str x) .non = some (.bl false) := nr rfl
@[simp] theorem fNe_ns : fNe .non (.str x) = some (.bl true) := nr rfl
@[simp] theorem fNe_sn : fNe (.str x) .non = some (.bl true) := nr rfl
@[simp] theorem fEq_bb : fEq (.bl b) (.bl b') = some (.bl (decide (b = b'))) := nr rfl
@[simp] theorem fNe_bb : fNe (.bl b) (.bl b') = some (.bl (!decide (b = b'))) := nr rfl
@[simp] theorem fEq_is : fEq (.int i) (.str x) = some (.bl false) := nr rfl
@[simp] theorem fEq_si : fEq (.str x) (.int i) = some (.bl false) := nr rfl
@[simp] theorem fIsN_n : fIsN .non .non = some (.bl true) := nr rfl
@[simp] theorem fIsN_i : fIsN (.int i) .non = some (.bl false) := nr rfl
@[simp] theorem fIsN_s : fIsN (.str x) .non = some (.bl false) := nr rfl
@[simp] theorem fIsN_t {xs : List MV} : fIsN (.tup xs) .non = some (.bl false) := nr rfl
@[simp] theorem fIsN_b : fIsN (.bl b) .non = some (.bl false) := nr rfl
end
def tOk (x : Str) : Prop := (PyData.str x).canLay0 = true
theorem okD_s {n : Nat} {x : Str} (h : tOk x) : okD n (.str x) = true := by cases n <;> exact h
theorem len_app (a b : Str) : (a ++ b).length = a.length + b.length := by
  rw [TL.len_tl, TL.len_tl, TL.len_tl, TL.tl_append, List.length_append]
theorem len_cut {z : Str} {lo hi : Option Int} : (cutS z lo hi).length ≤ z.length := by
  rw [TL.len_tl, TL.len_tl]
  show (List.take _ (List.drop _ z.cps.toList)).length ≤ z.cps.toList.length
  rw [List.length_take, List.length_drop]
  omega
@[simp] theorem fIx_s {z : Str} {i : Int} : fIx (.str z) (.int i) = if szOk z.length then (atI z.cps.toList i).map fun c => MV.str ⟨#[c]⟩ else none := nr rfl
@[simp] theorem fSl_s {z : Str} {lo hi : Option Int} : fSl (.str z) lo hi = if szOk z.length then some (.str (cutS z lo hi)) else none := nr rfl
@[simp] theorem bLen_s {z : Str} : bLen [.str z] = if szOk z.length then some (.int z.length) else none := nr rfl
theorem at_some {α : Type} {xs : List α} {i : Int} (h : 0 ≤ i) (h2 : i < xs.length) : ∃ x ∈ xs, atI xs i = some x := by
  rw [atI_ge h]
  have : i.toNat < xs.length := by omega
  exact ⟨xs[i.toNat], List.getElem_mem this, List.getElem?_eq_getElem this⟩
theorem fMul_l {a : List MV} {k : Int} (h : 0 ≤ k) (h2 : k < 2 ^ 63) (h3 : szOk (a.length * k.toNat) = true) : fMul (.lst a) (.int k) = some (.lst (List.replicate k.toNat a).flatten) := by
  show (if (decide (-(2 ^ 63) ≤ k) && decide (k < 2 ^ 63) && szOk (a.length * k.toNat)) = true then some (MV.lst (List.replicate k.toNat a).flatten) else none) = _
  rw [if_pos]
  simp only [h2, h3, decide_true, Bool.and_true, decide_eq_true_eq]
  omega
theorem rep_one {α : Type} (x : α) (k : Nat) : (List.replicate k [x]).flatten = List.replicate k x := by
  induction k with
  | zero => rfl
  | succ k ih => rw [List.replicate_succ, List.flatten_cons, ih]; rfl
theorem fMul_1 {x : MV} {k : Nat} (h : k < 1000000) : fMul (.lst [x]) (.int (k : Nat)) = some (.lst (List.replicate k x)) := by
  rw [fMul_l (by omega) (by omega) (szOk_small (by simp; omega))]
  show some (MV.lst (List.replicate k [x]).flatten) = _
  rw [rep_one]
@[simp] theorem fMul_10 {x : MV} : fMul (.lst [x]) (.int 0) = some (.lst []) := fMul_1 (k := 0) (by decide)
@[simp] theorem fMul_11 {x : MV} : fMul (.lst [x]) (.int 1) = some (.lst [x]) := fMul_1 (k := 1) (by decide)
@[simp] theorem mOpO_ap {f : MV → MV → Option (List MV)} {a b : ME} {r : Option MV} {ρ : Env} : mOpO f a b (r :: ρ) = (a (r :: ρ)).bind fun x ρ1 => (b ρ1).bind fun y ρ2 => match f x y with | some zs => .ok (.own zs, ρ2) | none => .stuck := nr rfl
theorem fMultL_l {a : List MV} {k : Int} (h : 0 ≤ k) (h2 : k < 2 ^ 63) (h3 : szOk (a.length * k.toNat) = true) : fMultL (.lst a) (.int k) = some (List.replicate k.toNat a).flatten := by
  show (if (decide (-(2 ^ 63) ≤ k) && decide (k < 2 ^ 63) && szOk (a.length * k.toNat)) = true then some (List.replicate k.toNat a).flatten else none) = _
  rw [if_pos]
  simp only [h2, h3, decide_true, Bool.and_true, decide_eq_true_eq]
  omega
theorem fMultL_1 {x : MV} {k : Nat} (h : k < 1000000) : fMultL (.lst [x]) (.int (k : Nat)) = some (List.replicate k x) := by
  rw [fMultL_l (by omega) (by omega) (szOk_small (by simp; omega))]
  show some (List.replicate k [x]).flatten = _
  rw [rep_one]
end Tm
set_option Elab.async false
set_option linter.all false
set_option maxRecDepth 100000
set_option maxHeartbeats 2000000
namespace Tm
open PySem L2
theorem lc_filt {g : Tgt} {t : MT} {e : ME} {vs : List Nat} {W : Env} (p : MV → Bool) (y : MV → MV) : ∀ (xs acc : List MV) (ρ : Env), (∀ x ∈ xs, ∃ ρ1, setT g x W = some ρ1 ∧ t ρ1 = .ok (p x, ρ1) ∧ (p x = true → e ρ1 = .ok (y x, ρ1)) ∧ wipeM ρ1 vs = W ∧ ρ1.length = W.length) → wipeM ρ vs = W → ρ.length = W.length → acc.length + xs.length ≤ sizeLine →
    ∃ ρ', mLcLoop g t e vs xs acc ρ = .ok (acc ++ (xs.filter p).map y, ρ') ∧ wipeM ρ' vs = W ∧ ρ'.length = W.length
  | [], acc, ρ, _, hw, hl, _ => ⟨ρ, by simp [mLcLoop], hw, hl⟩
  | x :: xs, acc, ρ, h, hw, hl, hz => by
    obtain ⟨ρ1, e1, et, e2, e3, e4⟩ := h x (List.mem_cons_self ..)
    rw [List.length_cons] at hz
    cases hp : p x with
    | true =>
      obtain ⟨ρ', r1, r2, r3⟩ := lc_filt (g := g) (t := t) (e := e) (vs := vs) p y xs (acc ++ [y x]) ρ1 (fun z hz => h z (List.mem_cons_of_mem _ hz)) e3 e4 (by rw [List.length_append, List.length_singleton]; omega)
      refine ⟨ρ', ?_, r2, r3⟩
      unfold mLcLoop
      rw [hw, e1]
      simp only [et, hp, b0_ok, if_true, e2 hp]
      rw [if_pos ⟨by omega, by rw [e4, hl]⟩, r1, List.filter_cons_of_pos hp]
      simp
    | false =>
      obtain ⟨ρ', r1, r2, r3⟩ := lc_filt (g := g) (t := t) (e := e) (vs := vs) p y xs acc ρ1 (fun z hz => h z (List.mem_cons_of_mem _ hz)) e3 e4 (by omega)
      refine ⟨ρ', ?_, r2, r3⟩
      unfold mLcLoop
      rw [hw, e1]
      simp only [et, hp, b0_ok, Bool.false_eq_true, if_false]
      rw [if_pos (by rw [e4, hl]), r1, List.filter_cons_of_neg (by simp [hp])]
theorem mLcO_filt {it : MI} {g : Tgt} {t : MT} {e : ME} {vs : List Nat} {ρ ρ1 : Env} {xs : List MV} (p : MV → Bool) (y : MV → MV) (hi : it ρ = .ok (xs, ρ1)) (hp : perAt ρ1 vs = true) (hx : ∀ x ∈ xs, ∃ ρ2, setT g x (wipeM ρ1 vs) = some ρ2 ∧ t ρ2 = .ok (p x, ρ2) ∧ (p x = true → e ρ2 = .ok (y x, ρ2)) ∧ wipeM ρ2 vs = wipeM ρ1 vs ∧ ρ2.length = ρ1.length) (hz : xs.length ≤ sizeLine) :
    mLcO it g t e vs ρ = .ok (.own ((xs.filter p).map y), ρ1) := by
  obtain ⟨ρ', r1, r2, r3⟩ := lc_filt (g := g) (t := t) (e := e) (vs := vs) (W := wipeM ρ1 vs) p y xs [] ρ1 (fun x h => by
    obtain ⟨ρ2, a, b, c, d, f⟩ := hx x h
    exact ⟨ρ2, a, b, c, d, by rw [f, wipeM_len]⟩) rfl (wipeM_len ..).symm (by simpa using hz)
  unfold mLcO
  rw [hi, bind_ok, if_pos hp, r1]
  simp only [b0_ok, List.nil_append]
  rw [back_wipe vs ρ1 ρ' (by rw [r3, wipeM_len]) (wipe_other (by rw [r3, wipeM_len]) r2)]
theorem set_none {ρ : Env} {v : Nat} (hv : ρ[v]? = some none) : ρ.set v none = ρ := by
  apply List.ext_getElem?
  intro j
  by_cases e : v = j
  · subst e; rw [List.getElem?_set_self (lt_get hv), hv]
  · rw [List.getElem?_set_ne e]
theorem mLcO_nmf {it : MI} {t : MT} {e : ME} {v : Nat} {ρ : Env} {xs : List MV} (p : MV → Bool) (y : MV → MV) (hi : it ρ = .ok (xs, ρ)) (hv : ρ[v]? = some none) (ht : ∀ x ∈ xs, t (ρ.set v (some x)) = .ok (p x, ρ.set v (some x))) (he : ∀ x ∈ xs, p x = true → e (ρ.set v (some x)) = .ok (y x, ρ.set v (some x))) (hz : xs.length ≤ sizeLine) :
    mLcO it (.nm v) t e [v] ρ = .ok (.own ((xs.filter p).map y), ρ) := by
  have lv := lt_get hv
  have w : wipeM ρ [v] = ρ := set_none hv
  refine mLcO_filt p y hi (by simp [perAt, hv]) (fun x hx => ?_) hz
  rw [w]
  refine ⟨ρ.set v (some x), by simp [setT, lv], ht x hx, he x hx, ?_, by simp⟩
  show (ρ.set v (some x)).set v none = ρ
  rw [List.set_set]
  exact w
theorem mLcO_nm {it : MI} {e : ME} {v : Nat} {ρ : Env} {xs : List MV} (y : MV → MV) (hi : it ρ = .ok (xs, ρ)) (hv : ρ[v]? = some none) (he : ∀ x ∈ xs, e (ρ.set v (some x)) = .ok (y x, ρ.set v (some x))) (hz : xs.length ≤ sizeLine) :
    mLcO it (.nm v) mYes e [v] ρ = .ok (.own (xs.map y), ρ) := by
  have := mLcO_nmf (t := mYes) (fun _ => true) y hi hv (fun _ _ => rfl) (fun x hx _ => he x hx) hz
  rwa [List.filter_eq_self.mpr (fun _ _ => rfl)] at this
section
variable {α β : Type} {a b : ME} {m : MA} {ρ : Env} {r : Option MV}
@[simp] theorem mSm_ap {f : Str → List MV → Option MV} : mSm f a m (r :: ρ) = (a (r :: ρ)).bind fun x ρ1 => match x with | .str z => (m ρ1).bind (smE f z) | _ => .stuck := nr rfl
theorem smE_ok {f : Str → List MV → Option MV} {z : Str} {ys : List MV} {w : MV} (h : f z ys = some w) : smE f z ys ρ = .ok (w, ρ) := by unfold smE; rw [h]
end
theorem strsOf_map : ∀ ss : List Str, strsOf (ss.map MV.str) = some ss
  | [] => rfl
  | s :: ss => by
    show (match strsOf (ss.map MV.str) with | some l => some (s :: l) | none => none) = _
    rw [strsOf_map ss]
@[simp] theorem fMul_s {a : Str} {k : Int} : fMul (.str a) (.int k) = if decide (-(2 ^ 63) ≤ k) && decide (k < 2 ^ 63) && szOk (a.length * k.toNat) then some (.str (repS a k)) else none := nr rfl
theorem fMul_tk {a : List MV} {k : Int} (h : 2 ≤ k ∧ k ≤ 1000) (h2 : a.length ≤ 1000) : fMul (.tup a) (.int k) = some (.tup (List.replicate k.toNat a).flatten) := by
  refine if_pos ?_
  simp only [Bool.and_eq_true, Bool.or_eq_true, decide_eq_true_eq]
  exact ⟨⟨by omega, by omega⟩, .inr ⟨h, h2⟩⟩
theorem fMul_tup {a : List MV} {k : Int} : fMul (.tup a) (.int k) = if (decide (-(2 ^ 63) ≤ k) && decide (k < 2 ^ 63) && (decide (k = 1) || a.isEmpty || (decide (2 ≤ k) && decide (k ≤ 1000) && decide (a.length ≤ 1000)))) = true then some (.tup (List.replicate k.toNat a).flatten) else none := rfl
@[simp] theorem fMul_t1 {a : List MV} : fMul (.tup a) (.int 1) = some (.tup a) := by
  rw [fMul_tup, if_pos (by simp)]
  simp
end Tm
set_option Elab.async false
set_option linter.all false
set_option maxRecDepth 100000
set_option maxHeartbeats 2000000
namespace Tm
open PySem L2
section
variable {ρ : Env} {r : Option MV}
@[simp] theorem cbE_ap {f : MF} {args : List BA} : cbE f args (r :: ρ) = match fill args (r :: ρ) with
  | some xs => (match f xs with | .ok (v, os) => .ok (v, back (r :: ρ) (idxB args) os) | .exc e os => .exc e (back (r :: ρ) (idxB args) os) | .stuck => .stuck)
  | none => .stuck := nr rfl
@[simp] theorem fill_nil {ρ : Env} : fill [] ρ = some [] := nr rfl
@[simp] theorem fill_v {ρ : Env} {x : MV} {s : List BA} : fill (.v x :: s) ρ = match fill s ρ with | some xs => some (x :: xs) | none => none := nr rfl
@[simp] theorem fill_b {ρ : Env} {i : Nat} {s : List BA} : fill (.b i :: s) ρ = match ρ[i]?, fill s ρ with | some (some x), some xs => if x.held then some (x :: xs) else none | _, _ => none := nr rfl
@[simp] theorem idxB_nil : idxB [] = [] := nr rfl
@[simp] theorem idxB_v {x : MV} {s : List BA} : idxB (.v x :: s) = idxB s := nr rfl
@[simp] theorem idxB_b {i : Nat} {s : List BA} : idxB (.b i :: s) = i :: idxB s := nr rfl
@[simp] theorem back_nil {ρ os : Env} : back ρ [] os = ρ := nr rfl
@[simp] theorem back_cons {ρ os : Env} {i : Nat} {is : List Nat} {o : Option MV} : back ρ (i :: is) (o :: os) = back (ρ.set i o) is os := nr rfl
@[simp] theorem held_own {xs : List MV} : (MV.own xs).held = true := nr rfl
@[simp] theorem held_obj {C : Str} {fs : List (Str × MV)} : (MV.obj C fs).held = true := nr rfl
end
theorem char_list_inj : ∀ {a b : List Char}, a.map Char.toNat = b.map Char.toNat → a = b
  | [], [], _ => rfl
  | [], _ :: _, h => by simp at h
  | _ :: _, [], h => by simp at h
  | c :: a, d :: b, h => by
    simp only [List.map_cons, List.cons.injEq] at h
    have e : c = d := by rw [← Char.ofNat_toNat c, ← Char.ofNat_toNat d, h.1]
    rw [e, char_list_inj h.2]
@[simp] theorem str_inj {a b : String} : (Str.ofString a = Str.ofString b) = (a = b) := by
  refine propext ⟨fun h => ?_, fun h => by rw [h]⟩
  rw [Str.ofString_eq_toList, Str.ofString_eq_toList] at h
  have h2 := congrArg (fun z : Str => z.cps.toList) h
  simp only at h2
  exact String.toList_inj.mp (char_list_inj h2)
end Tm
set_option Elab.async false
set_option linter.all false
set_option maxRecDepth 100000
set_option maxHeartbeats 2000000
namespace Tm
open PySem L2 PySem.Spec PyProof.Rows HotX
section
variable {prog : Program} {w : World} {A : Around} {E : Value → Shared → Prop} {s : Shared}
theorem hot_two {h : Heap} {x1 it : Addr} {o1 o : Obj} {vs1 : Array Value} {a b : Value} (h1 : h.get? x1 = some o1) (d1 : o1.data = .fields vs1) (c1 : vs1[2]? = some .none) (ho : h.get? it = some o) (hd : o.data = .fields #[a, b]) : it ≠ x1 := fun z => by
  rw [z, h1] at ho
  cases ho
  rw [d1] at hd
  cases hd
  simp at c1
theorem stop_hot {it x1 : Addr} {f : Obj → Obj} {R : Fin → Shared → Prop} {Q : Option Value → Shared → Prop} (hot : HotAt A x1 s.heap) (ne : it ≠ x1) (hQ : ∀ h', Heap.ExtBut it s.heap h' → Q none { s with heap := h' }) :
    wpAny (model prog w) A.in1 Builtin.SmallTypes.stopIteration R (fun e s' => wpAny (model prog w) A (do
      let b ← isInstance e (Value.type "StopIteration")
      if b = true then pure none else throw e) Q E s') { s with heap := s.heap.update it f } := by
  obtain ⟨hh, o1, vs1, h1, d1, c1⟩ := hot
  have h2 : (s.heap.update it f).get? x1 = some o1 := (Heap.get?_update_other _ f ne).trans h1
  show wpAny _ _ (newExc (.type "StopIteration") [] >>= _) _ _ _
  refine wpAny_bind ?_
  simp only [newExc, newTuple]
  refine wpAny_bind (wpAny_newObj_type ?_ (by size_fits))
  refine wpAny_bind (m := firstArgMember _ _) (wpAny_of_eq (a := Value.none) (by first | rfl | (simp only [firstArgMember]; rfl)) ?_)
  refine wpAny_newObj_type ?_ (by size_fits)
  have p2 := fun (o o' : Obj) => Heap.get?_push_of_some o' (Heap.get?_push_of_some o h2)
  refine raiseNew_hot ⟨hh, o1, vs1, p2 _ _, d1, c1⟩ (Nat.ne_of_lt (Heap.lt_size (Heap.get?_push_of_some _ h2))) (Heap.get?_push_size _ rfl) rfl (by first | (simp; done) | (simp; omega)) ?_
  refine wpAny_bind (wpAny_isInstance (T := "StopIteration") (b := true) ⟨_, Heap.get?_update_self _ (Heap.get?_push_size _ rfl) rfl, rfl⟩ isSubtype_stop (wpAny_pure (hQ _ fun b o hb e => ?_)))
  have e1 : (s.heap.update it f).get? b = some o := (Heap.get?_update_other _ f (Ne.symm hb)).trans e
  rw [Heap.get?_update_other _ _ (Nat.ne_of_gt (Heap.lt_size (Heap.get?_push_of_some _ e1)))]
  exact Heap.get?_push_of_some _ (Heap.get?_push_of_some _ e1)
theorem list_end_hot {it l x1 : Addr} {i : Nat} {items : Array Value} {Q : Option Value → Shared → Prop} (hot : HotAt A x1 s.heap) (hit : s.heap.IsListIter it l i) (hl : s.heap.IsList l items) (hx : items[i]? = none)
    (hQ : ∀ h', Heap.ExtBut it s.heap h' → Q none { s with heap := h' }) : wpAny (model prog w) A (pyNext (.ref it)) Q E s := by
  obtain ⟨o, ho, _, hd⟩ := id hit
  obtain ⟨_, h1, _, _, h2⟩ := hl
  have ne : it ≠ x1 := by
    obtain ⟨_, _, _, g1, g2, g3⟩ := id hot
    exact hot_two g1 g2 g3 ho hd
  unfold pyNext
  refine wpAny_bind (wpAny_attempt (wpAny_callSpecial?_slot (name := Str.ofString "__next__") hit.typeIs slot_listiter_next (wpAny_call_entry slot_listiter_next hit.typeIs entry_listiter_next ?_ (args_listiter_next _))))
  show wpAny _ _ (field (.ref it) 0 >>= _) _ _ s
  refine wpAny_bind (wpAny_field ho hd (x := .ref l) rfl ?_)
  show wpAny _ _ (if (Value.ref l == Value.none) = true then _ else _) _ _ s
  rw [if_neg (by exact Bool.false_ne_true)]
  show wpAny _ _ (field (.ref it) 1 >>= _) _ _ s
  refine wpAny_bind (wpAny_field ho hd (x := .int i 0) rfl (wpAny_bind (wpAny_seqItems h1 h2 ?_)))
  simp only [Int.toNat_natCast, hx]
  refine wpAny_bind (wpAny_rule (wpAny_bind (wpAny_setField ho hd (by simp) ?_)))
  exact stop_hot hot ne hQ
theorem tup_end_hot {it t x1 : Addr} {i : Nat} {items : Array Value} {Q : Option Value → Shared → Prop} (hot : HotAt A x1 s.heap) (hit : IsTupIter s.heap it t i) (ht : IsTup s.heap t items) (hx : items[i]? = none)
    (hQ : ∀ h', Heap.ExtBut it s.heap h' → Q none { s with heap := h' }) : wpAny (model prog w) A (pyNext (.ref it)) Q E s := by
  obtain ⟨o, ho, _, hd⟩ := id hit
  obtain ⟨_, h1, _, _, h2⟩ := ht
  have ne : it ≠ x1 := by
    obtain ⟨_, _, _, g1, g2, g3⟩ := id hot
    exact hot_two g1 g2 g3 ho hd
  unfold pyNext
  refine wpAny_bind (wpAny_attempt (wpAny_callSpecial?_slot (name := Str.ofString "__next__") hit.typeIs slot_tupleiter_next (wpAny_call_entry slot_tupleiter_next hit.typeIs entry_tupleiter_next ?_ (args_tupleiter_next _))))
  show wpAny _ _ (field (.ref it) 0 >>= _) _ _ s
  refine wpAny_bind (wpAny_field ho hd (x := .ref t) rfl ?_)
  show wpAny _ _ (if (Value.ref t == Value.none) = true then _ else _) _ _ s
  rw [if_neg (by exact Bool.false_ne_true)]
  show wpAny _ _ (field (.ref it) 1 >>= _) _ _ s
  refine wpAny_bind (wpAny_field ho hd (x := .int i 0) rfl (wpAny_bind (wpAny_seqItems h1 h2 ?_)))
  simp only [Int.toNat_natCast, hx]
  refine wpAny_bind (wpAny_rule (wpAny_bind (wpAny_setField ho hd (by simp) ?_)))
  exact stop_hot hot ne hQ
theorem unpack_hot {env : PySem.Env} {elts : List Expr} {k : Nat} {pos : Pos} {t x1 : Addr} {items : Array Value} {Q : Unit → Shared → Prop} (hot : HotAt A x1 s.heap) (ht : IsTup s.heap t items)
    (hn : (assignEach elts env).length = items.size) (hst : (assignEach elts env).findIdx? (·.1) = none)
    (h : ∀ h', Heap.ExtBut s.heap.objs.size s.heap h' → wpAny (model prog w) A (assignInOrder ((assignEach elts env).map (·.2)) items.toList) Q E { s with heap := h' }) :
    wpAny (model prog w) A (assign (.Tuple elts k pos) env (.ref t)) Q E s := by
  have tne : t ≠ s.heap.objs.size := by
    obtain ⟨_, ho, _⟩ := ht
    exact Nat.ne_of_lt (Heap.lt_size ho)
  rw [assign_Tuple]
  refine wpAny_bind (wpAny_standAt ?_)
  unfold unpack
  rw [hn, hst]
  refine wpAny_bind (wpAny_holding ?_)
  unfold unpackItems notIterableAtAll
  refine wpAny_bind (wpAny_bind (wpAny_specialOf ht.typeIs slot_tuple_iter.lookup (wpAny_pure ?_)))
  simp only [Bool.false_eq_true, if_false]
  refine wpAny_bind (wpAny_holding (iter_tuple ht (wpAny_bind (wpAny_holding (draw_tuple tne items.size 0 _ _ ⟨_, Heap.get?_push_size _ rfl, rfl, rfl⟩ (ht.push _) (by omega) fun h1 it1 sb1 => ?_)))))
  rw [List.drop_zero, List.take_of_length_le (by simp), if_neg (by simp)]
  have old : ∀ b o, s.heap.get? b = some o → h1.get? b = some o := fun b o e => sb1.extBut b o (Nat.ne_of_lt (Heap.lt_size e)) (Heap.get?_push_of_some _ e)
  have hot1 : HotAt A x1 h1 := by
    obtain ⟨g0, o1, vs1, g1, g2, g3⟩ := hot
    exact ⟨g0, o1, vs1, old _ _ g1, g2, g3⟩
  refine wpAny_bind (wpAny_holding (tup_end_hot hot1 it1 ((ht.push _).extBut sb1.extBut tne) (by simp) fun h2 sb2 => ?_))
  simp only [Option.isSome_none, Bool.false_eq_true, if_false]
  exact wpAny_pure (h h2 fun b o hb e => sb2 b o hb (old b o e))
end
def HotS (X : Cx) : Prop := ∀ (pins : List (Addr × Obj)) (σ : L2.St) (H : Hp) (s : Shared), Inv X pins σ H s → ∃ x1, HotAt X.A x1 s.heap
theorem hotS_blk {X : Cx} {pins : List (Addr × Obj)} {σ : L2.St} {H : Hp} {s : Shared} {scope : Scope} {cenv : PySem.Env} {fp : List Addr} (c : L2H.HotC X) (I : Inv X pins σ H s) (hf : ∀ b ∈ fp, ∀ p ∈ X.pn ++ pins, p.1 ≠ b) : HotS (X.blk s H scope cenv fp) := by
  obtain ⟨p, ⟨hh, vs, hd, hc⟩, hp⟩ := c
  have mp : p ∈ X.pn ++ pins := List.mem_append_left _ hp
  intro _ _ _ s' J
  have P := I.pin p mp
  have B : Un (X.blk s H scope cenv fp).fs fp H _ s.heap s'.heap := J.base
  obtain ⟨sl, e⟩ := B.any P.1 P.2.1 fun hm => hf _ hm p mp rfl
  exact ⟨p.1, hh, _, vs, e, hd, hc⟩
section
variable {X : Cx} {pos : Pos}
theorem pg_tupS {es : List Expr} {k n : Nat} {t : TGs} (hc : HotS X) (h : PGs X es t) (hn : (assignEach es X.env).length = n := by rfl) (hst : (assignEach es X.env).findIdx? (·.1) = none := by rfl) : PG X (.Tuple es k pos) (gTup X.K n t) := by
  refine ⟨fun pins s σ H v u Q I r hw => ?_⟩
  obtain ⟨a, xs, rfl, hq, hl, hw⟩ := hw
  cases r
  obtain ⟨its, rv, ht, _⟩ := I.tuple hq
  obtain ⟨x1, hot⟩ := hc _ _ _ _ I
  refine unpack_hot hot ht (by rw [hn, ← hl, rv.length]; simp) hst fun h' old => ?_
  exact h.run pins _ σ H xs _ Q (I.kept (t' := s.toks) fun b o e => old b o (Nat.ne_of_lt (Heap.lt_size e)) e) (by simpa using rv) hw
end
structure TurnS (P : Program) (w : World) (K : PySem.W.Frag) (tg : Expr) (J : It) (it : Addr) (tn : Nat → Heap → Prop) : Prop where
  obj : ∀ i h, tn i h → ∃ o, h.get? it = some o ∧ ∀ v, o.data ≠ .cell v
  keep : ∀ i h h', tn i h → (∀ o, h.get? it = some o → h'.get? it = some o) → tn i h'
  item : ∀ (X : Cx), X.prog = P → X.w = w → X.K = K → ∀ (i : Nat) (pins : List (Addr × Obj)) (s : Shared) (σ : L2.St) (H : Hp) (E : Value → Shared → Prop), Inv X pins σ H s → FpOk X pins H it → tn i s.heap → J.go i H →
    wpAny (model P w) X.A (pyNext (.ref it)) (fun r s1 => ∃ u, r = some u ∧ wpAny (model P w) X.A (letOwnedTupleGo tg (.ref it) u) (fun _ s2 => ∃ x H', Inv X pins σ H' s2 ∧ RelV x u ∧ J.yld i H x H' ∧ tn (i + 1) s2.heap ∧ H' it = none) E s1) E s
  done : ∀ (X : Cx), X.prog = P → X.w = w → X.K = K → HotS X → ∀ (i : Nat) (pins : List (Addr × Obj)) (s : Shared) (σ : L2.St) (H : Hp) (E : Value → Shared → Prop), Inv X pins σ H s → FpOk X pins H it → tn i s.heap → J.stop i H →
    wpAny (model P w) X.A (pyNext (.ref it)) (fun r s1 => r = none ∧ Inv X pins σ H s1) E s
  self : ∀ (A : Around) (i : Nat) (s : Shared) (Q : Value → Shared → Prop) (E : Value → Shared → Prop), tn i s.heap → Q (.ref it) s → wpAny (model P w) A (pyIter (.ref it)) Q E s
theorem turnS_list {P : Program} {w : World} {K : PySem.W.Frag} {tg : Expr} (a it : Addr) : TurnS P w K tg (Itl K a) it fun i h => h.IsListIter it a i where
  obj := fun i h st => by
    obtain ⟨o, e, _, d⟩ := st
    exact ⟨o, e, fun v z => by rw [d] at z; cases z⟩
  keep := fun i h h' st k => st.at fun o e => k o e
  item := by
    rintro X rfl rfl rfl i pins s σ H E I ⟨f0, f1, f2, f3, f4, f5⟩ st ⟨xs, x, hq, hx⟩
    obtain ⟨its, rv, p, _⟩ := I.list hq
    obtain ⟨u, hu, ru⟩ := rv.get hx
    refine wpAny_pyNext_list_item st p.isList (x := u) (by simpa using hu) fun h' st2 sb => ?_
    have J := I.turned (h' := h') (t' := s.toks) (fun b o hb e => (sb.2 b hb).trans e) f0 f1 f3 f4 f5
    obtain ⟨o, e, c, d⟩ := id st2
    exact ⟨u, rfl, go_of (s := { s with heap := h' }) e c d (by decide) ⟨x, H, J, ru, ⟨rfl, fun ys hy => by rw [I.list_inj hy hq]; exact hx⟩, st2, f0⟩⟩
  done := by
    rintro X rfl rfl rfl hc i pins s σ H E I ⟨f0, f1, f2, f3, f4, f5⟩ st ⟨xs, hq, hx⟩
    obtain ⟨its, rv, p, _⟩ := I.list hq
    have hl := rv.length
    obtain ⟨x1, hot⟩ := hc _ _ _ _ I
    exact list_end_hot hot st p.isList (by simp; omega) fun h' eb => ⟨rfl, I.turned (t' := s.toks) (fun b o hb e => eb b o hb e) f0 f1 f3 f4 f5⟩
  self := fun _ _ _ _ _ st h => wpAny_pyIter_listiter st h
structure PIS (X : Cx) (tg iter : Expr) (wi : TI) : Prop where
  run : ∀ (pins : List (Addr × Obj)) (s : Shared) (σ : L2.St) (H : Hp) (R : It → Hp → Prop), Inv X pins σ H s → wi σ H R →
    wpAny (model X.prog X.w) X.A (eval iter X.env) (fun v s1 => wpAny (model X.prog X.w) X.A (pyIter v) (fun u s2 => ∃ (it : Addr) (tn : Nat → Heap → Prop) (J : It) (H' : Hp), u = .ref it ∧ Inv X pins σ H' s2 ∧ TurnS X.prog X.w X.K tg J it tn ∧ tn 0 s2.heap ∧ FpOk X pins H' it ∧ R J H') X.xe s1) X.xe s
theorem pis_list {X : Cx} {tg l : Expr} {tl : TE} (hl : PE X l tl) : PIS X tg l (iList X.K tl) := by
  refine ⟨fun pins s σ H R I h => thn (hl.run pins s σ H _ I h) fun v s1 ⟨x, H1, J, r, a, e, ⟨xs, hq⟩, q⟩ => ?_⟩
  subst e
  cases r
  obtain ⟨its, rv, p, _⟩ := J.list hq
  exact wpAny_pyIter_list p.isList ⟨s1.heap.objs.size, _, _, H1, rfl, J.kept (t' := s1.toks) fun b o e => Heap.get?_push_of_some _ e, turnS_list a _, ⟨_, Heap.get?_push_size _ rfl, rfl, rfl⟩,
    J.fpOk (Nat.le_refl _) (J.hok.fresh (Nat.le_refl _)), q⟩
section
variable {X : Cx} {elt tg iter : Expr} {ifs : List Expr} {scope : Scope} {own : List (Str × Nat)} {pos : Pos} {wi : TI} {g : TG} {tt : TT} {te : TE}
theorem pe_lcS (hc : L2H.HotC X) (hN : X.N.Nodup) (hi : PIS X tg iter wi) (ok : BlkOk X.N X.env.scope scope own)
    (hg : ∀ (s : Shared) (H : Hp) (C : Addr) (cl : List (Str × Addr)) (fp : List Addr), HotS (X.blk s H scope (compEnvC scope cl C X.env) fp) → PG (X.blk s H scope (compEnvC scope cl C X.env) fp) tg g)
    (ht : ∀ (s : Shared) (H : Hp) (C : Addr) (cl : List (Str × Addr)) (fp : List Addr), PTs (X.blk s H scope (compEnvC scope cl C X.env) fp) ifs tt)
    (he : ∀ (s : Shared) (H : Hp) (C : Addr) (cl : List (Str × Addr)) (fp : List Addr), PE (X.blk s H scope (compEnvC scope cl C X.env) fp) elt te) (hs : ∀ x, foldedSetIterable iter X.env x = pure x := by intro _; rfl) :
    PE X (.ListComp elt [⟨tg, iter, ifs, 0⟩] scope pos) (tLc wi g tt te (own.map (·.2))) := by
  refine ⟨fun pins s σ H Q I h => ?_⟩
  rw [eval_ListComp]
  have fr : ∀ y ∈ scope.names, y.2 = .free → ∃ c, X.env.cells.lookup y.1 = some c := fun y hy e => I.ok.has _ (ok.free y hy e)
  refine wpAny_comprehension_free (use := none) rfl hs (closure_ok fr) ok.kind (fun y hy e => by rw [ok.uniq y hy, e]) (thn (hi.run pins s σ H _ I h) fun xv s1 hx => thn hx fun itv s2 ⟨it, tn, J, H2, e, I2, T, st2, f2, q⟩ => ?_)
  subst e
  refine wpAny_newObj_type (newEnv_comp ?_) (by show 0 ≤ sizeLine; decide)
  obtain ⟨D, hD⟩ : ∃ D, s2.heap.objs.size = D := ⟨_, rfl⟩
  obtain ⟨W, ⟨m0, w0⟩, turn⟩ := q D (I2.hok.fresh (Nat.le_of_eq hD))
  rw [hD]
  obtain ⟨s3, hs3⟩ : ∃ s3 : Shared, ({ s2 with heap := s2.heap.push { cls := .type "list", data := .seq ([] : List Value).toArray } } : Shared) = s3 := ⟨_, rfl⟩
  have push3 : ∀ b o, s2.heap.get? b = some o → s3.heap.get? b = some o := fun b o z => by rw [← hs3]; exact Heap.get?_push_of_some _ z
  have I3 : Inv X pins σ (upd H2 D (.lst [])) s3 := by
    rw [← hs3]
    exact I2.laid (t' := s2.toks) (fun b o z => Heap.get?_push_of_some _ z) (Nat.le_of_eq hD) ⟨Nat.zero_le _, [], 0, .nil, by rw [← hD]; exact Heap.get?_push_size _ rfl⟩
  have st3 : tn 0 s3.heap := T.keep _ _ _ st2 fun o z => push3 _ o z
  have lt2 : it < s2.heap.objs.size := by
    obtain ⟨o, z, _⟩ := T.obj _ _ st2
    exact Heap.lt_size z
  obtain ⟨H3, hH3⟩ : ∃ H3, upd H2 D (.lst []) = H3 := ⟨_, rfl⟩
  have f3 : FpOk X pins H3 it := ⟨by rw [← hH3, upd_ne (Nat.ne_of_lt (hD ▸ lt2))]; exact f2.1, f2.2⟩
  have lt3 : it < s3.heap.objs.size := by
    obtain ⟨o, z, _⟩ := T.obj _ _ st3
    exact Heap.lt_size z
  rw [hs3]
  rw [hH3] at I3 w0
  have I4 := block_start (fp := [it]) I3 ok hN fun b hb => by
    have z : b = it := by simpa using hb
    rw [z]; exact ⟨f3, lt3⟩
  have hot := hotS_blk (scope := scope) (cenv := compEnvC scope (cellsFrom (s3.heap.objs.size + 1) scope.names (cloFrom X.env.cells scope.names [])) s3.heap.objs.size X.env) (fp := [it]) hc I3 fun b hb p hp => by
    have z : b = it := by simpa using hb
    rw [z]; exact f3.2.2.2.2.2 p hp
  have pg := hg s3 H3 s3.heap.objs.size (cellsFrom (s3.heap.objs.size + 1) scope.names (cloFrom X.env.cells scope.names [])) [it] hot
  have pt := ht s3 H3 s3.heap.objs.size (cellsFrom (s3.heap.objs.size + 1) scope.names (cloFrom X.env.cells scope.names [])) [it]
  have pe := he s3 H3 s3.heap.objs.size (cellsFrom (s3.heap.objs.size + 1) scope.names (cloFrom X.env.cells scope.names [])) [it]
  obtain ⟨ce, hce⟩ : ∃ ce, compEnvC scope (cellsFrom (s3.heap.objs.size + 1) scope.names (cloFrom X.env.cells scope.names [])) s3.heap.objs.size X.env = ce := ⟨_, rfl⟩
  have hL : ce.locals = s3.heap.objs.size := by rw [← hce]; rfl
  show codeAny _ _ (.compStart (.ListComp elt [⟨tg, iter, ifs, 0⟩] scope pos) 0 (.ref it) (.ref D) (compEnvC scope (cellsFrom (s3.heap.objs.size + 1) scope.names (cloFrom X.env.cells scope.names [])) s3.heap.objs.size X.env)) (compPost (model X.prog X.w) X.A X.xe none _ (.ref D) s3.heap.objs.size) { s3 with heap := pushCells (s3.heap.push { cls := .type "dict", data := .dict #[] }) scope.names }
  rw [hce] at I4 pg pt pe hot ⊢
  obtain ⟨s4, hs4⟩ : ∃ s4 : Shared, ({ s3 with heap := pushCells (s3.heap.push { cls := .type "dict", data := .dict #[] }) scope.names } : Shared) = s4 := ⟨_, rfl⟩
  rw [hs4] at I4 ⊢
  have st4 : tn 0 s4.heap := T.keep _ _ _ st3 fun o z => by rw [← hs4]; exact pushCells_keeps _ _ _ _ (Heap.get?_push_of_some _ z)
  obtain ⟨vs, hvs⟩ : ∃ vs, own.map (·.2) = vs := ⟨_, rfl⟩
  rw [hvs] at turn I4
  -- the iterator stays out of reach
  have stat : ∀ {σ' : L2.St} {H' : Hp} {s' : Shared}, Inv (X.blk s3 H3 scope ce [it]) [] σ' H' s' → H' it = none → FpOk (X.blk s3 H3 scope ce [it]) [] H' it := fun {σ' H' s'} J' n =>
    ⟨n, (J'.ok.exf it (by simp)).1, J'.ok.exfs it (by simp), .inl (by simp), fun x c z => (J'.ok.exf it (by simp)).2 x c z, fun p hp => by cases hp⟩
  have loop : codeAny (model X.prog X.w) X.A (.compLoop (.ListComp elt [⟨tg, iter, ifs, 0⟩] scope pos) 0 (.ref it) (.ref D) ce) (compPost (model X.prog X.w) X.A X.xe none (EP X pins σ Q) (.ref D) s3.heap.objs.size) s4 := by
    refine compLoop_any (fun n s' => ∃ i H', Inv (X.blk s3 H3 scope ce [it]) [] (wipe σ vs) H' s' ∧ tn i s'.heap ∧ H' it = none ∧ W i n H') ?_ m0 ⟨0, H3, I4, st4, f3.1, w0⟩
    rintro n s5 ⟨i, H5, I5, st5, n5, w5⟩
    rcases turn i n H5 w5 with ⟨stop, qq⟩ | ⟨go, Nx, hNx, step⟩
    · refine thnF (T.done (X.blk s3 H3 scope ce [it]) rfl rfl rfl hot i [] s5 _ H5 (fun _ _ => False) I5 (stat I5 n5) st5 stop) fun r s6 ⟨hr, I6⟩ => ?_
      subst hr
      have I7 : Inv X pins σ H5 s6 := I3.call' (ch := [it]) I6.os I6.base I6.hok I6.bare fun b hb => by
        have z : b = it := by simpa using hb
        rw [z]; exact ⟨f3.2.2.2.1, f3.2.1, f3.2.2.2.2.1, f3.2.2.2.2.2⟩
      have nC : H5 s3.heap.objs.size = none := by rw [← hL]; exact I6.free
      obtain ⟨m, hn, _⟩ := I6.loc
      have hn : s6.heap.Ns ce.locals m := hn
      rw [hL] at hn
      obtain ⟨g0, g1, g2, g3, g4, g5⟩ := I3.fpOk (H' := H5) (Nat.le_refl _) nC
      exact ⟨m, hn, fun h'' sb => ⟨.ref D, H5, I7.turned (t' := s6.toks) (fun b o hb z => (sb.2 b hb).trans z) g0 g1 g3 g4 g5, rfl, qq⟩⟩
    · refine thnF (T.item (X.blk s3 H3 scope ce [it]) rfl rfl rfl i [] s5 _ H5 (fun _ _ => False) I5 (stat I5 n5) st5 go) fun r s6 ⟨u, hr, h6⟩ => ?_
      subst hr
      refine thnF h6 fun _ s7 ⟨x, H7, I7, r7, y7, st7, n7⟩ => ?_
      have I7' := I7.pinned (fp := [it]) (fun b hb => by have z : b = it := (by simpa using hb); rw [z]; exact stat I7 n7) (fun b hb => by have z : b = it := (by simpa using hb); rw [z]; exact T.obj _ _ st7)
      refine thnF (pg.run _ s7 _ H7 x u _ I7' r7 (step x H7 y7)) fun _ s8 ⟨σ8, H8, I8, hw8, q8⟩ => thnF (pt.run _ s8 σ8 H8 _ I8 q8) fun b s9 ⟨H9, I9, q9⟩ => ?_
      have fin : ∀ {s' : Shared} {H' : Hp}, Inv (X.blk s3 H3 scope ce [it]) ([] ++ pinsAt [it] s7.heap) σ8 H' s' → Nx H' → ∃ m, m < n ∧ ∃ i H', Inv (X.blk s3 H3 scope ce [it]) [] (wipe σ vs) H' s' ∧ tn i s'.heap ∧ H' it = none ∧ W i m H' := fun {s' H'} J' nx => by
        obtain ⟨m', hm, w'⟩ := hNx H' nx
        have pin : ∀ o, s7.heap.get? it = some o → s'.heap.get? it = some o ∧ H' it = none := fun o z =>
          have y := J'.pin (it, o) (List.mem_append_right _ (List.mem_append_right _ (mem_pinsAt (by simp) z)))
          ⟨y.1, y.2.1⟩
        obtain ⟨o, z, _⟩ := T.obj _ _ st7
        refine ⟨m', hm, i + 1, H', (J'.unpinned (pins := [])).weak (by rw [← hw8, wipe_length]) (fun j v e => ?_), T.keep _ _ _ st7 fun o z => (pin o z).1, (pin o z).2, w'⟩
        rw [← hw8] at e
        exact (wipe_some e).1
      cases b with
      | false => exact fin I9 q9
      | true => exact thnF (pe.run _ s9 σ8 H9 _ I9 q9) fun z s10 ⟨yv, H10, I10, r10, acc, hD10, hz10, nx⟩ => app_ok (X := X.blk s3 H3 scope ce [it]) I10 hD10 hz10 r10 fun s11 I11 => fin I11 nx
  exact codeAny_compStart_list loop (T.self X.A 0 _ _ _ st4 loop)
end
end Tm
set_option Elab.async false
set_option linter.all false
set_option maxRecDepth 100000
set_option maxHeartbeats 2000000
namespace Tm
open PySem L2 PySem.Spec PyProof.Rows
open Evl (Ex ex_rd ex_l ex_t)
structure FnE (P : Program) (w : World) (K : PySem.W.Frag) (mg : Str → Option Value) (base : Heap) (CX : CXT) (k : Nat) (f : Addr) (fd : FuncData) (ps : List Str) (sp : Addr × Obj → Sp) : Prop where
  len : ∀ p vs H Q E, sp p vs H Q E → vs.length = ps.length
  run : ∀ (A : Around) (outer : List PySem.Env) (s : Shared) (H : Hp) (args : Args) (us : List Value) (vs : List V) (Q : VK) (E : XK) (p : Addr × Obj), L2H.RoomH k A → L2H.Hot1 A p → L2H.PinOk outer H s p → Env0 P w K mg base A outer s H → BindsTo s fd args (ps.zip us) → Vals vs us → sp p vs H Q E →
    codeAny (model P w) A (.call (.ref f) args) (CR CX outer P w H s Q E) s
def mFnE (n : Nat) (m : MX → MS) : MX → Res (MV × Env) := fun e => match m e (List.replicate n none) with
  | .ok (.rt v, ρ) => .ok (v, ρ)
  | _ => .stuck
def spE (K : PySem.W.Frag) (mg : Str → Option Value) (ts : List Str) (f : MX → Res (MV × Env)) : Addr × Obj → Sp := fun p vs H Q _ => vs = [.ref p.1] ∧ ∃ (F Hk : Hp) (e : MX) (C : Addr) (d : Option Addr) (v : MV) (ρ' : Env), Ex Hk H ∧ Ex F H ∧ (∀ a o, F a = some o → Hk a = none) ∧
  mg e.cls = some (.ref C) ∧ e.cls ∈ ts ∧ L2N.Zn (.ref C) d p.2 ∧ (∃ vs, p.2.data = .fields vs) ∧ XIn F e d ∧ f e = .ok (v, ρ') ∧ flatM v = true ∧ ∀ Hk' H' u, Ex Hk Hk' → Ex Hk' H' → Ex F H' → (∀ a o, F a = some o → Hk' a = none) → RV K Hk' v u → Q u H'
def cE (K : PySem.W.Frag) (mg : Str → Option Value) (a : Addr) (e : MX) (d : Option Addr) : Ct := cH ⟨K, mg, fun _ _ _ _ => False, [], fun _ _ => True, fun _ _ _ _ _ => trivial⟩ 0 a e d
section
variable {P : Program} {w : World} {K : PySem.W.Frag} {mg : Str → Option Value} {base : Heap}
theorem fnE_ok {x qual q : Str} {st : Stmt} {f : Addr} {fd : FuncData} {N : List Str} {k : Nat} {ts : List Str} {m : MX → MS} (F : Fun K x qual st f fd) (S : FnScope N [q] (defScope st)) (hN : 1 ≤ N.length)
    (hb : ∀ (cdv : Value) (A : Around) (outer : List PySem.Env) (s : Shared) (H : Hp) (E : XK) (p : Addr × Obj) (e : MX) (C : Addr) (d : Option Addr), L2H.Hot1 A p → L2H.RoomH k (A.deeper (envOfC qual (defScope st) s.heap.objs.size f cdv)) → mg e.cls = some (.ref C) → e.cls ∈ ts → L2N.Zn (.ref C) d p.2 → (∃ vs, p.2.data = .fields vs) →
      PSs (L2H.cxH (L2N.CX P w) P w K mg base N qual (defScope st) f cdv A outer s H E p) (defBody st) (rdS (cE K mg p.1 e d) (m e))) :
    FnE P w K mg base (L2N.CX P w) (k + 1) f fd [q] (spE K mg ts (mFnE N.length m)) := by
  obtain ⟨_, _, _, _, _, _, cv, _, _, rfl, look, hc⟩ := F.ex
  refine ⟨fun p vs H Q E h => by rw [h.1]; rfl, fun A outer s H args us vs Q E p hr hot hpin e0 bd r h => ?_⟩
  obtain ⟨rfl, F', Hk, e, C, d, v, ρ', x1, x2, x3, h1, h2, h3, h4, h5, h6, h7, h8⟩ := h
  have keep := fun b o z => (e0.bs b o z).1
  have KX : K.In s.heap := e0.mod.kin.keeps keep
  have hk : ∀ y ∈ [q].zip us, (defScope st).names.lookup y.1 = some .local ∨ ((defScope st).names.lookup y.1 = some .cell ∧ ((cellsFrom (s.heap.objs.size + 1) (defScope st).names []).lookup y.1).isSome = true) := fun ⟨n, u⟩ hy =>
    (S.par n (List.of_mem_zip hy).1).elim .inl fun z => .inr ⟨z, PySem.W.cellsFrom_some _ _ _ (.inl z)⟩
  refine codeAny_call_function hr.depth (KX _ _ look) rfl S.co S.gen rfl (PySem.W.codeRec_of KX hc) (bd _ _ _ _ (wpAny_newFunctionEnv_cells S.kind hk fun env he s1 y => ?_))
  subst he
  refine ⟨(e0.mod.nolimit.keeps keep).keeps y.toInCall.keep, codeAny_func ?_⟩
  have I : Inv (L2H.cxH (L2N.CX P w) P w K mg base N qual (defScope st) f cv A outer s H E p) [] (L2.start N [V.ref p.1]) H s1 := L2H.inv_startH S hpin e0 rfl r y
  have R : RS K F' Hk H [(0, p.1)] (L2.start N [V.ref p.1]) (List.replicate N.length none) := by
    have ln : (L2.start N [V.ref p.1]).length = N.length := by
      unfold L2.start
      simp
      omega
    refine ⟨by rw [ln, List.length_replicate], x1, x2, x3, ⟨fun _ => [], fun i y h => ?_, fun i a h => (nomatch h), fun i h => (h rfl).elim, fun i j a _ h => (nomatch h)⟩, fun z hz => ?_⟩
    · rw [List.getElem?_replicate] at h
      split at h <;> cases h
    · rw [List.mem_singleton.mp hz]; rfl
  refine wpAny_mono ((hb cv A outer s H E p e C d hot (hr.deeper _) h1 h2 h3 h4).run [] s1 _ H { nx := fun _ _ => False, rt := Q } I ⟨F', Hk, [(0, p.1)], _, ⟨R, rfl, ⟨[], rfl, trivial⟩, h5⟩, ?_⟩) (fun fl s' hs => ?_) fun e s' hs => hs
  · unfold mFnE at h6
    cases em : m e (List.replicate N.length none) with
    | stuck => rw [em] at h6; cases h6
    | exc _ _ => rw [em] at h6; cases h6
    | ok r =>
      obtain ⟨fl, ρ2⟩ := r
      rw [em] at h6
      cases fl with
      | rt u =>
        cases h6
        intro Hk' H' σ' z x' hq S'
        obtain ⟨ow, sl⟩ := S'.ow
        obtain ⟨z2, ez, rz⟩ := S'.get (i := ρ'.length) (x := v) (by simp) (by cases v <;> first | rfl | (simp [flatM] at h7))
        have hl : σ'.length = ρ'.length := by have := S'.len; simpa using this
        have : z2 = z := by rw [← hl] at ez; simpa using ez.symm
        subst this
        exact h8 Hk' H' z2 x' S'.ex S'.fr S'.frk rz
      | nx => cases h6
      | br => cases h6
      | ct => cases h6
  · match fl, hs with
    | .ret u, hs =>
      obtain ⟨v2, σ', H', J, rv, z⟩ := hs
      exact ⟨v2, H', J.os, J.bare, J.base, J.hok, rv, z⟩
    | .next, hs => obtain ⟨_, _, _, z⟩ := hs; exact z.elim
    | .brk, hs => obtain ⟨_, _, _, z⟩ := hs; exact False.elim z
    | .cont, hs => obtain ⟨_, _, _, z⟩ := hs; exact False.elim z
end
def mCallE (f : MX → Res (MV × Env)) (e : MX) : ME := fun ρ => match f e with
  | .ok (v, _) => if flatM v then .ok (v, ρ) else .stuck
  | _ => .stuck
theorem RS.callee {K : PySem.W.Frag} {F Hk H : Hp} {bp : List (Nat × Addr)} {σ : L2.St} {ρ : Env} (S : RS K F Hk H bp σ ρ) : ∃ F' : Hp, Ex F F' ∧ Ex F' H ∧ (∀ a o, F' a = some o → Hk a = none) ∧ ∀ Hk' H', Ex Hk Hk' → Ex Hk' H' → Ex F' H' → (∀ a o, F' a = some o → Hk' a = none) → RS K F Hk' H' bp σ ρ := by
  obtain ⟨ow, s⟩ := S.ow
  haveI : ∀ a, Decidable (∃ i, a ∈ ow i) := fun a => Classical.propDecidable _
  have at1 : ∀ i a, a ∈ ow i → (if (∃ i, a ∈ ow i) then H a else F a) = H a := fun i a h => if_pos ⟨i, h⟩
  have xF : ∀ a o, F a = some o → (if (∃ i, a ∈ ow i) then H a else F a) = some o := fun a o h => by
    rw [if_neg (fun ⟨i, m⟩ => by rw [(s.f i a m).2.1] at h; cases h)]; exact h
  have both : ∀ a o, (if (∃ i, a ∈ ow i) then H a else F a) = some o → H a = some o ∧ Hk a = none := fun a o h => by
    by_cases e : ∃ i, a ∈ ow i
    · rw [if_pos e] at h
      exact ⟨h, e.elim fun i m => (s.f i a m).1⟩
    · rw [if_neg e] at h
      exact ⟨S.fr a o h, S.frk a o h⟩
  refine ⟨fun a => if (∃ i, a ∈ ow i) then H a else F a, xF, fun a o h => (both a o h).1, fun a o h => (both a o h).2, fun Hk' H' x1 x2 x3 x4 => ⟨S.len, x2, fun a o h => x3 a o (xF a o h), fun a o h => x4 a o (xF a o h), ⟨ow, s.step x1 fun i a m => ?_⟩, S.bor⟩⟩
  obtain ⟨_, _, o, g⟩ := s.f i a m
  have z := (at1 i a m).trans g
  exact ⟨(x3 a o z).trans g.symm, x4 a o z⟩
structure FdE (P : Program) (w : World) (K : PySem.W.Frag) (mg : Str → Option Value) (base : Heap) (x : Str) (k : Nat) (q : Str) (ts : List Str) (f : MX → Res (MV × Env)) : Prop where
  ex : ∃ (a : Addr) (fd : FuncData), FnE P w K mg base (L2N.CX P w) k a fd [q] (spE K mg ts f) ∧ mg x = some (.ref a) ∧ PySem.W.keepIn K (.ref a) = true ∧ Binds K fd [q] []
section
variable {X : Cx} {c : Ct} {a C : Addr} {oe : Obj} {d : Option Addr} {pn : List (Addr × Obj)} {e : MX} {i j k : Nat} {n x q : Str} {p p1 pos : Pos} {ts : List Str} {tab : List (Str × Bool)} {f : MX → Res (MV × Env)}
theorem me_callE (G : FdE X.prog X.w X.K X.mg X.base x k q ts f) (hr : Room j X.A) (hj : k ≤ j) (hC : X.mg e.cls = some (.ref C)) (hT : (e.cls, true) ∈ tab) (hts : tab.all (fun p => !p.2 || ts.contains p.1) = true) (hz : L2N.Zn (.ref C) d oe) (hv : ∃ vs, oe.data = .fields vs) (hN : X.N[i]? = some n) (hl : Vis X.env.scope n) (hg : Gl X x)
    (hK : c.K = X.K := by rfl) (hd : (n == ("__debug__" : Str)) = false := by decide) (hcd : (n == ("__classdict__" : Str)) = false := by decide) (hdb : (x == ("__debug__" : Str)) = false := by decide)
    (he : starEach [.Name n p1] X.env = (false, eval (.Name n p1) X.env) :: starEach [] X.env := by rfl) (hpl : (backTo pos (starEach [] X.env)).any (·.1) = false := by rfl) :
    PE (X.suite a ((a, oe) :: pn)) (.Call (.Name x p) [.Name n p1] [] pos) (rdE (cH c i a e d) (mCallE f e)) := by
  obtain ⟨fa, fd, F, hm, hk, hb⟩ := G.ex
  refine ⟨fun pins s σ H Q I ⟨Fr, Hk, bp, ρ, S, h⟩ => ?_⟩
  obtain ⟨⟨bq, e1, e2⟩, xi⟩ := S.2.2
  have sl : σ[i]? = some (some (.ref a)) := S.1.bor (i, a) (by rw [e1]; exact List.mem_cons_self ..)
  have ha : PA (X.suite a ((a, oe) :: pn)) [.Name n p1] (tCons (tVar i) tNil) := pa_cons (pe_var (i := i) hN hl hd hcd) pa_nil
  refine wpAny_Call_Name_kw (ld_glob I hg hm ?_ hdb)
  refine PySem.W.callWith_K (h₀ := X.base) I.ok.mod.kin hk (thn (ha.run pos pins s σ H (fun vs H1 => vs = [V.ref a] ∧ H1 = H) I ⟨.ref a, sl, rfl, rfl⟩) fun us s1 ⟨vs, H1, I1, r, ev, eH⟩ => ⟨I1.kIn, ?_⟩) he hpl
  subst ev
  subst eH
  have hin : (a, oe) ∈ (X.suite a ((a, oe) :: pn)).pn := List.mem_cons_self
  have P1 := I1.pin (a, oe) (List.mem_append_left _ hin)
  have pin : L2H.PinOk (X.suite a ((a, oe) :: pn)).stack H1 s1 (a, oe) := ⟨P1.1, P1.2.1, fun z => (List.mem_cons.mp (I1.stkSub a z)).elim P1.2.2.1 P1.2.2.2.1, P1.2.2.2.2⟩
  obtain ⟨vs, hvs⟩ := hv
  have hot : L2H.Hot1 (X.suite a ((a, oe) :: pn)).A (a, oe) := ⟨rfl, vs, hvs, hz.2.2 vs hvs⟩
  have lu : us.length = 1 := r.length.symm
  have b2 := hb s1 us I1.kIn (by rw [List.append_nil]; exact lu)
  rw [List.append_nil] at b2
  have mem : e.cls ∈ ts := by
    have := List.all_eq_true.mp hts _ hT
    simpa using this
  unfold mCallE at h
  cases ef : f e with
  | stuck => rw [ef] at h; exact h.elim
  | exc _ _ => rw [ef] at h; exact h.elim
  | ok z =>
    obtain ⟨v, ρ'⟩ := z
    rw [ef] at h
    dsimp only at h
    split at h
    · rename_i hf
      obtain ⟨F', y1, y2, y3, y4⟩ := S.1.callee
      have xi' : XIn F' e d := by
        rcases xi with z | ⟨dx, vfs, q1, q2, q3⟩
        · exact .inl z
        · exact .inr ⟨dx, vfs, q1, y1 _ _ q2, q3⟩
      have sp : spE X.K X.mg ts f (a, oe) [.ref a] H1 Q (fun _ _ _ => False) := ⟨rfl, F', Hk, e, C, d, v, ρ', S.1.ex, y2, y3, hC, mem, hz, ⟨vs, hvs⟩, xi', ef, hf, fun Hk' H' u x1 x2 x3 x4 rv => by
        refine h Hk' H' u x1 (y4 Hk' H' x1 x2 x3 x4) ?_
        show RV c.K Hk' v u
        rw [hK]; exact rv⟩
      refine wpAny_call (codeAny_mono (F.run (X.suite a ((a, oe) :: pn)).A X.stack s1 H1 ⟨us, []⟩ us _ Q (fun _ _ _ => False) (a, oe) ⟨(hr.mono hj).dp, (hr.mono hj).un⟩ hot pin I1.env0 b2 r sp) fun r s' hq => ?_)
      match r, hq with
      | .ok (.ret u), hq => exact I1.after hq
      | .ok .next, hq => exact hq.elim
      | .ok .brk, hq => exact hq.elim
      | .ok .cont, hq => exact hq.elim
      | .error er, hq =>
        obtain ⟨_, _, _, _, _, _, _, _, _, _, _, _, z⟩ := hq
        exact z.elim
    · exact h.elim
end
def mItL (a : ME) : MI := fun ρ => (a ρ).bind fun x ρ1 => match x with | .lst xs => .ok (xs, ρ1) | _ => .stuck
section
variable {X : Cx} {c : Ct} {elt tg iter : Expr} {ifs : List Expr} {scope : Scope} {own : List (Str × Nat)} {pos : Pos} {a : ME} {g : Tgt} {t : MT} {e : ME}
theorem mi_listS (h : PE X iter (rdE c a)) (hK : c.K = X.K := by rfl) : PIS X tg iter (rdI c (mItL a)) := by
  have z := pis_list (tg := tg) h
  refine ⟨fun pins s σ H R I q => z.run pins s σ H R I ?_⟩
  obtain ⟨F, Hk, bp, ρ, S, q⟩ := q
  refine rdw (bE postI S q) fun v H1 ⟨Hk1, x, ρ1, x1, S1, r1, h1⟩ => ?_
  cases x with
  | lst xs =>
    obtain ⟨p, vs, rfl, g1, s1⟩ := RV.lst.mp r1
    have sq : ∀ H, Ex Hk1 H → SqL X.K H p vs := fun H ex => SqL.of (ex _ _ g1)
    refine ⟨p, rfl, ⟨vs, sq _ S1.1.ex⟩, h1 _ _ _ (Ex.refl _) S1.1 ?_⟩
    rw [hK]
    rw [hK] at s1
    exact walks_l (SqL.of g1) s1
  | _ => exact h1.elim
theorem mo_lcS (hc : L2H.HotC X) (hN : X.N.Nodup) (hi : PIS X tg iter (rdI c (mItL a))) (ok : BlkOk X.N X.env.scope scope own)
    (hg : ∀ (s : Shared) (H : Hp) (C : Addr) (cl : List (Str × Addr)) (fp : List Addr), HotS (X.blk s H scope (compEnvC scope cl C X.env) fp) → PG (X.blk s H scope (compEnvC scope cl C X.env) fp) tg (gOf X.K g))
    (ht : ∀ (s : Shared) (H : Hp) (C : Addr) (cl : List (Str × Addr)) (fp : List Addr), PTs (X.blk s H scope (compEnvC scope cl C X.env) fp) ifs (rdT c t)) (he : ∀ (s : Shared) (H : Hp) (C : Addr) (cl : List (Str × Addr)) (fp : List Addr), PE (X.blk s H scope (compEnvC scope cl C X.env) fp) elt (rdE c e))
    (hgs : ∀ i ∈ g.slots, i ∈ own.map (·.2) := by decide) (hbs : ∀ i ∈ own.map (·.2), c.bs.contains i = false := by decide) (hK : c.K = X.K := by rfl) (hs : ∀ x, foldedSetIterable iter X.env x = pure x := by intro _; rfl) :
    PE X (.ListComp elt [⟨tg, iter, ifs, 0⟩] scope pos) (rdO c (mLcO (mItL a) g t e (own.map (·.2)))) := PEw (pe_lcS hc hN hi ok hg ht he hs) fun σ H Q h => by rw [← hK]; exact rd_lc hgs hbs h
end
theorem xc_of {K : PySem.W.Frag} {mg : Str → Option Value} {fs ts : List Str} {x : Str} {C : Addr} (Xs : ∀ x ∈ ts, XcF K mg fs x) (hC : mg x = some (.ref C)) (hT : x ∈ ts) : XcG K C fs := by
  obtain ⟨C', h1, h2⟩ := (Xs x hT).ex
  rw [hC] at h1
  cases h1
  exact xcB_ok h2
theorem ki_of {K : PySem.W.Frag} {mg : Str → Option Value} {y x : Str} {ts : List Str} {l tab : List (Str × Bool)} (Ks : ∀ p ∈ l, KiT K mg y p.1 p.2) (h : ts.all (fun x => match tab.lookup x with | some b => l.contains (x, b) | none => true) = true) (hT : x ∈ ts) : ∀ b, tab.lookup x = some b → KiT K mg y x b := fun b hb => by
  have z := List.all_eq_true.mp h x hT
  rw [hb] at z
  exact Ks (x, b) (by simpa using z)
structure KiB (K : PySem.W.Frag) (mg : Str → Option Value) (T : String) (x : Str) : Prop where
  ex : ∃ C, mg x = some (.ref C) ∧ PySem.W.kitOne K (.ref C) (.type T) = some true
theorem kib_of {K : PySem.W.Frag} {mg : Str → Option Value} {T : String} {ts : List Str} {x : Str} {C : Addr} (Ks : ∀ x ∈ ts, KiB K mg T x) (hC : mg x = some (.ref C)) (hT : x ∈ ts) : PySem.W.kitOne K (.ref C) (.type T) = some true := by
  obtain ⟨C', h1, h2⟩ := (Ks x hT).ex
  rw [hC] at h1
  cases h1
  exact h2
@[simp] theorem mItL_ap {a : ME} {r : Option MV} {ρ : Env} : mItL a (r :: ρ) = (a (r :: ρ)).bind fun x ρ1 => match x with | .lst xs => .ok (xs, ρ1) | _ => .stuck := nr rfl
end Tm
set_option Elab.async false
set_option linter.all false
set_option maxRecDepth 100000
set_option maxHeartbeats 2000000
namespace Tm
open PySem L2 PySem.Spec PyProof.Rows
open Evl (Ex ex_rd ex_l ex_t)
inductive HdE (X : Cx) (n : Str) : List ExceptHandler → List (Value × (Addr → Value → Option Addr → TS)) → Prop
  | nil : HdE X n [] []
  | cons {y : Str} {c : Value} {ts : Addr → Value → Option Addr → TS} {b₀ : Stmt} {suite : List Stmt} {np p : Pos} {hds : List ExceptHandler} {l : List (Value × (Addr → Value → Option Addr → TS))} (hc : Names X y c)
      (hsu : ∀ (a : Addr) (oe : Obj) (cls : Value) (d : Option Addr) (pn : List (Addr × Obj)), L2N.Zn cls d oe → (∃ vs, oe.data = .fields vs) → PSs (X.suite a ((a, oe) :: pn)) (b₀ :: suite) (ts a cls d)) (r : HdE X n hds l) :
      HdE X n (.ExceptHandler (some (.Name y np)) (some n) (b₀ :: suite) p :: hds) ((c, ts) :: l)
inductive HdM (X : Cx) (c : Ct) (i : Nat) (n : Str) : List ExceptHandler → List (List (Str × Bool) × (MX → MS)) → Prop
  | nil : HdM X c i n [] []
  | cons {y : Str} {b₀ : Stmt} {suite : List Stmt} {np p : Pos} {hds : List ExceptHandler} {tab : List (Str × Bool)} {mh : MX → MS} {l : List (List (Str × Bool) × (MX → MS))} (hg : Gl X y) (ht : ∀ p ∈ tab, ExT X.K X.mg y p.1 p.2) (hne : ∃ D, X.mg y = some (.ref D))
      (hsu : ∀ (a : Addr) (oe : Obj) (C : Addr) (d : Option Addr) (pn : List (Addr × Obj)) (e : MX), X.mg e.cls = some (.ref C) → (e.cls, true) ∈ tab → L2N.Zn (.ref C) d oe → (∃ vs, oe.data = .fields vs) → PSs (X.suite a ((a, oe) :: pn)) (b₀ :: suite) (rdS (cH c i a e d) (mh e)))
      (hdb : (y == ("__debug__" : Str)) = false) (r : HdM X c i n hds l) :
      HdM X c i n (.ExceptHandler (some (.Name y np)) (some n) (b₀ :: suite) p :: hds) ((tab, mh) :: l)
end Tm
set_option Elab.async false
set_option linter.all false
set_option maxRecDepth 100000
set_option maxHeartbeats 2000000
namespace Tm
open PySem L2 PySem.Spec PyProof.Rows
open Evl (Ex ex_rd ex_l ex_t)
def dctAt (ks : List Key) (xs : List MV) (k : Key) : Option MV := ((ks.zip xs).find? fun p => decide (p.1 = k)).map (·.2)
theorem dctAt_rv {K : PySem.W.Frag} {H : Hp} : ∀ {ks : List Key} {xs : List MV} {vs : List V} (k : Key), RVs K H xs vs → (∀ x, dctAt ks xs k = some x → ∃ v, valV (ks.zip vs) k = some v ∧ RV K H x v) ∧ (dctAt ks xs k = none → valV (ks.zip vs) k = none)
  | [], xs, vs, k, _ => ⟨fun x h => by simp [dctAt] at h, fun _ => by simp [valV]⟩
  | a :: ks, [], vs, k, r => by
    rw [RVs.nil.mp r]
    exact ⟨fun x h => by simp [dctAt] at h, fun _ => by simp [valV]⟩
  | a :: ks, x :: xs, vs, k, r => by
    obtain ⟨v, us, rfl, r1, r2⟩ := RVs.cons.mp r
    obtain ⟨i1, i2⟩ := dctAt_rv (ks := ks) k r2
    unfold dctAt at *
    rw [List.zip_cons_cons, List.zip_cons_cons, List.find?_cons]
    by_cases e : a = k
    · rw [valV_pos (p := (a, v)) e]
      simp only [e, decide_true]
      exact ⟨fun y h => by simp at h; subst h; exact ⟨v, rfl, r1⟩, fun h => by simp at h⟩
    · rw [valV_neg (p := (a, v)) e]
      simp only [e, decide_false]
      exact ⟨i1, i2⟩
def keyM : MV → Option Key
  | .int i => some (.inl i)
  | .str z => some (.inr z)
  | _ => none
theorem keyM_rv {K : PySem.W.Frag} {H : Hp} {x : MV} {k : Key} {v : V} (e : keyM x = some k) (r : RV K H x v) : v = kV k := by
  unfold keyM at e
  split at e
  · cases e; exact RV.int.mp r
  · cases e; exact RV.str.mp r
  · cases e
def fDix (x y : MV) : Option MV := match x, keyM y with
  | .dct ks xs, some k => dctAt ks xs k
  | _, _ => none
theorem os_dix {K : PySem.W.Frag} : OpS K fDix (fun x y H Q => ∃ a v, x = .ref a ∧ DGet H a y (some v) ∧ Q v H) := by
  intro x y z v w Hk H Q e ex r1 r2 q qn
  unfold fDix at e
  split at e
  · rename_i ks xs k ek
    obtain ⟨a, vs, rfl, h1, h2, h3⟩ := RV.dct.mp r1
    have := keyM_rv ek r2
    subst this
    obtain ⟨u, e1, e2⟩ := (dctAt_rv (ks := ks) k h3).1 z e
    refine ⟨a, u, rfl, ?_, q u e2⟩
    rw [← e1]
    exact DGet.k (ex _ _ h1)
  · cases e
section
variable {X : Cx} {c : Ct} {pos apos cpos : Pos} {k : Nat}
theorem me_dix {a b : Expr} {ma mb : ME} (hr : X.A.units + 64 < cLine) (ha : PE X a (rdE c ma)) (hb : PE X b (rdE c mb)) (hs : NoSl b := by exact fun _ _ => rfl) : PE X (.Subscript a b pos) (rdE c (mOp fDix ma mb)) :=
  PEw (pe_dget (by omega) ha hb hs) fun _ _ _ q => rd_op os_dix q
def mDget2 (a b e : ME) : ME := fun ρ => (a ρ).bind fun x ρ1 => match x with
  | .dct ks xs => (b ρ1).bind fun y ρ2 => (e ρ2).bind fun z ρ3 => (match keyM y with | some k => .ok ((dctAt ks xs k).getD z, ρ3) | none => .stuck)
  | _ => .stuck
theorem me_dget2 {o e f : Expr} {ma mb mf : ME} (hr : X.A.units + 64 < cLine) (ha : PE X o (rdE c ma)) (hb : PE X e (rdE c mb)) (hf : PE X f (rdE c mf)) (m : M2 X o "get" apos e f cpos) : PE X (.Call (.Attribute o "get" apos) [e, f] [] cpos) (rdE c (mDget2 ma mb mf)) :=
  PEw (pe_dget2 (by omega) ha hb hf m) fun σ H Q h => by
    obtain ⟨F, Hk, bp, ρ, S, h⟩ := h
    refine rdw (bE postE S h) fun v H1 ⟨Hk1, x, ρ1, x1, S1, r1, h1⟩ => ?_
    split at h1
    · rename_i ks xs
      obtain ⟨a, vs, rfl, d1, d2, d3⟩ := RV.dct.mp r1
      refine ⟨a, rfl, .inl ⟨_, .inl (S1.1.ex _ _ d1)⟩, ?_⟩
      refine rdw (bE postE S1 h1) fun w H2 ⟨Hk2, y, ρ2, x2, S2, r2, h2⟩ => ?_
      refine rdw (bE postE S2 h2) fun u H3 ⟨Hk3, z, ρ3, x3, S3, r3, h3⟩ => ?_
      split at h3
      · rename_i k ek
        have := keyM_rv ek r2
        subst this
        have d3' : RVs c.K Hk3 xs vs := RVs.mono (x2.trans x3) _ _ d3
        obtain ⟨i1, i2⟩ := dctAt_rv (ks := ks) k d3'
        refine ⟨valV (ks.zip vs) k, DGet.k (S3.1.ex _ _ (x3 _ _ (x2 _ _ d1))), h3 _ _ _ (Ex.refl _) S3.1 ?_⟩
        cases ea : dctAt ks xs k with
        | none => rw [i2 ea]; exact r3
        | some z => obtain ⟨u, e1, e2⟩ := i1 z ea; rw [e1]; exact e2
      · exact h3.elim
    · exact h1.elim
end
section
variable {K : PySem.W.Frag} {F Hk H : Hp} {bp : List (Nat × Addr)} {σ : L2.St} {ρ : Env}
theorem RS.frame (S : RS K F Hk H bp σ ρ) {p : Addr} (o : HO) (h : H p = none) : RS K (upd F p o) Hk (upd H p o) bp σ ρ := by
  obtain ⟨ow, s⟩ := S.ow
  have np : ∀ i a, a ∈ ow i → a ≠ p := fun i a ha z => s.fresh h i (by rw [← z]; exact ha)
  have s2 : SL K F Hk (upd H p o) ow σ ρ := s.step (Ex.refl _) fun i a ha => ⟨upd_ne (np i a ha), (s.f i a ha).1⟩
  have hk : Hk p = none := S.ex.back h
  refine ⟨S.len, S.ex.mut hk, fun a u q => ?_, fun a u q => ?_, ⟨ow, s2.s, fun i a q => ⟨(s2.f i a q).1, by rw [upd_ne (np i a q)]; exact (s2.f i a q).2.1, (s2.f i a q).2.2⟩, s2.w, s2.d⟩, S.bor⟩
  · by_cases e : a = p
    · subst e; rw [upd_same] at q ⊢; exact q
    · rw [upd_ne e] at q ⊢; exact S.fr a u q
  · by_cases e : a = p
    · subst e; exact hk
    · rw [upd_ne e] at q; exact S.frk a u q
theorem RS.unframe {p : Addr} {o : HO} (S : RS K (upd F p o) Hk H bp σ ρ) (hF : F p = none) : RS K F Hk H bp σ ρ := by
  have ne : ∀ a u, F a = some u → a ≠ p := fun a u q z => by subst z; rw [hF] at q; cases q
  obtain ⟨ow, s⟩ := S.ow
  refine ⟨S.len, S.ex, fun a u q => S.fr a u (by rw [upd_ne (ne a u q)]; exact q), fun a u q => S.frk a u (by rw [upd_ne (ne a u q)]; exact q), ⟨ow, s.s, fun i a q => ⟨(s.f i a q).1, ?_, (s.f i a q).2.2⟩, s.w, s.d⟩, S.bor⟩
  have z := (s.f i a q).2.1
  by_cases e : a = p
  · subst e; rw [upd_same] at z; cases z
  · rw [upd_ne e] at z; exact z
theorem RS.landD {p : Addr} {o : HO} (S : RS K (upd F p o) Hk H bp σ ρ) (hF : F p = none) (o2 : HO) : RS K F (upd Hk p o2) (upd H p o2) bp σ ρ := by
  have ne : ∀ a u, F a = some u → a ≠ p := fun a u q z => by subst z; rw [hF] at q; cases q
  have hk : Hk p = none := S.frk p o upd_same
  have S2 := S.unframe hF
  obtain ⟨ow0, s0⟩ := S.ow
  have np : ∀ i a, a ∈ ow0 i → a ≠ p := fun i a ha z => by
    have := (s0.f i a ha).2.1
    subst z
    rw [upd_same] at this; cases this
  have s1 : SL K F Hk H ow0 σ ρ := by
    refine ⟨s0.s, fun i a q => ⟨(s0.f i a q).1, ?_, (s0.f i a q).2.2⟩, s0.w, s0.d⟩
    have z := (s0.f i a q).2.1
    rw [upd_ne (np i a q)] at z; exact z
  refine ⟨S.len, fun a u q => ?_, fun a u q => ?_, fun a u q => ?_, ⟨ow0, s1.step (Ex.new hk) fun i a ha => ⟨upd_ne (np i a ha), by rw [upd_ne (np i a ha)]; exact (s1.f i a ha).1⟩⟩, S.bor⟩
  · by_cases e : a = p
    · subst e; rw [upd_same] at q ⊢; exact q
    · rw [upd_ne e] at q ⊢; exact S.ex a u q
  · rw [upd_ne (ne a u q)]; exact S2.fr a u q
  · rw [upd_ne (ne a u q)]; exact S2.frk a u q
end
structure DPs (X : Cx) (c : Ct) (pos : Pos) (keys : List (Option Expr)) (values : List Expr) (ks : List Key) (m : MA) : Prop where
  ex : ∃ trs, PPs X pos keys values trs ∧ ∀ (σ : L2.St) (H : Hp) (Q : List (V × V) → Hp → Prop), rdA c m σ H (fun vs H' => Q ((ks.map kV).zip vs) H') → tPairs trs σ H Q
section
variable {X : Cx} {c : Ct} {pos p1 p2 : Pos} {keys : List (Option Expr)} {values : List Expr} {ks : List Key} {m : MA} {v : Expr} {a : ME}
theorem dp_nil : DPs X c pos [] [] [] mNil := ⟨[], pps_nil, fun σ H Q h => by
  obtain ⟨F, Hk, bp, ρ, S, h⟩ := h
  exact h _ _ _ (Ex.refl _) S.1 (RVs.nil.mpr rfl)⟩
theorem dp_cons {kx : Expr} {k : Key} (hk : PE X kx (tC (kV k))) (hv : PE X v (rdE c a)) (r : DPs X c pos keys values ks m) : DPs X c pos (some kx :: keys) (v :: values) (k :: ks) (mCons a m) := by
  obtain ⟨trs, e1, e2⟩ := r.ex
  refine ⟨(tC (kV k), rdE c a) :: trs, pps_cons hk hv e1, fun σ H Q h => ?_⟩
  obtain ⟨F, Hk, bp, ρ, S, h⟩ := h
  show rdE c a σ H fun y H2 => tPairs trs σ H2 fun ps H3 => Q ((kV k, y) :: ps) H3
  refine rdw (bE postA S h) fun v H1 ⟨Hk1, x, ρ1, x1, S1, r1, h1⟩ => e2 _ _ _ ?_
  refine rdAw (bA postA S1 h1) fun vs H2 ⟨Hk2, xs, ρ2, x2, S2, r2, h2⟩ => ?_
  exact h2 _ _ _ (Ex.refl _) S2.1 (RVs.cons.mpr ⟨v, vs, rfl, RV.mono x2 _ _ r1, r2⟩)
theorem dp_str {z : Str} {j : Nat} (hv : PE X v (rdE c a)) (r : DPs X c pos keys values ks m) : DPs X c pos (some (.Constant (.str z) j p1) :: keys) (v :: values) (.inr z :: ks) (mCons a m) := dp_cons (k := .inr z) pe_str hv r
def mDict (ks : List Key) (m : MA) : ME := fun ρ => (m ρ).bind fun xs ρ1 => if decide (ks.length = xs.length) && decide (ks.length ≤ 15) && decide ks.Nodup then .ok (.dct ks xs, ρ1) else .stuck
theorem merge_nodup : ∀ (more kvs : List (Key × V)), (kvs.map (·.1) ++ more.map (·.1)).Nodup → mergeK kvs more = kvs ++ more
  | [], kvs, _ => by simp [mergeK]
  | p :: r, kvs, h => by
    have nk : valV kvs p.1 = none := by
      cases e : valV kvs p.1 with
      | none => rfl
      | some z =>
        exfalso
        have := valV_any p.1 kvs
        rw [e] at this
        simp only [Option.isSome_some] at this
        obtain ⟨q, hq, hq2⟩ := List.any_eq_true.mp this
        rw [List.map_cons] at h
        have := (List.nodup_append.mp h).2.2 q.1 (List.mem_map.mpr ⟨q, hq, rfl⟩) p.1 (by simp)
        exact this (of_decide_eq_true hq2)
    show mergeK (putK kvs p.1 p.2) r = _
    rw [putK_new p.2 nk, merge_nodup r (kvs ++ [(p.1, p.2)]) (by
      rw [List.map_append, List.append_assoc]
      simpa using h)]
    simp
theorem me_dict (h : DPs X c pos keys values ks m) (hall : keys.all (·.isSome) = true := by rfl) (hl : keys.length = values.length := by rfl) (h0 : keys ≠ [] := by intro z; cases z) (h15 : keys.length ≤ 15 := by decide) : PE X (.Dict keys values pos) (rdE c (mDict ks m)) := by
  obtain ⟨trs, e1, e2⟩ := h.ex
  refine PEw (pe_disp e1 hall hl h0 h15) fun σ H Q h => ?_
  obtain ⟨F, Hk, bp, ρ, S, h⟩ := h
  intro p hp
  have hF : F p = none := S.1.fr.back hp
  refine e2 _ _ _ ⟨upd F p (.dK []), Hk, bp, ρ, ⟨S.1.frame (.dK []) hp, S.2.1, c.Jm _ _ _ (Ex.new hF) S.2.2⟩, ?_⟩
  unfold mDict at h
  cases em : m ρ with
  | stuck => rw [em] at h; exact h.elim
  | exc e ρ1 =>
    rw [em] at h
    exact fun Hk' H' cls d x S1 er => h Hk' H' cls d x (S1.unframe hF) er
  | ok r =>
    obtain ⟨xs, ρ1⟩ := r
    rw [em] at h
    intro Hk2 H2 vs x S2 r2
    have h : okE c F Hk bp σ Q (if decide (ks.length = xs.length) && decide (ks.length ≤ 15) && decide ks.Nodup then .ok (.dct ks xs, ρ1) else .stuck) := h
    split at h
    · rename_i hc
      simp only [Bool.and_eq_true, decide_eq_true_eq] at hc
      obtain ⟨⟨c1, c2⟩, c3⟩ := hc
      have lv : ks.length = vs.length := by rw [c1, r2.length]
      have mz : (ks.zip vs).map (·.1) = ks := by
        rw [← List.unzip_fst, List.unzip_zip lv]
      refine ⟨S2.fr p _ upd_same, ks.zip vs, ?_, by rw [List.length_zip]; omega, ?_⟩
      · rw [List.zip_map_left]; rfl
      · rw [merge_nodup _ _ (by rw [mz]; simpa using c3), List.nil_append]
        have S3 := S2.landD hF (.dK (ks.zip vs))
        have hk2 : Hk2 p = none := S2.frk p _ upd_same
        exact h _ _ _ (x.trans (Ex.new hk2)) S3 (RV.dct.mpr ⟨p, vs, rfl, upd_same, c1, r2.mono (Ex.new hk2)⟩)
    · exact h.elim
end
def dctIs : List (Str × MV) → List DictEntry → Bool
  | [], [] => true
  | p :: t, e :: r => e.key.isStr p.1 && flatIs p.2 e.val && dctIs t r
  | _, _ => false
structure DCst (K : PySem.W.Frag) (w : World) (mg : Str → Option Value) (x : Str) (tab : List (Str × MV)) : Prop where
  ex : ∃ a es n, mg x = some (.ref a) ∧ KDict K w a es n ∧ dctIs tab es.toList = true
theorem isStr_key {k : Value} {z : Str} (h : k.isStr z = true) : ∃ t, k = .str z t := by
  rw [PySem.W.isStr_of] at h
  exact Value.isStrOf_shape h
theorem dct_find (z : Str) : ∀ {tab : List (Str × MV)} {es : List DictEntry}, dctIs tab es = true → (tab.lookup z = none → es.find? (·.key.isStr z) = none ∧ es.any (·.refKey) = false) ∧ ∀ v, tab.lookup z = some v → ∃ e, es.find? (·.key.isStr z) = some e ∧ flatIs v e.val = true
  | [], [], _ => ⟨fun _ => ⟨rfl, rfl⟩, fun v h => by simp at h⟩
  | [], _ :: _, h => by simp [dctIs] at h
  | _ :: _, [], h => by simp [dctIs] at h
  | p :: t, e :: r, h => by
    simp only [dctIs, Bool.and_eq_true] at h
    obtain ⟨⟨h1, h2⟩, h3⟩ := h
    obtain ⟨tk, ek⟩ := isStr_key h1
    obtain ⟨i1, i2⟩ := dct_find z h3
    rw [List.lookup_cons, List.find?_cons, List.any_cons]
    by_cases q : z = p.1
    · subst q
      rw [h1]
      simp only [BEq.rfl]
      exact ⟨fun h => (by cases h), fun v hv => ⟨e, rfl, (by cases hv; exact h2)⟩⟩
    · have b1 : (z == p.1) = false := by simpa using q
      have b2 : e.key.isStr z = false := by
        cases hb : e.key.isStr z with
        | false => rfl
        | true =>
          obtain ⟨t2, e2⟩ := isStr_key hb
          rw [ek] at e2
          cases e2
          exact absurd rfl q
      have b3 : e.refKey = false := by
        unfold DictEntry.refKey
        rw [ek]
      rw [b1, b2, b3]
      exact ⟨i1, i2⟩
theorem flat_isA {K : PySem.W.Frag} {x : MV} {v : Value} (h : flatIs x v = true) : ∃ w, RelV w v ∧ ∀ H, RV K H x w := by
  unfold flatIs at h
  split at h
  · rw [beq_iff_eq.mp h]; exact ⟨.int _, ⟨_, rfl⟩, fun _ => RV.int.mpr rfl⟩
  · rw [beq_iff_eq.mp h]; exact ⟨.str _, ⟨_, rfl⟩, fun _ => RV.str.mpr rfl⟩
  · exact ⟨.non, rfl, fun _ => RV.non.mpr rfl⟩
  · rw [beq_iff_eq.mp h]; exact ⟨.bl _, rfl, fun _ => RV.bl.mpr rfl⟩
  · cases h
theorem dct_ns {K : PySem.W.Frag} {w : World} {a : Addr} {es : Array DictEntry} {n : Nat} {tab : List (Str × MV)} (D : KDict K w a es n) (h : dctIs tab es.toList = true) (z : Str) :
    (tab.lookup z = none → PySem.W.nsIn K a z = some none) ∧ ∀ v, tab.lookup z = some v → ∃ u y, PySem.W.nsIn K a z = some (some u) ∧ RelV y u ∧ ∀ H, RV K H v y := by
  obtain ⟨i1, i2⟩ := dct_find z h
  unfold PySem.W.nsIn
  rw [D.at_]
  refine ⟨fun hz => ?_, fun v hv => ?_⟩
  · obtain ⟨a1, a2⟩ := i1 hz
    simp only [a1, a2]
    rfl
  · obtain ⟨e, a1, a2⟩ := i2 v hv
    simp only [a1]
    obtain ⟨y, r1, r2⟩ := flat_isA (K := K) a2
    exact ⟨e.val, y, rfl, r1, r2⟩
section
variable {X : Cx} {c : Ct} {pos p apos cpos : Pos} {x : Str} {tab : List (Str × MV)} {e : Expr} {m : ME}
def mKin (tab : List (Str × MV)) (a : ME) : ME := fun ρ => (a ρ).bind fun x ρ1 => match x with
  | .str z => .ok (.bl (tab.lookup z).isSome, ρ1)
  | _ => .stuck
def mKix (tab : List (Str × MV)) (a : ME) : ME := fun ρ => (a ρ).bind fun x ρ1 => match x with
  | .str z => (match tab.lookup z with | some v => .ok (v, ρ1) | none => .stuck)
  | _ => .stuck
def mKget (tab : List (Str × MV)) (a : ME) : ME := fun ρ => (a ρ).bind fun x ρ1 => match x with
  | .str z => .ok ((tab.lookup z).getD .non, ρ1)
  | _ => .stuck
theorem mt_kin (D : DCst X.K X.w X.mg x tab) (he : PE X e (rdE c m)) (hg : Gl X x := by rfl) (hm : behindInMarks .In (.Name x p) = false := by rfl) (hK : c.K = X.K := by rfl) (hd : (x == ("__debug__" : Str)) = false := by decide) : PT X (.Compare e [.In] [.Name x p] pos) (rdT c (mTest (mKin tab m))) := by
  obtain ⟨a, es, n, h1, h2, h3⟩ := D.ex
  refine PTw (pt_cmpR (op_in_kd h2) he (pe_glob hg h1 (v := .ref a) rfl hd) hm) fun σ H Q h => ?_
  have h := rd_test h
  obtain ⟨F, Hk, bp, ρ, S, h⟩ := h
  refine rdw (bE postE S h) fun v H1 ⟨Hk1, y, ρ1, x1, S1, r1, q1⟩ => ?_
  split at q1
  · rename_i z
    obtain rfl := RV.str.mp r1
    obtain ⟨n1, n2⟩ := dct_ns h2 h3 z
    cases el : tab.lookup z with
    | none => rw [el] at q1; exact ⟨z, none, rfl, rfl, n1 el, q1 _ _ _ (Ex.refl _) S1.1 (RV.bl.mpr rfl)⟩
    | some w =>
      obtain ⟨u, y2, e1, _, _⟩ := n2 w el
      rw [el] at q1
      exact ⟨z, some u, rfl, rfl, e1, q1 _ _ _ (Ex.refl _) S1.1 (RV.bl.mpr rfl)⟩
  · exact q1.elim
theorem me_kix (D : DCst X.K X.w X.mg x tab) (he : PE X e (rdE c m)) (hg : Gl X x := by rfl) (hs : PlainIx e := by exact fun _ _ => rfl) (hK : c.K = X.K := by rfl) (hd : (x == ("__debug__" : Str)) = false := by decide) : PE X (.Subscript (.Name x p) e pos) (rdE c (mKix tab m)) := by
  obtain ⟨a, es, n, h1, h2, h3⟩ := D.ex
  refine PEw (pe_ix ix_kdict (pe_glob hg h1 (v := .ref a) rfl hd) he hs) fun σ H Q h => ?_
  show rdE c m σ H fun y H2 => rIxD X.K X.w (.ref a) y H2 Q
  obtain ⟨F, Hk, bp, ρ, S, h⟩ := h
  refine rdw (bE postE S h) fun v H1 ⟨Hk1, y, ρ1, x1, S1, r1, q1⟩ => ?_
  split at q1
  · rename_i z
    obtain rfl := RV.str.mp r1
    obtain ⟨n1, n2⟩ := dct_ns h2 h3 z
    cases el : tab.lookup z with
    | none => rw [el] at q1; exact q1.elim
    | some w =>
      obtain ⟨u, y2, e1, e2, e3⟩ := n2 w el
      rw [el] at q1
      exact ⟨a, z, y2, rfl, rfl, ⟨es, n, u, h2.at_, h2.lit, e1, e2⟩, q1 _ _ _ (Ex.refl _) S1.1 (by rw [hK]; exact e3 _)⟩
  · exact q1.elim
theorem pe_kget {te : TE} {a : Addr} {es : Array DictEntry} {n : Nat} (h1 : X.mg x = some (.ref a)) (D : KDict X.K X.w a es n) (he : PE X e te) (m : M1 X (.Name x p) "get" apos e cpos) (hg : Gl X x := by rfl) (hd : (x == ("__debug__" : Str)) = false := by decide) :
    PE X (.Call (.Attribute (.Name x p) "get" apos) [e] [] cpos) (fun σ H Q => te σ H fun y H2 => ∃ z r v, y = .str z ∧ PySem.W.nsIn X.K a z = some r ∧ (∀ u, r = some u → RelV v u) ∧ (r = none → v = .non) ∧ Q v H2) := by
  refine ⟨fun pins s σ H Q I h => ?_⟩
  refine wpAny_Call_method m.base m.few m.line PySem.F.plainAttrs_dict PySem.F.slot_dict_get PySem.F.type_dict_get (ld_glob I hg h1 ?_ hd)
  have hm := PySem.W.mapOf_K (prog := X.prog) (w := X.w) I.kIn D.at_ D.lit
  refine ⟨hm.typeIs, fun b q => ?_, ?_⟩
  · cases q
    exact ⟨_, I.kIn _ _ D.at_, rfl⟩
  · rw [m.trees]
    refine Calls.callWith_builtin rfl (Calls.evalArgs_plain (Calls.spliced_cons (thn (he.run pins s σ H _ I h) fun iv s2 ⟨y, H2, I2, ry, z, r, v, ey, en, v1, v2, q2⟩ => Calls.spliced_nil ?_)))
    subst ey
    obtain ⟨t, rfl⟩ := ry
    have hm2 := PySem.W.mapOf_K (prog := X.prog) (w := X.w) I2.kIn D.at_ D.lit
    refine call_meetsIn PySem.F.slot_dict_get hm2.typeIs PySem.F.entry_dict_get (PySem.F.args_dict_get_2 _ _) (meets_dict_get (strKind X.prog X.w) a (strKind_is X.prog X.w z t) D.low) ⟨_, hm2, ?_⟩
    have fd := PySem.W.find_K D.at_ en
    rw [fd]
    cases r with
    | none => rw [v2 rfl] at q2; exact ⟨.non, H2, I2.tok _, rfl, q2⟩
    | some u => exact ⟨v, H2, I2.tok _, v1 u rfl, q2⟩
theorem me_kget (D : DCst X.K X.w X.mg x tab) (he : PE X e (rdE c m)) (m1 : M1 X (.Name x p) "get" apos e cpos) (hg : Gl X x := by rfl) (hd : (x == ("__debug__" : Str)) = false := by decide) (hK : c.K = X.K := by rfl) : PE X (.Call (.Attribute (.Name x p) "get" apos) [e] [] cpos) (rdE c (mKget tab m)) := by
  obtain ⟨a, es, n, h1, h2, h3⟩ := D.ex
  refine PEw (pe_kget h1 h2 he m1 hg hd) fun σ H Q h => ?_
  obtain ⟨F, Hk, bp, ρ, S, h⟩ := h
  refine rdw (bE postE S h) fun v H1 ⟨Hk1, y, ρ1, x1, S1, r1, q1⟩ => ?_
  split at q1
  · rename_i z
    obtain rfl := RV.str.mp r1
    obtain ⟨n1, n2⟩ := dct_ns h2 h3 z
    cases el : tab.lookup z with
    | none => rw [el] at q1; exact ⟨z, none, .non, rfl, n1 el, fun u h => (by cases h), fun _ => rfl, q1 _ _ _ (Ex.refl _) S1.1 (RV.non.mpr rfl)⟩
    | some w =>
      obtain ⟨u, y2, e1, e2, e3⟩ := n2 w el
      rw [el] at q1
      exact ⟨z, some u, y2, rfl, e1, fun u' h => (by cases h; exact e2), fun h => (by cases h), q1 _ _ _ (Ex.refl _) S1.1 (by rw [hK]; exact e3 _)⟩
  · exact q1.elim
end
end Tm
set_option Elab.async false
set_option linter.all false
set_option maxRecDepth 100000
set_option maxHeartbeats 2000000
namespace Tm
open PySem L2
open Evl (Ex ex_rd ex_l ex_t)
theorem OV.dow {K : PySem.W.Frag} {Hk H : Hp} {ks : List Key} {xs : List MV} {v : V} {A : List Addr} : OV K Hk H (.dow ks xs) v A ↔ ∃ p vs, v = .ref p ∧ A = [p] ∧ H p = some (.dK (ks.zip vs)) ∧ ks.length = xs.length ∧ RVs K Hk xs vs := by
  unfold OV OF; rfl
end Tm
set_option Elab.async false
set_option linter.all false
set_option maxRecDepth 100000
set_option maxHeartbeats 2000000
namespace Tm
open PySem L2 PySem.Spec PyProof.Rows
open Evl (Ex ex_rd ex_l ex_t)
inductive Tst
  | one (c : Value)
  | two (c1 c2 : Value)
inductive TstE (X : Cx) : Expr → Tst → Prop
  | one {y : Str} {c : Value} {np : Pos} (hc : Names X y c) : TstE X (.Name y np) (.one c)
  | two {y1 y2 : Str} {c1 c2 : Value} {p1 p2 tp : Pos} {k : Nat} (h1 : Names X y1 c1) (h2 : Names X y2 c2) : TstE X (.Tuple [.Name y1 p1, .Name y2 p2] k tp) (.two c1 c2)
theorem TstE.suite {X : Cx} {te : Expr} {t : Tst} (h : TstE X te t) (a : Addr) (pn : List (Addr × Obj)) : TstE (X.suite a pn) te t := by
  cases h with
  | one hc => exact .one hc
  | two h1 h2 => exact .two h1 h2
inductive HdT (X : Cx) (n : Str) : List ExceptHandler → List (Tst × (Addr → Value → Option Addr → TS)) → Prop
  | nil : HdT X n [] []
  | cons {te : Expr} {t : Tst} {ts : Addr → Value → Option Addr → TS} {b₀ : Stmt} {suite : List Stmt} {p : Pos} {hds : List ExceptHandler} {l : List (Tst × (Addr → Value → Option Addr → TS))} (hc : TstE X te t)
      (hsu : ∀ (a : Addr) (oe : Obj) (cls : Value) (d : Option Addr) (pn : List (Addr × Obj)), L2N.Zn cls d oe → (∃ vs, oe.data = .fields vs) → PSs (X.suite a ((a, oe) :: pn)) (b₀ :: suite) (ts a cls d)) (r : HdT X n hds l) :
      HdT X n (.ExceptHandler (some te) (some n) (b₀ :: suite) p :: hds) ((t, ts) :: l)
structure ExT2 (K : PySem.W.Frag) (mg : Str → Option Value) (y1 y2 : Str) (x : Str) (b : Bool) : Prop where
  ex : ∃ C D1 D2, mg x = some (.ref C) ∧ mg y1 = some (.ref D1) ∧ mg y2 = some (.ref D2) ∧ PySem.W.exmAny K (.ref C) [.ref D1, .ref D2] = some b
inductive HdMT (X : Cx) (c : Ct) (i : Nat) (n : Str) : List ExceptHandler → List (List (Str × Bool) × (MX → MS)) → Prop
  | nil : HdMT X c i n [] []
  | cons {y : Str} {b₀ : Stmt} {suite : List Stmt} {np p : Pos} {hds : List ExceptHandler} {tab : List (Str × Bool)} {mh : MX → MS} {l : List (List (Str × Bool) × (MX → MS))} (hg : Gl X y) (ht : ∀ p ∈ tab, ExT X.K X.mg y p.1 p.2) (hne : ∃ D, X.mg y = some (.ref D))
      (hsu : ∀ (a : Addr) (oe : Obj) (C : Addr) (d : Option Addr) (pn : List (Addr × Obj)) (e : MX), X.mg e.cls = some (.ref C) → (e.cls, true) ∈ tab → L2N.Zn (.ref C) d oe → (∃ vs, oe.data = .fields vs) → PSs (X.suite a ((a, oe) :: pn)) (b₀ :: suite) (rdS (cH c i a e d) (mh e)))
      (hdb : (y == ("__debug__" : Str)) = false) (r : HdMT X c i n hds l) :
      HdMT X c i n (.ExceptHandler (some (.Name y np)) (some n) (b₀ :: suite) p :: hds) ((tab, mh) :: l)
  | two {y1 y2 : Str} {b₀ : Stmt} {suite : List Stmt} {p1 p2 tp p : Pos} {k : Nat} {hds : List ExceptHandler} {tab : List (Str × Bool)} {mh : MX → MS} {l : List (List (Str × Bool) × (MX → MS))} (hg1 : Gl X y1) (hg2 : Gl X y2) (ht : ∀ p ∈ tab, ExT2 X.K X.mg y1 y2 p.1 p.2) (hne1 : ∃ D, X.mg y1 = some (.ref D)) (hne2 : ∃ D, X.mg y2 = some (.ref D))
      (hsu : ∀ (a : Addr) (oe : Obj) (C : Addr) (d : Option Addr) (pn : List (Addr × Obj)) (e : MX), X.mg e.cls = some (.ref C) → (e.cls, true) ∈ tab → L2N.Zn (.ref C) d oe → (∃ vs, oe.data = .fields vs) → PSs (X.suite a ((a, oe) :: pn)) (b₀ :: suite) (rdS (cH c i a e d) (mh e)))
      (hdb1 : (y1 == ("__debug__" : Str)) = false) (hdb2 : (y2 == ("__debug__" : Str)) = false) (r : HdMT X c i n hds l) :
      HdMT X c i n (.ExceptHandler (some (.Tuple [.Name y1 p1, .Name y2 p2] k tp)) (some n) (b₀ :: suite) p :: hds) ((tab, mh) :: l)
end Tm
set_option Elab.async false
set_option linter.all false
set_option maxRecDepth 100000
set_option maxHeartbeats 2000000
namespace Tm
open PySem L2 PySem.Spec PyProof.Rows
open Evl (Ex ex_rd ex_l ex_t)
structure FnF (P : Program) (w : World) (K : PySem.W.Frag) (mg : Str → Option Value) (base : Heap) (j n : Nat) (T : List (Str × MF)) : Prop where
  ex : ∀ x f, T.lookup x = some f → ∀ a, PySem.W.nsIn K mainGlobals x = some (some (.ref a)) → ∃ j' fd ps, j' ≤ j ∧ FnOk P w K mg base (L2N.CX P w) j' a fd ps (spF K mg n [] f) ∧ PySem.W.keepIn K (.ref a) = true ∧ Binds K fd ps []
end Tm
set_option Elab.async false
set_option linter.all false
set_option maxRecDepth 100000
set_option maxHeartbeats 4000000
namespace Tm
open PySem L2
def fnNames : List Str := ["ahead_of_last", "all_or_none", "fill", "five_on", "half_up", "high_half", "lacking", "last_figure", "low_half", "lowest_two", "nine_less", "none_or_all", "not_all", "one_of_none", "one_of_two", "one_or_none", "order_byte", "other_twos", "product_byte", "sign_below", "six_on", "ten_high", "ten_low", "ten_or_none", "top_two"]
def m_lmixed : MS := mSeq (mAsg (mLst (mCons (mC (.int 2147483629)) (mCons (mC (.int 2147483587)) (mCons (mC (.int 2147483579)) (mCons (mC (.int 2147483563)) (mCons (mC (.int 2147483549)) (mCons (mC (.int 2147483543)) (mCons (mC (.int 2147483497)) (mCons (mC (.int 2147483489)) (mNil)))))))))) (gSet 3)) (mSeq (mAsg (mOp fMod (mOp fAdd (mOp fAdd (mOp fAdd (mVar 0) (mOp fMul (mC (.int 7919)) (mVar 2))) (mOp fMul (mC (.int 104729)) (mVar 1))) (mC (.int 13))) (mC (.int 2147483647))) (gSet 4)) (mSeq (mAsg (mOp fMod (mOp fPow (mVar 4) (mC (.int 5))) (mOp fIx (mVar 3) (mOp fMod (mVar 1) (mC (.int 8))))) (gSet 4)) (mSeq (mAsg (mOp fMod (mOp fAdd (mOp fAdd (mVar 4) (mOp fMul (mC (.int 40692)) (mVar 2))) (mVar 1)) (mC (.int 2147483647))) (gSet 5)) (mRet (mOp fAdd (mOp fMul (mOp fMod (mOp fPow (mVar 5) (mC (.int 5))) (mC (.int 2147483647))) (mC (.int 1000000007))) (mVar 4))))))
def f_lmixed : MF := mFn 6 [] m_lmixed
def b_ldraws_0 : MS := mIfS (mTest (mOp fGt (mVar 4) (mC (.int 0)))) (mSeq (mDrop (mLm lmAppend 3 (mCons (mOp fMod (mVar 4) (mOp fIx (mVar 2) (mVar 5))) (mNil)))) (mAsg (mOp fDiv (mVar 4) (mOp fIx (mVar 2) (mVar 5))) (gSet 4))) (mDrop (mLm lmAppend 3 (mCons (mOp fMod (mFz (mCall f_lmixed (mCons (mVar 0) (mCons (mVar 5) (mCons (mVar 1) (mNil)))))) (mOp fIx (mVar 2) (mVar 5))) (mNil))))
def m_ldraws : MS := mSeq (mSetO 3 (mLstO (mNil))) (mSeq (mAsg (mC (.int 0)) (gSet 4)) (mSeq (mIfS (mTest (mOp fGe (mBlt bAbs (mCons (mVar 0) (mNil))) (mOp fPow (mC (.int 10)) (mC (.int 18))))) (mAsg (mBlt bAbs (mCons (mVar 0) (mNil))) (gSet 4)) (mPass)) (mSeq (mFor (mR1 (mCons (mBlt bLen (mCons (mVar 2) (mNil))) (mNil))) (gSet 5) (b_ldraws_0)) (mRet (mMove 3)))))
def f_ldraws : MF := mFn 6 [] m_ldraws
def m_lcell : MS := mSeq (mIfS (mTest (mOp fLt (mVar 1) (mBlt bLen (mCons (mVar 0) (mNil))))) (mRet (mOp fIx (mVar 0) (mVar 1))) (mPass)) (mSeq (mIfS (mTest (mOp fEq (mBlt bLen (mCons (mVar 0) (mNil))) (mC (.int 0)))) (mRet (mOp fMul (mC (.int 7919)) (mOp fAdd (mVar 1) (mC (.int 1))))) (mPass)) (mRet (mOp fAdd (mOp fIx (mVar 0) (mOp fMod (mVar 1) (mBlt bLen (mCons (mVar 0) (mNil))))) (mOp fMul (mC (.int 104729)) (mVar 1)))))
def f_lcell : MF := mFn 2 [] m_lcell
def m_ldrawn_table : MS := mRet (mBlt bTuple (mCons (mFz (mLcO (mR1 (mCons (mC (.int 256)) (mNil))) (.nm 3) (mYes) (mOp fMod (mOp fDiv (mOp fMod (mOp fAdd (mOp fAdd (mOp fMul (mOp fMul (mVar 0) (mVar 3)) (mVar 3)) (mOp fMul (mVar 1) (mVar 3))) (mVar 2)) (mC (.int 65519))) (mC (.int 3))) (mC (.int 256))) [3])) (mNil)))
def f_ldrawn_table : MF := mFn 4 [] m_ldrawn_table
def m_ldrawn_row : MS := mSeq (mAsg (mOp fIx (mLst (mCons (mC (.str "put")) (mCons (mC (.str "copy")) (mCons (mC (.str "add")) (mCons (mC (.str "addc")) (mCons (mC (.str "and")) (mCons (mC (.str "or")) (mCons (mC (.str "left")) (mCons (mC (.str "right")) (mCons (mC (.str "look")) (mCons (mC (.str "mark")) (mNil)))))))))))) (mOp fIx (mVar 0) (mC (.int 0)))) (gSet 3)) (mSeq (mAsg (mOp fMod (mOp fIx (mVar 0) (mC (.int 1))) (mVar 1)) (gSet 4)) (mSeq (mIfS (mTest (mOp fIn (mVar 3) (mTup (mCons (mC (.str "left")) (mCons (mC (.str "right")) (mNil)))))) (mRet (mTup (mCons (mVar 3) (mCons (mVar 4) (mNil))))) (mPass)) (mSeq (mIfS (mTest (mOp fEq (mVar 3) (mC (.str "mark")))) (mRet (mTup (mCons (mVar 3) (mCons (mOp fMod (mOp fIx (mVar 0) (mC (.int 1))) (mC (.int 2))) (mNil))))) (mPass)) (mSeq (mIfS (mTest (mOp fEq (mVar 3) (mC (.str "put")))) (mRet (mTup (mCons (mVar 3) (mCons (mVar 4) (mCons (mOp fIx (mVar 0) (mC (.int 2))) (mNil)))))) (mPass)) (mSeq (mIfS (mAndT (mTest (mOp fEq (mVar 3) (mC (.str "look")))) (mTest (mOp fGt (mVar 2) (mC (.int 0))))) (mRet (mTup (mCons (mVar 3) (mCons (mVar 4) (mCons (mOp fMod (mOp fIx (mVar 0) (mC (.int 2))) (mVar 2)) (mNil)))))) (mPass)) (mSeq (mIfS (mTest (mOp fEq (mVar 3) (mC (.str "look")))) (mRet (mTup (mCons (mC (.str "copy")) (mCons (mVar 4) (mCons (mOp fMod (mOp fIx (mVar 0) (mC (.int 2))) (mVar 1)) (mNil)))))) (mPass)) (mRet (mTup (mCons (mVar 3) (mCons (mVar 4) (mCons (mOp fMod (mOp fIx (mVar 0) (mC (.int 2))) (mVar 1)) (mNil))))))))))))
def f_ldrawn_row : MF := mFn 5 [] m_ldrawn_row
def b_ldrawn_program_0 : MS := mDrop (mLm lmAppend 6 (mCons (mFz (mCall f_ldrawn_row (mCons (mSl (mVar 9) (mPart (mVar 10)) (mPart (mOp fAdd (mVar 10) (mC (.int 3))))) (mCons (mVar 2) (mCons (mVar 4) (mNil)))))) (mNil)))
def b_ldrawn_program_1 : MS := mSeq (mAsg (mFz (mCall f_ldraws (mCons (mFz (mCall f_lcell (mCons (mVar 0) (mCons (mOp fAdd (mC (.int 1)) (mVar 7)) (mNil))))) (mCons (mOp fAdd (mVar 1) (mC (.int 1))) (mCons (mLst (mCons (mC (.int 10)) (mCons (mC (.int 256)) (mCons (mC (.int 256)) (mCons (mC (.int 10)) (mCons (mC (.int 256)) (mCons (mC (.int 256)) (mCons (mC (.int 10)) (mCons (mC (.int 256)) (mCons (mC (.int 256)) (mNil))))))))))) (mNil)))))) (gSet 9)) (mFor (mR3 (mCons (mC (.int 0)) (mCons (mC (.int 9)) (mCons (mC (.int 3)) (mNil))))) (gSet 10) (b_ldrawn_program_0))
def b_ldrawn_program_2 : MS := mSeq (mAsg (mOp fAdd (mOp fMul (mOp fMul (mOp fIx (mVar 3) (mC (.int 6))) (mOp fAdd (mVar 7) (mC (.int 1)))) (mOp fAdd (mVar 7) (mC (.int 2)))) (mOp fMul (mOp fIx (mVar 3) (mC (.int 7))) (mVar 7))) (gSet 11)) (mDrop (mLm lmAppend 8 (mCons (mOp fMod (mOp fDiv (mOp fMod (mVar 11) (mC (.int 65519))) (mC (.int 5))) (mC (.int 256))) (mNil))))
def m_ldrawn_program : MS := mSeq (mAsg (mFz (mCall f_ldraws (mCons (mFz (mCall f_lcell (mCons (mVar 0) (mCons (mC (.int 0)) (mNil))))) (mCons (mVar 1) (mCons (mLst (mCons (mC (.int 8)) (mCons (mC (.int 17)) (mCons (mC (.int 65519)) (mCons (mC (.int 65519)) (mCons (mC (.int 65519)) (mCons (mC (.int 2)) (mCons (mC (.int 65519)) (mCons (mC (.int 65519)) (mCons (mC (.int 256)) (mNil))))))))))) (mNil)))))) (gSet 3)) (mSeq (mAsg (mOp fIx (mLst (mCons (mC (.int 0)) (mCons (mC (.int 0)) (mCons (mC (.int 1)) (mCons (mC (.int 1)) (mCons (mC (.int 2)) (mCons (mC (.int 2)) (mCons (mC (.int 2)) (mCons (mC (.int 16)) (mNil)))))))))) (mOp fIx (mVar 3) (mC (.int 0)))) (gSet 4)) (mSeq (mAsg (mBlt bTuple (mCons (mFz (mLcO (mR1 (mCons (mVar 4) (mNil))) (.nm 7) (mYes) (mFz (mCall0 f_ldrawn_table (mCons (mOp fIx (mVar 3) (mC (.int 2))) (mCons (mOp fIx (mVar 3) (mC (.int 3))) (mCons (mOp fAdd (mOp fIx (mVar 3) (mC (.int 4))) (mVar 7)) (mNil)))))) [7])) (mNil))) (gSet 5)) (mSeq (mSetO 6 (mLstO (mNil))) (mSeq (mFor (mR1 (mCons (mOp fIx (mVar 3) (mC (.int 1))) (mNil))) (gSet 7) (b_ldrawn_program_1)) (mSeq (mSetO 8 (mLstO (mNil))) (mSeq (mFor (mR1 (mCons (mVar 2) (mNil))) (gSet 7) (b_ldrawn_program_2)) (mSeq (mIfS (mTest (mOp fEq (mOp fMod (mOp fIx (mVar 3) (mC (.int 8))) (mC (.int 8))) (mC (.int 0)))) (mSetO 8 (mOpO fMultL (mLst (mCons (mOp fIx (mLst (mCons (mC (.int 0)) (mCons (mC (.int 255)) (mCons (mC (.int 128)) (mCons (mC (.int 1)) (mNil)))))) (mOp fMod (mOp fDiv (mOp fIx (mVar 3) (mC (.int 8))) (mC (.int 8))) (mC (.int 4)))) (mNil))) (mVar 2))) (mPass)) (mRet (mTup (mCons (mVar 5) (mCons (mBlt bTuple (mCons (mVar 6) (mNil))) (mCons (mBlt bTuple (mCons (mVar 8) (mNil))) (mCons (mOp fIx (mVar 3) (mC (.int 5))) (mNil))))))))))))))
def f_ldrawn_program : MF := mFn 12 [] m_ldrawn_program
def m_pparts_due : MS := mSeq (mIfS (mTest (mKin [("look", (.str "ct")), ("mark", (.str "m"))] (mVar 0))) (mRet (mKix [("look", (.str "ct")), ("mark", (.str "m"))] (mVar 0))) (mPass)) (mRet (mKget [("put", (.str "cb")), ("copy", (.str "cc")), ("add", (.str "cc")), ("addc", (.str "cc")), ("and", (.str "cc")), ("or", (.str "cc")), ("left", (.str "c")), ("right", (.str "c"))] (mVar 0)))
def f_pparts_due : MF := mFn 1 [] m_pparts_due
def m_pis_row : MS := mSeq (mAsg (mFz (mCall f_pparts_due (mCons (mOp fIx (mVar 0) (mC (.int 0))) (mNil)))) (gSet 3)) (mSeq (mIfS (mOrT (mTest (mOp fIsN (mVar 3) (mC .non))) (mTest (mOp fNe (mBlt bLen (mCons (mVar 0) (mNil))) (mOp fAdd (mC (.int 1)) (mBlt bLen (mCons (mVar 3) (mNil))))))) (mRet (mC (.bl false))) (mPass)) (mSeq (mAsg (mDict [.inr "c", .inr "b", .inr "t", .inr "m"] (mCons (mVar 1) (mCons (mC (.int 256)) (mCons (mVar 2) (mCons (mC (.int 2)) (mNil)))))) (gSet 4)) (mRet (mBlt bAll (mCons (mFz (mLcO (mZip (mCons (mSl (mVar 0) (mPart (mC (.int 1))) (mNo)) (mCons (mVar 3) (mNil)))) (.tp [5, 6]) (mYes) (mChain fLe fLt (mC (.int 0)) (mVar 5) (mOp fDix (mVar 4) (mVar 6))) [5, 6])) (mNil))))))
def f_pis_row : MF := mFn 7 [] m_pis_row
def m_pnumber_told : MS := mSeq (mIfS (mOrT (mTest (mOp fNotIn (mBlt bLen (mCons (mVar 0) (mNil))) (mTup (mCons (mC (.int 1)) (mCons (mC (.int 2)) (mCons (mC (.int 3)) (mNil))))))) (mNotT (mTest (mBlt bAll (mCons (mFz (mLcO (mItV (mVar 0)) (.nm 2) (mYes) (mOp fIn (mVar 2) (mC (.str "0123456789"))) [2])) (mNil)))))) (mRet (mUn fNeg (mC (.int 1)))) (mPass)) (mSeq (mAsg (mBlt bInt (mCons (mVar 0) (mNil))) (gSet 1)) (mSeq (mIfS (mTest (mOp fNe (mBlt bStr (mCons (mVar 1) (mNil))) (mVar 0))) (mRet (mUn fNeg (mC (.int 1)))) (mPass)) (mRet (mVar 1))))
def f_pnumber_told : MF := mFn 3 [] m_pnumber_told
def m_prow_told : MS := mSeq (mAsg (mSm smSplit (mVar 1) (mCons (mC (.str " ")) (mNil))) (gSet 2)) (mSeq (mIfS (mTest (mOp fGt (mBlt bLen (mCons (mVar 2) (mNil))) (mC (.int 3)))) (mRaise1 "BadLine" "at" (mVar 0)) (mPass)) (mSeq (mAsg (mBlt bTuple (mCons (mOp fAdd (mSl (mVar 2) (mNo) (mPart (mC (.int 1)))) (mFz (mLcO (mItV (mSl (mVar 2) (mPart (mC (.int 1))) (mNo))) (.nm 4) (mYes) (mFz (mCall0 f_pnumber_told (mCons (mVar 4) (mNil)))) [4]))) (mNil))) (gSet 3)) (mSeq (mIfS (mNotT (mTest (mFz (mCall f_pis_row (mCons (mVar 3) (mCons (mC (.int 256)) (mCons (mC (.int 16)) (mNil)))))))) (mRaise1 "BadLine" "at" (mVar 0)) (mPass)) (mRet (mVar 3)))))
def f_prow_told : MF := mFn 5 [] m_prow_told
def b_prows_told_0 : MS := mSeq (mIfS (mTest (mOp fEq (mVar 2) (mC (.int 200)))) (mRaise1 "BadLine" "at" (mVar 2)) (mPass)) (mDrop (mLm lmAppend 1 (mCons (mFz (mCall f_prow_told (mCons (mVar 2) (mCons (mVar 3) (mNil))))) (mNil))))
def m_prows_told : MS := mSeq (mIfS (mTest (mOp fEq (mVar 0) (mC (.str "")))) (mRet (mTup (mNil))) (mPass)) (mSeq (mSetO 1 (mLstO (mNil))) (mSeq (mFor (mEnum (mCons (mSm smSplit (mVar 0) (mCons (mC (.str "\n")) (mNil))) (mNil))) (gTp 2 (gsCons (gSet 2) (gsCons (gSet 3) (gsNil)))) (b_prows_told_0)) (mRet (mBlt bTuple (mCons (mVar 1) (mNil))))))
def f_prows_told : MF := mFn 4 [] m_prows_told
def b_lnumber2_0 : MS := mAsg (mOp fAdd (mOp fMul (mC (.int 10)) (mVar 1)) (mSm smIndex (mC (.str "0123456789")) (mCons (mVar 2) (mNil)))) (gSet 1)
def m_lnumber2 : MS := mSeq (mIfS (mOrT (mTest (mOp fLt (mBlt bLen (mCons (mVar 0) (mNil))) (mC (.int 1)))) (mOrT (mTest (mOp fGt (mBlt bLen (mCons (mVar 0) (mNil))) (mC (.int 3)))) (mNotT (mTest (mBlt bAll (mCons (mFz (mLcO (mItV (mVar 0)) (.nm 2) (mYes) (mOp fIn (mVar 2) (mC (.str "0123456789"))) [2])) (mNil))))))) (mRet (mC .non)) (mPass)) (mSeq (mAsg (mC (.int 0)) (gSet 1)) (mSeq (mFor (mItV (mVar 0)) (gSet 2) (b_lnumber2_0)) (mSeq (mIfS (mAndT (mTest (mOp fEq (mOp fIx (mVar 0) (mC (.int 0))) (mC (.str "0")))) (mTest (mOp fNe (mVar 0) (mC (.str "0"))))) (mRet (mC .non)) (mPass)) (mRet (mVar 1)))))
def f_lnumber2 : MF := mFn 3 [] m_lnumber2
def m_lrow_of : MS := mSeq (mAsg (mSm smSplit (mVar 0) (mCons (mC (.str " ")) (mNil))) (gSet 1)) (mSeq (mAsg (mDget2 (mDict [.inr "put", .inr "look", .inr "mark", .inr "left", .inr "right"] (mCons (mLst (mCons (mC (.int 256)) (mCons (mC (.int 256)) (mNil)))) (mCons (mLst (mCons (mC (.int 256)) (mCons (mC (.int 16)) (mNil)))) (mCons (mLst (mCons (mC (.int 2)) (mNil))) (mCons (mLst (mCons (mC (.int 256)) (mNil))) (mCons (mLst (mCons (mC (.int 256)) (mNil))) (mNil))))))) (mOp fIx (mVar 1) (mC (.int 0))) (mLst (mCons (mC (.int 256)) (mCons (mC (.int 256)) (mNil))))) (gSet 2)) (mSeq (mIfS (mTest (mOp fNotIn (mOp fIx (mVar 1) (mC (.int 0))) (mTup (mCons (mC (.str "put")) (mCons (mC (.str "copy")) (mCons (mC (.str "add")) (mCons (mC (.str "addc")) (mCons (mC (.str "and")) (mCons (mC (.str "or")) (mCons (mC (.str "left")) (mCons (mC (.str "right")) (mCons (mC (.str "look")) (mCons (mC (.str "mark")) (mNil)))))))))))))) (mRet (mC .non)) (mPass)) (mSeq (mSetO 3 (mLcO (mItV (mSl (mVar 1) (mPart (mC (.int 1))) (mNo))) (.nm 4) (mYes) (mFz (mCall0 f_lnumber2 (mCons (mVar 4) (mNil)))) [4])) (mSeq (mIfS (mOrT (mTest (mOp fNe (mBlt bLen (mCons (mVar 3) (mNil))) (mBlt bLen (mCons (mVar 2) (mNil))))) (mTest (mOp fIn (mC .non) (mVar 3)))) (mRet (mC .non)) (mPass)) (mSeq (mIfS (mNotT (mTest (mBlt bAll (mCons (mFz (mLcO (mZip (mCons (mVar 3) (mCons (mVar 2) (mNil)))) (.tp [5, 6]) (mYes) (mOp fLt (mVar 5) (mVar 6)) [5, 6])) (mNil))))) (mRet (mC .non)) (mPass)) (mRet (mBlt bTuple (mCons (mOp fAdd (mSl (mVar 1) (mNo) (mPart (mC (.int 1)))) (mVar 3)) (mNil)))))))))
def f_lrow_of : MF := mFn 7 [] m_lrow_of
def b_ldue4_0 : MS := mSeq (mAsg (mFz (mCall f_lrow_of (mCons (mVar 3) (mNil)))) (gSet 4)) (mSeq (mIfS (mAndT (mTest (mOp fNe (mVar 0) (mC (.str "")))) (mOrT (mTest (mOp fEq (mVar 2) (mC (.int 200)))) (mTest (mOp fIsN (mVar 4) (mC .non))))) (mRet (mTup (mCons (mC (.str "BadLine")) (mCons (mVar 2) (mNil))))) (mPass)) (mIfS (mTest (mOp fNe (mVar 0) (mC (.str "")))) (mDrop (mLm lmAppend 1 (mCons (mVar 4) (mNil)))) (mPass)))
def m_ldue4 : MS := mSeq (mSetO 1 (mLstO (mNil))) (mSeq (mFor (mEnum (mCons (mSm smSplit (mVar 0) (mCons (mC (.str "\n")) (mNil))) (mNil))) (gTp 2 (gsCons (gSet 2) (gsCons (gSet 3) (gsNil)))) (b_ldue4_0)) (mRet (mTup (mCons (mC (.str "told")) (mCons (mBlt bTuple (mCons (mVar 1) (mNil))) (mNil))))))
def f_ldue4 : MF := mFn 5 [] m_ldue4
def m_lspoilt3 : MS := mSeq (mAsg (mOp fIx (mLst (mCons (mOp fMod (mOp fIx (mVar 1) (mC (.int 0))) (mOp fAdd (mBlt bLen (mCons (mVar 0) (mNil))) (mC (.int 1)))) (mCons (mOp fSub (mBlt bLen (mCons (mVar 0) (mNil))) (mOp fMod (mOp fIx (mVar 1) (mC (.int 0))) (mOp fAdd (mBlt bMin (mCons (mBlt bLen (mCons (mVar 0) (mNil))) (mCons (mC (.int 8)) (mNil)))) (mC (.int 1))))) (mNil)))) (mOp fIx (mVar 1) (mC (.int 4)))) (gSet 2)) (mSeq (mAsg (mC (.str " !\"#$&'()*+,-./0123456789:;<=>?@ABCDEFGHIJKLMNOPQRSTUVWXYZ[\\]^_`abcdefghijklmnopqrstuvwxyz{|}~")) (gSet 3)) (mSeq (mAsg (mOp fIx (mVar 3) (mOp fMod (mOp fIx (mVar 1) (mC (.int 2))) (mBlt bLen (mCons (mVar 3) (mNil))))) (gSet 4)) (mSeq (mIfS (mTest (mOp fLt (mOp fIx (mVar 1) (mC (.int 1))) (mC (.int 4)))) (mSeq (mAsg (mC (.str " \n0123456789amdcoptulkrihgefn")) (gSet 5)) (mAsg (mOp fIx (mVar 5) (mOp fMod (mOp fIx (mVar 1) (mC (.int 2))) (mBlt bLen (mCons (mVar 5) (mNil))))) (gSet 4))) (mPass)) (mSeq (mIfS (mTest (mOp fEq (mOp fIx (mVar 1) (mC (.int 3))) (mC (.int 0)))) (mRet (mOp fAdd (mOp fAdd (mSl (mVar 0) (mNo) (mPart (mVar 2))) (mVar 4)) (mSl (mVar 0) (mPart (mVar 2)) (mNo)))) (mPass)) (mSeq (mIfS (mTest (mOp fEq (mOp fIx (mVar 1) (mC (.int 3))) (mC (.int 1)))) (mRet (mOp fAdd (mOp fAdd (mSl (mVar 0) (mNo) (mPart (mVar 2))) (mVar 4)) (mSl (mVar 0) (mPart (mOp fAdd (mVar 2) (mC (.int 1)))) (mNo)))) (mPass)) (mRet (mOp fAdd (mSl (mVar 0) (mNo) (mPart (mVar 2))) (mSl (mVar 0) (mPart (mOp fAdd (mVar 2) (mC (.int 1)))) (mNo)))))))))
def f_lspoilt3 : MF := mFn 6 [] m_lspoilt3
def m_lline : MS := mRet (mSm smJoin (mC (.str " ")) (mCons (mOp fAdd (mLst (mCons (mOp fIx (mVar 0) (mC (.int 0))) (mNil))) (mFz (mLcO (mItV (mSl (mVar 0) (mPart (mC (.int 1))) (mNo))) (.nm 1) (mYes) (mBlt bStr (mCons (mVar 1) (mNil))) [1]))) (mNil)))
def f_lline : MF := mFn 2 [] m_lline
def m_lsorts (ex : MX) : MS := mSeq (mAsg (mLst (mCons (mTup (mCons (mC (.str "NoShape")) (mCons (mExIs ex [("BadLine", false), ("NoDeed", false), ("NoFit", false), ("NoLine", false), ("NoName", false), ("NoRow", false), ("NoRule", false), ("NoShape", true), ("NoTable", false), ("NoText", false), ("NothingDone", false), ("Nought", false), ("TooLong", false), ("Unlike", false), ("Wrong", false)]) (mNil)))) (mCons (mTup (mCons (mC (.str "NoFit")) (mCons (mExIs ex [("BadLine", false), ("NoDeed", false), ("NoFit", true), ("NoLine", false), ("NoName", false), ("NoRow", false), ("NoRule", false), ("NoShape", false), ("NoTable", false), ("NoText", false), ("NothingDone", false), ("Nought", false), ("TooLong", false), ("Unlike", false), ("Wrong", false)]) (mNil)))) (mCons (mTup (mCons (mC (.str "Wrong")) (mCons (mExIs ex [("BadLine", false), ("NoDeed", false), ("NoFit", false), ("NoLine", false), ("NoName", false), ("NoRow", false), ("NoRule", false), ("NoShape", false), ("NoTable", false), ("NoText", false), ("NothingDone", false), ("Nought", false), ("TooLong", false), ("Unlike", false), ("Wrong", true)]) (mNil)))) (mNil))))) (gSet 1)) (mSeq (mAsg (mOp fAdd (mVar 1) (mLst (mCons (mTup (mCons (mC (.str "NoTable")) (mCons (mExIs ex [("BadLine", false), ("NoDeed", false), ("NoFit", false), ("NoLine", false), ("NoName", false), ("NoRow", false), ("NoRule", false), ("NoShape", false), ("NoTable", true), ("NoText", false), ("NothingDone", false), ("Nought", false), ("TooLong", false), ("Unlike", false), ("Wrong", false)]) (mNil)))) (mCons (mTup (mCons (mC (.str "NoRow")) (mCons (mExIs ex [("BadLine", false), ("NoDeed", false), ("NoFit", false), ("NoLine", false), ("NoName", false), ("NoRow", true), ("NoRule", false), ("NoShape", false), ("NoTable", false), ("NoText", false), ("NothingDone", false), ("Nought", false), ("TooLong", false), ("Unlike", false), ("Wrong", false)]) (mNil)))) (mNil))))) (gSet 1)) (mSeq (mAsg (mOp fAdd (mVar 1) (mLst (mCons (mTup (mCons (mC (.str "BadLine")) (mCons (mExIs ex [("BadLine", true), ("NoDeed", false), ("NoFit", false), ("NoLine", false), ("NoName", false), ("NoRow", false), ("NoRule", false), ("NoShape", false), ("NoTable", false), ("NoText", false), ("NothingDone", false), ("Nought", false), ("TooLong", false), ("Unlike", false), ("Wrong", false)]) (mNil)))) (mCons (mTup (mCons (mC (.str "TooLong")) (mCons (mExIs ex [("BadLine", false), ("NoDeed", false), ("NoFit", false), ("NoLine", false), ("NoName", false), ("NoRow", false), ("NoRule", false), ("NoShape", false), ("NoTable", false), ("NoText", false), ("NothingDone", false), ("Nought", false), ("TooLong", true), ("Unlike", false), ("Wrong", false)]) (mNil)))) (mNil))))) (gSet 1)) (mSeq (mAsg (mOp fAdd (mVar 1) (mLst (mCons (mTup (mCons (mC (.str "NoRule")) (mCons (mExIs ex [("BadLine", false), ("NoDeed", false), ("NoFit", false), ("NoLine", false), ("NoName", false), ("NoRow", false), ("NoRule", true), ("NoShape", false), ("NoTable", false), ("NoText", false), ("NothingDone", false), ("Nought", false), ("TooLong", false), ("Unlike", false), ("Wrong", false)]) (mNil)))) (mCons (mTup (mCons (mC (.str "NoDeed")) (mCons (mExIs ex [("BadLine", false), ("NoDeed", true), ("NoFit", false), ("NoLine", false), ("NoName", false), ("NoRow", false), ("NoRule", false), ("NoShape", false), ("NoTable", false), ("NoText", false), ("NothingDone", false), ("Nought", false), ("TooLong", false), ("Unlike", false), ("Wrong", false)]) (mNil)))) (mNil))))) (gSet 1)) (mSeq (mAsg (mOp fAdd (mVar 1) (mLst (mCons (mTup (mCons (mC (.str "NoName")) (mCons (mExIs ex [("BadLine", false), ("NoDeed", false), ("NoFit", false), ("NoLine", false), ("NoName", true), ("NoRow", false), ("NoRule", false), ("NoShape", false), ("NoTable", false), ("NoText", false), ("NothingDone", false), ("Nought", false), ("TooLong", false), ("Unlike", false), ("Wrong", false)]) (mNil)))) (mCons (mTup (mCons (mC (.str "NoText")) (mCons (mExIs ex [("BadLine", false), ("NoDeed", false), ("NoFit", false), ("NoLine", false), ("NoName", false), ("NoRow", false), ("NoRule", false), ("NoShape", false), ("NoTable", false), ("NoText", true), ("NothingDone", false), ("Nought", false), ("TooLong", false), ("Unlike", false), ("Wrong", false)]) (mNil)))) (mNil))))) (gSet 1)) (mSeq (mAsg (mOp fAdd (mVar 1) (mLst (mCons (mTup (mCons (mC (.str "Nought")) (mCons (mExIs ex [("BadLine", false), ("NoDeed", false), ("NoFit", false), ("NoLine", false), ("NoName", false), ("NoRow", false), ("NoRule", false), ("NoShape", false), ("NoTable", false), ("NoText", false), ("NothingDone", false), ("Nought", true), ("TooLong", false), ("Unlike", false), ("Wrong", false)]) (mNil)))) (mCons (mTup (mCons (mC (.str "Unlike")) (mCons (mExIs ex [("BadLine", false), ("NoDeed", false), ("NoFit", false), ("NoLine", false), ("NoName", false), ("NoRow", false), ("NoRule", false), ("NoShape", false), ("NoTable", false), ("NoText", false), ("NothingDone", false), ("Nought", false), ("TooLong", false), ("Unlike", true), ("Wrong", false)]) (mNil)))) (mNil))))) (gSet 1)) (mSeq (mAsg (mOp fAdd (mVar 1) (mLst (mCons (mTup (mCons (mC (.str "NoLine")) (mCons (mExIs ex [("BadLine", false), ("NoDeed", false), ("NoFit", false), ("NoLine", true), ("NoName", false), ("NoRow", false), ("NoRule", false), ("NoShape", false), ("NoTable", false), ("NoText", false), ("NothingDone", false), ("Nought", false), ("TooLong", false), ("Unlike", false), ("Wrong", false)]) (mNil)))) (mCons (mTup (mCons (mC (.str "NothingDone")) (mCons (mExIs ex [("BadLine", false), ("NoDeed", false), ("NoFit", false), ("NoLine", false), ("NoName", false), ("NoRow", false), ("NoRule", false), ("NoShape", false), ("NoTable", false), ("NoText", false), ("NothingDone", true), ("Nought", false), ("TooLong", false), ("Unlike", false), ("Wrong", false)]) (mNil)))) (mNil))))) (gSet 1)) (mSeq (mAsg (mOp fAdd (mVar 1) (mLst (mCons (mTup (mCons (mC (.str "no LoftError")) (mCons (mBv (mNotT (mTest (mExIs ex [("BadLine", true), ("NoDeed", true), ("NoFit", true), ("NoLine", true), ("NoName", true), ("NoRow", true), ("NoRule", true), ("NoShape", true), ("NoTable", true), ("NoText", true), ("NothingDone", true), ("Nought", true), ("TooLong", true), ("Unlike", true), ("Wrong", true)])))) (mNil)))) (mCons (mTup (mCons (mC (.str "no ValueError")) (mCons (mBv (mNotT (mTest (mExIs ex [("BadLine", true), ("NoDeed", true), ("NoFit", true), ("NoLine", true), ("NoName", true), ("NoRow", true), ("NoRule", true), ("NoShape", true), ("NoTable", true), ("NoText", true), ("NothingDone", true), ("Nought", true), ("TooLong", true), ("Unlike", true), ("Wrong", true)])))) (mNil)))) (mNil))))) (gSet 1)) (mRet (mSm smJoin (mC (.str " ")) (mCons (mFz (mLcO (mItL (mVar 1)) (.tp [2, 3]) (mTest (mVar 3)) (mVar 2) [2, 3])) (mNil)))))))))))
def f_lsorts : MX → Res (MV × Env) := mFnE 4 m_lsorts
def b_law18_0 : MS := mAsg (mTup (mCons (mC (.str "told")) (mCons (mFz (mCall f_prows_told (mCons (mVar 2) (mNil)))) (mNil)))) (gSet 9)
def b_law18_1 : MS := mSeq (mAsg (mC .non) (gSet 9)) (mSeq (mTry 10 [("BadLine", true)] (b_law18_0) (fun ex => mAsg (mTup (mCons (mCallE f_lsorts ex) (mCons (mExF ex "at") (mNil)))) (gSet 9))) (mIfS (mOrT (mTest (mOp fNe (mVar 9) (mVar 3))) (mTest (mBlt bIsi (mCons (mOp fIx (mVar 9) (mC (.int 1))) (mCons (mC (.raw (.ty "bool"))) mNil))))) (mRet (mC (.bl false))) (mPass)))
def m_law18 : MS := mSeq (mAsg (mFz (mCall f_ldrawn_program (mCons (mVar 0) (mCons (mC (.int 67)) (mCons (mC (.int 256)) (mNil)))))) (gTp 4 (gsCons (gSet 5) (gsCons (gSet 6) (gsCons (gSet 7) (gsCons (gSet 8) (gsNil))))))) (mSeq (mAsg (mFz (mCall f_ldraws (mCons (mFz (mCall f_lcell (mCons (mVar 0) (mCons (mC (.int 18)) (mNil))))) (mCons (mC (.int 68)) (mCons (mLst (mCons (mC (.int 3)) (mCons (mC (.int 901)) (mCons (mC (.int 6)) (mCons (mC (.int 94)) (mCons (mC (.int 3)) (mCons (mC (.int 2)) (mCons (mC (.int 901)) (mCons (mC (.int 6)) (mCons (mC (.int 94)) (mCons (mC (.int 3)) (mCons (mC (.int 2)) (mCons (mC (.int 6)) (mNil)))))))))))))) (mNil)))))) (gSet 1)) (mSeq (mAsg (mSm smJoin (mC (.str "\n")) (mCons (mFz (mLcO (mItV (mVar 6)) (.nm 11) (mYes) (mFz (mCall0 f_lline (mCons (mVar 11) (mNil)))) [11])) (mNil))) (gSet 2)) (mSeq (mIfS (mAndT (mTest (mOp fEq (mOp fIx (mVar 1) (mC (.int 11))) (mC (.int 0)))) (mTest (mOp fGt (mBlt bLen (mCons (mVar 6) (mNil))) (mC (.int 0))))) (mAsg (mSm smJoin (mC (.str "\n")) (mCons (mFz (mLcO (mItV (mSl (mOp fMul (mVar 6) (mC (.int 201))) (mNo) (mPart (mOp fAdd (mC (.int 200)) (mOp fIx (mVar 1) (mC (.int 0))))))) (.nm 11) (mYes) (mFz (mCall0 f_lline (mCons (mVar 11) (mNil)))) [11])) (mNil))) (gSet 2)) (mPass)) (mSeq (mIfS (mTest (mOp fGt (mOp fIx (mVar 1) (mC (.int 0))) (mC (.int 0)))) (mAsg (mFz (mCall f_lspoilt3 (mCons (mVar 2) (mCons (mSl (mVar 1) (mPart (mC (.int 1))) (mPart (mC (.int 6)))) (mNil))))) (gSet 2)) (mPass)) (mSeq (mIfS (mTest (mOp fGt (mOp fIx (mVar 1) (mC (.int 0))) (mC (.int 1)))) (mAsg (mFz (mCall f_lspoilt3 (mCons (mVar 2) (mCons (mSl (mVar 1) (mPart (mC (.int 6))) (mPart (mC (.int 11)))) (mNil))))) (gSet 2)) (mPass)) (mSeq (mAsg (mFz (mCall f_ldue4 (mCons (mVar 2) (mNil)))) (gSet 3)) (mSeq (mFor (mR1 (mCons (mC (.int 2)) (mNil))) (gSet 4) (b_law18_1)) (mRet (mC (.bl true))))))))))
def f_law18 : MF := mFn 12 [] m_law18
theorem lcell_ok (ns : List Int) (k : Nat) : ∃ v : Int, f_lcell [.scr ns, .int k] = .ok (.int v, []) := by
  unfold f_lcell
  by_cases h : (k : Int) < ns.length
  · have h' : k < ns.length := by omega
    refine ⟨ns[k], mFn_ok ?_⟩
    simp [m_lcell, h', atI_ge]
  · by_cases h0 : ns.length = 0
    · have h' : ns = [] := List.length_eq_zero_iff.mp h0
      subst h'
      refine ⟨7919 * (k + 1), mFn_ok ?_⟩
      simp [m_lcell, mulOk_l]
    · have h' : ¬ k < ns.length := by omega
      have hp : (0 : Int) < ns.length := by omega
      have e := fmod_ge' (a := k) hp
      have e2 := fmod_lt' (a := k) hp
      have h2 : ((k : Int).fmod ns.length).toNat < ns.length := by omega
      have h3 : ¬ ns = [] := by intro h; subst h; exact h0 rfl
      have h4 : ¬ ((ns.length : Int) = 0) := by omega
      refine ⟨ns[((k : Int).fmod ns.length).toNat] + 104729 * k, mFn_ok ?_⟩
      simp [m_lcell, h', h3, h4, atI_ge e, h2, mulOk_l]
theorem lmixed_ok (a b c : Int) : ∃ v : Int, f_lmixed [.int a, .int b, .int c] = .ok (.int v, []) := by
  unfold f_lmixed
  have e := fmod_ge' (a := b) (b := 8) (by decide)
  have e2 := fmod_lt' (a := b) (b := 8) (by decide)
  generalize hi : b.fmod 8 = i at e e2
  obtain ⟨p, hp, hp1, hp2⟩ : ∃ p : Int, atI [MV.int 2147483629, .int 2147483587, .int 2147483579, .int 2147483563, .int 2147483549, .int 2147483543, .int 2147483497, .int 2147483489] i = some (.int p) ∧ 0 < p ∧ p < 2147483648 := by
    obtain ⟨j, rfl⟩ := Int.eq_ofNat_of_zero_le e
    match j, e2 with
    | 0, _ => exact ⟨_, rfl, by decide, by decide⟩
    | 1, _ => exact ⟨_, rfl, by decide, by decide⟩
    | 2, _ => exact ⟨_, rfl, by decide, by decide⟩
    | 3, _ => exact ⟨_, rfl, by decide, by decide⟩
    | 4, _ => exact ⟨_, rfl, by decide, by decide⟩
    | 5, _ => exact ⟨_, rfl, by decide, by decide⟩
    | 6, _ => exact ⟨_, rfl, by decide, by decide⟩
    | 7, _ => exact ⟨_, rfl, by decide, by decide⟩
    | j + 8, h => exact absurd h (by omega)
  have b1 : ∀ x : Int, 0 ≤ x.fmod 2147483647 ∧ x.fmod 2147483647 < 2147483647 := fun x => ⟨fmod_ge' (by decide), fmod_lt' (by decide)⟩
  have b2 : ∀ x : Int, (x.fmod 2147483647).natAbs < 18446744073709551616 := fun x => by have := b1 x; omega
  have b3 : ∀ x : Int, mulOk (x.fmod 2147483647) 1000000007 = true := fun x => mulOk_r (by decide) (by decide)
  have h : ∃ v ρ, m_lmixed [some (.int a), some (.int b), some (.int c), none, none, none] = .ok (.rt (.int v), ρ) := by
    simp [m_lmixed, szOk_small, mulOk_l, hi, hp, hp1, Int.ne_of_gt hp1, b2, b3]
  obtain ⟨v, ρ, h⟩ := h
  exact ⟨v, mFn_ok ⟨ρ, h⟩⟩
def DrawsAre (ws ds : List Int) : Prop := ds.length = ws.length ∧ ∀ i (h : i < ws.length) (h' : i < ds.length), 0 ≤ ds[i] ∧ ds[i] < ws[i]
theorem ldraws_ok (cell salt : Int) (ws : List Int) (hn : ws.length < 1000) (hw : ∀ w ∈ ws, 0 < w ∧ divOk w = true) : ∃ ds : List Int, DrawsAre ws ds ∧ f_ldraws [.int cell, .int salt, .lst (ws.map .int)] = .ok (.own (ds.map .int), []) := by
  have key : ∀ l0 : Int, ∃ ρ', mLoop (gSet 5) b_ldraws_0 (rngM 0 1 ws.length) [some (.int cell), some (.int salt), some (.lst (ws.map .int)), some (.own []), some (.int l0), none] = .ok (.nx, ρ') ∧ ∃ ds l v, DrawsAre (ws.take ws.length) ds ∧ ρ' = [some (.int cell), some (.int salt), some (.lst (ws.map .int)), some (.own (ds.map .int)), some (.int l), v] := by
    intro l0
    refine loop_rng (fun i ρ => ∃ ds l v, DrawsAre (ws.take i) ds ∧ ρ = [some (.int cell), some (.int salt), some (.lst (ws.map .int)), some (.own (ds.map .int)), some (.int l), v]) ⟨[], l0, none, ⟨by simp, by simp⟩, rfl⟩ ?_
    rintro i ρ hi ⟨ds, l, v, ⟨hd1, hd2⟩, rfl⟩
    have hwi := hw ws[i] (List.getElem_mem hi)
    have hl : ds.length = i := by rw [hd1, List.length_take]; omega
    have ix : atI (ws.map MV.int) (i : Int) = some (.int ws[i]) := by rw [atI_ge (by omega)]; simp [hi]
    have ds' : ∀ d : Int, DrawsAre (ws.take (i + 1)) (ds ++ [d.fmod ws[i]]) := by
      intro d
      refine ⟨by simp [hl, List.length_take]; omega, fun j h h' => ?_⟩
      have hj : j ≤ i := by rw [List.length_take] at h; omega
      rw [List.getElem_take]
      by_cases e : j = i
      · subst e
        rw [List.getElem_append_right (by omega)]
        simp [hl]
        exact ⟨fmod_ge' hwi.1, fmod_lt' hwi.1⟩
      · have := hd2 j (by rw [List.length_take]; omega) (by omega)
        rw [List.getElem_append_left (by omega)]
        rw [List.getElem_take] at this
        exact this
    have hsz : ds.length < sizeLine := by rw [sizeLine_eq]; omega
    by_cases hp : 0 < l
    · refine ⟨[some (.int cell), some (.int salt), some (.lst (ws.map .int)), some (.own (ds.map .int)), some (.int l), some (.int i)], [some (.int cell), some (.int salt), some (.lst (ws.map .int)), some (.own ((ds ++ [l.fmod ws[i]]).map .int)), some (.int (l.fdiv ws[i])), some (.int i)], ?_, .inl ?_, ⟨_, _, _, ds' l, rfl⟩⟩
      · simp
      · simp [b_ldraws_0, hp, isOwn, ix, Int.ne_of_gt hwi.1, hsz, hwi.2]
    · obtain ⟨m, hm⟩ := lmixed_ok cell i salt
      refine ⟨[some (.int cell), some (.int salt), some (.lst (ws.map .int)), some (.own (ds.map .int)), some (.int l), some (.int i)], [some (.int cell), some (.int salt), some (.lst (ws.map .int)), some (.own ((ds ++ [m.fmod ws[i]]).map .int)), some (.int l), some (.int i)], ?_, .inl ?_, ⟨_, _, _, ds' m, rfl⟩⟩
      · simp
      · simp [b_ldraws_0, hp, isOwn, ix, hm, Int.ne_of_gt hwi.1, hsz]
  have e0 : inR (ws.length : Int) = true := inR_of (by omega) (by omega)
  unfold f_ldraws
  by_cases hc : (1000000000000000000 : Int) ≤ (if cell < 0 then -cell else cell)
  · obtain ⟨ρ', h, ds, l, v, hd, rfl⟩ := key (if cell < 0 then -cell else cell)
    refine ⟨ds, by simpa using hd, mFn_ok ?_⟩
    · simp [m_ldraws, szOk_small, hc, e0, h]
  · obtain ⟨ρ', h, ds, l, v, hd, rfl⟩ := key 0
    refine ⟨ds, by simpa using hd, mFn_ok ?_⟩
    · simp [m_ldraws, szOk_small, hc, e0, h]
theorem draws_nil {ds : List Int} : DrawsAre [] ds ↔ ds = [] := by
  constructor
  · intro h; exact List.length_eq_zero_iff.mp h.1
  · rintro rfl; exact ⟨rfl, by simp⟩
theorem draws_cons {w : Int} {ws ds : List Int} : DrawsAre (w :: ws) ds ↔ ∃ d r, ds = d :: r ∧ (0 ≤ d ∧ d < w) ∧ DrawsAre ws r := by
  constructor
  · intro h
    match ds, h with
    | [], h => exact absurd h.1 (by simp)
    | d :: r, h =>
      refine ⟨d, r, rfl, h.2 0 (by simp) (by simp), by simpa using h.1, fun i h1 h2 => ?_⟩
      exact h.2 (i + 1) (by simpa using h1) (by simpa using h2)
  · rintro ⟨d, r, rfl, h1, h2⟩
    refine ⟨by simpa using h2.1, fun i a b => ?_⟩
    match i with
    | 0 => exact h1
    | i + 1 => exact h2.2 i (by simpa using a) (by simpa using b)
theorem divOk_small {w : Int} (h : 0 < w) (h2 : w < 2 ^ 29) : divOk w = true := by
  unfold divOk
  have : w.natAbs < 1073741824 := by omega
  simp [this]; omega
def most (n : Nat) (sg : Str) : Int := if sg = "tens" then 5 * 10 ^ (n - 1) - 1 else 10 ^ n - 1
section
variable {kd sg : Str} {n : Nat} {p : MV}
theorem at1 {a b c d : MV} : atI [a, b, c, d] 1 = some b := rfl
theorem at2 {a b c d : MV} : atI [a, b, c, d] 2 = some c := rfl
end
def fB (fr : Nat) (ws : List Str) (rs : List MV) (tab : Str → MV) : List (Str × MV) := [("rows", .own rs), ("tables", .own (ws.map tab)), ("worths", .own (ws.map MV.fnc)), ("free", .int fr)]
def Bo (fr : Nat) (ws : List Str) (rs : List MV) (tab : Str → MV) : MV := .obj "Builder" (fB fr ws rs tab)
section
variable {fr : Nat} {ws : List Str} {rs : List MV} {tab : Str → MV} {ρ : Env} {r x y z : Option MV}
@[simp] theorem Bo_held : (Bo fr ws rs tab).held = true := nr rfl
@[simp] theorem Bo_fold : MV.obj (Str.ofString "Builder") (fB fr ws rs tab) = Bo fr ws rs tab := nr rfl
@[simp] theorem lk_rows : (fB fr ws rs tab).lookup (Str.ofString "rows") = some (.own rs) := nr rfl
@[simp] theorem lk_tables : (fB fr ws rs tab).lookup (Str.ofString "tables") = some (.own (ws.map tab)) := nr rfl
@[simp] theorem lk_worths : (fB fr ws rs tab).lookup (Str.ofString "worths") = some (.own (ws.map MV.fnc)) := nr rfl
@[simp] theorem lk_free : (fB fr ws rs tab).lookup (Str.ofString "free") = some (.int fr) := nr rfl
@[simp] theorem lk_cell : (fB fr ws rs tab).lookup (Str.ofString "cell") = none := nr rfl
@[simp] theorem lk_put : (fB fr ws rs tab).lookup (Str.ofString "put") = none := nr rfl
@[simp] theorem lk_row : (fB fr ws rs tab).lookup (Str.ofString "row") = none := nr rfl
@[simp] theorem lk_look : (fB fr ws rs tab).lookup (Str.ofString "look") = none := nr rfl
@[simp] theorem lk_copied : (fB fr ws rs tab).lookup (Str.ofString "copied") = none := nr rfl
@[simp] theorem lk_looked : (fB fr ws rs tab).lookup (Str.ofString "looked") = none := nr rfl
@[simp] theorem lk_ended : (fB fr ws rs tab).lookup (Str.ofString "ended") = none := nr rfl
@[simp] theorem lk_program : (fB fr ws rs tab).lookup (Str.ofString "program") = none := nr rfl
@[simp] theorem lk_back_to : (fB fr ws rs tab).lookup (Str.ofString "back_to") = none := nr rfl
@[simp] theorem put_rows {zs : List MV} : putM (Str.ofString "rows") (.own zs) (fB fr ws rs tab) = fB fr ws zs tab := nr rfl
@[simp] theorem put_free {k : Nat} : putM (Str.ofString "free") (.int k) (fB fr ws rs tab) = fB k ws rs tab := nr rfl
@[simp] theorem put_free1 : putM (Str.ofString "free") (.int ((fr : Int) + 1)) (fB fr ws rs tab) = fB (fr + 1) ws rs tab := nr rfl
@[simp] theorem fB_len : (fB fr ws rs tab).length = 4 := nr rfl
def lkW (ws : List Str) (w : Str) : List Str := if w ∈ ws then ws else ws ++ [w]
def lkI (ws : List Str) (w : Str) : Nat := (lkW ws w).findIdx fun z => decide (z = w)
end
def w01 (p : Bool) : Nat := if p then 1 else 0
def wtab : List (Str × (Nat → Nat)) := [
  ("sign_below", fun b => w01 (decide (b % 16 = 11 ∨ b % 16 = 13))),
  ("five_on", fun b => w01 (decide (4 < b))),
  ("ten_or_none", fun b => 10 * w01 (decide (0 < b))),
  ("nine_less", fun b => if 9 < b ∧ b < 20 then 19 - b else b),
  ("ahead_of_last", fun b => b / 10),
  ("last_figure", fun b => b % 10),
  ("high_half", fun b => b / 16),
  ("low_half", fun b => b % 16),
  ("one_or_none", fun b => w01 (decide (0 < b))),
  ("half_up", fun b => b % 16 * 16),
  ("one_of_two", fun b => w01 (decide (b % 4 = 1 ∨ b % 4 = 2))),
  ("not_all", fun b => w01 (decide (b < 255))),
  ("none_or_all", fun b => 255 * w01 (decide (b = 0))),
  ("lacking", fun b => (9 + 10 * 26 - b) % 10),
  ("fill", fun b => 255 * (1 - b / 128)),
  ("top_two", fun b => b / 128),
  ("other_twos", fun b => 255 - b),
  ("ten_low", fun b => 10 * b % 256),
  ("ten_high", fun b => 10 * b / 256),
  ("six_on", fun b => w01 (decide (5 < b))),
  ("product_byte", fun b => b / 16 * (b % 16)),
  ("order_byte", fun b => if b % 4 = 0 then 1 else if b % 4 = 1 then 2 else if b % 4 = 2 then 1 else 0),
  ("one_of_none", fun b => w01 (decide (b = 0))),
  ("lowest_two", fun b => b % 2),
  ("all_or_none", fun b => 255 * w01 (decide (0 < b)))]
def worthV (w : Str) (b : Nat) : Nat := match wtab.lookup w with | some g => g b | none => 0
def tabW (w : Str) : MV := .tup ((List.range 256).map fun b => .int (worthV w b))
inductive Rw where
  | put (a v : Nat) | copy (a b : Nat) | look (a k : Nat) | add (a b : Nat) | addc (a b : Nat) | and_ (a b : Nat) | or_ (a b : Nat) | left (a : Nat) | right (a : Nat) | mark (v : Nat)
def enR : Rw → MV
  | .put a v => .tup [.str "put", .int a, .int v]
  | .copy a b => .tup [.str "copy", .int a, .int b]
  | .look a k => .tup [.str "look", .int a, .int k]
  | .add a b => .tup [.str "add", .int a, .int b]
  | .addc a b => .tup [.str "addc", .int a, .int b]
  | .and_ a b => .tup [.str "and", .int a, .int b]
  | .or_ a b => .tup [.str "or", .int a, .int b]
  | .left a => .tup [.str "left", .int a]
  | .right a => .tup [.str "right", .int a]
  | .mark v => .tup [.str "mark", .int v]
def cg (c : List Nat) (i : Nat) : Nat := c.getD i 0
def encC (c : List Nat) : List MV := c.map fun d : Nat => MV.int d
def Cells (c : List Nat) : Prop := c.length = 256 ∧ ∀ i, cg c i < 256
def TabLt (tb : Nat → Nat → Nat) (nt : Nat) : Prop := ∀ k v, k < nt → v < 256 → tb k v < 256
theorem cg_set {c : List Nat} {a v i : Nat} : cg (c.set a v) i = if i = a ∧ a < c.length then v else cg c i := by
  unfold cg
  rw [List.getD_eq_getElem?_getD, List.getD_eq_getElem?_getD, List.getElem?_set]
  by_cases h : a = i
  · subst h
    by_cases h2 : a < c.length
    · simp [h2]
    · simp [h2, List.getElem?_eq_none (Nat.le_of_not_lt h2)]
  · have : ¬ (i = a) := fun e => h e.symm
    simp [h, this]
theorem Cells.set {c : List Nat} (h : Cells c) {a v : Nat} (hv : v < 256) : Cells (c.set a v) := by
  refine ⟨by rw [List.length_set]; exact h.1, fun i => ?_⟩
  rw [cg_set]
  split
  · exact hv
  · exact h.2 i
inductive Ab where
  | r (x : Rw) | lk (c : Nat) (w : Str)
def layA (s : List Str × List Rw) : Ab → List Str × List Rw
  | .r x => (s.1, s.2 ++ [x])
  | .lk c w => (lkW s.1 w, s.2 ++ [.look c (lkI s.1 w)])
def lays (as : List Ab) (s : List Str × List Rw) : List Str × List Rw := as.foldl layA s
def okAb : Ab → Bool
  | .r _ => true
  | .lk _ w => fnNames.contains w
def Gd (s : List Str × List Rw) (k : Nat) : Prop := s.1.Nodup ∧ (∀ z ∈ s.1, z ∈ fnNames) ∧ s.2.length + k < 16777216
theorem nodup_le : ∀ {l m : List Str}, l.Nodup → (∀ z ∈ l, z ∈ m) → l.length ≤ m.length
  | [], m, _, _ => Nat.zero_le _
  | a :: l, m, h, hs => by
    obtain ⟨h1, h2⟩ := List.nodup_cons.mp h
    have ha := hs a (by simp)
    have ih := @nodup_le l (m.erase a) h2 (fun z hz => by
      have ne : z ≠ a := fun e => h1 (by rw [← e]; exact hz)
      exact (List.mem_erase_of_ne ne).mpr (hs z (List.mem_cons_of_mem _ hz)))
    rw [List.length_erase_of_mem ha] at ih
    have := List.length_pos_of_mem ha
    simp; omega
theorem Gd.len {s : List Str × List Rw} {k : Nat} (h : Gd s k) : s.1.length < 100 := by
  have h1 : s.1.length ≤ fnNames.length := nodup_le h.1 fun z hz => h.2.1 z hz
  have h2 : fnNames.length < 100 := by decide +kernel
  omega
theorem Gd.less {s : List Str × List Rw} {k j : Nat} (h : Gd s k) (hj : j ≤ k) : Gd s j := ⟨h.1, h.2.1, by have := h.2.2; omega⟩
theorem layA_len (s : List Str × List Rw) (a : Ab) : (layA s a).2.length = s.2.length + 1 := by cases a <;> simp [layA]
theorem lkW_nodup {ws : List Str} {w : Str} (h : ws.Nodup) : (lkW ws w).Nodup := by
  unfold lkW
  split
  · exact h
  · rename_i hn
    rw [List.nodup_append]
    refine ⟨h, by simp, ?_⟩
    intro a ha b hb e
    rw [List.mem_singleton.mp hb] at e
    exact hn (e ▸ ha)
theorem Gd.step {s : List Str × List Rw} {k : Nat} (h : Gd s (k + 1)) {a : Ab} (ha : okAb a = true) : Gd (layA s a) k := by
  refine ⟨?_, ?_, by rw [layA_len]; have := h.2.2; omega⟩
  · cases a with
    | r x => exact h.1
    | lk c w => exact lkW_nodup h.1
  · cases a with
    | r x => exact h.2.1
    | lk c w =>
      intro z hz
      have hw : w ∈ fnNames := List.contains_iff_mem.mp ha
      simp only [layA] at hz
      unfold lkW at hz
      split at hz
      · exact h.2.1 z hz
      · rcases List.mem_append.mp hz with hz | hz
        · exact h.2.1 z hz
        · rw [List.mem_singleton.mp hz]; exact hw
theorem Gd.lays {k : Nat} : ∀ {as : List Ab} {s : List Str × List Rw}, Gd s (as.length + k) → as.all okAb = true → Gd (lays as s) k
  | [], s, h, _ => by simpa [Tm.lays] using h
  | a :: as, s, h, ha => by
    rw [List.all_cons, Bool.and_eq_true] at ha
    have h1 : Gd (layA s a) (as.length + k) := Gd.step (h.less (by simp; omega)) ha.1
    show Gd (Tm.lays as (layA s a)) k
    exact Gd.lays h1 ha.2
def bS (fr : Nat) (s : List Str × List Rw) : MV := Bo fr s.1 (s.2.map enR) tabW
section
variable {fr : Nat} {s : List Str × List Rw} {ρ : Env} {x y z : Option MV}
@[simp] theorem bS_held : (bS fr s).held = true := nr rfl
end
theorem nm (w : Str) (h : fnNames.contains w = true) : w ∈ fnNames := List.contains_iff_mem.mp h
def cells (fr many : Nat) : List Nat := (List.range many).map (fr + ·)
theorem encC_len (c : List Nat) : (encC c).length = c.length := by simp [encC]
def w3 : List MV := [.str "put", .str "copy", .str "add", .str "addc", .str "and", .str "or"]
def w2 : List MV := [.str "left", .str "right"]
theorem encC_rep (n v : Nat) : encC (List.replicate n v) = List.replicate n (.int v) := by simp [encC]
theorem cbE_b2 {f : MF} {x v : MV} {ys : List MV} {args : List BA} {ρ : Env} {r q y : Option MV} (h : x.held = true) (hf : fill args (r :: q :: some x :: ρ) = some ys) (hi : idxB args = []) (en : f (x :: ys) = .ok (v, [y])) : cbE f (.b 2 :: args) (r :: q :: some x :: ρ) = .ok (v, r :: q :: y :: ρ) := by
  rw [cbE_ap]
  have e : fill (.b 2 :: args) (r :: q :: some x :: ρ) = some (x :: ys) := by
    rw [fill_b, hf]
    simp [h]
  rw [e]
  show (match f (x :: ys) with | .ok (v, os) => _ | .exc e os => _ | .stuck => _) = _
  rw [en]
  rw [idxB_b, hi]
  rfl
section
variable {f : MF} {fr fr' : Nat} {s s' : List Str × List Rw} {a b c d v : MV}
theorem cd1 (en : f [bS fr s, a] = .ok (v, [some (bS fr' s')])) (r q : Option MV) (ρ : Env) : cbE f [.b 2, .v a] (r :: q :: some (bS fr s) :: ρ) = .ok (v, r :: q :: some (bS fr' s') :: ρ) := cbE_b2 rfl rfl rfl en
theorem cd2 (en : f [bS fr s, a, b] = .ok (v, [some (bS fr' s')])) (r q : Option MV) (ρ : Env) : cbE f [.b 2, .v a, .v b] (r :: q :: some (bS fr s) :: ρ) = .ok (v, r :: q :: some (bS fr' s') :: ρ) := cbE_b2 rfl rfl rfl en
theorem cd3 (en : f [bS fr s, a, b, c] = .ok (v, [some (bS fr' s')])) (r q : Option MV) (ρ : Env) : cbE f [.b 2, .v a, .v b, .v c] (r :: q :: some (bS fr s) :: ρ) = .ok (v, r :: q :: some (bS fr' s') :: ρ) := cbE_b2 rfl rfl rfl en
theorem cd4 (en : f [bS fr s, a, b, c, d] = .ok (v, [some (bS fr' s')])) (r q : Option MV) (ρ : Env) : cbE f [.b 2, .v a, .v b, .v c, .v d] (r :: q :: some (bS fr s) :: ρ) = .ok (v, r :: q :: some (bS fr' s') :: ρ) := cbE_b2 rfl rfl rfl en
end
structure Bs (L : List Str) : Prop where
  ah : ("ahead_of_last" : Str) ∈ L
  la : ("last_figure" : Str) ∈ L
  ni : ("nine_less" : Str) ∈ L
  hi : ("high_half" : Str) ∈ L
  lo : ("low_half" : Str) ∈ L
  up : ("half_up" : Str) ∈ L
  te : ("ten_or_none" : Str) ∈ L
  fi : ("five_on" : Str) ∈ L
  on : ("one_or_none" : Str) ∈ L
  be : ("sign_below" : Str) ∈ L
  tw : ("one_of_two" : Str) ∈ L
theorem ok2 {a b : Nat} (ha : a < 256) (hb : b < 256) : (decide (a < 256) && decide (b < 256)) = true := by rw [decide_eq_true ha, decide_eq_true hb]; rfl
theorem Gd.go {s : List Str × List Rw} {N : Nat} {as : List Ab} (h : Gd s N) (ok : as.all okAb = true) (k : Nat) (hl : as.length + k ≤ N) : Gd (Tm.lays as s) k := Gd.lays (h.less hl) ok
@[simp] theorem mCallE_ap {f : MX → Res (MV × Env)} {e : MX} {r : Option MV} {ρ : Env} : mCallE f e (r :: ρ) = match f e with | .ok (v, _) => (if flatM v then .ok (v, r :: ρ) else .stuck) | _ => .stuck := nr rfl
theorem lsorts_all {c : Str} (h : c ∈ (["BadLine", "NoDeed", "NoFit", "NoLine", "NoName", "NoRow", "NoRule", "NoShape", "NoTable", "NoText", "NothingDone", "Nought", "TooLong", "Unlike", "Wrong"] : List Str)) (fs : List (Str × MV)) : ∃ ρ, f_lsorts ⟨c, fs⟩ = .ok (.str c, ρ) := by
  simp only [List.mem_cons, List.not_mem_nil, or_false] at h
  rcases h with rfl | rfl | rfl | rfl | rfl | rfl | rfl | rfl | rfl | rfl | rfl | rfl | rfl | rfl | rfl <;> exact ⟨_, rfl⟩
structure TwW (L : List Str) : Prop where
  al : ("all_or_none" : Str) ∈ L
  no : ("none_or_all" : Str) ∈ L
  ot : ("other_twos" : Str) ∈ L
  th : ("ten_high" : Str) ∈ L
  tl : ("ten_low" : Str) ∈ L
  fi : ("fill" : Str) ∈ L
  na : ("not_all" : Str) ∈ L
  on : ("one_or_none" : Str) ∈ L
structure Ls (L : List Str) : Prop where
  ah : ("ahead_of_last" : Str) ∈ L
  la : ("last_figure" : Str) ∈ L
  ni : ("nine_less" : Str) ∈ L
  hi : ("high_half" : Str) ∈ L
  lo : ("low_half" : Str) ∈ L
  te : ("ten_or_none" : Str) ∈ L
  fi : ("five_on" : Str) ∈ L
  be : ("sign_below" : Str) ∈ L
def partsT : List (Str × MV) := [("look", .str "ct"), ("mark", .str "m"), ("put", .str "cb"), ("copy", .str "cc"), ("add", .str "cc"), ("addc", .str "cc"), ("and", .str "cc"), ("or", .str "cc"), ("left", .str "c"), ("right", .str "c")]
theorem parts_due_eq (wd : Str) : f_pparts_due [.str wd] = .ok ((partsT.lookup wd).getD .non, []) := by
  refine mFn_ok ?_
  have e : partsT.lookup wd = ([(("look" : Str), (MV.str "ct")), ("mark", (.str "m"))].lookup wd).or ([(("put" : Str), (MV.str "cb")), ("copy", (.str "cc")), ("add", (.str "cc")), ("addc", (.str "cc")), ("and", (.str "cc")), ("or", (.str "cc")), ("left", (.str "c")), ("right", (.str "c"))].lookup wd) := List.lookup_append (l₁ := [(("look" : Str), (MV.str "ct")), ("mark", (.str "m"))])
  unfold m_pparts_due
  generalize hA : [(("look" : Str), (MV.str "ct")), ("mark", (.str "m"))] = A at *
  generalize hB : [(("put" : Str), (MV.str "cb")), ("copy", (.str "cc")), ("add", (.str "cc")), ("addc", (.str "cc")), ("and", (.str "cc")), ("or", (.str "cc")), ("left", (.str "c")), ("right", (.str "c"))] = B at *
  rw [e]
  cases hl : A.lookup wd with
  | none => simp [mKin, mKget, hl]
  | some v => simp [mKin, mKix, hl]
def bndOf (N nt : Int) (k : Str) : Int := if k = "c" then N else if k = "b" then 256 else if k = "t" then nt else 2
def kindL : List Str := ["c", "b", "t", "m"]
theorem bnd_at {N nt : Int} {k : Str} (h : k ∈ kindL) : fDix (.dct [.inr "c", .inr "b", .inr "t", .inr "m"] [.int N, .int 256, .int nt, .int 2]) (.str k) = some (.int (bndOf N nt k)) := by
  simp only [kindL, List.mem_cons, List.not_mem_nil, or_false] at h
  rcases h with rfl | rfl | rfl | rfl <;> rfl
def inB (N nt : Int) (p : Int × Str) : Bool := decide (0 ≤ p.1) && decide (p.1 < bndOf N nt p.2)
theorem bls_map {α : Type} (f : α → Bool) : ∀ l : List α, blsOf (l.map fun p => .bl (f p)) = some (l.map f)
  | [] => rfl
  | p :: l => by
    have := bls_map f l
    simp [blsOf, this]
theorem ball_map {α : Type} (f : α → Bool) (l : List α) : bAll [.lst (l.map fun p => .bl (f p))] = some (.bl (l.all f)) := by
  show (blsOf _).map _ = _
  rw [bls_map]
  simp
theorem zip_items : ∀ (xs : List Int) (ks : List Str), zipM (xs.map .int) (ks.map .str) = (xs.zip ks).map fun p => .tup [.int p.1, .str p.2]
  | [], _ => rfl
  | _ :: _, [] => rfl
  | x :: xs, k :: ks => by
    have := zip_items xs ks
    unfold zipM at *
    rw [List.map_cons, List.map_cons, List.zipWith_cons_cons, this]; rfl
theorem is_row_due {wd t : Str} {ks : List Str} (N nt : Int) (xs : List Int) (hp : partsT.lookup wd = some (.str t)) (ht : signsM t = ks.map .str) (hl : bLen [.str t] = some (.int ks.length)) (hk : ∀ k ∈ ks, k ∈ kindL) (hx : xs.length < 1000) :
    f_pis_row [.tup (.str wd :: xs.map .int), .int N, .int nt] = .ok (.bl (decide (xs.length = ks.length) && (xs.zip ks).all (inB N nt)), []) := by
  refine mFn_ok ?_
  have pd := parts_due_eq wd
  rw [hp] at pd
  simp only [Option.getD_some] at pd
  have sz : szOk (xs.length + 1) = true := szOk_small (by omega)
  by_cases hn : xs.length = ks.length
  · have lc := mLcO_map (it := mZip (mCons (mSl (mVar 0) (mPart (mC (.int 1))) (mNo)) (mCons (mVar 3) (mNil)))) (g := .tp [5, 6]) (e := mChain fLe fLt (mC (.int 0)) (mVar 5) (mOp fDix (mVar 4) (mVar 6))) (vs := [5, 6])
      (ρ := [some (.tup (.str wd :: xs.map .int)), some (.int N), some (.int nt), some (.str t), some (.dct [.inr "c", .inr "b", .inr "t", .inr "m"] [.int N, .int 256, .int nt, .int 2]), none, none])
      (ρ1 := [some (.tup (.str wd :: xs.map .int)), some (.int N), some (.int nt), some (.str t), some (.dct [.inr "c", .inr "b", .inr "t", .inr "m"] [.int N, .int 256, .int nt, .int 2]), none, none])
      (xs := (xs.zip ks).map fun p => .tup [.int p.1, .str p.2]) (fun z => match z with | .tup [.int a, .str k] => .bl (inB N nt (a, k)) | _ => .non) (by simp [cutM_from, ht, zip_items]) (by simp [perAt]) (by
        intro z hz
        obtain ⟨p, hp2, rfl⟩ := List.mem_map.mp hz
        have hb := bnd_at (N := N) (nt := nt) (hk p.2 (List.of_mem_zip hp2).2)
        generalize ([.inr "c", .inr "b", .inr "t", .inr "m"] : List Key) = DK at *
        generalize [MV.int N, .int 256, .int nt, .int 2] = DV at *
        refine ⟨_, rfl, ?_, by simp [wipeM], by simp [wipeM]⟩
        simp only [inB]
        by_cases h0 : 0 ≤ p.1
        · simp [wipeM, hb, h0]
        · simp [wipeM, hb, h0]) (by rw [sizeLine_eq, List.length_map, List.length_zip]; omega)
    rw [List.map_map] at lc
    have e2 : ((xs.zip ks).map ((fun z : MV => match z with | .tup [.int a, .str k] => MV.bl (inB N nt (a, k)) | _ => .non) ∘ fun p : Int × Str => MV.tup [.int p.1, .str p.2])) = (xs.zip ks).map fun p => MV.bl (inB N nt p) := rfl
    rw [e2] at lc
    have ba := ball_map (inB N nt) (xs.zip ks)
    have hx2 : xs.length = ks.length := hn
    have nd : List.Nodup [(.inr "c" : Key), .inr "b", .inr "t", .inr "m"] := by decide
    generalize (xs.zip ks).map (fun p => MV.bl (inB N nt p)) = L at *
    generalize (xs.zip ks).all (inB N nt) = bb at *
    generalize hX : xs.map MV.int = X at *
    have hXl : X.length = xs.length := by rw [← hX, List.length_map]
    have hne : ¬ ((X.length : Int) + 1 = 1 + (ks.length : Int)) → False := by omega
    have e3 : mDict [.inr "c", .inr "b", .inr "t", .inr "m"] (mCons (mVar 1) (mCons (mC (.int 256)) (mCons (mVar 2) (mCons (mC (.int 2)) (mNil))))) [some (.tup (.str wd :: X)), some (.int N), some (.int nt), some (.str t), none, none, none] = .ok (.dct [.inr "c", .inr "b", .inr "t", .inr "m"] [.int N, .int 256, .int nt, .int 2], [some (.tup (.str wd :: X)), some (.int N), some (.int nt), some (.str t), none, none, none]) := by
      rfl
    unfold m_pis_row
    generalize ([.inr "c", .inr "b", .inr "t", .inr "m"] : List Key) = DK at *
    generalize [MV.int N, .int 256, .int nt, .int 2] = DV at *
    have h5 : (ks.length : Int) + 1 = 1 + ks.length := by omega
    simp [pd, hXl, sz, hl, e3, hx2, h5, lc, ba]
  · generalize hX : xs.map MV.int = X at *
    have hXl : X.length = xs.length := by rw [← hX, List.length_map]
    have h2 : ¬ ((xs.length : Int) + 1 = 1 + (ks.length : Int)) := by omega
    simp [m_pis_row, pd, hXl, sz, hl, hn, h2]
def kindsT : List (Str × List Str) := [("look", ["c", "t"]), ("mark", ["m"]), ("put", ["c", "b"]), ("copy", ["c", "c"]), ("add", ["c", "c"]), ("addc", ["c", "c"]), ("and", ["c", "c"]), ("or", ["c", "c"]), ("left", ["c"]), ("right", ["c"])]
def rowOk (N nt : Int) (wd : Str) (xs : List Int) : Bool := match kindsT.lookup wd with
  | none => false
  | some ks => decide (xs.length = ks.length) && (xs.zip ks).all (inB N nt)
theorem lookup_map {α β : Type} (f : α → β) (wd : Str) : ∀ T : List (Str × α), (T.map fun p => (p.1, f p.2)).lookup wd = (T.lookup wd).map f
  | [] => rfl
  | p :: T => by
    rw [List.map_cons, List.lookup_cons, List.lookup_cons, lookup_map f wd T]
    cases wd == p.1 <;> rfl
theorem lookup_mem' {α : Type} {wd : Str} {v : α} : ∀ {T : List (Str × α)}, T.lookup wd = some v → (wd, v) ∈ T
  | [], h => by cases h
  | p :: T, h => by
    rw [List.lookup_cons] at h
    cases e : wd == p.1 with
    | true =>
      rw [e] at h
      cases h
      rw [show wd = p.1 from eq_of_beq e]
      exact List.mem_cons_self ..
    | false =>
      rw [e] at h
      exact List.mem_cons_of_mem _ (lookup_mem' h)
def joinK : List Str → MV
  | [a] => if a = "m" then .str "m" else .str "c"
  | [_, b] => if b = "t" then .str "ct" else if b = "b" then .str "cb" else .str "cc"
  | _ => .non
theorem parts_kinds : partsT = kindsT.map fun p => (p.1, joinK p.2) := rfl
theorem is_row_eq (wd : Str) (N nt : Int) (xs : List Int) (hx : xs.length < 1000) : f_pis_row [.tup (.str wd :: xs.map .int), .int N, .int nt] = .ok (.bl (rowOk N nt wd xs), []) := by
  have hp : partsT.lookup wd = (kindsT.lookup wd).map joinK := by rw [parts_kinds]; exact lookup_map joinK wd kindsT
  unfold rowOk
  cases hk : kindsT.lookup wd with
  | none =>
    rw [hk] at hp
    have pd := parts_due_eq wd
    rw [hp] at pd
    simp only [Option.map_none, Option.getD_none] at pd
    refine mFn_ok ?_
    generalize xs.map MV.int = X
    simp [m_pis_row, pd]
  | some ks =>
    rw [hk] at hp
    have hm := lookup_mem' hk
    simp only [kindsT, List.mem_cons, List.not_mem_nil, or_false, Prod.mk.injEq] at hm
    have hsome : ∃ t, joinK ks = .str t ∧ signsM t = ks.map .str ∧ bLen [.str t] = some (.int ks.length) ∧ ∀ k ∈ ks, k ∈ kindL := by
      rcases hm with ⟨_, rfl⟩ | ⟨_, rfl⟩ | ⟨_, rfl⟩ | ⟨_, rfl⟩ | ⟨_, rfl⟩ | ⟨_, rfl⟩ | ⟨_, rfl⟩ | ⟨_, rfl⟩ | ⟨_, rfl⟩ | ⟨_, rfl⟩
      · exact ⟨"ct", rfl, rfl, rfl, by decide⟩
      · exact ⟨"m", rfl, rfl, rfl, by decide⟩
      · exact ⟨"cb", rfl, rfl, rfl, by decide⟩
      · exact ⟨"cc", rfl, rfl, rfl, by decide⟩
      · exact ⟨"cc", rfl, rfl, rfl, by decide⟩
      · exact ⟨"cc", rfl, rfl, rfl, by decide⟩
      · exact ⟨"cc", rfl, rfl, rfl, by decide⟩
      · exact ⟨"cc", rfl, rfl, rfl, by decide⟩
      · exact ⟨"c", rfl, rfl, rfl, by decide⟩
      · exact ⟨"c", rfl, rfl, rfl, by decide⟩
    obtain ⟨t, h1, h2, h3, h4⟩ := hsome
    rw [Option.map_some, h1] at hp
    exact is_row_due N nt xs hp h2 h3 h4 hx
def enA (r : Str × List Int) : MV := .tup (.str r.1 :: r.2.map .int)
def okN (N nt : Nat) : Rw → Bool
  | .put a v => decide (a < N) && decide (v < 256)
  | .look a k => decide (a < N) && decide (k < nt)
  | .copy a b => decide (a < N) && decide (b < N)
  | .add a b => decide (a < N) && decide (b < N)
  | .addc a b => decide (a < N) && decide (b < N)
  | .and_ a b => decide (a < N) && decide (b < N)
  | .or_ a b => decide (a < N) && decide (b < N)
  | .left a => decide (a < N)
  | .right a => decide (a < N)
  | .mark v => decide (v < 2)
def CellsN (N : Nat) (c : List Nat) : Prop := c.length = N ∧ ∀ i, cg c i < 256
theorem CellsN.set {N : Nat} {c : List Nat} (h : CellsN N c) {a v : Nat} (hv : v < 256) : CellsN N (c.set a v) := by
  refine ⟨by rw [List.length_set]; exact h.1, fun i => ?_⟩
  rw [cg_set]
  split
  · exact hv
  · exact h.2 i
def abR : Rw → Str × List Int
  | .put a v => ("put", [a, v])
  | .copy a b => ("copy", [a, b])
  | .look a k => ("look", [a, k])
  | .add a b => ("add", [a, b])
  | .addc a b => ("addc", [a, b])
  | .and_ a b => ("and", [a, b])
  | .or_ a b => ("or", [a, b])
  | .left a => ("left", [a])
  | .right a => ("right", [a])
  | .mark v => ("mark", [v])
theorem enA_abR (r : Rw) : enA (abR r) = enR r := by cases r <;> rfl
theorem rowOk_of {N nt : Int} {wd : Str} {xs : List Int} {ks : List Str} (h : kindsT.lookup wd = some ks) : rowOk N nt wd xs = (decide (xs.length = ks.length) && (xs.zip ks).all (inB N nt)) := by
  unfold rowOk; rw [h]
theorem bndK (N nt : Int) : bndOf N nt "c" = N ∧ bndOf N nt "b" = 256 ∧ bndOf N nt "t" = nt ∧ bndOf N nt "m" = 2 := ⟨rfl, rfl, rfl, rfl⟩
theorem ok_abR {N nt : Nat} (r : Rw) : rowOk N nt (abR r).1 (abR r).2 = okN N nt r := by
  obtain ⟨b1, b2, b3, b4⟩ := bndK N nt
  have q1 : ∀ v : Nat, ((v : Int) < 256) = (v < 256) := fun v => propext ⟨fun h => by omega, fun h => by omega⟩
  have q2 : ∀ v : Nat, ((v : Int) < 2) = (v < 2) := fun v => propext ⟨fun h => by omega, fun h => by omega⟩
  cases r with
  | put a v => rw [show (abR (.put a v)).1 = "put" from rfl, rowOk_of (ks := ["c", "b"]) rfl]; simp [abR, inB, b1, b2, okN, q1]
  | copy a b => rw [show (abR (.copy a b)).1 = "copy" from rfl, rowOk_of (ks := ["c", "c"]) rfl]; simp [abR, inB, b1, okN]
  | look a b => rw [show (abR (.look a b)).1 = "look" from rfl, rowOk_of (ks := ["c", "t"]) rfl]; simp [abR, inB, b1, b3, okN]
  | add a b => rw [show (abR (.add a b)).1 = "add" from rfl, rowOk_of (ks := ["c", "c"]) rfl]; simp [abR, inB, b1, okN]
  | addc a b => rw [show (abR (.addc a b)).1 = "addc" from rfl, rowOk_of (ks := ["c", "c"]) rfl]; simp [abR, inB, b1, okN]
  | and_ a b => rw [show (abR (.and_ a b)).1 = "and" from rfl, rowOk_of (ks := ["c", "c"]) rfl]; simp [abR, inB, b1, okN]
  | or_ a b => rw [show (abR (.or_ a b)).1 = "or" from rfl, rowOk_of (ks := ["c", "c"]) rfl]; simp [abR, inB, b1, okN]
  | left a => rw [show (abR (.left a)).1 = "left" from rfl, rowOk_of (ks := ["c"]) rfl]; simp [abR, inB, b1, okN]
  | right a => rw [show (abR (.right a)).1 = "right" from rfl, rowOk_of (ks := ["c"]) rfl]; simp [abR, inB, b1, okN]
  | mark a => rw [show (abR (.mark a)).1 = "mark" from rfl, rowOk_of (ks := ["m"]) rfl]; simp [abR, inB, b4, okN, q2]
def CR (c : List Nat) (m : Nat) (p : List Nat × Nat) (a : Nat) : Prop := Cells p.1 ∧ p.2 = m ∧ (∀ i, i < 252 → cg p.1 i = cg c i) ∧ cg p.1 252 = a
def dtb (a b c k : Nat) (v : Nat) : Nat := (a * v * v + b * v + (c + k)) % 65519 / 3 % 256
theorem ldrawn_table_eq (a b c k : Nat) (ha : a < 65519) (hb : b < 65519) : f_ldrawn_table [.int a, .int b, .int ((c : Int) + k)] = .ok (.tup ((List.range 256).map fun v => .int (dtb a b c k v)), []) := by
  refine mFn_ok ?_
  have lc := mLcO_nm (it := mR1 (mCons (mC (.int 256)) (mNil))) (e := mOp fMod (mOp fDiv (mOp fMod (mOp fAdd (mOp fAdd (mOp fMul (mOp fMul (mVar 0) (mVar 3)) (mVar 3)) (mOp fMul (mVar 1) (mVar 3))) (mVar 2)) (mC (.int 65519))) (mC (.int 3))) (mC (.int 256))) (v := 3) (xs := rngM 0 1 256) (fun z => match z with | .int i => .int (dtb a b c k i.toNat : Nat) | _ => .non)
    (ρ := [some (.int a), some (.int b), some (.int ((c : Int) + k)), none]) (by
      have ir : inR 256 = true := inR_of (by decide) (by decide)
      simp [ir]) rfl (by
      intro z hz
      obtain ⟨i, hi, rfl⟩ := List.mem_map.mp hz
      have hi := List.mem_range.mp hi
      have m1 : mulOk (a : Int) (i : Int) = true := mulOk_r (by omega) (by omega)
      have m2 : mulOk ((a : Int) * i) (i : Int) = true := mulOk_r (by omega) (by omega)
      have m3 : mulOk (b : Int) (i : Int) = true := mulOk_r (by omega) (by omega)
      have e1 : ((a : Int) * i * i + b * i + (c + k)).fmod 65519 = (((a * i * i + b * i + (c + k)) % 65519 : Nat) : Int) := by
        have := nat_fmod (a * i * i + b * i + (c + k)) 65519
        simp at this
        simp [this]
      have e2 : (((a * i * i + b * i + (c + k)) % 65519 : Nat) : Int).fdiv 3 = (((a * i * i + b * i + (c + k)) % 65519 / 3 : Nat) : Int) := nat_fdiv _ 3
      have e3 : (((a * i * i + b * i + (c + k)) % 65519 / 3 : Nat) : Int).fmod 256 = ((dtb a b c k i : Nat) : Int) := nat_fmod _ 256
      have d1 : divOk 65519 = true := by decide
      have d2 : divOk 3 = true := by decide
      have d3 : divOk 256 = true := by decide
      generalize dtb a b c k = g at *
      generalize (a * i * i + b * i + (c + k)) % 65519 / 3 = x2 at *
      generalize (a * i * i + b * i + (c + k)) % 65519 = x1 at *
      simp [m1, m2, m3, d1, d2, d3, e1, e2, e3]) (by rw [sizeLine_eq, rngM_len]; decide)
  have e8 : ((rngM 0 1 256).map fun z => match z with | .int i => MV.int (dtb a b c k i.toNat : Nat) | _ => .non) = (List.range 256).map fun v => .int (dtb a b c k v) := by
    unfold rngM
    rw [List.map_map]
    apply List.map_congr_left
    intro i _
    show MV.int _ = MV.int _
    simp
  rw [e8] at lc
  have bt : bTuple [.lst ((List.range 256).map fun v => MV.int (dtb a b c k v))] = some (.tup ((List.range 256).map fun v => MV.int (dtb a b c k v))) := rfl
  generalize (List.range 256).map (fun v => MV.int (dtb a b c k v)) = L at *
  simp [m_ldrawn_table, lc, bt]
theorem ldrawn_row_ok {N nt : Nat} (hN : 1 ≤ N ∧ N ≤ 256) (hnt : nt ≤ 16) (d0 d1 d2 : Int) (h0 : 0 ≤ d0 ∧ d0 < 10) (h1 : 0 ≤ d1 ∧ d1 < 256) (h2 : 0 ≤ d2 ∧ d2 < 256) :
    ∃ r, okN N nt r = true ∧ f_ldrawn_row [.lst [.int d0, .int d1, .int d2], .int N, .int nt] = .ok (enR r, []) := by
  obtain ⟨a, rfl⟩ : ∃ a : Nat, d1 = a := ⟨d1.toNat, by omega⟩
  obtain ⟨b, rfl⟩ : ∃ b : Nat, d2 = b := ⟨d2.toNat, by omega⟩
  have dN : divOk (N : Int) = true := divOk_small (by omega) (by omega)
  have nz : ¬ (N : Int) = 0 := by omega
  have nz2 : ¬ N = 0 := by omega
  have eA : (a : Int).fmod (N : Int) = ((a % N : Nat) : Int) := nat_fmod a N
  have eB : (b : Int).fmod (N : Int) = ((b % N : Nat) : Int) := nat_fmod b N
  have e2 : (a : Int).fmod 2 = ((a % 2 : Nat) : Int) := nat_fmod a 2
  have d2' : divOk 2 = true := by decide
  have lA : a % N < N := Nat.mod_lt _ (by omega)
  have lB : b % N < N := Nat.mod_lt _ (by omega)
  have l2 : a % 2 < 2 := Nat.mod_lt _ (by decide)
  have x0 : atI [MV.int d0, .int (a : Nat), .int (b : Nat)] 0 = some (.int d0) := rfl
  have x1 : atI [MV.int d0, .int (a : Nat), .int (b : Nat)] 1 = some (.int (a : Nat)) := rfl
  have x2 : atI [MV.int d0, .int (a : Nat), .int (b : Nat)] 2 = some (.int (b : Nat)) := rfl
  have put1 := fun (w : Str) => (inM (.str w) [.str "left", .str "right"])
  generalize hA : a % N = aN at *
  generalize hB : b % N = bN at *
  generalize hM : a % 2 = a2 at *
  rcases (show d0 = 0 ∨ d0 = 1 ∨ d0 = 2 ∨ d0 = 3 ∨ d0 = 4 ∨ d0 = 5 ∨ d0 = 6 ∨ d0 = 7 ∨ d0 = 8 ∨ d0 = 9 by omega) with rfl | rfl | rfl | rfl | rfl | rfl | rfl | rfl | rfl | rfl
  · have i1 : fIn (.str "put") (.tup [.str "left", .str "right"]) = some (.bl false) := rfl
    exact ⟨.put aN b, by simp [okN, lA]; omega, mFn_ok (by simp [m_ldrawn_row, szOk_small, x0, x1, x2, dN, nz, nz2, eA, i1, enR])⟩
  · have i1 : fIn (.str "copy") (.tup [.str "left", .str "right"]) = some (.bl false) := rfl
    exact ⟨.copy aN bN, by simp [okN, lA, lB], mFn_ok (by simp [m_ldrawn_row, szOk_small, x0, x1, x2, dN, nz, nz2, eA, eB, i1, enR])⟩
  · have i1 : fIn (.str "add") (.tup [.str "left", .str "right"]) = some (.bl false) := rfl
    exact ⟨.add aN bN, by simp [okN, lA, lB], mFn_ok (by simp [m_ldrawn_row, szOk_small, x0, x1, x2, dN, nz, nz2, eA, eB, i1, enR])⟩
  · have i1 : fIn (.str "addc") (.tup [.str "left", .str "right"]) = some (.bl false) := rfl
    exact ⟨.addc aN bN, by simp [okN, lA, lB], mFn_ok (by simp [m_ldrawn_row, szOk_small, x0, x1, x2, dN, nz, nz2, eA, eB, i1, enR])⟩
  · have i1 : fIn (.str "and") (.tup [.str "left", .str "right"]) = some (.bl false) := rfl
    exact ⟨.and_ aN bN, by simp [okN, lA, lB], mFn_ok (by simp [m_ldrawn_row, szOk_small, x0, x1, x2, dN, nz, nz2, eA, eB, i1, enR])⟩
  · have i1 : fIn (.str "or") (.tup [.str "left", .str "right"]) = some (.bl false) := rfl
    exact ⟨.or_ aN bN, by simp [okN, lA, lB], mFn_ok (by simp [m_ldrawn_row, szOk_small, x0, x1, x2, dN, nz, nz2, eA, eB, i1, enR])⟩
  · have i1 : fIn (.str "left") (.tup [.str "left", .str "right"]) = some (.bl true) := rfl
    exact ⟨.left aN, by simp [okN, lA], mFn_ok (by simp [m_ldrawn_row, szOk_small, x0, x1, x2, dN, nz, nz2, eA, eB, i1, enR])⟩
  · have i1 : fIn (.str "right") (.tup [.str "left", .str "right"]) = some (.bl true) := rfl
    exact ⟨.right aN, by simp [okN, lA], mFn_ok (by simp [m_ldrawn_row, szOk_small, x0, x1, x2, dN, nz, nz2, eA, eB, i1, enR])⟩
  · have i1 : fIn (.str "look") (.tup [.str "left", .str "right"]) = some (.bl false) := rfl
    by_cases ht : 0 < nt
    · have dT : divOk (nt : Int) = true := divOk_small (by omega) (by omega)
      have nT : ¬ (nt : Int) = 0 := by omega
      have nT2 : ¬ nt = 0 := by omega
      have eT : (b : Int).fmod (nt : Int) = ((b % nt : Nat) : Int) := nat_fmod b nt
      have lT : b % nt < nt := Nat.mod_lt _ ht
      have ht' : (0 : Int) < (nt : Int) := by omega
      generalize b % nt = bT at *
      exact ⟨.look aN bT, by simp [okN, lA, lT], mFn_ok (by simp [m_ldrawn_row, szOk_small, x0, x1, x2, dN, nz, nz2, eA, eB, i1, enR, ht, ht', dT, nT, nT2, eT])⟩
    · have ht' : ¬ (0 : Int) < (nt : Int) := by omega
      exact ⟨.copy aN bN, by simp [okN, lA, lB], mFn_ok (by simp [m_ldrawn_row, szOk_small, x0, x1, x2, dN, nz, nz2, eA, eB, i1, enR, ht, ht'])⟩
  · have i1 : fIn (.str "mark") (.tup [.str "left", .str "right"]) = some (.bl false) := rfl
    exact ⟨.mark a2, by simp [okN, l2], mFn_ok (by simp [m_ldrawn_row, szOk_small, x0, x1, x2, dN, nz, nz2, eA, eB, i1, enR, e2, d2'])⟩
def tabsOf (tb : Nat → Nat → Nat) (nt : Nat) : List MV := (List.range nt).map fun k => .tup ((List.range 256).map fun b => .int (tb k b))
structure DrP (N : Nat) where
  tb : Nat → Nat → Nat
  nt : Nat
  rs : List Rw
  c : List Nat
  m : Nat
  h16 : nt ≤ 16
  tl : TabLt tb nt
  ok : rs.all (okN N nt) = true
  h48 : rs.length ≤ 48
  cn : CellsN N c
  m2 : m < 2
theorem ldrawn_program_ok {N : Nat} (hN : 1 ≤ N ∧ N ≤ 256) (ns : List Int) (salt : Nat) : ∃ d : DrP N, f_ldrawn_program [.scr ns, .int salt, .int N] = .ok (.tup [.tup (tabsOf d.tb d.nt), .tup (d.rs.map enR), .tup (encC d.c), .int d.m], []) := by
  obtain ⟨c0, hc0⟩ := lcell_ok ns 0
  obtain ⟨ds, hd, hds⟩ := ldraws_ok c0 salt [8, 17, 65519, 65519, 65519, 2, 65519, 65519, 256] (by decide) (by decide)
  simp only [draws_cons, draws_nil] at hd
  obtain ⟨f0, _, rfl, u0, f1, _, rfl, u1, f2, _, rfl, u2, f3, _, rfl, u3, f4, _, rfl, u4, f5, _, rfl, u5, f6, _, rfl, u6, f7, _, rfl, u7, f8, _, rfl, u8, rfl⟩ := hd
  obtain ⟨n1, rfl⟩ : ∃ x : Nat, f1 = x := ⟨f1.toNat, by omega⟩
  obtain ⟨n2, rfl⟩ : ∃ x : Nat, f2 = x := ⟨f2.toNat, by omega⟩
  obtain ⟨n3, rfl⟩ : ∃ x : Nat, f3 = x := ⟨f3.toNat, by omega⟩
  obtain ⟨n4, rfl⟩ : ∃ x : Nat, f4 = x := ⟨f4.toNat, by omega⟩
  obtain ⟨n5, rfl⟩ : ∃ x : Nat, f5 = x := ⟨f5.toNat, by omega⟩
  obtain ⟨n6, rfl⟩ : ∃ x : Nat, f6 = x := ⟨f6.toNat, by omega⟩
  obtain ⟨n7, rfl⟩ : ∃ x : Nat, f7 = x := ⟨f7.toNat, by omega⟩
  obtain ⟨n8, rfl⟩ : ∃ x : Nat, f8 = x := ⟨f8.toNat, by omega⟩
  obtain ⟨nt, hnt, hat⟩ : ∃ nt : Nat, nt ≤ 16 ∧ atI [MV.int 0, .int 0, .int 1, .int 1, .int 2, .int 2, .int 2, .int 16] f0 = some (.int nt) := by
    rcases (show f0 = 0 ∨ f0 = 1 ∨ f0 = 2 ∨ f0 = 3 ∨ f0 = 4 ∨ f0 = 5 ∨ f0 = 6 ∨ f0 = 7 by omega) with rfl | rfl | rfl | rfl | rfl | rfl | rfl | rfl
    · exact ⟨0, by decide, rfl⟩
    · exact ⟨0, by decide, rfl⟩
    · exact ⟨1, by decide, rfl⟩
    · exact ⟨1, by decide, rfl⟩
    · exact ⟨2, by decide, rfl⟩
    · exact ⟨2, by decide, rfl⟩
    · exact ⟨2, by decide, rfl⟩
    · exact ⟨16, by decide, rfl⟩
  generalize hF : [MV.int f0, .int (n1 : Nat), .int (n2 : Nat), .int (n3 : Nat), .int (n4 : Nat), .int (n5 : Nat), .int (n6 : Nat), .int (n7 : Nat), .int (n8 : Nat)] = F at *
  have y0 : atI F 0 = some (.int f0) := by rw [← hF]; rfl
  have y1 : atI F 1 = some (.int n1) := by rw [← hF]; rfl
  have y2 : atI F 2 = some (.int n2) := by rw [← hF]; rfl
  have y3 : atI F 3 = some (.int n3) := by rw [← hF]; rfl
  have y4 : atI F 4 = some (.int n4) := by rw [← hF]; rfl
  have y5 : atI F 5 = some (.int n5) := by rw [← hF]; rfl
  have y6 : atI F 6 = some (.int n6) := by rw [← hF]; rfl
  have y7 : atI F 7 = some (.int n7) := by rw [← hF]; rfl
  have y8 : atI F 8 = some (.int n8) := by rw [← hF]; rfl
  have hds : f_ldraws [.int c0, .int salt, .lst [.int 8, .int 17, .int 65519, .int 65519, .int 65519, .int 2, .int 65519, .int 65519, .int 256]] = .ok (.own F, []) := by rw [← hF]; exact hds
  have lt := mLcO_nm (it := mR1 (mCons (mVar 4) (mNil))) (e := mFz (mCall0 f_ldrawn_table (mCons (mOp fIx (mVar 3) (mC (.int 2))) (mCons (mOp fIx (mVar 3) (mC (.int 3))) (mCons (mOp fAdd (mOp fIx (mVar 3) (mC (.int 4))) (mVar 7)) (mNil)))))) (v := 7) (xs := rngM 0 1 nt) (fun z => match z with | .int i => .tup ((List.range 256).map fun v => .int (dtb n2 n3 n4 i.toNat v)) | _ => .non)
    (ρ := [some (.scr ns), some (.int salt), some (.int N), some (.lst F), some (.int nt), none, none, none, none, none, none, none]) (by
      have ir : inR (nt : Int) = true := inR_of (by omega) (by omega)
      simp [ir]) rfl (by
      intro z hz
      obtain ⟨i, hi, rfl⟩ := List.mem_map.mp hz
      have e := ldrawn_table_eq n2 n3 n4 i (by omega) (by omega)
      simp [y2, y3, y4, e]) (by rw [sizeLine_eq, rngM_len]; omega)
  have e8 : ((rngM 0 1 nt).map fun z => match z with | .int i => MV.tup ((List.range 256).map fun v => .int (dtb n2 n3 n4 i.toNat v)) | _ => .non) = tabsOf (fun k v => dtb n2 n3 n4 k v) nt := by
    unfold rngM tabsOf
    rw [List.map_map]
    apply List.map_congr_left
    intro i _
    show MV.tup _ = MV.tup _
    simp
  rw [e8] at lt
  have hT : TabLt (fun k v => dtb n2 n3 n4 k v) nt := fun k v _ _ => Nat.mod_lt _ (by decide)
  generalize (fun k v => dtb n2 n3 n4 k v) = tb at *
  obtain ⟨ρ1, e1, rs, a7, a9, a10, h1, h2, rfl⟩ := loop_nxr (g := gSet 7) (b := b_ldrawn_program_1) (lo := 0) (c := 1) (n := n1) (ρ := [some (.scr ns), some (.int salt), some (.int N), some (.lst F), some (.int nt), some (.tup (tabsOf tb nt)), some (.own []), none, none, none, none, none])
    (fun k ρ => ∃ (rs : List Rw) (a7 a9 a10 : Option MV), rs.length = 3 * k ∧ rs.all (okN N nt) = true ∧ ρ = [some (.scr ns), some (.int salt), some (.int N), some (.lst F), some (.int nt), some (.tup (tabsOf tb nt)), some (.own (rs.map enR)), a7, none, a9, a10, none]) ⟨[], none, none, none, rfl, rfl, rfl⟩ (by
      rintro k ρ hk ⟨rs, a7, a9, a10, h1, h2, rfl⟩
      refine ⟨_, rfl, ?_⟩
      obtain ⟨c1, hc1⟩ := lcell_ok ns (1 + k)
      obtain ⟨dd, hd, hdd⟩ := ldraws_ok c1 ((salt : Int) + 1) [10, 256, 256, 10, 256, 256, 10, 256, 256] (by decide) (by decide)
      simp only [draws_cons, draws_nil] at hd
      obtain ⟨g0, _, rfl, v0, g1, _, rfl, v1, g2, _, rfl, v2, g3, _, rfl, v3, g4, _, rfl, v4, g5, _, rfl, v5, g6, _, rfl, v6, g7, _, rfl, v7, g8, _, rfl, v8, rfl⟩ := hd
      obtain ⟨r1, o1, p1⟩ := @ldrawn_row_ok N nt hN hnt g0 g1 g2 v0 v1 v2
      obtain ⟨r2, o2, p2⟩ := @ldrawn_row_ok N nt hN hnt g3 g4 g5 v3 v4 v5
      obtain ⟨r3, o3, p3⟩ := @ldrawn_row_ok N nt hN hnt g6 g7 g8 v6 v7 v8
      have hdd : f_ldraws [.int c1, .int ((salt : Int) + 1), .lst [.int 10, .int 256, .int 256, .int 10, .int 256, .int 256, .int 10, .int 256, .int 256]] = .ok (.own [.int g0, .int g1, .int g2, .int g3, .int g4, .int g5, .int g6, .int g7, .int g8], []) := hdd
      have s1 : cutM [MV.int g0, .int g1, .int g2, .int g3, .int g4, .int g5, .int g6, .int g7, .int g8] (some 0) (some 3) = [.int g0, .int g1, .int g2] := rfl
      have s2 : cutM [MV.int g0, .int g1, .int g2, .int g3, .int g4, .int g5, .int g6, .int g7, .int g8] (some 3) (some 6) = [.int g3, .int g4, .int g5] := rfl
      have s3 : cutM [MV.int g0, .int g1, .int g2, .int g3, .int g4, .int g5, .int g6, .int g7, .int g8] (some 6) (some 9) = [.int g6, .int g7, .int g8] := rfl
      generalize [MV.int g0, .int g1, .int g2, .int g3, .int g4, .int g5, .int g6, .int g7, .int g8] = G at *
      have rg : rgOk 0 9 3 = true ∧ (Builtin.Range.rangeSize 0 9 3).toNat = 3 := by decide
      have rl : rngM 0 3 3 = [.int 0, .int 3, .int 6] := rfl
      refine ⟨[some (.scr ns), some (.int salt), some (.int N), some (.lst F), some (.int nt), some (.tup (tabsOf tb nt)), some (.own ((rs ++ [r1, r2, r3]).map enR)), some (.int k), none, some (.lst G), some (.int 6), none], ?_, rs ++ [r1, r2, r3], some (.int k), some (.lst G), some (.int 6), by simp; omega, by rw [List.all_append, h2]; simp [o1, o2, o3], rfl⟩
      rw [List.map_append]
      have l0 : (rs.map enR).length < sizeLine := by rw [List.length_map, sizeLine_eq]; omega
      have l1 : (rs.map enR).length + 1 < sizeLine := by rw [List.length_map, sizeLine_eq]; omega
      have l2 : (rs.map enR).length + 1 + 1 < sizeLine := by rw [List.length_map, sizeLine_eq]; omega
      simp only [List.map_cons, List.map_nil]
      generalize rs.map enR = R at *
      generalize tabsOf tb nt = TT at *
      have er : ∀ r : Rw, ∃ ys, enR r = .tup ys := fun r => by cases r <;> exact ⟨_, rfl⟩
      obtain ⟨z1, w1⟩ := er r1
      obtain ⟨z2, w2⟩ := er r2
      obtain ⟨z3, w3⟩ := er r3
      rw [w1] at p1 ⊢
      rw [w2] at p2 ⊢
      rw [w3] at p3 ⊢
      simp at hc1
      simp [b_ldrawn_program_1, hc1, hdd, rg.1, rg.2, rl, mLoop, b_ldrawn_program_0, s1, s2, s3, p1, p2, p3, szOk_small, l0, l1, l2])
  have cell : ∀ k : Nat, (n6 * (k + 1) * (k + 2) + n7 * k) % 65519 / 5 % 256 < 256 := fun k => Nat.mod_lt _ (by decide)
  obtain ⟨ρ2, e2, b7, b11, rfl⟩ := loop_nxr (g := gSet 7) (b := b_ldrawn_program_2) (lo := 0) (c := 1) (n := N) (ρ := [some (.scr ns), some (.int salt), some (.int N), some (.lst F), some (.int nt), some (.tup (tabsOf tb nt)), some (.own (rs.map enR)), a7, some (.own []), a9, a10, none])
    (fun k ρ => ∃ (a7 a11 : Option MV), ρ = [some (.scr ns), some (.int salt), some (.int N), some (.lst F), some (.int nt), some (.tup (tabsOf tb nt)), some (.own (rs.map enR)), a7, some (.own (encC ((List.range k).map fun k => (n6 * (k + 1) * (k + 2) + n7 * k) % 65519 / 5 % 256))), a9, a10, a11]) ⟨a7, none, rfl⟩ (by
      rintro k ρ hk ⟨a7, a11, rfl⟩
      refine ⟨_, rfl, [some (.scr ns), some (.int salt), some (.int N), some (.lst F), some (.int nt), some (.tup (tabsOf tb nt)), some (.own (rs.map enR)), some (.int k), some (.own (encC ((List.range (k + 1)).map fun k => (n6 * (k + 1) * (k + 2) + n7 * k) % 65519 / 5 % 256))), a9, a10, some (.int (n6 * (k + 1) * (k + 2) + n7 * k : Nat))], ?_, _, _, rfl⟩
      have nx : encC ((List.range (k + 1)).map fun k => (n6 * (k + 1) * (k + 2) + n7 * k) % 65519 / 5 % 256) = encC ((List.range k).map fun k => (n6 * (k + 1) * (k + 2) + n7 * k) % 65519 / 5 % 256) ++ [.int ((n6 * (k + 1) * (k + 2) + n7 * k) % 65519 / 5 % 256 : Nat)] := by
        unfold encC
        rw [List.range_succ, List.map_append, List.map_append]; rfl
      have ll : (encC ((List.range k).map fun k => (n6 * (k + 1) * (k + 2) + n7 * k) % 65519 / 5 % 256)).length < sizeLine := by rw [encC_len, List.length_map, List.length_range, sizeLine_eq]; omega
      rw [nx]
      have m1 : mulOk (n6 : Int) ((k : Int) + 1) = true := mulOk_r (by omega) (by omega)
      have m2 : mulOk ((n6 : Int) * (k + 1)) ((k : Int) + 2) = true := mulOk_r (by omega) (by omega)
      have m3 : mulOk (n7 : Int) (k : Int) = true := mulOk_r (by omega) (by omega)
      have q0 : ((n6 : Int) * (k + 1) * (k + 2) + n7 * k) = ((n6 * (k + 1) * (k + 2) + n7 * k : Nat) : Int) := by simp
      have q1 : ((n6 * (k + 1) * (k + 2) + n7 * k : Nat) : Int).fmod 65519 = (((n6 * (k + 1) * (k + 2) + n7 * k) % 65519 : Nat) : Int) := nat_fmod _ 65519
      have q2 : (((n6 * (k + 1) * (k + 2) + n7 * k) % 65519 : Nat) : Int).fdiv 5 = (((n6 * (k + 1) * (k + 2) + n7 * k) % 65519 / 5 : Nat) : Int) := nat_fdiv _ 5
      have q3 : (((n6 * (k + 1) * (k + 2) + n7 * k) % 65519 / 5 : Nat) : Int).fmod 256 = (((n6 * (k + 1) * (k + 2) + n7 * k) % 65519 / 5 % 256 : Nat) : Int) := nat_fmod _ 256
      have d1 : divOk 65519 = true := by decide
      have d2 : divOk 5 = true := by decide
      have d3 : divOk 256 = true := by decide
      generalize encC ((List.range k).map fun k => (n6 * (k + 1) * (k + 2) + n7 * k) % 65519 / 5 % 256) = CC at *
      generalize (n6 * (k + 1) * (k + 2) + n7 * k) % 65519 / 5 % 256 = v3 at *
      generalize (n6 * (k + 1) * (k + 2) + n7 * k) % 65519 / 5 = v2 at *
      generalize (n6 * (k + 1) * (k + 2) + n7 * k) % 65519 = v1 at *
      generalize (n6 * (k + 1) * (k + 2) + n7 * k) = v0 at *
      generalize tabsOf tb nt = TT at *
      generalize rs.map enR = R at *
      simp [b_ldrawn_program_2, y6, y7, m1, m2, m3, q0, q1, q2, q3, d1, d2, d3, ll])
  have irN : inR (N : Int) = true := inR_of (by omega) (by omega)
  have ir1 : inR (n1 : Int) = true := inR_of (by omega) (by omega)
  have fin : ∀ c : List Nat, CellsN N c → (∃ ρ, m_ldrawn_program ([some (.scr ns), some (.int salt), some (.int N), none, none, none, none, none, none, none, none, none]) = .ok (.rt (.tup [.tup (tabsOf tb nt), .tup (rs.map enR), .tup (encC c), .int (n5 : Nat)]), ρ)) → ∃ d : DrP N, f_ldrawn_program [.scr ns, .int salt, .int N] = .ok (.tup [.tup (tabsOf d.tb d.nt), .tup (d.rs.map enR), .tup (encC d.c), .int d.m], []) := fun c hc h => by
    refine ⟨⟨tb, nt, rs, c, n5, hnt, hT, h2, by omega, hc, by omega⟩, mFn_ok h⟩
  have q8 : (n8 : Int).fmod 8 = ((n8 % 8 : Nat) : Int) := nat_fmod _ 8
  have q9 : (n8 : Int).fdiv 8 = ((n8 / 8 : Nat) : Int) := nat_fdiv _ 8
  have q10 : ((n8 / 8 : Nat) : Int).fmod 4 = ((n8 / 8 % 4 : Nat) : Int) := nat_fmod _ 4
  have d8 : divOk 8 = true := by decide
  have d4 : divOk 4 = true := by decide
  have bt : ∀ L : List MV, bTuple [.lst L] = some (.tup L) := fun _ => rfl
  simp at hc0
  have rep : ∀ v : Nat, v < 256 → CellsN N (List.replicate N v) := fun v hv => ⟨by simp, fun i => by
    unfold cg
    rw [List.getD_eq_getElem?_getD, List.getElem?_replicate]
    split
    · exact hv
    · decide⟩
  by_cases h8 : n8 % 8 = 0
  · obtain ⟨v, hv, ev⟩ : ∃ v : Nat, v < 256 ∧ atI [MV.int 0, .int 255, .int 128, .int 1] ((n8 / 8 % 4 : Nat) : Int) = some (.int v) := by
      have := Nat.mod_lt (n8 / 8) (show 0 < 4 by decide)
      generalize n8 / 8 % 4 = x at *
      rcases (show x = 0 ∨ x = 1 ∨ x = 2 ∨ x = 3 by omega) with rfl | rfl | rfl | rfl
      · exact ⟨0, by decide, rfl⟩
      · exact ⟨255, by decide, rfl⟩
      · exact ⟨128, by decide, rfl⟩
      · exact ⟨1, by decide, rfl⟩
    refine fin _ (rep v hv) ?_
    have fm : fMultL (.lst [.int v]) (.int (N : Nat)) = some (encC (List.replicate N v)) := by
      rw [encC_rep]
      exact fMultL_1 (by omega)
    rw [h8] at q8
    generalize encC (List.replicate N v) = Z at *
    generalize encC ((List.range N).map fun k => (n6 * (k + 1) * (k + 2) + n7 * k) % 65519 / 5 % 256) = CC at *
    generalize n8 / 8 % 4 = x4 at *
    generalize n8 / 8 = x5 at *
    generalize tabsOf tb nt = TT at *
    generalize rs.map enR = R at *
    simp at q8
    simp [m_ldrawn_program, hc0, hds, szOk_small, y0, y1, y5, y8, hat, lt, bt, e1, e2, ir1, irN, q8, q9, q10, d8, d4, ev, fm]
  · refine fin ((List.range N).map fun k => (n6 * (k + 1) * (k + 2) + n7 * k) % 65519 / 5 % 256) ⟨by simp, fun i => ?_⟩ ?_
    · unfold cg
      rw [List.getD_eq_getElem?_getD, List.getElem?_map]
      by_cases hi : i < N
      · rw [List.getElem?_range hi]; exact cell i
      · rw [List.getElem?_eq_none (by simpa using hi)]; exact (by decide : (0 : Nat) < 256)
    · have h8' : ¬ ((n8 % 8 : Nat) : Int) = 0 := by omega
      generalize encC ((List.range N).map fun k => (n6 * (k + 1) * (k + 2) + n7 * k) % 65519 / 5 % 256) = CC at *
      generalize n8 % 8 = x8 at *
      generalize n8 / 8 % 4 = x4 at *
      generalize n8 / 8 = x5 at *
      generalize tabsOf tb nt = TT at *
      generalize rs.map enR = R at *
      have h8'' : ¬ x8 = 0 := by omega
      simp [m_ldrawn_program, hc0, hds, szOk_small, y0, y1, y5, y8, hat, lt, bt, e1, e2, ir1, irN, q8, q9, q10, d8, d4, h8', h8'']
def dtx (ds : List Nat) : Str := ⟨(ds.map (48 + ·)).toArray⟩
theorem dtx_len (ds : List Nat) : (dtx ds).length = ds.length := by
  show (ds.map (48 + ·)).toArray.size = ds.length
  simp
theorem dtx_list (ds : List Nat) : (dtx ds).cps.toList = ds.map (48 + ·) := by simp [dtx]
theorem str_ext {a b : Str} (h : a.cps.toList = b.cps.toList) : a = b := by
  cases a; cases b
  simp only at h
  congr 1
  exact Array.toList_inj.mp h
theorem digit_nat : ∀ d, d < 10 → (Nat.digitChar d).toNat = 48 + d := by decide
def nd (m : Nat) : Nat := (Nat.toDigits 10 m).length
theorem dec_digs : ∀ (k m : Nat), m ≤ k → (Nat.toDigits 10 m).map Char.toNat = (digsB (nd m) m).map (48 + ·)
  | k, m, hk => by
    unfold nd
    rw [Nat.toDigits_eq_if (by decide)]
    split
    · rename_i h
      show [(Nat.digitChar m).toNat] = (digsB 1 m).map (48 + ·)
      rw [digit_nat m h, digsB_step]
      simp [digsB, digs, Nat.mod_eq_of_lt h]
    · rename_i h
      match k, hk with
      | 0, hk => omega
      | k + 1, hk =>
        have ih := dec_digs k (m / 10) (by omega)
        unfold nd at ih
        rw [List.map_append, ih, List.length_append]
        show _ = (digsB ((Nat.toDigits 10 (m / 10)).length + 1) m).map (48 + ·)
        rw [digsB_step, List.map_append]
        congr 1
        show [(Nat.digitChar (m % 10)).toNat] = [48 + m % 10]
        rw [digit_nat _ (Nat.mod_lt _ (by decide))]
theorem str_dec (m : Nat) : Str.ofString (toString (m : Int)) = dtx (digsB (nd m) m) := by
  refine (PyProof.Rows.text_ofNat m).trans (str_ext ?_)
  rw [dtx_list, ← dec_digs m m (Nat.le_refl _)]
theorem nd_pos (m : Nat) : 1 ≤ nd m := by
  have := @Nat.length_toDigits_pos 10 m
  exact this
theorem lt_nd (m : Nat) : m < 10 ^ nd m := by
  have := (Nat.length_toDigits_le_iff (n := m) (b := 10) (k := nd m) (by decide) (nd_pos m)).mp (Nat.le_refl _)
  exact this
theorem nd_le {m t : Nat} (h : m < 10 ^ t) (ht : 1 ≤ t) : nd m ≤ t := (Nat.length_toDigits_le_iff (n := m) (b := 10) (k := t) (by decide) ht).mpr h
theorem fIn_one (c : Nat) (z : Str) : fIn (.str ⟨#[c]⟩) (.str z) = some (.bl (decide (c ∈ z.cps.toList))) := by
  have h := PySem.StrLaws.found_iff z ⟨#[c]⟩
  have e : (!(Builtin.Str.occurrences z ⟨#[c]⟩ 0 z.length 1).isEmpty) = decide (c ∈ z.cps.toList) := by
    rw [Bool.eq_iff_iff, h, decide_eq_true_eq, List.mem_iff_getElem?]
    exact ⟨fun ⟨i, hi⟩ => ⟨i, (PySem.StrLaws.subAt_one z c i).mp hi⟩, fun ⟨i, hi⟩ => ⟨i, (PySem.StrLaws.subAt_one z c i).mpr hi⟩⟩
  show (some (!(Builtin.Str.occurrences z ⟨#[c]⟩ 0 z.length 1).isEmpty)).map MV.bl = _
  rw [e]; rfl
def figC (c : Nat) : Bool := decide (48 ≤ c) && decide (c ≤ 57)
theorem fig_list : (Str.ofString "0123456789").cps.toList = [48, 49, 50, 51, 52, 53, 54, 55, 56, 57] := by decide +kernel
theorem fIn_fig (c : Nat) : fIn (.str ⟨#[c]⟩) (.str (Str.ofString "0123456789")) = some (.bl (figC c)) := by
  have e : decide (c ∈ (Str.ofString "0123456789").cps.toList) = figC c := by
    rw [fig_list]
    unfold figC
    rw [Bool.eq_iff_iff]
    simp
    omega
  rw [fIn_one, e]
theorem figC_of {c : Nat} (h : figC c = true) : ∃ d, d < 10 ∧ c = 48 + d := by
  unfold figC at h
  simp at h
  exact ⟨c - 48, by omega, by omega⟩
theorem occ_fig : ∀ d, d < 10 → Builtin.Str.occurrences (Str.ofString "0123456789") ⟨#[48 + d]⟩ 0 (Str.ofString "0123456789").length 1 = [d] := by decide +kernel
theorem index_fig {d : Nat} (h : d < 10) : smIndex (Str.ofString "0123456789") [.str ⟨#[48 + d]⟩] = some (.int d) := by
  show (match Builtin.Str.occurrences (Str.ofString "0123456789") ⟨#[48 + d]⟩ 0 (Str.ofString "0123456789").length 1 with | i :: _ => some (MV.int (i : Nat)) | [] => none) = _
  rw [occ_fig d h]
theorem figs_all (w : Str) (v : Nat) (ρ : Env) {a : ME} (ha : a ρ = .ok (.str w, ρ)) (hv : ρ[v]? = some none) (hz : w.length ≤ 100000) :
    mLcO (mItV a) (.nm v) mYes (mOp fIn (mVar v) (mC (.str (Str.ofString "0123456789")))) [v] ρ = .ok (.own (w.cps.toList.map fun c => .bl (figC c)), ρ) := by
  have hl : w.cps.toList.length = w.length := Array.length_toList
  have hlt : v < ρ.length := lt_get hv
  have := mLcO_nm (it := mItV a) (e := mOp fIn (mVar v) (mC (.str (Str.ofString "0123456789")))) (v := v) (ρ := ρ) (xs := signsM w) (fun z => match z with | .str s => .bl (figC (s.cps.getD 0 0)) | _ => .non)
    (by unfold mItV; rw [ha]; rfl) hv (by
      intro x hx
      obtain ⟨c, _, rfl⟩ := List.mem_map.mp hx
      have e1 : mVar v (ρ.set v (some (.str ⟨#[c]⟩))) = .ok (.str ⟨#[c]⟩, ρ.set v (some (.str ⟨#[c]⟩))) := by
        unfold mVar
        rw [List.getElem?_set_self hlt]
      unfold mOp
      rw [e1]
      show (match fIn (.str ⟨#[c]⟩) (.str (Str.ofString "0123456789")) with | some z => Res.ok (z, _) | none => .stuck) = _
      rw [fIn_fig]
      rfl) (by unfold signsM; rw [List.length_map, hl, sizeLine_eq]; omega)
  rw [this]
  unfold signsM
  rw [List.map_map]
  rfl
def digV (cs : List Nat) : Nat := cs.foldl (fun acc c => acc * 10 + (c - 48)) 0
def numOk (cs : List Nat) : Bool := decide (1 ≤ cs.length) && decide (cs.length ≤ 3) && cs.all figC && (decide (cs.head? ≠ some 48) || decide (cs.length = 1))
def numT (w : Str) : Option Nat := if numOk w.cps.toList then some (digV w.cps.toList) else none
def numI (w : Str) : Int := match numT w with | some n => (n : Int) | none => -1
theorem figs3 {cs : List Nat} (h1 : 1 ≤ cs.length) (h3 : cs.length ≤ 3) (hf : cs.all figC = true) : (∃ a, a < 10 ∧ cs = [48 + a]) ∨ (∃ a b, a < 10 ∧ b < 10 ∧ cs = [48 + a, 48 + b]) ∨ ∃ a b c, a < 10 ∧ b < 10 ∧ c < 10 ∧ cs = [48 + a, 48 + b, 48 + c] := by
  match cs, h1, h3, hf with
  | [a], _, _, hf =>
    simp at hf
    obtain ⟨d, h, rfl⟩ := figC_of hf
    exact .inl ⟨d, h, rfl⟩
  | [a, b], _, _, hf =>
    simp at hf
    obtain ⟨d, h, rfl⟩ := figC_of hf.1
    obtain ⟨d2, h2, rfl⟩ := figC_of hf.2
    exact .inr (.inl ⟨d, d2, h, h2, rfl⟩)
  | [a, b, c], _, _, hf =>
    simp at hf
    obtain ⟨d, h, rfl⟩ := figC_of hf.1
    obtain ⟨d2, h2, rfl⟩ := figC_of hf.2.1
    obtain ⟨d3, h3, rfl⟩ := figC_of hf.2.2
    exact .inr (.inr ⟨d, d2, d3, h, h2, h3, rfl⟩)
theorem nd_eq {m k : Nat} (h : m < 10 ^ (k + 1)) (h2 : 1 ≤ k → 10 ^ k ≤ m) : nd m = k + 1 := by
  have a := nd_le h (by omega)
  have p := nd_pos m
  rcases Nat.lt_or_ge (nd m) (k + 1) with l | l
  · have hk := h2 (by omega)
    have q := lt_nd m
    have : 10 ^ nd m ≤ 10 ^ k := Nat.pow_le_pow_right (by decide) (by omega)
    omega
  · omega
theorem canon {w : Str} (h1 : 1 ≤ w.cps.toList.length) (h3 : w.cps.toList.length ≤ 3) (hf : w.cps.toList.all figC = true) :
    (Str.ofString (toString ((digV w.cps.toList : Nat) : Int)) = w ↔ (decide (w.cps.toList.head? ≠ some 48) || decide (w.cps.toList.length = 1)) = true) ∧ digV w.cps.toList < 1000 := by
  rw [str_dec]
  have ex : ∀ ds : List Nat, dtx ds = w ↔ ds.map (48 + ·) = w.cps.toList := fun ds => ⟨fun h => by rw [← h, dtx_list], fun h => str_ext (by rw [dtx_list, h])⟩
  rw [ex]
  generalize w.cps.toList = cs at *
  rcases figs3 h1 h3 hf with ⟨a, ha, rfl⟩ | ⟨a, b, ha, hb, rfl⟩ | ⟨a, b, c, ha, hb, hc, rfl⟩
  · have ev : digV [48 + a] = a := by simp [digV]
    rw [ev, nd_eq (k := 0) (by omega) (by omega)]
    have : a % 10 = a := Nat.mod_eq_of_lt ha
    exact ⟨by simp [digsB, digs, this], by omega⟩
  · have ev : digV [48 + a, 48 + b] = a * 10 + b := by simp [digV]
    rw [ev]
    refine ⟨?_, by omega⟩
    by_cases a0 : a = 0
    · subst a0
      rw [nd_eq (k := 0) (by omega) (by omega)]
      simp [digsB, digs]
    · rw [nd_eq (k := 1) (by omega) (by omega)]
      have e1 : (a * 10 + b) % 10 = b := by omega
      have e2 : (a * 10 + b) / 10 % 10 = a := by omega
      simp [digsB, digs, e1, e2, a0]
  · have ev : digV [48 + a, 48 + b, 48 + c] = (a * 10 + b) * 10 + c := by simp [digV]
    rw [ev]
    refine ⟨?_, by omega⟩
    by_cases a0 : a = 0
    · subst a0
      have : ¬ nd ((0 * 10 + b) * 10 + c) = 3 := by
        have := nd_le (m := (0 * 10 + b) * 10 + c) (t := 2) (by omega) (by omega)
        omega
      constructor
      · intro h
        have := congrArg List.length h
        rw [List.length_map, digsB_len] at this
        exact absurd this (by simpa using ‹¬ nd ((0 * 10 + b) * 10 + c) = 3›)
      · intro h; simp at h
    · rw [nd_eq (k := 2) (by omega) (by omega)]
      have e1 : ((a * 10 + b) * 10 + c) % 10 = c := by omega
      have e2 : ((a * 10 + b) * 10 + c) / 10 % 10 = b := by omega
      have e3 : ((a * 10 + b) * 10 + c) / 10 / 10 % 10 = a := by omega
      simp [digsB, digs, e1, e2, e3, a0]
theorem int_figs {w : Str} (h1 : 1 ≤ w.cps.toList.length) (h3 : w.cps.toList.length ≤ 600) (hf : w.cps.toList.all figC = true) : bInt [.str w] = some (.int (digV w.cps.toList : Nat)) := by
  have hl : w.cps.toList.length = w.length := Array.length_toList
  have := PySem.intText_digits (x := w) (by
    intro c hc
    have := List.all_eq_true.mp hf c hc
    unfold figC at this
    simpa using this) (by intro h; rw [h] at h1; simp at h1) (by omega)
  show (if decide (w.length ≤ 640) then (PySem.intText? w).map MV.int else none) = _
  rw [if_pos (decide_eq_true (by omega)), this]
  rfl
theorem pnumber_told_eq {w : Str} (hz : w.length ≤ 100000) : f_pnumber_told [.str w] = .ok (.int (numI w), []) := by
  refine mFn_ok ?_
  have sz : szOk w.length = true := szOk_small (by omega)
  have fa := figs_all w 2 [some (.str w), none, none] (a := mVar 0) rfl rfl hz
  have ba := ball_map figC w.cps.toList
  have hl : w.cps.toList.length = w.length := Array.length_toList
  have ni : numI w = if numOk w.cps.toList then (digV w.cps.toList : Int) else -1 := by
    unfold numI numT
    cases numOk w.cps.toList <;> rfl
  rw [ni]
  by_cases h1 : 1 ≤ w.length ∧ w.length ≤ 3
  · have nin : fNotIn (.int w.length) (.tup [.int 1, .int 2, .int 3]) = some (.bl false) := by
      rcases (show w.length = 1 ∨ w.length = 2 ∨ w.length = 3 by omega) with e | e | e <;> (rw [e]; rfl)
    cases hf : w.cps.toList.all figC with
    | false =>
      rw [hf] at ba
      have no : numOk w.cps.toList = false := by unfold numOk; rw [hf]; simp
      rw [no]
      simp [m_pnumber_told, sz, nin, fa, ba, szOk_small]
    | true =>
      rw [hf] at ba
      have bi := int_figs (w := w) (by omega) (by omega) hf
      obtain ⟨ca, cl⟩ := canon (w := w) (by omega) (by omega) hf
      have bs : bStr [.int (digV w.cps.toList : Nat)] = some (.str (Str.ofString (toString ((digV w.cps.toList : Nat) : Int)))) := if_pos (decide_eq_true (by rw [Int.natAbs_natCast]; exact log2_small (by omega)))
      have no : numOk w.cps.toList = (decide (w.cps.toList.head? ≠ some 48) || decide (w.cps.toList.length = 1)) := by
        unfold numOk
        rw [hf, decide_eq_true (show 1 ≤ w.cps.toList.length by omega), decide_eq_true (show w.cps.toList.length ≤ 3 by omega)]
        simp
      rw [← no] at ca
      generalize digV w.cps.toList = V at *
      generalize Str.ofString (toString ((V : Nat) : Int)) = S at *
      cases hn : numOk w.cps.toList with
      | false =>
        rw [hn] at ca
        have : ¬ S = w := fun h => by have := ca.mp h; cases this
        simp [m_pnumber_told, sz, nin, fa, ba, bi, bs, this, szOk_small]
      | true =>
        rw [hn] at ca
        have : S = w := ca.mpr rfl
        simp [m_pnumber_told, sz, nin, fa, ba, bi, bs, this, szOk_small]
  · have nin : fNotIn (.int w.length) (.tup [.int 1, .int 2, .int 3]) = some (.bl true) := by
      have a1 : ¬ w.length = 1 := by omega
      have a2 : ¬ w.length = 2 := by omega
      have a3 : ¬ w.length = 3 := by omega
      have b1 : ¬ (1 : Int) = w.length := by omega
      have b2 : ¬ (2 : Int) = w.length := by omega
      have b3 : ¬ (3 : Int) = w.length := by omega
      simp [fNotIn, inA, inM, flatM, eqFlat, b1, b2, b3]
    have no : numOk w.cps.toList = false := by
      unfold numOk
      rw [hl]
      by_cases a : 1 ≤ w.length
      · rw [decide_eq_false (show ¬ w.length ≤ 3 by omega)]; simp
      · rw [decide_eq_false a]; simp
    rw [no]
    simp [m_pnumber_told, sz, nin, szOk_small]
theorem lnumber2_eq {w : Str} (hz : w.length ≤ 100000) : f_lnumber2 [.str w] = .ok ((match numT w with | some n => .int n | none => .non), []) := by
  refine mFn_ok ?_
  have sz : szOk w.length = true := szOk_small (by omega)
  have fa := figs_all w 2 [some (.str w), none, none] (a := mVar 0) rfl rfl hz
  have ba := ball_map figC w.cps.toList
  have hl : w.cps.toList.length = w.length := Array.length_toList
  unfold numT
  by_cases h1 : 1 ≤ w.length
  · by_cases h3 : w.length ≤ 3
    · have l1 : ¬ ((w.length : Int) < 1) := by omega
      have l3 : ¬ ((3 : Int) < (w.length : Int)) := by omega
      cases hf : w.cps.toList.all figC with
      | false =>
        rw [hf] at ba
        have no : numOk w.cps.toList = false := by unfold numOk; rw [hf]; simp
        rw [no]
        simp [m_lnumber2, sz, l1, l3, fa, ba]
      | true =>
        rw [hf] at ba
        have lp := loop_junk (g := gSet 2) (b := b_lnumber2_0) (fun (s : Nat) z => [some (.str w), some (.int s), z]) (fun c : Nat => .str ⟨#[c]⟩) (fun s c => s * 10 + (c - 48)) (fun i s => s < 1000 ^ (i + 1)) w.cps.toList 0 none (by decide) (by
          intro i s z c hc hi hlt
          obtain ⟨d, hd, rfl⟩ := figC_of (List.all_eq_true.mp hf c hc)
          have e : 48 + d - 48 = d := by omega
          have m1 : mulOk 10 (s : Int) = true := mulOk_l (by decide) (by decide)
          refine ⟨?_, _, rfl, some (.str ⟨#[48 + d]⟩), ?_⟩
          · rw [Nat.pow_succ, e]
            have : 1 ≤ 1000 ^ (i + 1) := Nat.pos_of_ne_zero (by simp)
            omega
          · have ix := index_fig hd
            have cm : (10 : Int) * s + d = s * 10 + d := by omega
            simp [b_lnumber2_0, m1, smE_ok ix, e, cm])
        obtain ⟨⟨z, lp⟩, _⟩ := lp
        have dv : w.cps.toList.foldl (fun s c => s * 10 + (c - 48)) 0 = digV w.cps.toList := rfl
        rw [dv] at lp
        have no : numOk w.cps.toList = (decide (w.cps.toList.head? ≠ some 48) || decide (w.cps.toList.length = 1)) := by
          unfold numOk
          rw [hf, decide_eq_true (show 1 ≤ w.cps.toList.length by omega), decide_eq_true (show w.cps.toList.length ≤ 3 by omega)]
          simp
        rw [no]
        have sg : signsM w = w.cps.toList.map fun c => MV.str ⟨#[c]⟩ := rfl
        rw [← sg] at lp
        have it : itemsOf (.str w) = some (signsM w) := rfl
        have z0 : Str.ofString "0" = ⟨#[48]⟩ := rfl
        have lp' : mLoop (gSet 2) b_lnumber2_0 (signsM w) [some (.str w), some (.int 0), none] = .ok (.nx, [some (.str w), some (.int (digV w.cps.toList)), z]) := lp
        generalize digV w.cps.toList = V at *
        generalize signsM w = SG at *
        have hw : w = ⟨#[48]⟩ ↔ w.cps.toList = [48] := ⟨fun h => by rw [h], fun h => str_ext (by rw [h])⟩
        cases hcs : w.cps.toList with
        | nil => rw [hcs] at hl; simp at hl; omega
        | cons a r =>
          rw [hcs] at hw hl no
          have ha : fIx (.str w) (.int 0) = some (.str ⟨#[a]⟩) := by simp [sz, hcs]
          have eq1 : ((⟨#[a]⟩ : Str) = ⟨#[48]⟩) ↔ a = 48 := by simp
          by_cases a48 : a = 48
          · subst a48
            by_cases hr : r = []
            · subst hr
              have : w = ⟨#[48]⟩ := hw.mpr rfl
              have t : fNe (.str w) (.str ⟨#[48]⟩) = some (.bl false) := by rw [this]; simp
              simp [m_lnumber2, sz, l1, l3, fa, ba, it, lp', ha, z0, t]
            · have : ¬ w = ⟨#[48]⟩ := fun h => by have := hw.mp h; simp at this; exact hr this
              have t : fNe (.str w) (.str ⟨#[48]⟩) = some (.bl true) := by simp [this]
              simp [m_lnumber2, sz, l1, l3, fa, ba, it, lp', ha, z0, t, hr]
          · simp [m_lnumber2, sz, l1, l3, fa, ba, it, lp', ha, z0, a48]
    · have l1 : ¬ ((w.length : Int) < 1) := by omega
      have l3 : ((3 : Int) < (w.length : Int)) := by omega
      have no : numOk w.cps.toList = false := by unfold numOk; rw [hl, decide_eq_false h3]; simp
      rw [no]
      simp [m_lnumber2, sz, l1, l3]
  · have l1 : ((w.length : Int) < 1) := by omega
    have no : numOk w.cps.toList = false := by unfold numOk; rw [hl, decide_eq_false h1]; simp
    rw [no]
    simp [m_lnumber2, sz, l1]
def rowL : List Str → Option (Str × List Int)
  | [] => none
  | w :: ws => if decide (ws.length ≤ 2) && rowOk 256 16 w (ws.map numI) then some (w, ws.map numI) else none
theorem split_sp {l : Str} (hz : l.length ≤ 100000) (b : Str) (hb : (b.length == 0) = false) : smSplit l [.str b] = some (.lst ((Txt.split l b).map MV.str)) := if_pos ⟨hb, by rw [sizeLine_eq]; omega⟩
theorem prow_told_eq (at_ : Nat) {l : Str} (hz : l.length ≤ 100000) : f_prow_told [.int at_, .str l] = match rowL (Txt.split l (Str.ofString " ")) with | some r => .ok (enA r, []) | none => .exc ⟨"BadLine", [("at", .int at_)]⟩ [] := by
  have hs := split_sp hz (Str.ofString " ") rfl
  have hp := PyProof.Rows.split_pos l (Str.ofString " ")
  have hle := PyProof.Rows.split_le l (Str.ofString " ")
  have hsh : ∀ a ∈ Txt.split l (Str.ofString " "), a.length ≤ l.length := fun a h => PyProof.Rows.part_short h
  generalize Txt.split l (Str.ofString " ") = W at *
  cases W with
  | nil => simp at hp
  | cons w ws =>
    rw [List.length_cons] at hle
    have z1 : szOk (ws.length + 1) = true := szOk_small (by omega)
    by_cases h2 : ws.length ≤ 2
    · have h3 : ¬ ((3 : Int) < (ws.length : Int) + 1) := by omega
      have c1 : cutM (MV.str w :: ws.map MV.str) none (some 1) = [.str w] := by rw [cutM_to (by decide)]; rfl
      have c2 : cutM (MV.str w :: ws.map MV.str) (some 1) none = ws.map MV.str := by rw [cutM_from (by decide)]; rfl
      have lc := mLcO_nm (it := mItV (mSl (mVar 2) (mPart (mC (.int 1))) mNo)) (e := mFz (mCall0 f_pnumber_told (mCons (mVar 4) mNil))) (v := 4) (ρ := [some (.int at_), some (.str l), some (.lst (MV.str w :: ws.map MV.str)), none, none]) (xs := ws.map MV.str)
        (fun z => match z with | .str s => .int (numI s) | _ => .non) (by simp [c2]) rfl (by
          intro x hx
          obtain ⟨s, hs2, rfl⟩ := List.mem_map.mp hx
          have := pnumber_told_eq (w := s) (by have := hsh s (List.mem_cons_of_mem _ hs2); omega)
          simp [this]) (by rw [List.length_map, sizeLine_eq]; omega)
      have em : (ws.map MV.str).map (fun z => match z with | .str s => MV.int (numI s) | _ => .non) = (ws.map numI).map MV.int := by rw [List.map_map, List.map_map]; rfl
      rw [em] at lc
      have ir := is_row_eq w 256 16 (ws.map numI) (by rw [List.length_map]; omega)
      have z2 : szOk (1 + ws.length) = true := szOk_small (by omega)
      have er : rowL (w :: ws) = if rowOk 256 16 w (ws.map numI) then some (w, ws.map numI) else none := by
        simp only [rowL, decide_eq_true h2, Bool.true_and]
      rw [er]
      have eA : enA (w, ws.map numI) = .tup (.str w :: (ws.map numI).map MV.int) := rfl
      have hnl : ((ws.map numI).map MV.int).length = ws.length := by simp
      generalize (ws.map numI).map MV.int = NI at *
      generalize ws.map numI = NS at *
      cases hr : rowOk 256 16 w NS with
      | true =>
        rw [hr] at ir
        rw [if_pos rfl]
        refine mFn_ok ?_
        simp [m_prow_told, smE_ok hs, z1, h3, c1, lc, hnl, z2, ir, eA]
      | false =>
        rw [hr] at ir
        rw [if_neg (by decide)]
        refine mFn_exc ?_
        simp [m_prow_told, smE_ok hs, z1, h3, c1, lc, hnl, z2, ir]
    · have h3 : ((3 : Int) < (ws.length : Int) + 1) := by omega
      have er : rowL (w :: ws) = none := by
        simp only [rowL, decide_eq_false h2, Bool.false_and]
        simp
      rw [er]
      refine mFn_exc ?_
      simp [m_prow_told, smE_ok hs, z1, h3]
def bndsL (w : Str) : List Int := match kindsT.lookup w with | some ks => ks.map (bndOf 256 16) | none => [256, 256]
def getD2 : ME := mDget2 (mDict [.inr "put", .inr "look", .inr "mark", .inr "left", .inr "right"] (mCons (mLst (mCons (mC (.int 256)) (mCons (mC (.int 256)) (mNil)))) (mCons (mLst (mCons (mC (.int 256)) (mCons (mC (.int 16)) (mNil)))) (mCons (mLst (mCons (mC (.int 2)) (mNil))) (mCons (mLst (mCons (mC (.int 256)) (mNil))) (mCons (mLst (mCons (mC (.int 256)) (mNil))) (mNil))))))) (mOp fIx (mVar 1) (mC (.int 0))) (mLst (mCons (mC (.int 256)) (mCons (mC (.int 256)) (mNil))))
theorem ten_either (w : Str) : (w = "put" ∨ w = "copy" ∨ w = "add" ∨ w = "addc" ∨ w = "and" ∨ w = "or" ∨ w = "left" ∨ w = "right" ∨ w = "look" ∨ w = "mark") ∨ (¬ w = "put" ∧ ¬ w = "copy" ∧ ¬ w = "add" ∧ ¬ w = "addc" ∧ ¬ w = "and" ∧ ¬ w = "or" ∧ ¬ w = "left" ∧ ¬ w = "right" ∧ ¬ w = "look" ∧ ¬ w = "mark") := by
  by_cases a1 : w = "put"
  · exact .inl (.inl a1)
  by_cases a2 : w = "copy"
  · exact .inl (.inr (.inl a2))
  by_cases a3 : w = "add"
  · exact .inl (.inr (.inr (.inl a3)))
  by_cases a4 : w = "addc"
  · exact .inl (.inr (.inr (.inr (.inl a4))))
  by_cases a5 : w = "and"
  · exact .inl (.inr (.inr (.inr (.inr (.inl a5)))))
  by_cases a6 : w = "or"
  · exact .inl (.inr (.inr (.inr (.inr (.inr (.inl a6))))))
  by_cases a7 : w = "left"
  · exact .inl (.inr (.inr (.inr (.inr (.inr (.inr (.inl a7)))))))
  by_cases a8 : w = "right"
  · exact .inl (.inr (.inr (.inr (.inr (.inr (.inr (.inr (.inl a8))))))))
  by_cases a9 : w = "look"
  · exact .inl (.inr (.inr (.inr (.inr (.inr (.inr (.inr (.inr (.inl a9)))))))))
  by_cases a10 : w = "mark"
  · exact .inl (.inr (.inr (.inr (.inr (.inr (.inr (.inr (.inr (.inr a10)))))))))
  exact .inr ⟨a1, a2, a3, a4, a5, a6, a7, a8, a9, a10⟩
def tenM : List MV := [.str "put", .str "copy", .str "add", .str "addc", .str "and", .str "or", .str "left", .str "right", .str "look", .str "mark"]
theorem lookup_no {w : Str} (h : ¬ w = "put" ∧ ¬ w = "copy" ∧ ¬ w = "add" ∧ ¬ w = "addc" ∧ ¬ w = "and" ∧ ¬ w = "or" ∧ ¬ w = "left" ∧ ¬ w = "right" ∧ ¬ w = "look" ∧ ¬ w = "mark") : kindsT.lookup w = none := by
  obtain ⟨a1, a2, a3, a4, a5, a6, a7, a8, a9, a10⟩ := h
  have f : ∀ {a b : Str}, ¬ a = b → (a == b) = false := fun h => beq_eq_false_iff_ne.mpr h
  simp only [kindsT, List.lookup_cons, List.lookup_nil, f a1, f a2, f a3, f a4, f a5, f a6, f a7, f a8, f a9, f a10]
theorem ten_in (w : Str) : fNotIn (.str w) (.tup tenM) = some (.bl (decide (kindsT.lookup w = none))) := by
  rcases ten_either w with h | h
  · rcases h with rfl | rfl | rfl | rfl | rfl | rfl | rfl | rfl | rfl | rfl <;> rfl
  · rw [lookup_no h, decide_eq_true rfl]
    obtain ⟨a1, a2, a3, a4, a5, a6, a7, a8, a9, a10⟩ := h
    have f : ∀ {a b : Str}, ¬ a = b → (b == a) = false := fun h => beq_eq_false_iff_ne.mpr (fun z => h z.symm)
    simp only [tenM, fNotIn, inA, inM, flatM, eqFlat, List.all_cons, List.all_nil, List.any_cons, List.any_nil, f a1, f a2, f a3, f a4, f a5, f a6, f a7, f a8, f a9, f a10]
    rfl
def keys5 : List Key := [.inr "put", .inr "look", .inr "mark", .inr "left", .inr "right"]
def vals5 : List MV := [.lst [.int 256, .int 256], .lst [.int 256, .int 16], .lst [.int 2], .lst [.int 256], .lst [.int 256]]
theorem five_at (w : Str) : (dctAt keys5 vals5 (.inr w)).getD (.lst [.int 256, .int 256]) = .lst ((bndsL w).map .int) := by
  rcases ten_either w with h | h
  · rcases h with rfl | rfl | rfl | rfl | rfl | rfl | rfl | rfl | rfl | rfl <;> rfl
  · have e : bndsL w = [256, 256] := by unfold bndsL; rw [lookup_no h]
    rw [e]
    obtain ⟨a1, a2, a3, a4, a5, a6, a7, a8, a9, a10⟩ := h
    have f : ∀ {a b : Str}, ¬ a = b → decide ((Sum.inr b : Key) = .inr a) = false := fun h => decide_eq_false (fun z => h (by injection z with z; exact z.symm))
    have n : dctAt keys5 vals5 (.inr w) = none := by
      simp only [dctAt, keys5, vals5, List.zip_cons_cons, List.zip_nil_left, List.find?_cons, List.find?_nil, f a1, f a9, f a10, f a7, f a8]
      rfl
    rw [n]; rfl
theorem getD2_eq (w : Str) (ws : List MV) (l : MV) : getD2 [some l, some (.lst (.str w :: ws)), none, none, none, none, none] = .ok (.lst ((bndsL w).map .int), [some l, some (.lst (.str w :: ws)), none, none, none, none, none]) := by
  have e1 : mDict [.inr "put", .inr "look", .inr "mark", .inr "left", .inr "right"] (mCons (mLst (mCons (mC (.int 256)) (mCons (mC (.int 256)) (mNil)))) (mCons (mLst (mCons (mC (.int 256)) (mCons (mC (.int 16)) (mNil)))) (mCons (mLst (mCons (mC (.int 2)) (mNil))) (mCons (mLst (mCons (mC (.int 256)) (mNil))) (mCons (mLst (mCons (mC (.int 256)) (mNil))) (mNil)))))) [some l, some (.lst (.str w :: ws)), none, none, none, none, none] = .ok (.dct keys5 vals5, [some l, some (.lst (.str w :: ws)), none, none, none, none, none]) := rfl
  have e2 : mOp fIx (mVar 1) (mC (.int 0)) [some l, some (.lst (.str w :: ws)), none, none, none, none, none] = .ok (.str w, [some l, some (.lst (.str w :: ws)), none, none, none, none, none]) := by simp
  have e3 : (mLst (mCons (mC (.int 256)) (mCons (mC (.int 256)) (mNil)))) [some l, some (.lst (.str w :: ws)), none, none, none, none, none] = .ok (.lst [.int 256, .int 256], [some l, some (.lst (.str w :: ws)), none, none, none, none, none]) := rfl
  have e4 := five_at w
  unfold getD2 mDget2
  rw [e1]
  simp only [bind_ok]
  rw [e2]
  simp only [bind_ok]
  rw [e3]
  simp only [bind_ok, keyM, e4]
def numM (w : Str) : MV := match numT w with | some n => .int n | none => .non
theorem none_in (ws : List Str) : fIn .non (.lst (ws.map numM)) = some (.bl (ws.any fun w => decide (numT w = none))) := by
  have h1 : (ws.map numM).all flatM = true := by
    rw [List.all_eq_true]
    intro x hx
    obtain ⟨w, _, rfl⟩ := List.mem_map.mp hx
    unfold numM
    split <;> rfl
  have h2 : ((ws.map numM).any fun x => eqFlat x .non) = ws.any fun w => decide (numT w = none) := by
    rw [List.any_map]
    congr 1
    funext w
    show eqFlat (numM w) .non = _
    unfold numM
    cases numT w <;> rfl
  show (inM .non (ws.map numM)).map MV.bl = _
  unfold inM
  rw [h1, h2]
  rfl
theorem rowOk_split {w : Str} {ks : List Str} (hk : kindsT.lookup w = some ks) (hks : ∀ k ∈ ks, k ∈ kindL) : ∀ ws : List Str, ∀ (js : List Str), (∀ k ∈ js, k ∈ kindL) → ws.length = js.length →
    ((ws.map numI).zip js).all (inB 256 16) = ((!(ws.any fun w => decide (numT w = none))) && ((ws.map numI).zip (js.map (bndOf 256 16))).all fun p => decide (p.1 < p.2))
  | [], [], _, _ => rfl
  | a :: ws, j :: js, hj, hl => by
    have ih := rowOk_split hk hks ws js (fun k h => hj k (List.mem_cons_of_mem _ h)) (by simpa using hl)
    simp only [List.map_cons, List.zip_cons_cons, List.all_cons, List.any_cons, ih]
    have e : inB 256 16 (numI a, j) = (!(decide (numT a = none)) && decide (numI a < bndOf 256 16 j)) := by
      unfold inB numI
      cases numT a with
      | none => simp
      | some n => simp
    rw [e]
    cases decide (numT a = none) <;> cases (ws.any fun w => decide (numT w = none)) <;> simp
  | [], _ :: _, _, h => by simp at h
  | _ :: _, [], _, h => by simp at h
theorem zip_ints : ∀ (xs ys : List Int), zipM (xs.map .int) (ys.map .int) = (xs.zip ys).map fun p => .tup [.int p.1, .int p.2]
  | [], _ => rfl
  | _ :: _, [] => rfl
  | x :: xs, k :: ks => by
    have := zip_ints xs ks
    unfold zipM at *
    rw [List.map_cons, List.map_cons, List.zipWith_cons_cons, this]; rfl
theorem numM_ints : ∀ {ws : List Str}, (ws.any fun w => decide (numT w = none)) = false → ws.map numM = (ws.map numI).map .int
  | [], _ => rfl
  | w :: ws, h => by
    simp only [List.any_cons, Bool.or_eq_false_iff] at h
    have ih := numM_ints h.2
    rw [List.map_cons, List.map_cons, List.map_cons, ih]
    congr 1
    unfold numM numI
    cases e : numT w with
    | none => rw [e] at h; simp at h
    | some n => rfl
theorem kinds_two {w : Str} {ks : List Str} (h : kindsT.lookup w = some ks) : ks.length ≤ 2 ∧ ∀ k ∈ ks, k ∈ kindL := by
  have hm := lookup_mem' h
  simp only [kindsT, List.mem_cons, List.not_mem_nil, or_false, Prod.mk.injEq] at hm
  rcases hm with ⟨_, rfl⟩ | ⟨_, rfl⟩ | ⟨_, rfl⟩ | ⟨_, rfl⟩ | ⟨_, rfl⟩ | ⟨_, rfl⟩ | ⟨_, rfl⟩ | ⟨_, rfl⟩ | ⟨_, rfl⟩ | ⟨_, rfl⟩ <;> exact ⟨by decide, by decide⟩
theorem lrow_of_eq {l : Str} (hz : l.length ≤ 100000) : f_lrow_of [.str l] = .ok ((match rowL (Txt.split l (Str.ofString " ")) with | some r => enA r | none => .non), []) := by
  refine mFn_ok ?_
  have hs := split_sp hz (Str.ofString " ") rfl
  have hp := PyProof.Rows.split_pos l (Str.ofString " ")
  have hle := PyProof.Rows.split_le l (Str.ofString " ")
  have hsh : ∀ a ∈ Txt.split l (Str.ofString " "), a.length ≤ l.length := fun a h => PyProof.Rows.part_short h
  generalize Txt.split l (Str.ofString " ") = W at *
  cases W with
  | nil => simp at hp
  | cons w ws =>
    rw [List.length_cons] at hle
    have z1 : szOk (ws.length + 1) = true := szOk_small (by omega)
    have ti := ten_in w
    have gd := getD2_eq w (ws.map MV.str) (.str l)
    have hg : mDget2 (mDict [.inr "put", .inr "look", .inr "mark", .inr "left", .inr "right"] (mCons (mLst (mCons (mC (.int 256)) (mCons (mC (.int 256)) (mNil)))) (mCons (mLst (mCons (mC (.int 256)) (mCons (mC (.int 16)) (mNil)))) (mCons (mLst (mCons (mC (.int 2)) (mNil))) (mCons (mLst (mCons (mC (.int 256)) (mNil))) (mCons (mLst (mCons (mC (.int 256)) (mNil))) (mNil))))))) (mOp fIx (mVar 1) (mC (.int 0))) (mLst (mCons (mC (.int 256)) (mCons (mC (.int 256)) (mNil)))) = getD2 := rfl
    have htM : ∀ ρ : Env, mTup (mCons (mC (.str "put")) (mCons (mC (.str "copy")) (mCons (mC (.str "add")) (mCons (mC (.str "addc")) (mCons (mC (.str "and")) (mCons (mC (.str "or")) (mCons (mC (.str "left")) (mCons (mC (.str "right")) (mCons (mC (.str "look")) (mCons (mC (.str "mark")) (mNil))))))))))) ρ = .ok (.tup tenM, ρ) := fun ρ => rfl
    unfold m_lrow_of
    rw [hg]
    generalize htT : mTup (mCons (mC (.str "put")) (mCons (mC (.str "copy")) (mCons (mC (.str "add")) (mCons (mC (.str "addc")) (mCons (mC (.str "and")) (mCons (mC (.str "or")) (mCons (mC (.str "left")) (mCons (mC (.str "right")) (mCons (mC (.str "look")) (mCons (mC (.str "mark")) (mNil))))))))))) = TT at *
    clear htT hg
    generalize getD2 = GD at *
    generalize hTM : MV.tup tenM = TM at *
    have ro : rowL (w :: ws) = if decide (ws.length ≤ 2) && rowOk 256 16 w (ws.map numI) then some (w, ws.map numI) else none := rfl
    cases hk : kindsT.lookup w with
    | none =>
      rw [hk] at ti
      have : rowL (w :: ws) = none := by
        rw [ro]
        unfold rowOk
        rw [hk]; simp
      rw [this]
      simp at ti
      simp [smE_ok hs, gd, htM, ti]
    | some ks =>
      rw [hk] at ti
      simp at ti
      obtain ⟨k2, kL⟩ := kinds_two hk
      have hb : bndsL w = ks.map (bndOf 256 16) := by unfold bndsL; rw [hk]
      rw [hb] at gd
      have c1 : cutM (MV.str w :: ws.map MV.str) none (some 1) = [.str w] := by rw [cutM_to (by decide)]; rfl
      have c2 : cutM (MV.str w :: ws.map MV.str) (some 1) none = ws.map MV.str := by rw [cutM_from (by decide)]; rfl
      have lc := mLcO_nm (it := mItV (mSl (mVar 1) (mPart (mC (.int 1))) mNo)) (e := mFz (mCall0 f_lnumber2 (mCons (mVar 4) mNil))) (v := 4) (ρ := [some (.str l), some (.lst (MV.str w :: ws.map MV.str)), some (.lst ((ks.map (bndOf 256 16)).map .int)), none, none, none, none]) (xs := ws.map MV.str)
        (fun z => match z with | .str s => numM s | _ => .non) (by simp [c2]) rfl (by
          intro x hx
          obtain ⟨s, hs2, rfl⟩ := List.mem_map.mp hx
          have := lnumber2_eq (w := s) (by have := hsh s (List.mem_cons_of_mem _ hs2); omega)
          have fn : fz (numM s) = some (numM s) := by unfold numM; split <;> rfl
          have this : f_lnumber2 [.str s] = .ok (numM s, []) := this
          simp [this, fn]) (by rw [List.length_map, sizeLine_eq]; omega)
      have em : (ws.map MV.str).map (fun z => match z with | .str s => numM s | _ => .non) = ws.map numM := by rw [List.map_map]; rfl
      rw [em] at lc
      have ni := none_in ws
      have bl : ((ks.map (bndOf 256 16)).map MV.int).length = ks.length := by simp
      have nl : (ws.map numM).length = ws.length := by simp
      by_cases hl : ws.length = ks.length
      · have rs := rowOk_split hk kL ws ks kL hl
        have ro2 : rowOk 256 16 w (ws.map numI) = ((ws.map numI).zip ks).all (inB 256 16) := by
          rw [rowOk_of hk, List.length_map, decide_eq_true hl]; simp
        rw [ro2, rs] at ro
        rw [decide_eq_true (show ws.length ≤ 2 by omega), Bool.true_and] at ro
        cases ha : (ws.any fun w => decide (numT w = none)) with
        | true =>
          rw [ha] at ni ro
          have : rowL (w :: ws) = none := by rw [ro]; simp
          rw [this]
          generalize (ks.map (bndOf 256 16)).map MV.int = BI at *
          generalize ws.map numM = NM at *
          simp [smE_ok hs, gd, htM, ti, lc, ni, hl, nl, bl]
        | false =>
          rw [ha] at ni ro
          have nm := numM_ints ha
          rw [nm] at lc ni nl
          have zi := zip_ints (ws.map numI) (ks.map (bndOf 256 16))
          have lz := mLcO_map (it := mZip (mCons (mVar 3) (mCons (mVar 2) mNil))) (g := .tp [5, 6]) (e := mOp fLt (mVar 5) (mVar 6)) (vs := [5, 6])
            (ρ := [some (.str l), some (.lst (MV.str w :: ws.map MV.str)), some (.lst ((ks.map (bndOf 256 16)).map .int)), some (.lst ((ws.map numI).map .int)), none, none, none])
            (ρ1 := [some (.str l), some (.lst (MV.str w :: ws.map MV.str)), some (.lst ((ks.map (bndOf 256 16)).map .int)), some (.lst ((ws.map numI).map .int)), none, none, none])
            (xs := ((ws.map numI).zip (ks.map (bndOf 256 16))).map fun p => .tup [.int p.1, .int p.2]) (fun z => match z with | .tup [.int a, .int b] => .bl (decide (a < b)) | _ => .non) (by simp [-List.map_map, zi]) (by simp [perAt]) (by
              intro z hz2
              obtain ⟨p, hp2, rfl⟩ := List.mem_map.mp hz2
              refine ⟨_, rfl, ?_, by simp [wipeM], by simp [wipeM]⟩
              simp [wipeM]) (by rw [sizeLine_eq, List.length_map, List.length_zip, List.length_map]; omega)
          have e2 : (((ws.map numI).zip (ks.map (bndOf 256 16))).map (fun p : Int × Int => MV.tup [.int p.1, .int p.2])).map (fun z : MV => match z with | .tup [.int a, .int b] => MV.bl (decide (a < b)) | _ => .non) = ((ws.map numI).zip (ks.map (bndOf 256 16))).map fun p => MV.bl (decide (p.1 < p.2)) := by rw [List.map_map]; rfl
          rw [e2] at lz
          have ba := ball_map (fun p : Int × Int => decide (p.1 < p.2)) ((ws.map numI).zip (ks.map (bndOf 256 16)))
          have eA : enA (w, ws.map numI) = .tup (.str w :: (ws.map numI).map MV.int) := rfl
          have z2 : szOk (1 + ks.length) = true := szOk_small (by omega)
          generalize (ks.map (bndOf 256 16)).map MV.int = BI at *
          generalize ((ws.map numI).zip (ks.map (bndOf 256 16))).map (fun p => MV.bl (decide (p.1 < p.2))) = ZB at *
          generalize ((ws.map numI).zip (ks.map (bndOf 256 16))).all (fun p => decide (p.1 < p.2)) = AB at *
          generalize (ws.map numI).map MV.int = NI at *
          generalize ws.map numI = NS at *
          cases AB with
          | true =>
            have : rowL (w :: ws) = some (w, NS) := by rw [ro]; simp
            rw [this]
            simp [smE_ok hs, gd, htM, ti, lc, ni, hl, nl, bl, lz, ba, c1, z2, eA]
          | false =>
            have : rowL (w :: ws) = none := by rw [ro]; simp
            rw [this]
            simp [smE_ok hs, gd, htM, ti, lc, ni, hl, nl, bl, lz, ba]
      · have hl2 : ¬ ((ws.length : Int) = ks.length) := by omega
        have : rowL (w :: ws) = none := by
          rw [ro, rowOk_of hk, List.length_map, decide_eq_false hl]; simp
        rw [this]
        generalize (ks.map (bndOf 256 16)).map MV.int = BI at *
        generalize ws.map numM = NM at *
        simp [smE_ok hs, gd, htM, ti, lc, hl, hl2, nl, bl]
section
variable {g : MG} {b : MS} {x v : MV} {xs : List MV} {ρ ρ1 ρ2 : Env} {e : MX}
theorem loop_c_nx (hg : g x ρ = some ρ1) (hb : b ρ1 = .ok (.nx, ρ2)) : mLoop g b (x :: xs) ρ = mLoop g b xs ρ2 := by
  conv => lhs; unfold mLoop
  rw [hg]; simp only [hb, bind_ok]
theorem loop_c_exc (hg : g x ρ = some ρ1) (hb : b ρ1 = .exc e ρ2) : mLoop g b (x :: xs) ρ = .exc e ρ2 := by
  unfold mLoop; rw [hg]; simp only [hb, bind_exc]
theorem loop_c_rt (hg : g x ρ = some ρ1) (hb : b ρ1 = .ok (.rt v, ρ2)) : mLoop g b (x :: xs) ρ = .ok (.rt v, ρ2) := by
  unfold mLoop; rw [hg]; simp only [hb, bind_ok]
end
inductive Rd where
  | bad (j : Nat)
  | got (rs : List (Str × List Int))
def goT : Nat → List Str → List (Str × List Int) → Rd
  | _, [], acc => .got acc
  | k, l :: ls, acc => if k = 200 then .bad k else match rowL (Txt.split l (Str.ofString " ")) with
    | none => .bad k
    | some r => goT (k + 1) ls (acc ++ [r])
theorem prows_loop (T : Str) : ∀ (ls : List Str) (k : Nat) (acc : List (Str × List Int)) (x2 x3 : Option MV), (∀ l ∈ ls, l.length ≤ 100000) → k ≤ 200 → acc.length ≤ k →
    match goT k ls acc with
    | .bad j => ∃ ρ, mLoop (gTp 2 (gsCons (gSet 2) (gsCons (gSet 3) gsNil))) b_prows_told_0 (enumFrom k (ls.map .str)) [some (.str T), some (.own (acc.map enA)), x2, x3] = .exc ⟨"BadLine", [("at", .int (j : Nat))]⟩ ρ
    | .got rs => ∃ y2 y3, mLoop (gTp 2 (gsCons (gSet 2) (gsCons (gSet 3) gsNil))) b_prows_told_0 (enumFrom k (ls.map .str)) [some (.str T), some (.own (acc.map enA)), x2, x3] = .ok (.nx, [some (.str T), some (.own (rs.map enA)), y2, y3])
  | [], k, acc, x2, x3, _, _, _ => ⟨x2, x3, rfl⟩
  | l :: ls, k, acc, x2, x3, hl, hk, ha => by
    have pr := prow_told_eq k (hl l (List.mem_cons_self ..))
    have ih := fun r => prows_loop T ls (k + 1) (acc ++ [r]) (some (.int (k : Nat))) (some (.str l)) (fun z hz => hl z (List.mem_cons_of_mem _ hz))
    show (match goT k (l :: ls) acc with | .bad j => _ | .got rs => _)
    unfold goT
    have hg : gTp 2 (gsCons (gSet 2) (gsCons (gSet 3) gsNil)) (.tup [.int (k : Nat), .str l]) [some (.str T), some (.own (acc.map enA)), x2, x3] = some [some (.str T), some (.own (acc.map enA)), some (.int (k : Nat)), some (.str l)] := rfl
    by_cases k2 : k = 200
    · subst k2
      rw [if_pos rfl]
      refine ⟨[some (.str T), some (.own (acc.map enA)), some (.int (200 : Nat)), some (.str l)], loop_c_exc hg ?_⟩
      simp [b_prows_told_0]
    · rw [if_neg k2]
      have k3 : ¬ (k : Int) = 200 := by omega
      have so : acc.length < sizeLine := by rw [sizeLine_eq]; omega
      cases hr : rowL (Txt.split l (Str.ofString " ")) with
      | none =>
        rw [hr] at pr
        refine ⟨[some (.str T), some (.own (acc.map enA)), some (.int (k : Nat)), some (.str l)], loop_c_exc hg ?_⟩
        simp [b_prows_told_0, k3, pr]
      | some r =>
        rw [hr] at pr
        have := ih r (by omega) (by simp; omega)
        have st : b_prows_told_0 [some (.str T), some (.own (acc.map enA)), some (.int (k : Nat)), some (.str l)] = .ok (.nx, [some (.str T), some (.own ((acc ++ [r]).map enA)), some (.int (k : Nat)), some (.str l)]) := by
          have fe : fz (enA r) = some (enA r) := rfl
          have pr : f_prow_told [.int (k : Nat), .str l] = .ok (enA r, []) := pr
          rw [List.map_append, List.map_singleton]
          have hal : (acc.map enA).length = acc.length := by simp
          generalize acc.map enA = A at *
          generalize enA r = R at *
          simp [b_prows_told_0, k3, pr, fe, hal, so]
        have e := loop_c_nx (xs := enumFrom (k + 1) (ls.map MV.str)) hg st
        show (match goT (k + 1) ls (acc ++ [r]) with | .bad j => _ | .got rs => _)
        cases hgo : goT (k + 1) ls (acc ++ [r]) with
        | bad j =>
          rw [hgo] at this
          obtain ⟨ρ, h⟩ := this
          exact ⟨ρ, e.trans h⟩
        | got rs =>
          rw [hgo] at this
          obtain ⟨y2, y3, h⟩ := this
          exact ⟨y2, y3, e.trans h⟩
def readT (T : Str) : Rd := if T = Str.ofString "" then .got [] else goT 0 (Txt.split T (Str.ofString "\n")) []
theorem prows_told_eq {T : Str} (hz : T.length ≤ 100000) : f_prows_told [.str T] = match readT T with | .bad j => .exc ⟨"BadLine", [("at", .int (j : Nat))]⟩ [] | .got rs => .ok (.tup (rs.map enA), []) := by
  unfold readT
  by_cases h0 : T = Str.ofString ""
  · rw [if_pos h0]
    subst h0
    exact mFn_ok ⟨_, by simp [m_prows_told, szOk_small]; rfl⟩
  · rw [if_neg h0]
    have hs := split_sp hz (Str.ofString "\n") rfl
    have hsh : ∀ a ∈ Txt.split T (Str.ofString "\n"), a.length ≤ 100000 := fun a h => Nat.le_trans (PyProof.Rows.part_short h) hz
    have lp := prows_loop T (Txt.split T (Str.ofString "\n")) 0 [] none none hsh (by omega) (by simp)
    rw [List.map_nil] at lp
    generalize hL : Txt.split T (Str.ofString "\n") = L at *
    cases hgo : goT 0 L [] with
    | bad j =>
      rw [hgo] at lp
      obtain ⟨ρ, lp⟩ := lp
      refine mFn_exc ⟨ρ, ?_⟩
      simp [m_prows_told, h0, smE_ok hs, lp, szOk_small]
    | got rs =>
      rw [hgo] at lp
      obtain ⟨y2, y3, lp⟩ := lp
      exact mFn_ok ⟨[some (.str T), some (.lst (rs.map enA)), y2, y3], by simp [m_prows_told, h0, smE_ok hs, lp, szOk_small]⟩
theorem ldue4_loop (T : Str) (hT : ¬ T = Str.ofString "") : ∀ (ls : List Str) (k : Nat) (acc : List (Str × List Int)) (x2 x3 x4 : Option MV), (∀ l ∈ ls, l.length ≤ 100000) → k ≤ 200 → acc.length ≤ k →
    match goT k ls acc with
    | .bad j => ∃ ρ, mLoop (gTp 2 (gsCons (gSet 2) (gsCons (gSet 3) gsNil))) b_ldue4_0 (enumFrom k (ls.map .str)) [some (.str T), some (.own (acc.map enA)), x2, x3, x4] = .ok (.rt (.tup [.str "BadLine", .int (j : Nat)]), ρ)
    | .got rs => ∃ y2 y3 y4, mLoop (gTp 2 (gsCons (gSet 2) (gsCons (gSet 3) gsNil))) b_ldue4_0 (enumFrom k (ls.map .str)) [some (.str T), some (.own (acc.map enA)), x2, x3, x4] = .ok (.nx, [some (.str T), some (.own (rs.map enA)), y2, y3, y4])
  | [], k, acc, x2, x3, x4, _, _, _ => ⟨x2, x3, x4, rfl⟩
  | l :: ls, k, acc, x2, x3, x4, hl, hk, ha => by
    have pr := lrow_of_eq (hl l (List.mem_cons_self ..))
    have ih := fun r x4 => ldue4_loop T hT ls (k + 1) (acc ++ [r]) (some (.int (k : Nat))) (some (.str l)) x4 (fun z hz => hl z (List.mem_cons_of_mem _ hz))
    show (match goT k (l :: ls) acc with | .bad j => _ | .got rs => _)
    unfold goT
    have hg : gTp 2 (gsCons (gSet 2) (gsCons (gSet 3) gsNil)) (.tup [.int (k : Nat), .str l]) [some (.str T), some (.own (acc.map enA)), x2, x3, x4] = some [some (.str T), some (.own (acc.map enA)), some (.int (k : Nat)), some (.str l), x4] := rfl
    have fz2 : ∀ r, fz (enA r) = some (enA r) := fun r => rfl
    have fn : ∀ r, fIsN (enA r) .non = some (.bl false) := fun r => rfl
    by_cases k2 : k = 200
    · subst k2
      rw [if_pos rfl]
      cases hr : rowL (Txt.split l (Str.ofString " ")) with
      | none =>
        rw [hr] at pr
        refine ⟨[some (.str T), some (.own (acc.map enA)), some (.int (200 : Nat)), some (.str l), some .non], loop_c_rt hg ?_⟩
        simp [b_ldue4_0, hT, pr, szOk_small]
      | some r =>
        rw [hr] at pr
        refine ⟨[some (.str T), some (.own (acc.map enA)), some (.int (200 : Nat)), some (.str l), some (enA r)], loop_c_rt hg ?_⟩
        have pr : f_lrow_of [.str l] = .ok (enA r, []) := pr
        obtain ⟨R', hR⟩ : ∃ R', enA r = .tup R' := ⟨_, rfl⟩
        rw [hR] at pr
        rw [hR]
        simp [b_ldue4_0, hT, pr, szOk_small]
    · rw [if_neg k2]
      have k3 : ¬ (k : Int) = 200 := by omega
      have so : acc.length < sizeLine := by rw [sizeLine_eq]; omega
      cases hr : rowL (Txt.split l (Str.ofString " ")) with
      | none =>
        rw [hr] at pr
        refine ⟨[some (.str T), some (.own (acc.map enA)), some (.int (k : Nat)), some (.str l), some .non], loop_c_rt hg ?_⟩
        simp [b_ldue4_0, hT, k3, pr, szOk_small]
      | some r =>
        rw [hr] at pr
        have := ih r (some (enA r)) (by omega) (by simp; omega)
        have st : b_ldue4_0 [some (.str T), some (.own (acc.map enA)), some (.int (k : Nat)), some (.str l), x4] = .ok (.nx, [some (.str T), some (.own ((acc ++ [r]).map enA)), some (.int (k : Nat)), some (.str l), some (enA r)]) := by
          rw [List.map_append, List.map_singleton]
          have hal : (acc.map enA).length = acc.length := by simp
          generalize acc.map enA = A at *
          have pr : f_lrow_of [.str l] = .ok (enA r, []) := pr
          obtain ⟨R', hR⟩ : ∃ R', enA r = .tup R' := ⟨_, rfl⟩
          rw [hR] at pr
          rw [hR]
          simp [b_ldue4_0, hT, k3, pr, hal, so]
        have e := loop_c_nx (xs := enumFrom (k + 1) (ls.map MV.str)) hg st
        show (match goT (k + 1) ls (acc ++ [r]) with | .bad j => _ | .got rs => _)
        cases hgo : goT (k + 1) ls (acc ++ [r]) with
        | bad j =>
          rw [hgo] at this
          obtain ⟨ρ, h⟩ := this
          exact ⟨ρ, e.trans h⟩
        | got rs =>
          rw [hgo] at this
          obtain ⟨y2, y3, y4, h⟩ := this
          exact ⟨y2, y3, y4, e.trans h⟩
theorem split_no : Txt.split (Str.ofString "") (Str.ofString "\n") = [Str.ofString ""] := rfl
theorem ldue4_eq {T : Str} (hz : T.length ≤ 100000) : f_ldue4 [.str T] = .ok ((match readT T with | .bad j => .tup [.str "BadLine", .int (j : Nat)] | .got rs => .tup [.str "told", .tup (rs.map enA)]), []) := by
  unfold readT
  have hs := split_sp hz (Str.ofString "\n") rfl
  by_cases h0 : T = Str.ofString ""
  · rw [if_pos h0]
    subst h0
    rw [split_no] at hs
    have pr := lrow_of_eq (l := Str.ofString "") (by decide)
    refine mFn_ok ?_
    obtain ⟨X, hX, hf, hn⟩ : ∃ X : MV, f_lrow_of [.str (Str.ofString "")] = .ok (X, []) ∧ fz X = some X ∧ ∃ b, fIsN X .non = some (.bl b) := by
      refine ⟨_, pr, ?_⟩
      split
      · exact ⟨rfl, _, rfl⟩
      · exact ⟨rfl, _, rfl⟩
    obtain ⟨b, hb⟩ := hn
    simp [m_ldue4, b_ldue4_0, smE_ok hs, enumFrom, mLoop, hX, hf, szOk_small]
  · rw [if_neg h0]
    have hsh : ∀ a ∈ Txt.split T (Str.ofString "\n"), a.length ≤ 100000 := fun a h => Nat.le_trans (PyProof.Rows.part_short h) hz
    have lp := ldue4_loop T h0 (Txt.split T (Str.ofString "\n")) 0 [] none none none hsh (by omega) (by simp)
    rw [List.map_nil] at lp
    generalize hL : Txt.split T (Str.ofString "\n") = L at *
    refine mFn_ok ?_
    cases hgo : goT 0 L [] with
    | bad j =>
      rw [hgo] at lp
      obtain ⟨ρ, lp⟩ := lp
      exact ⟨ρ, by simp [m_ldue4, smE_ok hs, lp, szOk_small]⟩
    | got rs =>
      rw [hgo] at lp
      obtain ⟨y2, y3, y4, lp⟩ := lp
      exact ⟨[some (.str T), some (.lst (rs.map enA)), y2, y3, y4], by simp [m_ldue4, smE_ok hs, lp, szOk_small]⟩
theorem txt_join (z : Str) (ss : List Str) : Txt.join z ss = Str.join z ss := by
  show Builtin.Str.glued z ss = _
  rw [StrLaws.glued_eq_join]
theorem join_len (z a : Str) (ss : List Str) : (Txt.join z (a :: ss)).length = ((a :: ss).map (·.length)).sum + ss.length * z.length := by
  rw [txt_join, PyProof.Rows.len_join_cons]
theorem join_ok {z : Str} {ss : List Str} (h : (ss.map (·.length)).sum + ss.length * z.length ≤ 16777216) : smJoin z [.lst (ss.map MV.str)] = some (.str (Txt.join z ss)) := by
  show (strsOf (ss.map MV.str)).bind (joinM z) = _
  rw [strsOf_map]
  exact if_pos (decide_eq_true h)
theorem sum_le {n : Nat} : ∀ {ss : List Str}, (∀ s ∈ ss, s.length ≤ n) → (ss.map (·.length)).sum ≤ ss.length * n
  | [], _ => by simp
  | s :: ss, h => by
    have ih := sum_le (ss := ss) fun x hx => h x (List.mem_cons_of_mem _ hx)
    have := h s (List.mem_cons_self ..)
    rw [List.map_cons, List.sum_cons, List.length_cons, Nat.succ_mul]
    omega
theorem join_le {n : Nat} (z : Str) {ss : List Str} (h : ∀ s ∈ ss, s.length ≤ n) : (Txt.join z ss).length ≤ ss.length * (n + z.length) := by
  cases ss with
  | nil => show (Str.join z []).length ≤ _; exact Nat.zero_le _
  | cons a l =>
    rw [join_len, Nat.mul_add]
    have := sum_le h
    have h2 : l.length * z.length ≤ (a :: l).length * z.length := Nat.mul_le_mul_right _ (by simp)
    omega
theorem join_ok2 {n : Nat} (z : Str) {ss : List Str} (h : ∀ s ∈ ss, s.length ≤ n) (hn : n ≤ 1000) (hz : z.length ≤ 1) (hl : ss.length ≤ 10000) : smJoin z [.lst (ss.map MV.str)] = some (.str (Txt.join z ss)) := by
  refine join_ok ?_
  have h1 := sum_le h
  have h2 : ss.length * n ≤ 10000 * 1000 := Nat.mul_le_mul hl hn
  have h3 : ss.length * z.length ≤ 10000 * 1 := Nat.mul_le_mul hl hz
  omega
def nTx (n : Int) : Str := Str.ofString (toString n)
theorem nTx_len {n : Int} (h : 0 ≤ n ∧ n < 1000) : (nTx n).length ≤ 3 := by
  obtain ⟨k, rfl⟩ := Int.eq_ofNat_of_zero_le h.1
  unfold nTx
  rw [str_dec, dtx_len, digsB_len]
  exact nd_le (by omega) (by decide)
def lineT (r : Str × List Int) : Str := Txt.join (Str.ofString " ") (r.1 :: r.2.map nTx)
def Sml (r : Str × List Int) : Prop := r.1.length ≤ 5 ∧ r.2.length ≤ 2 ∧ ∀ x ∈ r.2, 0 ≤ x ∧ x < 1000
theorem sml_words {r : Str × List Int} (h : Sml r) : ∀ s ∈ r.1 :: r.2.map nTx, s.length ≤ 5 := by
  intro s hs
  rcases List.mem_cons.mp hs with rfl | hs
  · exact h.1
  · obtain ⟨x, hx, rfl⟩ := List.mem_map.mp hs
    have := nTx_len (h.2.2 x hx)
    omega
theorem lineT_len {r : Str × List Int} (h : Sml r) : (lineT r).length ≤ 18 := by
  have := join_le (Str.ofString " ") (sml_words h)
  unfold lineT
  have e : (Str.ofString " ").length = 1 := rfl
  rw [e, List.length_cons, List.length_map] at this
  have := h.2.1
  omega
theorem word4 {w : Str} {xs : List Int} (h : w.length ≤ 5) : (w, xs).fst.length ≤ 5 := h
theorem rowOk_sml {N nt : Int} {w : Str} {xs : List Int} (h : rowOk N nt w xs = true) (hN : N ≤ 1000) (ht : nt ≤ 1000) : Sml (w, xs) := by
  unfold rowOk at h
  cases hk : kindsT.lookup w with
  | none => rw [hk] at h; cases h
  | some ks =>
    rw [hk] at h
    simp only [Bool.and_eq_true, decide_eq_true_eq, List.all_eq_true] at h
    obtain ⟨k2, kL⟩ := kinds_two hk
    refine ⟨?_, by rw [h.1]; exact k2, ?_⟩
    · have hm := lookup_mem' hk
      simp only [kindsT, List.mem_cons, List.not_mem_nil, or_false, Prod.mk.injEq] at hm
      rcases hm with ⟨rfl, _⟩ | ⟨rfl, _⟩ | ⟨rfl, _⟩ | ⟨rfl, _⟩ | ⟨rfl, _⟩ | ⟨rfl, _⟩ | ⟨rfl, _⟩ | ⟨rfl, _⟩ | ⟨rfl, _⟩ | ⟨rfl, _⟩ <;> exact word4 (by decide +kernel)
    · intro x hx
      obtain ⟨i, hi, rfl⟩ := List.mem_iff_getElem.mp hx
      have hi : i < xs.length := hi
      have hi2 : i < ks.length := by omega
      have := h.2 (xs[i], ks[i]) (List.mem_iff_getElem.mpr ⟨i, by rw [List.length_zip]; omega, by rw [List.getElem_zip]⟩)
      unfold inB at this
      simp only [Bool.and_eq_true, decide_eq_true_eq] at this
      refine ⟨this.1, Int.lt_of_lt_of_le this.2 ?_⟩
      unfold bndOf
      split
      · exact hN
      · split
        · decide
        · split
          · exact ht
          · decide
theorem ints_items (xs : List Int) : (xs.map MV.int).map (fun z => match z with | .int n => MV.str (nTx n) | _ => .non) = (xs.map nTx).map MV.str := by rw [List.map_map, List.map_map]; rfl
theorem bStr_small {n : Int} (h : 0 ≤ n ∧ n < 1000) : bStr [.int n] = some (.str (nTx n)) := if_pos (decide_eq_true (log2_small (by omega)))
theorem lline_eq {r : Str × List Int} (h : Sml r) : f_lline [enA r] = .ok (.str (lineT r), []) := by
  obtain ⟨w, xs⟩ := r
  refine mFn_ok ?_
  have c1 : cutM (MV.str w :: xs.map MV.int) (some 1) none = xs.map MV.int := by rw [cutM_from (by decide)]; rfl
  have lc := mLcO_nm (it := mItV (mSl (mVar 0) (mPart (mC (.int 1))) mNo)) (e := mBlt bStr (mCons (mVar 1) mNil)) (v := 1) (ρ := [some (.tup (MV.str w :: xs.map MV.int)), none]) (xs := xs.map MV.int)
    (fun z => match z with | .int n => .str (nTx n) | _ => .non) (by simp [c1]) rfl (by
      intro x hx
      obtain ⟨n, hn, rfl⟩ := List.mem_map.mp hx
      simp [bStr_small (h.2.2 n hn)]) (by rw [List.length_map, sizeLine_eq]; have : xs.length ≤ 2 := h.2.1; omega)
  rw [ints_items] at lc
  have jo := join_ok2 (Str.ofString " ") (sml_words h) (by decide) (by decide) (by have : xs.length ≤ 2 := h.2.1; simp; omega)
  have jo : smJoin (Str.ofString " ") [.lst (MV.str w :: (xs.map nTx).map MV.str)] = some (.str (lineT (w, xs))) := jo
  have z2 : szOk (1 + ((xs.map nTx).map MV.str).length) = true := szOk_small (by have : xs.length ≤ 2 := h.2.1; simp; omega)
  unfold enA
  generalize (xs.map nTx).map MV.str = NT at *
  show ∃ ρ, m_lline [some (.tup (MV.str w :: xs.map MV.int)), none] = _
  generalize xs.map MV.int = XI at *
  have z2' : szOk (1 + NT.length) = true := z2
  simp [m_lline, lc, z2', smE_ok jo, szOk_small]
def textT (rs : List (Str × List Int)) : Str := Txt.join (Str.ofString "\n") (rs.map lineT)
theorem textT_len {rs : List (Str × List Int)} (h : ∀ r ∈ rs, Sml r) : (textT rs).length ≤ rs.length * 19 := by
  have := join_le (Str.ofString "\n") (n := 18) (ss := rs.map lineT) (fun s hs => by
    obtain ⟨r, hr, rfl⟩ := List.mem_map.mp hs
    exact lineT_len (h r hr))
  have e : (Str.ofString "\n").length = 1 := rfl
  rw [e, List.length_map] at this
  exact this
theorem textT_ok {rs : List (Str × List Int)} (h : ∀ r ∈ rs, Sml r) (hl : rs.length ≤ 10000) : smJoin (Str.ofString "\n") [.lst (rs.map fun r => .str (lineT r))] = some (.str (textT rs)) := by
  have := join_ok2 (Str.ofString "\n") (n := 18) (ss := rs.map lineT) (fun s hs => by
    obtain ⟨r, hr, rfl⟩ := List.mem_map.mp hs
    exact lineT_len (h r hr)) (by decide) (by decide) (by rw [List.length_map]; exact hl)
  rw [List.map_map] at this
  exact this
theorem mLcO_it {α : Type} {it : MI} {e : ME} {v : Nat} {ρ : Env} {l : List α} (item y : α → MV) (hi : it ρ = .ok (l.map item, ρ)) (hv : ρ[v]? = some none) (he : ∀ a ∈ l, e (ρ.set v (some (item a))) = .ok (y a, ρ.set v (some (item a)))) (hz : l.length ≤ sizeLine) :
    mLcO it (.nm v) mYes e [v] ρ = .ok (.own (l.map y), ρ) := by
  have := mLcO_nm (it := it) (e := e) (v := v) (ρ := ρ) (xs := l.map item) (fun z => match e (ρ.set v (some z)) with | .ok (r, _) => r | _ => .non) hi hv (fun x hx => by
    obtain ⟨a, ha, rfl⟩ := List.mem_map.mp hx
    rw [he a ha]) (by rw [List.length_map]; exact hz)
  rw [this, List.map_map]
  congr 3
  refine List.map_congr_left fun a ha => ?_
  show (match e (ρ.set v (some (item a))) with | .ok (r, _) => r | _ => .non) = y a
  rw [he a ha]
theorem lines_lc {v : Nat} {a : ME} {ρ : Env} {rs : List (Str × List Int)} (ha : mItV a ρ = .ok (rs.map enA, ρ)) (hv : ρ[v]? = some none) (h : ∀ r ∈ rs, Sml r) (hl : rs.length ≤ 10000) :
    mLcO (mItV a) (.nm v) mYes (mFz (mCall0 f_lline (mCons (mVar v) mNil))) [v] ρ = .ok (.own (rs.map fun r => .str (lineT r)), ρ) := by
  have hlt : v < ρ.length := lt_get hv
  refine mLcO_it enA (fun r => .str (lineT r)) ha hv (fun r hr => ?_) (by rw [sizeLine_eq]; omega)
  have e1 : mVar v (ρ.set v (some (enA r))) = .ok (enA r, ρ.set v (some (enA r))) := by
    unfold mVar
    rw [List.getElem?_set_self hlt]
    rfl
  simp only [mFz, mCall0, mCons, e1, bind_ok, mNil, lline_eq (h r hr), fz_str]
theorem lspoilt3_ok {T : Str} (hT : T.length ≤ 50000) {a b c d e : Int} (ha : 0 ≤ a) (hc : 0 ≤ c) (he : 0 ≤ e ∧ e < 2) :
    ∃ z : Str, z.length ≤ T.length * 2 + 1 ∧ f_lspoilt3 [.str T, .lst [.int a, .int b, .int c, .int d, .int e]] = .ok (.str z, []) := by
  obtain ⟨n, hn⟩ : ∃ n, T.length = n := ⟨_, rfl⟩
  have tz : szOk n = true := szOk_small (by omega)
  obtain ⟨S, hS⟩ : ∃ S : Str, Str.ofString " !\"#$&'()*+,-./0123456789:;<=>?@ABCDEFGHIJKLMNOPQRSTUVWXYZ[\\]^_`abcdefghijklmnopqrstuvwxyz{|}~" = S := ⟨_, rfl⟩
  obtain ⟨S2, hS2⟩ : ∃ S : Str, Str.ofString " \n0123456789amdcoptulkrihgefn" = S := ⟨_, rfl⟩
  have sl : S.cps.toList.length = S.length ∧ 1 ≤ S.length ∧ S.length ≤ 1000 := by rw [← hS]; decide +kernel
  have sl2 : S2.cps.toList.length = S2.length ∧ 1 ≤ S2.length ∧ S2.length ≤ 1000 := by rw [← hS2]; decide +kernel
  have cut := fun lo hi => @len_cut T lo hi
  -- the place
  obtain ⟨p, hp⟩ : ∃ p : Int, atI [MV.int (a.fmod ((n : Int) + 1)), .int ((n : Int) - a.fmod ((if (8 : Int) < n then (8 : Int) else (n : Int)) + 1))] e = some (.int p) := by
    rcases (show e = 0 ∨ e = 1 by omega) with rfl | rfl
    · exact ⟨_, rfl⟩
    · exact ⟨_, rfl⟩
  have n1 : ¬ ((n : Int) + 1 = 0) := by omega
  have n2 : ¬ ((if (8 : Int) < n then 8 else (n : Int)) + 1 = 0) := by split <;> omega
  have nS : ¬ (S.length = 0) := by omega
  have nS2 : ¬ (S2.length = 0) := by omega
  obtain ⟨x1, hx1, ex1⟩ := at_some (xs := S.cps.toList) (i := c.fmod (S.length : Int)) (fmod_ge' (by omega)) (by rw [sl.1]; exact fmod_lt' (by omega))
  obtain ⟨x2, hx2, ex2⟩ := at_some (xs := S2.cps.toList) (i := c.fmod (S2.length : Int)) (fmod_ge' (by omega)) (by rw [sl2.1]; exact fmod_lt' (by omega))
  have zS : szOk S.length = true := szOk_small (by omega)
  have zS2 : szOk S2.length = true := szOk_small (by omega)
  have c1 : ∀ x, (⟨#[x]⟩ : Str).length = 1 := fun x => rfl
  rw [hn] at cut hT
  have a1 : ∀ lo hi : Option Int, szOk ((cutS T lo hi).length + 1) = true := fun lo hi => szOk_small (by have := cut lo hi; omega)
  have a2 : ∀ lo hi lo2 hi2 : Option Int, szOk ((cutS T lo hi).length + 1 + (cutS T lo2 hi2).length) = true := fun lo hi lo2 hi2 => szOk_small (by have := cut lo hi; have := cut lo2 hi2; omega)
  have a3 : ∀ lo hi lo2 hi2 : Option Int, szOk ((cutS T lo hi).length + (cutS T lo2 hi2).length) = true := fun lo hi lo2 hi2 => szOk_small (by have := cut lo hi; have := cut lo2 hi2; omega)
  obtain ⟨C1, hC1⟩ : ∃ C : Str, (⟨#[x1]⟩ : Str) = C := ⟨_, rfl⟩
  obtain ⟨C2, hC2⟩ : ∃ C : Str, (⟨#[x2]⟩ : Str) = C := ⟨_, rfl⟩
  have l1 : C1.length = 1 := by rw [← hC1]; rfl
  have l2 : C2.length = 1 := by rw [← hC2]; rfl
  have i1 : (atI S.cps.toList (c.fmod (S.length : Int))).map (fun c => MV.str ⟨#[c]⟩) = some (.str C1) := by rw [ex1, ← hC1]; rfl
  have i2 : (atI S2.cps.toList (c.fmod (S2.length : Int))).map (fun c => MV.str ⟨#[c]⟩) = some (.str C2) := by rw [ex2, ← hC2]; rfl
  have z5 : szOk 5 = true := szOk_small (by decide)
  have z2 : szOk 2 = true := szOk_small (by decide)
  by_cases b4 : b < 4 <;> by_cases d0 : d = 0
  · subst d0
    exact ⟨cutS T none (some p) ++ C2 ++ cutS T (some p) none, by have := cut none (some p); have := cut (some p) none; rw [len_app, len_app, l2]; omega, mFn_ok ⟨_, by simp [m_lspoilt3, hS, hS2, hn, tz, n1, n2, hp, nS, nS2, zS, zS2, i1, i2, l1, l2, b4, a1, a2, a3, len_app, z2]; rfl⟩⟩
  · by_cases d1 : d = 1
    · subst d1
      exact ⟨cutS T none (some p) ++ C2 ++ cutS T (some (p + 1)) none, by have := cut none (some p); have := cut (some (p + 1)) none; rw [len_app, len_app, l2]; omega, mFn_ok ⟨_, by simp [m_lspoilt3, hS, hS2, hn, tz, n1, n2, hp, nS, nS2, zS, zS2, i1, i2, l1, l2, b4, a1, a2, a3, len_app, z2]; rfl⟩⟩
    · exact ⟨cutS T none (some p) ++ cutS T (some (p + 1)) none, by have := cut none (some p); have := cut (some (p + 1)) none; rw [len_app]; omega, mFn_ok ⟨_, by simp [m_lspoilt3, hS, hS2, hn, tz, n1, n2, hp, nS, nS2, zS, zS2, i1, i2, l1, l2, b4, d0, d1, a1, a2, a3, len_app, z2]; rfl⟩⟩
  · subst d0
    exact ⟨cutS T none (some p) ++ C1 ++ cutS T (some p) none, by have := cut none (some p); have := cut (some p) none; rw [len_app, len_app, l1]; omega, mFn_ok ⟨_, by simp [m_lspoilt3, hS, hS2, hn, tz, n1, n2, hp, nS, nS2, zS, zS2, i1, i2, l1, l2, b4, a1, a2, a3, len_app, z2]; rfl⟩⟩
  · by_cases d1 : d = 1
    · subst d1
      exact ⟨cutS T none (some p) ++ C1 ++ cutS T (some (p + 1)) none, by have := cut none (some p); have := cut (some (p + 1)) none; rw [len_app, len_app, l1]; omega, mFn_ok ⟨_, by simp [m_lspoilt3, hS, hS2, hn, tz, n1, n2, hp, nS, nS2, zS, zS2, i1, i2, l1, l2, b4, a1, a2, a3, len_app, z2]; rfl⟩⟩
    · exact ⟨cutS T none (some p) ++ cutS T (some (p + 1)) none, by have := cut none (some p); have := cut (some (p + 1)) none; rw [len_app]; omega, mFn_ok ⟨_, by simp [m_lspoilt3, hS, hS2, hn, tz, n1, n2, hp, nS, nS2, zS, zS2, i1, i2, l1, l2, b4, d0, d1, a1, a2, a3, len_app, z2]; rfl⟩⟩
theorem rowOk_tok {N nt : Int} {w : Str} {xs : List Int} (h : rowOk N nt w xs = true) : tOk w := by
  unfold rowOk at h
  cases hk : kindsT.lookup w with
  | none => rw [hk] at h; cases h
  | some ks =>
    have hm := lookup_mem' hk
    simp only [kindsT, List.mem_cons, List.not_mem_nil, or_false, Prod.mk.injEq] at hm
    rcases hm with ⟨rfl, _⟩ | ⟨rfl, _⟩ | ⟨rfl, _⟩ | ⟨rfl, _⟩ | ⟨rfl, _⟩ | ⟨rfl, _⟩ | ⟨rfl, _⟩ | ⟨rfl, _⟩ | ⟨rfl, _⟩ | ⟨rfl, _⟩ <;> (unfold tOk; clear h hk; decide +kernel)
theorem goT_ok : ∀ (ls : List Str) (k : Nat) (acc rs : List (Str × List Int)), (∀ r ∈ acc, rowOk 256 16 r.1 r.2 = true) → goT k ls acc = .got rs → ∀ r ∈ rs, rowOk 256 16 r.1 r.2 = true
  | [], k, acc, rs, ha, h => by cases h; exact ha
  | l :: ls, k, acc, rs, ha, h => by
    unfold goT at h
    split at h
    · cases h
    · split at h
      · cases h
      · rename_i r hr
        refine goT_ok ls (k + 1) (acc ++ [r]) rs (fun z hz => ?_) h
        rcases List.mem_append.mp hz with hz | hz
        · exact ha z hz
        · rw [List.mem_singleton.mp hz]
          unfold rowL at hr
          split at hr
          · cases hr
          · split at hr
            · rename_i hc
              cases hr
              simp only [Bool.and_eq_true] at hc
              exact hc.2
            · cases hr
theorem readT_ok {T : Str} {rs : List (Str × List Int)} (h : readT T = .got rs) : ∀ r ∈ rs, rowOk 256 16 r.1 r.2 = true := by
  unfold readT at h
  split at h
  · cases h; intro r hr; cases hr
  · exact goT_ok _ _ _ _ (by intro r hr; cases hr) h
theorem okD_rows {rs : List (Str × List Int)} (h : ∀ r ∈ rs, rowOk 256 16 r.1 r.2 = true) : okD 20 (.tup (rs.map enA)) = true := by
  show (rs.map enA).all (okD 19) = true
  rw [List.all_eq_true]
  intro x hx
  obtain ⟨r, hr, rfl⟩ := List.mem_map.mp hx
  show (okD 18 (.str r.1) && (r.2.map MV.int).all (okD 18)) = true
  rw [okD_s (rowOk_tok (h r hr)), Bool.true_and, List.all_eq_true]
  intro y hy
  obtain ⟨n, _, rfl⟩ := List.mem_map.mp hy
  exact okD_i
def tail15 : MS := mSeq (mAsg (mFz (mCall f_ldue4 (mCons (mVar 2) (mNil)))) (gSet 3)) (mSeq (mFor (mR1 (mCons (mC (.int 2)) (mNil))) (gSet 4) (b_law18_1)) (mRet (mC (.bl true))))
theorem tail15_ok {x0 x1 x5 x6 x7 x8 : Option MV} {T : Str} (hz : T.length ≤ 100000) : ∃ ρ, tail15 [x0, x1, some (.str T), none, none, x5, x6, x7, x8, none, none, none] = .ok (.rt (.bl true), ρ) := by
  have pr := prows_told_eq hz
  have ld := ldue4_eq hz
  have rg : rngM 0 1 2 = [.int 0, .int 1] := rfl
  have i2 : inR 2 = true := inR_of (by decide) (by decide)
  cases hr : readT T with
  | got rs =>
    rw [hr] at pr ld
    have ok := okD_rows (readT_ok hr)
    have ne := fNe_tt (xs := [.str "told", .tup (rs.map enA)]) (by
      show (okD 20 (.str "told") && (okD 20 (.tup (rs.map enA)) && true)) = true
      rw [ok, okD_s (by unfold tOk; decide +kernel)]; rfl)
    have pr : f_prows_told [.str T] = .ok (.tup (rs.map enA), []) := pr
    have ld : f_ldue4 [.str T] = .ok (.tup [.str "told", .tup (rs.map enA)], []) := ld
    generalize rs.map enA = R at *
    have is : bIsi [.tup R, .raw (.ty "bool")] = some (.bl false) := rfl
    simp [tail15, ld, rg, i2, mLoop, b_law18_1, b_law18_0, pr, szOk_small, ne, is]
  | bad j =>
    rw [hr] at pr ld
    have pr : f_prows_told [.str T] = .exc ⟨"BadLine", [("at", .int (j : Nat))]⟩ [] := pr
    have ld : f_ldue4 [.str T] = .ok (.tup [.str "BadLine", .int (j : Nat)], []) := ld
    obtain ⟨ρs, so⟩ := lsorts_all (c := "BadLine") (by decide) [("at", .int (j : Nat))]
    have ne := fNe_tt (xs := [.str "BadLine", .int (j : Nat)]) (by
      show (okD 20 (.str "BadLine") && (okD 20 (.int (j : Nat)) && true)) = true
      rw [okD_s (by unfold tOk; decide +kernel)]; rfl)
    have is : bIsi [.int (j : Nat), .raw (.ty "bool")] = some (.bl false) := rfl
    simp [tail15, ld, rg, i2, mLoop, b_law18_1, b_law18_0, pr, szOk_small, ne, is, so, List.lookup, flatM]
theorem law_true : ∀ ns : List Int, ns.length ≤ 63 → ∃ bs, f_law18 [.scr ns] = .ok (.bl true, bs) := by
  intro ns hns
  refine ⟨[], mFn_ok ?_⟩
  obtain ⟨c0, hc0⟩ := lcell_ok ns 18
  obtain ⟨ds, hd, hds⟩ := ldraws_ok c0 68 [3, 901, 6, 94, 3, 2, 901, 6, 94, 3, 2, 6] (by decide) (by decide)
  simp only [draws_cons, draws_nil] at hd
  obtain ⟨d0, _, rfl, q0, d1, _, rfl, q1, d2, _, rfl, q2, d3, _, rfl, q3, d4, _, rfl, q4, d5, _, rfl, q5, d6, _, rfl, q6, d7, _, rfl, q7, d8, _, rfl, q8, d9, _, rfl, q9, d10, _, rfl, q10, d11, _, rfl, q11, rfl⟩ := hd
  obtain ⟨d, hp⟩ := ldrawn_program_ok (N := 256) (by decide) ns 67
  have sm : ∀ r ∈ d.rs.map abR, Sml r := by
    intro r hr
    obtain ⟨q, hq, rfl⟩ := List.mem_map.mp hr
    have h1 := List.all_eq_true.mp d.ok q hq
    rw [← ok_abR] at h1
    exact rowOk_sml h1 (by decide) (by have := d.h16; omega)
  have eR : d.rs.map enR = (d.rs.map abR).map enA := by
    rw [List.map_map]
    exact List.map_congr_left fun r _ => (enA_abR r).symm
  rw [eR] at hp
  have l48 : (d.rs.map abR).length ≤ 48 := by rw [List.length_map]; exact d.h48
  generalize d.rs.map abR = rs at *
  generalize tabsOf d.tb d.nt = TT at *
  generalize encC d.c = CC at *
  generalize d.m = mm at *
  have tl := textT_len sm
  have tk := textT_ok sm (by omega)
  have sm2 : ∀ r ∈ (List.replicate 201 rs).flatten.take (200 + d0).toNat, Sml r := by
    intro r hr
    obtain ⟨l, hl, hr2⟩ := List.mem_flatten.mp (List.mem_of_mem_take hr)
    rw [(List.mem_replicate.mp hl).2] at hr2
    exact sm r hr2
  have l202 : ((List.replicate 201 rs).flatten.take (200 + d0).toNat).length ≤ 202 := by rw [List.length_take]; omega
  have tl2 := textT_len sm2
  have tk2 := textT_ok sm2 (by omega)
  have e2 : ((List.replicate 201 (rs.map enA)).flatten.take (200 + d0).toNat) = ((List.replicate 201 rs).flatten.take (200 + d0).toNat).map enA := by
    rw [List.map_take, List.map_flatten, List.map_replicate]
  have fm := @fMul_tk (rs.map enA) 201 (by decide) (by rw [List.length_map]; omega)
  have ct := @cutM_to (List.replicate 201 (rs.map enA)).flatten (200 + d0) (by omega)
  rw [e2] at ct
  have fm : fMul (.tup (rs.map enA)) (.int 201) = some (.tup (List.replicate 201 (rs.map enA)).flatten) := fm
  generalize (List.replicate 201 (rs.map enA)).flatten = BIG at *
  have lc := @lines_lc 11 (mVar 6) [some (.scr ns), some (.lst [MV.int d0, .int d1, .int d2, .int d3, .int d4, .int d5, .int d6, .int d7, .int d8, .int d9, .int d10, .int d11]), none, none, none, some (.tup TT), some (.tup (rs.map enA)), some (.tup CC), some (.int mm), none, none, none] rs (by simp) rfl sm (by omega)
  have lc2 := fun T : Str => @lines_lc 11 (mSl (mOp fMul (mVar 6) (mC (.int 201))) (mNo) (mPart (mOp fAdd (mC (.int 200)) (mOp fIx (mVar 1) (mC (.int 0)))))) [some (.scr ns), some (.lst [MV.int d0, .int d1, .int d2, .int d3, .int d4, .int d5, .int d6, .int d7, .int d8, .int d9, .int d10, .int d11]), some (.str T), none, none, some (.tup TT), some (.tup (rs.map enA)), some (.tup CC), some (.int mm), none, none, none] ((List.replicate 201 rs).flatten.take (200 + d0).toNat) (by simp [fm, ct]) rfl sm2 (by omega)
  generalize textT rs = T0 at *
  generalize textT ((List.replicate 201 rs).flatten.take (200 + d0).toNat) = T1 at *
  have L0 : T0.length ≤ 4000 := by omega
  have L1 : T1.length ≤ 4000 := by omega
  have bl : (rs.map enA).length = rs.length := by simp
  clear tl tl2 e2
  generalize (rs.map fun r => MV.str (lineT r)) = LL at *
  generalize (((List.replicate 201 rs).flatten.take (200 + d0).toNat).map fun r => MV.str (lineT r)) = LL2 at *
  generalize rs.map enA = R at *
  have ht : (mSeq (mAsg (mFz (mCall f_ldue4 (mCons (mVar 2) (mNil)))) (gSet 3)) (mSeq (mFor (mR1 (mCons (mC (.int 2)) (mNil))) (gSet 4) (b_law18_1)) (mRet (mC (.bl true))))) = tail15 := rfl
  have tok := fun (T : Str) (h : T.length ≤ 100000) => @tail15_ok (some (.scr ns)) (some (.lst [MV.int d0, .int d1, .int d2, .int d3, .int d4, .int d5, .int d6, .int d7, .int d8, .int d9, .int d10, .int d11])) (some (.tup TT)) (some (.tup R)) (some (.tup CC)) (some (.int mm)) T h
  have cA : cutM [MV.int d0, .int d1, .int d2, .int d3, .int d4, .int d5, .int d6, .int d7, .int d8, .int d9, .int d10, .int d11] (some 1) (some 6) = [.int d1, .int d2, .int d3, .int d4, .int d5] := rfl
  have cB : cutM [MV.int d0, .int d1, .int d2, .int d3, .int d4, .int d5, .int d6, .int d7, .int d8, .int d9, .int d10, .int d11] (some 6) (some 11) = [.int d6, .int d7, .int d8, .int d9, .int d10] := rfl
  have x0 : atI [MV.int d0, .int d1, .int d2, .int d3, .int d4, .int d5, .int d6, .int d7, .int d8, .int d9, .int d10, .int d11] 0 = some (.int d0) := rfl
  have x11 : atI [MV.int d0, .int d1, .int d2, .int d3, .int d4, .int d5, .int d6, .int d7, .int d8, .int d9, .int d10, .int d11] 11 = some (.int d11) := rfl
  have s1 := fun (T : Str) (h : T.length ≤ 50000) => lspoilt3_ok (d := d4) (b := d2) h q1.1 q3.1 q5
  have s2 := fun (T : Str) (h : T.length ≤ 50000) => lspoilt3_ok (d := d9) (b := d7) h q6.1 q8.1 q10
  simp at hc0 hds hp
  generalize [MV.int d0, .int d1, .int d2, .int d3, .int d4, .int d5, .int d6, .int d7, .int d8, .int d9, .int d10, .int d11] = DS at *
  unfold m_law18
  rw [ht]
  generalize tail15 = TLM at *
  clear ht
  -- the text's two kinds
  have two : ∃ T : Str, T.length ≤ 4000 ∧ ∀ K : MS, (mSeq (mAsg (mSm smJoin (mC (.str "\n")) (mCons (mFz (mLcO (mItV (mVar 6)) (.nm 11) (mYes) (mFz (mCall0 f_lline (mCons (mVar 11) (mNil)))) [11])) (mNil))) (gSet 2)) (mSeq (mIfS (mAndT (mTest (mOp fEq (mOp fIx (mVar 1) (mC (.int 11))) (mC (.int 0)))) (mTest (mOp fGt (mBlt bLen (mCons (mVar 6) (mNil))) (mC (.int 0))))) (mAsg (mSm smJoin (mC (.str "\n")) (mCons (mFz (mLcO (mItV (mSl (mOp fMul (mVar 6) (mC (.int 201))) (mNo) (mPart (mOp fAdd (mC (.int 200)) (mOp fIx (mVar 1) (mC (.int 0))))))) (.nm 11) (mYes) (mFz (mCall0 f_lline (mCons (mVar 11) (mNil)))) [11])) (mNil))) (gSet 2)) (mPass)) K)) [some (.scr ns), some (.lst DS), none, none, none, some (.tup TT), some (.tup R), some (.tup CC), some (.int mm), none, none, none] = K [some (.scr ns), some (.lst DS), some (.str T), none, none, some (.tup TT), some (.tup R), some (.tup CC), some (.int mm), none, none, none] := by
    by_cases p : d11 = 0
    · by_cases p2 : 0 < rs.length
      · exact ⟨T1, L1, fun K => by simp [lc, lc2, smE_ok tk, smE_ok tk2, x11, p, p2, bl]⟩
      · exact ⟨T0, L0, fun K => by simp [lc, smE_ok tk, x11, p, p2, bl]⟩
    · exact ⟨T0, L0, fun K => by simp [lc, smE_ok tk, x11, p]⟩
  obtain ⟨T, hT, two⟩ := two
  obtain ⟨z1, hz1, e1⟩ := s1 T (by omega)
  obtain ⟨z2, hz2, e2⟩ := s2 z1 (by omega)
  obtain ⟨ρa, ra⟩ := tok T (by omega)
  obtain ⟨ρb, rb⟩ := tok z1 (by omega)
  obtain ⟨ρc, rc⟩ := tok z2 (by omega)
  by_cases p0 : 0 < d0
  · by_cases p1 : 1 < d0
    · exact ⟨ρc, by simp [hp, hc0, hds, two, szOk_small, x0, p0, p1, cA, cB, e1, e2, rc]⟩
    · exact ⟨ρb, by simp [hp, hc0, hds, two, szOk_small, x0, p0, p1, cA, e1, rb]⟩
  · have p1 : ¬ 1 < d0 := by omega
    exact ⟨ρa, by simp [hp, hc0, hds, two, szOk_small, x0, p0, p1, ra]⟩
def top (i : Nat) : Stmt := PySem.Challenge.pw_tensloft_k15_lines_refused.main.body.getD i (.Pass ⟨0, 0, 0, 0⟩)
abbrev s_ini_BadLine : Stmt := inCls (top 7) 0
theorem sc_ini_BadLine : FnScope ["self", "at"] ["self", "at"] (defScope s_ini_BadLine) := ⟨rfl, rfl, rfl, by decide +kernel, rfl, by decide +kernel, by decide +kernel⟩
theorem ini_BadLine {P : Program} {w : World} {K : PySem.W.Frag} {mg : Str → Option Value} {base : Heap} {a : Addr} {fd : FuncData} (F : Fun K "__init__" "BadLine.__init__" s_ini_BadLine a fd) (B : Bas K mg "LoftError") : FnOk P w K mg base (L2N.CX P w) 2 a fd ["self", "at"] (spI1 K "at") :=
  init1 F sc_ini_BadLine B rfl (fun _ _ => rfl) (by decide +kernel) (by decide +kernel) (fun _ => ⟨_, rfl⟩) (by decide) (by decide) (by decide)
abbrev s_lmixed : Stmt := top 33
theorem sc_lmixed : FnScope ["_law_cell_here", "_law_k", "_law_salt", "_law_primes", "_law_one", "_law_two"] ["_law_cell_here", "_law_k", "_law_salt"] (defScope s_lmixed) := ⟨rfl, rfl, rfl, by decide +kernel, rfl, by decide +kernel, by decide +kernel⟩
theorem v_lmixed_0 : (defScope s_lmixed).names.lookup ("_law_cell_here" : Str) = some NameKind.local := by decide +kernel
theorem v_lmixed_1 : (defScope s_lmixed).names.lookup ("_law_k" : Str) = some NameKind.local := by decide +kernel
theorem v_lmixed_2 : (defScope s_lmixed).names.lookup ("_law_salt" : Str) = some NameKind.local := by decide +kernel
theorem v_lmixed_3 : (defScope s_lmixed).names.lookup ("_law_primes" : Str) = some NameKind.local := by decide +kernel
theorem v_lmixed_4 : (defScope s_lmixed).names.lookup ("_law_one" : Str) = some NameKind.local := by decide +kernel
theorem v_lmixed_5 : (defScope s_lmixed).names.lookup ("_law_two" : Str) = some NameKind.local := by decide +kernel
theorem ok_lmixed {P : Program} {w : World} {K : PySem.W.Frag} {mg : Str → Option Value} {base : Heap} {f : Addr} {fd : FuncData} (F : Fun K "_law_mixed" "_law_mixed" s_lmixed f fd) (B : Bn mg)     :
    FnOk P w K mg base (L2N.CX P w) 2 f fd ["_law_cell_here", "_law_k", "_law_salt"] (spF K mg 3 [] f_lmixed) := by
  refine fn_ok F sc_lmixed (by decide) (by decide) fun cdv A outer s H E hr => ?_
  have nd := sc_lmixed.nd
  have tk : L2N.Takes (cxOf (L2N.CX P w) P w K mg base ["_law_cell_here", "_law_k", "_law_salt", "_law_primes", "_law_one", "_law_two"] "_law_mixed" (defScope s_lmixed) f cdv A outer s H E) (fun cls d _ H => E cls d H) := L2N.takes_of rfl rfl rfl rfl
  have pn : PassesOwn (model P w) (cxOf (L2N.CX P w) P w K mg base ["_law_cell_here", "_law_k", "_law_salt", "_law_primes", "_law_one", "_law_two"] "_law_mixed" (defScope s_lmixed) f cdv A outer s H E).A (cxOf (L2N.CX P w) P w K mg base ["_law_cell_here", "_law_k", "_law_salt", "_law_primes", "_law_one", "_law_two"] "_law_mixed" (defScope s_lmixed) f cdv A outer s H E).env (cxOf (L2N.CX P w) P w K mg base ["_law_cell_here", "_law_k", "_law_salt", "_law_primes", "_law_one", "_law_two"] "_law_mixed" (defScope s_lmixed) f cdv A outer s H E).xe := passes_of rfl
  unfold m_lmixed
  exact mss_cons (ms_set (i := 3) nd rfl (.inl v_lmixed_3) (me_lst (ma_cons (me_int) (ma_cons (me_int) (ma_cons (me_int) (ma_cons (me_int) (ma_cons (me_int) (ma_cons (me_int) (ma_cons (me_int) (ma_cons (me_int) (ma_nil))))))))))) (mss_cons (ms_set (i := 4) nd rfl (.inl v_lmixed_4) (me_mod (me_add (me_add (me_add (me_var (i := 0) rfl (.inl v_lmixed_0)) (me_mul (me_int) (me_var (i := 2) rfl (.inl v_lmixed_2)))) (me_mul (me_int) (me_var (i := 1) rfl (.inl v_lmixed_1)))) (me_int)) (me_int))) (mss_cons (ms_set (i := 4) nd rfl (.inl v_lmixed_4) (me_mod (me_pow (me_var (i := 4) rfl (.inl v_lmixed_4)) (me_int)) (me_ix (me_var (i := 3) rfl (.inl v_lmixed_3)) (me_mod (me_var (i := 1) rfl (.inl v_lmixed_1)) (me_int))))) (mss_cons (ms_set (i := 5) nd rfl (.inl v_lmixed_5) (me_mod (me_add (me_add (me_var (i := 4) rfl (.inl v_lmixed_4)) (me_mul (me_int) (me_var (i := 2) rfl (.inl v_lmixed_2)))) (me_var (i := 1) rfl (.inl v_lmixed_1))) (me_int))) (mss_one (ms_ret (me_add (me_mul (me_mod (me_pow (me_var (i := 5) rfl (.inl v_lmixed_5)) (me_int)) (me_int)) (me_int)) (me_var (i := 4) rfl (.inl v_lmixed_4))))))))

abbrev s_ldraws : Stmt := top 34
theorem sc_ldraws : FnScope ["_law_cell_here", "_law_salt", "_law_widths", "_law_found", "_law_left", "_law_k"] ["_law_cell_here", "_law_salt", "_law_widths"] (defScope s_ldraws) := ⟨rfl, rfl, rfl, by decide +kernel, rfl, by decide +kernel, by decide +kernel⟩
theorem v_ldraws_0 : (defScope s_ldraws).names.lookup ("_law_cell_here" : Str) = some NameKind.local := by decide +kernel
theorem v_ldraws_1 : (defScope s_ldraws).names.lookup ("_law_salt" : Str) = some NameKind.local := by decide +kernel
theorem v_ldraws_2 : (defScope s_ldraws).names.lookup ("_law_widths" : Str) = some NameKind.local := by decide +kernel
theorem v_ldraws_3 : (defScope s_ldraws).names.lookup ("_law_found" : Str) = some NameKind.local := by decide +kernel
theorem v_ldraws_4 : (defScope s_ldraws).names.lookup ("_law_left" : Str) = some NameKind.local := by decide +kernel
theorem v_ldraws_5 : (defScope s_ldraws).names.lookup ("_law_k" : Str) = some NameKind.local := by decide +kernel
theorem g_ldraws_abs (L a : Addr) (cd : Value) : (PyProof.Rows.envOfC "_law_draws" (defScope s_ldraws) L a cd).kindOf ("abs" : Str) = some NameKind.globalImplicit := rfl
theorem g_ldraws_len (L a : Addr) (cd : Value) : (PyProof.Rows.envOfC "_law_draws" (defScope s_ldraws) L a cd).kindOf ("len" : Str) = some NameKind.globalImplicit := rfl
theorem g_ldraws_range (L a : Addr) (cd : Value) : (PyProof.Rows.envOfC "_law_draws" (defScope s_ldraws) L a cd).kindOf ("range" : Str) = some NameKind.globalImplicit := rfl
theorem g_ldraws_law_mixed (L a : Addr) (cd : Value) : (PyProof.Rows.envOfC "_law_draws" (defScope s_ldraws) L a cd).kindOf ("_law_mixed" : Str) = some NameKind.globalImplicit := rfl
theorem ok_ldraws {P : Program} {w : World} {K : PySem.W.Frag} {mg : Str → Option Value} {base : Heap} {f : Addr} {fd : FuncData} (F : Fun K "_law_draws" "_law_draws" s_ldraws f fd) (B : Bn mg) (h_lmixed : Fd P w K mg base "_law_mixed" 2 ["_law_cell_here", "_law_k", "_law_salt"] [] f_lmixed)    :
    FnOk P w K mg base (L2N.CX P w) 4 f fd ["_law_cell_here", "_law_salt", "_law_widths"] (spF K mg 3 [] f_ldraws) := by
  refine fn_ok F sc_ldraws (by decide) (by decide) fun cdv A outer s H E hr => ?_
  have nd := sc_ldraws.nd
  have tk : L2N.Takes (cxOf (L2N.CX P w) P w K mg base ["_law_cell_here", "_law_salt", "_law_widths", "_law_found", "_law_left", "_law_k"] "_law_draws" (defScope s_ldraws) f cdv A outer s H E) (fun cls d _ H => E cls d H) := L2N.takes_of rfl rfl rfl rfl
  have pn : PassesOwn (model P w) (cxOf (L2N.CX P w) P w K mg base ["_law_cell_here", "_law_salt", "_law_widths", "_law_found", "_law_left", "_law_k"] "_law_draws" (defScope s_ldraws) f cdv A outer s H E).A (cxOf (L2N.CX P w) P w K mg base ["_law_cell_here", "_law_salt", "_law_widths", "_law_found", "_law_left", "_law_k"] "_law_draws" (defScope s_ldraws) f cdv A outer s H E).env (cxOf (L2N.CX P w) P w K mg base ["_law_cell_here", "_law_salt", "_law_widths", "_law_found", "_law_left", "_law_k"] "_law_draws" (defScope s_ldraws) f cdv A outer s H E).xe := passes_of rfl
  unfold m_ldraws
  exact mss_cons (ms_setO (i := 3) nd rfl (.inl v_ldraws_3) (mo_lst (ma_nil))) (mss_cons (ms_set (i := 4) nd rfl (.inl v_ldraws_4) (me_int)) (mss_cons (ms_if (mt_cmp op_ge os_ge (mb_abs B.abs (ma_cons (me_var (i := 0) rfl (.inl v_ldraws_0)) (ma_nil)) (hg := (g_ldraws_abs _ _ _))) (me_pow (me_int) (me_int)) (nomark _)) (mss_one (ms_set (i := 4) nd rfl (.inl v_ldraws_4) (mb_abs B.abs (ma_cons (me_var (i := 0) rfl (.inl v_ldraws_0)) (ma_nil)) (hg := (g_ldraws_abs _ _ _))))) (mss_nil)) (mss_cons (ms_for pn rfl (mi_r1 B.range (ma_cons (mb_len B.len (ma_cons (me_var (i := 2) rfl (.inl v_ldraws_2)) (ma_nil)) (hg := (g_ldraws_len _ _ _))) (ma_nil)) (hg := (g_ldraws_range _ _ _))) (mg_name (i := 5) nd rfl (.inl v_ldraws_5)) (mss_one (ms_if (mt_cmp op_gt os_gt (me_var (i := 4) rfl (.inl v_ldraws_4)) (me_int) (nomark _)) (mss_cons (ms_expr (me_lm1 ls_append PySem.F.slot_list_append PySem.F.type_list_append mt_append (i := 3) rfl (.inl v_ldraws_3) (ma_cons (me_mod (me_var (i := 4) rfl (.inl v_ldraws_4)) (me_ix (me_var (i := 2) rfl (.inl v_ldraws_2)) (me_var (i := 5) rfl (.inl v_ldraws_5)))) (ma_nil)))) (mss_one (ms_set (i := 4) nd rfl (.inl v_ldraws_4) (me_div (me_var (i := 4) rfl (.inl v_ldraws_4)) (me_ix (me_var (i := 2) rfl (.inl v_ldraws_2)) (me_var (i := 5) rfl (.inl v_ldraws_5))))))) (mss_one (ms_expr (me_lm1 ls_append PySem.F.slot_list_append PySem.F.type_list_append mt_append (i := 3) rfl (.inl v_ldraws_3) (ma_cons (me_mod (me_fz (mf_call h_lmixed hr (by decide) tk (ma_cons (me_var (i := 0) rfl (.inl v_ldraws_0)) (ma_cons (me_var (i := 5) rfl (.inl v_ldraws_5)) (ma_cons (me_var (i := 1) rfl (.inl v_ldraws_1)) (ma_nil)))) (lng_cons (lng_cons (lng_cons lng_nil))) (hg := (g_ldraws_law_mixed _ _ _)))) (me_ix (me_var (i := 2) rfl (.inl v_ldraws_2)) (me_var (i := 5) rfl (.inl v_ldraws_5)))) (ma_nil)))))))) (mss_one (ms_retO (mo_var (i := 3) rfl (.inl v_ldraws_3)))))))

abbrev s_lcell : Stmt := top 32
theorem sc_lcell : FnScope ["_law_script", "_law_k"] ["_law_script", "_law_k"] (defScope s_lcell) := ⟨rfl, rfl, rfl, by decide +kernel, rfl, by decide +kernel, by decide +kernel⟩
theorem v_lcell_0 : (defScope s_lcell).names.lookup ("_law_script" : Str) = some NameKind.local := by decide +kernel
theorem v_lcell_1 : (defScope s_lcell).names.lookup ("_law_k" : Str) = some NameKind.local := by decide +kernel
theorem g_lcell_len (L a : Addr) (cd : Value) : (PyProof.Rows.envOfC "_law_cell" (defScope s_lcell) L a cd).kindOf ("len" : Str) = some NameKind.globalImplicit := rfl
theorem ok_lcell {P : Program} {w : World} {K : PySem.W.Frag} {mg : Str → Option Value} {base : Heap} {f : Addr} {fd : FuncData} (F : Fun K "_law_cell" "_law_cell" s_lcell f fd) (B : Bn mg)     :
    FnOk P w K mg base (L2N.CX P w) 2 f fd ["_law_script", "_law_k"] (spF K mg 2 [] f_lcell) := by
  refine fn_ok F sc_lcell (by decide) (by decide) fun cdv A outer s H E hr => ?_
  have nd := sc_lcell.nd
  have tk : L2N.Takes (cxOf (L2N.CX P w) P w K mg base ["_law_script", "_law_k"] "_law_cell" (defScope s_lcell) f cdv A outer s H E) (fun cls d _ H => E cls d H) := L2N.takes_of rfl rfl rfl rfl
  have pn : PassesOwn (model P w) (cxOf (L2N.CX P w) P w K mg base ["_law_script", "_law_k"] "_law_cell" (defScope s_lcell) f cdv A outer s H E).A (cxOf (L2N.CX P w) P w K mg base ["_law_script", "_law_k"] "_law_cell" (defScope s_lcell) f cdv A outer s H E).env (cxOf (L2N.CX P w) P w K mg base ["_law_script", "_law_k"] "_law_cell" (defScope s_lcell) f cdv A outer s H E).xe := passes_of rfl
  unfold m_lcell
  exact mss_cons (ms_if (mt_cmp op_lt os_lt (me_var (i := 1) rfl (.inl v_lcell_1)) (mb_len B.len (ma_cons (me_var (i := 0) rfl (.inl v_lcell_0)) (ma_nil)) (hg := (g_lcell_len _ _ _))) (nomark _)) (mss_one (ms_ret (me_ix (me_var (i := 0) rfl (.inl v_lcell_0)) (me_var (i := 1) rfl (.inl v_lcell_1))))) (mss_nil)) (mss_cons (ms_if (mt_cmp (op_eqM hr.units) os_eq (mb_len B.len (ma_cons (me_var (i := 0) rfl (.inl v_lcell_0)) (ma_nil)) (hg := (g_lcell_len _ _ _))) (me_int) (nomark _)) (mss_one (ms_ret (me_mul (me_int) (me_add (me_var (i := 1) rfl (.inl v_lcell_1)) (me_int))))) (mss_nil)) (mss_one (ms_ret (me_add (me_ix (me_var (i := 0) rfl (.inl v_lcell_0)) (me_mod (me_var (i := 1) rfl (.inl v_lcell_1)) (mb_len B.len (ma_cons (me_var (i := 0) rfl (.inl v_lcell_0)) (ma_nil)) (hg := (g_lcell_len _ _ _))))) (me_mul (me_int) (me_var (i := 1) rfl (.inl v_lcell_1)))))))

abbrev s_ldrawn_table : Stmt := top 37
theorem sc_ldrawn_table : FnScope ["_law_one", "_law_two", "_law_three", "_law_k"] ["_law_one", "_law_two", "_law_three"] (defScope s_ldrawn_table) := ⟨rfl, rfl, rfl, by decide +kernel, rfl, by decide +kernel, by decide +kernel⟩
theorem v_ldrawn_table_0 : (defScope s_ldrawn_table).names.lookup ("_law_one" : Str) = some NameKind.cell := by decide +kernel
theorem v_ldrawn_table_1 : (defScope s_ldrawn_table).names.lookup ("_law_two" : Str) = some NameKind.cell := by decide +kernel
theorem v_ldrawn_table_2 : (defScope s_ldrawn_table).names.lookup ("_law_three" : Str) = some NameKind.cell := by decide +kernel
theorem g_ldrawn_table_range (L a : Addr) (cd : Value) : (PyProof.Rows.envOfC "_law_drawn_table" (defScope s_ldrawn_table) L a cd).kindOf ("range" : Str) = some NameKind.globalImplicit := rfl
theorem g_ldrawn_table_tuple (L a : Addr) (cd : Value) : (PyProof.Rows.envOfC "_law_drawn_table" (defScope s_ldrawn_table) L a cd).kindOf ("tuple" : Str) = some NameKind.globalImplicit := rfl
theorem ok_ldrawn_table {P : Program} {w : World} {K : PySem.W.Frag} {mg : Str → Option Value} {base : Heap} {f : Addr} {fd : FuncData} (F : Fun K "_law_drawn_table" "_law_drawn_table" s_ldrawn_table f fd) (B : Bn mg)     :
    FnOk P w K mg base (L2N.CX P w) 2 f fd ["_law_one", "_law_two", "_law_three"] (spF K mg 3 [] f_ldrawn_table) := by
  refine fn_ok F sc_ldrawn_table (by decide) (by decide) fun cdv A outer s H E hr => ?_
  have nd := sc_ldrawn_table.nd
  have tk : L2N.Takes (cxOf (L2N.CX P w) P w K mg base ["_law_one", "_law_two", "_law_three", "_law_k"] "_law_drawn_table" (defScope s_ldrawn_table) f cdv A outer s H E) (fun cls d _ H => E cls d H) := L2N.takes_of rfl rfl rfl rfl
  have pn : PassesOwn (model P w) (cxOf (L2N.CX P w) P w K mg base ["_law_one", "_law_two", "_law_three", "_law_k"] "_law_drawn_table" (defScope s_ldrawn_table) f cdv A outer s H E).A (cxOf (L2N.CX P w) P w K mg base ["_law_one", "_law_two", "_law_three", "_law_k"] "_law_drawn_table" (defScope s_ldrawn_table) f cdv A outer s H E).env (cxOf (L2N.CX P w) P w K mg base ["_law_one", "_law_two", "_law_three", "_law_k"] "_law_drawn_table" (defScope s_ldrawn_table) f cdv A outer s H E).xe := passes_of rfl
  unfold m_ldrawn_table
  exact mss_one (ms_ret (mb_tuple B.tuple (ma_cons (me_fz (mo_lc (own := [("_law_k", 3)]) (g := .nm 3) rfl nd (mi_r1 B.range (ma_cons (me_int) (ma_nil)) (hg := (g_ldrawn_table_range _ _ _))) (blkOk_at (N' := ["_law_one", "_law_two", "_law_three", "_law_k"]) (sc' := defScope s_ldrawn_table) rfl rfl (by decide +kernel)) (fun _ _ _ _ _ => pg_name (i := 3) nd rfl (Or.inl rfl)) (fun _ _ _ _ _ => mts_nil) (fun _ _ _ _ _ => me_mod (me_div (me_mod (me_add (me_add (me_mul (me_mul (me_var (i := 0) rfl (by first | exact .inr (.inr rfl) | exact .inl rfl | exact .inr (.inl rfl))) (me_var (i := 3) rfl (.inl rfl))) (me_var (i := 3) rfl (.inl rfl))) (me_mul (me_var (i := 1) rfl (by first | exact .inr (.inr rfl) | exact .inl rfl | exact .inr (.inl rfl))) (me_var (i := 3) rfl (.inl rfl)))) (me_var (i := 2) rfl (by first | exact .inr (.inr rfl) | exact .inl rfl | exact .inr (.inl rfl)))) (me_int)) (me_int)) (me_int)) (hbs := hbs_of rfl))) (ma_nil)) (hg := (g_ldrawn_table_tuple _ _ _))))

abbrev s_ldrawn_row : Stmt := top 36
theorem sc_ldrawn_row : FnScope ["_law_draws_here", "_law_many", "_law_tables", "_law_word", "_law_a"] ["_law_draws_here", "_law_many", "_law_tables"] (defScope s_ldrawn_row) := ⟨rfl, rfl, rfl, by decide +kernel, rfl, by decide +kernel, by decide +kernel⟩
theorem v_ldrawn_row_0 : (defScope s_ldrawn_row).names.lookup ("_law_draws_here" : Str) = some NameKind.local := by decide +kernel
theorem v_ldrawn_row_1 : (defScope s_ldrawn_row).names.lookup ("_law_many" : Str) = some NameKind.local := by decide +kernel
theorem v_ldrawn_row_2 : (defScope s_ldrawn_row).names.lookup ("_law_tables" : Str) = some NameKind.local := by decide +kernel
theorem v_ldrawn_row_3 : (defScope s_ldrawn_row).names.lookup ("_law_word" : Str) = some NameKind.local := by decide +kernel
theorem v_ldrawn_row_4 : (defScope s_ldrawn_row).names.lookup ("_law_a" : Str) = some NameKind.local := by decide +kernel
theorem ok_ldrawn_row {P : Program} {w : World} {K : PySem.W.Frag} {mg : Str → Option Value} {base : Heap} {f : Addr} {fd : FuncData} (F : Fun K "_law_drawn_row" "_law_drawn_row" s_ldrawn_row f fd) (B : Bn mg)     :
    FnOk P w K mg base (L2N.CX P w) 2 f fd ["_law_draws_here", "_law_many", "_law_tables"] (spF K mg 3 [] f_ldrawn_row) := by
  refine fn_ok F sc_ldrawn_row (by decide) (by decide) fun cdv A outer s H E hr => ?_
  have nd := sc_ldrawn_row.nd
  have tk : L2N.Takes (cxOf (L2N.CX P w) P w K mg base ["_law_draws_here", "_law_many", "_law_tables", "_law_word", "_law_a"] "_law_drawn_row" (defScope s_ldrawn_row) f cdv A outer s H E) (fun cls d _ H => E cls d H) := L2N.takes_of rfl rfl rfl rfl
  have pn : PassesOwn (model P w) (cxOf (L2N.CX P w) P w K mg base ["_law_draws_here", "_law_many", "_law_tables", "_law_word", "_law_a"] "_law_drawn_row" (defScope s_ldrawn_row) f cdv A outer s H E).A (cxOf (L2N.CX P w) P w K mg base ["_law_draws_here", "_law_many", "_law_tables", "_law_word", "_law_a"] "_law_drawn_row" (defScope s_ldrawn_row) f cdv A outer s H E).env (cxOf (L2N.CX P w) P w K mg base ["_law_draws_here", "_law_many", "_law_tables", "_law_word", "_law_a"] "_law_drawn_row" (defScope s_ldrawn_row) f cdv A outer s H E).xe := passes_of rfl
  unfold m_ldrawn_row
  exact mss_cons (ms_set (i := 3) nd rfl (.inl v_ldrawn_row_3) (me_ix (me_lst (ma_cons (me_str) (ma_cons (me_str) (ma_cons (me_str) (ma_cons (me_str) (ma_cons (me_str) (ma_cons (me_str) (ma_cons (me_str) (ma_cons (me_str) (ma_cons (me_str) (ma_cons (me_str) (ma_nil)))))))))))) (me_ix (me_var (i := 0) rfl (.inl v_ldrawn_row_0)) (me_int)))) (mss_cons (ms_set (i := 4) nd rfl (.inl v_ldrawn_row_4) (me_mod (me_ix (me_var (i := 0) rfl (.inl v_ldrawn_row_0)) (me_int)) (me_var (i := 1) rfl (.inl v_ldrawn_row_1)))) (mss_cons (ms_if (mt_cmp op_inM os_in (me_var (i := 3) rfl (.inl v_ldrawn_row_3)) (me_tup (ma_cons (me_str) (ma_cons (me_str) (ma_nil)))) rfl) (mss_one (ms_ret (me_tup (ma_cons (me_var (i := 3) rfl (.inl v_ldrawn_row_3)) (ma_cons (me_var (i := 4) rfl (.inl v_ldrawn_row_4)) (ma_nil)))))) (mss_nil)) (mss_cons (ms_if (mt_cmp (op_eqM hr.units) os_eq (me_var (i := 3) rfl (.inl v_ldrawn_row_3)) (me_str) (nomark _)) (mss_one (ms_ret (me_tup (ma_cons (me_var (i := 3) rfl (.inl v_ldrawn_row_3)) (ma_cons (me_mod (me_ix (me_var (i := 0) rfl (.inl v_ldrawn_row_0)) (me_int)) (me_int)) (ma_nil)))))) (mss_nil)) (mss_cons (ms_if (mt_cmp (op_eqM hr.units) os_eq (me_var (i := 3) rfl (.inl v_ldrawn_row_3)) (me_str) (nomark _)) (mss_one (ms_ret (me_tup (ma_cons (me_var (i := 3) rfl (.inl v_ldrawn_row_3)) (ma_cons (me_var (i := 4) rfl (.inl v_ldrawn_row_4)) (ma_cons (me_ix (me_var (i := 0) rfl (.inl v_ldrawn_row_0)) (me_int)) (ma_nil))))))) (mss_nil)) (mss_cons (ms_if (PW.pt (mw_and (mt_cmp (op_eqM hr.units) os_eq (me_var (i := 3) rfl (.inl v_ldrawn_row_3)) (me_str) (nomark _)) (mw_one_and (mt_cmp op_gt os_gt (me_var (i := 2) rfl (.inl v_ldrawn_row_2)) (me_int) (nomark _))))) (mss_one (ms_ret (me_tup (ma_cons (me_var (i := 3) rfl (.inl v_ldrawn_row_3)) (ma_cons (me_var (i := 4) rfl (.inl v_ldrawn_row_4)) (ma_cons (me_mod (me_ix (me_var (i := 0) rfl (.inl v_ldrawn_row_0)) (me_int)) (me_var (i := 2) rfl (.inl v_ldrawn_row_2))) (ma_nil))))))) (mss_nil)) (mss_cons (ms_if (mt_cmp (op_eqM hr.units) os_eq (me_var (i := 3) rfl (.inl v_ldrawn_row_3)) (me_str) (nomark _)) (mss_one (ms_ret (me_tup (ma_cons (me_str) (ma_cons (me_var (i := 4) rfl (.inl v_ldrawn_row_4)) (ma_cons (me_mod (me_ix (me_var (i := 0) rfl (.inl v_ldrawn_row_0)) (me_int)) (me_var (i := 1) rfl (.inl v_ldrawn_row_1))) (ma_nil))))))) (mss_nil)) (mss_one (ms_ret (me_tup (ma_cons (me_var (i := 3) rfl (.inl v_ldrawn_row_3)) (ma_cons (me_var (i := 4) rfl (.inl v_ldrawn_row_4)) (ma_cons (me_mod (me_ix (me_var (i := 0) rfl (.inl v_ldrawn_row_0)) (me_int)) (me_var (i := 1) rfl (.inl v_ldrawn_row_1))) (ma_nil)))))))))))))

abbrev s_ldrawn_program : Stmt := top 38
theorem sc_ldrawn_program : FnScope ["_law_script", "_law_salt", "_law_many", "_law_first", "_law_shelves", "_law_tables", "_law_rows", "_law_k", "_law_cells", "_law_draws_here", "_law_j", "_law_one"] ["_law_script", "_law_salt", "_law_many"] (defScope s_ldrawn_program) := ⟨rfl, rfl, rfl, by decide +kernel, rfl, by decide +kernel, by decide +kernel⟩
theorem v_ldrawn_program_0 : (defScope s_ldrawn_program).names.lookup ("_law_script" : Str) = some NameKind.local := by decide +kernel
theorem v_ldrawn_program_1 : (defScope s_ldrawn_program).names.lookup ("_law_salt" : Str) = some NameKind.local := by decide +kernel
theorem v_ldrawn_program_2 : (defScope s_ldrawn_program).names.lookup ("_law_many" : Str) = some NameKind.local := by decide +kernel
theorem v_ldrawn_program_3 : (defScope s_ldrawn_program).names.lookup ("_law_first" : Str) = some NameKind.cell := by decide +kernel
theorem v_ldrawn_program_4 : (defScope s_ldrawn_program).names.lookup ("_law_shelves" : Str) = some NameKind.local := by decide +kernel
theorem v_ldrawn_program_5 : (defScope s_ldrawn_program).names.lookup ("_law_tables" : Str) = some NameKind.local := by decide +kernel
theorem v_ldrawn_program_6 : (defScope s_ldrawn_program).names.lookup ("_law_rows" : Str) = some NameKind.local := by decide +kernel
theorem v_ldrawn_program_7 : (defScope s_ldrawn_program).names.lookup ("_law_k" : Str) = some NameKind.local := by decide +kernel
theorem v_ldrawn_program_8 : (defScope s_ldrawn_program).names.lookup ("_law_cells" : Str) = some NameKind.local := by decide +kernel
theorem v_ldrawn_program_9 : (defScope s_ldrawn_program).names.lookup ("_law_draws_here" : Str) = some NameKind.local := by decide +kernel
theorem v_ldrawn_program_10 : (defScope s_ldrawn_program).names.lookup ("_law_j" : Str) = some NameKind.local := by decide +kernel
theorem v_ldrawn_program_11 : (defScope s_ldrawn_program).names.lookup ("_law_one" : Str) = some NameKind.local := by decide +kernel
theorem g_ldrawn_program_law_cell (L a : Addr) (cd : Value) : (PyProof.Rows.envOfC "_law_drawn_program" (defScope s_ldrawn_program) L a cd).kindOf ("_law_cell" : Str) = some NameKind.globalImplicit := rfl
theorem g_ldrawn_program_law_draws (L a : Addr) (cd : Value) : (PyProof.Rows.envOfC "_law_drawn_program" (defScope s_ldrawn_program) L a cd).kindOf ("_law_draws" : Str) = some NameKind.globalImplicit := rfl
theorem g_ldrawn_program_range (L a : Addr) (cd : Value) : (PyProof.Rows.envOfC "_law_drawn_program" (defScope s_ldrawn_program) L a cd).kindOf ("range" : Str) = some NameKind.globalImplicit := rfl
theorem g_ldrawn_program_tuple (L a : Addr) (cd : Value) : (PyProof.Rows.envOfC "_law_drawn_program" (defScope s_ldrawn_program) L a cd).kindOf ("tuple" : Str) = some NameKind.globalImplicit := rfl
theorem g_ldrawn_program_law_drawn_row (L a : Addr) (cd : Value) : (PyProof.Rows.envOfC "_law_drawn_program" (defScope s_ldrawn_program) L a cd).kindOf ("_law_drawn_row" : Str) = some NameKind.globalImplicit := rfl
theorem ok_ldrawn_program {P : Program} {w : World} {K : PySem.W.Frag} {mg : Str → Option Value} {base : Heap} {f : Addr} {fd : FuncData} (F : Fun K "_law_drawn_program" "_law_drawn_program" s_ldrawn_program f fd) (B : Bn mg) (h_ldraws : Fd P w K mg base "_law_draws" 4 ["_law_cell_here", "_law_salt", "_law_widths"] [] f_ldraws) (h_lcell : Fd P w K mg base "_law_cell" 2 ["_law_script", "_law_k"] [] f_lcell) (h_ldrawn_table : Fd P w K mg base "_law_drawn_table" 2 ["_law_one", "_law_two", "_law_three"] [] f_ldrawn_table) (h_ldrawn_row : Fd P w K mg base "_law_drawn_row" 2 ["_law_draws_here", "_law_many", "_law_tables"] [] f_ldrawn_row)    :
    FnOk P w K mg base (L2N.CX P w) 6 f fd ["_law_script", "_law_salt", "_law_many"] (spF K mg 3 [] f_ldrawn_program) := by
  refine fn_ok F sc_ldrawn_program (by decide) (by decide) fun cdv A outer s H E hr => ?_
  have nd := sc_ldrawn_program.nd
  have tk : L2N.Takes (cxOf (L2N.CX P w) P w K mg base ["_law_script", "_law_salt", "_law_many", "_law_first", "_law_shelves", "_law_tables", "_law_rows", "_law_k", "_law_cells", "_law_draws_here", "_law_j", "_law_one"] "_law_drawn_program" (defScope s_ldrawn_program) f cdv A outer s H E) (fun cls d _ H => E cls d H) := L2N.takes_of rfl rfl rfl rfl
  have pn : PassesOwn (model P w) (cxOf (L2N.CX P w) P w K mg base ["_law_script", "_law_salt", "_law_many", "_law_first", "_law_shelves", "_law_tables", "_law_rows", "_law_k", "_law_cells", "_law_draws_here", "_law_j", "_law_one"] "_law_drawn_program" (defScope s_ldrawn_program) f cdv A outer s H E).A (cxOf (L2N.CX P w) P w K mg base ["_law_script", "_law_salt", "_law_many", "_law_first", "_law_shelves", "_law_tables", "_law_rows", "_law_k", "_law_cells", "_law_draws_here", "_law_j", "_law_one"] "_law_drawn_program" (defScope s_ldrawn_program) f cdv A outer s H E).env (cxOf (L2N.CX P w) P w K mg base ["_law_script", "_law_salt", "_law_many", "_law_first", "_law_shelves", "_law_tables", "_law_rows", "_law_k", "_law_cells", "_law_draws_here", "_law_j", "_law_one"] "_law_drawn_program" (defScope s_ldrawn_program) f cdv A outer s H E).xe := passes_of rfl
  unfold m_ldrawn_program
  exact mss_cons (ms_set (i := 3) nd rfl (.inr v_ldrawn_program_3) (me_fz (mf_call h_ldraws hr (by decide) tk (ma_cons (me_fz (mf_call h_lcell hr (by decide) tk (ma_cons (me_var (i := 0) rfl (.inl v_ldrawn_program_0)) (ma_cons (me_int) (ma_nil))) (lng_cons (lng_cons lng_nil)) (hg := (g_ldrawn_program_law_cell _ _ _)))) (ma_cons (me_var (i := 1) rfl (.inl v_ldrawn_program_1)) (ma_cons (me_lst (ma_cons (me_int) (ma_cons (me_int) (ma_cons (me_int) (ma_cons (me_int) (ma_cons (me_int) (ma_cons (me_int) (ma_cons (me_int) (ma_cons (me_int) (ma_cons (me_int) (ma_nil))))))))))) (ma_nil)))) (lng_cons (lng_cons (lng_cons lng_nil))) (hg := (g_ldrawn_program_law_draws _ _ _))))) (mss_cons (ms_set (i := 4) nd rfl (.inl v_ldrawn_program_4) (me_ix (me_lst (ma_cons (me_int) (ma_cons (me_int) (ma_cons (me_int) (ma_cons (me_int) (ma_cons (me_int) (ma_cons (me_int) (ma_cons (me_int) (ma_cons (me_int) (ma_nil)))))))))) (me_ix (me_var (i := 3) rfl (.inr (.inl v_ldrawn_program_3))) (me_int)))) (mss_cons (ms_set (i := 5) nd rfl (.inl v_ldrawn_program_5) (mb_tuple B.tuple (ma_cons (me_fz (mo_lc (own := [("_law_k", 7)]) (g := .nm 7) rfl nd (mi_r1 B.range (ma_cons (me_var (i := 4) rfl (.inl v_ldrawn_program_4)) (ma_nil)) (hg := (g_ldrawn_program_range _ _ _))) (blkOk_at (N' := ["_law_script", "_law_salt", "_law_many", "_law_first", "_law_shelves", "_law_tables", "_law_rows", "_law_k", "_law_cells", "_law_draws_here", "_law_j", "_law_one"]) (sc' := defScope s_ldrawn_program) rfl rfl (by decide +kernel)) (fun _ _ _ _ _ => pg_name (i := 7) nd rfl (Or.inl rfl)) (fun _ _ _ _ _ => mts_nil) (fun _ _ _ _ _ => me_fz (mf_call0 h_ldrawn_table hr (by decide) (ma_cons (me_ix (me_var (i := 3) rfl (by first | exact .inr (.inr rfl) | exact .inl rfl | exact .inr (.inl rfl))) (me_int)) (ma_cons (me_ix (me_var (i := 3) rfl (by first | exact .inr (.inr rfl) | exact .inl rfl | exact .inr (.inl rfl))) (me_int)) (ma_cons (me_add (me_ix (me_var (i := 3) rfl (by first | exact .inr (.inr rfl) | exact .inl rfl | exact .inr (.inl rfl))) (me_int)) (me_var (i := 7) rfl (.inl rfl))) (ma_nil)))) (lng_cons (lng_cons (lng_cons lng_nil))) (hg := rfl))) (hbs := hbs_of rfl))) (ma_nil)) (hg := (g_ldrawn_program_tuple _ _ _)))) (mss_cons (ms_setO (i := 6) nd rfl (.inl v_ldrawn_program_6) (mo_lst (ma_nil))) (mss_cons (ms_for pn rfl (mi_r1 B.range (ma_cons (me_ix (me_var (i := 3) rfl (.inr (.inl v_ldrawn_program_3))) (me_int)) (ma_nil)) (hg := (g_ldrawn_program_range _ _ _))) (mg_name (i := 7) nd rfl (.inl v_ldrawn_program_7)) (mss_cons (ms_set (i := 9) nd rfl (.inl v_ldrawn_program_9) (me_fz (mf_call h_ldraws hr (by decide) tk (ma_cons (me_fz (mf_call h_lcell hr (by decide) tk (ma_cons (me_var (i := 0) rfl (.inl v_ldrawn_program_0)) (ma_cons (me_add (me_int) (me_var (i := 7) rfl (.inl v_ldrawn_program_7))) (ma_nil))) (lng_cons (lng_cons lng_nil)) (hg := (g_ldrawn_program_law_cell _ _ _)))) (ma_cons (me_add (me_var (i := 1) rfl (.inl v_ldrawn_program_1)) (me_int)) (ma_cons (me_lst (ma_cons (me_int) (ma_cons (me_int) (ma_cons (me_int) (ma_cons (me_int) (ma_cons (me_int) (ma_cons (me_int) (ma_cons (me_int) (ma_cons (me_int) (ma_cons (me_int) (ma_nil))))))))))) (ma_nil)))) (lng_cons (lng_cons (lng_cons lng_nil))) (hg := (g_ldrawn_program_law_draws _ _ _))))) (mss_one (ms_for pn rfl (mi_r3 B.range (ma_cons (me_int) (ma_cons (me_int) (ma_cons (me_int) (ma_nil)))) (hg := (g_ldrawn_program_range _ _ _))) (mg_name (i := 10) nd rfl (.inl v_ldrawn_program_10)) (mss_one (ms_expr (me_lm1 ls_append PySem.F.slot_list_append PySem.F.type_list_append mt_append (i := 6) rfl (.inl v_ldrawn_program_6) (ma_cons (me_fz (mf_call h_ldrawn_row hr (by decide) tk (ma_cons (me_sl (me_var (i := 9) rfl (.inl v_ldrawn_program_9)) (mp_some (me_var (i := 10) rfl (.inl v_ldrawn_program_10))) (mp_some (me_add (me_var (i := 10) rfl (.inl v_ldrawn_program_10)) (me_int)))) (ma_cons (me_var (i := 2) rfl (.inl v_ldrawn_program_2)) (ma_cons (me_var (i := 4) rfl (.inl v_ldrawn_program_4)) (ma_nil)))) (lng_cons (lng_cons (lng_cons lng_nil))) (hg := (g_ldrawn_program_law_drawn_row _ _ _)))) (ma_nil))))))))) (mss_cons (ms_setO (i := 8) nd rfl (.inl v_ldrawn_program_8) (mo_lst (ma_nil))) (mss_cons (ms_for pn rfl (mi_r1 B.range (ma_cons (me_var (i := 2) rfl (.inl v_ldrawn_program_2)) (ma_nil)) (hg := (g_ldrawn_program_range _ _ _))) (mg_name (i := 7) nd rfl (.inl v_ldrawn_program_7)) (mss_cons (ms_set (i := 11) nd rfl (.inl v_ldrawn_program_11) (me_add (me_mul (me_mul (me_ix (me_var (i := 3) rfl (.inr (.inl v_ldrawn_program_3))) (me_int)) (me_add (me_var (i := 7) rfl (.inl v_ldrawn_program_7)) (me_int))) (me_add (me_var (i := 7) rfl (.inl v_ldrawn_program_7)) (me_int))) (me_mul (me_ix (me_var (i := 3) rfl (.inr (.inl v_ldrawn_program_3))) (me_int)) (me_var (i := 7) rfl (.inl v_ldrawn_program_7))))) (mss_one (ms_expr (me_lm1 ls_append PySem.F.slot_list_append PySem.F.type_list_append mt_append (i := 8) rfl (.inl v_ldrawn_program_8) (ma_cons (me_mod (me_div (me_mod (me_var (i := 11) rfl (.inl v_ldrawn_program_11)) (me_int)) (me_int)) (me_int)) (ma_nil))))))) (mss_cons (ms_if (mt_cmp (op_eqM hr.units) os_eq (me_mod (me_ix (me_var (i := 3) rfl (.inr (.inl v_ldrawn_program_3))) (me_int)) (me_int)) (me_int) (nomark _)) (mss_one (ms_setO (i := 8) nd rfl (.inl v_ldrawn_program_8) (mo_mult (me_lst (ma_cons (me_ix (me_lst (ma_cons (me_int) (ma_cons (me_int) (ma_cons (me_int) (ma_cons (me_int) (ma_nil)))))) (me_mod (me_div (me_ix (me_var (i := 3) rfl (.inr (.inl v_ldrawn_program_3))) (me_int)) (me_int)) (me_int))) (ma_nil))) (me_var (i := 2) rfl (.inl v_ldrawn_program_2))))) (mss_nil)) (mss_one (ms_ret (me_tup (ma_cons (me_var (i := 5) rfl (.inl v_ldrawn_program_5)) (ma_cons (mb_tuple B.tuple (ma_cons (me_var (i := 6) rfl (.inl v_ldrawn_program_6)) (ma_nil)) (hg := (g_ldrawn_program_tuple _ _ _))) (ma_cons (mb_tuple B.tuple (ma_cons (me_var (i := 8) rfl (.inl v_ldrawn_program_8)) (ma_nil)) (hg := (g_ldrawn_program_tuple _ _ _))) (ma_cons (me_ix (me_var (i := 3) rfl (.inr (.inl v_ldrawn_program_3))) (me_int)) (ma_nil)))))))))))))))

abbrev s_lnumber2 : Stmt := top 40
theorem sc_lnumber2 : FnScope ["_law_word", "_law_found", "_law_sign"] ["_law_word"] (defScope s_lnumber2) := ⟨rfl, rfl, rfl, by decide +kernel, rfl, by decide +kernel, by decide +kernel⟩
theorem v_lnumber2_0 : (defScope s_lnumber2).names.lookup ("_law_word" : Str) = some NameKind.local := by decide +kernel
theorem v_lnumber2_1 : (defScope s_lnumber2).names.lookup ("_law_found" : Str) = some NameKind.local := by decide +kernel
theorem v_lnumber2_2 : (defScope s_lnumber2).names.lookup ("_law_sign" : Str) = some NameKind.local := by decide +kernel
theorem g_lnumber2_len (L a : Addr) (cd : Value) : (PyProof.Rows.envOfC "_law_number" (defScope s_lnumber2) L a cd).kindOf ("len" : Str) = some NameKind.globalImplicit := rfl
theorem g_lnumber2_all (L a : Addr) (cd : Value) : (PyProof.Rows.envOfC "_law_number" (defScope s_lnumber2) L a cd).kindOf ("all" : Str) = some NameKind.globalImplicit := rfl
theorem ok_lnumber2 {P : Program} {w : World} {K : PySem.W.Frag} {mg : Str → Option Value} {base : Heap} {f : Addr} {fd : FuncData} (F : Fun K "_law_number" "_law_number" s_lnumber2 f fd) (B : Bn mg)     :
    FnOk P w K mg base (L2N.CX P w) 2 f fd ["_law_word"] (spF K mg 1 [] f_lnumber2) := by
  refine fn_ok F sc_lnumber2 (by decide) (by decide) fun cdv A outer s H E hr => ?_
  have nd := sc_lnumber2.nd
  have tk : L2N.Takes (cxOf (L2N.CX P w) P w K mg base ["_law_word", "_law_found", "_law_sign"] "_law_number" (defScope s_lnumber2) f cdv A outer s H E) (fun cls d _ H => E cls d H) := L2N.takes_of rfl rfl rfl rfl
  have pn : PassesOwn (model P w) (cxOf (L2N.CX P w) P w K mg base ["_law_word", "_law_found", "_law_sign"] "_law_number" (defScope s_lnumber2) f cdv A outer s H E).A (cxOf (L2N.CX P w) P w K mg base ["_law_word", "_law_found", "_law_sign"] "_law_number" (defScope s_lnumber2) f cdv A outer s H E).env (cxOf (L2N.CX P w) P w K mg base ["_law_word", "_law_found", "_law_sign"] "_law_number" (defScope s_lnumber2) f cdv A outer s H E).xe := passes_of rfl
  unfold m_lnumber2
  exact mss_cons (ms_if (PW.pt (mw_or (mt_cmp op_lt os_lt (mb_len B.len (ma_cons (me_var (i := 0) rfl (.inl v_lnumber2_0)) (ma_nil)) (hg := (g_lnumber2_len _ _ _))) (me_int) (nomark _)) (mw_or (mt_cmp op_gt os_gt (mb_len B.len (ma_cons (me_var (i := 0) rfl (.inl v_lnumber2_0)) (ma_nil)) (hg := (g_lnumber2_len _ _ _))) (me_int) (nomark _)) (mw_one_or (mt_not (mt_val (mb_all rfl B.all (ma_cons (me_fz (mo_lc (own := [("_law_sign", 2)]) (g := .nm 2) rfl nd (mi_val (me_var (i := 0) rfl (.inl v_lnumber2_0))) (blkOk_at (N' := ["_law_word", "_law_found", "_law_sign"]) (sc' := defScope s_lnumber2) rfl rfl (by decide +kernel)) (fun _ _ _ _ _ => pg_name (i := 2) nd rfl (Or.inl rfl)) (fun _ _ _ _ _ => mts_nil) (fun _ _ _ _ _ => me_cmp op_inM os_in (me_var (i := 2) rfl (.inl rfl)) (me_str) rfl) (hbs := hbs_of rfl))) (ma_nil)) (hg := (g_lnumber2_all _ _ _))))))))) (mss_one (ms_ret (me_non))) (mss_nil)) (mss_cons (ms_set (i := 1) nd rfl (.inl v_lnumber2_1) (me_int)) (mss_cons (ms_for pn rfl (mi_val (me_var (i := 0) rfl (.inl v_lnumber2_0))) (mg_name (i := 2) nd rfl (.inl v_lnumber2_2)) (mss_one (ms_set (i := 1) nd rfl (.inl v_lnumber2_1) (me_add (me_mul (me_int) (me_var (i := 1) rfl (.inl v_lnumber2_1))) (me_sm ss_index PySem.F.slot_str_index PySem.F.type_str_index mt_sindex (me_str) (ma_cons (me_var (i := 2) rfl (.inl v_lnumber2_2)) (ma_nil))))))) (mss_cons (ms_if (PW.pt (mw_and (mt_cmp (op_eqM hr.units) os_eq (me_ix (me_var (i := 0) rfl (.inl v_lnumber2_0)) (me_int)) (me_str) (nomark _)) (mw_one_and (mt_cmp (op_neM hr.units) os_ne (me_var (i := 0) rfl (.inl v_lnumber2_0)) (me_str) (nomark _))))) (mss_one (ms_ret (me_non))) (mss_nil)) (mss_one (ms_ret (me_var (i := 1) rfl (.inl v_lnumber2_1)))))))

abbrev s_lrow_of : Stmt := top 41
theorem sc_lrow_of : FnScope ["_law_line_here", "_law_words", "_law_due_here", "_law_numbers", "_law_word", "_law_number_here", "_law_bound"] ["_law_line_here"] (defScope s_lrow_of) := ⟨rfl, rfl, rfl, by decide +kernel, rfl, by decide +kernel, by decide +kernel⟩
theorem v_lrow_of_0 : (defScope s_lrow_of).names.lookup ("_law_line_here" : Str) = some NameKind.local := by decide +kernel
theorem v_lrow_of_1 : (defScope s_lrow_of).names.lookup ("_law_words" : Str) = some NameKind.local := by decide +kernel
theorem v_lrow_of_2 : (defScope s_lrow_of).names.lookup ("_law_due_here" : Str) = some NameKind.local := by decide +kernel
theorem v_lrow_of_3 : (defScope s_lrow_of).names.lookup ("_law_numbers" : Str) = some NameKind.local := by decide +kernel
theorem g_lrow_of_len (L a : Addr) (cd : Value) : (PyProof.Rows.envOfC "_law_row_of" (defScope s_lrow_of) L a cd).kindOf ("len" : Str) = some NameKind.globalImplicit := rfl
theorem g_lrow_of_zip (L a : Addr) (cd : Value) : (PyProof.Rows.envOfC "_law_row_of" (defScope s_lrow_of) L a cd).kindOf ("zip" : Str) = some NameKind.globalImplicit := rfl
theorem g_lrow_of_all (L a : Addr) (cd : Value) : (PyProof.Rows.envOfC "_law_row_of" (defScope s_lrow_of) L a cd).kindOf ("all" : Str) = some NameKind.globalImplicit := rfl
theorem g_lrow_of_tuple (L a : Addr) (cd : Value) : (PyProof.Rows.envOfC "_law_row_of" (defScope s_lrow_of) L a cd).kindOf ("tuple" : Str) = some NameKind.globalImplicit := rfl
theorem ok_lrow_of {P : Program} {w : World} {K : PySem.W.Frag} {mg : Str → Option Value} {base : Heap} {f : Addr} {fd : FuncData} (F : Fun K "_law_row_of" "_law_row_of" s_lrow_of f fd) (B : Bn mg) (h_lnumber2 : Fd P w K mg base "_law_number" 2 ["_law_word"] [] f_lnumber2)    :
    FnOk P w K mg base (L2N.CX P w) 4 f fd ["_law_line_here"] (spF K mg 1 [] f_lrow_of) := by
  refine fn_ok F sc_lrow_of (by decide) (by decide) fun cdv A outer s H E hr => ?_
  have nd := sc_lrow_of.nd
  have tk : L2N.Takes (cxOf (L2N.CX P w) P w K mg base ["_law_line_here", "_law_words", "_law_due_here", "_law_numbers", "_law_word", "_law_number_here", "_law_bound"] "_law_row_of" (defScope s_lrow_of) f cdv A outer s H E) (fun cls d _ H => E cls d H) := L2N.takes_of rfl rfl rfl rfl
  have pn : PassesOwn (model P w) (cxOf (L2N.CX P w) P w K mg base ["_law_line_here", "_law_words", "_law_due_here", "_law_numbers", "_law_word", "_law_number_here", "_law_bound"] "_law_row_of" (defScope s_lrow_of) f cdv A outer s H E).A (cxOf (L2N.CX P w) P w K mg base ["_law_line_here", "_law_words", "_law_due_here", "_law_numbers", "_law_word", "_law_number_here", "_law_bound"] "_law_row_of" (defScope s_lrow_of) f cdv A outer s H E).env (cxOf (L2N.CX P w) P w K mg base ["_law_line_here", "_law_words", "_law_due_here", "_law_numbers", "_law_word", "_law_number_here", "_law_bound"] "_law_row_of" (defScope s_lrow_of) f cdv A outer s H E).xe := passes_of rfl
  unfold m_lrow_of
  exact mss_cons (ms_set (i := 1) nd rfl (.inl v_lrow_of_1) (me_sm ss_split PySem.F.slot_str_split PySem.F.type_str_split mt_split (me_var (i := 0) rfl (.inl v_lrow_of_0)) (ma_cons (me_str) (ma_nil)))) (mss_cons (ms_set (i := 2) nd rfl (.inl v_lrow_of_2) (me_dget2 hr.units (me_dict (dp_str (me_lst (ma_cons (me_int) (ma_cons (me_int) (ma_nil)))) (dp_str (me_lst (ma_cons (me_int) (ma_cons (me_int) (ma_nil)))) (dp_str (me_lst (ma_cons (me_int) (ma_nil))) (dp_str (me_lst (ma_cons (me_int) (ma_nil))) (dp_str (me_lst (ma_cons (me_int) (ma_nil))) (dp_nil))))))) (me_ix (me_var (i := 1) rfl (.inl v_lrow_of_1)) (me_int)) (me_lst (ma_cons (me_int) (ma_cons (me_int) (ma_nil)))) ⟨rfl, rfl, rfl, rfl⟩)) (mss_cons (ms_if (mt_cmp op_notInM os_notIn (me_ix (me_var (i := 1) rfl (.inl v_lrow_of_1)) (me_int)) (me_tup (ma_cons (me_str) (ma_cons (me_str) (ma_cons (me_str) (ma_cons (me_str) (ma_cons (me_str) (ma_cons (me_str) (ma_cons (me_str) (ma_cons (me_str) (ma_cons (me_str) (ma_cons (me_str) (ma_nil)))))))))))) rfl) (mss_one (ms_ret (me_non))) (mss_nil)) (mss_cons (ms_setLc (own := [("_law_word", 4)]) (g := .nm 4) (i := 3) rfl nd rfl v_lrow_of_3 (sw_true rfl v_lrow_of_3 rfl (by decide +kernel)) (mi_val (me_sl (me_var (i := 1) rfl (.inl v_lrow_of_1)) (mp_some (me_int)) (mp_none))) (blkOk_at (N' := ["_law_line_here", "_law_words", "_law_due_here", "_law_numbers", "_law_word", "_law_number_here", "_law_bound"]) (sc' := defScope s_lrow_of) rfl rfl (by decide +kernel)) (fun _ _ _ _ _ => pg_name (i := 4) nd rfl (Or.inl rfl)) (fun _ _ _ _ _ => mts_nil) (fun _ _ _ _ _ => me_fz (mf_call0 h_lnumber2 hr (by decide) (ma_cons (me_var (i := 4) rfl (.inl rfl)) (ma_nil)) (lng_cons lng_nil) (hg := rfl))) (hbs := hbs_of rfl)) (mss_cons (ms_if (PW.pt (mw_or (mt_cmp (op_neM hr.units) os_ne (mb_len B.len (ma_cons (me_var (i := 3) rfl (.inl v_lrow_of_3)) (ma_nil)) (hg := (g_lrow_of_len _ _ _))) (mb_len B.len (ma_cons (me_var (i := 2) rfl (.inl v_lrow_of_2)) (ma_nil)) (hg := (g_lrow_of_len _ _ _))) (nomark _)) (mw_one_or (mt_cmp op_inM os_in (me_non) (me_var (i := 3) rfl (.inl v_lrow_of_3)) rfl)))) (mss_one (ms_ret (me_non))) (mss_nil)) (mss_cons (ms_if (mt_not (mt_val (mb_all rfl B.all (ma_cons (me_fz (mo_lc (own := [("_law_number_here", 5), ("_law_bound", 6)]) (g := .tp [5, 6]) rfl nd (mi_zip B.zip (ma_cons (me_var (i := 3) rfl (.inl v_lrow_of_3)) (ma_cons (me_var (i := 2) rfl (.inl v_lrow_of_2)) (ma_nil))) (hg := (g_lrow_of_zip _ _ _))) (blkOk_at (N' := ["_law_line_here", "_law_words", "_law_due_here", "_law_numbers", "_law_word", "_law_number_here", "_law_bound"]) (sc' := defScope s_lrow_of) rfl rfl (by decide +kernel)) (fun _ _ _ _ _ => pg_tup rfl (pgs_cons (pg_name (i := 5) nd rfl (Or.inl rfl)) (pgs_cons (pg_name (i := 6) nd rfl (Or.inl rfl)) (pgs_nil)))) (fun _ _ _ _ _ => mts_nil) (fun _ _ _ _ _ => me_cmp op_lt os_lt (me_var (i := 5) rfl (.inl rfl)) (me_var (i := 6) rfl (.inl rfl)) (nomark _)) (hbs := hbs_of rfl))) (ma_nil)) (hg := (g_lrow_of_all _ _ _))))) (mss_one (ms_ret (me_non))) (mss_nil)) (mss_one (ms_ret (mb_tuple B.tuple (ma_cons (me_add (me_sl (me_var (i := 1) rfl (.inl v_lrow_of_1)) (mp_none) (mp_some (me_int))) (me_var (i := 3) rfl (.inl v_lrow_of_3))) (ma_nil)) (hg := (g_lrow_of_tuple _ _ _))))))))))

abbrev s_ldue4 : Stmt := top 42
theorem sc_ldue4 : FnScope ["_law_text", "_law_found", "_law_at", "_law_line_here", "_law_row"] ["_law_text"] (defScope s_ldue4) := ⟨rfl, rfl, rfl, by decide +kernel, rfl, by decide +kernel, by decide +kernel⟩
theorem v_ldue4_0 : (defScope s_ldue4).names.lookup ("_law_text" : Str) = some NameKind.local := by decide +kernel
theorem v_ldue4_1 : (defScope s_ldue4).names.lookup ("_law_found" : Str) = some NameKind.local := by decide +kernel
theorem v_ldue4_2 : (defScope s_ldue4).names.lookup ("_law_at" : Str) = some NameKind.local := by decide +kernel
theorem v_ldue4_3 : (defScope s_ldue4).names.lookup ("_law_line_here" : Str) = some NameKind.local := by decide +kernel
theorem v_ldue4_4 : (defScope s_ldue4).names.lookup ("_law_row" : Str) = some NameKind.local := by decide +kernel
theorem g_ldue4_enumerate (L a : Addr) (cd : Value) : (PyProof.Rows.envOfC "_law_due" (defScope s_ldue4) L a cd).kindOf ("enumerate" : Str) = some NameKind.globalImplicit := rfl
theorem g_ldue4_law_row_of (L a : Addr) (cd : Value) : (PyProof.Rows.envOfC "_law_due" (defScope s_ldue4) L a cd).kindOf ("_law_row_of" : Str) = some NameKind.globalImplicit := rfl
theorem g_ldue4_tuple (L a : Addr) (cd : Value) : (PyProof.Rows.envOfC "_law_due" (defScope s_ldue4) L a cd).kindOf ("tuple" : Str) = some NameKind.globalImplicit := rfl
theorem ok_ldue4 {P : Program} {w : World} {K : PySem.W.Frag} {mg : Str → Option Value} {base : Heap} {f : Addr} {fd : FuncData} (F : Fun K "_law_due" "_law_due" s_ldue4 f fd) (B : Bn mg) (h_lrow_of : Fd P w K mg base "_law_row_of" 4 ["_law_line_here"] [] f_lrow_of)    :
    FnOk P w K mg base (L2N.CX P w) 6 f fd ["_law_text"] (spF K mg 1 [] f_ldue4) := by
  refine fn_ok F sc_ldue4 (by decide) (by decide) fun cdv A outer s H E hr => ?_
  have nd := sc_ldue4.nd
  have tk : L2N.Takes (cxOf (L2N.CX P w) P w K mg base ["_law_text", "_law_found", "_law_at", "_law_line_here", "_law_row"] "_law_due" (defScope s_ldue4) f cdv A outer s H E) (fun cls d _ H => E cls d H) := L2N.takes_of rfl rfl rfl rfl
  have pn : PassesOwn (model P w) (cxOf (L2N.CX P w) P w K mg base ["_law_text", "_law_found", "_law_at", "_law_line_here", "_law_row"] "_law_due" (defScope s_ldue4) f cdv A outer s H E).A (cxOf (L2N.CX P w) P w K mg base ["_law_text", "_law_found", "_law_at", "_law_line_here", "_law_row"] "_law_due" (defScope s_ldue4) f cdv A outer s H E).env (cxOf (L2N.CX P w) P w K mg base ["_law_text", "_law_found", "_law_at", "_law_line_here", "_law_row"] "_law_due" (defScope s_ldue4) f cdv A outer s H E).xe := passes_of rfl
  unfold m_ldue4
  exact mss_cons (ms_setO (i := 1) nd rfl (.inl v_ldue4_1) (mo_lst (ma_nil))) (mss_cons (ms_for pn rfl (mi_enum B.enumerate (ma_cons (me_sm ss_split PySem.F.slot_str_split PySem.F.type_str_split mt_split (me_var (i := 0) rfl (.inl v_ldue4_0)) (ma_cons (me_str) (ma_nil))) (ma_nil)) (hg := (g_ldue4_enumerate _ _ _))) (mg_tup rfl (mgs_cons (mg_name (i := 2) nd rfl (.inl v_ldue4_2)) (mgs_cons (mg_name (i := 3) nd rfl (.inl v_ldue4_3)) (mgs_nil)))) (mss_cons (ms_set (i := 4) nd rfl (.inl v_ldue4_4) (me_fz (mf_call h_lrow_of hr (by decide) tk (ma_cons (me_var (i := 3) rfl (.inl v_ldue4_3)) (ma_nil)) (lng_cons lng_nil) (hg := (g_ldue4_law_row_of _ _ _))))) (mss_cons (ms_if (PW.pt (mw_and (mt_cmp (op_neM hr.units) os_ne (me_var (i := 0) rfl (.inl v_ldue4_0)) (me_str) (nomark _)) (mw_one_and (PW.pt (mw_or (mt_cmp (op_eqM hr.units) os_eq (me_var (i := 2) rfl (.inl v_ldue4_2)) (me_int) (nomark _)) (mw_one_or (mt_cmp op_isN os_isN (me_var (i := 4) rfl (.inl v_ldue4_4)) (me_non) (nomark _)))))))) (mss_one (ms_ret (me_tup (ma_cons (me_str) (ma_cons (me_var (i := 2) rfl (.inl v_ldue4_2)) (ma_nil)))))) (mss_nil)) (mss_one (ms_if (mt_cmp (op_neM hr.units) os_ne (me_var (i := 0) rfl (.inl v_ldue4_0)) (me_str) (nomark _)) (mss_one (ms_expr (me_lm1 ls_append PySem.F.slot_list_append PySem.F.type_list_append mt_append (i := 1) rfl (.inl v_ldue4_1) (ma_cons (me_var (i := 4) rfl (.inl v_ldue4_4)) (ma_nil))))) (mss_nil)))))) (mss_one (ms_ret (me_tup (ma_cons (me_str) (ma_cons (mb_tuple B.tuple (ma_cons (me_var (i := 1) rfl (.inl v_ldue4_1)) (ma_nil)) (hg := (g_ldue4_tuple _ _ _))) (ma_nil)))))))

abbrev s_lspoilt3 : Stmt := top 43
theorem sc_lspoilt3 : FnScope ["_law_text", "_law_draws_here", "_law_place", "_law_most", "_law_sign", "_law_few"] ["_law_text", "_law_draws_here"] (defScope s_lspoilt3) := ⟨rfl, rfl, rfl, by decide +kernel, rfl, by decide +kernel, by decide +kernel⟩
theorem v_lspoilt3_0 : (defScope s_lspoilt3).names.lookup ("_law_text" : Str) = some NameKind.local := by decide +kernel
theorem v_lspoilt3_1 : (defScope s_lspoilt3).names.lookup ("_law_draws_here" : Str) = some NameKind.local := by decide +kernel
theorem v_lspoilt3_2 : (defScope s_lspoilt3).names.lookup ("_law_place" : Str) = some NameKind.local := by decide +kernel
theorem v_lspoilt3_3 : (defScope s_lspoilt3).names.lookup ("_law_most" : Str) = some NameKind.local := by decide +kernel
theorem v_lspoilt3_4 : (defScope s_lspoilt3).names.lookup ("_law_sign" : Str) = some NameKind.local := by decide +kernel
theorem v_lspoilt3_5 : (defScope s_lspoilt3).names.lookup ("_law_few" : Str) = some NameKind.local := by decide +kernel
theorem g_lspoilt3_len (L a : Addr) (cd : Value) : (PyProof.Rows.envOfC "_law_spoilt" (defScope s_lspoilt3) L a cd).kindOf ("len" : Str) = some NameKind.globalImplicit := rfl
theorem g_lspoilt3_min (L a : Addr) (cd : Value) : (PyProof.Rows.envOfC "_law_spoilt" (defScope s_lspoilt3) L a cd).kindOf ("min" : Str) = some NameKind.globalImplicit := rfl
theorem ok_lspoilt3 {P : Program} {w : World} {K : PySem.W.Frag} {mg : Str → Option Value} {base : Heap} {f : Addr} {fd : FuncData} (F : Fun K "_law_spoilt" "_law_spoilt" s_lspoilt3 f fd) (B : Bn mg)     :
    FnOk P w K mg base (L2N.CX P w) 2 f fd ["_law_text", "_law_draws_here"] (spF K mg 2 [] f_lspoilt3) := by
  refine fn_ok F sc_lspoilt3 (by decide) (by decide) fun cdv A outer s H E hr => ?_
  have nd := sc_lspoilt3.nd
  have tk : L2N.Takes (cxOf (L2N.CX P w) P w K mg base ["_law_text", "_law_draws_here", "_law_place", "_law_most", "_law_sign", "_law_few"] "_law_spoilt" (defScope s_lspoilt3) f cdv A outer s H E) (fun cls d _ H => E cls d H) := L2N.takes_of rfl rfl rfl rfl
  have pn : PassesOwn (model P w) (cxOf (L2N.CX P w) P w K mg base ["_law_text", "_law_draws_here", "_law_place", "_law_most", "_law_sign", "_law_few"] "_law_spoilt" (defScope s_lspoilt3) f cdv A outer s H E).A (cxOf (L2N.CX P w) P w K mg base ["_law_text", "_law_draws_here", "_law_place", "_law_most", "_law_sign", "_law_few"] "_law_spoilt" (defScope s_lspoilt3) f cdv A outer s H E).env (cxOf (L2N.CX P w) P w K mg base ["_law_text", "_law_draws_here", "_law_place", "_law_most", "_law_sign", "_law_few"] "_law_spoilt" (defScope s_lspoilt3) f cdv A outer s H E).xe := passes_of rfl
  unfold m_lspoilt3
  exact mss_cons (ms_set (i := 2) nd rfl (.inl v_lspoilt3_2) (me_ix (me_lst (ma_cons (me_mod (me_ix (me_var (i := 1) rfl (.inl v_lspoilt3_1)) (me_int)) (me_add (mb_len B.len (ma_cons (me_var (i := 0) rfl (.inl v_lspoilt3_0)) (ma_nil)) (hg := (g_lspoilt3_len _ _ _))) (me_int))) (ma_cons (me_sub (mb_len B.len (ma_cons (me_var (i := 0) rfl (.inl v_lspoilt3_0)) (ma_nil)) (hg := (g_lspoilt3_len _ _ _))) (me_mod (me_ix (me_var (i := 1) rfl (.inl v_lspoilt3_1)) (me_int)) (me_add (mb_min rfl B.min (ma_cons (mb_len B.len (ma_cons (me_var (i := 0) rfl (.inl v_lspoilt3_0)) (ma_nil)) (hg := (g_lspoilt3_len _ _ _))) (ma_cons (me_int) (ma_nil))) (hg := (g_lspoilt3_min _ _ _))) (me_int)))) (ma_nil)))) (me_ix (me_var (i := 1) rfl (.inl v_lspoilt3_1)) (me_int)))) (mss_cons (ms_set (i := 3) nd rfl (.inl v_lspoilt3_3) (me_str)) (mss_cons (ms_set (i := 4) nd rfl (.inl v_lspoilt3_4) (me_ix (me_var (i := 3) rfl (.inl v_lspoilt3_3)) (me_mod (me_ix (me_var (i := 1) rfl (.inl v_lspoilt3_1)) (me_int)) (mb_len B.len (ma_cons (me_var (i := 3) rfl (.inl v_lspoilt3_3)) (ma_nil)) (hg := (g_lspoilt3_len _ _ _)))))) (mss_cons (ms_if (mt_cmp op_lt os_lt (me_ix (me_var (i := 1) rfl (.inl v_lspoilt3_1)) (me_int)) (me_int) (nomark _)) (mss_cons (ms_set (i := 5) nd rfl (.inl v_lspoilt3_5) (me_str)) (mss_one (ms_set (i := 4) nd rfl (.inl v_lspoilt3_4) (me_ix (me_var (i := 5) rfl (.inl v_lspoilt3_5)) (me_mod (me_ix (me_var (i := 1) rfl (.inl v_lspoilt3_1)) (me_int)) (mb_len B.len (ma_cons (me_var (i := 5) rfl (.inl v_lspoilt3_5)) (ma_nil)) (hg := (g_lspoilt3_len _ _ _)))))))) (mss_nil)) (mss_cons (ms_if (mt_cmp (op_eqM hr.units) os_eq (me_ix (me_var (i := 1) rfl (.inl v_lspoilt3_1)) (me_int)) (me_int) (nomark _)) (mss_one (ms_ret (me_add (me_add (me_sl (me_var (i := 0) rfl (.inl v_lspoilt3_0)) (mp_none) (mp_some (me_var (i := 2) rfl (.inl v_lspoilt3_2)))) (me_var (i := 4) rfl (.inl v_lspoilt3_4))) (me_sl (me_var (i := 0) rfl (.inl v_lspoilt3_0)) (mp_some (me_var (i := 2) rfl (.inl v_lspoilt3_2))) (mp_none))))) (mss_nil)) (mss_cons (ms_if (mt_cmp (op_eqM hr.units) os_eq (me_ix (me_var (i := 1) rfl (.inl v_lspoilt3_1)) (me_int)) (me_int) (nomark _)) (mss_one (ms_ret (me_add (me_add (me_sl (me_var (i := 0) rfl (.inl v_lspoilt3_0)) (mp_none) (mp_some (me_var (i := 2) rfl (.inl v_lspoilt3_2)))) (me_var (i := 4) rfl (.inl v_lspoilt3_4))) (me_sl (me_var (i := 0) rfl (.inl v_lspoilt3_0)) (mp_some (me_add (me_var (i := 2) rfl (.inl v_lspoilt3_2)) (me_int))) (mp_none))))) (mss_nil)) (mss_one (ms_ret (me_add (me_sl (me_var (i := 0) rfl (.inl v_lspoilt3_0)) (mp_none) (mp_some (me_var (i := 2) rfl (.inl v_lspoilt3_2)))) (me_sl (me_var (i := 0) rfl (.inl v_lspoilt3_0)) (mp_some (me_add (me_var (i := 2) rfl (.inl v_lspoilt3_2)) (me_int))) (mp_none))))))))))

abbrev s_lline : Stmt := top 39
theorem sc_lline : FnScope ["_law_row", "_law_number_here"] ["_law_row"] (defScope s_lline) := ⟨rfl, rfl, rfl, by decide +kernel, rfl, by decide +kernel, by decide +kernel⟩
theorem v_lline_0 : (defScope s_lline).names.lookup ("_law_row" : Str) = some NameKind.local := by decide +kernel
theorem ok_lline {P : Program} {w : World} {K : PySem.W.Frag} {mg : Str → Option Value} {base : Heap} {f : Addr} {fd : FuncData} (F : Fun K "_law_line" "_law_line" s_lline f fd) (B : Bn mg)     :
    FnOk P w K mg base (L2N.CX P w) 2 f fd ["_law_row"] (spF K mg 1 [] f_lline) := by
  refine fn_ok F sc_lline (by decide) (by decide) fun cdv A outer s H E hr => ?_
  have nd := sc_lline.nd
  have tk : L2N.Takes (cxOf (L2N.CX P w) P w K mg base ["_law_row", "_law_number_here"] "_law_line" (defScope s_lline) f cdv A outer s H E) (fun cls d _ H => E cls d H) := L2N.takes_of rfl rfl rfl rfl
  have pn : PassesOwn (model P w) (cxOf (L2N.CX P w) P w K mg base ["_law_row", "_law_number_here"] "_law_line" (defScope s_lline) f cdv A outer s H E).A (cxOf (L2N.CX P w) P w K mg base ["_law_row", "_law_number_here"] "_law_line" (defScope s_lline) f cdv A outer s H E).env (cxOf (L2N.CX P w) P w K mg base ["_law_row", "_law_number_here"] "_law_line" (defScope s_lline) f cdv A outer s H E).xe := passes_of rfl
  unfold m_lline
  exact mss_one (ms_ret (me_sm ss_join PySem.F.slot_str_join PySem.F.type_str_join mt_join (me_str) (ma_cons (me_add (me_lst (ma_cons (me_ix (me_var (i := 0) rfl (.inl v_lline_0)) (me_int)) (ma_nil))) (me_fz (mo_lc (own := [("_law_number_here", 1)]) (g := .nm 1) rfl nd (mi_val (me_sl (me_var (i := 0) rfl (.inl v_lline_0)) (mp_some (me_int)) (mp_none))) (blkOk_at (N' := ["_law_row", "_law_number_here"]) (sc' := defScope s_lline) rfl rfl (by decide +kernel)) (fun _ _ _ _ _ => pg_name (i := 1) nd rfl (Or.inl rfl)) (fun _ _ _ _ _ => mts_nil) (fun _ _ _ _ _ => mb_str B.str (ma_cons (me_var (i := 1) rfl (.inl rfl)) (ma_nil)) (hg := rfl)) (hbs := hbs_of rfl)))) (ma_nil))))

abbrev s_pparts_due : Stmt := top 22
theorem sc_pparts_due : FnScope ["word"] ["word"] (defScope s_pparts_due) := ⟨rfl, rfl, rfl, by decide +kernel, rfl, by decide +kernel, by decide +kernel⟩
theorem v_pparts_due_0 : (defScope s_pparts_due).names.lookup ("word" : Str) = some NameKind.local := by decide +kernel
theorem g_pparts_due_OTHER_PARTS (L a : Addr) (cd : Value) : (PyProof.Rows.envOfC "parts_due" (defScope s_pparts_due) L a cd).kindOf ("OTHER_PARTS" : Str) = some NameKind.globalImplicit := rfl
theorem g_pparts_due_PARTS (L a : Addr) (cd : Value) : (PyProof.Rows.envOfC "parts_due" (defScope s_pparts_due) L a cd).kindOf ("PARTS" : Str) = some NameKind.globalImplicit := rfl
theorem ok_pparts_due {P : Program} {w : World} {K : PySem.W.Frag} {mg : Str → Option Value} {base : Heap} {f : Addr} {fd : FuncData} (F : Fun K "parts_due" "parts_due" s_pparts_due f fd) (B : Bn mg)    (c_OTHER_PARTS : DCst K w mg "OTHER_PARTS" [("look", (.str "ct")), ("mark", (.str "m"))]) (c_PARTS : DCst K w mg "PARTS" [("put", (.str "cb")), ("copy", (.str "cc")), ("add", (.str "cc")), ("addc", (.str "cc")), ("and", (.str "cc")), ("or", (.str "cc")), ("left", (.str "c")), ("right", (.str "c"))]) :
    FnOk P w K mg base (L2N.CX P w) 2 f fd ["word"] (spF K mg 1 [] f_pparts_due) := by
  refine fn_ok F sc_pparts_due (by decide) (by decide) fun cdv A outer s H E hr => ?_
  have nd := sc_pparts_due.nd
  have tk : L2N.Takes (cxOf (L2N.CX P w) P w K mg base ["word"] "parts_due" (defScope s_pparts_due) f cdv A outer s H E) (fun cls d _ H => E cls d H) := L2N.takes_of rfl rfl rfl rfl
  have pn : PassesOwn (model P w) (cxOf (L2N.CX P w) P w K mg base ["word"] "parts_due" (defScope s_pparts_due) f cdv A outer s H E).A (cxOf (L2N.CX P w) P w K mg base ["word"] "parts_due" (defScope s_pparts_due) f cdv A outer s H E).env (cxOf (L2N.CX P w) P w K mg base ["word"] "parts_due" (defScope s_pparts_due) f cdv A outer s H E).xe := passes_of rfl
  unfold m_pparts_due
  exact mss_cons (ms_if (mt_kin c_OTHER_PARTS (me_var (i := 0) rfl (.inl v_pparts_due_0)) (hg := (g_pparts_due_OTHER_PARTS _ _ _))) (mss_one (ms_ret (me_kix c_OTHER_PARTS (me_var (i := 0) rfl (.inl v_pparts_due_0)) (hg := (g_pparts_due_OTHER_PARTS _ _ _))))) (mss_nil)) (mss_one (ms_ret (me_kget c_PARTS (me_var (i := 0) rfl (.inl v_pparts_due_0)) ⟨rfl, rfl, rfl, rfl⟩ (hg := (g_pparts_due_PARTS _ _ _)))))

abbrev s_pis_row : Stmt := top 23
theorem sc_pis_row : FnScope ["row", "cells", "tables", "due", "bounds", "number", "kind"] ["row", "cells", "tables"] (defScope s_pis_row) := ⟨rfl, rfl, rfl, by decide +kernel, rfl, by decide +kernel, by decide +kernel⟩
theorem v_pis_row_0 : (defScope s_pis_row).names.lookup ("row" : Str) = some NameKind.local := by decide +kernel
theorem v_pis_row_1 : (defScope s_pis_row).names.lookup ("cells" : Str) = some NameKind.local := by decide +kernel
theorem v_pis_row_2 : (defScope s_pis_row).names.lookup ("tables" : Str) = some NameKind.local := by decide +kernel
theorem v_pis_row_3 : (defScope s_pis_row).names.lookup ("due" : Str) = some NameKind.local := by decide +kernel
theorem v_pis_row_4 : (defScope s_pis_row).names.lookup ("bounds" : Str) = some NameKind.cell := by decide +kernel
theorem g_pis_row_parts_due (L a : Addr) (cd : Value) : (PyProof.Rows.envOfC "is_row" (defScope s_pis_row) L a cd).kindOf ("parts_due" : Str) = some NameKind.globalImplicit := rfl
theorem g_pis_row_len (L a : Addr) (cd : Value) : (PyProof.Rows.envOfC "is_row" (defScope s_pis_row) L a cd).kindOf ("len" : Str) = some NameKind.globalImplicit := rfl
theorem g_pis_row_BYTES (L a : Addr) (cd : Value) : (PyProof.Rows.envOfC "is_row" (defScope s_pis_row) L a cd).kindOf ("BYTES" : Str) = some NameKind.globalImplicit := rfl
theorem g_pis_row_zip (L a : Addr) (cd : Value) : (PyProof.Rows.envOfC "is_row" (defScope s_pis_row) L a cd).kindOf ("zip" : Str) = some NameKind.globalImplicit := rfl
theorem g_pis_row_all (L a : Addr) (cd : Value) : (PyProof.Rows.envOfC "is_row" (defScope s_pis_row) L a cd).kindOf ("all" : Str) = some NameKind.globalImplicit := rfl
theorem ok_pis_row {P : Program} {w : World} {K : PySem.W.Frag} {mg : Str → Option Value} {base : Heap} {f : Addr} {fd : FuncData} (F : Fun K "is_row" "is_row" s_pis_row f fd) (B : Bn mg) (h_pparts_due : Fd P w K mg base "parts_due" 2 ["word"] [] f_pparts_due)   (c_BYTES : Cst K mg "BYTES" (.int 256)) :
    FnOk P w K mg base (L2N.CX P w) 4 f fd ["row", "cells", "tables"] (spF K mg 3 [] f_pis_row) := by
  refine fn_ok F sc_pis_row (by decide) (by decide) fun cdv A outer s H E hr => ?_
  have nd := sc_pis_row.nd
  have tk : L2N.Takes (cxOf (L2N.CX P w) P w K mg base ["row", "cells", "tables", "due", "bounds", "number", "kind"] "is_row" (defScope s_pis_row) f cdv A outer s H E) (fun cls d _ H => E cls d H) := L2N.takes_of rfl rfl rfl rfl
  have pn : PassesOwn (model P w) (cxOf (L2N.CX P w) P w K mg base ["row", "cells", "tables", "due", "bounds", "number", "kind"] "is_row" (defScope s_pis_row) f cdv A outer s H E).A (cxOf (L2N.CX P w) P w K mg base ["row", "cells", "tables", "due", "bounds", "number", "kind"] "is_row" (defScope s_pis_row) f cdv A outer s H E).env (cxOf (L2N.CX P w) P w K mg base ["row", "cells", "tables", "due", "bounds", "number", "kind"] "is_row" (defScope s_pis_row) f cdv A outer s H E).xe := passes_of rfl
  unfold m_pis_row
  exact mss_cons (ms_set (i := 3) nd rfl (.inl v_pis_row_3) (me_fz (mf_call h_pparts_due hr (by decide) tk (ma_cons (me_ix (me_var (i := 0) rfl (.inl v_pis_row_0)) (me_int)) (ma_nil)) (lng_cons lng_nil) (hg := (g_pis_row_parts_due _ _ _))))) (mss_cons (ms_if (PW.pt (mw_or (mt_cmp op_isN os_isN (me_var (i := 3) rfl (.inl v_pis_row_3)) (me_non) (nomark _)) (mw_one_or (mt_cmp (op_neM hr.units) os_ne (mb_len B.len (ma_cons (me_var (i := 0) rfl (.inl v_pis_row_0)) (ma_nil)) (hg := (g_pis_row_len _ _ _))) (me_add (me_int) (mb_len B.len (ma_cons (me_var (i := 3) rfl (.inl v_pis_row_3)) (ma_nil)) (hg := (g_pis_row_len _ _ _)))) (nomark _))))) (mss_one (ms_ret (me_bl))) (mss_nil)) (mss_cons (ms_set (i := 4) nd rfl (.inr v_pis_row_4) (me_dict (dp_str (me_var (i := 1) rfl (.inl v_pis_row_1)) (dp_str (mf_con c_BYTES (hg := (g_pis_row_BYTES _ _ _))) (dp_str (me_var (i := 2) rfl (.inl v_pis_row_2)) (dp_str (me_int) (dp_nil))))))) (mss_one (ms_ret (mb_all rfl B.all (ma_cons (me_fz (mo_lc (own := [("number", 5), ("kind", 6)]) (g := .tp [5, 6]) rfl nd (mi_zip B.zip (ma_cons (me_sl (me_var (i := 0) rfl (.inl v_pis_row_0)) (mp_some (me_int)) (mp_none)) (ma_cons (me_var (i := 3) rfl (.inl v_pis_row_3)) (ma_nil))) (hg := (g_pis_row_zip _ _ _))) (blkOk_at (N' := ["row", "cells", "tables", "due", "bounds", "number", "kind"]) (sc' := defScope s_pis_row) rfl rfl (by decide +kernel)) (fun _ _ _ _ _ => pg_tup rfl (pgs_cons (pg_name (i := 5) nd rfl (Or.inl rfl)) (pgs_cons (pg_name (i := 6) nd rfl (Or.inl rfl)) (pgs_nil)))) (fun _ _ _ _ _ => mts_nil) (fun _ _ _ _ _ => me_chain op_le os_le op_lt os_lt (me_int) (me_var (i := 5) rfl (.inl rfl)) (me_dix hr.units (me_var (i := 4) rfl (by first | exact .inr (.inr rfl) | exact .inl rfl | exact .inr (.inl rfl))) (me_var (i := 6) rfl (.inl rfl)))) (hbs := hbs_of rfl))) (ma_nil)) (hg := (g_pis_row_all _ _ _)))))))

abbrev s_pnumber_told : Stmt := top 28
theorem sc_pnumber_told : FnScope ["word", "number", "sign"] ["word"] (defScope s_pnumber_told) := ⟨rfl, rfl, rfl, by decide +kernel, rfl, by decide +kernel, by decide +kernel⟩
theorem v_pnumber_told_0 : (defScope s_pnumber_told).names.lookup ("word" : Str) = some NameKind.local := by decide +kernel
theorem v_pnumber_told_1 : (defScope s_pnumber_told).names.lookup ("number" : Str) = some NameKind.local := by decide +kernel
theorem g_pnumber_told_len (L a : Addr) (cd : Value) : (PyProof.Rows.envOfC "number_told" (defScope s_pnumber_told) L a cd).kindOf ("len" : Str) = some NameKind.globalImplicit := rfl
theorem g_pnumber_told_all (L a : Addr) (cd : Value) : (PyProof.Rows.envOfC "number_told" (defScope s_pnumber_told) L a cd).kindOf ("all" : Str) = some NameKind.globalImplicit := rfl
theorem g_pnumber_told_int (L a : Addr) (cd : Value) : (PyProof.Rows.envOfC "number_told" (defScope s_pnumber_told) L a cd).kindOf ("int" : Str) = some NameKind.globalImplicit := rfl
theorem g_pnumber_told_str (L a : Addr) (cd : Value) : (PyProof.Rows.envOfC "number_told" (defScope s_pnumber_told) L a cd).kindOf ("str" : Str) = some NameKind.globalImplicit := rfl
theorem ok_pnumber_told {P : Program} {w : World} {K : PySem.W.Frag} {mg : Str → Option Value} {base : Heap} {f : Addr} {fd : FuncData} (F : Fun K "number_told" "number_told" s_pnumber_told f fd) (B : Bn mg)    (c_FIGURES : Cst K mg "FIGURES" (.str "0123456789")) :
    FnOk P w K mg base (L2N.CX P w) 2 f fd ["word"] (spF K mg 1 [] f_pnumber_told) := by
  refine fn_ok F sc_pnumber_told (by decide) (by decide) fun cdv A outer s H E hr => ?_
  have nd := sc_pnumber_told.nd
  have tk : L2N.Takes (cxOf (L2N.CX P w) P w K mg base ["word", "number", "sign"] "number_told" (defScope s_pnumber_told) f cdv A outer s H E) (fun cls d _ H => E cls d H) := L2N.takes_of rfl rfl rfl rfl
  have pn : PassesOwn (model P w) (cxOf (L2N.CX P w) P w K mg base ["word", "number", "sign"] "number_told" (defScope s_pnumber_told) f cdv A outer s H E).A (cxOf (L2N.CX P w) P w K mg base ["word", "number", "sign"] "number_told" (defScope s_pnumber_told) f cdv A outer s H E).env (cxOf (L2N.CX P w) P w K mg base ["word", "number", "sign"] "number_told" (defScope s_pnumber_told) f cdv A outer s H E).xe := passes_of rfl
  unfold m_pnumber_told
  exact mss_cons (ms_if (PW.pt (mw_or (mt_cmp op_notInM os_notIn (mb_len B.len (ma_cons (me_var (i := 0) rfl (.inl v_pnumber_told_0)) (ma_nil)) (hg := (g_pnumber_told_len _ _ _))) (me_tup (ma_cons (me_int) (ma_cons (me_int) (ma_cons (me_int) (ma_nil))))) rfl) (mw_one_or (mt_not (mt_val (mb_all rfl B.all (ma_cons (me_fz (mo_lc (own := [("sign", 2)]) (g := .nm 2) rfl nd (mi_val (me_var (i := 0) rfl (.inl v_pnumber_told_0))) (blkOk_at (N' := ["word", "number", "sign"]) (sc' := defScope s_pnumber_told) rfl rfl (by decide +kernel)) (fun _ _ _ _ _ => pg_name (i := 2) nd rfl (Or.inl rfl)) (fun _ _ _ _ _ => mts_nil) (fun _ _ _ _ _ => me_cmp op_inM os_in (me_var (i := 2) rfl (.inl rfl)) (mf_con c_FIGURES (hg := rfl)) rfl) (hbs := hbs_of rfl))) (ma_nil)) (hg := (g_pnumber_told_all _ _ _)))))))) (mss_one (ms_ret (me_neg (me_int)))) (mss_nil)) (mss_cons (ms_set (i := 1) nd rfl (.inl v_pnumber_told_1) (mb_int B.int (ma_cons (me_var (i := 0) rfl (.inl v_pnumber_told_0)) (ma_nil)) (hg := (g_pnumber_told_int _ _ _)))) (mss_cons (ms_if (mt_cmp (op_neM hr.units) os_ne (mb_str B.str (ma_cons (me_var (i := 1) rfl (.inl v_pnumber_told_1)) (ma_nil)) (hg := (g_pnumber_told_str _ _ _))) (me_var (i := 0) rfl (.inl v_pnumber_told_0)) (nomark _)) (mss_one (ms_ret (me_neg (me_int)))) (mss_nil)) (mss_one (ms_ret (me_var (i := 1) rfl (.inl v_pnumber_told_1))))))

abbrev s_prow_told : Stmt := top 29
theorem sc_prow_told : FnScope ["at", "line", "words", "row", "word"] ["at", "line"] (defScope s_prow_told) := ⟨rfl, rfl, rfl, by decide +kernel, rfl, by decide +kernel, by decide +kernel⟩
theorem v_prow_told_0 : (defScope s_prow_told).names.lookup ("at" : Str) = some NameKind.local := by decide +kernel
theorem v_prow_told_1 : (defScope s_prow_told).names.lookup ("line" : Str) = some NameKind.local := by decide +kernel
theorem v_prow_told_2 : (defScope s_prow_told).names.lookup ("words" : Str) = some NameKind.local := by decide +kernel
theorem v_prow_told_3 : (defScope s_prow_told).names.lookup ("row" : Str) = some NameKind.local := by decide +kernel
theorem g_prow_told_len (L a : Addr) (cd : Value) : (PyProof.Rows.envOfC "row_told" (defScope s_prow_told) L a cd).kindOf ("len" : Str) = some NameKind.globalImplicit := rfl
theorem g_prow_told_MOST_WORDS (L a : Addr) (cd : Value) : (PyProof.Rows.envOfC "row_told" (defScope s_prow_told) L a cd).kindOf ("MOST_WORDS" : Str) = some NameKind.globalImplicit := rfl
theorem g_prow_told_BadLine (L a : Addr) (cd : Value) : (PyProof.Rows.envOfC "row_told" (defScope s_prow_told) L a cd).kindOf ("BadLine" : Str) = some NameKind.globalImplicit := rfl
theorem g_prow_told_tuple (L a : Addr) (cd : Value) : (PyProof.Rows.envOfC "row_told" (defScope s_prow_told) L a cd).kindOf ("tuple" : Str) = some NameKind.globalImplicit := rfl
theorem g_prow_told_MOST_TABLES (L a : Addr) (cd : Value) : (PyProof.Rows.envOfC "row_told" (defScope s_prow_told) L a cd).kindOf ("MOST_TABLES" : Str) = some NameKind.globalImplicit := rfl
theorem g_prow_told_BYTES (L a : Addr) (cd : Value) : (PyProof.Rows.envOfC "row_told" (defScope s_prow_told) L a cd).kindOf ("BYTES" : Str) = some NameKind.globalImplicit := rfl
theorem g_prow_told_is_row (L a : Addr) (cd : Value) : (PyProof.Rows.envOfC "row_told" (defScope s_prow_told) L a cd).kindOf ("is_row" : Str) = some NameKind.globalImplicit := rfl
theorem ok_prow_told {P : Program} {w : World} {K : PySem.W.Frag} {mg : Str → Option Value} {base : Heap} {f : Addr} {fd : FuncData} (F : Fun K "row_told" "row_told" s_prow_told f fd) (B : Bn mg) (h_pnumber_told : Fd P w K mg base "number_told" 2 ["word"] [] f_pnumber_told) (h_pis_row : Fd P w K mg base "is_row" 4 ["row", "cells", "tables"] [] f_pis_row)  (xcl1_BadLine_at : Cl1 P w K mg base "BadLine" "at") (c_MOST_WORDS : Cst K mg "MOST_WORDS" (.int 3)) (c_MOST_TABLES : Cst K mg "MOST_TABLES" (.int 16)) (c_BYTES : Cst K mg "BYTES" (.int 256)) :
    FnOk P w K mg base (L2N.CX P w) 6 f fd ["at", "line"] (spF K mg 2 [] f_prow_told) := by
  refine fn_ok F sc_prow_told (by decide) (by decide) fun cdv A outer s H E hr => ?_
  have nd := sc_prow_told.nd
  have tk : L2N.Takes (cxOf (L2N.CX P w) P w K mg base ["at", "line", "words", "row", "word"] "row_told" (defScope s_prow_told) f cdv A outer s H E) (fun cls d _ H => E cls d H) := L2N.takes_of rfl rfl rfl rfl
  have pn : PassesOwn (model P w) (cxOf (L2N.CX P w) P w K mg base ["at", "line", "words", "row", "word"] "row_told" (defScope s_prow_told) f cdv A outer s H E).A (cxOf (L2N.CX P w) P w K mg base ["at", "line", "words", "row", "word"] "row_told" (defScope s_prow_told) f cdv A outer s H E).env (cxOf (L2N.CX P w) P w K mg base ["at", "line", "words", "row", "word"] "row_told" (defScope s_prow_told) f cdv A outer s H E).xe := passes_of rfl
  unfold m_prow_told
  exact mss_cons (ms_set (i := 2) nd rfl (.inl v_prow_told_2) (me_sm ss_split PySem.F.slot_str_split PySem.F.type_str_split mt_split (me_var (i := 1) rfl (.inl v_prow_told_1)) (ma_cons (me_str) (ma_nil)))) (mss_cons (ms_if (mt_cmp op_gt os_gt (mb_len B.len (ma_cons (me_var (i := 2) rfl (.inl v_prow_told_2)) (ma_nil)) (hg := (g_prow_told_len _ _ _))) (mf_con c_MOST_WORDS (hg := (g_prow_told_MOST_WORDS _ _ _))) (nomark _)) (mss_one (ms_raise1 xcl1_BadLine_at rfl hr (by decide) tk (g_prow_told_BadLine _ _ _) (me_var (i := 0) rfl (.inl v_prow_told_0)))) (mss_nil)) (mss_cons (ms_set (i := 3) nd rfl (.inl v_prow_told_3) (mb_tuple B.tuple (ma_cons (me_add (me_sl (me_var (i := 2) rfl (.inl v_prow_told_2)) (mp_none) (mp_some (me_int))) (me_fz (mo_lc (own := [("word", 4)]) (g := .nm 4) rfl nd (mi_val (me_sl (me_var (i := 2) rfl (.inl v_prow_told_2)) (mp_some (me_int)) (mp_none))) (blkOk_at (N' := ["at", "line", "words", "row", "word"]) (sc' := defScope s_prow_told) rfl rfl (by decide +kernel)) (fun _ _ _ _ _ => pg_name (i := 4) nd rfl (Or.inl rfl)) (fun _ _ _ _ _ => mts_nil) (fun _ _ _ _ _ => me_fz (mf_call0 h_pnumber_told hr (by decide) (ma_cons (me_var (i := 4) rfl (.inl rfl)) (ma_nil)) (lng_cons lng_nil) (hg := rfl))) (hbs := hbs_of rfl)))) (ma_nil)) (hg := (g_prow_told_tuple _ _ _)))) (mss_cons (ms_if (mt_not (mt_val (me_fz (mf_call h_pis_row hr (by decide) tk (ma_cons (me_var (i := 3) rfl (.inl v_prow_told_3)) (ma_cons (mf_con c_BYTES (hg := (g_prow_told_BYTES _ _ _))) (ma_cons (mf_con c_MOST_TABLES (hg := (g_prow_told_MOST_TABLES _ _ _))) (ma_nil)))) (lng_cons (lng_cons (lng_cons lng_nil))) (hg := (g_prow_told_is_row _ _ _)))))) (mss_one (ms_raise1 xcl1_BadLine_at rfl hr (by decide) tk (g_prow_told_BadLine _ _ _) (me_var (i := 0) rfl (.inl v_prow_told_0)))) (mss_nil)) (mss_one (ms_ret (me_var (i := 3) rfl (.inl v_prow_told_3)))))))

abbrev s_prows_told : Stmt := top 30
theorem sc_prows_told : FnScope ["text", "found", "at", "line"] ["text"] (defScope s_prows_told) := ⟨rfl, rfl, rfl, by decide +kernel, rfl, by decide +kernel, by decide +kernel⟩
theorem v_prows_told_0 : (defScope s_prows_told).names.lookup ("text" : Str) = some NameKind.local := by decide +kernel
theorem v_prows_told_1 : (defScope s_prows_told).names.lookup ("found" : Str) = some NameKind.local := by decide +kernel
theorem v_prows_told_2 : (defScope s_prows_told).names.lookup ("at" : Str) = some NameKind.local := by decide +kernel
theorem v_prows_told_3 : (defScope s_prows_told).names.lookup ("line" : Str) = some NameKind.local := by decide +kernel
theorem g_prows_told_enumerate (L a : Addr) (cd : Value) : (PyProof.Rows.envOfC "rows_told" (defScope s_prows_told) L a cd).kindOf ("enumerate" : Str) = some NameKind.globalImplicit := rfl
theorem g_prows_told_MOST_LINES (L a : Addr) (cd : Value) : (PyProof.Rows.envOfC "rows_told" (defScope s_prows_told) L a cd).kindOf ("MOST_LINES" : Str) = some NameKind.globalImplicit := rfl
theorem g_prows_told_BadLine (L a : Addr) (cd : Value) : (PyProof.Rows.envOfC "rows_told" (defScope s_prows_told) L a cd).kindOf ("BadLine" : Str) = some NameKind.globalImplicit := rfl
theorem g_prows_told_row_told (L a : Addr) (cd : Value) : (PyProof.Rows.envOfC "rows_told" (defScope s_prows_told) L a cd).kindOf ("row_told" : Str) = some NameKind.globalImplicit := rfl
theorem g_prows_told_tuple (L a : Addr) (cd : Value) : (PyProof.Rows.envOfC "rows_told" (defScope s_prows_told) L a cd).kindOf ("tuple" : Str) = some NameKind.globalImplicit := rfl
theorem ok_prows_told {P : Program} {w : World} {K : PySem.W.Frag} {mg : Str → Option Value} {base : Heap} {f : Addr} {fd : FuncData} (F : Fun K "rows_told" "rows_told" s_prows_told f fd) (B : Bn mg) (h_prow_told : Fd P w K mg base "row_told" 6 ["at", "line"] [] f_prow_told)  (xcl1_BadLine_at : Cl1 P w K mg base "BadLine" "at") (c_MOST_LINES : Cst K mg "MOST_LINES" (.int 200)) :
    FnOk P w K mg base (L2N.CX P w) 8 f fd ["text"] (spF K mg 1 [] f_prows_told) := by
  refine fn_ok F sc_prows_told (by decide) (by decide) fun cdv A outer s H E hr => ?_
  have nd := sc_prows_told.nd
  have tk : L2N.Takes (cxOf (L2N.CX P w) P w K mg base ["text", "found", "at", "line"] "rows_told" (defScope s_prows_told) f cdv A outer s H E) (fun cls d _ H => E cls d H) := L2N.takes_of rfl rfl rfl rfl
  have pn : PassesOwn (model P w) (cxOf (L2N.CX P w) P w K mg base ["text", "found", "at", "line"] "rows_told" (defScope s_prows_told) f cdv A outer s H E).A (cxOf (L2N.CX P w) P w K mg base ["text", "found", "at", "line"] "rows_told" (defScope s_prows_told) f cdv A outer s H E).env (cxOf (L2N.CX P w) P w K mg base ["text", "found", "at", "line"] "rows_told" (defScope s_prows_told) f cdv A outer s H E).xe := passes_of rfl
  unfold m_prows_told
  exact mss_cons (ms_if (mt_cmp (op_eqM hr.units) os_eq (me_var (i := 0) rfl (.inl v_prows_told_0)) (me_str) (nomark _)) (mss_one (ms_ret (me_tup (ma_nil)))) (mss_nil)) (mss_cons (ms_setO (i := 1) nd rfl (.inl v_prows_told_1) (mo_lst (ma_nil))) (mss_cons (ms_for pn rfl (mi_enum B.enumerate (ma_cons (me_sm ss_split PySem.F.slot_str_split PySem.F.type_str_split mt_split (me_var (i := 0) rfl (.inl v_prows_told_0)) (ma_cons (me_str) (ma_nil))) (ma_nil)) (hg := (g_prows_told_enumerate _ _ _))) (mg_tup rfl (mgs_cons (mg_name (i := 2) nd rfl (.inl v_prows_told_2)) (mgs_cons (mg_name (i := 3) nd rfl (.inl v_prows_told_3)) (mgs_nil)))) (mss_cons (ms_if (mt_cmp (op_eqM hr.units) os_eq (me_var (i := 2) rfl (.inl v_prows_told_2)) (mf_con c_MOST_LINES (hg := (g_prows_told_MOST_LINES _ _ _))) (nomark _)) (mss_one (ms_raise1 xcl1_BadLine_at rfl hr (by decide) tk (g_prows_told_BadLine _ _ _) (me_var (i := 2) rfl (.inl v_prows_told_2)))) (mss_nil)) (mss_one (ms_expr (me_lm1 ls_append PySem.F.slot_list_append PySem.F.type_list_append mt_append (i := 1) rfl (.inl v_prows_told_1) (ma_cons (me_fz (mf_call h_prow_told hr (by decide) tk (ma_cons (me_var (i := 2) rfl (.inl v_prows_told_2)) (ma_cons (me_var (i := 3) rfl (.inl v_prows_told_3)) (ma_nil))) (lng_cons (lng_cons lng_nil)) (hg := (g_prows_told_row_told _ _ _)))) (ma_nil))))))) (mss_one (ms_ret (mb_tuple B.tuple (ma_cons (me_var (i := 1) rfl (.inl v_prows_told_1)) (ma_nil)) (hg := (g_prows_told_tuple _ _ _)))))))

abbrev s_lsorts : Stmt := top 35
theorem sc_lsorts : FnScope ["_law_e", "_law_sorts_here", "_law_word", "_law_here"] ["_law_e"] (defScope s_lsorts) := ⟨rfl, rfl, rfl, by decide +kernel, rfl, by decide +kernel, by decide +kernel⟩
theorem v_lsorts_0 : (defScope s_lsorts).names.lookup ("_law_e" : Str) = some NameKind.local := by decide +kernel
theorem v_lsorts_1 : (defScope s_lsorts).names.lookup ("_law_sorts_here" : Str) = some NameKind.local := by decide +kernel
theorem g_lsorts_isinstance (L a : Addr) (cd : Value) : (PyProof.Rows.envOfC "_law_sorts" (defScope s_lsorts) L a cd).kindOf ("isinstance" : Str) = some NameKind.globalImplicit := rfl
theorem g_lsorts_Wrong (L a : Addr) (cd : Value) : (PyProof.Rows.envOfC "_law_sorts" (defScope s_lsorts) L a cd).kindOf ("Wrong" : Str) = some NameKind.globalImplicit := rfl
theorem g_lsorts_NoFit (L a : Addr) (cd : Value) : (PyProof.Rows.envOfC "_law_sorts" (defScope s_lsorts) L a cd).kindOf ("NoFit" : Str) = some NameKind.globalImplicit := rfl
theorem g_lsorts_NoShape (L a : Addr) (cd : Value) : (PyProof.Rows.envOfC "_law_sorts" (defScope s_lsorts) L a cd).kindOf ("NoShape" : Str) = some NameKind.globalImplicit := rfl
theorem g_lsorts_NoRow (L a : Addr) (cd : Value) : (PyProof.Rows.envOfC "_law_sorts" (defScope s_lsorts) L a cd).kindOf ("NoRow" : Str) = some NameKind.globalImplicit := rfl
theorem g_lsorts_NoTable (L a : Addr) (cd : Value) : (PyProof.Rows.envOfC "_law_sorts" (defScope s_lsorts) L a cd).kindOf ("NoTable" : Str) = some NameKind.globalImplicit := rfl
theorem g_lsorts_TooLong (L a : Addr) (cd : Value) : (PyProof.Rows.envOfC "_law_sorts" (defScope s_lsorts) L a cd).kindOf ("TooLong" : Str) = some NameKind.globalImplicit := rfl
theorem g_lsorts_BadLine (L a : Addr) (cd : Value) : (PyProof.Rows.envOfC "_law_sorts" (defScope s_lsorts) L a cd).kindOf ("BadLine" : Str) = some NameKind.globalImplicit := rfl
theorem g_lsorts_NoDeed (L a : Addr) (cd : Value) : (PyProof.Rows.envOfC "_law_sorts" (defScope s_lsorts) L a cd).kindOf ("NoDeed" : Str) = some NameKind.globalImplicit := rfl
theorem g_lsorts_NoRule (L a : Addr) (cd : Value) : (PyProof.Rows.envOfC "_law_sorts" (defScope s_lsorts) L a cd).kindOf ("NoRule" : Str) = some NameKind.globalImplicit := rfl
theorem g_lsorts_NoText (L a : Addr) (cd : Value) : (PyProof.Rows.envOfC "_law_sorts" (defScope s_lsorts) L a cd).kindOf ("NoText" : Str) = some NameKind.globalImplicit := rfl
theorem g_lsorts_NoName (L a : Addr) (cd : Value) : (PyProof.Rows.envOfC "_law_sorts" (defScope s_lsorts) L a cd).kindOf ("NoName" : Str) = some NameKind.globalImplicit := rfl
theorem g_lsorts_Unlike (L a : Addr) (cd : Value) : (PyProof.Rows.envOfC "_law_sorts" (defScope s_lsorts) L a cd).kindOf ("Unlike" : Str) = some NameKind.globalImplicit := rfl
theorem g_lsorts_Nought (L a : Addr) (cd : Value) : (PyProof.Rows.envOfC "_law_sorts" (defScope s_lsorts) L a cd).kindOf ("Nought" : Str) = some NameKind.globalImplicit := rfl
theorem g_lsorts_NothingDone (L a : Addr) (cd : Value) : (PyProof.Rows.envOfC "_law_sorts" (defScope s_lsorts) L a cd).kindOf ("NothingDone" : Str) = some NameKind.globalImplicit := rfl
theorem g_lsorts_NoLine (L a : Addr) (cd : Value) : (PyProof.Rows.envOfC "_law_sorts" (defScope s_lsorts) L a cd).kindOf ("NoLine" : Str) = some NameKind.globalImplicit := rfl
theorem g_lsorts_ValueError (L a : Addr) (cd : Value) : (PyProof.Rows.envOfC "_law_sorts" (defScope s_lsorts) L a cd).kindOf ("ValueError" : Str) = some NameKind.globalImplicit := rfl
theorem g_lsorts_LoftError (L a : Addr) (cd : Value) : (PyProof.Rows.envOfC "_law_sorts" (defScope s_lsorts) L a cd).kindOf ("LoftError" : Str) = some NameKind.globalImplicit := rfl
theorem ok_lsorts {P : Program} {w : World} {K : PySem.W.Frag} {mg : Str → Option Value} {base : Heap} {f : Addr} {fd : FuncData} (F : Fun K "_law_sorts" "_law_sorts" s_lsorts f fd) (B : Bn mg)   (xxcf_BadLine_ : XcF K mg [] "BadLine") (xkit_Wrong_BadLine_False : KiT K mg "Wrong" "BadLine" false) (xcls_Wrong : ∃ D, mg "Wrong" = some (.ref D)) (xkit_NoFit_BadLine_False : KiT K mg "NoFit" "BadLine" false) (xcls_NoFit : ∃ D, mg "NoFit" = some (.ref D)) (xkit_NoShape_BadLine_False : KiT K mg "NoShape" "BadLine" false) (xcls_NoShape : ∃ D, mg "NoShape" = some (.ref D)) (xkit_NoRow_BadLine_False : KiT K mg "NoRow" "BadLine" false) (xcls_NoRow : ∃ D, mg "NoRow" = some (.ref D)) (xkit_NoTable_BadLine_False : KiT K mg "NoTable" "BadLine" false) (xcls_NoTable : ∃ D, mg "NoTable" = some (.ref D)) (xkit_TooLong_BadLine_False : KiT K mg "TooLong" "BadLine" false) (xcls_TooLong : ∃ D, mg "TooLong" = some (.ref D)) (xkit_BadLine_BadLine_True : KiT K mg "BadLine" "BadLine" true) (xcls_BadLine : ∃ D, mg "BadLine" = some (.ref D)) (xkit_NoDeed_BadLine_False : KiT K mg "NoDeed" "BadLine" false) (xcls_NoDeed : ∃ D, mg "NoDeed" = some (.ref D)) (xkit_NoRule_BadLine_False : KiT K mg "NoRule" "BadLine" false) (xcls_NoRule : ∃ D, mg "NoRule" = some (.ref D)) (xkit_NoText_BadLine_False : KiT K mg "NoText" "BadLine" false) (xcls_NoText : ∃ D, mg "NoText" = some (.ref D)) (xkit_NoName_BadLine_False : KiT K mg "NoName" "BadLine" false) (xcls_NoName : ∃ D, mg "NoName" = some (.ref D)) (xkit_Unlike_BadLine_False : KiT K mg "Unlike" "BadLine" false) (xcls_Unlike : ∃ D, mg "Unlike" = some (.ref D)) (xkit_Nought_BadLine_False : KiT K mg "Nought" "BadLine" false) (xcls_Nought : ∃ D, mg "Nought" = some (.ref D)) (xkit_NothingDone_BadLine_False : KiT K mg "NothingDone" "BadLine" false) (xcls_NothingDone : ∃ D, mg "NothingDone" = some (.ref D)) (xkit_NoLine_BadLine_False : KiT K mg "NoLine" "BadLine" false) (xcls_NoLine : ∃ D, mg "NoLine" = some (.ref D)) (xkib_ValueError_BadLine : KiB K mg "ValueError" "BadLine") (xnog_ValueError : mg "ValueError" = none) (xkit_LoftError_BadLine_True : KiT K mg "LoftError" "BadLine" true) (xcls_LoftError : ∃ D, mg "LoftError" = some (.ref D))  :
    FnE P w K mg base (L2N.CX P w) 2 f fd ["_law_e"] (spE K mg ["BadLine"] f_lsorts) := by
  refine fnE_ok F sc_lsorts (by decide) fun cdv A outer s H E p e C d hot hr hC hT hz hv => ?_
  have nd := sc_lsorts.nd
  have hm : (p.1, p.2) ∈ (L2H.cxH (L2N.CX P w) P w K mg base ["_law_e", "_law_sorts_here", "_law_word", "_law_here"] "_law_sorts" (defScope s_lsorts) f cdv A outer s H E p).pn := List.mem_singleton.mpr rfl
  have hcH : L2H.HotC (L2H.cxH (L2N.CX P w) P w K mg base ["_law_e", "_law_sorts_here", "_law_word", "_law_here"] "_law_sorts" (defScope s_lsorts) f cdv A outer s H E p) := ⟨p, ⟨hot.1, hot.2⟩, List.mem_singleton.mpr rfl⟩
  unfold m_lsorts
  exact mss_cons (ms_set (i := 1) nd rfl (.inl v_lsorts_1) (me_lst (ma_cons (me_tup (ma_cons (me_str) (ma_cons (mx_isG hm (xc_of (fs := []) (ts := ["BadLine"]) (fa_cons xxcf_BadLine_ (fa_nil)) hC hT) (ki_of (ts := ["BadLine"]) (l := [("BadLine", false)]) (fa_cons xkit_NoShape_BadLine_False (fa_nil)) (by decide) hT) xcls_NoShape hC hz hv rfl (.inl v_lsorts_0) B.isinstance (g_lsorts_isinstance _ _ _) (g_lsorts_NoShape _ _ _)) (ma_nil)))) (ma_cons (me_tup (ma_cons (me_str) (ma_cons (mx_isG hm (xc_of (fs := []) (ts := ["BadLine"]) (fa_cons xxcf_BadLine_ (fa_nil)) hC hT) (ki_of (ts := ["BadLine"]) (l := [("BadLine", false)]) (fa_cons xkit_NoFit_BadLine_False (fa_nil)) (by decide) hT) xcls_NoFit hC hz hv rfl (.inl v_lsorts_0) B.isinstance (g_lsorts_isinstance _ _ _) (g_lsorts_NoFit _ _ _)) (ma_nil)))) (ma_cons (me_tup (ma_cons (me_str) (ma_cons (mx_isG hm (xc_of (fs := []) (ts := ["BadLine"]) (fa_cons xxcf_BadLine_ (fa_nil)) hC hT) (ki_of (ts := ["BadLine"]) (l := [("BadLine", false)]) (fa_cons xkit_Wrong_BadLine_False (fa_nil)) (by decide) hT) xcls_Wrong hC hz hv rfl (.inl v_lsorts_0) B.isinstance (g_lsorts_isinstance _ _ _) (g_lsorts_Wrong _ _ _)) (ma_nil)))) (ma_nil)))))) (mss_cons (ms_set (i := 1) nd rfl (.inl v_lsorts_1) (me_add (me_var (i := 1) rfl (.inl v_lsorts_1)) (me_lst (ma_cons (me_tup (ma_cons (me_str) (ma_cons (mx_isG hm (xc_of (fs := []) (ts := ["BadLine"]) (fa_cons xxcf_BadLine_ (fa_nil)) hC hT) (ki_of (ts := ["BadLine"]) (l := [("BadLine", false)]) (fa_cons xkit_NoTable_BadLine_False (fa_nil)) (by decide) hT) xcls_NoTable hC hz hv rfl (.inl v_lsorts_0) B.isinstance (g_lsorts_isinstance _ _ _) (g_lsorts_NoTable _ _ _)) (ma_nil)))) (ma_cons (me_tup (ma_cons (me_str) (ma_cons (mx_isG hm (xc_of (fs := []) (ts := ["BadLine"]) (fa_cons xxcf_BadLine_ (fa_nil)) hC hT) (ki_of (ts := ["BadLine"]) (l := [("BadLine", false)]) (fa_cons xkit_NoRow_BadLine_False (fa_nil)) (by decide) hT) xcls_NoRow hC hz hv rfl (.inl v_lsorts_0) B.isinstance (g_lsorts_isinstance _ _ _) (g_lsorts_NoRow _ _ _)) (ma_nil)))) (ma_nil)))))) (mss_cons (ms_set (i := 1) nd rfl (.inl v_lsorts_1) (me_add (me_var (i := 1) rfl (.inl v_lsorts_1)) (me_lst (ma_cons (me_tup (ma_cons (me_str) (ma_cons (mx_isG hm (xc_of (fs := []) (ts := ["BadLine"]) (fa_cons xxcf_BadLine_ (fa_nil)) hC hT) (ki_of (ts := ["BadLine"]) (l := [("BadLine", true)]) (fa_cons xkit_BadLine_BadLine_True (fa_nil)) (by decide) hT) xcls_BadLine hC hz hv rfl (.inl v_lsorts_0) B.isinstance (g_lsorts_isinstance _ _ _) (g_lsorts_BadLine _ _ _)) (ma_nil)))) (ma_cons (me_tup (ma_cons (me_str) (ma_cons (mx_isG hm (xc_of (fs := []) (ts := ["BadLine"]) (fa_cons xxcf_BadLine_ (fa_nil)) hC hT) (ki_of (ts := ["BadLine"]) (l := [("BadLine", false)]) (fa_cons xkit_TooLong_BadLine_False (fa_nil)) (by decide) hT) xcls_TooLong hC hz hv rfl (.inl v_lsorts_0) B.isinstance (g_lsorts_isinstance _ _ _) (g_lsorts_TooLong _ _ _)) (ma_nil)))) (ma_nil)))))) (mss_cons (ms_set (i := 1) nd rfl (.inl v_lsorts_1) (me_add (me_var (i := 1) rfl (.inl v_lsorts_1)) (me_lst (ma_cons (me_tup (ma_cons (me_str) (ma_cons (mx_isG hm (xc_of (fs := []) (ts := ["BadLine"]) (fa_cons xxcf_BadLine_ (fa_nil)) hC hT) (ki_of (ts := ["BadLine"]) (l := [("BadLine", false)]) (fa_cons xkit_NoRule_BadLine_False (fa_nil)) (by decide) hT) xcls_NoRule hC hz hv rfl (.inl v_lsorts_0) B.isinstance (g_lsorts_isinstance _ _ _) (g_lsorts_NoRule _ _ _)) (ma_nil)))) (ma_cons (me_tup (ma_cons (me_str) (ma_cons (mx_isG hm (xc_of (fs := []) (ts := ["BadLine"]) (fa_cons xxcf_BadLine_ (fa_nil)) hC hT) (ki_of (ts := ["BadLine"]) (l := [("BadLine", false)]) (fa_cons xkit_NoDeed_BadLine_False (fa_nil)) (by decide) hT) xcls_NoDeed hC hz hv rfl (.inl v_lsorts_0) B.isinstance (g_lsorts_isinstance _ _ _) (g_lsorts_NoDeed _ _ _)) (ma_nil)))) (ma_nil)))))) (mss_cons (ms_set (i := 1) nd rfl (.inl v_lsorts_1) (me_add (me_var (i := 1) rfl (.inl v_lsorts_1)) (me_lst (ma_cons (me_tup (ma_cons (me_str) (ma_cons (mx_isG hm (xc_of (fs := []) (ts := ["BadLine"]) (fa_cons xxcf_BadLine_ (fa_nil)) hC hT) (ki_of (ts := ["BadLine"]) (l := [("BadLine", false)]) (fa_cons xkit_NoName_BadLine_False (fa_nil)) (by decide) hT) xcls_NoName hC hz hv rfl (.inl v_lsorts_0) B.isinstance (g_lsorts_isinstance _ _ _) (g_lsorts_NoName _ _ _)) (ma_nil)))) (ma_cons (me_tup (ma_cons (me_str) (ma_cons (mx_isG hm (xc_of (fs := []) (ts := ["BadLine"]) (fa_cons xxcf_BadLine_ (fa_nil)) hC hT) (ki_of (ts := ["BadLine"]) (l := [("BadLine", false)]) (fa_cons xkit_NoText_BadLine_False (fa_nil)) (by decide) hT) xcls_NoText hC hz hv rfl (.inl v_lsorts_0) B.isinstance (g_lsorts_isinstance _ _ _) (g_lsorts_NoText _ _ _)) (ma_nil)))) (ma_nil)))))) (mss_cons (ms_set (i := 1) nd rfl (.inl v_lsorts_1) (me_add (me_var (i := 1) rfl (.inl v_lsorts_1)) (me_lst (ma_cons (me_tup (ma_cons (me_str) (ma_cons (mx_isG hm (xc_of (fs := []) (ts := ["BadLine"]) (fa_cons xxcf_BadLine_ (fa_nil)) hC hT) (ki_of (ts := ["BadLine"]) (l := [("BadLine", false)]) (fa_cons xkit_Nought_BadLine_False (fa_nil)) (by decide) hT) xcls_Nought hC hz hv rfl (.inl v_lsorts_0) B.isinstance (g_lsorts_isinstance _ _ _) (g_lsorts_Nought _ _ _)) (ma_nil)))) (ma_cons (me_tup (ma_cons (me_str) (ma_cons (mx_isG hm (xc_of (fs := []) (ts := ["BadLine"]) (fa_cons xxcf_BadLine_ (fa_nil)) hC hT) (ki_of (ts := ["BadLine"]) (l := [("BadLine", false)]) (fa_cons xkit_Unlike_BadLine_False (fa_nil)) (by decide) hT) xcls_Unlike hC hz hv rfl (.inl v_lsorts_0) B.isinstance (g_lsorts_isinstance _ _ _) (g_lsorts_Unlike _ _ _)) (ma_nil)))) (ma_nil)))))) (mss_cons (ms_set (i := 1) nd rfl (.inl v_lsorts_1) (me_add (me_var (i := 1) rfl (.inl v_lsorts_1)) (me_lst (ma_cons (me_tup (ma_cons (me_str) (ma_cons (mx_isG hm (xc_of (fs := []) (ts := ["BadLine"]) (fa_cons xxcf_BadLine_ (fa_nil)) hC hT) (ki_of (ts := ["BadLine"]) (l := [("BadLine", false)]) (fa_cons xkit_NoLine_BadLine_False (fa_nil)) (by decide) hT) xcls_NoLine hC hz hv rfl (.inl v_lsorts_0) B.isinstance (g_lsorts_isinstance _ _ _) (g_lsorts_NoLine _ _ _)) (ma_nil)))) (ma_cons (me_tup (ma_cons (me_str) (ma_cons (mx_isG hm (xc_of (fs := []) (ts := ["BadLine"]) (fa_cons xxcf_BadLine_ (fa_nil)) hC hT) (ki_of (ts := ["BadLine"]) (l := [("BadLine", false)]) (fa_cons xkit_NothingDone_BadLine_False (fa_nil)) (by decide) hT) xcls_NothingDone hC hz hv rfl (.inl v_lsorts_0) B.isinstance (g_lsorts_isinstance _ _ _) (g_lsorts_NothingDone _ _ _)) (ma_nil)))) (ma_nil)))))) (mss_cons (ms_set (i := 1) nd rfl (.inl v_lsorts_1) (me_add (me_var (i := 1) rfl (.inl v_lsorts_1)) (me_lst (ma_cons (me_tup (ma_cons (me_str) (ma_cons (me_not (mx_isG hm (xc_of (fs := []) (ts := ["BadLine"]) (fa_cons xxcf_BadLine_ (fa_nil)) hC hT) (ki_of (ts := ["BadLine"]) (l := [("BadLine", true)]) (fa_cons xkit_LoftError_BadLine_True (fa_nil)) (by decide) hT) xcls_LoftError hC hz hv rfl (.inl v_lsorts_0) B.isinstance (g_lsorts_isinstance _ _ _) (g_lsorts_LoftError _ _ _))) (ma_nil)))) (ma_cons (me_tup (ma_cons (me_str) (ma_cons (me_not (mx_isT hm (xc_of (fs := []) (ts := ["BadLine"]) (fa_cons xxcf_BadLine_ (fa_nil)) hC hT) (kib_of (ts := ["BadLine"]) (fa_cons xkib_ValueError_BadLine (fa_nil)) hC hT) (by decide) hz hv rfl (.inl v_lsorts_0) B.isinstance (g_lsorts_isinstance _ _ _) (g_lsorts_ValueError _ _ _) xnog_ValueError (by decide +kernel))) (ma_nil)))) (ma_nil)))))) (mss_one (ms_ret (me_sm ss_join PySem.F.slot_str_join PySem.F.type_str_join mt_join (me_str) (ma_cons (me_fz (mo_lcS (own := [("_law_word", 2), ("_law_here", 3)]) (g := .tp [2, 3]) hcH nd (mi_listS (me_var (i := 1) rfl (.inl v_lsorts_1))) (blkOk_at (N' := ["_law_e", "_law_sorts_here", "_law_word", "_law_here"]) (sc' := defScope s_lsorts) rfl rfl (by decide +kernel)) (fun _ _ _ _ _ hh => pg_tupS hh (pgs_cons (pg_name (i := 2) nd rfl (Or.inl rfl)) (pgs_cons (pg_name (i := 3) nd rfl (Or.inl rfl)) (pgs_nil)))) (fun _ _ _ _ _ => mts_one (mt_val (me_var (i := 3) rfl (.inl rfl)))) (fun _ _ _ _ _ => me_var (i := 2) rfl (.inl rfl)) (hbs := hbs_of rfl))) (ma_nil))))))))))))

abbrev s_law18 : Stmt := top 44
theorem sc_law18 : FnScope ["_law_script", "_law_draws_here", "_law_text", "_law_due_here", "_law_turn", "_law_tables", "_law_rows", "_law_cells", "_law_mark", "_law_found", "_law_e", "_law_row"] ["_law_script"] (defScope s_law18) := ⟨rfl, rfl, rfl, by decide +kernel, rfl, by decide +kernel, by decide +kernel⟩
theorem v_law18_0 : (defScope s_law18).names.lookup ("_law_script" : Str) = some NameKind.local := by decide +kernel
theorem v_law18_1 : (defScope s_law18).names.lookup ("_law_draws_here" : Str) = some NameKind.local := by decide +kernel
theorem v_law18_2 : (defScope s_law18).names.lookup ("_law_text" : Str) = some NameKind.local := by decide +kernel
theorem v_law18_3 : (defScope s_law18).names.lookup ("_law_due_here" : Str) = some NameKind.local := by decide +kernel
theorem v_law18_4 : (defScope s_law18).names.lookup ("_law_turn" : Str) = some NameKind.local := by decide +kernel
theorem v_law18_5 : (defScope s_law18).names.lookup ("_law_tables" : Str) = some NameKind.local := by decide +kernel
theorem v_law18_6 : (defScope s_law18).names.lookup ("_law_rows" : Str) = some NameKind.local := by decide +kernel
theorem v_law18_7 : (defScope s_law18).names.lookup ("_law_cells" : Str) = some NameKind.local := by decide +kernel
theorem v_law18_8 : (defScope s_law18).names.lookup ("_law_mark" : Str) = some NameKind.local := by decide +kernel
theorem v_law18_9 : (defScope s_law18).names.lookup ("_law_found" : Str) = some NameKind.local := by decide +kernel
theorem v_law18_10 : (defScope s_law18).names.lookup ("_law_e" : Str) = some NameKind.local := by decide +kernel
theorem g_law18_law_drawn_program (L a : Addr) (cd : Value) : (PyProof.Rows.envOfC "law" (defScope s_law18) L a cd).kindOf ("_law_drawn_program" : Str) = some NameKind.globalImplicit := rfl
theorem g_law18_law_cell (L a : Addr) (cd : Value) : (PyProof.Rows.envOfC "law" (defScope s_law18) L a cd).kindOf ("_law_cell" : Str) = some NameKind.globalImplicit := rfl
theorem g_law18_law_draws (L a : Addr) (cd : Value) : (PyProof.Rows.envOfC "law" (defScope s_law18) L a cd).kindOf ("_law_draws" : Str) = some NameKind.globalImplicit := rfl
theorem g_law18_len (L a : Addr) (cd : Value) : (PyProof.Rows.envOfC "law" (defScope s_law18) L a cd).kindOf ("len" : Str) = some NameKind.globalImplicit := rfl
theorem g_law18_law_spoilt (L a : Addr) (cd : Value) : (PyProof.Rows.envOfC "law" (defScope s_law18) L a cd).kindOf ("_law_spoilt" : Str) = some NameKind.globalImplicit := rfl
theorem g_law18_law_due (L a : Addr) (cd : Value) : (PyProof.Rows.envOfC "law" (defScope s_law18) L a cd).kindOf ("_law_due" : Str) = some NameKind.globalImplicit := rfl
theorem g_law18_range (L a : Addr) (cd : Value) : (PyProof.Rows.envOfC "law" (defScope s_law18) L a cd).kindOf ("range" : Str) = some NameKind.globalImplicit := rfl
theorem g_law18_BadLine (L a : Addr) (cd : Value) : (PyProof.Rows.envOfC "law" (defScope s_law18) L a cd).kindOf ("BadLine" : Str) = some NameKind.globalImplicit := rfl
theorem g_law18_rows_told (L a : Addr) (cd : Value) : (PyProof.Rows.envOfC "law" (defScope s_law18) L a cd).kindOf ("rows_told" : Str) = some NameKind.globalImplicit := rfl
theorem g_law18_law_sorts (L a : Addr) (cd : Value) : (PyProof.Rows.envOfC "law" (defScope s_law18) L a cd).kindOf ("_law_sorts" : Str) = some NameKind.globalImplicit := rfl
theorem g_law18_bool (L a : Addr) (cd : Value) : (PyProof.Rows.envOfC "law" (defScope s_law18) L a cd).kindOf ("bool" : Str) = some NameKind.globalImplicit := rfl
theorem g_law18_isinstance (L a : Addr) (cd : Value) : (PyProof.Rows.envOfC "law" (defScope s_law18) L a cd).kindOf ("isinstance" : Str) = some NameKind.globalImplicit := rfl
theorem ok_law18 {P : Program} {w : World} {K : PySem.W.Frag} {mg : Str → Option Value} {base : Heap} {f : Addr} {fd : FuncData} (F : Fun K "law" "law" s_law18 f fd) (B : Bn mg) (h_ldrawn_program : Fd P w K mg base "_law_drawn_program" 6 ["_law_script", "_law_salt", "_law_many"] [] f_ldrawn_program) (h_ldraws : Fd P w K mg base "_law_draws" 4 ["_law_cell_here", "_law_salt", "_law_widths"] [] f_ldraws) (h_lcell : Fd P w K mg base "_law_cell" 2 ["_law_script", "_law_k"] [] f_lcell) (h_lline : Fd P w K mg base "_law_line" 2 ["_law_row"] [] f_lline) (h_lspoilt3 : Fd P w K mg base "_law_spoilt" 2 ["_law_text", "_law_draws_here"] [] f_lspoilt3) (h_ldue4 : Fd P w K mg base "_law_due" 6 ["_law_text"] [] f_ldue4) (h_prows_told : Fd P w K mg base "rows_told" 8 ["text"] [] f_prows_told) (h_lsorts : FdE P w K mg base "_law_sorts" 2 "_law_e" ["BadLine"] f_lsorts)  (xext_BadLine_BadLine_True : ExT K mg "BadLine" "BadLine" true) (xcls_BadLine : ∃ D, mg "BadLine" = some (.ref D)) (xxcf_BadLine_at : XcF K mg ["at"] "BadLine")  :
    FnOk P w K mg base (L2N.CX P w) 10 f fd ["_law_script"] (spF K mg 1 [] f_law18) := by
  refine fn_ok F sc_law18 (by decide) (by decide) fun cdv A outer s H E hr => ?_
  have nd := sc_law18.nd
  have tk : L2N.Takes (cxOf (L2N.CX P w) P w K mg base ["_law_script", "_law_draws_here", "_law_text", "_law_due_here", "_law_turn", "_law_tables", "_law_rows", "_law_cells", "_law_mark", "_law_found", "_law_e", "_law_row"] "law" (defScope s_law18) f cdv A outer s H E) (fun cls d _ H => E cls d H) := L2N.takes_of rfl rfl rfl rfl
  have pn : PassesOwn (model P w) (cxOf (L2N.CX P w) P w K mg base ["_law_script", "_law_draws_here", "_law_text", "_law_due_here", "_law_turn", "_law_tables", "_law_rows", "_law_cells", "_law_mark", "_law_found", "_law_e", "_law_row"] "law" (defScope s_law18) f cdv A outer s H E).A (cxOf (L2N.CX P w) P w K mg base ["_law_script", "_law_draws_here", "_law_text", "_law_due_here", "_law_turn", "_law_tables", "_law_rows", "_law_cells", "_law_mark", "_law_found", "_law_e", "_law_row"] "law" (defScope s_law18) f cdv A outer s H E).env (cxOf (L2N.CX P w) P w K mg base ["_law_script", "_law_draws_here", "_law_text", "_law_due_here", "_law_turn", "_law_tables", "_law_rows", "_law_cells", "_law_mark", "_law_found", "_law_e", "_law_row"] "law" (defScope s_law18) f cdv A outer s H E).xe := passes_of rfl
  unfold m_law18
  exact mss_cons (ms_asg (me_fz (mf_call h_ldrawn_program hr (by decide) tk (ma_cons (me_var (i := 0) rfl (.inl v_law18_0)) (ma_cons (me_int) (ma_cons (me_int) (ma_nil)))) (lng_cons (lng_cons (lng_cons lng_nil))) (hg := (g_law18_law_drawn_program _ _ _)))) (mg_tup rfl (mgs_cons (mg_name (i := 5) nd rfl (.inl v_law18_5)) (mgs_cons (mg_name (i := 6) nd rfl (.inl v_law18_6)) (mgs_cons (mg_name (i := 7) nd rfl (.inl v_law18_7)) (mgs_cons (mg_name (i := 8) nd rfl (.inl v_law18_8)) (mgs_nil))))))) (mss_cons (ms_set (i := 1) nd rfl (.inl v_law18_1) (me_fz (mf_call h_ldraws hr (by decide) tk (ma_cons (me_fz (mf_call h_lcell hr (by decide) tk (ma_cons (me_var (i := 0) rfl (.inl v_law18_0)) (ma_cons (me_int) (ma_nil))) (lng_cons (lng_cons lng_nil)) (hg := (g_law18_law_cell _ _ _)))) (ma_cons (me_int) (ma_cons (me_lst (ma_cons (me_int) (ma_cons (me_int) (ma_cons (me_int) (ma_cons (me_int) (ma_cons (me_int) (ma_cons (me_int) (ma_cons (me_int) (ma_cons (me_int) (ma_cons (me_int) (ma_cons (me_int) (ma_cons (me_int) (ma_cons (me_int) (ma_nil)))))))))))))) (ma_nil)))) (lng_cons (lng_cons (lng_cons lng_nil))) (hg := (g_law18_law_draws _ _ _))))) (mss_cons (ms_set (i := 2) nd rfl (.inl v_law18_2) (me_sm ss_join PySem.F.slot_str_join PySem.F.type_str_join mt_join (me_str) (ma_cons (me_fz (mo_lc (own := [("_law_row", 11)]) (g := .nm 11) rfl nd (mi_val (me_var (i := 6) rfl (.inl v_law18_6))) (blkOk_at (N' := ["_law_script", "_law_draws_here", "_law_text", "_law_due_here", "_law_turn", "_law_tables", "_law_rows", "_law_cells", "_law_mark", "_law_found", "_law_e", "_law_row"]) (sc' := defScope s_law18) rfl rfl (by decide +kernel)) (fun _ _ _ _ _ => pg_name (i := 11) nd rfl (Or.inl rfl)) (fun _ _ _ _ _ => mts_nil) (fun _ _ _ _ _ => me_fz (mf_call0 h_lline hr (by decide) (ma_cons (me_var (i := 11) rfl (.inl rfl)) (ma_nil)) (lng_cons lng_nil) (hg := rfl))) (hbs := hbs_of rfl))) (ma_nil)))) (mss_cons (ms_if (PW.pt (mw_and (mt_cmp (op_eqM hr.units) os_eq (me_ix (me_var (i := 1) rfl (.inl v_law18_1)) (me_int)) (me_int) (nomark _)) (mw_one_and (mt_cmp op_gt os_gt (mb_len B.len (ma_cons (me_var (i := 6) rfl (.inl v_law18_6)) (ma_nil)) (hg := (g_law18_len _ _ _))) (me_int) (nomark _))))) (mss_one (ms_set (i := 2) nd rfl (.inl v_law18_2) (me_sm ss_join PySem.F.slot_str_join PySem.F.type_str_join mt_join (me_str) (ma_cons (me_fz (mo_lc (own := [("_law_row", 11)]) (g := .nm 11) rfl nd (mi_val (me_sl (me_mul (me_var (i := 6) rfl (.inl v_law18_6)) (me_int)) (mp_none) (mp_some (me_add (me_int) (me_ix (me_var (i := 1) rfl (.inl v_law18_1)) (me_int)))))) (blkOk_at (N' := ["_law_script", "_law_draws_here", "_law_text", "_law_due_here", "_law_turn", "_law_tables", "_law_rows", "_law_cells", "_law_mark", "_law_found", "_law_e", "_law_row"]) (sc' := defScope s_law18) rfl rfl (by decide +kernel)) (fun _ _ _ _ _ => pg_name (i := 11) nd rfl (Or.inl rfl)) (fun _ _ _ _ _ => mts_nil) (fun _ _ _ _ _ => me_fz (mf_call0 h_lline hr (by decide) (ma_cons (me_var (i := 11) rfl (.inl rfl)) (ma_nil)) (lng_cons lng_nil) (hg := rfl))) (hbs := hbs_of rfl))) (ma_nil))))) (mss_nil)) (mss_cons (ms_if (mt_cmp op_gt os_gt (me_ix (me_var (i := 1) rfl (.inl v_law18_1)) (me_int)) (me_int) (nomark _)) (mss_one (ms_set (i := 2) nd rfl (.inl v_law18_2) (me_fz (mf_call h_lspoilt3 hr (by decide) tk (ma_cons (me_var (i := 2) rfl (.inl v_law18_2)) (ma_cons (me_sl (me_var (i := 1) rfl (.inl v_law18_1)) (mp_some (me_int)) (mp_some (me_int))) (ma_nil))) (lng_cons (lng_cons lng_nil)) (hg := (g_law18_law_spoilt _ _ _)))))) (mss_nil)) (mss_cons (ms_if (mt_cmp op_gt os_gt (me_ix (me_var (i := 1) rfl (.inl v_law18_1)) (me_int)) (me_int) (nomark _)) (mss_one (ms_set (i := 2) nd rfl (.inl v_law18_2) (me_fz (mf_call h_lspoilt3 hr (by decide) tk (ma_cons (me_var (i := 2) rfl (.inl v_law18_2)) (ma_cons (me_sl (me_var (i := 1) rfl (.inl v_law18_1)) (mp_some (me_int)) (mp_some (me_int))) (ma_nil))) (lng_cons (lng_cons lng_nil)) (hg := (g_law18_law_spoilt _ _ _)))))) (mss_nil)) (mss_cons (ms_set (i := 3) nd rfl (.inl v_law18_3) (me_fz (mf_call h_ldue4 hr (by decide) tk (ma_cons (me_var (i := 2) rfl (.inl v_law18_2)) (ma_nil)) (lng_cons lng_nil) (hg := (g_law18_law_due _ _ _))))) (mss_cons (ms_for pn rfl (mi_r1 B.range (ma_cons (me_int) (ma_nil)) (hg := (g_law18_range _ _ _))) (mg_name (i := 4) nd rfl (.inl v_law18_4)) (mss_cons (ms_set (i := 9) nd rfl (.inl v_law18_9) (me_non)) (mss_cons (ms_try (i := 10) (tab := [("BadLine", true)]) rfl rfl nd rfl (by first | rfl | decide +kernel) (g_law18_BadLine _ _ _) tk (fa_cons xext_BadLine_BadLine_True (fa_nil)) xcls_BadLine (fun W pl xe tk pn => mss_one (ms_set (i := 9) nd rfl (.inl v_law18_9) (me_tup (ma_cons (me_str) (ma_cons (me_fz (mf_call h_prows_told hr (by decide) tk (ma_cons (me_var (i := 2) rfl (.inl v_law18_2)) (ma_nil)) (lng_cons lng_nil) (hg := (g_law18_rows_told _ _ _)))) (ma_nil)))))) (fun a oe C d pl e hC hT hz hv => mss_one (ms_set (i := 9) nd rfl (.inl v_law18_9) (me_tup (ma_cons (me_callE h_lsorts hr (by decide) hC hT (by decide) hz hv rfl (.inl v_law18_10) (g_law18_law_sorts _ _ _)) (ma_cons (mx_f (xc_at (fs := ["at"]) (ts := ["BadLine"]) (fa_cons xxcf_BadLine_at (fa_nil)) (by decide) hC hT) (by decide) hz hv rfl (.inl v_law18_10)) (ma_nil))))))) (mss_one (ms_if (PW.pt (mw_or (mt_cmp (op_neM hr.units) os_ne (me_var (i := 9) rfl (.inl v_law18_9)) (me_var (i := 3) rfl (.inl v_law18_3)) (nomark _)) (mw_one_or (mt_val (mb_isi B.isinstance (ma_cons (me_ix (me_var (i := 9) rfl (.inl v_law18_9)) (me_int)) (ma_cons (me_bltn B.bool (by decide +kernel) (w := .ty "bool") rfl (hg := (g_law18_bool _ _ _))) ma_nil)) (hg := (g_law18_isinstance _ _ _))))))) (mss_one (ms_ret (me_bl))) (mss_nil)))))) (mss_one (ms_ret (me_bl))))))))))

theorem all_mk {l : PySem.W.OpenLaw} {w : World} {K : PySem.W.Frag} {h : Heap} {mg : Str → Option Value} {fa f0 f1 f2 f3 f4 f5 f6 f7 f8 f9 f10 f11 f12 f13 f14 f15 f16 f17 : Addr} (X : K.In h) (G : h.Ns mainGlobals mg) (hfa : mg "law" = some (.ref fa))
    {od0 an0 od1 an1 od2 an2 od3 an3 od4 an4 od5 an5 od6 an6 od7 an7 od8 an8 od9 an9 od10 an10 od11 an11 od12 an12 od13 an13 od14 an14 od15 an15 od16 an16 od17 an17 : Option Addr} {sl0 sl1 sl2 sl3 sl4 sl5 sl6 sl7 sl8 sl9 sl10 sl11 sl12 sl13 sl14 sl15 sl16 sl17 : Array (Option Value)} {oc0 kV0 dc0 pm0 cd0 ct0 oc1 kV1 dc1 pm1 cd1 ct1 oc2 kV2 dc2 pm2 cd2 ct2 oc3 kV3 dc3 pm3 cd3 ct3 oc4 kV4 dc4 pm4 cd4 ct4 oc5 kV5 dc5 pm5 cd5 ct5 oc6 kV6 dc6 pm6 cd6 ct6 oc7 kV7 dc7 pm7 cd7 ct7 oc8 kV8 dc8 pm8 cd8 ct8 oc9 kV9 dc9 pm9 cd9 ct9 oc10 kV10 dc10 pm10 cd10 ct10 oc11 kV11 dc11 pm11 cd11 ct11 oc12 kV12 dc12 pm12 cd12 ct12 oc13 kV13 dc13 pm13 cd13 ct13 oc14 kV14 dc14 pm14 cd14 ct14 oc15 kV15 dc15 pm15 cd15 ct15 oc16 kV16 dc16 pm16 cd16 ct16 oc17 kV17 dc17 pm17 cd17 ct17 : Value}
    (a0 : PySem.W.nsIn K mainGlobals "_law_mixed" = some (some (.ref f0))) (l0 : K.lookup f0 = some ⟨oc0, od0, .func (PySem.W.fnOf "_law_mixed" "_law_mixed" (defArgs s_lmixed) (defBody s_lmixed) (defScope s_lmixed) .none kV0 dc0 pm0 an0 cd0 ct0), sl0⟩) (c0 : PySem.W.codeIn K cd0 "_law_mixed" = true) (k0 : PySem.W.keepIn K (.ref f0) = true)
    (a1 : PySem.W.nsIn K mainGlobals "_law_draws" = some (some (.ref f1))) (l1 : K.lookup f1 = some ⟨oc1, od1, .func (PySem.W.fnOf "_law_draws" "_law_draws" (defArgs s_ldraws) (defBody s_ldraws) (defScope s_ldraws) .none kV1 dc1 pm1 an1 cd1 ct1), sl1⟩) (c1 : PySem.W.codeIn K cd1 "_law_draws" = true) (k1 : PySem.W.keepIn K (.ref f1) = true)
    (a2 : PySem.W.nsIn K mainGlobals "_law_cell" = some (some (.ref f2))) (l2 : K.lookup f2 = some ⟨oc2, od2, .func (PySem.W.fnOf "_law_cell" "_law_cell" (defArgs s_lcell) (defBody s_lcell) (defScope s_lcell) .none kV2 dc2 pm2 an2 cd2 ct2), sl2⟩) (c2 : PySem.W.codeIn K cd2 "_law_cell" = true) (k2 : PySem.W.keepIn K (.ref f2) = true)
    (a3 : PySem.W.nsIn K mainGlobals "_law_drawn_table" = some (some (.ref f3))) (l3 : K.lookup f3 = some ⟨oc3, od3, .func (PySem.W.fnOf "_law_drawn_table" "_law_drawn_table" (defArgs s_ldrawn_table) (defBody s_ldrawn_table) (defScope s_ldrawn_table) .none kV3 dc3 pm3 an3 cd3 ct3), sl3⟩) (c3 : PySem.W.codeIn K cd3 "_law_drawn_table" = true) (k3 : PySem.W.keepIn K (.ref f3) = true)
    (a4 : PySem.W.nsIn K mainGlobals "_law_drawn_row" = some (some (.ref f4))) (l4 : K.lookup f4 = some ⟨oc4, od4, .func (PySem.W.fnOf "_law_drawn_row" "_law_drawn_row" (defArgs s_ldrawn_row) (defBody s_ldrawn_row) (defScope s_ldrawn_row) .none kV4 dc4 pm4 an4 cd4 ct4), sl4⟩) (c4 : PySem.W.codeIn K cd4 "_law_drawn_row" = true) (k4 : PySem.W.keepIn K (.ref f4) = true)
    (a5 : PySem.W.nsIn K mainGlobals "_law_drawn_program" = some (some (.ref f5))) (l5 : K.lookup f5 = some ⟨oc5, od5, .func (PySem.W.fnOf "_law_drawn_program" "_law_drawn_program" (defArgs s_ldrawn_program) (defBody s_ldrawn_program) (defScope s_ldrawn_program) .none kV5 dc5 pm5 an5 cd5 ct5), sl5⟩) (c5 : PySem.W.codeIn K cd5 "_law_drawn_program" = true) (k5 : PySem.W.keepIn K (.ref f5) = true)
    (a6 : PySem.W.nsIn K mainGlobals "_law_number" = some (some (.ref f6))) (l6 : K.lookup f6 = some ⟨oc6, od6, .func (PySem.W.fnOf "_law_number" "_law_number" (defArgs s_lnumber2) (defBody s_lnumber2) (defScope s_lnumber2) .none kV6 dc6 pm6 an6 cd6 ct6), sl6⟩) (c6 : PySem.W.codeIn K cd6 "_law_number" = true) (k6 : PySem.W.keepIn K (.ref f6) = true)
    (a7 : PySem.W.nsIn K mainGlobals "_law_row_of" = some (some (.ref f7))) (l7 : K.lookup f7 = some ⟨oc7, od7, .func (PySem.W.fnOf "_law_row_of" "_law_row_of" (defArgs s_lrow_of) (defBody s_lrow_of) (defScope s_lrow_of) .none kV7 dc7 pm7 an7 cd7 ct7), sl7⟩) (c7 : PySem.W.codeIn K cd7 "_law_row_of" = true) (k7 : PySem.W.keepIn K (.ref f7) = true)
    (a8 : PySem.W.nsIn K mainGlobals "_law_due" = some (some (.ref f8))) (l8 : K.lookup f8 = some ⟨oc8, od8, .func (PySem.W.fnOf "_law_due" "_law_due" (defArgs s_ldue4) (defBody s_ldue4) (defScope s_ldue4) .none kV8 dc8 pm8 an8 cd8 ct8), sl8⟩) (c8 : PySem.W.codeIn K cd8 "_law_due" = true) (k8 : PySem.W.keepIn K (.ref f8) = true)
    (a9 : PySem.W.nsIn K mainGlobals "_law_spoilt" = some (some (.ref f9))) (l9 : K.lookup f9 = some ⟨oc9, od9, .func (PySem.W.fnOf "_law_spoilt" "_law_spoilt" (defArgs s_lspoilt3) (defBody s_lspoilt3) (defScope s_lspoilt3) .none kV9 dc9 pm9 an9 cd9 ct9), sl9⟩) (c9 : PySem.W.codeIn K cd9 "_law_spoilt" = true) (k9 : PySem.W.keepIn K (.ref f9) = true)
    (a10 : PySem.W.nsIn K mainGlobals "_law_line" = some (some (.ref f10))) (l10 : K.lookup f10 = some ⟨oc10, od10, .func (PySem.W.fnOf "_law_line" "_law_line" (defArgs s_lline) (defBody s_lline) (defScope s_lline) .none kV10 dc10 pm10 an10 cd10 ct10), sl10⟩) (c10 : PySem.W.codeIn K cd10 "_law_line" = true) (k10 : PySem.W.keepIn K (.ref f10) = true)
    (a11 : PySem.W.nsIn K mainGlobals "parts_due" = some (some (.ref f11))) (l11 : K.lookup f11 = some ⟨oc11, od11, .func (PySem.W.fnOf "parts_due" "parts_due" (defArgs s_pparts_due) (defBody s_pparts_due) (defScope s_pparts_due) .none kV11 dc11 pm11 an11 cd11 ct11), sl11⟩) (c11 : PySem.W.codeIn K cd11 "parts_due" = true) (k11 : PySem.W.keepIn K (.ref f11) = true)
    (a12 : PySem.W.nsIn K mainGlobals "is_row" = some (some (.ref f12))) (l12 : K.lookup f12 = some ⟨oc12, od12, .func (PySem.W.fnOf "is_row" "is_row" (defArgs s_pis_row) (defBody s_pis_row) (defScope s_pis_row) .none kV12 dc12 pm12 an12 cd12 ct12), sl12⟩) (c12 : PySem.W.codeIn K cd12 "is_row" = true) (k12 : PySem.W.keepIn K (.ref f12) = true)
    (a13 : PySem.W.nsIn K mainGlobals "number_told" = some (some (.ref f13))) (l13 : K.lookup f13 = some ⟨oc13, od13, .func (PySem.W.fnOf "number_told" "number_told" (defArgs s_pnumber_told) (defBody s_pnumber_told) (defScope s_pnumber_told) .none kV13 dc13 pm13 an13 cd13 ct13), sl13⟩) (c13 : PySem.W.codeIn K cd13 "number_told" = true) (k13 : PySem.W.keepIn K (.ref f13) = true)
    (a14 : PySem.W.nsIn K mainGlobals "row_told" = some (some (.ref f14))) (l14 : K.lookup f14 = some ⟨oc14, od14, .func (PySem.W.fnOf "row_told" "row_told" (defArgs s_prow_told) (defBody s_prow_told) (defScope s_prow_told) .none kV14 dc14 pm14 an14 cd14 ct14), sl14⟩) (c14 : PySem.W.codeIn K cd14 "row_told" = true) (k14 : PySem.W.keepIn K (.ref f14) = true)
    (a15 : PySem.W.nsIn K mainGlobals "rows_told" = some (some (.ref f15))) (l15 : K.lookup f15 = some ⟨oc15, od15, .func (PySem.W.fnOf "rows_told" "rows_told" (defArgs s_prows_told) (defBody s_prows_told) (defScope s_prows_told) .none kV15 dc15 pm15 an15 cd15 ct15), sl15⟩) (c15 : PySem.W.codeIn K cd15 "rows_told" = true) (k15 : PySem.W.keepIn K (.ref f15) = true)
    (a16 : PySem.W.nsIn K mainGlobals "_law_sorts" = some (some (.ref f16))) (l16 : K.lookup f16 = some ⟨oc16, od16, .func (PySem.W.fnOf "_law_sorts" "_law_sorts" (defArgs s_lsorts) (defBody s_lsorts) (defScope s_lsorts) .none kV16 dc16 pm16 an16 cd16 ct16), sl16⟩) (c16 : PySem.W.codeIn K cd16 "_law_sorts" = true) (k16 : PySem.W.keepIn K (.ref f16) = true)
    (a17 : PySem.W.nsIn K mainGlobals "law" = some (some (.ref f17))) (l17 : K.lookup f17 = some ⟨oc17, od17, .func (PySem.W.fnOf "law" "law" (defArgs s_law18) (defBody s_law18) (defScope s_law18) .none kV17 dc17 pm17 an17 cd17 ct17), sl17⟩) (c17 : PySem.W.codeIn K cd17 "law" = true) (k17 : PySem.W.keepIn K (.ref f17) = true)
    (z_len : PySem.W.nsIn K mainGlobals "len" = some none)
    (z_range : PySem.W.nsIn K mainGlobals "range" = some none)
    (z_abs : PySem.W.nsIn K mainGlobals "abs" = some none)
    (z_max : PySem.W.nsIn K mainGlobals "max" = some none)
    (z_min : PySem.W.nsIn K mainGlobals "min" = some none)
    (z_int : PySem.W.nsIn K mainGlobals "int" = some none)
    (z_str : PySem.W.nsIn K mainGlobals "str" = some none)
    (z_tuple : PySem.W.nsIn K mainGlobals "tuple" = some none)
    (z_list : PySem.W.nsIn K mainGlobals "list" = some none)
    (z_all : PySem.W.nsIn K mainGlobals "all" = some none)
    (z_any : PySem.W.nsIn K mainGlobals "any" = some none)
    (z_isinstance : PySem.W.nsIn K mainGlobals "isinstance" = some none)
    (z_divmod : PySem.W.nsIn K mainGlobals "divmod" = some none)
    (z_sum : PySem.W.nsIn K mainGlobals "sum" = some none)
    (z_zip : PySem.W.nsIn K mainGlobals "zip" = some none)
    (z_enumerate : PySem.W.nsIn K mainGlobals "enumerate" = some none)
    (z_reversed : PySem.W.nsIn K mainGlobals "reversed" = some none)
    (z_sorted : PySem.W.nsIn K mainGlobals "sorted" = some none)
    (z_dict : PySem.W.nsIn K mainGlobals "dict" = some none)
    (z_set : PySem.W.nsIn K mainGlobals "set" = some none)
    (z_bool : PySem.W.nsIn K mainGlobals "bool" = some none)
    {q_OTHER_PARTS : Addr} {qi_OTHER_PARTS : Array DictEntry} {qn_OTHER_PARTS : Nat} (qa_OTHER_PARTS : PySem.W.nsIn K mainGlobals "OTHER_PARTS" = some (some (.ref q_OTHER_PARTS))) (ql_OTHER_PARTS : K.lookup q_OTHER_PARTS = some ⟨.type "dict", none, .dict qi_OTHER_PARTS qn_OTHER_PARTS, #[]⟩) (qk_OTHER_PARTS : PySem.W.KeysLit w.params qi_OTHER_PARTS.toList) (qs_OTHER_PARTS : (q_OTHER_PARTS == sysModules) = false) (qe_OTHER_PARTS : dctIs [("look", (.str "ct")), ("mark", (.str "m"))] qi_OTHER_PARTS.toList = true)
    {q_PARTS : Addr} {qi_PARTS : Array DictEntry} {qn_PARTS : Nat} (qa_PARTS : PySem.W.nsIn K mainGlobals "PARTS" = some (some (.ref q_PARTS))) (ql_PARTS : K.lookup q_PARTS = some ⟨.type "dict", none, .dict qi_PARTS qn_PARTS, #[]⟩) (qk_PARTS : PySem.W.KeysLit w.params qi_PARTS.toList) (qs_PARTS : (q_PARTS == sysModules) = false) (qe_PARTS : dctIs [("put", (.str "cb")), ("copy", (.str "cc")), ("add", (.str "cc")), ("addc", (.str "cc")), ("and", (.str "cc")), ("or", (.str "cc")), ("left", (.str "c")), ("right", (.str "c"))] qi_PARTS.toList = true)
    {qt_BYTES : Tok} (qa_BYTES : PySem.W.nsIn K mainGlobals "BYTES" = some (some (.int 256 qt_BYTES)))
    {qt_FIGURES : Tok} (qa_FIGURES : PySem.W.nsIn K mainGlobals "FIGURES" = some (some (.str "0123456789" qt_FIGURES)))
    {qt_MOST_WORDS : Tok} (qa_MOST_WORDS : PySem.W.nsIn K mainGlobals "MOST_WORDS" = some (some (.int 3 qt_MOST_WORDS)))
    {qt_MOST_TABLES : Tok} (qa_MOST_TABLES : PySem.W.nsIn K mainGlobals "MOST_TABLES" = some (some (.int 16 qt_MOST_TABLES)))
    {qt_MOST_LINES : Tok} (qa_MOST_LINES : PySem.W.nsIn K mainGlobals "MOST_LINES" = some (some (.int 200 qt_MOST_LINES)))
    {c_BadLine : Addr} (n_BadLine : PySem.W.nsIn K mainGlobals "BadLine" = some (some (.ref c_BadLine)))
    {c_LoftError : Addr} (n_LoftError : PySem.W.nsIn K mainGlobals "LoftError" = some (some (.ref c_LoftError)))
    {c_NoDeed : Addr} (n_NoDeed : PySem.W.nsIn K mainGlobals "NoDeed" = some (some (.ref c_NoDeed)))
    {c_NoFit : Addr} (n_NoFit : PySem.W.nsIn K mainGlobals "NoFit" = some (some (.ref c_NoFit)))
    {c_NoLine : Addr} (n_NoLine : PySem.W.nsIn K mainGlobals "NoLine" = some (some (.ref c_NoLine)))
    {c_NoName : Addr} (n_NoName : PySem.W.nsIn K mainGlobals "NoName" = some (some (.ref c_NoName)))
    {c_NoRow : Addr} (n_NoRow : PySem.W.nsIn K mainGlobals "NoRow" = some (some (.ref c_NoRow)))
    {c_NoRule : Addr} (n_NoRule : PySem.W.nsIn K mainGlobals "NoRule" = some (some (.ref c_NoRule)))
    {c_NoShape : Addr} (n_NoShape : PySem.W.nsIn K mainGlobals "NoShape" = some (some (.ref c_NoShape)))
    {c_NoTable : Addr} (n_NoTable : PySem.W.nsIn K mainGlobals "NoTable" = some (some (.ref c_NoTable)))
    {c_NoText : Addr} (n_NoText : PySem.W.nsIn K mainGlobals "NoText" = some (some (.ref c_NoText)))
    {c_NothingDone : Addr} (n_NothingDone : PySem.W.nsIn K mainGlobals "NothingDone" = some (some (.ref c_NothingDone)))
    {c_Nought : Addr} (n_Nought : PySem.W.nsIn K mainGlobals "Nought" = some (some (.ref c_Nought)))
    {c_TooLong : Addr} (n_TooLong : PySem.W.nsIn K mainGlobals "TooLong" = some (some (.ref c_TooLong)))
    {c_Unlike : Addr} (n_Unlike : PySem.W.nsIn K mainGlobals "Unlike" = some (some (.ref c_Unlike)))
    {c_Wrong : Addr} (n_Wrong : PySem.W.nsIn K mainGlobals "Wrong" = some (some (.ref c_Wrong)))
    (b1_LoftError : PySem.W.readsIn K c_LoftError (.type "type") = true)
    (b2_LoftError : PySem.W.specialIn K (.ref c_LoftError) "__getattribute__" = some (some (.builtin "type.__getattribute__")))
    (b3_LoftError : PySem.W.findCls K (.ref c_LoftError) (.type "type") "__init__" = some (.val (.builtin "ValueError.__init__")))
    {nm_BadLine q_BadLine : Str} {N_BadLine i_BadLine : Addr} {bs_BadLine : List Value} {sn_BadLine : List Str} {sub_BadLine : List Value} {ab_BadLine : Bool} {col_BadLine : Option Bool} {dd_BadLine : Option Addr} {k0_BadLine k1_BadLine k2_BadLine k3_BadLine k5_BadLine : Option Value}
    (l_BadLine : K.lookup c_BadLine = some (excClassObj nm_BadLine q_BadLine c_BadLine N_BadLine bs_BadLine [.ref c_LoftError, .type "ValueError", .type "Exception", .type "BaseException", .type "object"] true sn_BadLine sub_BadLine ab_BadLine col_BadLine dd_BadLine k0_BadLine k1_BadLine k2_BadLine k3_BadLine k5_BadLine "ValueError.__new__"))
    (s_BadLine : PySem.W.findIn K (.ref c_BadLine) "__setattr__" = some (some (.builtin "object.__setattr__")))
    (e_BadLine : PySem.W.subIn K (.ref c_BadLine) (.type "BaseException") = some true)
    (t_BadLine : PySem.W.typeIn K (.ref c_BadLine) = some (.type "type"))
    (p_BadLine : PySem.W.keepIn K (.ref c_BadLine) = true)
    (i_BadLine_ : PySem.W.findIn K (.ref c_BadLine) "__init__" = some (some (.ref i_BadLine)))
    (j_BadLine : PySem.W.typeIn K (.ref i_BadLine) = some (.type "function"))
    (f_BadLine_at : PySem.W.findIn K (.ref c_BadLine) "at" = some none)
    {io_BadLine ik_BadLine id_BadLine ip_BadLine ic_BadLine it_BadLine : Value} {iod_BadLine ia_BadLine : Option Addr} {is_BadLine : Array (Option Value)}
    (g_BadLine : K.lookup i_BadLine = some ⟨io_BadLine, iod_BadLine, .func (PySem.W.fnOf "__init__" "BadLine.__init__" (defArgs s_ini_BadLine) (defBody s_ini_BadLine) (defScope s_ini_BadLine) .none ik_BadLine id_BadLine ip_BadLine ia_BadLine ic_BadLine it_BadLine), is_BadLine⟩)
    (h_BadLine_ : PySem.W.codeIn K ic_BadLine "BadLine.__init__" = true)
    (m_BadLine_ : PySem.W.keepIn K (.ref i_BadLine) = true)
    (yxxcf_BadLine_ : xcB K c_BadLine [] = true)
    (yxkit_Wrong_BadLine_False : PySem.W.kitOne K (.ref c_BadLine) (.ref c_Wrong) = some false)
    (yxkit_NoFit_BadLine_False : PySem.W.kitOne K (.ref c_BadLine) (.ref c_NoFit) = some false)
    (yxkit_NoShape_BadLine_False : PySem.W.kitOne K (.ref c_BadLine) (.ref c_NoShape) = some false)
    (yxkit_NoRow_BadLine_False : PySem.W.kitOne K (.ref c_BadLine) (.ref c_NoRow) = some false)
    (yxkit_NoTable_BadLine_False : PySem.W.kitOne K (.ref c_BadLine) (.ref c_NoTable) = some false)
    (yxkit_TooLong_BadLine_False : PySem.W.kitOne K (.ref c_BadLine) (.ref c_TooLong) = some false)
    (yxkit_BadLine_BadLine_True : PySem.W.kitOne K (.ref c_BadLine) (.ref c_BadLine) = some true)
    (yxkit_NoDeed_BadLine_False : PySem.W.kitOne K (.ref c_BadLine) (.ref c_NoDeed) = some false)
    (yxkit_NoRule_BadLine_False : PySem.W.kitOne K (.ref c_BadLine) (.ref c_NoRule) = some false)
    (yxkit_NoText_BadLine_False : PySem.W.kitOne K (.ref c_BadLine) (.ref c_NoText) = some false)
    (yxkit_NoName_BadLine_False : PySem.W.kitOne K (.ref c_BadLine) (.ref c_NoName) = some false)
    (yxkit_Unlike_BadLine_False : PySem.W.kitOne K (.ref c_BadLine) (.ref c_Unlike) = some false)
    (yxkit_Nought_BadLine_False : PySem.W.kitOne K (.ref c_BadLine) (.ref c_Nought) = some false)
    (yxkit_NothingDone_BadLine_False : PySem.W.kitOne K (.ref c_BadLine) (.ref c_NothingDone) = some false)
    (yxkit_NoLine_BadLine_False : PySem.W.kitOne K (.ref c_BadLine) (.ref c_NoLine) = some false)
    (yxkib_ValueError_BadLine : PySem.W.kitOne K (.ref c_BadLine) (.type "ValueError") = some true)
    (yxnog_ValueError : PySem.W.nsIn K mainGlobals "ValueError" = some none)
    (yxkit_LoftError_BadLine_True : PySem.W.kitOne K (.ref c_BadLine) (.ref c_LoftError) = some true)
    (yxext_BadLine_BadLine_True : PySem.W.exmOne K (.ref c_BadLine) (.ref c_BadLine) = some true)
    (yxxcf_BadLine_at : xcB K c_BadLine ["at"] = true)
    : ∃ fd : FuncData, (∀ (s : Shared) (u : Value), BindsTo s fd ⟨[u], []⟩ [("_law_script", u)]) ∧ ∀ base : Heap, K.In base → base.Ns mainGlobals mg → FnOk l.prog w K mg base (L2N.CX l.prog w) 10 fa fd ["_law_script"] (spF K mg 1 [] f_law18) := by
  have e := hfa.symm.trans (PySem.W.mg_of X G a17)
  cases e
  have B : Bn mg := ⟨PySem.W.mg_none_of X G z_len, PySem.W.mg_none_of X G z_range, PySem.W.mg_none_of X G z_abs, PySem.W.mg_none_of X G z_max, PySem.W.mg_none_of X G z_min, PySem.W.mg_none_of X G z_int, PySem.W.mg_none_of X G z_str, PySem.W.mg_none_of X G z_tuple, PySem.W.mg_none_of X G z_list, PySem.W.mg_none_of X G z_all, PySem.W.mg_none_of X G z_any, PySem.W.mg_none_of X G z_isinstance, PySem.W.mg_none_of X G z_divmod, PySem.W.mg_none_of X G z_sum, PySem.W.mg_none_of X G z_zip, PySem.W.mg_none_of X G z_enumerate, PySem.W.mg_none_of X G z_reversed, PySem.W.mg_none_of X G z_sorted, PySem.W.mg_none_of X G z_dict, PySem.W.mg_none_of X G z_set, PySem.W.mg_none_of X G z_bool⟩
  have c_OTHER_PARTS : DCst K w mg "OTHER_PARTS" [("look", (.str "ct")), ("mark", (.str "m"))] := ⟨q_OTHER_PARTS, _, _, PySem.W.mg_of X G qa_OTHER_PARTS, ⟨ql_OTHER_PARTS, qk_OTHER_PARTS, qs_OTHER_PARTS⟩, qe_OTHER_PARTS⟩
  have c_PARTS : DCst K w mg "PARTS" [("put", (.str "cb")), ("copy", (.str "cc")), ("add", (.str "cc")), ("addc", (.str "cc")), ("and", (.str "cc")), ("or", (.str "cc")), ("left", (.str "c")), ("right", (.str "c"))] := ⟨q_PARTS, _, _, PySem.W.mg_of X G qa_PARTS, ⟨ql_PARTS, qk_PARTS, qs_PARTS⟩, qe_PARTS⟩
  have c_BYTES : Cst K mg "BYTES" (.int 256) := cst_int (PySem.W.mg_of X G qa_BYTES)
  have c_FIGURES : Cst K mg "FIGURES" (.str "0123456789") := cst_str (PySem.W.mg_of X G qa_FIGURES)
  have c_MOST_WORDS : Cst K mg "MOST_WORDS" (.int 3) := cst_int (PySem.W.mg_of X G qa_MOST_WORDS)
  have c_MOST_TABLES : Cst K mg "MOST_TABLES" (.int 16) := cst_int (PySem.W.mg_of X G qa_MOST_TABLES)
  have c_MOST_LINES : Cst K mg "MOST_LINES" (.int 200) := cst_int (PySem.W.mg_of X G qa_MOST_LINES)
  have F0 := fun_mk (st := s_lmixed) l0 c0 k0
  have b0 := F0.binds (ps := ["_law_cell_here", "_law_k", "_law_salt"]) fun _ _ _ _ _ _ us hl => match us, hl with | [_, _, _], _ => rfl
  have F1 := fun_mk (st := s_ldraws) l1 c1 k1
  have b1 := F1.binds (ps := ["_law_cell_here", "_law_salt", "_law_widths"]) fun _ _ _ _ _ _ us hl => match us, hl with | [_, _, _], _ => rfl
  have F2 := fun_mk (st := s_lcell) l2 c2 k2
  have b2 := F2.binds (ps := ["_law_script", "_law_k"]) fun _ _ _ _ _ _ us hl => match us, hl with | [_, _], _ => rfl
  have F3 := fun_mk (st := s_ldrawn_table) l3 c3 k3
  have b3 := F3.binds (ps := ["_law_one", "_law_two", "_law_three"]) fun _ _ _ _ _ _ us hl => match us, hl with | [_, _, _], _ => rfl
  have F4 := fun_mk (st := s_ldrawn_row) l4 c4 k4
  have b4 := F4.binds (ps := ["_law_draws_here", "_law_many", "_law_tables"]) fun _ _ _ _ _ _ us hl => match us, hl with | [_, _, _], _ => rfl
  have F5 := fun_mk (st := s_ldrawn_program) l5 c5 k5
  have b5 := F5.binds (ps := ["_law_script", "_law_salt", "_law_many"]) fun _ _ _ _ _ _ us hl => match us, hl with | [_, _, _], _ => rfl
  have F6 := fun_mk (st := s_lnumber2) l6 c6 k6
  have b6 := F6.binds (ps := ["_law_word"]) fun _ _ _ _ _ _ us hl => match us, hl with | [_], _ => rfl
  have F7 := fun_mk (st := s_lrow_of) l7 c7 k7
  have b7 := F7.binds (ps := ["_law_line_here"]) fun _ _ _ _ _ _ us hl => match us, hl with | [_], _ => rfl
  have F8 := fun_mk (st := s_ldue4) l8 c8 k8
  have b8 := F8.binds (ps := ["_law_text"]) fun _ _ _ _ _ _ us hl => match us, hl with | [_], _ => rfl
  have F9 := fun_mk (st := s_lspoilt3) l9 c9 k9
  have b9 := F9.binds (ps := ["_law_text", "_law_draws_here"]) fun _ _ _ _ _ _ us hl => match us, hl with | [_, _], _ => rfl
  have F10 := fun_mk (st := s_lline) l10 c10 k10
  have b10 := F10.binds (ps := ["_law_row"]) fun _ _ _ _ _ _ us hl => match us, hl with | [_], _ => rfl
  have F11 := fun_mk (st := s_pparts_due) l11 c11 k11
  have b11 := F11.binds (ps := ["word"]) fun _ _ _ _ _ _ us hl => match us, hl with | [_], _ => rfl
  have F12 := fun_mk (st := s_pis_row) l12 c12 k12
  have b12 := F12.binds (ps := ["row", "cells", "tables"]) fun _ _ _ _ _ _ us hl => match us, hl with | [_, _, _], _ => rfl
  have F13 := fun_mk (st := s_pnumber_told) l13 c13 k13
  have b13 := F13.binds (ps := ["word"]) fun _ _ _ _ _ _ us hl => match us, hl with | [_], _ => rfl
  have F14 := fun_mk (st := s_prow_told) l14 c14 k14
  have b14 := F14.binds (ps := ["at", "line"]) fun _ _ _ _ _ _ us hl => match us, hl with | [_, _], _ => rfl
  have F15 := fun_mk (st := s_prows_told) l15 c15 k15
  have b15 := F15.binds (ps := ["text"]) fun _ _ _ _ _ _ us hl => match us, hl with | [_], _ => rfl
  have F16 := fun_mk (st := s_lsorts) l16 c16 k16
  have b16 := F16.binds (ps := ["_law_e"]) fun _ _ _ _ _ _ us hl => match us, hl with | [_], _ => rfl
  have F17 := fun_mk (st := s_law18) l17 c17 k17
  have b17 := F17.binds (ps := ["_law_script"]) fun _ _ _ _ _ _ us hl => match us, hl with | [_], _ => rfl
  refine ⟨PySem.W.fnOf "law" "law" (defArgs s_law18) (defBody s_law18) (defScope s_law18) .none kV17 dc17 pm17 an17 cd17 ct17, fun s v => .of_eq rfl, fun base _ _ => ?_⟩
  have B_LoftError : Bas K mg "LoftError" := ⟨c_LoftError, PySem.W.mg_of X G n_LoftError, b1_LoftError, b2_LoftError, b3_LoftError⟩
  have FI_BadLine := fun_mk (st := s_ini_BadLine) g_BadLine h_BadLine_ m_BadLine_
  have bI_BadLine := FI_BadLine.binds (ps := ["self", "at"]) fun _ _ _ _ _ _ us hl => match us, hl with | [_, _], _ => rfl
  have xcl1_BadLine_at : Cl1 l.prog w K mg base "BadLine" "at" := ⟨_, _, _, _, owX_mk (PySem.W.mg_of X G n_BadLine) l_BadLine rfl s_BadLine e_BadLine t_BadLine p_BadLine i_BadLine_ j_BadLine, f_BadLine_at, ini_BadLine FI_BadLine B_LoftError, bI_BadLine⟩
  have xxcf_BadLine_ : XcF K mg [] "BadLine" := ⟨_, PySem.W.mg_of X G n_BadLine, yxxcf_BadLine_⟩
  have xkit_Wrong_BadLine_False : KiT K mg "Wrong" "BadLine" false := ⟨_, _, PySem.W.mg_of X G n_BadLine, PySem.W.mg_of X G n_Wrong, yxkit_Wrong_BadLine_False⟩
  have xcls_Wrong : ∃ D, mg "Wrong" = some (.ref D) := ⟨_, PySem.W.mg_of X G n_Wrong⟩
  have xkit_NoFit_BadLine_False : KiT K mg "NoFit" "BadLine" false := ⟨_, _, PySem.W.mg_of X G n_BadLine, PySem.W.mg_of X G n_NoFit, yxkit_NoFit_BadLine_False⟩
  have xcls_NoFit : ∃ D, mg "NoFit" = some (.ref D) := ⟨_, PySem.W.mg_of X G n_NoFit⟩
  have xkit_NoShape_BadLine_False : KiT K mg "NoShape" "BadLine" false := ⟨_, _, PySem.W.mg_of X G n_BadLine, PySem.W.mg_of X G n_NoShape, yxkit_NoShape_BadLine_False⟩
  have xcls_NoShape : ∃ D, mg "NoShape" = some (.ref D) := ⟨_, PySem.W.mg_of X G n_NoShape⟩
  have xkit_NoRow_BadLine_False : KiT K mg "NoRow" "BadLine" false := ⟨_, _, PySem.W.mg_of X G n_BadLine, PySem.W.mg_of X G n_NoRow, yxkit_NoRow_BadLine_False⟩
  have xcls_NoRow : ∃ D, mg "NoRow" = some (.ref D) := ⟨_, PySem.W.mg_of X G n_NoRow⟩
  have xkit_NoTable_BadLine_False : KiT K mg "NoTable" "BadLine" false := ⟨_, _, PySem.W.mg_of X G n_BadLine, PySem.W.mg_of X G n_NoTable, yxkit_NoTable_BadLine_False⟩
  have xcls_NoTable : ∃ D, mg "NoTable" = some (.ref D) := ⟨_, PySem.W.mg_of X G n_NoTable⟩
  have xkit_TooLong_BadLine_False : KiT K mg "TooLong" "BadLine" false := ⟨_, _, PySem.W.mg_of X G n_BadLine, PySem.W.mg_of X G n_TooLong, yxkit_TooLong_BadLine_False⟩
  have xcls_TooLong : ∃ D, mg "TooLong" = some (.ref D) := ⟨_, PySem.W.mg_of X G n_TooLong⟩
  have xkit_BadLine_BadLine_True : KiT K mg "BadLine" "BadLine" true := ⟨_, _, PySem.W.mg_of X G n_BadLine, PySem.W.mg_of X G n_BadLine, yxkit_BadLine_BadLine_True⟩
  have xcls_BadLine : ∃ D, mg "BadLine" = some (.ref D) := ⟨_, PySem.W.mg_of X G n_BadLine⟩
  have xkit_NoDeed_BadLine_False : KiT K mg "NoDeed" "BadLine" false := ⟨_, _, PySem.W.mg_of X G n_BadLine, PySem.W.mg_of X G n_NoDeed, yxkit_NoDeed_BadLine_False⟩
  have xcls_NoDeed : ∃ D, mg "NoDeed" = some (.ref D) := ⟨_, PySem.W.mg_of X G n_NoDeed⟩
  have xkit_NoRule_BadLine_False : KiT K mg "NoRule" "BadLine" false := ⟨_, _, PySem.W.mg_of X G n_BadLine, PySem.W.mg_of X G n_NoRule, yxkit_NoRule_BadLine_False⟩
  have xcls_NoRule : ∃ D, mg "NoRule" = some (.ref D) := ⟨_, PySem.W.mg_of X G n_NoRule⟩
  have xkit_NoText_BadLine_False : KiT K mg "NoText" "BadLine" false := ⟨_, _, PySem.W.mg_of X G n_BadLine, PySem.W.mg_of X G n_NoText, yxkit_NoText_BadLine_False⟩
  have xcls_NoText : ∃ D, mg "NoText" = some (.ref D) := ⟨_, PySem.W.mg_of X G n_NoText⟩
  have xkit_NoName_BadLine_False : KiT K mg "NoName" "BadLine" false := ⟨_, _, PySem.W.mg_of X G n_BadLine, PySem.W.mg_of X G n_NoName, yxkit_NoName_BadLine_False⟩
  have xcls_NoName : ∃ D, mg "NoName" = some (.ref D) := ⟨_, PySem.W.mg_of X G n_NoName⟩
  have xkit_Unlike_BadLine_False : KiT K mg "Unlike" "BadLine" false := ⟨_, _, PySem.W.mg_of X G n_BadLine, PySem.W.mg_of X G n_Unlike, yxkit_Unlike_BadLine_False⟩
  have xcls_Unlike : ∃ D, mg "Unlike" = some (.ref D) := ⟨_, PySem.W.mg_of X G n_Unlike⟩
  have xkit_Nought_BadLine_False : KiT K mg "Nought" "BadLine" false := ⟨_, _, PySem.W.mg_of X G n_BadLine, PySem.W.mg_of X G n_Nought, yxkit_Nought_BadLine_False⟩
  have xcls_Nought : ∃ D, mg "Nought" = some (.ref D) := ⟨_, PySem.W.mg_of X G n_Nought⟩
  have xkit_NothingDone_BadLine_False : KiT K mg "NothingDone" "BadLine" false := ⟨_, _, PySem.W.mg_of X G n_BadLine, PySem.W.mg_of X G n_NothingDone, yxkit_NothingDone_BadLine_False⟩
  have xcls_NothingDone : ∃ D, mg "NothingDone" = some (.ref D) := ⟨_, PySem.W.mg_of X G n_NothingDone⟩
  have xkit_NoLine_BadLine_False : KiT K mg "NoLine" "BadLine" false := ⟨_, _, PySem.W.mg_of X G n_BadLine, PySem.W.mg_of X G n_NoLine, yxkit_NoLine_BadLine_False⟩
  have xcls_NoLine : ∃ D, mg "NoLine" = some (.ref D) := ⟨_, PySem.W.mg_of X G n_NoLine⟩
  have xkib_ValueError_BadLine : KiB K mg "ValueError" "BadLine" := ⟨_, PySem.W.mg_of X G n_BadLine, yxkib_ValueError_BadLine⟩
  have xnog_ValueError : mg "ValueError" = none := PySem.W.mg_none_of X G yxnog_ValueError
  have xkit_LoftError_BadLine_True : KiT K mg "LoftError" "BadLine" true := ⟨_, _, PySem.W.mg_of X G n_BadLine, PySem.W.mg_of X G n_LoftError, yxkit_LoftError_BadLine_True⟩
  have xcls_LoftError : ∃ D, mg "LoftError" = some (.ref D) := ⟨_, PySem.W.mg_of X G n_LoftError⟩
  have xext_BadLine_BadLine_True : ExT K mg "BadLine" "BadLine" true := ⟨_, _, PySem.W.mg_of X G n_BadLine, PySem.W.mg_of X G n_BadLine, yxext_BadLine_BadLine_True⟩
  have xxcf_BadLine_at : XcF K mg ["at"] "BadLine" := ⟨_, PySem.W.mg_of X G n_BadLine, yxxcf_BadLine_at⟩
  have h_lmixed : Fd l.prog w K mg base "_law_mixed" 2 ["_law_cell_here", "_law_k", "_law_salt"] [] f_lmixed := ⟨_, _, ok_lmixed F0 B    , PySem.W.mg_of X G a0, k0, b0⟩
  have h_ldraws : Fd l.prog w K mg base "_law_draws" 4 ["_law_cell_here", "_law_salt", "_law_widths"] [] f_ldraws := ⟨_, _, ok_ldraws F1 B h_lmixed   , PySem.W.mg_of X G a1, k1, b1⟩
  have h_lcell : Fd l.prog w K mg base "_law_cell" 2 ["_law_script", "_law_k"] [] f_lcell := ⟨_, _, ok_lcell F2 B    , PySem.W.mg_of X G a2, k2, b2⟩
  have h_ldrawn_table : Fd l.prog w K mg base "_law_drawn_table" 2 ["_law_one", "_law_two", "_law_three"] [] f_ldrawn_table := ⟨_, _, ok_ldrawn_table F3 B    , PySem.W.mg_of X G a3, k3, b3⟩
  have h_ldrawn_row : Fd l.prog w K mg base "_law_drawn_row" 2 ["_law_draws_here", "_law_many", "_law_tables"] [] f_ldrawn_row := ⟨_, _, ok_ldrawn_row F4 B    , PySem.W.mg_of X G a4, k4, b4⟩
  have h_ldrawn_program : Fd l.prog w K mg base "_law_drawn_program" 6 ["_law_script", "_law_salt", "_law_many"] [] f_ldrawn_program := ⟨_, _, ok_ldrawn_program F5 B h_ldraws h_lcell h_ldrawn_table h_ldrawn_row   , PySem.W.mg_of X G a5, k5, b5⟩
  have h_lnumber2 : Fd l.prog w K mg base "_law_number" 2 ["_law_word"] [] f_lnumber2 := ⟨_, _, ok_lnumber2 F6 B    , PySem.W.mg_of X G a6, k6, b6⟩
  have h_lrow_of : Fd l.prog w K mg base "_law_row_of" 4 ["_law_line_here"] [] f_lrow_of := ⟨_, _, ok_lrow_of F7 B h_lnumber2   , PySem.W.mg_of X G a7, k7, b7⟩
  have h_ldue4 : Fd l.prog w K mg base "_law_due" 6 ["_law_text"] [] f_ldue4 := ⟨_, _, ok_ldue4 F8 B h_lrow_of   , PySem.W.mg_of X G a8, k8, b8⟩
  have h_lspoilt3 : Fd l.prog w K mg base "_law_spoilt" 2 ["_law_text", "_law_draws_here"] [] f_lspoilt3 := ⟨_, _, ok_lspoilt3 F9 B    , PySem.W.mg_of X G a9, k9, b9⟩
  have h_lline : Fd l.prog w K mg base "_law_line" 2 ["_law_row"] [] f_lline := ⟨_, _, ok_lline F10 B    , PySem.W.mg_of X G a10, k10, b10⟩
  have h_pparts_due : Fd l.prog w K mg base "parts_due" 2 ["word"] [] f_pparts_due := ⟨_, _, ok_pparts_due F11 B    c_OTHER_PARTS c_PARTS, PySem.W.mg_of X G a11, k11, b11⟩
  have h_pis_row : Fd l.prog w K mg base "is_row" 4 ["row", "cells", "tables"] [] f_pis_row := ⟨_, _, ok_pis_row F12 B h_pparts_due   c_BYTES, PySem.W.mg_of X G a12, k12, b12⟩
  have h_pnumber_told : Fd l.prog w K mg base "number_told" 2 ["word"] [] f_pnumber_told := ⟨_, _, ok_pnumber_told F13 B    c_FIGURES, PySem.W.mg_of X G a13, k13, b13⟩
  have h_prow_told : Fd l.prog w K mg base "row_told" 6 ["at", "line"] [] f_prow_told := ⟨_, _, ok_prow_told F14 B h_pnumber_told h_pis_row  xcl1_BadLine_at c_MOST_WORDS c_MOST_TABLES c_BYTES, PySem.W.mg_of X G a14, k14, b14⟩
  have h_prows_told : Fd l.prog w K mg base "rows_told" 8 ["text"] [] f_prows_told := ⟨_, _, ok_prows_told F15 B h_prow_told  xcl1_BadLine_at c_MOST_LINES, PySem.W.mg_of X G a15, k15, b15⟩
  have h_lsorts : FdE l.prog w K mg base "_law_sorts" 2 "_law_e" ["BadLine"] f_lsorts := ⟨_, _, ok_lsorts F16 B   xxcf_BadLine_ xkit_Wrong_BadLine_False xcls_Wrong xkit_NoFit_BadLine_False xcls_NoFit xkit_NoShape_BadLine_False xcls_NoShape xkit_NoRow_BadLine_False xcls_NoRow xkit_NoTable_BadLine_False xcls_NoTable xkit_TooLong_BadLine_False xcls_TooLong xkit_BadLine_BadLine_True xcls_BadLine xkit_NoDeed_BadLine_False xcls_NoDeed xkit_NoRule_BadLine_False xcls_NoRule xkit_NoText_BadLine_False xcls_NoText xkit_NoName_BadLine_False xcls_NoName xkit_Unlike_BadLine_False xcls_Unlike xkit_Nought_BadLine_False xcls_Nought xkit_NothingDone_BadLine_False xcls_NothingDone xkit_NoLine_BadLine_False xcls_NoLine xkib_ValueError_BadLine xnog_ValueError xkit_LoftError_BadLine_True xcls_LoftError , PySem.W.mg_of X G a16, k16, b16⟩
  exact ok_law18 F17 B h_ldrawn_program h_ldraws h_lcell h_lline h_lspoilt3 h_ldue4 h_prows_told h_lsorts  xext_BadLine_BadLine_True xcls_BadLine xxcf_BadLine_at 
end Tm
open PySem PySem.W PyProof.Rows in
set_option maxRecDepth 100000 in
set_option maxHeartbeats 0 in
theorem PySem.Challenge.cw_tensloft_k15_lines_refused_holds : PySem.Challenge.rw_tensloft_k15_lines_refused.Holds := by
  w_on; o_law; k_head; (case hw => w_witness2)
  k_fill
  refine Tm.walk_law (l := PySem.Challenge.rw_tensloft_k15_lines_refused) (f := Tm.f_law18) (x := "_law_script") (k := 10) rfl rfl ⟨rfl, by decide, by decide⟩ (fun w h Y => PySem.W.kIn_of Y) Tm.law_true ?F
  case F =>
    intro w mg fa h KX G hmg
    refine' Tm.all_mk KX G hmg ?a0 ?l0 ?c0 ?k0 ?a1 ?l1 ?c1 ?k1 ?a2 ?l2 ?c2 ?k2 ?a3 ?l3 ?c3 ?k3 ?a4 ?l4 ?c4 ?k4 ?a5 ?l5 ?c5 ?k5 ?a6 ?l6 ?c6 ?k6 ?a7 ?l7 ?c7 ?k7 ?a8 ?l8 ?c8 ?k8 ?a9 ?l9 ?c9 ?k9 ?a10 ?l10 ?c10 ?k10 ?a11 ?l11 ?c11 ?k11 ?a12 ?l12 ?c12 ?k12 ?a13 ?l13 ?c13 ?k13 ?a14 ?l14 ?c14 ?k14 ?a15 ?l15 ?c15 ?k15 ?a16 ?l16 ?c16 ?k16 ?a17 ?l17 ?c17 ?k17 ?z_len ?z_range ?z_abs ?z_max ?z_min ?z_int ?z_str ?z_tuple ?z_list ?z_all ?z_any ?z_isinstance ?z_divmod ?z_sum ?z_zip ?z_enumerate ?z_reversed ?z_sorted ?z_dict ?z_set ?z_bool ?qa_OTHER_PARTS ?ql_OTHER_PARTS ?qk_OTHER_PARTS ?qs_OTHER_PARTS ?qe_OTHER_PARTS ?qa_PARTS ?ql_PARTS ?qk_PARTS ?qs_PARTS ?qe_PARTS ?qa_BYTES ?qa_FIGURES ?qa_MOST_WORDS ?qa_MOST_TABLES ?qa_MOST_LINES ?n_BadLine ?n_LoftError ?n_NoDeed ?n_NoFit ?n_NoLine ?n_NoName ?n_NoRow ?n_NoRule ?n_NoShape ?n_NoTable ?n_NoText ?n_NothingDone ?n_Nought ?n_TooLong ?n_Unlike ?n_Wrong ?b1_LoftError ?b2_LoftError ?b3_LoftError ?l_BadLine ?s_BadLine ?e_BadLine ?t_BadLine ?p_BadLine ?i_BadLine_ ?j_BadLine ?f_BadLine_at ?g_BadLine ?h_BadLine_ ?m_BadLine_ ?yxxcf_BadLine_ ?yxkit_Wrong_BadLine_False ?yxkit_NoFit_BadLine_False ?yxkit_NoShape_BadLine_False ?yxkit_NoRow_BadLine_False ?yxkit_NoTable_BadLine_False ?yxkit_TooLong_BadLine_False ?yxkit_BadLine_BadLine_True ?yxkit_NoDeed_BadLine_False ?yxkit_NoRule_BadLine_False ?yxkit_NoText_BadLine_False ?yxkit_NoName_BadLine_False ?yxkit_Unlike_BadLine_False ?yxkit_Nought_BadLine_False ?yxkit_NothingDone_BadLine_False ?yxkit_NoLine_BadLine_False ?yxkib_ValueError_BadLine ?yxnog_ValueError ?yxkit_LoftError_BadLine_True ?yxext_BadLine_BadLine_True ?yxxcf_BadLine_at
    (case a0 => k_is)
    (case l0 => k_is)
    (case c0 => k_is)
    (case k0 => k_is)
    (case a1 => k_is)
    (case l1 => k_is)
    (case c1 => k_is)
    (case k1 => k_is)
    (case a2 => k_is)
    (case l2 => k_is)
    (case c2 => k_is)
    (case k2 => k_is)
    (case a3 => k_is)
    (case l3 => k_is)
    (case c3 => k_is)
    (case k3 => k_is)
    (case a4 => k_is)
    (case l4 => k_is)
    (case c4 => k_is)
    (case k4 => k_is)
    (case a5 => k_is)
    (case l5 => k_is)
    (case c5 => k_is)
    (case k5 => k_is)
    (case a6 => k_is)
    (case l6 => k_is)
    (case c6 => k_is)
    (case k6 => k_is)
    (case a7 => k_is)
    (case l7 => k_is)
    (case c7 => k_is)
    (case k7 => k_is)
    (case a8 => k_is)
    (case l8 => k_is)
    (case c8 => k_is)
    (case k8 => k_is)
    (case a9 => k_is)
    (case l9 => k_is)
    (case c9 => k_is)
    (case k9 => k_is)
    (case a10 => k_is)
    (case l10 => k_is)
    (case c10 => k_is)
    (case k10 => k_is)
    (case a11 => k_is)
    (case l11 => k_is)
    (case c11 => k_is)
    (case k11 => k_is)
    (case a12 => k_is)
    (case l12 => k_is)
    (case c12 => k_is)
    (case k12 => k_is)
    (case a13 => k_is)
    (case l13 => k_is)
    (case c13 => k_is)
    (case k13 => k_is)
    (case a14 => k_is)
    (case l14 => k_is)
    (case c14 => k_is)
    (case k14 => k_is)
    (case a15 => k_is)
    (case l15 => k_is)
    (case c15 => k_is)
    (case k15 => k_is)
    (case a16 => k_is)
    (case l16 => k_is)
    (case c16 => k_is)
    (case k16 => k_is)
    (case a17 => k_is)
    (case l17 => k_is)
    (case c17 => k_is)
    (case k17 => k_is)
    (case z_len => k_is)
    (case z_range => k_is)
    (case z_abs => k_is)
    (case z_max => k_is)
    (case z_min => k_is)
    (case z_int => k_is)
    (case z_str => k_is)
    (case z_tuple => k_is)
    (case z_list => k_is)
    (case z_all => k_is)
    (case z_any => k_is)
    (case z_isinstance => k_is)
    (case z_divmod => k_is)
    (case z_sum => k_is)
    (case z_zip => k_is)
    (case z_enumerate => k_is)
    (case z_reversed => k_is)
    (case z_sorted => k_is)
    (case z_dict => k_is)
    (case z_set => k_is)
    (case z_bool => k_is)
    (case qa_OTHER_PARTS => k_is)
    (case ql_OTHER_PARTS => k_is)
    (case qa_PARTS => k_is)
    (case ql_PARTS => k_is)
    (case qa_BYTES => k_is)
    (case qa_FIGURES => k_is)
    (case qa_MOST_WORDS => k_is)
    (case qa_MOST_TABLES => k_is)
    (case qa_MOST_LINES => k_is)
    (case n_BadLine => k_is)
    (case n_LoftError => k_is)
    (case n_NoDeed => k_is)
    (case n_NoFit => k_is)
    (case n_NoLine => k_is)
    (case n_NoName => k_is)
    (case n_NoRow => k_is)
    (case n_NoRule => k_is)
    (case n_NoShape => k_is)
    (case n_NoTable => k_is)
    (case n_NoText => k_is)
    (case n_NothingDone => k_is)
    (case n_Nought => k_is)
    (case n_TooLong => k_is)
    (case n_Unlike => k_is)
    (case n_Wrong => k_is)
    (case b1_LoftError => k_is)
    (case b2_LoftError => k_is)
    (case b3_LoftError => k_is)
    (case l_BadLine => k_is)
    (case s_BadLine => k_is)
    (case e_BadLine => k_is)
    (case t_BadLine => k_is)
    (case p_BadLine => k_is)
    (case i_BadLine_ => k_is)
    (case j_BadLine => k_is)
    (case f_BadLine_at => k_is)
    (case g_BadLine => k_is)
    (case h_BadLine_ => k_is)
    (case m_BadLine_ => k_is)
    (case yxnog_ValueError => k_is)
    (case yxxcf_BadLine_ => first | rfl | decide +kernel)
    (case yxkit_Wrong_BadLine_False => first | rfl | decide +kernel)
    (case yxkit_NoFit_BadLine_False => first | rfl | decide +kernel)
    (case yxkit_NoShape_BadLine_False => first | rfl | decide +kernel)
    (case yxkit_NoRow_BadLine_False => first | rfl | decide +kernel)
    (case yxkit_NoTable_BadLine_False => first | rfl | decide +kernel)
    (case yxkit_TooLong_BadLine_False => first | rfl | decide +kernel)
    (case yxkit_BadLine_BadLine_True => first | rfl | decide +kernel)
    (case yxkit_NoDeed_BadLine_False => first | rfl | decide +kernel)
    (case yxkit_NoRule_BadLine_False => first | rfl | decide +kernel)
    (case yxkit_NoText_BadLine_False => first | rfl | decide +kernel)
    (case yxkit_NoName_BadLine_False => first | rfl | decide +kernel)
    (case yxkit_Unlike_BadLine_False => first | rfl | decide +kernel)
    (case yxkit_Nought_BadLine_False => first | rfl | decide +kernel)
    (case yxkit_NothingDone_BadLine_False => first | rfl | decide +kernel)
    (case yxkit_NoLine_BadLine_False => first | rfl | decide +kernel)
    (case yxkib_ValueError_BadLine => first | rfl | decide +kernel)
    (case yxkit_LoftError_BadLine_True => first | rfl | decide +kernel)
    (case yxext_BadLine_BadLine_True => first | rfl | decide +kernel)
    (case yxxcf_BadLine_at => first | rfl | decide +kernel)
    (case qk_OTHER_PARTS => exact ⟨⟨_, _, rfl, rfl⟩, ⟨_, _, rfl, rfl⟩, True.intro⟩)
    (case qe_OTHER_PARTS => first | kernel_rfl | exact rfl | decide +kernel +revert)
    (case qk_PARTS => exact ⟨⟨_, _, rfl, rfl⟩, ⟨_, _, rfl, rfl⟩, ⟨_, _, rfl, rfl⟩, ⟨_, _, rfl, rfl⟩, ⟨_, _, rfl, rfl⟩, ⟨_, _, rfl, rfl⟩, ⟨_, _, rfl, rfl⟩, ⟨_, _, rfl, rfl⟩, True.intro⟩)
    (case qe_PARTS => first | kernel_rfl | exact rfl | decide +kernel +revert)
    (case qs_OTHER_PARTS => decide +kernel)
    (case qs_PARTS => decide +kernel)
