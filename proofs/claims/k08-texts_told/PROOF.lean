import PyProof.Rows.All
import Wide.All
import OpenK.AllK
import Wide.FinOn
import HandS.ForMost
import HandS.ForExc
import HandS.Wide
import HandS.Evl
import HandS.TupAny
import HandS.TupMul
import HandS.NoneIn
import HandS.Zip
import HandS.IsInst
import HandS.Text
import HandS.StrMore
import HandS.Comp
import HandS.Style
import PyProof.StrOps2
import KE.GoesMore
import KE.GoesEnum
import KE.GoesZip
import HandS.ExcCtx
import HandS.ExcOwn
import HandS.ExcInit
import HandS.ExcIs
import HandS.ExcField
import HandS.Replace
import HandS.CallLocal
import HandS.WideBits
import HandS.Conv
import KE.GoesEnumKw
import PyProof.Rows.CallKwBuiltin
import HandS.HotCalls
import HandS.More
import HandS.RaiseMore
import HandS.TupLe
import HandS.Flt
import PySem.Challenge.RW_tensloft_k08_texts_told
set_option Elab.async false
set_option linter.all false
set_option maxRecDepth 100000
set_option maxHeartbeats 2000000
namespace Tm
open PySem L2
inductive MV where
  | non | bl (b : Bool) | int (i : Int) | str (x : Str)
  | tup (xs : List MV) | lst (xs : List MV) | own (xs : List MV)
  | raw (v : V) | scr (ns : List Int)
  | fnc (x : Str)
  | obj (C : Str) (fs : List (Str × MV))
  | dct (ks : List Key) (xs : List MV)
  | dow (ks : List Key) (xs : List MV)
  | dot (ks : List (List Key)) (xs : List MV)
instance : Inhabited MV := ⟨.non⟩
abbrev Env := List (Option MV)
structure MX where
  cls : Str
  fs : List (Str × MV)
inductive Res (α : Type) where
  | ok (a : α) | exc (e : MX) (ρ : Env) | stuck
inductive Fl where
  | nx | br | ct | rt (x : MV)
open Evl (Ex ex_rd ex_l ex_t)
theorem _root_.Evl.Ex.back {H H' : Hp} {p : Addr} (e : Ex H H') (h : H' p = none) : H p = none := Evl.fresh_back e h
theorem _root_.Evl.Ex.both {H H' : Hp} {p : Addr} {o : HO} (e : Ex H H') (h : H' p = none) : Ex (upd H p o) (upd H' p o) := fun a u ha => by
  by_cases hp : a = p
  · subst hp; rw [upd_same] at ha ⊢; exact ha
  · rw [upd_ne hp] at ha ⊢; exact e a u ha
theorem _root_.Evl.Ex.updL {H H' : Hp} {p : Addr} {o : HO} (e : Ex H H') (h : H' p = some o) : Ex (upd H p o) H' := fun a u ha => by
  by_cases hp : a = p
  · subst hp; rw [upd_same] at ha; cases ha; exact h
  · rw [upd_ne hp] at ha; exact e a u ha
mutual
def RV (K : PySem.W.Frag) (H : Hp) : MV → V → Prop
  | .non, v => v = .non
  | .bl b, v => v = .bl b
  | .int i, v => v = .int i
  | .str x, v => v = .str x
  | .tup xs, v => ∃ a vs, v = .ref a ∧ SqT K H a vs ∧ RVs K H xs vs
  | .lst xs, v => ∃ a vs, v = .ref a ∧ H a = some (.lst vs) ∧ RVs K H xs vs
  | .own _, _ => False
  | .raw w, v => v = w
  | .scr ns, v => ∃ a, v = .ref a ∧ SqL K H a (ns.map V.int)
  | .fnc x, v => ∃ a, v = .ref a ∧ PySem.W.nsIn K mainGlobals x = some (some (.ref a))
  | .obj _ _, _ => False
  | .dct ks xs, v => ∃ a vs, v = .ref a ∧ H a = some (.dK (ks.zip vs)) ∧ ks.length = xs.length ∧ RVs K H xs vs
  | .dow _ _, _ => False
  | .dot _ _, _ => False
def RVs (K : PySem.W.Frag) (H : Hp) : List MV → List V → Prop
  | [], vs => vs = []
  | x :: xs, vs => ∃ v r, vs = v :: r ∧ RV K H x v ∧ RVs K H xs r
end
mutual
theorem RV.mono {K : PySem.W.Frag} {H H' : Hp} (e : Ex H H') : ∀ (x : MV) (v : V), RV K H x v → RV K H' x v
  | .non, v, h => by unfold RV at h ⊢; exact h
  | .bl b, v, h => by unfold RV at h ⊢; exact h
  | .int i, v, h => by unfold RV at h ⊢; exact h
  | .str x, v, h => by unfold RV at h ⊢; exact h
  | .tup xs, v, h => by
    unfold RV at h ⊢
    obtain ⟨a, vs, e1, e2, e3⟩ := h
    exact ⟨a, vs, e1, ex_t e e2, RVs.mono e xs vs e3⟩
  | .lst xs, v, h => by
    unfold RV at h ⊢
    obtain ⟨a, vs, e1, e2, e3⟩ := h
    exact ⟨a, vs, e1, e _ _ e2, RVs.mono e xs vs e3⟩
  | .own xs, v, h => by unfold RV at h; exact h.elim
  | .raw w, v, h => by unfold RV at h ⊢; exact h
  | .scr ns, v, h => by
    unfold RV at h ⊢
    obtain ⟨a, e1, e2⟩ := h
    exact ⟨a, e1, ex_l e e2⟩
  | .fnc x, v, h => by unfold RV at h ⊢; exact h
  | .obj C fs, v, h => by unfold RV at h; exact h.elim
  | .dct ks xs, v, h => by
    unfold RV at h ⊢
    obtain ⟨a, vs, e1, e2, e3, e4⟩ := h
    exact ⟨a, vs, e1, e _ _ e2, e3, RVs.mono e xs vs e4⟩
  | .dow ks xs, v, h => by unfold RV at h; exact h.elim
  | .dot ks xs, v, h => by unfold RV at h; exact h.elim
theorem RVs.mono {K : PySem.W.Frag} {H H' : Hp} (e : Ex H H') : ∀ (xs : List MV) (vs : List V), RVs K H xs vs → RVs K H' xs vs
  | [], vs, h => by unfold RVs at h ⊢; exact h
  | x :: xs, vs, h => by
    unfold RVs at h ⊢
    obtain ⟨v, r, e1, e2, e3⟩ := h
    exact ⟨v, r, e1, RV.mono e x v e2, RVs.mono e xs r e3⟩
end
section
variable {K : PySem.W.Frag} {H : Hp}
theorem RV.int {i : Int} {v : V} : RV K H (.int i) v ↔ v = .int i := by unfold RV; rfl
theorem RV.bl {i : Bool} {v : V} : RV K H (.bl i) v ↔ v = .bl i := by unfold RV; rfl
theorem RV.str {i : Str} {v : V} : RV K H (.str i) v ↔ v = .str i := by unfold RV; rfl
theorem RV.non {v : V} : RV K H .non v ↔ v = .non := by unfold RV; rfl
theorem RV.raw {w v : V} : RV K H (.raw w) v ↔ v = w := by unfold RV; rfl
theorem RV.tup {xs : List MV} {v : V} : RV K H (.tup xs) v ↔ ∃ a vs, v = .ref a ∧ SqT K H a vs ∧ RVs K H xs vs := by
  constructor <;> intro h <;> (unfold RV at *; exact h)
theorem RV.lst {xs : List MV} {v : V} : RV K H (.lst xs) v ↔ ∃ a vs, v = .ref a ∧ H a = some (.lst vs) ∧ RVs K H xs vs := by
  constructor <;> intro h <;> (unfold RV at *; exact h)
theorem RV.dct {ks : List Key} {xs : List MV} {v : V} : RV K H (.dct ks xs) v ↔ ∃ a vs, v = .ref a ∧ H a = some (.dK (ks.zip vs)) ∧ ks.length = xs.length ∧ RVs K H xs vs := by
  constructor <;> intro h <;> (unfold RV at *; exact h)
theorem RV.scr {ns : List Int} {v : V} : RV K H (.scr ns) v ↔ ∃ a, v = .ref a ∧ SqL K H a (ns.map V.int) := by
  constructor <;> intro h <;> (unfold RV at *; exact h)
theorem RV.fnc {x : Str} {v : V} : RV K H (.fnc x) v ↔ ∃ a, v = .ref a ∧ PySem.W.nsIn K mainGlobals x = some (some (.ref a)) := by
  constructor <;> intro h <;> (unfold RV at *; exact h)
theorem RVs.nil {vs : List V} : RVs K H [] vs ↔ vs = [] := by unfold RVs; rfl
theorem RVs.cons {x : MV} {xs : List MV} {vs : List V} : RVs K H (x :: xs) vs ↔ ∃ v r, vs = v :: r ∧ RV K H x v ∧ RVs K H xs r := by
  rw [RVs]
theorem RVs.length : ∀ {xs : List MV} {vs : List V}, RVs K H xs vs → vs.length = xs.length
  | [], vs, h => by rw [RVs.nil] at h; subst h; rfl
  | x :: xs, vs, h => by
    rw [RVs.cons] at h
    obtain ⟨v, r, rfl, _, h⟩ := h
    simp [RVs.length h]
theorem RVs.get : ∀ {xs : List MV} {vs : List V} {i : Nat} {x : MV}, RVs K H xs vs → xs[i]? = some x → ∃ v, vs[i]? = some v ∧ RV K H x v
  | [], _, i, x, _, e => by simp at e
  | y :: xs, vs, 0, x, h, e => by
    rw [RVs.cons] at h
    obtain ⟨v, r, rfl, h1, _⟩ := h
    simp at e; subst e; exact ⟨v, rfl, h1⟩
  | y :: xs, vs, i + 1, x, h, e => by
    rw [RVs.cons] at h
    obtain ⟨v, r, rfl, _, h⟩ := h
    obtain ⟨u, h1, h2⟩ := RVs.get (i := i) (x := x) h (by simpa using e)
    exact ⟨u, by simpa using h1, h2⟩
theorem RVs.append : ∀ {xs ys : List MV} {vs ws : List V}, RVs K H xs vs → RVs K H ys ws → RVs K H (xs ++ ys) (vs ++ ws)
  | [], ys, vs, ws, h, h2 => by rw [RVs.nil] at h; subst h; exact h2
  | x :: xs, ys, vs, ws, h, h2 => by
    rw [RVs.cons] at h
    obtain ⟨v, r, rfl, h1, h⟩ := h
    show RVs K H (x :: (xs ++ ys)) (v :: (r ++ ws))
    rw [RVs.cons]
    exact ⟨v, r ++ ws, rfl, h1, RVs.append h h2⟩
theorem RVs.take : ∀ {xs : List MV} {vs : List V} (n : Nat), RVs K H xs vs → RVs K H (xs.take n) (vs.take n)
  | _, _, 0, _ => by simp [RVs]
  | [], vs, n + 1, h => by rw [RVs.nil] at h; subst h; simp [RVs]
  | x :: xs, vs, n + 1, h => by
    rw [RVs.cons] at h
    obtain ⟨v, r, rfl, h1, h⟩ := h
    show RVs K H (x :: xs.take n) (v :: r.take n)
    rw [RVs.cons]
    exact ⟨v, _, rfl, h1, RVs.take n h⟩
theorem RVs.drop : ∀ {xs : List MV} {vs : List V} (n : Nat), RVs K H xs vs → RVs K H (xs.drop n) (vs.drop n)
  | _, _, 0, h => h
  | [], vs, n + 1, h => by rw [RVs.nil] at h; subst h; simp [RVs]
  | x :: xs, vs, n + 1, h => by
    rw [RVs.cons] at h
    obtain ⟨v, r, rfl, h1, h⟩ := h
    exact RVs.drop n h
theorem RVs.set : ∀ {xs : List MV} {vs : List V} (i : Nat) {x : MV} {v : V}, RVs K H xs vs → RV K H x v → RVs K H (xs.set i x) (vs.set i v)
  | [], vs, i, x, v, h, _ => by rw [RVs.nil] at h; subst h; simp [RVs]
  | y :: xs, vs, 0, x, v, h, h2 => by
    rw [RVs.cons] at h
    obtain ⟨u, r, rfl, h1, h⟩ := h
    show RVs K H (x :: xs) (v :: r)
    rw [RVs.cons]; exact ⟨v, r, rfl, h2, h⟩
  | y :: xs, vs, i + 1, x, v, h, h2 => by
    rw [RVs.cons] at h
    obtain ⟨u, r, rfl, h1, h⟩ := h
    show RVs K H (y :: xs.set i x) (u :: r.set i v)
    rw [RVs.cons]; exact ⟨u, _, rfl, h1, RVs.set i h h2⟩
theorem RVs.reverse : ∀ {xs : List MV} {vs : List V}, RVs K H xs vs → RVs K H xs.reverse vs.reverse
  | [], vs, h => by rw [RVs.nil] at h; subst h; simp [RVs]
  | x :: xs, vs, h => by
    rw [RVs.cons] at h
    obtain ⟨v, r, rfl, h1, h⟩ := h
    rw [List.reverse_cons, List.reverse_cons]
    refine RVs.append (RVs.reverse h) ?_
    rw [RVs.cons]; exact ⟨v, [], rfl, h1, RVs.nil.mpr rfl⟩
theorem RVs.ints : ∀ {ns : List Int} {vs : List V}, RVs K H (ns.map MV.int) vs ↔ vs = ns.map V.int
  | [], vs => RVs.nil
  | n :: ns, vs => by
    rw [List.map_cons, RVs.cons]
    constructor
    · rintro ⟨v, r, rfl, h1, h2⟩
      rw [RV.int.mp h1, RVs.ints.mp h2]; rfl
    · rintro rfl
      exact ⟨_, _, rfl, RV.int.mpr rfl, RVs.ints.mpr rfl⟩
end
def OF (K : PySem.W.Frag) (Hk H : Hp) : MV → V → List Addr → Prop
  | .own xs, v, A => ∃ p vs, v = .ref p ∧ A = [p] ∧ H p = some (.lst vs) ∧ RVs K Hk xs vs
  | .dow ks xs, v, A => ∃ p vs, v = .ref p ∧ A = [p] ∧ H p = some (.dK (ks.zip vs)) ∧ ks.length = xs.length ∧ RVs K Hk xs vs
  | .dot ks xs, v, A => ∃ p vs, v = .ref p ∧ A = [p] ∧ H p = some (.dT (ks.zip vs)) ∧ ks.length = xs.length ∧ RVs K Hk xs vs
  | x, v, A => A = [] ∧ RV K Hk x v
def OFs (K : PySem.W.Frag) (Hk H : Hp) : List (Str × MV) → List (Str × V) → List Addr → Prop
  | [], vs, A => vs = [] ∧ A = []
  | (n, x) :: xs, vs, A => ∃ v r B C, vs = (n, v) :: r ∧ A = B ++ C ∧ OF K Hk H x v B ∧ OFs K Hk H xs r C
def OV (K : PySem.W.Frag) (Hk H : Hp) : MV → V → List Addr → Prop
  | .obj C fs, v, A => ∃ p CA dx vfs B, v = .ref p ∧ A = p :: B ∧ PySem.W.nsIn K mainGlobals C = some (some (.ref CA)) ∧ H p = some (.ins CA dx vfs) ∧ OFs K Hk H fs vfs B ∧ (p :: B).Nodup
  | x, v, A => OF K Hk H x v A
def MV.per : MV → Bool
  | .own _ => false
  | .obj _ _ => false
  | .dow _ _ => false
  | .dot _ _ => false
  | _ => true
theorem OF.per {K : PySem.W.Frag} {Hk H : Hp} {x : MV} {v : V} {A : List Addr} (h : x.per = true) : OF K Hk H x v A ↔ A = [] ∧ RV K Hk x v := by
  cases x <;> first | (simp [MV.per] at h; done) | (unfold OF; rfl)
theorem OV.per {K : PySem.W.Frag} {Hk H : Hp} {x : MV} {v : V} {A : List Addr} (h : x.per = true) : OV K Hk H x v A ↔ A = [] ∧ RV K Hk x v := by
  cases x <;> first | (simp [MV.per] at h; done) | (unfold OV OF; rfl)
theorem OV.own {K : PySem.W.Frag} {Hk H : Hp} {xs : List MV} {v : V} {A : List Addr} : OV K Hk H (.own xs) v A ↔ ∃ p vs, v = .ref p ∧ A = [p] ∧ H p = some (.lst vs) ∧ RVs K Hk xs vs := by
  unfold OV OF; rfl
theorem RV.isper {K : PySem.W.Frag} {H : Hp} {x : MV} {v : V} (h : RV K H x v) : x.per = true := by
  cases x <;> first | rfl | (unfold RV at h; exact h.elim)
theorem RV.ov {K : PySem.W.Frag} {Hk H : Hp} {x : MV} {v : V} (h : RV K Hk x v) : OV K Hk H x v [] := (OV.per h.isper).mpr ⟨rfl, h⟩
theorem OF.move {K : PySem.W.Frag} {Hk Hk' H H' : Hp} {x : MV} {v : V} {A : List Addr} (h : OF K Hk H x v A) (e : Ex Hk Hk') (k : ∀ a ∈ A, ∀ o, H a = some o → H' a = some o) : OF K Hk' H' x v A := by
  cases x with
  | own xs =>
    unfold OF at h ⊢
    obtain ⟨p, vs, e1, e2, e3, e4⟩ := h
    exact ⟨p, vs, e1, e2, k p (by rw [e2]; simp) _ e3, e4.mono e⟩
  | dow ks xs =>
    unfold OF at h ⊢
    obtain ⟨p, vs, e1, e2, e3, e5, e4⟩ := h
    exact ⟨p, vs, e1, e2, k p (by rw [e2]; simp) _ e3, e5, e4.mono e⟩
  | dot ks xs =>
    unfold OF at h ⊢
    obtain ⟨p, vs, e1, e2, e3, e5, e4⟩ := h
    exact ⟨p, vs, e1, e2, k p (by rw [e2]; simp) _ e3, e5, e4.mono e⟩
  | obj C fs => exact (show False by unfold OF at h; unfold RV at h; exact h.2).elim
  | _ =>
    unfold OF at h ⊢
    exact ⟨h.1, RV.mono e _ _ h.2⟩
theorem OFs.move {K : PySem.W.Frag} {Hk Hk' H H' : Hp} : ∀ {fs : List (Str × MV)} {vs : List (Str × V)} {A : List Addr}, OFs K Hk H fs vs A → Ex Hk Hk' → (∀ a ∈ A, ∀ o, H a = some o → H' a = some o) → OFs K Hk' H' fs vs A
  | [], _, _, h, _, _ => h
  | (n, x) :: fs, vs, A, h, e, k => by
    obtain ⟨v, r, B, C, e1, e2, h1, h2⟩ := h
    refine ⟨v, r, B, C, e1, e2, h1.move e fun a ha => k a (by rw [e2]; exact List.mem_append_left _ ha), OFs.move h2 e fun a ha => k a (by rw [e2]; exact List.mem_append_right _ ha)⟩
theorem OV.move {K : PySem.W.Frag} {Hk Hk' H H' : Hp} {x : MV} {v : V} {A : List Addr} (h : OV K Hk H x v A) (e : Ex Hk Hk') (k : ∀ a ∈ A, ∀ o, H a = some o → H' a = some o) : OV K Hk' H' x v A := by
  cases x with
  | obj C fs =>
    unfold OV at h ⊢
    obtain ⟨p, CA, dx, vfs, B, e1, e2, e0, e3, e4, e5⟩ := h
    exact ⟨p, CA, dx, vfs, B, e1, e2, e0, k p (by rw [e2]; simp) _ e3, OFs.move e4 e fun a ha => k a (by rw [e2]; exact List.mem_cons_of_mem _ ha), e5⟩
  | _ => (unfold OV at h ⊢; exact OF.move h e k)
theorem OF.there {K : PySem.W.Frag} {Hk H : Hp} {x : MV} {v : V} {A : List Addr} (h : OF K Hk H x v A) : ∀ a ∈ A, ∃ o, H a = some o := by
  cases x with
  | own xs =>
    unfold OF at h
    obtain ⟨p, vs, e1, e2, e3, e4⟩ := h
    intro a ha
    rw [e2] at ha
    simp at ha
    subst ha
    exact ⟨_, e3⟩
  | dow ks xs =>
    unfold OF at h
    obtain ⟨p, vs, e1, e2, e3, e5, e4⟩ := h
    intro a ha
    rw [e2] at ha
    simp at ha
    subst ha
    exact ⟨_, e3⟩
  | dot ks xs =>
    unfold OF at h
    obtain ⟨p, vs, e1, e2, e3, e5, e4⟩ := h
    intro a ha
    rw [e2] at ha
    simp at ha
    subst ha
    exact ⟨_, e3⟩
  | _ =>
    unfold OF at h
    intro a ha
    rw [h.1] at ha
    cases ha
theorem OFs.there {K : PySem.W.Frag} {Hk H : Hp} : ∀ {fs : List (Str × MV)} {vs : List (Str × V)} {A : List Addr}, OFs K Hk H fs vs A → ∀ a ∈ A, ∃ o, H a = some o
  | [], _, _, h, a, ha => by rw [h.2] at ha; cases ha
  | (n, x) :: fs, vs, A, h, a, ha => by
    obtain ⟨v, r, B, C, e1, e2, h1, h2⟩ := h
    rw [e2] at ha
    rcases List.mem_append.mp ha with ha | ha
    · exact h1.there a ha
    · exact OFs.there h2 a ha
theorem OV.there {K : PySem.W.Frag} {Hk H : Hp} {x : MV} {v : V} {A : List Addr} (h : OV K Hk H x v A) : ∀ a ∈ A, ∃ o, H a = some o := by
  cases x with
  | obj C fs =>
    unfold OV at h
    obtain ⟨p, CA, dx, vfs, B, e1, e2, e0, e3, e4, e5⟩ := h
    intro a ha
    rw [e2] at ha
    rcases List.mem_cons.mp ha with rfl | ha
    · exact ⟨_, e3⟩
    · exact OFs.there e4 a ha
  | _ => (unfold OV at h; exact OF.there h)
def put (ow : Nat → List Addr) (i : Nat) (A : List Addr) : Nat → List Addr := fun j => if j = i then A else ow j
theorem put_same {ow : Nat → List Addr} {i : Nat} {A : List Addr} : put ow i A i = A := if_pos rfl
theorem put_ne {ow : Nat → List Addr} {i j : Nat} {A : List Addr} (h : j ≠ i) : put ow i A j = ow j := if_neg h
structure SL (K : PySem.W.Frag) (F Hk H : Hp) (ow : Nat → List Addr) (σ : St) (ρ : Env) : Prop where
  s : ∀ (i : Nat) x, ρ[i]? = some (some x) → ∃ v, σ[i]? = some (some v) ∧ OV K Hk H x v (ow i)
  f : ∀ i a, a ∈ ow i → Hk a = none ∧ F a = none ∧ ∃ o, H a = some o
  w : ∀ i, ow i ≠ [] → i < ρ.length
  d : ∀ i j a, i ≠ j → a ∈ ow i → a ∉ ow j
structure RS (K : PySem.W.Frag) (F Hk H : Hp) (bp : List (Nat × Addr)) (σ : St) (ρ : Env) : Prop where
  len : σ.length = ρ.length
  ex : Ex Hk H
  fr : Ex F H
  frk : ∀ a o, F a = some o → Hk a = none
  ow : ∃ ow, SL K F Hk H ow σ ρ
  bor : ∀ q ∈ bp, σ[q.1]? = some (some (.ref q.2))
theorem set_get {α : Type} {l : List α} {i j : Nat} {x y : α} (h : (l.set i x)[j]? = some y) : (j = i ∧ y = x) ∨ (j ≠ i ∧ l[j]? = some y) := by
  by_cases e : i = j
  · subst e
    rw [List.getElem?_set] at h
    simp at h
    exact .inl ⟨rfl, h.2.symm⟩
  · rw [List.getElem?_set_ne e] at h
    exact .inr ⟨fun q => e q.symm, h⟩
theorem app_get {α : Type} {l : List α} {j : Nat} {x y : α} (h : (l ++ [x])[j]? = some y) : (j = l.length ∧ y = x) ∨ (j < l.length ∧ l[j]? = some y) := by
  by_cases e : j < l.length
  · rw [List.getElem?_append_left e] at h; exact .inr ⟨e, h⟩
  · rw [List.getElem?_append_right (Nat.le_of_not_lt e)] at h
    have := (List.getElem?_eq_some_iff.mp h).1
    simp at this
    have ej : j = l.length := by omega
    subst ej
    simp at h
    exact .inl ⟨rfl, h.symm⟩
theorem lt_get {α : Type} {l : List α} {j : Nat} {y : α} (h : l[j]? = some y) : j < l.length := (List.getElem?_eq_some_iff.mp h).1
section
variable {K : PySem.W.Frag} {F Hk Hk' H H' : Hp} {bp : List (Nat × Addr)} {σ : St} {ρ : Env} {ow : Nat → List Addr}
theorem SL.out (S : SL K F Hk H ow σ ρ) {i : Nat} (h : ρ.length ≤ i) : ow i = [] := by
  cases e : ow i with
  | nil => rfl
  | cons a r => exact absurd (S.w i (by rw [e]; simp)) (by omega)
theorem SL.fresh (S : SL K F Hk H ow σ ρ) {p : Addr} (h : H p = none) (i : Nat) : p ∉ ow i := fun m => by
  obtain ⟨_, _, o, e⟩ := S.f i p m
  rw [h] at e; cases e
theorem SL.step (S : SL K F Hk H ow σ ρ) (e : Ex Hk Hk') (k : ∀ i, ∀ a ∈ ow i, H' a = H a ∧ Hk' a = none) : SL K F Hk' H' ow σ ρ := by
  refine ⟨fun i x h => ?_, fun i a h => ?_, S.w, S.d⟩
  · obtain ⟨v, ev, o⟩ := S.s i x h
    exact ⟨v, ev, o.move e fun a ha u hu => by rw [(k i a ha).1]; exact hu⟩
  · obtain ⟨f1, f2, o, f3⟩ := S.f i a h
    exact ⟨(k i a h).2, f2, o, by rw [(k i a h).1]; exact f3⟩
theorem SL.set (S : SL K F Hk H ow σ ρ) (hl : σ.length = ρ.length) {i : Nat} {x : MV} {v : V} (hi : i < ρ.length) (r : RV K Hk x v) : SL K F Hk H (put ow i []) (σ.set i (some v)) (ρ.set i (some x)) := by
  refine ⟨fun j y h => ?_, fun j a h => ?_, fun j h => ?_, fun j k a hjk h => ?_⟩
  · rcases set_get h with ⟨rfl, e⟩ | ⟨ne, e⟩
    · cases e
      refine ⟨v, by rw [List.getElem?_set_self (by rw [hl]; exact hi)], ?_⟩
      rw [put_same]; exact r.ov
    · obtain ⟨u, e1, e2⟩ := S.s j y e
      exact ⟨u, by rw [List.getElem?_set_ne (Ne.symm ne)]; exact e1, by rw [put_ne ne]; exact e2⟩
  · by_cases e : j = i
    · rw [e, put_same] at h; cases h
    · rw [put_ne e] at h; exact S.f j a h
  · by_cases e : j = i
    · rw [e, put_same] at h; exact (h rfl).elim
    · rw [put_ne e] at h; rw [List.length_set]; exact S.w j h
  · by_cases e : j = i
    · rw [e, put_same] at h; cases h
    · rw [put_ne e] at h
      by_cases e2 : k = i
      · rw [e2, put_same]; simp
      · rw [put_ne e2]; exact S.d j k a hjk h
theorem SL.push (S : SL K F Hk H ow σ ρ) (hl : σ.length = ρ.length) {x : MV} {v : V} {A : List Addr} (o : OV K Hk H x v A) (hf : ∀ a ∈ A, Hk a = none ∧ F a = none) (hd : ∀ i, ∀ a ∈ A, a ∉ ow i) :
    SL K F Hk H (put ow ρ.length A) (σ ++ [some v]) (ρ ++ [some x]) := by
  refine ⟨fun j y h => ?_, fun j a h => ?_, fun j h => ?_, fun j k a hjk h => ?_⟩
  · rcases app_get h with ⟨rfl, e⟩ | ⟨lt, e⟩
    · cases e
      refine ⟨v, by rw [← hl]; simp, ?_⟩
      rw [put_same]; exact o
    · obtain ⟨u, e1, e2⟩ := S.s j y e
      exact ⟨u, by rw [List.getElem?_append_left (by rw [hl]; exact lt)]; exact e1, by rw [put_ne (Nat.ne_of_lt lt)]; exact e2⟩
  · by_cases e : j = ρ.length
    · rw [e, put_same] at h; exact ⟨(hf a h).1, (hf a h).2, o.there a h⟩
    · rw [put_ne e] at h; exact S.f j a h
  · by_cases e : j = ρ.length
    · rw [e]; simp
    · rw [put_ne e] at h; have := S.w j h; simp; omega
  · by_cases e : j = ρ.length
    · rw [e, put_same] at h
      rw [put_ne (fun z => hjk (e.trans z.symm))]
      exact hd k a h
    · rw [put_ne e] at h
      by_cases e2 : k = ρ.length
      · rw [e2, put_same]; exact fun z => hd j a z h
      · rw [put_ne e2]; exact S.d j k a hjk h
theorem SL.take (S : SL K F Hk H ow (σ ++ [some v]) (ρ ++ [some x])) (hl : σ.length = ρ.length) {i : Nat} (hi : i < ρ.length) : SL K F Hk H (put (put ow i (ow ρ.length)) ρ.length []) (σ.set i (some v)) (ρ.set i (some x)) := by
  have ne : i ≠ ρ.length := Nat.ne_of_lt hi
  obtain ⟨u, hu, ou⟩ := S.s ρ.length x (by simp)
  have ev : u = v := by rw [← hl] at hu; simpa using hu.symm
  subst ev
  have lt : ∀ j a, a ∈ put (put ow i (ow ρ.length)) ρ.length [] j → (j = i ∧ a ∈ ow ρ.length) ∨ (j ≠ i ∧ j < ρ.length ∧ a ∈ ow j) := fun j a h => by
    by_cases e : j = ρ.length
    · rw [e, put_same] at h; cases h
    · rw [put_ne e] at h
      by_cases e2 : j = i
      · rw [e2, put_same] at h; exact .inl ⟨e2, h⟩
      · rw [put_ne e2] at h
        have := S.w j (by intro z; rw [z] at h; cases h)
        simp at this
        exact .inr ⟨e2, by omega, h⟩
  refine ⟨fun j y h => ?_, fun j a h => ?_, fun j h => ?_, fun j k a hjk h => ?_⟩
  · rcases set_get h with ⟨rfl, e⟩ | ⟨ne2, e⟩
    · cases e
      refine ⟨u, by rw [List.getElem?_set_self (by rw [hl]; exact hi)], ?_⟩
      rw [put_ne ne, put_same]; exact ou
    · have lj := lt_get e
      obtain ⟨w, e1, e2⟩ := S.s j y (by rw [List.getElem?_append_left lj]; exact e)
      rw [List.getElem?_append_left (by rw [hl]; exact lj)] at e1
      exact ⟨w, by rw [List.getElem?_set_ne (Ne.symm ne2)]; exact e1, by rw [put_ne (Nat.ne_of_lt lj), put_ne ne2]; exact e2⟩
  · rcases lt j a h with ⟨_, m⟩ | ⟨_, _, m⟩
    · exact S.f _ a m
    · exact S.f _ a m
  · rw [List.length_set]
    cases e : put (put ow i (ow ρ.length)) ρ.length [] j with
    | nil => exact (h e).elim
    | cons a r =>
      rcases lt j a (by rw [e]; simp) with ⟨e, _⟩ | ⟨_, l, _⟩
      · rw [e]; exact hi
      · exact l
  · intro hk
    rcases lt j a h with ⟨e1, m⟩ | ⟨e1, l1, m⟩ <;> rcases lt k a hk with ⟨e2, m2⟩ | ⟨e2, l2, m2⟩
    · exact hjk (e1.trans e2.symm)
    · exact S.d ρ.length k a (by omega) m m2
    · exact S.d j ρ.length a (by omega) m m2
    · exact S.d j k a hjk m m2
theorem SL.drop (S : SL K F Hk H ow (σ ++ [y]) (ρ ++ [x])) (hl : σ.length = ρ.length) : SL K F Hk H (put ow ρ.length []) σ ρ := by
  refine ⟨fun j y h => ?_, fun j a h => ?_, fun j h => ?_, fun j k a hjk h => ?_⟩
  · have lj := lt_get h
    obtain ⟨w, e1, e2⟩ := S.s j y (by rw [List.getElem?_append_left lj]; exact h)
    rw [List.getElem?_append_left (by rw [hl]; exact lj)] at e1
    exact ⟨w, e1, by rw [put_ne (Nat.ne_of_lt lj)]; exact e2⟩
  · by_cases e : j = ρ.length
    · rw [e, put_same] at h; cases h
    · rw [put_ne e] at h; exact S.f j a h
  · by_cases e : j = ρ.length
    · rw [e, put_same] at h; exact (h rfl).elim
    · rw [put_ne e] at h; have := S.w j h; simp at this; omega
  · by_cases e : j = ρ.length
    · rw [e, put_same] at h; cases h
    · rw [put_ne e] at h
      by_cases e2 : k = ρ.length
      · rw [e2, put_same]; simp
      · rw [put_ne e2]; exact S.d j k a hjk h
theorem RS.get (S : RS K F Hk H bp σ ρ) {i : Nat} {x : MV} (h : ρ[i]? = some (some x)) (hp : x.per = true) : ∃ v, σ[i]? = some (some v) ∧ RV K Hk x v := by
  obtain ⟨ow, s⟩ := S.ow
  obtain ⟨v, e, o⟩ := s.s i x h
  exact ⟨v, e, ((OV.per hp).mp o).2⟩
theorem RS.getOwn (S : RS K F Hk H bp σ ρ) {i : Nat} {xs : List MV} (h : ρ[i]? = some (some (.own xs))) : ∃ p vs, σ[i]? = some (some (.ref p)) ∧ H p = some (.lst vs) ∧ RVs K Hk xs vs ∧ Hk p = none ∧ F p = none := by
  obtain ⟨ow, s⟩ := S.ow
  obtain ⟨v, e, o⟩ := s.s i _ h
  obtain ⟨p, vs, e1, e2, e3, e4⟩ := OV.own.mp o
  have m : p ∈ ow i := by rw [e2]; simp
  exact ⟨p, vs, by rw [e, e1], e3, e4, (s.f i p m).1, (s.f i p m).2.1⟩
theorem RS.step (S : RS K F Hk H bp σ ρ) (e : Ex Hk Hk') (e' : Ex Hk' H') (k : ∀ a o, Hk a = none → H a = some o → H' a = some o ∧ Hk' a = none) : RS K F Hk' H' bp σ ρ := by
  obtain ⟨ow, s⟩ := S.ow
  refine ⟨S.len, e', fun a o h => (k a o (S.frk a o h) (S.fr a o h)).1, fun a o h => (k a o (S.frk a o h) (S.fr a o h)).2, ⟨ow, s.step e fun i a h => ?_⟩, S.bor⟩
  obtain ⟨f1, _, o, f2⟩ := s.f i a h
  exact ⟨((k a o f1 f2).1).trans f2.symm, (k a o f1 f2).2⟩
theorem RS.new (S : RS K F Hk H bp σ ρ) {p : Addr} {o : HO} (h : H p = none) : RS K F (upd Hk p o) (upd H p o) bp σ ρ :=
  S.step (Ex.new (S.ex.back h)) (S.ex.both h) fun a u hk ha => by
    have ne := ne_of_none ha h
    rw [upd_ne ne, upd_ne ne]
    exact ⟨ha, hk⟩
theorem RS.more (S : RS K F Hk H bp σ ρ) {p : Addr} {o : HO} (h : H p = none) : RS K F Hk (upd H p o) bp σ ρ :=
  S.step (Ex.refl _) (S.ex.mut (S.ex.back h)) fun a u hk ha => by
    rw [upd_ne (ne_of_none ha h)]
    exact ⟨ha, hk⟩
theorem RS.set (S : RS K F Hk H bp σ ρ) {i : Nat} {x : MV} {v : V} (hi : i < ρ.length) (r : RV K Hk x v) (hb : ∀ q ∈ bp, q.1 ≠ i) : RS K F Hk H bp (σ.set i (some v)) (ρ.set i (some x)) := by
  obtain ⟨ow, s⟩ := S.ow
  exact ⟨by simp [S.len], S.ex, S.fr, S.frk, ⟨_, s.set S.len hi r⟩, fun q hq => by rw [List.getElem?_set_ne (Ne.symm (hb q hq))]; exact S.bor q hq⟩
theorem RS.bor_app (S : RS K F Hk H bp σ ρ) (y : Option V) : ∀ q ∈ bp, (σ ++ [y])[q.1]? = some (some (.ref q.2)) := fun q hq => by
  have q1 := S.bor q hq
  rw [List.getElem?_append_left (lt_get q1)]; exact q1
theorem RS.push (S : RS K F Hk H bp σ ρ) {x : MV} {v : V} (r : RV K Hk x v) : RS K F Hk H bp (σ ++ [some v]) (ρ ++ [some x]) := by
  obtain ⟨ow, s⟩ := S.ow
  exact ⟨by simp [S.len], S.ex, S.fr, S.frk, ⟨_, s.push S.len r.ov (fun _ h => nomatch h) (fun _ _ h => nomatch h)⟩, S.bor_app _⟩
theorem RS.pushOwn (S : RS K F Hk H bp σ ρ) {p : Addr} {xs : List MV} {vs : List V} (h : H p = none) (r : RVs K Hk xs vs) : RS K F Hk (upd H p (.lst vs)) bp (σ ++ [some (.ref p)]) (ρ ++ [some (.own xs)]) := by
  obtain ⟨ow, s⟩ := S.ow
  have S' := S.more (o := .lst vs) h
  have s' : SL K F Hk (upd H p (.lst vs)) ow σ ρ := s.step (Ex.refl _) fun i a ha => by
    obtain ⟨f1, f2, o, f3⟩ := s.f i a ha
    exact ⟨upd_ne (ne_of_none f3 h), f1⟩
  have fp : F p = none := by
    cases e : F p with
    | none => rfl
    | some o => have := S.fr p o e; rw [h] at this; cases this
  refine ⟨by simp [S.len], S'.ex, S'.fr, S'.frk, ⟨_, s'.push S.len (A := [p]) (OV.own.mpr ⟨p, vs, rfl, rfl, upd_same, r⟩) (fun a ha => ?_) (fun i a ha => ?_)⟩, S.bor_app _⟩
  · simp at ha; subst ha; exact ⟨S.ex.back h, fp⟩
  · simp at ha; subst ha; exact s.fresh h i
theorem RS.take {v : V} {x : MV} (S : RS K F Hk H bp (σ ++ [some v]) (ρ ++ [some x])) {i : Nat} (hi : i < ρ.length) (hb : ∀ q ∈ bp, q.1 ≠ i ∧ q.1 < ρ.length) : RS K F Hk H bp (σ.set i (some v)) (ρ.set i (some x)) := by
  obtain ⟨ow, s⟩ := S.ow
  have hl : σ.length = ρ.length := by have := S.len; simpa using this
  refine ⟨by simp [hl], S.ex, S.fr, S.frk, ⟨_, s.take hl hi⟩, fun q hq => ?_⟩
  have q1 := S.bor q hq
  rw [List.getElem?_append_left (by rw [hl]; exact (hb q hq).2)] at q1
  rw [List.getElem?_set_ne (Ne.symm (hb q hq).1)]; exact q1
theorem RS.drop {y : Option V} {x : Option MV} (S : RS K F Hk H bp (σ ++ [y]) (ρ ++ [x])) (hb : ∀ q ∈ bp, q.1 < ρ.length) : RS K F Hk H bp σ ρ := by
  obtain ⟨ow, s⟩ := S.ow
  have hl : σ.length = ρ.length := by have := S.len; simpa using this
  refine ⟨hl, S.ex, S.fr, S.frk, ⟨_, s.drop hl⟩, fun q hq => ?_⟩
  have q1 := S.bor q hq
  rw [List.getElem?_append_left (by rw [hl]; exact hb q hq)] at q1
  exact q1
theorem RS.freeze (S : RS K F Hk H bp σ ρ) {i : Nat} {xs : List MV} (h : ρ[i]? = some (some (.own xs))) :
    ∃ p vs, σ[i]? = some (some (.ref p)) ∧ Ex Hk (upd Hk p (.lst vs)) ∧ RV K (upd Hk p (.lst vs)) (.lst xs) (.ref p) ∧ RS K F (upd Hk p (.lst vs)) H bp σ (ρ.set i (some (.lst xs))) := by
  obtain ⟨ow, s⟩ := S.ow
  obtain ⟨v, ev, o⟩ := s.s i _ h
  obtain ⟨p, vs, e1, e2, e3, e4⟩ := OV.own.mp o
  have m : p ∈ ow i := by rw [e2]; simp
  obtain ⟨f1, f2, _⟩ := s.f i p m
  have ex : Ex Hk (upd Hk p (.lst vs)) := Ex.new f1
  have rv : RV K (upd Hk p (.lst vs)) (.lst xs) (.ref p) := RV.lst.mpr ⟨p, vs, rfl, upd_same, e4.mono ex⟩
  have li := lt_get h
  refine ⟨p, vs, by rw [ev, e1], ex, rv, by simp [S.len], S.ex.updL e3, S.fr, fun a u ha => ?_, ⟨put ow i [], ?_⟩, S.bor⟩
  · rw [upd_ne (ne_of_none ha f2)]; exact S.frk a u ha
  · refine ⟨fun j y hj => ?_, fun j a hj => ?_, fun j hj => ?_, fun j k a hjk hj => ?_⟩
    · rcases set_get hj with ⟨rfl, e⟩ | ⟨ne, e⟩
      · cases e
        exact ⟨v, ev, by rw [put_same, e1]; exact rv.ov⟩
      · obtain ⟨u, u1, u2⟩ := s.s j y e
        exact ⟨u, u1, by rw [put_ne ne]; exact u2.move ex fun _ _ _ z => z⟩
    · by_cases e : j = i
      · rw [e, put_same] at hj; cases hj
      · rw [put_ne e] at hj
        obtain ⟨g1, g2⟩ := s.f j a hj
        refine ⟨?_, g2⟩
        rw [upd_ne (fun z => s.d j i a e hj (by rw [z]; exact m))]; exact g1
    · by_cases e : j = i
      · rw [e, put_same] at hj; exact (hj rfl).elim
      · rw [put_ne e] at hj; rw [List.length_set]; exact s.w j hj
    · by_cases e : j = i
      · rw [e, put_same] at hj; cases hj
      · rw [put_ne e] at hj
        by_cases e2 : k = i
        · rw [e2, put_same]; simp
        · rw [put_ne e2]; exact s.d j k a hjk hj
theorem RS.change (S : RS K F Hk H bp σ ρ) {i : Nat} {xs ys : List MV} (h : ρ[i]? = some (some (.own xs))) :
    ∃ p vs, σ[i]? = some (some (.ref p)) ∧ H p = some (.lst vs) ∧ RVs K Hk xs vs ∧ ∀ ws, RVs K Hk ys ws → RS K F Hk (upd H p (.lst ws)) bp σ (ρ.set i (some (.own ys))) := by
  obtain ⟨ow, s⟩ := S.ow
  obtain ⟨v, ev, o⟩ := s.s i _ h
  obtain ⟨p, vs, e1, e2, e3, e4⟩ := OV.own.mp o
  have m : p ∈ ow i := by rw [e2]; simp
  obtain ⟨f1, f2, _⟩ := s.f i p m
  refine ⟨p, vs, by rw [ev, e1], e3, e4, fun ws r => ⟨by simp [S.len], S.ex.mut f1, S.fr.mut f2, S.frk, ⟨ow, ?_⟩, S.bor⟩⟩
  refine ⟨fun j y hj => ?_, fun j a hj => ?_, fun j hj => by rw [List.length_set]; exact s.w j hj, s.d⟩
  · rcases set_get hj with ⟨rfl, e⟩ | ⟨ne, e⟩
    · cases e
      exact ⟨v, ev, OV.own.mpr ⟨p, ws, e1, e2, upd_same, r⟩⟩
    · obtain ⟨u, u1, u2⟩ := s.s j y e
      exact ⟨u, u1, u2.move (Ex.refl _) fun a ha o ho => by rw [upd_ne (fun z => s.d j i a ne ha (by rw [z]; exact m))]; exact ho⟩
  · obtain ⟨g1, g2, o, g3⟩ := s.f j a hj
    by_cases e : a = p
    · subst e; exact ⟨g1, g2, _, upd_same⟩
    · exact ⟨g1, g2, o, by rw [upd_ne e]; exact g3⟩
end
end Tm
set_option Elab.async false
set_option linter.all false
set_option maxRecDepth 100000
set_option maxHeartbeats 2000000
namespace Tm
open PySem L2
open Evl (Ex ex_rd ex_l ex_t)
structure Ct where
  K : PySem.W.Frag
  mg : Str → Option Value
  W : WX
  bs : List Nat
  J : Hp → List (Nat × Addr) → Prop
  Jm : ∀ F F1 bp, Ex F F1 → J F bp → J F1 bp
def XFs (K : PySem.W.Frag) (H : Hp) : List (Str × MV) → List (Str × V) → Prop
  | [], vs => vs = []
  | (n, x) :: xs, vs => ∃ v r, vs = (n, v) :: r ∧ RV K H x v ∧ XFs K H xs r
def ExR (K : PySem.W.Frag) (mg : Str → Option Value) (H : Hp) (e : MX) (cls : Value) (d : Option Addr) : Prop :=
  ∃ C, mg e.cls = some (.ref C) ∧ cls = .ref C ∧ ((e.fs = [] ∧ d = none) ∨ ∃ dx vfs, d = some dx ∧ H dx = some (.xd vfs) ∧ XFs K H e.fs vfs)
theorem XFs.mono {K : PySem.W.Frag} {H H' : Hp} (e : Ex H H') : ∀ {xs : List (Str × MV)} {vs : List (Str × V)}, XFs K H xs vs → XFs K H' xs vs
  | [], _, h => h
  | (n, x) :: xs, vs, h => by
    obtain ⟨v, r, e1, e2, e3⟩ := h
    exact ⟨v, r, e1, RV.mono e _ _ e2, XFs.mono e e3⟩
theorem ExR.mono {K : PySem.W.Frag} {mg : Str → Option Value} {H H' : Hp} {e : MX} {cls : Value} {d : Option Addr} (x : Ex H H') (h : ExR K mg H e cls d) : ExR K mg H' e cls d := by
  obtain ⟨C, h1, h2, h3⟩ := h
  refine ⟨C, h1, h2, ?_⟩
  rcases h3 with h3 | ⟨dx, vfs, a, b, c⟩
  · exact .inl h3
  · exact .inr ⟨dx, vfs, a, x _ _ b, c.mono x⟩
abbrev ME := Env → Res (MV × Env)
abbrev MT := Env → Res (Bool × Env)
abbrev MA := Env → Res (List MV × Env)
abbrev MS := Env → Res (Fl × Env)
def Wish (c : Ct) (F Hk : Hp) (bp : List (Nat × Addr)) (σ : St) (e : MX) (ρ : Env) : Prop :=
  ∀ Hk' H' cls d, Ex Hk Hk' → RS c.K F Hk' H' bp σ ρ → ExR c.K c.mg Hk' e cls d → c.W cls d σ H'
def okE (c : Ct) (F Hk : Hp) (bp : List (Nat × Addr)) (σ : St) (Q : VK) : Res (MV × Env) → Prop
  | .ok (x, ρ') => ∀ Hk' H' v, Ex Hk Hk' → RS c.K F Hk' H' bp σ ρ' → RV c.K Hk' x v → Q v H'
  | .exc e ρ' => Wish c F Hk bp σ e ρ'
  | .stuck => False
def okO (c : Ct) (F Hk : Hp) (bp : List (Nat × Addr)) (σ : St) (Q : VK) : Res (MV × Env) → Prop
  | .ok (x, ρ') => ∀ Hk' H' v, Ex Hk Hk' → RS c.K F Hk' H' bp (σ ++ [some v]) (ρ' ++ [some x]) → Q v H'
  | .exc e ρ' => Wish c F Hk bp σ e ρ'
  | .stuck => False
def okT (c : Ct) (F Hk : Hp) (bp : List (Nat × Addr)) (σ : St) (Q : Bool → Hp → Prop) : Res (Bool × Env) → Prop
  | .ok (x, ρ') => ∀ Hk' H', Ex Hk Hk' → RS c.K F Hk' H' bp σ ρ' → Q x H'
  | .exc e ρ' => Wish c F Hk bp σ e ρ'
  | .stuck => False
def okA (c : Ct) (F Hk : Hp) (bp : List (Nat × Addr)) (σ : St) (Q : List V → Hp → Prop) : Res (List MV × Env) → Prop
  | .ok (xs, ρ') => ∀ Hk' H' vs, Ex Hk Hk' → RS c.K F Hk' H' bp σ ρ' → RVs c.K Hk' xs vs → Q vs H'
  | .exc e ρ' => Wish c F Hk bp σ e ρ'
  | .stuck => False
def okS (c : Ct) (F Hk : Hp) (bp : List (Nat × Addr)) (D : Ends) : Res (Fl × Env) → Prop
  | .ok (.nx, ρ') => ∀ Hk' H' σ', Ex Hk Hk' → RS c.K F Hk' H' bp σ' ρ' → D.nx σ' H'
  | .ok (.br, ρ') => ∀ Hk' H' σ', Ex Hk Hk' → RS c.K F Hk' H' bp σ' ρ' → D.bk σ' H'
  | .ok (.ct, ρ') => ∀ Hk' H' σ', Ex Hk Hk' → RS c.K F Hk' H' bp σ' ρ' → D.ct σ' H'
  | .ok (.rt x, ρ') => ∀ Hk' H' σ' v, Ex Hk Hk' → (∀ q ∈ bp, q.1 < σ'.length) → RS c.K F Hk' H' bp (σ' ++ [some v]) (ρ' ++ [some x]) → D.rt v H'
  | .exc e ρ' => ∀ Hk' H' σ' cls d, Ex Hk Hk' → RS c.K F Hk' H' bp σ' ρ' → ExR c.K c.mg Hk' e cls d → c.W cls d σ' H'
  | .stuck => False
def At (c : Ct) (F Hk H : Hp) (bp : List (Nat × Addr)) (σ : St) (ρ : Env) : Prop := RS c.K F Hk H bp σ ρ ∧ bp.map (·.1) = c.bs ∧ c.J F bp
def rdE (c : Ct) (m : ME) : TE := fun σ H Q => ∃ F Hk bp ρ, At c F Hk H bp σ ρ ∧ okE c F Hk bp σ Q (m ρ)
def rdO (c : Ct) (m : ME) : TE := fun σ H Q => ∃ F Hk bp ρ, At c F Hk H bp σ ρ ∧ okO c F Hk bp σ Q (m ρ)
def rdT (c : Ct) (m : MT) : TT := fun σ H Q => ∃ F Hk bp ρ, At c F Hk H bp σ ρ ∧ okT c F Hk bp σ Q (m ρ)
def rdA (c : Ct) (m : MA) : TA := fun σ H Q => ∃ F Hk bp ρ, At c F Hk H bp σ ρ ∧ okA c F Hk bp σ Q (m ρ)
def rdS (c : Ct) (m : MS) : TS := fun D σ H => ∃ F Hk bp ρ, At c F Hk H bp σ ρ ∧ okS c F Hk bp D (m ρ)
section
variable {c : Ct} {F Hk Hk' H H' : Hp} {bp : List (Nat × Addr)} {σ : St} {ρ : Env}
theorem Wish.mono {e : MX} (x : Ex Hk Hk') (h : Wish c F Hk bp σ e ρ) : Wish c F Hk' bp σ e ρ := fun Hk2 H2 cls d x2 => h Hk2 H2 cls d (x.trans x2)
theorem okE.mono {Q : VK} {r : Res (MV × Env)} (x : Ex Hk Hk') (h : okE c F Hk bp σ Q r) : okE c F Hk' bp σ Q r := by
  cases r with
  | ok a => exact fun Hk2 H2 v x2 => h Hk2 H2 v (x.trans x2)
  | exc e ρ => exact Wish.mono x h
  | stuck => exact h
theorem okO.mono {Q : VK} {r : Res (MV × Env)} (x : Ex Hk Hk') (h : okO c F Hk bp σ Q r) : okO c F Hk' bp σ Q r := by
  cases r with
  | ok a => exact fun Hk2 H2 v x2 => h Hk2 H2 v (x.trans x2)
  | exc e ρ => exact Wish.mono x h
  | stuck => exact h
theorem okT.mono {Q : Bool → Hp → Prop} {r : Res (Bool × Env)} (x : Ex Hk Hk') (h : okT c F Hk bp σ Q r) : okT c F Hk' bp σ Q r := by
  cases r with
  | ok a => exact fun Hk2 H2 x2 => h Hk2 H2 (x.trans x2)
  | exc e ρ => exact Wish.mono x h
  | stuck => exact h
theorem okA.mono {Q : List V → Hp → Prop} {r : Res (List MV × Env)} (x : Ex Hk Hk') (h : okA c F Hk bp σ Q r) : okA c F Hk' bp σ Q r := by
  cases r with
  | ok a => exact fun Hk2 H2 v x2 => h Hk2 H2 v (x.trans x2)
  | exc e ρ => exact Wish.mono x h
  | stuck => exact h
theorem okS.mono {D : Ends} {r : Res (Fl × Env)} (x : Ex Hk Hk') (h : okS c F Hk bp D r) : okS c F Hk' bp D r := by
  cases r with
  | ok a =>
    obtain ⟨f, ρ'⟩ := a
    cases f with
    | nx => exact fun Hk2 H2 σ' x2 => h Hk2 H2 σ' (x.trans x2)
    | br => exact fun Hk2 H2 σ' x2 => h Hk2 H2 σ' (x.trans x2)
    | ct => exact fun Hk2 H2 σ' x2 => h Hk2 H2 σ' (x.trans x2)
    | rt y => exact fun Hk2 H2 σ' v x2 => h Hk2 H2 σ' v (x.trans x2)
  | exc e ρ' => exact fun Hk2 H2 σ' cls d x2 => h Hk2 H2 σ' cls d (x.trans x2)
  | stuck => exact h
def Res.bind {α β : Type} (r : Res (α × Env)) (f : α → Env → Res (β × Env)) : Res (β × Env) :=
  match r with
  | .ok (x, ρ) => f x ρ
  | .exc e ρ => .exc e ρ
  | .stuck => .stuck
end
theorem PEw {X : Cx} {e : Expr} {t t' : TE} (h : PE X e t) (w : ∀ σ H Q, t' σ H Q → t σ H Q) : PE X e t' := ⟨fun pins s σ H Q I q => h.run pins s σ H Q I (w σ H Q q)⟩
theorem PTw {X : Cx} {e : Expr} {t t' : TT} (h : PT X e t) (w : ∀ σ H Q, t' σ H Q → t σ H Q) : PT X e t' := ⟨fun pins s σ H Q I q => h.run pins s σ H Q I (w σ H Q q)⟩
theorem PWw {X : Cx} {e : Expr} {t t' : TT} (h : PW X e t) (w : ∀ σ H Q, t' σ H Q → t σ H Q) : PW X e t' := ⟨fun wh pins s σ H Q I q => h.run wh pins s σ H Q I (w σ H Q q)⟩
theorem PAw {X : Cx} {e : List Expr} {t t' : TA} (h : PA X e t) (w : ∀ σ H Q, t' σ H Q → t σ H Q) : PA X e t' := ⟨fun pos pins s σ H Q I q => h.run pos pins s σ H Q I (w σ H Q q)⟩
theorem PSw {X : Cx} {e : Stmt} {t t' : TS} (h : PS X e t) (w : ∀ D σ H, t' D σ H → t D σ H) : PS X e t' := ⟨fun pins s σ H D I q => h.run pins s σ H D I (w D σ H q)⟩
theorem PSsw {X : Cx} {e : List Stmt} {t t' : TS} (h : PSs X e t) (w : ∀ D σ H, t' D σ H → t D σ H) : PSs X e t' := ⟨fun pins s σ H D I q => h.run pins s σ H D I (w D σ H q)⟩
section
variable {X : Cx} {c : Ct}
def mVar (i : Nat) : ME := fun ρ => match ρ[i]? with
  | some (some (.own xs)) => .ok (.lst xs, ρ.set i (some (.lst xs)))
  | some (some (.obj _ _)) => .stuck
  | some (some (.dow _ _)) => .stuck
  | some (some (.dot _ _)) => .stuck
  | some (some x) => .ok (x, ρ)
  | _ => .stuck
def mC (x : MV) : ME := fun ρ => .ok (x, ρ)
theorem rd_var {i : Nat} {σ : St} {H : Hp} {Q : VK} (h : rdE c (mVar i) σ H Q) : tVar i σ H Q := by
  obtain ⟨F, Hk, bp, ρ, ⟨S, _⟩, h⟩ := h
  have pl : ∀ x : MV, x.per = true → ρ[i]? = some (some x) → (∀ Hk' H' v, Ex Hk Hk' → RS c.K F Hk' H' bp σ ρ → RV c.K Hk' x v → Q v H') → tVar i σ H Q := fun x px e q => by
    obtain ⟨v, ev, r⟩ := S.get e px
    exact ⟨v, ev, q Hk H v (Ex.refl _) S r⟩
  unfold mVar at h
  split at h
  · rename_i xs e
    obtain ⟨p, vs, e1, ex, r, S'⟩ := S.freeze e
    exact ⟨_, e1, h _ _ _ ex S' r⟩
  · exact h.elim
  · exact h.elim
  · exact h.elim
  · rename_i x n1 n2 n3 n4 e
    refine pl x ?_ e h
    cases x <;> first | rfl | (exfalso; first | exact n1 _ rfl | exact n2 _ _ rfl | exact n3 _ _ rfl | exact n4 _ _ rfl)
  · exact h.elim
theorem me_var {i : Nat} {x : Str} {pos : Pos} (hN : X.N[i]? = some x) (hv : Vis X.env.scope x) (hd : (x == ("__debug__" : Str)) = false := by decide) (hcd : (x == ("__classdict__" : Str)) = false := by decide) : PE X (.Name x pos) (rdE c (mVar i)) :=
  PEw (pe_var hN hv hd hcd) fun _ _ _ h => rd_var h
theorem rd_c {x : MV} {v : V} (r : ∀ H, RV c.K H x v) {σ : St} {H : Hp} {Q : VK} (h : rdE c (mC x) σ H Q) : tC v σ H Q := by
  obtain ⟨F, Hk, bp, ρ, ⟨S, _⟩, h⟩ := h
  exact h Hk H v (Ex.refl _) S (r _)
theorem me_int {i j pos} : PE X (.Constant (.int i) j pos) (rdE c (mC (.int i))) := PEw pe_int fun _ _ _ h => rd_c (fun _ => RV.int.mpr rfl) h
theorem me_bl {b j pos} : PE X (.Constant (.bool b) j pos) (rdE c (mC (.bl b))) := PEw pe_bl fun _ _ _ h => rd_c (fun _ => RV.bl.mpr rfl) h
theorem me_non {j pos} : PE X (.Constant .none j pos) (rdE c (mC .non)) := PEw pe_non fun _ _ _ h => rd_c (fun _ => RV.non.mpr rfl) h
theorem me_str {x j pos} : PE X (.Constant (.str x) j pos) (rdE c (mC (.str x))) := PEw pe_str fun _ _ _ h => rd_c (fun _ => RV.str.mpr rfl) h
def mOp (f : MV → MV → Option MV) (a b : ME) : ME := fun ρ => (a ρ).bind fun x ρ1 => (b ρ1).bind fun y ρ2 => match f x y with | some z => .ok (z, ρ2) | none => .stuck
def OpS (K : PySem.W.Frag) (f : MV → MV → Option MV) (r : R2) : Prop := ∀ (x y z : MV) (v w : V) (Hk H : Hp) (Q : VK), f x y = some z → Ex Hk H → RV K Hk x v → RV K Hk y w → (∀ u, RV K Hk z u → Q u H) →
  (∀ p o, H p = none → RV K (upd Hk p o) z (.ref p) → Q (.ref p) (upd H p o)) → r v w H Q
theorem rd_op {f : MV → MV → Option MV} {r : R2} (o : OpS c.K f r) {a b : ME} {σ : St} {H : Hp} {Q : VK} (h : rdE c (mOp f a b) σ H Q) : tOp r (rdE c a) (rdE c b) σ H Q := by
  obtain ⟨F, Hk, bp, ρ, ⟨S, eb⟩, h⟩ := h
  refine ⟨F, Hk, bp, ρ, ⟨S, eb⟩, ?_⟩
  unfold mOp at h
  cases ea : a ρ with
  | stuck => rw [ea] at h; exact h.elim
  | exc e ρ' => rw [ea] at h; exact h
  | ok p =>
    obtain ⟨x, ρ1⟩ := p
    rw [ea] at h
    intro Hk1 H1 v x1 S1 r1
    refine ⟨F, Hk1, bp, ρ1, ⟨S1, eb⟩, ?_⟩
    have h : okE c F Hk bp σ Q ((b ρ1).bind fun y ρ2 => match f x y with | some z => .ok (z, ρ2) | none => .stuck) := h
    cases e2 : b ρ1 with
    | stuck => rw [e2] at h; exact h.elim
    | exc e ρ' => rw [e2] at h; exact Wish.mono x1 h
    | ok p =>
      obtain ⟨y, ρ2⟩ := p
      rw [e2] at h
      intro Hk2 H2 w x2 S2 r2
      have h : okE c F Hk bp σ Q (match f x y with | some z => .ok (z, ρ2) | none => .stuck) := h
      cases ez : f x y with
      | none => rw [ez] at h; exact h.elim
      | some z =>
        rw [ez] at h
        refine o x y z v w Hk2 H2 Q ez S2.ex (RV.mono x2 _ _ r1) r2 (fun u ru => h Hk2 H2 u (x1.trans x2) S2 ru) fun p ob hp ru => ?_
        exact h _ _ _ ((x1.trans x2).trans (Ex.new (S2.ex.back hp))) (S2.new hp) ru
theorem me_op {op : Operator} {f : MV → MV → Option MV} {r : R2} {a b : Expr} {ma mb : ME} {pos : Pos} (ho : OpR X (binaryOp op) r) (o : OpS c.K f r) (ha : PE X a (rdE c ma)) (hb : PE X b (rdE c mb)) : PE X (.BinOp a op b pos) (rdE c (mOp f ma mb)) :=
  PEw (pe_op ho ha hb) fun _ _ _ h => rd_op o h
theorem me_cmp {op : CmpOp} {f : MV → MV → Option MV} {r : R2} {a b : Expr} {ma mb : ME} {pos : Pos} (ho : OpR X (compareOp op) r) (o : OpS c.K f r) (ha : PE X a (rdE c ma)) (hb : PE X b (rdE c mb)) (hm : behindInMarks op b = false) : PE X (.Compare a [op] [b] pos) (rdE c (mOp f ma mb)) :=
  PEw (pe_cmpR ho ha hb hm) fun _ _ _ h => rd_op o h
end
end Tm
set_option Elab.async false
set_option linter.all false
set_option maxRecDepth 100000
set_option maxHeartbeats 2000000
namespace Tm
open PySem L2
open Evl (Ex ex_rd ex_l ex_t)
def szOk (n : Nat) : Bool := decide (n ≤ sizeLine)
def fAdd : MV → MV → Option MV
  | .int i, .int j => some (.int (i + j))
  | .int i, .bl b => some (.int (i + PyProof.Rows.b2i b))
  | .str a, .str b => if szOk (a.length + b.length) then some (.str (a ++ b)) else none
  | .lst a, .lst b => if szOk (a.length + b.length) then some (.lst (a ++ b)) else none
  | .tup a, .tup b => if szOk (a.length + b.length) then some (.tup (a ++ b)) else none
  | _, _ => none
def fSub : MV → MV → Option MV
  | .int i, .int j => some (.int (i - j))
  | _, _ => none
def mulOk (i j : Int) : Bool := (decide (-(2 ^ 64) < i) && decide (i < 2 ^ 64)) || (decide (-(2 ^ 64) < j) && decide (j < 2 ^ 64)) || decide (i.natAbs.log2 + j.natAbs.log2 < 1000000)
instance (i j : Int) : Decidable (CMulW i j) := inferInstanceAs (Decidable (i.natAbs.log2 + j.natAbs.log2 < 1000000))
def repS (a : Str) (k : Int) : Str := ⟨(List.replicate k.toNat a.cps.toList).flatten.toArray⟩
def fMul : MV → MV → Option MV
  | .int i, .int j => if mulOk i j then some (.int (i * j)) else none
  | .tup a, .int k => if decide (-(2 ^ 63) ≤ k) && decide (k < 2 ^ 63) && (decide (k = 1) || a.isEmpty || (decide (2 ≤ k) && decide (k ≤ 1000) && decide (a.length ≤ 1000))) then some (.tup (List.replicate k.toNat a).flatten) else none
  | .str a, .int k => if decide (-(2 ^ 63) ≤ k) && decide (k < 2 ^ 63) && szOk (a.length * k.toNat) then some (.str (repS a k)) else none
  | .lst a, .int k => if decide (-(2 ^ 63) ≤ k) && decide (k < 2 ^ 63) && szOk (a.length * k.toNat) then some (.lst (List.replicate k.toNat a).flatten) else none
  | _, _ => none
def divOk (j : Int) : Bool := (decide (j ≠ 0) && decide (j.natAbs < 1073741824)) || (decide (0 < j) && decide (j.natAbs.log2 < 9000))
def fDiv : MV → MV → Option MV
  | .int i, .int j => if divOk j then some (.int (i.fdiv j)) else none
  | _, _ => none
def fMod : MV → MV → Option MV
  | .int i, .int j => if decide (j ≠ 0) then some (.int (i.fmod j)) else none
  | _, _ => none
def fPow : MV → MV → Option MV
  | .int i, .int j => if decide (0 ≤ j) && decide (j ≤ 1000000) && decide (i.natAbs < 2 ^ 64) then some (.int (i ^ j.toNat)) else none
  | _, _ => none
def fLt : MV → MV → Option MV
  | .int i, .int j => some (.bl (decide (i < j)))
  | _, _ => none
def fLe : MV → MV → Option MV
  | .int i, .int j => some (.bl (decide (i ≤ j)))
  | _, _ => none
def fGt : MV → MV → Option MV
  | .int i, .int j => some (.bl (decide (j < i)))
  | _, _ => none
def fGe : MV → MV → Option MV
  | .int i, .int j => some (.bl (decide (j ≤ i)))
  | _, _ => none
def scalM : MV → MV → Bool
  | .non, .non => true | .non, .int _ => true | .int _, .non => true | .non, .bl _ => true | .bl _, .non => true | .non, .str _ => true | .str _, .non => true
  | .int _, .int _ => true | .bl _, .bl _ => true | .str _, .str _ => true
  | .int _, .str _ => true | .str _, .int _ => true | .bl _, .str _ => true | .str _, .bl _ => true
  | _, _ => false
def sameM : MV → MV → Bool
  | .non, .non => true
  | .int i, .int j => decide (i = j)
  | .bl i, .bl j => decide (i = j)
  | .str i, .str j => decide (i = j)
  | _, _ => false
mutual
def toD : MV → Option PyData
  | .non => some .none
  | .bl b => some (.bool b)
  | .int i => some (.int i)
  | .str x => some (.str x)
  | .tup xs => (toDs xs).map .tuple
  | .lst xs => (toDs xs).map .list
  | _ => none
def toDs : List MV → Option (List PyData)
  | [] => some []
  | x :: xs => match toD x, toDs xs with
    | some d, some ds => some (d :: ds)
    | _, _ => none
end
def eqM (x y : MV) : Option Bool :=
  if scalM x y then some (sameM x y) else
  match toD x, toD y with
  | some d, some e => if SeqAt.shaped d && SeqAt.shaped e then some (PyData.eqv d e) else none
  | _, _ => none
def fEq (x y : MV) : Option MV := (eqM x y).map .bl
def fNe (x y : MV) : Option MV := (eqM x y).map fun b => .bl (!b)
section
variable {K : PySem.W.Frag}
def rAddM (K : PySem.W.Frag) : R2 := fun x y H Q => (rI0 fun i j => .int (i + j)) x y H Q ∨ (∃ i k, x = .int i ∧ y = .bl k ∧ Q (.int (i + PyProof.Rows.b2i k)) H) ∨ (∃ i j, x = .str i ∧ y = .str j ∧ i.length + j.length ≤ sizeLine ∧ Q (.str (i ++ j)) H) ∨ rCat x y H Q ∨ rCatA K x y H Q
theorem op_addM {X : Cx} : OpR X (binaryOp .Add) (rAddM X.K) := OpR.or op_add (OpR.or op_add_ib (OpR.or op_add_str (OpR.or op_cat op_catA)))
theorem szOk_iff {n : Nat} : szOk n = true ↔ n ≤ sizeLine := by unfold szOk; simp
theorem os_add : OpS K fAdd (rAddM K) := by
  intro x y z v w Hk H Q e ex r1 r2 q qn
  unfold fAdd at e
  split at e
  · cases e
    exact .inl ⟨_, _, RV.int.mp r1, RV.int.mp r2, q _ (RV.int.mpr rfl)⟩
  · cases e
    exact .inr (.inl ⟨_, _, RV.int.mp r1, RV.bl.mp r2, q _ (RV.int.mpr rfl)⟩)
  · split at e
    · rename_i a b h
      cases e
      exact .inr (.inr (.inl ⟨_, _, RV.str.mp r1, RV.str.mp r2, szOk_iff.mp h, q _ (RV.str.mpr rfl)⟩))
    · cases e
  · split at e
    · rename_i a b h
      cases e
      obtain ⟨p1, vs, rfl, h1, s1⟩ := RV.lst.mp r1
      obtain ⟨p2, ws, rfl, h2, s2⟩ := RV.lst.mp r2
      refine .inr (.inr (.inr (.inl ⟨p1, p2, vs, ws, rfl, rfl, ex _ _ h1, ex _ _ h2, ?_, fun p hp => qn p _ hp ?_⟩)))
      · rw [s1.length, s2.length]; exact szOk_iff.mp h
      · have z := Ex.new (o := .lst (vs ++ ws)) (ex.back hp)
        exact RV.lst.mpr ⟨p, _, rfl, upd_same, (s1.append s2).mono z⟩
    · cases e
  · split at e
    · rename_i a b h
      cases e
      obtain ⟨p1, vs, rfl, h1, s1⟩ := RV.tup.mp r1
      obtain ⟨p2, ws, rfl, h2, s2⟩ := RV.tup.mp r2
      refine .inr (.inr (.inr (.inr ⟨p1, p2, vs, ws, rfl, rfl, ex_t ex h1, ex_t ex h2, ?_, fun e0 => ?_, fun e0 e1 => ?_, fun e0 e1 p hp => qn p _ hp ?_⟩)))
      · rw [s1.length, s2.length]; exact szOk_iff.mp h
      · have z := s1.append s2
        rw [e0, List.nil_append] at z
        exact q _ (RV.tup.mpr ⟨p2, ws, rfl, h2, z⟩)
      · have z := s1.append s2
        rw [e1, List.append_nil] at z
        exact q _ (RV.tup.mpr ⟨p1, vs, rfl, h1, z⟩)
      · have z := Ex.new (o := .tup (vs ++ ws)) (ex.back hp)
        exact RV.tup.mpr ⟨p, _, rfl, SqT.of upd_same, (s1.append s2).mono z⟩
    · cases e
  · cases e
theorem os_sub : OpS K fSub (rI0 fun i j => .int (i - j)) := by
  intro x y z v w Hk H Q e ex r1 r2 q qn
  unfold fSub at e
  split at e
  · cases e; exact ⟨_, _, RV.int.mp r1, RV.int.mp r2, q _ (RV.int.mpr rfl)⟩
  · cases e
open PySem.Spec PyProof.Rows in
theorem tuple_mulSame (l : Addr) (items : Array Value) (n : Nat) (dd : Option Addr) (sl : Array (Option Value)) (x : Int) (u : Tok) (c0 : (decide (x < -(2 ^ 63)) || decide (x ≥ 2 ^ 63)) = false) (c1 : (items.isEmpty || x == 1) = true) :
    Meets (Builtin.«tuple.__mul__» ⟨[.ref l, .int x u], []⟩) (fun _ R s => s.heap.get? l = some { cls := .type "tuple", dict := dd, data := .seq items n, slots := sl } ∧ R (.ok (.ret (Value.ref l))) s) :=
  .of_wp fun prog w A R s h => by
    obtain ⟨hp, g, d, tk, os⟩ := s
    obtain ⟨hl, h⟩ := h
    have f1 := AutoSeq1.idx_int
    wp_walk using wpAny_loadPart' hl
    repeat (first
      | (refine wpAny_ite_false (decide_eq_false (by rw [c0]; exact Bool.false_ne_true)) ?_; wp_walk using wpAny_loadPart' hl)
      | (refine wpAny_ite_true (decide_eq_true c1) ?_; wp_walk using wpAny_loadPart' hl))
    exact ⟨_, rfl, h⟩
def rRepTS (K : PySem.W.Frag) : R2 := fun x y H Q => ∃ l k xs, x = .ref l ∧ y = .int k ∧ SqT K H l xs ∧ (k = 1 ∨ xs = []) ∧ -(2 ^ 63) ≤ k ∧ k < 2 ^ 63 ∧ Q (.ref l) H
open PySem.Spec PyProof.Rows in
theorem op_repTS {X : Cx} : OpR X (binaryOp .Mult) (rRepTS X.K) := by
  intro pins s σ H x y v u Q I rx ry h
  obtain ⟨l, k, xs, rfl, rfl, hT, hs, h1, h2, q⟩ := h
  cases rx
  obtain ⟨t, rfl⟩ := ry
  obtain ⟨its, r, ⟨⟨cls, dd, data, sl⟩, ho, hc, n, hd⟩, _⟩ := I.tuple hT
  simp only at hc hd
  subst hc hd
  have hle : its.length = xs.length := r.length.symm
  have c0 : (decide (k < -(2 ^ 63)) || decide (k ≥ 2 ^ 63)) = false := by
    rw [decide_eq_false (by omega), decide_eq_false (by omega)] <;> rfl
  have c1 : (its.toArray.isEmpty || k == 1) = true := by
    rw [Bool.or_eq_true]
    rcases hs with rfl | rfl
    · exact .inr rfl
    · have : its = [] := List.length_eq_zero_iff.mp hle
      subst this
      exact .inl rfl
  exact wpAny_binaryOp_repeat_ref (T := "tuple") (U := "int") (by decide) ⟨_, ho, rfl⟩ (fun s' => typeIs_int s' k t) noFill_tuple_mul F.fills_int_mul F.slot_int_rmul repeat_tuple F.slot_int_index.lookup
    (call_meets F.slot_int_rmul (typeIs_int s k t) F.entry_int_rmul (F.args_int_rmul_2 _ _) (int_rmul_tuple k t l its.toArray n dd sl)
      ⟨ho, rfl, ⟨_, ho, rfl⟩, call_meets F.slot_tuple_mul ⟨_, ho, rfl⟩ F.entry_tuple_mul (F.args_tuple_mul_2 _ _) (tuple_mulSame l its.toArray n dd sl k t c0 c1) ⟨ho, ⟨.ref l, H, I, rfl, q⟩⟩⟩)
def rRepS : R2 := fun x y H Q => ∃ a k, x = .str a ∧ y = .int k ∧ -(2 ^ 63) ≤ k ∧ k < 2 ^ 63 ∧ a.length * k.toNat ≤ sizeLine ∧ Q (.str (repS a k)) H
theorem rep_foldl (l : Array Nat) : ∀ (n : Nat) (acc : Array Nat), (List.replicate n l).foldl (· ++ ·) acc = (acc.toList ++ (List.replicate n l.toList).flatten).toArray
  | 0, acc => by simp
  | n + 1, acc => by
    rw [List.replicate_succ, List.foldl_cons, rep_foldl l n, List.replicate_succ, List.flatten_cons]
    simp
theorem op_repS {X : Cx} : OpR X (binaryOp .Mult) rRepS := by
  intro pins s σ H x y v u Q I rx ry h
  obtain ⟨a, k, rfl, rfl, h1, h2, hz, q⟩ := h
  obtain ⟨t, rfl⟩ := rx
  obtain ⟨t', rfl⟩ := ry
  have sz : sizeLine = 16777216 := rfl
  refine PySem.P.mul_str ?_ ?_ ?_ ?_
  · rw [decide_eq_false (by omega), decide_eq_false (by omega)]; rfl
  · intro h3 h4 h5
    have hk : 1 < k := by
      have : (k == 1) = false := by cases e : (k == 1) <;> simp [e] at h4 ⊢
      have := beq_eq_false_iff_ne.mp this
      omega
    have e1 : ((a.length : Int) * k) ≤ 16777216 := by
      rw [sz] at hz
      have : ((a.length * k.toNat : Nat) : Int) ≤ 16777216 := by omega
      rw [Int.natCast_mul, Int.toNat_of_nonneg (by omega)] at this
      exact this
    have e2 : (a.length : Int) ≤ (2 ^ 63 - 1) / k := by
      refine (Int.le_ediv_iff_mul_le (by omega)).mpr ?_
      omega
    omega
  · intro h3 h4
    unfold Builtin.Str.tooLong
    exact decide_eq_false (by omega)
  · split
    · rename_i h3
      refine ⟨by decide, .str (repS a k), H, I.tok _, ⟨s.toks, ?_⟩, q⟩
      have : k.toNat = 0 := by omega
      unfold repS
      rw [this]; rfl
    · split
      · rename_i h3 h4
        refine ⟨.str (repS a k), H, I, ⟨t, ?_⟩, q⟩
        have : repS a k = a := by
          unfold repS
          rw [Bool.or_eq_true] at h4
          rcases h4 with h4 | h4
          · have : k = 1 := by simpa using h4
            subst this
            show (⟨([a.cps.toList].flatten).toArray⟩ : Str) = a
            simp
          · have e0 : a.cps.toList = [] := by
              have : a.length = 0 := by simpa using h4
              exact List.length_eq_zero_iff.mp (by rw [Array.length_toList]; exact this)
            rw [e0]
            have : ∀ n : Nat, (List.replicate n ([] : List Nat)).flatten = [] := fun n => by simp
            rw [this]
            cases a with
            | mk cps =>
              simp only at e0
              rw [← e0]
        rw [this]
      · rename_i h3 h4
        have e1 : (⟨(List.replicate k.toNat a.cps).foldl (· ++ ·) #[]⟩ : Str) = repS a k := by
          unfold repS
          rw [rep_foldl]
          rfl
        rw [e1]
        refine ⟨?_, .str (repS a k), H, I.tok _, ⟨s.toks, rfl⟩, q⟩
        show (List.replicate k.toNat a.cps.toList).flatten.toArray.size ≤ sizeLine
        rw [List.size_toArray, PyProof.Rows.lm_len_rep_flat, Nat.mul_comm]
        exact hz
def rMulM (K : PySem.W.Frag) : R2 := fun x y H Q => (rI CMul fun i j => .int (i * j)) x y H Q ∨ (rI CMulW fun i j => .int (i * j)) x y H Q ∨ rRep x y H Q ∨ rRepS x y H Q ∨ rRepTS K x y H Q ∨ rRepT K x y H Q
theorem op_mulM {X : Cx} : OpR X (binaryOp .Mult) (rMulM X.K) := OpR.or op_mul (OpR.or op_mulW (OpR.or op_rep (OpR.or op_repS (OpR.or op_repTS op_repT))))
theorem RVs.rep {H : Hp} {xs : List MV} {vs : List V} (h : RVs K H xs vs) : ∀ n : Nat, RVs K H (List.replicate n xs).flatten (List.replicate n vs).flatten
  | 0 => by simp [RVs]
  | n + 1 => by
    rw [List.replicate_succ, List.replicate_succ, List.flatten_cons, List.flatten_cons]
    exact h.append (RVs.rep h n)
theorem os_mul : OpS K fMul (rMulM K) := by
  intro x y z v w Hk H Q e ex r1 r2 q qn
  unfold fMul at e
  split at e
  · rename_i i j
    split at e
    · rename_i h
      cases e
      unfold mulOk at h
      rw [Bool.or_eq_true] at h
      rcases h with h | h
      · refine .inl ⟨i, j, RV.int.mp r1, RV.int.mp r2, ?_, q _ (RV.int.mpr rfl)⟩
        simp only [Bool.or_eq_true, Bool.and_eq_true, decide_eq_true_eq] at h
        exact h
      · exact .inr (.inl ⟨i, j, RV.int.mp r1, RV.int.mp r2, of_decide_eq_true h, q _ (RV.int.mpr rfl)⟩)
    · cases e
  · rename_i a k
    split at e
    · rename_i h
      cases e
      simp only [Bool.and_eq_true, Bool.or_eq_true, decide_eq_true_eq] at h
      obtain ⟨p1, vs, rfl, h1, s1⟩ := RV.tup.mp r1
      have hvl := s1.length
      by_cases hk : k = 1 ∨ vs = []
      · refine .inr (.inr (.inr (.inr (.inl ⟨p1, k, vs, rfl, RV.int.mp r2, ex_t ex h1, hk, h.1.1, h.1.2, q _ ?_⟩))))
        have er : (List.replicate k.toNat a).flatten = a := by
          rcases hk with rfl | rfl
          · simp
          · have : a = [] := List.length_eq_zero_iff.mp (by simpa using hvl.symm)
            subst this; simp
        rw [er]
        exact RV.tup.mpr ⟨p1, vs, rfl, h1, s1⟩
      · have hk2 : 2 ≤ k ∧ k ≤ 1000 ∧ a.length ≤ 1000 := by
          rcases h.2 with (h2 | h2) | h2
          · exact absurd (.inl h2) hk
          · exact absurd (.inr (List.length_eq_zero_iff.mp (by rw [hvl]; simpa using h2))) hk
          · exact ⟨h2.1.1, h2.1.2, h2.2⟩
        refine .inr (.inr (.inr (.inr (.inr ⟨p1, k, vs, rfl, RV.int.mp r2, ex_t ex h1, fun e0 => hk (.inr e0), hk2.1, hk2.2.1, by rw [hvl]; exact hk2.2.2, fun p hp => qn p _ hp ?_⟩))))
        have z := Ex.new (o := .tup (List.replicate k.toNat vs).flatten) (ex.back hp)
        exact RV.tup.mpr ⟨p, _, rfl, SqT.of upd_same, (RVs.rep s1 _).mono z⟩
    · cases e
  · rename_i a k
    split at e
    · rename_i h
      cases e
      simp only [Bool.and_eq_true, decide_eq_true_eq] at h
      exact .inr (.inr (.inr (.inl ⟨a, k, RV.str.mp r1, RV.int.mp r2, h.1.1, h.1.2, szOk_iff.mp h.2, q _ (RV.str.mpr rfl)⟩)))
    · cases e
  · rename_i a k
    split at e
    · rename_i h
      cases e
      simp only [Bool.and_eq_true, decide_eq_true_eq] at h
      obtain ⟨p1, vs, rfl, h1, s1⟩ := RV.lst.mp r1
      refine .inr (.inr (.inl ⟨p1, k, vs, rfl, RV.int.mp r2, ex _ _ h1, h.1.1, h.1.2, ?_, fun p hp => qn p _ hp ?_⟩))
      · rw [s1.length]; exact szOk_iff.mp h.2
      · have z := Ex.new (o := .lst (List.replicate k.toNat vs).flatten) (ex.back hp)
        exact RV.lst.mpr ⟨p, _, rfl, upd_same, (RVs.rep s1 _).mono z⟩
    · cases e
  · cases e
def rDivM : R2 := fun x y H Q => (rI CDivN fun i j => .int (i.fdiv j)) x y H Q ∨ (rI CDivW fun i j => .int (i / j)) x y H Q
theorem op_divM {X : Cx} : OpR X (binaryOp .FloorDiv) rDivM := OpR.or op_fdivN op_fdivW
theorem os_div : OpS K fDiv rDivM := by
  intro x y z v w Hk H Q e ex r1 r2 q qn
  unfold fDiv at e
  split at e
  · rename_i i j
    split at e
    · rename_i h
      cases e
      unfold divOk at h
      rw [Bool.or_eq_true] at h
      rcases h with h | h
      · simp only [Bool.and_eq_true, decide_eq_true_eq] at h
        exact .inl ⟨i, j, RV.int.mp r1, RV.int.mp r2, h, q _ (RV.int.mpr rfl)⟩
      · simp only [Bool.and_eq_true, decide_eq_true_eq] at h
        refine .inr ⟨i, j, RV.int.mp r1, RV.int.mp r2, h, ?_⟩
        have := q _ (RV.int.mpr rfl)
        rw [Int.fdiv_eq_ediv_of_nonneg i (by omega)] at this
        exact this
    · cases e
  · cases e
theorem os_mod : OpS K fMod (rI (fun _ j => j ≠ 0) fun i j => .int (i.fmod j)) := by
  intro x y z v w Hk H Q e ex r1 r2 q qn
  unfold fMod at e
  split at e
  · split at e
    · rename_i h
      cases e
      exact ⟨_, _, RV.int.mp r1, RV.int.mp r2, of_decide_eq_true h, q _ (RV.int.mpr rfl)⟩
    · cases e
  · cases e
theorem os_pow : OpS K fPow (rI CPow fun i j => .int (i ^ j.toNat)) := by
  intro x y z v w Hk H Q e ex r1 r2 q qn
  unfold fPow at e
  split at e
  · split at e
    · rename_i h
      cases e
      simp only [Bool.and_eq_true, decide_eq_true_eq] at h
      exact ⟨_, _, RV.int.mp r1, RV.int.mp r2, ⟨h.1.1, h.1.2, h.2⟩, q _ (RV.int.mpr rfl)⟩
    · cases e
  · cases e
theorem os_lt : OpS K fLt (rI0 fun i j => .bl (decide (i < j))) := by
  intro x y z v w Hk H Q e ex r1 r2 q qn
  unfold fLt at e
  split at e
  · cases e; exact ⟨_, _, RV.int.mp r1, RV.int.mp r2, q _ (RV.bl.mpr rfl)⟩
  · cases e
theorem os_le : OpS K fLe (rI0 fun i j => .bl (decide (i ≤ j))) := by
  intro x y z v w Hk H Q e ex r1 r2 q qn
  unfold fLe at e
  split at e
  · cases e; exact ⟨_, _, RV.int.mp r1, RV.int.mp r2, q _ (RV.bl.mpr rfl)⟩
  · cases e
theorem os_gt : OpS K fGt (rI0 fun i j => .bl (decide (j < i))) := by
  intro x y z v w Hk H Q e ex r1 r2 q qn
  unfold fGt at e
  split at e
  · cases e; exact ⟨_, _, RV.int.mp r1, RV.int.mp r2, q _ (RV.bl.mpr rfl)⟩
  · cases e
theorem os_ge : OpS K fGe (rI0 fun i j => .bl (decide (j ≤ i))) := by
  intro x y z v w Hk H Q e ex r1 r2 q qn
  unfold fGe at e
  split at e
  · cases e; exact ⟨_, _, RV.int.mp r1, RV.int.mp r2, q _ (RV.bl.mpr rfl)⟩
  · cases e
theorem scal_of {H : Hp} {x y : MV} {v w : V} (h : scalM x y = true) (r1 : RV K H x v) (r2 : RV K H y w) : scal v w = true ∧ decide (v = w) = sameM x y := by
  unfold scalM at h
  split at h <;> first | (cases h; done) | skip
  all_goals
    first
      | (rw [RV.non.mp r1] ) | (rw [RV.int.mp r1]) | (rw [RV.bl.mp r1]) | (rw [RV.str.mp r1])
    first
      | (rw [RV.non.mp r2] ) | (rw [RV.int.mp r2]) | (rw [RV.bl.mp r2]) | (rw [RV.str.mp r2])
    refine ⟨rfl, ?_⟩
    simp [sameM]
mutual
theorem Dp.of {Hk H : Hp} (ex : Ex Hk H) : ∀ (x : MV) (v : V) (d : PyData), RV K Hk x v → toD x = some d → Dp K H v d
  | .non, v, d, r, e => by rw [RV.non.mp r]; unfold toD at e; cases e; exact .non
  | .bl b, v, d, r, e => by rw [RV.bl.mp r]; unfold toD at e; cases e; exact .bl b
  | .int b, v, d, r, e => by rw [RV.int.mp r]; unfold toD at e; cases e; exact .int b
  | .str b, v, d, r, e => by rw [RV.str.mp r]; unfold toD at e; cases e; exact .str b
  | .tup xs, v, d, r, e => by
    obtain ⟨a, vs, rfl, h, s⟩ := RV.tup.mp r
    unfold toD at e
    cases e2 : toDs xs with
    | none => rw [e2] at e; cases e
    | some ds =>
      rw [e2] at e; cases e
      exact .tup (ex_t ex h) (DpAll.of ex xs vs ds s e2)
  | .lst xs, v, d, r, e => by
    obtain ⟨a, vs, rfl, h, s⟩ := RV.lst.mp r
    unfold toD at e
    cases e2 : toDs xs with
    | none => rw [e2] at e; cases e
    | some ds =>
      rw [e2] at e; cases e
      exact .lst (SqL.of (ex _ _ h)) (DpAll.of ex xs vs ds s e2)
  | .own _, v, d, r, e => by unfold toD at e; cases e
  | .raw _, v, d, r, e => by unfold toD at e; cases e
  | .scr _, v, d, r, e => by unfold toD at e; cases e
  | .fnc _, v, d, r, e => by unfold toD at e; cases e
  | .obj _ _, v, d, r, e => by unfold toD at e; cases e
  | .dct _ _, v, d, r, e => by unfold toD at e; cases e
  | .dow _ _, v, d, r, e => by unfold toD at e; cases e
  | .dot _ _, v, d, r, e => by unfold toD at e; cases e
theorem DpAll.of {Hk H : Hp} (ex : Ex Hk H) : ∀ (xs : List MV) (vs : List V) (ds : List PyData), RVs K Hk xs vs → toDs xs = some ds → DpAll K H vs ds
  | [], vs, ds, r, e => by rw [RVs.nil.mp r]; unfold toDs at e; cases e; exact .nil
  | x :: xs, vs, ds, r, e => by
    obtain ⟨v, us, rfl, r1, r2⟩ := RVs.cons.mp r
    unfold toDs at e
    split at e
    · rename_i d ds' e1 e2
      cases e
      exact .cons (Dp.of ex x v d r1 e1) (DpAll.of ex xs us ds' r2 e2)
    · cases e
end
def rEqM (K : PySem.W.Frag) : R2 := fun x y H Q => rEq x y H Q ∨ rEqD K x y H Q
def rNeM (K : PySem.W.Frag) : R2 := fun x y H Q => rNe x y H Q ∨ rNeD K x y H Q
theorem op_eqM {X : Cx} (hu : X.A.units + 64 < cLine) : OpR X (compareOp .Eq) (rEqM X.K) := OpR.or op_eq (op_eqD hu)
theorem op_neM {X : Cx} (hu : X.A.units + 64 < cLine) : OpR X (compareOp .NotEq) (rNeM X.K) := OpR.or op_ne (op_neD hu)
theorem os_eq : OpS K fEq (rEqM K) := by
  intro x y z v w Hk H Q e ex r1 r2 q qn
  unfold fEq eqM at e
  split at e
  · rename_i h
    obtain ⟨s1, s2⟩ := scal_of h r1 r2
    cases e
    refine .inl ⟨s1, ?_⟩
    rw [s2]; exact q _ (RV.bl.mpr rfl)
  · split at e
    · rename_i d e' e1 e2
      split at e
      · rename_i h
        rw [Bool.and_eq_true] at h
        cases e
        exact .inr ⟨d, e', Dp.of ex _ _ _ r1 e1, Dp.of ex _ _ _ r2 e2, h.1, h.2, q _ (RV.bl.mpr rfl)⟩
      · cases e
    · cases e
theorem os_ne : OpS K fNe (rNeM K) := by
  intro x y z v w Hk H Q e ex r1 r2 q qn
  unfold fNe eqM at e
  split at e
  · rename_i h
    obtain ⟨s1, s2⟩ := scal_of h r1 r2
    cases e
    refine .inl ⟨s1, ?_⟩
    rw [s2]; exact q _ (RV.bl.mpr rfl)
  · split at e
    · rename_i d e' e1 e2
      split at e
      · rename_i h
        rw [Bool.and_eq_true] at h
        cases e
        exact .inr ⟨d, e', Dp.of ex _ _ _ r1 e1, Dp.of ex _ _ _ r2 e2, h.1, h.2, q _ (RV.bl.mpr rfl)⟩
      · cases e
    · cases e
def fIx : MV → MV → Option MV
  | .lst xs, .int i => atI xs i
  | .tup xs, .int i => atI xs i
  | .scr ns, .int i => (atI ns i).map .int
  | .str z, .int i => if szOk z.length then (atI z.cps.toList i).map fun c => .str ⟨#[c]⟩ else none
  | _, _ => none
theorem atI_rv {H : Hp} {xs : List MV} {vs : List V} (r : RVs K H xs vs) {i : Int} {x : MV} (e : atI xs i = some x) : ∃ v, atI vs i = some v ∧ RV K H x v := by
  unfold atI at e ⊢
  rw [r.length]
  cases h : ixN xs.length i with
  | none => rw [h] at e; cases e
  | some j =>
    rw [h] at e
    exact r.get e
theorem atI_map {α β : Type} {f : α → β} {xs : List α} {i : Int} {x : α} (e : atI xs i = some x) : atI (xs.map f) i = some (f x) := by
  unfold atI at e ⊢
  rw [List.length_map]
  cases h : ixN xs.length i with
  | none => rw [h] at e; cases e
  | some j =>
    rw [h] at e
    show (xs.map f)[j]? = _
    rw [List.getElem?_map, show xs[j]? = some x from e]; rfl
theorem os_ix : OpS K fIx (rIx K) := by
  intro x y z v w Hk H Q e ex r1 r2 q qn
  unfold fIx at e
  split at e
  · obtain ⟨p1, vs, rfl, h1, s1⟩ := RV.lst.mp r1
    obtain ⟨u, eu, ru⟩ := atI_rv s1 e
    exact .inl ⟨p1, vs, _, u, rfl, RV.int.mp r2, SqL.of (ex _ _ h1), eu, q _ ru⟩
  · obtain ⟨p1, vs, rfl, h1, s1⟩ := RV.tup.mp r1
    obtain ⟨u, eu, ru⟩ := atI_rv s1 e
    exact .inr (.inl ⟨p1, vs, _, u, rfl, RV.int.mp r2, ex_t ex h1, eu, q _ ru⟩)
  · rename_i ns i
    obtain ⟨p1, rfl, h1⟩ := RV.scr.mp r1
    cases h : atI ns i with
    | none => rw [h] at e; cases e
    | some n =>
      rw [h] at e; cases e
      exact .inl ⟨p1, _, _, _, rfl, RV.int.mp r2, ex_l ex h1, atI_map h, q _ (RV.int.mpr rfl)⟩
  · rename_i s i
    split at e
    · rename_i hz
      cases h : atI s.cps.toList i with
      | none => rw [h] at e; cases e
      | some n =>
        rw [h] at e; cases e
        exact .inr (.inr ⟨s, i, n, RV.str.mp r1, RV.int.mp r2, szOk_iff.mp hz, h, q _ (RV.str.mpr rfl)⟩)
    · cases e
  · cases e
def flatM : MV → Bool
  | .non | .bl _ | .int _ | .str _ => true
  | _ => false
def eqFlat : MV → MV → Bool
  | .non, .non => true
  | .bl a, .bl b => a == b
  | .bl a, .int b => (if a then 1 else 0) == b
  | .int a, .bl b => a == (if b then 1 else 0)
  | .int a, .int b => a == b
  | .str a, .str b => a == b
  | _, _ => false
theorem flat_v {H : Hp} {x : MV} {v : V} (h : flatM x = true) (r : RV K H x v) : flatV v = true := by
  unfold flatM at h
  split at h <;> first | (cases h; done) | skip
  · rw [RV.non.mp r]; rfl
  · rw [RV.bl.mp r]; rfl
  · rw [RV.int.mp r]; rfl
  · rw [RV.str.mp r]; rfl
theorem flat_eq {H : Hp} {x y : MV} {v w : V} (h : flatM x = true) (h2 : flatM y = true) (r : RV K H x v) (r2 : RV K H y w) : eqV v w = eqFlat x y := by
  unfold flatM at h h2
  split at h <;> first | (cases h; done) | skip
  all_goals (split at h2 <;> first | (cases h2; done) | skip)
  all_goals
    first
      | (rw [RV.non.mp r] ) | (rw [RV.int.mp r]) | (rw [RV.bl.mp r]) | (rw [RV.str.mp r])
    first
      | (rw [RV.non.mp r2] ) | (rw [RV.int.mp r2]) | (rw [RV.bl.mp r2]) | (rw [RV.str.mp r2])
    rfl
theorem flats_v {H : Hp} : ∀ {xs : List MV} {vs : List V}, xs.all flatM = true → RVs K H xs vs → vs.all flatV = true
  | [], vs, _, r => by rw [RVs.nil.mp r]; rfl
  | x :: xs, vs, h, r => by
    obtain ⟨v, us, rfl, r1, r2⟩ := RVs.cons.mp r
    rw [List.all_cons, Bool.and_eq_true] at h
    rw [List.all_cons, flat_v h.1 r1, flats_v h.2 r2]; rfl
theorem inV_eq {H : Hp} {y : MV} {w : V} (hy : flatM y = true) (ry : RV K H y w) : ∀ {xs : List MV} {vs : List V}, xs.all flatM = true → RVs K H xs vs → inV w vs = xs.any fun x => eqFlat x y
  | [], vs, _, r => by rw [RVs.nil.mp r]; rfl
  | x :: xs, vs, h, r => by
    obtain ⟨v, us, rfl, r1, r2⟩ := RVs.cons.mp r
    rw [List.all_cons, Bool.and_eq_true] at h
    have ih := inV_eq hy ry h.2 r2
    unfold inV at ih ⊢
    rw [List.any_cons, List.any_cons, ih, flat_eq h.1 hy r1 ry]
def inM (y : MV) (xs : List MV) : Option Bool := if flatM y && xs.all flatM then some (xs.any fun x => eqFlat x y) else none
def inA : MV → MV → Option Bool
  | y, .lst xs => inM y xs
  | y, .tup xs => inM y xs
  | .str i, .str j => some (!(Builtin.Str.occurrences j i 0 j.length 1).isEmpty)
  | _, _ => none
def fIn (x y : MV) : Option MV := (inA x y).map .bl
def rInM (K : PySem.W.Frag) : R2 := fun x y H Q => rIn K false x y H Q ∨ (∃ i j, x = .str i ∧ y = .str j ∧ Q (.bl (!(Builtin.Str.occurrences j i 0 j.length 1).isEmpty)) H)
theorem op_inM {X : Cx} : OpR X (compareOp .In) (rInM X.K) := OpR.or op_in_seq op_in_str
theorem in_sq {Hk H : Hp} {x y : MV} {v w : V} {b : Bool} (ex : Ex Hk H) (r1 : RV K Hk x v) (r2 : RV K Hk y w) (e : inA x y = some b) :
    (∃ p xs, w = .ref p ∧ (SqL K H p xs ∨ SqT K H p xs) ∧ flatV v = true ∧ xs.all flatV = true ∧ inV v xs = b) ∨ (∃ i j, v = .str i ∧ w = .str j ∧ (!(Builtin.Str.occurrences j i 0 j.length 1).isEmpty) = b) := by
  unfold inA at e
  split at e
  · unfold inM at e
    split at e
    · rename_i h
      cases e
      rw [Bool.and_eq_true] at h
      obtain ⟨p1, vs, rfl, h1, s1⟩ := RV.lst.mp r2
      exact .inl ⟨p1, vs, rfl, .inl (SqL.of (ex _ _ h1)), flat_v h.1 r1, flats_v h.2 s1, inV_eq h.1 r1 h.2 s1⟩
    · cases e
  · unfold inM at e
    split at e
    · rename_i h
      cases e
      rw [Bool.and_eq_true] at h
      obtain ⟨p1, vs, rfl, h1, s1⟩ := RV.tup.mp r2
      exact .inl ⟨p1, vs, rfl, .inr (ex_t ex h1), flat_v h.1 r1, flats_v h.2 s1, inV_eq h.1 r1 h.2 s1⟩
    · cases e
  · cases e
    exact .inr ⟨_, _, RV.str.mp r1, RV.str.mp r2, rfl⟩
  · cases e
theorem os_in : OpS K fIn (rInM K) := by
  intro x y z v w Hk H Q e ex r1 r2 q qn
  unfold fIn at e
  cases eb : inA x y with
  | none => rw [eb] at e; cases e
  | some b =>
    rw [eb] at e; cases e
    rcases in_sq ex r1 r2 eb with ⟨p, xs, e1, e2, e3, e4, e5⟩ | ⟨i, j, e1, e2, e3⟩
    · exact .inl ⟨p, xs, e1, e2, e3, e4, by rw [if_neg (by decide), e5]; exact q _ (RV.bl.mpr rfl)⟩
    · exact .inr ⟨i, j, e1, e2, by rw [e3]; exact q _ (RV.bl.mpr rfl)⟩
end
end Tm
set_option Elab.async false
set_option linter.all false
set_option maxRecDepth 100000
set_option maxHeartbeats 2000000
namespace Tm
open PySem L2
open Evl (Ex ex_rd ex_l ex_t)
structure Post (c : Ct) (F : Hp) (bp : List (Nat × Addr)) (σ : St) {β : Type} (P : Hp → Res (β × Env) → Prop) : Prop where
  ex : ∀ Hk e ρ, P Hk (.exc e ρ) → Wish c F Hk bp σ e ρ
  st : ∀ Hk, ¬ P Hk .stuck
  mono : ∀ Hk Hk' r, Ex Hk Hk' → P Hk r → P Hk' r
section
variable {c : Ct} {F Hk H : Hp} {bp : List (Nat × Addr)} {σ : St} {ρ : Env} {β : Type}
theorem postE {Q : VK} : Post c F bp σ fun Hk r => okE c F Hk bp σ Q r := ⟨fun _ _ _ h => h, fun _ h => h, fun _ _ _ x h => okE.mono x h⟩
theorem postO {Q : VK} : Post c F bp σ fun Hk r => okO c F Hk bp σ Q r := ⟨fun _ _ _ h => h, fun _ h => h, fun _ _ _ x h => okO.mono x h⟩
theorem postT {Q : Bool → Hp → Prop} : Post c F bp σ fun Hk r => okT c F Hk bp σ Q r := ⟨fun _ _ _ h => h, fun _ h => h, fun _ _ _ x h => okT.mono x h⟩
theorem postA {Q : List V → Hp → Prop} : Post c F bp σ fun Hk r => okA c F Hk bp σ Q r := ⟨fun _ _ _ h => h, fun _ h => h, fun _ _ _ x h => okA.mono x h⟩
theorem postS {D : Ends} : Post c F bp σ fun Hk r => okS c F Hk bp D r := ⟨fun _ _ _ h Hk' H' cls d => h Hk' H' σ cls d, fun _ h => h, fun _ _ _ x h => okS.mono x h⟩
variable {P : Hp → Res (β × Env) → Prop}
theorem bE (p : Post c F bp σ P) {a : ME} {k : MV → Env → Res (β × Env)} (S : At c F Hk H bp σ ρ) (h : P Hk ((a ρ).bind k)) :
    rdE c a σ H fun v H1 => ∃ Hk1 x ρ1, Ex Hk Hk1 ∧ At c F Hk1 H1 bp σ ρ1 ∧ RV c.K Hk1 x v ∧ P Hk1 (k x ρ1) := by
  refine ⟨F, Hk, bp, ρ, S, ?_⟩
  cases e : a ρ with
  | stuck => rw [e] at h; exact p.st _ h
  | exc x ρ' => rw [e] at h; exact p.ex _ _ _ h
  | ok q =>
    rw [e] at h
    exact fun Hk1 H1 v x1 S1 r1 => ⟨Hk1, q.1, q.2, x1, ⟨S1, S.2⟩, r1, p.mono _ _ _ x1 h⟩
theorem bO (p : Post c F bp σ P) {a : ME} {k : MV → Env → Res (β × Env)} (S : At c F Hk H bp σ ρ) (h : P Hk ((a ρ).bind k)) :
    rdO c a σ H fun v H1 => ∃ Hk1 x ρ1, Ex Hk Hk1 ∧ RS c.K F Hk1 H1 bp (σ ++ [some v]) (ρ1 ++ [some x]) ∧ P Hk1 (k x ρ1) := by
  refine ⟨F, Hk, bp, ρ, S, ?_⟩
  cases e : a ρ with
  | stuck => rw [e] at h; exact p.st _ h
  | exc x ρ' => rw [e] at h; exact p.ex _ _ _ h
  | ok q =>
    rw [e] at h
    exact fun Hk1 H1 v x1 S1 => ⟨Hk1, q.1, q.2, x1, S1, p.mono _ _ _ x1 h⟩
theorem bT (p : Post c F bp σ P) {a : MT} {k : Bool → Env → Res (β × Env)} (S : At c F Hk H bp σ ρ) (h : P Hk ((a ρ).bind k)) :
    rdT c a σ H fun b H1 => ∃ Hk1 ρ1, Ex Hk Hk1 ∧ At c F Hk1 H1 bp σ ρ1 ∧ P Hk1 (k b ρ1) := by
  refine ⟨F, Hk, bp, ρ, S, ?_⟩
  cases e : a ρ with
  | stuck => rw [e] at h; exact p.st _ h
  | exc x ρ' => rw [e] at h; exact p.ex _ _ _ h
  | ok q =>
    rw [e] at h
    exact fun Hk1 H1 x1 S1 => ⟨Hk1, q.2, x1, ⟨S1, S.2⟩, p.mono _ _ _ x1 h⟩
theorem bA (p : Post c F bp σ P) {a : MA} {k : List MV → Env → Res (β × Env)} (S : At c F Hk H bp σ ρ) (h : P Hk ((a ρ).bind k)) :
    rdA c a σ H fun vs H1 => ∃ Hk1 xs ρ1, Ex Hk Hk1 ∧ At c F Hk1 H1 bp σ ρ1 ∧ RVs c.K Hk1 xs vs ∧ P Hk1 (k xs ρ1) := by
  refine ⟨F, Hk, bp, ρ, S, ?_⟩
  cases e : a ρ with
  | stuck => rw [e] at h; exact p.st _ h
  | exc x ρ' => rw [e] at h; exact p.ex _ _ _ h
  | ok q =>
    rw [e] at h
    exact fun Hk1 H1 vs x1 S1 r1 => ⟨Hk1, q.1, q.2, x1, ⟨S1, S.2⟩, r1, p.mono _ _ _ x1 h⟩
end
section
variable {c : Ct}
theorem okE.imp {F Hk : Hp} {bp : List (Nat × Addr)} {σ : St} {Q Q' : VK} {r : Res (MV × Env)} (h : okE c F Hk bp σ Q r) (w : ∀ v H, Q v H → Q' v H) : okE c F Hk bp σ Q' r := by
  cases r with
  | ok a => exact fun Hk2 H2 v x S r => w _ _ (h Hk2 H2 v x S r)
  | exc e ρ => exact h
  | stuck => exact h
theorem okT.imp {F Hk : Hp} {bp : List (Nat × Addr)} {σ : St} {Q Q' : Bool → Hp → Prop} {r : Res (Bool × Env)} (h : okT c F Hk bp σ Q r) (w : ∀ v H, Q v H → Q' v H) : okT c F Hk bp σ Q' r := by
  cases r with
  | ok a => exact fun Hk2 H2 x S => w _ _ (h Hk2 H2 x S)
  | exc e ρ => exact h
  | stuck => exact h
theorem okA.imp {F Hk : Hp} {bp : List (Nat × Addr)} {σ : St} {Q Q' : List V → Hp → Prop} {r : Res (List MV × Env)} (h : okA c F Hk bp σ Q r) (w : ∀ v H, Q v H → Q' v H) : okA c F Hk bp σ Q' r := by
  cases r with
  | ok a => exact fun Hk2 H2 v x S r => w _ _ (h Hk2 H2 v x S r)
  | exc e ρ => exact h
  | stuck => exact h
theorem okO.imp {F Hk : Hp} {bp : List (Nat × Addr)} {σ : St} {Q Q' : VK} {r : Res (MV × Env)} (h : okO c F Hk bp σ Q r) (w : ∀ v H, Q v H → Q' v H) : okO c F Hk bp σ Q' r := by
  cases r with
  | ok a => exact fun Hk2 H2 v x S => w _ _ (h Hk2 H2 v x S)
  | exc e ρ => exact h
  | stuck => exact h
theorem rdw {m : ME} {σ : St} {H : Hp} {Q Q' : VK} (h : rdE c m σ H Q) (w : ∀ v H, Q v H → Q' v H) : rdE c m σ H Q' := let ⟨F, Hk, bp, ρ, S, q⟩ := h; ⟨F, Hk, bp, ρ, S, q.imp w⟩
theorem rdOw {m : ME} {σ : St} {H : Hp} {Q Q' : VK} (h : rdO c m σ H Q) (w : ∀ v H, Q v H → Q' v H) : rdO c m σ H Q' := let ⟨F, Hk, bp, ρ, S, q⟩ := h; ⟨F, Hk, bp, ρ, S, q.imp w⟩
theorem rdTw {m : MT} {σ : St} {H : Hp} {Q Q' : Bool → Hp → Prop} (h : rdT c m σ H Q) (w : ∀ v H, Q v H → Q' v H) : rdT c m σ H Q' := let ⟨F, Hk, bp, ρ, S, q⟩ := h; ⟨F, Hk, bp, ρ, S, q.imp w⟩
theorem rdAw {m : MA} {σ : St} {H : Hp} {Q Q' : List V → Hp → Prop} (h : rdA c m σ H Q) (w : ∀ v H, Q v H → Q' v H) : rdA c m σ H Q' := let ⟨F, Hk, bp, ρ, S, q⟩ := h; ⟨F, Hk, bp, ρ, S, q.imp w⟩
end
section
variable {X : Cx} {c : Ct}
def mTest (a : ME) : MT := fun ρ => (a ρ).bind fun x ρ1 => match x with | .bl b => .ok (b, ρ1) | _ => .stuck
theorem rd_test {a : ME} {σ : St} {H : Hp} {Q : Bool → Hp → Prop} (h : rdT c (mTest a) σ H Q) : (rdE c a) σ H fun x H' => ∃ k, x = .bl k ∧ Q k H' := by
  obtain ⟨F, Hk, bp, ρ, S, h⟩ := h
  obtain ⟨F', Hk', bp', ρ', S', h'⟩ := bE postT S h
  refine ⟨F', Hk', bp', ρ', S', ?_⟩
  cases e : a ρ' with
  | stuck => rw [e] at h'; exact h'
  | exc x r => rw [e] at h'; exact h'
  | ok q =>
    rw [e] at h'
    intro Hk1 H1 v x1 S1 r1
    obtain ⟨Hk2, x, ρ2, x2, S2, r2, h2⟩ := h' Hk1 H1 v x1 S1 r1
    cases x with
    | bl b => exact ⟨b, RV.bl.mp r2, h2 _ _ (Ex.refl _) S2.1⟩
    | _ => exact h2.elim
theorem mt_cmp {op : CmpOp} {f : MV → MV → Option MV} {r : R2} {a b : Expr} {ma mb : ME} {pos : Pos} (ho : OpR X (compareOp op) r) (o : OpS c.K f r) (ha : PE X a (rdE c ma)) (hb : PE X b (rdE c mb)) (hm : behindInMarks op b = false) :
    PT X (.Compare a [op] [b] pos) (rdT c (mTest (mOp f ma mb))) := PTw (pt_cmpR ho ha hb hm) fun σ H Q h => rd_op (Q := fun x H' => ∃ k, x = .bl k ∧ Q k H') o (rd_test h)
theorem mt_val {e : Expr} {m : ME} (h : PE X e (rdE c m)) (he : ∀ whole, isTrue e X.env whole = (do let v ← whole; standAt e.pos; holding [v] (truthy v)) := by intro _; rfl) : PT X e (rdT c (mTest m)) :=
  PTw (pt_val h he) fun σ H Q h => rd_test h
def mChain (f g : MV → MV → Option MV) (a b d : ME) : ME := fun ρ => (a ρ).bind fun x ρ1 => (b ρ1).bind fun y ρ2 => match f x y with
  | some (.bl true) => (d ρ2).bind fun z ρ3 => match g y z with | some w => .ok (w, ρ3) | none => .stuck
  | some (.bl false) => .ok (.bl false, ρ2)
  | _ => .stuck
theorem opEnd {f : MV → MV → Option MV} {r : R2} (o : OpS c.K f r) {F Hk H : Hp} {bp : List (Nat × Addr)} {σ : St} {ρ : Env} {Q : VK} {x y : MV} {v w : V} (S : At c F Hk H bp σ ρ) (r1 : RV c.K Hk x v) (r2 : RV c.K Hk y w)
    (h : okE c F Hk bp σ Q (match f x y with | some z => .ok (z, ρ) | none => .stuck)) : r v w H Q := by
  cases e : f x y with
  | none => rw [e] at h; exact h.elim
  | some z =>
    rw [e] at h
    exact o x y z v w Hk H Q e S.1.ex r1 r2 (fun u ru => h _ _ u (Ex.refl _) S.1 ru) fun p ob hp ru => h _ _ _ (Ex.new (S.1.ex.back hp)) (S.1.new hp) ru
theorem rd_chain {f g : MV → MV → Option MV} {r r' : R2} (o : OpS c.K f r) (o' : OpS c.K g r') {a b d : ME} {σ : St} {H : Hp} {Q : VK} (h : rdE c (mChain f g a b d) σ H Q) : tChain r r' (rdE c a) (rdE c b) (rdE c d) σ H Q := by
  obtain ⟨F, Hk, bp, ρ, S, h⟩ := h
  refine rdw (bE postE S h) fun v H1 ⟨Hk1, x, ρ1, x1, S1, r1, h1⟩ => ?_
  refine rdw (bE postE S1 h1) fun w H2 ⟨Hk2, y, ρ2, x2, S2, r2, h2⟩ => ?_
  split at h2
  · rename_i e
    refine o x y _ v w Hk2 H2 _ e S2.1.ex (RV.mono x2 _ _ r1) r2 (fun u ru => ⟨true, RV.bl.mp ru, ?_⟩) fun p ob hp ru => nomatch (RV.bl.mp ru)
    rw [if_pos rfl]
    refine rdw (bE postE S2 h2) fun z H3 ⟨Hk3, zz, ρ3, x3, S3, r3, h3⟩ => ?_
    exact opEnd o' S3 (RV.mono x3 _ _ r2) r3 h3
  · rename_i e
    refine o x y _ v w Hk2 H2 _ e S2.1.ex (RV.mono x2 _ _ r1) r2 (fun u ru => ⟨false, RV.bl.mp ru, ?_⟩) fun p ob hp ru => nomatch (RV.bl.mp ru)
    rw [if_neg (by decide)]
    exact h2 _ _ _ (Ex.refl _) S2.1 (RV.bl.mpr rfl)
  · exact h2.elim
theorem me_chain {op op' : CmpOp} {f g : MV → MV → Option MV} {r r' : R2} {a b d : Expr} {ma mb md : ME} {pos : Pos} (ho : OpR X (compareOp op) r) (o : OpS c.K f r) (ho' : OpR X (compareOp op') r') (o' : OpS c.K g r')
    (ha : PE X a (rdE c ma)) (hb : PE X b (rdE c mb)) (hd : PE X d (rdE c md)) (hm : lastMarks [op, op'] [b, d] = false := by with_unfolding_all rfl) : PE X (.Compare a [op, op'] [b, d] pos) (rdE c (mChain f g ma mb md)) :=
  PEw (pe_chain ho ho' ha hb hd hm) fun _ _ _ h => rd_chain o o' h
def mAndT (a b : MT) : MT := fun ρ => (a ρ).bind fun x ρ1 => if x then b ρ1 else .ok (false, ρ1)
def mOrT (a b : MT) : MT := fun ρ => (a ρ).bind fun x ρ1 => if x then .ok (true, ρ1) else b ρ1
def mNotT (a : MT) : MT := fun ρ => (a ρ).bind fun x ρ1 => .ok (!x, ρ1)
def mBv (t : MT) : ME := fun ρ => (t ρ).bind fun x ρ1 => .ok (.bl x, ρ1)
theorem rd_andT {a b : MT} {σ : St} {H : Hp} {Q : Bool → Hp → Prop} (h : rdT c (mAndT a b) σ H Q) : tAnd (rdT c a) (rdT c b) σ H Q := by
  obtain ⟨F, Hk, bp, ρ, S, h⟩ := h
  refine rdTw (bT postT S h) fun k H1 ⟨Hk1, ρ1, x1, S1, h1⟩ => ?_
  cases k with
  | true => rw [if_pos rfl] at h1 ⊢; exact ⟨F, Hk1, bp, ρ1, S1, h1⟩
  | false => rw [if_neg (by decide)] at h1 ⊢; exact h1 _ _ (Ex.refl _) S1.1
theorem rd_orT {a b : MT} {σ : St} {H : Hp} {Q : Bool → Hp → Prop} (h : rdT c (mOrT a b) σ H Q) : tOr (rdT c a) (rdT c b) σ H Q := by
  obtain ⟨F, Hk, bp, ρ, S, h⟩ := h
  refine rdTw (bT postT S h) fun k H1 ⟨Hk1, ρ1, x1, S1, h1⟩ => ?_
  cases k with
  | true => rw [if_pos rfl] at h1 ⊢; exact h1 _ _ (Ex.refl _) S1.1
  | false => rw [if_neg (by decide)] at h1 ⊢; exact ⟨F, Hk1, bp, ρ1, S1, h1⟩
theorem rd_notT {a : MT} {σ : St} {H : Hp} {Q : Bool → Hp → Prop} (h : rdT c (mNotT a) σ H Q) : tNot (rdT c a) σ H Q := by
  obtain ⟨F, Hk, bp, ρ, S, h⟩ := h
  exact rdTw (bT postT S h) fun k H1 ⟨Hk1, ρ1, x1, S1, h1⟩ => h1 _ _ (Ex.refl _) S1.1
theorem mw_one_and {a : Expr} {m : MT} {pos : Pos} (h : PT X a (rdT c m)) : PW X (.BoolOp .And [a] pos) (rdT c m) := pw_and1 h
theorem mw_one_or {a : Expr} {m : MT} {pos : Pos} (h : PT X a (rdT c m)) : PW X (.BoolOp .Or [a] pos) (rdT c m) := pw_or1 h
theorem mw_and {a b : Expr} {r : List Expr} {m n : MT} {pos : Pos} (h : PT X a (rdT c m)) (g : PW X (.BoolOp .And (b :: r) pos) (rdT c n)) : PW X (.BoolOp .And (a :: b :: r) pos) (rdT c (mAndT m n)) := PWw (pw_and h g) fun _ _ _ q => rd_andT q
theorem mw_or {a b : Expr} {r : List Expr} {m n : MT} {pos : Pos} (h : PT X a (rdT c m)) (g : PW X (.BoolOp .Or (b :: r) pos) (rdT c n)) : PW X (.BoolOp .Or (a :: b :: r) pos) (rdT c (mOrT m n)) := PWw (pw_or h g) fun _ _ _ q => rd_orT q
theorem mt_not {a : Expr} {m : MT} {pos : Pos} (h : PT X a (rdT c m)) : PT X (.UnaryOp .Not a pos) (rdT c (mNotT m)) := PTw (pt_not h) fun _ _ _ q => rd_notT q
theorem okBv {F Hk : Hp} {bp : List (Nat × Addr)} {σ : St} {Q : VK} {r : Res (Bool × Env)} (h : okT c F Hk bp σ (fun k H => Q (.bl k) H) r) : okE c F Hk bp σ Q (r.bind fun x ρ1 => .ok (.bl x, ρ1)) := by
  cases r with
  | ok a =>
    intro Hk2 H2 v x S rv
    rw [RV.bl.mp rv]
    exact h Hk2 H2 x S
  | exc e ρ => exact h
  | stuck => exact h
theorem rdBv {t : MT} {σ : St} {H : Hp} {Q : VK} (h : rdT c t σ H fun k H1 => Q (.bl k) H1) : rdE c (mBv t) σ H Q := let ⟨F, Hk, bp, ρ, S, q⟩ := h; ⟨F, Hk, bp, ρ, S, okBv q⟩
theorem rdBv' {t : MT} {σ : St} {H : Hp} {Q : VK} (h : rdE c (mBv t) σ H Q) : rdT c t σ H fun k H1 => Q (.bl k) H1 := by
  obtain ⟨F, Hk, bp, ρ, S, h⟩ := h
  exact rdTw (bT postE S h) fun k H1 ⟨Hk1, ρ1, x1, S1, h1⟩ => h1 _ _ _ (Ex.refl _) S1.1 (RV.bl.mpr rfl)
end
end Tm
set_option Elab.async false
set_option linter.all false
set_option maxRecDepth 100000
set_option maxHeartbeats 2000000
namespace Tm
open PySem L2
open Evl (Ex ex_rd ex_l ex_t)
section
variable {X : Cx} {c : Ct}
theorem rd_oneV {a : ME} {σ : St} {H : Hp} {Q : VK} (h : rdE c (mBv (mTest a)) σ H Q) : rdE c a σ H Q := rdw (rd_test (rdBv' h)) fun v H1 ⟨k, e, q⟩ => by rw [e]; exact q
theorem me_one {op : BoolOp} {a : Expr} {m : ME} {pos : Pos} (h : PE X a (rdE c m)) : PE X (.BoolOp op [a] pos) (rdE c (mBv (mTest m))) := PEw (pe_one h) fun _ _ _ q => rd_oneV q
theorem me_and {a b : Expr} {r : List Expr} {m : ME} {t : MT} {pos : Pos} (h : PE X a (rdE c m)) (g : PE X (.BoolOp .And (b :: r) pos) (rdE c (mBv t))) : PE X (.BoolOp .And (a :: b :: r) pos) (rdE c (mBv (mAndT (mTest m) t))) :=
  PEw (pe_and h g) fun σ H Q q => rdw (rd_test (rd_andT (rdBv' q))) fun v H1 ⟨k, e, q⟩ => ⟨k, e, by
    cases k with
    | true => rw [if_pos rfl] at q ⊢; exact rdBv q
    | false => rw [if_neg (by decide)] at q ⊢; exact q⟩
theorem me_or {a b : Expr} {r : List Expr} {m : ME} {t : MT} {pos : Pos} (h : PE X a (rdE c m)) (g : PE X (.BoolOp .Or (b :: r) pos) (rdE c (mBv t))) : PE X (.BoolOp .Or (a :: b :: r) pos) (rdE c (mBv (mOrT (mTest m) t))) :=
  PEw (pe_or h g) fun σ H Q q => rdw (rd_test (rd_orT (rdBv' q))) fun v H1 ⟨k, e, q⟩ => ⟨k, e, by
    cases k with
    | true => rw [if_pos rfl] at q ⊢; exact q
    | false => rw [if_neg (by decide)] at q ⊢; exact rdBv q⟩
theorem me_not {a : Expr} {m : ME} {pos : Pos} (h : PE X a (rdE c m)) : PE X (.UnaryOp .Not a pos) (rdE c (mBv (mNotT (mTest m)))) :=
  PEw (pe_not h) fun σ H Q q => rdw (rd_test (rd_notT (rdBv' q))) fun v H1 ⟨k, e, q⟩ => ⟨k, e, q⟩
def mUn (f : MV → Option MV) (a : ME) : ME := fun ρ => (a ρ).bind fun x ρ1 => match f x with | some z => .ok (z, ρ1) | none => .stuck
def fNeg : MV → Option MV
  | .int i => some (.int (-i))
  | _ => none
def UnS (K : PySem.W.Frag) (f : MV → Option MV) (r : V → Hp → VK → Prop) : Prop := ∀ (x z : MV) (v : V) (Hk H : Hp) (Q : VK), f x = some z → Ex Hk H → RV K Hk x v → (∀ u, RV K Hk z u → Q u H) →
  (∀ p o, H p = none → RV K (upd Hk p o) z (.ref p) → Q (.ref p) (upd H p o)) → r v H Q
theorem unEnd {f : MV → Option MV} {r : V → Hp → VK → Prop} (o : UnS c.K f r) {F Hk H : Hp} {bp : List (Nat × Addr)} {σ : St} {ρ : Env} {Q : VK} {x : MV} {v : V} (S : At c F Hk H bp σ ρ) (r1 : RV c.K Hk x v)
    (h : okE c F Hk bp σ Q (match f x with | some z => .ok (z, ρ) | none => .stuck)) : r v H Q := by
  cases e : f x with
  | none => rw [e] at h; exact h.elim
  | some z =>
    rw [e] at h
    exact o x z v Hk H Q e S.1.ex r1 (fun u ru => h _ _ u (Ex.refl _) S.1 ru) fun p ob hp ru => h _ _ _ (Ex.new (S.1.ex.back hp)) (S.1.new hp) ru
theorem rd_un {f : MV → Option MV} {r : V → Hp → VK → Prop} (o : UnS c.K f r) {a : ME} {σ : St} {H : Hp} {Q : VK} (h : rdE c (mUn f a) σ H Q) : tUn r (rdE c a) σ H Q := by
  obtain ⟨F, Hk, bp, ρ, S, h⟩ := h
  exact rdw (bE postE S h) fun v H1 ⟨Hk1, x, ρ1, x1, S1, r1, h1⟩ => unEnd o S1 r1 h1
theorem us_neg {K : PySem.W.Frag} : UnS K fNeg (rU fun i => .int (-i)) := by
  intro x z v Hk H Q e ex r1 q qn
  unfold fNeg at e
  split at e
  · cases e; exact ⟨_, RV.int.mp r1, q _ (RV.int.mpr rfl)⟩
  · cases e
theorem me_neg {a : Expr} {m : ME} {pos : Pos} (h : PE X a (rdE c m)) : PE X (.UnaryOp .USub a pos) (rdE c (mUn fNeg m)) := PEw (pe_un un_neg h) fun _ _ _ q => rd_un us_neg q
def mNil : MA := fun ρ => .ok ([], ρ)
def mCons (a : ME) (b : MA) : MA := fun ρ => (a ρ).bind fun x ρ1 => (b ρ1).bind fun xs ρ2 => .ok (x :: xs, ρ2)
theorem ma_nil : PA X [] (rdA c mNil) := PAw pa_nil fun σ H Q h => by
  obtain ⟨F, Hk, bp, ρ, S, h⟩ := h
  exact h _ _ _ (Ex.refl _) S.1 (RVs.nil.mpr rfl)
theorem ma_cons {e : Expr} {es : List Expr} {a : ME} {b : MA} (ha : PE X e (rdE c a)) (hb : PA X es (rdA c b)) (hs : starEach (e :: es) X.env = (false, eval e X.env) :: starEach es X.env := by rfl) : PA X (e :: es) (rdA c (mCons a b)) :=
  PAw (pa_cons ha hb hs) fun σ H Q h => by
    obtain ⟨F, Hk, bp, ρ, S, h⟩ := h
    refine rdw (bE postA S h) fun v H1 ⟨Hk1, x, ρ1, x1, S1, r1, h1⟩ => ?_
    refine rdAw (bA postA S1 h1) fun vs H2 ⟨Hk2, xs, ρ2, x2, S2, r2, h2⟩ => ?_
    exact h2 _ _ _ (Ex.refl _) S2.1 (RVs.cons.mpr ⟨v, vs, rfl, RV.mono x2 _ _ r1, r2⟩)
def mTup (a : MA) : ME := fun ρ => (a ρ).bind fun xs ρ1 => if szOk xs.length then .ok (.tup xs, ρ1) else .stuck
def mLst (a : MA) : ME := fun ρ => (a ρ).bind fun xs ρ1 => if szOk xs.length then .ok (.lst xs, ρ1) else .stuck
def mLstO (a : MA) : ME := fun ρ => (a ρ).bind fun xs ρ1 => if szOk xs.length then .ok (.own xs, ρ1) else .stuck
theorem me_tup {es : List Expr} {a : MA} {pos : Pos} {k : Nat} (h : PA X es (rdA c a)) : PE X (.Tuple es k pos) (rdE c (mTup a)) := PEw (pe_tup h) fun σ H Q h => by
  obtain ⟨F, Hk, bp, ρ, S, h⟩ := h
  refine rdAw (bA postE S h) fun vs H1 ⟨Hk1, xs, ρ1, x1, S1, r1, h1⟩ => ?_
  split at h1
  · rename_i hz
    refine ⟨by rw [r1.length]; exact szOk_iff.mp hz, fun p hp => h1 _ _ _ (Ex.new (S1.1.ex.back hp)) (S1.1.new hp) (RV.tup.mpr ⟨p, vs, rfl, SqT.of upd_same, r1.mono (Ex.new (S1.1.ex.back hp))⟩)⟩
  · exact h1.elim
theorem me_lst {es : List Expr} {a : MA} {pos : Pos} (h : PA X es (rdA c a)) : PE X (.List es pos) (rdE c (mLst a)) := PEw (pe_lst h) fun σ H Q h => by
  obtain ⟨F, Hk, bp, ρ, S, h⟩ := h
  refine rdAw (bA postE S h) fun vs H1 ⟨Hk1, xs, ρ1, x1, S1, r1, h1⟩ => ?_
  split at h1
  · rename_i hz
    refine ⟨by rw [r1.length]; exact szOk_iff.mp hz, fun p hp => h1 _ _ _ (Ex.new (S1.1.ex.back hp)) (S1.1.new hp) (RV.lst.mpr ⟨p, vs, rfl, upd_same, r1.mono (Ex.new (S1.1.ex.back hp))⟩)⟩
  · exact h1.elim
theorem mo_lst {es : List Expr} {a : MA} {pos : Pos} (h : PA X es (rdA c a)) : PE X (.List es pos) (rdO c (mLstO a)) := PEw (pe_lst h) fun σ H Q h => by
  obtain ⟨F, Hk, bp, ρ, S, h⟩ := h
  refine rdAw (bA postO S h) fun vs H1 ⟨Hk1, xs, ρ1, x1, S1, r1, h1⟩ => ?_
  split at h1
  · rename_i hz
    exact ⟨by rw [r1.length]; exact szOk_iff.mp hz, fun p hp => h1 _ _ _ (Ex.refl _) (S1.1.pushOwn hp r1)⟩
  · exact h1.elim
theorem me_ix {a b : Expr} {ma mb : ME} {pos : Pos} (ha : PE X a (rdE c ma)) (hb : PE X b (rdE c mb)) (hK : c.K = X.K := by rfl) (hs : PlainIx b := by exact fun _ _ => rfl) : PE X (.Subscript a b pos) (rdE c (mOp fIx ma mb)) :=
  PEw (pe_ix ix_seq ha hb hs) fun _ _ _ q => rd_op (by rw [hK]; exact os_ix) q
def has (ρ : Env) (i : Nat) : Bool := match ρ[i]? with | some (some _) => true | _ => false
theorem has_rs {F Hk H : Hp} {bp : List (Nat × Addr)} {σ : St} {ρ : Env} {i : Nat} (S : At c F Hk H bp σ ρ) (e : has ρ i = true) : ∃ v, σ[i]? = some (some v) := by
  unfold has at e
  split at e
  · rename_i x h
    obtain ⟨ow, s⟩ := S.1.ow
    obtain ⟨v, ev, _⟩ := s.s i x h
    exact ⟨v, ev⟩
  · cases e
def ixL (xs : List MV) : MV → Option MV
  | .int k => atI xs k
  | _ => none
def ixV (ρ : Env) (i : Nat) (y : MV) : Option MV := match ρ[i]? with
  | some (some (.own xs)) => ixL xs y
  | some (some x) => if x.per then fIx x y else none
  | _ => none
def mIxV (i : Nat) (b : ME) : ME := fun ρ => if has ρ i then (b ρ).bind fun y ρ1 => match ixV ρ1 i y with | some z => .ok (z, ρ1) | none => .stuck else .stuck
theorem rd_ixV {i : Nat} {b : ME} {σ : St} {H : Hp} {Q : VK} (h : rdE c (mIxV i b) σ H Q) : tOp (rIx c.K) (tVar i) (rdE c b) σ H Q := by
  obtain ⟨F, Hk, bp, ρ, S, h⟩ := h
  unfold mIxV at h
  split at h
  · rename_i hh
    obtain ⟨v, ev⟩ := has_rs S hh
    refine ⟨v, ev, ?_⟩
    refine rdw (bE postE S h) fun w H1 ⟨Hk1, y, ρ1, x1, S1, r1, h1⟩ => ?_
    cases e : ixV ρ1 i y with
    | none => rw [e] at h1; exact h1.elim
    | some z =>
      rw [e] at h1
      unfold ixV at e
      split at e
      · rename_i xs hx
        obtain ⟨p, vs, e1, e2, e3, e4, e5⟩ := S1.1.getOwn hx
        rw [ev] at e1
        cases e1
        unfold ixL at e
        split at e
        · obtain ⟨u, eu, ru⟩ := atI_rv e3 e
          exact .inl ⟨p, vs, _, u, rfl, RV.int.mp r1, SqL.of e2, eu, h1 _ _ u (Ex.refl _) S1.1 ru⟩
        · cases e
      · rename_i x n hx
        split at e
        · rename_i hp
          obtain ⟨w2, e1, r2⟩ := S1.1.get hx hp
          rw [ev] at e1
          cases e1
          exact os_ix _ _ _ _ _ Hk1 H1 Q e S1.1.ex r2 r1 (fun u ru => h1 _ _ u (Ex.refl _) S1.1 ru) fun p ob hp' ru => h1 _ _ _ (Ex.new (S1.1.ex.back hp')) (S1.1.new hp') ru
        · cases e
      · cases e
  · exact h.elim
theorem me_ixV {i : Nat} {x : Str} {b : Expr} {mb : ME} {pos pos' : Pos} (hN : X.N[i]? = some x) (hv : Vis X.env.scope x) (hb : PE X b (rdE c mb)) (hK : c.K = X.K := by rfl) (hs : PlainIx b := by exact fun _ _ => rfl) (hd : (x == ("__debug__" : Str)) = false := by decide) (hcd : (x == ("__classdict__" : Str)) = false := by decide) :
    PE X (.Subscript (.Name x pos') b pos) (rdE c (mIxV i mb)) := PEw (pe_ix ix_seq (pe_var hN hv hd hcd) hb hs) fun _ _ _ q => by rw [← hK]; exact rd_ixV q
def mNo : Env → Res (Option Int × Env) := fun ρ => .ok (none, ρ)
def mPart (a : ME) : Env → Res (Option Int × Env) := fun ρ => (a ρ).bind fun x ρ1 => match x with | .int i => .ok (some i, ρ1) | _ => .stuck
def okP (c : Ct) (F Hk : Hp) (bp : List (Nat × Addr)) (σ : St) (Q : Option Int → Hp → Prop) : Res (Option Int × Env) → Prop
  | .ok (x, ρ') => ∀ Hk' H', Ex Hk Hk' → RS c.K F Hk' H' bp σ ρ' → Q x H'
  | .exc e ρ' => Wish c F Hk bp σ e ρ'
  | .stuck => False
theorem okP.mono {F Hk Hk' : Hp} {bp : List (Nat × Addr)} {σ : St} {Q : Option Int → Hp → Prop} {r : Res (Option Int × Env)} (x : Ex Hk Hk') (h : okP c F Hk bp σ Q r) : okP c F Hk' bp σ Q r := by
  cases r with
  | ok a => exact fun Hk2 H2 x2 => h Hk2 H2 (x.trans x2)
  | exc e ρ => exact Wish.mono x h
  | stuck => exact h
theorem postP {F : Hp} {bp : List (Nat × Addr)} {σ : St} {Q : Option Int → Hp → Prop} : Post c F bp σ fun Hk r => okP c F Hk bp σ Q r := ⟨fun _ _ _ h => h, fun _ h => h, fun _ _ _ x h => okP.mono x h⟩
def rdP (c : Ct) (m : Env → Res (Option Int × Env)) : TO := fun σ H Q => ∃ F Hk bp ρ, At c F Hk H bp σ ρ ∧ okP c F Hk bp σ Q (m ρ)
theorem POw {e : Option Expr} {t t' : TO} (h : PO X e t) (w : ∀ σ H Q, t' σ H Q → t σ H Q) : PO X e t' := ⟨fun pins s σ H Q I q => h.run pins s σ H Q I (w σ H Q q)⟩
theorem mp_none : PO X none (rdP c mNo) := POw po_none fun σ H Q ⟨F, Hk, bp, ρ, S, h⟩ => h _ _ (Ex.refl _) S.1
theorem mp_some {e : Expr} {m : ME} (h : PE X e (rdE c m)) : PO X (some e) (rdP c (mPart m)) := POw (po_some h) fun σ H Q ⟨F, Hk, bp, ρ, S, h⟩ => rdw (bE postP S h) fun v H1 ⟨Hk1, x, ρ1, x1, S1, r1, h1⟩ => by
  cases x with
  | int i => exact ⟨i, RV.int.mp r1, h1 _ _ (Ex.refl _) S1.1⟩
  | _ => exact h1.elim
theorem bP {F Hk H : Hp} {bp : List (Nat × Addr)} {σ : St} {ρ : Env} {β : Type} {P : Hp → Res (β × Env) → Prop} (p : Post c F bp σ P) {a : Env → Res (Option Int × Env)} {k : Option Int → Env → Res (β × Env)} (S : At c F Hk H bp σ ρ) (h : P Hk ((a ρ).bind k)) :
    rdP c a σ H fun b H1 => ∃ Hk1 ρ1, Ex Hk Hk1 ∧ At c F Hk1 H1 bp σ ρ1 ∧ P Hk1 (k b ρ1) := by
  refine ⟨F, Hk, bp, ρ, S, ?_⟩
  cases e : a ρ with
  | stuck => rw [e] at h; exact p.st _ h
  | exc x ρ' => rw [e] at h; exact p.ex _ _ _ h
  | ok q =>
    rw [e] at h
    exact fun Hk1 H1 x1 S1 => ⟨Hk1, q.2, x1, ⟨S1, S.2⟩, p.mono _ _ _ x1 h⟩
def cutM (xs : List MV) (lo hi : Option Int) : List MV := (xs.drop (HT.sIx xs.length 0 lo)).take (HT.sIx xs.length xs.length hi - HT.sIx xs.length 0 lo)
theorem RVs.cut {K : PySem.W.Frag} {H : Hp} {xs : List MV} {vs : List V} (r : RVs K H xs vs) (lo hi : Option Int) : RVs K H (cutM xs lo hi) (cutV vs lo hi) := by
  unfold cutM cutV
  rw [r.length]
  exact (r.drop _).take _
def fSl : MV → Option Int → Option Int → Option MV
  | .lst xs, lo, hi => some (.lst (cutM xs lo hi))
  | .tup xs, lo, hi => some (.tup (cutM xs lo hi))
  | .str z, lo, hi => if szOk z.length then some (.str (cutS z lo hi)) else none
  | _, _, _ => none
def rSlM (K : PySem.W.Frag) : V → Option Int → Option Int → Hp → VK → Prop := fun x lo hi H Q => rSlL K x lo hi H Q ∨ rSlA K x lo hi H Q ∨ rSlS x lo hi H Q
theorem sl_M : SlR X (rSlM X.K) := SlR.or sl_list (SlR.or sl_tupA sl_str)
theorem whole_cut {xs : List MV} {lo hi : Option Int} (h : HT.sIx xs.length 0 lo = 0 ∧ HT.sIx xs.length xs.length hi = xs.length) : cutM xs lo hi = xs := by
  unfold cutM
  rw [h.1, h.2]
  simp
theorem os_sl {K : PySem.W.Frag} {x z : MV} {lo hi : Option Int} {v : V} {Hk H : Hp} {Q : VK} (e : fSl x lo hi = some z) (ex : Ex Hk H) (r1 : RV K Hk x v) (q : ∀ u, RV K Hk z u → Q u H)
    (qn : ∀ p o, H p = none → RV K (upd Hk p o) z (.ref p) → Q (.ref p) (upd H p o)) : rSlM K v lo hi H Q := by
  unfold fSl at e
  split at e
  · cases e
    obtain ⟨p1, vs, rfl, h1, s1⟩ := RV.lst.mp r1
    refine .inl ⟨p1, vs, rfl, SqL.of (ex _ _ h1), fun p hp => qn p _ hp ?_⟩
    exact RV.lst.mpr ⟨p, _, rfl, upd_same, (s1.cut lo hi).mono (Ex.new (ex.back hp))⟩
  · cases e
    obtain ⟨p1, vs, rfl, h1, s1⟩ := RV.tup.mp r1
    refine .inr (.inl ⟨p1, vs, rfl, ex_t ex h1, fun hw => ?_, fun hw p hp => qn p _ hp ?_⟩)
    · rw [s1.length] at hw
      rw [whole_cut hw] at q
      exact q _ r1
    · exact RV.tup.mpr ⟨p, _, rfl, SqT.of upd_same, (s1.cut lo hi).mono (Ex.new (ex.back hp))⟩
  · split at e
    · rename_i hz
      cases e
      exact .inr (.inr ⟨_, RV.str.mp r1, szOk_iff.mp hz, q _ (RV.str.mpr rfl)⟩)
    · cases e
  · cases e
def mSl (a : ME) (l h : Env → Res (Option Int × Env)) : ME := fun ρ => (a ρ).bind fun x ρ1 => (l ρ1).bind fun i ρ2 => (h ρ2).bind fun j ρ3 => match fSl x i j with | some z => .ok (z, ρ3) | none => .stuck
theorem rd_sl {a : ME} {l h' : Env → Res (Option Int × Env)} {σ : St} {H : Hp} {Q : VK} (h : rdE c (mSl a l h') σ H Q) : tSl (rSlM c.K) (rdE c a) (rdP c l) (rdP c h') σ H Q := by
  obtain ⟨F, Hk, bp, ρ, S, h⟩ := h
  refine rdw (bE postE S h) fun v H1 ⟨Hk1, x, ρ1, x1, S1, r1, h1⟩ => ?_
  have w : ∀ {m : Env → Res (Option Int × Env)} {σ : St} {H : Hp} {Q Q' : Option Int → Hp → Prop}, rdP c m σ H Q → (∀ v H, Q v H → Q' v H) → rdP c m σ H Q' := fun {m σ H Q Q'} ⟨F, Hk, bp, ρ, S, q⟩ w => ⟨F, Hk, bp, ρ, S, by
    cases e : m ρ with
    | ok a => rw [e] at q; exact fun Hk2 H2 x S => w _ _ (q Hk2 H2 x S)
    | exc e' ρ => rw [e] at q; exact q
    | stuck => rw [e] at q; exact q⟩
  refine w (bP postE S1 h1) fun i H2 ⟨Hk2, ρ2, x2, S2, h2⟩ => ?_
  refine w (bP postE S2 h2) fun j H3 ⟨Hk3, ρ3, x3, S3, h3⟩ => ?_
  have h3 : okE c F Hk3 bp σ Q (match fSl x i j with | some z => .ok (z, ρ3) | none => .stuck) := h3
  cases e : fSl x i j with
  | none => rw [e] at h3; exact h3.elim
  | some z =>
    rw [e] at h3
    exact os_sl e S3.1.ex (RV.mono (x2.trans x3) _ _ r1) (fun u ru => h3 _ _ u (Ex.refl _) S3.1 ru) fun p ob hp ru => h3 _ _ _ (Ex.new (S3.1.ex.back hp)) (S3.1.new hp) ru
theorem me_sl {a : Expr} {lo hi : Option Expr} {ma : ME} {ml mh : Env → Res (Option Int × Env)} {pos p2 : Pos} (ha : PE X a (rdE c ma)) (hl : PO X lo (rdP c ml)) (hh : PO X hi (rdP c mh)) (hK : c.K = X.K := by rfl) : PE X (.Subscript a (.Slice lo hi none p2) pos) (rdE c (mSl ma ml mh)) :=
  PEw (pe_slice sl_M ha hl hh) fun _ _ _ q => by rw [← hK]; exact rd_sl q
section
variable {a b : Expr} {ma mb : ME} {pos : Pos}
theorem me_add (ha : PE X a (rdE c ma)) (hb : PE X b (rdE c mb)) (hK : c.K = X.K := by rfl) : PE X (.BinOp a .Add b pos) (rdE c (mOp fAdd ma mb)) := me_op op_addM (by rw [← hK]; exact os_add) ha hb
theorem me_sub (ha : PE X a (rdE c ma)) (hb : PE X b (rdE c mb)) : PE X (.BinOp a .Sub b pos) (rdE c (mOp fSub ma mb)) := me_op op_sub os_sub ha hb
theorem me_mul (ha : PE X a (rdE c ma)) (hb : PE X b (rdE c mb)) (hK : c.K = X.K := by rfl) : PE X (.BinOp a .Mult b pos) (rdE c (mOp fMul ma mb)) := me_op op_mulM (by rw [← hK]; exact os_mul) ha hb
theorem me_div (ha : PE X a (rdE c ma)) (hb : PE X b (rdE c mb)) : PE X (.BinOp a .FloorDiv b pos) (rdE c (mOp fDiv ma mb)) := me_op op_divM os_div ha hb
theorem me_mod (ha : PE X a (rdE c ma)) (hb : PE X b (rdE c mb)) : PE X (.BinOp a .Mod b pos) (rdE c (mOp fMod ma mb)) := me_op op_modN os_mod ha hb
theorem me_pow (ha : PE X a (rdE c ma)) (hb : PE X b (rdE c mb)) : PE X (.BinOp a .Pow b pos) (rdE c (mOp fPow ma mb)) := me_op op_pow os_pow ha hb
end
end
end Tm
set_option Elab.async false
set_option linter.all false
set_option maxRecDepth 100000
set_option maxHeartbeats 2000000
namespace Tm
open PySem L2
open Evl (Ex ex_rd ex_l ex_t)
section
variable {X : Cx} {c : Ct}
abbrev MG := MV → Env → Option Env
def okG (c : Ct) (F Hk : Hp) (bp : List (Nat × Addr)) (Q : St → Hp → Prop) : Option Env → Prop
  | some ρ' => ∀ Hk' H' σ', Ex Hk Hk' → RS c.K F Hk' H' bp σ' ρ' → Q σ' H'
  | none => False
def rdG (c : Ct) (m : MG) : TG := fun v σ H Q => ∃ F Hk bp ρ x, At c F Hk H bp σ ρ ∧ RV c.K Hk x v ∧ okG c F Hk bp Q (m x ρ)
def rdGs (c : Ct) (m : List MV → Env → Option Env) : TGs := fun vs σ H Q => ∃ F Hk bp ρ xs, At c F Hk H bp σ ρ ∧ RVs c.K Hk xs vs ∧ okG c F Hk bp Q (m xs ρ)
theorem PGw {e : Expr} {t t' : TG} (h : PG X e t) (w : ∀ v σ H Q, t' v σ H Q → t v σ H Q) : PG X e t' := ⟨fun pins s σ H v u Q I r q => h.run pins s σ H v u Q I r (w v σ H Q q)⟩
theorem PGsw {e : List Expr} {t t' : TGs} (h : PGs X e t) (w : ∀ v σ H Q, t' v σ H Q → t v σ H Q) : PGs X e t' := ⟨fun pins s σ H v u Q I r q => h.run pins s σ H v u Q I r (w v σ H Q q)⟩
def gSet (i : Nat) : MG := fun x ρ => if i < ρ.length then some (ρ.set i (some x)) else none
theorem nb {bp : List (Nat × Addr)} {bs : List Nat} {i : Nat} (e : bp.map (·.1) = bs) (h : bs.contains i = false) : ∀ q ∈ bp, q.1 ≠ i := fun q hq z => by
  have m : i ∈ bs := by rw [← e, ← z]; exact List.mem_map.mpr ⟨q, hq, rfl⟩
  rw [List.contains_eq_mem] at h
  simp [m] at h
theorem rd_gname {i : Nat} (hb : c.bs.contains i = false) {v : V} {σ : St} {H : Hp} {Q : St → Hp → Prop} (h : rdG c (gSet i) v σ H Q) : gName i v σ H Q := by
  obtain ⟨F, Hk, bp, ρ, y, S, r, h⟩ := h
  unfold gSet at h
  split at h
  · rename_i hl
    exact h _ _ _ (Ex.refl _) (S.1.set hl r (nb S.2.1 hb))
  · exact h.elim
theorem mg_name {i : Nat} {x : Str} {pos : Pos} (hN : X.N.Nodup) (hi : X.N[i]? = some x) (hx : Loc X.env.scope x) (hb : c.bs.contains i = false := by rfl) (hf : X.fn x = true ∨ X.env.scope.names.lookup x = some .local := by first | exact .inl rfl | exact .inr rfl | assumption) : PG X (.Name x pos) (rdG c (gSet i)) :=
  PGw (pg_name hN hi hx hf) fun v σ H Q h => rd_gname hb h
def gsNil : List MV → Env → Option Env := fun xs ρ => match xs with | [] => some ρ | _ => none
def gsCons (a : MG) (b : List MV → Env → Option Env) : List MV → Env → Option Env := fun xs ρ => match xs with
  | x :: r => (match a x ρ with | some ρ1 => b r ρ1 | none => none)
  | [] => none
def gTp (n : Nat) (b : List MV → Env → Option Env) : MG := fun x ρ => match x with
  | .tup xs => if xs.length = n then b xs ρ else none
  | .lst xs => if xs.length = n then b xs ρ else none
  | _ => none
theorem PGor {e : Expr} {t t' : TG} (h : PG X e t) (g : PG X e t') : PG X e fun v σ H Q => t v σ H Q ∨ t' v σ H Q := ⟨fun pins s σ H v u Q I r q => by
  rcases q with q | q
  · exact h.run pins s σ H v u Q I r q
  · exact g.run pins s σ H v u Q I r q⟩
theorem mgs_nil : PGs X [] (rdGs c gsNil) := PGsw pgs_nil fun vs σ H Q ⟨F, Hk, bp, ρ, xs, S, r, h⟩ => by
  cases xs with
  | nil => exact ⟨RVs.nil.mp r, h _ _ _ (Ex.refl _) S.1⟩
  | cons x xs => exact h.elim
theorem mgs_cons {e : Expr} {es : List Expr} {a : MG} {b : List MV → Env → Option Env} (h1 : PG X e (rdG c a)) (h2 : PGs X es (rdGs c b)) (hs : (assignEach (e :: es) X.env).map (·.2) = assign e X.env :: (assignEach es X.env).map (·.2) := by rfl) : PGs X (e :: es) (rdGs c (gsCons a b)) := PGsw (pgs_cons h1 h2 hs) fun vs σ H Q ⟨F, Hk, bp, ρ, xs, S, r, h⟩ => by
  cases xs with
  | nil => exact h.elim
  | cons x xs =>
    obtain ⟨v, us, rfl, r1, r2⟩ := RVs.cons.mp r
    refine ⟨v, us, rfl, F, Hk, bp, ρ, x, S, r1, ?_⟩
    have h : okG c F Hk bp Q (match a x ρ with | some ρ1 => b xs ρ1 | none => none) := h
    cases e : a x ρ with
    | none => rw [e] at h; exact h
    | some ρ1 =>
      rw [e] at h
      intro Hk1 H1 σ1 x1 S1
      refine ⟨F, Hk1, bp, ρ1, xs, ⟨S1, S.2⟩, r2.mono x1, ?_⟩
      have h : okG c F Hk bp Q (b xs ρ1) := h
      cases e2 : b xs ρ1 with
      | none => rw [e2] at h; exact h
      | some ρ2 => rw [e2] at h; exact fun Hk2 H2 σ2 x2 => h Hk2 H2 σ2 (x1.trans x2)
theorem mg_tup {es : List Expr} {k : Nat} {b : List MV → Env → Option Env} {n : Nat} {pos : Pos} (hc : X.calm = true) (h : PGs X es (rdGs c b)) (hK : c.K = X.K := by rfl)
    (hn : (assignEach es X.env).length = n := by rfl) (hst : (assignEach es X.env).findIdx? (·.1) = none := by rfl) : PG X (.Tuple es k pos) (rdG c (gTp n b)) := PGw (PGor (pg_tup hc h hn hst) (pg_unl hc h hn hst)) fun v σ H Q ⟨F, Hk, bp, ρ, x, S, r, h⟩ => by
  unfold gTp at h
  split at h
  · split at h
    · rename_i xs hl
      obtain ⟨a, vs, rfl, h1, s1⟩ := RV.tup.mp r
      rw [← hK]
      exact .inl ⟨a, vs, rfl, ex_t S.1.ex h1, by rw [s1.length]; exact hl, F, Hk, bp, ρ, xs, S, s1, h⟩
    · exact h.elim
  · split at h
    · rename_i xs hl
      obtain ⟨a, vs, rfl, h1, s1⟩ := RV.lst.mp r
      rw [← hK]
      exact .inr ⟨a, vs, rfl, SqL.of (S.1.ex _ _ h1), by rw [s1.length]; exact hl, F, Hk, bp, ρ, xs, S, s1, h⟩
    · exact h.elim
  · exact h.elim
def mAsg (a : ME) (g : MG) : MS := fun ρ => (a ρ).bind fun x ρ1 => match g x ρ1 with | some ρ2 => .ok (.nx, ρ2) | none => .stuck
theorem rd_asg {a : ME} {g : MG} {D : Ends} {σ : St} {H : Hp} (h : rdS c (mAsg a g) D σ H) : tAsg (rdE c a) (rdG c g) D σ H := by
  obtain ⟨F, Hk, bp, ρ, S, h⟩ := h
  refine rdw (bE (postS (σ := σ)) S h) fun v H1 ⟨Hk1, x, ρ1, x1, S1, r1, h1⟩ => ⟨F, Hk1, bp, ρ1, x, S1, r1, ?_⟩
  have h1 : okS c F Hk1 bp D (match g x ρ1 with | some ρ2 => .ok (.nx, ρ2) | none => .stuck) := h1
  cases e : g x ρ1 with
  | none => rw [e] at h1; exact h1
  | some ρ2 => rw [e] at h1; exact h1
theorem ms_asg {tg e : Expr} {a : ME} {g : MG} {pos : Pos} (he : PE X e (rdE c a)) (hg : PG X tg (rdG c g)) (hs : swapsWithSole [tg] e pos.line X.env = pure false := by rfl) (hw : swappedStores [tg] e X.env = pure none := by rfl)
    (h1 : (assignEach [tg] X.env).map (·.2) = [assign tg X.env] := by rfl) : PS X (.Assign [tg] e pos) (rdS c (mAsg a g)) := PSw (ps_asg he hg hs hw h1) fun _ _ _ h => rd_asg h
theorem rd_set {i : Nat} (hb : c.bs.contains i = false) {a : ME} {D : Ends} {σ : St} {H : Hp} (h : rdS c (mAsg a (gSet i)) D σ H) : tAsg (rdE c a) (gName i) D σ H := rdw (rd_asg h) fun _ _ q => rd_gname hb q
theorem ms_set {i : Nat} {x : Str} {e : Expr} {a : ME} {pos pos' : Pos} (hN : X.N.Nodup) (hi : X.N[i]? = some x) (hx : Loc X.env.scope x) (he : PE X e (rdE c a)) (hb : c.bs.contains i = false := by rfl) (hs : swapsWith e (some (.Name x pos')) pos.line X.env = pure false := by rfl)
    (hf : X.fn x = true ∨ X.env.scope.names.lookup x = some .local := by first | exact .inl rfl | exact .inr rfl | assumption) : PS X (.Assign [.Name x pos'] e pos) (rdS c (mAsg a (gSet i))) := PSw (ps_set hN hi hx he hs hf) fun _ _ _ h => rd_set hb h
def mSetO (i : Nat) (a : ME) : MS := fun ρ => (a ρ).bind fun x ρ1 => if i < ρ1.length then .ok (.nx, ρ1.set i (some x)) else .stuck
theorem rd_setO {i : Nat} {a : ME} {D : Ends} {σ : St} {H : Hp} (hb : c.bs.contains i = false) (h : rdS c (mSetO i a) D σ H) : tAsg (rdO c a) (gName i) D σ H := by
  obtain ⟨F, Hk, bp, ρ, S, h⟩ := h
  refine rdOw (bO (postS (σ := σ)) S h) fun v H1 ⟨Hk1, x, ρ1, x1, S1, h1⟩ => ?_
  split at h1
  · rename_i hl
    refine h1 _ _ _ (Ex.refl _) (S1.take hl fun q hq => ⟨nb S.2.1 hb q hq, ?_⟩)
    have l1 : σ.length = ρ1.length := by have := S1.len; simpa using this
    rw [← l1]
    exact lt_get (S.1.bor q hq)
  · exact h1.elim
theorem ms_setO {i : Nat} {x : Str} {e : Expr} {a : ME} {pos pos' : Pos} (hN : X.N.Nodup) (hi : X.N[i]? = some x) (hx : Loc X.env.scope x) (he : PE X e (rdO c a)) (hb : c.bs.contains i = false := by rfl) (hs : swapsWith e (some (.Name x pos')) pos.line X.env = pure false := by rfl)
    (hf : X.fn x = true ∨ X.env.scope.names.lookup x = some .local := by first | exact .inl rfl | exact .inr rfl | assumption) : PS X (.Assign [.Name x pos'] e pos) (rdS c (mSetO i a)) := PSw (ps_set hN hi hx he hs hf) fun _ _ _ h => rd_setO hb h
def mPass : MS := fun ρ => .ok (.nx, ρ)
def mSeq (a b : MS) : MS := fun ρ => (a ρ).bind fun f ρ1 => match f with | .nx => b ρ1 | f => .ok (f, ρ1)
theorem okS.seq {F Hk : Hp} {bp : List (Nat × Addr)} {D : Ends} {b : MS} (eb : bp.map (·.1) = c.bs ∧ c.J F bp) {r : Res (Fl × Env)} (h : okS c F Hk bp D (r.bind fun f ρ1 => match f with | .nx => b ρ1 | f => .ok (f, ρ1))) : okS c F Hk bp { D with nx := rdS c b D } r := by
  cases r with
  | stuck => exact h
  | exc e ρ => exact h
  | ok q =>
    obtain ⟨f, ρ1⟩ := q
    cases f with
    | nx => exact fun Hk1 H1 σ1 x1 S1 => ⟨F, Hk1, bp, ρ1, ⟨S1, eb⟩, okS.mono x1 h⟩
    | br => exact h
    | ct => exact h
    | rt x => exact h
theorem rd_seq {a b : MS} {D : Ends} {σ : St} {H : Hp} (h : rdS c (mSeq a b) D σ H) : tSeq (rdS c a) (rdS c b) D σ H := by
  obtain ⟨F, Hk, bp, ρ, S, h⟩ := h
  exact ⟨F, Hk, bp, ρ, S, okS.seq S.2 h⟩
theorem mss_nil : PSs X [] (rdS c mPass) := PSsw pss_nil fun D σ H ⟨F, Hk, bp, ρ, S, h⟩ => h _ _ _ (Ex.refl _) S.1
theorem mss_one {st : Stmt} {a : MS} (h : PS X st (rdS c a)) : PSs X [st] (rdS c a) := pss_one h
theorem mss_cons {st : Stmt} {r : List Stmt} {a b : MS} (h : PS X st (rdS c a)) (g : PSs X r (rdS c b)) : PSs X (st :: r) (rdS c (mSeq a b)) := PSsw (pss_cons h g) fun _ _ _ q => rd_seq q
def mIfS (t : MT) (a b : MS) : MS := fun ρ => (t ρ).bind fun x ρ1 => if x then a ρ1 else b ρ1
theorem ms_if {t : Expr} {a b : List Stmt} {mt : MT} {ma mb : MS} {pos : Pos} (ht : PT X t (rdT c mt)) (ha : PSs X a (rdS c ma)) (hb : PSs X b (rdS c mb)) : PS X (.If t a b pos) (rdS c (mIfS mt ma mb)) := PSw (ps_if ht ha hb) fun D σ H ⟨F, Hk, bp, ρ, S, h⟩ => by
  refine rdTw (bT (postS (σ := σ)) S h) fun k H1 ⟨Hk1, ρ1, x1, S1, h1⟩ => ?_
  cases k with
  | true => rw [if_pos rfl] at h1 ⊢; exact ⟨F, Hk1, bp, ρ1, S1, h1⟩
  | false => rw [if_neg (by decide)] at h1 ⊢; exact ⟨F, Hk1, bp, ρ1, S1, h1⟩
def mRet (a : ME) : MS := fun ρ => (a ρ).bind fun x ρ1 => .ok (.rt x, ρ1)
theorem ms_ret {e : Expr} {a : ME} {pos : Pos} (h : PE X e (rdE c a)) : PS X (.Return (some e) pos) (rdS c (mRet a)) := PSw (ps_ret h) fun D σ H ⟨F, Hk, bp, ρ, S, h⟩ =>
  rdw (bE (postS (σ := σ)) S h) fun v H1 ⟨Hk1, x, ρ1, x1, S1, r1, h1⟩ => h1 _ _ _ _ (Ex.refl _) (fun q hq => lt_get (S.1.bor q hq)) (S1.1.push r1)
theorem ms_retO {e : Expr} {a : ME} {pos : Pos} (h : PE X e (rdO c a)) : PS X (.Return (some e) pos) (rdS c (mRet a)) := PSw (ps_ret h) fun D σ H ⟨F, Hk, bp, ρ, S, h⟩ =>
  rdOw (bO (postS (σ := σ)) S h) fun v H1 ⟨Hk1, x, ρ1, x1, S1, h1⟩ => h1 _ _ _ _ (Ex.refl _) (fun q hq => lt_get (S.1.bor q hq)) S1
def mDrop (a : ME) : MS := fun ρ => (a ρ).bind fun _ ρ1 => .ok (.nx, ρ1)
theorem ms_expr {e : Expr} {a : ME} {pos : Pos} (h : PE X e (rdE c a)) (hs : swapsWith e none pos.line X.env = pure false := by rfl) : PS X (.Expr e pos) (rdS c (mDrop a)) := PSw (ps_expr h hs) fun D σ H ⟨F, Hk, bp, ρ, S, h⟩ =>
  rdw (bE (postS (σ := σ)) S h) fun v H1 ⟨Hk1, x, ρ1, x1, S1, r1, h1⟩ => h1 _ _ _ (Ex.refl _) S1.1
def mMove (i : Nat) : ME := fun ρ => match ρ[i]? with
  | some (some (.obj _ _)) => .stuck
  | some (some x) => .ok (x, ρ.set i none)
  | _ => .stuck
theorem rd_move {i : Nat} (hb : c.bs.contains i = false) {σ : St} {H : Hp} {Q : VK} (h : rdO c (mMove i) σ H Q) : tVar i σ H Q := by
  obtain ⟨F, Hk, bp, ρ, S, h⟩ := h
  unfold mMove at h
  split at h
  · exact h.elim
  · rename_i x n hx
    obtain ⟨ow, s⟩ := S.1.ow
    obtain ⟨v, ev, ov⟩ := s.s i x hx
    have li := lt_get hx
    refine ⟨v, ev, h Hk H v (Ex.refl _) ?_⟩
    refine ⟨by simp [S.1.len], S.1.ex, S.1.fr, S.1.frk, ⟨put (put ow i []) ρ.length (ow i), ?_⟩, S.1.bor_app _⟩
    have nl : i ≠ ρ.length := Nat.ne_of_lt li
    have mem : ∀ j a, a ∈ put (put ow i []) ρ.length (ow i) j → (j = ρ.length ∧ a ∈ ow i) ∨ (j ≠ i ∧ j < ρ.length ∧ a ∈ ow j) := fun j a h => by
      by_cases e : j = ρ.length
      · rw [e, put_same] at h; exact .inl ⟨e, h⟩
      · rw [put_ne e] at h
        by_cases e2 : j = i
        · rw [e2, put_same] at h; cases h
        · rw [put_ne e2] at h
          exact .inr ⟨e2, s.w j (by intro z; rw [z] at h; cases h), h⟩
    refine ⟨fun j y hj => ?_, fun j a hj => ?_, fun j hj => ?_, fun j k a hjk hj hk => ?_⟩
    · rcases app_get hj with ⟨e1, e2⟩ | ⟨lt, e2⟩
      · cases e2
        rw [List.length_set] at e1
        refine ⟨v, by rw [e1, ← S.1.len]; simp, ?_⟩
        rw [e1, put_same]; exact ov
      · rcases set_get e2 with ⟨_, e3⟩ | ⟨ne, e3⟩
        · cases e3
        · obtain ⟨w, w1, w2⟩ := s.s j y e3
          have lj := lt_get e3
          exact ⟨w, by rw [List.getElem?_append_left (by rw [S.1.len]; exact lj)]; exact w1, by rw [put_ne (Nat.ne_of_lt lj), put_ne ne]; exact w2⟩
    · rcases mem j a hj with ⟨_, m⟩ | ⟨_, _, m⟩
      · exact s.f i a m
      · exact s.f j a m
    · cases e : put (put ow i []) ρ.length (ow i) j with
      | nil => exact (hj e).elim
      | cons a r =>
        rcases mem j a (by rw [e]; simp) with ⟨e, _⟩ | ⟨_, l, _⟩
        · rw [e]; simp
        · simp; omega
    · rcases mem j a hj with ⟨e1, m⟩ | ⟨e1, l1, m⟩ <;> rcases mem k a hk with ⟨e2, m2⟩ | ⟨e2, l2, m2⟩
      · exact hjk (e1.trans e2.symm)
      · exact s.d i k a (Ne.symm e2) m m2
      · exact s.d j i a e1 m m2
      · exact s.d j k a hjk m m2
  · exact h.elim
theorem mo_var {i : Nat} {x : Str} {pos : Pos} (hN : X.N[i]? = some x) (hv : Vis X.env.scope x) (hb : c.bs.contains i = false := by rfl) (hd : (x == ("__debug__" : Str)) = false := by decide) (hcd : (x == ("__classdict__" : Str)) = false := by decide) : PE X (.Name x pos) (rdO c (mMove i)) :=
  PEw (pe_var hN hv hd hcd) fun _ _ _ h => rd_move hb h
end
end Tm
set_option Elab.async false
set_option linter.all false
set_option maxRecDepth 100000
set_option maxHeartbeats 2000000
namespace Tm
open PySem L2 PySem.Spec PyProof.Rows
structure ZSrc (P : Program) (w : World) (K : PySem.W.Frag) (it : Addr) (fp : List Addr) (S : Hp → List V → Prop) (tn : Nat → Heap → Prop) : Prop where
  obj : ∀ i h, tn i h → ∃ o, h.get? it = some o ∧ ∀ v, o.data ≠ .cell v
  keep : ∀ i h h', tn i h → (∀ o, h.get? it = some o → h'.get? it = some o) → tn i h'
  inj : ∀ (X : Cx), X.K = K → ∀ pins (s : Shared) σ H xs ys, Inv X pins σ H s → S H xs → S H ys → xs = ys
  draw : ∀ (X : Cx), X.prog = P → X.w = w → X.K = K → X.calm = true → ∀ pins (s : Shared) σ H xs i, Inv X pins σ H s → S H xs → tn i s.heap →
    ∃ (Y : Nat → Value → Prop) (St : Nat → Heap → Prop), Draws P w X.A.in1 it fp xs.length Y St ∧ St i s.heap ∧ (∀ j u, Y j u → ∃ x, xs[j]? = some x ∧ RelV x u) ∧ ∀ j h, St j h → tn j h
end Tm
set_option Elab.async false
set_option linter.all false
set_option maxRecDepth 100000
set_option maxHeartbeats 2000000
namespace Tm
open PySem L2
open Evl (Ex ex_rd ex_l ex_t)
structure Walks (K : PySem.W.Frag) (Hk : Hp) (J : It) (items : List MV) : Prop where
  go : ∀ i H, Ex Hk H → i < items.length → J.go i H
  stop : ∀ H, Ex Hk H → J.stop items.length H
  yld : ∀ i H x H', Ex Hk H → i < items.length → J.yld i H x H' → ∃ y, items[i]? = some y ∧ ((H' = H ∧ RV K Hk y x) ∨ ∃ p vs ys, H p = none ∧ H' = upd H p (.tup vs) ∧ x = .ref p ∧ y = .tup ys ∧ RVs K Hk ys vs)
abbrev MI := Env → Res (List MV × Env)
def okI (c : Ct) (F Hk : Hp) (bp : List (Nat × Addr)) (σ : St) (R : It → Hp → Prop) : Res (List MV × Env) → Prop
  | .ok (xs, ρ') => ∀ Hk' H' J, Ex Hk Hk' → RS c.K F Hk' H' bp σ ρ' → Walks c.K Hk' J xs → R J H'
  | .exc e ρ' => Wish c F Hk bp σ e ρ'
  | .stuck => False
theorem okI.mono {c : Ct} {F Hk Hk' : Hp} {bp : List (Nat × Addr)} {σ : St} {Q : It → Hp → Prop} {r : Res (List MV × Env)} (x : Ex Hk Hk') (h : okI c F Hk bp σ Q r) : okI c F Hk' bp σ Q r := by
  cases r with
  | ok a => exact fun Hk2 H2 v x2 => h Hk2 H2 v (x.trans x2)
  | exc e ρ => exact Wish.mono x h
  | stuck => exact h
theorem postI {c : Ct} {F : Hp} {bp : List (Nat × Addr)} {σ : St} {R : It → Hp → Prop} : Post c F bp σ fun Hk r => okI c F Hk bp σ R r := ⟨fun _ _ _ h => h, fun _ h => h, fun _ _ _ x h => okI.mono x h⟩
def rdI (c : Ct) (m : MI) : TI := fun σ H R => ∃ F Hk bp ρ, At c F Hk H bp σ ρ ∧ okI c F Hk bp σ R (m ρ)
theorem PIw {X : Cx} {tg e : Expr} {t t' : TI} (h : PI X tg e t) (w : ∀ σ H R, t' σ H R → t σ H R) : PI X tg e t' := ⟨fun pins s σ H R I q => h.run pins s σ H R I (w σ H R q)⟩
theorem walks_l {K : PySem.W.Frag} {Hk : Hp} {a : Addr} {xs : List MV} {vs : List V} (h : SqL K Hk a vs) (r : RVs K Hk xs vs) : Walks K Hk (Itl K a) xs := by
  refine ⟨fun i H e hi => ?_, fun H e => ⟨vs, ex_l e h, by rw [r.length]; exact Nat.le_refl _⟩, fun i H x H' e hi y => ?_⟩
  · obtain ⟨v, hv, _⟩ := r.get (i := i) (x := xs[i]) (by simp [hi])
    exact ⟨vs, v, ex_l e h, hv⟩
  · obtain ⟨v, hv, rv⟩ := r.get (i := i) (x := xs[i]) (by simp [hi])
    obtain ⟨e1, y⟩ := y
    have := y vs (ex_l e h)
    rw [hv] at this
    cases this
    exact ⟨xs[i], by simp [hi], .inl ⟨e1, rv⟩⟩
theorem walks_t {K : PySem.W.Frag} {Hk : Hp} {a : Addr} {xs : List MV} {vs : List V} (h : SqT K Hk a vs) (r : RVs K Hk xs vs) : Walks K Hk (Itt K a) xs := by
  refine ⟨fun i H e hi => ?_, fun H e => ⟨vs, ex_t e h, by rw [r.length]; exact Nat.le_refl _⟩, fun i H x H' e hi y => ?_⟩
  · obtain ⟨v, hv, _⟩ := r.get (i := i) (x := xs[i]) (by simp [hi])
    exact ⟨vs, v, ex_t e h, hv⟩
  · obtain ⟨v, hv, rv⟩ := r.get (i := i) (x := xs[i]) (by simp [hi])
    obtain ⟨e1, y⟩ := y
    have := y vs (ex_t e h)
    rw [hv] at this
    cases this
    exact ⟨xs[i], by simp [hi], .inl ⟨e1, rv⟩⟩
def rngM (lo c : Int) (n : Nat) : List MV := (List.range n).map fun i => .int (lo + (i : Nat) * c)
theorem rngM_get {lo c : Int} {n i : Nat} (h : i < n) : (rngM lo c n)[i]? = some (.int (lo + (i : Nat) * c)) := by
  unfold rngM
  rw [List.getElem?_map, List.getElem?_range h]; rfl
theorem rngM_len {lo c : Int} {n : Nat} : (rngM lo c n).length = n := by simp [rngM]
theorem walks_r {K : PySem.W.Frag} {Hk : Hp} {lo : Int} {n : Nat} : Walks K Hk (Itr lo n) (rngM lo 1 n) := by
  refine ⟨fun i H e hi => by rw [rngM_len] at hi; exact hi, fun H e => by rw [rngM_len]; exact Nat.le_refl n, fun i H x H' e hi y => ?_⟩
  rw [rngM_len] at hi
  obtain ⟨e1, e2⟩ := y
  exact ⟨_, rngM_get hi, .inl ⟨e1, by rw [e2, Int.mul_one]; exact RV.int.mpr rfl⟩⟩
def signsM (z : Str) : List MV := z.cps.toList.map fun c => .str ⟨#[c]⟩
theorem walks_s {K : PySem.W.Frag} {Hk : Hp} {z : Str} : Walks K Hk (Its z) (signsM z) := by
  have l : (signsM z).length = z.cps.size := by simp [signsM]
  refine ⟨fun i H e hi => by rw [l] at hi; exact hi, fun H e => by rw [l]; exact Nat.le_refl _, fun i H x H' e hi y => ?_⟩
  obtain ⟨e1, ch, e2, e3⟩ := y
  refine ⟨.str ⟨#[ch]⟩, ?_, .inl ⟨e1, by rw [e3]; exact RV.str.mpr rfl⟩⟩
  unfold signsM
  rw [List.getElem?_map, Array.getElem?_toList, e2]; rfl
section
variable {X : Cx} {c : Ct} {tg : Expr}
def itemsOf : MV → Option (List MV)
  | .lst xs => some xs
  | .tup xs => some xs
  | .scr ns => some (ns.map .int)
  | .str z => some (signsM z)
  | _ => none
def mItV (a : ME) : MI := fun ρ => (a ρ).bind fun x ρ1 => match itemsOf x with | some xs => .ok (xs, ρ1) | none => .stuck
theorem mi_val {e : Expr} {a : ME} (h : PE X e (rdE c a)) (hK : c.K = X.K := by rfl) : PI X tg e (rdI c (mItV a)) := by
  refine ⟨fun pins s σ H R I q => ?_⟩
  obtain ⟨F, Hk, bp, ρ, S, q⟩ := q
  cases ea : a ρ with
  | stuck => unfold mItV at q; rw [ea] at q; exact q.elim
  | exc x ρ1 =>
    have z : rdE c a σ H fun _ _ => False := ⟨F, Hk, bp, ρ, S, by
      unfold mItV at q; rw [ea] at q ⊢; exact q⟩
    exact (pi_str h).run pins s σ H R I (rdw z fun _ _ f => f.elim)
  | ok p =>
    obtain ⟨x, ρ1⟩ := p
    have q' : okI c F Hk bp σ R (match itemsOf x with | some xs => .ok (xs, ρ1) | none => .stuck) := by unfold mItV at q; rw [ea] at q; exact q
    have ok : ∀ Q : VK, (∀ Hk' H' v, Ex Hk Hk' → RS c.K F Hk' H' bp σ ρ1 → RV c.K Hk' x v → Q v H') → rdE c a σ H Q := fun Q k => ⟨F, Hk, bp, ρ, S, by rw [ea]; exact k⟩
    cases x with
    | lst xs =>
      refine (pi_list h).run pins s σ H R I (ok _ fun Hk1 H1 v x1 S1 r1 => ?_)
      obtain ⟨p, vs, rfl, h1, s1⟩ := RV.lst.mp r1
      refine ⟨p, rfl, ⟨vs, SqL.of (S1.ex _ _ h1)⟩, ?_⟩
      rw [← hK]
      exact q' Hk1 H1 _ x1 S1 (walks_l (SqL.of h1) s1)
    | tup xs =>
      refine (pi_tup h).run pins s σ H R I (ok _ fun Hk1 H1 v x1 S1 r1 => ?_)
      obtain ⟨p, vs, rfl, h1, s1⟩ := RV.tup.mp r1
      refine ⟨p, rfl, ⟨vs, by rw [← hK]; exact ex_t S1.ex h1⟩, ?_⟩
      rw [← hK]
      exact q' Hk1 H1 _ x1 S1 (walks_t h1 s1)
    | scr ns =>
      refine (pi_list h).run pins s σ H R I (ok _ fun Hk1 H1 v x1 S1 r1 => ?_)
      obtain ⟨p, rfl, h1⟩ := RV.scr.mp r1
      refine ⟨p, rfl, ⟨_, by rw [← hK]; exact ex_l S1.ex h1⟩, ?_⟩
      rw [← hK]
      exact q' Hk1 H1 _ x1 S1 (walks_l h1 (RVs.ints.mpr rfl))
    | str z =>
      refine (pi_str h).run pins s σ H R I (ok _ fun Hk1 H1 v x1 S1 r1 => ?_)
      exact ⟨z, RV.str.mp r1, q' Hk1 H1 _ x1 S1 walks_s⟩
    | _ => exact q'.elim
def inR (i : Int) : Bool := decide (-(2 ^ 62) ≤ i) && decide (i < 2 ^ 62)
theorem inR_iff {i : Int} : inR i = true ↔ -(2 ^ 62) ≤ i ∧ i < 2 ^ 62 := by unfold inR; simp
def mR1 (a : MA) : MI := fun ρ => (a ρ).bind fun xs ρ1 => match xs with
  | [.int j] => if inR j then .ok (rngM 0 1 j.toNat, ρ1) else .stuck
  | _ => .stuck
theorem rvs_int1 {K : PySem.W.Frag} {H : Hp} {i : Int} {vs : List V} (r : RVs K H [.int i] vs) : vs = [.int i] := (RVs.ints (ns := [i])).mp r
theorem rvs_int2 {K : PySem.W.Frag} {H : Hp} {i j : Int} {vs : List V} (r : RVs K H [.int i, .int j] vs) : vs = [.int i, .int j] := (RVs.ints (ns := [i, j])).mp r
theorem mi_r1 {a : Expr} {m : MA} {p pos : Pos} (hm : X.mg "range" = none) (ha : PA X [a] (rdA c m)) (hg : Gl X "range" := by rfl) (hs : starEach [a] X.env = [(false, eval a X.env)] := by rfl) : PI X tg (.Call (.Name "range" p) [a] [] pos) (rdI c (mR1 m)) :=
  PIw (pi_range1 hg hm ha hs) fun σ H R ⟨F, Hk, bp, ρ, S, h⟩ => rdAw (bA postI S h) fun vs H1 ⟨Hk1, xs, ρ1, x1, S1, r1, h1⟩ => by
    split at h1
    · rename_i j
      split at h1
      · rename_i hj
        have := inR_iff.mp hj
        exact ⟨j, rvs_int1 r1, this.1, this.2, h1 _ _ _ (Ex.refl _) S1.1 walks_r⟩
      · exact h1.elim
    · exact h1.elim
def mLoop (g : MG) (b : MS) : List MV → Env → Res (Fl × Env)
  | [], ρ => .ok (.nx, ρ)
  | x :: xs, ρ => match g x ρ with
    | none => .stuck
    | some ρ1 => (b ρ1).bind fun f ρ2 => match f with
      | .nx => mLoop g b xs ρ2
      | .ct => mLoop g b xs ρ2
      | .br => .ok (.nx, ρ2)
      | .rt v => .ok (.rt v, ρ2)
def mFor (i : MI) (g : MG) (b : MS) : MS := fun ρ => (i ρ).bind fun xs ρ1 => mLoop g b xs ρ1
theorem okS.loop {F Hk : Hp} {bp : List (Nat × Addr)} {D : Ends} {g : MG} {b : MS} {xs : List MV} {N : St → Hp → Prop} (hN : ∀ Hk' H' σ' ρ', Ex Hk Hk' → RS c.K F Hk' H' bp σ' ρ' → okS c F Hk' bp D (mLoop g b xs ρ') → N σ' H') {r : Res (Fl × Env)}
    (h : okS c F Hk bp D (r.bind fun f ρ2 => match f with | .nx => mLoop g b xs ρ2 | .ct => mLoop g b xs ρ2 | .br => .ok (.nx, ρ2) | .rt v => .ok (.rt v, ρ2))) : okS c F Hk bp { D with nx := N, ct := N, bk := D.nx } r := by
  cases r with
  | stuck => exact h
  | exc e ρ => exact h
  | ok q =>
    obtain ⟨f, ρ1⟩ := q
    cases f with
    | nx => exact fun Hk1 H1 σ1 x1 S1 => hN Hk1 H1 σ1 ρ1 x1 S1 (okS.mono x1 h)
    | ct => exact fun Hk1 H1 σ1 x1 S1 => hN Hk1 H1 σ1 ρ1 x1 S1 (okS.mono x1 h)
    | br => exact h
    | rt x => exact h
theorem rd_for {it : MI} {g : MG} {b : MS} {D : Ends} {σ : St} {H : Hp} (h : rdS c (mFor it g b) D σ H) : tFor (rdI c it) (rdG c g) (rdS c b) D σ H := by
  obtain ⟨F, Hk, bp, ρ, S, h⟩ := h
  refine ⟨F, Hk, bp, ρ, S, ?_⟩
  have h : okS c F Hk bp D ((it ρ).bind fun xs ρ1 => mLoop g b xs ρ1) := h
  cases e : it ρ with
  | stuck => rw [e] at h; exact h
  | exc x ρ' => rw [e] at h; exact fun Hk1 H1 cls d => h Hk1 H1 σ cls d
  | ok p =>
    obtain ⟨xs, ρ1⟩ := p
    rw [e] at h
    intro Hk1 H1 J x1 S1 wk
    have h : okS c F Hk1 bp D (mLoop g b xs ρ1) := okS.mono x1 h
    refine ⟨fun i m σ' H' => m = xs.length - i ∧ i ≤ xs.length ∧ ∃ Hk' ρ', Ex Hk1 Hk' ∧ At c F Hk' H' bp σ' ρ' ∧ okS c F Hk' bp D (mLoop g b (xs.drop i) ρ'), ⟨xs.length, by simp, Nat.zero_le _, Hk1, ρ1, Ex.refl _, ⟨S1, S.2⟩, h⟩, ?_⟩
    rintro i m σ' H' ⟨rfl, hi, Hk', ρ', x', S', h'⟩
    by_cases hlt : i < xs.length
    · refine .inr ⟨wk.go i H' (x'.trans S'.1.ex) hlt, fun σ2 H2 => ∃ Hk2 ρ2, Ex Hk1 Hk2 ∧ At c F Hk2 H2 bp σ2 ρ2 ∧ okS c F Hk2 bp D (mLoop g b (xs.drop (i + 1)) ρ2), fun σ2 H2 ⟨Hk2, ρ2, x2, S2, h2⟩ => ⟨xs.length - (i + 1), by omega, rfl, hlt, Hk2, ρ2, x2, S2, h2⟩, fun x H2 y => ?_⟩
      obtain ⟨z, ez, hz⟩ := wk.yld i H' x H2 (x'.trans S'.1.ex) hlt y
      have ed : xs.drop i = z :: xs.drop (i + 1) := by
        rw [List.drop_eq_getElem_cons hlt]
        rw [List.getElem?_eq_getElem hlt] at ez
        cases ez; rfl
      rw [ed] at h'
      have fin : ∀ Hk3, Ex Hk' Hk3 → At c F Hk3 H2 bp σ' ρ' → RV c.K Hk3 z x → rdG c g x σ' H2 fun σ2 H2 => rdS c b { D with nx := fun σ2 H2 => ∃ Hk2 ρ2, Ex Hk1 Hk2 ∧ At c F Hk2 H2 bp σ2 ρ2 ∧ okS c F Hk2 bp D (mLoop g b (xs.drop (i + 1)) ρ2), ct := fun σ2 H2 => ∃ Hk2 ρ2, Ex Hk1 Hk2 ∧ At c F Hk2 H2 bp σ2 ρ2 ∧ okS c F Hk2 bp D (mLoop g b (xs.drop (i + 1)) ρ2), bk := D.nx } σ2 H2 := fun Hk3 x3 S3 r3 => by
        refine ⟨F, Hk3, bp, ρ', z, S3, r3, ?_⟩
        have h' := okS.mono x3 h'
        unfold mLoop at h'
        cases eg : g z ρ' with
        | none => rw [eg] at h'; exact h'
        | some ρ3 =>
          rw [eg] at h'
          intro Hk4 H4 σ4 x4 S4
          refine ⟨F, Hk4, bp, ρ3, ⟨S4, S.2⟩, okS.loop (fun Hk5 H5 σ5 ρ5 x5 S5 h5 => ⟨Hk5, ρ5, x'.trans (x3.trans (x4.trans x5)), ⟨S5, S.2⟩, h5⟩) (okS.mono x4 h')⟩
      rcases hz with ⟨rfl, r⟩ | ⟨p, vs, ys, hp, rfl, rfl, rfl, r⟩
      · exact fin Hk' (Ex.refl _) S' (RV.mono x' _ _ r)
      · have xn := Ex.new (o := .tup vs) (S'.1.ex.back hp)
        exact fin _ xn ⟨S'.1.new hp, S.2⟩ (RV.tup.mpr ⟨p, vs, rfl, SqT.of upd_same, r.mono (x'.trans xn)⟩)
    · have e : i = xs.length := by omega
      subst e
      rw [List.drop_length] at h'
      exact .inl ⟨wk.stop H' (x'.trans S'.1.ex), h' _ _ _ (Ex.refl _) S'.1⟩
theorem ms_for {iter : Expr} {body : List Stmt} {it : MI} {g : MG} {b : MS} {pos : Pos} (hp : PassesOwn (model X.prog X.w) X.A X.env X.xe) (hc : X.calm = true) (hi : PI X tg iter (rdI c it)) (hg : PG X tg (rdG c g)) (hb : PSs X body (rdS c b))
    (hs : ∀ x, foldedSetIterable iter X.env x = pure x := by intro _; rfl) : PS X (.For tg iter body [] pos) (rdS c (mFor it g b)) := PSw (ps_for hp hc hi hg hb hs) fun _ _ _ h => rd_for h
end
end Tm
set_option Elab.async false
set_option linter.all false
set_option maxRecDepth 100000
set_option maxHeartbeats 2000000
namespace Tm
open PySem L2
open Evl (Ex ex_rd ex_l ex_t)
theorem okXN {P : Program} {w : World} {K : PySem.W.Frag} {mg : Str → Option Value} {base : Heap} {x qual : Str} {st : Stmt} {f : Addr} {fd : FuncData} {N ps : List Str} {k : Nat} {sp : Sp} (F : Fun K x qual st f fd) (S : FnScope N ps (defScope st)) (hl : ∀ vs H Q E, sp vs H Q E → vs.length = ps.length)
    (b : ∀ (cdv : Value) (A : Around) (outer : List PySem.Env) (s : Shared) (H : Hp) (vs : List V) (Q : VK) (E : XK), Room k (A.deeper (PyProof.Rows.envOfC qual (defScope st) s.heap.objs.size f cdv)) → sp vs H Q E →
      ∃ t, PSs (cxOf (L2N.CX P w) P w K mg base N qual (defScope st) f cdv A outer s H E) (defBody st) t ∧ t { nx := fun _ H' => Q .non H', rt := Q } (L2.start N vs) H) : FnOk P w K mg base (L2N.CX P w) (k + 1) f fd ps sp := by
  obtain ⟨_, _, _, _, _, _, cv, _, _, rfl, e, hc⟩ := F.ex
  exact fn_of e hc S hl fun A outer s H vs Q E hr h => b cv A outer s H vs Q E hr h
abbrev MF := List MV → Res (MV × Env)
def endOf (bs : List Nat) (ρ : Env) : Env := bs.map fun i => (ρ[i]?).join
def mFn (n : Nat) (bs : List Nat) (m : MS) : MF := fun xs => match m (xs.map some ++ List.replicate (n - xs.length) none) with
  | .ok (.rt v, ρ) => .ok (v, endOf bs ρ)
  | .ok (.nx, ρ) => .ok (.non, endOf bs ρ)
  | .exc e ρ => .exc e (endOf bs ρ)
  | _ => .stuck
def okF (K : PySem.W.Frag) (mg : Str → Option Value) (F Hk : Hp) (bσ : St) (Q : VK) (E : XK) : Res (MV × Env) → Prop
  | .ok (v, bs) => ∀ Hk' H' w, Ex Hk Hk' → RS K F Hk' H' [] (bσ ++ [some w]) (bs ++ [some v]) → Q w H'
  | .exc e bs => ∀ Hk' H' cls d, Ex Hk Hk' → RS K F Hk' H' [] bσ bs → ExR K mg Hk' e cls d → E cls d H'
  | .stuck => False
def spF (K : PySem.W.Frag) (mg : Str → Option Value) (np : Nat) (bs : List Nat) (f : MF) : Sp := fun vs H Q E => vs.length = np ∧ ∃ F Hk bp xs, RS K F Hk H bp (vs.map some) (xs.map some) ∧ bp.map (·.1) = bs ∧ okF K mg F Hk (bp.map fun q => some (.ref q.2)) Q E (f xs)
section
variable {K : PySem.W.Frag} {F Hk H : Hp} {bp : List (Nat × Addr)} {σ : St} {ρ : Env}
theorem RS.pick (S : RS K F Hk H bp (σ ++ [some v]) (ρ ++ [some x])) (is : List Nat) (nd : is.Nodup) (hl : ∀ i ∈ is, i < ρ.length) :
    RS K F Hk H [] ((is.map fun i => (σ[i]?).join) ++ [some v]) ((is.map fun i => (ρ[i]?).join) ++ [some x]) := by
  obtain ⟨ow, s⟩ := S.ow
  have hlen : σ.length = ρ.length := by have := S.len; simpa using this
  have old : ∀ {j i : Nat}, is[j]? = some i → i < ρ.length := fun h => hl _ (List.mem_of_getElem? h)
  refine ⟨by simp, S.ex, S.fr, S.frk, ⟨fun j => match is[j]? with | some i => ow i | none => if j = is.length then ow ρ.length else [], ?_⟩, fun q hq => nomatch hq⟩
  have own : ∀ j a, a ∈ (match is[j]? with | some i => ow i | none => if j = is.length then ow ρ.length else []) → (∃ i, is[j]? = some i ∧ a ∈ ow i) ∨ (j = is.length ∧ a ∈ ow ρ.length) := fun j a h => by
    cases e : is[j]? with
    | some i => rw [e] at h; exact .inl ⟨i, rfl, h⟩
    | none =>
      rw [e] at h
      by_cases e2 : j = is.length
      · rw [if_pos e2] at h; exact .inr ⟨e2, h⟩
      · rw [if_neg e2] at h; cases h
  refine ⟨fun j y h => ?_, fun j a h => ?_, fun j h => ?_, fun j k a hjk h1 h2 => ?_⟩
  · rcases app_get h with ⟨e1, e2⟩ | ⟨lt, e2⟩
    · cases e2
      rw [List.length_map] at e1
      subst e1
      obtain ⟨u, hu, ou⟩ := s.s ρ.length x (by simp)
      have ev : u = v := by rw [← hlen] at hu; simpa using hu.symm
      subst ev
      refine ⟨u, by simp, ?_⟩
      have : is[is.length]? = none := by simp
      rw [this, if_pos rfl]
      exact ou
    · rw [List.length_map] at lt
      rw [List.getElem?_map] at e2
      cases ei : is[j]? with
      | none => rw [ei] at e2; cases e2
      | some i =>
        rw [ei] at e2
        have e3 : ρ[i]? = some (some y) := by
          cases er : ρ[i]? with
          | none => rw [Option.map_some, er] at e2; cases e2
          | some o => rw [Option.map_some, er] at e2; cases o with
            | none => cases e2
            | some z => cases e2; rfl
        have li := old ei
        obtain ⟨w, w1, w2⟩ := s.s i y (by rw [List.getElem?_append_left li]; exact e3)
        rw [List.getElem?_append_left (by rw [hlen]; exact li)] at w1
        refine ⟨w, ?_, w2⟩
        rw [List.getElem?_append_left (by simpa using lt), List.getElem?_map, ei, Option.map_some, w1]; rfl
  · rcases own j a h with ⟨i, _, m⟩ | ⟨_, m⟩
    · exact s.f i a m
    · exact s.f _ a m
  · cases e : (match is[j]? with | some i => ow i | none => if j = is.length then ow ρ.length else []) with
    | nil => exact (h e).elim
    | cons a r =>
      rcases own j a (by rw [e]; simp) with ⟨i, ei, _⟩ | ⟨e2, _⟩
      · have := lt_get ei; simp; omega
      · simp; omega
  · rcases own j a h1 with ⟨i, ei, m⟩ | ⟨e1, m⟩ <;> rcases own k a h2 with ⟨i2, ei2, m2⟩ | ⟨e2, m2⟩
    · have ne : i ≠ i2 := fun z => by
        subst z
        obtain ⟨a1, a2⟩ := List.getElem?_eq_some_iff.mp ei
        obtain ⟨b1, b2⟩ := List.getElem?_eq_some_iff.mp ei2
        exact hjk ((List.getElem_inj nd).mp (a2.trans b2.symm))
      exact s.d i i2 a ne m m2
    · exact s.d i ρ.length a (Nat.ne_of_lt (old ei)) m m2
    · exact s.d i2 ρ.length a (Nat.ne_of_lt (old ei2)) m2 m
    · exact hjk (e1.trans e2.symm)
theorem RS.pad (S : RS K F Hk H bp σ ρ) (n : Nat) : RS K F Hk H bp (σ ++ List.replicate n none) (ρ ++ List.replicate n none) := by
  obtain ⟨ow, s⟩ := S.ow
  have g : ∀ {α : Type} {l : List (Option α)} {j : Nat} {y : α}, (l ++ List.replicate n none)[j]? = some (some y) → l[j]? = some (some y) := fun {α l j y} h => by
    by_cases e : j < l.length
    · rw [List.getElem?_append_left e] at h; exact h
    · rw [List.getElem?_append_right (Nat.le_of_not_lt e), List.getElem?_replicate] at h
      split at h <;> cases h
  have g2 : ∀ {α : Type} {l : List (Option α)} {j : Nat} {y : α}, l[j]? = some (some y) → (l ++ List.replicate n none)[j]? = some (some y) := fun {α l j y} h => by
    rw [List.getElem?_append_left (lt_get h)]; exact h
  refine ⟨by simp [S.len], S.ex, S.fr, S.frk, ⟨ow, fun j y h => ?_, s.f, fun j h => ?_, s.d⟩, fun q hq => g2 (S.bor q hq)⟩
  · obtain ⟨v, e, o⟩ := s.s j y (g h)
    exact ⟨v, g2 e, o⟩
  · have := s.w j h; simp; omega
theorem RS.args {xs : List MV} {vs : List V} (ex : Ex Hk H) (fr : Ex F H) (frk : ∀ a o, F a = some o → Hk a = none) (r : RVs K Hk xs vs) : RS K F Hk H [] (vs.map some) (xs.map some) := by
  refine ⟨by simp [r.length], ex, fr, frk, ⟨fun _ => [], fun j y h => ?_, fun j a h => (nomatch h), fun j h => (h rfl).elim, fun j k a _ h => nomatch h⟩, fun q hq => nomatch hq⟩
  rw [List.getElem?_map] at h
  cases e : xs[j]? with
  | none => rw [e] at h; cases h
  | some z =>
    rw [e] at h
    cases h
    obtain ⟨v, e1, rv⟩ := r.get e
    exact ⟨v, by rw [List.getElem?_map, e1]; rfl, rv.ov⟩
end
section
variable {X : Cx} {c : Ct}
def fz : MV → Option MV
  | .own xs => some (.lst xs)
  | .obj _ _ => none
  | .dow _ _ => none
  | .dot _ _ => none
  | x => some x
def mFz (m : ME) : ME := fun ρ => (m ρ).bind fun x ρ1 => match fz x with | some y => .ok (y, ρ1) | none => .stuck
theorem RS.last {K : PySem.W.Frag} {F Hk H : Hp} {bp : List (Nat × Addr)} {σ : St} {ρ : Env} {v : V} {x y : MV} (S : RS K F Hk H bp (σ ++ [some v]) (ρ ++ [some x])) (hb : ∀ q ∈ bp, q.1 < ρ.length) (e : fz x = some y) :
    ∃ Hk', Ex Hk Hk' ∧ RS K F Hk' H bp σ ρ ∧ RV K Hk' y v := by
  have hl : σ.length = ρ.length := by have := S.len; simpa using this
  have pl : x.per = true → y = x → ∃ Hk', Ex Hk Hk' ∧ RS K F Hk' H bp σ ρ ∧ RV K Hk' y v := fun px ey => by
    subst ey
    obtain ⟨w, ew, rw'⟩ := S.get (i := ρ.length) (x := y) (by simp) px
    rw [← hl] at ew
    have : w = v := by simpa using ew.symm
    subst this
    exact ⟨Hk, Ex.refl _, S.drop hb, rw'⟩
  cases x with
  | own xs =>
    cases e
    obtain ⟨p, vs, e1, ex, r, S'⟩ := S.freeze (i := ρ.length) (xs := xs) (by simp)
    rw [← hl] at e1
    have : v = .ref p := by simpa using e1
    subst this
    refine ⟨_, ex, ?_, r⟩
    have z : (ρ ++ [some (MV.own xs)]).set ρ.length (some (.lst xs)) = ρ ++ [some (.lst xs)] := by simp
    rw [z] at S'
    exact S'.drop hb
  | obj C fs => cases e
  | dow _ _ => cases e
  | dot _ _ => cases e
  | _ => cases e; exact pl rfl rfl
theorem rd_fz {m : ME} {σ : St} {H : Hp} {Q : VK} (h : rdE c (mFz m) σ H Q) : rdO c m σ H Q := by
  obtain ⟨F, Hk, bp, ρ, S, h⟩ := h
  refine ⟨F, Hk, bp, ρ, S, ?_⟩
  have h : okE c F Hk bp σ Q ((m ρ).bind fun x ρ1 => match fz x with | some y => .ok (y, ρ1) | none => .stuck) := h
  cases e : m ρ with
  | stuck => rw [e] at h; exact h
  | exc x ρ' => rw [e] at h; exact h
  | ok p =>
    obtain ⟨x, ρ1⟩ := p
    rw [e] at h
    intro Hk1 H1 v x1 S1
    have h : okE c F Hk bp σ Q (match fz x with | some y => .ok (y, ρ1) | none => .stuck) := h
    have l1 : σ.length = ρ1.length := by have := S1.len; simpa using this
    cases ez : fz x with
    | none => rw [ez] at h; exact h.elim
    | some y =>
      rw [ez] at h
      obtain ⟨Hk2, x2, S2, r2⟩ := S1.last (fun q hq => by rw [← l1]; exact lt_get (S.1.bor q hq)) ez
      exact h _ _ _ (x1.trans x2) S2 r2
theorem me_fz {e : Expr} {m : ME} (h : PE X e (rdO c m)) : PE X e (rdE c (mFz m)) := PEw h fun _ _ _ q => rd_fz q
def mCall (f : MF) (a : MA) : ME := fun ρ => (a ρ).bind fun xs ρ1 => match f xs with
  | .ok (v, _) => .ok (v, ρ1)
  | .exc e _ => .exc e ρ1
  | .stuck => .stuck
theorem call_end {f : MF} {n : Nat} {F Hk H : Hp} {bp : List (Nat × Addr)} {σ : St} {ρ : Env} {xs : List MV} {vs : List V} {Q : VK} {E : XK} (S : At c F Hk H bp σ ρ) (r : RVs c.K Hk xs vs) (hn : xs.length = n)
    (hE : ∀ e, (∀ Hk' H' cls d, Ex Hk Hk' → RS c.K F Hk' H' bp σ ρ → ExR c.K c.mg Hk' e cls d → c.W cls d σ H') → ∀ Hk' H' cls d, Ex Hk Hk' → RS c.K F Hk' H' bp σ ρ → ExR c.K c.mg Hk' e cls d → E cls d H')
    (h : okO c F Hk bp σ Q (match f xs with | .ok (v, _) => .ok (v, ρ) | .exc e _ => .exc e ρ | .stuck => .stuck)) : spF c.K c.mg n [] f vs H Q E := by
  refine ⟨by rw [r.length]; exact hn, ?_⟩
  obtain ⟨ow, s⟩ := S.1.ow
  haveI : ∀ a, Decidable (∃ i, a ∈ ow i) := fun a => Classical.propDecidable _
  have fN : ∃ F' : Hp, (∀ i a, a ∈ ow i → F' a = H a) ∧ (∀ a o, F a = some o → F' a = some o) ∧ ∀ a o, F' a = some o → H a = some o ∧ Hk a = none := by
    refine ⟨fun a => if (∃ i, a ∈ ow i) then H a else F a, fun i a ha => if_pos ⟨i, ha⟩, fun a o ha => ?_, fun a o ha => ?_⟩
    · have : ¬ ∃ i, a ∈ ow i := fun ⟨i, hi⟩ => by have := (s.f i a hi).2.1; rw [ha] at this; cases this
      show (if (∃ i, a ∈ ow i) then H a else F a) = some o
      rw [if_neg this]; exact ha
    · have ha : (if (∃ i, a ∈ ow i) then H a else F a) = some o := ha
      by_cases e : ∃ i, a ∈ ow i
      · rw [if_pos e] at ha
        obtain ⟨i, hi⟩ := e
        exact ⟨ha, (s.f i a hi).1⟩
      · rw [if_neg e] at ha
        exact ⟨S.1.fr a o ha, S.1.frk a o ha⟩
  obtain ⟨F', f1, f2, f3⟩ := fN
  refine ⟨F', Hk, [], xs, RS.args S.1.ex (fun a o ha => (f3 a o ha).1) (fun a o ha => (f3 a o ha).2) r, rfl, ?_⟩
  -- what stands behind the call
  have back : ∀ {Hk' H' : Hp} {bσ : St} {bρ : Env}, Ex Hk Hk' → RS c.K F' Hk' H' [] bσ bρ → RS c.K F Hk' H' bp σ ρ ∧ SL c.K F Hk' H' ow σ ρ := fun {Hk' H' bσ bρ} x S' => by
    have own : ∀ i, ∀ a ∈ ow i, H' a = H a ∧ Hk' a = none := fun i a ha => by
      obtain ⟨g1, g2, o, g3⟩ := s.f i a ha
      have q : F' a = some o := (f1 i a ha).trans g3
      exact ⟨(S'.fr a o q).trans g3.symm, S'.frk a o q⟩
    have sl : SL c.K F Hk' H' ow σ ρ := s.step x own
    exact ⟨⟨S.1.len, S'.ex, fun a o ha => S'.fr a o (f2 a o ha), fun a o ha => S'.frk a o (f2 a o ha), ⟨ow, sl⟩, S.1.bor⟩, sl⟩
  cases ef : f xs with
  | stuck => rw [ef] at h; exact h.elim
  | exc e bs =>
    rw [ef] at h
    intro Hk' H' cls d x S' er
    exact hE e h Hk' H' cls d x (back x S').1 er
  | ok p =>
    obtain ⟨v, bs⟩ := p
    rw [ef] at h
    intro Hk' H' w x S'
    obtain ⟨R1, sl⟩ := back x S'
    refine h Hk' H' w x ?_
    obtain ⟨ow2, s2⟩ := S'.ow
    have bl : bs.length = 0 := by have := S'.len; simpa using this.symm
    have be : bs = [] := List.eq_nil_of_length_eq_zero bl
    subst be
    obtain ⟨w2, e2, o2⟩ := s2.s 0 v rfl
    cases e2
    refine ⟨by simp [S.1.len], R1.ex, R1.fr, R1.frk, ⟨_, sl.push S.1.len o2 (fun a ha => ?_) (fun i a ha hi => ?_)⟩, R1.bor_app _⟩
    · obtain ⟨g1, g2, _⟩ := s2.f 0 a ha
      refine ⟨g1, ?_⟩
      cases e : F a with
      | none => rfl
      | some o => rw [f2 a o e] at g2; cases g2
    · obtain ⟨g1, g2, o, g3⟩ := s2.f 0 a ha
      obtain ⟨_, _, o', q⟩ := s.f i a hi
      rw [f1 i a hi, q] at g2
      cases g2
theorem rd_call {f : MF} {n : Nat} {a : MA} {σ : St} {H : Hp} {Q : VK} (hn : ∀ ρ xs ρ', a ρ = .ok (xs, ρ') → xs.length = n) (h : rdO c (mCall f a) σ H Q) : tCallS (spF c.K c.mg n [] f) (WE c.W) (rdA c a) σ H Q := by
  obtain ⟨F, Hk, bp, ρ, S, h⟩ := h
  refine ⟨F, Hk, bp, ρ, S, ?_⟩
  have h : okO c F Hk bp σ Q ((a ρ).bind fun xs ρ1 => match f xs with | .ok (v, _) => .ok (v, ρ1) | .exc e _ => .exc e ρ1 | .stuck => .stuck) := h
  cases e : a ρ with
  | stuck => rw [e] at h; exact h
  | exc x ρ' => rw [e] at h; exact h
  | ok p =>
    obtain ⟨xs, ρ1⟩ := p
    rw [e] at h
    intro Hk1 H1 vs x1 S1 r1
    exact call_end ⟨S1, S.2⟩ r1 (hn _ _ _ e) (fun e q => q) (okO.mono x1 h)
def Lng (a : MA) (n : Nat) : Prop := ∀ ρ xs ρ', a ρ = .ok (xs, ρ') → xs.length = n
theorem lng_nil : Lng mNil 0 := fun ρ xs ρ' h => by cases h; rfl
theorem lng_cons {a : ME} {b : MA} {n : Nat} (h : Lng b n) : Lng (mCons a b) (n + 1) := fun ρ xs ρ' e => by
  unfold mCons at e
  cases ea : a ρ with
  | stuck => rw [ea] at e; cases e
  | exc x r => rw [ea] at e; cases e
  | ok p =>
    rw [ea] at e
    have e : (b p.2).bind (fun ys ρ2 => Res.ok (p.1 :: ys, ρ2)) = .ok (xs, ρ') := e
    cases eb : b p.2 with
    | stuck => rw [eb] at e; cases e
    | exc x r => rw [eb] at e; cases e
    | ok q =>
      rw [eb] at e
      cases e
      simp [h _ _ _ eb]
variable {k : Nat} {fa : Addr} {fd : FuncData} {ps : List Str} {x : Str} {p pos : Pos} {e : Expr} {es : List Expr} {f : MF} {a : MA} {n : Nat}
theorem mo_call (F : FnOk X.prog X.w X.K X.mg X.base (L2N.CX X.prog X.w) k fa fd ps (spF X.K X.mg n [] f)) (hr : Room k X.A) (hm : X.mg x = some (.ref fa)) (hk : PySem.W.keepIn X.K (.ref fa) = true) (hb : Binds X.K fd ps []) (tk : L2N.Takes X c.W)
    (ha : PA X (e :: es) (rdA c a)) (hn : Lng a n) (hg : Gl X x := by rfl) (hK : c.K = X.K := by rfl) (hM : c.mg = X.mg := by rfl) (hdb : (x == ("__debug__" : Str)) = false := by decide) (he : starEach (e :: es) X.env = (false, eval e X.env) :: starEach es X.env := by rfl)
    (hpl : (backTo pos (starEach es X.env)).any (·.1) = false := by rfl) : PE X (.Call (.Name x p) (e :: es) [] pos) (rdO c (mCall f a)) :=
  PEw (pe_callS (E := WE c.W) F hr hg hm hk hb (fun σ => L2N.passAt tk σ) ha hdb he hpl) fun σ H Q h => by
    have := rd_call hn h
    rw [hK, hM] at this
    exact this
def mCall0 (f : MF) (a : MA) : ME := fun ρ => (a ρ).bind fun xs ρ1 => match f xs with
  | .ok (v, _) => .ok (v, ρ1)
  | _ => .stuck
theorem rd_call0 {f : MF} {n : Nat} {a : MA} {σ : St} {H : Hp} {Q : VK} (hn : Lng a n) (h : rdO c (mCall0 f a) σ H Q) : tCall (spF c.K c.mg n [] f) [] (fun _ _ _ => False) (rdA c a) σ H Q := by
  obtain ⟨F, Hk, bp, ρ, S, h⟩ := h
  refine ⟨F, Hk, bp, ρ, S, ?_⟩
  have h : okO c F Hk bp σ Q ((a ρ).bind fun xs ρ1 => match f xs with | .ok (v, _) => .ok (v, ρ1) | _ => .stuck) := h
  cases e : a ρ with
  | stuck => rw [e] at h; exact h
  | exc x ρ' => rw [e] at h; exact h
  | ok p =>
    obtain ⟨xs, ρ1⟩ := p
    rw [e] at h
    intro Hk1 H1 vs x1 S1 r1
    rw [List.append_nil]
    have h : okO c F Hk bp σ Q (match f xs with | .ok (v, _) => .ok (v, ρ1) | _ => .stuck) := h
    cases ef : f xs with
    | stuck => rw [ef] at h; exact h.elim
    | exc e bs => rw [ef] at h; exact h.elim
    | ok q =>
      rw [ef] at h
      refine call_end (f := f) (c := ⟨c.K, c.mg, fun _ _ _ _ => False, c.bs, c.J, c.Jm⟩) ⟨S1, S.2⟩ r1 (hn _ _ _ e) (fun e q => q) ?_
      rw [ef]
      exact fun Hk2 H2 w x2 => h Hk2 H2 w (x1.trans x2)
theorem passes0 {P : Program} {w : World} {X : Cx} : Passes (L2N.CX P w) X fun _ _ _ => False := fun _ _ _ _ _ _ _ ⟨_, _, _, _, _, _, _, _, _, _, _, _, f⟩ => f.elim
theorem mo_call0 (F : FnOk X.prog X.w X.K X.mg X.base (L2N.CX X.prog X.w) k fa fd ps (spF X.K X.mg n [] f)) (hr : Room k X.A) (hm : X.mg x = some (.ref fa)) (hk : PySem.W.keepIn X.K (.ref fa) = true) (hb : Binds X.K fd ps [])
    (ha : PA X (e :: es) (rdA c a)) (hn : Lng a n) (hg : Gl X x := by rfl) (hK : c.K = X.K := by rfl) (hM : c.mg = X.mg := by rfl) (hdb : (x == ("__debug__" : Str)) = false := by decide) (he : starEach (e :: es) X.env = (false, eval e X.env) :: starEach es X.env := by rfl)
    (hpl : (backTo pos (starEach es X.env)).any (·.1) = false := by rfl) : PE X (.Call (.Name x p) (e :: es) [] pos) (rdO c (mCall0 f a)) :=
  PEw (pe_call F hr hg hm hk hb .nil passes0 ha hdb he hpl) fun σ H Q h => by
    have := rd_call0 hn h
    rw [hK, hM] at this
    exact this
end
section
variable {P : Program} {w : World} {K : PySem.W.Frag} {mg : Str → Option Value} {base : Heap}
theorem start_eq {N : List Str} {vs : List V} {xs : List MV} (h : vs.length = xs.length) : L2.start N vs = vs.map some ++ List.replicate (N.length - xs.length) none := by unfold L2.start; rw [h]
theorem fn_ok {x qual : Str} {st : Stmt} {f : Addr} {fd : FuncData} {N ps : List Str} {k : Nat} {bs : List Nat} {m : MS} (F : Fun K x qual st f fd) (S : FnScope N ps (defScope st)) (nd : bs.Nodup) (hbs : ∀ i ∈ bs, i < ps.length)
    (hbody : ∀ (cdv : Value) (A : Around) (outer : List PySem.Env) (s : Shared) (H : Hp) (E : XK), Room k (A.deeper (PyProof.Rows.envOfC qual (defScope st) s.heap.objs.size f cdv)) →
      PSs (cxOf (L2N.CX P w) P w K mg base N qual (defScope st) f cdv A outer s H E) (defBody st) (rdS ⟨K, mg, fun cls d _ H => E cls d H, bs, fun _ _ => True, fun _ _ _ _ _ => trivial⟩ m)) :
    FnOk P w K mg base (L2N.CX P w) (k + 1) f fd ps (spF K mg ps.length bs (mFn N.length bs m)) := by
  refine okXN F S (fun vs H Q E h => h.1) (fun cdv A outer s H vs Q E hr h => ⟨_, hbody cdv A outer s H E hr, ?_⟩)
  obtain ⟨hl, F', Hk, bp, xs, R, eb, h⟩ := h
  have el : vs.length = xs.length := by have := R.len; simpa using this
  rw [start_eq el]
  refine ⟨F', Hk, bp, _, ⟨R.pad _, eb, trivial⟩, ?_⟩
  have bor : ∀ {σ' : St} {Hk' H' : Hp} {ρ' : Env}, RS K F' Hk' H' bp σ' ρ' → bs.map (fun i => (σ'[i]?).join) = bp.map (fun q => some (.ref q.2)) := fun {σ' Hk' H' ρ'} S' => by
    rw [← eb, List.map_map]
    refine List.map_congr_left fun q hq => ?_
    show (σ'[q.1]?).join = _
    rw [S'.bor q hq]; rfl
  have bl : ∀ {σ' : St} {Hk' H' : Hp} {ρ' : Env}, RS K F' Hk' H' bp σ' ρ' → ∀ i ∈ bs, i < ρ'.length := fun {σ' Hk' H' ρ'} S' i hi => by
    rw [← eb] at hi
    obtain ⟨q, hq, rfl⟩ := List.mem_map.mp hi
    rw [← S'.len]; exact lt_get (S'.bor q hq)
  unfold mFn at h
  cases em : m (xs.map some ++ List.replicate (N.length - xs.length) none) with
  | stuck => rw [em] at h; exact h.elim
  | exc e ρ' =>
    rw [em] at h
    intro Hk' H' σ' cls d x S' er
    refine h Hk' H' cls d x ?_ er
    have z := ((S'.push (x := .non) (v := .non) (RV.non.mpr rfl)).pick bs nd (bl S')).drop (fun _ hq => nomatch hq)
    rw [bor S'] at z
    exact z
  | ok p =>
    obtain ⟨fl, ρ'⟩ := p
    rw [em] at h
    have ret : ∀ {Hk' H' : Hp} {σ' : St} {u : V} {v : MV}, okF K mg F' Hk (bp.map fun q => some (.ref q.2)) Q E (.ok (v, endOf bs ρ')) → Ex Hk Hk' → RS K F' Hk' H' bp (σ' ++ [some u]) (ρ' ++ [some v]) → (∀ q ∈ bp, q.1 < ρ'.length) → Q u H' := fun {Hk' H' σ' u v} h x S' hq => by
      refine h Hk' H' u x ?_
      have z := S'.pick bs nd (fun i hi => by
        rw [← eb] at hi
        obtain ⟨q, hq', rfl⟩ := List.mem_map.mp hi
        exact hq q hq')
      have l1 : σ'.length = ρ'.length := by have := S'.len; simpa using this
      have e2 : bs.map (fun i => (σ'[i]?).join) = bp.map (fun q => some (.ref q.2)) := by
        rw [← eb, List.map_map]
        refine List.map_congr_left fun q hq' => ?_
        show (σ'[q.1]?).join = _
        have := S'.bor q hq'
        rw [List.getElem?_append_left (by rw [l1]; exact hq q hq')] at this
        rw [this]; rfl
      rw [e2] at z
      exact z
    cases fl with
    | nx => exact fun Hk' H' σ' x S' => ret h x (S'.push (x := .non) (v := .non) (RV.non.mpr rfl)) (fun q hq => by rw [← S'.len]; exact lt_get (S'.bor q hq))
    | br => exact h.elim
    | ct => exact h.elim
    | rt v =>
      intro Hk' H' σ' u x lq S'
      have l1 : σ'.length = ρ'.length := by have := S'.len; simpa using this
      exact ret h x S' fun q hq => by rw [← l1]; exact lq q hq
end
end Tm
set_option Elab.async false
set_option linter.all false
set_option maxRecDepth 100000
set_option maxHeartbeats 2000000
namespace Tm
open PySem L2
open Evl (Ex ex_rd ex_l ex_t)
def CallS (K : PySem.W.Frag) (f : List MV → Option MV) (r : List V → Hp → VK → Prop) : Prop := ∀ (xs : List MV) (z : MV) (vs : List V) (Hk H : Hp) (Q : VK), f xs = some z → Ex Hk H → RVs K Hk xs vs → (∀ u, RV K Hk z u → Q u H) →
  (∀ p o, H p = none → RV K (upd Hk p o) z (.ref p) → Q (.ref p) (upd H p o)) → r vs H Q
def mBlt (f : List MV → Option MV) (a : MA) : ME := fun ρ => (a ρ).bind fun xs ρ1 => match f xs with | some z => .ok (z, ρ1) | none => .stuck
section
variable {X : Cx} {c : Ct} {x : Str} {p pos : Pos} {e : Expr} {es : List Expr} {a : MA} {id T : String} {f : List MV → Option MV} {r : List V → Hp → VK → Prop}
theorem rd_blt (o : CallS c.K f r) {σ : St} {H : Hp} {Q : VK} (h : rdE c (mBlt f a) σ H Q) : tCB r (rdA c a) σ H Q := by
  obtain ⟨F, Hk, bp, ρ, S, h⟩ := h
  refine rdAw (bA postE S h) fun vs H1 ⟨Hk1, xs, ρ1, x1, S1, r1, h1⟩ => ?_
  have h1 : okE c F Hk1 bp σ Q (match f xs with | some z => .ok (z, ρ1) | none => .stuck) := h1
  cases ef : f xs with
  | none => rw [ef] at h1; exact h1.elim
  | some z =>
    rw [ef] at h1
    exact o xs z vs Hk1 H1 Q ef S1.1.ex r1 (fun u ru => h1 _ _ u (Ex.refl _) S1.1 ru) fun p ob hp ru => h1 _ _ _ (Ex.new (S1.1.ex.back hp)) (S1.1.new hp) ru
theorem me_blt (hc : CallR X (.builtin id) r) (o : CallS c.K f r) (hm : X.mg x = none) (hv : bootBuiltins x = some (.builtin id)) (ha : PA X (e :: es) (rdA c a)) (hg : Gl X x := by rfl) (hn : x ≠ "__name__" := by decide) (hdb : (x == ("__debug__" : Str)) = false := by decide)
    (he : starEach (e :: es) X.env = (false, eval e X.env) :: starEach es X.env := by rfl) (hpl : (backTo pos (starEach es X.env)).any (·.1) = false := by rfl) : PE X (.Call (.Name x p) (e :: es) [] pos) (rdE c (mBlt f a)) :=
  PEw (pe_callB hc hg hm hv ha hn hdb he hpl) fun _ _ _ h => rd_blt o h
theorem me_ty (hc : CallR X (.type T) r) (o : CallS c.K f r) (hm : X.mg x = none) (hv : bootBuiltins x = some (.type T)) (ha : PA X (e :: es) (rdA c a)) (hg : Gl X x := by rfl) (hn : x ≠ "__name__" := by decide) (hdb : (x == ("__debug__" : Str)) = false := by decide)
    (he : starEach (e :: es) X.env = (false, eval e X.env) :: starEach es X.env := by rfl) (hpl : (backTo pos (starEach es X.env)).any (·.1) = false := by rfl) : PE X (.Call (.Name x p) (e :: es) [] pos) (rdE c (mBlt f a)) :=
  PEw (pe_callTy hc hg hm hv ha hn hdb he hpl) fun _ _ _ h => rd_blt o h
theorem me_glob {v : MV} {w : V} {u : Value} (hm : X.mg x = some u) (rv : RelV w u) (r : ∀ H, RV c.K H v w) (hg : Gl X x := by rfl) (hd : (x == ("__debug__" : Str)) = false := by decide) : PE X (.Name x pos) (rdE c (mC v)) :=
  PEw (pe_glob hg hm rv hd) fun _ _ _ h => rd_c r h
theorem me_bltn {w : V} {u : Value} (hm : X.mg x = none) (hv : bootBuiltins x = some u) (rv : RelV w u) (hg : Gl X x := by rfl) (hn : x ≠ "__name__" := by decide) (hd : (x == ("__debug__" : Str)) = false := by decide) : PE X (.Name x pos) (rdE c (mC (.raw w))) :=
  PEw (pe_bltn hg hm hv rv hn hd) fun _ _ _ h => rd_c (fun _ => RV.raw.mpr rfl) h
end
section
variable {K : PySem.W.Frag}
theorem rvs1 {H : Hp} {x : MV} {vs : List V} (r : RVs K H [x] vs) : ∃ v, vs = [v] ∧ RV K H x v := by
  obtain ⟨v, r', rfl, q1, q2⟩ := RVs.cons.mp r
  rw [RVs.nil.mp q2]
  exact ⟨v, rfl, q1⟩
theorem rvs2' {H : Hp} {x y : MV} {vs : List V} (r : RVs K H [x, y] vs) : ∃ v w, vs = [v, w] ∧ RV K H x v ∧ RV K H y w := by
  obtain ⟨v, r', rfl, q1, q2⟩ := RVs.cons.mp r
  obtain ⟨w, rfl, q3⟩ := rvs1 q2
  exact ⟨v, w, rfl, q1, q3⟩
def bLen : List MV → Option MV
  | [.lst xs] => some (.int xs.length)
  | [.tup xs] => some (.int xs.length)
  | [.scr ns] => some (.int ns.length)
  | [.str z] => if szOk z.length then some (.int z.length) else none
  | _ => none
def rLenM (K : PySem.W.Frag) : List V → Hp → VK → Prop := fun xs H Q => (∃ p ys, xs = [.ref p] ∧ (SqL K H p ys ∨ SqT K H p ys) ∧ Q (.int ys.length) H) ∨ ∃ z, xs = [.str z] ∧ z.length ≤ sizeLine ∧ Q (.int z.length) H
theorem cr_lenM {X : Cx} : CallR X (.builtin "len") (rLenM X.K) := CallR.or call_len_seq call_len_str
theorem cs_len : CallS K bLen (rLenM K) := by
  intro xs z vs Hk H Q e ex r q qn
  unfold bLen at e
  split at e
  · cases e
    obtain ⟨v, rfl, rv⟩ := rvs1 r
    obtain ⟨p1, ws, rfl, h1, s1⟩ := RV.lst.mp rv
    exact .inl ⟨p1, ws, rfl, .inl (SqL.of (ex _ _ h1)), by rw [s1.length]; exact q _ (RV.int.mpr rfl)⟩
  · cases e
    obtain ⟨v, rfl, rv⟩ := rvs1 r
    obtain ⟨p1, ws, rfl, h1, s1⟩ := RV.tup.mp rv
    exact .inl ⟨p1, ws, rfl, .inr (ex_t ex h1), by rw [s1.length]; exact q _ (RV.int.mpr rfl)⟩
  · cases e
    obtain ⟨v, rfl, rv⟩ := rvs1 r
    obtain ⟨p1, rfl, h1⟩ := RV.scr.mp rv
    exact .inl ⟨p1, _, rfl, .inl (ex_l ex h1), by rw [List.length_map]; exact q _ (RV.int.mpr rfl)⟩
  · split at e
    · rename_i hz
      cases e
      obtain ⟨v, rfl, rv⟩ := rvs1 r
      exact .inr ⟨_, by rw [RV.str.mp rv], szOk_iff.mp hz, q _ (RV.int.mpr rfl)⟩
    · cases e
  · cases e
def bAbs : List MV → Option MV
  | [.int i] => some (.int (if i < 0 then -i else i))
  | _ => none
theorem cs_abs : CallS K bAbs (fun xs H Q => ∃ i, xs = [.int i] ∧ Q (.int (if i < 0 then -i else i)) H) := by
  intro xs z vs Hk H Q e ex r q qn
  unfold bAbs at e
  split at e
  · cases e
    exact ⟨_, rvs_int1 r, q _ (RV.int.mpr rfl)⟩
  · cases e
def bMax : List MV → Option MV
  | [.int i, .int j] => some (.int (if j > i then j else i))
  | _ => none
def bMin : List MV → Option MV
  | [.int i, .int j] => some (.int (if j < i then j else i))
  | _ => none
theorem cs_max : CallS K bMax (fun xs H Q => ∃ i j, xs = [.int i, .int j] ∧ Q (.int (if j > i then j else i)) H) := by
  intro xs z vs Hk H Q e ex r q qn
  unfold bMax at e
  split at e
  · cases e
    exact ⟨_, _, rvs_int2 r, q _ (RV.int.mpr rfl)⟩
  · cases e
theorem cs_min : CallS K bMin (fun xs H Q => ∃ i j, xs = [.int i, .int j] ∧ Q (.int (if j < i then j else i)) H) := by
  intro xs z vs Hk H Q e ex r q qn
  unfold bMin at e
  split at e
  · cases e
    exact ⟨_, _, rvs_int2 r, q _ (RV.int.mpr rfl)⟩
  · cases e
def bInt : List MV → Option MV
  | [.int i] => some (.int i)
  | [.bl k] => some (.int (if k then 1 else 0))
  | [.str s] => if decide (s.length ≤ 640) then (PySem.intText? s).map .int else none
  | _ => none
def rIntM : List V → Hp → VK → Prop := fun xs H Q => ((∃ i, xs = [.int i] ∧ Q (.int i) H) ∨ ∃ k, xs = [.bl k] ∧ Q (.int (if k then 1 else 0)) H) ∨ ∃ a n, xs = [.str a] ∧ PySem.intText? a = some n ∧ a.length ≤ 640 ∧ Q (.int n) H
theorem cr_intM {X : Cx} : CallR X (.type "int") rIntM := CallR.or call_int1 call_int_str
theorem cs_int : CallS K bInt rIntM := by
  intro xs z vs Hk H Q e ex r q qn
  unfold bInt at e
  split at e
  · cases e
    exact .inl (.inl ⟨_, rvs_int1 r, q _ (RV.int.mpr rfl)⟩)
  · cases e
    obtain ⟨v, rfl, rv⟩ := rvs1 r
    exact .inl (.inr ⟨_, by rw [RV.bl.mp rv], q _ (RV.int.mpr rfl)⟩)
  · split at e
    · rename_i s hs
      cases en : PySem.intText? s with
      | none => rw [en] at e; cases e
      | some n =>
        rw [en] at e
        cases e
        obtain ⟨v, rfl, rv⟩ := rvs1 r
        exact .inr ⟨s, n, by rw [RV.str.mp rv], en, of_decide_eq_true hs, q _ (RV.int.mpr rfl)⟩
    · cases e
  · cases e
def bStr : List MV → Option MV
  | [.int i] => if decide (i.natAbs.log2 < 1920) then some (.str (toString i)) else none
  | _ => none
theorem cs_str : CallS K bStr (fun xs H Q => ∃ i, xs = [.int i] ∧ i.natAbs.log2 < 1920 ∧ Q (.str (toString i)) H) := by
  intro xs z vs Hk H Q e ex r q qn
  unfold bStr at e
  split at e
  · split at e
    · rename_i h
      cases e
      exact ⟨_, rvs_int1 r, of_decide_eq_true h, q _ (RV.str.mpr rfl)⟩
    · cases e
  · cases e
def blsOf : List MV → Option (List Bool)
  | [] => some []
  | .bl b :: r => (blsOf r).map (b :: ·)
  | _ => none
theorem bls_rv {H : Hp} : ∀ {xs : List MV} {bs : List Bool} {vs : List V}, blsOf xs = some bs → RVs K H xs vs → vs = bs.map V.bl
  | [], bs, vs, e, r => by cases e; rw [RVs.nil.mp r]; rfl
  | .bl b :: r', bs, vs, e, r => by
    unfold blsOf at e
    cases h : blsOf r' with
    | none => rw [h] at e; cases e
    | some cs =>
      rw [h] at e
      cases e
      obtain ⟨v, us, rfl, q1, q2⟩ := RVs.cons.mp r
      rw [RV.bl.mp q1, bls_rv h q2]; rfl
  | .non :: _, _, _, e, _ => by cases e
  | .int _ :: _, _, _, e, _ => by cases e
  | .str _ :: _, _, _, e, _ => by cases e
  | .tup _ :: _, _, _, e, _ => by cases e
  | .lst _ :: _, _, _, e, _ => by cases e
  | .own _ :: _, _, _, e, _ => by cases e
  | .raw _ :: _, _, _, e, _ => by cases e
  | .scr _ :: _, _, _, e, _ => by cases e
  | .fnc _ :: _, _, _, e, _ => by cases e
  | .obj _ _ :: _, _, _, e, _ => by cases e
  | .dct _ _ :: _, _, _, e, _ => by cases e
  | .dow _ _ :: _, _, _, e, _ => by cases e
  | .dot _ _ :: _, _, _, e, _ => by cases e
def bAll : List MV → Option MV
  | [.lst xs] => (blsOf xs).map fun bs => .bl (bs.all id)
  | _ => none
theorem cs_all : CallS K bAll (rAll K) := by
  intro xs z vs Hk H Q e ex r q qn
  unfold bAll at e
  split at e
  · rename_i ys
    cases h : blsOf ys with
    | none => rw [h] at e; cases e
    | some bs =>
      rw [h] at e
      cases e
      obtain ⟨v, rfl, rv⟩ := rvs1 r
      obtain ⟨p1, ws, rfl, h1, s1⟩ := RV.lst.mp rv
      have ew := bls_rv h s1
      subst ew
      exact ⟨p1, bs, rfl, SqL.of (ex _ _ h1), q _ (RV.bl.mpr rfl)⟩
  · cases e
inductive Kd where
  | non | bl | int | str | tup | lst
  deriving DecidableEq
def Kd.name : Kd → String
  | .non => "NoneType" | .bl => "bool" | .int => "int" | .str => "str" | .tup => "tuple" | .lst => "list"
def MV.kd : MV → Option Kd
  | .non => some .non | .bl _ => some .bl | .int _ => some .int | .str _ => some .str | .tup _ => some .tup | .lst _ => some .lst
  | _ => none
def kdOf : String → Option Kd
  | "bool" => some .bl | "int" => some .int | "str" => some .str | "tuple" => some .tup | "list" => some .lst
  | _ => none
def Kd.isa (a b : Kd) : Bool := decide (a = b) || (decide (a = .bl) && decide (b = .int))
theorem kit_kd (a b : Kd) (h : b ≠ .non) : kitB a.name b.name = some (a.isa b) := by
  cases a <;> cases b <;> first | exact (h rfl).elim | decide +kernel
def bIsi : List MV → Option MV
  | [x, .raw (.ty T)] => match x.kd, kdOf T with
    | some a, some b => some (.bl (a.isa b))
    | _, _ => none
  | _ => none
theorem kdOf_name {T : String} {b : Kd} (h : kdOf T = some b) : T = b.name ∧ b ≠ .non := by
  unfold kdOf at h
  split at h <;> first | (cases h; exact ⟨rfl, by decide⟩) | cases h
theorem ty_of {Hk H : Hp} {x : MV} {v : V} {a : Kd} (ex : Ex Hk H) (r : RV K Hk x v) (h : x.kd = some a) : TyX K H v (.type a.name) := by
  cases x with
  | non => cases h; rw [RV.non.mp r]; exact .base .non
  | bl b => cases h; rw [RV.bl.mp r]; exact .base (.bl b)
  | int b => cases h; rw [RV.int.mp r]; exact .base (.int b)
  | str b => cases h; rw [RV.str.mp r]; exact .base (.str b)
  | tup xs =>
    cases h
    obtain ⟨p, vs, rfl, h1, _⟩ := RV.tup.mp r
    rcases ex_t ex h1 with (h1 | ⟨o, h1⟩) | ⟨o, its, n, h1, h2, _⟩
    · exact .base (.tup h1)
    · exact .fTuple h1
    · exact .kTuple h1 h2
  | lst xs =>
    cases h
    obtain ⟨p, vs, rfl, h1, _⟩ := RV.lst.mp r
    exact .base (.lst (ex _ _ h1))
  | _ => cases h
theorem cs_isi : CallS K bIsi (rIsi K) := by
  intro xs z vs Hk H Q e ex r q qn
  unfold bIsi at e
  split at e
  · rename_i x T
    split at e
    · rename_i a b e1 e2
      cases e
      obtain ⟨v, w, rfl, r1, r2⟩ := rvs2' r
      obtain ⟨et, nb⟩ := kdOf_name e2
      refine ⟨v, w, _, .type T, _, rfl, ?_, ty_of ex r1 e1, ?_, q _ (RV.bl.mpr rfl)⟩
      · rw [RV.raw.mp r2]; exact .ty T
      · subst et; exact kit_ty (kit_kd a b nb)
    · cases e
  · cases e
end
section
variable {X : Cx} {c : Ct} {p pos : Pos} {e e2 : Expr} {es : List Expr} {a : MA}
theorem mb_len (hm : X.mg "len" = none) (ha : PA X [e] (rdA c a)) (hK : c.K = X.K := by rfl) (hg : Gl X "len" := by rfl) (he : starEach [e] X.env = (false, eval e X.env) :: starEach [] X.env := by rfl) (hpl : (backTo pos (starEach [] X.env)).any (·.1) = false := by rfl) : PE X (.Call (.Name "len" p) [e] [] pos) (rdE c (mBlt bLen a)) :=
  me_blt cr_lenM (by rw [← hK]; exact cs_len) hm PySem.boot_len ha hg (he := he) (hpl := hpl)
theorem mb_abs (hm : X.mg "abs" = none) (ha : PA X [e] (rdA c a)) (hg : Gl X "abs" := by rfl) (he : starEach [e] X.env = (false, eval e X.env) :: starEach [] X.env := by rfl) (hpl : (backTo pos (starEach [] X.env)).any (·.1) = false := by rfl) : PE X (.Call (.Name "abs" p) [e] [] pos) (rdE c (mBlt bAbs a)) :=
  me_blt call_abs cs_abs hm (by decide +kernel) ha hg (he := he) (hpl := hpl)
theorem mb_max (hc : X.calm = true) (hm : X.mg "max" = none) (ha : PA X [e, e2] (rdA c a)) (hg : Gl X "max" := by rfl) (he : starEach [e, e2] X.env = (false, eval e X.env) :: starEach [e2] X.env := by rfl) (hpl : (backTo pos (starEach [e2] X.env)).any (·.1) = false := by rfl) : PE X (.Call (.Name "max" p) [e, e2] [] pos) (rdE c (mBlt bMax a)) :=
  me_blt (call_max2 hc) cs_max hm (by decide +kernel) ha hg (he := he) (hpl := hpl)
theorem mb_min (hc : X.calm = true) (hm : X.mg "min" = none) (ha : PA X [e, e2] (rdA c a)) (hg : Gl X "min" := by rfl) (he : starEach [e, e2] X.env = (false, eval e X.env) :: starEach [e2] X.env := by rfl) (hpl : (backTo pos (starEach [e2] X.env)).any (·.1) = false := by rfl) : PE X (.Call (.Name "min" p) [e, e2] [] pos) (rdE c (mBlt bMin a)) :=
  me_blt (call_min2 hc) cs_min hm (by decide +kernel) ha hg (he := he) (hpl := hpl)
theorem mb_int (hm : X.mg "int" = none) (ha : PA X [e] (rdA c a)) (hg : Gl X "int" := by rfl) (he : starEach [e] X.env = (false, eval e X.env) :: starEach [] X.env := by rfl) (hpl : (backTo pos (starEach [] X.env)).any (·.1) = false := by rfl) : PE X (.Call (.Name "int" p) [e] [] pos) (rdE c (mBlt bInt a)) :=
  me_ty cr_intM cs_int hm (by decide +kernel) ha hg (he := he) (hpl := hpl)
theorem mb_str (hm : X.mg "str" = none) (ha : PA X [e] (rdA c a)) (hg : Gl X "str" := by rfl) (he : starEach [e] X.env = (false, eval e X.env) :: starEach [] X.env := by rfl) (hpl : (backTo pos (starEach [] X.env)).any (·.1) = false := by rfl) : PE X (.Call (.Name "str" p) [e] [] pos) (rdE c (mBlt bStr a)) :=
  me_ty call_str_int cs_str hm (by decide +kernel) ha hg (he := he) (hpl := hpl)
theorem mb_all (hc : X.calm = true) (hm : X.mg "all" = none) (ha : PA X [e] (rdA c a)) (hK : c.K = X.K := by rfl) (hg : Gl X "all" := by rfl) (he : starEach [e] X.env = (false, eval e X.env) :: starEach [] X.env := by rfl) (hpl : (backTo pos (starEach [] X.env)).any (·.1) = false := by rfl) : PE X (.Call (.Name "all" p) [e] [] pos) (rdE c (mBlt bAll a)) :=
  me_blt (cr_all hc) (by rw [← hK]; exact cs_all) hm (by decide +kernel) ha hg (he := he) (hpl := hpl)
theorem mb_isi (hm : X.mg "isinstance" = none) (ha : PA X [e, e2] (rdA c a)) (hK : c.K = X.K := by rfl) (hg : Gl X "isinstance" := by rfl) (he : starEach [e, e2] X.env = (false, eval e X.env) :: starEach [e2] X.env := by rfl) (hpl : (backTo pos (starEach [e2] X.env)).any (·.1) = false := by rfl) : PE X (.Call (.Name "isinstance" p) [e, e2] [] pos) (rdE c (mBlt bIsi a)) :=
  me_blt call_isi (by rw [← hK]; exact cs_isi) hm (by decide +kernel) ha hg (he := he) (hpl := hpl)
end
end Tm
set_option Elab.async false
set_option linter.all false
set_option maxRecDepth 100000
set_option maxHeartbeats 2000000
namespace Tm
open PySem L2
open Evl (Ex ex_rd ex_l ex_t)
section
variable {X : Cx} {c : Ct} {p pos apos cpos : Pos} {e e2 : Expr} {es : List Expr} {a b : ME} {m : MA} {x : Str} {i : Nat}
def isOwn (ρ : Env) (i : Nat) : Bool := match ρ[i]? with | some (some (.own _)) => true | _ => false
theorem own_rs {F Hk H : Hp} {bp : List (Nat × Addr)} {σ : St} {ρ : Env} {i : Nat} (S : At c F Hk H bp σ ρ) (h : isOwn ρ i = true) : ∃ q vs, σ[i]? = some (some (.ref q)) ∧ H q = some (.lst vs) := by
  unfold isOwn at h
  split at h
  · rename_i xs e
    obtain ⟨q, vs, e1, e2, _⟩ := S.1.getOwn e
    exact ⟨q, vs, e1, e2⟩
  · cases h
theorem change_rs {F Hk H : Hp} {bp : List (Nat × Addr)} {σ : St} {ρ : Env} {i : Nat} {xs ys : List MV} {q : Addr} (S : At c F Hk H bp σ ρ) (h : ρ[i]? = some (some (.own xs))) (eq : σ[i]? = some (some (.ref q))) :
    ∃ vs, H q = some (.lst vs) ∧ RVs c.K Hk xs vs ∧ ∀ ws, RVs c.K Hk ys ws → RS c.K F Hk (upd H q (.lst ws)) bp σ (ρ.set i (some (.own ys))) := by
  obtain ⟨p, vs, e1, e2, e3, e4⟩ := S.1.change (ys := ys) h
  rw [eq] at e1
  cases e1
  exact ⟨vs, e2, e3, e4⟩
def mLm (f : List MV → List MV → Option (List MV × MV)) (i : Nat) (a : MA) : ME := fun ρ => if isOwn ρ i then (a ρ).bind fun ys ρ1 => match ρ1[i]? with
  | some (some (.own xs)) => (match f xs ys with | some (zs, z) => .ok (z, ρ1.set i (some (.own zs))) | none => .stuck)
  | _ => .stuck else .stuck
def LmS (K : PySem.W.Frag) (f : List MV → List MV → Option (List MV × MV)) (r : V → List V → Hp → VK → Prop) : Prop := ∀ (xs ys zs : List MV) (z : MV) (q : Addr) (vs us : List V) (Hk H : Hp) (Q : VK), f xs ys = some (zs, z) → Ex Hk H → H q = some (.lst vs) → RVs K Hk xs vs → RVs K Hk ys us →
  (∀ ws u, RVs K Hk zs ws → RV K Hk z u → Q u (upd H q (.lst ws))) → r (.ref q) us H Q
theorem rd_lm {f : List MV → List MV → Option (List MV × MV)} {r : V → List V → Hp → VK → Prop} (o : LmS c.K f r) {σ : St} {H : Hp} {Q : VK} (h : rdE c (mLm f i m) σ H Q) : tBM c.K "list" r (tVar i) (rdA c m) σ H Q := by
  obtain ⟨F, Hk, bp, ρ, S, h⟩ := h
  unfold mLm at h
  split at h
  · rename_i ho
    obtain ⟨q, vs0, eq, hq⟩ := own_rs S ho
    refine ⟨_, eq, .inl ⟨rfl, _, SqL.of hq⟩, ?_⟩
    refine rdAw (bA postE S h) fun us H1 ⟨Hk1, ys, ρ1, x1, S1, r1, h1⟩ => ?_
    split at h1
    · rename_i xs ex
      split at h1
      · rename_i zs z ef
        obtain ⟨vs, g1, g2, g3⟩ := change_rs (ys := zs) S1 ex eq
        exact o xs ys zs z q vs us Hk1 H1 Q ef S1.1.ex g1 g2 r1 fun ws u r2 r3 => h1 _ _ u (Ex.refl _) (g3 ws r2) r3
      · exact h1.elim
    · exact h1.elim
  · exact h.elim
def lmAppend : List MV → List MV → Option (List MV × MV)
  | xs, [y] => if decide (xs.length < sizeLine) then some (xs ++ [y], .non) else none
  | _, _ => none
theorem ls_append {K : PySem.W.Frag} : LmS K lmAppend rAppend := by
  intro xs ys zs z q vs us Hk H Q e ex hq r1 r2 k
  unfold lmAppend at e
  split at e
  · split at e
    · rename_i h
      cases e
      obtain ⟨v, rfl, rv⟩ := rvs1 r2
      refine ⟨q, vs, v, rfl, rfl, hq, by rw [r1.length]; exact of_decide_eq_true h, k _ _ (r1.append ?_) (RV.non.mpr rfl)⟩
      exact RVs.cons.mpr ⟨v, [], rfl, rv, RVs.nil.mpr rfl⟩
    · cases e
  · cases e
theorem me_lm1 {f : List MV → List MV → Option (List MV × MV)} {r : V → List V → Hp → VK → Prop} {id : String} {name : Str} (o : LmS c.K f r) (slot : Slot "list" name id) (hty : typeOf (.builtin id) = pure (.type "method_descriptor")) (hm : MtR X id r) (hN : X.N[i]? = some x) (hv : Vis X.env.scope x) (ha : PA X (e :: es) (rdA c m)) (hK : c.K = X.K := by rfl)
    (hbase : attributeBase (.Name x p) name X.env (eval (.Name x p) X.env) = eval (.Name x p) X.env := by rfl)
    (hfew : ((backTo cpos (starEach (e :: es) X.env)).all (fun x => !x.1) && (backToKw cpos (keywordEach [] X.env)).all (fun x => x.1.isSome)
      && decide ((e :: es).length + ([] : List Keyword).length + (if ([] : List Keyword).isEmpty then 0 else 1) < 30)) = true := by rfl)
    (hline : (apos.endLine == cpos.line) = true := by rfl) (hs : starEach (e :: es) X.env = (false, eval e X.env) :: starEach es X.env := by rfl) (hplain : (backTo cpos (starEach es X.env)).any (·.1) = false := by rfl)
    (hd : (x == ("__debug__" : Str)) = false := by decide) (hcd : (x == ("__classdict__" : Str)) = false := by decide) : PE X (.Call (.Attribute (.Name x p) name apos) (e :: es) [] cpos) (rdE c (mLm f i m)) :=
  PEw (pe_bm PySem.F.plainAttrs_list slot hty hm (pe_var hN hv hd hcd) ha hbase hfew hline hs hplain) fun σ H Q h => by
    have := rd_lm o h
    rw [hK] at this
    exact this
end
end Tm
set_option Elab.async false
set_option linter.all false
set_option maxRecDepth 100000
set_option maxHeartbeats 2000000
namespace Tm
open PySem L2
open Evl (Ex ex_rd ex_l ex_t)
inductive Tgt where
  | nm (i : Nat) | tp (is : List Nat)
def gsOf : List Nat → TGs
  | [] => gNil
  | i :: is => gCons (gName i) (gsOf is)
def gOf (K : PySem.W.Frag) : Tgt → TG
  | .nm i => gName i
  | .tp is => gTup K is.length (gsOf is)
def setAll : List Nat → List MV → Env → Option Env
  | [], [], ρ => some ρ
  | i :: is, x :: xs, ρ => if i < ρ.length then setAll is xs (ρ.set i (some x)) else none
  | _, _, _ => none
def setT (t : Tgt) (x : MV) (ρ : Env) : Option Env := match t with
  | .nm i => if i < ρ.length then some (ρ.set i (some x)) else none
  | .tp is => match x with
    | .tup xs => if xs.length = is.length then setAll is xs ρ else none
    | _ => none
def Tgt.slots : Tgt → List Nat
  | .nm i => [i]
  | .tp is => is
theorem wipe_get (σ : St) : ∀ (vs : List Nat) (j : Nat), (wipe σ vs)[j]? = if j ∈ vs ∧ j < σ.length then some none else σ[j]?
  | [], j => by simp [wipe]
  | v :: vs, j => by
    unfold wipe
    by_cases e : v = j
    · subst e
      by_cases hl : v < σ.length
      · rw [List.getElem?_set_self (by rw [wipe_length]; exact hl), if_pos ⟨by simp, hl⟩]
      · rw [if_neg (by intro h; exact hl h.2), List.getElem?_eq_none (by rw [List.length_set, wipe_length]; omega), List.getElem?_eq_none (by omega)]
    · rw [List.getElem?_set_ne e, wipe_get σ vs j]
      by_cases hm : j ∈ vs ∧ j < σ.length
      · rw [if_pos hm, if_pos ⟨List.mem_cons_of_mem _ hm.1, hm.2⟩]
      · rw [if_neg hm, if_neg (fun h => hm ⟨(List.mem_cons.mp h.1).resolve_left (Ne.symm e), h.2⟩)]
theorem wipe_set {σ : St} {vs : List Nat} {i : Nat} {y : Option V} (h : i ∈ vs) : wipe (σ.set i y) vs = wipe σ vs := by
  refine List.ext_getElem? fun j => ?_
  rw [wipe_get, wipe_get, List.length_set]
  by_cases hm : j ∈ vs ∧ j < σ.length
  · rw [if_pos hm, if_pos hm]
  · rw [if_neg hm, if_neg hm]
    by_cases e : i = j
    · subst e
      have : σ.length ≤ i := Nat.le_of_not_lt fun z => hm ⟨h, z⟩
      rw [List.getElem?_eq_none (by simpa using this), List.getElem?_eq_none this]
    · rw [List.getElem?_set_ne e]
theorem wipe_wipe (σ : St) (vs : List Nat) : wipe (wipe σ vs) vs = wipe σ vs := by
  refine List.ext_getElem? fun j => ?_
  rw [wipe_get, wipe_length, wipe_get]
  by_cases hm : j ∈ vs ∧ j < σ.length
  · rw [if_pos hm, if_pos hm]
  · rw [if_neg hm]
def wipeM (ρ : Env) : List Nat → Env
  | [] => ρ
  | v :: vs => (wipeM ρ vs).set v none
theorem wipeM_len (ρ : Env) : ∀ vs : List Nat, (wipeM ρ vs).length = ρ.length
  | [] => rfl
  | v :: vs => by unfold wipeM; rw [List.length_set, wipeM_len ρ vs]
theorem wipeM_get (σ : Env) : ∀ (vs : List Nat) (j : Nat), (wipeM σ vs)[j]? = if j ∈ vs ∧ j < σ.length then some none else σ[j]?
  | [], j => by simp [wipeM]
  | v :: vs, j => by
    unfold wipeM
    by_cases e : v = j
    · subst e
      by_cases hl : v < σ.length
      · rw [List.getElem?_set_self (by rw [wipeM_len]; exact hl), if_pos ⟨by simp, hl⟩]
      · rw [if_neg (by intro h; exact hl h.2), List.getElem?_eq_none (by rw [List.length_set, wipeM_len]; omega), List.getElem?_eq_none (by omega)]
    · rw [List.getElem?_set_ne e, wipeM_get σ vs j]
      by_cases hm : j ∈ vs ∧ j < σ.length
      · rw [if_pos hm, if_pos ⟨List.mem_cons_of_mem _ hm.1, hm.2⟩]
      · rw [if_neg hm, if_neg (fun h => hm ⟨(List.mem_cons.mp h.1).resolve_left (Ne.symm e), h.2⟩)]
def perAt (ρ : Env) (vs : List Nat) : Bool := vs.all fun i => match ρ[i]? with
  | some (some x) => x.per
  | _ => true
def backM (ρ ρ' : Env) (vs : List Nat) : Env := vs.foldl (fun r i => r.set i ((ρ[i]?).join)) ρ'
section
variable {K : PySem.W.Frag} {F Hk H : Hp} {bp : List (Nat × Addr)} {σ : St} {ρ : Env}
theorem SL.setNone {ow : Nat → List Addr} (S : SL K F Hk H ow σ ρ) {i : Nat} : SL K F Hk H (put ow i []) (σ.set i none) (ρ.set i none) := by
  refine ⟨fun j y h => ?_, fun j a h => ?_, fun j h => ?_, fun j k a hjk h => ?_⟩
  · rcases set_get h with ⟨_, e⟩ | ⟨ne, e⟩
    · cases e
    · obtain ⟨u, e1, e2⟩ := S.s j y e
      exact ⟨u, by rw [List.getElem?_set_ne (Ne.symm ne)]; exact e1, by rw [put_ne ne]; exact e2⟩
  · by_cases e : j = i
    · rw [e, put_same] at h; cases h
    · rw [put_ne e] at h; exact S.f j a h
  · by_cases e : j = i
    · rw [e, put_same] at h; exact (h rfl).elim
    · rw [put_ne e] at h; rw [List.length_set]; exact S.w j h
  · by_cases e : j = i
    · rw [e, put_same] at h; cases h
    · rw [put_ne e] at h
      by_cases e2 : k = i
      · rw [e2, put_same]; simp
      · rw [put_ne e2]; exact S.d j k a hjk h
theorem RS.setNone (S : RS K F Hk H bp σ ρ) {i : Nat} (hb : ∀ q ∈ bp, q.1 ≠ i) : RS K F Hk H bp (σ.set i none) (ρ.set i none) := by
  obtain ⟨ow, s⟩ := S.ow
  exact ⟨by simp [S.len], S.ex, S.fr, S.frk, ⟨_, s.setNone⟩, fun q hq => by rw [List.getElem?_set_ne (Ne.symm (hb q hq))]; exact S.bor q hq⟩
theorem RS.wipe (S : RS K F Hk H bp σ ρ) : ∀ vs : List Nat, (∀ q ∈ bp, q.1 ∉ vs) → RS K F Hk H bp (L2.wipe σ vs) (wipeM ρ vs)
  | [], _ => S
  | v :: vs, hb => (RS.wipe S vs fun q hq z => hb q hq (List.mem_cons_of_mem _ z)).setNone fun q hq z => hb q hq (by rw [z]; simp)
theorem RS.back (S : RS K F Hk H bp (L2.wipe σ vs) (wipeM ρ' vs)) (S0 : ∀ i ∈ vs, ∀ x, ρ[i]? = some (some x) → ∃ v, σ[i]? = some (some v) ∧ RV K Hk x v) (hl : ρ.length = ρ'.length) (hl2 : σ.length = ρ.length) (hb : ∀ q ∈ bp, q.1 ∉ vs) : RS K F Hk H bp σ (backM ρ ρ' vs) := by
  have gb : ∀ (vs : List Nat) (r : Env) (j : Nat), r.length = ρ.length → (vs.foldl (fun r i => r.set i ((ρ[i]?).join)) r)[j]? = if j ∈ vs ∧ j < ρ.length then some ((ρ[j]?).join) else r[j]? := fun vs => by
    induction vs with
    | nil => intro r j _; simp
    | cons v vs ih =>
      intro r j hr
      rw [List.foldl_cons, ih _ j (by rw [List.length_set]; exact hr)]
      by_cases hm : j ∈ vs ∧ j < ρ.length
      · rw [if_pos hm, if_pos ⟨List.mem_cons_of_mem _ hm.1, hm.2⟩]
      · rw [if_neg hm]
        by_cases e : v = j
        · subst e
          by_cases hl : v < ρ.length
          · rw [List.getElem?_set_self (by rw [hr]; exact hl), if_pos ⟨by simp, hl⟩]
          · rw [if_neg (by intro h; exact hl h.2), List.getElem?_eq_none (by rw [List.length_set, hr]; omega), List.getElem?_eq_none (by omega)]
        · rw [List.getElem?_set_ne e, if_neg (fun h => hm ⟨(List.mem_cons.mp h.1).resolve_left (Ne.symm e), h.2⟩)]
  have gl : ∀ (vs : List Nat) (r : Env), (vs.foldl (fun r i => r.set i ((ρ[i]?).join)) r).length = r.length := fun vs => by
    induction vs with
    | nil => intro r; rfl
    | cons v vs ih => intro r; rw [List.foldl_cons, ih, List.length_set]
  obtain ⟨ow, s⟩ := S.ow
  have lb : (backM ρ ρ' vs).length = ρ.length := by unfold backM; rw [gl, ← hl]
  refine ⟨by rw [lb, hl2], S.ex, S.fr, S.frk, ⟨fun j => if j ∈ vs then [] else ow j, fun j y h => ?_, fun j a h => ?_, fun j h => ?_, fun j k a hjk h => ?_⟩, fun q hq => ?_⟩
  · unfold backM at h
    rw [gb vs ρ' j hl.symm] at h
    by_cases hm : j ∈ vs ∧ j < ρ.length
    · rw [if_pos hm] at h
      have e : ρ[j]? = some (some y) := by
        cases er : ρ[j]? with
        | none => rw [er] at h; cases h
        | some o => rw [er] at h; cases o with
          | none => cases h
          | some z => cases h; rfl
      obtain ⟨v, e1, r⟩ := S0 j hm.1 y e
      exact ⟨v, e1, by rw [if_pos hm.1]; exact r.ov⟩
    · rw [if_neg hm] at h
      have nj : j ∉ vs := fun z => hm ⟨z, by rw [hl]; exact lt_get h⟩
      obtain ⟨v, e1, o⟩ := s.s j y (by rw [wipeM_get, if_neg (fun z => nj z.1)]; exact h)
      rw [wipe_get, if_neg (fun z => nj z.1)] at e1
      exact ⟨v, e1, by rw [if_neg nj]; exact o⟩
  · by_cases e : j ∈ vs
    · rw [if_pos e] at h; cases h
    · rw [if_neg e] at h; exact s.f j a h
  · by_cases e : j ∈ vs
    · rw [if_pos e] at h; exact (h rfl).elim
    · rw [if_neg e] at h; have := s.w j h; rw [wipeM_len] at this; rw [lb, hl]; exact this
  · by_cases e : j ∈ vs
    · rw [if_pos e] at h; cases h
    · rw [if_neg e] at h
      by_cases e2 : k ∈ vs
      · rw [if_pos e2]; simp
      · rw [if_neg e2]; exact s.d j k a hjk h
  · have := S.bor q hq
    rw [wipe_get, if_neg (fun z => hb q hq z.1)] at this
    exact this
end
section
variable {X : Cx} {c : Ct}
theorem gs_rd {F Hk H : Hp} {bp : List (Nat × Addr)} {vs0 : List Nat} (hb : ∀ q ∈ bp, q.1 ∉ vs0) : ∀ (is : List Nat) (xs : List MV) (ws : List V) (σ : St) (ρ ρ' : Env) (Q : St → Hp → Prop), (∀ i ∈ is, i ∈ vs0) → RS c.K F Hk H bp σ ρ → RVs c.K Hk xs ws → setAll is xs ρ = some ρ' →
    (∀ σ', RS c.K F Hk H bp σ' ρ' → wipe σ' vs0 = wipe σ vs0 → Q σ' H) → gsOf is ws σ H Q
  | [], [], ws, σ, ρ, ρ', Q, _, S, r, e, k => by
    cases e
    exact ⟨RVs.nil.mp r, k σ S rfl⟩
  | [], x :: xs, ws, σ, ρ, ρ', Q, _, S, r, e, k => by cases e
  | i :: is, [], ws, σ, ρ, ρ', Q, _, S, r, e, k => by cases e
  | i :: is, x :: xs, ws, σ, ρ, ρ', Q, hi, S, r, e, k => by
    obtain ⟨v, us, rfl, r1, r2⟩ := RVs.cons.mp r
    unfold setAll at e
    split at e
    · rename_i hl
      have hm := hi i (by simp)
      refine ⟨v, us, rfl, ?_⟩
      refine gs_rd hb is xs us _ _ ρ' Q (fun j hj => hi j (List.mem_cons_of_mem _ hj)) (S.set hl r1 fun q hq z => hb q hq (z ▸ hm)) r2 e fun σ' S' w => k σ' S' (by rw [w, wipe_set hm])
    · cases e
theorem g_rd {F Hk H : Hp} {bp : List (Nat × Addr)} {vs0 : List Nat} (hb : ∀ q ∈ bp, q.1 ∉ vs0) {t : Tgt} {x : MV} {v : V} {σ : St} {ρ ρ' : Env} {Q : St → Hp → Prop} (hi : ∀ i ∈ t.slots, i ∈ vs0) (S : RS c.K F Hk H bp σ ρ) (r : RV c.K Hk x v) (e : setT t x ρ = some ρ')
    (k : ∀ σ', RS c.K F Hk H bp σ' ρ' → wipe σ' vs0 = wipe σ vs0 → Q σ' H) : gOf c.K t v σ H Q := by
  cases t with
  | nm i =>
    have e : (if i < ρ.length then some (ρ.set i (some x)) else none) = some ρ' := e
    split at e
    · rename_i hl
      cases e
      have hm := hi i (by simp [Tgt.slots])
      exact k _ (S.set hl r fun q hq z => hb q hq (z ▸ hm)) (wipe_set hm)
    · cases e
  | tp is =>
    cases x with
    | tup xs =>
      have e : (if xs.length = is.length then setAll is xs ρ else none) = some ρ' := e
      split at e
      · rename_i hl
        obtain ⟨a, ws, rfl, h1, s1⟩ := RV.tup.mp r
        exact ⟨a, ws, rfl, ex_t S.ex h1, by rw [s1.length, hl], gs_rd hb is xs ws σ ρ ρ' Q hi S s1 e k⟩
      · cases e
    | _ => cases e
def Res.b0 {α β : Type} (r : Res (α × Env)) (f : α → Env → Res (β × Env)) : Res (β × Env) :=
  match r with
  | .ok (x, ρ) => f x ρ
  | _ => .stuck
def mLcLoop (g : Tgt) (t : MT) (e : ME) (vs : List Nat) : List MV → List MV → Env → Res (List MV × Env)
  | [], acc, ρ => .ok (acc, ρ)
  | x :: xs, acc, ρ => match setT g x (wipeM ρ vs) with
    | none => .stuck
    | some ρ1 => (t ρ1).b0 fun b ρ2 => if b then (e ρ2).b0 fun y ρ3 => (if acc.length < sizeLine ∧ ρ3.length = ρ.length then mLcLoop g t e vs xs (acc ++ [y]) ρ3 else .stuck) else if ρ2.length = ρ.length then mLcLoop g t e vs xs acc ρ2 else .stuck
def mYes : MT := fun ρ => .ok (true, ρ)
def mLcO (it : MI) (g : Tgt) (t : MT) (e : ME) (vs : List Nat) : ME := fun ρ => (it ρ).bind fun xs ρ1 => if perAt ρ1 vs then (mLcLoop g t e vs xs [] ρ1).b0 fun ys ρ2 => .ok (.own ys, backM ρ1 ρ2 vs) else .stuck
theorem b0E {F Hk H : Hp} {bp : List (Nat × Addr)} {σ : St} {ρ : Env} {β : Type} {P : Hp → Res (β × Env) → Prop} (st : ∀ Hk, ¬ P Hk .stuck) (mo : ∀ Hk Hk' r, Ex Hk Hk' → P Hk r → P Hk' r) {a : ME} {k : MV → Env → Res (β × Env)} (S : At c F Hk H bp σ ρ) (h : P Hk ((a ρ).b0 k)) :
    rdE c a σ H fun v H1 => ∃ Hk1 x ρ1, Ex Hk Hk1 ∧ At c F Hk1 H1 bp σ ρ1 ∧ RV c.K Hk1 x v ∧ P Hk1 (k x ρ1) := by
  refine ⟨F, Hk, bp, ρ, S, ?_⟩
  cases e : a ρ with
  | stuck => rw [e] at h; exact st _ h
  | exc x ρ' => rw [e] at h; exact (st _ h).elim
  | ok q =>
    rw [e] at h
    exact fun Hk1 H1 v x1 S1 r1 => ⟨Hk1, q.1, q.2, x1, ⟨S1, S.2⟩, r1, mo _ _ _ x1 h⟩
theorem b0T {F Hk H : Hp} {bp : List (Nat × Addr)} {σ : St} {ρ : Env} {β : Type} {P : Hp → Res (β × Env) → Prop} (st : ∀ Hk, ¬ P Hk .stuck) (mo : ∀ Hk Hk' r, Ex Hk Hk' → P Hk r → P Hk' r) {a : MT} {k : Bool → Env → Res (β × Env)} (S : At c F Hk H bp σ ρ) (h : P Hk ((a ρ).b0 k)) :
    rdT c a σ H fun b H1 => ∃ Hk1 ρ1, Ex Hk Hk1 ∧ At c F Hk1 H1 bp σ ρ1 ∧ P Hk1 (k b ρ1) := by
  refine ⟨F, Hk, bp, ρ, S, ?_⟩
  cases e : a ρ with
  | stuck => rw [e] at h; exact st _ h
  | exc x ρ' => rw [e] at h; exact (st _ h).elim
  | ok q =>
    rw [e] at h
    exact fun Hk1 H1 x1 S1 => ⟨Hk1, q.2, x1, ⟨S1, S.2⟩, mo _ _ _ x1 h⟩
def okB (c : Ct) (F Hk : Hp) (bp : List (Nat × Addr)) (σ : St) (Q : VK) (ρ0 : Env) (vs : List Nat) : Res (List MV × Env) → Prop
  | .ok (ys, ρ') => okO c F Hk bp σ Q (.ok (.own ys, backM ρ0 ρ' vs))
  | _ => False
theorem okB.mono {F Hk Hk' : Hp} {bp : List (Nat × Addr)} {σ : St} {Q : VK} {ρ0 : Env} {vs : List Nat} {r : Res (List MV × Env)} (x : Ex Hk Hk') (h : okB c F Hk bp σ Q ρ0 vs r) : okB c F Hk' bp σ Q ρ0 vs r := by
  cases r with
  | ok a => exact okO.mono (r := .ok (.own a.1, backM ρ0 a.2 vs)) x h
  | exc e ρ => exact h
  | stuck => exact h
theorem RS.inFr {K : PySem.W.Frag} {F Hk H : Hp} {bp : List (Nat × Addr)} {σ : St} {ρ : Env} {D : Addr} {xs : List V} (S : RS K F Hk H bp σ ρ) (h : H D = none) : RS K (upd F D (.lst xs)) Hk (upd H D (.lst xs)) bp σ ρ := by
  have S' := S.more (o := .lst xs) h
  obtain ⟨ow, s⟩ := S.ow
  refine ⟨S.len, S'.ex, S.fr.both h, fun a o ha => ?_, ⟨ow, fun i x hx => ?_, fun i a ha => ?_, s.w, s.d⟩, S.bor⟩
  · by_cases e : a = D
    · rw [e]; exact S.ex.back h
    · rw [upd_ne e] at ha; exact S.frk a o ha
  · obtain ⟨v, ev, o⟩ := s.s i x hx
    exact ⟨v, ev, o.move (Ex.refl _) fun a ha u hu => by rw [upd_ne (ne_of_none hu h)]; exact hu⟩
  · obtain ⟨g1, g2, o, g3⟩ := s.f i a ha
    have ne := ne_of_none g3 h
    exact ⟨g1, by rw [upd_ne ne]; exact g2, o, by rw [upd_ne ne]; exact g3⟩
theorem RS.grow {K : PySem.W.Frag} {F Hk H : Hp} {bp : List (Nat × Addr)} {σ : St} {ρ : Env} {D : Addr} {xs ys : List V} (S : RS K (upd F D (.lst xs)) Hk H bp σ ρ) : RS K (upd F D (.lst ys)) Hk (upd H D (.lst ys)) bp σ ρ := by
  have hk : Hk D = none := S.frk D _ upd_same
  obtain ⟨ow, s⟩ := S.ow
  have nd : ∀ i a, a ∈ ow i → a ≠ D := fun i a ha e => by
    have := (s.f i a ha).2.1
    rw [e, upd_same] at this
    cases this
  refine ⟨S.len, S.ex.mut hk, fun a o ha => ?_, fun a o ha => ?_, ⟨ow, fun i x hx => ?_, fun i a ha => ?_, s.w, s.d⟩, S.bor⟩
  · by_cases e : a = D
    · subst e; rw [upd_same] at ha ⊢; exact ha
    · rw [upd_ne e] at ha ⊢; exact S.fr a o (by rw [upd_ne e]; exact ha)
  · by_cases e : a = D
    · rw [e]; exact hk
    · rw [upd_ne e] at ha; exact S.frk a o (by rw [upd_ne e]; exact ha)
  · obtain ⟨v, ev, o⟩ := s.s i x hx
    exact ⟨v, ev, o.move (Ex.refl _) fun a ha u hu => by rw [upd_ne (nd i a ha)]; exact hu⟩
  · obtain ⟨g1, g2, o, g3⟩ := s.f i a ha
    exact ⟨g1, by have := nd i a ha; rw [upd_ne this] at g2 ⊢; exact g2, o, by rw [upd_ne (nd i a ha)]; exact g3⟩
theorem RS.outFr {K : PySem.W.Frag} {F Hk H : Hp} {bp : List (Nat × Addr)} {σ : St} {ρ : Env} {D : Addr} {vs : List V} {xs : List MV} (S : RS K (upd F D (.lst vs)) Hk H bp σ ρ) (hF : F D = none) (r : RVs K Hk xs vs) : RS K F Hk H bp (σ ++ [some (.ref D)]) (ρ ++ [some (.own xs)]) := by
  have hk : Hk D = none := S.frk D _ upd_same
  have hH : H D = some (.lst vs) := S.fr D _ upd_same
  have up : ∀ a o, F a = some o → upd F D (.lst vs) a = some o := fun a o ha => by rw [upd_ne (ne_of_none ha hF)]; exact ha
  obtain ⟨ow, s⟩ := S.ow
  have nd : ∀ i a, a ∈ ow i → a ≠ D := fun i a ha e => by
    have := (s.f i a ha).2.1
    rw [e, upd_same] at this
    cases this
  have s' : SL K F Hk H ow σ ρ := ⟨s.s, fun i a ha => by
    obtain ⟨g1, g2, g3⟩ := s.f i a ha
    exact ⟨g1, by rw [upd_ne (nd i a ha)] at g2; exact g2, g3⟩, s.w, s.d⟩
  refine ⟨by simp [S.len], S.ex, fun a o ha => S.fr a o (up a o ha), fun a o ha => S.frk a o (up a o ha), ⟨_, s'.push S.len (A := [D]) (OV.own.mpr ⟨D, vs, rfl, rfl, hH, r⟩) (fun a ha => ?_) (fun i a ha hi => ?_)⟩, S.bor_app _⟩
  · simp at ha; subst ha; exact ⟨hk, hF⟩
  · simp at ha; subst ha; exact nd i a hi rfl
theorem rd_lc {it : MI} {g : Tgt} {t : MT} {e : ME} {vs : List Nat} {σ : St} {H : Hp} {Q : VK} (hg : ∀ i ∈ g.slots, i ∈ vs) (hbs : ∀ i ∈ vs, c.bs.contains i = false) (h : rdO c (mLcO it g t e vs) σ H Q) : tLc (rdI c it) (gOf c.K g) (rdT c t) (rdE c e) vs σ H Q := by
  obtain ⟨F, Hk, bp, ρ, S, h⟩ := h
  have hb : ∀ q ∈ bp, q.1 ∉ vs := fun q hq z => nb S.2.1 (hbs _ z) q hq rfl
  refine ⟨F, Hk, bp, ρ, S, ?_⟩
  have h : okO c F Hk bp σ Q ((it ρ).bind fun xs ρ1 => if perAt ρ1 vs then (mLcLoop g t e vs xs [] ρ1).b0 fun ys ρ2 => .ok (.own ys, backM ρ1 ρ2 vs) else .stuck) := h
  cases ei : it ρ with
  | stuck => rw [ei] at h; exact h
  | exc x ρ' => rw [ei] at h; exact h
  | ok p =>
    obtain ⟨xs, ρ1⟩ := p
    rw [ei] at h
    intro Hk1 H1 J x1 S1 wk D hD
    have h : okO c F Hk1 bp σ Q (if perAt ρ1 vs then (mLcLoop g t e vs xs [] ρ1).b0 fun ys ρ2 => .ok (.own ys, backM ρ1 ρ2 vs) else .stuck) := okO.mono x1 h
    split at h
    · rename_i hper
      have h : okB c F Hk1 bp σ Q ρ1 vs (mLcLoop g t e vs xs [] ρ1) := by
        cases e2 : mLcLoop g t e vs xs [] ρ1 with
        | ok q => rw [e2] at h; exact h
        | exc x r => rw [e2] at h; exact h
        | stuck => rw [e2] at h; exact h
      have fD : F D = none := by
        cases e : F D with
        | none => rfl
        | some o => have := S1.fr D o e; rw [hD] at this; cases this
      have p0 : ∀ i ∈ vs, ∀ x, ρ1[i]? = some (some x) → ∃ v, σ[i]? = some (some v) ∧ RV c.K Hk1 x v := fun i hi x hx => by
        have z := List.all_eq_true.mp hper i hi
        rw [hx] at z
        exact S1.get hx z
      refine ⟨fun i m H' => m = xs.length - i ∧ i ≤ xs.length ∧ ∃ Hk' ρ' acc ws, Ex Hk1 Hk' ∧ RS c.K (upd F D (.lst ws)) Hk' H' bp (wipe σ vs) (wipeM ρ' vs) ∧ RVs c.K Hk' acc ws ∧ ρ'.length = ρ1.length ∧ okB c F Hk' bp σ Q ρ1 vs (mLcLoop g t e vs (xs.drop i) acc ρ'),
        ⟨xs.length, by simp, Nat.zero_le _, Hk1, ρ1, [], [], Ex.refl _, (S1.wipe vs hb).inFr hD, RVs.nil.mpr rfl, rfl, h⟩, ?_⟩
      rintro i m H' ⟨rfl, hi, Hk', ρ', acc, ws, x', S', ra, hl, h'⟩
      by_cases hlt : i < xs.length
      · refine .inr ⟨wk.go i H' (x'.trans S'.ex) hlt, fun H2 => ∃ Hk2 ρ2 acc2 ws2, Ex Hk1 Hk2 ∧ RS c.K (upd F D (.lst ws2)) Hk2 H2 bp (wipe σ vs) (wipeM ρ2 vs) ∧ RVs c.K Hk2 acc2 ws2 ∧ ρ2.length = ρ1.length ∧ okB c F Hk2 bp σ Q ρ1 vs (mLcLoop g t e vs (xs.drop (i + 1)) acc2 ρ2),
          fun H2 z => ⟨xs.length - (i + 1), by omega, rfl, hlt, z⟩, fun x H2 y => ?_⟩
        obtain ⟨z, ez, hz⟩ := wk.yld i H' x H2 (x'.trans S'.ex) hlt y
        have ed : xs.drop i = z :: xs.drop (i + 1) := by
          rw [List.drop_eq_getElem_cons hlt]
          rw [List.getElem?_eq_getElem hlt] at ez
          cases ez; rfl
        rw [ed] at h'
        have st : ∀ Hk, ¬ okB c F Hk bp σ Q ρ1 vs .stuck := fun _ f => f
        have mo : ∀ Hk Hk' r, Ex Hk Hk' → okB c F Hk bp σ Q ρ1 vs r → okB c F Hk' bp σ Q ρ1 vs r := fun _ _ _ x h => okB.mono x h
        have fin : ∀ Hk3, Ex Hk' Hk3 → RS c.K (upd F D (.lst ws)) Hk3 H2 bp (wipe σ vs) (wipeM ρ' vs) → RV c.K Hk3 z x →
            gOf c.K g x (wipe σ vs) H2 fun σ2 H2 => wipe σ2 vs = wipe σ vs ∧ rdT c t σ2 H2 fun b H3 => if b = true then rdE c e σ2 H3 fun y H4 => ∃ acc, H4 D = some (.lst acc) ∧ acc.length < sizeLine ∧
              (∃ Hk2 ρ2 acc2 ws2, Ex Hk1 Hk2 ∧ RS c.K (upd F D (.lst ws2)) Hk2 (upd H4 D (.lst (acc ++ [y]))) bp (wipe σ vs) (wipeM ρ2 vs) ∧ RVs c.K Hk2 acc2 ws2 ∧ ρ2.length = ρ1.length ∧ okB c F Hk2 bp σ Q ρ1 vs (mLcLoop g t e vs (xs.drop (i + 1)) acc2 ρ2)) else
              ∃ Hk2 ρ2 acc2 ws2, Ex Hk1 Hk2 ∧ RS c.K (upd F D (.lst ws2)) Hk2 H3 bp (wipe σ vs) (wipeM ρ2 vs) ∧ RVs c.K Hk2 acc2 ws2 ∧ ρ2.length = ρ1.length ∧ okB c F Hk2 bp σ Q ρ1 vs (mLcLoop g t e vs (xs.drop (i + 1)) acc2 ρ2) := fun Hk3 x3 S3 r3 => by
          have h' := okB.mono x3 h'
          unfold mLcLoop at h'
          cases eg : setT g z (wipeM ρ' vs) with
          | none => rw [eg] at h'; exact h'.elim
          | some ρ3 =>
            rw [eg] at h'
            refine g_rd hb hg S3 r3 eg fun σ2 S4 w2 => ⟨by rw [w2, wipe_wipe], ?_⟩
            have w2' : wipe σ2 vs = wipe σ vs := by rw [w2, wipe_wipe]
            refine rdTw (b0T st mo ⟨S4, S.2.1, c.Jm _ _ _ (Ex.new fD) S.2.2⟩ h') fun b H3 ⟨Hk4, ρ4, x4, S5, h5⟩ => ?_
            cases b with
            | true =>
              rw [if_pos rfl] at h5 ⊢
              refine rdw (b0E st mo S5 h5) fun y H4 ⟨Hk5, yy, ρ5, x5, S6, r6, h6⟩ => ?_
              split at h6
              · rename_i hz
                have ra' := ra.mono (x3.trans (x4.trans x5))
                refine ⟨ws, S6.1.fr D _ upd_same, by rw [ra'.length]; exact hz.1, Hk5, ρ5, acc ++ [yy], ws ++ [y], x'.trans (x3.trans (x4.trans x5)), ?_, ra'.append (RVs.cons.mpr ⟨y, [], rfl, r6, RVs.nil.mpr rfl⟩), by rw [hz.2, hl], h6⟩
                have := (S6.1.wipe vs hb)
                rw [w2'] at this
                exact this.grow
              · exact h6.elim
            | false =>
              rw [if_neg (by decide)] at h5 ⊢
              split at h5
              · rename_i hz
                refine ⟨Hk4, ρ4, acc, ws, x'.trans (x3.trans x4), ?_, ra.mono (x3.trans x4), by rw [hz, hl], h5⟩
                have := (S5.1.wipe vs hb)
                rw [w2'] at this
                exact this
              · exact h5.elim
        rcases hz with ⟨rfl, r⟩ | ⟨p, us, ys, hp, rfl, rfl, rfl, r⟩
        · exact fin Hk' (Ex.refl _) S' (RV.mono x' _ _ r)
        · have xn := Ex.new (o := .tup us) (S'.ex.back hp)
          exact fin _ xn (S'.new hp) (RV.tup.mpr ⟨p, us, rfl, SqT.of upd_same, r.mono (x'.trans xn)⟩)
      · have e : i = xs.length := by omega
        subst e
        rw [List.drop_length] at h'
        refine .inl ⟨wk.stop H' (x'.trans S'.ex), ?_⟩
        have out := S'.outFr fD ra
        have bk : RS c.K (upd F D (.lst ws)) Hk' H' bp σ (backM ρ1 ρ' vs) := RS.back S' (fun i hi x hx => by
          obtain ⟨v, ev, rv⟩ := p0 i hi x hx
          exact ⟨v, ev, RV.mono x' _ _ rv⟩) hl.symm S1.len hb
        exact h' _ _ _ (Ex.refl _) (bk.outFr fD ra)
    · exact h.elim
end
end Tm
set_option Elab.async false
set_option linter.all false
set_option maxRecDepth 100000
set_option maxHeartbeats 2000000
namespace Tm
open PySem L2
theorem hbs_of {bs vs : List Nat} (h : (vs.all fun v => !bs.contains v) = true) : ∀ i ∈ vs, bs.contains i = false := fun i hi => by
  have := List.all_eq_true.mp h i hi
  simpa using this
open Evl (Ex ex_rd ex_l ex_t)
section
variable {X : Cx} {c : Ct} {elt tg iter : Expr} {ifs : List Expr} {scope : Scope} {own : List (Str × Nat)} {pos : Pos} {it : MI} {g : Tgt} {t : MT} {e : ME}
theorem mts_nil : PTs X [] (rdT c mYes) := ⟨fun pins s σ H Q I ⟨F, Hk, bp, ρ, S, h⟩ => pts_nil.run pins s σ H Q I (h _ _ (Ex.refl _) S.1)⟩
theorem mo_lc (hc : X.calm = true) (hN : X.N.Nodup) (hi : PI X tg iter (rdI c it)) (ok : BlkOk X.N X.env.scope scope own) (hg : ∀ (s : Shared) (H : Hp) (C : Addr) (cl : List (Str × Addr)) (fp : List Addr), PG (X.blk s H scope (compEnvC scope cl C X.env) fp) tg (gOf X.K g))
    (ht : ∀ (s : Shared) (H : Hp) (C : Addr) (cl : List (Str × Addr)) (fp : List Addr), PTs (X.blk s H scope (compEnvC scope cl C X.env) fp) ifs (rdT c t)) (he : ∀ (s : Shared) (H : Hp) (C : Addr) (cl : List (Str × Addr)) (fp : List Addr), PE (X.blk s H scope (compEnvC scope cl C X.env) fp) elt (rdE c e))
    (hgs : ∀ i ∈ g.slots, i ∈ own.map (·.2) := by decide) (hbs : ∀ i ∈ own.map (·.2), c.bs.contains i = false := by decide) (hK : c.K = X.K := by rfl) (hs : ∀ x, foldedSetIterable iter X.env x = pure x := by intro _; rfl) :
    PE X (.ListComp elt [⟨tg, iter, ifs, 0⟩] scope pos) (rdO c (mLcO it g t e (own.map (·.2)))) := PEw (pe_lc hc hN hi ok hg ht he hs) fun σ H Q h => by rw [← hK]; exact rd_lc hgs hbs h
end
theorem only_rs {K : PySem.W.Frag} {H : Hp} {a : Addr} {ns : List Int} (h : SqL K H a (ns.map V.int)) : RS K (fun _ => none) H H [] ([V.ref a].map some) ([MV.scr ns].map some) :=
  RS.args (Ex.refl _) (fun _ _ z => nomatch z) (fun _ _ z => nomatch z) (RVs.cons.mpr ⟨_, [], rfl, RV.scr.mpr ⟨a, rfl, h⟩, RVs.nil.mpr rfl⟩)
theorem walk_law {l : PySem.W.OpenLaw} {k : Nat} {q : Program} {loose : List Str} {XP : (Str → Option Value) → Heap → Prop} {YP : World → Heap → Prop} {d : DefRec} {K : Params → PySem.W.Frag} {x : Str} {f : MF}
    (hn : l.most = some 63) (hdf : d.params.defaults = []) (hr : Room k callerA) (hY : ∀ (w : World) (h : Heap), YP w h → (K w.params).In h)
    (hf : ∀ ns : List Int, ns.length ≤ 63 → ∃ bs, f [.scr ns] = .ok (.bl true, bs))
    (F : ∀ (w : World) (mg : Str → Option Value) (fa : Addr) (h : Heap), (K w.params).In h → h.Ns mainGlobals mg → mg d.name = some (.ref fa) →
      ∃ fd : FuncData, (∀ (s : Shared) (u : Value), BindsTo s fd ⟨[u], []⟩ [(x, u)]) ∧
        ∀ base : Heap, (K w.params).In base → base.Ns mainGlobals mg → FnOk l.prog w (K w.params) mg base (L2N.CX l.prog w) k fa fd [x] (spF (K w.params) mg 1 [] f)) :
    PySem.W.WalkO q loose XP YP l.row.toRowW d [] (fun f vs => PySem.call f vs) := by
  refine L2.walk_of (x := x) (K := K) (CX := fun w => L2N.CX l.prog w) (sp := fun w vs H Q E => ∃ (a : Addr) (ns : List Int), vs = [.ref a] ∧ ns.length ≤ 63 ∧ SqL (K w.params) H a (ns.map V.int) ∧ ∀ H', Q (.bl true) H') hn (by rw [sizeLine_eq]; decide) hdf hr hY (fun w mg fa h KX G hmg => ?_) (fun w H a ns hl _ hS => ⟨a, ns, rfl, hl, hS, fun _ => rfl⟩) ?_
  · obtain ⟨fd, hb, hF⟩ := F w mg fa h KX G hmg
    refine ⟨fd, hb, fun base h1 h2 => (hF base h1 h2).imp ?_⟩
    rintro vs H Q E ⟨a, ns, rfl, hl, hS, q⟩
    obtain ⟨bs, e⟩ := hf ns hl
    refine ⟨rfl, fun _ => none, H, [], [.scr ns], only_rs hS, rfl, ?_⟩
    rw [e]
    intro Hk' H' w x S'
    have bl : bs.length = 0 := by have := S'.len; simpa using this.symm
    have be : bs = [] := List.eq_nil_of_length_eq_zero bl
    subst be
    obtain ⟨v, ev, rv⟩ := S'.get (i := 0) (x := .bl true) rfl rfl
    cases ev
    rw [RV.bl.mp rv]
    exact q _
  · rintro w H s e s' ⟨_, _, _, _, _, _, _, _, _, _, _, _, f⟩
    exact f
structure Fd (P : Program) (w : World) (K : PySem.W.Frag) (mg : Str → Option Value) (base : Heap) (x : Str) (k : Nat) (ps : List Str) (bs : List Nat) (f : MF) : Prop where
  ex : ∃ (a : Addr) (fd : FuncData), FnOk P w K mg base (L2N.CX P w) k a fd ps (spF K mg ps.length bs f) ∧ mg x = some (.ref a) ∧ PySem.W.keepIn K (.ref a) = true ∧ Binds K fd ps []
structure Bn (mg : Str → Option Value) : Prop where
  len : mg "len" = none
  range : mg "range" = none
  abs : mg "abs" = none
  max : mg "max" = none
  min : mg "min" = none
  int : mg "int" = none
  str : mg "str" = none
  tuple : mg "tuple" = none
  list : mg "list" = none
  all : mg "all" = none
  any : mg "any" = none
  isinstance : mg "isinstance" = none
  divmod : mg "divmod" = none
  sum : mg "sum" = none
  zip : mg "zip" = none
  enumerate : mg "enumerate" = none
  reversed : mg "reversed" = none
  sorted : mg "sorted" = none
  dict : mg "dict" = none
  set : mg "set" = none
  bool : mg "bool" = none
section
variable {X : Cx} {c : Ct} {k : Nat} {ps : List Str} {x : Str} {p pos : Pos} {e : Expr} {es : List Expr} {f : MF} {a : MA} {j : Nat}
theorem mf_call (G : Fd X.prog X.w X.K X.mg X.base x k ps [] f) (hr : Room j X.A) (hj : k ≤ j) (tk : L2N.Takes X c.W) (ha : PA X (e :: es) (rdA c a)) (hn : Lng a ps.length) (hg : Gl X x := by rfl) (hK : c.K = X.K := by rfl) (hM : c.mg = X.mg := by rfl) (hdb : (x == ("__debug__" : Str)) = false := by decide)
    (he : starEach (e :: es) X.env = (false, eval e X.env) :: starEach es X.env := by rfl) (hpl : (backTo pos (starEach es X.env)).any (·.1) = false := by rfl) : PE X (.Call (.Name x p) (e :: es) [] pos) (rdO c (mCall f a)) := by
  obtain ⟨fa, fd, F, hm, hk, hb⟩ := G.ex
  exact mo_call F (hr.mono hj) hm hk hb tk ha hn hg hK hM hdb he hpl
theorem mf_call0 (G : Fd X.prog X.w X.K X.mg X.base x k ps [] f) (hr : Room j X.A) (hj : k ≤ j) (ha : PA X (e :: es) (rdA c a)) (hn : Lng a ps.length) (hg : Gl X x := by rfl) (hK : c.K = X.K := by rfl) (hM : c.mg = X.mg := by rfl) (hdb : (x == ("__debug__" : Str)) = false := by decide)
    (he : starEach (e :: es) X.env = (false, eval e X.env) :: starEach es X.env := by rfl) (hpl : (backTo pos (starEach es X.env)).any (·.1) = false := by rfl) : PE X (.Call (.Name x p) (e :: es) [] pos) (rdO c (mCall0 f a)) := by
  obtain ⟨fa, fd, F, hm, hk, hb⟩ := G.ex
  exact mo_call0 F (hr.mono hj) hm hk hb ha hn hg hK hM hdb he hpl
end
end Tm
set_option Elab.async false
set_option linter.all false
set_option maxRecDepth 100000
set_option maxHeartbeats 2000000
namespace Tm
open PySem L2
open Evl (Ex ex_rd ex_l ex_t)
def Cst (K : PySem.W.Frag) (mg : Str → Option Value) (x : Str) (v : MV) : Prop := ∃ w u, mg x = some u ∧ RelV w u ∧ ∀ H, RV K H v w
section
variable {X : Cx} {c : Ct} {x : Str} {pos : Pos}
theorem mf_con {v : MV} (h : Cst X.K X.mg x v) (hg : Gl X x := by rfl) (hK : c.K = X.K := by rfl) (hd : (x == ("__debug__" : Str)) = false := by decide) : PE X (.Name x pos) (rdE c (mC v)) := by
  obtain ⟨w, u, hm, rv, r⟩ := h
  exact me_glob hm rv (by rw [hK]; exact r) hg hd
end
theorem cst_int {K : PySem.W.Frag} {mg : Str → Option Value} {x : Str} {i : Int} {t : Tok} (h : mg x = some (.int i t)) : Cst K mg x (.int i) := ⟨.int i, _, h, ⟨t, rfl⟩, fun _ => RV.int.mpr rfl⟩
theorem cst_str {K : PySem.W.Frag} {mg : Str → Option Value} {x : Str} {i : Str} {t : Tok} (h : mg x = some (.str i t)) : Cst K mg x (.str i) := ⟨.str i, _, h, ⟨t, rfl⟩, fun _ => RV.str.mpr rfl⟩
def flatIs : MV → Value → Bool
  | .int i, .int j _ => i == j
  | .str i, .str j _ => i == j
  | .non, .none => true
  | .bl a, .bool b => a == b
  | _, _ => false
end Tm
set_option Elab.async false
set_option linter.all false
set_option maxRecDepth 100000
set_option maxHeartbeats 2000000
namespace Tm
open PySem L2
open Evl (Ex ex_rd ex_l ex_t)
theorem blkOk_at {N N' : List Str} {sc sc' bs : Scope} {own : List (Str × Nat)} (hN : N = N') (hs : sc = sc') (h : blkC N' sc' bs own = true) : BlkOk N sc bs own := by
  subst hN hs
  exact blkOk_by h
end Tm
set_option Elab.async false
set_option linter.all false
set_option maxRecDepth 100000
set_option maxHeartbeats 2000000
namespace Tm
open PySem L2 PySem.Spec PyProof.Rows
open Evl (Ex ex_rd ex_l ex_t)
structure Bas (K : PySem.W.Frag) (mg : Str → Option Value) (y : Str) : Prop where
  ex : ∃ CL : Addr, mg y = some (.ref CL) ∧ PySem.W.readsIn K CL (.type "type") = true ∧ PySem.W.specialIn K (.ref CL) "__getattribute__" = some (some (.builtin "type.__getattribute__")) ∧ PySem.W.findCls K (.ref CL) (.type "type") "__init__" = some (.val (.builtin "ValueError.__init__"))
section
variable {X : Cx} {y : Str} {e : Expr} {es : List Expr} {ta : TA} {p1 p2 pos : Pos}
theorem pe_linit {pl : Sem Bool} (hg : Gl X y) (B : Bas X.K X.mg y) (ha : PA X (e :: es) ta)
    (hc : eval (.Call (.Attribute (.Name y p1) "__init__" p2) (e :: es) [] pos) X.env = (do
      let ov ← eval (.Name y p1) X.env
      standAt p2.atName
      let (f, first) ← holding [ov] (getMethod ov "__init__" pl)
      callWith pos f first (backTo pos (starEach (e :: es) X.env)) (backToKw pos (keywordEach [] X.env))) := by rfl)
    (hdb : (y == ("__debug__" : Str)) = false := by decide) (he : starEach (e :: es) X.env = (false, eval e X.env) :: starEach es X.env := by rfl) (hpl : (backTo pos (starEach es X.env)).any (·.1) = false := by rfl) :
    PE X (.Call (.Attribute (.Name y p1) "__init__" p2) (e :: es) [] pos) (tVeI X.K ta) := by
  obtain ⟨CL, hm, hr, hga, hf⟩ := B.ex
  refine ⟨fun pins s σ H Q I h => ?_⟩
  refine PySem.W.methodCall_KW (ld_glob I hg hm ?_ hdb) hc
  refine PySem.W.method_cls I.kIn hga (PySem.W.cls_value I.kIn hr hf (by decide +kernel) ?_)
  show wpAny _ _ (callWith pos (Value.builtin "ValueError.__init__") [] (backTo pos (starEach (e :: es) X.env)) []) _ _ _
  refine PyProof.Rows.callWith_method1 (thn (ha.run pos pins _ σ H _ (I.tok _) h) fun us s1 ⟨vs, H1, I1, r1, a, C, ws, ev, hl, T, ea, q⟩ => ?_) he hpl
  subst ev
  cases r1 with
  | @cons _ u0 _ ur ra rw' =>
    obtain rfl : u0 = Value.ref a := ra
    have hlen : ur.length ≤ sizeLine := by
      rw [← Paired.length rw', sizeLine_eq]
      omega
    exact oinit_ok T I1 ea hlen fun s' J => ⟨.non, H1, J, rfl, q⟩
end
structure OwX (K : PySem.W.Frag) (mg : Str → Option Value) (x : Str) (C fI : Addr) : Prop where
  T : OexC K C
  m : mg x = some (.ref C)
  iC : PySem.W.findIn K (.ref C) "__init__" = some (some (.ref fI))
  tI : PySem.W.typeIn K (.ref fI) = some (.type "function")
def spI1 (K : PySem.W.Frag) (f : Str) : Sp := fun vs H Q _ => ∃ (a C : Addr) (v : V), vs = [.ref a, v] ∧ OexC K C ∧ PySem.W.findIn K (.ref C) f = some none ∧ H a = some (exo a C none) ∧
  ∀ d, H d = none → d ≠ a → Q .non (upd (upd H d (exd d [(f, v)])) a (exo a C (some d)))
def spI2 (K : PySem.W.Frag) (f g : Str) : Sp := fun vs H Q _ => ∃ (a C : Addr) (v w : V), vs = [.ref a, v, w] ∧ OexC K C ∧ PySem.W.findIn K (.ref C) f = some none ∧ PySem.W.findIn K (.ref C) g = some none ∧ H a = some (exo a C none) ∧
  ∀ d, H d = none → d ≠ a → Q .non (upd (upd (upd H d (exd d [(f, v)])) a (exo a C (some d))) d (exd d [(g, w), (f, v)]))
section
variable {P : Program} {w : World} {K : PySem.W.Frag} {mg : Str → Option Value} {base : Heap}
theorem init1 {x qual y f p t : Str} {st : Stmt} {a : Addr} {fd : FuncData} {j : Nat} {p1 p2 p3 p4 p5 p6 q1 q2 q3 q4 : Pos} (F : Fun K x qual st a fd) (S : FnScope ["self", p] ["self", p] (defScope st)) (B : Bas K mg y)
    (hb : defBody st = [.Expr (.Call (.Attribute (.Name y p1) "__init__" p2) [.Name "self" p3, .Constant (.str t) j p4] [] p5) p6, .Assign [.Attribute (.Name "self" q1) f q2] (.Name p q3) q4])
    (hy : ∀ (L : Addr) (cd : Value), (envOfC qual (defScope st) L a cd).kindOf y = some NameKind.globalImplicit) (hs : (defScope st).names.lookup ("self" : Str) = some .local) (hp : (defScope st).names.lookup p = some .local)
    (hc : ∀ env : PySem.Env, ∃ pl : Sem Bool, eval (.Call (.Attribute (.Name y p1) "__init__" p2) [.Name "self" p3, .Constant (.str t) j p4] [] p5) env = (do
      let ov ← eval (.Name y p1) env
      standAt p2.atName
      let (f, first) ← holding [ov] (getMethod ov "__init__" pl)
      callWith p5 f first (backTo p5 (starEach [.Name "self" p3, .Constant (.str t) j p4] env)) (backToKw p5 (keywordEach [] env))))
    (hy1 : (y == ("__debug__" : Str)) = false) (hp1 : (p == ("__debug__" : Str)) = false) (hp2 : (p == ("__classdict__" : Str)) = false) :
    FnOk P w K mg base (L2N.CX P w) 2 a fd ["self", p] (spI1 K f) := by
  refine okXN F S (fun vs H Q E h => ?_) (fun cdv A outer s H vs Q E hr h => ?_)
  · obtain ⟨_, _, _, rfl, _⟩ := h
    rfl
  obtain ⟨b, C, v, rfl, T, hf, hH, hq⟩ := h
  have nd := S.nd
  have hself : PE (cxOf (L2N.CX P w) P w K mg base ["self", p] qual (defScope st) a cdv A outer s H E) (.Name "self" p3) (tVar 0) := pe_var (i := 0) rfl (.inl hs)
  have hself2 : PE (cxOf (L2N.CX P w) P w K mg base ["self", p] qual (defScope st) a cdv A outer s H E) (.Name "self" q1) (tVar 0) := pe_var (i := 0) rfl (.inl hs)
  have hpar : PE (cxOf (L2N.CX P w) P w K mg base ["self", p] qual (defScope st) a cdv A outer s H E) (.Name p q3) (tVar 1) := pe_var (i := 1) rfl (.inl hp) hp1 hp2
  obtain ⟨pl, hc⟩ := hc (cxOf (L2N.CX P w) P w K mg base ["self", p] qual (defScope st) a cdv A outer s H E).env
  have h1 := pe_linit (pl := pl) (e := .Name "self" p3) (es := [.Constant (.str t) j p4]) (pos := p5) (p1 := p1) (p2 := p2) (X := cxOf (L2N.CX P w) P w K mg base ["self", p] qual (defScope st) a cdv A outer s H E) (y := y) (hy _ _) B (pa_cons hself (pa_cons pe_str pa_nil)) (hc := hc) (hdb := hy1)
  refine ⟨_, by rw [hb]; exact pss_cons (ps_expr h1) (pss_cons (ps_ost hself2 hpar) pss_nil), ?_⟩
  exact ⟨.ref b, rfl, b, C, [.str t], rfl, by simp, T, hH, v, rfl, .ref b, rfl, b, C, rfl, T, hf, .inl ⟨hH, fun dx h1 h2 => hq dx h1 h2⟩⟩
end
section
variable {X : Cx} {e : Expr} {es : List Expr} {ta : TA} {p pos : Pos}
theorem pmk_oexN {CX : CXT} {x : Str} {C fI : Addr} {k : Nat} {fd : FuncData} {ps : List Str} {sp : Sp} {ds : List Value} {dvs : List V} (T : OexC X.K C) (iC : PySem.W.findIn X.K (.ref C) "__init__" = some (some (.ref fI))) (tI : PySem.W.typeIn X.K (.ref fI) = some (.type "function"))
    (F1 : FnOk X.prog X.w X.K X.mg X.base CX k fI fd ps sp) (hr : Room (k + 1) X.A) (hb : L2.Binds X.K fd ps ds) (hd : Vals dvs ds) (hx : Passes CX X (fun _ _ _ => False)) (hg : Gl X x) (hm : X.mg x = some (.ref C)) (ha : PA X (e :: es) ta)
    (hdb : (x == ("__debug__" : Str)) = false := by decide) (he : starEach (e :: es) X.env = (false, eval e X.env) :: starEach es X.env := by rfl) (hpl : (backTo pos (starEach es X.env)).any (·.1) = false := by rfl) :
    L2N.PMk X (.Call (.Name x p) (e :: es) [] pos) (tMkO C sp dvs ta) := fun pins s σ H Q I h => by
  obtain ⟨_, _, _, _, bm, _, _, _, _, _, _, _, _, _, _, look, hbm⟩ := T.cls
  refine wpAny_Call_Name_kw (ld_glob I hg hm ?_ hdb)
  refine PySem.W.callWith_K (h₀ := X.base) I.ok.mod.kin T.kC (thn (ha.run pos pins s σ H _ I h) fun us s1 q0 => ⟨q0.choose_spec.choose_spec.1.kIn, ?_⟩) he hpl
  obtain ⟨vs, G, J, r, hz, q⟩ := q0
  show wpAny _ _ (call (.ref C) us) _ _ _
  obtain ⟨hp, gs, dr, tk, os⟩ := s1
  obtain ⟨n, hn⟩ : ∃ n, hp.objs.size = n := ⟨_, rfl⟩
  have le1 : hp.objs.size ≤ n + 1 := by omega
  have sp1 := q (n + 1) (J.hok.fresh le1)
  have keep : ∀ b o, hp.get? b = some o → ((hp.push (PySem.W.kdv_tup us)).push (PySem.HandSPX.excO C n)).get? b = some o := fun b o z => Heap.get?_push_of_some _ (Heap.get?_push_of_some _ z)
  have there : ((hp.push (PySem.W.kdv_tup us)).push (PySem.HandSPX.excO C n)).get? (n + 1) = some (PySem.HandSPX.excO C n) := by subst hn; heap_get
  have J2 : Inv X pins σ (upd G (n + 1) (exo (n + 1) C none)) ⟨(hp.push (PySem.W.kdv_tup us)).push (PySem.HandSPX.excO C n), gs, dr, tk, os⟩ :=
    J.laid (t' := tk) (a := n + 1) (o := exo (n + 1) C none) (h' := (hp.push (PySem.W.kdv_tup us)).push (PySem.HandSPX.excO C n)) keep le1 (exo_ok there)
  have r2 : Vals (V.ref (n + 1) :: (vs ++ dvs)) (Value.ref (n + 1) :: (us ++ ds)) := .cons rfl (r.append hd)
  have len2 : (Value.ref (n + 1) :: us ++ ds).length = ps.length := (F1.len _ _ _ _ sp1 ▸ r2.length).symm
  have small : us.length ≤ sizeLine := by
    have := Paired.length r
    rw [sizeLine_eq]; omega
  subst hn
  refine wpAny_call (PySem.HandSPX.call_own F.excBase_ValueError (fun Y => PySem.HandSPX.refsVE_contains Y bm hbm) (J.kIn _ _ look) (PySem.W.looks_findIn J.kIn iC) (fun self => PySem.W.bind_fn J.kIn self tI) small (codeAny_mono
    (F1.run _ X.stack _ _ ⟨Value.ref (hp.objs.size + 1) :: us, []⟩ (Value.ref (hp.objs.size + 1) :: (us ++ ds)) _ _ (fun _ _ _ => False) (hr.make C us []) (J2.env0.make C us []) (hb _ (Value.ref (hp.objs.size + 1) :: us) J2.kIn len2) r2 sp1) fun z s' hq => ?_))
  match z, hq with
  | .error er, hq => exact hx pins σ _ _ er s' J2 hq
  | .ok (.ret u), hq =>
    obtain ⟨v, G2, o2, b2, un2, ok2, rv, rfl, d, fs, ea, ed, hd1, w⟩ := hq
    obtain ⟨h2, g2, d2, t2, _⟩ := s'
    obtain ⟨t0, B, JB, kB, gB, at2, na⟩ := mk_end0 (d2 := d2) (t2 := t2) J le1 keep un2 ok2 o2 b2 ea ed hd1
    exact ⟨rv, ⟨_, _, _, ⟨B, g2, d2, t2, _⟩, _, .ref C, some d, rfl, JB, kB, gB, at2, ⟨rfl, rfl, fun vs hv => by cases hv; rfl⟩, rfl, rfl, na, rfl, b2, raises_own T.exC T.tyC, w⟩⟩
  | .ok .next, hq => exact hq.elim
  | .ok .brk, hq => exact hq.elim
  | .ok .cont, hq => exact hq.elim
end
theorem made_heap {H1 : Hp} {a d : Addr} {o u z : HO} (ha : H1 a = none) (hd : d ≠ a) : upd (del (upd (upd (upd H1 a o) d u) a z) a) d = upd H1 d := by
  funext y b
  by_cases e1 : b = d
  · subst e1; rw [upd_same, upd_same]
  · rw [upd_ne e1, upd_ne e1]
    by_cases e2 : b = a
    · subst e2; rw [del_same, ha]
    · rw [del_ne e2, upd_ne e2, upd_ne e1, upd_ne e2]
section
variable {X : Cx} {c : Ct} {x f g : Str} {C fI : Addr} {k : Nat} {fd : FuncData} {ps : List Str} {W : WX}
theorem never {W : WX} (tk : L2N.Takes X W) : Passes (L2N.CX X.prog X.w) X (fun _ _ _ => False) := L2N.passes_call (E := fun _ _ _ => False) tk fun _ _ _ _ z => z.elim
def tMk1 (C : Addr) (f : Str) (ta : TA) : L2.St → Hp → XK → Prop := fun σ H Q => ta σ H fun vs H1 => ∃ v, vs = [v] ∧ ∀ d, H1 d = none → Q (.ref C) (some d) (upd H1 d (.xd [(f, v)]))
theorem pmk1 {e : Expr} {es : List Expr} {ta : TA} {p pos : Pos} (O : OwX X.K X.mg x C fI) (hf : PySem.W.findIn X.K (.ref C) f = some none) (F1 : FnOk X.prog X.w X.K X.mg X.base (L2N.CX X.prog X.w) k fI fd ps (spI1 X.K f)) (hr : Room (k + 1) X.A) (hb : L2.Binds X.K fd ps []) (tk : L2N.Takes X W) (hg : Gl X x) (ha : PA X (e :: es) ta)
    (hm : ∀ σ H Q Q', ta σ H Q → (∀ vs H1, Q vs H1 → Q' vs H1) → ta σ H Q')
    (hdb : (x == ("__debug__" : Str)) = false := by decide) (he : starEach (e :: es) X.env = (false, eval e X.env) :: starEach es X.env := by rfl) (hpl : (backTo pos (starEach es X.env)).any (·.1) = false := by rfl) :
    L2N.PMk X (.Call (.Name x p) (e :: es) [] pos) (tMk1 C f ta) := by
  have z := pmk_oexN (p := p) (ds := []) (dvs := []) O.T O.iC O.tI F1 hr hb .nil (never tk) hg O.m ha hdb he hpl
  intro pins s σ H Q I h
  refine z pins s σ H Q I (hm σ H _ _ h fun vs H1 ⟨v, ev, q⟩ => ?_)
  subst ev
  refine ⟨by simp, fun a ha => ⟨a, C, v, rfl, O.T, hf, upd_same, fun d hd hne => ⟨rfl, d, [(f, v)], upd_same, ?_, ?_, ?_⟩⟩⟩
  · rw [upd_ne hne, upd_same]
  · rw [upd_ne hne] at hd; exact hd
  · rw [made_heap ha hne]
    exact q d (by rw [upd_ne hne] at hd; exact hd)
end
end Tm
set_option Elab.async false
set_option linter.all false
set_option maxRecDepth 100000
set_option maxHeartbeats 2000000
namespace Tm
open PySem L2 PySem.Spec PyProof.Rows
open Evl (Ex ex_rd ex_l ex_t)
def NoX (H H' : Hp) : Prop := ∀ a o, H a = some o → (∀ fs, o ≠ .xd fs) → H' a = some o
theorem NoX.rdl {H H' : Hp} (e : NoX H H') {a : Addr} {xs : List V} (h : Rd H a (.lst xs)) : Rd H' a (.lst xs) := by
  rcases h with h | ⟨o, h⟩
  · exact Or.inl (e a _ h (fun _ z => nomatch z))
  · exact Or.inr ⟨o, e a _ h (fun _ z => nomatch z)⟩
theorem NoX.rdt {H H' : Hp} (e : NoX H H') {a : Addr} {xs : List V} (h : Rd H a (.tup xs)) : Rd H' a (.tup xs) := by
  rcases h with h | ⟨o, h⟩
  · exact Or.inl (e a _ h (fun _ z => nomatch z))
  · exact Or.inr ⟨o, e a _ h (fun _ z => nomatch z)⟩
mutual
theorem RV.sub {K : PySem.W.Frag} {H H' : Hp} (e : NoX H H') : ∀ (x : MV) (v : V), RV K H x v → RV K H' x v
  | .non, v, h => by unfold RV at h ⊢; exact h
  | .bl b, v, h => by unfold RV at h ⊢; exact h
  | .int i, v, h => by unfold RV at h ⊢; exact h
  | .str x, v, h => by unfold RV at h ⊢; exact h
  | .tup xs, v, h => by
    unfold RV at h ⊢
    obtain ⟨a, vs, e1, e2, e3⟩ := h
    exact ⟨a, vs, e1, e2.imp e.rdt id, RVs.sub e xs vs e3⟩
  | .lst xs, v, h => by
    unfold RV at h ⊢
    obtain ⟨a, vs, e1, e2, e3⟩ := h
    exact ⟨a, vs, e1, e _ _ e2 (fun _ z => nomatch z), RVs.sub e xs vs e3⟩
  | .own xs, v, h => by unfold RV at h; exact h.elim
  | .raw w, v, h => by unfold RV at h ⊢; exact h
  | .scr ns, v, h => by
    unfold RV at h ⊢
    obtain ⟨a, e1, e2⟩ := h
    exact ⟨a, e1, e2.imp e.rdl id⟩
  | .fnc x, v, h => by unfold RV at h ⊢; exact h
  | .obj C fs, v, h => by unfold RV at h; exact h.elim
  | .dct ks xs, v, h => by
    unfold RV at h ⊢
    obtain ⟨a, vs, e1, e2, e3, e4⟩ := h
    exact ⟨a, vs, e1, e _ _ e2 (fun _ z => nomatch z), e3, RVs.sub e xs vs e4⟩
  | .dow ks xs, v, h => by unfold RV at h; exact h.elim
  | .dot ks xs, v, h => by unfold RV at h; exact h.elim
theorem RVs.sub {K : PySem.W.Frag} {H H' : Hp} (e : NoX H H') : ∀ (xs : List MV) (vs : List V), RVs K H xs vs → RVs K H' xs vs
  | [], vs, h => by unfold RVs at h ⊢; exact h
  | x :: xs, vs, h => by
    unfold RVs at h ⊢
    obtain ⟨v, r, e1, e2, e3⟩ := h
    exact ⟨v, r, e1, RV.sub e x v e2, RVs.sub e xs r e3⟩
end
theorem OF.sub {K : PySem.W.Frag} {Hk Hk' H : Hp} {x : MV} {v : V} {A : List Addr} (e : NoX Hk Hk') (h : OF K Hk H x v A) : OF K Hk' H x v A := by
  cases x with
  | own xs =>
    unfold OF at h ⊢
    obtain ⟨p, vs, e1, e2, e3, e4⟩ := h
    exact ⟨p, vs, e1, e2, e3, RVs.sub e _ _ e4⟩
  | dow ks xs =>
    unfold OF at h ⊢
    obtain ⟨p, vs, e1, e2, e3, e5, e4⟩ := h
    exact ⟨p, vs, e1, e2, e3, e5, RVs.sub e _ _ e4⟩
  | dot ks xs =>
    unfold OF at h ⊢
    obtain ⟨p, vs, e1, e2, e3, e5, e4⟩ := h
    exact ⟨p, vs, e1, e2, e3, e5, RVs.sub e _ _ e4⟩
  | obj C fs => exact (show False by unfold OF at h; unfold RV at h; exact h.2).elim
  | _ =>
    unfold OF at h ⊢
    exact ⟨h.1, RV.sub e _ _ h.2⟩
theorem OFs.sub {K : PySem.W.Frag} {Hk Hk' H : Hp} (e : NoX Hk Hk') : ∀ {fs : List (Str × MV)} {vs : List (Str × V)} {A : List Addr}, OFs K Hk H fs vs A → OFs K Hk' H fs vs A
  | [], _, _, h => h
  | (n, x) :: fs, vs, A, h => by
    obtain ⟨v, r, B, C, e1, e2, h1, h2⟩ := h
    exact ⟨v, r, B, C, e1, e2, h1.sub e, OFs.sub e h2⟩
theorem OV.sub {K : PySem.W.Frag} {Hk Hk' H : Hp} {x : MV} {v : V} {A : List Addr} (e : NoX Hk Hk') (h : OV K Hk H x v A) : OV K Hk' H x v A := by
  cases x with
  | obj C fs =>
    unfold OV at h ⊢
    obtain ⟨p, CA, dx, vfs, B, e1, e2, e0, e3, e4, e5⟩ := h
    exact ⟨p, CA, dx, vfs, B, e1, e2, e0, e3, OFs.sub e e4, e5⟩
  | _ => (unfold OV at h ⊢; exact OF.sub e h)
section
variable {K : PySem.W.Frag} {F Hk H : Hp} {bp : List (Nat × Addr)} {σ : L2.St} {ρ : Env}
theorem SL.hole {ow : Nat → List Addr} (S : SL K F Hk H ow σ ρ) {i : Nat} (y : Option V) : SL K F Hk H (put ow i []) (σ.set i y) (ρ.set i none) := by
  refine ⟨fun j x h => ?_, fun j a h => ?_, fun j h => ?_, fun j k a hjk h => ?_⟩
  · rcases set_get h with ⟨_, e⟩ | ⟨ne, e⟩
    · cases e
    · obtain ⟨v, e1, o⟩ := S.s j x e
      refine ⟨v, by rw [List.getElem?_set_ne (Ne.symm ne)]; exact e1, ?_⟩
      unfold put
      rw [if_neg ne]; exact o
  · unfold put at h
    split at h
    · cases h
    · exact S.f j a h
  · unfold put at h
    split at h
    · exact absurd rfl h
    · rw [List.length_set]; exact S.w j h
  · unfold put at h ⊢
    split at h
    · cases h
    · split
      · simp
      · exact S.d j k a hjk h
theorem RS.hold (S : RS K F Hk H bp σ ρ) {i : Nat} {a : Addr} (hi : i < ρ.length) (hb : ∀ q ∈ bp, q.1 ≠ i) : RS K F Hk H ((i, a) :: bp) (σ.set i (some (.ref a))) (ρ.set i none) := by
  obtain ⟨ow, s⟩ := S.ow
  refine ⟨by rw [List.length_set, List.length_set, S.len], S.ex, S.fr, S.frk, ⟨_, s.hole _⟩, fun q hq => ?_⟩
  rcases List.mem_cons.mp hq with rfl | hq
  · exact List.getElem?_set_self (by rw [S.len]; exact hi)
  · rw [List.getElem?_set_ne (Ne.symm (hb q hq))]; exact S.bor q hq
theorem RS.unhold (S : RS K F Hk H ((i, a) :: bp) σ ρ) (hb : ∀ q ∈ bp, q.1 ≠ i) : RS K F Hk H bp (σ.set i none) (ρ.set i none) := by
  obtain ⟨ow, s⟩ := S.ow
  refine ⟨by rw [List.length_set, List.length_set, S.len], S.ex, S.fr, S.frk, ⟨_, s.hole _⟩, fun q hq => ?_⟩
  rw [List.getElem?_set_ne (Ne.symm (hb q hq))]; exact S.bor q (List.mem_cons_of_mem _ hq)
theorem RS.less (S : RS K F Hk H (p :: bp) σ ρ) : RS K F Hk H bp σ ρ := ⟨S.len, S.ex, S.fr, S.frk, S.ow, fun q hq => S.bor q (List.mem_cons_of_mem _ hq)⟩
theorem RS.aside (S : RS K F Hk H bp σ ρ) {dx : Addr} {fs : List (Str × V)} (hd : Hk dx = some (.xd fs)) : RS K (upd F dx (.xd fs)) (del Hk dx) H bp σ ρ := by
  have nx : NoX Hk (del Hk dx) := fun a o h n => by
    unfold del
    rw [if_neg (fun z => by subst z; rw [hd] at h; cases h; exact n _ rfl)]
    exact h
  have le : ∀ a o, del Hk dx a = some o → Hk a = some o := fun a o h => by
    unfold del at h
    split at h
    · cases h
    · exact h
  obtain ⟨ow, s⟩ := S.ow
  refine ⟨S.len, fun a o h => S.ex a o (le a o h), fun a o h => ?_, fun a o h => ?_, ⟨ow, fun i x h => ?_, fun i a h => ?_, s.w, s.d⟩, S.bor⟩
  · by_cases e : a = dx
    · subst e; rw [upd_same] at h; cases h; exact S.ex _ _ hd
    · rw [upd_ne e] at h; exact S.fr a o h
  · by_cases e : a = dx
    · subst e; exact del_same
    · rw [upd_ne e] at h; rw [del_ne e]; exact S.frk a o h
  · obtain ⟨v, e1, o⟩ := s.s i x h
    exact ⟨v, e1, o.sub nx⟩
  · obtain ⟨h1, h2, h3⟩ := s.f i a h
    have ne : a ≠ dx := fun z => by subst z; rw [hd] at h1; cases h1
    exact ⟨by rw [del_ne ne]; exact h1, by rw [upd_ne ne]; exact h2, h3⟩
theorem RS.back_in {dx : Addr} {fs : List (Str × V)} (S : RS K (upd F dx (.xd fs)) Hk H bp σ ρ) (hF : F dx = none) : RS K F (upd Hk dx (.xd fs)) H bp σ ρ := by
  have hk : Hk dx = none := S.frk dx _ upd_same
  have ex := Ex.new (o := HO.xd fs) hk
  obtain ⟨ow, s⟩ := S.ow
  refine ⟨S.len, fun a o h => ?_, fun a o h => ?_, fun a o h => ?_, ⟨ow, fun i x h => ?_, fun i a h => ?_, s.w, s.d⟩, S.bor⟩
  · by_cases e : a = dx
    · subst e; rw [upd_same] at h; cases h; exact S.fr _ _ upd_same
    · rw [upd_ne e] at h; exact S.ex a o h
  · have ne : a ≠ dx := fun z => by subst z; rw [hF] at h; cases h
    exact S.fr a o (by rw [upd_ne ne]; exact h)
  · have ne : a ≠ dx := fun z => by subst z; rw [hF] at h; cases h
    rw [upd_ne ne]
    exact S.frk a o (by rw [upd_ne ne]; exact h)
  · obtain ⟨v, e1, o⟩ := s.s i x h
    exact ⟨v, e1, o.move ex fun _ _ _ z => z⟩
  · obtain ⟨h1, h2, h3⟩ := s.f i a h
    have ne : a ≠ dx := fun z => by subst z; rw [upd_same] at h2; cases h2
    exact ⟨by rw [upd_ne ne]; exact h1, by rw [upd_ne ne] at h2; exact h2, h3⟩
end
theorem RV.flat {K K' : PySem.W.Frag} {H H' : Hp} {x : MV} {v : V} (f : flatM x = true) (h : RV K H x v) : RV K' H' x v := by
  cases x <;> first | (simp [flatM] at f; done) | (unfold RV at h ⊢; exact h)
theorem XFs.flat {K K' : PySem.W.Frag} {H H' : Hp} : ∀ {xs : List (Str × MV)} {vs : List (Str × V)}, xs.all (fun p => flatM p.2) = true → XFs K H xs vs → XFs K' H' xs vs
  | [], _, _, h => h
  | (n, x) :: xs, vs, f, h => by
    obtain ⟨v, r, e1, e2, e3⟩ := h
    simp only [List.all_cons, Bool.and_eq_true] at f
    exact ⟨v, r, e1, e2.flat f.1, XFs.flat f.2 e3⟩
structure ExT (K : PySem.W.Frag) (mg : Str → Option Value) (y : Str) (x : Str) (b : Bool) : Prop where
  ex : ∃ C D, mg x = some (.ref C) ∧ mg y = some (.ref D) ∧ PySem.W.exmOne K (.ref C) (.ref D) = some b
def XIn (F : Hp) (e : MX) (d : Option Addr) : Prop := (e.fs = [] ∧ d = none) ∨ ∃ dx vfs, d = some dx ∧ F dx = some (.xd vfs) ∧ ∀ K H, XFs K H e.fs vfs
def cH (c : Ct) (i : Nat) (a : Addr) (e : MX) (d : Option Addr) : Ct := ⟨c.K, c.mg, fun _ _ _ _ => False, i :: c.bs, fun F bp => (∃ bq, bp = (i, a) :: bq ∧ c.J F bq) ∧ XIn F e d, fun F F1 bp x h => by
  obtain ⟨⟨bq, e1, e2⟩, h2⟩ := h
  refine ⟨⟨bq, e1, c.Jm _ _ _ x e2⟩, ?_⟩
  rcases h2 with h2 | ⟨dx, vfs, q1, q2, q3⟩
  · exact .inl h2
  · exact .inr ⟨dx, vfs, q1, x _ _ q2, q3⟩⟩
section
variable {X : Cx} {c : Ct} {y n : Str} {i : Nat} {body suite : List Stmt} {b₀ : Stmt} {np pos pos' : Pos} {tab : List (Str × Bool)} {mb : MS} {mh : MX → MS}
theorem lookup_mem : ∀ {tab : List (Str × Bool)} {x : Str} {b : Bool}, tab.lookup x = some b → (x, b) ∈ tab
  | [], _, _, h => by simp at h
  | (z, k) :: tab, x, b, h => by
    rw [List.lookup_cons] at h
    by_cases e : x = z
    · subst e
      simp at h
      subst h
      exact List.mem_cons_self ..
    · have : (x == z) = false := by simpa using e
      rw [this] at h
      exact List.mem_cons_of_mem _ (lookup_mem h)
end
end Tm
set_option Elab.async false
set_option linter.all false
set_option maxRecDepth 100000
set_option maxHeartbeats 2000000
namespace Tm
open PySem L2 PySem.Spec PyProof.Rows
open Evl (Ex ex_rd ex_l ex_t)
def mRaise0 (x : Str) : MS := fun ρ => .exc ⟨x, []⟩ ρ
def mRaise1 (x f : Str) (a : ME) : MS := fun ρ => (a ρ).bind fun y ρ1 => .exc ⟨x, [(f, y)]⟩ ρ1
structure Cl0 (K : PySem.W.Frag) (mg : Str → Option Value) (x : Str) : Prop where
  ex : ∃ C, mg x = some (.ref C) ∧ PySem.W.excIn K C PySem.HandSPX.veTail "ValueError.__new__" = true ∧ PySem.W.keepIn K (.ref C) = true ∧ PySem.W.subIn K (.ref C) (.type "BaseException") = some true ∧ PySem.W.typeIn K (.ref C) = some (.type "type")
structure Cl1 (P : Program) (w : World) (K : PySem.W.Frag) (mg : Str → Option Value) (base : Heap) (x f : Str) : Prop where
  ex : ∃ C fI fd ps, OwX K mg x C fI ∧ PySem.W.findIn K (.ref C) f = some none ∧ FnOk P w K mg base (L2N.CX P w) 2 fI fd ps (spI1 K f) ∧ L2.Binds K fd ps []
structure Cl2 (P : Program) (w : World) (K : PySem.W.Frag) (mg : Str → Option Value) (base : Heap) (x f g : Str) : Prop where
  ex : ∃ C fI fd ps, OwX K mg x C fI ∧ PySem.W.findIn K (.ref C) f = some none ∧ PySem.W.findIn K (.ref C) g = some none ∧ FnOk P w K mg base (L2N.CX P w) 2 fI fd ps (spI2 K f g) ∧ L2.Binds K fd ps []
section
variable {X : Cx} {c : Ct} {x f g m : Str} {k j : Nat}
theorem ms_raise0 {p p2 p3 pos : Pos} (Z : Cl0 X.K X.mg x) (hc : X.calm = true) (tk : L2N.Takes X c.W) (hg : Gl X x) (hmg : c.mg = X.mg := by rfl) (hdb : (x == ("__debug__" : Str)) = false := by decide) :
    PS X (.Raise (some (.Call (.Name x p) [.Constant (.str m) j p2] [] p3)) none pos) (rdS c (mRaise0 x)) := by
  obtain ⟨C, h1, h2, h3, h4, h5⟩ := Z.ex
  refine PSw (L2N.ps_raise hc tk (L2N.pmk_own (m := m) (j := j) F.excBase_ValueError h2 h1 h3 (raises_own h4 h5) hg hdb)) fun D σ H ⟨F, Hk, bp, ρ, S, h⟩ => ?_
  exact h _ _ _ _ _ (Ex.refl _) S.1 ⟨C, by rw [hmg]; exact h1, rfl, .inl ⟨rfl, rfl⟩⟩
theorem ms_raise1 {e : Expr} {a : ME} {p p2 pos : Pos} (Z : Cl1 X.prog X.w X.K X.mg X.base x f) (hc : X.calm = true) (hr : Room k X.A) (hk : 3 ≤ k) (tk : L2N.Takes X c.W) (hg : Gl X x) (he : PE X e (rdE c a)) (hmg : c.mg = X.mg := by rfl)
    (hdb : (x == ("__debug__" : Str)) = false := by decide) (hst : starEach [e] X.env = (false, eval e X.env) :: starEach [] X.env := by rfl) (hpl : (backTo p2 (starEach [] X.env)).any (·.1) = false := by rfl) :
    PS X (.Raise (some (.Call (.Name x p) [e] [] p2)) none pos) (rdS c (mRaise1 x f a)) := by
  obtain ⟨C, fI, fd, ps, O, h2, h3, h4⟩ := Z.ex
  refine PSw (L2N.ps_raise hc tk (pmk1 (W := c.W) O h2 h3 (hr.mono hk) h4 tk hg (ma_cons he ma_nil hst) (fun σ H Q Q' q w => rdAw q w) hdb hst hpl)) fun D σ H ⟨F, Hk, bp, ρ, S, h⟩ => ?_
  have h : okS c F Hk bp D ((a ρ).bind fun y ρ1 => .exc ⟨x, [(f, y)]⟩ ρ1) := h
  refine ⟨F, Hk, bp, ρ, S, ?_⟩
  show okA c F Hk bp σ _ ((a ρ).bind fun y ρ1 => (mNil ρ1).bind fun xs ρ2 => .ok (y :: xs, ρ2))
  cases ea : a ρ with
  | stuck => rw [ea] at h; exact h
  | exc e ρ' => rw [ea] at h; exact fun Hk' H' cls d => h Hk' H' σ cls d
  | ok q =>
    obtain ⟨y, ρ1⟩ := q
    rw [ea] at h
    intro Hk1 H1 vs x1 S1 r1
    obtain ⟨v, us, rfl, r2, r3⟩ := RVs.cons.mp r1
    cases RVs.nil.mp r3
    refine ⟨v, rfl, fun d hd => ?_⟩
    have xn := Ex.new (o := HO.xd [(f, v)]) (S1.ex.back hd)
    exact h _ _ _ _ _ (x1.trans xn) (S1.new hd) ⟨C, by rw [hmg]; exact O.m, rfl, .inr ⟨d, _, rfl, upd_same, v, [], rfl, r2.mono xn, rfl⟩⟩
end
section
variable {prog : Program} {w : World} {A : Around} {E : Value → Shared → Prop} {s : Shared} {K : PySem.W.Frag} {x D : Addr} {ox : Obj} {od : Option Obj}
theorem findObj_any {C : Addr} {name : Str} {a g : Value} (hc : (PySem.W.clsIn K C).isSome = true) (ha : PySem.W.findIn K (.ref C) name = some (some a)) (hg : PySem.W.specialIn K a "__get__" = some (some g)) (ht : PySem.W.takesIn K a = some true) : PySem.W.findObj K C od name = some (.bind g a) := by
  obtain ⟨cd, hc⟩ := Option.isSome_iff_exists.mp hc
  unfold PySem.W.findObj
  rw [hc, Option.bind_some, ha, Option.bind_some]
  simp [hg, ht]
open PySem.W PySem.Calls in
theorem class_any {Q : Option Value → Shared → Prop} (c : ExcC K D) (X : K.In s.heap) (I : InstAt s.heap x ox D od) (h : Q (some (.ref D)) { s with toks := s.toks + 1 }) : wpAny (model prog w) A (getAttr? (.ref x) "__class__") Q E s := by
  have hf : findObj K D od "__class__" = some (.bind (.builtin "getset_descriptor.__get__") (.builtin "object.__class__")) := findObj_any (by obtain ⟨cd, hc, _⟩ := any_some c.hd; rw [hc]; rfl) c.ha c.hn c.ht
  obtain ⟨hp, g, d, t, os⟩ := s
  have L0 := I.type (M := model prog w)
  have L1 := looks_findIn (M := model prog w) X c.hg
  have L2 := looks_findIn (M := model prog w) X c.hk
  have L3 := looks_find (M := model prog w) X I hf
  have sub : Looks (model prog w) hp (isInstance (.ref x) (.type "BaseException")) true := L0.andThen (looks_subIn X c.hs)
  have z0 : (false && onTheHeap (Value.builtin "BaseException.__getattribute__")) = false := rfl
  have z2 : (Value.builtin "BaseException.__getattribute__" == Value.builtin "object.__getattribute__") = false := by decide +kernel
  have z1 : (onTheHeap (Value.ref D) && Value.builtin "BaseException.__getattribute__" == Value.builtin "object.__getattribute__") = false := by rw [z2]; rfl
  unfold getAttr? getAttrBy? getAttrBy
  refine wpAny_bind (wpAny_mkText (wpAny_bind (wpAny_attempt (wpAny_holding (wpAny_bind (L0.at (wpAny_bind (L1.at ?_))))))))
  show wpAny _ _ (if (onTheHeap (Value.ref D) && Value.builtin "BaseException.__getattribute__" == Value.builtin "object.__getattribute__") = true then _ else _) _ _ _
  rw [z1, if_neg Bool.false_ne_true]
  unfold getAttrByItsOwn hookBefore
  refine wpAny_bind ?_
  rw [if_pos (show onTheHeap (Value.ref D) = true from rfl)]
  refine L2.at ?_
  refine wpAny_bind (wpAny_attempt (wpAny_holding ?_))
  unfold callGetattribute
  rw [z0, if_neg Bool.false_ne_true]
  unfold boundAndCalled
  rw [PySem.F.excAttr_ValueError.ga.bind (.ref x)]
  refine wpAny_bind (wpAny_pure ?_)
  show wpAny _ _ (call (.builtin "BaseException.__getattribute__") [.ref x, .str "__class__" t]) _ _ _
  refine wpAny_call (codeAny_call_builtin PySem.F.excAttr_ValueError.ga.plain PySem.F.entry_bexc_ga ?_)
  refine @check_slot (model prog w) _ _ ⟨hp, g, d, t + 1, os⟩ "BaseException.__getattribute__" "BaseException" "__getattribute__" (.ref x) [.str "__class__" t] [] _ (by decide +kernel) (by decide +kernel) sub (PySem.F.args_bexc_ga (.ref x) (.str "__class__" t)) ?_
  unfold Builtin.«object.__getattribute__»
  refine wpAny_bind (wpAny_of_eq (a := ((Value.ref x : Value), [Value.str "__class__" t])) (by first | rfl | (simp only [slotArgs]; rfl)) ?_)
  refine wpAny_bind (wpAny_pure (wpAny_bind (L0.at (wpAny_bind (L3.at ?_)))))
  show wpAny _ _ (holding [Value.builtin "object.__class__"] (call (.builtin "getset_descriptor.__get__") [.builtin "object.__class__", .ref x, .ref D]) >>= ret) _ _ _
  refine wpAny_bind (wpAny_holding (wpAny_call (class_get (s := ⟨hp, g, d, t + 1, os⟩) (ox := ox) (od := od) X I c.hm ?_)))
  refine wpAny_pure ?_
  show wpAny _ _ (handedOut (.ref D)) _ _ _
  rw [handedOut_of (v := .ref D) rfl]
  first
    | exact wpAny_pure (wpAny_pure h)
    | exact wpAny_pure h
    | exact wpAny_pure (wpAny_bind (wpAny_pure (wpAny_pure h)))
open PySem.W PySem.Calls in
theorem kitx_any (c : ExcC K D) : KitX K (.ref x) (.ref D) (fun h => InstAt h x ox D od) where
  ty := fun _ _ _ I => I.type
  it := fun _ _ X _ => by
    obtain ⟨cdD, hcD, _⟩ := any_some c.hd
    unfold clsIn at hcD
    split at hcD
    · rename_i c' d' cd' sl' ho
      intro A' Q' E' s' k q
      unfold isType loadHead
      exact wpAny_bind (wpAny_loadPart (k _ _ (X _ _ ho)) (wpAny_pure q))
    · cases hcD
  ne := fun h tp dd its n sl X htp => by
    obtain ⟨cdD, hcD, _⟩ := any_some c.hd
    refine Bool.eq_false_iff.mpr fun q => ?_
    have e : D = tp := Value.ref.inj (beq_iff_eq.mp q)
    subst e
    unfold clsIn at hcD
    split at hcD
    · rename_i c' d' cd' sl' ho
      have z := (X _ _ ho).symm.trans htp
      cases z
    · cases hcD
  ca := fun X I k => class_any c X I k
end
def rIsX (K : PySem.W.Frag) (D a : Addr) (d : Option Addr) : List V → Hp → VK → Prop := fun xs H Q => ∃ (c : V) (cv : Value) (b : Bool), xs = [.ref a, c] ∧ (∀ u, RelV c u → u = cv) ∧ PySem.W.kitOne K (.ref D) cv = some b ∧ (d = none ∨ ∃ dd fs, d = some dd ∧ H dd = some (.xd fs)) ∧ Q (.bl b) H
theorem call_isX {X : Cx} {a D : Addr} {oe : Obj} {d : Option Addr} (hm : (a, oe) ∈ X.pn) (C : ExcC X.K D) (hz : Zc (.ref D) d oe) (hf : ∃ vs, oe.data = .fields vs) : CallR X (.builtin "isinstance") (rIsX X.K D a d) := by
  intro pins s σ H xs us Q I r h
  obtain ⟨c, cv, b, rfl, hcv, e, hd, q⟩ := h
  cases r with
  | cons rx rr =>
    cases rr with
    | cons rt rr =>
      cases rr
      cases rx
      have ec := hcv _ rt
      subst ec
      obtain ⟨hget, _⟩ := I.pin (a, oe) (List.mem_append.mpr (.inl hm))
      obtain ⟨vs, hv⟩ := hf
      have J : ∃ od, PySem.W.InstAt s.heap a oe D od := by
        rcases hd with hd | ⟨dd, fs, hd, hh⟩
        · exact ⟨none, hget, hz.1, by unfold PySem.W.notCls; rw [hv] <;> rfl, by rw [hz.2, hd]; trivial⟩
        · obtain ⟨mA, hns, _⟩ := I.hok dd _ hh
          obtain ⟨od, ho, _⟩ := lookIn_ns hns
          exact ⟨some od, hget, hz.1, by unfold PySem.W.notCls; rw [hv] <;> rfl, by rw [hz.2, hd]; exact ho⟩
      obtain ⟨od, J⟩ := J
      exact PySem.W.kia_one (kitx_any C) I.kIn J e (fun z => nomatch z) fun tk => ⟨.bl b, H, I.kept (t' := tk) fun _ _ z => z, rfl, q⟩
def mExF (e : MX) (f : Str) : ME := fun ρ => match e.fs.lookup f with
  | some x => .ok (x, ρ)
  | none => .stuck
def mExIs (e : MX) (tab : List (Str × Bool)) : ME := fun ρ => match tab.lookup e.cls with
  | some b => .ok (.bl b, ρ)
  | none => .stuck
theorem XFs.look {K : PySem.W.Frag} {H : Hp} {f : Str} {x : MV} : ∀ {xs : List (Str × MV)} {vs : List (Str × V)}, XFs K H xs vs → xs.lookup f = some x → ∃ v, vs.lookup f = some v ∧ RV K H x v
  | [], _, _, h => by simp at h
  | (n, y) :: xs, vs, r, h => by
    obtain ⟨v, rr, e1, e2, e3⟩ := r
    subst e1
    rw [List.lookup_cons] at h ⊢
    cases eq : f == n with
    | true => rw [eq] at h; cases h; exact ⟨v, rfl, e2⟩
    | false => rw [eq] at h; exact XFs.look e3 h
section
variable {X : Cx} {c : Ct} {a C : Addr} {oe : Obj} {d : Option Addr} {pn : List (Addr × Obj)} {e : MX} {i : Nat} {n f y : Str} {p p1 p2 pos : Pos}
theorem me_xf (T : XfC X.K C) (hno : PySem.W.findIn X.K (.ref C) f = some none) (hz : Zc (.ref C) d oe) (hf : ∃ vs, oe.data = .fields vs) (hN : X.N[i]? = some n) (hv : Vis X.env.scope n) (hK : c.K = X.K := by rfl)
    (hb : attributeBase (.Name n p) f X.env (eval (.Name n p) X.env) = eval (.Name n p) X.env := by rfl) (hd : (n == ("__debug__" : Str)) = false := by decide) (hcd : (n == ("__classdict__" : Str)) = false := by decide) :
    PE (X.suite a ((a, oe) :: pn)) (.Attribute (.Name n p) f pos) (rdE (cH c i a e d) (mExF e f)) := by
  refine PEw (pe_xf T hno hz hf (pe_var (i := i) hN hv hd hcd) hb) fun σ H Q ⟨F, Hk, bp, ρ, S, h⟩ => ?_
  obtain ⟨⟨bq, e1, e2⟩, xi⟩ := S.2.2
  refine ⟨.ref a, S.1.bor (i, a) (by rw [e1]; exact List.mem_cons_self ..), rfl, rfl, ?_⟩
  unfold mExF at h
  cases el : e.fs.lookup f with
  | none => rw [el] at h; exact h.elim
  | some x =>
    rw [el] at h
    rcases xi with ⟨z, _⟩ | ⟨dx, vfs, q1, q2, q3⟩
    · rw [z] at el; cases el
    · obtain ⟨v, g1, g2⟩ := (q3 (cH c i a e d).K Hk).look el
      exact ⟨dx, vfs, v, q1, S.1.fr _ _ q2, g1, h _ _ _ (Ex.refl _) S.1 g2⟩
theorem me_isXG {tab : List (Str × Bool)} {v : V} {cv : Value} (hm : (a, oe) ∈ X.pn) (T : ExcC X.K C) (hz : Zc (.ref C) d oe) (hf : ∃ vs, oe.data = .fields vs) (hN : X.N[i]? = some n) (hv : Vis X.env.scope n) (hi : X.mg "isinstance" = none) (hg : Gl X "isinstance") (he : PE X (.Name y p2) (tC v)) (hc : ∀ u, RelV v u → u = cv)
    (ht : ∀ b, tab.lookup e.cls = some b → PySem.W.kitOne X.K (.ref C) cv = some b)
    (hd : (n == ("__debug__" : Str)) = false := by decide) (hcd : (n == ("__classdict__" : Str)) = false := by decide) :
    PE X (.Call (.Name "isinstance" p) [.Name n p1, .Name y p2] [] pos) (rdE (cH c i a e d) (mExIs e tab)) := by
  have ha : PA X [.Name n p1, .Name y p2] (tCons (tVar i) (tCons (tC v) tNil)) := pa_cons (pe_var (i := i) hN hv hd hcd) (pa_cons he pa_nil)
  refine PEw (pe_callB (call_isX hm T hz hf) hg hi (by decide +kernel) ha (by decide) (by decide)) fun σ H Q ⟨F, Hk, bp, ρ, S, h⟩ => ?_
  obtain ⟨⟨bq, e1, e2⟩, xi⟩ := S.2.2
  refine ⟨.ref a, S.1.bor (i, a) (by rw [e1]; exact List.mem_cons_self ..), ?_⟩
  unfold mExIs at h
  cases el : tab.lookup e.cls with
  | none => rw [el] at h; exact h.elim
  | some b =>
    rw [el] at h
    refine ⟨v, cv, b, rfl, hc, ht b el, ?_, h _ _ _ (Ex.refl _) S.1 (RV.bl.mpr rfl)⟩
    rcases xi with ⟨_, z⟩ | ⟨dx, vfs, q1, q2, q3⟩
    · exact .inl z
    · exact .inr ⟨dx, vfs, q1, S.1.fr _ _ q2⟩
theorem me_isX {tab : List (Str × Bool)} (hm : (a, oe) ∈ X.pn) (T : ExcC X.K C) (hz : Zc (.ref C) d oe) (hf : ∃ vs, oe.data = .fields vs) (hN : X.N[i]? = some n) (hv : Vis X.env.scope n) (hi : X.mg "isinstance" = none) (hg : Gl X "isinstance") (hy : Gl X y) {Dy : Addr} (my : X.mg y = some (.ref Dy))
    (ht : ∀ b, tab.lookup e.cls = some b → PySem.W.kitOne X.K (.ref C) (.ref Dy) = some b)
    (hd : (n == ("__debug__" : Str)) = false := by decide) (hcd : (n == ("__classdict__" : Str)) = false := by decide) (hyd : (y == ("__debug__" : Str)) = false := by decide) :
    PE X (.Call (.Name "isinstance" p) [.Name n p1, .Name y p2] [] pos) (rdE (cH c i a e d) (mExIs e tab)) := me_isXG hm T hz hf hN hv hi hg (pe_glob hy my (v := .ref Dy) rfl hyd) (fun _ r => r) ht hd hcd
end
theorem fa_nil {α : Type} {P : α → Prop} : ∀ p ∈ ([] : List α), P p := fun _ h => nomatch h
theorem fa_cons {α : Type} {P : α → Prop} {x : α} {l : List α} (h : P x) (t : ∀ p ∈ l, P p) : ∀ p ∈ x :: l, P p := fun p hp => by
  rcases List.mem_cons.mp hp with rfl | hp
  · exact h
  · exact t p hp
def xcB (K : PySem.W.Frag) (C : Addr) (fs : List Str) : Bool := xfB K C && decide (PySem.W.findIn K (.ref C) "__class__" = some (some (.builtin "object.__class__"))) && decide (PySem.W.specialIn K (.builtin "object.__class__") "__get__" = some (some (.builtin "getset_descriptor.__get__"))) && decide (PySem.W.takesIn K (.builtin "object.__class__") = some true) && decide (PySem.W.mroIn K C (.type "object") = some true) && fs.all (fun f => decide (PySem.W.findIn K (.ref C) f = some none))
structure XcF (K : PySem.W.Frag) (mg : Str → Option Value) (fs : List Str) (x : Str) : Prop where
  ex : ∃ C, mg x = some (.ref C) ∧ xcB K C fs = true
structure KiT (K : PySem.W.Frag) (mg : Str → Option Value) (y x : Str) (b : Bool) : Prop where
  ex : ∃ C D, mg x = some (.ref C) ∧ mg y = some (.ref D) ∧ PySem.W.kitOne K (.ref C) (.ref D) = some b
structure XcG (K : PySem.W.Frag) (C : Addr) (fs : List Str) : Prop where
  xf : XfC K C
  xc : ExcC K C
  no : ∀ f ∈ fs, PySem.W.findIn K (.ref C) f = some none
theorem xcB_ok {K : PySem.W.Frag} {C : Addr} {fs : List Str} (h : xcB K C fs = true) : XcG K C fs := by
  unfold xcB at h
  simp only [Bool.and_eq_true, decide_eq_true_eq, List.all_eq_true] at h
  obtain ⟨⟨⟨⟨⟨h1, h2⟩, h3⟩, h4⟩, h5⟩, h6⟩ := h
  have T := xfB_ok h1
  exact ⟨T, ⟨T.ga, T.gg, T.exC, T.hdC, h2, h3, h4, h5⟩, h6⟩
theorem xc_at {K : PySem.W.Frag} {mg : Str → Option Value} {fs ts : List Str} {tab : List (Str × Bool)} {x : Str} {C : Addr} (Xs : ∀ x ∈ ts, XcF K mg fs x) (ht : tab.all (fun p => !p.2 || ts.contains p.1) = true) (hC : mg x = some (.ref C)) (hT : (x, true) ∈ tab) : XcG K C fs := by
  have h := List.all_eq_true.mp ht _ hT
  simp at h
  obtain ⟨C', h1, h2⟩ := (Xs x h).ex
  rw [hC] at h1
  cases h1
  exact xcB_ok h2
section
variable {X : Cx} {c : Ct} {a C : Addr} {oe : Obj} {d : Option Addr} {pn : List (Addr × Obj)} {e : MX} {i : Nat} {n f y : Str} {p p1 p2 pos : Pos} {fs : List Str} {tab tab2 : List (Str × Bool)}
theorem mx_f (G : XcG X.K C fs) (hf : f ∈ fs) (hz : L2N.Zn (.ref C) d oe) (hv : ∃ vs, oe.data = .fields vs) (hN : X.N[i]? = some n) (hl : Vis X.env.scope n)
    (hb : attributeBase (.Name n p) f X.env (eval (.Name n p) X.env) = eval (.Name n p) X.env := by rfl) (hd : (n == ("__debug__" : Str)) = false := by decide) (hcd : (n == ("__classdict__" : Str)) = false := by decide) (hK : c.K = X.K := by rfl) :
    PE (X.suite a ((a, oe) :: pn)) (.Attribute (.Name n p) f pos) (rdE (cH c i a e d) (mExF e f)) := me_xf G.xf (G.no f hf) hz.zc hv hN hl hK hb hd hcd
theorem mx_isG (hm : (a, oe) ∈ X.pn) (G : XcG X.K C fs) (Ks : ∀ b, tab2.lookup e.cls = some b → KiT X.K X.mg y e.cls b) (ney : ∃ D, X.mg y = some (.ref D)) (hC : X.mg e.cls = some (.ref C)) (hz : L2N.Zn (.ref C) d oe) (hv : ∃ vs, oe.data = .fields vs) (hN : X.N[i]? = some n) (hl : Vis X.env.scope n) (hi : X.mg "isinstance" = none) (hg : Gl X "isinstance") (hy : Gl X y)
    (hd : (n == ("__debug__" : Str)) = false := by decide) (hcd : (n == ("__classdict__" : Str)) = false := by decide) (hyd : (y == ("__debug__" : Str)) = false := by decide) :
    PE X (.Call (.Name "isinstance" p) [.Name n p1, .Name y p2] [] pos) (rdE (cH c i a e d) (mExIs e tab2)) := by
  obtain ⟨Dy, my⟩ := ney
  refine me_isX hm G.xc hz.zc hv hN hl hi hg hy my (fun b hb => ?_) hd hcd hyd
  obtain ⟨C', D', k1, k2, k3⟩ := (Ks _ hb).ex
  rw [hC] at k1
  cases k1
  rw [my] at k2
  cases k2
  exact k3
theorem mx_is (G : XcG X.K C fs) (Ks : ∀ p ∈ tab2, KiT X.K X.mg y p.1 p.2) (ney : ∃ D, X.mg y = some (.ref D)) (hC : X.mg e.cls = some (.ref C)) (hz : L2N.Zn (.ref C) d oe) (hv : ∃ vs, oe.data = .fields vs) (hN : X.N[i]? = some n) (hl : Vis X.env.scope n) (hi : X.mg "isinstance" = none) (hg : Gl X "isinstance") (hy : Gl X y)
    (hd : (n == ("__debug__" : Str)) = false := by decide) (hcd : (n == ("__classdict__" : Str)) = false := by decide) (hyd : (y == ("__debug__" : Str)) = false := by decide) :
    PE (X.suite a ((a, oe) :: pn)) (.Call (.Name "isinstance" p) [.Name n p1, .Name y p2] [] pos) (rdE (cH c i a e d) (mExIs e tab2)) :=
  mx_isG (X := X.suite a ((a, oe) :: pn)) List.mem_cons_self G (fun _ hb => Ks _ (lookup_mem hb)) ney hC hz hv hN hl hi hg hy hd hcd hyd
end
def inCls (s : Stmt) (j : Nat) : Stmt := match s with
  | .ClassDef _ _ _ b _ _ _ _ _ _ _ => b.getD j (.Pass ⟨0, 0, 0, 0⟩)
  | _ => .Pass ⟨0, 0, 0, 0⟩
theorem owX_mk {K : PySem.W.Frag} {mg : Str → Option Value} {x : Str} {C fI : Addr} {nm q : Str} {N : Addr} {bs bm : List Value} {sn : List Str} {sub : List Value} {ab : Bool} {col : Option Bool} {dd : Option Addr} {k0 k1 k2 k3 k5 : Option Value}
    (m : mg x = some (.ref C)) (l : K.lookup C = some (excClassObj nm q C N bs bm true sn sub ab col dd k0 k1 k2 k3 k5 "ValueError.__new__")) (r : PySem.HandSPX.refsVE bm = true) (sa : PySem.W.findIn K (.ref C) "__setattr__" = some (some (.builtin "object.__setattr__")))
    (eC : PySem.W.subIn K (.ref C) (.type "BaseException") = some true) (tC : PySem.W.typeIn K (.ref C) = some (.type "type")) (kC : PySem.W.keepIn K (.ref C) = true) (iC : PySem.W.findIn K (.ref C) "__init__" = some (some (.ref fI))) (tI : PySem.W.typeIn K (.ref fI) = some (.type "function")) : OwX K mg x C fI :=
  ⟨⟨⟨nm, q, N, bs, bm, sn, sub, ab, col, dd, k0, k1, k2, k3, k5, l, r⟩, sa, eC, tC, kC⟩, m, iC, tI⟩
end Tm
set_option Elab.async false
set_option linter.all false
set_option maxRecDepth 100000
set_option maxHeartbeats 2000000
namespace Tm
open PySem L2
open Evl (Ex ex_rd ex_l ex_t)
section
variable {X : Cx} {c : Ct} {p pos apos cpos : Pos} {o e : Expr} {es : List Expr} {a : ME} {m : MA}
def smE (f : Str → List MV → Option MV) (z : Str) (ys : List MV) (ρ2 : Env) : Res (MV × Env) := match f z ys with | some w => .ok (w, ρ2) | none => .stuck
def mSm (f : Str → List MV → Option MV) (a : ME) (b : MA) : ME := fun ρ => (a ρ).bind fun x ρ1 => match x with
  | .str z => (b ρ1).bind (smE f z)
  | _ => .stuck
def SmS (K : PySem.W.Frag) (f : Str → List MV → Option MV) (r : V → List V → Hp → VK → Prop) : Prop := ∀ (z : Str) (ys : List MV) (w : MV) (us : List V) (Hk H : Hp) (Q : VK), f z ys = some w → Ex Hk H → RVs K Hk ys us → (∀ u, RV K Hk w u → Q u H) →
  (∀ q ob, H q = none → RV K (upd Hk q ob) w (.ref q) → Q (.ref q) (upd H q ob)) → r (.str z) us H Q
theorem rd_sm {f : Str → List MV → Option MV} {r : V → List V → Hp → VK → Prop} (s : SmS c.K f r) {σ : St} {H : Hp} {Q : VK} (h : rdE c (mSm f a m) σ H Q) : tBM c.K "str" r (rdE c a) (rdA c m) σ H Q := by
  obtain ⟨F, Hk, bp, ρ, S, h⟩ := h
  refine rdw (bE postE S h) fun v H1 ⟨Hk1, x, ρ1, x1, S1, r1, h1⟩ => ?_
  cases x with
  | str z =>
    rw [RV.str.mp r1]
    refine ⟨rfl, ?_⟩
    refine rdAw (bA postE S1 h1) fun us H2 ⟨Hk2, ys, ρ2, x2, S2, r2, h2⟩ => ?_
    have h2 : okE c F Hk2 bp σ Q (match f z ys with | some w => .ok (w, ρ2) | none => .stuck) := h2
    cases ef : f z ys with
    | none => rw [ef] at h2; exact h2.elim
    | some w =>
      rw [ef] at h2
      exact s z ys w us Hk2 H2 Q ef S2.1.ex r2 (fun u ru => h2 _ _ u (Ex.refl _) S2.1 ru) fun q ob hq ru => h2 _ _ _ (Ex.new (S2.1.ex.back hq)) (S2.1.new hq) ru
  | _ => exact h1.elim
theorem me_sm {f : Str → List MV → Option MV} {r : V → List V → Hp → VK → Prop} {id : String} {name : Str} (s : SmS c.K f r) (slot : Slot "str" name id) (hty : typeOf (.builtin id) = pure (.type "method_descriptor")) (hm : MtR X id r) (ho : PE X o (rdE c a)) (ha : PA X (e :: es) (rdA c m)) (hK : c.K = X.K := by rfl)
    (hbase : attributeBase o name X.env (eval o X.env) = eval o X.env := by rfl)
    (hfew : ((backTo cpos (starEach (e :: es) X.env)).all (fun x => !x.1) && (backToKw cpos (keywordEach [] X.env)).all (fun x => x.1.isSome)
      && decide ((e :: es).length + ([] : List Keyword).length + (if ([] : List Keyword).isEmpty then 0 else 1) < 30)) = true := by rfl)
    (hline : (apos.endLine == cpos.line) = true := by rfl) (hs : starEach (e :: es) X.env = (false, eval e X.env) :: starEach es X.env := by rfl) (hplain : (backTo cpos (starEach es X.env)).any (·.1) = false := by rfl) :
    PE X (.Call (.Attribute o name apos) (e :: es) [] cpos) (rdE c (mSm f a m)) :=
  PEw (pe_bm PySem.F.plainAttrs_str slot hty hm ho ha hbase hfew hline hs hplain) fun σ H Q h => by
    have := rd_sm s h
    rw [hK] at this
    exact this
end
def strsOf : List MV → Option (List Str)
  | [] => some []
  | .str z :: r => (match strsOf r with | some l => some (z :: l) | none => none)
  | _ :: _ => none
theorem strs_rv {K : PySem.W.Frag} {H : Hp} : ∀ {xs : List MV} {ss : List Str} {vs : List V}, strsOf xs = some ss → RVs K H xs vs → vs = ss.map V.str
  | [], ss, vs, h, r => by cases h; exact RVs.nil.mp r
  | .str z :: xs, ss, vs, h, r => by
    obtain ⟨v, us, rfl, r1, r2⟩ := RVs.cons.mp r
    unfold strsOf at h
    cases e : strsOf xs with
    | none => rw [e] at h; cases h
    | some l =>
      rw [e] at h
      cases h
      rw [RV.str.mp r1, strs_rv e r2]; rfl
  | .non :: _, _, _, h, _ => by cases h
  | .bl _ :: _, _, _, h, _ => by cases h
  | .int _ :: _, _, _, h, _ => by cases h
  | .tup _ :: _, _, _, h, _ => by cases h
  | .lst _ :: _, _, _, h, _ => by cases h
  | .own _ :: _, _, _, h, _ => by cases h
  | .raw _ :: _, _, _, h, _ => by cases h
  | .scr _ :: _, _, _, h, _ => by cases h
  | .fnc _ :: _, _, _, h, _ => by cases h
  | .obj _ _ :: _, _, _, h, _ => by cases h
  | .dct _ _ :: _, _, _, h, _ => by cases h
  | .dow _ _ :: _, _, _, h, _ => by cases h
  | .dot _ _ :: _, _, _, h, _ => by cases h
def joinM (z : Str) (ss : List Str) : Option MV := if decide ((ss.map (·.length)).sum + ss.length * z.length ≤ 16777216) then some (.str (Txt.join z ss)) else none
def smJoin : Str → List MV → Option MV
  | z, [.lst xs] => (strsOf xs).bind (joinM z)
  | z, [.tup xs] => (strsOf xs).bind (joinM z)
  | _, _ => none
theorem strs_map {K : PySem.W.Frag} {H : Hp} : ∀ (ss : List Str), RVs K H (ss.map MV.str) (ss.map V.str)
  | [] => RVs.nil.mpr rfl
  | s :: ss => RVs.cons.mpr ⟨_, _, rfl, RV.str.mpr rfl, strs_map ss⟩
theorem ss_join {K : PySem.W.Frag} : SmS K smJoin (fun x xs H Q => ∃ a p, ∃ ys : List Str, x = .str a ∧ xs = [.ref p] ∧ (SqL K H p (ys.map V.str) ∨ SqT K H p (ys.map V.str)) ∧ (ys.map (·.length)).sum + ys.length * a.length ≤ 16777216 ∧ Q (.str (Txt.join a ys)) H) := by
  intro z ys w us Hk H Q e ex r q qn
  have fin : ∀ ss, joinM z ss = some w → (ss.map (·.length)).sum + ss.length * z.length ≤ 16777216 ∧ w = .str (Txt.join z ss) := fun ss h => by
    unfold joinM at h
    split at h
    · rename_i hd
      exact ⟨of_decide_eq_true hd, by cases h; rfl⟩
    · cases h
  unfold smJoin at e
  split at e
  · rename_i xs
    obtain ⟨v, rfl, rv⟩ := rvs1 r
    obtain ⟨p, vs, rfl, h1, s1⟩ := RV.lst.mp rv
    cases es : strsOf xs with
    | none => rw [es] at e; cases e
    | some ss =>
      rw [es] at e
      obtain ⟨f1, rfl⟩ := fin ss e
      have := strs_rv es s1
      subst this
      exact ⟨z, p, ss, rfl, rfl, .inl (SqL.of (ex _ _ h1)), f1, q _ (RV.str.mpr rfl)⟩
  · rename_i xs
    obtain ⟨v, rfl, rv⟩ := rvs1 r
    obtain ⟨p, vs, rfl, h1, s1⟩ := RV.tup.mp rv
    cases es : strsOf xs with
    | none => rw [es] at e; cases e
    | some ss =>
      rw [es] at e
      obtain ⟨f1, rfl⟩ := fin ss e
      have := strs_rv es s1
      subst this
      exact ⟨z, p, ss, rfl, rfl, .inr (ex_t ex h1), f1, q _ (RV.str.mpr rfl)⟩
  · cases e
def smSplit : Str → List MV → Option MV
  | z, [.str b] => if (b.length == 0) = false ∧ z.length + 2 ≤ sizeLine then some (.lst ((Txt.split z b).map MV.str)) else none
  | _, _ => none
theorem ss_split {K : PySem.W.Frag} : SmS K smSplit (fun x xs H Q => ∃ a b, x = .str a ∧ xs = [.str b] ∧ (b.length == 0) = false ∧ a.length + 2 ≤ sizeLine ∧ rNewStrs (Txt.split a b) H Q) := by
  intro z ys w us Hk H Q e ex r q qn
  unfold smSplit at e
  split at e
  · rename_i b
    split at e
    · rename_i h
      cases e
      obtain ⟨v, rfl, rv⟩ := rvs1 r
      rw [RV.str.mp rv]
      exact ⟨z, b, rfl, rfl, h.1, h.2, fun p hp => qn p _ hp (RV.lst.mpr ⟨p, _, rfl, upd_same, strs_map _⟩)⟩
    · cases e
  · cases e
def smPartition : Str → List MV → Option MV
  | z, [.str b] => if (b.length == 0) = false ∧ z.length ≤ sizeLine then some (.tup [.str (Txt.partition z b).1, .str (Txt.partition z b).2.1, .str (Txt.partition z b).2.2]) else none
  | _, _ => none
theorem ss_partition {K : PySem.W.Frag} : SmS K smPartition (fun x xs H Q => ∃ a b, x = .str a ∧ xs = [.str b] ∧ (b.length == 0) = false ∧ a.length ≤ sizeLine ∧
    ∀ p, H p = none → Q (.ref p) (upd H p (.tup [.str (Txt.partition a b).1, .str (Txt.partition a b).2.1, .str (Txt.partition a b).2.2]))) := by
  intro z ys w us Hk H Q e ex r q qn
  unfold smPartition at e
  split at e
  · rename_i b
    split at e
    · rename_i h
      cases e
      obtain ⟨v, rfl, rv⟩ := rvs1 r
      rw [RV.str.mp rv]
      exact ⟨z, b, rfl, rfl, h.1, h.2, fun p hp => qn p _ hp (RV.tup.mpr ⟨p, _, rfl, SqT.of upd_same, strs_map [(Txt.partition z b).1, (Txt.partition z b).2.1, (Txt.partition z b).2.2]⟩)⟩
    · cases e
  · cases e
def smIndex : Str → List MV → Option MV
  | z, [.str b] => (match Builtin.Str.occurrences z b 0 z.length 1 with | i :: _ => some (.int (i : Nat)) | [] => none)
  | _, _ => none
theorem ss_index {K : PySem.W.Frag} : SmS K smIndex (fun x xs H Q => ∃ a b i rest, x = .str a ∧ xs = [.str b] ∧ Builtin.Str.occurrences a b 0 a.length 1 = i :: rest ∧ Q (.int (i : Nat)) H) := by
  intro z ys w us Hk H Q e ex r q qn
  unfold smIndex at e
  split at e
  · rename_i b
    split at e
    · rename_i i rest h
      cases e
      obtain ⟨v, rfl, rv⟩ := rvs1 r
      rw [RV.str.mp rv]
      exact ⟨z, b, i, rest, rfl, rfl, h, q _ (RV.int.mpr rfl)⟩
    · cases e
  · cases e
def mWhileN : Nat → MT → MS → MS
  | 0, _, _ => fun _ => .stuck
  | n + 1, t, b => fun ρ => (t ρ).bind fun k ρ1 => if k then ((b ρ1).bind fun f ρ2 => match f with
    | .nx => mWhileN n t b ρ2
    | .ct => mWhileN n t b ρ2
    | .br => .ok (.nx, ρ2)
    | .rt v => .ok (.rt v, ρ2)) else .ok (.nx, ρ1)
section
variable {X : Cx} {c : Ct} {pos : Pos} {t : MT} {b : MS}
theorem okS.wl {F Hk : Hp} {bp : List (Nat × Addr)} {D : Ends} {n : Nat} {N : St → Hp → Prop} (hN : ∀ Hk' H' σ' ρ', Ex Hk Hk' → RS c.K F Hk' H' bp σ' ρ' → okS c F Hk' bp D (mWhileN n t b ρ') → N σ' H') {r : Res (Fl × Env)}
    (h : okS c F Hk bp D (r.bind fun f ρ2 => match f with | .nx => mWhileN n t b ρ2 | .ct => mWhileN n t b ρ2 | .br => .ok (.nx, ρ2) | .rt v => .ok (.rt v, ρ2))) : okS c F Hk bp { D with nx := N, ct := N, bk := D.nx } r := by
  cases r with
  | stuck => exact h
  | exc e ρ => exact h
  | ok q =>
    obtain ⟨f, ρ1⟩ := q
    cases f with
    | nx => exact fun Hk1 H1 σ1 x1 S1 => hN Hk1 H1 σ1 ρ1 x1 S1 (okS.mono x1 h)
    | ct => exact fun Hk1 H1 σ1 x1 S1 => hN Hk1 H1 σ1 ρ1 x1 S1 (okS.mono x1 h)
    | br => exact h
    | rt x => exact h
end
end Tm
set_option Elab.async false
set_option linter.all false
set_option maxRecDepth 100000
set_option maxHeartbeats 2000000
namespace Tm
open PySem L2
open Evl (Ex ex_rd ex_l ex_t)
inductive BA where
  | v (x : MV) | b (i : Nat)
abbrev MB := Env → Res (List BA × Env)
def idxB : List BA → List Nat
  | [] => []
  | .v _ :: r => idxB r
  | .b i :: r => i :: idxB r
def MV.held : MV → Bool
  | .own _ => true
  | .obj _ _ => true
  | _ => false
def fill : List BA → Env → Option (List MV)
  | [], _ => some []
  | .v x :: r, ρ => (match fill r ρ with | some xs => some (x :: xs) | none => none)
  | .b i :: r, ρ => (match ρ[i]?, fill r ρ with | some (some x), some xs => if x.held then some (x :: xs) else none | _, _ => none)
def back (ρ : Env) : List Nat → Env → Env
  | [], _ => ρ
  | i :: is, os => back (ρ.set i (os.head?).join) is os.tail
def BVs (K : PySem.W.Frag) (Hk : Hp) (σ : St) : List BA → List V → Prop
  | [], vs => vs = []
  | .v x :: r, vs => ∃ v us, vs = v :: us ∧ RV K Hk x v ∧ BVs K Hk σ r us
  | .b i :: r, vs => ∃ v us, vs = v :: us ∧ σ[i]? = some (some v) ∧ BVs K Hk σ r us
theorem BVs.mono {K : PySem.W.Frag} {Hk Hk' : Hp} {σ : St} (e : Ex Hk Hk') : ∀ {xs : List BA} {vs : List V}, BVs K Hk σ xs vs → BVs K Hk' σ xs vs
  | [], _, h => h
  | .v x :: r, vs, ⟨v, us, e1, e2, e3⟩ => ⟨v, us, e1, RV.mono e _ _ e2, BVs.mono e e3⟩
  | .b i :: r, vs, ⟨v, us, e1, e2, e3⟩ => ⟨v, us, e1, e2, BVs.mono e e3⟩
theorem BVs.length {K : PySem.W.Frag} {Hk : Hp} {σ : St} : ∀ {xs : List BA} {vs : List V}, BVs K Hk σ xs vs → vs.length = xs.length
  | [], _, h => by rw [show _ = [] from h]; rfl
  | .v x :: r, vs, ⟨v, us, e1, e2, e3⟩ => by rw [e1, List.length_cons, List.length_cons, e3.length]
  | .b i :: r, vs, ⟨v, us, e1, e2, e3⟩ => by rw [e1, List.length_cons, List.length_cons, e3.length]
def okBA (c : Ct) (F Hk : Hp) (bp : List (Nat × Addr)) (σ : St) (Q : List V → Hp → Prop) : Res (List BA × Env) → Prop
  | .ok (xs, ρ') => ∀ Hk' H' vs, Ex Hk Hk' → RS c.K F Hk' H' bp σ ρ' → BVs c.K Hk' σ xs vs → Q vs H'
  | .exc e ρ' => Wish c F Hk bp σ e ρ'
  | .stuck => False
theorem okBA.mono {c : Ct} {F Hk Hk' : Hp} {bp : List (Nat × Addr)} {σ : St} {Q : List V → Hp → Prop} {r : Res (List BA × Env)} (x : Ex Hk Hk') (h : okBA c F Hk bp σ Q r) : okBA c F Hk' bp σ Q r := by
  cases r with
  | ok a => exact fun Hk2 H2 v x2 => h Hk2 H2 v (x.trans x2)
  | exc e ρ => exact Wish.mono x h
  | stuck => exact h
end Tm
set_option Elab.async false
set_option linter.all false
set_option maxRecDepth 100000
set_option maxHeartbeats 2000000
namespace Tm
open PySem L2
open Evl (Ex ex_rd ex_l ex_t)
def cbE (f : MF) (args : List BA) (ρ : Env) : Res (MV × Env) := match fill args ρ with
  | some xs => (match f xs with | .ok (v, os) => .ok (v, back ρ (idxB args) os) | .exc e os => .exc e (back ρ (idxB args) os) | .stuck => .stuck)
  | none => .stuck
end Tm
set_option Elab.async false
set_option linter.all false
set_option maxRecDepth 100000
set_option maxHeartbeats 2000000
namespace Tm
open PySem L2
open Evl (Ex ex_rd ex_l ex_t)
def putM (f : Str) (v : MV) : List (Str × MV) → List (Str × MV)
  | [] => [(f, v)]
  | (g, x) :: r => if g = f then (g, v) :: r else (g, x) :: putM f v r
theorem look_eq {α : Type} {f g : Str} {x : α} {r : List (Str × α)} : ((g, x) :: r).lookup f = if g = f then some x else r.lookup f := by
  rw [List.lookup_cons]
  by_cases e : g = f
  · subst e; simp
  · rw [if_neg e]
    have : (f == g) = false := by simpa using fun z => e z.symm
    rw [this]
section
variable {K : PySem.W.Frag} {Hk H : Hp}
theorem OFs.fresh : ∀ {fs : List (Str × MV)} {vfs : List (Str × V)} {B : List Addr} {f : Str}, OFs K Hk H fs vfs B → fs.lookup f = none → vfs.lookup f = none ∧
    ∀ (Hk' H' : Hp) (x' : MV) (v' : V) (A1' : List Addr), Ex Hk Hk' → (∀ a ∈ B, ∀ o, H a = some o → H' a = some o) → OF K Hk' H' x' v' A1' → OFs K Hk' H' (putM f x' fs) (putF f v' vfs) (B ++ A1')
  | [], vfs, B, f, ⟨e1, e2⟩, _ => by
    subst e1 e2
    exact ⟨rfl, fun Hk' H' x' v' A1' ex k o' => ⟨v', [], A1', [], rfl, by simp, o', rfl, rfl⟩⟩
  | (n, y) :: fs, vfs, B, f, ⟨v, r, C, D, e1, e2, o1, o2⟩, h => by
    subst e1 e2
    rw [look_eq] at h
    by_cases e : n = f
    · rw [if_pos e] at h; cases h
    · rw [if_neg e] at h
      obtain ⟨g1, g4⟩ := OFs.fresh o2 h
      refine ⟨by rw [look_eq, if_neg e]; exact g1, fun Hk' H' x' v' A1' ex k o' => ?_⟩
      unfold putM putF
      rw [if_neg e, if_neg e]
      exact ⟨v, _, C, D ++ A1', rfl, by simp, o1.move ex fun a ha => k a (by simp [ha]), g4 Hk' H' x' v' A1' ex (fun a ha => k a (by simp [ha])) o'⟩
theorem OFs.len : ∀ {fs : List (Str × MV)} {vfs : List (Str × V)} {B : List Addr}, OFs K Hk H fs vfs B → vfs.length = fs.length
  | [], vfs, B, ⟨e1, _⟩ => by rw [e1]; rfl
  | _ :: fs, vfs, B, ⟨v, r, C, D, e1, e2, o1, o2⟩ => by rw [e1, List.length_cons, List.length_cons, o2.len]
theorem OV.obj {C : Str} {fs : List (Str × MV)} {v : V} {A : List Addr} : OV K Hk H (.obj C fs) v A ↔ ∃ p CA dx vfs B, v = .ref p ∧ A = p :: B ∧ PySem.W.nsIn K mainGlobals C = some (some (.ref CA)) ∧ H p = some (.ins CA dx vfs) ∧ OFs K Hk H fs vfs B ∧ (p :: B).Nodup := by
  unfold OV; rfl
theorem OF.own {xs : List MV} {v : V} {A : List Addr} : OF K Hk H (.own xs) v A ↔ ∃ p vs, v = .ref p ∧ A = [p] ∧ H p = some (.lst vs) ∧ RVs K Hk xs vs := by
  unfold OF; rfl
end
structure ObC (K : PySem.W.Frag) (C : Str) (fs : List Str) : Prop where
  ex : ∀ CA, PySem.W.nsIn K mainGlobals C = some (some (.ref CA)) → Cls K CA ∧ ∀ f ∈ fs, NoAttr K CA f
end Tm
set_option Elab.async false
set_option linter.all false
set_option maxRecDepth 100000
set_option maxHeartbeats 2000000
namespace Tm
open PySem L2
open Evl (Ex ex_rd ex_l ex_t)
structure ObM (P : Program) (w : World) (K : PySem.W.Frag) (mg : Str → Option Value) (base : Heap) (C m : Str) (k : Nat) (ps : List Str) (bs : List Nat) (f : MF) : Prop where
  ex : ∃ CA g fd, PySem.W.nsIn K mainGlobals C = some (some (.ref CA)) ∧ Cls K CA ∧ Meth K CA m g ∧ FnOk P w K mg base (L2N.CX P w) k g fd ps (spF K mg ps.length bs f) ∧ Binds K fd ps []
structure ObN (P : Program) (w : World) (K : PySem.W.Frag) (mg : Str → Option Value) (base : Heap) (C : Str) (k : Nat) (f : MF) : Prop where
  ex : ∃ CA g fd ps, PySem.W.nsIn K mainGlobals C = some (some (.ref CA)) ∧ mg C = some (.ref CA) ∧ Mk K CA g ∧ FnOk P w K mg base (L2N.CX P w) k g fd ps (spF K mg 1 [0] f) ∧ Binds K fd ps []
end Tm
set_option Elab.async false
set_option linter.all false
set_option maxRecDepth 100000
set_option maxHeartbeats 2000000
namespace Tm
open PySem L2
open Evl (Ex ex_rd ex_l ex_t)
def FnA (K : PySem.W.Frag) (a : Addr) : Prop := ∃ o, K.lookup a = some o ∧ o.cls = .type "function"
theorem FnA.ty {X : Cx} {pins : List (Addr × Obj)} {σ : St} {H : Hp} {s : Shared} {a : Addr} (I : Inv X pins σ H s) (h : FnA X.K a) : s.TypeIs (.ref a) "function" := by
  obtain ⟨o, h1, h2⟩ := h
  exact ⟨o, I.kIn _ _ h1, h2⟩
structure FnI (K : PySem.W.Frag) (N : List Str) : Prop where
  fn : ∀ x ∈ N, ∀ a, PySem.W.nsIn K mainGlobals x = some (some (.ref a)) → FnA K a
  inj : ∀ x ∈ N, ∀ y ∈ N, ∀ a, PySem.W.nsIn K mainGlobals x = some (some (.ref a)) → PySem.W.nsIn K mainGlobals y = some (some (.ref a)) → x = y
structure FnT (P : Program) (w : World) (K : PySem.W.Frag) (mg : Str → Option Value) (base : Heap) (T : List (Str × MF)) : Prop where
  ex : ∀ x f, T.lookup x = some f → ∀ a, PySem.W.nsIn K mainGlobals x = some (some (.ref a)) → ∃ fd ps, FnOk P w K mg base (L2N.CX P w) 2 a fd ps (spF K mg 1 [] f) ∧ PySem.W.keepIn K (.ref a) = true ∧ Binds K fd ps []
end Tm
set_option Elab.async false
set_option linter.all false
set_option maxRecDepth 100000
set_option maxHeartbeats 2000000
namespace Tm
open PySem L2
open Evl (Ex ex_rd ex_l ex_t)
section
variable {X : Cx} {c : Ct} {C x f : Str} {fl : List Str} {i : Nat} {p p2 pos apos cpos : Pos} {e : Expr} {es : List Expr}
structure FnG (K : PySem.W.Frag) (mg : Str → Option Value) (x : Str) : Prop where
  ex : ∃ a, mg x = some (.ref a) ∧ PySem.W.nsIn K mainGlobals x = some (some (.ref a))
end
end Tm
set_option Elab.async false
set_option linter.all false
set_option maxRecDepth 100000
set_option maxHeartbeats 2000000
namespace Tm
open PySem L2
open Evl (Ex ex_rd ex_l ex_t)
structure ObX (P : Program) (w : World) (K : PySem.W.Frag) (mg : Str → Option Value) (base : Heap) (C m : Str) (k : Nat) (ps : List Str) (sp : Sp) : Prop where
  ex : ∃ CA g fd, PySem.W.nsIn K mainGlobals C = some (some (.ref CA)) ∧ Cls K CA ∧ Meth K CA m g ∧ FnOk P w K mg base (L2N.CX P w) k g fd ps sp ∧ Binds K fd ps []
end Tm
set_option Elab.async false
set_option linter.all false
set_option maxRecDepth 100000
set_option maxHeartbeats 2000000
namespace Tm
open PySem L2
theorem nr {α : Sort _} {a b : α} (h : a = b) : a = b := h
section
variable {α β : Type} {a b : ME} {ρ ρ1 : Env} {r : Option MV} {x y z : MV}
@[simp] theorem bind_ok {x : α} {f : α → Env → Res (β × Env)} : (Res.ok (x, ρ)).bind f = f x ρ := nr rfl
@[simp] theorem bind_exc {e : MX} {f : α → Env → Res (β × Env)} : (Res.exc e ρ : Res (α × Env)).bind f = .exc e ρ := nr rfl
@[simp] theorem bind_stuck {f : α → Env → Res (β × Env)} : (Res.stuck : Res (α × Env)).bind f = .stuck := nr rfl
@[simp] theorem b0_ok {x : α} {f : α → Env → Res (β × Env)} : (Res.ok (x, ρ)).b0 f = f x ρ := nr rfl
@[simp] theorem mVar_ap {i : Nat} : mVar i (r :: ρ) = match (r :: ρ)[i]? with
  | some (some (.own xs)) => .ok (.lst xs, (r :: ρ).set i (some (.lst xs)))
  | some (some (.obj _ _)) => .stuck
  | some (some (.dow _ _)) => .stuck
  | some (some (.dot _ _)) => .stuck
  | some (some x) => .ok (x, (r :: ρ))
  | _ => .stuck := nr rfl
@[simp] theorem mC_ap  : mC x (r :: ρ) = .ok (x, (r :: ρ)) := nr rfl
@[simp] theorem mOp_ap {f : MV → MV → Option MV} : mOp f a b (r :: ρ) = (a (r :: ρ)).bind fun x ρ1 => (b ρ1).bind fun y ρ2 => match f x y with | some z => .ok (z, ρ2) | none => .stuck := nr rfl
@[simp] theorem mUn_ap {f : MV → Option MV} : mUn f a (r :: ρ) = (a (r :: ρ)).bind fun x ρ1 => match f x with | some z => .ok (z, ρ1) | none => .stuck := nr rfl
@[simp] theorem mTest_ap  : mTest a (r :: ρ) = (a (r :: ρ)).bind fun x ρ1 => match x with | .bl b => .ok (b, ρ1) | _ => .stuck := nr rfl
@[simp] theorem mChain_ap {f g : MV → MV → Option MV} {d : ME} : mChain f g a b d (r :: ρ) = (a (r :: ρ)).bind fun x ρ1 => (b ρ1).bind fun y ρ2 => match f x y with
  | some (.bl true) => (d ρ2).bind fun z ρ3 => match g y z with | some w => .ok (w, ρ3) | none => .stuck
  | some (.bl false) => .ok (.bl false, ρ2)
  | _ => .stuck := nr rfl
@[simp] theorem mAndT_ap {a b : MT} : mAndT a b (r :: ρ) = (a (r :: ρ)).bind fun x ρ1 => if x then b ρ1 else .ok (false, ρ1) := nr rfl
@[simp] theorem mOrT_ap {a b : MT} : mOrT a b (r :: ρ) = (a (r :: ρ)).bind fun x ρ1 => if x then .ok (true, ρ1) else b ρ1 := nr rfl
@[simp] theorem mNotT_ap {a : MT} : mNotT a (r :: ρ) = (a (r :: ρ)).bind fun x ρ1 => .ok (!x, ρ1) := nr rfl
@[simp] theorem mBv_ap {t : MT} : mBv t (r :: ρ) = (t (r :: ρ)).bind fun x ρ1 => .ok (.bl x, ρ1) := nr rfl
@[simp] theorem mNil_ap  : mNil (r :: ρ) = .ok ([], (r :: ρ)) := nr rfl
@[simp] theorem mCons_ap {b : MA} : mCons a b (r :: ρ) = (a (r :: ρ)).bind fun x ρ1 => (b ρ1).bind fun xs ρ2 => .ok (x :: xs, ρ2) := nr rfl
@[simp] theorem mTup_ap {a : MA} : mTup a (r :: ρ) = (a (r :: ρ)).bind fun xs ρ1 => if szOk xs.length then .ok (.tup xs, ρ1) else .stuck := nr rfl
@[simp] theorem mLst_ap {a : MA} : mLst a (r :: ρ) = (a (r :: ρ)).bind fun xs ρ1 => if szOk xs.length then .ok (.lst xs, ρ1) else .stuck := nr rfl
@[simp] theorem mLstO_ap {a : MA} : mLstO a (r :: ρ) = (a (r :: ρ)).bind fun xs ρ1 => if szOk xs.length then .ok (.own xs, ρ1) else .stuck := nr rfl
@[simp] theorem mIxV_ap {i : Nat} : mIxV i b (r :: ρ) = if has (r :: ρ) i then (b (r :: ρ)).bind fun y ρ1 => match ixV ρ1 i y with | some z => .ok (z, ρ1) | none => .stuck else .stuck := nr rfl
@[simp] theorem mNo_ap  : mNo (r :: ρ) = .ok (none, (r :: ρ)) := nr rfl
@[simp] theorem mPart_ap  : mPart a (r :: ρ) = (a (r :: ρ)).bind fun x ρ1 => match x with | .int i => .ok (some i, ρ1) | _ => .stuck := nr rfl
@[simp] theorem mSl_ap {l h : Env → Res (Option Int × Env)} : mSl a l h (r :: ρ) = (a (r :: ρ)).bind fun x ρ1 => (l ρ1).bind fun i ρ2 => (h ρ2).bind fun j ρ3 => match fSl x i j with | some z => .ok (z, ρ3) | none => .stuck := nr rfl
@[simp] theorem gSet_ap {i : Nat} : gSet i x (r :: ρ) = if i < (r :: ρ).length then some ((r :: ρ).set i (some x)) else none := nr rfl
@[simp] theorem gsNil_ap  : gsNil [] (r :: ρ) = some (r :: ρ) := nr rfl
@[simp] theorem gsCons_ap {g : MG} {h : List MV → Env → Option Env} {xs : List MV} : gsCons g h (x :: xs) (r :: ρ) = match g x (r :: ρ) with | some ρ1 => h xs ρ1 | none => none := nr rfl
@[simp] theorem gTp_tup {n : Nat} {h : List MV → Env → Option Env} {xs : List MV} : gTp n h (.tup xs) ρ = if xs.length = n then h xs ρ else none := nr rfl
@[simp] theorem gTp_lst {n : Nat} {h : List MV → Env → Option Env} {xs : List MV} : gTp n h (.lst xs) ρ = if xs.length = n then h xs ρ else none := nr rfl
@[simp] theorem mAsg_ap {g : MG} : mAsg a g (r :: ρ) = (a (r :: ρ)).bind fun x ρ1 => match g x ρ1 with | some ρ2 => .ok (.nx, ρ2) | none => .stuck := nr rfl
@[simp] theorem mSetO_ap {i : Nat} : mSetO i a (r :: ρ) = (a (r :: ρ)).bind fun x ρ1 => if i < ρ1.length then .ok (.nx, ρ1.set i (some x)) else .stuck := nr rfl
@[simp] theorem mPass_ap  : mPass (r :: ρ) = .ok (.nx, (r :: ρ)) := nr rfl
@[simp] theorem mSeq_ap {a b : MS} : mSeq a b (r :: ρ) = (a (r :: ρ)).bind fun f ρ1 => match f with | .nx => b ρ1 | f => .ok (f, ρ1) := nr rfl
@[simp] theorem mIfS_ap {t : MT} {a b : MS} : mIfS t a b (r :: ρ) = (t (r :: ρ)).bind fun x ρ1 => if x then a ρ1 else b ρ1 := nr rfl
@[simp] theorem mRet_ap  : mRet a (r :: ρ) = (a (r :: ρ)).bind fun x ρ1 => .ok (.rt x, ρ1) := nr rfl
@[simp] theorem mDrop_ap  : mDrop a (r :: ρ) = (a (r :: ρ)).bind fun _ ρ1 => .ok (.nx, ρ1) := nr rfl
@[simp] theorem mMove_ap {i : Nat} : mMove i (r :: ρ) = match (r :: ρ)[i]? with
  | some (some (.obj _ _)) => .stuck
  | some (some x) => .ok (x, (r :: ρ).set i none)
  | _ => .stuck := nr rfl
@[simp] theorem mFz_ap  : mFz a (r :: ρ) = (a (r :: ρ)).bind fun x ρ1 => match fz x with | some y => .ok (y, ρ1) | none => .stuck := nr rfl
@[simp] theorem mCall_ap {f : MF} {a : MA} : mCall f a (r :: ρ) = (a (r :: ρ)).bind fun xs ρ1 => match f xs with
  | .ok (v, _) => .ok (v, ρ1)
  | .exc e _ => .exc e ρ1
  | .stuck => .stuck := nr rfl
@[simp] theorem mCall0_ap {f : MF} {a : MA} : mCall0 f a (r :: ρ) = (a (r :: ρ)).bind fun xs ρ1 => match f xs with
  | .ok (v, _) => .ok (v, ρ1)
  | _ => .stuck := nr rfl
@[simp] theorem mBlt_ap {f : List MV → Option MV} {a : MA} : mBlt f a (r :: ρ) = (a (r :: ρ)).bind fun xs ρ1 => match f xs with | some z => .ok (z, ρ1) | none => .stuck := nr rfl
def r1M (xs : List MV) (ρ1 : Env) : Res (List MV × Env) := match xs with
  | [.int j] => if inR j then .ok (rngM 0 1 j.toNat, ρ1) else .stuck
  | _ => .stuck
@[simp] theorem mR1_ap {a : MA} : mR1 a (r :: ρ) = (a (r :: ρ)).bind r1M := nr rfl
@[simp] theorem r1M_i {j : Int} (h : inR j = true) : r1M [.int j] ρ = .ok (rngM 0 1 j.toNat, ρ) := if_pos h
def lmM (f : List MV → List MV → Option (List MV × MV)) (i : Nat) (ys : List MV) (ρ1 : Env) : Res (MV × Env) := match ρ1[i]? with
  | some (some (.own xs)) => (match f xs ys with | some (zs, z) => .ok (z, ρ1.set i (some (.own zs))) | none => .stuck)
  | _ => .stuck
@[simp] theorem mLm_ap {f : List MV → List MV → Option (List MV × MV)} {i : Nat} {a : MA} : mLm f i a (r :: ρ) = if isOwn (r :: ρ) i then (a (r :: ρ)).bind (lmM f i) else .stuck := nr rfl
@[simp] theorem lmM_o {f : List MV → List MV → Option (List MV × MV)} {i : Nat} {xs ys : List MV} (h : ρ[i]? = some (some (.own xs))) : lmM f i ys ρ = (match f xs ys with | some (zs, z) => .ok (z, ρ.set i (some (.own zs))) | none => .stuck) := by unfold lmM; rw [h]
@[simp] theorem isOwn_o {i : Nat} {xs : List MV} (h : ρ[i]? = some (some (.own xs))) : isOwn ρ i = true := by unfold isOwn; rw [h]
@[simp] theorem has_o {i : Nat} {x : MV} (h : ρ[i]? = some (some x)) : has ρ i = true := by unfold has; rw [h]
@[simp] theorem flatM_i {k : Int} : flatM (.int k) = true := nr rfl
@[simp] theorem mItV_ap  : mItV a (r :: ρ) = (a (r :: ρ)).bind fun x ρ1 => match itemsOf x with | some xs => .ok (xs, ρ1) | none => .stuck := nr rfl
@[simp] theorem mYes_ap  : mYes (r :: ρ) = .ok (true, (r :: ρ)) := nr rfl
@[simp] theorem mFor_ap {i : MI} {g : MG} {b : MS} : mFor i g b (r :: ρ) = (i (r :: ρ)).bind fun xs ρ1 => mLoop g b xs ρ1 := nr rfl
@[simp] theorem mLcO_ap {it : MI} {g : Tgt} {t : MT} {vs : List Nat} : mLcO it g t a vs (r :: ρ) = (it (r :: ρ)).bind fun xs ρ1 => if perAt ρ1 vs then (mLcLoop g t a vs xs [] ρ1).b0 fun ys ρ2 => .ok (.own ys, backM ρ1 ρ2 vs) else .stuck := nr rfl
end
@[simp] theorem fz_lst {xs : List MV} : fz (.lst xs) = some (.lst xs) := nr rfl
@[simp] theorem fz_own {xs : List MV} : fz (.own xs) = some (.lst xs) := nr rfl
@[simp] theorem fz_tup {xs : List MV} : fz (.tup xs) = some (.tup xs) := nr rfl
@[simp] theorem fz_int {i : Int} : fz (.int i) = some (.int i) := nr rfl
@[simp] theorem fz_bl {i : Bool} : fz (.bl i) = some (.bl i) := nr rfl
@[simp] theorem fz_str {i : Str} : fz (.str i) = some (.str i) := nr rfl
@[simp] theorem fz_non : fz .non = some .non := nr rfl
@[simp] theorem fz_scr {i : List Int} : fz (.scr i) = some (.scr i) := nr rfl
section
variable {i j : Int}
@[simp] theorem fAdd_ii : fAdd (.int i) (.int j) = some (.int (i + j)) := nr rfl
@[simp] theorem fAdd_ss {a b : Str} : fAdd (.str a) (.str b) = if szOk (a.length + b.length) then some (.str (a ++ b)) else none := nr rfl
@[simp] theorem fAdd_ll {a b : List MV} : fAdd (.lst a) (.lst b) = if szOk (a.length + b.length) then some (.lst (a ++ b)) else none := nr rfl
@[simp] theorem fAdd_tt {a b : List MV} : fAdd (.tup a) (.tup b) = if szOk (a.length + b.length) then some (.tup (a ++ b)) else none := nr rfl
@[simp] theorem fSub_ii : fSub (.int i) (.int j) = some (.int (i - j)) := nr rfl
@[simp] theorem fMul_ii : fMul (.int i) (.int j) = if mulOk i j then some (.int (i * j)) else none := nr rfl
@[simp] theorem fDiv_ii : fDiv (.int i) (.int j) = if divOk j then some (.int (i.fdiv j)) else none := nr rfl
@[simp] theorem fMod_ii : fMod (.int i) (.int j) = if decide (j ≠ 0) then some (.int (i.fmod j)) else none := nr rfl
@[simp] theorem fPow_ii : fPow (.int i) (.int j) = if decide (0 ≤ j) && decide (j ≤ 1000000) && decide (i.natAbs < 2 ^ 64) then some (.int (i ^ j.toNat)) else none := nr rfl
@[simp] theorem fLt_ii : fLt (.int i) (.int j) = some (.bl (decide (i < j))) := nr rfl
@[simp] theorem fLe_ii : fLe (.int i) (.int j) = some (.bl (decide (i ≤ j))) := nr rfl
@[simp] theorem fGt_ii : fGt (.int i) (.int j) = some (.bl (decide (j < i))) := nr rfl
@[simp] theorem fGe_ii : fGe (.int i) (.int j) = some (.bl (decide (j ≤ i))) := nr rfl
@[simp] theorem fNeg_i : fNeg (.int i) = some (.int (-i)) := nr rfl
@[simp] theorem fEq_ii : fEq (.int i) (.int j) = some (.bl (decide (i = j))) := nr rfl
@[simp] theorem fNe_ii : fNe (.int i) (.int j) = some (.bl (!decide (i = j))) := nr rfl
@[simp] theorem fEq_ss {a b : Str} : fEq (.str a) (.str b) = some (.bl (decide (a = b))) := nr rfl
@[simp] theorem fNe_ss {a b : Str} : fNe (.str a) (.str b) = some (.bl (!decide (a = b))) := nr rfl
@[simp] theorem bLen_l {a : List MV} : bLen [.lst a] = some (.int a.length) := nr rfl
@[simp] theorem bLen_t {a : List MV} : bLen [.tup a] = some (.int a.length) := nr rfl
@[simp] theorem bLen_c {a : List Int} : bLen [.scr a] = some (.int a.length) := nr rfl
@[simp] theorem bAbs_i : bAbs [.int i] = some (.int (if i < 0 then -i else i)) := nr rfl
@[simp] theorem bMax_i : bMax [.int i, .int j] = some (.int (if j > i then j else i)) := nr rfl
@[simp] theorem bMin_i : bMin [.int i, .int j] = some (.int (if j < i then j else i)) := nr rfl
@[simp] theorem bInt_i : bInt [.int i] = some (.int i) := nr rfl
@[simp] theorem bInt_b {k : Bool} : bInt [.bl k] = some (.int (if k then 1 else 0)) := nr rfl
@[simp] theorem fIx_l {a : List MV} : fIx (.lst a) (.int i) = atI a i := nr rfl
@[simp] theorem fIx_t {a : List MV} : fIx (.tup a) (.int i) = atI a i := nr rfl
@[simp] theorem fIx_c {a : List Int} : fIx (.scr a) (.int i) = (atI a i).map .int := nr rfl
@[simp] theorem ixL_i {a : List MV} : ixL a (.int i) = atI a i := nr rfl
@[simp] theorem itemsOf_l {a : List MV} : itemsOf (.lst a) = some a := nr rfl
@[simp] theorem itemsOf_t {a : List MV} : itemsOf (.tup a) = some a := nr rfl
@[simp] theorem itemsOf_c {a : List Int} : itemsOf (.scr a) = some (a.map .int) := nr rfl
@[simp] theorem lmAppend_1 {a : List MV} {y : MV} : lmAppend a [y] = if decide (a.length < sizeLine) then some (a ++ [y], .non) else none := nr rfl
end
@[simp] theorem nat_neg {k : Nat} : ((k : Int) < 0) = False := by simp
@[simp] theorem nat_toNat {k : Nat} : ((k : Int)).toNat = k := nr rfl
theorem szOk_small {n : Nat} (h : n ≤ 16777216) : szOk n = true := szOk_iff.mpr (by rw [sizeLine_eq]; exact h)
theorem atI_ge {α : Type} {xs : List α} {i : Int} (h : 0 ≤ i) : atI xs i = xs[i.toNat]? := by
  unfold atI ixN
  rw [if_pos h]
  by_cases e : i < xs.length
  · rw [if_pos e]; rfl
  · rw [if_neg e, List.getElem?_eq_none (by omega)]; rfl
@[simp] theorem atI_0 {α : Type} {xs : List α} : atI xs 0 = xs[0]? := atI_ge (by decide)
@[simp] theorem atI_1 {α : Type} {xs : List α} : atI xs 1 = xs[1]? := atI_ge (by decide)
@[simp] theorem atI_2 {α : Type} {xs : List α} : atI xs 2 = xs[2]? := atI_ge (by decide)
@[simp] theorem atI_3 {α : Type} {xs : List α} : atI xs 3 = xs[3]? := atI_ge (by decide)
@[simp] theorem atI_4 {α : Type} {xs : List α} : atI xs 4 = xs[4]? := atI_ge (by decide)
@[simp] theorem atI_5 {α : Type} {xs : List α} : atI xs 5 = xs[5]? := atI_ge (by decide)
@[simp] theorem atI_6 {α : Type} {xs : List α} : atI xs 6 = xs[6]? := atI_ge (by decide)
@[simp] theorem atI_7 {α : Type} {xs : List α} : atI xs 7 = xs[7]? := atI_ge (by decide)
@[simp] theorem atI_8 {α : Type} {xs : List α} : atI xs 8 = xs[8]? := atI_ge (by decide)
@[simp] theorem atI_9 {α : Type} {xs : List α} : atI xs 9 = xs[9]? := atI_ge (by decide)
@[simp] theorem atI_10 {α : Type} {xs : List α} : atI xs 10 = xs[10]? := atI_ge (by decide)
@[simp] theorem atI_11 {α : Type} {xs : List α} : atI xs 11 = xs[11]? := atI_ge (by decide)
@[simp] theorem atI_12 {α : Type} {xs : List α} : atI xs 12 = xs[12]? := atI_ge (by decide)
@[simp] theorem atI_13 {α : Type} {xs : List α} : atI xs 13 = xs[13]? := atI_ge (by decide)
@[simp] theorem atI_14 {α : Type} {xs : List α} : atI xs 14 = xs[14]? := atI_ge (by decide)
@[simp] theorem atI_15 {α : Type} {xs : List α} : atI xs 15 = xs[15]? := atI_ge (by decide)
theorem mulOk_l {i j : Int} (h1 : -(2 ^ 64) < i) (h2 : i < 2 ^ 64) : mulOk i j = true := by simp only [mulOk, Bool.or_eq_true, Bool.and_eq_true, decide_eq_true_eq]; exact .inl (.inl ⟨h1, h2⟩)
theorem mulOk_r {i j : Int} (h1 : -(2 ^ 64) < j) (h2 : j < 2 ^ 64) : mulOk i j = true := by simp only [mulOk, Bool.or_eq_true, Bool.and_eq_true, decide_eq_true_eq]; exact .inl (.inr ⟨h1, h2⟩)
theorem inR_of {i : Int} (h1 : -(2 ^ 62) ≤ i) (h2 : i < 2 ^ 62) : inR i = true := inR_iff.mpr ⟨h1, h2⟩
theorem loop_inv {g : MG} {b : MS} (I : Nat → Env → Prop) : ∀ (xs : List MV) (k : Nat) (ρ : Env), I k ρ → (∀ i x ρ, xs[i]? = some x → I (k + i) ρ → ∃ ρ1 ρ2, g x ρ = some ρ1 ∧ (b ρ1 = .ok (.nx, ρ2) ∨ b ρ1 = .ok (.ct, ρ2)) ∧ I (k + i + 1) ρ2) → ∃ ρ', mLoop g b xs ρ = .ok (.nx, ρ') ∧ I (k + xs.length) ρ'
  | [], k, ρ, h, _ => ⟨ρ, rfl, h⟩
  | x :: xs, k, ρ, h, hs => by
    obtain ⟨ρ1, ρ2, e1, e2, h2⟩ := hs 0 x ρ rfl h
    obtain ⟨ρ', e3, h3⟩ := loop_inv I xs (k + 1) ρ2 h2 (fun i y ρ hy hi => by
      have := hs (i + 1) y ρ (by simpa using hy) (by rw [show k + (i + 1) = k + 1 + i by omega]; exact hi)
      rw [show k + 1 + i + 1 = k + (i + 1) + 1 by omega]
      exact this)
    refine ⟨ρ', ?_, by rw [List.length_cons, show k + (xs.length + 1) = k + 1 + xs.length by omega]; exact h3⟩
    unfold mLoop
    rw [e1]
    rcases e2 with e2 | e2 <;> (simp only [e2, bind_ok]; exact e3)
theorem loop_rng {g : MG} {b : MS} {lo c : Int} {n : Nat} {ρ : Env} (I : Nat → Env → Prop) (h0 : I 0 ρ) (hs : ∀ i ρ, i < n → I i ρ → ∃ ρ1 ρ2, g (.int (lo + (i : Nat) * c)) ρ = some ρ1 ∧ (b ρ1 = .ok (.nx, ρ2) ∨ b ρ1 = .ok (.ct, ρ2)) ∧ I (i + 1) ρ2) :
    ∃ ρ', mLoop g b (rngM lo c n) ρ = .ok (.nx, ρ') ∧ I n ρ' := by
  obtain ⟨ρ', e, h⟩ := loop_inv I (rngM lo c n) 0 ρ h0 fun i x ρ hx hi => by
    have li := lt_get hx
    rw [rngM_len] at li
    rw [rngM_get li] at hx
    cases hx
    have := hs i ρ li (by simpa using hi)
    simpa using this
  rw [rngM_len, Nat.zero_add] at h
  exact ⟨ρ', e, h⟩
theorem loop_nxr {g : MG} {b : MS} {lo c : Int} {n : Nat} {ρ : Env} (I : Nat → Env → Prop) (h0 : I 0 ρ) (hs : ∀ i ρ, i < n → I i ρ → ∃ ρ1, g (.int (lo + (i : Nat) * c)) ρ = some ρ1 ∧ ∃ ρ2, b ρ1 = .ok (.nx, ρ2) ∧ I (i + 1) ρ2) :
    ∃ ρ', mLoop g b (rngM lo c n) ρ = .ok (.nx, ρ') ∧ I n ρ' := by
  refine loop_rng I h0 fun i ρ hi h => ?_
  obtain ⟨ρ1, e, ρ2, e2, h⟩ := hs i ρ hi h
  exact ⟨ρ1, ρ2, e, .inl e2, h⟩
def okD : Nat → MV → Bool
  | _, .non => true
  | _, .bl _ => true
  | _, .int _ => true
  | _, .str x => (PyData.str x).canLay0
  | n + 1, .tup xs => xs.all (okD n)
  | n + 1, .lst xs => xs.all (okD n)
  | _, _ => false
theorem okDs_to {n : Nat} (ih : ∀ x, okD n x = true → ∃ d, toD x = some d ∧ d.canLay0 = true ∧ d.depth ≤ n) : ∀ xs : List MV, xs.all (okD n) = true → ∃ ds, toDs xs = some ds ∧ PyData.canLayAll0 ds = true ∧ PyData.depthAll ds ≤ n
  | [], _ => ⟨[], rfl, by simp [PyData.canLayAll0], by simp [PyData.depthAll]⟩
  | x :: xs, h => by
    simp only [List.all_cons, Bool.and_eq_true] at h
    obtain ⟨d, e, c, p⟩ := ih x h.1
    obtain ⟨ds, es, cs, ps⟩ := okDs_to ih xs h.2
    refine ⟨d :: ds, by simp [toDs, e, es], by simp [PyData.canLayAll0, c, cs], by simp only [PyData.depthAll]; omega⟩
theorem okD_to : ∀ (n : Nat) (x : MV), okD n x = true → ∃ d, toD x = some d ∧ d.canLay0 = true ∧ d.depth ≤ n
  | n, .non, _ => ⟨_, rfl, rfl, by simp [PyData.depth]⟩
  | n, .bl _, _ => ⟨_, rfl, rfl, by simp [PyData.depth]⟩
  | n, .int _, _ => ⟨_, rfl, rfl, by simp [PyData.depth]⟩
  | n, .str x, h => ⟨.str x, rfl, by cases n <;> exact h, by simp [PyData.depth]⟩
  | 0, .tup _, h => by simp [okD] at h
  | 0, .lst _, h => by simp [okD] at h
  | n + 1, .tup xs, h => by
    obtain ⟨ds, e, c, p⟩ := okDs_to (okD_to n) xs h
    exact ⟨.tuple ds, by simp [toD, e], by simpa [PyData.canLay0] using c, by simp only [PyData.depth]; omega⟩
  | n + 1, .lst xs, h => by
    obtain ⟨ds, e, c, p⟩ := okDs_to (okD_to n) xs h
    exact ⟨.list ds, by simp [toD, e], by simpa [PyData.canLay0] using c, by simp only [PyData.depth]; omega⟩
  | n, .own _, h => by cases n <;> simp [okD] at h
  | n, .raw _, h => by cases n <;> simp [okD] at h
  | n, .scr _, h => by cases n <;> simp [okD] at h
  | n, .fnc _, h => by cases n <;> simp [okD] at h
  | n, .obj _ _, h => by cases n <;> simp [okD] at h
  | n, .dct _ _, h => by cases n <;> simp [okD] at h
  | n, .dow _ _, h => by cases n <;> simp [okD] at h
  | n, .dot _ _, h => by cases n <;> simp [okD] at h
theorem eqM_self {n : Nat} {x : MV} (hn : n ≤ 64) (h : okD n x = true) : eqM x x = some true := by
  unfold eqM
  by_cases hs : scalM x x = true
  · rw [if_pos hs]
    cases x <;> simp_all [scalM, sameM]
  · rw [if_neg hs]
    obtain ⟨d, e, c, p⟩ := okD_to n x h
    have hd : SeqAt.shaped d = true := by
      unfold SeqAt.shaped
      rw [c]
      simp
      omega
    rw [e]
    simp only [hd, Bool.and_self, if_true]
    rw [SeqAt.eqv_refl d c]
@[simp] theorem fEq_tt {xs : List MV} (h : xs.all (okD 20) = true) : fEq (.tup xs) (.tup xs) = some (.bl true) := by unfold fEq; rw [eqM_self (n := 21) (by decide) (x := .tup xs) h]; rfl
@[simp] theorem fNe_tt {xs : List MV} (h : xs.all (okD 20) = true) : fNe (.tup xs) (.tup xs) = some (.bl false) := by unfold fNe; rw [eqM_self (n := 21) (by decide) (x := .tup xs) h]; rfl
@[simp] theorem fEq_lle {xs : List MV} (h : xs.all (okD 20) = true) : fEq (.lst xs) (.lst xs) = some (.bl true) := by unfold fEq; rw [eqM_self (n := 21) (by decide) (x := .lst xs) h]; rfl
@[simp] theorem fNe_lle {xs : List MV} (h : xs.all (okD 20) = true) : fNe (.lst xs) (.lst xs) = some (.bl false) := by unfold fNe; rw [eqM_self (n := 21) (by decide) (x := .lst xs) h]; rfl
@[simp] theorem okD_i {n : Nat} {i : Int} : okD n (.int i) = true := by cases n <;> rfl
@[simp] theorem okD_b {n : Nat} {i : Bool} : okD n (.bl i) = true := by cases n <;> rfl
@[simp] theorem okD_n {n : Nat} : okD n .non = true := by cases n <;> rfl
@[simp] theorem fSl_t {xs : List MV} {lo hi : Option Int} : fSl (.tup xs) lo hi = some (.tup (cutM xs lo hi)) := nr rfl
@[simp] theorem fSl_l {xs : List MV} {lo hi : Option Int} : fSl (.lst xs) lo hi = some (.lst (cutM xs lo hi)) := nr rfl
@[simp] theorem cutM_none {xs : List MV} : cutM xs none none = xs := by simp [cutM, HT.sIx]
theorem cutM_from {xs : List MV} {k : Int} (h : 0 ≤ k) : cutM xs (some k) none = xs.drop k.toNat := by
  simp [cutM, HT.sIx, show ¬ k < 0 by omega]
  by_cases e : k.toNat ≤ xs.length
  · rw [Nat.min_eq_left e, List.take_of_length_le (by simp)]
  · rw [Nat.min_eq_right (by omega), List.drop_of_length_le (by omega), List.drop_of_length_le (by omega)]; simp
end Tm
set_option Elab.async false
set_option linter.all false
set_option maxRecDepth 100000
set_option maxHeartbeats 2000000
namespace Tm
open PySem L2
theorem mFn_ok {n : Nat} {m : MS} {xs : List MV} {v : MV} (h : ∃ ρ, m (xs.map some ++ List.replicate (n - xs.length) none) = .ok (.rt v, ρ)) : mFn n [] m xs = .ok (v, []) := by
  obtain ⟨ρ, h⟩ := h
  unfold mFn; rw [h]; rfl
theorem fmod_lt' {a b : Int} (h : 0 < b) : a.fmod b < b := Int.fmod_lt_of_pos a h
theorem fmod_ge' {a b : Int} (h : 0 < b) : 0 ≤ a.fmod b := Int.fmod_nonneg_of_pos a h
theorem nat_fmod (a b : Nat) : (a : Int).fmod (b : Int) = ((a % b : Nat) : Int) := by rw [Int.fmod_eq_emod_of_nonneg _ (Int.natCast_nonneg b)]; exact (Int.natCast_emod a b).symm
theorem nat_fdiv (a b : Nat) : (a : Int).fdiv (b : Int) = ((a / b : Nat) : Int) := by rw [Int.fdiv_eq_ediv_of_nonneg _ (Int.natCast_nonneg b)]; exact (Int.natCast_ediv a b).symm
theorem back_wipe : ∀ (vs : List Nat) (ρ ρ' : Env), ρ.length = ρ'.length → (∀ j, j ∉ vs → ρ'[j]? = ρ[j]?) → backM ρ ρ' vs = ρ := by
  have key : ∀ (vs : List Nat) (ρ ρ' : Env) (j : Nat), ρ.length = ρ'.length → (backM ρ ρ' vs)[j]? = if j ∈ vs then ρ[j]? else ρ'[j]? := by
    intro vs
    induction vs with
    | nil => intro ρ ρ' j hl; simp [backM]
    | cons v vs ih =>
      intro ρ ρ' j hl
      show (backM ρ (ρ'.set v ((ρ[v]?).join)) vs)[j]? = _
      rw [ih ρ _ j (by simp [hl])]
      by_cases e : j ∈ vs
      · simp [e]
      · by_cases e2 : j = v
        · subst e2
          by_cases hlt : j < ρ'.length
          · simp [e, List.getElem?_set_self hlt, show j < ρ.length by omega]
          · simp [e, List.getElem?_eq_none (show ρ'.length ≤ j by omega), List.getElem?_eq_none (show ρ.length ≤ j by omega)]
            omega
        · simp [e, e2, List.getElem?_set_ne (Ne.symm e2)]
  intro vs ρ ρ' hl h
  apply List.ext_getElem?
  intro j
  rw [key vs ρ ρ' j hl]
  by_cases e : j ∈ vs
  · simp [e]
  · simp [e, h j e]
theorem wipe_other {ρ ρ' : Env} {vs : List Nat} (hl : ρ.length = ρ'.length) (h : wipeM ρ' vs = wipeM ρ vs) : ∀ j, j ∉ vs → ρ'[j]? = ρ[j]? := by
  intro j hj
  have h1 := wipeM_get ρ vs j
  have h2 := wipeM_get ρ' vs j
  rw [if_neg (by simp [hj])] at h1 h2
  rw [← h1, ← h2, h]
def digs : Nat → Nat → List Nat
  | 0, _ => []
  | k + 1, n => n % 10 :: digs k (n / 10)
def digsB (k n : Nat) : List Nat := (digs k n).reverse
theorem digs_len : ∀ k n, (digs k n).length = k
  | 0, _ => rfl
  | k + 1, n => by simp [digs, digs_len k]
theorem digsB_len (k n : Nat) : (digsB k n).length = k := by simp [digsB, digs_len]
theorem digsB_step (k n : Nat) : digsB (k + 1) n = digsB k (n / 10) ++ [n % 10] := by simp [digsB, digs]
theorem loop_jx {σ β α : Type} {g : MG} {b : MS} (env : σ → β → Env) (item : α → MV) (f : σ → α → σ) (I : Nat → σ → Prop) : ∀ (xs : List α) (k : Nat) (s : σ) (z : β), I k s → (∀ i s z x, x ∈ xs → I i s → i < k + xs.length → (∃ ρ1, g (item x) (env s z) = some ρ1 ∧ ∃ z', b ρ1 = .ok (.nx, env (f s x) z')) ∧ I (i + 1) (f s x)) →
    (∃ z', mLoop g b (xs.map item) (env s z) = .ok (.nx, env (xs.foldl f s) z')) ∧ I (k + xs.length) (xs.foldl f s)
  | [], k, s, z, h, _ => ⟨⟨z, rfl⟩, h⟩
  | x :: xs, k, s, z, h, hs => by
    obtain ⟨⟨ρ1, e1, z', e2⟩, h2⟩ := hs k s z x (List.mem_cons_self ..) h (by simp)
    have := loop_jx (g := g) (b := b) env item f I xs (k + 1) (f s x) z' h2 (fun i s z y hy hi hl => hs i s z y (List.mem_cons_of_mem _ hy) hi (by simp; omega))
    rw [List.map_cons, List.foldl_cons, List.length_cons, show k + (xs.length + 1) = k + 1 + xs.length by omega]
    obtain ⟨⟨z2, e3⟩, h3⟩ := this
    refine ⟨⟨z2, ?_⟩, h3⟩
    unfold mLoop
    rw [e1]
    simp only [e2, bind_ok]
    exact e3
theorem loop_junk {σ β α : Type} {g : MG} {b : MS} (env : σ → β → Env) (item : α → MV) (f : σ → α → σ) (I : Nat → σ → Prop) (xs : List α) (s : σ) (z : β) (h0 : I 0 s)
    (hs : ∀ i s z x, x ∈ xs → I i s → i < xs.length → I (i + 1) (f s x) ∧ ∃ ρ1, g (item x) (env s z) = some ρ1 ∧ ∃ z', b ρ1 = .ok (.nx, env (f s x) z')) :
    (∃ z', mLoop g b (xs.map item) (env s z) = .ok (.nx, env (xs.foldl f s) z')) ∧ I xs.length (xs.foldl f s) := by
  have := loop_jx (g := g) (b := b) env item f I xs 0 s z h0 (fun i s z x hx hi hl => ⟨(hs i s z x hx hi (by simpa using hl)).2, (hs i s z x hx hi (by simpa using hl)).1⟩)
  rw [Nat.zero_add] at this
  exact this
theorem log2_small {n : Nat} (h : n < 10 ^ 200) : n.log2 < 1920 := by
  by_cases h0 : n = 0
  · subst h0; decide
  · rw [Nat.log2_lt h0]
    exact Nat.lt_trans h (by decide)
end Tm
set_option Elab.async false
set_option linter.all false
set_option maxRecDepth 100000
set_option maxHeartbeats 2000000
namespace Tm
open PySem L2
section
variable {α β : Type} {ρ : Env} {r : Option MV} {x f g y : Str} {a b : ME}
@[simp] theorem mRaise0_ap : mRaise0 x (r :: ρ) = .exc ⟨x, []⟩ (r :: ρ) := nr rfl
@[simp] theorem mRaise1_ap : mRaise1 x f a (r :: ρ) = (a (r :: ρ)).bind fun y ρ1 => .exc ⟨x, [(f, y)]⟩ ρ1 := nr rfl
def endM (i : Nat) (q : Res (Fl × Env)) : Res (Fl × Env) := match q with
  | .ok (.rt v, ρ2) => .ok (.rt v, ρ2)
  | .ok (f, ρ2) => .ok (f, ρ2.set i none)
  | _ => .stuck
variable {i : Nat} {tab : List (Str × Bool)} {mb : MS} {mh : MX → MS} {e : MX} {q : Fl × Env}
@[simp] theorem endM_nx : endM i (.ok (.nx, ρ)) = .ok (.nx, ρ.set i none) := nr rfl
@[simp] theorem endM_br : endM i (.ok (.br, ρ)) = .ok (.br, ρ.set i none) := nr rfl
@[simp] theorem endM_ct : endM i (.ok (.ct, ρ)) = .ok (.ct, ρ.set i none) := nr rfl
@[simp] theorem endM_rt {v : MV} : endM i (.ok (.rt v, ρ)) = .ok (.rt v, ρ) := nr rfl
@[simp] theorem mExF_ap : mExF e f (r :: ρ) = match e.fs.lookup f with | some x => .ok (x, r :: ρ) | none => .stuck := nr rfl
@[simp] theorem mExIs_ap : mExIs e tab (r :: ρ) = match tab.lookup e.cls with | some b => .ok (.bl b, r :: ρ) | none => .stuck := nr rfl
theorem mFn_exc {n : Nat} {m : MS} {xs : List MV} {e : MX} (h : ∃ ρ, m (xs.map some ++ List.replicate (n - xs.length) none) = .exc e ρ) : mFn n [] m xs = .exc e [] := by
  obtain ⟨ρ, h⟩ := h
  unfold mFn; rw [h]; rfl
end
section
variable {i : Int} {b b' : Bool} {x y : Str}
@[simp] theorem fEq_nn : fEq .non .non = some (.bl true) := nr rfl
@[simp] theorem fNe_nn : fNe .non .non = some (.bl false) := nr rfl
@[simp] theorem fEq_ni : fEq .non (.int i) = some (.bl false) := nr rfl
@[simp] theorem fEq_in : fEq (.int i) .non = some (.bl false) := nr rfl
@[simp] theorem fNe_ni : fNe .non (.int i) = some (.bl true) := nr rfl
@[simp] theorem fNe_in : fNe (.int i) .non = some (.bl true) := nr rfl
@[simp] theorem fEq_ns : fEq .non (.str x) = some (.bl false) := nr rfl
@[simp] theorem fEq_sn : fEq (.str x) .non = some (.bl false) := nr rfl
@[simp] theorem fNe_ns : fNe .non (.str x) = some (.bl true) := nr rfl
@[simp] theorem fNe_sn : fNe (.str x) .non = some (.bl true) := nr rfl
@[simp] theorem fEq_bb : fEq (.bl b) (.bl b') = some (.bl (decide (b = b'))) := nr rfl
@[simp] theorem fNe_bb : fNe (.bl b) (.bl b') = some (.bl (!decide (b = b'))) := nr rfl
@[simp] theorem fEq_is : fEq (.int i) (.str x) = some (.bl false) := nr rfl
@[simp] theorem fEq_si : fEq (.str x) (.int i) = some (.bl false) := nr rfl
end
def tOk (x : Str) : Prop := (PyData.str x).canLay0 = true
theorem okD_s {n : Nat} {x : Str} (h : tOk x) : okD n (.str x) = true := by cases n <;> exact h
theorem tl_app (a b : Str) : (a ++ b).cps.toList = a.cps.toList ++ b.cps.toList := TL.tl_append a b
theorem len_app (a b : Str) : (a ++ b).length = a.length + b.length := by
  rw [TL.len_tl, TL.len_tl, TL.len_tl, TL.tl_append, List.length_append]
theorem len_cut {z : Str} {lo hi : Option Int} : (cutS z lo hi).length ≤ z.length := by
  rw [TL.len_tl, TL.len_tl]
  show (List.take _ (List.drop _ z.cps.toList)).length ≤ z.cps.toList.length
  rw [List.length_take, List.length_drop]
  omega
@[simp] theorem fIx_s {z : Str} {i : Int} : fIx (.str z) (.int i) = if szOk z.length then (atI z.cps.toList i).map fun c => MV.str ⟨#[c]⟩ else none := nr rfl
@[simp] theorem fSl_s {z : Str} {lo hi : Option Int} : fSl (.str z) lo hi = if szOk z.length then some (.str (cutS z lo hi)) else none := nr rfl
@[simp] theorem bLen_s {z : Str} : bLen [.str z] = if szOk z.length then some (.int z.length) else none := nr rfl
theorem at_some {α : Type} {xs : List α} {i : Int} (h : 0 ≤ i) (h2 : i < xs.length) : ∃ x ∈ xs, atI xs i = some x := by
  rw [atI_ge h]
  have : i.toNat < xs.length := by omega
  exact ⟨xs[i.toNat], List.getElem_mem this, List.getElem?_eq_getElem this⟩
theorem fMul_l {a : List MV} {k : Int} (h : 0 ≤ k) (h2 : k < 2 ^ 63) (h3 : szOk (a.length * k.toNat) = true) : fMul (.lst a) (.int k) = some (.lst (List.replicate k.toNat a).flatten) := by
  show (if (decide (-(2 ^ 63) ≤ k) && decide (k < 2 ^ 63) && szOk (a.length * k.toNat)) = true then some (MV.lst (List.replicate k.toNat a).flatten) else none) = _
  rw [if_pos]
  simp only [h2, h3, decide_true, Bool.and_true, decide_eq_true_eq]
  omega
theorem rep_one {α : Type} (x : α) (k : Nat) : (List.replicate k [x]).flatten = List.replicate k x := by
  induction k with
  | zero => rfl
  | succ k ih => rw [List.replicate_succ, List.flatten_cons, ih]; rfl
theorem fMul_1 {x : MV} {k : Nat} (h : k < 1000000) : fMul (.lst [x]) (.int (k : Nat)) = some (.lst (List.replicate k x)) := by
  rw [fMul_l (by omega) (by omega) (szOk_small (by simp; omega))]
  show some (MV.lst (List.replicate k [x]).flatten) = _
  rw [rep_one]
@[simp] theorem fMul_10 {x : MV} : fMul (.lst [x]) (.int 0) = some (.lst []) := fMul_1 (k := 0) (by decide)
@[simp] theorem fMul_11 {x : MV} : fMul (.lst [x]) (.int 1) = some (.lst [x]) := fMul_1 (k := 1) (by decide)
end Tm
set_option Elab.async false
set_option linter.all false
set_option maxRecDepth 100000
set_option maxHeartbeats 2000000
namespace Tm
open PySem L2
theorem lc_filt {g : Tgt} {t : MT} {e : ME} {vs : List Nat} {W : Env} (p : MV → Bool) (y : MV → MV) : ∀ (xs acc : List MV) (ρ : Env), (∀ x ∈ xs, ∃ ρ1, setT g x W = some ρ1 ∧ t ρ1 = .ok (p x, ρ1) ∧ (p x = true → e ρ1 = .ok (y x, ρ1)) ∧ wipeM ρ1 vs = W ∧ ρ1.length = W.length) → wipeM ρ vs = W → ρ.length = W.length → acc.length + xs.length ≤ sizeLine →
    ∃ ρ', mLcLoop g t e vs xs acc ρ = .ok (acc ++ (xs.filter p).map y, ρ') ∧ wipeM ρ' vs = W ∧ ρ'.length = W.length
  | [], acc, ρ, _, hw, hl, _ => ⟨ρ, by simp [mLcLoop], hw, hl⟩
  | x :: xs, acc, ρ, h, hw, hl, hz => by
    obtain ⟨ρ1, e1, et, e2, e3, e4⟩ := h x (List.mem_cons_self ..)
    rw [List.length_cons] at hz
    cases hp : p x with
    | true =>
      obtain ⟨ρ', r1, r2, r3⟩ := lc_filt (g := g) (t := t) (e := e) (vs := vs) p y xs (acc ++ [y x]) ρ1 (fun z hz => h z (List.mem_cons_of_mem _ hz)) e3 e4 (by rw [List.length_append, List.length_singleton]; omega)
      refine ⟨ρ', ?_, r2, r3⟩
      unfold mLcLoop
      rw [hw, e1]
      simp only [et, hp, b0_ok, if_true, e2 hp]
      rw [if_pos ⟨by omega, by rw [e4, hl]⟩, r1, List.filter_cons_of_pos hp]
      simp
    | false =>
      obtain ⟨ρ', r1, r2, r3⟩ := lc_filt (g := g) (t := t) (e := e) (vs := vs) p y xs acc ρ1 (fun z hz => h z (List.mem_cons_of_mem _ hz)) e3 e4 (by omega)
      refine ⟨ρ', ?_, r2, r3⟩
      unfold mLcLoop
      rw [hw, e1]
      simp only [et, hp, b0_ok, Bool.false_eq_true, if_false]
      rw [if_pos (by rw [e4, hl]), r1, List.filter_cons_of_neg (by simp [hp])]
theorem mLcO_filt {it : MI} {g : Tgt} {t : MT} {e : ME} {vs : List Nat} {ρ ρ1 : Env} {xs : List MV} (p : MV → Bool) (y : MV → MV) (hi : it ρ = .ok (xs, ρ1)) (hp : perAt ρ1 vs = true) (hx : ∀ x ∈ xs, ∃ ρ2, setT g x (wipeM ρ1 vs) = some ρ2 ∧ t ρ2 = .ok (p x, ρ2) ∧ (p x = true → e ρ2 = .ok (y x, ρ2)) ∧ wipeM ρ2 vs = wipeM ρ1 vs ∧ ρ2.length = ρ1.length) (hz : xs.length ≤ sizeLine) :
    mLcO it g t e vs ρ = .ok (.own ((xs.filter p).map y), ρ1) := by
  obtain ⟨ρ', r1, r2, r3⟩ := lc_filt (g := g) (t := t) (e := e) (vs := vs) (W := wipeM ρ1 vs) p y xs [] ρ1 (fun x h => by
    obtain ⟨ρ2, a, b, c, d, f⟩ := hx x h
    exact ⟨ρ2, a, b, c, d, by rw [f, wipeM_len]⟩) rfl (wipeM_len ..).symm (by simpa using hz)
  unfold mLcO
  rw [hi, bind_ok, if_pos hp, r1]
  simp only [b0_ok, List.nil_append]
  rw [back_wipe vs ρ1 ρ' (by rw [r3, wipeM_len]) (wipe_other (by rw [r3, wipeM_len]) r2)]
theorem set_none {ρ : Env} {v : Nat} (hv : ρ[v]? = some none) : ρ.set v none = ρ := by
  apply List.ext_getElem?
  intro j
  by_cases e : v = j
  · subst e; rw [List.getElem?_set_self (lt_get hv), hv]
  · rw [List.getElem?_set_ne e]
theorem mLcO_nmf {it : MI} {t : MT} {e : ME} {v : Nat} {ρ : Env} {xs : List MV} (p : MV → Bool) (y : MV → MV) (hi : it ρ = .ok (xs, ρ)) (hv : ρ[v]? = some none) (ht : ∀ x ∈ xs, t (ρ.set v (some x)) = .ok (p x, ρ.set v (some x))) (he : ∀ x ∈ xs, p x = true → e (ρ.set v (some x)) = .ok (y x, ρ.set v (some x))) (hz : xs.length ≤ sizeLine) :
    mLcO it (.nm v) t e [v] ρ = .ok (.own ((xs.filter p).map y), ρ) := by
  have lv := lt_get hv
  have w : wipeM ρ [v] = ρ := set_none hv
  refine mLcO_filt p y hi (by simp [perAt, hv]) (fun x hx => ?_) hz
  rw [w]
  refine ⟨ρ.set v (some x), by simp [setT, lv], ht x hx, he x hx, ?_, by simp⟩
  show (ρ.set v (some x)).set v none = ρ
  rw [List.set_set]
  exact w
theorem mLcO_nm {it : MI} {e : ME} {v : Nat} {ρ : Env} {xs : List MV} (y : MV → MV) (hi : it ρ = .ok (xs, ρ)) (hv : ρ[v]? = some none) (he : ∀ x ∈ xs, e (ρ.set v (some x)) = .ok (y x, ρ.set v (some x))) (hz : xs.length ≤ sizeLine) :
    mLcO it (.nm v) mYes e [v] ρ = .ok (.own (xs.map y), ρ) := by
  have := mLcO_nmf (t := mYes) (fun _ => true) y hi hv (fun _ _ => rfl) (fun x hx _ => he x hx) hz
  rwa [List.filter_eq_self.mpr (fun _ _ => rfl)] at this
section
variable {α β : Type} {a b : ME} {m : MA} {ρ : Env} {r : Option MV}
@[simp] theorem mSm_ap {f : Str → List MV → Option MV} : mSm f a m (r :: ρ) = (a (r :: ρ)).bind fun x ρ1 => match x with | .str z => (m ρ1).bind (smE f z) | _ => .stuck := nr rfl
theorem smE_ok {f : Str → List MV → Option MV} {z : Str} {ys : List MV} {w : MV} (h : f z ys = some w) : smE f z ys ρ = .ok (w, ρ) := by unfold smE; rw [h]
end
theorem strsOf_map : ∀ ss : List Str, strsOf (ss.map MV.str) = some ss
  | [] => rfl
  | s :: ss => by
    show (match strsOf (ss.map MV.str) with | some l => some (s :: l) | none => none) = _
    rw [strsOf_map ss]
@[simp] theorem fMul_s {a : Str} {k : Int} : fMul (.str a) (.int k) = if decide (-(2 ^ 63) ≤ k) && decide (k < 2 ^ 63) && szOk (a.length * k.toNat) then some (.str (repS a k)) else none := nr rfl
theorem fMul_tup {a : List MV} {k : Int} : fMul (.tup a) (.int k) = if (decide (-(2 ^ 63) ≤ k) && decide (k < 2 ^ 63) && (decide (k = 1) || a.isEmpty || (decide (2 ≤ k) && decide (k ≤ 1000) && decide (a.length ≤ 1000)))) = true then some (.tup (List.replicate k.toNat a).flatten) else none := rfl
@[simp] theorem fMul_t1 {a : List MV} : fMul (.tup a) (.int 1) = some (.tup a) := by
  rw [fMul_tup, if_pos (by simp)]
  simp
end Tm
set_option Elab.async false
set_option linter.all false
set_option maxRecDepth 100000
set_option maxHeartbeats 2000000
namespace Tm
open PySem L2
section
variable {ρ : Env} {r : Option MV}
@[simp] theorem cbE_ap {f : MF} {args : List BA} : cbE f args (r :: ρ) = match fill args (r :: ρ) with
  | some xs => (match f xs with | .ok (v, os) => .ok (v, back (r :: ρ) (idxB args) os) | .exc e os => .exc e (back (r :: ρ) (idxB args) os) | .stuck => .stuck)
  | none => .stuck := nr rfl
@[simp] theorem fill_nil {ρ : Env} : fill [] ρ = some [] := nr rfl
@[simp] theorem fill_v {ρ : Env} {x : MV} {s : List BA} : fill (.v x :: s) ρ = match fill s ρ with | some xs => some (x :: xs) | none => none := nr rfl
@[simp] theorem fill_b {ρ : Env} {i : Nat} {s : List BA} : fill (.b i :: s) ρ = match ρ[i]?, fill s ρ with | some (some x), some xs => if x.held then some (x :: xs) else none | _, _ => none := nr rfl
@[simp] theorem idxB_nil : idxB [] = [] := nr rfl
@[simp] theorem idxB_v {x : MV} {s : List BA} : idxB (.v x :: s) = idxB s := nr rfl
@[simp] theorem idxB_b {i : Nat} {s : List BA} : idxB (.b i :: s) = i :: idxB s := nr rfl
@[simp] theorem back_nil {ρ os : Env} : back ρ [] os = ρ := nr rfl
@[simp] theorem back_cons {ρ os : Env} {i : Nat} {is : List Nat} {o : Option MV} : back ρ (i :: is) (o :: os) = back (ρ.set i o) is os := nr rfl
@[simp] theorem held_own {xs : List MV} : (MV.own xs).held = true := nr rfl
@[simp] theorem held_obj {C : Str} {fs : List (Str × MV)} : (MV.obj C fs).held = true := nr rfl
end
theorem char_list_inj : ∀ {a b : List Char}, a.map Char.toNat = b.map Char.toNat → a = b
  | [], [], _ => rfl
  | [], _ :: _, h => by simp at h
  | _ :: _, [], h => by simp at h
  | c :: a, d :: b, h => by
    simp only [List.map_cons, List.cons.injEq] at h
    have e : c = d := by rw [← Char.ofNat_toNat c, ← Char.ofNat_toNat d, h.1]
    rw [e, char_list_inj h.2]
@[simp] theorem str_inj {a b : String} : (Str.ofString a = Str.ofString b) = (a = b) := by
  refine propext ⟨fun h => ?_, fun h => by rw [h]⟩
  rw [Str.ofString_eq_toList, Str.ofString_eq_toList] at h
  have h2 := congrArg (fun z : Str => z.cps.toList) h
  simp only at h2
  exact String.toList_inj.mp (char_list_inj h2)
end Tm
set_option Elab.async false
set_option linter.all false
set_option maxRecDepth 100000
set_option maxHeartbeats 2000000
namespace Tm
open PySem L2 PySem.Spec PyProof.Rows HotX
def HotS (X : Cx) : Prop := ∀ (pins : List (Addr × Obj)) (σ : L2.St) (H : Hp) (s : Shared), Inv X pins σ H s → ∃ x1, HotAt X.A x1 s.heap
structure TurnS (P : Program) (w : World) (K : PySem.W.Frag) (tg : Expr) (J : It) (it : Addr) (tn : Nat → Heap → Prop) : Prop where
  obj : ∀ i h, tn i h → ∃ o, h.get? it = some o ∧ ∀ v, o.data ≠ .cell v
  keep : ∀ i h h', tn i h → (∀ o, h.get? it = some o → h'.get? it = some o) → tn i h'
  item : ∀ (X : Cx), X.prog = P → X.w = w → X.K = K → ∀ (i : Nat) (pins : List (Addr × Obj)) (s : Shared) (σ : L2.St) (H : Hp) (E : Value → Shared → Prop), Inv X pins σ H s → FpOk X pins H it → tn i s.heap → J.go i H →
    wpAny (model P w) X.A (pyNext (.ref it)) (fun r s1 => ∃ u, r = some u ∧ wpAny (model P w) X.A (letOwnedTupleGo tg (.ref it) u) (fun _ s2 => ∃ x H', Inv X pins σ H' s2 ∧ RelV x u ∧ J.yld i H x H' ∧ tn (i + 1) s2.heap ∧ H' it = none) E s1) E s
  done : ∀ (X : Cx), X.prog = P → X.w = w → X.K = K → HotS X → ∀ (i : Nat) (pins : List (Addr × Obj)) (s : Shared) (σ : L2.St) (H : Hp) (E : Value → Shared → Prop), Inv X pins σ H s → FpOk X pins H it → tn i s.heap → J.stop i H →
    wpAny (model P w) X.A (pyNext (.ref it)) (fun r s1 => r = none ∧ Inv X pins σ H s1) E s
  self : ∀ (A : Around) (i : Nat) (s : Shared) (Q : Value → Shared → Prop) (E : Value → Shared → Prop), tn i s.heap → Q (.ref it) s → wpAny (model P w) A (pyIter (.ref it)) Q E s
structure PIS (X : Cx) (tg iter : Expr) (wi : TI) : Prop where
  run : ∀ (pins : List (Addr × Obj)) (s : Shared) (σ : L2.St) (H : Hp) (R : It → Hp → Prop), Inv X pins σ H s → wi σ H R →
    wpAny (model X.prog X.w) X.A (eval iter X.env) (fun v s1 => wpAny (model X.prog X.w) X.A (pyIter v) (fun u s2 => ∃ (it : Addr) (tn : Nat → Heap → Prop) (J : It) (H' : Hp), u = .ref it ∧ Inv X pins σ H' s2 ∧ TurnS X.prog X.w X.K tg J it tn ∧ tn 0 s2.heap ∧ FpOk X pins H' it ∧ R J H') X.xe s1) X.xe s
end Tm
set_option Elab.async false
set_option linter.all false
set_option maxRecDepth 100000
set_option maxHeartbeats 2000000
namespace Tm
open PySem L2 PySem.Spec PyProof.Rows
open Evl (Ex ex_rd ex_l ex_t)
structure FnE (P : Program) (w : World) (K : PySem.W.Frag) (mg : Str → Option Value) (base : Heap) (CX : CXT) (k : Nat) (f : Addr) (fd : FuncData) (ps : List Str) (sp : Addr × Obj → Sp) : Prop where
  len : ∀ p vs H Q E, sp p vs H Q E → vs.length = ps.length
  run : ∀ (A : Around) (outer : List PySem.Env) (s : Shared) (H : Hp) (args : Args) (us : List Value) (vs : List V) (Q : VK) (E : XK) (p : Addr × Obj), L2H.RoomH k A → L2H.Hot1 A p → L2H.PinOk outer H s p → Env0 P w K mg base A outer s H → BindsTo s fd args (ps.zip us) → Vals vs us → sp p vs H Q E →
    codeAny (model P w) A (.call (.ref f) args) (CR CX outer P w H s Q E) s
def spE (K : PySem.W.Frag) (mg : Str → Option Value) (ts : List Str) (f : MX → Res (MV × Env)) : Addr × Obj → Sp := fun p vs H Q _ => vs = [.ref p.1] ∧ ∃ (F Hk : Hp) (e : MX) (C : Addr) (d : Option Addr) (v : MV) (ρ' : Env), Ex Hk H ∧ Ex F H ∧ (∀ a o, F a = some o → Hk a = none) ∧
  mg e.cls = some (.ref C) ∧ e.cls ∈ ts ∧ L2N.Zn (.ref C) d p.2 ∧ (∃ vs, p.2.data = .fields vs) ∧ XIn F e d ∧ f e = .ok (v, ρ') ∧ flatM v = true ∧ ∀ Hk' H' u, Ex Hk Hk' → Ex Hk' H' → Ex F H' → (∀ a o, F a = some o → Hk' a = none) → RV K Hk' v u → Q u H'
structure FdE (P : Program) (w : World) (K : PySem.W.Frag) (mg : Str → Option Value) (base : Heap) (x : Str) (k : Nat) (q : Str) (ts : List Str) (f : MX → Res (MV × Env)) : Prop where
  ex : ∃ (a : Addr) (fd : FuncData), FnE P w K mg base (L2N.CX P w) k a fd [q] (spE K mg ts f) ∧ mg x = some (.ref a) ∧ PySem.W.keepIn K (.ref a) = true ∧ Binds K fd [q] []
structure KiB (K : PySem.W.Frag) (mg : Str → Option Value) (T : String) (x : Str) : Prop where
  ex : ∃ C, mg x = some (.ref C) ∧ PySem.W.kitOne K (.ref C) (.type T) = some true
end Tm
set_option Elab.async false
set_option linter.all false
set_option maxRecDepth 100000
set_option maxHeartbeats 2000000
namespace Tm
open PySem L2 PySem.Spec PyProof.Rows
open Evl (Ex ex_rd ex_l ex_t)
def wEach (K : PySem.W.Frag) (i : Nat) (Wo : WX) (D : Ends) : List (Value × (Addr → Value → Option Addr → TS)) → WX
  | [] => Wo
  | q :: r => wAs K q.1 i q.2 (wEach K i Wo D r) D
inductive HdE (X : Cx) (n : Str) : List ExceptHandler → List (Value × (Addr → Value → Option Addr → TS)) → Prop
  | nil : HdE X n [] []
  | cons {y : Str} {c : Value} {ts : Addr → Value → Option Addr → TS} {b₀ : Stmt} {suite : List Stmt} {np p : Pos} {hds : List ExceptHandler} {l : List (Value × (Addr → Value → Option Addr → TS))} (hc : Names X y c)
      (hsu : ∀ (a : Addr) (oe : Obj) (cls : Value) (d : Option Addr) (pn : List (Addr × Obj)), L2N.Zn cls d oe → (∃ vs, oe.data = .fields vs) → PSs (X.suite a ((a, oe) :: pn)) (b₀ :: suite) (ts a cls d)) (r : HdE X n hds l) :
      HdE X n (.ExceptHandler (some (.Name y np)) (some n) (b₀ :: suite) p :: hds) ((c, ts) :: l)
section
variable {X : Cx} {n : Str} {i : Nat} {body : List Stmt} {h₀ : ExceptHandler} {hds : List ExceptHandler} {l : List (Value × (Addr → Value → Option Addr → TS))} {pos : Pos} {tb : WX → TS} {Wo : WX}
theorem ps_try_each (hs : X.stack = X.env :: X.outer) (hf : X.env.frame = some X.env.locals) (hN : X.N.Nodup) (hi : X.N[i]? = some n) (hln : X.env.kindOf n = some .local) (tk : L2N.Takes X Wo)
    (hb : ∀ (W : WX) (pn : List (Addr × Obj)) (xe : Value → Shared → Prop), L2N.Takes (X.tr pn xe) W → PassesOwn (model X.prog X.w) X.A X.env xe → PSs (X.tr pn xe) body (tb W))
    (hh : HdE X n (h₀ :: hds) l) : PS X (.Try body (h₀ :: hds) [] [] pos) (fun D σ H => tb (wEach X.K i Wo D l) D σ H) := by
  refine ⟨fun pins s σ H D I h => ?_⟩
  have ok := I.ok
  have hfr : X.A.frames = some (X.env :: X.outer) := by rw [ok.frames, hs]
  have hloc : Loc X.env.scope n := .inl hln
  refine wpAny_Try_except ?_
  refine wpAny_mono ((hb (wEach X.K i Wo D l) (X.pn ++ pins) (fun e s₁ => wpAny (model X.prog X.w) X.A (noteFrame e X.env) (fun _ s₂ => wpAny (model X.prog X.w) X.A (setFlight e none) (fun _ s₃ =>
    wpAny (model X.prog X.w) X.A (handleBy e X.env (h₀ :: hds)) (SP X pins D) X.xe s₃) X.xe s₂) X.xe s₁) (fun u s' xx => ?_) PassesOwn.looking).run [] s σ H D (I.toTry _) h) (fun f s1 hsp => ?_) (fun e s1 he => he)
  · obtain ⟨a, B, sI, pins', σ', H', cls, d, rfl, J', nb, up, sky, na, os, ag, w⟩ := xx
    have J : Inv X pins σ' H' sI := J'.ofTry ok
    have sky' : Sky B (X.env :: X.outer) a (L2N.Zn cls d) X.env.locals s'.heap := by rw [← hs]; exact sky
    show wpAny (model X.prog X.w) X.A (noteFrame (.ref a) X.env) _ _ _
    refine L2N.Sky.land L2N.Zn.steady hfr hf sky' fun h3 fl up3 => ?_
    have J3 : Inv X pins σ' H' { s' with heap := h3 } := J.landed nb fl.1 (up.trans up3) os ag
    obtain ⟨oe, vs, he, hz, hd⟩ := fl.there
    have out : a ∉ frs (X.env :: X.outer) := fun hm => by
      obtain ⟨_, o', e', hnf⟩ := fl.2.2.1.mem hm
      rw [he] at e'; cases e'
      exact hnf _ hd
    have nL : a ≠ X.env.locals := fun z => out (List.mem_filterMap.mpr ⟨X.env, List.mem_cons_self, by rw [hf, z]⟩)
    have nF : a ∉ X.fs := fun hm => by
      obtain ⟨e, q1, q2⟩ := List.mem_filterMap.mp hm
      exact out (List.mem_filterMap.mpr ⟨e, List.mem_cons_of_mem _ q1, q2⟩)
    have S3 := J3.suite he hd na nL nF
    have go : ∀ {hds' : List ExceptHandler} {l' : List (Value × (Addr → Value → Option Addr → TS))}, HdE X n hds' l' → wEach X.K i Wo D l' cls d σ' H' →
        wpAny (model X.prog X.w) X.A (handleBy (.ref a) X.env hds') (SP X pins D) X.xe { s' with heap := h3 } := by
      intro hds' l' hk
      induction hk with
      | nil =>
        intro w
        refine wpAny_handleBy_nil ?_
        obtain ⟨_, _, _, o, us, T, _, _, e1, _, e2, e3, _⟩ := id fl
        unfold PySem.passOn
        refine wpAny_bind (wpAny_field e1 e2 e3 ?_)
        rw [if_neg (show ¬ ((Value.ref T == Value.none) = true) from by simp)]
        have fin : wpAny (model X.prog X.w) X.A (setFlight (.ref a) X.env.frame) (fun _ s4 => wpAny (model X.prog X.w) X.A (throw (.ref a) : Sem Flow) (SP X pins D) X.xe s4) X.xe { s' with heap := h3 } := by
          rw [hf]
          exact HandSPX.setFlight_upZ fl fun h4 hh4 up4 => wpAny_throw (tk _ _ ⟨a, B, sI, pins, σ', H', cls, d, rfl, J, nb, (up.trans up3).trans up4, .inr (.inr (by rw [hs]; exact hh4)), na, os, ag, w⟩)
        first
          | exact wpAny_bind (wpAny_pure (wpAny_bind fin))
          | exact wpAny_bind fin
      | @cons y c ts b₀ suite np p hds2 l2 hc hsu r ih =>
        intro w
        obtain ⟨b, hb1, hyes, hno⟩ := w
        refine wpAny_handleBy_cons (codeAny_handlers_test ?_) (by intro q; cases q)
        have LM := PySem.W.exm_one (M := model X.prog X.w) J3.kIn (e := a) (cls := cls) (fun A Q E s k q => wpAny_typeOf_ref (k _ _ he) (by rw [hz.1]; exact q)) hb1
        have test : ∀ {Q : Value → Shared → Prop} {E : Value → Shared → Prop}, Q c { s' with heap := h3 } → wpAny (model X.prog X.w) (X.A.mark (some (.ref a))) (eval (.Name y np) X.env) Q E { s' with heap := h3 } := fun {Q E} q => by
          obtain ⟨hg, hdbg, hm | ⟨hm, hv, hnn⟩⟩ := hc
          · exact ld_glob (X := X.suite a ((a, oe) :: (X.pn ++ pins))) S3 hg hm q hdbg
          · exact ld_blt (X := X.suite a ((a, oe) :: (X.pn ++ pins))) S3 hg hm hv q hnn hdbg
        refine test (LM.here ?_)
        cases b with
        | false =>
          show wpAny _ X.A (handleBy (.ref a) X.env hds2) _ _ _
          exact ih (hno rfl)
        | true =>
          refine codeAny_handlers_suite_as ?_
          refine HandSPX.lands_againZ fl fun h4 fl4 up4 => ?_
          have J4 : Inv X pins σ' H' { s' with heap := h4 } := J.landed nb fl4.1 ((up.trans up3).trans up4) os ag
          obtain ⟨oe4, vs4, he4, hz4, hd4⟩ := fl4.there
          have S4 := J4.suite he4 hd4 na nL nF
          refine store_ok (X := X.suite a ((a, oe4) :: (X.pn ++ pins))) (v := .ref a) S4 hN hi hloc rfl (fun s5 S5 => ?_) (.inr hln)
          refine wpAny_mono ((hsu a oe4 cls d (X.pn ++ pins) hz4 ⟨_, hd4⟩).run [] s5 _ H' _ S5 (hyes rfl a na)) (fun f s6 hsp => ?_) (fun _ _ z => False.elim z)
          have gone : ∀ {σ6 : L2.St} {H6 : Hp} {Q : Shared → Prop}, Inv (X.suite a ((a, oe4) :: (X.pn ++ pins))) [] σ6 H6 s6 → (∀ s7, Inv X pins (σ6.set i none) H6 s7 → Q s7) →
              wpAny (model X.prog X.w) X.A (do bindName X.env n .none; unbindBehindTheSuite X.env n p) (fun _ s7 => Q s7) X.xe s6 := fun {σ6 H6 Q} S6 hq => gone_ok (S6.unsuite ok) hN hi hln hq
          cases f with
          | next => obtain ⟨σ6, H6, S6, q6⟩ := hsp; exact gone S6 fun s7 J7 => ⟨_, _, J7, q6⟩
          | brk => obtain ⟨σ6, H6, S6, q6⟩ := hsp; exact gone S6 fun s7 J7 => ⟨_, _, J7, q6⟩
          | cont => obtain ⟨σ6, H6, S6, q6⟩ := hsp; exact gone S6 fun s7 J7 => ⟨_, _, J7, q6⟩
          | ret u => obtain ⟨v6, σ6, H6, S6, r6, q6⟩ := hsp; exact gone S6 fun s7 J7 => ⟨_, _, _, J7, r6, q6⟩
    exact go hh w
  · cases f with
    | next => obtain ⟨σ', H', J', q⟩ := hsp; exact wpAny_execs_nil ⟨σ', H', J'.ofTry ok, q⟩
    | brk => obtain ⟨σ', H', J', q⟩ := hsp; exact ⟨σ', H', J'.ofTry ok, q⟩
    | cont => obtain ⟨σ', H', J', q⟩ := hsp; exact ⟨σ', H', J'.ofTry ok, q⟩
    | ret u => obtain ⟨v, σ', H', J', r, q⟩ := hsp; exact ⟨v, σ', H', J'.ofTry ok, r, q⟩
end
def hand1 (i : Nat) (tab : List (Str × Bool)) (mh : MX → MS) (e : MX) (rest : Res (Fl × Env)) (ρ1 : Env) : Res (Fl × Env) := match tab.lookup e.cls with
  | some true => if decide (i < ρ1.length) && e.fs.all (fun p => flatM p.2) then (match mh e (ρ1.set i none) with
      | .ok (.rt v, ρ2) => .ok (.rt v, ρ2)
      | .ok (f, ρ2) => .ok (f, ρ2.set i none)
      | _ => .stuck) else .stuck
  | some false => rest
  | none => .stuck
def handN (i : Nat) (e : MX) (ρ1 : Env) : List (List (Str × Bool) × (MX → MS)) → Res (Fl × Env)
  | [] => .exc e ρ1
  | q :: r => hand1 i q.1 q.2 e (handN i e ρ1 r) ρ1
def mTryN (i : Nat) (cs : List (List (Str × Bool) × (MX → MS))) (mb : MS) : MS := fun ρ => match mb ρ with
  | .ok r => .ok r
  | .stuck => .stuck
  | .exc e ρ1 => handN i e ρ1 cs
section
variable {c : Ct} {i : Nat} {tab : List (Str × Bool)} {mh : MX → MS} {y : Str} {D : Ends} {F Hk : Hp} {bp : List (Nat × Addr)} {mg : Str → Option Value}
theorem hand1_ok {e : MX} {ρ1 : Env} {rest : Res (Fl × Env)} {Wo : WX} {Dy : Addr} (hDy : mg y = some (.ref Dy)) (hmg : c.mg = mg) (ht : ∀ p ∈ tab, ExT c.K mg y p.1 p.2) (hbs : c.bs.contains i = false) (S2 : bp.map (·.1) = c.bs ∧ c.J F bp)
    (h : okS c F Hk bp D (hand1 i tab mh e rest ρ1)) {Hk' H' : Hp} {σ' : L2.St} {cls : Value} {d : Option Addr} (x : Ex Hk Hk') (S1 : RS c.K F Hk' H' bp σ' ρ1) (er : ExR c.K c.mg Hk' e cls d)
    (hr : okS c F Hk bp D rest → Wo cls d σ' H') :
    wAs c.K (.ref Dy) i (fun a cls d D σ H => ∃ e C, mg e.cls = some (.ref C) ∧ cls = .ref C ∧ (e.cls, true) ∈ tab ∧ rdS (cH c i a e d) (mh e) D σ H) Wo D cls d σ' H' := by
  unfold hand1 at h
  obtain ⟨C, g1, g2, g3⟩ := er
  subst g2
  have g1' : mg e.cls = some (.ref C) := by rw [← hmg]; exact g1
  cases el : tab.lookup e.cls with
  | none => simp only [el] at h; exact h.elim
  | some b =>
    obtain ⟨C', D', k1, k2, k3⟩ := (ht _ (lookup_mem el)).ex
    rw [g1'] at k1
    cases k1
    rw [hDy] at k2
    cases k2
    refine ⟨b, k3, fun hyes a ha => ?_, fun hno => ?_⟩
    · subst hyes
      simp only [el] at h
      split at h
      · rename_i hc
        simp only [Bool.and_eq_true, decide_eq_true_eq] at hc
        refine ⟨e, C, g1', rfl, lookup_mem el, ?_⟩
        have hbq : ∀ q ∈ bp, q.1 ≠ i := nb S2.1 hbs
        have main : ∃ F2 Hk2, RS c.K F2 Hk2 H' ((i, a) :: bp) (σ'.set i (some (.ref a))) (ρ1.set i none) ∧ Ex F F2 ∧ XIn F2 e d ∧ ∀ Hk3 H3 bq σ3 ρ3, Ex Hk2 Hk3 → RS c.K F2 Hk3 H3 bq σ3 ρ3 → ∃ Hk4, Ex Hk' Hk4 ∧ RS c.K F Hk4 H3 bq σ3 ρ3 ∧ Ex Hk3 Hk4 := by
          rcases g3 with g3 | ⟨dx, vfs, q1, q2, q3⟩
          · exact ⟨F, Hk', S1.hold hc.1 hbq, Ex.refl _, .inl g3, fun Hk3 H3 bq σ3 ρ3 x3 S3 => ⟨Hk3, x3, S3, Ex.refl _⟩⟩
          · have fn : F dx = none := by
              cases e0 : F dx with
              | none => rfl
              | some o => have := S1.frk dx o e0; rw [q2] at this; cases this
            refine ⟨_, _, (S1.hold hc.1 hbq).aside q2, Ex.new fn, .inr ⟨dx, vfs, q1, upd_same, fun K H => q3.flat hc.2⟩, fun Hk3 H3 bq σ3 ρ3 x3 S3 => ⟨_, fun b o hb => ?_, S3.back_in fn, Ex.new (S3.frk dx _ upd_same)⟩⟩
            by_cases e0 : b = dx
            · subst e0; rw [q2] at hb; cases hb; exact upd_same
            · rw [upd_ne e0]
              exact x3 _ _ (by rw [del_ne e0]; exact hb)
        obtain ⟨F2, Hk2, S2', xF, xi, out⟩ := main
        refine ⟨F2, Hk2, (i, a) :: bp, _, ⟨S2', ?_, ⟨bp, rfl, c.Jm _ _ _ xF S2.2⟩, xi⟩, ?_⟩
        · show i :: bp.map (·.1) = i :: c.bs
          rw [S2.1]
        cases eh : mh e (ρ1.set i none) with
        | stuck => rw [eh] at h; exact h.elim
        | exc e2 ρ2 => rw [eh] at h; exact h.elim
        | ok r =>
          obtain ⟨f, ρ2⟩ := r
          rw [eh] at h
          cases f with
          | nx =>
            intro Hk3 H3 σ3 x3 S3
            obtain ⟨Hk4, x4, S4, _⟩ := out Hk3 H3 _ _ _ x3 S3
            exact h Hk4 H3 _ (x.trans x4) (S4.unhold hbq)
          | br =>
            intro Hk3 H3 σ3 x3 S3
            obtain ⟨Hk4, x4, S4, _⟩ := out Hk3 H3 _ _ _ x3 S3
            exact h Hk4 H3 _ (x.trans x4) (S4.unhold hbq)
          | ct =>
            intro Hk3 H3 σ3 x3 S3
            obtain ⟨Hk4, x4, S4, _⟩ := out Hk3 H3 _ _ _ x3 S3
            exact h Hk4 H3 _ (x.trans x4) (S4.unhold hbq)
          | rt v =>
            intro Hk3 H3 σ3 w x3 hq S3
            obtain ⟨Hk4, x4, S4, _⟩ := out Hk3 H3 _ _ _ x3 S3
            exact h Hk4 H3 _ w (x.trans x4) (fun q hq' => hq q (List.mem_cons_of_mem _ hq')) S4.less
      · exact h.elim
    · subst hno
      simp only [el] at h
      exact hr h
end
inductive HdM (X : Cx) (c : Ct) (i : Nat) (n : Str) : List ExceptHandler → List (List (Str × Bool) × (MX → MS)) → Prop
  | nil : HdM X c i n [] []
  | cons {y : Str} {b₀ : Stmt} {suite : List Stmt} {np p : Pos} {hds : List ExceptHandler} {tab : List (Str × Bool)} {mh : MX → MS} {l : List (List (Str × Bool) × (MX → MS))} (hg : Gl X y) (ht : ∀ p ∈ tab, ExT X.K X.mg y p.1 p.2) (hne : ∃ D, X.mg y = some (.ref D))
      (hsu : ∀ (a : Addr) (oe : Obj) (C : Addr) (d : Option Addr) (pn : List (Addr × Obj)) (e : MX), X.mg e.cls = some (.ref C) → (e.cls, true) ∈ tab → L2N.Zn (.ref C) d oe → (∃ vs, oe.data = .fields vs) → PSs (X.suite a ((a, oe) :: pn)) (b₀ :: suite) (rdS (cH c i a e d) (mh e)))
      (hdb : (y == ("__debug__" : Str)) = false) (r : HdM X c i n hds l) :
      HdM X c i n (.ExceptHandler (some (.Name y np)) (some n) (b₀ :: suite) p :: hds) ((tab, mh) :: l)
section
variable {X : Cx} {c : Ct} {n : Str} {i : Nat} {body : List Stmt} {h₀ : ExceptHandler} {hds : List ExceptHandler} {pos : Pos} {mb : MS} {cs : List (List (Str × Bool) × (MX → MS))}
theorem HdM.each (hK : c.K = X.K) (hmg : c.mg = X.mg) (hbs : c.bs.contains i = false) {hds : List ExceptHandler} {cs : List (List (Str × Bool) × (MX → MS))} (h : HdM X c i n hds cs) :
    ∃ l, HdE X n hds l ∧ ∀ {F Hk : Hp} {bp : List (Nat × Addr)} {D : Ends} {e : MX} {ρ1 : Env}, (bp.map (·.1) = c.bs ∧ c.J F bp) → okS c F Hk bp D (handN i e ρ1 cs) →
      ∀ {Hk' H' : Hp} {σ' : L2.St} {cls : Value} {d : Option Addr}, Ex Hk Hk' → RS c.K F Hk' H' bp σ' ρ1 → ExR c.K c.mg Hk' e cls d → wEach c.K i c.W D l cls d σ' H' := by
  induction h with
  | nil => exact ⟨[], .nil, by intro F Hk bp D e ρ1 S2 h Hk' H' σ' cls d x S1 er; exact h Hk' H' σ' cls d x S1 er⟩
  | @cons y b₀ suite np p hds tab mh l hg ht hne hsu hdb r ih =>
    obtain ⟨l', e1, e2⟩ := ih
    obtain ⟨Dy, hDy⟩ := hne
    refine ⟨(.ref Dy, fun a cls d D σ H => ∃ e C, X.mg e.cls = some (.ref C) ∧ cls = .ref C ∧ (e.cls, true) ∈ tab ∧ rdS (cH c i a e d) (mh e) D σ H) :: l', .cons ⟨hg, hdb, .inl hDy⟩ (fun a oe cls d pn hz hv => ⟨fun pins s σ H D I ⟨e, C, h1, h2, h3, h4⟩ => (hsu a oe C d pn e h1 h3 (by rw [← h2]; exact hz) hv).run pins s σ H D I h4⟩) e1, ?_⟩
    intro F Hk bp D e ρ1 S2 h Hk' H' σ' cls d x S1 er
    exact hand1_ok hDy hmg (by rw [hK]; exact ht) hbs S2 h x S1 er fun hr => e2 S2 hr x S1 er
theorem ms_tryN (hs : X.stack = X.env :: X.outer) (hf : X.env.frame = some X.env.locals) (hN : X.N.Nodup) (hi : X.N[i]? = some n) (hln : X.env.kindOf n = some .local) (tk : L2N.Takes X c.W)
    (hb : ∀ (W : WX) (pn : List (Addr × Obj)) (xe : Value → Shared → Prop), L2N.Takes (X.tr pn xe) W → PassesOwn (model X.prog X.w) X.A X.env xe → PSs (X.tr pn xe) body (rdS ⟨c.K, c.mg, W, c.bs, c.J, c.Jm⟩ mb))
    (hh : HdM X c i n (h₀ :: hds) cs) (hbs : c.bs.contains i = false := by rfl) (hK : c.K = X.K := by rfl) (hmg : c.mg = X.mg := by rfl) :
    PS X (.Try body (h₀ :: hds) [] [] pos) (rdS c (mTryN i cs mb)) := by
  obtain ⟨l, e1, e2⟩ := hh.each hK hmg hbs
  refine PSw (ps_try_each (tb := fun W => rdS ⟨c.K, c.mg, W, c.bs, c.J, c.Jm⟩ mb) hs hf hN hi hln tk hb e1) fun D σ H h => ?_
  obtain ⟨F, Hk, bp, ρ, S, h⟩ := h
  refine ⟨F, Hk, bp, ρ, S, ?_⟩
  unfold mTryN at h
  cases em : mb ρ with
  | stuck => rw [em] at h; exact h
  | ok r =>
    rw [em] at h
    obtain ⟨f, ρ'⟩ := r
    cases f <;> exact h
  | exc e ρ1 =>
    rw [em] at h
    intro Hk' H' σ' cls d x S1 er
    rw [← hK]
    exact e2 S.2 h x S1 er
end
section
variable {i : Nat} {cs : List (List (Str × Bool) × (MX → MS))} {mb : MS} {r : Option MV} {ρ : Env} {tab : List (Str × Bool)} {mh : MX → MS} {e : MX}
def tryN (i : Nat) (cs : List (List (Str × Bool) × (MX → MS))) (q : Res (Fl × Env)) : Res (Fl × Env) := match q with
  | .ok r => .ok r
  | .stuck => .stuck
  | .exc e ρ1 => handN i e ρ1 cs
@[simp] theorem mTryN_ap : mTryN i cs mb (r :: ρ) = tryN i cs (mb (r :: ρ)) := nr rfl
@[simp] theorem tryN_ok {q : Fl × Env} : tryN i cs (.ok q) = .ok q := nr rfl
@[simp] theorem tryN_exc : tryN i cs (.exc e ρ) = handN i e ρ cs := nr rfl
theorem handN_yes (h : tab.lookup e.cls = some true) (h2 : i < ρ.length) (h3 : e.fs.all (fun p => flatM p.2) = true) : handN i e ρ ((tab, mh) :: cs) = endM i (mh e (ρ.set i none)) := by
  show hand1 i tab mh e (handN i e ρ cs) ρ = _
  unfold hand1 endM
  simp only [h, h2, h3, decide_true, Bool.and_self, if_true] <;> (rcases mh e (ρ.set i none) with ⟨f, ρ2⟩ | _ | _ <;> first | rfl | (cases f <;> rfl))
theorem handN_no (h : tab.lookup e.cls = some false) : handN i e ρ ((tab, mh) :: cs) = handN i e ρ cs := by
  show hand1 i tab mh e (handN i e ρ cs) ρ = _
  unfold hand1
  simp only [h]
end
end Tm
set_option Elab.async false
set_option linter.all false
set_option maxRecDepth 100000
set_option maxHeartbeats 2000000
namespace Tm
open PySem L2 PySem.Spec PyProof.Rows
open Evl (Ex ex_rd ex_l ex_t)
section
variable {K : PySem.W.Frag} {F Hk H : Hp} {bp : List (Nat × Addr)} {σ : L2.St} {ρ : Env}
theorem RS.frame (S : RS K F Hk H bp σ ρ) {p : Addr} (o : HO) (h : H p = none) : RS K (upd F p o) Hk (upd H p o) bp σ ρ := by
  obtain ⟨ow, s⟩ := S.ow
  have np : ∀ i a, a ∈ ow i → a ≠ p := fun i a ha z => s.fresh h i (by rw [← z]; exact ha)
  have s2 : SL K F Hk (upd H p o) ow σ ρ := s.step (Ex.refl _) fun i a ha => ⟨upd_ne (np i a ha), (s.f i a ha).1⟩
  have hk : Hk p = none := S.ex.back h
  refine ⟨S.len, S.ex.mut hk, fun a u q => ?_, fun a u q => ?_, ⟨ow, s2.s, fun i a q => ⟨(s2.f i a q).1, by rw [upd_ne (np i a q)]; exact (s2.f i a q).2.1, (s2.f i a q).2.2⟩, s2.w, s2.d⟩, S.bor⟩
  · by_cases e : a = p
    · subst e; rw [upd_same] at q ⊢; exact q
    · rw [upd_ne e] at q ⊢; exact S.fr a u q
  · by_cases e : a = p
    · subst e; exact hk
    · rw [upd_ne e] at q; exact S.frk a u q
end
structure DPs (X : Cx) (c : Ct) (pos : Pos) (keys : List (Option Expr)) (values : List Expr) (ks : List Key) (m : MA) : Prop where
  ex : ∃ trs, PPs X pos keys values trs ∧ ∀ (σ : L2.St) (H : Hp) (Q : List (V × V) → Hp → Prop), rdA c m σ H (fun vs H' => Q ((ks.map kV).zip vs) H') → tPairs trs σ H Q
def dctIs : List (Str × MV) → List DictEntry → Bool
  | [], [] => true
  | p :: t, e :: r => e.key.isStr p.1 && flatIs p.2 e.val && dctIs t r
  | _, _ => false
structure DCst (K : PySem.W.Frag) (w : World) (mg : Str → Option Value) (x : Str) (tab : List (Str × MV)) : Prop where
  ex : ∃ a es n, mg x = some (.ref a) ∧ KDict K w a es n ∧ dctIs tab es.toList = true
end Tm
set_option Elab.async false
set_option linter.all false
set_option maxRecDepth 100000
set_option maxHeartbeats 2000000
namespace Tm
open PySem L2
open Evl (Ex ex_rd ex_l ex_t)
theorem OV.dow {K : PySem.W.Frag} {Hk H : Hp} {ks : List Key} {xs : List MV} {v : V} {A : List Addr} : OV K Hk H (.dow ks xs) v A ↔ ∃ p vs, v = .ref p ∧ A = [p] ∧ H p = some (.dK (ks.zip vs)) ∧ ks.length = xs.length ∧ RVs K Hk xs vs := by
  unfold OV OF; rfl
end Tm
set_option Elab.async false
set_option linter.all false
set_option maxRecDepth 100000
set_option maxHeartbeats 2000000
namespace Tm
open PySem L2 PySem.Spec PyProof.Rows
open Evl (Ex ex_rd ex_l ex_t)
inductive Tst
  | one (c : Value)
  | two (c1 c2 : Value)
def Tst.ans (K : PySem.W.Frag) (cls : Value) : Tst → Option Bool
  | .one c => PySem.W.exmOne K cls c
  | .two c1 c2 => PySem.W.exmAny K cls [c1, c2]
def wAsT (K : PySem.W.Frag) (t : Tst) (i : Nat) (ts : Addr → Value → Option Addr → TS) (Wout : WX) (D : Ends) : WX := fun cls d σ H =>
  ∃ b, t.ans K cls = some b ∧ (b = true → ∀ a, H a = none → ts a cls d { nx := fun σ' H' => D.nx (σ'.set i none) H', rt := D.rt, bk := fun σ' H' => D.bk (σ'.set i none) H', ct := fun σ' H' => D.ct (σ'.set i none) H' } (σ.set i (some (.ref a))) H) ∧
    (b = false → Wout cls d σ H)
def wEachT (K : PySem.W.Frag) (i : Nat) (Wo : WX) (D : Ends) : List (Tst × (Addr → Value → Option Addr → TS)) → WX
  | [] => Wo
  | q :: r => wAsT K q.1 i q.2 (wEachT K i Wo D r) D
inductive TstE (X : Cx) : Expr → Tst → Prop
  | one {y : Str} {c : Value} {np : Pos} (hc : Names X y c) : TstE X (.Name y np) (.one c)
  | two {y1 y2 : Str} {c1 c2 : Value} {p1 p2 tp : Pos} {k : Nat} (h1 : Names X y1 c1) (h2 : Names X y2 c2) : TstE X (.Tuple [.Name y1 p1, .Name y2 p2] k tp) (.two c1 c2)
theorem TstE.suite {X : Cx} {te : Expr} {t : Tst} (h : TstE X te t) (a : Addr) (pn : List (Addr × Obj)) : TstE (X.suite a pn) te t := by
  cases h with
  | one hc => exact .one hc
  | two h1 h2 => exact .two h1 h2
inductive HdT (X : Cx) (n : Str) : List ExceptHandler → List (Tst × (Addr → Value → Option Addr → TS)) → Prop
  | nil : HdT X n [] []
  | cons {te : Expr} {t : Tst} {ts : Addr → Value → Option Addr → TS} {b₀ : Stmt} {suite : List Stmt} {p : Pos} {hds : List ExceptHandler} {l : List (Tst × (Addr → Value → Option Addr → TS))} (hc : TstE X te t)
      (hsu : ∀ (a : Addr) (oe : Obj) (cls : Value) (d : Option Addr) (pn : List (Addr × Obj)), L2N.Zn cls d oe → (∃ vs, oe.data = .fields vs) → PSs (X.suite a ((a, oe) :: pn)) (b₀ :: suite) (ts a cls d)) (r : HdT X n hds l) :
      HdT X n (.ExceptHandler (some te) (some n) (b₀ :: suite) p :: hds) ((t, ts) :: l)
section
variable {c : Ct} {i : Nat} {tab : List (Str × Bool)} {mh : MX → MS} {y : Str} {D : Ends} {F Hk : Hp} {bp : List (Nat × Addr)} {mg : Str → Option Value}
theorem hand1_okT {t : Tst} {e : MX} {ρ1 : Env} {rest : Res (Fl × Env)} {Wo : WX} (hmg : c.mg = mg) (ht : ∀ p ∈ tab, ∃ C, mg p.1 = some (.ref C) ∧ t.ans c.K (.ref C) = some p.2) (hbs : c.bs.contains i = false) (S2 : bp.map (·.1) = c.bs ∧ c.J F bp)
    (h : okS c F Hk bp D (hand1 i tab mh e rest ρ1)) {Hk' H' : Hp} {σ' : L2.St} {cls : Value} {d : Option Addr} (x : Ex Hk Hk') (S1 : RS c.K F Hk' H' bp σ' ρ1) (er : ExR c.K c.mg Hk' e cls d)
    (hr : okS c F Hk bp D rest → Wo cls d σ' H') :
    wAsT c.K t i (fun a cls d D σ H => ∃ e C, mg e.cls = some (.ref C) ∧ cls = .ref C ∧ (e.cls, true) ∈ tab ∧ rdS (cH c i a e d) (mh e) D σ H) Wo D cls d σ' H' := by
  unfold hand1 at h
  obtain ⟨C, g1, g2, g3⟩ := er
  subst g2
  have g1' : mg e.cls = some (.ref C) := by rw [← hmg]; exact g1
  cases el : tab.lookup e.cls with
  | none => simp only [el] at h; exact h.elim
  | some b =>
    obtain ⟨C', k1, k3⟩ := ht _ (lookup_mem el)
    rw [g1'] at k1
    cases k1
    refine ⟨b, k3, fun hyes a ha => ?_, fun hno => ?_⟩
    · subst hyes
      simp only [el] at h
      split at h
      · rename_i hc
        simp only [Bool.and_eq_true, decide_eq_true_eq] at hc
        refine ⟨e, C, g1', rfl, lookup_mem el, ?_⟩
        have hbq : ∀ q ∈ bp, q.1 ≠ i := nb S2.1 hbs
        have main : ∃ F2 Hk2, RS c.K F2 Hk2 H' ((i, a) :: bp) (σ'.set i (some (.ref a))) (ρ1.set i none) ∧ Ex F F2 ∧ XIn F2 e d ∧ ∀ Hk3 H3 bq σ3 ρ3, Ex Hk2 Hk3 → RS c.K F2 Hk3 H3 bq σ3 ρ3 → ∃ Hk4, Ex Hk' Hk4 ∧ RS c.K F Hk4 H3 bq σ3 ρ3 ∧ Ex Hk3 Hk4 := by
          rcases g3 with g3 | ⟨dx, vfs, q1, q2, q3⟩
          · exact ⟨F, Hk', S1.hold hc.1 hbq, Ex.refl _, .inl g3, fun Hk3 H3 bq σ3 ρ3 x3 S3 => ⟨Hk3, x3, S3, Ex.refl _⟩⟩
          · have fn : F dx = none := by
              cases e0 : F dx with
              | none => rfl
              | some o => have := S1.frk dx o e0; rw [q2] at this; cases this
            refine ⟨_, _, (S1.hold hc.1 hbq).aside q2, Ex.new fn, .inr ⟨dx, vfs, q1, upd_same, fun K H => q3.flat hc.2⟩, fun Hk3 H3 bq σ3 ρ3 x3 S3 => ⟨_, fun b o hb => ?_, S3.back_in fn, Ex.new (S3.frk dx _ upd_same)⟩⟩
            by_cases e0 : b = dx
            · subst e0; rw [q2] at hb; cases hb; exact upd_same
            · rw [upd_ne e0]
              exact x3 _ _ (by rw [del_ne e0]; exact hb)
        obtain ⟨F2, Hk2, S2', xF, xi, out⟩ := main
        refine ⟨F2, Hk2, (i, a) :: bp, _, ⟨S2', ?_, ⟨bp, rfl, c.Jm _ _ _ xF S2.2⟩, xi⟩, ?_⟩
        · show i :: bp.map (·.1) = i :: c.bs
          rw [S2.1]
        cases eh : mh e (ρ1.set i none) with
        | stuck => rw [eh] at h; exact h.elim
        | exc e2 ρ2 => rw [eh] at h; exact h.elim
        | ok r =>
          obtain ⟨f, ρ2⟩ := r
          rw [eh] at h
          cases f with
          | nx =>
            intro Hk3 H3 σ3 x3 S3
            obtain ⟨Hk4, x4, S4, _⟩ := out Hk3 H3 _ _ _ x3 S3
            exact h Hk4 H3 _ (x.trans x4) (S4.unhold hbq)
          | br =>
            intro Hk3 H3 σ3 x3 S3
            obtain ⟨Hk4, x4, S4, _⟩ := out Hk3 H3 _ _ _ x3 S3
            exact h Hk4 H3 _ (x.trans x4) (S4.unhold hbq)
          | ct =>
            intro Hk3 H3 σ3 x3 S3
            obtain ⟨Hk4, x4, S4, _⟩ := out Hk3 H3 _ _ _ x3 S3
            exact h Hk4 H3 _ (x.trans x4) (S4.unhold hbq)
          | rt v =>
            intro Hk3 H3 σ3 w x3 hq S3
            obtain ⟨Hk4, x4, S4, _⟩ := out Hk3 H3 _ _ _ x3 S3
            exact h Hk4 H3 _ w (x.trans x4) (fun q hq' => hq q (List.mem_cons_of_mem _ hq')) S4.less
      · exact h.elim
    · subst hno
      simp only [el] at h
      exact hr h
end
structure ExT2 (K : PySem.W.Frag) (mg : Str → Option Value) (y1 y2 : Str) (x : Str) (b : Bool) : Prop where
  ex : ∃ C D1 D2, mg x = some (.ref C) ∧ mg y1 = some (.ref D1) ∧ mg y2 = some (.ref D2) ∧ PySem.W.exmAny K (.ref C) [.ref D1, .ref D2] = some b
inductive HdMT (X : Cx) (c : Ct) (i : Nat) (n : Str) : List ExceptHandler → List (List (Str × Bool) × (MX → MS)) → Prop
  | nil : HdMT X c i n [] []
  | cons {y : Str} {b₀ : Stmt} {suite : List Stmt} {np p : Pos} {hds : List ExceptHandler} {tab : List (Str × Bool)} {mh : MX → MS} {l : List (List (Str × Bool) × (MX → MS))} (hg : Gl X y) (ht : ∀ p ∈ tab, ExT X.K X.mg y p.1 p.2) (hne : ∃ D, X.mg y = some (.ref D))
      (hsu : ∀ (a : Addr) (oe : Obj) (C : Addr) (d : Option Addr) (pn : List (Addr × Obj)) (e : MX), X.mg e.cls = some (.ref C) → (e.cls, true) ∈ tab → L2N.Zn (.ref C) d oe → (∃ vs, oe.data = .fields vs) → PSs (X.suite a ((a, oe) :: pn)) (b₀ :: suite) (rdS (cH c i a e d) (mh e)))
      (hdb : (y == ("__debug__" : Str)) = false) (r : HdMT X c i n hds l) :
      HdMT X c i n (.ExceptHandler (some (.Name y np)) (some n) (b₀ :: suite) p :: hds) ((tab, mh) :: l)
  | two {y1 y2 : Str} {b₀ : Stmt} {suite : List Stmt} {p1 p2 tp p : Pos} {k : Nat} {hds : List ExceptHandler} {tab : List (Str × Bool)} {mh : MX → MS} {l : List (List (Str × Bool) × (MX → MS))} (hg1 : Gl X y1) (hg2 : Gl X y2) (ht : ∀ p ∈ tab, ExT2 X.K X.mg y1 y2 p.1 p.2) (hne1 : ∃ D, X.mg y1 = some (.ref D)) (hne2 : ∃ D, X.mg y2 = some (.ref D))
      (hsu : ∀ (a : Addr) (oe : Obj) (C : Addr) (d : Option Addr) (pn : List (Addr × Obj)) (e : MX), X.mg e.cls = some (.ref C) → (e.cls, true) ∈ tab → L2N.Zn (.ref C) d oe → (∃ vs, oe.data = .fields vs) → PSs (X.suite a ((a, oe) :: pn)) (b₀ :: suite) (rdS (cH c i a e d) (mh e)))
      (hdb1 : (y1 == ("__debug__" : Str)) = false) (hdb2 : (y2 == ("__debug__" : Str)) = false) (r : HdMT X c i n hds l) :
      HdMT X c i n (.ExceptHandler (some (.Tuple [.Name y1 p1, .Name y2 p2] k tp)) (some n) (b₀ :: suite) p :: hds) ((tab, mh) :: l)
section
variable {X : Cx} {c : Ct} {n : Str} {i : Nat} {body : List Stmt} {h₀ : ExceptHandler} {hds : List ExceptHandler} {pos : Pos} {mb : MS} {cs : List (List (Str × Bool) × (MX → MS))}
theorem HdMT.each (hK : c.K = X.K) (hmg : c.mg = X.mg) (hbs : c.bs.contains i = false) {hds : List ExceptHandler} {cs : List (List (Str × Bool) × (MX → MS))} (h : HdMT X c i n hds cs) :
    ∃ l, HdT X n hds l ∧ ∀ {F Hk : Hp} {bp : List (Nat × Addr)} {D : Ends} {e : MX} {ρ1 : Env}, (bp.map (·.1) = c.bs ∧ c.J F bp) → okS c F Hk bp D (handN i e ρ1 cs) →
      ∀ {Hk' H' : Hp} {σ' : L2.St} {cls : Value} {d : Option Addr}, Ex Hk Hk' → RS c.K F Hk' H' bp σ' ρ1 → ExR c.K c.mg Hk' e cls d → wEachT c.K i c.W D l cls d σ' H' := by
  induction h with
  | nil => exact ⟨[], .nil, by intro F Hk bp D e ρ1 S2 h Hk' H' σ' cls d x S1 er; exact h Hk' H' σ' cls d x S1 er⟩
  | @cons y b₀ suite np p hds tab mh l hg ht hne hsu hdb r ih =>
    obtain ⟨l', e1, e2⟩ := ih
    obtain ⟨Dy, hDy⟩ := hne
    have ht' : ∀ p ∈ tab, ∃ C, X.mg p.1 = some (.ref C) ∧ (Tst.one (.ref Dy)).ans c.K (.ref C) = some p.2 := fun p hp => by
      obtain ⟨C, D, k1, k2, k3⟩ := (ht p hp).ex
      rw [hDy] at k2
      cases k2
      exact ⟨C, k1, by rw [hK]; exact k3⟩
    refine ⟨((.one (.ref Dy)), fun a cls d D σ H => ∃ e C, X.mg e.cls = some (.ref C) ∧ cls = .ref C ∧ (e.cls, true) ∈ tab ∧ rdS (cH c i a e d) (mh e) D σ H) :: l', .cons (.one ⟨hg, hdb, .inl hDy⟩) (fun a oe cls d pn hz hv => ⟨fun pins s σ H D I ⟨e, C, h1, h2, h3, h4⟩ => (hsu a oe C d pn e h1 h3 (by rw [← h2]; exact hz) hv).run pins s σ H D I h4⟩) e1, ?_⟩
    intro F Hk bp D e ρ1 S2 h Hk' H' σ' cls d x S1 er
    exact hand1_okT hmg ht' hbs S2 h x S1 er fun hr => e2 S2 hr x S1 er
  | @two y1 y2 b₀ suite p1 p2 tp p k hds tab mh l hg1 hg2 ht hne1 hne2 hsu hdb1 hdb2 r ih =>
    obtain ⟨l', e1, e2⟩ := ih
    obtain ⟨Dy, hDy⟩ := hne1
    obtain ⟨Dz, hDz⟩ := hne2
    have ht' : ∀ p ∈ tab, ∃ C, X.mg p.1 = some (.ref C) ∧ (Tst.two (.ref Dy) (.ref Dz)).ans c.K (.ref C) = some p.2 := fun p hp => by
      obtain ⟨C, D1, D2, k1, k2, k4, k3⟩ := (ht p hp).ex
      rw [hDy] at k2
      cases k2
      rw [hDz] at k4
      cases k4
      exact ⟨C, k1, by rw [hK]; exact k3⟩
    refine ⟨((.two (.ref Dy) (.ref Dz)), fun a cls d D σ H => ∃ e C, X.mg e.cls = some (.ref C) ∧ cls = .ref C ∧ (e.cls, true) ∈ tab ∧ rdS (cH c i a e d) (mh e) D σ H) :: l', .cons (.two ⟨hg1, hdb1, .inl hDy⟩ ⟨hg2, hdb2, .inl hDz⟩) (fun a oe cls d pn hz hv => ⟨fun pins s σ H D I ⟨e, C, h1, h2, h3, h4⟩ => (hsu a oe C d pn e h1 h3 (by rw [← h2]; exact hz) hv).run pins s σ H D I h4⟩) e1, ?_⟩
    intro F Hk bp D e ρ1 S2 h Hk' H' σ' cls d x S1 er
    exact hand1_okT hmg ht' hbs S2 h x S1 er fun hr => e2 S2 hr x S1 er
end
end Tm
set_option Elab.async false
set_option linter.all false
set_option maxRecDepth 100000
set_option maxHeartbeats 2000000
namespace Tm
open PySem L2 PySem.Spec PyProof.Rows
open Evl (Ex ex_rd ex_l ex_t)
structure FnF (P : Program) (w : World) (K : PySem.W.Frag) (mg : Str → Option Value) (base : Heap) (j n : Nat) (T : List (Str × MF)) : Prop where
  ex : ∀ x f, T.lookup x = some f → ∀ a, PySem.W.nsIn K mainGlobals x = some (some (.ref a)) → ∃ j' fd ps, j' ≤ j ∧ FnOk P w K mg base (L2N.CX P w) j' a fd ps (spF K mg n [] f) ∧ PySem.W.keepIn K (.ref a) = true ∧ Binds K fd ps []
end Tm
set_option Elab.async false
set_option linter.all false
set_option maxRecDepth 100000
set_option maxHeartbeats 4000000
namespace Tm
open PySem L2
def fnNames : List Str := ["ahead_of_last", "all_or_none", "fill", "five_on", "half_up", "high_half", "lacking", "last_figure", "low_half", "lowest_two", "nine_less", "none_or_all", "not_all", "one_of_none", "one_of_two", "one_or_none", "order_byte", "other_twos", "product_byte", "sign_below", "six_on", "ten_high", "ten_low", "ten_or_none", "top_two"]
def m_lmixed : MS := mSeq (mAsg (mLst (mCons (mC (.int 2147483629)) (mCons (mC (.int 2147483587)) (mCons (mC (.int 2147483579)) (mCons (mC (.int 2147483563)) (mCons (mC (.int 2147483549)) (mCons (mC (.int 2147483543)) (mCons (mC (.int 2147483497)) (mCons (mC (.int 2147483489)) (mNil)))))))))) (gSet 3)) (mSeq (mAsg (mOp fMod (mOp fAdd (mOp fAdd (mOp fAdd (mVar 0) (mOp fMul (mC (.int 7919)) (mVar 2))) (mOp fMul (mC (.int 104729)) (mVar 1))) (mC (.int 13))) (mC (.int 2147483647))) (gSet 4)) (mSeq (mAsg (mOp fMod (mOp fPow (mVar 4) (mC (.int 5))) (mOp fIx (mVar 3) (mOp fMod (mVar 1) (mC (.int 8))))) (gSet 4)) (mSeq (mAsg (mOp fMod (mOp fAdd (mOp fAdd (mVar 4) (mOp fMul (mC (.int 40692)) (mVar 2))) (mVar 1)) (mC (.int 2147483647))) (gSet 5)) (mRet (mOp fAdd (mOp fMul (mOp fMod (mOp fPow (mVar 5) (mC (.int 5))) (mC (.int 2147483647))) (mC (.int 1000000007))) (mVar 4))))))
def f_lmixed : MF := mFn 6 [] m_lmixed
def b_ldraws_0 : MS := mIfS (mTest (mOp fGt (mVar 4) (mC (.int 0)))) (mSeq (mDrop (mLm lmAppend 3 (mCons (mOp fMod (mVar 4) (mOp fIx (mVar 2) (mVar 5))) (mNil)))) (mAsg (mOp fDiv (mVar 4) (mOp fIx (mVar 2) (mVar 5))) (gSet 4))) (mDrop (mLm lmAppend 3 (mCons (mOp fMod (mFz (mCall f_lmixed (mCons (mVar 0) (mCons (mVar 5) (mCons (mVar 1) (mNil)))))) (mOp fIx (mVar 2) (mVar 5))) (mNil))))
def m_ldraws : MS := mSeq (mSetO 3 (mLstO (mNil))) (mSeq (mAsg (mC (.int 0)) (gSet 4)) (mSeq (mIfS (mTest (mOp fGe (mBlt bAbs (mCons (mVar 0) (mNil))) (mOp fPow (mC (.int 10)) (mC (.int 18))))) (mAsg (mBlt bAbs (mCons (mVar 0) (mNil))) (gSet 4)) (mPass)) (mSeq (mFor (mR1 (mCons (mBlt bLen (mCons (mVar 2) (mNil))) (mNil))) (gSet 5) (b_ldraws_0)) (mRet (mMove 3)))))
def f_ldraws : MF := mFn 6 [] m_ldraws
def m_lcell : MS := mSeq (mIfS (mTest (mOp fLt (mVar 1) (mBlt bLen (mCons (mVar 0) (mNil))))) (mRet (mOp fIx (mVar 0) (mVar 1))) (mPass)) (mSeq (mIfS (mTest (mOp fEq (mBlt bLen (mCons (mVar 0) (mNil))) (mC (.int 0)))) (mRet (mOp fMul (mC (.int 7919)) (mOp fAdd (mVar 1) (mC (.int 1))))) (mPass)) (mRet (mOp fAdd (mOp fIx (mVar 0) (mOp fMod (mVar 1) (mBlt bLen (mCons (mVar 0) (mNil))))) (mOp fMul (mC (.int 104729)) (mVar 1)))))
def f_lcell : MF := mFn 2 [] m_lcell
def b_lpower_0 : MS := mAsg (mOp fMul (mVar 2) (mVar 0)) (gSet 2)
def m_lpower : MS := mSeq (mAsg (mC (.int 1)) (gSet 2)) (mSeq (mFor (mR1 (mCons (mVar 1) (mNil))) (gSet 3) (b_lpower_0)) (mRet (mVar 2)))
def f_lpower : MF := mFn 4 [] m_lpower
def m_lends : MS := mSeq (mAsg (mFz (mCall f_lpower (mCons (mC (.int 10)) (mCons (mOp fIx (mVar 0) (mC (.int 1))) (mNil))))) (gSet 1)) (mSeq (mIfS (mTest (mOp fEq (mOp fIx (mVar 0) (mC (.int 2))) (mC (.str "none")))) (mRet (mTup (mCons (mC (.int 0)) (mCons (mOp fSub (mVar 1) (mC (.int 1))) (mNil))))) (mPass)) (mSeq (mIfS (mTest (mOp fEq (mOp fIx (mVar 0) (mC (.int 2))) (mC (.str "end")))) (mRet (mTup (mCons (mOp fSub (mC (.int 1)) (mVar 1)) (mCons (mOp fSub (mVar 1) (mC (.int 1))) (mNil))))) (mPass)) (mRet (mTup (mCons (mOp fSub (mC (.int 0)) (mOp fDiv (mVar 1) (mC (.int 2)))) (mCons (mOp fSub (mOp fDiv (mVar 1) (mC (.int 2))) (mC (.int 1))) (mNil)))))))
def f_lends : MF := mFn 2 [] m_lends
def b_ppower_0 : MS := mAsg (mOp fMul (mVar 2) (mVar 0)) (gSet 2)
def m_ppower : MS := mSeq (mAsg (mC (.int 1)) (gSet 2)) (mSeq (mFor (mR1 (mCons (mVar 1) (mNil))) (gSet 3) (b_ppower_0)) (mRet (mVar 2)))
def f_ppower : MF := mFn 4 [] m_ppower
def m_pleast_of : MS := mSeq (mIfS (mTest (mOp fEq (mOp fIx (mVar 0) (mC (.int 2))) (mC (.str "none")))) (mRet (mC (.int 0))) (mPass)) (mSeq (mIfS (mTest (mOp fEq (mOp fIx (mVar 0) (mC (.int 2))) (mC (.str "end")))) (mRet (mOp fSub (mC (.int 1)) (mFz (mCall f_ppower (mCons (mC (.int 10)) (mCons (mOp fIx (mVar 0) (mC (.int 1))) (mNil))))))) (mPass)) (mRet (mOp fMul (mUn fNeg (mC (.int 5))) (mFz (mCall f_ppower (mCons (mC (.int 10)) (mCons (mOp fSub (mOp fIx (mVar 0) (mC (.int 1))) (mC (.int 1))) (mNil))))))))
def f_pleast_of : MF := mFn 1 [] m_pleast_of
def m_lform : MS := mSeq (mAsg (mOp fMod (mOp fAdd (mOp fAdd (mOp fMul (mC (.int 7)) (mVar 1)) (mOp fMul (mC (.int 3)) (mVar 0))) (mVar 2)) (mOp fAdd (mVar 1) (mC (.int 2)))) (gSet 3)) (mRet (mTup (mCons (mOp fIx (mLst (mCons (mC (.str "packed")) (mCons (mC (.str "spread")) (mNil)))) (mVar 0)) (mCons (mOp fAdd (mC (.int 1)) (mVar 1)) (mCons (mOp fIx (mLst (mCons (mC (.str "none")) (mCons (mC (.str "end")) (mCons (mC (.str "tens")) (mNil))))) (mVar 2)) (mCons (mVar 3) (mNil)))))))
def f_lform : MF := mFn 4 [] m_lform
def m_lwhole : MS := mRet (mBv (mAndT (mTest (mBlt bIsi (mCons (mVar 0) (mCons (mC (.raw (.ty "int"))) mNil)))) (mTest (mBv (mNotT (mTest (mBlt bIsi (mCons (mVar 0) (mCons (mC (.raw (.ty "bool"))) mNil)))))))))
def f_lwhole : MF := mFn 1 [] m_lwhole
def m_pmost_of : MS := mSeq (mIfS (mTest (mOp fEq (mOp fIx (mVar 0) (mC (.int 2))) (mC (.str "tens")))) (mRet (mOp fSub (mOp fMul (mC (.int 5)) (mFz (mCall f_ppower (mCons (mC (.int 10)) (mCons (mOp fSub (mOp fIx (mVar 0) (mC (.int 1))) (mC (.int 1))) (mNil)))))) (mC (.int 1)))) (mPass)) (mRet (mOp fSub (mFz (mCall f_ppower (mCons (mC (.int 10)) (mCons (mOp fIx (mVar 0) (mC (.int 1))) (mNil))))) (mC (.int 1))))
def f_pmost_of : MF := mFn 1 [] m_pmost_of
def m_lnumber : MS := mSeq (mAsg (mFz (mCall f_lends (mCons (mVar 0) (mNil)))) (gTp 2 (gsCons (gSet 6) (gsCons (gSet 7) (gsNil))))) (mSeq (mIfS (mTest (mOp fGt (mVar 1) (mC (.int 9)))) (mRet (mOp fAdd (mVar 6) (mOp fMod (mVar 2) (mOp fAdd (mOp fSub (mVar 7) (mVar 6)) (mC (.int 1)))))) (mPass)) (mSeq (mAsg (mFz (mCall f_lpower (mCons (mC (.int 10)) (mCons (mOp fMod (mVar 2) (mOp fIx (mVar 0) (mC (.int 1)))) (mNil))))) (gSet 3)) (mSeq (mSetO 4 (mLstO (mCons (mC (.int 0)) (mCons (mC (.int 1)) (mCons (mVar 7) (mCons (mVar 6) (mCons (mVar 3) (mCons (mOp fSub (mVar 3) (mC (.int 1))) (mCons (mOp fMul (mC (.int 5)) (mVar 3)) (mCons (mOp fMul (mC (.int 9)) (mVar 3)) (mCons (mOp fAdd (mVar 3) (mC (.int 1))) (mNil)))))))))))) (mSeq (mDrop (mLm lmAppend 4 (mCons (mOp fMod (mOp fDiv (mVar 2) (mC (.int 16))) (mOp fMul (mC (.int 10)) (mVar 3))) (mNil)))) (mSeq (mAsg (mIxV 4 (mVar 1)) (gSet 5)) (mSeq (mIfS (mAndT (mTest (mOp fLt (mVar 6) (mC (.int 0)))) (mTest (mOp fEq (mOp fMod (mOp fDiv (mVar 2) (mC (.int 13))) (mC (.int 2))) (mC (.int 1))))) (mAsg (mOp fSub (mC (.int 0)) (mVar 5)) (gSet 5)) (mPass)) (mRet (mBlt bMax (mCons (mVar 6) (mCons (mBlt bMin (mCons (mVar 7) (mCons (mVar 5) (mNil)))) (mNil)))))))))))
def f_lnumber : MF := mFn 8 [] m_lnumber
def m_pfits : MS := mRet (mChain fLe fLe (mFz (mCall f_pleast_of (mCons (mVar 0) (mNil)))) (mVar 1) (mFz (mCall f_pmost_of (mCons (mVar 0) (mNil)))))
def f_pfits : MF := mFn 2 [] m_pfits
def b_lfigures_text_0 : MS := mSeq (mAsg (mOp fAdd (mOp fIx (mC (.str "0123456789")) (mOp fMod (mVar 0) (mC (.int 10)))) (mVar 2)) (gSet 2)) (mAsg (mOp fDiv (mVar 0) (mC (.int 10))) (gSet 0))
def m_lfigures_text : MS := mSeq (mAsg (mC (.str "")) (gSet 2)) (mSeq (mFor (mR1 (mCons (mVar 1) (mNil))) (gSet 3) (b_lfigures_text_0)) (mRet (mVar 2)))
def f_lfigures_text : MF := mFn 4 [] m_lfigures_text
def b_lvalue_0 : MS := mAsg (mOp fAdd (mOp fMul (mC (.int 10)) (mVar 1)) (mSm smIndex (mC (.str "0123456789")) (mCons (mVar 2) (mNil)))) (gSet 1)
def m_lvalue : MS := mSeq (mAsg (mC (.int 0)) (gSet 1)) (mSeq (mFor (mItV (mVar 0)) (gSet 2) (b_lvalue_0)) (mRet (mVar 1)))
def f_lvalue : MF := mFn 3 [] m_lvalue
def m_lfits : MS := mSeq (mAsg (mFz (mCall f_lends (mCons (mVar 0) (mNil)))) (gTp 2 (gsCons (gSet 2) (gsCons (gSet 3) (gsNil))))) (mRet (mChain fLe fLe (mVar 2) (mVar 1) (mVar 3)))
def f_lfits : MF := mFn 4 [] m_lfits
def m_lis_figures : MS := mRet (mBv (mAndT (mTest (mChain fLt fLt (mC (.int 0)) (mBlt bLen (mCons (mVar 0) (mNil))) (mC (.int 31)))) (mTest (mBlt bAll (mCons (mFz (mLcO (mItV (mVar 0)) (.nm 1) (mYes) (mOp fIn (mVar 1) (mC (.str "0123456789"))) [1])) (mNil))))))
def f_lis_figures : MF := mFn 2 [] m_lis_figures
def m_lreading : MS := mSeq (mAsg (mOp fEq (mSl (mVar 1) (mNo) (mPart (mC (.int 1)))) (mC (.str "-"))) (gSet 2)) (mSeq (mAsg (mSm smSplit (mSl (mVar 1) (mPart (mBlt bInt (mCons (mVar 2) (mNil)))) (mNo)) (mCons (mC (.str ".")) (mNil))) (gSet 3)) (mSeq (mIfS (mOrT (mTest (mOp fGt (mBlt bLen (mCons (mVar 3) (mNil))) (mC (.int 2)))) (mNotT (mTest (mBlt bAll (mCons (mFz (mLcO (mItV (mVar 3)) (.nm 6) (mYes) (mFz (mCall0 f_lis_figures (mCons (mVar 6) (mNil)))) [6])) (mNil)))))) (mRet (mTup (mCons (mC (.str "text")) (mCons (mC (.int 0)) (mNil))))) (mPass)) (mSeq (mAsg (mOp fMul (mFz (mCall f_lvalue (mCons (mSm smJoin (mC (.str "")) (mCons (mVar 3) (mNil))) (mNil)))) (mFz (mCall f_lpower (mCons (mC (.int 10)) (mCons (mOp fIx (mVar 0) (mC (.int 3))) (mNil)))))) (gSet 4)) (mSeq (mAsg (mFz (mCall f_lpower (mCons (mC (.int 10)) (mCons (mBlt bLen (mCons (mSm smJoin (mC (.str "")) (mCons (mSl (mVar 3) (mPart (mC (.int 1))) (mNo)) (mNil))) (mNil))) (mNil))))) (gSet 5)) (mSeq (mIfS (mTest (mOp fGt (mOp fMod (mVar 4) (mVar 5)) (mC (.int 0)))) (mRet (mTup (mCons (mC (.str "fit")) (mCons (mC (.int 0)) (mNil))))) (mPass)) (mSeq (mAsg (mOp fMul (mOp fDiv (mVar 4) (mVar 5)) (mOp fSub (mC (.int 1)) (mOp fMul (mC (.int 2)) (mBlt bInt (mCons (mVar 2) (mNil)))))) (gSet 4)) (mSeq (mIfS (mNotT (mTest (mFz (mCall f_lfits (mCons (mVar 0) (mCons (mVar 4) (mNil))))))) (mRet (mTup (mCons (mC (.str "fit")) (mCons (mC (.int 0)) (mNil))))) (mPass)) (mRet (mTup (mCons (mC (.str "number")) (mCons (mVar 4) (mNil))))))))))))
def f_lreading : MF := mFn 7 [] m_lreading
def m_lsign : MS := mSeq (mIfS (mTest (mOp fLt (mVar 0) (mC (.int 3)))) (mRet (mOp fIx (mC (.str " -.0123456789")) (mOp fMod (mVar 1) (mC (.int 13))))) (mPass)) (mSeq (mAsg (mC (.str " !\"#$&'()*+,-./0123456789:;<=>?@ABCDEFGHIJKLMNOPQRSTUVWXYZ[\\]^_`abcdefghijklmnopqrstuvwxyz{|}~")) (gSet 2)) (mRet (mOp fIx (mVar 2) (mOp fMod (mVar 1) (mBlt bLen (mCons (mVar 2) (mNil)))))))
def f_lsign : MF := mFn 3 [] m_lsign
def m_lspoilt : MS := mSeq (mAsg (mOp fMod (mOp fIx (mVar 1) (mC (.int 0))) (mOp fAdd (mBlt bLen (mCons (mVar 0) (mNil))) (mC (.int 1)))) (gSet 2)) (mSeq (mAsg (mFz (mCall f_lsign (mCons (mOp fIx (mVar 1) (mC (.int 1))) (mCons (mOp fIx (mVar 1) (mC (.int 2))) (mNil))))) (gSet 3)) (mSeq (mIfS (mTest (mOp fEq (mOp fIx (mVar 1) (mC (.int 3))) (mC (.int 0)))) (mRet (mOp fAdd (mOp fAdd (mSl (mVar 0) (mNo) (mPart (mVar 2))) (mVar 3)) (mSl (mVar 0) (mPart (mVar 2)) (mNo)))) (mPass)) (mSeq (mIfS (mTest (mOp fEq (mOp fIx (mVar 1) (mC (.int 3))) (mC (.int 1)))) (mRet (mOp fAdd (mOp fAdd (mSl (mVar 0) (mNo) (mPart (mVar 2))) (mVar 3)) (mSl (mVar 0) (mPart (mOp fAdd (mVar 2) (mC (.int 1)))) (mNo)))) (mPass)) (mSeq (mIfS (mTest (mOp fEq (mOp fIx (mVar 1) (mC (.int 3))) (mC (.int 2)))) (mRet (mOp fAdd (mSl (mVar 0) (mNo) (mPart (mVar 2))) (mSl (mVar 0) (mPart (mOp fAdd (mVar 2) (mC (.int 1)))) (mNo)))) (mPass)) (mRet (mC (.str "")))))))
def f_lspoilt : MF := mFn 4 [] m_lspoilt
def m_pis_figures : MS := mRet (mBv (mAndT (mTest (mChain fLt fLe (mC (.int 0)) (mBlt bLen (mCons (mVar 0) (mNil))) (mC (.int 30)))) (mTest (mBlt bAll (mCons (mFz (mLcO (mItV (mVar 0)) (.nm 1) (mYes) (mOp fIn (mVar 1) (mC (.str "0123456789"))) [1])) (mNil))))))
def f_pis_figures : MF := mFn 2 [] m_pis_figures
def m_pparts_of : MS := mSeq (mAsg (mSm smPartition (mVar 0) (mCons (mC (.str ".")) (mNil))) (gTp 3 (gsCons (gSet 1) (gsCons (gSet 2) (gsCons (gSet 3) (gsNil)))))) (mSeq (mIfS (mOrT (mNotT (mTest (mFz (mCall f_pis_figures (mCons (mVar 1) (mNil)))))) (mAndT (mTest (mOp fEq (mVar 2) (mC (.str ".")))) (mNotT (mTest (mFz (mCall f_pis_figures (mCons (mVar 3) (mNil)))))))) (mRaise0 "NoText") (mPass)) (mRet (mTup (mCons (mVar 1) (mCons (mVar 3) (mNil))))))
def f_pparts_of : MF := mFn 4 [] m_pparts_of
def m_ptold : MS := mSeq (mAsg (mSl (mVar 1) (mPart (mBlt bInt (mCons (mOp fEq (mSl (mVar 1) (mNo) (mPart (mC (.int 1)))) (mC (.str "-"))) (mNil)))) (mNo)) (gSet 2)) (mSeq (mAsg (mFz (mCall f_pparts_of (mCons (mVar 2) (mNil)))) (gTp 2 (gsCons (gSet 5) (gsCons (gSet 6) (gsNil))))) (mSeq (mAsg (mOp fMul (mBlt bInt (mCons (mOp fAdd (mVar 5) (mVar 6)) (mNil))) (mFz (mCall f_ppower (mCons (mC (.int 10)) (mCons (mOp fIx (mVar 0) (mC (.int 3))) (mNil)))))) (gSet 3)) (mSeq (mAsg (mFz (mCall f_ppower (mCons (mC (.int 10)) (mCons (mBlt bLen (mCons (mVar 6) (mNil))) (mNil))))) (gSet 4)) (mSeq (mIfS (mTest (mOp fNe (mOp fMod (mVar 3) (mVar 4)) (mC (.int 0)))) (mRaise1 "NoFit" "number" (mVar 1)) (mPass)) (mSeq (mAsg (mOp fDiv (mVar 3) (mVar 4)) (gSet 3)) (mSeq (mIfS (mTest (mOp fNe (mVar 2) (mVar 1))) (mAsg (mUn fNeg (mVar 3)) (gSet 3)) (mPass)) (mSeq (mIfS (mNotT (mTest (mFz (mCall f_pfits (mCons (mVar 0) (mCons (mVar 3) (mNil))))))) (mRaise1 "NoFit" "number" (mVar 1)) (mPass)) (mRet (mVar 3)))))))))
def f_ptold : MF := mFn 7 [] m_ptold
def b_lseen_0 : MS := mAsg (mTup (mCons (mC (.str "number")) (mCons (mFz (mCall f_ptold (mCons (mVar 0) (mCons (mVar 1) (mNil))))) (mNil)))) (gSet 2)
def m_lseen : MS := mSeq (mAsg (mC .non) (gSet 2)) (mSeq (mTryN 3 [([("NoFit", false), ("NoText", true)], fun ex => mAsg (mTup (mCons (mC (.str "text")) (mCons (mBlt bInt (mCons (mBv (mOrT (mTest (mExIs ex [("NoText", false)])) (mTest (mBv (mNotT (mTest (mExIs ex [("NoText", true)]))))))) (mNil))) (mNil)))) (gSet 2)), ([("NoFit", true)], fun ex => mAsg (mTup (mCons (mC (.str "fit")) (mCons (mBlt bInt (mCons (mBv (mOrT (mTest (mExIs ex [("NoFit", false)])) (mTest (mOp fNe (mExF ex "number") (mVar 1))))) (mNil))) (mNil)))) (gSet 2))] (b_lseen_0)) (mRet (mVar 2)))
def f_lseen : MF := mFn 4 [] m_lseen
def m_lform2 : MS := mSeq (mAsg (mOp fMod (mOp fAdd (mOp fAdd (mOp fMul (mC (.int 7)) (mVar 1)) (mOp fMul (mC (.int 3)) (mVar 0))) (mVar 2)) (mOp fAdd (mVar 1) (mC (.int 2)))) (gSet 3)) (mRet (mTup (mCons (mOp fIx (mLst (mCons (mC (.str "packed")) (mCons (mC (.str "spread")) (mNil)))) (mVar 0)) (mCons (mOp fAdd (mC (.int 1)) (mVar 1)) (mCons (mOp fIx (mLst (mCons (mC (.str "none")) (mCons (mC (.str "end")) (mCons (mC (.str "tens")) (mNil))))) (mVar 2)) (mCons (mVar 3) (mNil)))))))
def f_lform2 : MF := mFn 4 [] m_lform2
def b_law15_0 : MS := mSeq (mAsg (mFz (mCall f_lseen (mCons (mVar 4) (mCons (mVar 11) (mNil))))) (gSet 14)) (mIfS (mOrT (mTest (mOp fNe (mVar 14) (mVar 12))) (mNotT (mTest (mFz (mCall f_lwhole (mCons (mOp fIx (mVar 14) (mC (.int 1))) (mNil))))))) (mRet (mC (.bl false))) (mPass))
def b_law15_1 : MS := mSeq (mAsg (mLst (mCons (mC (.int 2)) (mCons (mC (.int 12)) (mCons (mC (.int 3)) (mCons (mC (.int 13)) (mCons (mC (.int 16)) (mCons (mOp fPow (mC (.int 10)) (mC (.int 14))) (mCons (mC (.int 4)) (mCons (mC (.int 6)) (mCons (mC (.int 2)) (mCons (mC (.int 2)) (mCons (mOp fPow (mC (.int 10)) (mC (.int 34))) (mCons (mC (.int 35)) (mCons (mC (.int 35)) (mCons (mC (.int 97)) (mCons (mC (.int 6)) (mCons (mC (.int 95)) (mCons (mC (.int 4)) (mCons (mC (.int 2)) (mNil)))))))))))))))))))) (gSet 2)) (mSeq (mAsg (mFz (mCall f_ldraws (mCons (mFz (mCall f_lcell (mCons (mVar 0) (mCons (mVar 1) (mNil))))) (mCons (mOp fAdd (mC (.int 31)) (mVar 1)) (mCons (mVar 2) (mNil)))))) (gSet 3)) (mSeq (mAsg (mOp fAdd (mSl (mFz (mCall f_lform2 (mCons (mOp fIx (mVar 3) (mC (.int 0))) (mCons (mOp fIx (mVar 3) (mC (.int 1))) (mCons (mOp fIx (mVar 3) (mC (.int 2))) (mNil)))))) (mNo) (mPart (mC (.int 3)))) (mTup (mCons (mOp fMod (mOp fIx (mVar 3) (mC (.int 3))) (mOp fAdd (mC (.int 2)) (mOp fIx (mVar 3) (mC (.int 1))))) (mNil)))) (gSet 4)) (mSeq (mAsg (mBlt bAbs (mCons (mFz (mCall f_lnumber (mCons (mVar 4) (mCons (mOp fIx (mVar 3) (mC (.int 4))) (mCons (mOp fIx (mVar 3) (mC (.int 5))) (mNil)))))) (mNil))) (gSet 5)) (mSeq (mAsg (mBlt bLen (mCons (mBlt bStr (mCons (mVar 5) (mNil))) (mNil))) (gSet 6)) (mSeq (mAsg (mFz (mCall f_lpower (mCons (mC (.int 10)) (mCons (mOp fIx (mVar 4) (mC (.int 3))) (mNil))))) (gSet 7)) (mSeq (mAsg (mOp fAdd (mBlt bMax (mCons (mC (.int 1)) (mCons (mOp fSub (mVar 6) (mOp fIx (mVar 4) (mC (.int 3)))) (mNil)))) (mOp fMod (mOp fIx (mVar 3) (mC (.int 6))) (mC (.int 3)))) (gSet 8)) (mSeq (mAsg (mFz (mCall f_lfigures_text (mCons (mOp fDiv (mVar 5) (mVar 7)) (mCons (mVar 8) (mNil))))) (gSet 9)) (mSeq (mAsg (mFz (mCall f_lfigures_text (mCons (mOp fMod (mVar 5) (mVar 7)) (mCons (mOp fIx (mVar 4) (mC (.int 3))) (mNil))))) (gSet 10)) (mSeq (mAsg (mVar 9) (gSet 11)) (mSeq (mIfS (mTest (mOp fGt (mOp fIx (mVar 4) (mC (.int 3))) (mC (.int 0)))) (mAsg (mOp fAdd (mOp fAdd (mOp fAdd (mVar 9) (mC (.str "."))) (mVar 10)) (mOp fMul (mC (.str "0")) (mOp fIx (mVar 3) (mC (.int 7))))) (gSet 11)) (mPass)) (mSeq (mIfS (mTest (mOp fEq (mOp fIx (mVar 3) (mC (.int 6))) (mC (.int 3)))) (mSeq (mAsg (mOp fAdd (mFz (mCall f_lfigures_text (mCons (mOp fIx (mVar 3) (mC (.int 10))) (mCons (mOp fIx (mVar 3) (mC (.int 11))) (mNil))))) (mOp fIx (mLst (mCons (mC (.str ".")) (mCons (mC (.str "")) (mNil)))) (mOp fIx (mVar 3) (mC (.int 17))))) (gSet 11)) (mAsg (mOp fAdd (mVar 11) (mFz (mCall f_lfigures_text (mCons (mOp fIx (mVar 3) (mC (.int 10))) (mCons (mOp fIx (mVar 3) (mC (.int 12))) (mNil)))))) (gSet 11))) (mPass)) (mSeq (mIfS (mTest (mOp fEq (mOp fIx (mVar 3) (mC (.int 8))) (mC (.int 1)))) (mAsg (mOp fAdd (mC (.str "-")) (mVar 11)) (gSet 11)) (mPass)) (mSeq (mIfS (mTest (mOp fEq (mOp fIx (mVar 3) (mC (.int 9))) (mC (.int 1)))) (mAsg (mFz (mCall f_lspoilt (mCons (mVar 11) (mCons (mSl (mVar 3) (mPart (mC (.int 13))) (mNo)) (mNil))))) (gSet 11)) (mPass)) (mSeq (mAsg (mFz (mCall f_lreading (mCons (mVar 4) (mCons (mVar 11) (mNil))))) (gSet 12)) (mFor (mR1 (mCons (mC (.int 2)) (mNil))) (gSet 13) (b_law15_0))))))))))))))))
def m_law15 : MS := mSeq (mFor (mR1 (mCons (mC (.int 8)) (mNil))) (gSet 1) (b_law15_1)) (mRet (mC (.bl true)))
def f_law15 : MF := mFn 15 [] m_law15
theorem lcell_ok (ns : List Int) (k : Nat) : ∃ v : Int, f_lcell [.scr ns, .int k] = .ok (.int v, []) := by
  unfold f_lcell
  by_cases h : (k : Int) < ns.length
  · have h' : k < ns.length := by omega
    refine ⟨ns[k], mFn_ok ?_⟩
    simp [m_lcell, h', atI_ge]
  · by_cases h0 : ns.length = 0
    · have h' : ns = [] := List.length_eq_zero_iff.mp h0
      subst h'
      refine ⟨7919 * (k + 1), mFn_ok ?_⟩
      simp [m_lcell, mulOk_l]
    · have h' : ¬ k < ns.length := by omega
      have hp : (0 : Int) < ns.length := by omega
      have e := fmod_ge' (a := k) hp
      have e2 := fmod_lt' (a := k) hp
      have h2 : ((k : Int).fmod ns.length).toNat < ns.length := by omega
      have h3 : ¬ ns = [] := by intro h; subst h; exact h0 rfl
      have h4 : ¬ ((ns.length : Int) = 0) := by omega
      refine ⟨ns[((k : Int).fmod ns.length).toNat] + 104729 * k, mFn_ok ?_⟩
      simp [m_lcell, h', h3, h4, atI_ge e, h2, mulOk_l]
theorem lmixed_ok (a b c : Int) : ∃ v : Int, f_lmixed [.int a, .int b, .int c] = .ok (.int v, []) := by
  unfold f_lmixed
  have e := fmod_ge' (a := b) (b := 8) (by decide)
  have e2 := fmod_lt' (a := b) (b := 8) (by decide)
  generalize hi : b.fmod 8 = i at e e2
  obtain ⟨p, hp, hp1, hp2⟩ : ∃ p : Int, atI [MV.int 2147483629, .int 2147483587, .int 2147483579, .int 2147483563, .int 2147483549, .int 2147483543, .int 2147483497, .int 2147483489] i = some (.int p) ∧ 0 < p ∧ p < 2147483648 := by
    obtain ⟨j, rfl⟩ := Int.eq_ofNat_of_zero_le e
    match j, e2 with
    | 0, _ => exact ⟨_, rfl, by decide, by decide⟩
    | 1, _ => exact ⟨_, rfl, by decide, by decide⟩
    | 2, _ => exact ⟨_, rfl, by decide, by decide⟩
    | 3, _ => exact ⟨_, rfl, by decide, by decide⟩
    | 4, _ => exact ⟨_, rfl, by decide, by decide⟩
    | 5, _ => exact ⟨_, rfl, by decide, by decide⟩
    | 6, _ => exact ⟨_, rfl, by decide, by decide⟩
    | 7, _ => exact ⟨_, rfl, by decide, by decide⟩
    | j + 8, h => exact absurd h (by omega)
  have b1 : ∀ x : Int, 0 ≤ x.fmod 2147483647 ∧ x.fmod 2147483647 < 2147483647 := fun x => ⟨fmod_ge' (by decide), fmod_lt' (by decide)⟩
  have b2 : ∀ x : Int, (x.fmod 2147483647).natAbs < 18446744073709551616 := fun x => by have := b1 x; omega
  have b3 : ∀ x : Int, mulOk (x.fmod 2147483647) 1000000007 = true := fun x => mulOk_r (by decide) (by decide)
  have h : ∃ v ρ, m_lmixed [some (.int a), some (.int b), some (.int c), none, none, none] = .ok (.rt (.int v), ρ) := by
    simp [m_lmixed, szOk_small, mulOk_l, hi, hp, hp1, Int.ne_of_gt hp1, b2, b3]
  obtain ⟨v, ρ, h⟩ := h
  exact ⟨v, mFn_ok ⟨ρ, h⟩⟩
def DrawsAre (ws ds : List Int) : Prop := ds.length = ws.length ∧ ∀ i (h : i < ws.length) (h' : i < ds.length), 0 ≤ ds[i] ∧ ds[i] < ws[i]
theorem ldraws_ok (cell salt : Int) (ws : List Int) (hn : ws.length < 1000) (hw : ∀ w ∈ ws, 0 < w ∧ divOk w = true) : ∃ ds : List Int, DrawsAre ws ds ∧ f_ldraws [.int cell, .int salt, .lst (ws.map .int)] = .ok (.own (ds.map .int), []) := by
  have key : ∀ l0 : Int, ∃ ρ', mLoop (gSet 5) b_ldraws_0 (rngM 0 1 ws.length) [some (.int cell), some (.int salt), some (.lst (ws.map .int)), some (.own []), some (.int l0), none] = .ok (.nx, ρ') ∧ ∃ ds l v, DrawsAre (ws.take ws.length) ds ∧ ρ' = [some (.int cell), some (.int salt), some (.lst (ws.map .int)), some (.own (ds.map .int)), some (.int l), v] := by
    intro l0
    refine loop_rng (fun i ρ => ∃ ds l v, DrawsAre (ws.take i) ds ∧ ρ = [some (.int cell), some (.int salt), some (.lst (ws.map .int)), some (.own (ds.map .int)), some (.int l), v]) ⟨[], l0, none, ⟨by simp, by simp⟩, rfl⟩ ?_
    rintro i ρ hi ⟨ds, l, v, ⟨hd1, hd2⟩, rfl⟩
    have hwi := hw ws[i] (List.getElem_mem hi)
    have hl : ds.length = i := by rw [hd1, List.length_take]; omega
    have ix : atI (ws.map MV.int) (i : Int) = some (.int ws[i]) := by rw [atI_ge (by omega)]; simp [hi]
    have ds' : ∀ d : Int, DrawsAre (ws.take (i + 1)) (ds ++ [d.fmod ws[i]]) := by
      intro d
      refine ⟨by simp [hl, List.length_take]; omega, fun j h h' => ?_⟩
      have hj : j ≤ i := by rw [List.length_take] at h; omega
      rw [List.getElem_take]
      by_cases e : j = i
      · subst e
        rw [List.getElem_append_right (by omega)]
        simp [hl]
        exact ⟨fmod_ge' hwi.1, fmod_lt' hwi.1⟩
      · have := hd2 j (by rw [List.length_take]; omega) (by omega)
        rw [List.getElem_append_left (by omega)]
        rw [List.getElem_take] at this
        exact this
    have hsz : ds.length < sizeLine := by rw [sizeLine_eq]; omega
    by_cases hp : 0 < l
    · refine ⟨[some (.int cell), some (.int salt), some (.lst (ws.map .int)), some (.own (ds.map .int)), some (.int l), some (.int i)], [some (.int cell), some (.int salt), some (.lst (ws.map .int)), some (.own ((ds ++ [l.fmod ws[i]]).map .int)), some (.int (l.fdiv ws[i])), some (.int i)], ?_, .inl ?_, ⟨_, _, _, ds' l, rfl⟩⟩
      · simp
      · simp [b_ldraws_0, hp, isOwn, ix, Int.ne_of_gt hwi.1, hsz, hwi.2]
    · obtain ⟨m, hm⟩ := lmixed_ok cell i salt
      refine ⟨[some (.int cell), some (.int salt), some (.lst (ws.map .int)), some (.own (ds.map .int)), some (.int l), some (.int i)], [some (.int cell), some (.int salt), some (.lst (ws.map .int)), some (.own ((ds ++ [m.fmod ws[i]]).map .int)), some (.int l), some (.int i)], ?_, .inl ?_, ⟨_, _, _, ds' m, rfl⟩⟩
      · simp
      · simp [b_ldraws_0, hp, isOwn, ix, hm, Int.ne_of_gt hwi.1, hsz]
  have e0 : inR (ws.length : Int) = true := inR_of (by omega) (by omega)
  unfold f_ldraws
  by_cases hc : (1000000000000000000 : Int) ≤ (if cell < 0 then -cell else cell)
  · obtain ⟨ρ', h, ds, l, v, hd, rfl⟩ := key (if cell < 0 then -cell else cell)
    refine ⟨ds, by simpa using hd, mFn_ok ?_⟩
    · simp [m_ldraws, szOk_small, hc, e0, h]
  · obtain ⟨ρ', h, ds, l, v, hd, rfl⟩ := key 0
    refine ⟨ds, by simpa using hd, mFn_ok ?_⟩
    · simp [m_ldraws, szOk_small, hc, e0, h]
theorem draws_nil {ds : List Int} : DrawsAre [] ds ↔ ds = [] := by
  constructor
  · intro h; exact List.length_eq_zero_iff.mp h.1
  · rintro rfl; exact ⟨rfl, by simp⟩
theorem draws_cons {w : Int} {ws ds : List Int} : DrawsAre (w :: ws) ds ↔ ∃ d r, ds = d :: r ∧ (0 ≤ d ∧ d < w) ∧ DrawsAre ws r := by
  constructor
  · intro h
    match ds, h with
    | [], h => exact absurd h.1 (by simp)
    | d :: r, h =>
      refine ⟨d, r, rfl, h.2 0 (by simp) (by simp), by simpa using h.1, fun i h1 h2 => ?_⟩
      exact h.2 (i + 1) (by simpa using h1) (by simpa using h2)
  · rintro ⟨d, r, rfl, h1, h2⟩
    refine ⟨by simpa using h2.1, fun i a b => ?_⟩
    match i with
    | 0 => exact h1
    | i + 1 => exact h2.2 i (by simpa using a) (by simpa using b)
theorem ppower_eq {b : Int} {k : Int} (hb : -(2 ^ 64) < b ∧ b < 2 ^ 64) (hk : k < 2 ^ 40) (hk0 : -(2 ^ 40) < k) : f_ppower [.int b, .int k] = .ok (.int (b ^ k.toNat), []) := by
  obtain ⟨ρ', e, h⟩ := loop_rng (g := gSet 3) (b := b_ppower_0) (lo := 0) (c := 1) (n := k.toNat) (ρ := [some (.int b), some (.int k), some (.int 1), none])
    (fun i ρ => ∃ v, ρ = [some (.int b), some (.int k), some (.int (b ^ i)), v]) ⟨none, by simp⟩ (by
      rintro i ρ hi ⟨v, rfl⟩
      simp [mulOk_r hb.1 hb.2, Int.pow_succ, b_ppower_0])
  obtain ⟨v, rfl⟩ := h
  refine mFn_ok ?_
  simp [m_ppower, inR_of (i := k) (by omega) (by omega), e]
theorem pten_eq {k : Int} (hk : k < 2 ^ 40) (hk0 : -(2 ^ 40) < k) : f_ppower [.int 10, .int k] = .ok (.int (10 ^ k.toNat), []) := ppower_eq (by decide) hk hk0
theorem lpower_eq {b : Int} {k : Int} (hb : -(2 ^ 64) < b ∧ b < 2 ^ 64) (hk : k < 2 ^ 40) (hk0 : -(2 ^ 40) < k) : f_lpower [.int b, .int k] = .ok (.int (b ^ k.toNat), []) := by
  obtain ⟨ρ', e, h⟩ := loop_rng (g := gSet 3) (b := b_lpower_0) (lo := 0) (c := 1) (n := k.toNat) (ρ := [some (.int b), some (.int k), some (.int 1), none])
    (fun i ρ => ∃ v, ρ = [some (.int b), some (.int k), some (.int (b ^ i)), v]) ⟨none, by simp⟩ (by
      rintro i ρ hi ⟨v, rfl⟩
      simp [mulOk_r hb.1 hb.2, Int.pow_succ, b_lpower_0])
  obtain ⟨v, rfl⟩ := h
  refine mFn_ok ?_
  simp [m_lpower, inR_of (i := k) (by omega) (by omega), e]
theorem lten_eq {k : Int} (hk : k < 2 ^ 40) (hk0 : -(2 ^ 40) < k) : f_lpower [.int 10, .int k] = .ok (.int (10 ^ k.toNat), []) := lpower_eq (by decide) hk hk0
theorem lwhole_int (i : Int) : f_lwhole [.int i] = .ok (.bl true, []) := by
  refine mFn_ok ?_
  simp [m_lwhole, bIsi, MV.kd, kdOf, Kd.isa]
def Form (kd : Str) (n : Nat) (sg : Str) (p : MV) : MV := .tup [.str kd, .int n, .str sg, p]
def least (n : Nat) (sg : Str) : Int := if sg = "none" then 0 else if sg = "end" then 1 - 10 ^ n else -5 * 10 ^ (n - 1)
def most (n : Nat) (sg : Str) : Int := if sg = "tens" then 5 * 10 ^ (n - 1) - 1 else 10 ^ n - 1
theorem sg_ne1 : ¬ (("end" : Str) = "none") := by decide
theorem sg_ne2 : ¬ (("tens" : Str) = "none") := by decide
theorem sg_ne3 : ¬ (("tens" : Str) = "end") := by decide
theorem sg_ne4 : ¬ (("none" : Str) = "tens") := by decide
theorem sg_ne5 : ¬ (("end" : Str) = "tens") := by decide
section
variable {kd sg : Str} {n : Nat} {p : MV}
theorem at1 {a b c d : MV} : atI [a, b, c, d] 1 = some b := rfl
theorem at2 {a b c d : MV} : atI [a, b, c, d] 2 = some c := rfl
theorem pleast_eq (hn : 1 ≤ n) (h : n < 100) : f_pleast_of [Form kd n sg p] = .ok (.int (least n sg), []) := by
  refine mFn_ok ?_
  by_cases h1 : sg = "none"
  · simp [m_pleast_of, Form, at2, h1, least]
  · by_cases h2 : sg = "end"
    · simp [m_pleast_of, Form, at2, at1, h2, least, sg_ne1, pten_eq (k := n) (by omega) (by omega)]
    · have e : ((n : Int) - 1).toNat = n - 1 := by omega
      simp [m_pleast_of, Form, at2, at1, h1, h2, least, pten_eq (k := (n : Int) - 1) (by omega) (by omega), e, mulOk_l]
theorem pmost_eq (hn : 1 ≤ n) (h : n < 100) : f_pmost_of [Form kd n sg p] = .ok (.int (most n sg), []) := by
  refine mFn_ok ?_
  by_cases h2 : sg = "tens"
  · have e : ((n : Int) - 1).toNat = n - 1 := by omega
    simp [m_pmost_of, Form, at2, at1, h2, most, pten_eq (k := (n : Int) - 1) (by omega) (by omega), e, mulOk_l]
  · simp [m_pmost_of, Form, at2, at1, h2, most, pten_eq (k := n) (by omega) (by omega)]
theorem ten_half (hn : 1 ≤ n) : ((10 : Int) ^ n).fdiv 2 = 5 * 10 ^ (n - 1) := by
  obtain ⟨k, rfl⟩ : ∃ k, n = k + 1 := ⟨n - 1, by omega⟩
  rw [Int.pow_succ, Nat.add_sub_cancel, show (10 : Int) ^ k * 10 = 2 * (5 * 10 ^ k) by omega, Int.mul_fdiv_cancel_left _ (by decide)]
theorem ten_pos (n : Nat) : (0 : Int) < 10 ^ n := Int.pow_pos (by decide)
theorem lends_eq (hn : 1 ≤ n) (h : n < 100) (hs : sg = "none" ∨ sg = "end" ∨ sg = "tens") : f_lends [Form kd n sg p] = .ok (.tup [.int (least n sg), .int (most n sg)], []) := by
  refine mFn_ok ?_
  rcases hs with rfl | rfl | rfl
  · simp [m_lends, Form, at2, at1, least, most, sg_ne4, lten_eq (k := n) (by omega) (by omega), szOk_small]
  · simp [m_lends, Form, at2, at1, least, most, sg_ne1, sg_ne5, lten_eq (k := n) (by omega) (by omega), szOk_small]
  · simp [m_lends, Form, at2, at1, least, most, sg_ne2, sg_ne3, lten_eq (k := n) (by omega) (by omega), szOk_small, ten_half hn, divOk]
    omega
end
section
variable {kd sg : Str} {n : Nat} {p : MV}
theorem pfits_eq (h1 : 1 ≤ n ∧ n < 100) (x : Int) : f_pfits [Form kd n sg p, .int x] = .ok (.bl (decide (least n sg ≤ x) && decide (x ≤ most n sg)), []) := by
  refine mFn_ok ?_
  have a := @pleast_eq kd sg n p h1.1 h1.2
  have b := @pmost_eq kd sg n p h1.1 h1.2
  unfold Form at a b
  by_cases c : least n sg ≤ x
  · simp [m_pfits, Form, a, b, c]
  · simp [m_pfits, Form, a, b, c]
end
theorem least_le {n : Nat} {sg : Str} (h : 1 ≤ n) : least n sg ≤ most n sg := by
  have hp := ten_pos n
  have hp2 := ten_pos (n - 1)
  have h10 : (10 : Int) ^ n = 10 * 10 ^ (n - 1) := by
    obtain ⟨k, rfl⟩ : ∃ k, n = k + 1 := ⟨n - 1, by omega⟩
    rw [Int.pow_succ, Nat.add_sub_cancel, Int.mul_comm]
  unfold least most
  by_cases h1 : sg = "none"
  · subst h1; simp [sg_ne4]; omega
  · by_cases h2 : sg = "end"
    · subst h2; simp [sg_ne1, sg_ne5]; omega
    · by_cases h3 : sg = "tens"
      · subst h3; simp [sg_ne2, sg_ne3]; omega
      · simp [h1, h2, h3]; omega
theorem lnumber_ok {kd sg : Str} {n : Nat} {p : MV} (h1 : 1 ≤ n ∧ n < 100) (hs : sg = "none" ∨ sg = "end" ∨ sg = "tens") (way far : Int) (hw : 0 ≤ way) : ∃ x : Int, (least n sg ≤ x ∧ x ≤ most n sg) ∧ f_lnumber [Form kd n sg p, .int way, .int far] = .ok (.int x, []) := by
  have hle := @least_le n sg h1.1
  have e1 := @lends_eq kd sg n p h1.1 h1.2 hs
  unfold Form at e1
  generalize hlo : least n sg = lo at *
  generalize hhi : most n sg = hi at *
  have q1 := fmod_ge' (a := far) (b := (n : Int)) (by omega)
  have q2 := fmod_lt' (a := far) (b := (n : Int)) (by omega)
  have l1 := lten_eq (k := far.fmod n) (by omega) (by omega)
  have hpz := ten_pos (far.fmod n).toNat
  generalize (10 : Int) ^ (far.fmod n).toNat = q at l1 hpz
  have hn0 : ¬ n = 0 := by omega
  have key : ∃ x : Int, (lo ≤ x ∧ x ≤ hi) ∧ ∃ ρ : Env, m_lnumber [some (Form kd n sg p), some (.int way), some (.int far), none, none, none, none, none] = .ok (.rt (.int x), ρ) := by
    by_cases h9 : 9 < way
    · have r1 := fmod_ge' (a := far) (b := hi - lo + 1) (by omega)
      have r2 := fmod_lt' (a := far) (b := hi - lo + 1) (by omega)
      have hz : ¬ hi - lo + 1 = 0 := by omega
      refine ⟨lo + far.fmod (hi - lo + 1), by omega, ?_⟩
      simp [m_lnumber, Form, e1, h9, hz]
    · obtain ⟨j, hj⟩ : ∃ j : Int, atI [MV.int 0, .int 1, .int hi, .int lo, .int q, .int (q - 1), .int (5 * q), .int (9 * q), .int (q + 1), .int ((far.fdiv 16).fmod (10 * q))] way = some (.int j) := by
        rcases (show way = 0 ∨ way = 1 ∨ way = 2 ∨ way = 3 ∨ way = 4 ∨ way = 5 ∨ way = 6 ∨ way = 7 ∨ way = 8 ∨ way = 9 by omega) with rfl | rfl | rfl | rfl | rfl | rfl | rfl | rfl | rfl | rfl <;> exact ⟨_, rfl⟩
      have hz : ¬ 10 * q = 0 := by omega
      have hsz : (9 : Nat) < sizeLine := by rw [sizeLine_eq]; omega
      have hd1 : divOk 16 = true := by decide
      have hd2 : divOk 13 = true := by decide
      have cl : ∀ y : Int, lo ≤ (if (if y < hi then y else hi) > lo then (if y < hi then y else hi) else lo) ∧ (if (if y < hi then y else hi) > lo then (if y < hi then y else hi) else lo) ≤ hi := fun y => by
        split <;> split <;> omega
      by_cases hc : lo < 0 ∧ (far.fdiv 13).fmod 2 = 1
      · refine ⟨_, cl (0 - j), ?_⟩
        simp [m_lnumber, Form, e1, h9, l1, hn0, szOk_small, mulOk_l, hz, hsz, hd1, hd2, hj, hc.1, hc.2, ixV, ixL]
      · refine ⟨_, cl j, ?_⟩
        by_cases hc1 : lo < 0
        · have hc2 : ¬ (far.fdiv 13).fmod 2 = 1 := fun z => hc ⟨hc1, z⟩
          simp [m_lnumber, Form, e1, h9, l1, hn0, szOk_small, mulOk_l, hz, hsz, hd1, hd2, hj, hc1, hc2, ixV, ixL]
        · simp [m_lnumber, Form, e1, h9, l1, hn0, szOk_small, mulOk_l, hz, hsz, hd1, hd2, hj, hc1, ixV, ixL]
  obtain ⟨x, hx, ρ, h⟩ := key
  exact ⟨x, hx, mFn_ok ⟨ρ, h⟩⟩
theorem lform_kd {a m s : Int} (ha : 0 ≤ a ∧ a < 2) (hm : 0 ≤ m ∧ m < 50) (hs : 0 ≤ s ∧ s < 3) : ∃ (kd sg : Str) (pt : Int), (kd = "packed" ∨ kd = "spread") ∧ (sg = "none" ∨ sg = "end" ∨ sg = "tens") ∧ f_lform [.int a, .int m, .int s] = .ok (.tup [.str kd, .int (1 + m), .str sg, .int pt], []) := by
  have h1 : ¬ (m + 2 = 0) := by omega
  obtain ⟨kd, hkd, hk⟩ : ∃ kd : Str, (kd = "packed" ∨ kd = "spread") ∧ atI [MV.str "packed", .str "spread"] a = some (.str kd) := by
    rcases (show a = 0 ∨ a = 1 by omega) with rfl | rfl
    · exact ⟨_, .inl rfl, rfl⟩
    · exact ⟨_, .inr rfl, rfl⟩
  obtain ⟨sg, hsg, hg⟩ : ∃ sg : Str, (sg = "none" ∨ sg = "end" ∨ sg = "tens") ∧ atI [MV.str "none", .str "end", .str "tens"] s = some (.str sg) := by
    rcases (show s = 0 ∨ s = 1 ∨ s = 2 by omega) with rfl | rfl | rfl
    · exact ⟨_, .inl rfl, rfl⟩
    · exact ⟨_, .inr (.inl rfl), rfl⟩
    · exact ⟨_, .inr (.inr rfl), rfl⟩
  have key : ∃ pt ρ, m_lform [some (.int a), some (.int m), some (.int s), none] = .ok (.rt (.tup [.str kd, .int (1 + m), .str sg, .int pt]), ρ) := by
    simp [m_lform, mulOk_l, h1, szOk_small, hk, hg]
  obtain ⟨pt, ρ, h⟩ := key
  exact ⟨kd, sg, pt, hkd, hsg, mFn_ok ⟨ρ, h⟩⟩
def fB (fr : Nat) (ws : List Str) (rs : List MV) (tab : Str → MV) : List (Str × MV) := [("rows", .own rs), ("tables", .own (ws.map tab)), ("worths", .own (ws.map MV.fnc)), ("free", .int fr)]
def Bo (fr : Nat) (ws : List Str) (rs : List MV) (tab : Str → MV) : MV := .obj "Builder" (fB fr ws rs tab)
section
variable {fr : Nat} {ws : List Str} {rs : List MV} {tab : Str → MV} {ρ : Env} {r x y z : Option MV}
@[simp] theorem Bo_held : (Bo fr ws rs tab).held = true := nr rfl
@[simp] theorem Bo_fold : MV.obj (Str.ofString "Builder") (fB fr ws rs tab) = Bo fr ws rs tab := nr rfl
@[simp] theorem lk_rows : (fB fr ws rs tab).lookup (Str.ofString "rows") = some (.own rs) := nr rfl
@[simp] theorem lk_tables : (fB fr ws rs tab).lookup (Str.ofString "tables") = some (.own (ws.map tab)) := nr rfl
@[simp] theorem lk_worths : (fB fr ws rs tab).lookup (Str.ofString "worths") = some (.own (ws.map MV.fnc)) := nr rfl
@[simp] theorem lk_free : (fB fr ws rs tab).lookup (Str.ofString "free") = some (.int fr) := nr rfl
@[simp] theorem lk_cell : (fB fr ws rs tab).lookup (Str.ofString "cell") = none := nr rfl
@[simp] theorem lk_put : (fB fr ws rs tab).lookup (Str.ofString "put") = none := nr rfl
@[simp] theorem lk_row : (fB fr ws rs tab).lookup (Str.ofString "row") = none := nr rfl
@[simp] theorem lk_look : (fB fr ws rs tab).lookup (Str.ofString "look") = none := nr rfl
@[simp] theorem lk_copied : (fB fr ws rs tab).lookup (Str.ofString "copied") = none := nr rfl
@[simp] theorem lk_looked : (fB fr ws rs tab).lookup (Str.ofString "looked") = none := nr rfl
@[simp] theorem lk_ended : (fB fr ws rs tab).lookup (Str.ofString "ended") = none := nr rfl
@[simp] theorem lk_program : (fB fr ws rs tab).lookup (Str.ofString "program") = none := nr rfl
@[simp] theorem lk_back_to : (fB fr ws rs tab).lookup (Str.ofString "back_to") = none := nr rfl
@[simp] theorem put_rows {zs : List MV} : putM (Str.ofString "rows") (.own zs) (fB fr ws rs tab) = fB fr ws zs tab := nr rfl
@[simp] theorem put_free {k : Nat} : putM (Str.ofString "free") (.int k) (fB fr ws rs tab) = fB k ws rs tab := nr rfl
@[simp] theorem put_free1 : putM (Str.ofString "free") (.int ((fr : Int) + 1)) (fB fr ws rs tab) = fB (fr + 1) ws rs tab := nr rfl
@[simp] theorem fB_len : (fB fr ws rs tab).length = 4 := nr rfl
def lkW (ws : List Str) (w : Str) : List Str := if w ∈ ws then ws else ws ++ [w]
def lkI (ws : List Str) (w : Str) : Nat := (lkW ws w).findIdx fun z => decide (z = w)
end
def w01 (p : Bool) : Nat := if p then 1 else 0
def wtab : List (Str × (Nat → Nat)) := [
  ("sign_below", fun b => w01 (decide (b % 16 = 11 ∨ b % 16 = 13))),
  ("five_on", fun b => w01 (decide (4 < b))),
  ("ten_or_none", fun b => 10 * w01 (decide (0 < b))),
  ("nine_less", fun b => if 9 < b ∧ b < 20 then 19 - b else b),
  ("ahead_of_last", fun b => b / 10),
  ("last_figure", fun b => b % 10),
  ("high_half", fun b => b / 16),
  ("low_half", fun b => b % 16),
  ("one_or_none", fun b => w01 (decide (0 < b))),
  ("half_up", fun b => b % 16 * 16),
  ("one_of_two", fun b => w01 (decide (b % 4 = 1 ∨ b % 4 = 2))),
  ("not_all", fun b => w01 (decide (b < 255))),
  ("none_or_all", fun b => 255 * w01 (decide (b = 0))),
  ("lacking", fun b => (9 + 10 * 26 - b) % 10),
  ("fill", fun b => 255 * (1 - b / 128)),
  ("top_two", fun b => b / 128),
  ("other_twos", fun b => 255 - b),
  ("ten_low", fun b => 10 * b % 256),
  ("ten_high", fun b => 10 * b / 256),
  ("six_on", fun b => w01 (decide (5 < b))),
  ("product_byte", fun b => b / 16 * (b % 16)),
  ("order_byte", fun b => if b % 4 = 0 then 1 else if b % 4 = 1 then 2 else if b % 4 = 2 then 1 else 0),
  ("one_of_none", fun b => w01 (decide (b = 0))),
  ("lowest_two", fun b => b % 2),
  ("all_or_none", fun b => 255 * w01 (decide (0 < b)))]
def worthV (w : Str) (b : Nat) : Nat := match wtab.lookup w with | some g => g b | none => 0
def tabW (w : Str) : MV := .tup ((List.range 256).map fun b => .int (worthV w b))
inductive Rw where
  | put (a v : Nat) | copy (a b : Nat) | look (a k : Nat) | add (a b : Nat) | addc (a b : Nat) | and_ (a b : Nat) | or_ (a b : Nat) | left (a : Nat) | right (a : Nat) | mark (v : Nat)
def enR : Rw → MV
  | .put a v => .tup [.str "put", .int a, .int v]
  | .copy a b => .tup [.str "copy", .int a, .int b]
  | .look a k => .tup [.str "look", .int a, .int k]
  | .add a b => .tup [.str "add", .int a, .int b]
  | .addc a b => .tup [.str "addc", .int a, .int b]
  | .and_ a b => .tup [.str "and", .int a, .int b]
  | .or_ a b => .tup [.str "or", .int a, .int b]
  | .left a => .tup [.str "left", .int a]
  | .right a => .tup [.str "right", .int a]
  | .mark v => .tup [.str "mark", .int v]
def cg (c : List Nat) (i : Nat) : Nat := c.getD i 0
def Cells (c : List Nat) : Prop := c.length = 256 ∧ ∀ i, cg c i < 256
def TabLt (tb : Nat → Nat → Nat) (nt : Nat) : Prop := ∀ k v, k < nt → v < 256 → tb k v < 256
theorem cg_set {c : List Nat} {a v i : Nat} : cg (c.set a v) i = if i = a ∧ a < c.length then v else cg c i := by
  unfold cg
  rw [List.getD_eq_getElem?_getD, List.getD_eq_getElem?_getD, List.getElem?_set]
  by_cases h : a = i
  · subst h
    by_cases h2 : a < c.length
    · simp [h2]
    · simp [h2, List.getElem?_eq_none (Nat.le_of_not_lt h2)]
  · have : ¬ (i = a) := fun e => h e.symm
    simp [h, this]
theorem Cells.set {c : List Nat} (h : Cells c) {a v : Nat} (hv : v < 256) : Cells (c.set a v) := by
  refine ⟨by rw [List.length_set]; exact h.1, fun i => ?_⟩
  rw [cg_set]
  split
  · exact hv
  · exact h.2 i
inductive Ab where
  | r (x : Rw) | lk (c : Nat) (w : Str)
def layA (s : List Str × List Rw) : Ab → List Str × List Rw
  | .r x => (s.1, s.2 ++ [x])
  | .lk c w => (lkW s.1 w, s.2 ++ [.look c (lkI s.1 w)])
def lays (as : List Ab) (s : List Str × List Rw) : List Str × List Rw := as.foldl layA s
def okAb : Ab → Bool
  | .r _ => true
  | .lk _ w => fnNames.contains w
def Gd (s : List Str × List Rw) (k : Nat) : Prop := s.1.Nodup ∧ (∀ z ∈ s.1, z ∈ fnNames) ∧ s.2.length + k < 16777216
theorem nodup_le : ∀ {l m : List Str}, l.Nodup → (∀ z ∈ l, z ∈ m) → l.length ≤ m.length
  | [], m, _, _ => Nat.zero_le _
  | a :: l, m, h, hs => by
    obtain ⟨h1, h2⟩ := List.nodup_cons.mp h
    have ha := hs a (by simp)
    have ih := @nodup_le l (m.erase a) h2 (fun z hz => by
      have ne : z ≠ a := fun e => h1 (by rw [← e]; exact hz)
      exact (List.mem_erase_of_ne ne).mpr (hs z (List.mem_cons_of_mem _ hz)))
    rw [List.length_erase_of_mem ha] at ih
    have := List.length_pos_of_mem ha
    simp; omega
theorem Gd.len {s : List Str × List Rw} {k : Nat} (h : Gd s k) : s.1.length < 100 := by
  have h1 : s.1.length ≤ fnNames.length := nodup_le h.1 fun z hz => h.2.1 z hz
  have h2 : fnNames.length < 100 := by decide +kernel
  omega
theorem Gd.less {s : List Str × List Rw} {k j : Nat} (h : Gd s k) (hj : j ≤ k) : Gd s j := ⟨h.1, h.2.1, by have := h.2.2; omega⟩
theorem layA_len (s : List Str × List Rw) (a : Ab) : (layA s a).2.length = s.2.length + 1 := by cases a <;> simp [layA]
theorem lkW_nodup {ws : List Str} {w : Str} (h : ws.Nodup) : (lkW ws w).Nodup := by
  unfold lkW
  split
  · exact h
  · rename_i hn
    rw [List.nodup_append]
    refine ⟨h, by simp, ?_⟩
    intro a ha b hb e
    rw [List.mem_singleton.mp hb] at e
    exact hn (e ▸ ha)
theorem Gd.step {s : List Str × List Rw} {k : Nat} (h : Gd s (k + 1)) {a : Ab} (ha : okAb a = true) : Gd (layA s a) k := by
  refine ⟨?_, ?_, by rw [layA_len]; have := h.2.2; omega⟩
  · cases a with
    | r x => exact h.1
    | lk c w => exact lkW_nodup h.1
  · cases a with
    | r x => exact h.2.1
    | lk c w =>
      intro z hz
      have hw : w ∈ fnNames := List.contains_iff_mem.mp ha
      simp only [layA] at hz
      unfold lkW at hz
      split at hz
      · exact h.2.1 z hz
      · rcases List.mem_append.mp hz with hz | hz
        · exact h.2.1 z hz
        · rw [List.mem_singleton.mp hz]; exact hw
theorem Gd.lays {k : Nat} : ∀ {as : List Ab} {s : List Str × List Rw}, Gd s (as.length + k) → as.all okAb = true → Gd (lays as s) k
  | [], s, h, _ => by simpa [Tm.lays] using h
  | a :: as, s, h, ha => by
    rw [List.all_cons, Bool.and_eq_true] at ha
    have h1 : Gd (layA s a) (as.length + k) := Gd.step (h.less (by simp; omega)) ha.1
    show Gd (Tm.lays as (layA s a)) k
    exact Gd.lays h1 ha.2
def bS (fr : Nat) (s : List Str × List Rw) : MV := Bo fr s.1 (s.2.map enR) tabW
section
variable {fr : Nat} {s : List Str × List Rw} {ρ : Env} {x y z : Option MV}
@[simp] theorem bS_held : (bS fr s).held = true := nr rfl
end
theorem nm (w : Str) (h : fnNames.contains w = true) : w ∈ fnNames := List.contains_iff_mem.mp h
def fitsM (n : Nat) (sg : Str) (x : Int) : Bool := decide (least n sg ≤ x) && decide (x ≤ most n sg)
def w3 : List MV := [.str "put", .str "copy", .str "add", .str "addc", .str "and", .str "or"]
def w2 : List MV := [.str "left", .str "right"]
section
variable {kd sg : Str} {n : Nat} {p : MV}
theorem lfits_eq (hn : 1 ≤ n ∧ n < 100) (hs : sg = "none" ∨ sg = "end" ∨ sg = "tens") (x : Int) : f_lfits [Form kd n sg p, .int x] = .ok (.bl (fitsM n sg x), []) := by
  refine mFn_ok ?_
  have e := @lends_eq kd sg n p hn.1 hn.2 hs
  unfold Form at e
  unfold fitsM
  by_cases c : least n sg ≤ x
  · simp [m_lfits, Form, e, c]
  · simp [m_lfits, Form, e, c]
end
theorem cbE_b2 {f : MF} {x v : MV} {ys : List MV} {args : List BA} {ρ : Env} {r q y : Option MV} (h : x.held = true) (hf : fill args (r :: q :: some x :: ρ) = some ys) (hi : idxB args = []) (en : f (x :: ys) = .ok (v, [y])) : cbE f (.b 2 :: args) (r :: q :: some x :: ρ) = .ok (v, r :: q :: y :: ρ) := by
  rw [cbE_ap]
  have e : fill (.b 2 :: args) (r :: q :: some x :: ρ) = some (x :: ys) := by
    rw [fill_b, hf]
    simp [h]
  rw [e]
  show (match f (x :: ys) with | .ok (v, os) => _ | .exc e os => _ | .stuck => _) = _
  rw [en]
  rw [idxB_b, hi]
  rfl
section
variable {f : MF} {fr fr' : Nat} {s s' : List Str × List Rw} {a b c d v : MV}
theorem cd1 (en : f [bS fr s, a] = .ok (v, [some (bS fr' s')])) (r q : Option MV) (ρ : Env) : cbE f [.b 2, .v a] (r :: q :: some (bS fr s) :: ρ) = .ok (v, r :: q :: some (bS fr' s') :: ρ) := cbE_b2 rfl rfl rfl en
theorem cd2 (en : f [bS fr s, a, b] = .ok (v, [some (bS fr' s')])) (r q : Option MV) (ρ : Env) : cbE f [.b 2, .v a, .v b] (r :: q :: some (bS fr s) :: ρ) = .ok (v, r :: q :: some (bS fr' s') :: ρ) := cbE_b2 rfl rfl rfl en
theorem cd3 (en : f [bS fr s, a, b, c] = .ok (v, [some (bS fr' s')])) (r q : Option MV) (ρ : Env) : cbE f [.b 2, .v a, .v b, .v c] (r :: q :: some (bS fr s) :: ρ) = .ok (v, r :: q :: some (bS fr' s') :: ρ) := cbE_b2 rfl rfl rfl en
theorem cd4 (en : f [bS fr s, a, b, c, d] = .ok (v, [some (bS fr' s')])) (r q : Option MV) (ρ : Env) : cbE f [.b 2, .v a, .v b, .v c, .v d] (r :: q :: some (bS fr s) :: ρ) = .ok (v, r :: q :: some (bS fr' s') :: ρ) := cbE_b2 rfl rfl rfl en
end
structure Bs (L : List Str) : Prop where
  ah : ("ahead_of_last" : Str) ∈ L
  la : ("last_figure" : Str) ∈ L
  ni : ("nine_less" : Str) ∈ L
  hi : ("high_half" : Str) ∈ L
  lo : ("low_half" : Str) ∈ L
  up : ("half_up" : Str) ∈ L
  te : ("ten_or_none" : Str) ∈ L
  fi : ("five_on" : Str) ∈ L
  on : ("one_or_none" : Str) ∈ L
  be : ("sign_below" : Str) ∈ L
  tw : ("one_of_two" : Str) ∈ L
theorem ok2 {a b : Nat} (ha : a < 256) (hb : b < 256) : (decide (a < 256) && decide (b < 256)) = true := by rw [decide_eq_true ha, decide_eq_true hb]; rfl
theorem log_small {m : Nat} (h : m < 2 ^ 1000) : m.log2 < 1920 := by
  by_cases h0 : m = 0
  · subst h0; decide
  · have := (Nat.log2_lt h0).mpr h
    omega
theorem divOk_ten {k : Nat} (h : k < 100) : divOk ((10 : Int) ^ k) = true := by
  unfold divOk
  have e : ((10 : Int) ^ k) = ((10 ^ k : Nat) : Int) := by simp
  have h1 : 10 ^ k < 2 ^ 1000 := Nat.lt_of_le_of_lt (Nat.pow_le_pow_right (by decide) (show k ≤ 100 by omega)) (by decide +kernel)
  have h2 := log_small h1
  have h3 : 0 < 10 ^ k := Nat.pow_pos (by decide)
  rw [e, Bool.or_eq_true]
  right
  simp only [Int.natAbs_natCast, Bool.and_eq_true, decide_eq_true_eq]
  omega
theorem Gd.go {s : List Str × List Rw} {N : Nat} {as : List Ab} (h : Gd s N) (ok : as.all okAb = true) (k : Nat) (hl : as.length + k ≤ N) : Gd (Tm.lays as s) k := Gd.lays (h.less hl) ok
def dl : Nat → Nat → List Nat
  | 0, _ => []
  | k + 1, n => n % 256 :: dl k (n / 256)
structure TwW (L : List Str) : Prop where
  al : ("all_or_none" : Str) ∈ L
  no : ("none_or_all" : Str) ∈ L
  ot : ("other_twos" : Str) ∈ L
  th : ("ten_high" : Str) ∈ L
  tl : ("ten_low" : Str) ∈ L
  fi : ("fill" : Str) ∈ L
  na : ("not_all" : Str) ∈ L
  on : ("one_or_none" : Str) ∈ L
structure Ls (L : List Str) : Prop where
  ah : ("ahead_of_last" : Str) ∈ L
  la : ("last_figure" : Str) ∈ L
  ni : ("nine_less" : Str) ∈ L
  hi : ("high_half" : Str) ∈ L
  lo : ("low_half" : Str) ∈ L
  te : ("ten_or_none" : Str) ∈ L
  fi : ("five_on" : Str) ∈ L
  be : ("sign_below" : Str) ∈ L
theorem bls_map {α : Type} (f : α → Bool) : ∀ l : List α, blsOf (l.map fun p => .bl (f p)) = some (l.map f)
  | [] => rfl
  | p :: l => by
    have := bls_map f l
    simp [blsOf, this]
theorem ball_map {α : Type} (f : α → Bool) (l : List α) : bAll [.lst (l.map fun p => .bl (f p))] = some (.bl (l.all f)) := by
  show (blsOf _).map _ = _
  rw [bls_map]
  simp
def okN (N nt : Nat) : Rw → Bool
  | .put a v => decide (a < N) && decide (v < 256)
  | .look a k => decide (a < N) && decide (k < nt)
  | .copy a b => decide (a < N) && decide (b < N)
  | .add a b => decide (a < N) && decide (b < N)
  | .addc a b => decide (a < N) && decide (b < N)
  | .and_ a b => decide (a < N) && decide (b < N)
  | .or_ a b => decide (a < N) && decide (b < N)
  | .left a => decide (a < N)
  | .right a => decide (a < N)
  | .mark v => decide (v < 2)
def CellsN (N : Nat) (c : List Nat) : Prop := c.length = N ∧ ∀ i, cg c i < 256
theorem CellsN.set {N : Nat} {c : List Nat} (h : CellsN N c) {a v : Nat} (hv : v < 256) : CellsN N (c.set a v) := by
  refine ⟨by rw [List.length_set]; exact h.1, fun i => ?_⟩
  rw [cg_set]
  split
  · exact hv
  · exact h.2 i
def CR (c : List Nat) (m : Nat) (p : List Nat × Nat) (a : Nat) : Prop := Cells p.1 ∧ p.2 = m ∧ (∀ i, i < 252 → cg p.1 i = cg c i) ∧ cg p.1 252 = a
structure DrP (N : Nat) where
  tb : Nat → Nat → Nat
  nt : Nat
  rs : List Rw
  c : List Nat
  m : Nat
  h16 : nt ≤ 16
  tl : TabLt tb nt
  ok : rs.all (okN N nt) = true
  h48 : rs.length ≤ 48
  cn : CellsN N c
  m2 : m < 2
def dtx (ds : List Nat) : Str := ⟨(ds.map (48 + ·)).toArray⟩
theorem dtx_len (ds : List Nat) : (dtx ds).length = ds.length := by
  show (ds.map (48 + ·)).toArray.size = ds.length
  simp
theorem dtx_list (ds : List Nat) : (dtx ds).cps.toList = ds.map (48 + ·) := by simp [dtx]
theorem str_ext {a b : Str} (h : a.cps.toList = b.cps.toList) : a = b := by
  cases a; cases b
  simp only at h
  congr 1
  exact Array.toList_inj.mp h
theorem digit_nat : ∀ d, d < 10 → (Nat.digitChar d).toNat = 48 + d := by decide
def nd (m : Nat) : Nat := (Nat.toDigits 10 m).length
theorem dec_digs : ∀ (k m : Nat), m ≤ k → (Nat.toDigits 10 m).map Char.toNat = (digsB (nd m) m).map (48 + ·)
  | k, m, hk => by
    unfold nd
    rw [Nat.toDigits_eq_if (by decide)]
    split
    · rename_i h
      show [(Nat.digitChar m).toNat] = (digsB 1 m).map (48 + ·)
      rw [digit_nat m h, digsB_step]
      simp [digsB, digs, Nat.mod_eq_of_lt h]
    · rename_i h
      match k, hk with
      | 0, hk => omega
      | k + 1, hk =>
        have ih := dec_digs k (m / 10) (by omega)
        unfold nd at ih
        rw [List.map_append, ih, List.length_append]
        show _ = (digsB ((Nat.toDigits 10 (m / 10)).length + 1) m).map (48 + ·)
        rw [digsB_step, List.map_append]
        congr 1
        show [(Nat.digitChar (m % 10)).toNat] = [48 + m % 10]
        rw [digit_nat _ (Nat.mod_lt _ (by decide))]
theorem str_dec (m : Nat) : Str.ofString (toString (m : Int)) = dtx (digsB (nd m) m) := by
  refine (PyProof.Rows.text_ofNat m).trans (str_ext ?_)
  rw [dtx_list, ← dec_digs m m (Nat.le_refl _)]
theorem nd_le {m t : Nat} (h : m < 10 ^ t) (ht : 1 ≤ t) : nd m ≤ t := (Nat.length_toDigits_le_iff (n := m) (b := 10) (k := t) (by decide) ht).mpr h
theorem fIn_one (c : Nat) (z : Str) : fIn (.str ⟨#[c]⟩) (.str z) = some (.bl (decide (c ∈ z.cps.toList))) := by
  have h := PySem.StrLaws.found_iff z ⟨#[c]⟩
  have e : (!(Builtin.Str.occurrences z ⟨#[c]⟩ 0 z.length 1).isEmpty) = decide (c ∈ z.cps.toList) := by
    rw [Bool.eq_iff_iff, h, decide_eq_true_eq, List.mem_iff_getElem?]
    exact ⟨fun ⟨i, hi⟩ => ⟨i, (PySem.StrLaws.subAt_one z c i).mp hi⟩, fun ⟨i, hi⟩ => ⟨i, (PySem.StrLaws.subAt_one z c i).mpr hi⟩⟩
  show (some (!(Builtin.Str.occurrences z ⟨#[c]⟩ 0 z.length 1).isEmpty)).map MV.bl = _
  rw [e]; rfl
def figC (c : Nat) : Bool := decide (48 ≤ c) && decide (c ≤ 57)
theorem fig_list : (Str.ofString "0123456789").cps.toList = [48, 49, 50, 51, 52, 53, 54, 55, 56, 57] := by decide +kernel
theorem fIn_fig (c : Nat) : fIn (.str ⟨#[c]⟩) (.str (Str.ofString "0123456789")) = some (.bl (figC c)) := by
  have e : decide (c ∈ (Str.ofString "0123456789").cps.toList) = figC c := by
    rw [fig_list]
    unfold figC
    rw [Bool.eq_iff_iff]
    simp
    omega
  rw [fIn_one, e]
theorem figC_of {c : Nat} (h : figC c = true) : ∃ d, d < 10 ∧ c = 48 + d := by
  unfold figC at h
  simp at h
  exact ⟨c - 48, by omega, by omega⟩
theorem occ_fig : ∀ d, d < 10 → Builtin.Str.occurrences (Str.ofString "0123456789") ⟨#[48 + d]⟩ 0 (Str.ofString "0123456789").length 1 = [d] := by decide +kernel
theorem index_fig {d : Nat} (h : d < 10) : smIndex (Str.ofString "0123456789") [.str ⟨#[48 + d]⟩] = some (.int d) := by
  show (match Builtin.Str.occurrences (Str.ofString "0123456789") ⟨#[48 + d]⟩ 0 (Str.ofString "0123456789").length 1 with | i :: _ => some (MV.int (i : Nat)) | [] => none) = _
  rw [occ_fig d h]
theorem figs_all (w : Str) (v : Nat) (ρ : Env) {a : ME} (ha : a ρ = .ok (.str w, ρ)) (hv : ρ[v]? = some none) (hz : w.length ≤ 100000) :
    mLcO (mItV a) (.nm v) mYes (mOp fIn (mVar v) (mC (.str (Str.ofString "0123456789")))) [v] ρ = .ok (.own (w.cps.toList.map fun c => .bl (figC c)), ρ) := by
  have hl : w.cps.toList.length = w.length := Array.length_toList
  have hlt : v < ρ.length := lt_get hv
  have := mLcO_nm (it := mItV a) (e := mOp fIn (mVar v) (mC (.str (Str.ofString "0123456789")))) (v := v) (ρ := ρ) (xs := signsM w) (fun z => match z with | .str s => .bl (figC (s.cps.getD 0 0)) | _ => .non)
    (by unfold mItV; rw [ha]; rfl) hv (by
      intro x hx
      obtain ⟨c, _, rfl⟩ := List.mem_map.mp hx
      have e1 : mVar v (ρ.set v (some (.str ⟨#[c]⟩))) = .ok (.str ⟨#[c]⟩, ρ.set v (some (.str ⟨#[c]⟩))) := by
        unfold mVar
        rw [List.getElem?_set_self hlt]
      unfold mOp
      rw [e1]
      show (match fIn (.str ⟨#[c]⟩) (.str (Str.ofString "0123456789")) with | some z => Res.ok (z, _) | none => .stuck) = _
      rw [fIn_fig]
      rfl) (by unfold signsM; rw [List.length_map, hl, sizeLine_eq]; omega)
  rw [this]
  unfold signsM
  rw [List.map_map]
  rfl
def digV (cs : List Nat) : Nat := cs.foldl (fun acc c => acc * 10 + (c - 48)) 0
theorem int_figs {w : Str} (h1 : 1 ≤ w.cps.toList.length) (h3 : w.cps.toList.length ≤ 600) (hf : w.cps.toList.all figC = true) : bInt [.str w] = some (.int (digV w.cps.toList : Nat)) := by
  have hl : w.cps.toList.length = w.length := Array.length_toList
  have := PySem.intText_digits (x := w) (by
    intro c hc
    have := List.all_eq_true.mp hf c hc
    unfold figC at this
    simpa using this) (by intro h; rw [h] at h1; simp at h1) (by omega)
  show (if decide (w.length ≤ 640) then (PySem.intText? w).map MV.int else none) = _
  rw [if_pos (decide_eq_true (by omega)), this]
  rfl
theorem split_sp {l : Str} (hz : l.length ≤ 100000) (b : Str) (hb : (b.length == 0) = false) : smSplit l [.str b] = some (.lst ((Txt.split l b).map MV.str)) := if_pos ⟨hb, by rw [sizeLine_eq]; omega⟩
inductive Rd where
  | bad (j : Nat)
  | got (rs : List (Str × List Int))
theorem txt_join (z : Str) (ss : List Str) : Txt.join z ss = Str.join z ss := by
  show Builtin.Str.glued z ss = _
  rw [StrLaws.glued_eq_join]
theorem join_ok {z : Str} {ss : List Str} (h : (ss.map (·.length)).sum + ss.length * z.length ≤ 16777216) : smJoin z [.lst (ss.map MV.str)] = some (.str (Txt.join z ss)) := by
  show (strsOf (ss.map MV.str)).bind (joinM z) = _
  rw [strsOf_map]
  exact if_pos (decide_eq_true h)
theorem sum_le {n : Nat} : ∀ {ss : List Str}, (∀ s ∈ ss, s.length ≤ n) → (ss.map (·.length)).sum ≤ ss.length * n
  | [], _ => by simp
  | s :: ss, h => by
    have ih := sum_le (ss := ss) fun x hx => h x (List.mem_cons_of_mem _ hx)
    have := h s (List.mem_cons_self ..)
    rw [List.map_cons, List.sum_cons, List.length_cons, Nat.succ_mul]
    omega
def nTx (n : Int) : Str := Str.ofString (toString n)
theorem mLcO_it {α : Type} {it : MI} {e : ME} {v : Nat} {ρ : Env} {l : List α} (item y : α → MV) (hi : it ρ = .ok (l.map item, ρ)) (hv : ρ[v]? = some none) (he : ∀ a ∈ l, e (ρ.set v (some (item a))) = .ok (y a, ρ.set v (some (item a)))) (hz : l.length ≤ sizeLine) :
    mLcO it (.nm v) mYes e [v] ρ = .ok (.own (l.map y), ρ) := by
  have := mLcO_nm (it := it) (e := e) (v := v) (ρ := ρ) (xs := l.map item) (fun z => match e (ρ.set v (some z)) with | .ok (r, _) => r | _ => .non) hi hv (fun x hx => by
    obtain ⟨a, ha, rfl⟩ := List.mem_map.mp hx
    rw [he a ha]) (by rw [List.length_map]; exact hz)
  rw [this, List.map_map]
  congr 3
  refine List.map_congr_left fun a ha => ?_
  show (match e (ρ.set v (some (item a))) with | .ok (r, _) => r | _ => .non) = y a
  rw [he a ha]
theorem join_two (z a b : Str) (l : List Str) : Str.join z (a :: b :: l) = a ++ z ++ Str.join z (b :: l) := rfl
theorem cut_inj {c : Nat} : ∀ {p q x y : List Nat}, c ∉ p → c ∉ q → p ++ c :: x = q ++ c :: y → p = q ∧ x = y
  | [], [], x, y, _, _, h => ⟨rfl, by simpa using h⟩
  | [], b :: q, x, y, _, hq, h => by
    simp at h
    exact absurd (h.1 ▸ List.mem_cons_self ..) hq
  | a :: p, [], x, y, hp, _, h => by
    simp at h
    exact absurd (h.1 ▸ List.mem_cons_self ..) hp
  | a :: p, b :: q, x, y, hp, hq, h => by
    simp at h
    obtain ⟨rfl, h⟩ := h
    obtain ⟨rfl, e⟩ := cut_inj (fun m => hp (List.mem_cons_of_mem _ m)) (fun m => hq (List.mem_cons_of_mem _ m)) h
    exact ⟨rfl, e⟩
theorem ix_fig {d : Nat} (h : d < 10) : fIx (.str (Str.ofString "0123456789")) (.int d) = some (.str ⟨#[48 + d]⟩) := by
  rcases (show d = 0 ∨ d = 1 ∨ d = 2 ∨ d = 3 ∨ d = 4 ∨ d = 5 ∨ d = 6 ∨ d = 7 ∨ d = 8 ∨ d = 9 by omega) with rfl | rfl | rfl | rfl | rfl | rfl | rfl | rfl | rfl | rfl <;> rfl
theorem not_at {x : Str} {c i : Nat} (h : c ∉ x.cps.toList) : ¬ StrLaws.At x ⟨#[c]⟩ x.length i := fun hA => h (List.mem_of_getElem? ((StrLaws.subAt_one x c i).mp hA))
theorem partition_no {x : Str} {c : Nat} (h : c ∉ x.cps.toList) : Txt.partition x ⟨#[c]⟩ = (x, Str.empty, Str.empty) := by
  unfold Txt.partition
  rcases StrLaws.occ_head x ⟨#[c]⟩ 1 (Nat.le_refl 1) with ⟨e, _⟩ | ⟨i, r, e, hA, _⟩
  · rw [e]
  · exact absurd hA (not_at h)
theorem partition_at {x : Str} {c : Nat} {a t : Str} (ha : c ∉ a.cps.toList) (hx : x = a ++ ⟨#[c]⟩ ++ t) : Txt.partition x ⟨#[c]⟩ = (a, ⟨#[c]⟩, t) := by
  have hm : c ∈ x.cps.toList := by rw [hx, tl_app, tl_app]; simp
  have hs := StrLaws.partition_sum x ⟨#[c]⟩
  have key : ∃ h t', Txt.partition x ⟨#[c]⟩ = (h, ⟨#[c]⟩, t') ∧ c ∉ h.cps.toList := by
    unfold Txt.partition
    rcases StrLaws.occ_head x ⟨#[c]⟩ 1 (Nat.le_refl 1) with ⟨e, hn⟩ | ⟨i, r, e, hA, hn⟩
    · obtain ⟨j, hj⟩ := List.getElem?_of_mem hm
      exact absurd ((StrLaws.subAt_one x c j).mpr hj) (hn j)
    · rw [e]
      refine ⟨_, _, rfl, ?_⟩
      have hi := hA.1
      exact StrLaws.part_free x c 0 i (by omega) fun k _ h2 => hn k h2
  obtain ⟨h, t', e, hf⟩ := key
  rw [e] at hs ⊢
  have hs : h ++ ⟨#[c]⟩ ++ t' = x := hs
  rw [hx] at hs
  have hl := congrArg (fun z : Str => z.cps.toList) hs
  simp only [tl_app] at hl
  have hl : h.cps.toList ++ c :: t'.cps.toList = a.cps.toList ++ c :: t.cps.toList := by simpa using hl
  obtain ⟨e1, e2⟩ := cut_inj hf ha hl
  rw [str_ext e1, str_ext e2]
theorem part_split (z : Str) (c : Nat) : (∃ w, Txt.split z ⟨#[c]⟩ = [w] ∧ Txt.partition z ⟨#[c]⟩ = (w, Str.empty, Str.empty)) ∨ (∃ a b, Txt.split z ⟨#[c]⟩ = [a, b] ∧ Txt.partition z ⟨#[c]⟩ = (a, ⟨#[c]⟩, b)) ∨ ∃ a b d r t, Txt.split z ⟨#[c]⟩ = a :: b :: d :: r ∧ Txt.partition z ⟨#[c]⟩ = (a, ⟨#[c]⟩, t) ∧ c ∈ t.cps.toList := by
  have hj := StrLaws.join_split z ⟨#[c]⟩
  have hf := StrLaws.split_free z c
  have hp := PyProof.Rows.split_pos z ⟨#[c]⟩
  generalize Txt.split z ⟨#[c]⟩ = W at *
  match W, hp with
  | [w], _ =>
    have hj : w = z := hj
    subst hj
    exact .inl ⟨_, rfl, partition_no (hf _ (List.mem_singleton.mpr rfl))⟩
  | [a, b], _ =>
    exact .inr (.inl ⟨a, b, rfl, partition_at (hf a (by simp)) hj.symm⟩)
  | a :: b :: d :: r, _ =>
    refine .inr (.inr ⟨a, b, d, r, _, rfl, partition_at (hf a (by simp)) hj.symm, ?_⟩)
    rw [join_two, tl_app, tl_app]; simp
def figW (w : Str) : Bool := decide (0 < w.length) && decide (w.length ≤ 30) && w.cps.toList.all figC
theorem figs_test (w : Str) (hz : w.length ≤ 100000) (h : w.length ≤ 30 → True) : mTest (mBlt bAll (mCons (mFz (mLcO (mItV (mVar 0)) (.nm 1) (mYes) (mOp fIn (mVar 1) (mC (.str "0123456789"))) [1])) (mNil))) [some (.str w), none] = .ok (w.cps.toList.all figC, [some (.str w), none]) := by
  have fa := figs_all w 1 [some (.str w), none] (a := mVar 0) rfl rfl hz
  have ba := ball_map figC w.cps.toList
  simp [fa, ba]
theorem pis_figures_eq {w : Str} (hz : w.length ≤ 100000) : f_pis_figures [.str w] = .ok (.bl (figW w), []) := by
  refine mFn_ok ?_
  have sz : szOk w.length = true := szOk_small (by omega)
  have ft := figs_test w hz (fun _ => trivial)
  unfold m_pis_figures figW
  generalize mTest (mBlt bAll (mCons (mFz (mLcO (mItV (mVar 0)) (.nm 1) (mYes) (mOp fIn (mVar 1) (mC (.str "0123456789"))) [1])) (mNil))) = FT at *
  generalize w.cps.toList.all figC = b at *
  have e : (w.length : Int) ≤ 30 ↔ w.length ≤ 30 := by omega
  by_cases h0 : 0 < w.length <;> by_cases h1 : w.length ≤ 30 <;> simp [sz, ft, h0, h1, e]
theorem lis_figures_eq {w : Str} (hz : w.length ≤ 100000) : f_lis_figures [.str w] = .ok (.bl (figW w), []) := by
  refine mFn_ok ?_
  have sz : szOk w.length = true := szOk_small (by omega)
  have ft := figs_test w hz (fun _ => trivial)
  unfold m_lis_figures figW
  generalize mTest (mBlt bAll (mCons (mFz (mLcO (mItV (mVar 0)) (.nm 1) (mYes) (mOp fIn (mVar 1) (mC (.str "0123456789"))) [1])) (mNil))) = FT at *
  generalize w.cps.toList.all figC = b at *
  have e : (w.length : Int) < 31 ↔ w.length ≤ 30 := by omega
  by_cases h0 : 0 < w.length <;> by_cases h1 : w.length ≤ 30 <;> simp [sz, ft, h0, h1, e]
theorem figW_of {w : Str} (h : figW w = true) : 1 ≤ w.length ∧ w.length ≤ 30 ∧ w.cps.toList.all figC = true := by
  unfold figW at h
  simp only [Bool.and_eq_true, decide_eq_true_eq] at h
  exact ⟨h.1.1, h.1.2, h.2⟩
theorem lvalue_eq {w : Str} (hz : w.length ≤ 1000) (hf : w.cps.toList.all figC = true) : f_lvalue [.str w] = .ok (.int (digV w.cps.toList : Nat), []) := by
  refine mFn_ok ?_
  have lp := loop_junk (g := gSet 2) (b := b_lvalue_0) (fun (s : Nat) z => [some (.str w), some (.int s), z]) (fun c : Nat => .str ⟨#[c]⟩) (fun s c => s * 10 + (c - 48)) (fun _ _ => True) w.cps.toList 0 none trivial (by
    intro i s z c hc hi hlt
    obtain ⟨d, hd, rfl⟩ := figC_of (List.all_eq_true.mp hf c hc)
    have e : 48 + d - 48 = d := by omega
    have m1 : mulOk 10 (s : Int) = true := mulOk_l (by decide) (by decide)
    refine ⟨trivial, _, rfl, some (.str ⟨#[48 + d]⟩), ?_⟩
    have ix := index_fig hd
    have cm : (10 : Int) * s + d = s * 10 + d := by omega
    simp [b_lvalue_0, m1, smE_ok ix, e, cm])
  obtain ⟨⟨z, lp⟩, _⟩ := lp
  have it : itemsOf (.str w) = some (signsM w) := rfl
  have lp : mLoop (gSet 2) b_lvalue_0 (signsM w) [some (.str w), some (.int 0), none] = .ok (.nx, [some (.str w), some (.int (digV w.cps.toList : Nat)), z]) := lp
  generalize digV w.cps.toList = V at *
  generalize signsM w = SG at *
  simp [m_lvalue, it, lp]
theorem dot_eq : Str.ofString "." = ⟨#[46]⟩ := rfl
theorem not_figW {t : Str} (h : 46 ∈ t.cps.toList) : figW t = false := by
  have : t.cps.toList.all figC = false := by
    cases e : t.cps.toList.all figC with
    | false => rfl
    | true => have := List.all_eq_true.mp e 46 h; cases this
  unfold figW
  rw [this]; simp
theorem partM {z : Str} (hz : z.length ≤ 100000) : smPartition z [.str (Str.ofString ".")] = some (.tup [.str (Txt.partition z (Str.ofString ".")).1, .str (Txt.partition z (Str.ofString ".")).2.1, .str (Txt.partition z (Str.ofString ".")).2.2]) := if_pos ⟨rfl, by rw [sizeLine_eq]; omega⟩
theorem part_len {z y : Str} : (Txt.partition z y).1.length ≤ z.length ∧ (Txt.partition z y).2.1.length ≤ z.length ∧ (Txt.partition z y).2.2.length ≤ z.length := PyProof.Rows.fact_partition z y
def wordsN (z : Str) : Option (Str × Str) := match Txt.split z (Str.ofString ".") with
  | [a] => if figW a then some (a, Str.empty) else none
  | [a, b] => if figW a && figW b then some (a, b) else none
  | _ => none
theorem pparts_of_eq {z : Str} (hz : z.length ≤ 100000) : f_pparts_of [.str z] = match wordsN z with | some (a, b) => .ok (.tup [.str a, .str b], []) | none => .exc ⟨"NoText", []⟩ [] := by
  have pm := partM hz
  have pl := @part_len z (Str.ofString ".")
  unfold wordsN
  rw [dot_eq] at *
  rcases part_split z 46 with ⟨w, e1, e2⟩ | ⟨a, b, e1, e2⟩ | ⟨a, b, d, r, t, e1, e2, hm⟩
  · rw [e1]
    rw [e2] at pm pl
    have f1 := pis_figures_eq (w := w) (by have := pl.1; simp at this; omega)
    have ne : ¬ Str.empty = (⟨#[46]⟩ : Str) := by intro h; injection h with h; simp at h
    show f_pparts_of [.str z] = match (if figW w then some (w, Str.empty) else none) with | some (a, b) => _ | none => _
    cases hf : figW w with
    | true =>
      rw [hf] at f1
      exact mFn_ok ⟨[some (.str z), some (.str w), some (.str Str.empty), some (.str Str.empty)], by simp [m_pparts_of, dot_eq, smE_ok pm, f1, ne, szOk_small]⟩
    | false =>
      rw [hf] at f1
      exact mFn_exc ⟨[some (.str z), some (.str w), some (.str Str.empty), some (.str Str.empty)], by simp [m_pparts_of, dot_eq, smE_ok pm, f1, szOk_small]⟩
  · rw [e1]
    rw [e2] at pm pl
    have f1 := pis_figures_eq (w := a) (by have := pl.1; simp at this; omega)
    have f2 := pis_figures_eq (w := b) (by have := pl.2.2; simp at this; omega)
    show f_pparts_of [.str z] = match (if figW a && figW b then some (a, b) else none) with | some (a, b) => _ | none => _
    cases hf : figW a with
    | true =>
      rw [hf] at f1
      cases hg : figW b with
      | true =>
        rw [hg] at f2
        exact mFn_ok ⟨[some (.str z), some (.str a), some (.str ⟨#[46]⟩), some (.str b)], by simp [m_pparts_of, dot_eq, smE_ok pm, f1, f2, szOk_small]⟩
      | false =>
        rw [hg] at f2
        exact mFn_exc ⟨[some (.str z), some (.str a), some (.str ⟨#[46]⟩), some (.str b)], by simp [m_pparts_of, dot_eq, smE_ok pm, f1, f2, szOk_small]⟩
    | false =>
      rw [hf] at f1
      exact mFn_exc ⟨[some (.str z), some (.str a), some (.str ⟨#[46]⟩), some (.str b)], by simp [m_pparts_of, dot_eq, smE_ok pm, f1, szOk_small]⟩
  · rw [e1]
    rw [e2] at pm pl
    have f1 := pis_figures_eq (w := a) (by have := pl.1; simp at this; omega)
    have f2 := pis_figures_eq (w := t) (by have := pl.2.2; simp at this; omega)
    rw [not_figW hm] at f2
    show f_pparts_of [.str z] = .exc ⟨"NoText", []⟩ []
    cases hf : figW a with
    | true =>
      rw [hf] at f1
      exact mFn_exc ⟨[some (.str z), some (.str a), some (.str ⟨#[46]⟩), some (.str t)], by simp [m_pparts_of, dot_eq, smE_ok pm, f1, f2, szOk_small]⟩
    | false =>
      rw [hf] at f1
      exact mFn_exc ⟨[some (.str z), some (.str a), some (.str ⟨#[46]⟩), some (.str t)], by simp [m_pparts_of, dot_eq, smE_ok pm, f1, szOk_small]⟩
theorem cut_from (z : Str) (k : Nat) : (cutS z (some (k : Int)) none).cps.toList = z.cps.toList.drop k := by
  have hl : z.cps.toList.length = z.length := Array.length_toList
  unfold cutS
  simp [HT.sIx, show ¬ (k : Int) < 0 by omega]
  by_cases e : k ≤ z.length
  · rw [Nat.min_eq_left e, List.take_of_length_le (by rw [List.length_drop]; omega)]
  · rw [Nat.min_eq_right (by omega), List.drop_of_length_le (by omega), List.drop_of_length_le (by omega)]; simp
theorem cut_to (z : Str) (k : Nat) : (cutS z none (some (k : Int))).cps.toList = z.cps.toList.take k := by
  have hl : z.cps.toList.length = z.length := Array.length_toList
  unfold cutS
  rw [HT.sIx_nat]
  show ((z.cps.toList.drop 0).take (min k z.length - 0)).toArray.toList = _
  rw [List.drop_zero, Nat.sub_zero, ← hl]
  exact List.take_eq_take_min.symm
theorem ten_le (p : Nat) (hp : p ≤ 18) : (10 : Int) ^ p < 2 ^ 64 := by
  have h := Nat.pow_le_pow_right (n := 10) (by decide) hp
  have e : (10 : Int) ^ p = ((10 ^ p : Nat) : Int) := by push_cast; rfl
  have b : (10 : Nat) ^ 18 < 2 ^ 64 := by decide
  rw [e]
  have : ((10 ^ p : Nat) : Int) < ((2 ^ 64 : Nat) : Int) := Int.ofNat_lt.mpr (Nat.lt_of_le_of_lt h b)
  exact this
def minT (T : Str) : Bool := decide (T.cps.toList.head? = some 45)
theorem dash_eq : Str.ofString "-" = ⟨#[45]⟩ := rfl
theorem minus_iff (T : Str) : decide (cutS T none (some 1) = Str.ofString "-") = minT T := by
  have h := cut_to T 1
  unfold minT
  rw [dash_eq]
  have e : (cutS T none (some 1) = (⟨#[45]⟩ : Str)) ↔ T.cps.toList.head? = some 45 := by
    have h : (cutS T none (some 1)).cps.toList = T.cps.toList.take 1 := h
    constructor
    · intro q
      rw [q] at h
      cases hc : T.cps.toList with
      | nil => rw [hc] at h; simp at h
      | cons a r => rw [hc] at h; simp at h; rw [h]; rfl
    · intro q
      refine str_ext ?_
      rw [h]
      cases hc : T.cps.toList with
      | nil => rw [hc] at q; simp at q
      | cons a r => rw [hc] at q; simp at q; rw [q]; rfl
  exact decide_eq_decide.mpr e
def sizeT (T : Str) : Str := if minT T then cutS T (some 1) none else T
theorem cut_zero (T : Str) : cutS T (some 0) none = T := str_ext (by have := cut_from T 0; simpa using this)
theorem sizeT_ne {T : Str} : decide (sizeT T = T) = !minT T := by
  unfold sizeT
  cases h : minT T with
  | false => simp
  | true =>
    have hc := cut_from T 1
    have hn : ¬ cutS T (some 1) none = T := by
      intro e
      have hc : (cutS T (some 1) none).cps.toList = T.cps.toList.drop 1 := hc
      rw [e] at hc
      unfold minT at h
      cases hl : T.cps.toList with
      | nil => rw [hl] at h; simp at h
      | cons a r =>
        rw [hl] at hc
        have := congrArg List.length hc
        simp at this
    simp [hn]
theorem sizeT_len (T : Str) : (sizeT T).length ≤ T.length := by
  unfold sizeT
  split
  · exact len_cut
  · exact Nat.le_refl _
def tolN (lo hi : Int) (p : Nat) (m : Bool) (a b : Str) : Option Int :=
  if digV (a ++ b).cps.toList * 10 ^ p % 10 ^ b.length = 0 then
    (if lo ≤ (if m then -((digV (a ++ b).cps.toList * 10 ^ p / 10 ^ b.length : Nat) : Int) else ((digV (a ++ b).cps.toList * 10 ^ p / 10 ^ b.length : Nat) : Int)) ∧ (if m then -((digV (a ++ b).cps.toList * 10 ^ p / 10 ^ b.length : Nat) : Int) else ((digV (a ++ b).cps.toList * 10 ^ p / 10 ^ b.length : Nat) : Int)) ≤ hi
      then some (if m then -((digV (a ++ b).cps.toList * 10 ^ p / 10 ^ b.length : Nat) : Int) else ((digV (a ++ b).cps.toList * 10 ^ p / 10 ^ b.length : Nat) : Int)) else none)
  else none
theorem wordsN_some {z a b : Str} (h : wordsN z = some (a, b)) : figW a = true ∧ (b = Str.empty ∨ figW b = true) := by
  unfold wordsN at h
  split at h
  · split at h
    · rename_i w e hf
      cases h
      exact ⟨hf, .inl rfl⟩
    · cases h
  · split at h
    · rename_i x y e hf
      cases h
      simp only [Bool.and_eq_true] at hf
      exact ⟨hf.1, .inr hf.2⟩
    · cases h
  · cases h
theorem words_fig {z a b : Str} (h : wordsN z = some (a, b)) : 1 ≤ (a ++ b).cps.toList.length ∧ (a ++ b).cps.toList.length ≤ 60 ∧ (a ++ b).cps.toList.all figC = true ∧ b.length ≤ 30 ∧ a.length ≤ 30 := by
  obtain ⟨h1, h2⟩ := wordsN_some h
  obtain ⟨a1, a2, a3⟩ := figW_of h1
  have la : a.cps.toList.length = a.length := Array.length_toList
  have lb : b.cps.toList.length = b.length := Array.length_toList
  have hb : b.length ≤ 30 ∧ b.cps.toList.all figC = true := by
    rcases h2 with rfl | h2
    · exact ⟨by decide, rfl⟩
    · exact ⟨(figW_of h2).2.1, (figW_of h2).2.2⟩
  rw [tl_app, List.length_append, List.all_append, a3, hb.2]
  exact ⟨by omega, by omega, rfl, hb.1, a2⟩
theorem ptold_eq {kd sg : Str} {n p : Nat} (h1 : 1 ≤ n ∧ n < 100) (hp : p ≤ 18) {T : Str} (hz : T.length ≤ 100000) :
    f_ptold [Form kd n sg (.int p), .str T] = match wordsN (sizeT T) with
      | none => .exc ⟨"NoText", []⟩ []
      | some (a, b) => match tolN (least n sg) (most n sg) p (minT T) a b with
        | some s => .ok (.int s, [])
        | none => .exc ⟨"NoFit", [("number", .str T)]⟩ [] := by
  have sz : szOk T.length = true := szOk_small (by omega)
  have mi := minus_iff T
  have ne := @sizeT_ne T
  have st : ∀ X, cutS T (some (if minT T = true then 1 else 0)) none = X ↔ sizeT T = X := by
    intro X
    unfold sizeT
    cases minT T with
    | true => exact Iff.rfl
    | false => simp [cut_zero]
  have pp := pparts_of_eq (z := sizeT T) (by have := sizeT_len T; omega)
  have st2 : cutS T (some (if minT T = true then 1 else 0)) none = sizeT T := (st _).mpr rfl
  obtain ⟨fx, hfx⟩ : ∃ fx, Form kd n sg (.int p) = .tup fx := ⟨_, rfl⟩
  have f3 : atI fx 3 = some (.int p) := by unfold Form at hfx; cases hfx; rfl
  cases hw : wordsN (sizeT T) with
  | none =>
    rw [hw] at pp
    have pp : f_pparts_of [.str (sizeT T)] = .exc ⟨"NoText", []⟩ [] := pp
    generalize sizeT T = S at *
    refine mFn_exc ⟨[some (Form kd n sg (.int p)), some (.str T), some (.str S), none, none, none, none], ?_⟩
    rw [hfx]
    simp [m_ptold, sz, mi, st2, pp]
  | some ab =>
    obtain ⟨a, b⟩ := ab
    rw [hw] at pp
    obtain ⟨w1, w2, w3, w4, w5⟩ := words_fig hw
    have pp : f_pparts_of [.str (sizeT T)] = .ok (.tup [.str a, .str b], []) := pp
    have lab : (a ++ b).cps.toList.length = (a ++ b).length := Array.length_toList
    have bi := int_figs (w := a ++ b) w1 (by omega) w3
    have za : szOk (a.length + b.length) = true := szOk_small (by omega)
    have zb : szOk b.length = true := szOk_small (by omega)
    have pt := @pten_eq (p : Int) (by omega) (by omega)
    have pb := @pten_eq (b.length : Int) (by omega) (by omega)
    rw [Int.toNat_natCast] at pt pb
    have mk : mulOk (digV (a ++ b).cps.toList : Nat) ((10 : Int) ^ p) = true := mulOk_r (by have : (0 : Int) < 10 ^ p := Int.pow_pos (by decide); omega) (ten_le p hp)
    have pf := @pfits_eq kd sg n (.int p) h1
    show f_ptold [Form kd n sg (.int p), .str T] = match tolN (least n sg) (most n sg) p (minT T) a b with | some s => _ | none => _
    unfold tolN
    have dv : divOk ((10 : Int) ^ b.length) = true := divOk_ten (by omega)
    have cU : ((10 : Int) ^ b.length) = ((10 ^ b.length : Nat) : Int) := by push_cast; rfl
    have cN : ((digV (a ++ b).cps.toList : Nat) : Int) * (10 : Int) ^ p = ((digV (a ++ b).cps.toList * 10 ^ p : Nat) : Int) := by push_cast; rfl
    have fm := nat_fmod (digV (a ++ b).cps.toList * 10 ^ p) (10 ^ b.length)
    have fd := nat_fdiv (digV (a ++ b).cps.toList * 10 ^ p) (10 ^ b.length)
    have nz : ¬ ((10 : Int) ^ b.length = 0) := by have : (0 : Int) < 10 ^ b.length := Int.pow_pos (by decide); omega
    rw [← cU, ← cN] at fm fd
    generalize digV (a ++ b).cps.toList * 10 ^ p = N at *
    generalize hU : 10 ^ b.length = U at *
    generalize hUi : (10 : Int) ^ b.length = Ui at *
    generalize hPi : (10 : Int) ^ p = Pi at *
    generalize digV (a ++ b).cps.toList = V at *
    generalize hNi : (V : Int) * Pi = Ni at *
    generalize hS : sizeT T = S at *
    generalize hm : minT T = m at *
    generalize hq : N / U = q at *
    by_cases hr : N % U = 0
    · rw [if_pos hr]
      have fm : Ni.fmod Ui = 0 := by rw [fm, hr]; rfl
      have pf2 := pf (if m = true then -(q : Int) else (q : Int))
      generalize hX : (if m = true then -(q : Int) else (q : Int)) = X at *
      have nx : (if (!(!m)) = true then Res.ok (MV.int (-(q : Int)), ()) else .ok (.int q, ())) = Res.ok (.int X, ()) := by rw [← hX]; cases m <;> rfl
      rw [hfx] at pf2 ⊢
      by_cases hl : least n sg ≤ X ∧ X ≤ most n sg
      · rw [if_pos hl]
        rw [decide_eq_true hl.1, decide_eq_true hl.2] at pf2
        cases m with
        | true =>
          have hX : X = -(q : Int) := hX.symm
          rw [hX] at pf2 ⊢
          simp at ne st2
          exact mFn_ok ⟨[some (.tup fx), some (.str T), some (.str S), some (.int (-(q : Int))), some (.int Ui), some (.str a), some (.str b)], by simp [m_ptold, sz, mi, st2, pp, za, bi, f3, pt, mk, zb, pb, nz, fm, dv, fd, ne, pf2, hNi]⟩
        | false =>
          have hX : X = (q : Int) := hX.symm
          rw [hX] at pf2 ⊢
          simp at ne st2
          subst ne
          exact mFn_ok ⟨[some (.tup fx), some (.str S), some (.str S), some (.int (q : Int)), some (.int Ui), some (.str a), some (.str b)], by simp [m_ptold, sz, mi, st2, pp, za, bi, f3, pt, mk, zb, pb, nz, fm, dv, fd, pf2, hNi]⟩
      · rw [if_neg hl]
        have pf3 : f_pfits [.tup fx, .int X] = .ok (.bl false, []) := by
          have : (decide (least n sg ≤ X) && decide (X ≤ most n sg)) = false := by
            cases hb : (decide (least n sg ≤ X) && decide (X ≤ most n sg)) with
            | true => rw [Bool.and_eq_true] at hb; exact absurd ⟨of_decide_eq_true hb.1, of_decide_eq_true hb.2⟩ hl
            | false => rfl
          rw [this] at pf2
          exact pf2
        cases m with
        | true =>
          have hX : X = -(q : Int) := hX.symm
          rw [hX] at pf3
          simp at ne st2
          exact mFn_exc ⟨[some (.tup fx), some (.str T), some (.str S), some (.int (-(q : Int))), some (.int Ui), some (.str a), some (.str b)], by simp [m_ptold, sz, mi, st2, pp, za, bi, f3, pt, mk, zb, pb, nz, fm, dv, fd, ne, pf3, hNi]⟩
        | false =>
          have hX : X = (q : Int) := hX.symm
          rw [hX] at pf3
          simp at ne st2
          subst ne
          exact mFn_exc ⟨[some (.tup fx), some (.str S), some (.str S), some (.int (q : Int)), some (.int Ui), some (.str a), some (.str b)], by simp [m_ptold, sz, mi, st2, pp, za, bi, f3, pt, mk, zb, pb, nz, fm, dv, fd, pf3, hNi]⟩
    · rw [if_neg hr]
      have fm2 : ¬ Ni.fmod Ui = 0 := by rw [fm]; omega
      rw [hfx]
      exact mFn_exc ⟨[some (.tup fx), some (.str T), some (.str S), some (.int Ni), some (.int Ui), some (.str a), some (.str b)], by simp [m_ptold, sz, mi, st2, pp, za, bi, f3, pt, mk, zb, pb, nz, fm2, hNi]⟩
def lread8 (n : Nat) (sg : Str) (p : Nat) (T : Str) : MV := match wordsN (sizeT T) with
  | none => .tup [.str "text", .int 0]
  | some (a, b) => match tolN (least n sg) (most n sg) p (minT T) a b with
    | some s => .tup [.str "number", .int s]
    | none => .tup [.str "fit", .int 0]
theorem join_e1 (a : Str) : Txt.join (Str.ofString "") [a] = a := by rw [txt_join]; rfl
theorem app_empty (a : Str) : a ++ Str.empty = a := str_ext (by rw [tl_app]; simp [Str.empty])
theorem join_e2 (a b : Str) : Txt.join (Str.ofString "") [a, b] = a ++ b := by
  rw [txt_join]
  show a ++ Str.ofString "" ++ b = a ++ b
  exact str_ext (by rw [tl_app, tl_app, tl_app]; simp [show (Str.ofString "").cps.toList = [] from rfl])
theorem join_e0 : Txt.join (Str.ofString "") [] = Str.empty := rfl
theorem words_lc {W : List Str} {x0 x1 x2 x4 x5 : Option MV} (hW : ∀ w ∈ W, w.length ≤ 100000) (hl : W.length ≤ 200000) :
    mLcO (mItV (mVar 3)) (.nm 6) mYes (mFz (mCall0 f_lis_figures (mCons (mVar 6) mNil))) [6] [x0, x1, x2, some (.lst (W.map MV.str)), x4, x5, none] = .ok (.own (W.map fun w => .bl (figW w)), [x0, x1, x2, some (.lst (W.map MV.str)), x4, x5, none]) := by
  refine mLcO_it MV.str (fun w => .bl (figW w)) (by simp) rfl (fun w hw => ?_) (by rw [sizeLine_eq]; omega)
  have := lis_figures_eq (hW w hw)
  simp [this]
theorem lreading_eq {kd sg : Str} {n p : Nat} (h1 : 1 ≤ n ∧ n < 100) (hs : sg = "none" ∨ sg = "end" ∨ sg = "tens") (hp : p ≤ 18) {T : Str} (hz : T.length ≤ 100000) :
    f_lreading [Form kd n sg (.int p), .str T] = .ok (lread8 n sg p T, []) := by
  have sz : szOk T.length = true := szOk_small (by omega)
  have mi := minus_iff T
  have st2 : cutS T (some (if minT T = true then 1 else 0)) none = sizeT T := by
    unfold sizeT
    cases minT T with
    | true => rfl
    | false => exact cut_zero T
  have sl := sizeT_len T
  have hsp := split_sp (l := sizeT T) (by omega) (Str.ofString ".") rfl
  have hle := PyProof.Rows.split_le (sizeT T) (Str.ofString ".")
  have hsh : ∀ a ∈ Txt.split (sizeT T) (Str.ofString "."), a.length ≤ 100000 := fun a h => by have := PyProof.Rows.part_short h; omega
  have lc := fun x0 x1 x2 x4 x5 => @words_lc (Txt.split (sizeT T) (Str.ofString ".")) x0 x1 x2 x4 x5 hsh (by omega)
  have ba := ball_map figW (Txt.split (sizeT T) (Str.ofString "."))
  have hpos := PyProof.Rows.split_pos (sizeT T) (Str.ofString ".")
  obtain ⟨fx, hfx⟩ : ∃ fx, Form kd n sg (.int p) = .tup fx := ⟨_, rfl⟩
  have f3 : atI fx 3 = some (.int p) := by unfold Form at hfx; cases hfx; rfl
  have wl : ((Txt.split (sizeT T) (Str.ofString ".")).map MV.str).length = (Txt.split (sizeT T) (Str.ofString ".")).length := by simp
  -- what the two words give
  have fin : ∀ (a b : Str) (W : List Str), W = Txt.split (sizeT T) (Str.ofString ".") → wordsN (sizeT T) = some (a, b) → W.length ≤ 2 → Txt.join (Str.ofString "") W = a ++ b → Txt.join (Str.ofString "") (W.drop 1) = b → (W.all figW = true) → ∃ ρ, m_lreading [some (Form kd n sg (.int p)), some (.str T), none, none, none, none, none] = .ok (.rt (lread8 n sg p T), ρ) := by
    intro a b W hW hw h2 j1 j2 hall
    have e8 : lread8 n sg p T = match tolN (least n sg) (most n sg) p (minT T) a b with
        | some s => .tup [.str "number", .int s]
        | none => .tup [.str "fit", .int 0] := by
      unfold lread8
      rw [hw]
    rw [e8]
    rw [← hW] at lc ba hsp wl hsh
    obtain ⟨w1, w2, w3, w4, w5⟩ := words_fig hw
    have lab : (a ++ b).cps.toList.length = (a ++ b).length := Array.length_toList
    have k1 : smJoin (Str.ofString "") [.lst (W.map MV.str)] = some (.str (a ++ b)) := by
      rw [← j1]
      refine join_ok ?_
      have e0 : (Str.ofString "").length = 0 := rfl
      have : (W.map (·.length)).sum ≤ W.length * 30 := sum_le fun w hw2 => (figW_of (List.all_eq_true.mp hall w hw2)).2.1
      rw [e0]; omega
    have k2 : smJoin (Str.ofString "") [.lst ((W.drop 1).map MV.str)] = some (.str b) := by
      rw [← j2]
      refine join_ok ?_
      have e0 : (Str.ofString "").length = 0 := rfl
      have : ((W.drop 1).map (·.length)).sum ≤ (W.drop 1).length * 30 := sum_le fun w hw2 => (figW_of (List.all_eq_true.mp hall w (List.mem_of_mem_drop hw2))).2.1
      have : (W.drop 1).length ≤ 2 := by rw [List.length_drop]; omega
      rw [e0]; omega
    have ct : cutM (W.map MV.str) (some 1) none = (W.drop 1).map MV.str := by rw [cutM_from (by decide), List.map_drop]; rfl
    have lv := lvalue_eq (w := a ++ b) (by omega) w3
    have zb : szOk b.length = true := szOk_small (by omega)
    have pt := @lpower_eq 10 (p : Int) (by decide) (by omega) (by omega)
    have pb := @lpower_eq 10 (b.length : Int) (by decide) (by omega) (by omega)
    rw [Int.toNat_natCast] at pt pb
    have mk : mulOk (digV (a ++ b).cps.toList : Nat) ((10 : Int) ^ p) = true := mulOk_r (by have : (0 : Int) < 10 ^ p := Int.pow_pos (by decide); omega) (ten_le p hp)
    have pf := @lfits_eq kd sg n (.int p) h1 hs
    have h3 : ¬ (2 : Int) < W.length := by omega
    rw [hall] at ba
    unfold tolN
    have dv : divOk ((10 : Int) ^ b.length) = true := divOk_ten (by omega)
    have cU : ((10 : Int) ^ b.length) = ((10 ^ b.length : Nat) : Int) := by push_cast; rfl
    have cN : ((digV (a ++ b).cps.toList : Nat) : Int) * (10 : Int) ^ p = ((digV (a ++ b).cps.toList * 10 ^ p : Nat) : Int) := by push_cast; rfl
    have fm := nat_fmod (digV (a ++ b).cps.toList * 10 ^ p) (10 ^ b.length)
    have fd := nat_fdiv (digV (a ++ b).cps.toList * 10 ^ p) (10 ^ b.length)
    have nz : ¬ ((10 : Int) ^ b.length = 0) := by have : (0 : Int) < 10 ^ b.length := Int.pow_pos (by decide); omega
    have mi1 : mulOk 2 1 = true := rfl
    have mi0 : mulOk 2 0 = true := rfl
    have mq : ∀ q : Int, mulOk q (-1) = true := fun q => mulOk_r (by decide) (by decide)
    have mq1 : ∀ q : Int, mulOk q 1 = true := fun q => mulOk_r (by decide) (by decide)
    rw [← cU, ← cN] at fm fd
    unfold fitsM at pf
    generalize digV (a ++ b).cps.toList * 10 ^ p = N at *
    generalize hU : 10 ^ b.length = U at *
    generalize hUi : (10 : Int) ^ b.length = Ui at *
    generalize hPi : (10 : Int) ^ p = Pi at *
    generalize digV (a ++ b).cps.toList = V at *
    generalize hNi : (V : Int) * Pi = Ni at *
    generalize sizeT T = S at *
    generalize minT T = m at *
    generalize hq : N / U = q at *
    generalize (W.drop 1).map MV.str = WD at *
    generalize hWF : (W.map fun w => MV.bl (figW w)) = WF at *
    generalize W.map MV.str = WM at *
    by_cases hr : N % U = 0
    · rw [if_pos hr]
      have fm : Ni.fmod Ui = 0 := by rw [fm, hr]; rfl
      have pf2 := pf (if m = true then -(q : Int) else (q : Int))
      generalize hX : (if m = true then -(q : Int) else (q : Int)) = X at *
      rw [hfx] at pf2 ⊢
      by_cases hl : least n sg ≤ X ∧ X ≤ most n sg
      · rw [if_pos hl]
        rw [decide_eq_true hl.1, decide_eq_true hl.2] at pf2
        cases m with
        | true =>
          have hX : X = -(q : Int) := hX.symm
          rw [hX] at pf2 ⊢
          simp at st2 mi
          simp [m_lreading, sz, mi, st2, smE_ok hsp, wl, h3, lc, ba, smE_ok k1, smE_ok k2, ct, lv, f3, pt, mk, zb, pb, nz, fm, dv, fd, pf2, hNi, mi1, mq, szOk_small]
        | false =>
          have hX : X = (q : Int) := hX.symm
          rw [hX] at pf2 ⊢
          simp at st2 mi
          simp [m_lreading, sz, mi, st2, smE_ok hsp, wl, h3, lc, ba, smE_ok k1, smE_ok k2, ct, lv, f3, pt, mk, zb, pb, nz, fm, dv, fd, pf2, hNi, mi0, mq1, szOk_small]
      · rw [if_neg hl]
        have pf3 : f_lfits [.tup fx, .int X] = .ok (.bl false, []) := by
          have : (decide (least n sg ≤ X) && decide (X ≤ most n sg)) = false := by
            cases hb : (decide (least n sg ≤ X) && decide (X ≤ most n sg)) with
            | true => rw [Bool.and_eq_true] at hb; exact absurd ⟨of_decide_eq_true hb.1, of_decide_eq_true hb.2⟩ hl
            | false => rfl
          rw [this] at pf2
          exact pf2
        cases m with
        | true =>
          have hX : X = -(q : Int) := hX.symm
          rw [hX] at pf3
          simp at st2 mi
          simp [m_lreading, sz, mi, st2, smE_ok hsp, wl, h3, lc, ba, smE_ok k1, smE_ok k2, ct, lv, f3, pt, mk, zb, pb, nz, fm, dv, fd, pf3, hNi, mi1, mq, szOk_small]
        | false =>
          have hX : X = (q : Int) := hX.symm
          rw [hX] at pf3
          simp at st2 mi
          simp [m_lreading, sz, mi, st2, smE_ok hsp, wl, h3, lc, ba, smE_ok k1, smE_ok k2, ct, lv, f3, pt, mk, zb, pb, nz, fm, dv, fd, pf3, hNi, mi0, mq1, szOk_small]
    · rw [if_neg hr]
      have fm2 : (0 : Int) < Ni.fmod Ui := by rw [fm]; omega
      rw [hfx]
      simp [m_lreading, sz, mi, st2, smE_ok hsp, wl, h3, lc, ba, smE_ok k1, smE_ok k2, ct, lv, f3, pt, mk, zb, pb, nz, fm2, hNi, szOk_small]
  -- the words are no figures, or more than two
  have no : wordsN (sizeT T) = none → ((2 < (Txt.split (sizeT T) (Str.ofString ".")).length) ∨ (Txt.split (sizeT T) (Str.ofString ".")).all figW = false) → ∃ ρ, m_lreading [some (Form kd n sg (.int p)), some (.str T), none, none, none, none, none] = .ok (.rt (lread8 n sg p T), ρ) := by
    intro hw hor
    unfold lread8
    rw [hw]
    clear fin
    generalize Txt.split (sizeT T) (Str.ofString ".") = W at *
    generalize sizeT T = S at *
    generalize minT T = m at *
    generalize hWF : (W.map fun w => MV.bl (figW w)) = WF at *
    generalize W.map MV.str = WM at *
    rw [hfx]
    by_cases h2 : 2 < W.length
    · have h3 : (2 : Int) < W.length := by omega
      simp [m_lreading, sz, mi, st2, smE_ok hsp, wl, h3, szOk_small]
    · have h3 : ¬ (2 : Int) < W.length := by omega
      have ha : W.all figW = false := by
        rcases hor with h | h
        · exact absurd h h2
        · exact h
      rw [ha] at ba
      simp [m_lreading, sz, mi, st2, smE_ok hsp, wl, h3, lc, ba, szOk_small]
  refine mFn_ok ?_
  show ∃ ρ, m_lreading [some (Form kd n sg (.int p)), some (.str T), none, none, none, none, none] = _
  have hdef : wordsN (sizeT T) = match Txt.split (sizeT T) (Str.ofString ".") with
    | [a] => if figW a then some (a, Str.empty) else none
    | [a, b] => if figW a && figW b then some (a, b) else none
    | _ => none := rfl
  generalize hW : Txt.split (sizeT T) (Str.ofString ".") = W at *
  match W, hpos with
  | [a], _ =>
    have hdef : wordsN (sizeT T) = if figW a then some (a, Str.empty) else none := hdef
    cases ha : figW a with
    | true =>
      rw [ha] at hdef
      exact fin a Str.empty [a] rfl hdef (by simp) (by rw [join_e1, app_empty]) join_e0 (by simp [ha])
    | false =>
      rw [ha] at hdef
      exact no hdef (.inr (by simp [ha]))
  | [a, b], _ =>
    have hdef : wordsN (sizeT T) = if figW a && figW b then some (a, b) else none := hdef
    cases ha : (figW a && figW b) with
    | true =>
      rw [ha] at hdef
      rw [Bool.and_eq_true] at ha
      exact fin a b [a, b] rfl hdef (by simp) (join_e2 a b) (join_e1 b) (by simp [ha])
    | false =>
      rw [ha] at hdef
      exact no hdef (.inr (by simpa using ha))
  | a :: b :: c :: r, _ =>
    have hdef : wordsN (sizeT T) = none := hdef
    exact no hdef (.inl (by simp))
theorem lseen_eq {kd sg : Str} {n p : Nat} (h1 : 1 ≤ n ∧ n < 100) (hp : p ≤ 18) {T : Str} (hz : T.length ≤ 100000) : f_lseen [Form kd n sg (.int p), .str T] = .ok (lread8 n sg p T, []) := by
  have pt := @ptold_eq kd sg n p h1 hp T hz
  obtain ⟨fx, hfx⟩ : ∃ fx, Form kd n sg (.int p) = .tup fx := ⟨_, rfl⟩
  rw [hfx] at pt ⊢
  refine mFn_ok ?_
  have lk1 : List.lookup (Str.ofString "NoText") [(Str.ofString "NoFit", false), (Str.ofString "NoText", true)] = some true := by decide +kernel
  have lk2 : List.lookup (Str.ofString "NoFit") [(Str.ofString "NoFit", false), (Str.ofString "NoText", true)] = some false := by decide +kernel
  have lk3 : List.lookup (Str.ofString "NoFit") [(Str.ofString "NoFit", true)] = some true := by decide +kernel
  have t1 : ∀ (mh : MX → MS) cs (a b c d : Option MV), handN 3 ⟨"NoText", []⟩ [a, b, c, d] (([("NoFit", false), ("NoText", true)], mh) :: cs) = endM 3 (mh ⟨"NoText", []⟩ [a, b, c, none]) := fun mh cs a b c d => handN_yes lk1 (by show 3 < 4; decide) rfl
  have t2 : ∀ (mh : MX → MS) cs (a b c d : Option MV), handN 3 ⟨"NoFit", [("number", .str T)]⟩ [a, b, c, d] (([("NoFit", false), ("NoText", true)], mh) :: cs) = handN 3 ⟨"NoFit", [("number", .str T)]⟩ [a, b, c, d] cs := fun mh cs a b c d => handN_no lk2
  have t3 : ∀ (mh : MX → MS) cs (a b c d : Option MV), handN 3 ⟨"NoFit", [("number", .str T)]⟩ [a, b, c, d] (([("NoFit", true)], mh) :: cs) = endM 3 (mh ⟨"NoFit", [("number", .str T)]⟩ [a, b, c, none]) := fun mh cs a b c d => handN_yes lk3 (by show 3 < 4; decide) rfl
  have k1 : List.lookup (Str.ofString "NoText") [(Str.ofString "NoText", false)] = some false := by decide +kernel
  have k2 : List.lookup (Str.ofString "NoText") [(Str.ofString "NoText", true)] = some true := by decide +kernel
  have k3 : List.lookup (Str.ofString "NoFit") [(Str.ofString "NoFit", false)] = some false := by decide +kernel
  have k4 : List.lookup (Str.ofString "number") [(Str.ofString "number", MV.str T)] = some (.str T) := by simp [List.lookup]
  unfold lread8
  cases hw : wordsN (sizeT T) with
  | none =>
    rw [hw] at pt
    have pt : f_ptold [.tup fx, .str T] = .exc ⟨"NoText", []⟩ [] := pt
    refine ⟨[some (.tup fx), some (.str T), some (.tup [.str "text", .int 0]), none], ?_⟩
    show m_lseen [some (.tup fx), some (.str T), none, none] = _
    simp [m_lseen, b_lseen_0, t1, k1, k2, pt, szOk_small]
  | some ab =>
    obtain ⟨a, b⟩ := ab
    rw [hw] at pt
    cases hf : tolN (least n sg) (most n sg) p (minT T) a b with
    | none =>
      have pt : f_ptold [.tup fx, .str T] = .exc ⟨"NoFit", [("number", .str T)]⟩ [] := by rw [pt]; simp only [hf]
      refine ⟨[some (.tup fx), some (.str T), some (.tup [.str "fit", .int 0]), none], ?_⟩
      show m_lseen [some (.tup fx), some (.str T), none, none] = Res.ok (Fl.rt (match tolN (least n sg) (most n sg) p (minT T) a b with | some s => _ | none => _), _)
      rw [hf]
      simp [m_lseen, b_lseen_0, t2, t3, k3, k4, pt, szOk_small]
    | some s =>
      have pt : f_ptold [.tup fx, .str T] = .ok (.int s, []) := by rw [pt]; simp only [hf]
      refine ⟨[some (.tup fx), some (.str T), some (.tup [.str "number", .int s]), none], ?_⟩
      show m_lseen [some (.tup fx), some (.str T), none, none] = Res.ok (Fl.rt (match tolN (least n sg) (most n sg) p (minT T) a b with | some s => _ | none => _), _)
      rw [hf]
      simp [m_lseen, b_lseen_0, pt, szOk_small]
theorem lread8_ok (n : Nat) (sg : Str) (p : Nat) (T : Str) : ∃ (w : Str) (z : Int), lread8 n sg p T = .tup [.str w, .int z] ∧ tOk w := by
  unfold lread8
  split
  · exact ⟨_, _, rfl, by unfold tOk; decide +kernel⟩
  · split
    · exact ⟨_, _, rfl, by unfold tOk; decide +kernel⟩
    · exact ⟨_, _, rfl, by unfold tOk; decide +kernel⟩
theorem lfigures_text_ok (m : Int) {k : Int} (h0 : 0 ≤ k) (hk : k < 1000) : ∃ z : Str, z.length = k.toNat ∧ f_lfigures_text [.int m, .int k] = .ok (.str z, []) := by
  have ir : inR k = true := inR_of (by omega) (by omega)
  obtain ⟨ρ', e, m', z, x3, hz, rfl⟩ := loop_nxr (g := gSet 3) (b := b_lfigures_text_0) (lo := 0) (c := 1) (n := k.toNat) (ρ := [some (.int m), some (.int k), some (.str (Str.ofString "")), none])
    (fun i ρ => ∃ (m' : Int) (z : Str) (x3 : Option MV), z.length = i ∧ ρ = [some (.int m'), some (.int k), some (.str z), x3]) ⟨m, _, none, rfl, rfl⟩ (by
      rintro i ρ hi ⟨m', z, x3, hz, rfl⟩
      refine ⟨_, rfl, ?_⟩
      have g1 := @fmod_ge' m' 10 (by decide)
      have g2 := @fmod_lt' m' 10 (by decide)
      obtain ⟨d, hd⟩ := Int.eq_ofNat_of_zero_le g1
      have hd : m'.fmod 10 = (d : Int) := hd
      have ix := ix_fig (d := d) (by omega)
      have dv : divOk 10 = true := rfl
      have c1 : (⟨#[48 + d]⟩ : Str).length = 1 := rfl
      have z1 : szOk (1 + z.length) = true := szOk_small (by omega)
      have hl : ((⟨#[48 + d]⟩ : Str) ++ z).length = i + 1 := by rw [len_app, c1]; omega
      refine ⟨[some (.int (m'.fdiv 10)), some (.int k), some (.str (⟨#[48 + d]⟩ ++ z)), some (.int (0 + (i : Nat) * 1))], ?_, _, _, _, hl, rfl⟩
      generalize (⟨#[48 + d]⟩ : Str) = C at *
      have m1 : fMod (.int m') (.int 10) = some (.int (d : Nat)) := by
        show (if decide ((10 : Int) ≠ 0) then some (MV.int (m'.fmod 10)) else none) = _
        rw [if_pos (by decide), hd]
      simp [b_lfigures_text_0, -fMod_ii, -fIx_s, m1, ix, c1, z1, dv])
  exact ⟨z, hz, mFn_ok ⟨[some (.int m'), some (.int k), some (.str z), x3], by simp [m_lfigures_text, ir, e]⟩⟩
theorem lsign_ok {a b : Int} (hb : 0 ≤ b) : ∃ c : Nat, f_lsign [.int a, .int b] = .ok (.str ⟨#[c]⟩, []) := by
  obtain ⟨S, hS⟩ : ∃ S : Str, Str.ofString " !\"#$&'()*+,-./0123456789:;<=>?@ABCDEFGHIJKLMNOPQRSTUVWXYZ[\\]^_`abcdefghijklmnopqrstuvwxyz{|}~" = S := ⟨_, rfl⟩
  obtain ⟨S2, hS2⟩ : ∃ S : Str, Str.ofString " -.0123456789" = S := ⟨_, rfl⟩
  have sl : S.cps.toList.length = S.length ∧ 1 ≤ S.length ∧ S.length ≤ 1000 := by rw [← hS]; decide +kernel
  have sl2 : S2.cps.toList.length = 13 ∧ S2.length = 13 := by rw [← hS2]; decide +kernel
  have nS : ¬ (S.length = 0) := by omega
  obtain ⟨x1, hx1, ex1⟩ := at_some (xs := S.cps.toList) (i := b.fmod (S.length : Int)) (fmod_ge' (by omega)) (by rw [sl.1]; exact fmod_lt' (by omega))
  obtain ⟨x2, hx2, ex2⟩ := at_some (xs := S2.cps.toList) (i := b.fmod 13) (fmod_ge' (by omega)) (by rw [sl2.1]; exact fmod_lt' (by omega))
  have zS : szOk S.length = true := szOk_small (by omega)
  have zS2 : szOk 13 = true := szOk_small (by omega)
  by_cases h : a < 3
  · exact ⟨x2, mFn_ok ⟨[some (.int a), some (.int b), none], by simp [m_lsign, hS2, h, sl2.2, zS2, ex2]⟩⟩
  · exact ⟨x1, mFn_ok ⟨[some (.int a), some (.int b), some (.str S)], by simp [m_lsign, hS, h, nS, zS, ex1]⟩⟩
theorem lspoilt8_ok {T : Str} (hT : T.length ≤ 50000) {a b c d e : Int} (hc : 0 ≤ c) :
    ∃ z : Str, z.length ≤ T.length * 2 + 1 ∧ f_lspoilt [.str T, .lst [.int a, .int b, .int c, .int d, .int e]] = .ok (.str z, []) := by
  obtain ⟨n, hn⟩ : ∃ n, T.length = n := ⟨_, rfl⟩
  have tz : szOk n = true := szOk_small (by omega)
  have cut := fun lo hi => @len_cut T lo hi
  obtain ⟨p, hp⟩ : ∃ p : Int, a.fmod ((n : Int) + 1) = p := ⟨_, rfl⟩
  have n1 : ¬ ((n : Int) + 1 = 0) := by omega
  obtain ⟨s, hs⟩ := @lsign_ok b c hc
  obtain ⟨C, hC⟩ : ∃ C : Str, (⟨#[s]⟩ : Str) = C := ⟨_, rfl⟩
  have l1 : C.length = 1 := by rw [← hC]; rfl
  rw [hC] at hs
  rw [hn] at cut hT
  have a1 : ∀ lo hi : Option Int, szOk ((cutS T lo hi).length + 1) = true := fun lo hi => szOk_small (by have := cut lo hi; omega)
  have a2 : ∀ lo hi lo2 hi2 : Option Int, szOk ((cutS T lo hi).length + 1 + (cutS T lo2 hi2).length) = true := fun lo hi lo2 hi2 => szOk_small (by have := cut lo hi; have := cut lo2 hi2; omega)
  have a3 : ∀ lo hi lo2 hi2 : Option Int, szOk ((cutS T lo hi).length + (cutS T lo2 hi2).length) = true := fun lo hi lo2 hi2 => szOk_small (by have := cut lo hi; have := cut lo2 hi2; omega)
  by_cases d0 : d = 0
  · subst d0
    exact ⟨cutS T none (some p) ++ C ++ cutS T (some p) none, by have := cut none (some p); have := cut (some p) none; rw [len_app, len_app, l1]; omega, mFn_ok ⟨[some (.str T), some (.lst [.int a, .int b, .int c, .int 0, .int e]), some (.int p), some (.str C)], by simp [m_lspoilt, hn, tz, n1, hp, hs, l1, a1, a2, a3, len_app]⟩⟩
  · by_cases d1 : d = 1
    · subst d1
      exact ⟨cutS T none (some p) ++ C ++ cutS T (some (p + 1)) none, by have := cut none (some p); have := cut (some (p + 1)) none; rw [len_app, len_app, l1]; omega, mFn_ok ⟨[some (.str T), some (.lst [.int a, .int b, .int c, .int 1, .int e]), some (.int p), some (.str C)], by simp [m_lspoilt, hn, tz, n1, hp, hs, l1, a1, a2, a3, len_app]⟩⟩
    · by_cases d2 : d = 2
      · subst d2
        exact ⟨cutS T none (some p) ++ cutS T (some (p + 1)) none, by have := cut none (some p); have := cut (some (p + 1)) none; rw [len_app]; omega, mFn_ok ⟨[some (.str T), some (.lst [.int a, .int b, .int c, .int 2, .int e]), some (.int p), some (.str C)], by simp [m_lspoilt, hn, tz, n1, hp, hs, l1, a1, a2, a3, len_app]⟩⟩
      · exact ⟨Str.ofString "", Nat.zero_le _, mFn_ok ⟨[some (.str T), some (.lst [.int a, .int b, .int c, .int d, .int e]), some (.int p), some (.str C)], by simp [m_lspoilt, hn, tz, n1, hp, hs, l1, d0, d1, d2]⟩⟩
theorem al_form2 : f_lform2 = f_lform := rfl
def tail08 : MS := mSeq (mAsg (mFz (mCall f_lreading (mCons (mVar 4) (mCons (mVar 11) (mNil))))) (gSet 12)) (mFor (mR1 (mCons (mC (.int 2)) (mNil))) (gSet 13) (b_law15_0))
theorem tail08_ok {x0 x1 x2 x3 x5 x6 x7 x8 x9 x10 : Option MV} {kd sg : Str} {n p : Nat} (h1 : 1 ≤ n ∧ n < 100) (hs : sg = "none" ∨ sg = "end" ∨ sg = "tens") (hp : p ≤ 18) {T : Str} (hz : T.length ≤ 100000) {x12 x13 x14 : Option MV} :
    ∃ y12 y13 y14, tail08 [x0, x1, x2, x3, some (Form kd n sg (.int p)), x5, x6, x7, x8, x9, x10, some (.str T), x12, x13, x14] = .ok (.nx, [x0, x1, x2, x3, some (Form kd n sg (.int p)), x5, x6, x7, x8, x9, x10, some (.str T), y12, y13, y14]) := by
  have lr := @lreading_eq kd sg n p h1 hs hp T hz
  have ls := @lseen_eq kd sg n p h1 hp T hz
  obtain ⟨w, z, hl, tw⟩ := lread8_ok n sg p T
  rw [hl] at lr ls
  have ne := fNe_tt (xs := [.str w, .int z]) (by
    show (okD 20 (.str w) && (okD 20 (.int z) && true)) = true
    rw [okD_s tw]; rfl)
  have lw := lwhole_int z
  have rg : rngM 0 1 2 = [.int 0, .int 1] := rfl
  have i2 : inR 2 = true := inR_of (by decide) (by decide)
  obtain ⟨fx, hfx⟩ : ∃ fx, Form kd n sg (.int p) = .tup fx := ⟨_, rfl⟩
  rw [hfx] at lr ls ⊢
  exact ⟨some (.tup [.str w, .int z]), some (.int 1), some (.tup [.str w, .int z]), by simp [tail08, lr, rg, i2, mLoop, b_law15_0, ls, ne, lw]⟩
def if08A : MS := mIfS (mTest (mOp fGt (mOp fIx (mVar 4) (mC (.int 3))) (mC (.int 0)))) (mAsg (mOp fAdd (mOp fAdd (mOp fAdd (mVar 9) (mC (.str "."))) (mVar 10)) (mOp fMul (mC (.str "0")) (mOp fIx (mVar 3) (mC (.int 7))))) (gSet 11)) (mPass)
def if08B : MS := mIfS (mTest (mOp fEq (mOp fIx (mVar 3) (mC (.int 6))) (mC (.int 3)))) (mSeq (mAsg (mOp fAdd (mFz (mCall f_lfigures_text (mCons (mOp fIx (mVar 3) (mC (.int 10))) (mCons (mOp fIx (mVar 3) (mC (.int 11))) (mNil))))) (mOp fIx (mLst (mCons (mC (.str ".")) (mCons (mC (.str "")) (mNil)))) (mOp fIx (mVar 3) (mC (.int 17))))) (gSet 11)) (mAsg (mOp fAdd (mVar 11) (mFz (mCall f_lfigures_text (mCons (mOp fIx (mVar 3) (mC (.int 10))) (mCons (mOp fIx (mVar 3) (mC (.int 12))) (mNil)))))) (gSet 11))) (mPass)
def if08C : MS := mIfS (mTest (mOp fEq (mOp fIx (mVar 3) (mC (.int 8))) (mC (.int 1)))) (mAsg (mOp fAdd (mC (.str "-")) (mVar 11)) (gSet 11)) (mPass)
def if08D : MS := mIfS (mTest (mOp fEq (mOp fIx (mVar 3) (mC (.int 9))) (mC (.int 1)))) (mAsg (mFz (mCall f_lspoilt (mCons (mVar 11) (mCons (mSl (mVar 3) (mPart (mC (.int 13))) (mNo)) (mNil))))) (gSet 11)) (mPass)
theorem if08A_ok {x0 x1 x2 x5 x6 x7 x8 x12 x13 x14 : Option MV} {DS fx : List MV} {p : Nat} {d7 : Int} (h3 : atI fx 3 = some (.int p)) (h7 : atI DS 7 = some (.int d7)) (d7b : 0 ≤ d7 ∧ d7 < 6) {A B : Str} (hA : A.length ≤ 100) (hB : B.length ≤ 100) :
    ∃ T : Str, T.length ≤ 300 ∧ if08A [x0, x1, x2, some (.lst DS), some (.tup fx), x5, x6, x7, x8, some (.str A), some (.str B), some (.str A), x12, x13, x14] = .ok (.nx, [x0, x1, x2, some (.lst DS), some (.tup fx), x5, x6, x7, x8, some (.str A), some (.str B), some (.str T), x12, x13, x14]) := by
  by_cases hp : 0 < p
  · have hp2 : (0 : Int) < p := by omega
    have z1 : szOk (A.length + 1) = true := szOk_small (by omega)
    have z2 : szOk (A.length + 1 + B.length) = true := szOk_small (by omega)
    have dl : (Str.ofString ".").length = 1 := rfl
    have ol : (Str.ofString "0").length = 1 := rfl
    have fm : fMul (.str (Str.ofString "0")) (.int d7) = some (.str (repS (Str.ofString "0") d7)) := by
      rw [fMul_s, decide_eq_true (show -(2 ^ 63) ≤ d7 by omega), decide_eq_true (show d7 < 2 ^ 63 by omega), ol, szOk_small (show 1 * d7.toNat ≤ 16777216 by omega)]
      rfl
    have rl : (repS (Str.ofString "0") d7).length ≤ 6 := by
      rcases (show d7 = 0 ∨ d7 = 1 ∨ d7 = 2 ∨ d7 = 3 ∨ d7 = 4 ∨ d7 = 5 by omega) with rfl | rfl | rfl | rfl | rfl | rfl <;> decide +kernel
    have z3 : szOk (A.length + 1 + B.length + (repS (Str.ofString "0") d7).length) = true := szOk_small (by omega)
    have hl : (A ++ Str.ofString "." ++ B ++ repS (Str.ofString "0") d7).length ≤ 300 := by rw [len_app, len_app, len_app, dl]; omega
    refine ⟨_, hl, ?_⟩
    generalize repS (Str.ofString "0") d7 = Z at *
    generalize hD : Str.ofString "." = DT at *
    generalize hO : Str.ofString "0" = OO at *
    simp [if08A, h3, hp, h7, -fMul_s, hO, hD, fm, z1, z2, z3, dl, len_app]
  · have hp2 : ¬ (0 : Int) < p := by omega
    exact ⟨A, by omega, by simp [if08A, h3, hp]⟩
theorem if08B_ok {x0 x1 x2 x4 x5 x6 x7 x8 x9 x10 x12 x13 x14 : Option MV} {DS : List MV} {d6 d10 d11 d12 d17 : Int} (h6 : atI DS 6 = some (.int d6)) (h10 : atI DS 10 = some (.int d10)) (h11 : atI DS 11 = some (.int d11)) (h12 : atI DS 12 = some (.int d12)) (h17 : atI DS 17 = some (.int d17))
    (b11 : 0 ≤ d11 ∧ d11 < 35) (b12 : 0 ≤ d12 ∧ d12 < 35) (b17 : 0 ≤ d17 ∧ d17 < 2) {T : Str} (hT : T.length ≤ 300) :
    ∃ Z : Str, Z.length ≤ 300 ∧ if08B [x0, x1, x2, some (.lst DS), x4, x5, x6, x7, x8, x9, x10, some (.str T), x12, x13, x14] = .ok (.nx, [x0, x1, x2, some (.lst DS), x4, x5, x6, x7, x8, x9, x10, some (.str Z), x12, x13, x14]) := by
  obtain ⟨a, la, ea⟩ := lfigures_text_ok d10 b11.1 (by omega)
  obtain ⟨b, lb, eb⟩ := lfigures_text_ok d10 b12.1 (by omega)
  obtain ⟨P, hP, lP⟩ : ∃ P : Str, atI [MV.str (Str.ofString "."), .str (Str.ofString "")] d17 = some (.str P) ∧ P.length ≤ 1 := by
    rcases (show d17 = 0 ∨ d17 = 1 by omega) with rfl | rfl
    · exact ⟨_, rfl, by decide⟩
    · exact ⟨_, rfl, by decide⟩
  have z1 : szOk (a.length + P.length) = true := szOk_small (by omega)
  have z2 : szOk (a.length + P.length + b.length) = true := szOk_small (by omega)
  by_cases h : d6 = 3
  · have hl : (a ++ P ++ b).length ≤ 300 := by rw [len_app, len_app]; omega
    refine ⟨_, hl, ?_⟩
    simp [if08B, h6, h, h10, h11, h12, h17, ea, eb, hP, z1, z2, len_app, szOk_small]
  · exact ⟨T, hT, by simp [if08B, h6, h]⟩
theorem if08C_ok {x0 x1 x2 x4 x5 x6 x7 x8 x9 x10 x12 x13 x14 : Option MV} {DS : List MV} {d8 : Int} (h8 : atI DS 8 = some (.int d8)) {T : Str} (hT : T.length ≤ 300) :
    ∃ Z : Str, Z.length ≤ 301 ∧ if08C [x0, x1, x2, some (.lst DS), x4, x5, x6, x7, x8, x9, x10, some (.str T), x12, x13, x14] = .ok (.nx, [x0, x1, x2, some (.lst DS), x4, x5, x6, x7, x8, x9, x10, some (.str Z), x12, x13, x14]) := by
  have dl : (Str.ofString "-").length = 1 := rfl
  have z1 : szOk (1 + T.length) = true := szOk_small (by omega)
  by_cases h : d8 = 1
  · have hl : (Str.ofString "-" ++ T).length ≤ 301 := by rw [len_app, dl]; omega
    refine ⟨_, hl, ?_⟩
    generalize hD : Str.ofString "-" = DT at *
    simp [if08C, h8, h, hD, dl, z1]
  · exact ⟨T, by omega, by simp [if08C, h8, h]⟩
theorem if08D_ok {x0 x1 x2 x4 x5 x6 x7 x8 x9 x10 x12 x13 x14 : Option MV} {DS : List MV} {d9 d13 d14 d15 d16 d17 : Int} (h9 : atI DS 9 = some (.int d9)) (hc : cutM DS (some 13) none = [.int d13, .int d14, .int d15, .int d16, .int d17]) (b15 : 0 ≤ d15) {T : Str} (hT : T.length ≤ 301) :
    ∃ Z : Str, Z.length ≤ 1000 ∧ if08D [x0, x1, x2, some (.lst DS), x4, x5, x6, x7, x8, x9, x10, some (.str T), x12, x13, x14] = .ok (.nx, [x0, x1, x2, some (.lst DS), x4, x5, x6, x7, x8, x9, x10, some (.str Z), x12, x13, x14]) := by
  obtain ⟨z, lz, ez⟩ := @lspoilt8_ok T (by omega) d13 d14 d15 d16 d17 b15
  by_cases h : d9 = 1
  · exact ⟨z, by omega, by simp [if08D, h9, h, hc, ez]⟩
  · exact ⟨T, by omega, by simp [if08D, h9, h]⟩
theorem seq_to8 {A B : MS} {ρ ρ1 : Env} (h : A ρ = .ok (.nx, ρ1)) : mSeq A B ρ = B ρ1 := by
  unfold mSeq
  rw [h]; rfl
theorem in_abs8 {n : Nat} {sg : Str} {x : Int} (hn : 1 ≤ n ∧ n ≤ 12) (hx : least n sg ≤ x ∧ x ≤ most n sg) : x.natAbs < 10 ^ 13 := by
  have h := Nat.pow_le_pow_right (n := 10) (by decide) hn.2
  have hm : 10 ^ (n - 1) ≤ 10 ^ 12 := Nat.pow_le_pow_right (by decide) (by omega)
  have c : (10 : Int) ^ n = ((10 ^ n : Nat) : Int) := by push_cast; rfl
  have c2 : (10 : Int) ^ (n - 1) = ((10 ^ (n - 1) : Nat) : Int) := by push_cast; rfl
  unfold least most at hx
  rw [c, c2] at hx
  generalize 10 ^ n = a at *
  generalize 10 ^ (n - 1) = b at *
  split at hx <;> split at hx <;> (try split at hx) <;> omega
theorem body08 (ns : List Int) (i : Nat) (a2 a3 a4 a5 a6 a7 a8 a9 a10 a11 a12 a13 a14 : Option MV) :
    ∃ b2 b3 b4 b5 b6 b7 b8 b9 b10 b11 b12 b13 b14, b_law15_1 [some (.scr ns), some (.int i), a2, a3, a4, a5, a6, a7, a8, a9, a10, a11, a12, a13, a14] = .ok (.nx, [some (.scr ns), some (.int i), b2, b3, b4, b5, b6, b7, b8, b9, b10, b11, b12, b13, b14]) := by
  obtain ⟨c0, hc0⟩ := lcell_ok ns i
  obtain ⟨ds, hd, hds⟩ := ldraws_ok c0 (31 + i) [2, 12, 3, 13, 16, 100000000000000, 4, 6, 2, 2, 10000000000000000000000000000000000, 35, 35, 97, 6, 95, 4, 2] (by decide) (by decide)
  simp only [draws_cons, draws_nil] at hd
  obtain ⟨d0, _, rfl, q0, d1, _, rfl, q1, d2, _, rfl, q2, d3, _, rfl, q3, d4, _, rfl, q4, d5, _, rfl, q5, d6, _, rfl, q6, d7, _, rfl, q7, d8, _, rfl, q8, d9, _, rfl, q9, d10, _, rfl, q10, d11, _, rfl, q11, d12, _, rfl, q12, d13, _, rfl, q13, d14, _, rfl, q14, d15, _, rfl, q15, d16, _, rfl, q16, d17, _, rfl, q17, rfl⟩ := hd
  obtain ⟨kd, sg, pt, hkd, hsg, hf⟩ := lform_kd q0 ⟨q1.1, by omega⟩ q2
  rw [← al_form2] at hf
  obtain ⟨n, hn⟩ : ∃ n : Nat, 1 + d1 = n := ⟨(1 + d1).toNat, by omega⟩
  have hn12 : 1 ≤ n ∧ n ≤ 12 := by omega
  obtain ⟨p, hp⟩ : ∃ p : Nat, d3.fmod (2 + d1) = p := ⟨(d3.fmod (2 + d1)).toNat, by have := @fmod_ge' d3 (2 + d1) (by omega); omega⟩
  have hp13 : p ≤ 12 := by have := @fmod_lt' d3 (2 + d1) (by omega); omega
  have nz : ¬ ((2 : Int) + d1 = 0) := by omega
  obtain ⟨x, hx, hln⟩ := @lnumber_ok kd sg n (.int p) ⟨hn12.1, by omega⟩ hsg d4 d5 q4.1
  obtain ⟨fx, hfx⟩ : ∃ fx, Form kd n sg (.int p) = .tup fx := ⟨_, rfl⟩
  have fadd : fAdd (.tup [.str kd, .int (1 + d1), .str sg]) (.tup [.int (p : Int)]) = some (.tup fx) := by rw [← hfx, hn]; rfl
  have fsl : cutM [.str kd, .int (1 + d1), .str sg, .int pt] none (some 3) = [.str kd, .int (1 + d1), .str sg] := rfl
  have f3 : atI fx 3 = some (.int p) := by unfold Form at hfx; cases hfx; rfl
  -- the number's size
  obtain ⟨y, hy, ylt⟩ : ∃ y : Nat, (if x < 0 then -x else x) = (y : Int) ∧ y < 10 ^ 13 := by
    exact ⟨x.natAbs, by split <;> omega, in_abs8 hn12 hx⟩
  have bs : bStr [.int (y : Nat)] = some (.str (nTx (y : Int))) := if_pos (decide_eq_true (by rw [Int.natAbs_natCast]; exact log2_small (Nat.lt_of_lt_of_le ylt (Nat.pow_le_pow_right (by decide) (by decide)))))
  have tl : (nTx (y : Int)).length ≤ 13 := by unfold nTx; rw [str_dec, dtx_len, digsB_len]; exact nd_le ylt (by decide)
  have zt : szOk (nTx (y : Int)).length = true := szOk_small (by omega)
  have lp := @lpower_eq 10 (p : Int) (by decide) (by omega) (by omega)
  rw [Int.toNat_natCast] at lp
  have dv : divOk ((10 : Int) ^ p) = true := divOk_ten (by omega)
  have pz : ¬ ((10 : Int) ^ p = 0) := by have : (0 : Int) < 10 ^ p := Int.pow_pos (by decide); omega
  obtain ⟨m, hm, mb⟩ : ∃ m : Int, (if (1 : Int) < ((nTx (y : Int)).length : Int) - p then ((nTx (y : Int)).length : Int) - p else 1) + d6.fmod 3 = m ∧ 0 ≤ m ∧ m < 100 := by
    refine ⟨_, rfl, ?_⟩
    have := @fmod_ge' d6 3 (by decide)
    have := @fmod_lt' d6 3 (by decide)
    split <;> omega
  obtain ⟨A, lA, eA⟩ := lfigures_text_ok ((y : Int).fdiv (10 ^ p)) mb.1 (by omega)
  obtain ⟨B, lB, eB⟩ := lfigures_text_ok ((y : Int).fmod (10 ^ p)) (show (0 : Int) ≤ p by omega) (by omega)
  have x0 : ∀ j : Nat, True := fun _ => trivial
  have D0 : atI [MV.int d0, .int d1, .int d2, .int d3, .int d4, .int d5, .int d6, .int d7, .int d8, .int d9, .int d10, .int d11, .int d12, .int d13, .int d14, .int d15, .int d16, .int d17] 0 = some (.int d0) := rfl
  have D1 : atI [MV.int d0, .int d1, .int d2, .int d3, .int d4, .int d5, .int d6, .int d7, .int d8, .int d9, .int d10, .int d11, .int d12, .int d13, .int d14, .int d15, .int d16, .int d17] 1 = some (.int d1) := rfl
  have D2 : atI [MV.int d0, .int d1, .int d2, .int d3, .int d4, .int d5, .int d6, .int d7, .int d8, .int d9, .int d10, .int d11, .int d12, .int d13, .int d14, .int d15, .int d16, .int d17] 2 = some (.int d2) := rfl
  have D3 : atI [MV.int d0, .int d1, .int d2, .int d3, .int d4, .int d5, .int d6, .int d7, .int d8, .int d9, .int d10, .int d11, .int d12, .int d13, .int d14, .int d15, .int d16, .int d17] 3 = some (.int d3) := rfl
  have D4 : atI [MV.int d0, .int d1, .int d2, .int d3, .int d4, .int d5, .int d6, .int d7, .int d8, .int d9, .int d10, .int d11, .int d12, .int d13, .int d14, .int d15, .int d16, .int d17] 4 = some (.int d4) := rfl
  have D5 : atI [MV.int d0, .int d1, .int d2, .int d3, .int d4, .int d5, .int d6, .int d7, .int d8, .int d9, .int d10, .int d11, .int d12, .int d13, .int d14, .int d15, .int d16, .int d17] 5 = some (.int d5) := rfl
  have D6 : atI [MV.int d0, .int d1, .int d2, .int d3, .int d4, .int d5, .int d6, .int d7, .int d8, .int d9, .int d10, .int d11, .int d12, .int d13, .int d14, .int d15, .int d16, .int d17] 6 = some (.int d6) := rfl
  have sA := @if08A_ok (some (.scr ns)) (some (.int i)) (some (.lst [.int 2, .int 12, .int 3, .int 13, .int 16, .int 100000000000000, .int 4, .int 6, .int 2, .int 2, .int 10000000000000000000000000000000000, .int 35, .int 35, .int 97, .int 6, .int 95, .int 4, .int 2])) (some (.int y)) (some (.int (nTx (y : Int)).length)) (some (.int (10 ^ p))) (some (.int m)) a12 a13 a14 [MV.int d0, .int d1, .int d2, .int d3, .int d4, .int d5, .int d6, .int d7, .int d8, .int d9, .int d10, .int d11, .int d12, .int d13, .int d14, .int d15, .int d16, .int d17] fx p d7 f3 rfl q7 A B (by omega) (by omega)
  obtain ⟨T1, l1, e1⟩ := sA
  obtain ⟨T2, l2, e2⟩ := @if08B_ok (some (.scr ns)) (some (.int i)) (some (.lst [.int 2, .int 12, .int 3, .int 13, .int 16, .int 100000000000000, .int 4, .int 6, .int 2, .int 2, .int 10000000000000000000000000000000000, .int 35, .int 35, .int 97, .int 6, .int 95, .int 4, .int 2])) (some (.tup fx)) (some (.int y)) (some (.int (nTx (y : Int)).length)) (some (.int (10 ^ p))) (some (.int m)) (some (.str A)) (some (.str B)) a12 a13 a14 [MV.int d0, .int d1, .int d2, .int d3, .int d4, .int d5, .int d6, .int d7, .int d8, .int d9, .int d10, .int d11, .int d12, .int d13, .int d14, .int d15, .int d16, .int d17] d6 d10 d11 d12 d17 rfl rfl rfl rfl rfl q11 q12 q17 T1 l1
  obtain ⟨T3, l3, e3⟩ := @if08C_ok (some (.scr ns)) (some (.int i)) (some (.lst [.int 2, .int 12, .int 3, .int 13, .int 16, .int 100000000000000, .int 4, .int 6, .int 2, .int 2, .int 10000000000000000000000000000000000, .int 35, .int 35, .int 97, .int 6, .int 95, .int 4, .int 2])) (some (.tup fx)) (some (.int y)) (some (.int (nTx (y : Int)).length)) (some (.int (10 ^ p))) (some (.int m)) (some (.str A)) (some (.str B)) a12 a13 a14 [MV.int d0, .int d1, .int d2, .int d3, .int d4, .int d5, .int d6, .int d7, .int d8, .int d9, .int d10, .int d11, .int d12, .int d13, .int d14, .int d15, .int d16, .int d17] d8 rfl T2 l2
  obtain ⟨T4, l4, e4⟩ := @if08D_ok (some (.scr ns)) (some (.int i)) (some (.lst [.int 2, .int 12, .int 3, .int 13, .int 16, .int 100000000000000, .int 4, .int 6, .int 2, .int 2, .int 10000000000000000000000000000000000, .int 35, .int 35, .int 97, .int 6, .int 95, .int 4, .int 2])) (some (.tup fx)) (some (.int y)) (some (.int (nTx (y : Int)).length)) (some (.int (10 ^ p))) (some (.int m)) (some (.str A)) (some (.str B)) a12 a13 a14 [MV.int d0, .int d1, .int d2, .int d3, .int d4, .int d5, .int d6, .int d7, .int d8, .int d9, .int d10, .int d11, .int d12, .int d13, .int d14, .int d15, .int d16, .int d17] d9 d13 d14 d15 d16 d17 rfl rfl q15.1 T3 l3
  obtain ⟨y12, y13, y14, e5⟩ := @tail08_ok (some (.scr ns)) (some (.int i)) (some (.lst [.int 2, .int 12, .int 3, .int 13, .int 16, .int 100000000000000, .int 4, .int 6, .int 2, .int 2, .int 10000000000000000000000000000000000, .int 35, .int 35, .int 97, .int 6, .int 95, .int 4, .int 2])) (some (.lst [MV.int d0, .int d1, .int d2, .int d3, .int d4, .int d5, .int d6, .int d7, .int d8, .int d9, .int d10, .int d11, .int d12, .int d13, .int d14, .int d15, .int d16, .int d17])) (some (.int y)) (some (.int (nTx (y : Int)).length)) (some (.int (10 ^ p))) (some (.int m)) (some (.str A)) (some (.str B)) kd sg n p ⟨hn12.1, by omega⟩ hsg (by omega) T4 (by omega) a12 a13 a14
  rw [hfx] at e5 hln
  have fin : ∃ b2 b3 b4 b5 b6 b7 b8 b9 b10 b11 b12 b13 b14, b_law15_1 [some (.scr ns), some (.int i), a2, a3, a4, a5, a6, a7, a8, a9, a10, a11, a12, a13, a14] = .ok (.nx, [some (.scr ns), some (.int i), b2, b3, b4, b5, b6, b7, b8, b9, b10, b11, b12, b13, b14]) := by
    have hb : b_law15_1 = (mSeq (mAsg (mLst (mCons (mC (.int 2)) (mCons (mC (.int 12)) (mCons (mC (.int 3)) (mCons (mC (.int 13)) (mCons (mC (.int 16)) (mCons (mOp fPow (mC (.int 10)) (mC (.int 14))) (mCons (mC (.int 4)) (mCons (mC (.int 6)) (mCons (mC (.int 2)) (mCons (mC (.int 2)) (mCons (mOp fPow (mC (.int 10)) (mC (.int 34))) (mCons (mC (.int 35)) (mCons (mC (.int 35)) (mCons (mC (.int 97)) (mCons (mC (.int 6)) (mCons (mC (.int 95)) (mCons (mC (.int 4)) (mCons (mC (.int 2)) (mNil)))))))))))))))))))) (gSet 2)) (mSeq (mAsg (mFz (mCall f_ldraws (mCons (mFz (mCall f_lcell (mCons (mVar 0) (mCons (mVar 1) (mNil))))) (mCons (mOp fAdd (mC (.int 31)) (mVar 1)) (mCons (mVar 2) (mNil)))))) (gSet 3)) (mSeq (mAsg (mOp fAdd (mSl (mFz (mCall f_lform2 (mCons (mOp fIx (mVar 3) (mC (.int 0))) (mCons (mOp fIx (mVar 3) (mC (.int 1))) (mCons (mOp fIx (mVar 3) (mC (.int 2))) (mNil)))))) (mNo) (mPart (mC (.int 3)))) (mTup (mCons (mOp fMod (mOp fIx (mVar 3) (mC (.int 3))) (mOp fAdd (mC (.int 2)) (mOp fIx (mVar 3) (mC (.int 1))))) (mNil)))) (gSet 4)) (mSeq (mAsg (mBlt bAbs (mCons (mFz (mCall f_lnumber (mCons (mVar 4) (mCons (mOp fIx (mVar 3) (mC (.int 4))) (mCons (mOp fIx (mVar 3) (mC (.int 5))) (mNil)))))) (mNil))) (gSet 5)) (mSeq (mAsg (mBlt bLen (mCons (mBlt bStr (mCons (mVar 5) (mNil))) (mNil))) (gSet 6)) (mSeq (mAsg (mFz (mCall f_lpower (mCons (mC (.int 10)) (mCons (mOp fIx (mVar 4) (mC (.int 3))) (mNil))))) (gSet 7)) (mSeq (mAsg (mOp fAdd (mBlt bMax (mCons (mC (.int 1)) (mCons (mOp fSub (mVar 6) (mOp fIx (mVar 4) (mC (.int 3)))) (mNil)))) (mOp fMod (mOp fIx (mVar 3) (mC (.int 6))) (mC (.int 3)))) (gSet 8)) (mSeq (mAsg (mFz (mCall f_lfigures_text (mCons (mOp fDiv (mVar 5) (mVar 7)) (mCons (mVar 8) (mNil))))) (gSet 9)) (mSeq (mAsg (mFz (mCall f_lfigures_text (mCons (mOp fMod (mVar 5) (mVar 7)) (mCons (mOp fIx (mVar 4) (mC (.int 3))) (mNil))))) (gSet 10)) (mSeq (mAsg (mVar 9) (gSet 11)) (mSeq if08A (mSeq if08B (mSeq if08C (mSeq if08D tail08)))))))))))))) := rfl
    rw [hb]
    simp at hc0 hds
    have st : ∀ K : MS, (mSeq (mAsg (mLst (mCons (mC (.int 2)) (mCons (mC (.int 12)) (mCons (mC (.int 3)) (mCons (mC (.int 13)) (mCons (mC (.int 16)) (mCons (mOp fPow (mC (.int 10)) (mC (.int 14))) (mCons (mC (.int 4)) (mCons (mC (.int 6)) (mCons (mC (.int 2)) (mCons (mC (.int 2)) (mCons (mOp fPow (mC (.int 10)) (mC (.int 34))) (mCons (mC (.int 35)) (mCons (mC (.int 35)) (mCons (mC (.int 97)) (mCons (mC (.int 6)) (mCons (mC (.int 95)) (mCons (mC (.int 4)) (mCons (mC (.int 2)) (mNil)))))))))))))))))))) (gSet 2)) (mSeq (mAsg (mFz (mCall f_ldraws (mCons (mFz (mCall f_lcell (mCons (mVar 0) (mCons (mVar 1) (mNil))))) (mCons (mOp fAdd (mC (.int 31)) (mVar 1)) (mCons (mVar 2) (mNil)))))) (gSet 3)) (mSeq (mAsg (mOp fAdd (mSl (mFz (mCall f_lform2 (mCons (mOp fIx (mVar 3) (mC (.int 0))) (mCons (mOp fIx (mVar 3) (mC (.int 1))) (mCons (mOp fIx (mVar 3) (mC (.int 2))) (mNil)))))) (mNo) (mPart (mC (.int 3)))) (mTup (mCons (mOp fMod (mOp fIx (mVar 3) (mC (.int 3))) (mOp fAdd (mC (.int 2)) (mOp fIx (mVar 3) (mC (.int 1))))) (mNil)))) (gSet 4)) (mSeq (mAsg (mBlt bAbs (mCons (mFz (mCall f_lnumber (mCons (mVar 4) (mCons (mOp fIx (mVar 3) (mC (.int 4))) (mCons (mOp fIx (mVar 3) (mC (.int 5))) (mNil)))))) (mNil))) (gSet 5)) (mSeq (mAsg (mBlt bLen (mCons (mBlt bStr (mCons (mVar 5) (mNil))) (mNil))) (gSet 6)) (mSeq (mAsg (mFz (mCall f_lpower (mCons (mC (.int 10)) (mCons (mOp fIx (mVar 4) (mC (.int 3))) (mNil))))) (gSet 7)) (mSeq (mAsg (mOp fAdd (mBlt bMax (mCons (mC (.int 1)) (mCons (mOp fSub (mVar 6) (mOp fIx (mVar 4) (mC (.int 3)))) (mNil)))) (mOp fMod (mOp fIx (mVar 3) (mC (.int 6))) (mC (.int 3)))) (gSet 8)) (mSeq (mAsg (mFz (mCall f_lfigures_text (mCons (mOp fDiv (mVar 5) (mVar 7)) (mCons (mVar 8) (mNil))))) (gSet 9)) (mSeq (mAsg (mFz (mCall f_lfigures_text (mCons (mOp fMod (mVar 5) (mVar 7)) (mCons (mOp fIx (mVar 4) (mC (.int 3))) (mNil))))) (gSet 10)) (mSeq (mAsg (mVar 9) (gSet 11)) K)))))))))) [some (.scr ns), some (.int i), a2, a3, a4, a5, a6, a7, a8, a9, a10, a11, a12, a13, a14] = K [some (.scr ns), some (.int i), some (.lst [.int 2, .int 12, .int 3, .int 13, .int 16, .int 100000000000000, .int 4, .int 6, .int 2, .int 2, .int 10000000000000000000000000000000000, .int 35, .int 35, .int 97, .int 6, .int 95, .int 4, .int 2]), some (.lst [MV.int d0, .int d1, .int d2, .int d3, .int d4, .int d5, .int d6, .int d7, .int d8, .int d9, .int d10, .int d11, .int d12, .int d13, .int d14, .int d15, .int d16, .int d17]), some (.tup fx), some (.int y), some (.int (nTx (y : Int)).length), some (.int (10 ^ p)), some (.int m), some (.str A), some (.str B), some (.str A), a12, a13, a14] := by
      intro K
      generalize nTx (y : Int) = TX at *
      generalize (10 : Int) ^ p = PP at *
      simp [hc0, hds, szOk_small, D0, D1, D2, D3, D4, D5, D6, hf, fsl, nz, hp, fadd, hln, -bAbs_i, bAbs, hy, bs, zt, f3, lp, dv, pz, hm, eA, eB]
    rw [st, seq_to8 e1, seq_to8 e2, seq_to8 e3, seq_to8 e4]
    exact ⟨_, _, _, _, _, _, _, _, _, _, _, _, _, e5⟩
  exact fin
theorem law_true : ∀ ns : List Int, ns.length ≤ 63 → ∃ bs, f_law15 [.scr ns] = .ok (.bl true, bs) := by
  intro ns hns
  refine ⟨[], mFn_ok ?_⟩
  obtain ⟨ρ', e, a1, a2, a3, a4, a5, a6, a7, a8, a9, a10, a11, a12, a13, a14, rfl⟩ := loop_nxr (g := gSet 1) (b := b_law15_1) (lo := 0) (c := 1) (n := 8) (ρ := [some (.scr ns), none, none, none, none, none, none, none, none, none, none, none, none, none, none])
    (fun _ ρ => ∃ a1 a2 a3 a4 a5 a6 a7 a8 a9 a10 a11 a12 a13 a14, ρ = [some (.scr ns), a1, a2, a3, a4, a5, a6, a7, a8, a9, a10, a11, a12, a13, a14]) ⟨_, _, _, _, _, _, _, _, _, _, _, _, _, _, rfl⟩ (by
      rintro i ρ hi ⟨a1, a2, a3, a4, a5, a6, a7, a8, a9, a10, a11, a12, a13, a14, rfl⟩
      obtain ⟨b2, b3, b4, b5, b6, b7, b8, b9, b10, b11, b12, b13, b14, e⟩ := body08 ns i a2 a3 a4 a5 a6 a7 a8 a9 a10 a11 a12 a13 a14
      have ei : (0 : Int) + (i : Nat) * 1 = (i : Int) := by omega
      rw [ei]
      exact ⟨_, rfl, _, e, some (.int i), b2, b3, b4, b5, b6, b7, b8, b9, b10, b11, b12, b13, b14, rfl⟩)
  simp [m_law15, e, inR_of]
def top (i : Nat) : Stmt := PySem.Challenge.pw_tensloft_k08_texts_told.main.body.getD i (.Pass ⟨0, 0, 0, 0⟩)
abbrev s_ini_NoFit : Stmt := inCls (top 3) 0
theorem sc_ini_NoFit : FnScope ["self", "number"] ["self", "number"] (defScope s_ini_NoFit) := ⟨rfl, rfl, rfl, by decide +kernel, rfl, by decide +kernel, by decide +kernel⟩
theorem ini_NoFit {P : Program} {w : World} {K : PySem.W.Frag} {mg : Str → Option Value} {base : Heap} {a : Addr} {fd : FuncData} (F : Fun K "__init__" "NoFit.__init__" s_ini_NoFit a fd) (B : Bas K mg "LoftError") : FnOk P w K mg base (L2N.CX P w) 2 a fd ["self", "number"] (spI1 K "number") :=
  init1 F sc_ini_NoFit B rfl (fun _ _ => rfl) (by decide +kernel) (by decide +kernel) (fun _ => ⟨_, rfl⟩) (by decide) (by decide) (by decide)
abbrev s_lmixed : Stmt := top 19
theorem sc_lmixed : FnScope ["_law_cell_here", "_law_k", "_law_salt", "_law_primes", "_law_one", "_law_two"] ["_law_cell_here", "_law_k", "_law_salt"] (defScope s_lmixed) := ⟨rfl, rfl, rfl, by decide +kernel, rfl, by decide +kernel, by decide +kernel⟩
theorem v_lmixed_0 : (defScope s_lmixed).names.lookup ("_law_cell_here" : Str) = some NameKind.local := by decide +kernel
theorem v_lmixed_1 : (defScope s_lmixed).names.lookup ("_law_k" : Str) = some NameKind.local := by decide +kernel
theorem v_lmixed_2 : (defScope s_lmixed).names.lookup ("_law_salt" : Str) = some NameKind.local := by decide +kernel
theorem v_lmixed_3 : (defScope s_lmixed).names.lookup ("_law_primes" : Str) = some NameKind.local := by decide +kernel
theorem v_lmixed_4 : (defScope s_lmixed).names.lookup ("_law_one" : Str) = some NameKind.local := by decide +kernel
theorem v_lmixed_5 : (defScope s_lmixed).names.lookup ("_law_two" : Str) = some NameKind.local := by decide +kernel
theorem ok_lmixed {P : Program} {w : World} {K : PySem.W.Frag} {mg : Str → Option Value} {base : Heap} {f : Addr} {fd : FuncData} (F : Fun K "_law_mixed" "_law_mixed" s_lmixed f fd) (B : Bn mg)     :
    FnOk P w K mg base (L2N.CX P w) 2 f fd ["_law_cell_here", "_law_k", "_law_salt"] (spF K mg 3 [] f_lmixed) := by
  refine fn_ok F sc_lmixed (by decide) (by decide) fun cdv A outer s H E hr => ?_
  have nd := sc_lmixed.nd
  have tk : L2N.Takes (cxOf (L2N.CX P w) P w K mg base ["_law_cell_here", "_law_k", "_law_salt", "_law_primes", "_law_one", "_law_two"] "_law_mixed" (defScope s_lmixed) f cdv A outer s H E) (fun cls d _ H => E cls d H) := L2N.takes_of rfl rfl rfl rfl
  have pn : PassesOwn (model P w) (cxOf (L2N.CX P w) P w K mg base ["_law_cell_here", "_law_k", "_law_salt", "_law_primes", "_law_one", "_law_two"] "_law_mixed" (defScope s_lmixed) f cdv A outer s H E).A (cxOf (L2N.CX P w) P w K mg base ["_law_cell_here", "_law_k", "_law_salt", "_law_primes", "_law_one", "_law_two"] "_law_mixed" (defScope s_lmixed) f cdv A outer s H E).env (cxOf (L2N.CX P w) P w K mg base ["_law_cell_here", "_law_k", "_law_salt", "_law_primes", "_law_one", "_law_two"] "_law_mixed" (defScope s_lmixed) f cdv A outer s H E).xe := passes_of rfl
  unfold m_lmixed
  exact mss_cons (ms_set (i := 3) nd rfl (.inl v_lmixed_3) (me_lst (ma_cons (me_int) (ma_cons (me_int) (ma_cons (me_int) (ma_cons (me_int) (ma_cons (me_int) (ma_cons (me_int) (ma_cons (me_int) (ma_cons (me_int) (ma_nil))))))))))) (mss_cons (ms_set (i := 4) nd rfl (.inl v_lmixed_4) (me_mod (me_add (me_add (me_add (me_var (i := 0) rfl (.inl v_lmixed_0)) (me_mul (me_int) (me_var (i := 2) rfl (.inl v_lmixed_2)))) (me_mul (me_int) (me_var (i := 1) rfl (.inl v_lmixed_1)))) (me_int)) (me_int))) (mss_cons (ms_set (i := 4) nd rfl (.inl v_lmixed_4) (me_mod (me_pow (me_var (i := 4) rfl (.inl v_lmixed_4)) (me_int)) (me_ix (me_var (i := 3) rfl (.inl v_lmixed_3)) (me_mod (me_var (i := 1) rfl (.inl v_lmixed_1)) (me_int))))) (mss_cons (ms_set (i := 5) nd rfl (.inl v_lmixed_5) (me_mod (me_add (me_add (me_var (i := 4) rfl (.inl v_lmixed_4)) (me_mul (me_int) (me_var (i := 2) rfl (.inl v_lmixed_2)))) (me_var (i := 1) rfl (.inl v_lmixed_1))) (me_int))) (mss_one (ms_ret (me_add (me_mul (me_mod (me_pow (me_var (i := 5) rfl (.inl v_lmixed_5)) (me_int)) (me_int)) (me_int)) (me_var (i := 4) rfl (.inl v_lmixed_4))))))))

abbrev s_ldraws : Stmt := top 20
theorem sc_ldraws : FnScope ["_law_cell_here", "_law_salt", "_law_widths", "_law_found", "_law_left", "_law_k"] ["_law_cell_here", "_law_salt", "_law_widths"] (defScope s_ldraws) := ⟨rfl, rfl, rfl, by decide +kernel, rfl, by decide +kernel, by decide +kernel⟩
theorem v_ldraws_0 : (defScope s_ldraws).names.lookup ("_law_cell_here" : Str) = some NameKind.local := by decide +kernel
theorem v_ldraws_1 : (defScope s_ldraws).names.lookup ("_law_salt" : Str) = some NameKind.local := by decide +kernel
theorem v_ldraws_2 : (defScope s_ldraws).names.lookup ("_law_widths" : Str) = some NameKind.local := by decide +kernel
theorem v_ldraws_3 : (defScope s_ldraws).names.lookup ("_law_found" : Str) = some NameKind.local := by decide +kernel
theorem v_ldraws_4 : (defScope s_ldraws).names.lookup ("_law_left" : Str) = some NameKind.local := by decide +kernel
theorem v_ldraws_5 : (defScope s_ldraws).names.lookup ("_law_k" : Str) = some NameKind.local := by decide +kernel
theorem g_ldraws_abs (L a : Addr) (cd : Value) : (PyProof.Rows.envOfC "_law_draws" (defScope s_ldraws) L a cd).kindOf ("abs" : Str) = some NameKind.globalImplicit := rfl
theorem g_ldraws_len (L a : Addr) (cd : Value) : (PyProof.Rows.envOfC "_law_draws" (defScope s_ldraws) L a cd).kindOf ("len" : Str) = some NameKind.globalImplicit := rfl
theorem g_ldraws_range (L a : Addr) (cd : Value) : (PyProof.Rows.envOfC "_law_draws" (defScope s_ldraws) L a cd).kindOf ("range" : Str) = some NameKind.globalImplicit := rfl
theorem g_ldraws_law_mixed (L a : Addr) (cd : Value) : (PyProof.Rows.envOfC "_law_draws" (defScope s_ldraws) L a cd).kindOf ("_law_mixed" : Str) = some NameKind.globalImplicit := rfl
theorem ok_ldraws {P : Program} {w : World} {K : PySem.W.Frag} {mg : Str → Option Value} {base : Heap} {f : Addr} {fd : FuncData} (F : Fun K "_law_draws" "_law_draws" s_ldraws f fd) (B : Bn mg) (h_lmixed : Fd P w K mg base "_law_mixed" 2 ["_law_cell_here", "_law_k", "_law_salt"] [] f_lmixed)    :
    FnOk P w K mg base (L2N.CX P w) 4 f fd ["_law_cell_here", "_law_salt", "_law_widths"] (spF K mg 3 [] f_ldraws) := by
  refine fn_ok F sc_ldraws (by decide) (by decide) fun cdv A outer s H E hr => ?_
  have nd := sc_ldraws.nd
  have tk : L2N.Takes (cxOf (L2N.CX P w) P w K mg base ["_law_cell_here", "_law_salt", "_law_widths", "_law_found", "_law_left", "_law_k"] "_law_draws" (defScope s_ldraws) f cdv A outer s H E) (fun cls d _ H => E cls d H) := L2N.takes_of rfl rfl rfl rfl
  have pn : PassesOwn (model P w) (cxOf (L2N.CX P w) P w K mg base ["_law_cell_here", "_law_salt", "_law_widths", "_law_found", "_law_left", "_law_k"] "_law_draws" (defScope s_ldraws) f cdv A outer s H E).A (cxOf (L2N.CX P w) P w K mg base ["_law_cell_here", "_law_salt", "_law_widths", "_law_found", "_law_left", "_law_k"] "_law_draws" (defScope s_ldraws) f cdv A outer s H E).env (cxOf (L2N.CX P w) P w K mg base ["_law_cell_here", "_law_salt", "_law_widths", "_law_found", "_law_left", "_law_k"] "_law_draws" (defScope s_ldraws) f cdv A outer s H E).xe := passes_of rfl
  unfold m_ldraws
  exact mss_cons (ms_setO (i := 3) nd rfl (.inl v_ldraws_3) (mo_lst (ma_nil))) (mss_cons (ms_set (i := 4) nd rfl (.inl v_ldraws_4) (me_int)) (mss_cons (ms_if (mt_cmp op_ge os_ge (mb_abs B.abs (ma_cons (me_var (i := 0) rfl (.inl v_ldraws_0)) (ma_nil)) (hg := (g_ldraws_abs _ _ _))) (me_pow (me_int) (me_int)) (nomark _)) (mss_one (ms_set (i := 4) nd rfl (.inl v_ldraws_4) (mb_abs B.abs (ma_cons (me_var (i := 0) rfl (.inl v_ldraws_0)) (ma_nil)) (hg := (g_ldraws_abs _ _ _))))) (mss_nil)) (mss_cons (ms_for pn rfl (mi_r1 B.range (ma_cons (mb_len B.len (ma_cons (me_var (i := 2) rfl (.inl v_ldraws_2)) (ma_nil)) (hg := (g_ldraws_len _ _ _))) (ma_nil)) (hg := (g_ldraws_range _ _ _))) (mg_name (i := 5) nd rfl (.inl v_ldraws_5)) (mss_one (ms_if (mt_cmp op_gt os_gt (me_var (i := 4) rfl (.inl v_ldraws_4)) (me_int) (nomark _)) (mss_cons (ms_expr (me_lm1 ls_append PySem.F.slot_list_append PySem.F.type_list_append mt_append (i := 3) rfl (.inl v_ldraws_3) (ma_cons (me_mod (me_var (i := 4) rfl (.inl v_ldraws_4)) (me_ix (me_var (i := 2) rfl (.inl v_ldraws_2)) (me_var (i := 5) rfl (.inl v_ldraws_5)))) (ma_nil)))) (mss_one (ms_set (i := 4) nd rfl (.inl v_ldraws_4) (me_div (me_var (i := 4) rfl (.inl v_ldraws_4)) (me_ix (me_var (i := 2) rfl (.inl v_ldraws_2)) (me_var (i := 5) rfl (.inl v_ldraws_5))))))) (mss_one (ms_expr (me_lm1 ls_append PySem.F.slot_list_append PySem.F.type_list_append mt_append (i := 3) rfl (.inl v_ldraws_3) (ma_cons (me_mod (me_fz (mf_call h_lmixed hr (by decide) tk (ma_cons (me_var (i := 0) rfl (.inl v_ldraws_0)) (ma_cons (me_var (i := 5) rfl (.inl v_ldraws_5)) (ma_cons (me_var (i := 1) rfl (.inl v_ldraws_1)) (ma_nil)))) (lng_cons (lng_cons (lng_cons lng_nil))) (hg := (g_ldraws_law_mixed _ _ _)))) (me_ix (me_var (i := 2) rfl (.inl v_ldraws_2)) (me_var (i := 5) rfl (.inl v_ldraws_5)))) (ma_nil)))))))) (mss_one (ms_retO (mo_var (i := 3) rfl (.inl v_ldraws_3)))))))

abbrev s_lpower : Stmt := top 21
theorem sc_lpower : FnScope ["_law_base", "_law_many", "_law_found", "_law_k"] ["_law_base", "_law_many"] (defScope s_lpower) := ⟨rfl, rfl, rfl, by decide +kernel, rfl, by decide +kernel, by decide +kernel⟩
theorem v_lpower_0 : (defScope s_lpower).names.lookup ("_law_base" : Str) = some NameKind.local := by decide +kernel
theorem v_lpower_1 : (defScope s_lpower).names.lookup ("_law_many" : Str) = some NameKind.local := by decide +kernel
theorem v_lpower_2 : (defScope s_lpower).names.lookup ("_law_found" : Str) = some NameKind.local := by decide +kernel
theorem v_lpower_3 : (defScope s_lpower).names.lookup ("_law_k" : Str) = some NameKind.local := by decide +kernel
theorem g_lpower_range (L a : Addr) (cd : Value) : (PyProof.Rows.envOfC "_law_power" (defScope s_lpower) L a cd).kindOf ("range" : Str) = some NameKind.globalImplicit := rfl
theorem ok_lpower {P : Program} {w : World} {K : PySem.W.Frag} {mg : Str → Option Value} {base : Heap} {f : Addr} {fd : FuncData} (F : Fun K "_law_power" "_law_power" s_lpower f fd) (B : Bn mg)     :
    FnOk P w K mg base (L2N.CX P w) 2 f fd ["_law_base", "_law_many"] (spF K mg 2 [] f_lpower) := by
  refine fn_ok F sc_lpower (by decide) (by decide) fun cdv A outer s H E hr => ?_
  have nd := sc_lpower.nd
  have tk : L2N.Takes (cxOf (L2N.CX P w) P w K mg base ["_law_base", "_law_many", "_law_found", "_law_k"] "_law_power" (defScope s_lpower) f cdv A outer s H E) (fun cls d _ H => E cls d H) := L2N.takes_of rfl rfl rfl rfl
  have pn : PassesOwn (model P w) (cxOf (L2N.CX P w) P w K mg base ["_law_base", "_law_many", "_law_found", "_law_k"] "_law_power" (defScope s_lpower) f cdv A outer s H E).A (cxOf (L2N.CX P w) P w K mg base ["_law_base", "_law_many", "_law_found", "_law_k"] "_law_power" (defScope s_lpower) f cdv A outer s H E).env (cxOf (L2N.CX P w) P w K mg base ["_law_base", "_law_many", "_law_found", "_law_k"] "_law_power" (defScope s_lpower) f cdv A outer s H E).xe := passes_of rfl
  unfold m_lpower
  exact mss_cons (ms_set (i := 2) nd rfl (.inl v_lpower_2) (me_int)) (mss_cons (ms_for pn rfl (mi_r1 B.range (ma_cons (me_var (i := 1) rfl (.inl v_lpower_1)) (ma_nil)) (hg := (g_lpower_range _ _ _))) (mg_name (i := 3) nd rfl (.inl v_lpower_3)) (mss_one (ms_set (i := 2) nd rfl (.inl v_lpower_2) (me_mul (me_var (i := 2) rfl (.inl v_lpower_2)) (me_var (i := 0) rfl (.inl v_lpower_0)))))) (mss_one (ms_ret (me_var (i := 2) rfl (.inl v_lpower_2)))))

abbrev s_lfigures_text : Stmt := top 29
theorem sc_lfigures_text : FnScope ["_law_number_here", "_law_many", "_law_found", "_law_k"] ["_law_number_here", "_law_many"] (defScope s_lfigures_text) := ⟨rfl, rfl, rfl, by decide +kernel, rfl, by decide +kernel, by decide +kernel⟩
theorem v_lfigures_text_0 : (defScope s_lfigures_text).names.lookup ("_law_number_here" : Str) = some NameKind.local := by decide +kernel
theorem v_lfigures_text_1 : (defScope s_lfigures_text).names.lookup ("_law_many" : Str) = some NameKind.local := by decide +kernel
theorem v_lfigures_text_2 : (defScope s_lfigures_text).names.lookup ("_law_found" : Str) = some NameKind.local := by decide +kernel
theorem v_lfigures_text_3 : (defScope s_lfigures_text).names.lookup ("_law_k" : Str) = some NameKind.local := by decide +kernel
theorem g_lfigures_text_range (L a : Addr) (cd : Value) : (PyProof.Rows.envOfC "_law_figures_text" (defScope s_lfigures_text) L a cd).kindOf ("range" : Str) = some NameKind.globalImplicit := rfl
theorem ok_lfigures_text {P : Program} {w : World} {K : PySem.W.Frag} {mg : Str → Option Value} {base : Heap} {f : Addr} {fd : FuncData} (F : Fun K "_law_figures_text" "_law_figures_text" s_lfigures_text f fd) (B : Bn mg)     :
    FnOk P w K mg base (L2N.CX P w) 2 f fd ["_law_number_here", "_law_many"] (spF K mg 2 [] f_lfigures_text) := by
  refine fn_ok F sc_lfigures_text (by decide) (by decide) fun cdv A outer s H E hr => ?_
  have nd := sc_lfigures_text.nd
  have tk : L2N.Takes (cxOf (L2N.CX P w) P w K mg base ["_law_number_here", "_law_many", "_law_found", "_law_k"] "_law_figures_text" (defScope s_lfigures_text) f cdv A outer s H E) (fun cls d _ H => E cls d H) := L2N.takes_of rfl rfl rfl rfl
  have pn : PassesOwn (model P w) (cxOf (L2N.CX P w) P w K mg base ["_law_number_here", "_law_many", "_law_found", "_law_k"] "_law_figures_text" (defScope s_lfigures_text) f cdv A outer s H E).A (cxOf (L2N.CX P w) P w K mg base ["_law_number_here", "_law_many", "_law_found", "_law_k"] "_law_figures_text" (defScope s_lfigures_text) f cdv A outer s H E).env (cxOf (L2N.CX P w) P w K mg base ["_law_number_here", "_law_many", "_law_found", "_law_k"] "_law_figures_text" (defScope s_lfigures_text) f cdv A outer s H E).xe := passes_of rfl
  unfold m_lfigures_text
  exact mss_cons (ms_set (i := 2) nd rfl (.inl v_lfigures_text_2) (me_str)) (mss_cons (ms_for pn rfl (mi_r1 B.range (ma_cons (me_var (i := 1) rfl (.inl v_lfigures_text_1)) (ma_nil)) (hg := (g_lfigures_text_range _ _ _))) (mg_name (i := 3) nd rfl (.inl v_lfigures_text_3)) (mss_cons (ms_set (i := 2) nd rfl (.inl v_lfigures_text_2) (me_add (me_ix (me_str) (me_mod (me_var (i := 0) rfl (.inl v_lfigures_text_0)) (me_int))) (me_var (i := 2) rfl (.inl v_lfigures_text_2)))) (mss_one (ms_set (i := 0) nd rfl (.inl v_lfigures_text_0) (me_div (me_var (i := 0) rfl (.inl v_lfigures_text_0)) (me_int)))))) (mss_one (ms_ret (me_var (i := 2) rfl (.inl v_lfigures_text_2)))))

abbrev s_lvalue : Stmt := top 31
theorem sc_lvalue : FnScope ["_law_word", "_law_found", "_law_sign_here"] ["_law_word"] (defScope s_lvalue) := ⟨rfl, rfl, rfl, by decide +kernel, rfl, by decide +kernel, by decide +kernel⟩
theorem v_lvalue_0 : (defScope s_lvalue).names.lookup ("_law_word" : Str) = some NameKind.local := by decide +kernel
theorem v_lvalue_1 : (defScope s_lvalue).names.lookup ("_law_found" : Str) = some NameKind.local := by decide +kernel
theorem v_lvalue_2 : (defScope s_lvalue).names.lookup ("_law_sign_here" : Str) = some NameKind.local := by decide +kernel
theorem ok_lvalue {P : Program} {w : World} {K : PySem.W.Frag} {mg : Str → Option Value} {base : Heap} {f : Addr} {fd : FuncData} (F : Fun K "_law_value" "_law_value" s_lvalue f fd) (B : Bn mg)     :
    FnOk P w K mg base (L2N.CX P w) 2 f fd ["_law_word"] (spF K mg 1 [] f_lvalue) := by
  refine fn_ok F sc_lvalue (by decide) (by decide) fun cdv A outer s H E hr => ?_
  have nd := sc_lvalue.nd
  have tk : L2N.Takes (cxOf (L2N.CX P w) P w K mg base ["_law_word", "_law_found", "_law_sign_here"] "_law_value" (defScope s_lvalue) f cdv A outer s H E) (fun cls d _ H => E cls d H) := L2N.takes_of rfl rfl rfl rfl
  have pn : PassesOwn (model P w) (cxOf (L2N.CX P w) P w K mg base ["_law_word", "_law_found", "_law_sign_here"] "_law_value" (defScope s_lvalue) f cdv A outer s H E).A (cxOf (L2N.CX P w) P w K mg base ["_law_word", "_law_found", "_law_sign_here"] "_law_value" (defScope s_lvalue) f cdv A outer s H E).env (cxOf (L2N.CX P w) P w K mg base ["_law_word", "_law_found", "_law_sign_here"] "_law_value" (defScope s_lvalue) f cdv A outer s H E).xe := passes_of rfl
  unfold m_lvalue
  exact mss_cons (ms_set (i := 1) nd rfl (.inl v_lvalue_1) (me_int)) (mss_cons (ms_for pn rfl (mi_val (me_var (i := 0) rfl (.inl v_lvalue_0))) (mg_name (i := 2) nd rfl (.inl v_lvalue_2)) (mss_one (ms_set (i := 1) nd rfl (.inl v_lvalue_1) (me_add (me_mul (me_int) (me_var (i := 1) rfl (.inl v_lvalue_1))) (me_sm ss_index PySem.F.slot_str_index PySem.F.type_str_index mt_sindex (me_str) (ma_cons (me_var (i := 2) rfl (.inl v_lvalue_2)) (ma_nil))))))) (mss_one (ms_ret (me_var (i := 1) rfl (.inl v_lvalue_1)))))

abbrev s_lends : Stmt := top 23
theorem sc_lends : FnScope ["_law_form_here", "_law_ten"] ["_law_form_here"] (defScope s_lends) := ⟨rfl, rfl, rfl, by decide +kernel, rfl, by decide +kernel, by decide +kernel⟩
theorem v_lends_0 : (defScope s_lends).names.lookup ("_law_form_here" : Str) = some NameKind.local := by decide +kernel
theorem v_lends_1 : (defScope s_lends).names.lookup ("_law_ten" : Str) = some NameKind.local := by decide +kernel
theorem g_lends_law_power (L a : Addr) (cd : Value) : (PyProof.Rows.envOfC "_law_ends" (defScope s_lends) L a cd).kindOf ("_law_power" : Str) = some NameKind.globalImplicit := rfl
theorem ok_lends {P : Program} {w : World} {K : PySem.W.Frag} {mg : Str → Option Value} {base : Heap} {f : Addr} {fd : FuncData} (F : Fun K "_law_ends" "_law_ends" s_lends f fd) (B : Bn mg) (h_lpower : Fd P w K mg base "_law_power" 2 ["_law_base", "_law_many"] [] f_lpower)    :
    FnOk P w K mg base (L2N.CX P w) 4 f fd ["_law_form_here"] (spF K mg 1 [] f_lends) := by
  refine fn_ok F sc_lends (by decide) (by decide) fun cdv A outer s H E hr => ?_
  have nd := sc_lends.nd
  have tk : L2N.Takes (cxOf (L2N.CX P w) P w K mg base ["_law_form_here", "_law_ten"] "_law_ends" (defScope s_lends) f cdv A outer s H E) (fun cls d _ H => E cls d H) := L2N.takes_of rfl rfl rfl rfl
  have pn : PassesOwn (model P w) (cxOf (L2N.CX P w) P w K mg base ["_law_form_here", "_law_ten"] "_law_ends" (defScope s_lends) f cdv A outer s H E).A (cxOf (L2N.CX P w) P w K mg base ["_law_form_here", "_law_ten"] "_law_ends" (defScope s_lends) f cdv A outer s H E).env (cxOf (L2N.CX P w) P w K mg base ["_law_form_here", "_law_ten"] "_law_ends" (defScope s_lends) f cdv A outer s H E).xe := passes_of rfl
  unfold m_lends
  exact mss_cons (ms_set (i := 1) nd rfl (.inl v_lends_1) (me_fz (mf_call h_lpower hr (by decide) tk (ma_cons (me_int) (ma_cons (me_ix (me_var (i := 0) rfl (.inl v_lends_0)) (me_int)) (ma_nil))) (lng_cons (lng_cons lng_nil)) (hg := (g_lends_law_power _ _ _))))) (mss_cons (ms_if (mt_cmp (op_eqM hr.units) os_eq (me_ix (me_var (i := 0) rfl (.inl v_lends_0)) (me_int)) (me_str) (nomark _)) (mss_one (ms_ret (me_tup (ma_cons (me_int) (ma_cons (me_sub (me_var (i := 1) rfl (.inl v_lends_1)) (me_int)) (ma_nil)))))) (mss_nil)) (mss_cons (ms_if (mt_cmp (op_eqM hr.units) os_eq (me_ix (me_var (i := 0) rfl (.inl v_lends_0)) (me_int)) (me_str) (nomark _)) (mss_one (ms_ret (me_tup (ma_cons (me_sub (me_int) (me_var (i := 1) rfl (.inl v_lends_1))) (ma_cons (me_sub (me_var (i := 1) rfl (.inl v_lends_1)) (me_int)) (ma_nil)))))) (mss_nil)) (mss_one (ms_ret (me_tup (ma_cons (me_sub (me_int) (me_div (me_var (i := 1) rfl (.inl v_lends_1)) (me_int))) (ma_cons (me_sub (me_div (me_var (i := 1) rfl (.inl v_lends_1)) (me_int)) (me_int)) (ma_nil))))))))

abbrev s_lfits : Stmt := top 24
theorem sc_lfits : FnScope ["_law_form_here", "_law_number_here", "_law_low", "_law_high"] ["_law_form_here", "_law_number_here"] (defScope s_lfits) := ⟨rfl, rfl, rfl, by decide +kernel, rfl, by decide +kernel, by decide +kernel⟩
theorem v_lfits_0 : (defScope s_lfits).names.lookup ("_law_form_here" : Str) = some NameKind.local := by decide +kernel
theorem v_lfits_1 : (defScope s_lfits).names.lookup ("_law_number_here" : Str) = some NameKind.local := by decide +kernel
theorem v_lfits_2 : (defScope s_lfits).names.lookup ("_law_low" : Str) = some NameKind.local := by decide +kernel
theorem v_lfits_3 : (defScope s_lfits).names.lookup ("_law_high" : Str) = some NameKind.local := by decide +kernel
theorem g_lfits_law_ends (L a : Addr) (cd : Value) : (PyProof.Rows.envOfC "_law_fits" (defScope s_lfits) L a cd).kindOf ("_law_ends" : Str) = some NameKind.globalImplicit := rfl
theorem ok_lfits {P : Program} {w : World} {K : PySem.W.Frag} {mg : Str → Option Value} {base : Heap} {f : Addr} {fd : FuncData} (F : Fun K "_law_fits" "_law_fits" s_lfits f fd) (B : Bn mg) (h_lends : Fd P w K mg base "_law_ends" 4 ["_law_form_here"] [] f_lends)    :
    FnOk P w K mg base (L2N.CX P w) 6 f fd ["_law_form_here", "_law_number_here"] (spF K mg 2 [] f_lfits) := by
  refine fn_ok F sc_lfits (by decide) (by decide) fun cdv A outer s H E hr => ?_
  have nd := sc_lfits.nd
  have tk : L2N.Takes (cxOf (L2N.CX P w) P w K mg base ["_law_form_here", "_law_number_here", "_law_low", "_law_high"] "_law_fits" (defScope s_lfits) f cdv A outer s H E) (fun cls d _ H => E cls d H) := L2N.takes_of rfl rfl rfl rfl
  have pn : PassesOwn (model P w) (cxOf (L2N.CX P w) P w K mg base ["_law_form_here", "_law_number_here", "_law_low", "_law_high"] "_law_fits" (defScope s_lfits) f cdv A outer s H E).A (cxOf (L2N.CX P w) P w K mg base ["_law_form_here", "_law_number_here", "_law_low", "_law_high"] "_law_fits" (defScope s_lfits) f cdv A outer s H E).env (cxOf (L2N.CX P w) P w K mg base ["_law_form_here", "_law_number_here", "_law_low", "_law_high"] "_law_fits" (defScope s_lfits) f cdv A outer s H E).xe := passes_of rfl
  unfold m_lfits
  exact mss_cons (ms_asg (me_fz (mf_call h_lends hr (by decide) tk (ma_cons (me_var (i := 0) rfl (.inl v_lfits_0)) (ma_nil)) (lng_cons lng_nil) (hg := (g_lfits_law_ends _ _ _)))) (mg_tup rfl (mgs_cons (mg_name (i := 2) nd rfl (.inl v_lfits_2)) (mgs_cons (mg_name (i := 3) nd rfl (.inl v_lfits_3)) (mgs_nil))))) (mss_one (ms_ret (me_chain op_le os_le op_le os_le (me_var (i := 2) rfl (.inl v_lfits_2)) (me_var (i := 1) rfl (.inl v_lfits_1)) (me_var (i := 3) rfl (.inl v_lfits_3)))))

abbrev s_lis_figures : Stmt := top 30
theorem sc_lis_figures : FnScope ["_law_word", "_law_sign_here"] ["_law_word"] (defScope s_lis_figures) := ⟨rfl, rfl, rfl, by decide +kernel, rfl, by decide +kernel, by decide +kernel⟩
theorem v_lis_figures_0 : (defScope s_lis_figures).names.lookup ("_law_word" : Str) = some NameKind.local := by decide +kernel
theorem g_lis_figures_len (L a : Addr) (cd : Value) : (PyProof.Rows.envOfC "_law_is_figures" (defScope s_lis_figures) L a cd).kindOf ("len" : Str) = some NameKind.globalImplicit := rfl
theorem g_lis_figures_all (L a : Addr) (cd : Value) : (PyProof.Rows.envOfC "_law_is_figures" (defScope s_lis_figures) L a cd).kindOf ("all" : Str) = some NameKind.globalImplicit := rfl
theorem ok_lis_figures {P : Program} {w : World} {K : PySem.W.Frag} {mg : Str → Option Value} {base : Heap} {f : Addr} {fd : FuncData} (F : Fun K "_law_is_figures" "_law_is_figures" s_lis_figures f fd) (B : Bn mg)     :
    FnOk P w K mg base (L2N.CX P w) 2 f fd ["_law_word"] (spF K mg 1 [] f_lis_figures) := by
  refine fn_ok F sc_lis_figures (by decide) (by decide) fun cdv A outer s H E hr => ?_
  have nd := sc_lis_figures.nd
  have tk : L2N.Takes (cxOf (L2N.CX P w) P w K mg base ["_law_word", "_law_sign_here"] "_law_is_figures" (defScope s_lis_figures) f cdv A outer s H E) (fun cls d _ H => E cls d H) := L2N.takes_of rfl rfl rfl rfl
  have pn : PassesOwn (model P w) (cxOf (L2N.CX P w) P w K mg base ["_law_word", "_law_sign_here"] "_law_is_figures" (defScope s_lis_figures) f cdv A outer s H E).A (cxOf (L2N.CX P w) P w K mg base ["_law_word", "_law_sign_here"] "_law_is_figures" (defScope s_lis_figures) f cdv A outer s H E).env (cxOf (L2N.CX P w) P w K mg base ["_law_word", "_law_sign_here"] "_law_is_figures" (defScope s_lis_figures) f cdv A outer s H E).xe := passes_of rfl
  unfold m_lis_figures
  exact mss_one (ms_ret (me_and (me_chain op_lt os_lt op_lt os_lt (me_int) (mb_len B.len (ma_cons (me_var (i := 0) rfl (.inl v_lis_figures_0)) (ma_nil)) (hg := (g_lis_figures_len _ _ _))) (me_int)) (me_one (mb_all rfl B.all (ma_cons (me_fz (mo_lc (own := [("_law_sign_here", 1)]) (g := .nm 1) rfl nd (mi_val (me_var (i := 0) rfl (.inl v_lis_figures_0))) (blkOk_at (N' := ["_law_word", "_law_sign_here"]) (sc' := defScope s_lis_figures) rfl rfl (by decide +kernel)) (fun _ _ _ _ _ => pg_name (i := 1) nd rfl (Or.inl rfl)) (fun _ _ _ _ _ => mts_nil) (fun _ _ _ _ _ => me_cmp op_inM os_in (me_var (i := 1) rfl (.inl rfl)) (me_str) rfl) (hbs := hbs_of rfl))) (ma_nil)) (hg := (g_lis_figures_all _ _ _))))))

abbrev s_lreading : Stmt := top 32
theorem sc_lreading : FnScope ["_law_form_here", "_law_text", "_law_minus", "_law_words", "_law_number_here", "_law_under", "_law_word"] ["_law_form_here", "_law_text"] (defScope s_lreading) := ⟨rfl, rfl, rfl, by decide +kernel, rfl, by decide +kernel, by decide +kernel⟩
theorem v_lreading_0 : (defScope s_lreading).names.lookup ("_law_form_here" : Str) = some NameKind.local := by decide +kernel
theorem v_lreading_1 : (defScope s_lreading).names.lookup ("_law_text" : Str) = some NameKind.local := by decide +kernel
theorem v_lreading_2 : (defScope s_lreading).names.lookup ("_law_minus" : Str) = some NameKind.local := by decide +kernel
theorem v_lreading_3 : (defScope s_lreading).names.lookup ("_law_words" : Str) = some NameKind.local := by decide +kernel
theorem v_lreading_4 : (defScope s_lreading).names.lookup ("_law_number_here" : Str) = some NameKind.local := by decide +kernel
theorem v_lreading_5 : (defScope s_lreading).names.lookup ("_law_under" : Str) = some NameKind.local := by decide +kernel
theorem g_lreading_int (L a : Addr) (cd : Value) : (PyProof.Rows.envOfC "_law_reading" (defScope s_lreading) L a cd).kindOf ("int" : Str) = some NameKind.globalImplicit := rfl
theorem g_lreading_len (L a : Addr) (cd : Value) : (PyProof.Rows.envOfC "_law_reading" (defScope s_lreading) L a cd).kindOf ("len" : Str) = some NameKind.globalImplicit := rfl
theorem g_lreading_all (L a : Addr) (cd : Value) : (PyProof.Rows.envOfC "_law_reading" (defScope s_lreading) L a cd).kindOf ("all" : Str) = some NameKind.globalImplicit := rfl
theorem g_lreading_law_value (L a : Addr) (cd : Value) : (PyProof.Rows.envOfC "_law_reading" (defScope s_lreading) L a cd).kindOf ("_law_value" : Str) = some NameKind.globalImplicit := rfl
theorem g_lreading_law_power (L a : Addr) (cd : Value) : (PyProof.Rows.envOfC "_law_reading" (defScope s_lreading) L a cd).kindOf ("_law_power" : Str) = some NameKind.globalImplicit := rfl
theorem g_lreading_law_fits (L a : Addr) (cd : Value) : (PyProof.Rows.envOfC "_law_reading" (defScope s_lreading) L a cd).kindOf ("_law_fits" : Str) = some NameKind.globalImplicit := rfl
theorem ok_lreading {P : Program} {w : World} {K : PySem.W.Frag} {mg : Str → Option Value} {base : Heap} {f : Addr} {fd : FuncData} (F : Fun K "_law_reading" "_law_reading" s_lreading f fd) (B : Bn mg) (h_lis_figures : Fd P w K mg base "_law_is_figures" 2 ["_law_word"] [] f_lis_figures) (h_lvalue : Fd P w K mg base "_law_value" 2 ["_law_word"] [] f_lvalue) (h_lpower : Fd P w K mg base "_law_power" 2 ["_law_base", "_law_many"] [] f_lpower) (h_lfits : Fd P w K mg base "_law_fits" 6 ["_law_form_here", "_law_number_here"] [] f_lfits)    :
    FnOk P w K mg base (L2N.CX P w) 8 f fd ["_law_form_here", "_law_text"] (spF K mg 2 [] f_lreading) := by
  refine fn_ok F sc_lreading (by decide) (by decide) fun cdv A outer s H E hr => ?_
  have nd := sc_lreading.nd
  have tk : L2N.Takes (cxOf (L2N.CX P w) P w K mg base ["_law_form_here", "_law_text", "_law_minus", "_law_words", "_law_number_here", "_law_under", "_law_word"] "_law_reading" (defScope s_lreading) f cdv A outer s H E) (fun cls d _ H => E cls d H) := L2N.takes_of rfl rfl rfl rfl
  have pn : PassesOwn (model P w) (cxOf (L2N.CX P w) P w K mg base ["_law_form_here", "_law_text", "_law_minus", "_law_words", "_law_number_here", "_law_under", "_law_word"] "_law_reading" (defScope s_lreading) f cdv A outer s H E).A (cxOf (L2N.CX P w) P w K mg base ["_law_form_here", "_law_text", "_law_minus", "_law_words", "_law_number_here", "_law_under", "_law_word"] "_law_reading" (defScope s_lreading) f cdv A outer s H E).env (cxOf (L2N.CX P w) P w K mg base ["_law_form_here", "_law_text", "_law_minus", "_law_words", "_law_number_here", "_law_under", "_law_word"] "_law_reading" (defScope s_lreading) f cdv A outer s H E).xe := passes_of rfl
  unfold m_lreading
  exact mss_cons (ms_set (i := 2) nd rfl (.inl v_lreading_2) (me_cmp (op_eqM hr.units) os_eq (me_sl (me_var (i := 1) rfl (.inl v_lreading_1)) (mp_none) (mp_some (me_int))) (me_str) (nomark _))) (mss_cons (ms_set (i := 3) nd rfl (.inl v_lreading_3) (me_sm ss_split PySem.F.slot_str_split PySem.F.type_str_split mt_split (me_sl (me_var (i := 1) rfl (.inl v_lreading_1)) (mp_some (mb_int B.int (ma_cons (me_var (i := 2) rfl (.inl v_lreading_2)) (ma_nil)) (hg := (g_lreading_int _ _ _)))) (mp_none)) (ma_cons (me_str) (ma_nil)))) (mss_cons (ms_if (PW.pt (mw_or (mt_cmp op_gt os_gt (mb_len B.len (ma_cons (me_var (i := 3) rfl (.inl v_lreading_3)) (ma_nil)) (hg := (g_lreading_len _ _ _))) (me_int) (nomark _)) (mw_one_or (mt_not (mt_val (mb_all rfl B.all (ma_cons (me_fz (mo_lc (own := [("_law_word", 6)]) (g := .nm 6) rfl nd (mi_val (me_var (i := 3) rfl (.inl v_lreading_3))) (blkOk_at (N' := ["_law_form_here", "_law_text", "_law_minus", "_law_words", "_law_number_here", "_law_under", "_law_word"]) (sc' := defScope s_lreading) rfl rfl (by decide +kernel)) (fun _ _ _ _ _ => pg_name (i := 6) nd rfl (Or.inl rfl)) (fun _ _ _ _ _ => mts_nil) (fun _ _ _ _ _ => me_fz (mf_call0 h_lis_figures hr (by decide) (ma_cons (me_var (i := 6) rfl (.inl rfl)) (ma_nil)) (lng_cons lng_nil) (hg := rfl))) (hbs := hbs_of rfl))) (ma_nil)) (hg := (g_lreading_all _ _ _)))))))) (mss_one (ms_ret (me_tup (ma_cons (me_str) (ma_cons (me_int) (ma_nil)))))) (mss_nil)) (mss_cons (ms_set (i := 4) nd rfl (.inl v_lreading_4) (me_mul (me_fz (mf_call h_lvalue hr (by decide) tk (ma_cons (me_sm ss_join PySem.F.slot_str_join PySem.F.type_str_join mt_join (me_str) (ma_cons (me_var (i := 3) rfl (.inl v_lreading_3)) (ma_nil))) (ma_nil)) (lng_cons lng_nil) (hg := (g_lreading_law_value _ _ _)))) (me_fz (mf_call h_lpower hr (by decide) tk (ma_cons (me_int) (ma_cons (me_ix (me_var (i := 0) rfl (.inl v_lreading_0)) (me_int)) (ma_nil))) (lng_cons (lng_cons lng_nil)) (hg := (g_lreading_law_power _ _ _)))))) (mss_cons (ms_set (i := 5) nd rfl (.inl v_lreading_5) (me_fz (mf_call h_lpower hr (by decide) tk (ma_cons (me_int) (ma_cons (mb_len B.len (ma_cons (me_sm ss_join PySem.F.slot_str_join PySem.F.type_str_join mt_join (me_str) (ma_cons (me_sl (me_var (i := 3) rfl (.inl v_lreading_3)) (mp_some (me_int)) (mp_none)) (ma_nil))) (ma_nil)) (hg := (g_lreading_len _ _ _))) (ma_nil))) (lng_cons (lng_cons lng_nil)) (hg := (g_lreading_law_power _ _ _))))) (mss_cons (ms_if (mt_cmp op_gt os_gt (me_mod (me_var (i := 4) rfl (.inl v_lreading_4)) (me_var (i := 5) rfl (.inl v_lreading_5))) (me_int) (nomark _)) (mss_one (ms_ret (me_tup (ma_cons (me_str) (ma_cons (me_int) (ma_nil)))))) (mss_nil)) (mss_cons (ms_set (i := 4) nd rfl (.inl v_lreading_4) (me_mul (me_div (me_var (i := 4) rfl (.inl v_lreading_4)) (me_var (i := 5) rfl (.inl v_lreading_5))) (me_sub (me_int) (me_mul (me_int) (mb_int B.int (ma_cons (me_var (i := 2) rfl (.inl v_lreading_2)) (ma_nil)) (hg := (g_lreading_int _ _ _))))))) (mss_cons (ms_if (mt_not (mt_val (me_fz (mf_call h_lfits hr (by decide) tk (ma_cons (me_var (i := 0) rfl (.inl v_lreading_0)) (ma_cons (me_var (i := 4) rfl (.inl v_lreading_4)) (ma_nil))) (lng_cons (lng_cons lng_nil)) (hg := (g_lreading_law_fits _ _ _)))))) (mss_one (ms_ret (me_tup (ma_cons (me_str) (ma_cons (me_int) (ma_nil)))))) (mss_nil)) (mss_one (ms_ret (me_tup (ma_cons (me_str) (ma_cons (me_var (i := 4) rfl (.inl v_lreading_4)) (ma_nil)))))))))))))

abbrev s_lcell : Stmt := top 18
theorem sc_lcell : FnScope ["_law_script", "_law_k"] ["_law_script", "_law_k"] (defScope s_lcell) := ⟨rfl, rfl, rfl, by decide +kernel, rfl, by decide +kernel, by decide +kernel⟩
theorem v_lcell_0 : (defScope s_lcell).names.lookup ("_law_script" : Str) = some NameKind.local := by decide +kernel
theorem v_lcell_1 : (defScope s_lcell).names.lookup ("_law_k" : Str) = some NameKind.local := by decide +kernel
theorem g_lcell_len (L a : Addr) (cd : Value) : (PyProof.Rows.envOfC "_law_cell" (defScope s_lcell) L a cd).kindOf ("len" : Str) = some NameKind.globalImplicit := rfl
theorem ok_lcell {P : Program} {w : World} {K : PySem.W.Frag} {mg : Str → Option Value} {base : Heap} {f : Addr} {fd : FuncData} (F : Fun K "_law_cell" "_law_cell" s_lcell f fd) (B : Bn mg)     :
    FnOk P w K mg base (L2N.CX P w) 2 f fd ["_law_script", "_law_k"] (spF K mg 2 [] f_lcell) := by
  refine fn_ok F sc_lcell (by decide) (by decide) fun cdv A outer s H E hr => ?_
  have nd := sc_lcell.nd
  have tk : L2N.Takes (cxOf (L2N.CX P w) P w K mg base ["_law_script", "_law_k"] "_law_cell" (defScope s_lcell) f cdv A outer s H E) (fun cls d _ H => E cls d H) := L2N.takes_of rfl rfl rfl rfl
  have pn : PassesOwn (model P w) (cxOf (L2N.CX P w) P w K mg base ["_law_script", "_law_k"] "_law_cell" (defScope s_lcell) f cdv A outer s H E).A (cxOf (L2N.CX P w) P w K mg base ["_law_script", "_law_k"] "_law_cell" (defScope s_lcell) f cdv A outer s H E).env (cxOf (L2N.CX P w) P w K mg base ["_law_script", "_law_k"] "_law_cell" (defScope s_lcell) f cdv A outer s H E).xe := passes_of rfl
  unfold m_lcell
  exact mss_cons (ms_if (mt_cmp op_lt os_lt (me_var (i := 1) rfl (.inl v_lcell_1)) (mb_len B.len (ma_cons (me_var (i := 0) rfl (.inl v_lcell_0)) (ma_nil)) (hg := (g_lcell_len _ _ _))) (nomark _)) (mss_one (ms_ret (me_ix (me_var (i := 0) rfl (.inl v_lcell_0)) (me_var (i := 1) rfl (.inl v_lcell_1))))) (mss_nil)) (mss_cons (ms_if (mt_cmp (op_eqM hr.units) os_eq (mb_len B.len (ma_cons (me_var (i := 0) rfl (.inl v_lcell_0)) (ma_nil)) (hg := (g_lcell_len _ _ _))) (me_int) (nomark _)) (mss_one (ms_ret (me_mul (me_int) (me_add (me_var (i := 1) rfl (.inl v_lcell_1)) (me_int))))) (mss_nil)) (mss_one (ms_ret (me_add (me_ix (me_var (i := 0) rfl (.inl v_lcell_0)) (me_mod (me_var (i := 1) rfl (.inl v_lcell_1)) (mb_len B.len (ma_cons (me_var (i := 0) rfl (.inl v_lcell_0)) (ma_nil)) (hg := (g_lcell_len _ _ _))))) (me_mul (me_int) (me_var (i := 1) rfl (.inl v_lcell_1)))))))

abbrev s_lnumber : Stmt := top 25
theorem sc_lnumber : FnScope ["_law_form_here", "_law_way", "_law_far", "_law_size", "_law_some", "_law_number_here", "_law_low", "_law_high"] ["_law_form_here", "_law_way", "_law_far"] (defScope s_lnumber) := ⟨rfl, rfl, rfl, by decide +kernel, rfl, by decide +kernel, by decide +kernel⟩
theorem v_lnumber_0 : (defScope s_lnumber).names.lookup ("_law_form_here" : Str) = some NameKind.local := by decide +kernel
theorem v_lnumber_1 : (defScope s_lnumber).names.lookup ("_law_way" : Str) = some NameKind.local := by decide +kernel
theorem v_lnumber_2 : (defScope s_lnumber).names.lookup ("_law_far" : Str) = some NameKind.local := by decide +kernel
theorem v_lnumber_3 : (defScope s_lnumber).names.lookup ("_law_size" : Str) = some NameKind.local := by decide +kernel
theorem v_lnumber_4 : (defScope s_lnumber).names.lookup ("_law_some" : Str) = some NameKind.local := by decide +kernel
theorem v_lnumber_5 : (defScope s_lnumber).names.lookup ("_law_number_here" : Str) = some NameKind.local := by decide +kernel
theorem v_lnumber_6 : (defScope s_lnumber).names.lookup ("_law_low" : Str) = some NameKind.local := by decide +kernel
theorem v_lnumber_7 : (defScope s_lnumber).names.lookup ("_law_high" : Str) = some NameKind.local := by decide +kernel
theorem g_lnumber_law_ends (L a : Addr) (cd : Value) : (PyProof.Rows.envOfC "_law_number" (defScope s_lnumber) L a cd).kindOf ("_law_ends" : Str) = some NameKind.globalImplicit := rfl
theorem g_lnumber_law_power (L a : Addr) (cd : Value) : (PyProof.Rows.envOfC "_law_number" (defScope s_lnumber) L a cd).kindOf ("_law_power" : Str) = some NameKind.globalImplicit := rfl
theorem g_lnumber_min (L a : Addr) (cd : Value) : (PyProof.Rows.envOfC "_law_number" (defScope s_lnumber) L a cd).kindOf ("min" : Str) = some NameKind.globalImplicit := rfl
theorem g_lnumber_max (L a : Addr) (cd : Value) : (PyProof.Rows.envOfC "_law_number" (defScope s_lnumber) L a cd).kindOf ("max" : Str) = some NameKind.globalImplicit := rfl
theorem ok_lnumber {P : Program} {w : World} {K : PySem.W.Frag} {mg : Str → Option Value} {base : Heap} {f : Addr} {fd : FuncData} (F : Fun K "_law_number" "_law_number" s_lnumber f fd) (B : Bn mg) (h_lends : Fd P w K mg base "_law_ends" 4 ["_law_form_here"] [] f_lends) (h_lpower : Fd P w K mg base "_law_power" 2 ["_law_base", "_law_many"] [] f_lpower)    :
    FnOk P w K mg base (L2N.CX P w) 6 f fd ["_law_form_here", "_law_way", "_law_far"] (spF K mg 3 [] f_lnumber) := by
  refine fn_ok F sc_lnumber (by decide) (by decide) fun cdv A outer s H E hr => ?_
  have nd := sc_lnumber.nd
  have tk : L2N.Takes (cxOf (L2N.CX P w) P w K mg base ["_law_form_here", "_law_way", "_law_far", "_law_size", "_law_some", "_law_number_here", "_law_low", "_law_high"] "_law_number" (defScope s_lnumber) f cdv A outer s H E) (fun cls d _ H => E cls d H) := L2N.takes_of rfl rfl rfl rfl
  have pn : PassesOwn (model P w) (cxOf (L2N.CX P w) P w K mg base ["_law_form_here", "_law_way", "_law_far", "_law_size", "_law_some", "_law_number_here", "_law_low", "_law_high"] "_law_number" (defScope s_lnumber) f cdv A outer s H E).A (cxOf (L2N.CX P w) P w K mg base ["_law_form_here", "_law_way", "_law_far", "_law_size", "_law_some", "_law_number_here", "_law_low", "_law_high"] "_law_number" (defScope s_lnumber) f cdv A outer s H E).env (cxOf (L2N.CX P w) P w K mg base ["_law_form_here", "_law_way", "_law_far", "_law_size", "_law_some", "_law_number_here", "_law_low", "_law_high"] "_law_number" (defScope s_lnumber) f cdv A outer s H E).xe := passes_of rfl
  unfold m_lnumber
  exact mss_cons (ms_asg (me_fz (mf_call h_lends hr (by decide) tk (ma_cons (me_var (i := 0) rfl (.inl v_lnumber_0)) (ma_nil)) (lng_cons lng_nil) (hg := (g_lnumber_law_ends _ _ _)))) (mg_tup rfl (mgs_cons (mg_name (i := 6) nd rfl (.inl v_lnumber_6)) (mgs_cons (mg_name (i := 7) nd rfl (.inl v_lnumber_7)) (mgs_nil))))) (mss_cons (ms_if (mt_cmp op_gt os_gt (me_var (i := 1) rfl (.inl v_lnumber_1)) (me_int) (nomark _)) (mss_one (ms_ret (me_add (me_var (i := 6) rfl (.inl v_lnumber_6)) (me_mod (me_var (i := 2) rfl (.inl v_lnumber_2)) (me_add (me_sub (me_var (i := 7) rfl (.inl v_lnumber_7)) (me_var (i := 6) rfl (.inl v_lnumber_6))) (me_int)))))) (mss_nil)) (mss_cons (ms_set (i := 3) nd rfl (.inl v_lnumber_3) (me_fz (mf_call h_lpower hr (by decide) tk (ma_cons (me_int) (ma_cons (me_mod (me_var (i := 2) rfl (.inl v_lnumber_2)) (me_ix (me_var (i := 0) rfl (.inl v_lnumber_0)) (me_int))) (ma_nil))) (lng_cons (lng_cons lng_nil)) (hg := (g_lnumber_law_power _ _ _))))) (mss_cons (ms_setO (i := 4) nd rfl (.inl v_lnumber_4) (mo_lst (ma_cons (me_int) (ma_cons (me_int) (ma_cons (me_var (i := 7) rfl (.inl v_lnumber_7)) (ma_cons (me_var (i := 6) rfl (.inl v_lnumber_6)) (ma_cons (me_var (i := 3) rfl (.inl v_lnumber_3)) (ma_cons (me_sub (me_var (i := 3) rfl (.inl v_lnumber_3)) (me_int)) (ma_cons (me_mul (me_int) (me_var (i := 3) rfl (.inl v_lnumber_3))) (ma_cons (me_mul (me_int) (me_var (i := 3) rfl (.inl v_lnumber_3))) (ma_cons (me_add (me_var (i := 3) rfl (.inl v_lnumber_3)) (me_int)) (ma_nil)))))))))))) (mss_cons (ms_expr (me_lm1 ls_append PySem.F.slot_list_append PySem.F.type_list_append mt_append (i := 4) rfl (.inl v_lnumber_4) (ma_cons (me_mod (me_div (me_var (i := 2) rfl (.inl v_lnumber_2)) (me_int)) (me_mul (me_int) (me_var (i := 3) rfl (.inl v_lnumber_3)))) (ma_nil)))) (mss_cons (ms_set (i := 5) nd rfl (.inl v_lnumber_5) (me_ixV (i := 4) rfl (.inl v_lnumber_4) (me_var (i := 1) rfl (.inl v_lnumber_1)))) (mss_cons (ms_if (PW.pt (mw_and (mt_cmp op_lt os_lt (me_var (i := 6) rfl (.inl v_lnumber_6)) (me_int) (nomark _)) (mw_one_and (mt_cmp (op_eqM hr.units) os_eq (me_mod (me_div (me_var (i := 2) rfl (.inl v_lnumber_2)) (me_int)) (me_int)) (me_int) (nomark _))))) (mss_one (ms_set (i := 5) nd rfl (.inl v_lnumber_5) (me_sub (me_int) (me_var (i := 5) rfl (.inl v_lnumber_5))))) (mss_nil)) (mss_one (ms_ret (mb_max rfl B.max (ma_cons (me_var (i := 6) rfl (.inl v_lnumber_6)) (ma_cons (mb_min rfl B.min (ma_cons (me_var (i := 7) rfl (.inl v_lnumber_7)) (ma_cons (me_var (i := 5) rfl (.inl v_lnumber_5)) (ma_nil))) (hg := (g_lnumber_min _ _ _))) (ma_nil))) (hg := (g_lnumber_max _ _ _)))))))))))

abbrev s_lsign : Stmt := top 27
theorem sc_lsign : FnScope ["_law_way", "_law_at", "_law_most"] ["_law_way", "_law_at"] (defScope s_lsign) := ⟨rfl, rfl, rfl, by decide +kernel, rfl, by decide +kernel, by decide +kernel⟩
theorem v_lsign_0 : (defScope s_lsign).names.lookup ("_law_way" : Str) = some NameKind.local := by decide +kernel
theorem v_lsign_1 : (defScope s_lsign).names.lookup ("_law_at" : Str) = some NameKind.local := by decide +kernel
theorem v_lsign_2 : (defScope s_lsign).names.lookup ("_law_most" : Str) = some NameKind.local := by decide +kernel
theorem g_lsign_len (L a : Addr) (cd : Value) : (PyProof.Rows.envOfC "_law_sign" (defScope s_lsign) L a cd).kindOf ("len" : Str) = some NameKind.globalImplicit := rfl
theorem ok_lsign {P : Program} {w : World} {K : PySem.W.Frag} {mg : Str → Option Value} {base : Heap} {f : Addr} {fd : FuncData} (F : Fun K "_law_sign" "_law_sign" s_lsign f fd) (B : Bn mg)     :
    FnOk P w K mg base (L2N.CX P w) 2 f fd ["_law_way", "_law_at"] (spF K mg 2 [] f_lsign) := by
  refine fn_ok F sc_lsign (by decide) (by decide) fun cdv A outer s H E hr => ?_
  have nd := sc_lsign.nd
  have tk : L2N.Takes (cxOf (L2N.CX P w) P w K mg base ["_law_way", "_law_at", "_law_most"] "_law_sign" (defScope s_lsign) f cdv A outer s H E) (fun cls d _ H => E cls d H) := L2N.takes_of rfl rfl rfl rfl
  have pn : PassesOwn (model P w) (cxOf (L2N.CX P w) P w K mg base ["_law_way", "_law_at", "_law_most"] "_law_sign" (defScope s_lsign) f cdv A outer s H E).A (cxOf (L2N.CX P w) P w K mg base ["_law_way", "_law_at", "_law_most"] "_law_sign" (defScope s_lsign) f cdv A outer s H E).env (cxOf (L2N.CX P w) P w K mg base ["_law_way", "_law_at", "_law_most"] "_law_sign" (defScope s_lsign) f cdv A outer s H E).xe := passes_of rfl
  unfold m_lsign
  exact mss_cons (ms_if (mt_cmp op_lt os_lt (me_var (i := 0) rfl (.inl v_lsign_0)) (me_int) (nomark _)) (mss_one (ms_ret (me_ix (me_str) (me_mod (me_var (i := 1) rfl (.inl v_lsign_1)) (me_int))))) (mss_nil)) (mss_cons (ms_set (i := 2) nd rfl (.inl v_lsign_2) (me_str)) (mss_one (ms_ret (me_ix (me_var (i := 2) rfl (.inl v_lsign_2)) (me_mod (me_var (i := 1) rfl (.inl v_lsign_1)) (mb_len B.len (ma_cons (me_var (i := 2) rfl (.inl v_lsign_2)) (ma_nil)) (hg := (g_lsign_len _ _ _))))))))

abbrev s_lspoilt : Stmt := top 28
theorem sc_lspoilt : FnScope ["_law_text", "_law_draws_here", "_law_place", "_law_sign_here"] ["_law_text", "_law_draws_here"] (defScope s_lspoilt) := ⟨rfl, rfl, rfl, by decide +kernel, rfl, by decide +kernel, by decide +kernel⟩
theorem v_lspoilt_0 : (defScope s_lspoilt).names.lookup ("_law_text" : Str) = some NameKind.local := by decide +kernel
theorem v_lspoilt_1 : (defScope s_lspoilt).names.lookup ("_law_draws_here" : Str) = some NameKind.local := by decide +kernel
theorem v_lspoilt_2 : (defScope s_lspoilt).names.lookup ("_law_place" : Str) = some NameKind.local := by decide +kernel
theorem v_lspoilt_3 : (defScope s_lspoilt).names.lookup ("_law_sign_here" : Str) = some NameKind.local := by decide +kernel
theorem g_lspoilt_len (L a : Addr) (cd : Value) : (PyProof.Rows.envOfC "_law_spoilt" (defScope s_lspoilt) L a cd).kindOf ("len" : Str) = some NameKind.globalImplicit := rfl
theorem g_lspoilt_law_sign (L a : Addr) (cd : Value) : (PyProof.Rows.envOfC "_law_spoilt" (defScope s_lspoilt) L a cd).kindOf ("_law_sign" : Str) = some NameKind.globalImplicit := rfl
theorem ok_lspoilt {P : Program} {w : World} {K : PySem.W.Frag} {mg : Str → Option Value} {base : Heap} {f : Addr} {fd : FuncData} (F : Fun K "_law_spoilt" "_law_spoilt" s_lspoilt f fd) (B : Bn mg) (h_lsign : Fd P w K mg base "_law_sign" 2 ["_law_way", "_law_at"] [] f_lsign)    :
    FnOk P w K mg base (L2N.CX P w) 4 f fd ["_law_text", "_law_draws_here"] (spF K mg 2 [] f_lspoilt) := by
  refine fn_ok F sc_lspoilt (by decide) (by decide) fun cdv A outer s H E hr => ?_
  have nd := sc_lspoilt.nd
  have tk : L2N.Takes (cxOf (L2N.CX P w) P w K mg base ["_law_text", "_law_draws_here", "_law_place", "_law_sign_here"] "_law_spoilt" (defScope s_lspoilt) f cdv A outer s H E) (fun cls d _ H => E cls d H) := L2N.takes_of rfl rfl rfl rfl
  have pn : PassesOwn (model P w) (cxOf (L2N.CX P w) P w K mg base ["_law_text", "_law_draws_here", "_law_place", "_law_sign_here"] "_law_spoilt" (defScope s_lspoilt) f cdv A outer s H E).A (cxOf (L2N.CX P w) P w K mg base ["_law_text", "_law_draws_here", "_law_place", "_law_sign_here"] "_law_spoilt" (defScope s_lspoilt) f cdv A outer s H E).env (cxOf (L2N.CX P w) P w K mg base ["_law_text", "_law_draws_here", "_law_place", "_law_sign_here"] "_law_spoilt" (defScope s_lspoilt) f cdv A outer s H E).xe := passes_of rfl
  unfold m_lspoilt
  exact mss_cons (ms_set (i := 2) nd rfl (.inl v_lspoilt_2) (me_mod (me_ix (me_var (i := 1) rfl (.inl v_lspoilt_1)) (me_int)) (me_add (mb_len B.len (ma_cons (me_var (i := 0) rfl (.inl v_lspoilt_0)) (ma_nil)) (hg := (g_lspoilt_len _ _ _))) (me_int)))) (mss_cons (ms_set (i := 3) nd rfl (.inl v_lspoilt_3) (me_fz (mf_call h_lsign hr (by decide) tk (ma_cons (me_ix (me_var (i := 1) rfl (.inl v_lspoilt_1)) (me_int)) (ma_cons (me_ix (me_var (i := 1) rfl (.inl v_lspoilt_1)) (me_int)) (ma_nil))) (lng_cons (lng_cons lng_nil)) (hg := (g_lspoilt_law_sign _ _ _))))) (mss_cons (ms_if (mt_cmp (op_eqM hr.units) os_eq (me_ix (me_var (i := 1) rfl (.inl v_lspoilt_1)) (me_int)) (me_int) (nomark _)) (mss_one (ms_ret (me_add (me_add (me_sl (me_var (i := 0) rfl (.inl v_lspoilt_0)) (mp_none) (mp_some (me_var (i := 2) rfl (.inl v_lspoilt_2)))) (me_var (i := 3) rfl (.inl v_lspoilt_3))) (me_sl (me_var (i := 0) rfl (.inl v_lspoilt_0)) (mp_some (me_var (i := 2) rfl (.inl v_lspoilt_2))) (mp_none))))) (mss_nil)) (mss_cons (ms_if (mt_cmp (op_eqM hr.units) os_eq (me_ix (me_var (i := 1) rfl (.inl v_lspoilt_1)) (me_int)) (me_int) (nomark _)) (mss_one (ms_ret (me_add (me_add (me_sl (me_var (i := 0) rfl (.inl v_lspoilt_0)) (mp_none) (mp_some (me_var (i := 2) rfl (.inl v_lspoilt_2)))) (me_var (i := 3) rfl (.inl v_lspoilt_3))) (me_sl (me_var (i := 0) rfl (.inl v_lspoilt_0)) (mp_some (me_add (me_var (i := 2) rfl (.inl v_lspoilt_2)) (me_int))) (mp_none))))) (mss_nil)) (mss_cons (ms_if (mt_cmp (op_eqM hr.units) os_eq (me_ix (me_var (i := 1) rfl (.inl v_lspoilt_1)) (me_int)) (me_int) (nomark _)) (mss_one (ms_ret (me_add (me_sl (me_var (i := 0) rfl (.inl v_lspoilt_0)) (mp_none) (mp_some (me_var (i := 2) rfl (.inl v_lspoilt_2)))) (me_sl (me_var (i := 0) rfl (.inl v_lspoilt_0)) (mp_some (me_add (me_var (i := 2) rfl (.inl v_lspoilt_2)) (me_int))) (mp_none))))) (mss_nil)) (mss_one (ms_ret (me_str)))))))

abbrev s_pis_figures : Stmt := top 14
theorem sc_pis_figures : FnScope ["word", "sign"] ["word"] (defScope s_pis_figures) := ⟨rfl, rfl, rfl, by decide +kernel, rfl, by decide +kernel, by decide +kernel⟩
theorem v_pis_figures_0 : (defScope s_pis_figures).names.lookup ("word" : Str) = some NameKind.local := by decide +kernel
theorem g_pis_figures_len (L a : Addr) (cd : Value) : (PyProof.Rows.envOfC "is_figures" (defScope s_pis_figures) L a cd).kindOf ("len" : Str) = some NameKind.globalImplicit := rfl
theorem g_pis_figures_MOST_READ (L a : Addr) (cd : Value) : (PyProof.Rows.envOfC "is_figures" (defScope s_pis_figures) L a cd).kindOf ("MOST_READ" : Str) = some NameKind.globalImplicit := rfl
theorem g_pis_figures_all (L a : Addr) (cd : Value) : (PyProof.Rows.envOfC "is_figures" (defScope s_pis_figures) L a cd).kindOf ("all" : Str) = some NameKind.globalImplicit := rfl
theorem ok_pis_figures {P : Program} {w : World} {K : PySem.W.Frag} {mg : Str → Option Value} {base : Heap} {f : Addr} {fd : FuncData} (F : Fun K "is_figures" "is_figures" s_pis_figures f fd) (B : Bn mg)    (c_MOST_READ : Cst K mg "MOST_READ" (.int 30)) (c_FIGURES : Cst K mg "FIGURES" (.str "0123456789")) :
    FnOk P w K mg base (L2N.CX P w) 2 f fd ["word"] (spF K mg 1 [] f_pis_figures) := by
  refine fn_ok F sc_pis_figures (by decide) (by decide) fun cdv A outer s H E hr => ?_
  have nd := sc_pis_figures.nd
  have tk : L2N.Takes (cxOf (L2N.CX P w) P w K mg base ["word", "sign"] "is_figures" (defScope s_pis_figures) f cdv A outer s H E) (fun cls d _ H => E cls d H) := L2N.takes_of rfl rfl rfl rfl
  have pn : PassesOwn (model P w) (cxOf (L2N.CX P w) P w K mg base ["word", "sign"] "is_figures" (defScope s_pis_figures) f cdv A outer s H E).A (cxOf (L2N.CX P w) P w K mg base ["word", "sign"] "is_figures" (defScope s_pis_figures) f cdv A outer s H E).env (cxOf (L2N.CX P w) P w K mg base ["word", "sign"] "is_figures" (defScope s_pis_figures) f cdv A outer s H E).xe := passes_of rfl
  unfold m_pis_figures
  exact mss_one (ms_ret (me_and (me_chain op_lt os_lt op_le os_le (me_int) (mb_len B.len (ma_cons (me_var (i := 0) rfl (.inl v_pis_figures_0)) (ma_nil)) (hg := (g_pis_figures_len _ _ _))) (mf_con c_MOST_READ (hg := (g_pis_figures_MOST_READ _ _ _)))) (me_one (mb_all rfl B.all (ma_cons (me_fz (mo_lc (own := [("sign", 1)]) (g := .nm 1) rfl nd (mi_val (me_var (i := 0) rfl (.inl v_pis_figures_0))) (blkOk_at (N' := ["word", "sign"]) (sc' := defScope s_pis_figures) rfl rfl (by decide +kernel)) (fun _ _ _ _ _ => pg_name (i := 1) nd rfl (Or.inl rfl)) (fun _ _ _ _ _ => mts_nil) (fun _ _ _ _ _ => me_cmp op_inM os_in (me_var (i := 1) rfl (.inl rfl)) (mf_con c_FIGURES (hg := rfl)) rfl) (hbs := hbs_of rfl))) (ma_nil)) (hg := (g_pis_figures_all _ _ _))))))

abbrev s_pparts_of : Stmt := top 15
theorem sc_pparts_of : FnScope ["text", "ahead", "point", "behind"] ["text"] (defScope s_pparts_of) := ⟨rfl, rfl, rfl, by decide +kernel, rfl, by decide +kernel, by decide +kernel⟩
theorem v_pparts_of_0 : (defScope s_pparts_of).names.lookup ("text" : Str) = some NameKind.local := by decide +kernel
theorem v_pparts_of_1 : (defScope s_pparts_of).names.lookup ("ahead" : Str) = some NameKind.local := by decide +kernel
theorem v_pparts_of_2 : (defScope s_pparts_of).names.lookup ("point" : Str) = some NameKind.local := by decide +kernel
theorem v_pparts_of_3 : (defScope s_pparts_of).names.lookup ("behind" : Str) = some NameKind.local := by decide +kernel
theorem g_pparts_of_is_figures (L a : Addr) (cd : Value) : (PyProof.Rows.envOfC "parts_of" (defScope s_pparts_of) L a cd).kindOf ("is_figures" : Str) = some NameKind.globalImplicit := rfl
theorem g_pparts_of_NoText (L a : Addr) (cd : Value) : (PyProof.Rows.envOfC "parts_of" (defScope s_pparts_of) L a cd).kindOf ("NoText" : Str) = some NameKind.globalImplicit := rfl
theorem ok_pparts_of {P : Program} {w : World} {K : PySem.W.Frag} {mg : Str → Option Value} {base : Heap} {f : Addr} {fd : FuncData} (F : Fun K "parts_of" "parts_of" s_pparts_of f fd) (B : Bn mg) (h_pis_figures : Fd P w K mg base "is_figures" 2 ["word"] [] f_pis_figures)  (xcl0_NoText : Cl0 K mg "NoText")  :
    FnOk P w K mg base (L2N.CX P w) 4 f fd ["text"] (spF K mg 1 [] f_pparts_of) := by
  refine fn_ok F sc_pparts_of (by decide) (by decide) fun cdv A outer s H E hr => ?_
  have nd := sc_pparts_of.nd
  have tk : L2N.Takes (cxOf (L2N.CX P w) P w K mg base ["text", "ahead", "point", "behind"] "parts_of" (defScope s_pparts_of) f cdv A outer s H E) (fun cls d _ H => E cls d H) := L2N.takes_of rfl rfl rfl rfl
  have pn : PassesOwn (model P w) (cxOf (L2N.CX P w) P w K mg base ["text", "ahead", "point", "behind"] "parts_of" (defScope s_pparts_of) f cdv A outer s H E).A (cxOf (L2N.CX P w) P w K mg base ["text", "ahead", "point", "behind"] "parts_of" (defScope s_pparts_of) f cdv A outer s H E).env (cxOf (L2N.CX P w) P w K mg base ["text", "ahead", "point", "behind"] "parts_of" (defScope s_pparts_of) f cdv A outer s H E).xe := passes_of rfl
  unfold m_pparts_of
  exact mss_cons (ms_asg (me_sm ss_partition PySem.F.slot_str_partition PySem.F.type_str_partition mt_partition (me_var (i := 0) rfl (.inl v_pparts_of_0)) (ma_cons (me_str) (ma_nil))) (mg_tup rfl (mgs_cons (mg_name (i := 1) nd rfl (.inl v_pparts_of_1)) (mgs_cons (mg_name (i := 2) nd rfl (.inl v_pparts_of_2)) (mgs_cons (mg_name (i := 3) nd rfl (.inl v_pparts_of_3)) (mgs_nil)))))) (mss_cons (ms_if (PW.pt (mw_or (mt_not (mt_val (me_fz (mf_call h_pis_figures hr (by decide) tk (ma_cons (me_var (i := 1) rfl (.inl v_pparts_of_1)) (ma_nil)) (lng_cons lng_nil) (hg := (g_pparts_of_is_figures _ _ _)))))) (mw_one_or (PW.pt (mw_and (mt_cmp (op_eqM hr.units) os_eq (me_var (i := 2) rfl (.inl v_pparts_of_2)) (me_str) (nomark _)) (mw_one_and (mt_not (mt_val (me_fz (mf_call h_pis_figures hr (by decide) tk (ma_cons (me_var (i := 3) rfl (.inl v_pparts_of_3)) (ma_nil)) (lng_cons lng_nil) (hg := (g_pparts_of_is_figures _ _ _)))))))))))) (mss_one (ms_raise0 xcl0_NoText rfl tk (g_pparts_of_NoText _ _ _))) (mss_nil)) (mss_one (ms_ret (me_tup (ma_cons (me_var (i := 1) rfl (.inl v_pparts_of_1)) (ma_cons (me_var (i := 3) rfl (.inl v_pparts_of_3)) (ma_nil)))))))

abbrev s_ppower : Stmt := top 6
theorem sc_ppower : FnScope ["base", "many", "found", "k"] ["base", "many"] (defScope s_ppower) := ⟨rfl, rfl, rfl, by decide +kernel, rfl, by decide +kernel, by decide +kernel⟩
theorem v_ppower_0 : (defScope s_ppower).names.lookup ("base" : Str) = some NameKind.local := by decide +kernel
theorem v_ppower_1 : (defScope s_ppower).names.lookup ("many" : Str) = some NameKind.local := by decide +kernel
theorem v_ppower_2 : (defScope s_ppower).names.lookup ("found" : Str) = some NameKind.local := by decide +kernel
theorem v_ppower_3 : (defScope s_ppower).names.lookup ("k" : Str) = some NameKind.local := by decide +kernel
theorem g_ppower_range (L a : Addr) (cd : Value) : (PyProof.Rows.envOfC "power" (defScope s_ppower) L a cd).kindOf ("range" : Str) = some NameKind.globalImplicit := rfl
theorem ok_ppower {P : Program} {w : World} {K : PySem.W.Frag} {mg : Str → Option Value} {base : Heap} {f : Addr} {fd : FuncData} (F : Fun K "power" "power" s_ppower f fd) (B : Bn mg)     :
    FnOk P w K mg base (L2N.CX P w) 2 f fd ["base", "many"] (spF K mg 2 [] f_ppower) := by
  refine fn_ok F sc_ppower (by decide) (by decide) fun cdv A outer s H E hr => ?_
  have nd := sc_ppower.nd
  have tk : L2N.Takes (cxOf (L2N.CX P w) P w K mg base ["base", "many", "found", "k"] "power" (defScope s_ppower) f cdv A outer s H E) (fun cls d _ H => E cls d H) := L2N.takes_of rfl rfl rfl rfl
  have pn : PassesOwn (model P w) (cxOf (L2N.CX P w) P w K mg base ["base", "many", "found", "k"] "power" (defScope s_ppower) f cdv A outer s H E).A (cxOf (L2N.CX P w) P w K mg base ["base", "many", "found", "k"] "power" (defScope s_ppower) f cdv A outer s H E).env (cxOf (L2N.CX P w) P w K mg base ["base", "many", "found", "k"] "power" (defScope s_ppower) f cdv A outer s H E).xe := passes_of rfl
  unfold m_ppower
  exact mss_cons (ms_set (i := 2) nd rfl (.inl v_ppower_2) (me_int)) (mss_cons (ms_for pn rfl (mi_r1 B.range (ma_cons (me_var (i := 1) rfl (.inl v_ppower_1)) (ma_nil)) (hg := (g_ppower_range _ _ _))) (mg_name (i := 3) nd rfl (.inl v_ppower_3)) (mss_one (ms_set (i := 2) nd rfl (.inl v_ppower_2) (me_mul (me_var (i := 2) rfl (.inl v_ppower_2)) (me_var (i := 0) rfl (.inl v_ppower_0)))))) (mss_one (ms_ret (me_var (i := 2) rfl (.inl v_ppower_2)))))

abbrev s_pleast_of : Stmt := top 8
theorem sc_pleast_of : FnScope ["form"] ["form"] (defScope s_pleast_of) := ⟨rfl, rfl, rfl, by decide +kernel, rfl, by decide +kernel, by decide +kernel⟩
theorem v_pleast_of_0 : (defScope s_pleast_of).names.lookup ("form" : Str) = some NameKind.local := by decide +kernel
theorem g_pleast_of_power (L a : Addr) (cd : Value) : (PyProof.Rows.envOfC "least_of" (defScope s_pleast_of) L a cd).kindOf ("power" : Str) = some NameKind.globalImplicit := rfl
theorem ok_pleast_of {P : Program} {w : World} {K : PySem.W.Frag} {mg : Str → Option Value} {base : Heap} {f : Addr} {fd : FuncData} (F : Fun K "least_of" "least_of" s_pleast_of f fd) (B : Bn mg) (h_ppower : Fd P w K mg base "power" 2 ["base", "many"] [] f_ppower)    :
    FnOk P w K mg base (L2N.CX P w) 4 f fd ["form"] (spF K mg 1 [] f_pleast_of) := by
  refine fn_ok F sc_pleast_of (by decide) (by decide) fun cdv A outer s H E hr => ?_
  have nd := sc_pleast_of.nd
  have tk : L2N.Takes (cxOf (L2N.CX P w) P w K mg base ["form"] "least_of" (defScope s_pleast_of) f cdv A outer s H E) (fun cls d _ H => E cls d H) := L2N.takes_of rfl rfl rfl rfl
  have pn : PassesOwn (model P w) (cxOf (L2N.CX P w) P w K mg base ["form"] "least_of" (defScope s_pleast_of) f cdv A outer s H E).A (cxOf (L2N.CX P w) P w K mg base ["form"] "least_of" (defScope s_pleast_of) f cdv A outer s H E).env (cxOf (L2N.CX P w) P w K mg base ["form"] "least_of" (defScope s_pleast_of) f cdv A outer s H E).xe := passes_of rfl
  unfold m_pleast_of
  exact mss_cons (ms_if (mt_cmp (op_eqM hr.units) os_eq (me_ix (me_var (i := 0) rfl (.inl v_pleast_of_0)) (me_int)) (me_str) (nomark _)) (mss_one (ms_ret (me_int))) (mss_nil)) (mss_cons (ms_if (mt_cmp (op_eqM hr.units) os_eq (me_ix (me_var (i := 0) rfl (.inl v_pleast_of_0)) (me_int)) (me_str) (nomark _)) (mss_one (ms_ret (me_sub (me_int) (me_fz (mf_call h_ppower hr (by decide) tk (ma_cons (me_int) (ma_cons (me_ix (me_var (i := 0) rfl (.inl v_pleast_of_0)) (me_int)) (ma_nil))) (lng_cons (lng_cons lng_nil)) (hg := (g_pleast_of_power _ _ _))))))) (mss_nil)) (mss_one (ms_ret (me_mul (me_neg (me_int)) (me_fz (mf_call h_ppower hr (by decide) tk (ma_cons (me_int) (ma_cons (me_sub (me_ix (me_var (i := 0) rfl (.inl v_pleast_of_0)) (me_int)) (me_int)) (ma_nil))) (lng_cons (lng_cons lng_nil)) (hg := (g_pleast_of_power _ _ _))))))))

abbrev s_pmost_of : Stmt := top 9
theorem sc_pmost_of : FnScope ["form"] ["form"] (defScope s_pmost_of) := ⟨rfl, rfl, rfl, by decide +kernel, rfl, by decide +kernel, by decide +kernel⟩
theorem v_pmost_of_0 : (defScope s_pmost_of).names.lookup ("form" : Str) = some NameKind.local := by decide +kernel
theorem g_pmost_of_power (L a : Addr) (cd : Value) : (PyProof.Rows.envOfC "most_of" (defScope s_pmost_of) L a cd).kindOf ("power" : Str) = some NameKind.globalImplicit := rfl
theorem ok_pmost_of {P : Program} {w : World} {K : PySem.W.Frag} {mg : Str → Option Value} {base : Heap} {f : Addr} {fd : FuncData} (F : Fun K "most_of" "most_of" s_pmost_of f fd) (B : Bn mg) (h_ppower : Fd P w K mg base "power" 2 ["base", "many"] [] f_ppower)    :
    FnOk P w K mg base (L2N.CX P w) 4 f fd ["form"] (spF K mg 1 [] f_pmost_of) := by
  refine fn_ok F sc_pmost_of (by decide) (by decide) fun cdv A outer s H E hr => ?_
  have nd := sc_pmost_of.nd
  have tk : L2N.Takes (cxOf (L2N.CX P w) P w K mg base ["form"] "most_of" (defScope s_pmost_of) f cdv A outer s H E) (fun cls d _ H => E cls d H) := L2N.takes_of rfl rfl rfl rfl
  have pn : PassesOwn (model P w) (cxOf (L2N.CX P w) P w K mg base ["form"] "most_of" (defScope s_pmost_of) f cdv A outer s H E).A (cxOf (L2N.CX P w) P w K mg base ["form"] "most_of" (defScope s_pmost_of) f cdv A outer s H E).env (cxOf (L2N.CX P w) P w K mg base ["form"] "most_of" (defScope s_pmost_of) f cdv A outer s H E).xe := passes_of rfl
  unfold m_pmost_of
  exact mss_cons (ms_if (mt_cmp (op_eqM hr.units) os_eq (me_ix (me_var (i := 0) rfl (.inl v_pmost_of_0)) (me_int)) (me_str) (nomark _)) (mss_one (ms_ret (me_sub (me_mul (me_int) (me_fz (mf_call h_ppower hr (by decide) tk (ma_cons (me_int) (ma_cons (me_sub (me_ix (me_var (i := 0) rfl (.inl v_pmost_of_0)) (me_int)) (me_int)) (ma_nil))) (lng_cons (lng_cons lng_nil)) (hg := (g_pmost_of_power _ _ _))))) (me_int)))) (mss_nil)) (mss_one (ms_ret (me_sub (me_fz (mf_call h_ppower hr (by decide) tk (ma_cons (me_int) (ma_cons (me_ix (me_var (i := 0) rfl (.inl v_pmost_of_0)) (me_int)) (ma_nil))) (lng_cons (lng_cons lng_nil)) (hg := (g_pmost_of_power _ _ _)))) (me_int))))

abbrev s_pfits : Stmt := top 10
theorem sc_pfits : FnScope ["form", "number"] ["form", "number"] (defScope s_pfits) := ⟨rfl, rfl, rfl, by decide +kernel, rfl, by decide +kernel, by decide +kernel⟩
theorem v_pfits_0 : (defScope s_pfits).names.lookup ("form" : Str) = some NameKind.local := by decide +kernel
theorem v_pfits_1 : (defScope s_pfits).names.lookup ("number" : Str) = some NameKind.local := by decide +kernel
theorem g_pfits_least_of (L a : Addr) (cd : Value) : (PyProof.Rows.envOfC "fits" (defScope s_pfits) L a cd).kindOf ("least_of" : Str) = some NameKind.globalImplicit := rfl
theorem g_pfits_most_of (L a : Addr) (cd : Value) : (PyProof.Rows.envOfC "fits" (defScope s_pfits) L a cd).kindOf ("most_of" : Str) = some NameKind.globalImplicit := rfl
theorem ok_pfits {P : Program} {w : World} {K : PySem.W.Frag} {mg : Str → Option Value} {base : Heap} {f : Addr} {fd : FuncData} (F : Fun K "fits" "fits" s_pfits f fd) (B : Bn mg) (h_pleast_of : Fd P w K mg base "least_of" 4 ["form"] [] f_pleast_of) (h_pmost_of : Fd P w K mg base "most_of" 4 ["form"] [] f_pmost_of)    :
    FnOk P w K mg base (L2N.CX P w) 6 f fd ["form", "number"] (spF K mg 2 [] f_pfits) := by
  refine fn_ok F sc_pfits (by decide) (by decide) fun cdv A outer s H E hr => ?_
  have nd := sc_pfits.nd
  have tk : L2N.Takes (cxOf (L2N.CX P w) P w K mg base ["form", "number"] "fits" (defScope s_pfits) f cdv A outer s H E) (fun cls d _ H => E cls d H) := L2N.takes_of rfl rfl rfl rfl
  have pn : PassesOwn (model P w) (cxOf (L2N.CX P w) P w K mg base ["form", "number"] "fits" (defScope s_pfits) f cdv A outer s H E).A (cxOf (L2N.CX P w) P w K mg base ["form", "number"] "fits" (defScope s_pfits) f cdv A outer s H E).env (cxOf (L2N.CX P w) P w K mg base ["form", "number"] "fits" (defScope s_pfits) f cdv A outer s H E).xe := passes_of rfl
  unfold m_pfits
  exact mss_one (ms_ret (me_chain op_le os_le op_le os_le (me_fz (mf_call h_pleast_of hr (by decide) tk (ma_cons (me_var (i := 0) rfl (.inl v_pfits_0)) (ma_nil)) (lng_cons lng_nil) (hg := (g_pfits_least_of _ _ _)))) (me_var (i := 1) rfl (.inl v_pfits_1)) (me_fz (mf_call h_pmost_of hr (by decide) tk (ma_cons (me_var (i := 0) rfl (.inl v_pfits_0)) (ma_nil)) (lng_cons lng_nil) (hg := (g_pfits_most_of _ _ _))))))

abbrev s_ptold : Stmt := top 16
theorem sc_ptold : FnScope ["form", "text", "size", "number", "under", "ahead", "behind"] ["form", "text"] (defScope s_ptold) := ⟨rfl, rfl, rfl, by decide +kernel, rfl, by decide +kernel, by decide +kernel⟩
theorem v_ptold_0 : (defScope s_ptold).names.lookup ("form" : Str) = some NameKind.local := by decide +kernel
theorem v_ptold_1 : (defScope s_ptold).names.lookup ("text" : Str) = some NameKind.local := by decide +kernel
theorem v_ptold_2 : (defScope s_ptold).names.lookup ("size" : Str) = some NameKind.local := by decide +kernel
theorem v_ptold_3 : (defScope s_ptold).names.lookup ("number" : Str) = some NameKind.local := by decide +kernel
theorem v_ptold_4 : (defScope s_ptold).names.lookup ("under" : Str) = some NameKind.local := by decide +kernel
theorem v_ptold_5 : (defScope s_ptold).names.lookup ("ahead" : Str) = some NameKind.local := by decide +kernel
theorem v_ptold_6 : (defScope s_ptold).names.lookup ("behind" : Str) = some NameKind.local := by decide +kernel
theorem g_ptold_int (L a : Addr) (cd : Value) : (PyProof.Rows.envOfC "told" (defScope s_ptold) L a cd).kindOf ("int" : Str) = some NameKind.globalImplicit := rfl
theorem g_ptold_parts_of (L a : Addr) (cd : Value) : (PyProof.Rows.envOfC "told" (defScope s_ptold) L a cd).kindOf ("parts_of" : Str) = some NameKind.globalImplicit := rfl
theorem g_ptold_power (L a : Addr) (cd : Value) : (PyProof.Rows.envOfC "told" (defScope s_ptold) L a cd).kindOf ("power" : Str) = some NameKind.globalImplicit := rfl
theorem g_ptold_len (L a : Addr) (cd : Value) : (PyProof.Rows.envOfC "told" (defScope s_ptold) L a cd).kindOf ("len" : Str) = some NameKind.globalImplicit := rfl
theorem g_ptold_NoFit (L a : Addr) (cd : Value) : (PyProof.Rows.envOfC "told" (defScope s_ptold) L a cd).kindOf ("NoFit" : Str) = some NameKind.globalImplicit := rfl
theorem g_ptold_fits (L a : Addr) (cd : Value) : (PyProof.Rows.envOfC "told" (defScope s_ptold) L a cd).kindOf ("fits" : Str) = some NameKind.globalImplicit := rfl
theorem ok_ptold {P : Program} {w : World} {K : PySem.W.Frag} {mg : Str → Option Value} {base : Heap} {f : Addr} {fd : FuncData} (F : Fun K "told" "told" s_ptold f fd) (B : Bn mg) (h_pparts_of : Fd P w K mg base "parts_of" 4 ["text"] [] f_pparts_of) (h_ppower : Fd P w K mg base "power" 2 ["base", "many"] [] f_ppower) (h_pfits : Fd P w K mg base "fits" 6 ["form", "number"] [] f_pfits)  (xcl1_NoFit_number : Cl1 P w K mg base "NoFit" "number")  :
    FnOk P w K mg base (L2N.CX P w) 8 f fd ["form", "text"] (spF K mg 2 [] f_ptold) := by
  refine fn_ok F sc_ptold (by decide) (by decide) fun cdv A outer s H E hr => ?_
  have nd := sc_ptold.nd
  have tk : L2N.Takes (cxOf (L2N.CX P w) P w K mg base ["form", "text", "size", "number", "under", "ahead", "behind"] "told" (defScope s_ptold) f cdv A outer s H E) (fun cls d _ H => E cls d H) := L2N.takes_of rfl rfl rfl rfl
  have pn : PassesOwn (model P w) (cxOf (L2N.CX P w) P w K mg base ["form", "text", "size", "number", "under", "ahead", "behind"] "told" (defScope s_ptold) f cdv A outer s H E).A (cxOf (L2N.CX P w) P w K mg base ["form", "text", "size", "number", "under", "ahead", "behind"] "told" (defScope s_ptold) f cdv A outer s H E).env (cxOf (L2N.CX P w) P w K mg base ["form", "text", "size", "number", "under", "ahead", "behind"] "told" (defScope s_ptold) f cdv A outer s H E).xe := passes_of rfl
  unfold m_ptold
  exact mss_cons (ms_set (i := 2) nd rfl (.inl v_ptold_2) (me_sl (me_var (i := 1) rfl (.inl v_ptold_1)) (mp_some (mb_int B.int (ma_cons (me_cmp (op_eqM hr.units) os_eq (me_sl (me_var (i := 1) rfl (.inl v_ptold_1)) (mp_none) (mp_some (me_int))) (me_str) (nomark _)) (ma_nil)) (hg := (g_ptold_int _ _ _)))) (mp_none))) (mss_cons (ms_asg (me_fz (mf_call h_pparts_of hr (by decide) tk (ma_cons (me_var (i := 2) rfl (.inl v_ptold_2)) (ma_nil)) (lng_cons lng_nil) (hg := (g_ptold_parts_of _ _ _)))) (mg_tup rfl (mgs_cons (mg_name (i := 5) nd rfl (.inl v_ptold_5)) (mgs_cons (mg_name (i := 6) nd rfl (.inl v_ptold_6)) (mgs_nil))))) (mss_cons (ms_set (i := 3) nd rfl (.inl v_ptold_3) (me_mul (mb_int B.int (ma_cons (me_add (me_var (i := 5) rfl (.inl v_ptold_5)) (me_var (i := 6) rfl (.inl v_ptold_6))) (ma_nil)) (hg := (g_ptold_int _ _ _))) (me_fz (mf_call h_ppower hr (by decide) tk (ma_cons (me_int) (ma_cons (me_ix (me_var (i := 0) rfl (.inl v_ptold_0)) (me_int)) (ma_nil))) (lng_cons (lng_cons lng_nil)) (hg := (g_ptold_power _ _ _)))))) (mss_cons (ms_set (i := 4) nd rfl (.inl v_ptold_4) (me_fz (mf_call h_ppower hr (by decide) tk (ma_cons (me_int) (ma_cons (mb_len B.len (ma_cons (me_var (i := 6) rfl (.inl v_ptold_6)) (ma_nil)) (hg := (g_ptold_len _ _ _))) (ma_nil))) (lng_cons (lng_cons lng_nil)) (hg := (g_ptold_power _ _ _))))) (mss_cons (ms_if (mt_cmp (op_neM hr.units) os_ne (me_mod (me_var (i := 3) rfl (.inl v_ptold_3)) (me_var (i := 4) rfl (.inl v_ptold_4))) (me_int) (nomark _)) (mss_one (ms_raise1 xcl1_NoFit_number rfl hr (by decide) tk (g_ptold_NoFit _ _ _) (me_var (i := 1) rfl (.inl v_ptold_1)))) (mss_nil)) (mss_cons (ms_set (i := 3) nd rfl (.inl v_ptold_3) (me_div (me_var (i := 3) rfl (.inl v_ptold_3)) (me_var (i := 4) rfl (.inl v_ptold_4)))) (mss_cons (ms_if (mt_cmp (op_neM hr.units) os_ne (me_var (i := 2) rfl (.inl v_ptold_2)) (me_var (i := 1) rfl (.inl v_ptold_1)) (nomark _)) (mss_one (ms_set (i := 3) nd rfl (.inl v_ptold_3) (me_neg (me_var (i := 3) rfl (.inl v_ptold_3))))) (mss_nil)) (mss_cons (ms_if (mt_not (mt_val (me_fz (mf_call h_pfits hr (by decide) tk (ma_cons (me_var (i := 0) rfl (.inl v_ptold_0)) (ma_cons (me_var (i := 3) rfl (.inl v_ptold_3)) (ma_nil))) (lng_cons (lng_cons lng_nil)) (hg := (g_ptold_fits _ _ _)))))) (mss_one (ms_raise1 xcl1_NoFit_number rfl hr (by decide) tk (g_ptold_NoFit _ _ _) (me_var (i := 1) rfl (.inl v_ptold_1)))) (mss_nil)) (mss_one (ms_ret (me_var (i := 3) rfl (.inl v_ptold_3)))))))))))

abbrev s_lseen : Stmt := top 33
theorem sc_lseen : FnScope ["_law_form_here", "_law_text", "_law_found", "e"] ["_law_form_here", "_law_text"] (defScope s_lseen) := ⟨rfl, rfl, rfl, by decide +kernel, rfl, by decide +kernel, by decide +kernel⟩
theorem v_lseen_0 : (defScope s_lseen).names.lookup ("_law_form_here" : Str) = some NameKind.local := by decide +kernel
theorem v_lseen_1 : (defScope s_lseen).names.lookup ("_law_text" : Str) = some NameKind.local := by decide +kernel
theorem v_lseen_2 : (defScope s_lseen).names.lookup ("_law_found" : Str) = some NameKind.local := by decide +kernel
theorem v_lseen_3 : (defScope s_lseen).names.lookup ("e" : Str) = some NameKind.local := by decide +kernel
theorem g_lseen_told (L a : Addr) (cd : Value) : (PyProof.Rows.envOfC "_law_seen" (defScope s_lseen) L a cd).kindOf ("told" : Str) = some NameKind.globalImplicit := rfl
theorem g_lseen_NoText (L a : Addr) (cd : Value) : (PyProof.Rows.envOfC "_law_seen" (defScope s_lseen) L a cd).kindOf ("NoText" : Str) = some NameKind.globalImplicit := rfl
theorem g_lseen_isinstance (L a : Addr) (cd : Value) : (PyProof.Rows.envOfC "_law_seen" (defScope s_lseen) L a cd).kindOf ("isinstance" : Str) = some NameKind.globalImplicit := rfl
theorem g_lseen_NoFit (L a : Addr) (cd : Value) : (PyProof.Rows.envOfC "_law_seen" (defScope s_lseen) L a cd).kindOf ("NoFit" : Str) = some NameKind.globalImplicit := rfl
theorem g_lseen_LoftError (L a : Addr) (cd : Value) : (PyProof.Rows.envOfC "_law_seen" (defScope s_lseen) L a cd).kindOf ("LoftError" : Str) = some NameKind.globalImplicit := rfl
theorem g_lseen_int (L a : Addr) (cd : Value) : (PyProof.Rows.envOfC "_law_seen" (defScope s_lseen) L a cd).kindOf ("int" : Str) = some NameKind.globalImplicit := rfl
theorem g_lseen_NoShape (L a : Addr) (cd : Value) : (PyProof.Rows.envOfC "_law_seen" (defScope s_lseen) L a cd).kindOf ("NoShape" : Str) = some NameKind.globalImplicit := rfl
theorem ok_lseen {P : Program} {w : World} {K : PySem.W.Frag} {mg : Str → Option Value} {base : Heap} {f : Addr} {fd : FuncData} (F : Fun K "_law_seen" "_law_seen" s_lseen f fd) (B : Bn mg) (h_ptold : Fd P w K mg base "told" 8 ["form", "text"] [] f_ptold)  (xext_NoText_NoFit_False : ExT K mg "NoText" "NoFit" false) (xext_NoText_NoText_True : ExT K mg "NoText" "NoText" true) (xcls_NoText : ∃ D, mg "NoText" = some (.ref D)) (xxcf_NoText_ : XcF K mg [] "NoText") (xkit_NoFit_NoText_False : KiT K mg "NoFit" "NoText" false) (xcls_NoFit : ∃ D, mg "NoFit" = some (.ref D)) (xkit_LoftError_NoText_True : KiT K mg "LoftError" "NoText" true) (xcls_LoftError : ∃ D, mg "LoftError" = some (.ref D)) (xext_NoFit_NoFit_True : ExT K mg "NoFit" "NoFit" true) (xxcf_NoFit_number : XcF K mg ["number"] "NoFit") (xkit_NoShape_NoFit_False : KiT K mg "NoShape" "NoFit" false) (xcls_NoShape : ∃ D, mg "NoShape" = some (.ref D))  :
    FnOk P w K mg base (L2N.CX P w) 10 f fd ["_law_form_here", "_law_text"] (spF K mg 2 [] f_lseen) := by
  refine fn_ok F sc_lseen (by decide) (by decide) fun cdv A outer s H E hr => ?_
  have nd := sc_lseen.nd
  have tk : L2N.Takes (cxOf (L2N.CX P w) P w K mg base ["_law_form_here", "_law_text", "_law_found", "e"] "_law_seen" (defScope s_lseen) f cdv A outer s H E) (fun cls d _ H => E cls d H) := L2N.takes_of rfl rfl rfl rfl
  have pn : PassesOwn (model P w) (cxOf (L2N.CX P w) P w K mg base ["_law_form_here", "_law_text", "_law_found", "e"] "_law_seen" (defScope s_lseen) f cdv A outer s H E).A (cxOf (L2N.CX P w) P w K mg base ["_law_form_here", "_law_text", "_law_found", "e"] "_law_seen" (defScope s_lseen) f cdv A outer s H E).env (cxOf (L2N.CX P w) P w K mg base ["_law_form_here", "_law_text", "_law_found", "e"] "_law_seen" (defScope s_lseen) f cdv A outer s H E).xe := passes_of rfl
  unfold m_lseen
  exact mss_cons (ms_set (i := 2) nd rfl (.inl v_lseen_2) (me_non)) (mss_cons (ms_tryN (i := 3) rfl rfl nd rfl (by first | rfl | decide +kernel) tk (fun W pl xe tk pn => mss_one (ms_set (i := 2) nd rfl (.inl v_lseen_2) (me_tup (ma_cons (me_str) (ma_cons (me_fz (mf_call h_ptold hr (by decide) tk (ma_cons (me_var (i := 0) rfl (.inl v_lseen_0)) (ma_cons (me_var (i := 1) rfl (.inl v_lseen_1)) (ma_nil))) (lng_cons (lng_cons lng_nil)) (hg := (g_lseen_told _ _ _)))) (ma_nil)))))) (by exact (.cons (g_lseen_NoText _ _ _) (fa_cons xext_NoText_NoFit_False (fa_cons xext_NoText_NoText_True (fa_nil))) xcls_NoText (fun a oe C d pl e hC hT hz hv => mss_one (ms_set (i := 2) nd rfl (.inl v_lseen_2) (me_tup (ma_cons (me_str) (ma_cons (mb_int B.int (ma_cons (me_or (mx_is (xc_at (fs := []) (ts := ["NoText"]) (fa_cons xxcf_NoText_ (fa_nil)) (by decide) hC hT) (fa_cons xkit_NoFit_NoText_False (fa_nil)) xcls_NoFit hC hz hv rfl (.inl v_lseen_3) B.isinstance (g_lseen_isinstance _ _ _) (g_lseen_NoFit _ _ _)) (me_one (me_not (mx_is (xc_at (fs := []) (ts := ["NoText"]) (fa_cons xxcf_NoText_ (fa_nil)) (by decide) hC hT) (fa_cons xkit_LoftError_NoText_True (fa_nil)) xcls_LoftError hC hz hv rfl (.inl v_lseen_3) B.isinstance (g_lseen_isinstance _ _ _) (g_lseen_LoftError _ _ _))))) (ma_nil)) (hg := (g_lseen_int _ _ _))) (ma_nil)))))) (by decide) (.cons (g_lseen_NoFit _ _ _) (fa_cons xext_NoFit_NoFit_True (fa_nil)) xcls_NoFit (fun a oe C d pl e hC hT hz hv => mss_one (ms_set (i := 2) nd rfl (.inl v_lseen_2) (me_tup (ma_cons (me_str) (ma_cons (mb_int B.int (ma_cons (me_or (mx_is (xc_at (fs := ["number"]) (ts := ["NoFit"]) (fa_cons xxcf_NoFit_number (fa_nil)) (by decide) hC hT) (fa_cons xkit_NoShape_NoFit_False (fa_nil)) xcls_NoShape hC hz hv rfl (.inl v_lseen_3) B.isinstance (g_lseen_isinstance _ _ _) (g_lseen_NoShape _ _ _)) (me_one (me_cmp (op_neM hr.units) os_ne (mx_f (xc_at (fs := ["number"]) (ts := ["NoFit"]) (fa_cons xxcf_NoFit_number (fa_nil)) (by decide) hC hT) (by decide) hz hv rfl (.inl v_lseen_3)) (me_var (i := 1) rfl (.inl v_lseen_1)) (nomark _)))) (ma_nil)) (hg := (g_lseen_int _ _ _))) (ma_nil)))))) (by decide) .nil)))) (mss_one (ms_ret (me_var (i := 2) rfl (.inl v_lseen_2)))))

abbrev s_lform2 : Stmt := top 22
theorem sc_lform2 : FnScope ["_law_kind", "_law_many", "_law_sign_here", "_law_point"] ["_law_kind", "_law_many", "_law_sign_here"] (defScope s_lform2) := ⟨rfl, rfl, rfl, by decide +kernel, rfl, by decide +kernel, by decide +kernel⟩
theorem v_lform2_0 : (defScope s_lform2).names.lookup ("_law_kind" : Str) = some NameKind.local := by decide +kernel
theorem v_lform2_1 : (defScope s_lform2).names.lookup ("_law_many" : Str) = some NameKind.local := by decide +kernel
theorem v_lform2_2 : (defScope s_lform2).names.lookup ("_law_sign_here" : Str) = some NameKind.local := by decide +kernel
theorem v_lform2_3 : (defScope s_lform2).names.lookup ("_law_point" : Str) = some NameKind.local := by decide +kernel
theorem ok_lform2 {P : Program} {w : World} {K : PySem.W.Frag} {mg : Str → Option Value} {base : Heap} {f : Addr} {fd : FuncData} (F : Fun K "_law_form" "_law_form" s_lform2 f fd) (B : Bn mg)     :
    FnOk P w K mg base (L2N.CX P w) 2 f fd ["_law_kind", "_law_many", "_law_sign_here"] (spF K mg 3 [] f_lform2) := by
  refine fn_ok F sc_lform2 (by decide) (by decide) fun cdv A outer s H E hr => ?_
  have nd := sc_lform2.nd
  have tk : L2N.Takes (cxOf (L2N.CX P w) P w K mg base ["_law_kind", "_law_many", "_law_sign_here", "_law_point"] "_law_form" (defScope s_lform2) f cdv A outer s H E) (fun cls d _ H => E cls d H) := L2N.takes_of rfl rfl rfl rfl
  have pn : PassesOwn (model P w) (cxOf (L2N.CX P w) P w K mg base ["_law_kind", "_law_many", "_law_sign_here", "_law_point"] "_law_form" (defScope s_lform2) f cdv A outer s H E).A (cxOf (L2N.CX P w) P w K mg base ["_law_kind", "_law_many", "_law_sign_here", "_law_point"] "_law_form" (defScope s_lform2) f cdv A outer s H E).env (cxOf (L2N.CX P w) P w K mg base ["_law_kind", "_law_many", "_law_sign_here", "_law_point"] "_law_form" (defScope s_lform2) f cdv A outer s H E).xe := passes_of rfl
  unfold m_lform2
  exact mss_cons (ms_set (i := 3) nd rfl (.inl v_lform2_3) (me_mod (me_add (me_add (me_mul (me_int) (me_var (i := 1) rfl (.inl v_lform2_1))) (me_mul (me_int) (me_var (i := 0) rfl (.inl v_lform2_0)))) (me_var (i := 2) rfl (.inl v_lform2_2))) (me_add (me_var (i := 1) rfl (.inl v_lform2_1)) (me_int)))) (mss_one (ms_ret (me_tup (ma_cons (me_ix (me_lst (ma_cons (me_str) (ma_cons (me_str) (ma_nil)))) (me_var (i := 0) rfl (.inl v_lform2_0))) (ma_cons (me_add (me_int) (me_var (i := 1) rfl (.inl v_lform2_1))) (ma_cons (me_ix (me_lst (ma_cons (me_str) (ma_cons (me_str) (ma_cons (me_str) (ma_nil))))) (me_var (i := 2) rfl (.inl v_lform2_2))) (ma_cons (me_var (i := 3) rfl (.inl v_lform2_3)) (ma_nil))))))))

abbrev s_lwhole : Stmt := top 26
theorem sc_lwhole : FnScope ["_law_found"] ["_law_found"] (defScope s_lwhole) := ⟨rfl, rfl, rfl, by decide +kernel, rfl, by decide +kernel, by decide +kernel⟩
theorem v_lwhole_0 : (defScope s_lwhole).names.lookup ("_law_found" : Str) = some NameKind.local := by decide +kernel
theorem g_lwhole_int (L a : Addr) (cd : Value) : (PyProof.Rows.envOfC "_law_whole" (defScope s_lwhole) L a cd).kindOf ("int" : Str) = some NameKind.globalImplicit := rfl
theorem g_lwhole_isinstance (L a : Addr) (cd : Value) : (PyProof.Rows.envOfC "_law_whole" (defScope s_lwhole) L a cd).kindOf ("isinstance" : Str) = some NameKind.globalImplicit := rfl
theorem g_lwhole_bool (L a : Addr) (cd : Value) : (PyProof.Rows.envOfC "_law_whole" (defScope s_lwhole) L a cd).kindOf ("bool" : Str) = some NameKind.globalImplicit := rfl
theorem ok_lwhole {P : Program} {w : World} {K : PySem.W.Frag} {mg : Str → Option Value} {base : Heap} {f : Addr} {fd : FuncData} (F : Fun K "_law_whole" "_law_whole" s_lwhole f fd) (B : Bn mg)     :
    FnOk P w K mg base (L2N.CX P w) 2 f fd ["_law_found"] (spF K mg 1 [] f_lwhole) := by
  refine fn_ok F sc_lwhole (by decide) (by decide) fun cdv A outer s H E hr => ?_
  have nd := sc_lwhole.nd
  have tk : L2N.Takes (cxOf (L2N.CX P w) P w K mg base ["_law_found"] "_law_whole" (defScope s_lwhole) f cdv A outer s H E) (fun cls d _ H => E cls d H) := L2N.takes_of rfl rfl rfl rfl
  have pn : PassesOwn (model P w) (cxOf (L2N.CX P w) P w K mg base ["_law_found"] "_law_whole" (defScope s_lwhole) f cdv A outer s H E).A (cxOf (L2N.CX P w) P w K mg base ["_law_found"] "_law_whole" (defScope s_lwhole) f cdv A outer s H E).env (cxOf (L2N.CX P w) P w K mg base ["_law_found"] "_law_whole" (defScope s_lwhole) f cdv A outer s H E).xe := passes_of rfl
  unfold m_lwhole
  exact mss_one (ms_ret (me_and (mb_isi B.isinstance (ma_cons (me_var (i := 0) rfl (.inl v_lwhole_0)) (ma_cons (me_bltn B.int (by decide +kernel) (w := .ty "int") rfl (hg := (g_lwhole_int _ _ _))) ma_nil)) (hg := (g_lwhole_isinstance _ _ _))) (me_one (me_not (mb_isi B.isinstance (ma_cons (me_var (i := 0) rfl (.inl v_lwhole_0)) (ma_cons (me_bltn B.bool (by decide +kernel) (w := .ty "bool") rfl (hg := (g_lwhole_bool _ _ _))) ma_nil)) (hg := (g_lwhole_isinstance _ _ _)))))))

abbrev s_law15 : Stmt := top 34
theorem sc_law15 : FnScope ["_law_script", "_law_k", "_law_widths", "_law_draws_here", "_law_form_here", "_law_number_here", "_law_size", "_law_ten", "_law_many", "_law_ahead", "_law_behind", "_law_text", "_law_due", "_law_turn", "_law_found"] ["_law_script"] (defScope s_law15) := ⟨rfl, rfl, rfl, by decide +kernel, rfl, by decide +kernel, by decide +kernel⟩
theorem v_law15_0 : (defScope s_law15).names.lookup ("_law_script" : Str) = some NameKind.local := by decide +kernel
theorem v_law15_1 : (defScope s_law15).names.lookup ("_law_k" : Str) = some NameKind.local := by decide +kernel
theorem v_law15_2 : (defScope s_law15).names.lookup ("_law_widths" : Str) = some NameKind.local := by decide +kernel
theorem v_law15_3 : (defScope s_law15).names.lookup ("_law_draws_here" : Str) = some NameKind.local := by decide +kernel
theorem v_law15_4 : (defScope s_law15).names.lookup ("_law_form_here" : Str) = some NameKind.local := by decide +kernel
theorem v_law15_5 : (defScope s_law15).names.lookup ("_law_number_here" : Str) = some NameKind.local := by decide +kernel
theorem v_law15_6 : (defScope s_law15).names.lookup ("_law_size" : Str) = some NameKind.local := by decide +kernel
theorem v_law15_7 : (defScope s_law15).names.lookup ("_law_ten" : Str) = some NameKind.local := by decide +kernel
theorem v_law15_8 : (defScope s_law15).names.lookup ("_law_many" : Str) = some NameKind.local := by decide +kernel
theorem v_law15_9 : (defScope s_law15).names.lookup ("_law_ahead" : Str) = some NameKind.local := by decide +kernel
theorem v_law15_10 : (defScope s_law15).names.lookup ("_law_behind" : Str) = some NameKind.local := by decide +kernel
theorem v_law15_11 : (defScope s_law15).names.lookup ("_law_text" : Str) = some NameKind.local := by decide +kernel
theorem v_law15_12 : (defScope s_law15).names.lookup ("_law_due" : Str) = some NameKind.local := by decide +kernel
theorem v_law15_13 : (defScope s_law15).names.lookup ("_law_turn" : Str) = some NameKind.local := by decide +kernel
theorem v_law15_14 : (defScope s_law15).names.lookup ("_law_found" : Str) = some NameKind.local := by decide +kernel
theorem g_law15_range (L a : Addr) (cd : Value) : (PyProof.Rows.envOfC "law" (defScope s_law15) L a cd).kindOf ("range" : Str) = some NameKind.globalImplicit := rfl
theorem g_law15_law_cell (L a : Addr) (cd : Value) : (PyProof.Rows.envOfC "law" (defScope s_law15) L a cd).kindOf ("_law_cell" : Str) = some NameKind.globalImplicit := rfl
theorem g_law15_law_draws (L a : Addr) (cd : Value) : (PyProof.Rows.envOfC "law" (defScope s_law15) L a cd).kindOf ("_law_draws" : Str) = some NameKind.globalImplicit := rfl
theorem g_law15_law_form (L a : Addr) (cd : Value) : (PyProof.Rows.envOfC "law" (defScope s_law15) L a cd).kindOf ("_law_form" : Str) = some NameKind.globalImplicit := rfl
theorem g_law15_law_number (L a : Addr) (cd : Value) : (PyProof.Rows.envOfC "law" (defScope s_law15) L a cd).kindOf ("_law_number" : Str) = some NameKind.globalImplicit := rfl
theorem g_law15_abs (L a : Addr) (cd : Value) : (PyProof.Rows.envOfC "law" (defScope s_law15) L a cd).kindOf ("abs" : Str) = some NameKind.globalImplicit := rfl
theorem g_law15_str (L a : Addr) (cd : Value) : (PyProof.Rows.envOfC "law" (defScope s_law15) L a cd).kindOf ("str" : Str) = some NameKind.globalImplicit := rfl
theorem g_law15_len (L a : Addr) (cd : Value) : (PyProof.Rows.envOfC "law" (defScope s_law15) L a cd).kindOf ("len" : Str) = some NameKind.globalImplicit := rfl
theorem g_law15_law_power (L a : Addr) (cd : Value) : (PyProof.Rows.envOfC "law" (defScope s_law15) L a cd).kindOf ("_law_power" : Str) = some NameKind.globalImplicit := rfl
theorem g_law15_max (L a : Addr) (cd : Value) : (PyProof.Rows.envOfC "law" (defScope s_law15) L a cd).kindOf ("max" : Str) = some NameKind.globalImplicit := rfl
theorem g_law15_law_figures_text (L a : Addr) (cd : Value) : (PyProof.Rows.envOfC "law" (defScope s_law15) L a cd).kindOf ("_law_figures_text" : Str) = some NameKind.globalImplicit := rfl
theorem g_law15_law_spoilt (L a : Addr) (cd : Value) : (PyProof.Rows.envOfC "law" (defScope s_law15) L a cd).kindOf ("_law_spoilt" : Str) = some NameKind.globalImplicit := rfl
theorem g_law15_law_reading (L a : Addr) (cd : Value) : (PyProof.Rows.envOfC "law" (defScope s_law15) L a cd).kindOf ("_law_reading" : Str) = some NameKind.globalImplicit := rfl
theorem g_law15_law_seen (L a : Addr) (cd : Value) : (PyProof.Rows.envOfC "law" (defScope s_law15) L a cd).kindOf ("_law_seen" : Str) = some NameKind.globalImplicit := rfl
theorem g_law15_law_whole (L a : Addr) (cd : Value) : (PyProof.Rows.envOfC "law" (defScope s_law15) L a cd).kindOf ("_law_whole" : Str) = some NameKind.globalImplicit := rfl
theorem ok_law15 {P : Program} {w : World} {K : PySem.W.Frag} {mg : Str → Option Value} {base : Heap} {f : Addr} {fd : FuncData} (F : Fun K "law" "law" s_law15 f fd) (B : Bn mg) (h_ldraws : Fd P w K mg base "_law_draws" 4 ["_law_cell_here", "_law_salt", "_law_widths"] [] f_ldraws) (h_lcell : Fd P w K mg base "_law_cell" 2 ["_law_script", "_law_k"] [] f_lcell) (h_lform2 : Fd P w K mg base "_law_form" 2 ["_law_kind", "_law_many", "_law_sign_here"] [] f_lform2) (h_lnumber : Fd P w K mg base "_law_number" 6 ["_law_form_here", "_law_way", "_law_far"] [] f_lnumber) (h_lpower : Fd P w K mg base "_law_power" 2 ["_law_base", "_law_many"] [] f_lpower) (h_lfigures_text : Fd P w K mg base "_law_figures_text" 2 ["_law_number_here", "_law_many"] [] f_lfigures_text) (h_lspoilt : Fd P w K mg base "_law_spoilt" 4 ["_law_text", "_law_draws_here"] [] f_lspoilt) (h_lreading : Fd P w K mg base "_law_reading" 8 ["_law_form_here", "_law_text"] [] f_lreading) (h_lseen : Fd P w K mg base "_law_seen" 10 ["_law_form_here", "_law_text"] [] f_lseen) (h_lwhole : Fd P w K mg base "_law_whole" 2 ["_law_found"] [] f_lwhole)    :
    FnOk P w K mg base (L2N.CX P w) 12 f fd ["_law_script"] (spF K mg 1 [] f_law15) := by
  refine fn_ok F sc_law15 (by decide) (by decide) fun cdv A outer s H E hr => ?_
  have nd := sc_law15.nd
  have tk : L2N.Takes (cxOf (L2N.CX P w) P w K mg base ["_law_script", "_law_k", "_law_widths", "_law_draws_here", "_law_form_here", "_law_number_here", "_law_size", "_law_ten", "_law_many", "_law_ahead", "_law_behind", "_law_text", "_law_due", "_law_turn", "_law_found"] "law" (defScope s_law15) f cdv A outer s H E) (fun cls d _ H => E cls d H) := L2N.takes_of rfl rfl rfl rfl
  have pn : PassesOwn (model P w) (cxOf (L2N.CX P w) P w K mg base ["_law_script", "_law_k", "_law_widths", "_law_draws_here", "_law_form_here", "_law_number_here", "_law_size", "_law_ten", "_law_many", "_law_ahead", "_law_behind", "_law_text", "_law_due", "_law_turn", "_law_found"] "law" (defScope s_law15) f cdv A outer s H E).A (cxOf (L2N.CX P w) P w K mg base ["_law_script", "_law_k", "_law_widths", "_law_draws_here", "_law_form_here", "_law_number_here", "_law_size", "_law_ten", "_law_many", "_law_ahead", "_law_behind", "_law_text", "_law_due", "_law_turn", "_law_found"] "law" (defScope s_law15) f cdv A outer s H E).env (cxOf (L2N.CX P w) P w K mg base ["_law_script", "_law_k", "_law_widths", "_law_draws_here", "_law_form_here", "_law_number_here", "_law_size", "_law_ten", "_law_many", "_law_ahead", "_law_behind", "_law_text", "_law_due", "_law_turn", "_law_found"] "law" (defScope s_law15) f cdv A outer s H E).xe := passes_of rfl
  unfold m_law15
  exact mss_cons (ms_for pn rfl (mi_r1 B.range (ma_cons (me_int) (ma_nil)) (hg := (g_law15_range _ _ _))) (mg_name (i := 1) nd rfl (.inl v_law15_1)) (mss_cons (ms_set (i := 2) nd rfl (.inl v_law15_2) (me_lst (ma_cons (me_int) (ma_cons (me_int) (ma_cons (me_int) (ma_cons (me_int) (ma_cons (me_int) (ma_cons (me_pow (me_int) (me_int)) (ma_cons (me_int) (ma_cons (me_int) (ma_cons (me_int) (ma_cons (me_int) (ma_cons (me_pow (me_int) (me_int)) (ma_cons (me_int) (ma_cons (me_int) (ma_cons (me_int) (ma_cons (me_int) (ma_cons (me_int) (ma_cons (me_int) (ma_cons (me_int) (ma_nil))))))))))))))))))))) (mss_cons (ms_set (i := 3) nd rfl (.inl v_law15_3) (me_fz (mf_call h_ldraws hr (by decide) tk (ma_cons (me_fz (mf_call h_lcell hr (by decide) tk (ma_cons (me_var (i := 0) rfl (.inl v_law15_0)) (ma_cons (me_var (i := 1) rfl (.inl v_law15_1)) (ma_nil))) (lng_cons (lng_cons lng_nil)) (hg := (g_law15_law_cell _ _ _)))) (ma_cons (me_add (me_int) (me_var (i := 1) rfl (.inl v_law15_1))) (ma_cons (me_var (i := 2) rfl (.inl v_law15_2)) (ma_nil)))) (lng_cons (lng_cons (lng_cons lng_nil))) (hg := (g_law15_law_draws _ _ _))))) (mss_cons (ms_set (i := 4) nd rfl (.inl v_law15_4) (me_add (me_sl (me_fz (mf_call h_lform2 hr (by decide) tk (ma_cons (me_ix (me_var (i := 3) rfl (.inl v_law15_3)) (me_int)) (ma_cons (me_ix (me_var (i := 3) rfl (.inl v_law15_3)) (me_int)) (ma_cons (me_ix (me_var (i := 3) rfl (.inl v_law15_3)) (me_int)) (ma_nil)))) (lng_cons (lng_cons (lng_cons lng_nil))) (hg := (g_law15_law_form _ _ _)))) (mp_none) (mp_some (me_int))) (me_tup (ma_cons (me_mod (me_ix (me_var (i := 3) rfl (.inl v_law15_3)) (me_int)) (me_add (me_int) (me_ix (me_var (i := 3) rfl (.inl v_law15_3)) (me_int)))) (ma_nil))))) (mss_cons (ms_set (i := 5) nd rfl (.inl v_law15_5) (mb_abs B.abs (ma_cons (me_fz (mf_call h_lnumber hr (by decide) tk (ma_cons (me_var (i := 4) rfl (.inl v_law15_4)) (ma_cons (me_ix (me_var (i := 3) rfl (.inl v_law15_3)) (me_int)) (ma_cons (me_ix (me_var (i := 3) rfl (.inl v_law15_3)) (me_int)) (ma_nil)))) (lng_cons (lng_cons (lng_cons lng_nil))) (hg := (g_law15_law_number _ _ _)))) (ma_nil)) (hg := (g_law15_abs _ _ _)))) (mss_cons (ms_set (i := 6) nd rfl (.inl v_law15_6) (mb_len B.len (ma_cons (mb_str B.str (ma_cons (me_var (i := 5) rfl (.inl v_law15_5)) (ma_nil)) (hg := (g_law15_str _ _ _))) (ma_nil)) (hg := (g_law15_len _ _ _)))) (mss_cons (ms_set (i := 7) nd rfl (.inl v_law15_7) (me_fz (mf_call h_lpower hr (by decide) tk (ma_cons (me_int) (ma_cons (me_ix (me_var (i := 4) rfl (.inl v_law15_4)) (me_int)) (ma_nil))) (lng_cons (lng_cons lng_nil)) (hg := (g_law15_law_power _ _ _))))) (mss_cons (ms_set (i := 8) nd rfl (.inl v_law15_8) (me_add (mb_max rfl B.max (ma_cons (me_int) (ma_cons (me_sub (me_var (i := 6) rfl (.inl v_law15_6)) (me_ix (me_var (i := 4) rfl (.inl v_law15_4)) (me_int))) (ma_nil))) (hg := (g_law15_max _ _ _))) (me_mod (me_ix (me_var (i := 3) rfl (.inl v_law15_3)) (me_int)) (me_int)))) (mss_cons (ms_set (i := 9) nd rfl (.inl v_law15_9) (me_fz (mf_call h_lfigures_text hr (by decide) tk (ma_cons (me_div (me_var (i := 5) rfl (.inl v_law15_5)) (me_var (i := 7) rfl (.inl v_law15_7))) (ma_cons (me_var (i := 8) rfl (.inl v_law15_8)) (ma_nil))) (lng_cons (lng_cons lng_nil)) (hg := (g_law15_law_figures_text _ _ _))))) (mss_cons (ms_set (i := 10) nd rfl (.inl v_law15_10) (me_fz (mf_call h_lfigures_text hr (by decide) tk (ma_cons (me_mod (me_var (i := 5) rfl (.inl v_law15_5)) (me_var (i := 7) rfl (.inl v_law15_7))) (ma_cons (me_ix (me_var (i := 4) rfl (.inl v_law15_4)) (me_int)) (ma_nil))) (lng_cons (lng_cons lng_nil)) (hg := (g_law15_law_figures_text _ _ _))))) (mss_cons (ms_set (i := 11) nd rfl (.inl v_law15_11) (me_var (i := 9) rfl (.inl v_law15_9))) (mss_cons (ms_if (mt_cmp op_gt os_gt (me_ix (me_var (i := 4) rfl (.inl v_law15_4)) (me_int)) (me_int) (nomark _)) (mss_one (ms_set (i := 11) nd rfl (.inl v_law15_11) (me_add (me_add (me_add (me_var (i := 9) rfl (.inl v_law15_9)) (me_str)) (me_var (i := 10) rfl (.inl v_law15_10))) (me_mul (me_str) (me_ix (me_var (i := 3) rfl (.inl v_law15_3)) (me_int)))))) (mss_nil)) (mss_cons (ms_if (mt_cmp (op_eqM hr.units) os_eq (me_ix (me_var (i := 3) rfl (.inl v_law15_3)) (me_int)) (me_int) (nomark _)) (mss_cons (ms_set (i := 11) nd rfl (.inl v_law15_11) (me_add (me_fz (mf_call h_lfigures_text hr (by decide) tk (ma_cons (me_ix (me_var (i := 3) rfl (.inl v_law15_3)) (me_int)) (ma_cons (me_ix (me_var (i := 3) rfl (.inl v_law15_3)) (me_int)) (ma_nil))) (lng_cons (lng_cons lng_nil)) (hg := (g_law15_law_figures_text _ _ _)))) (me_ix (me_lst (ma_cons (me_str) (ma_cons (me_str) (ma_nil)))) (me_ix (me_var (i := 3) rfl (.inl v_law15_3)) (me_int))))) (mss_one (ms_set (i := 11) nd rfl (.inl v_law15_11) (me_add (me_var (i := 11) rfl (.inl v_law15_11)) (me_fz (mf_call h_lfigures_text hr (by decide) tk (ma_cons (me_ix (me_var (i := 3) rfl (.inl v_law15_3)) (me_int)) (ma_cons (me_ix (me_var (i := 3) rfl (.inl v_law15_3)) (me_int)) (ma_nil))) (lng_cons (lng_cons lng_nil)) (hg := (g_law15_law_figures_text _ _ _)))))))) (mss_nil)) (mss_cons (ms_if (mt_cmp (op_eqM hr.units) os_eq (me_ix (me_var (i := 3) rfl (.inl v_law15_3)) (me_int)) (me_int) (nomark _)) (mss_one (ms_set (i := 11) nd rfl (.inl v_law15_11) (me_add (me_str) (me_var (i := 11) rfl (.inl v_law15_11))))) (mss_nil)) (mss_cons (ms_if (mt_cmp (op_eqM hr.units) os_eq (me_ix (me_var (i := 3) rfl (.inl v_law15_3)) (me_int)) (me_int) (nomark _)) (mss_one (ms_set (i := 11) nd rfl (.inl v_law15_11) (me_fz (mf_call h_lspoilt hr (by decide) tk (ma_cons (me_var (i := 11) rfl (.inl v_law15_11)) (ma_cons (me_sl (me_var (i := 3) rfl (.inl v_law15_3)) (mp_some (me_int)) (mp_none)) (ma_nil))) (lng_cons (lng_cons lng_nil)) (hg := (g_law15_law_spoilt _ _ _)))))) (mss_nil)) (mss_cons (ms_set (i := 12) nd rfl (.inl v_law15_12) (me_fz (mf_call h_lreading hr (by decide) tk (ma_cons (me_var (i := 4) rfl (.inl v_law15_4)) (ma_cons (me_var (i := 11) rfl (.inl v_law15_11)) (ma_nil))) (lng_cons (lng_cons lng_nil)) (hg := (g_law15_law_reading _ _ _))))) (mss_one (ms_for pn rfl (mi_r1 B.range (ma_cons (me_int) (ma_nil)) (hg := (g_law15_range _ _ _))) (mg_name (i := 13) nd rfl (.inl v_law15_13)) (mss_cons (ms_set (i := 14) nd rfl (.inl v_law15_14) (me_fz (mf_call h_lseen hr (by decide) tk (ma_cons (me_var (i := 4) rfl (.inl v_law15_4)) (ma_cons (me_var (i := 11) rfl (.inl v_law15_11)) (ma_nil))) (lng_cons (lng_cons lng_nil)) (hg := (g_law15_law_seen _ _ _))))) (mss_one (ms_if (PW.pt (mw_or (mt_cmp (op_neM hr.units) os_ne (me_var (i := 14) rfl (.inl v_law15_14)) (me_var (i := 12) rfl (.inl v_law15_12)) (nomark _)) (mw_one_or (mt_not (mt_val (me_fz (mf_call h_lwhole hr (by decide) tk (ma_cons (me_ix (me_var (i := 14) rfl (.inl v_law15_14)) (me_int)) (ma_nil)) (lng_cons lng_nil) (hg := (g_law15_law_whole _ _ _))))))))) (mss_one (ms_ret (me_bl))) (mss_nil)))))))))))))))))))))) (mss_one (ms_ret (me_bl)))

theorem all_mk {l : PySem.W.OpenLaw} {w : World} {K : PySem.W.Frag} {h : Heap} {mg : Str → Option Value} {fa f0 f1 f2 f3 f4 f5 f6 f7 f8 f9 f10 f11 f12 f13 f14 f15 f16 f17 f18 f19 f20 f21 f22 f23 : Addr} (X : K.In h) (G : h.Ns mainGlobals mg) (hfa : mg "law" = some (.ref fa))
    {od0 an0 od1 an1 od2 an2 od3 an3 od4 an4 od5 an5 od6 an6 od7 an7 od8 an8 od9 an9 od10 an10 od11 an11 od12 an12 od13 an13 od14 an14 od15 an15 od16 an16 od17 an17 od18 an18 od19 an19 od20 an20 od21 an21 od22 an22 od23 an23 : Option Addr} {sl0 sl1 sl2 sl3 sl4 sl5 sl6 sl7 sl8 sl9 sl10 sl11 sl12 sl13 sl14 sl15 sl16 sl17 sl18 sl19 sl20 sl21 sl22 sl23 : Array (Option Value)} {oc0 kV0 dc0 pm0 cd0 ct0 oc1 kV1 dc1 pm1 cd1 ct1 oc2 kV2 dc2 pm2 cd2 ct2 oc3 kV3 dc3 pm3 cd3 ct3 oc4 kV4 dc4 pm4 cd4 ct4 oc5 kV5 dc5 pm5 cd5 ct5 oc6 kV6 dc6 pm6 cd6 ct6 oc7 kV7 dc7 pm7 cd7 ct7 oc8 kV8 dc8 pm8 cd8 ct8 oc9 kV9 dc9 pm9 cd9 ct9 oc10 kV10 dc10 pm10 cd10 ct10 oc11 kV11 dc11 pm11 cd11 ct11 oc12 kV12 dc12 pm12 cd12 ct12 oc13 kV13 dc13 pm13 cd13 ct13 oc14 kV14 dc14 pm14 cd14 ct14 oc15 kV15 dc15 pm15 cd15 ct15 oc16 kV16 dc16 pm16 cd16 ct16 oc17 kV17 dc17 pm17 cd17 ct17 oc18 kV18 dc18 pm18 cd18 ct18 oc19 kV19 dc19 pm19 cd19 ct19 oc20 kV20 dc20 pm20 cd20 ct20 oc21 kV21 dc21 pm21 cd21 ct21 oc22 kV22 dc22 pm22 cd22 ct22 oc23 kV23 dc23 pm23 cd23 ct23 : Value}
    (a0 : PySem.W.nsIn K mainGlobals "_law_mixed" = some (some (.ref f0))) (l0 : K.lookup f0 = some ⟨oc0, od0, .func (PySem.W.fnOf "_law_mixed" "_law_mixed" (defArgs s_lmixed) (defBody s_lmixed) (defScope s_lmixed) .none kV0 dc0 pm0 an0 cd0 ct0), sl0⟩) (c0 : PySem.W.codeIn K cd0 "_law_mixed" = true) (k0 : PySem.W.keepIn K (.ref f0) = true)
    (a1 : PySem.W.nsIn K mainGlobals "_law_draws" = some (some (.ref f1))) (l1 : K.lookup f1 = some ⟨oc1, od1, .func (PySem.W.fnOf "_law_draws" "_law_draws" (defArgs s_ldraws) (defBody s_ldraws) (defScope s_ldraws) .none kV1 dc1 pm1 an1 cd1 ct1), sl1⟩) (c1 : PySem.W.codeIn K cd1 "_law_draws" = true) (k1 : PySem.W.keepIn K (.ref f1) = true)
    (a2 : PySem.W.nsIn K mainGlobals "_law_power" = some (some (.ref f2))) (l2 : K.lookup f2 = some ⟨oc2, od2, .func (PySem.W.fnOf "_law_power" "_law_power" (defArgs s_lpower) (defBody s_lpower) (defScope s_lpower) .none kV2 dc2 pm2 an2 cd2 ct2), sl2⟩) (c2 : PySem.W.codeIn K cd2 "_law_power" = true) (k2 : PySem.W.keepIn K (.ref f2) = true)
    (a3 : PySem.W.nsIn K mainGlobals "_law_figures_text" = some (some (.ref f3))) (l3 : K.lookup f3 = some ⟨oc3, od3, .func (PySem.W.fnOf "_law_figures_text" "_law_figures_text" (defArgs s_lfigures_text) (defBody s_lfigures_text) (defScope s_lfigures_text) .none kV3 dc3 pm3 an3 cd3 ct3), sl3⟩) (c3 : PySem.W.codeIn K cd3 "_law_figures_text" = true) (k3 : PySem.W.keepIn K (.ref f3) = true)
    (a4 : PySem.W.nsIn K mainGlobals "_law_value" = some (some (.ref f4))) (l4 : K.lookup f4 = some ⟨oc4, od4, .func (PySem.W.fnOf "_law_value" "_law_value" (defArgs s_lvalue) (defBody s_lvalue) (defScope s_lvalue) .none kV4 dc4 pm4 an4 cd4 ct4), sl4⟩) (c4 : PySem.W.codeIn K cd4 "_law_value" = true) (k4 : PySem.W.keepIn K (.ref f4) = true)
    (a5 : PySem.W.nsIn K mainGlobals "_law_ends" = some (some (.ref f5))) (l5 : K.lookup f5 = some ⟨oc5, od5, .func (PySem.W.fnOf "_law_ends" "_law_ends" (defArgs s_lends) (defBody s_lends) (defScope s_lends) .none kV5 dc5 pm5 an5 cd5 ct5), sl5⟩) (c5 : PySem.W.codeIn K cd5 "_law_ends" = true) (k5 : PySem.W.keepIn K (.ref f5) = true)
    (a6 : PySem.W.nsIn K mainGlobals "_law_fits" = some (some (.ref f6))) (l6 : K.lookup f6 = some ⟨oc6, od6, .func (PySem.W.fnOf "_law_fits" "_law_fits" (defArgs s_lfits) (defBody s_lfits) (defScope s_lfits) .none kV6 dc6 pm6 an6 cd6 ct6), sl6⟩) (c6 : PySem.W.codeIn K cd6 "_law_fits" = true) (k6 : PySem.W.keepIn K (.ref f6) = true)
    (a7 : PySem.W.nsIn K mainGlobals "_law_is_figures" = some (some (.ref f7))) (l7 : K.lookup f7 = some ⟨oc7, od7, .func (PySem.W.fnOf "_law_is_figures" "_law_is_figures" (defArgs s_lis_figures) (defBody s_lis_figures) (defScope s_lis_figures) .none kV7 dc7 pm7 an7 cd7 ct7), sl7⟩) (c7 : PySem.W.codeIn K cd7 "_law_is_figures" = true) (k7 : PySem.W.keepIn K (.ref f7) = true)
    (a8 : PySem.W.nsIn K mainGlobals "_law_reading" = some (some (.ref f8))) (l8 : K.lookup f8 = some ⟨oc8, od8, .func (PySem.W.fnOf "_law_reading" "_law_reading" (defArgs s_lreading) (defBody s_lreading) (defScope s_lreading) .none kV8 dc8 pm8 an8 cd8 ct8), sl8⟩) (c8 : PySem.W.codeIn K cd8 "_law_reading" = true) (k8 : PySem.W.keepIn K (.ref f8) = true)
    (a9 : PySem.W.nsIn K mainGlobals "_law_cell" = some (some (.ref f9))) (l9 : K.lookup f9 = some ⟨oc9, od9, .func (PySem.W.fnOf "_law_cell" "_law_cell" (defArgs s_lcell) (defBody s_lcell) (defScope s_lcell) .none kV9 dc9 pm9 an9 cd9 ct9), sl9⟩) (c9 : PySem.W.codeIn K cd9 "_law_cell" = true) (k9 : PySem.W.keepIn K (.ref f9) = true)
    (a10 : PySem.W.nsIn K mainGlobals "_law_number" = some (some (.ref f10))) (l10 : K.lookup f10 = some ⟨oc10, od10, .func (PySem.W.fnOf "_law_number" "_law_number" (defArgs s_lnumber) (defBody s_lnumber) (defScope s_lnumber) .none kV10 dc10 pm10 an10 cd10 ct10), sl10⟩) (c10 : PySem.W.codeIn K cd10 "_law_number" = true) (k10 : PySem.W.keepIn K (.ref f10) = true)
    (a11 : PySem.W.nsIn K mainGlobals "_law_sign" = some (some (.ref f11))) (l11 : K.lookup f11 = some ⟨oc11, od11, .func (PySem.W.fnOf "_law_sign" "_law_sign" (defArgs s_lsign) (defBody s_lsign) (defScope s_lsign) .none kV11 dc11 pm11 an11 cd11 ct11), sl11⟩) (c11 : PySem.W.codeIn K cd11 "_law_sign" = true) (k11 : PySem.W.keepIn K (.ref f11) = true)
    (a12 : PySem.W.nsIn K mainGlobals "_law_spoilt" = some (some (.ref f12))) (l12 : K.lookup f12 = some ⟨oc12, od12, .func (PySem.W.fnOf "_law_spoilt" "_law_spoilt" (defArgs s_lspoilt) (defBody s_lspoilt) (defScope s_lspoilt) .none kV12 dc12 pm12 an12 cd12 ct12), sl12⟩) (c12 : PySem.W.codeIn K cd12 "_law_spoilt" = true) (k12 : PySem.W.keepIn K (.ref f12) = true)
    (a13 : PySem.W.nsIn K mainGlobals "is_figures" = some (some (.ref f13))) (l13 : K.lookup f13 = some ⟨oc13, od13, .func (PySem.W.fnOf "is_figures" "is_figures" (defArgs s_pis_figures) (defBody s_pis_figures) (defScope s_pis_figures) .none kV13 dc13 pm13 an13 cd13 ct13), sl13⟩) (c13 : PySem.W.codeIn K cd13 "is_figures" = true) (k13 : PySem.W.keepIn K (.ref f13) = true)
    (a14 : PySem.W.nsIn K mainGlobals "parts_of" = some (some (.ref f14))) (l14 : K.lookup f14 = some ⟨oc14, od14, .func (PySem.W.fnOf "parts_of" "parts_of" (defArgs s_pparts_of) (defBody s_pparts_of) (defScope s_pparts_of) .none kV14 dc14 pm14 an14 cd14 ct14), sl14⟩) (c14 : PySem.W.codeIn K cd14 "parts_of" = true) (k14 : PySem.W.keepIn K (.ref f14) = true)
    (a15 : PySem.W.nsIn K mainGlobals "power" = some (some (.ref f15))) (l15 : K.lookup f15 = some ⟨oc15, od15, .func (PySem.W.fnOf "power" "power" (defArgs s_ppower) (defBody s_ppower) (defScope s_ppower) .none kV15 dc15 pm15 an15 cd15 ct15), sl15⟩) (c15 : PySem.W.codeIn K cd15 "power" = true) (k15 : PySem.W.keepIn K (.ref f15) = true)
    (a16 : PySem.W.nsIn K mainGlobals "least_of" = some (some (.ref f16))) (l16 : K.lookup f16 = some ⟨oc16, od16, .func (PySem.W.fnOf "least_of" "least_of" (defArgs s_pleast_of) (defBody s_pleast_of) (defScope s_pleast_of) .none kV16 dc16 pm16 an16 cd16 ct16), sl16⟩) (c16 : PySem.W.codeIn K cd16 "least_of" = true) (k16 : PySem.W.keepIn K (.ref f16) = true)
    (a17 : PySem.W.nsIn K mainGlobals "most_of" = some (some (.ref f17))) (l17 : K.lookup f17 = some ⟨oc17, od17, .func (PySem.W.fnOf "most_of" "most_of" (defArgs s_pmost_of) (defBody s_pmost_of) (defScope s_pmost_of) .none kV17 dc17 pm17 an17 cd17 ct17), sl17⟩) (c17 : PySem.W.codeIn K cd17 "most_of" = true) (k17 : PySem.W.keepIn K (.ref f17) = true)
    (a18 : PySem.W.nsIn K mainGlobals "fits" = some (some (.ref f18))) (l18 : K.lookup f18 = some ⟨oc18, od18, .func (PySem.W.fnOf "fits" "fits" (defArgs s_pfits) (defBody s_pfits) (defScope s_pfits) .none kV18 dc18 pm18 an18 cd18 ct18), sl18⟩) (c18 : PySem.W.codeIn K cd18 "fits" = true) (k18 : PySem.W.keepIn K (.ref f18) = true)
    (a19 : PySem.W.nsIn K mainGlobals "told" = some (some (.ref f19))) (l19 : K.lookup f19 = some ⟨oc19, od19, .func (PySem.W.fnOf "told" "told" (defArgs s_ptold) (defBody s_ptold) (defScope s_ptold) .none kV19 dc19 pm19 an19 cd19 ct19), sl19⟩) (c19 : PySem.W.codeIn K cd19 "told" = true) (k19 : PySem.W.keepIn K (.ref f19) = true)
    (a20 : PySem.W.nsIn K mainGlobals "_law_seen" = some (some (.ref f20))) (l20 : K.lookup f20 = some ⟨oc20, od20, .func (PySem.W.fnOf "_law_seen" "_law_seen" (defArgs s_lseen) (defBody s_lseen) (defScope s_lseen) .none kV20 dc20 pm20 an20 cd20 ct20), sl20⟩) (c20 : PySem.W.codeIn K cd20 "_law_seen" = true) (k20 : PySem.W.keepIn K (.ref f20) = true)
    (a21 : PySem.W.nsIn K mainGlobals "_law_form" = some (some (.ref f21))) (l21 : K.lookup f21 = some ⟨oc21, od21, .func (PySem.W.fnOf "_law_form" "_law_form" (defArgs s_lform2) (defBody s_lform2) (defScope s_lform2) .none kV21 dc21 pm21 an21 cd21 ct21), sl21⟩) (c21 : PySem.W.codeIn K cd21 "_law_form" = true) (k21 : PySem.W.keepIn K (.ref f21) = true)
    (a22 : PySem.W.nsIn K mainGlobals "_law_whole" = some (some (.ref f22))) (l22 : K.lookup f22 = some ⟨oc22, od22, .func (PySem.W.fnOf "_law_whole" "_law_whole" (defArgs s_lwhole) (defBody s_lwhole) (defScope s_lwhole) .none kV22 dc22 pm22 an22 cd22 ct22), sl22⟩) (c22 : PySem.W.codeIn K cd22 "_law_whole" = true) (k22 : PySem.W.keepIn K (.ref f22) = true)
    (a23 : PySem.W.nsIn K mainGlobals "law" = some (some (.ref f23))) (l23 : K.lookup f23 = some ⟨oc23, od23, .func (PySem.W.fnOf "law" "law" (defArgs s_law15) (defBody s_law15) (defScope s_law15) .none kV23 dc23 pm23 an23 cd23 ct23), sl23⟩) (c23 : PySem.W.codeIn K cd23 "law" = true) (k23 : PySem.W.keepIn K (.ref f23) = true)
    (z_len : PySem.W.nsIn K mainGlobals "len" = some none)
    (z_range : PySem.W.nsIn K mainGlobals "range" = some none)
    (z_abs : PySem.W.nsIn K mainGlobals "abs" = some none)
    (z_max : PySem.W.nsIn K mainGlobals "max" = some none)
    (z_min : PySem.W.nsIn K mainGlobals "min" = some none)
    (z_int : PySem.W.nsIn K mainGlobals "int" = some none)
    (z_str : PySem.W.nsIn K mainGlobals "str" = some none)
    (z_tuple : PySem.W.nsIn K mainGlobals "tuple" = some none)
    (z_list : PySem.W.nsIn K mainGlobals "list" = some none)
    (z_all : PySem.W.nsIn K mainGlobals "all" = some none)
    (z_any : PySem.W.nsIn K mainGlobals "any" = some none)
    (z_isinstance : PySem.W.nsIn K mainGlobals "isinstance" = some none)
    (z_divmod : PySem.W.nsIn K mainGlobals "divmod" = some none)
    (z_sum : PySem.W.nsIn K mainGlobals "sum" = some none)
    (z_zip : PySem.W.nsIn K mainGlobals "zip" = some none)
    (z_enumerate : PySem.W.nsIn K mainGlobals "enumerate" = some none)
    (z_reversed : PySem.W.nsIn K mainGlobals "reversed" = some none)
    (z_sorted : PySem.W.nsIn K mainGlobals "sorted" = some none)
    (z_dict : PySem.W.nsIn K mainGlobals "dict" = some none)
    (z_set : PySem.W.nsIn K mainGlobals "set" = some none)
    (z_bool : PySem.W.nsIn K mainGlobals "bool" = some none)
    {qt_MOST_READ : Tok} (qa_MOST_READ : PySem.W.nsIn K mainGlobals "MOST_READ" = some (some (.int 30 qt_MOST_READ)))
    {qt_FIGURES : Tok} (qa_FIGURES : PySem.W.nsIn K mainGlobals "FIGURES" = some (some (.str "0123456789" qt_FIGURES)))
    {c_LoftError : Addr} (n_LoftError : PySem.W.nsIn K mainGlobals "LoftError" = some (some (.ref c_LoftError)))
    {c_NoFit : Addr} (n_NoFit : PySem.W.nsIn K mainGlobals "NoFit" = some (some (.ref c_NoFit)))
    {c_NoShape : Addr} (n_NoShape : PySem.W.nsIn K mainGlobals "NoShape" = some (some (.ref c_NoShape)))
    {c_NoText : Addr} (n_NoText : PySem.W.nsIn K mainGlobals "NoText" = some (some (.ref c_NoText)))
    (b1_LoftError : PySem.W.readsIn K c_LoftError (.type "type") = true)
    (b2_LoftError : PySem.W.specialIn K (.ref c_LoftError) "__getattribute__" = some (some (.builtin "type.__getattribute__")))
    (b3_LoftError : PySem.W.findCls K (.ref c_LoftError) (.type "type") "__init__" = some (.val (.builtin "ValueError.__init__")))
    {nm_NoFit q_NoFit : Str} {N_NoFit i_NoFit : Addr} {bs_NoFit : List Value} {sn_NoFit : List Str} {sub_NoFit : List Value} {ab_NoFit : Bool} {col_NoFit : Option Bool} {dd_NoFit : Option Addr} {k0_NoFit k1_NoFit k2_NoFit k3_NoFit k5_NoFit : Option Value}
    (l_NoFit : K.lookup c_NoFit = some (excClassObj nm_NoFit q_NoFit c_NoFit N_NoFit bs_NoFit [.ref c_LoftError, .type "ValueError", .type "Exception", .type "BaseException", .type "object"] true sn_NoFit sub_NoFit ab_NoFit col_NoFit dd_NoFit k0_NoFit k1_NoFit k2_NoFit k3_NoFit k5_NoFit "ValueError.__new__"))
    (s_NoFit : PySem.W.findIn K (.ref c_NoFit) "__setattr__" = some (some (.builtin "object.__setattr__")))
    (e_NoFit : PySem.W.subIn K (.ref c_NoFit) (.type "BaseException") = some true)
    (t_NoFit : PySem.W.typeIn K (.ref c_NoFit) = some (.type "type"))
    (p_NoFit : PySem.W.keepIn K (.ref c_NoFit) = true)
    (i_NoFit_ : PySem.W.findIn K (.ref c_NoFit) "__init__" = some (some (.ref i_NoFit)))
    (j_NoFit : PySem.W.typeIn K (.ref i_NoFit) = some (.type "function"))
    (f_NoFit_number : PySem.W.findIn K (.ref c_NoFit) "number" = some none)
    {io_NoFit ik_NoFit id_NoFit ip_NoFit ic_NoFit it_NoFit : Value} {iod_NoFit ia_NoFit : Option Addr} {is_NoFit : Array (Option Value)}
    (g_NoFit : K.lookup i_NoFit = some ⟨io_NoFit, iod_NoFit, .func (PySem.W.fnOf "__init__" "NoFit.__init__" (defArgs s_ini_NoFit) (defBody s_ini_NoFit) (defScope s_ini_NoFit) .none ik_NoFit id_NoFit ip_NoFit ia_NoFit ic_NoFit it_NoFit), is_NoFit⟩)
    (h_NoFit_ : PySem.W.codeIn K ic_NoFit "NoFit.__init__" = true)
    (m_NoFit_ : PySem.W.keepIn K (.ref i_NoFit) = true)
    (yxcl0_NoText1 : PySem.W.excIn K c_NoText [.type "ValueError", .type "Exception", .type "BaseException", .type "object"] "ValueError.__new__" = true)
    (yxcl0_NoText2 : PySem.W.keepIn K (.ref c_NoText) = true)
    (yxcl0_NoText3 : PySem.W.subIn K (.ref c_NoText) (.type "BaseException") = some true)
    (yxcl0_NoText4 : PySem.W.typeIn K (.ref c_NoText) = some (.type "type"))
    (yxext_NoText_NoFit_False : PySem.W.exmOne K (.ref c_NoFit) (.ref c_NoText) = some false)
    (yxext_NoText_NoText_True : PySem.W.exmOne K (.ref c_NoText) (.ref c_NoText) = some true)
    (yxxcf_NoText_ : xcB K c_NoText [] = true)
    (yxkit_NoFit_NoText_False : PySem.W.kitOne K (.ref c_NoText) (.ref c_NoFit) = some false)
    (yxkit_LoftError_NoText_True : PySem.W.kitOne K (.ref c_NoText) (.ref c_LoftError) = some true)
    (yxext_NoFit_NoFit_True : PySem.W.exmOne K (.ref c_NoFit) (.ref c_NoFit) = some true)
    (yxxcf_NoFit_number : xcB K c_NoFit ["number"] = true)
    (yxkit_NoShape_NoFit_False : PySem.W.kitOne K (.ref c_NoFit) (.ref c_NoShape) = some false)
    : ∃ fd : FuncData, (∀ (s : Shared) (u : Value), BindsTo s fd ⟨[u], []⟩ [("_law_script", u)]) ∧ ∀ base : Heap, K.In base → base.Ns mainGlobals mg → FnOk l.prog w K mg base (L2N.CX l.prog w) 12 fa fd ["_law_script"] (spF K mg 1 [] f_law15) := by
  have e := hfa.symm.trans (PySem.W.mg_of X G a23)
  cases e
  have B : Bn mg := ⟨PySem.W.mg_none_of X G z_len, PySem.W.mg_none_of X G z_range, PySem.W.mg_none_of X G z_abs, PySem.W.mg_none_of X G z_max, PySem.W.mg_none_of X G z_min, PySem.W.mg_none_of X G z_int, PySem.W.mg_none_of X G z_str, PySem.W.mg_none_of X G z_tuple, PySem.W.mg_none_of X G z_list, PySem.W.mg_none_of X G z_all, PySem.W.mg_none_of X G z_any, PySem.W.mg_none_of X G z_isinstance, PySem.W.mg_none_of X G z_divmod, PySem.W.mg_none_of X G z_sum, PySem.W.mg_none_of X G z_zip, PySem.W.mg_none_of X G z_enumerate, PySem.W.mg_none_of X G z_reversed, PySem.W.mg_none_of X G z_sorted, PySem.W.mg_none_of X G z_dict, PySem.W.mg_none_of X G z_set, PySem.W.mg_none_of X G z_bool⟩
  have c_MOST_READ : Cst K mg "MOST_READ" (.int 30) := cst_int (PySem.W.mg_of X G qa_MOST_READ)
  have c_FIGURES : Cst K mg "FIGURES" (.str "0123456789") := cst_str (PySem.W.mg_of X G qa_FIGURES)
  have F0 := fun_mk (st := s_lmixed) l0 c0 k0
  have b0 := F0.binds (ps := ["_law_cell_here", "_law_k", "_law_salt"]) fun _ _ _ _ _ _ us hl => match us, hl with | [_, _, _], _ => rfl
  have F1 := fun_mk (st := s_ldraws) l1 c1 k1
  have b1 := F1.binds (ps := ["_law_cell_here", "_law_salt", "_law_widths"]) fun _ _ _ _ _ _ us hl => match us, hl with | [_, _, _], _ => rfl
  have F2 := fun_mk (st := s_lpower) l2 c2 k2
  have b2 := F2.binds (ps := ["_law_base", "_law_many"]) fun _ _ _ _ _ _ us hl => match us, hl with | [_, _], _ => rfl
  have F3 := fun_mk (st := s_lfigures_text) l3 c3 k3
  have b3 := F3.binds (ps := ["_law_number_here", "_law_many"]) fun _ _ _ _ _ _ us hl => match us, hl with | [_, _], _ => rfl
  have F4 := fun_mk (st := s_lvalue) l4 c4 k4
  have b4 := F4.binds (ps := ["_law_word"]) fun _ _ _ _ _ _ us hl => match us, hl with | [_], _ => rfl
  have F5 := fun_mk (st := s_lends) l5 c5 k5
  have b5 := F5.binds (ps := ["_law_form_here"]) fun _ _ _ _ _ _ us hl => match us, hl with | [_], _ => rfl
  have F6 := fun_mk (st := s_lfits) l6 c6 k6
  have b6 := F6.binds (ps := ["_law_form_here", "_law_number_here"]) fun _ _ _ _ _ _ us hl => match us, hl with | [_, _], _ => rfl
  have F7 := fun_mk (st := s_lis_figures) l7 c7 k7
  have b7 := F7.binds (ps := ["_law_word"]) fun _ _ _ _ _ _ us hl => match us, hl with | [_], _ => rfl
  have F8 := fun_mk (st := s_lreading) l8 c8 k8
  have b8 := F8.binds (ps := ["_law_form_here", "_law_text"]) fun _ _ _ _ _ _ us hl => match us, hl with | [_, _], _ => rfl
  have F9 := fun_mk (st := s_lcell) l9 c9 k9
  have b9 := F9.binds (ps := ["_law_script", "_law_k"]) fun _ _ _ _ _ _ us hl => match us, hl with | [_, _], _ => rfl
  have F10 := fun_mk (st := s_lnumber) l10 c10 k10
  have b10 := F10.binds (ps := ["_law_form_here", "_law_way", "_law_far"]) fun _ _ _ _ _ _ us hl => match us, hl with | [_, _, _], _ => rfl
  have F11 := fun_mk (st := s_lsign) l11 c11 k11
  have b11 := F11.binds (ps := ["_law_way", "_law_at"]) fun _ _ _ _ _ _ us hl => match us, hl with | [_, _], _ => rfl
  have F12 := fun_mk (st := s_lspoilt) l12 c12 k12
  have b12 := F12.binds (ps := ["_law_text", "_law_draws_here"]) fun _ _ _ _ _ _ us hl => match us, hl with | [_, _], _ => rfl
  have F13 := fun_mk (st := s_pis_figures) l13 c13 k13
  have b13 := F13.binds (ps := ["word"]) fun _ _ _ _ _ _ us hl => match us, hl with | [_], _ => rfl
  have F14 := fun_mk (st := s_pparts_of) l14 c14 k14
  have b14 := F14.binds (ps := ["text"]) fun _ _ _ _ _ _ us hl => match us, hl with | [_], _ => rfl
  have F15 := fun_mk (st := s_ppower) l15 c15 k15
  have b15 := F15.binds (ps := ["base", "many"]) fun _ _ _ _ _ _ us hl => match us, hl with | [_, _], _ => rfl
  have F16 := fun_mk (st := s_pleast_of) l16 c16 k16
  have b16 := F16.binds (ps := ["form"]) fun _ _ _ _ _ _ us hl => match us, hl with | [_], _ => rfl
  have F17 := fun_mk (st := s_pmost_of) l17 c17 k17
  have b17 := F17.binds (ps := ["form"]) fun _ _ _ _ _ _ us hl => match us, hl with | [_], _ => rfl
  have F18 := fun_mk (st := s_pfits) l18 c18 k18
  have b18 := F18.binds (ps := ["form", "number"]) fun _ _ _ _ _ _ us hl => match us, hl with | [_, _], _ => rfl
  have F19 := fun_mk (st := s_ptold) l19 c19 k19
  have b19 := F19.binds (ps := ["form", "text"]) fun _ _ _ _ _ _ us hl => match us, hl with | [_, _], _ => rfl
  have F20 := fun_mk (st := s_lseen) l20 c20 k20
  have b20 := F20.binds (ps := ["_law_form_here", "_law_text"]) fun _ _ _ _ _ _ us hl => match us, hl with | [_, _], _ => rfl
  have F21 := fun_mk (st := s_lform2) l21 c21 k21
  have b21 := F21.binds (ps := ["_law_kind", "_law_many", "_law_sign_here"]) fun _ _ _ _ _ _ us hl => match us, hl with | [_, _, _], _ => rfl
  have F22 := fun_mk (st := s_lwhole) l22 c22 k22
  have b22 := F22.binds (ps := ["_law_found"]) fun _ _ _ _ _ _ us hl => match us, hl with | [_], _ => rfl
  have F23 := fun_mk (st := s_law15) l23 c23 k23
  have b23 := F23.binds (ps := ["_law_script"]) fun _ _ _ _ _ _ us hl => match us, hl with | [_], _ => rfl
  refine ⟨PySem.W.fnOf "law" "law" (defArgs s_law15) (defBody s_law15) (defScope s_law15) .none kV23 dc23 pm23 an23 cd23 ct23, fun s v => .of_eq rfl, fun base _ _ => ?_⟩
  have B_LoftError : Bas K mg "LoftError" := ⟨c_LoftError, PySem.W.mg_of X G n_LoftError, b1_LoftError, b2_LoftError, b3_LoftError⟩
  have FI_NoFit := fun_mk (st := s_ini_NoFit) g_NoFit h_NoFit_ m_NoFit_
  have bI_NoFit := FI_NoFit.binds (ps := ["self", "number"]) fun _ _ _ _ _ _ us hl => match us, hl with | [_, _], _ => rfl
  have xcl0_NoText : Cl0 K mg "NoText" := ⟨_, PySem.W.mg_of X G n_NoText, yxcl0_NoText1, yxcl0_NoText2, yxcl0_NoText3, yxcl0_NoText4⟩
  have xcl1_NoFit_number : Cl1 l.prog w K mg base "NoFit" "number" := ⟨_, _, _, _, owX_mk (PySem.W.mg_of X G n_NoFit) l_NoFit rfl s_NoFit e_NoFit t_NoFit p_NoFit i_NoFit_ j_NoFit, f_NoFit_number, ini_NoFit FI_NoFit B_LoftError, bI_NoFit⟩
  have xext_NoText_NoFit_False : ExT K mg "NoText" "NoFit" false := ⟨_, _, PySem.W.mg_of X G n_NoFit, PySem.W.mg_of X G n_NoText, yxext_NoText_NoFit_False⟩
  have xext_NoText_NoText_True : ExT K mg "NoText" "NoText" true := ⟨_, _, PySem.W.mg_of X G n_NoText, PySem.W.mg_of X G n_NoText, yxext_NoText_NoText_True⟩
  have xcls_NoText : ∃ D, mg "NoText" = some (.ref D) := ⟨_, PySem.W.mg_of X G n_NoText⟩
  have xxcf_NoText_ : XcF K mg [] "NoText" := ⟨_, PySem.W.mg_of X G n_NoText, yxxcf_NoText_⟩
  have xkit_NoFit_NoText_False : KiT K mg "NoFit" "NoText" false := ⟨_, _, PySem.W.mg_of X G n_NoText, PySem.W.mg_of X G n_NoFit, yxkit_NoFit_NoText_False⟩
  have xcls_NoFit : ∃ D, mg "NoFit" = some (.ref D) := ⟨_, PySem.W.mg_of X G n_NoFit⟩
  have xkit_LoftError_NoText_True : KiT K mg "LoftError" "NoText" true := ⟨_, _, PySem.W.mg_of X G n_NoText, PySem.W.mg_of X G n_LoftError, yxkit_LoftError_NoText_True⟩
  have xcls_LoftError : ∃ D, mg "LoftError" = some (.ref D) := ⟨_, PySem.W.mg_of X G n_LoftError⟩
  have xext_NoFit_NoFit_True : ExT K mg "NoFit" "NoFit" true := ⟨_, _, PySem.W.mg_of X G n_NoFit, PySem.W.mg_of X G n_NoFit, yxext_NoFit_NoFit_True⟩
  have xxcf_NoFit_number : XcF K mg ["number"] "NoFit" := ⟨_, PySem.W.mg_of X G n_NoFit, yxxcf_NoFit_number⟩
  have xkit_NoShape_NoFit_False : KiT K mg "NoShape" "NoFit" false := ⟨_, _, PySem.W.mg_of X G n_NoFit, PySem.W.mg_of X G n_NoShape, yxkit_NoShape_NoFit_False⟩
  have xcls_NoShape : ∃ D, mg "NoShape" = some (.ref D) := ⟨_, PySem.W.mg_of X G n_NoShape⟩
  have h_lmixed : Fd l.prog w K mg base "_law_mixed" 2 ["_law_cell_here", "_law_k", "_law_salt"] [] f_lmixed := ⟨_, _, ok_lmixed F0 B    , PySem.W.mg_of X G a0, k0, b0⟩
  have h_ldraws : Fd l.prog w K mg base "_law_draws" 4 ["_law_cell_here", "_law_salt", "_law_widths"] [] f_ldraws := ⟨_, _, ok_ldraws F1 B h_lmixed   , PySem.W.mg_of X G a1, k1, b1⟩
  have h_lpower : Fd l.prog w K mg base "_law_power" 2 ["_law_base", "_law_many"] [] f_lpower := ⟨_, _, ok_lpower F2 B    , PySem.W.mg_of X G a2, k2, b2⟩
  have h_lfigures_text : Fd l.prog w K mg base "_law_figures_text" 2 ["_law_number_here", "_law_many"] [] f_lfigures_text := ⟨_, _, ok_lfigures_text F3 B    , PySem.W.mg_of X G a3, k3, b3⟩
  have h_lvalue : Fd l.prog w K mg base "_law_value" 2 ["_law_word"] [] f_lvalue := ⟨_, _, ok_lvalue F4 B    , PySem.W.mg_of X G a4, k4, b4⟩
  have h_lends : Fd l.prog w K mg base "_law_ends" 4 ["_law_form_here"] [] f_lends := ⟨_, _, ok_lends F5 B h_lpower   , PySem.W.mg_of X G a5, k5, b5⟩
  have h_lfits : Fd l.prog w K mg base "_law_fits" 6 ["_law_form_here", "_law_number_here"] [] f_lfits := ⟨_, _, ok_lfits F6 B h_lends   , PySem.W.mg_of X G a6, k6, b6⟩
  have h_lis_figures : Fd l.prog w K mg base "_law_is_figures" 2 ["_law_word"] [] f_lis_figures := ⟨_, _, ok_lis_figures F7 B    , PySem.W.mg_of X G a7, k7, b7⟩
  have h_lreading : Fd l.prog w K mg base "_law_reading" 8 ["_law_form_here", "_law_text"] [] f_lreading := ⟨_, _, ok_lreading F8 B h_lis_figures h_lvalue h_lpower h_lfits   , PySem.W.mg_of X G a8, k8, b8⟩
  have h_lcell : Fd l.prog w K mg base "_law_cell" 2 ["_law_script", "_law_k"] [] f_lcell := ⟨_, _, ok_lcell F9 B    , PySem.W.mg_of X G a9, k9, b9⟩
  have h_lnumber : Fd l.prog w K mg base "_law_number" 6 ["_law_form_here", "_law_way", "_law_far"] [] f_lnumber := ⟨_, _, ok_lnumber F10 B h_lends h_lpower   , PySem.W.mg_of X G a10, k10, b10⟩
  have h_lsign : Fd l.prog w K mg base "_law_sign" 2 ["_law_way", "_law_at"] [] f_lsign := ⟨_, _, ok_lsign F11 B    , PySem.W.mg_of X G a11, k11, b11⟩
  have h_lspoilt : Fd l.prog w K mg base "_law_spoilt" 4 ["_law_text", "_law_draws_here"] [] f_lspoilt := ⟨_, _, ok_lspoilt F12 B h_lsign   , PySem.W.mg_of X G a12, k12, b12⟩
  have h_pis_figures : Fd l.prog w K mg base "is_figures" 2 ["word"] [] f_pis_figures := ⟨_, _, ok_pis_figures F13 B    c_MOST_READ c_FIGURES, PySem.W.mg_of X G a13, k13, b13⟩
  have h_pparts_of : Fd l.prog w K mg base "parts_of" 4 ["text"] [] f_pparts_of := ⟨_, _, ok_pparts_of F14 B h_pis_figures  xcl0_NoText , PySem.W.mg_of X G a14, k14, b14⟩
  have h_ppower : Fd l.prog w K mg base "power" 2 ["base", "many"] [] f_ppower := ⟨_, _, ok_ppower F15 B    , PySem.W.mg_of X G a15, k15, b15⟩
  have h_pleast_of : Fd l.prog w K mg base "least_of" 4 ["form"] [] f_pleast_of := ⟨_, _, ok_pleast_of F16 B h_ppower   , PySem.W.mg_of X G a16, k16, b16⟩
  have h_pmost_of : Fd l.prog w K mg base "most_of" 4 ["form"] [] f_pmost_of := ⟨_, _, ok_pmost_of F17 B h_ppower   , PySem.W.mg_of X G a17, k17, b17⟩
  have h_pfits : Fd l.prog w K mg base "fits" 6 ["form", "number"] [] f_pfits := ⟨_, _, ok_pfits F18 B h_pleast_of h_pmost_of   , PySem.W.mg_of X G a18, k18, b18⟩
  have h_ptold : Fd l.prog w K mg base "told" 8 ["form", "text"] [] f_ptold := ⟨_, _, ok_ptold F19 B h_pparts_of h_ppower h_pfits  xcl1_NoFit_number , PySem.W.mg_of X G a19, k19, b19⟩
  have h_lseen : Fd l.prog w K mg base "_law_seen" 10 ["_law_form_here", "_law_text"] [] f_lseen := ⟨_, _, ok_lseen F20 B h_ptold  xext_NoText_NoFit_False xext_NoText_NoText_True xcls_NoText xxcf_NoText_ xkit_NoFit_NoText_False xcls_NoFit xkit_LoftError_NoText_True xcls_LoftError xext_NoFit_NoFit_True xxcf_NoFit_number xkit_NoShape_NoFit_False xcls_NoShape , PySem.W.mg_of X G a20, k20, b20⟩
  have h_lform2 : Fd l.prog w K mg base "_law_form" 2 ["_law_kind", "_law_many", "_law_sign_here"] [] f_lform2 := ⟨_, _, ok_lform2 F21 B    , PySem.W.mg_of X G a21, k21, b21⟩
  have h_lwhole : Fd l.prog w K mg base "_law_whole" 2 ["_law_found"] [] f_lwhole := ⟨_, _, ok_lwhole F22 B    , PySem.W.mg_of X G a22, k22, b22⟩
  exact ok_law15 F23 B h_ldraws h_lcell h_lform2 h_lnumber h_lpower h_lfigures_text h_lspoilt h_lreading h_lseen h_lwhole   
end Tm
open PySem PySem.W PyProof.Rows in
set_option maxRecDepth 100000 in
set_option maxHeartbeats 0 in
theorem PySem.Challenge.cw_tensloft_k08_texts_told_holds : PySem.Challenge.rw_tensloft_k08_texts_told.Holds := by
  w_on; o_law; k_head; (case hw => w_witness2)
  k_fill
  refine Tm.walk_law (l := PySem.Challenge.rw_tensloft_k08_texts_told) (f := Tm.f_law15) (x := "_law_script") (k := 12) rfl rfl ⟨rfl, by decide, by decide⟩ (fun w h Y => PySem.W.kIn_of Y) Tm.law_true ?F
  case F =>
    intro w mg fa h KX G hmg
    refine' Tm.all_mk KX G hmg ?a0 ?l0 ?c0 ?k0 ?a1 ?l1 ?c1 ?k1 ?a2 ?l2 ?c2 ?k2 ?a3 ?l3 ?c3 ?k3 ?a4 ?l4 ?c4 ?k4 ?a5 ?l5 ?c5 ?k5 ?a6 ?l6 ?c6 ?k6 ?a7 ?l7 ?c7 ?k7 ?a8 ?l8 ?c8 ?k8 ?a9 ?l9 ?c9 ?k9 ?a10 ?l10 ?c10 ?k10 ?a11 ?l11 ?c11 ?k11 ?a12 ?l12 ?c12 ?k12 ?a13 ?l13 ?c13 ?k13 ?a14 ?l14 ?c14 ?k14 ?a15 ?l15 ?c15 ?k15 ?a16 ?l16 ?c16 ?k16 ?a17 ?l17 ?c17 ?k17 ?a18 ?l18 ?c18 ?k18 ?a19 ?l19 ?c19 ?k19 ?a20 ?l20 ?c20 ?k20 ?a21 ?l21 ?c21 ?k21 ?a22 ?l22 ?c22 ?k22 ?a23 ?l23 ?c23 ?k23 ?z_len ?z_range ?z_abs ?z_max ?z_min ?z_int ?z_str ?z_tuple ?z_list ?z_all ?z_any ?z_isinstance ?z_divmod ?z_sum ?z_zip ?z_enumerate ?z_reversed ?z_sorted ?z_dict ?z_set ?z_bool ?qa_MOST_READ ?qa_FIGURES ?n_LoftError ?n_NoFit ?n_NoShape ?n_NoText ?b1_LoftError ?b2_LoftError ?b3_LoftError ?l_NoFit ?s_NoFit ?e_NoFit ?t_NoFit ?p_NoFit ?i_NoFit_ ?j_NoFit ?f_NoFit_number ?g_NoFit ?h_NoFit_ ?m_NoFit_ ?yxcl0_NoText1 ?yxcl0_NoText2 ?yxcl0_NoText3 ?yxcl0_NoText4 ?yxext_NoText_NoFit_False ?yxext_NoText_NoText_True ?yxxcf_NoText_ ?yxkit_NoFit_NoText_False ?yxkit_LoftError_NoText_True ?yxext_NoFit_NoFit_True ?yxxcf_NoFit_number ?yxkit_NoShape_NoFit_False
    (case a0 => k_is)
    (case l0 => k_is)
    (case c0 => k_is)
    (case k0 => k_is)
    (case a1 => k_is)
    (case l1 => k_is)
    (case c1 => k_is)
    (case k1 => k_is)
    (case a2 => k_is)
    (case l2 => k_is)
    (case c2 => k_is)
    (case k2 => k_is)
    (case a3 => k_is)
    (case l3 => k_is)
    (case c3 => k_is)
    (case k3 => k_is)
    (case a4 => k_is)
    (case l4 => k_is)
    (case c4 => k_is)
    (case k4 => k_is)
    (case a5 => k_is)
    (case l5 => k_is)
    (case c5 => k_is)
    (case k5 => k_is)
    (case a6 => k_is)
    (case l6 => k_is)
    (case c6 => k_is)
    (case k6 => k_is)
    (case a7 => k_is)
    (case l7 => k_is)
    (case c7 => k_is)
    (case k7 => k_is)
    (case a8 => k_is)
    (case l8 => k_is)
    (case c8 => k_is)
    (case k8 => k_is)
    (case a9 => k_is)
    (case l9 => k_is)
    (case c9 => k_is)
    (case k9 => k_is)
    (case a10 => k_is)
    (case l10 => k_is)
    (case c10 => k_is)
    (case k10 => k_is)
    (case a11 => k_is)
    (case l11 => k_is)
    (case c11 => k_is)
    (case k11 => k_is)
    (case a12 => k_is)
    (case l12 => k_is)
    (case c12 => k_is)
    (case k12 => k_is)
    (case a13 => k_is)
    (case l13 => k_is)
    (case c13 => k_is)
    (case k13 => k_is)
    (case a14 => k_is)
    (case l14 => k_is)
    (case c14 => k_is)
    (case k14 => k_is)
    (case a15 => k_is)
    (case l15 => k_is)
    (case c15 => k_is)
    (case k15 => k_is)
    (case a16 => k_is)
    (case l16 => k_is)
    (case c16 => k_is)
    (case k16 => k_is)
    (case a17 => k_is)
    (case l17 => k_is)
    (case c17 => k_is)
    (case k17 => k_is)
    (case a18 => k_is)
    (case l18 => k_is)
    (case c18 => k_is)
    (case k18 => k_is)
    (case a19 => k_is)
    (case l19 => k_is)
    (case c19 => k_is)
    (case k19 => k_is)
    (case a20 => k_is)
    (case l20 => k_is)
    (case c20 => k_is)
    (case k20 => k_is)
    (case a21 => k_is)
    (case l21 => k_is)
    (case c21 => k_is)
    (case k21 => k_is)
    (case a22 => k_is)
    (case l22 => k_is)
    (case c22 => k_is)
    (case k22 => k_is)
    (case a23 => k_is)
    (case l23 => k_is)
    (case c23 => k_is)
    (case k23 => k_is)
    (case z_len => k_is)
    (case z_range => k_is)
    (case z_abs => k_is)
    (case z_max => k_is)
    (case z_min => k_is)
    (case z_int => k_is)
    (case z_str => k_is)
    (case z_tuple => k_is)
    (case z_list => k_is)
    (case z_all => k_is)
    (case z_any => k_is)
    (case z_isinstance => k_is)
    (case z_divmod => k_is)
    (case z_sum => k_is)
    (case z_zip => k_is)
    (case z_enumerate => k_is)
    (case z_reversed => k_is)
    (case z_sorted => k_is)
    (case z_dict => k_is)
    (case z_set => k_is)
    (case z_bool => k_is)
    (case qa_MOST_READ => k_is)
    (case qa_FIGURES => k_is)
    (case n_LoftError => k_is)
    (case n_NoFit => k_is)
    (case n_NoShape => k_is)
    (case n_NoText => k_is)
    (case b1_LoftError => k_is)
    (case b2_LoftError => k_is)
    (case b3_LoftError => k_is)
    (case l_NoFit => k_is)
    (case s_NoFit => k_is)
    (case e_NoFit => k_is)
    (case t_NoFit => k_is)
    (case p_NoFit => k_is)
    (case i_NoFit_ => k_is)
    (case j_NoFit => k_is)
    (case f_NoFit_number => k_is)
    (case g_NoFit => k_is)
    (case h_NoFit_ => k_is)
    (case m_NoFit_ => k_is)
    (case yxcl0_NoText1 => k_exc)
    (case yxcl0_NoText2 => k_is)
    (case yxcl0_NoText3 => k_is)
    (case yxcl0_NoText4 => k_is)
    (case yxext_NoText_NoFit_False => first | rfl | decide +kernel)
    (case yxext_NoText_NoText_True => first | rfl | decide +kernel)
    (case yxxcf_NoText_ => first | rfl | decide +kernel)
    (case yxkit_NoFit_NoText_False => first | rfl | decide +kernel)
    (case yxkit_LoftError_NoText_True => first | rfl | decide +kernel)
    (case yxext_NoFit_NoFit_True => first | rfl | decide +kernel)
    (case yxxcf_NoFit_number => first | rfl | decide +kernel)
    (case yxkit_NoShape_NoFit_False => first | rfl | decide +kernel)
