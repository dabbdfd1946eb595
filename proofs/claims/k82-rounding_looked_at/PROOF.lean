import PyProof.Rows.All
import Wide.All
import OpenK.AllK
import Wide.FinOn
import HandS.ForMost
import HandS.ForExc
import HandS.Wide
import HandS.Evl
import HandS.TupAny
import HandS.TupMul
import HandS.NoneIn
import HandS.Zip
import HandS.IsInst
import HandS.Text
import HandS.StrMore
import HandS.Comp
import HandS.Style
import PyProof.StrOps2
import KE.GoesMore
import KE.GoesEnum
import KE.GoesZip
import HandS.ExcCtx
import HandS.ExcOwn
import HandS.ExcInit
import HandS.ExcIs
import HandS.ExcField
import HandS.Replace
import HandS.CallLocal
import HandS.WideBits
import HandS.Conv
import KE.GoesEnumKw
import PyProof.Rows.CallKwBuiltin
import HandS.HotCalls
import HandS.More
import HandS.RaiseMore
import HandS.TupLe
import HandS.Flt
import PySem.Challenge.RW_tensloft_k82_rounding_looked_at
set_option Elab.async false
set_option linter.all false
set_option maxRecDepth 100000
set_option maxHeartbeats 2000000
namespace Tm
open PySem L2
inductive MV where
  | non | bl (b : Bool) | int (i : Int) | str (x : Str)
  | tup (xs : List MV) | lst (xs : List MV) | own (xs : List MV)
  | raw (v : V) | scr (ns : List Int)
  | fnc (x : Str)
  | obj (C : Str) (fs : List (Str × MV))
  | dct (ks : List Key) (xs : List MV)
  | dow (ks : List Key) (xs : List MV)
  | dot (ks : List (List Key)) (xs : List MV)
instance : Inhabited MV := ⟨.non⟩
abbrev Env := List (Option MV)
structure MX where
  cls : Str
  fs : List (Str × MV)
inductive Res (α : Type) where
  | ok (a : α) | exc (e : MX) (ρ : Env) | stuck
inductive Fl where
  | nx | br | ct | rt (x : MV)
open Evl (Ex ex_rd ex_l ex_t)
theorem _root_.Evl.Ex.back {H H' : Hp} {p : Addr} (e : Ex H H') (h : H' p = none) : H p = none := Evl.fresh_back e h
theorem _root_.Evl.Ex.both {H H' : Hp} {p : Addr} {o : HO} (e : Ex H H') (h : H' p = none) : Ex (upd H p o) (upd H' p o) := fun a u ha => by
  by_cases hp : a = p
  · subst hp; rw [upd_same] at ha ⊢; exact ha
  · rw [upd_ne hp] at ha ⊢; exact e a u ha
theorem _root_.Evl.Ex.updL {H H' : Hp} {p : Addr} {o : HO} (e : Ex H H') (h : H' p = some o) : Ex (upd H p o) H' := fun a u ha => by
  by_cases hp : a = p
  · subst hp; rw [upd_same] at ha; cases ha; exact h
  · rw [upd_ne hp] at ha; exact e a u ha
mutual
def RV (K : PySem.W.Frag) (H : Hp) : MV → V → Prop
  | .non, v => v = .non
  | .bl b, v => v = .bl b
  | .int i, v => v = .int i
  | .str x, v => v = .str x
  | .tup xs, v => ∃ a vs, v = .ref a ∧ SqT K H a vs ∧ RVs K H xs vs
  | .lst xs, v => ∃ a vs, v = .ref a ∧ H a = some (.lst vs) ∧ RVs K H xs vs
  | .own _, _ => False
  | .raw w, v => v = w
  | .scr ns, v => ∃ a, v = .ref a ∧ SqL K H a (ns.map V.int)
  | .fnc x, v => ∃ a, v = .ref a ∧ PySem.W.nsIn K mainGlobals x = some (some (.ref a))
  | .obj _ _, _ => False
  | .dct ks xs, v => ∃ a vs, v = .ref a ∧ H a = some (.dK (ks.zip vs)) ∧ ks.length = xs.length ∧ RVs K H xs vs
  | .dow _ _, _ => False
  | .dot _ _, _ => False
def RVs (K : PySem.W.Frag) (H : Hp) : List MV → List V → Prop
  | [], vs => vs = []
  | x :: xs, vs => ∃ v r, vs = v :: r ∧ RV K H x v ∧ RVs K H xs r
end
mutual
theorem RV.mono {K : PySem.W.Frag} {H H' : Hp} (e : Ex H H') : ∀ (x : MV) (v : V), RV K H x v → RV K H' x v
  | .non, v, h => by unfold RV at h ⊢; exact h
  | .bl b, v, h => by unfold RV at h ⊢; exact h
  | .int i, v, h => by unfold RV at h ⊢; exact h
  | .str x, v, h => by unfold RV at h ⊢; exact h
  | .tup xs, v, h => by
    unfold RV at h ⊢
    obtain ⟨a, vs, e1, e2, e3⟩ := h
    exact ⟨a, vs, e1, ex_t e e2, RVs.mono e xs vs e3⟩
  | .lst xs, v, h => by
    unfold RV at h ⊢
    obtain ⟨a, vs, e1, e2, e3⟩ := h
    exact ⟨a, vs, e1, e _ _ e2, RVs.mono e xs vs e3⟩
  | .own xs, v, h => by unfold RV at h; exact h.elim
  | .raw w, v, h => by unfold RV at h ⊢; exact h
  | .scr ns, v, h => by
    unfold RV at h ⊢
    obtain ⟨a, e1, e2⟩ := h
    exact ⟨a, e1, ex_l e e2⟩
  | .fnc x, v, h => by unfold RV at h ⊢; exact h
  | .obj C fs, v, h => by unfold RV at h; exact h.elim
  | .dct ks xs, v, h => by
    unfold RV at h ⊢
    obtain ⟨a, vs, e1, e2, e3, e4⟩ := h
    exact ⟨a, vs, e1, e _ _ e2, e3, RVs.mono e xs vs e4⟩
  | .dow ks xs, v, h => by unfold RV at h; exact h.elim
  | .dot ks xs, v, h => by unfold RV at h; exact h.elim
theorem RVs.mono {K : PySem.W.Frag} {H H' : Hp} (e : Ex H H') : ∀ (xs : List MV) (vs : List V), RVs K H xs vs → RVs K H' xs vs
  | [], vs, h => by unfold RVs at h ⊢; exact h
  | x :: xs, vs, h => by
    unfold RVs at h ⊢
    obtain ⟨v, r, e1, e2, e3⟩ := h
    exact ⟨v, r, e1, RV.mono e x v e2, RVs.mono e xs r e3⟩
end
section
variable {K : PySem.W.Frag} {H : Hp}
theorem RV.int {i : Int} {v : V} : RV K H (.int i) v ↔ v = .int i := by unfold RV; rfl
theorem RV.bl {i : Bool} {v : V} : RV K H (.bl i) v ↔ v = .bl i := by unfold RV; rfl
theorem RV.str {i : Str} {v : V} : RV K H (.str i) v ↔ v = .str i := by unfold RV; rfl
theorem RV.non {v : V} : RV K H .non v ↔ v = .non := by unfold RV; rfl
theorem RV.raw {w v : V} : RV K H (.raw w) v ↔ v = w := by unfold RV; rfl
theorem RV.tup {xs : List MV} {v : V} : RV K H (.tup xs) v ↔ ∃ a vs, v = .ref a ∧ SqT K H a vs ∧ RVs K H xs vs := by
  constructor <;> intro h <;> (unfold RV at *; exact h)
theorem RV.lst {xs : List MV} {v : V} : RV K H (.lst xs) v ↔ ∃ a vs, v = .ref a ∧ H a = some (.lst vs) ∧ RVs K H xs vs := by
  constructor <;> intro h <;> (unfold RV at *; exact h)
theorem RV.dct {ks : List Key} {xs : List MV} {v : V} : RV K H (.dct ks xs) v ↔ ∃ a vs, v = .ref a ∧ H a = some (.dK (ks.zip vs)) ∧ ks.length = xs.length ∧ RVs K H xs vs := by
  constructor <;> intro h <;> (unfold RV at *; exact h)
theorem RV.scr {ns : List Int} {v : V} : RV K H (.scr ns) v ↔ ∃ a, v = .ref a ∧ SqL K H a (ns.map V.int) := by
  constructor <;> intro h <;> (unfold RV at *; exact h)
theorem RV.fnc {x : Str} {v : V} : RV K H (.fnc x) v ↔ ∃ a, v = .ref a ∧ PySem.W.nsIn K mainGlobals x = some (some (.ref a)) := by
  constructor <;> intro h <;> (unfold RV at *; exact h)
theorem RVs.nil {vs : List V} : RVs K H [] vs ↔ vs = [] := by unfold RVs; rfl
theorem RVs.cons {x : MV} {xs : List MV} {vs : List V} : RVs K H (x :: xs) vs ↔ ∃ v r, vs = v :: r ∧ RV K H x v ∧ RVs K H xs r := by
  rw [RVs]
theorem RVs.length : ∀ {xs : List MV} {vs : List V}, RVs K H xs vs → vs.length = xs.length
  | [], vs, h => by rw [RVs.nil] at h; subst h; rfl
  | x :: xs, vs, h => by
    rw [RVs.cons] at h
    obtain ⟨v, r, rfl, _, h⟩ := h
    simp [RVs.length h]
theorem RVs.get : ∀ {xs : List MV} {vs : List V} {i : Nat} {x : MV}, RVs K H xs vs → xs[i]? = some x → ∃ v, vs[i]? = some v ∧ RV K H x v
  | [], _, i, x, _, e => by simp at e
  | y :: xs, vs, 0, x, h, e => by
    rw [RVs.cons] at h
    obtain ⟨v, r, rfl, h1, _⟩ := h
    simp at e; subst e; exact ⟨v, rfl, h1⟩
  | y :: xs, vs, i + 1, x, h, e => by
    rw [RVs.cons] at h
    obtain ⟨v, r, rfl, _, h⟩ := h
    obtain ⟨u, h1, h2⟩ := RVs.get (i := i) (x := x) h (by simpa using e)
    exact ⟨u, by simpa using h1, h2⟩
theorem RVs.append : ∀ {xs ys : List MV} {vs ws : List V}, RVs K H xs vs → RVs K H ys ws → RVs K H (xs ++ ys) (vs ++ ws)
  | [], ys, vs, ws, h, h2 => by rw [RVs.nil] at h; subst h; exact h2
  | x :: xs, ys, vs, ws, h, h2 => by
    rw [RVs.cons] at h
    obtain ⟨v, r, rfl, h1, h⟩ := h
    show RVs K H (x :: (xs ++ ys)) (v :: (r ++ ws))
    rw [RVs.cons]
    exact ⟨v, r ++ ws, rfl, h1, RVs.append h h2⟩
theorem RVs.take : ∀ {xs : List MV} {vs : List V} (n : Nat), RVs K H xs vs → RVs K H (xs.take n) (vs.take n)
  | _, _, 0, _ => by simp [RVs]
  | [], vs, n + 1, h => by rw [RVs.nil] at h; subst h; simp [RVs]
  | x :: xs, vs, n + 1, h => by
    rw [RVs.cons] at h
    obtain ⟨v, r, rfl, h1, h⟩ := h
    show RVs K H (x :: xs.take n) (v :: r.take n)
    rw [RVs.cons]
    exact ⟨v, _, rfl, h1, RVs.take n h⟩
theorem RVs.drop : ∀ {xs : List MV} {vs : List V} (n : Nat), RVs K H xs vs → RVs K H (xs.drop n) (vs.drop n)
  | _, _, 0, h => h
  | [], vs, n + 1, h => by rw [RVs.nil] at h; subst h; simp [RVs]
  | x :: xs, vs, n + 1, h => by
    rw [RVs.cons] at h
    obtain ⟨v, r, rfl, h1, h⟩ := h
    exact RVs.drop n h
theorem RVs.set : ∀ {xs : List MV} {vs : List V} (i : Nat) {x : MV} {v : V}, RVs K H xs vs → RV K H x v → RVs K H (xs.set i x) (vs.set i v)
  | [], vs, i, x, v, h, _ => by rw [RVs.nil] at h; subst h; simp [RVs]
  | y :: xs, vs, 0, x, v, h, h2 => by
    rw [RVs.cons] at h
    obtain ⟨u, r, rfl, h1, h⟩ := h
    show RVs K H (x :: xs) (v :: r)
    rw [RVs.cons]; exact ⟨v, r, rfl, h2, h⟩
  | y :: xs, vs, i + 1, x, v, h, h2 => by
    rw [RVs.cons] at h
    obtain ⟨u, r, rfl, h1, h⟩ := h
    show RVs K H (y :: xs.set i x) (u :: r.set i v)
    rw [RVs.cons]; exact ⟨u, _, rfl, h1, RVs.set i h h2⟩
theorem RVs.reverse : ∀ {xs : List MV} {vs : List V}, RVs K H xs vs → RVs K H xs.reverse vs.reverse
  | [], vs, h => by rw [RVs.nil] at h; subst h; simp [RVs]
  | x :: xs, vs, h => by
    rw [RVs.cons] at h
    obtain ⟨v, r, rfl, h1, h⟩ := h
    rw [List.reverse_cons, List.reverse_cons]
    refine RVs.append (RVs.reverse h) ?_
    rw [RVs.cons]; exact ⟨v, [], rfl, h1, RVs.nil.mpr rfl⟩
theorem RVs.ints : ∀ {ns : List Int} {vs : List V}, RVs K H (ns.map MV.int) vs ↔ vs = ns.map V.int
  | [], vs => RVs.nil
  | n :: ns, vs => by
    rw [List.map_cons, RVs.cons]
    constructor
    · rintro ⟨v, r, rfl, h1, h2⟩
      rw [RV.int.mp h1, RVs.ints.mp h2]; rfl
    · rintro rfl
      exact ⟨_, _, rfl, RV.int.mpr rfl, RVs.ints.mpr rfl⟩
end
def OF (K : PySem.W.Frag) (Hk H : Hp) : MV → V → List Addr → Prop
  | .own xs, v, A => ∃ p vs, v = .ref p ∧ A = [p] ∧ H p = some (.lst vs) ∧ RVs K Hk xs vs
  | .dow ks xs, v, A => ∃ p vs, v = .ref p ∧ A = [p] ∧ H p = some (.dK (ks.zip vs)) ∧ ks.length = xs.length ∧ RVs K Hk xs vs
  | .dot ks xs, v, A => ∃ p vs, v = .ref p ∧ A = [p] ∧ H p = some (.dT (ks.zip vs)) ∧ ks.length = xs.length ∧ RVs K Hk xs vs
  | x, v, A => A = [] ∧ RV K Hk x v
def OFs (K : PySem.W.Frag) (Hk H : Hp) : List (Str × MV) → List (Str × V) → List Addr → Prop
  | [], vs, A => vs = [] ∧ A = []
  | (n, x) :: xs, vs, A => ∃ v r B C, vs = (n, v) :: r ∧ A = B ++ C ∧ OF K Hk H x v B ∧ OFs K Hk H xs r C
def OV (K : PySem.W.Frag) (Hk H : Hp) : MV → V → List Addr → Prop
  | .obj C fs, v, A => ∃ p CA dx vfs B, v = .ref p ∧ A = p :: B ∧ PySem.W.nsIn K mainGlobals C = some (some (.ref CA)) ∧ H p = some (.ins CA dx vfs) ∧ OFs K Hk H fs vfs B ∧ (p :: B).Nodup
  | x, v, A => OF K Hk H x v A
def MV.per : MV → Bool
  | .own _ => false
  | .obj _ _ => false
  | .dow _ _ => false
  | .dot _ _ => false
  | _ => true
theorem OF.per {K : PySem.W.Frag} {Hk H : Hp} {x : MV} {v : V} {A : List Addr} (h : x.per = true) : OF K Hk H x v A ↔ A = [] ∧ RV K Hk x v := by
  cases x <;> first | (simp [MV.per] at h; done) | (unfold OF; rfl)
theorem OV.per {K : PySem.W.Frag} {Hk H : Hp} {x : MV} {v : V} {A : List Addr} (h : x.per = true) : OV K Hk H x v A ↔ A = [] ∧ RV K Hk x v := by
  cases x <;> first | (simp [MV.per] at h; done) | (unfold OV OF; rfl)
theorem OV.own {K : PySem.W.Frag} {Hk H : Hp} {xs : List MV} {v : V} {A : List Addr} : OV K Hk H (.own xs) v A ↔ ∃ p vs, v = .ref p ∧ A = [p] ∧ H p = some (.lst vs) ∧ RVs K Hk xs vs := by
  unfold OV OF; rfl
theorem RV.isper {K : PySem.W.Frag} {H : Hp} {x : MV} {v : V} (h : RV K H x v) : x.per = true := by
  cases x <;> first | rfl | (unfold RV at h; exact h.elim)
theorem RV.ov {K : PySem.W.Frag} {Hk H : Hp} {x : MV} {v : V} (h : RV K Hk x v) : OV K Hk H x v [] := (OV.per h.isper).mpr ⟨rfl, h⟩
theorem OF.move {K : PySem.W.Frag} {Hk Hk' H H' : Hp} {x : MV} {v : V} {A : List Addr} (h : OF K Hk H x v A) (e : Ex Hk Hk') (k : ∀ a ∈ A, ∀ o, H a = some o → H' a = some o) : OF K Hk' H' x v A := by
  cases x with
  | own xs =>
    unfold OF at h ⊢
    obtain ⟨p, vs, e1, e2, e3, e4⟩ := h
    exact ⟨p, vs, e1, e2, k p (by rw [e2]; simp) _ e3, e4.mono e⟩
  | dow ks xs =>
    unfold OF at h ⊢
    obtain ⟨p, vs, e1, e2, e3, e5, e4⟩ := h
    exact ⟨p, vs, e1, e2, k p (by rw [e2]; simp) _ e3, e5, e4.mono e⟩
  | dot ks xs =>
    unfold OF at h ⊢
    obtain ⟨p, vs, e1, e2, e3, e5, e4⟩ := h
    exact ⟨p, vs, e1, e2, k p (by rw [e2]; simp) _ e3, e5, e4.mono e⟩
  | obj C fs => exact (show False by unfold OF at h; unfold RV at h; exact h.2).elim
  | _ =>
    unfold OF at h ⊢
    exact ⟨h.1, RV.mono e _ _ h.2⟩
theorem OFs.move {K : PySem.W.Frag} {Hk Hk' H H' : Hp} : ∀ {fs : List (Str × MV)} {vs : List (Str × V)} {A : List Addr}, OFs K Hk H fs vs A → Ex Hk Hk' → (∀ a ∈ A, ∀ o, H a = some o → H' a = some o) → OFs K Hk' H' fs vs A
  | [], _, _, h, _, _ => h
  | (n, x) :: fs, vs, A, h, e, k => by
    obtain ⟨v, r, B, C, e1, e2, h1, h2⟩ := h
    refine ⟨v, r, B, C, e1, e2, h1.move e fun a ha => k a (by rw [e2]; exact List.mem_append_left _ ha), OFs.move h2 e fun a ha => k a (by rw [e2]; exact List.mem_append_right _ ha)⟩
theorem OV.move {K : PySem.W.Frag} {Hk Hk' H H' : Hp} {x : MV} {v : V} {A : List Addr} (h : OV K Hk H x v A) (e : Ex Hk Hk') (k : ∀ a ∈ A, ∀ o, H a = some o → H' a = some o) : OV K Hk' H' x v A := by
  cases x with
  | obj C fs =>
    unfold OV at h ⊢
    obtain ⟨p, CA, dx, vfs, B, e1, e2, e0, e3, e4, e5⟩ := h
    exact ⟨p, CA, dx, vfs, B, e1, e2, e0, k p (by rw [e2]; simp) _ e3, OFs.move e4 e fun a ha => k a (by rw [e2]; exact List.mem_cons_of_mem _ ha), e5⟩
  | _ => (unfold OV at h ⊢; exact OF.move h e k)
theorem OF.there {K : PySem.W.Frag} {Hk H : Hp} {x : MV} {v : V} {A : List Addr} (h : OF K Hk H x v A) : ∀ a ∈ A, ∃ o, H a = some o := by
  cases x with
  | own xs =>
    unfold OF at h
    obtain ⟨p, vs, e1, e2, e3, e4⟩ := h
    intro a ha
    rw [e2] at ha
    simp at ha
    subst ha
    exact ⟨_, e3⟩
  | dow ks xs =>
    unfold OF at h
    obtain ⟨p, vs, e1, e2, e3, e5, e4⟩ := h
    intro a ha
    rw [e2] at ha
    simp at ha
    subst ha
    exact ⟨_, e3⟩
  | dot ks xs =>
    unfold OF at h
    obtain ⟨p, vs, e1, e2, e3, e5, e4⟩ := h
    intro a ha
    rw [e2] at ha
    simp at ha
    subst ha
    exact ⟨_, e3⟩
  | _ =>
    unfold OF at h
    intro a ha
    rw [h.1] at ha
    cases ha
theorem OFs.there {K : PySem.W.Frag} {Hk H : Hp} : ∀ {fs : List (Str × MV)} {vs : List (Str × V)} {A : List Addr}, OFs K Hk H fs vs A → ∀ a ∈ A, ∃ o, H a = some o
  | [], _, _, h, a, ha => by rw [h.2] at ha; cases ha
  | (n, x) :: fs, vs, A, h, a, ha => by
    obtain ⟨v, r, B, C, e1, e2, h1, h2⟩ := h
    rw [e2] at ha
    rcases List.mem_append.mp ha with ha | ha
    · exact h1.there a ha
    · exact OFs.there h2 a ha
theorem OV.there {K : PySem.W.Frag} {Hk H : Hp} {x : MV} {v : V} {A : List Addr} (h : OV K Hk H x v A) : ∀ a ∈ A, ∃ o, H a = some o := by
  cases x with
  | obj C fs =>
    unfold OV at h
    obtain ⟨p, CA, dx, vfs, B, e1, e2, e0, e3, e4, e5⟩ := h
    intro a ha
    rw [e2] at ha
    rcases List.mem_cons.mp ha with rfl | ha
    · exact ⟨_, e3⟩
    · exact OFs.there e4 a ha
  | _ => (unfold OV at h; exact OF.there h)
def put (ow : Nat → List Addr) (i : Nat) (A : List Addr) : Nat → List Addr := fun j => if j = i then A else ow j
theorem put_same {ow : Nat → List Addr} {i : Nat} {A : List Addr} : put ow i A i = A := if_pos rfl
theorem put_ne {ow : Nat → List Addr} {i j : Nat} {A : List Addr} (h : j ≠ i) : put ow i A j = ow j := if_neg h
structure SL (K : PySem.W.Frag) (F Hk H : Hp) (ow : Nat → List Addr) (σ : St) (ρ : Env) : Prop where
  s : ∀ (i : Nat) x, ρ[i]? = some (some x) → ∃ v, σ[i]? = some (some v) ∧ OV K Hk H x v (ow i)
  f : ∀ i a, a ∈ ow i → Hk a = none ∧ F a = none ∧ ∃ o, H a = some o
  w : ∀ i, ow i ≠ [] → i < ρ.length
  d : ∀ i j a, i ≠ j → a ∈ ow i → a ∉ ow j
structure RS (K : PySem.W.Frag) (F Hk H : Hp) (bp : List (Nat × Addr)) (σ : St) (ρ : Env) : Prop where
  len : σ.length = ρ.length
  ex : Ex Hk H
  fr : Ex F H
  frk : ∀ a o, F a = some o → Hk a = none
  ow : ∃ ow, SL K F Hk H ow σ ρ
  bor : ∀ q ∈ bp, σ[q.1]? = some (some (.ref q.2))
theorem set_get {α : Type} {l : List α} {i j : Nat} {x y : α} (h : (l.set i x)[j]? = some y) : (j = i ∧ y = x) ∨ (j ≠ i ∧ l[j]? = some y) := by
  by_cases e : i = j
  · subst e
    rw [List.getElem?_set] at h
    simp at h
    exact .inl ⟨rfl, h.2.symm⟩
  · rw [List.getElem?_set_ne e] at h
    exact .inr ⟨fun q => e q.symm, h⟩
theorem app_get {α : Type} {l : List α} {j : Nat} {x y : α} (h : (l ++ [x])[j]? = some y) : (j = l.length ∧ y = x) ∨ (j < l.length ∧ l[j]? = some y) := by
  by_cases e : j < l.length
  · rw [List.getElem?_append_left e] at h; exact .inr ⟨e, h⟩
  · rw [List.getElem?_append_right (Nat.le_of_not_lt e)] at h
    have := (List.getElem?_eq_some_iff.mp h).1
    simp at this
    have ej : j = l.length := by omega
    subst ej
    simp at h
    exact .inl ⟨rfl, h.symm⟩
theorem lt_get {α : Type} {l : List α} {j : Nat} {y : α} (h : l[j]? = some y) : j < l.length := (List.getElem?_eq_some_iff.mp h).1
section
variable {K : PySem.W.Frag} {F Hk Hk' H H' : Hp} {bp : List (Nat × Addr)} {σ : St} {ρ : Env} {ow : Nat → List Addr}
theorem SL.out (S : SL K F Hk H ow σ ρ) {i : Nat} (h : ρ.length ≤ i) : ow i = [] := by
  cases e : ow i with
  | nil => rfl
  | cons a r => exact absurd (S.w i (by rw [e]; simp)) (by omega)
theorem SL.fresh (S : SL K F Hk H ow σ ρ) {p : Addr} (h : H p = none) (i : Nat) : p ∉ ow i := fun m => by
  obtain ⟨_, _, o, e⟩ := S.f i p m
  rw [h] at e; cases e
theorem SL.step (S : SL K F Hk H ow σ ρ) (e : Ex Hk Hk') (k : ∀ i, ∀ a ∈ ow i, H' a = H a ∧ Hk' a = none) : SL K F Hk' H' ow σ ρ := by
  refine ⟨fun i x h => ?_, fun i a h => ?_, S.w, S.d⟩
  · obtain ⟨v, ev, o⟩ := S.s i x h
    exact ⟨v, ev, o.move e fun a ha u hu => by rw [(k i a ha).1]; exact hu⟩
  · obtain ⟨f1, f2, o, f3⟩ := S.f i a h
    exact ⟨(k i a h).2, f2, o, by rw [(k i a h).1]; exact f3⟩
theorem SL.set (S : SL K F Hk H ow σ ρ) (hl : σ.length = ρ.length) {i : Nat} {x : MV} {v : V} (hi : i < ρ.length) (r : RV K Hk x v) : SL K F Hk H (put ow i []) (σ.set i (some v)) (ρ.set i (some x)) := by
  refine ⟨fun j y h => ?_, fun j a h => ?_, fun j h => ?_, fun j k a hjk h => ?_⟩
  · rcases set_get h with ⟨rfl, e⟩ | ⟨ne, e⟩
    · cases e
      refine ⟨v, by rw [List.getElem?_set_self (by rw [hl]; exact hi)], ?_⟩
      rw [put_same]; exact r.ov
    · obtain ⟨u, e1, e2⟩ := S.s j y e
      exact ⟨u, by rw [List.getElem?_set_ne (Ne.symm ne)]; exact e1, by rw [put_ne ne]; exact e2⟩
  · by_cases e : j = i
    · rw [e, put_same] at h; cases h
    · rw [put_ne e] at h; exact S.f j a h
  · by_cases e : j = i
    · rw [e, put_same] at h; exact (h rfl).elim
    · rw [put_ne e] at h; rw [List.length_set]; exact S.w j h
  · by_cases e : j = i
    · rw [e, put_same] at h; cases h
    · rw [put_ne e] at h
      by_cases e2 : k = i
      · rw [e2, put_same]; simp
      · rw [put_ne e2]; exact S.d j k a hjk h
theorem SL.push (S : SL K F Hk H ow σ ρ) (hl : σ.length = ρ.length) {x : MV} {v : V} {A : List Addr} (o : OV K Hk H x v A) (hf : ∀ a ∈ A, Hk a = none ∧ F a = none) (hd : ∀ i, ∀ a ∈ A, a ∉ ow i) :
    SL K F Hk H (put ow ρ.length A) (σ ++ [some v]) (ρ ++ [some x]) := by
  refine ⟨fun j y h => ?_, fun j a h => ?_, fun j h => ?_, fun j k a hjk h => ?_⟩
  · rcases app_get h with ⟨rfl, e⟩ | ⟨lt, e⟩
    · cases e
      refine ⟨v, by rw [← hl]; simp, ?_⟩
      rw [put_same]; exact o
    · obtain ⟨u, e1, e2⟩ := S.s j y e
      exact ⟨u, by rw [List.getElem?_append_left (by rw [hl]; exact lt)]; exact e1, by rw [put_ne (Nat.ne_of_lt lt)]; exact e2⟩
  · by_cases e : j = ρ.length
    · rw [e, put_same] at h; exact ⟨(hf a h).1, (hf a h).2, o.there a h⟩
    · rw [put_ne e] at h; exact S.f j a h
  · by_cases e : j = ρ.length
    · rw [e]; simp
    · rw [put_ne e] at h; have := S.w j h; simp; omega
  · by_cases e : j = ρ.length
    · rw [e, put_same] at h
      rw [put_ne (fun z => hjk (e.trans z.symm))]
      exact hd k a h
    · rw [put_ne e] at h
      by_cases e2 : k = ρ.length
      · rw [e2, put_same]; exact fun z => hd j a z h
      · rw [put_ne e2]; exact S.d j k a hjk h
theorem SL.take (S : SL K F Hk H ow (σ ++ [some v]) (ρ ++ [some x])) (hl : σ.length = ρ.length) {i : Nat} (hi : i < ρ.length) : SL K F Hk H (put (put ow i (ow ρ.length)) ρ.length []) (σ.set i (some v)) (ρ.set i (some x)) := by
  have ne : i ≠ ρ.length := Nat.ne_of_lt hi
  obtain ⟨u, hu, ou⟩ := S.s ρ.length x (by simp)
  have ev : u = v := by rw [← hl] at hu; simpa using hu.symm
  subst ev
  have lt : ∀ j a, a ∈ put (put ow i (ow ρ.length)) ρ.length [] j → (j = i ∧ a ∈ ow ρ.length) ∨ (j ≠ i ∧ j < ρ.length ∧ a ∈ ow j) := fun j a h => by
    by_cases e : j = ρ.length
    · rw [e, put_same] at h; cases h
    · rw [put_ne e] at h
      by_cases e2 : j = i
      · rw [e2, put_same] at h; exact .inl ⟨e2, h⟩
      · rw [put_ne e2] at h
        have := S.w j (by intro z; rw [z] at h; cases h)
        simp at this
        exact .inr ⟨e2, by omega, h⟩
  refine ⟨fun j y h => ?_, fun j a h => ?_, fun j h => ?_, fun j k a hjk h => ?_⟩
  · rcases set_get h with ⟨rfl, e⟩ | ⟨ne2, e⟩
    · cases e
      refine ⟨u, by rw [List.getElem?_set_self (by rw [hl]; exact hi)], ?_⟩
      rw [put_ne ne, put_same]; exact ou
    · have lj := lt_get e
      obtain ⟨w, e1, e2⟩ := S.s j y (by rw [List.getElem?_append_left lj]; exact e)
      rw [List.getElem?_append_left (by rw [hl]; exact lj)] at e1
      exact ⟨w, by rw [List.getElem?_set_ne (Ne.symm ne2)]; exact e1, by rw [put_ne (Nat.ne_of_lt lj), put_ne ne2]; exact e2⟩
  · rcases lt j a h with ⟨_, m⟩ | ⟨_, _, m⟩
    · exact S.f _ a m
    · exact S.f _ a m
  · rw [List.length_set]
    cases e : put (put ow i (ow ρ.length)) ρ.length [] j with
    | nil => exact (h e).elim
    | cons a r =>
      rcases lt j a (by rw [e]; simp) with ⟨e, _⟩ | ⟨_, l, _⟩
      · rw [e]; exact hi
      · exact l
  · intro hk
    rcases lt j a h with ⟨e1, m⟩ | ⟨e1, l1, m⟩ <;> rcases lt k a hk with ⟨e2, m2⟩ | ⟨e2, l2, m2⟩
    · exact hjk (e1.trans e2.symm)
    · exact S.d ρ.length k a (by omega) m m2
    · exact S.d j ρ.length a (by omega) m m2
    · exact S.d j k a hjk m m2
theorem SL.drop (S : SL K F Hk H ow (σ ++ [y]) (ρ ++ [x])) (hl : σ.length = ρ.length) : SL K F Hk H (put ow ρ.length []) σ ρ := by
  refine ⟨fun j y h => ?_, fun j a h => ?_, fun j h => ?_, fun j k a hjk h => ?_⟩
  · have lj := lt_get h
    obtain ⟨w, e1, e2⟩ := S.s j y (by rw [List.getElem?_append_left lj]; exact h)
    rw [List.getElem?_append_left (by rw [hl]; exact lj)] at e1
    exact ⟨w, e1, by rw [put_ne (Nat.ne_of_lt lj)]; exact e2⟩
  · by_cases e : j = ρ.length
    · rw [e, put_same] at h; cases h
    · rw [put_ne e] at h; exact S.f j a h
  · by_cases e : j = ρ.length
    · rw [e, put_same] at h; exact (h rfl).elim
    · rw [put_ne e] at h; have := S.w j h; simp at this; omega
  · by_cases e : j = ρ.length
    · rw [e, put_same] at h; cases h
    · rw [put_ne e] at h
      by_cases e2 : k = ρ.length
      · rw [e2, put_same]; simp
      · rw [put_ne e2]; exact S.d j k a hjk h
theorem RS.get (S : RS K F Hk H bp σ ρ) {i : Nat} {x : MV} (h : ρ[i]? = some (some x)) (hp : x.per = true) : ∃ v, σ[i]? = some (some v) ∧ RV K Hk x v := by
  obtain ⟨ow, s⟩ := S.ow
  obtain ⟨v, e, o⟩ := s.s i x h
  exact ⟨v, e, ((OV.per hp).mp o).2⟩
theorem RS.getOwn (S : RS K F Hk H bp σ ρ) {i : Nat} {xs : List MV} (h : ρ[i]? = some (some (.own xs))) : ∃ p vs, σ[i]? = some (some (.ref p)) ∧ H p = some (.lst vs) ∧ RVs K Hk xs vs ∧ Hk p = none ∧ F p = none := by
  obtain ⟨ow, s⟩ := S.ow
  obtain ⟨v, e, o⟩ := s.s i _ h
  obtain ⟨p, vs, e1, e2, e3, e4⟩ := OV.own.mp o
  have m : p ∈ ow i := by rw [e2]; simp
  exact ⟨p, vs, by rw [e, e1], e3, e4, (s.f i p m).1, (s.f i p m).2.1⟩
theorem RS.step (S : RS K F Hk H bp σ ρ) (e : Ex Hk Hk') (e' : Ex Hk' H') (k : ∀ a o, Hk a = none → H a = some o → H' a = some o ∧ Hk' a = none) : RS K F Hk' H' bp σ ρ := by
  obtain ⟨ow, s⟩ := S.ow
  refine ⟨S.len, e', fun a o h => (k a o (S.frk a o h) (S.fr a o h)).1, fun a o h => (k a o (S.frk a o h) (S.fr a o h)).2, ⟨ow, s.step e fun i a h => ?_⟩, S.bor⟩
  obtain ⟨f1, _, o, f2⟩ := s.f i a h
  exact ⟨((k a o f1 f2).1).trans f2.symm, (k a o f1 f2).2⟩
theorem RS.new (S : RS K F Hk H bp σ ρ) {p : Addr} {o : HO} (h : H p = none) : RS K F (upd Hk p o) (upd H p o) bp σ ρ :=
  S.step (Ex.new (S.ex.back h)) (S.ex.both h) fun a u hk ha => by
    have ne := ne_of_none ha h
    rw [upd_ne ne, upd_ne ne]
    exact ⟨ha, hk⟩
theorem RS.more (S : RS K F Hk H bp σ ρ) {p : Addr} {o : HO} (h : H p = none) : RS K F Hk (upd H p o) bp σ ρ :=
  S.step (Ex.refl _) (S.ex.mut (S.ex.back h)) fun a u hk ha => by
    rw [upd_ne (ne_of_none ha h)]
    exact ⟨ha, hk⟩
theorem RS.set (S : RS K F Hk H bp σ ρ) {i : Nat} {x : MV} {v : V} (hi : i < ρ.length) (r : RV K Hk x v) (hb : ∀ q ∈ bp, q.1 ≠ i) : RS K F Hk H bp (σ.set i (some v)) (ρ.set i (some x)) := by
  obtain ⟨ow, s⟩ := S.ow
  exact ⟨by simp [S.len], S.ex, S.fr, S.frk, ⟨_, s.set S.len hi r⟩, fun q hq => by rw [List.getElem?_set_ne (Ne.symm (hb q hq))]; exact S.bor q hq⟩
theorem RS.bor_app (S : RS K F Hk H bp σ ρ) (y : Option V) : ∀ q ∈ bp, (σ ++ [y])[q.1]? = some (some (.ref q.2)) := fun q hq => by
  have q1 := S.bor q hq
  rw [List.getElem?_append_left (lt_get q1)]; exact q1
theorem RS.push (S : RS K F Hk H bp σ ρ) {x : MV} {v : V} (r : RV K Hk x v) : RS K F Hk H bp (σ ++ [some v]) (ρ ++ [some x]) := by
  obtain ⟨ow, s⟩ := S.ow
  exact ⟨by simp [S.len], S.ex, S.fr, S.frk, ⟨_, s.push S.len r.ov (fun _ h => nomatch h) (fun _ _ h => nomatch h)⟩, S.bor_app _⟩
theorem RS.pushOwn (S : RS K F Hk H bp σ ρ) {p : Addr} {xs : List MV} {vs : List V} (h : H p = none) (r : RVs K Hk xs vs) : RS K F Hk (upd H p (.lst vs)) bp (σ ++ [some (.ref p)]) (ρ ++ [some (.own xs)]) := by
  obtain ⟨ow, s⟩ := S.ow
  have S' := S.more (o := .lst vs) h
  have s' : SL K F Hk (upd H p (.lst vs)) ow σ ρ := s.step (Ex.refl _) fun i a ha => by
    obtain ⟨f1, f2, o, f3⟩ := s.f i a ha
    exact ⟨upd_ne (ne_of_none f3 h), f1⟩
  have fp : F p = none := by
    cases e : F p with
    | none => rfl
    | some o => have := S.fr p o e; rw [h] at this; cases this
  refine ⟨by simp [S.len], S'.ex, S'.fr, S'.frk, ⟨_, s'.push S.len (A := [p]) (OV.own.mpr ⟨p, vs, rfl, rfl, upd_same, r⟩) (fun a ha => ?_) (fun i a ha => ?_)⟩, S.bor_app _⟩
  · simp at ha; subst ha; exact ⟨S.ex.back h, fp⟩
  · simp at ha; subst ha; exact s.fresh h i
theorem RS.take {v : V} {x : MV} (S : RS K F Hk H bp (σ ++ [some v]) (ρ ++ [some x])) {i : Nat} (hi : i < ρ.length) (hb : ∀ q ∈ bp, q.1 ≠ i ∧ q.1 < ρ.length) : RS K F Hk H bp (σ.set i (some v)) (ρ.set i (some x)) := by
  obtain ⟨ow, s⟩ := S.ow
  have hl : σ.length = ρ.length := by have := S.len; simpa using this
  refine ⟨by simp [hl], S.ex, S.fr, S.frk, ⟨_, s.take hl hi⟩, fun q hq => ?_⟩
  have q1 := S.bor q hq
  rw [List.getElem?_append_left (by rw [hl]; exact (hb q hq).2)] at q1
  rw [List.getElem?_set_ne (Ne.symm (hb q hq).1)]; exact q1
theorem RS.drop {y : Option V} {x : Option MV} (S : RS K F Hk H bp (σ ++ [y]) (ρ ++ [x])) (hb : ∀ q ∈ bp, q.1 < ρ.length) : RS K F Hk H bp σ ρ := by
  obtain ⟨ow, s⟩ := S.ow
  have hl : σ.length = ρ.length := by have := S.len; simpa using this
  refine ⟨hl, S.ex, S.fr, S.frk, ⟨_, s.drop hl⟩, fun q hq => ?_⟩
  have q1 := S.bor q hq
  rw [List.getElem?_append_left (by rw [hl]; exact hb q hq)] at q1
  exact q1
theorem RS.freeze (S : RS K F Hk H bp σ ρ) {i : Nat} {xs : List MV} (h : ρ[i]? = some (some (.own xs))) :
    ∃ p vs, σ[i]? = some (some (.ref p)) ∧ Ex Hk (upd Hk p (.lst vs)) ∧ RV K (upd Hk p (.lst vs)) (.lst xs) (.ref p) ∧ RS K F (upd Hk p (.lst vs)) H bp σ (ρ.set i (some (.lst xs))) := by
  obtain ⟨ow, s⟩ := S.ow
  obtain ⟨v, ev, o⟩ := s.s i _ h
  obtain ⟨p, vs, e1, e2, e3, e4⟩ := OV.own.mp o
  have m : p ∈ ow i := by rw [e2]; simp
  obtain ⟨f1, f2, _⟩ := s.f i p m
  have ex : Ex Hk (upd Hk p (.lst vs)) := Ex.new f1
  have rv : RV K (upd Hk p (.lst vs)) (.lst xs) (.ref p) := RV.lst.mpr ⟨p, vs, rfl, upd_same, e4.mono ex⟩
  have li := lt_get h
  refine ⟨p, vs, by rw [ev, e1], ex, rv, by simp [S.len], S.ex.updL e3, S.fr, fun a u ha => ?_, ⟨put ow i [], ?_⟩, S.bor⟩
  · rw [upd_ne (ne_of_none ha f2)]; exact S.frk a u ha
  · refine ⟨fun j y hj => ?_, fun j a hj => ?_, fun j hj => ?_, fun j k a hjk hj => ?_⟩
    · rcases set_get hj with ⟨rfl, e⟩ | ⟨ne, e⟩
      · cases e
        exact ⟨v, ev, by rw [put_same, e1]; exact rv.ov⟩
      · obtain ⟨u, u1, u2⟩ := s.s j y e
        exact ⟨u, u1, by rw [put_ne ne]; exact u2.move ex fun _ _ _ z => z⟩
    · by_cases e : j = i
      · rw [e, put_same] at hj; cases hj
      · rw [put_ne e] at hj
        obtain ⟨g1, g2⟩ := s.f j a hj
        refine ⟨?_, g2⟩
        rw [upd_ne (fun z => s.d j i a e hj (by rw [z]; exact m))]; exact g1
    · by_cases e : j = i
      · rw [e, put_same] at hj; exact (hj rfl).elim
      · rw [put_ne e] at hj; rw [List.length_set]; exact s.w j hj
    · by_cases e : j = i
      · rw [e, put_same] at hj; cases hj
      · rw [put_ne e] at hj
        by_cases e2 : k = i
        · rw [e2, put_same]; simp
        · rw [put_ne e2]; exact s.d j k a hjk hj
theorem RS.change (S : RS K F Hk H bp σ ρ) {i : Nat} {xs ys : List MV} (h : ρ[i]? = some (some (.own xs))) :
    ∃ p vs, σ[i]? = some (some (.ref p)) ∧ H p = some (.lst vs) ∧ RVs K Hk xs vs ∧ ∀ ws, RVs K Hk ys ws → RS K F Hk (upd H p (.lst ws)) bp σ (ρ.set i (some (.own ys))) := by
  obtain ⟨ow, s⟩ := S.ow
  obtain ⟨v, ev, o⟩ := s.s i _ h
  obtain ⟨p, vs, e1, e2, e3, e4⟩ := OV.own.mp o
  have m : p ∈ ow i := by rw [e2]; simp
  obtain ⟨f1, f2, _⟩ := s.f i p m
  refine ⟨p, vs, by rw [ev, e1], e3, e4, fun ws r => ⟨by simp [S.len], S.ex.mut f1, S.fr.mut f2, S.frk, ⟨ow, ?_⟩, S.bor⟩⟩
  refine ⟨fun j y hj => ?_, fun j a hj => ?_, fun j hj => by rw [List.length_set]; exact s.w j hj, s.d⟩
  · rcases set_get hj with ⟨rfl, e⟩ | ⟨ne, e⟩
    · cases e
      exact ⟨v, ev, OV.own.mpr ⟨p, ws, e1, e2, upd_same, r⟩⟩
    · obtain ⟨u, u1, u2⟩ := s.s j y e
      exact ⟨u, u1, u2.move (Ex.refl _) fun a ha o ho => by rw [upd_ne (fun z => s.d j i a ne ha (by rw [z]; exact m))]; exact ho⟩
  · obtain ⟨g1, g2, o, g3⟩ := s.f j a hj
    by_cases e : a = p
    · subst e; exact ⟨g1, g2, _, upd_same⟩
    · exact ⟨g1, g2, o, by rw [upd_ne e]; exact g3⟩
end
end Tm
set_option Elab.async false
set_option linter.all false
set_option maxRecDepth 100000
set_option maxHeartbeats 2000000
namespace Tm
open PySem L2
open Evl (Ex ex_rd ex_l ex_t)
structure Ct where
  K : PySem.W.Frag
  mg : Str → Option Value
  W : WX
  bs : List Nat
  J : Hp → List (Nat × Addr) → Prop
  Jm : ∀ F F1 bp, Ex F F1 → J F bp → J F1 bp
def XFs (K : PySem.W.Frag) (H : Hp) : List (Str × MV) → List (Str × V) → Prop
  | [], vs => vs = []
  | (n, x) :: xs, vs => ∃ v r, vs = (n, v) :: r ∧ RV K H x v ∧ XFs K H xs r
def ExR (K : PySem.W.Frag) (mg : Str → Option Value) (H : Hp) (e : MX) (cls : Value) (d : Option Addr) : Prop :=
  ∃ C, mg e.cls = some (.ref C) ∧ cls = .ref C ∧ ((e.fs = [] ∧ d = none) ∨ ∃ dx vfs, d = some dx ∧ H dx = some (.xd vfs) ∧ XFs K H e.fs vfs)
theorem XFs.mono {K : PySem.W.Frag} {H H' : Hp} (e : Ex H H') : ∀ {xs : List (Str × MV)} {vs : List (Str × V)}, XFs K H xs vs → XFs K H' xs vs
  | [], _, h => h
  | (n, x) :: xs, vs, h => by
    obtain ⟨v, r, e1, e2, e3⟩ := h
    exact ⟨v, r, e1, RV.mono e _ _ e2, XFs.mono e e3⟩
theorem ExR.mono {K : PySem.W.Frag} {mg : Str → Option Value} {H H' : Hp} {e : MX} {cls : Value} {d : Option Addr} (x : Ex H H') (h : ExR K mg H e cls d) : ExR K mg H' e cls d := by
  obtain ⟨C, h1, h2, h3⟩ := h
  refine ⟨C, h1, h2, ?_⟩
  rcases h3 with h3 | ⟨dx, vfs, a, b, c⟩
  · exact .inl h3
  · exact .inr ⟨dx, vfs, a, x _ _ b, c.mono x⟩
abbrev ME := Env → Res (MV × Env)
abbrev MT := Env → Res (Bool × Env)
abbrev MA := Env → Res (List MV × Env)
abbrev MS := Env → Res (Fl × Env)
def Wish (c : Ct) (F Hk : Hp) (bp : List (Nat × Addr)) (σ : St) (e : MX) (ρ : Env) : Prop :=
  ∀ Hk' H' cls d, Ex Hk Hk' → RS c.K F Hk' H' bp σ ρ → ExR c.K c.mg Hk' e cls d → c.W cls d σ H'
def okE (c : Ct) (F Hk : Hp) (bp : List (Nat × Addr)) (σ : St) (Q : VK) : Res (MV × Env) → Prop
  | .ok (x, ρ') => ∀ Hk' H' v, Ex Hk Hk' → RS c.K F Hk' H' bp σ ρ' → RV c.K Hk' x v → Q v H'
  | .exc e ρ' => Wish c F Hk bp σ e ρ'
  | .stuck => False
def okO (c : Ct) (F Hk : Hp) (bp : List (Nat × Addr)) (σ : St) (Q : VK) : Res (MV × Env) → Prop
  | .ok (x, ρ') => ∀ Hk' H' v, Ex Hk Hk' → RS c.K F Hk' H' bp (σ ++ [some v]) (ρ' ++ [some x]) → Q v H'
  | .exc e ρ' => Wish c F Hk bp σ e ρ'
  | .stuck => False
def okT (c : Ct) (F Hk : Hp) (bp : List (Nat × Addr)) (σ : St) (Q : Bool → Hp → Prop) : Res (Bool × Env) → Prop
  | .ok (x, ρ') => ∀ Hk' H', Ex Hk Hk' → RS c.K F Hk' H' bp σ ρ' → Q x H'
  | .exc e ρ' => Wish c F Hk bp σ e ρ'
  | .stuck => False
def okA (c : Ct) (F Hk : Hp) (bp : List (Nat × Addr)) (σ : St) (Q : List V → Hp → Prop) : Res (List MV × Env) → Prop
  | .ok (xs, ρ') => ∀ Hk' H' vs, Ex Hk Hk' → RS c.K F Hk' H' bp σ ρ' → RVs c.K Hk' xs vs → Q vs H'
  | .exc e ρ' => Wish c F Hk bp σ e ρ'
  | .stuck => False
def okS (c : Ct) (F Hk : Hp) (bp : List (Nat × Addr)) (D : Ends) : Res (Fl × Env) → Prop
  | .ok (.nx, ρ') => ∀ Hk' H' σ', Ex Hk Hk' → RS c.K F Hk' H' bp σ' ρ' → D.nx σ' H'
  | .ok (.br, ρ') => ∀ Hk' H' σ', Ex Hk Hk' → RS c.K F Hk' H' bp σ' ρ' → D.bk σ' H'
  | .ok (.ct, ρ') => ∀ Hk' H' σ', Ex Hk Hk' → RS c.K F Hk' H' bp σ' ρ' → D.ct σ' H'
  | .ok (.rt x, ρ') => ∀ Hk' H' σ' v, Ex Hk Hk' → (∀ q ∈ bp, q.1 < σ'.length) → RS c.K F Hk' H' bp (σ' ++ [some v]) (ρ' ++ [some x]) → D.rt v H'
  | .exc e ρ' => ∀ Hk' H' σ' cls d, Ex Hk Hk' → RS c.K F Hk' H' bp σ' ρ' → ExR c.K c.mg Hk' e cls d → c.W cls d σ' H'
  | .stuck => False
def At (c : Ct) (F Hk H : Hp) (bp : List (Nat × Addr)) (σ : St) (ρ : Env) : Prop := RS c.K F Hk H bp σ ρ ∧ bp.map (·.1) = c.bs ∧ c.J F bp
def rdE (c : Ct) (m : ME) : TE := fun σ H Q => ∃ F Hk bp ρ, At c F Hk H bp σ ρ ∧ okE c F Hk bp σ Q (m ρ)
def rdO (c : Ct) (m : ME) : TE := fun σ H Q => ∃ F Hk bp ρ, At c F Hk H bp σ ρ ∧ okO c F Hk bp σ Q (m ρ)
def rdT (c : Ct) (m : MT) : TT := fun σ H Q => ∃ F Hk bp ρ, At c F Hk H bp σ ρ ∧ okT c F Hk bp σ Q (m ρ)
def rdA (c : Ct) (m : MA) : TA := fun σ H Q => ∃ F Hk bp ρ, At c F Hk H bp σ ρ ∧ okA c F Hk bp σ Q (m ρ)
def rdS (c : Ct) (m : MS) : TS := fun D σ H => ∃ F Hk bp ρ, At c F Hk H bp σ ρ ∧ okS c F Hk bp D (m ρ)
section
variable {c : Ct} {F Hk Hk' H H' : Hp} {bp : List (Nat × Addr)} {σ : St} {ρ : Env}
theorem Wish.mono {e : MX} (x : Ex Hk Hk') (h : Wish c F Hk bp σ e ρ) : Wish c F Hk' bp σ e ρ := fun Hk2 H2 cls d x2 => h Hk2 H2 cls d (x.trans x2)
theorem okE.mono {Q : VK} {r : Res (MV × Env)} (x : Ex Hk Hk') (h : okE c F Hk bp σ Q r) : okE c F Hk' bp σ Q r := by
  cases r with
  | ok a => exact fun Hk2 H2 v x2 => h Hk2 H2 v (x.trans x2)
  | exc e ρ => exact Wish.mono x h
  | stuck => exact h
theorem okO.mono {Q : VK} {r : Res (MV × Env)} (x : Ex Hk Hk') (h : okO c F Hk bp σ Q r) : okO c F Hk' bp σ Q r := by
  cases r with
  | ok a => exact fun Hk2 H2 v x2 => h Hk2 H2 v (x.trans x2)
  | exc e ρ => exact Wish.mono x h
  | stuck => exact h
theorem okT.mono {Q : Bool → Hp → Prop} {r : Res (Bool × Env)} (x : Ex Hk Hk') (h : okT c F Hk bp σ Q r) : okT c F Hk' bp σ Q r := by
  cases r with
  | ok a => exact fun Hk2 H2 x2 => h Hk2 H2 (x.trans x2)
  | exc e ρ => exact Wish.mono x h
  | stuck => exact h
theorem okA.mono {Q : List V → Hp → Prop} {r : Res (List MV × Env)} (x : Ex Hk Hk') (h : okA c F Hk bp σ Q r) : okA c F Hk' bp σ Q r := by
  cases r with
  | ok a => exact fun Hk2 H2 v x2 => h Hk2 H2 v (x.trans x2)
  | exc e ρ => exact Wish.mono x h
  | stuck => exact h
theorem okS.mono {D : Ends} {r : Res (Fl × Env)} (x : Ex Hk Hk') (h : okS c F Hk bp D r) : okS c F Hk' bp D r := by
  cases r with
  | ok a =>
    obtain ⟨f, ρ'⟩ := a
    cases f with
    | nx => exact fun Hk2 H2 σ' x2 => h Hk2 H2 σ' (x.trans x2)
    | br => exact fun Hk2 H2 σ' x2 => h Hk2 H2 σ' (x.trans x2)
    | ct => exact fun Hk2 H2 σ' x2 => h Hk2 H2 σ' (x.trans x2)
    | rt y => exact fun Hk2 H2 σ' v x2 => h Hk2 H2 σ' v (x.trans x2)
  | exc e ρ' => exact fun Hk2 H2 σ' cls d x2 => h Hk2 H2 σ' cls d (x.trans x2)
  | stuck => exact h
def Res.bind {α β : Type} (r : Res (α × Env)) (f : α → Env → Res (β × Env)) : Res (β × Env) :=
  match r with
  | .ok (x, ρ) => f x ρ
  | .exc e ρ => .exc e ρ
  | .stuck => .stuck
end
theorem PEw {X : Cx} {e : Expr} {t t' : TE} (h : PE X e t) (w : ∀ σ H Q, t' σ H Q → t σ H Q) : PE X e t' := ⟨fun pins s σ H Q I q => h.run pins s σ H Q I (w σ H Q q)⟩
theorem PTw {X : Cx} {e : Expr} {t t' : TT} (h : PT X e t) (w : ∀ σ H Q, t' σ H Q → t σ H Q) : PT X e t' := ⟨fun pins s σ H Q I q => h.run pins s σ H Q I (w σ H Q q)⟩
theorem PWw {X : Cx} {e : Expr} {t t' : TT} (h : PW X e t) (w : ∀ σ H Q, t' σ H Q → t σ H Q) : PW X e t' := ⟨fun wh pins s σ H Q I q => h.run wh pins s σ H Q I (w σ H Q q)⟩
theorem PAw {X : Cx} {e : List Expr} {t t' : TA} (h : PA X e t) (w : ∀ σ H Q, t' σ H Q → t σ H Q) : PA X e t' := ⟨fun pos pins s σ H Q I q => h.run pos pins s σ H Q I (w σ H Q q)⟩
theorem PSw {X : Cx} {e : Stmt} {t t' : TS} (h : PS X e t) (w : ∀ D σ H, t' D σ H → t D σ H) : PS X e t' := ⟨fun pins s σ H D I q => h.run pins s σ H D I (w D σ H q)⟩
theorem PSsw {X : Cx} {e : List Stmt} {t t' : TS} (h : PSs X e t) (w : ∀ D σ H, t' D σ H → t D σ H) : PSs X e t' := ⟨fun pins s σ H D I q => h.run pins s σ H D I (w D σ H q)⟩
section
variable {X : Cx} {c : Ct}
def mVar (i : Nat) : ME := fun ρ => match ρ[i]? with
  | some (some (.own xs)) => .ok (.lst xs, ρ.set i (some (.lst xs)))
  | some (some (.obj _ _)) => .stuck
  | some (some (.dow _ _)) => .stuck
  | some (some (.dot _ _)) => .stuck
  | some (some x) => .ok (x, ρ)
  | _ => .stuck
def mC (x : MV) : ME := fun ρ => .ok (x, ρ)
theorem rd_var {i : Nat} {σ : St} {H : Hp} {Q : VK} (h : rdE c (mVar i) σ H Q) : tVar i σ H Q := by
  obtain ⟨F, Hk, bp, ρ, ⟨S, _⟩, h⟩ := h
  have pl : ∀ x : MV, x.per = true → ρ[i]? = some (some x) → (∀ Hk' H' v, Ex Hk Hk' → RS c.K F Hk' H' bp σ ρ → RV c.K Hk' x v → Q v H') → tVar i σ H Q := fun x px e q => by
    obtain ⟨v, ev, r⟩ := S.get e px
    exact ⟨v, ev, q Hk H v (Ex.refl _) S r⟩
  unfold mVar at h
  split at h
  · rename_i xs e
    obtain ⟨p, vs, e1, ex, r, S'⟩ := S.freeze e
    exact ⟨_, e1, h _ _ _ ex S' r⟩
  · exact h.elim
  · exact h.elim
  · exact h.elim
  · rename_i x n1 n2 n3 n4 e
    refine pl x ?_ e h
    cases x <;> first | rfl | (exfalso; first | exact n1 _ rfl | exact n2 _ _ rfl | exact n3 _ _ rfl | exact n4 _ _ rfl)
  · exact h.elim
theorem me_var {i : Nat} {x : Str} {pos : Pos} (hN : X.N[i]? = some x) (hv : Vis X.env.scope x) (hd : (x == ("__debug__" : Str)) = false := by decide) (hcd : (x == ("__classdict__" : Str)) = false := by decide) : PE X (.Name x pos) (rdE c (mVar i)) :=
  PEw (pe_var hN hv hd hcd) fun _ _ _ h => rd_var h
theorem rd_c {x : MV} {v : V} (r : ∀ H, RV c.K H x v) {σ : St} {H : Hp} {Q : VK} (h : rdE c (mC x) σ H Q) : tC v σ H Q := by
  obtain ⟨F, Hk, bp, ρ, ⟨S, _⟩, h⟩ := h
  exact h Hk H v (Ex.refl _) S (r _)
theorem me_int {i j pos} : PE X (.Constant (.int i) j pos) (rdE c (mC (.int i))) := PEw pe_int fun _ _ _ h => rd_c (fun _ => RV.int.mpr rfl) h
theorem me_bl {b j pos} : PE X (.Constant (.bool b) j pos) (rdE c (mC (.bl b))) := PEw pe_bl fun _ _ _ h => rd_c (fun _ => RV.bl.mpr rfl) h
theorem me_non {j pos} : PE X (.Constant .none j pos) (rdE c (mC .non)) := PEw pe_non fun _ _ _ h => rd_c (fun _ => RV.non.mpr rfl) h
theorem me_str {x j pos} : PE X (.Constant (.str x) j pos) (rdE c (mC (.str x))) := PEw pe_str fun _ _ _ h => rd_c (fun _ => RV.str.mpr rfl) h
def mOp (f : MV → MV → Option MV) (a b : ME) : ME := fun ρ => (a ρ).bind fun x ρ1 => (b ρ1).bind fun y ρ2 => match f x y with | some z => .ok (z, ρ2) | none => .stuck
def OpS (K : PySem.W.Frag) (f : MV → MV → Option MV) (r : R2) : Prop := ∀ (x y z : MV) (v w : V) (Hk H : Hp) (Q : VK), f x y = some z → Ex Hk H → RV K Hk x v → RV K Hk y w → (∀ u, RV K Hk z u → Q u H) →
  (∀ p o, H p = none → RV K (upd Hk p o) z (.ref p) → Q (.ref p) (upd H p o)) → r v w H Q
theorem rd_op {f : MV → MV → Option MV} {r : R2} (o : OpS c.K f r) {a b : ME} {σ : St} {H : Hp} {Q : VK} (h : rdE c (mOp f a b) σ H Q) : tOp r (rdE c a) (rdE c b) σ H Q := by
  obtain ⟨F, Hk, bp, ρ, ⟨S, eb⟩, h⟩ := h
  refine ⟨F, Hk, bp, ρ, ⟨S, eb⟩, ?_⟩
  unfold mOp at h
  cases ea : a ρ with
  | stuck => rw [ea] at h; exact h.elim
  | exc e ρ' => rw [ea] at h; exact h
  | ok p =>
    obtain ⟨x, ρ1⟩ := p
    rw [ea] at h
    intro Hk1 H1 v x1 S1 r1
    refine ⟨F, Hk1, bp, ρ1, ⟨S1, eb⟩, ?_⟩
    have h : okE c F Hk bp σ Q ((b ρ1).bind fun y ρ2 => match f x y with | some z => .ok (z, ρ2) | none => .stuck) := h
    cases e2 : b ρ1 with
    | stuck => rw [e2] at h; exact h.elim
    | exc e ρ' => rw [e2] at h; exact Wish.mono x1 h
    | ok p =>
      obtain ⟨y, ρ2⟩ := p
      rw [e2] at h
      intro Hk2 H2 w x2 S2 r2
      have h : okE c F Hk bp σ Q (match f x y with | some z => .ok (z, ρ2) | none => .stuck) := h
      cases ez : f x y with
      | none => rw [ez] at h; exact h.elim
      | some z =>
        rw [ez] at h
        refine o x y z v w Hk2 H2 Q ez S2.ex (RV.mono x2 _ _ r1) r2 (fun u ru => h Hk2 H2 u (x1.trans x2) S2 ru) fun p ob hp ru => ?_
        exact h _ _ _ ((x1.trans x2).trans (Ex.new (S2.ex.back hp))) (S2.new hp) ru
theorem me_op {op : Operator} {f : MV → MV → Option MV} {r : R2} {a b : Expr} {ma mb : ME} {pos : Pos} (ho : OpR X (binaryOp op) r) (o : OpS c.K f r) (ha : PE X a (rdE c ma)) (hb : PE X b (rdE c mb)) : PE X (.BinOp a op b pos) (rdE c (mOp f ma mb)) :=
  PEw (pe_op ho ha hb) fun _ _ _ h => rd_op o h
theorem me_cmp {op : CmpOp} {f : MV → MV → Option MV} {r : R2} {a b : Expr} {ma mb : ME} {pos : Pos} (ho : OpR X (compareOp op) r) (o : OpS c.K f r) (ha : PE X a (rdE c ma)) (hb : PE X b (rdE c mb)) (hm : behindInMarks op b = false) : PE X (.Compare a [op] [b] pos) (rdE c (mOp f ma mb)) :=
  PEw (pe_cmpR ho ha hb hm) fun _ _ _ h => rd_op o h
end
end Tm
set_option Elab.async false
set_option linter.all false
set_option maxRecDepth 100000
set_option maxHeartbeats 2000000
namespace Tm
open PySem L2
open Evl (Ex ex_rd ex_l ex_t)
def szOk (n : Nat) : Bool := decide (n ≤ sizeLine)
def fAdd : MV → MV → Option MV
  | .int i, .int j => some (.int (i + j))
  | .int i, .bl b => some (.int (i + PyProof.Rows.b2i b))
  | .str a, .str b => if szOk (a.length + b.length) then some (.str (a ++ b)) else none
  | .lst a, .lst b => if szOk (a.length + b.length) then some (.lst (a ++ b)) else none
  | .tup a, .tup b => if szOk (a.length + b.length) then some (.tup (a ++ b)) else none
  | _, _ => none
def fSub : MV → MV → Option MV
  | .int i, .int j => some (.int (i - j))
  | _, _ => none
def mulOk (i j : Int) : Bool := (decide (-(2 ^ 64) < i) && decide (i < 2 ^ 64)) || (decide (-(2 ^ 64) < j) && decide (j < 2 ^ 64)) || decide (i.natAbs.log2 + j.natAbs.log2 < 1000000)
instance (i j : Int) : Decidable (CMulW i j) := inferInstanceAs (Decidable (i.natAbs.log2 + j.natAbs.log2 < 1000000))
def repS (a : Str) (k : Int) : Str := ⟨(List.replicate k.toNat a.cps.toList).flatten.toArray⟩
def fMul : MV → MV → Option MV
  | .int i, .int j => if mulOk i j then some (.int (i * j)) else none
  | .tup a, .int k => if decide (-(2 ^ 63) ≤ k) && decide (k < 2 ^ 63) && (decide (k = 1) || a.isEmpty || (decide (2 ≤ k) && decide (k ≤ 1000) && decide (a.length ≤ 1000))) then some (.tup (List.replicate k.toNat a).flatten) else none
  | .str a, .int k => if decide (-(2 ^ 63) ≤ k) && decide (k < 2 ^ 63) && szOk (a.length * k.toNat) then some (.str (repS a k)) else none
  | .lst a, .int k => if decide (-(2 ^ 63) ≤ k) && decide (k < 2 ^ 63) && szOk (a.length * k.toNat) then some (.lst (List.replicate k.toNat a).flatten) else none
  | _, _ => none
def divOk (j : Int) : Bool := (decide (j ≠ 0) && decide (j.natAbs < 1073741824)) || (decide (0 < j) && decide (j.natAbs.log2 < 9000))
def fDiv : MV → MV → Option MV
  | .int i, .int j => if divOk j then some (.int (i.fdiv j)) else none
  | _, _ => none
def fMod : MV → MV → Option MV
  | .int i, .int j => if decide (j ≠ 0) then some (.int (i.fmod j)) else none
  | _, _ => none
def fPow : MV → MV → Option MV
  | .int i, .int j => if decide (0 ≤ j) && decide (j ≤ 1000000) && decide (i.natAbs < 2 ^ 64) then some (.int (i ^ j.toNat)) else none
  | _, _ => none
def fLt : MV → MV → Option MV
  | .int i, .int j => some (.bl (decide (i < j)))
  | _, _ => none
def fLe : MV → MV → Option MV
  | .int i, .int j => some (.bl (decide (i ≤ j)))
  | _, _ => none
def fGt : MV → MV → Option MV
  | .int i, .int j => some (.bl (decide (j < i)))
  | _, _ => none
def fGe : MV → MV → Option MV
  | .int i, .int j => some (.bl (decide (j ≤ i)))
  | _, _ => none
def MV.isN : MV → Bool
  | .non => true
  | .raw w => decide (w = .non)
  | _ => false
def fIsN : MV → MV → Option MV
  | x, .non => some (.bl x.isN)
  | _, _ => none
def scalM : MV → MV → Bool
  | .non, .non => true | .non, .int _ => true | .int _, .non => true | .non, .bl _ => true | .bl _, .non => true | .non, .str _ => true | .str _, .non => true
  | .int _, .int _ => true | .bl _, .bl _ => true | .str _, .str _ => true
  | .int _, .str _ => true | .str _, .int _ => true | .bl _, .str _ => true | .str _, .bl _ => true
  | _, _ => false
def sameM : MV → MV → Bool
  | .non, .non => true
  | .int i, .int j => decide (i = j)
  | .bl i, .bl j => decide (i = j)
  | .str i, .str j => decide (i = j)
  | _, _ => false
mutual
def toD : MV → Option PyData
  | .non => some .none
  | .bl b => some (.bool b)
  | .int i => some (.int i)
  | .str x => some (.str x)
  | .tup xs => (toDs xs).map .tuple
  | .lst xs => (toDs xs).map .list
  | _ => none
def toDs : List MV → Option (List PyData)
  | [] => some []
  | x :: xs => match toD x, toDs xs with
    | some d, some ds => some (d :: ds)
    | _, _ => none
end
def eqM (x y : MV) : Option Bool :=
  if scalM x y then some (sameM x y) else
  match toD x, toD y with
  | some d, some e => if SeqAt.shaped d && SeqAt.shaped e then some (PyData.eqv d e) else none
  | _, _ => none
def fEq (x y : MV) : Option MV := (eqM x y).map .bl
def fNe (x y : MV) : Option MV := (eqM x y).map fun b => .bl (!b)
section
variable {K : PySem.W.Frag}
def rAddM (K : PySem.W.Frag) : R2 := fun x y H Q => (rI0 fun i j => .int (i + j)) x y H Q ∨ (∃ i k, x = .int i ∧ y = .bl k ∧ Q (.int (i + PyProof.Rows.b2i k)) H) ∨ (∃ i j, x = .str i ∧ y = .str j ∧ i.length + j.length ≤ sizeLine ∧ Q (.str (i ++ j)) H) ∨ rCat x y H Q ∨ rCatA K x y H Q
theorem op_addM {X : Cx} : OpR X (binaryOp .Add) (rAddM X.K) := OpR.or op_add (OpR.or op_add_ib (OpR.or op_add_str (OpR.or op_cat op_catA)))
theorem szOk_iff {n : Nat} : szOk n = true ↔ n ≤ sizeLine := by unfold szOk; simp
theorem os_add : OpS K fAdd (rAddM K) := by
  intro x y z v w Hk H Q e ex r1 r2 q qn
  unfold fAdd at e
  split at e
  · cases e
    exact .inl ⟨_, _, RV.int.mp r1, RV.int.mp r2, q _ (RV.int.mpr rfl)⟩
  · cases e
    exact .inr (.inl ⟨_, _, RV.int.mp r1, RV.bl.mp r2, q _ (RV.int.mpr rfl)⟩)
  · split at e
    · rename_i a b h
      cases e
      exact .inr (.inr (.inl ⟨_, _, RV.str.mp r1, RV.str.mp r2, szOk_iff.mp h, q _ (RV.str.mpr rfl)⟩))
    · cases e
  · split at e
    · rename_i a b h
      cases e
      obtain ⟨p1, vs, rfl, h1, s1⟩ := RV.lst.mp r1
      obtain ⟨p2, ws, rfl, h2, s2⟩ := RV.lst.mp r2
      refine .inr (.inr (.inr (.inl ⟨p1, p2, vs, ws, rfl, rfl, ex _ _ h1, ex _ _ h2, ?_, fun p hp => qn p _ hp ?_⟩)))
      · rw [s1.length, s2.length]; exact szOk_iff.mp h
      · have z := Ex.new (o := .lst (vs ++ ws)) (ex.back hp)
        exact RV.lst.mpr ⟨p, _, rfl, upd_same, (s1.append s2).mono z⟩
    · cases e
  · split at e
    · rename_i a b h
      cases e
      obtain ⟨p1, vs, rfl, h1, s1⟩ := RV.tup.mp r1
      obtain ⟨p2, ws, rfl, h2, s2⟩ := RV.tup.mp r2
      refine .inr (.inr (.inr (.inr ⟨p1, p2, vs, ws, rfl, rfl, ex_t ex h1, ex_t ex h2, ?_, fun e0 => ?_, fun e0 e1 => ?_, fun e0 e1 p hp => qn p _ hp ?_⟩)))
      · rw [s1.length, s2.length]; exact szOk_iff.mp h
      · have z := s1.append s2
        rw [e0, List.nil_append] at z
        exact q _ (RV.tup.mpr ⟨p2, ws, rfl, h2, z⟩)
      · have z := s1.append s2
        rw [e1, List.append_nil] at z
        exact q _ (RV.tup.mpr ⟨p1, vs, rfl, h1, z⟩)
      · have z := Ex.new (o := .tup (vs ++ ws)) (ex.back hp)
        exact RV.tup.mpr ⟨p, _, rfl, SqT.of upd_same, (s1.append s2).mono z⟩
    · cases e
  · cases e
theorem os_sub : OpS K fSub (rI0 fun i j => .int (i - j)) := by
  intro x y z v w Hk H Q e ex r1 r2 q qn
  unfold fSub at e
  split at e
  · cases e; exact ⟨_, _, RV.int.mp r1, RV.int.mp r2, q _ (RV.int.mpr rfl)⟩
  · cases e
open PySem.Spec PyProof.Rows in
theorem tuple_mulSame (l : Addr) (items : Array Value) (n : Nat) (dd : Option Addr) (sl : Array (Option Value)) (x : Int) (u : Tok) (c0 : (decide (x < -(2 ^ 63)) || decide (x ≥ 2 ^ 63)) = false) (c1 : (items.isEmpty || x == 1) = true) :
    Meets (Builtin.«tuple.__mul__» ⟨[.ref l, .int x u], []⟩) (fun _ R s => s.heap.get? l = some { cls := .type "tuple", dict := dd, data := .seq items n, slots := sl } ∧ R (.ok (.ret (Value.ref l))) s) :=
  .of_wp fun prog w A R s h => by
    obtain ⟨hp, g, d, tk, os⟩ := s
    obtain ⟨hl, h⟩ := h
    have f1 := AutoSeq1.idx_int
    wp_walk using wpAny_loadPart' hl
    repeat (first
      | (refine wpAny_ite_false (decide_eq_false (by rw [c0]; exact Bool.false_ne_true)) ?_; wp_walk using wpAny_loadPart' hl)
      | (refine wpAny_ite_true (decide_eq_true c1) ?_; wp_walk using wpAny_loadPart' hl))
    exact ⟨_, rfl, h⟩
def rRepTS (K : PySem.W.Frag) : R2 := fun x y H Q => ∃ l k xs, x = .ref l ∧ y = .int k ∧ SqT K H l xs ∧ (k = 1 ∨ xs = []) ∧ -(2 ^ 63) ≤ k ∧ k < 2 ^ 63 ∧ Q (.ref l) H
open PySem.Spec PyProof.Rows in
theorem op_repTS {X : Cx} : OpR X (binaryOp .Mult) (rRepTS X.K) := by
  intro pins s σ H x y v u Q I rx ry h
  obtain ⟨l, k, xs, rfl, rfl, hT, hs, h1, h2, q⟩ := h
  cases rx
  obtain ⟨t, rfl⟩ := ry
  obtain ⟨its, r, ⟨⟨cls, dd, data, sl⟩, ho, hc, n, hd⟩, _⟩ := I.tuple hT
  simp only at hc hd
  subst hc hd
  have hle : its.length = xs.length := r.length.symm
  have c0 : (decide (k < -(2 ^ 63)) || decide (k ≥ 2 ^ 63)) = false := by
    rw [decide_eq_false (by omega), decide_eq_false (by omega)] <;> rfl
  have c1 : (its.toArray.isEmpty || k == 1) = true := by
    rw [Bool.or_eq_true]
    rcases hs with rfl | rfl
    · exact .inr rfl
    · have : its = [] := List.length_eq_zero_iff.mp hle
      subst this
      exact .inl rfl
  exact wpAny_binaryOp_repeat_ref (T := "tuple") (U := "int") (by decide) ⟨_, ho, rfl⟩ (fun s' => typeIs_int s' k t) noFill_tuple_mul F.fills_int_mul F.slot_int_rmul repeat_tuple F.slot_int_index.lookup
    (call_meets F.slot_int_rmul (typeIs_int s k t) F.entry_int_rmul (F.args_int_rmul_2 _ _) (int_rmul_tuple k t l its.toArray n dd sl)
      ⟨ho, rfl, ⟨_, ho, rfl⟩, call_meets F.slot_tuple_mul ⟨_, ho, rfl⟩ F.entry_tuple_mul (F.args_tuple_mul_2 _ _) (tuple_mulSame l its.toArray n dd sl k t c0 c1) ⟨ho, ⟨.ref l, H, I, rfl, q⟩⟩⟩)
def rRepS : R2 := fun x y H Q => ∃ a k, x = .str a ∧ y = .int k ∧ -(2 ^ 63) ≤ k ∧ k < 2 ^ 63 ∧ a.length * k.toNat ≤ sizeLine ∧ Q (.str (repS a k)) H
theorem rep_foldl (l : Array Nat) : ∀ (n : Nat) (acc : Array Nat), (List.replicate n l).foldl (· ++ ·) acc = (acc.toList ++ (List.replicate n l.toList).flatten).toArray
  | 0, acc => by simp
  | n + 1, acc => by
    rw [List.replicate_succ, List.foldl_cons, rep_foldl l n, List.replicate_succ, List.flatten_cons]
    simp
theorem op_repS {X : Cx} : OpR X (binaryOp .Mult) rRepS := by
  intro pins s σ H x y v u Q I rx ry h
  obtain ⟨a, k, rfl, rfl, h1, h2, hz, q⟩ := h
  obtain ⟨t, rfl⟩ := rx
  obtain ⟨t', rfl⟩ := ry
  have sz : sizeLine = 16777216 := rfl
  refine PySem.P.mul_str ?_ ?_ ?_ ?_
  · rw [decide_eq_false (by omega), decide_eq_false (by omega)]; rfl
  · intro h3 h4 h5
    have hk : 1 < k := by
      have : (k == 1) = false := by cases e : (k == 1) <;> simp [e] at h4 ⊢
      have := beq_eq_false_iff_ne.mp this
      omega
    have e1 : ((a.length : Int) * k) ≤ 16777216 := by
      rw [sz] at hz
      have : ((a.length * k.toNat : Nat) : Int) ≤ 16777216 := by omega
      rw [Int.natCast_mul, Int.toNat_of_nonneg (by omega)] at this
      exact this
    have e2 : (a.length : Int) ≤ (2 ^ 63 - 1) / k := by
      refine (Int.le_ediv_iff_mul_le (by omega)).mpr ?_
      omega
    omega
  · intro h3 h4
    unfold Builtin.Str.tooLong
    exact decide_eq_false (by omega)
  · split
    · rename_i h3
      refine ⟨by decide, .str (repS a k), H, I.tok _, ⟨s.toks, ?_⟩, q⟩
      have : k.toNat = 0 := by omega
      unfold repS
      rw [this]; rfl
    · split
      · rename_i h3 h4
        refine ⟨.str (repS a k), H, I, ⟨t, ?_⟩, q⟩
        have : repS a k = a := by
          unfold repS
          rw [Bool.or_eq_true] at h4
          rcases h4 with h4 | h4
          · have : k = 1 := by simpa using h4
            subst this
            show (⟨([a.cps.toList].flatten).toArray⟩ : Str) = a
            simp
          · have e0 : a.cps.toList = [] := by
              have : a.length = 0 := by simpa using h4
              exact List.length_eq_zero_iff.mp (by rw [Array.length_toList]; exact this)
            rw [e0]
            have : ∀ n : Nat, (List.replicate n ([] : List Nat)).flatten = [] := fun n => by simp
            rw [this]
            cases a with
            | mk cps =>
              simp only at e0
              rw [← e0]
        rw [this]
      · rename_i h3 h4
        have e1 : (⟨(List.replicate k.toNat a.cps).foldl (· ++ ·) #[]⟩ : Str) = repS a k := by
          unfold repS
          rw [rep_foldl]
          rfl
        rw [e1]
        refine ⟨?_, .str (repS a k), H, I.tok _, ⟨s.toks, rfl⟩, q⟩
        show (List.replicate k.toNat a.cps.toList).flatten.toArray.size ≤ sizeLine
        rw [List.size_toArray, PyProof.Rows.lm_len_rep_flat, Nat.mul_comm]
        exact hz
def rMulM (K : PySem.W.Frag) : R2 := fun x y H Q => (rI CMul fun i j => .int (i * j)) x y H Q ∨ (rI CMulW fun i j => .int (i * j)) x y H Q ∨ rRep x y H Q ∨ rRepS x y H Q ∨ rRepTS K x y H Q ∨ rRepT K x y H Q
theorem op_mulM {X : Cx} : OpR X (binaryOp .Mult) (rMulM X.K) := OpR.or op_mul (OpR.or op_mulW (OpR.or op_rep (OpR.or op_repS (OpR.or op_repTS op_repT))))
theorem RVs.rep {H : Hp} {xs : List MV} {vs : List V} (h : RVs K H xs vs) : ∀ n : Nat, RVs K H (List.replicate n xs).flatten (List.replicate n vs).flatten
  | 0 => by simp [RVs]
  | n + 1 => by
    rw [List.replicate_succ, List.replicate_succ, List.flatten_cons, List.flatten_cons]
    exact h.append (RVs.rep h n)
theorem os_mul : OpS K fMul (rMulM K) := by
  intro x y z v w Hk H Q e ex r1 r2 q qn
  unfold fMul at e
  split at e
  · rename_i i j
    split at e
    · rename_i h
      cases e
      unfold mulOk at h
      rw [Bool.or_eq_true] at h
      rcases h with h | h
      · refine .inl ⟨i, j, RV.int.mp r1, RV.int.mp r2, ?_, q _ (RV.int.mpr rfl)⟩
        simp only [Bool.or_eq_true, Bool.and_eq_true, decide_eq_true_eq] at h
        exact h
      · exact .inr (.inl ⟨i, j, RV.int.mp r1, RV.int.mp r2, of_decide_eq_true h, q _ (RV.int.mpr rfl)⟩)
    · cases e
  · rename_i a k
    split at e
    · rename_i h
      cases e
      simp only [Bool.and_eq_true, Bool.or_eq_true, decide_eq_true_eq] at h
      obtain ⟨p1, vs, rfl, h1, s1⟩ := RV.tup.mp r1
      have hvl := s1.length
      by_cases hk : k = 1 ∨ vs = []
      · refine .inr (.inr (.inr (.inr (.inl ⟨p1, k, vs, rfl, RV.int.mp r2, ex_t ex h1, hk, h.1.1, h.1.2, q _ ?_⟩))))
        have er : (List.replicate k.toNat a).flatten = a := by
          rcases hk with rfl | rfl
          · simp
          · have : a = [] := List.length_eq_zero_iff.mp (by simpa using hvl.symm)
            subst this; simp
        rw [er]
        exact RV.tup.mpr ⟨p1, vs, rfl, h1, s1⟩
      · have hk2 : 2 ≤ k ∧ k ≤ 1000 ∧ a.length ≤ 1000 := by
          rcases h.2 with (h2 | h2) | h2
          · exact absurd (.inl h2) hk
          · exact absurd (.inr (List.length_eq_zero_iff.mp (by rw [hvl]; simpa using h2))) hk
          · exact ⟨h2.1.1, h2.1.2, h2.2⟩
        refine .inr (.inr (.inr (.inr (.inr ⟨p1, k, vs, rfl, RV.int.mp r2, ex_t ex h1, fun e0 => hk (.inr e0), hk2.1, hk2.2.1, by rw [hvl]; exact hk2.2.2, fun p hp => qn p _ hp ?_⟩))))
        have z := Ex.new (o := .tup (List.replicate k.toNat vs).flatten) (ex.back hp)
        exact RV.tup.mpr ⟨p, _, rfl, SqT.of upd_same, (RVs.rep s1 _).mono z⟩
    · cases e
  · rename_i a k
    split at e
    · rename_i h
      cases e
      simp only [Bool.and_eq_true, decide_eq_true_eq] at h
      exact .inr (.inr (.inr (.inl ⟨a, k, RV.str.mp r1, RV.int.mp r2, h.1.1, h.1.2, szOk_iff.mp h.2, q _ (RV.str.mpr rfl)⟩)))
    · cases e
  · rename_i a k
    split at e
    · rename_i h
      cases e
      simp only [Bool.and_eq_true, decide_eq_true_eq] at h
      obtain ⟨p1, vs, rfl, h1, s1⟩ := RV.lst.mp r1
      refine .inr (.inr (.inl ⟨p1, k, vs, rfl, RV.int.mp r2, ex _ _ h1, h.1.1, h.1.2, ?_, fun p hp => qn p _ hp ?_⟩))
      · rw [s1.length]; exact szOk_iff.mp h.2
      · have z := Ex.new (o := .lst (List.replicate k.toNat vs).flatten) (ex.back hp)
        exact RV.lst.mpr ⟨p, _, rfl, upd_same, (RVs.rep s1 _).mono z⟩
    · cases e
  · cases e
def rDivM : R2 := fun x y H Q => (rI CDivN fun i j => .int (i.fdiv j)) x y H Q ∨ (rI CDivW fun i j => .int (i / j)) x y H Q
theorem op_divM {X : Cx} : OpR X (binaryOp .FloorDiv) rDivM := OpR.or op_fdivN op_fdivW
theorem os_div : OpS K fDiv rDivM := by
  intro x y z v w Hk H Q e ex r1 r2 q qn
  unfold fDiv at e
  split at e
  · rename_i i j
    split at e
    · rename_i h
      cases e
      unfold divOk at h
      rw [Bool.or_eq_true] at h
      rcases h with h | h
      · simp only [Bool.and_eq_true, decide_eq_true_eq] at h
        exact .inl ⟨i, j, RV.int.mp r1, RV.int.mp r2, h, q _ (RV.int.mpr rfl)⟩
      · simp only [Bool.and_eq_true, decide_eq_true_eq] at h
        refine .inr ⟨i, j, RV.int.mp r1, RV.int.mp r2, h, ?_⟩
        have := q _ (RV.int.mpr rfl)
        rw [Int.fdiv_eq_ediv_of_nonneg i (by omega)] at this
        exact this
    · cases e
  · cases e
theorem os_mod : OpS K fMod (rI (fun _ j => j ≠ 0) fun i j => .int (i.fmod j)) := by
  intro x y z v w Hk H Q e ex r1 r2 q qn
  unfold fMod at e
  split at e
  · split at e
    · rename_i h
      cases e
      exact ⟨_, _, RV.int.mp r1, RV.int.mp r2, of_decide_eq_true h, q _ (RV.int.mpr rfl)⟩
    · cases e
  · cases e
theorem os_pow : OpS K fPow (rI CPow fun i j => .int (i ^ j.toNat)) := by
  intro x y z v w Hk H Q e ex r1 r2 q qn
  unfold fPow at e
  split at e
  · split at e
    · rename_i h
      cases e
      simp only [Bool.and_eq_true, decide_eq_true_eq] at h
      exact ⟨_, _, RV.int.mp r1, RV.int.mp r2, ⟨h.1.1, h.1.2, h.2⟩, q _ (RV.int.mpr rfl)⟩
    · cases e
  · cases e
theorem os_lt : OpS K fLt (rI0 fun i j => .bl (decide (i < j))) := by
  intro x y z v w Hk H Q e ex r1 r2 q qn
  unfold fLt at e
  split at e
  · cases e; exact ⟨_, _, RV.int.mp r1, RV.int.mp r2, q _ (RV.bl.mpr rfl)⟩
  · cases e
theorem os_le : OpS K fLe (rI0 fun i j => .bl (decide (i ≤ j))) := by
  intro x y z v w Hk H Q e ex r1 r2 q qn
  unfold fLe at e
  split at e
  · cases e; exact ⟨_, _, RV.int.mp r1, RV.int.mp r2, q _ (RV.bl.mpr rfl)⟩
  · cases e
theorem os_gt : OpS K fGt (rI0 fun i j => .bl (decide (j < i))) := by
  intro x y z v w Hk H Q e ex r1 r2 q qn
  unfold fGt at e
  split at e
  · cases e; exact ⟨_, _, RV.int.mp r1, RV.int.mp r2, q _ (RV.bl.mpr rfl)⟩
  · cases e
theorem os_ge : OpS K fGe (rI0 fun i j => .bl (decide (j ≤ i))) := by
  intro x y z v w Hk H Q e ex r1 r2 q qn
  unfold fGe at e
  split at e
  · cases e; exact ⟨_, _, RV.int.mp r1, RV.int.mp r2, q _ (RV.bl.mpr rfl)⟩
  · cases e
theorem RV.isnon {H : Hp} {x : MV} {v : V} (h : RV K H x v) : decide (v = .non) = x.isN := by
  cases x with
  | raw w => rw [RV.raw.mp h]; rfl
  | own _ => unfold RV at h; exact h.elim
  | obj _ _ => unfold RV at h; exact h.elim
  | non => rw [RV.non.mp h]; rfl
  | int i => rw [RV.int.mp h]; rfl
  | bl i => rw [RV.bl.mp h]; rfl
  | str i => rw [RV.str.mp h]; rfl
  | tup xs => obtain ⟨a, vs, e, _⟩ := RV.tup.mp h; rw [e]; rfl
  | lst xs => obtain ⟨a, vs, e, _⟩ := RV.lst.mp h; rw [e]; rfl
  | scr xs => obtain ⟨a, e, _⟩ := RV.scr.mp h; rw [e]; rfl
  | fnc x => obtain ⟨a, e, _⟩ := RV.fnc.mp h; rw [e]; rfl
  | dct ks xs => obtain ⟨a, vs, e, _⟩ := RV.dct.mp h; rw [e]; rfl
  | dow _ _ => unfold RV at h; exact h.elim
  | dot _ _ => unfold RV at h; exact h.elim
theorem os_isN : OpS K fIsN (fun x y H Q => y = .non ∧ Q (.bl (decide (x = .non))) H) := by
  intro x y z v w Hk H Q e ex r1 r2 q qn
  unfold fIsN at e
  split at e
  · cases e; refine ⟨RV.non.mp r2, ?_⟩
    rw [r1.isnon]; exact q _ (RV.bl.mpr rfl)
  · cases e
theorem scal_of {H : Hp} {x y : MV} {v w : V} (h : scalM x y = true) (r1 : RV K H x v) (r2 : RV K H y w) : scal v w = true ∧ decide (v = w) = sameM x y := by
  unfold scalM at h
  split at h <;> first | (cases h; done) | skip
  all_goals
    first
      | (rw [RV.non.mp r1] ) | (rw [RV.int.mp r1]) | (rw [RV.bl.mp r1]) | (rw [RV.str.mp r1])
    first
      | (rw [RV.non.mp r2] ) | (rw [RV.int.mp r2]) | (rw [RV.bl.mp r2]) | (rw [RV.str.mp r2])
    refine ⟨rfl, ?_⟩
    simp [sameM]
mutual
theorem Dp.of {Hk H : Hp} (ex : Ex Hk H) : ∀ (x : MV) (v : V) (d : PyData), RV K Hk x v → toD x = some d → Dp K H v d
  | .non, v, d, r, e => by rw [RV.non.mp r]; unfold toD at e; cases e; exact .non
  | .bl b, v, d, r, e => by rw [RV.bl.mp r]; unfold toD at e; cases e; exact .bl b
  | .int b, v, d, r, e => by rw [RV.int.mp r]; unfold toD at e; cases e; exact .int b
  | .str b, v, d, r, e => by rw [RV.str.mp r]; unfold toD at e; cases e; exact .str b
  | .tup xs, v, d, r, e => by
    obtain ⟨a, vs, rfl, h, s⟩ := RV.tup.mp r
    unfold toD at e
    cases e2 : toDs xs with
    | none => rw [e2] at e; cases e
    | some ds =>
      rw [e2] at e; cases e
      exact .tup (ex_t ex h) (DpAll.of ex xs vs ds s e2)
  | .lst xs, v, d, r, e => by
    obtain ⟨a, vs, rfl, h, s⟩ := RV.lst.mp r
    unfold toD at e
    cases e2 : toDs xs with
    | none => rw [e2] at e; cases e
    | some ds =>
      rw [e2] at e; cases e
      exact .lst (SqL.of (ex _ _ h)) (DpAll.of ex xs vs ds s e2)
  | .own _, v, d, r, e => by unfold toD at e; cases e
  | .raw _, v, d, r, e => by unfold toD at e; cases e
  | .scr _, v, d, r, e => by unfold toD at e; cases e
  | .fnc _, v, d, r, e => by unfold toD at e; cases e
  | .obj _ _, v, d, r, e => by unfold toD at e; cases e
  | .dct _ _, v, d, r, e => by unfold toD at e; cases e
  | .dow _ _, v, d, r, e => by unfold toD at e; cases e
  | .dot _ _, v, d, r, e => by unfold toD at e; cases e
theorem DpAll.of {Hk H : Hp} (ex : Ex Hk H) : ∀ (xs : List MV) (vs : List V) (ds : List PyData), RVs K Hk xs vs → toDs xs = some ds → DpAll K H vs ds
  | [], vs, ds, r, e => by rw [RVs.nil.mp r]; unfold toDs at e; cases e; exact .nil
  | x :: xs, vs, ds, r, e => by
    obtain ⟨v, us, rfl, r1, r2⟩ := RVs.cons.mp r
    unfold toDs at e
    split at e
    · rename_i d ds' e1 e2
      cases e
      exact .cons (Dp.of ex x v d r1 e1) (DpAll.of ex xs us ds' r2 e2)
    · cases e
end
def rEqM (K : PySem.W.Frag) : R2 := fun x y H Q => rEq x y H Q ∨ rEqD K x y H Q
def rNeM (K : PySem.W.Frag) : R2 := fun x y H Q => rNe x y H Q ∨ rNeD K x y H Q
theorem op_eqM {X : Cx} (hu : X.A.units + 64 < cLine) : OpR X (compareOp .Eq) (rEqM X.K) := OpR.or op_eq (op_eqD hu)
theorem op_neM {X : Cx} (hu : X.A.units + 64 < cLine) : OpR X (compareOp .NotEq) (rNeM X.K) := OpR.or op_ne (op_neD hu)
theorem os_eq : OpS K fEq (rEqM K) := by
  intro x y z v w Hk H Q e ex r1 r2 q qn
  unfold fEq eqM at e
  split at e
  · rename_i h
    obtain ⟨s1, s2⟩ := scal_of h r1 r2
    cases e
    refine .inl ⟨s1, ?_⟩
    rw [s2]; exact q _ (RV.bl.mpr rfl)
  · split at e
    · rename_i d e' e1 e2
      split at e
      · rename_i h
        rw [Bool.and_eq_true] at h
        cases e
        exact .inr ⟨d, e', Dp.of ex _ _ _ r1 e1, Dp.of ex _ _ _ r2 e2, h.1, h.2, q _ (RV.bl.mpr rfl)⟩
      · cases e
    · cases e
theorem os_ne : OpS K fNe (rNeM K) := by
  intro x y z v w Hk H Q e ex r1 r2 q qn
  unfold fNe eqM at e
  split at e
  · rename_i h
    obtain ⟨s1, s2⟩ := scal_of h r1 r2
    cases e
    refine .inl ⟨s1, ?_⟩
    rw [s2]; exact q _ (RV.bl.mpr rfl)
  · split at e
    · rename_i d e' e1 e2
      split at e
      · rename_i h
        rw [Bool.and_eq_true] at h
        cases e
        exact .inr ⟨d, e', Dp.of ex _ _ _ r1 e1, Dp.of ex _ _ _ r2 e2, h.1, h.2, q _ (RV.bl.mpr rfl)⟩
      · cases e
    · cases e
def fIx : MV → MV → Option MV
  | .lst xs, .int i => atI xs i
  | .tup xs, .int i => atI xs i
  | .scr ns, .int i => (atI ns i).map .int
  | .str z, .int i => if szOk z.length then (atI z.cps.toList i).map fun c => .str ⟨#[c]⟩ else none
  | _, _ => none
theorem atI_rv {H : Hp} {xs : List MV} {vs : List V} (r : RVs K H xs vs) {i : Int} {x : MV} (e : atI xs i = some x) : ∃ v, atI vs i = some v ∧ RV K H x v := by
  unfold atI at e ⊢
  rw [r.length]
  cases h : ixN xs.length i with
  | none => rw [h] at e; cases e
  | some j =>
    rw [h] at e
    exact r.get e
theorem atI_map {α β : Type} {f : α → β} {xs : List α} {i : Int} {x : α} (e : atI xs i = some x) : atI (xs.map f) i = some (f x) := by
  unfold atI at e ⊢
  rw [List.length_map]
  cases h : ixN xs.length i with
  | none => rw [h] at e; cases e
  | some j =>
    rw [h] at e
    show (xs.map f)[j]? = _
    rw [List.getElem?_map, show xs[j]? = some x from e]; rfl
theorem os_ix : OpS K fIx (rIx K) := by
  intro x y z v w Hk H Q e ex r1 r2 q qn
  unfold fIx at e
  split at e
  · obtain ⟨p1, vs, rfl, h1, s1⟩ := RV.lst.mp r1
    obtain ⟨u, eu, ru⟩ := atI_rv s1 e
    exact .inl ⟨p1, vs, _, u, rfl, RV.int.mp r2, SqL.of (ex _ _ h1), eu, q _ ru⟩
  · obtain ⟨p1, vs, rfl, h1, s1⟩ := RV.tup.mp r1
    obtain ⟨u, eu, ru⟩ := atI_rv s1 e
    exact .inr (.inl ⟨p1, vs, _, u, rfl, RV.int.mp r2, ex_t ex h1, eu, q _ ru⟩)
  · rename_i ns i
    obtain ⟨p1, rfl, h1⟩ := RV.scr.mp r1
    cases h : atI ns i with
    | none => rw [h] at e; cases e
    | some n =>
      rw [h] at e; cases e
      exact .inl ⟨p1, _, _, _, rfl, RV.int.mp r2, ex_l ex h1, atI_map h, q _ (RV.int.mpr rfl)⟩
  · rename_i s i
    split at e
    · rename_i hz
      cases h : atI s.cps.toList i with
      | none => rw [h] at e; cases e
      | some n =>
        rw [h] at e; cases e
        exact .inr (.inr ⟨s, i, n, RV.str.mp r1, RV.int.mp r2, szOk_iff.mp hz, h, q _ (RV.str.mpr rfl)⟩)
    · cases e
  · cases e
def flatM : MV → Bool
  | .non | .bl _ | .int _ | .str _ => true
  | _ => false
def eqFlat : MV → MV → Bool
  | .non, .non => true
  | .bl a, .bl b => a == b
  | .bl a, .int b => (if a then 1 else 0) == b
  | .int a, .bl b => a == (if b then 1 else 0)
  | .int a, .int b => a == b
  | .str a, .str b => a == b
  | _, _ => false
theorem flat_v {H : Hp} {x : MV} {v : V} (h : flatM x = true) (r : RV K H x v) : flatV v = true := by
  unfold flatM at h
  split at h <;> first | (cases h; done) | skip
  · rw [RV.non.mp r]; rfl
  · rw [RV.bl.mp r]; rfl
  · rw [RV.int.mp r]; rfl
  · rw [RV.str.mp r]; rfl
theorem flat_eq {H : Hp} {x y : MV} {v w : V} (h : flatM x = true) (h2 : flatM y = true) (r : RV K H x v) (r2 : RV K H y w) : eqV v w = eqFlat x y := by
  unfold flatM at h h2
  split at h <;> first | (cases h; done) | skip
  all_goals (split at h2 <;> first | (cases h2; done) | skip)
  all_goals
    first
      | (rw [RV.non.mp r] ) | (rw [RV.int.mp r]) | (rw [RV.bl.mp r]) | (rw [RV.str.mp r])
    first
      | (rw [RV.non.mp r2] ) | (rw [RV.int.mp r2]) | (rw [RV.bl.mp r2]) | (rw [RV.str.mp r2])
    rfl
theorem flats_v {H : Hp} : ∀ {xs : List MV} {vs : List V}, xs.all flatM = true → RVs K H xs vs → vs.all flatV = true
  | [], vs, _, r => by rw [RVs.nil.mp r]; rfl
  | x :: xs, vs, h, r => by
    obtain ⟨v, us, rfl, r1, r2⟩ := RVs.cons.mp r
    rw [List.all_cons, Bool.and_eq_true] at h
    rw [List.all_cons, flat_v h.1 r1, flats_v h.2 r2]; rfl
theorem inV_eq {H : Hp} {y : MV} {w : V} (hy : flatM y = true) (ry : RV K H y w) : ∀ {xs : List MV} {vs : List V}, xs.all flatM = true → RVs K H xs vs → inV w vs = xs.any fun x => eqFlat x y
  | [], vs, _, r => by rw [RVs.nil.mp r]; rfl
  | x :: xs, vs, h, r => by
    obtain ⟨v, us, rfl, r1, r2⟩ := RVs.cons.mp r
    rw [List.all_cons, Bool.and_eq_true] at h
    have ih := inV_eq hy ry h.2 r2
    unfold inV at ih ⊢
    rw [List.any_cons, List.any_cons, ih, flat_eq h.1 hy r1 ry]
def inM (y : MV) (xs : List MV) : Option Bool := if flatM y && xs.all flatM then some (xs.any fun x => eqFlat x y) else none
def inA : MV → MV → Option Bool
  | y, .lst xs => inM y xs
  | y, .tup xs => inM y xs
  | .str i, .str j => some (!(Builtin.Str.occurrences j i 0 j.length 1).isEmpty)
  | _, _ => none
def fNotIn (x y : MV) : Option MV := (inA x y).map fun b => .bl (!b)
def rNotInM (K : PySem.W.Frag) : R2 := fun x y H Q => rIn K true x y H Q ∨ (∃ i j, x = .str i ∧ y = .str j ∧ Q (.bl (!(!(Builtin.Str.occurrences j i 0 j.length 1).isEmpty))) H)
theorem op_notInM {X : Cx} : OpR X (compareOp .NotIn) (rNotInM X.K) := OpR.or op_notIn_seq op_notin_str
theorem in_sq {Hk H : Hp} {x y : MV} {v w : V} {b : Bool} (ex : Ex Hk H) (r1 : RV K Hk x v) (r2 : RV K Hk y w) (e : inA x y = some b) :
    (∃ p xs, w = .ref p ∧ (SqL K H p xs ∨ SqT K H p xs) ∧ flatV v = true ∧ xs.all flatV = true ∧ inV v xs = b) ∨ (∃ i j, v = .str i ∧ w = .str j ∧ (!(Builtin.Str.occurrences j i 0 j.length 1).isEmpty) = b) := by
  unfold inA at e
  split at e
  · unfold inM at e
    split at e
    · rename_i h
      cases e
      rw [Bool.and_eq_true] at h
      obtain ⟨p1, vs, rfl, h1, s1⟩ := RV.lst.mp r2
      exact .inl ⟨p1, vs, rfl, .inl (SqL.of (ex _ _ h1)), flat_v h.1 r1, flats_v h.2 s1, inV_eq h.1 r1 h.2 s1⟩
    · cases e
  · unfold inM at e
    split at e
    · rename_i h
      cases e
      rw [Bool.and_eq_true] at h
      obtain ⟨p1, vs, rfl, h1, s1⟩ := RV.tup.mp r2
      exact .inl ⟨p1, vs, rfl, .inr (ex_t ex h1), flat_v h.1 r1, flats_v h.2 s1, inV_eq h.1 r1 h.2 s1⟩
    · cases e
  · cases e
    exact .inr ⟨_, _, RV.str.mp r1, RV.str.mp r2, rfl⟩
  · cases e
theorem os_notIn : OpS K fNotIn (rNotInM K) := by
  intro x y z v w Hk H Q e ex r1 r2 q qn
  unfold fNotIn at e
  cases eb : inA x y with
  | none => rw [eb] at e; cases e
  | some b =>
    rw [eb] at e; cases e
    rcases in_sq ex r1 r2 eb with ⟨p, xs, e1, e2, e3, e4, e5⟩ | ⟨i, j, e1, e2, e3⟩
    · exact .inl ⟨p, xs, e1, e2, e3, e4, by rw [if_pos rfl, e5]; exact q _ (RV.bl.mpr rfl)⟩
    · exact .inr ⟨i, j, e1, e2, by rw [e3]; exact q _ (RV.bl.mpr rfl)⟩
end
end Tm
set_option Elab.async false
set_option linter.all false
set_option maxRecDepth 100000
set_option maxHeartbeats 2000000
namespace Tm
open PySem L2
open Evl (Ex ex_rd ex_l ex_t)
structure Post (c : Ct) (F : Hp) (bp : List (Nat × Addr)) (σ : St) {β : Type} (P : Hp → Res (β × Env) → Prop) : Prop where
  ex : ∀ Hk e ρ, P Hk (.exc e ρ) → Wish c F Hk bp σ e ρ
  st : ∀ Hk, ¬ P Hk .stuck
  mono : ∀ Hk Hk' r, Ex Hk Hk' → P Hk r → P Hk' r
section
variable {c : Ct} {F Hk H : Hp} {bp : List (Nat × Addr)} {σ : St} {ρ : Env} {β : Type}
theorem postE {Q : VK} : Post c F bp σ fun Hk r => okE c F Hk bp σ Q r := ⟨fun _ _ _ h => h, fun _ h => h, fun _ _ _ x h => okE.mono x h⟩
theorem postO {Q : VK} : Post c F bp σ fun Hk r => okO c F Hk bp σ Q r := ⟨fun _ _ _ h => h, fun _ h => h, fun _ _ _ x h => okO.mono x h⟩
theorem postT {Q : Bool → Hp → Prop} : Post c F bp σ fun Hk r => okT c F Hk bp σ Q r := ⟨fun _ _ _ h => h, fun _ h => h, fun _ _ _ x h => okT.mono x h⟩
theorem postA {Q : List V → Hp → Prop} : Post c F bp σ fun Hk r => okA c F Hk bp σ Q r := ⟨fun _ _ _ h => h, fun _ h => h, fun _ _ _ x h => okA.mono x h⟩
theorem postS {D : Ends} : Post c F bp σ fun Hk r => okS c F Hk bp D r := ⟨fun _ _ _ h Hk' H' cls d => h Hk' H' σ cls d, fun _ h => h, fun _ _ _ x h => okS.mono x h⟩
variable {P : Hp → Res (β × Env) → Prop}
theorem bE (p : Post c F bp σ P) {a : ME} {k : MV → Env → Res (β × Env)} (S : At c F Hk H bp σ ρ) (h : P Hk ((a ρ).bind k)) :
    rdE c a σ H fun v H1 => ∃ Hk1 x ρ1, Ex Hk Hk1 ∧ At c F Hk1 H1 bp σ ρ1 ∧ RV c.K Hk1 x v ∧ P Hk1 (k x ρ1) := by
  refine ⟨F, Hk, bp, ρ, S, ?_⟩
  cases e : a ρ with
  | stuck => rw [e] at h; exact p.st _ h
  | exc x ρ' => rw [e] at h; exact p.ex _ _ _ h
  | ok q =>
    rw [e] at h
    exact fun Hk1 H1 v x1 S1 r1 => ⟨Hk1, q.1, q.2, x1, ⟨S1, S.2⟩, r1, p.mono _ _ _ x1 h⟩
theorem bO (p : Post c F bp σ P) {a : ME} {k : MV → Env → Res (β × Env)} (S : At c F Hk H bp σ ρ) (h : P Hk ((a ρ).bind k)) :
    rdO c a σ H fun v H1 => ∃ Hk1 x ρ1, Ex Hk Hk1 ∧ RS c.K F Hk1 H1 bp (σ ++ [some v]) (ρ1 ++ [some x]) ∧ P Hk1 (k x ρ1) := by
  refine ⟨F, Hk, bp, ρ, S, ?_⟩
  cases e : a ρ with
  | stuck => rw [e] at h; exact p.st _ h
  | exc x ρ' => rw [e] at h; exact p.ex _ _ _ h
  | ok q =>
    rw [e] at h
    exact fun Hk1 H1 v x1 S1 => ⟨Hk1, q.1, q.2, x1, S1, p.mono _ _ _ x1 h⟩
theorem bT (p : Post c F bp σ P) {a : MT} {k : Bool → Env → Res (β × Env)} (S : At c F Hk H bp σ ρ) (h : P Hk ((a ρ).bind k)) :
    rdT c a σ H fun b H1 => ∃ Hk1 ρ1, Ex Hk Hk1 ∧ At c F Hk1 H1 bp σ ρ1 ∧ P Hk1 (k b ρ1) := by
  refine ⟨F, Hk, bp, ρ, S, ?_⟩
  cases e : a ρ with
  | stuck => rw [e] at h; exact p.st _ h
  | exc x ρ' => rw [e] at h; exact p.ex _ _ _ h
  | ok q =>
    rw [e] at h
    exact fun Hk1 H1 x1 S1 => ⟨Hk1, q.2, x1, ⟨S1, S.2⟩, p.mono _ _ _ x1 h⟩
theorem bA (p : Post c F bp σ P) {a : MA} {k : List MV → Env → Res (β × Env)} (S : At c F Hk H bp σ ρ) (h : P Hk ((a ρ).bind k)) :
    rdA c a σ H fun vs H1 => ∃ Hk1 xs ρ1, Ex Hk Hk1 ∧ At c F Hk1 H1 bp σ ρ1 ∧ RVs c.K Hk1 xs vs ∧ P Hk1 (k xs ρ1) := by
  refine ⟨F, Hk, bp, ρ, S, ?_⟩
  cases e : a ρ with
  | stuck => rw [e] at h; exact p.st _ h
  | exc x ρ' => rw [e] at h; exact p.ex _ _ _ h
  | ok q =>
    rw [e] at h
    exact fun Hk1 H1 vs x1 S1 r1 => ⟨Hk1, q.1, q.2, x1, ⟨S1, S.2⟩, r1, p.mono _ _ _ x1 h⟩
end
section
variable {c : Ct}
theorem okE.imp {F Hk : Hp} {bp : List (Nat × Addr)} {σ : St} {Q Q' : VK} {r : Res (MV × Env)} (h : okE c F Hk bp σ Q r) (w : ∀ v H, Q v H → Q' v H) : okE c F Hk bp σ Q' r := by
  cases r with
  | ok a => exact fun Hk2 H2 v x S r => w _ _ (h Hk2 H2 v x S r)
  | exc e ρ => exact h
  | stuck => exact h
theorem okT.imp {F Hk : Hp} {bp : List (Nat × Addr)} {σ : St} {Q Q' : Bool → Hp → Prop} {r : Res (Bool × Env)} (h : okT c F Hk bp σ Q r) (w : ∀ v H, Q v H → Q' v H) : okT c F Hk bp σ Q' r := by
  cases r with
  | ok a => exact fun Hk2 H2 x S => w _ _ (h Hk2 H2 x S)
  | exc e ρ => exact h
  | stuck => exact h
theorem okA.imp {F Hk : Hp} {bp : List (Nat × Addr)} {σ : St} {Q Q' : List V → Hp → Prop} {r : Res (List MV × Env)} (h : okA c F Hk bp σ Q r) (w : ∀ v H, Q v H → Q' v H) : okA c F Hk bp σ Q' r := by
  cases r with
  | ok a => exact fun Hk2 H2 v x S r => w _ _ (h Hk2 H2 v x S r)
  | exc e ρ => exact h
  | stuck => exact h
theorem okO.imp {F Hk : Hp} {bp : List (Nat × Addr)} {σ : St} {Q Q' : VK} {r : Res (MV × Env)} (h : okO c F Hk bp σ Q r) (w : ∀ v H, Q v H → Q' v H) : okO c F Hk bp σ Q' r := by
  cases r with
  | ok a => exact fun Hk2 H2 v x S => w _ _ (h Hk2 H2 v x S)
  | exc e ρ => exact h
  | stuck => exact h
theorem rdw {m : ME} {σ : St} {H : Hp} {Q Q' : VK} (h : rdE c m σ H Q) (w : ∀ v H, Q v H → Q' v H) : rdE c m σ H Q' := let ⟨F, Hk, bp, ρ, S, q⟩ := h; ⟨F, Hk, bp, ρ, S, q.imp w⟩
theorem rdOw {m : ME} {σ : St} {H : Hp} {Q Q' : VK} (h : rdO c m σ H Q) (w : ∀ v H, Q v H → Q' v H) : rdO c m σ H Q' := let ⟨F, Hk, bp, ρ, S, q⟩ := h; ⟨F, Hk, bp, ρ, S, q.imp w⟩
theorem rdTw {m : MT} {σ : St} {H : Hp} {Q Q' : Bool → Hp → Prop} (h : rdT c m σ H Q) (w : ∀ v H, Q v H → Q' v H) : rdT c m σ H Q' := let ⟨F, Hk, bp, ρ, S, q⟩ := h; ⟨F, Hk, bp, ρ, S, q.imp w⟩
theorem rdAw {m : MA} {σ : St} {H : Hp} {Q Q' : List V → Hp → Prop} (h : rdA c m σ H Q) (w : ∀ v H, Q v H → Q' v H) : rdA c m σ H Q' := let ⟨F, Hk, bp, ρ, S, q⟩ := h; ⟨F, Hk, bp, ρ, S, q.imp w⟩
end
section
variable {X : Cx} {c : Ct}
def mTest (a : ME) : MT := fun ρ => (a ρ).bind fun x ρ1 => match x with | .bl b => .ok (b, ρ1) | _ => .stuck
theorem rd_test {a : ME} {σ : St} {H : Hp} {Q : Bool → Hp → Prop} (h : rdT c (mTest a) σ H Q) : (rdE c a) σ H fun x H' => ∃ k, x = .bl k ∧ Q k H' := by
  obtain ⟨F, Hk, bp, ρ, S, h⟩ := h
  obtain ⟨F', Hk', bp', ρ', S', h'⟩ := bE postT S h
  refine ⟨F', Hk', bp', ρ', S', ?_⟩
  cases e : a ρ' with
  | stuck => rw [e] at h'; exact h'
  | exc x r => rw [e] at h'; exact h'
  | ok q =>
    rw [e] at h'
    intro Hk1 H1 v x1 S1 r1
    obtain ⟨Hk2, x, ρ2, x2, S2, r2, h2⟩ := h' Hk1 H1 v x1 S1 r1
    cases x with
    | bl b => exact ⟨b, RV.bl.mp r2, h2 _ _ (Ex.refl _) S2.1⟩
    | _ => exact h2.elim
theorem mt_cmp {op : CmpOp} {f : MV → MV → Option MV} {r : R2} {a b : Expr} {ma mb : ME} {pos : Pos} (ho : OpR X (compareOp op) r) (o : OpS c.K f r) (ha : PE X a (rdE c ma)) (hb : PE X b (rdE c mb)) (hm : behindInMarks op b = false) :
    PT X (.Compare a [op] [b] pos) (rdT c (mTest (mOp f ma mb))) := PTw (pt_cmpR ho ha hb hm) fun σ H Q h => rd_op (Q := fun x H' => ∃ k, x = .bl k ∧ Q k H') o (rd_test h)
theorem mt_val {e : Expr} {m : ME} (h : PE X e (rdE c m)) (he : ∀ whole, isTrue e X.env whole = (do let v ← whole; standAt e.pos; holding [v] (truthy v)) := by intro _; rfl) : PT X e (rdT c (mTest m)) :=
  PTw (pt_val h he) fun σ H Q h => rd_test h
def mChain (f g : MV → MV → Option MV) (a b d : ME) : ME := fun ρ => (a ρ).bind fun x ρ1 => (b ρ1).bind fun y ρ2 => match f x y with
  | some (.bl true) => (d ρ2).bind fun z ρ3 => match g y z with | some w => .ok (w, ρ3) | none => .stuck
  | some (.bl false) => .ok (.bl false, ρ2)
  | _ => .stuck
theorem opEnd {f : MV → MV → Option MV} {r : R2} (o : OpS c.K f r) {F Hk H : Hp} {bp : List (Nat × Addr)} {σ : St} {ρ : Env} {Q : VK} {x y : MV} {v w : V} (S : At c F Hk H bp σ ρ) (r1 : RV c.K Hk x v) (r2 : RV c.K Hk y w)
    (h : okE c F Hk bp σ Q (match f x y with | some z => .ok (z, ρ) | none => .stuck)) : r v w H Q := by
  cases e : f x y with
  | none => rw [e] at h; exact h.elim
  | some z =>
    rw [e] at h
    exact o x y z v w Hk H Q e S.1.ex r1 r2 (fun u ru => h _ _ u (Ex.refl _) S.1 ru) fun p ob hp ru => h _ _ _ (Ex.new (S.1.ex.back hp)) (S.1.new hp) ru
theorem rd_chain {f g : MV → MV → Option MV} {r r' : R2} (o : OpS c.K f r) (o' : OpS c.K g r') {a b d : ME} {σ : St} {H : Hp} {Q : VK} (h : rdE c (mChain f g a b d) σ H Q) : tChain r r' (rdE c a) (rdE c b) (rdE c d) σ H Q := by
  obtain ⟨F, Hk, bp, ρ, S, h⟩ := h
  refine rdw (bE postE S h) fun v H1 ⟨Hk1, x, ρ1, x1, S1, r1, h1⟩ => ?_
  refine rdw (bE postE S1 h1) fun w H2 ⟨Hk2, y, ρ2, x2, S2, r2, h2⟩ => ?_
  split at h2
  · rename_i e
    refine o x y _ v w Hk2 H2 _ e S2.1.ex (RV.mono x2 _ _ r1) r2 (fun u ru => ⟨true, RV.bl.mp ru, ?_⟩) fun p ob hp ru => nomatch (RV.bl.mp ru)
    rw [if_pos rfl]
    refine rdw (bE postE S2 h2) fun z H3 ⟨Hk3, zz, ρ3, x3, S3, r3, h3⟩ => ?_
    exact opEnd o' S3 (RV.mono x3 _ _ r2) r3 h3
  · rename_i e
    refine o x y _ v w Hk2 H2 _ e S2.1.ex (RV.mono x2 _ _ r1) r2 (fun u ru => ⟨false, RV.bl.mp ru, ?_⟩) fun p ob hp ru => nomatch (RV.bl.mp ru)
    rw [if_neg (by decide)]
    exact h2 _ _ _ (Ex.refl _) S2.1 (RV.bl.mpr rfl)
  · exact h2.elim
theorem mt_chain {op op' : CmpOp} {f g : MV → MV → Option MV} {r r' : R2} {a b d : Expr} {ma mb md : ME} {pos : Pos} (ho : OpR X (compareOp op) r) (o : OpS c.K f r) (ho' : OpR X (compareOp op') r') (o' : OpS c.K g r')
    (ha : PE X a (rdE c ma)) (hb : PE X b (rdE c mb)) (hd : PE X d (rdE c md)) (hm : lastMarks [op, op'] [b, d] = false := by with_unfolding_all rfl) : PT X (.Compare a [op, op'] [b, d] pos) (rdT c (mTest (mChain f g ma mb md))) :=
  PTw (pt_chain ho ho' ha hb hd hm) fun σ H Q h => rd_chain (Q := fun x H' => ∃ k, x = .bl k ∧ Q k H') o o' (rd_test h)
def mAndT (a b : MT) : MT := fun ρ => (a ρ).bind fun x ρ1 => if x then b ρ1 else .ok (false, ρ1)
def mOrT (a b : MT) : MT := fun ρ => (a ρ).bind fun x ρ1 => if x then .ok (true, ρ1) else b ρ1
def mNotT (a : MT) : MT := fun ρ => (a ρ).bind fun x ρ1 => .ok (!x, ρ1)
def mBv (t : MT) : ME := fun ρ => (t ρ).bind fun x ρ1 => .ok (.bl x, ρ1)
theorem rd_andT {a b : MT} {σ : St} {H : Hp} {Q : Bool → Hp → Prop} (h : rdT c (mAndT a b) σ H Q) : tAnd (rdT c a) (rdT c b) σ H Q := by
  obtain ⟨F, Hk, bp, ρ, S, h⟩ := h
  refine rdTw (bT postT S h) fun k H1 ⟨Hk1, ρ1, x1, S1, h1⟩ => ?_
  cases k with
  | true => rw [if_pos rfl] at h1 ⊢; exact ⟨F, Hk1, bp, ρ1, S1, h1⟩
  | false => rw [if_neg (by decide)] at h1 ⊢; exact h1 _ _ (Ex.refl _) S1.1
theorem rd_orT {a b : MT} {σ : St} {H : Hp} {Q : Bool → Hp → Prop} (h : rdT c (mOrT a b) σ H Q) : tOr (rdT c a) (rdT c b) σ H Q := by
  obtain ⟨F, Hk, bp, ρ, S, h⟩ := h
  refine rdTw (bT postT S h) fun k H1 ⟨Hk1, ρ1, x1, S1, h1⟩ => ?_
  cases k with
  | true => rw [if_pos rfl] at h1 ⊢; exact h1 _ _ (Ex.refl _) S1.1
  | false => rw [if_neg (by decide)] at h1 ⊢; exact ⟨F, Hk1, bp, ρ1, S1, h1⟩
theorem rd_notT {a : MT} {σ : St} {H : Hp} {Q : Bool → Hp → Prop} (h : rdT c (mNotT a) σ H Q) : tNot (rdT c a) σ H Q := by
  obtain ⟨F, Hk, bp, ρ, S, h⟩ := h
  exact rdTw (bT postT S h) fun k H1 ⟨Hk1, ρ1, x1, S1, h1⟩ => h1 _ _ (Ex.refl _) S1.1
theorem mw_one_and {a : Expr} {m : MT} {pos : Pos} (h : PT X a (rdT c m)) : PW X (.BoolOp .And [a] pos) (rdT c m) := pw_and1 h
theorem mw_one_or {a : Expr} {m : MT} {pos : Pos} (h : PT X a (rdT c m)) : PW X (.BoolOp .Or [a] pos) (rdT c m) := pw_or1 h
theorem mw_and {a b : Expr} {r : List Expr} {m n : MT} {pos : Pos} (h : PT X a (rdT c m)) (g : PW X (.BoolOp .And (b :: r) pos) (rdT c n)) : PW X (.BoolOp .And (a :: b :: r) pos) (rdT c (mAndT m n)) := PWw (pw_and h g) fun _ _ _ q => rd_andT q
theorem mw_or {a b : Expr} {r : List Expr} {m n : MT} {pos : Pos} (h : PT X a (rdT c m)) (g : PW X (.BoolOp .Or (b :: r) pos) (rdT c n)) : PW X (.BoolOp .Or (a :: b :: r) pos) (rdT c (mOrT m n)) := PWw (pw_or h g) fun _ _ _ q => rd_orT q
theorem mt_not {a : Expr} {m : MT} {pos : Pos} (h : PT X a (rdT c m)) : PT X (.UnaryOp .Not a pos) (rdT c (mNotT m)) := PTw (pt_not h) fun _ _ _ q => rd_notT q
theorem okBv {F Hk : Hp} {bp : List (Nat × Addr)} {σ : St} {Q : VK} {r : Res (Bool × Env)} (h : okT c F Hk bp σ (fun k H => Q (.bl k) H) r) : okE c F Hk bp σ Q (r.bind fun x ρ1 => .ok (.bl x, ρ1)) := by
  cases r with
  | ok a =>
    intro Hk2 H2 v x S rv
    rw [RV.bl.mp rv]
    exact h Hk2 H2 x S
  | exc e ρ => exact h
  | stuck => exact h
theorem rdBv {t : MT} {σ : St} {H : Hp} {Q : VK} (h : rdT c t σ H fun k H1 => Q (.bl k) H1) : rdE c (mBv t) σ H Q := let ⟨F, Hk, bp, ρ, S, q⟩ := h; ⟨F, Hk, bp, ρ, S, okBv q⟩
theorem rdBv' {t : MT} {σ : St} {H : Hp} {Q : VK} (h : rdE c (mBv t) σ H Q) : rdT c t σ H fun k H1 => Q (.bl k) H1 := by
  obtain ⟨F, Hk, bp, ρ, S, h⟩ := h
  exact rdTw (bT postE S h) fun k H1 ⟨Hk1, ρ1, x1, S1, h1⟩ => h1 _ _ _ (Ex.refl _) S1.1 (RV.bl.mpr rfl)
end
end Tm
set_option Elab.async false
set_option linter.all false
set_option maxRecDepth 100000
set_option maxHeartbeats 2000000
namespace Tm
open PySem L2
open Evl (Ex ex_rd ex_l ex_t)
section
variable {X : Cx} {c : Ct}
theorem rd_oneV {a : ME} {σ : St} {H : Hp} {Q : VK} (h : rdE c (mBv (mTest a)) σ H Q) : rdE c a σ H Q := rdw (rd_test (rdBv' h)) fun v H1 ⟨k, e, q⟩ => by rw [e]; exact q
theorem me_one {op : BoolOp} {a : Expr} {m : ME} {pos : Pos} (h : PE X a (rdE c m)) : PE X (.BoolOp op [a] pos) (rdE c (mBv (mTest m))) := PEw (pe_one h) fun _ _ _ q => rd_oneV q
theorem me_and {a b : Expr} {r : List Expr} {m : ME} {t : MT} {pos : Pos} (h : PE X a (rdE c m)) (g : PE X (.BoolOp .And (b :: r) pos) (rdE c (mBv t))) : PE X (.BoolOp .And (a :: b :: r) pos) (rdE c (mBv (mAndT (mTest m) t))) :=
  PEw (pe_and h g) fun σ H Q q => rdw (rd_test (rd_andT (rdBv' q))) fun v H1 ⟨k, e, q⟩ => ⟨k, e, by
    cases k with
    | true => rw [if_pos rfl] at q ⊢; exact rdBv q
    | false => rw [if_neg (by decide)] at q ⊢; exact q⟩
theorem me_or {a b : Expr} {r : List Expr} {m : ME} {t : MT} {pos : Pos} (h : PE X a (rdE c m)) (g : PE X (.BoolOp .Or (b :: r) pos) (rdE c (mBv t))) : PE X (.BoolOp .Or (a :: b :: r) pos) (rdE c (mBv (mOrT (mTest m) t))) :=
  PEw (pe_or h g) fun σ H Q q => rdw (rd_test (rd_orT (rdBv' q))) fun v H1 ⟨k, e, q⟩ => ⟨k, e, by
    cases k with
    | true => rw [if_pos rfl] at q ⊢; exact q
    | false => rw [if_neg (by decide)] at q ⊢; exact rdBv q⟩
theorem me_not {a : Expr} {m : ME} {pos : Pos} (h : PE X a (rdE c m)) : PE X (.UnaryOp .Not a pos) (rdE c (mBv (mNotT (mTest m)))) :=
  PEw (pe_not h) fun σ H Q q => rdw (rd_test (rd_notT (rdBv' q))) fun v H1 ⟨k, e, q⟩ => ⟨k, e, q⟩
def mUn (f : MV → Option MV) (a : ME) : ME := fun ρ => (a ρ).bind fun x ρ1 => match f x with | some z => .ok (z, ρ1) | none => .stuck
def fNeg : MV → Option MV
  | .int i => some (.int (-i))
  | _ => none
def UnS (K : PySem.W.Frag) (f : MV → Option MV) (r : V → Hp → VK → Prop) : Prop := ∀ (x z : MV) (v : V) (Hk H : Hp) (Q : VK), f x = some z → Ex Hk H → RV K Hk x v → (∀ u, RV K Hk z u → Q u H) →
  (∀ p o, H p = none → RV K (upd Hk p o) z (.ref p) → Q (.ref p) (upd H p o)) → r v H Q
theorem unEnd {f : MV → Option MV} {r : V → Hp → VK → Prop} (o : UnS c.K f r) {F Hk H : Hp} {bp : List (Nat × Addr)} {σ : St} {ρ : Env} {Q : VK} {x : MV} {v : V} (S : At c F Hk H bp σ ρ) (r1 : RV c.K Hk x v)
    (h : okE c F Hk bp σ Q (match f x with | some z => .ok (z, ρ) | none => .stuck)) : r v H Q := by
  cases e : f x with
  | none => rw [e] at h; exact h.elim
  | some z =>
    rw [e] at h
    exact o x z v Hk H Q e S.1.ex r1 (fun u ru => h _ _ u (Ex.refl _) S.1 ru) fun p ob hp ru => h _ _ _ (Ex.new (S.1.ex.back hp)) (S.1.new hp) ru
theorem rd_un {f : MV → Option MV} {r : V → Hp → VK → Prop} (o : UnS c.K f r) {a : ME} {σ : St} {H : Hp} {Q : VK} (h : rdE c (mUn f a) σ H Q) : tUn r (rdE c a) σ H Q := by
  obtain ⟨F, Hk, bp, ρ, S, h⟩ := h
  exact rdw (bE postE S h) fun v H1 ⟨Hk1, x, ρ1, x1, S1, r1, h1⟩ => unEnd o S1 r1 h1
theorem us_neg {K : PySem.W.Frag} : UnS K fNeg (rU fun i => .int (-i)) := by
  intro x z v Hk H Q e ex r1 q qn
  unfold fNeg at e
  split at e
  · cases e; exact ⟨_, RV.int.mp r1, q _ (RV.int.mpr rfl)⟩
  · cases e
theorem me_neg {a : Expr} {m : ME} {pos : Pos} (h : PE X a (rdE c m)) : PE X (.UnaryOp .USub a pos) (rdE c (mUn fNeg m)) := PEw (pe_un un_neg h) fun _ _ _ q => rd_un us_neg q
def mNil : MA := fun ρ => .ok ([], ρ)
def mCons (a : ME) (b : MA) : MA := fun ρ => (a ρ).bind fun x ρ1 => (b ρ1).bind fun xs ρ2 => .ok (x :: xs, ρ2)
theorem ma_nil : PA X [] (rdA c mNil) := PAw pa_nil fun σ H Q h => by
  obtain ⟨F, Hk, bp, ρ, S, h⟩ := h
  exact h _ _ _ (Ex.refl _) S.1 (RVs.nil.mpr rfl)
theorem ma_cons {e : Expr} {es : List Expr} {a : ME} {b : MA} (ha : PE X e (rdE c a)) (hb : PA X es (rdA c b)) (hs : starEach (e :: es) X.env = (false, eval e X.env) :: starEach es X.env := by rfl) : PA X (e :: es) (rdA c (mCons a b)) :=
  PAw (pa_cons ha hb hs) fun σ H Q h => by
    obtain ⟨F, Hk, bp, ρ, S, h⟩ := h
    refine rdw (bE postA S h) fun v H1 ⟨Hk1, x, ρ1, x1, S1, r1, h1⟩ => ?_
    refine rdAw (bA postA S1 h1) fun vs H2 ⟨Hk2, xs, ρ2, x2, S2, r2, h2⟩ => ?_
    exact h2 _ _ _ (Ex.refl _) S2.1 (RVs.cons.mpr ⟨v, vs, rfl, RV.mono x2 _ _ r1, r2⟩)
def mTup (a : MA) : ME := fun ρ => (a ρ).bind fun xs ρ1 => if szOk xs.length then .ok (.tup xs, ρ1) else .stuck
def mLst (a : MA) : ME := fun ρ => (a ρ).bind fun xs ρ1 => if szOk xs.length then .ok (.lst xs, ρ1) else .stuck
def mLstO (a : MA) : ME := fun ρ => (a ρ).bind fun xs ρ1 => if szOk xs.length then .ok (.own xs, ρ1) else .stuck
theorem me_tup {es : List Expr} {a : MA} {pos : Pos} {k : Nat} (h : PA X es (rdA c a)) : PE X (.Tuple es k pos) (rdE c (mTup a)) := PEw (pe_tup h) fun σ H Q h => by
  obtain ⟨F, Hk, bp, ρ, S, h⟩ := h
  refine rdAw (bA postE S h) fun vs H1 ⟨Hk1, xs, ρ1, x1, S1, r1, h1⟩ => ?_
  split at h1
  · rename_i hz
    refine ⟨by rw [r1.length]; exact szOk_iff.mp hz, fun p hp => h1 _ _ _ (Ex.new (S1.1.ex.back hp)) (S1.1.new hp) (RV.tup.mpr ⟨p, vs, rfl, SqT.of upd_same, r1.mono (Ex.new (S1.1.ex.back hp))⟩)⟩
  · exact h1.elim
theorem me_lst {es : List Expr} {a : MA} {pos : Pos} (h : PA X es (rdA c a)) : PE X (.List es pos) (rdE c (mLst a)) := PEw (pe_lst h) fun σ H Q h => by
  obtain ⟨F, Hk, bp, ρ, S, h⟩ := h
  refine rdAw (bA postE S h) fun vs H1 ⟨Hk1, xs, ρ1, x1, S1, r1, h1⟩ => ?_
  split at h1
  · rename_i hz
    refine ⟨by rw [r1.length]; exact szOk_iff.mp hz, fun p hp => h1 _ _ _ (Ex.new (S1.1.ex.back hp)) (S1.1.new hp) (RV.lst.mpr ⟨p, vs, rfl, upd_same, r1.mono (Ex.new (S1.1.ex.back hp))⟩)⟩
  · exact h1.elim
theorem mo_lst {es : List Expr} {a : MA} {pos : Pos} (h : PA X es (rdA c a)) : PE X (.List es pos) (rdO c (mLstO a)) := PEw (pe_lst h) fun σ H Q h => by
  obtain ⟨F, Hk, bp, ρ, S, h⟩ := h
  refine rdAw (bA postO S h) fun vs H1 ⟨Hk1, xs, ρ1, x1, S1, r1, h1⟩ => ?_
  split at h1
  · rename_i hz
    exact ⟨by rw [r1.length]; exact szOk_iff.mp hz, fun p hp => h1 _ _ _ (Ex.refl _) (S1.1.pushOwn hp r1)⟩
  · exact h1.elim
theorem me_ix {a b : Expr} {ma mb : ME} {pos : Pos} (ha : PE X a (rdE c ma)) (hb : PE X b (rdE c mb)) (hK : c.K = X.K := by rfl) (hs : PlainIx b := by exact fun _ _ => rfl) : PE X (.Subscript a b pos) (rdE c (mOp fIx ma mb)) :=
  PEw (pe_ix ix_seq ha hb hs) fun _ _ _ q => rd_op (by rw [hK]; exact os_ix) q
theorem flat_rv {K : PySem.W.Frag} {H H' : Hp} {z : MV} {u : V} (h : flatM z = true) (r : RV K H z u) : RV K H' z u := by
  unfold flatM at h
  split at h <;> first | (cases h; done) | skip
  · rw [RV.non] at r ⊢; exact r
  · rw [RV.bl] at r ⊢; exact r
  · rw [RV.int] at r ⊢; exact r
  · rw [RV.str] at r ⊢; exact r
def has (ρ : Env) (i : Nat) : Bool := match ρ[i]? with | some (some _) => true | _ => false
theorem has_rs {F Hk H : Hp} {bp : List (Nat × Addr)} {σ : St} {ρ : Env} {i : Nat} (S : At c F Hk H bp σ ρ) (e : has ρ i = true) : ∃ v, σ[i]? = some (some v) := by
  unfold has at e
  split at e
  · rename_i x h
    obtain ⟨ow, s⟩ := S.1.ow
    obtain ⟨v, ev, _⟩ := s.s i x h
    exact ⟨v, ev⟩
  · cases e
def mNo : Env → Res (Option Int × Env) := fun ρ => .ok (none, ρ)
def mPart (a : ME) : Env → Res (Option Int × Env) := fun ρ => (a ρ).bind fun x ρ1 => match x with | .int i => .ok (some i, ρ1) | _ => .stuck
def okP (c : Ct) (F Hk : Hp) (bp : List (Nat × Addr)) (σ : St) (Q : Option Int → Hp → Prop) : Res (Option Int × Env) → Prop
  | .ok (x, ρ') => ∀ Hk' H', Ex Hk Hk' → RS c.K F Hk' H' bp σ ρ' → Q x H'
  | .exc e ρ' => Wish c F Hk bp σ e ρ'
  | .stuck => False
theorem okP.mono {F Hk Hk' : Hp} {bp : List (Nat × Addr)} {σ : St} {Q : Option Int → Hp → Prop} {r : Res (Option Int × Env)} (x : Ex Hk Hk') (h : okP c F Hk bp σ Q r) : okP c F Hk' bp σ Q r := by
  cases r with
  | ok a => exact fun Hk2 H2 x2 => h Hk2 H2 (x.trans x2)
  | exc e ρ => exact Wish.mono x h
  | stuck => exact h
theorem postP {F : Hp} {bp : List (Nat × Addr)} {σ : St} {Q : Option Int → Hp → Prop} : Post c F bp σ fun Hk r => okP c F Hk bp σ Q r := ⟨fun _ _ _ h => h, fun _ h => h, fun _ _ _ x h => okP.mono x h⟩
def rdP (c : Ct) (m : Env → Res (Option Int × Env)) : TO := fun σ H Q => ∃ F Hk bp ρ, At c F Hk H bp σ ρ ∧ okP c F Hk bp σ Q (m ρ)
theorem POw {e : Option Expr} {t t' : TO} (h : PO X e t) (w : ∀ σ H Q, t' σ H Q → t σ H Q) : PO X e t' := ⟨fun pins s σ H Q I q => h.run pins s σ H Q I (w σ H Q q)⟩
theorem mp_none : PO X none (rdP c mNo) := POw po_none fun σ H Q ⟨F, Hk, bp, ρ, S, h⟩ => h _ _ (Ex.refl _) S.1
theorem mp_some {e : Expr} {m : ME} (h : PE X e (rdE c m)) : PO X (some e) (rdP c (mPart m)) := POw (po_some h) fun σ H Q ⟨F, Hk, bp, ρ, S, h⟩ => rdw (bE postP S h) fun v H1 ⟨Hk1, x, ρ1, x1, S1, r1, h1⟩ => by
  cases x with
  | int i => exact ⟨i, RV.int.mp r1, h1 _ _ (Ex.refl _) S1.1⟩
  | _ => exact h1.elim
theorem bP {F Hk H : Hp} {bp : List (Nat × Addr)} {σ : St} {ρ : Env} {β : Type} {P : Hp → Res (β × Env) → Prop} (p : Post c F bp σ P) {a : Env → Res (Option Int × Env)} {k : Option Int → Env → Res (β × Env)} (S : At c F Hk H bp σ ρ) (h : P Hk ((a ρ).bind k)) :
    rdP c a σ H fun b H1 => ∃ Hk1 ρ1, Ex Hk Hk1 ∧ At c F Hk1 H1 bp σ ρ1 ∧ P Hk1 (k b ρ1) := by
  refine ⟨F, Hk, bp, ρ, S, ?_⟩
  cases e : a ρ with
  | stuck => rw [e] at h; exact p.st _ h
  | exc x ρ' => rw [e] at h; exact p.ex _ _ _ h
  | ok q =>
    rw [e] at h
    exact fun Hk1 H1 x1 S1 => ⟨Hk1, q.2, x1, ⟨S1, S.2⟩, p.mono _ _ _ x1 h⟩
def cutM (xs : List MV) (lo hi : Option Int) : List MV := (xs.drop (HT.sIx xs.length 0 lo)).take (HT.sIx xs.length xs.length hi - HT.sIx xs.length 0 lo)
theorem RVs.cut {K : PySem.W.Frag} {H : Hp} {xs : List MV} {vs : List V} (r : RVs K H xs vs) (lo hi : Option Int) : RVs K H (cutM xs lo hi) (cutV vs lo hi) := by
  unfold cutM cutV
  rw [r.length]
  exact (r.drop _).take _
def fSl : MV → Option Int → Option Int → Option MV
  | .lst xs, lo, hi => some (.lst (cutM xs lo hi))
  | .tup xs, lo, hi => some (.tup (cutM xs lo hi))
  | .str z, lo, hi => if szOk z.length then some (.str (cutS z lo hi)) else none
  | _, _, _ => none
def rSlM (K : PySem.W.Frag) : V → Option Int → Option Int → Hp → VK → Prop := fun x lo hi H Q => rSlL K x lo hi H Q ∨ rSlA K x lo hi H Q ∨ rSlS x lo hi H Q
theorem sl_M : SlR X (rSlM X.K) := SlR.or sl_list (SlR.or sl_tupA sl_str)
theorem whole_cut {xs : List MV} {lo hi : Option Int} (h : HT.sIx xs.length 0 lo = 0 ∧ HT.sIx xs.length xs.length hi = xs.length) : cutM xs lo hi = xs := by
  unfold cutM
  rw [h.1, h.2]
  simp
theorem os_sl {K : PySem.W.Frag} {x z : MV} {lo hi : Option Int} {v : V} {Hk H : Hp} {Q : VK} (e : fSl x lo hi = some z) (ex : Ex Hk H) (r1 : RV K Hk x v) (q : ∀ u, RV K Hk z u → Q u H)
    (qn : ∀ p o, H p = none → RV K (upd Hk p o) z (.ref p) → Q (.ref p) (upd H p o)) : rSlM K v lo hi H Q := by
  unfold fSl at e
  split at e
  · cases e
    obtain ⟨p1, vs, rfl, h1, s1⟩ := RV.lst.mp r1
    refine .inl ⟨p1, vs, rfl, SqL.of (ex _ _ h1), fun p hp => qn p _ hp ?_⟩
    exact RV.lst.mpr ⟨p, _, rfl, upd_same, (s1.cut lo hi).mono (Ex.new (ex.back hp))⟩
  · cases e
    obtain ⟨p1, vs, rfl, h1, s1⟩ := RV.tup.mp r1
    refine .inr (.inl ⟨p1, vs, rfl, ex_t ex h1, fun hw => ?_, fun hw p hp => qn p _ hp ?_⟩)
    · rw [s1.length] at hw
      rw [whole_cut hw] at q
      exact q _ r1
    · exact RV.tup.mpr ⟨p, _, rfl, SqT.of upd_same, (s1.cut lo hi).mono (Ex.new (ex.back hp))⟩
  · split at e
    · rename_i hz
      cases e
      exact .inr (.inr ⟨_, RV.str.mp r1, szOk_iff.mp hz, q _ (RV.str.mpr rfl)⟩)
    · cases e
  · cases e
def mSl (a : ME) (l h : Env → Res (Option Int × Env)) : ME := fun ρ => (a ρ).bind fun x ρ1 => (l ρ1).bind fun i ρ2 => (h ρ2).bind fun j ρ3 => match fSl x i j with | some z => .ok (z, ρ3) | none => .stuck
theorem rd_sl {a : ME} {l h' : Env → Res (Option Int × Env)} {σ : St} {H : Hp} {Q : VK} (h : rdE c (mSl a l h') σ H Q) : tSl (rSlM c.K) (rdE c a) (rdP c l) (rdP c h') σ H Q := by
  obtain ⟨F, Hk, bp, ρ, S, h⟩ := h
  refine rdw (bE postE S h) fun v H1 ⟨Hk1, x, ρ1, x1, S1, r1, h1⟩ => ?_
  have w : ∀ {m : Env → Res (Option Int × Env)} {σ : St} {H : Hp} {Q Q' : Option Int → Hp → Prop}, rdP c m σ H Q → (∀ v H, Q v H → Q' v H) → rdP c m σ H Q' := fun {m σ H Q Q'} ⟨F, Hk, bp, ρ, S, q⟩ w => ⟨F, Hk, bp, ρ, S, by
    cases e : m ρ with
    | ok a => rw [e] at q; exact fun Hk2 H2 x S => w _ _ (q Hk2 H2 x S)
    | exc e' ρ => rw [e] at q; exact q
    | stuck => rw [e] at q; exact q⟩
  refine w (bP postE S1 h1) fun i H2 ⟨Hk2, ρ2, x2, S2, h2⟩ => ?_
  refine w (bP postE S2 h2) fun j H3 ⟨Hk3, ρ3, x3, S3, h3⟩ => ?_
  have h3 : okE c F Hk3 bp σ Q (match fSl x i j with | some z => .ok (z, ρ3) | none => .stuck) := h3
  cases e : fSl x i j with
  | none => rw [e] at h3; exact h3.elim
  | some z =>
    rw [e] at h3
    exact os_sl e S3.1.ex (RV.mono (x2.trans x3) _ _ r1) (fun u ru => h3 _ _ u (Ex.refl _) S3.1 ru) fun p ob hp ru => h3 _ _ _ (Ex.new (S3.1.ex.back hp)) (S3.1.new hp) ru
theorem me_sl {a : Expr} {lo hi : Option Expr} {ma : ME} {ml mh : Env → Res (Option Int × Env)} {pos p2 : Pos} (ha : PE X a (rdE c ma)) (hl : PO X lo (rdP c ml)) (hh : PO X hi (rdP c mh)) (hK : c.K = X.K := by rfl) : PE X (.Subscript a (.Slice lo hi none p2) pos) (rdE c (mSl ma ml mh)) :=
  PEw (pe_slice sl_M ha hl hh) fun _ _ _ q => by rw [← hK]; exact rd_sl q
section
variable {a b : Expr} {ma mb : ME} {pos : Pos}
theorem me_add (ha : PE X a (rdE c ma)) (hb : PE X b (rdE c mb)) (hK : c.K = X.K := by rfl) : PE X (.BinOp a .Add b pos) (rdE c (mOp fAdd ma mb)) := me_op op_addM (by rw [← hK]; exact os_add) ha hb
theorem me_sub (ha : PE X a (rdE c ma)) (hb : PE X b (rdE c mb)) : PE X (.BinOp a .Sub b pos) (rdE c (mOp fSub ma mb)) := me_op op_sub os_sub ha hb
theorem me_mul (ha : PE X a (rdE c ma)) (hb : PE X b (rdE c mb)) (hK : c.K = X.K := by rfl) : PE X (.BinOp a .Mult b pos) (rdE c (mOp fMul ma mb)) := me_op op_mulM (by rw [← hK]; exact os_mul) ha hb
theorem me_div (ha : PE X a (rdE c ma)) (hb : PE X b (rdE c mb)) : PE X (.BinOp a .FloorDiv b pos) (rdE c (mOp fDiv ma mb)) := me_op op_divM os_div ha hb
theorem me_mod (ha : PE X a (rdE c ma)) (hb : PE X b (rdE c mb)) : PE X (.BinOp a .Mod b pos) (rdE c (mOp fMod ma mb)) := me_op op_modN os_mod ha hb
theorem me_pow (ha : PE X a (rdE c ma)) (hb : PE X b (rdE c mb)) : PE X (.BinOp a .Pow b pos) (rdE c (mOp fPow ma mb)) := me_op op_pow os_pow ha hb
end
end
end Tm
set_option Elab.async false
set_option linter.all false
set_option maxRecDepth 100000
set_option maxHeartbeats 2000000
namespace Tm
open PySem L2
open Evl (Ex ex_rd ex_l ex_t)
section
variable {X : Cx} {c : Ct}
abbrev MG := MV → Env → Option Env
def okG (c : Ct) (F Hk : Hp) (bp : List (Nat × Addr)) (Q : St → Hp → Prop) : Option Env → Prop
  | some ρ' => ∀ Hk' H' σ', Ex Hk Hk' → RS c.K F Hk' H' bp σ' ρ' → Q σ' H'
  | none => False
def rdG (c : Ct) (m : MG) : TG := fun v σ H Q => ∃ F Hk bp ρ x, At c F Hk H bp σ ρ ∧ RV c.K Hk x v ∧ okG c F Hk bp Q (m x ρ)
def rdGs (c : Ct) (m : List MV → Env → Option Env) : TGs := fun vs σ H Q => ∃ F Hk bp ρ xs, At c F Hk H bp σ ρ ∧ RVs c.K Hk xs vs ∧ okG c F Hk bp Q (m xs ρ)
theorem PGw {e : Expr} {t t' : TG} (h : PG X e t) (w : ∀ v σ H Q, t' v σ H Q → t v σ H Q) : PG X e t' := ⟨fun pins s σ H v u Q I r q => h.run pins s σ H v u Q I r (w v σ H Q q)⟩
theorem PGsw {e : List Expr} {t t' : TGs} (h : PGs X e t) (w : ∀ v σ H Q, t' v σ H Q → t v σ H Q) : PGs X e t' := ⟨fun pins s σ H v u Q I r q => h.run pins s σ H v u Q I r (w v σ H Q q)⟩
def gSet (i : Nat) : MG := fun x ρ => if i < ρ.length then some (ρ.set i (some x)) else none
theorem nb {bp : List (Nat × Addr)} {bs : List Nat} {i : Nat} (e : bp.map (·.1) = bs) (h : bs.contains i = false) : ∀ q ∈ bp, q.1 ≠ i := fun q hq z => by
  have m : i ∈ bs := by rw [← e, ← z]; exact List.mem_map.mpr ⟨q, hq, rfl⟩
  rw [List.contains_eq_mem] at h
  simp [m] at h
theorem rd_gname {i : Nat} (hb : c.bs.contains i = false) {v : V} {σ : St} {H : Hp} {Q : St → Hp → Prop} (h : rdG c (gSet i) v σ H Q) : gName i v σ H Q := by
  obtain ⟨F, Hk, bp, ρ, y, S, r, h⟩ := h
  unfold gSet at h
  split at h
  · rename_i hl
    exact h _ _ _ (Ex.refl _) (S.1.set hl r (nb S.2.1 hb))
  · exact h.elim
theorem mg_name {i : Nat} {x : Str} {pos : Pos} (hN : X.N.Nodup) (hi : X.N[i]? = some x) (hx : Loc X.env.scope x) (hb : c.bs.contains i = false := by rfl) (hf : X.fn x = true ∨ X.env.scope.names.lookup x = some .local := by first | exact .inl rfl | exact .inr rfl | assumption) : PG X (.Name x pos) (rdG c (gSet i)) :=
  PGw (pg_name hN hi hx hf) fun v σ H Q h => rd_gname hb h
def gsNil : List MV → Env → Option Env := fun xs ρ => match xs with | [] => some ρ | _ => none
def gsCons (a : MG) (b : List MV → Env → Option Env) : List MV → Env → Option Env := fun xs ρ => match xs with
  | x :: r => (match a x ρ with | some ρ1 => b r ρ1 | none => none)
  | [] => none
def gTp (n : Nat) (b : List MV → Env → Option Env) : MG := fun x ρ => match x with
  | .tup xs => if xs.length = n then b xs ρ else none
  | .lst xs => if xs.length = n then b xs ρ else none
  | _ => none
theorem PGor {e : Expr} {t t' : TG} (h : PG X e t) (g : PG X e t') : PG X e fun v σ H Q => t v σ H Q ∨ t' v σ H Q := ⟨fun pins s σ H v u Q I r q => by
  rcases q with q | q
  · exact h.run pins s σ H v u Q I r q
  · exact g.run pins s σ H v u Q I r q⟩
theorem mgs_nil : PGs X [] (rdGs c gsNil) := PGsw pgs_nil fun vs σ H Q ⟨F, Hk, bp, ρ, xs, S, r, h⟩ => by
  cases xs with
  | nil => exact ⟨RVs.nil.mp r, h _ _ _ (Ex.refl _) S.1⟩
  | cons x xs => exact h.elim
theorem mgs_cons {e : Expr} {es : List Expr} {a : MG} {b : List MV → Env → Option Env} (h1 : PG X e (rdG c a)) (h2 : PGs X es (rdGs c b)) (hs : (assignEach (e :: es) X.env).map (·.2) = assign e X.env :: (assignEach es X.env).map (·.2) := by rfl) : PGs X (e :: es) (rdGs c (gsCons a b)) := PGsw (pgs_cons h1 h2 hs) fun vs σ H Q ⟨F, Hk, bp, ρ, xs, S, r, h⟩ => by
  cases xs with
  | nil => exact h.elim
  | cons x xs =>
    obtain ⟨v, us, rfl, r1, r2⟩ := RVs.cons.mp r
    refine ⟨v, us, rfl, F, Hk, bp, ρ, x, S, r1, ?_⟩
    have h : okG c F Hk bp Q (match a x ρ with | some ρ1 => b xs ρ1 | none => none) := h
    cases e : a x ρ with
    | none => rw [e] at h; exact h
    | some ρ1 =>
      rw [e] at h
      intro Hk1 H1 σ1 x1 S1
      refine ⟨F, Hk1, bp, ρ1, xs, ⟨S1, S.2⟩, r2.mono x1, ?_⟩
      have h : okG c F Hk bp Q (b xs ρ1) := h
      cases e2 : b xs ρ1 with
      | none => rw [e2] at h; exact h
      | some ρ2 => rw [e2] at h; exact fun Hk2 H2 σ2 x2 => h Hk2 H2 σ2 (x1.trans x2)
theorem mg_tup {es : List Expr} {k : Nat} {b : List MV → Env → Option Env} {n : Nat} {pos : Pos} (hc : X.calm = true) (h : PGs X es (rdGs c b)) (hK : c.K = X.K := by rfl)
    (hn : (assignEach es X.env).length = n := by rfl) (hst : (assignEach es X.env).findIdx? (·.1) = none := by rfl) : PG X (.Tuple es k pos) (rdG c (gTp n b)) := PGw (PGor (pg_tup hc h hn hst) (pg_unl hc h hn hst)) fun v σ H Q ⟨F, Hk, bp, ρ, x, S, r, h⟩ => by
  unfold gTp at h
  split at h
  · split at h
    · rename_i xs hl
      obtain ⟨a, vs, rfl, h1, s1⟩ := RV.tup.mp r
      rw [← hK]
      exact .inl ⟨a, vs, rfl, ex_t S.1.ex h1, by rw [s1.length]; exact hl, F, Hk, bp, ρ, xs, S, s1, h⟩
    · exact h.elim
  · split at h
    · rename_i xs hl
      obtain ⟨a, vs, rfl, h1, s1⟩ := RV.lst.mp r
      rw [← hK]
      exact .inr ⟨a, vs, rfl, SqL.of (S.1.ex _ _ h1), by rw [s1.length]; exact hl, F, Hk, bp, ρ, xs, S, s1, h⟩
    · exact h.elim
  · exact h.elim
def mAsg (a : ME) (g : MG) : MS := fun ρ => (a ρ).bind fun x ρ1 => match g x ρ1 with | some ρ2 => .ok (.nx, ρ2) | none => .stuck
theorem rd_asg {a : ME} {g : MG} {D : Ends} {σ : St} {H : Hp} (h : rdS c (mAsg a g) D σ H) : tAsg (rdE c a) (rdG c g) D σ H := by
  obtain ⟨F, Hk, bp, ρ, S, h⟩ := h
  refine rdw (bE (postS (σ := σ)) S h) fun v H1 ⟨Hk1, x, ρ1, x1, S1, r1, h1⟩ => ⟨F, Hk1, bp, ρ1, x, S1, r1, ?_⟩
  have h1 : okS c F Hk1 bp D (match g x ρ1 with | some ρ2 => .ok (.nx, ρ2) | none => .stuck) := h1
  cases e : g x ρ1 with
  | none => rw [e] at h1; exact h1
  | some ρ2 => rw [e] at h1; exact h1
theorem ms_asg {tg e : Expr} {a : ME} {g : MG} {pos : Pos} (he : PE X e (rdE c a)) (hg : PG X tg (rdG c g)) (hs : swapsWithSole [tg] e pos.line X.env = pure false := by rfl) (hw : swappedStores [tg] e X.env = pure none := by rfl)
    (h1 : (assignEach [tg] X.env).map (·.2) = [assign tg X.env] := by rfl) : PS X (.Assign [tg] e pos) (rdS c (mAsg a g)) := PSw (ps_asg he hg hs hw h1) fun _ _ _ h => rd_asg h
theorem rd_set {i : Nat} (hb : c.bs.contains i = false) {a : ME} {D : Ends} {σ : St} {H : Hp} (h : rdS c (mAsg a (gSet i)) D σ H) : tAsg (rdE c a) (gName i) D σ H := rdw (rd_asg h) fun _ _ q => rd_gname hb q
theorem ms_set {i : Nat} {x : Str} {e : Expr} {a : ME} {pos pos' : Pos} (hN : X.N.Nodup) (hi : X.N[i]? = some x) (hx : Loc X.env.scope x) (he : PE X e (rdE c a)) (hb : c.bs.contains i = false := by rfl) (hs : swapsWith e (some (.Name x pos')) pos.line X.env = pure false := by rfl)
    (hf : X.fn x = true ∨ X.env.scope.names.lookup x = some .local := by first | exact .inl rfl | exact .inr rfl | assumption) : PS X (.Assign [.Name x pos'] e pos) (rdS c (mAsg a (gSet i))) := PSw (ps_set hN hi hx he hs hf) fun _ _ _ h => rd_set hb h
def mSetO (i : Nat) (a : ME) : MS := fun ρ => (a ρ).bind fun x ρ1 => if i < ρ1.length then .ok (.nx, ρ1.set i (some x)) else .stuck
theorem rd_setO {i : Nat} {a : ME} {D : Ends} {σ : St} {H : Hp} (hb : c.bs.contains i = false) (h : rdS c (mSetO i a) D σ H) : tAsg (rdO c a) (gName i) D σ H := by
  obtain ⟨F, Hk, bp, ρ, S, h⟩ := h
  refine rdOw (bO (postS (σ := σ)) S h) fun v H1 ⟨Hk1, x, ρ1, x1, S1, h1⟩ => ?_
  split at h1
  · rename_i hl
    refine h1 _ _ _ (Ex.refl _) (S1.take hl fun q hq => ⟨nb S.2.1 hb q hq, ?_⟩)
    have l1 : σ.length = ρ1.length := by have := S1.len; simpa using this
    rw [← l1]
    exact lt_get (S.1.bor q hq)
  · exact h1.elim
theorem ms_setO {i : Nat} {x : Str} {e : Expr} {a : ME} {pos pos' : Pos} (hN : X.N.Nodup) (hi : X.N[i]? = some x) (hx : Loc X.env.scope x) (he : PE X e (rdO c a)) (hb : c.bs.contains i = false := by rfl) (hs : swapsWith e (some (.Name x pos')) pos.line X.env = pure false := by rfl)
    (hf : X.fn x = true ∨ X.env.scope.names.lookup x = some .local := by first | exact .inl rfl | exact .inr rfl | assumption) : PS X (.Assign [.Name x pos'] e pos) (rdS c (mSetO i a)) := PSw (ps_set hN hi hx he hs hf) fun _ _ _ h => rd_setO hb h
def mPass : MS := fun ρ => .ok (.nx, ρ)
def mSeq (a b : MS) : MS := fun ρ => (a ρ).bind fun f ρ1 => match f with | .nx => b ρ1 | f => .ok (f, ρ1)
theorem okS.seq {F Hk : Hp} {bp : List (Nat × Addr)} {D : Ends} {b : MS} (eb : bp.map (·.1) = c.bs ∧ c.J F bp) {r : Res (Fl × Env)} (h : okS c F Hk bp D (r.bind fun f ρ1 => match f with | .nx => b ρ1 | f => .ok (f, ρ1))) : okS c F Hk bp { D with nx := rdS c b D } r := by
  cases r with
  | stuck => exact h
  | exc e ρ => exact h
  | ok q =>
    obtain ⟨f, ρ1⟩ := q
    cases f with
    | nx => exact fun Hk1 H1 σ1 x1 S1 => ⟨F, Hk1, bp, ρ1, ⟨S1, eb⟩, okS.mono x1 h⟩
    | br => exact h
    | ct => exact h
    | rt x => exact h
theorem rd_seq {a b : MS} {D : Ends} {σ : St} {H : Hp} (h : rdS c (mSeq a b) D σ H) : tSeq (rdS c a) (rdS c b) D σ H := by
  obtain ⟨F, Hk, bp, ρ, S, h⟩ := h
  exact ⟨F, Hk, bp, ρ, S, okS.seq S.2 h⟩
theorem mss_nil : PSs X [] (rdS c mPass) := PSsw pss_nil fun D σ H ⟨F, Hk, bp, ρ, S, h⟩ => h _ _ _ (Ex.refl _) S.1
theorem mss_one {st : Stmt} {a : MS} (h : PS X st (rdS c a)) : PSs X [st] (rdS c a) := pss_one h
theorem mss_cons {st : Stmt} {r : List Stmt} {a b : MS} (h : PS X st (rdS c a)) (g : PSs X r (rdS c b)) : PSs X (st :: r) (rdS c (mSeq a b)) := PSsw (pss_cons h g) fun _ _ _ q => rd_seq q
def mIfS (t : MT) (a b : MS) : MS := fun ρ => (t ρ).bind fun x ρ1 => if x then a ρ1 else b ρ1
theorem ms_if {t : Expr} {a b : List Stmt} {mt : MT} {ma mb : MS} {pos : Pos} (ht : PT X t (rdT c mt)) (ha : PSs X a (rdS c ma)) (hb : PSs X b (rdS c mb)) : PS X (.If t a b pos) (rdS c (mIfS mt ma mb)) := PSw (ps_if ht ha hb) fun D σ H ⟨F, Hk, bp, ρ, S, h⟩ => by
  refine rdTw (bT (postS (σ := σ)) S h) fun k H1 ⟨Hk1, ρ1, x1, S1, h1⟩ => ?_
  cases k with
  | true => rw [if_pos rfl] at h1 ⊢; exact ⟨F, Hk1, bp, ρ1, S1, h1⟩
  | false => rw [if_neg (by decide)] at h1 ⊢; exact ⟨F, Hk1, bp, ρ1, S1, h1⟩
def mRet (a : ME) : MS := fun ρ => (a ρ).bind fun x ρ1 => .ok (.rt x, ρ1)
theorem ms_ret {e : Expr} {a : ME} {pos : Pos} (h : PE X e (rdE c a)) : PS X (.Return (some e) pos) (rdS c (mRet a)) := PSw (ps_ret h) fun D σ H ⟨F, Hk, bp, ρ, S, h⟩ =>
  rdw (bE (postS (σ := σ)) S h) fun v H1 ⟨Hk1, x, ρ1, x1, S1, r1, h1⟩ => h1 _ _ _ _ (Ex.refl _) (fun q hq => lt_get (S.1.bor q hq)) (S1.1.push r1)
theorem ms_retO {e : Expr} {a : ME} {pos : Pos} (h : PE X e (rdO c a)) : PS X (.Return (some e) pos) (rdS c (mRet a)) := PSw (ps_ret h) fun D σ H ⟨F, Hk, bp, ρ, S, h⟩ =>
  rdOw (bO (postS (σ := σ)) S h) fun v H1 ⟨Hk1, x, ρ1, x1, S1, h1⟩ => h1 _ _ _ _ (Ex.refl _) (fun q hq => lt_get (S.1.bor q hq)) S1
def mDrop (a : ME) : MS := fun ρ => (a ρ).bind fun _ ρ1 => .ok (.nx, ρ1)
theorem ms_expr {e : Expr} {a : ME} {pos : Pos} (h : PE X e (rdE c a)) (hs : swapsWith e none pos.line X.env = pure false := by rfl) : PS X (.Expr e pos) (rdS c (mDrop a)) := PSw (ps_expr h hs) fun D σ H ⟨F, Hk, bp, ρ, S, h⟩ =>
  rdw (bE (postS (σ := σ)) S h) fun v H1 ⟨Hk1, x, ρ1, x1, S1, r1, h1⟩ => h1 _ _ _ (Ex.refl _) S1.1
def mMove (i : Nat) : ME := fun ρ => match ρ[i]? with
  | some (some (.obj _ _)) => .stuck
  | some (some x) => .ok (x, ρ.set i none)
  | _ => .stuck
theorem rd_move {i : Nat} (hb : c.bs.contains i = false) {σ : St} {H : Hp} {Q : VK} (h : rdO c (mMove i) σ H Q) : tVar i σ H Q := by
  obtain ⟨F, Hk, bp, ρ, S, h⟩ := h
  unfold mMove at h
  split at h
  · exact h.elim
  · rename_i x n hx
    obtain ⟨ow, s⟩ := S.1.ow
    obtain ⟨v, ev, ov⟩ := s.s i x hx
    have li := lt_get hx
    refine ⟨v, ev, h Hk H v (Ex.refl _) ?_⟩
    refine ⟨by simp [S.1.len], S.1.ex, S.1.fr, S.1.frk, ⟨put (put ow i []) ρ.length (ow i), ?_⟩, S.1.bor_app _⟩
    have nl : i ≠ ρ.length := Nat.ne_of_lt li
    have mem : ∀ j a, a ∈ put (put ow i []) ρ.length (ow i) j → (j = ρ.length ∧ a ∈ ow i) ∨ (j ≠ i ∧ j < ρ.length ∧ a ∈ ow j) := fun j a h => by
      by_cases e : j = ρ.length
      · rw [e, put_same] at h; exact .inl ⟨e, h⟩
      · rw [put_ne e] at h
        by_cases e2 : j = i
        · rw [e2, put_same] at h; cases h
        · rw [put_ne e2] at h
          exact .inr ⟨e2, s.w j (by intro z; rw [z] at h; cases h), h⟩
    refine ⟨fun j y hj => ?_, fun j a hj => ?_, fun j hj => ?_, fun j k a hjk hj hk => ?_⟩
    · rcases app_get hj with ⟨e1, e2⟩ | ⟨lt, e2⟩
      · cases e2
        rw [List.length_set] at e1
        refine ⟨v, by rw [e1, ← S.1.len]; simp, ?_⟩
        rw [e1, put_same]; exact ov
      · rcases set_get e2 with ⟨_, e3⟩ | ⟨ne, e3⟩
        · cases e3
        · obtain ⟨w, w1, w2⟩ := s.s j y e3
          have lj := lt_get e3
          exact ⟨w, by rw [List.getElem?_append_left (by rw [S.1.len]; exact lj)]; exact w1, by rw [put_ne (Nat.ne_of_lt lj), put_ne ne]; exact w2⟩
    · rcases mem j a hj with ⟨_, m⟩ | ⟨_, _, m⟩
      · exact s.f i a m
      · exact s.f j a m
    · cases e : put (put ow i []) ρ.length (ow i) j with
      | nil => exact (hj e).elim
      | cons a r =>
        rcases mem j a (by rw [e]; simp) with ⟨e, _⟩ | ⟨_, l, _⟩
        · rw [e]; simp
        · simp; omega
    · rcases mem j a hj with ⟨e1, m⟩ | ⟨e1, l1, m⟩ <;> rcases mem k a hk with ⟨e2, m2⟩ | ⟨e2, l2, m2⟩
      · exact hjk (e1.trans e2.symm)
      · exact s.d i k a (Ne.symm e2) m m2
      · exact s.d j i a e1 m m2
      · exact s.d j k a hjk m m2
  · exact h.elim
theorem mo_var {i : Nat} {x : Str} {pos : Pos} (hN : X.N[i]? = some x) (hv : Vis X.env.scope x) (hb : c.bs.contains i = false := by rfl) (hd : (x == ("__debug__" : Str)) = false := by decide) (hcd : (x == ("__classdict__" : Str)) = false := by decide) : PE X (.Name x pos) (rdO c (mMove i)) :=
  PEw (pe_var hN hv hd hcd) fun _ _ _ h => rd_move hb h
end
end Tm
set_option Elab.async false
set_option linter.all false
set_option maxRecDepth 100000
set_option maxHeartbeats 2000000
namespace Tm
open PySem L2 PySem.Spec PyProof.Rows
structure ZSrc (P : Program) (w : World) (K : PySem.W.Frag) (it : Addr) (fp : List Addr) (S : Hp → List V → Prop) (tn : Nat → Heap → Prop) : Prop where
  obj : ∀ i h, tn i h → ∃ o, h.get? it = some o ∧ ∀ v, o.data ≠ .cell v
  keep : ∀ i h h', tn i h → (∀ o, h.get? it = some o → h'.get? it = some o) → tn i h'
  inj : ∀ (X : Cx), X.K = K → ∀ pins (s : Shared) σ H xs ys, Inv X pins σ H s → S H xs → S H ys → xs = ys
  draw : ∀ (X : Cx), X.prog = P → X.w = w → X.K = K → X.calm = true → ∀ pins (s : Shared) σ H xs i, Inv X pins σ H s → S H xs → tn i s.heap →
    ∃ (Y : Nat → Value → Prop) (St : Nat → Heap → Prop), Draws P w X.A.in1 it fp xs.length Y St ∧ St i s.heap ∧ (∀ j u, Y j u → ∃ x, xs[j]? = some x ∧ RelV x u) ∧ ∀ j h, St j h → tn j h
def ItzG (S1 S2 : Hp → List V → Prop) : It :=
  ⟨fun i H => ∃ (l1 l2 : List V) (x y : V), S1 H l1 ∧ S2 H l2 ∧ l1[i]? = some x ∧ l2[i]? = some y,
    fun i H v H' => ∃ p x y, v = .ref p ∧ H p = none ∧ H' = upd H p (.tup [x, y]) ∧ (∀ l, S1 H l → l[i]? = some x) ∧ ∀ l, S2 H l → l[i]? = some y,
    fun i H => ∃ l1 l2 : List V, S1 H l1 ∧ S2 H l2 ∧ (i = l1.length ∧ l1.length ≤ l2.length ∨ i = l2.length ∧ l2.length ≤ l1.length)⟩
section
variable {P : Program} {w : World} {K : PySem.W.Frag} {elts : List Expr} {kk : Nat} {tpos : Pos} {z TI TO i1 i2 : Addr} {f1 f2 : List Addr} {S1 S2 : Hp → List V → Prop} {tn1 tn2 : Nat → Heap → Prop}
theorem turn_zipG (D : ZipSep2 z TI TO i1 i2 f1 f2) (A1 : ZSrc P w K i1 f1 S1 tn1) (A2 : ZSrc P w K i2 f2 S2 tn2) :
    Turn P w K (.Tuple elts kk tpos) (ItzG S1 S2) [z, TI, TO, i1, i2] z (fun i h => (IsZip h z TI TO .none ∧ IsTupOf2 h TI (.ref i1) (.ref i2) ∧ ∃ x y, IsTupOf2 h TO x y) ∧ tn1 i h ∧ tn2 i h) where
  mem := List.mem_cons_self ..
  obj := by
    rintro i h ⟨⟨gz, gT, p0, q0, gO⟩, t1, t2⟩ c hc
    simp only [List.mem_cons, List.not_mem_nil, or_false] at hc
    rcases hc with rfl | rfl | rfl | rfl | rfl
    · exact ⟨_, gz, by intro v e; cases e⟩
    · exact ⟨_, gT, by intro v e; cases e⟩
    · exact ⟨_, gO, by intro v e; cases e⟩
    · exact A1.obj i h t1
    · exact A2.obj i h t2
  keep := by
    rintro i h h' ⟨⟨gz, gT, p0, q0, gO⟩, t1, t2⟩ hk
    exact ⟨⟨hk z (by simp) _ gz, hk TI (by simp) _ gT, p0, q0, hk TO (by simp) _ gO⟩, A1.keep i h h' t1 (hk i1 (by simp)), A2.keep i h h' t2 (hk i2 (by simp))⟩
  item := by
    intro X hP hw hK hc i pins s σ H E I hf st hg
    subst hP; subst hw; subst hK
    obtain ⟨⟨gz, gT, p0, q0, gO⟩, t1, t2⟩ := st
    obtain ⟨l1, l2, x, y, b1, b2, g1, g2⟩ := hg
    obtain ⟨Y1, St1, d1, e1, r1, k1⟩ := A1.draw X rfl rfl rfl hc pins s σ H l1 i I b1 t1
    obtain ⟨Y2, St2, d2, e2, r2, k2⟩ := A2.draw X rfl rfl rfl hc pins s σ H l2 i I b2 t2
    have m1 : i < l1.length := (List.getElem?_eq_some_iff.mp g1).1
    have m2 : i < l2.length := (List.getElem?_eq_some_iff.mp g2).1
    have zlt : z < s.heap.objs.size := Heap.lt_size gz
    refine wpAny_pyNext_zipD2_item D d1 d2 gz gT gO e1 e2 m1 m2 fun u1 u2 hp tk y1 y2 gz' gO' e1' e2' gN sz hk => ⟨_, rfl, ?_⟩
    obtain ⟨x', a1, v1⟩ := r1 i u1 y1
    obtain ⟨y', a2, v2⟩ := r2 i u2 y2
    rw [g1] at a1
    rw [g2] at a2
    cases a1
    cases a2
    refine wpAny_letOwnedTupleGo_zip (s := { s with heap := hp, toks := tk }) gz' fun hq gq sb => ?_
    have keep : ∀ c o, c ∉ [z, TI, TO, i1, i2] → s.heap.get? c = some o → hq.get? c = some o := by
      intro c o nc ec
      simp only [List.mem_cons, List.not_mem_nil, or_false, not_or] at nc
      exact (sb.2 c nc.1).trans (hk c o nc.1 nc.2.2.1 nc.2.2.2.1 nc.2.2.2.2 ec)
    have gT2 : IsTupOf2 hq s.heap.objs.size u1 u2 := (sb.2 _ (Nat.ne_of_gt zlt)).trans gN
    have new : ObjOk X.prog X.w (upd H s.heap.objs.size (.tup [x, y])) hq s.heap.objs.size (.tup [x, y]) :=
      ⟨by show 2 ≤ sizeLine; decide, [u1, u2], .cons v1 (.cons v2 .nil), ⟨_, gT2, rfl, _, rfl⟩⟩
    have I1 : Inv X pins σ (upd H s.heap.objs.size (.tup [x, y])) { s with heap := hq, toks := tk } := Inv.turnedNew I keep hf (Nat.le_refl _) new
    refine ⟨.ref s.heap.objs.size, _, I1, rfl, ⟨_, x, y, rfl, I.hok.fresh (Nat.le_refl _), rfl, fun l hl => ?_, fun l hl => ?_⟩, ⟨⟨gq, ?_, u1, u2, ?_⟩, ?_, ?_⟩, ?_⟩
    · rw [A1.inj X rfl pins s σ H l l1 I hl b1]; exact g1
    · rw [A2.inj X rfl pins s σ H l l2 I hl b2]; exact g2
    · exact (sb.2 TI D.TIz).trans (hk TI _ D.TIz D.TITO D.TIi1 D.TIi2 gT)
    · exact (sb.2 TO D.TOz).trans gO'
    · exact A1.keep _ hp hq (k1 _ _ e1') fun o e => (sb.2 i1 (Ne.symm D.zi1)).trans e
    · exact A2.keep _ hp hq (k2 _ _ e2') fun o e => (sb.2 i2 (Ne.symm D.zi2)).trans e
    · intro c hcm
      have clt : c < s.heap.objs.size := by
        simp only [List.mem_cons, List.not_mem_nil, or_false] at hcm
        rcases hcm with rfl | rfl | rfl | rfl | rfl
        · exact zlt
        · exact Heap.lt_size gT
        · exact Heap.lt_size gO
        · obtain ⟨o, eo, _⟩ := A1.obj i s.heap t1
          exact Heap.lt_size eo
        · obtain ⟨o, eo, _⟩ := A2.obj i s.heap t2
          exact Heap.lt_size eo
      rw [upd_ne (Nat.ne_of_lt clt)]
      exact (hf c hcm).1
  done := by
    intro X hP hw hK hc i pins s σ H E I hf st hg
    subst hP; subst hw; subst hK
    obtain ⟨⟨gz, gT, p0, q0, gO⟩, t1, t2⟩ := st
    obtain ⟨l1, l2, b1, b2, hend⟩ := hg
    obtain ⟨Y1, St1, d1, e1, r1, k1⟩ := A1.draw X rfl rfl rfl hc pins s σ H l1 i I b1 t1
    obtain ⟨Y2, St2, d2, e2, r2, k2⟩ := A2.draw X rfl rfl rfl hc pins s σ H l2 i I b2 t2
    refine wpAny_pyNext_zipD2_end D d1 d2 gz gT gO e1 e2 (by omega) (by omega) (by omega) fun hp tk hk => ⟨rfl, Inv.turnedL I (fun c o nc ec => ?_) hf⟩
    simp only [List.mem_cons, List.not_mem_nil, or_false, not_or] at nc
    exact hk c o nc.1 nc.2.2.1 nc.2.2.2.1 nc.2.2.2.2 ec
  self := fun A i s Q E st h => wpAny_pyIter_zip st.1.1 h
end
section
variable {P : Program} {w : World} {K : PySem.W.Frag}
theorem vals_back {xs : List V} {us : List Value} {j : Nat} {u : Value} (r : Vals xs us) (h : us[j]? = some u) : ∃ x, xs[j]? = some x ∧ RelV x u := by
  have lt : j < xs.length := by rw [r.length]; exact (List.getElem?_eq_some_iff.mp h).1
  obtain ⟨u', h1, h2⟩ := r.get (List.getElem?_eq_getElem lt)
  rw [h] at h1
  cases h1
  exact ⟨_, List.getElem?_eq_getElem lt, h2⟩
theorem zsrc_l {it a : Addr} (ne : a ≠ it) : ZSrc P w K it [it, a] (fun H xs => SqL K H a xs) (fun i h => h.IsListIter it a i) where
  obj := fun i h ⟨o, e, _, d⟩ => ⟨o, e, by intro v q; rw [d] at q; cases q⟩
  keep := fun i h h' t k => t.at k
  inj := fun X hK pins s σ H xs ys I h1 h2 => by subst hK; exact I.list_inj h1 h2
  draw := fun X hP hw hK hc pins s σ H xs i I h t => by
    subst hP; subst hw; subst hK
    obtain ⟨its, rv, p, _⟩ := I.list h
    have D := Draws.list (prog := X.prog) (w := X.w) (show X.A.in1.handled = none from I.ok.hd hc) it a ne its.toArray
    rw [show its.toArray.size = xs.length by rw [rv.length]; rfl] at D
    exact ⟨_, _, D, ⟨t, p.isList⟩, fun j u hu => vals_back rv (by simpa using hu), fun j h q => q.1⟩
theorem zsrc_t {it a : Addr} (ne : a ≠ it) : ZSrc P w K it [it, a] (fun H xs => SqT K H a xs) (fun i h => h.IsTupleIter it a i) where
  obj := fun i h ⟨o, e, _, d⟩ => ⟨o, e, by intro v q; rw [d] at q; cases q⟩
  keep := fun i h h' t k => t.at k
  inj := fun X hK pins s σ H xs ys I h1 h2 => by subst hK; exact I.tuple_inj h1 h2
  draw := fun X hP hw hK hc pins s σ H xs i I h t => by
    subst hP; subst hw; subst hK
    obtain ⟨its, rv, p, _⟩ := I.tuple h
    have D := Draws.tuple (prog := X.prog) (w := X.w) (show X.A.in1.handled = none from I.ok.hd hc) it a ne its.toArray
    rw [show its.toArray.size = xs.length by rw [rv.length]; rfl] at D
    exact ⟨_, _, D, ⟨t, p⟩, fun j u hu => vals_back rv (by simpa using hu), fun j h q => q.1⟩
def signsV (x : Str) : List V := x.cps.toList.map fun c => V.str ⟨#[c]⟩
theorem zsrc_s {it : Addr} {x : Str} {tk : Tok} : ZSrc P w K it [it] (fun _ xs => xs = signsV x) (fun i h => h.IsStrIter it (strIterType x) x tk i) where
  obj := fun i h ⟨o, e, _, d⟩ => ⟨o, e, by intro v q; rw [d] at q; cases q⟩
  keep := fun i h h' ⟨o, e, r⟩ k => ⟨o, k o e, r⟩
  inj := fun X hK pins s σ H xs ys I h1 h2 => by rw [h1, h2]
  draw := fun X hP hw hK hc pins s σ H xs i I h t => by
    subst hP; subst hw; subst h
    have D := Draws.text (prog := X.prog) (w := X.w) (show X.A.in1.handled = none from I.ok.hd hc) it x tk
    rw [show x.cps.size = (signsV x).length by simp [signsV]] at D
    refine ⟨_, _, D, t, fun j u ⟨c, k, h1, h2⟩ => ⟨.str ⟨#[c]⟩, ?_, ?_⟩, fun j h q => q⟩
    · unfold signsV
      rw [List.getElem?_map, Array.getElem?_toList, h1]; rfl
    · rw [h2]; exact ⟨k, rfl⟩
def ZArg (K : PySem.W.Frag) (H : Hp) (v : V) (S : Hp → List V → Prop) : Prop :=
  (∃ a xs, v = .ref a ∧ SqL K H a xs ∧ S = fun H xs => SqL K H a xs) ∨ (∃ a xs, v = .ref a ∧ SqT K H a xs ∧ S = fun H xs => SqT K H a xs) ∨ ∃ x, v = .str x ∧ S = fun _ xs => xs = signsV x
theorem zarg_begins {X : Cx} {pins : List (Addr × Obj)} {σ : L2.St} {H : Hp} {s : Shared} {v : V} {u : Value} {S : Hp → List V → Prop} (I : Inv X pins σ H s) (r : RelV v u) (h : ZArg X.K H v S) :
    ∃ (o : Obj) (Hb : Heap → Prop) (fp : List Addr), Begins u o Hb ∧ Hb s.heap ∧ (∀ b ∈ fp, b < s.heap.objs.size) ∧
      ∀ it, s.heap.objs.size ≤ it → ∃ tn : Nat → Heap → Prop, ZSrc X.prog X.w X.K it (it :: fp) S tn ∧ ∀ h', h'.get? it = some o → tn 0 h' := by
  rcases h with ⟨a, xs, rfl, hq, rfl⟩ | ⟨a, xs, rfl, hq, rfl⟩ | ⟨x, rfl, rfl⟩
  · cases r
    obtain ⟨its, rv, p, _⟩ := I.list hq
    have lt : a < s.heap.objs.size := p.lt
    exact ⟨_, _, [a], begins_list a its.toArray, p.isList, by simpa using lt, fun it hit => ⟨_, zsrc_l (Nat.ne_of_lt (Nat.lt_of_lt_of_le lt hit)), fun h' e => ⟨_, e, rfl, rfl⟩⟩⟩
  · cases r
    obtain ⟨its, rv, p, _⟩ := I.tuple hq
    have lt : a < s.heap.objs.size := by obtain ⟨o, e, _⟩ := id p; exact Heap.lt_size e
    exact ⟨_, _, [a], begins_tuple a its.toArray, p, by simpa using lt, fun it hit => ⟨_, zsrc_t (Nat.ne_of_lt (Nat.lt_of_lt_of_le lt hit)), fun h' e => ⟨_, e, rfl, rfl⟩⟩⟩
  · obtain ⟨tk, rfl⟩ := r
    exact ⟨_, _, [], begins_text x tk, trivial, by simp, fun it hit => ⟨_, zsrc_s, fun h' e => ⟨_, e, rfl, rfl⟩⟩⟩
end
def iZipG (K : PySem.W.Frag) (ta : TA) : TI := fun σ H R => ta σ H fun vs H1 => ∃ v1 v2 S1 S2, vs = [v1, v2] ∧ ZArg K H1 v1 S1 ∧ ZArg K H1 v2 S2 ∧ R (ItzG S1 S2) H1
theorem pi_zipG {X : Cx} {e e2 : Expr} {ta : TA} {p pos tpos : Pos} {elts : List Expr} {kk : Nat} (hg : Gl X "zip") (hm : X.mg "zip" = none) (ha : PA X [e, e2] ta)
    (hs : starEach [e, e2] X.env = (false, eval e X.env) :: starEach [e2] X.env := by rfl) (hpl : (backTo pos (starEach [e2] X.env)).any (·.1) = false := by rfl) :
    PI X (.Tuple elts kk tpos) (.Call (.Name "zip" p) [e, e2] [] pos) (iZipG X.K ta) := ⟨fun pins s σ H R I h => by
  refine Call_ (ld_blt I hg hm PyProof.Rows.boot_zip (PyProof.Rows.callWith_type1 (thn (ha.run pos pins s σ H _ I h) fun us s1 q => ?_) hs hpl))
  obtain ⟨vs, H1, I1, r1, v1, v2, S1, S2, ex, z1, z2, q⟩ := q
  subst ex
  cases r1 with
  | cons ra rr =>
    cases rr with
    | cons rb rr =>
      cases rr
      obtain ⟨o1, Hb1, fp1, B1, b1, lt1, k1⟩ := zarg_begins I1 ra z1
      obtain ⟨o2, Hb2, fp2, B2, b2, lt2, k2⟩ := zarg_begins I1 rb z2
      obtain ⟨tn1, A1, t1⟩ := k1 s1.heap.objs.size (Nat.le_refl _)
      obtain ⟨tn2, A2, t2⟩ := k2 (s1.heap.objs.size + 1) (Nat.le_add_right _ _)
      refine zip_begins2 B1 B2 b1 b2 fun h' gz gT gO g1 g2 sz hk => wpAny_pyIter_zip gz ?_
      have I2 : Inv X pins σ H1 { s1 with heap := h' } := I1.kept (t' := s1.toks) hk
      have new : ∀ c ∈ [s1.heap.objs.size + 4, s1.heap.objs.size + 2, s1.heap.objs.size + 3, s1.heap.objs.size, s1.heap.objs.size + 1], FpOk X pins H1 c := by
        intro c hc
        have le : s1.heap.objs.size ≤ c := by
          simp only [List.mem_cons, List.not_mem_nil, or_false] at hc
          rcases hc with rfl | rfl | rfl | rfl | rfl <;> first | exact Nat.le_refl _ | exact Nat.le_add_right _ _
        exact I1.fpOk le (I1.hok.fresh le)
      exact ⟨_, _, _, _, H1, rfl, I2, turn_zipG (zip_sep2 lt1 lt2) A1 A2, ⟨⟨gz, gT, _, _, gO⟩, t1 h' g1, t2 h' g2⟩, new, q⟩⟩
end Tm
set_option Elab.async false
set_option linter.all false
set_option maxRecDepth 100000
set_option maxHeartbeats 2000000
namespace Tm
open PySem L2
open Evl (Ex ex_rd ex_l ex_t)
structure Walks (K : PySem.W.Frag) (Hk : Hp) (J : It) (items : List MV) : Prop where
  go : ∀ i H, Ex Hk H → i < items.length → J.go i H
  stop : ∀ H, Ex Hk H → J.stop items.length H
  yld : ∀ i H x H', Ex Hk H → i < items.length → J.yld i H x H' → ∃ y, items[i]? = some y ∧ ((H' = H ∧ RV K Hk y x) ∨ ∃ p vs ys, H p = none ∧ H' = upd H p (.tup vs) ∧ x = .ref p ∧ y = .tup ys ∧ RVs K Hk ys vs)
abbrev MI := Env → Res (List MV × Env)
def okI (c : Ct) (F Hk : Hp) (bp : List (Nat × Addr)) (σ : St) (R : It → Hp → Prop) : Res (List MV × Env) → Prop
  | .ok (xs, ρ') => ∀ Hk' H' J, Ex Hk Hk' → RS c.K F Hk' H' bp σ ρ' → Walks c.K Hk' J xs → R J H'
  | .exc e ρ' => Wish c F Hk bp σ e ρ'
  | .stuck => False
theorem okI.mono {c : Ct} {F Hk Hk' : Hp} {bp : List (Nat × Addr)} {σ : St} {Q : It → Hp → Prop} {r : Res (List MV × Env)} (x : Ex Hk Hk') (h : okI c F Hk bp σ Q r) : okI c F Hk' bp σ Q r := by
  cases r with
  | ok a => exact fun Hk2 H2 v x2 => h Hk2 H2 v (x.trans x2)
  | exc e ρ => exact Wish.mono x h
  | stuck => exact h
theorem postI {c : Ct} {F : Hp} {bp : List (Nat × Addr)} {σ : St} {R : It → Hp → Prop} : Post c F bp σ fun Hk r => okI c F Hk bp σ R r := ⟨fun _ _ _ h => h, fun _ h => h, fun _ _ _ x h => okI.mono x h⟩
def rdI (c : Ct) (m : MI) : TI := fun σ H R => ∃ F Hk bp ρ, At c F Hk H bp σ ρ ∧ okI c F Hk bp σ R (m ρ)
theorem PIw {X : Cx} {tg e : Expr} {t t' : TI} (h : PI X tg e t) (w : ∀ σ H R, t' σ H R → t σ H R) : PI X tg e t' := ⟨fun pins s σ H R I q => h.run pins s σ H R I (w σ H R q)⟩
theorem walks_l {K : PySem.W.Frag} {Hk : Hp} {a : Addr} {xs : List MV} {vs : List V} (h : SqL K Hk a vs) (r : RVs K Hk xs vs) : Walks K Hk (Itl K a) xs := by
  refine ⟨fun i H e hi => ?_, fun H e => ⟨vs, ex_l e h, by rw [r.length]; exact Nat.le_refl _⟩, fun i H x H' e hi y => ?_⟩
  · obtain ⟨v, hv, _⟩ := r.get (i := i) (x := xs[i]) (by simp [hi])
    exact ⟨vs, v, ex_l e h, hv⟩
  · obtain ⟨v, hv, rv⟩ := r.get (i := i) (x := xs[i]) (by simp [hi])
    obtain ⟨e1, y⟩ := y
    have := y vs (ex_l e h)
    rw [hv] at this
    cases this
    exact ⟨xs[i], by simp [hi], .inl ⟨e1, rv⟩⟩
theorem walks_t {K : PySem.W.Frag} {Hk : Hp} {a : Addr} {xs : List MV} {vs : List V} (h : SqT K Hk a vs) (r : RVs K Hk xs vs) : Walks K Hk (Itt K a) xs := by
  refine ⟨fun i H e hi => ?_, fun H e => ⟨vs, ex_t e h, by rw [r.length]; exact Nat.le_refl _⟩, fun i H x H' e hi y => ?_⟩
  · obtain ⟨v, hv, _⟩ := r.get (i := i) (x := xs[i]) (by simp [hi])
    exact ⟨vs, v, ex_t e h, hv⟩
  · obtain ⟨v, hv, rv⟩ := r.get (i := i) (x := xs[i]) (by simp [hi])
    obtain ⟨e1, y⟩ := y
    have := y vs (ex_t e h)
    rw [hv] at this
    cases this
    exact ⟨xs[i], by simp [hi], .inl ⟨e1, rv⟩⟩
def rngM (lo c : Int) (n : Nat) : List MV := (List.range n).map fun i => .int (lo + (i : Nat) * c)
theorem rngM_get {lo c : Int} {n i : Nat} (h : i < n) : (rngM lo c n)[i]? = some (.int (lo + (i : Nat) * c)) := by
  unfold rngM
  rw [List.getElem?_map, List.getElem?_range h]; rfl
theorem rngM_len {lo c : Int} {n : Nat} : (rngM lo c n).length = n := by simp [rngM]
theorem walks_r {K : PySem.W.Frag} {Hk : Hp} {lo : Int} {n : Nat} : Walks K Hk (Itr lo n) (rngM lo 1 n) := by
  refine ⟨fun i H e hi => by rw [rngM_len] at hi; exact hi, fun H e => by rw [rngM_len]; exact Nat.le_refl n, fun i H x H' e hi y => ?_⟩
  rw [rngM_len] at hi
  obtain ⟨e1, e2⟩ := y
  exact ⟨_, rngM_get hi, .inl ⟨e1, by rw [e2, Int.mul_one]; exact RV.int.mpr rfl⟩⟩
def signsM (z : Str) : List MV := z.cps.toList.map fun c => .str ⟨#[c]⟩
theorem walks_s {K : PySem.W.Frag} {Hk : Hp} {z : Str} : Walks K Hk (Its z) (signsM z) := by
  have l : (signsM z).length = z.cps.size := by simp [signsM]
  refine ⟨fun i H e hi => by rw [l] at hi; exact hi, fun H e => by rw [l]; exact Nat.le_refl _, fun i H x H' e hi y => ?_⟩
  obtain ⟨e1, ch, e2, e3⟩ := y
  refine ⟨.str ⟨#[ch]⟩, ?_, .inl ⟨e1, by rw [e3]; exact RV.str.mpr rfl⟩⟩
  unfold signsM
  rw [List.getElem?_map, Array.getElem?_toList, e2]; rfl
def zipM (xs ys : List MV) : List MV := List.zipWith (fun x y => .tup [x, y]) xs ys
theorem zipM_get {xs ys : List MV} {i : Nat} {x y : MV} (h1 : xs[i]? = some x) (h2 : ys[i]? = some y) : (zipM xs ys)[i]? = some (.tup [x, y]) := by
  unfold zipM
  rw [List.getElem?_zipWith, h1, h2]
theorem zipM_len {xs ys : List MV} : (zipM xs ys).length = min xs.length ys.length := by simp [zipM]
theorem rvs2 {K : PySem.W.Frag} {H : Hp} {x y : MV} {v w : V} (h : RV K H x v) (g : RV K H y w) : RVs K H [x, y] [v, w] := RVs.cons.mpr ⟨v, _, rfl, h, RVs.cons.mpr ⟨w, _, rfl, g, RVs.nil.mpr rfl⟩⟩
def ZVal (K : PySem.W.Frag) (Hk : Hp) (S : Hp → List V → Prop) (xs : List MV) : Prop := ∃ vs, (∀ H, Ex Hk H → S H vs) ∧ RVs K Hk xs vs
theorem walks_zg {K : PySem.W.Frag} {Hk : Hp} {S1 S2 : Hp → List V → Prop} {xs ys : List MV} (h1 : ZVal K Hk S1 xs) (h2 : ZVal K Hk S2 ys) : Walks K Hk (ItzG S1 S2) (zipM xs ys) := by
  obtain ⟨vs, g1, r1⟩ := h1
  obtain ⟨ws, g2, r2⟩ := h2
  refine ⟨fun i H e hi => ?_, fun H e => ⟨vs, ws, g1 H e, g2 H e, ?_⟩, fun i H x H' e hi y => ?_⟩
  · rw [zipM_len] at hi
    obtain ⟨v, hv, _⟩ := r1.get (i := i) (x := xs[i]) (by first | (simp; done) | (simp; omega))
    obtain ⟨u, hu, _⟩ := r2.get (i := i) (x := ys[i]) (by first | (simp; done) | (simp; omega))
    exact ⟨vs, ws, v, u, g1 H e, g2 H e, hv, hu⟩
  · rw [zipM_len, r1.length, r2.length]; omega
  · rw [zipM_len] at hi
    obtain ⟨v, hv, rv⟩ := r1.get (i := i) (x := xs[i]) (by first | (simp; done) | (simp; omega))
    obtain ⟨u, hu, ru⟩ := r2.get (i := i) (x := ys[i]) (by first | (simp; done) | (simp; omega))
    obtain ⟨p, x1, y1, e1, e2, e3, e4, e5⟩ := y
    have a1 := e4 vs (g1 H e)
    have a2 := e5 ws (g2 H e)
    rw [hv] at a1
    rw [hu] at a2
    cases a1
    cases a2
    exact ⟨_, zipM_get (x := xs[i]) (y := ys[i]) (by first | (simp; done) | (simp; omega)) (by first | (simp; done) | (simp; omega)), .inr ⟨p, _, _, e2, e3, e1, rfl, rvs2 rv ru⟩⟩
section
variable {X : Cx} {c : Ct} {tg : Expr}
def itemsOf : MV → Option (List MV)
  | .lst xs => some xs
  | .tup xs => some xs
  | .scr ns => some (ns.map .int)
  | .str z => some (signsM z)
  | _ => none
def mItV (a : ME) : MI := fun ρ => (a ρ).bind fun x ρ1 => match itemsOf x with | some xs => .ok (xs, ρ1) | none => .stuck
theorem mi_val {e : Expr} {a : ME} (h : PE X e (rdE c a)) (hK : c.K = X.K := by rfl) : PI X tg e (rdI c (mItV a)) := by
  refine ⟨fun pins s σ H R I q => ?_⟩
  obtain ⟨F, Hk, bp, ρ, S, q⟩ := q
  cases ea : a ρ with
  | stuck => unfold mItV at q; rw [ea] at q; exact q.elim
  | exc x ρ1 =>
    have z : rdE c a σ H fun _ _ => False := ⟨F, Hk, bp, ρ, S, by
      unfold mItV at q; rw [ea] at q ⊢; exact q⟩
    exact (pi_str h).run pins s σ H R I (rdw z fun _ _ f => f.elim)
  | ok p =>
    obtain ⟨x, ρ1⟩ := p
    have q' : okI c F Hk bp σ R (match itemsOf x with | some xs => .ok (xs, ρ1) | none => .stuck) := by unfold mItV at q; rw [ea] at q; exact q
    have ok : ∀ Q : VK, (∀ Hk' H' v, Ex Hk Hk' → RS c.K F Hk' H' bp σ ρ1 → RV c.K Hk' x v → Q v H') → rdE c a σ H Q := fun Q k => ⟨F, Hk, bp, ρ, S, by rw [ea]; exact k⟩
    cases x with
    | lst xs =>
      refine (pi_list h).run pins s σ H R I (ok _ fun Hk1 H1 v x1 S1 r1 => ?_)
      obtain ⟨p, vs, rfl, h1, s1⟩ := RV.lst.mp r1
      refine ⟨p, rfl, ⟨vs, SqL.of (S1.ex _ _ h1)⟩, ?_⟩
      rw [← hK]
      exact q' Hk1 H1 _ x1 S1 (walks_l (SqL.of h1) s1)
    | tup xs =>
      refine (pi_tup h).run pins s σ H R I (ok _ fun Hk1 H1 v x1 S1 r1 => ?_)
      obtain ⟨p, vs, rfl, h1, s1⟩ := RV.tup.mp r1
      refine ⟨p, rfl, ⟨vs, by rw [← hK]; exact ex_t S1.ex h1⟩, ?_⟩
      rw [← hK]
      exact q' Hk1 H1 _ x1 S1 (walks_t h1 s1)
    | scr ns =>
      refine (pi_list h).run pins s σ H R I (ok _ fun Hk1 H1 v x1 S1 r1 => ?_)
      obtain ⟨p, rfl, h1⟩ := RV.scr.mp r1
      refine ⟨p, rfl, ⟨_, by rw [← hK]; exact ex_l S1.ex h1⟩, ?_⟩
      rw [← hK]
      exact q' Hk1 H1 _ x1 S1 (walks_l h1 (RVs.ints.mpr rfl))
    | str z =>
      refine (pi_str h).run pins s σ H R I (ok _ fun Hk1 H1 v x1 S1 r1 => ?_)
      exact ⟨z, RV.str.mp r1, q' Hk1 H1 _ x1 S1 walks_s⟩
    | _ => exact q'.elim
def inR (i : Int) : Bool := decide (-(2 ^ 62) ≤ i) && decide (i < 2 ^ 62)
theorem inR_iff {i : Int} : inR i = true ↔ -(2 ^ 62) ≤ i ∧ i < 2 ^ 62 := by unfold inR; simp
def mR1 (a : MA) : MI := fun ρ => (a ρ).bind fun xs ρ1 => match xs with
  | [.int j] => if inR j then .ok (rngM 0 1 j.toNat, ρ1) else .stuck
  | _ => .stuck
theorem rvs_int1 {K : PySem.W.Frag} {H : Hp} {i : Int} {vs : List V} (r : RVs K H [.int i] vs) : vs = [.int i] := (RVs.ints (ns := [i])).mp r
theorem rvs_int2 {K : PySem.W.Frag} {H : Hp} {i j : Int} {vs : List V} (r : RVs K H [.int i, .int j] vs) : vs = [.int i, .int j] := (RVs.ints (ns := [i, j])).mp r
theorem mi_r1 {a : Expr} {m : MA} {p pos : Pos} (hm : X.mg "range" = none) (ha : PA X [a] (rdA c m)) (hg : Gl X "range" := by rfl) (hs : starEach [a] X.env = [(false, eval a X.env)] := by rfl) : PI X tg (.Call (.Name "range" p) [a] [] pos) (rdI c (mR1 m)) :=
  PIw (pi_range1 hg hm ha hs) fun σ H R ⟨F, Hk, bp, ρ, S, h⟩ => rdAw (bA postI S h) fun vs H1 ⟨Hk1, xs, ρ1, x1, S1, r1, h1⟩ => by
    split at h1
    · rename_i j
      split at h1
      · rename_i hj
        have := inR_iff.mp hj
        exact ⟨j, rvs_int1 r1, this.1, this.2, h1 _ _ _ (Ex.refl _) S1.1 walks_r⟩
      · exact h1.elim
    · exact h1.elim
def zitM : MV → Option (List MV)
  | .lst xs => some xs
  | .tup xs => some xs
  | .str z => some (signsM z)
  | _ => none
theorem rv_signs {K : PySem.W.Frag} {Hk : Hp} (z : Str) : RVs K Hk (signsM z) (signsV z) := by
  unfold signsM signsV
  generalize z.cps.toList = l
  induction l with
  | nil => exact RVs.nil.mpr rfl
  | cons c l ih => exact RVs.cons.mpr ⟨_, _, rfl, RV.str.mpr rfl, ih⟩
theorem zit_arg {K : PySem.W.Frag} {Hk H : Hp} {x : MV} {v : V} {xs : List MV} (e : Ex Hk H) (r : RV K Hk x v) (h : zitM x = some xs) : ∃ S, ZArg K H v S ∧ ZVal K Hk S xs := by
  cases x with
  | lst ys =>
    cases h
    obtain ⟨p, vs, rfl, g, s⟩ := RV.lst.mp r
    exact ⟨_, .inl ⟨p, vs, rfl, SqL.of (e _ _ g), rfl⟩, vs, fun H' e' => ex_l e' (SqL.of g), s⟩
  | tup ys =>
    cases h
    obtain ⟨p, vs, rfl, g, s⟩ := RV.tup.mp r
    exact ⟨_, .inr (.inl ⟨p, vs, rfl, ex_t e g, rfl⟩), vs, fun H' e' => ex_t e' g, s⟩
  | str z =>
    cases h
    rw [RV.str.mp r]
    exact ⟨_, .inr (.inr ⟨z, rfl, rfl⟩), signsV z, fun _ _ => rfl, rv_signs z⟩
  | _ => cases h
def mZip (a : MA) : MI := fun ρ => (a ρ).bind fun xs ρ1 => match xs with
  | [x, y] => (match zitM x, zitM y with | some xs, some ys => .ok (zipM xs ys, ρ1) | _, _ => .stuck)
  | _ => .stuck
theorem mi_zip {e e2 : Expr} {m : MA} {p pos tpos : Pos} {elts : List Expr} {kk : Nat} (hm : X.mg "zip" = none) (ha : PA X [e, e2] (rdA c m)) (hg : Gl X "zip" := by rfl) (hK : c.K = X.K := by rfl)
    (hs : starEach [e, e2] X.env = (false, eval e X.env) :: starEach [e2] X.env := by rfl) (hpl : (backTo pos (starEach [e2] X.env)).any (·.1) = false := by rfl) : PI X (.Tuple elts kk tpos) (.Call (.Name "zip" p) [e, e2] [] pos) (rdI c (mZip m)) :=
  PIw (pi_zipG hg hm ha hs hpl) fun σ H R ⟨F, Hk, bp, ρ, S, h⟩ => rdAw (bA postI S h) fun vs H1 ⟨Hk1, xs, ρ1, x1, S1, r1, h1⟩ => by
    split at h1
    · split at h1
      · rename_i z1 z2
        obtain ⟨v, r, rfl, q1, q2⟩ := RVs.cons.mp r1
        obtain ⟨w, r', rfl, q3, q4⟩ := RVs.cons.mp q2
        rw [RVs.nil.mp q4]
        obtain ⟨T1, y1, y2⟩ := zit_arg S1.1.ex q1 z1
        obtain ⟨T2, y3, y4⟩ := zit_arg S1.1.ex q3 z2
        refine ⟨v, w, T1, T2, rfl, hK ▸ y1, hK ▸ y3, ?_⟩
        exact h1 _ _ _ (Ex.refl _) S1.1 (walks_zg y2 y4)
      · exact h1.elim
    · exact h1.elim
def mLoop (g : MG) (b : MS) : List MV → Env → Res (Fl × Env)
  | [], ρ => .ok (.nx, ρ)
  | x :: xs, ρ => match g x ρ with
    | none => .stuck
    | some ρ1 => (b ρ1).bind fun f ρ2 => match f with
      | .nx => mLoop g b xs ρ2
      | .ct => mLoop g b xs ρ2
      | .br => .ok (.nx, ρ2)
      | .rt v => .ok (.rt v, ρ2)
def mFor (i : MI) (g : MG) (b : MS) : MS := fun ρ => (i ρ).bind fun xs ρ1 => mLoop g b xs ρ1
theorem okS.loop {F Hk : Hp} {bp : List (Nat × Addr)} {D : Ends} {g : MG} {b : MS} {xs : List MV} {N : St → Hp → Prop} (hN : ∀ Hk' H' σ' ρ', Ex Hk Hk' → RS c.K F Hk' H' bp σ' ρ' → okS c F Hk' bp D (mLoop g b xs ρ') → N σ' H') {r : Res (Fl × Env)}
    (h : okS c F Hk bp D (r.bind fun f ρ2 => match f with | .nx => mLoop g b xs ρ2 | .ct => mLoop g b xs ρ2 | .br => .ok (.nx, ρ2) | .rt v => .ok (.rt v, ρ2))) : okS c F Hk bp { D with nx := N, ct := N, bk := D.nx } r := by
  cases r with
  | stuck => exact h
  | exc e ρ => exact h
  | ok q =>
    obtain ⟨f, ρ1⟩ := q
    cases f with
    | nx => exact fun Hk1 H1 σ1 x1 S1 => hN Hk1 H1 σ1 ρ1 x1 S1 (okS.mono x1 h)
    | ct => exact fun Hk1 H1 σ1 x1 S1 => hN Hk1 H1 σ1 ρ1 x1 S1 (okS.mono x1 h)
    | br => exact h
    | rt x => exact h
theorem rd_for {it : MI} {g : MG} {b : MS} {D : Ends} {σ : St} {H : Hp} (h : rdS c (mFor it g b) D σ H) : tFor (rdI c it) (rdG c g) (rdS c b) D σ H := by
  obtain ⟨F, Hk, bp, ρ, S, h⟩ := h
  refine ⟨F, Hk, bp, ρ, S, ?_⟩
  have h : okS c F Hk bp D ((it ρ).bind fun xs ρ1 => mLoop g b xs ρ1) := h
  cases e : it ρ with
  | stuck => rw [e] at h; exact h
  | exc x ρ' => rw [e] at h; exact fun Hk1 H1 cls d => h Hk1 H1 σ cls d
  | ok p =>
    obtain ⟨xs, ρ1⟩ := p
    rw [e] at h
    intro Hk1 H1 J x1 S1 wk
    have h : okS c F Hk1 bp D (mLoop g b xs ρ1) := okS.mono x1 h
    refine ⟨fun i m σ' H' => m = xs.length - i ∧ i ≤ xs.length ∧ ∃ Hk' ρ', Ex Hk1 Hk' ∧ At c F Hk' H' bp σ' ρ' ∧ okS c F Hk' bp D (mLoop g b (xs.drop i) ρ'), ⟨xs.length, by simp, Nat.zero_le _, Hk1, ρ1, Ex.refl _, ⟨S1, S.2⟩, h⟩, ?_⟩
    rintro i m σ' H' ⟨rfl, hi, Hk', ρ', x', S', h'⟩
    by_cases hlt : i < xs.length
    · refine .inr ⟨wk.go i H' (x'.trans S'.1.ex) hlt, fun σ2 H2 => ∃ Hk2 ρ2, Ex Hk1 Hk2 ∧ At c F Hk2 H2 bp σ2 ρ2 ∧ okS c F Hk2 bp D (mLoop g b (xs.drop (i + 1)) ρ2), fun σ2 H2 ⟨Hk2, ρ2, x2, S2, h2⟩ => ⟨xs.length - (i + 1), by omega, rfl, hlt, Hk2, ρ2, x2, S2, h2⟩, fun x H2 y => ?_⟩
      obtain ⟨z, ez, hz⟩ := wk.yld i H' x H2 (x'.trans S'.1.ex) hlt y
      have ed : xs.drop i = z :: xs.drop (i + 1) := by
        rw [List.drop_eq_getElem_cons hlt]
        rw [List.getElem?_eq_getElem hlt] at ez
        cases ez; rfl
      rw [ed] at h'
      have fin : ∀ Hk3, Ex Hk' Hk3 → At c F Hk3 H2 bp σ' ρ' → RV c.K Hk3 z x → rdG c g x σ' H2 fun σ2 H2 => rdS c b { D with nx := fun σ2 H2 => ∃ Hk2 ρ2, Ex Hk1 Hk2 ∧ At c F Hk2 H2 bp σ2 ρ2 ∧ okS c F Hk2 bp D (mLoop g b (xs.drop (i + 1)) ρ2), ct := fun σ2 H2 => ∃ Hk2 ρ2, Ex Hk1 Hk2 ∧ At c F Hk2 H2 bp σ2 ρ2 ∧ okS c F Hk2 bp D (mLoop g b (xs.drop (i + 1)) ρ2), bk := D.nx } σ2 H2 := fun Hk3 x3 S3 r3 => by
        refine ⟨F, Hk3, bp, ρ', z, S3, r3, ?_⟩
        have h' := okS.mono x3 h'
        unfold mLoop at h'
        cases eg : g z ρ' with
        | none => rw [eg] at h'; exact h'
        | some ρ3 =>
          rw [eg] at h'
          intro Hk4 H4 σ4 x4 S4
          refine ⟨F, Hk4, bp, ρ3, ⟨S4, S.2⟩, okS.loop (fun Hk5 H5 σ5 ρ5 x5 S5 h5 => ⟨Hk5, ρ5, x'.trans (x3.trans (x4.trans x5)), ⟨S5, S.2⟩, h5⟩) (okS.mono x4 h')⟩
      rcases hz with ⟨rfl, r⟩ | ⟨p, vs, ys, hp, rfl, rfl, rfl, r⟩
      · exact fin Hk' (Ex.refl _) S' (RV.mono x' _ _ r)
      · have xn := Ex.new (o := .tup vs) (S'.1.ex.back hp)
        exact fin _ xn ⟨S'.1.new hp, S.2⟩ (RV.tup.mpr ⟨p, vs, rfl, SqT.of upd_same, r.mono (x'.trans xn)⟩)
    · have e : i = xs.length := by omega
      subst e
      rw [List.drop_length] at h'
      exact .inl ⟨wk.stop H' (x'.trans S'.1.ex), h' _ _ _ (Ex.refl _) S'.1⟩
theorem ms_for {iter : Expr} {body : List Stmt} {it : MI} {g : MG} {b : MS} {pos : Pos} (hp : PassesOwn (model X.prog X.w) X.A X.env X.xe) (hc : X.calm = true) (hi : PI X tg iter (rdI c it)) (hg : PG X tg (rdG c g)) (hb : PSs X body (rdS c b))
    (hs : ∀ x, foldedSetIterable iter X.env x = pure x := by intro _; rfl) : PS X (.For tg iter body [] pos) (rdS c (mFor it g b)) := PSw (ps_for hp hc hi hg hb hs) fun _ _ _ h => rd_for h
end
end Tm
set_option Elab.async false
set_option linter.all false
set_option maxRecDepth 100000
set_option maxHeartbeats 2000000
namespace Tm
open PySem L2
open Evl (Ex ex_rd ex_l ex_t)
theorem okXN {P : Program} {w : World} {K : PySem.W.Frag} {mg : Str → Option Value} {base : Heap} {x qual : Str} {st : Stmt} {f : Addr} {fd : FuncData} {N ps : List Str} {k : Nat} {sp : Sp} (F : Fun K x qual st f fd) (S : FnScope N ps (defScope st)) (hl : ∀ vs H Q E, sp vs H Q E → vs.length = ps.length)
    (b : ∀ (cdv : Value) (A : Around) (outer : List PySem.Env) (s : Shared) (H : Hp) (vs : List V) (Q : VK) (E : XK), Room k (A.deeper (PyProof.Rows.envOfC qual (defScope st) s.heap.objs.size f cdv)) → sp vs H Q E →
      ∃ t, PSs (cxOf (L2N.CX P w) P w K mg base N qual (defScope st) f cdv A outer s H E) (defBody st) t ∧ t { nx := fun _ H' => Q .non H', rt := Q } (L2.start N vs) H) : FnOk P w K mg base (L2N.CX P w) (k + 1) f fd ps sp := by
  obtain ⟨_, _, _, _, _, _, cv, _, _, rfl, e, hc⟩ := F.ex
  exact fn_of e hc S hl fun A outer s H vs Q E hr h => b cv A outer s H vs Q E hr h
abbrev MF := List MV → Res (MV × Env)
def endOf (bs : List Nat) (ρ : Env) : Env := bs.map fun i => (ρ[i]?).join
def mFn (n : Nat) (bs : List Nat) (m : MS) : MF := fun xs => match m (xs.map some ++ List.replicate (n - xs.length) none) with
  | .ok (.rt v, ρ) => .ok (v, endOf bs ρ)
  | .ok (.nx, ρ) => .ok (.non, endOf bs ρ)
  | .exc e ρ => .exc e (endOf bs ρ)
  | _ => .stuck
def okF (K : PySem.W.Frag) (mg : Str → Option Value) (F Hk : Hp) (bσ : St) (Q : VK) (E : XK) : Res (MV × Env) → Prop
  | .ok (v, bs) => ∀ Hk' H' w, Ex Hk Hk' → RS K F Hk' H' [] (bσ ++ [some w]) (bs ++ [some v]) → Q w H'
  | .exc e bs => ∀ Hk' H' cls d, Ex Hk Hk' → RS K F Hk' H' [] bσ bs → ExR K mg Hk' e cls d → E cls d H'
  | .stuck => False
def spF (K : PySem.W.Frag) (mg : Str → Option Value) (np : Nat) (bs : List Nat) (f : MF) : Sp := fun vs H Q E => vs.length = np ∧ ∃ F Hk bp xs, RS K F Hk H bp (vs.map some) (xs.map some) ∧ bp.map (·.1) = bs ∧ okF K mg F Hk (bp.map fun q => some (.ref q.2)) Q E (f xs)
section
variable {K : PySem.W.Frag} {F Hk H : Hp} {bp : List (Nat × Addr)} {σ : St} {ρ : Env}
theorem RS.pick (S : RS K F Hk H bp (σ ++ [some v]) (ρ ++ [some x])) (is : List Nat) (nd : is.Nodup) (hl : ∀ i ∈ is, i < ρ.length) :
    RS K F Hk H [] ((is.map fun i => (σ[i]?).join) ++ [some v]) ((is.map fun i => (ρ[i]?).join) ++ [some x]) := by
  obtain ⟨ow, s⟩ := S.ow
  have hlen : σ.length = ρ.length := by have := S.len; simpa using this
  have old : ∀ {j i : Nat}, is[j]? = some i → i < ρ.length := fun h => hl _ (List.mem_of_getElem? h)
  refine ⟨by simp, S.ex, S.fr, S.frk, ⟨fun j => match is[j]? with | some i => ow i | none => if j = is.length then ow ρ.length else [], ?_⟩, fun q hq => nomatch hq⟩
  have own : ∀ j a, a ∈ (match is[j]? with | some i => ow i | none => if j = is.length then ow ρ.length else []) → (∃ i, is[j]? = some i ∧ a ∈ ow i) ∨ (j = is.length ∧ a ∈ ow ρ.length) := fun j a h => by
    cases e : is[j]? with
    | some i => rw [e] at h; exact .inl ⟨i, rfl, h⟩
    | none =>
      rw [e] at h
      by_cases e2 : j = is.length
      · rw [if_pos e2] at h; exact .inr ⟨e2, h⟩
      · rw [if_neg e2] at h; cases h
  refine ⟨fun j y h => ?_, fun j a h => ?_, fun j h => ?_, fun j k a hjk h1 h2 => ?_⟩
  · rcases app_get h with ⟨e1, e2⟩ | ⟨lt, e2⟩
    · cases e2
      rw [List.length_map] at e1
      subst e1
      obtain ⟨u, hu, ou⟩ := s.s ρ.length x (by simp)
      have ev : u = v := by rw [← hlen] at hu; simpa using hu.symm
      subst ev
      refine ⟨u, by simp, ?_⟩
      have : is[is.length]? = none := by simp
      rw [this, if_pos rfl]
      exact ou
    · rw [List.length_map] at lt
      rw [List.getElem?_map] at e2
      cases ei : is[j]? with
      | none => rw [ei] at e2; cases e2
      | some i =>
        rw [ei] at e2
        have e3 : ρ[i]? = some (some y) := by
          cases er : ρ[i]? with
          | none => rw [Option.map_some, er] at e2; cases e2
          | some o => rw [Option.map_some, er] at e2; cases o with
            | none => cases e2
            | some z => cases e2; rfl
        have li := old ei
        obtain ⟨w, w1, w2⟩ := s.s i y (by rw [List.getElem?_append_left li]; exact e3)
        rw [List.getElem?_append_left (by rw [hlen]; exact li)] at w1
        refine ⟨w, ?_, w2⟩
        rw [List.getElem?_append_left (by simpa using lt), List.getElem?_map, ei, Option.map_some, w1]; rfl
  · rcases own j a h with ⟨i, _, m⟩ | ⟨_, m⟩
    · exact s.f i a m
    · exact s.f _ a m
  · cases e : (match is[j]? with | some i => ow i | none => if j = is.length then ow ρ.length else []) with
    | nil => exact (h e).elim
    | cons a r =>
      rcases own j a (by rw [e]; simp) with ⟨i, ei, _⟩ | ⟨e2, _⟩
      · have := lt_get ei; simp; omega
      · simp; omega
  · rcases own j a h1 with ⟨i, ei, m⟩ | ⟨e1, m⟩ <;> rcases own k a h2 with ⟨i2, ei2, m2⟩ | ⟨e2, m2⟩
    · have ne : i ≠ i2 := fun z => by
        subst z
        obtain ⟨a1, a2⟩ := List.getElem?_eq_some_iff.mp ei
        obtain ⟨b1, b2⟩ := List.getElem?_eq_some_iff.mp ei2
        exact hjk ((List.getElem_inj nd).mp (a2.trans b2.symm))
      exact s.d i i2 a ne m m2
    · exact s.d i ρ.length a (Nat.ne_of_lt (old ei)) m m2
    · exact s.d i2 ρ.length a (Nat.ne_of_lt (old ei2)) m2 m
    · exact hjk (e1.trans e2.symm)
theorem RS.pad (S : RS K F Hk H bp σ ρ) (n : Nat) : RS K F Hk H bp (σ ++ List.replicate n none) (ρ ++ List.replicate n none) := by
  obtain ⟨ow, s⟩ := S.ow
  have g : ∀ {α : Type} {l : List (Option α)} {j : Nat} {y : α}, (l ++ List.replicate n none)[j]? = some (some y) → l[j]? = some (some y) := fun {α l j y} h => by
    by_cases e : j < l.length
    · rw [List.getElem?_append_left e] at h; exact h
    · rw [List.getElem?_append_right (Nat.le_of_not_lt e), List.getElem?_replicate] at h
      split at h <;> cases h
  have g2 : ∀ {α : Type} {l : List (Option α)} {j : Nat} {y : α}, l[j]? = some (some y) → (l ++ List.replicate n none)[j]? = some (some y) := fun {α l j y} h => by
    rw [List.getElem?_append_left (lt_get h)]; exact h
  refine ⟨by simp [S.len], S.ex, S.fr, S.frk, ⟨ow, fun j y h => ?_, s.f, fun j h => ?_, s.d⟩, fun q hq => g2 (S.bor q hq)⟩
  · obtain ⟨v, e, o⟩ := s.s j y (g h)
    exact ⟨v, g2 e, o⟩
  · have := s.w j h; simp; omega
theorem RS.args {xs : List MV} {vs : List V} (ex : Ex Hk H) (fr : Ex F H) (frk : ∀ a o, F a = some o → Hk a = none) (r : RVs K Hk xs vs) : RS K F Hk H [] (vs.map some) (xs.map some) := by
  refine ⟨by simp [r.length], ex, fr, frk, ⟨fun _ => [], fun j y h => ?_, fun j a h => (nomatch h), fun j h => (h rfl).elim, fun j k a _ h => nomatch h⟩, fun q hq => nomatch hq⟩
  rw [List.getElem?_map] at h
  cases e : xs[j]? with
  | none => rw [e] at h; cases h
  | some z =>
    rw [e] at h
    cases h
    obtain ⟨v, e1, rv⟩ := r.get e
    exact ⟨v, by rw [List.getElem?_map, e1]; rfl, rv.ov⟩
end
section
variable {X : Cx} {c : Ct}
def fz : MV → Option MV
  | .own xs => some (.lst xs)
  | .obj _ _ => none
  | .dow _ _ => none
  | .dot _ _ => none
  | x => some x
def mFz (m : ME) : ME := fun ρ => (m ρ).bind fun x ρ1 => match fz x with | some y => .ok (y, ρ1) | none => .stuck
theorem RS.last {K : PySem.W.Frag} {F Hk H : Hp} {bp : List (Nat × Addr)} {σ : St} {ρ : Env} {v : V} {x y : MV} (S : RS K F Hk H bp (σ ++ [some v]) (ρ ++ [some x])) (hb : ∀ q ∈ bp, q.1 < ρ.length) (e : fz x = some y) :
    ∃ Hk', Ex Hk Hk' ∧ RS K F Hk' H bp σ ρ ∧ RV K Hk' y v := by
  have hl : σ.length = ρ.length := by have := S.len; simpa using this
  have pl : x.per = true → y = x → ∃ Hk', Ex Hk Hk' ∧ RS K F Hk' H bp σ ρ ∧ RV K Hk' y v := fun px ey => by
    subst ey
    obtain ⟨w, ew, rw'⟩ := S.get (i := ρ.length) (x := y) (by simp) px
    rw [← hl] at ew
    have : w = v := by simpa using ew.symm
    subst this
    exact ⟨Hk, Ex.refl _, S.drop hb, rw'⟩
  cases x with
  | own xs =>
    cases e
    obtain ⟨p, vs, e1, ex, r, S'⟩ := S.freeze (i := ρ.length) (xs := xs) (by simp)
    rw [← hl] at e1
    have : v = .ref p := by simpa using e1
    subst this
    refine ⟨_, ex, ?_, r⟩
    have z : (ρ ++ [some (MV.own xs)]).set ρ.length (some (.lst xs)) = ρ ++ [some (.lst xs)] := by simp
    rw [z] at S'
    exact S'.drop hb
  | obj C fs => cases e
  | dow _ _ => cases e
  | dot _ _ => cases e
  | _ => cases e; exact pl rfl rfl
theorem rd_fz {m : ME} {σ : St} {H : Hp} {Q : VK} (h : rdE c (mFz m) σ H Q) : rdO c m σ H Q := by
  obtain ⟨F, Hk, bp, ρ, S, h⟩ := h
  refine ⟨F, Hk, bp, ρ, S, ?_⟩
  have h : okE c F Hk bp σ Q ((m ρ).bind fun x ρ1 => match fz x with | some y => .ok (y, ρ1) | none => .stuck) := h
  cases e : m ρ with
  | stuck => rw [e] at h; exact h
  | exc x ρ' => rw [e] at h; exact h
  | ok p =>
    obtain ⟨x, ρ1⟩ := p
    rw [e] at h
    intro Hk1 H1 v x1 S1
    have h : okE c F Hk bp σ Q (match fz x with | some y => .ok (y, ρ1) | none => .stuck) := h
    have l1 : σ.length = ρ1.length := by have := S1.len; simpa using this
    cases ez : fz x with
    | none => rw [ez] at h; exact h.elim
    | some y =>
      rw [ez] at h
      obtain ⟨Hk2, x2, S2, r2⟩ := S1.last (fun q hq => by rw [← l1]; exact lt_get (S.1.bor q hq)) ez
      exact h _ _ _ (x1.trans x2) S2 r2
theorem me_fz {e : Expr} {m : ME} (h : PE X e (rdO c m)) : PE X e (rdE c (mFz m)) := PEw h fun _ _ _ q => rd_fz q
def mCall (f : MF) (a : MA) : ME := fun ρ => (a ρ).bind fun xs ρ1 => match f xs with
  | .ok (v, _) => .ok (v, ρ1)
  | .exc e _ => .exc e ρ1
  | .stuck => .stuck
theorem call_end {f : MF} {n : Nat} {F Hk H : Hp} {bp : List (Nat × Addr)} {σ : St} {ρ : Env} {xs : List MV} {vs : List V} {Q : VK} {E : XK} (S : At c F Hk H bp σ ρ) (r : RVs c.K Hk xs vs) (hn : xs.length = n)
    (hE : ∀ e, (∀ Hk' H' cls d, Ex Hk Hk' → RS c.K F Hk' H' bp σ ρ → ExR c.K c.mg Hk' e cls d → c.W cls d σ H') → ∀ Hk' H' cls d, Ex Hk Hk' → RS c.K F Hk' H' bp σ ρ → ExR c.K c.mg Hk' e cls d → E cls d H')
    (h : okO c F Hk bp σ Q (match f xs with | .ok (v, _) => .ok (v, ρ) | .exc e _ => .exc e ρ | .stuck => .stuck)) : spF c.K c.mg n [] f vs H Q E := by
  refine ⟨by rw [r.length]; exact hn, ?_⟩
  obtain ⟨ow, s⟩ := S.1.ow
  haveI : ∀ a, Decidable (∃ i, a ∈ ow i) := fun a => Classical.propDecidable _
  have fN : ∃ F' : Hp, (∀ i a, a ∈ ow i → F' a = H a) ∧ (∀ a o, F a = some o → F' a = some o) ∧ ∀ a o, F' a = some o → H a = some o ∧ Hk a = none := by
    refine ⟨fun a => if (∃ i, a ∈ ow i) then H a else F a, fun i a ha => if_pos ⟨i, ha⟩, fun a o ha => ?_, fun a o ha => ?_⟩
    · have : ¬ ∃ i, a ∈ ow i := fun ⟨i, hi⟩ => by have := (s.f i a hi).2.1; rw [ha] at this; cases this
      show (if (∃ i, a ∈ ow i) then H a else F a) = some o
      rw [if_neg this]; exact ha
    · have ha : (if (∃ i, a ∈ ow i) then H a else F a) = some o := ha
      by_cases e : ∃ i, a ∈ ow i
      · rw [if_pos e] at ha
        obtain ⟨i, hi⟩ := e
        exact ⟨ha, (s.f i a hi).1⟩
      · rw [if_neg e] at ha
        exact ⟨S.1.fr a o ha, S.1.frk a o ha⟩
  obtain ⟨F', f1, f2, f3⟩ := fN
  refine ⟨F', Hk, [], xs, RS.args S.1.ex (fun a o ha => (f3 a o ha).1) (fun a o ha => (f3 a o ha).2) r, rfl, ?_⟩
  -- what stands behind the call
  have back : ∀ {Hk' H' : Hp} {bσ : St} {bρ : Env}, Ex Hk Hk' → RS c.K F' Hk' H' [] bσ bρ → RS c.K F Hk' H' bp σ ρ ∧ SL c.K F Hk' H' ow σ ρ := fun {Hk' H' bσ bρ} x S' => by
    have own : ∀ i, ∀ a ∈ ow i, H' a = H a ∧ Hk' a = none := fun i a ha => by
      obtain ⟨g1, g2, o, g3⟩ := s.f i a ha
      have q : F' a = some o := (f1 i a ha).trans g3
      exact ⟨(S'.fr a o q).trans g3.symm, S'.frk a o q⟩
    have sl : SL c.K F Hk' H' ow σ ρ := s.step x own
    exact ⟨⟨S.1.len, S'.ex, fun a o ha => S'.fr a o (f2 a o ha), fun a o ha => S'.frk a o (f2 a o ha), ⟨ow, sl⟩, S.1.bor⟩, sl⟩
  cases ef : f xs with
  | stuck => rw [ef] at h; exact h.elim
  | exc e bs =>
    rw [ef] at h
    intro Hk' H' cls d x S' er
    exact hE e h Hk' H' cls d x (back x S').1 er
  | ok p =>
    obtain ⟨v, bs⟩ := p
    rw [ef] at h
    intro Hk' H' w x S'
    obtain ⟨R1, sl⟩ := back x S'
    refine h Hk' H' w x ?_
    obtain ⟨ow2, s2⟩ := S'.ow
    have bl : bs.length = 0 := by have := S'.len; simpa using this.symm
    have be : bs = [] := List.eq_nil_of_length_eq_zero bl
    subst be
    obtain ⟨w2, e2, o2⟩ := s2.s 0 v rfl
    cases e2
    refine ⟨by simp [S.1.len], R1.ex, R1.fr, R1.frk, ⟨_, sl.push S.1.len o2 (fun a ha => ?_) (fun i a ha hi => ?_)⟩, R1.bor_app _⟩
    · obtain ⟨g1, g2, _⟩ := s2.f 0 a ha
      refine ⟨g1, ?_⟩
      cases e : F a with
      | none => rfl
      | some o => rw [f2 a o e] at g2; cases g2
    · obtain ⟨g1, g2, o, g3⟩ := s2.f 0 a ha
      obtain ⟨_, _, o', q⟩ := s.f i a hi
      rw [f1 i a hi, q] at g2
      cases g2
theorem rd_call {f : MF} {n : Nat} {a : MA} {σ : St} {H : Hp} {Q : VK} (hn : ∀ ρ xs ρ', a ρ = .ok (xs, ρ') → xs.length = n) (h : rdO c (mCall f a) σ H Q) : tCallS (spF c.K c.mg n [] f) (WE c.W) (rdA c a) σ H Q := by
  obtain ⟨F, Hk, bp, ρ, S, h⟩ := h
  refine ⟨F, Hk, bp, ρ, S, ?_⟩
  have h : okO c F Hk bp σ Q ((a ρ).bind fun xs ρ1 => match f xs with | .ok (v, _) => .ok (v, ρ1) | .exc e _ => .exc e ρ1 | .stuck => .stuck) := h
  cases e : a ρ with
  | stuck => rw [e] at h; exact h
  | exc x ρ' => rw [e] at h; exact h
  | ok p =>
    obtain ⟨xs, ρ1⟩ := p
    rw [e] at h
    intro Hk1 H1 vs x1 S1 r1
    exact call_end ⟨S1, S.2⟩ r1 (hn _ _ _ e) (fun e q => q) (okO.mono x1 h)
def Lng (a : MA) (n : Nat) : Prop := ∀ ρ xs ρ', a ρ = .ok (xs, ρ') → xs.length = n
theorem lng_nil : Lng mNil 0 := fun ρ xs ρ' h => by cases h; rfl
theorem lng_cons {a : ME} {b : MA} {n : Nat} (h : Lng b n) : Lng (mCons a b) (n + 1) := fun ρ xs ρ' e => by
  unfold mCons at e
  cases ea : a ρ with
  | stuck => rw [ea] at e; cases e
  | exc x r => rw [ea] at e; cases e
  | ok p =>
    rw [ea] at e
    have e : (b p.2).bind (fun ys ρ2 => Res.ok (p.1 :: ys, ρ2)) = .ok (xs, ρ') := e
    cases eb : b p.2 with
    | stuck => rw [eb] at e; cases e
    | exc x r => rw [eb] at e; cases e
    | ok q =>
      rw [eb] at e
      cases e
      simp [h _ _ _ eb]
variable {k : Nat} {fa : Addr} {fd : FuncData} {ps : List Str} {x : Str} {p pos : Pos} {e : Expr} {es : List Expr} {f : MF} {a : MA} {n : Nat}
theorem mo_call (F : FnOk X.prog X.w X.K X.mg X.base (L2N.CX X.prog X.w) k fa fd ps (spF X.K X.mg n [] f)) (hr : Room k X.A) (hm : X.mg x = some (.ref fa)) (hk : PySem.W.keepIn X.K (.ref fa) = true) (hb : Binds X.K fd ps []) (tk : L2N.Takes X c.W)
    (ha : PA X (e :: es) (rdA c a)) (hn : Lng a n) (hg : Gl X x := by rfl) (hK : c.K = X.K := by rfl) (hM : c.mg = X.mg := by rfl) (hdb : (x == ("__debug__" : Str)) = false := by decide) (he : starEach (e :: es) X.env = (false, eval e X.env) :: starEach es X.env := by rfl)
    (hpl : (backTo pos (starEach es X.env)).any (·.1) = false := by rfl) : PE X (.Call (.Name x p) (e :: es) [] pos) (rdO c (mCall f a)) :=
  PEw (pe_callS (E := WE c.W) F hr hg hm hk hb (fun σ => L2N.passAt tk σ) ha hdb he hpl) fun σ H Q h => by
    have := rd_call hn h
    rw [hK, hM] at this
    exact this
def mCall0 (f : MF) (a : MA) : ME := fun ρ => (a ρ).bind fun xs ρ1 => match f xs with
  | .ok (v, _) => .ok (v, ρ1)
  | _ => .stuck
theorem rd_call0 {f : MF} {n : Nat} {a : MA} {σ : St} {H : Hp} {Q : VK} (hn : Lng a n) (h : rdO c (mCall0 f a) σ H Q) : tCall (spF c.K c.mg n [] f) [] (fun _ _ _ => False) (rdA c a) σ H Q := by
  obtain ⟨F, Hk, bp, ρ, S, h⟩ := h
  refine ⟨F, Hk, bp, ρ, S, ?_⟩
  have h : okO c F Hk bp σ Q ((a ρ).bind fun xs ρ1 => match f xs with | .ok (v, _) => .ok (v, ρ1) | _ => .stuck) := h
  cases e : a ρ with
  | stuck => rw [e] at h; exact h
  | exc x ρ' => rw [e] at h; exact h
  | ok p =>
    obtain ⟨xs, ρ1⟩ := p
    rw [e] at h
    intro Hk1 H1 vs x1 S1 r1
    rw [List.append_nil]
    have h : okO c F Hk bp σ Q (match f xs with | .ok (v, _) => .ok (v, ρ1) | _ => .stuck) := h
    cases ef : f xs with
    | stuck => rw [ef] at h; exact h.elim
    | exc e bs => rw [ef] at h; exact h.elim
    | ok q =>
      rw [ef] at h
      refine call_end (f := f) (c := ⟨c.K, c.mg, fun _ _ _ _ => False, c.bs, c.J, c.Jm⟩) ⟨S1, S.2⟩ r1 (hn _ _ _ e) (fun e q => q) ?_
      rw [ef]
      exact fun Hk2 H2 w x2 => h Hk2 H2 w (x1.trans x2)
theorem passes0 {P : Program} {w : World} {X : Cx} : Passes (L2N.CX P w) X fun _ _ _ => False := fun _ _ _ _ _ _ _ ⟨_, _, _, _, _, _, _, _, _, _, _, _, f⟩ => f.elim
theorem mo_call0 (F : FnOk X.prog X.w X.K X.mg X.base (L2N.CX X.prog X.w) k fa fd ps (spF X.K X.mg n [] f)) (hr : Room k X.A) (hm : X.mg x = some (.ref fa)) (hk : PySem.W.keepIn X.K (.ref fa) = true) (hb : Binds X.K fd ps [])
    (ha : PA X (e :: es) (rdA c a)) (hn : Lng a n) (hg : Gl X x := by rfl) (hK : c.K = X.K := by rfl) (hM : c.mg = X.mg := by rfl) (hdb : (x == ("__debug__" : Str)) = false := by decide) (he : starEach (e :: es) X.env = (false, eval e X.env) :: starEach es X.env := by rfl)
    (hpl : (backTo pos (starEach es X.env)).any (·.1) = false := by rfl) : PE X (.Call (.Name x p) (e :: es) [] pos) (rdO c (mCall0 f a)) :=
  PEw (pe_call F hr hg hm hk hb .nil passes0 ha hdb he hpl) fun σ H Q h => by
    have := rd_call0 hn h
    rw [hK, hM] at this
    exact this
end
section
variable {P : Program} {w : World} {K : PySem.W.Frag} {mg : Str → Option Value} {base : Heap}
theorem start_eq {N : List Str} {vs : List V} {xs : List MV} (h : vs.length = xs.length) : L2.start N vs = vs.map some ++ List.replicate (N.length - xs.length) none := by unfold L2.start; rw [h]
theorem fn_ok {x qual : Str} {st : Stmt} {f : Addr} {fd : FuncData} {N ps : List Str} {k : Nat} {bs : List Nat} {m : MS} (F : Fun K x qual st f fd) (S : FnScope N ps (defScope st)) (nd : bs.Nodup) (hbs : ∀ i ∈ bs, i < ps.length)
    (hbody : ∀ (cdv : Value) (A : Around) (outer : List PySem.Env) (s : Shared) (H : Hp) (E : XK), Room k (A.deeper (PyProof.Rows.envOfC qual (defScope st) s.heap.objs.size f cdv)) →
      PSs (cxOf (L2N.CX P w) P w K mg base N qual (defScope st) f cdv A outer s H E) (defBody st) (rdS ⟨K, mg, fun cls d _ H => E cls d H, bs, fun _ _ => True, fun _ _ _ _ _ => trivial⟩ m)) :
    FnOk P w K mg base (L2N.CX P w) (k + 1) f fd ps (spF K mg ps.length bs (mFn N.length bs m)) := by
  refine okXN F S (fun vs H Q E h => h.1) (fun cdv A outer s H vs Q E hr h => ⟨_, hbody cdv A outer s H E hr, ?_⟩)
  obtain ⟨hl, F', Hk, bp, xs, R, eb, h⟩ := h
  have el : vs.length = xs.length := by have := R.len; simpa using this
  rw [start_eq el]
  refine ⟨F', Hk, bp, _, ⟨R.pad _, eb, trivial⟩, ?_⟩
  have bor : ∀ {σ' : St} {Hk' H' : Hp} {ρ' : Env}, RS K F' Hk' H' bp σ' ρ' → bs.map (fun i => (σ'[i]?).join) = bp.map (fun q => some (.ref q.2)) := fun {σ' Hk' H' ρ'} S' => by
    rw [← eb, List.map_map]
    refine List.map_congr_left fun q hq => ?_
    show (σ'[q.1]?).join = _
    rw [S'.bor q hq]; rfl
  have bl : ∀ {σ' : St} {Hk' H' : Hp} {ρ' : Env}, RS K F' Hk' H' bp σ' ρ' → ∀ i ∈ bs, i < ρ'.length := fun {σ' Hk' H' ρ'} S' i hi => by
    rw [← eb] at hi
    obtain ⟨q, hq, rfl⟩ := List.mem_map.mp hi
    rw [← S'.len]; exact lt_get (S'.bor q hq)
  unfold mFn at h
  cases em : m (xs.map some ++ List.replicate (N.length - xs.length) none) with
  | stuck => rw [em] at h; exact h.elim
  | exc e ρ' =>
    rw [em] at h
    intro Hk' H' σ' cls d x S' er
    refine h Hk' H' cls d x ?_ er
    have z := ((S'.push (x := .non) (v := .non) (RV.non.mpr rfl)).pick bs nd (bl S')).drop (fun _ hq => nomatch hq)
    rw [bor S'] at z
    exact z
  | ok p =>
    obtain ⟨fl, ρ'⟩ := p
    rw [em] at h
    have ret : ∀ {Hk' H' : Hp} {σ' : St} {u : V} {v : MV}, okF K mg F' Hk (bp.map fun q => some (.ref q.2)) Q E (.ok (v, endOf bs ρ')) → Ex Hk Hk' → RS K F' Hk' H' bp (σ' ++ [some u]) (ρ' ++ [some v]) → (∀ q ∈ bp, q.1 < ρ'.length) → Q u H' := fun {Hk' H' σ' u v} h x S' hq => by
      refine h Hk' H' u x ?_
      have z := S'.pick bs nd (fun i hi => by
        rw [← eb] at hi
        obtain ⟨q, hq', rfl⟩ := List.mem_map.mp hi
        exact hq q hq')
      have l1 : σ'.length = ρ'.length := by have := S'.len; simpa using this
      have e2 : bs.map (fun i => (σ'[i]?).join) = bp.map (fun q => some (.ref q.2)) := by
        rw [← eb, List.map_map]
        refine List.map_congr_left fun q hq' => ?_
        show (σ'[q.1]?).join = _
        have := S'.bor q hq'
        rw [List.getElem?_append_left (by rw [l1]; exact hq q hq')] at this
        rw [this]; rfl
      rw [e2] at z
      exact z
    cases fl with
    | nx => exact fun Hk' H' σ' x S' => ret h x (S'.push (x := .non) (v := .non) (RV.non.mpr rfl)) (fun q hq => by rw [← S'.len]; exact lt_get (S'.bor q hq))
    | br => exact h.elim
    | ct => exact h.elim
    | rt v =>
      intro Hk' H' σ' u x lq S'
      have l1 : σ'.length = ρ'.length := by have := S'.len; simpa using this
      exact ret h x S' fun q hq => by rw [← l1]; exact lq q hq
end
end Tm
set_option Elab.async false
set_option linter.all false
set_option maxRecDepth 100000
set_option maxHeartbeats 2000000
namespace Tm
open PySem L2
open Evl (Ex ex_rd ex_l ex_t)
def CallS (K : PySem.W.Frag) (f : List MV → Option MV) (r : List V → Hp → VK → Prop) : Prop := ∀ (xs : List MV) (z : MV) (vs : List V) (Hk H : Hp) (Q : VK), f xs = some z → Ex Hk H → RVs K Hk xs vs → (∀ u, RV K Hk z u → Q u H) →
  (∀ p o, H p = none → RV K (upd Hk p o) z (.ref p) → Q (.ref p) (upd H p o)) → r vs H Q
def mBlt (f : List MV → Option MV) (a : MA) : ME := fun ρ => (a ρ).bind fun xs ρ1 => match f xs with | some z => .ok (z, ρ1) | none => .stuck
section
variable {X : Cx} {c : Ct} {x : Str} {p pos : Pos} {e : Expr} {es : List Expr} {a : MA} {id T : String} {f : List MV → Option MV} {r : List V → Hp → VK → Prop}
theorem rd_blt (o : CallS c.K f r) {σ : St} {H : Hp} {Q : VK} (h : rdE c (mBlt f a) σ H Q) : tCB r (rdA c a) σ H Q := by
  obtain ⟨F, Hk, bp, ρ, S, h⟩ := h
  refine rdAw (bA postE S h) fun vs H1 ⟨Hk1, xs, ρ1, x1, S1, r1, h1⟩ => ?_
  have h1 : okE c F Hk1 bp σ Q (match f xs with | some z => .ok (z, ρ1) | none => .stuck) := h1
  cases ef : f xs with
  | none => rw [ef] at h1; exact h1.elim
  | some z =>
    rw [ef] at h1
    exact o xs z vs Hk1 H1 Q ef S1.1.ex r1 (fun u ru => h1 _ _ u (Ex.refl _) S1.1 ru) fun p ob hp ru => h1 _ _ _ (Ex.new (S1.1.ex.back hp)) (S1.1.new hp) ru
theorem me_blt (hc : CallR X (.builtin id) r) (o : CallS c.K f r) (hm : X.mg x = none) (hv : bootBuiltins x = some (.builtin id)) (ha : PA X (e :: es) (rdA c a)) (hg : Gl X x := by rfl) (hn : x ≠ "__name__" := by decide) (hdb : (x == ("__debug__" : Str)) = false := by decide)
    (he : starEach (e :: es) X.env = (false, eval e X.env) :: starEach es X.env := by rfl) (hpl : (backTo pos (starEach es X.env)).any (·.1) = false := by rfl) : PE X (.Call (.Name x p) (e :: es) [] pos) (rdE c (mBlt f a)) :=
  PEw (pe_callB hc hg hm hv ha hn hdb he hpl) fun _ _ _ h => rd_blt o h
theorem me_ty (hc : CallR X (.type T) r) (o : CallS c.K f r) (hm : X.mg x = none) (hv : bootBuiltins x = some (.type T)) (ha : PA X (e :: es) (rdA c a)) (hg : Gl X x := by rfl) (hn : x ≠ "__name__" := by decide) (hdb : (x == ("__debug__" : Str)) = false := by decide)
    (he : starEach (e :: es) X.env = (false, eval e X.env) :: starEach es X.env := by rfl) (hpl : (backTo pos (starEach es X.env)).any (·.1) = false := by rfl) : PE X (.Call (.Name x p) (e :: es) [] pos) (rdE c (mBlt f a)) :=
  PEw (pe_callTy hc hg hm hv ha hn hdb he hpl) fun _ _ _ h => rd_blt o h
theorem me_glob {v : MV} {w : V} {u : Value} (hm : X.mg x = some u) (rv : RelV w u) (r : ∀ H, RV c.K H v w) (hg : Gl X x := by rfl) (hd : (x == ("__debug__" : Str)) = false := by decide) : PE X (.Name x pos) (rdE c (mC v)) :=
  PEw (pe_glob hg hm rv hd) fun _ _ _ h => rd_c r h
theorem me_bltn {w : V} {u : Value} (hm : X.mg x = none) (hv : bootBuiltins x = some u) (rv : RelV w u) (hg : Gl X x := by rfl) (hn : x ≠ "__name__" := by decide) (hd : (x == ("__debug__" : Str)) = false := by decide) : PE X (.Name x pos) (rdE c (mC (.raw w))) :=
  PEw (pe_bltn hg hm hv rv hn hd) fun _ _ _ h => rd_c (fun _ => RV.raw.mpr rfl) h
end
section
variable {K : PySem.W.Frag}
theorem rvs1 {H : Hp} {x : MV} {vs : List V} (r : RVs K H [x] vs) : ∃ v, vs = [v] ∧ RV K H x v := by
  obtain ⟨v, r', rfl, q1, q2⟩ := RVs.cons.mp r
  rw [RVs.nil.mp q2]
  exact ⟨v, rfl, q1⟩
theorem rvs2' {H : Hp} {x y : MV} {vs : List V} (r : RVs K H [x, y] vs) : ∃ v w, vs = [v, w] ∧ RV K H x v ∧ RV K H y w := by
  obtain ⟨v, r', rfl, q1, q2⟩ := RVs.cons.mp r
  obtain ⟨w, rfl, q3⟩ := rvs1 q2
  exact ⟨v, w, rfl, q1, q3⟩
def bLen : List MV → Option MV
  | [.lst xs] => some (.int xs.length)
  | [.tup xs] => some (.int xs.length)
  | [.scr ns] => some (.int ns.length)
  | [.str z] => if szOk z.length then some (.int z.length) else none
  | _ => none
def rLenM (K : PySem.W.Frag) : List V → Hp → VK → Prop := fun xs H Q => (∃ p ys, xs = [.ref p] ∧ (SqL K H p ys ∨ SqT K H p ys) ∧ Q (.int ys.length) H) ∨ ∃ z, xs = [.str z] ∧ z.length ≤ sizeLine ∧ Q (.int z.length) H
theorem cr_lenM {X : Cx} : CallR X (.builtin "len") (rLenM X.K) := CallR.or call_len_seq call_len_str
theorem cs_len : CallS K bLen (rLenM K) := by
  intro xs z vs Hk H Q e ex r q qn
  unfold bLen at e
  split at e
  · cases e
    obtain ⟨v, rfl, rv⟩ := rvs1 r
    obtain ⟨p1, ws, rfl, h1, s1⟩ := RV.lst.mp rv
    exact .inl ⟨p1, ws, rfl, .inl (SqL.of (ex _ _ h1)), by rw [s1.length]; exact q _ (RV.int.mpr rfl)⟩
  · cases e
    obtain ⟨v, rfl, rv⟩ := rvs1 r
    obtain ⟨p1, ws, rfl, h1, s1⟩ := RV.tup.mp rv
    exact .inl ⟨p1, ws, rfl, .inr (ex_t ex h1), by rw [s1.length]; exact q _ (RV.int.mpr rfl)⟩
  · cases e
    obtain ⟨v, rfl, rv⟩ := rvs1 r
    obtain ⟨p1, rfl, h1⟩ := RV.scr.mp rv
    exact .inl ⟨p1, _, rfl, .inl (ex_l ex h1), by rw [List.length_map]; exact q _ (RV.int.mpr rfl)⟩
  · split at e
    · rename_i hz
      cases e
      obtain ⟨v, rfl, rv⟩ := rvs1 r
      exact .inr ⟨_, by rw [RV.str.mp rv], szOk_iff.mp hz, q _ (RV.int.mpr rfl)⟩
    · cases e
  · cases e
def bAbs : List MV → Option MV
  | [.int i] => some (.int (if i < 0 then -i else i))
  | _ => none
theorem cs_abs : CallS K bAbs (fun xs H Q => ∃ i, xs = [.int i] ∧ Q (.int (if i < 0 then -i else i)) H) := by
  intro xs z vs Hk H Q e ex r q qn
  unfold bAbs at e
  split at e
  · cases e
    exact ⟨_, rvs_int1 r, q _ (RV.int.mpr rfl)⟩
  · cases e
def bInt : List MV → Option MV
  | [.int i] => some (.int i)
  | [.bl k] => some (.int (if k then 1 else 0))
  | [.str s] => if decide (s.length ≤ 640) then (PySem.intText? s).map .int else none
  | _ => none
def rIntM : List V → Hp → VK → Prop := fun xs H Q => ((∃ i, xs = [.int i] ∧ Q (.int i) H) ∨ ∃ k, xs = [.bl k] ∧ Q (.int (if k then 1 else 0)) H) ∨ ∃ a n, xs = [.str a] ∧ PySem.intText? a = some n ∧ a.length ≤ 640 ∧ Q (.int n) H
theorem cr_intM {X : Cx} : CallR X (.type "int") rIntM := CallR.or call_int1 call_int_str
theorem cs_int : CallS K bInt rIntM := by
  intro xs z vs Hk H Q e ex r q qn
  unfold bInt at e
  split at e
  · cases e
    exact .inl (.inl ⟨_, rvs_int1 r, q _ (RV.int.mpr rfl)⟩)
  · cases e
    obtain ⟨v, rfl, rv⟩ := rvs1 r
    exact .inl (.inr ⟨_, by rw [RV.bl.mp rv], q _ (RV.int.mpr rfl)⟩)
  · split at e
    · rename_i s hs
      cases en : PySem.intText? s with
      | none => rw [en] at e; cases e
      | some n =>
        rw [en] at e
        cases e
        obtain ⟨v, rfl, rv⟩ := rvs1 r
        exact .inr ⟨s, n, by rw [RV.str.mp rv], en, of_decide_eq_true hs, q _ (RV.int.mpr rfl)⟩
    · cases e
  · cases e
def blsOf : List MV → Option (List Bool)
  | [] => some []
  | .bl b :: r => (blsOf r).map (b :: ·)
  | _ => none
theorem bls_rv {H : Hp} : ∀ {xs : List MV} {bs : List Bool} {vs : List V}, blsOf xs = some bs → RVs K H xs vs → vs = bs.map V.bl
  | [], bs, vs, e, r => by cases e; rw [RVs.nil.mp r]; rfl
  | .bl b :: r', bs, vs, e, r => by
    unfold blsOf at e
    cases h : blsOf r' with
    | none => rw [h] at e; cases e
    | some cs =>
      rw [h] at e
      cases e
      obtain ⟨v, us, rfl, q1, q2⟩ := RVs.cons.mp r
      rw [RV.bl.mp q1, bls_rv h q2]; rfl
  | .non :: _, _, _, e, _ => by cases e
  | .int _ :: _, _, _, e, _ => by cases e
  | .str _ :: _, _, _, e, _ => by cases e
  | .tup _ :: _, _, _, e, _ => by cases e
  | .lst _ :: _, _, _, e, _ => by cases e
  | .own _ :: _, _, _, e, _ => by cases e
  | .raw _ :: _, _, _, e, _ => by cases e
  | .scr _ :: _, _, _, e, _ => by cases e
  | .fnc _ :: _, _, _, e, _ => by cases e
  | .obj _ _ :: _, _, _, e, _ => by cases e
  | .dct _ _ :: _, _, _, e, _ => by cases e
  | .dow _ _ :: _, _, _, e, _ => by cases e
  | .dot _ _ :: _, _, _, e, _ => by cases e
def bAll : List MV → Option MV
  | [.lst xs] => (blsOf xs).map fun bs => .bl (bs.all id)
  | _ => none
theorem cs_all : CallS K bAll (rAll K) := by
  intro xs z vs Hk H Q e ex r q qn
  unfold bAll at e
  split at e
  · rename_i ys
    cases h : blsOf ys with
    | none => rw [h] at e; cases e
    | some bs =>
      rw [h] at e
      cases e
      obtain ⟨v, rfl, rv⟩ := rvs1 r
      obtain ⟨p1, ws, rfl, h1, s1⟩ := RV.lst.mp rv
      have ew := bls_rv h s1
      subst ew
      exact ⟨p1, bs, rfl, SqL.of (ex _ _ h1), q _ (RV.bl.mpr rfl)⟩
  · cases e
inductive Kd where
  | non | bl | int | str | tup | lst
  deriving DecidableEq
def Kd.name : Kd → String
  | .non => "NoneType" | .bl => "bool" | .int => "int" | .str => "str" | .tup => "tuple" | .lst => "list"
def MV.kd : MV → Option Kd
  | .non => some .non | .bl _ => some .bl | .int _ => some .int | .str _ => some .str | .tup _ => some .tup | .lst _ => some .lst
  | _ => none
def kdOf : String → Option Kd
  | "bool" => some .bl | "int" => some .int | "str" => some .str | "tuple" => some .tup | "list" => some .lst
  | _ => none
def Kd.isa (a b : Kd) : Bool := decide (a = b) || (decide (a = .bl) && decide (b = .int))
theorem kit_kd (a b : Kd) (h : b ≠ .non) : kitB a.name b.name = some (a.isa b) := by
  cases a <;> cases b <;> first | exact (h rfl).elim | decide +kernel
def bIsi : List MV → Option MV
  | [x, .raw (.ty T)] => match x.kd, kdOf T with
    | some a, some b => some (.bl (a.isa b))
    | _, _ => none
  | _ => none
theorem kdOf_name {T : String} {b : Kd} (h : kdOf T = some b) : T = b.name ∧ b ≠ .non := by
  unfold kdOf at h
  split at h <;> first | (cases h; exact ⟨rfl, by decide⟩) | cases h
theorem ty_of {Hk H : Hp} {x : MV} {v : V} {a : Kd} (ex : Ex Hk H) (r : RV K Hk x v) (h : x.kd = some a) : TyX K H v (.type a.name) := by
  cases x with
  | non => cases h; rw [RV.non.mp r]; exact .base .non
  | bl b => cases h; rw [RV.bl.mp r]; exact .base (.bl b)
  | int b => cases h; rw [RV.int.mp r]; exact .base (.int b)
  | str b => cases h; rw [RV.str.mp r]; exact .base (.str b)
  | tup xs =>
    cases h
    obtain ⟨p, vs, rfl, h1, _⟩ := RV.tup.mp r
    rcases ex_t ex h1 with (h1 | ⟨o, h1⟩) | ⟨o, its, n, h1, h2, _⟩
    · exact .base (.tup h1)
    · exact .fTuple h1
    · exact .kTuple h1 h2
  | lst xs =>
    cases h
    obtain ⟨p, vs, rfl, h1, _⟩ := RV.lst.mp r
    exact .base (.lst (ex _ _ h1))
  | _ => cases h
theorem cs_isi : CallS K bIsi (rIsi K) := by
  intro xs z vs Hk H Q e ex r q qn
  unfold bIsi at e
  split at e
  · rename_i x T
    split at e
    · rename_i a b e1 e2
      cases e
      obtain ⟨v, w, rfl, r1, r2⟩ := rvs2' r
      obtain ⟨et, nb⟩ := kdOf_name e2
      refine ⟨v, w, _, .type T, _, rfl, ?_, ty_of ex r1 e1, ?_, q _ (RV.bl.mpr rfl)⟩
      · rw [RV.raw.mp r2]; exact .ty T
      · subst et; exact kit_ty (kit_kd a b nb)
    · cases e
  · cases e
def intsOf : List MV → Option (List Int)
  | [] => some []
  | .int b :: r => (intsOf r).map (b :: ·)
  | _ => none
theorem ints_rv {H : Hp} : ∀ {xs : List MV} {bs : List Int} {vs : List V}, intsOf xs = some bs → RVs K H xs vs → vs = bs.map V.int
  | [], bs, vs, e, r => by cases e; rw [RVs.nil.mp r]; rfl
  | .int b :: r', bs, vs, e, r => by
    unfold intsOf at e
    cases h : intsOf r' with
    | none => rw [h] at e; cases e
    | some cs =>
      rw [h] at e
      cases e
      obtain ⟨v, us, rfl, q1, q2⟩ := RVs.cons.mp r
      rw [RV.int.mp q1, ints_rv h q2]; rfl
  | .non :: _, _, _, e, _ => by cases e
  | .bl _ :: _, _, _, e, _ => by cases e
  | .str _ :: _, _, _, e, _ => by cases e
  | .tup _ :: _, _, _, e, _ => by cases e
  | .lst _ :: _, _, _, e, _ => by cases e
  | .own _ :: _, _, _, e, _ => by cases e
  | .raw _ :: _, _, _, e, _ => by cases e
  | .scr _ :: _, _, _, e, _ => by cases e
  | .fnc _ :: _, _, _, e, _ => by cases e
  | .obj _ _ :: _, _, _, e, _ => by cases e
  | .dct _ _ :: _, _, _, e, _ => by cases e
  | .dow _ _ :: _, _, _, e, _ => by cases e
  | .dot _ _ :: _, _, _, e, _ => by cases e
def bSum : List MV → Option MV
  | [.lst xs] => (intsOf xs).map fun bs => .int bs.sum
  | _ => none
theorem cs_sum : CallS K bSum (rSum K) := by
  intro xs z vs Hk H Q e ex r q qn
  unfold bSum at e
  split at e
  · rename_i ys
    cases h : intsOf ys with
    | none => rw [h] at e; cases e
    | some bs =>
      rw [h] at e
      cases e
      obtain ⟨v, rfl, rv⟩ := rvs1 r
      obtain ⟨p1, ws, rfl, h1, s1⟩ := RV.lst.mp rv
      have ew := ints_rv h s1
      subst ew
      exact ⟨p1, bs, rfl, SqL.of (ex _ _ h1), q _ (RV.int.mpr rfl)⟩
  · cases e
end
section
variable {X : Cx} {c : Ct} {p pos : Pos} {e e2 : Expr} {es : List Expr} {a : MA}
theorem mb_len (hm : X.mg "len" = none) (ha : PA X [e] (rdA c a)) (hK : c.K = X.K := by rfl) (hg : Gl X "len" := by rfl) (he : starEach [e] X.env = (false, eval e X.env) :: starEach [] X.env := by rfl) (hpl : (backTo pos (starEach [] X.env)).any (·.1) = false := by rfl) : PE X (.Call (.Name "len" p) [e] [] pos) (rdE c (mBlt bLen a)) :=
  me_blt cr_lenM (by rw [← hK]; exact cs_len) hm PySem.boot_len ha hg (he := he) (hpl := hpl)
theorem mb_abs (hm : X.mg "abs" = none) (ha : PA X [e] (rdA c a)) (hg : Gl X "abs" := by rfl) (he : starEach [e] X.env = (false, eval e X.env) :: starEach [] X.env := by rfl) (hpl : (backTo pos (starEach [] X.env)).any (·.1) = false := by rfl) : PE X (.Call (.Name "abs" p) [e] [] pos) (rdE c (mBlt bAbs a)) :=
  me_blt call_abs cs_abs hm (by decide +kernel) ha hg (he := he) (hpl := hpl)
theorem mb_int (hm : X.mg "int" = none) (ha : PA X [e] (rdA c a)) (hg : Gl X "int" := by rfl) (he : starEach [e] X.env = (false, eval e X.env) :: starEach [] X.env := by rfl) (hpl : (backTo pos (starEach [] X.env)).any (·.1) = false := by rfl) : PE X (.Call (.Name "int" p) [e] [] pos) (rdE c (mBlt bInt a)) :=
  me_ty cr_intM cs_int hm (by decide +kernel) ha hg (he := he) (hpl := hpl)
theorem mb_all (hc : X.calm = true) (hm : X.mg "all" = none) (ha : PA X [e] (rdA c a)) (hK : c.K = X.K := by rfl) (hg : Gl X "all" := by rfl) (he : starEach [e] X.env = (false, eval e X.env) :: starEach [] X.env := by rfl) (hpl : (backTo pos (starEach [] X.env)).any (·.1) = false := by rfl) : PE X (.Call (.Name "all" p) [e] [] pos) (rdE c (mBlt bAll a)) :=
  me_blt (cr_all hc) (by rw [← hK]; exact cs_all) hm (by decide +kernel) ha hg (he := he) (hpl := hpl)
theorem mb_isi (hm : X.mg "isinstance" = none) (ha : PA X [e, e2] (rdA c a)) (hK : c.K = X.K := by rfl) (hg : Gl X "isinstance" := by rfl) (he : starEach [e, e2] X.env = (false, eval e X.env) :: starEach [e2] X.env := by rfl) (hpl : (backTo pos (starEach [e2] X.env)).any (·.1) = false := by rfl) : PE X (.Call (.Name "isinstance" p) [e, e2] [] pos) (rdE c (mBlt bIsi a)) :=
  me_blt call_isi (by rw [← hK]; exact cs_isi) hm (by decide +kernel) ha hg (he := he) (hpl := hpl)
theorem mb_sum (hc : X.calm = true) (hm : X.mg "sum" = none) (ha : PA X [e] (rdA c a)) (hK : c.K = X.K := by rfl) (hg : Gl X "sum" := by rfl) (he : starEach [e] X.env = (false, eval e X.env) :: starEach [] X.env := by rfl) (hpl : (backTo pos (starEach [] X.env)).any (·.1) = false := by rfl) : PE X (.Call (.Name "sum" p) [e] [] pos) (rdE c (mBlt bSum a)) :=
  me_blt (cr_sum hc) (by rw [← hK]; exact cs_sum) hm (by decide +kernel) ha hg (he := he) (hpl := hpl)
end
end Tm
set_option Elab.async false
set_option linter.all false
set_option maxRecDepth 100000
set_option maxHeartbeats 2000000
namespace Tm
open PySem L2
open Evl (Ex ex_rd ex_l ex_t)
section
variable {X : Cx} {c : Ct} {p pos apos cpos : Pos} {e e2 : Expr} {es : List Expr} {a b : ME} {m : MA} {x : Str} {i : Nat}
def isOwn (ρ : Env) (i : Nat) : Bool := match ρ[i]? with | some (some (.own _)) => true | _ => false
theorem own_rs {F Hk H : Hp} {bp : List (Nat × Addr)} {σ : St} {ρ : Env} {i : Nat} (S : At c F Hk H bp σ ρ) (h : isOwn ρ i = true) : ∃ q vs, σ[i]? = some (some (.ref q)) ∧ H q = some (.lst vs) := by
  unfold isOwn at h
  split at h
  · rename_i xs e
    obtain ⟨q, vs, e1, e2, _⟩ := S.1.getOwn e
    exact ⟨q, vs, e1, e2⟩
  · cases h
theorem change_rs {F Hk H : Hp} {bp : List (Nat × Addr)} {σ : St} {ρ : Env} {i : Nat} {xs ys : List MV} {q : Addr} (S : At c F Hk H bp σ ρ) (h : ρ[i]? = some (some (.own xs))) (eq : σ[i]? = some (some (.ref q))) :
    ∃ vs, H q = some (.lst vs) ∧ RVs c.K Hk xs vs ∧ ∀ ws, RVs c.K Hk ys ws → RS c.K F Hk (upd H q (.lst ws)) bp σ (ρ.set i (some (.own ys))) := by
  obtain ⟨p, vs, e1, e2, e3, e4⟩ := S.1.change (ys := ys) h
  rw [eq] at e1
  cases e1
  exact ⟨vs, e2, e3, e4⟩
def mLm (f : List MV → List MV → Option (List MV × MV)) (i : Nat) (a : MA) : ME := fun ρ => if isOwn ρ i then (a ρ).bind fun ys ρ1 => match ρ1[i]? with
  | some (some (.own xs)) => (match f xs ys with | some (zs, z) => .ok (z, ρ1.set i (some (.own zs))) | none => .stuck)
  | _ => .stuck else .stuck
def LmS (K : PySem.W.Frag) (f : List MV → List MV → Option (List MV × MV)) (r : V → List V → Hp → VK → Prop) : Prop := ∀ (xs ys zs : List MV) (z : MV) (q : Addr) (vs us : List V) (Hk H : Hp) (Q : VK), f xs ys = some (zs, z) → Ex Hk H → H q = some (.lst vs) → RVs K Hk xs vs → RVs K Hk ys us →
  (∀ ws u, RVs K Hk zs ws → RV K Hk z u → Q u (upd H q (.lst ws))) → r (.ref q) us H Q
theorem rd_lm {f : List MV → List MV → Option (List MV × MV)} {r : V → List V → Hp → VK → Prop} (o : LmS c.K f r) {σ : St} {H : Hp} {Q : VK} (h : rdE c (mLm f i m) σ H Q) : tBM c.K "list" r (tVar i) (rdA c m) σ H Q := by
  obtain ⟨F, Hk, bp, ρ, S, h⟩ := h
  unfold mLm at h
  split at h
  · rename_i ho
    obtain ⟨q, vs0, eq, hq⟩ := own_rs S ho
    refine ⟨_, eq, .inl ⟨rfl, _, SqL.of hq⟩, ?_⟩
    refine rdAw (bA postE S h) fun us H1 ⟨Hk1, ys, ρ1, x1, S1, r1, h1⟩ => ?_
    split at h1
    · rename_i xs ex
      split at h1
      · rename_i zs z ef
        obtain ⟨vs, g1, g2, g3⟩ := change_rs (ys := zs) S1 ex eq
        exact o xs ys zs z q vs us Hk1 H1 Q ef S1.1.ex g1 g2 r1 fun ws u r2 r3 => h1 _ _ u (Ex.refl _) (g3 ws r2) r3
      · exact h1.elim
    · exact h1.elim
  · exact h.elim
def lmAppend : List MV → List MV → Option (List MV × MV)
  | xs, [y] => if decide (xs.length < sizeLine) then some (xs ++ [y], .non) else none
  | _, _ => none
theorem ls_append {K : PySem.W.Frag} : LmS K lmAppend rAppend := by
  intro xs ys zs z q vs us Hk H Q e ex hq r1 r2 k
  unfold lmAppend at e
  split at e
  · split at e
    · rename_i h
      cases e
      obtain ⟨v, rfl, rv⟩ := rvs1 r2
      refine ⟨q, vs, v, rfl, rfl, hq, by rw [r1.length]; exact of_decide_eq_true h, k _ _ (r1.append ?_) (RV.non.mpr rfl)⟩
      exact RVs.cons.mpr ⟨v, [], rfl, rv, RVs.nil.mpr rfl⟩
    · cases e
  · cases e
def lmExtend : List MV → List MV → Option (List MV × MV)
  | xs, [.lst ys] => if szOk (xs.length + ys.length) then some (xs ++ ys, .non) else none
  | _, _ => none
theorem ls_extend {K : PySem.W.Frag} : LmS K lmExtend rExtend := by
  intro xs ys zs z q vs us Hk H Q e ex hq r1 r2 k
  unfold lmExtend at e
  split at e
  · split at e
    · rename_i h
      cases e
      obtain ⟨v, rfl, rv⟩ := rvs1 r2
      obtain ⟨p1, ws, rfl, h1, s1⟩ := RV.lst.mp rv
      exact ⟨q, p1, vs, ws, rfl, rfl, hq, ex _ _ h1, by rw [r1.length, s1.length]; exact szOk_iff.mp h, k _ _ (r1.append s1) (RV.non.mpr rfl)⟩
    · cases e
  · cases e
theorem me_lm1 {f : List MV → List MV → Option (List MV × MV)} {r : V → List V → Hp → VK → Prop} {id : String} {name : Str} (o : LmS c.K f r) (slot : Slot "list" name id) (hty : typeOf (.builtin id) = pure (.type "method_descriptor")) (hm : MtR X id r) (hN : X.N[i]? = some x) (hv : Vis X.env.scope x) (ha : PA X (e :: es) (rdA c m)) (hK : c.K = X.K := by rfl)
    (hbase : attributeBase (.Name x p) name X.env (eval (.Name x p) X.env) = eval (.Name x p) X.env := by rfl)
    (hfew : ((backTo cpos (starEach (e :: es) X.env)).all (fun x => !x.1) && (backToKw cpos (keywordEach [] X.env)).all (fun x => x.1.isSome)
      && decide ((e :: es).length + ([] : List Keyword).length + (if ([] : List Keyword).isEmpty then 0 else 1) < 30)) = true := by rfl)
    (hline : (apos.endLine == cpos.line) = true := by rfl) (hs : starEach (e :: es) X.env = (false, eval e X.env) :: starEach es X.env := by rfl) (hplain : (backTo cpos (starEach es X.env)).any (·.1) = false := by rfl)
    (hd : (x == ("__debug__" : Str)) = false := by decide) (hcd : (x == ("__classdict__" : Str)) = false := by decide) : PE X (.Call (.Attribute (.Name x p) name apos) (e :: es) [] cpos) (rdE c (mLm f i m)) :=
  PEw (pe_bm PySem.F.plainAttrs_list slot hty hm (pe_var hN hv hd hcd) ha hbase hfew hline hs hplain) fun σ H Q h => by
    have := rd_lm o h
    rw [hK] at this
    exact this
end
end Tm
set_option Elab.async false
set_option linter.all false
set_option maxRecDepth 100000
set_option maxHeartbeats 2000000
namespace Tm
open PySem L2
open Evl (Ex ex_rd ex_l ex_t)
inductive Tgt where
  | nm (i : Nat) | tp (is : List Nat)
def gsOf : List Nat → TGs
  | [] => gNil
  | i :: is => gCons (gName i) (gsOf is)
def gOf (K : PySem.W.Frag) : Tgt → TG
  | .nm i => gName i
  | .tp is => gTup K is.length (gsOf is)
def setAll : List Nat → List MV → Env → Option Env
  | [], [], ρ => some ρ
  | i :: is, x :: xs, ρ => if i < ρ.length then setAll is xs (ρ.set i (some x)) else none
  | _, _, _ => none
def setT (t : Tgt) (x : MV) (ρ : Env) : Option Env := match t with
  | .nm i => if i < ρ.length then some (ρ.set i (some x)) else none
  | .tp is => match x with
    | .tup xs => if xs.length = is.length then setAll is xs ρ else none
    | _ => none
def Tgt.slots : Tgt → List Nat
  | .nm i => [i]
  | .tp is => is
theorem wipe_get (σ : St) : ∀ (vs : List Nat) (j : Nat), (wipe σ vs)[j]? = if j ∈ vs ∧ j < σ.length then some none else σ[j]?
  | [], j => by simp [wipe]
  | v :: vs, j => by
    unfold wipe
    by_cases e : v = j
    · subst e
      by_cases hl : v < σ.length
      · rw [List.getElem?_set_self (by rw [wipe_length]; exact hl), if_pos ⟨by simp, hl⟩]
      · rw [if_neg (by intro h; exact hl h.2), List.getElem?_eq_none (by rw [List.length_set, wipe_length]; omega), List.getElem?_eq_none (by omega)]
    · rw [List.getElem?_set_ne e, wipe_get σ vs j]
      by_cases hm : j ∈ vs ∧ j < σ.length
      · rw [if_pos hm, if_pos ⟨List.mem_cons_of_mem _ hm.1, hm.2⟩]
      · rw [if_neg hm, if_neg (fun h => hm ⟨(List.mem_cons.mp h.1).resolve_left (Ne.symm e), h.2⟩)]
theorem wipe_set {σ : St} {vs : List Nat} {i : Nat} {y : Option V} (h : i ∈ vs) : wipe (σ.set i y) vs = wipe σ vs := by
  refine List.ext_getElem? fun j => ?_
  rw [wipe_get, wipe_get, List.length_set]
  by_cases hm : j ∈ vs ∧ j < σ.length
  · rw [if_pos hm, if_pos hm]
  · rw [if_neg hm, if_neg hm]
    by_cases e : i = j
    · subst e
      have : σ.length ≤ i := Nat.le_of_not_lt fun z => hm ⟨h, z⟩
      rw [List.getElem?_eq_none (by simpa using this), List.getElem?_eq_none this]
    · rw [List.getElem?_set_ne e]
theorem wipe_wipe (σ : St) (vs : List Nat) : wipe (wipe σ vs) vs = wipe σ vs := by
  refine List.ext_getElem? fun j => ?_
  rw [wipe_get, wipe_length, wipe_get]
  by_cases hm : j ∈ vs ∧ j < σ.length
  · rw [if_pos hm, if_pos hm]
  · rw [if_neg hm]
def wipeM (ρ : Env) : List Nat → Env
  | [] => ρ
  | v :: vs => (wipeM ρ vs).set v none
theorem wipeM_len (ρ : Env) : ∀ vs : List Nat, (wipeM ρ vs).length = ρ.length
  | [] => rfl
  | v :: vs => by unfold wipeM; rw [List.length_set, wipeM_len ρ vs]
theorem wipeM_get (σ : Env) : ∀ (vs : List Nat) (j : Nat), (wipeM σ vs)[j]? = if j ∈ vs ∧ j < σ.length then some none else σ[j]?
  | [], j => by simp [wipeM]
  | v :: vs, j => by
    unfold wipeM
    by_cases e : v = j
    · subst e
      by_cases hl : v < σ.length
      · rw [List.getElem?_set_self (by rw [wipeM_len]; exact hl), if_pos ⟨by simp, hl⟩]
      · rw [if_neg (by intro h; exact hl h.2), List.getElem?_eq_none (by rw [List.length_set, wipeM_len]; omega), List.getElem?_eq_none (by omega)]
    · rw [List.getElem?_set_ne e, wipeM_get σ vs j]
      by_cases hm : j ∈ vs ∧ j < σ.length
      · rw [if_pos hm, if_pos ⟨List.mem_cons_of_mem _ hm.1, hm.2⟩]
      · rw [if_neg hm, if_neg (fun h => hm ⟨(List.mem_cons.mp h.1).resolve_left (Ne.symm e), h.2⟩)]
def perAt (ρ : Env) (vs : List Nat) : Bool := vs.all fun i => match ρ[i]? with
  | some (some x) => x.per
  | _ => true
def backM (ρ ρ' : Env) (vs : List Nat) : Env := vs.foldl (fun r i => r.set i ((ρ[i]?).join)) ρ'
section
variable {K : PySem.W.Frag} {F Hk H : Hp} {bp : List (Nat × Addr)} {σ : St} {ρ : Env}
theorem SL.setNone {ow : Nat → List Addr} (S : SL K F Hk H ow σ ρ) {i : Nat} : SL K F Hk H (put ow i []) (σ.set i none) (ρ.set i none) := by
  refine ⟨fun j y h => ?_, fun j a h => ?_, fun j h => ?_, fun j k a hjk h => ?_⟩
  · rcases set_get h with ⟨_, e⟩ | ⟨ne, e⟩
    · cases e
    · obtain ⟨u, e1, e2⟩ := S.s j y e
      exact ⟨u, by rw [List.getElem?_set_ne (Ne.symm ne)]; exact e1, by rw [put_ne ne]; exact e2⟩
  · by_cases e : j = i
    · rw [e, put_same] at h; cases h
    · rw [put_ne e] at h; exact S.f j a h
  · by_cases e : j = i
    · rw [e, put_same] at h; exact (h rfl).elim
    · rw [put_ne e] at h; rw [List.length_set]; exact S.w j h
  · by_cases e : j = i
    · rw [e, put_same] at h; cases h
    · rw [put_ne e] at h
      by_cases e2 : k = i
      · rw [e2, put_same]; simp
      · rw [put_ne e2]; exact S.d j k a hjk h
theorem RS.setNone (S : RS K F Hk H bp σ ρ) {i : Nat} (hb : ∀ q ∈ bp, q.1 ≠ i) : RS K F Hk H bp (σ.set i none) (ρ.set i none) := by
  obtain ⟨ow, s⟩ := S.ow
  exact ⟨by simp [S.len], S.ex, S.fr, S.frk, ⟨_, s.setNone⟩, fun q hq => by rw [List.getElem?_set_ne (Ne.symm (hb q hq))]; exact S.bor q hq⟩
theorem RS.wipe (S : RS K F Hk H bp σ ρ) : ∀ vs : List Nat, (∀ q ∈ bp, q.1 ∉ vs) → RS K F Hk H bp (L2.wipe σ vs) (wipeM ρ vs)
  | [], _ => S
  | v :: vs, hb => (RS.wipe S vs fun q hq z => hb q hq (List.mem_cons_of_mem _ z)).setNone fun q hq z => hb q hq (by rw [z]; simp)
theorem RS.back (S : RS K F Hk H bp (L2.wipe σ vs) (wipeM ρ' vs)) (S0 : ∀ i ∈ vs, ∀ x, ρ[i]? = some (some x) → ∃ v, σ[i]? = some (some v) ∧ RV K Hk x v) (hl : ρ.length = ρ'.length) (hl2 : σ.length = ρ.length) (hb : ∀ q ∈ bp, q.1 ∉ vs) : RS K F Hk H bp σ (backM ρ ρ' vs) := by
  have gb : ∀ (vs : List Nat) (r : Env) (j : Nat), r.length = ρ.length → (vs.foldl (fun r i => r.set i ((ρ[i]?).join)) r)[j]? = if j ∈ vs ∧ j < ρ.length then some ((ρ[j]?).join) else r[j]? := fun vs => by
    induction vs with
    | nil => intro r j _; simp
    | cons v vs ih =>
      intro r j hr
      rw [List.foldl_cons, ih _ j (by rw [List.length_set]; exact hr)]
      by_cases hm : j ∈ vs ∧ j < ρ.length
      · rw [if_pos hm, if_pos ⟨List.mem_cons_of_mem _ hm.1, hm.2⟩]
      · rw [if_neg hm]
        by_cases e : v = j
        · subst e
          by_cases hl : v < ρ.length
          · rw [List.getElem?_set_self (by rw [hr]; exact hl), if_pos ⟨by simp, hl⟩]
          · rw [if_neg (by intro h; exact hl h.2), List.getElem?_eq_none (by rw [List.length_set, hr]; omega), List.getElem?_eq_none (by omega)]
        · rw [List.getElem?_set_ne e, if_neg (fun h => hm ⟨(List.mem_cons.mp h.1).resolve_left (Ne.symm e), h.2⟩)]
  have gl : ∀ (vs : List Nat) (r : Env), (vs.foldl (fun r i => r.set i ((ρ[i]?).join)) r).length = r.length := fun vs => by
    induction vs with
    | nil => intro r; rfl
    | cons v vs ih => intro r; rw [List.foldl_cons, ih, List.length_set]
  obtain ⟨ow, s⟩ := S.ow
  have lb : (backM ρ ρ' vs).length = ρ.length := by unfold backM; rw [gl, ← hl]
  refine ⟨by rw [lb, hl2], S.ex, S.fr, S.frk, ⟨fun j => if j ∈ vs then [] else ow j, fun j y h => ?_, fun j a h => ?_, fun j h => ?_, fun j k a hjk h => ?_⟩, fun q hq => ?_⟩
  · unfold backM at h
    rw [gb vs ρ' j hl.symm] at h
    by_cases hm : j ∈ vs ∧ j < ρ.length
    · rw [if_pos hm] at h
      have e : ρ[j]? = some (some y) := by
        cases er : ρ[j]? with
        | none => rw [er] at h; cases h
        | some o => rw [er] at h; cases o with
          | none => cases h
          | some z => cases h; rfl
      obtain ⟨v, e1, r⟩ := S0 j hm.1 y e
      exact ⟨v, e1, by rw [if_pos hm.1]; exact r.ov⟩
    · rw [if_neg hm] at h
      have nj : j ∉ vs := fun z => hm ⟨z, by rw [hl]; exact lt_get h⟩
      obtain ⟨v, e1, o⟩ := s.s j y (by rw [wipeM_get, if_neg (fun z => nj z.1)]; exact h)
      rw [wipe_get, if_neg (fun z => nj z.1)] at e1
      exact ⟨v, e1, by rw [if_neg nj]; exact o⟩
  · by_cases e : j ∈ vs
    · rw [if_pos e] at h; cases h
    · rw [if_neg e] at h; exact s.f j a h
  · by_cases e : j ∈ vs
    · rw [if_pos e] at h; exact (h rfl).elim
    · rw [if_neg e] at h; have := s.w j h; rw [wipeM_len] at this; rw [lb, hl]; exact this
  · by_cases e : j ∈ vs
    · rw [if_pos e] at h; cases h
    · rw [if_neg e] at h
      by_cases e2 : k ∈ vs
      · rw [if_pos e2]; simp
      · rw [if_neg e2]; exact s.d j k a hjk h
  · have := S.bor q hq
    rw [wipe_get, if_neg (fun z => hb q hq z.1)] at this
    exact this
end
section
variable {X : Cx} {c : Ct}
theorem gs_rd {F Hk H : Hp} {bp : List (Nat × Addr)} {vs0 : List Nat} (hb : ∀ q ∈ bp, q.1 ∉ vs0) : ∀ (is : List Nat) (xs : List MV) (ws : List V) (σ : St) (ρ ρ' : Env) (Q : St → Hp → Prop), (∀ i ∈ is, i ∈ vs0) → RS c.K F Hk H bp σ ρ → RVs c.K Hk xs ws → setAll is xs ρ = some ρ' →
    (∀ σ', RS c.K F Hk H bp σ' ρ' → wipe σ' vs0 = wipe σ vs0 → Q σ' H) → gsOf is ws σ H Q
  | [], [], ws, σ, ρ, ρ', Q, _, S, r, e, k => by
    cases e
    exact ⟨RVs.nil.mp r, k σ S rfl⟩
  | [], x :: xs, ws, σ, ρ, ρ', Q, _, S, r, e, k => by cases e
  | i :: is, [], ws, σ, ρ, ρ', Q, _, S, r, e, k => by cases e
  | i :: is, x :: xs, ws, σ, ρ, ρ', Q, hi, S, r, e, k => by
    obtain ⟨v, us, rfl, r1, r2⟩ := RVs.cons.mp r
    unfold setAll at e
    split at e
    · rename_i hl
      have hm := hi i (by simp)
      refine ⟨v, us, rfl, ?_⟩
      refine gs_rd hb is xs us _ _ ρ' Q (fun j hj => hi j (List.mem_cons_of_mem _ hj)) (S.set hl r1 fun q hq z => hb q hq (z ▸ hm)) r2 e fun σ' S' w => k σ' S' (by rw [w, wipe_set hm])
    · cases e
theorem g_rd {F Hk H : Hp} {bp : List (Nat × Addr)} {vs0 : List Nat} (hb : ∀ q ∈ bp, q.1 ∉ vs0) {t : Tgt} {x : MV} {v : V} {σ : St} {ρ ρ' : Env} {Q : St → Hp → Prop} (hi : ∀ i ∈ t.slots, i ∈ vs0) (S : RS c.K F Hk H bp σ ρ) (r : RV c.K Hk x v) (e : setT t x ρ = some ρ')
    (k : ∀ σ', RS c.K F Hk H bp σ' ρ' → wipe σ' vs0 = wipe σ vs0 → Q σ' H) : gOf c.K t v σ H Q := by
  cases t with
  | nm i =>
    have e : (if i < ρ.length then some (ρ.set i (some x)) else none) = some ρ' := e
    split at e
    · rename_i hl
      cases e
      have hm := hi i (by simp [Tgt.slots])
      exact k _ (S.set hl r fun q hq z => hb q hq (z ▸ hm)) (wipe_set hm)
    · cases e
  | tp is =>
    cases x with
    | tup xs =>
      have e : (if xs.length = is.length then setAll is xs ρ else none) = some ρ' := e
      split at e
      · rename_i hl
        obtain ⟨a, ws, rfl, h1, s1⟩ := RV.tup.mp r
        exact ⟨a, ws, rfl, ex_t S.ex h1, by rw [s1.length, hl], gs_rd hb is xs ws σ ρ ρ' Q hi S s1 e k⟩
      · cases e
    | _ => cases e
def Res.b0 {α β : Type} (r : Res (α × Env)) (f : α → Env → Res (β × Env)) : Res (β × Env) :=
  match r with
  | .ok (x, ρ) => f x ρ
  | _ => .stuck
def mLcLoop (g : Tgt) (t : MT) (e : ME) (vs : List Nat) : List MV → List MV → Env → Res (List MV × Env)
  | [], acc, ρ => .ok (acc, ρ)
  | x :: xs, acc, ρ => match setT g x (wipeM ρ vs) with
    | none => .stuck
    | some ρ1 => (t ρ1).b0 fun b ρ2 => if b then (e ρ2).b0 fun y ρ3 => (if acc.length < sizeLine ∧ ρ3.length = ρ.length then mLcLoop g t e vs xs (acc ++ [y]) ρ3 else .stuck) else if ρ2.length = ρ.length then mLcLoop g t e vs xs acc ρ2 else .stuck
def mYes : MT := fun ρ => .ok (true, ρ)
def mLcO (it : MI) (g : Tgt) (t : MT) (e : ME) (vs : List Nat) : ME := fun ρ => (it ρ).bind fun xs ρ1 => if perAt ρ1 vs then (mLcLoop g t e vs xs [] ρ1).b0 fun ys ρ2 => .ok (.own ys, backM ρ1 ρ2 vs) else .stuck
theorem b0E {F Hk H : Hp} {bp : List (Nat × Addr)} {σ : St} {ρ : Env} {β : Type} {P : Hp → Res (β × Env) → Prop} (st : ∀ Hk, ¬ P Hk .stuck) (mo : ∀ Hk Hk' r, Ex Hk Hk' → P Hk r → P Hk' r) {a : ME} {k : MV → Env → Res (β × Env)} (S : At c F Hk H bp σ ρ) (h : P Hk ((a ρ).b0 k)) :
    rdE c a σ H fun v H1 => ∃ Hk1 x ρ1, Ex Hk Hk1 ∧ At c F Hk1 H1 bp σ ρ1 ∧ RV c.K Hk1 x v ∧ P Hk1 (k x ρ1) := by
  refine ⟨F, Hk, bp, ρ, S, ?_⟩
  cases e : a ρ with
  | stuck => rw [e] at h; exact st _ h
  | exc x ρ' => rw [e] at h; exact (st _ h).elim
  | ok q =>
    rw [e] at h
    exact fun Hk1 H1 v x1 S1 r1 => ⟨Hk1, q.1, q.2, x1, ⟨S1, S.2⟩, r1, mo _ _ _ x1 h⟩
theorem b0T {F Hk H : Hp} {bp : List (Nat × Addr)} {σ : St} {ρ : Env} {β : Type} {P : Hp → Res (β × Env) → Prop} (st : ∀ Hk, ¬ P Hk .stuck) (mo : ∀ Hk Hk' r, Ex Hk Hk' → P Hk r → P Hk' r) {a : MT} {k : Bool → Env → Res (β × Env)} (S : At c F Hk H bp σ ρ) (h : P Hk ((a ρ).b0 k)) :
    rdT c a σ H fun b H1 => ∃ Hk1 ρ1, Ex Hk Hk1 ∧ At c F Hk1 H1 bp σ ρ1 ∧ P Hk1 (k b ρ1) := by
  refine ⟨F, Hk, bp, ρ, S, ?_⟩
  cases e : a ρ with
  | stuck => rw [e] at h; exact st _ h
  | exc x ρ' => rw [e] at h; exact (st _ h).elim
  | ok q =>
    rw [e] at h
    exact fun Hk1 H1 x1 S1 => ⟨Hk1, q.2, x1, ⟨S1, S.2⟩, mo _ _ _ x1 h⟩
def okB (c : Ct) (F Hk : Hp) (bp : List (Nat × Addr)) (σ : St) (Q : VK) (ρ0 : Env) (vs : List Nat) : Res (List MV × Env) → Prop
  | .ok (ys, ρ') => okO c F Hk bp σ Q (.ok (.own ys, backM ρ0 ρ' vs))
  | _ => False
theorem okB.mono {F Hk Hk' : Hp} {bp : List (Nat × Addr)} {σ : St} {Q : VK} {ρ0 : Env} {vs : List Nat} {r : Res (List MV × Env)} (x : Ex Hk Hk') (h : okB c F Hk bp σ Q ρ0 vs r) : okB c F Hk' bp σ Q ρ0 vs r := by
  cases r with
  | ok a => exact okO.mono (r := .ok (.own a.1, backM ρ0 a.2 vs)) x h
  | exc e ρ => exact h
  | stuck => exact h
theorem RS.inFr {K : PySem.W.Frag} {F Hk H : Hp} {bp : List (Nat × Addr)} {σ : St} {ρ : Env} {D : Addr} {xs : List V} (S : RS K F Hk H bp σ ρ) (h : H D = none) : RS K (upd F D (.lst xs)) Hk (upd H D (.lst xs)) bp σ ρ := by
  have S' := S.more (o := .lst xs) h
  obtain ⟨ow, s⟩ := S.ow
  refine ⟨S.len, S'.ex, S.fr.both h, fun a o ha => ?_, ⟨ow, fun i x hx => ?_, fun i a ha => ?_, s.w, s.d⟩, S.bor⟩
  · by_cases e : a = D
    · rw [e]; exact S.ex.back h
    · rw [upd_ne e] at ha; exact S.frk a o ha
  · obtain ⟨v, ev, o⟩ := s.s i x hx
    exact ⟨v, ev, o.move (Ex.refl _) fun a ha u hu => by rw [upd_ne (ne_of_none hu h)]; exact hu⟩
  · obtain ⟨g1, g2, o, g3⟩ := s.f i a ha
    have ne := ne_of_none g3 h
    exact ⟨g1, by rw [upd_ne ne]; exact g2, o, by rw [upd_ne ne]; exact g3⟩
theorem RS.grow {K : PySem.W.Frag} {F Hk H : Hp} {bp : List (Nat × Addr)} {σ : St} {ρ : Env} {D : Addr} {xs ys : List V} (S : RS K (upd F D (.lst xs)) Hk H bp σ ρ) : RS K (upd F D (.lst ys)) Hk (upd H D (.lst ys)) bp σ ρ := by
  have hk : Hk D = none := S.frk D _ upd_same
  obtain ⟨ow, s⟩ := S.ow
  have nd : ∀ i a, a ∈ ow i → a ≠ D := fun i a ha e => by
    have := (s.f i a ha).2.1
    rw [e, upd_same] at this
    cases this
  refine ⟨S.len, S.ex.mut hk, fun a o ha => ?_, fun a o ha => ?_, ⟨ow, fun i x hx => ?_, fun i a ha => ?_, s.w, s.d⟩, S.bor⟩
  · by_cases e : a = D
    · subst e; rw [upd_same] at ha ⊢; exact ha
    · rw [upd_ne e] at ha ⊢; exact S.fr a o (by rw [upd_ne e]; exact ha)
  · by_cases e : a = D
    · rw [e]; exact hk
    · rw [upd_ne e] at ha; exact S.frk a o (by rw [upd_ne e]; exact ha)
  · obtain ⟨v, ev, o⟩ := s.s i x hx
    exact ⟨v, ev, o.move (Ex.refl _) fun a ha u hu => by rw [upd_ne (nd i a ha)]; exact hu⟩
  · obtain ⟨g1, g2, o, g3⟩ := s.f i a ha
    exact ⟨g1, by have := nd i a ha; rw [upd_ne this] at g2 ⊢; exact g2, o, by rw [upd_ne (nd i a ha)]; exact g3⟩
theorem RS.outFr {K : PySem.W.Frag} {F Hk H : Hp} {bp : List (Nat × Addr)} {σ : St} {ρ : Env} {D : Addr} {vs : List V} {xs : List MV} (S : RS K (upd F D (.lst vs)) Hk H bp σ ρ) (hF : F D = none) (r : RVs K Hk xs vs) : RS K F Hk H bp (σ ++ [some (.ref D)]) (ρ ++ [some (.own xs)]) := by
  have hk : Hk D = none := S.frk D _ upd_same
  have hH : H D = some (.lst vs) := S.fr D _ upd_same
  have up : ∀ a o, F a = some o → upd F D (.lst vs) a = some o := fun a o ha => by rw [upd_ne (ne_of_none ha hF)]; exact ha
  obtain ⟨ow, s⟩ := S.ow
  have nd : ∀ i a, a ∈ ow i → a ≠ D := fun i a ha e => by
    have := (s.f i a ha).2.1
    rw [e, upd_same] at this
    cases this
  have s' : SL K F Hk H ow σ ρ := ⟨s.s, fun i a ha => by
    obtain ⟨g1, g2, g3⟩ := s.f i a ha
    exact ⟨g1, by rw [upd_ne (nd i a ha)] at g2; exact g2, g3⟩, s.w, s.d⟩
  refine ⟨by simp [S.len], S.ex, fun a o ha => S.fr a o (up a o ha), fun a o ha => S.frk a o (up a o ha), ⟨_, s'.push S.len (A := [D]) (OV.own.mpr ⟨D, vs, rfl, rfl, hH, r⟩) (fun a ha => ?_) (fun i a ha hi => ?_)⟩, S.bor_app _⟩
  · simp at ha; subst ha; exact ⟨hk, hF⟩
  · simp at ha; subst ha; exact nd i a hi rfl
theorem rd_lc {it : MI} {g : Tgt} {t : MT} {e : ME} {vs : List Nat} {σ : St} {H : Hp} {Q : VK} (hg : ∀ i ∈ g.slots, i ∈ vs) (hbs : ∀ i ∈ vs, c.bs.contains i = false) (h : rdO c (mLcO it g t e vs) σ H Q) : tLc (rdI c it) (gOf c.K g) (rdT c t) (rdE c e) vs σ H Q := by
  obtain ⟨F, Hk, bp, ρ, S, h⟩ := h
  have hb : ∀ q ∈ bp, q.1 ∉ vs := fun q hq z => nb S.2.1 (hbs _ z) q hq rfl
  refine ⟨F, Hk, bp, ρ, S, ?_⟩
  have h : okO c F Hk bp σ Q ((it ρ).bind fun xs ρ1 => if perAt ρ1 vs then (mLcLoop g t e vs xs [] ρ1).b0 fun ys ρ2 => .ok (.own ys, backM ρ1 ρ2 vs) else .stuck) := h
  cases ei : it ρ with
  | stuck => rw [ei] at h; exact h
  | exc x ρ' => rw [ei] at h; exact h
  | ok p =>
    obtain ⟨xs, ρ1⟩ := p
    rw [ei] at h
    intro Hk1 H1 J x1 S1 wk D hD
    have h : okO c F Hk1 bp σ Q (if perAt ρ1 vs then (mLcLoop g t e vs xs [] ρ1).b0 fun ys ρ2 => .ok (.own ys, backM ρ1 ρ2 vs) else .stuck) := okO.mono x1 h
    split at h
    · rename_i hper
      have h : okB c F Hk1 bp σ Q ρ1 vs (mLcLoop g t e vs xs [] ρ1) := by
        cases e2 : mLcLoop g t e vs xs [] ρ1 with
        | ok q => rw [e2] at h; exact h
        | exc x r => rw [e2] at h; exact h
        | stuck => rw [e2] at h; exact h
      have fD : F D = none := by
        cases e : F D with
        | none => rfl
        | some o => have := S1.fr D o e; rw [hD] at this; cases this
      have p0 : ∀ i ∈ vs, ∀ x, ρ1[i]? = some (some x) → ∃ v, σ[i]? = some (some v) ∧ RV c.K Hk1 x v := fun i hi x hx => by
        have z := List.all_eq_true.mp hper i hi
        rw [hx] at z
        exact S1.get hx z
      refine ⟨fun i m H' => m = xs.length - i ∧ i ≤ xs.length ∧ ∃ Hk' ρ' acc ws, Ex Hk1 Hk' ∧ RS c.K (upd F D (.lst ws)) Hk' H' bp (wipe σ vs) (wipeM ρ' vs) ∧ RVs c.K Hk' acc ws ∧ ρ'.length = ρ1.length ∧ okB c F Hk' bp σ Q ρ1 vs (mLcLoop g t e vs (xs.drop i) acc ρ'),
        ⟨xs.length, by simp, Nat.zero_le _, Hk1, ρ1, [], [], Ex.refl _, (S1.wipe vs hb).inFr hD, RVs.nil.mpr rfl, rfl, h⟩, ?_⟩
      rintro i m H' ⟨rfl, hi, Hk', ρ', acc, ws, x', S', ra, hl, h'⟩
      by_cases hlt : i < xs.length
      · refine .inr ⟨wk.go i H' (x'.trans S'.ex) hlt, fun H2 => ∃ Hk2 ρ2 acc2 ws2, Ex Hk1 Hk2 ∧ RS c.K (upd F D (.lst ws2)) Hk2 H2 bp (wipe σ vs) (wipeM ρ2 vs) ∧ RVs c.K Hk2 acc2 ws2 ∧ ρ2.length = ρ1.length ∧ okB c F Hk2 bp σ Q ρ1 vs (mLcLoop g t e vs (xs.drop (i + 1)) acc2 ρ2),
          fun H2 z => ⟨xs.length - (i + 1), by omega, rfl, hlt, z⟩, fun x H2 y => ?_⟩
        obtain ⟨z, ez, hz⟩ := wk.yld i H' x H2 (x'.trans S'.ex) hlt y
        have ed : xs.drop i = z :: xs.drop (i + 1) := by
          rw [List.drop_eq_getElem_cons hlt]
          rw [List.getElem?_eq_getElem hlt] at ez
          cases ez; rfl
        rw [ed] at h'
        have st : ∀ Hk, ¬ okB c F Hk bp σ Q ρ1 vs .stuck := fun _ f => f
        have mo : ∀ Hk Hk' r, Ex Hk Hk' → okB c F Hk bp σ Q ρ1 vs r → okB c F Hk' bp σ Q ρ1 vs r := fun _ _ _ x h => okB.mono x h
        have fin : ∀ Hk3, Ex Hk' Hk3 → RS c.K (upd F D (.lst ws)) Hk3 H2 bp (wipe σ vs) (wipeM ρ' vs) → RV c.K Hk3 z x →
            gOf c.K g x (wipe σ vs) H2 fun σ2 H2 => wipe σ2 vs = wipe σ vs ∧ rdT c t σ2 H2 fun b H3 => if b = true then rdE c e σ2 H3 fun y H4 => ∃ acc, H4 D = some (.lst acc) ∧ acc.length < sizeLine ∧
              (∃ Hk2 ρ2 acc2 ws2, Ex Hk1 Hk2 ∧ RS c.K (upd F D (.lst ws2)) Hk2 (upd H4 D (.lst (acc ++ [y]))) bp (wipe σ vs) (wipeM ρ2 vs) ∧ RVs c.K Hk2 acc2 ws2 ∧ ρ2.length = ρ1.length ∧ okB c F Hk2 bp σ Q ρ1 vs (mLcLoop g t e vs (xs.drop (i + 1)) acc2 ρ2)) else
              ∃ Hk2 ρ2 acc2 ws2, Ex Hk1 Hk2 ∧ RS c.K (upd F D (.lst ws2)) Hk2 H3 bp (wipe σ vs) (wipeM ρ2 vs) ∧ RVs c.K Hk2 acc2 ws2 ∧ ρ2.length = ρ1.length ∧ okB c F Hk2 bp σ Q ρ1 vs (mLcLoop g t e vs (xs.drop (i + 1)) acc2 ρ2) := fun Hk3 x3 S3 r3 => by
          have h' := okB.mono x3 h'
          unfold mLcLoop at h'
          cases eg : setT g z (wipeM ρ' vs) with
          | none => rw [eg] at h'; exact h'.elim
          | some ρ3 =>
            rw [eg] at h'
            refine g_rd hb hg S3 r3 eg fun σ2 S4 w2 => ⟨by rw [w2, wipe_wipe], ?_⟩
            have w2' : wipe σ2 vs = wipe σ vs := by rw [w2, wipe_wipe]
            refine rdTw (b0T st mo ⟨S4, S.2.1, c.Jm _ _ _ (Ex.new fD) S.2.2⟩ h') fun b H3 ⟨Hk4, ρ4, x4, S5, h5⟩ => ?_
            cases b with
            | true =>
              rw [if_pos rfl] at h5 ⊢
              refine rdw (b0E st mo S5 h5) fun y H4 ⟨Hk5, yy, ρ5, x5, S6, r6, h6⟩ => ?_
              split at h6
              · rename_i hz
                have ra' := ra.mono (x3.trans (x4.trans x5))
                refine ⟨ws, S6.1.fr D _ upd_same, by rw [ra'.length]; exact hz.1, Hk5, ρ5, acc ++ [yy], ws ++ [y], x'.trans (x3.trans (x4.trans x5)), ?_, ra'.append (RVs.cons.mpr ⟨y, [], rfl, r6, RVs.nil.mpr rfl⟩), by rw [hz.2, hl], h6⟩
                have := (S6.1.wipe vs hb)
                rw [w2'] at this
                exact this.grow
              · exact h6.elim
            | false =>
              rw [if_neg (by decide)] at h5 ⊢
              split at h5
              · rename_i hz
                refine ⟨Hk4, ρ4, acc, ws, x'.trans (x3.trans x4), ?_, ra.mono (x3.trans x4), by rw [hz, hl], h5⟩
                have := (S5.1.wipe vs hb)
                rw [w2'] at this
                exact this
              · exact h5.elim
        rcases hz with ⟨rfl, r⟩ | ⟨p, us, ys, hp, rfl, rfl, rfl, r⟩
        · exact fin Hk' (Ex.refl _) S' (RV.mono x' _ _ r)
        · have xn := Ex.new (o := .tup us) (S'.ex.back hp)
          exact fin _ xn (S'.new hp) (RV.tup.mpr ⟨p, us, rfl, SqT.of upd_same, r.mono (x'.trans xn)⟩)
      · have e : i = xs.length := by omega
        subst e
        rw [List.drop_length] at h'
        refine .inl ⟨wk.stop H' (x'.trans S'.ex), ?_⟩
        have out := S'.outFr fD ra
        have bk : RS c.K (upd F D (.lst ws)) Hk' H' bp σ (backM ρ1 ρ' vs) := RS.back S' (fun i hi x hx => by
          obtain ⟨v, ev, rv⟩ := p0 i hi x hx
          exact ⟨v, ev, RV.mono x' _ _ rv⟩) hl.symm S1.len hb
        exact h' _ _ _ (Ex.refl _) (bk.outFr fD ra)
    · exact h.elim
end
end Tm
set_option Elab.async false
set_option linter.all false
set_option maxRecDepth 100000
set_option maxHeartbeats 2000000
namespace Tm
open PySem L2
theorem hbs_of {bs vs : List Nat} (h : (vs.all fun v => !bs.contains v) = true) : ∀ i ∈ vs, bs.contains i = false := fun i hi => by
  have := List.all_eq_true.mp h i hi
  simpa using this
open Evl (Ex ex_rd ex_l ex_t)
section
variable {X : Cx} {c : Ct} {elt tg iter : Expr} {ifs : List Expr} {scope : Scope} {own : List (Str × Nat)} {pos : Pos} {it : MI} {g : Tgt} {t : MT} {e : ME}
theorem mts_nil : PTs X [] (rdT c mYes) := ⟨fun pins s σ H Q I ⟨F, Hk, bp, ρ, S, h⟩ => pts_nil.run pins s σ H Q I (h _ _ (Ex.refl _) S.1)⟩
theorem mo_lc (hc : X.calm = true) (hN : X.N.Nodup) (hi : PI X tg iter (rdI c it)) (ok : BlkOk X.N X.env.scope scope own) (hg : ∀ (s : Shared) (H : Hp) (C : Addr) (cl : List (Str × Addr)) (fp : List Addr), PG (X.blk s H scope (compEnvC scope cl C X.env) fp) tg (gOf X.K g))
    (ht : ∀ (s : Shared) (H : Hp) (C : Addr) (cl : List (Str × Addr)) (fp : List Addr), PTs (X.blk s H scope (compEnvC scope cl C X.env) fp) ifs (rdT c t)) (he : ∀ (s : Shared) (H : Hp) (C : Addr) (cl : List (Str × Addr)) (fp : List Addr), PE (X.blk s H scope (compEnvC scope cl C X.env) fp) elt (rdE c e))
    (hgs : ∀ i ∈ g.slots, i ∈ own.map (·.2) := by decide) (hbs : ∀ i ∈ own.map (·.2), c.bs.contains i = false := by decide) (hK : c.K = X.K := by rfl) (hs : ∀ x, foldedSetIterable iter X.env x = pure x := by intro _; rfl) :
    PE X (.ListComp elt [⟨tg, iter, ifs, 0⟩] scope pos) (rdO c (mLcO it g t e (own.map (·.2)))) := PEw (pe_lc hc hN hi ok hg ht he hs) fun σ H Q h => by rw [← hK]; exact rd_lc hgs hbs h
end
theorem only_rs {K : PySem.W.Frag} {H : Hp} {a : Addr} {ns : List Int} (h : SqL K H a (ns.map V.int)) : RS K (fun _ => none) H H [] ([V.ref a].map some) ([MV.scr ns].map some) :=
  RS.args (Ex.refl _) (fun _ _ z => nomatch z) (fun _ _ z => nomatch z) (RVs.cons.mpr ⟨_, [], rfl, RV.scr.mpr ⟨a, rfl, h⟩, RVs.nil.mpr rfl⟩)
theorem walk_law {l : PySem.W.OpenLaw} {k : Nat} {q : Program} {loose : List Str} {XP : (Str → Option Value) → Heap → Prop} {YP : World → Heap → Prop} {d : DefRec} {K : Params → PySem.W.Frag} {x : Str} {f : MF}
    (hn : l.most = some 63) (hdf : d.params.defaults = []) (hr : Room k callerA) (hY : ∀ (w : World) (h : Heap), YP w h → (K w.params).In h)
    (hf : ∀ ns : List Int, ns.length ≤ 63 → ∃ bs, f [.scr ns] = .ok (.bl true, bs))
    (F : ∀ (w : World) (mg : Str → Option Value) (fa : Addr) (h : Heap), (K w.params).In h → h.Ns mainGlobals mg → mg d.name = some (.ref fa) →
      ∃ fd : FuncData, (∀ (s : Shared) (u : Value), BindsTo s fd ⟨[u], []⟩ [(x, u)]) ∧
        ∀ base : Heap, (K w.params).In base → base.Ns mainGlobals mg → FnOk l.prog w (K w.params) mg base (L2N.CX l.prog w) k fa fd [x] (spF (K w.params) mg 1 [] f)) :
    PySem.W.WalkO q loose XP YP l.row.toRowW d [] (fun f vs => PySem.call f vs) := by
  refine L2.walk_of (x := x) (K := K) (CX := fun w => L2N.CX l.prog w) (sp := fun w vs H Q E => ∃ (a : Addr) (ns : List Int), vs = [.ref a] ∧ ns.length ≤ 63 ∧ SqL (K w.params) H a (ns.map V.int) ∧ ∀ H', Q (.bl true) H') hn (by rw [sizeLine_eq]; decide) hdf hr hY (fun w mg fa h KX G hmg => ?_) (fun w H a ns hl _ hS => ⟨a, ns, rfl, hl, hS, fun _ => rfl⟩) ?_
  · obtain ⟨fd, hb, hF⟩ := F w mg fa h KX G hmg
    refine ⟨fd, hb, fun base h1 h2 => (hF base h1 h2).imp ?_⟩
    rintro vs H Q E ⟨a, ns, rfl, hl, hS, q⟩
    obtain ⟨bs, e⟩ := hf ns hl
    refine ⟨rfl, fun _ => none, H, [], [.scr ns], only_rs hS, rfl, ?_⟩
    rw [e]
    intro Hk' H' w x S'
    have bl : bs.length = 0 := by have := S'.len; simpa using this.symm
    have be : bs = [] := List.eq_nil_of_length_eq_zero bl
    subst be
    obtain ⟨v, ev, rv⟩ := S'.get (i := 0) (x := .bl true) rfl rfl
    cases ev
    rw [RV.bl.mp rv]
    exact q _
  · rintro w H s e s' ⟨_, _, _, _, _, _, _, _, _, _, _, _, f⟩
    exact f
structure Fd (P : Program) (w : World) (K : PySem.W.Frag) (mg : Str → Option Value) (base : Heap) (x : Str) (k : Nat) (ps : List Str) (bs : List Nat) (f : MF) : Prop where
  ex : ∃ (a : Addr) (fd : FuncData), FnOk P w K mg base (L2N.CX P w) k a fd ps (spF K mg ps.length bs f) ∧ mg x = some (.ref a) ∧ PySem.W.keepIn K (.ref a) = true ∧ Binds K fd ps []
structure Bn (mg : Str → Option Value) : Prop where
  len : mg "len" = none
  range : mg "range" = none
  abs : mg "abs" = none
  max : mg "max" = none
  min : mg "min" = none
  int : mg "int" = none
  str : mg "str" = none
  tuple : mg "tuple" = none
  list : mg "list" = none
  all : mg "all" = none
  any : mg "any" = none
  isinstance : mg "isinstance" = none
  divmod : mg "divmod" = none
  sum : mg "sum" = none
  zip : mg "zip" = none
  enumerate : mg "enumerate" = none
  reversed : mg "reversed" = none
  sorted : mg "sorted" = none
  dict : mg "dict" = none
  set : mg "set" = none
  bool : mg "bool" = none
section
variable {X : Cx} {c : Ct} {k : Nat} {ps : List Str} {x : Str} {p pos : Pos} {e : Expr} {es : List Expr} {f : MF} {a : MA} {j : Nat}
theorem mf_call (G : Fd X.prog X.w X.K X.mg X.base x k ps [] f) (hr : Room j X.A) (hj : k ≤ j) (tk : L2N.Takes X c.W) (ha : PA X (e :: es) (rdA c a)) (hn : Lng a ps.length) (hg : Gl X x := by rfl) (hK : c.K = X.K := by rfl) (hM : c.mg = X.mg := by rfl) (hdb : (x == ("__debug__" : Str)) = false := by decide)
    (he : starEach (e :: es) X.env = (false, eval e X.env) :: starEach es X.env := by rfl) (hpl : (backTo pos (starEach es X.env)).any (·.1) = false := by rfl) : PE X (.Call (.Name x p) (e :: es) [] pos) (rdO c (mCall f a)) := by
  obtain ⟨fa, fd, F, hm, hk, hb⟩ := G.ex
  exact mo_call F (hr.mono hj) hm hk hb tk ha hn hg hK hM hdb he hpl
theorem mf_call0 (G : Fd X.prog X.w X.K X.mg X.base x k ps [] f) (hr : Room j X.A) (hj : k ≤ j) (ha : PA X (e :: es) (rdA c a)) (hn : Lng a ps.length) (hg : Gl X x := by rfl) (hK : c.K = X.K := by rfl) (hM : c.mg = X.mg := by rfl) (hdb : (x == ("__debug__" : Str)) = false := by decide)
    (he : starEach (e :: es) X.env = (false, eval e X.env) :: starEach es X.env := by rfl) (hpl : (backTo pos (starEach es X.env)).any (·.1) = false := by rfl) : PE X (.Call (.Name x p) (e :: es) [] pos) (rdO c (mCall0 f a)) := by
  obtain ⟨fa, fd, F, hm, hk, hb⟩ := G.ex
  exact mo_call0 F (hr.mono hj) hm hk hb ha hn hg hK hM hdb he hpl
end
end Tm
set_option Elab.async false
set_option linter.all false
set_option maxRecDepth 100000
set_option maxHeartbeats 2000000
namespace Tm
open PySem L2
open Evl (Ex ex_rd ex_l ex_t)
def Cst (K : PySem.W.Frag) (mg : Str → Option Value) (x : Str) (v : MV) : Prop := ∃ w u, mg x = some u ∧ RelV w u ∧ ∀ H, RV K H v w
section
variable {X : Cx} {c : Ct} {x : Str} {pos : Pos}
theorem mf_con {v : MV} (h : Cst X.K X.mg x v) (hg : Gl X x := by rfl) (hK : c.K = X.K := by rfl) (hd : (x == ("__debug__" : Str)) = false := by decide) : PE X (.Name x pos) (rdE c (mC v)) := by
  obtain ⟨w, u, hm, rv, r⟩ := h
  exact me_glob hm rv (by rw [hK]; exact r) hg hd
end
theorem cst_int {K : PySem.W.Frag} {mg : Str → Option Value} {x : Str} {i : Int} {t : Tok} (h : mg x = some (.int i t)) : Cst K mg x (.int i) := ⟨.int i, _, h, ⟨t, rfl⟩, fun _ => RV.int.mpr rfl⟩
def flatIs : MV → Value → Bool
  | .int i, .int j _ => i == j
  | .str i, .str j _ => i == j
  | .non, .none => true
  | .bl a, .bool b => a == b
  | _, _ => false
def flatsIs : List MV → List Value → Bool
  | [], [] => true
  | x :: xs, v :: vs => flatIs x v && flatsIs xs vs
  | _, _ => false
theorem flat_is {K : PySem.W.Frag} {H : Hp} {x : MV} {v : Value} (h : flatIs x v = true) : ∃ w, RelV w v ∧ RV K H x w := by
  unfold flatIs at h
  split at h
  · rw [beq_iff_eq.mp h]; exact ⟨.int _, ⟨_, rfl⟩, RV.int.mpr rfl⟩
  · rw [beq_iff_eq.mp h]; exact ⟨.str _, ⟨_, rfl⟩, RV.str.mpr rfl⟩
  · exact ⟨.non, rfl, RV.non.mpr rfl⟩
  · rw [beq_iff_eq.mp h]; exact ⟨.bl _, rfl, RV.bl.mpr rfl⟩
  · cases h
theorem flats_is {K : PySem.W.Frag} {H : Hp} : ∀ {xs : List MV} {vs : List Value}, flatsIs xs vs = true → ∃ ws, Vals ws vs ∧ RVs K H xs ws
  | [], [], _ => ⟨[], .nil, RVs.nil.mpr rfl⟩
  | x :: xs, v :: vs, h => by
    unfold flatsIs at h
    rw [Bool.and_eq_true] at h
    obtain ⟨w, r1, r2⟩ := flat_is (K := K) (H := H) h.1
    obtain ⟨ws, r3, r4⟩ := flats_is (K := K) (H := H) h.2
    exact ⟨w :: ws, .cons r1 r3, RVs.cons.mpr ⟨w, ws, rfl, r2, r4⟩⟩
  | [], _ :: _, h => by cases h
  | _ :: _, [], h => by cases h
theorem flats_rv {K : PySem.W.Frag} {H H' : Hp} : ∀ {xs : List MV} {ws : List V} {vs : List Value}, flatsIs xs vs = true → RVs K H xs ws → RVs K H' xs ws
  | [], _, _, _, r => RVs.nil.mpr (RVs.nil.mp r)
  | x :: xs, ws, [], h, r => by cases h
  | x :: xs, ws, v :: vs, h, r => by
    unfold flatsIs at h
    rw [Bool.and_eq_true] at h
    obtain ⟨w, us, rfl, r1, r2⟩ := RVs.cons.mp r
    have f : flatM x = true := by
      have := h.1
      unfold flatIs at this
      split at this <;> first | rfl | cases this
    exact RVs.cons.mpr ⟨w, us, rfl, flat_rv f r1, flats_rv h.2 r2⟩
theorem cst_tup {K : PySem.W.Frag} {mg : Str → Option Value} {x : Str} {a : Addr} {dd : Option Addr} {its : Array Value} {n : Nat} {sl : Array (Option Value)} {xs : List MV} (h : mg x = some (.ref a)) (l : K.lookup a = some ⟨.type "tuple", dd, .seq its n, sl⟩) (e : flatsIs xs its.toList = true) (z : its.size ≤ 1000) : Cst K mg x (.tup xs) := by
  obtain ⟨ws, r1, r2⟩ := flats_is (K := K) (H := fun _ => none) e
  exact ⟨.ref a, _, h, rfl, fun H => RV.tup.mpr ⟨a, ws, rfl, .inr ⟨_, its, n, l, rfl, rfl, Nat.le_trans z (by rw [sizeLine_eq]; decide), r1⟩, flats_rv e r2⟩⟩
end Tm
set_option Elab.async false
set_option linter.all false
set_option maxRecDepth 100000
set_option maxHeartbeats 2000000
namespace Tm
open PySem L2
open Evl (Ex ex_rd ex_l ex_t)
theorem blkOk_at {N N' : List Str} {sc sc' bs : Scope} {own : List (Str × Nat)} (hN : N = N') (hs : sc = sc') (h : blkC N' sc' bs own = true) : BlkOk N sc bs own := by
  subst hN hs
  exact blkOk_by h
def mfOff : MF := fun _ => .stuck
def mRec (n : Nat) (bs : List Nat) (m : MF → MS) : Nat → MF
  | 0 => mfOff
  | k + 1 => mFn n bs (m (mRec n bs m k))
section
variable {P : Program} {w : World} {K : PySem.W.Frag} {mg : Str → Option Value} {base : Heap}
theorem spF_off {np : Nat} {bs : List Nat} {vs : List V} {H : Hp} {Q : VK} {E : XK} (h : spF K mg np bs mfOff vs H Q E) : False := by
  obtain ⟨_, _, _, _, _, _, _, h⟩ := h
  exact h
theorem fn_off {k : Nat} {f : Addr} {fd : FuncData} {ps : List Str} {np : Nat} {bs : List Nat} : FnOk P w K mg base (L2N.CX P w) k f fd ps (spF K mg np bs mfOff) :=
  ⟨fun _ _ _ _ h => (spF_off h).elim, fun _ _ _ _ _ _ _ _ _ _ _ _ _ h => (spF_off h).elim⟩
end
end Tm
set_option Elab.async false
set_option linter.all false
set_option maxRecDepth 100000
set_option maxHeartbeats 2000000
namespace HT
open PySem PySem.Spec PyProof.Rows
section
variable {prog : Program} {w : World} {A : Around} {E : Value → Shared → Prop} {s : Shared}
theorem fm_congr {α β : Type} {f g : α → Option β} : ∀ l : List α, (∀ x ∈ l, f x = g x) → l.filterMap f = l.filterMap g
  | [], _ => rfl
  | x :: l, h => by
    rw [List.filterMap_cons, List.filterMap_cons, h x (List.mem_cons_self ..), fm_congr l fun y hy => h y (List.mem_cons_of_mem _ hy)]
theorem rev_pick (xs : Array Value) : ((List.range xs.size).filterMap fun (m : Nat) => xs[(((xs.size : Int) - 1) + (m : Int) * (-1)).toNat]?).toArray = xs.toList.reverse.toArray := by
  have e : ((List.range xs.size).filterMap fun (m : Nat) => xs[(((xs.size : Int) - 1) + (m : Int) * (-1)).toNat]?) = ((List.range xs.size).map fun k => xs.size - 1 - k).filterMap (xs[·]?) := by
    rw [List.filterMap_map]
    refine fm_congr _ fun k hk => ?_
    have := List.mem_range.mp hk
    have e2 : (((xs.size : Int) - 1) + (k : Int) * (-1)).toNat = xs.size - 1 - k := by omega
    rw [e2]
    rfl
  rw [e, PySem.W.krv_range, List.filterMap_reverse, PySem.W.krv_all]
theorem sliceApplied_rev {sl : Addr} {vs : Value} {n : Nat} {Q : Int × Int × Nat → Shared → Prop} (hs : s.heap.IsSliceOf sl .none .none vs) (ps : IsPart vs (some (-1)))
    (h : Q ((n : Int) - 1, -1, n) s) : wpAny (model prog w) A (Builtin.Slice.sliceApplied (.ref sl) (pure (n : Int))) Q E s := by
  obtain ⟨os, hos, hcs, hds⟩ := id hs
  unfold Builtin.Slice.sliceApplied Builtin.Slice.sliceFields
  refine wpAny_bind (wpAny_bind (wpAny_field hos hds (x := .none) rfl (wpAny_bind (wpAny_field hos hds (x := .none) rfl (wpAny_bind (wpAny_field hos hds (x := vs) rfl (wpAny_pure ?_)))))))
  refine wpAny_bind (slicePart_ ps ?_)
  show wpAny _ _ (if ((-1 : Int) == 0) = true then _ else _) _ _ s
  rw [if_neg (by decide)]
  refine wpAny_bind (slicePart_none (wpAny_bind (slicePart_none (wpAny_bind (wpAny_pure ?_)))))
  show wpAny _ _ (match Builtin.Slice.sliceAdjust none none (-1) (n : Int) with | (lo, hi) => pure (lo, (-1 : Int), Builtin.Slice.slicePlaces lo hi (-1))) _ _ s
  have e : Builtin.Slice.sliceAdjust none none (-1) (n : Int) = ((n : Int) - 1, -1) := by
    simp [Builtin.Slice.sliceAdjust]
  rw [e]
  have e2 : Builtin.Slice.slicePlaces ((n : Int) - 1) (-1) (-1) = n := by
    unfold Builtin.Slice.slicePlaces
    simp
    omega
  show wpAny _ _ (pure ((n : Int) - 1, (-1 : Int), Builtin.Slice.slicePlaces ((n : Int) - 1) (-1) (-1))) _ _ s
  rw [e2]
  exact wpAny_pure h
theorem getItem_tuple_rev {t sl : Addr} {items : Array Value} {vs : Value} {Q : Value → Shared → Prop} (ht : IsTup s.heap t items) (hs : s.heap.IsSliceOf sl .none .none vs) (ps : IsPart vs (some (-1)))
    (h : Q (.ref s.heap.objs.size) { s with heap := s.heap.push { cls := .type "tuple", data := .seq items.toList.reverse.toArray } })
    (hsz : items.size ≤ sizeLine) : wpAny (model prog w) A (getItem (.ref t) (.ref sl)) Q E s := by
  have htake : sizeOk (.seq items.toList.reverse.toArray) := by
    show items.toList.reverse.toArray.size ≤ sizeLine
    rw [List.size_toArray, List.length_reverse, Array.length_toList]
    exact hsz
  obtain ⟨os, hos, hcs, hds⟩ := id hs
  have hTs : s.TypeIs (.ref sl) "slice" := ⟨os, hos, hcs⟩
  unfold getItem
  try with_reducible refine wpAny_holding ?_
  first | refine wpAny_bind (wpAny_pure ?_) | skip
  refine wpAny_bind (wpAny_sequenceKey ht.typeIs (by decide) ?_)
  refine wpAny_bind (wpAny_callSpecial?_slot (name := Str.ofString "__getitem__") ht.typeIs PyProof.Rows.slot_tuple_getitem
    (wpAny_call_entry PyProof.Rows.slot_tuple_getitem ht.typeIs entry_tuple_getitem ?_ (args_tuple_getitem _ _)))
  show wpAny _ _ (Builtin.Tuple.tupleItemsOf (.ref t) >>= _) _ _ s
  refine wpAny_bind (tupleItemsOf_ ht ?_)
  refine wpAny_bind (wpAny_typeOf hTs ?_)
  rw [if_pos (by decide)]
  refine wpAny_bind (sliceApplied_rev hs ps ?_)
  have hno : ¬ ((((items.size : Int) - 1) == 0 && (-1 : Int) == 1 && items.size == items.size) = true) := by simp
  show wpAny _ _ (if (((items.size : Int) - 1) == 0 && (-1 : Int) == 1 && items.size == items.size) = true then _ else _) _ _ s
  rw [if_neg hno, rev_pick]
  first
    | exact wpAny_bind (m := Builtin.Tuple.tupleExact _) (wpAny_newObj_type (wpAny_pure ⟨_, rfl, wpAny_pure h⟩) htake)
    | exact wpAny_bind (m := Builtin.Tuple.tupleExact _) (wpAny_newObj_type (wpAny_bind (wpAny_pure (wpAny_pure ⟨_, rfl, wpAny_pure h⟩))) htake)
    | exact wpAny_bind (wpAny_bind (m := Builtin.Tuple.tupleExact _) (wpAny_newObj_type (wpAny_pure (wpAny_pure ⟨_, rfl, wpAny_pure h⟩)) htake))
    | exact wpAny_bind (wpAny_bind (m := Builtin.Tuple.tupleExact _) (wpAny_newObj_type (wpAny_pure ⟨_, rfl, wpAny_pure h⟩) htake))
end
end HT
namespace Tm
open PySem L2 PySem.Spec PyProof.Rows
open Evl (Ex ex_rd ex_l ex_t)
def tRevT (K : PySem.W.Frag) (te : TE) : TE := fun σ H Q => te σ H fun x H1 => ∃ a xs, x = .ref a ∧ ((SqL K H1 a xs ∧ ∀ p, H1 p = none → Q (.ref p) (upd H1 p (.lst xs.reverse))) ∨ (SqT K H1 a xs ∧ ∀ p, H1 p = none → Q (.ref p) (upd H1 p (.tup xs.reverse))))
theorem pe_revT {X : Cx} {e : Expr} {te : TE} {k : Nat} {p1 p2 p3 pos : Pos} (he : PE X e te) : PE X (.Subscript e (.Slice none none (some (.UnaryOp .USub (.Constant (.int 1) k p1) p2)) p3) pos) (tRevT X.K te) := by
  refine ⟨fun pins s σ H Q I h => ?_⟩
  refine Subscript_ (thn (he.run pins s σ H _ I h) fun v s1 ⟨x, H1, I1, r1, q1⟩ => ?_)
  obtain ⟨a, xs, ex, hx⟩ := q1
  subst ex
  cases r1
  have hst : PO X (some (.UnaryOp .USub (.Constant (.int 1) k p1) p2)) (tPart (tUn (rU fun i => .int (-i)) (tC (.int 1)))) := po_some (pe_un un_neg pe_int)
  refine wpAny_Slice (thn (po_none.run pins s1 σ H1 (fun o H2 => o = none ∧ H2 = H1) I1 ⟨rfl, rfl⟩) fun vl s2 ⟨l, H2, I2, pl, el, e2⟩ => ?_)
  subst el e2
  refine thn (po_none.run pins s2 σ H2 (fun o H3 => o = none ∧ H3 = H2) I2 ⟨rfl, rfl⟩) fun vu s3 ⟨u, H3, I3, pu, eu, e3⟩ => ?_
  subst eu e3
  refine thn (hst.run pins s3 σ H3 (fun o H4 => o = some (-1) ∧ H4 = H3) I3 ⟨1, rfl, -1, rfl, rfl, rfl⟩) fun vs s4 ⟨o, H4, I4, ps, eo, e4⟩ => ?_
  subst eo e4
  cases pl
  cases pu
  have I5 : Inv X pins σ H4 { s4 with heap := s4.heap.push { cls := .type "slice", data := .fields #[.none, .none, vs] } } := I4.kept (t' := s4.toks) fun b ob q => Heap.get?_push_of_some _ q
  show wpAny (model X.prog X.w) X.A (subscriptTail e (.Slice none none (some (.UnaryOp .USub (.Constant (.int 1) k p1) p2)) p3) (.ref a) (.ref s4.heap.objs.size)) (EP X pins σ Q) X.xe { s4 with heap := s4.heap.push { cls := .type "slice", data := .fields #[.none, .none, vs] } }
  rcases hx with ⟨hx, q⟩ | ⟨hx, q⟩
  · obtain ⟨its, r, ht, hz⟩ := I5.list hx
    have hlen := r.length
    refine tail_any (ops := [.ref a, .ref s4.heap.objs.size]) ht.isList.typeIs (PySem.slot_list_getitem.lookup) ?_ (by with_unfolding_all rfl)
    refine wpAny_getItem_list_slice ht.isList (Heap.IsSliceOf.new _ _ _ vs) .none .none ps (by decide) ?_ (by rw [List.size_toArray]; omega)
    rw [PySem.W.krv_pick]
    refine ⟨.ref _, _, I5.laid (t' := s4.toks) (o := .lst xs.reverse) (fun b ob q => Heap.get?_push_of_some _ q) (Nat.le_refl _) ?_, rfl, q _ (I5.hok.fresh (Nat.le_refl _))⟩
    exact ⟨by rw [List.length_reverse]; exact hz, _, 0, r.reverse, Heap.get?_push_size _ rfl⟩
  · obtain ⟨its, r, ht, hz⟩ := I5.tuple hx
    have hlen := r.length
    refine tail_any (ops := [.ref a, .ref s4.heap.objs.size]) ht.typeIs (PyProof.Rows.slot_tuple_getitem.lookup) ?_ (by with_unfolding_all rfl)
    refine HT.getItem_tuple_rev ht (Heap.IsSliceOf.new _ _ _ vs) ps ?_ (by rw [List.size_toArray]; omega)
    refine ⟨.ref _, _, I5.laid (t' := s4.toks) (o := .tup xs.reverse) (fun b ob q => Heap.get?_push_of_some _ q) (Nat.le_refl _) ?_, rfl, q _ (I5.hok.fresh (Nat.le_refl _))⟩
    exact ⟨by rw [List.length_reverse]; exact hz, _, r.reverse, IsTup.new _ _⟩
section
variable {X : Cx} {c : Ct}
def fRevA : MV → Option MV
  | .lst xs => some (.lst xs.reverse)
  | .tup xs => some (.tup xs.reverse)
  | _ => none
def mRevA (a : ME) : ME := mUn fRevA a
theorem me_revA {e : Expr} {a : ME} {k : Nat} {p1 p2 p3 pos : Pos} (h : PE X e (rdE c a)) (hK : c.K = X.K := by rfl) : PE X (.Subscript e (.Slice none none (some (.UnaryOp .USub (.Constant (.int 1) k p1) p2)) p3) pos) (rdE c (mRevA a)) :=
  PEw (pe_revT h) fun σ H Q q => by
    obtain ⟨F, Hk, bp, ρ, S, q⟩ := q
    refine rdw (bE postE S q) fun v H1 ⟨Hk1, x, ρ1, x1, S1, r1, h1⟩ => ?_
    cases x with
    | lst xs =>
      obtain ⟨p, vs, rfl, g1, s1⟩ := RV.lst.mp r1
      refine ⟨p, vs, rfl, .inl ⟨SqL.of (S1.1.ex _ _ g1), fun l hl => h1 _ _ _ (Ex.new (S1.1.ex.back hl)) (S1.1.new hl) (RV.lst.mpr ⟨l, _, rfl, upd_same, (s1.reverse).mono (Ex.new (S1.1.ex.back hl))⟩)⟩⟩
    | tup xs =>
      obtain ⟨p, vs, rfl, g1, s1⟩ := RV.tup.mp r1
      refine ⟨p, vs, rfl, .inr ⟨by rw [← hK]; exact ex_t S1.1.ex g1, fun l hl => h1 _ _ _ (Ex.new (S1.1.ex.back hl)) (S1.1.new hl) (RV.tup.mpr ⟨l, _, rfl, SqT.of upd_same, (s1.reverse).mono (Ex.new (S1.1.ex.back hl))⟩)⟩⟩
    | _ => exact h1.elim
end
end Tm
set_option Elab.async false
set_option linter.all false
set_option maxRecDepth 100000
set_option maxHeartbeats 2000000
namespace Tm
open PySem L2 PySem.Spec PyProof.Rows
open Evl (Ex ex_rd ex_l ex_t)
structure Bas (K : PySem.W.Frag) (mg : Str → Option Value) (y : Str) : Prop where
  ex : ∃ CL : Addr, mg y = some (.ref CL) ∧ PySem.W.readsIn K CL (.type "type") = true ∧ PySem.W.specialIn K (.ref CL) "__getattribute__" = some (some (.builtin "type.__getattribute__")) ∧ PySem.W.findCls K (.ref CL) (.type "type") "__init__" = some (.val (.builtin "ValueError.__init__"))
section
variable {X : Cx} {y : Str} {e : Expr} {es : List Expr} {ta : TA} {p1 p2 pos : Pos}
theorem pe_linit {pl : Sem Bool} (hg : Gl X y) (B : Bas X.K X.mg y) (ha : PA X (e :: es) ta)
    (hc : eval (.Call (.Attribute (.Name y p1) "__init__" p2) (e :: es) [] pos) X.env = (do
      let ov ← eval (.Name y p1) X.env
      standAt p2.atName
      let (f, first) ← holding [ov] (getMethod ov "__init__" pl)
      callWith pos f first (backTo pos (starEach (e :: es) X.env)) (backToKw pos (keywordEach [] X.env))) := by rfl)
    (hdb : (y == ("__debug__" : Str)) = false := by decide) (he : starEach (e :: es) X.env = (false, eval e X.env) :: starEach es X.env := by rfl) (hpl : (backTo pos (starEach es X.env)).any (·.1) = false := by rfl) :
    PE X (.Call (.Attribute (.Name y p1) "__init__" p2) (e :: es) [] pos) (tVeI X.K ta) := by
  obtain ⟨CL, hm, hr, hga, hf⟩ := B.ex
  refine ⟨fun pins s σ H Q I h => ?_⟩
  refine PySem.W.methodCall_KW (ld_glob I hg hm ?_ hdb) hc
  refine PySem.W.method_cls I.kIn hga (PySem.W.cls_value I.kIn hr hf (by decide +kernel) ?_)
  show wpAny _ _ (callWith pos (Value.builtin "ValueError.__init__") [] (backTo pos (starEach (e :: es) X.env)) []) _ _ _
  refine PyProof.Rows.callWith_method1 (thn (ha.run pos pins _ σ H _ (I.tok _) h) fun us s1 ⟨vs, H1, I1, r1, a, C, ws, ev, hl, T, ea, q⟩ => ?_) he hpl
  subst ev
  cases r1 with
  | @cons _ u0 _ ur ra rw' =>
    obtain rfl : u0 = Value.ref a := ra
    have hlen : ur.length ≤ sizeLine := by
      rw [← Paired.length rw', sizeLine_eq]
      omega
    exact oinit_ok T I1 ea hlen fun s' J => ⟨.non, H1, J, rfl, q⟩
end
structure OwX (K : PySem.W.Frag) (mg : Str → Option Value) (x : Str) (C fI : Addr) : Prop where
  T : OexC K C
  m : mg x = some (.ref C)
  iC : PySem.W.findIn K (.ref C) "__init__" = some (some (.ref fI))
  tI : PySem.W.typeIn K (.ref fI) = some (.type "function")
def spI1 (K : PySem.W.Frag) (f : Str) : Sp := fun vs H Q _ => ∃ (a C : Addr) (v : V), vs = [.ref a, v] ∧ OexC K C ∧ PySem.W.findIn K (.ref C) f = some none ∧ H a = some (exo a C none) ∧
  ∀ d, H d = none → d ≠ a → Q .non (upd (upd H d (exd d [(f, v)])) a (exo a C (some d)))
def spI2 (K : PySem.W.Frag) (f g : Str) : Sp := fun vs H Q _ => ∃ (a C : Addr) (v w : V), vs = [.ref a, v, w] ∧ OexC K C ∧ PySem.W.findIn K (.ref C) f = some none ∧ PySem.W.findIn K (.ref C) g = some none ∧ H a = some (exo a C none) ∧
  ∀ d, H d = none → d ≠ a → Q .non (upd (upd (upd H d (exd d [(f, v)])) a (exo a C (some d))) d (exd d [(g, w), (f, v)]))
section
variable {P : Program} {w : World} {K : PySem.W.Frag} {mg : Str → Option Value} {base : Heap}
theorem init1 {x qual y f p t : Str} {st : Stmt} {a : Addr} {fd : FuncData} {j : Nat} {p1 p2 p3 p4 p5 p6 q1 q2 q3 q4 : Pos} (F : Fun K x qual st a fd) (S : FnScope ["self", p] ["self", p] (defScope st)) (B : Bas K mg y)
    (hb : defBody st = [.Expr (.Call (.Attribute (.Name y p1) "__init__" p2) [.Name "self" p3, .Constant (.str t) j p4] [] p5) p6, .Assign [.Attribute (.Name "self" q1) f q2] (.Name p q3) q4])
    (hy : ∀ (L : Addr) (cd : Value), (envOfC qual (defScope st) L a cd).kindOf y = some NameKind.globalImplicit) (hs : (defScope st).names.lookup ("self" : Str) = some .local) (hp : (defScope st).names.lookup p = some .local)
    (hc : ∀ env : PySem.Env, ∃ pl : Sem Bool, eval (.Call (.Attribute (.Name y p1) "__init__" p2) [.Name "self" p3, .Constant (.str t) j p4] [] p5) env = (do
      let ov ← eval (.Name y p1) env
      standAt p2.atName
      let (f, first) ← holding [ov] (getMethod ov "__init__" pl)
      callWith p5 f first (backTo p5 (starEach [.Name "self" p3, .Constant (.str t) j p4] env)) (backToKw p5 (keywordEach [] env))))
    (hy1 : (y == ("__debug__" : Str)) = false) (hp1 : (p == ("__debug__" : Str)) = false) (hp2 : (p == ("__classdict__" : Str)) = false) :
    FnOk P w K mg base (L2N.CX P w) 2 a fd ["self", p] (spI1 K f) := by
  refine okXN F S (fun vs H Q E h => ?_) (fun cdv A outer s H vs Q E hr h => ?_)
  · obtain ⟨_, _, _, rfl, _⟩ := h
    rfl
  obtain ⟨b, C, v, rfl, T, hf, hH, hq⟩ := h
  have nd := S.nd
  have hself : PE (cxOf (L2N.CX P w) P w K mg base ["self", p] qual (defScope st) a cdv A outer s H E) (.Name "self" p3) (tVar 0) := pe_var (i := 0) rfl (.inl hs)
  have hself2 : PE (cxOf (L2N.CX P w) P w K mg base ["self", p] qual (defScope st) a cdv A outer s H E) (.Name "self" q1) (tVar 0) := pe_var (i := 0) rfl (.inl hs)
  have hpar : PE (cxOf (L2N.CX P w) P w K mg base ["self", p] qual (defScope st) a cdv A outer s H E) (.Name p q3) (tVar 1) := pe_var (i := 1) rfl (.inl hp) hp1 hp2
  obtain ⟨pl, hc⟩ := hc (cxOf (L2N.CX P w) P w K mg base ["self", p] qual (defScope st) a cdv A outer s H E).env
  have h1 := pe_linit (pl := pl) (e := .Name "self" p3) (es := [.Constant (.str t) j p4]) (pos := p5) (p1 := p1) (p2 := p2) (X := cxOf (L2N.CX P w) P w K mg base ["self", p] qual (defScope st) a cdv A outer s H E) (y := y) (hy _ _) B (pa_cons hself (pa_cons pe_str pa_nil)) (hc := hc) (hdb := hy1)
  refine ⟨_, by rw [hb]; exact pss_cons (ps_expr h1) (pss_cons (ps_ost hself2 hpar) pss_nil), ?_⟩
  exact ⟨.ref b, rfl, b, C, [.str t], rfl, by simp, T, hH, v, rfl, .ref b, rfl, b, C, rfl, T, hf, .inl ⟨hH, fun dx h1 h2 => hq dx h1 h2⟩⟩
end
section
variable {X : Cx} {e : Expr} {es : List Expr} {ta : TA} {p pos : Pos}
theorem pmk_oexN {CX : CXT} {x : Str} {C fI : Addr} {k : Nat} {fd : FuncData} {ps : List Str} {sp : Sp} {ds : List Value} {dvs : List V} (T : OexC X.K C) (iC : PySem.W.findIn X.K (.ref C) "__init__" = some (some (.ref fI))) (tI : PySem.W.typeIn X.K (.ref fI) = some (.type "function"))
    (F1 : FnOk X.prog X.w X.K X.mg X.base CX k fI fd ps sp) (hr : Room (k + 1) X.A) (hb : L2.Binds X.K fd ps ds) (hd : Vals dvs ds) (hx : Passes CX X (fun _ _ _ => False)) (hg : Gl X x) (hm : X.mg x = some (.ref C)) (ha : PA X (e :: es) ta)
    (hdb : (x == ("__debug__" : Str)) = false := by decide) (he : starEach (e :: es) X.env = (false, eval e X.env) :: starEach es X.env := by rfl) (hpl : (backTo pos (starEach es X.env)).any (·.1) = false := by rfl) :
    L2N.PMk X (.Call (.Name x p) (e :: es) [] pos) (tMkO C sp dvs ta) := fun pins s σ H Q I h => by
  obtain ⟨_, _, _, _, bm, _, _, _, _, _, _, _, _, _, _, look, hbm⟩ := T.cls
  refine wpAny_Call_Name_kw (ld_glob I hg hm ?_ hdb)
  refine PySem.W.callWith_K (h₀ := X.base) I.ok.mod.kin T.kC (thn (ha.run pos pins s σ H _ I h) fun us s1 q0 => ⟨q0.choose_spec.choose_spec.1.kIn, ?_⟩) he hpl
  obtain ⟨vs, G, J, r, hz, q⟩ := q0
  show wpAny _ _ (call (.ref C) us) _ _ _
  obtain ⟨hp, gs, dr, tk, os⟩ := s1
  obtain ⟨n, hn⟩ : ∃ n, hp.objs.size = n := ⟨_, rfl⟩
  have le1 : hp.objs.size ≤ n + 1 := by omega
  have sp1 := q (n + 1) (J.hok.fresh le1)
  have keep : ∀ b o, hp.get? b = some o → ((hp.push (PySem.W.kdv_tup us)).push (PySem.HandSPX.excO C n)).get? b = some o := fun b o z => Heap.get?_push_of_some _ (Heap.get?_push_of_some _ z)
  have there : ((hp.push (PySem.W.kdv_tup us)).push (PySem.HandSPX.excO C n)).get? (n + 1) = some (PySem.HandSPX.excO C n) := by subst hn; heap_get
  have J2 : Inv X pins σ (upd G (n + 1) (exo (n + 1) C none)) ⟨(hp.push (PySem.W.kdv_tup us)).push (PySem.HandSPX.excO C n), gs, dr, tk, os⟩ :=
    J.laid (t' := tk) (a := n + 1) (o := exo (n + 1) C none) (h' := (hp.push (PySem.W.kdv_tup us)).push (PySem.HandSPX.excO C n)) keep le1 (exo_ok there)
  have r2 : Vals (V.ref (n + 1) :: (vs ++ dvs)) (Value.ref (n + 1) :: (us ++ ds)) := .cons rfl (r.append hd)
  have len2 : (Value.ref (n + 1) :: us ++ ds).length = ps.length := (F1.len _ _ _ _ sp1 ▸ r2.length).symm
  have small : us.length ≤ sizeLine := by
    have := Paired.length r
    rw [sizeLine_eq]; omega
  subst hn
  refine wpAny_call (PySem.HandSPX.call_own F.excBase_ValueError (fun Y => PySem.HandSPX.refsVE_contains Y bm hbm) (J.kIn _ _ look) (PySem.W.looks_findIn J.kIn iC) (fun self => PySem.W.bind_fn J.kIn self tI) small (codeAny_mono
    (F1.run _ X.stack _ _ ⟨Value.ref (hp.objs.size + 1) :: us, []⟩ (Value.ref (hp.objs.size + 1) :: (us ++ ds)) _ _ (fun _ _ _ => False) (hr.make C us []) (J2.env0.make C us []) (hb _ (Value.ref (hp.objs.size + 1) :: us) J2.kIn len2) r2 sp1) fun z s' hq => ?_))
  match z, hq with
  | .error er, hq => exact hx pins σ _ _ er s' J2 hq
  | .ok (.ret u), hq =>
    obtain ⟨v, G2, o2, b2, un2, ok2, rv, rfl, d, fs, ea, ed, hd1, w⟩ := hq
    obtain ⟨h2, g2, d2, t2, _⟩ := s'
    obtain ⟨t0, B, JB, kB, gB, at2, na⟩ := mk_end0 (d2 := d2) (t2 := t2) J le1 keep un2 ok2 o2 b2 ea ed hd1
    exact ⟨rv, ⟨_, _, _, ⟨B, g2, d2, t2, _⟩, _, .ref C, some d, rfl, JB, kB, gB, at2, ⟨rfl, rfl, fun vs hv => by cases hv; rfl⟩, rfl, rfl, na, rfl, b2, raises_own T.exC T.tyC, w⟩⟩
  | .ok .next, hq => exact hq.elim
  | .ok .brk, hq => exact hq.elim
  | .ok .cont, hq => exact hq.elim
end
theorem made_heap {H1 : Hp} {a d : Addr} {o u z : HO} (ha : H1 a = none) (hd : d ≠ a) : upd (del (upd (upd (upd H1 a o) d u) a z) a) d = upd H1 d := by
  funext y b
  by_cases e1 : b = d
  · subst e1; rw [upd_same, upd_same]
  · rw [upd_ne e1, upd_ne e1]
    by_cases e2 : b = a
    · subst e2; rw [del_same, ha]
    · rw [del_ne e2, upd_ne e2, upd_ne e1, upd_ne e2]
section
variable {X : Cx} {c : Ct} {x f g : Str} {C fI : Addr} {k : Nat} {fd : FuncData} {ps : List Str} {W : WX}
theorem never {W : WX} (tk : L2N.Takes X W) : Passes (L2N.CX X.prog X.w) X (fun _ _ _ => False) := L2N.passes_call (E := fun _ _ _ => False) tk fun _ _ _ _ z => z.elim
def tMk1 (C : Addr) (f : Str) (ta : TA) : L2.St → Hp → XK → Prop := fun σ H Q => ta σ H fun vs H1 => ∃ v, vs = [v] ∧ ∀ d, H1 d = none → Q (.ref C) (some d) (upd H1 d (.xd [(f, v)]))
theorem pmk1 {e : Expr} {es : List Expr} {ta : TA} {p pos : Pos} (O : OwX X.K X.mg x C fI) (hf : PySem.W.findIn X.K (.ref C) f = some none) (F1 : FnOk X.prog X.w X.K X.mg X.base (L2N.CX X.prog X.w) k fI fd ps (spI1 X.K f)) (hr : Room (k + 1) X.A) (hb : L2.Binds X.K fd ps []) (tk : L2N.Takes X W) (hg : Gl X x) (ha : PA X (e :: es) ta)
    (hm : ∀ σ H Q Q', ta σ H Q → (∀ vs H1, Q vs H1 → Q' vs H1) → ta σ H Q')
    (hdb : (x == ("__debug__" : Str)) = false := by decide) (he : starEach (e :: es) X.env = (false, eval e X.env) :: starEach es X.env := by rfl) (hpl : (backTo pos (starEach es X.env)).any (·.1) = false := by rfl) :
    L2N.PMk X (.Call (.Name x p) (e :: es) [] pos) (tMk1 C f ta) := by
  have z := pmk_oexN (p := p) (ds := []) (dvs := []) O.T O.iC O.tI F1 hr hb .nil (never tk) hg O.m ha hdb he hpl
  intro pins s σ H Q I h
  refine z pins s σ H Q I (hm σ H _ _ h fun vs H1 ⟨v, ev, q⟩ => ?_)
  subst ev
  refine ⟨by simp, fun a ha => ⟨a, C, v, rfl, O.T, hf, upd_same, fun d hd hne => ⟨rfl, d, [(f, v)], upd_same, ?_, ?_, ?_⟩⟩⟩
  · rw [upd_ne hne, upd_same]
  · rw [upd_ne hne] at hd; exact hd
  · rw [made_heap ha hne]
    exact q d (by rw [upd_ne hne] at hd; exact hd)
end
end Tm
set_option Elab.async false
set_option linter.all false
set_option maxRecDepth 100000
set_option maxHeartbeats 2000000
namespace Tm
open PySem L2 PySem.Spec PyProof.Rows
open Evl (Ex ex_rd ex_l ex_t)
def NoX (H H' : Hp) : Prop := ∀ a o, H a = some o → (∀ fs, o ≠ .xd fs) → H' a = some o
theorem NoX.rdl {H H' : Hp} (e : NoX H H') {a : Addr} {xs : List V} (h : Rd H a (.lst xs)) : Rd H' a (.lst xs) := by
  rcases h with h | ⟨o, h⟩
  · exact Or.inl (e a _ h (fun _ z => nomatch z))
  · exact Or.inr ⟨o, e a _ h (fun _ z => nomatch z)⟩
theorem NoX.rdt {H H' : Hp} (e : NoX H H') {a : Addr} {xs : List V} (h : Rd H a (.tup xs)) : Rd H' a (.tup xs) := by
  rcases h with h | ⟨o, h⟩
  · exact Or.inl (e a _ h (fun _ z => nomatch z))
  · exact Or.inr ⟨o, e a _ h (fun _ z => nomatch z)⟩
mutual
theorem RV.sub {K : PySem.W.Frag} {H H' : Hp} (e : NoX H H') : ∀ (x : MV) (v : V), RV K H x v → RV K H' x v
  | .non, v, h => by unfold RV at h ⊢; exact h
  | .bl b, v, h => by unfold RV at h ⊢; exact h
  | .int i, v, h => by unfold RV at h ⊢; exact h
  | .str x, v, h => by unfold RV at h ⊢; exact h
  | .tup xs, v, h => by
    unfold RV at h ⊢
    obtain ⟨a, vs, e1, e2, e3⟩ := h
    exact ⟨a, vs, e1, e2.imp e.rdt id, RVs.sub e xs vs e3⟩
  | .lst xs, v, h => by
    unfold RV at h ⊢
    obtain ⟨a, vs, e1, e2, e3⟩ := h
    exact ⟨a, vs, e1, e _ _ e2 (fun _ z => nomatch z), RVs.sub e xs vs e3⟩
  | .own xs, v, h => by unfold RV at h; exact h.elim
  | .raw w, v, h => by unfold RV at h ⊢; exact h
  | .scr ns, v, h => by
    unfold RV at h ⊢
    obtain ⟨a, e1, e2⟩ := h
    exact ⟨a, e1, e2.imp e.rdl id⟩
  | .fnc x, v, h => by unfold RV at h ⊢; exact h
  | .obj C fs, v, h => by unfold RV at h; exact h.elim
  | .dct ks xs, v, h => by
    unfold RV at h ⊢
    obtain ⟨a, vs, e1, e2, e3, e4⟩ := h
    exact ⟨a, vs, e1, e _ _ e2 (fun _ z => nomatch z), e3, RVs.sub e xs vs e4⟩
  | .dow ks xs, v, h => by unfold RV at h; exact h.elim
  | .dot ks xs, v, h => by unfold RV at h; exact h.elim
theorem RVs.sub {K : PySem.W.Frag} {H H' : Hp} (e : NoX H H') : ∀ (xs : List MV) (vs : List V), RVs K H xs vs → RVs K H' xs vs
  | [], vs, h => by unfold RVs at h ⊢; exact h
  | x :: xs, vs, h => by
    unfold RVs at h ⊢
    obtain ⟨v, r, e1, e2, e3⟩ := h
    exact ⟨v, r, e1, RV.sub e x v e2, RVs.sub e xs r e3⟩
end
theorem OF.sub {K : PySem.W.Frag} {Hk Hk' H : Hp} {x : MV} {v : V} {A : List Addr} (e : NoX Hk Hk') (h : OF K Hk H x v A) : OF K Hk' H x v A := by
  cases x with
  | own xs =>
    unfold OF at h ⊢
    obtain ⟨p, vs, e1, e2, e3, e4⟩ := h
    exact ⟨p, vs, e1, e2, e3, RVs.sub e _ _ e4⟩
  | dow ks xs =>
    unfold OF at h ⊢
    obtain ⟨p, vs, e1, e2, e3, e5, e4⟩ := h
    exact ⟨p, vs, e1, e2, e3, e5, RVs.sub e _ _ e4⟩
  | dot ks xs =>
    unfold OF at h ⊢
    obtain ⟨p, vs, e1, e2, e3, e5, e4⟩ := h
    exact ⟨p, vs, e1, e2, e3, e5, RVs.sub e _ _ e4⟩
  | obj C fs => exact (show False by unfold OF at h; unfold RV at h; exact h.2).elim
  | _ =>
    unfold OF at h ⊢
    exact ⟨h.1, RV.sub e _ _ h.2⟩
theorem OFs.sub {K : PySem.W.Frag} {Hk Hk' H : Hp} (e : NoX Hk Hk') : ∀ {fs : List (Str × MV)} {vs : List (Str × V)} {A : List Addr}, OFs K Hk H fs vs A → OFs K Hk' H fs vs A
  | [], _, _, h => h
  | (n, x) :: fs, vs, A, h => by
    obtain ⟨v, r, B, C, e1, e2, h1, h2⟩ := h
    exact ⟨v, r, B, C, e1, e2, h1.sub e, OFs.sub e h2⟩
theorem OV.sub {K : PySem.W.Frag} {Hk Hk' H : Hp} {x : MV} {v : V} {A : List Addr} (e : NoX Hk Hk') (h : OV K Hk H x v A) : OV K Hk' H x v A := by
  cases x with
  | obj C fs =>
    unfold OV at h ⊢
    obtain ⟨p, CA, dx, vfs, B, e1, e2, e0, e3, e4, e5⟩ := h
    exact ⟨p, CA, dx, vfs, B, e1, e2, e0, e3, OFs.sub e e4, e5⟩
  | _ => (unfold OV at h ⊢; exact OF.sub e h)
section
variable {K : PySem.W.Frag} {F Hk H : Hp} {bp : List (Nat × Addr)} {σ : L2.St} {ρ : Env}
theorem RS.less (S : RS K F Hk H (p :: bp) σ ρ) : RS K F Hk H bp σ ρ := ⟨S.len, S.ex, S.fr, S.frk, S.ow, fun q hq => S.bor q (List.mem_cons_of_mem _ hq)⟩
end
structure ExT (K : PySem.W.Frag) (mg : Str → Option Value) (y : Str) (x : Str) (b : Bool) : Prop where
  ex : ∃ C D, mg x = some (.ref C) ∧ mg y = some (.ref D) ∧ PySem.W.exmOne K (.ref C) (.ref D) = some b
def XIn (F : Hp) (e : MX) (d : Option Addr) : Prop := (e.fs = [] ∧ d = none) ∨ ∃ dx vfs, d = some dx ∧ F dx = some (.xd vfs) ∧ ∀ K H, XFs K H e.fs vfs
def cH (c : Ct) (i : Nat) (a : Addr) (e : MX) (d : Option Addr) : Ct := ⟨c.K, c.mg, fun _ _ _ _ => False, i :: c.bs, fun F bp => (∃ bq, bp = (i, a) :: bq ∧ c.J F bq) ∧ XIn F e d, fun F F1 bp x h => by
  obtain ⟨⟨bq, e1, e2⟩, h2⟩ := h
  refine ⟨⟨bq, e1, c.Jm _ _ _ x e2⟩, ?_⟩
  rcases h2 with h2 | ⟨dx, vfs, q1, q2, q3⟩
  · exact .inl h2
  · exact .inr ⟨dx, vfs, q1, x _ _ q2, q3⟩⟩
end Tm
set_option Elab.async false
set_option linter.all false
set_option maxRecDepth 100000
set_option maxHeartbeats 2000000
namespace Tm
open PySem L2 PySem.Spec PyProof.Rows
open Evl (Ex ex_rd ex_l ex_t)
def mRaise1 (x f : Str) (a : ME) : MS := fun ρ => (a ρ).bind fun y ρ1 => .exc ⟨x, [(f, y)]⟩ ρ1
structure Cl0 (K : PySem.W.Frag) (mg : Str → Option Value) (x : Str) : Prop where
  ex : ∃ C, mg x = some (.ref C) ∧ PySem.W.excIn K C PySem.HandSPX.veTail "ValueError.__new__" = true ∧ PySem.W.keepIn K (.ref C) = true ∧ PySem.W.subIn K (.ref C) (.type "BaseException") = some true ∧ PySem.W.typeIn K (.ref C) = some (.type "type")
structure Cl1 (P : Program) (w : World) (K : PySem.W.Frag) (mg : Str → Option Value) (base : Heap) (x f : Str) : Prop where
  ex : ∃ C fI fd ps, OwX K mg x C fI ∧ PySem.W.findIn K (.ref C) f = some none ∧ FnOk P w K mg base (L2N.CX P w) 2 fI fd ps (spI1 K f) ∧ L2.Binds K fd ps []
structure Cl2 (P : Program) (w : World) (K : PySem.W.Frag) (mg : Str → Option Value) (base : Heap) (x f g : Str) : Prop where
  ex : ∃ C fI fd ps, OwX K mg x C fI ∧ PySem.W.findIn K (.ref C) f = some none ∧ PySem.W.findIn K (.ref C) g = some none ∧ FnOk P w K mg base (L2N.CX P w) 2 fI fd ps (spI2 K f g) ∧ L2.Binds K fd ps []
section
variable {X : Cx} {c : Ct} {x f g m : Str} {k j : Nat}
theorem ms_raise1 {e : Expr} {a : ME} {p p2 pos : Pos} (Z : Cl1 X.prog X.w X.K X.mg X.base x f) (hc : X.calm = true) (hr : Room k X.A) (hk : 3 ≤ k) (tk : L2N.Takes X c.W) (hg : Gl X x) (he : PE X e (rdE c a)) (hmg : c.mg = X.mg := by rfl)
    (hdb : (x == ("__debug__" : Str)) = false := by decide) (hst : starEach [e] X.env = (false, eval e X.env) :: starEach [] X.env := by rfl) (hpl : (backTo p2 (starEach [] X.env)).any (·.1) = false := by rfl) :
    PS X (.Raise (some (.Call (.Name x p) [e] [] p2)) none pos) (rdS c (mRaise1 x f a)) := by
  obtain ⟨C, fI, fd, ps, O, h2, h3, h4⟩ := Z.ex
  refine PSw (L2N.ps_raise hc tk (pmk1 (W := c.W) O h2 h3 (hr.mono hk) h4 tk hg (ma_cons he ma_nil hst) (fun σ H Q Q' q w => rdAw q w) hdb hst hpl)) fun D σ H ⟨F, Hk, bp, ρ, S, h⟩ => ?_
  have h : okS c F Hk bp D ((a ρ).bind fun y ρ1 => .exc ⟨x, [(f, y)]⟩ ρ1) := h
  refine ⟨F, Hk, bp, ρ, S, ?_⟩
  show okA c F Hk bp σ _ ((a ρ).bind fun y ρ1 => (mNil ρ1).bind fun xs ρ2 => .ok (y :: xs, ρ2))
  cases ea : a ρ with
  | stuck => rw [ea] at h; exact h
  | exc e ρ' => rw [ea] at h; exact fun Hk' H' cls d => h Hk' H' σ cls d
  | ok q =>
    obtain ⟨y, ρ1⟩ := q
    rw [ea] at h
    intro Hk1 H1 vs x1 S1 r1
    obtain ⟨v, us, rfl, r2, r3⟩ := RVs.cons.mp r1
    cases RVs.nil.mp r3
    refine ⟨v, rfl, fun d hd => ?_⟩
    have xn := Ex.new (o := HO.xd [(f, v)]) (S1.ex.back hd)
    exact h _ _ _ _ _ (x1.trans xn) (S1.new hd) ⟨C, by rw [hmg]; exact O.m, rfl, .inr ⟨d, _, rfl, upd_same, v, [], rfl, r2.mono xn, rfl⟩⟩
end
theorem XFs.look {K : PySem.W.Frag} {H : Hp} {f : Str} {x : MV} : ∀ {xs : List (Str × MV)} {vs : List (Str × V)}, XFs K H xs vs → xs.lookup f = some x → ∃ v, vs.lookup f = some v ∧ RV K H x v
  | [], _, _, h => by simp at h
  | (n, y) :: xs, vs, r, h => by
    obtain ⟨v, rr, e1, e2, e3⟩ := r
    subst e1
    rw [List.lookup_cons] at h ⊢
    cases eq : f == n with
    | true => rw [eq] at h; cases h; exact ⟨v, rfl, e2⟩
    | false => rw [eq] at h; exact XFs.look e3 h
def xcB (K : PySem.W.Frag) (C : Addr) (fs : List Str) : Bool := xfB K C && decide (PySem.W.findIn K (.ref C) "__class__" = some (some (.builtin "object.__class__"))) && decide (PySem.W.specialIn K (.builtin "object.__class__") "__get__" = some (some (.builtin "getset_descriptor.__get__"))) && decide (PySem.W.takesIn K (.builtin "object.__class__") = some true) && decide (PySem.W.mroIn K C (.type "object") = some true) && fs.all (fun f => decide (PySem.W.findIn K (.ref C) f = some none))
structure XcF (K : PySem.W.Frag) (mg : Str → Option Value) (fs : List Str) (x : Str) : Prop where
  ex : ∃ C, mg x = some (.ref C) ∧ xcB K C fs = true
structure KiT (K : PySem.W.Frag) (mg : Str → Option Value) (y x : Str) (b : Bool) : Prop where
  ex : ∃ C D, mg x = some (.ref C) ∧ mg y = some (.ref D) ∧ PySem.W.kitOne K (.ref C) (.ref D) = some b
structure XcG (K : PySem.W.Frag) (C : Addr) (fs : List Str) : Prop where
  xf : XfC K C
  xc : ExcC K C
  no : ∀ f ∈ fs, PySem.W.findIn K (.ref C) f = some none
def inCls (s : Stmt) (j : Nat) : Stmt := match s with
  | .ClassDef _ _ _ b _ _ _ _ _ _ _ => b.getD j (.Pass ⟨0, 0, 0, 0⟩)
  | _ => .Pass ⟨0, 0, 0, 0⟩
theorem owX_mk {K : PySem.W.Frag} {mg : Str → Option Value} {x : Str} {C fI : Addr} {nm q : Str} {N : Addr} {bs bm : List Value} {sn : List Str} {sub : List Value} {ab : Bool} {col : Option Bool} {dd : Option Addr} {k0 k1 k2 k3 k5 : Option Value}
    (m : mg x = some (.ref C)) (l : K.lookup C = some (excClassObj nm q C N bs bm true sn sub ab col dd k0 k1 k2 k3 k5 "ValueError.__new__")) (r : PySem.HandSPX.refsVE bm = true) (sa : PySem.W.findIn K (.ref C) "__setattr__" = some (some (.builtin "object.__setattr__")))
    (eC : PySem.W.subIn K (.ref C) (.type "BaseException") = some true) (tC : PySem.W.typeIn K (.ref C) = some (.type "type")) (kC : PySem.W.keepIn K (.ref C) = true) (iC : PySem.W.findIn K (.ref C) "__init__" = some (some (.ref fI))) (tI : PySem.W.typeIn K (.ref fI) = some (.type "function")) : OwX K mg x C fI :=
  ⟨⟨⟨nm, q, N, bs, bm, sn, sub, ab, col, dd, k0, k1, k2, k3, k5, l, r⟩, sa, eC, tC, kC⟩, m, iC, tI⟩
end Tm
set_option Elab.async false
set_option linter.all false
set_option maxRecDepth 100000
set_option maxHeartbeats 2000000
namespace Tm
open PySem L2
open Evl (Ex ex_rd ex_l ex_t)
inductive BA where
  | v (x : MV) | b (i : Nat)
abbrev MB := Env → Res (List BA × Env)
def idxB : List BA → List Nat
  | [] => []
  | .v _ :: r => idxB r
  | .b i :: r => i :: idxB r
def MV.held : MV → Bool
  | .own _ => true
  | .obj _ _ => true
  | _ => false
def fill : List BA → Env → Option (List MV)
  | [], _ => some []
  | .v x :: r, ρ => (match fill r ρ with | some xs => some (x :: xs) | none => none)
  | .b i :: r, ρ => (match ρ[i]?, fill r ρ with | some (some x), some xs => if x.held then some (x :: xs) else none | _, _ => none)
def back (ρ : Env) : List Nat → Env → Env
  | [], _ => ρ
  | i :: is, os => back (ρ.set i (os.head?).join) is os.tail
def BVs (K : PySem.W.Frag) (Hk : Hp) (σ : St) : List BA → List V → Prop
  | [], vs => vs = []
  | .v x :: r, vs => ∃ v us, vs = v :: us ∧ RV K Hk x v ∧ BVs K Hk σ r us
  | .b i :: r, vs => ∃ v us, vs = v :: us ∧ σ[i]? = some (some v) ∧ BVs K Hk σ r us
theorem BVs.mono {K : PySem.W.Frag} {Hk Hk' : Hp} {σ : St} (e : Ex Hk Hk') : ∀ {xs : List BA} {vs : List V}, BVs K Hk σ xs vs → BVs K Hk' σ xs vs
  | [], _, h => h
  | .v x :: r, vs, ⟨v, us, e1, e2, e3⟩ => ⟨v, us, e1, RV.mono e _ _ e2, BVs.mono e e3⟩
  | .b i :: r, vs, ⟨v, us, e1, e2, e3⟩ => ⟨v, us, e1, e2, BVs.mono e e3⟩
theorem BVs.length {K : PySem.W.Frag} {Hk : Hp} {σ : St} : ∀ {xs : List BA} {vs : List V}, BVs K Hk σ xs vs → vs.length = xs.length
  | [], _, h => by rw [show _ = [] from h]; rfl
  | .v x :: r, vs, ⟨v, us, e1, e2, e3⟩ => by rw [e1, List.length_cons, List.length_cons, e3.length]
  | .b i :: r, vs, ⟨v, us, e1, e2, e3⟩ => by rw [e1, List.length_cons, List.length_cons, e3.length]
def okBA (c : Ct) (F Hk : Hp) (bp : List (Nat × Addr)) (σ : St) (Q : List V → Hp → Prop) : Res (List BA × Env) → Prop
  | .ok (xs, ρ') => ∀ Hk' H' vs, Ex Hk Hk' → RS c.K F Hk' H' bp σ ρ' → BVs c.K Hk' σ xs vs → Q vs H'
  | .exc e ρ' => Wish c F Hk bp σ e ρ'
  | .stuck => False
theorem okBA.mono {c : Ct} {F Hk Hk' : Hp} {bp : List (Nat × Addr)} {σ : St} {Q : List V → Hp → Prop} {r : Res (List BA × Env)} (x : Ex Hk Hk') (h : okBA c F Hk bp σ Q r) : okBA c F Hk' bp σ Q r := by
  cases r with
  | ok a => exact fun Hk2 H2 v x2 => h Hk2 H2 v (x.trans x2)
  | exc e ρ => exact Wish.mono x h
  | stuck => exact h
end Tm
set_option Elab.async false
set_option linter.all false
set_option maxRecDepth 100000
set_option maxHeartbeats 2000000
namespace Tm
open PySem L2
open Evl (Ex ex_rd ex_l ex_t)
def cbE (f : MF) (args : List BA) (ρ : Env) : Res (MV × Env) := match fill args ρ with
  | some xs => (match f xs with | .ok (v, os) => .ok (v, back ρ (idxB args) os) | .exc e os => .exc e (back ρ (idxB args) os) | .stuck => .stuck)
  | none => .stuck
end Tm
set_option Elab.async false
set_option linter.all false
set_option maxRecDepth 100000
set_option maxHeartbeats 2000000
namespace Tm
open PySem L2
open Evl (Ex ex_rd ex_l ex_t)
def putM (f : Str) (v : MV) : List (Str × MV) → List (Str × MV)
  | [] => [(f, v)]
  | (g, x) :: r => if g = f then (g, v) :: r else (g, x) :: putM f v r
theorem look_eq {α : Type} {f g : Str} {x : α} {r : List (Str × α)} : ((g, x) :: r).lookup f = if g = f then some x else r.lookup f := by
  rw [List.lookup_cons]
  by_cases e : g = f
  · subst e; simp
  · rw [if_neg e]
    have : (f == g) = false := by simpa using fun z => e z.symm
    rw [this]
section
variable {K : PySem.W.Frag} {Hk H : Hp}
theorem OFs.fresh : ∀ {fs : List (Str × MV)} {vfs : List (Str × V)} {B : List Addr} {f : Str}, OFs K Hk H fs vfs B → fs.lookup f = none → vfs.lookup f = none ∧
    ∀ (Hk' H' : Hp) (x' : MV) (v' : V) (A1' : List Addr), Ex Hk Hk' → (∀ a ∈ B, ∀ o, H a = some o → H' a = some o) → OF K Hk' H' x' v' A1' → OFs K Hk' H' (putM f x' fs) (putF f v' vfs) (B ++ A1')
  | [], vfs, B, f, ⟨e1, e2⟩, _ => by
    subst e1 e2
    exact ⟨rfl, fun Hk' H' x' v' A1' ex k o' => ⟨v', [], A1', [], rfl, by simp, o', rfl, rfl⟩⟩
  | (n, y) :: fs, vfs, B, f, ⟨v, r, C, D, e1, e2, o1, o2⟩, h => by
    subst e1 e2
    rw [look_eq] at h
    by_cases e : n = f
    · rw [if_pos e] at h; cases h
    · rw [if_neg e] at h
      obtain ⟨g1, g4⟩ := OFs.fresh o2 h
      refine ⟨by rw [look_eq, if_neg e]; exact g1, fun Hk' H' x' v' A1' ex k o' => ?_⟩
      unfold putM putF
      rw [if_neg e, if_neg e]
      exact ⟨v, _, C, D ++ A1', rfl, by simp, o1.move ex fun a ha => k a (by simp [ha]), g4 Hk' H' x' v' A1' ex (fun a ha => k a (by simp [ha])) o'⟩
theorem OFs.len : ∀ {fs : List (Str × MV)} {vfs : List (Str × V)} {B : List Addr}, OFs K Hk H fs vfs B → vfs.length = fs.length
  | [], vfs, B, ⟨e1, _⟩ => by rw [e1]; rfl
  | _ :: fs, vfs, B, ⟨v, r, C, D, e1, e2, o1, o2⟩ => by rw [e1, List.length_cons, List.length_cons, o2.len]
theorem OV.obj {C : Str} {fs : List (Str × MV)} {v : V} {A : List Addr} : OV K Hk H (.obj C fs) v A ↔ ∃ p CA dx vfs B, v = .ref p ∧ A = p :: B ∧ PySem.W.nsIn K mainGlobals C = some (some (.ref CA)) ∧ H p = some (.ins CA dx vfs) ∧ OFs K Hk H fs vfs B ∧ (p :: B).Nodup := by
  unfold OV; rfl
theorem OF.own {xs : List MV} {v : V} {A : List Addr} : OF K Hk H (.own xs) v A ↔ ∃ p vs, v = .ref p ∧ A = [p] ∧ H p = some (.lst vs) ∧ RVs K Hk xs vs := by
  unfold OF; rfl
end
structure ObC (K : PySem.W.Frag) (C : Str) (fs : List Str) : Prop where
  ex : ∀ CA, PySem.W.nsIn K mainGlobals C = some (some (.ref CA)) → Cls K CA ∧ ∀ f ∈ fs, NoAttr K CA f
end Tm
set_option Elab.async false
set_option linter.all false
set_option maxRecDepth 100000
set_option maxHeartbeats 2000000
namespace Tm
open PySem L2
open Evl (Ex ex_rd ex_l ex_t)
structure ObM (P : Program) (w : World) (K : PySem.W.Frag) (mg : Str → Option Value) (base : Heap) (C m : Str) (k : Nat) (ps : List Str) (bs : List Nat) (f : MF) : Prop where
  ex : ∃ CA g fd, PySem.W.nsIn K mainGlobals C = some (some (.ref CA)) ∧ Cls K CA ∧ Meth K CA m g ∧ FnOk P w K mg base (L2N.CX P w) k g fd ps (spF K mg ps.length bs f) ∧ Binds K fd ps []
structure ObN (P : Program) (w : World) (K : PySem.W.Frag) (mg : Str → Option Value) (base : Heap) (C : Str) (k : Nat) (f : MF) : Prop where
  ex : ∃ CA g fd ps, PySem.W.nsIn K mainGlobals C = some (some (.ref CA)) ∧ mg C = some (.ref CA) ∧ Mk K CA g ∧ FnOk P w K mg base (L2N.CX P w) k g fd ps (spF K mg 1 [0] f) ∧ Binds K fd ps []
end Tm
set_option Elab.async false
set_option linter.all false
set_option maxRecDepth 100000
set_option maxHeartbeats 2000000
namespace Tm
open PySem L2
open Evl (Ex ex_rd ex_l ex_t)
def FnA (K : PySem.W.Frag) (a : Addr) : Prop := ∃ o, K.lookup a = some o ∧ o.cls = .type "function"
theorem FnA.ty {X : Cx} {pins : List (Addr × Obj)} {σ : St} {H : Hp} {s : Shared} {a : Addr} (I : Inv X pins σ H s) (h : FnA X.K a) : s.TypeIs (.ref a) "function" := by
  obtain ⟨o, h1, h2⟩ := h
  exact ⟨o, I.kIn _ _ h1, h2⟩
structure FnI (K : PySem.W.Frag) (N : List Str) : Prop where
  fn : ∀ x ∈ N, ∀ a, PySem.W.nsIn K mainGlobals x = some (some (.ref a)) → FnA K a
  inj : ∀ x ∈ N, ∀ y ∈ N, ∀ a, PySem.W.nsIn K mainGlobals x = some (some (.ref a)) → PySem.W.nsIn K mainGlobals y = some (some (.ref a)) → x = y
structure FnT (P : Program) (w : World) (K : PySem.W.Frag) (mg : Str → Option Value) (base : Heap) (T : List (Str × MF)) : Prop where
  ex : ∀ x f, T.lookup x = some f → ∀ a, PySem.W.nsIn K mainGlobals x = some (some (.ref a)) → ∃ fd ps, FnOk P w K mg base (L2N.CX P w) 2 a fd ps (spF K mg 1 [] f) ∧ PySem.W.keepIn K (.ref a) = true ∧ Binds K fd ps []
end Tm
set_option Elab.async false
set_option linter.all false
set_option maxRecDepth 100000
set_option maxHeartbeats 2000000
namespace Tm
open PySem L2
open Evl (Ex ex_rd ex_l ex_t)
section
variable {X : Cx} {c : Ct} {C x f : Str} {fl : List Str} {i : Nat} {p p2 pos apos cpos : Pos} {e : Expr} {es : List Expr}
structure FnG (K : PySem.W.Frag) (mg : Str → Option Value) (x : Str) : Prop where
  ex : ∃ a, mg x = some (.ref a) ∧ PySem.W.nsIn K mainGlobals x = some (some (.ref a))
end
end Tm
set_option Elab.async false
set_option linter.all false
set_option maxRecDepth 100000
set_option maxHeartbeats 2000000
namespace Tm
open PySem L2
open Evl (Ex ex_rd ex_l ex_t)
structure ObX (P : Program) (w : World) (K : PySem.W.Frag) (mg : Str → Option Value) (base : Heap) (C m : Str) (k : Nat) (ps : List Str) (sp : Sp) : Prop where
  ex : ∃ CA g fd, PySem.W.nsIn K mainGlobals C = some (some (.ref CA)) ∧ Cls K CA ∧ Meth K CA m g ∧ FnOk P w K mg base (L2N.CX P w) k g fd ps sp ∧ Binds K fd ps []
end Tm
set_option Elab.async false
set_option linter.all false
set_option maxRecDepth 100000
set_option maxHeartbeats 2000000
namespace Tm
open PySem L2
theorem nr {α : Sort _} {a b : α} (h : a = b) : a = b := h
section
variable {α β : Type} {a b : ME} {ρ ρ1 : Env} {r : Option MV} {x y z : MV}
@[simp] theorem bind_ok {x : α} {f : α → Env → Res (β × Env)} : (Res.ok (x, ρ)).bind f = f x ρ := nr rfl
@[simp] theorem bind_exc {e : MX} {f : α → Env → Res (β × Env)} : (Res.exc e ρ : Res (α × Env)).bind f = .exc e ρ := nr rfl
@[simp] theorem bind_stuck {f : α → Env → Res (β × Env)} : (Res.stuck : Res (α × Env)).bind f = .stuck := nr rfl
@[simp] theorem b0_ok {x : α} {f : α → Env → Res (β × Env)} : (Res.ok (x, ρ)).b0 f = f x ρ := nr rfl
@[simp] theorem mVar_ap {i : Nat} : mVar i (r :: ρ) = match (r :: ρ)[i]? with
  | some (some (.own xs)) => .ok (.lst xs, (r :: ρ).set i (some (.lst xs)))
  | some (some (.obj _ _)) => .stuck
  | some (some (.dow _ _)) => .stuck
  | some (some (.dot _ _)) => .stuck
  | some (some x) => .ok (x, (r :: ρ))
  | _ => .stuck := nr rfl
@[simp] theorem mC_ap  : mC x (r :: ρ) = .ok (x, (r :: ρ)) := nr rfl
@[simp] theorem mOp_ap {f : MV → MV → Option MV} : mOp f a b (r :: ρ) = (a (r :: ρ)).bind fun x ρ1 => (b ρ1).bind fun y ρ2 => match f x y with | some z => .ok (z, ρ2) | none => .stuck := nr rfl
@[simp] theorem mUn_ap {f : MV → Option MV} : mUn f a (r :: ρ) = (a (r :: ρ)).bind fun x ρ1 => match f x with | some z => .ok (z, ρ1) | none => .stuck := nr rfl
@[simp] theorem mTest_ap  : mTest a (r :: ρ) = (a (r :: ρ)).bind fun x ρ1 => match x with | .bl b => .ok (b, ρ1) | _ => .stuck := nr rfl
@[simp] theorem mChain_ap {f g : MV → MV → Option MV} {d : ME} : mChain f g a b d (r :: ρ) = (a (r :: ρ)).bind fun x ρ1 => (b ρ1).bind fun y ρ2 => match f x y with
  | some (.bl true) => (d ρ2).bind fun z ρ3 => match g y z with | some w => .ok (w, ρ3) | none => .stuck
  | some (.bl false) => .ok (.bl false, ρ2)
  | _ => .stuck := nr rfl
@[simp] theorem mAndT_ap {a b : MT} : mAndT a b (r :: ρ) = (a (r :: ρ)).bind fun x ρ1 => if x then b ρ1 else .ok (false, ρ1) := nr rfl
@[simp] theorem mOrT_ap {a b : MT} : mOrT a b (r :: ρ) = (a (r :: ρ)).bind fun x ρ1 => if x then .ok (true, ρ1) else b ρ1 := nr rfl
@[simp] theorem mNotT_ap {a : MT} : mNotT a (r :: ρ) = (a (r :: ρ)).bind fun x ρ1 => .ok (!x, ρ1) := nr rfl
@[simp] theorem mBv_ap {t : MT} : mBv t (r :: ρ) = (t (r :: ρ)).bind fun x ρ1 => .ok (.bl x, ρ1) := nr rfl
@[simp] theorem mNil_ap  : mNil (r :: ρ) = .ok ([], (r :: ρ)) := nr rfl
@[simp] theorem mCons_ap {b : MA} : mCons a b (r :: ρ) = (a (r :: ρ)).bind fun x ρ1 => (b ρ1).bind fun xs ρ2 => .ok (x :: xs, ρ2) := nr rfl
@[simp] theorem mTup_ap {a : MA} : mTup a (r :: ρ) = (a (r :: ρ)).bind fun xs ρ1 => if szOk xs.length then .ok (.tup xs, ρ1) else .stuck := nr rfl
@[simp] theorem mLst_ap {a : MA} : mLst a (r :: ρ) = (a (r :: ρ)).bind fun xs ρ1 => if szOk xs.length then .ok (.lst xs, ρ1) else .stuck := nr rfl
@[simp] theorem mLstO_ap {a : MA} : mLstO a (r :: ρ) = (a (r :: ρ)).bind fun xs ρ1 => if szOk xs.length then .ok (.own xs, ρ1) else .stuck := nr rfl
@[simp] theorem mNo_ap  : mNo (r :: ρ) = .ok (none, (r :: ρ)) := nr rfl
@[simp] theorem mPart_ap  : mPart a (r :: ρ) = (a (r :: ρ)).bind fun x ρ1 => match x with | .int i => .ok (some i, ρ1) | _ => .stuck := nr rfl
@[simp] theorem mSl_ap {l h : Env → Res (Option Int × Env)} : mSl a l h (r :: ρ) = (a (r :: ρ)).bind fun x ρ1 => (l ρ1).bind fun i ρ2 => (h ρ2).bind fun j ρ3 => match fSl x i j with | some z => .ok (z, ρ3) | none => .stuck := nr rfl
@[simp] theorem gSet_ap {i : Nat} : gSet i x (r :: ρ) = if i < (r :: ρ).length then some ((r :: ρ).set i (some x)) else none := nr rfl
@[simp] theorem gsNil_ap  : gsNil [] (r :: ρ) = some (r :: ρ) := nr rfl
@[simp] theorem gsCons_ap {g : MG} {h : List MV → Env → Option Env} {xs : List MV} : gsCons g h (x :: xs) (r :: ρ) = match g x (r :: ρ) with | some ρ1 => h xs ρ1 | none => none := nr rfl
@[simp] theorem gTp_tup {n : Nat} {h : List MV → Env → Option Env} {xs : List MV} : gTp n h (.tup xs) ρ = if xs.length = n then h xs ρ else none := nr rfl
@[simp] theorem gTp_lst {n : Nat} {h : List MV → Env → Option Env} {xs : List MV} : gTp n h (.lst xs) ρ = if xs.length = n then h xs ρ else none := nr rfl
@[simp] theorem mAsg_ap {g : MG} : mAsg a g (r :: ρ) = (a (r :: ρ)).bind fun x ρ1 => match g x ρ1 with | some ρ2 => .ok (.nx, ρ2) | none => .stuck := nr rfl
@[simp] theorem mSetO_ap {i : Nat} : mSetO i a (r :: ρ) = (a (r :: ρ)).bind fun x ρ1 => if i < ρ1.length then .ok (.nx, ρ1.set i (some x)) else .stuck := nr rfl
@[simp] theorem mPass_ap  : mPass (r :: ρ) = .ok (.nx, (r :: ρ)) := nr rfl
@[simp] theorem mSeq_ap {a b : MS} : mSeq a b (r :: ρ) = (a (r :: ρ)).bind fun f ρ1 => match f with | .nx => b ρ1 | f => .ok (f, ρ1) := nr rfl
@[simp] theorem mIfS_ap {t : MT} {a b : MS} : mIfS t a b (r :: ρ) = (t (r :: ρ)).bind fun x ρ1 => if x then a ρ1 else b ρ1 := nr rfl
@[simp] theorem mRet_ap  : mRet a (r :: ρ) = (a (r :: ρ)).bind fun x ρ1 => .ok (.rt x, ρ1) := nr rfl
@[simp] theorem mDrop_ap  : mDrop a (r :: ρ) = (a (r :: ρ)).bind fun _ ρ1 => .ok (.nx, ρ1) := nr rfl
@[simp] theorem mMove_ap {i : Nat} : mMove i (r :: ρ) = match (r :: ρ)[i]? with
  | some (some (.obj _ _)) => .stuck
  | some (some x) => .ok (x, (r :: ρ).set i none)
  | _ => .stuck := nr rfl
@[simp] theorem mFz_ap  : mFz a (r :: ρ) = (a (r :: ρ)).bind fun x ρ1 => match fz x with | some y => .ok (y, ρ1) | none => .stuck := nr rfl
@[simp] theorem mCall_ap {f : MF} {a : MA} : mCall f a (r :: ρ) = (a (r :: ρ)).bind fun xs ρ1 => match f xs with
  | .ok (v, _) => .ok (v, ρ1)
  | .exc e _ => .exc e ρ1
  | .stuck => .stuck := nr rfl
@[simp] theorem mCall0_ap {f : MF} {a : MA} : mCall0 f a (r :: ρ) = (a (r :: ρ)).bind fun xs ρ1 => match f xs with
  | .ok (v, _) => .ok (v, ρ1)
  | _ => .stuck := nr rfl
@[simp] theorem mBlt_ap {f : List MV → Option MV} {a : MA} : mBlt f a (r :: ρ) = (a (r :: ρ)).bind fun xs ρ1 => match f xs with | some z => .ok (z, ρ1) | none => .stuck := nr rfl
def r1M (xs : List MV) (ρ1 : Env) : Res (List MV × Env) := match xs with
  | [.int j] => if inR j then .ok (rngM 0 1 j.toNat, ρ1) else .stuck
  | _ => .stuck
@[simp] theorem mR1_ap {a : MA} : mR1 a (r :: ρ) = (a (r :: ρ)).bind r1M := nr rfl
@[simp] theorem r1M_i {j : Int} (h : inR j = true) : r1M [.int j] ρ = .ok (rngM 0 1 j.toNat, ρ) := if_pos h
def lmM (f : List MV → List MV → Option (List MV × MV)) (i : Nat) (ys : List MV) (ρ1 : Env) : Res (MV × Env) := match ρ1[i]? with
  | some (some (.own xs)) => (match f xs ys with | some (zs, z) => .ok (z, ρ1.set i (some (.own zs))) | none => .stuck)
  | _ => .stuck
@[simp] theorem mLm_ap {f : List MV → List MV → Option (List MV × MV)} {i : Nat} {a : MA} : mLm f i a (r :: ρ) = if isOwn (r :: ρ) i then (a (r :: ρ)).bind (lmM f i) else .stuck := nr rfl
@[simp] theorem lmM_o {f : List MV → List MV → Option (List MV × MV)} {i : Nat} {xs ys : List MV} (h : ρ[i]? = some (some (.own xs))) : lmM f i ys ρ = (match f xs ys with | some (zs, z) => .ok (z, ρ.set i (some (.own zs))) | none => .stuck) := by unfold lmM; rw [h]
@[simp] theorem isOwn_o {i : Nat} {xs : List MV} (h : ρ[i]? = some (some (.own xs))) : isOwn ρ i = true := by unfold isOwn; rw [h]
@[simp] theorem has_o {i : Nat} {x : MV} (h : ρ[i]? = some (some x)) : has ρ i = true := by unfold has; rw [h]
@[simp] theorem flatM_i {k : Int} : flatM (.int k) = true := nr rfl
@[simp] theorem mItV_ap  : mItV a (r :: ρ) = (a (r :: ρ)).bind fun x ρ1 => match itemsOf x with | some xs => .ok (xs, ρ1) | none => .stuck := nr rfl
@[simp] theorem mZip_ap {a : MA} : mZip a (r :: ρ) = (a (r :: ρ)).bind fun xs ρ1 => match xs with
  | [x, y] => (match zitM x, zitM y with | some xs, some ys => .ok (zipM xs ys, ρ1) | _, _ => .stuck)
  | _ => .stuck := nr rfl
@[simp] theorem zitM_l {xs : List MV} : zitM (.lst xs) = some xs := nr rfl
@[simp] theorem zitM_t {xs : List MV} : zitM (.tup xs) = some xs := nr rfl
@[simp] theorem zitM_s {z : Str} : zitM (.str z) = some (signsM z) := nr rfl
@[simp] theorem mYes_ap  : mYes (r :: ρ) = .ok (true, (r :: ρ)) := nr rfl
@[simp] theorem mFor_ap {i : MI} {g : MG} {b : MS} : mFor i g b (r :: ρ) = (i (r :: ρ)).bind fun xs ρ1 => mLoop g b xs ρ1 := nr rfl
@[simp] theorem mLcO_ap {it : MI} {g : Tgt} {t : MT} {vs : List Nat} : mLcO it g t a vs (r :: ρ) = (it (r :: ρ)).bind fun xs ρ1 => if perAt ρ1 vs then (mLcLoop g t a vs xs [] ρ1).b0 fun ys ρ2 => .ok (.own ys, backM ρ1 ρ2 vs) else .stuck := nr rfl
end
@[simp] theorem fz_lst {xs : List MV} : fz (.lst xs) = some (.lst xs) := nr rfl
@[simp] theorem fz_own {xs : List MV} : fz (.own xs) = some (.lst xs) := nr rfl
@[simp] theorem fz_tup {xs : List MV} : fz (.tup xs) = some (.tup xs) := nr rfl
@[simp] theorem fz_int {i : Int} : fz (.int i) = some (.int i) := nr rfl
@[simp] theorem fz_bl {i : Bool} : fz (.bl i) = some (.bl i) := nr rfl
@[simp] theorem fz_str {i : Str} : fz (.str i) = some (.str i) := nr rfl
@[simp] theorem fz_non : fz .non = some .non := nr rfl
@[simp] theorem fz_scr {i : List Int} : fz (.scr i) = some (.scr i) := nr rfl
section
variable {i j : Int}
@[simp] theorem fAdd_ii : fAdd (.int i) (.int j) = some (.int (i + j)) := nr rfl
@[simp] theorem fAdd_ss {a b : Str} : fAdd (.str a) (.str b) = if szOk (a.length + b.length) then some (.str (a ++ b)) else none := nr rfl
@[simp] theorem fAdd_ll {a b : List MV} : fAdd (.lst a) (.lst b) = if szOk (a.length + b.length) then some (.lst (a ++ b)) else none := nr rfl
@[simp] theorem fAdd_tt {a b : List MV} : fAdd (.tup a) (.tup b) = if szOk (a.length + b.length) then some (.tup (a ++ b)) else none := nr rfl
@[simp] theorem fSub_ii : fSub (.int i) (.int j) = some (.int (i - j)) := nr rfl
@[simp] theorem fMul_ii : fMul (.int i) (.int j) = if mulOk i j then some (.int (i * j)) else none := nr rfl
@[simp] theorem fDiv_ii : fDiv (.int i) (.int j) = if divOk j then some (.int (i.fdiv j)) else none := nr rfl
@[simp] theorem fMod_ii : fMod (.int i) (.int j) = if decide (j ≠ 0) then some (.int (i.fmod j)) else none := nr rfl
@[simp] theorem fPow_ii : fPow (.int i) (.int j) = if decide (0 ≤ j) && decide (j ≤ 1000000) && decide (i.natAbs < 2 ^ 64) then some (.int (i ^ j.toNat)) else none := nr rfl
@[simp] theorem fLt_ii : fLt (.int i) (.int j) = some (.bl (decide (i < j))) := nr rfl
@[simp] theorem fLe_ii : fLe (.int i) (.int j) = some (.bl (decide (i ≤ j))) := nr rfl
@[simp] theorem fGt_ii : fGt (.int i) (.int j) = some (.bl (decide (j < i))) := nr rfl
@[simp] theorem fGe_ii : fGe (.int i) (.int j) = some (.bl (decide (j ≤ i))) := nr rfl
@[simp] theorem fNeg_i : fNeg (.int i) = some (.int (-i)) := nr rfl
@[simp] theorem fEq_ii : fEq (.int i) (.int j) = some (.bl (decide (i = j))) := nr rfl
@[simp] theorem fNe_ii : fNe (.int i) (.int j) = some (.bl (!decide (i = j))) := nr rfl
@[simp] theorem fEq_ss {a b : Str} : fEq (.str a) (.str b) = some (.bl (decide (a = b))) := nr rfl
@[simp] theorem fNe_ss {a b : Str} : fNe (.str a) (.str b) = some (.bl (!decide (a = b))) := nr rfl
@[simp] theorem bLen_l {a : List MV} : bLen [.lst a] = some (.int a.length) := nr rfl
@[simp] theorem bLen_t {a : List MV} : bLen [.tup a] = some (.int a.length) := nr rfl
@[simp] theorem bLen_c {a : List Int} : bLen [.scr a] = some (.int a.length) := nr rfl
@[simp] theorem bAbs_i : bAbs [.int i] = some (.int (if i < 0 then -i else i)) := nr rfl
@[simp] theorem bInt_i : bInt [.int i] = some (.int i) := nr rfl
@[simp] theorem bInt_b {k : Bool} : bInt [.bl k] = some (.int (if k then 1 else 0)) := nr rfl
@[simp] theorem fIx_l {a : List MV} : fIx (.lst a) (.int i) = atI a i := nr rfl
@[simp] theorem fIx_t {a : List MV} : fIx (.tup a) (.int i) = atI a i := nr rfl
@[simp] theorem fIx_c {a : List Int} : fIx (.scr a) (.int i) = (atI a i).map .int := nr rfl
@[simp] theorem itemsOf_l {a : List MV} : itemsOf (.lst a) = some a := nr rfl
@[simp] theorem itemsOf_t {a : List MV} : itemsOf (.tup a) = some a := nr rfl
@[simp] theorem itemsOf_c {a : List Int} : itemsOf (.scr a) = some (a.map .int) := nr rfl
@[simp] theorem lmAppend_1 {a : List MV} {y : MV} : lmAppend a [y] = if decide (a.length < sizeLine) then some (a ++ [y], .non) else none := nr rfl
end
@[simp] theorem nat_neg {k : Nat} : ((k : Int) < 0) = False := by simp
@[simp] theorem nat_toNat {k : Nat} : ((k : Int)).toNat = k := nr rfl
theorem szOk_small {n : Nat} (h : n ≤ 16777216) : szOk n = true := szOk_iff.mpr (by rw [sizeLine_eq]; exact h)
theorem atI_ge {α : Type} {xs : List α} {i : Int} (h : 0 ≤ i) : atI xs i = xs[i.toNat]? := by
  unfold atI ixN
  rw [if_pos h]
  by_cases e : i < xs.length
  · rw [if_pos e]; rfl
  · rw [if_neg e, List.getElem?_eq_none (by omega)]; rfl
@[simp] theorem atI_0 {α : Type} {xs : List α} : atI xs 0 = xs[0]? := atI_ge (by decide)
@[simp] theorem atI_1 {α : Type} {xs : List α} : atI xs 1 = xs[1]? := atI_ge (by decide)
@[simp] theorem atI_2 {α : Type} {xs : List α} : atI xs 2 = xs[2]? := atI_ge (by decide)
@[simp] theorem atI_3 {α : Type} {xs : List α} : atI xs 3 = xs[3]? := atI_ge (by decide)
@[simp] theorem atI_4 {α : Type} {xs : List α} : atI xs 4 = xs[4]? := atI_ge (by decide)
@[simp] theorem atI_5 {α : Type} {xs : List α} : atI xs 5 = xs[5]? := atI_ge (by decide)
@[simp] theorem atI_6 {α : Type} {xs : List α} : atI xs 6 = xs[6]? := atI_ge (by decide)
@[simp] theorem atI_7 {α : Type} {xs : List α} : atI xs 7 = xs[7]? := atI_ge (by decide)
@[simp] theorem atI_8 {α : Type} {xs : List α} : atI xs 8 = xs[8]? := atI_ge (by decide)
@[simp] theorem atI_9 {α : Type} {xs : List α} : atI xs 9 = xs[9]? := atI_ge (by decide)
@[simp] theorem atI_10 {α : Type} {xs : List α} : atI xs 10 = xs[10]? := atI_ge (by decide)
@[simp] theorem atI_11 {α : Type} {xs : List α} : atI xs 11 = xs[11]? := atI_ge (by decide)
@[simp] theorem atI_12 {α : Type} {xs : List α} : atI xs 12 = xs[12]? := atI_ge (by decide)
@[simp] theorem atI_13 {α : Type} {xs : List α} : atI xs 13 = xs[13]? := atI_ge (by decide)
@[simp] theorem atI_14 {α : Type} {xs : List α} : atI xs 14 = xs[14]? := atI_ge (by decide)
@[simp] theorem atI_15 {α : Type} {xs : List α} : atI xs 15 = xs[15]? := atI_ge (by decide)
theorem mulOk_l {i j : Int} (h1 : -(2 ^ 64) < i) (h2 : i < 2 ^ 64) : mulOk i j = true := by simp only [mulOk, Bool.or_eq_true, Bool.and_eq_true, decide_eq_true_eq]; exact .inl (.inl ⟨h1, h2⟩)
theorem mulOk_r {i j : Int} (h1 : -(2 ^ 64) < j) (h2 : j < 2 ^ 64) : mulOk i j = true := by simp only [mulOk, Bool.or_eq_true, Bool.and_eq_true, decide_eq_true_eq]; exact .inl (.inr ⟨h1, h2⟩)
theorem inR_of {i : Int} (h1 : -(2 ^ 62) ≤ i) (h2 : i < 2 ^ 62) : inR i = true := inR_iff.mpr ⟨h1, h2⟩
theorem loop_inv {g : MG} {b : MS} (I : Nat → Env → Prop) : ∀ (xs : List MV) (k : Nat) (ρ : Env), I k ρ → (∀ i x ρ, xs[i]? = some x → I (k + i) ρ → ∃ ρ1 ρ2, g x ρ = some ρ1 ∧ (b ρ1 = .ok (.nx, ρ2) ∨ b ρ1 = .ok (.ct, ρ2)) ∧ I (k + i + 1) ρ2) → ∃ ρ', mLoop g b xs ρ = .ok (.nx, ρ') ∧ I (k + xs.length) ρ'
  | [], k, ρ, h, _ => ⟨ρ, rfl, h⟩
  | x :: xs, k, ρ, h, hs => by
    obtain ⟨ρ1, ρ2, e1, e2, h2⟩ := hs 0 x ρ rfl h
    obtain ⟨ρ', e3, h3⟩ := loop_inv I xs (k + 1) ρ2 h2 (fun i y ρ hy hi => by
      have := hs (i + 1) y ρ (by simpa using hy) (by rw [show k + (i + 1) = k + 1 + i by omega]; exact hi)
      rw [show k + 1 + i + 1 = k + (i + 1) + 1 by omega]
      exact this)
    refine ⟨ρ', ?_, by rw [List.length_cons, show k + (xs.length + 1) = k + 1 + xs.length by omega]; exact h3⟩
    unfold mLoop
    rw [e1]
    rcases e2 with e2 | e2 <;> (simp only [e2, bind_ok]; exact e3)
theorem loop_rng {g : MG} {b : MS} {lo c : Int} {n : Nat} {ρ : Env} (I : Nat → Env → Prop) (h0 : I 0 ρ) (hs : ∀ i ρ, i < n → I i ρ → ∃ ρ1 ρ2, g (.int (lo + (i : Nat) * c)) ρ = some ρ1 ∧ (b ρ1 = .ok (.nx, ρ2) ∨ b ρ1 = .ok (.ct, ρ2)) ∧ I (i + 1) ρ2) :
    ∃ ρ', mLoop g b (rngM lo c n) ρ = .ok (.nx, ρ') ∧ I n ρ' := by
  obtain ⟨ρ', e, h⟩ := loop_inv I (rngM lo c n) 0 ρ h0 fun i x ρ hx hi => by
    have li := lt_get hx
    rw [rngM_len] at li
    rw [rngM_get li] at hx
    cases hx
    have := hs i ρ li (by simpa using hi)
    simpa using this
  rw [rngM_len, Nat.zero_add] at h
  exact ⟨ρ', e, h⟩
theorem loop_nxr {g : MG} {b : MS} {lo c : Int} {n : Nat} {ρ : Env} (I : Nat → Env → Prop) (h0 : I 0 ρ) (hs : ∀ i ρ, i < n → I i ρ → ∃ ρ1, g (.int (lo + (i : Nat) * c)) ρ = some ρ1 ∧ ∃ ρ2, b ρ1 = .ok (.nx, ρ2) ∧ I (i + 1) ρ2) :
    ∃ ρ', mLoop g b (rngM lo c n) ρ = .ok (.nx, ρ') ∧ I n ρ' := by
  refine loop_rng I h0 fun i ρ hi h => ?_
  obtain ⟨ρ1, e, ρ2, e2, h⟩ := hs i ρ hi h
  exact ⟨ρ1, ρ2, e, .inl e2, h⟩
def okD : Nat → MV → Bool
  | _, .non => true
  | _, .bl _ => true
  | _, .int _ => true
  | _, .str x => (PyData.str x).canLay0
  | n + 1, .tup xs => xs.all (okD n)
  | n + 1, .lst xs => xs.all (okD n)
  | _, _ => false
theorem okDs_to {n : Nat} (ih : ∀ x, okD n x = true → ∃ d, toD x = some d ∧ d.canLay0 = true ∧ d.depth ≤ n) : ∀ xs : List MV, xs.all (okD n) = true → ∃ ds, toDs xs = some ds ∧ PyData.canLayAll0 ds = true ∧ PyData.depthAll ds ≤ n
  | [], _ => ⟨[], rfl, by simp [PyData.canLayAll0], by simp [PyData.depthAll]⟩
  | x :: xs, h => by
    simp only [List.all_cons, Bool.and_eq_true] at h
    obtain ⟨d, e, c, p⟩ := ih x h.1
    obtain ⟨ds, es, cs, ps⟩ := okDs_to ih xs h.2
    refine ⟨d :: ds, by simp [toDs, e, es], by simp [PyData.canLayAll0, c, cs], by simp only [PyData.depthAll]; omega⟩
theorem okD_to : ∀ (n : Nat) (x : MV), okD n x = true → ∃ d, toD x = some d ∧ d.canLay0 = true ∧ d.depth ≤ n
  | n, .non, _ => ⟨_, rfl, rfl, by simp [PyData.depth]⟩
  | n, .bl _, _ => ⟨_, rfl, rfl, by simp [PyData.depth]⟩
  | n, .int _, _ => ⟨_, rfl, rfl, by simp [PyData.depth]⟩
  | n, .str x, h => ⟨.str x, rfl, by cases n <;> exact h, by simp [PyData.depth]⟩
  | 0, .tup _, h => by simp [okD] at h
  | 0, .lst _, h => by simp [okD] at h
  | n + 1, .tup xs, h => by
    obtain ⟨ds, e, c, p⟩ := okDs_to (okD_to n) xs h
    exact ⟨.tuple ds, by simp [toD, e], by simpa [PyData.canLay0] using c, by simp only [PyData.depth]; omega⟩
  | n + 1, .lst xs, h => by
    obtain ⟨ds, e, c, p⟩ := okDs_to (okD_to n) xs h
    exact ⟨.list ds, by simp [toD, e], by simpa [PyData.canLay0] using c, by simp only [PyData.depth]; omega⟩
  | n, .own _, h => by cases n <;> simp [okD] at h
  | n, .raw _, h => by cases n <;> simp [okD] at h
  | n, .scr _, h => by cases n <;> simp [okD] at h
  | n, .fnc _, h => by cases n <;> simp [okD] at h
  | n, .obj _ _, h => by cases n <;> simp [okD] at h
  | n, .dct _ _, h => by cases n <;> simp [okD] at h
  | n, .dow _ _, h => by cases n <;> simp [okD] at h
  | n, .dot _ _, h => by cases n <;> simp [okD] at h
theorem eqM_self {n : Nat} {x : MV} (hn : n ≤ 64) (h : okD n x = true) : eqM x x = some true := by
  unfold eqM
  by_cases hs : scalM x x = true
  · rw [if_pos hs]
    cases x <;> simp_all [scalM, sameM]
  · rw [if_neg hs]
    obtain ⟨d, e, c, p⟩ := okD_to n x h
    have hd : SeqAt.shaped d = true := by
      unfold SeqAt.shaped
      rw [c]
      simp
      omega
    rw [e]
    simp only [hd, Bool.and_self, if_true]
    rw [SeqAt.eqv_refl d c]
@[simp] theorem fEq_tt {xs : List MV} (h : xs.all (okD 20) = true) : fEq (.tup xs) (.tup xs) = some (.bl true) := by unfold fEq; rw [eqM_self (n := 21) (by decide) (x := .tup xs) h]; rfl
@[simp] theorem fNe_tt {xs : List MV} (h : xs.all (okD 20) = true) : fNe (.tup xs) (.tup xs) = some (.bl false) := by unfold fNe; rw [eqM_self (n := 21) (by decide) (x := .tup xs) h]; rfl
@[simp] theorem fEq_lle {xs : List MV} (h : xs.all (okD 20) = true) : fEq (.lst xs) (.lst xs) = some (.bl true) := by unfold fEq; rw [eqM_self (n := 21) (by decide) (x := .lst xs) h]; rfl
@[simp] theorem fNe_lle {xs : List MV} (h : xs.all (okD 20) = true) : fNe (.lst xs) (.lst xs) = some (.bl false) := by unfold fNe; rw [eqM_self (n := 21) (by decide) (x := .lst xs) h]; rfl
@[simp] theorem okD_i {n : Nat} {i : Int} : okD n (.int i) = true := by cases n <;> rfl
@[simp] theorem okD_b {n : Nat} {i : Bool} : okD n (.bl i) = true := by cases n <;> rfl
@[simp] theorem okD_n {n : Nat} : okD n .non = true := by cases n <;> rfl
@[simp] theorem fSl_t {xs : List MV} {lo hi : Option Int} : fSl (.tup xs) lo hi = some (.tup (cutM xs lo hi)) := nr rfl
@[simp] theorem fSl_l {xs : List MV} {lo hi : Option Int} : fSl (.lst xs) lo hi = some (.lst (cutM xs lo hi)) := nr rfl
@[simp] theorem cutM_none {xs : List MV} : cutM xs none none = xs := by simp [cutM, HT.sIx]
theorem cutM_to {xs : List MV} {k : Int} (h : 0 ≤ k) : cutM xs none (some k) = xs.take k.toNat := by
  simp [cutM, HT.sIx, show ¬ k < 0 by omega, List.take_eq_take_min]
theorem cutM_from {xs : List MV} {k : Int} (h : 0 ≤ k) : cutM xs (some k) none = xs.drop k.toNat := by
  simp [cutM, HT.sIx, show ¬ k < 0 by omega]
  by_cases e : k.toNat ≤ xs.length
  · rw [Nat.min_eq_left e, List.take_of_length_le (by simp)]
  · rw [Nat.min_eq_right (by omega), List.drop_of_length_le (by omega), List.drop_of_length_le (by omega)]; simp
end Tm
set_option Elab.async false
set_option linter.all false
set_option maxRecDepth 100000
set_option maxHeartbeats 2000000
namespace Tm
open PySem L2
@[simp] theorem mRevA_ap {a : ME} {r : Option MV} {ρ : Env} : mRevA a (r :: ρ) = (a (r :: ρ)).bind fun x ρ1 => match fRevA x with | some z => .ok (z, ρ1) | none => .stuck := nr rfl
@[simp] theorem fRevA_l {a : List MV} : fRevA (.lst a) = some (.lst a.reverse) := nr rfl
@[simp] theorem fRevA_t {a : List MV} : fRevA (.tup a) = some (.tup a.reverse) := nr rfl
theorem mFn_ok {n : Nat} {m : MS} {xs : List MV} {v : MV} (h : ∃ ρ, m (xs.map some ++ List.replicate (n - xs.length) none) = .ok (.rt v, ρ)) : mFn n [] m xs = .ok (v, []) := by
  obtain ⟨ρ, h⟩ := h
  unfold mFn; rw [h]; rfl
theorem fmod_lt' {a b : Int} (h : 0 < b) : a.fmod b < b := Int.fmod_lt_of_pos a h
theorem fmod_ge' {a b : Int} (h : 0 < b) : 0 ≤ a.fmod b := Int.fmod_nonneg_of_pos a h
theorem nat_fmod (a b : Nat) : (a : Int).fmod (b : Int) = ((a % b : Nat) : Int) := by rw [Int.fmod_eq_emod_of_nonneg _ (Int.natCast_nonneg b)]; exact (Int.natCast_emod a b).symm
theorem nat_fdiv (a b : Nat) : (a : Int).fdiv (b : Int) = ((a / b : Nat) : Int) := by rw [Int.fdiv_eq_ediv_of_nonneg _ (Int.natCast_nonneg b)]; exact (Int.natCast_ediv a b).symm
theorem back_wipe : ∀ (vs : List Nat) (ρ ρ' : Env), ρ.length = ρ'.length → (∀ j, j ∉ vs → ρ'[j]? = ρ[j]?) → backM ρ ρ' vs = ρ := by
  have key : ∀ (vs : List Nat) (ρ ρ' : Env) (j : Nat), ρ.length = ρ'.length → (backM ρ ρ' vs)[j]? = if j ∈ vs then ρ[j]? else ρ'[j]? := by
    intro vs
    induction vs with
    | nil => intro ρ ρ' j hl; simp [backM]
    | cons v vs ih =>
      intro ρ ρ' j hl
      show (backM ρ (ρ'.set v ((ρ[v]?).join)) vs)[j]? = _
      rw [ih ρ _ j (by simp [hl])]
      by_cases e : j ∈ vs
      · simp [e]
      · by_cases e2 : j = v
        · subst e2
          by_cases hlt : j < ρ'.length
          · simp [e, List.getElem?_set_self hlt, show j < ρ.length by omega]
          · simp [e, List.getElem?_eq_none (show ρ'.length ≤ j by omega), List.getElem?_eq_none (show ρ.length ≤ j by omega)]
            omega
        · simp [e, e2, List.getElem?_set_ne (Ne.symm e2)]
  intro vs ρ ρ' hl h
  apply List.ext_getElem?
  intro j
  rw [key vs ρ ρ' j hl]
  by_cases e : j ∈ vs
  · simp [e]
  · simp [e, h j e]
theorem wipe_other {ρ ρ' : Env} {vs : List Nat} (hl : ρ.length = ρ'.length) (h : wipeM ρ' vs = wipeM ρ vs) : ∀ j, j ∉ vs → ρ'[j]? = ρ[j]? := by
  intro j hj
  have h1 := wipeM_get ρ vs j
  have h2 := wipeM_get ρ' vs j
  rw [if_neg (by simp [hj])] at h1 h2
  rw [← h1, ← h2, h]
theorem lc_map {g : Tgt} {e : ME} {vs : List Nat} {W : Env} (y : MV → MV) : ∀ (xs acc : List MV) (ρ : Env), (∀ x ∈ xs, ∃ ρ1, setT g x W = some ρ1 ∧ e ρ1 = .ok (y x, ρ1) ∧ wipeM ρ1 vs = W ∧ ρ1.length = W.length) → wipeM ρ vs = W → ρ.length = W.length → acc.length + xs.length ≤ sizeLine →
    ∃ ρ', mLcLoop g mYes e vs xs acc ρ = .ok (acc ++ xs.map y, ρ') ∧ wipeM ρ' vs = W ∧ ρ'.length = W.length
  | [], acc, ρ, _, hw, hl, _ => ⟨ρ, by simp [mLcLoop], hw, hl⟩
  | x :: xs, acc, ρ, h, hw, hl, hz => by
    obtain ⟨ρ1, e1, e2, e3, e4⟩ := h x (List.mem_cons_self ..)
    rw [List.length_cons] at hz
    obtain ⟨ρ', r1, r2, r3⟩ := lc_map (g := g) (e := e) (vs := vs) y xs (acc ++ [y x]) ρ1 (fun z hz => h z (List.mem_cons_of_mem _ hz)) e3 e4 (by rw [List.length_append, List.length_singleton]; omega)
    refine ⟨ρ', ?_, r2, r3⟩
    unfold mLcLoop
    rw [hw, e1]
    simp only [mYes, b0_ok, if_true, e2]
    rw [if_pos ⟨by omega, by rw [e4, hl]⟩, r1]
    simp
theorem mLcO_map {it : MI} {g : Tgt} {e : ME} {vs : List Nat} {ρ ρ1 : Env} {xs : List MV} (y : MV → MV) (hi : it ρ = .ok (xs, ρ1)) (hp : perAt ρ1 vs = true) (hx : ∀ x ∈ xs, ∃ ρ2, setT g x (wipeM ρ1 vs) = some ρ2 ∧ e ρ2 = .ok (y x, ρ2) ∧ wipeM ρ2 vs = wipeM ρ1 vs ∧ ρ2.length = ρ1.length) (hz : xs.length ≤ sizeLine) :
    mLcO it g mYes e vs ρ = .ok (.own (xs.map y), ρ1) := by
  obtain ⟨ρ', r1, r2, r3⟩ := lc_map (g := g) (e := e) (vs := vs) (W := wipeM ρ1 vs) y xs [] ρ1 (fun x h => by
    obtain ⟨ρ2, a, b, c, d⟩ := hx x h
    exact ⟨ρ2, a, b, c, by rw [d, wipeM_len]⟩) rfl (wipeM_len ..).symm (by simpa using hz)
  unfold mLcO
  rw [hi, bind_ok, if_pos hp, r1]
  simp only [b0_ok, List.nil_append]
  rw [back_wipe vs ρ1 ρ' (by rw [r3, wipeM_len]) (wipe_other (by rw [r3, wipeM_len]) r2)]
def digs : Nat → Nat → List Nat
  | 0, _ => []
  | k + 1, n => n % 10 :: digs k (n / 10)
def digsB (k n : Nat) : List Nat := (digs k n).reverse
theorem digs_len : ∀ k n, (digs k n).length = k
  | 0, _ => rfl
  | k + 1, n => by simp [digs, digs_len k]
theorem digs_append : ∀ (k n : Nat), digs (k + 1) n = digs k n ++ [n / 10 ^ k % 10]
  | 0, n => by simp [digs]
  | k + 1, n => by
    rw [digs, digs_append k (n / 10)]
    show _ = (n % 10 :: digs k (n / 10)) ++ _
    rw [List.cons_append, Nat.div_div_eq_div_mul, Nat.pow_succ, Nat.mul_comm (10 ^ k) 10]
end Tm
set_option Elab.async false
set_option linter.all false
set_option maxRecDepth 100000
set_option maxHeartbeats 2000000
namespace Tm
open PySem L2
section
variable {α β : Type} {ρ : Env} {r : Option MV} {x f g y : Str} {a b : ME}
@[simp] theorem mRaise1_ap : mRaise1 x f a (r :: ρ) = (a (r :: ρ)).bind fun y ρ1 => .exc ⟨x, [(f, y)]⟩ ρ1 := nr rfl
variable {i : Nat} {tab : List (Str × Bool)} {mb : MS} {mh : MX → MS} {e : MX} {q : Fl × Env}
end
section
variable {i : Int} {b b' : Bool} {x y : Str}
@[simp] theorem fEq_nn : fEq .non .non = some (.bl true) := nr rfl
@[simp] theorem fNe_nn : fNe .non .non = some (.bl false) := nr rfl
@[simp] theorem fEq_ni : fEq .non (.int i) = some (.bl false) := nr rfl
@[simp] theorem fEq_in : fEq (.int i) .non = some (.bl false) := nr rfl
@[simp] theorem fNe_ni : fNe .non (.int i) = some (.bl true) := nr rfl
@[simp] theorem fNe_in : fNe (.int i) .non = some (.bl true) := nr rfl
@[simp] theorem fEq_ns : fEq .non (.str x) = some (.bl false) := nr rfl
@[simp] theorem fEq_sn : fEq (.str x) .non = some (.bl false) := nr rfl
@[simp] theorem fNe_ns : fNe .non (.str x) = some (.bl true) := nr rfl
@[simp] theorem fNe_sn : fNe (.str x) .non = some (.bl true) := nr rfl
@[simp] theorem fEq_bb : fEq (.bl b) (.bl b') = some (.bl (decide (b = b'))) := nr rfl
@[simp] theorem fNe_bb : fNe (.bl b) (.bl b') = some (.bl (!decide (b = b'))) := nr rfl
@[simp] theorem fEq_is : fEq (.int i) (.str x) = some (.bl false) := nr rfl
@[simp] theorem fEq_si : fEq (.str x) (.int i) = some (.bl false) := nr rfl
@[simp] theorem fIsN_n : fIsN .non .non = some (.bl true) := nr rfl
@[simp] theorem fIsN_i : fIsN (.int i) .non = some (.bl false) := nr rfl
@[simp] theorem fIsN_s : fIsN (.str x) .non = some (.bl false) := nr rfl
@[simp] theorem fIsN_t {xs : List MV} : fIsN (.tup xs) .non = some (.bl false) := nr rfl
@[simp] theorem fIsN_b : fIsN (.bl b) .non = some (.bl false) := nr rfl
end
@[simp] theorem fIx_s {z : Str} {i : Int} : fIx (.str z) (.int i) = if szOk z.length then (atI z.cps.toList i).map fun c => MV.str ⟨#[c]⟩ else none := nr rfl
@[simp] theorem fSl_s {z : Str} {lo hi : Option Int} : fSl (.str z) lo hi = if szOk z.length then some (.str (cutS z lo hi)) else none := nr rfl
@[simp] theorem bLen_s {z : Str} : bLen [.str z] = if szOk z.length then some (.int z.length) else none := nr rfl
theorem fMul_l {a : List MV} {k : Int} (h : 0 ≤ k) (h2 : k < 2 ^ 63) (h3 : szOk (a.length * k.toNat) = true) : fMul (.lst a) (.int k) = some (.lst (List.replicate k.toNat a).flatten) := by
  show (if (decide (-(2 ^ 63) ≤ k) && decide (k < 2 ^ 63) && szOk (a.length * k.toNat)) = true then some (MV.lst (List.replicate k.toNat a).flatten) else none) = _
  rw [if_pos]
  simp only [h2, h3, decide_true, Bool.and_true, decide_eq_true_eq]
  omega
theorem rep_one {α : Type} (x : α) (k : Nat) : (List.replicate k [x]).flatten = List.replicate k x := by
  induction k with
  | zero => rfl
  | succ k ih => rw [List.replicate_succ, List.flatten_cons, ih]; rfl
theorem fMul_1 {x : MV} {k : Nat} (h : k < 1000000) : fMul (.lst [x]) (.int (k : Nat)) = some (.lst (List.replicate k x)) := by
  rw [fMul_l (by omega) (by omega) (szOk_small (by simp; omega))]
  show some (MV.lst (List.replicate k [x]).flatten) = _
  rw [rep_one]
@[simp] theorem fMul_10 {x : MV} : fMul (.lst [x]) (.int 0) = some (.lst []) := fMul_1 (k := 0) (by decide)
@[simp] theorem fMul_11 {x : MV} : fMul (.lst [x]) (.int 1) = some (.lst [x]) := fMul_1 (k := 1) (by decide)
end Tm
set_option Elab.async false
set_option linter.all false
set_option maxRecDepth 100000
set_option maxHeartbeats 2000000
namespace Tm
open PySem L2
@[simp] theorem fMul_s {a : Str} {k : Int} : fMul (.str a) (.int k) = if decide (-(2 ^ 63) ≤ k) && decide (k < 2 ^ 63) && szOk (a.length * k.toNat) then some (.str (repS a k)) else none := nr rfl
theorem fMul_tk {a : List MV} {k : Int} (h : 2 ≤ k ∧ k ≤ 1000) (h2 : a.length ≤ 1000) : fMul (.tup a) (.int k) = some (.tup (List.replicate k.toNat a).flatten) := by
  refine if_pos ?_
  simp only [Bool.and_eq_true, Bool.or_eq_true, decide_eq_true_eq]
  exact ⟨⟨by omega, by omega⟩, .inr ⟨h, h2⟩⟩
theorem fMul_tup {a : List MV} {k : Int} : fMul (.tup a) (.int k) = if (decide (-(2 ^ 63) ≤ k) && decide (k < 2 ^ 63) && (decide (k = 1) || a.isEmpty || (decide (2 ≤ k) && decide (k ≤ 1000) && decide (a.length ≤ 1000)))) = true then some (.tup (List.replicate k.toNat a).flatten) else none := rfl
@[simp] theorem fMul_t1 {a : List MV} : fMul (.tup a) (.int 1) = some (.tup a) := by
  rw [fMul_tup, if_pos (by simp)]
  simp
end Tm
set_option Elab.async false
set_option linter.all false
set_option maxRecDepth 100000
set_option maxHeartbeats 2000000
namespace Tm
open PySem L2
section
variable {ρ : Env} {r : Option MV}
@[simp] theorem cbE_ap {f : MF} {args : List BA} : cbE f args (r :: ρ) = match fill args (r :: ρ) with
  | some xs => (match f xs with | .ok (v, os) => .ok (v, back (r :: ρ) (idxB args) os) | .exc e os => .exc e (back (r :: ρ) (idxB args) os) | .stuck => .stuck)
  | none => .stuck := nr rfl
@[simp] theorem fill_nil {ρ : Env} : fill [] ρ = some [] := nr rfl
@[simp] theorem fill_v {ρ : Env} {x : MV} {s : List BA} : fill (.v x :: s) ρ = match fill s ρ with | some xs => some (x :: xs) | none => none := nr rfl
@[simp] theorem fill_b {ρ : Env} {i : Nat} {s : List BA} : fill (.b i :: s) ρ = match ρ[i]?, fill s ρ with | some (some x), some xs => if x.held then some (x :: xs) else none | _, _ => none := nr rfl
@[simp] theorem idxB_nil : idxB [] = [] := nr rfl
@[simp] theorem idxB_v {x : MV} {s : List BA} : idxB (.v x :: s) = idxB s := nr rfl
@[simp] theorem idxB_b {i : Nat} {s : List BA} : idxB (.b i :: s) = i :: idxB s := nr rfl
@[simp] theorem back_nil {ρ os : Env} : back ρ [] os = ρ := nr rfl
@[simp] theorem back_cons {ρ os : Env} {i : Nat} {is : List Nat} {o : Option MV} : back ρ (i :: is) (o :: os) = back (ρ.set i o) is os := nr rfl
@[simp] theorem held_own {xs : List MV} : (MV.own xs).held = true := nr rfl
@[simp] theorem held_obj {C : Str} {fs : List (Str × MV)} : (MV.obj C fs).held = true := nr rfl
end
theorem char_list_inj : ∀ {a b : List Char}, a.map Char.toNat = b.map Char.toNat → a = b
  | [], [], _ => rfl
  | [], _ :: _, h => by simp at h
  | _ :: _, [], h => by simp at h
  | c :: a, d :: b, h => by
    simp only [List.map_cons, List.cons.injEq] at h
    have e : c = d := by rw [← Char.ofNat_toNat c, ← Char.ofNat_toNat d, h.1]
    rw [e, char_list_inj h.2]
@[simp] theorem str_inj {a b : String} : (Str.ofString a = Str.ofString b) = (a = b) := by
  refine propext ⟨fun h => ?_, fun h => by rw [h]⟩
  rw [Str.ofString_eq_toList, Str.ofString_eq_toList] at h
  have h2 := congrArg (fun z : Str => z.cps.toList) h
  simp only at h2
  exact String.toList_inj.mp (char_list_inj h2)
def bDivW : List MV → Option MV
  | [.int i, .int j] => if decide (0 < j) && decide (j.natAbs.log2 < 9000) then some (.tup [.int (i / j), .int (i % j)]) else none
  | _ => none
theorem cs_divW {K : PySem.W.Frag} : CallS K bDivW (fun xs H Q => ∃ i j, xs = [.int i, .int j] ∧ CDivP i j ∧ ∀ p, H p = none → Q (.ref p) (upd H p (.tup [.int (i / j), .int (i % j)]))) := by
  intro xs z vs Hk H Q e ex r q qn
  unfold bDivW at e
  split at e
  · split at e
    · rename_i h
      cases e
      simp only [Bool.and_eq_true, decide_eq_true_eq] at h
      exact ⟨_, _, rvs_int2 r, ⟨h.1, PyProof.noPylong_of_log2 h.2⟩, fun p hp => qn p _ hp (RV.tup.mpr ⟨p, _, rfl, SqT.of upd_same, rvs2 (RV.int.mpr rfl) (RV.int.mpr rfl)⟩)⟩
    · cases e
  · cases e
section
variable {X : Cx} {c : Ct} {p pos : Pos} {e e2 : Expr} {a : MA}
theorem mb_divW (hm : X.mg "divmod" = none) (ha : PA X [e, e2] (rdA c a)) (hg : Gl X "divmod" := by rfl) (he : starEach [e, e2] X.env = (false, eval e X.env) :: starEach [e2] X.env := by rfl) (hpl : (backTo pos (starEach [e2] X.env)).any (·.1) = false := by rfl) : PE X (.Call (.Name "divmod" p) [e, e2] [] pos) (rdE c (mBlt bDivW a)) :=
  me_blt call_divmodW cs_divW hm (by decide +kernel) ha hg (he := he) (hpl := hpl)
end
@[simp] theorem bDivW_ii {i j : Int} : bDivW [.int i, .int j] = if decide (0 < j) && decide (j.natAbs.log2 < 9000) then some (.tup [.int (i / j), .int (i % j)]) else none := rfl
end Tm
set_option Elab.async false
set_option linter.all false
set_option maxRecDepth 100000
set_option maxHeartbeats 2000000
namespace HT
open PySem PyProof.Rows
end HT
namespace Tm
open PySem L2 PySem.Spec PyProof.Rows
open Evl (Ex ex_rd ex_l ex_t)
def ItEk (k : Nat) (S : Hp → List V → Prop) : It :=
  ⟨fun i H => ∃ (l : List V) (x : V), S H l ∧ l[i]? = some x, fun i H v H' => ∃ p x, v = .ref p ∧ H p = none ∧ H' = upd H p (.tup [.int ((k + i : Nat) : Int), x]) ∧ ∀ l, S H l → l[i]? = some x, fun i H => ∃ l : List V, S H l ∧ i = l.length⟩
section
variable {P : Program} {w : World} {K : PySem.W.Frag} {elts : List Expr} {kk : Nat} {tpos : Pos}
theorem turn_enumK {e it : Addr} {fp : List Addr} {S : Hp → List V → Prop} {tn : Nat → Heap → Prop} (k : Nat) (A1 : ZSrc P w K it fp S tn) (hne : e ≠ it) (hef : e ∉ fp) :
    Turn P w K (.Tuple elts kk tpos) (ItEk k S) [e, it] e (fun i h => (∃ old, IsEnum h e it ((k + i : Nat) : Int) old) ∧ tn i h) where
  mem := by simp
  obj := by
    rintro i h ⟨⟨old, he⟩, t⟩ b hb
    have e' : b = e ∨ b = it := by simpa using hb
    rcases e' with z | z
    · rw [z]; exact ⟨_, he, fun v q => nomatch q⟩
    · rw [z]; exact A1.obj i h t
  keep := fun i h h' st kp => let ⟨⟨old, he⟩, t⟩ := st; ⟨⟨old, kp e (by simp) _ he⟩, A1.keep i h h' t (kp it (by simp))⟩
  item := by
    intro X hP hw hK hc i pins s σ H E I hf st hg
    subst hP hw hK
    obtain ⟨⟨old, he⟩, t⟩ := st
    obtain ⟨l, x, b1, g1⟩ := hg
    obtain ⟨Y, St, D, e1, r1, k1⟩ := A1.draw X rfl rfl rfl hc pins s σ H l i I b1 t
    have m1 : i < l.length := (List.getElem?_eq_some_iff.mp g1).1
    have hel : e < s.heap.objs.size := Heap.lt_size he
    refine wpAny_pyNext_enum_itemC D he e1 m1 hne hef fun u h' tk y ho st' hT hsz hk => ?_
    obtain ⟨x', a1, ru⟩ := r1 i u y
    rw [g1] at a1
    cases a1
    refine ⟨_, rfl, wpAny_letOwnedTupleGo_enum (s := { s with heap := h', toks := tk + 1 }) ho fun h'' he' sb => ?_⟩
    have hT2 : h''.get? s.heap.objs.size = some { cls := .type "tuple", data := .seq #[.int ((k + i : Nat) : Int) tk, u] } := (sb.2 _ (Nat.ne_of_gt hel)).trans hT
    have new : ObjOk X.prog X.w (upd H s.heap.objs.size (.tup [.int ((k + i : Nat) : Int), x])) h'' s.heap.objs.size (.tup [.int ((k + i : Nat) : Int), x]) :=
      ⟨by show 2 ≤ sizeLine; decide, [.int ((k + i : Nat) : Int) tk, u], .cons ⟨_, rfl⟩ (.cons ru .nil), ⟨_, hT2, rfl, _, rfl⟩⟩
    have I1 : Inv X pins σ (upd H s.heap.objs.size (.tup [.int ((k + i : Nat) : Int), x])) { s with heap := h'', toks := tk + 1 } :=
      Inv.turnedNew (ch := [e, it]) I (fun b ob hb q => (sb.2 b (fun z => hb (by simp [z]))).trans (hk b ob (fun z => hb (by simp [z])) (fun z => hb (by simp [z])) q)) hf (Nat.le_refl _) new
    refine ⟨.ref s.heap.objs.size, _, I1, rfl, ⟨_, x, rfl, I.hok.fresh (Nat.le_refl _), rfl, fun ys hy => by rw [A1.inj X rfl pins s σ H ys l I hy b1]; exact g1⟩, ⟨⟨u, ?_⟩, A1.keep _ h' h'' (k1 _ _ st') fun o q => (sb.2 it (Ne.symm hne)).trans q⟩, fun b hb => ?_⟩
    · have e1 : ((k + (i + 1) : Nat) : Int) = ((k + i : Nat) : Int) + 1 := by omega
      rw [e1]; exact he'
    · have hb' : b < s.heap.objs.size := by
        have e' : b = e ∨ b = it := by simpa using hb
        rcases e' with z | z
        · rw [z]; exact hel
        · rw [z]
          obtain ⟨o, eo, _⟩ := A1.obj i s.heap t
          exact Heap.lt_size eo
      rw [upd_ne (Nat.ne_of_lt hb')]
      exact (hf b hb).1
  done := by
    intro X hP hw hK hc i pins s σ H E I hf st hg
    subst hP hw hK
    obtain ⟨⟨old, he⟩, t⟩ := st
    obtain ⟨l, b1, hend⟩ := hg
    obtain ⟨Y, St, D, e1, r1, k1⟩ := A1.draw X rfl rfl rfl hc pins s σ H l i I b1 t
    subst hend
    refine wpAny_pyNext_enum_endD D he e1 fun h' eb => ⟨rfl, ?_⟩
    exact Inv.turnedL I (fun b o nb q => eb b o (fun z => nb (by simp [z])) q) hf
  self := fun A i s Q E st h => let ⟨⟨_, he⟩, _⟩ := st; wpAny_pyIter_enum he h
end
def iEnumK (k : Nat) (K : PySem.W.Frag) (ta : TA) : TI := fun σ H R => ta σ H fun vs H1 => ∃ v S, vs = [v] ∧ ZArg K H1 v S ∧ R (ItEk k S) H1
def enumK (k : Nat) : List MV → List MV
  | [] => []
  | x :: xs => .tup [.int (k : Nat), x] :: enumK (k + 1) xs
theorem enumK_len : ∀ (xs : List MV) (k : Nat), (enumK k xs).length = xs.length
  | [], _ => rfl
  | x :: xs, k => by simp [enumK, enumK_len xs]
theorem enumK_get : ∀ {xs : List MV} {k i : Nat} {x : MV}, xs[i]? = some x → (enumK k xs)[i]? = some (.tup [.int ((k + i : Nat) : Int), x])
  | [], k, i, x, h => by simp at h
  | y :: xs, k, 0, x, h => by simp at h; subst h; rfl
  | y :: xs, k, i + 1, x, h => by
    simp only [List.getElem?_cons_succ] at h
    unfold enumK
    rw [List.getElem?_cons_succ, enumK_get h, show k + 1 + i = k + (i + 1) by omega]
theorem walks_ek {K : PySem.W.Frag} {Hk : Hp} {S : Hp → List V → Prop} {xs : List MV} (k : Nat) (h1 : ZVal K Hk S xs) : Walks K Hk (ItEk k S) (enumK k xs) := by
  obtain ⟨vs, g1, r1⟩ := h1
  refine ⟨fun i H e hi => ?_, fun H e => ⟨vs, g1 H e, by rw [enumK_len, r1.length]⟩, fun i H x H' e hi y => ?_⟩
  · rw [enumK_len] at hi
    obtain ⟨v, hv, _⟩ := r1.get (List.getElem?_eq_getElem hi)
    exact ⟨vs, v, g1 H e, hv⟩
  · rw [enumK_len] at hi
    obtain ⟨v, hv, rv⟩ := r1.get (List.getElem?_eq_getElem hi)
    obtain ⟨p, x1, e1, e2, e3, e4⟩ := y
    have a1 := e4 vs (g1 H e)
    rw [hv] at a1
    cases a1
    exact ⟨_, enumK_get (List.getElem?_eq_getElem hi), .inr ⟨p, _, _, e2, e3, e1, rfl, rvs2 (RV.int.mpr rfl) rv⟩⟩
def mEnumK (k : Nat) (a : MA) : MI := fun ρ => (a ρ).bind fun xs ρ1 => match xs with
  | [x] => (match zitM x with | some xs => .ok (enumK k xs, ρ1) | _ => .stuck)
  | _ => .stuck
@[simp] theorem mEnumK_ap {k : Nat} {a : MA} {ρ : Env} {r : Option MV} : mEnumK k a (r :: ρ) = (a (r :: ρ)).bind fun xs ρ1 => match xs with
  | [x] => (match zitM x with | some xs => .ok (enumK k xs, ρ1) | _ => .stuck)
  | _ => .stuck := rfl
end Tm
set_option Elab.async false
set_option linter.all false
set_option maxRecDepth 100000
set_option maxHeartbeats 2000000
namespace Tm
open PySem L2 PySem.Spec PyProof.Rows HotX
def HotS (X : Cx) : Prop := ∀ (pins : List (Addr × Obj)) (σ : L2.St) (H : Hp) (s : Shared), Inv X pins σ H s → ∃ x1, HotAt X.A x1 s.heap
structure TurnS (P : Program) (w : World) (K : PySem.W.Frag) (tg : Expr) (J : It) (it : Addr) (tn : Nat → Heap → Prop) : Prop where
  obj : ∀ i h, tn i h → ∃ o, h.get? it = some o ∧ ∀ v, o.data ≠ .cell v
  keep : ∀ i h h', tn i h → (∀ o, h.get? it = some o → h'.get? it = some o) → tn i h'
  item : ∀ (X : Cx), X.prog = P → X.w = w → X.K = K → ∀ (i : Nat) (pins : List (Addr × Obj)) (s : Shared) (σ : L2.St) (H : Hp) (E : Value → Shared → Prop), Inv X pins σ H s → FpOk X pins H it → tn i s.heap → J.go i H →
    wpAny (model P w) X.A (pyNext (.ref it)) (fun r s1 => ∃ u, r = some u ∧ wpAny (model P w) X.A (letOwnedTupleGo tg (.ref it) u) (fun _ s2 => ∃ x H', Inv X pins σ H' s2 ∧ RelV x u ∧ J.yld i H x H' ∧ tn (i + 1) s2.heap ∧ H' it = none) E s1) E s
  done : ∀ (X : Cx), X.prog = P → X.w = w → X.K = K → HotS X → ∀ (i : Nat) (pins : List (Addr × Obj)) (s : Shared) (σ : L2.St) (H : Hp) (E : Value → Shared → Prop), Inv X pins σ H s → FpOk X pins H it → tn i s.heap → J.stop i H →
    wpAny (model P w) X.A (pyNext (.ref it)) (fun r s1 => r = none ∧ Inv X pins σ H s1) E s
  self : ∀ (A : Around) (i : Nat) (s : Shared) (Q : Value → Shared → Prop) (E : Value → Shared → Prop), tn i s.heap → Q (.ref it) s → wpAny (model P w) A (pyIter (.ref it)) Q E s
structure PIS (X : Cx) (tg iter : Expr) (wi : TI) : Prop where
  run : ∀ (pins : List (Addr × Obj)) (s : Shared) (σ : L2.St) (H : Hp) (R : It → Hp → Prop), Inv X pins σ H s → wi σ H R →
    wpAny (model X.prog X.w) X.A (eval iter X.env) (fun v s1 => wpAny (model X.prog X.w) X.A (pyIter v) (fun u s2 => ∃ (it : Addr) (tn : Nat → Heap → Prop) (J : It) (H' : Hp), u = .ref it ∧ Inv X pins σ H' s2 ∧ TurnS X.prog X.w X.K tg J it tn ∧ tn 0 s2.heap ∧ FpOk X pins H' it ∧ R J H') X.xe s1) X.xe s
end Tm
set_option Elab.async false
set_option linter.all false
set_option maxRecDepth 100000
set_option maxHeartbeats 2000000
namespace Tm
open PySem L2 PySem.Spec PyProof.Rows
open Evl (Ex ex_rd ex_l ex_t)
structure FnE (P : Program) (w : World) (K : PySem.W.Frag) (mg : Str → Option Value) (base : Heap) (CX : CXT) (k : Nat) (f : Addr) (fd : FuncData) (ps : List Str) (sp : Addr × Obj → Sp) : Prop where
  len : ∀ p vs H Q E, sp p vs H Q E → vs.length = ps.length
  run : ∀ (A : Around) (outer : List PySem.Env) (s : Shared) (H : Hp) (args : Args) (us : List Value) (vs : List V) (Q : VK) (E : XK) (p : Addr × Obj), L2H.RoomH k A → L2H.Hot1 A p → L2H.PinOk outer H s p → Env0 P w K mg base A outer s H → BindsTo s fd args (ps.zip us) → Vals vs us → sp p vs H Q E →
    codeAny (model P w) A (.call (.ref f) args) (CR CX outer P w H s Q E) s
def spE (K : PySem.W.Frag) (mg : Str → Option Value) (ts : List Str) (f : MX → Res (MV × Env)) : Addr × Obj → Sp := fun p vs H Q _ => vs = [.ref p.1] ∧ ∃ (F Hk : Hp) (e : MX) (C : Addr) (d : Option Addr) (v : MV) (ρ' : Env), Ex Hk H ∧ Ex F H ∧ (∀ a o, F a = some o → Hk a = none) ∧
  mg e.cls = some (.ref C) ∧ e.cls ∈ ts ∧ L2N.Zn (.ref C) d p.2 ∧ (∃ vs, p.2.data = .fields vs) ∧ XIn F e d ∧ f e = .ok (v, ρ') ∧ flatM v = true ∧ ∀ Hk' H' u, Ex Hk Hk' → Ex Hk' H' → Ex F H' → (∀ a o, F a = some o → Hk' a = none) → RV K Hk' v u → Q u H'
structure FdE (P : Program) (w : World) (K : PySem.W.Frag) (mg : Str → Option Value) (base : Heap) (x : Str) (k : Nat) (q : Str) (ts : List Str) (f : MX → Res (MV × Env)) : Prop where
  ex : ∃ (a : Addr) (fd : FuncData), FnE P w K mg base (L2N.CX P w) k a fd [q] (spE K mg ts f) ∧ mg x = some (.ref a) ∧ PySem.W.keepIn K (.ref a) = true ∧ Binds K fd [q] []
structure KiB (K : PySem.W.Frag) (mg : Str → Option Value) (T : String) (x : Str) : Prop where
  ex : ∃ C, mg x = some (.ref C) ∧ PySem.W.kitOne K (.ref C) (.type T) = some true
end Tm
set_option Elab.async false
set_option linter.all false
set_option maxRecDepth 100000
set_option maxHeartbeats 2000000
namespace Tm
open PySem L2 PySem.Spec PyProof.Rows
open Evl (Ex ex_rd ex_l ex_t)
inductive HdE (X : Cx) (n : Str) : List ExceptHandler → List (Value × (Addr → Value → Option Addr → TS)) → Prop
  | nil : HdE X n [] []
  | cons {y : Str} {c : Value} {ts : Addr → Value → Option Addr → TS} {b₀ : Stmt} {suite : List Stmt} {np p : Pos} {hds : List ExceptHandler} {l : List (Value × (Addr → Value → Option Addr → TS))} (hc : Names X y c)
      (hsu : ∀ (a : Addr) (oe : Obj) (cls : Value) (d : Option Addr) (pn : List (Addr × Obj)), L2N.Zn cls d oe → (∃ vs, oe.data = .fields vs) → PSs (X.suite a ((a, oe) :: pn)) (b₀ :: suite) (ts a cls d)) (r : HdE X n hds l) :
      HdE X n (.ExceptHandler (some (.Name y np)) (some n) (b₀ :: suite) p :: hds) ((c, ts) :: l)
inductive HdM (X : Cx) (c : Ct) (i : Nat) (n : Str) : List ExceptHandler → List (List (Str × Bool) × (MX → MS)) → Prop
  | nil : HdM X c i n [] []
  | cons {y : Str} {b₀ : Stmt} {suite : List Stmt} {np p : Pos} {hds : List ExceptHandler} {tab : List (Str × Bool)} {mh : MX → MS} {l : List (List (Str × Bool) × (MX → MS))} (hg : Gl X y) (ht : ∀ p ∈ tab, ExT X.K X.mg y p.1 p.2) (hne : ∃ D, X.mg y = some (.ref D))
      (hsu : ∀ (a : Addr) (oe : Obj) (C : Addr) (d : Option Addr) (pn : List (Addr × Obj)) (e : MX), X.mg e.cls = some (.ref C) → (e.cls, true) ∈ tab → L2N.Zn (.ref C) d oe → (∃ vs, oe.data = .fields vs) → PSs (X.suite a ((a, oe) :: pn)) (b₀ :: suite) (rdS (cH c i a e d) (mh e)))
      (hdb : (y == ("__debug__" : Str)) = false) (r : HdM X c i n hds l) :
      HdM X c i n (.ExceptHandler (some (.Name y np)) (some n) (b₀ :: suite) p :: hds) ((tab, mh) :: l)
end Tm
set_option Elab.async false
set_option linter.all false
set_option maxRecDepth 100000
set_option maxHeartbeats 2000000
namespace Tm
open PySem L2 PySem.Spec PyProof.Rows
open Evl (Ex ex_rd ex_l ex_t)
def dctAt (ks : List Key) (xs : List MV) (k : Key) : Option MV := ((ks.zip xs).find? fun p => decide (p.1 = k)).map (·.2)
theorem dctAt_rv {K : PySem.W.Frag} {H : Hp} : ∀ {ks : List Key} {xs : List MV} {vs : List V} (k : Key), RVs K H xs vs → (∀ x, dctAt ks xs k = some x → ∃ v, valV (ks.zip vs) k = some v ∧ RV K H x v) ∧ (dctAt ks xs k = none → valV (ks.zip vs) k = none)
  | [], xs, vs, k, _ => ⟨fun x h => by simp [dctAt] at h, fun _ => by simp [valV]⟩
  | a :: ks, [], vs, k, r => by
    rw [RVs.nil.mp r]
    exact ⟨fun x h => by simp [dctAt] at h, fun _ => by simp [valV]⟩
  | a :: ks, x :: xs, vs, k, r => by
    obtain ⟨v, us, rfl, r1, r2⟩ := RVs.cons.mp r
    obtain ⟨i1, i2⟩ := dctAt_rv (ks := ks) k r2
    unfold dctAt at *
    rw [List.zip_cons_cons, List.zip_cons_cons, List.find?_cons]
    by_cases e : a = k
    · rw [valV_pos (p := (a, v)) e]
      simp only [e, decide_true]
      exact ⟨fun y h => by simp at h; subst h; exact ⟨v, rfl, r1⟩, fun h => by simp at h⟩
    · rw [valV_neg (p := (a, v)) e]
      simp only [e, decide_false]
      exact ⟨i1, i2⟩
def keyM : MV → Option Key
  | .int i => some (.inl i)
  | .str z => some (.inr z)
  | _ => none
theorem keyM_rv {K : PySem.W.Frag} {H : Hp} {x : MV} {k : Key} {v : V} (e : keyM x = some k) (r : RV K H x v) : v = kV k := by
  unfold keyM at e
  split at e
  · cases e; exact RV.int.mp r
  · cases e; exact RV.str.mp r
  · cases e
section
variable {K : PySem.W.Frag} {F Hk H : Hp} {bp : List (Nat × Addr)} {σ : L2.St} {ρ : Env}
theorem RS.frame (S : RS K F Hk H bp σ ρ) {p : Addr} (o : HO) (h : H p = none) : RS K (upd F p o) Hk (upd H p o) bp σ ρ := by
  obtain ⟨ow, s⟩ := S.ow
  have np : ∀ i a, a ∈ ow i → a ≠ p := fun i a ha z => s.fresh h i (by rw [← z]; exact ha)
  have s2 : SL K F Hk (upd H p o) ow σ ρ := s.step (Ex.refl _) fun i a ha => ⟨upd_ne (np i a ha), (s.f i a ha).1⟩
  have hk : Hk p = none := S.ex.back h
  refine ⟨S.len, S.ex.mut hk, fun a u q => ?_, fun a u q => ?_, ⟨ow, s2.s, fun i a q => ⟨(s2.f i a q).1, by rw [upd_ne (np i a q)]; exact (s2.f i a q).2.1, (s2.f i a q).2.2⟩, s2.w, s2.d⟩, S.bor⟩
  · by_cases e : a = p
    · subst e; rw [upd_same] at q ⊢; exact q
    · rw [upd_ne e] at q ⊢; exact S.fr a u q
  · by_cases e : a = p
    · subst e; exact hk
    · rw [upd_ne e] at q; exact S.frk a u q
theorem RS.unframe {p : Addr} {o : HO} (S : RS K (upd F p o) Hk H bp σ ρ) (hF : F p = none) : RS K F Hk H bp σ ρ := by
  have ne : ∀ a u, F a = some u → a ≠ p := fun a u q z => by subst z; rw [hF] at q; cases q
  obtain ⟨ow, s⟩ := S.ow
  refine ⟨S.len, S.ex, fun a u q => S.fr a u (by rw [upd_ne (ne a u q)]; exact q), fun a u q => S.frk a u (by rw [upd_ne (ne a u q)]; exact q), ⟨ow, s.s, fun i a q => ⟨(s.f i a q).1, ?_, (s.f i a q).2.2⟩, s.w, s.d⟩, S.bor⟩
  have z := (s.f i a q).2.1
  by_cases e : a = p
  · subst e; rw [upd_same] at z; cases z
  · rw [upd_ne e] at z; exact z
end
structure DPs (X : Cx) (c : Ct) (pos : Pos) (keys : List (Option Expr)) (values : List Expr) (ks : List Key) (m : MA) : Prop where
  ex : ∃ trs, PPs X pos keys values trs ∧ ∀ (σ : L2.St) (H : Hp) (Q : List (V × V) → Hp → Prop), rdA c m σ H (fun vs H' => Q ((ks.map kV).zip vs) H') → tPairs trs σ H Q
section
variable {X : Cx} {c : Ct} {pos p1 p2 : Pos} {keys : List (Option Expr)} {values : List Expr} {ks : List Key} {m : MA} {v : Expr} {a : ME}
theorem dp_nil : DPs X c pos [] [] [] mNil := ⟨[], pps_nil, fun σ H Q h => by
  obtain ⟨F, Hk, bp, ρ, S, h⟩ := h
  exact h _ _ _ (Ex.refl _) S.1 (RVs.nil.mpr rfl)⟩
theorem dp_cons {kx : Expr} {k : Key} (hk : PE X kx (tC (kV k))) (hv : PE X v (rdE c a)) (r : DPs X c pos keys values ks m) : DPs X c pos (some kx :: keys) (v :: values) (k :: ks) (mCons a m) := by
  obtain ⟨trs, e1, e2⟩ := r.ex
  refine ⟨(tC (kV k), rdE c a) :: trs, pps_cons hk hv e1, fun σ H Q h => ?_⟩
  obtain ⟨F, Hk, bp, ρ, S, h⟩ := h
  show rdE c a σ H fun y H2 => tPairs trs σ H2 fun ps H3 => Q ((kV k, y) :: ps) H3
  refine rdw (bE postA S h) fun v H1 ⟨Hk1, x, ρ1, x1, S1, r1, h1⟩ => e2 _ _ _ ?_
  refine rdAw (bA postA S1 h1) fun vs H2 ⟨Hk2, xs, ρ2, x2, S2, r2, h2⟩ => ?_
  exact h2 _ _ _ (Ex.refl _) S2.1 (RVs.cons.mpr ⟨v, vs, rfl, RV.mono x2 _ _ r1, r2⟩)
theorem dp_str {z : Str} {j : Nat} (hv : PE X v (rdE c a)) (r : DPs X c pos keys values ks m) : DPs X c pos (some (.Constant (.str z) j p1) :: keys) (v :: values) (.inr z :: ks) (mCons a m) := dp_cons (k := .inr z) pe_str hv r
theorem merge_nodup : ∀ (more kvs : List (Key × V)), (kvs.map (·.1) ++ more.map (·.1)).Nodup → mergeK kvs more = kvs ++ more
  | [], kvs, _ => by simp [mergeK]
  | p :: r, kvs, h => by
    have nk : valV kvs p.1 = none := by
      cases e : valV kvs p.1 with
      | none => rfl
      | some z =>
        exfalso
        have := valV_any p.1 kvs
        rw [e] at this
        simp only [Option.isSome_some] at this
        obtain ⟨q, hq, hq2⟩ := List.any_eq_true.mp this
        rw [List.map_cons] at h
        have := (List.nodup_append.mp h).2.2 q.1 (List.mem_map.mpr ⟨q, hq, rfl⟩) p.1 (by simp)
        exact this (of_decide_eq_true hq2)
    show mergeK (putK kvs p.1 p.2) r = _
    rw [putK_new p.2 nk, merge_nodup r (kvs ++ [(p.1, p.2)]) (by
      rw [List.map_append, List.append_assoc]
      simpa using h)]
    simp
end
def dctIs : List (Str × MV) → List DictEntry → Bool
  | [], [] => true
  | p :: t, e :: r => e.key.isStr p.1 && flatIs p.2 e.val && dctIs t r
  | _, _ => false
structure DCst (K : PySem.W.Frag) (w : World) (mg : Str → Option Value) (x : Str) (tab : List (Str × MV)) : Prop where
  ex : ∃ a es n, mg x = some (.ref a) ∧ KDict K w a es n ∧ dctIs tab es.toList = true
end Tm
set_option Elab.async false
set_option linter.all false
set_option maxRecDepth 100000
set_option maxHeartbeats 2000000
namespace Tm
open PySem L2 PySem.Spec PyProof.Rows
open Evl (Ex ex_rd ex_l ex_t)
theorem meets_enumT {v : Value} {o : Obj} {H : Heap → Prop} (B : Begins v o H) :
    Meets (Builtin.«enumerate.__new__» ⟨[.type "enumerate", v], []⟩) (fun _ R s => H s.heap ∧
      R (.ok (.ret (.ref (s.heap.push o).objs.size))) { s with heap := (s.heap.push o).push { cls := .type "enumerate", data := .fields #[.none, .bool false, .ref s.heap.objs.size, rawInt 0, .none, .none] } }) :=
  .of_wp fun prog w A R s h => by
    obtain ⟨hp, g, d, tk, os⟩ := s; obtain ⟨h1, h⟩ := h
    have hsub := sub_enumerate
    have q1 : ∀ {A' : Around} {E : Value → Shared → Prop} {Q : Value → Shared → Prop}, Q (.ref hp.objs.size) ⟨hp.push o, g, d, tk, os⟩ → wpAny (model prog w) A' (pyIter v) Q E ⟨hp, g, d, tk, os⟩ :=
      fun q => B.iter prog w _ _ ⟨hp, g, d, tk, os⟩ _ h1 q
    wp_walk using q1
    refine wpAny_stack_any fun st => wpAny_pure ?_
    split
    · rename_i c _ _ _ _ _
      cases (c == Value.type "enumerate")
      · wp_walk using q1
        exact ⟨_, rfl, h⟩
      · wp_walk using q1
        exact ⟨_, rfl, h⟩
    · wp_walk using q1
      exact ⟨_, rfl, h⟩
section
variable {prog : Program} {w : World} {A : Around} {E : Value → Shared → Prop} {s : Shared}
theorem enum_beginsT {v : Value} {o : Obj} {H : Heap → Prop} {Q : Value → Shared → Prop} (B : Begins v o H) (h1 : H s.heap)
    (h : ∀ h', IsEnum h' (s.heap.objs.size + 1) s.heap.objs.size 0 .none → h'.get? s.heap.objs.size = some o → h'.objs.size = s.heap.objs.size + 2 →
      (∀ b o, s.heap.get? b = some o → h'.get? b = some o) → Q (.ref (s.heap.objs.size + 1)) { s with heap := h' }) :
    wpAny (model prog w) A (call (.type "enumerate") [v]) Q E s := by
  refine callType_new F.called_enumerate (by decide) (F.typeCall_enumerate_1 _) (F.newCall_enumerate_1 _) (fun obj => F.args_object_init_2 obj _) F.entry_enumerate_new
    (meets_enumT B) ⟨h1, ?_⟩
  have hz : (s.heap.push o).objs.size = s.heap.objs.size + 1 := Heap.size_push ..
  show _ ∧ _
  rw [hz]
  have he : IsEnum ((s.heap.push o).push { cls := .type "enumerate", data := .fields #[.none, .bool false, .ref s.heap.objs.size, rawInt 0, .none, .none] }) (s.heap.objs.size + 1) s.heap.objs.size 0 .none := by
    have := Heap.get?_push_size (s.heap.push o) (o := { cls := .type "enumerate", data := .fields #[.none, .bool false, .ref s.heap.objs.size, rawInt 0, .none, .none] }) rfl
    rw [hz] at this; exact this
  refine ⟨⟨_, he, rfl⟩, h _ he (Heap.get?_push_of_some _ (Heap.get?_push_size _ B.free)) (by rw [Heap.size_push, hz]) fun b o x => Heap.get?_push_of_some _ (Heap.get?_push_of_some _ x)⟩
end
theorem pi_enumT {X : Cx} {e : Expr} {ta : TA} {p pos tpos : Pos} {elts : List Expr} {kk : Nat} (hg : Gl X "enumerate") (hm : X.mg "enumerate" = none) (ha : PA X [e] ta) (hs : starEach [e] X.env = [(false, eval e X.env)] := by rfl) :
    PI X (.Tuple elts kk tpos) (.Call (.Name "enumerate" p) [e] [] pos) (iEnumK 0 X.K ta) := by
  refine ⟨fun pins s σ H R I h => ?_⟩
  refine Call_ (ld_blt I hg hm boot_enumerate (PyProof.Rows.callWith_type1 (thn (ha.run pos pins s σ H _ I h) fun us s1 ⟨vs, H1, I1, r1, v, S, ex, z1, q⟩ => ?_) hs rfl))
  subst ex
  cases r1 with
  | cons ra rr =>
    cases rr
    obtain ⟨o1, Hb1, fp1, B1, b1, lt1, k1⟩ := zarg_begins I1 ra z1
    obtain ⟨tn1, A1, t1⟩ := k1 s1.heap.objs.size (Nat.le_refl _)
    refine enum_beginsT B1 b1 fun h' he' hit hsz hkp => wpAny_pyIter_enum he' ?_
    have I3 : Inv X pins σ H1 { s1 with heap := h' } := I1.kept (t' := s1.toks) hkp
    refine ⟨s1.heap.objs.size + 1, [s1.heap.objs.size + 1, s1.heap.objs.size], _, _, H1, rfl, I3, turn_enumK 0 A1 (Nat.succ_ne_self _) (fun hm2 => ?_), ⟨⟨.none, he'⟩, t1 h' hit⟩, fun b hb => ?_, q⟩
    · rcases List.mem_cons.mp hm2 with z | z
      · exact absurd z (Nat.succ_ne_self _)
      · exact absurd (lt1 _ z) (Nat.not_lt.mpr (Nat.le_succ _))
    · have e' : b = s1.heap.objs.size + 1 ∨ b = s1.heap.objs.size := by simpa using hb
      have hle : s1.heap.objs.size ≤ b := by
        rcases e' with z | z
        · rw [z]; exact Nat.le_add_right _ _
        · rw [z]; exact Nat.le_refl _
      exact I1.fpOk hle (I1.hok.fresh hle)
theorem mi_enumT {X : Cx} {c : Ct} {e : Expr} {m : MA} {p pos tpos : Pos} {elts : List Expr} {kk : Nat} (hm : X.mg "enumerate" = none) (ha : PA X [e] (rdA c m)) (hg : Gl X "enumerate" := by rfl) (hK : c.K = X.K := by rfl)
    (hs : starEach [e] X.env = [(false, eval e X.env)] := by rfl) :
    PI X (.Tuple elts kk tpos) (.Call (.Name "enumerate" p) [e] [] pos) (rdI c (mEnumK 0 m)) :=
  PIw (pi_enumT hg hm ha hs) fun σ H R ⟨F, Hk, bp, ρ, S, h⟩ => rdAw (bA postI S h) fun vs H1 ⟨Hk1, xs, ρ1, x1, S1, r1, h1⟩ => by
    split at h1
    · split at h1
      · rename_i z1
        obtain ⟨v, r, rfl, q1, q2⟩ := RVs.cons.mp r1
        rw [RVs.nil.mp q2]
        obtain ⟨T1, y1, y2⟩ := zit_arg S1.1.ex q1 z1
        exact ⟨v, T1, rfl, hK ▸ y1, h1 _ _ _ (Ex.refl _) S1.1 (walks_ek 0 y2)⟩
      · exact h1.elim
    · exact h1.elim
end Tm
set_option Elab.async false
set_option linter.all false
set_option maxRecDepth 100000
set_option maxHeartbeats 2000000
namespace Tm
open PySem L2 PySem.Spec PyProof.Rows
open Evl (Ex ex_rd ex_l ex_t)
def bStrA : List MV → Option MV
  | [.int i] => if decide (i.natAbs.log2 < 1920) then some (.str (toString i)) else none
  | [.bl b] => some (.str (if b then "True" else "False"))
  | [.str s] => some (.str s)
  | _ => none
def rStrA : List V → Hp → VK → Prop := fun xs H Q => ((∃ i, xs = [.int i] ∧ i.natAbs.log2 < 1920 ∧ Q (.str (toString i)) H) ∨ ∃ a, xs = [.str a] ∧ Q (.str a) H) ∨ ∃ b, xs = [.bl b] ∧ Q (.str (if b then "True" else "False")) H
theorem call_str_bl {X : Cx} : CallR X (.type "str") (fun xs H Q => ∃ b, xs = [.bl b] ∧ Q (.str (if b then "True" else "False")) H) := by
  intro pins s σ H xs us Q I r h
  obtain ⟨b, rfl, q⟩ := h
  obtain ⟨u, rfl, r1⟩ := vals1 r
  cases r1
  exact PySem.P.str_of_bool ⟨.str _, H, I.tok _, ⟨_, rfl⟩, q⟩
theorem cr_strA {X : Cx} : CallR X (.type "str") rStrA := CallR.or (CallR.or call_str_int SkE.call_str_str) call_str_bl
theorem cs_strA {K : PySem.W.Frag} : CallS K bStrA rStrA := by
  intro xs z vs Hk H Q e ex r q qn
  unfold bStrA at e
  split at e
  · split at e
    · rename_i h
      cases e
      exact .inl (.inl ⟨_, rvs_int1 r, of_decide_eq_true h, q _ (RV.str.mpr rfl)⟩)
    · cases e
  · cases e
    obtain ⟨v, us, rfl, r1, r2⟩ := RVs.cons.mp r
    rw [RVs.nil.mp r2, RV.bl.mp r1]
    exact .inr ⟨_, rfl, q _ (RV.str.mpr rfl)⟩
  · cases e
    obtain ⟨v, us, rfl, r1, r2⟩ := RVs.cons.mp r
    rw [RVs.nil.mp r2, RV.str.mp r1]
    exact .inl (.inr ⟨_, rfl, q _ (RV.str.mpr rfl)⟩)
  · cases e
section
variable {X : Cx} {c : Ct} {a : MA} {e : Expr} {p pos : Pos}
theorem mb_strA (hm : X.mg "str" = none) (ha : PA X [e] (rdA c a)) (hg : Gl X "str" := by rfl) (he : starEach [e] X.env = (false, eval e X.env) :: starEach [] X.env := by rfl) (hpl : (backTo pos (starEach [] X.env)).any (·.1) = false := by rfl) : PE X (.Call (.Name "str" p) [e] [] pos) (rdE c (mBlt bStrA a)) :=
  me_ty cr_strA cs_strA hm (by decide +kernel) ha hg (he := he) (hpl := hpl)
end
@[simp] theorem bStrA_i {i : Int} : bStrA [.int i] = if decide (i.natAbs.log2 < 1920) then some (.str (toString i)) else none := nr rfl
@[simp] theorem bStrA_b {b : Bool} : bStrA [.bl b] = some (.str (if b then "True" else "False")) := nr rfl
@[simp] theorem bStrA_s {s : Str} : bStrA [.str s] = some (.str s) := nr rfl
end Tm
set_option Elab.async false
set_option linter.all false
set_option maxRecDepth 100000
set_option maxHeartbeats 2000000
namespace Tm
open PySem L2 PySem.Spec PyProof.Rows
open Evl (Ex ex_rd ex_l ex_t)
theorem tuple_mulZ (l : Addr) (items : Array Value) (n : Nat) (dd : Option Addr) (sl : Array (Option Value)) (u : Tok) (c1 : (items.isEmpty || (0 : Int) == 1) = false) :
    Meets (Builtin.«tuple.__mul__» ⟨[.ref l, .int 0 u], []⟩) (fun _ R s => s.heap.get? l = some { cls := .type "tuple", dict := dd, data := .seq items n, slots := sl } ∧
      R (.ok (.ret (Value.ref s.heap.objs.size))) { s with heap := s.heap.push { cls := Value.type "tuple", data := Data.seq #[] }, toks := s.toks }) :=
  .of_wp fun prog w A R s h => by
    obtain ⟨hp, g, d, tk, os⟩ := s
    obtain ⟨hl, h⟩ := h
    have f1 := AutoSeq1.idx_int
    have c0 : (decide ((0 : Int) < -(2 ^ 63)) || decide ((0 : Int) ≥ 2 ^ 63)) = false := by decide
    have c2 : (decide ((0 : Int) ≤ 0) || items.isEmpty) = true := by simp
    wp_walk using wpAny_loadPart' hl
    repeat (first
      | (refine wpAny_ite_false (decide_eq_false (by rw [c0]; exact Bool.false_ne_true)) ?_; wp_walk using wpAny_loadPart' hl)
      | (refine wpAny_ite_false (decide_eq_false (by rw [c1]; exact Bool.false_ne_true)) ?_; wp_walk using wpAny_loadPart' hl)
      | (refine wpAny_ite_true (decide_eq_true c2) ?_; wp_walk using wpAny_loadPart' hl))
    exact ⟨_, rfl, h⟩
def rRepTZ (K : PySem.W.Frag) : R2 := fun x y H Q => ∃ l xs, x = .ref l ∧ y = .int 0 ∧ SqT K H l xs ∧ xs ≠ [] ∧ ∀ p, H p = none → Q (.ref p) (upd H p (.tup []))
theorem op_repTZ {X : Cx} : OpR X (binaryOp .Mult) (rRepTZ X.K) := by
  intro pins s σ H x y v u Q I rx ry h
  obtain ⟨l, xs, rfl, rfl, hT, hne, q⟩ := h
  cases rx
  obtain ⟨t, rfl⟩ := ry
  obtain ⟨its, r, ⟨⟨cls, dd, data, sl⟩, ho, hc, n, hd⟩, hs⟩ := I.tuple hT
  simp only at hc hd
  subst hc hd
  have hle : its.length = xs.length := r.length.symm
  have hn : its ≠ [] := fun e => hne (by
    rw [e] at hle
    exact List.eq_nil_of_length_eq_zero hle.symm)
  have hi : its.toArray.isEmpty = false := by
    cases its with
    | nil => exact absurd rfl hn
    | cons a b => rfl
  have c1 : (its.toArray.isEmpty || (0 : Int) == 1) = false := by rw [hi]; rfl
  refine wpAny_binaryOp_repeat_ref (T := "tuple") (U := "int") (by decide) ⟨_, ho, rfl⟩ (fun s' => typeIs_int s' 0 t) noFill_tuple_mul F.fills_int_mul F.slot_int_rmul repeat_tuple F.slot_int_index.lookup
    (call_meets F.slot_int_rmul (typeIs_int s 0 t) F.entry_int_rmul (F.args_int_rmul_2 _ _) (int_rmul_tuple 0 t l its.toArray n dd sl)
      ⟨ho, rfl, ⟨_, ho, rfl⟩, call_meets F.slot_tuple_mul ⟨_, ho, rfl⟩ F.entry_tuple_mul (F.args_tuple_mul_2 _ _) (tuple_mulZ l its.toArray n dd sl t c1) ⟨ho, ?_⟩⟩)
  refine ⟨.ref s.heap.objs.size, _, I.laid (t' := s.toks) (o := .tup []) (fun b ob q => Heap.get?_push_of_some _ q) (Nat.le_refl _) ?_, rfl, q _ (I.hok.fresh (Nat.le_refl _))⟩
  exact ⟨by rw [sizeLine_eq]; decide, _, .nil, IsTup.new _ _⟩
def fMulZ (x y : MV) : Option MV := match x, y with
  | .tup (a :: r), .int 0 => some (.tup [])
  | x, y => fMul x y
theorem os_mulZ {K : PySem.W.Frag} : OpS K fMulZ (fun x y H Q => rMulM K x y H Q ∨ rRepTZ K x y H Q) := by
  intro x y z v w Hk H Q e ex r1 r2 q qn
  unfold fMulZ at e
  split at e
  · cases e
    obtain ⟨p, vs, rfl, g1, s1⟩ := RV.tup.mp r1
    rw [RV.int.mp r2]
    refine .inr ⟨p, vs, rfl, rfl, ex_t ex g1, fun h => ?_, fun l hl => qn l _ hl (RV.tup.mpr ⟨l, [], rfl, SqT.of upd_same, RVs.nil.mpr rfl⟩)⟩
    subst h
    obtain ⟨_, _, h, _⟩ := RVs.cons.mp s1
    cases h
  · exact .inl (os_mul _ _ _ _ _ _ _ _ e ex r1 r2 q qn)
section
variable {X : Cx} {c : Ct} {a b : Expr} {ma mb : ME} {pos : Pos}
theorem me_mulZ (ha : PE X a (rdE c ma)) (hb : PE X b (rdE c mb)) (hK : c.K = X.K := by rfl) : PE X (.BinOp a .Mult b pos) (rdE c (mOp fMulZ ma mb)) := me_op (OpR.or op_mulM op_repTZ) (by rw [← hK]; exact os_mulZ) ha hb
end
end Tm
set_option Elab.async false
set_option linter.all false
set_option maxRecDepth 100000
set_option maxHeartbeats 2000000
namespace Tm
open PySem L2
open Evl (Ex ex_rd ex_l ex_t)
theorem OV.dow {K : PySem.W.Frag} {Hk H : Hp} {ks : List Key} {xs : List MV} {v : V} {A : List Addr} : OV K Hk H (.dow ks xs) v A ↔ ∃ p vs, v = .ref p ∧ A = [p] ∧ H p = some (.dK (ks.zip vs)) ∧ ks.length = xs.length ∧ RVs K Hk xs vs := by
  unfold OV OF; rfl
section
variable {K : PySem.W.Frag} {F Hk H : Hp} {bp : List (Nat × Addr)} {σ : L2.St} {ρ : Env}
theorem RS.landO {p : Addr} {o : HO} (S : RS K (upd F p o) Hk H bp σ ρ) (hF : F p = none) {ks : List Key} {xs : List MV} {vs : List V} (hl : ks.length = xs.length) (r : RVs K Hk xs vs) :
    RS K F Hk (upd H p (.dK (ks.zip vs))) bp (σ ++ [some (.ref p)]) (ρ ++ [some (.dow ks xs)]) := by
  have ne : ∀ a u, F a = some u → a ≠ p := fun a u q z => by subst z; rw [hF] at q; cases q
  have hk : Hk p = none := S.frk p o upd_same
  have S2 := S.unframe hF
  obtain ⟨ow0, s0⟩ := S.ow
  have np : ∀ i a, a ∈ ow0 i → a ≠ p := fun i a ha z => by
    have := (s0.f i a ha).2.1
    subst z
    rw [upd_same] at this; cases this
  have s1 : SL K F Hk H ow0 σ ρ := by
    refine ⟨s0.s, fun i a q => ⟨(s0.f i a q).1, ?_, (s0.f i a q).2.2⟩, s0.w, s0.d⟩
    have z := (s0.f i a q).2.1
    rw [upd_ne (np i a q)] at z; exact z
  have s2 : SL K F Hk (upd H p (.dK (ks.zip vs))) ow0 σ ρ := s1.step (Ex.refl _) fun i a ha => ⟨upd_ne (np i a ha), (s1.f i a ha).1⟩
  refine ⟨by simp [S.len], S.ex.mut hk, fun a u q => ?_, S2.frk, ⟨_, s2.push S.len (A := [p]) (OV.dow.mpr ⟨p, vs, rfl, rfl, upd_same, hl, r⟩) (fun a ha => ?_) (fun i a ha => ?_)⟩, S.bor_app _⟩
  · rw [upd_ne (ne a u q)]; exact S2.fr a u q
  · simp at ha; subst ha; exact ⟨hk, hF⟩
  · simp at ha; subst ha; exact fun z => np i a z rfl
theorem RS.changeD (S : RS K F Hk H bp σ ρ) {i : Nat} {ks js : List Key} {xs ys : List MV} (h : ρ[i]? = some (some (.dow ks xs))) :
    ∃ p vs, σ[i]? = some (some (.ref p)) ∧ H p = some (.dK (ks.zip vs)) ∧ ks.length = xs.length ∧ RVs K Hk xs vs ∧ ∀ ws, js.length = ys.length → RVs K Hk ys ws → RS K F Hk (upd H p (.dK (js.zip ws))) bp σ (ρ.set i (some (.dow js ys))) := by
  obtain ⟨ow, s⟩ := S.ow
  obtain ⟨v, ev, o⟩ := s.s i _ h
  obtain ⟨p, vs, e1, e2, e3, e5, e4⟩ := OV.dow.mp o
  have m : p ∈ ow i := by rw [e2]; simp
  obtain ⟨f1, f2, _⟩ := s.f i p m
  refine ⟨p, vs, by rw [ev, e1], e3, e5, e4, fun ws hl r => ⟨by simp [S.len], S.ex.mut f1, S.fr.mut f2, S.frk, ⟨ow, ?_⟩, S.bor⟩⟩
  refine ⟨fun j y hj => ?_, fun j a hj => ?_, fun j hj => by rw [List.length_set]; exact s.w j hj, s.d⟩
  · rcases set_get hj with ⟨rfl, e⟩ | ⟨ne, e⟩
    · cases e
      exact ⟨v, ev, OV.dow.mpr ⟨p, ws, e1, e2, upd_same, hl, r⟩⟩
    · obtain ⟨u, u1, u2⟩ := s.s j y e
      exact ⟨u, u1, u2.move (Ex.refl _) fun a ha o ho => by rw [upd_ne (fun z => s.d j i a ne ha (by rw [z]; exact m))]; exact ho⟩
  · obtain ⟨g1, g2, o, g3⟩ := s.f j a hj
    by_cases e : a = p
    · subst e; exact ⟨g1, g2, _, upd_same⟩
    · exact ⟨g1, g2, o, by rw [upd_ne e]; exact g3⟩
end
def dctPut (ks : List Key) (xs : List MV) (k : Key) (z : MV) : List Key × List MV :=
  if (dctAt ks xs k).isSome then (ks, (ks.zip xs).map fun p => if p.1 = k then z else p.2) else (ks ++ [k], xs ++ [z])
theorem dput_map {K : PySem.W.Frag} {H : Hp} (k : Key) {z : MV} {v : V} (rz : RV K H z v) : ∀ {ks : List Key} {xs : List MV} {vs : List V}, ks.length = xs.length → RVs K H xs vs → ∃ ws, RVs K H ((ks.zip xs).map fun p => if p.1 = k then z else p.2) ws ∧ ks.zip ws = (ks.zip vs).map fun kv => if kv.1 = k then (kv.1, v) else kv
  | [], [], vs, _, r => ⟨[], RVs.nil.mpr rfl, rfl⟩
  | [], _ :: _, _, h, _ => by simp at h
  | _ :: _, [], _, h, _ => by simp at h
  | j :: ks, x :: xs, vs, h, r => by
    obtain ⟨u, us, rfl, r1, r2⟩ := RVs.cons.mp r
    obtain ⟨ws, w1, w2⟩ := dput_map k rz (ks := ks) (by simpa using h) r2
    by_cases e : j = k
    · exact ⟨v :: ws, by simp only [List.zip_cons_cons, List.map_cons, if_pos e]; exact RVs.cons.mpr ⟨v, ws, rfl, rz, w1⟩, by simp only [List.zip_cons_cons, List.map_cons, if_pos e, w2]⟩
    · exact ⟨u :: ws, by simp only [List.zip_cons_cons, List.map_cons, if_neg e]; exact RVs.cons.mpr ⟨u, ws, rfl, r1, w1⟩, by simp only [List.zip_cons_cons, List.map_cons, if_neg e, w2]⟩
theorem dput_rv {K : PySem.W.Frag} {H : Hp} (k : Key) {z : MV} {v : V} (rz : RV K H z v) {ks : List Key} {xs : List MV} {vs : List V} (hl : ks.length = xs.length) (r : RVs K H xs vs) :
    ∃ ws, (dctPut ks xs k z).1.length = (dctPut ks xs k z).2.length ∧ RVs K H (dctPut ks xs k z).2 ws ∧ putK (ks.zip vs) k v = (dctPut ks xs k z).1.zip ws := by
  obtain ⟨i1, i2⟩ := dctAt_rv (ks := ks) k r
  unfold dctPut
  cases ea : dctAt ks xs k with
  | none =>
    refine ⟨vs ++ [v], by simp [hl], r.append (RVs.cons.mpr ⟨v, [], rfl, rz, RVs.nil.mpr rfl⟩), ?_⟩
    rw [putK_new v (i2 ea)]
    have : ks.length = vs.length := by rw [hl, r.length]
    simp [List.zip_append this]
  | some y =>
    obtain ⟨ws, w1, w2⟩ := dput_map k rz hl r
    refine ⟨ws, by simp [hl], w1, ?_⟩
    simp only [Option.isSome_some, if_true]
    rw [w2]
    obtain ⟨u, e1, _⟩ := i1 y ea
    unfold putK
    rw [valV_any, e1]
    rfl
section
variable {X : Cx} {c : Ct} {p pos pos' apos cpos : Pos} {e : Expr} {a b : ME} {m : MA} {x : Str} {i : Nat} {keys : List (Option Expr)} {values : List Expr} {ks : List Key}
def mDictO (ks : List Key) (m : MA) : ME := fun ρ => (m ρ).bind fun xs ρ1 => if decide (ks.length = xs.length) && decide (ks.length ≤ 15) && decide ks.Nodup then .ok (.dow ks xs, ρ1) else .stuck
theorem mo_dict (h : DPs X c pos keys values ks m) (hall : keys.all (·.isSome) = true := by rfl) (hl : keys.length = values.length := by rfl) (h0 : keys ≠ [] := by intro z; cases z) (h15 : keys.length ≤ 15 := by decide) : PE X (.Dict keys values pos) (rdO c (mDictO ks m)) := by
  obtain ⟨trs, e1, e2⟩ := h.ex
  refine PEw (pe_disp e1 hall hl h0 h15) fun σ H Q h => ?_
  obtain ⟨F, Hk, bp, ρ, S, h⟩ := h
  intro p hp
  have hF : F p = none := S.1.fr.back hp
  refine e2 _ _ _ ⟨upd F p (.dK []), Hk, bp, ρ, ⟨S.1.frame (.dK []) hp, S.2.1, c.Jm _ _ _ (Ex.new hF) S.2.2⟩, ?_⟩
  unfold mDictO at h
  cases em : m ρ with
  | stuck => rw [em] at h; exact h.elim
  | exc e ρ1 =>
    rw [em] at h
    exact fun Hk' H' cls d x S1 er => h Hk' H' cls d x (S1.unframe hF) er
  | ok r =>
    obtain ⟨xs, ρ1⟩ := r
    rw [em] at h
    intro Hk2 H2 vs x S2 r2
    have h : okO c F Hk bp σ Q (if decide (ks.length = xs.length) && decide (ks.length ≤ 15) && decide ks.Nodup then .ok (.dow ks xs, ρ1) else .stuck) := h
    split at h
    · rename_i hc
      simp only [Bool.and_eq_true, decide_eq_true_eq] at hc
      obtain ⟨⟨c1, c2⟩, c3⟩ := hc
      have lv : ks.length = vs.length := by rw [c1, r2.length]
      have mz : (ks.zip vs).map (·.1) = ks := by
        rw [← List.unzip_fst, List.unzip_zip lv]
      refine ⟨S2.fr p _ upd_same, ks.zip vs, ?_, by rw [List.length_zip]; omega, ?_⟩
      · rw [List.zip_map_left]; rfl
      · rw [merge_nodup _ _ (by rw [mz]; simpa using c3), List.nil_append]
        exact h _ _ _ x (S2.landO hF c1 r2)
    · exact h.elim
def mSetDk (i : Nat) (a b : ME) : MS := fun ρ => (a ρ).bind fun z ρ1 => if has ρ1 i then (b ρ1).bind fun y ρ2 => match ρ2[i]?, keyM y with
  | some (some (.dow ks xs)), some k => if ks.length ≤ 1000 then .ok (.nx, ρ2.set i (some (.dow (dctPut ks xs k z).1 (dctPut ks xs k z).2))) else .stuck
  | _, _ => .stuck else .stuck
theorem rd_setDk {D : Ends} {σ : St} {H : Hp} (h : rdS c (mSetDk i a b) D σ H) : sDPut (tVar i) (rdE c b) (rdE c a) D σ H := by
  obtain ⟨F, Hk, bp, ρ, S, h⟩ := h
  refine rdw (bE (postS (σ := σ)) S h) fun v H1 ⟨Hk1, z, ρ1, x1, S1, r1, h1⟩ => ?_
  split at h1
  · rename_i hh
    obtain ⟨w, ew⟩ := has_rs S1 hh
    refine ⟨w, ew, ?_⟩
    refine rdw (bE (postS (σ := σ)) S1 h1) fun y' H2 ⟨Hk2, y, ρ2, x2, S2, r2, h2⟩ => ?_
    split at h2
    · rename_i ks xs k hx ek
      split at h2
      · rename_i hn
        have := keyM_rv ek r2
        subst this
        obtain ⟨q, vs, g0, g1, gl, g2, g3⟩ := S2.1.changeD (js := (dctPut ks xs k z).1) (ys := (dctPut ks xs k z).2) hx
        rw [ew] at g0
        cases g0
        obtain ⟨ws, w1, w2, w3⟩ := dput_rv k (RV.mono x2 _ _ r1) gl g2
        refine ⟨q, _, rfl, DPut.k (k := k) g1 ?_, ?_⟩
        · have : (ks.zip vs).length ≤ ks.length := by rw [List.length_zip]; omega
          have : (1000 : Nat) < sizeLine := by decide
          omega
        · rw [w3]
          exact h2 _ _ _ (Ex.refl _) (g3 ws w1 w2)
      · exact h2.elim
    · exact h2.elim
  · exact h1.elim
theorem ms_setDk {ee : Expr} (hr : X.A.units + 64 < cLine) (hN : X.N[i]? = some x) (hv : Vis X.env.scope x) (he : PE X e (rdE c a)) (hb : PE X ee (rdE c b)) (hs : swapsWith e (some (.Subscript (.Name x p) ee apos)) pos.line X.env = pure false := by rfl)
    (hd : (x == ("__debug__" : Str)) = false := by decide) (hcd : (x == ("__classdict__" : Str)) = false := by decide) : PS X (.Assign [.Subscript (.Name x p) ee apos] e pos) (rdS c (mSetDk i a b)) :=
  PSw (ps_dput (by omega) (pe_var hN hv hd hcd) hb he hs) fun _ _ _ h => rd_setDk h
def mIxD (i : Nat) (b : ME) : ME := fun ρ => if has ρ i then (b ρ).bind fun y ρ1 => match ρ1[i]?, keyM y with
  | some (some (.dow ks xs)), some k => (match dctAt ks xs k with | some z => .ok (z, ρ1) | none => .stuck)
  | _, _ => .stuck else .stuck
theorem rd_ixD {σ : St} {H : Hp} {Q : VK} (h : rdE c (mIxD i b) σ H Q) : tDGet (tVar i) (rdE c b) σ H Q := by
  obtain ⟨F, Hk, bp, ρ, S, h⟩ := h
  unfold mIxD at h
  split at h
  · rename_i hh
    obtain ⟨w, ew⟩ := has_rs S hh
    refine ⟨w, ew, ?_⟩
    refine rdw (bE postE S h) fun y' H2 ⟨Hk2, y, ρ2, x2, S2, r2, h2⟩ => ?_
    split at h2
    · rename_i ks xs k hx ek
      split at h2
      · rename_i z ez
        have := keyM_rv ek r2
        subst this
        obtain ⟨q, vs, g0, g1, gl, g2, g3⟩ := S2.1.changeD (js := ks) (ys := xs) hx
        rw [ew] at g0
        cases g0
        obtain ⟨u, e1, e2⟩ := (dctAt_rv (ks := ks) k g2).1 z ez
        refine ⟨q, u, rfl, ?_, h2 _ _ _ (Ex.refl _) S2.1 e2⟩
        rw [← e1]
        exact DGet.k g1
      · exact h2.elim
    · exact h2.elim
  · exact h.elim
theorem me_ixD {ee : Expr} (hr : X.A.units + 64 < cLine) (hN : X.N[i]? = some x) (hv : Vis X.env.scope x) (hb : PE X ee (rdE c b)) (hs : NoSl ee := by exact fun _ _ => rfl)
    (hd : (x == ("__debug__" : Str)) = false := by decide) (hcd : (x == ("__classdict__" : Str)) = false := by decide) : PE X (.Subscript (.Name x p) ee pos) (rdE c (mIxD i b)) :=
  PEw (pe_dget (by omega) (pe_var hN hv hd hcd) hb hs) fun _ _ _ h => rd_ixD h
end
end Tm
set_option Elab.async false
set_option linter.all false
set_option maxRecDepth 100000
set_option maxHeartbeats 4000000
namespace Tm
open PySem L2
def fnNames : List Str := ["ahead_of_last", "all_or_none", "fill", "five_on", "half_up", "high_half", "lacking", "last_figure", "low_half", "lowest_two", "nine_less", "none_or_all", "not_all", "one_of_none", "one_of_two", "one_or_none", "order_byte", "other_twos", "product_byte", "sign_below", "six_on", "ten_high", "ten_low", "ten_or_none", "top_two"]
def m_lmixed : MS := mSeq (mAsg (mLst (mCons (mC (.int 2147483629)) (mCons (mC (.int 2147483587)) (mCons (mC (.int 2147483579)) (mCons (mC (.int 2147483563)) (mCons (mC (.int 2147483549)) (mCons (mC (.int 2147483543)) (mCons (mC (.int 2147483497)) (mCons (mC (.int 2147483489)) (mNil)))))))))) (gSet 3)) (mSeq (mAsg (mOp fMod (mOp fAdd (mOp fAdd (mOp fAdd (mVar 0) (mOp fMul (mC (.int 7919)) (mVar 2))) (mOp fMul (mC (.int 104729)) (mVar 1))) (mC (.int 13))) (mC (.int 2147483647))) (gSet 4)) (mSeq (mAsg (mOp fMod (mOp fPow (mVar 4) (mC (.int 5))) (mOp fIx (mVar 3) (mOp fMod (mVar 1) (mC (.int 8))))) (gSet 4)) (mSeq (mAsg (mOp fMod (mOp fAdd (mOp fAdd (mVar 4) (mOp fMul (mC (.int 40692)) (mVar 2))) (mVar 1)) (mC (.int 2147483647))) (gSet 5)) (mRet (mOp fAdd (mOp fMul (mOp fMod (mOp fPow (mVar 5) (mC (.int 5))) (mC (.int 2147483647))) (mC (.int 1000000007))) (mVar 4))))))
def f_lmixed : MF := mFn 6 [] m_lmixed
def b_ldraws_0 : MS := mIfS (mTest (mOp fGt (mVar 4) (mC (.int 0)))) (mSeq (mDrop (mLm lmAppend 3 (mCons (mOp fMod (mVar 4) (mOp fIx (mVar 2) (mVar 5))) (mNil)))) (mAsg (mOp fDiv (mVar 4) (mOp fIx (mVar 2) (mVar 5))) (gSet 4))) (mDrop (mLm lmAppend 3 (mCons (mOp fMod (mFz (mCall f_lmixed (mCons (mVar 0) (mCons (mVar 5) (mCons (mVar 1) (mNil)))))) (mOp fIx (mVar 2) (mVar 5))) (mNil))))
def m_ldraws : MS := mSeq (mSetO 3 (mLstO (mNil))) (mSeq (mAsg (mC (.int 0)) (gSet 4)) (mSeq (mIfS (mTest (mOp fGe (mBlt bAbs (mCons (mVar 0) (mNil))) (mOp fPow (mC (.int 10)) (mC (.int 18))))) (mAsg (mBlt bAbs (mCons (mVar 0) (mNil))) (gSet 4)) (mPass)) (mSeq (mFor (mR1 (mCons (mBlt bLen (mCons (mVar 2) (mNil))) (mNil))) (gSet 5) (b_ldraws_0)) (mRet (mMove 3)))))
def f_ldraws : MF := mFn 6 [] m_ldraws
def m_lcell : MS := mSeq (mIfS (mTest (mOp fLt (mVar 1) (mBlt bLen (mCons (mVar 0) (mNil))))) (mRet (mOp fIx (mVar 0) (mVar 1))) (mPass)) (mSeq (mIfS (mTest (mOp fEq (mBlt bLen (mCons (mVar 0) (mNil))) (mC (.int 0)))) (mRet (mOp fMul (mC (.int 7919)) (mOp fAdd (mVar 1) (mC (.int 1))))) (mPass)) (mRet (mOp fAdd (mOp fIx (mVar 0) (mOp fMod (mVar 1) (mBlt bLen (mCons (mVar 0) (mNil))))) (mOp fMul (mC (.int 104729)) (mVar 1)))))
def f_lcell : MF := mFn 2 [] m_lcell
def b_lpower_0 : MS := mAsg (mOp fMul (mVar 2) (mVar 0)) (gSet 2)
def m_lpower : MS := mSeq (mAsg (mC (.int 1)) (gSet 2)) (mSeq (mFor (mR1 (mCons (mVar 1) (mNil))) (gSet 3) (b_lpower_0)) (mRet (mVar 2)))
def f_lpower : MF := mFn 4 [] m_lpower
def b_ppower_0 : MS := mAsg (mOp fMul (mVar 2) (mVar 0)) (gSet 2)
def m_ppower : MS := mSeq (mAsg (mC (.int 1)) (gSet 2)) (mSeq (mFor (mR1 (mCons (mVar 1) (mNil))) (gSet 3) (b_ppower_0)) (mRet (mVar 2)))
def f_ppower : MF := mFn 4 [] m_ppower
def m_pone_more : MS := mSeq (mIfS (mTest (mOp fEq (mVar 3) (mC (.str "up")))) (mRet (mOp fGt (mVar 1) (mC (.int 0)))) (mPass)) (mSeq (mIfS (mTest (mOp fEq (mVar 3) (mC (.str "half")))) (mRet (mOp fGe (mOp fMul (mC (.int 2)) (mVar 1)) (mVar 2))) (mPass)) (mSeq (mIfS (mTest (mOp fEq (mVar 3) (mC (.str "even")))) (mRet (mBv (mOrT (mTest (mOp fGt (mOp fMul (mC (.int 2)) (mVar 1)) (mVar 2))) (mTest (mBv (mAndT (mTest (mOp fEq (mOp fMul (mC (.int 2)) (mVar 1)) (mVar 2))) (mTest (mOp fEq (mOp fMod (mVar 0) (mC (.int 2))) (mC (.int 1)))))))))) (mPass)) (mSeq (mIfS (mTest (mOp fEq (mVar 3) (mC (.str "floor")))) (mRet (mBv (mAndT (mTest (mOp fGt (mVar 1) (mC (.int 0)))) (mTest (mVar 4))))) (mPass)) (mRet (mBv (mAndT (mTest (mOp fEq (mVar 3) (mC (.str "ceil")))) (mAndT (mTest (mOp fGt (mVar 1) (mC (.int 0)))) (mTest (mBv (mNotT (mTest (mVar 4))))))))))))
def f_pone_more : MF := mFn 5 [] m_pone_more
def m_prounded : MS := mSeq (mIfS (mTest (mOp fNotIn (mVar 2) (mC (.tup [(.str "cut"), (.str "up"), (.str "half"), (.str "even"), (.str "floor"), (.str "ceil")])))) (mRaise1 "NoRule" "rule" (mVar 2)) (mPass)) (mSeq (mIfS (mTest (mOp fGe (mVar 1) (mC (.int 0)))) (mRet (mOp fMul (mVar 0) (mFz (mCall f_ppower (mCons (mC (.int 10)) (mCons (mVar 1) (mNil))))))) (mPass)) (mSeq (mAsg (mFz (mCall f_ppower (mCons (mC (.int 10)) (mCons (mUn fNeg (mVar 1)) (mNil))))) (gSet 3)) (mSeq (mAsg (mOp fDiv (mBlt bAbs (mCons (mVar 0) (mNil))) (mVar 3)) (gSet 4)) (mSeq (mAsg (mOp fAdd (mVar 4) (mBlt bInt (mCons (mFz (mCall f_pone_more (mCons (mVar 4) (mCons (mOp fMod (mBlt bAbs (mCons (mVar 0) (mNil))) (mVar 3)) (mCons (mVar 3) (mCons (mVar 2) (mCons (mOp fLt (mVar 0) (mC (.int 0))) (mNil)))))))) (mNil)))) (gSet 4)) (mSeq (mIfS (mTest (mOp fLt (mVar 0) (mC (.int 0)))) (mRet (mUn fNeg (mVar 4))) (mPass)) (mRet (mVar 4)))))))
def f_prounded : MF := mFn 5 [] m_prounded
def m_ljust (self : MF) : MS := mSeq (mIfS (mTest (mBlt bIsi (mCons (mVar 1) (mCons (mC (.raw (.ty "tuple"))) mNil)))) (mSeq (mIfS (mOrT (mNotT (mTest (mBlt bIsi (mCons (mVar 0) (mCons (mC (.raw (.ty "tuple"))) mNil))))) (mTest (mOp fNe (mBlt bLen (mCons (mVar 0) (mNil))) (mBlt bLen (mCons (mVar 1) (mNil)))))) (mRet (mC (.bl false))) (mPass)) (mRet (mBlt bAll (mCons (mFz (mLcO (mZip (mCons (mVar 0) (mCons (mVar 1) (mNil)))) (.tp [2, 3]) (mYes) (mFz (mCall0 self (mCons (mVar 2) (mCons (mVar 3) (mNil))))) [2, 3])) (mNil))))) (mPass)) (mSeq (mIfS (mOrT (mTest (mBlt bIsi (mCons (mVar 1) (mCons (mC (.raw (.ty "str"))) mNil)))) (mTest (mOp fIsN (mVar 1) (mC .non)))) (mRet (mBv (mAndT (mTest (mOp fEq (mBlt bIsi (mCons (mVar 0) (mCons (mC (.raw (.ty "str"))) mNil))) (mBlt bIsi (mCons (mVar 1) (mCons (mC (.raw (.ty "str"))) mNil))))) (mTest (mOp fEq (mVar 0) (mVar 1)))))) (mPass)) (mSeq (mIfS (mOrT (mNotT (mTest (mBlt bIsi (mCons (mVar 0) (mCons (mC (.raw (.ty "int"))) mNil))))) (mTest (mOp fNe (mBlt bIsi (mCons (mVar 0) (mCons (mC (.raw (.ty "bool"))) mNil))) (mBlt bIsi (mCons (mVar 1) (mCons (mC (.raw (.ty "bool"))) mNil)))))) (mRet (mC (.bl false))) (mPass)) (mRet (mOp fEq (mVar 0) (mVar 1)))))
def f_ljust : MF := mRec 4 [] m_ljust 8
def m_pis_just (self : MF) : MS := mSeq (mIfS (mTest (mBlt bIsi (mCons (mVar 1) (mCons (mC (.raw (.ty "tuple"))) mNil)))) (mSeq (mIfS (mOrT (mNotT (mTest (mBlt bIsi (mCons (mVar 0) (mCons (mC (.raw (.ty "tuple"))) mNil))))) (mTest (mOp fNe (mBlt bLen (mCons (mVar 0) (mNil))) (mBlt bLen (mCons (mVar 1) (mNil)))))) (mRet (mC (.bl false))) (mPass)) (mRet (mBlt bAll (mCons (mFz (mLcO (mZip (mCons (mVar 0) (mCons (mVar 1) (mNil)))) (.tp [2, 3]) (mYes) (mFz (mCall0 self (mCons (mVar 2) (mCons (mVar 3) (mNil))))) [2, 3])) (mNil))))) (mPass)) (mSeq (mIfS (mTest (mBlt bIsi (mCons (mVar 1) (mCons (mC (.raw (.ty "str"))) mNil)))) (mRet (mBv (mAndT (mTest (mBlt bIsi (mCons (mVar 0) (mCons (mC (.raw (.ty "str"))) mNil)))) (mTest (mOp fEq (mVar 0) (mVar 1)))))) (mPass)) (mSeq (mIfS (mOrT (mNotT (mTest (mBlt bIsi (mCons (mVar 0) (mCons (mC (.raw (.ty "int"))) mNil))))) (mTest (mOp fNe (mBlt bIsi (mCons (mVar 0) (mCons (mC (.raw (.ty "bool"))) mNil))) (mBlt bIsi (mCons (mVar 1) (mCons (mC (.raw (.ty "bool"))) mNil)))))) (mRet (mC (.bl false))) (mPass)) (mRet (mOp fEq (mVar 0) (mVar 1)))))
def f_pis_just : MF := mRec 4 [] m_pis_just 8
def m_lsome_whole : MS := mSeq (mAsg (mFz (mCall f_lpower (mCons (mC (.int 10)) (mCons (mVar 2) (mNil))))) (gSet 3)) (mSeq (mAsg (mFz (mCall f_lpower (mCons (mC (.int 10)) (mCons (mOp fMod (mVar 1) (mVar 2)) (mNil))))) (gSet 4)) (mSeq (mAsg (mLst (mCons (mC (.int 0)) (mCons (mOp fSub (mVar 3) (mC (.int 1))) (mCons (mOp fMul (mC (.int 5)) (mVar 4)) (mCons (mVar 4) (mCons (mOp fSub (mVar 4) (mC (.int 1))) (mCons (mOp fSub (mVar 3) (mVar 4)) (mCons (mOp fDiv (mVar 3) (mC (.int 2))) (mCons (mOp fAdd (mOp fMul (mC (.int 9)) (mVar 4)) (mC (.int 1))) (mNil)))))))))) (gSet 5)) (mSeq (mIfS (mTest (mOp fLt (mVar 0) (mC (.int 8)))) (mRet (mOp fMod (mOp fIx (mVar 5) (mVar 0)) (mVar 3))) (mPass)) (mRet (mOp fMod (mVar 1) (mVar 3))))))
def f_lsome_whole : MF := mFn 6 [] m_lsome_whole
def b_ldigits_0 : MS := mSeq (mDrop (mLm lmAppend 2 (mCons (mOp fMod (mVar 0) (mC (.int 10))) (mNil)))) (mAsg (mOp fDiv (mVar 0) (mC (.int 10))) (gSet 0))
def m_ldigits : MS := mSeq (mSetO 2 (mLstO (mNil))) (mSeq (mFor (mR1 (mCons (mVar 1) (mNil))) (gSet 3) (b_ldigits_0)) (mRet (mRevA (mVar 2))))
def f_ldigits : MF := mFn 4 [] m_ldigits
def b_lpart_at_0 : MS := mAsg (mOp fIx (mVar 0) (mVar 2)) (gSet 0)
def m_lpart_at : MS := mSeq (mFor (mItV (mVar 1)) (gSet 2) (b_lpart_at_0)) (mRet (mVar 0))
def f_lpart_at : MF := mFn 3 [] m_lpart_at
def m_lput_in (self : MF) : MS := mSeq (mIfS (mTest (mOp fEq (mBlt bLen (mCons (mVar 1) (mNil))) (mC (.int 0)))) (mRet (mVar 2)) (mPass)) (mSeq (mAsg (mOp fIx (mVar 1) (mC (.int 0))) (gSet 3)) (mRet (mOp fAdd (mOp fAdd (mSl (mVar 0) (mNo) (mPart (mVar 3))) (mTup (mCons (mFz (mCall self (mCons (mOp fIx (mVar 0) (mVar 3)) (mCons (mSl (mVar 1) (mPart (mC (.int 1))) (mNo)) (mCons (mVar 2) (mNil)))))) (mNil)))) (mSl (mVar 0) (mPart (mOp fAdd (mVar 3) (mC (.int 1)))) (mNo)))))
def f_lput_in : MF := mRec 4 [] m_lput_in 8
def b_lpaper_cells_0 (self : MF) : MS := mDrop (mLm lmExtend 2 (mCons (mFz (mCall self (mCons (mVar 4) (mCons (mOp fAdd (mVar 1) (mTup (mCons (mVar 3) (mNil)))) (mNil))))) (mNil)))
def m_lpaper_cells (self : MF) : MS := mSeq (mIfS (mNotT (mTest (mBlt bIsi (mCons (mVar 0) (mCons (mC (.raw (.ty "tuple"))) mNil))))) (mRet (mLst (mCons (mVar 1) (mNil)))) (mPass)) (mSeq (mSetO 2 (mLstO (mNil))) (mSeq (mFor (mEnumK 0 (mCons (mVar 0) (mNil))) (gTp 2 (gsCons (gSet 3) (gsCons (gSet 4) (gsNil)))) ((b_lpaper_cells_0 self))) (mRet (mMove 2))))
def f_lpaper_cells : MF := mRec 5 [] m_lpaper_cells 8
def b_lpaper_tuples_0 (self : MF) : MS := mDrop (mLm lmExtend 2 (mCons (mFz (mCall self (mCons (mVar 4) (mCons (mOp fAdd (mVar 1) (mTup (mCons (mVar 3) (mNil)))) (mNil))))) (mNil)))
def m_lpaper_tuples (self : MF) : MS := mSeq (mSetO 2 (mLstO (mNil))) (mSeq (mIfS (mAndT (mTest (mBlt bIsi (mCons (mVar 0) (mCons (mC (.raw (.ty "tuple"))) mNil)))) (mTest (mOp fGt (mBlt bLen (mCons (mVar 0) (mNil))) (mC (.int 0))))) (mSeq (mDrop (mLm lmAppend 2 (mCons (mVar 1) (mNil)))) (mFor (mEnumK 0 (mCons (mVar 0) (mNil))) (gTp 2 (gsCons (gSet 3) (gsCons (gSet 4) (gsNil)))) ((b_lpaper_tuples_0 self)))) (mPass)) (mRet (mMove 2)))
def f_lpaper_tuples : MF := mRec 5 [] m_lpaper_tuples 8
def m_lchanged : MS := mSeq (mAsg (mLst (mCons (mC .non) (mCons (mC (.bl true)) (mCons (mC (.bl false)) (mCons (mC (.str "none")) (mCons (mC (.str "nine")) (mCons (mC (.str "carry")) (mCons (mTup (mNil)) (mCons (mTup (mCons (mVar 0) (mNil))) (mCons (mUn fNeg (mC (.int 1))) (mCons (mC (.int 0)) (mCons (mC (.int 1)) (mCons (mBlt bStrA (mCons (mVar 0) (mNil))) (mNil)))))))))))))) (gSet 3)) (mSeq (mIfS (mOrT (mTest (mOp fGt (mVar 1) (mC (.int 3)))) (mNotT (mTest (mBlt bIsi (mCons (mVar 0) (mCons (mC (.raw (.ty "int"))) mNil)))))) (mRet (mOp fIx (mVar 3) (mOp fMod (mVar 2) (mC (.int 12))))) (mPass)) (mSeq (mIfS (mTest (mBlt bIsi (mCons (mVar 0) (mCons (mC (.raw (.ty "bool"))) mNil)))) (mRet (mOp fIx (mLst (mCons (mBv (mNotT (mTest (mVar 0)))) (mCons (mBlt bInt (mCons (mVar 0) (mNil))) (mCons (mBv (mNotT (mTest (mVar 0)))) (mCons (mBlt bInt (mCons (mBv (mNotT (mTest (mVar 0)))) (mNil))) (mNil)))))) (mVar 1))) (mPass)) (mRet (mOp fAdd (mVar 0) (mOp fIx (mLst (mCons (mC (.int 1)) (mCons (mUn fNeg (mC (.int 1))) (mCons (mOp fAdd (mC (.int 1)) (mVar 2)) (mCons (mC (.int 10)) (mNil)))))) (mVar 1))))))
def f_lchanged : MF := mFn 4 [] m_lchanged
def m_lpaper_spoilt : MS := mSeq (mIfS (mTest (mOp fLt (mVar 1) (mC (.int 6)))) (mSeq (mAsg (mFz (mCall f_lpaper_cells (mCons (mVar 0) (mCons (mTup (mNil)) (mNil))))) (gSet 8)) (mSeq (mAsg (mOp fIx (mVar 8) (mOp fMod (mVar 2) (mBlt bLen (mCons (mVar 8) (mNil))))) (gSet 9)) (mRet (mFz (mCall f_lput_in (mCons (mVar 0) (mCons (mVar 9) (mCons (mFz (mCall f_lchanged (mCons (mFz (mCall f_lpart_at (mCons (mVar 0) (mCons (mVar 9) (mNil))))) (mCons (mVar 1) (mCons (mVar 4) (mNil)))))) (mNil))))))))) (mPass)) (mSeq (mIfS (mOrT (mTest (mOp fEq (mVar 1) (mC (.int 6)))) (mTest (mOp fEq (mVar 1) (mC (.int 7))))) (mSeq (mAsg (mFz (mCall f_lpaper_tuples (mCons (mVar 0) (mCons (mTup (mNil)) (mNil))))) (gSet 8)) (mSeq (mAsg (mOp fIx (mVar 8) (mOp fMod (mVar 3) (mBlt bLen (mCons (mVar 8) (mNil))))) (gSet 9)) (mSeq (mAsg (mFz (mCall f_lpart_at (mCons (mVar 0) (mCons (mVar 9) (mNil))))) (gSet 10)) (mSeq (mAsg (mOp fMod (mVar 2) (mBlt bLen (mCons (mVar 10) (mNil)))) (gSet 2)) (mRet (mFz (mCall f_lput_in (mCons (mVar 0) (mCons (mVar 9) (mCons (mOp fAdd (mOp fAdd (mSl (mVar 10) (mNo) (mPart (mVar 2))) (mOp fMulZ (mTup (mCons (mOp fIx (mVar 10) (mVar 2)) (mNil))) (mOp fSub (mOp fMul (mC (.int 2)) (mVar 1)) (mC (.int 12))))) (mSl (mVar 10) (mPart (mOp fAdd (mVar 2) (mC (.int 1)))) (mNo))) (mNil))))))))))) (mPass)) (mSeq (mIfS (mOrT (mTest (mOp fEq (mVar 1) (mC (.int 8)))) (mTest (mOp fIsN (mVar 5) (mC .non)))) (mRet (mOp fIx (mLst (mCons (mC .non) (mCons (mTup (mNil)) (mCons (mC (.str "paper")) (mCons (mC (.int 7)) (mCons (mTup (mCons (mVar 0) (mNil))) (mCons (mRevA (mVar 0)) (mCons (mC (.bl true)) (mCons (mOp fMulZ (mTup (mCons (mC .non) (mNil))) (mBlt bLen (mCons (mVar 0) (mNil)))) (mNil)))))))))) (mOp fMod (mVar 4) (mC (.int 8))))) (mPass)) (mSeq (mAsg (mFz (mCall f_lpart_at (mCons (mVar 0) (mCons (mVar 5) (mNil))))) (gSet 6)) (mSeq (mAsg (mOp fMod (mVar 2) (mBlt bLen (mCons (mVar 6) (mNil)))) (gSet 2)) (mSeq (mAsg (mOp fAdd (mSl (mVar 6) (mNo) (mPart (mVar 2))) (mSl (mVar 6) (mPart (mOp fAdd (mVar 2) (mC (.int 1)))) (mNo))) (gSet 7)) (mSeq (mIfS (mTest (mOp fEq (mVar 1) (mC (.int 10)))) (mSeq (mAsg (mOp fMod (mVar 3) (mOp fAdd (mBlt bLen (mCons (mVar 6) (mNil))) (mC (.int 1)))) (gSet 3)) (mAsg (mOp fAdd (mOp fAdd (mSl (mVar 6) (mNo) (mPart (mVar 3))) (mTup (mCons (mOp fIx (mVar 6) (mVar 2)) (mNil)))) (mSl (mVar 6) (mPart (mVar 3)) (mNo))) (gSet 7))) (mPass)) (mSeq (mIfS (mTest (mOp fEq (mVar 1) (mC (.int 11)))) (mSeq (mAsg (mOp fMod (mVar 3) (mBlt bLen (mCons (mVar 6) (mNil)))) (gSet 3)) (mAsg (mOp fAdd (mOp fAdd (mSl (mVar 7) (mNo) (mPart (mVar 3))) (mTup (mCons (mOp fIx (mVar 6) (mVar 2)) (mNil)))) (mSl (mVar 7) (mPart (mVar 3)) (mNo))) (gSet 7))) (mPass)) (mRet (mFz (mCall f_lput_in (mCons (mVar 0) (mCons (mVar 5) (mCons (mVar 7) (mNil))))))))))))))
def f_lpaper_spoilt : MF := mFn 11 [] m_lpaper_spoilt
def m_prounding : MS := mSeq (mIfS (mTest (mOp fNotIn (mVar 2) (mC (.tup [(.str "cut"), (.str "up"), (.str "half"), (.str "even"), (.str "floor"), (.str "ceil")])))) (mRaise1 "NoRule" "rule" (mVar 2)) (mPass)) (mSeq (mIfS (mNotT (mTest (mChain fLe fLe (mC (.int 1)) (mVar 1) (mC (.int 12))))) (mRaise1 "TooLong" "number" (mVar 1)) (mPass)) (mSeq (mIfS (mNotT (mTest (mChain fLt fLt (mOp fSub (mC (.int 0)) (mC (.int 1000000000000))) (mVar 0) (mC (.int 1000000000000))))) (mRaise1 "NoFit" "number" (mVar 0)) (mPass)) (mSeq (mAsg (mFz (mCall f_prounded (mCons (mVar 0) (mCons (mOp fSub (mC (.int 0)) (mVar 1)) (mCons (mVar 2) (mNil)))))) (gSet 3)) (mSeq (mAsg (mBlt bDivW (mCons (mBlt bAbs (mCons (mVar 0) (mNil))) (mCons (mFz (mCall f_ppower (mCons (mC (.int 10)) (mCons (mVar 1) (mNil))))) (mNil)))) (gTp 2 (gsCons (gSet 4) (gsCons (gSet 5) (gsNil))))) (mSeq (mAsg (mBlt bDivW (mCons (mVar 5) (mCons (mFz (mCall f_ppower (mCons (mC (.int 10)) (mCons (mOp fSub (mVar 1) (mC (.int 1))) (mNil))))) (mNil)))) (gTp 2 (gsCons (gSet 6) (gsCons (gSet 7) (gsNil))))) (mRet (mTup (mCons (mVar 4) (mCons (mVar 6) (mCons (mOp fGt (mVar 7) (mC (.int 0))) (mCons (mOp fEq (mOp fMod (mVar 4) (mC (.int 2))) (mC (.int 1))) (mCons (mOp fLt (mVar 0) (mC (.int 0))) (mCons (mOp fEq (mBlt bAbs (mCons (mVar 3) (mNil))) (mOp fAdd (mVar 4) (mC (.int 1)))) (mCons (mVar 3) (mNil)))))))))))))))
def f_prounding : MF := mFn 8 [] m_prounding
def m_prounding_holds : MS := mRet (mFz (mCall f_pis_just (mCons (mVar 3) (mCons (mFz (mCall f_prounding (mCons (mVar 0) (mCons (mVar 1) (mCons (mVar 2) (mNil)))))) (mNil)))))
def f_prounding_holds : MF := mFn 4 [] m_prounding_holds
def m_lrounded : MS := mSeq (mIfS (mTest (mOp fGe (mVar 1) (mC (.int 0)))) (mRet (mOp fMul (mVar 0) (mFz (mCall f_lpower (mCons (mC (.int 10)) (mCons (mVar 1) (mNil))))))) (mPass)) (mSeq (mAsg (mFz (mCall f_lpower (mCons (mC (.int 10)) (mCons (mOp fSub (mC (.int 0)) (mVar 1)) (mNil))))) (gSet 3)) (mSeq (mAsg (mOp fDiv (mBlt bAbs (mCons (mVar 0) (mNil))) (mVar 3)) (gSet 4)) (mSeq (mAsg (mOp fMod (mBlt bAbs (mCons (mVar 0) (mNil))) (mVar 3)) (gSet 5)) (mSeq (mSetO 6 (mDictO [.inr "cut", .inr "up", .inr "half", .inr "even"] (mCons (mC (.bl false)) (mCons (mOp fGt (mVar 5) (mC (.int 0))) (mCons (mOp fGe (mOp fMul (mC (.int 2)) (mVar 5)) (mVar 3)) (mCons (mOp fGt (mOp fAdd (mOp fMul (mC (.int 2)) (mVar 5)) (mOp fMod (mVar 4) (mC (.int 2)))) (mVar 3)) (mNil))))))) (mSeq (mSetDk 6 (mBv (mAndT (mTest (mOp fGt (mVar 5) (mC (.int 0)))) (mTest (mOp fLt (mVar 0) (mC (.int 0)))))) (mC (.str "floor"))) (mSeq (mSetDk 6 (mBv (mAndT (mTest (mOp fGt (mVar 5) (mC (.int 0)))) (mTest (mOp fGt (mVar 0) (mC (.int 0)))))) (mC (.str "ceil"))) (mSeq (mAsg (mOp fAdd (mVar 4) (mBlt bInt (mCons (mIxD 6 (mVar 2)) (mNil)))) (gSet 4)) (mSeq (mIfS (mTest (mOp fLt (mVar 0) (mC (.int 0)))) (mRet (mOp fSub (mC (.int 0)) (mVar 4))) (mPass)) (mRet (mVar 4))))))))))
def f_lrounded : MF := mFn 7 [] m_lrounded
def m_lrounding : MS := mSeq (mAsg (mFz (mCall f_lpower (mCons (mC (.int 10)) (mCons (mVar 1) (mNil))))) (gSet 3)) (mSeq (mAsg (mOp fDiv (mBlt bAbs (mCons (mVar 0) (mNil))) (mVar 3)) (gSet 4)) (mSeq (mAsg (mFz (mCall f_ldigits (mCons (mOp fMod (mBlt bAbs (mCons (mVar 0) (mNil))) (mVar 3)) (mCons (mVar 1) (mNil))))) (gSet 5)) (mSeq (mAsg (mFz (mCall f_lrounded (mCons (mVar 0) (mCons (mOp fSub (mC (.int 0)) (mVar 1)) (mCons (mVar 2) (mNil)))))) (gSet 6)) (mSeq (mAsg (mOp fGt (mBlt bSum (mCons (mSl (mVar 5) (mPart (mC (.int 1))) (mNo)) (mNil))) (mC (.int 0))) (gSet 7)) (mRet (mTup (mCons (mVar 4) (mCons (mOp fIx (mVar 5) (mC (.int 0))) (mCons (mVar 7) (mCons (mOp fEq (mOp fMod (mVar 4) (mC (.int 2))) (mC (.int 1))) (mCons (mOp fLt (mVar 0) (mC (.int 0))) (mCons (mOp fEq (mBlt bAbs (mCons (mVar 6) (mNil))) (mOp fAdd (mVar 4) (mC (.int 1)))) (mCons (mVar 6) (mNil))))))))))))))
def f_lrounding : MF := mFn 8 [] m_lrounding
def m_law78 : MS := mSeq (mAsg (mFz (mCall f_ldraws (mCons (mFz (mCall f_lcell (mCons (mVar 0) (mCons (mC (.int 0)) (mNil))))) (mCons (mC (.int 471)) (mCons (mLst (mCons (mC (.int 4)) (mCons (mC (.int 14)) (mCons (mC (.int 10)) (mCons (mC (.int 2)) (mCons (mC (.int 12)) (mCons (mC (.int 6)) (mCons (mC (.int 6)) (mNil))))))))) (mNil)))))) (gTp 7 (gsCons (gSet 7) (gsCons (gSet 8) (gsCons (gSet 9) (gsCons (gSet 10) (gsCons (gSet 1) (gsCons (gSet 11) (gsCons (gSet 12) (gsNil)))))))))) (mSeq (mAsg (mFz (mCall f_ldraws (mCons (mFz (mCall f_lcell (mCons (mVar 0) (mCons (mC (.int 1)) (mNil))))) (mCons (mC (.int 473)) (mCons (mLst (mCons (mC (.int 97)) (mCons (mC (.int 89)) (mCons (mC (.int 83)) (mNil))))) (mNil)))))) (gTp 3 (gsCons (gSet 13) (gsCons (gSet 14) (gsCons (gSet 15) (gsNil)))))) (mSeq (mAsg (mFz (mCall f_ldraws (mCons (mFz (mCall f_lcell (mCons (mVar 0) (mCons (mC (.int 2)) (mNil))))) (mCons (mC (.int 475)) (mCons (mLst (mCons (mOp fPow (mC (.int 10)) (mC (.int 14))) (mCons (mC (.int 3)) (mNil)))) (mNil)))))) (gTp 2 (gsCons (gSet 16) (gsCons (gSet 17) (gsNil))))) (mSeq (mAsg (mOp fAdd (mC (.int 1)) (mVar 1)) (gSet 1)) (mSeq (mAsg (mTup (mCons (mC (.str "cut")) (mCons (mC (.str "up")) (mCons (mC (.str "half")) (mCons (mC (.str "even")) (mCons (mC (.str "floor")) (mCons (mC (.str "ceil")) (mNil)))))))) (gSet 2)) (mSeq (mAsg (mFz (mCall f_lsome_whole (mCons (mVar 9) (mCons (mVar 16) (mCons (mC (.int 12)) (mNil)))))) (gSet 3)) (mSeq (mIfS (mTest (mOp fEq (mVar 17) (mC (.int 2)))) (mAsg (mOp fMod (mOp fAdd (mOp fMul (mOp fMod (mVar 16) (mOp fPow (mC (.int 10)) (mC (.int 11)))) (mFz (mCall f_lpower (mCons (mC (.int 10)) (mCons (mVar 1) (mNil)))))) (mOp fDiv (mFz (mCall f_lpower (mCons (mC (.int 10)) (mCons (mVar 1) (mNil))))) (mC (.int 2)))) (mOp fPow (mC (.int 10)) (mC (.int 12)))) (gSet 3)) (mPass)) (mSeq (mIfS (mTest (mOp fEq (mVar 10) (mC (.int 1)))) (mAsg (mOp fSub (mC (.int 0)) (mVar 3)) (gSet 3)) (mPass)) (mSeq (mAsg (mFz (mCall f_lrounding (mCons (mVar 3) (mCons (mVar 1) (mCons (mOp fIx (mVar 2) (mVar 11)) (mNil)))))) (gSet 4)) (mSeq (mAsg (mVar 4) (gSet 5)) (mSeq (mIfS (mAndT (mTest (mOp fGt (mVar 7) (mC (.int 0)))) (mTest (mOp fLt (mVar 8) (mC (.int 9))))) (mAsg (mFz (mCall f_lpaper_spoilt (mCons (mVar 4) (mCons (mVar 8) (mCons (mVar 13) (mCons (mVar 14) (mCons (mVar 15) (mCons (mC .non) (mNil))))))))) (gSet 5)) (mPass)) (mSeq (mIfS (mAndT (mTest (mOp fGt (mVar 7) (mC (.int 0)))) (mTest (mOp fGt (mVar 8) (mC (.int 8))))) (mAsg (mFz (mCall f_lrounding (mCons (mVar 3) (mCons (mVar 1) (mCons (mOp fIx (mVar 2) (mVar 12)) (mNil)))))) (gSet 5)) (mPass)) (mSeq (mIfS (mAndT (mTest (mOp fGt (mVar 7) (mC (.int 0)))) (mTest (mOp fEq (mVar 8) (mC (.int 12))))) (mAsg (mFz (mCall f_lrounding (mCons (mBlt bAbs (mCons (mVar 3) (mNil))) (mCons (mVar 1) (mCons (mOp fIx (mVar 2) (mVar 11)) (mNil)))))) (gSet 5)) (mPass)) (mSeq (mIfS (mAndT (mTest (mOp fGt (mVar 7) (mC (.int 0)))) (mTest (mOp fEq (mVar 8) (mC (.int 13))))) (mAsg (mFz (mCall f_lrounding (mCons (mVar 3) (mCons (mOp fAdd (mOp fMod (mVar 1) (mC (.int 12))) (mC (.int 1))) (mCons (mOp fIx (mVar 2) (mVar 11)) (mNil)))))) (gSet 5)) (mPass)) (mSeq (mAsg (mFz (mCall f_prounding_holds (mCons (mVar 3) (mCons (mVar 1) (mCons (mOp fIx (mVar 2) (mVar 11)) (mCons (mVar 5) (mNil))))))) (gSet 6)) (mRet (mBv (mAndT (mTest (mBlt bIsi (mCons (mVar 6) (mCons (mC (.raw (.ty "bool"))) mNil)))) (mTest (mOp fEq (mVar 6) (mFz (mCall f_ljust (mCons (mVar 5) (mCons (mVar 4) (mNil))))))))))))))))))))))))
def f_law78 : MF := mFn 18 [] m_law78
theorem lcell_ok (ns : List Int) (k : Nat) : ∃ v : Int, f_lcell [.scr ns, .int k] = .ok (.int v, []) := by
  unfold f_lcell
  by_cases h : (k : Int) < ns.length
  · have h' : k < ns.length := by omega
    refine ⟨ns[k], mFn_ok ?_⟩
    simp [m_lcell, h', atI_ge]
  · by_cases h0 : ns.length = 0
    · have h' : ns = [] := List.length_eq_zero_iff.mp h0
      subst h'
      refine ⟨7919 * (k + 1), mFn_ok ?_⟩
      simp [m_lcell, mulOk_l]
    · have h' : ¬ k < ns.length := by omega
      have hp : (0 : Int) < ns.length := by omega
      have e := fmod_ge' (a := k) hp
      have e2 := fmod_lt' (a := k) hp
      have h2 : ((k : Int).fmod ns.length).toNat < ns.length := by omega
      have h3 : ¬ ns = [] := by intro h; subst h; exact h0 rfl
      have h4 : ¬ ((ns.length : Int) = 0) := by omega
      refine ⟨ns[((k : Int).fmod ns.length).toNat] + 104729 * k, mFn_ok ?_⟩
      simp [m_lcell, h', h3, h4, atI_ge e, h2, mulOk_l]
theorem lmixed_ok (a b c : Int) : ∃ v : Int, f_lmixed [.int a, .int b, .int c] = .ok (.int v, []) := by
  unfold f_lmixed
  have e := fmod_ge' (a := b) (b := 8) (by decide)
  have e2 := fmod_lt' (a := b) (b := 8) (by decide)
  generalize hi : b.fmod 8 = i at e e2
  obtain ⟨p, hp, hp1, hp2⟩ : ∃ p : Int, atI [MV.int 2147483629, .int 2147483587, .int 2147483579, .int 2147483563, .int 2147483549, .int 2147483543, .int 2147483497, .int 2147483489] i = some (.int p) ∧ 0 < p ∧ p < 2147483648 := by
    obtain ⟨j, rfl⟩ := Int.eq_ofNat_of_zero_le e
    match j, e2 with
    | 0, _ => exact ⟨_, rfl, by decide, by decide⟩
    | 1, _ => exact ⟨_, rfl, by decide, by decide⟩
    | 2, _ => exact ⟨_, rfl, by decide, by decide⟩
    | 3, _ => exact ⟨_, rfl, by decide, by decide⟩
    | 4, _ => exact ⟨_, rfl, by decide, by decide⟩
    | 5, _ => exact ⟨_, rfl, by decide, by decide⟩
    | 6, _ => exact ⟨_, rfl, by decide, by decide⟩
    | 7, _ => exact ⟨_, rfl, by decide, by decide⟩
    | j + 8, h => exact absurd h (by omega)
  have b1 : ∀ x : Int, 0 ≤ x.fmod 2147483647 ∧ x.fmod 2147483647 < 2147483647 := fun x => ⟨fmod_ge' (by decide), fmod_lt' (by decide)⟩
  have b2 : ∀ x : Int, (x.fmod 2147483647).natAbs < 18446744073709551616 := fun x => by have := b1 x; omega
  have b3 : ∀ x : Int, mulOk (x.fmod 2147483647) 1000000007 = true := fun x => mulOk_r (by decide) (by decide)
  have h : ∃ v ρ, m_lmixed [some (.int a), some (.int b), some (.int c), none, none, none] = .ok (.rt (.int v), ρ) := by
    simp [m_lmixed, szOk_small, mulOk_l, hi, hp, hp1, Int.ne_of_gt hp1, b2, b3]
  obtain ⟨v, ρ, h⟩ := h
  exact ⟨v, mFn_ok ⟨ρ, h⟩⟩
def DrawsAre (ws ds : List Int) : Prop := ds.length = ws.length ∧ ∀ i (h : i < ws.length) (h' : i < ds.length), 0 ≤ ds[i] ∧ ds[i] < ws[i]
theorem ldraws_ok (cell salt : Int) (ws : List Int) (hn : ws.length < 1000) (hw : ∀ w ∈ ws, 0 < w ∧ divOk w = true) : ∃ ds : List Int, DrawsAre ws ds ∧ f_ldraws [.int cell, .int salt, .lst (ws.map .int)] = .ok (.own (ds.map .int), []) := by
  have key : ∀ l0 : Int, ∃ ρ', mLoop (gSet 5) b_ldraws_0 (rngM 0 1 ws.length) [some (.int cell), some (.int salt), some (.lst (ws.map .int)), some (.own []), some (.int l0), none] = .ok (.nx, ρ') ∧ ∃ ds l v, DrawsAre (ws.take ws.length) ds ∧ ρ' = [some (.int cell), some (.int salt), some (.lst (ws.map .int)), some (.own (ds.map .int)), some (.int l), v] := by
    intro l0
    refine loop_rng (fun i ρ => ∃ ds l v, DrawsAre (ws.take i) ds ∧ ρ = [some (.int cell), some (.int salt), some (.lst (ws.map .int)), some (.own (ds.map .int)), some (.int l), v]) ⟨[], l0, none, ⟨by simp, by simp⟩, rfl⟩ ?_
    rintro i ρ hi ⟨ds, l, v, ⟨hd1, hd2⟩, rfl⟩
    have hwi := hw ws[i] (List.getElem_mem hi)
    have hl : ds.length = i := by rw [hd1, List.length_take]; omega
    have ix : atI (ws.map MV.int) (i : Int) = some (.int ws[i]) := by rw [atI_ge (by omega)]; simp [hi]
    have ds' : ∀ d : Int, DrawsAre (ws.take (i + 1)) (ds ++ [d.fmod ws[i]]) := by
      intro d
      refine ⟨by simp [hl, List.length_take]; omega, fun j h h' => ?_⟩
      have hj : j ≤ i := by rw [List.length_take] at h; omega
      rw [List.getElem_take]
      by_cases e : j = i
      · subst e
        rw [List.getElem_append_right (by omega)]
        simp [hl]
        exact ⟨fmod_ge' hwi.1, fmod_lt' hwi.1⟩
      · have := hd2 j (by rw [List.length_take]; omega) (by omega)
        rw [List.getElem_append_left (by omega)]
        rw [List.getElem_take] at this
        exact this
    have hsz : ds.length < sizeLine := by rw [sizeLine_eq]; omega
    by_cases hp : 0 < l
    · refine ⟨[some (.int cell), some (.int salt), some (.lst (ws.map .int)), some (.own (ds.map .int)), some (.int l), some (.int i)], [some (.int cell), some (.int salt), some (.lst (ws.map .int)), some (.own ((ds ++ [l.fmod ws[i]]).map .int)), some (.int (l.fdiv ws[i])), some (.int i)], ?_, .inl ?_, ⟨_, _, _, ds' l, rfl⟩⟩
      · simp
      · simp [b_ldraws_0, hp, isOwn, ix, Int.ne_of_gt hwi.1, hsz, hwi.2]
    · obtain ⟨m, hm⟩ := lmixed_ok cell i salt
      refine ⟨[some (.int cell), some (.int salt), some (.lst (ws.map .int)), some (.own (ds.map .int)), some (.int l), some (.int i)], [some (.int cell), some (.int salt), some (.lst (ws.map .int)), some (.own ((ds ++ [m.fmod ws[i]]).map .int)), some (.int l), some (.int i)], ?_, .inl ?_, ⟨_, _, _, ds' m, rfl⟩⟩
      · simp
      · simp [b_ldraws_0, hp, isOwn, ix, hm, Int.ne_of_gt hwi.1, hsz]
  have e0 : inR (ws.length : Int) = true := inR_of (by omega) (by omega)
  unfold f_ldraws
  by_cases hc : (1000000000000000000 : Int) ≤ (if cell < 0 then -cell else cell)
  · obtain ⟨ρ', h, ds, l, v, hd, rfl⟩ := key (if cell < 0 then -cell else cell)
    refine ⟨ds, by simpa using hd, mFn_ok ?_⟩
    · simp [m_ldraws, szOk_small, hc, e0, h]
  · obtain ⟨ρ', h, ds, l, v, hd, rfl⟩ := key 0
    refine ⟨ds, by simpa using hd, mFn_ok ?_⟩
    · simp [m_ldraws, szOk_small, hc, e0, h]
theorem draws_nil {ds : List Int} : DrawsAre [] ds ↔ ds = [] := by
  constructor
  · intro h; exact List.length_eq_zero_iff.mp h.1
  · rintro rfl; exact ⟨rfl, by simp⟩
theorem draws_cons {w : Int} {ws ds : List Int} : DrawsAre (w :: ws) ds ↔ ∃ d r, ds = d :: r ∧ (0 ≤ d ∧ d < w) ∧ DrawsAre ws r := by
  constructor
  · intro h
    match ds, h with
    | [], h => exact absurd h.1 (by simp)
    | d :: r, h =>
      refine ⟨d, r, rfl, h.2 0 (by simp) (by simp), by simpa using h.1, fun i h1 h2 => ?_⟩
      exact h.2 (i + 1) (by simpa using h1) (by simpa using h2)
  · rintro ⟨d, r, rfl, h1, h2⟩
    refine ⟨by simpa using h2.1, fun i a b => ?_⟩
    match i with
    | 0 => exact h1
    | i + 1 => exact h2.2 i (by simpa using a) (by simpa using b)
theorem divOk_small {w : Int} (h : 0 < w) (h2 : w < 2 ^ 29) : divOk w = true := by
  unfold divOk
  have : w.natAbs < 1073741824 := by omega
  simp [this]; omega
theorem ppower_eq {b : Int} {k : Int} (hb : -(2 ^ 64) < b ∧ b < 2 ^ 64) (hk : k < 2 ^ 40) (hk0 : -(2 ^ 40) < k) : f_ppower [.int b, .int k] = .ok (.int (b ^ k.toNat), []) := by
  obtain ⟨ρ', e, h⟩ := loop_rng (g := gSet 3) (b := b_ppower_0) (lo := 0) (c := 1) (n := k.toNat) (ρ := [some (.int b), some (.int k), some (.int 1), none])
    (fun i ρ => ∃ v, ρ = [some (.int b), some (.int k), some (.int (b ^ i)), v]) ⟨none, by simp⟩ (by
      rintro i ρ hi ⟨v, rfl⟩
      simp [mulOk_r hb.1 hb.2, Int.pow_succ, b_ppower_0])
  obtain ⟨v, rfl⟩ := h
  refine mFn_ok ?_
  simp [m_ppower, inR_of (i := k) (by omega) (by omega), e]
theorem pten_eq {k : Int} (hk : k < 2 ^ 40) (hk0 : -(2 ^ 40) < k) : f_ppower [.int 10, .int k] = .ok (.int (10 ^ k.toNat), []) := ppower_eq (by decide) hk hk0
theorem lpower_eq {b : Int} {k : Int} (hb : -(2 ^ 64) < b ∧ b < 2 ^ 64) (hk : k < 2 ^ 40) (hk0 : -(2 ^ 40) < k) : f_lpower [.int b, .int k] = .ok (.int (b ^ k.toNat), []) := by
  obtain ⟨ρ', e, h⟩ := loop_rng (g := gSet 3) (b := b_lpower_0) (lo := 0) (c := 1) (n := k.toNat) (ρ := [some (.int b), some (.int k), some (.int 1), none])
    (fun i ρ => ∃ v, ρ = [some (.int b), some (.int k), some (.int (b ^ i)), v]) ⟨none, by simp⟩ (by
      rintro i ρ hi ⟨v, rfl⟩
      simp [mulOk_r hb.1 hb.2, Int.pow_succ, b_lpower_0])
  obtain ⟨v, rfl⟩ := h
  refine mFn_ok ?_
  simp [m_lpower, inR_of (i := k) (by omega) (by omega), e]
theorem lten_eq {k : Int} (hk : k < 2 ^ 40) (hk0 : -(2 ^ 40) < k) : f_lpower [.int 10, .int k] = .ok (.int (10 ^ k.toNat), []) := lpower_eq (by decide) hk hk0
def most (n : Nat) (sg : Str) : Int := if sg = "tens" then 5 * 10 ^ (n - 1) - 1 else 10 ^ n - 1
section
variable {kd sg : Str} {n : Nat} {p : MV}
theorem at2 {a b c d : MV} : atI [a, b, c, d] 2 = some c := rfl
end
def fB (fr : Nat) (ws : List Str) (rs : List MV) (tab : Str → MV) : List (Str × MV) := [("rows", .own rs), ("tables", .own (ws.map tab)), ("worths", .own (ws.map MV.fnc)), ("free", .int fr)]
def Bo (fr : Nat) (ws : List Str) (rs : List MV) (tab : Str → MV) : MV := .obj "Builder" (fB fr ws rs tab)
section
variable {fr : Nat} {ws : List Str} {rs : List MV} {tab : Str → MV} {ρ : Env} {r x y z : Option MV}
@[simp] theorem Bo_held : (Bo fr ws rs tab).held = true := nr rfl
@[simp] theorem Bo_fold : MV.obj (Str.ofString "Builder") (fB fr ws rs tab) = Bo fr ws rs tab := nr rfl
@[simp] theorem lk_rows : (fB fr ws rs tab).lookup (Str.ofString "rows") = some (.own rs) := nr rfl
@[simp] theorem lk_tables : (fB fr ws rs tab).lookup (Str.ofString "tables") = some (.own (ws.map tab)) := nr rfl
@[simp] theorem lk_worths : (fB fr ws rs tab).lookup (Str.ofString "worths") = some (.own (ws.map MV.fnc)) := nr rfl
@[simp] theorem lk_free : (fB fr ws rs tab).lookup (Str.ofString "free") = some (.int fr) := nr rfl
@[simp] theorem lk_cell : (fB fr ws rs tab).lookup (Str.ofString "cell") = none := nr rfl
@[simp] theorem lk_put : (fB fr ws rs tab).lookup (Str.ofString "put") = none := nr rfl
@[simp] theorem lk_row : (fB fr ws rs tab).lookup (Str.ofString "row") = none := nr rfl
@[simp] theorem lk_look : (fB fr ws rs tab).lookup (Str.ofString "look") = none := nr rfl
@[simp] theorem lk_copied : (fB fr ws rs tab).lookup (Str.ofString "copied") = none := nr rfl
@[simp] theorem lk_looked : (fB fr ws rs tab).lookup (Str.ofString "looked") = none := nr rfl
@[simp] theorem lk_ended : (fB fr ws rs tab).lookup (Str.ofString "ended") = none := nr rfl
@[simp] theorem lk_program : (fB fr ws rs tab).lookup (Str.ofString "program") = none := nr rfl
@[simp] theorem lk_back_to : (fB fr ws rs tab).lookup (Str.ofString "back_to") = none := nr rfl
@[simp] theorem put_rows {zs : List MV} : putM (Str.ofString "rows") (.own zs) (fB fr ws rs tab) = fB fr ws zs tab := nr rfl
@[simp] theorem put_free {k : Nat} : putM (Str.ofString "free") (.int k) (fB fr ws rs tab) = fB k ws rs tab := nr rfl
@[simp] theorem put_free1 : putM (Str.ofString "free") (.int ((fr : Int) + 1)) (fB fr ws rs tab) = fB (fr + 1) ws rs tab := nr rfl
@[simp] theorem fB_len : (fB fr ws rs tab).length = 4 := nr rfl
def lkW (ws : List Str) (w : Str) : List Str := if w ∈ ws then ws else ws ++ [w]
def lkI (ws : List Str) (w : Str) : Nat := (lkW ws w).findIdx fun z => decide (z = w)
end
def w01 (p : Bool) : Nat := if p then 1 else 0
def wtab : List (Str × (Nat → Nat)) := [
  ("sign_below", fun b => w01 (decide (b % 16 = 11 ∨ b % 16 = 13))),
  ("five_on", fun b => w01 (decide (4 < b))),
  ("ten_or_none", fun b => 10 * w01 (decide (0 < b))),
  ("nine_less", fun b => if 9 < b ∧ b < 20 then 19 - b else b),
  ("ahead_of_last", fun b => b / 10),
  ("last_figure", fun b => b % 10),
  ("high_half", fun b => b / 16),
  ("low_half", fun b => b % 16),
  ("one_or_none", fun b => w01 (decide (0 < b))),
  ("half_up", fun b => b % 16 * 16),
  ("one_of_two", fun b => w01 (decide (b % 4 = 1 ∨ b % 4 = 2))),
  ("not_all", fun b => w01 (decide (b < 255))),
  ("none_or_all", fun b => 255 * w01 (decide (b = 0))),
  ("lacking", fun b => (9 + 10 * 26 - b) % 10),
  ("fill", fun b => 255 * (1 - b / 128)),
  ("top_two", fun b => b / 128),
  ("other_twos", fun b => 255 - b),
  ("ten_low", fun b => 10 * b % 256),
  ("ten_high", fun b => 10 * b / 256),
  ("six_on", fun b => w01 (decide (5 < b))),
  ("product_byte", fun b => b / 16 * (b % 16)),
  ("order_byte", fun b => if b % 4 = 0 then 1 else if b % 4 = 1 then 2 else if b % 4 = 2 then 1 else 0),
  ("one_of_none", fun b => w01 (decide (b = 0))),
  ("lowest_two", fun b => b % 2),
  ("all_or_none", fun b => 255 * w01 (decide (0 < b)))]
def worthV (w : Str) (b : Nat) : Nat := match wtab.lookup w with | some g => g b | none => 0
def tabW (w : Str) : MV := .tup ((List.range 256).map fun b => .int (worthV w b))
inductive Rw where
  | put (a v : Nat) | copy (a b : Nat) | look (a k : Nat) | add (a b : Nat) | addc (a b : Nat) | and_ (a b : Nat) | or_ (a b : Nat) | left (a : Nat) | right (a : Nat) | mark (v : Nat)
def enR : Rw → MV
  | .put a v => .tup [.str "put", .int a, .int v]
  | .copy a b => .tup [.str "copy", .int a, .int b]
  | .look a k => .tup [.str "look", .int a, .int k]
  | .add a b => .tup [.str "add", .int a, .int b]
  | .addc a b => .tup [.str "addc", .int a, .int b]
  | .and_ a b => .tup [.str "and", .int a, .int b]
  | .or_ a b => .tup [.str "or", .int a, .int b]
  | .left a => .tup [.str "left", .int a]
  | .right a => .tup [.str "right", .int a]
  | .mark v => .tup [.str "mark", .int v]
def cg (c : List Nat) (i : Nat) : Nat := c.getD i 0
def encC (c : List Nat) : List MV := c.map fun d : Nat => MV.int d
def Cells (c : List Nat) : Prop := c.length = 256 ∧ ∀ i, cg c i < 256
def TabLt (tb : Nat → Nat → Nat) (nt : Nat) : Prop := ∀ k v, k < nt → v < 256 → tb k v < 256
theorem cg_set {c : List Nat} {a v i : Nat} : cg (c.set a v) i = if i = a ∧ a < c.length then v else cg c i := by
  unfold cg
  rw [List.getD_eq_getElem?_getD, List.getD_eq_getElem?_getD, List.getElem?_set]
  by_cases h : a = i
  · subst h
    by_cases h2 : a < c.length
    · simp [h2]
    · simp [h2, List.getElem?_eq_none (Nat.le_of_not_lt h2)]
  · have : ¬ (i = a) := fun e => h e.symm
    simp [h, this]
theorem Cells.set {c : List Nat} (h : Cells c) {a v : Nat} (hv : v < 256) : Cells (c.set a v) := by
  refine ⟨by rw [List.length_set]; exact h.1, fun i => ?_⟩
  rw [cg_set]
  split
  · exact hv
  · exact h.2 i
inductive Ab where
  | r (x : Rw) | lk (c : Nat) (w : Str)
def layA (s : List Str × List Rw) : Ab → List Str × List Rw
  | .r x => (s.1, s.2 ++ [x])
  | .lk c w => (lkW s.1 w, s.2 ++ [.look c (lkI s.1 w)])
def lays (as : List Ab) (s : List Str × List Rw) : List Str × List Rw := as.foldl layA s
def okAb : Ab → Bool
  | .r _ => true
  | .lk _ w => fnNames.contains w
def Gd (s : List Str × List Rw) (k : Nat) : Prop := s.1.Nodup ∧ (∀ z ∈ s.1, z ∈ fnNames) ∧ s.2.length + k < 16777216
theorem nodup_le : ∀ {l m : List Str}, l.Nodup → (∀ z ∈ l, z ∈ m) → l.length ≤ m.length
  | [], m, _, _ => Nat.zero_le _
  | a :: l, m, h, hs => by
    obtain ⟨h1, h2⟩ := List.nodup_cons.mp h
    have ha := hs a (by simp)
    have ih := @nodup_le l (m.erase a) h2 (fun z hz => by
      have ne : z ≠ a := fun e => h1 (by rw [← e]; exact hz)
      exact (List.mem_erase_of_ne ne).mpr (hs z (List.mem_cons_of_mem _ hz)))
    rw [List.length_erase_of_mem ha] at ih
    have := List.length_pos_of_mem ha
    simp; omega
theorem Gd.len {s : List Str × List Rw} {k : Nat} (h : Gd s k) : s.1.length < 100 := by
  have h1 : s.1.length ≤ fnNames.length := nodup_le h.1 fun z hz => h.2.1 z hz
  have h2 : fnNames.length < 100 := by decide +kernel
  omega
theorem Gd.less {s : List Str × List Rw} {k j : Nat} (h : Gd s k) (hj : j ≤ k) : Gd s j := ⟨h.1, h.2.1, by have := h.2.2; omega⟩
theorem layA_len (s : List Str × List Rw) (a : Ab) : (layA s a).2.length = s.2.length + 1 := by cases a <;> simp [layA]
theorem lkW_nodup {ws : List Str} {w : Str} (h : ws.Nodup) : (lkW ws w).Nodup := by
  unfold lkW
  split
  · exact h
  · rename_i hn
    rw [List.nodup_append]
    refine ⟨h, by simp, ?_⟩
    intro a ha b hb e
    rw [List.mem_singleton.mp hb] at e
    exact hn (e ▸ ha)
theorem Gd.step {s : List Str × List Rw} {k : Nat} (h : Gd s (k + 1)) {a : Ab} (ha : okAb a = true) : Gd (layA s a) k := by
  refine ⟨?_, ?_, by rw [layA_len]; have := h.2.2; omega⟩
  · cases a with
    | r x => exact h.1
    | lk c w => exact lkW_nodup h.1
  · cases a with
    | r x => exact h.2.1
    | lk c w =>
      intro z hz
      have hw : w ∈ fnNames := List.contains_iff_mem.mp ha
      simp only [layA] at hz
      unfold lkW at hz
      split at hz
      · exact h.2.1 z hz
      · rcases List.mem_append.mp hz with hz | hz
        · exact h.2.1 z hz
        · rw [List.mem_singleton.mp hz]; exact hw
theorem Gd.lays {k : Nat} : ∀ {as : List Ab} {s : List Str × List Rw}, Gd s (as.length + k) → as.all okAb = true → Gd (lays as s) k
  | [], s, h, _ => by simpa [Tm.lays] using h
  | a :: as, s, h, ha => by
    rw [List.all_cons, Bool.and_eq_true] at ha
    have h1 : Gd (layA s a) (as.length + k) := Gd.step (h.less (by simp; omega)) ha.1
    show Gd (Tm.lays as (layA s a)) k
    exact Gd.lays h1 ha.2
def bS (fr : Nat) (s : List Str × List Rw) : MV := Bo fr s.1 (s.2.map enR) tabW
section
variable {fr : Nat} {s : List Str × List Rw} {ρ : Env} {x y z : Option MV}
@[simp] theorem bS_held : (bS fr s).held = true := nr rfl
end
theorem nm (w : Str) (h : fnNames.contains w = true) : w ∈ fnNames := List.contains_iff_mem.mp h
theorem encC_len (c : List Nat) : (encC c).length = c.length := by simp [encC]
abbrev CF := Nat → Nat
def dg (f : CF) (p n : Nat) : Prop := ∀ i, i < n → f (p + i) < 10
theorem seq_nx {a b : MS} {ρ ρ1 : Env} {R : Res (Fl × Env)} (h : a ρ = .ok (.nx, ρ1)) (h2 : b ρ1 = R) : mSeq a b ρ = R := by
  show (a ρ).bind _ = R
  rw [h]; exact h2
def w3 : List MV := [.str "put", .str "copy", .str "add", .str "addc", .str "and", .str "or"]
def w2 : List MV := [.str "left", .str "right"]
theorem cbE_b2 {f : MF} {x v : MV} {ys : List MV} {args : List BA} {ρ : Env} {r q y : Option MV} (h : x.held = true) (hf : fill args (r :: q :: some x :: ρ) = some ys) (hi : idxB args = []) (en : f (x :: ys) = .ok (v, [y])) : cbE f (.b 2 :: args) (r :: q :: some x :: ρ) = .ok (v, r :: q :: y :: ρ) := by
  rw [cbE_ap]
  have e : fill (.b 2 :: args) (r :: q :: some x :: ρ) = some (x :: ys) := by
    rw [fill_b, hf]
    simp [h]
  rw [e]
  show (match f (x :: ys) with | .ok (v, os) => _ | .exc e os => _ | .stuck => _) = _
  rw [en]
  rw [idxB_b, hi]
  rfl
section
variable {f : MF} {fr fr' : Nat} {s s' : List Str × List Rw} {a b c d v : MV}
theorem cd1 (en : f [bS fr s, a] = .ok (v, [some (bS fr' s')])) (r q : Option MV) (ρ : Env) : cbE f [.b 2, .v a] (r :: q :: some (bS fr s) :: ρ) = .ok (v, r :: q :: some (bS fr' s') :: ρ) := cbE_b2 rfl rfl rfl en
theorem cd2 (en : f [bS fr s, a, b] = .ok (v, [some (bS fr' s')])) (r q : Option MV) (ρ : Env) : cbE f [.b 2, .v a, .v b] (r :: q :: some (bS fr s) :: ρ) = .ok (v, r :: q :: some (bS fr' s') :: ρ) := cbE_b2 rfl rfl rfl en
theorem cd3 (en : f [bS fr s, a, b, c] = .ok (v, [some (bS fr' s')])) (r q : Option MV) (ρ : Env) : cbE f [.b 2, .v a, .v b, .v c] (r :: q :: some (bS fr s) :: ρ) = .ok (v, r :: q :: some (bS fr' s') :: ρ) := cbE_b2 rfl rfl rfl en
theorem cd4 (en : f [bS fr s, a, b, c, d] = .ok (v, [some (bS fr' s')])) (r q : Option MV) (ρ : Env) : cbE f [.b 2, .v a, .v b, .v c, .v d] (r :: q :: some (bS fr s) :: ρ) = .ok (v, r :: q :: some (bS fr' s') :: ρ) := cbE_b2 rfl rfl rfl en
end
structure Bs (L : List Str) : Prop where
  ah : ("ahead_of_last" : Str) ∈ L
  la : ("last_figure" : Str) ∈ L
  ni : ("nine_less" : Str) ∈ L
  hi : ("high_half" : Str) ∈ L
  lo : ("low_half" : Str) ∈ L
  up : ("half_up" : Str) ∈ L
  te : ("ten_or_none" : Str) ∈ L
  fi : ("five_on" : Str) ∈ L
  on : ("one_or_none" : Str) ∈ L
  be : ("sign_below" : Str) ∈ L
  tw : ("one_of_two" : Str) ∈ L
theorem ok2 {a b : Nat} (ha : a < 256) (hb : b < 256) : (decide (a < 256) && decide (b < 256)) = true := by rw [decide_eq_true ha, decide_eq_true hb]; rfl
theorem log_small {m : Nat} (h : m < 2 ^ 1000) : m.log2 < 1920 := by
  by_cases h0 : m = 0
  · subst h0; decide
  · have := (Nat.log2_lt h0).mpr h
    omega
theorem divOk_ten {k : Nat} (h : k < 100) : divOk ((10 : Int) ^ k) = true := by
  unfold divOk
  have e : ((10 : Int) ^ k) = ((10 ^ k : Nat) : Int) := by simp
  have h1 : 10 ^ k < 2 ^ 1000 := Nat.lt_of_le_of_lt (Nat.pow_le_pow_right (by decide) (show k ≤ 100 by omega)) (by decide +kernel)
  have h2 := log_small h1
  have h3 : 0 < 10 ^ k := Nat.pow_pos (by decide)
  rw [e, Bool.or_eq_true]
  right
  simp only [Int.natAbs_natCast, Bool.and_eq_true, decide_eq_true_eq]
  omega
theorem Gd.go {s : List Str × List Rw} {N : Nat} {as : List Ab} (h : Gd s N) (ok : as.all okAb = true) (k : Nat) (hl : as.length + k ≤ N) : Gd (Tm.lays as s) k := Gd.lays (h.less hl) ok
def IsRule (rule : Str) : Prop := rule = "cut" ∨ rule = "up" ∨ rule = "half" ∨ rule = "even" ∨ rule = "floor" ∨ rule = "ceil"
def addM (rule : Str) (q r T b : Nat) : Nat :=
  if rule = "cut" then 0
  else if rule = "half" then (if T ≤ 2 * r then 1 else 0)
  else if rule = "even" then (if T < 2 * r ∨ (2 * r = T ∧ q % 2 = 1) then 1 else 0)
  else if rule = "floor" then (if 0 < r ∧ b = 1 then 1 else 0)
  else if rule = "ceil" then (if 0 < r ∧ b = 0 then 1 else 0)
  else (if 0 < r then 1 else 0)
theorem addM_le (rule : Str) (q r T b : Nat) : addM rule q r T b ≤ 1 := by
  unfold addM
  repeat' split
  all_goals omega
def rndM (rule : Str) (x : Int) (k : Nat) : Int :=
  if x < 0 then -((x.natAbs / 10 ^ k + addM rule (x.natAbs / 10 ^ k) (x.natAbs % 10 ^ k) (10 ^ k) 1 : Nat) : Int)
  else ((x.natAbs / 10 ^ k + addM rule (x.natAbs / 10 ^ k) (x.natAbs % 10 ^ k) (10 ^ k) 0 : Nat) : Int)
def rulesL : List MV := [.str "cut", .str "up", .str "half", .str "even", .str "floor", .str "ceil"]
theorem rule_at {d : Int} (h : 0 ≤ d ∧ d < 6) : ∃ rule : Str, IsRule rule ∧ atI rulesL d = some (.str rule) := by
  rcases (show d = 0 ∨ d = 1 ∨ d = 2 ∨ d = 3 ∨ d = 4 ∨ d = 5 by omega) with rfl | rfl | rfl | rfl | rfl | rfl
  · exact ⟨"cut", .inl rfl, rfl⟩
  · exact ⟨"up", .inr (.inl rfl), rfl⟩
  · exact ⟨"half", .inr (.inr (.inl rfl)), rfl⟩
  · exact ⟨"even", .inr (.inr (.inr (.inl rfl))), rfl⟩
  · exact ⟨"floor", .inr (.inr (.inr (.inr (.inl rfl)))), rfl⟩
  · exact ⟨"ceil", .inr (.inr (.inr (.inr (.inr rfl)))), rfl⟩
theorem pone_more_eq {rule : Str} (hr : IsRule rule) (q r T : Nat) (b : Bool) : ∃ v : Bool, f_pone_more [.int q, .int r, .int T, .str rule, .bl b] = .ok (.bl v, []) ∧ addM rule q r T (if b = true then 1 else 0) = if v = true then 1 else 0 := by
  have m2 : mulOk 2 (r : Int) = true := mulOk_l (by decide) (by decide)
  have fm : (q : Int).fmod 2 = ((q % 2 : Nat) : Int) := nat_fmod _ 2
  have d2 : divOk 2 = true := rfl
  unfold addM
  rcases hr with rfl | rfl | rfl | rfl | rfl | rfl
  · exact ⟨false, mFn_ok (by simp [m_pone_more]), rfl⟩
  · refine ⟨decide (0 < r), mFn_ok ?_, ?_⟩
    · by_cases h : 0 < r <;> simp [m_pone_more, h]
    · by_cases h : 0 < r <;> simp [h]
  · refine ⟨decide (T ≤ 2 * r), mFn_ok ?_, ?_⟩
    · by_cases h : T ≤ 2 * r
      · have h2 : (T : Int) ≤ 2 * (r : Int) := by omega
        simp [m_pone_more, m2, h, h2]
      · have h2 : ¬ (T : Int) ≤ 2 * (r : Int) := by omega
        simp [m_pone_more, m2, h, h2]
    · by_cases h : T ≤ 2 * r <;> simp [h]
  · refine ⟨decide (T < 2 * r ∨ (2 * r = T ∧ q % 2 = 1)), mFn_ok ?_, ?_⟩
    · by_cases h : T < 2 * r
      · have h2 : (T : Int) < 2 * (r : Int) := by omega
        simp [m_pone_more, m2, h, h2]
      · have h2 : ¬ (T : Int) < 2 * (r : Int) := by omega
        by_cases h3 : 2 * r = T
        · have h4 : 2 * (r : Int) = (T : Int) := by omega
          by_cases h5 : q % 2 = 1
          · have h6 : (q : Int).fmod 2 = 1 := by rw [fm, h5]; rfl
            simp [m_pone_more, m2, h, h2, h3, h4, h5, h6, d2]
          · have h6 : ¬ (q : Int).fmod 2 = 1 := by rw [fm]; omega
            simp [m_pone_more, m2, h, h2, h3, h4, h5, h6, d2]
        · have h4 : ¬ 2 * (r : Int) = (T : Int) := by omega
          simp [m_pone_more, m2, h, h2, h3, h4]
    · by_cases h : T < 2 * r ∨ (2 * r = T ∧ q % 2 = 1) <;> simp [h]
  · refine ⟨decide (0 < r) && b, mFn_ok ?_, ?_⟩
    · by_cases h : 0 < r <;> cases b <;> simp [m_pone_more, h]
    · by_cases h : 0 < r <;> cases b <;> simp [h]
  · refine ⟨decide (0 < r) && !b, mFn_ok ?_, ?_⟩
    · by_cases h : 0 < r <;> cases b <;> simp [m_pone_more, h]
    · by_cases h : 0 < r <;> cases b <;> simp [h]
theorem prounded_eq {rule : Str} {k : Nat} (hk : 1 ≤ k ∧ k ≤ 18) (hr : IsRule rule) (x : Int) : f_prounded [.int x, .int (-(k : Int)), .str rule] = .ok (.int (rndM rule x k), []) := by
  refine mFn_ok ?_
  have a1 : bAbs [.int x] = some (.int (x.natAbs : Int)) := by
    have e : (if x < 0 then -x else x) = (x.natAbs : Int) := by split <;> omega
    rw [bAbs_i, e]
  have p := @pten_eq (k : Int) (by omega) (by omega)
  rw [Int.toNat_natCast] at p
  have e10 : ((10 ^ k : Nat) : Int) = (10 : Int) ^ k := by simp
  have dv : divOk ((10 : Int) ^ k) = true := divOk_ten (by omega)
  have l64 : 10 ^ k < 2 ^ 64 := Nat.lt_of_le_of_lt (Nat.pow_le_pow_right (by decide) hk.2) (by decide +kernel)
  have pT : 0 < 10 ^ k := Nat.pos_of_ne_zero (by simp)
  unfold rndM
  rw [← e10] at p dv
  generalize 10 ^ k = T at *
  have fd : (x.natAbs : Int).fdiv (T : Int) = ((x.natAbs / T : Nat) : Int) := nat_fdiv _ _
  have fm : (x.natAbs : Int).fmod (T : Int) = ((x.natAbs % T : Nat) : Int) := nat_fmod _ _
  obtain ⟨v, hv, hv2⟩ := @pone_more_eq rule hr (x.natAbs / T) (x.natAbs % T) T (decide (x < 0))
  have nin : fNotIn (.str rule) (.tup [.str "cut", .str "up", .str "half", .str "even", .str "floor", .str "ceil"]) = some (.bl false) := by
    rcases hr with rfl | rfl | rfl | rfl | rfl | rfl <;> rfl
  have kz : ¬ ((k : Int) ≤ 0) := by omega
  have kz2 : ¬ k = 0 := by omega
  have tz : ¬ T = 0 := by omega
  generalize (x.natAbs : Int) = X at *
  generalize x.natAbs / T = q at *
  generalize x.natAbs % T = r at *
  by_cases h : x < 0
  · rw [if_pos h]
    rw [decide_eq_true h] at hv hv2
    rw [if_pos rfl] at hv2
    rw [hv2]
    cases v <;> simp [m_prounded, -bAbs_i, nin, kz, kz2, p, a1, dv, fd, fm, tz, hv, h]
  · rw [if_neg h]
    rw [decide_eq_false h] at hv hv2
    rw [if_neg (by decide)] at hv2
    rw [hv2]
    cases v <;> simp [m_prounded, -bAbs_i, nin, kz, kz2, p, a1, dv, fd, fm, tz, hv, h]
theorem log2_lt200 {a : Nat} (h : a < 2 ^ 200) : a.log2 < 200 := by
  by_cases z : a = 0
  · subst z; decide
  · exact (Nat.log2_lt z).mpr h
theorem mulOk_wide {i j : Int} (h1 : i.natAbs < 2 ^ 200) (h2 : j.natAbs < 2 ^ 200) : mulOk i j = true := by
  have := log2_lt200 h1
  have := log2_lt200 h2
  simp only [mulOk, Bool.or_eq_true, Bool.and_eq_true, decide_eq_true_eq]
  exact .inr (by omega)
structure TwW (L : List Str) : Prop where
  al : ("all_or_none" : Str) ∈ L
  no : ("none_or_all" : Str) ∈ L
  ot : ("other_twos" : Str) ∈ L
  th : ("ten_high" : Str) ∈ L
  tl : ("ten_low" : Str) ∈ L
  fi : ("fill" : Str) ∈ L
  na : ("not_all" : Str) ∈ L
  on : ("one_or_none" : Str) ∈ L
structure Ls (L : List Str) : Prop where
  ah : ("ahead_of_last" : Str) ∈ L
  la : ("last_figure" : Str) ∈ L
  ni : ("nine_less" : Str) ∈ L
  hi : ("high_half" : Str) ∈ L
  lo : ("low_half" : Str) ∈ L
  te : ("ten_or_none" : Str) ∈ L
  fi : ("five_on" : Str) ∈ L
  be : ("sign_below" : Str) ∈ L
theorem bls_map {α : Type} (f : α → Bool) : ∀ l : List α, blsOf (l.map fun p => .bl (f p)) = some (l.map f)
  | [] => rfl
  | p :: l => by
    have := bls_map f l
    simp [blsOf, this]
theorem ball_map {α : Type} (f : α → Bool) (l : List α) : bAll [.lst (l.map fun p => .bl (f p))] = some (.bl (l.all f)) := by
  show (blsOf _).map _ = _
  rw [bls_map]
  simp
def okN (N nt : Nat) : Rw → Bool
  | .put a v => decide (a < N) && decide (v < 256)
  | .look a k => decide (a < N) && decide (k < nt)
  | .copy a b => decide (a < N) && decide (b < N)
  | .add a b => decide (a < N) && decide (b < N)
  | .addc a b => decide (a < N) && decide (b < N)
  | .and_ a b => decide (a < N) && decide (b < N)
  | .or_ a b => decide (a < N) && decide (b < N)
  | .left a => decide (a < N)
  | .right a => decide (a < N)
  | .mark v => decide (v < 2)
def CellsN (N : Nat) (c : List Nat) : Prop := c.length = N ∧ ∀ i, cg c i < 256
theorem CellsN.set {N : Nat} {c : List Nat} (h : CellsN N c) {a v : Nat} (hv : v < 256) : CellsN N (c.set a v) := by
  refine ⟨by rw [List.length_set]; exact h.1, fun i => ?_⟩
  rw [cg_set]
  split
  · exact hv
  · exact h.2 i
def CR (c : List Nat) (m : Nat) (p : List Nat × Nat) (a : Nat) : Prop := Cells p.1 ∧ p.2 = m ∧ (∀ i, i < 252 → cg p.1 i = cg c i) ∧ cg p.1 252 = a
theorem fMul_tm {x : MV} {m : Nat} (hm : 1 ≤ m ∧ m ≤ 1000) : fMul (.tup [x]) (.int m) = some (.tup (List.replicate m x)) := by
  rcases (show m = 1 ∨ 2 ≤ m by omega) with rfl | h
  · exact fMul_t1
  · rw [fMul_tk ⟨by omega, by omega⟩ (by simp)]
    congr 2
    rw [Int.toNat_natCast]
    simp
structure DrP (N : Nat) where
  tb : Nat → Nat → Nat
  nt : Nat
  rs : List Rw
  c : List Nat
  m : Nat
  h16 : nt ≤ 16
  tl : TabLt tb nt
  ok : rs.all (okN N nt) = true
  h48 : rs.length ≤ 48
  cn : CellsN N c
  m2 : m < 2
def okJ : Nat → MV → Bool
  | _, .non => true
  | _, .bl _ => true
  | _, .int _ => true
  | _, .str _ => true
  | n + 1, .tup xs => xs.all (okJ n) && decide (xs.length ≤ 1000)
  | _, _ => false
theorem ten_pos' (n : Nat) : (0 : Int) < 10 ^ n := Int.pow_pos (by decide)
theorem lsome_whole_ok (way far : Int) (m : Nat) (hw : 0 ≤ way ∧ way < 10) (hm : 1 ≤ m ∧ m ≤ 50) : ∃ v : Nat, v < 10 ^ m ∧ f_lsome_whole [.int way, .int far, .int m] = .ok (.int v, []) := by
  have key : ∃ (v : Int) (ρ : Env), 0 ≤ v ∧ v < 10 ^ m ∧ m_lsome_whole [some (.int way), some (.int far), some (.int m), none, none, none] = .ok (.rt (.int v), ρ) := by
    have hp := ten_pos' m
    have e1 := fmod_ge' (a := far) (b := (m : Int)) (by omega)
    have e2 := fmod_lt' (a := far) (b := (m : Int)) (by omega)
    have l1 := lten_eq (k := (m : Int)) (by omega) (by omega)
    have l2 := lten_eq (k := far.fmod m) (by omega) (by omega)
    generalize hq : (10 : Int) ^ (far.fmod m).toNat = q at l2
    have hmz : ¬ m = 0 := by omega
    have hpz : ¬ (10 : Int) ^ m = 0 := by omega
    have b1 : ∀ x : Int, 0 ≤ x.fmod (10 ^ m) := fun x => fmod_ge' hp
    have b2 : ∀ x : Int, x.fmod (10 ^ m) < 10 ^ m := fun x => fmod_lt' hp
    have hd : (divOk 2) = true := by decide
    by_cases h8 : way < 8
    · obtain ⟨j, hj⟩ : ∃ j : Int, atI [MV.int 0, .int (10 ^ m - 1), .int (5 * q), .int q, .int (q - 1), .int (10 ^ m - q), .int ((10 ^ m : Int).fdiv 2), .int (9 * q + 1)] way = some (.int j) := by
        rcases (show way = 0 ∨ way = 1 ∨ way = 2 ∨ way = 3 ∨ way = 4 ∨ way = 5 ∨ way = 6 ∨ way = 7 by omega) with rfl | rfl | rfl | rfl | rfl | rfl | rfl | rfl <;> exact ⟨_, rfl⟩
      refine ⟨j.fmod (10 ^ m), ?_⟩
      simp at l1 l2
      simp [m_lsome_whole, l1, l2, hmz, hpz, szOk_small, mulOk_l, h8, hj, hd, b1, b2]
    · refine ⟨far.fmod (10 ^ m), ?_⟩
      simp at l1 l2
      simp [m_lsome_whole, l1, l2, hmz, hpz, szOk_small, mulOk_l, h8, hd, b1, b2]
  obtain ⟨v, ρ, h1, h2, h3⟩ := key
  obtain ⟨n, rfl⟩ := Int.eq_ofNat_of_zero_le h1
  refine ⟨n, ?_, mFn_ok ⟨ρ, h3⟩⟩
  have : ((10 ^ m : Nat) : Int) = (10 : Int) ^ m := by simp
  rw [← this] at h2
  exact_mod_cast h2
theorem ldigits_eq (n k : Nat) (hk : k < 1000000) : f_ldigits [.int n, .int k] = .ok (.lst ((digsB k n).map fun d : Nat => MV.int d), []) := by
  refine mFn_ok ?_
  obtain ⟨ρ', e, v, rfl⟩ := loop_nxr (g := gSet 3) (b := b_ldigits_0) (lo := 0) (c := 1) (n := k) (ρ := [some (.int n), some (.int k), some (.own []), none])
    (fun i ρ => ∃ v, ρ = [some (.int (n / 10 ^ i : Nat)), some (.int k), some (.own ((digs i n).map fun d : Nat => MV.int d)), v]) ⟨none, by simp [digs]⟩ (by
      rintro i ρ hi ⟨v, rfl⟩
      have hz : (digs i n).length < sizeLine := by rw [sizeLine_eq, digs_len]; omega
      have h1 : ((n / 10 ^ i : Nat) : Int).fmod 10 = ((n / 10 ^ i % 10 : Nat) : Int) := nat_fmod _ 10
      have h2 : ((n / 10 ^ i : Nat) : Int).fdiv 10 = ((n / 10 ^ (i + 1) : Nat) : Int) := by rw [Nat.pow_succ, ← Nat.div_div_eq_div_mul]; exact nat_fdiv _ 10
      generalize hq : n / 10 ^ i = q at h1 h2
      generalize hq2 : n / 10 ^ (i + 1) = q2 at h2
      have h3 : digs (i + 1) n = digs i n ++ [q % 10] := by rw [digs_append, hq]
      simp [b_ldigits_0, hz, divOk, h1, h2, h3])
  simp [m_ldigits, szOk_small, inR_of (i := (k : Int)) (by omega) (by omega), e, digsB]
def pOk : Nat → MV → Bool
  | _, .int i => decide (i.natAbs.log2 < 1900)
  | _, .bl _ => true
  | _, .str _ => true
  | n + 1, .tup xs => xs.all (pOk n) && decide (xs.length ≤ 20)
  | _, _ => false
def jB : Nat → MV → MV → Bool
  | n + 1, .tup xs, .tup ys => decide (xs.length = ys.length) && (xs.zip ys).all fun p => jB n p.1 p.2
  | _, .int i, .int j => decide (i = j)
  | _, .bl a, .bl b => decide (a = b)
  | _, .str a, .str b => decide (a = b)
  | _, _, _ => false
def pl : MV → Bool
  | .own _ => false
  | .obj _ _ => false
  | .dow _ _ => false
  | .dot _ _ => false
  | _ => true
theorem mVar_pl {i : Nat} {ρ : Env} {x : MV} (h : pl x = true) (hi : ρ[i]? = some (some x)) : mVar i ρ = .ok (x, ρ) := by
  unfold mVar
  rw [hi]
  cases x <;> first | rfl | cases h
theorem fz_pl {x : MV} (h : pl x = true) : fz x = some x := by
  cases x <;> first | rfl | cases h
theorem okJ_pl {n : Nat} {x : MV} (h : okJ n x = true) : pl x = true := by
  cases x <;> first | rfl | (cases n <;> simp [okJ] at h)
theorem pOk_pl {n : Nat} {x : MV} (h : pOk n x = true) : pl x = true := by
  cases x <;> first | rfl | (cases n <;> simp [pOk] at h)
theorem pOk_okJ : ∀ (n : Nat) (x : MV), pOk n x = true → okJ n x = true
  | n, .int i, _ => by cases n <;> rfl
  | n, .bl i, _ => by cases n <;> rfl
  | n, .str i, _ => by cases n <;> rfl
  | 0, .tup xs, h => by simp [pOk] at h
  | n + 1, .tup xs, h => by
    simp only [pOk, okJ, Bool.and_eq_true, decide_eq_true_eq, List.all_eq_true] at h ⊢
    exact ⟨fun x hx => pOk_okJ n x (h.1 x hx), by omega⟩
  | n, .non, h => by cases n <;> simp [pOk] at h
  | n, .lst _, h => by cases n <;> simp [pOk] at h
  | n, .own _, h => by cases n <;> simp [pOk] at h
  | n, .raw _, h => by cases n <;> simp [pOk] at h
  | n, .scr _, h => by cases n <;> simp [pOk] at h
  | n, .fnc _, h => by cases n <;> simp [pOk] at h
  | n, .obj _ _, h => by cases n <;> simp [pOk] at h
  | n, .dct _ _, h => by cases n <;> simp [pOk] at h
  | n, .dow _ _, h => by cases n <;> simp [pOk] at h
  | n, .dot _ _, h => by cases n <;> simp [pOk] at h
theorem okJ_up : ∀ (n : Nat) (x : MV), okJ n x = true → okJ (n + 1) x = true
  | n, .non, _ => by cases n <;> rfl
  | n, .int i, _ => by cases n <;> rfl
  | n, .bl i, _ => by cases n <;> rfl
  | n, .str i, _ => by cases n <;> rfl
  | 0, .tup xs, h => by simp [okJ] at h
  | n + 1, .tup xs, h => by
    simp only [okJ, Bool.and_eq_true, decide_eq_true_eq, List.all_eq_true] at h ⊢
    exact ⟨fun x hx => okJ_up n x (h.1 x hx), h.2⟩
  | n, .lst _, h => by cases n <;> simp [okJ] at h
  | n, .own _, h => by cases n <;> simp [okJ] at h
  | n, .raw _, h => by cases n <;> simp [okJ] at h
  | n, .scr _, h => by cases n <;> simp [okJ] at h
  | n, .fnc _, h => by cases n <;> simp [okJ] at h
  | n, .obj _ _, h => by cases n <;> simp [okJ] at h
  | n, .dct _ _, h => by cases n <;> simp [okJ] at h
  | n, .dow _ _, h => by cases n <;> simp [okJ] at h
  | n, .dot _ _, h => by cases n <;> simp [okJ] at h
theorem okJ_le {n m : Nat} (h : n ≤ m) {x : MV} (hx : okJ n x = true) : okJ m x = true := by
  induction h with
  | refl => exact hx
  | step _ ih => exact okJ_up _ _ ih
theorem call2_pl {self : MF} {ρ : Env} {x y : MV} {b : Bool} (hx : pl x = true) (hy : pl y = true) (h2 : ρ[2]? = some (some x)) (h3 : ρ[3]? = some (some y)) (hs : self [x, y] = .ok (.bl b, [])) : mFz (mCall0 self (mCons (mVar 2) (mCons (mVar 3) (mNil)))) ρ = .ok (.bl b, ρ) := by
  have e : mCons (mVar 2) (mCons (mVar 3) mNil) ρ = .ok ([x, y], ρ) := by
    unfold mCons
    rw [mVar_pl hx h2]
    simp only [Res.bind]
    rw [mVar_pl hy h3]
    rfl
  unfold mFz mCall0
  rw [e]
  simp only [Res.bind]
  rw [hs]
  rfl
theorem zipM_pairs : ∀ (xs ys : List MV), zipM xs ys = (xs.zip ys).map fun p => .tup [p.1, p.2]
  | [], _ => rfl
  | _ :: _, [] => rfl
  | x :: xs, y :: ys => by
    have := zipM_pairs xs ys
    show MV.tup [x, y] :: zipM xs ys = _
    rw [this]; rfl
theorem just_any : ∀ (n : Nat) (F D : MV), okJ n F = true → pOk n D = true → mRec 4 [] m_ljust (n + 1) [F, D] = .ok (.bl (jB n F D), []) ∧ mRec 4 [] m_pis_just (n + 1) [F, D] = .ok (.bl (jB n F D), [])
  | n, F, .int j, hF, _ => by
    constructor
    · refine mFn_ok ?_
      cases F <;> first | (exfalso; cases n <;> simp [okJ] at hF; done) | (cases n <;> simp [m_ljust, bIsi, MV.kd, kdOf, Kd.isa, fIsN, MV.isN, jB])
    · refine mFn_ok ?_
      cases F <;> first | (exfalso; cases n <;> simp [okJ] at hF; done) | (cases n <;> simp [m_pis_just, bIsi, MV.kd, kdOf, Kd.isa, fIsN, MV.isN, jB])
  | n, F, .bl j, hF, _ => by
    constructor
    · refine mFn_ok ?_
      cases F <;> first | (exfalso; cases n <;> simp [okJ] at hF; done) | (cases n <;> simp [m_ljust, bIsi, MV.kd, kdOf, Kd.isa, fIsN, MV.isN, jB])
    · refine mFn_ok ?_
      cases F <;> first | (exfalso; cases n <;> simp [okJ] at hF; done) | (cases n <;> simp [m_pis_just, bIsi, MV.kd, kdOf, Kd.isa, fIsN, MV.isN, jB])
  | n, F, .str j, hF, _ => by
    constructor
    · refine mFn_ok ?_
      cases F <;> first | (exfalso; cases n <;> simp [okJ] at hF; done) | (cases n <;> simp [m_ljust, bIsi, MV.kd, kdOf, Kd.isa, fIsN, MV.isN, jB])
    · refine mFn_ok ?_
      cases F <;> first | (exfalso; cases n <;> simp [okJ] at hF; done) | (cases n <;> simp [m_pis_just, bIsi, MV.kd, kdOf, Kd.isa, fIsN, MV.isN, jB])
  | 0, F, .tup ys, _, h => by simp [pOk] at h
  | n + 1, F, .tup ys, hF, h => by
    simp only [pOk, Bool.and_eq_true, decide_eq_true_eq, List.all_eq_true] at h
    by_cases hT : ∃ xs, F = .tup xs
    · obtain ⟨xs, rfl⟩ := hT
      simp only [okJ, Bool.and_eq_true, decide_eq_true_eq, List.all_eq_true] at hF
      have sx : szOk xs.length = true := szOk_small (by omega)
      have sy : szOk ys.length = true := szOk_small (by omega)
      by_cases hl : xs.length = ys.length
      · have jb : jB (n + 1) (.tup xs) (.tup ys) = (xs.zip ys).all fun p => jB n p.1 p.2 := by
          show (decide (xs.length = ys.length) && _) = _
          rw [decide_eq_true hl, Bool.true_and]
        rw [jb]
        have lc : ∀ (self : MF), (∀ x y, okJ n x = true → pOk n y = true → self [x, y] = .ok (.bl (jB n x y), [])) → mLcO (mZip (mCons (mVar 0) (mCons (mVar 1) (mNil)))) (.tp [2, 3]) (mYes) (mFz (mCall0 self (mCons (mVar 2) (mCons (mVar 3) (mNil))))) [2, 3] [some (.tup xs), some (.tup ys), none, none] = .ok (.own ((xs.zip ys).map fun p => .bl (jB n p.1 p.2)), [some (.tup xs), some (.tup ys), none, none]) := by
          intro self hs
          have := mLcO_map (it := mZip (mCons (mVar 0) (mCons (mVar 1) (mNil)))) (g := .tp [2, 3]) (e := mFz (mCall0 self (mCons (mVar 2) (mCons (mVar 3) (mNil))))) (vs := [2, 3])
            (ρ := [some (.tup xs), some (.tup ys), none, none]) (ρ1 := [some (.tup xs), some (.tup ys), none, none]) (xs := (xs.zip ys).map fun p => .tup [p.1, p.2])
            (fun z => match z with | .tup [x, y] => .bl (jB n x y) | _ => .non) (by simp [zipM_pairs]) (by simp [perAt]) (by
              intro z hz
              obtain ⟨p, hp, rfl⟩ := List.mem_map.mp hz
              have hx := hF.1 p.1 (List.of_mem_zip hp).1
              have hy := h.1 p.2 (List.of_mem_zip hp).2
              refine ⟨[some (.tup xs), some (.tup ys), some p.1, some p.2], by simp [setT, setAll, wipeM], ?_, by simp [wipeM], by simp⟩
              exact call2_pl (okJ_pl hx) (pOk_pl hy) rfl rfl (hs _ _ hx hy)) (by rw [sizeLine_eq, List.length_map, List.length_zip]; omega)
          rw [List.map_map] at this
          exact this
        have ba := ball_map (fun p : MV × MV => jB n p.1 p.2) (xs.zip ys)
        have l1 := lc (mRec 4 [] m_ljust (n + 1)) fun x y hx hy => (just_any n x y hx hy).1
        have l2 := lc (mRec 4 [] m_pis_just (n + 1)) fun x y hx hy => (just_any n x y hx hy).2
        generalize (xs.zip ys).map (fun p => MV.bl (jB n p.1 p.2)) = L at *
        generalize (xs.zip ys).all (fun p => jB n p.1 p.2) = b at *
        constructor
        · refine mFn_ok ?_
          simp [m_ljust, bIsi, MV.kd, kdOf, Kd.isa, sx, sy, hl, l1, ba]
        · refine mFn_ok ?_
          simp [m_pis_just, bIsi, MV.kd, kdOf, Kd.isa, sx, sy, hl, l2, ba]
      · have jb : jB (n + 1) (.tup xs) (.tup ys) = false := by
          show (decide (xs.length = ys.length) && _) = _
          rw [decide_eq_false hl]; rfl
        rw [jb]
        have hl' : ¬ ((xs.length : Int) = ys.length) := by omega
        constructor
        · refine mFn_ok ?_
          simp [m_ljust, bIsi, MV.kd, kdOf, Kd.isa, sx, sy, hl, hl']
        · refine mFn_ok ?_
          simp [m_pis_just, bIsi, MV.kd, kdOf, Kd.isa, sx, sy, hl, hl']
    · have jb : jB (n + 1) F (.tup ys) = false := by
        cases F <;> first | rfl | exact absurd ⟨_, rfl⟩ hT
      rw [jb]
      constructor
      · refine mFn_ok ?_
        cases F <;> first | (exfalso; exact hT ⟨_, rfl⟩) | (exfalso; simp [okJ] at hF; done) | simp [m_ljust, bIsi, MV.kd, kdOf, Kd.isa]
      · refine mFn_ok ?_
        cases F <;> first | (exfalso; exact hT ⟨_, rfl⟩) | (exfalso; simp [okJ] at hF; done) | simp [m_pis_just, bIsi, MV.kd, kdOf, Kd.isa]
  | n, F, .non, _, h => by cases n <;> simp [pOk] at h
  | n, F, .lst _, _, h => by cases n <;> simp [pOk] at h
  | n, F, .own _, _, h => by cases n <;> simp [pOk] at h
  | n, F, .raw _, _, h => by cases n <;> simp [pOk] at h
  | n, F, .scr _, _, h => by cases n <;> simp [pOk] at h
  | n, F, .fnc _, _, h => by cases n <;> simp [pOk] at h
  | n, F, .obj _ _, _, h => by cases n <;> simp [pOk] at h
  | n, F, .dct _ _, _, h => by cases n <;> simp [pOk] at h
  | n, F, .dow _ _, _, h => by cases n <;> simp [pOk] at h
  | n, F, .dot _ _, _, h => by cases n <;> simp [pOk] at h
def vP : MV → List Nat → Prop
  | _, [] => True
  | .tup xs, i :: q => i < xs.length ∧ vP (xs.getD i .non) q
  | _, _ :: _ => False
def subP : MV → List Nat → MV
  | x, [] => x
  | .tup xs, i :: q => subP (xs.getD i .non) q
  | _, _ :: _ => .non
def putP : MV → List Nat → MV → MV
  | _, [], y => y
  | .tup xs, i :: q, y => .tup (xs.take i ++ putP (xs.getD i .non) q y :: xs.drop (i + 1))
  | x, _ :: _, _ => x
theorem vP_cons {P : MV} {i : Nat} {q : List Nat} (h : vP P (i :: q)) : ∃ xs, P = .tup xs ∧ i < xs.length ∧ vP (xs.getD i .non) q := by
  cases P <;> first | exact ⟨_, rfl, h.1, h.2⟩ | exact h.elim
theorem getD_mem {xs : List MV} {i : Nat} (h : i < xs.length) : xs.getD i .non ∈ xs := by
  rw [List.getD_eq_getElem?_getD, List.getElem?_eq_getElem h]
  exact List.getElem_mem h
theorem atI_nat {xs : List MV} {i : Nat} (h : i < xs.length) : atI xs (i : Int) = some (xs.getD i .non) := by
  rw [atI_ge (by omega), Int.toNat_natCast, List.getD_eq_getElem?_getD, List.getElem?_eq_getElem h]; rfl
theorem part_loop (x1 : Option MV) : ∀ (q : List Nat) (P : MV) (z : Option MV), vP P q → ∃ z', mLoop (gSet 2) b_lpart_at_0 (encC q) [some P, x1, z] = .ok (.nx, [some (subP P q), x1, z'])
  | [], P, z, _ => ⟨z, by cases P <;> rfl⟩
  | i :: q, P, z, h => by
    obtain ⟨xs, rfl, h1, h2⟩ := vP_cons h
    obtain ⟨z', e⟩ := part_loop x1 q (xs.getD i .non) (some (.int i)) h2
    refine ⟨z', ?_⟩
    have a := atI_nat h1
    have st : mLoop (gSet 2) b_lpart_at_0 (encC (i :: q)) [some (.tup xs), x1, z] = (b_lpart_at_0 [some (.tup xs), x1, some (.int i)]).bind fun f' ρ2 => match f' with
        | .nx => mLoop (gSet 2) b_lpart_at_0 (encC q) ρ2
        | .ct => mLoop (gSet 2) b_lpart_at_0 (encC q) ρ2
        | .br => .ok (.nx, ρ2)
        | .rt v => .ok (.rt v, ρ2) := rfl
    have bd : b_lpart_at_0 [some (.tup xs), x1, some (.int i)] = .ok (.nx, [some (xs.getD i .non), x1, some (.int i)]) := by
      generalize xs.getD i .non = y at *
      simp [b_lpart_at_0, a]
    rw [st, bd]
    exact e
theorem sub_ok : ∀ (q : List Nat) (n : Nat) (P : MV), pOk n P = true → vP P q → ∃ m, m + q.length ≤ n ∧ pOk m (subP P q) = true
  | [], n, P, h, _ => ⟨n, by simp, by cases P <;> exact h⟩
  | i :: q, n, P, h, hv => by
    obtain ⟨xs, rfl, h1, h2⟩ := vP_cons hv
    cases n with
    | zero => simp [pOk] at h
    | succ n =>
      simp only [pOk, Bool.and_eq_true, decide_eq_true_eq, List.all_eq_true] at h
      obtain ⟨m, hm, e⟩ := sub_ok q n _ (h.1 _ (getD_mem h1)) h2
      exact ⟨m, by simp; omega, e⟩
theorem part_at_ok {n : Nat} {P : MV} {q : List Nat} (h : pOk n P = true) (hv : vP P q) : f_lpart_at [P, .tup (encC q)] = .ok (subP P q, []) := by
  obtain ⟨m, _, hm⟩ := sub_ok q n P h hv
  have hp := pOk_pl hm
  obtain ⟨z', e⟩ := part_loop (some (.tup (encC q))) q P none hv
  refine mFn_ok ?_
  generalize encC q = E at *
  refine ⟨[some (subP P q), some (.tup E), z'], seq_nx (ρ1 := [some (subP P q), some (.tup E), z']) ?_ ?_⟩
  · show mFor (mItV (mVar 1)) (gSet 2) b_lpart_at_0 [some P, some (.tup E), none] = _
    simp [e]
  · unfold mRet
    rw [mVar_pl hp rfl]
    rfl
theorem put_len : ∀ (xs : List MV) (i : Nat) (y : MV), i < xs.length → (xs.take i ++ y :: xs.drop (i + 1)).length = xs.length := fun xs i y h => by
  rw [List.length_append, List.length_cons, List.length_take, List.length_drop]; omega
theorem put_ok : ∀ (q : List Nat) (n m N : Nat) (P y : MV), okJ n P = true → vP P q → okJ m y = true → n ≤ N → q.length + m ≤ N → okJ N (putP P q y) = true
  | [], n, m, N, P, y, _, _, hy, _, h => by
    have : putP P [] y = y := by cases P <;> rfl
    rw [this]
    exact okJ_le (by simpa using h) hy
  | i :: q, n, m, N, P, y, hP, hv, hy, h1, h2 => by
    obtain ⟨xs, rfl, hi, hv2⟩ := vP_cons hv
    rw [List.length_cons] at h2
    cases n with
    | zero => simp [okJ] at hP
    | succ n =>
      obtain ⟨N, rfl⟩ : ∃ M, N = M + 1 := ⟨N - 1, by omega⟩
      simp only [okJ, Bool.and_eq_true, decide_eq_true_eq, List.all_eq_true] at hP
      have ih := put_ok q n m N _ y (hP.1 _ (getD_mem hi)) hv2 hy (by omega) (by omega)
      show (_ && _) = true
      rw [Bool.and_eq_true, decide_eq_true_eq, put_len xs i _ hi, List.all_eq_true]
      refine ⟨fun x hx => ?_, hP.2⟩
      rcases List.mem_append.mp hx with hx | hx
      · exact okJ_le (by omega) (hP.1 x (List.mem_of_mem_take hx))
      · rcases List.mem_cons.mp hx with rfl | hx
        · exact ih
        · exact okJ_le (by omega) (hP.1 x (List.mem_of_mem_drop hx))
theorem put_in_ok : ∀ (q : List Nat) (k n m : Nat) (P y : MV), q.length ≤ k → okJ n P = true → vP P q → okJ m y = true → (q ++ [0]).length ≤ 100 → mRec 4 [] m_lput_in (k + 1) [P, .tup (encC q), y] = .ok (putP P q y, [])
  | [], k, n, m, P, y, _, hP, _, hy, _ => by
    refine mFn_ok ?_
    have e0 : encC ([] : List Nat) = [] := rfl
    have : putP P [] y = y := by cases P <;> rfl
    rw [e0, this]
    cases y <;> first | (exfalso; cases m <;> simp [okJ] at hy; done) | simp [m_lput_in, szOk_small]
  | i :: q, 0, n, m, P, y, h, _, _, _, _ => by simp at h
  | i :: q, k + 1, n, m, P, y, hk, hP, hv, hy, hq => by
    obtain ⟨xs, rfl, hi, hv2⟩ := vP_cons hv
    cases n with
    | zero => simp [okJ] at hP
    | succ n =>
      simp only [okJ, Bool.and_eq_true, decide_eq_true_eq, List.all_eq_true] at hP
      have hc := hP.1 _ (getD_mem hi)
      have ih := put_in_ok q k n m _ y (by simpa using hk) hc hv2 hy (by simp at hq ⊢; omega)
      have ho := put_ok q n m (n + q.length + m) _ y hc hv2 hy (by omega) (by omega)
      have hfz := fz_pl (okJ_pl ho)
      have a := atI_nat hi
      have c1 : cutM xs none (some (i : Int)) = xs.take i := by rw [cutM_to (by omega), Int.toNat_natCast]
      have c2 : cutM xs (some ((i : Int) + 1)) none = xs.drop (i + 1) := by rw [cutM_from (by omega)]; rfl
      have c3 : cutM (encC (i :: q)) (some 1) none = encC q := by rw [cutM_from (by decide)]; rfl
      have c0 : atI (encC (i :: q)) 0 = some (.int i) := by simp [encC]
      have el : (encC (i :: q)).length = q.length + 1 := by rw [encC_len, List.length_cons]
      have l1 : (xs.take i).length = i := by rw [List.length_take]; omega
      have l2 : (xs.drop (i + 1)).length = xs.length - (i + 1) := by rw [List.length_drop]
      have s1 : szOk (i + 1) = true := szOk_small (by omega)
      have s2 : szOk (i + 1 + (xs.length - (i + 1))) = true := szOk_small (by omega)
      have s3 : szOk (q.length + 1) = true := szOk_small (by simp at hq; omega)
      have nz : ¬ ((q.length : Int) + 1 = 0) := by omega
      have epu : putP (.tup xs) (i :: q) y = .tup (xs.take i ++ putP (xs.getD i .non) q y :: xs.drop (i + 1)) := rfl
      rw [epu]
      refine mFn_ok ?_
      generalize xs.getD i .non = z at *
      generalize putP z q y = w at *
      generalize encC (i :: q) = E at *
      generalize encC q = Eq at *
      generalize xs.take i = T1 at *
      generalize xs.drop (i + 1) = T2 at *
      cases y <;> first | (exfalso; cases m <;> simp [okJ] at hy; done) | simp [m_lput_in, szOk_small, el, s3, nz, c0, c1, c2, c3, a, ih, hfz, l1, l2, s1, s2]
def cellsP : Nat → MV → List (List Nat)
  | n + 1, .tup xs => (List.range xs.length).flatMap fun i => (cellsP n (xs.getD i .non)).map (i :: ·)
  | _, _ => [[]]
def tupsP : Nat → MV → List (List Nat)
  | n + 1, .tup xs => if xs = [] then [] else [] :: (List.range xs.length).flatMap fun i => (tupsP n (xs.getD i .non)).map (i :: ·)
  | _, _ => []
theorem pw_pos (b : Nat) : ∀ n, 0 < b → 0 < b ^ n
  | 0, _ => by simp
  | n + 1, h => by rw [Nat.pow_succ]; exact Nat.mul_pos (pw_pos b n h) h
theorem flatP_len {α : Type} (f : Nat → List α) (B : Nat) : ∀ k, (∀ i, i < k → (f i).length ≤ B) → ((List.range k).flatMap f).length ≤ k * B
  | 0, _ => by simp
  | k + 1, h => by
    have ih := flatP_len f B k fun i hi => h i (by omega)
    have := h k (by omega)
    rw [List.range_succ, List.flatMap_append, List.length_append, List.flatMap_cons, List.flatMap_nil, List.append_nil, Nat.succ_mul]
    omega
theorem cellsP_len : ∀ (n : Nat) (P : MV), pOk n P = true → (cellsP n P).length ≤ 20 ^ n
  | 0, P, h => by cases P <;> first | (simp [pOk] at h; done) | simp [cellsP]
  | n + 1, P, h => by
    cases P <;> first | (exfalso; simp [pOk] at h; done) | skip
    · rename_i b; simp [cellsP]; exact pw_pos 20 _ (by decide)
    · rename_i b; simp [cellsP]; exact pw_pos 20 _ (by decide)
    · rename_i b; simp [cellsP]; exact pw_pos 20 _ (by decide)
    · rename_i xs
      simp only [pOk, Bool.and_eq_true, decide_eq_true_eq, List.all_eq_true] at h
      have := flatP_len (fun i => (cellsP n (xs.getD i .non)).map (i :: ·)) (20 ^ n) xs.length fun i hi => by
        rw [List.length_map]
        exact cellsP_len n _ (h.1 _ (getD_mem hi))
      rw [Nat.pow_succ]
      have h2 : xs.length * 20 ^ n ≤ 20 * 20 ^ n := Nat.mul_le_mul_right _ h.2
      show ((List.range xs.length).flatMap fun i => (cellsP n (xs.getD i .non)).map (i :: ·)).length ≤ _
      omega
theorem tupsP_len : ∀ (n : Nat) (P : MV), pOk n P = true → (tupsP n P).length ≤ 21 ^ n
  | 0, P, h => by cases P <;> first | (simp [pOk] at h; done) | simp [tupsP]
  | n + 1, P, h => by
    cases P <;> first | (exfalso; simp [pOk] at h; done) | skip
    · simp [tupsP]
    · simp [tupsP]
    · simp [tupsP]
    · rename_i xs
      simp only [pOk, Bool.and_eq_true, decide_eq_true_eq, List.all_eq_true] at h
      have := flatP_len (fun i => (tupsP n (xs.getD i .non)).map (i :: ·)) (21 ^ n) xs.length fun i hi => by
        rw [List.length_map]
        exact tupsP_len n _ (h.1 _ (getD_mem hi))
      rw [Nat.pow_succ]
      have h2 : xs.length * 21 ^ n ≤ 20 * 21 ^ n := Nat.mul_le_mul_right _ h.2
      have h3 : 1 ≤ 21 ^ n := pw_pos 21 _ (by decide)
      unfold tupsP
      split
      · simp
      · rw [List.length_cons]; omega
theorem cellsP_ok : ∀ (n : Nat) (P : MV), pOk n P = true → ∀ q ∈ cellsP n P, vP P q ∧ q.length ≤ n ∧ ∀ xs, subP P q ≠ .tup xs
  | n, .int i, h, q, hq => by
    have : q = [] := by cases n <;> simpa [cellsP] using hq
    subst this
    exact ⟨trivial, by simp, fun xs => by simp [subP]⟩
  | n, .bl i, h, q, hq => by
    have : q = [] := by cases n <;> simpa [cellsP] using hq
    subst this
    exact ⟨trivial, by simp, fun xs => by simp [subP]⟩
  | n, .str i, h, q, hq => by
    have : q = [] := by cases n <;> simpa [cellsP] using hq
    subst this
    exact ⟨trivial, by simp, fun xs => by simp [subP]⟩
  | 0, .tup xs, h, _, _ => by simp [pOk] at h
  | n + 1, .tup xs, h, q, hq => by
    simp only [pOk, Bool.and_eq_true, decide_eq_true_eq, List.all_eq_true] at h
    have hq : q ∈ (List.range xs.length).flatMap fun i => (cellsP n (xs.getD i .non)).map (i :: ·) := hq
    obtain ⟨i, hi, hq⟩ := List.mem_flatMap.mp hq
    obtain ⟨q2, hq2, rfl⟩ := List.mem_map.mp hq
    have hi := List.mem_range.mp hi
    obtain ⟨a, b, c⟩ := cellsP_ok n _ (h.1 _ (getD_mem hi)) q2 hq2
    exact ⟨⟨hi, a⟩, by simp; omega, c⟩
  | n, .non, h, _, _ => by cases n <;> simp [pOk] at h
  | n, .lst _, h, _, _ => by cases n <;> simp [pOk] at h
  | n, .own _, h, _, _ => by cases n <;> simp [pOk] at h
  | n, .raw _, h, _, _ => by cases n <;> simp [pOk] at h
  | n, .scr _, h, _, _ => by cases n <;> simp [pOk] at h
  | n, .fnc _, h, _, _ => by cases n <;> simp [pOk] at h
  | n, .obj _ _, h, _, _ => by cases n <;> simp [pOk] at h
  | n, .dct _ _, h, _, _ => by cases n <;> simp [pOk] at h
  | n, .dow _ _, h, _, _ => by cases n <;> simp [pOk] at h
  | n, .dot _ _, h, _, _ => by cases n <;> simp [pOk] at h
theorem tupsP_ok : ∀ (n : Nat) (P : MV), pOk n P = true → ∀ q ∈ tupsP n P, vP P q ∧ q.length ≤ n ∧ ∃ xs, subP P q = .tup xs ∧ xs ≠ []
  | 0, P, h, q, hq => by cases P <;> simp [tupsP] at hq
  | n + 1, P, h, q, hq => by
    cases P <;> first | (exfalso; simp [tupsP] at hq; done) | skip
    rename_i xs
    simp only [pOk, Bool.and_eq_true, decide_eq_true_eq, List.all_eq_true] at h
    unfold tupsP at hq
    split at hq
    · simp at hq
    · rename_i hne
      rcases List.mem_cons.mp hq with rfl | hq
      · exact ⟨trivial, by simp, xs, rfl, hne⟩
      · obtain ⟨i, hi, hq⟩ := List.mem_flatMap.mp hq
        obtain ⟨q2, hq2, rfl⟩ := List.mem_map.mp hq
        have hi := List.mem_range.mp hi
        obtain ⟨a, b, c⟩ := tupsP_ok n _ (h.1 _ (getD_mem hi)) q2 hq2
        exact ⟨⟨hi, a⟩, by simp; omega, c⟩
theorem found_loop (b : MF → MS) (hb : ∀ self, b self = mDrop (mLm lmExtend 2 (mCons (mFz (mCall self (mCons (mVar 4) (mCons (mOp fAdd (mVar 1) (mTup (mCons (mVar 3) (mNil)))) (mNil))))) (mNil)))) (self : MF) (x0 : Option MV) (p : List Nat) (hp : p.length ≤ 90) (R : Nat → List MV) (B : Nat) :
    ∀ (ys : List MV) (k : Nat) (acc : List MV) (z3 z4 : Option MV), (∀ j y, ys[j]? = some y → (∃ n, okJ n y = true) ∧ (R (k + j)).length ≤ B ∧ ∃ V, fz V = some (.lst (R (k + j))) ∧ self [y, .tup (encC p ++ [.int ((k + j : Nat) : Int)])] = .ok (V, [])) → acc.length + ys.length * B ≤ 16777216 →
    ∃ y3 y4, mLoop (gTp 2 (gsCons (gSet 3) (gsCons (gSet 4) gsNil))) (b self) (enumK k ys) [x0, some (.tup (encC p)), some (.own acc), z3, z4] = .ok (.nx, [x0, some (.tup (encC p)), some (.own (acc ++ (List.range ys.length).flatMap fun j => R (k + j))), y3, y4])
  | [], k, acc, z3, z4, _, _ => ⟨z3, z4, by simp [enumK]; rfl⟩
  | y :: ys, k, acc, z3, z4, h, hB => by
    obtain ⟨⟨n, hy⟩, hl, V, v1, v2⟩ := h 0 y rfl
    rw [Nat.add_zero] at hl v1 v2
    rw [List.length_cons, Nat.succ_mul] at hB
    obtain ⟨y3, y4, ih⟩ := found_loop b hb self x0 p hp R B ys (k + 1) (acc ++ R k) (some (.int (k : Nat))) (some y) (fun j z hz => by
      have := h (j + 1) z (by simpa using hz)
      rw [show k + (j + 1) = k + 1 + j by omega] at this
      exact this) (by rw [List.length_append]; omega)
    refine ⟨y3, y4, ?_⟩
    have st : mLoop (gTp 2 (gsCons (gSet 3) (gsCons (gSet 4) gsNil))) (b self) (enumK k (y :: ys)) [x0, some (.tup (encC p)), some (.own acc), z3, z4] = (b self [x0, some (.tup (encC p)), some (.own acc), some (.int (k : Nat)), some y]).bind fun f' ρ2 => match f' with
        | .nx => mLoop (gTp 2 (gsCons (gSet 3) (gsCons (gSet 4) gsNil))) (b self) (enumK (k + 1) ys) ρ2
        | .ct => mLoop (gTp 2 (gsCons (gSet 3) (gsCons (gSet 4) gsNil))) (b self) (enumK (k + 1) ys) ρ2
        | .br => .ok (.nx, ρ2)
        | .rt v => .ok (.rt v, ρ2) := rfl
    have bd : b self [x0, some (.tup (encC p)), some (.own acc), some (.int (k : Nat)), some y] = .ok (.nx, [x0, some (.tup (encC p)), some (.own (acc ++ R k)), some (.int (k : Nat)), some y]) := by
      rw [hb]
      have el : (encC p).length = p.length := encC_len p
      have s1 : szOk (p.length + 1) = true := szOk_small (by omega)
      have s2 : szOk (acc.length + (R k).length) = true := szOk_iff.mpr (by rw [sizeLine_eq]; omega)
      generalize encC p = E at *
      generalize R k = Rk at *
      cases y <;> first | (exfalso; cases n <;> simp [okJ] at hy; done) | simp [szOk_small, el, s1, v1, v2, lmExtend, s2, isOwn]
    rw [st, bd]
    simp only [Res.bind]
    rw [ih]
    have fe : (fun j => R (k + 1 + j)) = fun j => R (k + Nat.succ j) := funext fun j => by rw [show k + 1 + j = k + Nat.succ j by omega]
    have ef : (List.range (y :: ys).length).flatMap (fun j => R (k + j)) = R k ++ (List.range ys.length).flatMap fun j => R (k + 1 + j) := by
      rw [List.length_cons, List.range_succ_eq_map, List.flatMap_cons, List.flatMap_map, Nat.add_zero, fe]
    rw [ef, List.append_assoc]
def pathM (p q : List Nat) : MV := .tup (encC (p ++ q))
theorem get_sub {xs : List MV} {j : Nat} {y : MV} (h : xs[j]? = some y) : y = xs.getD j .non ∧ y ∈ xs := by
  refine ⟨?_, List.mem_of_getElem? h⟩
  rw [List.getD_eq_getElem?_getD, h]; rfl
theorem cells_found (k : Nat) : ∀ (n : Nat), n ≤ 5 → ∀ (P : MV) (p : List Nat), pOk n P = true → p.length + n ≤ 80 → ∃ V, fz V = some (.lst ((cellsP n P).map (pathM p))) ∧ mRec 5 [] m_lpaper_cells (k + n + 1) [P, .tup (encC p)] = .ok (V, [])
  | n, hn, P, p, hP, hp => by
    by_cases hT : ∃ xs, P = .tup xs
    · obtain ⟨xs, rfl⟩ := hT
      cases n with
      | zero => simp [pOk] at hP
      | succ n =>
        have hP' := hP
        simp only [pOk, Bool.and_eq_true, decide_eq_true_eq, List.all_eq_true] at hP
        have cl : 20 ^ n ≤ 160000 := Nat.le_trans (Nat.pow_le_pow_right (by decide) (show n ≤ 4 by omega)) (by decide)
        obtain ⟨y3, y4, e⟩ := found_loop b_lpaper_cells_0 (fun _ => rfl) (mRec 5 [] m_lpaper_cells (k + n + 1)) (some (.tup xs)) p (by omega) (fun j => (cellsP n (xs.getD j .non)).map (pathM (p ++ [j]))) (20 ^ n) xs 0 [] none none (by
          intro j y hy
          obtain ⟨rfl, hm⟩ := get_sub hy
          rw [Nat.zero_add]
          have ok := hP.1 _ hm
          refine ⟨⟨n, pOk_okJ n _ ok⟩, by rw [List.length_map]; exact cellsP_len n _ ok, ?_⟩
          obtain ⟨V, v1, v2⟩ := cells_found k n (by omega) _ (p ++ [j]) ok (by simp; omega)
          refine ⟨V, v1, ?_⟩
          rw [show encC p ++ [MV.int (j : Int)] = encC (p ++ [j]) by unfold encC; rw [List.map_append]; rfl]
          exact v2) (by
          simp only [List.length_nil]
          have : xs.length * 20 ^ n ≤ 20 * 160000 := Nat.mul_le_mul hP.2 cl
          generalize xs.length * 20 ^ n = t at *
          omega)
        have ec : (List.range xs.length).flatMap (fun j => (cellsP n (xs.getD (0 + j) .non)).map (pathM (p ++ [0 + j]))) = (cellsP (n + 1) (.tup xs)).map (pathM p) := by
          show _ = ((List.range xs.length).flatMap fun i => (cellsP n (xs.getD i .non)).map (i :: ·)).map (pathM p)
          rw [List.map_flatMap]
          congr 1
          funext j
          rw [List.map_map, Nat.zero_add]
          congr 1
          funext q
          show MV.tup (encC (p ++ [j] ++ q)) = .tup (encC (p ++ j :: q))
          rw [List.append_assoc]; rfl
        rw [ec, List.nil_append] at e
        rw [show k + n + 1 = k + (n + 1) from rfl] at e
        refine ⟨.own ((cellsP (n + 1) (.tup xs)).map (pathM p)), rfl, ?_⟩
        refine mFn_ok ?_
        generalize (cellsP (n + 1) (.tup xs)).map (pathM p) = L at *
        generalize encC p = E at *
        simp [m_lpaper_cells, bIsi, MV.kd, kdOf, Kd.isa, szOk_small, e]
    · have ec : cellsP n P = [[]] := by
        cases P <;> first | (cases n <;> rfl) | exact absurd ⟨_, rfl⟩ hT
      refine ⟨.lst [pathM p []], by rw [ec]; rfl, ?_⟩
      refine mFn_ok ?_
      have ep : pathM p [] = .tup (encC p) := by unfold pathM; rw [List.append_nil]
      rw [ep]
      generalize encC p = E at *
      cases P <;> first | (exfalso; exact hT ⟨_, rfl⟩) | (exfalso; cases n <;> simp [pOk] at hP; done) | simp [m_lpaper_cells, bIsi, MV.kd, kdOf, Kd.isa, szOk_small]
theorem tups_found (k : Nat) : ∀ (n : Nat), n ≤ 5 → ∀ (P : MV) (p : List Nat), pOk n P = true → p.length + n ≤ 80 → mRec 5 [] m_lpaper_tuples (k + n + 1) [P, .tup (encC p)] = .ok (.own ((tupsP n P).map (pathM p)), [])
  | n, hn, P, p, hP, hp => by
    by_cases hT : ∃ xs, P = .tup xs
    · obtain ⟨xs, rfl⟩ := hT
      cases n with
      | zero => simp [pOk] at hP
      | succ n =>
        simp only [pOk, Bool.and_eq_true, decide_eq_true_eq, List.all_eq_true] at hP
        have cl : 21 ^ n ≤ 194481 := Nat.le_trans (Nat.pow_le_pow_right (by decide) (show n ≤ 4 by omega)) (by decide)
        have ep : pathM p [] = .tup (encC p) := by unfold pathM; rw [List.append_nil]
        by_cases hne : xs = []
        · subst hne
          have : tupsP (n + 1) (.tup []) = [] := by simp [tupsP]
          rw [this]
          refine mFn_ok ?_
          generalize encC p = E at *
          simp [m_lpaper_tuples, bIsi, MV.kd, kdOf, Kd.isa, szOk_small]
        · obtain ⟨y3, y4, e⟩ := found_loop b_lpaper_tuples_0 (fun _ => rfl) (mRec 5 [] m_lpaper_tuples (k + n + 1)) (some (.tup xs)) p (by omega) (fun j => (tupsP n (xs.getD j .non)).map (pathM (p ++ [j]))) (21 ^ n) xs 0 [.tup (encC p)] none none (by
            intro j y hy
            obtain ⟨rfl, hm⟩ := get_sub hy
            rw [Nat.zero_add]
            have ok := hP.1 _ hm
            refine ⟨⟨n, pOk_okJ n _ ok⟩, by rw [List.length_map]; exact tupsP_len n _ ok, ?_⟩
            refine ⟨.own ((tupsP n (xs.getD j .non)).map (pathM (p ++ [j]))), rfl, ?_⟩
            rw [show encC p ++ [MV.int (j : Int)] = encC (p ++ [j]) by unfold encC; rw [List.map_append]; rfl]
            exact tups_found k n (by omega) _ (p ++ [j]) ok (by simp; omega)) (by
            simp only [List.length_cons, List.length_nil]
            have : xs.length * 21 ^ n ≤ 20 * 194481 := Nat.mul_le_mul hP.2 cl
            generalize xs.length * 21 ^ n = t at *
            omega)
          have ec : [MV.tup (encC p)] ++ (List.range xs.length).flatMap (fun j => (tupsP n (xs.getD (0 + j) .non)).map (pathM (p ++ [0 + j]))) = (tupsP (n + 1) (.tup xs)).map (pathM p) := by
            rw [show tupsP (n + 1) (.tup xs) = [] :: (List.range xs.length).flatMap fun i => (tupsP n (xs.getD i .non)).map (i :: ·) from if_neg hne, List.map_cons, ep, List.map_flatMap, List.singleton_append]
            congr 2
            funext j
            rw [List.map_map, Nat.zero_add]
            congr 1
            funext q
            show MV.tup (encC (p ++ [j] ++ q)) = .tup (encC (p ++ j :: q))
            rw [List.append_assoc]; rfl
          rw [ec] at e
          rw [show k + n + 1 = k + (n + 1) from rfl] at e
          have hx' : 0 < xs.length := by
            have : xs.length ≠ 0 := fun h => hne (List.length_eq_zero_iff.mp h)
            omega
          refine mFn_ok ?_
          have hx : (0 : Int) < (xs.length : Int) := by
            have : xs.length ≠ 0 := fun h => hne (List.length_eq_zero_iff.mp h)
            omega
          have sx : szOk xs.length = true := szOk_small (by omega)
          have h1 : 0 < sizeLine := by rw [sizeLine_eq]; decide
          generalize (tupsP (n + 1) (.tup xs)).map (pathM p) = L at *
          generalize encC p = E at *
          simp [m_lpaper_tuples, bIsi, MV.kd, kdOf, Kd.isa, szOk_small, e, hx, hx', sx, h1]
    · have ec : tupsP n P = [] := by
        cases P <;> first | (cases n <;> rfl) | exact absurd ⟨_, rfl⟩ hT
      rw [ec]
      refine mFn_ok ?_
      generalize encC p = E at *
      cases P <;> first | (exfalso; exact hT ⟨_, rfl⟩) | (exfalso; cases n <;> simp [pOk] at hP; done) | simp [m_lpaper_tuples, bIsi, MV.kd, kdOf, Kd.isa, szOk_small]
theorem at_all {m : Nat} {L : List MV} (h : L.all (okJ m) = true) {i : Int} (h0 : 0 ≤ i) (h1 : i < L.length) : ∃ v, atI L i = some v ∧ okJ m v = true := by
  have hi : i.toNat < L.length := by omega
  refine ⟨L[i.toNat], ?_, List.all_eq_true.mp h _ (List.getElem_mem hi)⟩
  rw [atI_ge h0, List.getElem?_eq_getElem hi]
theorem lchanged_ok {n : Nat} {x : MV} (h : pOk n x = true) (hT : ∀ xs, x ≠ .tup xs) (way num : Int) (hw : 0 ≤ way) (hn : 0 ≤ num ∧ num < 1000) : ∃ v, okJ (n + 1) v = true ∧ f_lchanged [x, .int way, .int num] = .ok (v, []) := by
  have f1 := fmod_ge' (a := num) (show (0 : Int) < 12 by decide)
  have f2 := fmod_lt' (a := num) (show (0 : Int) < 12 by decide)
  have d12 : divOk 12 = true := by decide
  cases x <;> first | (exfalso; cases n <;> simp [pOk] at h; done) | (exfalso; exact hT _ rfl) | skip
  · rename_i b
    cases b
    · by_cases w3 : 3 < way
      · obtain ⟨v, e, hv⟩ := @at_all (n + 1) [.non, .bl true, .bl false, .str "none", .str "nine", .str "carry", .tup [], .tup [.bl false], .int (-1), .int 0, .int 1, .str "False"] (by cases n <;> simp [okJ]) (num.fmod 12) f1 (by simp; omega)
        refine ⟨v, hv, mFn_ok ?_⟩
        simp [m_lchanged, szOk_small, w3, d12, e]
      · obtain ⟨v, e, hv⟩ := @at_all (n + 1) [.bl true, .int 0, .bl true, .int 1] (by simp [okJ]) way hw (by simp; omega)
        refine ⟨v, hv, mFn_ok ?_⟩
        simp [m_lchanged, szOk_small, w3, d12, e, bIsi, MV.kd, kdOf, Kd.isa]
    · by_cases w3 : 3 < way
      · obtain ⟨v, e, hv⟩ := @at_all (n + 1) [.non, .bl true, .bl false, .str "none", .str "nine", .str "carry", .tup [], .tup [.bl true], .int (-1), .int 0, .int 1, .str "True"] (by cases n <;> simp [okJ]) (num.fmod 12) f1 (by simp; omega)
        refine ⟨v, hv, mFn_ok ?_⟩
        simp [m_lchanged, szOk_small, w3, d12, e]
      · obtain ⟨v, e, hv⟩ := @at_all (n + 1) [.bl false, .int 1, .bl false, .int 0] (by simp [okJ]) way hw (by simp; omega)
        refine ⟨v, hv, mFn_ok ?_⟩
        simp [m_lchanged, szOk_small, w3, d12, e, bIsi, MV.kd, kdOf, Kd.isa]
  · rename_i i
    have lg : i.natAbs.log2 < 1920 := by
      have : i.natAbs.log2 < 1900 := by cases n <;> simpa [pOk] using h
      omega
    by_cases w3 : 3 < way
    · obtain ⟨v, e, hv⟩ := @at_all (n + 1) [.non, .bl true, .bl false, .str "none", .str "nine", .str "carry", .tup [], .tup [.int i], .int (-1), .int 0, .int 1, .str (toString i)] (by cases n <;> simp [okJ]) (num.fmod 12) f1 (by simp; omega)
      refine ⟨v, hv, mFn_ok ?_⟩
      rw [show (toString i : String) = i.repr from rfl] at e
      simp [m_lchanged, szOk_small, w3, d12, e, lg]
    · obtain ⟨j, e⟩ : ∃ j : Int, atI [MV.int 1, .int (-1), .int (1 + num), .int 10] way = some (.int j) := by
        rcases (show way = 0 ∨ way = 1 ∨ way = 2 ∨ way = 3 by omega) with rfl | rfl | rfl | rfl
        · exact ⟨_, rfl⟩
        · exact ⟨_, rfl⟩
        · exact ⟨_, rfl⟩
        · exact ⟨_, rfl⟩
      refine ⟨.int (i + j), by rfl, mFn_ok ?_⟩
      simp [m_lchanged, szOk_small, w3, d12, e, lg, bIsi, MV.kd, kdOf, Kd.isa]
  · rename_i s
    obtain ⟨v, e, hv⟩ := @at_all (n + 1) [.non, .bl true, .bl false, .str "none", .str "nine", .str "carry", .tup [], .tup [.str s], .int (-1), .int 0, .int 1, .str s] (by cases n <;> simp [okJ]) (num.fmod 12) f1 (by simp; omega)
    refine ⟨v, hv, mFn_ok ?_⟩
    by_cases w3 : 3 < way
    · simp [m_lchanged, szOk_small, w3, d12, e]
    · simp [m_lchanged, szOk_small, w3, d12, e, bIsi, MV.kd, kdOf, Kd.isa]
theorem pOk_up : ∀ (n : Nat) (x : MV), pOk n x = true → pOk (n + 1) x = true
  | n, .int i, h => by cases n <;> exact h
  | n, .bl i, _ => by cases n <;> rfl
  | n, .str i, _ => by cases n <;> rfl
  | 0, .tup xs, h => by simp [pOk] at h
  | n + 1, .tup xs, h => by
    simp only [pOk, Bool.and_eq_true, decide_eq_true_eq, List.all_eq_true] at h ⊢
    exact ⟨fun x hx => pOk_up n x (h.1 x hx), h.2⟩
  | n, .non, h => by cases n <;> simp [pOk] at h
  | n, .lst _, h => by cases n <;> simp [pOk] at h
  | n, .own _, h => by cases n <;> simp [pOk] at h
  | n, .raw _, h => by cases n <;> simp [pOk] at h
  | n, .scr _, h => by cases n <;> simp [pOk] at h
  | n, .fnc _, h => by cases n <;> simp [pOk] at h
  | n, .obj _ _, h => by cases n <;> simp [pOk] at h
  | n, .dct _ _, h => by cases n <;> simp [pOk] at h
  | n, .dow _ _, h => by cases n <;> simp [pOk] at h
  | n, .dot _ _, h => by cases n <;> simp [pOk] at h
theorem pOk_le {n m : Nat} (h : n ≤ m) {x : MV} (hx : pOk n x = true) : pOk m x = true := by
  induction h with
  | refl => exact hx
  | step _ ih => exact pOk_up _ _ ih
theorem okJ_tup {n : Nat} {xs : List MV} (h : ∀ x ∈ xs, okJ n x = true) (hl : xs.length ≤ 1000) : okJ (n + 1) (.tup xs) = true := by
  simp only [okJ, Bool.and_eq_true, decide_eq_true_eq, List.all_eq_true]
  exact ⟨h, hl⟩
theorem fmodN {a : Int} {n : Nat} (h : 0 < n) : ∃ j : Nat, j < n ∧ a.fmod (n : Int) = (j : Int) := by
  have h1 := fmod_ge' (a := a) (b := (n : Int)) (by omega)
  have h2 := fmod_lt' (a := a) (b := (n : Int)) (by omega)
  exact ⟨(a.fmod n).toNat, by omega, by omega⟩
theorem lput_in_f {q : List Nat} {n m : Nat} {P y : MV} (hq : q.length ≤ 7) (hP : okJ n P = true) (hv : vP P q) (hy : okJ m y = true) : f_lput_in [P, .tup (encC q), y] = .ok (putP P q y, []) :=
  put_in_ok q 7 n m P y hq hP hv hy (by simp; omega)
theorem path_at {L : List (List Nat)} (hne : L ≠ []) (hl : L.length ≤ 5000000) (a : Int) : ∃ q ∈ L, ∃ j : Int, a.fmod (L.length : Int) = j ∧ atI (L.map (pathM [])) j = some (.tup (encC q)) ∧ divOk (L.length : Int) = true ∧ ¬ (L.length : Int) = 0 ∧ szOk (L.map (pathM [])).length = true := by
  have h0 : 0 < L.length := by
    have : L.length ≠ 0 := fun h => hne (List.length_eq_zero_iff.mp h)
    omega
  obtain ⟨j, hj, e⟩ := @fmodN a L.length h0
  refine ⟨L[j], List.getElem_mem hj, (j : Int), e, ?_, divOk_small (by omega) (by omega), by omega, szOk_iff.mpr (by rw [List.length_map, sizeLine_eq]; omega)⟩
  rw [atI_ge (by omega), Int.toNat_natCast, List.getElem?_map, List.getElem?_eq_getElem hj]
  rfl
theorem len20 {n : Nat} (hn : n ≤ 4) : 20 ^ n ≤ 160000 := Nat.le_trans (Nat.pow_le_pow_right (by decide) hn) (by decide)
theorem len21 {n : Nat} (hn : n ≤ 4) : 21 ^ n ≤ 194481 := Nat.le_trans (Nat.pow_le_pow_right (by decide) hn) (by decide)
theorem at_allN {m : Nat} {L : List MV} {k : Nat} (h : L.all (okJ m) = true) (hk : k = L.length) (h0 : 0 < k) (a : Int) : ∃ v, atI L (a.fmod (k : Int)) = some v ∧ okJ m v = true := by
  subst hk
  obtain ⟨j, hj, e⟩ := @fmodN a L.length h0
  rw [e]
  exact at_all h (by omega) (by omega)
theorem fMulZ_n {xs : List MV} {k : Int} (h : k ≠ 0) : fMulZ (.tup xs) (.int k) = fMul (.tup xs) (.int k) := by
  unfold fMulZ
  split
  · rename_i h2
    exact absurd (MV.int.inj h2) h
  · rfl
theorem looks_alike {n : Nat} (hn : n ≤ 7) {F D : MV} (hF : okJ 7 F = true) (hD : pOk n D = true) : f_ljust [F, D] = .ok (.bl (jB 7 F D), []) ∧ f_pis_just [F, D] = .ok (.bl (jB 7 F D), []) := just_any 7 F D hF (pOk_le hn hD)
theorem spoilt_cellsN {n : Nat} (hn : n ≤ 4) {xs : List MV} (hP : pOk n (.tup xs) = true) (hc : cellsP n (.tup xs) ≠ []) (way at_ to_ num : Int) (hw : 0 ≤ way ∧ way < 6) (hnum : 0 ≤ num ∧ num < 1000) : ∃ v, okJ 7 v = true ∧ f_lpaper_spoilt [.tup xs, .int way, .int at_, .int to_, .int num, .non] = .ok (v, []) := by
  obtain ⟨V, v1, v2⟩ := cells_found (7 - n) n (by omega) (.tup xs) [] hP (by simp; omega)
  rw [show 7 - n + n + 1 = 8 by omega] at v2
  have v2 : f_lpaper_cells [.tup xs, .tup []] = .ok (V, []) := v2
  have cl := cellsP_len n _ hP
  have c2 := len20 (show n ≤ 4 by omega)
  obtain ⟨q, hq, j, ej, eq, dv, nz, sz⟩ := path_at hc (by omega) at_
  obtain ⟨hv, hql, hT⟩ := cellsP_ok n _ hP q hq
  have pa := part_at_ok hP hv
  obtain ⟨m, hm, ok⟩ := sub_ok q n _ hP hv
  obtain ⟨w, hw2, ech⟩ := lchanged_ok ok hT way num hw.1 hnum
  have pi := lput_in_f (by omega) (pOk_okJ n _ hP) hv hw2
  have po := put_ok q n (m + 1) 7 _ w (pOk_okJ n _ hP) hv hw2 (by omega) (by omega)
  have hfz := fz_pl (okJ_pl po)
  have hpl := pOk_pl ok
  have fzs := fz_pl hpl
  have fzw := fz_pl (okJ_pl hw2)
  refine ⟨_, po, mFn_ok ?_⟩
  rw [List.length_map] at sz
  generalize putP (.tup xs) q w = R at *
  generalize subP (.tup xs) q = S at *
  generalize encC q = E at *
  have ll : ((cellsP n (.tup xs)).map (pathM [])).length = (cellsP n (.tup xs)).length := List.length_map ..
  generalize (cellsP n (.tup xs)).map (pathM []) = L at *
  generalize (cellsP n (.tup xs)).length = len at *
  clear hT hv hP
  have nz2 : ¬ len = 0 := by omega
  simp [m_lpaper_spoilt, hw.2, v1, v2, ll, sz, dv, nz, nz2, ej, eq, pa, fzs, ech, fzw, pi, hfz, szOk_small]
theorem spoilt_tupsN {n : Nat} (hn : n ≤ 4) {xs : List MV} (hP : pOk n (.tup xs) = true) (hc : xs ≠ []) (way at_ to_ num : Int) (hw : way = 6 ∨ way = 7) : ∃ v, okJ 7 v = true ∧ f_lpaper_spoilt [.tup xs, .int way, .int at_, .int to_, .int num, .non] = .ok (v, []) := by
  have v2 := tups_found (7 - n) n (by omega) (.tup xs) [] hP (by simp; omega)
  rw [show 7 - n + n + 1 = 8 by omega] at v2
  have v2 : f_lpaper_tuples [.tup xs, .tup []] = .ok (.own ((tupsP n (.tup xs)).map (pathM [])), []) := v2
  have cl := tupsP_len n _ hP
  have c2 := len21 (show n ≤ 4 by omega)
  have hne : tupsP n (.tup xs) ≠ [] := by
    cases n with
    | zero => simp [pOk] at hP
    | succ n =>
      rw [show tupsP (n + 1) (.tup xs) = [] :: (List.range xs.length).flatMap fun i => (tupsP n (xs.getD i .non)).map (i :: ·) from if_neg hc]
      simp
  obtain ⟨q, hq, j, ej, eq, dv, nz, sz⟩ := path_at hne (by omega) to_
  obtain ⟨hv, hql, ys, hys, yne⟩ := tupsP_ok n _ hP q hq
  have pa := part_at_ok hP hv
  obtain ⟨m, hm, ok⟩ := sub_ok q n _ hP hv
  rw [hys] at pa ok
  cases m with
  | zero => simp [pOk] at ok
  | succ m =>
  simp only [pOk, Bool.and_eq_true, decide_eq_true_eq, List.all_eq_true] at ok
  have y0 : 0 < ys.length := by
    have : ys.length ≠ 0 := fun h => yne (List.length_eq_zero_iff.mp h)
    omega
  obtain ⟨i, hi, ei⟩ := @fmodN at_ ys.length y0
  have dy : divOk (ys.length : Int) = true := divOk_small (by omega) (by omega)
  have ny : ¬ (ys.length : Int) = 0 := by omega
  have ny2 : ¬ ys.length = 0 := by omega
  have sy : szOk ys.length = true := szOk_small (by omega)
  have ai := atI_nat hi
  have oi := pOk_okJ m _ (ok.1 _ (getD_mem hi))
  have c1 : cutM ys none (some (i : Int)) = ys.take i := by rw [cutM_to (by omega), Int.toNat_natCast]
  have c3 : cutM ys (some ((i : Int) + 1)) none = ys.drop (i + 1) := by rw [cutM_from (by omega)]; rfl
  have l1 : (ys.take i).length = i := by rw [List.length_take]; omega
  have l2 : (ys.drop (i + 1)).length = ys.length - (i + 1) := by rw [List.length_drop]
  have fin : ∀ Z : List MV, (∀ z ∈ Z, z = ys.getD i .non) → Z.length ≤ 2 → ∃ v, okJ 7 v = true ∧ f_lput_in [.tup xs, .tup (encC q), .tup (ys.take i ++ Z ++ ys.drop (i + 1))] = .ok (v, []) := fun Z hZ hl => by
    have hw2 : okJ (m + 1) (.tup (ys.take i ++ Z ++ ys.drop (i + 1))) = true := okJ_tup (fun x hx => by
      rcases List.mem_append.mp hx with hx | hx
      · rcases List.mem_append.mp hx with hx | hx
        · exact pOk_okJ m _ (ok.1 x (List.mem_of_mem_take hx))
        · rw [hZ x hx]; exact oi
      · exact pOk_okJ m _ (ok.1 x (List.mem_of_mem_drop hx))) (by rw [List.length_append, List.length_append]; omega)
    exact ⟨_, put_ok q n (m + 1) 7 _ _ (pOk_okJ n _ hP) hv hw2 (by omega) (by omega), lput_in_f (by omega) (pOk_okJ n _ hP) hv hw2⟩
  have ll : ((tupsP n (.tup xs)).map (pathM [])).length = (tupsP n (.tup xs)).length := List.length_map ..
  rw [List.length_map] at sz
  generalize hyi : ys.getD i .non = yi at *
  rcases hw with rfl | rfl
  · obtain ⟨R, ho, e⟩ := fin [] (fun z hz => by simp at hz) (by simp)
    have hfz := fz_pl (okJ_pl ho)
    have mz : fMulZ (.tup [yi]) (.int 0) = some (.tup []) := rfl
    have m6 : mulOk 2 6 = true := by decide
    refine ⟨R, ho, mFn_ok ?_⟩
    rw [List.append_nil] at e
    have s1 : szOk i = true := szOk_small (by omega)
    have s2 : szOk (i + (ys.length - (i + 1))) = true := szOk_small (by omega)
    clear fin hyi
    generalize ys.take i = T1 at *
    generalize ys.drop (i + 1) = T2 at *
    generalize encC q = E at *
    generalize (tupsP n (.tup xs)).map (pathM []) = L at *
    generalize (tupsP n (.tup xs)).length = len at *
    have nz2 : ¬ len = 0 := by omega
    have fzy := fz_pl (okJ_pl oi)
    simp [m_lpaper_spoilt, v2, ll, sz, dv, nz, nz2, ej, eq, pa, sy, dy, ny, ny2, ei, ai, c1, c3, mz, m6, l1, l2, s1, s2, e, hfz, szOk_small]
  · obtain ⟨R, ho, e⟩ := fin [yi, yi] (fun z hz => by simpa using hz) (by simp)
    have hfz := fz_pl (okJ_pl ho)
    have m6 : mulOk 2 7 = true := by decide
    have mz : fMulZ (.tup [yi]) (.int 2) = some (.tup [yi, yi]) := by
      show fMul (.tup [yi]) (.int 2) = _
      exact @fMul_tm yi 2 ⟨by decide, by decide⟩
    refine ⟨R, ho, mFn_ok ?_⟩
    have s1 : szOk (i + 2) = true := szOk_small (by omega)
    have s2 : szOk (i + 2 + (ys.length - (i + 1))) = true := szOk_small (by omega)
    clear fin hyi
    generalize ys.take i = T1 at *
    generalize ys.drop (i + 1) = T2 at *
    generalize encC q = E at *
    generalize (tupsP n (.tup xs)).map (pathM []) = L at *
    generalize (tupsP n (.tup xs)).length = len at *
    have nz2 : ¬ len = 0 := by omega
    simp at e
    simp [m_lpaper_spoilt, v2, ll, sz, dv, nz, nz2, ej, eq, pa, sy, dy, ny, ny2, ei, ai, c1, c3, mz, m6, l1, l2, s1, s2, e, hfz, szOk_small]
theorem spoilt_anyN {n : Nat} (hn : n ≤ 4) {xs : List MV} (hP : pOk n (.tup xs) = true) (hc : xs ≠ []) (at_ to_ num : Int) : ∃ v, okJ 7 v = true ∧ f_lpaper_spoilt [.tup xs, .int 8, .int at_, .int to_, .int num, .non] = .ok (v, []) := by
  have ho := okJ_le (show n ≤ 5 by omega) (pOk_okJ n _ hP)
  cases n with
  | zero => simp [pOk] at hP
  | succ n =>
  simp only [pOk, Bool.and_eq_true, decide_eq_true_eq, List.all_eq_true] at hP
  have y0 : 0 < xs.length := by
    have : xs.length ≠ 0 := fun h => hc (List.length_eq_zero_iff.mp h)
    omega
  have hr : okJ 6 (.tup xs.reverse) = true := okJ_tup (fun x hx => okJ_le (by omega) (pOk_okJ n _ (hP.1 x (List.mem_reverse.mp hx)))) (by rw [List.length_reverse]; omega)
  have hnn : okJ 6 (.tup (List.replicate xs.length .non)) = true := okJ_tup (fun x hx => by rw [List.eq_of_mem_replicate hx]; rfl) (by rw [List.length_replicate]; omega)
  have h1 : okJ 6 (.tup [.tup xs]) = true := okJ_tup (fun x hx => by
    rw [List.mem_singleton.mp hx]
    exact ho) (by simp)
  obtain ⟨v, e, hv⟩ := @at_allN 6 [.non, .tup [], .str "paper", .int 7, .tup [.tup xs], .tup xs.reverse, .bl true, .tup (List.replicate xs.length .non)] 8 (by
    simp only [List.all_cons, List.all_nil, Bool.and_true, hr, hnn, h1]
    rfl) rfl (by decide) num
  have fm : fMul (.tup [.non]) (.int (xs.length : Nat)) = some (.tup (List.replicate xs.length .non)) := fMul_tm ⟨y0, by omega⟩
  have fz' : fMulZ (.tup [.non]) (.int (xs.length : Nat)) = some (.tup (List.replicate xs.length .non)) := by
    rw [← fm]
    exact fMulZ_n (by omega)
  have sx : szOk xs.length = true := szOk_small (by omega)
  have d8 : divOk 8 = true := by decide
  have rv : fRevA (.tup xs) = some (.tup xs.reverse) := rfl
  refine ⟨v, okJ_le (by decide) hv, mFn_ok ?_⟩
  generalize xs.reverse = RX at *
  generalize List.replicate xs.length MV.non = NX at *
  simp at e
  simp [m_lpaper_spoilt, sx, fm, fz', rv, d8, e, szOk_small]
def rndP (rule : Str) (x : Int) (k : Nat) : List MV :=
  [.int ((x.natAbs / 10 ^ k : Nat) : Int), .int ((x.natAbs % 10 ^ k / 10 ^ (k - 1) : Nat) : Int), .bl (decide (0 < x.natAbs % 10 ^ k % 10 ^ (k - 1))),
   .bl (decide (x.natAbs / 10 ^ k % 2 = 1)), .bl (decide (x < 0)), .bl (decide ((rndM rule x k).natAbs = x.natAbs / 10 ^ k + 1)), .int (rndM rule x k)]
theorem lg_ten {j : Nat} (hj : j ≤ 12) : 10 ^ j ≠ 0 ∧ (10 ^ j).log2 < 9000 := by
  have h1 : 10 ^ j ≤ 10 ^ 12 := Nat.pow_le_pow_right (by decide) hj
  have h0 : 0 < 10 ^ j := Nat.pos_of_ne_zero (by simp)
  have h2 : (10 ^ j).log2 ≤ (10 ^ 12).log2 := by
    rw [Nat.le_log2 (by decide)]
    exact Nat.le_trans (Nat.log2_self_le (by omega)) h1
  have h3 : (10 ^ 12 : Nat).log2 < 9000 := by decide +kernel
  exact ⟨by omega, by omega⟩
theorem bDivW_nn {a T : Nat} (h0 : T ≠ 0) (h : T.log2 < 9000) : bDivW [.int a, .int T] = some (.tup [.int ((a / T : Nat) : Int), .int ((a % T : Nat) : Int)]) := by
  have h1 : (0 : Int) < T := by omega
  simp [h1, h, h0]
theorem babs_nat (x : Int) : bAbs [.int x] = some (.int (x.natAbs : Int)) := by
  have e : (if x < 0 then -x else x) = (x.natAbs : Int) := by split <;> omega
  rw [bAbs_i, e]
theorem prounding_full {rule : Str} {k : Nat} (hk : 1 ≤ k ∧ k ≤ 12) (hr : IsRule rule) (x : Int) (hx : -1000000000000 < x ∧ x < 1000000000000) : f_prounding [.int x, .int k, .str rule] = .ok (.tup (rndP rule x k), []) := by
  refine mFn_ok ?_
  have a1 := babs_nat x
  have rd := @prounded_eq rule k ⟨hk.1, by omega⟩ hr x
  have p := @pten_eq (k : Int) (by omega) (by omega)
  have p1 := @pten_eq ((k : Int) - 1) (by omega) (by omega)
  rw [Int.toNat_natCast] at p
  rw [show ((k : Int) - 1).toNat = k - 1 by omega] at p1
  have c1 : ((10 ^ k : Nat) : Int) = (10 : Int) ^ k := by simp
  have c2 : ((10 ^ (k - 1) : Nat) : Int) = (10 : Int) ^ (k - 1) := by simp
  rw [← c1] at p
  rw [← c2] at p1
  obtain ⟨l1, l2⟩ := lg_ten hk.2
  obtain ⟨l3, l4⟩ := lg_ten (show k - 1 ≤ 12 by omega)
  have nin : fNotIn (.str rule) (.tup [.str "cut", .str "up", .str "half", .str "even", .str "floor", .str "ceil"]) = some (.bl false) := by
    rcases hr with rfl | rfl | rfl | rfl | rfl | rfl <;> rfl
  have d2 : divOk 2 = true := rfl
  have b1 : (1 : Int) ≤ k := by omega
  have b2 : (k : Int) ≤ 12 := by omega
  obtain ⟨x1, x2⟩ := hx
  have x3 : -(1000000000000 : Int) < x := x1
  unfold rndP
  obtain ⟨R, hR⟩ : ∃ R, rndM rule x k = R := ⟨_, rfl⟩
  rw [hR] at rd ⊢
  have aR := babs_nat R
  clear c1 c2
  have w1 := @bDivW_nn x.natAbs _ l1 l2
  have w2 := @bDivW_nn (x.natAbs % 10 ^ k) _ l3 l4
  generalize 10 ^ k = T at *
  generalize 10 ^ (k - 1) = T1 at *
  generalize (x.natAbs : Int) = X at *
  generalize x.natAbs / T = Q at *
  generalize x.natAbs % T = r at *
  generalize r / T1 = B at *
  generalize r % T1 = C at *
  have fq : (Q : Int).fmod 2 = ((Q % 2 : Nat) : Int) := nat_fmod _ 2
  have g1 : decide ((R.natAbs : Int) = (Q : Int) + 1) = decide (R.natAbs = Q + 1) := by
    by_cases h : R.natAbs = Q + 1
    · have : (R.natAbs : Int) = (Q : Int) + 1 := by omega
      rw [decide_eq_true h, decide_eq_true this]
    · have : ¬ (R.natAbs : Int) = (Q : Int) + 1 := by omega
      rw [decide_eq_false h, decide_eq_false this]
  generalize (R.natAbs : Int) = A at *
  generalize decide (R.natAbs = Q + 1) = G at *
  have g2 : decide ((Q : Int).fmod 2 = 1) = decide (Q % 2 = 1) := by
    rw [fq]
    by_cases h : Q % 2 = 1
    · rw [h]; rfl
    · have : Q % 2 = 0 := by omega
      rw [this]; rfl
  clear fq
  generalize decide (Q % 2 = 1) = G2 at *
  subst G
  subst G2
  simp [m_prounding, -bAbs_i, -bDivW_ii, nin, b1, b2, x1, x2, x3, rd, a1, p, p1, w1, w2, d2, aR, szOk_small]
theorem dct_six (a b c d e f : MV) : dctPut [.inr (Str.ofString "cut"), .inr (Str.ofString "up"), .inr (Str.ofString "half"), .inr (Str.ofString "even")] [a, b, c, d] (.inr (Str.ofString "floor")) e = ([.inr (Str.ofString "cut"), .inr (Str.ofString "up"), .inr (Str.ofString "half"), .inr (Str.ofString "even"), .inr (Str.ofString "floor")], [a, b, c, d, e]) ∧
  dctPut [.inr (Str.ofString "cut"), .inr (Str.ofString "up"), .inr (Str.ofString "half"), .inr (Str.ofString "even"), .inr (Str.ofString "floor")] [a, b, c, d, e] (.inr (Str.ofString "ceil")) f = ([.inr (Str.ofString "cut"), .inr (Str.ofString "up"), .inr (Str.ofString "half"), .inr (Str.ofString "even"), .inr (Str.ofString "floor"), .inr (Str.ofString "ceil")], [a, b, c, d, e, f]) := ⟨rfl, rfl⟩
def sixK : List Key := [.inr (Str.ofString "cut"), .inr (Str.ofString "up"), .inr (Str.ofString "half"), .inr (Str.ofString "even"), .inr (Str.ofString "floor"), .inr (Str.ofString "ceil")]
theorem lrounded_eq {rule : Str} {k : Nat} (hk : 1 ≤ k ∧ k ≤ 12) (hr : IsRule rule) (x : Int) (hx : -1000000000000 < x ∧ x < 1000000000000) : f_lrounded [.int x, .int (-(k : Int)), .str rule] = .ok (.int (rndM rule x k), []) := by
  refine mFn_ok ?_
  have a1 := babs_nat x
  have p := @lten_eq (k : Int) (by omega) (by omega)
  rw [Int.toNat_natCast] at p
  have e10 : ((10 ^ k : Nat) : Int) = (10 : Int) ^ k := by simp
  have dv : divOk ((10 : Int) ^ k) = true := divOk_ten (by omega)
  unfold rndM
  rw [← e10] at p dv
  have pT : 0 < 10 ^ k := Nat.pos_of_ne_zero (by simp)
  have q0 : x.natAbs = 0 → x.natAbs % 10 ^ k = 0 := fun h => by rw [h]; exact Nat.zero_mod _
  clear e10
  generalize 10 ^ k = T at *
  have fd : (x.natAbs : Int).fdiv (T : Int) = ((x.natAbs / T : Nat) : Int) := nat_fdiv _ _
  have fm : (x.natAbs : Int).fmod (T : Int) = ((x.natAbs % T : Nat) : Int) := nat_fmod _ _
  have kz : ¬ ((k : Int) ≤ 0) := by omega
  have kz2 : ¬ k = 0 := by omega
  have tz : ¬ T = 0 := by omega
  have d2 : divOk 2 = true := rfl
  have x0 : x = 0 → x.natAbs = 0 := fun h => by rw [h]; rfl
  generalize (x.natAbs : Int) = X at *
  generalize x.natAbs / T = q at *
  have r0 : x = 0 → x.natAbs % T = 0 := fun h => q0 (x0 h)
  clear q0 x0
  generalize x.natAbs % T = r at *
  have m2 : mulOk 2 (r : Int) = true := mulOk_l (by decide) (by decide)
  have fq : (q : Int).fmod 2 = (q : Int) % 2 := by rw [show (q : Int).fmod 2 = ((q % 2 : Nat) : Int) from nat_fmod _ 2]; simp
  have nd4 : decide ([Sum.inr (Str.ofString "cut"), .inr (Str.ofString "up"), .inr (Str.ofString "half"), .inr (Str.ofString "even")] : List Key).Nodup = true := by decide +kernel
  have s1 := fun a b c d e => (dct_six a b c d e .non).1
  have s2 := fun a b c d e f => (dct_six a b c d e f).2
  have ev1 : (T : Int) < 2 * (r : Int) + (q : Int) % 2 ↔ (T < 2 * r ∨ (2 * r = T ∧ q % 2 = 1)) := by omega
  have ha1 : (T : Int) ≤ 2 * (r : Int) ↔ T ≤ 2 * r := by omega
  have ix : ∀ a b c d e f : MV, dctAt sixK [a, b, c, d, e, f] (.inr (Str.ofString "cut")) = some a ∧ dctAt sixK [a, b, c, d, e, f] (.inr (Str.ofString "up")) = some b ∧ dctAt sixK [a, b, c, d, e, f] (.inr (Str.ofString "half")) = some c ∧ dctAt sixK [a, b, c, d, e, f] (.inr (Str.ofString "even")) = some d ∧ dctAt sixK [a, b, c, d, e, f] (.inr (Str.ofString "floor")) = some e ∧ dctAt sixK [a, b, c, d, e, f] (.inr (Str.ofString "ceil")) = some f := fun a b c d e f => ⟨rfl, rfl, rfl, rfl, rfl, rfl⟩
  unfold sixK at ix
  have i1 := fun a b c d e f => (ix a b c d e f).1
  have i2 := fun a b c d e f => (ix a b c d e f).2.1
  have i3 := fun a b c d e f => (ix a b c d e f).2.2.1
  have i4 := fun a b c d e f => (ix a b c d e f).2.2.2.1
  have i5 := fun a b c d e f => (ix a b c d e f).2.2.2.2.1
  have i6 := fun a b c d e f => (ix a b c d e f).2.2.2.2.2
  have fin : ∀ b : Bool, (if b = true then (1 : Nat) else 0) = if b = true then 1 else 0 := fun _ => rfl
  rcases hr with rfl | rfl | rfl | rfl | rfl | rfl
  · by_cases hx0 : x < 0 <;> by_cases h1 : 0 < r <;> first | (have g0 : 0 < x := by omega; simp [m_lrounded, mDictO, mSetDk, mIxD, has, keyM, -bAbs_i, kz, kz2, p, a1, dv, fd, fm, tz, m2, fq, d2, nd4, s1, s2, i1, i2, i3, i4, i5, i6, addM, hx0, h1, g0]; done) | (have g0 : ¬ 0 < x := by omega; simp [m_lrounded, mDictO, mSetDk, mIxD, has, keyM, -bAbs_i, kz, kz2, p, a1, dv, fd, fm, tz, m2, fq, d2, nd4, s1, s2, i1, i2, i3, i4, i5, i6, addM, hx0, h1, g0]; done) | (simp [m_lrounded, mDictO, mSetDk, mIxD, has, keyM, -bAbs_i, kz, kz2, p, a1, dv, fd, fm, tz, m2, fq, d2, nd4, s1, s2, i1, i2, i3, i4, i5, i6, addM, hx0, h1]; done)
  · by_cases hx0 : x < 0 <;> by_cases h1 : 0 < r <;> first | (have g0 : 0 < x := by omega; simp [m_lrounded, mDictO, mSetDk, mIxD, has, keyM, -bAbs_i, kz, kz2, p, a1, dv, fd, fm, tz, m2, fq, d2, nd4, s1, s2, i1, i2, i3, i4, i5, i6, addM, hx0, h1, g0]; done) | (have g0 : ¬ 0 < x := by omega; simp [m_lrounded, mDictO, mSetDk, mIxD, has, keyM, -bAbs_i, kz, kz2, p, a1, dv, fd, fm, tz, m2, fq, d2, nd4, s1, s2, i1, i2, i3, i4, i5, i6, addM, hx0, h1, g0]; done) | (simp [m_lrounded, mDictO, mSetDk, mIxD, has, keyM, -bAbs_i, kz, kz2, p, a1, dv, fd, fm, tz, m2, fq, d2, nd4, s1, s2, i1, i2, i3, i4, i5, i6, addM, hx0, h1]; done)
  · by_cases h2 : T ≤ 2 * r <;> have h2' := h2 <;> rw [← ha1] at h2' <;> by_cases hx0 : x < 0 <;> by_cases h1 : 0 < r <;> first | (have g0 : 0 < x := by omega; simp [m_lrounded, mDictO, mSetDk, mIxD, has, keyM, -bAbs_i, kz, kz2, p, a1, dv, fd, fm, tz, m2, fq, d2, nd4, s1, s2, i1, i2, i3, i4, i5, i6, addM, hx0, h1, g0, h2, h2']; done) | (have g0 : ¬ 0 < x := by omega; simp [m_lrounded, mDictO, mSetDk, mIxD, has, keyM, -bAbs_i, kz, kz2, p, a1, dv, fd, fm, tz, m2, fq, d2, nd4, s1, s2, i1, i2, i3, i4, i5, i6, addM, hx0, h1, g0, h2, h2']; done) | (simp [m_lrounded, mDictO, mSetDk, mIxD, has, keyM, -bAbs_i, kz, kz2, p, a1, dv, fd, fm, tz, m2, fq, d2, nd4, s1, s2, i1, i2, i3, i4, i5, i6, addM, hx0, h1, h2, h2']; done)
  · by_cases h3 : (T < 2 * r ∨ (2 * r = T ∧ q % 2 = 1)) <;> have h3' := h3 <;> rw [← ev1] at h3' <;> by_cases hx0 : x < 0 <;> by_cases h1 : 0 < r <;> first | (have g0 : 0 < x := by omega; simp [m_lrounded, mDictO, mSetDk, mIxD, has, keyM, -bAbs_i, kz, kz2, p, a1, dv, fd, fm, tz, m2, fq, d2, nd4, s1, s2, i1, i2, i3, i4, i5, i6, addM, hx0, h1, g0, h3, h3']; done) | (have g0 : ¬ 0 < x := by omega; simp [m_lrounded, mDictO, mSetDk, mIxD, has, keyM, -bAbs_i, kz, kz2, p, a1, dv, fd, fm, tz, m2, fq, d2, nd4, s1, s2, i1, i2, i3, i4, i5, i6, addM, hx0, h1, g0, h3, h3']; done) | (simp [m_lrounded, mDictO, mSetDk, mIxD, has, keyM, -bAbs_i, kz, kz2, p, a1, dv, fd, fm, tz, m2, fq, d2, nd4, s1, s2, i1, i2, i3, i4, i5, i6, addM, hx0, h1, h3, h3']; done)
  · by_cases hx0 : x < 0 <;> by_cases h1 : 0 < r <;> first | (have g0 : 0 < x := by omega; simp [m_lrounded, mDictO, mSetDk, mIxD, has, keyM, -bAbs_i, kz, kz2, p, a1, dv, fd, fm, tz, m2, fq, d2, nd4, s1, s2, i1, i2, i3, i4, i5, i6, addM, hx0, h1, g0]; done) | (have g0 : ¬ 0 < x := by omega; simp [m_lrounded, mDictO, mSetDk, mIxD, has, keyM, -bAbs_i, kz, kz2, p, a1, dv, fd, fm, tz, m2, fq, d2, nd4, s1, s2, i1, i2, i3, i4, i5, i6, addM, hx0, h1, g0]; done) | (simp [m_lrounded, mDictO, mSetDk, mIxD, has, keyM, -bAbs_i, kz, kz2, p, a1, dv, fd, fm, tz, m2, fq, d2, nd4, s1, s2, i1, i2, i3, i4, i5, i6, addM, hx0, h1]; done)
  · by_cases h1 : 0 < r
    · rcases (show x < 0 ∨ 0 < x by omega) with hx0 | hx0
      · have g0 : ¬ 0 < x := by omega
        simp [m_lrounded, mDictO, mSetDk, mIxD, has, keyM, -bAbs_i, kz, kz2, p, a1, dv, fd, fm, tz, m2, fq, d2, nd4, s1, s2, i1, i2, i3, i4, i5, i6, addM, hx0, h1, g0]
      · have g0 : ¬ x < 0 := by omega
        simp [m_lrounded, mDictO, mSetDk, mIxD, has, keyM, -bAbs_i, kz, kz2, p, a1, dv, fd, fm, tz, m2, fq, d2, nd4, s1, s2, i1, i2, i3, i4, i5, i6, addM, hx0, h1, g0]
    · have hr0 : r = 0 := by omega
      have m0 : mulOk 2 0 = true := mulOk_l (by decide) (by decide)
      by_cases hx0 : x < 0 <;> simp [m_lrounded, mDictO, mSetDk, mIxD, has, keyM, -bAbs_i, kz, kz2, p, a1, dv, fd, fm, tz, m2, fq, d2, nd4, s1, s2, i1, i2, i3, i4, i5, i6, addM, hx0, hr0, m0]
theorem digsB_succ (k n : Nat) : digsB (k + 1) n = n / 10 ^ k % 10 :: digsB k n := by
  unfold digsB
  rw [digs_append, List.reverse_append]
  rfl
theorem digsB_sum : ∀ (k n : Nat), 0 < (digsB k n).sum ↔ 0 < n % 10 ^ k
  | 0, n => by
    rw [Nat.pow_zero, Nat.mod_one]
    simp [digsB, digs]
  | k + 1, n => by
    rw [digsB_succ, List.sum_cons, Nat.mod_pow_succ]
    have ih := digsB_sum k n
    have pT : 0 < 10 ^ k := Nat.pos_of_ne_zero (by simp)
    generalize (digsB k n).sum = S at *
    generalize n % 10 ^ k = A at *
    generalize n / 10 ^ k % 10 = d at *
    generalize 10 ^ k = T at *
    by_cases h : d = 0
    · subst h
      rw [Nat.mul_zero]
      omega
    · have : 0 < T * d := Nat.mul_pos pT (by omega)
      omega
theorem intsOf_nat : ∀ ds : List Nat, intsOf (ds.map fun d : Nat => MV.int d) = some (ds.map fun d : Nat => (d : Int))
  | [] => rfl
  | d :: ds => by
    show (intsOf (ds.map fun d : Nat => MV.int d)).map _ = _
    rw [intsOf_nat ds]; rfl
theorem sum_nat : ∀ ds : List Nat, (ds.map fun d : Nat => (d : Int)).sum = ((ds.sum : Nat) : Int)
  | [] => rfl
  | d :: ds => by rw [List.map_cons, List.sum_cons, List.sum_cons, sum_nat ds]; simp
theorem lrounding_eq {rule : Str} {k : Nat} (hk : 1 ≤ k ∧ k ≤ 12) (hr : IsRule rule) (x : Int) (hx : -1000000000000 < x ∧ x < 1000000000000) : f_lrounding [.int x, .int k, .str rule] = .ok (.tup (rndP rule x k), []) := by
  refine mFn_ok ?_
  have a1 := babs_nat x
  have p := @lten_eq (k : Int) (by omega) (by omega)
  rw [Int.toNat_natCast] at p
  have e10 : ((10 ^ k : Nat) : Int) = (10 : Int) ^ k := by simp
  have dv : divOk ((10 : Int) ^ k) = true := divOk_ten (by omega)
  have rd := @lrounded_eq rule k hk hr x hx
  have dg := ldigits_eq (x.natAbs % 10 ^ k) k (by omega)
  obtain ⟨j, rfl⟩ : ∃ j, k = j + 1 := ⟨k - 1, by omega⟩
  rw [digsB_succ, List.map_cons] at dg
  have pj : 0 < 10 ^ j := Nat.pos_of_ne_zero (by simp)
  have f0 : x.natAbs % 10 ^ (j + 1) / 10 ^ j % 10 = x.natAbs % 10 ^ (j + 1) / 10 ^ j := by
    apply Nat.mod_eq_of_lt
    apply Nat.div_lt_of_lt_mul
    have := Nat.mod_lt x.natAbs (show 10 ^ (j + 1) > 0 from Nat.pos_of_ne_zero (by simp))
    rw [Nat.pow_succ] at this ⊢
    exact this
  have f1 := digsB_sum j (x.natAbs % 10 ^ (j + 1))
  have f2 := sum_nat (digsB j (x.natAbs % 10 ^ (j + 1)))
  have f3 := intsOf_nat (digsB j (x.natAbs % 10 ^ (j + 1)))
  rw [f0] at dg
  unfold rndP
  rw [show j + 1 - 1 = j by omega]
  rw [← e10] at p dv
  have bs : bSum [.lst ((digsB j (x.natAbs % 10 ^ (j + 1))).map fun d : Nat => MV.int d)] = some (.int (((digsB j (x.natAbs % 10 ^ (j + 1))).sum : Nat) : Int)) := by
    show (intsOf _).map _ = _
    rw [f3, ← f2]; rfl
  clear f0 e10 f2 f3
  generalize rndM rule x (j + 1) = R at *
  generalize ((digsB j (x.natAbs % 10 ^ (j + 1))).map fun d : Nat => MV.int d) = L at *
  generalize (digsB j (x.natAbs % 10 ^ (j + 1))).sum = S at *
  have tz : ¬ 10 ^ (j + 1) = 0 := by simp
  generalize 10 ^ (j + 1) = T at *
  generalize 10 ^ j = T1 at *
  have fd : (x.natAbs : Int).fdiv (T : Int) = ((x.natAbs / T : Nat) : Int) := nat_fdiv _ _
  have fm : (x.natAbs : Int).fmod (T : Int) = ((x.natAbs % T : Nat) : Int) := nat_fmod _ _
  generalize (x.natAbs : Int) = X at *
  generalize x.natAbs / T = Q at *
  generalize x.natAbs % T = r at *
  generalize r / T1 = B at *
  generalize r % T1 = C at *
  have g3 : decide (0 < C) = decide (0 < S) := by by_cases h : 0 < S <;> simp [h, f1.mp] <;> omega
  have fq : (Q : Int).fmod 2 = ((Q % 2 : Nat) : Int) := nat_fmod _ 2
  have g1 : decide ((R.natAbs : Int) = (Q : Int) + 1) = decide (R.natAbs = Q + 1) := by
    by_cases h : R.natAbs = Q + 1
    · have : (R.natAbs : Int) = (Q : Int) + 1 := by omega
      rw [decide_eq_true h, decide_eq_true this]
    · have : ¬ (R.natAbs : Int) = (Q : Int) + 1 := by omega
      rw [decide_eq_false h, decide_eq_false this]
  have aR := babs_nat R
  generalize (R.natAbs : Int) = A at *
  generalize decide (R.natAbs = Q + 1) = G at *
  have g2 : decide ((Q : Int).fmod 2 = 1) = decide (Q % 2 = 1) := by
    rw [fq]
    by_cases h : Q % 2 = 1
    · rw [h]; rfl
    · have : Q % 2 = 0 := by omega
      rw [this]; rfl
  clear fq
  generalize decide (Q % 2 = 1) = G2 at *
  rw [g3]
  subst G
  subst G2
  have d2 : divOk 2 = true := rfl
  have k1 : divOk (T : Int) = true := dv
  have cu : cutM (MV.int (B : Int) :: L) (some 1) none = L := by rw [cutM_from (by decide)]; rfl
  have at0 : True := trivial
  simp at p dg rd
  simp [m_lrounding, -bAbs_i, rd, a1, p, dv, fd, fm, tz, dg, d2, aR, szOk_small, bs, cu, at0]
theorem rndM_size (rule : Str) (x : Int) (k : Nat) (hx : x.natAbs < 1000000000000) : (rndM rule x k).natAbs < 2000000000000 := by
  unfold rndM
  have h := Nat.div_le_self x.natAbs (10 ^ k)
  split
  · have a := addM_le rule (x.natAbs / 10 ^ k) (x.natAbs % 10 ^ k) (10 ^ k) 1
    generalize addM rule (x.natAbs / 10 ^ k) (x.natAbs % 10 ^ k) (10 ^ k) 1 = A at *
    generalize x.natAbs / 10 ^ k = B at *
    rw [Int.natAbs_neg, Int.natAbs_natCast]
    omega
  · have a := addM_le rule (x.natAbs / 10 ^ k) (x.natAbs % 10 ^ k) (10 ^ k) 0
    generalize addM rule (x.natAbs / 10 ^ k) (x.natAbs % 10 ^ k) (10 ^ k) 0 = A at *
    generalize x.natAbs / 10 ^ k = B at *
    rw [Int.natAbs_natCast]
    omega
theorem log_of {n : Nat} (h : n < 2 ^ 100) : n.log2 < 1900 := by
  by_cases z : n = 0
  · rw [z]; decide
  · have := (Nat.log2_lt z).mpr h
    omega
theorem rndP_pOk (rule : Str) (x : Int) (k : Nat) (hx : x.natAbs < 1000000000000) : pOk 2 (.tup (rndP rule x k)) = true := by
  have e2 : (2 : Nat) ^ 100 = 1267650600228229401496703205376 := by decide
  have h1 := Nat.div_le_self x.natAbs (10 ^ k)
  have h2 := Nat.div_le_self (x.natAbs % 10 ^ k) (10 ^ (k - 1))
  have h3 := Nat.mod_le x.natAbs (10 ^ k)
  have h4 := rndM_size rule x k hx
  have l1 := log_of (n := x.natAbs / 10 ^ k) (by omega)
  have l2 := log_of (n := x.natAbs % 10 ^ k / 10 ^ (k - 1)) (by omega)
  have l3 := log_of (n := (rndM rule x k).natAbs) (by omega)
  unfold rndP
  generalize x.natAbs / 10 ^ k = A at *
  generalize x.natAbs % 10 ^ k / 10 ^ (k - 1) = B at *
  generalize rndM rule x k = R at *
  simp only [pOk, List.all_cons, List.all_nil, Bool.and_true, Bool.and_eq_true, decide_eq_true_eq, List.length_cons, List.length_nil, Int.natAbs_natCast]
  exact ⟨⟨l1, l2, trivial, trivial, trivial, trivial, l3⟩, by decide⟩
theorem rndP_okJ2 (rule : Str) (x : Int) (k : Nat) : okJ 7 (.tup (rndP rule x k)) = true := rfl
theorem rndP_cells (rule : Str) (x : Int) (k : Nat) : cellsP 2 (.tup (rndP rule x k)) ≠ [] := by
  unfold rndP
  show (List.range 7).flatMap _ ≠ []
  rw [List.range_succ_eq_map, List.flatMap_cons]
  intro h
  have h2 := (List.append_eq_nil_iff.mp h).1
  have := List.map_eq_nil_iff.mp h2
  exact absurd this (by show cellsP 1 (.int _) ≠ []; simp [cellsP])
theorem spoilt9 {rule : Str} {x : Int} {k : Nat} (hx : x.natAbs < 1000000000000) (way at_ to_ num : Int) (hw : 0 ≤ way ∧ way < 9) (hnum : 0 ≤ num ∧ num < 1000) : ∃ v, okJ 7 v = true ∧ f_lpaper_spoilt [.tup (rndP rule x k), .int way, .int at_, .int to_, .int num, .non] = .ok (v, []) := by
  have hP := rndP_pOk rule x k hx
  have hc := rndP_cells rule x k
  have hn : rndP rule x k ≠ [] := by unfold rndP; exact List.cons_ne_nil _ _
  by_cases w6 : way < 6
  · exact spoilt_cellsN (by decide) hP hc way at_ to_ num ⟨hw.1, w6⟩ hnum
  · by_cases w8 : way < 8
    · exact spoilt_tupsN (by decide) hP hn way at_ to_ num (by omega)
    · have w9 : way = 8 := by omega
      subst w9
      exact spoilt_anyN (by decide) hP hn at_ to_ num
def rulesU : List MV := [.str "cut", .str "up", .str "half", .str "even", .str "floor", .str "ceil"]
theorem tail82 {F : MV} {P : List MV} {x : Int} {k : Nat} {rule : Str} (hF : okJ 7 F = true) {bb : Bool} (j1 : f_ljust [F, .tup P] = .ok (.bl bb, [])) (j2 : f_pis_just [F, .tup P] = .ok (.bl bb, [])) (ps : f_prounding [.int x, .int k, .str rule] = .ok (.tup P, [])) {RT : List MV} {ru : Int} (rul : atI RT ru = some (.str rule)) (r0 r7 r8 r9 r10 r12 r13 r14 r15 r16 r17 : Option MV) :
    ∃ ρ, (mSeq (mAsg (mFz (mCall f_prounding_holds (mCons (mVar 3) (mCons (mVar 1) (mCons (mOp fIx (mVar 2) (mVar 11)) (mCons (mVar 5) (mNil))))))) (gSet 6)) (mRet (mBv (mAndT (mTest (mBlt bIsi (mCons (mVar 6) (mCons (mC (.raw (.ty "bool"))) mNil)))) (mTest (mOp fEq (mVar 6) (mFz (mCall f_ljust (mCons (mVar 5) (mCons (mVar 4) (mNil)))))))))))
      [r0, some (.int k), some (.tup RT), some (.int x), some (.tup P), some F, none, r7, r8, r9, r10, some (.int ru), r12, r13, r14, r15, r16, r17] = .ok (.rt (.bl true), ρ) := by
  have ph : f_prounding_holds [.int x, .int k, .str rule, F] = .ok (.bl bb, []) := by
    refine mFn_ok ?_
    cases F <;> first | (exfalso; simp [okJ] at hF; done) | simp [m_prounding_holds, ps, j2]
  cases F <;> first | (exfalso; simp [okJ] at hF; done) | simp [ph, j1, rul, bIsi, MV.kd, kdOf, Kd.isa]
theorem law_true : ∀ ns : List Int, ns.length ≤ 63 → ∃ bs, f_law78 [.scr ns] = .ok (.bl true, bs) := by
  intro ns hns
  refine ⟨[], mFn_ok ?_⟩
  obtain ⟨c0, hc0⟩ := lcell_ok ns 0
  obtain ⟨c1, hc1⟩ := lcell_ok ns 1
  obtain ⟨c2, hc2⟩ := lcell_ok ns 2
  obtain ⟨ds, hd, hds⟩ := ldraws_ok c0 471 [4, 14, 10, 2, 12, 6, 6] (by decide) (by decide)
  simp only [draws_cons, draws_nil] at hd
  obtain ⟨spoil, _, rfl, t0, way, _, rfl, t1, kind, _, rfl, t2, below, _, rfl, t3, by0, _, rfl, t4, ru, _, rfl, t5, ot, _, rfl, t6, rfl⟩ := hd
  obtain ⟨ds, hd, hds1⟩ := ldraws_ok c1 473 [97, 89, 83] (by decide) (by decide)
  simp only [draws_cons, draws_nil] at hd
  obtain ⟨at_, _, rfl, u0, to_, _, rfl, u1, num, _, rfl, u2, rfl⟩ := hd
  obtain ⟨ds, hd, hds2⟩ := ldraws_ok c2 475 [100000000000000, 3] (by decide) (by decide)
  simp only [draws_cons, draws_nil] at hd
  obtain ⟨far, _, rfl, w0, tie, _, rfl, w1, rfl⟩ := hd
  have fp : fPow (.int 10) (.int 14) = some (.int 100000000000000) := rfl
  have fp11 : fPow (.int 10) (.int 11) = some (.int 100000000000) := rfl
  have fp12 : fPow (.int 10) (.int 12) = some (.int 1000000000000) := rfl
  obtain ⟨k, hk, hk1⟩ : ∃ k : Nat, 1 + by0 = k ∧ (1 ≤ k ∧ k ≤ 12) := ⟨(1 + by0).toNat, by omega, by omega, by omega⟩
  obtain ⟨v1, hv1, e1⟩ := lsome_whole_ok kind far 12 t2 (by omega)
  have e12 : 10 ^ 12 = 1000000000000 := by decide
  rw [e12] at hv1
  have l1 := lten_eq (k := (k : Int)) (by omega) (by omega)
  rw [Int.toNat_natCast] at l1
  have c13 : (10 : Int) ^ k ≤ 1000000000000 := by
    have := Nat.pow_le_pow_right (show 0 < 10 by decide) hk1.2
    have e : (10 : Int) ^ 12 = 1000000000000 := by decide
    rw [← e]
    exact_mod_cast this
  have hp1 := ten_pos' k
  have q1 := fmod_ge' (a := far) (b := 100000000000) (by decide)
  have q2 := fmod_lt' (a := far) (b := 100000000000) (by decide)
  generalize (10 : Int) ^ k = T at *
  obtain ⟨q, hq⟩ : ∃ q, far.fmod 100000000000 = q := ⟨_, rfl⟩
  rw [hq] at q1 q2
  have m1 : mulOk q T = true := mulOk_wide (by omega) (by omega)
  have d2 : divOk 2 = true := rfl
  have d11 : divOk 100000000000 = true := rfl
  have d12 : divOk 1000000000000 = true := rfl
  have d12' : divOk 12 = true := rfl
  have g1 := fmod_ge' (a := q * T + T.fdiv 2) (b := 1000000000000) (by decide)
  have g2 := fmod_lt' (a := q * T + T.fdiv 2) (b := 1000000000000) (by decide)
  obtain ⟨v2, hv2⟩ : ∃ v2 : Nat, (q * T + T.fdiv 2).fmod 1000000000000 = (v2 : Int) := Int.eq_ofNat_of_zero_le g1
  rw [hv2] at g1 g2
  obtain ⟨rule, hr, hra⟩ := rule_at t5
  obtain ⟨rule2, hr2, hra2⟩ := rule_at t6
  have rul : atI rulesU ru = some (.str rule) := hra
  have rul2 : atI rulesU ot = some (.str rule2) := hra2
  obtain ⟨v, hv, hvx⟩ : ∃ v : Nat, (if tie = 2 then v2 else v1) = v ∧ v < 1000000000000 := ⟨_, rfl, by split <;> omega⟩
  obtain ⟨x, hx, hx1⟩ : ∃ x : Int, (if below = 1 then 0 - (v : Int) else v) = x ∧ (-1000000000000 < x ∧ x < 1000000000000) := ⟨_, rfl, by split <;> omega⟩
  have hxn : x.natAbs < 1000000000000 := by omega
  obtain ⟨k2, hk2, hk21⟩ : ∃ k2 : Nat, (k : Int).fmod 12 + 1 = (k2 : Int) ∧ (1 ≤ k2 ∧ k2 ≤ 12) := by
    have h1 := fmod_ge' (a := (k : Int)) (b := 12) (by decide)
    have h2 := fmod_lt' (a := (k : Int)) (b := 12) (by decide)
    exact ⟨((k : Int).fmod 12 + 1).toNat, by omega, by omega, by omega⟩
  have p := @prounding_full rule k hk1 hr x hx1
  have l := @lrounding_eq rule k hk1 hr x hx1
  have lB := @lrounding_eq rule2 k hk1 hr2 x hx1
  have lC := @lrounding_eq rule k hk1 hr (x.natAbs : Int) (by omega)
  have lD := @lrounding_eq rule k2 hk21 hr x hx1
  have a1 := babs_nat x
  have sp := fun hw => @spoilt9 rule x k hxn way at_ to_ num hw ⟨u2.1, by omega⟩
  have hP := rndP_pOk rule x k hxn
  have tl := fun (F : MV) (hF : okJ 7 F = true) (r0 r7 r8 r9 r10 r12 r13 r14 r15 r16 r17 : Option MV) => by
    have la := @looks_alike 2 (by decide) F (.tup (rndP rule x k)) hF hP
    exact tail82 (x := x) (k := k) (rule := rule) hF la.1 la.2 p rul r0 r7 r8 r9 r10 r12 r13 r14 r15 r16 r17
  have okA := rndP_okJ2 rule x k
  have okB := rndP_okJ2 rule2 x k
  have okC := rndP_okJ2 rule (x.natAbs : Int) k
  have okD := rndP_okJ2 rule k2 k
  have okD := rndP_okJ2 rule x k2
  have fold : ([MV.str (Str.ofString "cut"), .str (Str.ofString "up"), .str (Str.ofString "half"), .str (Str.ofString "even"), .str (Str.ofString "floor"), .str (Str.ofString "ceil")] : List MV) = rulesU := rfl
  have sz6 : szOk rulesU.length = true := szOk_small (by decide)
  clear hP hra hra2 p
  generalize rndP rule x k = P at *
  generalize rndP rule2 x k = PB at *
  generalize rndP rule (x.natAbs : Int) k = PC at *
  generalize rndP rule x k2 = PD at *
  generalize (x.natAbs : Int) = X at *
  simp at hc0 hc1 hc2 hds hds1 hds2 e1
  generalize rulesU = RT at *
  obtain ⟨F, hF, hFe⟩ : ∃ F : MV, okJ 7 F = true ∧ (
      (0 < spoil ∧ way < 9 ∧ f_lpaper_spoilt [.tup P, .int way, .int at_, .int to_, .int num, .non] = .ok (F, [])) ∨
      (0 < spoil ∧ way = 12 ∧ F = .tup PC) ∨ (0 < spoil ∧ way = 13 ∧ F = .tup PD) ∨ (0 < spoil ∧ ¬ way < 9 ∧ ¬ way = 12 ∧ ¬ way = 13 ∧ F = .tup PB) ∨ (¬ 0 < spoil ∧ F = .tup P)) := by
    by_cases h0 : 0 < spoil
    · by_cases h9 : way < 9
      · obtain ⟨F, hF, e⟩ := sp ⟨t1.1, h9⟩
        exact ⟨F, hF, .inl ⟨h0, h9, e⟩⟩
      · by_cases h12 : way = 12
        · exact ⟨_, okC, .inr (.inl ⟨h0, h12, rfl⟩)⟩
        · by_cases h13 : way = 13
          · exact ⟨_, okD, .inr (.inr (.inl ⟨h0, h13, rfl⟩))⟩
          · exact ⟨_, okB, .inr (.inr (.inr (.inl ⟨h0, h9, h12, h13, rfl⟩)))⟩
    · exact ⟨_, okA, .inr (.inr (.inr (.inr ⟨h0, rfl⟩)))⟩
  obtain ⟨ρ, tl⟩ := tl F hF (some (.scr ns)) (some (.int spoil)) (some (.int way)) (some (.int kind)) (some (.int below)) (some (.int ot)) (some (.int at_)) (some (.int to_)) (some (.int num)) (some (.int far)) (some (.int tie))
  have hfz := fz_pl (okJ_pl hF)
  unfold m_law78
  generalize (mSeq (mAsg (mFz (mCall f_prounding_holds (mCons (mVar 3) (mCons (mVar 1) (mCons (mOp fIx (mVar 2) (mVar 11)) (mCons (mVar 5) (mNil))))))) (gSet 6)) (mRet (mBv (mAndT (mTest (mBlt bIsi (mCons (mVar 6) (mCons (mC (.raw (.ty "bool"))) mNil)))) (mTest (mOp fEq (mVar 6) (mFz (mCall f_ljust (mCons (mVar 5) (mCons (mVar 4) (mNil))))))))))) = TL at *
  by_cases h1 : tie = 2 <;> by_cases h2 : below = 1 <;> (try simp [h1] at hv) <;> subst hv <;> (try simp [h2] at hx) <;> subst hx <;>
    rcases hFe with ⟨f0, f1, f2⟩ | ⟨f0, f1, rfl⟩ | ⟨f0, f1, rfl⟩ | ⟨f0, f1, f2, f3, rfl⟩ | ⟨f0, rfl⟩
  · have b1 : ¬ 8 < way := by omega
    have b2 : ¬ way = 12 := by omega
    have b3 : ¬ way = 13 := by omega
    (try simp [h1, h2] at tl)
    simp [-bAbs_i, hc0, hc1, hc2, hds, hds1, hds2, szOk_small, sz6, fp, fp11, fp12, hk, e1, l1, hq, m1, d2, d11, d12, d12', hv2, h1, h2, fold, rul, rul2, l, lB, lC, lD, a1, hk2, f0, tl, hfz, f1, f2, b1, b2, b3]
  · subst f1
    (try simp [h1, h2] at tl)
    simp [-bAbs_i, hc0, hc1, hc2, hds, hds1, hds2, szOk_small, sz6, fp, fp11, fp12, hk, e1, l1, hq, m1, d2, d11, d12, d12', hv2, h1, h2, fold, rul, rul2, l, lB, lC, lD, a1, hk2, f0, tl, hfz]
  · subst f1
    (try simp [h1, h2] at tl)
    simp [-bAbs_i, hc0, hc1, hc2, hds, hds1, hds2, szOk_small, sz6, fp, fp11, fp12, hk, e1, l1, hq, m1, d2, d11, d12, d12', hv2, h1, h2, fold, rul, rul2, l, lB, lC, lD, a1, hk2, f0, tl, hfz]
  · have b1 : 8 < way := by omega
    (try simp [h1, h2] at tl)
    simp [-bAbs_i, hc0, hc1, hc2, hds, hds1, hds2, szOk_small, sz6, fp, fp11, fp12, hk, e1, l1, hq, m1, d2, d11, d12, d12', hv2, h1, h2, fold, rul, rul2, l, lB, lC, lD, a1, hk2, f0, tl, hfz, f1, f2, f3, b1]
  · (try simp [h1, h2] at tl)
    simp [-bAbs_i, hc0, hc1, hc2, hds, hds1, hds2, szOk_small, sz6, fp, fp11, fp12, hk, e1, l1, hq, m1, d2, d11, d12, d12', hv2, h1, h2, fold, rul, rul2, l, lB, lC, lD, a1, hk2, f0, tl, hfz]
  · have b1 : ¬ 8 < way := by omega
    have b2 : ¬ way = 12 := by omega
    have b3 : ¬ way = 13 := by omega
    (try simp [h1, h2] at tl)
    simp [-bAbs_i, hc0, hc1, hc2, hds, hds1, hds2, szOk_small, sz6, fp, fp11, fp12, hk, e1, l1, hq, m1, d2, d11, d12, d12', hv2, h1, h2, fold, rul, rul2, l, lB, lC, lD, a1, hk2, f0, tl, hfz, f1, f2, b1, b2, b3]
  · subst f1
    (try simp [h1, h2] at tl)
    simp [-bAbs_i, hc0, hc1, hc2, hds, hds1, hds2, szOk_small, sz6, fp, fp11, fp12, hk, e1, l1, hq, m1, d2, d11, d12, d12', hv2, h1, h2, fold, rul, rul2, l, lB, lC, lD, a1, hk2, f0, tl, hfz]
  · subst f1
    (try simp [h1, h2] at tl)
    simp [-bAbs_i, hc0, hc1, hc2, hds, hds1, hds2, szOk_small, sz6, fp, fp11, fp12, hk, e1, l1, hq, m1, d2, d11, d12, d12', hv2, h1, h2, fold, rul, rul2, l, lB, lC, lD, a1, hk2, f0, tl, hfz]
  · have b1 : 8 < way := by omega
    (try simp [h1, h2] at tl)
    simp [-bAbs_i, hc0, hc1, hc2, hds, hds1, hds2, szOk_small, sz6, fp, fp11, fp12, hk, e1, l1, hq, m1, d2, d11, d12, d12', hv2, h1, h2, fold, rul, rul2, l, lB, lC, lD, a1, hk2, f0, tl, hfz, f1, f2, f3, b1]
  · (try simp [h1, h2] at tl)
    simp [-bAbs_i, hc0, hc1, hc2, hds, hds1, hds2, szOk_small, sz6, fp, fp11, fp12, hk, e1, l1, hq, m1, d2, d11, d12, d12', hv2, h1, h2, fold, rul, rul2, l, lB, lC, lD, a1, hk2, f0, tl, hfz]
  · have b1 : ¬ 8 < way := by omega
    have b2 : ¬ way = 12 := by omega
    have b3 : ¬ way = 13 := by omega
    (try simp [h1, h2] at tl)
    simp [-bAbs_i, hc0, hc1, hc2, hds, hds1, hds2, szOk_small, sz6, fp, fp11, fp12, hk, e1, l1, hq, m1, d2, d11, d12, d12', hv2, h1, h2, fold, rul, rul2, l, lB, lC, lD, a1, hk2, f0, tl, hfz, f1, f2, b1, b2, b3]
  · subst f1
    (try simp [h1, h2] at tl)
    simp [-bAbs_i, hc0, hc1, hc2, hds, hds1, hds2, szOk_small, sz6, fp, fp11, fp12, hk, e1, l1, hq, m1, d2, d11, d12, d12', hv2, h1, h2, fold, rul, rul2, l, lB, lC, lD, a1, hk2, f0, tl, hfz]
  · subst f1
    (try simp [h1, h2] at tl)
    simp [-bAbs_i, hc0, hc1, hc2, hds, hds1, hds2, szOk_small, sz6, fp, fp11, fp12, hk, e1, l1, hq, m1, d2, d11, d12, d12', hv2, h1, h2, fold, rul, rul2, l, lB, lC, lD, a1, hk2, f0, tl, hfz]
  · have b1 : 8 < way := by omega
    (try simp [h1, h2] at tl)
    simp [-bAbs_i, hc0, hc1, hc2, hds, hds1, hds2, szOk_small, sz6, fp, fp11, fp12, hk, e1, l1, hq, m1, d2, d11, d12, d12', hv2, h1, h2, fold, rul, rul2, l, lB, lC, lD, a1, hk2, f0, tl, hfz, f1, f2, f3, b1]
  · (try simp [h1, h2] at tl)
    simp [-bAbs_i, hc0, hc1, hc2, hds, hds1, hds2, szOk_small, sz6, fp, fp11, fp12, hk, e1, l1, hq, m1, d2, d11, d12, d12', hv2, h1, h2, fold, rul, rul2, l, lB, lC, lD, a1, hk2, f0, tl, hfz]
  · have b1 : ¬ 8 < way := by omega
    have b2 : ¬ way = 12 := by omega
    have b3 : ¬ way = 13 := by omega
    (try simp [h1, h2] at tl)
    simp [-bAbs_i, hc0, hc1, hc2, hds, hds1, hds2, szOk_small, sz6, fp, fp11, fp12, hk, e1, l1, hq, m1, d2, d11, d12, d12', hv2, h1, h2, fold, rul, rul2, l, lB, lC, lD, a1, hk2, f0, tl, hfz, f1, f2, b1, b2, b3]
  · subst f1
    (try simp [h1, h2] at tl)
    simp [-bAbs_i, hc0, hc1, hc2, hds, hds1, hds2, szOk_small, sz6, fp, fp11, fp12, hk, e1, l1, hq, m1, d2, d11, d12, d12', hv2, h1, h2, fold, rul, rul2, l, lB, lC, lD, a1, hk2, f0, tl, hfz]
  · subst f1
    (try simp [h1, h2] at tl)
    simp [-bAbs_i, hc0, hc1, hc2, hds, hds1, hds2, szOk_small, sz6, fp, fp11, fp12, hk, e1, l1, hq, m1, d2, d11, d12, d12', hv2, h1, h2, fold, rul, rul2, l, lB, lC, lD, a1, hk2, f0, tl, hfz]
  · have b1 : 8 < way := by omega
    (try simp [h1, h2] at tl)
    simp [-bAbs_i, hc0, hc1, hc2, hds, hds1, hds2, szOk_small, sz6, fp, fp11, fp12, hk, e1, l1, hq, m1, d2, d11, d12, d12', hv2, h1, h2, fold, rul, rul2, l, lB, lC, lD, a1, hk2, f0, tl, hfz, f1, f2, f3, b1]
  · (try simp [h1, h2] at tl)
    simp [-bAbs_i, hc0, hc1, hc2, hds, hds1, hds2, szOk_small, sz6, fp, fp11, fp12, hk, e1, l1, hq, m1, d2, d11, d12, d12', hv2, h1, h2, fold, rul, rul2, l, lB, lC, lD, a1, hk2, f0, tl, hfz]
def top (i : Nat) : Stmt := PySem.Challenge.pw_tensloft_k82_rounding_looked_at.main.body.getD i (.Pass ⟨0, 0, 0, 0⟩)
abbrev s_ini_NoFit : Stmt := inCls (top 2) 0
theorem sc_ini_NoFit : FnScope ["self", "number"] ["self", "number"] (defScope s_ini_NoFit) := ⟨rfl, rfl, rfl, by decide +kernel, rfl, by decide +kernel, by decide +kernel⟩
theorem ini_NoFit {P : Program} {w : World} {K : PySem.W.Frag} {mg : Str → Option Value} {base : Heap} {a : Addr} {fd : FuncData} (F : Fun K "__init__" "NoFit.__init__" s_ini_NoFit a fd) (B : Bas K mg "LoftError") : FnOk P w K mg base (L2N.CX P w) 2 a fd ["self", "number"] (spI1 K "number") :=
  init1 F sc_ini_NoFit B rfl (fun _ _ => rfl) (by decide +kernel) (by decide +kernel) (fun _ => ⟨_, rfl⟩) (by decide) (by decide) (by decide)
abbrev s_ini_NoRule : Stmt := inCls (top 4) 0
theorem sc_ini_NoRule : FnScope ["self", "rule"] ["self", "rule"] (defScope s_ini_NoRule) := ⟨rfl, rfl, rfl, by decide +kernel, rfl, by decide +kernel, by decide +kernel⟩
theorem ini_NoRule {P : Program} {w : World} {K : PySem.W.Frag} {mg : Str → Option Value} {base : Heap} {a : Addr} {fd : FuncData} (F : Fun K "__init__" "NoRule.__init__" s_ini_NoRule a fd) (B : Bas K mg "LoftError") : FnOk P w K mg base (L2N.CX P w) 2 a fd ["self", "rule"] (spI1 K "rule") :=
  init1 F sc_ini_NoRule B rfl (fun _ _ => rfl) (by decide +kernel) (by decide +kernel) (fun _ => ⟨_, rfl⟩) (by decide) (by decide) (by decide)
abbrev s_ini_TooLong : Stmt := inCls (top 3) 0
theorem sc_ini_TooLong : FnScope ["self", "number"] ["self", "number"] (defScope s_ini_TooLong) := ⟨rfl, rfl, rfl, by decide +kernel, rfl, by decide +kernel, by decide +kernel⟩
theorem ini_TooLong {P : Program} {w : World} {K : PySem.W.Frag} {mg : Str → Option Value} {base : Heap} {a : Addr} {fd : FuncData} (F : Fun K "__init__" "TooLong.__init__" s_ini_TooLong a fd) (B : Bas K mg "LoftError") : FnOk P w K mg base (L2N.CX P w) 2 a fd ["self", "number"] (spI1 K "number") :=
  init1 F sc_ini_TooLong B rfl (fun _ _ => rfl) (by decide +kernel) (by decide +kernel) (fun _ => ⟨_, rfl⟩) (by decide) (by decide) (by decide)
abbrev s_lmixed : Stmt := top 20
theorem sc_lmixed : FnScope ["_law_cell_here", "_law_k", "_law_salt", "_law_primes", "_law_one", "_law_two"] ["_law_cell_here", "_law_k", "_law_salt"] (defScope s_lmixed) := ⟨rfl, rfl, rfl, by decide +kernel, rfl, by decide +kernel, by decide +kernel⟩
theorem v_lmixed_0 : (defScope s_lmixed).names.lookup ("_law_cell_here" : Str) = some NameKind.local := by decide +kernel
theorem v_lmixed_1 : (defScope s_lmixed).names.lookup ("_law_k" : Str) = some NameKind.local := by decide +kernel
theorem v_lmixed_2 : (defScope s_lmixed).names.lookup ("_law_salt" : Str) = some NameKind.local := by decide +kernel
theorem v_lmixed_3 : (defScope s_lmixed).names.lookup ("_law_primes" : Str) = some NameKind.local := by decide +kernel
theorem v_lmixed_4 : (defScope s_lmixed).names.lookup ("_law_one" : Str) = some NameKind.local := by decide +kernel
theorem v_lmixed_5 : (defScope s_lmixed).names.lookup ("_law_two" : Str) = some NameKind.local := by decide +kernel
theorem ok_lmixed {P : Program} {w : World} {K : PySem.W.Frag} {mg : Str → Option Value} {base : Heap} {f : Addr} {fd : FuncData} (F : Fun K "_law_mixed" "_law_mixed" s_lmixed f fd) (B : Bn mg)     :
    FnOk P w K mg base (L2N.CX P w) 2 f fd ["_law_cell_here", "_law_k", "_law_salt"] (spF K mg 3 [] f_lmixed) := by
  refine fn_ok F sc_lmixed (by decide) (by decide) fun cdv A outer s H E hr => ?_
  have nd := sc_lmixed.nd
  have tk : L2N.Takes (cxOf (L2N.CX P w) P w K mg base ["_law_cell_here", "_law_k", "_law_salt", "_law_primes", "_law_one", "_law_two"] "_law_mixed" (defScope s_lmixed) f cdv A outer s H E) (fun cls d _ H => E cls d H) := L2N.takes_of rfl rfl rfl rfl
  have pn : PassesOwn (model P w) (cxOf (L2N.CX P w) P w K mg base ["_law_cell_here", "_law_k", "_law_salt", "_law_primes", "_law_one", "_law_two"] "_law_mixed" (defScope s_lmixed) f cdv A outer s H E).A (cxOf (L2N.CX P w) P w K mg base ["_law_cell_here", "_law_k", "_law_salt", "_law_primes", "_law_one", "_law_two"] "_law_mixed" (defScope s_lmixed) f cdv A outer s H E).env (cxOf (L2N.CX P w) P w K mg base ["_law_cell_here", "_law_k", "_law_salt", "_law_primes", "_law_one", "_law_two"] "_law_mixed" (defScope s_lmixed) f cdv A outer s H E).xe := passes_of rfl
  unfold m_lmixed
  exact mss_cons (ms_set (i := 3) nd rfl (.inl v_lmixed_3) (me_lst (ma_cons (me_int) (ma_cons (me_int) (ma_cons (me_int) (ma_cons (me_int) (ma_cons (me_int) (ma_cons (me_int) (ma_cons (me_int) (ma_cons (me_int) (ma_nil))))))))))) (mss_cons (ms_set (i := 4) nd rfl (.inl v_lmixed_4) (me_mod (me_add (me_add (me_add (me_var (i := 0) rfl (.inl v_lmixed_0)) (me_mul (me_int) (me_var (i := 2) rfl (.inl v_lmixed_2)))) (me_mul (me_int) (me_var (i := 1) rfl (.inl v_lmixed_1)))) (me_int)) (me_int))) (mss_cons (ms_set (i := 4) nd rfl (.inl v_lmixed_4) (me_mod (me_pow (me_var (i := 4) rfl (.inl v_lmixed_4)) (me_int)) (me_ix (me_var (i := 3) rfl (.inl v_lmixed_3)) (me_mod (me_var (i := 1) rfl (.inl v_lmixed_1)) (me_int))))) (mss_cons (ms_set (i := 5) nd rfl (.inl v_lmixed_5) (me_mod (me_add (me_add (me_var (i := 4) rfl (.inl v_lmixed_4)) (me_mul (me_int) (me_var (i := 2) rfl (.inl v_lmixed_2)))) (me_var (i := 1) rfl (.inl v_lmixed_1))) (me_int))) (mss_one (ms_ret (me_add (me_mul (me_mod (me_pow (me_var (i := 5) rfl (.inl v_lmixed_5)) (me_int)) (me_int)) (me_int)) (me_var (i := 4) rfl (.inl v_lmixed_4))))))))

abbrev s_ldraws : Stmt := top 21
theorem sc_ldraws : FnScope ["_law_cell_here", "_law_salt", "_law_widths", "_law_found", "_law_left", "_law_k"] ["_law_cell_here", "_law_salt", "_law_widths"] (defScope s_ldraws) := ⟨rfl, rfl, rfl, by decide +kernel, rfl, by decide +kernel, by decide +kernel⟩
theorem v_ldraws_0 : (defScope s_ldraws).names.lookup ("_law_cell_here" : Str) = some NameKind.local := by decide +kernel
theorem v_ldraws_1 : (defScope s_ldraws).names.lookup ("_law_salt" : Str) = some NameKind.local := by decide +kernel
theorem v_ldraws_2 : (defScope s_ldraws).names.lookup ("_law_widths" : Str) = some NameKind.local := by decide +kernel
theorem v_ldraws_3 : (defScope s_ldraws).names.lookup ("_law_found" : Str) = some NameKind.local := by decide +kernel
theorem v_ldraws_4 : (defScope s_ldraws).names.lookup ("_law_left" : Str) = some NameKind.local := by decide +kernel
theorem v_ldraws_5 : (defScope s_ldraws).names.lookup ("_law_k" : Str) = some NameKind.local := by decide +kernel
theorem g_ldraws_abs (L a : Addr) (cd : Value) : (PyProof.Rows.envOfC "_law_draws" (defScope s_ldraws) L a cd).kindOf ("abs" : Str) = some NameKind.globalImplicit := rfl
theorem g_ldraws_len (L a : Addr) (cd : Value) : (PyProof.Rows.envOfC "_law_draws" (defScope s_ldraws) L a cd).kindOf ("len" : Str) = some NameKind.globalImplicit := rfl
theorem g_ldraws_range (L a : Addr) (cd : Value) : (PyProof.Rows.envOfC "_law_draws" (defScope s_ldraws) L a cd).kindOf ("range" : Str) = some NameKind.globalImplicit := rfl
theorem g_ldraws_law_mixed (L a : Addr) (cd : Value) : (PyProof.Rows.envOfC "_law_draws" (defScope s_ldraws) L a cd).kindOf ("_law_mixed" : Str) = some NameKind.globalImplicit := rfl
theorem ok_ldraws {P : Program} {w : World} {K : PySem.W.Frag} {mg : Str → Option Value} {base : Heap} {f : Addr} {fd : FuncData} (F : Fun K "_law_draws" "_law_draws" s_ldraws f fd) (B : Bn mg) (h_lmixed : Fd P w K mg base "_law_mixed" 2 ["_law_cell_here", "_law_k", "_law_salt"] [] f_lmixed)    :
    FnOk P w K mg base (L2N.CX P w) 4 f fd ["_law_cell_here", "_law_salt", "_law_widths"] (spF K mg 3 [] f_ldraws) := by
  refine fn_ok F sc_ldraws (by decide) (by decide) fun cdv A outer s H E hr => ?_
  have nd := sc_ldraws.nd
  have tk : L2N.Takes (cxOf (L2N.CX P w) P w K mg base ["_law_cell_here", "_law_salt", "_law_widths", "_law_found", "_law_left", "_law_k"] "_law_draws" (defScope s_ldraws) f cdv A outer s H E) (fun cls d _ H => E cls d H) := L2N.takes_of rfl rfl rfl rfl
  have pn : PassesOwn (model P w) (cxOf (L2N.CX P w) P w K mg base ["_law_cell_here", "_law_salt", "_law_widths", "_law_found", "_law_left", "_law_k"] "_law_draws" (defScope s_ldraws) f cdv A outer s H E).A (cxOf (L2N.CX P w) P w K mg base ["_law_cell_here", "_law_salt", "_law_widths", "_law_found", "_law_left", "_law_k"] "_law_draws" (defScope s_ldraws) f cdv A outer s H E).env (cxOf (L2N.CX P w) P w K mg base ["_law_cell_here", "_law_salt", "_law_widths", "_law_found", "_law_left", "_law_k"] "_law_draws" (defScope s_ldraws) f cdv A outer s H E).xe := passes_of rfl
  unfold m_ldraws
  exact mss_cons (ms_setO (i := 3) nd rfl (.inl v_ldraws_3) (mo_lst (ma_nil))) (mss_cons (ms_set (i := 4) nd rfl (.inl v_ldraws_4) (me_int)) (mss_cons (ms_if (mt_cmp op_ge os_ge (mb_abs B.abs (ma_cons (me_var (i := 0) rfl (.inl v_ldraws_0)) (ma_nil)) (hg := (g_ldraws_abs _ _ _))) (me_pow (me_int) (me_int)) (nomark _)) (mss_one (ms_set (i := 4) nd rfl (.inl v_ldraws_4) (mb_abs B.abs (ma_cons (me_var (i := 0) rfl (.inl v_ldraws_0)) (ma_nil)) (hg := (g_ldraws_abs _ _ _))))) (mss_nil)) (mss_cons (ms_for pn rfl (mi_r1 B.range (ma_cons (mb_len B.len (ma_cons (me_var (i := 2) rfl (.inl v_ldraws_2)) (ma_nil)) (hg := (g_ldraws_len _ _ _))) (ma_nil)) (hg := (g_ldraws_range _ _ _))) (mg_name (i := 5) nd rfl (.inl v_ldraws_5)) (mss_one (ms_if (mt_cmp op_gt os_gt (me_var (i := 4) rfl (.inl v_ldraws_4)) (me_int) (nomark _)) (mss_cons (ms_expr (me_lm1 ls_append PySem.F.slot_list_append PySem.F.type_list_append mt_append (i := 3) rfl (.inl v_ldraws_3) (ma_cons (me_mod (me_var (i := 4) rfl (.inl v_ldraws_4)) (me_ix (me_var (i := 2) rfl (.inl v_ldraws_2)) (me_var (i := 5) rfl (.inl v_ldraws_5)))) (ma_nil)))) (mss_one (ms_set (i := 4) nd rfl (.inl v_ldraws_4) (me_div (me_var (i := 4) rfl (.inl v_ldraws_4)) (me_ix (me_var (i := 2) rfl (.inl v_ldraws_2)) (me_var (i := 5) rfl (.inl v_ldraws_5))))))) (mss_one (ms_expr (me_lm1 ls_append PySem.F.slot_list_append PySem.F.type_list_append mt_append (i := 3) rfl (.inl v_ldraws_3) (ma_cons (me_mod (me_fz (mf_call h_lmixed hr (by decide) tk (ma_cons (me_var (i := 0) rfl (.inl v_ldraws_0)) (ma_cons (me_var (i := 5) rfl (.inl v_ldraws_5)) (ma_cons (me_var (i := 1) rfl (.inl v_ldraws_1)) (ma_nil)))) (lng_cons (lng_cons (lng_cons lng_nil))) (hg := (g_ldraws_law_mixed _ _ _)))) (me_ix (me_var (i := 2) rfl (.inl v_ldraws_2)) (me_var (i := 5) rfl (.inl v_ldraws_5)))) (ma_nil)))))))) (mss_one (ms_retO (mo_var (i := 3) rfl (.inl v_ldraws_3)))))))

abbrev s_lpower : Stmt := top 22
theorem sc_lpower : FnScope ["_law_base", "_law_many", "_law_found", "_law_k"] ["_law_base", "_law_many"] (defScope s_lpower) := ⟨rfl, rfl, rfl, by decide +kernel, rfl, by decide +kernel, by decide +kernel⟩
theorem v_lpower_0 : (defScope s_lpower).names.lookup ("_law_base" : Str) = some NameKind.local := by decide +kernel
theorem v_lpower_1 : (defScope s_lpower).names.lookup ("_law_many" : Str) = some NameKind.local := by decide +kernel
theorem v_lpower_2 : (defScope s_lpower).names.lookup ("_law_found" : Str) = some NameKind.local := by decide +kernel
theorem v_lpower_3 : (defScope s_lpower).names.lookup ("_law_k" : Str) = some NameKind.local := by decide +kernel
theorem g_lpower_range (L a : Addr) (cd : Value) : (PyProof.Rows.envOfC "_law_power" (defScope s_lpower) L a cd).kindOf ("range" : Str) = some NameKind.globalImplicit := rfl
theorem ok_lpower {P : Program} {w : World} {K : PySem.W.Frag} {mg : Str → Option Value} {base : Heap} {f : Addr} {fd : FuncData} (F : Fun K "_law_power" "_law_power" s_lpower f fd) (B : Bn mg)     :
    FnOk P w K mg base (L2N.CX P w) 2 f fd ["_law_base", "_law_many"] (spF K mg 2 [] f_lpower) := by
  refine fn_ok F sc_lpower (by decide) (by decide) fun cdv A outer s H E hr => ?_
  have nd := sc_lpower.nd
  have tk : L2N.Takes (cxOf (L2N.CX P w) P w K mg base ["_law_base", "_law_many", "_law_found", "_law_k"] "_law_power" (defScope s_lpower) f cdv A outer s H E) (fun cls d _ H => E cls d H) := L2N.takes_of rfl rfl rfl rfl
  have pn : PassesOwn (model P w) (cxOf (L2N.CX P w) P w K mg base ["_law_base", "_law_many", "_law_found", "_law_k"] "_law_power" (defScope s_lpower) f cdv A outer s H E).A (cxOf (L2N.CX P w) P w K mg base ["_law_base", "_law_many", "_law_found", "_law_k"] "_law_power" (defScope s_lpower) f cdv A outer s H E).env (cxOf (L2N.CX P w) P w K mg base ["_law_base", "_law_many", "_law_found", "_law_k"] "_law_power" (defScope s_lpower) f cdv A outer s H E).xe := passes_of rfl
  unfold m_lpower
  exact mss_cons (ms_set (i := 2) nd rfl (.inl v_lpower_2) (me_int)) (mss_cons (ms_for pn rfl (mi_r1 B.range (ma_cons (me_var (i := 1) rfl (.inl v_lpower_1)) (ma_nil)) (hg := (g_lpower_range _ _ _))) (mg_name (i := 3) nd rfl (.inl v_lpower_3)) (mss_one (ms_set (i := 2) nd rfl (.inl v_lpower_2) (me_mul (me_var (i := 2) rfl (.inl v_lpower_2)) (me_var (i := 0) rfl (.inl v_lpower_0)))))) (mss_one (ms_ret (me_var (i := 2) rfl (.inl v_lpower_2)))))

abbrev s_lsome_whole : Stmt := top 33
theorem sc_lsome_whole : FnScope ["_law_way", "_law_far", "_law_many", "_law_whole", "_law_part", "_law_some"] ["_law_way", "_law_far", "_law_many"] (defScope s_lsome_whole) := ⟨rfl, rfl, rfl, by decide +kernel, rfl, by decide +kernel, by decide +kernel⟩
theorem v_lsome_whole_0 : (defScope s_lsome_whole).names.lookup ("_law_way" : Str) = some NameKind.local := by decide +kernel
theorem v_lsome_whole_1 : (defScope s_lsome_whole).names.lookup ("_law_far" : Str) = some NameKind.local := by decide +kernel
theorem v_lsome_whole_2 : (defScope s_lsome_whole).names.lookup ("_law_many" : Str) = some NameKind.local := by decide +kernel
theorem v_lsome_whole_3 : (defScope s_lsome_whole).names.lookup ("_law_whole" : Str) = some NameKind.local := by decide +kernel
theorem v_lsome_whole_4 : (defScope s_lsome_whole).names.lookup ("_law_part" : Str) = some NameKind.local := by decide +kernel
theorem v_lsome_whole_5 : (defScope s_lsome_whole).names.lookup ("_law_some" : Str) = some NameKind.local := by decide +kernel
theorem g_lsome_whole_law_power (L a : Addr) (cd : Value) : (PyProof.Rows.envOfC "_law_some_whole" (defScope s_lsome_whole) L a cd).kindOf ("_law_power" : Str) = some NameKind.globalImplicit := rfl
theorem ok_lsome_whole {P : Program} {w : World} {K : PySem.W.Frag} {mg : Str → Option Value} {base : Heap} {f : Addr} {fd : FuncData} (F : Fun K "_law_some_whole" "_law_some_whole" s_lsome_whole f fd) (B : Bn mg) (h_lpower : Fd P w K mg base "_law_power" 2 ["_law_base", "_law_many"] [] f_lpower)    :
    FnOk P w K mg base (L2N.CX P w) 4 f fd ["_law_way", "_law_far", "_law_many"] (spF K mg 3 [] f_lsome_whole) := by
  refine fn_ok F sc_lsome_whole (by decide) (by decide) fun cdv A outer s H E hr => ?_
  have nd := sc_lsome_whole.nd
  have tk : L2N.Takes (cxOf (L2N.CX P w) P w K mg base ["_law_way", "_law_far", "_law_many", "_law_whole", "_law_part", "_law_some"] "_law_some_whole" (defScope s_lsome_whole) f cdv A outer s H E) (fun cls d _ H => E cls d H) := L2N.takes_of rfl rfl rfl rfl
  have pn : PassesOwn (model P w) (cxOf (L2N.CX P w) P w K mg base ["_law_way", "_law_far", "_law_many", "_law_whole", "_law_part", "_law_some"] "_law_some_whole" (defScope s_lsome_whole) f cdv A outer s H E).A (cxOf (L2N.CX P w) P w K mg base ["_law_way", "_law_far", "_law_many", "_law_whole", "_law_part", "_law_some"] "_law_some_whole" (defScope s_lsome_whole) f cdv A outer s H E).env (cxOf (L2N.CX P w) P w K mg base ["_law_way", "_law_far", "_law_many", "_law_whole", "_law_part", "_law_some"] "_law_some_whole" (defScope s_lsome_whole) f cdv A outer s H E).xe := passes_of rfl
  unfold m_lsome_whole
  exact mss_cons (ms_set (i := 3) nd rfl (.inl v_lsome_whole_3) (me_fz (mf_call h_lpower hr (by decide) tk (ma_cons (me_int) (ma_cons (me_var (i := 2) rfl (.inl v_lsome_whole_2)) (ma_nil))) (lng_cons (lng_cons lng_nil)) (hg := (g_lsome_whole_law_power _ _ _))))) (mss_cons (ms_set (i := 4) nd rfl (.inl v_lsome_whole_4) (me_fz (mf_call h_lpower hr (by decide) tk (ma_cons (me_int) (ma_cons (me_mod (me_var (i := 1) rfl (.inl v_lsome_whole_1)) (me_var (i := 2) rfl (.inl v_lsome_whole_2))) (ma_nil))) (lng_cons (lng_cons lng_nil)) (hg := (g_lsome_whole_law_power _ _ _))))) (mss_cons (ms_set (i := 5) nd rfl (.inl v_lsome_whole_5) (me_lst (ma_cons (me_int) (ma_cons (me_sub (me_var (i := 3) rfl (.inl v_lsome_whole_3)) (me_int)) (ma_cons (me_mul (me_int) (me_var (i := 4) rfl (.inl v_lsome_whole_4))) (ma_cons (me_var (i := 4) rfl (.inl v_lsome_whole_4)) (ma_cons (me_sub (me_var (i := 4) rfl (.inl v_lsome_whole_4)) (me_int)) (ma_cons (me_sub (me_var (i := 3) rfl (.inl v_lsome_whole_3)) (me_var (i := 4) rfl (.inl v_lsome_whole_4))) (ma_cons (me_div (me_var (i := 3) rfl (.inl v_lsome_whole_3)) (me_int)) (ma_cons (me_add (me_mul (me_int) (me_var (i := 4) rfl (.inl v_lsome_whole_4))) (me_int)) (ma_nil))))))))))) (mss_cons (ms_if (mt_cmp op_lt os_lt (me_var (i := 0) rfl (.inl v_lsome_whole_0)) (me_int) (nomark _)) (mss_one (ms_ret (me_mod (me_ix (me_var (i := 5) rfl (.inl v_lsome_whole_5)) (me_var (i := 0) rfl (.inl v_lsome_whole_0))) (me_var (i := 3) rfl (.inl v_lsome_whole_3))))) (mss_nil)) (mss_one (ms_ret (me_mod (me_var (i := 1) rfl (.inl v_lsome_whole_1)) (me_var (i := 3) rfl (.inl v_lsome_whole_3))))))))

abbrev s_ldigits : Stmt := top 30
theorem sc_ldigits : FnScope ["_law_number", "_law_many", "_law_found", "_law_k"] ["_law_number", "_law_many"] (defScope s_ldigits) := ⟨rfl, rfl, rfl, by decide +kernel, rfl, by decide +kernel, by decide +kernel⟩
theorem v_ldigits_0 : (defScope s_ldigits).names.lookup ("_law_number" : Str) = some NameKind.local := by decide +kernel
theorem v_ldigits_1 : (defScope s_ldigits).names.lookup ("_law_many" : Str) = some NameKind.local := by decide +kernel
theorem v_ldigits_2 : (defScope s_ldigits).names.lookup ("_law_found" : Str) = some NameKind.local := by decide +kernel
theorem v_ldigits_3 : (defScope s_ldigits).names.lookup ("_law_k" : Str) = some NameKind.local := by decide +kernel
theorem g_ldigits_range (L a : Addr) (cd : Value) : (PyProof.Rows.envOfC "_law_digits" (defScope s_ldigits) L a cd).kindOf ("range" : Str) = some NameKind.globalImplicit := rfl
theorem ok_ldigits {P : Program} {w : World} {K : PySem.W.Frag} {mg : Str → Option Value} {base : Heap} {f : Addr} {fd : FuncData} (F : Fun K "_law_digits" "_law_digits" s_ldigits f fd) (B : Bn mg)     :
    FnOk P w K mg base (L2N.CX P w) 2 f fd ["_law_number", "_law_many"] (spF K mg 2 [] f_ldigits) := by
  refine fn_ok F sc_ldigits (by decide) (by decide) fun cdv A outer s H E hr => ?_
  have nd := sc_ldigits.nd
  have tk : L2N.Takes (cxOf (L2N.CX P w) P w K mg base ["_law_number", "_law_many", "_law_found", "_law_k"] "_law_digits" (defScope s_ldigits) f cdv A outer s H E) (fun cls d _ H => E cls d H) := L2N.takes_of rfl rfl rfl rfl
  have pn : PassesOwn (model P w) (cxOf (L2N.CX P w) P w K mg base ["_law_number", "_law_many", "_law_found", "_law_k"] "_law_digits" (defScope s_ldigits) f cdv A outer s H E).A (cxOf (L2N.CX P w) P w K mg base ["_law_number", "_law_many", "_law_found", "_law_k"] "_law_digits" (defScope s_ldigits) f cdv A outer s H E).env (cxOf (L2N.CX P w) P w K mg base ["_law_number", "_law_many", "_law_found", "_law_k"] "_law_digits" (defScope s_ldigits) f cdv A outer s H E).xe := passes_of rfl
  unfold m_ldigits
  exact mss_cons (ms_setO (i := 2) nd rfl (.inl v_ldigits_2) (mo_lst (ma_nil))) (mss_cons (ms_for pn rfl (mi_r1 B.range (ma_cons (me_var (i := 1) rfl (.inl v_ldigits_1)) (ma_nil)) (hg := (g_ldigits_range _ _ _))) (mg_name (i := 3) nd rfl (.inl v_ldigits_3)) (mss_cons (ms_expr (me_lm1 ls_append PySem.F.slot_list_append PySem.F.type_list_append mt_append (i := 2) rfl (.inl v_ldigits_2) (ma_cons (me_mod (me_var (i := 0) rfl (.inl v_ldigits_0)) (me_int)) (ma_nil)))) (mss_one (ms_set (i := 0) nd rfl (.inl v_ldigits_0) (me_div (me_var (i := 0) rfl (.inl v_ldigits_0)) (me_int)))))) (mss_one (ms_ret (me_revA (me_var (i := 2) rfl (.inl v_ldigits_2))))))

abbrev s_lrounded : Stmt := top 31
theorem sc_lrounded : FnScope ["_law_number", "_law_by", "_law_rule", "_law_whole", "_law_size", "_law_rest", "_law_more"] ["_law_number", "_law_by", "_law_rule"] (defScope s_lrounded) := ⟨rfl, rfl, rfl, by decide +kernel, rfl, by decide +kernel, by decide +kernel⟩
theorem v_lrounded_0 : (defScope s_lrounded).names.lookup ("_law_number" : Str) = some NameKind.local := by decide +kernel
theorem v_lrounded_1 : (defScope s_lrounded).names.lookup ("_law_by" : Str) = some NameKind.local := by decide +kernel
theorem v_lrounded_2 : (defScope s_lrounded).names.lookup ("_law_rule" : Str) = some NameKind.local := by decide +kernel
theorem v_lrounded_3 : (defScope s_lrounded).names.lookup ("_law_whole" : Str) = some NameKind.local := by decide +kernel
theorem v_lrounded_4 : (defScope s_lrounded).names.lookup ("_law_size" : Str) = some NameKind.local := by decide +kernel
theorem v_lrounded_5 : (defScope s_lrounded).names.lookup ("_law_rest" : Str) = some NameKind.local := by decide +kernel
theorem v_lrounded_6 : (defScope s_lrounded).names.lookup ("_law_more" : Str) = some NameKind.local := by decide +kernel
theorem g_lrounded_law_power (L a : Addr) (cd : Value) : (PyProof.Rows.envOfC "_law_rounded" (defScope s_lrounded) L a cd).kindOf ("_law_power" : Str) = some NameKind.globalImplicit := rfl
theorem g_lrounded_abs (L a : Addr) (cd : Value) : (PyProof.Rows.envOfC "_law_rounded" (defScope s_lrounded) L a cd).kindOf ("abs" : Str) = some NameKind.globalImplicit := rfl
theorem g_lrounded_int (L a : Addr) (cd : Value) : (PyProof.Rows.envOfC "_law_rounded" (defScope s_lrounded) L a cd).kindOf ("int" : Str) = some NameKind.globalImplicit := rfl
theorem ok_lrounded {P : Program} {w : World} {K : PySem.W.Frag} {mg : Str → Option Value} {base : Heap} {f : Addr} {fd : FuncData} (F : Fun K "_law_rounded" "_law_rounded" s_lrounded f fd) (B : Bn mg) (h_lpower : Fd P w K mg base "_law_power" 2 ["_law_base", "_law_many"] [] f_lpower)    :
    FnOk P w K mg base (L2N.CX P w) 4 f fd ["_law_number", "_law_by", "_law_rule"] (spF K mg 3 [] f_lrounded) := by
  refine fn_ok F sc_lrounded (by decide) (by decide) fun cdv A outer s H E hr => ?_
  have nd := sc_lrounded.nd
  have tk : L2N.Takes (cxOf (L2N.CX P w) P w K mg base ["_law_number", "_law_by", "_law_rule", "_law_whole", "_law_size", "_law_rest", "_law_more"] "_law_rounded" (defScope s_lrounded) f cdv A outer s H E) (fun cls d _ H => E cls d H) := L2N.takes_of rfl rfl rfl rfl
  have pn : PassesOwn (model P w) (cxOf (L2N.CX P w) P w K mg base ["_law_number", "_law_by", "_law_rule", "_law_whole", "_law_size", "_law_rest", "_law_more"] "_law_rounded" (defScope s_lrounded) f cdv A outer s H E).A (cxOf (L2N.CX P w) P w K mg base ["_law_number", "_law_by", "_law_rule", "_law_whole", "_law_size", "_law_rest", "_law_more"] "_law_rounded" (defScope s_lrounded) f cdv A outer s H E).env (cxOf (L2N.CX P w) P w K mg base ["_law_number", "_law_by", "_law_rule", "_law_whole", "_law_size", "_law_rest", "_law_more"] "_law_rounded" (defScope s_lrounded) f cdv A outer s H E).xe := passes_of rfl
  unfold m_lrounded
  exact mss_cons (ms_if (mt_cmp op_ge os_ge (me_var (i := 1) rfl (.inl v_lrounded_1)) (me_int) (nomark _)) (mss_one (ms_ret (me_mul (me_var (i := 0) rfl (.inl v_lrounded_0)) (me_fz (mf_call h_lpower hr (by decide) tk (ma_cons (me_int) (ma_cons (me_var (i := 1) rfl (.inl v_lrounded_1)) (ma_nil))) (lng_cons (lng_cons lng_nil)) (hg := (g_lrounded_law_power _ _ _))))))) (mss_nil)) (mss_cons (ms_set (i := 3) nd rfl (.inl v_lrounded_3) (me_fz (mf_call h_lpower hr (by decide) tk (ma_cons (me_int) (ma_cons (me_sub (me_int) (me_var (i := 1) rfl (.inl v_lrounded_1))) (ma_nil))) (lng_cons (lng_cons lng_nil)) (hg := (g_lrounded_law_power _ _ _))))) (mss_cons (ms_set (i := 4) nd rfl (.inl v_lrounded_4) (me_div (mb_abs B.abs (ma_cons (me_var (i := 0) rfl (.inl v_lrounded_0)) (ma_nil)) (hg := (g_lrounded_abs _ _ _))) (me_var (i := 3) rfl (.inl v_lrounded_3)))) (mss_cons (ms_set (i := 5) nd rfl (.inl v_lrounded_5) (me_mod (mb_abs B.abs (ma_cons (me_var (i := 0) rfl (.inl v_lrounded_0)) (ma_nil)) (hg := (g_lrounded_abs _ _ _))) (me_var (i := 3) rfl (.inl v_lrounded_3)))) (mss_cons (ms_setO (i := 6) nd rfl (.inl v_lrounded_6) (mo_dict (dp_str (me_bl) (dp_str (me_cmp op_gt os_gt (me_var (i := 5) rfl (.inl v_lrounded_5)) (me_int) (nomark _)) (dp_str (me_cmp op_ge os_ge (me_mul (me_int) (me_var (i := 5) rfl (.inl v_lrounded_5))) (me_var (i := 3) rfl (.inl v_lrounded_3)) (nomark _)) (dp_str (me_cmp op_gt os_gt (me_add (me_mul (me_int) (me_var (i := 5) rfl (.inl v_lrounded_5))) (me_mod (me_var (i := 4) rfl (.inl v_lrounded_4)) (me_int))) (me_var (i := 3) rfl (.inl v_lrounded_3)) (nomark _)) (dp_nil))))))) (mss_cons (ms_setDk hr.units (i := 6) rfl (.inl v_lrounded_6) (me_and (me_cmp op_gt os_gt (me_var (i := 5) rfl (.inl v_lrounded_5)) (me_int) (nomark _)) (me_one (me_cmp op_lt os_lt (me_var (i := 0) rfl (.inl v_lrounded_0)) (me_int) (nomark _)))) (me_str)) (mss_cons (ms_setDk hr.units (i := 6) rfl (.inl v_lrounded_6) (me_and (me_cmp op_gt os_gt (me_var (i := 5) rfl (.inl v_lrounded_5)) (me_int) (nomark _)) (me_one (me_cmp op_gt os_gt (me_var (i := 0) rfl (.inl v_lrounded_0)) (me_int) (nomark _)))) (me_str)) (mss_cons (ms_set (i := 4) nd rfl (.inl v_lrounded_4) (me_add (me_var (i := 4) rfl (.inl v_lrounded_4)) (mb_int B.int (ma_cons (me_ixD hr.units (i := 6) rfl (.inl v_lrounded_6) (me_var (i := 2) rfl (.inl v_lrounded_2))) (ma_nil)) (hg := (g_lrounded_int _ _ _))))) (mss_cons (ms_if (mt_cmp op_lt os_lt (me_var (i := 0) rfl (.inl v_lrounded_0)) (me_int) (nomark _)) (mss_one (ms_ret (me_sub (me_int) (me_var (i := 4) rfl (.inl v_lrounded_4))))) (mss_nil)) (mss_one (ms_ret (me_var (i := 4) rfl (.inl v_lrounded_4))))))))))))

abbrev s_lrounding : Stmt := top 32
theorem sc_lrounding : FnScope ["_law_number", "_law_by", "_law_rule", "_law_whole", "_law_size", "_law_lost", "_law_due", "_law_more"] ["_law_number", "_law_by", "_law_rule"] (defScope s_lrounding) := ⟨rfl, rfl, rfl, by decide +kernel, rfl, by decide +kernel, by decide +kernel⟩
theorem v_lrounding_0 : (defScope s_lrounding).names.lookup ("_law_number" : Str) = some NameKind.local := by decide +kernel
theorem v_lrounding_1 : (defScope s_lrounding).names.lookup ("_law_by" : Str) = some NameKind.local := by decide +kernel
theorem v_lrounding_2 : (defScope s_lrounding).names.lookup ("_law_rule" : Str) = some NameKind.local := by decide +kernel
theorem v_lrounding_3 : (defScope s_lrounding).names.lookup ("_law_whole" : Str) = some NameKind.local := by decide +kernel
theorem v_lrounding_4 : (defScope s_lrounding).names.lookup ("_law_size" : Str) = some NameKind.local := by decide +kernel
theorem v_lrounding_5 : (defScope s_lrounding).names.lookup ("_law_lost" : Str) = some NameKind.local := by decide +kernel
theorem v_lrounding_6 : (defScope s_lrounding).names.lookup ("_law_due" : Str) = some NameKind.local := by decide +kernel
theorem v_lrounding_7 : (defScope s_lrounding).names.lookup ("_law_more" : Str) = some NameKind.local := by decide +kernel
theorem g_lrounding_law_power (L a : Addr) (cd : Value) : (PyProof.Rows.envOfC "_law_rounding" (defScope s_lrounding) L a cd).kindOf ("_law_power" : Str) = some NameKind.globalImplicit := rfl
theorem g_lrounding_abs (L a : Addr) (cd : Value) : (PyProof.Rows.envOfC "_law_rounding" (defScope s_lrounding) L a cd).kindOf ("abs" : Str) = some NameKind.globalImplicit := rfl
theorem g_lrounding_law_digits (L a : Addr) (cd : Value) : (PyProof.Rows.envOfC "_law_rounding" (defScope s_lrounding) L a cd).kindOf ("_law_digits" : Str) = some NameKind.globalImplicit := rfl
theorem g_lrounding_law_rounded (L a : Addr) (cd : Value) : (PyProof.Rows.envOfC "_law_rounding" (defScope s_lrounding) L a cd).kindOf ("_law_rounded" : Str) = some NameKind.globalImplicit := rfl
theorem g_lrounding_sum (L a : Addr) (cd : Value) : (PyProof.Rows.envOfC "_law_rounding" (defScope s_lrounding) L a cd).kindOf ("sum" : Str) = some NameKind.globalImplicit := rfl
theorem ok_lrounding {P : Program} {w : World} {K : PySem.W.Frag} {mg : Str → Option Value} {base : Heap} {f : Addr} {fd : FuncData} (F : Fun K "_law_rounding" "_law_rounding" s_lrounding f fd) (B : Bn mg) (h_lpower : Fd P w K mg base "_law_power" 2 ["_law_base", "_law_many"] [] f_lpower) (h_ldigits : Fd P w K mg base "_law_digits" 2 ["_law_number", "_law_many"] [] f_ldigits) (h_lrounded : Fd P w K mg base "_law_rounded" 4 ["_law_number", "_law_by", "_law_rule"] [] f_lrounded)    :
    FnOk P w K mg base (L2N.CX P w) 6 f fd ["_law_number", "_law_by", "_law_rule"] (spF K mg 3 [] f_lrounding) := by
  refine fn_ok F sc_lrounding (by decide) (by decide) fun cdv A outer s H E hr => ?_
  have nd := sc_lrounding.nd
  have tk : L2N.Takes (cxOf (L2N.CX P w) P w K mg base ["_law_number", "_law_by", "_law_rule", "_law_whole", "_law_size", "_law_lost", "_law_due", "_law_more"] "_law_rounding" (defScope s_lrounding) f cdv A outer s H E) (fun cls d _ H => E cls d H) := L2N.takes_of rfl rfl rfl rfl
  have pn : PassesOwn (model P w) (cxOf (L2N.CX P w) P w K mg base ["_law_number", "_law_by", "_law_rule", "_law_whole", "_law_size", "_law_lost", "_law_due", "_law_more"] "_law_rounding" (defScope s_lrounding) f cdv A outer s H E).A (cxOf (L2N.CX P w) P w K mg base ["_law_number", "_law_by", "_law_rule", "_law_whole", "_law_size", "_law_lost", "_law_due", "_law_more"] "_law_rounding" (defScope s_lrounding) f cdv A outer s H E).env (cxOf (L2N.CX P w) P w K mg base ["_law_number", "_law_by", "_law_rule", "_law_whole", "_law_size", "_law_lost", "_law_due", "_law_more"] "_law_rounding" (defScope s_lrounding) f cdv A outer s H E).xe := passes_of rfl
  unfold m_lrounding
  exact mss_cons (ms_set (i := 3) nd rfl (.inl v_lrounding_3) (me_fz (mf_call h_lpower hr (by decide) tk (ma_cons (me_int) (ma_cons (me_var (i := 1) rfl (.inl v_lrounding_1)) (ma_nil))) (lng_cons (lng_cons lng_nil)) (hg := (g_lrounding_law_power _ _ _))))) (mss_cons (ms_set (i := 4) nd rfl (.inl v_lrounding_4) (me_div (mb_abs B.abs (ma_cons (me_var (i := 0) rfl (.inl v_lrounding_0)) (ma_nil)) (hg := (g_lrounding_abs _ _ _))) (me_var (i := 3) rfl (.inl v_lrounding_3)))) (mss_cons (ms_set (i := 5) nd rfl (.inl v_lrounding_5) (me_fz (mf_call h_ldigits hr (by decide) tk (ma_cons (me_mod (mb_abs B.abs (ma_cons (me_var (i := 0) rfl (.inl v_lrounding_0)) (ma_nil)) (hg := (g_lrounding_abs _ _ _))) (me_var (i := 3) rfl (.inl v_lrounding_3))) (ma_cons (me_var (i := 1) rfl (.inl v_lrounding_1)) (ma_nil))) (lng_cons (lng_cons lng_nil)) (hg := (g_lrounding_law_digits _ _ _))))) (mss_cons (ms_set (i := 6) nd rfl (.inl v_lrounding_6) (me_fz (mf_call h_lrounded hr (by decide) tk (ma_cons (me_var (i := 0) rfl (.inl v_lrounding_0)) (ma_cons (me_sub (me_int) (me_var (i := 1) rfl (.inl v_lrounding_1))) (ma_cons (me_var (i := 2) rfl (.inl v_lrounding_2)) (ma_nil)))) (lng_cons (lng_cons (lng_cons lng_nil))) (hg := (g_lrounding_law_rounded _ _ _))))) (mss_cons (ms_set (i := 7) nd rfl (.inl v_lrounding_7) (me_cmp op_gt os_gt (mb_sum rfl B.sum (ma_cons (me_sl (me_var (i := 5) rfl (.inl v_lrounding_5)) (mp_some (me_int)) (mp_none)) (ma_nil)) (hg := (g_lrounding_sum _ _ _))) (me_int) (nomark _))) (mss_one (ms_ret (me_tup (ma_cons (me_var (i := 4) rfl (.inl v_lrounding_4)) (ma_cons (me_ix (me_var (i := 5) rfl (.inl v_lrounding_5)) (me_int)) (ma_cons (me_var (i := 7) rfl (.inl v_lrounding_7)) (ma_cons (me_cmp (op_eqM hr.units) os_eq (me_mod (me_var (i := 4) rfl (.inl v_lrounding_4)) (me_int)) (me_int) (nomark _)) (ma_cons (me_cmp op_lt os_lt (me_var (i := 0) rfl (.inl v_lrounding_0)) (me_int) (nomark _)) (ma_cons (me_cmp (op_eqM hr.units) os_eq (mb_abs B.abs (ma_cons (me_var (i := 6) rfl (.inl v_lrounding_6)) (ma_nil)) (hg := (g_lrounding_abs _ _ _))) (me_add (me_var (i := 4) rfl (.inl v_lrounding_4)) (me_int)) (nomark _)) (ma_cons (me_var (i := 6) rfl (.inl v_lrounding_6)) (ma_nil)))))))))))))))

abbrev s_pis_just : Stmt := top 16
theorem sc_pis_just : FnScope ["thing", "due", "part", "wanted"] ["thing", "due"] (defScope s_pis_just) := ⟨rfl, rfl, rfl, by decide +kernel, rfl, by decide +kernel, by decide +kernel⟩
theorem v_pis_just_0 : (defScope s_pis_just).names.lookup ("thing" : Str) = some NameKind.local := by decide +kernel
theorem v_pis_just_1 : (defScope s_pis_just).names.lookup ("due" : Str) = some NameKind.local := by decide +kernel
theorem g_pis_just_tuple (L a : Addr) (cd : Value) : (PyProof.Rows.envOfC "is_just" (defScope s_pis_just) L a cd).kindOf ("tuple" : Str) = some NameKind.globalImplicit := rfl
theorem g_pis_just_isinstance (L a : Addr) (cd : Value) : (PyProof.Rows.envOfC "is_just" (defScope s_pis_just) L a cd).kindOf ("isinstance" : Str) = some NameKind.globalImplicit := rfl
theorem g_pis_just_len (L a : Addr) (cd : Value) : (PyProof.Rows.envOfC "is_just" (defScope s_pis_just) L a cd).kindOf ("len" : Str) = some NameKind.globalImplicit := rfl
theorem g_pis_just_zip (L a : Addr) (cd : Value) : (PyProof.Rows.envOfC "is_just" (defScope s_pis_just) L a cd).kindOf ("zip" : Str) = some NameKind.globalImplicit := rfl
theorem g_pis_just_all (L a : Addr) (cd : Value) : (PyProof.Rows.envOfC "is_just" (defScope s_pis_just) L a cd).kindOf ("all" : Str) = some NameKind.globalImplicit := rfl
theorem g_pis_just_str (L a : Addr) (cd : Value) : (PyProof.Rows.envOfC "is_just" (defScope s_pis_just) L a cd).kindOf ("str" : Str) = some NameKind.globalImplicit := rfl
theorem g_pis_just_int (L a : Addr) (cd : Value) : (PyProof.Rows.envOfC "is_just" (defScope s_pis_just) L a cd).kindOf ("int" : Str) = some NameKind.globalImplicit := rfl
theorem g_pis_just_bool (L a : Addr) (cd : Value) : (PyProof.Rows.envOfC "is_just" (defScope s_pis_just) L a cd).kindOf ("bool" : Str) = some NameKind.globalImplicit := rfl
theorem ok_pis_just {P : Program} {w : World} {K : PySem.W.Frag} {mg : Str → Option Value} {base : Heap} {f : Addr} {fd : FuncData} (F : Fun K "is_just" "is_just" s_pis_just f fd) (hs : mg "is_just" = some (.ref f)) (hk : PySem.W.keepIn K (.ref f) = true) (hb : Binds K fd ["thing", "due"] []) (B : Bn mg)     :
    ∀ n : Nat, FnOk P w K mg base (L2N.CX P w) (2 + n) f fd ["thing", "due"] (spF K mg 2 [] (mRec 4 [] m_pis_just n)) := by
  intro n
  induction n with
  | zero => exact fn_off
  | succ n ih =>
  have h_self : Fd P w K mg base "is_just" (2 + n) ["thing", "due"] [] (mRec 4 [] m_pis_just n) := ⟨_, _, ih, hs, hk, hb⟩
  refine fn_ok F sc_pis_just (by decide) (by decide) fun cdv A outer s H E hr => ?_
  have nd := sc_pis_just.nd
  have tk : L2N.Takes (cxOf (L2N.CX P w) P w K mg base ["thing", "due", "part", "wanted"] "is_just" (defScope s_pis_just) f cdv A outer s H E) (fun cls d _ H => E cls d H) := L2N.takes_of rfl rfl rfl rfl
  have pn : PassesOwn (model P w) (cxOf (L2N.CX P w) P w K mg base ["thing", "due", "part", "wanted"] "is_just" (defScope s_pis_just) f cdv A outer s H E).A (cxOf (L2N.CX P w) P w K mg base ["thing", "due", "part", "wanted"] "is_just" (defScope s_pis_just) f cdv A outer s H E).env (cxOf (L2N.CX P w) P w K mg base ["thing", "due", "part", "wanted"] "is_just" (defScope s_pis_just) f cdv A outer s H E).xe := passes_of rfl
  show PSs _ _ (rdS _ (m_pis_just (mRec 4 [] m_pis_just n)))
  unfold m_pis_just
  exact mss_cons (ms_if (mt_val (mb_isi B.isinstance (ma_cons (me_var (i := 1) rfl (.inl v_pis_just_1)) (ma_cons (me_bltn B.tuple (by decide +kernel) (w := .ty "tuple") rfl (hg := (g_pis_just_tuple _ _ _))) ma_nil)) (hg := (g_pis_just_isinstance _ _ _)))) (mss_cons (ms_if (PW.pt (mw_or (mt_not (mt_val (mb_isi B.isinstance (ma_cons (me_var (i := 0) rfl (.inl v_pis_just_0)) (ma_cons (me_bltn B.tuple (by decide +kernel) (w := .ty "tuple") rfl (hg := (g_pis_just_tuple _ _ _))) ma_nil)) (hg := (g_pis_just_isinstance _ _ _))))) (mw_one_or (mt_cmp (op_neM hr.units) os_ne (mb_len B.len (ma_cons (me_var (i := 0) rfl (.inl v_pis_just_0)) (ma_nil)) (hg := (g_pis_just_len _ _ _))) (mb_len B.len (ma_cons (me_var (i := 1) rfl (.inl v_pis_just_1)) (ma_nil)) (hg := (g_pis_just_len _ _ _))) (nomark _))))) (mss_one (ms_ret (me_bl))) (mss_nil)) (mss_one (ms_ret (mb_all rfl B.all (ma_cons (me_fz (mo_lc (own := [("part", 2), ("wanted", 3)]) (g := .tp [2, 3]) rfl nd (mi_zip B.zip (ma_cons (me_var (i := 0) rfl (.inl v_pis_just_0)) (ma_cons (me_var (i := 1) rfl (.inl v_pis_just_1)) (ma_nil))) (hg := (g_pis_just_zip _ _ _))) (blkOk_at (N' := ["thing", "due", "part", "wanted"]) (sc' := defScope s_pis_just) rfl rfl (by decide +kernel)) (fun _ _ _ _ _ => pg_tup rfl (pgs_cons (pg_name (i := 2) nd rfl (Or.inl rfl)) (pgs_cons (pg_name (i := 3) nd rfl (Or.inl rfl)) (pgs_nil)))) (fun _ _ _ _ _ => mts_nil) (fun _ _ _ _ _ => me_fz (mf_call0 h_self hr (by first | omega | exact Nat.le_refl _) (ma_cons (me_var (i := 2) rfl (.inl rfl)) (ma_cons (me_var (i := 3) rfl (.inl rfl)) (ma_nil))) (lng_cons (lng_cons lng_nil)) (hg := rfl))) (hbs := hbs_of rfl))) (ma_nil)) (hg := (g_pis_just_all _ _ _)))))) (mss_nil)) (mss_cons (ms_if (mt_val (mb_isi B.isinstance (ma_cons (me_var (i := 1) rfl (.inl v_pis_just_1)) (ma_cons (me_bltn B.str (by decide +kernel) (w := .ty "str") rfl (hg := (g_pis_just_str _ _ _))) ma_nil)) (hg := (g_pis_just_isinstance _ _ _)))) (mss_one (ms_ret (me_and (mb_isi B.isinstance (ma_cons (me_var (i := 0) rfl (.inl v_pis_just_0)) (ma_cons (me_bltn B.str (by decide +kernel) (w := .ty "str") rfl (hg := (g_pis_just_str _ _ _))) ma_nil)) (hg := (g_pis_just_isinstance _ _ _))) (me_one (me_cmp (op_eqM hr.units) os_eq (me_var (i := 0) rfl (.inl v_pis_just_0)) (me_var (i := 1) rfl (.inl v_pis_just_1)) (nomark _)))))) (mss_nil)) (mss_cons (ms_if (PW.pt (mw_or (mt_not (mt_val (mb_isi B.isinstance (ma_cons (me_var (i := 0) rfl (.inl v_pis_just_0)) (ma_cons (me_bltn B.int (by decide +kernel) (w := .ty "int") rfl (hg := (g_pis_just_int _ _ _))) ma_nil)) (hg := (g_pis_just_isinstance _ _ _))))) (mw_one_or (mt_cmp (op_neM hr.units) os_ne (mb_isi B.isinstance (ma_cons (me_var (i := 0) rfl (.inl v_pis_just_0)) (ma_cons (me_bltn B.bool (by decide +kernel) (w := .ty "bool") rfl (hg := (g_pis_just_bool _ _ _))) ma_nil)) (hg := (g_pis_just_isinstance _ _ _))) (mb_isi B.isinstance (ma_cons (me_var (i := 1) rfl (.inl v_pis_just_1)) (ma_cons (me_bltn B.bool (by decide +kernel) (w := .ty "bool") rfl (hg := (g_pis_just_bool _ _ _))) ma_nil)) (hg := (g_pis_just_isinstance _ _ _))) (nomark _))))) (mss_one (ms_ret (me_bl))) (mss_nil)) (mss_one (ms_ret (me_cmp (op_eqM hr.units) os_eq (me_var (i := 0) rfl (.inl v_pis_just_0)) (me_var (i := 1) rfl (.inl v_pis_just_1)) (nomark _))))))

abbrev s_ppower : Stmt := top 6
theorem sc_ppower : FnScope ["base", "many", "found", "k"] ["base", "many"] (defScope s_ppower) := ⟨rfl, rfl, rfl, by decide +kernel, rfl, by decide +kernel, by decide +kernel⟩
theorem v_ppower_0 : (defScope s_ppower).names.lookup ("base" : Str) = some NameKind.local := by decide +kernel
theorem v_ppower_1 : (defScope s_ppower).names.lookup ("many" : Str) = some NameKind.local := by decide +kernel
theorem v_ppower_2 : (defScope s_ppower).names.lookup ("found" : Str) = some NameKind.local := by decide +kernel
theorem v_ppower_3 : (defScope s_ppower).names.lookup ("k" : Str) = some NameKind.local := by decide +kernel
theorem g_ppower_range (L a : Addr) (cd : Value) : (PyProof.Rows.envOfC "power" (defScope s_ppower) L a cd).kindOf ("range" : Str) = some NameKind.globalImplicit := rfl
theorem ok_ppower {P : Program} {w : World} {K : PySem.W.Frag} {mg : Str → Option Value} {base : Heap} {f : Addr} {fd : FuncData} (F : Fun K "power" "power" s_ppower f fd) (B : Bn mg)     :
    FnOk P w K mg base (L2N.CX P w) 2 f fd ["base", "many"] (spF K mg 2 [] f_ppower) := by
  refine fn_ok F sc_ppower (by decide) (by decide) fun cdv A outer s H E hr => ?_
  have nd := sc_ppower.nd
  have tk : L2N.Takes (cxOf (L2N.CX P w) P w K mg base ["base", "many", "found", "k"] "power" (defScope s_ppower) f cdv A outer s H E) (fun cls d _ H => E cls d H) := L2N.takes_of rfl rfl rfl rfl
  have pn : PassesOwn (model P w) (cxOf (L2N.CX P w) P w K mg base ["base", "many", "found", "k"] "power" (defScope s_ppower) f cdv A outer s H E).A (cxOf (L2N.CX P w) P w K mg base ["base", "many", "found", "k"] "power" (defScope s_ppower) f cdv A outer s H E).env (cxOf (L2N.CX P w) P w K mg base ["base", "many", "found", "k"] "power" (defScope s_ppower) f cdv A outer s H E).xe := passes_of rfl
  unfold m_ppower
  exact mss_cons (ms_set (i := 2) nd rfl (.inl v_ppower_2) (me_int)) (mss_cons (ms_for pn rfl (mi_r1 B.range (ma_cons (me_var (i := 1) rfl (.inl v_ppower_1)) (ma_nil)) (hg := (g_ppower_range _ _ _))) (mg_name (i := 3) nd rfl (.inl v_ppower_3)) (mss_one (ms_set (i := 2) nd rfl (.inl v_ppower_2) (me_mul (me_var (i := 2) rfl (.inl v_ppower_2)) (me_var (i := 0) rfl (.inl v_ppower_0)))))) (mss_one (ms_ret (me_var (i := 2) rfl (.inl v_ppower_2)))))

abbrev s_pone_more : Stmt := top 9
theorem sc_pone_more : FnScope ["size", "rest", "ten", "rule", "below"] ["size", "rest", "ten", "rule", "below"] (defScope s_pone_more) := ⟨rfl, rfl, rfl, by decide +kernel, rfl, by decide +kernel, by decide +kernel⟩
theorem v_pone_more_0 : (defScope s_pone_more).names.lookup ("size" : Str) = some NameKind.local := by decide +kernel
theorem v_pone_more_1 : (defScope s_pone_more).names.lookup ("rest" : Str) = some NameKind.local := by decide +kernel
theorem v_pone_more_2 : (defScope s_pone_more).names.lookup ("ten" : Str) = some NameKind.local := by decide +kernel
theorem v_pone_more_3 : (defScope s_pone_more).names.lookup ("rule" : Str) = some NameKind.local := by decide +kernel
theorem v_pone_more_4 : (defScope s_pone_more).names.lookup ("below" : Str) = some NameKind.local := by decide +kernel
theorem ok_pone_more {P : Program} {w : World} {K : PySem.W.Frag} {mg : Str → Option Value} {base : Heap} {f : Addr} {fd : FuncData} (F : Fun K "one_more" "one_more" s_pone_more f fd) (B : Bn mg)     :
    FnOk P w K mg base (L2N.CX P w) 2 f fd ["size", "rest", "ten", "rule", "below"] (spF K mg 5 [] f_pone_more) := by
  refine fn_ok F sc_pone_more (by decide) (by decide) fun cdv A outer s H E hr => ?_
  have nd := sc_pone_more.nd
  have tk : L2N.Takes (cxOf (L2N.CX P w) P w K mg base ["size", "rest", "ten", "rule", "below"] "one_more" (defScope s_pone_more) f cdv A outer s H E) (fun cls d _ H => E cls d H) := L2N.takes_of rfl rfl rfl rfl
  have pn : PassesOwn (model P w) (cxOf (L2N.CX P w) P w K mg base ["size", "rest", "ten", "rule", "below"] "one_more" (defScope s_pone_more) f cdv A outer s H E).A (cxOf (L2N.CX P w) P w K mg base ["size", "rest", "ten", "rule", "below"] "one_more" (defScope s_pone_more) f cdv A outer s H E).env (cxOf (L2N.CX P w) P w K mg base ["size", "rest", "ten", "rule", "below"] "one_more" (defScope s_pone_more) f cdv A outer s H E).xe := passes_of rfl
  unfold m_pone_more
  exact mss_cons (ms_if (mt_cmp (op_eqM hr.units) os_eq (me_var (i := 3) rfl (.inl v_pone_more_3)) (me_str) (nomark _)) (mss_one (ms_ret (me_cmp op_gt os_gt (me_var (i := 1) rfl (.inl v_pone_more_1)) (me_int) (nomark _)))) (mss_nil)) (mss_cons (ms_if (mt_cmp (op_eqM hr.units) os_eq (me_var (i := 3) rfl (.inl v_pone_more_3)) (me_str) (nomark _)) (mss_one (ms_ret (me_cmp op_ge os_ge (me_mul (me_int) (me_var (i := 1) rfl (.inl v_pone_more_1))) (me_var (i := 2) rfl (.inl v_pone_more_2)) (nomark _)))) (mss_nil)) (mss_cons (ms_if (mt_cmp (op_eqM hr.units) os_eq (me_var (i := 3) rfl (.inl v_pone_more_3)) (me_str) (nomark _)) (mss_one (ms_ret (me_or (me_cmp op_gt os_gt (me_mul (me_int) (me_var (i := 1) rfl (.inl v_pone_more_1))) (me_var (i := 2) rfl (.inl v_pone_more_2)) (nomark _)) (me_one (me_and (me_cmp (op_eqM hr.units) os_eq (me_mul (me_int) (me_var (i := 1) rfl (.inl v_pone_more_1))) (me_var (i := 2) rfl (.inl v_pone_more_2)) (nomark _)) (me_one (me_cmp (op_eqM hr.units) os_eq (me_mod (me_var (i := 0) rfl (.inl v_pone_more_0)) (me_int)) (me_int) (nomark _)))))))) (mss_nil)) (mss_cons (ms_if (mt_cmp (op_eqM hr.units) os_eq (me_var (i := 3) rfl (.inl v_pone_more_3)) (me_str) (nomark _)) (mss_one (ms_ret (me_and (me_cmp op_gt os_gt (me_var (i := 1) rfl (.inl v_pone_more_1)) (me_int) (nomark _)) (me_one (me_var (i := 4) rfl (.inl v_pone_more_4)))))) (mss_nil)) (mss_one (ms_ret (me_and (me_cmp (op_eqM hr.units) os_eq (me_var (i := 3) rfl (.inl v_pone_more_3)) (me_str) (nomark _)) (me_and (me_cmp op_gt os_gt (me_var (i := 1) rfl (.inl v_pone_more_1)) (me_int) (nomark _)) (me_one (me_not (me_var (i := 4) rfl (.inl v_pone_more_4)))))))))))

abbrev s_prounded : Stmt := top 10
theorem sc_prounded : FnScope ["number", "by", "rule", "ten", "size"] ["number", "by", "rule"] (defScope s_prounded) := ⟨rfl, rfl, rfl, by decide +kernel, rfl, by decide +kernel, by decide +kernel⟩
theorem v_prounded_0 : (defScope s_prounded).names.lookup ("number" : Str) = some NameKind.local := by decide +kernel
theorem v_prounded_1 : (defScope s_prounded).names.lookup ("by" : Str) = some NameKind.local := by decide +kernel
theorem v_prounded_2 : (defScope s_prounded).names.lookup ("rule" : Str) = some NameKind.local := by decide +kernel
theorem v_prounded_3 : (defScope s_prounded).names.lookup ("ten" : Str) = some NameKind.local := by decide +kernel
theorem v_prounded_4 : (defScope s_prounded).names.lookup ("size" : Str) = some NameKind.local := by decide +kernel
theorem g_prounded_RULES (L a : Addr) (cd : Value) : (PyProof.Rows.envOfC "rounded" (defScope s_prounded) L a cd).kindOf ("RULES" : Str) = some NameKind.globalImplicit := rfl
theorem g_prounded_NoRule (L a : Addr) (cd : Value) : (PyProof.Rows.envOfC "rounded" (defScope s_prounded) L a cd).kindOf ("NoRule" : Str) = some NameKind.globalImplicit := rfl
theorem g_prounded_power (L a : Addr) (cd : Value) : (PyProof.Rows.envOfC "rounded" (defScope s_prounded) L a cd).kindOf ("power" : Str) = some NameKind.globalImplicit := rfl
theorem g_prounded_abs (L a : Addr) (cd : Value) : (PyProof.Rows.envOfC "rounded" (defScope s_prounded) L a cd).kindOf ("abs" : Str) = some NameKind.globalImplicit := rfl
theorem g_prounded_one_more (L a : Addr) (cd : Value) : (PyProof.Rows.envOfC "rounded" (defScope s_prounded) L a cd).kindOf ("one_more" : Str) = some NameKind.globalImplicit := rfl
theorem g_prounded_int (L a : Addr) (cd : Value) : (PyProof.Rows.envOfC "rounded" (defScope s_prounded) L a cd).kindOf ("int" : Str) = some NameKind.globalImplicit := rfl
theorem ok_prounded {P : Program} {w : World} {K : PySem.W.Frag} {mg : Str → Option Value} {base : Heap} {f : Addr} {fd : FuncData} (F : Fun K "rounded" "rounded" s_prounded f fd) (B : Bn mg) (h_ppower : Fd P w K mg base "power" 2 ["base", "many"] [] f_ppower) (h_pone_more : Fd P w K mg base "one_more" 2 ["size", "rest", "ten", "rule", "below"] [] f_pone_more)  (xcl1_NoRule_rule : Cl1 P w K mg base "NoRule" "rule") (c_RULES : Cst K mg "RULES" (.tup [(.str "cut"), (.str "up"), (.str "half"), (.str "even"), (.str "floor"), (.str "ceil")])) :
    FnOk P w K mg base (L2N.CX P w) 4 f fd ["number", "by", "rule"] (spF K mg 3 [] f_prounded) := by
  refine fn_ok F sc_prounded (by decide) (by decide) fun cdv A outer s H E hr => ?_
  have nd := sc_prounded.nd
  have tk : L2N.Takes (cxOf (L2N.CX P w) P w K mg base ["number", "by", "rule", "ten", "size"] "rounded" (defScope s_prounded) f cdv A outer s H E) (fun cls d _ H => E cls d H) := L2N.takes_of rfl rfl rfl rfl
  have pn : PassesOwn (model P w) (cxOf (L2N.CX P w) P w K mg base ["number", "by", "rule", "ten", "size"] "rounded" (defScope s_prounded) f cdv A outer s H E).A (cxOf (L2N.CX P w) P w K mg base ["number", "by", "rule", "ten", "size"] "rounded" (defScope s_prounded) f cdv A outer s H E).env (cxOf (L2N.CX P w) P w K mg base ["number", "by", "rule", "ten", "size"] "rounded" (defScope s_prounded) f cdv A outer s H E).xe := passes_of rfl
  unfold m_prounded
  exact mss_cons (ms_if (mt_cmp op_notInM os_notIn (me_var (i := 2) rfl (.inl v_prounded_2)) (mf_con c_RULES (hg := (g_prounded_RULES _ _ _))) rfl) (mss_one (ms_raise1 xcl1_NoRule_rule rfl hr (by decide) tk (g_prounded_NoRule _ _ _) (me_var (i := 2) rfl (.inl v_prounded_2)))) (mss_nil)) (mss_cons (ms_if (mt_cmp op_ge os_ge (me_var (i := 1) rfl (.inl v_prounded_1)) (me_int) (nomark _)) (mss_one (ms_ret (me_mul (me_var (i := 0) rfl (.inl v_prounded_0)) (me_fz (mf_call h_ppower hr (by decide) tk (ma_cons (me_int) (ma_cons (me_var (i := 1) rfl (.inl v_prounded_1)) (ma_nil))) (lng_cons (lng_cons lng_nil)) (hg := (g_prounded_power _ _ _))))))) (mss_nil)) (mss_cons (ms_set (i := 3) nd rfl (.inl v_prounded_3) (me_fz (mf_call h_ppower hr (by decide) tk (ma_cons (me_int) (ma_cons (me_neg (me_var (i := 1) rfl (.inl v_prounded_1))) (ma_nil))) (lng_cons (lng_cons lng_nil)) (hg := (g_prounded_power _ _ _))))) (mss_cons (ms_set (i := 4) nd rfl (.inl v_prounded_4) (me_div (mb_abs B.abs (ma_cons (me_var (i := 0) rfl (.inl v_prounded_0)) (ma_nil)) (hg := (g_prounded_abs _ _ _))) (me_var (i := 3) rfl (.inl v_prounded_3)))) (mss_cons (ms_set (i := 4) nd rfl (.inl v_prounded_4) (me_add (me_var (i := 4) rfl (.inl v_prounded_4)) (mb_int B.int (ma_cons (me_fz (mf_call h_pone_more hr (by decide) tk (ma_cons (me_var (i := 4) rfl (.inl v_prounded_4)) (ma_cons (me_mod (mb_abs B.abs (ma_cons (me_var (i := 0) rfl (.inl v_prounded_0)) (ma_nil)) (hg := (g_prounded_abs _ _ _))) (me_var (i := 3) rfl (.inl v_prounded_3))) (ma_cons (me_var (i := 3) rfl (.inl v_prounded_3)) (ma_cons (me_var (i := 2) rfl (.inl v_prounded_2)) (ma_cons (me_cmp op_lt os_lt (me_var (i := 0) rfl (.inl v_prounded_0)) (me_int) (nomark _)) (ma_nil)))))) (lng_cons (lng_cons (lng_cons (lng_cons (lng_cons lng_nil))))) (hg := (g_prounded_one_more _ _ _)))) (ma_nil)) (hg := (g_prounded_int _ _ _))))) (mss_cons (ms_if (mt_cmp op_lt os_lt (me_var (i := 0) rfl (.inl v_prounded_0)) (me_int) (nomark _)) (mss_one (ms_ret (me_neg (me_var (i := 4) rfl (.inl v_prounded_4))))) (mss_nil)) (mss_one (ms_ret (me_var (i := 4) rfl (.inl v_prounded_4)))))))))

abbrev s_prounding : Stmt := top 14
theorem sc_prounding : FnScope ["number", "by", "rule", "found", "size", "rest", "first", "others"] ["number", "by", "rule"] (defScope s_prounding) := ⟨rfl, rfl, rfl, by decide +kernel, rfl, by decide +kernel, by decide +kernel⟩
theorem v_prounding_0 : (defScope s_prounding).names.lookup ("number" : Str) = some NameKind.local := by decide +kernel
theorem v_prounding_1 : (defScope s_prounding).names.lookup ("by" : Str) = some NameKind.local := by decide +kernel
theorem v_prounding_2 : (defScope s_prounding).names.lookup ("rule" : Str) = some NameKind.local := by decide +kernel
theorem v_prounding_3 : (defScope s_prounding).names.lookup ("found" : Str) = some NameKind.local := by decide +kernel
theorem v_prounding_4 : (defScope s_prounding).names.lookup ("size" : Str) = some NameKind.local := by decide +kernel
theorem v_prounding_5 : (defScope s_prounding).names.lookup ("rest" : Str) = some NameKind.local := by decide +kernel
theorem v_prounding_6 : (defScope s_prounding).names.lookup ("first" : Str) = some NameKind.local := by decide +kernel
theorem v_prounding_7 : (defScope s_prounding).names.lookup ("others" : Str) = some NameKind.local := by decide +kernel
theorem g_prounding_RULES (L a : Addr) (cd : Value) : (PyProof.Rows.envOfC "rounding" (defScope s_prounding) L a cd).kindOf ("RULES" : Str) = some NameKind.globalImplicit := rfl
theorem g_prounding_NoRule (L a : Addr) (cd : Value) : (PyProof.Rows.envOfC "rounding" (defScope s_prounding) L a cd).kindOf ("NoRule" : Str) = some NameKind.globalImplicit := rfl
theorem g_prounding_MOST_FIGURES (L a : Addr) (cd : Value) : (PyProof.Rows.envOfC "rounding" (defScope s_prounding) L a cd).kindOf ("MOST_FIGURES" : Str) = some NameKind.globalImplicit := rfl
theorem g_prounding_TooLong (L a : Addr) (cd : Value) : (PyProof.Rows.envOfC "rounding" (defScope s_prounding) L a cd).kindOf ("TooLong" : Str) = some NameKind.globalImplicit := rfl
theorem g_prounding_BOUND (L a : Addr) (cd : Value) : (PyProof.Rows.envOfC "rounding" (defScope s_prounding) L a cd).kindOf ("BOUND" : Str) = some NameKind.globalImplicit := rfl
theorem g_prounding_NoFit (L a : Addr) (cd : Value) : (PyProof.Rows.envOfC "rounding" (defScope s_prounding) L a cd).kindOf ("NoFit" : Str) = some NameKind.globalImplicit := rfl
theorem g_prounding_rounded (L a : Addr) (cd : Value) : (PyProof.Rows.envOfC "rounding" (defScope s_prounding) L a cd).kindOf ("rounded" : Str) = some NameKind.globalImplicit := rfl
theorem g_prounding_power (L a : Addr) (cd : Value) : (PyProof.Rows.envOfC "rounding" (defScope s_prounding) L a cd).kindOf ("power" : Str) = some NameKind.globalImplicit := rfl
theorem g_prounding_abs (L a : Addr) (cd : Value) : (PyProof.Rows.envOfC "rounding" (defScope s_prounding) L a cd).kindOf ("abs" : Str) = some NameKind.globalImplicit := rfl
theorem g_prounding_divmod (L a : Addr) (cd : Value) : (PyProof.Rows.envOfC "rounding" (defScope s_prounding) L a cd).kindOf ("divmod" : Str) = some NameKind.globalImplicit := rfl
theorem ok_prounding {P : Program} {w : World} {K : PySem.W.Frag} {mg : Str → Option Value} {base : Heap} {f : Addr} {fd : FuncData} (F : Fun K "rounding" "rounding" s_prounding f fd) (B : Bn mg) (h_prounded : Fd P w K mg base "rounded" 4 ["number", "by", "rule"] [] f_prounded) (h_ppower : Fd P w K mg base "power" 2 ["base", "many"] [] f_ppower)  (xcl1_NoRule_rule : Cl1 P w K mg base "NoRule" "rule") (xcl1_TooLong_number : Cl1 P w K mg base "TooLong" "number") (xcl1_NoFit_number : Cl1 P w K mg base "NoFit" "number") (c_RULES : Cst K mg "RULES" (.tup [(.str "cut"), (.str "up"), (.str "half"), (.str "even"), (.str "floor"), (.str "ceil")])) (c_MOST_FIGURES : Cst K mg "MOST_FIGURES" (.int 12)) (c_BOUND : Cst K mg "BOUND" (.int 1000000000000)) :
    FnOk P w K mg base (L2N.CX P w) 6 f fd ["number", "by", "rule"] (spF K mg 3 [] f_prounding) := by
  refine fn_ok F sc_prounding (by decide) (by decide) fun cdv A outer s H E hr => ?_
  have nd := sc_prounding.nd
  have tk : L2N.Takes (cxOf (L2N.CX P w) P w K mg base ["number", "by", "rule", "found", "size", "rest", "first", "others"] "rounding" (defScope s_prounding) f cdv A outer s H E) (fun cls d _ H => E cls d H) := L2N.takes_of rfl rfl rfl rfl
  have pn : PassesOwn (model P w) (cxOf (L2N.CX P w) P w K mg base ["number", "by", "rule", "found", "size", "rest", "first", "others"] "rounding" (defScope s_prounding) f cdv A outer s H E).A (cxOf (L2N.CX P w) P w K mg base ["number", "by", "rule", "found", "size", "rest", "first", "others"] "rounding" (defScope s_prounding) f cdv A outer s H E).env (cxOf (L2N.CX P w) P w K mg base ["number", "by", "rule", "found", "size", "rest", "first", "others"] "rounding" (defScope s_prounding) f cdv A outer s H E).xe := passes_of rfl
  unfold m_prounding
  exact mss_cons (ms_if (mt_cmp op_notInM os_notIn (me_var (i := 2) rfl (.inl v_prounding_2)) (mf_con c_RULES (hg := (g_prounding_RULES _ _ _))) rfl) (mss_one (ms_raise1 xcl1_NoRule_rule rfl hr (by decide) tk (g_prounding_NoRule _ _ _) (me_var (i := 2) rfl (.inl v_prounding_2)))) (mss_nil)) (mss_cons (ms_if (mt_not (mt_chain op_le os_le op_le os_le (me_int) (me_var (i := 1) rfl (.inl v_prounding_1)) (mf_con c_MOST_FIGURES (hg := (g_prounding_MOST_FIGURES _ _ _))))) (mss_one (ms_raise1 xcl1_TooLong_number rfl hr (by decide) tk (g_prounding_TooLong _ _ _) (me_var (i := 1) rfl (.inl v_prounding_1)))) (mss_nil)) (mss_cons (ms_if (mt_not (mt_chain op_lt os_lt op_lt os_lt (me_sub (me_int) (mf_con c_BOUND (hg := (g_prounding_BOUND _ _ _)))) (me_var (i := 0) rfl (.inl v_prounding_0)) (mf_con c_BOUND (hg := (g_prounding_BOUND _ _ _))))) (mss_one (ms_raise1 xcl1_NoFit_number rfl hr (by decide) tk (g_prounding_NoFit _ _ _) (me_var (i := 0) rfl (.inl v_prounding_0)))) (mss_nil)) (mss_cons (ms_set (i := 3) nd rfl (.inl v_prounding_3) (me_fz (mf_call h_prounded hr (by decide) tk (ma_cons (me_var (i := 0) rfl (.inl v_prounding_0)) (ma_cons (me_sub (me_int) (me_var (i := 1) rfl (.inl v_prounding_1))) (ma_cons (me_var (i := 2) rfl (.inl v_prounding_2)) (ma_nil)))) (lng_cons (lng_cons (lng_cons lng_nil))) (hg := (g_prounding_rounded _ _ _))))) (mss_cons (ms_asg (mb_divW B.divmod (ma_cons (mb_abs B.abs (ma_cons (me_var (i := 0) rfl (.inl v_prounding_0)) (ma_nil)) (hg := (g_prounding_abs _ _ _))) (ma_cons (me_fz (mf_call h_ppower hr (by decide) tk (ma_cons (me_int) (ma_cons (me_var (i := 1) rfl (.inl v_prounding_1)) (ma_nil))) (lng_cons (lng_cons lng_nil)) (hg := (g_prounding_power _ _ _)))) (ma_nil))) (hg := (g_prounding_divmod _ _ _))) (mg_tup rfl (mgs_cons (mg_name (i := 4) nd rfl (.inl v_prounding_4)) (mgs_cons (mg_name (i := 5) nd rfl (.inl v_prounding_5)) (mgs_nil))))) (mss_cons (ms_asg (mb_divW B.divmod (ma_cons (me_var (i := 5) rfl (.inl v_prounding_5)) (ma_cons (me_fz (mf_call h_ppower hr (by decide) tk (ma_cons (me_int) (ma_cons (me_sub (me_var (i := 1) rfl (.inl v_prounding_1)) (me_int)) (ma_nil))) (lng_cons (lng_cons lng_nil)) (hg := (g_prounding_power _ _ _)))) (ma_nil))) (hg := (g_prounding_divmod _ _ _))) (mg_tup rfl (mgs_cons (mg_name (i := 6) nd rfl (.inl v_prounding_6)) (mgs_cons (mg_name (i := 7) nd rfl (.inl v_prounding_7)) (mgs_nil))))) (mss_one (ms_ret (me_tup (ma_cons (me_var (i := 4) rfl (.inl v_prounding_4)) (ma_cons (me_var (i := 6) rfl (.inl v_prounding_6)) (ma_cons (me_cmp op_gt os_gt (me_var (i := 7) rfl (.inl v_prounding_7)) (me_int) (nomark _)) (ma_cons (me_cmp (op_eqM hr.units) os_eq (me_mod (me_var (i := 4) rfl (.inl v_prounding_4)) (me_int)) (me_int) (nomark _)) (ma_cons (me_cmp op_lt os_lt (me_var (i := 0) rfl (.inl v_prounding_0)) (me_int) (nomark _)) (ma_cons (me_cmp (op_eqM hr.units) os_eq (mb_abs B.abs (ma_cons (me_var (i := 3) rfl (.inl v_prounding_3)) (ma_nil)) (hg := (g_prounding_abs _ _ _))) (me_add (me_var (i := 4) rfl (.inl v_prounding_4)) (me_int)) (nomark _)) (ma_cons (me_var (i := 3) rfl (.inl v_prounding_3)) (ma_nil))))))))))))))))

abbrev s_prounding_holds : Stmt := top 17
theorem sc_prounding_holds : FnScope ["number", "by", "rule", "paper"] ["number", "by", "rule", "paper"] (defScope s_prounding_holds) := ⟨rfl, rfl, rfl, by decide +kernel, rfl, by decide +kernel, by decide +kernel⟩
theorem v_prounding_holds_0 : (defScope s_prounding_holds).names.lookup ("number" : Str) = some NameKind.local := by decide +kernel
theorem v_prounding_holds_1 : (defScope s_prounding_holds).names.lookup ("by" : Str) = some NameKind.local := by decide +kernel
theorem v_prounding_holds_2 : (defScope s_prounding_holds).names.lookup ("rule" : Str) = some NameKind.local := by decide +kernel
theorem v_prounding_holds_3 : (defScope s_prounding_holds).names.lookup ("paper" : Str) = some NameKind.local := by decide +kernel
theorem g_prounding_holds_rounding (L a : Addr) (cd : Value) : (PyProof.Rows.envOfC "rounding_holds" (defScope s_prounding_holds) L a cd).kindOf ("rounding" : Str) = some NameKind.globalImplicit := rfl
theorem g_prounding_holds_is_just (L a : Addr) (cd : Value) : (PyProof.Rows.envOfC "rounding_holds" (defScope s_prounding_holds) L a cd).kindOf ("is_just" : Str) = some NameKind.globalImplicit := rfl
theorem ok_prounding_holds {P : Program} {w : World} {K : PySem.W.Frag} {mg : Str → Option Value} {base : Heap} {f : Addr} {fd : FuncData} (F : Fun K "rounding_holds" "rounding_holds" s_prounding_holds f fd) (B : Bn mg) (h_pis_just : Fd P w K mg base "is_just" 10 ["thing", "due"] [] f_pis_just) (h_prounding : Fd P w K mg base "rounding" 6 ["number", "by", "rule"] [] f_prounding)    :
    FnOk P w K mg base (L2N.CX P w) 12 f fd ["number", "by", "rule", "paper"] (spF K mg 4 [] f_prounding_holds) := by
  refine fn_ok F sc_prounding_holds (by decide) (by decide) fun cdv A outer s H E hr => ?_
  have nd := sc_prounding_holds.nd
  have tk : L2N.Takes (cxOf (L2N.CX P w) P w K mg base ["number", "by", "rule", "paper"] "rounding_holds" (defScope s_prounding_holds) f cdv A outer s H E) (fun cls d _ H => E cls d H) := L2N.takes_of rfl rfl rfl rfl
  have pn : PassesOwn (model P w) (cxOf (L2N.CX P w) P w K mg base ["number", "by", "rule", "paper"] "rounding_holds" (defScope s_prounding_holds) f cdv A outer s H E).A (cxOf (L2N.CX P w) P w K mg base ["number", "by", "rule", "paper"] "rounding_holds" (defScope s_prounding_holds) f cdv A outer s H E).env (cxOf (L2N.CX P w) P w K mg base ["number", "by", "rule", "paper"] "rounding_holds" (defScope s_prounding_holds) f cdv A outer s H E).xe := passes_of rfl
  unfold m_prounding_holds
  exact mss_one (ms_ret (me_fz (mf_call h_pis_just hr (by decide) tk (ma_cons (me_var (i := 3) rfl (.inl v_prounding_holds_3)) (ma_cons (me_fz (mf_call h_prounding hr (by decide) tk (ma_cons (me_var (i := 0) rfl (.inl v_prounding_holds_0)) (ma_cons (me_var (i := 1) rfl (.inl v_prounding_holds_1)) (ma_cons (me_var (i := 2) rfl (.inl v_prounding_holds_2)) (ma_nil)))) (lng_cons (lng_cons (lng_cons lng_nil))) (hg := (g_prounding_holds_rounding _ _ _)))) (ma_nil))) (lng_cons (lng_cons lng_nil)) (hg := (g_prounding_holds_is_just _ _ _)))))

abbrev s_lcell : Stmt := top 19
theorem sc_lcell : FnScope ["_law_script", "_law_k"] ["_law_script", "_law_k"] (defScope s_lcell) := ⟨rfl, rfl, rfl, by decide +kernel, rfl, by decide +kernel, by decide +kernel⟩
theorem v_lcell_0 : (defScope s_lcell).names.lookup ("_law_script" : Str) = some NameKind.local := by decide +kernel
theorem v_lcell_1 : (defScope s_lcell).names.lookup ("_law_k" : Str) = some NameKind.local := by decide +kernel
theorem g_lcell_len (L a : Addr) (cd : Value) : (PyProof.Rows.envOfC "_law_cell" (defScope s_lcell) L a cd).kindOf ("len" : Str) = some NameKind.globalImplicit := rfl
theorem ok_lcell {P : Program} {w : World} {K : PySem.W.Frag} {mg : Str → Option Value} {base : Heap} {f : Addr} {fd : FuncData} (F : Fun K "_law_cell" "_law_cell" s_lcell f fd) (B : Bn mg)     :
    FnOk P w K mg base (L2N.CX P w) 2 f fd ["_law_script", "_law_k"] (spF K mg 2 [] f_lcell) := by
  refine fn_ok F sc_lcell (by decide) (by decide) fun cdv A outer s H E hr => ?_
  have nd := sc_lcell.nd
  have tk : L2N.Takes (cxOf (L2N.CX P w) P w K mg base ["_law_script", "_law_k"] "_law_cell" (defScope s_lcell) f cdv A outer s H E) (fun cls d _ H => E cls d H) := L2N.takes_of rfl rfl rfl rfl
  have pn : PassesOwn (model P w) (cxOf (L2N.CX P w) P w K mg base ["_law_script", "_law_k"] "_law_cell" (defScope s_lcell) f cdv A outer s H E).A (cxOf (L2N.CX P w) P w K mg base ["_law_script", "_law_k"] "_law_cell" (defScope s_lcell) f cdv A outer s H E).env (cxOf (L2N.CX P w) P w K mg base ["_law_script", "_law_k"] "_law_cell" (defScope s_lcell) f cdv A outer s H E).xe := passes_of rfl
  unfold m_lcell
  exact mss_cons (ms_if (mt_cmp op_lt os_lt (me_var (i := 1) rfl (.inl v_lcell_1)) (mb_len B.len (ma_cons (me_var (i := 0) rfl (.inl v_lcell_0)) (ma_nil)) (hg := (g_lcell_len _ _ _))) (nomark _)) (mss_one (ms_ret (me_ix (me_var (i := 0) rfl (.inl v_lcell_0)) (me_var (i := 1) rfl (.inl v_lcell_1))))) (mss_nil)) (mss_cons (ms_if (mt_cmp (op_eqM hr.units) os_eq (mb_len B.len (ma_cons (me_var (i := 0) rfl (.inl v_lcell_0)) (ma_nil)) (hg := (g_lcell_len _ _ _))) (me_int) (nomark _)) (mss_one (ms_ret (me_mul (me_int) (me_add (me_var (i := 1) rfl (.inl v_lcell_1)) (me_int))))) (mss_nil)) (mss_one (ms_ret (me_add (me_ix (me_var (i := 0) rfl (.inl v_lcell_0)) (me_mod (me_var (i := 1) rfl (.inl v_lcell_1)) (mb_len B.len (ma_cons (me_var (i := 0) rfl (.inl v_lcell_0)) (ma_nil)) (hg := (g_lcell_len _ _ _))))) (me_mul (me_int) (me_var (i := 1) rfl (.inl v_lcell_1)))))))

abbrev s_lpart_at : Stmt := top 27
theorem sc_lpart_at : FnScope ["_law_thing", "_law_path", "_law_at"] ["_law_thing", "_law_path"] (defScope s_lpart_at) := ⟨rfl, rfl, rfl, by decide +kernel, rfl, by decide +kernel, by decide +kernel⟩
theorem v_lpart_at_0 : (defScope s_lpart_at).names.lookup ("_law_thing" : Str) = some NameKind.local := by decide +kernel
theorem v_lpart_at_1 : (defScope s_lpart_at).names.lookup ("_law_path" : Str) = some NameKind.local := by decide +kernel
theorem v_lpart_at_2 : (defScope s_lpart_at).names.lookup ("_law_at" : Str) = some NameKind.local := by decide +kernel
theorem ok_lpart_at {P : Program} {w : World} {K : PySem.W.Frag} {mg : Str → Option Value} {base : Heap} {f : Addr} {fd : FuncData} (F : Fun K "_law_part_at" "_law_part_at" s_lpart_at f fd) (B : Bn mg)     :
    FnOk P w K mg base (L2N.CX P w) 2 f fd ["_law_thing", "_law_path"] (spF K mg 2 [] f_lpart_at) := by
  refine fn_ok F sc_lpart_at (by decide) (by decide) fun cdv A outer s H E hr => ?_
  have nd := sc_lpart_at.nd
  have tk : L2N.Takes (cxOf (L2N.CX P w) P w K mg base ["_law_thing", "_law_path", "_law_at"] "_law_part_at" (defScope s_lpart_at) f cdv A outer s H E) (fun cls d _ H => E cls d H) := L2N.takes_of rfl rfl rfl rfl
  have pn : PassesOwn (model P w) (cxOf (L2N.CX P w) P w K mg base ["_law_thing", "_law_path", "_law_at"] "_law_part_at" (defScope s_lpart_at) f cdv A outer s H E).A (cxOf (L2N.CX P w) P w K mg base ["_law_thing", "_law_path", "_law_at"] "_law_part_at" (defScope s_lpart_at) f cdv A outer s H E).env (cxOf (L2N.CX P w) P w K mg base ["_law_thing", "_law_path", "_law_at"] "_law_part_at" (defScope s_lpart_at) f cdv A outer s H E).xe := passes_of rfl
  unfold m_lpart_at
  exact mss_cons (ms_for pn rfl (mi_val (me_var (i := 1) rfl (.inl v_lpart_at_1))) (mg_name (i := 2) nd rfl (.inl v_lpart_at_2)) (mss_one (ms_set (i := 0) nd rfl (.inl v_lpart_at_0) (me_ix (me_var (i := 0) rfl (.inl v_lpart_at_0)) (me_var (i := 2) rfl (.inl v_lpart_at_2)))))) (mss_one (ms_ret (me_var (i := 0) rfl (.inl v_lpart_at_0))))

abbrev s_lput_in : Stmt := top 26
theorem sc_lput_in : FnScope ["_law_thing", "_law_path", "_law_part", "_law_at"] ["_law_thing", "_law_path", "_law_part"] (defScope s_lput_in) := ⟨rfl, rfl, rfl, by decide +kernel, rfl, by decide +kernel, by decide +kernel⟩
theorem v_lput_in_0 : (defScope s_lput_in).names.lookup ("_law_thing" : Str) = some NameKind.local := by decide +kernel
theorem v_lput_in_1 : (defScope s_lput_in).names.lookup ("_law_path" : Str) = some NameKind.local := by decide +kernel
theorem v_lput_in_2 : (defScope s_lput_in).names.lookup ("_law_part" : Str) = some NameKind.local := by decide +kernel
theorem v_lput_in_3 : (defScope s_lput_in).names.lookup ("_law_at" : Str) = some NameKind.local := by decide +kernel
theorem g_lput_in_len (L a : Addr) (cd : Value) : (PyProof.Rows.envOfC "_law_put_in" (defScope s_lput_in) L a cd).kindOf ("len" : Str) = some NameKind.globalImplicit := rfl
theorem g_lput_in_law_put_in (L a : Addr) (cd : Value) : (PyProof.Rows.envOfC "_law_put_in" (defScope s_lput_in) L a cd).kindOf ("_law_put_in" : Str) = some NameKind.globalImplicit := rfl
theorem ok_lput_in {P : Program} {w : World} {K : PySem.W.Frag} {mg : Str → Option Value} {base : Heap} {f : Addr} {fd : FuncData} (F : Fun K "_law_put_in" "_law_put_in" s_lput_in f fd) (hs : mg "_law_put_in" = some (.ref f)) (hk : PySem.W.keepIn K (.ref f) = true) (hb : Binds K fd ["_law_thing", "_law_path", "_law_part"] []) (B : Bn mg)     :
    ∀ n : Nat, FnOk P w K mg base (L2N.CX P w) (2 + n) f fd ["_law_thing", "_law_path", "_law_part"] (spF K mg 3 [] (mRec 4 [] m_lput_in n)) := by
  intro n
  induction n with
  | zero => exact fn_off
  | succ n ih =>
  have h_self : Fd P w K mg base "_law_put_in" (2 + n) ["_law_thing", "_law_path", "_law_part"] [] (mRec 4 [] m_lput_in n) := ⟨_, _, ih, hs, hk, hb⟩
  refine fn_ok F sc_lput_in (by decide) (by decide) fun cdv A outer s H E hr => ?_
  have nd := sc_lput_in.nd
  have tk : L2N.Takes (cxOf (L2N.CX P w) P w K mg base ["_law_thing", "_law_path", "_law_part", "_law_at"] "_law_put_in" (defScope s_lput_in) f cdv A outer s H E) (fun cls d _ H => E cls d H) := L2N.takes_of rfl rfl rfl rfl
  have pn : PassesOwn (model P w) (cxOf (L2N.CX P w) P w K mg base ["_law_thing", "_law_path", "_law_part", "_law_at"] "_law_put_in" (defScope s_lput_in) f cdv A outer s H E).A (cxOf (L2N.CX P w) P w K mg base ["_law_thing", "_law_path", "_law_part", "_law_at"] "_law_put_in" (defScope s_lput_in) f cdv A outer s H E).env (cxOf (L2N.CX P w) P w K mg base ["_law_thing", "_law_path", "_law_part", "_law_at"] "_law_put_in" (defScope s_lput_in) f cdv A outer s H E).xe := passes_of rfl
  show PSs _ _ (rdS _ (m_lput_in (mRec 4 [] m_lput_in n)))
  unfold m_lput_in
  exact mss_cons (ms_if (mt_cmp (op_eqM hr.units) os_eq (mb_len B.len (ma_cons (me_var (i := 1) rfl (.inl v_lput_in_1)) (ma_nil)) (hg := (g_lput_in_len _ _ _))) (me_int) (nomark _)) (mss_one (ms_ret (me_var (i := 2) rfl (.inl v_lput_in_2)))) (mss_nil)) (mss_cons (ms_set (i := 3) nd rfl (.inl v_lput_in_3) (me_ix (me_var (i := 1) rfl (.inl v_lput_in_1)) (me_int))) (mss_one (ms_ret (me_add (me_add (me_sl (me_var (i := 0) rfl (.inl v_lput_in_0)) (mp_none) (mp_some (me_var (i := 3) rfl (.inl v_lput_in_3)))) (me_tup (ma_cons (me_fz (mf_call h_self hr (by first | omega | exact Nat.le_refl _) tk (ma_cons (me_ix (me_var (i := 0) rfl (.inl v_lput_in_0)) (me_var (i := 3) rfl (.inl v_lput_in_3))) (ma_cons (me_sl (me_var (i := 1) rfl (.inl v_lput_in_1)) (mp_some (me_int)) (mp_none)) (ma_cons (me_var (i := 2) rfl (.inl v_lput_in_2)) (ma_nil)))) (lng_cons (lng_cons (lng_cons lng_nil))) (hg := (g_lput_in_law_put_in _ _ _)))) (ma_nil)))) (me_sl (me_var (i := 0) rfl (.inl v_lput_in_0)) (mp_some (me_add (me_var (i := 3) rfl (.inl v_lput_in_3)) (me_int))) (mp_none))))))

abbrev s_lpaper_cells : Stmt := top 24
theorem sc_lpaper_cells : FnScope ["_law_thing", "_law_path", "_law_found", "_law_at", "_law_part"] ["_law_thing", "_law_path"] (defScope s_lpaper_cells) := ⟨rfl, rfl, rfl, by decide +kernel, rfl, by decide +kernel, by decide +kernel⟩
theorem v_lpaper_cells_0 : (defScope s_lpaper_cells).names.lookup ("_law_thing" : Str) = some NameKind.local := by decide +kernel
theorem v_lpaper_cells_1 : (defScope s_lpaper_cells).names.lookup ("_law_path" : Str) = some NameKind.local := by decide +kernel
theorem v_lpaper_cells_2 : (defScope s_lpaper_cells).names.lookup ("_law_found" : Str) = some NameKind.local := by decide +kernel
theorem v_lpaper_cells_3 : (defScope s_lpaper_cells).names.lookup ("_law_at" : Str) = some NameKind.local := by decide +kernel
theorem v_lpaper_cells_4 : (defScope s_lpaper_cells).names.lookup ("_law_part" : Str) = some NameKind.local := by decide +kernel
theorem g_lpaper_cells_tuple (L a : Addr) (cd : Value) : (PyProof.Rows.envOfC "_law_paper_cells" (defScope s_lpaper_cells) L a cd).kindOf ("tuple" : Str) = some NameKind.globalImplicit := rfl
theorem g_lpaper_cells_isinstance (L a : Addr) (cd : Value) : (PyProof.Rows.envOfC "_law_paper_cells" (defScope s_lpaper_cells) L a cd).kindOf ("isinstance" : Str) = some NameKind.globalImplicit := rfl
theorem g_lpaper_cells_enumerate (L a : Addr) (cd : Value) : (PyProof.Rows.envOfC "_law_paper_cells" (defScope s_lpaper_cells) L a cd).kindOf ("enumerate" : Str) = some NameKind.globalImplicit := rfl
theorem g_lpaper_cells_law_paper_cells (L a : Addr) (cd : Value) : (PyProof.Rows.envOfC "_law_paper_cells" (defScope s_lpaper_cells) L a cd).kindOf ("_law_paper_cells" : Str) = some NameKind.globalImplicit := rfl
theorem ok_lpaper_cells {P : Program} {w : World} {K : PySem.W.Frag} {mg : Str → Option Value} {base : Heap} {f : Addr} {fd : FuncData} (F : Fun K "_law_paper_cells" "_law_paper_cells" s_lpaper_cells f fd) (hs : mg "_law_paper_cells" = some (.ref f)) (hk : PySem.W.keepIn K (.ref f) = true) (hb : Binds K fd ["_law_thing", "_law_path"] []) (B : Bn mg)     :
    ∀ n : Nat, FnOk P w K mg base (L2N.CX P w) (2 + n) f fd ["_law_thing", "_law_path"] (spF K mg 2 [] (mRec 5 [] m_lpaper_cells n)) := by
  intro n
  induction n with
  | zero => exact fn_off
  | succ n ih =>
  have h_self : Fd P w K mg base "_law_paper_cells" (2 + n) ["_law_thing", "_law_path"] [] (mRec 5 [] m_lpaper_cells n) := ⟨_, _, ih, hs, hk, hb⟩
  refine fn_ok F sc_lpaper_cells (by decide) (by decide) fun cdv A outer s H E hr => ?_
  have nd := sc_lpaper_cells.nd
  have tk : L2N.Takes (cxOf (L2N.CX P w) P w K mg base ["_law_thing", "_law_path", "_law_found", "_law_at", "_law_part"] "_law_paper_cells" (defScope s_lpaper_cells) f cdv A outer s H E) (fun cls d _ H => E cls d H) := L2N.takes_of rfl rfl rfl rfl
  have pn : PassesOwn (model P w) (cxOf (L2N.CX P w) P w K mg base ["_law_thing", "_law_path", "_law_found", "_law_at", "_law_part"] "_law_paper_cells" (defScope s_lpaper_cells) f cdv A outer s H E).A (cxOf (L2N.CX P w) P w K mg base ["_law_thing", "_law_path", "_law_found", "_law_at", "_law_part"] "_law_paper_cells" (defScope s_lpaper_cells) f cdv A outer s H E).env (cxOf (L2N.CX P w) P w K mg base ["_law_thing", "_law_path", "_law_found", "_law_at", "_law_part"] "_law_paper_cells" (defScope s_lpaper_cells) f cdv A outer s H E).xe := passes_of rfl
  show PSs _ _ (rdS _ (m_lpaper_cells (mRec 5 [] m_lpaper_cells n)))
  unfold m_lpaper_cells
  exact mss_cons (ms_if (mt_not (mt_val (mb_isi B.isinstance (ma_cons (me_var (i := 0) rfl (.inl v_lpaper_cells_0)) (ma_cons (me_bltn B.tuple (by decide +kernel) (w := .ty "tuple") rfl (hg := (g_lpaper_cells_tuple _ _ _))) ma_nil)) (hg := (g_lpaper_cells_isinstance _ _ _))))) (mss_one (ms_ret (me_lst (ma_cons (me_var (i := 1) rfl (.inl v_lpaper_cells_1)) (ma_nil))))) (mss_nil)) (mss_cons (ms_setO (i := 2) nd rfl (.inl v_lpaper_cells_2) (mo_lst (ma_nil))) (mss_cons (ms_for pn rfl (mi_enumT B.enumerate (ma_cons (me_var (i := 0) rfl (.inl v_lpaper_cells_0)) (ma_nil)) (hg := (g_lpaper_cells_enumerate _ _ _))) (mg_tup rfl (mgs_cons (mg_name (i := 3) nd rfl (.inl v_lpaper_cells_3)) (mgs_cons (mg_name (i := 4) nd rfl (.inl v_lpaper_cells_4)) (mgs_nil)))) (mss_one (ms_expr (me_lm1 ls_extend PySem.F.slot_list_extend PySem.F.type_list_extend mt_extend (i := 2) rfl (.inl v_lpaper_cells_2) (ma_cons (me_fz (mf_call h_self hr (by first | omega | exact Nat.le_refl _) tk (ma_cons (me_var (i := 4) rfl (.inl v_lpaper_cells_4)) (ma_cons (me_add (me_var (i := 1) rfl (.inl v_lpaper_cells_1)) (me_tup (ma_cons (me_var (i := 3) rfl (.inl v_lpaper_cells_3)) (ma_nil)))) (ma_nil))) (lng_cons (lng_cons lng_nil)) (hg := (g_lpaper_cells_law_paper_cells _ _ _)))) (ma_nil)))))) (mss_one (ms_retO (mo_var (i := 2) rfl (.inl v_lpaper_cells_2))))))

abbrev s_lpaper_tuples : Stmt := top 25
theorem sc_lpaper_tuples : FnScope ["_law_thing", "_law_path", "_law_found", "_law_at", "_law_part"] ["_law_thing", "_law_path"] (defScope s_lpaper_tuples) := ⟨rfl, rfl, rfl, by decide +kernel, rfl, by decide +kernel, by decide +kernel⟩
theorem v_lpaper_tuples_0 : (defScope s_lpaper_tuples).names.lookup ("_law_thing" : Str) = some NameKind.local := by decide +kernel
theorem v_lpaper_tuples_1 : (defScope s_lpaper_tuples).names.lookup ("_law_path" : Str) = some NameKind.local := by decide +kernel
theorem v_lpaper_tuples_2 : (defScope s_lpaper_tuples).names.lookup ("_law_found" : Str) = some NameKind.local := by decide +kernel
theorem v_lpaper_tuples_3 : (defScope s_lpaper_tuples).names.lookup ("_law_at" : Str) = some NameKind.local := by decide +kernel
theorem v_lpaper_tuples_4 : (defScope s_lpaper_tuples).names.lookup ("_law_part" : Str) = some NameKind.local := by decide +kernel
theorem g_lpaper_tuples_tuple (L a : Addr) (cd : Value) : (PyProof.Rows.envOfC "_law_paper_tuples" (defScope s_lpaper_tuples) L a cd).kindOf ("tuple" : Str) = some NameKind.globalImplicit := rfl
theorem g_lpaper_tuples_isinstance (L a : Addr) (cd : Value) : (PyProof.Rows.envOfC "_law_paper_tuples" (defScope s_lpaper_tuples) L a cd).kindOf ("isinstance" : Str) = some NameKind.globalImplicit := rfl
theorem g_lpaper_tuples_len (L a : Addr) (cd : Value) : (PyProof.Rows.envOfC "_law_paper_tuples" (defScope s_lpaper_tuples) L a cd).kindOf ("len" : Str) = some NameKind.globalImplicit := rfl
theorem g_lpaper_tuples_enumerate (L a : Addr) (cd : Value) : (PyProof.Rows.envOfC "_law_paper_tuples" (defScope s_lpaper_tuples) L a cd).kindOf ("enumerate" : Str) = some NameKind.globalImplicit := rfl
theorem g_lpaper_tuples_law_paper_tuples (L a : Addr) (cd : Value) : (PyProof.Rows.envOfC "_law_paper_tuples" (defScope s_lpaper_tuples) L a cd).kindOf ("_law_paper_tuples" : Str) = some NameKind.globalImplicit := rfl
theorem ok_lpaper_tuples {P : Program} {w : World} {K : PySem.W.Frag} {mg : Str → Option Value} {base : Heap} {f : Addr} {fd : FuncData} (F : Fun K "_law_paper_tuples" "_law_paper_tuples" s_lpaper_tuples f fd) (hs : mg "_law_paper_tuples" = some (.ref f)) (hk : PySem.W.keepIn K (.ref f) = true) (hb : Binds K fd ["_law_thing", "_law_path"] []) (B : Bn mg)     :
    ∀ n : Nat, FnOk P w K mg base (L2N.CX P w) (2 + n) f fd ["_law_thing", "_law_path"] (spF K mg 2 [] (mRec 5 [] m_lpaper_tuples n)) := by
  intro n
  induction n with
  | zero => exact fn_off
  | succ n ih =>
  have h_self : Fd P w K mg base "_law_paper_tuples" (2 + n) ["_law_thing", "_law_path"] [] (mRec 5 [] m_lpaper_tuples n) := ⟨_, _, ih, hs, hk, hb⟩
  refine fn_ok F sc_lpaper_tuples (by decide) (by decide) fun cdv A outer s H E hr => ?_
  have nd := sc_lpaper_tuples.nd
  have tk : L2N.Takes (cxOf (L2N.CX P w) P w K mg base ["_law_thing", "_law_path", "_law_found", "_law_at", "_law_part"] "_law_paper_tuples" (defScope s_lpaper_tuples) f cdv A outer s H E) (fun cls d _ H => E cls d H) := L2N.takes_of rfl rfl rfl rfl
  have pn : PassesOwn (model P w) (cxOf (L2N.CX P w) P w K mg base ["_law_thing", "_law_path", "_law_found", "_law_at", "_law_part"] "_law_paper_tuples" (defScope s_lpaper_tuples) f cdv A outer s H E).A (cxOf (L2N.CX P w) P w K mg base ["_law_thing", "_law_path", "_law_found", "_law_at", "_law_part"] "_law_paper_tuples" (defScope s_lpaper_tuples) f cdv A outer s H E).env (cxOf (L2N.CX P w) P w K mg base ["_law_thing", "_law_path", "_law_found", "_law_at", "_law_part"] "_law_paper_tuples" (defScope s_lpaper_tuples) f cdv A outer s H E).xe := passes_of rfl
  show PSs _ _ (rdS _ (m_lpaper_tuples (mRec 5 [] m_lpaper_tuples n)))
  unfold m_lpaper_tuples
  exact mss_cons (ms_setO (i := 2) nd rfl (.inl v_lpaper_tuples_2) (mo_lst (ma_nil))) (mss_cons (ms_if (PW.pt (mw_and (mt_val (mb_isi B.isinstance (ma_cons (me_var (i := 0) rfl (.inl v_lpaper_tuples_0)) (ma_cons (me_bltn B.tuple (by decide +kernel) (w := .ty "tuple") rfl (hg := (g_lpaper_tuples_tuple _ _ _))) ma_nil)) (hg := (g_lpaper_tuples_isinstance _ _ _)))) (mw_one_and (mt_cmp op_gt os_gt (mb_len B.len (ma_cons (me_var (i := 0) rfl (.inl v_lpaper_tuples_0)) (ma_nil)) (hg := (g_lpaper_tuples_len _ _ _))) (me_int) (nomark _))))) (mss_cons (ms_expr (me_lm1 ls_append PySem.F.slot_list_append PySem.F.type_list_append mt_append (i := 2) rfl (.inl v_lpaper_tuples_2) (ma_cons (me_var (i := 1) rfl (.inl v_lpaper_tuples_1)) (ma_nil)))) (mss_one (ms_for pn rfl (mi_enumT B.enumerate (ma_cons (me_var (i := 0) rfl (.inl v_lpaper_tuples_0)) (ma_nil)) (hg := (g_lpaper_tuples_enumerate _ _ _))) (mg_tup rfl (mgs_cons (mg_name (i := 3) nd rfl (.inl v_lpaper_tuples_3)) (mgs_cons (mg_name (i := 4) nd rfl (.inl v_lpaper_tuples_4)) (mgs_nil)))) (mss_one (ms_expr (me_lm1 ls_extend PySem.F.slot_list_extend PySem.F.type_list_extend mt_extend (i := 2) rfl (.inl v_lpaper_tuples_2) (ma_cons (me_fz (mf_call h_self hr (by first | omega | exact Nat.le_refl _) tk (ma_cons (me_var (i := 4) rfl (.inl v_lpaper_tuples_4)) (ma_cons (me_add (me_var (i := 1) rfl (.inl v_lpaper_tuples_1)) (me_tup (ma_cons (me_var (i := 3) rfl (.inl v_lpaper_tuples_3)) (ma_nil)))) (ma_nil))) (lng_cons (lng_cons lng_nil)) (hg := (g_lpaper_tuples_law_paper_tuples _ _ _)))) (ma_nil)))))))) (mss_nil)) (mss_one (ms_retO (mo_var (i := 2) rfl (.inl v_lpaper_tuples_2)))))

abbrev s_lchanged : Stmt := top 28
theorem sc_lchanged : FnScope ["_law_part", "_law_way", "_law_number", "_law_some"] ["_law_part", "_law_way", "_law_number"] (defScope s_lchanged) := ⟨rfl, rfl, rfl, by decide +kernel, rfl, by decide +kernel, by decide +kernel⟩
theorem v_lchanged_0 : (defScope s_lchanged).names.lookup ("_law_part" : Str) = some NameKind.local := by decide +kernel
theorem v_lchanged_1 : (defScope s_lchanged).names.lookup ("_law_way" : Str) = some NameKind.local := by decide +kernel
theorem v_lchanged_2 : (defScope s_lchanged).names.lookup ("_law_number" : Str) = some NameKind.local := by decide +kernel
theorem v_lchanged_3 : (defScope s_lchanged).names.lookup ("_law_some" : Str) = some NameKind.local := by decide +kernel
theorem g_lchanged_str (L a : Addr) (cd : Value) : (PyProof.Rows.envOfC "_law_changed" (defScope s_lchanged) L a cd).kindOf ("str" : Str) = some NameKind.globalImplicit := rfl
theorem g_lchanged_int (L a : Addr) (cd : Value) : (PyProof.Rows.envOfC "_law_changed" (defScope s_lchanged) L a cd).kindOf ("int" : Str) = some NameKind.globalImplicit := rfl
theorem g_lchanged_isinstance (L a : Addr) (cd : Value) : (PyProof.Rows.envOfC "_law_changed" (defScope s_lchanged) L a cd).kindOf ("isinstance" : Str) = some NameKind.globalImplicit := rfl
theorem g_lchanged_bool (L a : Addr) (cd : Value) : (PyProof.Rows.envOfC "_law_changed" (defScope s_lchanged) L a cd).kindOf ("bool" : Str) = some NameKind.globalImplicit := rfl
theorem ok_lchanged {P : Program} {w : World} {K : PySem.W.Frag} {mg : Str → Option Value} {base : Heap} {f : Addr} {fd : FuncData} (F : Fun K "_law_changed" "_law_changed" s_lchanged f fd) (B : Bn mg)     :
    FnOk P w K mg base (L2N.CX P w) 2 f fd ["_law_part", "_law_way", "_law_number"] (spF K mg 3 [] f_lchanged) := by
  refine fn_ok F sc_lchanged (by decide) (by decide) fun cdv A outer s H E hr => ?_
  have nd := sc_lchanged.nd
  have tk : L2N.Takes (cxOf (L2N.CX P w) P w K mg base ["_law_part", "_law_way", "_law_number", "_law_some"] "_law_changed" (defScope s_lchanged) f cdv A outer s H E) (fun cls d _ H => E cls d H) := L2N.takes_of rfl rfl rfl rfl
  have pn : PassesOwn (model P w) (cxOf (L2N.CX P w) P w K mg base ["_law_part", "_law_way", "_law_number", "_law_some"] "_law_changed" (defScope s_lchanged) f cdv A outer s H E).A (cxOf (L2N.CX P w) P w K mg base ["_law_part", "_law_way", "_law_number", "_law_some"] "_law_changed" (defScope s_lchanged) f cdv A outer s H E).env (cxOf (L2N.CX P w) P w K mg base ["_law_part", "_law_way", "_law_number", "_law_some"] "_law_changed" (defScope s_lchanged) f cdv A outer s H E).xe := passes_of rfl
  unfold m_lchanged
  exact mss_cons (ms_set (i := 3) nd rfl (.inl v_lchanged_3) (me_lst (ma_cons (me_non) (ma_cons (me_bl) (ma_cons (me_bl) (ma_cons (me_str) (ma_cons (me_str) (ma_cons (me_str) (ma_cons (me_tup (ma_nil)) (ma_cons (me_tup (ma_cons (me_var (i := 0) rfl (.inl v_lchanged_0)) (ma_nil))) (ma_cons (me_neg (me_int)) (ma_cons (me_int) (ma_cons (me_int) (ma_cons (mb_strA B.str (ma_cons (me_var (i := 0) rfl (.inl v_lchanged_0)) (ma_nil)) (hg := (g_lchanged_str _ _ _))) (ma_nil))))))))))))))) (mss_cons (ms_if (PW.pt (mw_or (mt_cmp op_gt os_gt (me_var (i := 1) rfl (.inl v_lchanged_1)) (me_int) (nomark _)) (mw_one_or (mt_not (mt_val (mb_isi B.isinstance (ma_cons (me_var (i := 0) rfl (.inl v_lchanged_0)) (ma_cons (me_bltn B.int (by decide +kernel) (w := .ty "int") rfl (hg := (g_lchanged_int _ _ _))) ma_nil)) (hg := (g_lchanged_isinstance _ _ _)))))))) (mss_one (ms_ret (me_ix (me_var (i := 3) rfl (.inl v_lchanged_3)) (me_mod (me_var (i := 2) rfl (.inl v_lchanged_2)) (me_int))))) (mss_nil)) (mss_cons (ms_if (mt_val (mb_isi B.isinstance (ma_cons (me_var (i := 0) rfl (.inl v_lchanged_0)) (ma_cons (me_bltn B.bool (by decide +kernel) (w := .ty "bool") rfl (hg := (g_lchanged_bool _ _ _))) ma_nil)) (hg := (g_lchanged_isinstance _ _ _)))) (mss_one (ms_ret (me_ix (me_lst (ma_cons (me_not (me_var (i := 0) rfl (.inl v_lchanged_0))) (ma_cons (mb_int B.int (ma_cons (me_var (i := 0) rfl (.inl v_lchanged_0)) (ma_nil)) (hg := (g_lchanged_int _ _ _))) (ma_cons (me_not (me_var (i := 0) rfl (.inl v_lchanged_0))) (ma_cons (mb_int B.int (ma_cons (me_not (me_var (i := 0) rfl (.inl v_lchanged_0))) (ma_nil)) (hg := (g_lchanged_int _ _ _))) (ma_nil)))))) (me_var (i := 1) rfl (.inl v_lchanged_1))))) (mss_nil)) (mss_one (ms_ret (me_add (me_var (i := 0) rfl (.inl v_lchanged_0)) (me_ix (me_lst (ma_cons (me_int) (ma_cons (me_neg (me_int)) (ma_cons (me_add (me_int) (me_var (i := 2) rfl (.inl v_lchanged_2))) (ma_cons (me_int) (ma_nil)))))) (me_var (i := 1) rfl (.inl v_lchanged_1))))))))

abbrev s_lpaper_spoilt : Stmt := top 29
theorem sc_lpaper_spoilt : FnScope ["_law_paper", "_law_way", "_law_at", "_law_to", "_law_number", "_law_lines", "_law_rows", "_law_fresh", "_law_paths", "_law_path", "_law_part"] ["_law_paper", "_law_way", "_law_at", "_law_to", "_law_number", "_law_lines"] (defScope s_lpaper_spoilt) := ⟨rfl, rfl, rfl, by decide +kernel, rfl, by decide +kernel, by decide +kernel⟩
theorem v_lpaper_spoilt_0 : (defScope s_lpaper_spoilt).names.lookup ("_law_paper" : Str) = some NameKind.local := by decide +kernel
theorem v_lpaper_spoilt_1 : (defScope s_lpaper_spoilt).names.lookup ("_law_way" : Str) = some NameKind.local := by decide +kernel
theorem v_lpaper_spoilt_2 : (defScope s_lpaper_spoilt).names.lookup ("_law_at" : Str) = some NameKind.local := by decide +kernel
theorem v_lpaper_spoilt_3 : (defScope s_lpaper_spoilt).names.lookup ("_law_to" : Str) = some NameKind.local := by decide +kernel
theorem v_lpaper_spoilt_4 : (defScope s_lpaper_spoilt).names.lookup ("_law_number" : Str) = some NameKind.local := by decide +kernel
theorem v_lpaper_spoilt_5 : (defScope s_lpaper_spoilt).names.lookup ("_law_lines" : Str) = some NameKind.local := by decide +kernel
theorem v_lpaper_spoilt_6 : (defScope s_lpaper_spoilt).names.lookup ("_law_rows" : Str) = some NameKind.local := by decide +kernel
theorem v_lpaper_spoilt_7 : (defScope s_lpaper_spoilt).names.lookup ("_law_fresh" : Str) = some NameKind.local := by decide +kernel
theorem v_lpaper_spoilt_8 : (defScope s_lpaper_spoilt).names.lookup ("_law_paths" : Str) = some NameKind.local := by decide +kernel
theorem v_lpaper_spoilt_9 : (defScope s_lpaper_spoilt).names.lookup ("_law_path" : Str) = some NameKind.local := by decide +kernel
theorem v_lpaper_spoilt_10 : (defScope s_lpaper_spoilt).names.lookup ("_law_part" : Str) = some NameKind.local := by decide +kernel
theorem g_lpaper_spoilt_law_paper_cells (L a : Addr) (cd : Value) : (PyProof.Rows.envOfC "_law_paper_spoilt" (defScope s_lpaper_spoilt) L a cd).kindOf ("_law_paper_cells" : Str) = some NameKind.globalImplicit := rfl
theorem g_lpaper_spoilt_len (L a : Addr) (cd : Value) : (PyProof.Rows.envOfC "_law_paper_spoilt" (defScope s_lpaper_spoilt) L a cd).kindOf ("len" : Str) = some NameKind.globalImplicit := rfl
theorem g_lpaper_spoilt_law_part_at (L a : Addr) (cd : Value) : (PyProof.Rows.envOfC "_law_paper_spoilt" (defScope s_lpaper_spoilt) L a cd).kindOf ("_law_part_at" : Str) = some NameKind.globalImplicit := rfl
theorem g_lpaper_spoilt_law_changed (L a : Addr) (cd : Value) : (PyProof.Rows.envOfC "_law_paper_spoilt" (defScope s_lpaper_spoilt) L a cd).kindOf ("_law_changed" : Str) = some NameKind.globalImplicit := rfl
theorem g_lpaper_spoilt_law_put_in (L a : Addr) (cd : Value) : (PyProof.Rows.envOfC "_law_paper_spoilt" (defScope s_lpaper_spoilt) L a cd).kindOf ("_law_put_in" : Str) = some NameKind.globalImplicit := rfl
theorem g_lpaper_spoilt_law_paper_tuples (L a : Addr) (cd : Value) : (PyProof.Rows.envOfC "_law_paper_spoilt" (defScope s_lpaper_spoilt) L a cd).kindOf ("_law_paper_tuples" : Str) = some NameKind.globalImplicit := rfl
theorem ok_lpaper_spoilt {P : Program} {w : World} {K : PySem.W.Frag} {mg : Str → Option Value} {base : Heap} {f : Addr} {fd : FuncData} (F : Fun K "_law_paper_spoilt" "_law_paper_spoilt" s_lpaper_spoilt f fd) (B : Bn mg) (h_lpaper_cells : Fd P w K mg base "_law_paper_cells" 10 ["_law_thing", "_law_path"] [] f_lpaper_cells) (h_lput_in : Fd P w K mg base "_law_put_in" 10 ["_law_thing", "_law_path", "_law_part"] [] f_lput_in) (h_lchanged : Fd P w K mg base "_law_changed" 2 ["_law_part", "_law_way", "_law_number"] [] f_lchanged) (h_lpart_at : Fd P w K mg base "_law_part_at" 2 ["_law_thing", "_law_path"] [] f_lpart_at) (h_lpaper_tuples : Fd P w K mg base "_law_paper_tuples" 10 ["_law_thing", "_law_path"] [] f_lpaper_tuples)    :
    FnOk P w K mg base (L2N.CX P w) 12 f fd ["_law_paper", "_law_way", "_law_at", "_law_to", "_law_number", "_law_lines"] (spF K mg 6 [] f_lpaper_spoilt) := by
  refine fn_ok F sc_lpaper_spoilt (by decide) (by decide) fun cdv A outer s H E hr => ?_
  have nd := sc_lpaper_spoilt.nd
  have tk : L2N.Takes (cxOf (L2N.CX P w) P w K mg base ["_law_paper", "_law_way", "_law_at", "_law_to", "_law_number", "_law_lines", "_law_rows", "_law_fresh", "_law_paths", "_law_path", "_law_part"] "_law_paper_spoilt" (defScope s_lpaper_spoilt) f cdv A outer s H E) (fun cls d _ H => E cls d H) := L2N.takes_of rfl rfl rfl rfl
  have pn : PassesOwn (model P w) (cxOf (L2N.CX P w) P w K mg base ["_law_paper", "_law_way", "_law_at", "_law_to", "_law_number", "_law_lines", "_law_rows", "_law_fresh", "_law_paths", "_law_path", "_law_part"] "_law_paper_spoilt" (defScope s_lpaper_spoilt) f cdv A outer s H E).A (cxOf (L2N.CX P w) P w K mg base ["_law_paper", "_law_way", "_law_at", "_law_to", "_law_number", "_law_lines", "_law_rows", "_law_fresh", "_law_paths", "_law_path", "_law_part"] "_law_paper_spoilt" (defScope s_lpaper_spoilt) f cdv A outer s H E).env (cxOf (L2N.CX P w) P w K mg base ["_law_paper", "_law_way", "_law_at", "_law_to", "_law_number", "_law_lines", "_law_rows", "_law_fresh", "_law_paths", "_law_path", "_law_part"] "_law_paper_spoilt" (defScope s_lpaper_spoilt) f cdv A outer s H E).xe := passes_of rfl
  unfold m_lpaper_spoilt
  exact mss_cons (ms_if (mt_cmp op_lt os_lt (me_var (i := 1) rfl (.inl v_lpaper_spoilt_1)) (me_int) (nomark _)) (mss_cons (ms_set (i := 8) nd rfl (.inl v_lpaper_spoilt_8) (me_fz (mf_call h_lpaper_cells hr (by decide) tk (ma_cons (me_var (i := 0) rfl (.inl v_lpaper_spoilt_0)) (ma_cons (me_tup (ma_nil)) (ma_nil))) (lng_cons (lng_cons lng_nil)) (hg := (g_lpaper_spoilt_law_paper_cells _ _ _))))) (mss_cons (ms_set (i := 9) nd rfl (.inl v_lpaper_spoilt_9) (me_ix (me_var (i := 8) rfl (.inl v_lpaper_spoilt_8)) (me_mod (me_var (i := 2) rfl (.inl v_lpaper_spoilt_2)) (mb_len B.len (ma_cons (me_var (i := 8) rfl (.inl v_lpaper_spoilt_8)) (ma_nil)) (hg := (g_lpaper_spoilt_len _ _ _)))))) (mss_one (ms_ret (me_fz (mf_call h_lput_in hr (by decide) tk (ma_cons (me_var (i := 0) rfl (.inl v_lpaper_spoilt_0)) (ma_cons (me_var (i := 9) rfl (.inl v_lpaper_spoilt_9)) (ma_cons (me_fz (mf_call h_lchanged hr (by decide) tk (ma_cons (me_fz (mf_call h_lpart_at hr (by decide) tk (ma_cons (me_var (i := 0) rfl (.inl v_lpaper_spoilt_0)) (ma_cons (me_var (i := 9) rfl (.inl v_lpaper_spoilt_9)) (ma_nil))) (lng_cons (lng_cons lng_nil)) (hg := (g_lpaper_spoilt_law_part_at _ _ _)))) (ma_cons (me_var (i := 1) rfl (.inl v_lpaper_spoilt_1)) (ma_cons (me_var (i := 4) rfl (.inl v_lpaper_spoilt_4)) (ma_nil)))) (lng_cons (lng_cons (lng_cons lng_nil))) (hg := (g_lpaper_spoilt_law_changed _ _ _)))) (ma_nil)))) (lng_cons (lng_cons (lng_cons lng_nil))) (hg := (g_lpaper_spoilt_law_put_in _ _ _)))))))) (mss_nil)) (mss_cons (ms_if (PW.pt (mw_or (mt_cmp (op_eqM hr.units) os_eq (me_var (i := 1) rfl (.inl v_lpaper_spoilt_1)) (me_int) (nomark _)) (mw_one_or (mt_cmp (op_eqM hr.units) os_eq (me_var (i := 1) rfl (.inl v_lpaper_spoilt_1)) (me_int) (nomark _))))) (mss_cons (ms_set (i := 8) nd rfl (.inl v_lpaper_spoilt_8) (me_fz (mf_call h_lpaper_tuples hr (by decide) tk (ma_cons (me_var (i := 0) rfl (.inl v_lpaper_spoilt_0)) (ma_cons (me_tup (ma_nil)) (ma_nil))) (lng_cons (lng_cons lng_nil)) (hg := (g_lpaper_spoilt_law_paper_tuples _ _ _))))) (mss_cons (ms_set (i := 9) nd rfl (.inl v_lpaper_spoilt_9) (me_ix (me_var (i := 8) rfl (.inl v_lpaper_spoilt_8)) (me_mod (me_var (i := 3) rfl (.inl v_lpaper_spoilt_3)) (mb_len B.len (ma_cons (me_var (i := 8) rfl (.inl v_lpaper_spoilt_8)) (ma_nil)) (hg := (g_lpaper_spoilt_len _ _ _)))))) (mss_cons (ms_set (i := 10) nd rfl (.inl v_lpaper_spoilt_10) (me_fz (mf_call h_lpart_at hr (by decide) tk (ma_cons (me_var (i := 0) rfl (.inl v_lpaper_spoilt_0)) (ma_cons (me_var (i := 9) rfl (.inl v_lpaper_spoilt_9)) (ma_nil))) (lng_cons (lng_cons lng_nil)) (hg := (g_lpaper_spoilt_law_part_at _ _ _))))) (mss_cons (ms_set (i := 2) nd rfl (.inl v_lpaper_spoilt_2) (me_mod (me_var (i := 2) rfl (.inl v_lpaper_spoilt_2)) (mb_len B.len (ma_cons (me_var (i := 10) rfl (.inl v_lpaper_spoilt_10)) (ma_nil)) (hg := (g_lpaper_spoilt_len _ _ _))))) (mss_one (ms_ret (me_fz (mf_call h_lput_in hr (by decide) tk (ma_cons (me_var (i := 0) rfl (.inl v_lpaper_spoilt_0)) (ma_cons (me_var (i := 9) rfl (.inl v_lpaper_spoilt_9)) (ma_cons (me_add (me_add (me_sl (me_var (i := 10) rfl (.inl v_lpaper_spoilt_10)) (mp_none) (mp_some (me_var (i := 2) rfl (.inl v_lpaper_spoilt_2)))) (me_mulZ (me_tup (ma_cons (me_ix (me_var (i := 10) rfl (.inl v_lpaper_spoilt_10)) (me_var (i := 2) rfl (.inl v_lpaper_spoilt_2))) (ma_nil))) (me_sub (me_mul (me_int) (me_var (i := 1) rfl (.inl v_lpaper_spoilt_1))) (me_int)))) (me_sl (me_var (i := 10) rfl (.inl v_lpaper_spoilt_10)) (mp_some (me_add (me_var (i := 2) rfl (.inl v_lpaper_spoilt_2)) (me_int))) (mp_none))) (ma_nil)))) (lng_cons (lng_cons (lng_cons lng_nil))) (hg := (g_lpaper_spoilt_law_put_in _ _ _)))))))))) (mss_nil)) (mss_cons (ms_if (PW.pt (mw_or (mt_cmp (op_eqM hr.units) os_eq (me_var (i := 1) rfl (.inl v_lpaper_spoilt_1)) (me_int) (nomark _)) (mw_one_or (mt_cmp op_isN os_isN (me_var (i := 5) rfl (.inl v_lpaper_spoilt_5)) (me_non) (nomark _))))) (mss_one (ms_ret (me_ix (me_lst (ma_cons (me_non) (ma_cons (me_tup (ma_nil)) (ma_cons (me_str) (ma_cons (me_int) (ma_cons (me_tup (ma_cons (me_var (i := 0) rfl (.inl v_lpaper_spoilt_0)) (ma_nil))) (ma_cons (me_revA (me_var (i := 0) rfl (.inl v_lpaper_spoilt_0))) (ma_cons (me_bl) (ma_cons (me_mulZ (me_tup (ma_cons (me_non) (ma_nil))) (mb_len B.len (ma_cons (me_var (i := 0) rfl (.inl v_lpaper_spoilt_0)) (ma_nil)) (hg := (g_lpaper_spoilt_len _ _ _)))) (ma_nil)))))))))) (me_mod (me_var (i := 4) rfl (.inl v_lpaper_spoilt_4)) (me_int))))) (mss_nil)) (mss_cons (ms_set (i := 6) nd rfl (.inl v_lpaper_spoilt_6) (me_fz (mf_call h_lpart_at hr (by decide) tk (ma_cons (me_var (i := 0) rfl (.inl v_lpaper_spoilt_0)) (ma_cons (me_var (i := 5) rfl (.inl v_lpaper_spoilt_5)) (ma_nil))) (lng_cons (lng_cons lng_nil)) (hg := (g_lpaper_spoilt_law_part_at _ _ _))))) (mss_cons (ms_set (i := 2) nd rfl (.inl v_lpaper_spoilt_2) (me_mod (me_var (i := 2) rfl (.inl v_lpaper_spoilt_2)) (mb_len B.len (ma_cons (me_var (i := 6) rfl (.inl v_lpaper_spoilt_6)) (ma_nil)) (hg := (g_lpaper_spoilt_len _ _ _))))) (mss_cons (ms_set (i := 7) nd rfl (.inl v_lpaper_spoilt_7) (me_add (me_sl (me_var (i := 6) rfl (.inl v_lpaper_spoilt_6)) (mp_none) (mp_some (me_var (i := 2) rfl (.inl v_lpaper_spoilt_2)))) (me_sl (me_var (i := 6) rfl (.inl v_lpaper_spoilt_6)) (mp_some (me_add (me_var (i := 2) rfl (.inl v_lpaper_spoilt_2)) (me_int))) (mp_none)))) (mss_cons (ms_if (mt_cmp (op_eqM hr.units) os_eq (me_var (i := 1) rfl (.inl v_lpaper_spoilt_1)) (me_int) (nomark _)) (mss_cons (ms_set (i := 3) nd rfl (.inl v_lpaper_spoilt_3) (me_mod (me_var (i := 3) rfl (.inl v_lpaper_spoilt_3)) (me_add (mb_len B.len (ma_cons (me_var (i := 6) rfl (.inl v_lpaper_spoilt_6)) (ma_nil)) (hg := (g_lpaper_spoilt_len _ _ _))) (me_int)))) (mss_one (ms_set (i := 7) nd rfl (.inl v_lpaper_spoilt_7) (me_add (me_add (me_sl (me_var (i := 6) rfl (.inl v_lpaper_spoilt_6)) (mp_none) (mp_some (me_var (i := 3) rfl (.inl v_lpaper_spoilt_3)))) (me_tup (ma_cons (me_ix (me_var (i := 6) rfl (.inl v_lpaper_spoilt_6)) (me_var (i := 2) rfl (.inl v_lpaper_spoilt_2))) (ma_nil)))) (me_sl (me_var (i := 6) rfl (.inl v_lpaper_spoilt_6)) (mp_some (me_var (i := 3) rfl (.inl v_lpaper_spoilt_3))) (mp_none)))))) (mss_nil)) (mss_cons (ms_if (mt_cmp (op_eqM hr.units) os_eq (me_var (i := 1) rfl (.inl v_lpaper_spoilt_1)) (me_int) (nomark _)) (mss_cons (ms_set (i := 3) nd rfl (.inl v_lpaper_spoilt_3) (me_mod (me_var (i := 3) rfl (.inl v_lpaper_spoilt_3)) (mb_len B.len (ma_cons (me_var (i := 6) rfl (.inl v_lpaper_spoilt_6)) (ma_nil)) (hg := (g_lpaper_spoilt_len _ _ _))))) (mss_one (ms_set (i := 7) nd rfl (.inl v_lpaper_spoilt_7) (me_add (me_add (me_sl (me_var (i := 7) rfl (.inl v_lpaper_spoilt_7)) (mp_none) (mp_some (me_var (i := 3) rfl (.inl v_lpaper_spoilt_3)))) (me_tup (ma_cons (me_ix (me_var (i := 6) rfl (.inl v_lpaper_spoilt_6)) (me_var (i := 2) rfl (.inl v_lpaper_spoilt_2))) (ma_nil)))) (me_sl (me_var (i := 7) rfl (.inl v_lpaper_spoilt_7)) (mp_some (me_var (i := 3) rfl (.inl v_lpaper_spoilt_3))) (mp_none)))))) (mss_nil)) (mss_one (ms_ret (me_fz (mf_call h_lput_in hr (by decide) tk (ma_cons (me_var (i := 0) rfl (.inl v_lpaper_spoilt_0)) (ma_cons (me_var (i := 5) rfl (.inl v_lpaper_spoilt_5)) (ma_cons (me_var (i := 7) rfl (.inl v_lpaper_spoilt_7)) (ma_nil)))) (lng_cons (lng_cons (lng_cons lng_nil))) (hg := (g_lpaper_spoilt_law_put_in _ _ _)))))))))))))

abbrev s_ljust : Stmt := top 23
theorem sc_ljust : FnScope ["_law_found", "_law_due", "_law_part", "_law_wanted"] ["_law_found", "_law_due"] (defScope s_ljust) := ⟨rfl, rfl, rfl, by decide +kernel, rfl, by decide +kernel, by decide +kernel⟩
theorem v_ljust_0 : (defScope s_ljust).names.lookup ("_law_found" : Str) = some NameKind.local := by decide +kernel
theorem v_ljust_1 : (defScope s_ljust).names.lookup ("_law_due" : Str) = some NameKind.local := by decide +kernel
theorem g_ljust_tuple (L a : Addr) (cd : Value) : (PyProof.Rows.envOfC "_law_just" (defScope s_ljust) L a cd).kindOf ("tuple" : Str) = some NameKind.globalImplicit := rfl
theorem g_ljust_isinstance (L a : Addr) (cd : Value) : (PyProof.Rows.envOfC "_law_just" (defScope s_ljust) L a cd).kindOf ("isinstance" : Str) = some NameKind.globalImplicit := rfl
theorem g_ljust_len (L a : Addr) (cd : Value) : (PyProof.Rows.envOfC "_law_just" (defScope s_ljust) L a cd).kindOf ("len" : Str) = some NameKind.globalImplicit := rfl
theorem g_ljust_zip (L a : Addr) (cd : Value) : (PyProof.Rows.envOfC "_law_just" (defScope s_ljust) L a cd).kindOf ("zip" : Str) = some NameKind.globalImplicit := rfl
theorem g_ljust_all (L a : Addr) (cd : Value) : (PyProof.Rows.envOfC "_law_just" (defScope s_ljust) L a cd).kindOf ("all" : Str) = some NameKind.globalImplicit := rfl
theorem g_ljust_str (L a : Addr) (cd : Value) : (PyProof.Rows.envOfC "_law_just" (defScope s_ljust) L a cd).kindOf ("str" : Str) = some NameKind.globalImplicit := rfl
theorem g_ljust_int (L a : Addr) (cd : Value) : (PyProof.Rows.envOfC "_law_just" (defScope s_ljust) L a cd).kindOf ("int" : Str) = some NameKind.globalImplicit := rfl
theorem g_ljust_bool (L a : Addr) (cd : Value) : (PyProof.Rows.envOfC "_law_just" (defScope s_ljust) L a cd).kindOf ("bool" : Str) = some NameKind.globalImplicit := rfl
theorem ok_ljust {P : Program} {w : World} {K : PySem.W.Frag} {mg : Str → Option Value} {base : Heap} {f : Addr} {fd : FuncData} (F : Fun K "_law_just" "_law_just" s_ljust f fd) (hs : mg "_law_just" = some (.ref f)) (hk : PySem.W.keepIn K (.ref f) = true) (hb : Binds K fd ["_law_found", "_law_due"] []) (B : Bn mg)     :
    ∀ n : Nat, FnOk P w K mg base (L2N.CX P w) (2 + n) f fd ["_law_found", "_law_due"] (spF K mg 2 [] (mRec 4 [] m_ljust n)) := by
  intro n
  induction n with
  | zero => exact fn_off
  | succ n ih =>
  have h_self : Fd P w K mg base "_law_just" (2 + n) ["_law_found", "_law_due"] [] (mRec 4 [] m_ljust n) := ⟨_, _, ih, hs, hk, hb⟩
  refine fn_ok F sc_ljust (by decide) (by decide) fun cdv A outer s H E hr => ?_
  have nd := sc_ljust.nd
  have tk : L2N.Takes (cxOf (L2N.CX P w) P w K mg base ["_law_found", "_law_due", "_law_part", "_law_wanted"] "_law_just" (defScope s_ljust) f cdv A outer s H E) (fun cls d _ H => E cls d H) := L2N.takes_of rfl rfl rfl rfl
  have pn : PassesOwn (model P w) (cxOf (L2N.CX P w) P w K mg base ["_law_found", "_law_due", "_law_part", "_law_wanted"] "_law_just" (defScope s_ljust) f cdv A outer s H E).A (cxOf (L2N.CX P w) P w K mg base ["_law_found", "_law_due", "_law_part", "_law_wanted"] "_law_just" (defScope s_ljust) f cdv A outer s H E).env (cxOf (L2N.CX P w) P w K mg base ["_law_found", "_law_due", "_law_part", "_law_wanted"] "_law_just" (defScope s_ljust) f cdv A outer s H E).xe := passes_of rfl
  show PSs _ _ (rdS _ (m_ljust (mRec 4 [] m_ljust n)))
  unfold m_ljust
  exact mss_cons (ms_if (mt_val (mb_isi B.isinstance (ma_cons (me_var (i := 1) rfl (.inl v_ljust_1)) (ma_cons (me_bltn B.tuple (by decide +kernel) (w := .ty "tuple") rfl (hg := (g_ljust_tuple _ _ _))) ma_nil)) (hg := (g_ljust_isinstance _ _ _)))) (mss_cons (ms_if (PW.pt (mw_or (mt_not (mt_val (mb_isi B.isinstance (ma_cons (me_var (i := 0) rfl (.inl v_ljust_0)) (ma_cons (me_bltn B.tuple (by decide +kernel) (w := .ty "tuple") rfl (hg := (g_ljust_tuple _ _ _))) ma_nil)) (hg := (g_ljust_isinstance _ _ _))))) (mw_one_or (mt_cmp (op_neM hr.units) os_ne (mb_len B.len (ma_cons (me_var (i := 0) rfl (.inl v_ljust_0)) (ma_nil)) (hg := (g_ljust_len _ _ _))) (mb_len B.len (ma_cons (me_var (i := 1) rfl (.inl v_ljust_1)) (ma_nil)) (hg := (g_ljust_len _ _ _))) (nomark _))))) (mss_one (ms_ret (me_bl))) (mss_nil)) (mss_one (ms_ret (mb_all rfl B.all (ma_cons (me_fz (mo_lc (own := [("_law_part", 2), ("_law_wanted", 3)]) (g := .tp [2, 3]) rfl nd (mi_zip B.zip (ma_cons (me_var (i := 0) rfl (.inl v_ljust_0)) (ma_cons (me_var (i := 1) rfl (.inl v_ljust_1)) (ma_nil))) (hg := (g_ljust_zip _ _ _))) (blkOk_at (N' := ["_law_found", "_law_due", "_law_part", "_law_wanted"]) (sc' := defScope s_ljust) rfl rfl (by decide +kernel)) (fun _ _ _ _ _ => pg_tup rfl (pgs_cons (pg_name (i := 2) nd rfl (Or.inl rfl)) (pgs_cons (pg_name (i := 3) nd rfl (Or.inl rfl)) (pgs_nil)))) (fun _ _ _ _ _ => mts_nil) (fun _ _ _ _ _ => me_fz (mf_call0 h_self hr (by first | omega | exact Nat.le_refl _) (ma_cons (me_var (i := 2) rfl (.inl rfl)) (ma_cons (me_var (i := 3) rfl (.inl rfl)) (ma_nil))) (lng_cons (lng_cons lng_nil)) (hg := rfl))) (hbs := hbs_of rfl))) (ma_nil)) (hg := (g_ljust_all _ _ _)))))) (mss_nil)) (mss_cons (ms_if (PW.pt (mw_or (mt_val (mb_isi B.isinstance (ma_cons (me_var (i := 1) rfl (.inl v_ljust_1)) (ma_cons (me_bltn B.str (by decide +kernel) (w := .ty "str") rfl (hg := (g_ljust_str _ _ _))) ma_nil)) (hg := (g_ljust_isinstance _ _ _)))) (mw_one_or (mt_cmp op_isN os_isN (me_var (i := 1) rfl (.inl v_ljust_1)) (me_non) (nomark _))))) (mss_one (ms_ret (me_and (me_cmp (op_eqM hr.units) os_eq (mb_isi B.isinstance (ma_cons (me_var (i := 0) rfl (.inl v_ljust_0)) (ma_cons (me_bltn B.str (by decide +kernel) (w := .ty "str") rfl (hg := (g_ljust_str _ _ _))) ma_nil)) (hg := (g_ljust_isinstance _ _ _))) (mb_isi B.isinstance (ma_cons (me_var (i := 1) rfl (.inl v_ljust_1)) (ma_cons (me_bltn B.str (by decide +kernel) (w := .ty "str") rfl (hg := (g_ljust_str _ _ _))) ma_nil)) (hg := (g_ljust_isinstance _ _ _))) (nomark _)) (me_one (me_cmp (op_eqM hr.units) os_eq (me_var (i := 0) rfl (.inl v_ljust_0)) (me_var (i := 1) rfl (.inl v_ljust_1)) (nomark _)))))) (mss_nil)) (mss_cons (ms_if (PW.pt (mw_or (mt_not (mt_val (mb_isi B.isinstance (ma_cons (me_var (i := 0) rfl (.inl v_ljust_0)) (ma_cons (me_bltn B.int (by decide +kernel) (w := .ty "int") rfl (hg := (g_ljust_int _ _ _))) ma_nil)) (hg := (g_ljust_isinstance _ _ _))))) (mw_one_or (mt_cmp (op_neM hr.units) os_ne (mb_isi B.isinstance (ma_cons (me_var (i := 0) rfl (.inl v_ljust_0)) (ma_cons (me_bltn B.bool (by decide +kernel) (w := .ty "bool") rfl (hg := (g_ljust_bool _ _ _))) ma_nil)) (hg := (g_ljust_isinstance _ _ _))) (mb_isi B.isinstance (ma_cons (me_var (i := 1) rfl (.inl v_ljust_1)) (ma_cons (me_bltn B.bool (by decide +kernel) (w := .ty "bool") rfl (hg := (g_ljust_bool _ _ _))) ma_nil)) (hg := (g_ljust_isinstance _ _ _))) (nomark _))))) (mss_one (ms_ret (me_bl))) (mss_nil)) (mss_one (ms_ret (me_cmp (op_eqM hr.units) os_eq (me_var (i := 0) rfl (.inl v_ljust_0)) (me_var (i := 1) rfl (.inl v_ljust_1)) (nomark _))))))

abbrev s_law78 : Stmt := top 34
theorem sc_law78 : FnScope ["_law_script", "_law_by", "_law_rules", "_law_given", "_law_due", "_law_paper", "_law_found", "_law_spoil", "_law_way", "_law_kind", "_law_below", "_law_rule", "_law_other", "_law_at", "_law_to", "_law_number", "_law_far", "_law_tie"] ["_law_script"] (defScope s_law78) := ⟨rfl, rfl, rfl, by decide +kernel, rfl, by decide +kernel, by decide +kernel⟩
theorem v_law78_0 : (defScope s_law78).names.lookup ("_law_script" : Str) = some NameKind.local := by decide +kernel
theorem v_law78_1 : (defScope s_law78).names.lookup ("_law_by" : Str) = some NameKind.local := by decide +kernel
theorem v_law78_2 : (defScope s_law78).names.lookup ("_law_rules" : Str) = some NameKind.local := by decide +kernel
theorem v_law78_3 : (defScope s_law78).names.lookup ("_law_given" : Str) = some NameKind.local := by decide +kernel
theorem v_law78_4 : (defScope s_law78).names.lookup ("_law_due" : Str) = some NameKind.local := by decide +kernel
theorem v_law78_5 : (defScope s_law78).names.lookup ("_law_paper" : Str) = some NameKind.local := by decide +kernel
theorem v_law78_6 : (defScope s_law78).names.lookup ("_law_found" : Str) = some NameKind.local := by decide +kernel
theorem v_law78_7 : (defScope s_law78).names.lookup ("_law_spoil" : Str) = some NameKind.local := by decide +kernel
theorem v_law78_8 : (defScope s_law78).names.lookup ("_law_way" : Str) = some NameKind.local := by decide +kernel
theorem v_law78_9 : (defScope s_law78).names.lookup ("_law_kind" : Str) = some NameKind.local := by decide +kernel
theorem v_law78_10 : (defScope s_law78).names.lookup ("_law_below" : Str) = some NameKind.local := by decide +kernel
theorem v_law78_11 : (defScope s_law78).names.lookup ("_law_rule" : Str) = some NameKind.local := by decide +kernel
theorem v_law78_12 : (defScope s_law78).names.lookup ("_law_other" : Str) = some NameKind.local := by decide +kernel
theorem v_law78_13 : (defScope s_law78).names.lookup ("_law_at" : Str) = some NameKind.local := by decide +kernel
theorem v_law78_14 : (defScope s_law78).names.lookup ("_law_to" : Str) = some NameKind.local := by decide +kernel
theorem v_law78_15 : (defScope s_law78).names.lookup ("_law_number" : Str) = some NameKind.local := by decide +kernel
theorem v_law78_16 : (defScope s_law78).names.lookup ("_law_far" : Str) = some NameKind.local := by decide +kernel
theorem v_law78_17 : (defScope s_law78).names.lookup ("_law_tie" : Str) = some NameKind.local := by decide +kernel
theorem g_law78_law_cell (L a : Addr) (cd : Value) : (PyProof.Rows.envOfC "law" (defScope s_law78) L a cd).kindOf ("_law_cell" : Str) = some NameKind.globalImplicit := rfl
theorem g_law78_law_draws (L a : Addr) (cd : Value) : (PyProof.Rows.envOfC "law" (defScope s_law78) L a cd).kindOf ("_law_draws" : Str) = some NameKind.globalImplicit := rfl
theorem g_law78_law_some_whole (L a : Addr) (cd : Value) : (PyProof.Rows.envOfC "law" (defScope s_law78) L a cd).kindOf ("_law_some_whole" : Str) = some NameKind.globalImplicit := rfl
theorem g_law78_law_power (L a : Addr) (cd : Value) : (PyProof.Rows.envOfC "law" (defScope s_law78) L a cd).kindOf ("_law_power" : Str) = some NameKind.globalImplicit := rfl
theorem g_law78_law_rounding (L a : Addr) (cd : Value) : (PyProof.Rows.envOfC "law" (defScope s_law78) L a cd).kindOf ("_law_rounding" : Str) = some NameKind.globalImplicit := rfl
theorem g_law78_law_paper_spoilt (L a : Addr) (cd : Value) : (PyProof.Rows.envOfC "law" (defScope s_law78) L a cd).kindOf ("_law_paper_spoilt" : Str) = some NameKind.globalImplicit := rfl
theorem g_law78_abs (L a : Addr) (cd : Value) : (PyProof.Rows.envOfC "law" (defScope s_law78) L a cd).kindOf ("abs" : Str) = some NameKind.globalImplicit := rfl
theorem g_law78_rounding_holds (L a : Addr) (cd : Value) : (PyProof.Rows.envOfC "law" (defScope s_law78) L a cd).kindOf ("rounding_holds" : Str) = some NameKind.globalImplicit := rfl
theorem g_law78_bool (L a : Addr) (cd : Value) : (PyProof.Rows.envOfC "law" (defScope s_law78) L a cd).kindOf ("bool" : Str) = some NameKind.globalImplicit := rfl
theorem g_law78_isinstance (L a : Addr) (cd : Value) : (PyProof.Rows.envOfC "law" (defScope s_law78) L a cd).kindOf ("isinstance" : Str) = some NameKind.globalImplicit := rfl
theorem g_law78_law_just (L a : Addr) (cd : Value) : (PyProof.Rows.envOfC "law" (defScope s_law78) L a cd).kindOf ("_law_just" : Str) = some NameKind.globalImplicit := rfl
theorem ok_law78 {P : Program} {w : World} {K : PySem.W.Frag} {mg : Str → Option Value} {base : Heap} {f : Addr} {fd : FuncData} (F : Fun K "law" "law" s_law78 f fd) (B : Bn mg) (h_ldraws : Fd P w K mg base "_law_draws" 4 ["_law_cell_here", "_law_salt", "_law_widths"] [] f_ldraws) (h_lcell : Fd P w K mg base "_law_cell" 2 ["_law_script", "_law_k"] [] f_lcell) (h_lsome_whole : Fd P w K mg base "_law_some_whole" 4 ["_law_way", "_law_far", "_law_many"] [] f_lsome_whole) (h_lpower : Fd P w K mg base "_law_power" 2 ["_law_base", "_law_many"] [] f_lpower) (h_lrounding : Fd P w K mg base "_law_rounding" 6 ["_law_number", "_law_by", "_law_rule"] [] f_lrounding) (h_lpaper_spoilt : Fd P w K mg base "_law_paper_spoilt" 12 ["_law_paper", "_law_way", "_law_at", "_law_to", "_law_number", "_law_lines"] [] f_lpaper_spoilt) (h_prounding_holds : Fd P w K mg base "rounding_holds" 12 ["number", "by", "rule", "paper"] [] f_prounding_holds) (h_ljust : Fd P w K mg base "_law_just" 10 ["_law_found", "_law_due"] [] f_ljust)    :
    FnOk P w K mg base (L2N.CX P w) 14 f fd ["_law_script"] (spF K mg 1 [] f_law78) := by
  refine fn_ok F sc_law78 (by decide) (by decide) fun cdv A outer s H E hr => ?_
  have nd := sc_law78.nd
  have tk : L2N.Takes (cxOf (L2N.CX P w) P w K mg base ["_law_script", "_law_by", "_law_rules", "_law_given", "_law_due", "_law_paper", "_law_found", "_law_spoil", "_law_way", "_law_kind", "_law_below", "_law_rule", "_law_other", "_law_at", "_law_to", "_law_number", "_law_far", "_law_tie"] "law" (defScope s_law78) f cdv A outer s H E) (fun cls d _ H => E cls d H) := L2N.takes_of rfl rfl rfl rfl
  have pn : PassesOwn (model P w) (cxOf (L2N.CX P w) P w K mg base ["_law_script", "_law_by", "_law_rules", "_law_given", "_law_due", "_law_paper", "_law_found", "_law_spoil", "_law_way", "_law_kind", "_law_below", "_law_rule", "_law_other", "_law_at", "_law_to", "_law_number", "_law_far", "_law_tie"] "law" (defScope s_law78) f cdv A outer s H E).A (cxOf (L2N.CX P w) P w K mg base ["_law_script", "_law_by", "_law_rules", "_law_given", "_law_due", "_law_paper", "_law_found", "_law_spoil", "_law_way", "_law_kind", "_law_below", "_law_rule", "_law_other", "_law_at", "_law_to", "_law_number", "_law_far", "_law_tie"] "law" (defScope s_law78) f cdv A outer s H E).env (cxOf (L2N.CX P w) P w K mg base ["_law_script", "_law_by", "_law_rules", "_law_given", "_law_due", "_law_paper", "_law_found", "_law_spoil", "_law_way", "_law_kind", "_law_below", "_law_rule", "_law_other", "_law_at", "_law_to", "_law_number", "_law_far", "_law_tie"] "law" (defScope s_law78) f cdv A outer s H E).xe := passes_of rfl
  unfold m_law78
  exact mss_cons (ms_asg (me_fz (mf_call h_ldraws hr (by decide) tk (ma_cons (me_fz (mf_call h_lcell hr (by decide) tk (ma_cons (me_var (i := 0) rfl (.inl v_law78_0)) (ma_cons (me_int) (ma_nil))) (lng_cons (lng_cons lng_nil)) (hg := (g_law78_law_cell _ _ _)))) (ma_cons (me_int) (ma_cons (me_lst (ma_cons (me_int) (ma_cons (me_int) (ma_cons (me_int) (ma_cons (me_int) (ma_cons (me_int) (ma_cons (me_int) (ma_cons (me_int) (ma_nil))))))))) (ma_nil)))) (lng_cons (lng_cons (lng_cons lng_nil))) (hg := (g_law78_law_draws _ _ _)))) (mg_tup rfl (mgs_cons (mg_name (i := 7) nd rfl (.inl v_law78_7)) (mgs_cons (mg_name (i := 8) nd rfl (.inl v_law78_8)) (mgs_cons (mg_name (i := 9) nd rfl (.inl v_law78_9)) (mgs_cons (mg_name (i := 10) nd rfl (.inl v_law78_10)) (mgs_cons (mg_name (i := 1) nd rfl (.inl v_law78_1)) (mgs_cons (mg_name (i := 11) nd rfl (.inl v_law78_11)) (mgs_cons (mg_name (i := 12) nd rfl (.inl v_law78_12)) (mgs_nil)))))))))) (mss_cons (ms_asg (me_fz (mf_call h_ldraws hr (by decide) tk (ma_cons (me_fz (mf_call h_lcell hr (by decide) tk (ma_cons (me_var (i := 0) rfl (.inl v_law78_0)) (ma_cons (me_int) (ma_nil))) (lng_cons (lng_cons lng_nil)) (hg := (g_law78_law_cell _ _ _)))) (ma_cons (me_int) (ma_cons (me_lst (ma_cons (me_int) (ma_cons (me_int) (ma_cons (me_int) (ma_nil))))) (ma_nil)))) (lng_cons (lng_cons (lng_cons lng_nil))) (hg := (g_law78_law_draws _ _ _)))) (mg_tup rfl (mgs_cons (mg_name (i := 13) nd rfl (.inl v_law78_13)) (mgs_cons (mg_name (i := 14) nd rfl (.inl v_law78_14)) (mgs_cons (mg_name (i := 15) nd rfl (.inl v_law78_15)) (mgs_nil)))))) (mss_cons (ms_asg (me_fz (mf_call h_ldraws hr (by decide) tk (ma_cons (me_fz (mf_call h_lcell hr (by decide) tk (ma_cons (me_var (i := 0) rfl (.inl v_law78_0)) (ma_cons (me_int) (ma_nil))) (lng_cons (lng_cons lng_nil)) (hg := (g_law78_law_cell _ _ _)))) (ma_cons (me_int) (ma_cons (me_lst (ma_cons (me_pow (me_int) (me_int)) (ma_cons (me_int) (ma_nil)))) (ma_nil)))) (lng_cons (lng_cons (lng_cons lng_nil))) (hg := (g_law78_law_draws _ _ _)))) (mg_tup rfl (mgs_cons (mg_name (i := 16) nd rfl (.inl v_law78_16)) (mgs_cons (mg_name (i := 17) nd rfl (.inl v_law78_17)) (mgs_nil))))) (mss_cons (ms_set (i := 1) nd rfl (.inl v_law78_1) (me_add (me_int) (me_var (i := 1) rfl (.inl v_law78_1)))) (mss_cons (ms_set (i := 2) nd rfl (.inl v_law78_2) (me_tup (ma_cons (me_str) (ma_cons (me_str) (ma_cons (me_str) (ma_cons (me_str) (ma_cons (me_str) (ma_cons (me_str) (ma_nil))))))))) (mss_cons (ms_set (i := 3) nd rfl (.inl v_law78_3) (me_fz (mf_call h_lsome_whole hr (by decide) tk (ma_cons (me_var (i := 9) rfl (.inl v_law78_9)) (ma_cons (me_var (i := 16) rfl (.inl v_law78_16)) (ma_cons (me_int) (ma_nil)))) (lng_cons (lng_cons (lng_cons lng_nil))) (hg := (g_law78_law_some_whole _ _ _))))) (mss_cons (ms_if (mt_cmp (op_eqM hr.units) os_eq (me_var (i := 17) rfl (.inl v_law78_17)) (me_int) (nomark _)) (mss_one (ms_set (i := 3) nd rfl (.inl v_law78_3) (me_mod (me_add (me_mul (me_mod (me_var (i := 16) rfl (.inl v_law78_16)) (me_pow (me_int) (me_int))) (me_fz (mf_call h_lpower hr (by decide) tk (ma_cons (me_int) (ma_cons (me_var (i := 1) rfl (.inl v_law78_1)) (ma_nil))) (lng_cons (lng_cons lng_nil)) (hg := (g_law78_law_power _ _ _))))) (me_div (me_fz (mf_call h_lpower hr (by decide) tk (ma_cons (me_int) (ma_cons (me_var (i := 1) rfl (.inl v_law78_1)) (ma_nil))) (lng_cons (lng_cons lng_nil)) (hg := (g_law78_law_power _ _ _)))) (me_int))) (me_pow (me_int) (me_int))))) (mss_nil)) (mss_cons (ms_if (mt_cmp (op_eqM hr.units) os_eq (me_var (i := 10) rfl (.inl v_law78_10)) (me_int) (nomark _)) (mss_one (ms_set (i := 3) nd rfl (.inl v_law78_3) (me_sub (me_int) (me_var (i := 3) rfl (.inl v_law78_3))))) (mss_nil)) (mss_cons (ms_set (i := 4) nd rfl (.inl v_law78_4) (me_fz (mf_call h_lrounding hr (by decide) tk (ma_cons (me_var (i := 3) rfl (.inl v_law78_3)) (ma_cons (me_var (i := 1) rfl (.inl v_law78_1)) (ma_cons (me_ix (me_var (i := 2) rfl (.inl v_law78_2)) (me_var (i := 11) rfl (.inl v_law78_11))) (ma_nil)))) (lng_cons (lng_cons (lng_cons lng_nil))) (hg := (g_law78_law_rounding _ _ _))))) (mss_cons (ms_set (i := 5) nd rfl (.inl v_law78_5) (me_var (i := 4) rfl (.inl v_law78_4))) (mss_cons (ms_if (PW.pt (mw_and (mt_cmp op_gt os_gt (me_var (i := 7) rfl (.inl v_law78_7)) (me_int) (nomark _)) (mw_one_and (mt_cmp op_lt os_lt (me_var (i := 8) rfl (.inl v_law78_8)) (me_int) (nomark _))))) (mss_one (ms_set (i := 5) nd rfl (.inl v_law78_5) (me_fz (mf_call h_lpaper_spoilt hr (by decide) tk (ma_cons (me_var (i := 4) rfl (.inl v_law78_4)) (ma_cons (me_var (i := 8) rfl (.inl v_law78_8)) (ma_cons (me_var (i := 13) rfl (.inl v_law78_13)) (ma_cons (me_var (i := 14) rfl (.inl v_law78_14)) (ma_cons (me_var (i := 15) rfl (.inl v_law78_15)) (ma_cons (me_non) (ma_nil))))))) (lng_cons (lng_cons (lng_cons (lng_cons (lng_cons (lng_cons lng_nil)))))) (hg := (g_law78_law_paper_spoilt _ _ _)))))) (mss_nil)) (mss_cons (ms_if (PW.pt (mw_and (mt_cmp op_gt os_gt (me_var (i := 7) rfl (.inl v_law78_7)) (me_int) (nomark _)) (mw_one_and (mt_cmp op_gt os_gt (me_var (i := 8) rfl (.inl v_law78_8)) (me_int) (nomark _))))) (mss_one (ms_set (i := 5) nd rfl (.inl v_law78_5) (me_fz (mf_call h_lrounding hr (by decide) tk (ma_cons (me_var (i := 3) rfl (.inl v_law78_3)) (ma_cons (me_var (i := 1) rfl (.inl v_law78_1)) (ma_cons (me_ix (me_var (i := 2) rfl (.inl v_law78_2)) (me_var (i := 12) rfl (.inl v_law78_12))) (ma_nil)))) (lng_cons (lng_cons (lng_cons lng_nil))) (hg := (g_law78_law_rounding _ _ _)))))) (mss_nil)) (mss_cons (ms_if (PW.pt (mw_and (mt_cmp op_gt os_gt (me_var (i := 7) rfl (.inl v_law78_7)) (me_int) (nomark _)) (mw_one_and (mt_cmp (op_eqM hr.units) os_eq (me_var (i := 8) rfl (.inl v_law78_8)) (me_int) (nomark _))))) (mss_one (ms_set (i := 5) nd rfl (.inl v_law78_5) (me_fz (mf_call h_lrounding hr (by decide) tk (ma_cons (mb_abs B.abs (ma_cons (me_var (i := 3) rfl (.inl v_law78_3)) (ma_nil)) (hg := (g_law78_abs _ _ _))) (ma_cons (me_var (i := 1) rfl (.inl v_law78_1)) (ma_cons (me_ix (me_var (i := 2) rfl (.inl v_law78_2)) (me_var (i := 11) rfl (.inl v_law78_11))) (ma_nil)))) (lng_cons (lng_cons (lng_cons lng_nil))) (hg := (g_law78_law_rounding _ _ _)))))) (mss_nil)) (mss_cons (ms_if (PW.pt (mw_and (mt_cmp op_gt os_gt (me_var (i := 7) rfl (.inl v_law78_7)) (me_int) (nomark _)) (mw_one_and (mt_cmp (op_eqM hr.units) os_eq (me_var (i := 8) rfl (.inl v_law78_8)) (me_int) (nomark _))))) (mss_one (ms_set (i := 5) nd rfl (.inl v_law78_5) (me_fz (mf_call h_lrounding hr (by decide) tk (ma_cons (me_var (i := 3) rfl (.inl v_law78_3)) (ma_cons (me_add (me_mod (me_var (i := 1) rfl (.inl v_law78_1)) (me_int)) (me_int)) (ma_cons (me_ix (me_var (i := 2) rfl (.inl v_law78_2)) (me_var (i := 11) rfl (.inl v_law78_11))) (ma_nil)))) (lng_cons (lng_cons (lng_cons lng_nil))) (hg := (g_law78_law_rounding _ _ _)))))) (mss_nil)) (mss_cons (ms_set (i := 6) nd rfl (.inl v_law78_6) (me_fz (mf_call h_prounding_holds hr (by decide) tk (ma_cons (me_var (i := 3) rfl (.inl v_law78_3)) (ma_cons (me_var (i := 1) rfl (.inl v_law78_1)) (ma_cons (me_ix (me_var (i := 2) rfl (.inl v_law78_2)) (me_var (i := 11) rfl (.inl v_law78_11))) (ma_cons (me_var (i := 5) rfl (.inl v_law78_5)) (ma_nil))))) (lng_cons (lng_cons (lng_cons (lng_cons lng_nil)))) (hg := (g_law78_rounding_holds _ _ _))))) (mss_one (ms_ret (me_and (mb_isi B.isinstance (ma_cons (me_var (i := 6) rfl (.inl v_law78_6)) (ma_cons (me_bltn B.bool (by decide +kernel) (w := .ty "bool") rfl (hg := (g_law78_bool _ _ _))) ma_nil)) (hg := (g_law78_isinstance _ _ _))) (me_one (me_cmp (op_eqM hr.units) os_eq (me_var (i := 6) rfl (.inl v_law78_6)) (me_fz (mf_call h_ljust hr (by decide) tk (ma_cons (me_var (i := 5) rfl (.inl v_law78_5)) (ma_cons (me_var (i := 4) rfl (.inl v_law78_4)) (ma_nil))) (lng_cons (lng_cons lng_nil)) (hg := (g_law78_law_just _ _ _)))) (nomark _))))))))))))))))))))

theorem all_mk {l : PySem.W.OpenLaw} {w : World} {K : PySem.W.Frag} {h : Heap} {mg : Str → Option Value} {fa f0 f1 f2 f3 f4 f5 f6 f7 f8 f9 f10 f11 f12 f13 f14 f15 f16 f17 f18 f19 f20 f21 : Addr} (X : K.In h) (G : h.Ns mainGlobals mg) (hfa : mg "law" = some (.ref fa))
    {od0 an0 od1 an1 od2 an2 od3 an3 od4 an4 od5 an5 od6 an6 od7 an7 od8 an8 od9 an9 od10 an10 od11 an11 od12 an12 od13 an13 od14 an14 od15 an15 od16 an16 od17 an17 od18 an18 od19 an19 od20 an20 od21 an21 : Option Addr} {sl0 sl1 sl2 sl3 sl4 sl5 sl6 sl7 sl8 sl9 sl10 sl11 sl12 sl13 sl14 sl15 sl16 sl17 sl18 sl19 sl20 sl21 : Array (Option Value)} {oc0 kV0 dc0 pm0 cd0 ct0 oc1 kV1 dc1 pm1 cd1 ct1 oc2 kV2 dc2 pm2 cd2 ct2 oc3 kV3 dc3 pm3 cd3 ct3 oc4 kV4 dc4 pm4 cd4 ct4 oc5 kV5 dc5 pm5 cd5 ct5 oc6 kV6 dc6 pm6 cd6 ct6 oc7 kV7 dc7 pm7 cd7 ct7 oc8 kV8 dc8 pm8 cd8 ct8 oc9 kV9 dc9 pm9 cd9 ct9 oc10 kV10 dc10 pm10 cd10 ct10 oc11 kV11 dc11 pm11 cd11 ct11 oc12 kV12 dc12 pm12 cd12 ct12 oc13 kV13 dc13 pm13 cd13 ct13 oc14 kV14 dc14 pm14 cd14 ct14 oc15 kV15 dc15 pm15 cd15 ct15 oc16 kV16 dc16 pm16 cd16 ct16 oc17 kV17 dc17 pm17 cd17 ct17 oc18 kV18 dc18 pm18 cd18 ct18 oc19 kV19 dc19 pm19 cd19 ct19 oc20 kV20 dc20 pm20 cd20 ct20 oc21 kV21 dc21 pm21 cd21 ct21 : Value}
    (a0 : PySem.W.nsIn K mainGlobals "_law_mixed" = some (some (.ref f0))) (l0 : K.lookup f0 = some ⟨oc0, od0, .func (PySem.W.fnOf "_law_mixed" "_law_mixed" (defArgs s_lmixed) (defBody s_lmixed) (defScope s_lmixed) .none kV0 dc0 pm0 an0 cd0 ct0), sl0⟩) (c0 : PySem.W.codeIn K cd0 "_law_mixed" = true) (k0 : PySem.W.keepIn K (.ref f0) = true)
    (a1 : PySem.W.nsIn K mainGlobals "_law_draws" = some (some (.ref f1))) (l1 : K.lookup f1 = some ⟨oc1, od1, .func (PySem.W.fnOf "_law_draws" "_law_draws" (defArgs s_ldraws) (defBody s_ldraws) (defScope s_ldraws) .none kV1 dc1 pm1 an1 cd1 ct1), sl1⟩) (c1 : PySem.W.codeIn K cd1 "_law_draws" = true) (k1 : PySem.W.keepIn K (.ref f1) = true)
    (a2 : PySem.W.nsIn K mainGlobals "_law_power" = some (some (.ref f2))) (l2 : K.lookup f2 = some ⟨oc2, od2, .func (PySem.W.fnOf "_law_power" "_law_power" (defArgs s_lpower) (defBody s_lpower) (defScope s_lpower) .none kV2 dc2 pm2 an2 cd2 ct2), sl2⟩) (c2 : PySem.W.codeIn K cd2 "_law_power" = true) (k2 : PySem.W.keepIn K (.ref f2) = true)
    (a3 : PySem.W.nsIn K mainGlobals "_law_some_whole" = some (some (.ref f3))) (l3 : K.lookup f3 = some ⟨oc3, od3, .func (PySem.W.fnOf "_law_some_whole" "_law_some_whole" (defArgs s_lsome_whole) (defBody s_lsome_whole) (defScope s_lsome_whole) .none kV3 dc3 pm3 an3 cd3 ct3), sl3⟩) (c3 : PySem.W.codeIn K cd3 "_law_some_whole" = true) (k3 : PySem.W.keepIn K (.ref f3) = true)
    (a4 : PySem.W.nsIn K mainGlobals "_law_digits" = some (some (.ref f4))) (l4 : K.lookup f4 = some ⟨oc4, od4, .func (PySem.W.fnOf "_law_digits" "_law_digits" (defArgs s_ldigits) (defBody s_ldigits) (defScope s_ldigits) .none kV4 dc4 pm4 an4 cd4 ct4), sl4⟩) (c4 : PySem.W.codeIn K cd4 "_law_digits" = true) (k4 : PySem.W.keepIn K (.ref f4) = true)
    (a5 : PySem.W.nsIn K mainGlobals "_law_rounded" = some (some (.ref f5))) (l5 : K.lookup f5 = some ⟨oc5, od5, .func (PySem.W.fnOf "_law_rounded" "_law_rounded" (defArgs s_lrounded) (defBody s_lrounded) (defScope s_lrounded) .none kV5 dc5 pm5 an5 cd5 ct5), sl5⟩) (c5 : PySem.W.codeIn K cd5 "_law_rounded" = true) (k5 : PySem.W.keepIn K (.ref f5) = true)
    (a6 : PySem.W.nsIn K mainGlobals "_law_rounding" = some (some (.ref f6))) (l6 : K.lookup f6 = some ⟨oc6, od6, .func (PySem.W.fnOf "_law_rounding" "_law_rounding" (defArgs s_lrounding) (defBody s_lrounding) (defScope s_lrounding) .none kV6 dc6 pm6 an6 cd6 ct6), sl6⟩) (c6 : PySem.W.codeIn K cd6 "_law_rounding" = true) (k6 : PySem.W.keepIn K (.ref f6) = true)
    (a7 : PySem.W.nsIn K mainGlobals "is_just" = some (some (.ref f7))) (l7 : K.lookup f7 = some ⟨oc7, od7, .func (PySem.W.fnOf "is_just" "is_just" (defArgs s_pis_just) (defBody s_pis_just) (defScope s_pis_just) .none kV7 dc7 pm7 an7 cd7 ct7), sl7⟩) (c7 : PySem.W.codeIn K cd7 "is_just" = true) (k7 : PySem.W.keepIn K (.ref f7) = true)
    (a8 : PySem.W.nsIn K mainGlobals "power" = some (some (.ref f8))) (l8 : K.lookup f8 = some ⟨oc8, od8, .func (PySem.W.fnOf "power" "power" (defArgs s_ppower) (defBody s_ppower) (defScope s_ppower) .none kV8 dc8 pm8 an8 cd8 ct8), sl8⟩) (c8 : PySem.W.codeIn K cd8 "power" = true) (k8 : PySem.W.keepIn K (.ref f8) = true)
    (a9 : PySem.W.nsIn K mainGlobals "one_more" = some (some (.ref f9))) (l9 : K.lookup f9 = some ⟨oc9, od9, .func (PySem.W.fnOf "one_more" "one_more" (defArgs s_pone_more) (defBody s_pone_more) (defScope s_pone_more) .none kV9 dc9 pm9 an9 cd9 ct9), sl9⟩) (c9 : PySem.W.codeIn K cd9 "one_more" = true) (k9 : PySem.W.keepIn K (.ref f9) = true)
    (a10 : PySem.W.nsIn K mainGlobals "rounded" = some (some (.ref f10))) (l10 : K.lookup f10 = some ⟨oc10, od10, .func (PySem.W.fnOf "rounded" "rounded" (defArgs s_prounded) (defBody s_prounded) (defScope s_prounded) .none kV10 dc10 pm10 an10 cd10 ct10), sl10⟩) (c10 : PySem.W.codeIn K cd10 "rounded" = true) (k10 : PySem.W.keepIn K (.ref f10) = true)
    (a11 : PySem.W.nsIn K mainGlobals "rounding" = some (some (.ref f11))) (l11 : K.lookup f11 = some ⟨oc11, od11, .func (PySem.W.fnOf "rounding" "rounding" (defArgs s_prounding) (defBody s_prounding) (defScope s_prounding) .none kV11 dc11 pm11 an11 cd11 ct11), sl11⟩) (c11 : PySem.W.codeIn K cd11 "rounding" = true) (k11 : PySem.W.keepIn K (.ref f11) = true)
    (a12 : PySem.W.nsIn K mainGlobals "rounding_holds" = some (some (.ref f12))) (l12 : K.lookup f12 = some ⟨oc12, od12, .func (PySem.W.fnOf "rounding_holds" "rounding_holds" (defArgs s_prounding_holds) (defBody s_prounding_holds) (defScope s_prounding_holds) .none kV12 dc12 pm12 an12 cd12 ct12), sl12⟩) (c12 : PySem.W.codeIn K cd12 "rounding_holds" = true) (k12 : PySem.W.keepIn K (.ref f12) = true)
    (a13 : PySem.W.nsIn K mainGlobals "_law_cell" = some (some (.ref f13))) (l13 : K.lookup f13 = some ⟨oc13, od13, .func (PySem.W.fnOf "_law_cell" "_law_cell" (defArgs s_lcell) (defBody s_lcell) (defScope s_lcell) .none kV13 dc13 pm13 an13 cd13 ct13), sl13⟩) (c13 : PySem.W.codeIn K cd13 "_law_cell" = true) (k13 : PySem.W.keepIn K (.ref f13) = true)
    (a14 : PySem.W.nsIn K mainGlobals "_law_part_at" = some (some (.ref f14))) (l14 : K.lookup f14 = some ⟨oc14, od14, .func (PySem.W.fnOf "_law_part_at" "_law_part_at" (defArgs s_lpart_at) (defBody s_lpart_at) (defScope s_lpart_at) .none kV14 dc14 pm14 an14 cd14 ct14), sl14⟩) (c14 : PySem.W.codeIn K cd14 "_law_part_at" = true) (k14 : PySem.W.keepIn K (.ref f14) = true)
    (a15 : PySem.W.nsIn K mainGlobals "_law_put_in" = some (some (.ref f15))) (l15 : K.lookup f15 = some ⟨oc15, od15, .func (PySem.W.fnOf "_law_put_in" "_law_put_in" (defArgs s_lput_in) (defBody s_lput_in) (defScope s_lput_in) .none kV15 dc15 pm15 an15 cd15 ct15), sl15⟩) (c15 : PySem.W.codeIn K cd15 "_law_put_in" = true) (k15 : PySem.W.keepIn K (.ref f15) = true)
    (a16 : PySem.W.nsIn K mainGlobals "_law_paper_cells" = some (some (.ref f16))) (l16 : K.lookup f16 = some ⟨oc16, od16, .func (PySem.W.fnOf "_law_paper_cells" "_law_paper_cells" (defArgs s_lpaper_cells) (defBody s_lpaper_cells) (defScope s_lpaper_cells) .none kV16 dc16 pm16 an16 cd16 ct16), sl16⟩) (c16 : PySem.W.codeIn K cd16 "_law_paper_cells" = true) (k16 : PySem.W.keepIn K (.ref f16) = true)
    (a17 : PySem.W.nsIn K mainGlobals "_law_paper_tuples" = some (some (.ref f17))) (l17 : K.lookup f17 = some ⟨oc17, od17, .func (PySem.W.fnOf "_law_paper_tuples" "_law_paper_tuples" (defArgs s_lpaper_tuples) (defBody s_lpaper_tuples) (defScope s_lpaper_tuples) .none kV17 dc17 pm17 an17 cd17 ct17), sl17⟩) (c17 : PySem.W.codeIn K cd17 "_law_paper_tuples" = true) (k17 : PySem.W.keepIn K (.ref f17) = true)
    (a18 : PySem.W.nsIn K mainGlobals "_law_changed" = some (some (.ref f18))) (l18 : K.lookup f18 = some ⟨oc18, od18, .func (PySem.W.fnOf "_law_changed" "_law_changed" (defArgs s_lchanged) (defBody s_lchanged) (defScope s_lchanged) .none kV18 dc18 pm18 an18 cd18 ct18), sl18⟩) (c18 : PySem.W.codeIn K cd18 "_law_changed" = true) (k18 : PySem.W.keepIn K (.ref f18) = true)
    (a19 : PySem.W.nsIn K mainGlobals "_law_paper_spoilt" = some (some (.ref f19))) (l19 : K.lookup f19 = some ⟨oc19, od19, .func (PySem.W.fnOf "_law_paper_spoilt" "_law_paper_spoilt" (defArgs s_lpaper_spoilt) (defBody s_lpaper_spoilt) (defScope s_lpaper_spoilt) .none kV19 dc19 pm19 an19 cd19 ct19), sl19⟩) (c19 : PySem.W.codeIn K cd19 "_law_paper_spoilt" = true) (k19 : PySem.W.keepIn K (.ref f19) = true)
    (a20 : PySem.W.nsIn K mainGlobals "_law_just" = some (some (.ref f20))) (l20 : K.lookup f20 = some ⟨oc20, od20, .func (PySem.W.fnOf "_law_just" "_law_just" (defArgs s_ljust) (defBody s_ljust) (defScope s_ljust) .none kV20 dc20 pm20 an20 cd20 ct20), sl20⟩) (c20 : PySem.W.codeIn K cd20 "_law_just" = true) (k20 : PySem.W.keepIn K (.ref f20) = true)
    (a21 : PySem.W.nsIn K mainGlobals "law" = some (some (.ref f21))) (l21 : K.lookup f21 = some ⟨oc21, od21, .func (PySem.W.fnOf "law" "law" (defArgs s_law78) (defBody s_law78) (defScope s_law78) .none kV21 dc21 pm21 an21 cd21 ct21), sl21⟩) (c21 : PySem.W.codeIn K cd21 "law" = true) (k21 : PySem.W.keepIn K (.ref f21) = true)
    (z_len : PySem.W.nsIn K mainGlobals "len" = some none)
    (z_range : PySem.W.nsIn K mainGlobals "range" = some none)
    (z_abs : PySem.W.nsIn K mainGlobals "abs" = some none)
    (z_max : PySem.W.nsIn K mainGlobals "max" = some none)
    (z_min : PySem.W.nsIn K mainGlobals "min" = some none)
    (z_int : PySem.W.nsIn K mainGlobals "int" = some none)
    (z_str : PySem.W.nsIn K mainGlobals "str" = some none)
    (z_tuple : PySem.W.nsIn K mainGlobals "tuple" = some none)
    (z_list : PySem.W.nsIn K mainGlobals "list" = some none)
    (z_all : PySem.W.nsIn K mainGlobals "all" = some none)
    (z_any : PySem.W.nsIn K mainGlobals "any" = some none)
    (z_isinstance : PySem.W.nsIn K mainGlobals "isinstance" = some none)
    (z_divmod : PySem.W.nsIn K mainGlobals "divmod" = some none)
    (z_sum : PySem.W.nsIn K mainGlobals "sum" = some none)
    (z_zip : PySem.W.nsIn K mainGlobals "zip" = some none)
    (z_enumerate : PySem.W.nsIn K mainGlobals "enumerate" = some none)
    (z_reversed : PySem.W.nsIn K mainGlobals "reversed" = some none)
    (z_sorted : PySem.W.nsIn K mainGlobals "sorted" = some none)
    (z_dict : PySem.W.nsIn K mainGlobals "dict" = some none)
    (z_set : PySem.W.nsIn K mainGlobals "set" = some none)
    (z_bool : PySem.W.nsIn K mainGlobals "bool" = some none)
    {q_RULES : Addr} {qd_RULES : Option Addr} {qi_RULES : Array Value} {qn_RULES : Nat} {qs_RULES : Array (Option Value)} (qa_RULES : PySem.W.nsIn K mainGlobals "RULES" = some (some (.ref q_RULES))) (ql_RULES : K.lookup q_RULES = some ⟨.type "tuple", qd_RULES, .seq qi_RULES qn_RULES, qs_RULES⟩) (qe_RULES : flatsIs [(.str "cut"), (.str "up"), (.str "half"), (.str "even"), (.str "floor"), (.str "ceil")] qi_RULES.toList = true) (qz_RULES : qi_RULES.size ≤ 1000)
    {qt_MOST_FIGURES : Tok} (qa_MOST_FIGURES : PySem.W.nsIn K mainGlobals "MOST_FIGURES" = some (some (.int 12 qt_MOST_FIGURES)))
    {qt_BOUND : Tok} (qa_BOUND : PySem.W.nsIn K mainGlobals "BOUND" = some (some (.int 1000000000000 qt_BOUND)))
    {c_LoftError : Addr} (n_LoftError : PySem.W.nsIn K mainGlobals "LoftError" = some (some (.ref c_LoftError)))
    {c_NoFit : Addr} (n_NoFit : PySem.W.nsIn K mainGlobals "NoFit" = some (some (.ref c_NoFit)))
    {c_NoRule : Addr} (n_NoRule : PySem.W.nsIn K mainGlobals "NoRule" = some (some (.ref c_NoRule)))
    {c_TooLong : Addr} (n_TooLong : PySem.W.nsIn K mainGlobals "TooLong" = some (some (.ref c_TooLong)))
    (b1_LoftError : PySem.W.readsIn K c_LoftError (.type "type") = true)
    (b2_LoftError : PySem.W.specialIn K (.ref c_LoftError) "__getattribute__" = some (some (.builtin "type.__getattribute__")))
    (b3_LoftError : PySem.W.findCls K (.ref c_LoftError) (.type "type") "__init__" = some (.val (.builtin "ValueError.__init__")))
    {nm_NoFit q_NoFit : Str} {N_NoFit i_NoFit : Addr} {bs_NoFit : List Value} {sn_NoFit : List Str} {sub_NoFit : List Value} {ab_NoFit : Bool} {col_NoFit : Option Bool} {dd_NoFit : Option Addr} {k0_NoFit k1_NoFit k2_NoFit k3_NoFit k5_NoFit : Option Value}
    (l_NoFit : K.lookup c_NoFit = some (excClassObj nm_NoFit q_NoFit c_NoFit N_NoFit bs_NoFit [.ref c_LoftError, .type "ValueError", .type "Exception", .type "BaseException", .type "object"] true sn_NoFit sub_NoFit ab_NoFit col_NoFit dd_NoFit k0_NoFit k1_NoFit k2_NoFit k3_NoFit k5_NoFit "ValueError.__new__"))
    (s_NoFit : PySem.W.findIn K (.ref c_NoFit) "__setattr__" = some (some (.builtin "object.__setattr__")))
    (e_NoFit : PySem.W.subIn K (.ref c_NoFit) (.type "BaseException") = some true)
    (t_NoFit : PySem.W.typeIn K (.ref c_NoFit) = some (.type "type"))
    (p_NoFit : PySem.W.keepIn K (.ref c_NoFit) = true)
    (i_NoFit_ : PySem.W.findIn K (.ref c_NoFit) "__init__" = some (some (.ref i_NoFit)))
    (j_NoFit : PySem.W.typeIn K (.ref i_NoFit) = some (.type "function"))
    (f_NoFit_number : PySem.W.findIn K (.ref c_NoFit) "number" = some none)
    {io_NoFit ik_NoFit id_NoFit ip_NoFit ic_NoFit it_NoFit : Value} {iod_NoFit ia_NoFit : Option Addr} {is_NoFit : Array (Option Value)}
    (g_NoFit : K.lookup i_NoFit = some ⟨io_NoFit, iod_NoFit, .func (PySem.W.fnOf "__init__" "NoFit.__init__" (defArgs s_ini_NoFit) (defBody s_ini_NoFit) (defScope s_ini_NoFit) .none ik_NoFit id_NoFit ip_NoFit ia_NoFit ic_NoFit it_NoFit), is_NoFit⟩)
    (h_NoFit_ : PySem.W.codeIn K ic_NoFit "NoFit.__init__" = true)
    (m_NoFit_ : PySem.W.keepIn K (.ref i_NoFit) = true)
    {nm_NoRule q_NoRule : Str} {N_NoRule i_NoRule : Addr} {bs_NoRule : List Value} {sn_NoRule : List Str} {sub_NoRule : List Value} {ab_NoRule : Bool} {col_NoRule : Option Bool} {dd_NoRule : Option Addr} {k0_NoRule k1_NoRule k2_NoRule k3_NoRule k5_NoRule : Option Value}
    (l_NoRule : K.lookup c_NoRule = some (excClassObj nm_NoRule q_NoRule c_NoRule N_NoRule bs_NoRule [.ref c_LoftError, .type "ValueError", .type "Exception", .type "BaseException", .type "object"] true sn_NoRule sub_NoRule ab_NoRule col_NoRule dd_NoRule k0_NoRule k1_NoRule k2_NoRule k3_NoRule k5_NoRule "ValueError.__new__"))
    (s_NoRule : PySem.W.findIn K (.ref c_NoRule) "__setattr__" = some (some (.builtin "object.__setattr__")))
    (e_NoRule : PySem.W.subIn K (.ref c_NoRule) (.type "BaseException") = some true)
    (t_NoRule : PySem.W.typeIn K (.ref c_NoRule) = some (.type "type"))
    (p_NoRule : PySem.W.keepIn K (.ref c_NoRule) = true)
    (i_NoRule_ : PySem.W.findIn K (.ref c_NoRule) "__init__" = some (some (.ref i_NoRule)))
    (j_NoRule : PySem.W.typeIn K (.ref i_NoRule) = some (.type "function"))
    (f_NoRule_rule : PySem.W.findIn K (.ref c_NoRule) "rule" = some none)
    {io_NoRule ik_NoRule id_NoRule ip_NoRule ic_NoRule it_NoRule : Value} {iod_NoRule ia_NoRule : Option Addr} {is_NoRule : Array (Option Value)}
    (g_NoRule : K.lookup i_NoRule = some ⟨io_NoRule, iod_NoRule, .func (PySem.W.fnOf "__init__" "NoRule.__init__" (defArgs s_ini_NoRule) (defBody s_ini_NoRule) (defScope s_ini_NoRule) .none ik_NoRule id_NoRule ip_NoRule ia_NoRule ic_NoRule it_NoRule), is_NoRule⟩)
    (h_NoRule_ : PySem.W.codeIn K ic_NoRule "NoRule.__init__" = true)
    (m_NoRule_ : PySem.W.keepIn K (.ref i_NoRule) = true)
    {nm_TooLong q_TooLong : Str} {N_TooLong i_TooLong : Addr} {bs_TooLong : List Value} {sn_TooLong : List Str} {sub_TooLong : List Value} {ab_TooLong : Bool} {col_TooLong : Option Bool} {dd_TooLong : Option Addr} {k0_TooLong k1_TooLong k2_TooLong k3_TooLong k5_TooLong : Option Value}
    (l_TooLong : K.lookup c_TooLong = some (excClassObj nm_TooLong q_TooLong c_TooLong N_TooLong bs_TooLong [.ref c_LoftError, .type "ValueError", .type "Exception", .type "BaseException", .type "object"] true sn_TooLong sub_TooLong ab_TooLong col_TooLong dd_TooLong k0_TooLong k1_TooLong k2_TooLong k3_TooLong k5_TooLong "ValueError.__new__"))
    (s_TooLong : PySem.W.findIn K (.ref c_TooLong) "__setattr__" = some (some (.builtin "object.__setattr__")))
    (e_TooLong : PySem.W.subIn K (.ref c_TooLong) (.type "BaseException") = some true)
    (t_TooLong : PySem.W.typeIn K (.ref c_TooLong) = some (.type "type"))
    (p_TooLong : PySem.W.keepIn K (.ref c_TooLong) = true)
    (i_TooLong_ : PySem.W.findIn K (.ref c_TooLong) "__init__" = some (some (.ref i_TooLong)))
    (j_TooLong : PySem.W.typeIn K (.ref i_TooLong) = some (.type "function"))
    (f_TooLong_number : PySem.W.findIn K (.ref c_TooLong) "number" = some none)
    {io_TooLong ik_TooLong id_TooLong ip_TooLong ic_TooLong it_TooLong : Value} {iod_TooLong ia_TooLong : Option Addr} {is_TooLong : Array (Option Value)}
    (g_TooLong : K.lookup i_TooLong = some ⟨io_TooLong, iod_TooLong, .func (PySem.W.fnOf "__init__" "TooLong.__init__" (defArgs s_ini_TooLong) (defBody s_ini_TooLong) (defScope s_ini_TooLong) .none ik_TooLong id_TooLong ip_TooLong ia_TooLong ic_TooLong it_TooLong), is_TooLong⟩)
    (h_TooLong_ : PySem.W.codeIn K ic_TooLong "TooLong.__init__" = true)
    (m_TooLong_ : PySem.W.keepIn K (.ref i_TooLong) = true)
    : ∃ fd : FuncData, (∀ (s : Shared) (u : Value), BindsTo s fd ⟨[u], []⟩ [("_law_script", u)]) ∧ ∀ base : Heap, K.In base → base.Ns mainGlobals mg → FnOk l.prog w K mg base (L2N.CX l.prog w) 14 fa fd ["_law_script"] (spF K mg 1 [] f_law78) := by
  have e := hfa.symm.trans (PySem.W.mg_of X G a21)
  cases e
  have B : Bn mg := ⟨PySem.W.mg_none_of X G z_len, PySem.W.mg_none_of X G z_range, PySem.W.mg_none_of X G z_abs, PySem.W.mg_none_of X G z_max, PySem.W.mg_none_of X G z_min, PySem.W.mg_none_of X G z_int, PySem.W.mg_none_of X G z_str, PySem.W.mg_none_of X G z_tuple, PySem.W.mg_none_of X G z_list, PySem.W.mg_none_of X G z_all, PySem.W.mg_none_of X G z_any, PySem.W.mg_none_of X G z_isinstance, PySem.W.mg_none_of X G z_divmod, PySem.W.mg_none_of X G z_sum, PySem.W.mg_none_of X G z_zip, PySem.W.mg_none_of X G z_enumerate, PySem.W.mg_none_of X G z_reversed, PySem.W.mg_none_of X G z_sorted, PySem.W.mg_none_of X G z_dict, PySem.W.mg_none_of X G z_set, PySem.W.mg_none_of X G z_bool⟩
  have c_RULES : Cst K mg "RULES" (.tup [(.str "cut"), (.str "up"), (.str "half"), (.str "even"), (.str "floor"), (.str "ceil")]) := cst_tup (PySem.W.mg_of X G qa_RULES) ql_RULES qe_RULES qz_RULES
  have c_MOST_FIGURES : Cst K mg "MOST_FIGURES" (.int 12) := cst_int (PySem.W.mg_of X G qa_MOST_FIGURES)
  have c_BOUND : Cst K mg "BOUND" (.int 1000000000000) := cst_int (PySem.W.mg_of X G qa_BOUND)
  have F0 := fun_mk (st := s_lmixed) l0 c0 k0
  have b0 := F0.binds (ps := ["_law_cell_here", "_law_k", "_law_salt"]) fun _ _ _ _ _ _ us hl => match us, hl with | [_, _, _], _ => rfl
  have F1 := fun_mk (st := s_ldraws) l1 c1 k1
  have b1 := F1.binds (ps := ["_law_cell_here", "_law_salt", "_law_widths"]) fun _ _ _ _ _ _ us hl => match us, hl with | [_, _, _], _ => rfl
  have F2 := fun_mk (st := s_lpower) l2 c2 k2
  have b2 := F2.binds (ps := ["_law_base", "_law_many"]) fun _ _ _ _ _ _ us hl => match us, hl with | [_, _], _ => rfl
  have F3 := fun_mk (st := s_lsome_whole) l3 c3 k3
  have b3 := F3.binds (ps := ["_law_way", "_law_far", "_law_many"]) fun _ _ _ _ _ _ us hl => match us, hl with | [_, _, _], _ => rfl
  have F4 := fun_mk (st := s_ldigits) l4 c4 k4
  have b4 := F4.binds (ps := ["_law_number", "_law_many"]) fun _ _ _ _ _ _ us hl => match us, hl with | [_, _], _ => rfl
  have F5 := fun_mk (st := s_lrounded) l5 c5 k5
  have b5 := F5.binds (ps := ["_law_number", "_law_by", "_law_rule"]) fun _ _ _ _ _ _ us hl => match us, hl with | [_, _, _], _ => rfl
  have F6 := fun_mk (st := s_lrounding) l6 c6 k6
  have b6 := F6.binds (ps := ["_law_number", "_law_by", "_law_rule"]) fun _ _ _ _ _ _ us hl => match us, hl with | [_, _, _], _ => rfl
  have F7 := fun_mk (st := s_pis_just) l7 c7 k7
  have b7 := F7.binds (ps := ["thing", "due"]) fun _ _ _ _ _ _ us hl => match us, hl with | [_, _], _ => rfl
  have F8 := fun_mk (st := s_ppower) l8 c8 k8
  have b8 := F8.binds (ps := ["base", "many"]) fun _ _ _ _ _ _ us hl => match us, hl with | [_, _], _ => rfl
  have F9 := fun_mk (st := s_pone_more) l9 c9 k9
  have b9 := F9.binds (ps := ["size", "rest", "ten", "rule", "below"]) fun _ _ _ _ _ _ us hl => match us, hl with | [_, _, _, _, _], _ => rfl
  have F10 := fun_mk (st := s_prounded) l10 c10 k10
  have b10 := F10.binds (ps := ["number", "by", "rule"]) fun _ _ _ _ _ _ us hl => match us, hl with | [_, _, _], _ => rfl
  have F11 := fun_mk (st := s_prounding) l11 c11 k11
  have b11 := F11.binds (ps := ["number", "by", "rule"]) fun _ _ _ _ _ _ us hl => match us, hl with | [_, _, _], _ => rfl
  have F12 := fun_mk (st := s_prounding_holds) l12 c12 k12
  have b12 := F12.binds (ps := ["number", "by", "rule", "paper"]) fun _ _ _ _ _ _ us hl => match us, hl with | [_, _, _, _], _ => rfl
  have F13 := fun_mk (st := s_lcell) l13 c13 k13
  have b13 := F13.binds (ps := ["_law_script", "_law_k"]) fun _ _ _ _ _ _ us hl => match us, hl with | [_, _], _ => rfl
  have F14 := fun_mk (st := s_lpart_at) l14 c14 k14
  have b14 := F14.binds (ps := ["_law_thing", "_law_path"]) fun _ _ _ _ _ _ us hl => match us, hl with | [_, _], _ => rfl
  have F15 := fun_mk (st := s_lput_in) l15 c15 k15
  have b15 := F15.binds (ps := ["_law_thing", "_law_path", "_law_part"]) fun _ _ _ _ _ _ us hl => match us, hl with | [_, _, _], _ => rfl
  have F16 := fun_mk (st := s_lpaper_cells) l16 c16 k16
  have b16 := F16.binds (ps := ["_law_thing", "_law_path"]) fun _ _ _ _ _ _ us hl => match us, hl with | [_, _], _ => rfl
  have F17 := fun_mk (st := s_lpaper_tuples) l17 c17 k17
  have b17 := F17.binds (ps := ["_law_thing", "_law_path"]) fun _ _ _ _ _ _ us hl => match us, hl with | [_, _], _ => rfl
  have F18 := fun_mk (st := s_lchanged) l18 c18 k18
  have b18 := F18.binds (ps := ["_law_part", "_law_way", "_law_number"]) fun _ _ _ _ _ _ us hl => match us, hl with | [_, _, _], _ => rfl
  have F19 := fun_mk (st := s_lpaper_spoilt) l19 c19 k19
  have b19 := F19.binds (ps := ["_law_paper", "_law_way", "_law_at", "_law_to", "_law_number", "_law_lines"]) fun _ _ _ _ _ _ us hl => match us, hl with | [_, _, _, _, _, _], _ => rfl
  have F20 := fun_mk (st := s_ljust) l20 c20 k20
  have b20 := F20.binds (ps := ["_law_found", "_law_due"]) fun _ _ _ _ _ _ us hl => match us, hl with | [_, _], _ => rfl
  have F21 := fun_mk (st := s_law78) l21 c21 k21
  have b21 := F21.binds (ps := ["_law_script"]) fun _ _ _ _ _ _ us hl => match us, hl with | [_], _ => rfl
  refine ⟨PySem.W.fnOf "law" "law" (defArgs s_law78) (defBody s_law78) (defScope s_law78) .none kV21 dc21 pm21 an21 cd21 ct21, fun s v => .of_eq rfl, fun base _ _ => ?_⟩
  have B_LoftError : Bas K mg "LoftError" := ⟨c_LoftError, PySem.W.mg_of X G n_LoftError, b1_LoftError, b2_LoftError, b3_LoftError⟩
  have FI_NoFit := fun_mk (st := s_ini_NoFit) g_NoFit h_NoFit_ m_NoFit_
  have bI_NoFit := FI_NoFit.binds (ps := ["self", "number"]) fun _ _ _ _ _ _ us hl => match us, hl with | [_, _], _ => rfl
  have FI_NoRule := fun_mk (st := s_ini_NoRule) g_NoRule h_NoRule_ m_NoRule_
  have bI_NoRule := FI_NoRule.binds (ps := ["self", "rule"]) fun _ _ _ _ _ _ us hl => match us, hl with | [_, _], _ => rfl
  have FI_TooLong := fun_mk (st := s_ini_TooLong) g_TooLong h_TooLong_ m_TooLong_
  have bI_TooLong := FI_TooLong.binds (ps := ["self", "number"]) fun _ _ _ _ _ _ us hl => match us, hl with | [_, _], _ => rfl
  have xcl1_NoRule_rule : Cl1 l.prog w K mg base "NoRule" "rule" := ⟨_, _, _, _, owX_mk (PySem.W.mg_of X G n_NoRule) l_NoRule rfl s_NoRule e_NoRule t_NoRule p_NoRule i_NoRule_ j_NoRule, f_NoRule_rule, ini_NoRule FI_NoRule B_LoftError, bI_NoRule⟩
  have xcl1_TooLong_number : Cl1 l.prog w K mg base "TooLong" "number" := ⟨_, _, _, _, owX_mk (PySem.W.mg_of X G n_TooLong) l_TooLong rfl s_TooLong e_TooLong t_TooLong p_TooLong i_TooLong_ j_TooLong, f_TooLong_number, ini_TooLong FI_TooLong B_LoftError, bI_TooLong⟩
  have xcl1_NoFit_number : Cl1 l.prog w K mg base "NoFit" "number" := ⟨_, _, _, _, owX_mk (PySem.W.mg_of X G n_NoFit) l_NoFit rfl s_NoFit e_NoFit t_NoFit p_NoFit i_NoFit_ j_NoFit, f_NoFit_number, ini_NoFit FI_NoFit B_LoftError, bI_NoFit⟩
  have h_lmixed : Fd l.prog w K mg base "_law_mixed" 2 ["_law_cell_here", "_law_k", "_law_salt"] [] f_lmixed := ⟨_, _, ok_lmixed F0 B    , PySem.W.mg_of X G a0, k0, b0⟩
  have h_ldraws : Fd l.prog w K mg base "_law_draws" 4 ["_law_cell_here", "_law_salt", "_law_widths"] [] f_ldraws := ⟨_, _, ok_ldraws F1 B h_lmixed   , PySem.W.mg_of X G a1, k1, b1⟩
  have h_lpower : Fd l.prog w K mg base "_law_power" 2 ["_law_base", "_law_many"] [] f_lpower := ⟨_, _, ok_lpower F2 B    , PySem.W.mg_of X G a2, k2, b2⟩
  have h_lsome_whole : Fd l.prog w K mg base "_law_some_whole" 4 ["_law_way", "_law_far", "_law_many"] [] f_lsome_whole := ⟨_, _, ok_lsome_whole F3 B h_lpower   , PySem.W.mg_of X G a3, k3, b3⟩
  have h_ldigits : Fd l.prog w K mg base "_law_digits" 2 ["_law_number", "_law_many"] [] f_ldigits := ⟨_, _, ok_ldigits F4 B    , PySem.W.mg_of X G a4, k4, b4⟩
  have h_lrounded : Fd l.prog w K mg base "_law_rounded" 4 ["_law_number", "_law_by", "_law_rule"] [] f_lrounded := ⟨_, _, ok_lrounded F5 B h_lpower   , PySem.W.mg_of X G a5, k5, b5⟩
  have h_lrounding : Fd l.prog w K mg base "_law_rounding" 6 ["_law_number", "_law_by", "_law_rule"] [] f_lrounding := ⟨_, _, ok_lrounding F6 B h_lpower h_ldigits h_lrounded   , PySem.W.mg_of X G a6, k6, b6⟩
  have h_pis_just : Fd l.prog w K mg base "is_just" 10 ["thing", "due"] [] f_pis_just := ⟨_, _, ok_pis_just F7 (PySem.W.mg_of X G a7) k7 b7 B     8, PySem.W.mg_of X G a7, k7, b7⟩
  have h_ppower : Fd l.prog w K mg base "power" 2 ["base", "many"] [] f_ppower := ⟨_, _, ok_ppower F8 B    , PySem.W.mg_of X G a8, k8, b8⟩
  have h_pone_more : Fd l.prog w K mg base "one_more" 2 ["size", "rest", "ten", "rule", "below"] [] f_pone_more := ⟨_, _, ok_pone_more F9 B    , PySem.W.mg_of X G a9, k9, b9⟩
  have h_prounded : Fd l.prog w K mg base "rounded" 4 ["number", "by", "rule"] [] f_prounded := ⟨_, _, ok_prounded F10 B h_ppower h_pone_more  xcl1_NoRule_rule c_RULES, PySem.W.mg_of X G a10, k10, b10⟩
  have h_prounding : Fd l.prog w K mg base "rounding" 6 ["number", "by", "rule"] [] f_prounding := ⟨_, _, ok_prounding F11 B h_prounded h_ppower  xcl1_NoRule_rule xcl1_TooLong_number xcl1_NoFit_number c_RULES c_MOST_FIGURES c_BOUND, PySem.W.mg_of X G a11, k11, b11⟩
  have h_prounding_holds : Fd l.prog w K mg base "rounding_holds" 12 ["number", "by", "rule", "paper"] [] f_prounding_holds := ⟨_, _, ok_prounding_holds F12 B h_pis_just h_prounding   , PySem.W.mg_of X G a12, k12, b12⟩
  have h_lcell : Fd l.prog w K mg base "_law_cell" 2 ["_law_script", "_law_k"] [] f_lcell := ⟨_, _, ok_lcell F13 B    , PySem.W.mg_of X G a13, k13, b13⟩
  have h_lpart_at : Fd l.prog w K mg base "_law_part_at" 2 ["_law_thing", "_law_path"] [] f_lpart_at := ⟨_, _, ok_lpart_at F14 B    , PySem.W.mg_of X G a14, k14, b14⟩
  have h_lput_in : Fd l.prog w K mg base "_law_put_in" 10 ["_law_thing", "_law_path", "_law_part"] [] f_lput_in := ⟨_, _, ok_lput_in F15 (PySem.W.mg_of X G a15) k15 b15 B     8, PySem.W.mg_of X G a15, k15, b15⟩
  have h_lpaper_cells : Fd l.prog w K mg base "_law_paper_cells" 10 ["_law_thing", "_law_path"] [] f_lpaper_cells := ⟨_, _, ok_lpaper_cells F16 (PySem.W.mg_of X G a16) k16 b16 B     8, PySem.W.mg_of X G a16, k16, b16⟩
  have h_lpaper_tuples : Fd l.prog w K mg base "_law_paper_tuples" 10 ["_law_thing", "_law_path"] [] f_lpaper_tuples := ⟨_, _, ok_lpaper_tuples F17 (PySem.W.mg_of X G a17) k17 b17 B     8, PySem.W.mg_of X G a17, k17, b17⟩
  have h_lchanged : Fd l.prog w K mg base "_law_changed" 2 ["_law_part", "_law_way", "_law_number"] [] f_lchanged := ⟨_, _, ok_lchanged F18 B    , PySem.W.mg_of X G a18, k18, b18⟩
  have h_lpaper_spoilt : Fd l.prog w K mg base "_law_paper_spoilt" 12 ["_law_paper", "_law_way", "_law_at", "_law_to", "_law_number", "_law_lines"] [] f_lpaper_spoilt := ⟨_, _, ok_lpaper_spoilt F19 B h_lpaper_cells h_lput_in h_lchanged h_lpart_at h_lpaper_tuples   , PySem.W.mg_of X G a19, k19, b19⟩
  have h_ljust : Fd l.prog w K mg base "_law_just" 10 ["_law_found", "_law_due"] [] f_ljust := ⟨_, _, ok_ljust F20 (PySem.W.mg_of X G a20) k20 b20 B     8, PySem.W.mg_of X G a20, k20, b20⟩
  exact ok_law78 F21 B h_ldraws h_lcell h_lsome_whole h_lpower h_lrounding h_lpaper_spoilt h_prounding_holds h_ljust   
end Tm
open PySem PySem.W PyProof.Rows in
set_option maxRecDepth 100000 in
set_option maxHeartbeats 0 in
theorem PySem.Challenge.cw_tensloft_k82_rounding_looked_at_holds : PySem.Challenge.rw_tensloft_k82_rounding_looked_at.Holds := by
  w_on; o_law; k_head; (case hw => w_witness2)
  k_fill
  refine Tm.walk_law (l := PySem.Challenge.rw_tensloft_k82_rounding_looked_at) (f := Tm.f_law78) (x := "_law_script") (k := 14) rfl rfl ⟨rfl, by decide, by decide⟩ (fun w h Y => PySem.W.kIn_of Y) Tm.law_true ?F
  case F =>
    intro w mg fa h KX G hmg
    refine' Tm.all_mk KX G hmg ?a0 ?l0 ?c0 ?k0 ?a1 ?l1 ?c1 ?k1 ?a2 ?l2 ?c2 ?k2 ?a3 ?l3 ?c3 ?k3 ?a4 ?l4 ?c4 ?k4 ?a5 ?l5 ?c5 ?k5 ?a6 ?l6 ?c6 ?k6 ?a7 ?l7 ?c7 ?k7 ?a8 ?l8 ?c8 ?k8 ?a9 ?l9 ?c9 ?k9 ?a10 ?l10 ?c10 ?k10 ?a11 ?l11 ?c11 ?k11 ?a12 ?l12 ?c12 ?k12 ?a13 ?l13 ?c13 ?k13 ?a14 ?l14 ?c14 ?k14 ?a15 ?l15 ?c15 ?k15 ?a16 ?l16 ?c16 ?k16 ?a17 ?l17 ?c17 ?k17 ?a18 ?l18 ?c18 ?k18 ?a19 ?l19 ?c19 ?k19 ?a20 ?l20 ?c20 ?k20 ?a21 ?l21 ?c21 ?k21 ?z_len ?z_range ?z_abs ?z_max ?z_min ?z_int ?z_str ?z_tuple ?z_list ?z_all ?z_any ?z_isinstance ?z_divmod ?z_sum ?z_zip ?z_enumerate ?z_reversed ?z_sorted ?z_dict ?z_set ?z_bool ?qa_RULES ?ql_RULES ?qe_RULES ?qz_RULES ?qa_MOST_FIGURES ?qa_BOUND ?n_LoftError ?n_NoFit ?n_NoRule ?n_TooLong ?b1_LoftError ?b2_LoftError ?b3_LoftError ?l_NoFit ?s_NoFit ?e_NoFit ?t_NoFit ?p_NoFit ?i_NoFit_ ?j_NoFit ?f_NoFit_number ?g_NoFit ?h_NoFit_ ?m_NoFit_ ?l_NoRule ?s_NoRule ?e_NoRule ?t_NoRule ?p_NoRule ?i_NoRule_ ?j_NoRule ?f_NoRule_rule ?g_NoRule ?h_NoRule_ ?m_NoRule_ ?l_TooLong ?s_TooLong ?e_TooLong ?t_TooLong ?p_TooLong ?i_TooLong_ ?j_TooLong ?f_TooLong_number ?g_TooLong ?h_TooLong_ ?m_TooLong_
    (case a0 => k_is)
    (case l0 => k_is)
    (case c0 => k_is)
    (case k0 => k_is)
    (case a1 => k_is)
    (case l1 => k_is)
    (case c1 => k_is)
    (case k1 => k_is)
    (case a2 => k_is)
    (case l2 => k_is)
    (case c2 => k_is)
    (case k2 => k_is)
    (case a3 => k_is)
    (case l3 => k_is)
    (case c3 => k_is)
    (case k3 => k_is)
    (case a4 => k_is)
    (case l4 => k_is)
    (case c4 => k_is)
    (case k4 => k_is)
    (case a5 => k_is)
    (case l5 => k_is)
    (case c5 => k_is)
    (case k5 => k_is)
    (case a6 => k_is)
    (case l6 => k_is)
    (case c6 => k_is)
    (case k6 => k_is)
    (case a7 => k_is)
    (case l7 => k_is)
    (case c7 => k_is)
    (case k7 => k_is)
    (case a8 => k_is)
    (case l8 => k_is)
    (case c8 => k_is)
    (case k8 => k_is)
    (case a9 => k_is)
    (case l9 => k_is)
    (case c9 => k_is)
    (case k9 => k_is)
    (case a10 => k_is)
    (case l10 => k_is)
    (case c10 => k_is)
    (case k10 => k_is)
    (case a11 => k_is)
    (case l11 => k_is)
    (case c11 => k_is)
    (case k11 => k_is)
    (case a12 => k_is)
    (case l12 => k_is)
    (case c12 => k_is)
    (case k12 => k_is)
    (case a13 => k_is)
    (case l13 => k_is)
    (case c13 => k_is)
    (case k13 => k_is)
    (case a14 => k_is)
    (case l14 => k_is)
    (case c14 => k_is)
    (case k14 => k_is)
    (case a15 => k_is)
    (case l15 => k_is)
    (case c15 => k_is)
    (case k15 => k_is)
    (case a16 => k_is)
    (case l16 => k_is)
    (case c16 => k_is)
    (case k16 => k_is)
    (case a17 => k_is)
    (case l17 => k_is)
    (case c17 => k_is)
    (case k17 => k_is)
    (case a18 => k_is)
    (case l18 => k_is)
    (case c18 => k_is)
    (case k18 => k_is)
    (case a19 => k_is)
    (case l19 => k_is)
    (case c19 => k_is)
    (case k19 => k_is)
    (case a20 => k_is)
    (case l20 => k_is)
    (case c20 => k_is)
    (case k20 => k_is)
    (case a21 => k_is)
    (case l21 => k_is)
    (case c21 => k_is)
    (case k21 => k_is)
    (case z_len => k_is)
    (case z_range => k_is)
    (case z_abs => k_is)
    (case z_max => k_is)
    (case z_min => k_is)
    (case z_int => k_is)
    (case z_str => k_is)
    (case z_tuple => k_is)
    (case z_list => k_is)
    (case z_all => k_is)
    (case z_any => k_is)
    (case z_isinstance => k_is)
    (case z_divmod => k_is)
    (case z_sum => k_is)
    (case z_zip => k_is)
    (case z_enumerate => k_is)
    (case z_reversed => k_is)
    (case z_sorted => k_is)
    (case z_dict => k_is)
    (case z_set => k_is)
    (case z_bool => k_is)
    (case qa_RULES => k_is)
    (case ql_RULES => k_is)
    (case qa_MOST_FIGURES => k_is)
    (case qa_BOUND => k_is)
    (case n_LoftError => k_is)
    (case n_NoFit => k_is)
    (case n_NoRule => k_is)
    (case n_TooLong => k_is)
    (case b1_LoftError => k_is)
    (case b2_LoftError => k_is)
    (case b3_LoftError => k_is)
    (case l_NoFit => k_is)
    (case s_NoFit => k_is)
    (case e_NoFit => k_is)
    (case t_NoFit => k_is)
    (case p_NoFit => k_is)
    (case i_NoFit_ => k_is)
    (case j_NoFit => k_is)
    (case f_NoFit_number => k_is)
    (case g_NoFit => k_is)
    (case h_NoFit_ => k_is)
    (case m_NoFit_ => k_is)
    (case l_NoRule => k_is)
    (case s_NoRule => k_is)
    (case e_NoRule => k_is)
    (case t_NoRule => k_is)
    (case p_NoRule => k_is)
    (case i_NoRule_ => k_is)
    (case j_NoRule => k_is)
    (case f_NoRule_rule => k_is)
    (case g_NoRule => k_is)
    (case h_NoRule_ => k_is)
    (case m_NoRule_ => k_is)
    (case l_TooLong => k_is)
    (case s_TooLong => k_is)
    (case e_TooLong => k_is)
    (case t_TooLong => k_is)
    (case p_TooLong => k_is)
    (case i_TooLong_ => k_is)
    (case j_TooLong => k_is)
    (case f_TooLong_number => k_is)
    (case g_TooLong => k_is)
    (case h_TooLong_ => k_is)
    (case m_TooLong_ => k_is)
    (case qe_RULES => decide +kernel)
    (case qz_RULES => decide +kernel)
